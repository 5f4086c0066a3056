import PyProof.Rows.All
import Wide.All
import OpenK.AllK
import Wide.FinOn
import HandS.ForExc
import HandS.ForMost
import HandS.CallSlots
import HandS.ExcOwn
import HandS.IsInst
import HandS.Star
import HandS.Style
import HandS.Words
import HandS.EndBits
import HandS.ExcInit
import HandS.TupAny
import HandS.Flow
import HandS.Iter
import HandS.Text
import HandS.Comp
import PyProof.RulesMatch
import PyProof.ReprRoads
import PyProof.CallFns
import KE.KExcInit
import HandS.ExcField
import KE.KExcIs
import PySem.Challenge.RW_releaseweb_k01_error_classes
set_option Elab.async false
set_option linter.all false
set_option maxRecDepth 100000
set_option maxHeartbeats 4000000
/-! Z, part A: deep data, the store, how both stand in the abstract heap. -/
namespace Z
open PySem PySem.Spec PyProof.Rows L2

/-- data that never changes -/
inductive P where
  | non | bl (b : Bool) | int (i : Int) | str (x : Str) | tup (xs : List P)
/-- a value: data, a place of the store, a tuple with places in it, a list that nobody writes -/
inductive D where
  | p (x : P) | ref (k : Nat) | tup (ds : List D) | kl (xs : List P)
/-- what an expression gives: a value, or a list that nobody else holds -/
inductive T where
  | d (x : D) | l (ds : List D)
mutual
def P.dec : (x y : P) → Decidable (x = y)
  | .non, .non => Decidable.isTrue rfl
  | .non, .bl _ => Decidable.isFalse (by intro h; cases h)
  | .non, .int _ => Decidable.isFalse (by intro h; cases h)
  | .non, .str _ => Decidable.isFalse (by intro h; cases h)
  | .non, .tup _ => Decidable.isFalse (by intro h; cases h)
  | .bl _, .non => Decidable.isFalse (by intro h; cases h)
  | .bl a, .bl b => if h : a = b then Decidable.isTrue (by rw [h]) else Decidable.isFalse (by intro e; injection e; contradiction)
  | .bl _, .int _ => Decidable.isFalse (by intro h; cases h)
  | .bl _, .str _ => Decidable.isFalse (by intro h; cases h)
  | .bl _, .tup _ => Decidable.isFalse (by intro h; cases h)
  | .int _, .non => Decidable.isFalse (by intro h; cases h)
  | .int _, .bl _ => Decidable.isFalse (by intro h; cases h)
  | .int a, .int b => if h : a = b then Decidable.isTrue (by rw [h]) else Decidable.isFalse (by intro e; injection e; contradiction)
  | .int _, .str _ => Decidable.isFalse (by intro h; cases h)
  | .int _, .tup _ => Decidable.isFalse (by intro h; cases h)
  | .str _, .non => Decidable.isFalse (by intro h; cases h)
  | .str _, .bl _ => Decidable.isFalse (by intro h; cases h)
  | .str _, .int _ => Decidable.isFalse (by intro h; cases h)
  | .str a, .str b => if h : a = b then Decidable.isTrue (by rw [h]) else Decidable.isFalse (by intro e; injection e; contradiction)
  | .str _, .tup _ => Decidable.isFalse (by intro h; cases h)
  | .tup _, .non => Decidable.isFalse (by intro h; cases h)
  | .tup _, .bl _ => Decidable.isFalse (by intro h; cases h)
  | .tup _, .int _ => Decidable.isFalse (by intro h; cases h)
  | .tup _, .str _ => Decidable.isFalse (by intro h; cases h)
  | .tup a, .tup b => match P.decs a b with
    | Decidable.isTrue h => Decidable.isTrue (by rw [h])
    | Decidable.isFalse h => Decidable.isFalse (by intro e; injection e; contradiction)
def P.decs : (x y : List P) → Decidable (x = y)
  | [], [] => Decidable.isTrue rfl
  | [], _ :: _ => Decidable.isFalse (by intro h; cases h)
  | _ :: _, [] => Decidable.isFalse (by intro h; cases h)
  | a :: x, b :: y => match P.dec a b, P.decs x y with
    | Decidable.isTrue h, Decidable.isTrue h' => Decidable.isTrue (by rw [h, h'])
    | Decidable.isFalse h, _ => Decidable.isFalse (by intro e; injection e; contradiction)
    | _, Decidable.isFalse h => Decidable.isFalse (by intro e; injection e; contradiction)
end
instance : DecidableEq P := P.dec
mutual
def D.dec : (x y : D) → Decidable (x = y)
  | .p a, .p b => if h : a = b then Decidable.isTrue (by rw [h]) else Decidable.isFalse (by intro e; injection e; contradiction)
  | .p _, .ref _ => Decidable.isFalse (by intro h; cases h)
  | .p _, .tup _ => Decidable.isFalse (by intro h; cases h)
  | .ref _, .p _ => Decidable.isFalse (by intro h; cases h)
  | .ref a, .ref b => if h : a = b then Decidable.isTrue (by rw [h]) else Decidable.isFalse (by intro e; injection e; contradiction)
  | .ref _, .tup _ => Decidable.isFalse (by intro h; cases h)
  | .tup _, .p _ => Decidable.isFalse (by intro h; cases h)
  | .tup _, .ref _ => Decidable.isFalse (by intro h; cases h)
  | .p _, .kl _ => Decidable.isFalse (by intro h; cases h)
  | .ref _, .kl _ => Decidable.isFalse (by intro h; cases h)
  | .tup _, .kl _ => Decidable.isFalse (by intro h; cases h)
  | .kl _, .p _ => Decidable.isFalse (by intro h; cases h)
  | .kl _, .ref _ => Decidable.isFalse (by intro h; cases h)
  | .kl _, .tup _ => Decidable.isFalse (by intro h; cases h)
  | .kl a, .kl b => if h : a = b then Decidable.isTrue (by rw [h]) else Decidable.isFalse (by intro e; injection e; contradiction)
  | .tup a, .tup b => match D.decs a b with
    | Decidable.isTrue h => Decidable.isTrue (by rw [h])
    | Decidable.isFalse h => Decidable.isFalse (by intro e; injection e; contradiction)
def D.decs : (x y : List D) → Decidable (x = y)
  | [], [] => Decidable.isTrue rfl
  | [], _ :: _ => Decidable.isFalse (by intro h; cases h)
  | _ :: _, [] => Decidable.isFalse (by intro h; cases h)
  | a :: x, b :: y => match D.dec a b, D.decs x y with
    | Decidable.isTrue h, Decidable.isTrue h' => Decidable.isTrue (by rw [h, h'])
    | Decidable.isFalse h, _ => Decidable.isFalse (by intro e; injection e; contradiction)
    | _, Decidable.isFalse h => Decidable.isFalse (by intro e; injection e; contradiction)
end
instance : DecidableEq D := D.dec
/-- an object of the store -/
inductive O where
  | lst (ds : List D)
  | ins (C : Nat) (fs : List (Str × D))
  | exc (C : Nat) (fs : List (Str × D))
  deriving DecidableEq
abbrev Store := List O
abbrev Rho := List (Option D)

/-- the end of a computation: a value, an own exception (class, fields), or nothing told -/
inductive R (α : Type) where
  | ok (a : α) (st : Store)
  | exn (C : Nat) (fs : List (Str × D)) (st : Store)
  | bad

/-! ### how data stand in a heap -/
/-- a list that nobody writes: of the module, or locked -/
def SqK (K : PySem.W.Frag) (H : Hp) (a : Addr) (xs : List V) : Prop :=
  (∃ o, H a = some (.frz o (.lst xs))) ∨
    ∃ (o : Obj) (its : Array Value) (n : Nat), K.lookup a = some o ∧ o.cls = .type "list" ∧ o.dict = none ∧ o.data = .seq its n ∧ its.size ≤ sizeLine ∧ Vals xs its.toList
theorem SqK.sq {K : PySem.W.Frag} {H : Hp} {a : Addr} {xs : List V} (h : SqK K H a xs) : SqL K H a xs := by
  rcases h with h | h
  · exact .inl (.inr h)
  · exact .inr h
section
variable (K : PySem.W.Frag)
mutual
/-- data at a value -/
def RP (H : Hp) : P → V → Prop
  | .non, v => v = .non
  | .bl b, v => v = .bl b
  | .int i, v => v = .int i
  | .str x, v => v = .str x
  | .tup xs, v => ∃ a vs, v = .ref a ∧ SqT K H a vs ∧ RPs H xs vs
def RPs (H : Hp) : List P → List V → Prop
  | [], vs => vs = []
  | x :: xs, vs => ∃ v r, vs = v :: r ∧ RP H x v ∧ RPs H xs r
end
mutual
def RD (as : List Addr) (H : Hp) : D → V → Prop
  | .p x, v => RP K H x v
  | .ref k, v => ∃ a, as[k]? = some a ∧ v = .ref a
  | .tup ds, v => ∃ a vs, v = .ref a ∧ SqT K H a vs ∧ RDs as H ds vs
  | .kl xs, v => ∃ a vs, v = .ref a ∧ SqK K H a vs ∧ RPs K H xs vs
def RDs (as : List Addr) (H : Hp) : List D → List V → Prop
  | [], vs => vs = []
  | x :: xs, vs => ∃ v r, vs = v :: r ∧ RD as H x v ∧ RDs as H xs r
end
def RFs (as : List Addr) (H : Hp) (fs : List (Str × D)) (us : List (Str × V)) : Prop := us.map (·.1) = fs.map (·.1) ∧ RDs K as H (fs.map (·.2)) (us.map (·.2))
/-- an object of the store at an address -/
def RO (CA : Nat → Addr) (as : List Addr) (H : Hp) (a : Addr) : O → Prop
  | .lst ds => ∃ vs, H a = some (.lst vs) ∧ RDs K as H ds vs
  | .ins C fs => ∃ dx us, H a = some (.ins (CA C) dx us) ∧ RFs K as H fs us
  | .exc C fs => ∃ dx us, H a = some (exo a (CA C) (some dx)) ∧ H dx = some (exd dx us) ∧ RFs K as H fs us
/-- the store stands in the heap: its k-th object at as[k] -/
structure Sim (CA : Nat → Addr) (as : List Addr) (st : Store) (H : Hp) : Prop where
  len : as.length = st.length
  nd : as.Nodup
  obj : ∀ (k : Nat) (a : Addr) (o : O), as[k]? = some a → st[k]? = some o → RO K CA as H a o
def RE (as : List Addr) (H : Hp) (ρ : Rho) (σ : L2.St) : Prop :=
  ρ.length = σ.length ∧ ∀ (i : Nat) (d : D), ρ[i]? = some (some d) → ∃ v, σ[i]? = some (some v) ∧ RD K as H d v
/-- a result at a value; a fresh list at none of the store's addresses -/
def RT (as : List Addr) (H : Hp) : T → V → Prop
  | .d x, v => RD K as H x v
  | .l ds, v => ∃ a vs, v = .ref a ∧ H a = some (.lst vs) ∧ RDs K as H ds vs ∧ a ∉ as
def RTs (as : List Addr) (H : Hp) : List T → List V → Prop
  | [], vs => vs = []
  | x :: xs, vs => ∃ v r, vs = v :: r ∧ RT K as H x v ∧ RTs as H xs r
end

/-- what a computation leaves: new places at free addresses, all that stood at no place of the store is kept -/
structure Post (as : List Addr) (H : Hp) (as' : List Addr) (H' : Hp) : Prop where
  ext : ∃ bs, as' = as ++ bs ∧ ∀ b ∈ bs, H b = none
  keep : ∀ b o, H b = some o → b ∉ as → H' b = some o
  tup : ∀ b xs, H b = some (.tup xs) → H' b = some (.tup xs)
  frz : ∀ b o u, H b = some (.frz o u) → H' b = some (.frz o u)
  ext' : ∀ b f, H b = some (.ext f) → H' b = some (.ext f)
  dom : ∀ b, H' b = none → H b = none
/-- where a result is new -/
def FreshT (H : Hp) : T → V → Prop
  | .d _, _ => True
  | .l _, v => ∀ a, v = .ref a → H a = none

section
variable {K : PySem.W.Frag} {CA : Nat → Addr} {as as' as'' : List Addr} {H H' H'' : Hp} {st st' : Store} {ρ : Rho} {σ : L2.St}
theorem Post.refl : Post as H as H := ⟨⟨[], by simp, fun _ h => by cases h⟩, fun _ _ h _ => h, fun _ _ h => h, fun _ _ _ h => h, fun _ _ h => h, fun _ h => h⟩
theorem Post.sub (p : Post as H as' H') {k : Nat} {a : Addr} (h : as[k]? = some a) : as'[k]? = some a := by
  obtain ⟨bs, e, _⟩ := p.ext
  rw [e, List.getElem?_append_left (List.getElem?_eq_some_iff.mp h).1]
  exact h
theorem Post.trans (p : Post as H as' H') (q : Post as' H' as'' H'') : Post as H as'' H'' := by
  obtain ⟨bs, e, n⟩ := p.ext
  obtain ⟨cs, e', n'⟩ := q.ext
  refine ⟨⟨bs ++ cs, by rw [e', e, List.append_assoc], fun b hb => ?_⟩, fun b o h hb => ?_, fun b xs h => q.tup b xs (p.tup b xs h), fun b o u h => q.frz b o u (p.frz b o u h), fun b f h => q.ext' b f (p.ext' b f h), fun b h => p.dom b (q.dom b h)⟩
  · rcases List.mem_append.mp hb with hb | hb
    · exact n b hb
    · exact p.dom b (n' b hb)
  · refine q.keep b o (p.keep b o h hb) fun hm => ?_
    rw [e] at hm
    rcases List.mem_append.mp hm with hm | hm
    · exact hb hm
    · have := n b hm
      rw [h] at this; cases this
/-! ### more places, a grown heap: what stood, stands -/
theorem SqT.up {a : Addr} {xs : List V} (t : ∀ b xs, H b = some (.tup xs) → H' b = some (.tup xs)) (f : ∀ b o u, H b = some (.frz o u) → H' b = some (.frz o u)) (h : SqT K H a xs) : SqT K H' a xs := by
  rcases h with (h | ⟨o, h⟩) | h
  · exact .inl (.inl (t _ _ h))
  · exact .inl (.inr ⟨o, f _ _ _ h⟩)
  · exact .inr h
theorem SqK.up {a : Addr} {xs : List V} (f : ∀ b o u, H b = some (.frz o u) → H' b = some (.frz o u)) (h : SqK K H a xs) : SqK K H' a xs := by
  rcases h with ⟨o, h⟩ | h
  · exact .inl ⟨o, f _ _ _ h⟩
  · exact .inr h
structure Up (H H' : Hp) : Prop where
  tup : ∀ b xs, H b = some (.tup xs) → H' b = some (.tup xs)
  frz : ∀ b o u, H b = some (.frz o u) → H' b = some (.frz o u)
  ext : ∀ b f, H b = some (.ext f) → H' b = some (.ext f)
theorem Post.up (p : Post as H as' H') : Up H H' := ⟨p.tup, p.frz, p.ext'⟩
theorem Up.refl : Up H H := ⟨fun _ _ h => h, fun _ _ _ h => h, fun _ _ h => h⟩
theorem Up.trans (p : Up H H') (q : Up H' H'') : Up H H'' := ⟨fun b xs h => q.tup b xs (p.tup b xs h), fun b o u h => q.frz b o u (p.frz b o u h), fun b f h => q.ext b f (p.ext b f h)⟩
mutual
theorem RP.up (u : Up H H') : ∀ {x : P} {v : V}, RP K H x v → RP K H' x v
  | .non, _, h => h
  | .bl _, _, h => h
  | .int _, _, h => h
  | .str _, _, h => h
  | .tup xs, v, h => by
    unfold RP at h ⊢
    obtain ⟨a, vs, e, q, r⟩ := h
    exact ⟨a, vs, e, SqT.up u.tup u.frz q, RPs.up u r⟩
theorem RPs.up (u : Up H H') : ∀ {xs : List P} {vs : List V}, RPs K H xs vs → RPs K H' xs vs
  | [], _, h => by unfold RPs at h ⊢; exact h
  | x :: xs, vs, h => by
    unfold RPs at h ⊢
    obtain ⟨v, r, e, h1, h2⟩ := h
    exact ⟨v, r, e, RP.up u h1, RPs.up u h2⟩
end
mutual
theorem RD.up (u : Up H H') (s : ∀ (k : Nat) (a : Addr), as[k]? = some a → as'[k]? = some a) : ∀ {x : D} {v : V}, RD K as H x v → RD K as' H' x v
  | .p x, v, h => by unfold RD at h ⊢; exact RP.up u h
  | .ref k, v, h => by
    unfold RD at h ⊢
    obtain ⟨a, e, q⟩ := h
    exact ⟨a, s k a e, q⟩
  | .tup ds, v, h => by
    unfold RD at h ⊢
    obtain ⟨a, vs, e, q, r⟩ := h
    exact ⟨a, vs, e, SqT.up u.tup u.frz q, RDs.up u s r⟩
  | .kl xs, v, h => by
    unfold RD at h ⊢
    obtain ⟨a, vs, e, q, r⟩ := h
    exact ⟨a, vs, e, SqK.up u.frz q, RPs.up u r⟩
theorem RDs.up (u : Up H H') (s : ∀ (k : Nat) (a : Addr), as[k]? = some a → as'[k]? = some a) : ∀ {xs : List D} {vs : List V}, RDs K as H xs vs → RDs K as' H' xs vs
  | [], _, h => by unfold RDs at h ⊢; exact h
  | x :: xs, vs, h => by
    unfold RDs at h ⊢
    obtain ⟨v, r, e, h1, h2⟩ := h
    exact ⟨v, r, e, RD.up u s h1, RDs.up u s h2⟩
end
theorem RE.up (u : Up H H') (s : ∀ (k : Nat) (a : Addr), as[k]? = some a → as'[k]? = some a) (h : RE K as H ρ σ) : RE K as' H' ρ σ :=
  ⟨h.1, fun i d e => let ⟨v, e1, r⟩ := h.2 i d e; ⟨v, e1, RD.up u s r⟩⟩
theorem RDs.len : ∀ {xs : List D} {vs : List V}, RDs K as H xs vs → vs.length = xs.length
  | [], _, h => by unfold RDs at h; rw [h]; rfl
  | x :: xs, vs, h => by
    unfold RDs at h
    obtain ⟨v, r, e, _, h2⟩ := h
    rw [e, List.length_cons, List.length_cons, RDs.len h2]
theorem RPs.len : ∀ {xs : List P} {vs : List V}, RPs K H xs vs → vs.length = xs.length
  | [], _, h => by unfold RPs at h; rw [h]; rfl
  | x :: xs, vs, h => by
    unfold RPs at h
    obtain ⟨v, r, e, _, h2⟩ := h
    rw [e, List.length_cons, List.length_cons, RPs.len h2]
theorem RDs.get : ∀ {xs : List D} {vs : List V} {i : Nat} {x : D}, RDs K as H xs vs → xs[i]? = some x → ∃ v, vs[i]? = some v ∧ RD K as H x v
  | [], _, _, _, _, e => by simp at e
  | y :: xs, vs, 0, x, h, e => by
    unfold RDs at h
    obtain ⟨v, r, e', h1, _⟩ := h
    simp at e; subst e
    exact ⟨v, by rw [e']; rfl, h1⟩
  | y :: xs, vs, i + 1, x, h, e => by
    unfold RDs at h
    obtain ⟨v, r, e', _, h2⟩ := h
    obtain ⟨w, q1, q2⟩ := RDs.get (i := i) (x := x) h2 (by simpa using e)
    exact ⟨w, by rw [e']; simpa using q1, q2⟩
theorem RDs.cons {x : D} {xs : List D} {v : V} {vs : List V} (h : RD K as H x v) (t : RDs K as H xs vs) : RDs K as H (x :: xs) (v :: vs) := by
  unfold RDs; exact ⟨v, vs, rfl, h, t⟩
theorem RDs.nil : RDs K as H [] [] := by unfold RDs; rfl
theorem RDs.app : ∀ {xs ys : List D} {vs ws : List V}, RDs K as H xs vs → RDs K as H ys ws → RDs K as H (xs ++ ys) (vs ++ ws)
  | [], _, vs, _, h, t => by unfold RDs at h; rw [h]; exact t
  | x :: xs, ys, vs, ws, h, t => by
    unfold RDs at h
    obtain ⟨v, r, e, h1, h2⟩ := h
    rw [e]
    exact RDs.cons h1 (RDs.app h2 t)
theorem RDs.take : ∀ {xs : List D} {vs : List V} (n : Nat), RDs K as H xs vs → RDs K as H (xs.take n) (vs.take n)
  | _, _, 0, _ => by rw [List.take_zero, List.take_zero]; exact RDs.nil
  | [], vs, n + 1, h => by unfold RDs at h; rw [h]; exact RDs.nil
  | x :: xs, vs, n + 1, h => by
    unfold RDs at h
    obtain ⟨v, r, e, h1, h2⟩ := h
    rw [e]
    exact RDs.cons h1 (RDs.take n h2)
theorem RDs.drop : ∀ {xs : List D} {vs : List V} (n : Nat), RDs K as H xs vs → RDs K as H (xs.drop n) (vs.drop n)
  | _, _, 0, h => by simpa using h
  | [], vs, n + 1, h => by unfold RDs at h; rw [h]; exact RDs.nil
  | x :: xs, vs, n + 1, h => by
    unfold RDs at h
    obtain ⟨v, r, e, h1, h2⟩ := h
    rw [e]
    exact RDs.drop n h2
theorem RDs.set {x : D} {v : V} (q : RD K as H x v) : ∀ {xs : List D} {vs : List V} (i : Nat), RDs K as H xs vs → RDs K as H (xs.set i x) (vs.set i v)
  | [], vs, _, h => by unfold RDs at h; rw [h]; exact RDs.nil
  | y :: xs, vs, 0, h => by
    unfold RDs at h
    obtain ⟨w, r, e, h1, h2⟩ := h
    rw [e]
    exact RDs.cons q h2
  | y :: xs, vs, i + 1, h => by
    unfold RDs at h
    obtain ⟨w, r, e, h1, h2⟩ := h
    rw [e]
    exact RDs.cons h1 (RDs.set q i h2)
theorem RDs.erase : ∀ {xs : List D} {vs : List V} (i : Nat), RDs K as H xs vs → RDs K as H (xs.eraseIdx i) (vs.eraseIdx i)
  | [], vs, _, h => by unfold RDs at h; rw [h]; exact RDs.nil
  | y :: xs, vs, 0, h => by
    unfold RDs at h
    obtain ⟨w, r, e, h1, h2⟩ := h
    rw [e]
    exact h2
  | y :: xs, vs, i + 1, h => by
    unfold RDs at h
    obtain ⟨w, r, e, h1, h2⟩ := h
    rw [e]
    exact RDs.cons h1 (RDs.erase i h2)
theorem RDs.rev : ∀ {xs : List D} {vs : List V}, RDs K as H xs vs → RDs K as H xs.reverse vs.reverse
  | [], vs, h => by unfold RDs at h; rw [h]; exact RDs.nil
  | x :: xs, vs, h => by
    unfold RDs at h
    obtain ⟨v, r, e, h1, h2⟩ := h
    rw [e, List.reverse_cons, List.reverse_cons]
    exact RDs.app (RDs.rev h2) (RDs.cons h1 RDs.nil)
theorem RDs.ofP : ∀ {xs : List P} {vs : List V}, RPs K H xs vs → RDs K as H (xs.map D.p) vs
  | [], vs, h => by unfold RPs at h; rw [h]; exact RDs.nil
  | x :: xs, vs, h => by
    unfold RPs at h
    obtain ⟨v, r, e, h1, h2⟩ := h
    rw [e]
    exact RDs.cons (by unfold RD; exact h1) (RDs.ofP h2)
theorem RDs.toP : ∀ {xs : List P} {vs : List V}, RDs K as H (xs.map D.p) vs → RPs K H xs vs
  | [], vs, h => by
    have h : RDs K as H [] vs := h
    unfold RDs at h; unfold RPs; exact h
  | x :: xs, vs, h => by
    have h : RDs K as H (D.p x :: xs.map D.p) vs := h
    unfold RDs at h
    obtain ⟨v, r, e, h1, h2⟩ := h
    unfold RPs
    unfold RD at h1
    exact ⟨v, r, e, h1, RDs.toP h2⟩
theorem RDs.rep {x : D} {v : V} (h : RD K as H x v) : ∀ n, RDs K as H (List.replicate n x) (List.replicate n v)
  | 0 => RDs.nil
  | n + 1 => RDs.cons h (RDs.rep h n)
theorem RDs.flatRep {xs : List D} {vs : List V} (h : RDs K as H xs vs) : ∀ n, RDs K as H (List.replicate n xs).flatten (List.replicate n vs).flatten
  | 0 => RDs.nil
  | n + 1 => by
    rw [List.replicate_succ, List.replicate_succ, List.flatten_cons, List.flatten_cons]
    exact RDs.app h (RDs.flatRep h n)
theorem RFs.up {fs : List (Str × D)} {us : List (Str × V)} (u : Up H H') (s : ∀ (k : Nat) (a : Addr), as[k]? = some a → as'[k]? = some a) (h : RFs K as H fs us) : RFs K as' H' fs us := ⟨h.1, RDs.up u s h.2⟩
theorem RO.up {a : Addr} {o : O} (u : Up H H') (s : ∀ (k : Nat) (a : Addr), as[k]? = some a → as'[k]? = some a) (e : H' a = H a) (h : RO K CA as H a o) : RO K CA as' H' a o := by
  cases o with
  | lst ds => obtain ⟨vs, h1, h2⟩ := h; exact ⟨vs, e.trans h1, RDs.up u s h2⟩
  | ins C fs => obtain ⟨dx, us, h1, h2⟩ := h; exact ⟨dx, us, e.trans h1, RFs.up u s h2⟩
  | exc C fs => obtain ⟨dx, us, h1, h3, h2⟩ := h; exact ⟨dx, us, e.trans h1, u.ext _ _ h3, RFs.up u s h2⟩
/-- at a place of the store no tuple stands, nothing is locked -/
theorem RO.some {a : Addr} {o : O} (h : RO K CA as H a o) : ∃ u, H a = some u ∧ (∀ xs, u ≠ .tup xs) ∧ ∀ o x, u ≠ .frz o x := by
  cases o with
  | lst ds => obtain ⟨vs, h1, h2⟩ := h; exact ⟨_, h1, (by intro xs h; cases h), (by intro o x h; cases h)⟩
  | ins C fs => obtain ⟨dx, us, h1, h2⟩ := h; exact ⟨_, h1, (by intro xs h; cases h), (by intro o x h; cases h)⟩
  | exc C fs => obtain ⟨dx, us, h1, h2⟩ := h; exact ⟨_, h1, (by intro xs h; cases h), (by intro o x h; cases h)⟩
theorem Sim.at (S : Sim K CA as st H) {k : Nat} {o : O} (h : st[k]? = some o) : ∃ a, as[k]? = some a ∧ RO K CA as H a o := by
  have hk : k < as.length := by rw [S.len]; exact (List.getElem?_eq_some_iff.mp h).1
  refine ⟨as[k], by simp [hk], S.obj k _ o (by simp [hk]) h⟩
theorem Sim.there (S : Sim K CA as st H) {a : Addr} (h : a ∈ as) : ∃ u, H a = some u ∧ (∀ xs, u ≠ .tup xs) ∧ ∀ o x, u ≠ .frz o x := by
  obtain ⟨k, hk, e⟩ := List.getElem_of_mem h
  have hk' : k < st.length := by rw [← S.len]; exact hk
  exact (S.obj k a st[k] (by rw [← e]; simp [hk]) (by simp [hk'])).some
/-- an object of the store is changed -/
theorem Sim.set (S : Sim K CA as st H) {k : Nat} {a : Addr} {u : HO} {o : O} (h : as[k]? = some a) (ne : ∀ f, H a ≠ some (.ext f)) (new : RO K CA as (upd H a u) a o) : Sim K CA as (st.set k o) (upd H a u) ∧ Post as H as (upd H a u) := by
  have hm : a ∈ as := List.mem_of_getElem? h
  obtain ⟨x, hx, nt, nf⟩ := S.there hm
  have P : Post as H as (upd H a u) := by
    refine ⟨⟨[], by simp, fun _ h => by cases h⟩, fun b o hq hb => ?_, fun b xs hq => ?_, fun b o x' hq => ?_, fun b f hq => ?_, fun b hq => ?_⟩
    · rw [upd_ne (by rintro rfl; exact hb hm)]; exact hq
    · rw [upd_ne]; exact hq
      rintro rfl; rw [hx] at hq; cases hq; exact nt _ rfl
    · rw [upd_ne]; exact hq
      rintro rfl; rw [hx] at hq; cases hq; exact nf _ _ rfl
    · rw [upd_ne]; exact hq
      rintro rfl; exact ne _ hq
    · by_cases e : b = a
      · subst e; rw [upd_same] at hq; cases hq
      · rw [upd_ne e] at hq; exact hq
  refine ⟨⟨by rw [List.length_set]; exact S.len, S.nd, fun j b o' hb ho => ?_⟩, P⟩
  by_cases hj : j = k
  · subst hj
    rw [h] at hb; cases hb
    have hk : j < st.length := by rw [← S.len]; exact (List.getElem?_eq_some_iff.mp h).1
    rw [List.getElem?_set_self hk] at ho; cases ho
    exact new
  · rw [List.getElem?_set_ne (Ne.symm hj)] at ho
    have hne : b ≠ a := by
      rintro rfl
      obtain ⟨h1, e1⟩ := List.getElem?_eq_some_iff.mp hb
      obtain ⟨h2, e2⟩ := List.getElem?_eq_some_iff.mp h
      exact hj ((List.getElem_inj S.nd).mp (e1.trans e2.symm))
    exact (S.obj j b o' hb ho).up P.up (fun _ _ h => h) (upd_ne hne)
/-- an object joins the store -/
theorem Sim.push (S : Sim K CA as st H) {a : Addr} {o : O} (h : a ∉ as) (new : RO K CA (as ++ [a]) H a o) : Sim K CA (as ++ [a]) (st ++ [o]) H := by
  have sub : ∀ (k : Nat) (b : Addr), as[k]? = some b → (as ++ [a])[k]? = some b := fun k b e => by
    rw [List.getElem?_append_left (List.getElem?_eq_some_iff.mp e).1]; exact e
  refine ⟨by simp [S.len], List.nodup_append.mpr ⟨S.nd, by simp, fun x hx y hy => ?_⟩, fun k b o' hb ho => ?_⟩
  · rintro rfl
    rw [List.mem_singleton] at hy
    exact h (hy ▸ hx)
  · by_cases hk : k < as.length
    · rw [List.getElem?_append_left hk] at hb
      rw [List.getElem?_append_left (by rw [← S.len]; exact hk)] at ho
      exact (S.obj k b o' hb ho).up Up.refl sub rfl
    · rw [List.getElem?_append_right (by omega)] at hb
      rw [List.getElem?_append_right (by rw [← S.len]; omega), ← S.len] at ho
      have e : k - as.length = 0 := by
        have := (List.getElem?_eq_some_iff.mp hb).1
        simp at this; omega
      rw [e] at hb ho
      simp at hb ho
      subst hb; subst ho
      exact new
/-- the same store in a grown heap -/
theorem Sim.laid (S : Sim K CA as st H) {a : Addr} {u : HO} (h : H a = none) : Sim K CA as st (upd H a u) ∧ Post as H as (upd H a u) := by
  have P : Post as H as (upd H a u) := by
    refine ⟨⟨[], by simp, fun _ h => by cases h⟩, fun b o e hb => ?_, fun b xs e => ?_, fun b o x' e => ?_, fun b f e => ?_, fun b e => ?_⟩
    · rw [upd_ne (ne_of_none e h)]; exact e
    · rw [upd_ne (ne_of_none e h)]; exact e
    · rw [upd_ne (ne_of_none e h)]; exact e
    · rw [upd_ne (ne_of_none e h)]; exact e
    · by_cases q : b = a
      · subst q; exact h
      · rw [upd_ne q] at e; exact e
  refine ⟨⟨S.len, S.nd, fun k b o hb ho => ?_⟩, P⟩
  have r := S.obj k b o hb ho
  obtain ⟨x, hx, _⟩ := r.some
  exact r.up P.up (fun _ _ h => h) (upd_ne (ne_of_none hx h))
theorem Sim.nin (S : Sim K CA as st H) {a : Addr} (h : H a = none) : a ∉ as := fun hm => by
  obtain ⟨u, hu, _⟩ := S.there hm
  rw [h] at hu; cases hu
theorem RT.up {t : T} {v : V} (P : Post as H as' H') (h : RT K as H t v) : RT K as' H' t v := by
  cases t with
  | d x => exact RD.up P.up (fun k a e => P.sub e) h
  | l ds =>
    obtain ⟨a, vs, e, h1, h2, h3⟩ := h
    refine ⟨a, vs, e, P.keep a _ h1 h3, RDs.up P.up (fun k a e => P.sub e) h2, fun hm => ?_⟩
    obtain ⟨bs, eb, n⟩ := P.ext
    rw [eb] at hm
    rcases List.mem_append.mp hm with hm | hm
    · exact h3 hm
    · rw [n a hm] at h1; cases h1
theorem RE.post (P : Post as H as' H') (h : RE K as H ρ σ) : RE K as' H' ρ σ := h.up P.up fun k a e => P.sub e
theorem RDs.post {ds : List D} {vs : List V} (P : Post as H as' H') (h : RDs K as H ds vs) : RDs K as' H' ds vs := h.up P.up fun k a e => P.sub e
theorem RD.post {d : D} {v : V} (P : Post as H as' H') (h : RD K as H d v) : RD K as' H' d v := h.up P.up fun k a e => P.sub e
/-- a fresh list becomes an object of the store -/
def boxT : T → Store → D × Store
  | .d x, st => (x, st)
  | .l ds, st => (.ref st.length, st ++ [.lst ds])
theorem box_ok {H0 : Hp} {as0 : List Addr} {t : T} {v : V} (P : Post as0 H0 as H) (S : Sim K CA as st H) (r : RT K as H t v) (f : FreshT H0 t v) :
    ∃ as', Post as0 H0 as' H ∧ (∀ (k : Nat) (a : Addr), as[k]? = some a → as'[k]? = some a) ∧ Sim K CA as' (boxT t st).2 H ∧ RD K as' H (boxT t st).1 v := by
  cases t with
  | d x => exact ⟨as, P, fun _ _ h => h, S, r⟩
  | l ds =>
    obtain ⟨a, vs, e, h1, h2, h3⟩ := r
    have sub : ∀ (k : Nat) (b : Addr), as[k]? = some b → (as ++ [a])[k]? = some b := fun k b e => by
      rw [List.getElem?_append_left (List.getElem?_eq_some_iff.mp e).1]; exact e
    obtain ⟨bs, eb, n⟩ := P.ext
    refine ⟨as ++ [a], ⟨⟨bs ++ [a], by rw [eb, List.append_assoc], fun b hb => ?_⟩, P.keep, P.tup, P.frz, P.ext', P.dom⟩, sub, S.push h3 ⟨vs, h1, h2.up Up.refl sub⟩, ?_⟩
    · rcases List.mem_append.mp hb with hb | hb
      · exact n b hb
      · rw [List.mem_singleton] at hb; rw [hb]; exact f a e
    · show RD K (as ++ [a]) H (.ref st.length) v
      unfold RD
      exact ⟨a, by rw [← S.len, List.getElem?_append_right (Nat.le_refl _)]; simp, e⟩
end
end Z
set_option Elab.async false
set_option linter.all false
set_option maxRecDepth 100000
set_option maxHeartbeats 4000000
/-! Z, part B: readings of expressions by computations over the store. -/
namespace Z
open PySem PySem.Spec PyProof.Rows L2

def R.bind {α β : Type} (r : R α) (f : α → Store → R β) : R β :=
  match r with
  | .ok a st => f a st
  | .exn C fs st => .exn C fs st
  | .bad => .bad
abbrev Den (α : Type) := Rho → Store → R α

section
variable (K : PySem.W.Frag) (CA : Nat → Addr)
/-- what is wanted of a computation's end -/
def ERx (W : WX) (σ : L2.St) (as : List Addr) (H : Hp) (C : Nat) (fs : List (Str × D)) (st' : Store) : Prop :=
  ∀ as' H' dx us, Post as H as' H' → Sim K CA as' st' H' → H' dx = some (.xd us) → RFs K as' H' fs us → W (.ref (CA C)) (some dx) σ H'
def EG {α : Type} (W : WX) (σ : L2.St) (as : List Addr) (H : Hp) (G : α → Store → Prop) : R α → Prop
  | .ok a st' => G a st'
  | .exn C fs st' => ERx K CA W σ as H C fs st'
  | .bad => False
def GT (as : List Addr) (H : Hp) (Q : VK) (t : T) (st' : Store) : Prop := ∀ as' H' v, Post as H as' H' → Sim K CA as' st' H' → RT K as' H' t v → FreshT H t v → Q v H'
def GB (as : List Addr) (H : Hp) (Q : Bool → Hp → Prop) (t : Bool) (st' : Store) : Prop := ∀ as' H', Post as H as' H' → Sim K CA as' st' H' → Q t H'
def GL (as : List Addr) (H : Hp) (Q : List V → Hp → Prop) (ds : List D) (st' : Store) : Prop := ∀ as' H' vs, Post as H as' H' → Sim K CA as' st' H' → RDs K as' H' ds vs → Q vs H'
abbrev ER (W : WX) (σ : L2.St) (as : List Addr) (H : Hp) (Q : VK) : R T → Prop := EG K CA W σ as H (GT K CA as H Q)
abbrev ERb (W : WX) (σ : L2.St) (as : List Addr) (H : Hp) (Q : Bool → Hp → Prop) : R Bool → Prop := EG K CA W σ as H (GB K CA as H Q)
abbrev ERl (W : WX) (σ : L2.St) (as : List Addr) (H : Hp) (Q : List V → Hp → Prop) : R (List D) → Prop := EG K CA W σ as H (GL K CA as H Q)
/-- the readings -/
def tD (W : WX) (f : Den T) : TE := fun σ H Q => ∃ as st ρ, Sim K CA as st H ∧ RE K as H ρ σ ∧ ER K CA W σ as H Q (f ρ st)
def tB (W : WX) (f : Den Bool) : TT := fun σ H Q => ∃ as st ρ, Sim K CA as st H ∧ RE K as H ρ σ ∧ ERb K CA W σ as H Q (f ρ st)
def tL (W : WX) (f : Den (List D)) : TA := fun σ H Q => ∃ as st ρ, Sim K CA as st H ∧ RE K as H ρ σ ∧ ERl K CA W σ as H Q (f ρ st)
end

theorem pe_imp {X : Cx} {e : Expr} {t t' : TE} (h : PE X e t) (i : ∀ σ H Q, t' σ H Q → t σ H Q) : PE X e t' := ⟨fun pins s σ H Q I hw => h.run pins s σ H Q I (i σ H Q hw)⟩
theorem pt_imp {X : Cx} {e : Expr} {t t' : TT} (h : PT X e t) (i : ∀ σ H Q, t' σ H Q → t σ H Q) : PT X e t' := ⟨fun pins s σ H Q I hw => h.run pins s σ H Q I (i σ H Q hw)⟩
theorem pw_imp {X : Cx} {e : Expr} {t t' : TT} (h : PW X e t) (i : ∀ σ H Q, t' σ H Q → t σ H Q) : PW X e t' := ⟨fun wh pins s σ H Q I hw => h.run wh pins s σ H Q I (i σ H Q hw)⟩
theorem pa_imp {X : Cx} {e : List Expr} {t t' : TA} (h : PA X e t) (i : ∀ σ H Q, t' σ H Q → t σ H Q) : PA X e t' := ⟨fun pos pins s σ H Q I hw => h.run pos pins s σ H Q I (i σ H Q hw)⟩
theorem ps_imp {X : Cx} {e : Stmt} {t t' : TS} (h : PS X e t) (i : ∀ D σ H, t' D σ H → t D σ H) : PS X e t' := ⟨fun pins s σ H D I hw => h.run pins s σ H D I (i D σ H hw)⟩
theorem pss_imp {X : Cx} {e : List Stmt} {t t' : TS} (h : PSs X e t) (i : ∀ D σ H, t' D σ H → t D σ H) : PSs X e t' := ⟨fun pins s σ H D I hw => h.run pins s σ H D I (i D σ H hw)⟩

section
variable {K : PySem.W.Frag} {CA : Nat → Addr} {W : WX} {as as1 as2 : List Addr} {H H1 H2 : Hp} {st st1 st2 : Store} {ρ : Rho} {σ : L2.St} {Q : VK}

theorem FreshT.back {t : T} {v : V} (P : Post as H as1 H1) (f : FreshT H1 t v) : FreshT H t v := by
  cases t with
  | d x => trivial
  | l ds => exact fun a e => P.dom a (f a e)
theorem ERx.mono {C : Nat} {fs : List (Str × D)} (P : Post as H as1 H1) (h : ERx K CA W σ as H C fs st) : ERx K CA W σ as1 H1 C fs st := fun as' H' dx us P' => h as' H' dx us (P.trans P')
/-- the end, wanted from an earlier heap on -/
theorem ER.mono {r : R T} (P : Post as H as1 H1) (h : ER K CA W σ as H Q r) : ER K CA W σ as1 H1 Q r := by
  cases r with
  | ok t st' => exact fun as' H' v P' S' r' f' => h as' H' v (P.trans P') S' r' (FreshT.back P f')
  | exn C fs st' => exact ERx.mono P h
  | bad => exact h
theorem ERb.mono {r : R Bool} {Q : Bool → Hp → Prop} (P : Post as H as1 H1) (h : ERb K CA W σ as H Q r) : ERb K CA W σ as1 H1 Q r := by
  cases r with
  | ok t st' => exact fun as' H' P' => h as' H' (P.trans P')
  | exn C fs st' => exact ERx.mono P h
  | bad => exact h
theorem ERl.mono {r : R (List D)} {Q : List V → Hp → Prop} (P : Post as H as1 H1) (h : ERl K CA W σ as H Q r) : ERl K CA W σ as1 H1 Q r := by
  cases r with
  | ok t st' => exact fun as' H' vs P' => h as' H' vs (P.trans P')
  | exn C fs st' => exact ERx.mono P h
  | bad => exact h
/-- data, nothing made -/
theorem ER.here {x : D} {v : V} (S : Sim K CA as st H) (h : ER K CA W σ as H Q (.ok (.d x) st)) (r : RD K as H x v) : Q v H := h as H v Post.refl S r trivial
/-- a new list -/
theorem ER.new {ds : List D} {vs : List V} (S : Sim K CA as st H) (h : ER K CA W σ as H Q (.ok (.l ds) st)) (r : RDs K as H ds vs) : ∀ p, H p = none → Q (.ref p) (upd H p (.lst vs)) := fun p hp => by
  obtain ⟨S', P⟩ := S.laid (u := .lst vs) hp
  exact h as _ _ P S' ⟨p, vs, rfl, upd_same, r.post P, S.nin hp⟩ fun a e => by cases e; exact hp
/-- a computation, then what goes on -/
theorem eg {α β : Type} {G1 : α → Store → Prop} {G2 : β → Store → Prop} {r : R α} {f : α → Store → R β} (m : EG K CA W σ as H G2 (r.bind f)) (k : ∀ a st', r = .ok a st' → EG K CA W σ as H G2 (f a st') → G1 a st') : EG K CA W σ as H G1 r := by
  cases r with
  | ok a st' => exact k a st' rfl m
  | exn C fs st' => exact m
  | bad => exact m

/-! ### views of a result -/
/-- a list's items, tracked -/
def lstOf (t : T) (st : Store) : Option (List D) :=
  match t with
  | .l ds => some ds
  | .d (.ref k) => match st[k]? with
    | some (.lst ds) => some ds
    | _ => none
  | _ => none
/-- a list's items, to be read -/
def rdL (t : T) (st : Store) : Option (List D) :=
  match t with
  | .d (.kl xs) => some (xs.map .p)
  | t => lstOf t st
def tupOf (t : T) : Option (List D) :=
  match t with
  | .d (.p (.tup xs)) => some (xs.map .p)
  | .d (.tup ds) => some ds
  | _ => none
theorem lstOf_ok {t : T} {v : V} {ds : List D} (S : Sim K CA as st H) (r : RT K as H t v) (h : lstOf t st = some ds) : ∃ a vs, v = .ref a ∧ H a = some (.lst vs) ∧ RDs K as H ds vs := by
  cases t with
  | l es =>
    cases h
    obtain ⟨a, vs, e, h1, h2, _⟩ := r
    exact ⟨a, vs, e, h1, h2⟩
  | d x =>
    cases x with
    | ref k =>
      have h : (match st[k]? with | some (O.lst ds) => some ds | _ => none) = some ds := h
      split at h
      · rename_i ds' e
        cases h
        have r : RD K as H (.ref k) v := r
        unfold RD at r
        obtain ⟨a, e1, e2⟩ := r
        obtain ⟨vs, q1, q2⟩ := S.obj k a _ e1 e
        exact ⟨a, vs, e2, q1, q2⟩
      · cases h
    | p _ => cases h
    | tup _ => cases h
    | kl _ => cases h
theorem rdL_ok {t : T} {v : V} {ds : List D} (S : Sim K CA as st H) (r : RT K as H t v) (h : rdL t st = some ds) : ∃ a vs, v = .ref a ∧ SqL K H a vs ∧ RDs K as H ds vs := by
  have go : lstOf t st = some ds → ∃ a vs, v = .ref a ∧ SqL K H a vs ∧ RDs K as H ds vs := fun h => by
    obtain ⟨a, vs, e, q1, q2⟩ := lstOf_ok S r h
    exact ⟨a, vs, e, SqL.of q1, q2⟩
  cases t with
  | l es => exact go h
  | d x =>
    cases x with
    | kl xs =>
      have h : some (xs.map D.p) = some ds := h
      cases h
      have r : RD K as H (.kl xs) v := r
      unfold RD at r
      obtain ⟨a, vs, e, q, rr⟩ := r
      exact ⟨a, vs, e, q.sq, RDs.ofP rr⟩
    | ref k => exact go h
    | p _ => exact go h
    | tup _ => exact go h
theorem tupOf_ok {t : T} {v : V} {ds : List D} (r : RT K as H t v) (h : tupOf t = some ds) : ∃ a vs, v = .ref a ∧ SqT K H a vs ∧ RDs K as H ds vs := by
  cases t with
  | l es => cases h
  | d x =>
    cases x with
    | ref k => cases h
    | kl k => cases h
    | tup es =>
      cases h
      have r : RD K as H (.tup ds) v := r
      unfold RD at r
      exact r
    | p x =>
      cases x with
      | tup xs =>
        have h : some (xs.map D.p) = some ds := h
        cases h
        have r : RD K as H (.p (.tup xs)) v := r
        unfold RD RP at r
        obtain ⟨a, vs, e, q, rr⟩ := r
        exact ⟨a, vs, e, q, RDs.ofP rr⟩
      | non => cases h
      | bl _ => cases h
      | int _ => cases h
      | str _ => cases h
/-- a tuple of values -/
def toP? : D → Option P
  | .p x => some x
  | _ => none
def allP : List D → Option (List P)
  | [] => some []
  | d :: ds => match d with
    | .p x => (allP ds).map (x :: ·)
    | _ => none
def mkTup (ds : List D) : D := match allP ds with
  | some xs => .p (.tup xs)
  | none => .tup ds
theorem allP_map : ∀ (xs : List P), allP (xs.map .p) = some xs
  | [] => rfl
  | x :: xs => by show (allP (xs.map D.p)).map (x :: ·) = _; rw [allP_map xs]; rfl
theorem of_allP : ∀ {ds : List D} {xs : List P}, allP ds = some xs → ds = xs.map .p
  | [], xs, h => by cases h; rfl
  | d :: ds, xs, h => by
    cases d with
    | p x =>
      have h : (allP ds).map (x :: ·) = some xs := h
      cases e : allP ds with
      | none => rw [e] at h; cases h
      | some ys =>
        rw [e] at h
        cases h
        rw [of_allP e]; rfl
    | ref k => cases h
    | tup k => cases h
    | kl k => cases h
theorem mkTup_ok {ds : List D} {vs : List V} {a : Addr} (q : SqT K H a vs) (r : RDs K as H ds vs) : RD K as H (mkTup ds) (.ref a) := by
  unfold mkTup
  split
  · rename_i xs e
    rw [of_allP e] at r
    unfold RD RP
    exact ⟨a, vs, rfl, q, RDs.toP r⟩
  · unfold RD
    exact ⟨a, vs, rfl, q, r⟩
/-- a new tuple -/
theorem ER.newT {ds : List D} {vs : List V} (S : Sim K CA as st H) (h : ER K CA W σ as H Q (.ok (.d (mkTup ds)) st)) (r : RDs K as H ds vs) : ∀ p, H p = none → Q (.ref p) (upd H p (.tup vs)) := fun p hp => by
  obtain ⟨S', P⟩ := S.laid (u := .tup vs) hp
  exact h as _ _ P S' (mkTup_ok (SqT.of upd_same) (r.post P)) trivial

/-! ### scalars -/
def RDint {i : Int} {v : V} (h : RD K as H (.p (.int i)) v) : v = .int i := by unfold RD RP at h; exact h
theorem RDstr {x : Str} {v : V} (h : RD K as H (.p (.str x)) v) : v = .str x := by unfold RD RP at h; exact h
theorem RDbl {x : Bool} {v : V} (h : RD K as H (.p (.bl x)) v) : v = .bl x := by unfold RD RP at h; exact h
theorem RDnon {v : V} (h : RD K as H (.p .non) v) : v = .non := by unfold RD RP at h; exact h
theorem RD.int {i : Int} : RD K as H (.p (.int i)) (.int i) := by unfold RD RP; rfl
theorem RD.str {i : Str} : RD K as H (.p (.str i)) (.str i) := by unfold RD RP; rfl
theorem RD.bl {i : Bool} : RD K as H (.p (.bl i)) (.bl i) := by unfold RD RP; rfl
theorem RD.non : RD K as H (.p .non) .non := by unfold RD RP; rfl

theorem RTint {i : Int} {v : V} (h : RT K as H (.d (.p (.int i))) v) : v = .int i := RDint (K := K) (as := as) (H := H) h
theorem RTstr {x : Str} {v : V} (h : RT K as H (.d (.p (.str x))) v) : v = .str x := RDstr (K := K) (as := as) (H := H) h
theorem RTbl {x : Bool} {v : V} (h : RT K as H (.d (.p (.bl x))) v) : v = .bl x := RDbl (K := K) (as := as) (H := H) h
theorem RTnon {v : V} (h : RT K as H (.d (.p .non)) v) : v = .non := RDnon (K := K) (as := as) (H := H) h

/-! ### names, constants -/
def eVar (i : Nat) : Den T := fun ρ st => match ρ[i]? with
  | some (some d) => .ok (.d d) st
  | _ => .bad
def eK (x : P) : Den T := fun _ st => .ok (.d (.p x)) st
theorem z_var {X : Cx} {i : Nat} {e : Expr} (h : PE X e (tVar i)) : PE X e (tD K CA W (eVar i)) := by
  refine pe_imp h fun σ H Q ⟨as, st, ρ, S, E, m⟩ => ?_
  unfold eVar at m
  split at m
  · rename_i d hd
    obtain ⟨v, e1, r⟩ := E.2 i d hd
    exact ⟨v, e1, ER.here S m r⟩
  · exact m.elim
theorem z_k {X : Cx} {e : Expr} {x : P} {v : V} (h : PE X e (tC v)) (r : ∀ as H, RD K as H (.p x) v) : PE X e (tD K CA W (eK x)) :=
  pe_imp h fun σ H Q ⟨as, st, ρ, S, E, m⟩ => ER.here S m (r as H)

/-! ### lists of expressions, displays -/
def eNil : Den (List D) := fun _ st => .ok [] st
def eCons (f : Den T) (g : Den (List D)) : Den (List D) := fun ρ st => (f ρ st).bind fun r st => (g ρ (boxT r st).2).bind fun ds st' => .ok ((boxT r st).1 :: ds) st'
theorem z_nil {X : Cx} : PA X [] (tL K CA W eNil) := pa_imp pa_nil fun σ H Q ⟨as, st, ρ, S, E, m⟩ => m as H [] Post.refl S RDs.nil
theorem z_cons {X : Cx} {e : Expr} {es : List Expr} {f : Den T} {g : Den (List D)} (h1 : PE X e (tD K CA W f)) (h2 : PA X es (tL K CA W g)) (hs : starEach (e :: es) X.env = (false, eval e X.env) :: starEach es X.env) : PA X (e :: es) (tL K CA W (eCons f g)) := by
  refine pa_imp (pa_cons h1 h2 hs) fun σ H Q ⟨as, st, ρ, S, E, m⟩ => ⟨as, st, ρ, S, E, eg m fun t st1 _ m1 as1 H1 v P1 S1 r1 f1 => ?_⟩
  obtain ⟨as2, P2, sub, S2, r2⟩ := box_ok P1 S1 r1 f1
  exact ⟨as2, _, ρ, S2, E.post P2, eg (ERl.mono P2 m1) fun ds st3 _ m3 as3 H3 vs P3 S3 r3 => m3 as3 H3 _ P3 S3 (RDs.cons (r2.post P3) r3)⟩
def eTup (g : Den (List D)) : Den T := fun ρ st => (g ρ st).bind fun ds st => .ok (.d (mkTup ds)) st
def eLst (g : Den (List D)) : Den T := fun ρ st => (g ρ st).bind fun ds st => .ok (.l ds) st
/-- a display's length, by its text -/
theorem z_tup {X : Cx} {es : List Expr} {k : Nat} {pos : Pos} {g : Den (List D)} (h : PA X es (tL K CA W g)) (hl : ∀ ρ st ds st', g ρ st = .ok ds st' → ds.length ≤ sizeLine) : PE X (.Tuple es k pos) (tD K CA W (eTup g)) := by
  refine pe_imp (pe_tup h) fun σ H Q ⟨as, st, ρ, S, E, m⟩ => ⟨as, st, ρ, S, E, eg m fun ds st1 e m1 as1 H1 vs P1 S1 r1 => ?_⟩
  exact ⟨by rw [r1.len]; exact hl _ _ _ _ e, ER.newT S1 (ER.mono P1 m1) r1⟩
theorem z_lst {X : Cx} {es : List Expr} {pos : Pos} {g : Den (List D)} (h : PA X es (tL K CA W g)) (hl : ∀ ρ st ds st', g ρ st = .ok ds st' → ds.length ≤ sizeLine) : PE X (.List es pos) (tD K CA W (eLst g)) := by
  refine pe_imp (pe_lst h) fun σ H Q ⟨as, st, ρ, S, E, m⟩ => ⟨as, st, ρ, S, E, eg m fun ds st1 e m1 as1 H1 vs P1 S1 r1 => ?_⟩
  exact ⟨by rw [r1.len]; exact hl _ _ _ _ e, ER.new S1 (ER.mono P1 m1) r1⟩

/-! ### operators by values -/
/-- what an operator does on values of both kinds -/
def Op2 (K : PySem.W.Frag) (CA : Nat → Addr) (op : T → T → Store → R T) (r : R2) : Prop := ∀ (W : WX) (σ : L2.St) (as : List Addr) (st : Store) (H : Hp) (t1 t2 : T) (v1 v2 : V) (Q : VK),
  Sim K CA as st H → RT K as H t1 v1 → RT K as H t2 v2 → ER K CA W σ as H Q (op t1 t2 st) → r v1 v2 H Q
def eBin (op : T → T → Store → R T) (f g : Den T) : Den T := fun ρ st => (f ρ st).bind fun a st => (g ρ st).bind fun b st => op a b st
theorem tOp_ok {op : T → T → Store → R T} {r : R2} {f g : Den T} (o : Op2 K CA op r) (h : tD K CA W (eBin op f g) σ H Q) : tOp r (tD K CA W f) (tD K CA W g) σ H Q := by
  obtain ⟨as, st, ρ, S, E, m⟩ := h
  exact ⟨as, st, ρ, S, E, eg m fun t1 st1 _ m1 as1 H1 v1 P1 S1 r1 f1 => ⟨as1, st1, ρ, S1, E.post P1, eg (ER.mono P1 m1) fun t2 st2 _ m2 as2 H2 v2 P2 S2 r2 f2 =>
    o W σ as2 st2 H2 t1 t2 v1 v2 Q S2 (r1.up P2) r2 (ER.mono P2 m2)⟩⟩
theorem z_bin {X : Cx} {op : Operator} {o : T → T → Store → R T} {r : R2} {a b : Expr} {pos : Pos} {f g : Den T} (ho : OpR X (binaryOp op) r) (oo : Op2 K CA o r) (ha : PE X a (tD K CA W f)) (hb : PE X b (tD K CA W g)) : PE X (.BinOp a op b pos) (tD K CA W (eBin o f g)) :=
  pe_imp (pe_op ho ha hb) fun σ H Q h => tOp_ok oo h
theorem z_cmp {X : Cx} {op : CmpOp} {o : T → T → Store → R T} {r : R2} {a b : Expr} {pos : Pos} {f g : Den T} (ho : OpR X (compareOp op) r) (oo : Op2 K CA o r) (ha : PE X a (tD K CA W f)) (hb : PE X b (tD K CA W g)) (hm : behindInMarks op b = false) : PE X (.Compare a [op] [b] pos) (tD K CA W (eBin o f g)) :=
  pe_imp (pe_cmpR ho ha hb hm) fun σ H Q h => tOp_ok oo h
end
end Z
set_option Elab.async false
set_option linter.all false
set_option maxRecDepth 100000
set_option maxHeartbeats 4000000
/-! Z, part C: what operators and built-ins do. -/
namespace Z
open PySem PySem.Spec PyProof.Rows L2
section
variable {K : PySem.W.Frag} {CA : Nat → Addr} {W : WX} {as as1 as2 : List Addr} {H H1 H2 : Hp} {st st1 st2 : Store} {ρ : Rho} {σ : L2.St} {Q : VK}

abbrev kInt (i : Int) : T := .d (.p (.int i))
abbrev kBl (b : Bool) : T := .d (.p (.bl b))
abbrev kStr (x : Str) : T := .d (.p (.str x))

/-! ### data as the library's data -/
mutual
def P.py : P → PyData
  | .non => .none
  | .bl b => .bool b
  | .int i => .int i
  | .str x => .str x
  | .tup xs => .tuple (P.pys xs)
def P.pys : List P → List PyData
  | [] => []
  | x :: xs => P.py x :: P.pys xs
end
mutual
theorem RP.dp : ∀ {x : P} {v : V}, RP K H x v → Dp K H v x.py
  | .non, v, h => by unfold RP at h; subst h; unfold P.py; exact .non
  | .bl b, v, h => by unfold RP at h; subst h; unfold P.py; exact .bl b
  | .int b, v, h => by unfold RP at h; subst h; unfold P.py; exact .int b
  | .str b, v, h => by unfold RP at h; subst h; unfold P.py; exact .str b
  | .tup xs, v, h => by
    unfold RP at h
    obtain ⟨a, vs, e, q, r⟩ := h
    subst e
    unfold P.py
    exact .tup q (RPs.dp r)
theorem RPs.dp : ∀ {xs : List P} {vs : List V}, RPs K H xs vs → DpAll K H vs (P.pys xs)
  | [], vs, h => by unfold RPs at h; subst h; unfold P.pys; exact .nil
  | x :: xs, vs, h => by
    unfold RPs at h
    obtain ⟨v, r, e, h1, h2⟩ := h
    subst e
    unfold P.pys
    exact .cons (RP.dp h1) (RPs.dp h2)
end
/-- .. of a value, through n levels of the store -/
def pyD (st : Store) : Nat → D → Option PyData
  | _, .p x => some x.py
  | _, .kl xs => some (.list (P.pys xs))
  | 0, _ => none
  | n + 1, .ref k => match st[k]? with
    | some (.lst ds) => (ds.mapM (pyD st n)).map .list
    | _ => none
  | n + 1, .tup ds => (ds.mapM (pyD st n)).map .tuple
def pyT (st : Store) (n : Nat) : T → Option PyData
  | .d x => pyD st n x
  | .l ds => (ds.mapM (pyD st n)).map .list
theorem mapM_dp {f : D → Option PyData} (h : ∀ (x : D) (v : V) (d : PyData), RD K as H x v → f x = some d → Dp K H v d) : ∀ {ds : List D} {vs : List V} {es : List PyData}, RDs K as H ds vs → ds.mapM f = some es → DpAll K H vs es
  | [], vs, es, r, e => by
    unfold RDs at r; subst r
    rw [List.mapM_nil] at e; cases e; exact .nil
  | x :: ds, vs, es, r, e => by
    unfold RDs at r
    obtain ⟨v, r', e', h1, h2⟩ := r
    subst e'
    rw [List.mapM_cons] at e
    cases e1 : f x with
    | none => rw [e1] at e; cases e
    | some d =>
      rw [e1] at e
      cases e2 : ds.mapM f with
      | none => rw [e2] at e; cases e
      | some ds' =>
        rw [e2] at e
        cases e
        exact .cons (h _ _ _ h1 e1) (mapM_dp h h2 e2)
theorem pyD_dp (S : Sim K CA as st H) : ∀ (n : Nat) (x : D) (v : V) (d : PyData), RD K as H x v → pyD st n x = some d → Dp K H v d
  | n, .p x, v, d, r, e => by
    have e : some x.py = some d := by cases n <;> exact e
    cases e
    unfold RD at r
    exact RP.dp r
  | n, .kl xs, v, d, r, e => by
    have e : some (PyData.list (P.pys xs)) = some d := by cases n <;> exact e
    cases e
    unfold RD at r
    obtain ⟨a, vs, e, q, rr⟩ := r
    subst e
    exact .lst q.sq (RPs.dp rr)
  | 0, .ref k, v, d, r, e => by cases e
  | 0, .tup k, v, d, r, e => by cases e
  | n + 1, .ref k, v, d, r, e => by
    unfold RD at r
    obtain ⟨a, e1, e2⟩ := r
    have e : (match st[k]? with | some (O.lst ds) => (ds.mapM (pyD st n)).map PyData.list | _ => none) = some d := e
    split at e
    · rename_i ds q
      obtain ⟨vs, q1, q2⟩ := S.obj k a _ e1 q
      cases e3 : ds.mapM (pyD st n) with
      | none => rw [e3] at e; cases e
      | some es =>
        rw [e3] at e
        cases e
        subst e2
        exact .lst (SqL.of q1) (mapM_dp (fun x v d => pyD_dp S n x v d) q2 e3)
    · cases e
  | n + 1, .tup ds, v, d, r, e => by
    unfold RD at r
    obtain ⟨a, vs, e1, q, rr⟩ := r
    have e : (ds.mapM (pyD st n)).map PyData.tuple = some d := e
    cases e3 : ds.mapM (pyD st n) with
    | none => rw [e3] at e; cases e
    | some es =>
      rw [e3] at e
      cases e
      subst e1
      exact .tup q (mapM_dp (fun x v d => pyD_dp S n x v d) rr e3)
theorem pyT_dp (S : Sim K CA as st H) {n : Nat} {t : T} {v : V} {d : PyData} (r : RT K as H t v) (e : pyT st n t = some d) : Dp K H v d := by
  cases t with
  | d x => exact pyD_dp S n x v d r e
  | l ds =>
    obtain ⟨a, vs, e1, q1, q2, _⟩ := r
    have e : (ds.mapM (pyD st n)).map PyData.list = some d := e
    cases e3 : ds.mapM (pyD st n) with
    | none => rw [e3] at e; cases e
    | some es =>
      rw [e3] at e
      cases e
      subst e1
      exact .lst (SqL.of q1) (mapM_dp (fun x v d => pyD_dp S n x v d) q2 e3)

/-! ### operators -/
def oInt (p : Int → Int → Bool) (g : Int → Int → Int) : T → T → Store → R T
  | .d (.p (.int i)), .d (.p (.int j)), st => if p i j then .ok (kInt (g i j)) st else .bad
  | _, _, _ => .bad
def oIntB (g : Int → Int → Bool) : T → T → Store → R T
  | .d (.p (.int i)), .d (.p (.int j)), st => .ok (kBl (g i j)) st
  | _, _, _ => .bad
theorem nb {α : Type} {G : α → Store → Prop} {r : R α} (m : EG K CA W σ as H G r) : r ≠ .bad := by
  rintro rfl; exact m
theorem oInt_inv {p g t1 t2 st} (h : oInt p g t1 t2 st ≠ .bad) : ∃ i j, t1 = kInt i ∧ t2 = kInt j := by
  unfold oInt at h; split at h
  · exact ⟨_, _, rfl, rfl⟩
  · exact (h rfl).elim
theorem oIntB_inv {g t1 t2 st} (h : oIntB g t1 t2 st ≠ .bad) : ∃ i j, t1 = kInt i ∧ t2 = kInt j := by
  unfold oIntB at h; split at h
  · exact ⟨_, _, rfl, rfl⟩
  · exact (h rfl).elim
theorem int2_ok {p : Int → Int → Bool} {C : Int → Int → Prop} {g : Int → Int → Int} (hp : ∀ i j, p i j = true → C i j) : Op2 K CA (oInt p g) (rI C fun i j => .int (g i j)) := by
  intro W σ as st H t1 t2 v1 v2 Q S r1 r2 m
  obtain ⟨i, j, rfl, rfl⟩ := oInt_inv (nb m)
  have m : ER K CA W σ as H Q (if p i j then .ok (kInt (g i j)) st else .bad) := m
  by_cases h : p i j = true
  · rw [if_pos h] at m
    exact ⟨i, j, RTint r1, RTint r2, hp i j h, ER.here S m RD.int⟩
  · rw [if_neg h] at m; exact m.elim
theorem intB_ok {g : Int → Int → Bool} : Op2 K CA (oIntB g) (rI0 fun i j => .bl (g i j)) := by
  intro W σ as st H t1 t2 v1 v2 Q S r1 r2 m
  obtain ⟨i, j, rfl, rfl⟩ := oIntB_inv (nb m)
  have m : ER K CA W σ as H Q (.ok (kBl (g i j)) st) := m
  exact ⟨i, j, RTint r1, RTint r2, ER.here S m RD.bl⟩
def pT : Int → Int → Bool := fun _ _ => true
def pMul (i j : Int) : Bool := (decide (-(2 ^ 64) < i) && decide (i < 2 ^ 64)) || (decide (-(2 ^ 64) < j) && decide (j < 2 ^ 64))
def pDiv (i j : Int) : Bool := decide (0 < j) && decide (j < 1073741824)
def pMod (i j : Int) : Bool := decide (0 < j)
def pPow (i j : Int) : Bool := decide (0 ≤ j) && decide (j ≤ 1000000) && decide (i.natAbs < 2 ^ 64)
/-- + -/
def oAddL (a b : T) (st : Store) : R T := match lstOf a st, lstOf b st with
  | some x, some y => if x.length + y.length ≤ sizeLine then .ok (.l (x ++ y)) st else .bad
  | _, _ => match tupOf a, tupOf b with
    | some x, some y => if x.length + y.length ≤ sizeLine then .ok (.d (mkTup (x ++ y))) st else .bad
    | _, _ => .bad
def oAdd (a b : T) (st : Store) : R T :=
  match a, b with
  | .d (.p (.int i)), .d (.p (.int j)) => .ok (kInt (i + j)) st
  | .d (.p (.str x)), .d (.p (.str y)) => if x.length + y.length ≤ sizeLine then .ok (kStr (x ++ y)) st else .bad
  | a, b => oAddL a b st
theorem oAdd_inv {a b : T} {st : Store} : (∃ i j, a = kInt i ∧ b = kInt j) ∨ (∃ i j, a = kStr i ∧ b = kStr j) ∨ oAdd a b st = oAddL a b st := by
  unfold oAdd; split
  · exact .inl ⟨_, _, rfl, rfl⟩
  · exact .inr (.inl ⟨_, _, rfl, rfl⟩)
  · exact .inr (.inr rfl)
def rAddA (K : PySem.W.Frag) : R2 := fun x y H Q => (∃ i j, x = .int i ∧ y = .int j ∧ Q (.int (i + j)) H) ∨ (∃ i j, x = .str i ∧ y = .str j ∧ i.length + j.length ≤ sizeLine ∧ Q (.str (i ++ j)) H) ∨ rCat x y H Q ∨ rCatA K x y H Q
theorem op_addA {X : Cx} : OpR X (binaryOp .Add) (rAddA X.K) := (op_add.or (op_add_str.or (op_cat.or op_catA)))
theorem mkTup_nil_l {ds : List D} : mkTup ([] ++ ds) = mkTup ds := rfl
theorem add_ok : Op2 K CA oAdd (rAddA K) := by
  intro W σ as st H t1 t2 v1 v2 Q S r1 r2 m
  rcases oAdd_inv (a := t1) (b := t2) (st := st) with ⟨i, j, rfl, rfl⟩ | ⟨i, j, rfl, rfl⟩ | e
  · have m : ER K CA W σ as H Q (.ok (kInt (i + j)) st) := m
    exact .inl ⟨i, j, RTint r1, RTint r2, ER.here S m RD.int⟩
  · have m : ER K CA W σ as H Q (if i.length + j.length ≤ sizeLine then .ok (kStr (i ++ j)) st else .bad) := m
    split at m
    · rename_i h
      exact .inr (.inl ⟨i, j, RTstr r1, RTstr r2, h, ER.here S m RD.str⟩)
    · exact m.elim
  · rw [e] at m
    unfold oAddL at m
    split at m
    · rename_i x y e1 e2
      split at m
      · rename_i h
        obtain ⟨a, vs, ea, q1, q2⟩ := lstOf_ok S r1 e1
        obtain ⟨b, ws, eb, q3, q4⟩ := lstOf_ok S r2 e2
        exact .inr (.inr (.inl ⟨a, b, vs, ws, ea, eb, q1, q3, by rw [q2.len, q4.len]; exact h, ER.new S m (q2.app q4)⟩))
      · exact m.elim
    · split at m
      · rename_i x y e1 e2
        split at m
        · rename_i h
          obtain ⟨a, vs, ea, q1, q2⟩ := tupOf_ok r1 e1
          obtain ⟨b, ws, eb, q3, q4⟩ := tupOf_ok r2 e2
          refine .inr (.inr (.inr ⟨a, b, vs, ws, ea, eb, q1, q3, by rw [q2.len, q4.len]; exact h, fun z => ?_, fun z z' => ?_, fun z z' => ER.newT S m (q2.app q4)⟩))
          · subst z
            have : x = [] := by have := q2.len; exact List.length_eq_zero_iff.mp this.symm
            subst this
            exact ER.here S m (mkTup_ok q3 q4)
          · subst z'
            have : y = [] := by have := q4.len; exact List.length_eq_zero_iff.mp this.symm
            subst this
            rw [List.append_nil] at m
            exact ER.here S m (mkTup_ok q1 q2)
        · exact m.elim
      · exact m.elim
/-- list * int -/
def oMulL (j : Int) (a : T) (st : Store) : R T := match lstOf a st with
  | some xs => if -(2 ^ 63) ≤ j ∧ j < 2 ^ 63 ∧ xs.length * j.toNat ≤ sizeLine then .ok (.l (List.replicate j.toNat xs).flatten) st else .bad
  | none => .bad
def oMul (a b : T) (st : Store) : R T :=
  match a, b with
  | .d (.p (.int i)), .d (.p (.int j)) => if pMul i j then .ok (kInt (i * j)) st else .bad
  | a, .d (.p (.int j)) => oMulL j a st
  | _, _ => .bad
def rMulA : R2 := fun x y H Q => rI CMul (fun i j => .int (i * j)) x y H Q ∨ rRep x y H Q
theorem op_mulA {X : Cx} : OpR X (binaryOp .Mult) rMulA := op_mul.or op_rep
theorem pMul_ok {i j : Int} (h : pMul i j = true) : CMul i j := by
  unfold pMul at h
  simp only [Bool.or_eq_true, Bool.and_eq_true, decide_eq_true_eq] at h
  exact h
theorem oMul_inv {a b : T} {st : Store} (h : oMul a b st ≠ .bad) : ∃ j, b = kInt j ∧ ((∃ i, a = kInt i) ∨ oMul a b st = oMulL j a st) := by
  unfold oMul at h ⊢
  split at h
  · exact ⟨_, rfl, .inl ⟨_, rfl⟩⟩
  · exact ⟨_, rfl, .inr rfl⟩
  · exact (h rfl).elim
theorem mul_ok : Op2 K CA oMul rMulA := by
  intro W σ as st H t1 t2 v1 v2 Q S r1 r2 m
  obtain ⟨j, rfl, ⟨i, rfl⟩ | e⟩ := oMul_inv (nb m)
  · have m : ER K CA W σ as H Q (if pMul i j then .ok (kInt (i * j)) st else .bad) := m
    split at m
    · rename_i h
      exact .inl ⟨i, j, RTint r1, RTint r2, pMul_ok h, ER.here S m RD.int⟩
    · exact m.elim
  · rw [e] at m
    unfold oMulL at m
    split at m
    · rename_i xs e1
      split at m
      · rename_i h
        obtain ⟨a, vs, ea, q1, q2⟩ := lstOf_ok S r1 e1
        exact .inr ⟨a, j, vs, ea, RTint r2, q1, h.1, h.2.1, by rw [q2.len]; exact h.2.2, ER.new S m (q2.flatRep _)⟩
      · exact m.elim
    · exact m.elim
/-- == and != of data -/
def eqOk (d : PyData) : Bool := SeqAt.shaped d
def oEq (neg : Bool) (a b : T) (st : Store) : R T :=
  match a, b with
  | .d (.p (.int i)), .d (.p (.int j)) => .ok (kBl (if neg then !decide (i = j) else decide (i = j))) st
  | .d (.p (.str i)), .d (.p (.str j)) => .ok (kBl (if neg then !decide (i = j) else decide (i = j))) st
  | a, b => match pyT st 8 a, pyT st 8 b with
    | some d, some e => if eqOk d && eqOk e then .ok (kBl (if neg then !PyData.eqv d e else PyData.eqv d e)) st else .bad
    | _, _ => .bad
theorem oEq_inv {neg : Bool} {a b : T} {st : Store} : (∃ i j, a = kInt i ∧ b = kInt j) ∨ (∃ i j, a = kStr i ∧ b = kStr j) ∨ oEq neg a b st = (match pyT st 8 a, pyT st 8 b with
    | some d, some e => if eqOk d && eqOk e then .ok (kBl (if neg then !PyData.eqv d e else PyData.eqv d e)) st else .bad
    | _, _ => .bad) := by
  unfold oEq; split
  · exact .inl ⟨_, _, rfl, rfl⟩
  · exact .inr (.inl ⟨_, _, rfl, rfl⟩)
  · exact .inr (.inr rfl)
def rEqA (K : PySem.W.Frag) : R2 := fun x y H Q => rEq x y H Q ∨ rEqD K x y H Q
def rNeA (K : PySem.W.Frag) : R2 := fun x y H Q => rNe x y H Q ∨ rNeD K x y H Q
theorem op_eqA {X : Cx} (hu : X.A.units + 64 < cLine) : OpR X (compareOp .Eq) (rEqA X.K) := op_eq.or (op_eqD hu)
theorem op_neA {X : Cx} (hu : X.A.units + 64 < cLine) : OpR X (compareOp .NotEq) (rNeA X.K) := op_ne.or (op_neD hu)
theorem dV_int {i j : Int} : decide (V.int i = V.int j) = decide (i = j) := by
  by_cases h : i = j
  · subst h; simp
  · rw [decide_eq_false h, decide_eq_false (fun e => h (by injection e))]
theorem dV_str {i j : Str} : decide (V.str i = V.str j) = decide (i = j) := by
  by_cases h : i = j
  · subst h; simp
  · rw [decide_eq_false h, decide_eq_false (fun e => h (by injection e))]
theorem eq_ok : Op2 K CA (oEq false) (rEqA K) := by
  intro W σ as st H t1 t2 v1 v2 Q S r1 r2 m
  rcases oEq_inv (neg := false) (a := t1) (b := t2) (st := st) with ⟨i, j, rfl, rfl⟩ | ⟨i, j, rfl, rfl⟩ | e
  · have m : ER K CA W σ as H Q (.ok (kBl (decide (i = j))) st) := m
    rw [RTint r1, RTint r2]
    exact .inl ⟨rfl, by rw [dV_int]; exact ER.here S m RD.bl⟩
  · have m : ER K CA W σ as H Q (.ok (kBl (decide (i = j))) st) := m
    rw [RTstr r1, RTstr r2]
    exact .inl ⟨rfl, by rw [dV_str]; exact ER.here S m RD.bl⟩
  · rw [e] at m
    split at m
    · rename_i d e e1 e2
      split at m
      · rename_i h
        rw [Bool.and_eq_true] at h
        exact .inr ⟨d, e, pyT_dp S r1 e1, pyT_dp S r2 e2, h.1, h.2, ER.here S m RD.bl⟩
      · exact m.elim
    · exact m.elim
theorem ne_ok : Op2 K CA (oEq true) (rNeA K) := by
  intro W σ as st H t1 t2 v1 v2 Q S r1 r2 m
  rcases oEq_inv (neg := true) (a := t1) (b := t2) (st := st) with ⟨i, j, rfl, rfl⟩ | ⟨i, j, rfl, rfl⟩ | e
  · have m : ER K CA W σ as H Q (.ok (kBl (!decide (i = j))) st) := m
    rw [RTint r1, RTint r2]
    exact .inl ⟨rfl, by rw [dV_int]; exact ER.here S m RD.bl⟩
  · have m : ER K CA W σ as H Q (.ok (kBl (!decide (i = j))) st) := m
    rw [RTstr r1, RTstr r2]
    exact .inl ⟨rfl, by rw [dV_str]; exact ER.here S m RD.bl⟩
  · rw [e] at m
    split at m
    · rename_i d e e1 e2
      split at m
      · rename_i h
        rw [Bool.and_eq_true] at h
        exact .inr ⟨d, e, pyT_dp S r1 e1, pyT_dp S r2 e2, h.1, h.2, ER.here S m RD.bl⟩
      · exact m.elim
    · exact m.elim
end
end Z
set_option Elab.async false
set_option linter.all false
set_option maxRecDepth 100000
set_option maxHeartbeats 4000000
/-! Z, part D: tests, subscripts, calls of built-ins, methods of built-in types. -/
namespace Z
open PySem PySem.Spec PyProof.Rows L2
section
variable {K : PySem.W.Frag} {CA : Nat → Addr} {W : WX} {as as1 as2 : List Addr} {H H1 H2 : Hp} {st st1 st2 : Store} {ρ : Rho} {σ : L2.St} {Q : VK} {X : Cx}

/-! ### tests -/
def truT (t : T) (st : Store) : R Bool :=
  match t with
  | .d (.p .non) => .ok false st
  | .d (.p (.bl b)) => .ok b st
  | .d (.p (.int i)) => .ok (i != 0) st
  | .d (.p (.str y)) => if y.length ≤ sizeLine then .ok ((y.length : Int) != 0) st else .bad
  | t => match rdL t st with
    | some ds => .ok (!ds.isEmpty) st
    | none => match tupOf t with
      | some ds => .ok (!ds.isEmpty) st
      | none => .bad
theorem isEmpty_len {α β : Type} {a : List α} {b : List β} (h : a.length = b.length) : a.isEmpty = b.isEmpty := by
  cases a <;> cases b <;> simp at h ⊢
theorem tru_okT {Q : Bool → Hp → Prop} {t : T} {v : V} (S : Sim K CA as st H) (r : RT K as H t v) (m : ERb K CA W σ as H Q (truT t st)) : ∃ k, TruV K v H k ∧ Q k H := by
  have go : ∀ b, ERb K CA W σ as H Q (.ok b st) → Q b H := fun b m => m as H Post.refl S
  have lst : ERb K CA W σ as H Q (match rdL t st with
    | some ds => .ok (!ds.isEmpty) st
    | none => match tupOf t with
      | some ds => .ok (!ds.isEmpty) st
      | none => .bad) → ∃ k, TruV K v H k ∧ Q k H := fun m => by
    split at m
    · rename_i ds e
      obtain ⟨a, vs, ea, q1, q2⟩ := rdL_ok S r e
      subst ea
      exact ⟨_, .inl ⟨vs, q1, by rw [isEmpty_len q2.len]⟩, go _ m⟩
    · split at m
      · rename_i ds e
        obtain ⟨a, vs, ea, q1, q2⟩ := tupOf_ok r e
        subst ea
        exact ⟨_, .inr (.inl ⟨vs, q1, by rw [isEmpty_len q2.len]⟩), go _ m⟩
      · exact m.elim
  cases t with
  | l ds => exact lst m
  | d x =>
    cases x with
    | ref k => exact lst m
    | tup k => exact lst m
    | kl k => exact lst m
    | p x =>
      cases x with
      | non => rw [RTnon r]; exact ⟨_, rfl, go _ m⟩
      | bl b => rw [RTbl r]; exact ⟨_, rfl, go _ m⟩
      | int i => rw [RTint r]; exact ⟨_, rfl, go _ m⟩
      | str y =>
        have m : ERb K CA W σ as H Q (if y.length ≤ sizeLine then .ok ((y.length : Int) != 0) st else .bad) := m
        split at m
        · rename_i h
          rw [RTstr r]; exact ⟨_, ⟨h, rfl⟩, go _ m⟩
        · exact m.elim
      | tup xs => exact lst m
def eTru (f : Den T) : Den Bool := fun ρ st => (f ρ st).bind truT
theorem z_tru {e : Expr} {f : Den T} (h : PE X e (tD X.K CA W f)) (he : ∀ whole, isTrue e X.env whole = (do let v ← whole; standAt e.pos; holding [v] (truthy v))) : PT X e (tB X.K CA W (eTru f)) :=
  pt_imp (pt_truth h he) fun σ H Q ⟨as, st, ρ, S, E, m⟩ => ⟨as, st, ρ, S, E, eg m fun t st1 _ m1 as1 H1 v P1 S1 r1 f1 => tru_okT S1 r1 (ERb.mono P1 m1)⟩
/-- a comparison's bool -/
def blT (t : T) (st : Store) : R Bool := match t with
  | .d (.p (.bl b)) => .ok b st
  | _ => .bad
theorem blT_inv {t : T} {st : Store} (h : blT t st ≠ .bad) : ∃ b, t = kBl b := by
  unfold blT at h; split at h
  · exact ⟨_, rfl⟩
  · exact (h rfl).elim
def eBl (f : Den T) : Den Bool := fun ρ st => (f ρ st).bind blT
theorem bl_ok {Q : Bool → Hp → Prop} {t : T} {v : V} (S : Sim K CA as st H) (r : RT K as H t v) (m : ERb K CA W σ as H Q (blT t st)) : ∃ k, v = .bl k ∧ Q k H := by
  obtain ⟨b, rfl⟩ := blT_inv (nb m)
  have m : ERb K CA W σ as H Q (.ok b st) := m
  exact ⟨b, RTbl r, m as H Post.refl S⟩
/-- where both are done, a comparison tells a bool -/
def OpB (K : PySem.W.Frag) (CA : Nat → Addr) (op : T → T → Store → R T) (r : R2) : Prop := ∀ (W : WX) (σ : L2.St) (as : List Addr) (st : Store) (H : Hp) (t1 t2 : T) (v1 v2 : V) (Q : Bool → Hp → Prop),
  Sim K CA as st H → RT K as H t1 v1 → RT K as H t2 v2 → ERb K CA W σ as H Q ((op t1 t2 st).bind blT) → r v1 v2 H fun x H' => ∃ k, x = .bl k ∧ Q k H'
theorem OpB.of {op : T → T → Store → R T} {r : R2} (o : Op2 K CA op r) : OpB K CA op r := fun W σ as st H t1 t2 v1 v2 Q S r1 r2 m =>
  o W σ as st H t1 t2 v1 v2 _ S r1 r2 (eg m fun t st1 _ m1 as1 H1 v P1 S1 rr f1 => bl_ok S1 rr (ERb.mono P1 m1))
def eCmpB (op : T → T → Store → R T) (f g : Den T) : Den Bool := fun ρ st => (f ρ st).bind fun a st => (g ρ st).bind fun b st => (op a b st).bind blT
theorem z_cmpB {op : CmpOp} {o : T → T → Store → R T} {r : R2} {a b : Expr} {pos : Pos} {f g : Den T} (ho : OpR X (compareOp op) r) (oo : Op2 X.K CA o r) (ha : PE X a (tD X.K CA W f)) (hb : PE X b (tD X.K CA W g)) (hm : behindInMarks op b = false) : PT X (.Compare a [op] [b] pos) (tB X.K CA W (eCmpB o f g)) :=
  pt_imp (pt_cmpR ho ha hb hm) fun σ H Q ⟨as, st, ρ, S, E, m⟩ => ⟨as, st, ρ, S, E, eg m fun t1 st1 _ m1 as1 H1 v1 P1 S1 r1 f1 => ⟨as1, st1, ρ, S1, E.post P1, eg (ERb.mono P1 m1) fun t2 st2 _ m2 as2 H2 v2 P2 S2 r2 f2 =>
    OpB.of oo W σ as2 st2 H2 t1 t2 v1 v2 Q S2 (r1.up P2) r2 (ERb.mono P2 m2)⟩⟩
/-- a op b op' c -/
def eChain (o o' : T → T → Store → R T) (f g h : Den T) : Den T := fun ρ st => (f ρ st).bind fun a st => (g ρ st).bind fun b st => ((o a b st).bind blT).bind fun k st => if k then (h ρ st).bind fun c st => o' b c st else .ok (kBl false) st
theorem chain_ok {o o' : T → T → Store → R T} {r r' : R2} {f g h : Den T} (oo : Op2 K CA o r) (oo' : Op2 K CA o' r') (m : tD K CA W (eChain o o' f g h) σ H Q) : tChain r r' (tD K CA W f) (tD K CA W g) (tD K CA W h) σ H Q := by
  obtain ⟨as, st, ρ, S, E, m⟩ := m
  refine ⟨as, st, ρ, S, E, eg m fun t1 st1 _ m1 as1 H1 v1 P1 S1 r1 f1 => ⟨as1, st1, ρ, S1, E.post P1, eg (ER.mono P1 m1) fun t2 st2 _ m2 as2 H2 v2 P2 S2 r2 f2 => ?_⟩⟩
  refine oo W σ as2 st2 H2 t1 t2 v1 v2 _ S2 (r1.up P2) r2 (eg (G2 := GT K CA as2 H2 Q) (f := fun t st => (blT t st).bind fun k st => if k then (h ρ st).bind fun c st => o' t2 c st else .ok (kBl false) st) (by
    have m3 := ER.mono P2 m2
    cases e : o t1 t2 st2 with
    | ok a b => rw [e] at m3; exact m3
    | exn a b c => rw [e] at m3; exact m3
    | bad => rw [e] at m3; exact m3) fun t3 st3 _ m3 as3 H3 v3 P3 S3 r3 f3 => ?_)
  cases hb : blT t3 st3 with
  | bad => rw [hb] at m3; exact m3.elim
  | exn _ _ _ =>
    obtain ⟨b, e⟩ := blT_inv (t := t3) (st := st3) (by rw [hb]; intro z; cases z)
    subst e
    cases hb
  | ok k st4 =>
    obtain ⟨b, e⟩ := blT_inv (t := t3) (st := st3) (by rw [hb]; intro z; cases z)
    subst e
    cases hb
    have m4 : ER K CA W σ as3 H3 Q (if k = true then (h ρ st3).bind fun c st => o' t2 c st else .ok (kBl false) st3) := ER.mono P3 m3
    refine ⟨k, RTbl r3, ?_⟩
    split
    · rename_i hk
      rw [if_pos hk] at m4
      exact ⟨as3, st3, ρ, S3, ((E.post P1).post P2).post P3, eg m4 fun t5 st5 _ m5 as5 H5 v5 P5 S5 r5 f5 => oo' W σ as5 st5 H5 t2 t5 v2 v5 Q S5 ((r2.up P3).up P5) r5 (ER.mono P5 m5)⟩
    · rename_i hk
      rw [if_neg hk] at m4
      exact ER.here S3 m4 RD.bl
theorem z_chain {op op' : CmpOp} {o o' : T → T → Store → R T} {r r' : R2} {a b c : Expr} {pos : Pos} {f g h : Den T} (ho : OpR X (compareOp op) r) (ho' : OpR X (compareOp op') r') (oo : Op2 X.K CA o r) (oo' : Op2 X.K CA o' r') (ha : PE X a (tD X.K CA W f)) (hb : PE X b (tD X.K CA W g)) (hc : PE X c (tD X.K CA W h))
    (hm : lastMarks [op, op'] [b, c] = false) : PE X (.Compare a [op, op'] [b, c] pos) (tD X.K CA W (eChain o o' f g h)) :=
  pe_imp (pe_chain ho ho' ha hb hc hm) fun σ H Q m => chain_ok oo oo' m
theorem bool_of {f : Den T} {Q : Bool → Hp → Prop} (m : tB K CA W (eBl f) σ H Q) : tD K CA W f σ H fun x H' => ∃ k, x = .bl k ∧ Q k H' := by
  obtain ⟨as, st, ρ, S, E, m⟩ := m
  exact ⟨as, st, ρ, S, E, eg m fun t st1 _ m1 as1 H1 v P1 S1 r1 f1 => bl_ok S1 r1 (ERb.mono P1 m1)⟩
theorem z_chainB {op op' : CmpOp} {o o' : T → T → Store → R T} {r r' : R2} {a b c : Expr} {pos : Pos} {f g h : Den T} (ho : OpR X (compareOp op) r) (ho' : OpR X (compareOp op') r') (oo : Op2 X.K CA o r) (oo' : Op2 X.K CA o' r') (ha : PE X a (tD X.K CA W f)) (hb : PE X b (tD X.K CA W g)) (hc : PE X c (tD X.K CA W h))
    (hm : lastMarks [op, op'] [b, c] = false) : PT X (.Compare a [op, op'] [b, c] pos) (tB X.K CA W (eBl (eChain o o' f g h))) :=
  pt_imp (pt_chain ho ho' ha hb hc hm) fun σ H Q m => chain_ok oo oo' (bool_of m)
def bAnd (f g : Den Bool) : Den Bool := fun ρ st => (f ρ st).bind fun c st => if c then g ρ st else .ok false st
def bOr (f g : Den Bool) : Den Bool := fun ρ st => (f ρ st).bind fun c st => if c then .ok true st else g ρ st
def bNot (f : Den Bool) : Den Bool := fun ρ st => (f ρ st).bind fun c st => .ok (!c) st
theorem z_and {a b : Expr} {rest : List Expr} {pos : Pos} {f g : Den Bool} (ha : PT X a (tB K CA W f)) (hb : PW X (.BoolOp .And (b :: rest) pos) (tB K CA W g)) : PW X (.BoolOp .And (a :: b :: rest) pos) (tB K CA W (bAnd f g)) :=
  pw_imp (pw_and ha hb) fun σ H Q ⟨as, st, ρ, S, E, m⟩ => ⟨as, st, ρ, S, E, eg m fun c st1 _ m1 as1 H1 P1 S1 => by
    dsimp only
    split
    · rename_i h; rw [if_pos h] at m1
      exact ⟨as1, st1, ρ, S1, E.post P1, ERb.mono P1 m1⟩
    · rename_i h; rw [if_neg h] at m1
      exact (ERb.mono P1 m1 : ERb K CA W σ as1 H1 Q (.ok false st1)) as1 H1 Post.refl S1⟩
theorem z_or {a b : Expr} {rest : List Expr} {pos : Pos} {f g : Den Bool} (ha : PT X a (tB K CA W f)) (hb : PW X (.BoolOp .Or (b :: rest) pos) (tB K CA W g)) : PW X (.BoolOp .Or (a :: b :: rest) pos) (tB K CA W (bOr f g)) :=
  pw_imp (pw_or ha hb) fun σ H Q ⟨as, st, ρ, S, E, m⟩ => ⟨as, st, ρ, S, E, eg m fun c st1 _ m1 as1 H1 P1 S1 => by
    dsimp only
    split
    · rename_i h; rw [if_pos h] at m1
      exact (ERb.mono P1 m1 : ERb K CA W σ as1 H1 Q (.ok true st1)) as1 H1 Post.refl S1
    · rename_i h; rw [if_neg h] at m1
      exact ⟨as1, st1, ρ, S1, E.post P1, ERb.mono P1 m1⟩⟩
theorem z_not {a : Expr} {pos : Pos} {f : Den Bool} (ha : PT X a (tB K CA W f)) : PT X (.UnaryOp .Not a pos) (tB K CA W (bNot f)) :=
  pt_imp (pt_not ha) fun σ H Q ⟨as, st, ρ, S, E, m⟩ => ⟨as, st, ρ, S, E, eg m fun c st1 _ m1 as1 H1 P1 S1 => (ERb.mono P1 m1 : ERb K CA W σ as1 H1 Q (.ok (!c) st1)) as1 H1 Post.refl S1⟩
/-- .. as values, of bools -/
def eAnd (f g : Den T) : Den T := fun ρ st => (f ρ st).bind fun t st => (blT t st).bind fun c st => if c then g ρ st else .ok (kBl false) st
def eOr (f g : Den T) : Den T := fun ρ st => (f ρ st).bind fun t st => (blT t st).bind fun c st => if c then .ok (kBl true) st else g ρ st
def eNot (f : Den T) : Den T := fun ρ st => (f ρ st).bind fun t st => (blT t st).bind fun c st => .ok (kBl (!c)) st
theorem blT_bind {α : Type} {G : α → Store → Prop} {t : T} {k : Bool → Store → R α} (m : EG K CA W σ as H G ((blT t st).bind k)) : ∃ b, t = kBl b ∧ EG K CA W σ as H G (k b st) := by
  obtain ⟨b, rfl⟩ := blT_inv (t := t) (st := st) (fun e => by rw [e] at m; exact m)
  exact ⟨b, rfl, m⟩
theorem z_andV {a b : Expr} {rest : List Expr} {pos : Pos} {f g : Den T} (ha : PE X a (tD K CA W f)) (hb : PE X (.BoolOp .And (b :: rest) pos) (tD K CA W g)) : PE X (.BoolOp .And (a :: b :: rest) pos) (tD K CA W (eAnd f g)) :=
  pe_imp (pe_and ha hb) fun σ H Q ⟨as, st, ρ, S, E, m⟩ => ⟨as, st, ρ, S, E, eg m fun t st1 _ m1 as1 H1 v P1 S1 r1 f1 => by
    obtain ⟨c, rfl, m2⟩ := blT_bind (ER.mono P1 m1)
    refine ⟨c, RTbl r1, ?_⟩
    split
    · rename_i h; rw [if_pos h] at m2
      exact ⟨as1, st1, ρ, S1, E.post P1, m2⟩
    · rename_i h; rw [if_neg h] at m2
      exact ER.here S1 m2 RD.bl⟩
theorem z_orV {a b : Expr} {rest : List Expr} {pos : Pos} {f g : Den T} (ha : PE X a (tD K CA W f)) (hb : PE X (.BoolOp .Or (b :: rest) pos) (tD K CA W g)) : PE X (.BoolOp .Or (a :: b :: rest) pos) (tD K CA W (eOr f g)) :=
  pe_imp (pe_or ha hb) fun σ H Q ⟨as, st, ρ, S, E, m⟩ => ⟨as, st, ρ, S, E, eg m fun t st1 _ m1 as1 H1 v P1 S1 r1 f1 => by
    obtain ⟨c, rfl, m2⟩ := blT_bind (ER.mono P1 m1)
    refine ⟨c, RTbl r1, ?_⟩
    split
    · rename_i h; rw [if_pos h] at m2
      exact ER.here S1 m2 RD.bl
    · rename_i h; rw [if_neg h] at m2
      exact ⟨as1, st1, ρ, S1, E.post P1, m2⟩⟩
theorem z_notV {a : Expr} {pos : Pos} {f : Den T} (ha : PE X a (tD K CA W f)) : PE X (.UnaryOp .Not a pos) (tD K CA W (eNot f)) :=
  pe_imp (pe_not ha) fun σ H Q ⟨as, st, ρ, S, E, m⟩ => ⟨as, st, ρ, S, E, eg m fun t st1 _ m1 as1 H1 v P1 S1 r1 f1 => by
    obtain ⟨c, rfl, m2⟩ := blT_bind (ER.mono P1 m1)
    exact ⟨c, RTbl r1, ER.here S1 m2 RD.bl⟩⟩
def eIf (c : Den Bool) (f g : Den T) : Den T := fun ρ st => (c ρ st).bind fun b st => if b then f ρ st else g ρ st
theorem z_if {c a b : Expr} {pos : Pos} {fc : Den Bool} {f g : Den T} (hc : PT X c (tB K CA W fc)) (ha : PE X a (tD K CA W f)) (hb : PE X b (tD K CA W g)) : PE X (.IfExp c a b pos) (tD K CA W (eIf fc f g)) :=
  pe_imp (pe_ifExp hc ha hb) fun σ H Q ⟨as, st, ρ, S, E, m⟩ => ⟨as, st, ρ, S, E, eg m fun c st1 _ m1 as1 H1 P1 S1 => by
    dsimp only
    split
    · rename_i h; rw [if_pos h] at m1
      exact ⟨as1, st1, ρ, S1, E.post P1, ER.mono P1 m1⟩
    · rename_i h; rw [if_neg h] at m1
      exact ⟨as1, st1, ρ, S1, E.post P1, ER.mono P1 m1⟩⟩

end
end Z
set_option Elab.async false
set_option linter.all false
set_option maxRecDepth 100000
set_option maxHeartbeats 4000000
/-! Z, part E: subscripts, slices, membership, built-ins, methods of built-in types. -/
namespace Z
open PySem PySem.Spec PyProof.Rows L2
section
variable {K : PySem.W.Frag} {CA : Nat → Addr} {W : WX} {as as1 as2 : List Addr} {H H1 H2 : Hp} {st st1 st2 : Store} {ρ : Rho} {σ : L2.St} {Q : VK} {X : Cx}

/-! ### subscripts -/
def oIxL (i : Int) (a : T) (st : Store) : R T := match rdL a st with
  | some ds => match atI ds i with
    | some d => .ok (.d d) st
    | none => .bad
  | none => match tupOf a with
    | some ds => match atI ds i with
      | some d => .ok (.d d) st
      | none => .bad
    | none => .bad
def oIx (a b : T) (st : Store) : R T :=
  match a, b with
  | .d (.p (.str z)), .d (.p (.int i)) => match (if z.length ≤ sizeLine then atI z.cps.toList i else none) with
    | some c => .ok (kStr ⟨#[c]⟩) st
    | none => .bad
  | a, .d (.p (.int i)) => oIxL i a st
  | _, _ => .bad
theorem oIx_inv {a b : T} {st : Store} (h : oIx a b st ≠ .bad) : ∃ i, b = kInt i ∧ ((∃ z, a = kStr z) ∨ oIx a b st = oIxL i a st) := by
  unfold oIx at h ⊢
  split at h
  · exact ⟨_, rfl, .inl ⟨_, rfl⟩⟩
  · exact ⟨_, rfl, .inr rfl⟩
  · exact (h rfl).elim
theorem atI_rel {ds : List D} {vs : List V} {i : Int} {d : D} (r : RDs K as H ds vs) (h : atI ds i = some d) : ∃ v, atI vs i = some v ∧ RD K as H d v := by
  unfold atI at h ⊢
  rw [r.len]
  cases e : ixN ds.length i with
  | none => rw [e] at h; cases h
  | some j =>
    rw [e] at h
    exact r.get h
theorem ix_ok : Op2 K CA oIx (rIx K) := by
  intro W σ as st H t1 t2 v1 v2 Q S r1 r2 m
  obtain ⟨i, rfl, ⟨z, rfl⟩ | e⟩ := oIx_inv (nb m)
  · have m : ER K CA W σ as H Q (match (if z.length ≤ sizeLine then atI z.cps.toList i else none) with
      | some c => .ok (kStr ⟨#[c]⟩) st
      | none => .bad) := m
    split at m
    · rename_i c e
      split at e
      · rename_i h
        exact .inr (.inr ⟨z, i, c, RTstr r1, RTint r2, h, e, ER.here S m RD.str⟩)
      · cases e
    · exact m.elim
  · rw [e] at m
    unfold oIxL at m
    split at m
    · rename_i ds e1
      split at m
      · rename_i d e2
        obtain ⟨a, vs, ea, q1, q2⟩ := rdL_ok S r1 e1
        obtain ⟨v, q3, q4⟩ := atI_rel q2 e2
        exact .inl ⟨a, vs, i, v, ea, RTint r2, q1, q3, ER.here S m q4⟩
      · exact m.elim
    · split at m
      · rename_i ds e1
        split at m
        · rename_i d e2
          obtain ⟨a, vs, ea, q1, q2⟩ := tupOf_ok r1 e1
          obtain ⟨v, q3, q4⟩ := atI_rel q2 e2
          exact .inr (.inl ⟨a, vs, i, v, ea, RTint r2, q1, q3, ER.here S m q4⟩)
        · exact m.elim
      · exact m.elim
theorem z_ix {a b : Expr} {pos : Pos} {f g : Den T} (ha : PE X a (tD X.K CA W f)) (hb : PE X b (tD X.K CA W g)) (hs : PlainIx b) : PE X (.Subscript a b pos) (tD X.K CA W (eBin oIx f g)) :=
  pe_imp (pe_ix ix_seq ha hb hs) fun σ H Q m => tOp_ok ix_ok m

/-! ### slices -/
def cutD {α : Type} (xs : List α) (lo hi : Option Int) : List α := (xs.drop (HT.sIx xs.length 0 lo)).take (HT.sIx xs.length xs.length hi - HT.sIx xs.length 0 lo)
theorem cut_rel {ds : List D} {vs : List V} {lo hi : Option Int} (r : RDs K as H ds vs) : RDs K as H (cutD ds lo hi) (cutV vs lo hi) := by
  unfold cutD cutV
  rw [r.len]
  exact (r.drop _).take _
def oSlL (lo hi : Option Int) (a : T) (st : Store) : R T := match rdL a st with
  | some ds => .ok (.l (cutD ds lo hi)) st
  | none => match tupOf a with
    | some ds => .ok (.d (mkTup (cutD ds lo hi))) st
    | none => .bad
def oSl (lo hi : Option Int) (a : T) (st : Store) : R T :=
  match a with
  | .d (.p (.str z)) => if z.length ≤ sizeLine then .ok (kStr (cutS z lo hi)) st else .bad
  | a => oSlL lo hi a st
theorem oSl_inv {lo hi : Option Int} {a : T} {st : Store} : (∃ z, a = kStr z) ∨ oSl lo hi a st = oSlL lo hi a st := by
  unfold oSl; split
  · exact .inl ⟨_, rfl⟩
  · exact .inr rfl
def rSlAll (K : PySem.W.Frag) : V → Option Int → Option Int → Hp → VK → Prop := fun x lo hi H Q => rSlS x lo hi H Q ∨ rSlL K x lo hi H Q ∨ rSlA K x lo hi H Q
theorem sl_all : SlR X (rSlAll X.K) := sl_str.or (sl_list.or sl_tupA)
theorem sl_ok {lo hi : Option Int} {t : T} {v : V} (S : Sim K CA as st H) (r : RT K as H t v) (m : ER K CA W σ as H Q (oSl lo hi t st)) : rSlAll K v lo hi H Q := by
  rcases oSl_inv (lo := lo) (hi := hi) (a := t) (st := st) with ⟨z, rfl⟩ | e
  · have m : ER K CA W σ as H Q (if z.length ≤ sizeLine then .ok (kStr (cutS z lo hi)) st else .bad) := m
    split at m
    · rename_i h
      exact .inl ⟨z, RTstr r, h, ER.here S m RD.str⟩
    · exact m.elim
  · rw [e] at m
    unfold oSlL at m
    split at m
    · rename_i ds e1
      obtain ⟨a, vs, ea, q1, q2⟩ := rdL_ok S r e1
      exact .inr (.inl ⟨a, vs, ea, q1, ER.new S m (cut_rel q2)⟩)
    · split at m
      · rename_i ds e1
        obtain ⟨a, vs, ea, q1, q2⟩ := tupOf_ok r e1
        refine .inr (.inr ⟨a, vs, ea, q1, fun ⟨z1, z2⟩ => ?_, fun _ => ER.newT S m (cut_rel q2)⟩)
        have e3 : cutD ds lo hi = ds := by
          unfold cutD
          rw [q2.len] at z1 z2
          rw [z1, z2]
          simp
        rw [e3] at m
        exact ER.here S m (mkTup_ok q1 q2)
      · exact m.elim
/-- an optional bound -/
def eNo : Den (Option Int) := fun _ st => .ok none st
def intT (t : T) (st : Store) : R (Option Int) := match t with
  | .d (.p (.int i)) => .ok (some i) st
  | _ => .bad
def eBd (f : Den T) : Den (Option Int) := fun ρ st => (f ρ st).bind intT
def GO (K : PySem.W.Frag) (CA : Nat → Addr) (as : List Addr) (H : Hp) (Q : Option Int → Hp → Prop) (t : Option Int) (st' : Store) : Prop := ∀ as' H', Post as H as' H' → Sim K CA as' st' H' → Q t H'
def tO (K : PySem.W.Frag) (CA : Nat → Addr) (W : WX) (f : Den (Option Int)) : TO := fun σ H Q => ∃ as st ρ, Sim K CA as st H ∧ RE K as H ρ σ ∧ EG K CA W σ as H (GO K CA as H Q) (f ρ st)
theorem EGo.mono {Q : Option Int → Hp → Prop} {r : R (Option Int)} (P : Post as H as1 H1) (h : EG K CA W σ as H (GO K CA as H Q) r) : EG K CA W σ as1 H1 (GO K CA as1 H1 Q) r := by
  cases r with
  | ok t st' => exact fun as' H' P' => h as' H' (P.trans P')
  | exn C fs st' => exact ERx.mono P h
  | bad => exact h
theorem po_imp {e : Option Expr} {t t' : TO} (h : PO X e t) (i : ∀ σ H Q, t' σ H Q → t σ H Q) : PO X e t' := ⟨fun pins s σ H Q I hw => h.run pins s σ H Q I (i σ H Q hw)⟩
theorem z_no : PO X none (tO K CA W eNo) := po_imp po_none fun σ H Q ⟨as, st, ρ, S, E, m⟩ => m as H Post.refl S
theorem z_bd {e : Expr} {f : Den T} (h : PE X e (tD K CA W f)) : PO X (some e) (tO K CA W (eBd f)) :=
  po_imp (po_some h) fun σ H Q ⟨as, st, ρ, S, E, m⟩ => ⟨as, st, ρ, S, E, eg m fun t st1 _ m1 as1 H1 v P1 S1 r1 f1 => by
    have m2 := EGo.mono P1 m1
    unfold intT at m2
    split at m2
    · exact ⟨_, RTint r1, m2 as1 H1 Post.refl S1⟩
    · exact m2.elim⟩
def eSl (f : Den T) (l h : Den (Option Int)) : Den T := fun ρ st => (f ρ st).bind fun a st => (l ρ st).bind fun lo st => (h ρ st).bind fun hi st => oSl lo hi a st
theorem z_sl {e : Expr} {lo hi : Option Expr} {p2 pos : Pos} {f : Den T} {l h : Den (Option Int)} (he : PE X e (tD X.K CA W f)) (hl : PO X lo (tO X.K CA W l)) (hh : PO X hi (tO X.K CA W h)) : PE X (.Subscript e (.Slice lo hi none p2) pos) (tD X.K CA W (eSl f l h)) :=
  pe_imp (pe_slice sl_all he hl hh) fun σ H Q ⟨as, st, ρ, S, E, m⟩ => ⟨as, st, ρ, S, E, eg m fun t st1 _ m1 as1 H1 v P1 S1 r1 f1 =>
    ⟨as1, st1, ρ, S1, E.post P1, eg (ER.mono P1 m1) fun a st2 _ m2 as2 H2 P2 S2 => ⟨as2, st2, ρ, S2, (E.post P1).post P2, eg (ER.mono P2 m2) fun b st3 _ m3 as3 H3 P3 S3 =>
      sl_ok S3 ((r1.up P2).up P3) (ER.mono P3 m3)⟩⟩⟩

/-! ### in, not in -/
def toV? : D → Option V
  | .p .non => some .non
  | .p (.bl b) => some (.bl b)
  | .p (.int i) => some (.int i)
  | .p (.str x) => some (.str x)
  | _ => none
theorem toV_ok {d : D} {v x : V} (r : RD K as H d v) (h : toV? d = some x) : v = x ∧ flatV x = true := by
  cases d with
  | p y =>
    cases y with
    | non => cases h; exact ⟨RDnon r, rfl⟩
    | bl b => cases h; exact ⟨RDbl r, rfl⟩
    | int b => cases h; exact ⟨RDint r, rfl⟩
    | str b => cases h; exact ⟨RDstr r, rfl⟩
    | tup b => cases h
  | ref k => cases h
  | tup k => cases h
  | kl k => cases h
def toVs? : List D → Option (List V)
  | [] => some []
  | d :: ds => match toV? d with
    | some v => (toVs? ds).map (v :: ·)
    | none => none
theorem toVs_ok : ∀ {ds : List D} {vs xs : List V}, RDs K as H ds vs → toVs? ds = some xs → vs = xs ∧ xs.all flatV = true
  | [], vs, xs, r, h => by unfold RDs at r; cases h; exact ⟨r, rfl⟩
  | d :: ds, vs, xs, r, h => by
    unfold RDs at r
    obtain ⟨v, r', e, h1, h2⟩ := r
    unfold toVs? at h
    split at h
    · rename_i y ey
      cases e2 : toVs? ds with
      | none => rw [e2] at h; cases h
      | some ys =>
        rw [e2] at h
        cases h
        obtain ⟨q1, q2⟩ := toV_ok h1 ey
        obtain ⟨q3, q4⟩ := toVs_ok h2 e2
        exact ⟨by rw [e, q1, q3], by rw [List.all_cons, q2, q4]; rfl⟩
    · cases h
def strIn (i j : Str) : Bool := !(Builtin.Str.occurrences j i 0 j.length 1).isEmpty
def oInL (neg : Bool) (a b : T) (st : Store) : R T := match a with
  | .d a => match toV? a, ((rdL b st).orElse fun _ => tupOf b).bind toVs? with
    | some x, some xs => .ok (kBl (if neg then !inV x xs else inV x xs)) st
    | _, _ => .bad
  | _ => .bad
def oIn (neg : Bool) (a b : T) (st : Store) : R T :=
  match a, b with
  | .d (.p (.str i)), .d (.p (.str j)) => .ok (kBl (if neg then !strIn i j else strIn i j)) st
  | a, b => oInL neg a b st
theorem oIn_inv {neg : Bool} {a b : T} {st : Store} : (∃ i j, a = kStr i ∧ b = kStr j) ∨ oIn neg a b st = oInL neg a b st := by
  unfold oIn; split
  · exact .inl ⟨_, _, rfl, rfl⟩
  · exact .inr rfl
theorem orElse_bind {α β : Type} {a b : Option α} {f : α → Option β} {y : β} (h : (a.orElse fun _ => b).bind f = some y) : (∃ x, a = some x ∧ f x = some y) ∨ ∃ x, b = some x ∧ f x = some y := by
  cases a with
  | some x => exact .inl ⟨x, rfl, h⟩
  | none =>
    cases b with
    | none => cases h
    | some x => exact .inr ⟨x, rfl, h⟩
def rInA (K : PySem.W.Frag) : R2 := fun x y H Q => (∃ i j, x = .str i ∧ y = .str j ∧ Q (.bl (!(Builtin.Str.occurrences j i 0 j.length 1).isEmpty)) H) ∨ rIn K false x y H Q
def rNotInA (K : PySem.W.Frag) : R2 := fun x y H Q => (∃ i j, x = .str i ∧ y = .str j ∧ Q (.bl (!(!(Builtin.Str.occurrences j i 0 j.length 1).isEmpty))) H) ∨ rIn K true x y H Q
theorem op_inA : OpR X (compareOp .In) (rInA X.K) := op_in_str.or op_in_seq
theorem op_notInA : OpR X (compareOp .NotIn) (rNotInA X.K) := op_notIn_str.or op_notIn_seq
theorem inL_ok {neg : Bool} {t1 t2 : T} {v1 v2 : V} (S : Sim K CA as st H) (r1 : RT K as H t1 v1) (r2 : RT K as H t2 v2) (m : ER K CA W σ as H Q (oInL neg t1 t2 st)) : rIn K neg v1 v2 H Q := by
  unfold oInL at m
  split at m
  · split at m
    · rename_i x xs e1 e2
      obtain ⟨q1, q2⟩ := toV_ok r1 e1
      rcases orElse_bind e2 with ⟨ds, e3, e4⟩ | ⟨ds, e3, e4⟩
      · obtain ⟨a, vs, ea, q3, q4⟩ := rdL_ok S r2 e3
        obtain ⟨q5, q6⟩ := toVs_ok q4 e4
        rw [q1]
        rw [q5] at q3
        exact ⟨a, xs, ea, .inl q3, q2, q6, ER.here S m RD.bl⟩
      · obtain ⟨a, vs, ea, q3, q4⟩ := tupOf_ok r2 e3
        obtain ⟨q5, q6⟩ := toVs_ok q4 e4
        rw [q1]
        rw [q5] at q3
        exact ⟨a, xs, ea, .inr q3, q2, q6, ER.here S m RD.bl⟩
    · exact m.elim
  · exact m.elim
theorem in_ok : Op2 K CA (oIn false) (rInA K) := by
  intro W σ as st H t1 t2 v1 v2 Q S r1 r2 m
  rcases oIn_inv (neg := false) (a := t1) (b := t2) (st := st) with ⟨i, j, rfl, rfl⟩ | e
  · have m : ER K CA W σ as H Q (.ok (kBl (strIn i j)) st) := m
    exact .inl ⟨i, j, RTstr r1, RTstr r2, ER.here S m RD.bl⟩
  · rw [e] at m; exact .inr (inL_ok S r1 r2 m)
theorem notIn_ok : Op2 K CA (oIn true) (rNotInA K) := by
  intro W σ as st H t1 t2 v1 v2 Q S r1 r2 m
  rcases oIn_inv (neg := true) (a := t1) (b := t2) (st := st) with ⟨i, j, rfl, rfl⟩ | e
  · have m : ER K CA W σ as H Q (.ok (kBl (!strIn i j)) st) := m
    exact .inl ⟨i, j, RTstr r1, RTstr r2, ER.here S m RD.bl⟩
  · rw [e] at m; exact .inr (inL_ok S r1 r2 m)
/-- is None, is not None -/
def oIs (neg : Bool) (a b : T) (st : Store) : R T := match b with
  | .d (.p .non) => match a with
    | .d (.p .non) => .ok (kBl !neg) st
    | _ => .ok (kBl neg) st
  | _ => .bad

/-! ### calls of built-ins by values -/
def Op1 (K : PySem.W.Frag) (CA : Nat → Addr) (op : T → Store → R T) (r : List V → Hp → VK → Prop) : Prop := ∀ (W : WX) (σ : L2.St) (as : List Addr) (st : Store) (H : Hp) (t : T) (v : V) (Q : VK),
  Sim K CA as st H → RT K as H t v → ER K CA W σ as H Q (op t st) → r [v] H Q
def e1 (op : T → Store → R T) (f : Den T) : Den T := fun ρ st => (f ρ st).bind op
theorem t1_ok {op : T → Store → R T} {r : List V → Hp → VK → Prop} {f : Den T} (o : Op1 K CA op r) (m : tD K CA W (e1 op f) σ H Q) : tCB r (tCons (tD K CA W f) tNil) σ H Q := by
  obtain ⟨as, st, ρ, S, E, m⟩ := m
  exact ⟨as, st, ρ, S, E, eg m fun t st1 _ m1 as1 H1 v P1 S1 r1 f1 => o W σ as1 st1 H1 t v Q S1 r1 (ER.mono P1 m1)⟩
theorem z_b1 {x : Str} {p pos : Pos} {e : Expr} {id : String} {op : T → Store → R T} {r : List V → Hp → VK → Prop} {f : Den T} (hc : CallR X (.builtin id) r) (o : Op1 X.K CA op r) (he : PE X e (tD X.K CA W f)) (hg : Gl X x) (hm : X.mg x = none) (hv : bootBuiltins x = some (.builtin id))
    (hn : x ≠ "__name__") (hdb : (x == ("__debug__" : Str)) = false) (hs : starEach [e] X.env = (false, eval e X.env) :: starEach [] X.env) : PE X (.Call (.Name x p) [e] [] pos) (tD X.K CA W (e1 op f)) :=
  pe_imp (pe_callB hc hg hm hv (pa_cons he pa_nil hs) hn hdb hs rfl) fun σ H Q m => t1_ok o m
theorem z_t1 {x : Str} {p pos : Pos} {e : Expr} {T : String} {op : Z.T → Store → R Z.T} {r : List V → Hp → VK → Prop} {f : Den Z.T} (hc : CallR X (.type T) r) (o : Op1 X.K CA op r) (he : PE X e (tD X.K CA W f)) (hg : Gl X x) (hm : X.mg x = none) (hv : bootBuiltins x = some (.type T))
    (hn : x ≠ "__name__") (hdb : (x == ("__debug__" : Str)) = false) (hs : starEach [e] X.env = (false, eval e X.env) :: starEach [] X.env) : PE X (.Call (.Name x p) [e] [] pos) (tD X.K CA W (e1 op f)) :=
  pe_imp (pe_callTy hc hg hm hv (pa_cons he pa_nil hs) hn hdb hs rfl) fun σ H Q m => t1_ok o m
def OpN (K : PySem.W.Frag) (CA : Nat → Addr) (op : List D → Store → R T) (r : List V → Hp → VK → Prop) : Prop := ∀ (W : WX) (σ : L2.St) (as : List Addr) (st : Store) (H : Hp) (ds : List D) (vs : List V) (Q : VK),
  Sim K CA as st H → RDs K as H ds vs → ER K CA W σ as H Q (op ds st) → r vs H Q
def eN (op : List D → Store → R T) (f : Den (List D)) : Den T := fun ρ st => (f ρ st).bind op
theorem tN_ok {op : List D → Store → R T} {r : List V → Hp → VK → Prop} {f : Den (List D)} (o : OpN K CA op r) (m : tD K CA W (eN op f) σ H Q) : tCB r (tL K CA W f) σ H Q := by
  obtain ⟨as, st, ρ, S, E, m⟩ := m
  exact ⟨as, st, ρ, S, E, eg m fun t st1 _ m1 as1 H1 v P1 S1 r1 => o W σ as1 st1 H1 t v Q S1 r1 (ER.mono P1 m1)⟩

/-- len -/
def oLen (t : T) (st : Store) : R T :=
  match t with
  | .d (.p (.str y)) => if y.length ≤ sizeLine then .ok (kInt y.length) st else .bad
  | t => match rdL t st with
    | some ds => .ok (kInt ds.length) st
    | none => match tupOf t with
      | some ds => .ok (kInt ds.length) st
      | none => .bad
def rLen (K : PySem.W.Frag) : List V → Hp → VK → Prop := fun xs H Q => ∃ x n, xs = [x] ∧ LenV K x H n ∧ Q (.int n) H
theorem len_ok : Op1 K CA oLen (rLen K) := by
  intro W σ as st H t v Q S r m
  have go : ER K CA W σ as H Q (match rdL t st with
    | some ds => .ok (kInt ds.length) st
    | none => match tupOf t with
      | some ds => .ok (kInt ds.length) st
      | none => .bad) → rLen K [v] H Q := fun m => by
    split at m
    · rename_i ds e
      obtain ⟨a, vs, ea, q1, q2⟩ := rdL_ok S r e
      subst ea
      exact ⟨_, ds.length, rfl, .inl ⟨vs, q1, by rw [q2.len]⟩, ER.here S m RD.int⟩
    · split at m
      · rename_i ds e
        obtain ⟨a, vs, ea, q1, q2⟩ := tupOf_ok r e
        subst ea
        exact ⟨_, ds.length, rfl, .inr ⟨vs, q1, by rw [q2.len]⟩, ER.here S m RD.int⟩
      · exact m.elim
  unfold oLen at m
  split at m
  · split at m
    · rename_i y h
      rw [RTstr r]
      exact ⟨_, _, rfl, ⟨h, rfl⟩, ER.here S m RD.int⟩
    · exact m.elim
  · exact go m
/-- int(x), x an int or a bool -/
def oToInt (t : T) (st : Store) : R T := match t with
  | .d (.p (.int i)) => .ok (kInt i) st
  | .d (.p (.bl b)) => .ok (kInt (if b then 1 else 0)) st
  | _ => .bad
theorem toInt_ok : Op1 K CA oToInt (fun xs H Q => (∃ i, xs = [.int i] ∧ Q (.int i) H) ∨ ∃ k, xs = [.bl k] ∧ Q (.int (if k then 1 else 0)) H) := by
  intro W σ as st H t v Q S r m
  unfold oToInt at m
  split at m
  · rw [RTint r]; exact .inl ⟨_, rfl, ER.here S m RD.int⟩
  · rw [RTbl r]; exact .inr ⟨_, rfl, ER.here S m RD.int⟩
  · exact m.elim
/-- tuple(x) -/
def oTuple (t : T) (st : Store) : R T := match rdL t st with
  | some ds => .ok (.d (mkTup ds)) st
  | none => match tupOf t with
    | some ds => .ok (.d (mkTup ds)) st
    | none => .bad
def rTuple (K : PySem.W.Frag) : List V → Hp → VK → Prop := fun xs H Q => ∃ p ys, xs = [.ref p] ∧ ((SqL K H p ys ∧ ∀ l, H l = none → Q (.ref l) (upd H l (.tup ys))) ∨ (SqT K H p ys ∧ Q (.ref p) H))
theorem tuple_ok : Op1 K CA oTuple (rTuple K) := by
  intro W σ as st H t v Q S r m
  unfold oTuple at m
  split at m
  · rename_i ds e
    obtain ⟨a, vs, ea, q1, q2⟩ := rdL_ok S r e
    subst ea
    exact ⟨a, vs, rfl, .inl ⟨q1, ER.newT S m q2⟩⟩
  · split at m
    · rename_i ds e
      obtain ⟨a, vs, ea, q1, q2⟩ := tupOf_ok r e
      subst ea
      exact ⟨a, vs, rfl, .inr ⟨q1, ER.here S m (mkTup_ok q1 q2)⟩⟩
    · exact m.elim
/-- list(x) -/
def oList (t : T) (st : Store) : R T := match (rdL t st).orElse fun _ => tupOf t with
  | some ds => .ok (.l ds) st
  | none => .bad
def rListC (K : PySem.W.Frag) : List V → Hp → VK → Prop := fun xs H Q => ∃ p ys, xs = [.ref p] ∧ (SqL K H p ys ∨ SqT K H p ys) ∧ ∀ l, H l = none → Q (.ref l) (upd H l (.lst ys))
theorem list_ok : Op1 K CA oList (rListC K) := by
  intro W σ as st H t v Q S r m
  unfold oList at m
  cases e1 : rdL t st with
  | some ds =>
    rw [e1] at m
    have m : ER K CA W σ as H Q (.ok (.l ds) st) := m
    obtain ⟨a, vs, ea, q1, q2⟩ := rdL_ok S r e1
    subst ea
    exact ⟨a, vs, rfl, .inl q1, ER.new S m q2⟩
  | none =>
    rw [e1] at m
    cases e2 : tupOf t with
    | none => rw [e2] at m; exact m.elim
    | some ds =>
      rw [e2] at m
      have m : ER K CA W σ as H Q (.ok (.l ds) st) := m
      obtain ⟨a, vs, ea, q1, q2⟩ := tupOf_ok r e2
      subst ea
      exact ⟨a, vs, rfl, .inr q1, ER.new S m q2⟩
/-- max(a, b) of ints -/
def oMax2 (ds : List D) (st : Store) : R T := match ds with
  | [.p (.int i), .p (.int j)] => .ok (kInt (if j > i then j else i)) st
  | _ => .bad
theorem max2_ok : OpN K CA oMax2 (fun xs H Q => ∃ i j, xs = [.int i, .int j] ∧ Q (.int (if j > i then j else i)) H) := by
  intro W σ as st H ds vs Q S r m
  unfold oMax2 at m
  split at m
  · unfold RDs at r
    obtain ⟨v, r1, e1, h1, h2⟩ := r
    unfold RDs at h2
    obtain ⟨v2, r2, e2, h3, h4⟩ := h2
    unfold RDs at h4
    rw [e1, e2, h4, RDint h1, RDint h3]
    exact ⟨_, _, rfl, ER.here S m RD.int⟩
  · exact m.elim
/-- all(xs), any(xs), xs bools -/
def bls? : List D → Option (List Bool)
  | [] => some []
  | .p (.bl b) :: ds => (bls? ds).map (b :: ·)
  | _ => none
theorem bls_ok : ∀ {ds : List D} {vs : List V} {bs : List Bool}, RDs K as H ds vs → bls? ds = some bs → vs = bs.map V.bl
  | [], vs, bs, r, h => by unfold RDs at r; cases h; exact r
  | d :: ds, vs, bs, r, h => by
    unfold RDs at r
    obtain ⟨v, r1, e1, h1, h2⟩ := r
    unfold bls? at h
    split at h
    · rename_i q; cases q
    · rename_i b es q
      cases q
      cases e : bls? ds with
      | none => rw [e] at h; cases h
      | some cs =>
        rw [e] at h
        cases h
        rw [e1, RDbl h1, bls_ok h2 e]; rfl
    · cases h
def oAll (t : T) (st : Store) : R T := match (rdL t st).bind bls? with
  | some bs => .ok (kBl (bs.all id)) st
  | none => .bad
theorem all_ok : Op1 K CA oAll (rAll K) := by
  intro W σ as st H t v Q S r m
  unfold oAll at m
  split at m
  · rename_i bs e
    cases e1 : rdL t st with
    | none => rw [e1] at e; cases e
    | some ds =>
      rw [e1] at e
      obtain ⟨a, vs, ea, q1, q2⟩ := rdL_ok S r e1
      rw [bls_ok q2 e] at q1
      rw [ea]
      exact ⟨a, bs, rfl, q1, ER.here S m RD.bl⟩
  · exact m.elim

/-! ### methods of lists -/
def OpM (K : PySem.W.Frag) (CA : Nat → Addr) (op : T → List D → Store → R T) (r : V → List V → Hp → VK → Prop) : Prop := ∀ (W : WX) (σ : L2.St) (as : List Addr) (st : Store) (H : Hp) (t : T) (v : V) (ds : List D) (vs : List V) (Q : VK),
  Sim K CA as st H → RT K as H t v → RDs K as H ds vs → ER K CA W σ as H Q (op t ds st) → r v vs H Q
/-- the receiver is of that type -/
def isTy (ty : String) (t : T) (st : Store) : Bool := match t with
  | .d (.p (.str _)) => ty == "str"
  | .d (.p (.int _)) => ty == "int"
  | t => ty == "list" && (rdL t st).isSome
theorem isTy_ok {ty : String} {t : T} {v : V} (S : Sim K CA as st H) (r : RT K as H t v) (h : isTy ty t st = true) : tyV K ty v H := by
  unfold isTy at h
  split at h
  · rw [RTstr r]; exact beq_iff_eq.mp h
  · rw [RTint r]; exact beq_iff_eq.mp h
  · rw [Bool.and_eq_true] at h
    cases e : rdL t st with
    | none => rw [e] at h; cases h.2
    | some ds =>
      obtain ⟨a, vs, ea, q1, q2⟩ := rdL_ok S r e
      subst ea
      exact .inl ⟨beq_iff_eq.mp h.1, vs, q1⟩
def eMeth (ty : String) (op : T → List D → Store → R T) (f : Den T) (g : Den (List D)) : Den T := fun ρ st => (f ρ st).bind fun t st => if isTy ty t st then (g ρ st).bind fun ds st => op t ds st else .bad
theorem tM_ok {ty : String} {op : T → List D → Store → R T} {r : V → List V → Hp → VK → Prop} {f : Den T} {g : Den (List D)} (o : OpM K CA op r) (m : tD K CA W (eMeth ty op f g) σ H Q) : tBM K ty r (tD K CA W f) (tL K CA W g) σ H Q := by
  obtain ⟨as, st, ρ, S, E, m⟩ := m
  refine ⟨as, st, ρ, S, E, eg m fun t st1 _ m1 as1 H1 v P1 S1 r1 f1 => ?_⟩
  have m2 := ER.mono P1 m1
  split at m2
  · rename_i h
    exact ⟨isTy_ok S1 r1 h, as1, st1, ρ, S1, E.post P1, eg m2 fun ds st2 _ m3 as2 H2 vs P2 S2 r2 => o W σ as2 st2 H2 t v ds vs Q S2 (r1.up P2) r2 (ER.mono P2 m3)⟩
  · exact m2.elim
theorem tM0_ok {ty : String} {op : T → List D → Store → R T} {r : V → List V → Hp → VK → Prop} {f : Den T} (o : OpM K CA op r) (m : tD K CA W (eMeth ty op f eNil) σ H Q) : tBM0 K ty r (tD K CA W f) σ H Q := by
  obtain ⟨as, st, ρ, S, E, m⟩ := m
  refine ⟨as, st, ρ, S, E, eg m fun t st1 _ m1 as1 H1 v P1 S1 r1 f1 => ?_⟩
  have m2 := ER.mono P1 m1
  split at m2
  · rename_i h
    exact ⟨isTy_ok S1 r1 h, o W σ as1 st1 H1 t v [] [] Q S1 r1 RDs.nil m2⟩
  · exact m2.elim
/-- the list that a value holds in the store: its place, its items -/
def plc (t : T) (st : Store) : Option (Nat × List D) := match t with
  | .d (.ref k) => match st[k]? with
    | some (.lst ds) => some (k, ds)
    | _ => none
  | _ => none
theorem plc_ok {t : T} {v : V} {k : Nat} {ds : List D} (S : Sim K CA as st H) (r : RT K as H t v) (h : plc t st = some (k, ds)) : ∃ a vs, v = .ref a ∧ as[k]? = some a ∧ H a = some (.lst vs) ∧ RDs K as H ds vs := by
  unfold plc at h
  split at h
  · split at h
    · rename_i k' ds' e
      cases h
      have r : RD K as H (.ref k) v := r
      unfold RD at r
      obtain ⟨a, e1, e2⟩ := r
      obtain ⟨vs, q1, q2⟩ := S.obj k a _ e1 e
      exact ⟨a, vs, e2, e1, q1, q2⟩
    · cases h
  · cases h
/-- a list of the store is written -/
theorem ER.put {k : Nat} {a : Addr} {ds : List D} {vs : List V} {x : D} {v : V} (S : Sim K CA as st H) (h : ER K CA W σ as H Q (.ok (.d x) (st.set k (.lst ds)))) (e : as[k]? = some a) (hl : ∃ ws, H a = some (.lst ws)) (r : RDs K as H ds vs) (rv : RD K as H x v) : Q v (upd H a (.lst vs)) := by
  have u : Up H (upd H a (.lst vs)) := by
    obtain ⟨ws, hw⟩ := hl
    refine ⟨fun b xs q => ?_, fun b o u q => ?_, fun b f q => ?_⟩
    · rw [upd_ne]; exact q
      rintro rfl; rw [hw] at q; cases q
    · rw [upd_ne]; exact q
      rintro rfl; rw [hw] at q; cases q
    · rw [upd_ne]; exact q
      rintro rfl; rw [hw] at q; cases q
  obtain ⟨S', P⟩ := S.set (o := .lst ds) e (fun f z => by obtain ⟨ws, hw⟩ := hl; rw [hw] at z; cases z) ⟨vs, upd_same, r.up u fun _ _ h => h⟩
  exact h as _ v P S' (rv.up u fun _ _ h => h) trivial
def mAppend (t : T) (ds : List D) (st : Store) : R T := match plc t st, ds with
  | some (k, xs), [d] => if xs.length < sizeLine then .ok (.d (.p .non)) (st.set k (.lst (xs ++ [d]))) else .bad
  | _, _ => .bad
theorem append_ok : OpM K CA mAppend rAppend := by
  intro W σ as st H t v ds vs Q S r rs m
  unfold mAppend at m
  split at m
  · split at m
    · rename_i k xs d e h
      obtain ⟨a, ws, ea, e1, q1, q2⟩ := plc_ok S r e
      unfold RDs at rs
      obtain ⟨y, r', ey, h1, h2⟩ := rs
      unfold RDs at h2
      subst h2
      exact ⟨a, ws, y, ea, ey, q1, by rw [q2.len]; exact h, ER.put S m e1 ⟨_, q1⟩ (q2.app (RDs.cons h1 RDs.nil)) RD.non⟩
    · exact m.elim
  · exact m.elim
def mPopAt (t : T) (ds : List D) (st : Store) : R T := match plc t st, ds with
  | some (k, xs), [.p (.int i)] => if -(2 ^ 63) ≤ i ∧ i < 2 ^ 63 then match seqIndex? i xs.length with
      | some j => match xs[j]? with
        | some d => .ok (.d d) (st.set k (.lst (xs.eraseIdx j)))
        | none => .bad
      | none => .bad
    else .bad
  | _, _ => .bad
theorem popAt_ok : OpM K CA mPopAt rPopAt := by
  intro W σ as st H t v ds vs Q S r rs m
  unfold mPopAt at m
  split at m
  · split at m
    · rename_i k xs i e h
      split at m
      · rename_i j ej
        split at m
        · rename_i d ed
          obtain ⟨a, ws, ea, e1, q1, q2⟩ := plc_ok S r e
          unfold RDs at rs
          obtain ⟨y, r', ey, h1, h2⟩ := rs
          unfold RDs at h2
          subst h2
          rw [RDint h1] at ey
          obtain ⟨y', q3, q4⟩ := q2.get ed
          exact ⟨a, ws, i, j, y', ea, ey, q1, h.1, h.2, by rw [q2.len]; exact ej, q3, ER.put S m e1 ⟨_, q1⟩ (q2.erase j) q4⟩
        · exact m.elim
      · exact m.elim
    · exact m.elim
  · exact m.elim
def mPop (t : T) (ds : List D) (st : Store) : R T := match plc t st, ds with
  | some (k, xs), [] => match xs[xs.length - 1]? with
    | some d => .ok (.d d) (st.set k (.lst xs.dropLast))
    | none => .bad
  | _, _ => .bad
theorem RDs.dropLast {xs : List D} {vs : List V} (h : RDs K as H xs vs) : RDs K as H xs.dropLast vs.dropLast := by
  rw [List.dropLast_eq_take, List.dropLast_eq_take, h.len]
  exact h.take _
theorem pop_ok : OpM K CA mPop rPop := by
  intro W σ as st H t v ds vs Q S r rs m
  unfold mPop at m
  split at m
  · split at m
    · rename_i k xs e _ d ed
      obtain ⟨a, ws, ea, e1, q1, q2⟩ := plc_ok S r e
      unfold RDs at rs
      obtain ⟨y', q3, q4⟩ := q2.get ed
      exact ⟨a, ws, y', ea, rs, q1, by rw [q2.len]; exact q3, ER.put S m e1 ⟨_, q1⟩ q2.dropLast q4⟩
    · exact m.elim
  · exact m.elim
end
end Z
set_option Elab.async false
set_option linter.all false
set_option maxRecDepth 100000
set_option maxHeartbeats 4000000
/-! Z, part F: statements, targets, loops, list comprehensions. -/
namespace Z
open PySem PySem.Spec PyProof.Rows L2
/-- the end of a statement -/
inductive RS where
  | nx (ρ : Rho) (st : Store)
  | rt (t : T) (st : Store)
  | bk (ρ : Rho) (st : Store)
  | ct (ρ : Rho) (st : Store)
  | exn (C : Nat) (fs : List (Str × D)) (ρ : Rho) (st : Store)
  | bad
abbrev DenS := Rho → Store → RS
section
variable (K : PySem.W.Frag) (CA : Nat → Addr)
def GE (as : List Addr) (H : Hp) (Q : L2.St → Hp → Prop) (ρ : Rho) (st : Store) : Prop := ∀ as' H' σ', Post as H as' H' → Sim K CA as' st H' → RE K as' H' ρ σ' → Q σ' H'
def GV (as : List Addr) (H : Hp) (Q : VK) (t : T) (st : Store) : Prop := ∀ as' H' v, Post as H as' H' → Sim K CA as' st H' → RT K as' H' t v → FreshT H t v → Q v H'
def ES (W : WX) (D : Ends) (as : List Addr) (H : Hp) : RS → Prop
  | .nx ρ st => GE K CA as H D.nx ρ st
  | .rt t st => GV K CA as H D.rt t st
  | .bk ρ st => GE K CA as H D.bk ρ st
  | .ct ρ st => GE K CA as H D.ct ρ st
  | .exn C fs ρ st => ∀ as' H' dx us σ', Post as H as' H' → Sim K CA as' st H' → RE K as' H' ρ σ' → H' dx = some (.xd us) → RFs K as' H' fs us → W (.ref (CA C)) (some dx) σ' H'
  | .bad => False
def tS (W : WX) (f : DenS) : TS := fun D σ H => ∃ as st ρ, Sim K CA as st H ∧ RE K as H ρ σ ∧ ES K CA W D as H (f ρ st)
end
def sE {α : Type} (ρ : Rho) (r : R α) (k : α → Store → RS) : RS := match r with
  | .ok a st => k a st
  | .exn C fs st => .exn C fs ρ st
  | .bad => .bad
def sSeq (f g : DenS) : DenS := fun ρ st => match f ρ st with
  | .nx ρ st => g ρ st
  | r => r
section
variable {K : PySem.W.Frag} {CA : Nat → Addr} {W : WX} {as as1 as2 : List Addr} {H H1 H2 : Hp} {st st1 st2 : Store} {ρ : Rho} {σ : L2.St} {Q : VK} {X : Cx} {D : Ends}
theorem GE.mono {Q : L2.St → Hp → Prop} (P : Post as H as1 H1) (h : GE K CA as H Q ρ st) : GE K CA as1 H1 Q ρ st := fun as' H' σ' P' => h as' H' σ' (P.trans P')
theorem ES.mono {r : RS} (P : Post as H as1 H1) (h : ES K CA W D as H r) : ES K CA W D as1 H1 r := by
  cases r with
  | nx ρ st => exact GE.mono P h
  | bk ρ st => exact GE.mono P h
  | ct ρ st => exact GE.mono P h
  | rt t st => exact fun as' H' v P' S' r' f' => h as' H' v (P.trans P') S' r' (FreshT.back P f')
  | exn C fs ρ st => exact fun as' H' dx us σ' P' => h as' H' dx us σ' (P.trans P')
  | bad => exact h
theorem es {α : Type} {G : α → Store → Prop} {r : R α} {k : α → Store → RS} (E : RE K as H ρ σ) (m : ES K CA W D as H (sE ρ r k)) (h : ∀ a st', r = .ok a st' → ES K CA W D as H (k a st') → G a st') : EG K CA W σ as H G r := by
  cases r with
  | ok a st' => exact h a st' rfl m
  | exn C fs st' => exact fun as' H' dx us P' S' e r' => m as' H' dx us σ P' S' (E.post P') e r'
  | bad => exact m
theorem ES.next (S : Sim K CA as st H) (E : RE K as H ρ σ) (h : ES K CA W D as H (.nx ρ st)) : D.nx σ H := h as H σ Post.refl S E

theorem z_seq {s : Stmt} {rest : List Stmt} {f g : DenS} (h1 : PS X s (tS K CA W f)) (h2 : PSs X rest (tS K CA W g)) : PSs X (s :: rest) (tS K CA W (sSeq f g)) := by
  refine pss_imp (pss_cons h1 h2) fun D σ H ⟨as, st, ρ, S, E, m⟩ => ⟨as, st, ρ, S, E, ?_⟩
  unfold sSeq at m
  cases e : f ρ st with
  | nx ρ1 st1 =>
    rw [e] at m
    exact fun as' H' σ' P' S' E' => ⟨as', st1, ρ1, S', E', ES.mono P' m⟩
  | rt t st1 => rw [e] at m; exact m
  | bk ρ1 st1 => rw [e] at m; exact m
  | ct ρ1 st1 => rw [e] at m; exact m
  | exn C fs ρ1 st1 => rw [e] at m; exact m
  | bad => rw [e] at m; exact m
theorem z_one {s : Stmt} {f : DenS} (h1 : PS X s (tS K CA W f)) : PSs X [s] (tS K CA W f) := pss_one h1
def sPass : DenS := fun ρ st => .nx ρ st
theorem z_snil : PSs X [] (tS K CA W sPass) := pss_imp pss_nil fun D σ H ⟨as, st, ρ, S, E, m⟩ => ES.next S E m
theorem z_pass {pos : Pos} : PS X (.Pass pos) (tS K CA W sPass) := ps_imp ps_pass fun D σ H ⟨as, st, ρ, S, E, m⟩ => ES.next S E m
def sBrk : DenS := fun ρ st => .bk ρ st
def sCt : DenS := fun ρ st => .ct ρ st
theorem z_brk {pos : Pos} : PS X (.Break pos) (tS K CA W sBrk) := ps_imp ps_break fun D σ H ⟨as, st, ρ, S, E, m⟩ => m as H σ Post.refl S E
theorem z_ct {pos : Pos} : PS X (.Continue pos) (tS K CA W sCt) := ps_imp ps_continue fun D σ H ⟨as, st, ρ, S, E, m⟩ => m as H σ Post.refl S E
def sRet (f : Den T) : DenS := fun ρ st => sE ρ (f ρ st) .rt
theorem z_ret {e : Expr} {pos : Pos} {f : Den T} (h : PE X e (tD K CA W f)) : PS X (.Return (some e) pos) (tS K CA W (sRet f)) :=
  ps_imp (ps_ret h) fun D σ H ⟨as, st, ρ, S, E, m⟩ => ⟨as, st, ρ, S, E, es E m fun t st1 _ m1 => m1⟩
def sRetN : DenS := fun ρ st => .rt (.d (.p .non)) st
theorem z_retN {pos : Pos} : PS X (.Return none pos) (tS K CA W sRetN) := ps_imp ps_retN fun D σ H ⟨as, st, ρ, S, E, m⟩ => m as H .non Post.refl S (RD.non (K := K) (as := as) (H := H)) trivial
def sExp (f : Den T) : DenS := fun ρ st => sE ρ (f ρ st) fun _ st => .nx ρ st
theorem z_exp {e : Expr} {pos : Pos} {f : Den T} (h : PE X e (tD K CA W f)) (hs : swapsWith e none pos.line X.env = pure false) : PS X (.Expr e pos) (tS K CA W (sExp f)) :=
  ps_imp (ps_expr h hs) fun D σ H ⟨as, st, ρ, S, E, m⟩ => ⟨as, st, ρ, S, E, es E m fun t st1 _ m1 as1 H1 v P1 S1 r1 f1 => m1 as1 H1 σ P1 S1 (E.post P1)⟩
def sIf (c : Den Bool) (f g : DenS) : DenS := fun ρ st => sE ρ (c ρ st) fun b st => if b then f ρ st else g ρ st
theorem z_sif {c : Expr} {a b : List Stmt} {pos : Pos} {fc : Den Bool} {f g : DenS} (hc : PT X c (tB K CA W fc)) (ha : PSs X a (tS K CA W f)) (hb : PSs X b (tS K CA W g)) : PS X (.If c a b pos) (tS K CA W (sIf fc f g)) :=
  ps_imp (ps_if hc ha hb) fun D σ H ⟨as, st, ρ, S, E, m⟩ => ⟨as, st, ρ, S, E, es E m fun c st1 _ m1 as1 H1 P1 S1 => by
    dsimp only
    split
    · rename_i h; rw [if_pos h] at m1
      exact ⟨as1, st1, ρ, S1, E.post P1, ES.mono P1 m1⟩
    · rename_i h; rw [if_neg h] at m1
      exact ⟨as1, st1, ρ, S1, E.post P1, ES.mono P1 m1⟩⟩

/-! ### targets -/
/-- a name by its slot, a tuple of targets -/
inductive Tg where
  | n (i : Nat) | t (ts : List Tg)
mutual
def asg : Tg → Z.D → Rho → Option Rho
  | .n i, d, ρ => some (ρ.set i (some d))
  | .t ts, d, ρ => match tupOf (.d d) with
    | some ds => asgs ts ds ρ
    | none => none
def asgs : List Tg → List Z.D → Rho → Option Rho
  | [], [], ρ => some ρ
  | t :: ts, d :: ds, ρ => match asg t d ρ with
    | some ρ => asgs ts ds ρ
    | none => none
  | _, _, _ => none
end
theorem asgs_len : ∀ {ts : List Tg} {ds : List Z.D} {ρ ρ' : Rho}, asgs ts ds ρ = some ρ' → ds.length = ts.length
  | [], [], _, _, _ => rfl
  | [], _ :: _, _, _, h => by simp [asgs] at h
  | _ :: _, [], _, _, h => by simp [asgs] at h
  | t :: ts, d :: ds, ρ, ρ', h => by
    unfold asgs at h
    split at h
    · rw [List.length_cons, List.length_cons, asgs_len h]
    · cases h
def gDx (K : PySem.W.Frag) (ix : List Nat) (tg : Tg) : TG := fun v σ H Q => ∃ as d ρ ρ', RE K as H ρ σ ∧ RD K as H d v ∧ asg tg d ρ = some ρ' ∧ ∀ σ', RE K as H ρ' σ' → wipe σ' ix = wipe σ ix → Q σ' H
def gDxs (K : PySem.W.Frag) (ix : List Nat) (ts : List Tg) : TGs := fun vs σ H Q => ∃ as ds ρ ρ', RE K as H ρ σ ∧ RDs K as H ds vs ∧ asgs ts ds ρ = some ρ' ∧ ∀ σ', RE K as H ρ' σ' → wipe σ' ix = wipe σ ix → Q σ' H
def gD (K : PySem.W.Frag) (tg : Tg) : TG := fun v σ H Q => ∃ as d ρ ρ', RE K as H ρ σ ∧ RD K as H d v ∧ asg tg d ρ = some ρ' ∧ ∀ σ', RE K as H ρ' σ' → Q σ' H
theorem wipe_set {i : Nat} {v : V} : ∀ {ix : List Nat} {σ : L2.St}, i ∈ ix → wipe (σ.set i (some v)) ix = wipe σ ix
  | j :: ix, σ, h => by
    unfold wipe
    by_cases hm : i ∈ ix
    · rw [wipe_set hm]
    · have e : i = j := by
        rcases List.mem_cons.mp h with h | h
        · exact h
        · exact absurd h hm
      subst e
      have go : ∀ (ix : List Nat) (σ : L2.St), (wipe (σ.set i (some v)) ix).set i none = (wipe σ ix).set i none := by
        intro ix
        induction ix with
        | nil => intro σ; unfold wipe; rw [List.set_set]
        | cons k ix ih =>
          intro σ
          unfold wipe
          by_cases hk : k = i
          · subst hk; rw [List.set_set, List.set_set]; exact ih σ
          · rw [List.set_comm _ _ hk, List.set_comm _ _ hk, ih σ]
      exact go ix σ
theorem pg_imp {e : Expr} {t t' : TG} (h : PG X e t) (i : ∀ v σ H Q, t' v σ H Q → t v σ H Q) : PG X e t' := ⟨fun pins s σ H v u Q I r hw => h.run pins s σ H v u Q I r (i v σ H Q hw)⟩
theorem pgs_imp {e : List Expr} {t t' : TGs} (h : PGs X e t) (i : ∀ v σ H Q, t' v σ H Q → t v σ H Q) : PGs X e t' := ⟨fun pins s σ H v u Q I r hw => h.run pins s σ H v u Q I r (i v σ H Q hw)⟩
theorem RE.set {i : Nat} {d : Z.D} {v : V} (E : RE K as H ρ σ) (r : RD K as H d v) : RE K as H (ρ.set i (some d)) (σ.set i (some v)) := by
  refine ⟨by rw [List.length_set, List.length_set]; exact E.1, fun j e h => ?_⟩
  by_cases hj : i = j
  · subst hj
    have hi : i < (ρ.set i (some d)).length := (List.getElem?_eq_some_iff.mp h).1
    rw [List.length_set] at hi
    rw [List.getElem?_set_self hi] at h
    cases h
    exact ⟨v, List.getElem?_set_self (by rw [← E.1]; exact hi), r⟩
  · rw [List.getElem?_set_ne hj] at h
    obtain ⟨w, e1, q⟩ := E.2 j e h
    exact ⟨w, by rw [List.getElem?_set_ne hj]; exact e1, q⟩
theorem z_gn {ix : List Nat} {i : Nat} {x : Str} {pos : Pos} (hm : i ∈ ix) (hN : X.N.Nodup) (hi : X.N[i]? = some x) (hx : Loc X.env.scope x) (hf : X.fn x = true ∨ X.env.scope.names.lookup x = some .local) : PG X (.Name x pos) (gDx K ix (.n i)) :=
  pg_imp (pg_name hN hi hx hf) fun v σ H Q ⟨as, d, ρ, ρ', E, r, e, k⟩ => by
    unfold asg at e
    cases e
    exact k _ (E.set r) (wipe_set hm)
theorem z_gt {ix : List Nat} {es : List Expr} {k : Nat} {pos : Pos} {ts : List Tg} (hc : X.calm = true) (h : PGs X es (gDxs X.K ix ts)) (hn : (assignEach es X.env).length = ts.length) (hst : (assignEach es X.env).findIdx? (·.1) = none) : PG X (.Tuple es k pos) (gDx X.K ix (.t ts)) :=
  pg_imp (pg_tup hc h hn hst) fun v σ H Q ⟨as, d, ρ, ρ', E, r, e, k⟩ => by
    unfold asg at e
    split at e
    · rename_i ds e1
      obtain ⟨a, vs, ea, q1, q2⟩ := tupOf_ok (t := .d d) r e1
      exact ⟨a, vs, ea, q1, by rw [q2.len, asgs_len e], as, ds, ρ, ρ', E, q2, e, k⟩
    · cases e
theorem z_gnil {ix : List Nat} : PGs X [] (gDxs K ix []) := pgs_imp pgs_nil fun vs σ H Q ⟨as, ds, ρ, ρ', E, r, e, k⟩ => by
  cases ds with
  | nil =>
    unfold asgs at e
    cases e
    unfold RDs at r
    exact ⟨r, k σ E rfl⟩
  | cons d ds => simp [asgs] at e
theorem z_gcons {ix : List Nat} {e : Expr} {es : List Expr} {t : Tg} {ts : List Tg} (h1 : PG X e (gDx K ix t)) (h2 : PGs X es (gDxs K ix ts)) (hs : (assignEach (e :: es) X.env).map (·.2) = assign e X.env :: (assignEach es X.env).map (·.2)) : PGs X (e :: es) (gDxs K ix (t :: ts)) :=
  pgs_imp (pgs_cons h1 h2 hs) fun vs σ H Q ⟨as, ds, ρ, ρ', E, r, e, k⟩ => by
    cases ds with
    | nil => simp [asgs] at e
    | cons d ds =>
      unfold asgs at e
      split at e
      · rename_i ρ1 e1
        unfold RDs at r
        obtain ⟨v, r', ev, q1, q2⟩ := r
        exact ⟨v, r', ev, as, d, ρ, ρ1, E, q1, e1, fun σ1 E1 w1 => ⟨as, ds, ρ1, ρ', E1, q2, e, fun σ2 E2 w2 => k σ2 E2 (w2.trans w1)⟩⟩
      · cases e
theorem z_g {ix : List Nat} {e : Expr} {t : Tg} (h : PG X e (gDx K ix t)) : PG X e (gD K t) := pg_imp h fun v σ H Q ⟨as, d, ρ, ρ', E, r, e, k⟩ => ⟨as, d, ρ, ρ', E, r, e, fun σ' E' _ => k σ' E'⟩
/-- target = e -/
def sAsg (tg : Tg) (f : Den T) : DenS := fun ρ st => sE ρ (f ρ st) fun t st => match asg tg (boxT t st).1 ρ with
  | some ρ' => .nx ρ' (boxT t st).2
  | none => .bad
theorem asg_ok {tg : Tg} {f : Den T} (m : tS K CA W (sAsg tg f) D σ H) : tAsg (tD K CA W f) (gD K tg) D σ H := by
  obtain ⟨as, st, ρ, S, E, m⟩ := m
  refine ⟨as, st, ρ, S, E, es E m fun t st1 _ m1 as1 H1 v P1 S1 r1 f1 => ?_⟩
  obtain ⟨as2, P2, sub, S2, r2⟩ := box_ok P1 S1 r1 f1
  split at m1
  · rename_i ρ' e
    exact ⟨as2, _, ρ, ρ', E.post P2, r2, e, fun σ' E' => m1 as2 H1 σ' P2 S2 E'⟩
  · exact m1.elim
theorem z_asg {tg e : Expr} {pos : Pos} {t : Tg} {f : Den T} (he : PE X e (tD K CA W f)) (hg : PG X tg (gD K t)) (hs : swapsWithSole [tg] e pos.line X.env = pure false) (hw : swappedStores [tg] e X.env = pure none)
    (h1 : (assignEach [tg] X.env).map (·.2) = [assign tg X.env]) : PS X (.Assign [tg] e pos) (tS K CA W (sAsg t f)) :=
  ps_imp (ps_asg he hg hs hw h1) fun D σ H m => asg_ok m
theorem z_set {i : Nat} {x : Str} {e : Expr} {f : Den T} {pos pos' : Pos} (hN : X.N.Nodup) (hi : X.N[i]? = some x) (hx : Loc X.env.scope x) (he : PE X e (tD K CA W f)) (hs : swapsWith e (some (.Name x pos')) pos.line X.env = pure false) (hf : X.fn x = true ∨ X.env.scope.names.lookup x = some .local) :
    PS X (.Assign [.Name x pos'] e pos) (tS K CA W (sAsg (.n i) f)) := by
  refine ps_imp (ps_set hN hi hx he hs hf) fun D σ H m => ?_
  obtain ⟨as, st, ρ, S, E, m⟩ := asg_ok m
  refine ⟨as, st, ρ, S, E, ?_⟩
  cases e : f ρ st with
  | ok t st1 =>
    rw [e] at m
    intro as1 H1 v P1 S1 r1 f1
    obtain ⟨as2, d, ρ1, ρ2, E2, r2, e2, k⟩ := m as1 H1 v P1 S1 r1 f1
    unfold asg at e2
    cases e2
    exact k _ (E2.set r2)
  | exn C fs st1 => rw [e] at m; exact m
  | bad => rw [e] at m; exact m
/-- x, y = a, b with names of the frame -/
def sPar (i j : Nat) (f : Den (List Z.D)) : DenS := fun ρ st => sE ρ (f ρ st) fun ds st => match ds with
  | [a, b] => .nx ((ρ.set i (some a)).set j (some b)) st
  | _ => .bad
theorem z_par {i j : Nat} {x y : Str} {a b : Expr} {f : Den (List Z.D)} {px py pt pos : Pos} {kt k2 pt2} (hc : X.calm = true) (hN : X.N.Nodup) (hi : X.N[i]? = some x) (hj : X.N[j]? = some y) (hij : i ≠ j)
    (hx : X.env.scope.names.lookup x = some .local) (hy : X.env.scope.names.lookup y = some .local) (ha : PA X [a, b] (tL K CA W f))
    (hw : swappedStores [.Tuple [.Name x px, .Name y py] kt pt] (.Tuple [a, b] k2 pt2) X.env = pure (some [x, y]))
    (hs : swapsWithSole [.Tuple [.Name x px, .Name y py] kt pt] (.Tuple [a, b] k2 pt2) pos.line X.env = pure false) :
    PS X (.Assign [.Tuple [.Name x px, .Name y py] kt pt] (.Tuple [a, b] k2 pt2) pos) (tS K CA W (sPar i j f)) := by
  refine ps_imp (ps_par hc hN hi hj hij hx hy ha hw hs) fun D σ H ⟨as, st, ρ, S, E, m⟩ => ⟨as, st, ρ, S, E, es E m fun ds st1 _ m1 as1 H1 vs P1 S1 r1 => ?_⟩
  split at m1
  · rename_i a b
    unfold RDs at r1
    obtain ⟨v, r', ev, q1, q2⟩ := r1
    unfold RDs at q2
    obtain ⟨w, r'', ew, q3, q4⟩ := q2
    unfold RDs at q4
    exact ⟨v, w, by rw [ev, ew, q4], m1 as1 H1 _ P1 S1 (((E.post P1).set q1).set q3)⟩
  · exact m1.elim

/-- x, y, z = a, b, c with names of the frame -/
def sPar3 (i j l : Nat) (f : Den (List Z.D)) : DenS := fun ρ st => sE ρ (f ρ st) fun ds st => match ds with
  | [a, b, c] => .nx (((ρ.set i (some a)).set j (some b)).set l (some c)) st
  | _ => .bad
theorem z_par3 {i j l : Nat} {x y z : Str} {a b c : Expr} {f : Den (List Z.D)} {px py pz pt pos : Pos} {kt k2 pt2} (hc : X.calm = true) (hN : X.N.Nodup) (hi : X.N[i]? = some x) (hj : X.N[j]? = some y) (hl : X.N[l]? = some z) (hij : i ≠ j) (hil : i ≠ l) (hjl : j ≠ l)
    (hx : X.env.scope.names.lookup x = some .local) (hy : X.env.scope.names.lookup y = some .local) (hz : X.env.scope.names.lookup z = some .local) (ha : PA X [a, b, c] (tL K CA W f))
    (hw : swappedStores [.Tuple [.Name x px, .Name y py, .Name z pz] kt pt] (.Tuple [a, b, c] k2 pt2) X.env = pure (some [x, y, z]))
    (hs : swapsWithSole [.Tuple [.Name x px, .Name y py, .Name z pz] kt pt] (.Tuple [a, b, c] k2 pt2) pos.line X.env = pure false) :
    PS X (.Assign [.Tuple [.Name x px, .Name y py, .Name z pz] kt pt] (.Tuple [a, b, c] k2 pt2) pos) (tS K CA W (sPar3 i j l f)) := by
  refine ps_imp (ps_par3 hc hN hi hj hl hij hil hjl hx hy hz ha hw hs) fun D σ H ⟨as, st, ρ, S, E, m⟩ => ⟨as, st, ρ, S, E, es E m fun ds st1 _ m1 as1 H1 vs P1 S1 r1 => ?_⟩
  split at m1
  · rename_i a b c
    unfold RDs at r1
    obtain ⟨v, r', ev, q1, q2⟩ := r1
    unfold RDs at q2
    obtain ⟨w, r'', ew, q3, q4⟩ := q2
    unfold RDs at q4
    obtain ⟨u, r3, eu, q5, q6⟩ := q4
    unfold RDs at q6
    exact ⟨v, w, u, by rw [ev, ew, eu, q6], m1 as1 H1 _ P1 S1 ((((E.post P1).set q1).set q3).set q5)⟩
  · exact m1.elim

/-! ### what is walked -/
structure Walk (K : PySem.W.Frag) (CA : Nat → Addr) (J : It) (items : List Z.D) (g : Store → Bool) (pre : List Addr → Hp → Prop) : Prop where
  go : ∀ (i : Nat) as st H, Sim K CA as st H → pre as H → g st = true → i < items.length → J.go i H
  stop : ∀ as st H, Sim K CA as st H → pre as H → g st = true → J.stop items.length H
  yld : ∀ (i : Nat) as st H x H' d, Sim K CA as st H → pre as H → g st = true → items[i]? = some d → J.yld i H x H' → Sim K CA as st H' ∧ Post as H as H' ∧ RD K as H' d x
  up : ∀ as H as' H', pre as H → Post as H as' H' → pre as' H'
def loopS (g : Store → Bool) (tg : Tg) (body : DenS) : List Z.D → Rho → Store → RS
  | [], ρ, st => if g st then .nx ρ st else .bad
  | x :: xs, ρ, st => if g st then match asg tg x ρ with
      | none => .bad
      | some ρ1 => match body ρ1 st with
        | .nx ρ2 st2 => loopS g tg body xs ρ2 st2
        | .ct ρ2 st2 => loopS g tg body xs ρ2 st2
        | .bk ρ2 st2 => .nx ρ2 st2
        | r => r
    else .bad
/-- a for's reading, by its walk -/
theorem loop_ok {J : It} {items : List Z.D} {g : Store → Bool} {pre : List Addr → Hp → Prop} {tg : Tg} {body : DenS} (w : Walk K CA J items g pre) (hp : pre as H) (S : Sim K CA as st H) (E : RE K as H ρ σ) (m : ES K CA W D as H (loopS g tg body items ρ st)) :
    ∃ Wn : Nat → Nat → L2.St → Hp → Prop, (∃ m, Wn 0 m σ H) ∧ ∀ i m σ H, Wn i m σ H →
      (J.stop i H ∧ D.nx σ H) ∨ (J.go i H ∧ ∃ N : L2.St → Hp → Prop, (∀ σ' H', N σ' H' → ∃ m', m' < m ∧ Wn (i + 1) m' σ' H') ∧ ∀ x H', J.yld i H x H' → gD K tg x σ H' fun σ2 H2 => tS K CA W body { D with nx := N, ct := N, bk := D.nx } σ2 H2) := by
  refine ⟨fun i n σ H => n = items.length - i ∧ i ≤ items.length ∧ ∃ as st ρ, pre as H ∧ Sim K CA as st H ∧ RE K as H ρ σ ∧ ES K CA W D as H (loopS g tg body (items.drop i) ρ st), ⟨_, rfl, Nat.zero_le _, as, st, ρ, hp, S, E, m⟩, ?_⟩
  rintro i n σ H ⟨rfl, hi, as, st, ρ, hp, S, E, m⟩
  by_cases hlt : i < items.length
  · have ed : items.drop i = items[i] :: items.drop (i + 1) := List.drop_eq_getElem_cons hlt
    rw [ed] at m
    unfold loopS at m
    split at m
    · rename_i hg
      split at m
      · exact m.elim
      · rename_i ρ1 ea
        refine .inr ⟨w.go i as st H S hp hg hlt, fun σ' H' => (items.length - (i + 1) = items.length - (i + 1) ∧ i + 1 ≤ items.length ∧ ∃ as st ρ, pre as H' ∧ Sim K CA as st H' ∧ RE K as H' ρ σ' ∧ ES K CA W D as H' (loopS g tg body (items.drop (i + 1)) ρ st)), fun σ' H' h => ⟨_, by omega, h⟩, fun x H' y => ?_⟩
        obtain ⟨S', P', r'⟩ := w.yld i as st H x H' items[i] S hp hg (by simp [hlt]) y
        refine ⟨as, items[i], ρ, ρ1, E.post P', r', ea, fun σ1 E1 => ⟨as, st, ρ1, S', E1, ?_⟩⟩
        have hp' := w.up _ _ _ _ hp P'
        have m2 := ES.mono P' m
        cases eb : body ρ1 st with
        | nx ρ2 st2 =>
          rw [eb] at m2
          exact fun as2 H2 σ2 P2 S2 E2 => ⟨rfl, hlt, as2, st2, ρ2, w.up _ _ _ _ hp' P2, S2, E2, ES.mono P2 m2⟩
        | ct ρ2 st2 =>
          rw [eb] at m2
          exact fun as2 H2 σ2 P2 S2 E2 => ⟨rfl, hlt, as2, st2, ρ2, w.up _ _ _ _ hp' P2, S2, E2, ES.mono P2 m2⟩
        | bk ρ2 st2 => rw [eb] at m2; exact m2
        | rt t st2 => rw [eb] at m2; exact m2
        | exn C fs ρ2 st2 => rw [eb] at m2; exact m2
        | bad => rw [eb] at m2; exact m2
    · exact m.elim
  · have e : i = items.length := by omega
    subst e
    rw [List.drop_length] at m
    unfold loopS at m
    split at m
    · rename_i hg
      exact .inl ⟨w.stop as st H S hp hg, ES.next S E m⟩
    · exact m.elim
/-- a list -/
theorem walk_list {t : T} {ds : List Z.D} {a : Addr} : Walk K CA (Itl K a) ds (fun st => decide (rdL t st = some ds)) (fun as H => RT K as H t (.ref a)) where
  go := fun i as st H S r g hi => by
    obtain ⟨b, vs, e, q1, q2⟩ := rdL_ok S r (of_decide_eq_true g)
    cases e
    exact ⟨vs, vs[i]'(by rw [q2.len]; exact hi), q1, by simp [q2.len, hi]⟩
  stop := fun as st H S r g => by
    obtain ⟨b, vs, e, q1, q2⟩ := rdL_ok S r (of_decide_eq_true g)
    cases e
    exact ⟨vs, q1, by rw [q2.len]; exact Nat.le_refl _⟩
  yld := fun i as st H x H' d S r g hd y => by
    obtain ⟨b, vs, e, q1, q2⟩ := rdL_ok S r (of_decide_eq_true g)
    cases e
    obtain ⟨e, y⟩ := y
    subst e
    obtain ⟨v, q3, q4⟩ := q2.get hd
    have := y vs q1
    rw [this] at q3; cases q3
    exact ⟨S, Post.refl, q4⟩
  up := fun as H as' H' r P => r.up P
/-- a tuple -/
theorem walk_tup {t : T} {ds : List Z.D} {a : Addr} (h : tupOf t = some ds) : Walk K CA (Itt K a) ds (fun _ => true) (fun as H => ∃ vs, SqT K H a vs ∧ RDs K as H ds vs) where
  go := fun i as st H S r g hi => by
    obtain ⟨vs, q1, q2⟩ := r
    exact ⟨vs, vs[i]'(by rw [q2.len]; exact hi), q1, by simp [q2.len, hi]⟩
  stop := fun as st H S r g => by
    obtain ⟨vs, q1, q2⟩ := r
    exact ⟨vs, q1, by rw [q2.len]; exact Nat.le_refl _⟩
  yld := fun i as st H x H' d S r g hd y => by
    obtain ⟨vs, q1, q2⟩ := r
    obtain ⟨e, y⟩ := y
    subst e
    obtain ⟨v, q3, q4⟩ := q2.get hd
    have := y vs q1
    rw [this] at q3; cases q3
    exact ⟨S, Post.refl, q4⟩
  up := fun as H as' H' ⟨vs, q1, q2⟩ P => ⟨vs, SqT.up P.tup P.frz q1, q2.post P⟩
/-- a text's signs -/
def signs (x : Str) : List Z.D := x.cps.toList.map fun c => .p (.str ⟨#[c]⟩)
theorem walk_str {x : Str} : Walk K CA (Its x) (signs x) (fun _ => true) (fun _ _ => True) where
  go := fun i as st H S r g hi => by
    show i < x.cps.size
    simpa [signs] using hi
  stop := fun as st H S r g => by simp [signs, Its]
  yld := fun i as st H v H' d S r g hd y => by
    obtain ⟨e, c, hc, ev⟩ := y
    subst e; subst ev
    unfold signs at hd
    rw [List.getElem?_map] at hd
    have : x.cps.toList[i]? = some c := by simpa using hc
    rw [this] at hd
    cases hd
    exact ⟨S, Post.refl, RD.str⟩
  up := fun _ _ _ _ _ _ => trivial
/-- a range -/
def rangeD (lo : Int) (n : Nat) : List Z.D := (List.range n).map fun i => .p (.int (lo + (i : Nat)))
theorem walk_range {lo : Int} {n : Nat} : Walk K CA (Itr lo n) (rangeD lo n) (fun _ => true) (fun _ _ => True) where
  go := fun i as st H S r g hi => by
    show i < n
    simpa [rangeD] using hi
  stop := fun as st H S r g => by simp [rangeD, Itr]
  yld := fun i as st H v H' d S r g hd y => by
    obtain ⟨e, ev⟩ := y
    subst e; subst ev
    unfold rangeD at hd
    rw [List.getElem?_map] at hd
    have hi : i < n := by
      cases q : (List.range n)[i]? with
      | none => rw [q] at hd; cases hd
      | some j => have := (List.getElem?_eq_some_iff.mp q).1; simpa using this
    rw [List.getElem?_range hi] at hd
    cases hd
    exact ⟨S, Post.refl, RD.int⟩
  up := fun _ _ _ _ _ _ => trivial
/-- enumerate of a list -/
def enumD (ds : List Z.D) : List Z.D := ds.zipIdx.map fun p => mkTup [.p (.int (p.2 : Nat)), p.1]
theorem walk_enum {t : T} {ds : List Z.D} {a : Addr} : Walk K CA (Ite K a) (enumD ds) (fun st => decide (rdL t st = some ds)) (fun as H => RT K as H t (.ref a)) where
  go := fun i as st H S r g hi => by
    obtain ⟨b, vs, e, q1, q2⟩ := rdL_ok S r (of_decide_eq_true g)
    cases e
    have hi : i < ds.length := by simpa [enumD] using hi
    exact ⟨vs, vs[i]'(by rw [q2.len]; exact hi), q1, by simp [q2.len, hi]⟩
  stop := fun as st H S r g => by
    obtain ⟨b, vs, e, q1, q2⟩ := rdL_ok S r (of_decide_eq_true g)
    cases e
    exact ⟨vs, q1, by rw [q2.len]; simp [enumD]⟩
  yld := fun i as st H x H' d S r g hd y => by
    obtain ⟨b, vs, e, q1, q2⟩ := rdL_ok S r (of_decide_eq_true g)
    cases e
    obtain ⟨T, v, ex, hT, eH, y⟩ := y
    subst ex; subst eH
    have hv := y vs q1
    unfold enumD at hd
    rw [List.getElem?_map, List.getElem?_zipIdx] at hd
    cases q : ds[i]? with
    | none => rw [q] at hd; cases hd
    | some d' =>
      rw [q] at hd
      cases hd
      obtain ⟨w, q3, q4⟩ := q2.get q
      rw [hv] at q3; cases q3
      obtain ⟨S', P⟩ := S.laid (u := .tup [.int (i : Nat), v]) hT
      refine ⟨S', P, mkTup_ok (SqT.of upd_same) (RDs.cons ?_ (RDs.cons (q4.post P) RDs.nil))⟩
      have : (0 + i : Nat) = i := by omega
      simp only [this]
      exact RD.int
  up := fun as H as' H' r P => r.up P

/-! ### for -/
/-- what a for walks: the items, and what must stay -/
structure Src where
  items : List Z.D
  ok : Store → Bool
def srcOf (t : T) (st : Store) : R Src := match rdL t st with
  | some ds => .ok ⟨ds, fun st => decide (rdL t st = some ds)⟩ st
  | none => match tupOf t with
    | some ds => .ok ⟨ds, fun _ => true⟩ st
    | none => match t with
      | .d (.p (.str x)) => .ok ⟨signs x, fun _ => true⟩ st
      | _ => .bad
def iOf (f : Den T) : Den Src := fun ρ st => (f ρ st).bind srcOf
def GI (K : PySem.W.Frag) (CA : Nat → Addr) (as : List Addr) (H : Hp) (R : It → Hp → Prop) (s : Src) (st' : Store) : Prop :=
  ∀ as' H' J pre, Post as H as' H' → Sim K CA as' st' H' → Walk K CA J s.items s.ok pre → pre as' H' → R J H'
def tI (K : PySem.W.Frag) (CA : Nat → Addr) (W : WX) (f : Den Src) : TI := fun σ H R => ∃ as st ρ, Sim K CA as st H ∧ RE K as H ρ σ ∧ EG K CA W σ as H (GI K CA as H R) (f ρ st)
theorem EGi.mono {Rr : It → Hp → Prop} {r : R Src} (P : Post as H as1 H1) (h : EG K CA W σ as H (GI K CA as H Rr) r) : EG K CA W σ as1 H1 (GI K CA as1 H1 Rr) r := by
  cases r with
  | ok t st' => exact fun as' H' J pre P' => h as' H' J pre (P.trans P')
  | exn C fs st' => exact ERx.mono P h
  | bad => exact h
theorem pi_imp {tg e : Expr} {t t' : TI} (h : PI X tg e t) (i : ∀ σ H Q, t' σ H Q → t σ H Q) : PI X tg e t' := ⟨fun pins s σ H R I hw => h.run pins s σ H R I (i σ H R hw)⟩
theorem pi_or {tg e : Expr} {t t' : TI} (h : PI X tg e t) (h' : PI X tg e t') : PI X tg e (fun σ H R => t σ H R ∨ t' σ H R) := ⟨fun pins s σ H R I hw => hw.elim (h.run pins s σ H R I) (h'.run pins s σ H R I)⟩
theorem z_iter {tg e : Expr} {f : Den T} (h : PE X e (tD X.K CA W f)) : PI X tg e (tI X.K CA W (iOf f)) := by
  refine pi_imp (pi_or (pi_list h) (pi_or (pi_tup h) (pi_str h))) fun σ H R ⟨as, st, ρ, S, E, m⟩ => ?_
  unfold iOf at m
  cases e : f ρ st with
  | bad => rw [e] at m; exact m.elim
  | exn C fs st1 => rw [e] at m; exact .inl ⟨as, st, ρ, S, E, by rw [e]; exact m⟩
  | ok t st1 =>
    rw [e] at m
    have m : EG X.K CA W σ as H (GI X.K CA as H R) (srcOf t st1) := m
    unfold srcOf at m
    split at m
    · rename_i ds e1
      refine .inl ⟨as, st, ρ, S, E, ?_⟩
      rw [e]
      intro as1 H1 v P1 S1 r1 f1
      obtain ⟨a, vs, ea, q1, q2⟩ := rdL_ok S1 r1 e1
      subst ea
      exact ⟨a, rfl, ⟨vs, q1⟩, m as1 H1 _ _ P1 S1 walk_list r1⟩
    · split at m
      · rename_i ds e1
        refine .inr (.inl ⟨as, st, ρ, S, E, ?_⟩)
        rw [e]
        intro as1 H1 v P1 S1 r1 f1
        obtain ⟨a, vs, ea, q1, q2⟩ := tupOf_ok r1 e1
        subst ea
        exact ⟨a, rfl, ⟨vs, q1⟩, m as1 H1 _ _ P1 S1 (walk_tup e1) ⟨vs, q1, q2⟩⟩
      · split at m
        · rename_i x _ _
          refine .inr (.inr ⟨as, st, ρ, S, E, ?_⟩)
          rw [e]
          intro as1 H1 v P1 S1 r1 f1
          exact ⟨_, RTstr r1, m as1 H1 _ _ P1 S1 walk_str trivial⟩
        · exact m.elim
/-- range(j), range(i, j) -/
def rngOf (ds : List Z.D) (st : Store) : R Src := match ds with
  | [.p (.int j)] => if -(2 ^ 62) ≤ j ∧ j < 2 ^ 62 then .ok ⟨rangeD 0 j.toNat, fun _ => true⟩ st else .bad
  | [.p (.int i), .p (.int j)] => if -(2 ^ 62) ≤ i ∧ i < 2 ^ 62 ∧ -(2 ^ 62) ≤ j ∧ j < 2 ^ 62 then .ok ⟨rangeD i (j - i).toNat, fun _ => true⟩ st else .bad
  | _ => .bad
def iRng (f : Den (List Z.D)) : Den Src := fun ρ st => (f ρ st).bind rngOf
theorem z_rng1 {tg a : Expr} {p pos : Pos} {f : Den (List Z.D)} (hg : Gl X "range") (hm : X.mg "range" = none) (ha : PA X [a] (tL X.K CA W f)) (hs : starEach [a] X.env = [(false, eval a X.env)]) (h1 : ∀ ρ st ds st', f ρ st = .ok ds st' → ds.length = 1) : PI X tg (.Call (.Name "range" p) [a] [] pos) (tI X.K CA W (iRng f)) := by
  refine pi_imp (pi_range1 hg hm ha hs) fun σ H R ⟨as, st, ρ, S, E, m⟩ => ⟨as, st, ρ, S, E, eg m fun ds st1 e m1 as1 H1 vs P1 S1 r1 => ?_⟩
  have m2 := EGi.mono P1 m1
  unfold rngOf at m2
  split at m2
  · split at m2
    · rename_i j h
      unfold RDs at r1
      obtain ⟨v, r', ev, q1, q2⟩ := r1
      unfold RDs at q2
      exact ⟨j, by rw [ev, q2, RDint q1], h.1, h.2, m2 as1 H1 _ _ Post.refl S1 walk_range trivial⟩
    · exact m2.elim
  · have := h1 _ _ _ _ e; simp at this
  · exact m2.elim
theorem z_rng2 {tg a b : Expr} {p pos : Pos} {f : Den (List Z.D)} (hg : Gl X "range") (hm : X.mg "range" = none) (ha : PA X [a, b] (tL X.K CA W f)) (hs : starEach [a, b] X.env = [(false, eval a X.env), (false, eval b X.env)]) (hs2 : starEach [b] X.env = [(false, eval b X.env)]) (h1 : ∀ ρ st ds st', f ρ st = .ok ds st' → ds.length = 2) : PI X tg (.Call (.Name "range" p) [a, b] [] pos) (tI X.K CA W (iRng f)) := by
  refine pi_imp (pi_range2 hg hm ha hs hs2) fun σ H R ⟨as, st, ρ, S, E, m⟩ => ⟨as, st, ρ, S, E, eg m fun ds st1 e m1 as1 H1 vs P1 S1 r1 => ?_⟩
  have m2 := EGi.mono P1 m1
  unfold rngOf at m2
  split at m2
  · have := h1 _ _ _ _ e; simp at this
  · split at m2
    · rename_i i j h
      unfold RDs at r1
      obtain ⟨v, r', ev, q1, q2⟩ := r1
      unfold RDs at q2
      obtain ⟨v2, r2, ev2, q3, q4⟩ := q2
      unfold RDs at q4
      exact ⟨i, j, by rw [ev, ev2, q4, RDint q1, RDint q3], h, m2 as1 H1 _ _ Post.refl S1 walk_range trivial⟩
    · exact m2.elim
  · exact m2.elim
/-- enumerate(xs) -/
def enumOf (t : T) (st : Store) : R Src := match rdL t st with
  | some ds => .ok ⟨enumD ds, fun st => decide (rdL t st = some ds)⟩ st
  | none => .bad
def iEnumD (f : Den T) : Den Src := fun ρ st => (f ρ st).bind enumOf
theorem z_enum {elts : List Expr} {kk : Nat} {tpos p pos : Pos} {e : Expr} {f : Den T} (hg : Gl X "enumerate") (hm : X.mg "enumerate" = none) (he : PE X e (tD X.K CA W f)) (hs : starEach [e] X.env = (false, eval e X.env) :: starEach [] X.env) : PI X (.Tuple elts kk tpos) (.Call (.Name "enumerate" p) [e] [] pos) (tI X.K CA W (iEnumD f)) := by
  refine pi_imp (pi_enum hg hm (pa_cons he pa_nil hs) hs) fun σ H R ⟨as, st, ρ, S, E, m⟩ => ⟨as, st, ρ, S, E, eg m fun t st1 _ m1 as1 H1 v P1 S1 r1 f1 => ?_⟩
  have m2 := EGi.mono P1 m1
  unfold enumOf at m2
  split at m2
  · rename_i ds e1
    obtain ⟨a, vs, ea, q1, q2⟩ := rdL_ok S1 r1 e1
    subst ea
    exact ⟨a, vs, rfl, q1, m2 as1 H1 _ _ Post.refl S1 walk_enum r1⟩
  · exact m2.elim
def sFor (src : Den Src) (tg : Tg) (body : DenS) : DenS := fun ρ st => sE ρ (src ρ st) fun s st => loopS s.ok tg body s.items ρ st
theorem z_for {tg iter : Expr} {body : List Stmt} {pos : Pos} {src : Den Src} {t : Tg} {f : DenS} (hp : PassesOwn (model X.prog X.w) X.A X.env X.xe) (hc : X.calm = true) (hi : PI X tg iter (tI K CA W src)) (hg : PG X tg (gD K t)) (hb : PSs X body (tS K CA W f)) (hs : ∀ x, foldedSetIterable iter X.env x = pure x) :
    PS X (.For tg iter body [] pos) (tS K CA W (sFor src t f)) :=
  ps_imp (ps_for hp hc hi hg hb hs) fun D σ H ⟨as, st, ρ, S, E, m⟩ => ⟨as, st, ρ, S, E, es E m fun s st1 _ m1 as1 H1 J pre P1 S1 w hpre => loop_ok w hpre S1 (E.post P1) (ES.mono P1 m1)⟩
end
end Z
set_option Elab.async false
set_option linter.all false
set_option maxRecDepth 100000
set_option maxHeartbeats 4000000
/-! Z, part G: list comprehensions, stores to places, match. -/
namespace Z
open PySem PySem.Spec PyProof.Rows L2
section
variable {K : PySem.W.Frag} {CA : Nat → Addr} {W : WX} {as as1 as2 : List Addr} {H H1 H2 : Hp} {st st1 st2 : Store} {ρ : Rho} {σ : L2.St} {Q : VK} {X : Cx}

def R.nox {α : Type} : R α → R α
  | .ok a st => .ok a st
  | _ => .bad
def wipeR (ρ : Rho) : List Nat → Rho
  | [] => ρ
  | v :: vs => (wipeR ρ vs).set v none
theorem RE.wipe (E : RE K as H ρ σ) : ∀ vs, RE K as H (wipeR ρ vs) (wipe σ vs)
  | [] => E
  | v :: vs => by
    have ih := E.wipe vs
    unfold wipeR L2.wipe
    refine ⟨by rw [List.length_set, List.length_set]; exact ih.1, fun j d h => ?_⟩
    by_cases hj : v = j
    · subst hj
      have hi : v < ((wipeR ρ vs).set v none).length := (List.getElem?_eq_some_iff.mp h).1
      rw [List.length_set] at hi
      rw [List.getElem?_set_self hi] at h
      cases h
    · rw [List.getElem?_set_ne hj] at h
      obtain ⟨w, e1, q⟩ := ih.2 j d h
      exact ⟨w, by rw [List.getElem?_set_ne hj]; exact e1, q⟩
/-- a comprehension's turns -/
def compS (g : Store → Bool) (tg : Tg) (c : Den Bool) (f : Den T) (ρ0 : Rho) : List D → List D → Store → R T
  | [], acc, st => if g st then .ok (.l acc) st else .bad
  | x :: xs, acc, st => if g st then match asg tg x ρ0 with
      | none => .bad
      | some ρ1 => (c ρ1 st).nox.bind fun b st => if b then (f ρ1 st).nox.bind fun t st => compS g tg c f ρ0 xs (acc ++ [(boxT t st).1]) (boxT t st).2 else compS g tg c f ρ0 xs acc st
    else .bad
def cYes : Den Bool := fun _ st => .ok true st
def eComp (src : Den Src) (ix : List Nat) (tg : Tg) (c : Den Bool) (f : Den T) : Den T := fun ρ st => (src ρ st).bind fun s st => if s.items.length ≤ sizeLine then compS s.ok tg c f (wipeR ρ ix) s.items [] st else .bad
/-- no exception is wished -/
abbrev W0 : WX := fun _ _ _ _ => False
theorem nox_eg {α : Type} {G1 : α → Store → Prop} {r : R α} {σ' : L2.St} {asx : List Addr} {Hx : Hp} {β : Type} {f : α → Store → R β} {G2 : β → Store → Prop} (m : EG K CA W σ as H G2 (r.nox.bind f)) (k : ∀ a st', r = .ok a st' → EG K CA W σ as H G2 (f a st') → G1 a st') : EG K CA W0 σ' asx Hx G1 r := by
  cases r with
  | ok a st' => exact k a st' rfl m
  | exn C fs st' => exact m.elim
  | bad => exact m
/-- what stands at no place of the store is changed -/
theorem Sim.off (S : Sim K CA as st H) {a : Addr} {vs vs' : List V} (h : a ∉ as) (e : H a = some (.lst vs)) : Sim K CA as st (upd H a (.lst vs')) ∧ Up H (upd H a (.lst vs')) := by
  have u : Up H (upd H a (.lst vs')) := by
    refine ⟨fun b xs q => ?_, fun b o u q => ?_, fun b f q => ?_⟩
    · rw [upd_ne]; exact q
      rintro rfl; rw [e] at q; cases q
    · rw [upd_ne]; exact q
      rintro rfl; rw [e] at q; cases q
    · rw [upd_ne]; exact q
      rintro rfl; rw [e] at q; cases q
  refine ⟨⟨S.len, S.nd, fun k b o hb ho => (S.obj k b o hb ho).up u (fun _ _ h => h) (upd_ne ?_)⟩, u⟩
  rintro rfl
  exact h (List.mem_of_getElem? hb)
theorem Post.off {a : Addr} {o : HO} (P : Post as H as1 H1) (h : H a = none) : Post as H as1 (upd H1 a o) := by
  refine ⟨P.ext, fun b x e hb => ?_, fun b x e => ?_, fun b x u e => ?_, fun b f e => ?_, fun b e => ?_⟩
  · rw [upd_ne (ne_of_none e h)]; exact P.keep b x e hb
  · rw [upd_ne (ne_of_none e h)]; exact P.tup b x e
  · rw [upd_ne (ne_of_none e h)]; exact P.frz b x u e
  · rw [upd_ne (ne_of_none e h)]; exact P.ext' b f e
  · by_cases q : b = a
    · subst q; exact h
    · rw [upd_ne q] at e; exact P.dom b e
theorem comp_ok {J : It} {items : List D} {g : Store → Bool} {pre : List Addr → Hp → Prop} {tg : Tg} {c : Den Bool} {f : Den T} {ix : List Nat} {tt : TT} {te : TE} (w : Walk K CA J items g pre) (hp : pre as H) (S : Sim K CA as st H) (E : RE K as H ρ σ) (hz : items.length ≤ sizeLine)
    (htt : ∀ σ H Q, tB K CA W0 c σ H Q → tt σ H Q) (hte : ∀ σ H Q, tD K CA W0 f σ H Q → te σ H Q) (m : ER K CA W σ as H Q (compS g tg c f (wipeR ρ ix) items [] st)) : ∀ D, H D = none →
    ∃ Wn : Nat → Nat → Hp → Prop, (∃ m, Wn 0 m (upd H D (.lst []))) ∧ ∀ i m H, Wn i m H →
      (J.stop i H ∧ Q (.ref D) H) ∨ (J.go i H ∧ ∃ Nx : Hp → Prop, (∀ H', Nx H' → ∃ m', m' < m ∧ Wn (i + 1) m' H') ∧ ∀ x H', J.yld i H x H' → gDx K ix tg x (wipe σ ix) H' fun σ2 H2 => wipe σ2 ix = wipe σ ix ∧ tt σ2 H2 fun b H3 =>
        if b = true then te σ2 H3 fun y H4 => ∃ acc, H4 D = some (.lst acc) ∧ acc.length < sizeLine ∧ Nx (upd H4 D (.lst (acc ++ [y]))) else Nx H3) := by
  intro D hD
  have wi : ∀ σ1 : L2.St, wipe σ1 ix = wipe (wipe σ ix) ix → wipe σ1 ix = wipe σ ix := fun σ1 h => by
    rw [h]
    have go : ∀ (ix : List Nat) (σ : L2.St) (j : Nat), j ∈ ix → (wipe σ ix).set j none = wipe σ ix := by
      intro ix
      induction ix with
      | nil => intro σ j h; cases h
      | cons k ix ih =>
        intro σ j h
        unfold L2.wipe
        by_cases e : k = j
        · subst e; rw [List.set_set]
        · rw [List.set_comm _ _ e]
          rcases List.mem_cons.mp h with h | h
          · exact absurd h.symm e
          · rw [ih σ j h]
    have go2 : ∀ (jx : List Nat) (σ : L2.St), (∀ j ∈ jx, σ.set j none = σ) → wipe σ jx = σ := by
      intro jx
      induction jx with
      | nil => intro σ h; rfl
      | cons k jx ih =>
        intro σ h
        unfold L2.wipe
        rw [ih σ fun j hj => h j (List.mem_cons_of_mem _ hj)]
        exact h k List.mem_cons_self
    exact go2 ix _ fun j hj => go ix σ j hj
  let Inv : Nat → Hp → Prop := fun i H' => i ≤ items.length ∧ ∃ as' st' acc accV, Post as H as' H' ∧ Sim K CA as' st' H' ∧ D ∉ as' ∧ H' D = some (.lst accV) ∧ RDs K as' H' acc accV ∧ acc.length ≤ i ∧ ER K CA W σ as H Q (compS g tg c f (wipeR ρ ix) (items.drop i) acc st')
  refine ⟨fun i n H' => n = items.length - i ∧ Inv i H', ⟨_, rfl, Nat.zero_le _, as, st, [], [], ?_, ?_, S.nin hD, upd_same, RDs.nil, Nat.le_refl _, m⟩, ?_⟩
  · exact (S.laid hD).2
  · exact (S.laid hD).1
  rintro i n H' ⟨rfl, hi, as', st', acc, accV, P, S', hDn, hDe, rA, hl, m⟩
  have hp' := w.up _ _ _ _ hp P
  have E0 : RE K as' H' (wipeR ρ ix) (wipe σ ix) := (E.post P).wipe ix
  by_cases hlt : i < items.length
  · have ed : items.drop i = items[i] :: items.drop (i + 1) := List.drop_eq_getElem_cons hlt
    rw [ed] at m
    unfold compS at m
    split at m
    · rename_i hg
      split at m
      · exact m.elim
      · rename_i ρ1 ea
        refine .inr ⟨w.go i as' st' H' S' hp' hg hlt, Inv (i + 1), fun H'' h => ⟨_, by omega, rfl, h⟩, fun x H2 y => ?_⟩
        obtain ⟨S2, P2, r2⟩ := w.yld i as' st' H' x H2 items[i] S' hp' hg (by simp [hlt]) y
        refine ⟨as', items[i], _, ρ1, E0.post P2, r2, ea, fun σ1 E1 hw => ⟨wi σ1 hw, htt σ1 H2 _ ⟨as', st', ρ1, S2, E1, nox_eg m fun b st3 _ m3 as3 H3 P3 S3 => ?_⟩⟩⟩
        have keepD : ∀ {as4 H4}, Post as' H' as4 H4 → D ∉ as4 ∧ H4 D = some (.lst accV) := fun {as4 H4} P4 => by
          refine ⟨fun hm => ?_, P4.keep D _ hDe hDn⟩
          obtain ⟨bs, eb, n⟩ := P4.ext
          rw [eb] at hm
          rcases List.mem_append.mp hm with hm | hm
          · exact hDn hm
          · rw [n D hm] at hDe; cases hDe
        dsimp only
        split
        · rename_i hb
          rw [if_pos hb] at m3
          refine hte σ1 H3 _ ⟨as3, st3, ρ1, S3, E1.post P3, nox_eg m3 fun t st4 _ m4 as4 H4 v P4 S4 r4 f4 => ?_⟩
          obtain ⟨as5, P5, sub, S5, r5⟩ := box_ok P4 S4 r4 f4
          have PP : Post as' H' as5 H4 := (P2.trans P3).trans P5
          obtain ⟨hn5, he5⟩ := keepD PP
          obtain ⟨S6, u6⟩ := S5.off (vs' := accV ++ [v]) hn5 he5
          exact ⟨accV, he5, by rw [rA.len]; omega, hlt, as5, _, _, _, (P.trans PP).off hD, S6, hn5, upd_same, ((rA.post PP).app (RDs.cons r5 RDs.nil)).up u6 (fun _ _ h => h), by rw [List.length_append, List.length_singleton]; omega, m4⟩
        · rename_i hb
          rw [if_neg hb] at m3
          have PP : Post as' H' as3 H3 := P2.trans P3
          obtain ⟨hn5, he5⟩ := keepD PP
          exact ⟨hlt, as3, st3, acc, accV, P.trans PP, S3, hn5, he5, rA.post PP, by omega, m3⟩
    · exact m.elim
  · have e : i = items.length := by omega
    subst e
    rw [List.drop_length] at m
    unfold compS at m
    split at m
    · rename_i hg
      exact .inl ⟨w.stop as' st' H' S' hp' hg, m as' H' (.ref D) P S' ⟨D, accV, rfl, hDe, rA, hDn⟩ fun a e => by cases e; exact hD⟩
    · exact m.elim
theorem pts_imp {ifs : List Expr} {t t' : TT} (h : PTs X ifs t) (i : ∀ σ H Q, t' σ H Q → t σ H Q) : PTs X ifs t' := ⟨fun pins s σ H Q I hw => h.run pins s σ H Q I (i σ H Q hw)⟩
theorem z_tnil : PTs X [] (tB K CA W cYes) := pts_imp pts_nil fun σ H Q ⟨as, st, ρ, S, E, m⟩ => m as H Post.refl S
theorem z_tone {c : Expr} {f : Den Bool} (h : PT X c (tB K CA W f)) : PTs X [c] (tB K CA W f) := pts_one h
theorem z_lc {elt tg iter : Expr} {ifs : List Expr} {scope : Scope} {own : List (Str × Nat)} {pos : Pos} {src : Den Src} {t : Tg} {c : Den Bool} {f : Den T} (hc : X.calm = true) (hN : X.N.Nodup) (hi : PI X tg iter (tI X.K CA W src)) (ok : BlkOk X.N X.env.scope scope own)
    (hg : ∀ (s : Shared) (H : Hp) (C : Addr) (cl : List (Str × Addr)) (fp : List Addr), PG (X.blk s H scope (compEnvC scope cl C X.env) fp) tg (gDx X.K (own.map (·.2)) t))
    (ht : ∀ (s : Shared) (H : Hp) (C : Addr) (cl : List (Str × Addr)) (fp : List Addr), PTs (X.blk s H scope (compEnvC scope cl C X.env) fp) ifs (tB X.K CA W0 c))
    (he : ∀ (s : Shared) (H : Hp) (C : Addr) (cl : List (Str × Addr)) (fp : List Addr), PE (X.blk s H scope (compEnvC scope cl C X.env) fp) elt (tD X.K CA W0 f)) (hs : ∀ x, foldedSetIterable iter X.env x = pure x) :
    PE X (.ListComp elt [⟨tg, iter, ifs, 0⟩] scope pos) (tD X.K CA W (eComp src (own.map (·.2)) t c f)) :=
  pe_imp (pe_lc hc hN hi ok hg ht he hs) fun σ H Q ⟨as, st, ρ, S, E, m⟩ => ⟨as, st, ρ, S, E, eg m fun s st1 _ m1 as1 H1 J pre P1 S1 w hpre => by
    have m2 := ER.mono P1 m1
    split at m2
    · rename_i hz
      exact comp_ok w hpre S1 (E.post P1) hz (fun _ _ _ h => h) (fun _ _ _ h => h) m2
    · exact m2.elim⟩
/-- name = [..] -/
theorem z_setLc {i : Nat} {y : Str} {py : Pos} {elt tg iter : Expr} {ifs : List Expr} {scope : Scope} {own : List (Str × Nat)} {pos spos : Pos} {src : Den Src} {t : Tg} {c : Den Bool} {f : Den T} (hc : X.calm = true) (hN : X.N.Nodup) (hy : X.N[i]? = some y) (hyl : X.env.scope.names.lookup y = some .local)
    (hsw : swapsWith (.ListComp elt [⟨tg, iter, ifs, 0⟩] scope pos) (some (.Name y py)) spos.line X.env = pure true) (hi : PI X tg iter (tI X.K CA W src)) (ok : BlkOk X.N X.env.scope scope own)
    (hg : ∀ (s : Shared) (H : Hp) (C : Addr) (cl : List (Str × Addr)) (fp : List Addr), PG (X.blk s H scope (compEnvC scope cl C X.env) fp) tg (gDx X.K (own.map (·.2)) t))
    (ht : ∀ (s : Shared) (H : Hp) (C : Addr) (cl : List (Str × Addr)) (fp : List Addr), PTs (X.blk s H scope (compEnvC scope cl C X.env) fp) ifs (tB X.K CA W0 c))
    (he : ∀ (s : Shared) (H : Hp) (C : Addr) (cl : List (Str × Addr)) (fp : List Addr), PE (X.blk s H scope (compEnvC scope cl C X.env) fp) elt (tD X.K CA W0 f)) (hs : ∀ x, foldedSetIterable iter X.env x = pure x) :
    PS X (.Assign [.Name y py] (.ListComp elt [⟨tg, iter, ifs, 0⟩] scope pos) spos) (tS X.K CA W (sAsg (.n i) (eComp src (own.map (·.2)) t c f))) := by
  refine ps_imp (ps_setLc hc hN hy hyl hsw hi ok hg ht he hs) fun D σ H m => ?_
  obtain ⟨as, st, ρ, S, E, m⟩ := asg_ok m
  refine ⟨as, st, ρ, S, E, eg m fun s st1 _ m1 as1 H1 J pre P1 S1 w hpre => ?_⟩
  have m2 := ER.mono P1 m1
  split at m2
  · rename_i hz
    intro D' hD'
    obtain ⟨Wn, h0, hW⟩ := comp_ok (tt := tB X.K CA W0 c) (te := tD X.K CA W0 f) w hpre S1 (E.post P1) hz (fun _ _ _ h => h) (fun _ _ _ h => h) m2 D' hD'
    refine ⟨Wn, h0, fun i' m' H' hw => ?_⟩
    rcases hW i' m' H' hw with ⟨h1, h2⟩ | h
    · refine .inl ⟨h1, ?_⟩
      obtain ⟨as2, d, ρ1, ρ2, E2, r2, e2, k⟩ := h2
      unfold asg at e2
      cases e2
      exact k _ (E2.set r2)
    · exact .inr h
  · exact m2.elim

/-! ### o[i] = v -/
def putL (t : T) (b : T) (d : D) (st : Store) : Option Store := match plc t st, b with
  | some (k, xs), .d (.p (.int i)) => match ixN xs.length i with
    | some j => some (st.set k (.lst (xs.set j d)))
    | none => none
  | _, _ => none
def sSub (f : Den T) (o i : Den T) : DenS := fun ρ st => sE ρ (f ρ st) fun t st => sE ρ (o ρ (boxT t st).2) fun a st2 => sE ρ (i ρ st2) fun b st3 => match putL a b (boxT t st).1 st3 with
  | some st4 => .nx ρ st4
  | none => .bad
theorem z_sub {e o i : Expr} {pos tpos : Pos} {f fo fi : Den T} (he : PE X e (tD X.K CA W f)) (ho : PE X o (tD X.K CA W fo)) (hi : PE X i (tD X.K CA W fi))
    (ha : ∀ v, assign (.Subscript o i tpos) X.env v = (do
      let ov ← holding [v] (eval o X.env)
      let iv ← holding [v, ov] (eval i X.env)
      standAt tpos
      holding [v, ov, iv] (setItem ov iv v)
      release [v, ov, iv] []))
    (hs : swapsWithSole [.Subscript o i tpos] e pos.line X.env = pure false) (hw : swappedStores [.Subscript o i tpos] e X.env = pure none)
    (h1 : (assignEach [.Subscript o i tpos] X.env).map (·.2) = [assign (.Subscript o i tpos) X.env]) : PS X (.Assign [.Subscript o i tpos] e pos) (tS X.K CA W (sSub f fo fi)) := by
  refine ps_imp (ps_asg he (pg_sub ho hi set_list ha) hs hw h1) fun D σ H ⟨as, st, ρ, S, E, m⟩ => ⟨as, st, ρ, S, E, es E m fun t st1 _ m1 as1 H1 v P1 S1 r1 f1 => ?_⟩
  obtain ⟨as2, P2, sub, S2, r2⟩ := box_ok P1 S1 r1 f1
  refine ⟨as2, _, ρ, S2, E.post P2, es (E.post P2) (ES.mono P2 m1) fun a st3 ha3 m3 as3 H3 va P3 S3 r3 f3 => ⟨as3, st3, ρ, S3, (E.post P2).post P3, es ((E.post P2).post P3) (ES.mono P3 m3) fun b st4 hb4 m4 as4 H4 vb P4 S4 r4 f4 => ?_⟩⟩
  have m5 := ES.mono P4 m4
  split at m5
  · rename_i st5 e5
    unfold putL at e5
    split at e5
    · rename_i k xs i0 ek
      split at e5
      · rename_i j ej
        cases e5
        obtain ⟨a', ws, ea, q0, q1, q2⟩ := plc_ok S4 (r3.up P4) ek
        have rr := q2.set (r2.post (P3.trans P4)) j
        have u : Up H4 (upd H4 a' (.lst (ws.set j v))) := by
          refine ⟨fun b xs q => ?_, fun b o u q => ?_, fun b f q => ?_⟩
          · rw [upd_ne]; exact q
            rintro rfl; rw [q1] at q; cases q
          · rw [upd_ne]; exact q
            rintro rfl; rw [q1] at q; cases q
          · rw [upd_ne]; exact q
            rintro rfl; rw [q1] at q; cases q
        obtain ⟨S6, P6⟩ := S4.set (o := .lst (xs.set j (boxT t st1).1)) q0 (fun f z => by rw [q1] at z; cases z) ⟨_, upd_same, rr.up u fun _ _ h => h⟩
        exact ⟨a', ws, i0, j, ea, RTint r4, q1, by rw [q2.len]; exact ej, m5 as4 _ σ P6 S6 (((E.post P2).post P3).post (P4.trans P6))⟩
      · cases e5
    · cases e5
  · exact m5.elim
end
end Z
set_option Elab.async false
set_option linter.all false
set_option maxRecDepth 100000
set_option maxHeartbeats 4000000
/-! Z, part H: defs and their calls; what a call leaves is tidied. -/
namespace Z
open PySem PySem.Spec PyProof.Rows L2
/-- the wish of a def -/
abbrev WF (E : XK) : WX := fun cls d _ H => E cls d H
/-- a def of the text does F -/
structure FnZ (P : Program) (w : World) (K : PySem.W.Frag) (mg : Str → Option Value) (base : Heap) (CA : Nat → Addr) (k : Nat) (f : Addr) (fd : FuncData) (ps : List Str) (F : List D → Store → R T) : Prop where
  run : ∀ (A : Around) (outer : List PySem.Env) (s : Shared) (H : Hp) (args : Args) (us : List Value) (vs : List V) (Q : VK) (E : XK) (as : List Addr) (st : Store) (ds : List D) (σ : L2.St), Room k A → A.guards = some [] → Env0 P w K mg base A outer s H →
    BindsTo s fd args (ps.zip us) → Vals vs us → us.length = ps.length → Sim K CA as st H → RDs K as H ds vs → EG K CA (WF E) σ as H (GT K CA as H Q) (F ds st) → codeAny (model P w) A (.call (.ref f) args) (CR (L2.CX P w) outer P w H s Q E) s
theorem FnZ.mono {P : Program} {w : World} {K : PySem.W.Frag} {mg : Str → Option Value} {base : Heap} {CA : Nat → Addr} {j k : Nat} {f : Addr} {fd : FuncData} {ps : List Str} {F : List D → Store → R T} (h : FnZ P w K mg base CA j f fd ps F) (hk : j ≤ k) : FnZ P w K mg base CA k f fd ps F :=
  ⟨fun A outer s H args us vs Q E as st ds σ hr => h.run A outer s H args us vs Q E as st ds σ (hr.mono hk)⟩
section
variable {X : Cx} {CA : Nat → Addr} {W : WX} {k : Nat} {f : Addr} {fd : FuncData} {ps : List Str} {F : List D → Store → R T} {x : Str} {p pos : Pos} {e : Expr} {es : List Expr} {g : Den (List D)} {dflt : List P} {ds0 : List Value}
/-- the defaults' values -/
def Dflt (K : PySem.W.Frag) (dflt : List P) (ds0 : List Value) : Prop := ∃ dvs, Vals dvs ds0 ∧ ∀ H : Hp, RPs K H dflt dvs
theorem Dflt.nil {K : PySem.W.Frag} : Dflt K [] [] := ⟨[], .nil, fun H => by unfold RPs; rfl⟩
theorem run_fnZ {pins : List (Addr × Obj)} {σ : L2.St} {H : Hp} {s : Shared} {Q : VK} {us : List Value} {vs : List V} {as : List Addr} {st : Store} {ds : List D} (hF : FnZ X.prog X.w X.K X.mg X.base CA k f fd ps F) (hr : Room k X.A) (hgd : X.A.guards = some []) (hb : Binds X.K fd ps ds0) (hd : Dflt X.K dflt ds0) (tk : Takes X W)
    (I : Inv X pins σ H s) (r : Vals vs us) (hl : ds.length + dflt.length = ps.length) (S : Sim X.K CA as st H) (rd : RDs X.K as H ds vs) (m : EG X.K CA W σ as H (GT X.K CA as H Q) (F (ds ++ dflt.map .p) st)) : wpAny (model X.prog X.w) X.A (call (.ref f) us) (EP X pins σ Q) X.xe s := by
  obtain ⟨dvs, r0, rp⟩ := hd
  have r2 : Vals (vs ++ dvs) (us ++ ds0) := r.append r0
  have hl2 : (us ++ ds0).length = ps.length := by
    rw [List.length_append, ← r.length, ← r0.length, rd.len, (rp H).len]
    exact hl
  have m2 : EG X.K CA (WF (WE W σ)) σ as H (GT X.K CA as H Q) (F (ds ++ dflt.map .p) st) := by
    cases e : F (ds ++ dflt.map .p) st with
    | ok t st' => rw [e] at m; exact m
    | exn C fs st' => rw [e] at m; exact m
    | bad => rw [e] at m; exact m
  refine wpAny_call (codeAny_mono (hF.run X.A X.stack s H ⟨us, []⟩ (us ++ ds0) (vs ++ dvs) Q (WE W σ) as st (ds ++ dflt.map .p) σ hr hgd I.env0 (hb s us I.kIn hl2) r2 hl2 S (rd.app (RDs.ofP (rp H))) m2) fun r s' hq => ?_)
  cases r with
  | error e => exact passAt tk σ pins H s e s' I hq
  | ok fl =>
    cases fl with
    | ret u => exact I.after hq
    | next => exact False.elim hq
    | brk => exact False.elim hq
    | cont => exact False.elim hq
/-- f(e, ..), the defaults filled up -/
def eCall (F : List D → Store → R T) (np : Nat) (dflt : List P) (g : Den (List D)) : Den T := fun ρ st => (g ρ st).bind fun ds st => if ds.length + dflt.length = np then F (ds ++ dflt.map .p) st else .bad
theorem z_call (hF : FnZ X.prog X.w X.K X.mg X.base CA k f fd ps F) (hr : Room k X.A) (hgd : X.A.guards = some []) (hg : Gl X x) (hm : X.mg x = some (.ref f)) (hk : PySem.W.keepIn X.K (.ref f) = true) (hb : Binds X.K fd ps ds0) (hd : Dflt X.K dflt ds0) (tk : Takes X W)
    (ha : PA X (e :: es) (tL X.K CA W g)) (hdb : (x == ("__debug__" : Str)) = false) (he : starEach (e :: es) X.env = (false, eval e X.env) :: starEach es X.env) (hpl : (backTo pos (starEach es X.env)).any (·.1) = false) :
    PE X (.Call (.Name x p) (e :: es) [] pos) (tD X.K CA W (eCall F ps.length dflt g)) := by
  refine ⟨fun pins s σ H Q I ⟨as, st, ρ, S, E, m⟩ => ?_⟩
  refine wpAny_Call_Name_kw (ld_glob I hg hm ?_ hdb)
  refine PySem.W.callWith_K (h₀ := X.base) I.ok.mod.kin hk (thn (ha.run pos pins s σ H (fun vs H1 => ∃ as1 st1 ds, Sim X.K CA as1 st1 H1 ∧ RDs X.K as1 H1 ds vs ∧ EG X.K CA W σ as1 H1 (GT X.K CA as1 H1 Q) (if ds.length + dflt.length = ps.length then F (ds ++ dflt.map .p) st1 else .bad)) I ⟨as, st, ρ, S, E, eg m fun ds st1 _ m1 as1 H1 vs P1 S1 r1 => ⟨as1, st1, ds, S1, r1, ER.mono P1 m1⟩⟩) fun us s1 ⟨vs, H1, I1, r, as1, st1, ds, S1, r1, m1⟩ => ⟨I1.kIn, ?_⟩) he hpl
  split at m1
  · rename_i hl
    exact run_fnZ hF hr hgd hb hd tk I1 r hl S1 r1 m1
  · exact m1.elim
theorem z_call0 (hF : FnZ X.prog X.w X.K X.mg X.base CA k f fd ps F) (hr : Room k X.A) (hgd : X.A.guards = some []) (hg : Gl X x) (hm : X.mg x = some (.ref f)) (hk : PySem.W.keepIn X.K (.ref f) = true) (hb : Binds X.K fd ps ds0) (hd : Dflt X.K dflt ds0) (tk : Takes X W)
    (hdb : (x == ("__debug__" : Str)) = false) : PE X (.Call (.Name x p) [] [] pos) (tD X.K CA W (eCall F ps.length dflt eNil)) := by
  refine ⟨fun pins s σ H Q I ⟨as, st, ρ, S, E, m⟩ => ?_⟩
  refine wpAny_Call_Name_kw (ld_glob I hg hm ?_ hdb)
  have m1 : EG X.K CA W σ as H (GT X.K CA as H Q) (if ([] : List D).length + dflt.length = ps.length then F ([] ++ dflt.map .p) st else .bad) := m
  split at m1
  · rename_i hl
    exact PySem.W.callWith_K0 I.kIn hk (run_fnZ (us := []) (ds := []) hF hr hgd hb hd tk I .nil hl S RDs.nil m1)
  · exact m1.elim
end

/-! ### a def's body -/
def fnBody (n np : Nat) (body : DenS) (ds : List D) (st : Store) : R T := if ds.length = np then match body (ds.map some ++ List.replicate (n - np) none) st with
    | .nx _ st' => .ok (.d (.p .non)) st'
    | .rt t st' => .ok t st'
    | .exn C fs _ st' => .exn C fs st'
    | _ => .bad
  else .bad
theorem re_start {K : PySem.W.Frag} {as : List Addr} {H : Hp} {ds : List D} {vs : List V} {N : List Str} (r : RDs K as H ds vs) (h : ds.length ≤ N.length) : RE K as H (ds.map some ++ List.replicate (N.length - ds.length) none) (L2.start N vs) := by
  unfold L2.start
  refine ⟨by simp [r.len], fun i d e => ?_⟩
  by_cases hi : i < ds.length
  · rw [List.getElem?_append_left (by simpa using hi), List.getElem?_map] at e
    cases q : ds[i]? with
    | none => rw [q] at e; cases e
    | some d' =>
      rw [q] at e
      cases e
      obtain ⟨v, q1, q2⟩ := r.get q
      exact ⟨v, by rw [List.getElem?_append_left (by simpa [r.len] using hi), List.getElem?_map, q1]; rfl, q2⟩
  · rw [List.getElem?_append_right (by simpa using hi), List.getElem?_replicate] at e
    split at e <;> cases e
theorem z_fn {P : Program} {w : World} {K : PySem.W.Frag} {mg : Str → Option Value} {base : Heap} {CA : Nat → Addr} {k : Nat} {f : Addr} {name qual : Str} {params : Arguments} {body : List Stmt} {scope : Scope} {dV kV doc pm cdv ct oc : Value} {an od : Option Addr}
    {osl : Array (Option Value)} {N ps : List Str} {bd : DenS} (lk : K.lookup f = some ⟨oc, od, .func (PySem.W.fnOf name qual params body scope dV kV doc pm an cdv ct), osl⟩) (hcd : PySem.W.codeIn K cdv qual = true) (S : FnScope N ps scope)
    (hbody : ∀ (A : Around) (outer : List PySem.Env) (s : Shared) (H : Hp) (E : XK), Room k (A.deeper (envOfC qual scope s.heap.objs.size f cdv)) → A.guards = some [] →
      PSs (cxOf (L2.CX P w) P w K mg base N qual scope f cdv A outer s H E) body (tS K CA (WF E) bd)) :
    FnZ P w K mg base CA (k + 1) f (PySem.W.fnOf name qual params body scope dV kV doc pm an cdv ct) ps (fnBody N.length ps.length bd) := by
  refine ⟨fun A outer s H args us vs Q E as st ds σ hr hgd e0 hb r hl S0 rd m => ?_⟩
  have hl' : ps.length = us.length := hl.symm
  have KX : K.In s.heap := e0.mod.kin.keeps fun b o e => (e0.bs b o e).1
  have lim : s.heap.NoLimit := e0.mod.nolimit.keeps fun b o e => (e0.bs b o e).1
  have hkind : ∀ y ∈ ps.zip us, scope.names.lookup y.1 = some .local ∨ (scope.names.lookup y.1 = some .cell ∧ ((cellsFrom (s.heap.objs.size + 1) scope.names []).lookup y.1).isSome = true) := fun ⟨n, v⟩ hy => by
    rcases S.par n (List.of_mem_zip hy).1 with q | q
    · exact .inl q
    · exact .inr ⟨q, PySem.W.cellsFrom_some _ _ _ (.inl q)⟩
  refine codeAny_call_function hr.depth (KX _ _ lk) rfl S.co S.gen rfl (PySem.W.codeRec_of KX hcd) (hb _ _ _ _ ?_)
  refine wpAny_newFunctionEnv_cells S.kind hkind fun env he s1 x => ?_
  subst he
  refine ⟨lim.keeps x.toInCall.keep, codeAny_func ?_⟩
  have ht := hbody A outer s H E (hr.deeper _) hgd
  have hvl : vs.length = ps.length := by rw [r.length, hl]
  have I : Inv (cxOf (L2.CX P w) P w K mg base N qual scope f cdv A outer s H E) [] (L2.start N vs) H s1 := inv_start S hr.hd e0 hvl r x
  have hdl : ds.length = ps.length := by rw [← rd.len, hvl]
  have hpl : ps.length ≤ N.length := by have := congrArg List.length S.pre; rw [List.length_take] at this; omega
  unfold fnBody at m
  rw [if_pos hdl] at m
  have E1 : RE K as H (ds.map some ++ List.replicate (N.length - ps.length) none) (L2.start N vs) := by rw [← hdl]; exact re_start rd (by omega)
  have mS : ES K CA (WF E) { nx := fun _ H' => Q .non H', rt := Q } as H (bd (ds.map some ++ List.replicate (N.length - ps.length) none) st) := by
    cases eb : bd (ds.map some ++ List.replicate (N.length - ps.length) none) st with
    | nx ρ' st' => rw [eb] at m; exact fun as' H' σ' P' S' E' => m as' H' .non P' S' (RD.non (K := K) (as := as') (H := H')) trivial
    | rt t st' => rw [eb] at m; exact m
    | exn C fs ρ' st' => rw [eb] at m; exact fun as' H' dx us σ' P' S' E' e r' => m as' H' dx us P' S' e r'
    | bk ρ' st' => rw [eb] at m; exact m.elim
    | ct ρ' st' => rw [eb] at m; exact m.elim
    | bad => rw [eb] at m; exact m
  refine wpAny_mono (ht.run [] s1 (L2.start N vs) H _ I ⟨as, st, _, S0, E1, mS⟩) (fun fl s' hs => ?_) fun e s' hs => hs
  have fin : ∀ {σ' : L2.St} {H' : Hp} {v : V} {u : Value}, Inv (cxOf (L2.CX P w) P w K mg base N qual scope f cdv A outer s H E) [] σ' H' s' → RelV v u → Q v H' → CE outer P w H s Q u s' :=
    fun {σ' H' v u} J rv q => ⟨v, H', J.os, J.bare, J.base, J.hok, rv, q⟩
  cases fl with
  | ret u =>
    obtain ⟨v, σ', H', J, rv, q⟩ := hs
    exact fin J rv q
  | next =>
    obtain ⟨σ', H', J, q⟩ := hs
    exact fin (v := V.non) (u := Value.none) J rfl q
  | brk =>
    obtain ⟨_, _, _, q⟩ := hs
    exact False.elim q
  | cont =>
    obtain ⟨_, _, _, q⟩ := hs
    exact False.elim q

/-! ### tidying -/
mutual
def closedD (n : Nat) : D → Bool
  | .p _ => true
  | .ref k => decide (k < n)
  | .tup ds => closedDs n ds
  | .kl _ => true
def closedDs (n : Nat) : List D → Bool
  | [] => true
  | d :: ds => closedD n d && closedDs n ds
end
def closedO (n : Nat) : O → Bool
  | .lst ds => closedDs n ds
  | .ins _ fs => closedDs n (fs.map (·.2))
  | .exc _ fs => closedDs n (fs.map (·.2))
def tidyT (n : Nat) (t : T) (st' : Store) : Option T := match t with
  | .l ds => if closedDs n ds then some (.l ds) else none
  | .d x => if closedD n x then some (.d x) else match x with
    | .ref k => match st'[k]? with
      | some (.lst ds) => if closedDs n ds then some (.l ds) else none
      | _ => none
    | _ => none
def tidySt (st st' : Store) : Option Store := if (List.range st.length).all (fun k => match (st'.take st.length)[k]? with
    | some o => decide (st[k]? = some o) || closedO st.length o
    | none => true) = true then some (st'.take st.length) else none
def tidy (F : List D → Store → R T) (ds : List D) (st : Store) : R T := match F ds st with
  | .ok t st' => match tidyT st.length t st', tidySt st st' with
    | some t', some st'' => .ok t' st''
    | _, _ => .bad
  | .exn C fs st' => match tidySt st st' with
    | some st'' => if closedDs st.length (fs.map (·.2)) then .exn C fs st'' else .bad
    | none => .bad
  | .bad => .bad
section
variable {K : PySem.W.Frag} {CA : Nat → Addr} {W : WX} {as as' as1 : List Addr} {H H' H1 : Hp} {st st' st1 : Store} {σ : L2.St} {Q : VK}
mutual
theorem RD.closed : ∀ {x : D} {v : V}, RD K as H x v → closedD as.length x = true
  | .p x, _, _ => rfl
  | .kl x, _, _ => rfl
  | .ref k, v, h => by
    unfold RD at h
    obtain ⟨a, e, _⟩ := h
    show decide (k < as.length) = true
    exact decide_eq_true (List.getElem?_eq_some_iff.mp e).1
  | .tup ds, v, h => by
    unfold RD at h
    obtain ⟨a, vs, _, _, r⟩ := h
    show closedDs as.length ds = true
    exact RDs.closed r
theorem RDs.closed : ∀ {xs : List D} {vs : List V}, RDs K as H xs vs → closedDs as.length xs = true
  | [], _, _ => rfl
  | x :: xs, vs, h => by
    unfold RDs at h
    obtain ⟨v, r, e, h1, h2⟩ := h
    show (closedD as.length x && closedDs as.length xs) = true
    rw [RD.closed h1, RDs.closed h2]; rfl
end
mutual
theorem RD.less {bs : List Addr} : ∀ {x : D} {v : V}, RD K (as ++ bs) H x v → closedD as.length x = true → RD K as H x v
  | .p x, v, h, _ => by unfold RD at h ⊢; exact h
  | .kl x, v, h, _ => by unfold RD at h ⊢; exact h
  | .ref k, v, h, c => by
    have c : k < as.length := of_decide_eq_true c
    unfold RD at h ⊢
    obtain ⟨a, e, q⟩ := h
    rw [List.getElem?_append_left c] at e
    exact ⟨a, e, q⟩
  | .tup ds, v, h, c => by
    have c : closedDs as.length ds = true := c
    unfold RD at h ⊢
    obtain ⟨a, vs, e, q, r⟩ := h
    exact ⟨a, vs, e, q, RDs.less r c⟩
theorem RDs.less {bs : List Addr} : ∀ {xs : List D} {vs : List V}, RDs K (as ++ bs) H xs vs → closedDs as.length xs = true → RDs K as H xs vs
  | [], _, h, _ => by unfold RDs at h ⊢; exact h
  | x :: xs, vs, h, c => by
    have c : (closedD as.length x && closedDs as.length xs) = true := c
    rw [Bool.and_eq_true] at c
    unfold RDs at h ⊢
    obtain ⟨v, r, e, h1, h2⟩ := h
    exact ⟨v, r, e, RD.less h1 c.1, RDs.less h2 c.2⟩
end
theorem RO.closed {a : Addr} {o : O} (h : RO K CA as H a o) : closedO as.length o = true := by
  cases o with
  | lst ds => obtain ⟨vs, _, r⟩ := h; exact RDs.closed r
  | ins C fs => obtain ⟨dx, us, _, r⟩ := h; exact RDs.closed r.2
  | exc C fs => obtain ⟨dx, us, _, _, r⟩ := h; exact RDs.closed r.2
theorem RO.less {bs : List Addr} {a : Addr} {o : O} (h : RO K CA (as ++ bs) H a o) (c : closedO as.length o = true) : RO K CA as H a o := by
  cases o with
  | lst ds => obtain ⟨vs, e, r⟩ := h; exact ⟨vs, e, RDs.less r c⟩
  | ins C fs => obtain ⟨dx, us, e, r⟩ := h; exact ⟨dx, us, e, r.1, RDs.less r.2 c⟩
  | exc C fs => obtain ⟨dx, us, e, e2, r⟩ := h; exact ⟨dx, us, e, e2, r.1, RDs.less r.2 c⟩
theorem tidySt_ok {st'' : Store} (S : Sim K CA as st H) (P : Post as H as' H') (S' : Sim K CA as' st' H') (h : tidySt st st' = some st'') : Sim K CA as st'' H' ∧ Post as H as H' := by
  unfold tidySt at h
  split at h
  · rename_i hc
    cases h
    obtain ⟨bs, eb, n⟩ := P.ext
    subst eb
    have hlen : as.length ≤ st'.length := by rw [← S'.len, List.length_append]; omega
    refine ⟨⟨by rw [List.length_take, ← S.len]; omega, S.nd, fun k a o ha ho => ?_⟩, ⟨⟨[], by simp, fun _ h => by cases h⟩, P.keep, P.tup, P.frz, P.ext', P.dom⟩⟩
    have hk : k < as.length := (List.getElem?_eq_some_iff.mp ha).1
    have ho' : st'[k]? = some o := by
      rw [List.getElem?_take_of_lt (by rw [← S.len]; exact hk)] at ho
      exact ho
    have r := S'.obj k a o (by rw [List.getElem?_append_left hk]; exact ha) ho'
    refine r.less ?_
    have hc2 := List.all_eq_true.mp hc k (List.mem_range.mpr (by rw [← S.len]; exact hk))
    rw [ho] at hc2
    have hc3 : (decide (st[k]? = some o) || closedO st.length o) = true := hc2
    rw [Bool.or_eq_true, decide_eq_true_eq] at hc3
    rcases hc3 with hc3 | hc3
    · exact (S.obj k a o ha hc3).closed
    · rw [S.len]; exact hc3
  · cases h
theorem tidy_ok {F : List D → Store → R T} {ds : List D} (S : Sim K CA as st H) (m : EG K CA W σ as H (GT K CA as H Q) (tidy F ds st)) : EG K CA W σ as H (GT K CA as H Q) (F ds st) := by
  unfold tidy at m
  cases e : F ds st with
  | bad => rw [e] at m; exact m
  | exn C fs st' =>
    rw [e] at m
    dsimp only at m
    split at m
    · rename_i st'' e2
      split at m
      · rename_i hc
        intro as' H' dx us P' S' e3 r'
        obtain ⟨S2, P2⟩ := tidySt_ok S P' S' e2
        obtain ⟨bs, eb, n⟩ := P'.ext
        subst eb
        exact m as H' dx us P2 S2 e3 ⟨r'.1, RDs.less r'.2 (by rw [S.len]; exact hc)⟩
      · exact m.elim
    · exact m.elim
  | ok t st' =>
    rw [e] at m
    dsimp only at m
    split at m
    · rename_i t' st'' e1 e2
      intro as' H' v P' S' r' f'
      obtain ⟨S2, P2⟩ := tidySt_ok S P' S' e2
      obtain ⟨bs, eb, n⟩ := P'.ext
      subst eb
      unfold tidyT at e1
      split at e1
      · split at e1
        · rename_i hc
          cases e1
          obtain ⟨a, vs, ea, q1, q2, q3⟩ := r'
          exact m as H' v P2 S2 ⟨a, vs, ea, q1, RDs.less q2 (by rw [S.len]; exact hc), fun hm => q3 (List.mem_append_left _ hm)⟩ f'
        · cases e1
      · split at e1
        · rename_i hc
          cases e1
          exact m as H' v P2 S2 (RD.less (show RD K (as ++ bs) H' _ v from r') (by rw [S.len]; exact hc)) f'
        · split at e1
          · rename_i k hc
            split at e1
            · rename_i ds' hk
              split at e1
              · rename_i hc2
                cases e1
                have r' : RD K (as ++ bs) H' (.ref k) v := r'
                unfold RD at r'
                obtain ⟨a, q1, q2⟩ := r'
                obtain ⟨vs, q3, q4⟩ := S'.obj k a _ q1 hk
                have hge : as.length ≤ k := by
                  have hc : ¬ (decide (k < st.length) = true) := hc
                  rw [S.len]
                  simpa using hc
                rw [List.getElem?_append_right hge] at q1
                have hn := n a (List.mem_of_getElem? q1)
                exact m as H' v P2 S2 ⟨a, vs, q2, q3, RDs.less q4 (by rw [S.len]; exact hc2), S.nin hn⟩ fun b eb => by rw [q2] at eb; cases eb; exact hn
              · cases e1
            · cases e1
          · cases e1
    · exact m.elim
end
theorem FnZ.tidy {P : Program} {w : World} {K : PySem.W.Frag} {mg : Str → Option Value} {base : Heap} {CA : Nat → Addr} {k : Nat} {f : Addr} {fd : FuncData} {ps : List Str} {F : List D → Store → R T} (h : FnZ P w K mg base CA k f fd ps F) : FnZ P w K mg base CA k f fd ps (Z.tidy F) :=
  ⟨fun A outer s H args us vs Q E as st ds σ hr hg e0 hb r hl S rd m => h.run A outer s H args us vs Q E as st ds σ hr hg e0 hb r hl S rd (tidy_ok S m)⟩
end Z
set_option Elab.async false
set_option linter.all false
set_option maxRecDepth 100000
set_option maxHeartbeats 4000000
/-! Z, part I: match over texts, repr of data. -/
namespace Z
open PySem PySem.Spec PyProof.Rows L2
section
variable {K : PySem.W.Frag} {CA : Nat → Addr} {W : WX} {as as1 as2 : List Addr} {H H1 H2 : Hp} {st st1 st2 : Store} {ρ : Rho} {σ : L2.St} {Q : VK} {X : Cx}
/-! ### repr -/
def reprOk (d : PyData) : Bool := d.showable && decide (d.depth ≤ 40) && decide (d.shown.length ≤ sizeLine)
def oRepr (t : T) (st : Store) : R T := match pyT st 8 t with
  | some d => if reprOk d then .ok (kStr d.shown) st else .bad
  | none => .bad
def rRepr (K : PySem.W.Frag) : List V → Hp → VK → Prop := fun xs H Q => ∃ x d, xs = [x] ∧ Dp K H x d ∧ d.showable = true ∧ d.depth ≤ 40 ∧ d.shown.length ≤ sizeLine ∧ Q (.str d.shown) H
mutual
theorem noDict : ∀ {d : PyData} {v : V}, Dp K H v d → d.hasDict = false
  | .none, _, _ => by simp only [PyData.hasDict]
  | .bool _, _, _ => by simp only [PyData.hasDict]
  | .int _, _, _ => by simp only [PyData.hasDict]
  | .str _, _, _ => by simp only [PyData.hasDict]
  | .list ds, v, h => by
    cases h with
    | lst _ h => simp only [PyData.hasDict]; exact noDicts h
  | .tuple ds, v, h => by
    cases h with
    | tup _ h => simp only [PyData.hasDict]; exact noDicts h
  | .dict _, v, h => by cases h
theorem noDicts : ∀ {ds : List PyData} {vs : List V}, DpAll K H vs ds → PyData.hasDictAll ds = false
  | [], _, _ => by simp only [PyData.hasDictAll]
  | d :: ds, vs, h => by
    cases h with
    | cons h1 h2 => simp only [PyData.hasDictAll, noDict h1, noDicts h2]; rfl
end
theorem call_repr (hu : X.A.units + 64 < cLine) (hg : X.A.guards = some []) : CallR X (.builtin "repr") (rRepr X.K) := by
  intro pins s σ H xs us Q I r h
  obtain ⟨x, d, rfl, hd, h1, h2, h3, q⟩ := h
  obtain ⟨u, rfl, ru⟩ := vals1 r
  obtain ⟨as, rd⟩ := Dp.reads I d x u hd ru
  have fin : ∀ (h' : Heap) (t : Tok) (tk : Nat), (∀ b o, s.heap.get? b = some o → h'.get? b = some o) → EP X pins σ Q (.str d.shown t) { s with heap := h', toks := tk } := fun h' t tk k => ⟨.str d.shown, H, I.kept k, ⟨t, rfl⟩, q⟩
  cases rd with
  | none => simp only [PyData.shown] at fin; exact PySem.P.repr_of_none (fin s.heap _ _ fun _ _ e => e)
  | bool b => simp only [PyData.shown] at fin; exact PySem.P.repr_of_bool (fin s.heap _ _ fun _ _ e => e)
  | int i t =>
    simp only [PyData.shown] at fin
    exact PySem.P.repr_of_int (by simpa [PyData.showable] using h1) (fin s.heap _ _ fun _ _ e => e)
  | str y t =>
    simp only [PyData.shown] at fin h3
    exact PySem.P.repr_of_str (fin s.heap _ _ fun _ _ e => e) h3
  | list e1 e2 e3 e4 => exact repr_of_reads' (.list e1 e2 e3 e4) h1 (fun z => by rw [noDict hd] at z; cases z) hg (by omega) (fun _ _ e => e) (fun h' u tk k => fin h' u tk k) h3
  | tuple e1 e2 e3 e4 => exact repr_of_reads' (.tuple e1 e2 e3 e4) h1 (fun z => by rw [noDict hd] at z; cases z) hg (by omega) (fun _ _ e => e) (fun h' u tk k => fin h' u tk k) h3
  | dict _ _ _ _ _ => have z := noDict hd; simp only [PyData.hasDict] at z; cases z
theorem repr_ok : Op1 K CA oRepr (rRepr K) := by
  intro W σ as st H t v Q S r m
  unfold oRepr at m
  split at m
  · rename_i d e
    split at m
    · rename_i h
      unfold reprOk at h
      simp only [Bool.and_eq_true, decide_eq_true_eq] at h
      exact ⟨v, d, rfl, pyT_dp S r e, h.1.1, h.1.2, h.2, ER.here S m RD.str⟩
    · exact m.elim
  · exact m.elim

/-! ### match -/
/-- the cases over a text -/
structure PM (X : Cx) (cases : List MatchCase) (t : Str → TS) : Prop where
  run : ∀ (first : Bool) (pins : List (Addr × Obj)) (s : Shared) (σ : L2.St) (H : Hp) (D : Ends) (x : Str) (u : Tok), Inv X pins σ H s → t x D σ H → wpAny (model X.prog X.w) X.A (matchCases cases X.env (.str x u) first) (SP X pins D) X.xe s
def sNoCase : Str → DenS := fun _ => sPass
def sCase (ys : List Str) (f : DenS) (g : Str → DenS) : Str → DenS := fun x => if ys.contains x then f else g x
def sElse (f : DenS) : Str → DenS := fun _ => f
theorem z_mnil : PM X [] (fun x => tS K CA W (sNoCase x)) := ⟨fun first pins s σ H D x u I ⟨as, st, ρ, S, E, m⟩ => wpAny_matchCases_nil ⟨σ, H, I, ES.next S E m⟩⟩
theorem eq_strs {pins : List (Addr × Obj)} {s : Shared} {σ : L2.St} {H : Hp} {x y : Str} {u u' : Tok} {Q : Bool → Shared → Prop} (I : Inv X pins σ H s) (h : ∀ s', Inv X pins σ H s' → Q (decide (x = y)) s') :
    wpAny (model X.prog X.w) X.A (compareOp .Eq (.str x u) (.str y u')) (fun c s₂ => wpAny (model X.prog X.w) X.A (truthy c) Q X.xe s₂) X.xe s := by
  refine thn (op_eq pins s σ H (.str x) (.str y) (.str x u) (.str y u') (fun v H' => v = .bl (decide (x = y)) ∧ H' = H) I ⟨u, rfl⟩ ⟨u', rfl⟩ ⟨rfl, by rw [dV_str], rfl⟩) fun c s2 ⟨v, H2, I2, r2, e1, e2⟩ => ?_
  subst e1; subst e2
  cases r2
  exact wpAny_truthy_bool (h s2 I2)
/-- a pattern of one text, of some texts -/
inductive PatOf : Pattern → List Str → Prop where
  | one {y : Str} {k : Nat} {p q : Pos} : PatOf (.MatchValue (.Constant (.str y) k p) q) [y]
  | more {ps : List Pattern} {ys : List Str} {q : Pos} (h : Paired (fun (p : Pattern) (y : Str) => ∃ k a b, p = Pattern.MatchValue (.Constant (.str y) k a) b) ps ys) : PatOf (.MatchOr ps q) ys
theorem pat_one {pins : List (Addr × Obj)} {s : Shared} {σ : L2.St} {H : Hp} {x y : Str} {u : Tok} {k : Nat} {p q : Pos} {Q : Option (List (Str × Value)) → Shared → Prop} (I : Inv X pins σ H s) (h : ∀ s', Inv X pins σ H s' → Q (if decide (x = y) = true then some [] else none) s') :
    wpAny (model X.prog X.w) X.A (matchPattern (.MatchValue (.Constant (.str y) k p) q) X.env (.str x u)) Q X.xe s := by
  refine wpAny_matchPattern_Value (Calls.Constant_str ?_)
  refine eq_strs (I.tok _) fun s' I' => ?_
  have := h s' I'
  by_cases e : x = y
  · rw [decide_eq_true e] at this ⊢; exact this
  · rw [decide_eq_false e] at this ⊢; exact this
theorem pat_first {pins : List (Addr × Obj)} {σ : L2.St} {H : Hp} {x : Str} {u : Tok} {Q : Option (List (Str × Value)) → Shared → Prop} : ∀ {ps : List Pattern} {ys : List Str} (s : Shared), Paired (fun (p : Pattern) (y : Str) => ∃ k a b, p = Pattern.MatchValue (.Constant (.str y) k a) b) ps ys → Inv X pins σ H s →
    (∀ s', Inv X pins σ H s' → Q (if ys.contains x then some [] else none) s') → wpAny (model X.prog X.w) X.A (matchFirst ps X.env (.str x u)) Q X.xe s
  | [], [], s, _, I, h => wpAny_matchFirst_nil (h s I)
  | p :: ps, y :: ys, s, .cons ⟨k, a, b, e⟩ t, I, h => by
    subst e
    refine wpAny_matchFirst_cons (pat_one I fun s1 I1 => ?_)
    by_cases e : x = y
    · rw [if_pos (decide_eq_true e)]
      have := h s1 I1
      rw [List.contains_cons, beq_iff_eq.mpr e] at this
      exact this
    · rw [if_neg (by rw [decide_eq_false e]; decide)]
      refine pat_first s1 t I1 fun s' I' => ?_
      have := h s' I'
      rw [List.contains_cons, beq_false_of_ne e] at this
      exact this
theorem z_mcase {pat : Pattern} {body : List Stmt} {rest : List MatchCase} {ys : List Str} {f : DenS} {g : Str → DenS} (hp : PatOf pat ys) (hb : PSs X body (tS K CA W f)) (hr : PM X rest (fun x => tS K CA W (g x))) : PM X (⟨pat, none, body⟩ :: rest) (fun x => tS K CA W (sCase ys f g x)) := by
  refine ⟨fun first pins s σ H D x u I h => ?_⟩
  refine wpAny_matchCases_cons ?_
  have go : ∀ s', Inv X pins σ H s' → (match (if ys.contains x then some ([] : List (Str × Value)) else none) with
      | none => wpAny (model X.prog X.w) X.A (matchCases rest X.env (.str x u) false) (SP X pins D) X.xe s'
      | some bs => wpAny (model X.prog X.w) X.A (assignInOrder (bs.map fun (n, _) => bindName X.env n) (bs.map (·.2))) (fun _ s₂ => wpAny (model X.prog X.w) X.A (execs body X.env) (SP X pins D) X.xe s₂) X.xe s') := fun s' I' => by
    have h : tS K CA W (if ys.contains x then f else g x) D σ H := h
    by_cases hc : ys.contains x = true
    · rw [if_pos hc] at h ⊢
      exact wpAny_assignInOrder_none (hb.run pins s' σ H D I' h)
    · rw [if_neg hc] at h ⊢
      exact hr.run false pins s' σ H D x u I' h
  cases hp with
  | @one y k p q =>
    refine pat_one I fun s' I' => ?_
    have := go s' I'
    simp only [List.contains_cons, List.contains_nil, Bool.or_false] at this
    by_cases e : x = y
    · rw [decide_eq_true e]
      rw [beq_iff_eq.mpr e] at this
      exact this
    · rw [decide_eq_false e]
      rw [beq_false_of_ne e] at this
      exact this
  | more hf =>
    refine wpAny_matchPattern_Or (pat_first s hf I fun s' I' => ?_)
    have := go s' I'
    by_cases hc : ys.contains x = true
    · rw [if_pos hc] at this ⊢
      have e : ∀ l : List Str, (l.filterMap fun n => (([] : List (Str × Value)).lookup n).map (n, ·)) = [] := fun l => by induction l with
        | nil => rfl
        | cons a l ih => rw [List.filterMap_cons]; exact ih
      dsimp only
      rw [e]
      exact this
    · rw [if_neg hc] at this ⊢
      exact this
theorem z_melse {q : Pos} {body : List Stmt} {rest : List MatchCase} {f : DenS} (hb : PSs X body (tS K CA W f)) : PM X (⟨.MatchAs none none q, none, body⟩ :: rest) (fun x => tS K CA W (sElse f x)) := by
  refine ⟨fun first pins s σ H D x u I h => ?_⟩
  refine wpAny_matchCases_cons (wpAny_matchPattern_Capture ?_)
  exact wpAny_assignInOrder_none (hb.run pins s σ H D I h)
def sMatch (f : Den T) (g : Str → DenS) : DenS := fun ρ st => sE ρ (f ρ st) fun t st => match t with
  | .d (.p (.str x)) => g x ρ st
  | _ => .bad
theorem z_match {e : Expr} {cases : List MatchCase} {pos : Pos} {f : Den T} {g : Str → DenS} (he : PE X e (tD K CA W f)) (hc : PM X cases (fun x => tS K CA W (g x))) : PS X (.Match e cases pos) (tS K CA W (sMatch f g)) := by
  refine ⟨fun pins s σ H D I ⟨as, st, ρ, S, E, m⟩ => ?_⟩
  refine wpAny_Match (thn (he.run pins s σ H (fun v H1 => ∃ x, v = .str x ∧ tS K CA W (g x) D σ H1) I ⟨as, st, ρ, S, E, es E m fun t st1 et m1 as1 H1 v P1 S1 r1 f1 => ?_⟩) fun u s1 ⟨v, H1, I1, rv, x, ex, h⟩ => ?_)
  · have m2 := ES.mono P1 m1
    split at m2
    · exact ⟨_, RTstr r1, as1, st1, ρ, S1, E.post P1, m2⟩
    · exact m2.elim
  · subst ex
    obtain ⟨t, rfl⟩ := rv
    exact hc.run true pins s1 σ H1 D x t I1 h
end
end Z
set_option Elab.async false
set_option linter.all false
set_option maxRecDepth 100000
set_option maxHeartbeats 4000000
/-! Z, part J: the side conditions of the rules, by looks at the text. -/
namespace Z
open PySem PySem.Spec PyProof.Rows L2
def plainArg : Expr → Bool
  | .Starred _ _ => false
  | _ => true
theorem star_cons {e : Expr} {es : List Expr} {env : PySem.Env} (h : plainArg e = true) : starEach (e :: es) env = (false, eval e env) :: starEach es env := by
  cases e <;> first | rfl | exact Bool.noConfusion h
def plainArgs : List Expr → Bool
  | [] => true
  | e :: es => plainArg e && plainArgs es
theorem star_plain {env : PySem.Env} {pos : Pos} : ∀ {es : List Expr}, plainArgs es = true → (backTo pos (starEach es env)).any (·.1) = false
  | [], _ => rfl
  | e :: es, h => by
    have h : (plainArg e && plainArgs es) = true := h
    rw [Bool.and_eq_true] at h
    rw [star_cons h.1]
    show (false || (backTo pos (starEach es env)).any (·.1)) = false
    rw [star_plain h.2]; rfl
theorem star_len {env : PySem.Env} {pos : Pos} : ∀ {es : List Expr}, plainArgs es = true → ((backTo pos (starEach es env)).all fun x => !x.1) = true
  | [], _ => rfl
  | e :: es, h => by
    have h : (plainArg e && plainArgs es) = true := h
    rw [Bool.and_eq_true] at h
    rw [star_cons h.1]
    show (true && ((backTo pos (starEach es env)).all fun x => !x.1)) = true
    rw [star_len h.2]; rfl
def noSuper : Expr → Bool
  | .Call (.Name _ _) [] [] _ => false
  | _ => true
theorem base_ok {o : Expr} {a : Str} {env : PySem.Env} {w : Sem Value} (h : noSuper o = true) : attributeBase o a env w = w := by
  cases o with
  | Call f as kw p =>
    cases f with
    | Name i q =>
      cases as with
      | cons _ _ => rfl
      | nil => cases kw with
        | cons _ _ => rfl
        | nil => exact Bool.noConfusion h
    | _ => rfl
  | _ => rfl
def notSlice : Expr → Bool
  | .Slice _ _ _ _ => false
  | _ => true
theorem ix_plain {b : Expr} (h : notSlice b = true) : PlainIx b := by
  intro o i
  cases b <;> first | rfl | exact Bool.noConfusion h
def notTup : Expr → Bool
  | .Tuple .. => false
  | _ => true
def notComp : Expr → Bool
  | .ListComp .. => false
  | .SetComp .. => false
  | .DictComp .. => false
  | _ => true
theorem sw_false {e : Expr} {t : Option Expr} {l : Nat} {env : PySem.Env} (h : notComp e = true) : swapsWith e t l env = pure false := by
  cases e <;> first | rfl | exact Bool.noConfusion h
def notSet : Expr → Bool
  | .Set .. => false
  | _ => true
theorem mark_false {op : CmpOp} {b : Expr} (h : notSet b = true) : behindInMarks op b = false := by
  cases b <;> first | rfl | exact Bool.noConfusion h
theorem last_false {op op' : CmpOp} {b c : Expr} (h : notSet c = true) : lastMarks [op, op'] [b, c] = false := by
  show lastMarks [op'] [c] = false
  exact mark_false h
theorem fold_ok {e : Expr} {env : PySem.Env} (h : notSet e = true) : ∀ x, foldedSetIterable e env x = pure x := by
  intro x
  cases e <;> first | rfl | exact Bool.noConfusion h
def plainTest : Expr → Bool
  | .UnaryOp .Not _ _ => false
  | .BoolOp .. => false
  | .IfExp .. => false
  | .Compare .. => false
  | _ => true
theorem test_ok {e : Expr} {env : PySem.Env} (h : plainTest e = true) : ∀ whole, isTrue e env whole = (do let v ← whole; standAt e.pos; holding [v] (truthy v)) := by
  intro whole
  cases e with
  | UnaryOp op x p => cases op <;> first | rfl | exact Bool.noConfusion h
  | _ => first | rfl | exact Bool.noConfusion h
end Z
set_option Elab.async false
set_option linter.all false
set_option maxRecDepth 100000
set_option maxHeartbeats 4000000
/-! Z, part X: own exceptions with a field, made as values. -/
namespace PySem
namespace ZX
open PySem.W PySem.Calls PyProof.Rows PySem.HandSPX
open Builtin Builtin.ObjectAttr
section
variable {prog : Program} {w : World} {A : Around} {E : Value → Shared → Prop} {R : Result → Shared → Prop} {hp : Heap} {g : Array GenState} {d : Drawn} {t : Nat} {os : OsState}
/-- the first field of an exception, whatever it stands over -/
theorem xsa_new {K : W.Frag} {name : Str} {tk : Tok} {v : Value} {x C : Addr} {fv : Array Value} {cd : ClassData} {B : String} {bmB : List Value} (SF : StoreFacts B bmB "object.__setattr__" "object")
    (X : K.In hp) (hx : hp.get? x = some { cls := .ref C, data := .fields fv }) (hcd : W.clsIn K C = some cd) (hh : cd.hasDict = true) (ov : W.excOver K C bmB = true) (ht : W.takerIn K C name = some none)
    (hq : ∀ h' tk' dx, (∀ b o, b ≠ x → hp.get? b = some o → h'.get? b = some o) → hp.objs.size ≤ dx → dx ≠ x → h'.get? x = some { cls := .ref C, dict := some dx, data := .fields fv } →
      h'.Ns1 dx (fun y => if y = name then some v else none) → R (.ok (.ret .none)) ⟨h', g, d, tk', os⟩) :
    codeAny (model prog w) A (.call (.builtin "object.__setattr__") ⟨[.ref x, .str name tk, v], []⟩) R ⟨hp, g, d, t, os⟩ := by
  have I : W.InstAt hp x { cls := .ref C, data := .fields fv } C none := ⟨hx, rfl, rfl, trivial⟩
  have far : x ≠ hp.objs.size := Nat.ne_of_lt (Heap.lt_size hx)
  have look : W.Looks (model prog w) hp (classData C) cd := W.looks_clsIn X hcd
  refine W.osa_openX (s := ⟨hp, g, d, t, os⟩) SF X I ov ht fun b => ?_
  show wpAny _ _ (storeInOwnDict (.ref x) (.ref C) (.str name tk) name v b) _ _ _
  obtain ⟨nm, bs, mro, ns, qn, hd, sn, sb, ab, col, del⟩ := cd
  dsimp only at hh
  subst hh
  unfold storeInOwnDict ownDictForStores
  repeat (first | with_reducible refine store_in_new ?_ ?_ | with_reducible refine wpAny_loadPart_at hx ?_ | with_reducible refine look.at ?_ | wp_step)
  · exact ⟨_, #[], _, (Heap.get?_update_ne _ _ _ _ far.symm).trans (Heap.get?_push_at rfl rfl), rfl, fun e he => absurd he (by simp), fun _ => rfl⟩
  · intro h' tk' ns' same
    have grown : (hp.push { cls := .type "dict", data := .dict #[] }).get? x = some { cls := .ref C, data := .fields fv } := Heap.get?_push_of_some _ hx
    exact hq h' tk' hp.objs.size (fun b o hb ho => (same.2 b (Nat.ne_of_lt (Heap.lt_size ho))).trans ((Heap.get?_update_ne _ _ _ _ hb).trans (Heap.get?_push_of_some _ ho))) (Nat.le_refl _) far.symm
      ((same.2 x far).trans (Heap.get?_update_self _ grown rfl)) ns'
end
end ZX
end PySem
namespace Z
open PySem PySem.Spec PyProof.Rows L2
/-- an own exception class over the built-in B -/
structure OexG (K : PySem.W.Frag) (C : Addr) (B newId initId : String) (bmB : List Value) : Prop where
  fB : ExcBaseFacts B newId initId bmB
  sB : StoreFacts B bmB "object.__setattr__" "object"
  q : PySem.W.excInitIn K C bmB newId = true
  ov : PySem.W.excOver K C bmB = true
  hd : PySem.W.hasDictIn K C = true
  sa : PySem.W.findIn K (.ref C) "__setattr__" = some (some (.builtin "object.__setattr__"))
  kC : PySem.W.keepIn K (.ref C) = true
section
variable {X : Cx} {pins : List (Addr × Obj)} {σ : L2.St} {H : Hp} {s : Shared} {a C dx : Addr} {f : Str} {y : V} {u : Value} {fs : List (Str × V)} {Q : Unit → Shared → Prop} {E : Value → Shared → Prop} {A : Around} {B newId initId : String} {bmB : List Value}
theorem taker_none (hno : PySem.W.findIn X.K (.ref C) f = some none) : PySem.W.takerIn X.K C f = some none := by
  unfold PySem.W.takerIn
  rw [hno]
  rfl
/-- self.f = y, the first one -/
theorem xst_new (T : OexG X.K C B newId initId bmB) (I : Inv X pins σ H s) (e : H a = some (exo a C none)) (hno : PySem.W.findIn X.K (.ref C) f = some none) (ry : RelV y u)
    (h : ∀ dx s', H dx = none → dx ≠ a → Inv X pins σ (upd (upd H dx (exd dx [(f, y)])) a (exo a C (some dx))) s' → Q () s') : wpAny (model X.prog X.w) A (setAttr (.ref a) f u) Q E s := by
  obtain ⟨cd, hcl, hhd⟩ := PySem.W.any_some T.hd
  obtain ⟨t1, ho⟩ := exo_at I.hok e
  obtain ⟨hp, g, d, t, os⟩ := s
  refine PySem.W.set_plain I.kIn (ox := { cls := .ref C, dict := none, data := .fields #[.ref t1, .none, .none, .none, .bool false, .none] }) (od := none) ⟨ho, rfl, rfl, trivial⟩ T.sa ?_
  refine PySem.ZX.xsa_new T.sB I.kIn ho hcl hhd T.ov (taker_none hno) (fun h' tk' dx k dn dne hx hn => ?_)
  have hnd : H dx = none := I.hok.fresh dn
  have nd : ∀ {b : Addr} {o : Obj}, hp.get? b = some o → b ≠ dx := fun {b o} q => Nat.ne_of_lt (Nat.lt_of_lt_of_le (Heap.lt_size q) dn)
  have na : ∀ {b : Addr}, H b = none → b ≠ a := fun {b} n z => by
    rw [z, e] at n
    cases n
  have U : Un X.fs [] H (upd (upd H dx (exd dx [(f, y)])) a (exo a C (some dx))) hp h' :=
    ⟨fun b o q n _ _ => k b o (na n) q, fun b o q n _ _ => ⟨o.slots, k b o (na n) q⟩, fun b o q n _ => by rw [upd_ne (na n), upd_ne (nd q)]; exact n,
      fun b o q _ => by
        by_cases hb : b = a
        · exact ⟨_, by rw [hb]; exact hx⟩
        · exact ⟨o, k b o hb q⟩,
      fun b xs q => by rw [upd_ne (at_ne e q exo_tup), upd_ne (ne_of_none q hnd)]; exact q, fun b o v q => by rw [upd_ne (at_ne e q exo_frz), upd_ne (ne_of_none q hnd)]; exact q,
      fun b ps q => ⟨#[], by rw [upd_ne (at_ne e q exo_tbl), upd_ne (ne_of_none q hnd), q]; simp⟩⟩
  refine h dx _ hnd dne (I.un (t' := tk') U fun b o q => ?_)
  by_cases hb : b = a
  · subst hb
    rw [upd_same] at q
    cases q
    exact exo_ok hx
  · rw [upd_ne hb] at q
    by_cases hd : b = dx
    · subst hd
      rw [upd_same] at q
      cases q
      exact exd_ok hn (relO_put (fs := []) ry fun g => True.intro)
    · rw [upd_ne hd] at q
      refine (I.hok b o q).stay (fun c v hc z => k c v ?_ z) (fun c hc => ?_) (fun c xs hc => ?_)
      · rcases hc with hc | hc
        · rw [hc]; exact hb
        · exact at_ne e hc exo_own
      · rw [upd_ne (at_ne e hc exo_own), upd_ne (ne_of_none hc hnd)]; exact hc
      · rw [upd_ne (at_ne e hc exo_tup), upd_ne (ne_of_none hc hnd)]; exact hc
/-- B.__init__(self, ..) -/
theorem xinit_ok {us : List Value} {Q : Value → Shared → Prop} (T : OexG X.K C B newId initId bmB) (I : Inv X pins σ H s) (e : H a = some (exo a C none)) (hl : us.length ≤ sizeLine) (h : ∀ s', Inv X pins σ H s' → Q .none s') :
    wpAny (model X.prog X.w) A (call (.builtin initId) (.ref a :: us)) Q E s := by
  obtain ⟨nm, N', qn, bs, bm, hdct, sn, sub, ab, col, dd, k0, k1, k2, k3, k5, hC, hT⟩ := PySem.W.excInit_of I.kIn T.q
  obtain ⟨t1, ho⟩ := exo_at I.hok e
  obtain ⟨hp, g, d, t, os⟩ := s
  refine wpAny_call (PySem.HandSPX.init_base T.fB hT hC ho hl fun h' t2 k hx => ?_)
  have J := I.write (t' := t) (x := a) (e := a) (o := exo a C none) (by rw [e]; exact True.intro) (.inl rfl) k ⟨_, hx⟩ (exo_ok hx)
  have eu : upd H a (exo a C none) = H := by
    funext b
    by_cases hb : b = a
    · rw [hb, upd_same, e]
    · rw [upd_ne hb]
  rw [eu] at J
  exact h _ J
end
end Z
set_option Elab.async false
set_option linter.all false
set_option maxRecDepth 100000
set_option maxHeartbeats 4000000
/-! Z, part Y: an own exception's __init__, and its call. -/
namespace Z
open PySem PySem.Spec PyProof.Rows L2
/-- x.__init__ is the built-in's -/
def BaseI (X : Cx) (x : Str) (initId : String) : Prop := ∀ (pl : Sem Bool) (p : Pos) (pins : List (Addr × Obj)) (s : Shared) (σ : L2.St) (H : Hp) (Q : Value × List Value → Shared → Prop), Inv X pins σ H s →
  (∀ s', Inv X pins σ H s' → Q (.builtin initId, []) s') → wpAny (model X.prog X.w) X.A (eval (.Name x p) X.env) (fun ov s₁ => wpAny (model X.prog X.w) X.A (getMethod ov "__init__" pl) Q X.xe s₁) X.xe s
theorem baseI_blt {X : Cx} {x : Str} {B initId : String} (hg : Gl X x) (hm : X.mg x = none) (hv : bootBuiltins x = some (.type B)) (ty : typeOf (.type B) = pure (.type "type")) (hs : Manifest.isStub B = false) (vV : PySem.W.findCls X.K (.type B) (.type "type") "__init__" = some (.val (.builtin initId))) (hh : PySem.W.handedIn (.builtin initId) = true)
    (hn : x ≠ "__name__") (hd : (x == ("__debug__" : Str)) = false) : BaseI X x initId := by
  intro pl p pins s σ H Q I h
  refine ld_blt I hg hm hv ?_ hn hd
  obtain ⟨m, fr⟩ := I.fr
  exact PySem.W.method_type fr I.ok.mod.kin ty hs vV hh (h _ (I.tok _))
theorem baseI_own {X : Cx} {x : Str} {D : Addr} {initId : String} (hg : Gl X x) (hm : X.mg x = some (.ref D)) (sp : PySem.W.specialIn X.K (.ref D) "__getattribute__" = some (some (.builtin "type.__getattribute__"))) (rd : PySem.W.readsIn X.K D (.type "type") = true)
    (vV : PySem.W.findCls X.K (.ref D) (.type "type") "__init__" = some (.val (.builtin initId))) (hh : PySem.W.handedIn (.builtin initId) = true) (hd : (x == ("__debug__" : Str)) = false) : BaseI X x initId := by
  intro pl p pins s σ H Q I h
  refine ld_glob I hg hm ?_ hd
  exact PySem.W.method_cls I.kIn sp (PySem.W.cls_value I.kIn rd vV hh (h _ (I.tok _)))
section
variable {X : Cx} {C : Addr} {B newId initId : String} {bmB : List Value}
/-- base.__init__(self, ..) -/
def tBI (K : PySem.W.Frag) (C : Addr) (ta : TA) : TE := fun σ H Q => ta σ H fun vs H1 => ∃ (a : Addr) (ws : List V), vs = .ref a :: ws ∧ ws.length ≤ 1000 ∧ H1 a = some (exo a C none) ∧ Q .non H1
theorem pe_binit {x : Str} {e : Expr} {es : List Expr} {ta : TA} {p1 p2 pos : Pos} {pl : Sem Bool} (T : OexG X.K C B newId initId bmB) (b : BaseI X x initId) (ha : PA X (e :: es) ta)
    (hc : eval (.Call (.Attribute (.Name x p1) "__init__" p2) (e :: es) [] pos) X.env = (do
      let ov ← eval (.Name x p1) X.env
      standAt p2.atName
      let (f, first) ← holding [ov] (getMethod ov "__init__" pl)
      callWith pos f first (backTo pos (starEach (e :: es) X.env)) (backToKw pos (keywordEach [] X.env))))
    (he : starEach (e :: es) X.env = (false, eval e X.env) :: starEach es X.env) (hpl : (backTo pos (starEach es X.env)).any (·.1) = false) :
    PE X (.Call (.Attribute (.Name x p1) "__init__" p2) (e :: es) [] pos) (tBI X.K C ta) := by
  refine ⟨fun pins s σ H Q I h => ?_⟩
  refine PySem.W.methodCall_KW (b pl p1 pins s σ H _ I fun s0 I0 => ?_) hc
  show wpAny _ _ (callWith pos (Value.builtin initId) [] (backTo pos (starEach (e :: es) X.env)) []) _ _ _
  refine PyProof.Rows.callWith_method1 (thn (ha.run pos pins _ σ H _ I0 h) fun us s1 ⟨vs, H1, I1, r1, a, ws, ev, hl, ea, q⟩ => ?_) he hpl
  subst ev
  cases r1 with
  | @cons _ u0 _ ur ra rw' =>
    obtain rfl : u0 = Value.ref a := ra
    exact xinit_ok T I1 ea (by rw [← Paired.length rw', sizeLine_eq]; omega) fun s' J => ⟨.non, H1, J, rfl, q⟩
/-- self.f = e, the first one -/
def tXst (C : Addr) (f : Str) (to te : TE) : TS := fun D σ H => te σ H fun y H1 => to σ H1 fun x H2 => ∃ a : Addr, x = .ref a ∧ H2 a = some (exo a C none) ∧ ∀ dx, H2 dx = none → dx ≠ a → D.nx σ (upd (upd H2 dx (exd dx [(f, y)])) a (exo a C (some dx)))
theorem ps_xst {o e : Expr} {f : Str} {to te : TE} {p' pos : Pos} (T : OexG X.K C B newId initId bmB) (hno : PySem.W.findIn X.K (.ref C) f = some none) (ho : PE X o to) (he : PE X e te) (hs : swapsWith e (some (.Attribute o f p')) pos.line X.env = pure false) :
    PS X (.Assign [.Attribute o f p'] e pos) (tXst C f to te) := by
  refine ⟨fun pins s σ H D I h => ?_⟩
  refine plainObj_wpAny_Assign_Attribute (thn (he.run pins s σ H _ I h) fun v s1 ⟨y, H1, I1, r1, q1⟩ => thn (ho.run pins s1 σ H1 _ I1 q1) fun u s2 ⟨x, H2, I2, r2, a, ex, ea, q⟩ => ?_) hs
  subst ex
  obtain rfl : u = Value.ref a := r2
  exact xst_new T I2 ea hno r1 fun dx s' n ne J => ⟨σ, _, J, q dx n ne⟩
end
/-- the promise of such an __init__ -/
def spX (C : Addr) (f : Str) : Sp := fun vs H Q _ => ∃ (a : Addr) (y : V), vs = [.ref a, y] ∧ H a = some (exo a C none) ∧ ∀ d, H d = none → d ≠ a → Q .non (upd (upd H d (exd d [(f, y)])) a (exo a C (some d)))
/-- base stands for a class whose __init__ is the built-in's -/
inductive BaseF (K : PySem.W.Frag) (mg : Str → Option Value) (x : Str) (initId : String) : Prop where
  | blt (B : String) (hm : mg x = none) (hv : bootBuiltins x = some (.type B)) (ty : typeOf (.type B) = pure (.type "type")) (hs : Manifest.isStub B = false) (vV : PySem.W.findCls K (.type B) (.type "type") "__init__" = some (.val (.builtin initId))) (hh : PySem.W.handedIn (.builtin initId) = true) (hn : x ≠ "__name__") (hd : (x == ("__debug__" : Str)) = false)
  | own (D : Addr) (hm : mg x = some (.ref D)) (sp : PySem.W.specialIn K (.ref D) "__getattribute__" = some (some (.builtin "type.__getattribute__"))) (rd : PySem.W.readsIn K D (.type "type") = true) (vV : PySem.W.findCls K (.ref D) (.type "type") "__init__" = some (.val (.builtin initId))) (hh : PySem.W.handedIn (.builtin initId) = true) (hd : (x == ("__debug__" : Str)) = false)
theorem BaseF.at {X : Cx} {x : Str} {initId : String} (b : BaseF X.K X.mg x initId) (hg : Gl X x) : BaseI X x initId := by
  cases b with
  | blt B hm hv ty hs vV hh hn hd => exact baseI_blt hg hm hv ty hs vV hh hn hd
  | own D hm sp rd vV hh hd => exact baseI_own hg hm sp rd vV hh hd
section
variable {P : Program} {w : World} {K : PySem.W.Frag} {mg : Str → Option Value} {base : Heap} {C : Addr} {B newId initId : String} {bmB : List Value}
/-- __init__(self, pm): x.__init__(self, 'm'); self.f = pm -/
theorem xinit_fn {qual pm f x m : Str} {st : Stmt} {fI : Addr} {fd : FuncData} {j : Nat} {p1 p2 p3 p4 p5 p6 p7 p8 p9 p10 : Pos} (F : Fun K "__init__" qual st fI fd) (S : FnScope ["self", pm] ["self", pm] (defScope st))
    (hb : defBody st = [.Expr (.Call (.Attribute (.Name x p1) "__init__" p2) [.Name "self" p3, .Constant (.str m) j p4] [] p5) p6, .Assign [.Attribute (.Name "self" p7) f p8] (.Name pm p9) p10])
    (hg : (defScope st).names.lookup x = some .globalImplicit) (h1 : (defScope st).names.lookup ("self" : Str) = some .local) (h2 : (defScope st).names.lookup pm = some .local) (hd : (pm == ("__debug__" : Str)) = false) (hcd : (pm == ("__classdict__" : Str)) = false)
    (hc : ∀ env : PySem.Env, eval (.Call (.Attribute (.Name x p1) "__init__" p2) [.Name "self" p3, .Constant (.str m) j p4] [] p5) env = (do
      let ov ← eval (.Name x p1) env
      standAt p2.atName
      let (f, first) ← holding [ov] (getMethod ov "__init__" (do return (← importBound (.Name x p1) env).getD true))
      callWith p5 f first (backTo p5 (starEach [.Name "self" p3, .Constant (.str m) j p4] env)) (backToKw p5 (keywordEach [] env))))
    (T : OexG K C B newId initId bmB) (bf : BaseF K mg x initId) (hno : PySem.W.findIn K (.ref C) f = some none) : FnOk P w K mg base CX0 1 fI fd ["self", pm] (spX C f) := by
  refine F.ok S (fun vs H Q E h => ?_) (fun cdv A outer s H vs Q E hr h => ?_)
  · obtain ⟨a, y, rfl, _⟩ := h
    rfl
  · obtain ⟨a, y, rfl, ea, k⟩ := h
    rw [hb]
    refine ⟨_, pss_cons (ps_expr (pe_binit T (BaseF.at bf hg) (pa_cons (pe_var (i := 0) rfl (.inl h1) (by decide) (by decide)) (pa_cons pe_str pa_nil rfl) rfl) (hc _) rfl rfl)) (pss_one (ps_xst T hno (pe_var (i := 0) rfl (.inl h1) (by decide) (by decide)) (pe_var (i := 1) rfl (.inl h2) hd hcd) rfl)), ?_⟩
    refine ⟨_, rfl, a, [.str m], rfl, by simp, ea, ?_⟩
    exact ⟨y, rfl, _, rfl, a, rfl, ea, fun d n ne => k d n ne⟩
end
section
variable {X : Cx} {C fI : Addr} {B newId initId : String} {bmB : List Value} {k : Nat} {fd : FuncData} {pm f x : Str} {e : Expr} {te : TE} {p pos : Pos}
/-- C(e): a new exception with its field -/
def tMkx (C : Addr) (f : Str) (te : TE) : TE := fun σ H Q => te σ H fun y H1 => ∀ a d, H1 a = none → H1 d = none → d ≠ a → Q (.ref a) (upd (upd (upd H1 a (exo a C none)) d (exd d [(f, y)])) a (exo a C (some d)))
theorem pe_mkx (T : OexG X.K C B newId initId bmB) (iC : PySem.W.findIn X.K (.ref C) "__init__" = some (some (.ref fI))) (tI : PySem.W.typeIn X.K (.ref fI) = some (.type "function")) (F1 : FnOk X.prog X.w X.K X.mg X.base CX0 k fI fd ["self", pm] (spX C f)) (hr : Room (k + 1) X.A) (hb : Binds X.K fd ["self", pm] [])
    (hg : Gl X x) (hm : X.mg x = some (.ref C)) (he : PE X e te) (hdb : (x == ("__debug__" : Str)) = false) (hs : starEach [e] X.env = (false, eval e X.env) :: starEach [] X.env) : PE X (.Call (.Name x p) [e] [] pos) (tMkx C f te) := by
  refine ⟨fun pins s σ H Q I h => ?_⟩
  refine wpAny_Call_Name_kw (ld_glob I hg hm ?_ hdb)
  refine PySem.W.callWith_K (h₀ := X.base) I.ok.mod.kin T.kC (thn ((pa_cons he pa_nil hs).run pos pins s σ H (fun vs H1 => match vs with
    | [y] => ∀ a d, H1 a = none → H1 d = none → d ≠ a → Q (.ref a) (upd (upd (upd H1 a (exo a C none)) d (exd d [(f, y)])) a (exo a C (some d)))
    | _ => False) I h) fun us s1 ⟨vs, H1, I1, r1, q1⟩ => ⟨I1.kIn, ?_⟩) hs rfl
  obtain ⟨y, ev, q1⟩ : ∃ y, vs = [y] ∧ ∀ a d, H1 a = none → H1 d = none → d ≠ a → Q (.ref a) (upd (upd (upd H1 a (exo a C none)) d (exd d [(f, y)])) a (exo a C (some d))) := by
    match vs, q1 with
    | [y], q => exact ⟨y, rfl, q⟩
    | [], q => exact q.elim
    | _ :: _ :: _, q => exact q.elim
  subst ev
  obtain ⟨nm, N', qn, bs, bm, hdct, sn, sub, ab, col, dd, k0, k1, k2, k3, k5, hC, hT⟩ := PySem.W.excInit_of I1.kIn T.q
  show wpAny _ _ (call (.ref C) us) _ _ _
  obtain ⟨hp, g, dr, tk, os⟩ := s1
  have hsz : hp.objs.size ≤ hp.objs.size + 1 := Nat.le_succ _
  have hn : H1 (hp.objs.size + 1) = none := I1.hok.fresh hsz
  have kk : ∀ b o, hp.get? b = some o → ((hp.push (PySem.W.kdv_tup us)).push (PySem.HandSPX.excO C hp.objs.size)).get? b = some o := fun b o e => Heap.get?_push_of_some _ (Heap.get?_push_of_some _ e)
  have hget : ((hp.push (PySem.W.kdv_tup us)).push (PySem.HandSPX.excO C hp.objs.size)).get? (hp.objs.size + 1) = some (PySem.HandSPX.excO C hp.objs.size) := by heap_get
  have I2 : Inv X pins σ (upd H1 (hp.objs.size + 1) (exo (hp.objs.size + 1) C none)) ⟨(hp.push (PySem.W.kdv_tup us)).push (PySem.HandSPX.excO C hp.objs.size), g, dr, tk, os⟩ :=
    I1.laid (t' := tk) (a := hp.objs.size + 1) (o := exo (hp.objs.size + 1) C none) (h' := (hp.push (PySem.W.kdv_tup us)).push (PySem.HandSPX.excO C hp.objs.size)) kk hsz (exo_ok hget)
  have hl1 : us.length = 1 := by rw [← Paired.length r1]; rfl
  have hq : spX C f [.ref (hp.objs.size + 1), y] (upd H1 (hp.objs.size + 1) (exo (hp.objs.size + 1) C none)) (fun v H2 => v = .non ∧ Q (.ref (hp.objs.size + 1)) H2) (fun _ _ _ => False) :=
    ⟨_, y, rfl, upd_same, fun d n ne => ⟨rfl, q1 _ d hn (by rw [upd_ne ne] at n; exact n) ne⟩⟩
  refine wpAny_call (PySem.HandSPX.call_own T.fB hT hC (PySem.W.looks_findIn I1.kIn iC) (fun self => PySem.W.bind_fn I1.kIn self tI) (by rw [hl1, sizeLine_eq]; decide)
    (codeAny_mono (F1.run _ X.stack _ _ ⟨Value.ref (hp.objs.size + 1) :: us, []⟩ (Value.ref (hp.objs.size + 1) :: us) [V.ref (hp.objs.size + 1), y] _ (fun _ _ _ => False) (hr.make C us []) (I2.env0.make C us []) (by
      have := hb ⟨(hp.push (PySem.W.kdv_tup us)).push (PySem.HandSPX.excO C hp.objs.size), g, dr, tk, os⟩ (Value.ref (hp.objs.size + 1) :: us) I2.kIn (by simp [hl1])
      simpa using this) (.cons rfl r1) hq) fun r s' hq' => ?_))
  cases r with
  | error er => exact hq'.elim
  | ok fl =>
    cases fl with
    | ret u =>
      obtain ⟨v, H2, os2, bare2, un2, hok2, rv, ev, q2⟩ := hq'
      subst ev
      exact ⟨rv, I2.after ⟨.ref (hp.objs.size + 1), H2, os2, bare2, un2, hok2, rfl, q2⟩⟩
    | next => exact False.elim hq'
    | brk => exact False.elim hq'
    | cont => exact False.elim hq'
end
/-! ### fields read, isinstance -/
section
variable {X : Cx} {pins : List (Addr × Obj)} {σ : L2.St} {H : Hp} {s : Shared}
theorem exc_inst {a C d : Addr} {us : List (Str × V)} (I : Inv X pins σ H s) (ea : H a = some (exo a C (some d))) (ed : H d = some (exd d us)) :
    ∃ (ox od : Obj) (mA : Str → Option Value), PySem.W.InstAt s.heap a ox C (some od) ∧ (∀ f, PySem.W.lookIn f od = some (mA f)) ∧ ∀ f, RelO (us.lookup f) (mA f) := by
  obtain ⟨t1, ho⟩ := exo_at I.hok ea
  obtain ⟨mA, hns, hr⟩ := exd_at I.hok ed
  obtain ⟨od, h1, h2⟩ := lookIn_ns hns
  exact ⟨_, od, mA, ⟨ho, rfl, rfl, h1⟩, h2, hr⟩
/-- e.f of an exception that was made -/
def tXat (K : PySem.W.Frag) (f : Str) (te : TE) : TE := fun σ H Q => te σ H fun x H1 => ∃ (a C d : Addr) (us : List (Str × V)) (v : V), x = .ref a ∧ H1 a = some (exo a C (some d)) ∧ H1 d = some (exd d us) ∧ XfC K C ∧ PySem.W.findIn K (.ref C) f = some none ∧ us.lookup f = some v ∧ Q v H1
theorem pe_xat {e : Expr} {f : Str} {te : TE} {pos : Pos} (he : PE X e te) (hb : attributeBase e f X.env (eval e X.env) = eval e X.env) : PE X (.Attribute e f pos) (tXat X.K f te) := by
  refine ⟨fun pins s σ H Q I h => ?_⟩
  refine attr_of hb (thn (he.run pins s σ H _ I h) fun u s1 ⟨x, H1, I1, rx, a, C, d, us, v, ex, ea, ed, T, hno, l, q⟩ => ?_)
  subst ex
  obtain rfl : u = Value.ref a := rx
  obtain ⟨ox, od, mA, J, hl, hr⟩ := exc_inst I1 ea ed
  obtain ⟨u, hu, ru⟩ := RelO.some_of (v := v) (o := mA f) (by rw [← l]; exact hr f)
  exact HandSPX.exc_get I1.kIn J T.ga T.gg T.exC (PySem.W.findObj_own T.hdC hno rfl (by rw [hl, hu])) (handed_of ru) ⟨v, H1, I1.tok _, ru, q⟩
/-- what isinstance asks of such a class -/
def xisB (K : PySem.W.Frag) (C : Addr) : Bool := (PySem.W.clsIn K C).isSome && decide (PySem.W.findIn K (.ref C) "__getattribute__" = some (some (.builtin "BaseException.__getattribute__"))) && decide (PySem.W.findIn K (.ref C) "__getattr__" = some none) &&
  decide (PySem.W.subIn K (.ref C) (.type "BaseException") = some true) && decide (PySem.W.findIn K (.ref C) "__class__" = some (some (.builtin "object.__class__"))) && decide (PySem.W.specialIn K (.builtin "object.__class__") "__get__" = some (some (.builtin "getset_descriptor.__get__"))) &&
  decide (PySem.W.takesIn K (.builtin "object.__class__") = some true) && decide (PySem.W.mroIn K C (.type "object") = some true)
def rIsiX (K : PySem.W.Frag) : List V → Hp → VK → Prop := fun xs H Q => ∃ (a C d : Addr) (us : List (Str × V)) (c : V) (u : Value) (b : Bool), xs = [.ref a, c] ∧ H a = some (exo a C (some d)) ∧ H d = some (exd d us) ∧ xisB K C = true ∧ ClsV c u ∧ PySem.W.kitOne K (.ref C) u = some b ∧ Q (.bl b) H
theorem call_isiX : CallR X (.builtin "isinstance") (rIsiX X.K) := by
  intro pins s σ H xs us Q I r h
  obtain ⟨a, C, d, fs, c, u, b, rfl, ea, ed, hx, k, hk, q⟩ := h
  obtain ⟨u1, u2, rfl, r1, r2⟩ := vals2 r
  have e2 := k.eq r2
  subst e2
  obtain rfl : u1 = Value.ref a := r1
  obtain ⟨ox, od, mA, J, _, _⟩ := exc_inst I ea ed
  unfold xisB at hx
  simp only [Bool.and_eq_true, decide_eq_true_eq] at hx
  obtain ⟨⟨⟨⟨⟨⟨⟨g1, g2⟩, g3⟩, g4⟩, g5⟩, g6⟩, g7⟩, g8⟩ := hx
  exact PySem.W.kia_one (PySem.W.kitx_exc (ox := ox) (od := some od) g1 g2 g3 g4 g5 g6 g7 g8) I.kIn J hk (fun z => nomatch z) fun tk => ⟨.bl b, H, I.tok tk, rfl, q⟩
end
end Z
set_option Elab.async false
set_option linter.all false
set_option maxRecDepth 100000
set_option maxHeartbeats 4000000
/-! Z, part W: an own exception made by a keyword. -/
namespace PySem
namespace ZX
open PySem.W PySem.Calls PyProof.Rows PySem.HandSPX
open Builtin Builtin.ObjectAttr
section
variable {prog : Program} {w : World} {A : Around} {E : Value → Shared → Prop} {R : Result → Shared → Prop} {h : Heap} {g : Array GenState} {d : Drawn} {t : Nat} {os : OsState}
variable {nm q : Str} {C N : Addr} {bs bm bmB : List Value} {hdct : Bool} {sn : List Str} {sub : List Value} {ab : Bool} {col : Option Bool} {dd : Option Addr} {k0 k1 k2 k3 k5 : Option Value} {B newId initId : String} {kx : Str} {kv : Value}
theorem kw_new_look {M : Model} (F : ExcBaseFacts B newId initId bmB) (hT : ∀ X : String, bm.contains (.type X) = bmB.contains (.type X)) {Q : Unit → Shared → Prop}
    (hC : h.get? C = some (excClassObj nm q C N bs bm hdct sn sub ab col dd k0 k1 k2 k3 k5 newId)) (hq : Q () ⟨h, g, d, t, os⟩) : wpAny M A (checkBuiltinCall newId ⟨[.ref C], [(kx, kv)]⟩) Q E ⟨h, g, d, t, os⟩ := by
  have has : (Value.ref C :: bm).contains (.type B) = true := by rw [List.contains_cons, hT, F.hasB, Bool.or_true]
  have star := F.noStar
  simp only [checkBuiltinCall, F.newKind, F.newSplit, F.newRow]
  repeat (first | refine wpAny_loadPart_at hC ?_ | (refine wpAny_isSubtype_exc hC ?_; rw [has]) | refine wpAny_staticBase_exc hC ?_ | refine wpAny_madeBy_exc hC ?_ | simp only [bne_self_eq_false, Bool.false_eq_true, if_false] | wp_step)
  exact hq
theorem kw_new (F : ExcBaseFacts B newId initId bmB) (hT : ∀ X : String, bm.contains (.type X) = bmB.contains (.type X))
    (hC : h.get? C = some (excClassObj nm q C N bs bm hdct sn sub ab col dd k0 k1 k2 k3 k5 newId))
    (hq : R (.ok (.ret (.ref (h.objs.size + 1)))) ⟨(h.push (W.kdv_tup [])).push (excO C h.objs.size), g, d, t, os⟩) :
    codeAny (model prog w) A (.builtin newId ⟨[.ref C], [(kx, kv)]⟩) R ⟨h, g, d, t, os⟩ := by
  have ends := F.ends
  have hasB : (Value.ref C :: bm).contains (.type B) = true := by rw [List.contains_cons, hT, F.hasB, Bool.or_true]
  have notA : (Value.ref C :: bm).contains (.type "AttributeError") = false := by rw [List.contains_cons, hT, F.noAttr]; rfl
  have notN : (Value.ref C :: bm).contains (.type "NameError") = false := by rw [List.contains_cons, hT, F.noName]; rfl
  have hrest : ([] : List Value).length ≤ sizeLine := Nat.zero_le _
  refine codeAny_builtinAt F.entry ?_
  unfold Builtin.«BaseException.__new__»
  refine wpAt_bind ?_
  show wpAt _ _ _ (stack >>= _) _ _ _
  refine wpAt_bind (wpAt_stack fun p below => wpAt_of_wpAny ?_)
  wp_walk
  refine wpAt_of_wpAny ?_
  rw [F.owner]
  repeat (first | with_reducible refine wpAny_madeHere_exc F.canon hC ?_ | with_reducible refine wpAny_loadPart_at hC ?_ | (with_reducible refine wpAny_isSubtype_exc hC ?_; first | rw [hasB] | rw [notA] | rw [notN]) | wp_step)
  show R _ _
  rw [Heap.size_push]
  exact hq
theorem kw_type_call (F : ExcBaseFacts B newId initId bmB) (hT : ∀ X : String, bm.contains (.type X) = bmB.contains (.type X)) {fI : Addr} {Q : Fin → Shared → Prop}
    (hC : h.get? C = some (excClassObj nm q C N bs bm hdct sn sub ab col dd k0 k1 k2 k3 k5 newId))
    (hi : W.Looks (model prog w) h (typeLookup (.ref C) "__init__") (some (.ref fI))) (hb : ∀ self, W.Looks (model prog w) h (bindSpecial (.ref fI) self) (.ref fI, [self]))
    (hq : codeAny (model prog w) A (.call (.ref fI) ⟨[.ref (h.objs.size + 1)], [(kx, kv)]⟩)
      (fun r s' => match r with | .ok (.ret v) => v = .none ∧ Q (.done (.ret (.ref (h.objs.size + 1)))) s' | .ok _ => False | .error e => E e s')
      ⟨(h.push (W.kdv_tup [])).push (excO C h.objs.size), g, d, t, os⟩) :
    wpAny (model prog w) A (Builtin.«type.__call__» ⟨[.ref C], [(kx, kv)]⟩) Q E ⟨h, g, d, t, os⟩ := by
  repeat (first | with_reducible refine wpAny_loadPart_at hC ?_ | with_reducible refine wpAny_madeBy_exc hC ?_ | wp_step)
  refine codeAny_call_builtin_code (Code.quiet_builtin _ F.quiet) (kw_new_look F hT hC ?_)
  refine kw_new F hT hC ?_
  show wpAny _ _ _ _ _ _
  have k : ∀ b o, h.get? b = some o → ((h.push (W.kdv_tup [])).push (excO C h.objs.size)).get? b = some o := fun b o e => Heap.get?_push_of_some _ (Heap.get?_push_of_some _ e)
  have hC₁ := k _ _ hC
  have hget : ((h.push (W.kdv_tup [])).push (excO C h.objs.size)).get? (h.objs.size + 1) = some (excO C h.objs.size) := by heap_get
  have own : (Value.ref C :: bm).contains (.ref C) = true := by simp
  have i1 := hi.keeps k
  have b1 := (hb (.ref (h.objs.size + 1))).keeps k
  unfold isInstance
  repeat (first | with_reducible refine wpAny_loadPart_at hget ?_ | (with_reducible refine wpAny_isSubtype_exc hC₁ ?_; rw [own]) | wp_step)
  show wpAny _ _ (typeLookup (.ref C) _) _ _ _
  refine i1.at ?_
  refine wpAny_holding (wpAny_bind (b1.at ?_))
  refine wpAny_bind (wpAny_call (codeAny_mono hq fun r s' z => ?_))
  rcases r with e | (v | _ | _ | _) <;> first | exact z | exact z.elim | skip
  obtain ⟨rfl, z⟩ := z
  first
    | exact wpAny_pure (wpAny_pure z)
    | (wp_walk; exact z)
theorem kw_check {M : Model} {Q : Unit → Shared → Prop} (hC : h.get? C = some (excClassObj nm q C N bs bm hdct sn sub ab col dd k0 k1 k2 k3 k5 newId))
    (hq : Q () ⟨h, g, d, t, os⟩) : wpAny M A (checkBuiltinCall "type.__call__" ⟨[.ref C], [(kx, kv)]⟩) Q E ⟨h, g, d, t, os⟩ := by
  have f3 := tc_sub
  have hT : (⟨h, g, d, t, os⟩ : Shared).TypeIs (.ref C) "type" := ⟨_, hC, rfl⟩
  simp only [checkBuiltinCall, tc_kind, tc_split]
  repeat (any_goals (first | assumption | with_reducible refine wpAny_loadPart_at hC ?_ | with_reducible refine wpAny_onRaise ?_ | with_reducible refine wpAny_map ?_ | wp_step))
theorem kw_call (F : ExcBaseFacts B newId initId bmB) (hT : ∀ X : String, bm.contains (.type X) = bmB.contains (.type X)) {fI : Addr}
    (hC : h.get? C = some (excClassObj nm q C N bs bm hdct sn sub ab col dd k0 k1 k2 k3 k5 newId))
    (hi : W.Looks (model prog w) h (typeLookup (.ref C) "__init__") (some (.ref fI))) (hb : ∀ self, W.Looks (model prog w) h (bindSpecial (.ref fI) self) (.ref fI, [self]))
    (hq : codeAny (model prog w) (A.under (.builtin "type.__call__" ⟨[.ref C], [(kx, kv)]⟩)) (.call (.ref fI) ⟨[.ref (h.objs.size + 1)], [(kx, kv)]⟩) (W.InitBack (h.objs.size + 1) R)
      ⟨(h.push (W.kdv_tup [])).push (excO C h.objs.size), g, d, t, os⟩) :
    codeAny (model prog w) A (.call (.ref C) ⟨[], [(kx, kv)]⟩) R ⟨h, g, d, t, os⟩ := by
  have f1 := tc_lookup
  have f2 := tc_bind (.ref C)
  have hTy : (⟨h, g, d, t, os⟩ : Shared).TypeIs (.ref C) "type" := ⟨_, hC, rfl⟩
  refine codeAny_of_tree ?_
  show wpAny _ _ (callAny (.ref C) _) _ _ _
  repeat (any_goals (first | assumption | with_reducible refine wpAny_loadPart_at hC ?_ | wp_step))
  refine ⟨rfl, ?_⟩
  refine codeAny_call_builtin_at (Code.quiet_builtin _ (by decide +kernel)) entry_typeCall (kw_check hC (kw_type_call F hT hC hi hb ?_))
  refine codeAny_mono hq fun r s' z => ?_
  rcases r with e | (v | _ | _ | _) <;> exact z
end
end ZX
end PySem
namespace Z
open PySem PySem.Spec PyProof.Rows L2
section
variable {X : Cx} {C fI : Addr} {B newId initId : String} {bmB : List Value} {k : Nat} {fd : FuncData} {pm f x : Str} {e : Expr} {te : TE} {p pos kp : Pos}
theorem pe_mkxK (T : OexG X.K C B newId initId bmB) (iC : PySem.W.findIn X.K (.ref C) "__init__" = some (some (.ref fI))) (tI : PySem.W.typeIn X.K (.ref fI) = some (.type "function")) (F1 : FnOk X.prog X.w X.K X.mg X.base CX0 k fI fd ["self", pm] (spX C f)) (hr : Room (k + 1) X.A) (hb : ∀ (s : Shared) (a u : Value), BindsTo s fd ⟨[a], [(pm, u)]⟩ [("self", a), (pm, u)])
    (hg : Gl X x) (hm : X.mg x = some (.ref C)) (he : PE X e te) (hdb : (x == ("__debug__" : Str)) = false) : PE X (.Call (.Name x p) [] [⟨some pm, e, kp⟩] pos) (tMkx C f te) := by
  refine ⟨fun pins s σ H Q I h => ?_⟩
  refine wpAny_Call_Name_kw (ld_glob I hg hm ?_ hdb)
  refine PySem.W.callWith_KW0 (h₀ := X.base) I.ok.mod.kin T.kC rfl (thn ((pk_cons he pk_nil).run pos pins s σ H (fun vs H1 => match vs with
    | [y] => ∀ a d, H1 a = none → H1 d = none → d ≠ a → Q (.ref a) (upd (upd (upd H1 a (exo a C none)) d (exd d [(f, y)])) a (exo a C (some d)))
    | _ => False) I h) fun us s1 ⟨vs, H1, I1, r1, q1⟩ => ⟨I1.kIn, ?_⟩)
  obtain ⟨y, ev, q1⟩ : ∃ y, vs = [y] ∧ ∀ a d, H1 a = none → H1 d = none → d ≠ a → Q (.ref a) (upd (upd (upd H1 a (exo a C none)) d (exd d [(f, y)])) a (exo a C (some d))) := by
    match vs, q1 with
    | [y], q => exact ⟨y, rfl, q⟩
    | [], q => exact q.elim
    | _ :: _ :: _, q => exact q.elim
  subst ev
  obtain ⟨u, rfl, ru⟩ := vals1 r1
  obtain ⟨nm, N', qn, bs, bm, hdct, sn, sub, ab, col, dd, k0, k1, k2, k3, k5, hC, hT⟩ := PySem.W.excInit_of I1.kIn T.q
  show wpAny _ _ (call (.ref C) [] [(pm, u)]) _ _ _
  obtain ⟨hp, g, dr, tk, os⟩ := s1
  have hsz : hp.objs.size ≤ hp.objs.size + 1 := Nat.le_succ _
  have hn : H1 (hp.objs.size + 1) = none := I1.hok.fresh hsz
  have kk : ∀ b o, hp.get? b = some o → ((hp.push (PySem.W.kdv_tup [])).push (PySem.HandSPX.excO C hp.objs.size)).get? b = some o := fun b o e => Heap.get?_push_of_some _ (Heap.get?_push_of_some _ e)
  have hget : ((hp.push (PySem.W.kdv_tup [])).push (PySem.HandSPX.excO C hp.objs.size)).get? (hp.objs.size + 1) = some (PySem.HandSPX.excO C hp.objs.size) := by heap_get
  have I2 : Inv X pins σ (upd H1 (hp.objs.size + 1) (exo (hp.objs.size + 1) C none)) ⟨(hp.push (PySem.W.kdv_tup [])).push (PySem.HandSPX.excO C hp.objs.size), g, dr, tk, os⟩ :=
    I1.laid (t' := tk) (a := hp.objs.size + 1) (o := exo (hp.objs.size + 1) C none) (h' := (hp.push (PySem.W.kdv_tup [])).push (PySem.HandSPX.excO C hp.objs.size)) kk hsz (exo_ok hget)
  have hq : spX C f [.ref (hp.objs.size + 1), y] (upd H1 (hp.objs.size + 1) (exo (hp.objs.size + 1) C none)) (fun v H2 => v = .non ∧ Q (.ref (hp.objs.size + 1)) H2) (fun _ _ _ => False) :=
    ⟨_, y, rfl, upd_same, fun d n ne => ⟨rfl, q1 _ d hn (by rw [upd_ne ne] at n; exact n) ne⟩⟩
  refine wpAny_call (PySem.ZX.kw_call T.fB hT hC (PySem.W.looks_findIn I1.kIn iC) (fun self => PySem.W.bind_fn I1.kIn self tI)
    (codeAny_mono (F1.run _ X.stack _ _ ⟨[Value.ref (hp.objs.size + 1)], [(pm, u)]⟩ [Value.ref (hp.objs.size + 1), u] [V.ref (hp.objs.size + 1), y] _ (fun _ _ _ => False) (hr.make C [] [(pm, u)]) (I2.env0.make C [] [(pm, u)]) (hb _ _ _) (.cons rfl (.cons ru .nil)) hq) fun r s' hq' => ?_))
  cases r with
  | error er => exact hq'.elim
  | ok fl =>
    cases fl with
    | ret u =>
      obtain ⟨v, H2, os2, bare2, un2, hok2, rv, ev, q2⟩ := hq'
      subst ev
      exact ⟨rv, I2.after ⟨.ref (hp.objs.size + 1), H2, os2, bare2, un2, hok2, rfl, q2⟩⟩
    | next => exact False.elim hq'
    | brk => exact False.elim hq'
    | cont => exact False.elim hq'
end
end Z
set_option Elab.async false
set_option linter.all false
set_option maxRecDepth 100000
set_option maxHeartbeats 4000000
/-! Z, part V: own exceptions in the store. -/
namespace Z
open PySem PySem.Spec PyProof.Rows L2
section
variable {K : PySem.W.Frag} {CA : Nat → Addr} {W : WX} {as as1 as2 : List Addr} {H H1 H2 : Hp} {st st1 st2 : Store} {ρ : Rho} {σ : L2.St} {Q : VK} {X : Cx}
def eNew (c : Nat) (f : Str) (g : Den T) : Den T := fun ρ st => (g ρ st).bind fun x st => .ok (.d (.ref (boxT x st).2.length)) ((boxT x st).2 ++ [.exc c [(f, (boxT x st).1)]])
theorem new_ok {c : Nat} {f : Str} {g : Den T} (m : tD K CA W (eNew c f g) σ H Q) : tMkx (CA c) f (tD K CA W g) σ H Q := by
  obtain ⟨as, st, ρ, S, E, m⟩ := m
  refine ⟨as, st, ρ, S, E, eg m fun t st1 _ m1 as1 H1 v P1 S1 r1 f1 a d na nd ne => ?_⟩
  obtain ⟨as2, P2, sub, S2, r2⟩ := box_ok P1 S1 r1 f1
  have eH : upd (upd (upd H1 a (exo a (CA c) none)) d (exd d [(f, v)])) a (exo a (CA c) (some d)) = upd (upd H1 d (exd d [(f, v)])) a (exo a (CA c) (some d)) := by
    funext b
    by_cases hb : b = a
    · rw [hb, upd_same, upd_same]
    · rw [upd_ne hb, upd_ne hb]
      by_cases hd : b = d
      · rw [hd, upd_same, upd_same]
      · rw [upd_ne hd, upd_ne hd, upd_ne hb]
  rw [eH]
  obtain ⟨S3, P3⟩ := S2.laid (u := exd d [(f, v)]) nd
  have na3 : (upd H1 d (exd d [(f, v)])) a = none := by rw [upd_ne ne.symm]; exact na
  obtain ⟨S4, P4⟩ := S3.laid (u := exo a (CA c) (some d)) na3
  have PP : Post as H as2 (upd (upd H1 d (exd d [(f, v)])) a (exo a (CA c) (some d))) := (P2.trans P3).trans P4
  have r4 : RD K as2 (upd (upd H1 d (exd d [(f, v)])) a (exo a (CA c) (some d))) (boxT t st1).1 v := r2.post (P3.trans P4)
  have hnin : a ∉ as2 := S2.nin na
  have sub4 : ∀ (k : Nat) (b : Addr), as2[k]? = some b → (as2 ++ [a])[k]? = some b := fun k b e => by
    rw [List.getElem?_append_left (List.getElem?_eq_some_iff.mp e).1]; exact e
  have S5 := S4.push (o := .exc c [(f, (boxT t st1).1)]) hnin ⟨d, [(f, v)], upd_same, by rw [upd_ne ne]; exact upd_same, rfl, RDs.cons (r4.up Up.refl sub4) RDs.nil⟩
  obtain ⟨bs, eb, n⟩ := PP.ext
  refine (m1 : ER K CA W σ as H Q (.ok (.d (.ref (boxT t st1).2.length)) ((boxT t st1).2 ++ [.exc c [(f, (boxT t st1).1)]]))) (as2 ++ [a]) _ (.ref a) ⟨⟨bs ++ [a], by rw [eb, List.append_assoc], fun b hb => ?_⟩, PP.keep, PP.tup, PP.frz, PP.ext', PP.dom⟩ S5 ?_ trivial
  · rcases List.mem_append.mp hb with hb | hb
    · exact n b hb
    · rw [List.mem_singleton.mp hb]; exact P1.dom a na
  · show RD K (as2 ++ [a]) (upd (upd H1 d (exd d [(f, v)])) a (exo a (CA c) (some d))) (.ref (boxT t st1).2.length) (.ref a)
    unfold RD
    exact ⟨a, by rw [← S2.len, List.getElem?_append_right (Nat.le_refl _)]; simp, rfl⟩
/-- the exception that a value is -/
def excAt (t : T) (st : Store) : Option (Nat × List (Str × D)) := match t with
  | .d (.ref k) => match st[k]? with
    | some (.exc c fs) => some (c, fs)
    | _ => none
  | _ => none
theorem excAt_ok {t : T} {v : V} {c : Nat} {fs : List (Str × D)} (S : Sim K CA as st H) (r : RT K as H t v) (h : excAt t st = some (c, fs)) : ∃ a d us, v = .ref a ∧ H a = some (exo a (CA c) (some d)) ∧ H d = some (exd d us) ∧ RFs K as H fs us := by
  unfold excAt at h
  split at h
  · rename_i k
    split at h
    · rename_i c' fs' e
      cases h
      have r : RD K as H (.ref k) v := r
      unfold RD at r
      obtain ⟨a, e1, e2⟩ := r
      obtain ⟨d, us, q1, q2, q3⟩ := S.obj k a _ e1 e
      exact ⟨a, d, us, e2, q1, q2, q3⟩
    · cases h
  · cases h
def oAttr (fld : Nat → Str) (f : Str) (t : T) (st : Store) : R T := match excAt t st with
  | some (c, [(g, d)]) => if g = f ∧ fld c = f then .ok (.d d) st else .bad
  | _ => .bad
theorem attr_ok {fld : Nat → Str} {f : Str} {g : Den T} (hx : ∀ c, XfC K (CA c) ∧ PySem.W.findIn K (.ref (CA c)) (fld c) = some none) (m : tD K CA W (e1 (oAttr fld f) g) σ H Q) : tXat K f (tD K CA W g) σ H Q := by
  obtain ⟨as, st, ρ, S, E, m⟩ := m
  refine ⟨as, st, ρ, S, E, eg m fun t st1 _ m1 as1 H1 v P1 S1 r1 f1 => ?_⟩
  have m2 := ER.mono P1 m1
  unfold oAttr at m2
  split at m2
  · rename_i c g' d' e
    split at m2
    · rename_i hc
      obtain ⟨rfl, hc⟩ := hc
      obtain ⟨a, d, us, ev, ea, ed, rf⟩ := excAt_ok S1 r1 e
      obtain ⟨hk, hr⟩ := rf
      have hk : us.map (·.1) = [g'] := hk
      match us, hk, hr with
      | [(n, y)], hk, hr =>
        have hk : [n] = [g'] := hk
        cases hk
        have hr : RDs K as1 H1 [d'] [y] := hr
        unfold RDs at hr
        obtain ⟨y', _, e3, r3, _⟩ := hr
        cases e3
        have hno : PySem.W.findIn K (.ref (CA c)) g' = some none := by rw [← hc]; exact (hx c).2
        exact ⟨a, CA c, d, [(g', y)], y, ev, ea, ed, (hx c).1, hno, by simp [List.lookup], ER.here S1 m2 r3⟩
      | [], hk, _ => cases hk
      | _ :: _ :: _, hk, _ => cases hk
    · exact m2.elim
  · exact m2.elim
def oIsc (isi : Nat → Str → Option Bool) (x : Str) (t : T) (st : Store) : R T := match excAt t st with
  | some (c, _) => match isi c x with
    | some b => .ok (kBl b) st
    | none => .bad
  | none => .bad
theorem isc_ok {isi : Nat → Str → Option Bool} {x : Str} {g : Den T} {cv : V} {u : Value} (hc : ClsV cv u) (hx : ∀ c b, isi c x = some b → xisB K (CA c) = true ∧ PySem.W.kitOne K (.ref (CA c)) u = some b) (m : tD K CA W (e1 (oIsc isi x) g) σ H Q) : tCB (rIsiX K) (tCons (tD K CA W g) (tCons (tC cv) tNil)) σ H Q := by
  obtain ⟨as, st, ρ, S, E, m⟩ := m
  refine ⟨as, st, ρ, S, E, eg m fun t st1 _ m1 as1 H1 v P1 S1 r1 f1 => ?_⟩
  have m2 := ER.mono P1 m1
  unfold oIsc at m2
  split at m2
  · rename_i c fs e
    split at m2
    · rename_i b hb
      obtain ⟨a, d, us, ev, ea, ed, rf⟩ := excAt_ok S1 r1 e
      subst ev
      obtain ⟨h1, h2⟩ := hx c b hb
      exact ⟨a, CA c, d, us, cv, u, b, rfl, ea, ed, h1, hc, h2, ER.here S1 m2 RD.bl⟩
    · exact m2.elim
  · exact m2.elim
end
end Z
set_option Elab.async false
set_option linter.all false
set_option maxRecDepth 100000
set_option maxHeartbeats 4000000
/-! Z, part K: a small syntax, what it means, when a text is of it. -/
namespace Z
open PySem PySem.Spec PyProof.Rows L2
inductive BO where
  | add | sub | mul | fdiv | mod | pow
inductive CO where
  | lt | le | gt | ge | eq | ne | in_ | notin
inductive B1 where
  | len | int | tuple | list | repr | all
inductive BN where
  | max2
inductive ME where
  | append | pop | popAt
mutual
inductive SE where
  | var (i : Nat)
  | k (x : P)
  | gk (n : Str) (x : P)
  | tup (es : SL)
  | lst (es : SL)
  | bin (o : BO) (a b : SE)
  | neg (a : SE)
  | cmp (o : CO) (a b : SE)
  | chain (o o' : CO) (a b c : SE)
  | and (es : SL)
  | or (es : SL)
  | not (a : SE)
  | ite (c a b : SE)
  | ix (a b : SE)
  | sl (a : SE) (lo hi : SO)
  | call (f : Nat) (es : SL)
  | b1 (b : B1) (a : SE)
  | bN (b : BN) (es : SL)
  | meth (m : ME) (a : SE) (es : SL)
  | new (kw : Bool) (c : Nat) (a : SE)
  | attr (a : SE) (f : Str)
  | isc (a : SE) (x : Str)
  | lc (elt : SE) (tg : Tg) (it : IT) (c : SO) (own : List (Str × Nat))
inductive SL where
  | nil
  | cons (e : SE) (r : SL)
inductive SO where
  | no
  | yes (e : SE)
inductive IT where
  | of (e : SE)
  | rng (es : SL)
  | en (e : SE)
end
mutual
inductive SS where
  | ret (e : SE)
  | retN
  | exp (e : SE)
  | asg (tg : Tg) (e : SE)
  | par (i j : Nat) (a b : SE)
  | par3 (i j l : Nat) (a b c : SE)
  | sub (o i e : SE)
  | ite (c : SE) (a b : SB)
  | for_ (tg : Tg) (it : IT) (b : SB)
  | mat (e : SE) (c : SC)
  | pass | brk | cont
inductive SB where
  | nil
  | cons (s : SS) (r : SB)
inductive SC where
  | nil
  | case (ys : List Str) (b : SB) (r : SC)
  | els (b : SB)
end
/-- the module's names: defs, constants, those that are not bound there; a def's parameters and its defaults -/
structure Tab where
  fns : List (Str × Nat)
  con : List (Str × P)
  no : List Str
  par : Nat → List Str
  dfl : Nat → List P
  cls : List (Str × Nat) := []
  fld : Nat → Str := fun _ => "?"
  kwd : Nat → Str := fun _ => "?"
  isi : Nat → Str → Option Bool := fun _ _ => none
  isx : List Str := []

/-! ### the meaning -/
def oSub : T → T → Store → R T := oInt pT fun i j => i - j
def oDiv : T → T → Store → R T := oInt pDiv fun i j => i / j
def oMod : T → T → Store → R T := oInt pMod fun i j => i % j
def oPow : T → T → Store → R T := oInt pPow fun i j => i ^ j.toNat
def bop : BO → T → T → Store → R T
  | .add => oAdd | .sub => oSub | .mul => oMul | .fdiv => oDiv | .mod => oMod | .pow => oPow
def cop : CO → T → T → Store → R T
  | .lt => oIntB fun i j => decide (i < j) | .le => oIntB fun i j => decide (i ≤ j) | .gt => oIntB fun i j => decide (j < i) | .ge => oIntB fun i j => decide (j ≤ i)
  | .eq => oEq false | .ne => oEq true | .in_ => oIn false | .notin => oIn true
def oNeg (t : T) (st : Store) : R T := match t with
  | .d (.p (.int i)) => .ok (kInt (-i)) st
  | _ => .bad
def b1op : B1 → T → Store → R T
  | .len => oLen | .int => oToInt | .tuple => oTuple | .list => oList | .repr => oRepr | .all => oAll
def bNop : BN → List D → Store → R T
  | .max2 => oMax2
def meop : ME → T → List D → Store → R T
  | .append => mAppend | .pop => mPop | .popAt => mPopAt
section
variable (F : Nat → List D → Store → R T) (t : Tab)
/-- as a value and as a test -/
def both (f : Den T) : Den T × Den Bool := (f, eTru f)
mutual
def den : SE → Den T × Den Bool
  | .var i => both (eVar i)
  | .k x => both (eK x)
  | .gk _ x => both (eK x)
  | .tup es => both (eTup (denL es))
  | .lst es => both (eLst (denL es))
  | .bin o a b => both (eBin (bop o) (den a).1 (den b).1)
  | .neg a => both (e1 oNeg (den a).1)
  | .cmp o a b => (eBin (cop o) (den a).1 (den b).1, eCmpB (cop o) (den a).1 (den b).1)
  | .chain o o' a b c => (eChain (cop o) (cop o') (den a).1 (den b).1 (den c).1, eBl (eChain (cop o) (cop o') (den a).1 (den b).1 (den c).1))
  | .and es => (denAV es, denAB es)
  | .or es => (denOV es, denOB es)
  | .not a => (eNot (den a).1, bNot (den a).2)
  | .ite c a b => (eIf (den c).2 (den a).1 (den b).1, fun _ _ => .bad)
  | .ix a b => both (eBin oIx (den a).1 (den b).1)
  | .sl a lo hi => both (eSl (den a).1 (denO lo) (denO hi))
  | .call f es => both (eCall (F f) (t.par f).length (t.dfl f) (denL es))
  | .b1 b a => both (e1 (b1op b) (den a).1)
  | .bN b es => both (eN (bNop b) (denL es))
  | .meth m a es => both (eMeth "list" (meop m) (den a).1 (denL es))
  | .new _ c a => both (eNew c (t.fld c) (den a).1)
  | .attr a f => both (e1 (oAttr t.fld f) (den a).1)
  | .isc a x => both (e1 (oIsc t.isi x) (den a).1)
  | .lc elt tg it c own => both (eComp (denI it) (own.map (·.2)) tg (denC c) (den elt).1)
def denAV : SL → Den T
  | .nil => fun _ _ => .bad
  | .cons e .nil => (den e).1
  | .cons e (.cons e' r) => eAnd (den e).1 (denAV (.cons e' r))
def denOV : SL → Den T
  | .nil => fun _ _ => .bad
  | .cons e .nil => (den e).1
  | .cons e (.cons e' r) => eOr (den e).1 (denOV (.cons e' r))
def denAB : SL → Den Bool
  | .nil => fun _ _ => .bad
  | .cons e .nil => (den e).2
  | .cons e (.cons e' r) => bAnd (den e).2 (denAB (.cons e' r))
def denOB : SL → Den Bool
  | .nil => fun _ _ => .bad
  | .cons e .nil => (den e).2
  | .cons e (.cons e' r) => bOr (den e).2 (denOB (.cons e' r))
def denL : SL → Den (List D)
  | .nil => eNil
  | .cons e r => eCons (den e).1 (denL r)
def denO : SO → Den (Option Int)
  | .no => eNo
  | .yes e => eBd (den e).1
def denC : SO → Den Bool
  | .no => cYes
  | .yes e => (den e).2
def denI : IT → Den Src
  | .of e => iOf (den e).1
  | .rng es => iRng (denL es)
  | .en e => iEnumD (den e).1
end
abbrev denE (s : SE) : Den T := (den F t s).1
abbrev denB (s : SE) : Den Bool := (den F t s).2
mutual
def denS : SS → DenS
  | .ret e => sRet (denE F t e)
  | .retN => sRetN
  | .exp e => sExp (denE F t e)
  | .asg tg e => sAsg tg (denE F t e)
  | .par i j a b => sPar i j (eCons (denE F t a) (eCons (denE F t b) eNil))
  | .par3 i j l a b c => sPar3 i j l (eCons (denE F t a) (eCons (denE F t b) (eCons (denE F t c) eNil)))
  | .sub o i e => sSub (denE F t e) (denE F t o) (denE F t i)
  | .ite c a b => sIf (denB F t c) (denSs a) (denSs b)
  | .for_ tg it b => sFor (denI F t it) tg (denSs b)
  | .mat e c => sMatch (denE F t e) (denM c)
  | .pass => sPass
  | .brk => sBrk
  | .cont => sCt
def denSs : SB → DenS
  | .nil => sPass
  | .cons s .nil => denS s
  | .cons s (.cons s' r) => sSeq (denS s) (denSs (.cons s' r))
def denM : SC → Str → DenS
  | .nil => sNoCase
  | .case ys b r => sCase ys (denSs b) (denM r)
  | .els b => sElse (denSs b)
end
end

/-! ### the look -/
structure Ck where
  N : List Str
  sc : Scope
  fn : Str → Bool
def visB (sc : Scope) (x : Str) : Bool := match sc.names.lookup x with
  | some .local => true
  | some .cell => true
  | some .free => true
  | _ => false
def glB (sc : Scope) (x : Str) : Bool := match sc.names.lookup x with
  | some .globalImplicit => true
  | _ => false
def locB (c : Ck) (x : Str) : Bool := match c.sc.names.lookup x with
  | some .local => true
  | some .cell => c.fn x
  | _ => false
def dbg (x : Str) : Bool := (x == ("__debug__" : Str))
def ckK : P → Const → Bool
  | .non, .none => true
  | .bl b, .bool c => b == c
  | .int i, .int j => i == j
  | .str x, .str y => x == y
  | _, _ => false
def ckBO : BO → Operator → Bool
  | .add, .Add => true | .sub, .Sub => true | .mul, .Mult => true | .fdiv, .FloorDiv => true | .mod, .Mod => true | .pow, .Pow => true
  | _, _ => false
def ckCO : CO → CmpOp → Bool
  | .lt, .Lt => true | .le, .LtE => true | .gt, .Gt => true | .ge, .GtE => true | .eq, .Eq => true | .ne, .NotEq => true | .in_, .In => true | .notin, .NotIn => true
  | _, _ => false
def b1n : B1 → Str
  | .len => "len" | .int => "int" | .tuple => "tuple" | .list => "list" | .repr => "repr" | .all => "all"
def bNn : BN → Str
  | .max2 => "max"
def men : ME → Str
  | .append => "append" | .pop => "pop" | .popAt => "pop"
def men0 : ME → Bool
  | .pop => true
  | _ => false
mutual
def ckT (c : Ck) (ix : List Nat) : Tg → Expr → Bool
  | .n i, .Name x _ => decide (i ∈ ix) && decide (c.N[i]? = some x) && locB c x
  | .t ts, .Tuple es _ _ => ckTs c ix ts es
  | _, _ => false
def ckTs (c : Ck) (ix : List Nat) : List Tg → List Expr → Bool
  | [], [] => true
  | t :: ts, e :: es => plainArg e && ckT c ix t e && ckTs c ix ts es
  | _, _ => false
end
section
variable (t : Tab)
def sll : SL → Nat
  | .nil => 0
  | .cons _ r => sll r + 1
mutual
/-- m: as a test -/
def ck (c : Ck) (m : Bool) : SE → Expr → Bool
  | .var i => fun e => match e with
    | .Name x _ => decide (c.N[i]? = some x) && visB c.sc x && !dbg x && !(x == ("__classdict__" : Str))
    | _ => false
  | .k x => fun e => match e with
    | .Constant k _ _ => ckK x k
    | _ => false
  | .gk n x => fun e => match e with
    | .Name y _ => decide (n = y) && glB c.sc y && !dbg y && decide ((y, x) ∈ t.con)
    | _ => false
  | .tup es => fun e => match e with
    | .Tuple xs _ _ => ckL c false es xs && decide (sll es ≤ 1000)
    | _ => false
  | .lst es => fun e => match e with
    | .List xs _ => ckL c false es xs && decide (sll es ≤ 1000)
    | _ => false
  | .bin o a b => fun e => match e with
    | .BinOp x p y _ => ckBO o p && ck c false a x && ck c false b y
    | _ => false
  | .neg a => fun e => match e with
    | .UnaryOp .USub x _ => ck c false a x
    | _ => false
  | .cmp o a b => fun e => match e with
    | .Compare x [p] [y] _ => ckCO o p && ck c false a x && ck c false b y && notSet y
    | _ => false
  | .chain o o' a b d => fun e => match e with
    | .Compare x [p, p'] [y, z] _ => ckCO o p && ckCO o' p' && ck c false a x && ck c false b y && ck c false d z && notSet z
    | _ => false
  | .and es => fun e => match e with
    | .BoolOp .And xs _ => ckL c m es xs
    | _ => false
  | .or es => fun e => match e with
    | .BoolOp .Or xs _ => ckL c m es xs
    | _ => false
  | .not a => fun e => match e with
    | .UnaryOp .Not x _ => ck c m a x
    | _ => false
  | .ite d a b => fun e => match e with
    | .IfExp w x y _ => !m && ck c true d w && ck c false a x && ck c false b y
    | _ => false
  | .ix a b => fun e => match e with
    | .Subscript x y _ => ck c false a x && ck c false b y && notSlice y
    | _ => false
  | .sl a lo hi => fun e => match e with
    | .Subscript x (.Slice l h none _) _ => ck c false a x && ckO c lo l && ckO c hi h
    | _ => false
  | .call f es => fun e => match e with
    | .Call (.Name x _) xs [] _ => decide ((x, f) ∈ t.fns) && glB c.sc x && !dbg x && ckL c false es xs && plainArgs xs
    | _ => false
  | .b1 b a => fun e => match e with
    | .Call (.Name x _) [y] [] _ => decide (b1n b = x) && decide (x ∈ t.no) && glB c.sc x && ck c false a y && plainArg y
    | _ => false
  | .bN b es => fun e => match e with
    | .Call (.Name x _) (y :: ys) [] _ => decide (bNn b = x) && decide (x ∈ t.no) && glB c.sc x && ckL c false es (y :: ys) && plainArgs (y :: ys)
    | _ => false
  | .meth d a es => fun e => match e with
    | .Call (.Attribute o n ap) xs [] cp => decide (men d = n) && ck c false a o && noSuper o && (ap.endLine == cp.line) && ckL c false es xs && plainArgs xs && (men0 d == xs.isEmpty) && decide (xs.length < 29)
    | _ => false
  | .new kw n a => fun e => match e with
    | .Call (.Name x _) [y] [] _ => !kw && decide ((x, n) ∈ t.cls) && glB c.sc x && !dbg x && ck c false a y && plainArg y
    | .Call (.Name x _) [] [⟨some z, y, _⟩] _ => kw && decide ((x, n) ∈ t.cls) && decide (t.kwd n = z) && glB c.sc x && !dbg x && ck c false a y
    | _ => false
  | .attr a f => fun e => match e with
    | .Attribute o n _ => decide (f = n) && ck c false a o && noSuper o && !t.cls.isEmpty
    | _ => false
  | .isc a x => fun e => match e with
    | .Call (.Name y _) [o, .Name z _] [] _ => decide (y = "isinstance") && decide (z = x) && decide (y ∈ t.no) && glB c.sc y && glB c.sc z && !dbg z && decide (z ≠ "__name__") && ck c false a o && plainArg o && decide (x ∈ t.isx)
    | _ => false
  | .lc elt tg it d own => fun e => match e with
    | .ListComp e [⟨g, i, ifs, 0⟩] scope _ => ckI c it g i && notSet i && blkC c.N c.sc scope own && ckT ⟨c.N, relS scope c.sc, fun x => scope.names.lookup x == some .cell⟩ (own.map (·.2)) tg g &&
      ckC ⟨c.N, relS scope c.sc, fun x => scope.names.lookup x == some .cell⟩ d ifs && ck ⟨c.N, relS scope c.sc, fun x => scope.names.lookup x == some .cell⟩ false elt e
    | _ => false
def ckL (c : Ck) (m : Bool) : SL → List Expr → Bool
  | .nil, [] => true
  | .cons s r, e :: es => plainArg e && ck c m s e && ckL c m r es
  | _, _ => false
def ckO (c : Ck) : SO → Option Expr → Bool
  | .no, none => true
  | .yes s, some e => ck c false s e
  | _, _ => false
def ckC (c : Ck) : SO → List Expr → Bool
  | .no, [] => true
  | .yes s, [e] => ck c true s e
  | _, _ => false
def ckI (c : Ck) : IT → Expr → Expr → Bool
  | .of s, _, e => ck c false s e
  | .rng es, _, .Call (.Name x _) xs [] _ => decide (x = "range") && decide (x ∈ t.no) && glB c.sc x && ckL c false es xs && plainArgs xs && (xs.length == 1 || xs.length == 2)
  | .en s, .Tuple _ _ _, .Call (.Name x _) [e] [] _ => decide (x = "enumerate") && decide (x ∈ t.no) && glB c.sc x && ck c false s e && plainArg e
  | _, _, _ => false
end
example (F : Nat → List D → Store → R T) (t : Tab) (a b : SE) : den F t (.ix a b) = both (eBin oIx (den F t a).1 (den F t b).1) := rfl
end
end Z
set_option Elab.async false
set_option linter.all false
set_option maxRecDepth 100000
set_option maxHeartbeats 4000000
/-! Z, part L: what is of the small syntax means what that says. -/
namespace Z
open PySem PySem.Spec PyProof.Rows L2
/-- an own exception class, under its name -/
structure ClsF (P : Program) (w : World) (K : PySem.W.Frag) (mg : Str → Option Value) (base : Heap) (C : Addr) (x f kw : Str) : Prop where
  ex : ∃ (B newId initId : String) (bmB : List Value) (fI : Addr) (fd : FuncData), OexG K C B newId initId bmB ∧ PySem.W.findIn K (.ref C) "__init__" = some (some (.ref fI)) ∧ PySem.W.typeIn K (.ref fI) = some (.type "function") ∧
    FnOk P w K mg base CX0 1 fI fd ["self", kw] (spX C f) ∧ Binds K fd ["self", kw] [] ∧ (∀ (s : Shared) (a u : Value), BindsTo s fd ⟨[a], [(kw, u)]⟩ [("self", a), (kw, u)]) ∧ mg x = some (.ref C)
/-- the facts of the module -/
structure Fac (P : Program) (w : World) (K : PySem.W.Frag) (mg : Str → Option Value) (base : Heap) (CA : Nat → Addr) (F : Nat → List D → Store → R T) (t : Tab) (lv : Nat) : Prop where
  fn : ∀ x i, (x, i) ∈ t.fns → ∃ f fd ds0, mg x = some (.ref f) ∧ PySem.W.keepIn K (.ref f) = true ∧ Binds K fd (t.par i) ds0 ∧ Dflt K (t.dfl i) ds0 ∧ FnZ P w K mg base CA lv f fd (t.par i) (F i)
  con : ∀ x v, (x, v) ∈ t.con → ∃ u y, mg x = some u ∧ RelV y u ∧ ∀ H : Hp, RP K H v y
  no : ∀ x ∈ t.no, mg x = none
  cl : ∀ x c, (x, c) ∈ t.cls → ClsF P w K mg base (CA c) x (t.fld c) (t.kwd c)
  at_ : t.cls ≠ [] → ∀ c, XfC K (CA c) ∧ PySem.W.findIn K (.ref (CA c)) (t.fld c) = some none
  ix : ∀ x ∈ t.isx, (∃ D, mg x = some (.ref D)) ∨ ∃ T, mg x = none ∧ bootBuiltins x = some (.type T)
  is_ : ∀ c x b, t.isi c x = some b → xisB K (CA c) = true ∧ ((∃ D, mg x = some (.ref D) ∧ PySem.W.kitOne K (.ref (CA c)) (.ref D) = some b) ∨ ∃ T, mg x = none ∧ bootBuiltins x = some (.type T) ∧ PySem.W.kitOne K (.ref (CA c)) (.type T) = some b)
/-- a context of that look -/
structure Cok (CA : Nat → Addr) (F : Nat → List D → Store → R T) (t : Tab) (lv : Nat) (c : Ck) (X : Cx) (W : WX) : Prop where
  N : X.N = c.N
  nd : X.N.Nodup
  sc : X.env.scope = c.sc
  fn : ∀ x, c.fn x = true → X.fn x = true
  calm : X.calm = true
  gd : X.A.guards = some []
  room : Room lv X.A
  lv2 : 2 ≤ lv
  tk : Takes X W
  fac : Fac X.prog X.w X.K X.mg X.base CA F t lv
section
variable {CA : Nat → Addr} {F : Nat → List D → Store → R T} {t : Tab} {lv : Nat} {c : Ck} {X : Cx} {W : WX}
theorem Cok.hu (k : Cok CA F t lv c X W) : X.A.units + 64 < cLine := k.room.units
theorem vis_ok (k : Cok CA F t lv c X W) {x : Str} (h : visB c.sc x = true) : Vis X.env.scope x := by
  rw [k.sc]
  unfold visB at h
  split at h
  · exact .inl (by assumption)
  · exact .inr (.inl (by assumption))
  · exact .inr (.inr (by assumption))
  · cases h
theorem gl_ok (k : Cok CA F t lv c X W) {x : Str} (h : glB c.sc x = true) : Gl X x := by
  show X.env.scope.names.lookup x = _
  rw [k.sc]
  unfold glB at h
  split at h
  · assumption
  · cases h
theorem loc_ok (k : Cok CA F t lv c X W) {x : Str} (h : locB c x = true) : Loc X.env.scope x ∧ (X.fn x = true ∨ X.env.scope.names.lookup x = some .local) := by
  rw [k.sc]
  unfold locB at h
  split at h
  · rename_i e; exact ⟨.inl e, .inr e⟩
  · rename_i e; exact ⟨.inr e, .inl (k.fn x h)⟩
  · cases h
theorem bop_ok {o : BO} {p : Operator} (h : ckBO o p = true) {a b : Expr} {pos : Pos} {f g : Den T} (ha : PE X a (tD X.K CA W f)) (hb : PE X b (tD X.K CA W g)) : PE X (.BinOp a p b pos) (tD X.K CA W (eBin (bop o) f g)) := by
  unfold ckBO at h
  split at h
  · exact z_bin op_addA add_ok ha hb
  · exact z_bin op_sub (fun W σ as st H t1 t2 v1 v2 Q S r1 r2 m => let ⟨i, j, e1, e2, _, q⟩ := int2_ok (C := fun _ _ => True) (fun _ _ _ => trivial) W σ as st H t1 t2 v1 v2 Q S r1 r2 m; ⟨i, j, e1, e2, q⟩) ha hb
  · exact z_bin op_mulA mul_ok ha hb
  · exact z_bin op_fdiv (int2_ok fun i j h => by unfold pDiv at h; simp only [Bool.and_eq_true, decide_eq_true_eq] at h; exact h) ha hb
  · exact z_bin op_mod (int2_ok fun i j h => by unfold pMod at h; simpa using h) ha hb
  · exact z_bin op_pow (int2_ok fun i j h => by unfold pPow at h; simp only [Bool.and_eq_true, decide_eq_true_eq] at h; exact ⟨h.1.1, h.1.2, h.2⟩) ha hb
  · cases h
/-- a comparison's rule -/
theorem cop_ok {o : CO} {p : CmpOp} (hu : X.A.units + 64 < cLine) (h : ckCO o p = true) : ∃ r, OpR X (compareOp p) r ∧ Op2 X.K CA (cop o) r := by
  unfold ckCO at h
  split at h
  · exact ⟨_, op_lt, intB_ok⟩
  · exact ⟨_, op_le, intB_ok⟩
  · exact ⟨_, op_gt, intB_ok⟩
  · exact ⟨_, op_ge, intB_ok⟩
  · exact ⟨_, op_eqA hu, eq_ok⟩
  · exact ⟨_, op_neA hu, ne_ok⟩
  · exact ⟨_, op_inA, in_ok⟩
  · exact ⟨_, op_notInA, notIn_ok⟩
  · cases h
theorem const_ok {x : P} {k : Const} {j : Nat} {pos : Pos} (h : ckK x k = true) : PE X (.Constant k j pos) (tD X.K CA W (eK x)) := by
  unfold ckK at h
  split at h
  · exact z_k pe_non fun _ _ => RD.non
  · cases beq_iff_eq.mp h; exact z_k pe_bl fun _ _ => RD.bl
  · cases beq_iff_eq.mp h; exact z_k pe_int fun _ _ => RD.int
  · cases beq_iff_eq.mp h; exact z_k pe_str fun _ _ => RD.str
  · cases h
theorem boot_all' : bootBuiltins "all" = some (.builtin "all") := by decide +kernel
theorem boot_repr' : bootBuiltins "repr" = some (.builtin "repr") := by decide +kernel
theorem boot_max' : bootBuiltins "max" = some (.builtin "max") := by decide +kernel
theorem boot_len' : bootBuiltins "len" = some (.builtin "len") := by decide +kernel
theorem boot_int' : bootBuiltins "int" = some (.type "int") := by decide +kernel
theorem boot_tuple' : bootBuiltins "tuple" = some (.type "tuple") := by decide +kernel
theorem boot_list' : bootBuiltins "list" = some (.type "list") := by decide +kernel
theorem b1_ok (k : Cok CA F t lv c X W) {b : B1} {x : Str} {e : Expr} {p pos : Pos} {f : Den T} (hx : b1n b = x) (hno : x ∈ t.no) (hg : glB c.sc x = true) (he : PE X e (tD X.K CA W f)) (hp : plainArg e = true) : PE X (.Call (.Name x p) [e] [] pos) (tD X.K CA W (e1 (b1op b) f)) := by
  subst hx
  cases b with
  | len => exact z_b1 call_len len_ok he (gl_ok k hg) (k.fac.no _ hno) boot_len' (by decide) (by decide) (star_cons hp)
  | int => exact z_t1 call_int1 toInt_ok he (gl_ok k hg) (k.fac.no _ hno) boot_int' (by decide) (by decide) (star_cons hp)
  | tuple => exact z_t1 call_tuple_of tuple_ok he (gl_ok k hg) (k.fac.no _ hno) boot_tuple' (by decide) (by decide) (star_cons hp)
  | list => exact z_t1 call_list_of list_ok he (gl_ok k hg) (k.fac.no _ hno) boot_list' (by decide) (by decide) (star_cons hp)
  | repr => exact z_b1 (call_repr k.hu k.gd) repr_ok he (gl_ok k hg) (k.fac.no _ hno) boot_repr' (by decide) (by decide) (star_cons hp)
  | all => exact z_b1 (cr_all k.calm) all_ok he (gl_ok k hg) (k.fac.no _ hno) boot_all' (by decide) (by decide) (star_cons hp)
theorem neg_ok : ∀ (W : WX) (σ : L2.St) (as : List Addr) (st : Store) (H : Hp) (t : T) (v : V) (Q : VK), Sim X.K CA as st H → RT X.K as H t v → ER X.K CA W σ as H Q (oNeg t st) → rU (fun i => .int (-i)) v H Q := by
  intro W σ as st H t v Q S r m
  unfold oNeg at m
  split at m
  · exact ⟨_, RTint r, ER.here S m RD.int⟩
  · exact m.elim
theorem ckL_star {m : Bool} : ∀ {s : SL} {es : List Expr}, ckL t c m s es = true → plainArgs es = true
  | .nil, [], _ => rfl
  | .nil, _ :: _, h => by simp [ckL] at h
  | .cons _ _, [], h => by simp [ckL] at h
  | .cons s r, e :: es, h => by
    simp only [ckL, Bool.and_eq_true] at h
    show (plainArg e && plainArgs es) = true
    rw [h.1.1, ckL_star h.2]; rfl
theorem denL_len : ∀ {s : SL} {ρ : Rho} {st : Store} {ds : List D} {st' : Store}, denL F t s ρ st = .ok ds st' → ds.length = sll s
  | .nil, ρ, st, ds, st', h => by
    have h : R.ok ([] : List D) st = .ok ds st' := h
    cases h; rfl
  | .cons e r, ρ, st, ds, st', h => by
    have h : eCons (den F t e).1 (denL F t r) ρ st = .ok ds st' := h
    unfold eCons at h
    cases e1 : (den F t e).1 ρ st with
    | bad => rw [e1] at h; cases h
    | exn _ _ _ => rw [e1] at h; cases h
    | ok a st1 =>
      rw [e1] at h
      have h : ((denL F t r) ρ (boxT a st1).2).bind (fun ds st' => .ok ((boxT a st1).1 :: ds) st') = R.ok ds st' := h
      cases e2 : denL F t r ρ (boxT a st1).2 with
      | bad => rw [e2] at h; cases h
      | exn _ _ _ => rw [e2] at h; cases h
      | ok bs st2 =>
        rw [e2] at h
        cases h
        show bs.length + 1 = sll r + 1
        rw [denL_len e2]
theorem ckL_len {m : Bool} : ∀ {s : SL} {es : List Expr}, ckL t c m s es = true → sll s = es.length
  | .nil, [], _ => rfl
  | .nil, _ :: _, h => by simp [ckL] at h
  | .cons _ _, [], h => by simp [ckL] at h
  | .cons s r, e :: es, h => by
    simp only [ckL, Bool.and_eq_true] at h
    show sll r + 1 = es.length + 1
    rw [ckL_len h.2]
theorem le_line {n : Nat} (h : n ≤ 1000) : n ≤ sizeLine := by rw [sizeLine_eq]; omega
/-- a comprehension's block -/
theorem Cok.blk (k : Cok CA F t lv c X W) (scope : Scope) (s : Shared) (H : Hp) (C : Addr) (cl : List (Str × Addr)) (fp : List Addr) : Cok CA F t lv ⟨c.N, relS scope c.sc, fun x => scope.names.lookup x == some .cell⟩ (X.blk s H scope (compEnvC scope cl C X.env) fp) W0 where
  N := k.N
  nd := k.nd
  sc := by
    show relS scope X.env.scope = relS scope c.sc
    rw [k.sc]
  fn := fun x h => h
  calm := k.calm
  gd := k.gd
  room := k.room
  lv2 := k.lv2
  tk := takes0
  fac := k.fac
mutual
theorem sT (ix : List Nat) : ∀ (tg : Tg) (e : Expr), ckT c ix tg e = true → Cok CA F t lv c X W → PG X e (gDx X.K ix tg)
  | .n i, e, h, k => by
    cases e with
    | Name x p =>
      simp only [ckT, Bool.and_eq_true, decide_eq_true_eq] at h
      obtain ⟨h1, h2⟩ := loc_ok k h.2
      exact z_gn h.1.1 k.nd (by rw [k.N]; exact h.1.2) h1 h2
    | _ => simp [ckT] at h
  | .t ts, e, h, k => by
    cases e with
    | Tuple es x p =>
      have h : ckTs c ix ts es = true := by simpa only [ckT] using h
      obtain ⟨h1, h2, h3⟩ := sTs ix ts es h k
      exact z_gt k.calm h1 h2 h3
    | _ => simp [ckT] at h
theorem sTs (ix : List Nat) : ∀ (ts : List Tg) (es : List Expr), ckTs c ix ts es = true → Cok CA F t lv c X W → PGs X es (gDxs X.K ix ts) ∧ (assignEach es X.env).length = ts.length ∧ (assignEach es X.env).findIdx? (·.1) = none
  | [], es, h, k => by
    cases es with
    | nil => exact ⟨z_gnil, rfl, rfl⟩
    | cons _ _ => simp [ckTs] at h
  | tg :: ts, es, h, k => by
    cases es with
    | nil => simp [ckTs] at h
    | cons e es =>
      simp only [ckTs, Bool.and_eq_true] at h
      have h1 := sT ix tg e h.1.2 k
      obtain ⟨h2, h3, h4⟩ := sTs ix ts es h.2 k
      have ea : assignEach (e :: es) X.env = (false, assign e X.env) :: assignEach es X.env := by
        cases e <;> first | rfl | exact Bool.noConfusion h.1.1
      refine ⟨z_gcons h1 h2 (by rw [ea]; rfl), by rw [ea, List.length_cons, List.length_cons, h3], ?_⟩
      rw [ea, List.findIdx?_cons, h4]
      rfl
end

theorem and_one {e : Expr} {p : Pos} {f : Den T} (h : PE X e (tD X.K CA W f)) : PE X (.BoolOp .And [e] p) (tD X.K CA W f) := pe_one h
theorem or_one {e : Expr} {p : Pos} {f : Den T} (h : PE X e (tD X.K CA W f)) : PE X (.BoolOp .Or [e] p) (tD X.K CA W f) := pe_one h
theorem meth_ok {d : ME} {o : Expr} {xs : List Expr} {ap cp : Pos} {f : Den T} {g : Den (List D)} (ho : PE X o (tD X.K CA W f)) (ha : PA X xs (tL X.K CA W g)) (hg0 : xs = [] → g = eNil) (hs : noSuper o = true) (hl : (ap.endLine == cp.line) = true) (hp : plainArgs xs = true) (h0 : (men0 d == xs.isEmpty) = true) (hn : xs.length < 29) :
    PE X (.Call (.Attribute o (men d) ap) xs [] cp) (tD X.K CA W (eMeth "list" (meop d) f g)) := by
  cases xs with
  | nil =>
    rw [hg0 rfl]
    cases d with
    | append => exact Bool.noConfusion h0
    | pop => exact pe_imp (pe_bm0 PySem.F.plainAttrs_list PySem.F.slot_list_pop PySem.F.type_list_pop mt_pop ho (base_ok hs) hl) fun σ H Q m => tM0_ok pop_ok m
    | popAt => exact Bool.noConfusion h0
  | cons e es =>
    have hp' : (plainArg e && plainArgs es) = true := hp
    rw [Bool.and_eq_true] at hp'
    have few : ((backTo cp (starEach (e :: es) X.env)).all (fun x => !x.1) && (backToKw cp (keywordEach [] X.env)).all (fun x => x.1.isSome)
      && decide ((e :: es).length + ([] : List Keyword).length + (if ([] : List Keyword).isEmpty then 0 else 1) < 30)) = true := by
      rw [star_len hp]
      show (true && true && decide ((e :: es).length + 0 + 0 < 30)) = true
      rw [decide_eq_true (by omega)]; rfl
    cases d with
    | append => exact pe_imp (pe_bm PySem.F.plainAttrs_list PySem.F.slot_list_append PySem.F.type_list_append mt_append ho ha (base_ok hs) few hl (star_cons hp'.1) (star_plain hp'.2)) fun σ H Q m => tM_ok append_ok m
    | pop => exact Bool.noConfusion h0
    | popAt => exact pe_imp (pe_bm PySem.F.plainAttrs_list PySem.F.slot_list_pop PySem.F.type_list_pop mt_popAt ho ha (base_ok hs) few hl (star_cons hp'.1) (star_plain hp'.2)) fun σ H Q m => tM_ok popAt_ok m
theorem call_ok {f : Nat} {x : Str} {xs : List Expr} {p pos : Pos} {g : Den (List D)} (k : Cok CA F t lv c X W) (hf : (x, f) ∈ t.fns) (hg : glB c.sc x = true) (hd : dbg x = false) (ha : PA X xs (tL X.K CA W g)) (hg0 : xs = [] → g = eNil) (hp : plainArgs xs = true) :
    PE X (.Call (.Name x p) xs [] pos) (tD X.K CA W (eCall (F f) (t.par f).length (t.dfl f) g)) := by
  obtain ⟨a, fd, ds0, h1, h2, h3, h4, h5⟩ := k.fac.fn x f hf
  cases xs with
  | nil => rw [hg0 rfl]; exact z_call0 h5 k.room k.gd (gl_ok k hg) h1 h2 h3 h4 k.tk hd
  | cons e es =>
    have hp' : (plainArg e && plainArgs es) = true := hp
    rw [Bool.and_eq_true] at hp'
    exact z_call h5 k.room k.gd (gl_ok k hg) h1 h2 h3 h4 k.tk ha hd (star_cons hp'.1) (star_plain hp'.2)
theorem bN_ok {b : BN} {x : Str} {e : Expr} {es : List Expr} {p pos : Pos} {g : Den (List D)} (k : Cok CA F t lv c X W) (hx : bNn b = x) (hno : x ∈ t.no) (hg : glB c.sc x = true) (ha : PA X (e :: es) (tL X.K CA W g)) (hp : plainArgs (e :: es) = true) : PE X (.Call (.Name x p) (e :: es) [] pos) (tD X.K CA W (eN (bNop b) g)) := by
  subst hx
  have hp' : (plainArg e && plainArgs es) = true := hp
  rw [Bool.and_eq_true] at hp'
  cases b with
  | max2 => exact pe_imp (pe_callB (call_max2 k.calm) (gl_ok k hg) (k.fac.no _ hno) boot_max' ha (by decide) (by decide) (star_cons hp'.1) (star_plain hp'.2)) fun σ H Q m => tN_ok max2_ok m
theorem new_pos {n : Nat} {x : Str} {e : Expr} {p pos : Pos} {f : Den T} (k : Cok CA F t lv c X W) (hc : (x, n) ∈ t.cls) (hg : glB c.sc x = true) (hd : dbg x = false) (he : PE X e (tD X.K CA W f)) (hp : plainArg e = true) : PE X (.Call (.Name x p) [e] [] pos) (tD X.K CA W (eNew n (t.fld n) f)) := by
  obtain ⟨B, newId, initId, bmB, fI, fd, h1, h2, h3, h4, h5, _, h6⟩ := (k.fac.cl x n hc).ex
  exact pe_imp (pe_mkx h1 h2 h3 h4 (k.room.mono k.lv2) h5 (gl_ok k hg) h6 he hd (star_cons hp)) fun σ H Q m => new_ok m
theorem new_kw {n : Nat} {x : Str} {e : Expr} {p pos kp : Pos} {f : Den T} (k : Cok CA F t lv c X W) (hc : (x, n) ∈ t.cls) (hg : glB c.sc x = true) (hd : dbg x = false) (he : PE X e (tD X.K CA W f)) : PE X (.Call (.Name x p) [] [⟨some (t.kwd n), e, kp⟩] pos) (tD X.K CA W (eNew n (t.fld n) f)) := by
  obtain ⟨B, newId, initId, bmB, fI, fd, h1, h2, h3, h4, _, h5, h6⟩ := (k.fac.cl x n hc).ex
  exact pe_imp (pe_mkxK h1 h2 h3 h4 (k.room.mono k.lv2) h5 (gl_ok k hg) h6 he hd) fun σ H Q m => new_ok m
theorem boot_isi : bootBuiltins "isinstance" = some (.builtin "isinstance") := by decide +kernel
theorem isc_pe {x y : Str} {e : Expr} {p pos pz : Pos} {f : Den T} (k : Cok CA F t lv c X W) (hy : y = "isinstance") (hno : y ∈ t.no) (hg : glB c.sc y = true) (hgx : glB c.sc x = true) (hd : dbg x = false) (hn : x ≠ "__name__") (he : PE X e (tD X.K CA W f)) (hp : plainArg e = true) (hix : x ∈ t.isx) : PE X (.Call (.Name y p) [e, .Name x pz] [] pos) (tD X.K CA W (e1 (oIsc t.isi x) f)) := by
  subst hy
  have go : ∀ {cv : V} {u : Value}, ClsV cv u → PE X (.Name x pz) (tC cv) → (∀ c b, t.isi c x = some b → xisB X.K (CA c) = true ∧ PySem.W.kitOne X.K (.ref (CA c)) u = some b) → PE X (.Call (.Name "isinstance" p) [e, .Name x pz] [] pos) (tD X.K CA W (e1 (oIsc t.isi x) f)) := fun hcv hpe hx =>
    pe_imp (pe_callB call_isiX (gl_ok k hg) (k.fac.no _ hno) boot_isi (pa_cons he (pa_cons hpe pa_nil (star_cons rfl)) (star_cons hp)) (by decide) (by decide) (star_cons hp) (star_plain (es := [.Name x pz]) rfl)) fun σ H Q m => isc_ok hcv hx m
  rcases k.fac.ix x hix with ⟨D, m0⟩ | ⟨T0, m0, v0⟩
  · refine go (ClsV.own D) (pe_glob (gl_ok k hgx) m0 rfl hd) fun c b hb => ⟨(k.fac.is_ c x b hb).1, ?_⟩
    rcases (k.fac.is_ c x b hb).2 with ⟨D', m1, q⟩ | ⟨T1, m1, _⟩
    · rw [m0] at m1; cases m1; exact q
    · rw [m0] at m1; cases m1
  · refine go (ClsV.ty T0) (pe_bltn (gl_ok k hgx) m0 v0 rfl hn hd) fun c b hb => ⟨(k.fac.is_ c x b hb).1, ?_⟩
    rcases (k.fac.is_ c x b hb).2 with ⟨D', m1, q⟩ | ⟨T1, m1, v1, q⟩
    · rw [m0] at m1; cases m1
    · rw [v0] at v1; cases v1; exact q
theorem denL_nil {s : SL} {m : Bool} (h : ckL t c m s [] = true) : denL F t s = eNil := by
  cases s with
  | nil => rfl
  | cons _ _ => simp [ckL] at h
mutual
theorem oE : ∀ (s : SE) (e : Expr) (c : Ck) (X : Cx) (W : WX), ck t c false s e = true → Cok CA F t lv c X W → PE X e (tD X.K CA W (den F t s).1)
  | .var i, e, c, X, W, h, k => by
    cases e with
    | Name x p =>
      simp only [ck, Bool.and_eq_true, Bool.not_eq_true', decide_eq_true_eq] at h
      exact z_var (pe_var (by rw [k.N]; exact h.1.1.1) (vis_ok k h.1.1.2) h.1.2 h.2)
    | _ => exact Bool.noConfusion h
  | .k x, e, c, X, W, h, k => by
    cases e with
    | Constant v j p => exact const_ok (by simpa only [ck] using h)
    | _ => exact Bool.noConfusion h
  | .gk n x, e, c, X, W, h, k => by
    cases e with
    | Name y p =>
      simp only [ck, Bool.and_eq_true, Bool.not_eq_true', decide_eq_true_eq] at h
      obtain ⟨u, v, h1, h2, h3⟩ := k.fac.con y x h.2
      exact z_k (pe_glob (gl_ok k h.1.1.2) h1 h2 h.1.2) fun as H => by unfold RD; exact h3 H
    | _ => exact Bool.noConfusion h
  | .tup es, e, c, X, W, h, k => by
    cases e with
    | Tuple xs j p =>
      simp only [ck, Bool.and_eq_true, decide_eq_true_eq] at h
      exact z_tup (oL es xs c X W h.1 k) fun ρ st ds st' hd => le_line (by rw [denL_len hd]; exact h.2)
    | _ => exact Bool.noConfusion h
  | .lst es, e, c, X, W, h, k => by
    cases e with
    | List xs p =>
      simp only [ck, Bool.and_eq_true, decide_eq_true_eq] at h
      exact z_lst (oL es xs c X W h.1 k) fun ρ st ds st' hd => le_line (by rw [denL_len hd]; exact h.2)
    | _ => exact Bool.noConfusion h
  | .bin o a b, e, c, X, W, h, k => by
    cases e with
    | BinOp x p y q =>
      simp only [ck, Bool.and_eq_true] at h
      exact bop_ok h.1.1 (oE a x c X W h.1.2 k) (oE b y c X W h.2 k)
    | _ => exact Bool.noConfusion h
  | .neg a, e, c, X, W, h, k => by
    cases e with
    | UnaryOp o x p =>
      cases o with
      | USub =>
        have h : ck t c false a x = true := by simpa only [ck] using h
        refine pe_imp (pe_un un_neg (oE a x c X W h k)) fun σ H Q ⟨as, st, ρ, S, E, m⟩ => ⟨as, st, ρ, S, E, eg m fun t st1 _ m1 as1 H1 v P1 S1 r1 f1 => neg_ok W σ as1 st1 H1 t v Q S1 r1 (ER.mono P1 m1)⟩
      | _ => exact Bool.noConfusion h
    | _ => exact Bool.noConfusion h
  | .cmp o a b, e, c, X, W, h, k => by
    cases e with
    | Compare x ps ys q =>
      match ps, ys, h with
      | [p], [y], h =>
        simp only [ck, Bool.and_eq_true] at h
        obtain ⟨r, h1, h2⟩ := cop_ok (CA := CA) k.hu h.1.1.1
        exact z_cmp h1 h2 (oE a x c X W h.1.1.2 k) (oE b y c X W h.1.2 k) (mark_false h.2)
      | [], _, h => exact Bool.noConfusion h
      | [_], [], h => exact Bool.noConfusion h
      | [_], _ :: _ :: _, h => exact Bool.noConfusion h
      | _ :: _ :: _, _, h => exact Bool.noConfusion h
    | _ => exact Bool.noConfusion h
  | .chain o o' a b d, e, c, X, W, h, k => by
    cases e with
    | Compare x ps ys q =>
      match ps, ys, h with
      | [p, p'], [y, z], h =>
        simp only [ck, Bool.and_eq_true] at h
        obtain ⟨r, h1, h2⟩ := cop_ok (CA := CA) k.hu h.1.1.1.1.1
        obtain ⟨r', h3, h4⟩ := cop_ok (CA := CA) k.hu h.1.1.1.1.2
        exact z_chain h1 h3 h2 h4 (oE a x c X W h.1.1.1.2 k) (oE b y c X W h.1.1.2 k) (oE d z c X W h.1.2 k) (last_false h.2)
      | [], _, h => exact Bool.noConfusion h
      | [_], _, h => exact Bool.noConfusion h
      | [_, _], [], h => exact Bool.noConfusion h
      | [_, _], [_], h => exact Bool.noConfusion h
      | [_, _], _ :: _ :: _ :: _, h => exact Bool.noConfusion h
      | _ :: _ :: _ :: _, _, h => exact Bool.noConfusion h
    | _ => exact Bool.noConfusion h
  | .and es, e, c, X, W, h, k => by
    cases e with
    | BoolOp o xs p =>
      cases o with
      | And => exact oAV es xs p c X W (by simpa only [ck] using h) k
      | Or => exact Bool.noConfusion h
    | _ => exact Bool.noConfusion h
  | .or es, e, c, X, W, h, k => by
    cases e with
    | BoolOp o xs p =>
      cases o with
      | Or => exact oOV es xs p c X W (by simpa only [ck] using h) k
      | And => exact Bool.noConfusion h
    | _ => exact Bool.noConfusion h
  | .not a, e, c, X, W, h, k => by
    cases e with
    | UnaryOp o x p =>
      cases o with
      | Not => exact z_notV (oE a x c X W (by simpa only [ck] using h) k)
      | _ => exact Bool.noConfusion h
    | _ => exact Bool.noConfusion h
  | .ite d a b, e, c, X, W, h, k => by
    cases e with
    | IfExp w x y p =>
      simp only [ck, Bool.and_eq_true] at h
      exact z_if (oB d w c X W h.1.1.2 k) (oE a x c X W h.1.2 k) (oE b y c X W h.2 k)
    | _ => exact Bool.noConfusion h
  | .ix a b, e, c, X, W, h, k => by
    cases e with
    | Subscript x y p =>
      simp only [ck, Bool.and_eq_true] at h
      exact z_ix (oE a x c X W h.1.1 k) (oE b y c X W h.1.2 k) (ix_plain h.2)
    | _ => exact Bool.noConfusion h
  | .sl a lo hi, e, c, X, W, h, k => by
    cases e with
    | Subscript x y p =>
      cases y with
      | Slice l u s q =>
        cases s with
        | none =>
          simp only [ck, Bool.and_eq_true] at h
          exact z_sl (oE a x c X W h.1.1 k) (oO lo l c X W h.1.2 k) (oO hi u c X W h.2 k)
        | some _ => exact Bool.noConfusion h
      | _ => exact Bool.noConfusion h
    | _ => exact Bool.noConfusion h
  | .call f es, e, c, X, W, h, k => by
    cases e with
    | Call fe xs kw p =>
      cases fe with
      | Name x q =>
        cases kw with
        | nil =>
          simp only [ck, Bool.and_eq_true, Bool.not_eq_true', decide_eq_true_eq] at h
          exact call_ok k h.1.1.1.1 h.1.1.1.2 h.1.1.2 (oL es xs c X W h.1.2 k) (fun z => by subst z; exact denL_nil h.1.2) h.2
        | cons _ _ => exact Bool.noConfusion h
      | _ => exact Bool.noConfusion h
    | _ => exact Bool.noConfusion h
  | .b1 b a, e, c, X, W, h, k => by
    cases e with
    | Call fe xs kw p =>
      cases fe with
      | Name x q =>
        match xs, kw, h with
        | [y], [], h =>
          simp only [ck, Bool.and_eq_true, decide_eq_true_eq] at h
          exact b1_ok k h.1.1.1.1 h.1.1.1.2 h.1.1.2 (oE a y c X W h.1.2 k) h.2
        | [], _, h => exact Bool.noConfusion h
        | _ :: _ :: _, _, h => exact Bool.noConfusion h
        | [_], _ :: _, h => exact Bool.noConfusion h
      | _ => exact Bool.noConfusion h
    | _ => exact Bool.noConfusion h
  | .bN b es, e, c, X, W, h, k => by
    cases e with
    | Call fe xs kw p =>
      cases fe with
      | Name x q =>
        match xs, kw, h with
        | y :: ys, [], h =>
          simp only [ck, Bool.and_eq_true, decide_eq_true_eq] at h
          exact bN_ok k h.1.1.1.1 h.1.1.1.2 h.1.1.2 (oL es (y :: ys) c X W h.1.2 k) h.2
        | [], _, h => exact Bool.noConfusion h
        | _ :: _, _ :: _, h => exact Bool.noConfusion h
      | _ => exact Bool.noConfusion h
    | _ => exact Bool.noConfusion h
  | .meth d a es, e, c, X, W, h, k => by
    cases e with
    | Call fe xs kw p =>
      cases fe with
      | Attribute o n ap =>
        cases kw with
        | nil =>
          simp only [ck, Bool.and_eq_true, decide_eq_true_eq] at h
          have hn := h.1.1.1.1.1.1.1
          subst hn
          exact meth_ok (oE a o c X W h.1.1.1.1.1.1.2 k) (oL es xs c X W h.1.1.1.2 k) (fun z => by subst z; exact denL_nil h.1.1.1.2) h.1.1.1.1.1.2 h.1.1.1.1.2 h.1.1.2 h.1.2 h.2
        | cons _ _ => exact Bool.noConfusion h
      | _ => exact Bool.noConfusion h
    | _ => exact Bool.noConfusion h
  | .new kw n a, e, c, X, W, h, k => by
    simp only [ck] at h
    split at h
    · simp only [Bool.and_eq_true, Bool.not_eq_true', decide_eq_true_eq] at h
      exact new_pos k h.1.1.1.1.2 h.1.1.1.2 h.1.1.2 (oE a _ c X W h.1.2 k) h.2
    · simp only [Bool.and_eq_true, Bool.not_eq_true', decide_eq_true_eq] at h
      obtain ⟨⟨⟨⟨⟨_, h1⟩, h2⟩, h3⟩, h4⟩, h5⟩ := h
      subst h2
      exact new_kw k h1 h3 h4 (oE a _ c X W h5 k)
    · cases h
  | .attr a f, e, c, X, W, h, k => by
    cases e with
    | Attribute o n p =>
      simp only [ck, Bool.and_eq_true, Bool.not_eq_true', decide_eq_true_eq] at h
      obtain ⟨⟨⟨h1, h2⟩, h3⟩, h4⟩ := h
      subst h1
      exact pe_imp (pe_xat (oE a o c X W h2 k) (base_ok h3)) fun σ H Q m => attr_ok (k.fac.at_ fun z => by rw [z] at h4; cases h4) m
    | _ => exact Bool.noConfusion h
  | .isc a x, e, c, X, W, h, k => by
    simp only [ck] at h
    split at h
    · simp only [Bool.and_eq_true, Bool.not_eq_true', decide_eq_true_eq] at h
      obtain ⟨⟨⟨⟨⟨⟨⟨⟨⟨h1, h2⟩, h3⟩, h4⟩, h5⟩, h6⟩, h7⟩, h8⟩, h9⟩, h10⟩ := h
      subst h2
      exact isc_pe k h1 h3 h4 h5 h6 h7 (oE a _ c X W h8 k) h9 h10
    · cases h
  | .lc elt tg it d own, e, c, X, W, h, k => by
    cases e with
    | ListComp el gs scope p =>
      match gs, h with
      | [⟨g, i, ifs, 0⟩], h =>
        simp only [ck, Bool.and_eq_true] at h
        exact z_lc k.calm k.nd (oI it g i c X W h.1.1.1.1.1 k) (blkOk_by (by rw [k.N, k.sc]; exact h.1.1.1.2))
          (fun s H C cl fp => sT _ tg g h.1.1.2 (k.blk scope s H C cl fp)) (fun s H C cl fp => oC d ifs _ _ W0 h.1.2 (k.blk scope s H C cl fp)) (fun s H C cl fp => oE elt el _ _ W0 h.2 (k.blk scope s H C cl fp)) (fold_ok h.1.1.1.1.2)
      | [], h => exact Bool.noConfusion h
      | _ :: _ :: _, h => simp [ck] at h
      | [⟨g, i, ifs, .ofNat (n + 1)⟩], h => rw [ck.eq_def] at h; exact Bool.noConfusion h
      | [⟨g, i, ifs, .negSucc n⟩], h => exact Bool.noConfusion h
    | _ => exact Bool.noConfusion h
termination_by s => (sizeOf s, 0)
theorem oB : ∀ (s : SE) (e : Expr) (c : Ck) (X : Cx) (W : WX), ck t c true s e = true → Cok CA F t lv c X W → PT X e (tB X.K CA W (den F t s).2)
  | .and es, e, c, X, W, h, k => by
    cases e with
    | BoolOp o xs p =>
      cases o with
      | And => exact (oAB es xs p c X W (by simpa only [ck] using h) k).pt
      | Or => exact Bool.noConfusion h
    | _ => exact Bool.noConfusion h
  | .or es, e, c, X, W, h, k => by
    cases e with
    | BoolOp o xs p =>
      cases o with
      | Or => exact (oOB es xs p c X W (by simpa only [ck] using h) k).pt
      | And => exact Bool.noConfusion h
    | _ => exact Bool.noConfusion h
  | .not a, e, c, X, W, h, k => by
    cases e with
    | UnaryOp o x p =>
      cases o with
      | Not => exact z_not (oB a x c X W (by simpa only [ck] using h) k)
      | _ => exact Bool.noConfusion h
    | _ => exact Bool.noConfusion h
  | .cmp o a b, e, c, X, W, h, k => by
    cases e with
    | Compare x ps ys q =>
      match ps, ys, h with
      | [p], [y], h =>
        simp only [ck, Bool.and_eq_true] at h
        obtain ⟨r, h1, h2⟩ := cop_ok (CA := CA) k.hu h.1.1.1
        exact z_cmpB h1 h2 (oE a x c X W h.1.1.2 k) (oE b y c X W h.1.2 k) (mark_false h.2)
      | [], _, h => exact Bool.noConfusion h
      | [_], [], h => exact Bool.noConfusion h
      | [_], _ :: _ :: _, h => exact Bool.noConfusion h
      | _ :: _ :: _, _, h => exact Bool.noConfusion h
    | _ => exact Bool.noConfusion h
  | .chain o o' a b d, e, c, X, W, h, k => by
    cases e with
    | Compare x ps ys q =>
      match ps, ys, h with
      | [p, p'], [y, z], h =>
        simp only [ck, Bool.and_eq_true] at h
        obtain ⟨r, h1, h2⟩ := cop_ok (CA := CA) k.hu h.1.1.1.1.1
        obtain ⟨r', h3, h4⟩ := cop_ok (CA := CA) k.hu h.1.1.1.1.2
        exact z_chainB h1 h3 h2 h4 (oE a x c X W h.1.1.1.2 k) (oE b y c X W h.1.1.2 k) (oE d z c X W h.1.2 k) (last_false h.2)
      | [], _, h => exact Bool.noConfusion h
      | [_], _, h => exact Bool.noConfusion h
      | [_, _], [], h => exact Bool.noConfusion h
      | [_, _], [_], h => exact Bool.noConfusion h
      | [_, _], _ :: _ :: _ :: _, h => exact Bool.noConfusion h
      | _ :: _ :: _ :: _, _, h => exact Bool.noConfusion h
    | _ => exact Bool.noConfusion h
  | .ite d a b, e, c, X, W, h, k => by
    cases e with
    | IfExp w x y p => exact Bool.noConfusion h
    | _ => exact Bool.noConfusion h
  | .var i, e, c, X, W, h, k => z_tru (oE (.var i) e c X W h k) (test_ok (by cases e <;> first | rfl | exact Bool.noConfusion h))
  | .k i, e, c, X, W, h, k => z_tru (oE (.k i) e c X W h k) (test_ok (by cases e <;> first | rfl | exact Bool.noConfusion h))
  | .gk n i, e, c, X, W, h, k => z_tru (oE (.gk n i) e c X W h k) (test_ok (by cases e <;> first | rfl | exact Bool.noConfusion h))
  | .tup i, e, c, X, W, h, k => z_tru (oE (.tup i) e c X W h k) (test_ok (by cases e <;> first | rfl | exact Bool.noConfusion h))
  | .lst i, e, c, X, W, h, k => z_tru (oE (.lst i) e c X W h k) (test_ok (by cases e <;> first | rfl | exact Bool.noConfusion h))
  | .bin o a b, e, c, X, W, h, k => z_tru (oE (.bin o a b) e c X W h k) (test_ok (by cases e <;> first | rfl | exact Bool.noConfusion h))
  | .neg a, e, c, X, W, h, k => z_tru (oE (.neg a) e c X W h k) (test_ok (by
      cases e with
      | UnaryOp o x p => cases o <;> first | rfl | exact Bool.noConfusion h
      | _ => first | rfl | exact Bool.noConfusion h))
  | .ix a b, e, c, X, W, h, k => z_tru (oE (.ix a b) e c X W h k) (test_ok (by cases e <;> first | rfl | exact Bool.noConfusion h))
  | .sl a l u, e, c, X, W, h, k => z_tru (oE (.sl a l u) e c X W h k) (test_ok (by cases e <;> first | rfl | exact Bool.noConfusion h))
  | .call f es, e, c, X, W, h, k => z_tru (oE (.call f es) e c X W h k) (test_ok (by cases e <;> first | rfl | exact Bool.noConfusion h))
  | .b1 b a, e, c, X, W, h, k => z_tru (oE (.b1 b a) e c X W h k) (test_ok (by cases e <;> first | rfl | exact Bool.noConfusion h))
  | .bN b a, e, c, X, W, h, k => z_tru (oE (.bN b a) e c X W h k) (test_ok (by cases e <;> first | rfl | exact Bool.noConfusion h))
  | .meth d a es, e, c, X, W, h, k => z_tru (oE (.meth d a es) e c X W h k) (test_ok (by cases e <;> first | rfl | exact Bool.noConfusion h))
  | .new kw n a, e, c, X, W, h, k => z_tru (oE (.new kw n a) e c X W h k) (test_ok (by cases e <;> first | rfl | exact Bool.noConfusion h))
  | .attr a f, e, c, X, W, h, k => z_tru (oE (.attr a f) e c X W h k) (test_ok (by cases e <;> first | rfl | exact Bool.noConfusion h))
  | .isc a x, e, c, X, W, h, k => z_tru (oE (.isc a x) e c X W h k) (test_ok (by cases e <;> first | rfl | exact Bool.noConfusion h))
  | .lc elt tg it d own, e, c, X, W, h, k => z_tru (oE (.lc elt tg it d own) e c X W h k) (test_ok (by cases e <;> first | rfl | exact Bool.noConfusion h))
termination_by s => (sizeOf s, 1)
theorem oAV : ∀ (s : SL) (es : List Expr) (p : Pos) (c : Ck) (X : Cx) (W : WX), ckL t c false s es = true → Cok CA F t lv c X W → PE X (.BoolOp .And es p) (tD X.K CA W (denAV F t s))
  | .nil, es, p, c, X, W, h, k => ⟨fun _ _ _ _ _ _ ⟨_, _, _, _, _, m⟩ => m.elim⟩
  | .cons s .nil, es, p, c, X, W, h, k => by
    match es, h with
    | [], h => simp [ckL] at h
    | [e], h =>
      simp only [ckL, Bool.and_eq_true] at h
      exact and_one (oE s e c X W h.1.2 k)
    | _ :: _ :: _, h => simp [ckL] at h
  | .cons s (.cons s' r), es, p, c, X, W, h, k => by
    match es, h with
    | [], h => simp [ckL] at h
    | [e], h => simp [ckL] at h
    | e :: e' :: es, h =>
      have h2 : (plainArg e = true ∧ ck t c false s e = true) ∧ ckL t c false (.cons s' r) (e' :: es) = true := by
        rw [ckL, Bool.and_eq_true, Bool.and_eq_true] at h; exact h
      exact z_andV (oE s e c X W h2.1.2 k) (oAV (.cons s' r) (e' :: es) p c X W h2.2 k)
termination_by s => (sizeOf s, 0)
theorem oOV : ∀ (s : SL) (es : List Expr) (p : Pos) (c : Ck) (X : Cx) (W : WX), ckL t c false s es = true → Cok CA F t lv c X W → PE X (.BoolOp .Or es p) (tD X.K CA W (denOV F t s))
  | .nil, es, p, c, X, W, h, k => ⟨fun _ _ _ _ _ _ ⟨_, _, _, _, _, m⟩ => m.elim⟩
  | .cons s .nil, es, p, c, X, W, h, k => by
    match es, h with
    | [], h => simp [ckL] at h
    | [e], h =>
      simp only [ckL, Bool.and_eq_true] at h
      exact or_one (oE s e c X W h.1.2 k)
    | _ :: _ :: _, h => simp [ckL] at h
  | .cons s (.cons s' r), es, p, c, X, W, h, k => by
    match es, h with
    | [], h => simp [ckL] at h
    | [e], h => simp [ckL] at h
    | e :: e' :: es, h =>
      have h2 : (plainArg e = true ∧ ck t c false s e = true) ∧ ckL t c false (.cons s' r) (e' :: es) = true := by
        rw [ckL, Bool.and_eq_true, Bool.and_eq_true] at h; exact h
      exact z_orV (oE s e c X W h2.1.2 k) (oOV (.cons s' r) (e' :: es) p c X W h2.2 k)
termination_by s => (sizeOf s, 0)
theorem oAB : ∀ (s : SL) (es : List Expr) (p : Pos) (c : Ck) (X : Cx) (W : WX), ckL t c true s es = true → Cok CA F t lv c X W → PW X (.BoolOp .And es p) (tB X.K CA W (denAB F t s))
  | .nil, es, p, c, X, W, h, k => ⟨fun _ _ _ _ _ _ _ ⟨_, _, _, _, _, m⟩ => m.elim⟩
  | .cons s .nil, es, p, c, X, W, h, k => by
    match es, h with
    | [], h => simp [ckL] at h
    | [e], h =>
      simp only [ckL, Bool.and_eq_true] at h
      exact pw_and1 (oB s e c X W h.1.2 k)
    | _ :: _ :: _, h => simp [ckL] at h
  | .cons s (.cons s' r), es, p, c, X, W, h, k => by
    match es, h with
    | [], h => simp [ckL] at h
    | [e], h => simp [ckL] at h
    | e :: e' :: es, h =>
      have h2 : (plainArg e = true ∧ ck t c true s e = true) ∧ ckL t c true (.cons s' r) (e' :: es) = true := by
        rw [ckL, Bool.and_eq_true, Bool.and_eq_true] at h; exact h
      exact z_and (oB s e c X W h2.1.2 k) (oAB (.cons s' r) (e' :: es) p c X W h2.2 k)
termination_by s => (sizeOf s, 0)
theorem oOB : ∀ (s : SL) (es : List Expr) (p : Pos) (c : Ck) (X : Cx) (W : WX), ckL t c true s es = true → Cok CA F t lv c X W → PW X (.BoolOp .Or es p) (tB X.K CA W (denOB F t s))
  | .nil, es, p, c, X, W, h, k => ⟨fun _ _ _ _ _ _ _ ⟨_, _, _, _, _, m⟩ => m.elim⟩
  | .cons s .nil, es, p, c, X, W, h, k => by
    match es, h with
    | [], h => simp [ckL] at h
    | [e], h =>
      simp only [ckL, Bool.and_eq_true] at h
      exact pw_or1 (oB s e c X W h.1.2 k)
    | _ :: _ :: _, h => simp [ckL] at h
  | .cons s (.cons s' r), es, p, c, X, W, h, k => by
    match es, h with
    | [], h => simp [ckL] at h
    | [e], h => simp [ckL] at h
    | e :: e' :: es, h =>
      have h2 : (plainArg e = true ∧ ck t c true s e = true) ∧ ckL t c true (.cons s' r) (e' :: es) = true := by
        rw [ckL, Bool.and_eq_true, Bool.and_eq_true] at h; exact h
      exact z_or (oB s e c X W h2.1.2 k) (oOB (.cons s' r) (e' :: es) p c X W h2.2 k)
termination_by s => (sizeOf s, 0)
theorem oL : ∀ (s : SL) (es : List Expr) (c : Ck) (X : Cx) (W : WX), ckL t c false s es = true → Cok CA F t lv c X W → PA X es (tL X.K CA W (denL F t s))
  | .nil, es, c, X, W, h, k => by
    cases es with
    | nil => exact z_nil
    | cons _ _ => simp [ckL] at h
  | .cons s r, es, c, X, W, h, k => by
    cases es with
    | nil => simp [ckL] at h
    | cons e es =>
      simp only [ckL, Bool.and_eq_true] at h
      exact z_cons (oE s e c X W h.1.2 k) (oL r es c X W h.2 k) (star_cons h.1.1)
termination_by s => (sizeOf s, 0)
theorem oO : ∀ (s : SO) (e : Option Expr) (c : Ck) (X : Cx) (W : WX), ckO t c s e = true → Cok CA F t lv c X W → PO X e (tO X.K CA W (denO F t s))
  | .no, e, c, X, W, h, k => by
    cases e with
    | none => exact z_no
    | some _ => simp [ckO] at h
  | .yes s, e, c, X, W, h, k => by
    cases e with
    | none => simp [ckO] at h
    | some e => exact z_bd (oE s e c X W (by simpa only [ckO] using h) k)
termination_by s => (sizeOf s, 0)
theorem oC : ∀ (s : SO) (e : List Expr) (c : Ck) (X : Cx) (W : WX), ckC t c s e = true → Cok CA F t lv c X W → PTs X e (tB X.K CA W (denC F t s))
  | .no, e, c, X, W, h, k => by
    cases e with
    | nil => exact z_tnil
    | cons _ _ => simp [ckC] at h
  | .yes s, e, c, X, W, h, k => by
    match e, h with
    | [], h => simp [ckC] at h
    | [e], h => exact z_tone (oB s e c X W (by simpa only [ckC] using h) k)
    | _ :: _ :: _, h => simp [ckC] at h
termination_by s => (sizeOf s, 0)
theorem oI : ∀ (s : IT) (tg e : Expr) (c : Ck) (X : Cx) (W : WX), ckI t c s tg e = true → Cok CA F t lv c X W → PI X tg e (tI X.K CA W (denI F t s))
  | .of s, tg, e, c, X, W, h, k => z_iter (oE s e c X W (by simpa only [ckI] using h) k)
  | .rng es, tg, e, c, X, W, h, k => by
    cases e with
    | Call fe xs kw p =>
      cases fe with
      | Name x q =>
        cases kw with
        | nil =>
          simp only [ckI, Bool.and_eq_true, Bool.or_eq_true, decide_eq_true_eq, beq_iff_eq] at h
          obtain ⟨⟨⟨⟨⟨hx, hno⟩, hg⟩, hl⟩, hp⟩, hn⟩ := h
          subst hx
          have hL := oL es xs c X W hl k
          have hlen : ∀ ρ st ds st', denL F t es ρ st = .ok ds st' → ds.length = xs.length := fun ρ st ds st' hd => by rw [denL_len hd, ckL_len hl]
          match xs, hn, hp, hL, hlen with
          | [a], _, hp, hL, hlen =>
            have hp' : (plainArg a && plainArgs []) = true := hp
            rw [Bool.and_eq_true] at hp'
            exact z_rng1 (gl_ok k hg) (k.fac.no _ hno) hL (star_cons hp'.1) hlen
          | [a, b], _, hp, hL, hlen =>
            have hp' : (plainArg a && (plainArg b && plainArgs [])) = true := hp
            rw [Bool.and_eq_true, Bool.and_eq_true] at hp'
            exact z_rng2 (gl_ok k hg) (k.fac.no _ hno) hL (by rw [star_cons hp'.1, star_cons hp'.2.1]; rfl) (star_cons hp'.2.1) hlen
          | [], hn, _, _, _ => simp at hn
          | _ :: _ :: _ :: _, hn, _, _, _ => simp at hn
        | cons _ _ => simp [ckI] at h
      | _ => simp [ckI] at h
    | _ => simp [ckI] at h
  | .en s, tg, e, c, X, W, h, k => by
    cases e with
    | Call fe xs kw p =>
      cases fe with
      | Name x q =>
        cases tg with
        | Tuple elts kk tp =>
          match xs, kw, h with
          | [a], [], h =>
            simp only [ckI, Bool.and_eq_true, decide_eq_true_eq] at h
            obtain ⟨⟨⟨⟨hx, hno⟩, hg⟩, hl⟩, hp⟩ := h
            subst hx
            exact z_enum (gl_ok k hg) (k.fac.no _ hno) (oE s a c X W hl k) (star_cons hp)
          | [], _, h => simp [ckI] at h
          | _ :: _ :: _, _, h => simp [ckI] at h
          | [_], _ :: _, h => simp [ckI] at h
        | _ => simp [ckI] at h
      | _ => cases tg <;> simp [ckI] at h
    | _ => cases tg <;> simp [ckI] at h
termination_by s => (sizeOf s, 0)
end
end
end Z
set_option Elab.async false
set_option linter.all false
set_option maxRecDepth 100000
set_option maxHeartbeats 4000000
/-! Z, part M: statements and defs of the small syntax. -/
namespace Z
open PySem PySem.Spec PyProof.Rows L2
def allIx (c : Ck) : List Nat := List.range c.N.length
def isLocal (sc : Scope) (x : Str) : Bool := match sc.names.lookup x with
  | some .local => true
  | _ => false
def isCell (sc : Scope) (x : Str) : Bool := match sc.names.lookup x with
  | some .cell => true
  | _ => false
def starred : Expr → Bool
  | .Starred .. => true
  | _ => false
def parOk (x y : Str) (px py : Pos) (u v : Expr) : Bool := !(x == y) && py.line == px.line && plainArg u && plainArg v && !(foldedForSure 8 u && foldedForSure 8 v) && !(constantsAlone 8 u && constantsAlone 8 v)
def parOk3 (x y z : Str) (px py pz : Pos) (u v w : Expr) : Bool := !(x == y) && !(x == z) && !(y == z) && py.line == px.line && pz.line == px.line && plainArg u && plainArg v && plainArg w && !(foldedForSure 8 u && (foldedForSure 8 v && foldedForSure 8 w)) && !(constantsAlone 8 u && (constantsAlone 8 v && constantsAlone 8 w))
def nmB (sc : Scope) (y : Str) (py : Pos) (x : Expr) : Bool := notComp x || isCell sc y || (match x with
  | .ListComp _ _ scope q => isLocal sc y && (py.line == q.line) && !(scope.names.any fun (n, k) => n == y && (k == .local || k == .cell))
  | _ => false)
def patB : List Str → Pattern → Bool
  | [y], .MatchValue (.Constant (.str z) _ _) _ => y == z
  | ys, .MatchOr ps _ => patsB ys ps
  | _, _ => false
where
  patsB : List Str → List Pattern → Bool
    | [], [] => true
    | y :: ys, .MatchValue (.Constant (.str z) _ _) _ :: ps => y == z && patsB ys ps
    | _, _ => false
theorem patsB_ok : ∀ {ys : List Str} {ps : List Pattern}, patB.patsB ys ps = true → Paired (fun (p : Pattern) (y : Str) => ∃ k a b, p = Pattern.MatchValue (.Constant (.str y) k a) b) ps ys
  | [], [], _ => .nil
  | [], _ :: _, h => by simp [patB.patsB] at h
  | _ :: _, [], h => by simp [patB.patsB] at h
  | y :: ys, p :: ps, h => by
    unfold patB.patsB at h
    split at h
    · rename_i heq1 heq2; cases heq1
    · rename_i y' ys' z k a b ps' heq1 heq2
      cases heq1; cases heq2
      rw [Bool.and_eq_true, beq_iff_eq] at h
      obtain ⟨h1, h2⟩ := h
      subst h1
      exact .cons ⟨_, _, _, rfl⟩ (patsB_ok h2)
    · cases h
theorem patB_ok {ys : List Str} {p : Pattern} (h : patB ys p = true) : PatOf p ys := by
  unfold patB at h
  split at h
  · cases beq_iff_eq.mp h; exact .one
  · exact .more (patsB_ok h)
  · cases h
section
variable (t : Tab)
mutual
def ckS (c : Ck) : SS → Stmt → Bool
  | .ret s => fun e => match e with
    | .Return (some x) _ => ck t c false s x
    | _ => false
  | .retN => fun e => match e with
    | .Return none _ => true
    | _ => false
  | .exp s => fun e => match e with
    | .Expr x _ => notComp x && ck t c false s x
    | _ => false
  | .asg tg s => fun e => match e with
    | .Assign [g] x p => (match tg with
        | .n i => (match g with
          | .Name y py => decide (c.N[i]? = some y) && locB c y && nmB c.sc y py x
          | _ => false)
        | .t ts => (match g with
          | .Tuple _ _ _ => ckT c (allIx c) (.t ts) g && notTup x
          | _ => false)) && ck t c false s x
    | _ => false
  | .par i j a b => fun e => match e with
    | .Assign [.Tuple [.Name x px, .Name y py] _ _] (.Tuple [u, v] _ _) _ => decide (c.N[i]? = some x) && decide (c.N[j]? = some y) && decide (i ≠ j) && isLocal c.sc x && isLocal c.sc y && parOk x y px py u v && ck t c false a u && ck t c false b v
    | _ => false
  | .par3 i j l a b d => fun e => match e with
    | .Assign [.Tuple [.Name x px, .Name y py, .Name z pz] _ _] (.Tuple [u, v, w] _ _) _ => decide (c.N[i]? = some x) && decide (c.N[j]? = some y) && decide (c.N[l]? = some z) && decide (i ≠ j) && decide (i ≠ l) && decide (j ≠ l) && isLocal c.sc x && isLocal c.sc y && isLocal c.sc z && parOk3 x y z px py pz u v w && ck t c false a u && ck t c false b v && ck t c false d w
    | _ => false
  | .sub o i s => fun e => match e with
    | .Assign [.Subscript x y _] v _ => ck t c false o x && ck t c false i y && ck t c false s v && notSlice y
    | _ => false
  | .ite s a b => fun e => match e with
    | .If x u v _ => ck t c true s x && ckSs c a u && ckSs c b v
    | _ => false
  | .for_ tg it b => fun e => match e with
    | .For g i u [] _ => ckT c (allIx c) tg g && ckI t c it g i && notSet i && ckSs c b u
    | _ => false
  | .mat s m => fun e => match e with
    | .Match x cs _ => ck t c false s x && ckM c m cs
    | _ => false
  | .pass => fun e => match e with
    | .Pass _ => true
    | _ => false
  | .brk => fun e => match e with
    | .Break _ => true
    | _ => false
  | .cont => fun e => match e with
    | .Continue _ => true
    | _ => false
def ckSs (c : Ck) : SB → List Stmt → Bool
  | .nil => fun es => es.isEmpty
  | .cons s r => fun es => match es with
    | e :: es => ckS c s e && ckSs c r es
    | [] => false
def ckM (c : Ck) : SC → List MatchCase → Bool
  | .nil => fun es => es.isEmpty
  | .case ys b r => fun es => match es with
    | ⟨p, none, u⟩ :: es => patB ys p && ckSs c b u && ckM c r es
    | _ => false
  | .els b => fun es => match es with
    | ⟨.MatchAs none none _, none, u⟩ :: _ => ckSs c b u
    | _ => false
end
end
section
variable {CA : Nat → Addr} {F : Nat → List D → Store → R T} {t : Tab} {lv : Nat} {c : Ck} {X : Cx} {W : WX}
theorem allIx_mem {i : Nat} {x : Str} (h : c.N[i]? = some x) : i ∈ allIx c := List.mem_range.mpr (List.getElem?_eq_some_iff.mp h).1
theorem sw_cell {x : Expr} {y : Str} {py : Pos} {l : Nat} {env : PySem.Env} (h : env.scope.names.lookup y = some .cell) : swapsWith x (some (.Name y py)) l env = pure false := by
  have ky : env.kindOf y = some .cell := h
  have kk : (NameKind.cell == NameKind.local) = false := by decide
  cases x <;> first | rfl | (unfold swapsWith; simp [ky, kk])
theorem sub_false {x o i : Expr} {p : Pos} {l : Nat} {env : PySem.Env} : swapsWith x (some (.Subscript o i p)) l env = pure false := by
  cases x <;> rfl
theorem tup_false {x : Expr} {ts : List Expr} {k : Nat} {p : Pos} {l : Nat} {env : PySem.Env} : swapsWith x (some (.Tuple ts k p)) l env = pure false := by
  cases x <;> rfl
theorem assign_sub {o i : Expr} {tpos : Pos} {env : PySem.Env} (h : notSlice i = true) : ∀ v, assign (.Subscript o i tpos) env v = (do
      let ov ← holding [v] (eval o env)
      let iv ← holding [v, ov] (eval i env)
      standAt tpos
      holding [v, ov, iv] (setItem ov iv v)
      release [v, ov, iv] []) := by
  intro v
  cases i <;> first | rfl | exact Bool.noConfusion h
theorem local_ok {sc : Scope} {x : Str} (h : isLocal sc x = true) : sc.names.lookup x = some .local := by
  unfold isLocal at h; split at h
  · assumption
  · cases h
theorem cell_ok {sc : Scope} {x : Str} (h : isCell sc x = true) : sc.names.lookup x = some .cell := by
  unfold isCell at h; split at h
  · assumption
  · cases h
theorem any2_false {u v : Expr} {f : Expr → Bool} (hu : f u = false) (hv : f v = false) : [u, v].any f = false := by
  rw [List.any_cons, List.any_cons, List.any_nil, hu, hv]; rfl
theorem swaps_par {x y : Str} {px py pt : Pos} {kt k2 : Nat} {p2 : Pos} {u v : Expr} {env : PySem.Env} (hk : env.scope.kind = .function) (hx : env.scope.names.lookup x = some .local) (hy : env.scope.names.lookup y = some .local) (h : parOk x y px py u v = true) :
    swappedStores [.Tuple [.Name x px, .Name y py] kt pt] (.Tuple [u, v] k2 p2) env = pure (some [x, y]) := by
  unfold parOk at h
  simp only [Bool.and_eq_true, Bool.not_eq_true'] at h
  obtain ⟨⟨⟨⟨⟨h1, h2⟩, h3⟩, h4⟩, h5⟩, h6⟩ := h
  have kx : env.kindOf x = some .local := hx
  have ky : env.kindOf y = some .local := hy
  have hb : env.blockKind = .function := by unfold Env.blockKind; rw [hk]; rfl
  have e2 : py.line = px.line := beq_iff_eq.mp h2
  have hne : (x == y) = false := h1
  have hne2 : (y == x) = false := by
    rw [beq_eq_false_iff_ne] at hne ⊢
    exact fun e => hne e.symm
  unfold swappedStores
  refine (if_neg (by rw [hb]; simp)).trans ?_
  refine (if_neg (by rw [any2_false (by cases u <;> first | rfl | exact Bool.noConfusion h3) (by cases v <;> first | rfl | exact Bool.noConfusion h4)]; decide)).trans ?_
  simp only [List.all_cons, List.all_nil, Bool.and_true, h5, h6, kx, ky, e2, Expr.pos, List.length_cons, List.length_nil, List.head?, List.filterMap_cons, List.filterMap_nil, Option.map, Option.getD]
  simp [List.eraseDups, List.eraseDupsBy, List.eraseDupsBy.loop, hne, hne2, hb, e2]
theorem any3_false {u v w : Expr} {f : Expr → Bool} (hu : f u = false) (hv : f v = false) (hw : f w = false) : [u, v, w].any f = false := by
  rw [List.any_cons, List.any_cons, List.any_cons, List.any_nil, hu, hv, hw]; rfl
theorem swaps_par3 {x y z : Str} {px py pz pt : Pos} {kt k2 : Nat} {p2 : Pos} {u v w : Expr} {env : PySem.Env} (hk : env.scope.kind = .function) (hx : env.scope.names.lookup x = some .local) (hy : env.scope.names.lookup y = some .local) (hz : env.scope.names.lookup z = some .local) (h : parOk3 x y z px py pz u v w = true) :
    swappedStores [.Tuple [.Name x px, .Name y py, .Name z pz] kt pt] (.Tuple [u, v, w] k2 p2) env = pure (some [x, y, z]) := by
  unfold parOk3 at h
  simp only [Bool.and_eq_true, Bool.not_eq_true'] at h
  obtain ⟨⟨⟨⟨⟨⟨⟨⟨⟨a1, a2⟩, a3⟩, b1⟩, b2⟩, h3⟩, h4⟩, h4'⟩, h5⟩, h6⟩ := h
  have kx : env.kindOf x = some .local := hx
  have ky : env.kindOf y = some .local := hy
  have kz : env.kindOf z = some .local := hz
  have hb : env.blockKind = .function := by unfold Env.blockKind; rw [hk]; rfl
  have e2 : py.line = px.line := beq_iff_eq.mp b1
  have e3 : pz.line = px.line := beq_iff_eq.mp b2
  have flip : ∀ {a b : Str}, (a == b) = false → (b == a) = false := fun {a b} q => by
    rw [beq_eq_false_iff_ne] at q ⊢
    exact fun e => q e.symm
  have c1 := flip a1
  have c2 := flip a2
  have c3 := flip a3
  unfold swappedStores
  refine (if_neg (by rw [hb]; simp)).trans ?_
  refine (if_neg (by rw [any3_false (by cases u <;> first | rfl | exact Bool.noConfusion h3) (by cases v <;> first | rfl | exact Bool.noConfusion h4) (by cases w <;> first | rfl | exact Bool.noConfusion h4')]; decide)).trans ?_
  simp only [List.all_cons, List.all_nil, Bool.and_true, h5, h6, kx, ky, kz, e2, e3, Expr.pos, List.length_cons, List.length_nil, List.head?, List.filterMap_cons, List.filterMap_nil, Option.map, Option.getD]
  simp [List.eraseDups, List.eraseDupsBy, List.eraseDupsBy.loop, a1, a2, a3, c1, c2, c3, hb, e2, e3]
end
end Z
set_option Elab.async false
set_option linter.all false
set_option maxRecDepth 100000
set_option maxHeartbeats 4000000
/-! Z, part N: statements of the small syntax mean what it says. -/
namespace Z
open PySem PySem.Spec PyProof.Rows L2
/-- of a def: failures leave as own ones -/
abbrev Own (X : Cx) : Prop := PassesOwn (model X.prog X.w) X.A X.env X.xe
section
variable {CA : Nat → Addr} {F : Nat → List D → Store → R T} {t : Tab} {lv : Nat}
theorem local_sw {X : Cx} {el : Expr} {gs : List Comprehension} {scope : Scope} {p : Pos} {y : Str} {py : Pos} {l : Nat} (hk : X.env.scope.kind = .function) (hy : X.env.scope.names.lookup y = some .local) (hl : (py.line == p.line) = true) (hn : (!(scope.names.any fun (n, k) => n == y && (k == .local || k == .cell))) = true) :
    swapsWith (.ListComp el gs scope p) (some (.Name y py)) l X.env = pure true := by
  have ky : X.env.kindOf y = some .local := hy
  have hb : X.env.blockKind = .function := by unfold Env.blockKind; rw [hk]; rfl
  show (pure (X.env.blockKind == .function && X.env.kindOf y == some .local && py.line == p.line && !(scope.names.any fun (n, k) => n == y && (k == .local || k == .cell))) : Sem Bool) = pure true
  rw [hn, hl, hb, ky]
  rfl
theorem stored_none {g x : Expr} {ts : List Expr} {k : Nat} {p : Pos} {env : PySem.Env} (h : notTup x = true) : swappedStores [.Tuple ts k p] x env = pure none := by
  cases x <;> first | rfl | exact Bool.noConfusion h
theorem assignName {c : Ck} {X : Cx} {W : WX} (k : Cok CA F t lv c X W) (hf : X.env.scope.kind = .function) {i : Nat} {y : Str} {py pos : Pos} {s : SE} {x : Expr} (hi : c.N[i]? = some y) (hl : locB c y = true)
    (hs : nmB c.sc y py x = true) (hc : ck t c false s x = true) : PS X (.Assign [.Name y py] x pos) (tS X.K CA W (sAsg (.n i) (denE F t s))) := by
  obtain ⟨l1, l2⟩ := loc_ok k hl
  by_cases h1 : notComp x = true
  · exact z_set k.nd (by rw [k.N]; exact hi) l1 (oE s x c X W hc k) (sw_false h1) l2
  · by_cases h2 : isCell c.sc y = true
    · exact z_set k.nd (by rw [k.N]; exact hi) l1 (oE s x c X W hc k) (sw_cell (by rw [k.sc]; exact cell_ok h2)) l2
    · unfold nmB at hs
      rw [Bool.eq_false_iff.mpr h1, Bool.eq_false_iff.mpr h2] at hs
      cases x with
      | ListComp el gs scope q =>
        have hq : (isLocal c.sc y && (py.line == q.line) && !(scope.names.any fun (n, k) => n == y && (k == .local || k == .cell))) = true := hs
        clear hs
        rw [Bool.and_eq_true, Bool.and_eq_true] at hq
        cases s with
        | lc elt tg it d own =>
          match gs, hc with
          | [⟨g, i, ifs, 0⟩], hc =>
            simp only [ck, Bool.and_eq_true] at hc
            exact z_setLc k.calm k.nd (by rw [k.N]; exact hi) (by rw [k.sc]; exact local_ok hq.1.1) (local_sw hf (by rw [k.sc]; exact local_ok hq.1.1) hq.1.2 hq.2) (oI it g i c X W hc.1.1.1.1.1 k) (blkOk_by (by rw [k.N, k.sc]; exact hc.1.1.1.2))
              (fun s H C cl fp => sT _ tg g hc.1.1.2 (k.blk scope s H C cl fp)) (fun s H C cl fp => oC d ifs _ _ W0 hc.1.2 (k.blk scope s H C cl fp)) (fun s H C cl fp => oE elt el _ _ W0 hc.2 (k.blk scope s H C cl fp)) (fold_ok hc.1.1.1.1.2)
          | [], hc => exact Bool.noConfusion hc
          | _ :: _ :: _, hc => simp [ck] at hc
          | [⟨g, i, ifs, .ofNat (n + 1)⟩], hc => rw [ck.eq_def] at hc; exact Bool.noConfusion hc
          | [⟨g, i, ifs, .negSucc n⟩], hc => exact Bool.noConfusion hc
        | _ => exact Bool.noConfusion hc
      | _ => exact Bool.noConfusion hs
theorem assignTup {c : Ck} {X : Cx} {W : WX} (k : Cok CA F t lv c X W) {ts : List Tg} {es : List Expr} {kk : Nat} {tp pos : Pos} {s : SE} {x : Expr} (ht : ckT c (allIx c) (.t ts) (.Tuple es kk tp) = true) (hn : notTup x = true) (hc : ck t c false s x = true) : PS X (.Assign [.Tuple es kk tp] x pos) (tS X.K CA W (sAsg (.t ts) (denE F t s))) :=
  z_asg (oE s x c X W hc k) (z_g (sT _ _ _ ht k)) (tup_false (x := x) (ts := es) (k := kk) (p := tp) (l := pos.line) (env := X.env)) (stored_none (g := x) hn) rfl
theorem assignSub {c : Ck} {X : Cx} {W : WX} (k : Cok CA F t lv c X W) {o i s : SE} {x y v : Expr} {tp pos : Pos} (ho : ck t c false o x = true) (hi : ck t c false i y = true) (hv : ck t c false s v = true) (hn : notSlice y = true) : PS X (.Assign [.Subscript x y tp] v pos) (tS X.K CA W (sSub (denE F t s) (denE F t o) (denE F t i))) :=
  z_sub (oE s v c X W hv k) (oE o x c X W ho k) (oE i y c X W hi k) (assign_sub hn) (sub_false (x := v) (o := x) (i := y) (p := tp) (l := pos.line) (env := X.env)) rfl rfl
theorem assignPar {c : Ck} {X : Cx} {W : WX} (k : Cok CA F t lv c X W) (hf : X.env.scope.kind = .function) {i j : Nat} {a b : SE} {x y : Str} {px py pt pos p2 : Pos} {kt k2 : Nat} {u v : Expr} (hx : c.N[i]? = some x) (hy : c.N[j]? = some y) (hij : i ≠ j) (lx : isLocal c.sc x = true) (ly : isLocal c.sc y = true) (hp : parOk x y px py u v = true) (ha : ck t c false a u = true) (hb : ck t c false b v = true) :
    PS X (.Assign [.Tuple [.Name x px, .Name y py] kt pt] (.Tuple [u, v] k2 p2) pos) (tS X.K CA W (sPar i j (eCons (denE F t a) (eCons (denE F t b) eNil)))) := by
  have hp' := hp
  unfold parOk at hp'
  simp only [Bool.and_eq_true] at hp'
  exact z_par k.calm k.nd (by rw [k.N]; exact hx) (by rw [k.N]; exact hy) hij (by rw [k.sc]; exact local_ok lx) (by rw [k.sc]; exact local_ok ly)
    (z_cons (oE a u c X W ha k) (z_cons (oE b v c X W hb k) z_nil (star_cons hp'.1.1.2)) (star_cons hp'.1.1.1.2)) (swaps_par hf (by rw [k.sc]; exact local_ok lx) (by rw [k.sc]; exact local_ok ly) hp) (tup_false (x := .Tuple [u, v] k2 p2) (ts := [.Name x px, .Name y py]) (k := kt) (p := pt) (l := pos.line) (env := X.env))
theorem assignPar3 {c : Ck} {X : Cx} {W : WX} (k : Cok CA F t lv c X W) (hf : X.env.scope.kind = .function) {i j l : Nat} {a b d : SE} {x y z : Str} {px py pz pt pos p2 : Pos} {kt k2 : Nat} {u v w : Expr} (hx : c.N[i]? = some x) (hy : c.N[j]? = some y) (hz : c.N[l]? = some z) (hij : i ≠ j) (hil : i ≠ l) (hjl : j ≠ l) (lx : isLocal c.sc x = true) (ly : isLocal c.sc y = true) (lz : isLocal c.sc z = true) (hp : parOk3 x y z px py pz u v w = true) (ha : ck t c false a u = true) (hb : ck t c false b v = true) (hd : ck t c false d w = true) :
    PS X (.Assign [.Tuple [.Name x px, .Name y py, .Name z pz] kt pt] (.Tuple [u, v, w] k2 p2) pos) (tS X.K CA W (sPar3 i j l (eCons (denE F t a) (eCons (denE F t b) (eCons (denE F t d) eNil))))) := by
  have hp' := hp
  unfold parOk3 at hp'
  simp only [Bool.and_eq_true] at hp'
  obtain ⟨⟨⟨⟨_, h1⟩, h2⟩, h3⟩, _⟩ := hp'.1
  exact z_par3 k.calm k.nd (by rw [k.N]; exact hx) (by rw [k.N]; exact hy) (by rw [k.N]; exact hz) hij hil hjl (by rw [k.sc]; exact local_ok lx) (by rw [k.sc]; exact local_ok ly) (by rw [k.sc]; exact local_ok lz)
    (z_cons (oE a u c X W ha k) (z_cons (oE b v c X W hb k) (z_cons (oE d w c X W hd k) z_nil (star_cons h3)) (star_cons h2)) (star_cons h1)) (swaps_par3 hf (by rw [k.sc]; exact local_ok lx) (by rw [k.sc]; exact local_ok ly) (by rw [k.sc]; exact local_ok lz) hp) (tup_false (x := .Tuple [u, v, w] k2 p2) (ts := [.Name x px, .Name y py, .Name z pz]) (k := kt) (p := pt) (l := pos.line) (env := X.env))
mutual
theorem pS : ∀ (s : SS) (e : Stmt) (c : Ck) (X : Cx) (W : WX), ckS t c s e = true → Cok CA F t lv c X W → Own X → X.env.scope.kind = .function → PS X e (tS X.K CA W (denS F t s))
  | .ret s, e, c, X, W, h, k, w, hf => by
    cases e with
    | Return r p =>
      cases r with
      | none => exact Bool.noConfusion h
      | some x => exact z_ret (oE s x c X W (by simpa only [ckS] using h) k)
    | _ => exact Bool.noConfusion h
  | .retN, e, c, X, W, h, k, w, hf => by
    cases e with
    | Return r p =>
      cases r with
      | none => exact z_retN
      | some x => exact Bool.noConfusion h
    | _ => exact Bool.noConfusion h
  | .exp s, e, c, X, W, h, k, w, hf => by
    cases e with
    | Expr x p =>
      simp only [ckS, Bool.and_eq_true] at h
      exact z_exp (oE s x c X W h.2 k) (sw_false h.1)
    | _ => exact Bool.noConfusion h
  | .asg tg s, e, c, X, W, h, k, w, hf => by
    cases e with
    | Assign gs x p =>
      match gs, h with
      | [g], h =>
        cases tg with
        | n i =>
          cases g with
          | Name y py =>
            simp only [ckS, Bool.and_eq_true, decide_eq_true_eq] at h
            exact assignName k hf h.1.1.1 h.1.1.2 h.1.2 h.2
          | _ => simp [ckS] at h
        | t ts =>
          cases g with
          | Tuple es kk tp =>
            simp only [ckS, Bool.and_eq_true] at h
            exact assignTup k h.1.1 h.1.2 h.2
          | _ => simp [ckS] at h
      | [], h => exact Bool.noConfusion h
      | _ :: _ :: _, h => exact Bool.noConfusion h
    | _ => exact Bool.noConfusion h
  | .par i j a b, e, c, X, W, h, k, w, hf => by
    cases e with
    | Assign gs x p =>
      match gs, x, h with
      | [.Tuple [.Name y py, .Name z pz] kt pt], .Tuple [u, v] k2 p2, h =>
        simp only [ckS, Bool.and_eq_true, decide_eq_true_eq] at h
        exact assignPar k hf h.1.1.1.1.1.1.1 h.1.1.1.1.1.1.2 h.1.1.1.1.1.2 h.1.1.1.1.2 h.1.1.1.2 h.1.1.2 h.1.2 h.2
      | gs, x, h =>
        simp only [ckS] at h
        split at h
        · rename_i heq
          cases heq
          simp only [Bool.and_eq_true, decide_eq_true_eq] at h
          exact assignPar k hf h.1.1.1.1.1.1.1 h.1.1.1.1.1.1.2 h.1.1.1.1.1.2 h.1.1.1.1.2 h.1.1.1.2 h.1.1.2 h.1.2 h.2
        · cases h
    | _ => exact Bool.noConfusion h
  | .par3 i j l a b d, e, c, X, W, h, k, w, hf => by
    simp only [ckS] at h
    split at h
    · simp only [Bool.and_eq_true, decide_eq_true_eq] at h
      obtain ⟨⟨⟨⟨⟨⟨⟨⟨⟨⟨⟨⟨h1, h2⟩, h3⟩, h4⟩, h5⟩, h6⟩, h7⟩, h8⟩, h9⟩, g1⟩, g2⟩, g3⟩, g4⟩ := h
      exact assignPar3 k hf h1 h2 h3 h4 h5 h6 h7 h8 h9 g1 g2 g3 g4
    · cases h
  | .sub o i s, e, c, X, W, h, k, w, hf => by
    simp only [ckS] at h
    split at h
    · simp only [Bool.and_eq_true] at h
      exact assignSub k h.1.1.1 h.1.1.2 h.1.2 h.2
    · cases h
  | .ite s a b, e, c, X, W, h, k, w, hf => by
    cases e with
    | If x u v p =>
      simp only [ckS, Bool.and_eq_true] at h
      exact z_sif (oB s x c X W h.1.1 k) (pSs a u c X W h.1.2 k w hf) (pSs b v c X W h.2 k w hf)
    | _ => exact Bool.noConfusion h
  | .for_ tg it b, e, c, X, W, h, k, w, hf => by
    cases e with
    | For g i u r p =>
      cases r with
      | nil =>
        simp only [ckS, Bool.and_eq_true] at h
        exact z_for w k.calm (oI it g i c X W h.1.1.2 k) (z_g (sT _ tg g h.1.1.1 k)) (pSs b u c X W h.2 k w hf) (fold_ok h.1.2)
      | cons _ _ => exact Bool.noConfusion h
    | _ => exact Bool.noConfusion h
  | .mat s m, e, c, X, W, h, k, w, hf => by
    cases e with
    | Match x cs p =>
      simp only [ckS, Bool.and_eq_true] at h
      exact z_match (oE s x c X W h.1 k) (pM m cs c X W h.2 k w hf)
    | _ => exact Bool.noConfusion h
  | .pass, e, c, X, W, h, k, w, hf => by
    cases e with
    | Pass p => exact z_pass
    | _ => exact Bool.noConfusion h
  | .brk, e, c, X, W, h, k, w, hf => by
    cases e with
    | Break p => exact z_brk
    | _ => exact Bool.noConfusion h
  | .cont, e, c, X, W, h, k, w, hf => by
    cases e with
    | Continue p => exact z_ct
    | _ => exact Bool.noConfusion h
theorem pSs : ∀ (s : SB) (es : List Stmt) (c : Ck) (X : Cx) (W : WX), ckSs t c s es = true → Cok CA F t lv c X W → Own X → X.env.scope.kind = .function → PSs X es (tS X.K CA W (denSs F t s))
  | .nil, es, c, X, W, h, k, w, hf => by
    cases es with
    | nil => exact z_snil
    | cons _ _ => exact Bool.noConfusion h
  | .cons s .nil, es, c, X, W, h, k, w, hf => by
    match es, h with
    | [], h => exact Bool.noConfusion h
    | [e], h =>
      have h : (ckS t c s e && true) = true := h
      rw [Bool.and_true] at h
      exact z_one (pS s e c X W h k w hf)
    | e :: _ :: _, h =>
      have h : (ckS t c s e && false) = true := h
      rw [Bool.and_false] at h
      cases h
  | .cons s (.cons s' r), es, c, X, W, h, k, w, hf => by
    match es, h with
    | [], h => exact Bool.noConfusion h
    | e :: es, h =>
      have h : (ckS t c s e && ckSs t c (.cons s' r) es) = true := h
      rw [Bool.and_eq_true] at h
      exact z_seq (pS s e c X W h.1 k w hf) (pSs (.cons s' r) es c X W h.2 k w hf)
theorem pM : ∀ (s : SC) (es : List MatchCase) (c : Ck) (X : Cx) (W : WX), ckM t c s es = true → Cok CA F t lv c X W → Own X → X.env.scope.kind = .function → PM X es (fun x => tS X.K CA W (denM F t s x))
  | .nil, es, c, X, W, h, k, w, hf => by
    cases es with
    | nil => exact z_mnil
    | cons _ _ => exact Bool.noConfusion h
  | .case ys b r, es, c, X, W, h, k, w, hf => by
    match es, h with
    | [], h => exact Bool.noConfusion h
    | ⟨p, none, u⟩ :: es, h =>
      simp only [ckM, Bool.and_eq_true] at h
      exact z_mcase (patB_ok h.1.1) (pSs b u c X W h.1.2 k w hf) (pM r es c X W h.2 k w hf)
    | ⟨p, some _, u⟩ :: es, h => exact Bool.noConfusion h
  | .els b, es, c, X, W, h, k, w, hf => by
    simp only [ckM] at h
    split at h
    · exact z_melse (pSs b _ c X W h k w hf)
    · cases h
end
end
end Z
set_option Elab.async false
set_option linter.all false
set_option maxRecDepth 100000
set_option maxHeartbeats 4000000
/-! Z, part O: the defs of a module; a law's end. -/
namespace Z
open PySem PySem.Spec PyProof.Rows L2
/-- a def of the module -/
structure DR where
  name : Str
  st : Stmt
  ps : List Str
  N : List Str
  body : SB
  tidy : Bool := false
  dfl : List P := []
  spec : Option (List D → Store → R T) := none
/-- the classes of a module: their names, fields, parameters, what isinstance answers -/
structure Cls where
  cls : List (Str × Nat) := []
  fld : Nat → Str := fun _ => "?"
  kwd : Nat → Str := fun _ => "?"
  isi : Nat → Str → Option Bool := fun _ _ => none
  isx : List Str := []
def tabOf (ds : List DR) (con : List (Str × P)) (no : List Str) (cs : Cls := {}) : Tab where
  cls := cs.cls
  fld := cs.fld
  kwd := cs.kwd
  isi := cs.isi
  isx := cs.isx
  fns := ds.zipIdx.map fun p => (p.1.name, p.2)
  con := con
  no := no
  par := fun i => match ds[i]? with
    | some d => d.ps
    | none => []
  dfl := fun i => match ds[i]? with
    | some d => d.dfl
    | none => []
/-- a call of the i-th def, at most n deep -/
def callN (ds : List DR) (t : Tab) : Nat → Nat → List D → Store → R T
  | 0 => fun _ _ _ => .bad
  | n + 1 => fun i => match ds[i]? with
    | none => fun _ _ => .bad
    | some d => match d.spec with
      | some g => g
      | none => if d.tidy then tidy (fnBody d.N.length d.ps.length (denSs (callN ds t n) t d.body)) else fnBody d.N.length d.ps.length (denSs (callN ds t n) t d.body)
def scB (N P : List Str) (sc : Scope) : Bool := decide (sc.kind = .function) && !sc.isCoroutine && !sc.isGenerator && decide N.Nodup && decide (N.take P.length = P) && P.all (fun x => decide (sc.names.lookup x = some .local) || decide (sc.names.lookup x = some .cell)) && sc.names.all (fun y => decide (y.2 ≠ .free))
theorem scB_ok {N P : List Str} {sc : Scope} (h : scB N P sc = true) : FnScope N P sc := by
  unfold scB at h
  simp only [Bool.and_eq_true, Bool.not_eq_true', decide_eq_true_eq, List.all_eq_true, Bool.or_eq_true] at h
  exact ⟨h.1.1.1.1.1.1, h.1.1.1.1.1.2, h.1.1.1.1.2, h.1.1.1.2, h.1.1.2, h.1.2, h.2⟩
def ckDef (t : Tab) (d : DR) : Bool := d.spec.isSome || scB d.N d.ps (defScope d.st) && ckSs t ⟨d.N, defScope d.st, fun _ => true⟩ d.body (defBody d.st)
/-- what the module has of a def -/
structure DFact (K : PySem.W.Frag) (mg : Str → Option Value) (d : DR) : Prop where
  ex : ∃ (f : Addr) (oc dV kV doc pm cdv ct : Value) (od an : Option Addr) (osl : Array (Option Value)) (ds0 : List Value), mg d.name = some (.ref f) ∧ PySem.W.keepIn K (.ref f) = true ∧
    K.lookup f = some ⟨oc, od, .func (PySem.W.fnOf d.name d.name (defArgs d.st) (defBody d.st) (defScope d.st) dV kV doc pm an cdv ct), osl⟩ ∧ PySem.W.codeIn K cdv d.name = true ∧
    Binds K (PySem.W.fnOf d.name d.name (defArgs d.st) (defBody d.st) (defScope d.st) dV kV doc pm an cdv ct) d.ps ds0 ∧ Dflt K d.dfl ds0
def conOk (K : PySem.W.Frag) (mg : Str → Option Value) (p : Str × P) : Prop := ∃ u y, mg p.1 = some u ∧ RelV y u ∧ ∀ H : Hp, RP K H p.2 y
section
variable {P : Program} {w : World} {K : PySem.W.Frag} {mg : Str → Option Value} {base : Heap} {CA : Nat → Addr}
theorem callN_at {ds : List DR} {t : Tab} {n j : Nat} {d : DR} (h : ds[j]? = some d) (hs : d.spec = none) : callN ds t (n + 1) j = if d.tidy then tidy (fnBody d.N.length d.ps.length (denSs (callN ds t n) t d.body)) else fnBody d.N.length d.ps.length (denSs (callN ds t n) t d.body) := by
  show (match ds[j]? with
        | none => fun _ _ => R.bad
        | some d => match d.spec with
          | some g => g
          | none => if d.tidy then tidy (fnBody d.N.length d.ps.length (denSs (callN ds t n) t d.body)) else fnBody d.N.length d.ps.length (denSs (callN ds t n) t d.body)) = _
  rw [h]
  dsimp only
  rw [hs]
theorem callN_sp {ds : List DR} {t : Tab} {n j : Nat} {d : DR} {g : List D → Store → R T} (h : ds[j]? = some d) (hs : d.spec = some g) : callN ds t (n + 1) j = g := by
  show (match ds[j]? with
        | none => fun _ _ => R.bad
        | some d => match d.spec with
          | some g => g
          | none => if d.tidy then tidy (fnBody d.N.length d.ps.length (denSs (callN ds t n) t d.body)) else fnBody d.N.length d.ps.length (denSs (callN ds t n) t d.body)) = _
  rw [h]
  dsimp only
  rw [hs]
/-- the facts of the module's classes -/
structure CFac (P : Program) (w : World) (K : PySem.W.Frag) (mg : Str → Option Value) (base : Heap) (CA : Nat → Addr) (cs : Cls) : Prop where
  cl : ∀ x c, (x, c) ∈ cs.cls → ClsF P w K mg base (CA c) x (cs.fld c) (cs.kwd c)
  at_ : cs.cls ≠ [] → ∀ c, XfC K (CA c) ∧ PySem.W.findIn K (.ref (CA c)) (cs.fld c) = some none
  ix : ∀ x ∈ cs.isx, (∃ D, mg x = some (.ref D)) ∨ ∃ T, mg x = none ∧ bootBuiltins x = some (.type T)
  is_ : ∀ c x b, cs.isi c x = some b → xisB K (CA c) = true ∧ ((∃ D, mg x = some (.ref D) ∧ PySem.W.kitOne K (.ref (CA c)) (.ref D) = some b) ∨ ∃ T, mg x = none ∧ bootBuiltins x = some (.type T) ∧ PySem.W.kitOne K (.ref (CA c)) (.type T) = some b)
theorem CFac.no {P : Program} {w : World} {K : PySem.W.Frag} {mg : Str → Option Value} {base : Heap} {CA : Nat → Addr} : CFac P w K mg base CA {} where
  cl := fun _ _ h => by cases h
  at_ := fun h => absurd rfl h
  ix := fun _ h => by cases h
  is_ := fun _ _ _ h => by cases h
/-- what is proved by hand of a def -/
def Hand (P : Program) (w : World) (K : PySem.W.Frag) (mg : Str → Option Value) (base : Heap) (CA : Nat → Addr) (ds : List DR) : Prop := ∀ (d : DR) (g : List D → Store → R T) (f : Addr) (oc dV kV doc pm cdv ct : Value) (od an : Option Addr) (osl : Array (Option Value)), d ∈ ds → d.spec = some g →
  K.lookup f = some ⟨oc, od, .func (PySem.W.fnOf d.name d.name (defArgs d.st) (defBody d.st) (defScope d.st) dV kV doc pm an cdv ct), osl⟩ → PySem.W.codeIn K cdv d.name = true → FnZ P w K mg base CA 3 f (PySem.W.fnOf d.name d.name (defArgs d.st) (defBody d.st) (defScope d.st) dV kV doc pm an cdv ct) d.ps g
theorem Hand.no {P : Program} {w : World} {K : PySem.W.Frag} {mg : Str → Option Value} {base : Heap} {CA : Nat → Addr} {ds : List DR} (h : ds.all (fun d => d.spec.isNone) = true) : Hand P w K mg base CA ds := fun d g _ _ _ _ _ _ _ _ _ _ _ hd hs => by
  have := List.all_eq_true.mp h d hd
  rw [hs] at this; cases this
theorem fac_of {ds : List DR} {con : List (Str × Z.P)} {no : List Str} {cs : Cls} {n : Nat} (hCF : CFac P w K mg base CA cs) (hD : ∀ d ∈ ds, DFact K mg d) (hC : ∀ p ∈ con, conOk K mg p) (hN : ∀ x ∈ no, mg x = none)
    (h : ∀ (j : Nat) (d : DR) (f : Addr) (oc dV kV doc pm cdv ct : Value) (od an : Option Addr) (osl : Array (Option Value)), d ∈ ds → ds[j]? = some d → K.lookup f = some ⟨oc, od, .func (PySem.W.fnOf d.name d.name (defArgs d.st) (defBody d.st) (defScope d.st) dV kV doc pm an cdv ct), osl⟩ → PySem.W.codeIn K cdv d.name = true →
      FnZ P w K mg base CA (n + 2) f (PySem.W.fnOf d.name d.name (defArgs d.st) (defBody d.st) (defScope d.st) dV kV doc pm an cdv ct) d.ps (callN ds (tabOf ds con no cs) n j)) : Fac P w K mg base CA (callN ds (tabOf ds con no cs) n) (tabOf ds con no cs) (n + 2) := by
  refine ⟨fun x i hm => ?_, fun x v hm => hC (x, v) hm, hN, hCF.cl, hCF.at_, hCF.ix, hCF.is_⟩
  obtain ⟨⟨d, j⟩, hm', e⟩ := List.mem_map.mp hm
  cases e
  clear hm
  have hm : (d, j) ∈ ds.zipIdx := hm'
  have hj : ds[j]? = some d := List.mk_mem_zipIdx_iff_getElem?.mp hm
  have hd : d ∈ ds := List.mem_of_getElem? hj
  obtain ⟨f, oc, dV, kV, doc, pm, cdv, ct, od, an, osl, ds0, h1, h2, h3, h4, h5, h6⟩ := (hD d hd).ex
  have hp : (tabOf ds con no cs).par j = d.ps := by show (match ds[j]? with | some d => d.ps | none => []) = _; rw [hj]
  have hdf : (tabOf ds con no cs).dfl j = d.dfl := by show (match ds[j]? with | some d => d.dfl | none => []) = _; rw [hj]
  refine ⟨f, _, ds0, h1, h2, by rw [hp]; exact h5, by rw [hdf]; exact h6, ?_⟩
  rw [hp]
  exact h j d f oc dV kV doc pm cdv ct od an osl hd hj h3 h4
theorem fnZ_at {ds : List DR} {con : List (Str × Z.P)} {no : List Str} {cs : Cls} {n j : Nat} {d : DR} {f : Addr} {oc dV kV doc pm cdv ct : Value} {od an : Option Addr} {osl : Array (Option Value)} (hc : ds.all (ckDef (tabOf ds con no cs)) = true) (hH : Hand P w K mg base CA ds) (FF : Fac P w K mg base CA (callN ds (tabOf ds con no cs) n) (tabOf ds con no cs) (n + 2))
    (hd : d ∈ ds) (hj : ds[j]? = some d) (h3 : K.lookup f = some ⟨oc, od, .func (PySem.W.fnOf d.name d.name (defArgs d.st) (defBody d.st) (defScope d.st) dV kV doc pm an cdv ct), osl⟩) (h4 : PySem.W.codeIn K cdv d.name = true) :
    FnZ P w K mg base CA (n + 1 + 2) f (PySem.W.fnOf d.name d.name (defArgs d.st) (defBody d.st) (defScope d.st) dV kV doc pm an cdv ct) d.ps (callN ds (tabOf ds con no cs) (n + 1) j) := by
  by_cases hs0 : ∃ g, d.spec = some g
  · obtain ⟨g, hs⟩ := hs0
    rw [callN_sp hj hs]
    exact (hH d g f oc dV kV doc pm cdv ct od an osl hd hs h3 h4).mono (by omega)
  have hs : d.spec = none := by
    cases e : d.spec with
    | none => rfl
    | some g => exact absurd ⟨g, e⟩ hs0
  have hck : ckDef (tabOf ds con no cs) d = true := List.all_eq_true.mp hc d hd
  unfold ckDef at hck
  rw [hs, Option.isSome_none, Bool.false_or, Bool.and_eq_true] at hck
  have S := scB_ok hck.1
  have G : FnZ P w K mg base CA (n + 1 + 2) f (PySem.W.fnOf d.name d.name (defArgs d.st) (defBody d.st) (defScope d.st) dV kV doc pm an cdv ct) d.ps (fnBody d.N.length d.ps.length (denSs (callN ds (tabOf ds con no cs) n) (tabOf ds con no cs) d.body)) :=
    z_fn h3 h4 S fun A outer s H E hr hg => pSs d.body (defBody d.st) _ _ _ hck.2 ⟨rfl, S.nd, rfl, fun _ _ => rfl, rfl, hg, hr, by omega, takes_of rfl rfl rfl rfl, FF⟩ (passes_of rfl) S.kind
  rw [callN_at hj hs]
  by_cases ht : d.tidy = true
  · rw [if_pos ht]; exact G.tidy
  · rw [if_neg ht]; exact G
theorem fnZ_all {ds : List DR} {con : List (Str × Z.P)} {no : List Str} {cs : Cls} (hCF : CFac P w K mg base CA cs) (hH : Hand P w K mg base CA ds) (hc : ds.all (ckDef (tabOf ds con no cs)) = true) (hD : ∀ d ∈ ds, DFact K mg d) (hC : ∀ p ∈ con, conOk K mg p) (hN : ∀ x ∈ no, mg x = none) :
    ∀ n : Nat, Fac P w K mg base CA (callN ds (tabOf ds con no cs) n) (tabOf ds con no cs) (n + 2) := by
  intro n
  induction n with
  | zero => exact fac_of hCF hD hC hN fun j d f oc dV kV doc pm cdv ct od an osl hd hj h3 h4 => ⟨fun A outer s H args us vs Q E as st ds σ _ _ _ _ _ _ _ _ m => False.elim m⟩
  | succ n FF => exact fac_of hCF hD hC hN fun j d f oc dV kV doc pm cdv ct od an osl hd hj h3 h4 => fnZ_at hc hH FF hd hj h3 h4
/-- a def without defaults -/
theorem dfact0 {h : Heap} {d : DR} {x : Str} {st : Stmt} {f : Addr} {oc kV doc pm cdv ct : Value} {od an : Option Addr} {osl : Array (Option Value)} (hx : d.name = x) (hs : d.st = st) (h0 : d.dfl = []) (hb : ∀ (kV doc pm : Value) (an : Option Addr) (cdv ct : Value) (us : List Value), us.length = d.ps.length → bindArgs (PySem.W.fnOf x x (defArgs st) (defBody st) (defScope st) .none kV doc pm an cdv ct) ⟨us, []⟩ = pure (d.ps.zip us)) (X : K.In h) (G : h.Ns mainGlobals mg)
    (a : PySem.W.nsIn K mainGlobals x = some (some (.ref f))) (l : K.lookup f = some ⟨oc, od, .func (PySem.W.fnOf x x (defArgs st) (defBody st) (defScope st) .none kV doc pm an cdv ct), osl⟩) (c : PySem.W.codeIn K cdv x = true) (k : PySem.W.keepIn K (.ref f) = true) : DFact K mg d := by
  subst hx
  subst hs
  exact ⟨f, oc, .none, kV, doc, pm, cdv, ct, od, an, osl, [], PySem.W.mg_of X G a, k, l, c, .all (hb kV doc pm an cdv ct), by rw [h0]; exact Dflt.nil⟩
theorem con_str {h : Heap} {x y : Str} {u : Tok} (X : K.In h) (G : h.Ns mainGlobals mg) (a : PySem.W.nsIn K mainGlobals x = some (some (.str y u))) : conOk K mg (x, .str y) := ⟨_, .str y, PySem.W.mg_of X G a, ⟨u, rfl⟩, fun H => by unfold RP; rfl⟩
theorem con_int {h : Heap} {x : Str} {y : Int} {u : Tok} (X : K.In h) (G : h.Ns mainGlobals mg) (a : PySem.W.nsIn K mainGlobals x = some (some (.int y u))) : conOk K mg (x, .int y) := ⟨_, .int y, PySem.W.mg_of X G a, ⟨u, rfl⟩, fun H => by unfold RP; rfl⟩
theorem no_of {h : Heap} {x : Str} (X : K.In h) (G : h.Ns mainGlobals mg) (a : PySem.W.nsIn K mainGlobals x = some none) : mg x = none := PySem.W.mg_none_of X G a
/-- the law's def, as the end asks -/
theorem law_fnZ {h : Heap} {ds : List DR} {con : List (Str × Z.P)} {no : List Str} {cs : Cls} {n j : Nat} {d : DR} {fa f : Addr} {x : Str} {st : Stmt} {oc kV doc pm cdv ct : Value} {od an : Option Addr} {osl : Array (Option Value)} {s : Str} (hx : d.name = x) (hs : d.st = st) (hps : d.ps = [s]) (hj : ds[j]? = some d)
    (hb : ∀ (kV doc pm : Value) (an : Option Addr) (cdv ct : Value) (u : Value), bindArgs (PySem.W.fnOf x x (defArgs st) (defBody st) (defScope st) .none kV doc pm an cdv ct) ⟨[u], []⟩ = pure [(s, u)])
    (hCF : ∀ base : Heap, K.In base → base.Ns mainGlobals mg → CFac P w K mg base CA cs) (hH : ∀ base : Heap, K.In base → base.Ns mainGlobals mg → Hand P w K mg base CA ds) (hc : ds.all (ckDef (tabOf ds con no cs)) = true) (X : K.In h) (G : h.Ns mainGlobals mg) (hmg : mg x = some (.ref fa)) (hD : ∀ d ∈ ds, DFact K mg d) (hC : ∀ p ∈ con, conOk K mg p) (hN : ∀ x ∈ no, mg x = none)
    (a : PySem.W.nsIn K mainGlobals x = some (some (.ref f))) (l : K.lookup f = some ⟨oc, od, .func (PySem.W.fnOf x x (defArgs st) (defBody st) (defScope st) .none kV doc pm an cdv ct), osl⟩) (c : PySem.W.codeIn K cdv x = true) :
    ∃ fd : FuncData, (∀ (s0 : Shared) (u : Value), BindsTo s0 fd ⟨[u], []⟩ [(s, u)]) ∧ ∀ base : Heap, K.In base → base.Ns mainGlobals mg → FnZ P w K mg base CA (n + 1 + 2) fa fd [s] (callN ds (tabOf ds con no cs) (n + 1) j) := by
  have e := hmg.symm.trans (PySem.W.mg_of X G a)
  cases e
  subst hx
  subst hs
  exact ⟨_, fun s0 u => .of_eq (hb kV doc pm an cdv ct u), fun base b1 b2 => by rw [← hps]; exact fnZ_at hc (hH base b1 b2) (fnZ_all (hCF base b1 b2) (hH base b1 b2) hc hD hC hN n) (List.mem_of_getElem? hj) hj l c⟩
theorem klInts {H : Hp} : ∀ (ns : List Int), RPs K H (ns.map Z.P.int) (ns.map V.int)
  | [] => by show RPs K H [] []; unfold RPs; rfl
  | n :: ns => by
    show RPs K H (.int n :: ns.map Z.P.int) (.int n :: ns.map V.int)
    unfold RPs
    exact ⟨_, _, rfl, by unfold RP; rfl, klInts ns⟩
/-- the head for a law of defs -/
theorem law_callZ {mb : Str → Option Value} {k : Nat} {fa a : Addr} {fd : FuncData} {x : Str} {s₁ : Shared} {vs : List Value} {ns : List Int} {G : List D → Store → R T}
    (KX : K.In s₁.heap) (hns : s₁.heap.Ns mainGlobals mg) (hb : s₁.heap.Ns builtinsNs mb) (hbb : ∀ x : Str, x ≠ "__name__" → mb x = bootBuiltins x) (hlim : s₁.heap.NoLimit) (hg : s₁.gens = #[])
    (ha : s₁.heap.get? a = some { cls := .type "list", data := .seq vs.toArray }) (hi : IntsAre vs ns) (hl : ns.length ≤ sizeLine) (hr : Room k callerA)
    (F : ∀ base : Heap, K.In base → base.Ns mainGlobals mg → FnZ P w K mg base CA k fa fd [x] G) (hbind : ∀ (s : Shared) (u : Value), BindsTo s fd ⟨[u], []⟩ [(x, u)])
    (hsp : ∃ st, G [.kl (ns.map Z.P.int)] [] = .ok (.d (.p (.bl true))) st) :
    codeAny (model P w) callerA (.call (.ref fa) ⟨[.ref a], []⟩) (fun r s' => r = .ok (.ret (.bool true)) ∧ OldK s₁.heap s'.heap ∧ s'.os = s₁.os ∧ AllBare s'.gens) s₁ := by
  have rv := vals_ints hi
  have lenV := hi.length
  have core : ∀ H : Hp, Only H → SqK K H a (ns.map V.int) → HOk P w H s₁.heap → (∀ b, H b ≠ none → b = a) → (H a ≠ none → K.lookup a = none) →
      codeAny (model P w) callerA (.call (.ref fa) ⟨[.ref a], []⟩) (fun r s' => r = .ok (.ret (.bool true)) ∧ OldK s₁.heap s'.heap ∧ s'.os = s₁.os ∧ AllBare s'.gens) s₁ := by
    intro H hO hS hok hA hK
    have base_of : ∀ {b : Addr} {o : Obj}, s₁.heap.get? b = some o → H b = none → (hidT s₁.heap H).get? b = some o := fun e n => hidT_get e n
    have noA : ∀ {b : Addr} {o : Obj} {es : Array DictEntry} {ep : Nat}, s₁.heap.get? b = some o → o.data = .dict es ep → H b = none := fun {b o es ep} e d => by
      cases q : H b with
      | none => rfl
      | some u =>
        have e' : b = a := hA b (by rw [q]; simp)
        subst e'
        rw [ha] at e; cases e
        have d' : Data.seq vs.toArray _ = Data.dict es ep := d
        cases d'
    have nsK : ∀ {b : Addr} {m : Str → Option Value}, s₁.heap.Ns b m → (hidT s₁.heap H).Ns b m := fun {b m} ⟨o, es, ep, e, d, r⟩ => ⟨o, es, ep, base_of e (noA e d), d, r⟩
    have hKb : K.In (hidT s₁.heap H) := fun b o e => base_of (KX b o e) (by
      cases q : H b with
      | none => rfl
      | some u =>
        have e' : b = a := hA b (by rw [q]; simp)
        subst e'
        rw [hK (by rw [q]; simp)] at e; cases e)
    have hM : Mod K mg (hidT s₁.heap H) := ⟨hKb, nsK hns, ⟨mb, nsK hb, hbb⟩, let ⟨mc, h1, h2⟩ := hlim; ⟨mc, nsK h1, h2⟩⟩
    have e0 : Env0 P w K mg (hidT s₁.heap H) callerA [] s₁ H := ⟨rfl, hM, fun b o e => of_hidT e, Nat.le_of_eq (hidT_size _ _), trivial, fun b hb => absurd (show b ∈ ([] : List Addr) from hb) (by simp), hok, .of_eq hg⟩
    obtain ⟨stE, hsp⟩ := hsp
    have S0 : Sim K CA [] [] H := ⟨rfl, List.nodup_nil, fun k a o h => by simp at h⟩
    have r0 : RDs K [] H [.kl (ns.map Z.P.int)] [.ref a] := RDs.cons (by unfold RD; exact ⟨a, _, rfl, hS, klInts ns⟩) RDs.nil
    refine codeAny_mono ((F _ hKb (nsK hns)).run callerA [] s₁ H ⟨[.ref a], []⟩ [.ref a] [.ref a] (fun v _ => v = .bl true) (fun _ _ _ => False) [] [] [.kl (ns.map Z.P.int)] [] hr rfl e0 (hbind s₁ (.ref a)) (.cons rfl .nil) rfl S0 r0 (by
      rw [hsp]
      intro as' H' v P' S' r' f'
      have r' : RD K as' H' (.p (.bl true)) v := r'
      unfold RD RP at r'
      exact r')) fun r s' h => ?_
    cases r with
    | error e =>
      obtain ⟨_, _, _, _, _, _, _, _, _, _, _, _, z⟩ := h
      exact z.elim
    | ok fl =>
      cases fl with
      | next => exact False.elim h
      | brk => exact False.elim h
      | cont => exact False.elim h
      | ret u =>
        obtain ⟨v, H', os, bare, un, hok', r', q⟩ := h
        have q' : v = .bl true := q
        subst q'
        obtain rfl : u = Value.bool true := r'
        refine ⟨rfl, OldK.of_keep fun b o e => ?_, os, bare⟩
        cases q : H b with
        | none => exact un.keep b o e q (by intro z; exact absurd (show b ∈ ([] : List Addr) from z) (by simp)) (by simp)
        | some u =>
          rcases hO b with z | ⟨ob, xs, z⟩
          · rw [q] at z; cases z
          · have z2 := un.frzs b ob _ z
            obtain ⟨e1, _⟩ := hok b _ z
            obtain ⟨e2, _⟩ := hok' b _ z2
            rw [e] at e1; cases e1
            exact e2
  cases hk : K.lookup a with
  | some o =>
    have e := KX a o hk
    rw [ha] at e
    cases e
    refine core (fun _ => none) (fun _ => .inl rfl) (.inr ⟨_, vs.toArray, _, hk, rfl, rfl, rfl, by rw [List.size_toArray, lenV]; exact hl, by simpa using rv⟩) (fun b u z => by have z' : (none : Option HO) = some u := z; cases z') (fun b z => absurd rfl z) fun z => absurd rfl z
  | none =>
    refine core (fun b => if b = a then some (.frz { cls := .type "list", data := .seq vs.toArray } (.lst (ns.map V.int))) else none) (fun b => ?_) (.inl ⟨{ cls := .type "list", data := .seq vs.toArray }, if_pos rfl⟩) (fun b u z => ?_) (fun b z => ?_) fun _ => hk
    · by_cases hb : b = a
      · exact .inr ⟨_, _, if_pos hb⟩
      · exact .inl (if_neg hb)
    · by_cases hb : b = a
      · have z' := (if_pos hb).symm.trans z
        cases z'
        subst hb
        exact ⟨ha, by rw [List.length_map]; exact hl, vs, _, rv, ha⟩
      · have z' := (if_neg hb).symm.trans z
        cases z'
    · by_cases hb : b = a
      · exact hb
      · exact absurd (if_neg hb) z
end
/-- the end of a law row -/
theorem walk_ofZ {l : PySem.W.OpenLaw} {n k : Nat} {q : Program} {loose : List Str} {XP : (Str → Option Value) → Heap → Prop} {YP : World → Heap → Prop} {d : DefRec} {K : Params → PySem.W.Frag} {x : Str} {CA : (Str → Option Value) → Nat → Addr} {G : List D → Store → R T}
    (hn : l.most = some n) (hn2 : n ≤ sizeLine) (hdf : d.params.defaults = []) (hr : Room k callerA)
    (hY : ∀ (w : World) (h : Heap), YP w h → (K w.params).In h)
    (F : ∀ (w : World) (mg : Str → Option Value) (fa : Addr) (h : Heap), (K w.params).In h → h.Ns mainGlobals mg → mg d.name = some (.ref fa) →
      ∃ fd : FuncData, (∀ (s : Shared) (u : Value), BindsTo s fd ⟨[u], []⟩ [(x, u)]) ∧
        ∀ base : Heap, (K w.params).In base → base.Ns mainGlobals mg → FnZ l.prog w (K w.params) mg base (CA mg) k fa fd [x] G)
    (hsp : ∀ (ns : List Int), ns.length ≤ n → (∀ z ∈ ns, Builtin.Int.intBits z ≤ 1048576) → ∃ st, G [.kl (ns.map Z.P.int)] [] = .ok (.d (.p (.bl true))) st) :
    PySem.W.WalkO q loose XP YP l.row.toRowW d [] (fun f vs => PySem.call f vs) := by
  refine Att.attach_callB hn hdf fun w s₀ s₁ mg mb fa o pm cd doc a vs ns G' Y ho hd hcd hmg hobj hints hlen hbits hg => ?_
  have KX := hY w _ Y
  obtain ⟨fd, hb, hF⟩ := F w mg fa _ KX G'.T.g hmg
  exact law_callZ KX G'.T.g G'.T.b G'.T.builtins G'.T.nolimit hg hobj hints (Nat.le_trans hlen hn2) hr hF hb (hsp ns hlen hbits)
end Z
set_option Elab.async false
set_option linter.all false
set_option maxRecDepth 100000
set_option maxHeartbeats 4000000
/-! Z, part P: what a computation leads to, by simp. -/
namespace Z
open PySem PySem.Spec PyProof.Rows L2
def R.to {α : Type} (r : R α) (Q : α → Store → Prop) : Prop := match r with
  | .ok a st => Q a st
  | _ => False
@[simp] theorem R.to_ok {α : Type} {a : α} {st : Store} {Q : α → Store → Prop} : (R.ok a st).to Q = Q a st := by rfl
@[simp] theorem R.to_bad {α : Type} {Q : α → Store → Prop} : (R.bad : R α).to Q = False := by rfl
@[simp] theorem R.to_bind {α β : Type} {r : R α} {f : α → Store → R β} {Q : β → Store → Prop} : (r.bind f).to Q = r.to fun a st => (f a st).to Q := by cases r <;> rfl
@[simp] theorem R.bind_ok {α β : Type} {a : α} {st : Store} {f : α → Store → R β} : (R.ok a st).bind f = f a st := by rfl
theorem R.to_mono {α : Type} {r : R α} {Q Q' : α → Store → Prop} (h : r.to Q) (i : ∀ a st, Q a st → Q' a st) : r.to Q' := by
  cases r with
  | ok a st => exact i a st h
  | exn _ _ _ => exact h
  | bad => exact h
theorem R.to_eq {α : Type} {r : R α} {Q : α → Store → Prop} (h : r.to Q) : ∃ a st, r = .ok a st ∧ Q a st := by
  cases r with
  | ok a st => exact ⟨a, st, rfl, h⟩
  | exn _ _ _ => exact h.elim
  | bad => exact h.elim
theorem R.to_of {α : Type} {r : R α} {a : α} {st : Store} {Q : α → Store → Prop} (h : r = .ok a st) (q : Q a st) : r.to Q := by rw [h]; exact q
@[simp] theorem R.to_ite {α : Type} {c : Prop} [Decidable c] {a b : R α} {Q : α → Store → Prop} : (if c then a else b).to Q = if c then a.to Q else b.to Q := by split <;> rfl
@[simp] theorem R.nox_ok {α : Type} {a : α} {st : Store} : (R.ok a st).nox = .ok a st := by rfl
@[simp] theorem R.to_nox {α : Type} {r : R α} {Q : α → Store → Prop} : r.nox.to Q = r.to Q := by cases r <;> rfl
/-- a statement: nx, rt, bk, ct -/
structure RQ where
  nx : Rho → Store → Prop
  rt : T → Store → Prop := fun _ _ => False
  bk : Rho → Store → Prop := fun _ _ => False
  ct : Rho → Store → Prop := fun _ _ => False
def RS.to (r : RS) (Q : RQ) : Prop := match r with
  | .nx ρ st => Q.nx ρ st
  | .rt t st => Q.rt t st
  | .bk ρ st => Q.bk ρ st
  | .ct ρ st => Q.ct ρ st
  | _ => False
@[simp] theorem RS.to_nx {ρ : Rho} {st : Store} {Q : RQ} : (RS.nx ρ st).to Q = Q.nx ρ st := by rfl
@[simp] theorem RS.to_rt {t : T} {st : Store} {Q : RQ} : (RS.rt t st).to Q = Q.rt t st := by rfl
@[simp] theorem RS.to_bk {ρ : Rho} {st : Store} {Q : RQ} : (RS.bk ρ st).to Q = Q.bk ρ st := by rfl
@[simp] theorem RS.to_ct {ρ : Rho} {st : Store} {Q : RQ} : (RS.ct ρ st).to Q = Q.ct ρ st := by rfl
@[simp] theorem RS.to_bad {Q : RQ} : RS.bad.to Q = False := by rfl
@[simp] theorem RS.to_ite {c : Prop} [Decidable c] {a b : RS} {Q : RQ} : (if c then a else b).to Q = if c then a.to Q else b.to Q := by split <;> rfl
@[simp] theorem RS.to_sE {α : Type} {ρ : Rho} {r : R α} {k : α → Store → RS} {Q : RQ} : (sE ρ r k).to Q = r.to fun a st => (k a st).to Q := by cases r <;> rfl
@[simp] theorem sE_ok {α : Type} {ρ : Rho} {a : α} {st : Store} {k : α → Store → RS} : sE ρ (.ok a st) k = k a st := by rfl
theorem RS.to_mono {r : RS} {Q Q' : RQ} (h : r.to Q) (i1 : ∀ ρ st, Q.nx ρ st → Q'.nx ρ st) (i2 : ∀ ρ st, Q.rt ρ st → Q'.rt ρ st) (i3 : ∀ ρ st, Q.bk ρ st → Q'.bk ρ st) (i4 : ∀ ρ st, Q.ct ρ st → Q'.ct ρ st) : r.to Q' := by
  cases r with
  | nx ρ st => exact i1 _ _ h
  | rt t st => exact i2 _ _ h
  | bk ρ st => exact i3 _ _ h
  | ct ρ st => exact i4 _ _ h
  | exn _ _ _ _ => exact h
  | bad => exact h
section
variable {F : Nat → List D → Store → R T} {t : Tab} {ρ : Rho} {st : Store}
@[simp] theorem w_seq {f g : DenS} {Q : RQ} : (sSeq f g ρ st).to Q = (f ρ st).to { Q with nx := fun ρ st => (g ρ st).to Q } := by
  unfold sSeq
  cases f ρ st <;> rfl
@[simp] theorem w_var {i : Nat} : (den F t (.var i)).1 ρ st = (match ρ[i]? with | some (some d) => .ok (.d d) st | _ => .bad) := by rfl
@[simp] theorem w_k {x : P} : (den F t (.k x)).1 ρ st = .ok (.d (.p x)) st := by rfl
@[simp] theorem w_gk {n : Str} {x : P} : (den F t (.gk n x)).1 ρ st = .ok (.d (.p x)) st := by rfl
@[simp] theorem w_tup {es : SL} : (den F t (.tup es)).1 ρ st = (denL F t es ρ st).bind fun ds st => .ok (.d (mkTup ds)) st := by rfl
@[simp] theorem w_lst {es : SL} : (den F t (.lst es)).1 ρ st = (denL F t es ρ st).bind fun ds st => .ok (.l ds) st := by rfl
@[simp] theorem w_lnil : denL F t .nil ρ st = .ok [] st := by rfl
@[simp] theorem w_lcons {e : SE} {r : SL} : denL F t (.cons e r) ρ st = ((den F t e).1 ρ st).bind fun a st => (denL F t r ρ (boxT a st).2).bind fun ds st' => .ok ((boxT a st).1 :: ds) st' := by rfl
@[simp] theorem w_bin {o : BO} {a b : SE} : (den F t (.bin o a b)).1 ρ st = ((den F t a).1 ρ st).bind fun x st => ((den F t b).1 ρ st).bind fun y st => bop o x y st := by rfl
@[simp] theorem w_neg {a : SE} : (den F t (.neg a)).1 ρ st = ((den F t a).1 ρ st).bind oNeg := by rfl
@[simp] theorem w_cmp {o : CO} {a b : SE} : (den F t (.cmp o a b)).1 ρ st = ((den F t a).1 ρ st).bind fun x st => ((den F t b).1 ρ st).bind fun y st => cop o x y st := by rfl
@[simp] theorem w_cmpB {o : CO} {a b : SE} : (den F t (.cmp o a b)).2 ρ st = ((den F t a).1 ρ st).bind fun x st => ((den F t b).1 ρ st).bind fun y st => (cop o x y st).bind blT := by rfl
@[simp] theorem w_chain {o o' : CO} {a b c : SE} : (den F t (.chain o o' a b c)).1 ρ st = ((den F t a).1 ρ st).bind fun x st => ((den F t b).1 ρ st).bind fun y st => ((cop o x y st).bind blT).bind fun k st => if k then ((den F t c).1 ρ st).bind fun z st => cop o' y z st else .ok (kBl false) st := by rfl
@[simp] theorem w_chainB {o o' : CO} {a b c : SE} : (den F t (.chain o o' a b c)).2 ρ st = ((den F t (.chain o o' a b c)).1 ρ st).bind blT := by rfl
@[simp] theorem w_and1 {e : SE} : (den F t (.and (.cons e .nil))).1 ρ st = (den F t e).1 ρ st := by rfl
@[simp] theorem w_and2 {e e' : SE} {r : SL} : (den F t (.and (.cons e (.cons e' r)))).1 ρ st = ((den F t e).1 ρ st).bind fun x st => (blT x st).bind fun c st => if c then (den F t (.and (.cons e' r))).1 ρ st else .ok (kBl false) st := by rfl
@[simp] theorem w_or1 {e : SE} : (den F t (.or (.cons e .nil))).1 ρ st = (den F t e).1 ρ st := by rfl
@[simp] theorem w_or2 {e e' : SE} {r : SL} : (den F t (.or (.cons e (.cons e' r)))).1 ρ st = ((den F t e).1 ρ st).bind fun x st => (blT x st).bind fun c st => if c then .ok (kBl true) st else (den F t (.or (.cons e' r))).1 ρ st := by rfl
@[simp] theorem w_andB1 {e : SE} : (den F t (.and (.cons e .nil))).2 ρ st = (den F t e).2 ρ st := by rfl
@[simp] theorem w_andB2 {e e' : SE} {r : SL} : (den F t (.and (.cons e (.cons e' r)))).2 ρ st = ((den F t e).2 ρ st).bind fun c st => if c then (den F t (.and (.cons e' r))).2 ρ st else .ok false st := by rfl
@[simp] theorem w_orB1 {e : SE} : (den F t (.or (.cons e .nil))).2 ρ st = (den F t e).2 ρ st := by rfl
@[simp] theorem w_orB2 {e e' : SE} {r : SL} : (den F t (.or (.cons e (.cons e' r)))).2 ρ st = ((den F t e).2 ρ st).bind fun c st => if c then .ok true st else (den F t (.or (.cons e' r))).2 ρ st := by rfl
@[simp] theorem w_not {e : SE} : (den F t (.not e)).1 ρ st = ((den F t e).1 ρ st).bind fun x st => (blT x st).bind fun c st => .ok (kBl (!c)) st := by rfl
@[simp] theorem w_notB {e : SE} : (den F t (.not e)).2 ρ st = ((den F t e).2 ρ st).bind fun c st => .ok (!c) st := by rfl
@[simp] theorem w_ite {c a b : SE} : (den F t (.ite c a b)).1 ρ st = ((den F t c).2 ρ st).bind fun k st => if k then (den F t a).1 ρ st else (den F t b).1 ρ st := by rfl
@[simp] theorem w_ix {a b : SE} : (den F t (.ix a b)).1 ρ st = ((den F t a).1 ρ st).bind fun x st => ((den F t b).1 ρ st).bind fun y st => oIx x y st := by rfl
@[simp] theorem w_sl {a : SE} {lo hi : SO} : (den F t (.sl a lo hi)).1 ρ st = ((den F t a).1 ρ st).bind fun x st => (denO F t lo ρ st).bind fun i st => (denO F t hi ρ st).bind fun j st => oSl i j x st := by rfl
@[simp] theorem w_no : denO F t .no ρ st = .ok none st := by rfl
@[simp] theorem w_yes {e : SE} : denO F t (.yes e) ρ st = ((den F t e).1 ρ st).bind intT := by rfl
@[simp] theorem w_call {f : Nat} {es : SL} : (den F t (.call f es)).1 ρ st = (denL F t es ρ st).bind fun ds st => if ds.length + (t.dfl f).length = (t.par f).length then F f (ds ++ (t.dfl f).map .p) st else .bad := by rfl
@[simp] theorem w_b1 {b : B1} {a : SE} : (den F t (.b1 b a)).1 ρ st = ((den F t a).1 ρ st).bind (b1op b) := by rfl
@[simp] theorem w_bN {b : BN} {es : SL} : (den F t (.bN b es)).1 ρ st = (denL F t es ρ st).bind (bNop b) := by rfl
@[simp] theorem w_meth {m : ME} {a : SE} {es : SL} : (den F t (.meth m a es)).1 ρ st = ((den F t a).1 ρ st).bind fun x st => if isTy "list" x st then (denL F t es ρ st).bind fun ds st => meop m x ds st else .bad := by rfl
@[simp] theorem w_lc {elt : SE} {tg : Tg} {it : IT} {c : SO} {own : List (Str × Nat)} : (den F t (.lc elt tg it c own)).1 ρ st = (denI F t it ρ st).bind fun s st => if s.items.length ≤ sizeLine then compS s.ok tg (denC F t c) (den F t elt).1 (wipeR ρ (own.map (·.2))) s.items [] st else .bad := by rfl
@[simp] theorem w_cno : denC F t .no ρ st = .ok true st := by rfl
@[simp] theorem w_cyes {e : SE} : denC F t (.yes e) ρ st = (den F t e).2 ρ st := by rfl
@[simp] theorem w_iof {e : SE} : denI F t (.of e) ρ st = ((den F t e).1 ρ st).bind srcOf := by rfl
@[simp] theorem w_irng {es : SL} : denI F t (.rng es) ρ st = (denL F t es ρ st).bind rngOf := by rfl
@[simp] theorem w_ien {e : SE} : denI F t (.en e) ρ st = ((den F t e).1 ρ st).bind enumOf := by rfl
/-- the tests of what is no bool by its form -/
theorem w_test {e : SE} (h : (den F t e).2 = eTru (den F t e).1) : (den F t e).2 ρ st = ((den F t e).1 ρ st).bind truT := by rw [h]; rfl
@[simp] theorem w_varB {i : Nat} : (den F t (.var i)).2 ρ st = ((den F t (.var i)).1 ρ st).bind truT := by rfl
@[simp] theorem w_callB {f : Nat} {es : SL} : (den F t (.call f es)).2 ρ st = ((den F t (.call f es)).1 ρ st).bind truT := by rfl
@[simp] theorem w_ixB {a b : SE} : (den F t (.ix a b)).2 ρ st = ((den F t (.ix a b)).1 ρ st).bind truT := by rfl
@[simp] theorem w_b1B {a : SE} {b : B1} : (den F t (.b1 b a)).2 ρ st = ((den F t (.b1 b a)).1 ρ st).bind truT := by rfl
@[simp] theorem w_binB {o : BO} {a b : SE} : (den F t (.bin o a b)).2 ρ st = ((den F t (.bin o a b)).1 ρ st).bind truT := by rfl
@[simp] theorem w_slB {a : SE} {lo hi : SO} : (den F t (.sl a lo hi)).2 ρ st = ((den F t (.sl a lo hi)).1 ρ st).bind truT := by rfl
@[simp] theorem w_new {kw : Bool} {c : Nat} {a : SE} : (den F t (.new kw c a)).1 ρ st = ((den F t a).1 ρ st).bind fun x st => .ok (.d (.ref (boxT x st).2.length)) ((boxT x st).2 ++ [.exc c [(t.fld c, (boxT x st).1)]]) := by rfl
@[simp] theorem w_attr {a : SE} {f : Str} : (den F t (.attr a f)).1 ρ st = ((den F t a).1 ρ st).bind (oAttr t.fld f) := by rfl
@[simp] theorem w_isc {a : SE} {x : Str} : (den F t (.isc a x)).1 ρ st = ((den F t a).1 ρ st).bind (oIsc t.isi x) := by rfl
/-! statements -/
@[simp] theorem w_ret {e : SE} : denS F t (.ret e) ρ st = sE ρ ((den F t e).1 ρ st) .rt := by rfl
@[simp] theorem w_retN : denS F t .retN ρ st = .rt (.d (.p .non)) st := by rfl
@[simp] theorem w_exp {e : SE} : denS F t (.exp e) ρ st = sE ρ ((den F t e).1 ρ st) fun _ st => .nx ρ st := by rfl
@[simp] theorem w_asgn {i : Nat} {e : SE} : denS F t (.asg (.n i) e) ρ st = sE ρ ((den F t e).1 ρ st) fun x st => .nx (ρ.set i (some (boxT x st).1)) (boxT x st).2 := by rfl
@[simp] theorem w_asgt {ts : List Tg} {e : SE} : denS F t (.asg (.t ts) e) ρ st = sE ρ ((den F t e).1 ρ st) fun x st => match asg (.t ts) (boxT x st).1 ρ with | some ρ' => .nx ρ' (boxT x st).2 | none => .bad := by rfl
@[simp] theorem w_par {i j : Nat} {a b : SE} : denS F t (.par i j a b) ρ st = sE ρ (denL F t (.cons a (.cons b .nil)) ρ st) fun ds st => match ds with | [a, b] => .nx ((ρ.set i (some a)).set j (some b)) st | _ => .bad := by rfl
@[simp] theorem w_par3 {i j l : Nat} {a b c : SE} : denS F t (.par3 i j l a b c) ρ st = sE ρ (denL F t (.cons a (.cons b (.cons c .nil))) ρ st) fun ds st => match ds with | [a, b, c] => .nx (((ρ.set i (some a)).set j (some b)).set l (some c)) st | _ => .bad := by rfl
@[simp] theorem w_sub {o i e : SE} : denS F t (.sub o i e) ρ st = sE ρ ((den F t e).1 ρ st) fun x st => sE ρ ((den F t o).1 ρ (boxT x st).2) fun a st2 => sE ρ ((den F t i).1 ρ st2) fun b st3 => match putL a b (boxT x st).1 st3 with | some st4 => .nx ρ st4 | none => .bad := by rfl
@[simp] theorem w_if {c : SE} {a b : SB} : denS F t (.ite c a b) ρ st = sE ρ ((den F t c).2 ρ st) fun k st => if k then denSs F t a ρ st else denSs F t b ρ st := by rfl
@[simp] theorem w_for {tg : Tg} {it : IT} {b : SB} : denS F t (.for_ tg it b) ρ st = sE ρ (denI F t it ρ st) fun s st => loopS s.ok tg (denSs F t b) s.items ρ st := by rfl
@[simp] theorem w_mat {e : SE} {c : SC} : denS F t (.mat e c) ρ st = sE ρ ((den F t e).1 ρ st) fun x st => match x with | .d (.p (.str y)) => denM F t c y ρ st | _ => .bad := by rfl
@[simp] theorem w_mcase {ys : List Str} {b : SB} {r : SC} {x : Str} : denM F t (.case ys b r) x ρ st = if ys.contains x then denSs F t b ρ st else denM F t r x ρ st := by
  show sCase ys (denSs F t b) (denM F t r) x ρ st = _
  unfold sCase
  split <;> rfl
@[simp] theorem w_mels {b : SB} {x : Str} : denM F t (.els b) x ρ st = denSs F t b ρ st := by rfl
@[simp] theorem w_mnil {x : Str} : denM F t .nil x ρ st = .nx ρ st := by rfl
@[simp] theorem w_pass : denS F t .pass ρ st = .nx ρ st := by rfl
@[simp] theorem w_brk : denS F t .brk ρ st = .bk ρ st := by rfl
@[simp] theorem w_cont : denS F t .cont ρ st = .ct ρ st := by rfl
@[simp] theorem w_snil : denSs F t .nil ρ st = .nx ρ st := by rfl
@[simp] theorem w_s1 {s : SS} : denSs F t (.cons s .nil) ρ st = denS F t s ρ st := by rfl
@[simp] theorem w_s2 {s s' : SS} {r : SB} : denSs F t (.cons s (.cons s' r)) ρ st = sSeq (denS F t s) (denSs F t (.cons s' r)) ρ st := by rfl
/-! operators -/
@[simp] theorem box_d {x : D} : boxT (.d x) st = (x, st) := by rfl
@[simp] theorem box_l {x : List D} : boxT (.l x) st = (.ref st.length, st ++ [.lst x]) := by rfl
@[simp] theorem o_add {i j : Int} : bop .add (.d (.p (.int i))) (.d (.p (.int j))) st = .ok (.d (.p (.int (i + j)))) st := by rfl
@[simp] theorem o_sub {i j : Int} : bop .sub (.d (.p (.int i))) (.d (.p (.int j))) st = .ok (.d (.p (.int (i - j)))) st := by rfl
@[simp] theorem o_mul {i j : Int} : bop .mul (.d (.p (.int i))) (.d (.p (.int j))) st = if pMul i j then .ok (.d (.p (.int (i * j)))) st else .bad := by rfl
@[simp] theorem o_fdiv {i j : Int} : bop .fdiv (.d (.p (.int i))) (.d (.p (.int j))) st = if pDiv i j then .ok (.d (.p (.int (i / j)))) st else .bad := by rfl
@[simp] theorem o_mod {i j : Int} : bop .mod (.d (.p (.int i))) (.d (.p (.int j))) st = if pMod i j then .ok (.d (.p (.int (i % j)))) st else .bad := by rfl
@[simp] theorem o_pow {i j : Int} : bop .pow (.d (.p (.int i))) (.d (.p (.int j))) st = if pPow i j then .ok (.d (.p (.int (i ^ j.toNat)))) st else .bad := by rfl
@[simp] theorem o_neg {i : Int} : oNeg (.d (.p (.int i))) st = .ok (.d (.p (.int (-i)))) st := by rfl
@[simp] theorem o_lt {i j : Int} : cop .lt (.d (.p (.int i))) (.d (.p (.int j))) st = .ok (.d (.p (.bl (decide (i < j))))) st := by rfl
@[simp] theorem o_le {i j : Int} : cop .le (.d (.p (.int i))) (.d (.p (.int j))) st = .ok (.d (.p (.bl (decide (i ≤ j))))) st := by rfl
@[simp] theorem o_gt {i j : Int} : cop .gt (.d (.p (.int i))) (.d (.p (.int j))) st = .ok (.d (.p (.bl (decide (j < i))))) st := by rfl
@[simp] theorem o_ge {i j : Int} : cop .ge (.d (.p (.int i))) (.d (.p (.int j))) st = .ok (.d (.p (.bl (decide (j ≤ i))))) st := by rfl
@[simp] theorem o_eqi {i j : Int} : cop .eq (.d (.p (.int i))) (.d (.p (.int j))) st = .ok (.d (.p (.bl (decide (i = j))))) st := by rfl
@[simp] theorem o_eqs {i j : Str} : cop .eq (.d (.p (.str i))) (.d (.p (.str j))) st = .ok (.d (.p (.bl (decide (i = j))))) st := by rfl
@[simp] theorem o_nei {i j : Int} : cop .ne (.d (.p (.int i))) (.d (.p (.int j))) st = .ok (.d (.p (.bl (!decide (i = j))))) st := by rfl
@[simp] theorem o_nes {i j : Str} : cop .ne (.d (.p (.str i))) (.d (.p (.str j))) st = .ok (.d (.p (.bl (!decide (i = j))))) st := by rfl
@[simp] theorem o_bl {b : Bool} : blT (.d (.p (.bl b))) st = .ok b st := by rfl
@[simp] theorem tru_bl {b : Bool} : truT (.d (.p (.bl b))) st = .ok b st := by rfl
@[simp] theorem tru_int {i : Int} : truT (.d (.p (.int i))) st = .ok (i != 0) st := by rfl
@[simp] theorem tru_non : truT (.d (.p .non)) st = .ok false st := by rfl
@[simp] theorem o_intT {i : Int} : intT (.d (.p (.int i))) st = .ok (some i) st := by rfl
@[simp] theorem o_int {i : Int} : b1op .int (.d (.p (.int i))) st = .ok (.d (.p (.int i))) st := by rfl
@[simp] theorem o_intb {b : Bool} : b1op .int (.d (.p (.bl b))) st = .ok (.d (.p (.int (if b then 1 else 0)))) st := by rfl
@[simp] theorem o_max {i j : Int} : bNop .max2 [.p (.int i), .p (.int j)] st = .ok (.d (.p (.int (if j > i then j else i)))) st := by rfl
theorem o_ix {a : T} {i : Int} {st : Store} (h : ∀ z, a ≠ .d (.p (.str z))) : oIx a (.d (.p (.int i))) st = oIxL i a st := by
  unfold oIx
  split
  · rename_i z _ _; exact absurd rfl (h z)
  · rename_i h2; cases h2; rfl
  · rename_i h2 _; exact absurd rfl (h2 i)
theorem atI_nat {α : Type} {xs : List α} {k : Nat} : atI xs (k : Int) = xs[k]? := by
  unfold atI ixN
  rw [if_pos (by omega)]
  by_cases h : k < xs.length
  · rw [if_pos (by omega)]; simp
  · rw [if_neg (by omega)]; simp; omega
theorem ix_ref {k j : Nat} {ds : List D} {d : D} (h : st[k]? = some (.lst ds)) (hj : ds[j]? = some d) : oIx (.d (.ref k)) (.d (.p (.int (j : Int)))) st = .ok (.d d) st := by
  rw [o_ix (fun z e => by cases e)]
  have : rdL (.d (.ref k)) st = some ds := by show (match st[k]? with | some (.lst ds) => some ds | _ => none) = _; rw [h]
  unfold oIxL
  rw [this]
  simp only [atI_nat, hj]
theorem ix_l {j : Nat} {ds : List D} {d : D} (hj : ds[j]? = some d) : oIx (.l ds) (.d (.p (.int (j : Int)))) st = .ok (.d d) st := by
  rw [o_ix (fun z e => by cases e)]
  have : rdL (.l ds) st = some ds := rfl
  unfold oIxL
  rw [this]
  simp only [atI_nat, hj]
theorem ix_tup {j : Nat} {xs : List P} {x : P} (hj : xs[j]? = some x) : oIx (.d (.p (.tup xs))) (.d (.p (.int (j : Int)))) st = .ok (.d (.p x)) st := by
  rw [o_ix (fun z e => by cases e)]
  have h1 : rdL (.d (.p (.tup xs))) st = none := rfl
  have h2 : tupOf (.d (.p (.tup xs))) = some (xs.map .p) := rfl
  unfold oIxL
  rw [h1, h2]
  simp only [atI_nat, List.getElem?_map, hj, Option.map]
theorem len_ref {k : Nat} {ds : List D} (h : st[k]? = some (.lst ds)) : b1op .len (.d (.ref k)) st = .ok (.d (.p (.int ds.length))) st := by
  have : rdL (.d (.ref k)) st = some ds := by show (match st[k]? with | some (.lst ds) => some ds | _ => none) = _; rw [h]
  show oLen (.d (.ref k)) st = _
  unfold oLen
  dsimp only
  rw [this]
theorem append_ref {k : Nat} {ds : List D} {d : D} (h : st[k]? = some (.lst ds)) (hl : ds.length < 16777216) : meop .append (.d (.ref k)) [d] st = .ok (.d (.p .non)) (st.set k (.lst (ds ++ [d]))) := by
  show mAppend (.d (.ref k)) [d] st = _
  have : plc (.d (.ref k)) st = some (k, ds) := by show (match st[k]? with | some (.lst ds) => some (k, ds) | _ => none) = _; rw [h]
  unfold mAppend
  rw [this]
  simp only [sizeLine_eq, hl, if_true]
theorem isTy_ref {k : Nat} {ds : List D} (h : st[k]? = some (.lst ds)) : isTy "list" (.d (.ref k)) st = true := by
  unfold isTy
  simp [h, plc, rdL, lstOf]
theorem put_ref {k j : Nat} {ds : List D} {d : D} (h : st[k]? = some (.lst ds)) (hj : j < ds.length) : putL (.d (.ref k)) (.d (.p (.int (j : Int)))) d st = some (st.set k (.lst (ds.set j d))) := by
  have : plc (.d (.ref k)) st = some (k, ds) := by show (match st[k]? with | some (.lst ds) => some (k, ds) | _ => none) = _; rw [h]
  unfold putL
  rw [this]
  have : ixN ds.length (j : Int) = some j := by
    unfold ixN
    rw [if_pos (by omega), if_pos (by omega)]; simp
  simp only [this]
end
@[simp] theorem asg_n {i : Nat} {d : D} {ρ : Rho} : asg (.n i) d ρ = some (ρ.set i (some d)) := by rfl
theorem asg_t {ts : List Tg} {d : D} {ρ : Rho} : asg (.t ts) d ρ = (match tupOf (.d d) with | some ds => asgs ts ds ρ | none => none) := rfl
theorem asgs_nil {ρ : Rho} : asgs [] [] ρ = some ρ := rfl
theorem asgs_cons {t : Tg} {ts : List Tg} {d : D} {ds : List D} {ρ : Rho} : asgs (t :: ts) (d :: ds) ρ = (match asg t d ρ with | some ρ => asgs ts ds ρ | none => none) := rfl
theorem tupOf_p {xs : List P} : tupOf (.d (.p (.tup xs))) = some (xs.map .p) := rfl
theorem tupOf_t {xs : List D} : tupOf (.d (.tup xs)) = some xs := rfl
/-! ### loops -/
theorem loop_to {g : Store → Bool} {tg : Tg} {body : DenS} {Q : RQ} (I : Nat → Rho → Store → Prop) : ∀ (items : List D) (n : Nat) (ρ : Rho) (st : Store), I n ρ st →
    (∀ (i : Nat) (x : D) (ρ : Rho) (st : Store), items[i]? = some x → I (n + i) ρ st → g st = true ∧ ∃ ρ1, asg tg x ρ = some ρ1 ∧ (body ρ1 st).to { nx := I (n + i + 1), ct := I (n + i + 1), bk := Q.nx, rt := Q.rt }) →
    (∀ ρ st, I (n + items.length) ρ st → g st = true ∧ Q.nx ρ st) → (loopS g tg body items ρ st).to Q
  | [], n, ρ, st, h, _, hE => by
    obtain ⟨h1, h2⟩ := hE ρ st h
    unfold loopS
    rw [if_pos h1]
    exact h2
  | x :: xs, n, ρ, st, h, hS, hE => by
    obtain ⟨h1, ρ1, h2, h3⟩ := hS 0 x ρ st rfl h
    unfold loopS
    rw [if_pos h1, h2]
    dsimp only
    have go : ∀ ρ st, I (n + 1) ρ st → (loopS g tg body xs ρ st).to Q := fun ρ st h => loop_to I xs (n + 1) ρ st h (fun i y ρ st e hi => by
      have := hS (i + 1) y ρ st e (by rw [show n + (i + 1) = n + 1 + i by omega]; exact hi)
      rw [show n + 1 + i + 1 = n + (i + 1) + 1 by omega]; exact this) (fun ρ st hi => hE ρ st (by rw [List.length_cons, show n + (xs.length + 1) = n + 1 + xs.length by omega]; exact hi))
    cases e : body ρ1 st with
    | nx ρ2 st2 => rw [e] at h3; exact go _ _ h3
    | ct ρ2 st2 => rw [e] at h3; exact go _ _ h3
    | bk ρ2 st2 => rw [e] at h3; exact h3
    | rt t st2 => rw [e] at h3; exact h3
    | exn _ _ _ _ => rw [e] at h3; exact h3
    | bad => rw [e] at h3; exact h3
/-- a comprehension: J of the turns so far, what was taken, the store -/
theorem comp_to {g : Store → Bool} {tg : Tg} {c : Den Bool} {f : Den T} {ρ0 : Rho} {Q : T → Store → Prop} (J : Nat → List D → Store → Prop) : ∀ (items : List D) (n : Nat) (acc : List D) (st : Store), J n acc st →
    (∀ (i : Nat) (x : D) (acc : List D) (st : Store), items[i]? = some x → J (n + i) acc st → g st = true ∧ ∃ ρ1, asg tg x ρ0 = some ρ1 ∧ (c ρ1 st).to fun b st1 => if b then (f ρ1 st1).to fun t st2 => J (n + i + 1) (acc ++ [(boxT t st2).1]) (boxT t st2).2 else J (n + i + 1) acc st1) →
    (∀ acc st, J (n + items.length) acc st → g st = true ∧ Q (.l acc) st) → (compS g tg c f ρ0 items acc st).to Q
  | [], n, acc, st, h, _, hE => by
    obtain ⟨h1, h2⟩ := hE acc st h
    unfold compS
    rw [if_pos h1]
    exact h2
  | x :: xs, n, acc, st, h, hS, hE => by
    obtain ⟨h1, ρ1, h2, h3⟩ := hS 0 x acc st rfl h
    unfold compS
    rw [if_pos h1, h2]
    dsimp only
    have go : ∀ acc st, J (n + 1) acc st → (compS g tg c f ρ0 xs acc st).to Q := fun acc st h => comp_to J xs (n + 1) acc st h (fun i y acc st e hi => by
      have := hS (i + 1) y acc st e (by rw [show n + (i + 1) = n + 1 + i by omega]; exact hi)
      rw [show n + 1 + i + 1 = n + (i + 1) + 1 by omega]; exact this) (fun acc st hi => hE acc st (by rw [List.length_cons, show n + (xs.length + 1) = n + 1 + xs.length by omega]; exact hi))
    show ((c ρ1 st).nox.bind _).to Q
    rw [R.to_bind, R.to_nox]
    refine R.to_mono h3 fun b st1 h4 => ?_
    by_cases hb : b = true
    · rw [if_pos hb] at h4 ⊢
      rw [R.to_bind, R.to_nox]
      exact R.to_mono h4 fun t st2 h5 => go _ _ h5
    · rw [if_neg hb] at h4 ⊢
      exact go _ _ h4
/-- a comprehension that leaves the store -/
theorem comp_pure {g : Store → Bool} {tg : Tg} {c : Den Bool} {f : Den T} {ρ0 : Rho} {st : Store} {Q : T → Store → Prop} {items : List D} (φ : D → Option D) (hg : g st = true)
    (h : ∀ x ∈ items, ∃ ρ1, asg tg x ρ0 = some ρ1 ∧ (c ρ1 st).to fun b st1 => st1 = st ∧ if b then (f ρ1 st).to fun t st2 => st2 = st ∧ ∃ d, t = .d d ∧ φ x = some d else φ x = none) (q : Q (.l (items.filterMap φ)) st) : (compS g tg c f ρ0 items [] st).to Q := by
  refine comp_to (fun n acc st' => st' = st ∧ acc = (items.take n).filterMap φ) items 0 [] st ⟨rfl, by simp⟩ (fun i x acc st' e hJ => ?_) (fun acc st' hJ => ?_)
  · obtain ⟨rfl, rfl⟩ := hJ
    obtain ⟨ρ1, h1, h2⟩ := h x (List.mem_of_getElem? e)
    have et : items.take (0 + i + 1) = items.take (0 + i) ++ [x] := by rw [List.take_add_one, show (0 + i : Nat) = i by omega, e]; rfl
    refine ⟨hg, ρ1, h1, R.to_mono h2 fun b st1 h3 => ?_⟩
    obtain ⟨rfl, h3⟩ := h3
    by_cases hb : b = true
    · rw [if_pos hb] at h3 ⊢
      refine R.to_mono h3 fun t st2 h4 => ?_
      obtain ⟨rfl, d, rfl, hφ⟩ := h4
      refine ⟨rfl, ?_⟩
      rw [et, List.filterMap_append]
      simp [hφ]
    · rw [if_neg hb] at h3 ⊢
      refine ⟨rfl, ?_⟩
      rw [et, List.filterMap_append]
      simp [h3]
  · obtain ⟨rfl, rfl⟩ := hJ
    refine ⟨hg, ?_⟩
    rw [Nat.zero_add, List.take_length]
    exact q
/-! ### calls -/
theorem body_to {n np : Nat} {body : DenS} {ds : List D} {st : Store} {Q : T → Store → Prop} (hl : ds.length = np) (h : (body (ds.map some ++ List.replicate (n - np) none) st).to { nx := fun _ st => Q (.d (.p .non)) st, rt := Q }) : (fnBody n np body ds st).to Q := by
  unfold fnBody
  rw [if_pos hl]
  cases e : body (ds.map some ++ List.replicate (n - np) none) st <;> rw [e] at h <;> exact h
theorem call_to {dfs : List DR} {t : Tab} {n j : Nat} {d : DR} {ds : List D} {st : Store} {Q : T → Store → Prop} (hd : dfs[j]? = some d) (hs : d.spec = none) (ht : d.tidy = false) (hl : ds.length = d.ps.length)
    (h : (denSs (callN dfs t n) t d.body (ds.map some ++ List.replicate (d.N.length - d.ps.length) none) st).to { nx := fun _ st => Q (.d (.p .non)) st, rt := Q }) : (callN dfs t (n + 1) j ds st).to Q := by
  rw [callN_at hd hs, ht]
  exact body_to hl h
theorem tidy_to {F : List D → Store → R T} {ds : List D} {st : Store} {Q : T → Store → Prop} (h : (F ds st).to fun t st' => ∃ t' st'', tidyT st.length t st' = some t' ∧ tidySt st st' = some st'' ∧ Q t' st'') : (tidy F ds st).to Q := by
  unfold tidy
  cases e : F ds st with
  | ok t st' =>
    rw [e] at h
    obtain ⟨t', st'', h1, h2, h3⟩ := h
    dsimp only
    rw [h1, h2]
    exact h3
  | exn _ _ _ => rw [e] at h; exact h.elim
  | bad => rw [e] at h; exact h.elim
theorem callT_to {dfs : List DR} {t : Tab} {n j : Nat} {d : DR} {ds : List D} {st : Store} {Q : T → Store → Prop} (hd : dfs[j]? = some d) (hs : d.spec = none) (ht : d.tidy = true) (hl : ds.length = d.ps.length)
    (h : (denSs (callN dfs t n) t d.body (ds.map some ++ List.replicate (d.N.length - d.ps.length) none) st).to { nx := fun _ st' => ∃ st'', tidySt st st' = some st'' ∧ Q (.d (.p .non)) st'', rt := fun t st' => ∃ t' st'', tidyT st.length t st' = some t' ∧ tidySt st st' = some st'' ∧ Q t' st'' }) : (callN dfs t (n + 1) j ds st).to Q := by
  rw [callN_at hd hs, ht]
  refine tidy_to (body_to hl (RS.to_mono h (fun _ st h => ?_) (fun _ _ h => h) (fun _ _ h => h) (fun _ _ h => h)))
  obtain ⟨st'', h1, h2⟩ := h
  exact ⟨_, st'', rfl, h1, h2⟩
theorem tidySt_of {st st' st2 : Store} (h1 : st'.take st.length = st2) (h2 : ∀ k o, k < st.length → st2[k]? = some o → st[k]? = some o ∨ closedO st.length o = true) : tidySt st st' = some st2 := by
  subst h1
  unfold tidySt
  rw [if_pos]
  refine List.all_eq_true.mpr fun k hk => ?_
  have hk : k < st.length := by simpa using hk
  cases e : (st'.take st.length)[k]? with
  | none =>
    simp
  | some o =>
    simp only [Bool.or_eq_true, decide_eq_true_eq]
    rcases h2 k o hk e with h | h
    · left; exact h
    · right; exact h
@[simp] theorem closed_p {n : Nat} {x : P} : closedD n (.p x) = true := by rfl
theorem closeds_p {n : Nat} : ∀ {ds : List D}, (∀ d ∈ ds, ∃ x, d = .p x) → closedDs n ds = true
  | [], _ => rfl
  | d :: ds, h => by
    obtain ⟨x, rfl⟩ := h d List.mem_cons_self
    show (true && closedDs n ds) = true
    rw [closeds_p fun d hd => h d (List.mem_cons_of_mem _ hd)]; rfl
end Z
set_option Elab.async false
set_option linter.all false
set_option maxRecDepth 100000
set_option maxHeartbeats 4000000
/-! Z, part Q: the laws' numbers and draws. -/
namespace Z
open PySem PySem.Spec PyProof.Rows L2
abbrev dI (i : Int) : D := .p (.int i)
theorem rng1_ok {j : Nat} {st : Store} (h : j < 2 ^ 62) : rngOf [.p (.int (j : Int))] st = .ok ⟨rangeD 0 j, fun _ => true⟩ st := by
  unfold rngOf
  dsimp only
  rw [if_pos (by constructor <;> omega)]
  simp
theorem rangeD_get {lo : Int} {n i : Nat} {x : D} (h : (rangeD lo n)[i]? = some x) : i < n ∧ x = dI (lo + i) := by
  unfold rangeD at h
  rw [List.getElem?_map] at h
  cases q : (List.range n)[i]? with
  | none => rw [q] at h; cases h
  | some j =>
    rw [q] at h
    obtain ⟨h1, h2⟩ := List.getElem?_eq_some_iff.mp q
    simp at h1 h2
    subst h2
    exact ⟨h1, by cases h; rfl⟩
@[simp] theorem rangeD_len {lo : Int} {n : Nat} : (rangeD lo n).length = n := by simp [rangeD]
def bNumbers : SB := (.cons (.asg (.n 3) (.bN .max2 (.cons (.var 0) (.cons (.bin .sub (.neg (.k (.int 1))) (.var 0)) .nil))))
  (.cons (.asg (.n 4) (.var 3))
  (.cons (.asg (.n 5) (.lst .nil))
  (.cons (.for_ (.n 6) (.rng (.cons (.b1 .len (.var 2)) .nil)) (.cons (.ite (.and (.cons (.cmp .ge (.var 3) (.bin .pow (.k (.int 10)) (.k (.int 18)))) (.cons (.cmp .gt (.var 4) (.k (.int 0))) .nil))) (.cons (.exp (.meth .append (.var 5) (.cons (.bin .mod (.var 4) (.ix (.var 2) (.var 6))) .nil)))
  (.cons (.asg (.n 4) (.bin .fdiv (.var 4) (.ix (.var 2) (.var 6))))
  .nil)) (.cons (.asg (.n 7) (.bin .mod (.bin .pow (.bin .add (.bin .add (.bin .mod (.var 3) (.k (.int 2147483629))) (.bin .mul (.k (.int 7919)) (.var 1))) (.k (.int 1))) (.k (.int 3))) (.k (.int 2147483647))))
  (.cons (.asg (.n 7) (.bin .mod (.bin .mul (.bin .add (.var 7) (.bin .mul (.k (.int 104729)) (.bin .add (.var 6) (.k (.int 1))))) (.bin .add (.var 6) (.k (.int 3)))) (.k (.int 2147483629))))
  (.cons (.asg (.n 7) (.bin .mod (.bin .mul (.bin .mod (.bin .pow (.var 7) (.k (.int 5))) (.k (.int 2147483647))) (.k (.int 48271))) (.k (.int 2147483629))))
  (.cons (.exp (.meth .append (.var 5) (.cons (.bin .mod (.bin .fdiv (.var 7) (.k (.int 16))) (.ix (.var 2) (.var 6))) .nil)))
  .nil)))))
  .nil))
  (.cons (.ret (.var 5))
  .nil)))))
theorem pMul_r {i j : Int} (h1 : -(2 ^ 64) < j) (h2 : j < 2 ^ 64) : pMul i j = true := by unfold pMul; simp only [decide_eq_true h1, decide_eq_true h2, Bool.and_true, Bool.or_true, Bool.true_or]
theorem pMul_l {i j : Int} (h1 : -(2 ^ 64) < i) (h2 : i < 2 ^ 64) : pMul i j = true := by unfold pMul; simp only [decide_eq_true h1, decide_eq_true h2, Bool.and_true, Bool.or_true, Bool.true_or]
theorem pMod_ok {i j : Int} (h : 0 < j) : pMod i j = true := by unfold pMod; simp [h]
theorem pDiv_ok {i j : Int} (h : 0 < j) (h2 : j < 1073741824) : pDiv i j = true := by unfold pDiv; simp [h, h2]
theorem pPow_ok {i j : Int} (h : 0 ≤ i) (h1 : i < 2 ^ 64) (h2 : 0 ≤ j) (h3 : j ≤ 1000000) : pPow i j = true := by unfold pPow; simp [h2, h3]; omega
theorem closed_ints {n : Nat} {xs : List Int} : closedDs n (xs.map dI) = true := closeds_p fun d h => by
  obtain ⟨x, _, rfl⟩ := List.mem_map.mp h
  exact ⟨_, rfl⟩
def InB (xs sizes : List Int) : Prop := ∀ (i : Nat) (x s : Int), xs[i]? = some x → sizes[i]? = some s → 0 ≤ x ∧ x < s
theorem InB.snoc {xs sizes : List Int} {x s : Int} (h : InB xs sizes) (hs : sizes[xs.length]? = some s) (h0 : 0 ≤ x) (h1 : x < s) : InB (xs ++ [x]) sizes := by
  intro i y s' hy hs'
  by_cases hi : i < xs.length
  · rw [List.getElem?_append_left hi] at hy
    exact h i y s' hy hs'
  · rw [List.getElem?_append_right (by omega)] at hy
    have : i = xs.length := by
      have := (List.getElem?_eq_some_iff.mp hy).1
      simp at this; omega
    subst this
    simp at hy
    subst hy
    rw [hs] at hs'; cases hs'
    exact ⟨h0, h1⟩
theorem numbers_to {dfs : List DR} {t : Tab} {n j : Nat} {d : DR} {c salt : Int} {k : Nat} {sizes : List Int} {st : Store} {Q : T → Store → Prop} (hd : dfs[j]? = some d) (hs : d.spec = none) (ht : d.tidy = true) (hb : d.body = bNumbers) (hN : d.N.length = 8) (hp : d.ps.length = 3)
    (hk : st[k]? = some (.lst (sizes.map dI))) (hl : sizes.length ≤ 1000000) (hss : ∀ s ∈ sizes, 0 < s ∧ s < 1073741824) (h0 : 0 ≤ salt) (h1 : salt < 2 ^ 40) (q : ∀ xs : List Int, xs.length = sizes.length → InB xs sizes → Q (.l (xs.map dI)) st) :
    (callN dfs t (n + 1) j [dI c, dI salt, .ref k] st).to Q := by
  have hkl : k < st.length := (List.getElem?_eq_some_iff.mp hk).1
  refine callT_to hd hs ht (by rw [hp]; rfl) ?_
  rw [hb, hN, hp]
  unfold bNumbers
  have hlen := len_ref (st := st ++ [.lst []]) (k := k) (ds := sizes.map dI) (by rw [List.getElem?_append_left hkl]; exact hk)
  simp only [R.to_ok, R.to_bad, R.to_bind, R.bind_ok, R.to_ite, R.nox_ok, R.to_nox, RS.to_nx, RS.to_rt, RS.to_bk, RS.to_ct, RS.to_bad, RS.to_ite, RS.to_sE, sE_ok, w_seq, w_var, w_k, w_gk, w_tup, w_lst, w_lnil, w_lcons, w_bin, w_neg, w_cmp, w_cmpB, w_chain, w_chainB, w_and1, w_and2, w_or1, w_or2, w_andB1, w_andB2, w_orB1, w_orB2, w_not, w_notB, w_ite, w_ix, w_sl, w_no, w_yes, w_call, w_b1, w_bN, w_meth, w_lc, w_cno, w_cyes, w_iof, w_irng, w_ien, w_varB, w_callB, w_ixB, w_b1B, w_binB, w_slB, w_new, w_attr, w_isc, w_ret, w_retN, w_exp, w_asgn, w_asgt, w_par, w_par3, w_sub, w_if, w_for, w_mat, w_mcase, w_mels, w_mnil, w_pass, w_brk, w_cont, w_snil, w_s1, w_s2, box_d, box_l, o_add, o_sub, o_mul, o_fdiv, o_mod, o_pow, o_neg, o_lt, o_le, o_gt, o_ge, o_eqi, o_eqs, o_nei, o_nes, o_bl, tru_bl, tru_int, tru_non, o_intT, o_int, o_intb, o_max, asg_n, closed_p, List.set_cons_zero, List.set_cons_succ, List.getElem?_cons_zero, List.getElem?_cons_succ, List.map_cons, List.map_nil, List.cons_append, List.nil_append, List.length_cons, List.length_nil, List.replicate_succ, List.replicate_zero, Nat.reduceSub, Nat.reduceAdd, if_true, if_false, Bool.false_eq_true, ite_true, ite_false, reduceIte, List.append_nil, Nat.reduceEqDiff, decide_true, decide_false, Bool.and_true, Bool.true_and, Nat.reduceLeDiff, Bool.not_true, Bool.not_false, List.map_map, asg_n, asg_t, tupOf_p, tupOf_t, hlen, List.length_map, rng1_ok (show sizes.length < 2 ^ 62 by omega)]
  generalize hW : (if c < -1 - c then -1 - c else c) = W
  have hW0 : 0 ≤ W := by rw [← hW]; split <;> omega
  refine loop_to (fun i ρ st' => ∃ (L : Int) (a b : Option D) (xs : List Int), ρ = [some (dI c), some (dI salt), some (.ref k), some (dI W), some (dI L), some (.ref st.length), a, b] ∧ st' = st ++ [.lst (xs.map dI)] ∧ xs.length = i ∧ 0 ≤ L ∧ InB xs sizes) _ 0 _ _
    ⟨W, none, none, [], rfl, rfl, rfl, hW0, fun i x s h => by simp at h⟩ (fun i x ρ st' hx hI => ?_) (fun ρ st' hI => ?_)
  · obtain ⟨L, a, b, xs, rfl, rfl, hxl, hL, hB⟩ := hI
    obtain ⟨hi, rfl⟩ := rangeD_get hx
    rw [Nat.zero_add] at hxl
    refine ⟨rfl, _, rfl, ?_⟩
    obtain ⟨s, hsz⟩ : ∃ s, sizes[i]? = some s := ⟨_, List.getElem?_eq_getElem hi⟩
    obtain ⟨hs1, hs2⟩ := hss s (List.mem_of_getElem? hsz)
    have hke : ∀ o, (st ++ [o])[k]? = some (.lst (sizes.map dI)) := fun o => by rw [List.getElem?_append_left hkl]; exact hk
    have hix : ∀ o, oIx (.d (.ref k)) (.d (.p (.int (i : Int)))) (st ++ [o]) = .ok (.d (dI s)) (st ++ [o]) := fun o => ix_ref (hke o) (by simp [hsz])
    have hre : (st ++ [.lst (xs.map dI)])[st.length]? = some (.lst (xs.map dI)) := by simp
    have hap : ∀ y : Int, meop .append (.d (.ref st.length)) [.p (.int y)] (st ++ [.lst (xs.map dI)]) = .ok (.d (.p .non)) (st ++ [.lst ((xs ++ [y]).map dI)]) := fun y => by
      rw [append_ref hre (by simp; omega)]
      simp
    have hty : isTy "list" (.d (.ref st.length)) (st ++ [.lst (xs.map dI)]) = true := isTy_ref hre
    have key : ∀ (v : Int) (L' : Int) (a' b' : Option D), 0 ≤ L' → 0 ≤ v → v < s → ∃ (L : Int) (a b : Option D) (ys : List Int), [some (dI c), some (dI salt), some (.ref k), some (dI W), some (dI L'), some (.ref st.length), a', b'] = [some (dI c), some (dI salt), some (.ref k), some (dI W), some (dI L), some (.ref st.length), a, b] ∧ st ++ [O.lst ((xs ++ [v]).map dI)] = st ++ [.lst (ys.map dI)] ∧ ys.length = 0 + i + 1 ∧ 0 ≤ L ∧ InB ys sizes := fun v L' a' b' h1 h2 h3 =>
      ⟨L', a', b', xs ++ [v], rfl, rfl, by simp [hxl], h1, hB.snoc (by rw [hxl]; exact hsz) h2 h3⟩
    simp only [R.to_ok, R.to_bad, R.to_bind, R.bind_ok, R.to_ite, R.nox_ok, R.to_nox, RS.to_nx, RS.to_rt, RS.to_bk, RS.to_ct, RS.to_bad, RS.to_ite, RS.to_sE, sE_ok, w_seq, w_var, w_k, w_gk, w_tup, w_lst, w_lnil, w_lcons, w_bin, w_neg, w_cmp, w_cmpB, w_chain, w_chainB, w_and1, w_and2, w_or1, w_or2, w_andB1, w_andB2, w_orB1, w_orB2, w_not, w_notB, w_ite, w_ix, w_sl, w_no, w_yes, w_call, w_b1, w_bN, w_meth, w_lc, w_cno, w_cyes, w_iof, w_irng, w_ien, w_varB, w_callB, w_ixB, w_b1B, w_binB, w_slB, w_new, w_attr, w_isc, w_ret, w_retN, w_exp, w_asgn, w_asgt, w_par, w_par3, w_sub, w_if, w_for, w_mat, w_mcase, w_mels, w_mnil, w_pass, w_brk, w_cont, w_snil, w_s1, w_s2, box_d, box_l, o_add, o_sub, o_mul, o_fdiv, o_mod, o_pow, o_neg, o_lt, o_le, o_gt, o_ge, o_eqi, o_eqs, o_nei, o_nes, o_bl, tru_bl, tru_int, tru_non, o_intT, o_int, o_intb, o_max, asg_n, closed_p, List.set_cons_zero, List.set_cons_succ, List.getElem?_cons_zero, List.getElem?_cons_succ, List.map_cons, List.map_nil, List.cons_append, List.nil_append, List.length_cons, List.length_nil, List.replicate_succ, List.replicate_zero, Nat.reduceSub, Nat.reduceAdd, if_true, if_false, Bool.false_eq_true, ite_true, ite_false, reduceIte, List.append_nil, Nat.reduceEqDiff, decide_true, decide_false, Bool.and_true, Bool.true_and, Nat.reduceLeDiff, Bool.not_true, Bool.not_false, List.map_map, asg_n, asg_t, tupOf_p, tupOf_t, Int.zero_add, hix, pMod_ok hs1, pDiv_ok hs1 hs2, hap, hty, show pPow 10 18 = true by rfl]
    have hz : ∀ z : Int, 0 ≤ z % 2147483629 ∧ z % 2147483629 < 2147483629 := fun z => ⟨Int.emod_nonneg z (by decide), Int.emod_lt_of_pos z (by decide)⟩
    have m1 : ∀ z : Int, pMod z 2147483629 = true := fun z => pMod_ok (by decide)
    have m2 : ∀ z : Int, pMod z 2147483647 = true := fun z => pMod_ok (by decide)
    have m3 : ∀ z : Int, pMul 7919 z = true := fun z => pMul_l (by decide) (by decide)
    have m4 : ∀ z : Int, pMul 104729 z = true := fun z => pMul_l (by decide) (by decide)
    have m5 : ∀ z : Int, pMul z ((i : Int) + 3) = true := fun z => pMul_r (by omega) (by omega)
    have m6 : ∀ z : Int, pMul z 48271 = true := fun z => pMul_r (by decide) (by decide)
    have m7 : ∀ z : Int, pPow (z % 2147483629) 5 = true := fun z => pPow_ok (hz z).1 (by have := (hz z).2; omega) (by decide) (by decide)
    have m8 : pPow (W % 2147483629 + 7919 * salt + 1) 3 = true := pPow_ok (by have := (hz W).1; omega) (by have := (hz W).2; omega) (by decide) (by decide)
    have m9 : ∀ z : Int, pDiv z 16 = true := fun z => pDiv_ok (by decide) (by decide)
    simp only [m1, m2, m3, m4, m5, m6, m7, m8, m9, if_true, hix, R.to_ok, R.to_bad, R.to_bind, R.bind_ok, R.to_ite, R.nox_ok, R.to_nox, RS.to_nx, RS.to_rt, RS.to_bk, RS.to_ct, RS.to_bad, RS.to_ite, RS.to_sE, sE_ok, w_seq, w_var, w_k, w_gk, w_tup, w_lst, w_lnil, w_lcons, w_bin, w_neg, w_cmp, w_cmpB, w_chain, w_chainB, w_and1, w_and2, w_or1, w_or2, w_andB1, w_andB2, w_orB1, w_orB2, w_not, w_notB, w_ite, w_ix, w_sl, w_no, w_yes, w_call, w_b1, w_bN, w_meth, w_lc, w_cno, w_cyes, w_iof, w_irng, w_ien, w_varB, w_callB, w_ixB, w_b1B, w_binB, w_slB, w_new, w_attr, w_isc, w_ret, w_retN, w_exp, w_asgn, w_asgt, w_par, w_par3, w_sub, w_if, w_for, w_mat, w_mcase, w_mels, w_mnil, w_pass, w_brk, w_cont, w_snil, w_s1, w_s2, box_d, box_l, o_add, o_sub, o_mul, o_fdiv, o_mod, o_pow, o_neg, o_lt, o_le, o_gt, o_ge, o_eqi, o_eqs, o_nei, o_nes, o_bl, tru_bl, tru_int, tru_non, o_intT, o_int, o_intb, o_max, asg_n, closed_p, List.set_cons_zero, List.set_cons_succ, List.getElem?_cons_zero, List.getElem?_cons_succ, List.map_cons, List.map_nil, List.cons_append, List.nil_append, List.length_cons, List.length_nil, List.replicate_succ, List.replicate_zero, Nat.reduceSub, Nat.reduceAdd, if_true, if_false, Bool.false_eq_true, ite_true, ite_false, reduceIte, List.append_nil, Nat.reduceEqDiff, decide_true, decide_false, Bool.and_true, Bool.true_and, Nat.reduceLeDiff, Bool.not_true, Bool.not_false, List.map_map, asg_n, asg_t, tupOf_p, tupOf_t, pMod_ok hs1, hap]
    split
    · split
      · exact key (L % s) (L / s) _ _ (Int.ediv_nonneg hL (by omega)) (Int.emod_nonneg L (by omega)) (Int.emod_lt_of_pos L hs1)
      · exact key _ L _ _ hL (Int.emod_nonneg _ (by omega)) (Int.emod_lt_of_pos _ hs1)
    · exact key _ L _ _ hL (Int.emod_nonneg _ (by omega)) (Int.emod_lt_of_pos _ hs1)
  · obtain ⟨L, a, b, xs, rfl, rfl, hxl, hL, hB⟩ := hI
    refine ⟨rfl, ?_⟩
    simp only [R.to_ok, R.to_bad, R.to_bind, R.bind_ok, R.to_ite, R.nox_ok, R.to_nox, RS.to_nx, RS.to_rt, RS.to_bk, RS.to_ct, RS.to_bad, RS.to_ite, RS.to_sE, sE_ok, w_seq, w_var, w_k, w_gk, w_tup, w_lst, w_lnil, w_lcons, w_bin, w_neg, w_cmp, w_cmpB, w_chain, w_chainB, w_and1, w_and2, w_or1, w_or2, w_andB1, w_andB2, w_orB1, w_orB2, w_not, w_notB, w_ite, w_ix, w_sl, w_no, w_yes, w_call, w_b1, w_bN, w_meth, w_lc, w_cno, w_cyes, w_iof, w_irng, w_ien, w_varB, w_callB, w_ixB, w_b1B, w_binB, w_slB, w_new, w_attr, w_isc, w_ret, w_retN, w_exp, w_asgn, w_asgt, w_par, w_par3, w_sub, w_if, w_for, w_mat, w_mcase, w_mels, w_mnil, w_pass, w_brk, w_cont, w_snil, w_s1, w_s2, box_d, box_l, o_add, o_sub, o_mul, o_fdiv, o_mod, o_pow, o_neg, o_lt, o_le, o_gt, o_ge, o_eqi, o_eqs, o_nei, o_nes, o_bl, tru_bl, tru_int, tru_non, o_intT, o_int, o_intb, o_max, asg_n, closed_p, List.set_cons_zero, List.set_cons_succ, List.getElem?_cons_zero, List.getElem?_cons_succ, List.map_cons, List.map_nil, List.cons_append, List.nil_append, List.length_cons, List.length_nil, List.replicate_succ, List.replicate_zero, Nat.reduceSub, Nat.reduceAdd, if_true, if_false, Bool.false_eq_true, ite_true, ite_false, reduceIte, List.append_nil, Nat.reduceEqDiff, decide_true, decide_false, Bool.and_true, Bool.true_and, Nat.reduceLeDiff, Bool.not_true, Bool.not_false, List.map_map, asg_n, asg_t, tupOf_p, tupOf_t]
    have hn : closedD st.length (.ref st.length) = false := by show decide (_ < _) = false; simp
    have hg : (st ++ [O.lst (xs.map dI)])[st.length]? = some (.lst (xs.map dI)) := by simp
    refine ⟨.l (xs.map dI), st, ?_, tidySt_of (by simp) fun k o _ h => .inl h, q xs (by rw [hxl, Nat.zero_add, rangeD_len]) hB⟩
    unfold tidyT
    dsimp only
    rw [hn, hg]
    dsimp only
    rw [closed_ints]
    rfl
end Z
set_option Elab.async false
set_option linter.all false
set_option maxRecDepth 100000
set_option maxHeartbeats 4000000
/-! Z, part R: draws. -/
namespace Z
open PySem PySem.Spec PyProof.Rows L2
abbrev dS (x : Str) : D := .p (.str x)
abbrev DS (q : Nat) (a : Nat) : O := .lst [.ref q, dI (a : Int)]
/-- a state of draws stands at s, its numbers at q -/
structure Dr (s q : Nat) (xs : List Int) (st : Store) : Prop where
  at_ : ∃ a : Nat, st[s]? = some (DS q a)
  num : st[q]? = some (.lst (xs.map dI))
  ne : q ≠ s
def Mv (s q : Nat) (st st' : Store) : Prop := ∃ a : Nat, st' = st.set s (DS q a)
section
variable {s q : Nat} {xs : List Int} {st st' st1 st2 : Store} {g : List O}
theorem Dr.lt (h : Dr s q xs st) : s < st.length := by
  obtain ⟨a, e⟩ := h.at_
  exact (List.getElem?_eq_some_iff.mp e).1
theorem Dr.ltq (h : Dr s q xs st) : q < st.length := (List.getElem?_eq_some_iff.mp h.num).1
theorem Dr.app (h : Dr s q xs st) : Dr s q xs (st ++ g) := by
  obtain ⟨a, e⟩ := h.at_
  exact ⟨⟨a, by rw [List.getElem?_append_left h.lt]; exact e⟩, by rw [List.getElem?_append_left h.ltq]; exact h.num, h.ne⟩
theorem Mv.len (h : Mv s q st st') : st'.length = st.length := by
  obtain ⟨a, rfl⟩ := h
  rw [List.length_set]
theorem Mv.trans (h : Mv s q st st') (h' : Mv s q st' st2) : Mv s q st st2 := by
  obtain ⟨a, rfl⟩ := h
  obtain ⟨b, rfl⟩ := h'
  exact ⟨b, by rw [List.set_set]⟩
theorem Mv.get (h : Mv s q st st') {k : Nat} (hk : k ≠ s) : st'[k]? = st[k]? := by
  obtain ⟨a, rfl⟩ := h
  rw [List.getElem?_set_ne (Ne.symm hk)]
theorem Dr.mv (h : Dr s q xs st) (m : Mv s q st st') : Dr s q xs st' := by
  refine ⟨?_, by rw [m.get h.ne]; exact h.num, h.ne⟩
  obtain ⟨a, rfl⟩ := m
  exact ⟨a, by rw [List.getElem?_set_self h.lt]⟩
theorem Dr.refl (h : Dr s q xs st) : Mv s q st st := by
  obtain ⟨a, e⟩ := h.at_
  refine ⟨a, ?_⟩
  obtain ⟨h1, h2⟩ := List.getElem?_eq_some_iff.mp e
  rw [← h2, List.set_getElem_self]
theorem Mv.tidy (h : Dr s q xs st) (m : Mv s q st st1) : tidySt st (st1 ++ g) = some st1 := by
  refine tidySt_of (by rw [← m.len, List.take_left']; rfl) fun k o hk ho => ?_
  by_cases e : k = s
  · subst e
    obtain ⟨a, rfl⟩ := m
    rw [List.getElem?_set_self h.lt] at ho
    cases ho
    right
    show (decide (q < st.length) && (true && true)) = true
    rw [decide_eq_true h.ltq]; rfl
  · left
    rw [← m.get e]; exact ho
theorem get0 {L : Nat} {a : O} (h : st1.length = L) : (st1 ++ a :: g)[L]? = some a := by subst h; simp
theorem get1 {L : Nat} {a b : O} (h : st1.length = L) : (st1 ++ a :: b :: g)[L + 1]? = some b := by subst h; rw [List.getElem?_append_right (by omega)]; simp
theorem get2 {L : Nat} {a b c : O} (h : st1.length = L) : (st1 ++ a :: b :: c :: g)[L + 2]? = some c := by subst h; rw [List.getElem?_append_right (by omega)]; simp
theorem set0 {L : Nat} {a x : O} (h : st1.length = L) : (st1 ++ a :: g).set L x = st1 ++ x :: g := by subst h; rw [List.set_append_right _ _ (by omega)]; simp
theorem set1 {L : Nat} {a b x : O} (h : st1.length = L) : (st1 ++ a :: b :: g).set (L + 1) x = st1 ++ a :: x :: g := by subst h; rw [List.set_append_right _ _ (by omega)]; simp
theorem set2 {L : Nat} {a b c x : O} (h : st1.length = L) : (st1 ++ a :: b :: c :: g).set (L + 2) x = st1 ++ a :: b :: x :: g := by subst h; rw [List.set_append_right _ _ (by omega)]; simp
theorem popAt_ref {k j : Nat} {ds : List D} {d : D} (h : st[k]? = some (.lst ds)) (hj : ds[j]? = some d) (hl : ds.length < 2 ^ 60) : meop .popAt (.d (.ref k)) [dI (j : Int)] st = .ok (.d d) (st.set k (.lst (ds.eraseIdx j))) := by
  show mPopAt (.d (.ref k)) [dI (j : Int)] st = _
  have h1 : plc (.d (.ref k)) st = some (k, ds) := by show (match st[k]? with | some (.lst ds) => some (k, ds) | _ => none) = _; rw [h]
  have hlt := (List.getElem?_eq_some_iff.mp hj).1
  have h2 : seqIndex? (j : Int) ds.length = some j := (ixN_seq (by unfold ixN; rw [if_pos (by omega), if_pos (by omega)]; simp)).1
  unfold mPopAt
  rw [h1]
  dsimp only
  rw [if_pos (by constructor <;> omega), h2]
  dsimp only
  rw [hj]
theorem erase_map {α β : Type} {f : α → β} : ∀ {xs : List α} {i : Nat}, (xs.map f).eraseIdx i = (xs.eraseIdx i).map f
  | [], i => by cases i <;> rfl
  | x :: xs, 0 => rfl
  | x :: xs, i + 1 => by
    show f x :: (xs.map f).eraseIdx i = f x :: (xs.eraseIdx i).map f
    rw [erase_map]
theorem mkTup_p {ps : List P} : mkTup (ps.map .p) = .p (.tup ps) := by unfold mkTup; rw [allP_map]
theorem tuple_ref {k : Nat} {ps : List P} (h : st[k]? = some (.lst (ps.map .p))) : b1op .tuple (.d (.ref k)) st = .ok (.d (.p (.tup ps))) st := by
  have : rdL (.d (.ref k)) st = some (ps.map .p) := by show (match st[k]? with | some (.lst ds) => some ds | _ => none) = _; rw [h]
  show oTuple (.d (.ref k)) st = _
  unfold oTuple
  rw [this]
  dsimp only
  rw [mkTup_p]
theorem tuple_l {ps : List P} : b1op .tuple (.l (ps.map .p)) st = .ok (.d (.p (.tup ps))) st := by
  show oTuple (.l (ps.map .p)) st = _
  have : rdL (.l (ps.map .p)) st = some (ps.map .p) := rfl
  unfold oTuple
  rw [this]
  dsimp only
  rw [mkTup_p]
theorem mapM_p {n : Nat} : ∀ {ps : List P}, (ps.map D.p).mapM (pyD st n) = some (P.pys ps)
  | [] => rfl
  | x :: ps => by
    have h : pyD st n (.p x) = some x.py := by cases n <;> rfl
    rw [List.map_cons, List.mapM_cons, h, mapM_p]
    rfl
theorem repr_ref {k : Nat} {ps : List P} (h : st[k]? = some (.lst (ps.map .p))) (hr : reprOk (.list (P.pys ps)) = true) : b1op .repr (.d (.ref k)) st = .ok (kStr (PyData.list (P.pys ps)).shown) st := by
  show oRepr (.d (.ref k)) st = _
  have e : pyT st 8 (.d (.ref k)) = some (.list (P.pys ps)) := by
    show (match st[k]? with | some (.lst ds) => (ds.mapM (pyD st 7)).map PyData.list | _ => none) = _
    rw [h]
    dsimp only
    rw [mapM_p]; rfl
  unfold oRepr
  rw [e]
  dsimp only
  rw [if_pos hr]
theorem repr_l {ps : List P} (hr : reprOk (.list (P.pys ps)) = true) : b1op .repr (.l (ps.map .p)) st = .ok (kStr (PyData.list (P.pys ps)).shown) st := by
  show oRepr (.l (ps.map .p)) st = _
  have e : pyT st 8 (.l (ps.map .p)) = some (.list (P.pys ps)) := by
    show ((ps.map D.p).mapM (pyD st 8)).map PyData.list = _
    rw [mapM_p]; rfl
  unfold oRepr
  rw [e]
  dsimp only
  rw [if_pos hr]
theorem canLay_strs {l : List Str} (hl : ∀ x ∈ l, PyData.strOk x = true) : PyData.canLayAll0 (P.pys (l.map P.str)) = true := by
  induction l with
  | nil => rfl
  | cons x l ih =>
    show (PyData.strOk x && PyData.canLayAll0 (P.pys (l.map P.str))) = true
    rw [hl x List.mem_cons_self, ih fun y hy => hl y (List.mem_cons_of_mem _ hy)]; rfl
theorem depth_strs : ∀ {l : List Str}, PyData.depthAll (P.pys (l.map P.str)) = 0
  | [] => rfl
  | x :: l => by
    show max 0 (PyData.depthAll (P.pys (l.map P.str))) = 0
    rw [depth_strs]; rfl
/-- a tuple of texts against () -/
theorem ne_unit {l : List Str} (hl : ∀ x ∈ l, PyData.strOk x = true) : cop .ne (.d (.p (.tup (l.map P.str)))) (.d (.p (.tup []))) st = .ok (.d (.p (.bl (!l.isEmpty)))) st := by
  have e1 : eqOk (PyData.tuple (P.pys (l.map P.str))) = true := by
    show (PyData.canLayAll0 (P.pys (l.map P.str)) && decide (PyData.depthAll (P.pys (l.map P.str)) + 1 ≤ 64)) = true
    rw [canLay_strs hl, depth_strs]; rfl
  have e2 : eqOk (PyData.tuple []) = true := by decide +kernel
  show (if eqOk (PyData.tuple (P.pys (l.map P.str))) && eqOk (PyData.tuple []) then R.ok (kBl (!PyData.eqv (.tuple (P.pys (l.map P.str))) (.tuple []))) st else .bad) = _
  rw [e1, e2]
  cases l <;> rfl
def bDraw : SB := (.cons (.asg (.n 2) (.ix (.var 0) (.k (.int 1))))
  (.cons (.sub (.var 0) (.k (.int 1)) (.bin .add (.var 2) (.k (.int 1))))
  (.cons (.ret (.ite (.cmp .lt (.var 2) (.b1 .len (.ix (.var 0) (.k (.int 0))))) (.bin .mod (.b1 .int (.ix (.ix (.var 0) (.k (.int 0))) (.var 2))) (.var 1)) (.k (.int 0))))
  .nil)))
theorem draw_to {dfs : List DR} {t : Tab} {n j : Nat} {d : DR} {m : Int} {Q : T → Store → Prop} (hd : dfs[j]? = some d) (hs : d.spec = none) (ht : d.tidy = false) (hb : d.body = bDraw) (hN : d.N.length = 3) (hp : d.ps.length = 2)
    (h : Dr s q xs st) (hm : 0 < m) (k : ∀ r : Int, 0 ≤ r → r < m → ∀ st', Mv s q st st' → Dr s q xs st' → Q (.d (dI r)) st') : (callN dfs t (n + 1) j [.ref s, dI m] st).to Q := by
  obtain ⟨a, e⟩ := h.at_
  have M : Mv s q st (st.set s (DS q (a + 1))) := ⟨_, rfl⟩
  have h' := h.mv M
  have i1 : oIx (.d (.ref s)) (.d (dI 1)) st = .ok (.d (dI a)) st := ix_ref (j := 1) e rfl
  have e2 : (st.set s (DS q (a + 1)))[s]? = some (DS q (a + 1)) := by rw [List.getElem?_set_self h.lt]
  have p1 : putL (.d (.ref s)) (.d (dI 1)) (dI ((a : Int) + 1)) st = some (st.set s (DS q (a + 1))) := put_ref (j := 1) e (by simp)
  have i2 : oIx (.d (.ref s)) (.d (dI 0)) (st.set s (DS q (a + 1))) = .ok (.d (.ref q)) (st.set s (DS q (a + 1))) := ix_ref (j := 0) e2 rfl
  have l1 : b1op .len (.d (.ref q)) (st.set s (DS q (a + 1))) = .ok (.d (dI xs.length)) (st.set s (DS q (a + 1))) := by
    rw [len_ref h'.num, List.length_map]
  refine call_to hd hs ht (by rw [hp]; rfl) ?_
  rw [hb, hN, hp]
  unfold bDraw
  simp only [R.to_ok, R.to_bad, R.to_bind, R.bind_ok, R.to_ite, R.nox_ok, R.to_nox, RS.to_nx, RS.to_rt, RS.to_bk, RS.to_ct, RS.to_bad, RS.to_ite, RS.to_sE, sE_ok, w_seq, w_var, w_k, w_gk, w_tup, w_lst, w_lnil, w_lcons, w_bin, w_neg, w_cmp, w_cmpB, w_chain, w_chainB, w_and1, w_and2, w_or1, w_or2, w_andB1, w_andB2, w_orB1, w_orB2, w_not, w_notB, w_ite, w_ix, w_sl, w_no, w_yes, w_call, w_b1, w_bN, w_meth, w_lc, w_cno, w_cyes, w_iof, w_irng, w_ien, w_varB, w_callB, w_ixB, w_b1B, w_binB, w_slB, w_new, w_attr, w_isc, w_ret, w_retN, w_exp, w_asgn, w_asgt, w_par, w_par3, w_sub, w_if, w_for, w_mat, w_mcase, w_mels, w_mnil, w_pass, w_brk, w_cont, w_snil, w_s1, w_s2, box_d, box_l, o_add, o_sub, o_mul, o_fdiv, o_mod, o_pow, o_neg, o_lt, o_le, o_gt, o_ge, o_eqi, o_eqs, o_nei, o_nes, o_bl, tru_bl, tru_int, tru_non, o_intT, o_int, o_intb, o_max, asg_n, closed_p, List.set_cons_zero, List.set_cons_succ, List.getElem?_cons_zero, List.getElem?_cons_succ, List.map_cons, List.map_nil, List.cons_append, List.nil_append, List.length_cons, List.length_nil, List.replicate_succ, List.replicate_zero, Nat.reduceSub, Nat.reduceAdd, if_true, if_false, Bool.false_eq_true, ite_true, ite_false, reduceIte, List.append_nil, Nat.reduceEqDiff, decide_true, decide_false, Bool.and_true, Bool.true_and, Nat.reduceLeDiff, Bool.not_true, Bool.not_false, List.map_map, asg_n, asg_t, tupOf_p, tupOf_t, i1, p1, i2, l1]
  by_cases hlt : a < xs.length
  · have i3 : oIx (.d (.ref q)) (.d (dI a)) (st.set s (DS q (a + 1))) = .ok (.d (dI xs[a])) (st.set s (DS q (a + 1))) := ix_ref h'.num (by simp [hlt])
    rw [if_pos (by simp; exact hlt)]
    simp only [R.to_ok, R.to_bad, R.to_bind, R.bind_ok, R.to_ite, R.nox_ok, R.to_nox, RS.to_nx, RS.to_rt, RS.to_bk, RS.to_ct, RS.to_bad, RS.to_ite, RS.to_sE, sE_ok, w_seq, w_var, w_k, w_gk, w_tup, w_lst, w_lnil, w_lcons, w_bin, w_neg, w_cmp, w_cmpB, w_chain, w_chainB, w_and1, w_and2, w_or1, w_or2, w_andB1, w_andB2, w_orB1, w_orB2, w_not, w_notB, w_ite, w_ix, w_sl, w_no, w_yes, w_call, w_b1, w_bN, w_meth, w_lc, w_cno, w_cyes, w_iof, w_irng, w_ien, w_varB, w_callB, w_ixB, w_b1B, w_binB, w_slB, w_new, w_attr, w_isc, w_ret, w_retN, w_exp, w_asgn, w_asgt, w_par, w_par3, w_sub, w_if, w_for, w_mat, w_mcase, w_mels, w_mnil, w_pass, w_brk, w_cont, w_snil, w_s1, w_s2, box_d, box_l, o_add, o_sub, o_mul, o_fdiv, o_mod, o_pow, o_neg, o_lt, o_le, o_gt, o_ge, o_eqi, o_eqs, o_nei, o_nes, o_bl, tru_bl, tru_int, tru_non, o_intT, o_int, o_intb, o_max, asg_n, closed_p, List.set_cons_zero, List.set_cons_succ, List.getElem?_cons_zero, List.getElem?_cons_succ, List.map_cons, List.map_nil, List.cons_append, List.nil_append, List.length_cons, List.length_nil, List.replicate_succ, List.replicate_zero, Nat.reduceSub, Nat.reduceAdd, if_true, if_false, Bool.false_eq_true, ite_true, ite_false, reduceIte, List.append_nil, Nat.reduceEqDiff, decide_true, decide_false, Bool.and_true, Bool.true_and, Nat.reduceLeDiff, Bool.not_true, Bool.not_false, List.map_map, asg_n, asg_t, tupOf_p, tupOf_t, i3, pMod_ok hm]
    exact k _ (Int.emod_nonneg _ (by omega)) (Int.emod_lt_of_pos _ hm) _ M h'
  · rw [if_neg (by simp; omega)]
    exact k 0 (by decide) hm _ M h'
/-- the same in front of g -/
theorem draw_app {dfs : List DR} {t : Tab} {n j : Nat} {d : DR} {m : Int} {Q : T → Store → Prop} (hd : dfs[j]? = some d) (hs : d.spec = none) (ht : d.tidy = false) (hb : d.body = bDraw) (hN : d.N.length = 3) (hp : d.ps.length = 2)
    (h : Dr s q xs st) (hm : 0 < m) (k : ∀ r : Int, 0 ≤ r → r < m → ∀ st', Mv s q st st' → Dr s q xs st' → Q (.d (dI r)) (st' ++ g)) : (callN dfs t (n + 1) j [.ref s, dI m] (st ++ g)).to Q := by
  refine draw_to hd hs ht hb hN hp h.app hm fun r h0 h1 st' m' _ => ?_
  obtain ⟨a, rfl⟩ := m'
  have e : (st ++ g).set s (DS q a) = st.set s (DS q a) ++ g := by rw [List.set_append_left _ _ h.lt]
  rw [e]
  exact k r h0 h1 _ ⟨a, rfl⟩ (h.mv ⟨a, rfl⟩)
end
end Z
set_option Elab.async false
set_option linter.all false
set_option maxRecDepth 100000
set_option maxHeartbeats 4000000
/-! Z, part S: the cells of a script; lists put together; how long a repr is. -/
namespace Z
open PySem PySem.Spec PyProof.Rows L2
@[simp] theorem wipe_nil {ρ : Rho} : wipeR ρ [] = ρ := by rfl
@[simp] theorem wipe_cons {ρ : Rho} {v : Nat} {vs : List Nat} : wipeR ρ (v :: vs) = (wipeR ρ vs).set v none := by rfl
section
variable {st : Store}
theorem add_ref_l {k : Nat} {ds es : List D} (h : st[k]? = some (.lst ds)) (hl : ds.length + es.length ≤ 16777216) : bop .add (.d (.ref k)) (.l es) st = .ok (.l (ds ++ es)) st := by
  have e1 : lstOf (.d (.ref k)) st = some ds := by show (match st[k]? with | some (.lst ds) => some ds | _ => none) = _; rw [h]
  have e2 : lstOf (.l es) st = some es := rfl
  show oAddL (.d (.ref k)) (.l es) st = _
  unfold oAddL
  rw [e1, e2]
  dsimp only
  rw [sizeLine_eq, if_pos hl]
theorem add_l_l {ds es : List D} (hl : ds.length + es.length ≤ 16777216) : bop .add (.l ds) (.l es) st = .ok (.l (ds ++ es)) st := by
  have e1 : lstOf (.l ds) st = some ds := rfl
  have e2 : lstOf (.l es) st = some es := rfl
  show oAddL (.l ds) (.l es) st = _
  unfold oAddL
  rw [e1, e2]
  dsimp only
  rw [sizeLine_eq, if_pos hl]
theorem flat_one {α : Type} {d : α} : ∀ {m : Nat}, (List.replicate m [d]).flatten = List.replicate m d
  | 0 => rfl
  | m + 1 => by rw [List.replicate_succ, List.replicate_succ, List.flatten_cons, flat_one]; rfl
theorem mul_one {d : D} {m : Nat} (hm : m ≤ 1000000) : bop .mul (.l [d]) (.d (.p (.int (m : Int)))) st = .ok (.l (List.replicate m d)) st := by
  show oMulL (m : Int) (.l [d]) st = _
  have e : lstOf (.l [d]) st = some [d] := rfl
  unfold oMulL
  rw [e]
  dsimp only
  rw [sizeLine_eq, if_pos ⟨by omega, by omega, by simp; omega⟩, Int.toNat_natCast, flat_one]
theorem canLay_ints : ∀ {l : List Int}, PyData.canLayAll0 (P.pys (l.map P.int)) = true
  | [] => rfl
  | x :: l => by
    show (true && PyData.canLayAll0 (P.pys (l.map P.int))) = true
    rw [canLay_ints]; rfl
theorem depth_ints : ∀ {l : List Int}, PyData.depthAll (P.pys (l.map P.int)) = 0
  | [] => rfl
  | x :: l => by
    show max 0 (PyData.depthAll (P.pys (l.map P.int))) = 0
    rw [depth_ints]; rfl
theorem kl_nil {l : List Int} : cop .eq (.d (.kl (l.map P.int))) (.l []) st = .ok (.d (.p (.bl l.isEmpty))) st := by
  have e1 : eqOk (PyData.list (P.pys (l.map P.int))) = true := by
    show (PyData.canLayAll0 (P.pys (l.map P.int)) && decide (PyData.depthAll (P.pys (l.map P.int)) + 1 ≤ 64)) = true
    rw [canLay_ints, depth_ints]; rfl
  have e2 : eqOk (PyData.list []) = true := by decide +kernel
  show (if eqOk (PyData.list (P.pys (l.map P.int))) && eqOk (PyData.list []) then R.ok (kBl (PyData.eqv (.list (P.pys (l.map P.int))) (.list []))) st else .bad) = _
  rw [e1, e2]
  cases l <;> rfl
/-- script[:m] + [z] * int(script == []) -/
def cellsE (m z : Int) : SE := .bin .add (.sl (.var 0) .no (.yes (.k (.int m)))) (.bin .mul (.lst (.cons (.k (.int z)) .nil)) (.b1 .int (.cmp .eq (.var 0) (.lst .nil))))
theorem sl_kl {l : List Int} {m : Nat} : oSl none (some (m : Int)) (.d (.kl (l.map P.int))) st = .ok (.l ((l.take m).map dI)) st := by
  show oSlL none (some (m : Int)) (.d (.kl (l.map P.int))) st = _
  have e : rdL (.d (.kl (l.map P.int))) st = some (l.map dI) := by show some ((l.map P.int).map D.p) = _; rw [List.map_map]; rfl
  unfold oSlL
  rw [e]
  dsimp only
  unfold cutD
  rw [HT.sIx_nat, HT.sIx_none, List.drop_zero, Nat.sub_zero, List.length_map, ← List.map_take]
  congr 2
  rw [Nat.min_def]; split
  · rfl
  · rename_i h; rw [List.take_of_length_le (Nat.le_refl _), List.take_of_length_le (by omega)]
def cells (m : Nat) (z : Int) (ns : List Int) : List Int := ns.take m ++ (if ns.isEmpty then [z] else [])
theorem cells_to {F : Nat → List D → Store → R T} {t : Tab} {ρ : Rho} {ns : List Int} {m : Nat} {z : Int} {Q : T → Store → Prop} (h : ρ[0]? = some (some (.kl (ns.map P.int)))) (hm : m ≤ 100) (k : Q (.l ((cells m z ns).map dI)) st) : ((den F t (cellsE (m : Int) z)).1 ρ st).to Q := by
  unfold cellsE
  simp only [R.to_ok, R.to_bad, R.to_bind, R.bind_ok, R.to_ite, R.nox_ok, R.to_nox, RS.to_nx, RS.to_rt, RS.to_bk, RS.to_ct, RS.to_bad, RS.to_ite, RS.to_sE, sE_ok, w_seq, w_var, w_k, w_gk, w_tup, w_lst, w_lnil, w_lcons, w_bin, w_neg, w_cmp, w_cmpB, w_chain, w_chainB, w_and1, w_and2, w_or1, w_or2, w_andB1, w_andB2, w_orB1, w_orB2, w_not, w_notB, w_ite, w_ix, w_sl, w_no, w_yes, w_call, w_b1, w_bN, w_meth, w_lc, w_cno, w_cyes, w_iof, w_irng, w_ien, w_varB, w_callB, w_ixB, w_b1B, w_binB, w_slB, w_new, w_attr, w_isc, w_ret, w_retN, w_exp, w_asgn, w_asgt, w_par, w_par3, w_sub, w_if, w_for, w_mat, w_mcase, w_mels, w_mnil, w_pass, w_brk, w_cont, w_snil, w_s1, w_s2, box_d, box_l, o_add, o_sub, o_mul, o_fdiv, o_mod, o_pow, o_neg, o_lt, o_le, o_gt, o_ge, o_eqi, o_eqs, o_nei, o_nes, o_bl, tru_bl, tru_int, tru_non, o_intT, o_int, o_intb, o_max, asg_n, closed_p, List.set_cons_zero, List.set_cons_succ, List.getElem?_cons_zero, List.getElem?_cons_succ, List.map_cons, List.map_nil, List.cons_append, List.nil_append, List.length_cons, List.length_nil, List.replicate_succ, List.replicate_zero, Nat.reduceSub, Nat.reduceAdd, if_true, if_false, Bool.false_eq_true, ite_true, ite_false, reduceIte, List.append_nil, Nat.reduceEqDiff, decide_true, decide_false, Bool.and_true, Bool.true_and, Nat.reduceLeDiff, Bool.not_true, Bool.not_false, List.map_map, asg_n, asg_t, tupOf_p, tupOf_t, h, sl_kl, kl_nil]
  have e : (if ns.isEmpty = true then (1 : Int) else 0) = ((if ns.isEmpty then 1 else 0 : Nat) : Int) := by split <;> rfl
  rw [e, mul_one (by split <;> omega)]
  simp only [R.to_ok, R.to_bad, R.to_bind, R.bind_ok, R.to_ite, R.nox_ok, R.to_nox, RS.to_nx, RS.to_rt, RS.to_bk, RS.to_ct, RS.to_bad, RS.to_ite, RS.to_sE, sE_ok, w_seq, w_var, w_k, w_gk, w_tup, w_lst, w_lnil, w_lcons, w_bin, w_neg, w_cmp, w_cmpB, w_chain, w_chainB, w_and1, w_and2, w_or1, w_or2, w_andB1, w_andB2, w_orB1, w_orB2, w_not, w_notB, w_ite, w_ix, w_sl, w_no, w_yes, w_call, w_b1, w_bN, w_meth, w_lc, w_cno, w_cyes, w_iof, w_irng, w_ien, w_varB, w_callB, w_ixB, w_b1B, w_binB, w_slB, w_new, w_attr, w_isc, w_ret, w_retN, w_exp, w_asgn, w_asgt, w_par, w_par3, w_sub, w_if, w_for, w_mat, w_mcase, w_mels, w_mnil, w_pass, w_brk, w_cont, w_snil, w_s1, w_s2, box_d, box_l, o_add, o_sub, o_mul, o_fdiv, o_mod, o_pow, o_neg, o_lt, o_le, o_gt, o_ge, o_eqi, o_eqs, o_nei, o_nes, o_bl, tru_bl, tru_int, tru_non, o_intT, o_int, o_intb, o_max, asg_n, closed_p, List.set_cons_zero, List.set_cons_succ, List.getElem?_cons_zero, List.getElem?_cons_succ, List.map_cons, List.map_nil, List.cons_append, List.nil_append, List.length_cons, List.length_nil, List.replicate_succ, List.replicate_zero, Nat.reduceSub, Nat.reduceAdd, if_true, if_false, Bool.false_eq_true, ite_true, ite_false, reduceIte, List.append_nil, Nat.reduceEqDiff, decide_true, decide_false, Bool.and_true, Bool.true_and, Nat.reduceLeDiff, Bool.not_true, Bool.not_false, List.map_map, asg_n, asg_t, tupOf_p, tupOf_t]
  rw [add_l_l (by simp; split <;> omega)]
  simp only [R.to_ok, R.to_bad, R.to_bind, R.bind_ok, R.to_ite, R.nox_ok, R.to_nox, RS.to_nx, RS.to_rt, RS.to_bk, RS.to_ct, RS.to_bad, RS.to_ite, RS.to_sE, sE_ok, w_seq, w_var, w_k, w_gk, w_tup, w_lst, w_lnil, w_lcons, w_bin, w_neg, w_cmp, w_cmpB, w_chain, w_chainB, w_and1, w_and2, w_or1, w_or2, w_andB1, w_andB2, w_orB1, w_orB2, w_not, w_notB, w_ite, w_ix, w_sl, w_no, w_yes, w_call, w_b1, w_bN, w_meth, w_lc, w_cno, w_cyes, w_iof, w_irng, w_ien, w_varB, w_callB, w_ixB, w_b1B, w_binB, w_slB, w_new, w_attr, w_isc, w_ret, w_retN, w_exp, w_asgn, w_asgt, w_par, w_par3, w_sub, w_if, w_for, w_mat, w_mcase, w_mels, w_mnil, w_pass, w_brk, w_cont, w_snil, w_s1, w_s2, box_d, box_l, o_add, o_sub, o_mul, o_fdiv, o_mod, o_pow, o_neg, o_lt, o_le, o_gt, o_ge, o_eqi, o_eqs, o_nei, o_nes, o_bl, tru_bl, tru_int, tru_non, o_intT, o_int, o_intb, o_max, asg_n, closed_p, List.set_cons_zero, List.set_cons_succ, List.getElem?_cons_zero, List.getElem?_cons_succ, List.map_cons, List.map_nil, List.cons_append, List.nil_append, List.length_cons, List.length_nil, List.replicate_succ, List.replicate_zero, Nat.reduceSub, Nat.reduceAdd, if_true, if_false, Bool.false_eq_true, ite_true, ite_false, reduceIte, List.append_nil, Nat.reduceEqDiff, decide_true, decide_false, Bool.and_true, Bool.true_and, Nat.reduceLeDiff, Bool.not_true, Bool.not_false, List.map_map, asg_n, asg_t, tupOf_p, tupOf_t]
  have e2 : (ns.take m).map dI ++ List.replicate (if ns.isEmpty then 1 else 0) (dI z) = (cells m z ns).map dI := by
    unfold cells
    rw [List.map_append]
    split <;> rfl
  rw [e2]
  exact k
theorem cells_len {m : Nat} {z : Int} {ns : List Int} : (cells m z ns).length ≤ m + 1 := by
  unfold cells
  rw [List.length_append, List.length_take]
  split <;> simp <;> omega
theorem enum_l {ds : List D} : enumOf (.l ds) st = .ok ⟨enumD ds, fun _ => true⟩ st := by
  show R.ok (⟨enumD ds, fun st => decide (rdL (.l ds) st = some ds)⟩ : Src) st = _
  have : (fun st => decide (rdL (.l ds) st = some ds)) = fun _ => true := by funext st; exact decide_eq_true rfl
  rw [this]
theorem enum_get {cs : List Int} {i : Nat} {x : D} (h : (enumD (cs.map dI))[i]? = some x) : ∃ c : Int, cs[i]? = some c ∧ x = .p (.tup [.int (i : Int), .int c]) := by
  unfold enumD at h
  rw [List.getElem?_map, List.getElem?_zipIdx, List.getElem?_map] at h
  cases q : cs[i]? with
  | none => rw [q] at h; cases h
  | some c =>
    rw [q] at h
    refine ⟨c, rfl, ?_⟩
    cases h
    simp
    rfl
theorem src_l {ds : List D} : srcOf (.l ds) st = .ok ⟨ds, fun _ => true⟩ st := by
  show R.ok (⟨ds, fun st => decide (rdL (.l ds) st = some ds)⟩ : Src) st = _
  have : (fun st => decide (rdL (.l ds) st = some ds)) = fun _ => true := by funext st; exact decide_eq_true rfl
  rw [this]
end
end Z
set_option Elab.async false
set_option linter.all false
set_option maxRecDepth 100000
set_option maxHeartbeats 4000000
/-! Z, part U: an own exception raised, caught by its base, its field shown. -/
namespace Z
open PySem PySem.Spec PyProof.Rows L2
section
variable {X : Cx} {C fI : Addr} {B newId initId : String} {bmB : List Value} {k : Nat} {fd : FuncData} {pm f x : Str} {e : Expr} {te : TE} {p pos : Pos}
def tRx (C : Addr) (f : Str) (te : TE) : L2.St → Hp → XK → Prop := fun σ H Q => te σ H fun y H1 => ∀ d, H1 d = none → Q (.ref C) (some d) (upd H1 d (.xd [(f, y)]))
theorem pmk_x (T : OexG X.K C B newId initId bmB) (exC : PySem.W.subIn X.K (.ref C) (.type "BaseException") = some true) (tyC : PySem.W.typeIn X.K (.ref C) = some (.type "type")) (iC : PySem.W.findIn X.K (.ref C) "__init__" = some (some (.ref fI))) (tI : PySem.W.typeIn X.K (.ref fI) = some (.type "function")) (F1 : FnOk X.prog X.w X.K X.mg X.base CX0 k fI fd ["self", pm] (spX C f)) (hr : Room (k + 1) X.A) (hb : Binds X.K fd ["self", pm] [])
    (hg : Gl X x) (hm : X.mg x = some (.ref C)) (he : PE X e te) (hdb : (x == ("__debug__" : Str)) = false) (hs : starEach [e] X.env = (false, eval e X.env) :: starEach [] X.env) : PMk X (.Call (.Name x p) [e] [] pos) (tRx C f te) := by
  intro pins s σ H Q I h
  refine wpAny_Call_Name_kw (ld_glob I hg hm ?_ hdb)
  refine PySem.W.callWith_K (h₀ := X.base) I.ok.mod.kin T.kC (thn ((pa_cons he pa_nil hs).run pos pins s σ H (fun vs H1 => match vs with
    | [y] => ∀ d, H1 d = none → Q (.ref C) (some d) (upd H1 d (.xd [(f, y)]))
    | _ => False) I h) fun us s1 ⟨vs, H1, I1, r1, q1⟩ => ⟨I1.kIn, ?_⟩) hs rfl
  obtain ⟨y, ev, q1⟩ : ∃ y, vs = [y] ∧ ∀ d, H1 d = none → Q (.ref C) (some d) (upd H1 d (.xd [(f, y)])) := by
    match vs, q1 with
    | [y], q => exact ⟨y, rfl, q⟩
    | [], q => exact q.elim
    | _ :: _ :: _, q => exact q.elim
  subst ev
  obtain ⟨nm, N', qn, bs, bm, hdct, sn, sub, ab, col, dd, k0, k1, k2, k3, k5, hC, hT⟩ := PySem.W.excInit_of I1.kIn T.q
  show wpAny _ _ (call (.ref C) us) _ _ _
  obtain ⟨hp, g, dr, tk, os⟩ := s1
  have hsz : hp.objs.size ≤ hp.objs.size + 1 := Nat.le_succ _
  have hn : H1 (hp.objs.size + 1) = none := I1.hok.fresh hsz
  have kk : ∀ b o, hp.get? b = some o → ((hp.push (PySem.W.kdv_tup us)).push (PySem.HandSPX.excO C hp.objs.size)).get? b = some o := fun b o e => Heap.get?_push_of_some _ (Heap.get?_push_of_some _ e)
  have hget : ((hp.push (PySem.W.kdv_tup us)).push (PySem.HandSPX.excO C hp.objs.size)).get? (hp.objs.size + 1) = some (PySem.HandSPX.excO C hp.objs.size) := by heap_get
  have I2 : Inv X pins σ (upd H1 (hp.objs.size + 1) (exo (hp.objs.size + 1) C none)) ⟨(hp.push (PySem.W.kdv_tup us)).push (PySem.HandSPX.excO C hp.objs.size), g, dr, tk, os⟩ :=
    I1.laid (t' := tk) (a := hp.objs.size + 1) (o := exo (hp.objs.size + 1) C none) (h' := (hp.push (PySem.W.kdv_tup us)).push (PySem.HandSPX.excO C hp.objs.size)) kk hsz (exo_ok hget)
  have hl1 : us.length = 1 := by rw [← Paired.length r1]; rfl
  have hq : spX C f [.ref (hp.objs.size + 1), y] (upd H1 (hp.objs.size + 1) (exo (hp.objs.size + 1) C none)) (fun v H2 => v = .non ∧ ∃ (d : Addr), H2 (hp.objs.size + 1) = some (exo (hp.objs.size + 1) C (some d)) ∧ H2 d = some (exd d [(f, y)]) ∧ H1 d = none ∧ Q (.ref C) (some d) (upd (del H2 (hp.objs.size + 1)) d (.xd [(f, y)]))) (fun _ _ _ => False) := by
    refine ⟨_, y, rfl, upd_same, fun d n ne => ⟨rfl, d, upd_same, by rw [upd_ne ne]; exact upd_same, by rw [upd_ne ne] at n; exact n, ?_⟩⟩
    have nd : H1 d = none := by rw [upd_ne ne] at n; exact n
    have eH : upd (del (upd (upd (upd H1 (hp.objs.size + 1) (exo (hp.objs.size + 1) C none)) d (exd d [(f, y)])) (hp.objs.size + 1) (exo (hp.objs.size + 1) C (some d))) (hp.objs.size + 1)) d (.xd [(f, y)]) = upd H1 d (.xd [(f, y)]) := by
      funext b
      by_cases hb : b = d
      · rw [hb, upd_same, upd_same]
      · rw [upd_ne hb, upd_ne hb]
        by_cases ha : b = hp.objs.size + 1
        · rw [ha, del_same, hn]
        · rw [del_ne ha, upd_ne ha, upd_ne hb, upd_ne ha]
    rw [eH]
    exact q1 d nd
  refine wpAny_call (PySem.HandSPX.call_own T.fB hT hC (PySem.W.looks_findIn I1.kIn iC) (fun self => PySem.W.bind_fn I1.kIn self tI) (by rw [hl1, sizeLine_eq]; decide)
    (codeAny_mono (F1.run _ X.stack _ _ ⟨Value.ref (hp.objs.size + 1) :: us, []⟩ (Value.ref (hp.objs.size + 1) :: us) [V.ref (hp.objs.size + 1), y] _ (fun _ _ _ => False) (hr.make C us []) (I2.env0.make C us []) (by
      have := hb ⟨(hp.push (PySem.W.kdv_tup us)).push (PySem.HandSPX.excO C hp.objs.size), g, dr, tk, os⟩ (Value.ref (hp.objs.size + 1) :: us) I2.kIn (by simp [hl1])
      simpa using this) (.cons rfl r1) hq) fun r s' hq' => ?_))
  cases r with
  | error er => exact hq'.elim
  | ok fl =>
    cases fl with
    | ret u =>
      obtain ⟨v, H2, os2, bare2, un2, hok2, rv, ev, d, ea, ed, hd1, q2⟩ := hq'
      subst ev
      obtain ⟨h2, g2, d2, t2, os'⟩ := s'
      exact ⟨rv, mk_end (raises_own exC tyC) I1 hsz kk un2 hok2 os2 bare2 ea ed hd1 q2⟩
    | next => exact False.elim hq'
    | brk => exact False.elim hq'
    | cont => exact False.elim hq'
end
def bdR : DenS := fun ρ st => match ρ with
  | [some d, x] => sE [some d, x] (oRepr (.d d) st) .rt
  | _ => .bad
/-- try: raise x(v) except b as n: return repr(n.f) -/
theorem raised_ps {X : Cx} {W : WX} {CA : Nat → Addr} {C D fI : Addr} {B newId initId : String} {bmB : List Value} {k : Nat} {fd : FuncData} {pm f x v n b : Str} {p1 p2 p3 p4 p5 p6 p7 p8 p9 p10 p11 p12 : Pos}
    (hs : X.stack = X.env :: X.outer) (hf : X.env.frame = some X.env.locals) (hc : X.calm = true) (gd : X.A.guards = some []) (hu : X.A.units + 64 < cLine) (tk : Takes X W) (hN : X.N = [v, n]) (hnd : X.N.Nodup) (lv : X.env.scope.names.lookup v = some .local) (ln : X.env.scope.names.lookup n = some .local)
    (dv : (v == ("__debug__" : Str)) = false) (dv2 : (v == ("__classdict__" : Str)) = false) (dn : (n == ("__debug__" : Str)) = false) (dn2 : (n == ("__classdict__" : Str)) = false) (dx : (x == ("__debug__" : Str)) = false) (db : (b == ("__debug__" : Str)) = false)
    (gx : Gl X x) (gb : Gl X b) (gr : Gl X "repr") (mr : X.mg "repr" = none) (mx : X.mg x = some (.ref C)) (mb : X.mg b = some (.ref D)) (he : PySem.W.exmOne X.K (.ref C) (.ref D) = some true)
    (T : OexG X.K C B newId initId bmB) (xf : XfC X.K C) (hno : PySem.W.findIn X.K (.ref C) f = some none) (tyC : PySem.W.typeIn X.K (.ref C) = some (.type "type")) (iC : PySem.W.findIn X.K (.ref C) "__init__" = some (some (.ref fI))) (tI : PySem.W.typeIn X.K (.ref fI) = some (.type "function")) (F1 : FnOk X.prog X.w X.K X.mg X.base CX0 k fI fd ["self", pm] (spX C f)) (hr : Room (k + 1) X.A) (hb : Binds X.K fd ["self", pm] []) :
    PSs X [.Try [.Raise (some (.Call (.Name x p1) [.Name v p2] [] p3)) none p4] [.ExceptHandler (some (.Name b p5)) (some n) [.Return (some (.Call (.Name "repr" p6) [.Attribute (.Name n p7) f p8] [] p9)) p10] p11] [] [] p12] (tS X.K CA W bdR) := by
  have h0 : X.N[0]? = some v := by rw [hN]; rfl
  have h1 : X.N[1]? = some n := by rw [hN]; rfl
  have body : ∀ (W' : WX) (pn : List (Addr × Obj)) (xe : Value → Shared → Prop), Takes (X.tr pn xe) W' → PassesOwn (model X.prog X.w) X.A X.env xe → PSs (X.tr pn xe) [.Raise (some (.Call (.Name x p1) [.Name v p2] [] p3)) none p4] (fun _ σ H => tRx C f (tVar 0) σ H fun cls d H' => W' cls d σ H') := fun W' pn xe tk' _ =>
    pss_one (ps_raise hc tk' (pmk_x T xf.exC tyC iC tI F1 hr hb gx mx (pe_var h0 (.inl lv) dv dv2) dx (star_cons rfl)))
  refine pss_one (ps_imp (ps_try_as (i := 1) (c := .ref D) (Wout := W) (ts := fun a cls d => tRet (tCB (rRepr X.K) (tCons (tXf a cls d C f (tVar 1)) tNil))) hs hf hnd h1 ln ⟨gb, db, .inl mb⟩ tk body fun a oe cls d pn hz hfl =>
    pss_one (ps_ret (pe_callB (X := X.suite a ((a, oe) :: pn)) (call_repr hu gd) gr mr boot_repr' (pa_cons (pe_xf xf hno hz hfl (pe_var h1 (.inl ln) dn dn2) (base_ok rfl)) pa_nil (star_cons rfl)) (by decide) (by decide) (star_cons rfl) rfl))) fun Dd σ H m => ?_)
  obtain ⟨as, st, ρ, S, E, m⟩ := m
  unfold bdR at m
  split at m
  · rename_i d0 x0
    obtain ⟨v0, e0, r0⟩ := E.2 0 d0 rfl
    refine ⟨v0, e0, fun d nd => ⟨true, he, fun _ a na => ?_, fun z => by cases z⟩⟩
    obtain ⟨S', P'⟩ := S.laid (u := .xd [(f, v0)]) nd
    have h2 : 1 < σ.length := by rw [← E.1]; show 1 < 2; decide
    unfold oRepr at m
    split at m
    · rename_i dd hpy
      split at m
      · rename_i hok
        have m : ES X.K CA W Dd as H (.rt (kStr dd.shown) st) := m
        unfold reprOk at hok
        simp only [Bool.and_eq_true, decide_eq_true_eq] at hok
        have hdp := pyT_dp (n := 8) (t := .d d0) S' (r0.post P') hpy
        refine ⟨.ref a, by rw [List.getElem?_set_self h2], rfl, rfl, d, [(f, v0)], v0, rfl, upd_same, by simp [List.lookup], v0, dd, rfl, hdp, hok.1.1, hok.1.2, hok.2, ?_⟩
        exact m as _ (.str dd.shown) P' S' (RD.str (K := X.K) (as := as) (H := upd H d (.xd [(f, v0)]))) trivial
      · exact m.elim
    · exact m.elim
  · exact m.elim
theorem xis_mk {K : PySem.W.Frag} {C : Addr} (h1 : PySem.W.isClsIn K C = true) (h2 : PySem.W.findIn K (.ref C) "__getattribute__" = some (some (.builtin "BaseException.__getattribute__"))) (h3 : PySem.W.findIn K (.ref C) "__getattr__" = some none) (h4 : PySem.W.subIn K (.ref C) (.type "BaseException") = some true)
    (h5 : PySem.W.findIn K (.ref C) "__class__" = some (some (.builtin "object.__class__"))) (h6 : PySem.W.specialIn K (.builtin "object.__class__") "__get__" = some (some (.builtin "getset_descriptor.__get__"))) (h7 : PySem.W.takesIn K (.builtin "object.__class__") = some true) (h8 : PySem.W.mroIn K C (.type "object") = some true) : xisB K C = true := by
  have h1' : (PySem.W.clsIn K C).isSome = true := h1
  unfold xisB
  rw [h1', decide_eq_true h2, decide_eq_true h3, decide_eq_true h4, decide_eq_true h5, decide_eq_true h6, decide_eq_true h7, decide_eq_true h8]; rfl
theorem exm_mk {K : PySem.W.Frag} {C D : Addr} (h1 : PySem.W.subIn K (.ref D) (.type "BaseException") = some true) (h2 : PySem.W.isClsIn K D = true) (h3 : PySem.W.typeIn K (.ref D) = some (.type "type")) (h4 : PySem.W.subIn K (.ref C) (.ref D) = some true) : PySem.W.exmOne K (.ref C) (.ref D) = some true := by
  have e1 : (PySem.W.subIn K (.ref D) (.type "BaseException") == some true) = true := by rw [h1]; rfl
  have e2 : ((PySem.W.clsIn K D).isSome && PySem.W.typeIn K (.ref D) == some (.type "type")) = true := by
    have h2' : (PySem.W.clsIn K D).isSome = true := h2
    rw [h2', h3]; rfl
  show (if (PySem.W.subIn K (.ref D) (.type "BaseException") == some true) = true then (if ((PySem.W.clsIn K D).isSome && PySem.W.typeIn K (.ref D) == some (.type "type")) = true then PySem.W.subIn K (.ref C) (.ref D) else none) else none) = some true
  rw [if_pos e1, if_pos e2]
  exact h4
end Z
set_option Elab.async false
set_option linter.all false
set_option maxRecDepth 100000
set_option maxHeartbeats 4000000
namespace K1
open PySem Z
def sp_law_raised : List D → Store → R T := fnBody 2 1 bdR
def top (i : Nat) : Stmt := PySem.Challenge.pw_releaseweb_k01_error_classes.main.body.getD i (.Pass ⟨0, 0, 0, 0⟩)
/-- slots: 0 _law_script 1 _law_k 2 _law_cell 3 _law_state 4 _law_amount 5 _law_one 6 _law_some 7 _law_at 8 _law_error 9 _law_field 10 _law_other -/
def b_law : SB := (.cons (.for_ (.t [(.n 1), (.n 2)]) (.en (.bin .add (.sl (.var 0) .no (.yes (.k (.int 6)))) (.bin .mul (.lst (.cons (.k (.int 7)) .nil)) (.b1 .int (.cmp .eq (.var 0) (.lst .nil)))))) (.cons (.asg (.n 3) (.lst (.cons (.call 1 (.cons (.var 2) (.cons (.bin .add (.k (.int 100)) (.var 1)) (.cons (.bin .mul (.lst (.cons (.k (.int 420)) .nil)) (.k (.int 4))) .nil)))) (.cons (.k (.int 0)) .nil))))
  (.cons (.asg (.n 4) (.call 2 (.cons (.var 3) (.cons (.k (.int 420)) .nil))))
  (.cons (.asg (.n 5) (.ix (.lst (.cons (.k .non) (.cons (.bin .pow (.var 4) (.k (.int 20))) (.cons (.k (.str "a")) (.cons (.tup (.cons (.k (.str "a")) (.cons (.var 4) .nil))) (.cons (.lst (.cons (.k (.int 1)) .nil)) (.cons (.neg (.var 4)) (.cons (.k (.str "")) (.cons (.k (.bl true)) .nil))))))))) (.call 2 (.cons (.var 3) (.cons (.k (.int 8)) .nil)))))
  (.cons (.asg (.n 6) (.call 3 (.cons (.var 5) .nil)))
  (.cons (.for_ (.t [(.n 7), (.n 8)]) (.en (.var 6)) (.cons (.ite (.cmp .ne (.call 4 (.cons (.var 8) .nil)) (.lc (.cmp .eq (.var 7) (.var 10)) (.n 10) (.rng (.cons (.k (.int 12)) .nil)) .no [("_law_other", 10)])) (.cons (.ret (.k (.bl false)))
  .nil) .nil)
  (.cons (.ite (.cmp .ne (.call 5 (.cons (.var 8) .nil)) (.lst (.cons (.or (.cons (.cmp .lt (.var 7) (.k (.int 7))) (.cons (.cmp .eq (.var 7) (.k (.int 11))) .nil))) (.cons (.cmp .eq (.var 7) (.k (.int 7))) (.cons (.cmp .eq (.var 7) (.k (.int 8))) (.cons (.cmp .in_ (.var 7) (.lst (.cons (.k (.int 9)) (.cons (.k (.int 10)) .nil)))) .nil)))))) (.cons (.ret (.k (.bl false)))
  .nil) .nil)
  .nil)))
  (.cons (.ite (.cmp .ne (.lc (.b1 .repr (.var 9)) (.n 9) (.of (.bin .add (.call 6 (.cons (.var 6) .nil)) (.call 6 (.cons (.call 7 (.cons (.var 5) .nil)) .nil)))) .no [("_law_field", 9)]) (.bin .mul (.lst (.cons (.b1 .repr (.var 5)) .nil)) (.k (.int 24)))) (.cons (.ret (.k (.bl false)))
  .nil) .nil)
  (.cons (.ite (.cmp .ne (.call 8 (.cons (.var 5) .nil)) (.b1 .repr (.var 5))) (.cons (.ret (.k (.bl false)))
  .nil) .nil)
  .nil))))))))
  (.cons (.ret (.k (.bl true)))
  .nil))
def f_law : DR := ⟨"law", top 23, ["_law_script"], ["_law_script", "_law_k", "_law_cell", "_law_state", "_law_amount", "_law_one", "_law_some", "_law_at", "_law_error", "_law_field", "_law_other"], b_law, false, [], none⟩
/-- slots: 0 _law_cell 1 _law_salt 2 _law_sizes 3 _law_whole 4 _law_left 5 _law_result 6 _law_k 7 _law_one -/
def b_law_numbers : SB := (.cons (.asg (.n 3) (.bN .max2 (.cons (.var 0) (.cons (.bin .sub (.neg (.k (.int 1))) (.var 0)) .nil))))
  (.cons (.asg (.n 4) (.var 3))
  (.cons (.asg (.n 5) (.lst .nil))
  (.cons (.for_ (.n 6) (.rng (.cons (.b1 .len (.var 2)) .nil)) (.cons (.ite (.and (.cons (.cmp .ge (.var 3) (.bin .pow (.k (.int 10)) (.k (.int 18)))) (.cons (.cmp .gt (.var 4) (.k (.int 0))) .nil))) (.cons (.exp (.meth .append (.var 5) (.cons (.bin .mod (.var 4) (.ix (.var 2) (.var 6))) .nil)))
  (.cons (.asg (.n 4) (.bin .fdiv (.var 4) (.ix (.var 2) (.var 6))))
  .nil)) (.cons (.asg (.n 7) (.bin .mod (.bin .pow (.bin .add (.bin .add (.bin .mod (.var 3) (.k (.int 2147483629))) (.bin .mul (.k (.int 7919)) (.var 1))) (.k (.int 1))) (.k (.int 3))) (.k (.int 2147483647))))
  (.cons (.asg (.n 7) (.bin .mod (.bin .mul (.bin .add (.var 7) (.bin .mul (.k (.int 104729)) (.bin .add (.var 6) (.k (.int 1))))) (.bin .add (.var 6) (.k (.int 3)))) (.k (.int 2147483629))))
  (.cons (.asg (.n 7) (.bin .mod (.bin .mul (.bin .mod (.bin .pow (.var 7) (.k (.int 5))) (.k (.int 2147483647))) (.k (.int 48271))) (.k (.int 2147483629))))
  (.cons (.exp (.meth .append (.var 5) (.cons (.bin .mod (.bin .fdiv (.var 7) (.k (.int 16))) (.ix (.var 2) (.var 6))) .nil)))
  .nil)))))
  .nil))
  (.cons (.ret (.var 5))
  .nil)))))
def f_law_numbers : DR := ⟨"_law_numbers", top 15, ["_law_cell", "_law_salt", "_law_sizes"], ["_law_cell", "_law_salt", "_law_sizes", "_law_whole", "_law_left", "_law_result", "_law_k", "_law_one"], b_law_numbers, true, [], none⟩
/-- slots: 0 _law_state 1 _law_many 2 _law_at -/
def b_law_draw : SB := (.cons (.asg (.n 2) (.ix (.var 0) (.k (.int 1))))
  (.cons (.sub (.var 0) (.k (.int 1)) (.bin .add (.var 2) (.k (.int 1))))
  (.cons (.ret (.ite (.cmp .lt (.var 2) (.b1 .len (.ix (.var 0) (.k (.int 0))))) (.bin .mod (.b1 .int (.ix (.ix (.var 0) (.k (.int 0))) (.var 2))) (.var 1)) (.k (.int 0))))
  .nil)))
def f_law_draw : DR := ⟨"_law_draw", top 16, ["_law_state", "_law_many"], ["_law_state", "_law_many", "_law_at"], b_law_draw, false, [], none⟩
/-- slots: 0 _law_one 1 _law_some -/
def b_law_made : SB := (.cons (.asg (.n 1) (.lst (.cons (.new false 0 (.var 0)) (.cons (.new false 1 (.var 0)) (.cons (.new false 2 (.var 0)) (.cons (.new false 3 (.var 0)) (.cons (.new false 4 (.var 0)) .nil)))))))
  (.cons (.asg (.n 1) (.bin .add (.var 1) (.lst (.cons (.new false 6 (.var 0)) (.cons (.new false 7 (.var 0)) (.cons (.new false 8 (.var 0)) (.cons (.new false 9 (.var 0)) (.cons (.new false 10 (.var 0)) .nil))))))))
  (.cons (.ret (.bin .add (.var 1) (.lst (.cons (.new false 11 (.var 0)) (.cons (.new false 5 (.var 0)) .nil)))))
  .nil)))
def f_law_made : DR := ⟨"_law_made", top 19, ["_law_one"], ["_law_one", "_law_some"], b_law_made, false, [], none⟩
/-- slots: 0 _law_e 1 _law_some -/
def b_law_kinds : SB := (.cons (.asg (.n 1) (.lst (.cons (.isc (.var 0) "InvalidProgram") (.cons (.isc (.var 0) "InvalidText") (.cons (.isc (.var 0) "InvalidScene") .nil)))))
  (.cons (.asg (.n 1) (.bin .add (.var 1) (.lst (.cons (.isc (.var 0) "InvalidLine") (.cons (.isc (.var 0) "InvalidChoice") (.cons (.isc (.var 0) "UnknownName") .nil))))))
  (.cons (.asg (.n 1) (.bin .add (.var 1) (.lst (.cons (.isc (.var 0) "InvalidCommand") (.cons (.isc (.var 0) "InvalidNumber") (.cons (.isc (.var 0) "LimitExceeded") .nil))))))
  (.cons (.ret (.bin .add (.var 1) (.lst (.cons (.isc (.var 0) "Ring") (.cons (.isc (.var 0) "NothingToUndo") (.cons (.isc (.var 0) "InvalidState") .nil))))))
  .nil))))
def f_law_kinds : DR := ⟨"_law_kinds", top 17, ["_law_e"], ["_law_e", "_law_some"], b_law_kinds, true, [], none⟩
/-- slots: 0 _law_e 1 _law_some -/
def b_law_bases : SB := (.cons (.asg (.n 1) (.lst (.cons (.isc (.var 0) "ReleaseError") (.cons (.isc (.var 0) "ValueError") (.cons (.isc (.var 0) "OverflowError") .nil)))))
  (.cons (.ret (.bin .add (.var 1) (.lst (.cons (.isc (.var 0) "RuntimeError") .nil))))
  .nil))
def f_law_bases : DR := ⟨"_law_bases", top 18, ["_law_e"], ["_law_e", "_law_some"], b_law_bases, true, [], none⟩
/-- slots: 0 _law_some 1 _law_shown -/
def b_law_fields : SB := (.cons (.asg (.n 1) (.lst (.cons (.attr (.ix (.var 0) (.k (.int 0))) "place") (.cons (.attr (.ix (.var 0) (.k (.int 1))) "place") (.cons (.attr (.ix (.var 0) (.k (.int 2))) "value") (.cons (.attr (.ix (.var 0) (.k (.int 3))) "value") (.cons (.attr (.ix (.var 0) (.k (.int 4))) "value") (.cons (.attr (.ix (.var 0) (.k (.int 5))) "name") (.cons (.attr (.ix (.var 0) (.k (.int 6))) "word") .nil)))))))))
  (.cons (.ret (.bin .add (.var 1) (.lst (.cons (.attr (.ix (.var 0) (.k (.int 7))) "value") (.cons (.attr (.ix (.var 0) (.k (.int 8))) "limit") (.cons (.attr (.ix (.var 0) (.k (.int 9))) "number") (.cons (.attr (.ix (.var 0) (.k (.int 10))) "name") (.cons (.attr (.ix (.var 0) (.k (.int 11))) "value") .nil))))))))
  .nil))
def f_law_fields : DR := ⟨"_law_fields", top 21, ["_law_some"], ["_law_some", "_law_shown"], b_law_fields, true, [], none⟩
/-- slots: 0 _law_one 1 _law_some -/
def b_law_named : SB := (.cons (.asg (.n 1) (.lst (.cons (.new true 0 (.var 0)) (.cons (.new true 1 (.var 0)) (.cons (.new true 2 (.var 0)) (.cons (.new true 3 (.var 0)) .nil))))))
  (.cons (.asg (.n 1) (.bin .add (.var 1) (.lst (.cons (.new true 4 (.var 0)) (.cons (.new true 6 (.var 0)) (.cons (.new true 7 (.var 0)) .nil))))))
  (.cons (.asg (.n 1) (.bin .add (.var 1) (.lst (.cons (.new true 8 (.var 0)) (.cons (.new true 9 (.var 0)) (.cons (.new true 10 (.var 0)) (.cons (.new true 11 (.var 0)) .nil)))))))
  (.cons (.ret (.bin .add (.var 1) (.lst (.cons (.new true 5 (.var 0)) .nil))))
  .nil))))
def f_law_named : DR := ⟨"_law_named", top 20, ["_law_one"], ["_law_one", "_law_some"], b_law_named, false, [], none⟩
/-- slots: 0 _law_one 1 _law_e -/
def b_law_raised : SB := .nil
def f_law_raised : DR := ⟨"_law_raised", top 22, ["_law_one"], ["_law_one", "_law_e"], b_law_raised, false, [], (some sp_law_raised)⟩
def defs : List DR := [f_law, f_law_numbers, f_law_draw, f_law_made, f_law_kinds, f_law_bases, f_law_fields, f_law_named, f_law_raised]
def cons : List (Str × P) := []
def nos : List Str := ["enumerate", "int", "range", "repr", "max", "len", "isinstance"]
def isiT : List (Str × Bool) × List (List Bool) := ([], [[true, false, false, false, false, false, false, false, false, false, false, false, true, false, false, false], [false, true, false, false, false, false, false, false, false, false, false, false, true, false, false, false], [false, false, true, false, false, false, false, false, false, false, false, false, true, false, false, false], [false, false, false, true, false, false, false, false, false, false, false, false, true, false, false, false], [false, false, false, false, true, false, false, false, false, false, false, false, true, false, false, false], [false, false, false, false, false, false, false, false, false, false, false, true, true, false, false, false], [false, false, false, false, false, true, false, false, false, false, false, false, true, false, false, false], [false, false, false, false, false, false, true, false, false, false, false, false, true, false, false, false], [false, false, false, false, false, false, false, true, false, false, false, false, false, true, false, false], [false, false, false, false, false, false, false, false, true, false, false, false, false, false, true, false], [false, false, false, false, false, false, false, false, false, true, false, false, false, false, false, true], [false, false, false, false, false, false, false, false, false, false, true, false, false, false, false, true]])
def isxL : List Str := ["InvalidProgram", "InvalidText", "InvalidScene", "InvalidLine", "InvalidChoice", "UnknownName", "InvalidCommand", "InvalidNumber", "LimitExceeded", "Ring", "NothingToUndo", "InvalidState", "ReleaseError", "ValueError", "OverflowError", "RuntimeError"]
def isiF (c : Nat) (x : Str) : Option Bool := (isiT.2[c]?).bind fun r => (isxL.zip r).lookup x
def clss : Cls := { cls := [("InvalidProgram", 0), ("InvalidText", 1), ("InvalidScene", 2), ("InvalidLine", 3), ("InvalidChoice", 4), ("InvalidState", 5), ("UnknownName", 6), ("InvalidCommand", 7), ("InvalidNumber", 8), ("LimitExceeded", 9), ("Ring", 10), ("NothingToUndo", 11)], fld := fun c => ["place", "place", "value", "value", "value", "value", "name", "word", "value", "limit", "number", "name"].getD c "place", kwd := fun c => ["place", "place", "value", "value", "value", "value", "name", "word", "value", "limit", "number", "name"].getD c "place", isi := isiF, isx := isxL }
def tab : Tab := tabOf defs cons nos clss
theorem ck_ok : defs.all (ckDef tab) = true := by decide +kernel
section
open PySem.Spec PyProof.Rows L2
def nameOf (c : Nat) : Str := ["InvalidProgram", "InvalidText", "InvalidScene", "InvalidLine", "InvalidChoice", "InvalidState", "UnknownName", "InvalidCommand", "InvalidNumber", "LimitExceeded", "Ring", "NothingToUndo"].getD c "InvalidProgram"
def CAf (mg : Str → Option Value) (c : Nat) : Addr := match mg (nameOf c) with | some (.ref a) => a | _ => 0
variable {P : Program} {w : World} {K : PySem.W.Frag} {mg : Str → Option Value} {base h : Heap}
theorem cf0 {C g : Addr} {oc kV dc pm cd ct : Value} {od an : Option Addr} {sl : Array (Option Value)} (X : K.In h) (G : h.Ns mainGlobals mg) (A : PySem.W.nsIn K mainGlobals "InvalidProgram" = some (some (.ref C))) (Q : PySem.W.excInitIn K C [.type "Exception", .type "BaseException", .type "object"] "Exception.__new__" = true) (O : PySem.W.excOver K C [.type "Exception", .type "BaseException", .type "object"] = true) (H : PySem.W.hasDictIn K C = true) (S : PySem.W.findIn K (.ref C) "__setattr__" = some (some (.builtin "object.__setattr__"))) (KC : PySem.W.keepIn K (.ref C) = true) (I : PySem.W.findIn K (.ref C) "__init__" = some (some (.ref g))) (T : PySem.W.typeIn K (.ref g) = some (.type "function"))
    (l : K.lookup g = some ⟨oc, od, .func (PySem.W.fnOf "__init__" "InvalidProgram.__init__" (defArgs (inClass (top 2) 0)) (defBody (inClass (top 2) 0)) (defScope (inClass (top 2) 0)) .none kV dc pm an cd ct), sl⟩) (cc : PySem.W.codeIn K cd "InvalidProgram.__init__" = true) (kg : PySem.W.keepIn K (.ref g) = true) (N : PySem.W.findIn K (.ref C) "place" = some none) (bf : BaseF K mg "ReleaseError" "Exception.__init__") : ClsF P w K mg base C "InvalidProgram" "place" "place" :=
  ⟨"Exception", "Exception.__new__", "Exception.__init__", [.type "Exception", .type "BaseException", .type "object"], g, _, ⟨F.excBase_Exception, F.store_Exception, Q, O, H, S, KC⟩, I, T, xinit_fn (fun_mk (st := (inClass (top 2) 0)) l cc kg) (scB_ok (by decide +kernel)) rfl rfl rfl rfl (by decide) (by decide) (fun _ => rfl) ⟨F.excBase_Exception, F.store_Exception, Q, O, H, S, KC⟩ bf N, (fun_mk (st := (inClass (top 2) 0)) l cc kg).binds (fun _ _ _ _ _ _ us hl => match us, hl with | [_, _], _ => rfl), fun _ _ _ => .of_eq rfl, PySem.W.mg_of X G A⟩
theorem cf1 {C g : Addr} {oc kV dc pm cd ct : Value} {od an : Option Addr} {sl : Array (Option Value)} (X : K.In h) (G : h.Ns mainGlobals mg) (A : PySem.W.nsIn K mainGlobals "InvalidText" = some (some (.ref C))) (Q : PySem.W.excInitIn K C [.type "Exception", .type "BaseException", .type "object"] "Exception.__new__" = true) (O : PySem.W.excOver K C [.type "Exception", .type "BaseException", .type "object"] = true) (H : PySem.W.hasDictIn K C = true) (S : PySem.W.findIn K (.ref C) "__setattr__" = some (some (.builtin "object.__setattr__"))) (KC : PySem.W.keepIn K (.ref C) = true) (I : PySem.W.findIn K (.ref C) "__init__" = some (some (.ref g))) (T : PySem.W.typeIn K (.ref g) = some (.type "function"))
    (l : K.lookup g = some ⟨oc, od, .func (PySem.W.fnOf "__init__" "InvalidText.__init__" (defArgs (inClass (top 3) 0)) (defBody (inClass (top 3) 0)) (defScope (inClass (top 3) 0)) .none kV dc pm an cd ct), sl⟩) (cc : PySem.W.codeIn K cd "InvalidText.__init__" = true) (kg : PySem.W.keepIn K (.ref g) = true) (N : PySem.W.findIn K (.ref C) "place" = some none) (bf : BaseF K mg "ReleaseError" "Exception.__init__") : ClsF P w K mg base C "InvalidText" "place" "place" :=
  ⟨"Exception", "Exception.__new__", "Exception.__init__", [.type "Exception", .type "BaseException", .type "object"], g, _, ⟨F.excBase_Exception, F.store_Exception, Q, O, H, S, KC⟩, I, T, xinit_fn (fun_mk (st := (inClass (top 3) 0)) l cc kg) (scB_ok (by decide +kernel)) rfl rfl rfl rfl (by decide) (by decide) (fun _ => rfl) ⟨F.excBase_Exception, F.store_Exception, Q, O, H, S, KC⟩ bf N, (fun_mk (st := (inClass (top 3) 0)) l cc kg).binds (fun _ _ _ _ _ _ us hl => match us, hl with | [_, _], _ => rfl), fun _ _ _ => .of_eq rfl, PySem.W.mg_of X G A⟩
theorem cf2 {C g : Addr} {oc kV dc pm cd ct : Value} {od an : Option Addr} {sl : Array (Option Value)} (X : K.In h) (G : h.Ns mainGlobals mg) (A : PySem.W.nsIn K mainGlobals "InvalidScene" = some (some (.ref C))) (Q : PySem.W.excInitIn K C [.type "Exception", .type "BaseException", .type "object"] "Exception.__new__" = true) (O : PySem.W.excOver K C [.type "Exception", .type "BaseException", .type "object"] = true) (H : PySem.W.hasDictIn K C = true) (S : PySem.W.findIn K (.ref C) "__setattr__" = some (some (.builtin "object.__setattr__"))) (KC : PySem.W.keepIn K (.ref C) = true) (I : PySem.W.findIn K (.ref C) "__init__" = some (some (.ref g))) (T : PySem.W.typeIn K (.ref g) = some (.type "function"))
    (l : K.lookup g = some ⟨oc, od, .func (PySem.W.fnOf "__init__" "InvalidScene.__init__" (defArgs (inClass (top 4) 0)) (defBody (inClass (top 4) 0)) (defScope (inClass (top 4) 0)) .none kV dc pm an cd ct), sl⟩) (cc : PySem.W.codeIn K cd "InvalidScene.__init__" = true) (kg : PySem.W.keepIn K (.ref g) = true) (N : PySem.W.findIn K (.ref C) "value" = some none) (bf : BaseF K mg "ReleaseError" "Exception.__init__") : ClsF P w K mg base C "InvalidScene" "value" "value" :=
  ⟨"Exception", "Exception.__new__", "Exception.__init__", [.type "Exception", .type "BaseException", .type "object"], g, _, ⟨F.excBase_Exception, F.store_Exception, Q, O, H, S, KC⟩, I, T, xinit_fn (fun_mk (st := (inClass (top 4) 0)) l cc kg) (scB_ok (by decide +kernel)) rfl rfl rfl rfl (by decide) (by decide) (fun _ => rfl) ⟨F.excBase_Exception, F.store_Exception, Q, O, H, S, KC⟩ bf N, (fun_mk (st := (inClass (top 4) 0)) l cc kg).binds (fun _ _ _ _ _ _ us hl => match us, hl with | [_, _], _ => rfl), fun _ _ _ => .of_eq rfl, PySem.W.mg_of X G A⟩
theorem cf3 {C g : Addr} {oc kV dc pm cd ct : Value} {od an : Option Addr} {sl : Array (Option Value)} (X : K.In h) (G : h.Ns mainGlobals mg) (A : PySem.W.nsIn K mainGlobals "InvalidLine" = some (some (.ref C))) (Q : PySem.W.excInitIn K C [.type "Exception", .type "BaseException", .type "object"] "Exception.__new__" = true) (O : PySem.W.excOver K C [.type "Exception", .type "BaseException", .type "object"] = true) (H : PySem.W.hasDictIn K C = true) (S : PySem.W.findIn K (.ref C) "__setattr__" = some (some (.builtin "object.__setattr__"))) (KC : PySem.W.keepIn K (.ref C) = true) (I : PySem.W.findIn K (.ref C) "__init__" = some (some (.ref g))) (T : PySem.W.typeIn K (.ref g) = some (.type "function"))
    (l : K.lookup g = some ⟨oc, od, .func (PySem.W.fnOf "__init__" "InvalidLine.__init__" (defArgs (inClass (top 5) 0)) (defBody (inClass (top 5) 0)) (defScope (inClass (top 5) 0)) .none kV dc pm an cd ct), sl⟩) (cc : PySem.W.codeIn K cd "InvalidLine.__init__" = true) (kg : PySem.W.keepIn K (.ref g) = true) (N : PySem.W.findIn K (.ref C) "value" = some none) (bf : BaseF K mg "ReleaseError" "Exception.__init__") : ClsF P w K mg base C "InvalidLine" "value" "value" :=
  ⟨"Exception", "Exception.__new__", "Exception.__init__", [.type "Exception", .type "BaseException", .type "object"], g, _, ⟨F.excBase_Exception, F.store_Exception, Q, O, H, S, KC⟩, I, T, xinit_fn (fun_mk (st := (inClass (top 5) 0)) l cc kg) (scB_ok (by decide +kernel)) rfl rfl rfl rfl (by decide) (by decide) (fun _ => rfl) ⟨F.excBase_Exception, F.store_Exception, Q, O, H, S, KC⟩ bf N, (fun_mk (st := (inClass (top 5) 0)) l cc kg).binds (fun _ _ _ _ _ _ us hl => match us, hl with | [_, _], _ => rfl), fun _ _ _ => .of_eq rfl, PySem.W.mg_of X G A⟩
theorem cf4 {C g : Addr} {oc kV dc pm cd ct : Value} {od an : Option Addr} {sl : Array (Option Value)} (X : K.In h) (G : h.Ns mainGlobals mg) (A : PySem.W.nsIn K mainGlobals "InvalidChoice" = some (some (.ref C))) (Q : PySem.W.excInitIn K C [.type "Exception", .type "BaseException", .type "object"] "Exception.__new__" = true) (O : PySem.W.excOver K C [.type "Exception", .type "BaseException", .type "object"] = true) (H : PySem.W.hasDictIn K C = true) (S : PySem.W.findIn K (.ref C) "__setattr__" = some (some (.builtin "object.__setattr__"))) (KC : PySem.W.keepIn K (.ref C) = true) (I : PySem.W.findIn K (.ref C) "__init__" = some (some (.ref g))) (T : PySem.W.typeIn K (.ref g) = some (.type "function"))
    (l : K.lookup g = some ⟨oc, od, .func (PySem.W.fnOf "__init__" "InvalidChoice.__init__" (defArgs (inClass (top 6) 0)) (defBody (inClass (top 6) 0)) (defScope (inClass (top 6) 0)) .none kV dc pm an cd ct), sl⟩) (cc : PySem.W.codeIn K cd "InvalidChoice.__init__" = true) (kg : PySem.W.keepIn K (.ref g) = true) (N : PySem.W.findIn K (.ref C) "value" = some none) (bf : BaseF K mg "ReleaseError" "Exception.__init__") : ClsF P w K mg base C "InvalidChoice" "value" "value" :=
  ⟨"Exception", "Exception.__new__", "Exception.__init__", [.type "Exception", .type "BaseException", .type "object"], g, _, ⟨F.excBase_Exception, F.store_Exception, Q, O, H, S, KC⟩, I, T, xinit_fn (fun_mk (st := (inClass (top 6) 0)) l cc kg) (scB_ok (by decide +kernel)) rfl rfl rfl rfl (by decide) (by decide) (fun _ => rfl) ⟨F.excBase_Exception, F.store_Exception, Q, O, H, S, KC⟩ bf N, (fun_mk (st := (inClass (top 6) 0)) l cc kg).binds (fun _ _ _ _ _ _ us hl => match us, hl with | [_, _], _ => rfl), fun _ _ _ => .of_eq rfl, PySem.W.mg_of X G A⟩
theorem cf5 {C g : Addr} {oc kV dc pm cd ct : Value} {od an : Option Addr} {sl : Array (Option Value)} (X : K.In h) (G : h.Ns mainGlobals mg) (A : PySem.W.nsIn K mainGlobals "InvalidState" = some (some (.ref C))) (Q : PySem.W.excInitIn K C [.type "Exception", .type "BaseException", .type "object"] "Exception.__new__" = true) (O : PySem.W.excOver K C [.type "Exception", .type "BaseException", .type "object"] = true) (H : PySem.W.hasDictIn K C = true) (S : PySem.W.findIn K (.ref C) "__setattr__" = some (some (.builtin "object.__setattr__"))) (KC : PySem.W.keepIn K (.ref C) = true) (I : PySem.W.findIn K (.ref C) "__init__" = some (some (.ref g))) (T : PySem.W.typeIn K (.ref g) = some (.type "function"))
    (l : K.lookup g = some ⟨oc, od, .func (PySem.W.fnOf "__init__" "InvalidState.__init__" (defArgs (inClass (top 7) 0)) (defBody (inClass (top 7) 0)) (defScope (inClass (top 7) 0)) .none kV dc pm an cd ct), sl⟩) (cc : PySem.W.codeIn K cd "InvalidState.__init__" = true) (kg : PySem.W.keepIn K (.ref g) = true) (N : PySem.W.findIn K (.ref C) "value" = some none) (bf : BaseF K mg "ReleaseError" "Exception.__init__") : ClsF P w K mg base C "InvalidState" "value" "value" :=
  ⟨"Exception", "Exception.__new__", "Exception.__init__", [.type "Exception", .type "BaseException", .type "object"], g, _, ⟨F.excBase_Exception, F.store_Exception, Q, O, H, S, KC⟩, I, T, xinit_fn (fun_mk (st := (inClass (top 7) 0)) l cc kg) (scB_ok (by decide +kernel)) rfl rfl rfl rfl (by decide) (by decide) (fun _ => rfl) ⟨F.excBase_Exception, F.store_Exception, Q, O, H, S, KC⟩ bf N, (fun_mk (st := (inClass (top 7) 0)) l cc kg).binds (fun _ _ _ _ _ _ us hl => match us, hl with | [_, _], _ => rfl), fun _ _ _ => .of_eq rfl, PySem.W.mg_of X G A⟩
theorem cf6 {C g : Addr} {oc kV dc pm cd ct : Value} {od an : Option Addr} {sl : Array (Option Value)} (X : K.In h) (G : h.Ns mainGlobals mg) (A : PySem.W.nsIn K mainGlobals "UnknownName" = some (some (.ref C))) (Q : PySem.W.excInitIn K C [.type "Exception", .type "BaseException", .type "object"] "Exception.__new__" = true) (O : PySem.W.excOver K C [.type "Exception", .type "BaseException", .type "object"] = true) (H : PySem.W.hasDictIn K C = true) (S : PySem.W.findIn K (.ref C) "__setattr__" = some (some (.builtin "object.__setattr__"))) (KC : PySem.W.keepIn K (.ref C) = true) (I : PySem.W.findIn K (.ref C) "__init__" = some (some (.ref g))) (T : PySem.W.typeIn K (.ref g) = some (.type "function"))
    (l : K.lookup g = some ⟨oc, od, .func (PySem.W.fnOf "__init__" "UnknownName.__init__" (defArgs (inClass (top 8) 0)) (defBody (inClass (top 8) 0)) (defScope (inClass (top 8) 0)) .none kV dc pm an cd ct), sl⟩) (cc : PySem.W.codeIn K cd "UnknownName.__init__" = true) (kg : PySem.W.keepIn K (.ref g) = true) (N : PySem.W.findIn K (.ref C) "name" = some none) (bf : BaseF K mg "ReleaseError" "Exception.__init__") : ClsF P w K mg base C "UnknownName" "name" "name" :=
  ⟨"Exception", "Exception.__new__", "Exception.__init__", [.type "Exception", .type "BaseException", .type "object"], g, _, ⟨F.excBase_Exception, F.store_Exception, Q, O, H, S, KC⟩, I, T, xinit_fn (fun_mk (st := (inClass (top 8) 0)) l cc kg) (scB_ok (by decide +kernel)) rfl rfl rfl rfl (by decide) (by decide) (fun _ => rfl) ⟨F.excBase_Exception, F.store_Exception, Q, O, H, S, KC⟩ bf N, (fun_mk (st := (inClass (top 8) 0)) l cc kg).binds (fun _ _ _ _ _ _ us hl => match us, hl with | [_, _], _ => rfl), fun _ _ _ => .of_eq rfl, PySem.W.mg_of X G A⟩
theorem cf7 {C g : Addr} {oc kV dc pm cd ct : Value} {od an : Option Addr} {sl : Array (Option Value)} (X : K.In h) (G : h.Ns mainGlobals mg) (A : PySem.W.nsIn K mainGlobals "InvalidCommand" = some (some (.ref C))) (Q : PySem.W.excInitIn K C [.type "Exception", .type "BaseException", .type "object"] "Exception.__new__" = true) (O : PySem.W.excOver K C [.type "Exception", .type "BaseException", .type "object"] = true) (H : PySem.W.hasDictIn K C = true) (S : PySem.W.findIn K (.ref C) "__setattr__" = some (some (.builtin "object.__setattr__"))) (KC : PySem.W.keepIn K (.ref C) = true) (I : PySem.W.findIn K (.ref C) "__init__" = some (some (.ref g))) (T : PySem.W.typeIn K (.ref g) = some (.type "function"))
    (l : K.lookup g = some ⟨oc, od, .func (PySem.W.fnOf "__init__" "InvalidCommand.__init__" (defArgs (inClass (top 9) 0)) (defBody (inClass (top 9) 0)) (defScope (inClass (top 9) 0)) .none kV dc pm an cd ct), sl⟩) (cc : PySem.W.codeIn K cd "InvalidCommand.__init__" = true) (kg : PySem.W.keepIn K (.ref g) = true) (N : PySem.W.findIn K (.ref C) "word" = some none) (bf : BaseF K mg "ReleaseError" "Exception.__init__") : ClsF P w K mg base C "InvalidCommand" "word" "word" :=
  ⟨"Exception", "Exception.__new__", "Exception.__init__", [.type "Exception", .type "BaseException", .type "object"], g, _, ⟨F.excBase_Exception, F.store_Exception, Q, O, H, S, KC⟩, I, T, xinit_fn (fun_mk (st := (inClass (top 9) 0)) l cc kg) (scB_ok (by decide +kernel)) rfl rfl rfl rfl (by decide) (by decide) (fun _ => rfl) ⟨F.excBase_Exception, F.store_Exception, Q, O, H, S, KC⟩ bf N, (fun_mk (st := (inClass (top 9) 0)) l cc kg).binds (fun _ _ _ _ _ _ us hl => match us, hl with | [_, _], _ => rfl), fun _ _ _ => .of_eq rfl, PySem.W.mg_of X G A⟩
theorem cf8 {C g : Addr} {oc kV dc pm cd ct : Value} {od an : Option Addr} {sl : Array (Option Value)} (X : K.In h) (G : h.Ns mainGlobals mg) (A : PySem.W.nsIn K mainGlobals "InvalidNumber" = some (some (.ref C))) (Q : PySem.W.excInitIn K C [.type "ValueError", .type "Exception", .type "BaseException", .type "object"] "ValueError.__new__" = true) (O : PySem.W.excOver K C [.type "ValueError", .type "Exception", .type "BaseException", .type "object"] = true) (H : PySem.W.hasDictIn K C = true) (S : PySem.W.findIn K (.ref C) "__setattr__" = some (some (.builtin "object.__setattr__"))) (KC : PySem.W.keepIn K (.ref C) = true) (I : PySem.W.findIn K (.ref C) "__init__" = some (some (.ref g))) (T : PySem.W.typeIn K (.ref g) = some (.type "function"))
    (l : K.lookup g = some ⟨oc, od, .func (PySem.W.fnOf "__init__" "InvalidNumber.__init__" (defArgs (inClass (top 10) 0)) (defBody (inClass (top 10) 0)) (defScope (inClass (top 10) 0)) .none kV dc pm an cd ct), sl⟩) (cc : PySem.W.codeIn K cd "InvalidNumber.__init__" = true) (kg : PySem.W.keepIn K (.ref g) = true) (N : PySem.W.findIn K (.ref C) "value" = some none) (bf : BaseF K mg "ValueError" "ValueError.__init__") : ClsF P w K mg base C "InvalidNumber" "value" "value" :=
  ⟨"ValueError", "ValueError.__new__", "ValueError.__init__", [.type "ValueError", .type "Exception", .type "BaseException", .type "object"], g, _, ⟨F.excBase_ValueError, F.store_ValueError, Q, O, H, S, KC⟩, I, T, xinit_fn (fun_mk (st := (inClass (top 10) 0)) l cc kg) (scB_ok (by decide +kernel)) rfl rfl rfl rfl (by decide) (by decide) (fun _ => rfl) ⟨F.excBase_ValueError, F.store_ValueError, Q, O, H, S, KC⟩ bf N, (fun_mk (st := (inClass (top 10) 0)) l cc kg).binds (fun _ _ _ _ _ _ us hl => match us, hl with | [_, _], _ => rfl), fun _ _ _ => .of_eq rfl, PySem.W.mg_of X G A⟩
theorem cf9 {C g : Addr} {oc kV dc pm cd ct : Value} {od an : Option Addr} {sl : Array (Option Value)} (X : K.In h) (G : h.Ns mainGlobals mg) (A : PySem.W.nsIn K mainGlobals "LimitExceeded" = some (some (.ref C))) (Q : PySem.W.excInitIn K C [.type "OverflowError", .type "ArithmeticError", .type "Exception", .type "BaseException", .type "object"] "OverflowError.__new__" = true) (O : PySem.W.excOver K C [.type "OverflowError", .type "ArithmeticError", .type "Exception", .type "BaseException", .type "object"] = true) (H : PySem.W.hasDictIn K C = true) (S : PySem.W.findIn K (.ref C) "__setattr__" = some (some (.builtin "object.__setattr__"))) (KC : PySem.W.keepIn K (.ref C) = true) (I : PySem.W.findIn K (.ref C) "__init__" = some (some (.ref g))) (T : PySem.W.typeIn K (.ref g) = some (.type "function"))
    (l : K.lookup g = some ⟨oc, od, .func (PySem.W.fnOf "__init__" "LimitExceeded.__init__" (defArgs (inClass (top 11) 0)) (defBody (inClass (top 11) 0)) (defScope (inClass (top 11) 0)) .none kV dc pm an cd ct), sl⟩) (cc : PySem.W.codeIn K cd "LimitExceeded.__init__" = true) (kg : PySem.W.keepIn K (.ref g) = true) (N : PySem.W.findIn K (.ref C) "limit" = some none) (bf : BaseF K mg "OverflowError" "OverflowError.__init__") : ClsF P w K mg base C "LimitExceeded" "limit" "limit" :=
  ⟨"OverflowError", "OverflowError.__new__", "OverflowError.__init__", [.type "OverflowError", .type "ArithmeticError", .type "Exception", .type "BaseException", .type "object"], g, _, ⟨F.excBase_OverflowError, F.store_OverflowError, Q, O, H, S, KC⟩, I, T, xinit_fn (fun_mk (st := (inClass (top 11) 0)) l cc kg) (scB_ok (by decide +kernel)) rfl rfl rfl rfl (by decide) (by decide) (fun _ => rfl) ⟨F.excBase_OverflowError, F.store_OverflowError, Q, O, H, S, KC⟩ bf N, (fun_mk (st := (inClass (top 11) 0)) l cc kg).binds (fun _ _ _ _ _ _ us hl => match us, hl with | [_, _], _ => rfl), fun _ _ _ => .of_eq rfl, PySem.W.mg_of X G A⟩
theorem cf10 {C g : Addr} {oc kV dc pm cd ct : Value} {od an : Option Addr} {sl : Array (Option Value)} (X : K.In h) (G : h.Ns mainGlobals mg) (A : PySem.W.nsIn K mainGlobals "Ring" = some (some (.ref C))) (Q : PySem.W.excInitIn K C [.type "RuntimeError", .type "Exception", .type "BaseException", .type "object"] "RuntimeError.__new__" = true) (O : PySem.W.excOver K C [.type "RuntimeError", .type "Exception", .type "BaseException", .type "object"] = true) (H : PySem.W.hasDictIn K C = true) (S : PySem.W.findIn K (.ref C) "__setattr__" = some (some (.builtin "object.__setattr__"))) (KC : PySem.W.keepIn K (.ref C) = true) (I : PySem.W.findIn K (.ref C) "__init__" = some (some (.ref g))) (T : PySem.W.typeIn K (.ref g) = some (.type "function"))
    (l : K.lookup g = some ⟨oc, od, .func (PySem.W.fnOf "__init__" "Ring.__init__" (defArgs (inClass (top 12) 0)) (defBody (inClass (top 12) 0)) (defScope (inClass (top 12) 0)) .none kV dc pm an cd ct), sl⟩) (cc : PySem.W.codeIn K cd "Ring.__init__" = true) (kg : PySem.W.keepIn K (.ref g) = true) (N : PySem.W.findIn K (.ref C) "number" = some none) (bf : BaseF K mg "RuntimeError" "RuntimeError.__init__") : ClsF P w K mg base C "Ring" "number" "number" :=
  ⟨"RuntimeError", "RuntimeError.__new__", "RuntimeError.__init__", [.type "RuntimeError", .type "Exception", .type "BaseException", .type "object"], g, _, ⟨F.excBase_RuntimeError, F.store_RuntimeError, Q, O, H, S, KC⟩, I, T, xinit_fn (fun_mk (st := (inClass (top 12) 0)) l cc kg) (scB_ok (by decide +kernel)) rfl rfl rfl rfl (by decide) (by decide) (fun _ => rfl) ⟨F.excBase_RuntimeError, F.store_RuntimeError, Q, O, H, S, KC⟩ bf N, (fun_mk (st := (inClass (top 12) 0)) l cc kg).binds (fun _ _ _ _ _ _ us hl => match us, hl with | [_, _], _ => rfl), fun _ _ _ => .of_eq rfl, PySem.W.mg_of X G A⟩
theorem cf11 {C g : Addr} {oc kV dc pm cd ct : Value} {od an : Option Addr} {sl : Array (Option Value)} (X : K.In h) (G : h.Ns mainGlobals mg) (A : PySem.W.nsIn K mainGlobals "NothingToUndo" = some (some (.ref C))) (Q : PySem.W.excInitIn K C [.type "RuntimeError", .type "Exception", .type "BaseException", .type "object"] "RuntimeError.__new__" = true) (O : PySem.W.excOver K C [.type "RuntimeError", .type "Exception", .type "BaseException", .type "object"] = true) (H : PySem.W.hasDictIn K C = true) (S : PySem.W.findIn K (.ref C) "__setattr__" = some (some (.builtin "object.__setattr__"))) (KC : PySem.W.keepIn K (.ref C) = true) (I : PySem.W.findIn K (.ref C) "__init__" = some (some (.ref g))) (T : PySem.W.typeIn K (.ref g) = some (.type "function"))
    (l : K.lookup g = some ⟨oc, od, .func (PySem.W.fnOf "__init__" "NothingToUndo.__init__" (defArgs (inClass (top 13) 0)) (defBody (inClass (top 13) 0)) (defScope (inClass (top 13) 0)) .none kV dc pm an cd ct), sl⟩) (cc : PySem.W.codeIn K cd "NothingToUndo.__init__" = true) (kg : PySem.W.keepIn K (.ref g) = true) (N : PySem.W.findIn K (.ref C) "name" = some none) (bf : BaseF K mg "RuntimeError" "RuntimeError.__init__") : ClsF P w K mg base C "NothingToUndo" "name" "name" :=
  ⟨"RuntimeError", "RuntimeError.__new__", "RuntimeError.__init__", [.type "RuntimeError", .type "Exception", .type "BaseException", .type "object"], g, _, ⟨F.excBase_RuntimeError, F.store_RuntimeError, Q, O, H, S, KC⟩, I, T, xinit_fn (fun_mk (st := (inClass (top 13) 0)) l cc kg) (scB_ok (by decide +kernel)) rfl rfl rfl rfl (by decide) (by decide) (fun _ => rfl) ⟨F.excBase_RuntimeError, F.store_RuntimeError, Q, O, H, S, KC⟩ bf N, (fun_mk (st := (inClass (top 13) 0)) l cc kg).binds (fun _ _ _ _ _ _ us hl => match us, hl with | [_, _], _ => rfl), fun _ _ _ => .of_eq rfl, PySem.W.mg_of X G A⟩
theorem lookup_mem {x : Str} {b : Bool} : ∀ {l : List (Str × Bool)}, l.lookup x = some b → (x, b) ∈ l := fun h => PySem.mem_of_lookup h
theorem all_mk {fa : Addr} {f0 : Addr} {oc0 kV0 dc0 pm0 cd0 ct0 : Value} {od0 an0 : Option Addr} {sl0 : Array (Option Value)} {f1 : Addr} {oc1 kV1 dc1 pm1 cd1 ct1 : Value} {od1 an1 : Option Addr} {sl1 : Array (Option Value)} {f2 : Addr} {oc2 kV2 dc2 pm2 cd2 ct2 : Value} {od2 an2 : Option Addr} {sl2 : Array (Option Value)} {f3 : Addr} {oc3 kV3 dc3 pm3 cd3 ct3 : Value} {od3 an3 : Option Addr} {sl3 : Array (Option Value)} {f4 : Addr} {oc4 kV4 dc4 pm4 cd4 ct4 : Value} {od4 an4 : Option Addr} {sl4 : Array (Option Value)} {f5 : Addr} {oc5 kV5 dc5 pm5 cd5 ct5 : Value} {od5 an5 : Option Addr} {sl5 : Array (Option Value)} {f6 : Addr} {oc6 kV6 dc6 pm6 cd6 ct6 : Value} {od6 an6 : Option Addr} {sl6 : Array (Option Value)} {f7 : Addr} {oc7 kV7 dc7 pm7 cd7 ct7 : Value} {od7 an7 : Option Addr} {sl7 : Array (Option Value)} {f8 : Addr} {oc8 kV8 dc8 pm8 cd8 ct8 : Value} {od8 an8 : Option Addr} {sl8 : Array (Option Value)} {B_ReleaseError : Addr} {C0 g0 : Addr} {xoc0 xkV0 xdc0 xpm0 xcd0 xct0 : Value} {xod0 xan0 : Option Addr} {xsl0 : Array (Option Value)} {C1 g1 : Addr} {xoc1 xkV1 xdc1 xpm1 xcd1 xct1 : Value} {xod1 xan1 : Option Addr} {xsl1 : Array (Option Value)} {C2 g2 : Addr} {xoc2 xkV2 xdc2 xpm2 xcd2 xct2 : Value} {xod2 xan2 : Option Addr} {xsl2 : Array (Option Value)} {C3 g3 : Addr} {xoc3 xkV3 xdc3 xpm3 xcd3 xct3 : Value} {xod3 xan3 : Option Addr} {xsl3 : Array (Option Value)} {C4 g4 : Addr} {xoc4 xkV4 xdc4 xpm4 xcd4 xct4 : Value} {xod4 xan4 : Option Addr} {xsl4 : Array (Option Value)} {C5 g5 : Addr} {xoc5 xkV5 xdc5 xpm5 xcd5 xct5 : Value} {xod5 xan5 : Option Addr} {xsl5 : Array (Option Value)} {C6 g6 : Addr} {xoc6 xkV6 xdc6 xpm6 xcd6 xct6 : Value} {xod6 xan6 : Option Addr} {xsl6 : Array (Option Value)} {C7 g7 : Addr} {xoc7 xkV7 xdc7 xpm7 xcd7 xct7 : Value} {xod7 xan7 : Option Addr} {xsl7 : Array (Option Value)} {C8 g8 : Addr} {xoc8 xkV8 xdc8 xpm8 xcd8 xct8 : Value} {xod8 xan8 : Option Addr} {xsl8 : Array (Option Value)} {C9 g9 : Addr} {xoc9 xkV9 xdc9 xpm9 xcd9 xct9 : Value} {xod9 xan9 : Option Addr} {xsl9 : Array (Option Value)} {C10 g10 : Addr} {xoc10 xkV10 xdc10 xpm10 xcd10 xct10 : Value} {xod10 xan10 : Option Addr} {xsl10 : Array (Option Value)} {C11 g11 : Addr} {xoc11 xkV11 xdc11 xpm11 xcd11 xct11 : Value} {xod11 xan11 : Option Addr} {xsl11 : Array (Option Value)}
    (X : K.In h) (G : h.Ns mainGlobals mg) (hmg : mg "law" = some (.ref fa))
    (a0 : PySem.W.nsIn K mainGlobals "law" = some (some (.ref f0)))
    (l0 : K.lookup f0 = some ⟨oc0, od0, .func (PySem.W.fnOf "law" "law" (defArgs (top 23)) (defBody (top 23)) (defScope (top 23)) .none kV0 dc0 pm0 an0 cd0 ct0), sl0⟩)
    (c0 : PySem.W.codeIn K cd0 "law" = true) (k0 : PySem.W.keepIn K (.ref f0) = true)
    (a1 : PySem.W.nsIn K mainGlobals "_law_numbers" = some (some (.ref f1)))
    (l1 : K.lookup f1 = some ⟨oc1, od1, .func (PySem.W.fnOf "_law_numbers" "_law_numbers" (defArgs (top 15)) (defBody (top 15)) (defScope (top 15)) .none kV1 dc1 pm1 an1 cd1 ct1), sl1⟩)
    (c1 : PySem.W.codeIn K cd1 "_law_numbers" = true) (k1 : PySem.W.keepIn K (.ref f1) = true)
    (a2 : PySem.W.nsIn K mainGlobals "_law_draw" = some (some (.ref f2)))
    (l2 : K.lookup f2 = some ⟨oc2, od2, .func (PySem.W.fnOf "_law_draw" "_law_draw" (defArgs (top 16)) (defBody (top 16)) (defScope (top 16)) .none kV2 dc2 pm2 an2 cd2 ct2), sl2⟩)
    (c2 : PySem.W.codeIn K cd2 "_law_draw" = true) (k2 : PySem.W.keepIn K (.ref f2) = true)
    (a3 : PySem.W.nsIn K mainGlobals "_law_made" = some (some (.ref f3)))
    (l3 : K.lookup f3 = some ⟨oc3, od3, .func (PySem.W.fnOf "_law_made" "_law_made" (defArgs (top 19)) (defBody (top 19)) (defScope (top 19)) .none kV3 dc3 pm3 an3 cd3 ct3), sl3⟩)
    (c3 : PySem.W.codeIn K cd3 "_law_made" = true) (k3 : PySem.W.keepIn K (.ref f3) = true)
    (a4 : PySem.W.nsIn K mainGlobals "_law_kinds" = some (some (.ref f4)))
    (l4 : K.lookup f4 = some ⟨oc4, od4, .func (PySem.W.fnOf "_law_kinds" "_law_kinds" (defArgs (top 17)) (defBody (top 17)) (defScope (top 17)) .none kV4 dc4 pm4 an4 cd4 ct4), sl4⟩)
    (c4 : PySem.W.codeIn K cd4 "_law_kinds" = true) (k4 : PySem.W.keepIn K (.ref f4) = true)
    (a5 : PySem.W.nsIn K mainGlobals "_law_bases" = some (some (.ref f5)))
    (l5 : K.lookup f5 = some ⟨oc5, od5, .func (PySem.W.fnOf "_law_bases" "_law_bases" (defArgs (top 18)) (defBody (top 18)) (defScope (top 18)) .none kV5 dc5 pm5 an5 cd5 ct5), sl5⟩)
    (c5 : PySem.W.codeIn K cd5 "_law_bases" = true) (k5 : PySem.W.keepIn K (.ref f5) = true)
    (a6 : PySem.W.nsIn K mainGlobals "_law_fields" = some (some (.ref f6)))
    (l6 : K.lookup f6 = some ⟨oc6, od6, .func (PySem.W.fnOf "_law_fields" "_law_fields" (defArgs (top 21)) (defBody (top 21)) (defScope (top 21)) .none kV6 dc6 pm6 an6 cd6 ct6), sl6⟩)
    (c6 : PySem.W.codeIn K cd6 "_law_fields" = true) (k6 : PySem.W.keepIn K (.ref f6) = true)
    (a7 : PySem.W.nsIn K mainGlobals "_law_named" = some (some (.ref f7)))
    (l7 : K.lookup f7 = some ⟨oc7, od7, .func (PySem.W.fnOf "_law_named" "_law_named" (defArgs (top 20)) (defBody (top 20)) (defScope (top 20)) .none kV7 dc7 pm7 an7 cd7 ct7), sl7⟩)
    (c7 : PySem.W.codeIn K cd7 "_law_named" = true) (k7 : PySem.W.keepIn K (.ref f7) = true)
    (a8 : PySem.W.nsIn K mainGlobals "_law_raised" = some (some (.ref f8)))
    (l8 : K.lookup f8 = some ⟨oc8, od8, .func (PySem.W.fnOf "_law_raised" "_law_raised" (defArgs (top 22)) (defBody (top 22)) (defScope (top 22)) .none kV8 dc8 pm8 an8 cd8 ct8), sl8⟩)
    (c8 : PySem.W.codeIn K cd8 "_law_raised" = true) (k8 : PySem.W.keepIn K (.ref f8) = true)
    (ab_ReleaseError : PySem.W.nsIn K mainGlobals "ReleaseError" = some (some (.ref B_ReleaseError)))
    (sb_ReleaseError : PySem.W.specialIn K (.ref B_ReleaseError) "__getattribute__" = some (some (.builtin "type.__getattribute__"))) (rb_ReleaseError : PySem.W.readsIn K B_ReleaseError (.type "type") = true) (vb_ReleaseError : PySem.W.findCls K (.ref B_ReleaseError) (.type "type") "__init__" = some (.val (.builtin "Exception.__init__")))
    (nb_OverflowError : PySem.W.nsIn K mainGlobals "OverflowError" = some none)
    (nb_RuntimeError : PySem.W.nsIn K mainGlobals "RuntimeError" = some none)
    (nb_ValueError : PySem.W.nsIn K mainGlobals "ValueError" = some none)
    (vb_OverflowError : PySem.W.findCls K (.type "OverflowError") (.type "type") "__init__" = some (.val (.builtin "OverflowError.__init__")))
    (vb_RuntimeError : PySem.W.findCls K (.type "RuntimeError") (.type "type") "__init__" = some (.val (.builtin "RuntimeError.__init__")))
    (vb_ValueError : PySem.W.findCls K (.type "ValueError") (.type "type") "__init__" = some (.val (.builtin "ValueError.__init__")))
    (A0 : PySem.W.nsIn K mainGlobals "InvalidProgram" = some (some (.ref C0)))
    (Q0 : PySem.W.excInitIn K C0 [.type "Exception", .type "BaseException", .type "object"] "Exception.__new__" = true)
    (O0 : PySem.W.excOver K C0 [.type "Exception", .type "BaseException", .type "object"] = true)
    (H0 : PySem.W.hasDictIn K C0 = true)
    (S0 : PySem.W.findIn K (.ref C0) "__setattr__" = some (some (.builtin "object.__setattr__")))
    (KC0 : PySem.W.keepIn K (.ref C0) = true)
    (I0 : PySem.W.findIn K (.ref C0) "__init__" = some (some (.ref g0)))
    (T0 : PySem.W.typeIn K (.ref g0) = some (.type "function"))
    (L0 : K.lookup g0 = some ⟨xoc0, xod0, .func (PySem.W.fnOf "__init__" "InvalidProgram.__init__" (defArgs (inClass (top 2) 0)) (defBody (inClass (top 2) 0)) (defScope (inClass (top 2) 0)) .none xkV0 xdc0 xpm0 xan0 xcd0 xct0), xsl0⟩)
    (C_0 : PySem.W.codeIn K xcd0 "InvalidProgram.__init__" = true)
    (KG0 : PySem.W.keepIn K (.ref g0) = true)
    (N0 : PySem.W.findIn K (.ref C0) "place" = some none)
    (GA0 : PySem.W.findIn K (.ref C0) "__getattribute__" = some (some (.builtin "BaseException.__getattribute__")))
    (GG0 : PySem.W.findIn K (.ref C0) "__getattr__" = some none)
    (EC0 : PySem.W.subIn K (.ref C0) (.type "BaseException") = some true)
    (IC0 : PySem.W.isClsIn K C0 = true)
    (CC0 : PySem.W.findIn K (.ref C0) "__class__" = some (some (.builtin "object.__class__")))
    (MO0 : PySem.W.mroIn K C0 (.type "object") = some true)
    (A1 : PySem.W.nsIn K mainGlobals "InvalidText" = some (some (.ref C1)))
    (Q1 : PySem.W.excInitIn K C1 [.type "Exception", .type "BaseException", .type "object"] "Exception.__new__" = true)
    (O1 : PySem.W.excOver K C1 [.type "Exception", .type "BaseException", .type "object"] = true)
    (H1 : PySem.W.hasDictIn K C1 = true)
    (S1 : PySem.W.findIn K (.ref C1) "__setattr__" = some (some (.builtin "object.__setattr__")))
    (KC1 : PySem.W.keepIn K (.ref C1) = true)
    (I1 : PySem.W.findIn K (.ref C1) "__init__" = some (some (.ref g1)))
    (T1 : PySem.W.typeIn K (.ref g1) = some (.type "function"))
    (L1 : K.lookup g1 = some ⟨xoc1, xod1, .func (PySem.W.fnOf "__init__" "InvalidText.__init__" (defArgs (inClass (top 3) 0)) (defBody (inClass (top 3) 0)) (defScope (inClass (top 3) 0)) .none xkV1 xdc1 xpm1 xan1 xcd1 xct1), xsl1⟩)
    (C_1 : PySem.W.codeIn K xcd1 "InvalidText.__init__" = true)
    (KG1 : PySem.W.keepIn K (.ref g1) = true)
    (N1 : PySem.W.findIn K (.ref C1) "place" = some none)
    (GA1 : PySem.W.findIn K (.ref C1) "__getattribute__" = some (some (.builtin "BaseException.__getattribute__")))
    (GG1 : PySem.W.findIn K (.ref C1) "__getattr__" = some none)
    (EC1 : PySem.W.subIn K (.ref C1) (.type "BaseException") = some true)
    (IC1 : PySem.W.isClsIn K C1 = true)
    (CC1 : PySem.W.findIn K (.ref C1) "__class__" = some (some (.builtin "object.__class__")))
    (MO1 : PySem.W.mroIn K C1 (.type "object") = some true)
    (A2 : PySem.W.nsIn K mainGlobals "InvalidScene" = some (some (.ref C2)))
    (Q2 : PySem.W.excInitIn K C2 [.type "Exception", .type "BaseException", .type "object"] "Exception.__new__" = true)
    (O2 : PySem.W.excOver K C2 [.type "Exception", .type "BaseException", .type "object"] = true)
    (H2 : PySem.W.hasDictIn K C2 = true)
    (S2 : PySem.W.findIn K (.ref C2) "__setattr__" = some (some (.builtin "object.__setattr__")))
    (KC2 : PySem.W.keepIn K (.ref C2) = true)
    (I2 : PySem.W.findIn K (.ref C2) "__init__" = some (some (.ref g2)))
    (T2 : PySem.W.typeIn K (.ref g2) = some (.type "function"))
    (L2 : K.lookup g2 = some ⟨xoc2, xod2, .func (PySem.W.fnOf "__init__" "InvalidScene.__init__" (defArgs (inClass (top 4) 0)) (defBody (inClass (top 4) 0)) (defScope (inClass (top 4) 0)) .none xkV2 xdc2 xpm2 xan2 xcd2 xct2), xsl2⟩)
    (C_2 : PySem.W.codeIn K xcd2 "InvalidScene.__init__" = true)
    (KG2 : PySem.W.keepIn K (.ref g2) = true)
    (N2 : PySem.W.findIn K (.ref C2) "value" = some none)
    (GA2 : PySem.W.findIn K (.ref C2) "__getattribute__" = some (some (.builtin "BaseException.__getattribute__")))
    (GG2 : PySem.W.findIn K (.ref C2) "__getattr__" = some none)
    (EC2 : PySem.W.subIn K (.ref C2) (.type "BaseException") = some true)
    (IC2 : PySem.W.isClsIn K C2 = true)
    (CC2 : PySem.W.findIn K (.ref C2) "__class__" = some (some (.builtin "object.__class__")))
    (MO2 : PySem.W.mroIn K C2 (.type "object") = some true)
    (A3 : PySem.W.nsIn K mainGlobals "InvalidLine" = some (some (.ref C3)))
    (Q3 : PySem.W.excInitIn K C3 [.type "Exception", .type "BaseException", .type "object"] "Exception.__new__" = true)
    (O3 : PySem.W.excOver K C3 [.type "Exception", .type "BaseException", .type "object"] = true)
    (H3 : PySem.W.hasDictIn K C3 = true)
    (S3 : PySem.W.findIn K (.ref C3) "__setattr__" = some (some (.builtin "object.__setattr__")))
    (KC3 : PySem.W.keepIn K (.ref C3) = true)
    (I3 : PySem.W.findIn K (.ref C3) "__init__" = some (some (.ref g3)))
    (T3 : PySem.W.typeIn K (.ref g3) = some (.type "function"))
    (L3 : K.lookup g3 = some ⟨xoc3, xod3, .func (PySem.W.fnOf "__init__" "InvalidLine.__init__" (defArgs (inClass (top 5) 0)) (defBody (inClass (top 5) 0)) (defScope (inClass (top 5) 0)) .none xkV3 xdc3 xpm3 xan3 xcd3 xct3), xsl3⟩)
    (C_3 : PySem.W.codeIn K xcd3 "InvalidLine.__init__" = true)
    (KG3 : PySem.W.keepIn K (.ref g3) = true)
    (N3 : PySem.W.findIn K (.ref C3) "value" = some none)
    (GA3 : PySem.W.findIn K (.ref C3) "__getattribute__" = some (some (.builtin "BaseException.__getattribute__")))
    (GG3 : PySem.W.findIn K (.ref C3) "__getattr__" = some none)
    (EC3 : PySem.W.subIn K (.ref C3) (.type "BaseException") = some true)
    (IC3 : PySem.W.isClsIn K C3 = true)
    (CC3 : PySem.W.findIn K (.ref C3) "__class__" = some (some (.builtin "object.__class__")))
    (MO3 : PySem.W.mroIn K C3 (.type "object") = some true)
    (A4 : PySem.W.nsIn K mainGlobals "InvalidChoice" = some (some (.ref C4)))
    (Q4 : PySem.W.excInitIn K C4 [.type "Exception", .type "BaseException", .type "object"] "Exception.__new__" = true)
    (O4 : PySem.W.excOver K C4 [.type "Exception", .type "BaseException", .type "object"] = true)
    (H4 : PySem.W.hasDictIn K C4 = true)
    (S4 : PySem.W.findIn K (.ref C4) "__setattr__" = some (some (.builtin "object.__setattr__")))
    (KC4 : PySem.W.keepIn K (.ref C4) = true)
    (I4 : PySem.W.findIn K (.ref C4) "__init__" = some (some (.ref g4)))
    (T4 : PySem.W.typeIn K (.ref g4) = some (.type "function"))
    (L4 : K.lookup g4 = some ⟨xoc4, xod4, .func (PySem.W.fnOf "__init__" "InvalidChoice.__init__" (defArgs (inClass (top 6) 0)) (defBody (inClass (top 6) 0)) (defScope (inClass (top 6) 0)) .none xkV4 xdc4 xpm4 xan4 xcd4 xct4), xsl4⟩)
    (C_4 : PySem.W.codeIn K xcd4 "InvalidChoice.__init__" = true)
    (KG4 : PySem.W.keepIn K (.ref g4) = true)
    (N4 : PySem.W.findIn K (.ref C4) "value" = some none)
    (GA4 : PySem.W.findIn K (.ref C4) "__getattribute__" = some (some (.builtin "BaseException.__getattribute__")))
    (GG4 : PySem.W.findIn K (.ref C4) "__getattr__" = some none)
    (EC4 : PySem.W.subIn K (.ref C4) (.type "BaseException") = some true)
    (IC4 : PySem.W.isClsIn K C4 = true)
    (CC4 : PySem.W.findIn K (.ref C4) "__class__" = some (some (.builtin "object.__class__")))
    (MO4 : PySem.W.mroIn K C4 (.type "object") = some true)
    (A5 : PySem.W.nsIn K mainGlobals "InvalidState" = some (some (.ref C5)))
    (Q5 : PySem.W.excInitIn K C5 [.type "Exception", .type "BaseException", .type "object"] "Exception.__new__" = true)
    (O5 : PySem.W.excOver K C5 [.type "Exception", .type "BaseException", .type "object"] = true)
    (H5 : PySem.W.hasDictIn K C5 = true)
    (S5 : PySem.W.findIn K (.ref C5) "__setattr__" = some (some (.builtin "object.__setattr__")))
    (KC5 : PySem.W.keepIn K (.ref C5) = true)
    (I5 : PySem.W.findIn K (.ref C5) "__init__" = some (some (.ref g5)))
    (T5 : PySem.W.typeIn K (.ref g5) = some (.type "function"))
    (L5 : K.lookup g5 = some ⟨xoc5, xod5, .func (PySem.W.fnOf "__init__" "InvalidState.__init__" (defArgs (inClass (top 7) 0)) (defBody (inClass (top 7) 0)) (defScope (inClass (top 7) 0)) .none xkV5 xdc5 xpm5 xan5 xcd5 xct5), xsl5⟩)
    (C_5 : PySem.W.codeIn K xcd5 "InvalidState.__init__" = true)
    (KG5 : PySem.W.keepIn K (.ref g5) = true)
    (N5 : PySem.W.findIn K (.ref C5) "value" = some none)
    (GA5 : PySem.W.findIn K (.ref C5) "__getattribute__" = some (some (.builtin "BaseException.__getattribute__")))
    (GG5 : PySem.W.findIn K (.ref C5) "__getattr__" = some none)
    (EC5 : PySem.W.subIn K (.ref C5) (.type "BaseException") = some true)
    (IC5 : PySem.W.isClsIn K C5 = true)
    (CC5 : PySem.W.findIn K (.ref C5) "__class__" = some (some (.builtin "object.__class__")))
    (MO5 : PySem.W.mroIn K C5 (.type "object") = some true)
    (A6 : PySem.W.nsIn K mainGlobals "UnknownName" = some (some (.ref C6)))
    (Q6 : PySem.W.excInitIn K C6 [.type "Exception", .type "BaseException", .type "object"] "Exception.__new__" = true)
    (O6 : PySem.W.excOver K C6 [.type "Exception", .type "BaseException", .type "object"] = true)
    (H6 : PySem.W.hasDictIn K C6 = true)
    (S6 : PySem.W.findIn K (.ref C6) "__setattr__" = some (some (.builtin "object.__setattr__")))
    (KC6 : PySem.W.keepIn K (.ref C6) = true)
    (I6 : PySem.W.findIn K (.ref C6) "__init__" = some (some (.ref g6)))
    (T6 : PySem.W.typeIn K (.ref g6) = some (.type "function"))
    (L6 : K.lookup g6 = some ⟨xoc6, xod6, .func (PySem.W.fnOf "__init__" "UnknownName.__init__" (defArgs (inClass (top 8) 0)) (defBody (inClass (top 8) 0)) (defScope (inClass (top 8) 0)) .none xkV6 xdc6 xpm6 xan6 xcd6 xct6), xsl6⟩)
    (C_6 : PySem.W.codeIn K xcd6 "UnknownName.__init__" = true)
    (KG6 : PySem.W.keepIn K (.ref g6) = true)
    (N6 : PySem.W.findIn K (.ref C6) "name" = some none)
    (GA6 : PySem.W.findIn K (.ref C6) "__getattribute__" = some (some (.builtin "BaseException.__getattribute__")))
    (GG6 : PySem.W.findIn K (.ref C6) "__getattr__" = some none)
    (EC6 : PySem.W.subIn K (.ref C6) (.type "BaseException") = some true)
    (IC6 : PySem.W.isClsIn K C6 = true)
    (CC6 : PySem.W.findIn K (.ref C6) "__class__" = some (some (.builtin "object.__class__")))
    (MO6 : PySem.W.mroIn K C6 (.type "object") = some true)
    (A7 : PySem.W.nsIn K mainGlobals "InvalidCommand" = some (some (.ref C7)))
    (Q7 : PySem.W.excInitIn K C7 [.type "Exception", .type "BaseException", .type "object"] "Exception.__new__" = true)
    (O7 : PySem.W.excOver K C7 [.type "Exception", .type "BaseException", .type "object"] = true)
    (H7 : PySem.W.hasDictIn K C7 = true)
    (S7 : PySem.W.findIn K (.ref C7) "__setattr__" = some (some (.builtin "object.__setattr__")))
    (KC7 : PySem.W.keepIn K (.ref C7) = true)
    (I7 : PySem.W.findIn K (.ref C7) "__init__" = some (some (.ref g7)))
    (T7 : PySem.W.typeIn K (.ref g7) = some (.type "function"))
    (L7 : K.lookup g7 = some ⟨xoc7, xod7, .func (PySem.W.fnOf "__init__" "InvalidCommand.__init__" (defArgs (inClass (top 9) 0)) (defBody (inClass (top 9) 0)) (defScope (inClass (top 9) 0)) .none xkV7 xdc7 xpm7 xan7 xcd7 xct7), xsl7⟩)
    (C_7 : PySem.W.codeIn K xcd7 "InvalidCommand.__init__" = true)
    (KG7 : PySem.W.keepIn K (.ref g7) = true)
    (N7 : PySem.W.findIn K (.ref C7) "word" = some none)
    (GA7 : PySem.W.findIn K (.ref C7) "__getattribute__" = some (some (.builtin "BaseException.__getattribute__")))
    (GG7 : PySem.W.findIn K (.ref C7) "__getattr__" = some none)
    (EC7 : PySem.W.subIn K (.ref C7) (.type "BaseException") = some true)
    (IC7 : PySem.W.isClsIn K C7 = true)
    (CC7 : PySem.W.findIn K (.ref C7) "__class__" = some (some (.builtin "object.__class__")))
    (MO7 : PySem.W.mroIn K C7 (.type "object") = some true)
    (A8 : PySem.W.nsIn K mainGlobals "InvalidNumber" = some (some (.ref C8)))
    (Q8 : PySem.W.excInitIn K C8 [.type "ValueError", .type "Exception", .type "BaseException", .type "object"] "ValueError.__new__" = true)
    (O8 : PySem.W.excOver K C8 [.type "ValueError", .type "Exception", .type "BaseException", .type "object"] = true)
    (H8 : PySem.W.hasDictIn K C8 = true)
    (S8 : PySem.W.findIn K (.ref C8) "__setattr__" = some (some (.builtin "object.__setattr__")))
    (KC8 : PySem.W.keepIn K (.ref C8) = true)
    (I8 : PySem.W.findIn K (.ref C8) "__init__" = some (some (.ref g8)))
    (T8 : PySem.W.typeIn K (.ref g8) = some (.type "function"))
    (L8 : K.lookup g8 = some ⟨xoc8, xod8, .func (PySem.W.fnOf "__init__" "InvalidNumber.__init__" (defArgs (inClass (top 10) 0)) (defBody (inClass (top 10) 0)) (defScope (inClass (top 10) 0)) .none xkV8 xdc8 xpm8 xan8 xcd8 xct8), xsl8⟩)
    (C_8 : PySem.W.codeIn K xcd8 "InvalidNumber.__init__" = true)
    (KG8 : PySem.W.keepIn K (.ref g8) = true)
    (N8 : PySem.W.findIn K (.ref C8) "value" = some none)
    (GA8 : PySem.W.findIn K (.ref C8) "__getattribute__" = some (some (.builtin "BaseException.__getattribute__")))
    (GG8 : PySem.W.findIn K (.ref C8) "__getattr__" = some none)
    (EC8 : PySem.W.subIn K (.ref C8) (.type "BaseException") = some true)
    (IC8 : PySem.W.isClsIn K C8 = true)
    (CC8 : PySem.W.findIn K (.ref C8) "__class__" = some (some (.builtin "object.__class__")))
    (MO8 : PySem.W.mroIn K C8 (.type "object") = some true)
    (A9 : PySem.W.nsIn K mainGlobals "LimitExceeded" = some (some (.ref C9)))
    (Q9 : PySem.W.excInitIn K C9 [.type "OverflowError", .type "ArithmeticError", .type "Exception", .type "BaseException", .type "object"] "OverflowError.__new__" = true)
    (O9 : PySem.W.excOver K C9 [.type "OverflowError", .type "ArithmeticError", .type "Exception", .type "BaseException", .type "object"] = true)
    (H9 : PySem.W.hasDictIn K C9 = true)
    (S9 : PySem.W.findIn K (.ref C9) "__setattr__" = some (some (.builtin "object.__setattr__")))
    (KC9 : PySem.W.keepIn K (.ref C9) = true)
    (I9 : PySem.W.findIn K (.ref C9) "__init__" = some (some (.ref g9)))
    (T9 : PySem.W.typeIn K (.ref g9) = some (.type "function"))
    (L9 : K.lookup g9 = some ⟨xoc9, xod9, .func (PySem.W.fnOf "__init__" "LimitExceeded.__init__" (defArgs (inClass (top 11) 0)) (defBody (inClass (top 11) 0)) (defScope (inClass (top 11) 0)) .none xkV9 xdc9 xpm9 xan9 xcd9 xct9), xsl9⟩)
    (C_9 : PySem.W.codeIn K xcd9 "LimitExceeded.__init__" = true)
    (KG9 : PySem.W.keepIn K (.ref g9) = true)
    (N9 : PySem.W.findIn K (.ref C9) "limit" = some none)
    (GA9 : PySem.W.findIn K (.ref C9) "__getattribute__" = some (some (.builtin "BaseException.__getattribute__")))
    (GG9 : PySem.W.findIn K (.ref C9) "__getattr__" = some none)
    (EC9 : PySem.W.subIn K (.ref C9) (.type "BaseException") = some true)
    (IC9 : PySem.W.isClsIn K C9 = true)
    (CC9 : PySem.W.findIn K (.ref C9) "__class__" = some (some (.builtin "object.__class__")))
    (MO9 : PySem.W.mroIn K C9 (.type "object") = some true)
    (A10 : PySem.W.nsIn K mainGlobals "Ring" = some (some (.ref C10)))
    (Q10 : PySem.W.excInitIn K C10 [.type "RuntimeError", .type "Exception", .type "BaseException", .type "object"] "RuntimeError.__new__" = true)
    (O10 : PySem.W.excOver K C10 [.type "RuntimeError", .type "Exception", .type "BaseException", .type "object"] = true)
    (H10 : PySem.W.hasDictIn K C10 = true)
    (S10 : PySem.W.findIn K (.ref C10) "__setattr__" = some (some (.builtin "object.__setattr__")))
    (KC10 : PySem.W.keepIn K (.ref C10) = true)
    (I10 : PySem.W.findIn K (.ref C10) "__init__" = some (some (.ref g10)))
    (T10 : PySem.W.typeIn K (.ref g10) = some (.type "function"))
    (L10 : K.lookup g10 = some ⟨xoc10, xod10, .func (PySem.W.fnOf "__init__" "Ring.__init__" (defArgs (inClass (top 12) 0)) (defBody (inClass (top 12) 0)) (defScope (inClass (top 12) 0)) .none xkV10 xdc10 xpm10 xan10 xcd10 xct10), xsl10⟩)
    (C_10 : PySem.W.codeIn K xcd10 "Ring.__init__" = true)
    (KG10 : PySem.W.keepIn K (.ref g10) = true)
    (N10 : PySem.W.findIn K (.ref C10) "number" = some none)
    (GA10 : PySem.W.findIn K (.ref C10) "__getattribute__" = some (some (.builtin "BaseException.__getattribute__")))
    (GG10 : PySem.W.findIn K (.ref C10) "__getattr__" = some none)
    (EC10 : PySem.W.subIn K (.ref C10) (.type "BaseException") = some true)
    (IC10 : PySem.W.isClsIn K C10 = true)
    (CC10 : PySem.W.findIn K (.ref C10) "__class__" = some (some (.builtin "object.__class__")))
    (MO10 : PySem.W.mroIn K C10 (.type "object") = some true)
    (A11 : PySem.W.nsIn K mainGlobals "NothingToUndo" = some (some (.ref C11)))
    (Q11 : PySem.W.excInitIn K C11 [.type "RuntimeError", .type "Exception", .type "BaseException", .type "object"] "RuntimeError.__new__" = true)
    (O11 : PySem.W.excOver K C11 [.type "RuntimeError", .type "Exception", .type "BaseException", .type "object"] = true)
    (H11 : PySem.W.hasDictIn K C11 = true)
    (S11 : PySem.W.findIn K (.ref C11) "__setattr__" = some (some (.builtin "object.__setattr__")))
    (KC11 : PySem.W.keepIn K (.ref C11) = true)
    (I11 : PySem.W.findIn K (.ref C11) "__init__" = some (some (.ref g11)))
    (T11 : PySem.W.typeIn K (.ref g11) = some (.type "function"))
    (L11 : K.lookup g11 = some ⟨xoc11, xod11, .func (PySem.W.fnOf "__init__" "NothingToUndo.__init__" (defArgs (inClass (top 13) 0)) (defBody (inClass (top 13) 0)) (defScope (inClass (top 13) 0)) .none xkV11 xdc11 xpm11 xan11 xcd11 xct11), xsl11⟩)
    (C_11 : PySem.W.codeIn K xcd11 "NothingToUndo.__init__" = true)
    (KG11 : PySem.W.keepIn K (.ref g11) = true)
    (N11 : PySem.W.findIn K (.ref C11) "name" = some none)
    (GA11 : PySem.W.findIn K (.ref C11) "__getattribute__" = some (some (.builtin "BaseException.__getattribute__")))
    (GG11 : PySem.W.findIn K (.ref C11) "__getattr__" = some none)
    (EC11 : PySem.W.subIn K (.ref C11) (.type "BaseException") = some true)
    (IC11 : PySem.W.isClsIn K C11 = true)
    (CC11 : PySem.W.findIn K (.ref C11) "__class__" = some (some (.builtin "object.__class__")))
    (MO11 : PySem.W.mroIn K C11 (.type "object") = some true)
    (Z0_0 : PySem.W.kitOne K (.ref C0) (.ref C0) = some true)
    (Z0_1 : PySem.W.kitOne K (.ref C0) (.ref C1) = some false)
    (Z0_2 : PySem.W.kitOne K (.ref C0) (.ref C2) = some false)
    (Z0_3 : PySem.W.kitOne K (.ref C0) (.ref C3) = some false)
    (Z0_4 : PySem.W.kitOne K (.ref C0) (.ref C4) = some false)
    (Z0_5 : PySem.W.kitOne K (.ref C0) (.ref C6) = some false)
    (Z0_6 : PySem.W.kitOne K (.ref C0) (.ref C7) = some false)
    (Z0_7 : PySem.W.kitOne K (.ref C0) (.ref C8) = some false)
    (Z0_8 : PySem.W.kitOne K (.ref C0) (.ref C9) = some false)
    (Z0_9 : PySem.W.kitOne K (.ref C0) (.ref C10) = some false)
    (Z0_10 : PySem.W.kitOne K (.ref C0) (.ref C11) = some false)
    (Z0_11 : PySem.W.kitOne K (.ref C0) (.ref C5) = some false)
    (Z0_12 : PySem.W.kitOne K (.ref C0) (.ref B_ReleaseError) = some true)
    (Z0_13 : PySem.W.kitOne K (.ref C0) (.type "ValueError") = some false)
    (Z0_14 : PySem.W.kitOne K (.ref C0) (.type "OverflowError") = some false)
    (Z0_15 : PySem.W.kitOne K (.ref C0) (.type "RuntimeError") = some false)
    (Z1_0 : PySem.W.kitOne K (.ref C1) (.ref C0) = some false)
    (Z1_1 : PySem.W.kitOne K (.ref C1) (.ref C1) = some true)
    (Z1_2 : PySem.W.kitOne K (.ref C1) (.ref C2) = some false)
    (Z1_3 : PySem.W.kitOne K (.ref C1) (.ref C3) = some false)
    (Z1_4 : PySem.W.kitOne K (.ref C1) (.ref C4) = some false)
    (Z1_5 : PySem.W.kitOne K (.ref C1) (.ref C6) = some false)
    (Z1_6 : PySem.W.kitOne K (.ref C1) (.ref C7) = some false)
    (Z1_7 : PySem.W.kitOne K (.ref C1) (.ref C8) = some false)
    (Z1_8 : PySem.W.kitOne K (.ref C1) (.ref C9) = some false)
    (Z1_9 : PySem.W.kitOne K (.ref C1) (.ref C10) = some false)
    (Z1_10 : PySem.W.kitOne K (.ref C1) (.ref C11) = some false)
    (Z1_11 : PySem.W.kitOne K (.ref C1) (.ref C5) = some false)
    (Z1_12 : PySem.W.kitOne K (.ref C1) (.ref B_ReleaseError) = some true)
    (Z1_13 : PySem.W.kitOne K (.ref C1) (.type "ValueError") = some false)
    (Z1_14 : PySem.W.kitOne K (.ref C1) (.type "OverflowError") = some false)
    (Z1_15 : PySem.W.kitOne K (.ref C1) (.type "RuntimeError") = some false)
    (Z2_0 : PySem.W.kitOne K (.ref C2) (.ref C0) = some false)
    (Z2_1 : PySem.W.kitOne K (.ref C2) (.ref C1) = some false)
    (Z2_2 : PySem.W.kitOne K (.ref C2) (.ref C2) = some true)
    (Z2_3 : PySem.W.kitOne K (.ref C2) (.ref C3) = some false)
    (Z2_4 : PySem.W.kitOne K (.ref C2) (.ref C4) = some false)
    (Z2_5 : PySem.W.kitOne K (.ref C2) (.ref C6) = some false)
    (Z2_6 : PySem.W.kitOne K (.ref C2) (.ref C7) = some false)
    (Z2_7 : PySem.W.kitOne K (.ref C2) (.ref C8) = some false)
    (Z2_8 : PySem.W.kitOne K (.ref C2) (.ref C9) = some false)
    (Z2_9 : PySem.W.kitOne K (.ref C2) (.ref C10) = some false)
    (Z2_10 : PySem.W.kitOne K (.ref C2) (.ref C11) = some false)
    (Z2_11 : PySem.W.kitOne K (.ref C2) (.ref C5) = some false)
    (Z2_12 : PySem.W.kitOne K (.ref C2) (.ref B_ReleaseError) = some true)
    (Z2_13 : PySem.W.kitOne K (.ref C2) (.type "ValueError") = some false)
    (Z2_14 : PySem.W.kitOne K (.ref C2) (.type "OverflowError") = some false)
    (Z2_15 : PySem.W.kitOne K (.ref C2) (.type "RuntimeError") = some false)
    (Z3_0 : PySem.W.kitOne K (.ref C3) (.ref C0) = some false)
    (Z3_1 : PySem.W.kitOne K (.ref C3) (.ref C1) = some false)
    (Z3_2 : PySem.W.kitOne K (.ref C3) (.ref C2) = some false)
    (Z3_3 : PySem.W.kitOne K (.ref C3) (.ref C3) = some true)
    (Z3_4 : PySem.W.kitOne K (.ref C3) (.ref C4) = some false)
    (Z3_5 : PySem.W.kitOne K (.ref C3) (.ref C6) = some false)
    (Z3_6 : PySem.W.kitOne K (.ref C3) (.ref C7) = some false)
    (Z3_7 : PySem.W.kitOne K (.ref C3) (.ref C8) = some false)
    (Z3_8 : PySem.W.kitOne K (.ref C3) (.ref C9) = some false)
    (Z3_9 : PySem.W.kitOne K (.ref C3) (.ref C10) = some false)
    (Z3_10 : PySem.W.kitOne K (.ref C3) (.ref C11) = some false)
    (Z3_11 : PySem.W.kitOne K (.ref C3) (.ref C5) = some false)
    (Z3_12 : PySem.W.kitOne K (.ref C3) (.ref B_ReleaseError) = some true)
    (Z3_13 : PySem.W.kitOne K (.ref C3) (.type "ValueError") = some false)
    (Z3_14 : PySem.W.kitOne K (.ref C3) (.type "OverflowError") = some false)
    (Z3_15 : PySem.W.kitOne K (.ref C3) (.type "RuntimeError") = some false)
    (Z4_0 : PySem.W.kitOne K (.ref C4) (.ref C0) = some false)
    (Z4_1 : PySem.W.kitOne K (.ref C4) (.ref C1) = some false)
    (Z4_2 : PySem.W.kitOne K (.ref C4) (.ref C2) = some false)
    (Z4_3 : PySem.W.kitOne K (.ref C4) (.ref C3) = some false)
    (Z4_4 : PySem.W.kitOne K (.ref C4) (.ref C4) = some true)
    (Z4_5 : PySem.W.kitOne K (.ref C4) (.ref C6) = some false)
    (Z4_6 : PySem.W.kitOne K (.ref C4) (.ref C7) = some false)
    (Z4_7 : PySem.W.kitOne K (.ref C4) (.ref C8) = some false)
    (Z4_8 : PySem.W.kitOne K (.ref C4) (.ref C9) = some false)
    (Z4_9 : PySem.W.kitOne K (.ref C4) (.ref C10) = some false)
    (Z4_10 : PySem.W.kitOne K (.ref C4) (.ref C11) = some false)
    (Z4_11 : PySem.W.kitOne K (.ref C4) (.ref C5) = some false)
    (Z4_12 : PySem.W.kitOne K (.ref C4) (.ref B_ReleaseError) = some true)
    (Z4_13 : PySem.W.kitOne K (.ref C4) (.type "ValueError") = some false)
    (Z4_14 : PySem.W.kitOne K (.ref C4) (.type "OverflowError") = some false)
    (Z4_15 : PySem.W.kitOne K (.ref C4) (.type "RuntimeError") = some false)
    (Z5_0 : PySem.W.kitOne K (.ref C5) (.ref C0) = some false)
    (Z5_1 : PySem.W.kitOne K (.ref C5) (.ref C1) = some false)
    (Z5_2 : PySem.W.kitOne K (.ref C5) (.ref C2) = some false)
    (Z5_3 : PySem.W.kitOne K (.ref C5) (.ref C3) = some false)
    (Z5_4 : PySem.W.kitOne K (.ref C5) (.ref C4) = some false)
    (Z5_5 : PySem.W.kitOne K (.ref C5) (.ref C6) = some false)
    (Z5_6 : PySem.W.kitOne K (.ref C5) (.ref C7) = some false)
    (Z5_7 : PySem.W.kitOne K (.ref C5) (.ref C8) = some false)
    (Z5_8 : PySem.W.kitOne K (.ref C5) (.ref C9) = some false)
    (Z5_9 : PySem.W.kitOne K (.ref C5) (.ref C10) = some false)
    (Z5_10 : PySem.W.kitOne K (.ref C5) (.ref C11) = some false)
    (Z5_11 : PySem.W.kitOne K (.ref C5) (.ref C5) = some true)
    (Z5_12 : PySem.W.kitOne K (.ref C5) (.ref B_ReleaseError) = some true)
    (Z5_13 : PySem.W.kitOne K (.ref C5) (.type "ValueError") = some false)
    (Z5_14 : PySem.W.kitOne K (.ref C5) (.type "OverflowError") = some false)
    (Z5_15 : PySem.W.kitOne K (.ref C5) (.type "RuntimeError") = some false)
    (Z6_0 : PySem.W.kitOne K (.ref C6) (.ref C0) = some false)
    (Z6_1 : PySem.W.kitOne K (.ref C6) (.ref C1) = some false)
    (Z6_2 : PySem.W.kitOne K (.ref C6) (.ref C2) = some false)
    (Z6_3 : PySem.W.kitOne K (.ref C6) (.ref C3) = some false)
    (Z6_4 : PySem.W.kitOne K (.ref C6) (.ref C4) = some false)
    (Z6_5 : PySem.W.kitOne K (.ref C6) (.ref C6) = some true)
    (Z6_6 : PySem.W.kitOne K (.ref C6) (.ref C7) = some false)
    (Z6_7 : PySem.W.kitOne K (.ref C6) (.ref C8) = some false)
    (Z6_8 : PySem.W.kitOne K (.ref C6) (.ref C9) = some false)
    (Z6_9 : PySem.W.kitOne K (.ref C6) (.ref C10) = some false)
    (Z6_10 : PySem.W.kitOne K (.ref C6) (.ref C11) = some false)
    (Z6_11 : PySem.W.kitOne K (.ref C6) (.ref C5) = some false)
    (Z6_12 : PySem.W.kitOne K (.ref C6) (.ref B_ReleaseError) = some true)
    (Z6_13 : PySem.W.kitOne K (.ref C6) (.type "ValueError") = some false)
    (Z6_14 : PySem.W.kitOne K (.ref C6) (.type "OverflowError") = some false)
    (Z6_15 : PySem.W.kitOne K (.ref C6) (.type "RuntimeError") = some false)
    (Z7_0 : PySem.W.kitOne K (.ref C7) (.ref C0) = some false)
    (Z7_1 : PySem.W.kitOne K (.ref C7) (.ref C1) = some false)
    (Z7_2 : PySem.W.kitOne K (.ref C7) (.ref C2) = some false)
    (Z7_3 : PySem.W.kitOne K (.ref C7) (.ref C3) = some false)
    (Z7_4 : PySem.W.kitOne K (.ref C7) (.ref C4) = some false)
    (Z7_5 : PySem.W.kitOne K (.ref C7) (.ref C6) = some false)
    (Z7_6 : PySem.W.kitOne K (.ref C7) (.ref C7) = some true)
    (Z7_7 : PySem.W.kitOne K (.ref C7) (.ref C8) = some false)
    (Z7_8 : PySem.W.kitOne K (.ref C7) (.ref C9) = some false)
    (Z7_9 : PySem.W.kitOne K (.ref C7) (.ref C10) = some false)
    (Z7_10 : PySem.W.kitOne K (.ref C7) (.ref C11) = some false)
    (Z7_11 : PySem.W.kitOne K (.ref C7) (.ref C5) = some false)
    (Z7_12 : PySem.W.kitOne K (.ref C7) (.ref B_ReleaseError) = some true)
    (Z7_13 : PySem.W.kitOne K (.ref C7) (.type "ValueError") = some false)
    (Z7_14 : PySem.W.kitOne K (.ref C7) (.type "OverflowError") = some false)
    (Z7_15 : PySem.W.kitOne K (.ref C7) (.type "RuntimeError") = some false)
    (Z8_0 : PySem.W.kitOne K (.ref C8) (.ref C0) = some false)
    (Z8_1 : PySem.W.kitOne K (.ref C8) (.ref C1) = some false)
    (Z8_2 : PySem.W.kitOne K (.ref C8) (.ref C2) = some false)
    (Z8_3 : PySem.W.kitOne K (.ref C8) (.ref C3) = some false)
    (Z8_4 : PySem.W.kitOne K (.ref C8) (.ref C4) = some false)
    (Z8_5 : PySem.W.kitOne K (.ref C8) (.ref C6) = some false)
    (Z8_6 : PySem.W.kitOne K (.ref C8) (.ref C7) = some false)
    (Z8_7 : PySem.W.kitOne K (.ref C8) (.ref C8) = some true)
    (Z8_8 : PySem.W.kitOne K (.ref C8) (.ref C9) = some false)
    (Z8_9 : PySem.W.kitOne K (.ref C8) (.ref C10) = some false)
    (Z8_10 : PySem.W.kitOne K (.ref C8) (.ref C11) = some false)
    (Z8_11 : PySem.W.kitOne K (.ref C8) (.ref C5) = some false)
    (Z8_12 : PySem.W.kitOne K (.ref C8) (.ref B_ReleaseError) = some false)
    (Z8_13 : PySem.W.kitOne K (.ref C8) (.type "ValueError") = some true)
    (Z8_14 : PySem.W.kitOne K (.ref C8) (.type "OverflowError") = some false)
    (Z8_15 : PySem.W.kitOne K (.ref C8) (.type "RuntimeError") = some false)
    (Z9_0 : PySem.W.kitOne K (.ref C9) (.ref C0) = some false)
    (Z9_1 : PySem.W.kitOne K (.ref C9) (.ref C1) = some false)
    (Z9_2 : PySem.W.kitOne K (.ref C9) (.ref C2) = some false)
    (Z9_3 : PySem.W.kitOne K (.ref C9) (.ref C3) = some false)
    (Z9_4 : PySem.W.kitOne K (.ref C9) (.ref C4) = some false)
    (Z9_5 : PySem.W.kitOne K (.ref C9) (.ref C6) = some false)
    (Z9_6 : PySem.W.kitOne K (.ref C9) (.ref C7) = some false)
    (Z9_7 : PySem.W.kitOne K (.ref C9) (.ref C8) = some false)
    (Z9_8 : PySem.W.kitOne K (.ref C9) (.ref C9) = some true)
    (Z9_9 : PySem.W.kitOne K (.ref C9) (.ref C10) = some false)
    (Z9_10 : PySem.W.kitOne K (.ref C9) (.ref C11) = some false)
    (Z9_11 : PySem.W.kitOne K (.ref C9) (.ref C5) = some false)
    (Z9_12 : PySem.W.kitOne K (.ref C9) (.ref B_ReleaseError) = some false)
    (Z9_13 : PySem.W.kitOne K (.ref C9) (.type "ValueError") = some false)
    (Z9_14 : PySem.W.kitOne K (.ref C9) (.type "OverflowError") = some true)
    (Z9_15 : PySem.W.kitOne K (.ref C9) (.type "RuntimeError") = some false)
    (Z10_0 : PySem.W.kitOne K (.ref C10) (.ref C0) = some false)
    (Z10_1 : PySem.W.kitOne K (.ref C10) (.ref C1) = some false)
    (Z10_2 : PySem.W.kitOne K (.ref C10) (.ref C2) = some false)
    (Z10_3 : PySem.W.kitOne K (.ref C10) (.ref C3) = some false)
    (Z10_4 : PySem.W.kitOne K (.ref C10) (.ref C4) = some false)
    (Z10_5 : PySem.W.kitOne K (.ref C10) (.ref C6) = some false)
    (Z10_6 : PySem.W.kitOne K (.ref C10) (.ref C7) = some false)
    (Z10_7 : PySem.W.kitOne K (.ref C10) (.ref C8) = some false)
    (Z10_8 : PySem.W.kitOne K (.ref C10) (.ref C9) = some false)
    (Z10_9 : PySem.W.kitOne K (.ref C10) (.ref C10) = some true)
    (Z10_10 : PySem.W.kitOne K (.ref C10) (.ref C11) = some false)
    (Z10_11 : PySem.W.kitOne K (.ref C10) (.ref C5) = some false)
    (Z10_12 : PySem.W.kitOne K (.ref C10) (.ref B_ReleaseError) = some false)
    (Z10_13 : PySem.W.kitOne K (.ref C10) (.type "ValueError") = some false)
    (Z10_14 : PySem.W.kitOne K (.ref C10) (.type "OverflowError") = some false)
    (Z10_15 : PySem.W.kitOne K (.ref C10) (.type "RuntimeError") = some true)
    (Z11_0 : PySem.W.kitOne K (.ref C11) (.ref C0) = some false)
    (Z11_1 : PySem.W.kitOne K (.ref C11) (.ref C1) = some false)
    (Z11_2 : PySem.W.kitOne K (.ref C11) (.ref C2) = some false)
    (Z11_3 : PySem.W.kitOne K (.ref C11) (.ref C3) = some false)
    (Z11_4 : PySem.W.kitOne K (.ref C11) (.ref C4) = some false)
    (Z11_5 : PySem.W.kitOne K (.ref C11) (.ref C6) = some false)
    (Z11_6 : PySem.W.kitOne K (.ref C11) (.ref C7) = some false)
    (Z11_7 : PySem.W.kitOne K (.ref C11) (.ref C8) = some false)
    (Z11_8 : PySem.W.kitOne K (.ref C11) (.ref C9) = some false)
    (Z11_9 : PySem.W.kitOne K (.ref C11) (.ref C10) = some false)
    (Z11_10 : PySem.W.kitOne K (.ref C11) (.ref C11) = some true)
    (Z11_11 : PySem.W.kitOne K (.ref C11) (.ref C5) = some false)
    (Z11_12 : PySem.W.kitOne K (.ref C11) (.ref B_ReleaseError) = some false)
    (Z11_13 : PySem.W.kitOne K (.ref C11) (.type "ValueError") = some false)
    (Z11_14 : PySem.W.kitOne K (.ref C11) (.type "OverflowError") = some false)
    (Z11_15 : PySem.W.kitOne K (.ref C11) (.type "RuntimeError") = some true)
    (TY : PySem.W.typeIn K (.ref C2) = some (.type "type")) (EB : PySem.W.subIn K (.ref B_ReleaseError) (.type "BaseException") = some true) (IB : PySem.W.isClsIn K B_ReleaseError = true) (TB : PySem.W.typeIn K (.ref B_ReleaseError) = some (.type "type")) (SB : PySem.W.subIn K (.ref C2) (.ref B_ReleaseError) = some true) (SG : PySem.W.specialIn K (.builtin "object.__class__") "__get__" = some (some (.builtin "getset_descriptor.__get__"))) (TK : PySem.W.takesIn K (.builtin "object.__class__") = some true)
    (n0 : PySem.W.nsIn K mainGlobals "enumerate" = some none)
    (n1 : PySem.W.nsIn K mainGlobals "int" = some none)
    (n2 : PySem.W.nsIn K mainGlobals "range" = some none)
    (n3 : PySem.W.nsIn K mainGlobals "repr" = some none)
    (n4 : PySem.W.nsIn K mainGlobals "max" = some none)
    (n5 : PySem.W.nsIn K mainGlobals "len" = some none)
    (n6 : PySem.W.nsIn K mainGlobals "isinstance" = some none)
    : ∃ fd : FuncData, (∀ (s0 : Shared) (u : Value), BindsTo s0 fd ⟨[u], []⟩ [("_law_script", u)]) ∧ ∀ base : Heap, K.In base → base.Ns mainGlobals mg → FnZ P w K mg base (CAf mg) 14 fa fd ["_law_script"] (callN defs tab 12 0) := by
  have M0 : mg "InvalidProgram" = some (.ref C0) := PySem.W.mg_of X G A0
  have E0 : CAf mg 0 = C0 := by show (match mg "InvalidProgram" with | some (.ref a) => a | _ => 0) = _; rw [M0]
  have M1 : mg "InvalidText" = some (.ref C1) := PySem.W.mg_of X G A1
  have E1 : CAf mg 1 = C1 := by show (match mg "InvalidText" with | some (.ref a) => a | _ => 0) = _; rw [M1]
  have M2 : mg "InvalidScene" = some (.ref C2) := PySem.W.mg_of X G A2
  have E2 : CAf mg 2 = C2 := by show (match mg "InvalidScene" with | some (.ref a) => a | _ => 0) = _; rw [M2]
  have M3 : mg "InvalidLine" = some (.ref C3) := PySem.W.mg_of X G A3
  have E3 : CAf mg 3 = C3 := by show (match mg "InvalidLine" with | some (.ref a) => a | _ => 0) = _; rw [M3]
  have M4 : mg "InvalidChoice" = some (.ref C4) := PySem.W.mg_of X G A4
  have E4 : CAf mg 4 = C4 := by show (match mg "InvalidChoice" with | some (.ref a) => a | _ => 0) = _; rw [M4]
  have M5 : mg "InvalidState" = some (.ref C5) := PySem.W.mg_of X G A5
  have E5 : CAf mg 5 = C5 := by show (match mg "InvalidState" with | some (.ref a) => a | _ => 0) = _; rw [M5]
  have M6 : mg "UnknownName" = some (.ref C6) := PySem.W.mg_of X G A6
  have E6 : CAf mg 6 = C6 := by show (match mg "UnknownName" with | some (.ref a) => a | _ => 0) = _; rw [M6]
  have M7 : mg "InvalidCommand" = some (.ref C7) := PySem.W.mg_of X G A7
  have E7 : CAf mg 7 = C7 := by show (match mg "InvalidCommand" with | some (.ref a) => a | _ => 0) = _; rw [M7]
  have M8 : mg "InvalidNumber" = some (.ref C8) := PySem.W.mg_of X G A8
  have E8 : CAf mg 8 = C8 := by show (match mg "InvalidNumber" with | some (.ref a) => a | _ => 0) = _; rw [M8]
  have M9 : mg "LimitExceeded" = some (.ref C9) := PySem.W.mg_of X G A9
  have E9 : CAf mg 9 = C9 := by show (match mg "LimitExceeded" with | some (.ref a) => a | _ => 0) = _; rw [M9]
  have M10 : mg "Ring" = some (.ref C10) := PySem.W.mg_of X G A10
  have E10 : CAf mg 10 = C10 := by show (match mg "Ring" with | some (.ref a) => a | _ => 0) = _; rw [M10]
  have M11 : mg "NothingToUndo" = some (.ref C11) := PySem.W.mg_of X G A11
  have E11 : CAf mg 11 = C11 := by show (match mg "NothingToUndo" with | some (.ref a) => a | _ => 0) = _; rw [M11]
  have En : ∀ k : Nat, CAf mg (k + 12) = C0 := fun k => by show (match mg "InvalidProgram" with | some (.ref a) => a | _ => 0) = _; rw [M0]
  have MB_ReleaseError : mg "ReleaseError" = some (.ref B_ReleaseError) := PySem.W.mg_of X G ab_ReleaseError
  have MN_OverflowError : mg "OverflowError" = none := no_of X G nb_OverflowError
  have MN_RuntimeError : mg "RuntimeError" = none := no_of X G nb_RuntimeError
  have MN_ValueError : mg "ValueError" = none := no_of X G nb_ValueError
  have BF_ReleaseError : BaseF K mg "ReleaseError" "Exception.__init__" := .own _ MB_ReleaseError sb_ReleaseError rb_ReleaseError vb_ReleaseError (by decide +kernel) (by decide)
  have BF_OverflowError : BaseF K mg "OverflowError" "OverflowError.__init__" := .blt "OverflowError" MN_OverflowError (by decide +kernel) (by kernel_rfl) (by decide +kernel) vb_OverflowError (by decide +kernel) (by decide) (by decide)
  have BF_RuntimeError : BaseF K mg "RuntimeError" "RuntimeError.__init__" := .blt "RuntimeError" MN_RuntimeError (by decide +kernel) (by kernel_rfl) (by decide +kernel) vb_RuntimeError (by decide +kernel) (by decide) (by decide)
  have BF_ValueError : BaseF K mg "ValueError" "ValueError.__init__" := .blt "ValueError" MN_ValueError (by decide +kernel) (by kernel_rfl) (by decide +kernel) vb_ValueError (by decide +kernel) (by decide) (by decide)
  have CF : ∀ (P : Program) (w : World) (base : Heap) x c, (x, c) ∈ clss.cls → ClsF P w K mg base (CAf mg c) x (clss.fld c) (clss.kwd c) := by
    intro P w base x c hm
    simp only [clss, List.mem_cons, List.not_mem_nil, or_false, Prod.mk.injEq] at hm
    rcases hm with ⟨rfl, rfl⟩ | ⟨rfl, rfl⟩ | ⟨rfl, rfl⟩ | ⟨rfl, rfl⟩ | ⟨rfl, rfl⟩ | ⟨rfl, rfl⟩ | ⟨rfl, rfl⟩ | ⟨rfl, rfl⟩ | ⟨rfl, rfl⟩ | ⟨rfl, rfl⟩ | ⟨rfl, rfl⟩ | ⟨rfl, rfl⟩
    · rw [E0]; exact cf0 X G A0 Q0 O0 H0 S0 KC0 I0 T0 L0 C_0 KG0 N0 BF_ReleaseError
    · rw [E1]; exact cf1 X G A1 Q1 O1 H1 S1 KC1 I1 T1 L1 C_1 KG1 N1 BF_ReleaseError
    · rw [E2]; exact cf2 X G A2 Q2 O2 H2 S2 KC2 I2 T2 L2 C_2 KG2 N2 BF_ReleaseError
    · rw [E3]; exact cf3 X G A3 Q3 O3 H3 S3 KC3 I3 T3 L3 C_3 KG3 N3 BF_ReleaseError
    · rw [E4]; exact cf4 X G A4 Q4 O4 H4 S4 KC4 I4 T4 L4 C_4 KG4 N4 BF_ReleaseError
    · rw [E5]; exact cf5 X G A5 Q5 O5 H5 S5 KC5 I5 T5 L5 C_5 KG5 N5 BF_ReleaseError
    · rw [E6]; exact cf6 X G A6 Q6 O6 H6 S6 KC6 I6 T6 L6 C_6 KG6 N6 BF_ReleaseError
    · rw [E7]; exact cf7 X G A7 Q7 O7 H7 S7 KC7 I7 T7 L7 C_7 KG7 N7 BF_ReleaseError
    · rw [E8]; exact cf8 X G A8 Q8 O8 H8 S8 KC8 I8 T8 L8 C_8 KG8 N8 BF_ValueError
    · rw [E9]; exact cf9 X G A9 Q9 O9 H9 S9 KC9 I9 T9 L9 C_9 KG9 N9 BF_OverflowError
    · rw [E10]; exact cf10 X G A10 Q10 O10 H10 S10 KC10 I10 T10 L10 C_10 KG10 N10 BF_RuntimeError
    · rw [E11]; exact cf11 X G A11 Q11 O11 H11 S11 KC11 I11 T11 L11 C_11 KG11 N11 BF_RuntimeError
  have AT : ∀ c : Nat, XfC K (CAf mg c) ∧ PySem.W.findIn K (.ref (CAf mg c)) (clss.fld c) = some none := by
    intro c
    match c with
    | 0 => rw [E0]; exact ⟨⟨GA0, GG0, EC0, H0⟩, N0⟩
    | 1 => rw [E1]; exact ⟨⟨GA1, GG1, EC1, H1⟩, N1⟩
    | 2 => rw [E2]; exact ⟨⟨GA2, GG2, EC2, H2⟩, N2⟩
    | 3 => rw [E3]; exact ⟨⟨GA3, GG3, EC3, H3⟩, N3⟩
    | 4 => rw [E4]; exact ⟨⟨GA4, GG4, EC4, H4⟩, N4⟩
    | 5 => rw [E5]; exact ⟨⟨GA5, GG5, EC5, H5⟩, N5⟩
    | 6 => rw [E6]; exact ⟨⟨GA6, GG6, EC6, H6⟩, N6⟩
    | 7 => rw [E7]; exact ⟨⟨GA7, GG7, EC7, H7⟩, N7⟩
    | 8 => rw [E8]; exact ⟨⟨GA8, GG8, EC8, H8⟩, N8⟩
    | 9 => rw [E9]; exact ⟨⟨GA9, GG9, EC9, H9⟩, N9⟩
    | 10 => rw [E10]; exact ⟨⟨GA10, GG10, EC10, H10⟩, N10⟩
    | 11 => rw [E11]; exact ⟨⟨GA11, GG11, EC11, H11⟩, N11⟩
    | k + 12 => rw [En]; exact ⟨⟨GA0, GG0, EC0, H0⟩, N0⟩
  have IX : ∀ x ∈ clss.isx, (∃ D, mg x = some (.ref D)) ∨ ∃ T, mg x = none ∧ bootBuiltins x = some (.type T) := by
    intro x hm
    simp only [clss, isxL, List.mem_cons, List.not_mem_nil, or_false] at hm
    rcases hm with rfl | rfl | rfl | rfl | rfl | rfl | rfl | rfl | rfl | rfl | rfl | rfl | rfl | rfl | rfl | rfl
    · exact .inl ⟨_, M0⟩
    · exact .inl ⟨_, M1⟩
    · exact .inl ⟨_, M2⟩
    · exact .inl ⟨_, M3⟩
    · exact .inl ⟨_, M4⟩
    · exact .inl ⟨_, M6⟩
    · exact .inl ⟨_, M7⟩
    · exact .inl ⟨_, M8⟩
    · exact .inl ⟨_, M9⟩
    · exact .inl ⟨_, M10⟩
    · exact .inl ⟨_, M11⟩
    · exact .inl ⟨_, M5⟩
    · exact .inl ⟨_, MB_ReleaseError⟩
    · exact .inr ⟨"ValueError", MN_ValueError, by decide +kernel⟩
    · exact .inr ⟨"OverflowError", MN_OverflowError, by decide +kernel⟩
    · exact .inr ⟨"RuntimeError", MN_RuntimeError, by decide +kernel⟩
  have IS : ∀ c x b, isiF c x = some b → xisB K (CAf mg c) = true ∧ ((∃ D, mg x = some (.ref D) ∧ PySem.W.kitOne K (.ref (CAf mg c)) (.ref D) = some b) ∨ ∃ T, mg x = none ∧ bootBuiltins x = some (.type T) ∧ PySem.W.kitOne K (.ref (CAf mg c)) (.type T) = some b) := by
    intro c x b hb
    match c, hb with
    | 0, hb =>
      rw [E0]
      refine ⟨xis_mk IC0 GA0 GG0 EC0 CC0 SG TK MO0, ?_⟩
      have hm := lookup_mem (l := [("InvalidProgram", true), ("InvalidText", false), ("InvalidScene", false), ("InvalidLine", false), ("InvalidChoice", false), ("UnknownName", false), ("InvalidCommand", false), ("InvalidNumber", false), ("LimitExceeded", false), ("Ring", false), ("NothingToUndo", false), ("InvalidState", false), ("ReleaseError", true), ("ValueError", false), ("OverflowError", false), ("RuntimeError", false)]) hb
      simp only [List.mem_cons, List.not_mem_nil, or_false, Prod.mk.injEq] at hm
      rcases hm with ⟨rfl, rfl⟩ | ⟨rfl, rfl⟩ | ⟨rfl, rfl⟩ | ⟨rfl, rfl⟩ | ⟨rfl, rfl⟩ | ⟨rfl, rfl⟩ | ⟨rfl, rfl⟩ | ⟨rfl, rfl⟩ | ⟨rfl, rfl⟩ | ⟨rfl, rfl⟩ | ⟨rfl, rfl⟩ | ⟨rfl, rfl⟩ | ⟨rfl, rfl⟩ | ⟨rfl, rfl⟩ | ⟨rfl, rfl⟩ | ⟨rfl, rfl⟩
      · exact .inl ⟨_, M0, Z0_0⟩
      · exact .inl ⟨_, M1, Z0_1⟩
      · exact .inl ⟨_, M2, Z0_2⟩
      · exact .inl ⟨_, M3, Z0_3⟩
      · exact .inl ⟨_, M4, Z0_4⟩
      · exact .inl ⟨_, M6, Z0_5⟩
      · exact .inl ⟨_, M7, Z0_6⟩
      · exact .inl ⟨_, M8, Z0_7⟩
      · exact .inl ⟨_, M9, Z0_8⟩
      · exact .inl ⟨_, M10, Z0_9⟩
      · exact .inl ⟨_, M11, Z0_10⟩
      · exact .inl ⟨_, M5, Z0_11⟩
      · exact .inl ⟨_, MB_ReleaseError, Z0_12⟩
      · exact .inr ⟨"ValueError", MN_ValueError, by decide +kernel, Z0_13⟩
      · exact .inr ⟨"OverflowError", MN_OverflowError, by decide +kernel, Z0_14⟩
      · exact .inr ⟨"RuntimeError", MN_RuntimeError, by decide +kernel, Z0_15⟩
    | 1, hb =>
      rw [E1]
      refine ⟨xis_mk IC1 GA1 GG1 EC1 CC1 SG TK MO1, ?_⟩
      have hm := lookup_mem (l := [("InvalidProgram", false), ("InvalidText", true), ("InvalidScene", false), ("InvalidLine", false), ("InvalidChoice", false), ("UnknownName", false), ("InvalidCommand", false), ("InvalidNumber", false), ("LimitExceeded", false), ("Ring", false), ("NothingToUndo", false), ("InvalidState", false), ("ReleaseError", true), ("ValueError", false), ("OverflowError", false), ("RuntimeError", false)]) hb
      simp only [List.mem_cons, List.not_mem_nil, or_false, Prod.mk.injEq] at hm
      rcases hm with ⟨rfl, rfl⟩ | ⟨rfl, rfl⟩ | ⟨rfl, rfl⟩ | ⟨rfl, rfl⟩ | ⟨rfl, rfl⟩ | ⟨rfl, rfl⟩ | ⟨rfl, rfl⟩ | ⟨rfl, rfl⟩ | ⟨rfl, rfl⟩ | ⟨rfl, rfl⟩ | ⟨rfl, rfl⟩ | ⟨rfl, rfl⟩ | ⟨rfl, rfl⟩ | ⟨rfl, rfl⟩ | ⟨rfl, rfl⟩ | ⟨rfl, rfl⟩
      · exact .inl ⟨_, M0, Z1_0⟩
      · exact .inl ⟨_, M1, Z1_1⟩
      · exact .inl ⟨_, M2, Z1_2⟩
      · exact .inl ⟨_, M3, Z1_3⟩
      · exact .inl ⟨_, M4, Z1_4⟩
      · exact .inl ⟨_, M6, Z1_5⟩
      · exact .inl ⟨_, M7, Z1_6⟩
      · exact .inl ⟨_, M8, Z1_7⟩
      · exact .inl ⟨_, M9, Z1_8⟩
      · exact .inl ⟨_, M10, Z1_9⟩
      · exact .inl ⟨_, M11, Z1_10⟩
      · exact .inl ⟨_, M5, Z1_11⟩
      · exact .inl ⟨_, MB_ReleaseError, Z1_12⟩
      · exact .inr ⟨"ValueError", MN_ValueError, by decide +kernel, Z1_13⟩
      · exact .inr ⟨"OverflowError", MN_OverflowError, by decide +kernel, Z1_14⟩
      · exact .inr ⟨"RuntimeError", MN_RuntimeError, by decide +kernel, Z1_15⟩
    | 2, hb =>
      rw [E2]
      refine ⟨xis_mk IC2 GA2 GG2 EC2 CC2 SG TK MO2, ?_⟩
      have hm := lookup_mem (l := [("InvalidProgram", false), ("InvalidText", false), ("InvalidScene", true), ("InvalidLine", false), ("InvalidChoice", false), ("UnknownName", false), ("InvalidCommand", false), ("InvalidNumber", false), ("LimitExceeded", false), ("Ring", false), ("NothingToUndo", false), ("InvalidState", false), ("ReleaseError", true), ("ValueError", false), ("OverflowError", false), ("RuntimeError", false)]) hb
      simp only [List.mem_cons, List.not_mem_nil, or_false, Prod.mk.injEq] at hm
      rcases hm with ⟨rfl, rfl⟩ | ⟨rfl, rfl⟩ | ⟨rfl, rfl⟩ | ⟨rfl, rfl⟩ | ⟨rfl, rfl⟩ | ⟨rfl, rfl⟩ | ⟨rfl, rfl⟩ | ⟨rfl, rfl⟩ | ⟨rfl, rfl⟩ | ⟨rfl, rfl⟩ | ⟨rfl, rfl⟩ | ⟨rfl, rfl⟩ | ⟨rfl, rfl⟩ | ⟨rfl, rfl⟩ | ⟨rfl, rfl⟩ | ⟨rfl, rfl⟩
      · exact .inl ⟨_, M0, Z2_0⟩
      · exact .inl ⟨_, M1, Z2_1⟩
      · exact .inl ⟨_, M2, Z2_2⟩
      · exact .inl ⟨_, M3, Z2_3⟩
      · exact .inl ⟨_, M4, Z2_4⟩
      · exact .inl ⟨_, M6, Z2_5⟩
      · exact .inl ⟨_, M7, Z2_6⟩
      · exact .inl ⟨_, M8, Z2_7⟩
      · exact .inl ⟨_, M9, Z2_8⟩
      · exact .inl ⟨_, M10, Z2_9⟩
      · exact .inl ⟨_, M11, Z2_10⟩
      · exact .inl ⟨_, M5, Z2_11⟩
      · exact .inl ⟨_, MB_ReleaseError, Z2_12⟩
      · exact .inr ⟨"ValueError", MN_ValueError, by decide +kernel, Z2_13⟩
      · exact .inr ⟨"OverflowError", MN_OverflowError, by decide +kernel, Z2_14⟩
      · exact .inr ⟨"RuntimeError", MN_RuntimeError, by decide +kernel, Z2_15⟩
    | 3, hb =>
      rw [E3]
      refine ⟨xis_mk IC3 GA3 GG3 EC3 CC3 SG TK MO3, ?_⟩
      have hm := lookup_mem (l := [("InvalidProgram", false), ("InvalidText", false), ("InvalidScene", false), ("InvalidLine", true), ("InvalidChoice", false), ("UnknownName", false), ("InvalidCommand", false), ("InvalidNumber", false), ("LimitExceeded", false), ("Ring", false), ("NothingToUndo", false), ("InvalidState", false), ("ReleaseError", true), ("ValueError", false), ("OverflowError", false), ("RuntimeError", false)]) hb
      simp only [List.mem_cons, List.not_mem_nil, or_false, Prod.mk.injEq] at hm
      rcases hm with ⟨rfl, rfl⟩ | ⟨rfl, rfl⟩ | ⟨rfl, rfl⟩ | ⟨rfl, rfl⟩ | ⟨rfl, rfl⟩ | ⟨rfl, rfl⟩ | ⟨rfl, rfl⟩ | ⟨rfl, rfl⟩ | ⟨rfl, rfl⟩ | ⟨rfl, rfl⟩ | ⟨rfl, rfl⟩ | ⟨rfl, rfl⟩ | ⟨rfl, rfl⟩ | ⟨rfl, rfl⟩ | ⟨rfl, rfl⟩ | ⟨rfl, rfl⟩
      · exact .inl ⟨_, M0, Z3_0⟩
      · exact .inl ⟨_, M1, Z3_1⟩
      · exact .inl ⟨_, M2, Z3_2⟩
      · exact .inl ⟨_, M3, Z3_3⟩
      · exact .inl ⟨_, M4, Z3_4⟩
      · exact .inl ⟨_, M6, Z3_5⟩
      · exact .inl ⟨_, M7, Z3_6⟩
      · exact .inl ⟨_, M8, Z3_7⟩
      · exact .inl ⟨_, M9, Z3_8⟩
      · exact .inl ⟨_, M10, Z3_9⟩
      · exact .inl ⟨_, M11, Z3_10⟩
      · exact .inl ⟨_, M5, Z3_11⟩
      · exact .inl ⟨_, MB_ReleaseError, Z3_12⟩
      · exact .inr ⟨"ValueError", MN_ValueError, by decide +kernel, Z3_13⟩
      · exact .inr ⟨"OverflowError", MN_OverflowError, by decide +kernel, Z3_14⟩
      · exact .inr ⟨"RuntimeError", MN_RuntimeError, by decide +kernel, Z3_15⟩
    | 4, hb =>
      rw [E4]
      refine ⟨xis_mk IC4 GA4 GG4 EC4 CC4 SG TK MO4, ?_⟩
      have hm := lookup_mem (l := [("InvalidProgram", false), ("InvalidText", false), ("InvalidScene", false), ("InvalidLine", false), ("InvalidChoice", true), ("UnknownName", false), ("InvalidCommand", false), ("InvalidNumber", false), ("LimitExceeded", false), ("Ring", false), ("NothingToUndo", false), ("InvalidState", false), ("ReleaseError", true), ("ValueError", false), ("OverflowError", false), ("RuntimeError", false)]) hb
      simp only [List.mem_cons, List.not_mem_nil, or_false, Prod.mk.injEq] at hm
      rcases hm with ⟨rfl, rfl⟩ | ⟨rfl, rfl⟩ | ⟨rfl, rfl⟩ | ⟨rfl, rfl⟩ | ⟨rfl, rfl⟩ | ⟨rfl, rfl⟩ | ⟨rfl, rfl⟩ | ⟨rfl, rfl⟩ | ⟨rfl, rfl⟩ | ⟨rfl, rfl⟩ | ⟨rfl, rfl⟩ | ⟨rfl, rfl⟩ | ⟨rfl, rfl⟩ | ⟨rfl, rfl⟩ | ⟨rfl, rfl⟩ | ⟨rfl, rfl⟩
      · exact .inl ⟨_, M0, Z4_0⟩
      · exact .inl ⟨_, M1, Z4_1⟩
      · exact .inl ⟨_, M2, Z4_2⟩
      · exact .inl ⟨_, M3, Z4_3⟩
      · exact .inl ⟨_, M4, Z4_4⟩
      · exact .inl ⟨_, M6, Z4_5⟩
      · exact .inl ⟨_, M7, Z4_6⟩
      · exact .inl ⟨_, M8, Z4_7⟩
      · exact .inl ⟨_, M9, Z4_8⟩
      · exact .inl ⟨_, M10, Z4_9⟩
      · exact .inl ⟨_, M11, Z4_10⟩
      · exact .inl ⟨_, M5, Z4_11⟩
      · exact .inl ⟨_, MB_ReleaseError, Z4_12⟩
      · exact .inr ⟨"ValueError", MN_ValueError, by decide +kernel, Z4_13⟩
      · exact .inr ⟨"OverflowError", MN_OverflowError, by decide +kernel, Z4_14⟩
      · exact .inr ⟨"RuntimeError", MN_RuntimeError, by decide +kernel, Z4_15⟩
    | 5, hb =>
      rw [E5]
      refine ⟨xis_mk IC5 GA5 GG5 EC5 CC5 SG TK MO5, ?_⟩
      have hm := lookup_mem (l := [("InvalidProgram", false), ("InvalidText", false), ("InvalidScene", false), ("InvalidLine", false), ("InvalidChoice", false), ("UnknownName", false), ("InvalidCommand", false), ("InvalidNumber", false), ("LimitExceeded", false), ("Ring", false), ("NothingToUndo", false), ("InvalidState", true), ("ReleaseError", true), ("ValueError", false), ("OverflowError", false), ("RuntimeError", false)]) hb
      simp only [List.mem_cons, List.not_mem_nil, or_false, Prod.mk.injEq] at hm
      rcases hm with ⟨rfl, rfl⟩ | ⟨rfl, rfl⟩ | ⟨rfl, rfl⟩ | ⟨rfl, rfl⟩ | ⟨rfl, rfl⟩ | ⟨rfl, rfl⟩ | ⟨rfl, rfl⟩ | ⟨rfl, rfl⟩ | ⟨rfl, rfl⟩ | ⟨rfl, rfl⟩ | ⟨rfl, rfl⟩ | ⟨rfl, rfl⟩ | ⟨rfl, rfl⟩ | ⟨rfl, rfl⟩ | ⟨rfl, rfl⟩ | ⟨rfl, rfl⟩
      · exact .inl ⟨_, M0, Z5_0⟩
      · exact .inl ⟨_, M1, Z5_1⟩
      · exact .inl ⟨_, M2, Z5_2⟩
      · exact .inl ⟨_, M3, Z5_3⟩
      · exact .inl ⟨_, M4, Z5_4⟩
      · exact .inl ⟨_, M6, Z5_5⟩
      · exact .inl ⟨_, M7, Z5_6⟩
      · exact .inl ⟨_, M8, Z5_7⟩
      · exact .inl ⟨_, M9, Z5_8⟩
      · exact .inl ⟨_, M10, Z5_9⟩
      · exact .inl ⟨_, M11, Z5_10⟩
      · exact .inl ⟨_, M5, Z5_11⟩
      · exact .inl ⟨_, MB_ReleaseError, Z5_12⟩
      · exact .inr ⟨"ValueError", MN_ValueError, by decide +kernel, Z5_13⟩
      · exact .inr ⟨"OverflowError", MN_OverflowError, by decide +kernel, Z5_14⟩
      · exact .inr ⟨"RuntimeError", MN_RuntimeError, by decide +kernel, Z5_15⟩
    | 6, hb =>
      rw [E6]
      refine ⟨xis_mk IC6 GA6 GG6 EC6 CC6 SG TK MO6, ?_⟩
      have hm := lookup_mem (l := [("InvalidProgram", false), ("InvalidText", false), ("InvalidScene", false), ("InvalidLine", false), ("InvalidChoice", false), ("UnknownName", true), ("InvalidCommand", false), ("InvalidNumber", false), ("LimitExceeded", false), ("Ring", false), ("NothingToUndo", false), ("InvalidState", false), ("ReleaseError", true), ("ValueError", false), ("OverflowError", false), ("RuntimeError", false)]) hb
      simp only [List.mem_cons, List.not_mem_nil, or_false, Prod.mk.injEq] at hm
      rcases hm with ⟨rfl, rfl⟩ | ⟨rfl, rfl⟩ | ⟨rfl, rfl⟩ | ⟨rfl, rfl⟩ | ⟨rfl, rfl⟩ | ⟨rfl, rfl⟩ | ⟨rfl, rfl⟩ | ⟨rfl, rfl⟩ | ⟨rfl, rfl⟩ | ⟨rfl, rfl⟩ | ⟨rfl, rfl⟩ | ⟨rfl, rfl⟩ | ⟨rfl, rfl⟩ | ⟨rfl, rfl⟩ | ⟨rfl, rfl⟩ | ⟨rfl, rfl⟩
      · exact .inl ⟨_, M0, Z6_0⟩
      · exact .inl ⟨_, M1, Z6_1⟩
      · exact .inl ⟨_, M2, Z6_2⟩
      · exact .inl ⟨_, M3, Z6_3⟩
      · exact .inl ⟨_, M4, Z6_4⟩
      · exact .inl ⟨_, M6, Z6_5⟩
      · exact .inl ⟨_, M7, Z6_6⟩
      · exact .inl ⟨_, M8, Z6_7⟩
      · exact .inl ⟨_, M9, Z6_8⟩
      · exact .inl ⟨_, M10, Z6_9⟩
      · exact .inl ⟨_, M11, Z6_10⟩
      · exact .inl ⟨_, M5, Z6_11⟩
      · exact .inl ⟨_, MB_ReleaseError, Z6_12⟩
      · exact .inr ⟨"ValueError", MN_ValueError, by decide +kernel, Z6_13⟩
      · exact .inr ⟨"OverflowError", MN_OverflowError, by decide +kernel, Z6_14⟩
      · exact .inr ⟨"RuntimeError", MN_RuntimeError, by decide +kernel, Z6_15⟩
    | 7, hb =>
      rw [E7]
      refine ⟨xis_mk IC7 GA7 GG7 EC7 CC7 SG TK MO7, ?_⟩
      have hm := lookup_mem (l := [("InvalidProgram", false), ("InvalidText", false), ("InvalidScene", false), ("InvalidLine", false), ("InvalidChoice", false), ("UnknownName", false), ("InvalidCommand", true), ("InvalidNumber", false), ("LimitExceeded", false), ("Ring", false), ("NothingToUndo", false), ("InvalidState", false), ("ReleaseError", true), ("ValueError", false), ("OverflowError", false), ("RuntimeError", false)]) hb
      simp only [List.mem_cons, List.not_mem_nil, or_false, Prod.mk.injEq] at hm
      rcases hm with ⟨rfl, rfl⟩ | ⟨rfl, rfl⟩ | ⟨rfl, rfl⟩ | ⟨rfl, rfl⟩ | ⟨rfl, rfl⟩ | ⟨rfl, rfl⟩ | ⟨rfl, rfl⟩ | ⟨rfl, rfl⟩ | ⟨rfl, rfl⟩ | ⟨rfl, rfl⟩ | ⟨rfl, rfl⟩ | ⟨rfl, rfl⟩ | ⟨rfl, rfl⟩ | ⟨rfl, rfl⟩ | ⟨rfl, rfl⟩ | ⟨rfl, rfl⟩
      · exact .inl ⟨_, M0, Z7_0⟩
      · exact .inl ⟨_, M1, Z7_1⟩
      · exact .inl ⟨_, M2, Z7_2⟩
      · exact .inl ⟨_, M3, Z7_3⟩
      · exact .inl ⟨_, M4, Z7_4⟩
      · exact .inl ⟨_, M6, Z7_5⟩
      · exact .inl ⟨_, M7, Z7_6⟩
      · exact .inl ⟨_, M8, Z7_7⟩
      · exact .inl ⟨_, M9, Z7_8⟩
      · exact .inl ⟨_, M10, Z7_9⟩
      · exact .inl ⟨_, M11, Z7_10⟩
      · exact .inl ⟨_, M5, Z7_11⟩
      · exact .inl ⟨_, MB_ReleaseError, Z7_12⟩
      · exact .inr ⟨"ValueError", MN_ValueError, by decide +kernel, Z7_13⟩
      · exact .inr ⟨"OverflowError", MN_OverflowError, by decide +kernel, Z7_14⟩
      · exact .inr ⟨"RuntimeError", MN_RuntimeError, by decide +kernel, Z7_15⟩
    | 8, hb =>
      rw [E8]
      refine ⟨xis_mk IC8 GA8 GG8 EC8 CC8 SG TK MO8, ?_⟩
      have hm := lookup_mem (l := [("InvalidProgram", false), ("InvalidText", false), ("InvalidScene", false), ("InvalidLine", false), ("InvalidChoice", false), ("UnknownName", false), ("InvalidCommand", false), ("InvalidNumber", true), ("LimitExceeded", false), ("Ring", false), ("NothingToUndo", false), ("InvalidState", false), ("ReleaseError", false), ("ValueError", true), ("OverflowError", false), ("RuntimeError", false)]) hb
      simp only [List.mem_cons, List.not_mem_nil, or_false, Prod.mk.injEq] at hm
      rcases hm with ⟨rfl, rfl⟩ | ⟨rfl, rfl⟩ | ⟨rfl, rfl⟩ | ⟨rfl, rfl⟩ | ⟨rfl, rfl⟩ | ⟨rfl, rfl⟩ | ⟨rfl, rfl⟩ | ⟨rfl, rfl⟩ | ⟨rfl, rfl⟩ | ⟨rfl, rfl⟩ | ⟨rfl, rfl⟩ | ⟨rfl, rfl⟩ | ⟨rfl, rfl⟩ | ⟨rfl, rfl⟩ | ⟨rfl, rfl⟩ | ⟨rfl, rfl⟩
      · exact .inl ⟨_, M0, Z8_0⟩
      · exact .inl ⟨_, M1, Z8_1⟩
      · exact .inl ⟨_, M2, Z8_2⟩
      · exact .inl ⟨_, M3, Z8_3⟩
      · exact .inl ⟨_, M4, Z8_4⟩
      · exact .inl ⟨_, M6, Z8_5⟩
      · exact .inl ⟨_, M7, Z8_6⟩
      · exact .inl ⟨_, M8, Z8_7⟩
      · exact .inl ⟨_, M9, Z8_8⟩
      · exact .inl ⟨_, M10, Z8_9⟩
      · exact .inl ⟨_, M11, Z8_10⟩
      · exact .inl ⟨_, M5, Z8_11⟩
      · exact .inl ⟨_, MB_ReleaseError, Z8_12⟩
      · exact .inr ⟨"ValueError", MN_ValueError, by decide +kernel, Z8_13⟩
      · exact .inr ⟨"OverflowError", MN_OverflowError, by decide +kernel, Z8_14⟩
      · exact .inr ⟨"RuntimeError", MN_RuntimeError, by decide +kernel, Z8_15⟩
    | 9, hb =>
      rw [E9]
      refine ⟨xis_mk IC9 GA9 GG9 EC9 CC9 SG TK MO9, ?_⟩
      have hm := lookup_mem (l := [("InvalidProgram", false), ("InvalidText", false), ("InvalidScene", false), ("InvalidLine", false), ("InvalidChoice", false), ("UnknownName", false), ("InvalidCommand", false), ("InvalidNumber", false), ("LimitExceeded", true), ("Ring", false), ("NothingToUndo", false), ("InvalidState", false), ("ReleaseError", false), ("ValueError", false), ("OverflowError", true), ("RuntimeError", false)]) hb
      simp only [List.mem_cons, List.not_mem_nil, or_false, Prod.mk.injEq] at hm
      rcases hm with ⟨rfl, rfl⟩ | ⟨rfl, rfl⟩ | ⟨rfl, rfl⟩ | ⟨rfl, rfl⟩ | ⟨rfl, rfl⟩ | ⟨rfl, rfl⟩ | ⟨rfl, rfl⟩ | ⟨rfl, rfl⟩ | ⟨rfl, rfl⟩ | ⟨rfl, rfl⟩ | ⟨rfl, rfl⟩ | ⟨rfl, rfl⟩ | ⟨rfl, rfl⟩ | ⟨rfl, rfl⟩ | ⟨rfl, rfl⟩ | ⟨rfl, rfl⟩
      · exact .inl ⟨_, M0, Z9_0⟩
      · exact .inl ⟨_, M1, Z9_1⟩
      · exact .inl ⟨_, M2, Z9_2⟩
      · exact .inl ⟨_, M3, Z9_3⟩
      · exact .inl ⟨_, M4, Z9_4⟩
      · exact .inl ⟨_, M6, Z9_5⟩
      · exact .inl ⟨_, M7, Z9_6⟩
      · exact .inl ⟨_, M8, Z9_7⟩
      · exact .inl ⟨_, M9, Z9_8⟩
      · exact .inl ⟨_, M10, Z9_9⟩
      · exact .inl ⟨_, M11, Z9_10⟩
      · exact .inl ⟨_, M5, Z9_11⟩
      · exact .inl ⟨_, MB_ReleaseError, Z9_12⟩
      · exact .inr ⟨"ValueError", MN_ValueError, by decide +kernel, Z9_13⟩
      · exact .inr ⟨"OverflowError", MN_OverflowError, by decide +kernel, Z9_14⟩
      · exact .inr ⟨"RuntimeError", MN_RuntimeError, by decide +kernel, Z9_15⟩
    | 10, hb =>
      rw [E10]
      refine ⟨xis_mk IC10 GA10 GG10 EC10 CC10 SG TK MO10, ?_⟩
      have hm := lookup_mem (l := [("InvalidProgram", false), ("InvalidText", false), ("InvalidScene", false), ("InvalidLine", false), ("InvalidChoice", false), ("UnknownName", false), ("InvalidCommand", false), ("InvalidNumber", false), ("LimitExceeded", false), ("Ring", true), ("NothingToUndo", false), ("InvalidState", false), ("ReleaseError", false), ("ValueError", false), ("OverflowError", false), ("RuntimeError", true)]) hb
      simp only [List.mem_cons, List.not_mem_nil, or_false, Prod.mk.injEq] at hm
      rcases hm with ⟨rfl, rfl⟩ | ⟨rfl, rfl⟩ | ⟨rfl, rfl⟩ | ⟨rfl, rfl⟩ | ⟨rfl, rfl⟩ | ⟨rfl, rfl⟩ | ⟨rfl, rfl⟩ | ⟨rfl, rfl⟩ | ⟨rfl, rfl⟩ | ⟨rfl, rfl⟩ | ⟨rfl, rfl⟩ | ⟨rfl, rfl⟩ | ⟨rfl, rfl⟩ | ⟨rfl, rfl⟩ | ⟨rfl, rfl⟩ | ⟨rfl, rfl⟩
      · exact .inl ⟨_, M0, Z10_0⟩
      · exact .inl ⟨_, M1, Z10_1⟩
      · exact .inl ⟨_, M2, Z10_2⟩
      · exact .inl ⟨_, M3, Z10_3⟩
      · exact .inl ⟨_, M4, Z10_4⟩
      · exact .inl ⟨_, M6, Z10_5⟩
      · exact .inl ⟨_, M7, Z10_6⟩
      · exact .inl ⟨_, M8, Z10_7⟩
      · exact .inl ⟨_, M9, Z10_8⟩
      · exact .inl ⟨_, M10, Z10_9⟩
      · exact .inl ⟨_, M11, Z10_10⟩
      · exact .inl ⟨_, M5, Z10_11⟩
      · exact .inl ⟨_, MB_ReleaseError, Z10_12⟩
      · exact .inr ⟨"ValueError", MN_ValueError, by decide +kernel, Z10_13⟩
      · exact .inr ⟨"OverflowError", MN_OverflowError, by decide +kernel, Z10_14⟩
      · exact .inr ⟨"RuntimeError", MN_RuntimeError, by decide +kernel, Z10_15⟩
    | 11, hb =>
      rw [E11]
      refine ⟨xis_mk IC11 GA11 GG11 EC11 CC11 SG TK MO11, ?_⟩
      have hm := lookup_mem (l := [("InvalidProgram", false), ("InvalidText", false), ("InvalidScene", false), ("InvalidLine", false), ("InvalidChoice", false), ("UnknownName", false), ("InvalidCommand", false), ("InvalidNumber", false), ("LimitExceeded", false), ("Ring", false), ("NothingToUndo", true), ("InvalidState", false), ("ReleaseError", false), ("ValueError", false), ("OverflowError", false), ("RuntimeError", true)]) hb
      simp only [List.mem_cons, List.not_mem_nil, or_false, Prod.mk.injEq] at hm
      rcases hm with ⟨rfl, rfl⟩ | ⟨rfl, rfl⟩ | ⟨rfl, rfl⟩ | ⟨rfl, rfl⟩ | ⟨rfl, rfl⟩ | ⟨rfl, rfl⟩ | ⟨rfl, rfl⟩ | ⟨rfl, rfl⟩ | ⟨rfl, rfl⟩ | ⟨rfl, rfl⟩ | ⟨rfl, rfl⟩ | ⟨rfl, rfl⟩ | ⟨rfl, rfl⟩ | ⟨rfl, rfl⟩ | ⟨rfl, rfl⟩ | ⟨rfl, rfl⟩
      · exact .inl ⟨_, M0, Z11_0⟩
      · exact .inl ⟨_, M1, Z11_1⟩
      · exact .inl ⟨_, M2, Z11_2⟩
      · exact .inl ⟨_, M3, Z11_3⟩
      · exact .inl ⟨_, M4, Z11_4⟩
      · exact .inl ⟨_, M6, Z11_5⟩
      · exact .inl ⟨_, M7, Z11_6⟩
      · exact .inl ⟨_, M8, Z11_7⟩
      · exact .inl ⟨_, M9, Z11_8⟩
      · exact .inl ⟨_, M10, Z11_9⟩
      · exact .inl ⟨_, M11, Z11_10⟩
      · exact .inl ⟨_, M5, Z11_11⟩
      · exact .inl ⟨_, MB_ReleaseError, Z11_12⟩
      · exact .inr ⟨"ValueError", MN_ValueError, by decide +kernel, Z11_13⟩
      · exact .inr ⟨"OverflowError", MN_OverflowError, by decide +kernel, Z11_14⟩
      · exact .inr ⟨"RuntimeError", MN_RuntimeError, by decide +kernel, Z11_15⟩
    | k + 12, hb => cases hb
  have hCF : ∀ base : Heap, K.In base → base.Ns mainGlobals mg → CFac P w K mg base (CAf mg) clss := fun base _ _ => ⟨CF P w base, fun _ => AT, IX, IS⟩
  have hD : ∀ d ∈ defs, DFact K mg d := by
    intro d hd
    simp only [defs, List.mem_cons, List.not_mem_nil, or_false] at hd
    rcases hd with rfl | rfl | rfl | rfl | rfl | rfl | rfl | rfl | rfl
    · exact dfact0 (d := f_law) (x := "law") (st := top 23) rfl rfl rfl (fun _ _ _ _ _ _ us hl => match us, hl with | [_], _ => rfl) X G a0 l0 c0 k0
    · exact dfact0 (d := f_law_numbers) (x := "_law_numbers") (st := top 15) rfl rfl rfl (fun _ _ _ _ _ _ us hl => match us, hl with | [_, _, _], _ => rfl) X G a1 l1 c1 k1
    · exact dfact0 (d := f_law_draw) (x := "_law_draw") (st := top 16) rfl rfl rfl (fun _ _ _ _ _ _ us hl => match us, hl with | [_, _], _ => rfl) X G a2 l2 c2 k2
    · exact dfact0 (d := f_law_made) (x := "_law_made") (st := top 19) rfl rfl rfl (fun _ _ _ _ _ _ us hl => match us, hl with | [_], _ => rfl) X G a3 l3 c3 k3
    · exact dfact0 (d := f_law_kinds) (x := "_law_kinds") (st := top 17) rfl rfl rfl (fun _ _ _ _ _ _ us hl => match us, hl with | [_], _ => rfl) X G a4 l4 c4 k4
    · exact dfact0 (d := f_law_bases) (x := "_law_bases") (st := top 18) rfl rfl rfl (fun _ _ _ _ _ _ us hl => match us, hl with | [_], _ => rfl) X G a5 l5 c5 k5
    · exact dfact0 (d := f_law_fields) (x := "_law_fields") (st := top 21) rfl rfl rfl (fun _ _ _ _ _ _ us hl => match us, hl with | [_], _ => rfl) X G a6 l6 c6 k6
    · exact dfact0 (d := f_law_named) (x := "_law_named") (st := top 20) rfl rfl rfl (fun _ _ _ _ _ _ us hl => match us, hl with | [_], _ => rfl) X G a7 l7 c7 k7
    · exact dfact0 (d := f_law_raised) (x := "_law_raised") (st := top 22) rfl rfl rfl (fun _ _ _ _ _ _ us hl => match us, hl with | [_], _ => rfl) X G a8 l8 c8 k8
  have hC : ∀ p ∈ cons, conOk K mg p := fun p hp => by simp [cons] at hp
  have hN : ∀ p ∈ nos, mg p = none := by
    intro p hp
    simp only [nos, List.mem_cons, List.not_mem_nil, or_false] at hp
    rcases hp with rfl | rfl | rfl | rfl | rfl | rfl | rfl
    · exact no_of X G n0
    · exact no_of X G n1
    · exact no_of X G n2
    · exact no_of X G n3
    · exact no_of X G n4
    · exact no_of X G n5
    · exact no_of X G n6
  have hH : ∀ base : Heap, K.In base → base.Ns mainGlobals mg → Hand P w K mg base (CAf mg) defs := by
    intro base _ _ d g f oc dV kV doc pm cdv ct od an osl hd hs lk hcd
    simp only [defs, List.mem_cons, List.not_mem_nil, or_false] at hd
    rcases hd with rfl | rfl | rfl | rfl | rfl | rfl | rfl | rfl | rfl
    · cases hs
    · cases hs
    · cases hs
    · cases hs
    · cases hs
    · cases hs
    · cases hs
    · cases hs
    · cases hs
      obtain ⟨B, newId, initId, bmB, fI, fd, h1, h2, h3, h4, h5, _, h6⟩ := (CF P w base "InvalidScene" 2 (by decide +kernel)).ex
      rw [E2] at h1 h2 h4 h6
      exact z_fn (k := 2) (bd := bdR) lk hcd (scB_ok (by decide +kernel)) fun A outer s H E hr hg => raised_ps (D := B_ReleaseError) rfl rfl rfl hg hr.units (takes_of rfl rfl rfl rfl) rfl (by decide +kernel : (["_law_one", "_law_e"] : List Str).Nodup) rfl rfl (by decide) (by decide) (by decide) (by decide) (by decide) (by decide) rfl rfl rfl (hN "repr" (by decide +kernel)) h6 MB_ReleaseError (exm_mk EB IB TB SB) h1 ⟨GA2, GG2, EC2, H2⟩ N2 TY h2 h3 h4 hr h5
  exact law_fnZ (d := f_law) (x := "law") (st := top 23) rfl rfl rfl rfl (fun _ _ _ _ _ _ _ => rfl) hCF hH ck_ok X G hmg hD hC hN a0 l0 c0
end
end K1
set_option Elab.async false
set_option linter.all false
set_option maxRecDepth 100000
set_option maxHeartbeats 4000000
namespace K1
open PySem Z
theorem get_at {st g : List O} {i : Nat} : (st ++ g)[st.length + i]? = g[i]? := by rw [List.getElem?_append_right (by omega)]; simp
theorem get_z {st g : List O} : (st ++ g)[st.length]? = g[0]? := get_at (i := 0)
theorem isc_at {st : Store} {k c : Nat} {fs : List (Str × D)} {x : Str} {b : Bool} (h : st[k]? = some (.exc c fs)) (hb : isiF c x = some b) : oIsc tab.isi x (.d (.ref k)) st = .ok (.d (.p (.bl b))) st := by
  unfold oIsc excAt
  simp only [h]
  show (match isiF c x with | some b => R.ok (kBl b) st | none => .bad) = _
  rw [hb]
theorem attr_at {st : Store} {k c : Nat} {f : Str} {d : D} (h : st[k]? = some (.exc c [(f, d)])) (hf : tab.fld c = f) : oAttr tab.fld f (.d (.ref k)) st = .ok (.d d) st := by
  unfold oAttr excAt
  simp only [h]
  simp [hf]
def kindNames : List Str := ["InvalidProgram", "InvalidText", "InvalidScene", "InvalidLine", "InvalidChoice", "UnknownName", "InvalidCommand", "InvalidNumber", "LimitExceeded", "Ring", "NothingToUndo", "InvalidState"]
def ib (c : Nat) (x : Str) : Bool := (isiF c x).getD false
theorem ib_ok {c : Nat} (hc : c < 12) : ∀ x ∈ isxL, isiF c x = some (ib c x) := by
  have : ∀ c < 12, ∀ x ∈ isxL, isiF c x = some (ib c x) := by decide +kernel
  exact this c hc
theorem kinds_to {st : Store} {k c n : Nat} {fs : List (Str × D)} {Q : T → Store → Prop} (hc : c < 12) (h : st[k]? = some (.exc c fs)) (q : Q (.l (kindNames.map fun x => .p (.bl (ib c x)))) st) : (callN defs tab (n + 1) 4 [.ref k] st).to Q := by
  have hk : k < st.length := (List.getElem?_eq_some_iff.mp h).1
  have ha : ∀ g, (st ++ g)[k]? = some (.exc c fs) := fun g => by rw [List.getElem?_append_left hk]; exact h
  have hi : ∀ x ∈ isxL, ∀ g, oIsc tab.isi x (.d (.ref k)) (st ++ g) = .ok (.d (.p (.bl (ib c x)))) (st ++ g) := fun x hx g => isc_at (ha g) (ib_ok hc x hx)
  have hi0 : ∀ x ∈ isxL, oIsc tab.isi x (.d (.ref k)) st = .ok (.d (.p (.bl (ib c x)))) st := fun x hx => isc_at h (ib_ok hc x hx)
  refine callT_to (d := f_law_kinds) rfl rfl rfl rfl ?_
  unfold f_law_kinds b_law_kinds
  have m : ∀ x, decide (x ∈ isxL) = true → x ∈ isxL := fun x h => of_decide_eq_true h
  simp only [R.to_ok, R.to_bad, R.to_bind, R.bind_ok, R.to_ite, R.nox_ok, R.to_nox, RS.to_nx, RS.to_rt, RS.to_bk, RS.to_ct, RS.to_bad, RS.to_ite, RS.to_sE, sE_ok, w_seq, w_var, w_k, w_gk, w_tup, w_lst, w_lnil, w_lcons, w_bin, w_neg, w_cmp, w_cmpB, w_chain, w_chainB, w_and1, w_and2, w_or1, w_or2, w_andB1, w_andB2, w_orB1, w_orB2, w_not, w_notB, w_ite, w_ix, w_sl, w_no, w_yes, w_call, w_b1, w_bN, w_meth, w_lc, w_cno, w_cyes, w_iof, w_irng, w_ien, w_varB, w_callB, w_ixB, w_b1B, w_binB, w_slB, w_new, w_attr, w_isc, w_ret, w_retN, w_exp, w_asgn, w_asgt, w_par, w_par3, w_sub, w_if, w_for, w_mat, w_mcase, w_mels, w_mnil, w_pass, w_brk, w_cont, w_snil, w_s1, w_s2, box_d, box_l, o_add, o_sub, o_mul, o_fdiv, o_mod, o_pow, o_neg, o_lt, o_le, o_gt, o_ge, o_eqi, o_eqs, o_nei, o_nes, o_bl, tru_bl, tru_int, tru_non, o_intT, o_int, o_intb, o_max, asg_n, closed_p, List.set_cons_zero, List.set_cons_succ, List.getElem?_cons_zero, List.getElem?_cons_succ, List.map_cons, List.map_nil, List.cons_append, List.nil_append, List.length_cons, List.length_nil, List.replicate_succ, List.replicate_zero, Nat.reduceSub, Nat.reduceAdd, if_true, if_false, Bool.false_eq_true, ite_true, ite_false, reduceIte, List.append_nil, Nat.reduceEqDiff, decide_true, decide_false, Bool.and_true, Bool.true_and, Nat.reduceLeDiff, Bool.not_true, Bool.not_false, List.map_map, asg_n, asg_t, tupOf_p, tupOf_t, hi0 _ (m "InvalidProgram" (by decide +kernel)), hi0 _ (m "InvalidText" (by decide +kernel)), hi0 _ (m "InvalidScene" (by decide +kernel)), hi _ (m "InvalidLine" (by decide +kernel)), hi _ (m "InvalidChoice" (by decide +kernel)), hi _ (m "UnknownName" (by decide +kernel)),
    hi _ (m "InvalidCommand" (by decide +kernel)), hi _ (m "InvalidNumber" (by decide +kernel)), hi _ (m "LimitExceeded" (by decide +kernel)), hi _ (m "Ring" (by decide +kernel)), hi _ (m "NothingToUndo" (by decide +kernel)), hi _ (m "InvalidState" (by decide +kernel)), List.append_assoc, List.length_append]
  rw [add_ref_l get_z (by simp)]
  simp only [R.to_ok, R.to_bad, R.to_bind, R.bind_ok, R.to_ite, R.nox_ok, R.to_nox, RS.to_nx, RS.to_rt, RS.to_bk, RS.to_ct, RS.to_bad, RS.to_ite, RS.to_sE, sE_ok, w_seq, w_var, w_k, w_gk, w_tup, w_lst, w_lnil, w_lcons, w_bin, w_neg, w_cmp, w_cmpB, w_chain, w_chainB, w_and1, w_and2, w_or1, w_or2, w_andB1, w_andB2, w_orB1, w_orB2, w_not, w_notB, w_ite, w_ix, w_sl, w_no, w_yes, w_call, w_b1, w_bN, w_meth, w_lc, w_cno, w_cyes, w_iof, w_irng, w_ien, w_varB, w_callB, w_ixB, w_b1B, w_binB, w_slB, w_new, w_attr, w_isc, w_ret, w_retN, w_exp, w_asgn, w_asgt, w_par, w_par3, w_sub, w_if, w_for, w_mat, w_mcase, w_mels, w_mnil, w_pass, w_brk, w_cont, w_snil, w_s1, w_s2, box_d, box_l, o_add, o_sub, o_mul, o_fdiv, o_mod, o_pow, o_neg, o_lt, o_le, o_gt, o_ge, o_eqi, o_eqs, o_nei, o_nes, o_bl, tru_bl, tru_int, tru_non, o_intT, o_int, o_intb, o_max, asg_n, closed_p, List.set_cons_zero, List.set_cons_succ, List.getElem?_cons_zero, List.getElem?_cons_succ, List.map_cons, List.map_nil, List.cons_append, List.nil_append, List.length_cons, List.length_nil, List.replicate_succ, List.replicate_zero, Nat.reduceSub, Nat.reduceAdd, if_true, if_false, Bool.false_eq_true, ite_true, ite_false, reduceIte, List.append_nil, Nat.reduceEqDiff, decide_true, decide_false, Bool.and_true, Bool.true_and, Nat.reduceLeDiff, Bool.not_true, Bool.not_false, List.map_map, asg_n, asg_t, tupOf_p, tupOf_t, List.append_assoc, List.length_append, hi _ (m "InvalidCommand" (by decide +kernel)), hi _ (m "InvalidNumber" (by decide +kernel)), hi _ (m "LimitExceeded" (by decide +kernel)), hi _ (m "Ring" (by decide +kernel)), hi _ (m "NothingToUndo" (by decide +kernel)), hi _ (m "InvalidState" (by decide +kernel))]
  rw [add_ref_l get_at (by simp)]
  simp only [R.to_ok, R.to_bad, R.to_bind, R.bind_ok, R.to_ite, R.nox_ok, R.to_nox, RS.to_nx, RS.to_rt, RS.to_bk, RS.to_ct, RS.to_bad, RS.to_ite, RS.to_sE, sE_ok, w_seq, w_var, w_k, w_gk, w_tup, w_lst, w_lnil, w_lcons, w_bin, w_neg, w_cmp, w_cmpB, w_chain, w_chainB, w_and1, w_and2, w_or1, w_or2, w_andB1, w_andB2, w_orB1, w_orB2, w_not, w_notB, w_ite, w_ix, w_sl, w_no, w_yes, w_call, w_b1, w_bN, w_meth, w_lc, w_cno, w_cyes, w_iof, w_irng, w_ien, w_varB, w_callB, w_ixB, w_b1B, w_binB, w_slB, w_new, w_attr, w_isc, w_ret, w_retN, w_exp, w_asgn, w_asgt, w_par, w_par3, w_sub, w_if, w_for, w_mat, w_mcase, w_mels, w_mnil, w_pass, w_brk, w_cont, w_snil, w_s1, w_s2, box_d, box_l, o_add, o_sub, o_mul, o_fdiv, o_mod, o_pow, o_neg, o_lt, o_le, o_gt, o_ge, o_eqi, o_eqs, o_nei, o_nes, o_bl, tru_bl, tru_int, tru_non, o_intT, o_int, o_intb, o_max, asg_n, closed_p, List.set_cons_zero, List.set_cons_succ, List.getElem?_cons_zero, List.getElem?_cons_succ, List.map_cons, List.map_nil, List.cons_append, List.nil_append, List.length_cons, List.length_nil, List.replicate_succ, List.replicate_zero, Nat.reduceSub, Nat.reduceAdd, if_true, if_false, Bool.false_eq_true, ite_true, ite_false, reduceIte, List.append_nil, Nat.reduceEqDiff, decide_true, decide_false, Bool.and_true, Bool.true_and, Nat.reduceLeDiff, Bool.not_true, Bool.not_false, List.map_map, asg_n, asg_t, tupOf_p, tupOf_t, List.append_assoc, List.length_append, hi _ (m "Ring" (by decide +kernel)), hi _ (m "NothingToUndo" (by decide +kernel)), hi _ (m "InvalidState" (by decide +kernel))]
  rw [add_ref_l get_at (by simp)]
  simp only [R.to_ok, R.to_bad, R.to_bind, R.bind_ok, R.to_ite, R.nox_ok, R.to_nox, RS.to_nx, RS.to_rt, RS.to_bk, RS.to_ct, RS.to_bad, RS.to_ite, RS.to_sE, sE_ok, w_seq, w_var, w_k, w_gk, w_tup, w_lst, w_lnil, w_lcons, w_bin, w_neg, w_cmp, w_cmpB, w_chain, w_chainB, w_and1, w_and2, w_or1, w_or2, w_andB1, w_andB2, w_orB1, w_orB2, w_not, w_notB, w_ite, w_ix, w_sl, w_no, w_yes, w_call, w_b1, w_bN, w_meth, w_lc, w_cno, w_cyes, w_iof, w_irng, w_ien, w_varB, w_callB, w_ixB, w_b1B, w_binB, w_slB, w_new, w_attr, w_isc, w_ret, w_retN, w_exp, w_asgn, w_asgt, w_par, w_par3, w_sub, w_if, w_for, w_mat, w_mcase, w_mels, w_mnil, w_pass, w_brk, w_cont, w_snil, w_s1, w_s2, box_d, box_l, o_add, o_sub, o_mul, o_fdiv, o_mod, o_pow, o_neg, o_lt, o_le, o_gt, o_ge, o_eqi, o_eqs, o_nei, o_nes, o_bl, tru_bl, tru_int, tru_non, o_intT, o_int, o_intb, o_max, asg_n, closed_p, List.set_cons_zero, List.set_cons_succ, List.getElem?_cons_zero, List.getElem?_cons_succ, List.map_cons, List.map_nil, List.cons_append, List.nil_append, List.length_cons, List.length_nil, List.replicate_succ, List.replicate_zero, Nat.reduceSub, Nat.reduceAdd, if_true, if_false, Bool.false_eq_true, ite_true, ite_false, reduceIte, List.append_nil, Nat.reduceEqDiff, decide_true, decide_false, Bool.and_true, Bool.true_and, Nat.reduceLeDiff, Bool.not_true, Bool.not_false, List.map_map, asg_n, asg_t, tupOf_p, tupOf_t, List.append_assoc, List.length_append]
  exact ⟨_, st, rfl, tidySt_of (by simp) fun _ _ _ h => .inl h, q⟩
def baseNames : List Str := ["ReleaseError", "ValueError", "OverflowError", "RuntimeError"]
theorem bases_to {st : Store} {k c n : Nat} {fs : List (Str × D)} {Q : T → Store → Prop} (hc : c < 12) (h : st[k]? = some (.exc c fs)) (q : Q (.l (baseNames.map fun x => .p (.bl (ib c x)))) st) : (callN defs tab (n + 1) 5 [.ref k] st).to Q := by
  have hk : k < st.length := (List.getElem?_eq_some_iff.mp h).1
  have ha : ∀ g, (st ++ g)[k]? = some (.exc c fs) := fun g => by rw [List.getElem?_append_left hk]; exact h
  have hi : ∀ x ∈ isxL, ∀ g, oIsc tab.isi x (.d (.ref k)) (st ++ g) = .ok (.d (.p (.bl (ib c x)))) (st ++ g) := fun x hx g => isc_at (ha g) (ib_ok hc x hx)
  have hi0 : ∀ x ∈ isxL, oIsc tab.isi x (.d (.ref k)) st = .ok (.d (.p (.bl (ib c x)))) st := fun x hx => isc_at h (ib_ok hc x hx)
  refine callT_to (d := f_law_bases) rfl rfl rfl rfl ?_
  unfold f_law_bases b_law_bases
  have m : ∀ x, decide (x ∈ isxL) = true → x ∈ isxL := fun x h => of_decide_eq_true h
  simp only [R.to_ok, R.to_bad, R.to_bind, R.bind_ok, R.to_ite, R.nox_ok, R.to_nox, RS.to_nx, RS.to_rt, RS.to_bk, RS.to_ct, RS.to_bad, RS.to_ite, RS.to_sE, sE_ok, w_seq, w_var, w_k, w_gk, w_tup, w_lst, w_lnil, w_lcons, w_bin, w_neg, w_cmp, w_cmpB, w_chain, w_chainB, w_and1, w_and2, w_or1, w_or2, w_andB1, w_andB2, w_orB1, w_orB2, w_not, w_notB, w_ite, w_ix, w_sl, w_no, w_yes, w_call, w_b1, w_bN, w_meth, w_lc, w_cno, w_cyes, w_iof, w_irng, w_ien, w_varB, w_callB, w_ixB, w_b1B, w_binB, w_slB, w_new, w_attr, w_isc, w_ret, w_retN, w_exp, w_asgn, w_asgt, w_par, w_par3, w_sub, w_if, w_for, w_mat, w_mcase, w_mels, w_mnil, w_pass, w_brk, w_cont, w_snil, w_s1, w_s2, box_d, box_l, o_add, o_sub, o_mul, o_fdiv, o_mod, o_pow, o_neg, o_lt, o_le, o_gt, o_ge, o_eqi, o_eqs, o_nei, o_nes, o_bl, tru_bl, tru_int, tru_non, o_intT, o_int, o_intb, o_max, asg_n, closed_p, List.set_cons_zero, List.set_cons_succ, List.getElem?_cons_zero, List.getElem?_cons_succ, List.map_cons, List.map_nil, List.cons_append, List.nil_append, List.length_cons, List.length_nil, List.replicate_succ, List.replicate_zero, Nat.reduceSub, Nat.reduceAdd, if_true, if_false, Bool.false_eq_true, ite_true, ite_false, reduceIte, List.append_nil, Nat.reduceEqDiff, decide_true, decide_false, Bool.and_true, Bool.true_and, Nat.reduceLeDiff, Bool.not_true, Bool.not_false, List.map_map, asg_n, asg_t, tupOf_p, tupOf_t, hi0 _ (m "ReleaseError" (by decide +kernel)), hi0 _ (m "ValueError" (by decide +kernel)), hi0 _ (m "OverflowError" (by decide +kernel)), hi _ (m "RuntimeError" (by decide +kernel)), List.append_assoc, List.length_append]
  rw [add_ref_l get_z (by simp)]
  simp only [R.to_ok, R.to_bad, R.to_bind, R.bind_ok, R.to_ite, R.nox_ok, R.to_nox, RS.to_nx, RS.to_rt, RS.to_bk, RS.to_ct, RS.to_bad, RS.to_ite, RS.to_sE, sE_ok, w_seq, w_var, w_k, w_gk, w_tup, w_lst, w_lnil, w_lcons, w_bin, w_neg, w_cmp, w_cmpB, w_chain, w_chainB, w_and1, w_and2, w_or1, w_or2, w_andB1, w_andB2, w_orB1, w_orB2, w_not, w_notB, w_ite, w_ix, w_sl, w_no, w_yes, w_call, w_b1, w_bN, w_meth, w_lc, w_cno, w_cyes, w_iof, w_irng, w_ien, w_varB, w_callB, w_ixB, w_b1B, w_binB, w_slB, w_new, w_attr, w_isc, w_ret, w_retN, w_exp, w_asgn, w_asgt, w_par, w_par3, w_sub, w_if, w_for, w_mat, w_mcase, w_mels, w_mnil, w_pass, w_brk, w_cont, w_snil, w_s1, w_s2, box_d, box_l, o_add, o_sub, o_mul, o_fdiv, o_mod, o_pow, o_neg, o_lt, o_le, o_gt, o_ge, o_eqi, o_eqs, o_nei, o_nes, o_bl, tru_bl, tru_int, tru_non, o_intT, o_int, o_intb, o_max, asg_n, closed_p, List.set_cons_zero, List.set_cons_succ, List.getElem?_cons_zero, List.getElem?_cons_succ, List.map_cons, List.map_nil, List.cons_append, List.nil_append, List.length_cons, List.length_nil, List.replicate_succ, List.replicate_zero, Nat.reduceSub, Nat.reduceAdd, if_true, if_false, Bool.false_eq_true, ite_true, ite_false, reduceIte, List.append_nil, Nat.reduceEqDiff, decide_true, decide_false, Bool.and_true, Bool.true_and, Nat.reduceLeDiff, Bool.not_true, Bool.not_false, List.map_map, asg_n, asg_t, tupOf_p, tupOf_t, List.append_assoc, List.length_append]
  exact ⟨_, st, rfl, tidySt_of (by simp) fun _ _ _ h => .inl h, q⟩
abbrev xc (c : Nat) (d : D) : O := .exc c [(tab.fld c, d)]
def refs (n : Nat) (l : List Nat) : List D := l.map fun i => .ref (n + i)
def cls : List Nat := [0, 1, 2, 3, 4, 6, 7, 8, 9, 10, 11, 5]
/-- a list of the twelve stands at these places -/
def Twelve (st : Store) (d : D) (ds : List D) : Prop := ds.length = 12 ∧ ∀ (i : Nat) (x : D), ds[i]? = some x → ∃ (k c : Nat), x = .ref k ∧ cls[i]? = some c ∧ st[k]? = some (xc c d)
theorem made_to {st : Store} {d : D} {n : Nat} {Q : T → Store → Prop} (q : ∀ (ds : List D) (g : Store), Twelve (st ++ g) d ds → Q (.l ds) (st ++ g)) : (callN defs tab (n + 1) 3 [d] st).to Q := by
  refine call_to (d := f_law_made) rfl rfl rfl rfl ?_
  unfold f_law_made b_law_made
  simp only [R.to_ok, R.to_bad, R.to_bind, R.bind_ok, R.to_ite, R.nox_ok, R.to_nox, RS.to_nx, RS.to_rt, RS.to_bk, RS.to_ct, RS.to_bad, RS.to_ite, RS.to_sE, sE_ok, w_seq, w_var, w_k, w_gk, w_tup, w_lst, w_lnil, w_lcons, w_bin, w_neg, w_cmp, w_cmpB, w_chain, w_chainB, w_and1, w_and2, w_or1, w_or2, w_andB1, w_andB2, w_orB1, w_orB2, w_not, w_notB, w_ite, w_ix, w_sl, w_no, w_yes, w_call, w_b1, w_bN, w_meth, w_lc, w_cno, w_cyes, w_iof, w_irng, w_ien, w_varB, w_callB, w_ixB, w_b1B, w_binB, w_slB, w_new, w_attr, w_isc, w_ret, w_retN, w_exp, w_asgn, w_asgt, w_par, w_par3, w_sub, w_if, w_for, w_mat, w_mcase, w_mels, w_mnil, w_pass, w_brk, w_cont, w_snil, w_s1, w_s2, box_d, box_l, o_add, o_sub, o_mul, o_fdiv, o_mod, o_pow, o_neg, o_lt, o_le, o_gt, o_ge, o_eqi, o_eqs, o_nei, o_nes, o_bl, tru_bl, tru_int, tru_non, o_intT, o_int, o_intb, o_max, asg_n, closed_p, List.set_cons_zero, List.set_cons_succ, List.getElem?_cons_zero, List.getElem?_cons_succ, List.map_cons, List.map_nil, List.cons_append, List.nil_append, List.length_cons, List.length_nil, List.replicate_succ, List.replicate_zero, Nat.reduceSub, Nat.reduceAdd, if_true, if_false, Bool.false_eq_true, ite_true, ite_false, reduceIte, List.append_nil, Nat.reduceEqDiff, decide_true, decide_false, Bool.and_true, Bool.true_and, Nat.reduceLeDiff, Bool.not_true, Bool.not_false, List.map_map, asg_n, asg_t, tupOf_p, tupOf_t, List.append_assoc, List.length_append]
  rw [add_ref_l get_at (by simp)]
  simp only [R.to_ok, R.to_bad, R.to_bind, R.bind_ok, R.to_ite, R.nox_ok, R.to_nox, RS.to_nx, RS.to_rt, RS.to_bk, RS.to_ct, RS.to_bad, RS.to_ite, RS.to_sE, sE_ok, w_seq, w_var, w_k, w_gk, w_tup, w_lst, w_lnil, w_lcons, w_bin, w_neg, w_cmp, w_cmpB, w_chain, w_chainB, w_and1, w_and2, w_or1, w_or2, w_andB1, w_andB2, w_orB1, w_orB2, w_not, w_notB, w_ite, w_ix, w_sl, w_no, w_yes, w_call, w_b1, w_bN, w_meth, w_lc, w_cno, w_cyes, w_iof, w_irng, w_ien, w_varB, w_callB, w_ixB, w_b1B, w_binB, w_slB, w_new, w_attr, w_isc, w_ret, w_retN, w_exp, w_asgn, w_asgt, w_par, w_par3, w_sub, w_if, w_for, w_mat, w_mcase, w_mels, w_mnil, w_pass, w_brk, w_cont, w_snil, w_s1, w_s2, box_d, box_l, o_add, o_sub, o_mul, o_fdiv, o_mod, o_pow, o_neg, o_lt, o_le, o_gt, o_ge, o_eqi, o_eqs, o_nei, o_nes, o_bl, tru_bl, tru_int, tru_non, o_intT, o_int, o_intb, o_max, asg_n, closed_p, List.set_cons_zero, List.set_cons_succ, List.getElem?_cons_zero, List.getElem?_cons_succ, List.map_cons, List.map_nil, List.cons_append, List.nil_append, List.length_cons, List.length_nil, List.replicate_succ, List.replicate_zero, Nat.reduceSub, Nat.reduceAdd, if_true, if_false, Bool.false_eq_true, ite_true, ite_false, reduceIte, List.append_nil, Nat.reduceEqDiff, decide_true, decide_false, Bool.and_true, Bool.true_and, Nat.reduceLeDiff, Bool.not_true, Bool.not_false, List.map_map, asg_n, asg_t, tupOf_p, tupOf_t, List.append_assoc, List.length_append]
  rw [add_ref_l get_at (by simp)]
  simp only [R.to_ok, R.to_bad, R.to_bind, R.bind_ok, R.to_ite, R.nox_ok, R.to_nox, RS.to_nx, RS.to_rt, RS.to_bk, RS.to_ct, RS.to_bad, RS.to_ite, RS.to_sE, sE_ok, w_seq, w_var, w_k, w_gk, w_tup, w_lst, w_lnil, w_lcons, w_bin, w_neg, w_cmp, w_cmpB, w_chain, w_chainB, w_and1, w_and2, w_or1, w_or2, w_andB1, w_andB2, w_orB1, w_orB2, w_not, w_notB, w_ite, w_ix, w_sl, w_no, w_yes, w_call, w_b1, w_bN, w_meth, w_lc, w_cno, w_cyes, w_iof, w_irng, w_ien, w_varB, w_callB, w_ixB, w_b1B, w_binB, w_slB, w_new, w_attr, w_isc, w_ret, w_retN, w_exp, w_asgn, w_asgt, w_par, w_par3, w_sub, w_if, w_for, w_mat, w_mcase, w_mels, w_mnil, w_pass, w_brk, w_cont, w_snil, w_s1, w_s2, box_d, box_l, o_add, o_sub, o_mul, o_fdiv, o_mod, o_pow, o_neg, o_lt, o_le, o_gt, o_ge, o_eqi, o_eqs, o_nei, o_nes, o_bl, tru_bl, tru_int, tru_non, o_intT, o_int, o_intb, o_max, asg_n, closed_p, List.set_cons_zero, List.set_cons_succ, List.getElem?_cons_zero, List.getElem?_cons_succ, List.map_cons, List.map_nil, List.cons_append, List.nil_append, List.length_cons, List.length_nil, List.replicate_succ, List.replicate_zero, Nat.reduceSub, Nat.reduceAdd, if_true, if_false, Bool.false_eq_true, ite_true, ite_false, reduceIte, List.append_nil, Nat.reduceEqDiff, decide_true, decide_false, Bool.and_true, Bool.true_and, Nat.reduceLeDiff, Bool.not_true, Bool.not_false, List.map_map, asg_n, asg_t, tupOf_p, tupOf_t, List.append_assoc, List.length_append]
  refine q _ _ ⟨rfl, fun i x hx => ?_⟩
  match i, hx with
  | 0, hx => cases hx; exact ⟨_, 0, rfl, rfl, get_z⟩
  | 1, hx => cases hx; exact ⟨_, 1, rfl, rfl, by simp only [Nat.add_assoc]; exact get_at⟩
  | 2, hx => cases hx; exact ⟨_, 2, rfl, rfl, by simp only [Nat.add_assoc]; exact get_at⟩
  | 3, hx => cases hx; exact ⟨_, 3, rfl, rfl, by simp only [Nat.add_assoc]; exact get_at⟩
  | 4, hx => cases hx; exact ⟨_, 4, rfl, rfl, by simp only [Nat.add_assoc]; exact get_at⟩
  | 5, hx => cases hx; exact ⟨_, 6, rfl, rfl, by simp only [Nat.add_assoc]; exact get_at⟩
  | 6, hx => cases hx; exact ⟨_, 7, rfl, rfl, by simp only [Nat.add_assoc]; exact get_at⟩
  | 7, hx => cases hx; exact ⟨_, 8, rfl, rfl, by simp only [Nat.add_assoc]; exact get_at⟩
  | 8, hx => cases hx; exact ⟨_, 9, rfl, rfl, by simp only [Nat.add_assoc]; exact get_at⟩
  | 9, hx => cases hx; exact ⟨_, 10, rfl, rfl, by simp only [Nat.add_assoc]; exact get_at⟩
  | 10, hx => cases hx; exact ⟨_, 11, rfl, rfl, by simp only [Nat.add_assoc]; exact get_at⟩
  | 11, hx => cases hx; exact ⟨_, 5, rfl, rfl, by simp only [Nat.add_assoc]; exact get_at⟩
  | i + 12, hx => cases hx
theorem named_to {st : Store} {d : D} {n : Nat} {Q : T → Store → Prop} (q : ∀ (ds : List D) (g : Store), Twelve (st ++ g) d ds → Q (.l ds) (st ++ g)) : (callN defs tab (n + 1) 7 [d] st).to Q := by
  refine call_to (d := f_law_named) rfl rfl rfl rfl ?_
  unfold f_law_named b_law_named
  simp only [R.to_ok, R.to_bad, R.to_bind, R.bind_ok, R.to_ite, R.nox_ok, R.to_nox, RS.to_nx, RS.to_rt, RS.to_bk, RS.to_ct, RS.to_bad, RS.to_ite, RS.to_sE, sE_ok, w_seq, w_var, w_k, w_gk, w_tup, w_lst, w_lnil, w_lcons, w_bin, w_neg, w_cmp, w_cmpB, w_chain, w_chainB, w_and1, w_and2, w_or1, w_or2, w_andB1, w_andB2, w_orB1, w_orB2, w_not, w_notB, w_ite, w_ix, w_sl, w_no, w_yes, w_call, w_b1, w_bN, w_meth, w_lc, w_cno, w_cyes, w_iof, w_irng, w_ien, w_varB, w_callB, w_ixB, w_b1B, w_binB, w_slB, w_new, w_attr, w_isc, w_ret, w_retN, w_exp, w_asgn, w_asgt, w_par, w_par3, w_sub, w_if, w_for, w_mat, w_mcase, w_mels, w_mnil, w_pass, w_brk, w_cont, w_snil, w_s1, w_s2, box_d, box_l, o_add, o_sub, o_mul, o_fdiv, o_mod, o_pow, o_neg, o_lt, o_le, o_gt, o_ge, o_eqi, o_eqs, o_nei, o_nes, o_bl, tru_bl, tru_int, tru_non, o_intT, o_int, o_intb, o_max, asg_n, closed_p, List.set_cons_zero, List.set_cons_succ, List.getElem?_cons_zero, List.getElem?_cons_succ, List.map_cons, List.map_nil, List.cons_append, List.nil_append, List.length_cons, List.length_nil, List.replicate_succ, List.replicate_zero, Nat.reduceSub, Nat.reduceAdd, if_true, if_false, Bool.false_eq_true, ite_true, ite_false, reduceIte, List.append_nil, Nat.reduceEqDiff, decide_true, decide_false, Bool.and_true, Bool.true_and, Nat.reduceLeDiff, Bool.not_true, Bool.not_false, List.map_map, asg_n, asg_t, tupOf_p, tupOf_t, List.append_assoc, List.length_append]
  rw [add_ref_l get_at (by simp)]
  simp only [R.to_ok, R.to_bad, R.to_bind, R.bind_ok, R.to_ite, R.nox_ok, R.to_nox, RS.to_nx, RS.to_rt, RS.to_bk, RS.to_ct, RS.to_bad, RS.to_ite, RS.to_sE, sE_ok, w_seq, w_var, w_k, w_gk, w_tup, w_lst, w_lnil, w_lcons, w_bin, w_neg, w_cmp, w_cmpB, w_chain, w_chainB, w_and1, w_and2, w_or1, w_or2, w_andB1, w_andB2, w_orB1, w_orB2, w_not, w_notB, w_ite, w_ix, w_sl, w_no, w_yes, w_call, w_b1, w_bN, w_meth, w_lc, w_cno, w_cyes, w_iof, w_irng, w_ien, w_varB, w_callB, w_ixB, w_b1B, w_binB, w_slB, w_new, w_attr, w_isc, w_ret, w_retN, w_exp, w_asgn, w_asgt, w_par, w_par3, w_sub, w_if, w_for, w_mat, w_mcase, w_mels, w_mnil, w_pass, w_brk, w_cont, w_snil, w_s1, w_s2, box_d, box_l, o_add, o_sub, o_mul, o_fdiv, o_mod, o_pow, o_neg, o_lt, o_le, o_gt, o_ge, o_eqi, o_eqs, o_nei, o_nes, o_bl, tru_bl, tru_int, tru_non, o_intT, o_int, o_intb, o_max, asg_n, closed_p, List.set_cons_zero, List.set_cons_succ, List.getElem?_cons_zero, List.getElem?_cons_succ, List.map_cons, List.map_nil, List.cons_append, List.nil_append, List.length_cons, List.length_nil, List.replicate_succ, List.replicate_zero, Nat.reduceSub, Nat.reduceAdd, if_true, if_false, Bool.false_eq_true, ite_true, ite_false, reduceIte, List.append_nil, Nat.reduceEqDiff, decide_true, decide_false, Bool.and_true, Bool.true_and, Nat.reduceLeDiff, Bool.not_true, Bool.not_false, List.map_map, asg_n, asg_t, tupOf_p, tupOf_t, List.append_assoc, List.length_append]
  rw [add_ref_l get_at (by simp)]
  simp only [R.to_ok, R.to_bad, R.to_bind, R.bind_ok, R.to_ite, R.nox_ok, R.to_nox, RS.to_nx, RS.to_rt, RS.to_bk, RS.to_ct, RS.to_bad, RS.to_ite, RS.to_sE, sE_ok, w_seq, w_var, w_k, w_gk, w_tup, w_lst, w_lnil, w_lcons, w_bin, w_neg, w_cmp, w_cmpB, w_chain, w_chainB, w_and1, w_and2, w_or1, w_or2, w_andB1, w_andB2, w_orB1, w_orB2, w_not, w_notB, w_ite, w_ix, w_sl, w_no, w_yes, w_call, w_b1, w_bN, w_meth, w_lc, w_cno, w_cyes, w_iof, w_irng, w_ien, w_varB, w_callB, w_ixB, w_b1B, w_binB, w_slB, w_new, w_attr, w_isc, w_ret, w_retN, w_exp, w_asgn, w_asgt, w_par, w_par3, w_sub, w_if, w_for, w_mat, w_mcase, w_mels, w_mnil, w_pass, w_brk, w_cont, w_snil, w_s1, w_s2, box_d, box_l, o_add, o_sub, o_mul, o_fdiv, o_mod, o_pow, o_neg, o_lt, o_le, o_gt, o_ge, o_eqi, o_eqs, o_nei, o_nes, o_bl, tru_bl, tru_int, tru_non, o_intT, o_int, o_intb, o_max, asg_n, closed_p, List.set_cons_zero, List.set_cons_succ, List.getElem?_cons_zero, List.getElem?_cons_succ, List.map_cons, List.map_nil, List.cons_append, List.nil_append, List.length_cons, List.length_nil, List.replicate_succ, List.replicate_zero, Nat.reduceSub, Nat.reduceAdd, if_true, if_false, Bool.false_eq_true, ite_true, ite_false, reduceIte, List.append_nil, Nat.reduceEqDiff, decide_true, decide_false, Bool.and_true, Bool.true_and, Nat.reduceLeDiff, Bool.not_true, Bool.not_false, List.map_map, asg_n, asg_t, tupOf_p, tupOf_t, List.append_assoc, List.length_append]
  rw [add_ref_l get_at (by simp)]
  simp only [R.to_ok, R.to_bad, R.to_bind, R.bind_ok, R.to_ite, R.nox_ok, R.to_nox, RS.to_nx, RS.to_rt, RS.to_bk, RS.to_ct, RS.to_bad, RS.to_ite, RS.to_sE, sE_ok, w_seq, w_var, w_k, w_gk, w_tup, w_lst, w_lnil, w_lcons, w_bin, w_neg, w_cmp, w_cmpB, w_chain, w_chainB, w_and1, w_and2, w_or1, w_or2, w_andB1, w_andB2, w_orB1, w_orB2, w_not, w_notB, w_ite, w_ix, w_sl, w_no, w_yes, w_call, w_b1, w_bN, w_meth, w_lc, w_cno, w_cyes, w_iof, w_irng, w_ien, w_varB, w_callB, w_ixB, w_b1B, w_binB, w_slB, w_new, w_attr, w_isc, w_ret, w_retN, w_exp, w_asgn, w_asgt, w_par, w_par3, w_sub, w_if, w_for, w_mat, w_mcase, w_mels, w_mnil, w_pass, w_brk, w_cont, w_snil, w_s1, w_s2, box_d, box_l, o_add, o_sub, o_mul, o_fdiv, o_mod, o_pow, o_neg, o_lt, o_le, o_gt, o_ge, o_eqi, o_eqs, o_nei, o_nes, o_bl, tru_bl, tru_int, tru_non, o_intT, o_int, o_intb, o_max, asg_n, closed_p, List.set_cons_zero, List.set_cons_succ, List.getElem?_cons_zero, List.getElem?_cons_succ, List.map_cons, List.map_nil, List.cons_append, List.nil_append, List.length_cons, List.length_nil, List.replicate_succ, List.replicate_zero, Nat.reduceSub, Nat.reduceAdd, if_true, if_false, Bool.false_eq_true, ite_true, ite_false, reduceIte, List.append_nil, Nat.reduceEqDiff, decide_true, decide_false, Bool.and_true, Bool.true_and, Nat.reduceLeDiff, Bool.not_true, Bool.not_false, List.map_map, asg_n, asg_t, tupOf_p, tupOf_t, List.append_assoc, List.length_append]
  refine q _ _ ⟨rfl, fun i x hx => ?_⟩
  match i, hx with
  | 0, hx => cases hx; exact ⟨_, 0, rfl, rfl, get_z⟩
  | 1, hx => cases hx; exact ⟨_, 1, rfl, rfl, by simp only [Nat.add_assoc]; exact get_at⟩
  | 2, hx => cases hx; exact ⟨_, 2, rfl, rfl, by simp only [Nat.add_assoc]; exact get_at⟩
  | 3, hx => cases hx; exact ⟨_, 3, rfl, rfl, by simp only [Nat.add_assoc]; exact get_at⟩
  | 4, hx => cases hx; exact ⟨_, 4, rfl, rfl, by simp only [Nat.add_assoc]; exact get_at⟩
  | 5, hx => cases hx; exact ⟨_, 6, rfl, rfl, by simp only [Nat.add_assoc]; exact get_at⟩
  | 6, hx => cases hx; exact ⟨_, 7, rfl, rfl, by simp only [Nat.add_assoc]; exact get_at⟩
  | 7, hx => cases hx; exact ⟨_, 8, rfl, rfl, by simp only [Nat.add_assoc]; exact get_at⟩
  | 8, hx => cases hx; exact ⟨_, 9, rfl, rfl, by simp only [Nat.add_assoc]; exact get_at⟩
  | 9, hx => cases hx; exact ⟨_, 10, rfl, rfl, by simp only [Nat.add_assoc]; exact get_at⟩
  | 10, hx => cases hx; exact ⟨_, 11, rfl, rfl, by simp only [Nat.add_assoc]; exact get_at⟩
  | 11, hx => cases hx; exact ⟨_, 5, rfl, rfl, by simp only [Nat.add_assoc]; exact get_at⟩
  | i + 12, hx => cases hx

theorem eq_bools {st : Store} {bs : List Bool} : cop .ne (.l (bs.map fun b => .p (.bl b))) (.l (bs.map fun b => .p (.bl b))) st = .ok (.d (.p (.bl false))) st := by
  have e0 : (bs.map fun b => D.p (P.bl b)) = (bs.map P.bl).map D.p := by rw [List.map_map]; rfl
  have e1 : ∀ l : List Bool, PyData.canLayAll0 (P.pys (l.map P.bl)) = true ∧ PyData.depthAll (P.pys (l.map P.bl)) = 0 ∧ PyData.eqvAll (P.pys (l.map P.bl)) (P.pys (l.map P.bl)) = true := by
    intro l
    induction l with
    | nil => exact ⟨rfl, rfl, rfl⟩
    | cons b l ih =>
      refine ⟨?_, ?_, ?_⟩
      · show (true && PyData.canLayAll0 (P.pys (l.map P.bl))) = true
        rw [ih.1]; rfl
      · show max 0 (PyData.depthAll (P.pys (l.map P.bl))) = 0
        rw [ih.2.1]; rfl
      · show ((b == b) && PyData.eqvAll (P.pys (l.map P.bl)) (P.pys (l.map P.bl))) = true
        rw [ih.2.2]; cases b <;> rfl
  have ok : eqOk (PyData.list (P.pys (bs.map P.bl))) = true := by
    show (PyData.canLayAll0 (P.pys (bs.map P.bl)) && decide (PyData.depthAll (P.pys (bs.map P.bl)) + 1 ≤ 64)) = true
    rw [(e1 bs).1, (e1 bs).2.1]; rfl
  rw [e0]
  have py : pyT st 8 (.l ((bs.map P.bl).map D.p)) = some (.list (P.pys (bs.map P.bl))) := by
    show (((bs.map P.bl).map D.p).mapM (pyD st 8)).map PyData.list = _
    rw [mapM_p]; rfl
  show (match pyT st 8 (.l ((bs.map P.bl).map D.p)), pyT st 8 (.l ((bs.map P.bl).map D.p)) with
    | some d, some e => if eqOk d && eqOk e then R.ok (kBl (!PyData.eqv d e)) st else .bad
    | _, _ => .bad) = _
  rw [py]
  dsimp only
  rw [ok]
  show R.ok (kBl (!PyData.eqvAll (P.pys (bs.map P.bl)) (P.pys (bs.map P.bl)))) st = _
  rw [(e1 bs).2.2]; rfl
theorem eq_strs {st : Store} {l : List Str} (hl : ∀ x ∈ l, PyData.strOk x = true) : cop .ne (.l (l.map fun b => .p (.str b))) (.l (l.map fun b => .p (.str b))) st = .ok (.d (.p (.bl false))) st := by
  have e0 : (l.map fun b => D.p (P.str b)) = (l.map P.str).map D.p := by rw [List.map_map]; rfl
  have e1 : ∀ l : List Str, PyData.eqvAll (P.pys (l.map P.str)) (P.pys (l.map P.str)) = true := by
    intro l
    induction l with
    | nil => rfl
    | cons b l ih =>
      show ((b == b) && PyData.eqvAll (P.pys (l.map P.str)) (P.pys (l.map P.str))) = true
      rw [ih, beq_self_eq_true]; rfl
  have ok : eqOk (PyData.list (P.pys (l.map P.str))) = true := by
    show (PyData.canLayAll0 (P.pys (l.map P.str)) && decide (PyData.depthAll (P.pys (l.map P.str)) + 1 ≤ 64)) = true
    rw [canLay_strs hl, depth_strs]; rfl
  rw [e0]
  have py : pyT st 8 (.l ((l.map P.str).map D.p)) = some (.list (P.pys (l.map P.str))) := by
    show (((l.map P.str).map D.p).mapM (pyD st 8)).map PyData.list = _
    rw [mapM_p]; rfl
  show (match pyT st 8 (.l ((l.map P.str).map D.p)), pyT st 8 (.l ((l.map P.str).map D.p)) with
    | some d, some e => if eqOk d && eqOk e then R.ok (kBl (!PyData.eqv d e)) st else .bad
    | _, _ => .bad) = _
  rw [py]
  dsimp only
  rw [ok]
  show R.ok (kBl (!PyData.eqvAll (P.pys (l.map P.str)) (P.pys (l.map P.str)))) st = _
  rw [e1]; rfl
theorem fields_to {st : Store} {d : D} {k n : Nat} {ds : List D} {Q : T → Store → Prop} (h : st[k]? = some (.lst ds)) (hd : closedD st.length d = true) (t : Twelve st d ds) (q : Q (.l (List.replicate 12 d)) st) : (callN defs tab (n + 1) 6 [.ref k] st).to Q := by
  have hk : k < st.length := (List.getElem?_eq_some_iff.mp h).1
  have ix : ∀ (i c : Nat) (f : Str) (g : Store), cls[i]? = some c → tab.fld c = f → ∃ j, oIx (.d (.ref k)) (.d (dI (i : Int))) (st ++ g) = .ok (.d (.ref j)) (st ++ g) ∧ oAttr tab.fld f (.d (.ref j)) (st ++ g) = .ok (.d d) (st ++ g) := fun i c f g hc hf => by
    have hi : i < ds.length := by rw [t.1]; exact (List.getElem?_eq_some_iff.mp hc).1
    obtain ⟨j, c', e1, e2, e3⟩ := t.2 i ds[i] (by simp [hi])
    rw [hc] at e2; cases e2
    have hj : j < st.length := (List.getElem?_eq_some_iff.mp e3).1
    refine ⟨j, ix_ref (by rw [List.getElem?_append_left hk]; exact h) (by rw [← e1]; simp [hi]), attr_at (by rw [List.getElem?_append_left hj]; rw [e3]; unfold xc; rw [hf]) hf⟩
  refine callT_to (d := f_law_fields) rfl rfl rfl rfl ?_
  unfold f_law_fields b_law_fields
  obtain ⟨j0, a0, b0⟩ := ix 0 0 "place" [] rfl rfl
  obtain ⟨j1, a1, b1⟩ := ix 1 1 "place" [] rfl rfl
  obtain ⟨j2, a2, b2⟩ := ix 2 2 "value" [] rfl rfl
  obtain ⟨j3, a3, b3⟩ := ix 3 3 "value" [] rfl rfl
  obtain ⟨j4, a4, b4⟩ := ix 4 4 "value" [] rfl rfl
  obtain ⟨j5, a5, b5⟩ := ix 5 6 "name" [] rfl rfl
  obtain ⟨j6, a6, b6⟩ := ix 6 7 "word" [] rfl rfl
  simp only [List.append_nil] at a0 a1 a2 a3 a4 a5 a6 b0 b1 b2 b3 b4 b5 b6
  obtain ⟨j7, a7, b7⟩ := ix 7 8 "value" [.lst [d, d, d, d, d, d, d]] rfl rfl
  obtain ⟨j8, a8, b8⟩ := ix 8 9 "limit" [.lst [d, d, d, d, d, d, d]] rfl rfl
  obtain ⟨j9, a9, b9⟩ := ix 9 10 "number" [.lst [d, d, d, d, d, d, d]] rfl rfl
  obtain ⟨j10, a10, b10⟩ := ix 10 11 "name" [.lst [d, d, d, d, d, d, d]] rfl rfl
  obtain ⟨j11, a11, b11⟩ := ix 11 5 "value" [.lst [d, d, d, d, d, d, d]] rfl rfl
  have z : ∀ i : Nat, dI (i : Int) = .p (.int (i : Int)) := fun _ => rfl
  simp only [dI, Int.cast_ofNat_Int] at a0 a1 a2 a3 a4 a5 a6 a7 a8 a9 a10 a11
  simp only [R.to_ok, R.to_bad, R.to_bind, R.bind_ok, R.to_ite, R.nox_ok, R.to_nox, RS.to_nx, RS.to_rt, RS.to_bk, RS.to_ct, RS.to_bad, RS.to_ite, RS.to_sE, sE_ok, w_seq, w_var, w_k, w_gk, w_tup, w_lst, w_lnil, w_lcons, w_bin, w_neg, w_cmp, w_cmpB, w_chain, w_chainB, w_and1, w_and2, w_or1, w_or2, w_andB1, w_andB2, w_orB1, w_orB2, w_not, w_notB, w_ite, w_ix, w_sl, w_no, w_yes, w_call, w_b1, w_bN, w_meth, w_lc, w_cno, w_cyes, w_iof, w_irng, w_ien, w_varB, w_callB, w_ixB, w_b1B, w_binB, w_slB, w_new, w_attr, w_isc, w_ret, w_retN, w_exp, w_asgn, w_asgt, w_par, w_par3, w_sub, w_if, w_for, w_mat, w_mcase, w_mels, w_mnil, w_pass, w_brk, w_cont, w_snil, w_s1, w_s2, box_d, box_l, o_add, o_sub, o_mul, o_fdiv, o_mod, o_pow, o_neg, o_lt, o_le, o_gt, o_ge, o_eqi, o_eqs, o_nei, o_nes, o_bl, tru_bl, tru_int, tru_non, o_intT, o_int, o_intb, o_max, asg_n, closed_p, List.set_cons_zero, List.set_cons_succ, List.getElem?_cons_zero, List.getElem?_cons_succ, List.map_cons, List.map_nil, List.cons_append, List.nil_append, List.length_cons, List.length_nil, List.replicate_succ, List.replicate_zero, Nat.reduceSub, Nat.reduceAdd, if_true, if_false, Bool.false_eq_true, ite_true, ite_false, reduceIte, List.append_nil, Nat.reduceEqDiff, decide_true, decide_false, Bool.and_true, Bool.true_and, Nat.reduceLeDiff, Bool.not_true, Bool.not_false, List.map_map, asg_n, asg_t, tupOf_p, tupOf_t, a0, a1, a2, a3, a4, a5, a6, b0, b1, b2, b3, b4, b5, b6, a7, a8, a9, a10, a11, b7, b8, b9, b10, b11]
  rw [add_ref_l get_z (by simp)]
  simp only [R.to_ok, R.to_bad, R.to_bind, R.bind_ok, R.to_ite, R.nox_ok, R.to_nox, RS.to_nx, RS.to_rt, RS.to_bk, RS.to_ct, RS.to_bad, RS.to_ite, RS.to_sE, sE_ok, w_seq, w_var, w_k, w_gk, w_tup, w_lst, w_lnil, w_lcons, w_bin, w_neg, w_cmp, w_cmpB, w_chain, w_chainB, w_and1, w_and2, w_or1, w_or2, w_andB1, w_andB2, w_orB1, w_orB2, w_not, w_notB, w_ite, w_ix, w_sl, w_no, w_yes, w_call, w_b1, w_bN, w_meth, w_lc, w_cno, w_cyes, w_iof, w_irng, w_ien, w_varB, w_callB, w_ixB, w_b1B, w_binB, w_slB, w_new, w_attr, w_isc, w_ret, w_retN, w_exp, w_asgn, w_asgt, w_par, w_par3, w_sub, w_if, w_for, w_mat, w_mcase, w_mels, w_mnil, w_pass, w_brk, w_cont, w_snil, w_s1, w_s2, box_d, box_l, o_add, o_sub, o_mul, o_fdiv, o_mod, o_pow, o_neg, o_lt, o_le, o_gt, o_ge, o_eqi, o_eqs, o_nei, o_nes, o_bl, tru_bl, tru_int, tru_non, o_intT, o_int, o_intb, o_max, asg_n, closed_p, List.set_cons_zero, List.set_cons_succ, List.getElem?_cons_zero, List.getElem?_cons_succ, List.map_cons, List.map_nil, List.cons_append, List.nil_append, List.length_cons, List.length_nil, List.replicate_succ, List.replicate_zero, Nat.reduceSub, Nat.reduceAdd, if_true, if_false, Bool.false_eq_true, ite_true, ite_false, reduceIte, List.append_nil, Nat.reduceEqDiff, decide_true, decide_false, Bool.and_true, Bool.true_and, Nat.reduceLeDiff, Bool.not_true, Bool.not_false, List.map_map, asg_n, asg_t, tupOf_p, tupOf_t]
  refine ⟨.l (List.replicate 12 d), st, ?_, tidySt_of (by simp) fun _ _ _ h => .inl h, q⟩
  show (if closedDs st.length [d, d, d, d, d, d, d, d, d, d, d, d] = true then some (T.l [d, d, d, d, d, d, d, d, d, d, d, d]) else none) = _
  rw [if_pos (by simp [closedDs, hd])]
  rfl
end K1
set_option Elab.async false
set_option linter.all false
set_option maxRecDepth 100000
set_option maxHeartbeats 4000000
namespace K1
open PySem Z
/-- a value that can be shown wherever the store has grown -/
structure VOk (st : Store) (d : D) (pd : PyData) : Prop where
  py : ∀ g, pyT (st ++ g) 8 (.d d) = some pd
  ok : reprOk pd = true
  str : PyData.strOk pd.shown = true
  sh : (∃ x, d = .p x) ∨ ∃ k, d = .ref k ∧ k < st.length
theorem closed_mono {n m : Nat} (h : n ≤ m) {d : D} (hd : (∃ x, d = .p x) ∨ ∃ k, d = .ref k ∧ k < n) : closedD m d = true := by
  rcases hd with ⟨x, rfl⟩ | ⟨k, rfl, hk⟩
  · rfl
  · show decide (k < m) = true
    exact decide_eq_true (by omega)
theorem VOk.app {st g : Store} {d : D} {pd : PyData} (h : VOk st d pd) : VOk (st ++ g) d pd := ⟨fun g' => by rw [List.append_assoc]; exact h.py _, h.ok, h.str, by
  rcases h.sh with h | ⟨k, e, hk⟩
  · exact .inl h
  · exact .inr ⟨k, e, by rw [List.length_append]; omega⟩⟩
theorem VOk.cl {st : Store} {d : D} {pd : PyData} (h : VOk st d pd) : closedD st.length d = true := closed_mono (Nat.le_refl _) h.sh
theorem VOk.rep {st : Store} {d : D} {pd : PyData} (h : VOk st d pd) : oRepr (.d d) st = .ok (.d (.p (.str pd.shown))) st := by
  have := h.py []
  rw [List.append_nil] at this
  unfold oRepr
  rw [this]
  dsimp only
  rw [if_pos h.ok]
theorem repr_at {st g : Store} {d : D} {pd : PyData} (h : VOk st d pd) : oRepr (.d d) (st ++ g) = .ok (.d (.p (.str pd.shown))) (st ++ g) := by
  unfold oRepr
  rw [h.py g]
  dsimp only
  rw [if_pos h.ok]
theorem kinds_row : ∀ i < 12, ∀ c < 12, cls[i]? = some c → (kindNames.map (ib c) = (List.range 12).map fun j => decide (i = j)) ∧ (baseNames.map (ib c) = [decide (i < 7) || decide (i = 11), decide (i = 7), decide (i = 8), decide (i = 9) || decide (i = 10)]) := by decide +kernel
theorem cls_lt : ∀ i < 12, ∀ c ∈ cls, c < 12 := by decide +kernel
def sOk (x : Str) : Prop := PyData.strOk x = true
theorem sOk_iff {x : Str} : PyData.strOk x = true ↔ ∀ c ∈ x.cps.toList, c < 0x110000 := by
  unfold PyData.strOk
  rw [← Array.all_toList, List.all_eq_true]
  simp
theorem sOk_app {x y : Str} (hx : PyData.strOk x = true) (hy : PyData.strOk y = true) : PyData.strOk (x ++ y) = true := by
  rw [sOk_iff] at hx hy ⊢
  intro c hc
  rw [show (x ++ y).cps.toList = x.cps.toList ++ y.cps.toList from TL.tl_append x y] at hc
  rcases List.mem_append.mp hc with h | h
  · exact hx c h
  · exact hy c h
theorem sOk_int (i : Int) : PyData.strOk (Str.ofString (toString i)) = true := by
  rw [sOk_iff]
  intro c hc
  refine Nat.lt_of_not_le fun h => ?_
  exact PyProof.Rows.int_text_free' c ⟨by omega, .inr (by omega)⟩ i hc
theorem log_lt {n : Nat} (h : n < 2 ^ 1000) : n.log2 < 1920 := by
  by_cases h0 : n = 0
  · subst h0; decide
  · have := (Nat.log2_lt h0).mpr h
    omega
theorem pd_int {i : Int} (h : i.natAbs < 2 ^ 1000) : reprOk (.int i) = true ∧ PyData.strOk (PyData.int i).shown = true := by
  refine ⟨?_, sOk_int i⟩
  have h1 : (PyData.int i).showable = true := decide_eq_true (log_lt h)
  have h2 : (PyData.int i).shown.length ≤ sizeLine := PySem.int_text_fits (log_lt h)
  unfold reprOk
  rw [h1, decide_eq_true h2]; rfl
end K1
set_option Elab.async false
set_option linter.all false
set_option maxRecDepth 100000
set_option maxHeartbeats 4000000
namespace K1
open PySem Z
theorem pd_small : ∀ pd ∈ [PyData.none, .str "a", .str "", .bool true], reprOk pd = true ∧ PyData.strOk pd.shown = true := by
  intro pd h
  simp only [List.mem_cons, List.not_mem_nil, or_false] at h
  rcases h with rfl | rfl | rfl | rfl <;> decide +kernel
theorem len_int (i : Int) (h : i.natAbs < 2 ^ 1000) : (Str.ofString (toString i)).length ≤ 1921 := PyProof.Rows.int_text_len_1921 (log_lt h)
theorem pd_tup {i : Int} (h : i.natAbs < 2 ^ 1000) : reprOk (.tuple [.str "a", .int i]) = true ∧ PyData.strOk (PyData.tuple [.str "a", .int i]).shown = true := by
  have es : (PyData.tuple [.str "a", .int i]).shown = ("(" : Str) ++ ((reprText "a" ++ ", ") ++ Str.ofString (toString i)) ++ ((")" : String) : Str) := rfl
  have h1 : (PyData.tuple [.str "a", .int i]).showable = true := by
    show (true && (decide (i.natAbs.log2 < 1920) && true)) = true
    rw [decide_eq_true (log_lt h)]; rfl
  have a1 : (reprText "a").length = 3 := by decide +kernel
  have h2 : (PyData.tuple [.str "a", .int i]).shown.length ≤ sizeLine := by
    rw [es, sizeLine_eq]
    simp only [strLen_append, a1]
    have := len_int i h
    have z1 : (("(" : String) : Str).length = 1 := rfl
    have z2 : ((")" : String) : Str).length = 1 := rfl
    have z3 : ((", " : String) : Str).length = 2 := rfl
    rw [z1, z2, z3]
    omega
  refine ⟨?_, ?_⟩
  · unfold reprOk
    rw [h1, decide_eq_true h2]; rfl
  · rw [es]
    exact sOk_app (sOk_app (by decide +kernel) (sOk_app (by decide +kernel) (sOk_int i))) (by decide +kernel)
theorem pd_lst : reprOk (.list [.int 1]) = true ∧ PyData.strOk (PyData.list [.int 1]).shown = true := by
  have es : (PyData.list [.int 1]).shown = ((("[" : String) : Str) ++ (("" : String) : Str) ++ Str.ofString (toString (1 : Int))) ++ (("]" : String) : Str) := rfl
  have h2 : (PyData.list [.int 1]).shown.length ≤ sizeLine := by
    rw [es, sizeLine_eq]
    simp only [strLen_append]
    have := len_int 1 (by decide)
    have z1 : (("[" : String) : Str).length = 1 := rfl
    have z2 : (("]" : String) : Str).length = 1 := rfl
    have z3 : (("" : String) : Str).length = 0 := rfl
    rw [z1, z2, z3]
    omega
  refine ⟨?_, ?_⟩
  · unfold reprOk
    rw [decide_eq_true h2]; rfl
  · rw [es]
    exact sOk_app (sOk_app (sOk_app (by decide +kernel) (by decide +kernel)) (sOk_int 1)) (by decide +kernel)
theorem vok_p {st : Store} {x : P} (h : reprOk x.py = true ∧ PyData.strOk x.py.shown = true) : VOk st (.p x) x.py := ⟨fun g => rfl, h.1, h.2, .inl ⟨_, rfl⟩⟩
theorem vok_l {st : Store} {k : Nat} (h : st[k]? = some (.lst [dI 1])) : VOk st (.ref k) (.list [.int 1]) := by
  have hk : k < st.length := (List.getElem?_eq_some_iff.mp h).1
  refine ⟨fun g => ?_, pd_lst.1, pd_lst.2, .inr ⟨k, rfl, hk⟩⟩
  show (match (st ++ g)[k]? with | some (.lst ds) => (ds.mapM (pyD (st ++ g) 7)).map PyData.list | _ => none) = _
  rw [List.getElem?_append_left hk, h]
  rfl
theorem pow_small {r : Nat} (h : r < 420) : ((r : Int) ^ 20).natAbs < 2 ^ 1000 := by
  rw [Int.natAbs_pow, Int.natAbs_natCast]
  calc r ^ 20 ≤ 420 ^ 20 := Nat.pow_le_pow_left (by omega) 20
    _ < 2 ^ 1000 := by decide
/-- the eight values -/
theorem one_ok {st : Store} {r k : Nat} (hr : r < 420) (hk : st[k]? = some (.lst [dI 1])) : ∀ w : Nat, w < 8 → ∃ d pd, [D.p .non, dI ((r : Int) ^ 20), dS "a", .p (.tup [.str "a", .int (r : Int)]), .ref k, dI (-(r : Int)), dS "", .p (.bl true)][w]? = some d ∧ VOk st d pd := by
  intro w hw
  match w, hw with
  | 0, _ => exact ⟨_, _, rfl, vok_p (pd_small _ (by simp [P.py]))⟩
  | 1, _ => exact ⟨_, _, rfl, vok_p (x := .int ((r : Int) ^ 20)) (pd_int (pow_small hr))⟩
  | 2, _ => exact ⟨_, _, rfl, vok_p (x := .str "a") (pd_small (.str "a") (by simp))⟩
  | 3, _ => exact ⟨_, _, rfl, vok_p (x := .tup [.str "a", .int (r : Int)]) (pd_tup (by have : (2 : Nat) ^ 1000 > 420 := by decide
                                                                                       omega))⟩
  | 4, _ => exact ⟨_, _, rfl, vok_l hk⟩
  | 5, _ => exact ⟨_, _, rfl, vok_p (x := .int (-(r : Int))) (pd_int (by have : (2 : Nat) ^ 1000 > 420 := by decide
                                                                         omega))⟩
  | 6, _ => exact ⟨_, _, rfl, vok_p (x := .str "") (pd_small (.str "") (by simp))⟩
  | 7, _ => exact ⟨_, _, rfl, vok_p (x := .bl true) (pd_small (.bool true) (by simp))⟩
end K1
set_option Elab.async false
set_option linter.all false
set_option maxRecDepth 100000
set_option maxHeartbeats 4000000
namespace K1
open PySem Z
theorem Twelve.app {st g : Store} {d : D} {ds : List D} (h : Twelve st d ds) : Twelve (st ++ g) d ds := ⟨h.1, fun i x hx => by
  obtain ⟨k, c, e1, e2, e3⟩ := h.2 i x hx
  exact ⟨k, c, e1, e2, by rw [List.getElem?_append_left (List.getElem?_eq_some_iff.mp e3).1]; exact e3⟩⟩
theorem enum_ref {st : Store} {k : Nat} {ds : List D} (h : st[k]? = some (.lst ds)) : enumOf (.d (.ref k)) st = .ok ⟨enumD ds, fun st => decide (rdL (.d (.ref k)) st = some ds)⟩ st := by
  have : rdL (.d (.ref k)) st = some ds := by show (match st[k]? with | some (.lst ds) => some ds | _ => none) = _; rw [h]
  unfold enumOf
  rw [this]
theorem rd_ref {st : Store} {k : Nat} {ds : List D} (h : st[k]? = some (.lst ds)) : rdL (.d (.ref k)) st = some ds := by show (match st[k]? with | some (.lst ds) => some ds | _ => none) = _; rw [h]
theorem enumD_get {ds : List D} {i : Nat} {x : D} (h : (enumD ds)[i]? = some x) : ∃ y, ds[i]? = some y ∧ x = mkTup [dI (i : Int), y] := by
  unfold enumD at h
  rw [List.getElem?_map, List.getElem?_zipIdx] at h
  cases q : ds[i]? with
  | none => rw [q] at h; cases h
  | some c =>
    rw [q] at h
    refine ⟨c, rfl, ?_⟩
    cases h
    simp
def phi (i : Nat) : D → Option D
  | .p (.int j) => some (.p (.bl (decide ((i : Int) = j))))
  | _ => none
theorem row_phi : ∀ i < 12, (rangeD 0 12).filterMap (phi i) = ((List.range 12).map fun j => decide (i = j)).map fun b => .p (.bl b) := by decide +kernel
def row4 (i : Nat) : List Bool := [decide (i < 7) || decide (i = 11), decide (i = 7), decide (i = 8), decide (i = 9) || decide (i = 10)]
theorem kk {c : Nat} : (kindNames.map fun x => D.p (.bl (ib c x))) = (kindNames.map (ib c)).map fun b => .p (.bl b) := by rw [List.map_map]; rfl
theorem bb {c : Nat} : (baseNames.map fun x => D.p (.bl (ib c x))) = (baseNames.map (ib c)).map fun b => .p (.bl b) := by rw [List.map_map]; rfl
theorem in_9_10 {st : Store} {i : Nat} : cop .in_ (.d (dI (i : Int))) (.l [dI 9, dI 10]) st = .ok (.d (.p (.bl (decide (i = 9) || decide (i = 10))))) st := by
  have e : cop .in_ (.d (dI (i : Int))) (.l [dI 9, dI 10]) st = .ok (kBl (L2.inV (.int i) [.int 9, .int 10])) st := rfl
  rw [e]
  by_cases h9 : i = 9
  · subst h9; rfl
  · by_cases h10 : i = 10
    · subst h10; rfl
    · have n9 : ¬ (i : Int) = 9 := by omega
      have n10 : ¬ (i : Int) = 10 := by omega
      have m9 : ¬ (9 : Int) = (i : Int) := by omega
      have m10 : ¬ (10 : Int) = (i : Int) := by omega
      simp [L2.inV, L2.eqV, h9, h10, m9, m10]
end K1
set_option Elab.async false
set_option linter.all false
set_option maxRecDepth 100000
set_option maxHeartbeats 4000000
namespace K1
open PySem Z
theorem step_to {st : Store} {i k c : Nat} {d : D} {a0 a1 a2 a3 a4 a5 a6 a7 a8 a9 a10 : Option D} {Q : RQ} (hi : i < 12) (hc : cls[i]? = some c) (hk : st[k]? = some (xc c d)) (q : Q.nx [a0, a1, a2, a3, a4, a5, a6, some (dI (i : Int)), some (.ref k), a9, a10] st) :
    (denSs (callN defs tab 11) tab (.cons (.ite (.cmp .ne (.call 4 (.cons (.var 8) .nil)) (.lc (.cmp .eq (.var 7) (.var 10)) (.n 10) (.rng (.cons (.k (.int 12)) .nil)) .no [("_law_other", 10)])) (.cons (.ret (.k (.bl false))) .nil) .nil) (.cons (.ite (.cmp .ne (.call 5 (.cons (.var 8) .nil)) (.lst (.cons (.or (.cons (.cmp .lt (.var 7) (.k (.int 7))) (.cons (.cmp .eq (.var 7) (.k (.int 11))) .nil))) (.cons (.cmp .eq (.var 7) (.k (.int 7))) (.cons (.cmp .eq (.var 7) (.k (.int 8))) (.cons (.cmp .in_ (.var 7) (.lst (.cons (.k (.int 9)) (.cons (.k (.int 10)) .nil)))) .nil)))))) (.cons (.ret (.k (.bl false))) .nil) .nil) .nil))
      [a0, a1, a2, a3, a4, a5, a6, some (dI (i : Int)), some (.ref k), a9, a10] st).to Q := by
  have hc12 : c < 12 := cls_lt 0 (by decide) c (List.mem_of_getElem? hc)
  obtain ⟨r1, r2⟩ := kinds_row i hi c hc12 hc
  have e12 : rngOf [dI 12] st = .ok ⟨rangeD 0 12, fun _ => true⟩ st := rng1_ok (j := 12) (by decide)
  have l4 : tab.dfl 4 = [] ∧ (tab.par 4).length = 1 := ⟨rfl, rfl⟩
  have l5 : tab.dfl 5 = [] ∧ (tab.par 5).length = 1 := ⟨rfl, rfl⟩
  simp only [R.to_ok, R.to_bad, R.to_bind, R.bind_ok, R.to_ite, R.nox_ok, R.to_nox, RS.to_nx, RS.to_rt, RS.to_bk, RS.to_ct, RS.to_bad, RS.to_ite, RS.to_sE, sE_ok, w_seq, w_var, w_k, w_gk, w_tup, w_lst, w_lnil, w_lcons, w_bin, w_neg, w_cmp, w_cmpB, w_chain, w_chainB, w_and1, w_and2, w_or1, w_or2, w_andB1, w_andB2, w_orB1, w_orB2, w_not, w_notB, w_ite, w_ix, w_sl, w_no, w_yes, w_call, w_b1, w_bN, w_meth, w_lc, w_cno, w_cyes, w_iof, w_irng, w_ien, w_varB, w_callB, w_ixB, w_b1B, w_binB, w_slB, w_new, w_attr, w_isc, w_ret, w_retN, w_exp, w_asgn, w_asgt, w_par, w_par3, w_sub, w_if, w_for, w_mat, w_mcase, w_mels, w_mnil, w_pass, w_brk, w_cont, w_snil, w_s1, w_s2, box_d, box_l, o_add, o_sub, o_mul, o_fdiv, o_mod, o_pow, o_neg, o_lt, o_le, o_gt, o_ge, o_eqi, o_eqs, o_nei, o_nes, o_bl, tru_bl, tru_int, tru_non, o_intT, o_int, o_intb, o_max, asg_n, closed_p, List.set_cons_zero, List.set_cons_succ, List.getElem?_cons_zero, List.getElem?_cons_succ, List.map_cons, List.map_nil, List.cons_append, List.nil_append, List.length_cons, List.length_nil, List.replicate_succ, List.replicate_zero, Nat.reduceSub, Nat.reduceAdd, if_true, if_false, Bool.false_eq_true, ite_true, ite_false, reduceIte, List.append_nil, Nat.reduceEqDiff, decide_true, decide_false, Bool.and_true, Bool.true_and, Nat.reduceLeDiff, Bool.not_true, Bool.not_false, List.map_map, asg_n, asg_t, tupOf_p, tupOf_t, l4]
  refine kinds_to (n := 10) hc12 hk ?_
  simp only [R.to_ok, R.to_bad, R.to_bind, R.bind_ok, R.to_ite, R.nox_ok, R.to_nox, RS.to_nx, RS.to_rt, RS.to_bk, RS.to_ct, RS.to_bad, RS.to_ite, RS.to_sE, sE_ok, w_seq, w_var, w_k, w_gk, w_tup, w_lst, w_lnil, w_lcons, w_bin, w_neg, w_cmp, w_cmpB, w_chain, w_chainB, w_and1, w_and2, w_or1, w_or2, w_andB1, w_andB2, w_orB1, w_orB2, w_not, w_notB, w_ite, w_ix, w_sl, w_no, w_yes, w_call, w_b1, w_bN, w_meth, w_lc, w_cno, w_cyes, w_iof, w_irng, w_ien, w_varB, w_callB, w_ixB, w_b1B, w_binB, w_slB, w_new, w_attr, w_isc, w_ret, w_retN, w_exp, w_asgn, w_asgt, w_par, w_par3, w_sub, w_if, w_for, w_mat, w_mcase, w_mels, w_mnil, w_pass, w_brk, w_cont, w_snil, w_s1, w_s2, box_d, box_l, o_add, o_sub, o_mul, o_fdiv, o_mod, o_pow, o_neg, o_lt, o_le, o_gt, o_ge, o_eqi, o_eqs, o_nei, o_nes, o_bl, tru_bl, tru_int, tru_non, o_intT, o_int, o_intb, o_max, asg_n, closed_p, List.set_cons_zero, List.set_cons_succ, List.getElem?_cons_zero, List.getElem?_cons_succ, List.map_cons, List.map_nil, List.cons_append, List.nil_append, List.length_cons, List.length_nil, List.replicate_succ, List.replicate_zero, Nat.reduceSub, Nat.reduceAdd, if_true, if_false, Bool.false_eq_true, ite_true, ite_false, reduceIte, List.append_nil, Nat.reduceEqDiff, decide_true, decide_false, Bool.and_true, Bool.true_and, Nat.reduceLeDiff, Bool.not_true, Bool.not_false, List.map_map, asg_n, asg_t, tupOf_p, tupOf_t, e12, rangeD_len]
  rw [if_pos (by rw [sizeLine_eq]; decide)]
  refine comp_pure (phi i) rfl (fun x hx => ?_) ?_
  · obtain ⟨j, hj⟩ := List.mem_iff_getElem?.mp hx
    obtain ⟨_, rfl⟩ := rangeD_get hj
    refine ⟨_, rfl, ?_⟩
    simp only [R.to_ok, R.to_bad, R.to_bind, R.bind_ok, R.to_ite, R.nox_ok, R.to_nox, RS.to_nx, RS.to_rt, RS.to_bk, RS.to_ct, RS.to_bad, RS.to_ite, RS.to_sE, sE_ok, w_seq, w_var, w_k, w_gk, w_tup, w_lst, w_lnil, w_lcons, w_bin, w_neg, w_cmp, w_cmpB, w_chain, w_chainB, w_and1, w_and2, w_or1, w_or2, w_andB1, w_andB2, w_orB1, w_orB2, w_not, w_notB, w_ite, w_ix, w_sl, w_no, w_yes, w_call, w_b1, w_bN, w_meth, w_lc, w_cno, w_cyes, w_iof, w_irng, w_ien, w_varB, w_callB, w_ixB, w_b1B, w_binB, w_slB, w_new, w_attr, w_isc, w_ret, w_retN, w_exp, w_asgn, w_asgt, w_par, w_par3, w_sub, w_if, w_for, w_mat, w_mcase, w_mels, w_mnil, w_pass, w_brk, w_cont, w_snil, w_s1, w_s2, box_d, box_l, o_add, o_sub, o_mul, o_fdiv, o_mod, o_pow, o_neg, o_lt, o_le, o_gt, o_ge, o_eqi, o_eqs, o_nei, o_nes, o_bl, tru_bl, tru_int, tru_non, o_intT, o_int, o_intb, o_max, asg_n, closed_p, List.set_cons_zero, List.set_cons_succ, List.getElem?_cons_zero, List.getElem?_cons_succ, List.map_cons, List.map_nil, List.cons_append, List.nil_append, List.length_cons, List.length_nil, List.replicate_succ, List.replicate_zero, Nat.reduceSub, Nat.reduceAdd, if_true, if_false, Bool.false_eq_true, ite_true, ite_false, reduceIte, List.append_nil, Nat.reduceEqDiff, decide_true, decide_false, Bool.and_true, Bool.true_and, Nat.reduceLeDiff, Bool.not_true, Bool.not_false, List.map_map, asg_n, asg_t, tupOf_p, tupOf_t]
    simp [phi]
  · rw [row_phi i hi, kk, r1, eq_bools]
    simp only [R.to_ok, R.to_bad, R.to_bind, R.bind_ok, R.to_ite, R.nox_ok, R.to_nox, RS.to_nx, RS.to_rt, RS.to_bk, RS.to_ct, RS.to_bad, RS.to_ite, RS.to_sE, sE_ok, w_seq, w_var, w_k, w_gk, w_tup, w_lst, w_lnil, w_lcons, w_bin, w_neg, w_cmp, w_cmpB, w_chain, w_chainB, w_and1, w_and2, w_or1, w_or2, w_andB1, w_andB2, w_orB1, w_orB2, w_not, w_notB, w_ite, w_ix, w_sl, w_no, w_yes, w_call, w_b1, w_bN, w_meth, w_lc, w_cno, w_cyes, w_iof, w_irng, w_ien, w_varB, w_callB, w_ixB, w_b1B, w_binB, w_slB, w_new, w_attr, w_isc, w_ret, w_retN, w_exp, w_asgn, w_asgt, w_par, w_par3, w_sub, w_if, w_for, w_mat, w_mcase, w_mels, w_mnil, w_pass, w_brk, w_cont, w_snil, w_s1, w_s2, box_d, box_l, o_add, o_sub, o_mul, o_fdiv, o_mod, o_pow, o_neg, o_lt, o_le, o_gt, o_ge, o_eqi, o_eqs, o_nei, o_nes, o_bl, tru_bl, tru_int, tru_non, o_intT, o_int, o_intb, o_max, asg_n, closed_p, List.set_cons_zero, List.set_cons_succ, List.getElem?_cons_zero, List.getElem?_cons_succ, List.map_cons, List.map_nil, List.cons_append, List.nil_append, List.length_cons, List.length_nil, List.replicate_succ, List.replicate_zero, Nat.reduceSub, Nat.reduceAdd, if_true, if_false, Bool.false_eq_true, ite_true, ite_false, reduceIte, List.append_nil, Nat.reduceEqDiff, decide_true, decide_false, Bool.and_true, Bool.true_and, Nat.reduceLeDiff, Bool.not_true, Bool.not_false, List.map_map, asg_n, asg_t, tupOf_p, tupOf_t, l5]
    refine bases_to (n := 10) hc12 hk ?_
    have fin : (cop .ne (.l (baseNames.map fun x => D.p (.bl (ib c x)))) (.l [.p (.bl (decide (i < 7) || decide (i = 11))), .p (.bl (decide (i = 7))), .p (.bl (decide (i = 8))), .p (.bl (decide (i = 9) || decide (i = 10)))]) st) = .ok (.d (.p (.bl false))) st := by
      rw [bb, r2]
      exact eq_bools (bs := [decide (i < 7) || decide (i = 11), decide (i = 7), decide (i = 8), decide (i = 9) || decide (i = 10)])
    have c7 : decide ((i : Int) < 7) = decide (i < 7) := by by_cases h : i < 7 <;> simp [h] <;> omega
    have c11 : decide ((i : Int) = 11) = decide (i = 11) := by by_cases h : i = 11 <;> simp [h] <;> omega
    have d7 : decide ((i : Int) = 7) = decide (i = 7) := by by_cases h : i = 7 <;> simp [h] <;> omega
    have d8 : decide ((i : Int) = 8) = decide (i = 8) := by by_cases h : i = 8 <;> simp [h] <;> omega
    simp only [R.to_ok, R.to_bad, R.to_bind, R.bind_ok, R.to_ite, R.nox_ok, R.to_nox, RS.to_nx, RS.to_rt, RS.to_bk, RS.to_ct, RS.to_bad, RS.to_ite, RS.to_sE, sE_ok, w_seq, w_var, w_k, w_gk, w_tup, w_lst, w_lnil, w_lcons, w_bin, w_neg, w_cmp, w_cmpB, w_chain, w_chainB, w_and1, w_and2, w_or1, w_or2, w_andB1, w_andB2, w_orB1, w_orB2, w_not, w_notB, w_ite, w_ix, w_sl, w_no, w_yes, w_call, w_b1, w_bN, w_meth, w_lc, w_cno, w_cyes, w_iof, w_irng, w_ien, w_varB, w_callB, w_ixB, w_b1B, w_binB, w_slB, w_new, w_attr, w_isc, w_ret, w_retN, w_exp, w_asgn, w_asgt, w_par, w_par3, w_sub, w_if, w_for, w_mat, w_mcase, w_mels, w_mnil, w_pass, w_brk, w_cont, w_snil, w_s1, w_s2, box_d, box_l, o_add, o_sub, o_mul, o_fdiv, o_mod, o_pow, o_neg, o_lt, o_le, o_gt, o_ge, o_eqi, o_eqs, o_nei, o_nes, o_bl, tru_bl, tru_int, tru_non, o_intT, o_int, o_intb, o_max, asg_n, closed_p, List.set_cons_zero, List.set_cons_succ, List.getElem?_cons_zero, List.getElem?_cons_succ, List.map_cons, List.map_nil, List.cons_append, List.nil_append, List.length_cons, List.length_nil, List.replicate_succ, List.replicate_zero, Nat.reduceSub, Nat.reduceAdd, if_true, if_false, Bool.false_eq_true, ite_true, ite_false, reduceIte, List.append_nil, Nat.reduceEqDiff, decide_true, decide_false, Bool.and_true, Bool.true_and, Nat.reduceLeDiff, Bool.not_true, Bool.not_false, List.map_map, asg_n, asg_t, tupOf_p, tupOf_t, in_9_10, c7, c11, d7, d8]
    by_cases h7 : i < 7
    · rw [decide_eq_true h7] at fin ⊢
      simp only [R.to_ok, R.to_bad, R.to_bind, R.bind_ok, R.to_ite, R.nox_ok, R.to_nox, RS.to_nx, RS.to_rt, RS.to_bk, RS.to_ct, RS.to_bad, RS.to_ite, RS.to_sE, sE_ok, w_seq, w_var, w_k, w_gk, w_tup, w_lst, w_lnil, w_lcons, w_bin, w_neg, w_cmp, w_cmpB, w_chain, w_chainB, w_and1, w_and2, w_or1, w_or2, w_andB1, w_andB2, w_orB1, w_orB2, w_not, w_notB, w_ite, w_ix, w_sl, w_no, w_yes, w_call, w_b1, w_bN, w_meth, w_lc, w_cno, w_cyes, w_iof, w_irng, w_ien, w_varB, w_callB, w_ixB, w_b1B, w_binB, w_slB, w_new, w_attr, w_isc, w_ret, w_retN, w_exp, w_asgn, w_asgt, w_par, w_par3, w_sub, w_if, w_for, w_mat, w_mcase, w_mels, w_mnil, w_pass, w_brk, w_cont, w_snil, w_s1, w_s2, box_d, box_l, o_add, o_sub, o_mul, o_fdiv, o_mod, o_pow, o_neg, o_lt, o_le, o_gt, o_ge, o_eqi, o_eqs, o_nei, o_nes, o_bl, tru_bl, tru_int, tru_non, o_intT, o_int, o_intb, o_max, asg_n, closed_p, List.set_cons_zero, List.set_cons_succ, List.getElem?_cons_zero, List.getElem?_cons_succ, List.map_cons, List.map_nil, List.cons_append, List.nil_append, List.length_cons, List.length_nil, List.replicate_succ, List.replicate_zero, Nat.reduceSub, Nat.reduceAdd, if_true, if_false, Bool.false_eq_true, ite_true, ite_false, reduceIte, List.append_nil, Nat.reduceEqDiff, decide_true, decide_false, Bool.and_true, Bool.true_and, Nat.reduceLeDiff, Bool.not_true, Bool.not_false, List.map_map, asg_n, asg_t, tupOf_p, tupOf_t, in_9_10, Bool.true_or] at fin ⊢
      simp only [fin, R.to_ok, R.to_bad, R.to_bind, R.bind_ok, R.to_ite, R.nox_ok, R.to_nox, RS.to_nx, RS.to_rt, RS.to_bk, RS.to_ct, RS.to_bad, RS.to_ite, RS.to_sE, sE_ok, w_seq, w_var, w_k, w_gk, w_tup, w_lst, w_lnil, w_lcons, w_bin, w_neg, w_cmp, w_cmpB, w_chain, w_chainB, w_and1, w_and2, w_or1, w_or2, w_andB1, w_andB2, w_orB1, w_orB2, w_not, w_notB, w_ite, w_ix, w_sl, w_no, w_yes, w_call, w_b1, w_bN, w_meth, w_lc, w_cno, w_cyes, w_iof, w_irng, w_ien, w_varB, w_callB, w_ixB, w_b1B, w_binB, w_slB, w_new, w_attr, w_isc, w_ret, w_retN, w_exp, w_asgn, w_asgt, w_par, w_par3, w_sub, w_if, w_for, w_mat, w_mcase, w_mels, w_mnil, w_pass, w_brk, w_cont, w_snil, w_s1, w_s2, box_d, box_l, o_add, o_sub, o_mul, o_fdiv, o_mod, o_pow, o_neg, o_lt, o_le, o_gt, o_ge, o_eqi, o_eqs, o_nei, o_nes, o_bl, tru_bl, tru_int, tru_non, o_intT, o_int, o_intb, o_max, asg_n, closed_p, List.set_cons_zero, List.set_cons_succ, List.getElem?_cons_zero, List.getElem?_cons_succ, List.map_cons, List.map_nil, List.cons_append, List.nil_append, List.length_cons, List.length_nil, List.replicate_succ, List.replicate_zero, Nat.reduceSub, Nat.reduceAdd, if_true, if_false, Bool.false_eq_true, ite_true, ite_false, reduceIte, List.append_nil, Nat.reduceEqDiff, decide_true, decide_false, Bool.and_true, Bool.true_and, Nat.reduceLeDiff, Bool.not_true, Bool.not_false, List.map_map, asg_n, asg_t, tupOf_p, tupOf_t]
      exact q
    · rw [decide_eq_false h7] at fin ⊢
      simp only [R.to_ok, R.to_bad, R.to_bind, R.bind_ok, R.to_ite, R.nox_ok, R.to_nox, RS.to_nx, RS.to_rt, RS.to_bk, RS.to_ct, RS.to_bad, RS.to_ite, RS.to_sE, sE_ok, w_seq, w_var, w_k, w_gk, w_tup, w_lst, w_lnil, w_lcons, w_bin, w_neg, w_cmp, w_cmpB, w_chain, w_chainB, w_and1, w_and2, w_or1, w_or2, w_andB1, w_andB2, w_orB1, w_orB2, w_not, w_notB, w_ite, w_ix, w_sl, w_no, w_yes, w_call, w_b1, w_bN, w_meth, w_lc, w_cno, w_cyes, w_iof, w_irng, w_ien, w_varB, w_callB, w_ixB, w_b1B, w_binB, w_slB, w_new, w_attr, w_isc, w_ret, w_retN, w_exp, w_asgn, w_asgt, w_par, w_par3, w_sub, w_if, w_for, w_mat, w_mcase, w_mels, w_mnil, w_pass, w_brk, w_cont, w_snil, w_s1, w_s2, box_d, box_l, o_add, o_sub, o_mul, o_fdiv, o_mod, o_pow, o_neg, o_lt, o_le, o_gt, o_ge, o_eqi, o_eqs, o_nei, o_nes, o_bl, tru_bl, tru_int, tru_non, o_intT, o_int, o_intb, o_max, asg_n, closed_p, List.set_cons_zero, List.set_cons_succ, List.getElem?_cons_zero, List.getElem?_cons_succ, List.map_cons, List.map_nil, List.cons_append, List.nil_append, List.length_cons, List.length_nil, List.replicate_succ, List.replicate_zero, Nat.reduceSub, Nat.reduceAdd, if_true, if_false, Bool.false_eq_true, ite_true, ite_false, reduceIte, List.append_nil, Nat.reduceEqDiff, decide_true, decide_false, Bool.and_true, Bool.true_and, Nat.reduceLeDiff, Bool.not_true, Bool.not_false, List.map_map, asg_n, asg_t, tupOf_p, tupOf_t, in_9_10, Bool.false_or] at fin ⊢
      simp only [fin, R.to_ok, R.to_bad, R.to_bind, R.bind_ok, R.to_ite, R.nox_ok, R.to_nox, RS.to_nx, RS.to_rt, RS.to_bk, RS.to_ct, RS.to_bad, RS.to_ite, RS.to_sE, sE_ok, w_seq, w_var, w_k, w_gk, w_tup, w_lst, w_lnil, w_lcons, w_bin, w_neg, w_cmp, w_cmpB, w_chain, w_chainB, w_and1, w_and2, w_or1, w_or2, w_andB1, w_andB2, w_orB1, w_orB2, w_not, w_notB, w_ite, w_ix, w_sl, w_no, w_yes, w_call, w_b1, w_bN, w_meth, w_lc, w_cno, w_cyes, w_iof, w_irng, w_ien, w_varB, w_callB, w_ixB, w_b1B, w_binB, w_slB, w_new, w_attr, w_isc, w_ret, w_retN, w_exp, w_asgn, w_asgt, w_par, w_par3, w_sub, w_if, w_for, w_mat, w_mcase, w_mels, w_mnil, w_pass, w_brk, w_cont, w_snil, w_s1, w_s2, box_d, box_l, o_add, o_sub, o_mul, o_fdiv, o_mod, o_pow, o_neg, o_lt, o_le, o_gt, o_ge, o_eqi, o_eqs, o_nei, o_nes, o_bl, tru_bl, tru_int, tru_non, o_intT, o_int, o_intb, o_max, asg_n, closed_p, List.set_cons_zero, List.set_cons_succ, List.getElem?_cons_zero, List.getElem?_cons_succ, List.map_cons, List.map_nil, List.cons_append, List.nil_append, List.length_cons, List.length_nil, List.replicate_succ, List.replicate_zero, Nat.reduceSub, Nat.reduceAdd, if_true, if_false, Bool.false_eq_true, ite_true, ite_false, reduceIte, List.append_nil, Nat.reduceEqDiff, decide_true, decide_false, Bool.and_true, Bool.true_and, Nat.reduceLeDiff, Bool.not_true, Bool.not_false, List.map_map, asg_n, asg_t, tupOf_p, tupOf_t]
      exact q
end K1
set_option Elab.async false
set_option linter.all false
set_option maxRecDepth 100000
set_option maxHeartbeats 4000000
namespace K1
open PySem Z
def phR (pd : PyData) : D → Option D := fun _ => some (.p (.str pd.shown))
theorem law_to (ns : List Int) (h63 : ns.length ≤ 63) : (callN defs tab 12 0 [.kl (ns.map P.int)] []).to fun t _ => t = .d (.p (.bl true)) := by
  refine call_to (d := f_law) rfl rfl rfl rfl ?_
  unfold f_law b_law
  rw [w_s2, w_seq, w_for, RS.to_sE, w_ien, R.to_bind]
  refine cells_to (m := 6) (z := 7) rfl (by decide) ?_
  simp only [enum_l, R.to_ok]
  refine loop_to (fun i ρ st => ∃ a0 a1 a2 a3 a4 a5 a6 a7 a8 a9 a10, ρ = [a0, a1, a2, a3, a4, a5, a6, a7, a8, a9, a10]) _ 0 _ _ ⟨_, _, _, _, _, _, _, _, _, _, _, rfl⟩ (fun i x ρ st hx hI => ?_) (fun ρ st hI => ?_)
  · obtain ⟨a0, a1, a2, a3, a4, a5, a6, a7, a8, a9, a10, rfl⟩ := hI
    have hil : i < (cells 6 7 ns).length := by
      have := (List.getElem?_eq_some_iff.mp hx).1
      simpa [enumD] using this
    have hc6 := cells_len (m := 6) (z := 7) (ns := ns)
    obtain ⟨cell, hcell, rfl⟩ := enum_get hx
    refine ⟨rfl, _, rfl, ?_⟩
    have em : bop .mul (.l [dI 420]) (.d (dI 4)) st = .ok (.l ([420, 420, 420, 420].map dI)) st := mul_one (m := 4) (by decide)
    have ea : ∀ (a b : Int) (st : Store), bop .add (.d (dI a)) (.d (dI b)) st = .ok (.d (dI (a + b))) st := fun _ _ _ => rfl
    simp only [R.to_ok, R.to_bad, R.to_bind, R.bind_ok, R.to_ite, R.nox_ok, R.to_nox, RS.to_nx, RS.to_rt, RS.to_bk, RS.to_ct, RS.to_bad, RS.to_ite, RS.to_sE, sE_ok, w_seq, w_var, w_k, w_gk, w_tup, w_lst, w_lnil, w_lcons, w_bin, w_neg, w_cmp, w_cmpB, w_chain, w_chainB, w_and1, w_and2, w_or1, w_or2, w_andB1, w_andB2, w_orB1, w_orB2, w_not, w_notB, w_ite, w_ix, w_sl, w_no, w_yes, w_call, w_b1, w_bN, w_meth, w_lc, w_cno, w_cyes, w_iof, w_irng, w_ien, w_varB, w_callB, w_ixB, w_b1B, w_binB, w_slB, w_new, w_attr, w_isc, w_ret, w_retN, w_exp, w_asgn, w_asgt, w_par, w_par3, w_sub, w_if, w_for, w_mat, w_mcase, w_mels, w_mnil, w_pass, w_brk, w_cont, w_snil, w_s1, w_s2, box_d, box_l, o_add, o_sub, o_mul, o_fdiv, o_mod, o_pow, o_neg, o_lt, o_le, o_gt, o_ge, o_eqi, o_eqs, o_nei, o_nes, o_bl, tru_bl, tru_int, tru_non, o_intT, o_int, o_intb, o_max, asg_n, closed_p, List.set_cons_zero, List.set_cons_succ, List.getElem?_cons_zero, List.getElem?_cons_succ, List.map_cons, List.map_nil, List.cons_append, List.nil_append, List.length_cons, List.length_nil, List.replicate_succ, List.replicate_zero, Nat.reduceSub, Nat.reduceAdd, if_true, if_false, Bool.false_eq_true, ite_true, ite_false, reduceIte, List.append_nil, Nat.reduceEqDiff, decide_true, decide_false, Bool.and_true, Bool.true_and, Nat.reduceLeDiff, Bool.not_true, Bool.not_false, List.map_map, asg_n, asg_t, tupOf_p, tupOf_t, em, ea]
    refine numbers_to (d := f_law_numbers) (sizes := [420, 420, 420, 420]) rfl rfl rfl rfl rfl rfl (by simp) (by decide) (by decide) (by omega) (by omega) fun xs hxl hxb => ?_
    simp only [R.to_ok, R.to_bad, R.to_bind, R.bind_ok, R.to_ite, R.nox_ok, R.to_nox, RS.to_nx, RS.to_rt, RS.to_bk, RS.to_ct, RS.to_bad, RS.to_ite, RS.to_sE, sE_ok, w_seq, w_var, w_k, w_gk, w_tup, w_lst, w_lnil, w_lcons, w_bin, w_neg, w_cmp, w_cmpB, w_chain, w_chainB, w_and1, w_and2, w_or1, w_or2, w_andB1, w_andB2, w_orB1, w_orB2, w_not, w_notB, w_ite, w_ix, w_sl, w_no, w_yes, w_call, w_b1, w_bN, w_meth, w_lc, w_cno, w_cyes, w_iof, w_irng, w_ien, w_varB, w_callB, w_ixB, w_b1B, w_binB, w_slB, w_new, w_attr, w_isc, w_ret, w_retN, w_exp, w_asgn, w_asgt, w_par, w_par3, w_sub, w_if, w_for, w_mat, w_mcase, w_mels, w_mnil, w_pass, w_brk, w_cont, w_snil, w_s1, w_s2, box_d, box_l, o_add, o_sub, o_mul, o_fdiv, o_mod, o_pow, o_neg, o_lt, o_le, o_gt, o_ge, o_eqi, o_eqs, o_nei, o_nes, o_bl, tru_bl, tru_int, tru_non, o_intT, o_int, o_intb, o_max, asg_n, closed_p, List.set_cons_zero, List.set_cons_succ, List.getElem?_cons_zero, List.getElem?_cons_succ, List.map_cons, List.map_nil, List.cons_append, List.nil_append, List.length_cons, List.length_nil, List.replicate_succ, List.replicate_zero, Nat.reduceSub, Nat.reduceAdd, if_true, if_false, Bool.false_eq_true, ite_true, ite_false, reduceIte, List.append_nil, Nat.reduceEqDiff, decide_true, decide_false, Bool.and_true, Bool.true_and, Nat.reduceLeDiff, Bool.not_true, Bool.not_false, List.map_map, asg_n, asg_t, tupOf_p, tupOf_t, List.append_assoc, List.length_append]
    have hD : Dr (st.length + 2) (st.length + 1) xs (st ++ [O.lst [dI 420, dI 420, dI 420, dI 420], .lst (xs.map dI), .lst [.ref (st.length + 1), dI 0]]) := ⟨⟨0, get2 rfl⟩, get1 rfl, by omega⟩
    generalize st ++ [O.lst [dI 420, dI 420, dI 420, dI 420], .lst (xs.map dI), .lst [.ref (st.length + 1), dI 0]] = st3 at hD
    generalize st.length + 2 = s at hD ⊢
    generalize st.length + 1 = q at hD
    refine draw_to (d := f_law_draw) rfl rfl rfl rfl rfl rfl hD (by decide) fun r h0 h1 st4 m4 h4 => ?_
    obtain ⟨r, rfl⟩ := Int.eq_ofNat_of_zero_le h0
    have hr : r < 420 := by omega
    have hp : pPow (r : Int) 20 = true := pPow_ok (by omega) (by omega) (by decide) (by decide)
    simp only [R.to_ok, R.to_bad, R.to_bind, R.bind_ok, R.to_ite, R.nox_ok, R.to_nox, RS.to_nx, RS.to_rt, RS.to_bk, RS.to_ct, RS.to_bad, RS.to_ite, RS.to_sE, sE_ok, w_seq, w_var, w_k, w_gk, w_tup, w_lst, w_lnil, w_lcons, w_bin, w_neg, w_cmp, w_cmpB, w_chain, w_chainB, w_and1, w_and2, w_or1, w_or2, w_andB1, w_andB2, w_orB1, w_orB2, w_not, w_notB, w_ite, w_ix, w_sl, w_no, w_yes, w_call, w_b1, w_bN, w_meth, w_lc, w_cno, w_cyes, w_iof, w_irng, w_ien, w_varB, w_callB, w_ixB, w_b1B, w_binB, w_slB, w_new, w_attr, w_isc, w_ret, w_retN, w_exp, w_asgn, w_asgt, w_par, w_par3, w_sub, w_if, w_for, w_mat, w_mcase, w_mels, w_mnil, w_pass, w_brk, w_cont, w_snil, w_s1, w_s2, box_d, box_l, o_add, o_sub, o_mul, o_fdiv, o_mod, o_pow, o_neg, o_lt, o_le, o_gt, o_ge, o_eqi, o_eqs, o_nei, o_nes, o_bl, tru_bl, tru_int, tru_non, o_intT, o_int, o_intb, o_max, asg_n, closed_p, List.set_cons_zero, List.set_cons_succ, List.getElem?_cons_zero, List.getElem?_cons_succ, List.map_cons, List.map_nil, List.cons_append, List.nil_append, List.length_cons, List.length_nil, List.replicate_succ, List.replicate_zero, Nat.reduceSub, Nat.reduceAdd, if_true, if_false, Bool.false_eq_true, ite_true, ite_false, reduceIte, List.append_nil, Nat.reduceEqDiff, decide_true, decide_false, Bool.and_true, Bool.true_and, Nat.reduceLeDiff, Bool.not_true, Bool.not_false, List.map_map, asg_n, asg_t, tupOf_p, tupOf_t, hp]
    refine draw_app (d := f_law_draw) rfl rfl rfl rfl rfl rfl h4 (by decide) fun w w0 w1 st5 m5 h5 => ?_
    obtain ⟨w, rfl⟩ := Int.eq_ofNat_of_zero_le w0
    obtain ⟨d, pd, hd, V⟩ := one_ok (st := st5 ++ [.lst [dI 1]]) (r := r) (k := st4.length) hr (get0 m5.len) w (by omega)
    have ix : ∀ st : Store, oIx (.l [D.p .non, .p (.int ((r : Int) ^ Int.toNat 20)), .p (.str "a"), mkTup [.p (.str "a"), dI (r : Int)], .ref st4.length, .p (.int (-(r : Int))), .p (.str ""), .p (.bl true)]) (.d (dI (w : Int))) st = .ok (.d d) st := fun st => ix_l hd
    simp only [R.to_ok, R.to_bad, R.to_bind, R.bind_ok, R.to_ite, R.nox_ok, R.to_nox, RS.to_nx, RS.to_rt, RS.to_bk, RS.to_ct, RS.to_bad, RS.to_ite, RS.to_sE, sE_ok, w_seq, w_var, w_k, w_gk, w_tup, w_lst, w_lnil, w_lcons, w_bin, w_neg, w_cmp, w_cmpB, w_chain, w_chainB, w_and1, w_and2, w_or1, w_or2, w_andB1, w_andB2, w_orB1, w_orB2, w_not, w_notB, w_ite, w_ix, w_sl, w_no, w_yes, w_call, w_b1, w_bN, w_meth, w_lc, w_cno, w_cyes, w_iof, w_irng, w_ien, w_varB, w_callB, w_ixB, w_b1B, w_binB, w_slB, w_new, w_attr, w_isc, w_ret, w_retN, w_exp, w_asgn, w_asgt, w_par, w_par3, w_sub, w_if, w_for, w_mat, w_mcase, w_mels, w_mnil, w_pass, w_brk, w_cont, w_snil, w_s1, w_s2, box_d, box_l, o_add, o_sub, o_mul, o_fdiv, o_mod, o_pow, o_neg, o_lt, o_le, o_gt, o_ge, o_eqi, o_eqs, o_nei, o_nes, o_bl, tru_bl, tru_int, tru_non, o_intT, o_int, o_intb, o_max, asg_n, closed_p, List.set_cons_zero, List.set_cons_succ, List.getElem?_cons_zero, List.getElem?_cons_succ, List.map_cons, List.map_nil, List.cons_append, List.nil_append, List.length_cons, List.length_nil, List.replicate_succ, List.replicate_zero, Nat.reduceSub, Nat.reduceAdd, if_true, if_false, Bool.false_eq_true, ite_true, ite_false, reduceIte, List.append_nil, Nat.reduceEqDiff, decide_true, decide_false, Bool.and_true, Bool.true_and, Nat.reduceLeDiff, Bool.not_true, Bool.not_false, List.map_map, asg_n, asg_t, tupOf_p, tupOf_t, ix]
    generalize st5 ++ [O.lst [dI 1]] = st6 at V
    refine made_to (n := 10) fun ds g tw => ?_
    simp only [R.to_ok, R.to_bad, R.to_bind, R.bind_ok, R.to_ite, R.nox_ok, R.to_nox, RS.to_nx, RS.to_rt, RS.to_bk, RS.to_ct, RS.to_bad, RS.to_ite, RS.to_sE, sE_ok, w_seq, w_var, w_k, w_gk, w_tup, w_lst, w_lnil, w_lcons, w_bin, w_neg, w_cmp, w_cmpB, w_chain, w_chainB, w_and1, w_and2, w_or1, w_or2, w_andB1, w_andB2, w_orB1, w_orB2, w_not, w_notB, w_ite, w_ix, w_sl, w_no, w_yes, w_call, w_b1, w_bN, w_meth, w_lc, w_cno, w_cyes, w_iof, w_irng, w_ien, w_varB, w_callB, w_ixB, w_b1B, w_binB, w_slB, w_new, w_attr, w_isc, w_ret, w_retN, w_exp, w_asgn, w_asgt, w_par, w_par3, w_sub, w_if, w_for, w_mat, w_mcase, w_mels, w_mnil, w_pass, w_brk, w_cont, w_snil, w_s1, w_s2, box_d, box_l, o_add, o_sub, o_mul, o_fdiv, o_mod, o_pow, o_neg, o_lt, o_le, o_gt, o_ge, o_eqi, o_eqs, o_nei, o_nes, o_bl, tru_bl, tru_int, tru_non, o_intT, o_int, o_intb, o_max, asg_n, closed_p, List.set_cons_zero, List.set_cons_succ, List.getElem?_cons_zero, List.getElem?_cons_succ, List.map_cons, List.map_nil, List.cons_append, List.nil_append, List.length_cons, List.length_nil, List.replicate_succ, List.replicate_zero, Nat.reduceSub, Nat.reduceAdd, if_true, if_false, Bool.false_eq_true, ite_true, ite_false, reduceIte, List.append_nil, Nat.reduceEqDiff, decide_true, decide_false, Bool.and_true, Bool.true_and, Nat.reduceLeDiff, Bool.not_true, Bool.not_false, List.map_map, asg_n, asg_t, tupOf_p, tupOf_t]
    have h7 : (st6 ++ g ++ [O.lst ds])[(st6 ++ g).length]? = some (.lst ds) := get0 rfl
    have T7 : Twelve (st6 ++ g ++ [O.lst ds]) d ds := tw.app
    have V7 : VOk (st6 ++ g ++ [O.lst ds]) d pd := V.app.app
    generalize hn7 : (st6 ++ g).length = n7 at h7 ⊢
    generalize st6 ++ g ++ [O.lst ds] = st7 at h7 T7 V7
    simp only [R.to_ok, R.to_bad, R.to_bind, R.bind_ok, R.to_ite, R.nox_ok, R.to_nox, RS.to_nx, RS.to_rt, RS.to_bk, RS.to_ct, RS.to_bad, RS.to_ite, RS.to_sE, sE_ok, w_seq, w_var, w_k, w_gk, w_tup, w_lst, w_lnil, w_lcons, w_bin, w_neg, w_cmp, w_cmpB, w_chain, w_chainB, w_and1, w_and2, w_or1, w_or2, w_andB1, w_andB2, w_orB1, w_orB2, w_not, w_notB, w_ite, w_ix, w_sl, w_no, w_yes, w_call, w_b1, w_bN, w_meth, w_lc, w_cno, w_cyes, w_iof, w_irng, w_ien, w_varB, w_callB, w_ixB, w_b1B, w_binB, w_slB, w_new, w_attr, w_isc, w_ret, w_retN, w_exp, w_asgn, w_asgt, w_par, w_par3, w_sub, w_if, w_for, w_mat, w_mcase, w_mels, w_mnil, w_pass, w_brk, w_cont, w_snil, w_s1, w_s2, box_d, box_l, o_add, o_sub, o_mul, o_fdiv, o_mod, o_pow, o_neg, o_lt, o_le, o_gt, o_ge, o_eqi, o_eqs, o_nei, o_nes, o_bl, tru_bl, tru_int, tru_non, o_intT, o_int, o_intb, o_max, asg_n, closed_p, List.set_cons_zero, List.set_cons_succ, List.getElem?_cons_zero, List.getElem?_cons_succ, List.map_cons, List.map_nil, List.cons_append, List.nil_append, List.length_cons, List.length_nil, List.replicate_succ, List.replicate_zero, Nat.reduceSub, Nat.reduceAdd, if_true, if_false, Bool.false_eq_true, ite_true, ite_false, reduceIte, List.append_nil, Nat.reduceEqDiff, decide_true, decide_false, Bool.and_true, Bool.true_and, Nat.reduceLeDiff, Bool.not_true, Bool.not_false, List.map_map, asg_n, asg_t, tupOf_p, tupOf_t, enum_ref h7]
    refine loop_to (fun i ρ st => st = st7 ∧ ∃ y1 x7 x8, ρ = [a0, y1, some (.p (.int cell)), some (.ref s), some (dI (r : Int)), some d, some (.ref n7), x7, x8, a9, a10]) _ 0 _ _ ⟨rfl, _, _, _, rfl⟩ (fun i x ρ st hx hI => ?_) (fun ρ st hI => ?_)
    · obtain ⟨rfl, y1, x7, x8, rfl⟩ := hI
      obtain ⟨y, hy, rfl⟩ := enumD_get hx
      obtain ⟨k, c, rfl, hc, hk⟩ := T7.2 i y hy
      have hi : i < 12 := by rw [← T7.1]; exact (List.getElem?_eq_some_iff.mp hy).1
      refine ⟨decide_eq_true (rd_ref h7), _, rfl, ?_⟩
      exact step_to (a7 := x7) (a8 := x8) hi hc hk ⟨rfl, _, _, _, rfl⟩
    · obtain ⟨rfl, y1, x7, x8, rfl⟩ := hI
      refine ⟨decide_eq_true (rd_ref h7), ?_⟩
      simp only [R.to_ok, R.to_bad, R.to_bind, R.bind_ok, R.to_ite, R.nox_ok, R.to_nox, RS.to_nx, RS.to_rt, RS.to_bk, RS.to_ct, RS.to_bad, RS.to_ite, RS.to_sE, sE_ok, w_seq, w_var, w_k, w_gk, w_tup, w_lst, w_lnil, w_lcons, w_bin, w_neg, w_cmp, w_cmpB, w_chain, w_chainB, w_and1, w_and2, w_or1, w_or2, w_andB1, w_andB2, w_orB1, w_orB2, w_not, w_notB, w_ite, w_ix, w_sl, w_no, w_yes, w_call, w_b1, w_bN, w_meth, w_lc, w_cno, w_cyes, w_iof, w_irng, w_ien, w_varB, w_callB, w_ixB, w_b1B, w_binB, w_slB, w_new, w_attr, w_isc, w_ret, w_retN, w_exp, w_asgn, w_asgt, w_par, w_par3, w_sub, w_if, w_for, w_mat, w_mcase, w_mels, w_mnil, w_pass, w_brk, w_cont, w_snil, w_s1, w_s2, box_d, box_l, o_add, o_sub, o_mul, o_fdiv, o_mod, o_pow, o_neg, o_lt, o_le, o_gt, o_ge, o_eqi, o_eqs, o_nei, o_nes, o_bl, tru_bl, tru_int, tru_non, o_intT, o_int, o_intb, o_max, asg_n, closed_p, List.set_cons_zero, List.set_cons_succ, List.getElem?_cons_zero, List.getElem?_cons_succ, List.map_cons, List.map_nil, List.cons_append, List.nil_append, List.length_cons, List.length_nil, List.replicate_succ, List.replicate_zero, Nat.reduceSub, Nat.reduceAdd, if_true, if_false, Bool.false_eq_true, ite_true, ite_false, reduceIte, List.append_nil, Nat.reduceEqDiff, decide_true, decide_false, Bool.and_true, Bool.true_and, Nat.reduceLeDiff, Bool.not_true, Bool.not_false, List.map_map, asg_n, asg_t, tupOf_p, tupOf_t]
      refine fields_to (n := 10) h7 V7.cl T7 ?_
      simp only [R.to_ok, R.to_bad, R.to_bind, R.bind_ok, R.to_ite, R.nox_ok, R.to_nox, RS.to_nx, RS.to_rt, RS.to_bk, RS.to_ct, RS.to_bad, RS.to_ite, RS.to_sE, sE_ok, w_seq, w_var, w_k, w_gk, w_tup, w_lst, w_lnil, w_lcons, w_bin, w_neg, w_cmp, w_cmpB, w_chain, w_chainB, w_and1, w_and2, w_or1, w_or2, w_andB1, w_andB2, w_orB1, w_orB2, w_not, w_notB, w_ite, w_ix, w_sl, w_no, w_yes, w_call, w_b1, w_bN, w_meth, w_lc, w_cno, w_cyes, w_iof, w_irng, w_ien, w_varB, w_callB, w_ixB, w_b1B, w_binB, w_slB, w_new, w_attr, w_isc, w_ret, w_retN, w_exp, w_asgn, w_asgt, w_par, w_par3, w_sub, w_if, w_for, w_mat, w_mcase, w_mels, w_mnil, w_pass, w_brk, w_cont, w_snil, w_s1, w_s2, box_d, box_l, o_add, o_sub, o_mul, o_fdiv, o_mod, o_pow, o_neg, o_lt, o_le, o_gt, o_ge, o_eqi, o_eqs, o_nei, o_nes, o_bl, tru_bl, tru_int, tru_non, o_intT, o_int, o_intb, o_max, asg_n, closed_p, List.set_cons_zero, List.set_cons_succ, List.getElem?_cons_zero, List.getElem?_cons_succ, List.map_cons, List.map_nil, List.cons_append, List.nil_append, List.length_cons, List.length_nil, List.replicate_succ, List.replicate_zero, Nat.reduceSub, Nat.reduceAdd, if_true, if_false, Bool.false_eq_true, ite_true, ite_false, reduceIte, List.append_nil, Nat.reduceEqDiff, decide_true, decide_false, Bool.and_true, Bool.true_and, Nat.reduceLeDiff, Bool.not_true, Bool.not_false, List.map_map, asg_n, asg_t, tupOf_p, tupOf_t]
      refine named_to (n := 10) fun ds2 g2 tw2 => ?_
      try simp only [R.to_ok, R.to_bad, R.to_bind, R.bind_ok, R.to_ite, R.nox_ok, R.to_nox, RS.to_nx, RS.to_rt, RS.to_bk, RS.to_ct, RS.to_bad, RS.to_ite, RS.to_sE, sE_ok, w_seq, w_var, w_k, w_gk, w_tup, w_lst, w_lnil, w_lcons, w_bin, w_neg, w_cmp, w_cmpB, w_chain, w_chainB, w_and1, w_and2, w_or1, w_or2, w_andB1, w_andB2, w_orB1, w_orB2, w_not, w_notB, w_ite, w_ix, w_sl, w_no, w_yes, w_call, w_b1, w_bN, w_meth, w_lc, w_cno, w_cyes, w_iof, w_irng, w_ien, w_varB, w_callB, w_ixB, w_b1B, w_binB, w_slB, w_new, w_attr, w_isc, w_ret, w_retN, w_exp, w_asgn, w_asgt, w_par, w_par3, w_sub, w_if, w_for, w_mat, w_mcase, w_mels, w_mnil, w_pass, w_brk, w_cont, w_snil, w_s1, w_s2, box_d, box_l, o_add, o_sub, o_mul, o_fdiv, o_mod, o_pow, o_neg, o_lt, o_le, o_gt, o_ge, o_eqi, o_eqs, o_nei, o_nes, o_bl, tru_bl, tru_int, tru_non, o_intT, o_int, o_intb, o_max, asg_n, closed_p, List.set_cons_zero, List.set_cons_succ, List.getElem?_cons_zero, List.getElem?_cons_succ, List.map_cons, List.map_nil, List.cons_append, List.nil_append, List.length_cons, List.length_nil, List.replicate_succ, List.replicate_zero, Nat.reduceSub, Nat.reduceAdd, if_true, if_false, Bool.false_eq_true, ite_true, ite_false, reduceIte, List.append_nil, Nat.reduceEqDiff, decide_true, decide_false, Bool.and_true, Bool.true_and, Nat.reduceLeDiff, Bool.not_true, Bool.not_false, List.map_map, asg_n, asg_t, tupOf_p, tupOf_t]
      refine fields_to (n := 10) (ds := ds2) (get0 rfl) (V7.app.app).cl tw2.app ?_
      have V8 : VOk (st ++ g2 ++ [O.lst ds2]) d pd := V7.app.app
      generalize st ++ g2 ++ [O.lst ds2] = st8 at V8 ⊢
      have e1 : bop .add (.l [d, d, d, d, d, d, d, d, d, d, d, d]) (.l (List.replicate 12 d)) st8 = .ok (.l (List.replicate 24 d)) st8 := add_l_l (ds := List.replicate 12 d) (es := List.replicate 12 d) (by simp)
      have er : b1op .repr (.d d) st8 = .ok (.d (.p (.str pd.shown))) st8 := V8.rep
      simp only [e1, R.to_ok, src_l, List.length_replicate]
      rw [if_pos (by rw [sizeLine_eq]; decide)]
      refine comp_pure (phR pd) rfl (fun x hx => ?_) ?_
      · rw [List.eq_of_mem_replicate hx]
        refine ⟨_, rfl, ?_⟩
        simp only [R.to_ok, R.to_bad, R.to_bind, R.bind_ok, R.to_ite, R.nox_ok, R.to_nox, RS.to_nx, RS.to_rt, RS.to_bk, RS.to_ct, RS.to_bad, RS.to_ite, RS.to_sE, sE_ok, w_seq, w_var, w_k, w_gk, w_tup, w_lst, w_lnil, w_lcons, w_bin, w_neg, w_cmp, w_cmpB, w_chain, w_chainB, w_and1, w_and2, w_or1, w_or2, w_andB1, w_andB2, w_orB1, w_orB2, w_not, w_notB, w_ite, w_ix, w_sl, w_no, w_yes, w_call, w_b1, w_bN, w_meth, w_lc, w_cno, w_cyes, w_iof, w_irng, w_ien, w_varB, w_callB, w_ixB, w_b1B, w_binB, w_slB, w_new, w_attr, w_isc, w_ret, w_retN, w_exp, w_asgn, w_asgt, w_par, w_par3, w_sub, w_if, w_for, w_mat, w_mcase, w_mels, w_mnil, w_pass, w_brk, w_cont, w_snil, w_s1, w_s2, box_d, box_l, o_add, o_sub, o_mul, o_fdiv, o_mod, o_pow, o_neg, o_lt, o_le, o_gt, o_ge, o_eqi, o_eqs, o_nei, o_nes, o_bl, tru_bl, tru_int, tru_non, o_intT, o_int, o_intb, o_max, asg_n, closed_p, List.set_cons_zero, List.set_cons_succ, List.getElem?_cons_zero, List.getElem?_cons_succ, List.map_cons, List.map_nil, List.cons_append, List.nil_append, List.length_cons, List.length_nil, List.replicate_succ, List.replicate_zero, Nat.reduceSub, Nat.reduceAdd, if_true, if_false, Bool.false_eq_true, ite_true, ite_false, reduceIte, List.append_nil, Nat.reduceEqDiff, decide_true, decide_false, Bool.and_true, Bool.true_and, Nat.reduceLeDiff, Bool.not_true, Bool.not_false, List.map_map, asg_n, asg_t, tupOf_p, tupOf_t, wipe_cons, wipe_nil, er]
        simp [phR]
      · have e2 : (List.replicate 24 d).filterMap (phR pd) = (List.replicate 24 pd.shown).map fun b => .p (.str b) := by
          unfold phR
          rfl
        have e3 : bop .mul (.l [.p (.str pd.shown)]) (.d (.p (.int 24))) st8 = .ok (.l ((List.replicate 24 pd.shown).map fun b => .p (.str b))) st8 := (mul_one (m := 24) (by decide)).trans (by rw [List.map_replicate])
        rw [e2]
        simp only [R.to_ok, er, box_d, e3, eq_strs (l := List.replicate 24 pd.shown) (fun x hx => by rw [List.eq_of_mem_replicate hx]; exact V8.str), o_bl, Bool.false_eq_true, if_false]
        have e8 : callN defs tab 11 8 [d] st8 = .ok (.d (.p (.str pd.shown))) st8 := by
          rw [callN_sp (n := 10) (d := f_law_raised) (g := sp_law_raised) rfl rfl]
          show (if ([d] : List D).length = 1 then (match sE [some d, none] (oRepr (T.d d) st8) RS.rt with
            | .nx _ st' => R.ok (T.d (.p .non)) st'
            | .rt t st' => R.ok t st'
            | .exn C fs _ st' => R.exn C fs st'
            | _ => R.bad) else R.bad) = _
          rw [V8.rep]
          rfl
        have l8 : tab.dfl 8 = [] ∧ (tab.par 8).length = 1 := ⟨rfl, rfl⟩
        simp only [R.to_ok, R.to_bad, R.to_bind, R.bind_ok, R.to_ite, R.nox_ok, R.to_nox, RS.to_nx, RS.to_rt, RS.to_bk, RS.to_ct, RS.to_bad, RS.to_ite, RS.to_sE, sE_ok, w_seq, w_var, w_k, w_gk, w_tup, w_lst, w_lnil, w_lcons, w_bin, w_neg, w_cmp, w_cmpB, w_chain, w_chainB, w_and1, w_and2, w_or1, w_or2, w_andB1, w_andB2, w_orB1, w_orB2, w_not, w_notB, w_ite, w_ix, w_sl, w_no, w_yes, w_call, w_b1, w_bN, w_meth, w_lc, w_cno, w_cyes, w_iof, w_irng, w_ien, w_varB, w_callB, w_ixB, w_b1B, w_binB, w_slB, w_new, w_attr, w_isc, w_ret, w_retN, w_exp, w_asgn, w_asgt, w_par, w_par3, w_sub, w_if, w_for, w_mat, w_mcase, w_mels, w_mnil, w_pass, w_brk, w_cont, w_snil, w_s1, w_s2, box_d, box_l, o_add, o_sub, o_mul, o_fdiv, o_mod, o_pow, o_neg, o_lt, o_le, o_gt, o_ge, o_eqi, o_eqs, o_nei, o_nes, o_bl, tru_bl, tru_int, tru_non, o_intT, o_int, o_intb, o_max, asg_n, closed_p, List.set_cons_zero, List.set_cons_succ, List.getElem?_cons_zero, List.getElem?_cons_succ, List.map_cons, List.map_nil, List.cons_append, List.nil_append, List.length_cons, List.length_nil, List.replicate_succ, List.replicate_zero, Nat.reduceSub, Nat.reduceAdd, if_true, if_false, Bool.false_eq_true, ite_true, ite_false, reduceIte, List.append_nil, Nat.reduceEqDiff, decide_true, decide_false, Bool.and_true, Bool.true_and, Nat.reduceLeDiff, Bool.not_true, Bool.not_false, List.map_map, asg_n, asg_t, tupOf_p, tupOf_t, l8, e8, er]
        exact ⟨_, _, _, _, _, _, _, _, _, _, _, rfl⟩
  · refine ⟨rfl, ?_⟩
    simp only [R.to_ok, R.to_bad, R.to_bind, R.bind_ok, R.to_ite, R.nox_ok, R.to_nox, RS.to_nx, RS.to_rt, RS.to_bk, RS.to_ct, RS.to_bad, RS.to_ite, RS.to_sE, sE_ok, w_seq, w_var, w_k, w_gk, w_tup, w_lst, w_lnil, w_lcons, w_bin, w_neg, w_cmp, w_cmpB, w_chain, w_chainB, w_and1, w_and2, w_or1, w_or2, w_andB1, w_andB2, w_orB1, w_orB2, w_not, w_notB, w_ite, w_ix, w_sl, w_no, w_yes, w_call, w_b1, w_bN, w_meth, w_lc, w_cno, w_cyes, w_iof, w_irng, w_ien, w_varB, w_callB, w_ixB, w_b1B, w_binB, w_slB, w_new, w_attr, w_isc, w_ret, w_retN, w_exp, w_asgn, w_asgt, w_par, w_par3, w_sub, w_if, w_for, w_mat, w_mcase, w_mels, w_mnil, w_pass, w_brk, w_cont, w_snil, w_s1, w_s2, box_d, box_l, o_add, o_sub, o_mul, o_fdiv, o_mod, o_pow, o_neg, o_lt, o_le, o_gt, o_ge, o_eqi, o_eqs, o_nei, o_nes, o_bl, tru_bl, tru_int, tru_non, o_intT, o_int, o_intb, o_max, asg_n, closed_p, List.set_cons_zero, List.set_cons_succ, List.getElem?_cons_zero, List.getElem?_cons_succ, List.map_cons, List.map_nil, List.cons_append, List.nil_append, List.length_cons, List.length_nil, List.replicate_succ, List.replicate_zero, Nat.reduceSub, Nat.reduceAdd, if_true, if_false, Bool.false_eq_true, ite_true, ite_false, reduceIte, List.append_nil, Nat.reduceEqDiff, decide_true, decide_false, Bool.and_true, Bool.true_and, Nat.reduceLeDiff, Bool.not_true, Bool.not_false, List.map_map, asg_n, asg_t, tupOf_p, tupOf_t]
theorem law_holds (ns : List Int) (h63 : ns.length ≤ 63) (_ : ∀ z ∈ ns, Builtin.Int.intBits z ≤ 1048576) : ∃ st, callN defs tab 12 0 [.kl (ns.map Z.P.int)] [] = .ok (.d (.p (.bl true))) st := by
  obtain ⟨t, st, e, rfl⟩ := R.to_eq (law_to ns h63)
  exact ⟨st, e⟩
end K1
open PySem PySem.W PyProof.Rows in
set_option maxRecDepth 100000 in
set_option maxHeartbeats 0 in
theorem PySem.Challenge.cw_releaseweb_k01_error_classes_holds : PySem.Challenge.rw_releaseweb_k01_error_classes.Holds := by
  w_on; o_law; k_head; (case hw => w_witness2)
  k_fill
  refine Z.walk_ofZ (l := PySem.Challenge.rw_releaseweb_k01_error_classes) (n := 63) (k := 14) (x := "_law_script") (CA := K1.CAf) (G := Z.callN K1.defs K1.tab 12 0) rfl (by decide) rfl ⟨rfl, by decide, by decide⟩ (fun w h Y => PySem.W.kIn_of Y) ?F K1.law_holds
  case F =>
    intro w mg fa h KX G hmg
    refine' K1.all_mk KX G hmg ?a0 ?l0 ?c0 ?k0 ?a1 ?l1 ?c1 ?k1 ?a2 ?l2 ?c2 ?k2 ?a3 ?l3 ?c3 ?k3 ?a4 ?l4 ?c4 ?k4 ?a5 ?l5 ?c5 ?k5 ?a6 ?l6 ?c6 ?k6 ?a7 ?l7 ?c7 ?k7 ?a8 ?l8 ?c8 ?k8 ?ab_ReleaseError ?sb_ReleaseError ?rb_ReleaseError ?vb_ReleaseError ?nb_OverflowError ?nb_RuntimeError ?nb_ValueError ?vb_OverflowError ?vb_RuntimeError ?vb_ValueError ?A0 ?Q0 ?O0 ?H0 ?S0 ?KC0 ?I0 ?T0 ?L0 ?C_0 ?KG0 ?N0 ?GA0 ?GG0 ?EC0 ?IC0 ?CC0 ?MO0 ?A1 ?Q1 ?O1 ?H1 ?S1 ?KC1 ?I1 ?T1 ?L1 ?C_1 ?KG1 ?N1 ?GA1 ?GG1 ?EC1 ?IC1 ?CC1 ?MO1 ?A2 ?Q2 ?O2 ?H2 ?S2 ?KC2 ?I2 ?T2 ?L2 ?C_2 ?KG2 ?N2 ?GA2 ?GG2 ?EC2 ?IC2 ?CC2 ?MO2 ?A3 ?Q3 ?O3 ?H3 ?S3 ?KC3 ?I3 ?T3 ?L3 ?C_3 ?KG3 ?N3 ?GA3 ?GG3 ?EC3 ?IC3 ?CC3 ?MO3 ?A4 ?Q4 ?O4 ?H4 ?S4 ?KC4 ?I4 ?T4 ?L4 ?C_4 ?KG4 ?N4 ?GA4 ?GG4 ?EC4 ?IC4 ?CC4 ?MO4 ?A5 ?Q5 ?O5 ?H5 ?S5 ?KC5 ?I5 ?T5 ?L5 ?C_5 ?KG5 ?N5 ?GA5 ?GG5 ?EC5 ?IC5 ?CC5 ?MO5 ?A6 ?Q6 ?O6 ?H6 ?S6 ?KC6 ?I6 ?T6 ?L6 ?C_6 ?KG6 ?N6 ?GA6 ?GG6 ?EC6 ?IC6 ?CC6 ?MO6 ?A7 ?Q7 ?O7 ?H7 ?S7 ?KC7 ?I7 ?T7 ?L7 ?C_7 ?KG7 ?N7 ?GA7 ?GG7 ?EC7 ?IC7 ?CC7 ?MO7 ?A8 ?Q8 ?O8 ?H8 ?S8 ?KC8 ?I8 ?T8 ?L8 ?C_8 ?KG8 ?N8 ?GA8 ?GG8 ?EC8 ?IC8 ?CC8 ?MO8 ?A9 ?Q9 ?O9 ?H9 ?S9 ?KC9 ?I9 ?T9 ?L9 ?C_9 ?KG9 ?N9 ?GA9 ?GG9 ?EC9 ?IC9 ?CC9 ?MO9 ?A10 ?Q10 ?O10 ?H10 ?S10 ?KC10 ?I10 ?T10 ?L10 ?C_10 ?KG10 ?N10 ?GA10 ?GG10 ?EC10 ?IC10 ?CC10 ?MO10 ?A11 ?Q11 ?O11 ?H11 ?S11 ?KC11 ?I11 ?T11 ?L11 ?C_11 ?KG11 ?N11 ?GA11 ?GG11 ?EC11 ?IC11 ?CC11 ?MO11 ?Z0_0 ?Z0_1 ?Z0_2 ?Z0_3 ?Z0_4 ?Z0_5 ?Z0_6 ?Z0_7 ?Z0_8 ?Z0_9 ?Z0_10 ?Z0_11 ?Z0_12 ?Z0_13 ?Z0_14 ?Z0_15 ?Z1_0 ?Z1_1 ?Z1_2 ?Z1_3 ?Z1_4 ?Z1_5 ?Z1_6 ?Z1_7 ?Z1_8 ?Z1_9 ?Z1_10 ?Z1_11 ?Z1_12 ?Z1_13 ?Z1_14 ?Z1_15 ?Z2_0 ?Z2_1 ?Z2_2 ?Z2_3 ?Z2_4 ?Z2_5 ?Z2_6 ?Z2_7 ?Z2_8 ?Z2_9 ?Z2_10 ?Z2_11 ?Z2_12 ?Z2_13 ?Z2_14 ?Z2_15 ?Z3_0 ?Z3_1 ?Z3_2 ?Z3_3 ?Z3_4 ?Z3_5 ?Z3_6 ?Z3_7 ?Z3_8 ?Z3_9 ?Z3_10 ?Z3_11 ?Z3_12 ?Z3_13 ?Z3_14 ?Z3_15 ?Z4_0 ?Z4_1 ?Z4_2 ?Z4_3 ?Z4_4 ?Z4_5 ?Z4_6 ?Z4_7 ?Z4_8 ?Z4_9 ?Z4_10 ?Z4_11 ?Z4_12 ?Z4_13 ?Z4_14 ?Z4_15 ?Z5_0 ?Z5_1 ?Z5_2 ?Z5_3 ?Z5_4 ?Z5_5 ?Z5_6 ?Z5_7 ?Z5_8 ?Z5_9 ?Z5_10 ?Z5_11 ?Z5_12 ?Z5_13 ?Z5_14 ?Z5_15 ?Z6_0 ?Z6_1 ?Z6_2 ?Z6_3 ?Z6_4 ?Z6_5 ?Z6_6 ?Z6_7 ?Z6_8 ?Z6_9 ?Z6_10 ?Z6_11 ?Z6_12 ?Z6_13 ?Z6_14 ?Z6_15 ?Z7_0 ?Z7_1 ?Z7_2 ?Z7_3 ?Z7_4 ?Z7_5 ?Z7_6 ?Z7_7 ?Z7_8 ?Z7_9 ?Z7_10 ?Z7_11 ?Z7_12 ?Z7_13 ?Z7_14 ?Z7_15 ?Z8_0 ?Z8_1 ?Z8_2 ?Z8_3 ?Z8_4 ?Z8_5 ?Z8_6 ?Z8_7 ?Z8_8 ?Z8_9 ?Z8_10 ?Z8_11 ?Z8_12 ?Z8_13 ?Z8_14 ?Z8_15 ?Z9_0 ?Z9_1 ?Z9_2 ?Z9_3 ?Z9_4 ?Z9_5 ?Z9_6 ?Z9_7 ?Z9_8 ?Z9_9 ?Z9_10 ?Z9_11 ?Z9_12 ?Z9_13 ?Z9_14 ?Z9_15 ?Z10_0 ?Z10_1 ?Z10_2 ?Z10_3 ?Z10_4 ?Z10_5 ?Z10_6 ?Z10_7 ?Z10_8 ?Z10_9 ?Z10_10 ?Z10_11 ?Z10_12 ?Z10_13 ?Z10_14 ?Z10_15 ?Z11_0 ?Z11_1 ?Z11_2 ?Z11_3 ?Z11_4 ?Z11_5 ?Z11_6 ?Z11_7 ?Z11_8 ?Z11_9 ?Z11_10 ?Z11_11 ?Z11_12 ?Z11_13 ?Z11_14 ?Z11_15 ?TY ?EB ?IB ?TB ?SB ?SG ?TK ?n0 ?n1 ?n2 ?n3 ?n4 ?n5 ?n6
    (case a0 => k_is)
    (case l0 => k_is)
    (case c0 => k_is)
    (case k0 => k_is)
    (case a1 => k_is)
    (case l1 => k_is)
    (case c1 => k_is)
    (case k1 => k_is)
    (case a2 => k_is)
    (case l2 => k_is)
    (case c2 => k_is)
    (case k2 => k_is)
    (case a3 => k_is)
    (case l3 => k_is)
    (case c3 => k_is)
    (case k3 => k_is)
    (case a4 => k_is)
    (case l4 => k_is)
    (case c4 => k_is)
    (case k4 => k_is)
    (case a5 => k_is)
    (case l5 => k_is)
    (case c5 => k_is)
    (case k5 => k_is)
    (case a6 => k_is)
    (case l6 => k_is)
    (case c6 => k_is)
    (case k6 => k_is)
    (case a7 => k_is)
    (case l7 => k_is)
    (case c7 => k_is)
    (case k7 => k_is)
    (case a8 => k_is)
    (case l8 => k_is)
    (case c8 => k_is)
    (case k8 => k_is)
    (case ab_ReleaseError => k_is)
    (case sb_ReleaseError => k_is)
    (case rb_ReleaseError => k_is)
    (case vb_ReleaseError => k_is)
    (case nb_OverflowError => k_is)
    (case nb_RuntimeError => k_is)
    (case nb_ValueError => k_is)
    (case vb_OverflowError => k_is)
    (case vb_RuntimeError => k_is)
    (case vb_ValueError => k_is)
    (case A0 => k_is)
    (case Q0 => kx_is)
    (case O0 => kx_is)
    (case H0 => k_is)
    (case S0 => k_is)
    (case KC0 => k_is)
    (case I0 => k_is)
    (case T0 => k_is)
    (case L0 => k_is)
    (case C_0 => k_is)
    (case KG0 => k_is)
    (case N0 => k_is)
    (case GA0 => k_is)
    (case GG0 => k_is)
    (case EC0 => k_is)
    (case IC0 => k_is)
    (case CC0 => k_is)
    (case MO0 => k_is)
    (case A1 => k_is)
    (case Q1 => kx_is)
    (case O1 => kx_is)
    (case H1 => k_is)
    (case S1 => k_is)
    (case KC1 => k_is)
    (case I1 => k_is)
    (case T1 => k_is)
    (case L1 => k_is)
    (case C_1 => k_is)
    (case KG1 => k_is)
    (case N1 => k_is)
    (case GA1 => k_is)
    (case GG1 => k_is)
    (case EC1 => k_is)
    (case IC1 => k_is)
    (case CC1 => k_is)
    (case MO1 => k_is)
    (case A2 => k_is)
    (case Q2 => kx_is)
    (case O2 => kx_is)
    (case H2 => k_is)
    (case S2 => k_is)
    (case KC2 => k_is)
    (case I2 => k_is)
    (case T2 => k_is)
    (case L2 => k_is)
    (case C_2 => k_is)
    (case KG2 => k_is)
    (case N2 => k_is)
    (case GA2 => k_is)
    (case GG2 => k_is)
    (case EC2 => k_is)
    (case IC2 => k_is)
    (case CC2 => k_is)
    (case MO2 => k_is)
    (case A3 => k_is)
    (case Q3 => kx_is)
    (case O3 => kx_is)
    (case H3 => k_is)
    (case S3 => k_is)
    (case KC3 => k_is)
    (case I3 => k_is)
    (case T3 => k_is)
    (case L3 => k_is)
    (case C_3 => k_is)
    (case KG3 => k_is)
    (case N3 => k_is)
    (case GA3 => k_is)
    (case GG3 => k_is)
    (case EC3 => k_is)
    (case IC3 => k_is)
    (case CC3 => k_is)
    (case MO3 => k_is)
    (case A4 => k_is)
    (case Q4 => kx_is)
    (case O4 => kx_is)
    (case H4 => k_is)
    (case S4 => k_is)
    (case KC4 => k_is)
    (case I4 => k_is)
    (case T4 => k_is)
    (case L4 => k_is)
    (case C_4 => k_is)
    (case KG4 => k_is)
    (case N4 => k_is)
    (case GA4 => k_is)
    (case GG4 => k_is)
    (case EC4 => k_is)
    (case IC4 => k_is)
    (case CC4 => k_is)
    (case MO4 => k_is)
    (case A5 => k_is)
    (case Q5 => kx_is)
    (case O5 => kx_is)
    (case H5 => k_is)
    (case S5 => k_is)
    (case KC5 => k_is)
    (case I5 => k_is)
    (case T5 => k_is)
    (case L5 => k_is)
    (case C_5 => k_is)
    (case KG5 => k_is)
    (case N5 => k_is)
    (case GA5 => k_is)
    (case GG5 => k_is)
    (case EC5 => k_is)
    (case IC5 => k_is)
    (case CC5 => k_is)
    (case MO5 => k_is)
    (case A6 => k_is)
    (case Q6 => kx_is)
    (case O6 => kx_is)
    (case H6 => k_is)
    (case S6 => k_is)
    (case KC6 => k_is)
    (case I6 => k_is)
    (case T6 => k_is)
    (case L6 => k_is)
    (case C_6 => k_is)
    (case KG6 => k_is)
    (case N6 => k_is)
    (case GA6 => k_is)
    (case GG6 => k_is)
    (case EC6 => k_is)
    (case IC6 => k_is)
    (case CC6 => k_is)
    (case MO6 => k_is)
    (case A7 => k_is)
    (case Q7 => kx_is)
    (case O7 => kx_is)
    (case H7 => k_is)
    (case S7 => k_is)
    (case KC7 => k_is)
    (case I7 => k_is)
    (case T7 => k_is)
    (case L7 => k_is)
    (case C_7 => k_is)
    (case KG7 => k_is)
    (case N7 => k_is)
    (case GA7 => k_is)
    (case GG7 => k_is)
    (case EC7 => k_is)
    (case IC7 => k_is)
    (case CC7 => k_is)
    (case MO7 => k_is)
    (case A8 => k_is)
    (case Q8 => kx_is)
    (case O8 => kx_is)
    (case H8 => k_is)
    (case S8 => k_is)
    (case KC8 => k_is)
    (case I8 => k_is)
    (case T8 => k_is)
    (case L8 => k_is)
    (case C_8 => k_is)
    (case KG8 => k_is)
    (case N8 => k_is)
    (case GA8 => k_is)
    (case GG8 => k_is)
    (case EC8 => k_is)
    (case IC8 => k_is)
    (case CC8 => k_is)
    (case MO8 => k_is)
    (case A9 => k_is)
    (case Q9 => kx_is)
    (case O9 => kx_is)
    (case H9 => k_is)
    (case S9 => k_is)
    (case KC9 => k_is)
    (case I9 => k_is)
    (case T9 => k_is)
    (case L9 => k_is)
    (case C_9 => k_is)
    (case KG9 => k_is)
    (case N9 => k_is)
    (case GA9 => k_is)
    (case GG9 => k_is)
    (case EC9 => k_is)
    (case IC9 => k_is)
    (case CC9 => k_is)
    (case MO9 => k_is)
    (case A10 => k_is)
    (case Q10 => kx_is)
    (case O10 => kx_is)
    (case H10 => k_is)
    (case S10 => k_is)
    (case KC10 => k_is)
    (case I10 => k_is)
    (case T10 => k_is)
    (case L10 => k_is)
    (case C_10 => k_is)
    (case KG10 => k_is)
    (case N10 => k_is)
    (case GA10 => k_is)
    (case GG10 => k_is)
    (case EC10 => k_is)
    (case IC10 => k_is)
    (case CC10 => k_is)
    (case MO10 => k_is)
    (case A11 => k_is)
    (case Q11 => kx_is)
    (case O11 => kx_is)
    (case H11 => k_is)
    (case S11 => k_is)
    (case KC11 => k_is)
    (case I11 => k_is)
    (case T11 => k_is)
    (case L11 => k_is)
    (case C_11 => k_is)
    (case KG11 => k_is)
    (case N11 => k_is)
    (case GA11 => k_is)
    (case GG11 => k_is)
    (case EC11 => k_is)
    (case IC11 => k_is)
    (case CC11 => k_is)
    (case MO11 => k_is)
    (case Z0_0 => kit_is)
    (case Z0_1 => kit_is)
    (case Z0_2 => kit_is)
    (case Z0_3 => kit_is)
    (case Z0_4 => kit_is)
    (case Z0_5 => kit_is)
    (case Z0_6 => kit_is)
    (case Z0_7 => kit_is)
    (case Z0_8 => kit_is)
    (case Z0_9 => kit_is)
    (case Z0_10 => kit_is)
    (case Z0_11 => kit_is)
    (case Z0_12 => kit_is)
    (case Z0_13 => kit_is)
    (case Z0_14 => kit_is)
    (case Z0_15 => kit_is)
    (case Z1_0 => kit_is)
    (case Z1_1 => kit_is)
    (case Z1_2 => kit_is)
    (case Z1_3 => kit_is)
    (case Z1_4 => kit_is)
    (case Z1_5 => kit_is)
    (case Z1_6 => kit_is)
    (case Z1_7 => kit_is)
    (case Z1_8 => kit_is)
    (case Z1_9 => kit_is)
    (case Z1_10 => kit_is)
    (case Z1_11 => kit_is)
    (case Z1_12 => kit_is)
    (case Z1_13 => kit_is)
    (case Z1_14 => kit_is)
    (case Z1_15 => kit_is)
    (case Z2_0 => kit_is)
    (case Z2_1 => kit_is)
    (case Z2_2 => kit_is)
    (case Z2_3 => kit_is)
    (case Z2_4 => kit_is)
    (case Z2_5 => kit_is)
    (case Z2_6 => kit_is)
    (case Z2_7 => kit_is)
    (case Z2_8 => kit_is)
    (case Z2_9 => kit_is)
    (case Z2_10 => kit_is)
    (case Z2_11 => kit_is)
    (case Z2_12 => kit_is)
    (case Z2_13 => kit_is)
    (case Z2_14 => kit_is)
    (case Z2_15 => kit_is)
    (case Z3_0 => kit_is)
    (case Z3_1 => kit_is)
    (case Z3_2 => kit_is)
    (case Z3_3 => kit_is)
    (case Z3_4 => kit_is)
    (case Z3_5 => kit_is)
    (case Z3_6 => kit_is)
    (case Z3_7 => kit_is)
    (case Z3_8 => kit_is)
    (case Z3_9 => kit_is)
    (case Z3_10 => kit_is)
    (case Z3_11 => kit_is)
    (case Z3_12 => kit_is)
    (case Z3_13 => kit_is)
    (case Z3_14 => kit_is)
    (case Z3_15 => kit_is)
    (case Z4_0 => kit_is)
    (case Z4_1 => kit_is)
    (case Z4_2 => kit_is)
    (case Z4_3 => kit_is)
    (case Z4_4 => kit_is)
    (case Z4_5 => kit_is)
    (case Z4_6 => kit_is)
    (case Z4_7 => kit_is)
    (case Z4_8 => kit_is)
    (case Z4_9 => kit_is)
    (case Z4_10 => kit_is)
    (case Z4_11 => kit_is)
    (case Z4_12 => kit_is)
    (case Z4_13 => kit_is)
    (case Z4_14 => kit_is)
    (case Z4_15 => kit_is)
    (case Z5_0 => kit_is)
    (case Z5_1 => kit_is)
    (case Z5_2 => kit_is)
    (case Z5_3 => kit_is)
    (case Z5_4 => kit_is)
    (case Z5_5 => kit_is)
    (case Z5_6 => kit_is)
    (case Z5_7 => kit_is)
    (case Z5_8 => kit_is)
    (case Z5_9 => kit_is)
    (case Z5_10 => kit_is)
    (case Z5_11 => kit_is)
    (case Z5_12 => kit_is)
    (case Z5_13 => kit_is)
    (case Z5_14 => kit_is)
    (case Z5_15 => kit_is)
    (case Z6_0 => kit_is)
    (case Z6_1 => kit_is)
    (case Z6_2 => kit_is)
    (case Z6_3 => kit_is)
    (case Z6_4 => kit_is)
    (case Z6_5 => kit_is)
    (case Z6_6 => kit_is)
    (case Z6_7 => kit_is)
    (case Z6_8 => kit_is)
    (case Z6_9 => kit_is)
    (case Z6_10 => kit_is)
    (case Z6_11 => kit_is)
    (case Z6_12 => kit_is)
    (case Z6_13 => kit_is)
    (case Z6_14 => kit_is)
    (case Z6_15 => kit_is)
    (case Z7_0 => kit_is)
    (case Z7_1 => kit_is)
    (case Z7_2 => kit_is)
    (case Z7_3 => kit_is)
    (case Z7_4 => kit_is)
    (case Z7_5 => kit_is)
    (case Z7_6 => kit_is)
    (case Z7_7 => kit_is)
    (case Z7_8 => kit_is)
    (case Z7_9 => kit_is)
    (case Z7_10 => kit_is)
    (case Z7_11 => kit_is)
    (case Z7_12 => kit_is)
    (case Z7_13 => kit_is)
    (case Z7_14 => kit_is)
    (case Z7_15 => kit_is)
    (case Z8_0 => kit_is)
    (case Z8_1 => kit_is)
    (case Z8_2 => kit_is)
    (case Z8_3 => kit_is)
    (case Z8_4 => kit_is)
    (case Z8_5 => kit_is)
    (case Z8_6 => kit_is)
    (case Z8_7 => kit_is)
    (case Z8_8 => kit_is)
    (case Z8_9 => kit_is)
    (case Z8_10 => kit_is)
    (case Z8_11 => kit_is)
    (case Z8_12 => kit_is)
    (case Z8_13 => kit_is)
    (case Z8_14 => kit_is)
    (case Z8_15 => kit_is)
    (case Z9_0 => kit_is)
    (case Z9_1 => kit_is)
    (case Z9_2 => kit_is)
    (case Z9_3 => kit_is)
    (case Z9_4 => kit_is)
    (case Z9_5 => kit_is)
    (case Z9_6 => kit_is)
    (case Z9_7 => kit_is)
    (case Z9_8 => kit_is)
    (case Z9_9 => kit_is)
    (case Z9_10 => kit_is)
    (case Z9_11 => kit_is)
    (case Z9_12 => kit_is)
    (case Z9_13 => kit_is)
    (case Z9_14 => kit_is)
    (case Z9_15 => kit_is)
    (case Z10_0 => kit_is)
    (case Z10_1 => kit_is)
    (case Z10_2 => kit_is)
    (case Z10_3 => kit_is)
    (case Z10_4 => kit_is)
    (case Z10_5 => kit_is)
    (case Z10_6 => kit_is)
    (case Z10_7 => kit_is)
    (case Z10_8 => kit_is)
    (case Z10_9 => kit_is)
    (case Z10_10 => kit_is)
    (case Z10_11 => kit_is)
    (case Z10_12 => kit_is)
    (case Z10_13 => kit_is)
    (case Z10_14 => kit_is)
    (case Z10_15 => kit_is)
    (case Z11_0 => kit_is)
    (case Z11_1 => kit_is)
    (case Z11_2 => kit_is)
    (case Z11_3 => kit_is)
    (case Z11_4 => kit_is)
    (case Z11_5 => kit_is)
    (case Z11_6 => kit_is)
    (case Z11_7 => kit_is)
    (case Z11_8 => kit_is)
    (case Z11_9 => kit_is)
    (case Z11_10 => kit_is)
    (case Z11_11 => kit_is)
    (case Z11_12 => kit_is)
    (case Z11_13 => kit_is)
    (case Z11_14 => kit_is)
    (case Z11_15 => kit_is)
    (case TY => k_is)
    (case EB => k_is)
    (case IB => k_is)
    (case TB => k_is)
    (case SB => k_is)
    (case SG => k_is)
    (case TK => k_is)
    (case n0 => k_is)
    (case n1 => k_is)
    (case n2 => k_is)
    (case n3 => k_is)
    (case n4 => k_is)
    (case n5 => k_is)
    (case n6 => k_is)
