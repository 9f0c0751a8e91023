import PyProof.Rows.All
import Wide.All
import OpenK.AllK
import Wide.FinOn
import KE.KStateDown
import Lean
import HandS.ForMost
import HandS.Wide
import HandS.Gcd
import HandS.Zip
import HandS.Rev
import HandS.RevRange
import HandS.Conv
import HandS.IsInst
import HandS.TupAny
import HandS.TupMul
import HandS.Flow
import HandS.Style
import HandS.More
import HandS.Walk
import HandS.Defaults
import HandS.WordsExc
import HandS.Head0
import HandS.Head1
import HandS.Head2
import HandS.Head3
import HandS.HeadEnd
import HandS.HeadHook1
import HandS.HeadHook2
import HandS.List
import KE.KRevSl
import KE.GoesEnum
import HandS.Star
import HandS.HeadHook3
import HandS.HeadHook4
import PyProof.ReprLen
import PySem.Challenge.RW_allhelms_k20_whole_last_beats
set_option Elab.async false
set_option linter.all false
set_option maxRecDepth 100000
set_option maxHeartbeats 4000000
set_option autoImplicit false
namespace Pe
open PySem PySem.Spec PyProof.Rows L2

/-! ### values without addresses -/
inductive PV where
  | non | bl (b : Bool) | int (i : Int) | str (x : Str) | tup (xs : List PV) | ref (n : Nat)
  deriving Inhabited

/-- what the store holds: a list that may change, a list that is read alone -/
inductive Ob where
  | lst (xs : List PV) | ro (xs : List PV)
abbrev Store := List Ob
abbrev Env := List (Option PV)
inductive Res (α : Type) where
  | ok (a : α) (st : Store) | bad
def Res.bind {α β : Type} (r : Res α) (f : α → Store → Res β) : Res β := match r with
  | .ok a st => f a st
  | .bad => .bad
@[simp] theorem Res.bind_ok {α β : Type} (a : α) (st : Store) (f : α → Store → Res β) : (Res.ok a st).bind f = f a st := id rfl
@[simp] theorem Res.bind_bad {α β : Type} (f : α → Store → Res β) : (Res.bad : Res α).bind f = .bad := id rfl
abbrev Fn := List PV → Store → Res PV
abbrev Sm := Env → Store → Res PV
abbrev SmT := Env → Store → Res Bool
abbrev SmL := Env → Store → Res (List PV)
def listAt (st : Store) (n : Nat) : Option (List PV) := match st[n]? with
  | some (.lst xs) => some xs
  | some (.ro xs) => some xs
  | none => none

/-! ### the relation to the layer's values and heaps -/
section rel
variable (K : PySem.W.Frag) (μ : List Addr) (H : Hp)
mutual
inductive VR : V → PV → Prop
  | non : VR .non .non
  | bl (b : Bool) : VR (.bl b) (.bl b)
  | int (i : Int) : VR (.int i) (.int i)
  | str (x : Str) : VR (.str x) (.str x)
  | tup {a : Addr} {xs : List V} {ps : List PV} : SqT K H a xs → VRs xs ps → VR (.ref a) (.tup ps)
  | ref {n : Nat} {a : Addr} : μ[n]? = some a → VR (.ref a) (.ref n)
inductive VRs : List V → List PV → Prop
  | nil : VRs [] []
  | cons {v : V} {vs : List V} {p : PV} {ps : List PV} : VR v p → VRs vs ps → VRs (v :: vs) (p :: ps)
end
/-- a list that is read alone -/
def SqR (a : Addr) (xs : List V) : Prop := (∃ o, H a = some (.frz o (.lst xs))) ∨
  ∃ (o : Obj) (its : Array Value) (n : Nat), K.lookup a = some o ∧ o.cls = .type "list" ∧ o.dict = none ∧ o.data = .seq its n ∧ its.size ≤ sizeLine ∧ Vals xs its.toList
def OR (a : Addr) : Ob → Prop
  | .lst ps => ∃ xs, H a = some (.lst xs) ∧ VRs K μ H xs ps
  | .ro ps => ∃ xs, SqR K H a xs ∧ VRs K μ H xs ps
structure HR (st : Store) : Prop where
  len : μ.length = st.length
  at_ : ∀ (n : Nat) (o : Ob), st[n]? = some o → ∃ a, μ[n]? = some a ∧ OR K μ H a o
  inj : ∀ (n m : Nat) (a : Addr) (ps qs : List PV), st[n]? = some (.lst ps) → st[m]? = some (.lst qs) → μ[n]? = some a → μ[m]? = some a → n = m
structure LR (σ : L2.St) (ρ : Env) : Prop where
  len : σ.length = ρ.length
  at_ : ∀ (i : Nat) (p : PV), ρ[i]? = some (some p) → ∃ v, σ[i]? = some (some v) ∧ VR K μ H v p
end rel
/-- what stays -/
structure Le (μ : List Addr) (H : Hp) (μ' : List Addr) (H' : Hp) : Prop where
  map : ∀ (n : Nat) a, μ[n]? = some a → μ'[n]? = some a
  tup : ∀ b xs, H b = some (.tup xs) → H' b = some (.tup xs)
  frz : ∀ b o u, H b = some (.frz o u) → H' b = some (.frz o u)
variable {K : PySem.W.Frag} {μ μ' μ'' : List Addr} {H H' H'' : Hp} {st st' : Store} {σ : L2.St} {ρ : Env}
theorem Le.refl : Le μ H μ H := ⟨fun _ _ h => h, fun _ _ h => h, fun _ _ _ h => h⟩
theorem Le.trans (a : Le μ H μ' H') (b : Le μ' H' μ'' H'') : Le μ H μ'' H'' := ⟨fun n x h => b.map n x (a.map n x h), fun c x h => b.tup c x (a.tup c x h), fun c o u h => b.frz c o u (a.frz c o u h)⟩
theorem SqT.mono {a : Addr} {xs : List V} (l : Le μ H μ' H') (h : SqT K H a xs) : SqT K H' a xs := by
  rcases h with (h | ⟨o, h⟩) | h
  · exact .inl (.inl (l.tup _ _ h))
  · exact .inl (.inr ⟨o, l.frz _ _ _ h⟩)
  · exact .inr h
mutual
theorem VR.mono (l : Le μ H μ' H') : ∀ {v : V} {p : PV}, VR K μ H v p → VR K μ' H' v p
  | _, _, .non => .non
  | _, _, .bl b => .bl b
  | _, _, .int i => .int i
  | _, _, .str x => .str x
  | _, _, .tup h t => .tup (SqT.mono l h) (VRs.mono l t)
  | _, _, .ref h => .ref (l.map _ _ h)
theorem VRs.mono (l : Le μ H μ' H') : ∀ {vs : List V} {ps : List PV}, VRs K μ H vs ps → VRs K μ' H' vs ps
  | _, _, .nil => .nil
  | _, _, .cons h t => .cons (VR.mono l h) (VRs.mono l t)
end
theorem VRs.length : ∀ {vs : List V} {ps : List PV}, VRs K μ H vs ps → vs.length = ps.length
  | _, _, .nil => rfl
  | _, _, .cons _ t => congrArg Nat.succ (VRs.length t)
theorem VRs.append : ∀ {vs ws : List V} {ps qs : List PV}, VRs K μ H vs ps → VRs K μ H ws qs → VRs K μ H (vs ++ ws) (ps ++ qs)
  | _, _, _, _, .nil, s => s
  | _, _, _, _, .cons r t, s => .cons r (VRs.append t s)
theorem VRs.get : ∀ {vs : List V} {ps : List PV} {i : Nat} {p : PV}, VRs K μ H vs ps → ps[i]? = some p → ∃ v, vs[i]? = some v ∧ VR K μ H v p
  | _, _, _, _, .nil, e => by simp at e
  | _, _, 0, _, .cons r _, e => by simp at e; subst e; exact ⟨_, rfl, r⟩
  | _, _, i + 1, p, .cons _ t, e => by
    obtain ⟨v, h1, h2⟩ := VRs.get (i := i) (p := p) t (by simpa using e)
    exact ⟨v, by simpa using h1, h2⟩
theorem VRs.getV : ∀ {vs : List V} {ps : List PV} {i : Nat} {v : V}, VRs K μ H vs ps → vs[i]? = some v → ∃ p, ps[i]? = some p ∧ VR K μ H v p
  | _, _, _, _, .nil, e => by simp at e
  | _, _, 0, _, .cons r _, e => by simp at e; subst e; exact ⟨_, rfl, r⟩
  | _, _, i + 1, v, .cons _ t, e => by
    obtain ⟨p, h1, h2⟩ := VRs.getV (i := i) (v := v) t (by simpa using e)
    exact ⟨p, by simpa using h1, h2⟩
theorem VRs.set {v : V} {p : PV} (r : VR K μ H v p) : ∀ {vs : List V} {ps : List PV} (i : Nat), VRs K μ H vs ps → VRs K μ H (vs.set i v) (ps.set i p)
  | _, _, _, .nil => .nil
  | _, _, 0, .cons _ t => .cons r t
  | _, _, i + 1, .cons q t => .cons q (VRs.set r i t)
theorem VRs.take : ∀ {vs : List V} {ps : List PV} (n : Nat), VRs K μ H vs ps → VRs K μ H (vs.take n) (ps.take n)
  | _, _, 0, _ => .nil
  | _, _, _ + 1, .nil => .nil
  | _, _, n + 1, .cons r t => .cons r (VRs.take n t)
theorem VRs.drop : ∀ {vs : List V} {ps : List PV} (n : Nat), VRs K μ H vs ps → VRs K μ H (vs.drop n) (ps.drop n)
  | _, _, 0, r => r
  | _, _, _ + 1, .nil => .nil
  | _, _, n + 1, .cons _ t => VRs.drop n t
theorem VRs.dropLast {vs : List V} {ps : List PV} (h : VRs K μ H vs ps) : VRs K μ H vs.dropLast ps.dropLast := by
  rw [List.dropLast_eq_take, List.dropLast_eq_take, h.length]; exact h.take _
theorem VRs.replicate {vs : List V} {ps : List PV} (h : VRs K μ H vs ps) : ∀ (n : Nat), VRs K μ H (List.replicate n vs).flatten (List.replicate n ps).flatten
  | 0 => .nil
  | n + 1 => by rw [List.replicate_succ, List.replicate_succ, List.flatten_cons, List.flatten_cons]; exact h.append (VRs.replicate h n)
theorem LR.mono (l : Le μ H μ' H') (h : LR K μ H σ ρ) : LR K μ' H' σ ρ := ⟨h.len, fun i p e => let ⟨v, a, b⟩ := h.at_ i p e; ⟨v, a, b.mono l⟩⟩
theorem LR.set {v : V} {p : PV} (h : LR K μ H σ ρ) (r : VR K μ H v p) (i : Nat) : LR K μ H (σ.set i (some v)) (ρ.set i (some p)) := by
  refine ⟨by simpa using h.len, fun j q e => ?_⟩
  by_cases hj : i = j
  · subst hj
    have hl : i < ρ.length := by
      by_cases hl : i < ρ.length
      · exact hl
      · rw [List.getElem?_eq_none (by simpa using hl)] at e; cases e
    rw [List.getElem?_set_self hl] at e
    cases e
    exact ⟨v, by rw [List.getElem?_set_self (by rw [h.len]; exact hl)], r⟩
  · rw [List.getElem?_set_ne hj] at e
    rw [List.getElem?_set_ne hj]
    exact h.at_ j q e
theorem LR.wipe (h : LR K μ H σ ρ) : ∀ (vs : List Nat), LR K μ H (L2.wipe σ vs) (vs.foldr (fun v r => r.set v none) ρ)
  | [] => h
  | v :: vs => by
    have ih := LR.wipe h vs
    refine ⟨by show ((L2.wipe σ vs).set v none).length = _; simpa using ih.len, fun j q e => ?_⟩
    have e' : ((vs.foldr (fun v r => r.set v none) ρ).set v none)[j]? = some (some q) := e
    show ∃ x, ((L2.wipe σ vs).set v none)[j]? = some (some x) ∧ _
    by_cases hj : v = j
    · subst hj
      by_cases hl : v < (vs.foldr (fun v r => r.set v none) ρ).length
      · rw [List.getElem?_set_self hl] at e'; cases e'
      · rw [List.getElem?_eq_none (by simpa using hl)] at e'; cases e'
    · rw [List.getElem?_set_ne hj] at e'
      rw [List.getElem?_set_ne hj]
      exact ih.at_ j q e'
/-! ### stores that grow, change -/
theorem SqR.mono {a : Addr} {xs : List V} (l : Le μ H μ' H') (h : SqR K H a xs) : SqR K H' a xs := by
  rcases h with ⟨o, h⟩ | h
  · exact .inl ⟨o, l.frz _ _ _ h⟩
  · exact .inr h
theorem SqR.sq {a : Addr} {xs : List V} (h : SqR K H a xs) : SqL K H a xs := by
  rcases h with ⟨o, h⟩ | h
  · exact .inl (.inr ⟨o, h⟩)
  · exact .inr h
theorem Le.new {p : Addr} {o : HO} (h : H p = none) : Le μ H μ (upd H p o) :=
  ⟨fun _ _ h => h, fun b xs e => by rw [upd_ne (ne_of_none e h)]; exact e, fun b x u e => by rw [upd_ne (ne_of_none e h)]; exact e⟩
/-- a new object that is no list -/
theorem HR.new {p : Addr} {o : HO} (hr : HR K μ H st) (h : H p = none) : HR K μ (upd H p o) st := by
  refine ⟨hr.len, fun n ob e => ?_, hr.inj⟩
  obtain ⟨a, e1, e2⟩ := hr.at_ n ob e
  refine ⟨a, e1, ?_⟩
  have l : Le μ H μ (upd H p o) := Le.new h
  cases ob with
  | lst ps =>
    obtain ⟨xs, h1, h2⟩ := e2
    exact ⟨xs, by rw [upd_ne (ne_of_none h1 h)]; exact h1, h2.mono l⟩
  | ro ps =>
    obtain ⟨xs, h1, h2⟩ := e2
    exact ⟨xs, h1.mono l, h2.mono l⟩
theorem Le.newL {p : Addr} {o : HO} (h : H p = none) : Le μ H (μ ++ [p]) (upd H p o) := by
  have l : Le μ H μ (upd H p o) := Le.new h
  exact ⟨fun n a e => by rw [List.getElem?_append_left (by
    by_cases z : n < μ.length
    · exact z
    · rw [List.getElem?_eq_none (by simpa using z)] at e; cases e)]; exact e, l.tup, l.frz⟩
/-- a new list -/
theorem HR.newL {p : Addr} {xs : List V} {ps : List PV} (hr : HR K μ H st) (h : H p = none) (r : VRs K μ H xs ps) : HR K (μ ++ [p]) (upd H p (.lst xs)) (st ++ [.lst ps]) := by
  have l : Le μ H (μ ++ [p]) (upd H p (.lst xs)) := Le.newL h
  have hat : ∀ (n : Nat) (o : Ob), st[n]? = some o → ∃ a, (μ ++ [p])[n]? = some a ∧ OR K (μ ++ [p]) (upd H p (.lst xs)) a o := fun n ob e => by
    obtain ⟨a, e1, e2⟩ := hr.at_ n ob e
    refine ⟨a, l.map n a e1, ?_⟩
    cases ob with
    | lst qs =>
      obtain ⟨ys, h1, h2⟩ := e2
      exact ⟨ys, by rw [upd_ne (ne_of_none h1 h)]; exact h1, h2.mono l⟩
    | ro qs =>
      obtain ⟨ys, h1, h2⟩ := e2
      exact ⟨ys, h1.mono l, h2.mono l⟩
  have hp : (μ ++ [p])[st.length]? = some p := by rw [← hr.len]; simp
  have old : ∀ (n : Nat) (qs : List PV), st[n]? = some (.lst qs) → (μ ++ [p])[n]? ≠ some p := fun n qs e z => by
    obtain ⟨a, e1, ys, h1, _⟩ := hr.at_ n _ e
    rw [l.map n a e1] at z
    cases z
    rw [h] at h1; cases h1
  have cut : ∀ {n : Nat} {o : Ob}, (st ++ [Ob.lst ps])[n]? = some o → st[n]? = some o ∨ (n = st.length ∧ o = .lst ps) := fun {n o} e => by
    by_cases hn : n < st.length
    · rw [List.getElem?_append_left hn] at e; exact .inl e
    · rw [List.getElem?_append_right (by omega)] at e
      have : n - st.length = 0 := by
        cases z : n - st.length with
        | zero => rfl
        | succ k => rw [z] at e; simp at e
      rw [this] at e
      exact .inr ⟨by omega, by simpa using e.symm⟩
  refine ⟨by simp [hr.len], fun n ob e => ?_, fun n m a qs rs e1 e2 e3 e4 => ?_⟩
  · rcases cut e with e | ⟨rfl, rfl⟩
    · exact hat n ob e
    · exact ⟨p, hp, xs, upd_same, r.mono l⟩
  · rcases cut e1 with e1 | ⟨rfl, _⟩
    · rcases cut e2 with e2 | ⟨rfl, _⟩
      · obtain ⟨b, q1, _⟩ := hr.at_ n _ e1
        obtain ⟨c, q2, _⟩ := hr.at_ m _ e2
        rw [l.map n b q1] at e3; rw [l.map m c q2] at e4
        cases e3; cases e4
        exact hr.inj n m _ _ _ e1 e2 q1 q2
      · rw [hp] at e4; cases e4
        exact absurd e3 (old n _ e1)
    · rcases cut e2 with e2 | ⟨rfl, _⟩
      · rw [hp] at e3; cases e3
        exact absurd e4 (old m _ e2)
      · rfl
theorem Le.write {a : Addr} {xs ys : List V} (h : H a = some (.lst xs)) : Le μ H μ (upd H a (.lst ys)) :=
  ⟨fun _ _ h => h, fun b zs e => by rw [upd_ne (ne_of e h (by intro z; cases z))]; exact e, fun b o u e => by rw [upd_ne (ne_of e h (by intro z; cases z))]; exact e⟩
/-- a list is written -/
theorem HR.write {n : Nat} {a : Addr} {xs ys : List V} {ps qs : List PV} (hr : HR K μ H st) (hs : st[n]? = some (.lst ps)) (hm : μ[n]? = some a) (h : H a = some (.lst xs)) (r : VRs K μ H ys qs) : HR K μ (upd H a (.lst ys)) (st.set n (.lst qs)) := by
  have l : Le μ H μ (upd H a (.lst ys)) := Le.write h
  have hn : n < st.length := by
    by_cases z : n < st.length
    · exact z
    · rw [List.getElem?_eq_none (by simpa using z)] at hs; cases hs
  refine ⟨by simpa using hr.len, fun m ob e => ?_, fun i j b rs ss e1 e2 e3 e4 => ?_⟩
  · by_cases hmn : n = m
    · subst hmn
      rw [List.getElem?_set_self hn] at e
      cases e
      exact ⟨a, hm, ys, upd_same, r.mono l⟩
    · rw [List.getElem?_set_ne hmn] at e
      obtain ⟨b, q1, q2⟩ := hr.at_ m ob e
      refine ⟨b, q1, ?_⟩
      cases ob with
      | lst rs =>
        obtain ⟨zs, h1, h2⟩ := q2
        refine ⟨zs, ?_, h2.mono l⟩
        rw [upd_ne (fun z => by subst z; exact hmn (hr.inj n m _ _ _ hs e hm q1))]
        exact h1
      | ro rs =>
        obtain ⟨zs, h1, h2⟩ := q2
        exact ⟨zs, h1.mono l, h2.mono l⟩
  · have old : ∀ {i : Nat} {rs : List PV}, (st.set n (.lst qs))[i]? = some (.lst rs) → ∃ rs', st[i]? = some (.lst rs') := fun {i rs} e => by
      by_cases hi : n = i
      · subst hi; exact ⟨ps, hs⟩
      · rw [List.getElem?_set_ne hi] at e; exact ⟨rs, e⟩
    obtain ⟨r1, z1⟩ := old e1
    obtain ⟨r2, z2⟩ := old e2
    exact hr.inj i j b _ _ z1 z2 e3 e4
theorem HR.listAt {n : Nat} {ps : List PV} (hr : HR K μ H st) (h : listAt st n = some ps) : ∃ a xs, μ[n]? = some a ∧ SqL K H a xs ∧ VRs K μ H xs ps := by
  unfold Pe.listAt at h
  split at h
  · rename_i qs e
    cases h
    obtain ⟨a, e1, xs, e2, e3⟩ := hr.at_ n _ e
    exact ⟨a, xs, e1, .inl (.inl e2), e3⟩
  · rename_i qs e
    cases h
    obtain ⟨a, e1, xs, e2, e3⟩ := hr.at_ n _ e
    exact ⟨a, xs, e1, e2.sq, e3⟩
  · cases h

/-! ### a result is met -/
def Post (K : PySem.W.Frag) (μ : List Addr) (H : Hp) {α : Type} (r : Res α) (Q : List Addr → Hp → α → Store → Prop) : Prop := match r with
  | .ok a st' => ∀ μ' H', Le μ H μ' H' → HR K μ' H' st' → Q μ' H' a st'
  | .bad => False
theorem Post.imp {α : Type} {r : Res α} {Q Q' : List Addr → Hp → α → Store → Prop} (h : Post K μ H r Q) (f : ∀ μ' H' a st', Le μ H μ' H' → HR K μ' H' st' → Q μ' H' a st' → Q' μ' H' a st') : Post K μ H r Q' := by
  cases r with
  | ok a st' => exact fun μ' H' l hr => f μ' H' a st' l hr (h μ' H' l hr)
  | bad => exact h
theorem Post.bind {α β : Type} {r : Res α} {f : α → Store → Res β} {Q : List Addr → Hp → β → Store → Prop} (h : Post K μ H (r.bind f) Q) : Post K μ H r fun μ' H' a st' => Post K μ' H' (f a st') Q := by
  cases r with
  | ok a st' =>
    intro μ1 H1 l1 hr1
    have h2 : Post K μ H (f a st') Q := h
    cases e : f a st' with
    | ok b st2 =>
      rw [e] at h2
      exact fun μ2 H2 l2 hr2 => h2 μ2 H2 (l1.trans l2) hr2
    | bad => rw [e] at h2; exact h2
  | bad => exact h
theorem Post.bind_imp {α β : Type} {r : Res α} {f : α → Store → Res β} {Q : List Addr → Hp → β → Store → Prop} {Q' : List Addr → Hp → α → Store → Prop} (h : Post K μ H (r.bind f) Q)
    (g : ∀ μ' H' a st', Le μ H μ' H' → HR K μ' H' st' → Post K μ' H' (f a st') Q → Q' μ' H' a st') : Post K μ H r Q' := h.bind.imp g
theorem Post.le {α : Type} {r : Res α} {Q : List Addr → Hp → α → Store → Prop} (h : Post K μ H r Q) (l : Le μ H μ' H') : Post K μ' H' r Q := by
  cases r with
  | ok a st' => exact fun μ'' H'' l2 hr => h μ'' H'' (l.trans l2) hr
  | bad => exact h
/-- the wish for a value -/
def QV (K : PySem.W.Frag) (Q : VK) : List Addr → Hp → PV → Store → Prop := fun μ H p _ => ∀ v, VR K μ H v p → Q v H
/-- an expression's reading by its meaning -/
def rd (K : PySem.W.Frag) (f : Sm) : TE := fun σ H Q => ∃ μ ρ st, HR K μ H st ∧ LR K μ H σ ρ ∧ Post K μ H (f ρ st) (QV K Q)
def rdT (K : PySem.W.Frag) (f : SmT) : TT := fun σ H Q => ∃ μ ρ st, HR K μ H st ∧ LR K μ H σ ρ ∧ Post K μ H (f ρ st) (fun _ H' b _ => Q b H')
def rdL (K : PySem.W.Frag) (f : SmL) : TA := fun σ H Q => ∃ μ ρ st, HR K μ H st ∧ LR K μ H σ ρ ∧ Post K μ H (f ρ st) (fun μ' H' ps _ => ∀ vs, VRs K μ' H' vs ps → Q vs H')
/-- a def's promise by its meaning -/
def spF (K : PySem.W.Frag) (f : Fn) : Sp := fun vs H Q _ => ∃ μ ps st, HR K μ H st ∧ VRs K μ H vs ps ∧ Post K μ H (f ps st) (QV K Q)
/-- an operation on values -/
def rd2 (K : PySem.W.Frag) (g : PV → PV → Store → Res PV) : R2 := fun x y H Q => ∃ μ st p q, HR K μ H st ∧ VR K μ H x p ∧ VR K μ H y q ∧ Post K μ H (g p q st) (QV K Q)
def rd1 (K : PySem.W.Frag) (g : PV → Store → Res PV) : V → Hp → VK → Prop := fun x H Q => ∃ μ st p, HR K μ H st ∧ VR K μ H x p ∧ Post K μ H (g p st) (QV K Q)
def rdN (K : PySem.W.Frag) (g : List PV → Store → Res PV) : List V → Hp → VK → Prop := fun xs H Q => ∃ μ st ps, HR K μ H st ∧ VRs K μ H xs ps ∧ Post K μ H (g ps st) (QV K Q)

theorem PE.imp {X : Cx} {e : Expr} {t t' : TE} (h : PE X e t) (f : ∀ σ H Q, t' σ H Q → t σ H Q) : PE X e t' := ⟨fun pins s σ H Q I w => h.run pins s σ H Q I (f σ H Q w)⟩
theorem PT.imp {X : Cx} {e : Expr} {t t' : TT} (h : PT X e t) (f : ∀ σ H Q, t' σ H Q → t σ H Q) : PT X e t' := ⟨fun pins s σ H Q I w => h.run pins s σ H Q I (f σ H Q w)⟩
theorem PW.imp {X : Cx} {e : Expr} {t t' : TT} (h : PW X e t) (f : ∀ σ H Q, t' σ H Q → t σ H Q) : PW X e t' := ⟨fun wh pins s σ H Q I w => h.run wh pins s σ H Q I (f σ H Q w)⟩
theorem PA.imp {X : Cx} {es : List Expr} {t t' : TA} (h : PA X es t) (f : ∀ σ H Q, t' σ H Q → t σ H Q) : PA X es t' := ⟨fun pos pins s σ H Q I w => h.run pos pins s σ H Q I (f σ H Q w)⟩
theorem PS.imp {X : Cx} {st : Stmt} {t t' : TS} (h : PS X st t) (f : ∀ D σ H, t' D σ H → t D σ H) : PS X st t' := ⟨fun pins s σ H D I w => h.run pins s σ H D I (f D σ H w)⟩
theorem PSs.imp {X : Cx} {sts : List Stmt} {t t' : TS} (h : PSs X sts t) (f : ∀ D σ H, t' D σ H → t D σ H) : PSs X sts t' := ⟨fun pins s σ H D I w => h.run pins s σ H D I (f D σ H w)⟩

/-! ### expressions -/
def xLoc (i : Nat) : Sm := fun ρ st => match ρ[i]? with
  | some (some p) => .ok p st
  | _ => .bad
def xC (p : PV) : Sm := fun _ st => .ok p st
def xBin (g : PV → PV → Store → Res PV) (fa fb : Sm) : Sm := fun ρ st => (fa ρ st).bind fun p st1 => (fb ρ st1).bind fun q st2 => g p q st2
def xUn (g : PV → Store → Res PV) (fa : Sm) : Sm := fun ρ st => (fa ρ st).bind g
def xNil : SmL := fun _ st => .ok [] st
def xCons (fa : Sm) (fr : SmL) : SmL := fun ρ st => (fa ρ st).bind fun p st1 => (fr ρ st1).bind fun ps st2 => .ok (p :: ps) st2
def xCall (f : Fn) (fl : SmL) : Sm := fun ρ st => (fl ρ st).bind f

section
variable {X : Cx}
theorem rd_loc {i : Nat} {Q : VK} (h : rd K (xLoc i) σ H Q) : tVar i σ H Q := by
  obtain ⟨μ, ρ, st, hr, lr, p⟩ := h
  unfold xLoc at p
  split at p
  · rename_i q e
    obtain ⟨v, e1, e2⟩ := lr.at_ i q e
    exact ⟨v, e1, p μ H .refl hr v e2⟩
  · exact p.elim
theorem rd_c {v : V} {p : PV} {Q : VK} (hv : ∀ μ H, VR K μ H v p) (h : rd K (xC p) σ H Q) : tC v σ H Q := by
  obtain ⟨μ, ρ, st, hr, lr, q⟩ := h
  exact q μ H .refl hr v (hv _ _)
theorem rd_bin {g : PV → PV → Store → Res PV} {fa fb : Sm} {Q : VK} (h : rd K (xBin g fa fb) σ H Q) : tOp (rd2 K g) (rd K fa) (rd K fb) σ H Q := by
  obtain ⟨μ, ρ, st, hr, lr, q⟩ := h
  refine ⟨μ, ρ, st, hr, lr, q.bind_imp fun μ1 H1 p st1 l1 hr1 q1 x hx => ?_⟩
  refine ⟨μ1, ρ, st1, hr1, lr.mono l1, q1.bind_imp fun μ2 H2 p2 st2 l2 hr2 q2 y hy => ?_⟩
  exact ⟨μ2, st2, p, p2, hr2, hx.mono l2, hy, q2⟩
theorem rd_un {g : PV → Store → Res PV} {fa : Sm} {Q : VK} (h : rd K (xUn g fa) σ H Q) : tUn (rd1 K g) (rd K fa) σ H Q := by
  obtain ⟨μ, ρ, st, hr, lr, q⟩ := h
  refine ⟨μ, ρ, st, hr, lr, q.bind_imp fun μ1 H1 p st1 l1 hr1 q1 x hx => ?_⟩
  exact ⟨μ1, st1, p, hr1, hx, q1⟩
theorem pe_loc {i : Nat} {x : Str} {pos : Pos} (hN : X.N[i]? = some x) (hv : Vis X.env.scope x) (hd : (x == ("__debug__" : Str)) = false) (hcd : (x == ("__classdict__" : Str)) = false) : PE X (.Name x pos) (rd X.K (xLoc i)) :=
  PE.imp (pe_var hN hv hd hcd) fun _ _ _ => rd_loc
theorem pe_bin {op : Operator} {a b : Expr} {pos : Pos} {g : PV → PV → Store → Res PV} {fa fb : Sm} (ho : OpR X (binaryOp op) (rd2 X.K g)) (ha : PE X a (rd X.K fa)) (hb : PE X b (rd X.K fb)) : PE X (.BinOp a op b pos) (rd X.K (xBin g fa fb)) :=
  PE.imp (pe_op ho ha hb) fun _ _ _ => rd_bin
theorem pe_un_ {op : UnaryOp} {a : Expr} {pos : Pos} {g : PV → Store → Res PV} {fa : Sm} (ho : UnR X (unaryOp op) (rd1 X.K g)) (ha : PE X a (rd X.K fa)) : PE X (.UnaryOp op a pos) (rd X.K (xUn g fa)) :=
  PE.imp (pe_un ho ha) fun _ _ _ => rd_un
theorem pa_nil_ : PA X [] (rdL X.K xNil) := PA.imp pa_nil fun σ H Q h => by
  obtain ⟨μ, ρ, st, hr, lr, q⟩ := h
  exact q μ H .refl hr [] .nil
theorem pa_cons_ {e : Expr} {es : List Expr} {fa : Sm} {fr : SmL} (ha : PE X e (rd X.K fa)) (hr : PA X es (rdL X.K fr)) (hs : starEach (e :: es) X.env = (false, eval e X.env) :: starEach es X.env) : PA X (e :: es) (rdL X.K (xCons fa fr)) :=
  PA.imp (pa_cons ha hr hs) fun σ H Q h => by
    obtain ⟨μ, ρ, st, hr, lr, q⟩ := h
    refine ⟨μ, ρ, st, hr, lr, q.bind_imp fun μ1 H1 p st1 l1 hr1 q1 x hx => ?_⟩
    refine ⟨μ1, ρ, st1, hr1, lr.mono l1, q1.bind_imp fun μ2 H2 ps st2 l2 hr2 q2 xs hxs => ?_⟩
    exact q2 μ2 H2 .refl hr2 (x :: xs) (.cons (hx.mono l2) hxs)
theorem rd_call {f : Fn} {fl : SmL} {E : XK} {Q : VK} (h : rd K (xCall f fl) σ H Q) : tCall (spF K f) [] E (rdL K fl) σ H Q := by
  obtain ⟨μ, ρ, st, hr, lr, q⟩ := h
  refine ⟨μ, ρ, st, hr, lr, q.bind_imp fun μ1 H1 ps st1 l1 hr1 q1 vs hvs => ?_⟩
  show spF K f (vs ++ []) H1 Q E
  rw [List.append_nil]
  exact ⟨μ1, ps, st1, hr1, hvs, q1⟩
theorem rd_callB {f : Fn} {fl : SmL} {Q : VK} (h : rd K (xCall f fl) σ H Q) : tCB (rdN K f) (rdL K fl) σ H Q := by
  obtain ⟨μ, ρ, st, hr, lr, q⟩ := h
  refine ⟨μ, ρ, st, hr, lr, q.bind_imp fun μ1 H1 ps st1 l1 hr1 q1 vs hvs => ?_⟩
  exact ⟨μ1, st1, ps, hr1, hvs, q1⟩
end
end Pe
namespace Pe
open PySem PySem.Spec PyProof.Rows L2
/-! ### a tuple times 1, times 0 -/
theorem mul_self (l : Addr) (items : Array Value) (n : Nat) (dd : Option Addr) (sl : Array (Option Value)) (x : Int) (u : Tok) (small : (decide (x < -(2 ^ 63)) || decide (x ≥ 2 ^ 63)) = false) (one : (items.isEmpty || x == 1) = true) :
    Meets (Builtin.«tuple.__mul__» ⟨[.ref l, .int x u], []⟩) (fun _ R s => s.heap.get? l = some { cls := .type "tuple", dict := dd, data := .seq items n, slots := sl } ∧ R (.ok (.ret (Value.ref l))) s) :=
  .of_wp fun prog w A R s h => by
    obtain ⟨hp, g, d, tk, os⟩ := s
    obtain ⟨hl, h⟩ := h
    have f1 := AutoSeq1.idx_int
    wp_walk using wpAny_loadPart' hl
    repeat (first
      | (refine wpAny_ite_false (decide_eq_false (by rw [small]; exact Bool.false_ne_true)) ?_; wp_walk using wpAny_loadPart' hl)
      | (refine wpAny_ite_true (decide_eq_true (by rw [one])) ?_; wp_walk using wpAny_loadPart' hl))
    exact ⟨_, rfl, h⟩
theorem mul_none (l : Addr) (items : Array Value) (n : Nat) (dd : Option Addr) (sl : Array (Option Value)) (x : Int) (u : Tok) (small : (decide (x < -(2 ^ 63)) || decide (x ≥ 2 ^ 63)) = false) (one : (items.isEmpty || x == 1) = false) (low : (decide (x ≤ 0) || items.isEmpty) = true) :
    Meets (Builtin.«tuple.__mul__» ⟨[.ref l, .int x u], []⟩) (fun _ R s => s.heap.get? l = some { cls := .type "tuple", dict := dd, data := .seq items n, slots := sl } ∧
      R (.ok (.ret (Value.ref s.heap.objs.size))) { s with heap := s.heap.push { cls := Value.type "tuple", data := Data.seq #[] }, toks := s.toks }) :=
  .of_wp fun prog w A R s h => by
    obtain ⟨hp, g, d, tk, os⟩ := s
    obtain ⟨hl, h⟩ := h
    have f1 := AutoSeq1.idx_int
    wp_walk using wpAny_loadPart' hl
    repeat (first
      | (refine wpAny_ite_false (decide_eq_false (by rw [small]; exact Bool.false_ne_true)) ?_; wp_walk using wpAny_loadPart' hl)
      | (refine wpAny_ite_false (decide_eq_false (by rw [one]; exact Bool.false_ne_true)) ?_; wp_walk using wpAny_loadPart' hl)
      | (refine wpAny_ite_true (decide_eq_true (by rw [low])) ?_; wp_walk using wpAny_loadPart' hl))
    exact ⟨_, rfl, h⟩
section
variable {X : Cx}
theorem op_rep1 : OpR X (binaryOp .Mult) (fun x y H Q => ∃ l k xs, x = .ref l ∧ y = .int k ∧ SqT X.K H l xs ∧ (k = 1 ∨ xs = []) ∧ -4611686018427387904 ≤ k ∧ k < 4611686018427387904 ∧ Q (.ref l) H) := by
  intro pins s σ H x y v u Q I rx ry h
  obtain ⟨l, k, xs, rfl, rfl, hT, hk, k1, k2, q⟩ := h
  cases rx
  obtain ⟨t, rfl⟩ := ry
  obtain ⟨its, r, tup, hs⟩ := I.tuple hT
  obtain ⟨⟨cls, dd, data, sl⟩, ho, hc, n, hd⟩ := tup
  simp only at hc hd
  subst hc hd
  have small : (decide (k < -(2 ^ 63)) || decide (k ≥ 2 ^ 63)) = false := by
    rw [Bool.or_eq_false_iff]
    exact ⟨decide_eq_false (by omega), decide_eq_false (by omega)⟩
  have one : (its.toArray.isEmpty || k == 1) = true := by
    rcases hk with rfl | rfl
    · simp
    · cases r
      rfl
  refine wpAny_binaryOp_repeat_ref (T := "tuple") (U := "int") (by decide) ⟨_, ho, rfl⟩ (fun s' => typeIs_int s' k t) noFill_tuple_mul PySem.F.fills_int_mul PySem.F.slot_int_rmul repeat_tuple
    PySem.F.slot_int_index.lookup (call_meets PySem.F.slot_int_rmul (typeIs_int s k t) PySem.F.entry_int_rmul (PySem.F.args_int_rmul_2 _ _)
      (int_rmul_tuple k t l its.toArray n dd sl) ⟨ho, rfl, ⟨_, ho, rfl⟩,
        call_meets PySem.F.slot_tuple_mul ⟨_, ho, rfl⟩ PySem.F.entry_tuple_mul (PySem.F.args_tuple_mul_2 _ _) (mul_self l its.toArray n dd sl k t small one) ⟨ho, ?_⟩⟩)
  exact ⟨.ref l, H, I, rfl, q⟩
theorem op_rep0 : OpR X (binaryOp .Mult) (fun x y H Q => ∃ l xs, x = .ref l ∧ y = .int 0 ∧ SqT X.K H l xs ∧ xs ≠ [] ∧ ∀ p, H p = none → Q (.ref p) (upd H p (.tup []))) := by
  intro pins s σ H x y v u Q I rx ry h
  obtain ⟨l, xs, rfl, rfl, hT, hne, q⟩ := h
  cases rx
  obtain ⟨t, rfl⟩ := ry
  obtain ⟨its, r, tup, hs⟩ := I.tuple hT
  obtain ⟨⟨cls, dd, data, sl⟩, ho, hc, n, hd⟩ := tup
  simp only at hc hd
  subst hc hd
  have one : (its.toArray.isEmpty || (0 : Int) == 1) = false := by
    cases r with
    | nil => exact absurd rfl hne
    | cons a b => rfl
  refine wpAny_binaryOp_repeat_ref (T := "tuple") (U := "int") (by decide) ⟨_, ho, rfl⟩ (fun s' => typeIs_int s' 0 t) noFill_tuple_mul PySem.F.fills_int_mul PySem.F.slot_int_rmul repeat_tuple
    PySem.F.slot_int_index.lookup (call_meets PySem.F.slot_int_rmul (typeIs_int s 0 t) PySem.F.entry_int_rmul (PySem.F.args_int_rmul_2 _ _)
      (int_rmul_tuple 0 t l its.toArray n dd sl) ⟨ho, rfl, ⟨_, ho, rfl⟩,
        call_meets PySem.F.slot_tuple_mul ⟨_, ho, rfl⟩ PySem.F.entry_tuple_mul (PySem.F.args_tuple_mul_2 _ _) (mul_none l its.toArray n dd sl 0 t rfl one rfl) ⟨ho, ?_⟩⟩)
  exact ⟨.ref s.heap.objs.size, _, I.laid (t' := s.toks) (o := .tup []) (fun b ob z => Heap.get?_push_of_some _ z) (Nat.le_refl _) ⟨Nat.zero_le _, [], .nil, IsTup.new _ _⟩, rfl, q _ (I.hok.fresh (Nat.le_refl _))⟩
end
end Pe
namespace Pe
open PySem PySem.Spec PyProof.Rows L2 HT
/-! ### t[::-1], t a tuple -/
section
variable {prog : Program} {w : World} {A : Around} {E : Value → Shared → Prop} {s : Shared}
theorem adjust_rev (n : Nat) : Builtin.Slice.sliceAdjust none none (-1) (n : Int) = ((n : Int) - 1, -1) := rfl
theorem places_rev (n : Nat) : Builtin.Slice.slicePlaces ((n : Int) - 1) (-1) (-1) = n := by
  unfold Builtin.Slice.slicePlaces
  have h1 : ¬ (-1 : Int) > 0 := by omega
  rw [if_neg h1, show (- -1 : Int) = 1 by decide, Int.ediv_one]
  split <;> omega
theorem fm_congr {α β : Type} {f g : α → Option β} : ∀ {l : List α}, (∀ k ∈ l, f k = g k) → l.filterMap f = l.filterMap g
  | [], _ => rfl
  | k :: l, h => by
    rw [List.filterMap_cons, List.filterMap_cons, h k List.mem_cons_self, fm_congr fun q hq => h q (List.mem_cons_of_mem _ hq)]
theorem rev_pick (xs : Array Value) : ((List.range xs.size).filterMap fun (k : Nat) => xs[(((xs.size : Nat) : Int) - 1 + (k : Int) * -1).toNat]?).toArray = xs.toList.reverse.toArray := by
  congr 1
  rw [← PySem.W.krv_all xs, ← List.filterMap_reverse, ← PySem.W.krv_range, List.filterMap_map]
  refine fm_congr fun k hk => ?_
  have := List.mem_range.mp hk
  show _ = xs[xs.size - 1 - k]?
  rw [show (((xs.size : Nat) : Int) - 1 + (k : Int) * -1).toNat = xs.size - 1 - k by omega]
theorem sliceApplied_rev {sl : Addr} {vl vu vs : Value} {n : Nat} {Q : Int × Int × Nat → Shared → Prop} (hs : s.heap.IsSliceOf sl vl vu vs) (pl : IsPart vl none) (pu : IsPart vu none) (ps : IsPart vs (some (-1)))
    (h : Q ((n : Int) - 1, -1, n) s) : wpAny (model prog w) A (Builtin.Slice.sliceApplied (.ref sl) (pure (n : Int))) Q E s := by
  obtain ⟨os, hos, hcs, hds⟩ := id hs
  unfold Builtin.Slice.sliceApplied Builtin.Slice.sliceFields
  refine wpAny_bind (wpAny_bind (wpAny_field hos hds (x := vl) rfl (wpAny_bind (wpAny_field hos hds (x := vu) rfl (wpAny_bind (wpAny_field hos hds (x := vs) rfl (wpAny_pure ?_)))))))
  refine wpAny_bind (slicePart_ ps ?_)
  show wpAny _ _ (if ((-1 : Int) == 0) = true then _ else _) _ _ s
  rw [if_neg (by decide)]
  refine wpAny_bind (slicePart_ pl (wpAny_bind (slicePart_ pu (wpAny_bind (wpAny_pure ?_)))))
  show wpAny _ _ (match Builtin.Slice.sliceAdjust none none (-1) (n : Int) with | (lo, hi) => pure (lo, (-1 : Int), Builtin.Slice.slicePlaces lo hi (-1))) _ _ s
  rw [adjust_rev n]
  show wpAny _ _ (pure ((n : Int) - 1, (-1 : Int), Builtin.Slice.slicePlaces ((n : Int) - 1) (-1) (-1))) _ _ s
  rw [places_rev]
  exact wpAny_pure h
theorem getItem_tuple_rev {t sl : Addr} {items : Array Value} {vl vu vs : Value} {Q : Value → Shared → Prop} (ht : IsTup s.heap t items) (hs : s.heap.IsSliceOf sl vl vu vs) (pl : IsPart vl none) (pu : IsPart vu none) (ps : IsPart vs (some (-1)))
    (h : Q (.ref s.heap.objs.size) { s with heap := s.heap.push { cls := .type "tuple", data := .seq items.toList.reverse.toArray } })
    (hsz : items.size ≤ sizeLine) : wpAny (model prog w) A (getItem (.ref t) (.ref sl)) Q E s := by
  have htake : sizeOk (.seq items.toList.reverse.toArray) := by
    show items.toList.reverse.toArray.size ≤ sizeLine
    rw [List.size_toArray, List.length_reverse, Array.length_toList]
    exact hsz
  obtain ⟨os, hos, hcs, hds⟩ := id hs
  have hTs : s.TypeIs (.ref sl) "slice" := ⟨os, hos, hcs⟩
  unfold getItem
  try with_reducible refine wpAny_holding ?_
  first | refine wpAny_bind (wpAny_pure ?_) | skip
  refine wpAny_bind (wpAny_sequenceKey ht.typeIs (by decide) ?_)
  refine wpAny_bind (wpAny_callSpecial?_slot (name := Str.ofString "__getitem__") ht.typeIs PyProof.Rows.slot_tuple_getitem
    (wpAny_call_entry PyProof.Rows.slot_tuple_getitem ht.typeIs entry_tuple_getitem ?_ (args_tuple_getitem _ _)))
  show wpAny _ _ (Builtin.Tuple.tupleItemsOf (.ref t) >>= _) _ _ s
  refine wpAny_bind (tupleItemsOf_ ht ?_)
  refine wpAny_bind (wpAny_typeOf hTs ?_)
  rw [if_pos (by decide)]
  refine wpAny_bind (sliceApplied_rev hs pl pu ps ?_)
  have hno : ¬ ((((items.size : Int) - 1) == 0 && (-1 : Int) == 1 && items.size == items.size) = true) := by
    intro q
    rw [Bool.and_eq_true, Bool.and_eq_true] at q
    exact absurd (eq_of_beq q.1.2) (by decide)
  show wpAny _ _ (if (((items.size : Int) - 1) == 0 && (-1 : Int) == 1 && items.size == items.size) = true then _ else _) _ _ s
  rw [if_neg hno, rev_pick]
  first
    | exact wpAny_bind (m := Builtin.Tuple.tupleExact _) (wpAny_newObj_type (wpAny_pure ⟨_, rfl, wpAny_pure h⟩) htake)
    | exact wpAny_bind (m := Builtin.Tuple.tupleExact _) (wpAny_newObj_type (wpAny_bind (wpAny_pure (wpAny_pure ⟨_, rfl, wpAny_pure h⟩))) htake)
    | exact wpAny_bind (wpAny_bind (m := Builtin.Tuple.tupleExact _) (wpAny_newObj_type (wpAny_pure (wpAny_pure ⟨_, rfl, wpAny_pure h⟩)) htake))
    | exact wpAny_bind (wpAny_bind (m := Builtin.Tuple.tupleExact _) (wpAny_newObj_type (wpAny_pure ⟨_, rfl, wpAny_pure h⟩) htake))
end
section
variable {X : Cx}
/-- x[::-1], x a list or a tuple -/
def tRevA (K : PySem.W.Frag) (te : TE) : TE := fun σ H Q => te σ H fun x H1 => ∃ a xs, x = .ref a ∧ ((SqL K H1 a xs ∧ ∀ p, H1 p = none → Q (.ref p) (upd H1 p (.lst xs.reverse))) ∨ (SqT K H1 a xs ∧ ∀ p, H1 p = none → Q (.ref p) (upd H1 p (.tup xs.reverse))))
theorem pe_revA {e : Expr} {te : TE} {k : Nat} {p1 p2 p3 pos : Pos} (he : PE X e te) : PE X (.Subscript e (.Slice none none (some (.UnaryOp .USub (.Constant (.int 1) k p1) p2)) p3) pos) (tRevA X.K te) := by
  refine ⟨fun pins s σ H Q I h => ?_⟩
  refine Subscript_ (thn (he.run pins s σ H _ I h) fun v s1 ⟨x, H1, I1, r1, q1⟩ => ?_)
  obtain ⟨a, xs, ex, q⟩ := q1
  subst ex
  cases r1
  have hst : PO X (some (.UnaryOp .USub (.Constant (.int 1) k p1) p2)) (tPart (tUn (rU fun i => .int (-i)) (tC (.int 1)))) := po_some (pe_un un_neg pe_int)
  refine wpAny_Slice (thn (po_none.run pins s1 σ H1 (fun o H2 => o = none ∧ H2 = H1) I1 ⟨rfl, rfl⟩) fun vl s2 ⟨l, H2, I2, pl, el, e2⟩ => ?_)
  subst el e2
  refine thn (po_none.run pins s2 σ H2 (fun o H3 => o = none ∧ H3 = H2) I2 ⟨rfl, rfl⟩) fun vu s3 ⟨u, H3, I3, pu, eu, e3⟩ => ?_
  subst eu e3
  refine thn (hst.run pins s3 σ H3 (fun o H4 => o = some (-1) ∧ H4 = H3) I3 ⟨1, rfl, -1, rfl, rfl, rfl⟩) fun vs s4 ⟨o, H4, I4, ps, eo, e4⟩ => ?_
  subst eo e4
  have I5 : Inv X pins σ H4 { s4 with heap := s4.heap.push { cls := .type "slice", data := .fields #[vl, vu, vs] } } := I4.kept (t' := s4.toks) fun b ob q => Heap.get?_push_of_some _ q
  rcases q with ⟨hx, q⟩ | ⟨hx, q⟩
  · obtain ⟨its, r, ht, hz⟩ := I5.list hx
    have hlen := r.length
    show wpAny (model X.prog X.w) X.A (subscriptTail e (.Slice none none (some (.UnaryOp .USub (.Constant (.int 1) k p1) p2)) p3) (.ref a) (.ref s4.heap.objs.size)) (EP X pins σ Q) X.xe { s4 with heap := s4.heap.push { cls := .type "slice", data := .fields #[vl, vu, vs] } }
    refine tail_any (ops := [.ref a, .ref s4.heap.objs.size]) ht.isList.typeIs (PySem.slot_list_getitem.lookup) ?_ (by with_unfolding_all rfl)
    refine wpAny_getItem_list_slice ht.isList (Heap.IsSliceOf.new _ vl vu vs) pl pu ps (by decide) ?_ (by rw [List.size_toArray]; omega)
    rw [PySem.W.krv_pick]
    refine ⟨.ref _, _, I5.laid (t' := s4.toks) (o := .lst xs.reverse) (fun b ob q => Heap.get?_push_of_some _ q) (Nat.le_refl _) ?_, rfl, q _ (I5.hok.fresh (Nat.le_refl _))⟩
    exact ⟨by rw [List.length_reverse]; exact hz, _, 0, r.reverse, Heap.get?_push_size _ rfl⟩
  · obtain ⟨its, r, ht, hz⟩ := I5.tuple hx
    have hlen := r.length
    show wpAny (model X.prog X.w) X.A (subscriptTail e (.Slice none none (some (.UnaryOp .USub (.Constant (.int 1) k p1) p2)) p3) (.ref a) (.ref s4.heap.objs.size)) (EP X pins σ Q) X.xe { s4 with heap := s4.heap.push { cls := .type "slice", data := .fields #[vl, vu, vs] } }
    refine tail_any (ops := [.ref a, .ref s4.heap.objs.size]) ht.typeIs (PyProof.Rows.slot_tuple_getitem.lookup) ?_ (by with_unfolding_all rfl)
    refine getItem_tuple_rev ht (Heap.IsSliceOf.new _ vl vu vs) pl pu ps ?_ (by rw [List.size_toArray]; omega)
    refine ⟨.ref _, _, I5.laid (t' := s4.toks) (o := .tup xs.reverse) (fun b ob q => Heap.get?_push_of_some _ q) (Nat.le_refl _) ?_, rfl, q _ (I5.hok.fresh (Nat.le_refl _))⟩
    exact ⟨by rw [List.length_reverse]; exact hz, _, r.reverse, IsTup.new _ _⟩
end
end Pe
namespace Pe
open PySem PySem.Spec PyProof.Rows L2
variable {K : PySem.W.Frag} {μ μ' μ'' : List Addr} {H H' H'' : Hp} {st st' : Store} {σ : L2.St} {ρ : Env}

/-! ### operations -/
def newL (xs : List PV) : Store → Res PV := fun st => .ok (.ref st.length) (st ++ [.lst xs])
def gAdd : PV → PV → Store → Res PV
  | .int i, .int j, st => .ok (.int (i + j)) st
  | .str x, .str y, st => if x.length + y.length ≤ sizeLine then .ok (.str (x ++ y)) st else .bad
  | .tup xs, .tup ys, st => if xs.length + ys.length ≤ sizeLine then .ok (.tup (xs ++ ys)) st else .bad
  | .ref n, .ref m, st => match st[n]?, st[m]? with
    | some (.lst xs), some (.lst ys) => if xs.length + ys.length ≤ sizeLine then newL (xs ++ ys) st else .bad
    | _, _ => .bad
  | _, _, _ => .bad
def gSub : PV → PV → Store → Res PV
  | .int i, .int j, st => .ok (.int (i - j)) st
  | _, _, _ => .bad
def gMul : PV → PV → Store → Res PV
  | .int i, .int j, st => if i.natAbs.log2 + j.natAbs.log2 < 1000000 ∨ i.natAbs < 2 ^ 64 ∨ j.natAbs < 2 ^ 64 then .ok (.int (i * j)) st else .bad
  | .ref n, .int k, st => match st[n]? with
    | some (.lst xs) => if -(2 ^ 63) ≤ k ∧ k < 2 ^ 63 ∧ xs.length * k.toNat ≤ sizeLine then newL (List.replicate k.toNat xs).flatten st else .bad
    | _ => .bad
  | .tup xs, .int k, st => if xs ≠ [] ∧ 2 ≤ k ∧ k ≤ 1000 ∧ xs.length ≤ 1000 then .ok (.tup (List.replicate k.toNat xs).flatten) st else if (k = 1 ∨ xs = []) ∧ -4611686018427387904 ≤ k ∧ k < 4611686018427387904 then .ok (.tup xs) st else if k = 0 ∧ xs ≠ [] then .ok (.tup []) st else .bad
  | _, _, _ => .bad
def gFdiv : PV → PV → Store → Res PV
  | .int i, .int j, st => if 0 < j then .ok (.int (i / j)) st else .bad
  | _, _, _ => .bad
def gMod : PV → PV → Store → Res PV
  | .int i, .int j, st => if 0 < j then .ok (.int (i % j)) st else .bad
  | _, _, _ => .bad
def gPow : PV → PV → Store → Res PV
  | .int i, .int j, st => if 0 ≤ j ∧ j ≤ 1000000 ∧ i.natAbs < 2 ^ 64 then .ok (.int (i ^ j.toNat)) st else .bad
  | _, _, _ => .bad
def gNeg : PV → Store → Res PV
  | .int i, st => .ok (.int (-i)) st
  | _, _ => .bad

theorem post_int {i : Int} {Q : VK} (hr : HR K μ H st) (h : Post K μ H (.ok (.int i) st) (QV K Q)) : Q (.int i) H := h μ H .refl hr _ (.int i)
theorem post_bl {b : Bool} {Q : VK} (hr : HR K μ H st) (h : Post K μ H (.ok (.bl b) st) (QV K Q)) : Q (.bl b) H := h μ H .refl hr _ (.bl b)
theorem post_str {x : Str} {Q : VK} (hr : HR K μ H st) (h : Post K μ H (.ok (.str x) st) (QV K Q)) : Q (.str x) H := h μ H .refl hr _ (.str x)
theorem post_non {Q : VK} (hr : HR K μ H st) (h : Post K μ H (.ok .non st) (QV K Q)) : Q .non H := h μ H .refl hr _ .non
theorem post_same {v : V} {p : PV} {Q : VK} (hr : HR K μ H st) (hv : VR K μ H v p) (h : Post K μ H (.ok p st) (QV K Q)) : Q v H := h μ H .refl hr v hv
theorem post_tup {xs : List V} {ps : List PV} {Q : VK} (hr : HR K μ H st) (r : VRs K μ H xs ps) (h : Post K μ H (.ok (.tup ps) st) (QV K Q)) : ∀ p, H p = none → Q (.ref p) (upd H p (.tup xs)) := fun p hp =>
  h μ _ (.new hp) (hr.new hp) _ (.tup (.inl (.inl upd_same)) (r.mono (.new hp)))
theorem post_lst {xs : List V} {ps : List PV} {Q : VK} (hr : HR K μ H st) (r : VRs K μ H xs ps) (h : Post K μ H (newL ps st) (QV K Q)) : ∀ p, H p = none → Q (.ref p) (upd H p (.lst xs)) := fun p hp =>
  h (μ ++ [p]) _ (.newL hp) (hr.newL hp r) _ (.ref (by rw [← hr.len]; simp))
theorem HR.lst {n : Nat} {ps : List PV} (hr : HR K μ H st) (h : st[n]? = some (.lst ps)) : ∃ a xs, μ[n]? = some a ∧ H a = some (.lst xs) ∧ VRs K μ H xs ps := by
  obtain ⟨a, e1, xs, e2, e3⟩ := hr.at_ n _ h
  exact ⟨a, xs, e1, e2, e3⟩
theorem VR.ref_inv {v : V} {n : Nat} (h : VR K μ H v (.ref n)) : ∃ a, v = .ref a ∧ μ[n]? = some a := by
  cases h with | ref e => exact ⟨_, rfl, e⟩
theorem VR.tup_inv {v : V} {ps : List PV} (h : VR K μ H v (.tup ps)) : ∃ a xs, v = .ref a ∧ SqT K H a xs ∧ VRs K μ H xs ps := by
  cases h with | tup e r => exact ⟨_, _, rfl, e, r⟩
theorem VR.int_inv {v : V} {i : Int} (h : VR K μ H v (.int i)) : v = .int i := by cases h; rfl
theorem VR.str_inv {v : V} {x : Str} (h : VR K μ H v (.str x)) : v = .str x := by cases h; rfl
theorem VR.bl_inv {v : V} {b : Bool} (h : VR K μ H v (.bl b)) : v = .bl b := by cases h; rfl
theorem VR.non_inv {v : V} (h : VR K μ H v .non) : v = .non := by cases h; rfl
theorem ref_is {v : V} {n : Nat} {a : Addr} (h : VR K μ H v (.ref n)) (e : μ[n]? = some a) : v = .ref a := by
  obtain ⟨b, rfl, e2⟩ := h.ref_inv
  rw [e] at e2; cases e2; rfl

section
variable {X : Cx}
theorem op_gAdd : OpR X (binaryOp .Add) (rd2 X.K gAdd) := by
  intro pins s σ H x y v u Q I rx ry h
  obtain ⟨μ, st, p, q, hr, hx, hy, k⟩ := h
  unfold gAdd at k
  split at k
  · cases hx.int_inv; cases hy.int_inv
    exact op_add pins s σ H _ _ v u Q I rx ry ⟨_, _, rfl, rfl, post_int hr k⟩
  · cases hx.str_inv; cases hy.str_inv
    split at k
    · exact op_add_str pins s σ H _ _ v u Q I rx ry ⟨_, _, rfl, rfl, by assumption, post_str hr k⟩
    · exact k.elim
  · obtain ⟨a, xs, rfl, h1, r1⟩ := hx.tup_inv
    obtain ⟨b, ys, rfl, h2, r2⟩ := hy.tup_inv
    split at k
    · rename_i hz
      refine op_catA pins s σ H _ _ v u Q I rx ry ⟨a, b, xs, ys, rfl, rfl, h1, h2, by rw [r1.length, r2.length]; exact hz, fun e => ?_, fun _ e => ?_, fun _ _ => post_tup hr (r1.append r2) k⟩
      · subst e
        cases r1
        exact post_same hr hy k
      · subst e
        cases r2
        exact post_same hr hx (by rw [List.append_nil] at k; exact k)
    · exact k.elim
  · split at k
    · rename_i n m _ _ xs ys e1 e2
      split at k
      · rename_i hz
        obtain ⟨a, vs, m1, h1, r1⟩ := hr.lst e1
        obtain ⟨b, ws, m2, h2, r2⟩ := hr.lst e2
        cases ref_is hx m1; cases ref_is hy m2
        exact op_cat pins s σ H _ _ v u Q I rx ry ⟨a, b, vs, ws, rfl, rfl, h1, h2, by rw [r1.length, r2.length]; exact hz, post_lst hr (r1.append r2) k⟩
      · exact k.elim
    · exact k.elim
  · exact k.elim
theorem op_gSub : OpR X (binaryOp .Sub) (rd2 X.K gSub) := by
  intro pins s σ H x y v u Q I rx ry h
  obtain ⟨μ, st, p, q, hr, hx, hy, k⟩ := h
  unfold gSub at k
  split at k
  · cases hx.int_inv; cases hy.int_inv
    exact op_sub pins s σ H _ _ v u Q I rx ry ⟨_, _, rfl, rfl, post_int hr k⟩
  · exact k.elim
theorem op_gMul : OpR X (binaryOp .Mult) (rd2 X.K gMul) := by
  intro pins s σ H x y v u Q I rx ry h
  obtain ⟨μ, st, p, q, hr, hx, hy, k⟩ := h
  unfold gMul at k
  split at k
  · cases hx.int_inv; cases hy.int_inv
    split at k
    · rename_i z
      rcases z with z | z
      · exact op_mulW pins s σ H _ _ v u Q I rx ry ⟨_, _, rfl, rfl, z, post_int hr k⟩
      · exact op_mul pins s σ H _ _ v u Q I rx ry ⟨_, _, rfl, rfl, by
          unfold CMul
          rcases z with z | z
          · exact .inl ⟨by omega, by omega⟩
          · exact .inr ⟨by omega, by omega⟩, post_int hr k⟩
    · exact k.elim
  · cases hy.int_inv
    split at k
    · rename_i e1
      split at k
      · rename_i hz
        obtain ⟨a, vs, m1, h1, r1⟩ := hr.lst e1
        cases ref_is hx m1
        exact op_rep pins s σ H _ _ v u Q I rx ry ⟨a, _, vs, rfl, rfl, h1, hz.1, hz.2.1, by rw [r1.length]; exact hz.2.2, post_lst hr (r1.replicate _) k⟩
      · exact k.elim
    · exact k.elim
  · obtain ⟨a, xs, rfl, h1, r1⟩ := hx.tup_inv
    cases hy.int_inv
    split at k
    · rename_i hz
      refine op_repT pins s σ H _ _ v u Q I rx ry ⟨a, _, xs, rfl, rfl, h1, fun e => ?_, hz.2.1, hz.2.2.1, by rw [r1.length]; exact hz.2.2.2, post_tup hr (r1.replicate _) k⟩
      subst e
      cases r1
      exact hz.1 rfl
    · split at k
      · rename_i hz
        refine op_rep1 pins s σ H _ _ v u Q I rx ry ⟨a, _, xs, rfl, rfl, h1, hz.1.imp id (fun e => ?_), hz.2.1, hz.2.2, post_same hr hx k⟩
        subst e
        cases r1
        rfl
      · split at k
        · rename_i hz
          obtain ⟨rfl, hne⟩ := hz
          refine op_rep0 pins s σ H _ _ v u Q I rx ry ⟨a, xs, rfl, rfl, h1, fun e => ?_, post_tup hr .nil k⟩
          subst e
          cases r1
          exact hne rfl
        · exact k.elim
  · exact k.elim
/-- the room around a call: no repr runs, the stack is not deep, the interpreter is as it was laid -/
structure Gz (P : Program) (base : Heap) (k : Nat) (A : Around) : Prop where
  gd : A.guards = some []
  dp : A.depth + 3 * k + 120 < recursionLimit
  tree : P.given.tree = none
  seer : base.NoSeer
theorem Gz.mono {P : Program} {base : Heap} {j k : Nat} {A : Around} (z : Gz P base k A) (h : j ≤ k) : Gz P base j A := ⟨z.gd, by have := z.dp; omega, z.tree, z.seer⟩
theorem Gz.deeper {P : Program} {base : Heap} {k : Nat} {A : Around} (z : Gz P base (k + 1) A) (env : PySem.Env) : Gz P base k (A.deeper env) := ⟨z.gd, by have := z.dp; show A.depth + 1 + 3 * k + 120 < _; omega, z.tree, z.seer⟩
/-- the frame that runs -/
def Gt (A : Around) : Prop := ∃ env l, A.frames = some (env :: l) ∧ env.scope.isGenerator = false ∧ env.scope.isCoroutine = false ∧ env.builtins = builtinsNs ∧ env.globals = mainGlobals
theorem op_gFdiv {k : Nat} (z : Gz X.prog X.base k X.A) (t : Gt X.A) : OpR X (binaryOp .FloorDiv) (rd2 X.K gFdiv) := by
  intro pins s σ H x y v u Q I rx ry h
  obtain ⟨μ, st, p, q, hr, hx, hy, k⟩ := h
  unfold gFdiv at k
  split at k
  · cases hx.int_inv; cases hy.int_inv
    split at k
    · rename_i hj
      obtain ⟨t1, rfl⟩ := rx
      obtain ⟨t2, rfl⟩ := ry
      obtain ⟨env, l, f1, f2, f3, f4, f5⟩ := t
      refine floordiv_int (by omega) ?_ (.inr (PylongRoom.of I.nolimit (by have := z.dp; show X.A.depth + 100 < _; omega) (SeerAt.of (M := model X.prog X.w) (z.seer.keeps I.bk) z.tree f1 f2 f3 f4 f5)))
      rw [Int.fdiv_eq_ediv_of_nonneg _ (by omega)]
      exact ⟨.int _, H, I.tok _, ⟨_, rfl⟩, post_int hr k⟩
    · exact k.elim
  · exact k.elim
theorem op_gMod : OpR X (binaryOp .Mod) (rd2 X.K gMod) := by
  intro pins s σ H x y v u Q I rx ry h
  obtain ⟨μ, st, p, q, hr, hx, hy, k⟩ := h
  unfold gMod at k
  split at k
  · cases hx.int_inv; cases hy.int_inv
    split at k
    · exact op_mod pins s σ H _ _ v u Q I rx ry ⟨_, _, rfl, rfl, by assumption, post_int hr k⟩
    · exact k.elim
  · exact k.elim
theorem op_gPow : OpR X (binaryOp .Pow) (rd2 X.K gPow) := by
  intro pins s σ H x y v u Q I rx ry h
  obtain ⟨μ, st, p, q, hr, hx, hy, k⟩ := h
  unfold gPow at k
  split at k
  · cases hx.int_inv; cases hy.int_inv
    split at k
    · exact op_pow pins s σ H _ _ v u Q I rx ry ⟨_, _, rfl, rfl, by assumption, post_int hr k⟩
    · exact k.elim
  · exact k.elim
theorem un_gNeg : UnR X (unaryOp .USub) (rd1 X.K gNeg) := by
  intro pins s σ H x v Q I rx h
  obtain ⟨μ, st, p, hr, hx, k⟩ := h
  unfold gNeg at k
  split at k
  · cases hx.int_inv
    exact un_neg pins s σ H _ v Q I rx ⟨_, rfl, post_int hr k⟩
  · exact k.elim
end

/-! ### comparisons -/
mutual
def dOf (look : Nat → Option PyData) : PV → Option PyData
  | .non => some .none
  | .bl b => some (.bool b)
  | .int i => some (.int i)
  | .str x => some (.str x)
  | .tup xs => (dsOf look xs).map .tuple
  | .ref n => look n
def dsOf (look : Nat → Option PyData) : List PV → Option (List PyData)
  | [] => some []
  | x :: xs => match dOf look x, dsOf look xs with
    | some d, some ds => some (d :: ds)
    | _, _ => none
end
def lookD (st : Store) : Nat → Nat → Option PyData
  | 0, _ => none
  | k + 1, n => match listAt st n with
    | some xs => (dsOf (lookD st k) xs).map .list
    | none => none
/-- a value as data (lists within lists: eight deep) -/
def toD (st : Store) : PV → Option PyData := dOf (lookD st 8)
mutual
theorem dOf_ok {look : Nat → Option PyData} (hl : ∀ n d, look n = some d → ∃ a, μ[n]? = some a ∧ Dp K H (.ref a) d) : ∀ (p : PV) (v : V) (d : PyData), VR K μ H v p → dOf look p = some d → Dp K H v d
  | .non, _, _, .non, e => by cases e; exact .non
  | .bl b, _, _, .bl _, e => by cases e; exact .bl b
  | .int i, _, _, .int _, e => by cases e; exact .int i
  | .str x, _, _, .str _, e => by cases e; exact .str x
  | .tup ps, _, d, .tup h r, e => by
    unfold dOf at e
    obtain ⟨ds, e1, e2⟩ := Option.map_eq_some_iff.mp e
    subst e2
    exact .tup h (dsOf_ok hl ps _ ds r e1)
  | .ref n, _, d, .ref h, e => by
    obtain ⟨a, e1, e2⟩ := hl n d e
    rw [h] at e1
    cases e1
    exact e2
theorem dsOf_ok {look : Nat → Option PyData} (hl : ∀ n d, look n = some d → ∃ a, μ[n]? = some a ∧ Dp K H (.ref a) d) : ∀ (ps : List PV) (vs : List V) (ds : List PyData), VRs K μ H vs ps → dsOf look ps = some ds → DpAll K H vs ds
  | [], _, _, .nil, e => by cases e; exact .nil
  | p :: ps, _, ds, .cons r t, e => by
    unfold dsOf at e
    split at e
    · rename_i d ds' e1 e2
      cases e
      exact .cons (dOf_ok hl p _ d r e1) (dsOf_ok hl ps _ ds' t e2)
    · cases e
end
theorem lookD_ok (hr : HR K μ H st) : ∀ (k n : Nat) (d : PyData), lookD st k n = some d → ∃ a, μ[n]? = some a ∧ Dp K H (.ref a) d
  | 0, _, _, e => by cases e
  | k + 1, n, d, e => by
    unfold lookD at e
    split at e
    · rename_i xs e1
      obtain ⟨ds, e2, e3⟩ := Option.map_eq_some_iff.mp e
      subst e3
      obtain ⟨a, vs, m, h, r⟩ := hr.listAt e1
      exact ⟨a, m, .lst h (dsOf_ok (lookD_ok hr k) _ _ _ r e2)⟩
    · cases e
theorem toD_ok (hr : HR K μ H st) {p : PV} {v : V} {d : PyData} (h : VR K μ H v p) (e : toD st p = some d) : Dp K H v d := dOf_ok (lookD_ok hr 8) p v d h e
/-- scalars of one kind -/
def scP : PV → PV → Option Bool
  | .int i, .int j => some (decide (i = j))
  | .str x, .str y => some (decide (x = y))
  | .bl x, .bl y => some (decide (x = y))
  | .non, .non => some true
  | _, _ => none
def gEq (neg : Bool) : PV → PV → Store → Res PV := fun p q st => match scP p q with
  | some b => .ok (.bl (if neg then !b else b)) st
  | none => match toD st p, toD st q with
    | some d, some e => if SeqAt.shaped d = true ∧ SeqAt.shaped e = true then .ok (.bl (if neg then !PyData.eqv d e else PyData.eqv d e)) st else .bad
    | _, _ => .bad
def gCmp (f : Int → Int → Bool) : PV → PV → Store → Res PV
  | .int i, .int j, st => .ok (.bl (f i j)) st
  | _, _, _ => .bad
def isNonP : PV → Bool
  | .non => true
  | _ => false
def gIsN (neg : Bool) : PV → PV → Store → Res PV
  | p, .non, st => .ok (.bl (if neg then !isNonP p else isNonP p)) st
  | .bl a, .bl b, st => .ok (.bl (if neg then !decide (a = b) else decide (a = b))) st
  | _, _, _ => .bad
section
variable {X : Cx}
theorem scP_ok {x y : V} {p q : PV} {b : Bool} (hx : VR K μ H x p) (hy : VR K μ H y q) (h : scP p q = some b) : scal x y = true ∧ decide (x = y) = b := by
  unfold scP at h
  split at h
  · cases hx.int_inv; cases hy.int_inv; cases h; exact ⟨rfl, by simp⟩
  · cases hx; cases hy; cases h; exact ⟨rfl, by simp⟩
  · cases hx; cases hy; cases h; exact ⟨rfl, by simp⟩
  · cases hx; cases hy; cases h; exact ⟨rfl, by simp⟩
  · cases h
theorem op_gEq (hu : X.A.units + 64 < cLine) : OpR X (compareOp .Eq) (rd2 X.K (gEq false)) := by
  intro pins s σ H x y v u Q I rx ry h
  obtain ⟨μ, st, p, q, hr, hx, hy, k⟩ := h
  unfold gEq at k
  split at k
  · rename_i b e
    obtain ⟨h1, h2⟩ := scP_ok hx hy e
    exact op_eq pins s σ H x y v u Q I rx ry ⟨h1, by rw [h2]; exact post_bl hr k⟩
  · split at k
    · rename_i d e e1 e2
      split at k
      · rename_i hs
        exact op_eqD hu pins s σ H _ _ v u Q I rx ry ⟨d, e, toD_ok hr hx e1, toD_ok hr hy e2, hs.1, hs.2, post_bl hr k⟩
      · exact k.elim
    · exact k.elim
theorem op_gNe (hu : X.A.units + 64 < cLine) : OpR X (compareOp .NotEq) (rd2 X.K (gEq true)) := by
  intro pins s σ H x y v u Q I rx ry h
  obtain ⟨μ, st, p, q, hr, hx, hy, k⟩ := h
  unfold gEq at k
  split at k
  · rename_i b e
    obtain ⟨h1, h2⟩ := scP_ok hx hy e
    exact op_ne pins s σ H x y v u Q I rx ry ⟨h1, by rw [h2]; exact post_bl hr k⟩
  · split at k
    · rename_i d e e1 e2
      split at k
      · rename_i hs
        exact op_neD hu pins s σ H _ _ v u Q I rx ry ⟨d, e, toD_ok hr hx e1, toD_ok hr hy e2, hs.1, hs.2, post_bl hr k⟩
      · exact k.elim
    · exact k.elim
theorem op_gCmp {op : CmpOp} {f : Int → Int → Bool} (h : OpR X (compareOp op) (rI0 fun i j => .bl (f i j))) : OpR X (compareOp op) (rd2 X.K (gCmp f)) := by
  intro pins s σ H x y v u Q I rx ry h2
  obtain ⟨μ, st, p, q, hr, hx, hy, k⟩ := h2
  unfold gCmp at k
  split at k
  · cases hx.int_inv; cases hy.int_inv
    exact h pins s σ H _ _ v u Q I rx ry ⟨_, _, rfl, rfl, post_bl hr k⟩
  · exact k.elim
theorem isNonP_ok {v : V} {p : PV} (h : VR K μ H v p) : decide (v = .non) = isNonP p := by
  cases h <;> rfl
theorem op_gIs : OpR X (compareOp .Is) (rd2 X.K (gIsN false)) := by
  intro pins s σ H x y v u Q I rx ry h2
  obtain ⟨μ, st, p, q, hr, hx, hy, k⟩ := h2
  unfold gIsN at k
  split at k
  · cases hy.non_inv
    refine op_isN pins s σ H _ _ v u Q I rx ry ⟨rfl, ?_⟩
    rw [isNonP_ok hx]
    exact post_bl hr k
  · cases hx
    cases hy
    exact op_isBl pins s σ H _ _ v u Q I rx ry ⟨_, _, rfl, rfl, post_bl hr k⟩
  · exact k.elim
theorem op_gIsNot : OpR X (compareOp .IsNot) (rd2 X.K (gIsN true)) := by
  intro pins s σ H x y v u Q I rx ry h2
  obtain ⟨μ, st, p, q, hr, hx, hy, k⟩ := h2
  unfold gIsN at k
  split at k
  · cases hy.non_inv
    refine op_notN pins s σ H _ _ v u Q I rx ry ⟨rfl, ?_⟩
    rw [isNonP_ok hx]
    exact post_bl hr k
  · cases hx
    cases hy
    exact op_notBl pins s σ H _ _ v u Q I rx ry ⟨_, _, rfl, rfl, post_bl hr k⟩
  · exact k.elim
end
/-- whether a value stands in a list -/
def gIn (neg : Bool) : PV → PV → Store → Res PV := fun p q st => match toD st p, toD st q with
  | some d, some (.list xs) => if SeqAt.shaped d = true ∧ SeqAt.shaped (.list xs) = true ∧ d.depth ≤ 60 then .ok (.bl (if neg then !(xs.any fun y => PyData.eqv y d) else xs.any fun y => PyData.eqv y d)) st else .bad
  | _, _ => .bad
theorem op_inL {X : Cx} (hu : X.A.units + 64 < cLine) : OpR X (compareOp .In) (fun x y H Q => ∃ d xs, Dp X.K H x d ∧ Dp X.K H y (.list xs) ∧ SeqAt.shaped d = true ∧ SeqAt.shaped (.list xs) = true ∧ d.depth ≤ 60 ∧ Q (.bl (xs.any fun y => PyData.eqv y d)) H) := by
  intro pins s σ H x y v u Q I rx ry h
  obtain ⟨d, xs, hd, he, sd, se, dd, q⟩ := h
  obtain ⟨as, r1⟩ := Dp.reads I d x v hd rx
  obtain ⟨bs, r2⟩ := Dp.reads I _ y u he ry
  exact SeqAt.in_list_reads r2 r1 (SeqAt.canLay_of_shaped se) (SeqAt.canLay_of_shaped sd) (by have := Nat.min_le_right (PyData.depthAll xs) d.depth; omega) ⟨.bl _, H, I, rfl, q⟩
theorem op_notInL {X : Cx} (hu : X.A.units + 64 < cLine) : OpR X (compareOp .NotIn) (fun x y H Q => ∃ d xs, Dp X.K H x d ∧ Dp X.K H y (.list xs) ∧ SeqAt.shaped d = true ∧ SeqAt.shaped (.list xs) = true ∧ d.depth ≤ 60 ∧ Q (.bl (!(xs.any fun y => PyData.eqv y d))) H) := by
  intro pins s σ H x y v u Q I rx ry h
  obtain ⟨d, xs, hd, he, sd, se, dd, q⟩ := h
  obtain ⟨as, r1⟩ := Dp.reads I d x v hd rx
  obtain ⟨bs, r2⟩ := Dp.reads I _ y u he ry
  exact SeqAt.notIn_list_reads r2 r1 (SeqAt.canLay_of_shaped se) (SeqAt.canLay_of_shaped sd) (by have := Nat.min_le_right (PyData.depthAll xs) d.depth; omega) ⟨.bl _, H, I, rfl, q⟩
theorem op_gIn {X : Cx} (hu : X.A.units + 64 < cLine) : OpR X (compareOp .In) (rd2 X.K (gIn false)) := by
  intro pins s σ H x y v u Q I rx ry h
  obtain ⟨μ, st, p, q, hr, hx, hy, k⟩ := h
  unfold gIn at k
  split at k
  · rename_i d xs e1 e2
    split at k
    · rename_i hs
      exact op_inL hu pins s σ H _ _ v u Q I rx ry ⟨d, xs, toD_ok hr hx e1, toD_ok hr hy e2, hs.1, hs.2.1, hs.2.2, post_bl hr k⟩
    · exact k.elim
  · exact k.elim
theorem op_gNotIn {X : Cx} (hu : X.A.units + 64 < cLine) : OpR X (compareOp .NotIn) (rd2 X.K (gIn true)) := by
  intro pins s σ H x y v u Q I rx ry h
  obtain ⟨μ, st, p, q, hr, hx, hy, k⟩ := h
  unfold gIn at k
  split at k
  · rename_i d xs e1 e2
    split at k
    · rename_i hs
      exact op_notInL hu pins s σ H _ _ v u Q I rx ry ⟨d, xs, toD_ok hr hx e1, toD_ok hr hy e2, hs.1, hs.2.1, hs.2.2, post_bl hr k⟩
    · exact k.elim
  · exact k.elim
/-- the meaning of a comparison -/
def gOp : CmpOp → PV → PV → Store → Res PV
  | .Eq => gEq false
  | .NotEq => gEq true
  | .Lt => gCmp fun i j => decide (i < j)
  | .LtE => gCmp fun i j => decide (i ≤ j)
  | .Gt => gCmp fun i j => decide (j < i)
  | .GtE => gCmp fun i j => decide (j ≤ i)
  | .Is => gIsN false
  | .IsNot => gIsN true
  | .In => gIn false
  | .NotIn => gIn true
theorem opR_bad {X : Cx} {f : Value → Value → Sem Value} : OpR X f (rd2 X.K fun _ _ _ => .bad) := by
  intro pins s σ H x y v u Q I rx ry h2
  obtain ⟨μ, st, p, q, hr, hx, hy, k⟩ := h2
  exact k.elim
theorem op_gOp {X : Cx} (hu : X.A.units + 64 < cLine) : ∀ op : CmpOp, OpR X (compareOp op) (rd2 X.K (gOp op))
  | .Eq => op_gEq hu
  | .NotEq => op_gNe hu
  | .Lt => op_gCmp op_lt
  | .LtE => op_gCmp op_le
  | .Gt => op_gCmp op_gt
  | .GtE => op_gCmp op_ge
  | .Is => op_gIs
  | .IsNot => op_gIsNot
  | .In => op_gIn hu
  | .NotIn => op_gNotIn hu
def gBin : Operator → PV → PV → Store → Res PV
  | .Add => gAdd
  | .Sub => gSub
  | .Mult => gMul
  | .FloorDiv => gFdiv
  | .Mod => gMod
  | .Pow => gPow
  | _ => fun _ _ _ => .bad
theorem op_gBin {X : Cx} {k : Nat} (z : Gz X.prog X.base k X.A) (t : Gt X.A) : ∀ op : Operator, OpR X (binaryOp op) (rd2 X.K (gBin op))
  | .Add => op_gAdd
  | .Sub => op_gSub
  | .Mult => op_gMul
  | .FloorDiv => op_gFdiv z t
  | .Mod => op_gMod
  | .Pow => op_gPow
  | .MatMult => opR_bad
  | .Div => opR_bad
  | .LShift => opR_bad
  | .RShift => opR_bad
  | .BitOr => opR_bad
  | .BitXor => opR_bad
  | .BitAnd => opR_bad
/-- a op b op' c -/
def xChain (g g' : PV → PV → Store → Res PV) (fa fb fc : Sm) : Sm := fun ρ st => (fa ρ st).bind fun p st1 => (fb ρ st1).bind fun q st2 => (g p q st2).bind fun c st3 => match c with
  | .bl true => (fc ρ st3).bind fun r st4 => g' q r st4
  | .bl false => .ok (.bl false) st3
  | _ => .bad
section
variable {X : Cx}
theorem rd_chain {g g' : PV → PV → Store → Res PV} {fa fb fc : Sm} {Q : VK} (h : rd K (xChain g g' fa fb fc) σ H Q) : tChain (rd2 K g) (rd2 K g') (rd K fa) (rd K fb) (rd K fc) σ H Q := by
  obtain ⟨μ, ρ, st, hr, lr, q⟩ := h
  refine ⟨μ, ρ, st, hr, lr, q.bind_imp fun μ1 H1 p st1 l1 hr1 q1 x hx => ?_⟩
  refine ⟨μ1, ρ, st1, hr1, lr.mono l1, q1.bind_imp fun μ2 H2 p2 st2 l2 hr2 q2 y hy => ?_⟩
  refine ⟨μ2, st2, p, p2, hr2, hx.mono l2, hy, q2.bind_imp fun μ3 H3 c st3 l3 hr3 q3 z hz => ?_⟩
  cases hz with
  | bl b =>
    refine ⟨b, rfl, ?_⟩
    cases b with
    | true =>
      rw [if_pos rfl]
      refine ⟨μ3, ρ, st3, hr3, ((lr.mono l1).mono l2).mono l3, q3.bind_imp fun μ4 H4 r st4 l4 hr4 q4 w hw => ?_⟩
      exact ⟨μ4, st4, p2, r, hr4, (hy.mono l3).mono l4, hw, q4⟩
    | false =>
      rw [if_neg Bool.false_ne_true]
      exact post_bl hr3 q3
  | _ => exact q3.elim
theorem pe_cmp_ {op : CmpOp} {a b : Expr} {pos : Pos} {fa fb : Sm} (hu : X.A.units + 64 < cLine) (ha : PE X a (rd X.K fa)) (hb : PE X b (rd X.K fb)) (hm : behindInMarks op b = false) : PE X (.Compare a [op] [b] pos) (rd X.K (xBin (gOp op) fa fb)) :=
  PE.imp (pe_cmpR (op_gOp hu op) ha hb hm) fun _ _ _ => rd_bin
theorem pe_chain_ {op op' : CmpOp} {a b c : Expr} {pos : Pos} {fa fb fc : Sm} (hu : X.A.units + 64 < cLine) (ha : PE X a (rd X.K fa)) (hb : PE X b (rd X.K fb)) (hc : PE X c (rd X.K fc)) (hm : lastMarks [op, op'] [b, c] = false) :
    PE X (.Compare a [op, op'] [b, c] pos) (rd X.K (xChain (gOp op) (gOp op') fa fb fc)) :=
  PE.imp (pe_chain (op_gOp hu op) (op_gOp hu op') ha hb hc hm) fun _ _ _ => rd_chain
/-- a value that is a truth, as a test -/
def xTb (f : Sm) : SmT := fun ρ st => (f ρ st).bind fun p st1 => match p with
  | .bl b => .ok b st1
  | _ => .bad
theorem rd_tb {f : Sm} {Q : Bool → Hp → Prop} (h : rdT K (xTb f) σ H Q) : tTest (rd K f) σ H Q := by
  obtain ⟨μ, ρ, st, hr, lr, q⟩ := h
  refine ⟨μ, ρ, st, hr, lr, q.bind_imp fun μ1 H1 p st1 l1 hr1 q1 x hx => ?_⟩
  cases hx with
  | bl b => exact ⟨b, rfl, q1 μ1 H1 .refl hr1⟩
  | _ => exact q1.elim
theorem pt_cmp_ {op : CmpOp} {a b : Expr} {pos : Pos} {fa fb : Sm} (hu : X.A.units + 64 < cLine) (ha : PE X a (rd X.K fa)) (hb : PE X b (rd X.K fb)) (hm : behindInMarks op b = false) : PT X (.Compare a [op] [b] pos) (rdT X.K (xTb (xBin (gOp op) fa fb))) :=
  PT.imp (pt_cmpR (op_gOp hu op) ha hb hm) fun σ H Q h => by
    obtain ⟨μ, ρ, st, hr, lr, q⟩ := rd_tb h
    exact rd_bin ⟨μ, ρ, st, hr, lr, q⟩
theorem pt_chain_ {op op' : CmpOp} {a b c : Expr} {pos : Pos} {fa fb fc : Sm} (hu : X.A.units + 64 < cLine) (ha : PE X a (rd X.K fa)) (hb : PE X b (rd X.K fb)) (hc : PE X c (rd X.K fc)) (hm : lastMarks [op, op'] [b, c] = false) :
    PT X (.Compare a [op, op'] [b, c] pos) (rdT X.K (xTb (xChain (gOp op) (gOp op') fa fb fc))) :=
  PT.imp (pt_chain (op_gOp hu op) (op_gOp hu op') ha hb hc hm) fun σ H Q h => by
    obtain ⟨μ, ρ, st, hr, lr, q⟩ := rd_tb h
    exact rd_chain ⟨μ, ρ, st, hr, lr, q⟩
end

/-! ### truth -/
def truP : PV → Store → Option Bool
  | .non, _ => some false
  | .bl b, _ => some b
  | .int i, _ => some (i != 0)
  | .str x, _ => if x.length ≤ sizeLine then some ((x.length : Int) != 0) else none
  | .tup xs, _ => some (!xs.isEmpty)
  | .ref n, st => match listAt st n with
    | some xs => some (!xs.isEmpty)
    | none => none
theorem VRs.isEmpty {vs : List V} {ps : List PV} (h : VRs K μ H vs ps) : vs.isEmpty = ps.isEmpty := by cases h <;> rfl
theorem truP_ok (hr : HR K μ H st) {v : V} {p : PV} {b : Bool} (h : VR K μ H v p) (e : truP p st = some b) : TruV K v H b := by
  cases h with
  | non => cases e; rfl
  | bl b => cases e; rfl
  | int i => cases e; rfl
  | str x =>
    have e' : (if x.length ≤ sizeLine then some ((x.length : Int) != 0) else none) = some b := e
    split at e'
    · rename_i hz
      cases e'
      exact ⟨hz, rfl⟩
    · cases e'
  | tup h r =>
    cases e
    exact .inr (.inl ⟨_, h, by rw [r.isEmpty]⟩)
  | @ref n a h =>
    have e' : (match listAt st n with
      | some xs => some (!xs.isEmpty)
      | none => none) = some b := e
    split at e'
    · rename_i xs e1
      cases e'
      obtain ⟨a, ys, m, q, r⟩ := hr.listAt e1
      rw [h] at m
      cases m
      exact .inl ⟨ys, q, by rw [r.isEmpty]⟩
    · cases e'
/-- any value as a test -/
def xTv (f : Sm) : SmT := fun ρ st => (f ρ st).bind fun p st1 => match truP p st1 with
  | some b => .ok b st1
  | none => .bad
def xNotT (t : SmT) : SmT := fun ρ st => (t ρ st).bind fun b st1 => .ok (!b) st1
def xAndT (t u : SmT) : SmT := fun ρ st => (t ρ st).bind fun b st1 => if b = true then u ρ st1 else .ok false st1
def xOrT (t u : SmT) : SmT := fun ρ st => (t ρ st).bind fun b st1 => if b = true then .ok true st1 else u ρ st1
def xNot (f : Sm) : Sm := fun ρ st => (f ρ st).bind fun p st1 => match truP p st1 with
  | some b => .ok (.bl (!b)) st1
  | none => .bad
def xAnd (f g : Sm) : Sm := fun ρ st => (f ρ st).bind fun p st1 => match truP p st1 with
  | some b => if b = true then g ρ st1 else .ok p st1
  | none => .bad
def xOr (f g : Sm) : Sm := fun ρ st => (f ρ st).bind fun p st1 => match truP p st1 with
  | some b => if b = true then .ok p st1 else g ρ st1
  | none => .bad
def xIte (t : SmT) (f g : Sm) : Sm := fun ρ st => (t ρ st).bind fun b st1 => if b = true then f ρ st1 else g ρ st1
section
variable {X : Cx}
theorem pt_tv {e : Expr} {f : Sm} (ha : PE X e (rd X.K f)) (he : ∀ whole, isTrue e X.env whole = (do let v ← whole; standAt e.pos; holding [v] (truthy v))) : PT X e (rdT X.K (xTv f)) :=
  PT.imp (pt_truth ha he) fun σ H Q h => by
    obtain ⟨μ, ρ, st, hr, lr, q⟩ := h
    refine ⟨μ, ρ, st, hr, lr, q.bind_imp fun μ1 H1 p st1 l1 hr1 q1 x hx => ?_⟩
    split at q1
    · rename_i b e1
      exact ⟨b, truP_ok hr1 hx e1, q1 μ1 H1 .refl hr1⟩
    · exact q1.elim
theorem pt_not_ {e : Expr} {pos : Pos} {t : SmT} (ha : PT X e (rdT X.K t)) : PT X (.UnaryOp .Not e pos) (rdT X.K (xNotT t)) :=
  PT.imp (pt_not ha) fun σ H Q h => by
    obtain ⟨μ, ρ, st, hr, lr, q⟩ := h
    exact ⟨μ, ρ, st, hr, lr, q.bind_imp fun μ1 H1 b st1 l1 hr1 q1 => q1 μ1 H1 .refl hr1⟩
theorem pw_and_ {a b : Expr} {rest : List Expr} {pos : Pos} {t u : SmT} (ha : PT X a (rdT X.K t)) (hb : PW X (.BoolOp .And (b :: rest) pos) (rdT X.K u)) : PW X (.BoolOp .And (a :: b :: rest) pos) (rdT X.K (xAndT t u)) :=
  PW.imp (pw_and ha hb) fun σ H Q h => by
    obtain ⟨μ, ρ, st, hr, lr, q⟩ := h
    refine ⟨μ, ρ, st, hr, lr, q.bind_imp fun μ1 H1 b st1 l1 hr1 q1 => ?_⟩
    cases b with
    | true => exact iteT ⟨μ1, ρ, st1, hr1, lr.mono l1, q1⟩
    | false => exact iteF (q1 μ1 H1 .refl hr1)
theorem pw_or_ {a b : Expr} {rest : List Expr} {pos : Pos} {t u : SmT} (ha : PT X a (rdT X.K t)) (hb : PW X (.BoolOp .Or (b :: rest) pos) (rdT X.K u)) : PW X (.BoolOp .Or (a :: b :: rest) pos) (rdT X.K (xOrT t u)) :=
  PW.imp (pw_or ha hb) fun σ H Q h => by
    obtain ⟨μ, ρ, st, hr, lr, q⟩ := h
    refine ⟨μ, ρ, st, hr, lr, q.bind_imp fun μ1 H1 b st1 l1 hr1 q1 => ?_⟩
    cases b with
    | true => exact iteT (q1 μ1 H1 .refl hr1)
    | false => exact iteF ⟨μ1, ρ, st1, hr1, lr.mono l1, q1⟩
theorem pe_not_ {e : Expr} {pos : Pos} {f : Sm} (ha : PE X e (rd X.K f)) : PE X (.UnaryOp .Not e pos) (rd X.K (xNot f)) :=
  PE.imp (pe_notT ha) fun σ H Q h => by
    obtain ⟨μ, ρ, st, hr, lr, q⟩ := h
    refine ⟨μ, ρ, st, hr, lr, q.bind_imp fun μ1 H1 p st1 l1 hr1 q1 x hx => ?_⟩
    split at q1
    · rename_i b e1
      exact ⟨b, truP_ok hr1 hx e1, post_bl hr1 q1⟩
    · exact q1.elim
theorem pe_and_ {a b : Expr} {rest : List Expr} {pos : Pos} {f g : Sm} (ha : PE X a (rd X.K f)) (hb : PE X (.BoolOp .And (b :: rest) pos) (rd X.K g)) : PE X (.BoolOp .And (a :: b :: rest) pos) (rd X.K (xAnd f g)) :=
  PE.imp (pe_andT ha hb) fun σ H Q h => by
    obtain ⟨μ, ρ, st, hr, lr, q⟩ := h
    refine ⟨μ, ρ, st, hr, lr, q.bind_imp fun μ1 H1 p st1 l1 hr1 q1 x hx => ?_⟩
    split at q1
    · rename_i b e1
      refine ⟨b, truP_ok hr1 hx e1, ?_⟩
      cases b with
      | true => exact iteT ⟨μ1, ρ, st1, hr1, lr.mono l1, q1⟩
      | false => exact iteF (post_same hr1 hx q1)
    · exact q1.elim
theorem pe_or_ {a b : Expr} {rest : List Expr} {pos : Pos} {f g : Sm} (ha : PE X a (rd X.K f)) (hb : PE X (.BoolOp .Or (b :: rest) pos) (rd X.K g)) : PE X (.BoolOp .Or (a :: b :: rest) pos) (rd X.K (xOr f g)) :=
  PE.imp (pe_orT ha hb) fun σ H Q h => by
    obtain ⟨μ, ρ, st, hr, lr, q⟩ := h
    refine ⟨μ, ρ, st, hr, lr, q.bind_imp fun μ1 H1 p st1 l1 hr1 q1 x hx => ?_⟩
    split at q1
    · rename_i b e1
      refine ⟨b, truP_ok hr1 hx e1, ?_⟩
      cases b with
      | true => exact iteT (post_same hr1 hx q1)
      | false => exact iteF ⟨μ1, ρ, st1, hr1, lr.mono l1, q1⟩
    · exact q1.elim
theorem pe_ite_ {c a b : Expr} {pos : Pos} {t : SmT} {f g : Sm} (hc : PT X c (rdT X.K t)) (ha : PE X a (rd X.K f)) (hb : PE X b (rd X.K g)) : PE X (.IfExp c a b pos) (rd X.K (xIte t f g)) :=
  PE.imp (pe_ifExp hc ha hb) fun σ H Q h => by
    obtain ⟨μ, ρ, st, hr, lr, q⟩ := h
    refine ⟨μ, ρ, st, hr, lr, q.bind_imp fun μ1 H1 b st1 l1 hr1 q1 => ?_⟩
    cases b with
    | true => exact iteT ⟨μ1, ρ, st1, hr1, lr.mono l1, q1⟩
    | false => exact iteF ⟨μ1, ρ, st1, hr1, lr.mono l1, q1⟩
end
end Pe
namespace Pe
open PySem PySem.Spec PyProof.Rows L2
variable {K : PySem.W.Frag} {μ μ' μ'' : List Addr} {H H' H'' : Hp} {st st' : Store} {σ : L2.St} {ρ : Env}

/-! ### displays -/
def xTup (fl : SmL) : Sm := fun ρ st => (fl ρ st).bind fun ps st1 => if ps.length ≤ sizeLine then .ok (.tup ps) st1 else .bad
def xLst (fl : SmL) : Sm := fun ρ st => (fl ρ st).bind fun ps st1 => if ps.length ≤ sizeLine then newL ps st1 else .bad
theorem pe_tup_ {X : Cx} {es : List Expr} {k : Nat} {pos : Pos} {fl : SmL} (h : PA X es (rdL X.K fl)) : PE X (.Tuple es k pos) (rd X.K (xTup fl)) :=
  PE.imp (pe_tup h) fun σ H Q h => by
    obtain ⟨μ, ρ, st, hr, lr, q⟩ := h
    refine ⟨μ, ρ, st, hr, lr, q.bind_imp fun μ1 H1 ps st1 l1 hr1 q1 vs hvs => ?_⟩
    split at q1
    · rename_i hz
      exact ⟨by rw [hvs.length]; exact hz, post_tup hr1 hvs q1⟩
    · exact q1.elim
theorem pe_lst_ {X : Cx} {es : List Expr} {pos : Pos} {fl : SmL} (h : PA X es (rdL X.K fl)) : PE X (.List es pos) (rd X.K (xLst fl)) :=
  PE.imp (pe_lst h) fun σ H Q h => by
    obtain ⟨μ, ρ, st, hr, lr, q⟩ := h
    refine ⟨μ, ρ, st, hr, lr, q.bind_imp fun μ1 H1 ps st1 l1 hr1 q1 vs hvs => ?_⟩
    split at q1
    · rename_i hz
      exact ⟨by rw [hvs.length]; exact hz, post_lst hr1 hvs q1⟩
    · exact q1.elim

/-! ### items, slices -/
theorem VRs.atI {vs : List V} {ps : List PV} {i : Int} {p : PV} (h : VRs K μ H vs ps) (e : L2.atI ps i = some p) : ∃ v, L2.atI vs i = some v ∧ VR K μ H v p := by
  unfold L2.atI at e ⊢
  rw [h.length]
  obtain ⟨j, e1, e2⟩ := Option.bind_eq_some_iff.mp e
  obtain ⟨v, e3, e4⟩ := h.get e2
  exact ⟨v, by rw [e1]; exact e3, e4⟩
def gIdx : PV → PV → Store → Res PV
  | .tup ps, .int i, st => match atI ps i with
    | some p => .ok p st
    | none => .bad
  | .ref n, .int i, st => match listAt st n with
    | some ps => match atI ps i with
      | some p => .ok p st
      | none => .bad
    | none => .bad
  | _, _, _ => .bad
theorem ix_gIdx {X : Cx} : IxR X (rd2 X.K gIdx) := by
  intro value slice pins s σ H x y v u Q I rx ry h hs
  obtain ⟨μ, st, p, q, hr, hx, hy, k⟩ := h
  unfold gIdx at k
  split at k
  · obtain ⟨a, xs, rfl, h1, r1⟩ := hx.tup_inv
    cases hy.int_inv
    split at k
    · rename_i e
      obtain ⟨w, e1, e2⟩ := r1.atI e
      exact ix_tup value slice pins s σ H _ _ v u Q I rx ry ⟨a, xs, _, w, rfl, rfl, h1, e1, post_same hr e2 k⟩ hs
    · exact k.elim
  · cases hy.int_inv
    split at k
    · rename_i e0
      split at k
      · rename_i e
        obtain ⟨a, xs, m, h1, r1⟩ := hr.listAt e0
        cases ref_is hx m
        obtain ⟨w, e1, e2⟩ := r1.atI e
        exact ix_list value slice pins s σ H _ _ v u Q I rx ry ⟨a, xs, _, w, rfl, rfl, h1, e1, post_same hr e2 k⟩ hs
      · exact k.elim
    · exact k.elim
  · exact k.elim
theorem pe_idx_ {X : Cx} {a b : Expr} {pos : Pos} {fa fb : Sm} (ha : PE X a (rd X.K fa)) (hb : PE X b (rd X.K fb)) (hs : PlainIx b) : PE X (.Subscript a b pos) (rd X.K (xBin gIdx fa fb)) :=
  PE.imp (pe_ix ix_gIdx ha hb hs) fun _ _ _ => rd_bin
def cutP (xs : List PV) (lo hi : Option Int) : List PV := (xs.drop (HT.sIx xs.length 0 lo)).take (HT.sIx xs.length xs.length hi - HT.sIx xs.length 0 lo)
theorem VRs.cut {vs : List V} {ps : List PV} (h : VRs K μ H vs ps) (lo hi : Option Int) : VRs K μ H (cutV vs lo hi) (cutP ps lo hi) := by
  unfold cutV cutP
  rw [h.length]
  exact (h.drop _).take _
theorem sIx_hi (n : Nat) (hi : Option Int) : HT.sIx n n hi ≤ n := HT.sIx_le _ _ (Nat.le_refl _) _
theorem cutP_whole {ps : List PV} {lo hi : Option Int} (h1 : HT.sIx ps.length 0 lo = 0) (h2 : HT.sIx ps.length ps.length hi = ps.length) : cutP ps lo hi = ps := by
  unfold cutP
  rw [h1, h2, List.drop_zero, Nat.sub_zero, List.take_length]
abbrev SmO := Env → Store → Res (Option Int)
def xNoPart : SmO := fun _ st => .ok none st
def xPart (f : Sm) : SmO := fun ρ st => (f ρ st).bind fun p st1 => match p with
  | .int i => .ok (some i) st1
  | _ => .bad
def rdO (K : PySem.W.Frag) (f : SmO) : TO := fun σ H Q => ∃ μ ρ st, HR K μ H st ∧ LR K μ H σ ρ ∧ Post K μ H (f ρ st) (fun _ H' o _ => Q o H')
theorem PO.imp {X : Cx} {e : Option Expr} {t t' : TO} (h : PO X e t) (f : ∀ σ H Q, t' σ H Q → t σ H Q) : PO X e t' := ⟨fun pins s σ H Q I w => h.run pins s σ H Q I (f σ H Q w)⟩
theorem po_none_ {X : Cx} : PO X none (rdO X.K xNoPart) := PO.imp po_none fun σ H Q h => by
  obtain ⟨μ, ρ, st, hr, lr, q⟩ := h
  exact q μ H .refl hr
theorem po_some_ {X : Cx} {e : Expr} {f : Sm} (h : PE X e (rd X.K f)) : PO X (some e) (rdO X.K (xPart f)) := PO.imp (po_some h) fun σ H Q h => by
  obtain ⟨μ, ρ, st, hr, lr, q⟩ := h
  refine ⟨μ, ρ, st, hr, lr, q.bind_imp fun μ1 H1 p st1 l1 hr1 q1 v hv => ?_⟩
  cases hv with
  | int i => exact ⟨i, rfl, q1 μ1 H1 .refl hr1⟩
  | _ => exact q1.elim
def gCut : PV → Option Int → Option Int → Store → Res PV
  | .tup ps, lo, hi, st => .ok (.tup (cutP ps lo hi)) st
  | .ref n, lo, hi, st => match listAt st n with
    | some ps => newL (cutP ps lo hi) st
    | none => .bad
  | _, _, _, _ => .bad
def rdC (K : PySem.W.Frag) : V → Option Int → Option Int → Hp → VK → Prop := fun x lo hi H Q => ∃ μ st p, HR K μ H st ∧ VR K μ H x p ∧ Post K μ H (gCut p lo hi st) (QV K Q)
theorem sl_gCut {X : Cx} : SlR X (rdC X.K) := by
  intro pins s σ H x v vl vu lo hi sl Q I rx hs pl pu h
  obtain ⟨μ, st, p, hr, hx, k⟩ := h
  unfold gCut at k
  split at k
  · obtain ⟨a, xs, rfl, h1, r1⟩ := hx.tup_inv
    refine sl_tupA pins s σ H _ v vl vu lo hi sl Q I rx hs pl pu ⟨a, xs, rfl, h1, fun e => ?_, fun _ => post_tup hr (r1.cut lo hi) k⟩
    rw [r1.length] at e
    rw [cutP_whole e.1 e.2] at k
    exact post_same hr hx k
  · split at k
    · rename_i e0
      obtain ⟨a, xs, m, h1, r1⟩ := hr.listAt e0
      cases ref_is hx m
      exact sl_list pins s σ H _ v vl vu lo hi sl Q I rx hs pl pu ⟨a, xs, rfl, h1, post_lst hr (r1.cut lo hi) k⟩
    · exact k.elim
  · exact k.elim
def xCut (f : Sm) (lo hi : SmO) : Sm := fun ρ st => (f ρ st).bind fun p st1 => (lo ρ st1).bind fun l st2 => (hi ρ st2).bind fun u st3 => gCut p l u st3
theorem pe_cut_ {X : Cx} {e : Expr} {lo hi : Option Expr} {pos p2 : Pos} {f : Sm} {fl fu : SmO} (he : PE X e (rd X.K f)) (hl : PO X lo (rdO X.K fl)) (hu : PO X hi (rdO X.K fu)) : PE X (.Subscript e (.Slice lo hi none p2) pos) (rd X.K (xCut f fl fu)) :=
  PE.imp (pe_slice sl_gCut he hl hu) fun σ H Q h => by
    obtain ⟨μ, ρ, st, hr, lr, q⟩ := h
    refine ⟨μ, ρ, st, hr, lr, q.bind_imp fun μ1 H1 p st1 l1 hr1 q1 x hx => ?_⟩
    refine ⟨μ1, ρ, st1, hr1, lr.mono l1, q1.bind_imp fun μ2 H2 l st2 l2 hr2 q2 => ?_⟩
    refine ⟨μ2, ρ, st2, hr2, (lr.mono l1).mono l2, q2.bind_imp fun μ3 H3 u st3 l3 hr3 q3 => ?_⟩
    exact ⟨μ3, st3, p, hr3, (hx.mono l2).mono l3, q3⟩
/-- xs[::-1] of a list or a tuple -/
def xRevL (f : Sm) : Sm := fun ρ st => (f ρ st).bind fun p st1 => match p with
  | .ref n => match listAt st1 n with
    | some ps => newL ps.reverse st1
    | none => .bad
  | .tup ps => .ok (.tup ps.reverse) st1
  | _ => .bad
theorem VRs.reverse : ∀ {vs : List V} {ps : List PV}, VRs K μ H vs ps → VRs K μ H vs.reverse ps.reverse
  | _, _, .nil => .nil
  | _, _, .cons r t => by rw [List.reverse_cons, List.reverse_cons]; exact (VRs.reverse t).append (.cons r .nil)
theorem pe_revL_ {X : Cx} {e : Expr} {k : Nat} {p1 p2 p3 pos : Pos} {f : Sm} (he : PE X e (rd X.K f)) : PE X (.Subscript e (.Slice none none (some (.UnaryOp .USub (.Constant (.int 1) k p1) p2)) p3) pos) (rd X.K (xRevL f)) :=
  PE.imp (pe_revA he) fun σ H Q h => by
    obtain ⟨μ, ρ, st, hr, lr, q⟩ := h
    refine ⟨μ, ρ, st, hr, lr, q.bind_imp fun μ1 H1 p st1 l1 hr1 q1 x hx => ?_⟩
    cases hx with
    | @ref n a m =>
      have q2 : Post X.K μ1 H1 (match listAt st1 n with | some ps => newL ps.reverse st1 | none => .bad) (QV X.K Q) := q1
      split at q2
      · rename_i e0
        obtain ⟨b, xs, m2, h1, r1⟩ := hr1.listAt e0
        rw [m] at m2
        cases m2
        exact ⟨a, xs, rfl, .inl ⟨h1, post_lst hr1 r1.reverse q2⟩⟩
      · exact q2.elim
    | tup e0 r =>
      exact ⟨_, _, rfl, .inr ⟨e0, post_tup hr1 r.reverse q1⟩⟩
    | _ => exact q1.elim

/-! ### built-ins by values -/
def gLen : Fn
  | [.str x], st => if x.length ≤ sizeLine then .ok (.int x.length) st else .bad
  | [.tup ps], st => .ok (.int ps.length) st
  | [.ref n], st => match listAt st n with
    | some ps => .ok (.int ps.length) st
    | none => .bad
  | _, _ => .bad
def gAbs : Fn
  | [.int i], st => .ok (.int (if i < 0 then -i else i)) st
  | _, _ => .bad
def gMax : Fn
  | [.int i, .int j], st => .ok (.int (if j > i then j else i)) st
  | [.int i, .int j, .int k], st => .ok (.int (if j > i then (if k > j then k else j) else (if k > i then k else i))) st
  | _, _ => .bad
def gMin : Fn
  | [.int i, .int j], st => .ok (.int (if j < i then j else i)) st
  | _, _ => .bad
def gInt : Fn
  | [.int i], st => .ok (.int i) st
  | [.bl b], st => .ok (.int (if b then 1 else 0)) st
  | _, _ => .bad
def gDivmod : Fn
  | [.int i, .int j], st => if 0 < j ∧ j < 1073741824 then .ok (.tup [.int (i / j), .int (i % j)]) st else .bad
  | _, _ => .bad
def gGcd : Fn
  | [.int i, .int j], st => .ok (.int ((Nat.gcd i.natAbs j.natAbs : Nat) : Int)) st
  | _, _ => .bad
def gList : Fn
  | [.tup ps], st => newL ps st
  | [.ref n], st => match listAt st n with
    | some ps => newL ps st
    | none => .bad
  | _, _ => .bad
def gTuple : Fn
  | [.tup ps], st => .ok (.tup ps) st
  | [.ref n], st => match listAt st n with
    | some ps => .ok (.tup ps) st
    | none => .bad
  | _, _ => .bad
def blsOf : List PV → Option (List Bool)
  | [] => some []
  | .bl b :: r => (blsOf r).map (b :: ·)
  | _ => none
def intsOf : List PV → Option (List Int)
  | [] => some []
  | .int b :: r => (intsOf r).map (b :: ·)
  | _ => none
theorem blsOf_ok : ∀ {ps : List PV} {vs : List V} {bs : List Bool}, VRs K μ H vs ps → blsOf ps = some bs → vs = bs.map V.bl
  | [], _, _, .nil, e => by cases e; rfl
  | .bl b :: r, _, bs, .cons h t, e => by
    cases h
    obtain ⟨cs, e1, e2⟩ := Option.map_eq_some_iff.mp (show (blsOf r).map (b :: ·) = some bs from e)
    subst e2
    rw [blsOf_ok t e1] <;> rfl
  | .non :: _, _, _, _, e => by cases e
  | .int _ :: _, _, _, _, e => by cases e
  | .str _ :: _, _, _, _, e => by cases e
  | .tup _ :: _, _, _, _, e => by cases e
  | .ref _ :: _, _, _, _, e => by cases e
theorem intsOf_ok : ∀ {ps : List PV} {vs : List V} {bs : List Int}, VRs K μ H vs ps → intsOf ps = some bs → vs = bs.map V.int
  | [], _, _, .nil, e => by cases e; rfl
  | .int b :: r, _, bs, .cons h t, e => by
    cases h
    obtain ⟨cs, e1, e2⟩ := Option.map_eq_some_iff.mp (show (intsOf r).map (b :: ·) = some bs from e)
    subst e2
    rw [intsOf_ok t e1] <;> rfl
  | .non :: _, _, _, _, e => by cases e
  | .bl _ :: _, _, _, _, e => by cases e
  | .str _ :: _, _, _, _, e => by cases e
  | .tup _ :: _, _, _, _, e => by cases e
  | .ref _ :: _, _, _, _, e => by cases e
def gAll : Fn
  | [.ref n], st => match (listAt st n).bind blsOf with
    | some bs => .ok (.bl (bs.all id)) st
    | none => .bad
  | _, _ => .bad
def gAny : Fn
  | [.ref n], st => match (listAt st n).bind blsOf with
    | some bs => .ok (.bl (bs.any id)) st
    | none => .bad
  | _, _ => .bad
def gSum : Fn
  | [.ref n], st => match (listAt st n).bind intsOf with
    | some bs => .ok (.int bs.sum) st
    | none => .bad
  | _, _ => .bad
/-- repr of data -/
def gRepr : Fn
  | [.int i], st => if i.natAbs.log2 < 1920 then .ok (.str (toString i)) st else .bad
  | [.bl b], st => .ok (.str (if b then "True" else "False")) st
  | [.non], st => .ok (.str "None") st
  | [.tup ps], st => match toD st (.tup ps) with
    | some d => if d.showable = true ∧ SeqAt.shaped d = true ∧ d.shown.length ≤ sizeLine then .ok (.str d.shown) st else .bad
    | none => .bad
  | [.ref n], st => match toD st (.ref n) with
    | some d => if d.showable = true ∧ SeqAt.shaped d = true ∧ d.shown.length ≤ sizeLine then .ok (.str d.shown) st else .bad
    | none => .bad
  | _, _ => .bad
section
variable {X : Cx}
theorem VRs.one {vs : List V} {p : PV} (h : VRs K μ H vs [p]) : ∃ v, vs = [v] ∧ VR K μ H v p := by
  cases h with | cons r t => cases t; exact ⟨_, rfl, r⟩
theorem VRs.two {vs : List V} {p q : PV} (h : VRs K μ H vs [p, q]) : ∃ v w, vs = [v, w] ∧ VR K μ H v p ∧ VR K μ H w q := by
  cases h with | cons r t => cases t with | cons r2 t => cases t; exact ⟨_, _, rfl, r, r2⟩
theorem cb_len : CallR X (.builtin "len") (rdN X.K gLen) := by
  intro pins s σ H xs us Q I r h
  obtain ⟨μ, st, ps, hr, hx, k⟩ := h
  unfold gLen at k
  split at k
  · obtain ⟨v, rfl, h1⟩ := hx.one
    cases h1.str_inv
    split at k
    · exact call_len pins s σ H _ us Q I r ⟨_, _, rfl, ⟨by assumption, rfl⟩, post_int hr k⟩
    · exact k.elim
  · obtain ⟨v, rfl, h1⟩ := hx.one
    obtain ⟨a, xs, rfl, h2, r2⟩ := h1.tup_inv
    exact call_len pins s σ H _ us Q I r ⟨_, _, rfl, .inr ⟨xs, h2, rfl⟩, by rw [r2.length]; exact post_int hr k⟩
  · obtain ⟨v, rfl, h1⟩ := hx.one
    split at k
    · rename_i e0
      obtain ⟨b, xs, m, h2, r2⟩ := hr.listAt e0
      cases ref_is h1 m
      exact call_len pins s σ H _ us Q I r ⟨_, _, rfl, .inl ⟨xs, h2, rfl⟩, by rw [r2.length]; exact post_int hr k⟩
    · exact k.elim
  · exact k.elim
theorem cb_abs : CallR X (.builtin "abs") (rdN X.K gAbs) := by
  intro pins s σ H xs us Q I r h
  obtain ⟨μ, st, ps, hr, hx, k⟩ := h
  unfold gAbs at k
  split at k
  · obtain ⟨v, rfl, h1⟩ := hx.one
    cases h1.int_inv
    exact call_abs pins s σ H _ us Q I r ⟨_, rfl, post_int hr k⟩
  · exact k.elim
theorem VRs.three {vs : List V} {p q r : PV} (h : VRs K μ H vs [p, q, r]) : ∃ v w x, vs = [v, w, x] ∧ VR K μ H v p ∧ VR K μ H w q ∧ VR K μ H x r := by
  cases h with
  | cons r1 t =>
    obtain ⟨w, x, rfl, r2, r3⟩ := t.two
    exact ⟨_, _, _, rfl, r1, r2, r3⟩
theorem call_max3 (hc : X.calm = true) : CallR X (.builtin "max") (fun xs H Q => ∃ i j k, xs = [.int i, .int j, .int k] ∧ Q (.int (if j > i then (if k > j then k else j) else (if k > i then k else i))) H) := by
  intro pins s σ H xs us Q I r h
  obtain ⟨i, j, k, rfl, q⟩ := h
  cases r with
  | cons r1 r2 =>
    obtain ⟨u, w', rfl, ⟨t', rfl⟩, ⟨t3, rfl⟩⟩ := vals2 r2
    obtain ⟨t, rfl⟩ := r1
    refine max_three_ints (I.ok.hd hc) fun h' tk k => ⟨_, H, I.kept k, ?_, q⟩
    split <;> split <;> exact ⟨_, rfl⟩
theorem cb_max (hc : X.calm = true) : CallR X (.builtin "max") (rdN X.K gMax) := by
  intro pins s σ H xs us Q I r h
  obtain ⟨μ, st, ps, hr, hx, k⟩ := h
  unfold gMax at k
  split at k
  · obtain ⟨v, w, rfl, h1, h2⟩ := hx.two
    cases h1.int_inv; cases h2.int_inv
    exact call_max2 hc pins s σ H _ us Q I r ⟨_, _, rfl, post_int hr k⟩
  · obtain ⟨v, w, x, rfl, h1, h2, h3⟩ := hx.three
    cases h1.int_inv; cases h2.int_inv; cases h3.int_inv
    exact call_max3 hc pins s σ H _ us Q I r ⟨_, _, _, rfl, post_int hr k⟩
  · exact k.elim
theorem cb_min (hc : X.calm = true) : CallR X (.builtin "min") (rdN X.K gMin) := by
  intro pins s σ H xs us Q I r h
  obtain ⟨μ, st, ps, hr, hx, k⟩ := h
  unfold gMin at k
  split at k
  · obtain ⟨v, w, rfl, h1, h2⟩ := hx.two
    cases h1.int_inv; cases h2.int_inv
    exact call_min2 hc pins s σ H _ us Q I r ⟨_, _, rfl, post_int hr k⟩
  · exact k.elim
theorem cb_int : CallR X (.type "int") (rdN X.K gInt) := by
  intro pins s σ H xs us Q I r h
  obtain ⟨μ, st, ps, hr, hx, k⟩ := h
  unfold gInt at k
  split at k
  · obtain ⟨v, rfl, h1⟩ := hx.one
    cases h1.int_inv
    exact call_int1 pins s σ H _ us Q I r (.inl ⟨_, rfl, post_int hr k⟩)
  · obtain ⟨v, rfl, h1⟩ := hx.one
    cases h1.bl_inv
    exact call_int1 pins s σ H _ us Q I r (.inr ⟨_, rfl, post_int hr k⟩)
  · exact k.elim
theorem cb_divmod : CallR X (.builtin "divmod") (rdN X.K gDivmod) := by
  intro pins s σ H xs us Q I r h
  obtain ⟨μ, st, ps, hr, hx, k⟩ := h
  unfold gDivmod at k
  split at k
  · obtain ⟨v, w, rfl, h1, h2⟩ := hx.two
    cases h1.int_inv; cases h2.int_inv
    split at k
    · exact call_divmod pins s σ H _ us Q I r ⟨_, _, rfl, by assumption, post_tup hr (.cons (.int _) (.cons (.int _) .nil)) k⟩
    · exact k.elim
  · exact k.elim
theorem cb_gcd : CallR X (.builtin "math.gcd") (rdN X.K gGcd) := by
  intro pins s σ H xs us Q I r h
  obtain ⟨μ, st, ps, hr, hx, k⟩ := h
  unfold gGcd at k
  split at k
  · obtain ⟨v, w, rfl, h1, h2⟩ := hx.two
    cases h1.int_inv; cases h2.int_inv
    exact cr_gcd pins s σ H _ us Q I r ⟨_, _, rfl, post_int hr k⟩
  · exact k.elim
theorem cb_list : CallR X (.type "list") (rdN X.K gList) := by
  intro pins s σ H xs us Q I r h
  obtain ⟨μ, st, ps, hr, hx, k⟩ := h
  unfold gList at k
  split at k
  · obtain ⟨v, rfl, h1⟩ := hx.one
    obtain ⟨a, xs, rfl, h2, r2⟩ := h1.tup_inv
    exact call_list_of pins s σ H _ us Q I r ⟨a, xs, rfl, .inr h2, post_lst hr r2 k⟩
  · obtain ⟨v, rfl, h1⟩ := hx.one
    split at k
    · rename_i e0
      obtain ⟨b, xs, m, h2, r2⟩ := hr.listAt e0
      cases ref_is h1 m
      exact call_list_of pins s σ H _ us Q I r ⟨b, xs, rfl, .inl h2, post_lst hr r2 k⟩
    · exact k.elim
  · exact k.elim
theorem cb_tuple : CallR X (.type "tuple") (rdN X.K gTuple) := by
  intro pins s σ H xs us Q I r h
  obtain ⟨μ, st, ps, hr, hx, k⟩ := h
  unfold gTuple at k
  split at k
  · obtain ⟨v, rfl, h1⟩ := hx.one
    obtain ⟨a, xs, rfl, h2, r2⟩ := h1.tup_inv
    exact call_tuple_of pins s σ H _ us Q I r ⟨a, xs, rfl, .inr ⟨h2, post_same hr h1 k⟩⟩
  · obtain ⟨v, rfl, h1⟩ := hx.one
    split at k
    · rename_i e0
      obtain ⟨b, xs, m, h2, r2⟩ := hr.listAt e0
      cases ref_is h1 m
      exact call_tuple_of pins s σ H _ us Q I r ⟨b, xs, rfl, .inl ⟨h2, post_tup hr r2 k⟩⟩
    · exact k.elim
  · exact k.elim
theorem cb_all (hc : X.calm = true) : CallR X (.builtin "all") (rdN X.K gAll) := by
  intro pins s σ H xs us Q I r h
  obtain ⟨μ, st, ps, hr, hx, k⟩ := h
  unfold gAll at k
  split at k
  · obtain ⟨v, rfl, h1⟩ := hx.one
    split at k
    · rename_i bs e0
      obtain ⟨qs, e1, e2⟩ := Option.bind_eq_some_iff.mp e0
      obtain ⟨b, xs, m, h2, r2⟩ := hr.listAt e1
      cases ref_is h1 m
      exact cr_all hc pins s σ H _ us Q I r ⟨b, bs, rfl, by rw [← blsOf_ok r2 e2]; exact h2, post_bl hr k⟩
    · exact k.elim
  · exact k.elim
theorem cb_any (hc : X.calm = true) : CallR X (.builtin "any") (rdN X.K gAny) := by
  intro pins s σ H xs us Q I r h
  obtain ⟨μ, st, ps, hr, hx, k⟩ := h
  unfold gAny at k
  split at k
  · obtain ⟨v, rfl, h1⟩ := hx.one
    split at k
    · rename_i bs e0
      obtain ⟨qs, e1, e2⟩ := Option.bind_eq_some_iff.mp e0
      obtain ⟨b, xs, m, h2, r2⟩ := hr.listAt e1
      cases ref_is h1 m
      exact cr_any hc pins s σ H _ us Q I r ⟨b, bs, rfl, by rw [← blsOf_ok r2 e2]; exact h2, post_bl hr k⟩
    · exact k.elim
  · exact k.elim
theorem cb_sum (hc : X.calm = true) : CallR X (.builtin "sum") (rdN X.K gSum) := by
  intro pins s σ H xs us Q I r h
  obtain ⟨μ, st, ps, hr, hx, k⟩ := h
  unfold gSum at k
  split at k
  · obtain ⟨v, rfl, h1⟩ := hx.one
    split at k
    · rename_i bs e0
      obtain ⟨qs, e1, e2⟩ := Option.bind_eq_some_iff.mp e0
      obtain ⟨b, xs, m, h2, r2⟩ := hr.listAt e1
      cases ref_is h1 m
      exact cr_sum hc pins s σ H _ us Q I r ⟨b, bs, rfl, by rw [← intsOf_ok r2 e2]; exact h2, post_int hr k⟩
    · exact k.elim
  · exact k.elim
theorem repr_data (hg : X.A.guards = some []) (hu : X.A.units + 80 < cLine) {pins : List (Addr × Obj)} {s : Shared} {σ : L2.St} {H : Hp} {a : Addr} {d : PyData} {Q : VK} (I : Inv X pins σ H s) (hd : Dp X.K H (.ref a) d) (h1 : d.showable = true) (h2 : SeqAt.shaped d = true) (h3 : d.shown.length ≤ sizeLine)
    (q : Q (.str d.shown) H) : wpAny (model X.prog X.w) X.A (call (.builtin "repr") [.ref a]) (EP X pins σ Q) X.xe s := by
  obtain ⟨as, r1⟩ := Dp.reads I d (.ref a) (.ref a) hd rfl
  refine repr_of_reads' r1 h1 (PyData.noDict_hsm (PyData.hasDict_of_canLay d (SeqAt.canLay_of_shaped h2))) hg ?_ (fun _ _ e => e) (fun h' u tk hk => ⟨.str d.shown, H, I.kept hk, ⟨u, rfl⟩, q⟩) h3
  have := SeqAt.depth_of_shaped h2
  omega
theorem cb_repr (hg : X.A.guards = some []) (hu : X.A.units + 80 < cLine) : CallR X (.builtin "repr") (rdN X.K gRepr) := by
  intro pins s σ H xs us Q I r h
  obtain ⟨μ, st, ps, hr, hx, k⟩ := h
  unfold gRepr at k
  split at k
  · obtain ⟨v, rfl, h1⟩ := hx.one
    cases h1.int_inv
    split at k
    · cases r with
      | cons r t =>
        cases t
        obtain ⟨t, rfl⟩ := r
        exact PySem.P.repr_of_int (by assumption) ⟨.str _, H, I.tok _, ⟨_, rfl⟩, post_str hr k⟩
    · exact k.elim
  · obtain ⟨v, rfl, h1⟩ := hx.one
    cases h1.bl_inv
    cases r with
    | cons r t =>
      cases t
      cases r
      exact PySem.P.repr_of_bool ⟨.str _, H, I.tok _, ⟨_, rfl⟩, post_str hr k⟩
  · obtain ⟨v, rfl, h1⟩ := hx.one
    cases h1.non_inv
    cases r with
    | cons r t =>
      cases t
      cases r
      exact PySem.P.repr_of_none ⟨.str _, H, I.tok _, ⟨_, rfl⟩, post_str hr k⟩
  · obtain ⟨v, rfl, h1⟩ := hx.one
    split at k
    · rename_i d e0
      split at k
      · rename_i z
        have dp := toD_ok hr h1 e0
        obtain ⟨a, xs, rfl, h2, r2⟩ := h1.tup_inv
        cases r with
        | cons r t =>
          cases t
          cases r
          exact repr_data hg hu I dp z.1 z.2.1 z.2.2 (post_str hr k)
      · exact k.elim
    · exact k.elim
  · obtain ⟨v, rfl, h1⟩ := hx.one
    split at k
    · rename_i d e0
      split at k
      · rename_i z
        have dp := toD_ok hr h1 e0
        obtain ⟨a, rfl, m⟩ := h1.ref_inv
        cases r with
        | cons r t =>
          cases t
          cases r
          exact repr_data hg hu I dp z.1 z.2.1 z.2.2 (post_str hr k)
      · exact k.elim
    · exact k.elim
  · exact k.elim
end
/-- isinstance(x, T), T a built-in class -/
def kindP : PV → Store → Option String
  | .non, _ => some "NoneType"
  | .bl _, _ => some "bool"
  | .int _, _ => some "int"
  | .str _, _ => some "str"
  | .tup _, _ => some "tuple"
  | .ref n, st => match listAt st n with
    | some _ => some "list"
    | none => none
def subTy (t T : String) : Option Bool := if T = "int" then some (t == "int" || t == "bool") else if T = "bool" then some (t == "bool") else if T = "str" then some (t == "str") else if T = "tuple" then some (t == "tuple") else if T = "list" then some (t == "list") else none
def gIsi (T : String) : PV → Store → Res PV := fun p st => match (kindP p st).bind fun t => subTy t T with
  | some b => .ok (.bl b) st
  | none => .bad
end Pe
namespace Pe
open PySem PySem.Spec PyProof.Rows L2
variable {K : PySem.W.Frag} {μ μ' μ'' : List Addr} {H H' H'' : Hp} {st st' : Store} {σ : L2.St} {ρ : Env}

/-! ### isinstance -/
theorem kit_sub {t T : String} {b : Bool} (ht : t = "NoneType" ∨ t = "bool" ∨ t = "int" ∨ t = "str" ∨ t = "tuple" ∨ t = "list") (h : subTy t T = some b) : PySem.W.kitOne K (.type t) (.type T) = some b := by
  unfold subTy at h
  rcases ht with rfl | rfl | rfl | rfl | rfl | rfl <;>
    (split at h
     · rename_i e; subst e; cases h; kernel_rfl
     · split at h
       · rename_i e; subst e; cases h; kernel_rfl
       · split at h
         · rename_i e; subst e; cases h; kernel_rfl
         · split at h
           · rename_i e; subst e; cases h; kernel_rfl
           · split at h
             · rename_i e; subst e; cases h; kernel_rfl
             · cases h)
theorem kind_in {p : PV} {t : String} (h : kindP p st = some t) : t = "NoneType" ∨ t = "bool" ∨ t = "int" ∨ t = "str" ∨ t = "tuple" ∨ t = "list" := by
  cases p with
  | non => cases h; exact .inl rfl
  | bl _ => cases h; exact .inr (.inl rfl)
  | int _ => cases h; exact .inr (.inr (.inl rfl))
  | str _ => cases h; exact .inr (.inr (.inr (.inl rfl)))
  | tup _ => cases h; exact .inr (.inr (.inr (.inr (.inl rfl))))
  | ref n =>
    have h2 : (match listAt st n with | some _ => some "list" | none => none) = some t := h
    split at h2
    · cases h2; exact .inr (.inr (.inr (.inr (.inr rfl))))
    · cases h2
theorem kind_ty (hr : HR K μ H st) {p : PV} {v : V} {t : String} (hv : VR K μ H v p) (h : kindP p st = some t) : TyX K H v (.type t) := by
  cases hv with
  | non => cases h; exact .base .non
  | bl b => cases h; exact .base (.bl b)
  | int i => cases h; exact .base (.int i)
  | str x => cases h; exact .base (.str x)
  | tup q r =>
    cases h
    rcases q with (q | ⟨o, q⟩) | ⟨o, its, n, q, c, _⟩
    · exact .base (.tup q)
    · exact .fTuple q
    · exact .kTuple q c
  | @ref n a m =>
    have h2 : (match listAt st n with | some _ => some "list" | none => none) = some t := h
    split at h2
    · rename_i e
      cases h2
      obtain ⟨b, xs, m2, q, _⟩ := hr.listAt e
      rw [m] at m2
      cases m2
      rcases q with (q | ⟨o, q⟩) | ⟨o, its, n, q, c, _⟩
      · exact .base (.lst q)
      · exact .base (.frz q)
      · exact .kList q c
    · cases h2
theorem pe_isi_ {X : Cx} {e : Expr} {T : Str} {Ts : String} {p p2 pos : Pos} {f : Sm} (hg : Gl X "isinstance") (hm : X.mg "isinstance" = none) (hgT : Gl X T) (hmT : X.mg T = none) (hv : bootBuiltins T = some (.type Ts)) (hn : T ≠ "__name__") (hd : (T == ("__debug__" : Str)) = false)
    (he : PE X e (rd X.K f)) (hs : starEach [e, .Name T p2] X.env = (false, eval e X.env) :: starEach [.Name T p2] X.env) : PE X (.Call (.Name "isinstance" p) [e, .Name T p2] [] pos) (rd X.K (xUn (gIsi Ts) f)) :=
  PE.imp (pe_callB call_isi hg hm (by decide +kernel) (pa_cons he (pa_cons (pe_bltn (v := .ty Ts) hgT hmT hv rfl hn hd) pa_nil) hs) (he := hs)) fun σ H Q h => by
    obtain ⟨μ, ρ, st, hr, lr, q⟩ := h
    refine ⟨μ, ρ, st, hr, lr, q.bind_imp fun μ1 H1 p st1 l1 hr1 q1 x hx => ?_⟩
    have q2 : Post X.K μ1 H1 (match (kindP p st1).bind fun t => subTy t Ts with | some b => .ok (.bl b) st1 | none => .bad) (QV X.K Q) := q1
    split at q2
    · rename_i b e0
      obtain ⟨t, e1, e2⟩ := Option.bind_eq_some_iff.mp e0
      exact ⟨x, .ty Ts, .type t, .type Ts, b, rfl, .ty _, kind_ty hr1 hx e1, kit_sub (kind_in e1) e2, post_bl hr1 q2⟩
    · exact q2.elim

/-! ### built-ins called by their names -/
theorem pe_blt_ {X : Cx} {id : String} {x : Str} {g : Fn} {e : Expr} {es : List Expr} {p pos : Pos} {fl : SmL} (hc : CallR X (.builtin id) (rdN X.K g)) (hg : Gl X x) (hm : X.mg x = none) (hv : bootBuiltins x = some (.builtin id)) (ha : PA X (e :: es) (rdL X.K fl)) (hn : x ≠ "__name__") (hdb : (x == ("__debug__" : Str)) = false)
    (he : starEach (e :: es) X.env = (false, eval e X.env) :: starEach es X.env) (hpl : (backTo pos (starEach es X.env)).any (·.1) = false) : PE X (.Call (.Name x p) (e :: es) [] pos) (rd X.K (xCall g fl)) :=
  PE.imp (pe_callB hc hg hm hv ha hn hdb he hpl) fun _ _ _ => rd_callB
theorem pe_bty_ {X : Cx} {id : String} {x : Str} {g : Fn} {e : Expr} {es : List Expr} {p pos : Pos} {fl : SmL} (hc : CallR X (.type id) (rdN X.K g)) (hg : Gl X x) (hm : X.mg x = none) (hv : bootBuiltins x = some (.type id)) (ha : PA X (e :: es) (rdL X.K fl)) (hn : x ≠ "__name__") (hdb : (x == ("__debug__" : Str)) = false)
    (he : starEach (e :: es) X.env = (false, eval e X.env) :: starEach es X.env) (hpl : (backTo pos (starEach es X.env)).any (·.1) = false) : PE X (.Call (.Name x p) (e :: es) [] pos) (rd X.K (xCall g fl)) :=
  PE.imp (pe_callTy hc hg hm hv ha hn hdb he hpl) fun _ _ _ => rd_callB
theorem pe_bfn_ {X : Cx} {id : String} {x : Str} {g : Fn} {e : Expr} {es : List Expr} {p pos : Pos} {fl : SmL} (hc : CallR X (.builtin id) (rdN X.K g)) (hg : Gl X x) (hm : X.mg x = some (.builtin id)) (ha : PA X (e :: es) (rdL X.K fl)) (hdb : (x == ("__debug__" : Str)) = false)
    (he : starEach (e :: es) X.env = (false, eval e X.env) :: starEach es X.env) (hpl : (backTo pos (starEach es X.env)).any (·.1) = false) : PE X (.Call (.Name x p) (e :: es) [] pos) (rd X.K (xCall g fl)) :=
  PE.imp (pe_callBfun hc hg hm ha hdb he hpl) fun _ _ _ => rd_callB

/-! ### a def's promise, where no repr runs around -/
structure FnG (P : Program) (w : World) (K : PySem.W.Frag) (mg : Str → Option Value) (base : Heap) (k : Nat) (f : Addr) (fd : FuncData) (ps : List Str) (F : Fn) : Prop where
  run : ∀ (A : Around) (outer : List PySem.Env) (s : Shared) (H : Hp) (args : Args) (us : List Value) (vs : List V) (Q : VK), Room k A → Gz P base k A → Env0 P w K mg base A outer s H → BindsTo s fd args (ps.zip us) → Vals vs us → vs.length = ps.length →
    spF K F vs H Q E0 → codeAny (model P w) A (.call (.ref f) args) (CR CX0 outer P w H s Q E0) s
theorem FnG.mono {P : Program} {w : World} {mg : Str → Option Value} {base : Heap} {j k : Nat} {f : Addr} {fd : FuncData} {ps : List Str} {F : Fn} (G : FnG P w K mg base j f fd ps F) (h : j ≤ k) : FnG P w K mg base k f fd ps F :=
  ⟨fun A outer s H args us vs Q hr hz => G.run A outer s H args us vs Q (hr.mono h) (hz.mono h)⟩
def permL {α : Type} (idx : List Nat) (l : List α) : List α := idx.filterMap fun i => l[i]?
theorem VRs.perm {vs : List V} {ps : List PV} (h : VRs K μ H vs ps) : ∀ (idx : List Nat), VRs K μ H (permL idx vs) (permL idx ps)
  | [] => .nil
  | i :: r => by
    unfold permL
    rw [List.filterMap_cons, List.filterMap_cons]
    have ih := VRs.perm h r
    cases e : ps[i]? with
    | none =>
      have e2 : vs[i]? = none := by
        rw [List.getElem?_eq_none_iff] at e ⊢
        rw [h.length]; exact e
      rw [e2]
      exact ih
    | some p =>
      obtain ⟨v, e2, r2⟩ := h.get e
      rw [e2]
      exact .cons r2 ih
theorem vals_perm {vs : List V} {us : List Value} (h : Vals vs us) : ∀ (idx : List Nat), Vals (permL idx vs) (permL idx us)
  | [] => .nil
  | i :: r => by
    unfold permL
    rw [List.filterMap_cons, List.filterMap_cons]
    have ih := vals_perm h r
    cases e : vs[i]? with
    | none =>
      rw [h.none_of e]
      exact ih
    | some p =>
      obtain ⟨v, e2, r2⟩ := h.get e
      rw [e2]
      exact .cons r2 ih
/-- a call: the callee's meaning, what the written arguments are bound to (none: the parameters in their order) -/
structure Ent where
  fn : Fn
  idx : Option (List Nat)
def Ent.mean (e : Ent) : Fn := match e.idx with
  | none => e.fn
  | some idx => fun ps st => e.fn (permL idx ps) st
structure CallOk (P : Program) (w : World) (K : PySem.W.Frag) (mg : Str → Option Value) (base : Heap) (k : Nat) (x : Str) (np : Nat) (ks : List Str) (E : Ent) : Prop where
  ok : ∃ (f : Addr) (fd : FuncData) (ps : List Str), mg x = some (.ref f) ∧ PySem.W.keepIn K (.ref f) = true ∧ FnG P w K mg base k f fd ps E.fn ∧
    match E.idx with
    | none => np = ps.length ∧ ks = [] ∧ ∀ (s : Shared) (us : List Value), K.In s.heap → us.length = np → BindsTo s fd ⟨us, []⟩ (ps.zip us)
    | some idx => (∀ {α : Type} (l : List α), l.length = np + ks.length → (permL idx l).length = ps.length) ∧ ∀ (s : Shared) (us ws : List Value), K.In s.heap → us.length = np → ws.length = ks.length → BindsTo s fd ⟨us, ks.zip ws⟩ (ps.zip (permL idx (us ++ ws)))
section
variable {X : Cx} {k : Nat} {x : Str} {np : Nat} {ks : List Str} {En : Ent}
theorem run_g {pins : List (Addr × Obj)} {σ : L2.St} {H : Hp} {s : Shared} {Q : VK} {us ws : List Value} {vs zs : List V} {f : Addr} {fd : FuncData} {ps : List Str} {F : Fn} {args : Args} {us2 : List Value} {vs2 : List V} (G : FnG X.prog X.w X.K X.mg X.base k f fd ps F) (hr : Room k X.A) (hg : Gz X.prog X.base k X.A)
    (I : Inv X pins σ H s) (hb : BindsTo s fd args (ps.zip us2)) (r : Vals vs2 us2) (hl : vs2.length = ps.length) (h : spF X.K F vs2 H Q E0) : codeAny (model X.prog X.w) X.A (.call (.ref f) args) (fun r s' => match r with
      | .ok (.ret u) => EP X pins σ Q u s'
      | .ok _ => False
      | .error e => X.xe e s') s := by
  refine codeAny_mono (G.run X.A X.stack s H args us2 vs2 Q hr hg I.env0 hb r hl h) fun r s' hq => ?_
  cases r with
  | error e => exact False.elim hq
  | ok fl =>
    cases fl with
    | ret u => exact I.after hq
    | next => exact hq
    | brk => exact hq
    | cont => exact hq
theorem run_ent {pins : List (Addr × Obj)} {σ : L2.St} {H : Hp} {s : Shared} {Q : VK} {us ws : List Value} {vs zs : List V} {f : Addr} (C : CallOk X.prog X.w X.K X.mg X.base k x np ks En) (hm : X.mg x = some (.ref f)) (hr : Room k X.A) (hg : Gz X.prog X.base k X.A)
    (I : Inv X pins σ H s) (r : Vals vs us) (rz : Vals zs ws) (l1 : vs.length = np) (l2 : zs.length = ks.length) {μ : List Addr} {ps qs : List PV} {st : Store} (hr2 : HR X.K μ H st) (h1 : VRs X.K μ H vs ps) (h2 : VRs X.K μ H zs qs) (h : Post X.K μ H (En.mean (ps ++ qs) st) (QV X.K Q)) :
    wpAny (model X.prog X.w) X.A (call (.ref f) us (ks.zip ws)) (EP X pins σ Q) X.xe s := by
  obtain ⟨f2, fd, pn, e1, kp, G, hb⟩ := C.ok
  rw [hm] at e1
  cases e1
  unfold Ent.mean at h
  refine wpAny_call (codeAny_mono ?_ fun _ _ z => z)
  cases e : En.idx with
  | none =>
    rw [e] at hb h
    obtain ⟨z1, z2, z3⟩ := hb
    subst z2
    have z4 : zs = [] := List.length_eq_zero_iff.mp l2
    subst z4
    cases h2
    rw [List.append_nil] at h
    exact run_g (us := us) (ws := ws) (vs := vs) (zs := []) G hr hg I (z3 s us I.kIn (by rw [← r.length]; exact l1)) r (l1.trans z1) ⟨μ, ps, st, hr2, h1, h⟩
  | some idx =>
    rw [e] at hb h
    obtain ⟨z1, z3⟩ := hb
    refine run_g (us := us) (ws := ws) (vs := vs) (zs := zs) G hr hg I (z3 s us ws I.kIn (by rw [← r.length]; exact l1) (by rw [← rz.length]; exact l2)) (vals_perm (r.append rz) idx) (z1 _ (by rw [List.length_append, l1, l2])) ⟨μ, permL idx (ps ++ qs), st, hr2, (h1.append h2).perm idx, h⟩
/-- the keywords' values -/
theorem pk_cons_ {e : Expr} {kws : List Keyword} {nm : Option Str} {kpos : Pos} {f : Sm} {fr : SmL} (ha : PE X e (rd X.K f)) (hr : PK X kws (rdL X.K fr)) : PK X (⟨nm, e, kpos⟩ :: kws) (rdL X.K (xCons f fr)) := by
  have h := pk_cons (nm := nm) (kpos := kpos) ha hr
  refine ⟨fun pos pins s σ H Q I w => h.run pos pins s σ H Q I ?_⟩
  obtain ⟨μ, ρ, st, hr, lr, q⟩ := w
  refine ⟨μ, ρ, st, hr, lr, q.bind_imp fun μ1 H1 p st1 l1 hr1 q1 x hx => ?_⟩
  refine ⟨μ1, ρ, st1, hr1, lr.mono l1, q1.bind_imp fun μ2 H2 ps st2 l2 hr2 q2 xs hxs => ?_⟩
  exact q2 μ2 H2 .refl hr2 (x :: xs) (.cons (hx.mono l2) hxs)
theorem pk_nil_ : PK X [] (rdL X.K xNil) := by
  refine ⟨fun pos pins s σ H Q I w => (pk_nil (X := X)).run pos pins s σ H Q I ?_⟩
  obtain ⟨μ, ρ, st, hr, lr, q⟩ := w
  exact q μ H .refl hr [] .nil
/-- f(e, .., k = v, ..) -/
def xCallE (E : Ent) (np nk : Nat) (fl fk : SmL) : Sm := fun ρ st => (fl ρ st).bind fun ps st1 => (fk ρ st1).bind fun qs st2 => if ps.length = np ∧ qs.length = nk then E.mean (ps ++ qs) st2 else .bad
theorem pe_call_ {e : Expr} {es : List Expr} {kws : List Keyword} {p pos : Pos} {fl fk : SmL} (C : CallOk X.prog X.w X.K X.mg X.base k x np ks En) (hr : Room k X.A) (hgd : Gz X.prog X.base k X.A) (hg : Gl X x) (ha : PA X (e :: es) (rdL X.K fl)) (hkw : PK X kws (rdL X.K fk))
    (hall : (backToKw pos (keywordEach kws X.env)).all (·.1.isSome) = true) (hks : (backToKw pos (keywordEach kws X.env)).filterMap (·.1) = ks)
    (hdb : (x == ("__debug__" : Str)) = false) (he : starEach (e :: es) X.env = (false, eval e X.env) :: starEach es X.env)
    (hpl : ((backTo pos (starEach (e :: es) X.env)).any (·.1) || (backToKw pos (keywordEach kws X.env)).any (·.1.isNone)) = false) :
    PE X (.Call (.Name x p) (e :: es) kws pos) (rd X.K (xCallE En np ks.length fl fk)) := by
  refine ⟨fun pins s σ H Q I h => ?_⟩
  obtain ⟨f, fd, pn, hm, kp, _⟩ := id C.ok
  obtain ⟨μ, ρ, st, hr1, lr, q⟩ := h
  refine wpAny_Call_Name_kw (ld_glob I hg hm ?_ hdb)
  refine PySem.W.callWith_KW (h₀ := X.base) I.ok.mod.kin kp hall (thn (ha.run pos pins s σ H (fun vs H1 => ∃ μ1 ps st1, HR X.K μ1 H1 st1 ∧ LR X.K μ1 H1 σ ρ ∧ VRs X.K μ1 H1 vs ps ∧ Post X.K μ1 H1 ((fk ρ st1).bind fun qs st2 => if ps.length = np ∧ qs.length = ks.length then En.mean (ps ++ qs) st2 else .bad) (QV X.K Q)) I
    ⟨μ, ρ, st, hr1, lr, q.bind_imp fun μ1 H1 ps st1 l1 hr1 q1 vs hvs => ⟨μ1, ps, st1, hr1, lr.mono l1, hvs, q1⟩⟩) fun us s1 ⟨vs, H1, I1, r, μ1, ps, st1, hr1, lr1, hvs, q1⟩ => ?_) hpl he
  refine thn (hkw.run pos pins s1 σ H1 (fun zs H2 => ∃ μ2 qs st2, HR X.K μ2 H2 st2 ∧ VRs X.K μ2 H2 vs ps ∧ VRs X.K μ2 H2 zs qs ∧ Post X.K μ2 H2 (if ps.length = np ∧ qs.length = ks.length then En.mean (ps ++ qs) st2 else .bad) (QV X.K Q)) I1
    ⟨μ1, ρ, st1, hr1, lr1, q1.bind_imp fun μ2 H2 qs st2 l2 hr2 q2 zs hzs => ⟨μ2, qs, st2, hr2, hvs.mono l2, hzs, q2⟩⟩) fun ws s2 ⟨zs, H2, I2, rz, μ2, qs, st2, hr2, hvs2, hzs, q2⟩ => ⟨I2.kIn, ?_⟩
  rw [hks]
  split at q2
  · rename_i z
    exact run_ent C hm hr hgd I2 r rz (hvs2.length.trans z.1) (hzs.length.trans z.2) hr2 hvs2 hzs q2
  · exact q2.elim
theorem pe_call0_ {kws : List Keyword} {p pos : Pos} {fk : SmL} (C : CallOk X.prog X.w X.K X.mg X.base k x 0 ks En) (hr : Room k X.A) (hgd : Gz X.prog X.base k X.A) (hg : Gl X x) (hkw : PK X kws (rdL X.K fk))
    (hall : (backToKw pos (keywordEach kws X.env)).all (·.1.isSome) = true) (hks : (backToKw pos (keywordEach kws X.env)).filterMap (·.1) = ks)
    (hdb : (x == ("__debug__" : Str)) = false)
    (hpl : ((backTo pos (starEach [] X.env)).any (·.1) || (backToKw pos (keywordEach kws X.env)).any (·.1.isNone)) = false) :
    PE X (.Call (.Name x p) [] kws pos) (rd X.K (xCallE En 0 ks.length xNil fk)) := by
  refine ⟨fun pins s σ H Q I h => ?_⟩
  obtain ⟨f, fd, pn, hm, kp, _⟩ := id C.ok
  obtain ⟨μ, ρ, st, hr1, lr, q⟩ := h
  refine wpAny_Call_Name_kw (ld_glob I hg hm ?_ hdb)
  refine PySem.W.callWith_KW0 (h₀ := X.base) I.ok.mod.kin kp hall ?_ hpl
  have q1 : Post X.K μ H ((fk ρ st).bind fun qs st2 => if ([] : List PV).length = 0 ∧ qs.length = ks.length then En.mean ([] ++ qs) st2 else .bad) (QV X.K Q) := q
  refine thn (hkw.run pos pins s σ H (fun zs H2 => ∃ μ2 qs st2, HR X.K μ2 H2 st2 ∧ VRs X.K μ2 H2 zs qs ∧ Post X.K μ2 H2 (if ([] : List PV).length = 0 ∧ qs.length = ks.length then En.mean ([] ++ qs) st2 else .bad) (QV X.K Q)) I
    ⟨μ, ρ, st, hr1, lr, q1.bind_imp fun μ2 H2 qs st2 l2 hr2 q2 zs hzs => ⟨μ2, qs, st2, hr2, hzs, q2⟩⟩) fun ws s2 ⟨zs, H2, I2, rz, μ2, qs, st2, hr2, hzs, q2⟩ => ⟨I2.kIn, ?_⟩
  rw [hks]
  split at q2
  · rename_i z
    exact run_ent (us := []) (vs := []) C hm hr hgd I2 .nil rz rfl (hzs.length.trans z.2) hr2 .nil hzs q2
  · exact q2.elim
end
end Pe
namespace Pe
open PySem PySem.Spec PyProof.Rows L2
variable {K : PySem.W.Frag} {μ μ' μ'' : List Addr} {H H' H'' : Hp} {st st' : Store} {σ : L2.St} {ρ : Env}

/-! ### what a loop walks -/
inductive ItD where
  | fix (ps : List PV) | dyn (d : Nat → Store → Option (Option PV))
def ItD.view : ItD → Nat → Store → Option (Option PV)
  | .fix ps, i, _ => some ps[i]?
  | .dyn d, i, st => d i st
structure ItOk (K : PySem.W.Frag) (μ : List Addr) (H : Hp) (J : It) (d : Nat → Store → Option (Option PV)) : Prop where
  go : ∀ (i : Nat) μ2 H2 st2 p, Le μ H μ2 H2 → HR K μ2 H2 st2 → d i st2 = some (some p) → J.go i H2
  yl : ∀ (i : Nat) μ2 H2 st2 p x H3, Le μ H μ2 H2 → HR K μ2 H2 st2 → d i st2 = some (some p) → J.yld i H2 x H3 → Le μ2 H2 μ2 H3 ∧ HR K μ2 H3 st2 ∧ VR K μ2 H3 x p
  stop : ∀ (i : Nat) μ2 H2 st2, Le μ H μ2 H2 → HR K μ2 H2 st2 → d i st2 = some none → J.stop i H2
abbrev SmI := Env → Store → Res ItD
def rdI (K : PySem.W.Frag) (f : SmI) : TI := fun σ H R => ∃ μ ρ st, HR K μ H st ∧ LR K μ H σ ρ ∧ Post K μ H (f ρ st) (fun μ' H' d _ => ∀ J, ItOk K μ' H' J d.view → R J H')
theorem PI.imp {X : Cx} {tg e : Expr} {t t' : TI} (h : PI X tg e t) (f : ∀ σ H Q, t' σ H Q → t σ H Q) : PI X tg e t' := ⟨fun pins s σ H Q I w => h.run pins s σ H Q I (f σ H Q w)⟩
def liveL (n : Nat) : Nat → Store → Option (Option PV) := fun i st => (listAt st n).map fun ps => ps[i]?
theorem liveL_some {n i : Nat} {r : Option PV} (h : liveL n i st = some r) : ∃ ps, listAt st n = some ps ∧ ps[i]? = r := Option.map_eq_some_iff.mp h
theorem itok_list {n : Nat} {a : Addr} (m : μ[n]? = some a) : ItOk K μ H (Itl K a) (liveL n) where
  go := fun i μ2 H2 st2 p l hr e => by
    obtain ⟨ps, e1, e2⟩ := liveL_some e
    obtain ⟨b, xs, m2, h, r⟩ := hr.listAt e1
    rw [l.map n a m] at m2; cases m2
    obtain ⟨v, e3, _⟩ := r.get e2
    exact ⟨xs, v, h, e3⟩
  yl := fun i μ2 H2 st2 p x H3 l hr e y => by
    obtain ⟨ps, e1, e2⟩ := liveL_some e
    obtain ⟨b, xs, m2, h, r⟩ := hr.listAt e1
    rw [l.map n a m] at m2; cases m2
    obtain ⟨v, e3, r3⟩ := r.get e2
    obtain ⟨rfl, y⟩ := y
    have := y xs h
    rw [e3] at this; cases this
    exact ⟨.refl, hr, r3⟩
  stop := fun i μ2 H2 st2 l hr e => by
    obtain ⟨ps, e1, e2⟩ := liveL_some e
    obtain ⟨b, xs, m2, h, r⟩ := hr.listAt e1
    rw [l.map n a m] at m2; cases m2
    exact ⟨xs, h, by rw [r.length]; exact List.getElem?_eq_none_iff.mp e2⟩
theorem itok_tup {a : Addr} {xs : List V} {ps : List PV} (h : SqT K H a xs) (r : VRs K μ H xs ps) (inj : ∀ H2 ys, SqT K H2 a xs → SqT K H2 a ys → ys = xs ∨ True) : ItOk K μ H (Itt K a) (ItD.fix ps).view where
  go := fun i μ2 H2 st2 p l hr e => by
    obtain ⟨v, e3, _⟩ := (r.mono l).get (Option.some.inj e)
    exact ⟨xs, v, SqT.mono l h, e3⟩
  yl := fun i μ2 H2 st2 p x H3 l hr e y => by
    obtain ⟨v, e3, r3⟩ := (r.mono l).get (Option.some.inj e)
    obtain ⟨rfl, y⟩ := y
    have := y xs (SqT.mono l h)
    rw [e3] at this; cases this
    exact ⟨.refl, hr, r3⟩
  stop := fun i μ2 H2 st2 l hr e => ⟨xs, SqT.mono l h, by rw [r.length]; exact List.getElem?_eq_none_iff.mp (Option.some.inj e)⟩
/-- a list or a tuple, walked -/
def seqIt : PV → Store → Res ItD
  | .tup ps, st => .ok (.fix ps) st
  | .ref n, st => match listAt st n with
    | some _ => .ok (.dyn (liveL n)) st
    | none => .bad
  | _, _ => .bad
def xSeqIt (f : Sm) : SmI := fun ρ st => (f ρ st).bind seqIt
section
variable {X : Cx} {tg : Expr}
theorem pi_seq_ {e : Expr} {f : Sm} (he : PE X e (rd X.K f)) : PI X tg e (rdI X.K (xSeqIt f)) := by
  refine ⟨fun pins s σ H R I h => ?_⟩
  obtain ⟨μ, ρ, st, hr, lr, q⟩ := h
  unfold xSeqIt at q
  cases e0 : f ρ st with
  | bad => rw [e0] at q; exact q.elim
  | ok p st1 =>
    rw [e0] at q
    have q2 : Post X.K μ H (seqIt p st1) (fun μ' H' d _ => ∀ J, ItOk X.K μ' H' J d.view → R J H') := q
    cases p with
    | tup ps =>
      refine (pi_tup he).run pins s σ H R I ⟨μ, ρ, st, hr, lr, ?_⟩
      rw [e0]
      intro μ1 H1 l1 hr1 v hv
      obtain ⟨a, xs, rfl, h1, r1⟩ := hv.tup_inv
      exact ⟨a, rfl, ⟨xs, h1⟩, q2 μ1 H1 l1 hr1 _ (itok_tup h1 r1 fun _ _ _ _ => .inr trivial)⟩
    | ref n =>
      refine (pi_list he).run pins s σ H R I ⟨μ, ρ, st, hr, lr, ?_⟩
      rw [e0]
      intro μ1 H1 l1 hr1 v hv
      obtain ⟨a, rfl, m⟩ := hv.ref_inv
      have q3 : Post X.K μ H (match listAt st1 n with | some _ => (Res.ok (ItD.dyn (liveL n)) st1 : Res ItD) | none => Res.bad) (fun μ' H' d _ => ∀ J, ItOk X.K μ' H' J d.view → R J H') := q2
      split at q3
      · rename_i ps e1
        obtain ⟨b, xs, m2, h2, r2⟩ := hr1.listAt e1
        rw [m] at m2; cases m2
        exact ⟨a, rfl, ⟨xs, h2⟩, q3 μ1 H1 l1 hr1 _ (itok_list m)⟩
      · exact q3.elim
    | non => exact q2.elim
    | bl b => exact q2.elim
    | int i => exact q2.elim
    | str x => exact q2.elim
/-- range(n), range(a, b) -/
def rngP (lo : Int) (n : Nat) : List PV := (List.range n).map fun (i : Nat) => PV.int (lo + (i : Int))
theorem rngP_get {lo : Int} {n i : Nat} : (rngP lo n)[i]? = if i < n then some (PV.int (lo + (i : Int))) else none := by
  unfold rngP
  rw [List.getElem?_map]
  by_cases h : i < n
  · rw [List.getElem?_range h, if_pos h]; rfl
  · rw [List.getElem?_eq_none (by simpa using h), if_neg h]; rfl
theorem itok_rng {lo : Int} {n : Nat} : ItOk K μ H (Itr lo n) (ItD.fix (rngP lo n)).view where
  go := fun i μ2 H2 st2 p l hr e => by
    have e' := Option.some.inj e
    rw [rngP_get] at e'
    split at e'
    · assumption
    · cases e'
  yl := fun i μ2 H2 st2 p x H3 l hr e y => by
    have e' := Option.some.inj e
    rw [rngP_get] at e'
    obtain ⟨rfl, rfl⟩ := y
    split at e'
    · cases e'; exact ⟨.refl, hr, .int _⟩
    · cases e'
  stop := fun i μ2 H2 st2 l hr e => by
    have e' := Option.some.inj e
    rw [rngP_get] at e'
    split at e'
    · cases e'
    · rename_i h; exact Nat.le_of_not_lt h
def rng1It : List PV → Store → Res ItD
  | [.int j], st => if -(2 ^ 62) ≤ j ∧ j < 2 ^ 62 then .ok (.fix (rngP 0 j.toNat)) st else .bad
  | _, _ => .bad
def rng2It : List PV → Store → Res ItD
  | [.int i, .int j], st => if -(2 ^ 62) ≤ i ∧ i < 2 ^ 62 ∧ -(2 ^ 62) ≤ j ∧ j < 2 ^ 62 then .ok (.fix (rngP i (j - i).toNat)) st else .bad
  | _, _ => .bad
/-- range(i, j, -1) -/
def rngDn (i : Int) (n : Nat) : List PV := (List.range n).map fun (k : Nat) => PV.int (i + (k : Int) * (-1))
def rng3It : List PV → Store → Res ItD
  | [.int i, .int j, .int c], st => if c = -1 ∧ -(2 ^ 62) ≤ i ∧ i < 2 ^ 62 ∧ -(2 ^ 62) ≤ j ∧ j < 2 ^ 62 then .ok (.fix (rngDn i (i - j).toNat)) st else .bad
  | _, _ => .bad
def xItL (g : List PV → Store → Res ItD) (fl : SmL) : SmI := fun ρ st => (fl ρ st).bind g
def xIt1 (g : PV → Store → Res ItD) (f : Sm) : SmI := fun ρ st => (f ρ st).bind g
theorem pi_range1_ {a : Expr} {fl : SmL} {p pos : Pos} (hg : Gl X "range") (hm : X.mg "range" = none) (ha : PA X [a] (rdL X.K fl)) (hs : starEach [a] X.env = [(false, eval a X.env)]) : PI X tg (.Call (.Name "range" p) [a] [] pos) (rdI X.K (xItL rng1It fl)) :=
  PI.imp (pi_range1 hg hm ha hs) fun σ H R h => by
    obtain ⟨μ, ρ, st, hr, lr, q⟩ := h
    refine ⟨μ, ρ, st, hr, lr, q.bind_imp fun μ1 H1 ps st1 l1 hr1 q1 vs hvs => ?_⟩
    unfold rng1It at q1
    split at q1
    · obtain ⟨v, rfl, h1⟩ := hvs.one
      cases h1.int_inv
      split at q1
      · rename_i z
        exact ⟨_, rfl, z.1, z.2, q1 μ1 H1 .refl hr1 _ itok_rng⟩
      · exact q1.elim
    · exact q1.elim
theorem pi_range2_ {a b : Expr} {fl : SmL} {p pos : Pos} (hg : Gl X "range") (hm : X.mg "range" = none) (ha : PA X [a, b] (rdL X.K fl)) (hs : starEach [a, b] X.env = [(false, eval a X.env), (false, eval b X.env)]) (hs2 : starEach [b] X.env = [(false, eval b X.env)]) : PI X tg (.Call (.Name "range" p) [a, b] [] pos) (rdI X.K (xItL rng2It fl)) :=
  PI.imp (pi_range2 hg hm ha hs hs2) fun σ H R h => by
    obtain ⟨μ, ρ, st, hr, lr, q⟩ := h
    refine ⟨μ, ρ, st, hr, lr, q.bind_imp fun μ1 H1 ps st1 l1 hr1 q1 vs hvs => ?_⟩
    unfold rng2It at q1
    split at q1
    · obtain ⟨v, w, rfl, h1, h2⟩ := hvs.two
      cases h1.int_inv; cases h2.int_inv
      split at q1
      · rename_i z
        exact ⟨_, _, rfl, z, q1 μ1 H1 .refl hr1 _ itok_rng⟩
      · exact q1.elim
    · exact q1.elim
theorem rngDn_get {lo : Int} {n i : Nat} : (rngDn lo n)[i]? = if i < n then some (PV.int (lo + (i : Int) * (-1))) else none := by
  unfold rngDn
  rw [List.getElem?_map]
  by_cases h : i < n
  · rw [List.getElem?_range h, if_pos h]; rfl
  · rw [List.getElem?_eq_none (by simpa using h), if_neg h]; rfl
theorem itok_of_get {J : It} {ps : List PV} {n : Nat} {f : Nat → Int} (hp : ∀ i : Nat, ps[i]? = if i < n then some (PV.int (f i)) else none) (h1 : ∀ (i : Nat) H, i < n → J.go i H) (h2 : ∀ (i : Nat) H x H', J.yld i H x H' → H' = H ∧ x = .int (f i)) (h3 : ∀ (i : Nat) H, n ≤ i → J.stop i H) : ItOk K μ H J (ItD.fix ps).view where
  go := fun i μ2 H2 st2 p l hr e => by
    have e' := Option.some.inj e
    rw [hp] at e'
    split at e'
    · exact h1 i H2 (by assumption)
    · cases e'
  yl := fun i μ2 H2 st2 p x H3 l hr e y => by
    have e' := Option.some.inj e
    rw [hp] at e'
    obtain ⟨rfl, rfl⟩ := h2 i H2 x H3 y
    split at e'
    · cases e'; exact ⟨.refl, hr, .int _⟩
    · cases e'
  stop := fun i μ2 H2 st2 l hr e => by
    have e' := Option.some.inj e
    rw [hp] at e'
    split at e'
    · cases e'
    · rename_i h; exact h3 i H2 (Nat.le_of_not_lt h)
theorem pi_range3_ {a b c : Expr} {fl : SmL} {p pos : Pos} (hg : Gl X "range") (hm : X.mg "range" = none) (ha : PA X [a, b, c] (rdL X.K fl)) (hs : starEach [a, b, c] X.env = (false, eval a X.env) :: starEach [b, c] X.env) (hpl : (backTo pos (starEach [b, c] X.env)).any (·.1) = false) : PI X tg (.Call (.Name "range" p) [a, b, c] [] pos) (rdI X.K (xItL rng3It fl)) :=
  PI.imp (pi_range3 hg hm ha hs hpl) fun σ H R h => by
    obtain ⟨μ, ρ, st, hr, lr, q⟩ := h
    refine ⟨μ, ρ, st, hr, lr, q.bind_imp fun μ1 H1 ps st1 l1 hr1 q1 vs hvs => ?_⟩
    unfold rng3It at q1
    split at q1
    · cases hvs with
      | cons h1 t =>
        cases t with
        | cons h2 t =>
          cases t with
          | cons h3 t =>
            cases t
            cases h1.int_inv; cases h2.int_inv; cases h3.int_inv
            split at q1
            · rename_i z
              obtain ⟨rfl, z⟩ := z
              exact ⟨_, _, _, _, rfl, RgC.neg z.1 z.2.1 z.2.2.1 z.2.2.2, q1 μ1 H1 .refl hr1 _ (itok_of_get (fun i => rngDn_get) (fun i H h => h) (fun i H x H' y => y) fun i H h => h)⟩
            · exact q1.elim
    · exact q1.elim
/-- reversed(range(n)) -/
def revRng : PV → Store → Res ItD
  | .int n, st => if -(2 ^ 62) ≤ n ∧ n < 2 ^ 62 then .ok (.fix (rngDn ((n.toNat : Int) - 1) n.toNat)) st else .bad
  | _, _ => .bad
theorem pi_revRng_ {a : Expr} {f : Sm} {p p2 pos pos2 : Pos} (hg : Gl X "reversed") (hm : X.mg "reversed" = none) (hg2 : Gl X "range") (hm2 : X.mg "range" = none) (ha : PE X a (rd X.K f)) (na : starEach [a] X.env = (false, eval a X.env) :: starEach [] X.env) :
    PI X tg (.Call (.Name "reversed" p) [.Call (.Name "range" p2) [a] [] pos2] [] pos) (rdI X.K (xIt1 revRng f)) :=
  PI.imp (pi_revR hg hm (prg_1 hg2 hm2 ha na) rfl) fun σ H R h => by
    obtain ⟨μ, ρ, st, hr, lr, q⟩ := h
    refine ⟨μ, ρ, st, hr, lr, q.bind_imp fun μ1 H1 p st1 l1 hr1 q1 v hv => ?_⟩
    cases hv with
    | int n =>
      have q2 : Post X.K μ1 H1 (if -(2 ^ 62) ≤ n ∧ n < 2 ^ 62 then (Res.ok (ItD.fix (rngDn ((n.toNat : Int) - 1) n.toNat)) st1 : Res ItD) else Res.bad) (fun μ' H' d _ => ∀ J, ItOk X.K μ' H' J d.view → R J H') := q1
      split at q2
      · rename_i z
        refine ⟨n, rfl, by omega, by omega, z.1, z.2, q2 μ1 H1 .refl hr1 _ (itok_of_get (n := n.toNat) (f := fun i => (n.toNat : Int) - 1 + (i : Int) * (-1)) (fun i => rngDn_get) (fun i H h => ?_) (fun i H x H' y => ?_) fun i H h => ?_)⟩
        · show i < (n - 0).toNat
          rw [Int.sub_zero]; exact h
        · obtain ⟨y1, y2⟩ := y
          refine ⟨y1, y2.trans ?_⟩
          congr 1
          rw [Int.sub_zero]; omega
        · show (n - 0).toNat ≤ i
          rw [Int.sub_zero]; exact h
      · exact q2.elim
    | _ => exact q1.elim
/-- reversed(x), x a list or a tuple -/
def revIt : PV → Store → Res ItD
  | .tup ps, st => .ok (.fix ps.reverse) st
  | .ref n, st => match listAt st n with
    | some qs => .ok (.dyn fun i st2 => if i < qs.length then (listAt st2 n).bind fun ps => ps[qs.length - 1 - i]?.map some else some none) st
    | none => .bad
  | _, _ => .bad
theorem pi_rev_ {e : Expr} {f : Sm} {p pos : Pos} (hg : Gl X "reversed") (hm : X.mg "reversed" = none) (he : PE X e (rd X.K f)) (hs : starEach [e] X.env = (false, eval e X.env) :: starEach [] X.env) : PI X tg (.Call (.Name "reversed" p) [e] [] pos) (rdI X.K (xIt1 revIt f)) :=
  PI.imp (RT.pi_revA hg hm he hs) fun σ H R h => by
    obtain ⟨μ, ρ, st, hr, lr, q⟩ := h
    refine ⟨μ, ρ, st, hr, lr, q.bind_imp fun μ1 H1 p st1 l1 hr1 q1 v hv => ?_⟩
    unfold revIt at q1
    split at q1
    · rename_i ps
      obtain ⟨a, xs, rfl, h1, r1⟩ := hv.tup_inv
      refine ⟨a, xs, rfl, .inr ⟨h1, q1 μ1 H1 .refl hr1 _ ⟨fun i μ2 H2 st2 p l hr e => ?_, fun i μ2 H2 st2 p x H3 l hr e y => ?_, fun i μ2 H2 st2 l hr e => ?_⟩⟩⟩
      · have e' : ps.reverse[i]? = some p := Option.some.inj e
        have hi : i < ps.length := by
          by_cases z : i < ps.length
          · exact z
          · rw [List.getElem?_eq_none (by simpa using z)] at e'; cases e'
        rw [List.getElem?_reverse hi] at e'
        obtain ⟨v, e3, _⟩ := (r1.mono l).get e'
        have hx := r1.length
        exact ⟨by omega, xs, v, SqT.mono l h1, by rw [hx]; exact e3⟩
      · have e' : ps.reverse[i]? = some p := Option.some.inj e
        have hi : i < ps.length := by
          by_cases z : i < ps.length
          · exact z
          · rw [List.getElem?_eq_none (by simpa using z)] at e'; cases e'
        rw [List.getElem?_reverse hi] at e'
        obtain ⟨v, e3, r3⟩ := (r1.mono l).get e'
        have hx := r1.length
        obtain ⟨rfl, y⟩ := y
        have := y xs (SqT.mono l h1)
        rw [hx, e3] at this; cases this
        exact ⟨.refl, hr, r3⟩
      · have e' : ps.reverse[i]? = none := Option.some.inj e
        have hx := r1.length
        have := List.getElem?_eq_none_iff.mp e'
        rw [List.length_reverse] at this
        show xs.length ≤ i
        omega
    · rename_i n
      obtain ⟨a, rfl, m⟩ := hv.ref_inv
      split at q1
      · rename_i qs e1
        obtain ⟨b, xs, m2, h2, r2⟩ := hr1.listAt e1
        rw [m] at m2; cases m2
        have hx := r2.length
        refine ⟨a, xs, rfl, .inl ⟨h2, q1 μ1 H1 .refl hr1 _ ⟨fun i μ2 H2 st2 p l hr e => ?_, fun i μ2 H2 st2 p x H3 l hr e y => ?_, fun i μ2 H2 st2 l hr e => ?_⟩⟩⟩
        · have e' : (if i < qs.length then (listAt st2 n).bind fun ps => ps[qs.length - 1 - i]?.map some else some none) = some (some p) := e
          split at e'
          · obtain ⟨ps, e3, e4⟩ := Option.bind_eq_some_iff.mp e'
            obtain ⟨p', e5, e6⟩ := Option.map_eq_some_iff.mp e4
            cases e6
            obtain ⟨c, ys, m3, h3, r3⟩ := hr.listAt e3
            rw [l.map n a m] at m3; cases m3
            obtain ⟨w, e7, _⟩ := r3.get e5
            exact ⟨by omega, ys, w, h3, by rw [hx]; exact e7⟩
          · cases e'
        · have e' : (if i < qs.length then (listAt st2 n).bind fun ps => ps[qs.length - 1 - i]?.map some else some none) = some (some p) := e
          split at e'
          · obtain ⟨ps, e3, e4⟩ := Option.bind_eq_some_iff.mp e'
            obtain ⟨p', e5, e6⟩ := Option.map_eq_some_iff.mp e4
            cases e6
            obtain ⟨c, ys, m3, h3, r3⟩ := hr.listAt e3
            rw [l.map n a m] at m3; cases m3
            obtain ⟨w, e7, r7⟩ := r3.get e5
            obtain ⟨rfl, y⟩ := y
            have := y ys h3
            rw [hx, e7] at this; cases this
            exact ⟨.refl, hr, r7⟩
          · cases e'
        · have e' : (if i < qs.length then (listAt st2 n).bind fun ps => ps[qs.length - 1 - i]?.map some else some none) = some none := e
          split at e'
          · obtain ⟨ps, e3, e4⟩ := Option.bind_eq_some_iff.mp e'
            obtain ⟨p', e5, e6⟩ := Option.map_eq_some_iff.mp e4
            cases e6
          · show xs.length ≤ i
            omega
      · exact q1.elim
    · exact q1.elim
theorem pair_new {T : Addr} {x y : V} {p q : PV} (hr : HR K μ H st) (hx : VR K μ H x p) (hy : VR K μ H y q) (hT : H T = none) : Le μ H μ (upd H T (.tup [x, y])) ∧ HR K μ (upd H T (.tup [x, y])) st ∧ VR K μ (upd H T (.tup [x, y])) (.ref T) (.tup [p, q]) :=
  ⟨.new hT, hr.new hT, .tup (.inl (.inl upd_same)) (.cons (hx.mono (.new hT)) (.cons (hy.mono (.new hT)) .nil))⟩
theorem itok_zipT {a b : Addr} {xs ys : List V} {ps qs : List PV} (h1 : SqT K H a xs) (r1 : VRs K μ H xs ps) (h2 : SqT K H b ys) (r2 : VRs K μ H ys qs) : ItOk K μ H (RZ.ItzT K a b) (ItD.fix (List.zipWith (fun p q => .tup [p, q]) ps qs)).view := by
  have key : ∀ (i : Nat) (o : Option PV), some (List.zipWith (fun p q => PV.tup [p, q]) ps qs)[i]? = some o → (match ps[i]?, qs[i]? with | some p, some q => some (PV.tup [p, q]) | _, _ => none) = o := fun i o e => by
    have e' := Option.some.inj e
    rw [List.getElem?_zipWith] at e'
    rw [← e']
    cases ps[i]? <;> cases qs[i]? <;> rfl
  refine ⟨fun i μ2 H2 st2 p l hr e => ?_, fun i μ2 H2 st2 p x H3 l hr e y => ?_, fun i μ2 H2 st2 l hr e => ?_⟩
  · have e' := key i _ e
    split at e'
    · rename_i p1 q1 e1 e2
      obtain ⟨v, e3, _⟩ := (r1.mono l).get e1
      obtain ⟨w, e4, _⟩ := (r2.mono l).get e2
      exact ⟨xs, ys, v, w, SqT.mono l h1, SqT.mono l h2, e3, e4⟩
    · cases e'
  · have e' := key i _ e
    split at e'
    · rename_i p1 q1 e1 e2
      cases e'
      obtain ⟨v, e3, r3⟩ := (r1.mono l).get e1
      obtain ⟨w, e4, r4⟩ := (r2.mono l).get e2
      obtain ⟨T, x1, y1, rfl, hT, rfl, f1, f2⟩ := y
      have g1 := f1 xs (SqT.mono l h1)
      have g2 := f2 ys (SqT.mono l h2)
      rw [e3] at g1; rw [e4] at g2
      cases g1; cases g2
      exact pair_new hr r3 r4 hT
    · cases e'
  · have e' := key i _ e
    split at e'
    · cases e'
    · rename_i hne
      refine ⟨xs, ys, SqT.mono l h1, SqT.mono l h2, ?_⟩
      rw [r1.length, r2.length]
      cases e1 : ps[i]? with
      | none => exact .inl (List.getElem?_eq_none_iff.mp e1)
      | some p =>
        cases e2 : qs[i]? with
        | none => exact .inr (List.getElem?_eq_none_iff.mp e2)
        | some q => exact (hne p q e1 e2).elim
def zipV (n m : Nat) : Nat → Store → Option (Option PV) := fun i st2 => match listAt st2 n, listAt st2 m with
  | some ps, some qs => some (match ps[i]?, qs[i]? with
    | some p, some q => some (.tup [p, q])
    | _, _ => none)
  | _, _ => none
theorem itok_zipL {n m : Nat} {a b : Addr} (ma : μ[n]? = some a) (mb : μ[m]? = some b) : ItOk K μ H (Itz K a b) (zipV n m) := by
  have look : ∀ {μ2 : List Addr} {H2 : Hp} {st2 : Store} {i : Nat} {o : Option PV}, Le μ H μ2 H2 → HR K μ2 H2 st2 → zipV n m i st2 = some o → ∃ (ps qs : List PV) (xs ys : List V), (match ps[i]?, qs[i]? with | some p, some q => some (PV.tup [p, q]) | _, _ => none) = o ∧ SqL K H2 a xs ∧ VRs K μ2 H2 xs ps ∧ SqL K H2 b ys ∧ VRs K μ2 H2 ys qs := fun {μ2 H2 st2 i o} l hr e => by
    unfold zipV at e
    split at e
    · rename_i ps qs e1 e2
      obtain ⟨a', xs, m1, h1, r1⟩ := hr.listAt e1
      obtain ⟨b', ys, m2, h2, r2⟩ := hr.listAt e2
      rw [l.map n a ma] at m1; cases m1
      rw [l.map m b mb] at m2; cases m2
      exact ⟨ps, qs, xs, ys, Option.some.inj e, h1, r1, h2, r2⟩
    · cases e
  refine ⟨fun i μ2 H2 st2 p l hr e => ?_, fun i μ2 H2 st2 p x H3 l hr e y => ?_, fun i μ2 H2 st2 l hr e => ?_⟩
  · obtain ⟨ps, qs, xs, ys, e', h1, r1, h2, r2⟩ := look l hr e
    split at e'
    · rename_i p1 q1 e1 e2
      obtain ⟨v, e3, _⟩ := r1.get e1
      obtain ⟨w, e4, _⟩ := r2.get e2
      exact ⟨xs, ys, v, w, h1, h2, e3, e4⟩
    · cases e'
  · obtain ⟨ps, qs, xs, ys, e', h1, r1, h2, r2⟩ := look l hr e
    split at e'
    · rename_i p1 q1 e1 e2
      cases e'
      obtain ⟨v, e3, r3⟩ := r1.get e1
      obtain ⟨w, e4, r4⟩ := r2.get e2
      obtain ⟨T, x1, y1, rfl, hT, rfl, f1, f2⟩ := y
      have g1 := f1 xs h1
      have g2 := f2 ys h2
      rw [e3] at g1; rw [e4] at g2
      cases g1; cases g2
      exact pair_new hr r3 r4 hT
    · cases e'
  · obtain ⟨ps, qs, xs, ys, e', h1, r1, h2, r2⟩ := look l hr e
    split at e'
    · cases e'
    · rename_i hne
      refine ⟨xs, ys, h1, h2, ?_⟩
      rw [r1.length, r2.length]
      cases e1 : ps[i]? with
      | none => exact .inl (List.getElem?_eq_none_iff.mp e1)
      | some p =>
        cases e2 : qs[i]? with
        | none => exact .inr (List.getElem?_eq_none_iff.mp e2)
        | some q => exact (hne p q e1 e2).elim
def zipI : List PV → Store → Res ItD
  | [.tup ps, .tup qs], st => .ok (.fix (List.zipWith (fun p q => .tup [p, q]) ps qs)) st
  | [.ref n, .ref m], st => match listAt st n, listAt st m with
    | some _, some _ => .ok (.dyn (zipV n m)) st
    | _, _ => .bad
  | _, _ => .bad
theorem pi_zip_ {e e2 : Expr} {fl : SmL} {p pos tpos : Pos} {elts : List Expr} {kk : Nat} (hg : Gl X "zip") (hm : X.mg "zip" = none) (ha : PA X [e, e2] (rdL X.K fl))
    (hs : starEach [e, e2] X.env = (false, eval e X.env) :: starEach [e2] X.env) (hpl : (backTo pos (starEach [e2] X.env)).any (·.1) = false) : PI X (.Tuple elts kk tpos) (.Call (.Name "zip" p) [e, e2] [] pos) (rdI X.K (xItL zipI fl)) :=
  PI.imp (RZ.pi_zipA hg hm ha hs hpl) fun σ H R h => by
    obtain ⟨μ, ρ, st, hr, lr, q⟩ := h
    refine ⟨μ, ρ, st, hr, lr, q.bind_imp fun μ1 H1 ps st1 l1 hr1 q1 vs hvs => ?_⟩
    unfold zipI at q1
    split at q1
    · obtain ⟨v, w, rfl, h1, h2⟩ := hvs.two
      obtain ⟨a, xs, rfl, h3, r3⟩ := h1.tup_inv
      obtain ⟨b, ys, rfl, h4, r4⟩ := h2.tup_inv
      exact ⟨a, b, xs, ys, rfl, .inr ⟨h3, h4, q1 μ1 H1 .refl hr1 _ (itok_zipT h3 r3 h4 r4)⟩⟩
    · obtain ⟨v, w, rfl, h1, h2⟩ := hvs.two
      obtain ⟨a, rfl, ma⟩ := h1.ref_inv
      obtain ⟨b, rfl, mb⟩ := h2.ref_inv
      split at q1
      · rename_i e1 e2
        obtain ⟨c, xs, m1, h3, r3⟩ := hr1.listAt e1
        obtain ⟨d, ys, m2, h4, r4⟩ := hr1.listAt e2
        rw [ma] at m1; cases m1
        rw [mb] at m2; cases m2
        exact ⟨a, b, xs, ys, rfl, .inl ⟨h3, h4, q1 μ1 H1 .refl hr1 _ (itok_zipL ma mb)⟩⟩
      · exact q1.elim
    · exact q1.elim
end
end Pe
namespace Pe
open PySem PySem.Spec PyProof.Rows L2
open AutoSeq1 (wpAny_loadPart')
/-- enumerate's making over what begins as o -/
theorem enumNew {v : Value} {o : Obj} {Z : Heap → Prop} (B : Begins v o Z) :
    Meets (Builtin.«enumerate.__new__» ⟨[.type "enumerate", v], []⟩) (fun _ R s => Z s.heap ∧ R (.ok (.ret (.ref (s.heap.push o).objs.size)))
      { s with heap := (s.heap.push o).push { cls := .type "enumerate", data := .fields #[.none, .bool false, .ref s.heap.objs.size, rawInt 0, .none, .none] } }) :=
  .of_wp fun prog w A R s h => by
    obtain ⟨hq, gq, dq, kq, oq⟩ := s
    obtain ⟨h1, h2⟩ := h
    have hs := sub_enumerate
    have qi : ∀ {A' : Around} {E' Q' : Value → Shared → Prop}, Q' (.ref hq.objs.size) ⟨hq.push o, gq, dq, kq, oq⟩ → wpAny (model prog w) A' (pyIter v) Q' E' ⟨hq, gq, dq, kq, oq⟩ := fun q => B.iter prog w _ _ ⟨hq, gq, dq, kq, oq⟩ _ h1 q
    wp_walk using qi
    refine wpAny_stack_any fun sk => (wpAny_pure ?_)
    split
    · rename_i cc _ _ _ _ _
      by_cases hz : (cc == Value.type "enumerate") = true <;> simp only [hz] <;> (wp_walk using qi; exact ⟨_, rfl, h2⟩)
    · wp_walk using qi
      exact ⟨_, rfl, h2⟩
section
variable {prog : Program} {w : World} {A : Around} {E : Value → Shared → Prop} {s : Shared}
theorem enum1 {v : Value} {o : Obj} {Z : Heap → Prop} {Q : Value → Shared → Prop} (B : Begins v o Z) (h1 : Z s.heap)
    (h : ∀ h', IsEnum h' (s.heap.objs.size + 1) s.heap.objs.size 0 .none → h'.get? s.heap.objs.size = some o → (∀ b u, s.heap.get? b = some u → h'.get? b = some u) → Q (.ref (s.heap.objs.size + 1)) { s with heap := h' }) :
    wpAny (model prog w) A (call (.type "enumerate") [v]) Q E s := by
  refine callType_new F.called_enumerate (by decide) (F.typeCall_enumerate_1 _) (F.newCall_enumerate_1 _) (fun x => F.args_object_init_2 x _) F.entry_enumerate_new (enumNew B) ⟨h1, ?_⟩
  have e1 : (s.heap.push o).objs.size = s.heap.objs.size + 1 := Heap.size_push ..
  show _ ∧ _
  rw [e1]
  have e2 : IsEnum ((s.heap.push o).push { cls := .type "enumerate", data := .fields #[.none, .bool false, .ref s.heap.objs.size, rawInt 0, .none, .none] }) (s.heap.objs.size + 1) s.heap.objs.size 0 .none := by
    have z := Heap.get?_push_size (s.heap.push o) (o := { cls := .type "enumerate", data := .fields #[.none, .bool false, .ref s.heap.objs.size, rawInt 0, .none, .none] }) rfl
    rwa [e1] at z
  exact ⟨⟨_, e2, rfl⟩, h _ e2 (Heap.get?_push_of_some _ (Heap.get?_push_size _ B.free)) fun b u z => Heap.get?_push_of_some _ (Heap.get?_push_of_some _ z)⟩
end
/-- the tuple at a, each item in a new pair -/
def IteT (K : PySem.W.Frag) (a : Addr) : It where
  go := fun i H => ∃ (xs : List V) (x : V), SqT K H a xs ∧ xs[i]? = some x
  yld := fun i H v H' => ∃ T x, v = .ref T ∧ H T = none ∧ H' = upd H T (.tup [.int (i : Nat), x]) ∧ ∀ xs, SqT K H a xs → xs[i]? = some x
  stop := fun i H => ∃ xs : List V, SqT K H a xs ∧ xs.length ≤ i
def EnSt (a e it : Addr) (i : Nat) (h : Heap) : Prop := (∃ old, IsEnum h e it ((i : Nat) : Int) old) ∧ h.IsTupleIter it a i ∧ e ≠ it
theorem turnEnT {P : Program} {w : World} {K : PySem.W.Frag} {elts : List Expr} {kk : Nat} {tpos : Pos} (a e it : Addr) : Turn P w K (.Tuple elts kk tpos) (IteT K a) [e, it] e (EnSt a e it) where
  mem := List.mem_cons_self ..
  obj := fun i h st b hb => by
    obtain ⟨⟨old, he⟩, ⟨o, ho, hc, hd⟩, _⟩ := st
    rcases List.mem_cons.mp hb with z | z
    · subst z; exact ⟨_, he, fun v q => nomatch q⟩
    · rw [List.mem_singleton.mp z]; exact ⟨o, ho, fun v q => by rw [hd] at q; cases q⟩
  keep := fun i h h' ⟨⟨old, he⟩, hi, hne⟩ k => ⟨⟨old, k e (by simp) _ he⟩, hi.at fun o q => k it (by simp) o q, hne⟩
  item := by
    intro X hP hw hK hc i pins s σ H E I hf st hg
    subst hP hw hK
    obtain ⟨⟨old, he⟩, hit, hne⟩ := st
    obtain ⟨xs, x, hq, hx⟩ := hg
    obtain ⟨its, rv, pt, hz⟩ := I.tuple hq
    obtain ⟨u, hu, ru⟩ := rv.get hx
    have het : s.heap.IsTuple a its.toArray := pt
    have hait : a ≠ it := fun z => by
      obtain ⟨o1, q1, c1, _⟩ := pt
      obtain ⟨o2, q2, c2, _⟩ := hit
      rw [z, q2] at q1; cases q1
      rw [c2] at c1; exact absurd c1 (by decide +kernel)
    have hae : e ≠ a := fun z => by
      obtain ⟨o1, q1, c1, _⟩ := pt
      have q2 := he
      unfold IsEnum at q2
      rw [z, q1] at q2; cases q2
      exact absurd (show Value.type "enumerate" = Value.type "tuple" from c1) (by decide +kernel)
    have hi : i < its.toArray.size := by
      obtain ⟨z, _⟩ := List.getElem?_eq_some_iff.mp hu
      simpa using z
    have elt : e < s.heap.objs.size := Heap.lt_size he
    have ilt : it < s.heap.objs.size := by obtain ⟨_, q, _⟩ := hit; exact Heap.lt_size q
    refine wpAny_pyNext_enum_itemD (Draws.tuple (A := X.A.in1) (I.ok.hd hc) it a hait its.toArray) he ⟨hit, het⟩ hi hne (by simp [hne, hae]) fun y h' tk hy ho hst hT hsz hk => ?_
    have yu : y = u := by
      have z : its[i]? = some y := by simpa using hy
      rw [hu] at z; exact (Option.some.inj z).symm
    subst yu
    refine ⟨_, rfl, wpAny_letOwnedTupleGo_enum (s := { s with heap := h', toks := tk + 1 }) ho fun h2 he2 sb => ?_⟩
    have hT2 : h2.get? s.heap.objs.size = some { cls := .type "tuple", data := .seq #[.int i tk, y] } := (sb.2 _ (Nat.ne_of_gt elt)).trans hT
    have J : Inv X pins σ (upd H s.heap.objs.size (.tup [.int (i : Nat), x])) { s with heap := h2, toks := tk + 1 } :=
      I.turnedNew (ch := [e, it]) (fun b ob hb q => (sb.2 b (fun z => hb (by simp [z]))).trans (hk b ob (fun z => hb (by simp [z])) (fun z => hb (by simp [z])) q)) hf (Nat.le_refl _)
        ⟨by show 2 ≤ sizeLine; decide, [.int i tk, y], .cons ⟨_, rfl⟩ (.cons ru .nil), ⟨_, hT2, rfl, _, rfl⟩⟩
    refine ⟨.ref s.heap.objs.size, _, J, rfl, ⟨_, x, rfl, I.hok.fresh (Nat.le_refl _), rfl, fun ys hy => by rw [I.tuple_inj hy hq]; exact hx⟩, ⟨⟨y, ?_⟩, hst.1.at fun o q => (sb.2 it (Ne.symm hne)).trans q, hne⟩, fun b hb => ?_⟩
    · have z : ((i + 1 : Nat) : Int) = (i : Int) + 1 := by omega
      rw [z]; exact he2
    · have lt : b < s.heap.objs.size := by
        rcases List.mem_cons.mp hb with z | z
        · subst z; exact elt
        · rw [List.mem_singleton.mp z]; exact ilt
      rw [upd_ne (Nat.ne_of_lt lt)]
      exact (hf b hb).1
  done := by
    intro X hP hw hK hc i pins s σ H E I hf st hg
    subst hP hw hK
    obtain ⟨⟨old, he⟩, hit, hne⟩ := st
    obtain ⟨xs, hq, hx⟩ := hg
    obtain ⟨its, rv, pt, hz⟩ := I.tuple hq
    have het : s.heap.IsTuple a its.toArray := pt
    have hait : a ≠ it := fun z => by
      obtain ⟨o1, q1, c1, _⟩ := pt
      obtain ⟨o2, q2, c2, _⟩ := hit
      rw [z, q2] at q1; cases q1
      rw [c2] at c1; exact absurd c1 (by decide +kernel)
    obtain ⟨f0, f1, f2, f3, f4, f5⟩ := hf it (by simp)
    have hl := rv.length
    have D : Draws X.prog X.w X.A.in1 it [it, a] i (fun _ _ => True) (fun j h => j = i ∧ h.IsTupleIter it a i ∧ h.IsTuple a its.toArray) :=
      ⟨fun _ _ z => let ⟨o, ho, _⟩ := z.2.1; ⟨o, ho⟩, fun _ _ _ z k => ⟨z.1, z.2.1.at fun o q => k it (by simp) o q, z.2.2.at fun o q => k a (by simp) o q⟩,
        fun j s Q E hj hs hQ => absurd hs.1 (Nat.ne_of_lt hj), fun s Q E hs hQ => wpAny_nextOf_tuple_end (I.ok.hd hc) hs.2.1 hs.2.2 (by simp; omega) hQ⟩
    exact wpAny_pyNext_enum_endD D he ⟨rfl, hit, het⟩ fun h' eb => ⟨rfl, I.turned (t' := s.toks) (fun b o hb q => eb b o hb q) f0 f1 f3 f4 f5⟩
  self := fun A i s Q E ⟨⟨_, he⟩, _⟩ h => wpAny_pyIter_enum he h

variable {K : PySem.W.Frag} {μ μ' μ'' : List Addr} {H H' H'' : Hp} {st st' : Store} {σ : L2.St} {ρ : Env}
def enumP (ps : List PV) : List PV := List.zipWith (fun p q => PV.tup [p, q]) (rngP 0 ps.length) ps
def enumV (n : Nat) : Nat → Store → Option (Option PV) := fun i st2 => (listAt st2 n).map fun ps => ps[i]?.map fun p => .tup [.int (i : Int), p]
def enumI : PV → Store → Res ItD
  | .tup ps, st => .ok (.fix (enumP ps)) st
  | .ref n, st => match listAt st n with
    | some _ => .ok (.dyn (enumV n)) st
    | none => .bad
  | _, _ => .bad
theorem enumP_get {ps : List PV} {i : Nat} : (enumP ps)[i]? = ps[i]?.map fun p => PV.tup [.int (i : Int), p] := by
  unfold enumP
  rw [List.getElem?_zipWith, rngP_get]
  by_cases h : i < ps.length
  · rw [if_pos h, List.getElem?_eq_getElem h, Int.zero_add]; rfl
  · rw [if_neg h, List.getElem?_eq_none (by simpa using h)]; rfl
theorem itok_enumT {a : Addr} {xs : List V} {ps : List PV} (h : SqT K H a xs) (r : VRs K μ H xs ps) : ItOk K μ H (IteT K a) (ItD.fix (enumP ps)).view := by
  refine ⟨fun i μ2 H2 st2 p l hr e => ?_, fun i μ2 H2 st2 p x H3 l hr e y => ?_, fun i μ2 H2 st2 l hr e => ?_⟩
  · have e' := Option.some.inj e
    rw [enumP_get] at e'
    obtain ⟨p', e1, _⟩ := Option.map_eq_some_iff.mp e'
    obtain ⟨v, e3, _⟩ := (r.mono l).get e1
    exact ⟨xs, v, SqT.mono l h, e3⟩
  · have e' := Option.some.inj e
    rw [enumP_get] at e'
    obtain ⟨p', e1, rfl⟩ := Option.map_eq_some_iff.mp e'
    obtain ⟨v, e3, r3⟩ := (r.mono l).get e1
    obtain ⟨T, x1, rfl, hT, rfl, f⟩ := y
    have g := f xs (SqT.mono l h)
    rw [e3] at g; cases g
    exact pair_new hr (.int _) r3 hT
  · have e' := Option.some.inj e
    rw [enumP_get] at e'
    exact ⟨xs, SqT.mono l h, by rw [r.length]; exact List.getElem?_eq_none_iff.mp (Option.map_eq_none_iff.mp e')⟩
theorem itok_enumL {n : Nat} {a : Addr} (m : μ[n]? = some a) : ItOk K μ H (Ite K a) (enumV n) := by
  have look : ∀ {μ2 : List Addr} {H2 : Hp} {st2 : Store} {i : Nat} {o : Option PV}, Le μ H μ2 H2 → HR K μ2 H2 st2 → enumV n i st2 = some o → ∃ (ps : List PV) (xs : List V), (ps[i]?.map fun p => PV.tup [.int (i : Int), p]) = o ∧ SqL K H2 a xs ∧ VRs K μ2 H2 xs ps := fun {μ2 H2 st2 i o} l hr e => by
    obtain ⟨ps, e1, e2⟩ := Option.map_eq_some_iff.mp e
    obtain ⟨b, xs, m2, h, r⟩ := hr.listAt e1
    rw [l.map n a m] at m2; cases m2
    exact ⟨ps, xs, e2, h, r⟩
  refine ⟨fun i μ2 H2 st2 p l hr e => ?_, fun i μ2 H2 st2 p x H3 l hr e y => ?_, fun i μ2 H2 st2 l hr e => ?_⟩
  · obtain ⟨ps, xs, e', h, r⟩ := look l hr e
    obtain ⟨p', e1, _⟩ := Option.map_eq_some_iff.mp e'
    obtain ⟨v, e3, _⟩ := r.get e1
    exact ⟨xs, v, h, e3⟩
  · obtain ⟨ps, xs, e', h, r⟩ := look l hr e
    obtain ⟨p', e1, rfl⟩ := Option.map_eq_some_iff.mp e'
    obtain ⟨v, e3, r3⟩ := r.get e1
    obtain ⟨T, x1, rfl, hT, rfl, f⟩ := y
    have g := f xs h
    rw [e3] at g; cases g
    exact pair_new hr (.int _) r3 hT
  · obtain ⟨ps, xs, e', h, r⟩ := look l hr e
    exact ⟨xs, h, by rw [r.length]; exact List.getElem?_eq_none_iff.mp (Option.map_eq_none_iff.mp e')⟩
/-- enumerate(x), x a list or a tuple -/
theorem pi_enum_ {X : Cx} {e : Expr} {f : Sm} {p pos tpos : Pos} {elts : List Expr} {kk : Nat} (hg : Gl X "enumerate") (hm : X.mg "enumerate" = none) (ha : PE X e (rd X.K f)) (hs : starEach [e] X.env = (false, eval e X.env) :: starEach [] X.env) :
    PI X (.Tuple elts kk tpos) (.Call (.Name "enumerate" p) [e] [] pos) (rdI X.K (xIt1 enumI f)) := by
  have pa : PA X [e] (rdL X.K (xCons f xNil)) := pa_cons_ ha pa_nil_ hs
  refine ⟨fun pins s σ H R I h => ?_⟩
  obtain ⟨μ, ρ, st, hr, lr, q⟩ := h
  unfold xIt1 at q
  cases e0 : f ρ st with
  | bad => rw [e0] at q; exact q.elim
  | ok p st1 =>
    rw [e0] at q
    have q2 : Post X.K μ H (enumI p st1) (fun μ' H' d _ => ∀ J, ItOk X.K μ' H' J d.view → R J H') := q
    have el : xCons f xNil ρ st = .ok [p] st1 := by
      unfold xCons xNil
      rw [e0]; rfl
    cases p with
    | tup ps =>
      refine Call_ (ld_blt I hg hm boot_enumerate (PyProof.Rows.callWith_type1 (thn (pa.run pos pins s σ H (fun vs H1 => ∃ a xs, vs = [.ref a] ∧ SqT X.K H1 a xs ∧ R (IteT X.K a) H1) I ⟨μ, ρ, st, hr, lr, ?_⟩) fun us s1 ⟨vs, H1, I1, r1, q1⟩ => ?_) hs rfl))
      · rw [el]
        intro μ1 H1 l1 hr1 vs hvs
        obtain ⟨v, rfl, hv⟩ := hvs.one
        obtain ⟨a, xs, rfl, h1, r1⟩ := hv.tup_inv
        exact ⟨a, xs, rfl, h1, q2 μ1 H1 l1 hr1 _ (itok_enumT h1 r1)⟩
      · obtain ⟨a, xs, rfl, hq, q3⟩ := q1
        cases r1 with
        | cons r rr =>
          cases rr
          cases r
          obtain ⟨its, rv, pt, hz⟩ := I1.tuple hq
          refine enum1 (begins_tuple a its.toArray) (show s1.heap.IsTuple a its.toArray from pt) fun h' he hit hk => wpAny_pyIter_enum he ?_
          have hlt : ∀ b, b = s1.heap.objs.size + 1 ∨ b = s1.heap.objs.size → s1.heap.objs.size ≤ b := fun b z => by rcases z with z | z <;> subst z <;> simp
          refine ⟨s1.heap.objs.size + 1, [s1.heap.objs.size + 1, s1.heap.objs.size], _, _, H1, rfl, I1.kept (t' := s1.toks) hk, turnEnT a (s1.heap.objs.size + 1) s1.heap.objs.size, ⟨⟨.none, he⟩, ⟨_, hit, rfl, rfl⟩, Nat.succ_ne_self _⟩, fun b hb => ?_, q3⟩
          have z := hlt b (by simpa using hb)
          exact I1.fpOk z (I1.hok.fresh z)
    | ref n =>
      refine (pi_enum hg hm pa (by rw [hs]; rfl)).run pins s σ H R I ⟨μ, ρ, st, hr, lr, ?_⟩
      rw [el]
      intro μ1 H1 l1 hr1 vs hvs
      obtain ⟨v, rfl, hv⟩ := hvs.one
      obtain ⟨a, rfl, m⟩ := hv.ref_inv
      have q3 : Post X.K μ H (match listAt st1 n with | some _ => (Res.ok (ItD.dyn (enumV n)) st1 : Res ItD) | none => Res.bad) (fun μ' H' d _ => ∀ J, ItOk X.K μ' H' J d.view → R J H') := q2
      split at q3
      · rename_i ps e1
        obtain ⟨b, xs, m2, h2, r2⟩ := hr1.listAt e1
        rw [m] at m2; cases m2
        exact ⟨a, xs, rfl, h2, q3 μ1 H1 l1 hr1 _ (itok_enumL m)⟩
      · exact q3.elim
    | non => exact q2.elim
    | bl b => exact q2.elim
    | int i => exact q2.elim
    | str x => exact q2.elim

/-! ### targets -/
abbrev Tg := PV → Env → Store → Res Env
def rdG (K : PySem.W.Frag) (g : Tg) : TG := fun v σ H Q => ∃ μ ρ st p, HR K μ H st ∧ LR K μ H σ ρ ∧ VR K μ H v p ∧ Post K μ H (g p ρ st) (fun μ' H' ρ' _ => ∀ σ', LR K μ' H' σ' ρ' → Q σ' H')
abbrev Tgs := List PV → Env → Store → Res Env
def rdGs (K : PySem.W.Frag) (g : Tgs) : TGs := fun vs σ H Q => ∃ μ ρ st ps, HR K μ H st ∧ LR K μ H σ ρ ∧ VRs K μ H vs ps ∧ Post K μ H (g ps ρ st) (fun μ' H' ρ' _ => ∀ σ', LR K μ' H' σ' ρ' → Q σ' H')
theorem PG.imp {X : Cx} {tg : Expr} {t t' : TG} (h : PG X tg t) (f : ∀ v σ H Q, t' v σ H Q → t v σ H Q) : PG X tg t' := ⟨fun pins s σ H v u Q I r w => h.run pins s σ H v u Q I r (f v σ H Q w)⟩
theorem PGs.imp {X : Cx} {tg : List Expr} {t t' : TGs} (h : PGs X tg t) (f : ∀ v σ H Q, t' v σ H Q → t v σ H Q) : PGs X tg t' := ⟨fun pins s σ H v u Q I r w => h.run pins s σ H v u Q I r (f v σ H Q w)⟩
def tgN (i : Nat) : Tg := fun p ρ st => .ok (ρ.set i (some p)) st
def tgNil : Tgs
  | [], ρ, st => .ok ρ st
  | _, _, _ => .bad
def tgCons (g : Tg) (h : Tgs) : Tgs
  | p :: ps, ρ, st => (g p ρ st).bind fun ρ1 st1 => h ps ρ1 st1
  | [], _, _ => .bad
def tgT (n : Nat) (h : Tgs) : Tg
  | .tup ps, ρ, st => if ps.length = n then h ps ρ st else .bad
  | _, _, _ => .bad
def setL : PV → PV → PV → Store → Res Unit
  | .ref n, .int i, p, st => match st[n]? with
    | some (.lst xs) => match ixN xs.length i with
      | some j => .ok () (st.set n (.lst (xs.set j p)))
      | none => .bad
    | _ => .bad
  | _, _, _, _ => .bad
def tgS (fo fi : Sm) : Tg := fun p ρ st => (fo ρ st).bind fun o st1 => (fi ρ st1).bind fun i st2 => (setL o i p st2).bind fun _ st3 => .ok ρ st3
section
variable {X : Cx} {pos : Pos}
theorem pg_name_ {i : Nat} {x : Str} (hN : X.N.Nodup) (hi : X.N[i]? = some x) (hx : Loc X.env.scope x) (hf : X.fn x = true ∨ X.env.scope.names.lookup x = some .local) : PG X (.Name x pos) (rdG X.K (tgN i)) :=
  PG.imp (pg_name hN hi hx hf) fun v σ H Q h => by
    obtain ⟨μ, ρ, st, p, hr, lr, hv, q⟩ := h
    exact q μ H .refl hr _ (lr.set hv i)
theorem pgs_nil_ : PGs X [] (rdGs X.K tgNil) := PGs.imp pgs_nil fun vs σ H Q h => by
  obtain ⟨μ, ρ, st, ps, hr, lr, hv, q⟩ := h
  cases hv with
  | nil => exact ⟨rfl, q μ H .refl hr _ lr⟩
  | cons a b => exact q.elim
theorem pgs_cons_ {e : Expr} {es : List Expr} {g : Tg} {h : Tgs} (h1 : PG X e (rdG X.K g)) (h2 : PGs X es (rdGs X.K h)) (hs : (assignEach (e :: es) X.env).map (·.2) = assign e X.env :: (assignEach es X.env).map (·.2)) : PGs X (e :: es) (rdGs X.K (tgCons g h)) :=
  PGs.imp (pgs_cons h1 h2 hs) fun vs σ H Q w => by
    obtain ⟨μ, ρ, st, ps, hr, lr, hv, q⟩ := w
    cases hv with
    | nil => exact q.elim
    | @cons v vs p ps a b =>
      have q2 : Post X.K μ H ((g p ρ st).bind fun ρ1 st1 => h ps ρ1 st1) (fun μ' H' ρ' _ => ∀ σ', LR X.K μ' H' σ' ρ' → Q σ' H') := q
      exact ⟨v, vs, rfl, μ, ρ, st, p, hr, lr, a, q2.bind_imp fun μ1 H1 ρ1 st1 l1 hr1 q1 σ' lr' => ⟨μ1, ρ1, st1, ps, hr1, lr', b.mono l1, q1⟩⟩
theorem pg_tup_ {es : List Expr} {k : Nat} {h : Tgs} {n : Nat} (hc : X.calm = true) (h1 : PGs X es (rdGs X.K h)) (hn : (assignEach es X.env).length = n) (hst : (assignEach es X.env).findIdx? (·.1) = none) : PG X (.Tuple es k pos) (rdG X.K (tgT n h)) :=
  PG.imp (pg_tup hc h1 hn hst) fun v σ H Q w => by
    obtain ⟨μ, ρ, st, p, hr, lr, hv, q⟩ := w
    unfold tgT at q
    split at q
    · obtain ⟨a, xs, rfl, h2, r2⟩ := hv.tup_inv
      split at q
      · rename_i z
        exact ⟨a, xs, rfl, h2, r2.length.trans z, μ, ρ, st, _, hr, lr, r2, q⟩
      · exact q.elim
    · exact q.elim
def PlainSet (env : PySem.Env) (o i : Expr) (pos : Pos) : Prop := ∀ v, assign (.Subscript o i pos) env v = (do
  let ov ← holding [v] (eval o env)
  let iv ← holding [v, ov] (eval i env)
  standAt pos
  holding [v, ov, iv] (setItem ov iv v)
  release [v, ov, iv] [])
theorem pg_sub_ {o i : Expr} {fo fi : Sm} (ho : PE X o (rd X.K fo)) (hi : PE X i (rd X.K fi)) (ha : PlainSet X.env o i pos) : PG X (.Subscript o i pos) (rdG X.K (tgS fo fi)) :=
  PG.imp (pg_sub ho hi set_list ha) fun v σ H Q w => by
    obtain ⟨μ, ρ, st, p, hr, lr, hv, q⟩ := w
    refine ⟨μ, ρ, st, hr, lr, q.bind_imp fun μ1 H1 ov st1 l1 hr1 q1 x hx => ?_⟩
    refine ⟨μ1, ρ, st1, hr1, lr.mono l1, q1.bind_imp fun μ2 H2 iv st2 l2 hr2 q2 y hy => ?_⟩
    have l := l1.trans l2
    cases e : setL ov iv p st2 with
    | bad => rw [e] at q2; exact q2.elim
    | ok u st3 =>
      rw [e] at q2
      unfold setL at e
      split at e
      · split at e
        · rename_i e1
          split at e
          · rename_i j e2
            cases e
            obtain ⟨a, xs, m, h1, r1⟩ := hr2.lst e1
            cases ref_is (hx.mono l2) m
            cases hy.int_inv
            refine ⟨a, xs, _, j, rfl, rfl, h1, by rw [r1.length]; exact e2, ?_⟩
            have r2 := r1.set (hv.mono l) j
            exact q2 μ2 _ (.write h1) (hr2.write e1 m h1 r2) σ ((lr.mono l).mono (.write h1))
          · cases e
        · cases e
      · cases e
end
end Pe
namespace Pe
open PySem PySem.Spec PyProof.Rows L2
variable {K : PySem.W.Frag} {μ μ' μ'' : List Addr} {H H' H'' : Hp} {st st' : Store} {σ : L2.St} {ρ : Env}

/-- how often a while may turn -/
@[irreducible] def fuel : Nat := 2 ^ (2 ^ 24)
/-! ### statements -/
inductive Fl where
  | nx | bk | ct | rt (p : PV)
abbrev SmS := Env → Store → Res (Fl × Env)
def QS (K : PySem.W.Frag) (D : Ends) : List Addr → Hp → Fl × Env → Store → Prop := fun μ H r _ => match r.1 with
  | .nx => ∀ σ, LR K μ H σ r.2 → D.nx σ H
  | .bk => ∀ σ, LR K μ H σ r.2 → D.bk σ H
  | .ct => ∀ σ, LR K μ H σ r.2 → D.ct σ H
  | .rt p => ∀ v, VR K μ H v p → D.rt v H
def rdS (K : PySem.W.Frag) (f : SmS) : TS := fun D σ H => ∃ μ ρ st, HR K μ H st ∧ LR K μ H σ ρ ∧ Post K μ H (f ρ st) (QS K D)
def sNil : SmS := fun ρ st => .ok (.nx, ρ) st
def sSeq (f g : SmS) : SmS := fun ρ st => (f ρ st).bind fun r st1 => match r.1 with
  | .nx => g r.2 st1
  | _ => .ok r st1
def sRet (f : Sm) : SmS := fun ρ st => (f ρ st).bind fun p st1 => .ok (.rt p, ρ) st1
def sRetN : SmS := fun ρ st => .ok (.rt .non, ρ) st
def sEx (f : Sm) : SmS := fun ρ st => (f ρ st).bind fun _ st1 => .ok (.nx, ρ) st1
def sBk : SmS := fun ρ st => .ok (.bk, ρ) st
def sCt : SmS := fun ρ st => .ok (.ct, ρ) st
def sBad : SmS := fun _ _ => .bad
def sIf (t : SmT) (f g : SmS) : SmS := fun ρ st => (t ρ st).bind fun b st1 => if b = true then f ρ st1 else g ρ st1
def sAs (g : Tg) (f : Sm) : SmS := fun ρ st => (f ρ st).bind fun p st1 => (g p ρ st1).bind fun ρ1 st2 => .ok (.nx, ρ1) st2
def setAll : List Nat → List PV → Env → Env
  | i :: is, p :: ps, ρ => setAll is ps (ρ.set i (some p))
  | _, _, ρ => ρ
def sPar (is : List Nat) (fl : SmL) : SmS := fun ρ st => (fl ρ st).bind fun ps st1 => if ps.length = is.length then .ok (.nx, setAll is ps ρ) st1 else .bad
def whileN (t : SmT) (b : SmS) : Nat → SmS
  | 0 => fun _ _ => .bad
  | n + 1 => fun ρ st => (t ρ st).bind fun c st1 => if c = true then (b ρ st1).bind fun r st2 => (match r.1 with
      | .nx => whileN t b n r.2 st2
      | .ct => whileN t b n r.2 st2
      | .bk => .ok (.nx, r.2) st2
      | .rt p => .ok (.rt p, r.2) st2) else .ok (.nx, ρ) st1
def sWh (t : SmT) (b : SmS) : SmS := whileN t b fuel
def forL (g : Tg) (b : SmS) : List PV → SmS
  | [] => fun ρ st => .ok (.nx, ρ) st
  | p :: ps => fun ρ st => (g p ρ st).bind fun ρ1 st1 => (b ρ1 st1).bind fun r st2 => match r.1 with
    | .nx => forL g b ps r.2 st2
    | .ct => forL g b ps r.2 st2
    | .bk => .ok (.nx, r.2) st2
    | .rt p => .ok (.rt p, r.2) st2
def forD (d : Nat → Store → Option (Option PV)) (g : Tg) (b : SmS) : Nat → Nat → SmS
  | 0, _ => fun _ _ => .bad
  | n + 1, i => fun ρ st => match d i st with
    | none => .bad
    | some none => .ok (.nx, ρ) st
    | some (some p) => (g p ρ st).bind fun ρ1 st1 => (b ρ1 st1).bind fun r st2 => match r.1 with
      | .nx => forD d g b n (i + 1) r.2 st2
      | .ct => forD d g b n (i + 1) r.2 st2
      | .bk => .ok (.nx, r.2) st2
      | .rt p => .ok (.rt p, r.2) st2
def sFor (it : SmI) (g : Tg) (b : SmS) : SmS := fun ρ st => (it ρ st).bind fun d st1 => match d with
  | .fix ps => forL g b ps ρ st1
  | .dyn d => forD d g b fuel 0 ρ st1
section
variable {X : Cx} {s : Stmt} {pos : Pos} {e : Expr}
theorem ps_pass_ : PS X (.Pass pos) (rdS X.K sNil) := PS.imp ps_pass fun D σ H h => by
  obtain ⟨μ, ρ, st, hr, lr, q⟩ := h
  exact q μ H .refl hr σ lr
theorem ps_break_ : PS X (.Break pos) (rdS X.K sBk) := PS.imp ps_break fun D σ H h => by
  obtain ⟨μ, ρ, st, hr, lr, q⟩ := h
  exact q μ H .refl hr σ lr
theorem ps_continue_ : PS X (.Continue pos) (rdS X.K sCt) := PS.imp ps_continue fun D σ H h => by
  obtain ⟨μ, ρ, st, hr, lr, q⟩ := h
  exact q μ H .refl hr σ lr
theorem pss_nil_ : PSs X [] (rdS X.K sNil) := PSs.imp pss_nil fun D σ H h => by
  obtain ⟨μ, ρ, st, hr, lr, q⟩ := h
  exact q μ H .refl hr σ lr
theorem ps_bad_ : PS X s (rdS X.K sBad) := PS.imp ps_never fun D σ H h => by
  obtain ⟨μ, ρ, st, hr, lr, q⟩ := h
  exact q.elim
theorem pss_cons_ {rest : List Stmt} {f g : SmS} (h1 : PS X s (rdS X.K f)) (h2 : PSs X rest (rdS X.K g)) : PSs X (s :: rest) (rdS X.K (sSeq f g)) :=
  PSs.imp (pss_cons h1 h2) fun D σ H h => by
    obtain ⟨μ, ρ, st, hr, lr, q⟩ := h
    refine ⟨μ, ρ, st, hr, lr, q.bind_imp fun μ1 H1 r st1 l1 hr1 q1 => ?_⟩
    obtain ⟨fl, ρ1⟩ := r
    cases fl with
    | nx => exact fun σ1 lr1 => ⟨μ1, ρ1, st1, hr1, lr1, q1⟩
    | bk => exact q1 μ1 H1 .refl hr1
    | ct => exact q1 μ1 H1 .refl hr1
    | rt p => exact q1 μ1 H1 .refl hr1
theorem ps_ret_ {f : Sm} (h : PE X e (rd X.K f)) : PS X (.Return (some e) pos) (rdS X.K (sRet f)) := PS.imp (ps_ret h) fun D σ H h => by
  obtain ⟨μ, ρ, st, hr, lr, q⟩ := h
  exact ⟨μ, ρ, st, hr, lr, q.bind_imp fun μ1 H1 p st1 l1 hr1 q1 => q1 μ1 H1 .refl hr1⟩
theorem ps_retN_ : PS X (.Return none pos) (rdS X.K sRetN) := PS.imp ps_retN fun D σ H h => by
  obtain ⟨μ, ρ, st, hr, lr, q⟩ := h
  exact q μ H .refl hr _ .non
theorem ps_ex_ {f : Sm} (h : PE X e (rd X.K f)) (hs : swapsWith e none pos.line X.env = pure false) : PS X (.Expr e pos) (rdS X.K (sEx f)) := PS.imp (ps_expr h hs) fun D σ H h => by
  obtain ⟨μ, ρ, st, hr, lr, q⟩ := h
  exact ⟨μ, ρ, st, hr, lr, q.bind_imp fun μ1 H1 p st1 l1 hr1 q1 v _ => q1 μ1 H1 .refl hr1 σ (lr.mono l1)⟩
theorem ps_if_ {c : Expr} {a b : List Stmt} {t : SmT} {f g : SmS} (hc : PT X c (rdT X.K t)) (ha : PSs X a (rdS X.K f)) (hb : PSs X b (rdS X.K g)) : PS X (.If c a b pos) (rdS X.K (sIf t f g)) := PS.imp (ps_if hc ha hb) fun D σ H h => by
  obtain ⟨μ, ρ, st, hr, lr, q⟩ := h
  refine ⟨μ, ρ, st, hr, lr, q.bind_imp fun μ1 H1 b st1 l1 hr1 q1 => ?_⟩
  cases b with
  | true => exact iteT ⟨μ1, ρ, st1, hr1, lr.mono l1, q1⟩
  | false => exact iteF ⟨μ1, ρ, st1, hr1, lr.mono l1, q1⟩
theorem rd_as {g : Tg} {f : Sm} {D : Ends} (h : rdS K (sAs g f) D σ H) : tAsg (rd K f) (rdG K g) D σ H := by
  obtain ⟨μ, ρ, st, hr, lr, q⟩ := h
  refine ⟨μ, ρ, st, hr, lr, q.bind_imp fun μ1 H1 p st1 l1 hr1 q1 v hv => ?_⟩
  exact ⟨μ1, ρ, st1, p, hr1, lr.mono l1, hv, q1.bind_imp fun μ2 H2 ρ2 st2 l2 hr2 q2 => q2 μ2 H2 .refl hr2⟩
theorem ps_as_ {tg : Expr} {g : Tg} {f : Sm} (he : PE X e (rd X.K f)) (hg : PG X tg (rdG X.K g)) (hs : swapsWithSole [tg] e pos.line X.env = pure false) (hw : swappedStores [tg] e X.env = pure none) (h1 : (assignEach [tg] X.env).map (·.2) = [assign tg X.env]) : PS X (.Assign [tg] e pos) (rdS X.K (sAs g f)) :=
  PS.imp (ps_asg he hg hs hw h1) fun _ _ _ => rd_as
theorem ps_set_ {i : Nat} {x : Str} {pos' : Pos} {f : Sm} (hN : X.N.Nodup) (hi : X.N[i]? = some x) (hx : Loc X.env.scope x) (he : PE X e (rd X.K f)) (hs : swapsWith e (some (.Name x pos')) pos.line X.env = pure false) (hf : X.fn x = true ∨ X.env.scope.names.lookup x = some .local) : PS X (.Assign [.Name x pos'] e pos) (rdS X.K (sAs (tgN i) f)) :=
  PS.imp (ps_set hN hi hx he hs hf) fun D σ H h => by
    obtain ⟨μ, ρ, st, hr, lr, q⟩ := h
    exact ⟨μ, ρ, st, hr, lr, q.bind_imp fun μ1 H1 p st1 l1 hr1 q1 v hv => q1 μ1 H1 .refl hr1 _ ((lr.mono l1).set hv i)⟩
theorem ps_par_ {i j : Nat} {x y : Str} {a b : Expr} {fl : SmL} {px py pt : Pos} {kt k2 : Nat} {pt2 : Pos} (hc : X.calm = true) (hN : X.N.Nodup) (hi : X.N[i]? = some x) (hj : X.N[j]? = some y) (hij : i ≠ j)
    (hx : X.env.scope.names.lookup x = some .local) (hy : X.env.scope.names.lookup y = some .local) (ha : PA X [a, b] (rdL X.K fl))
    (hw : swappedStores [.Tuple [.Name x px, .Name y py] kt pt] (.Tuple [a, b] k2 pt2) X.env = pure (some [x, y])) :
    PS X (.Assign [.Tuple [.Name x px, .Name y py] kt pt] (.Tuple [a, b] k2 pt2) pos) (rdS X.K (sPar [i, j] fl)) :=
  PS.imp (ps_par hc hN hi hj hij hx hy ha hw rfl) fun D σ H h => by
    obtain ⟨μ, ρ, st, hr, lr, q⟩ := h
    refine ⟨μ, ρ, st, hr, lr, q.bind_imp fun μ1 H1 ps st1 l1 hr1 q1 vs hvs => ?_⟩
    split at q1
    · rename_i z
      match ps, z with
      | [p, p2], _ =>
        obtain ⟨v, w, rfl, h1, h2⟩ := hvs.two
        exact ⟨v, w, rfl, q1 μ1 H1 .refl hr1 _ (((lr.mono l1).set h1 i).set h2 j)⟩
    · exact q1.elim
theorem ps_par3_ {i j l : Nat} {x y z : Str} {a b c : Expr} {fl : SmL} {px py pz pt : Pos} {kt k2 : Nat} {pt2 : Pos} (hc : X.calm = true) (hN : X.N.Nodup) (hi : X.N[i]? = some x) (hj : X.N[j]? = some y) (hl : X.N[l]? = some z) (hij : i ≠ j) (hil : i ≠ l) (hjl : j ≠ l)
    (hx : X.env.scope.names.lookup x = some .local) (hy : X.env.scope.names.lookup y = some .local) (hz : X.env.scope.names.lookup z = some .local) (ha : PA X [a, b, c] (rdL X.K fl))
    (hw : swappedStores [.Tuple [.Name x px, .Name y py, .Name z pz] kt pt] (.Tuple [a, b, c] k2 pt2) X.env = pure (some [x, y, z])) :
    PS X (.Assign [.Tuple [.Name x px, .Name y py, .Name z pz] kt pt] (.Tuple [a, b, c] k2 pt2) pos) (rdS X.K (sPar [i, j, l] fl)) :=
  PS.imp (ps_par3 hc hN hi hj hl hij hil hjl hx hy hz ha hw rfl) fun D σ H h => by
    obtain ⟨μ, ρ, st, hr, lr, q⟩ := h
    refine ⟨μ, ρ, st, hr, lr, q.bind_imp fun μ1 H1 ps st1 l1 hr1 q1 vs hvs => ?_⟩
    split at q1
    · rename_i z0
      match ps, z0 with
      | [p, p2, p3], _ =>
        cases hvs with
        | cons h1 t =>
          obtain ⟨v2, v3, rfl, h2, h3⟩ := t.two
          exact ⟨_, v2, v3, rfl, q1 μ1 H1 .refl hr1 _ ((((lr.mono l1).set h1 i).set h2 j).set h3 l)⟩
    · exact q1.elim
/-! ### loops -/
theorem ps_wh_ {c : Expr} {body : List Stmt} {t : SmT} {b : SmS} (hp : PassesOwn (model X.prog X.w) X.A X.env X.xe) (hc : PT X c (rdT X.K t)) (hb : PSs X body (rdS X.K b)) : PS X (.While c body [] pos) (rdS X.K (sWh t b)) :=
  PS.imp (ps_while hp hc hb) fun D σ H h => by
    obtain ⟨μ, ρ, st, hr, lr, q⟩ := h
    refine ⟨fun m σ H => ∃ μ ρ st, HR X.K μ H st ∧ LR X.K μ H σ ρ ∧ Post X.K μ H (whileN t b m ρ st) (QS X.K D), ⟨fuel, μ, ρ, st, hr, lr, q⟩, ?_⟩
    rintro m σ1 H1 ⟨μ1, ρ1, st1, hr1, lr1, q1⟩
    cases m with
    | zero => exact q1.elim
    | succ n =>
      refine ⟨μ1, ρ1, st1, hr1, lr1, q1.bind_imp fun μ2 H2 cb st2 l2 hr2 q2 => ?_⟩
      cases cb with
      | true =>
        refine iteT ⟨fun σ' H' => ∃ μ ρ st, HR X.K μ H' st ∧ LR X.K μ H' σ' ρ ∧ Post X.K μ H' (whileN t b n ρ st) (QS X.K D), fun σ' H' z => ⟨n, Nat.lt_succ_self n, z⟩, ?_⟩
        rw [if_pos rfl] at q2
        refine ⟨μ2, ρ1, st2, hr2, lr1.mono l2, q2.bind_imp fun μ3 H3 r st3 l3 hr3 q3 => ?_⟩
        obtain ⟨fl, ρ3⟩ := r
        cases fl with
        | nx => exact fun σ3 lr3 => ⟨μ3, ρ3, st3, hr3, lr3, q3⟩
        | ct => exact fun σ3 lr3 => ⟨μ3, ρ3, st3, hr3, lr3, q3⟩
        | bk => exact q3 μ3 H3 .refl hr3
        | rt p => exact q3 μ3 H3 .refl hr3
      | false => exact iteF (q2 μ2 H2 .refl hr2 σ1 (lr1.mono l2))
theorem ps_for_ {tg iter : Expr} {body : List Stmt} {it : SmI} {g : Tg} {b : SmS} (hp : PassesOwn (model X.prog X.w) X.A X.env X.xe) (hc : X.calm = true) (hi : PI X tg iter (rdI X.K it)) (hg : PG X tg (rdG X.K g)) (hb : PSs X body (rdS X.K b)) (hs : ∀ x, foldedSetIterable iter X.env x = pure x) :
    PS X (.For tg iter body [] pos) (rdS X.K (sFor it g b)) :=
  PS.imp (ps_for hp hc hi hg hb hs) fun D σ H h => by
    obtain ⟨μ, ρ, st, hr, lr, q⟩ := h
    refine ⟨μ, ρ, st, hr, lr, q.bind_imp fun μ1 H1 d st1 l1 hr1 q1 J hJ => ?_⟩
    cases d with
    | fix ps =>
      refine ⟨fun i m σ H => m = ps.length - i ∧ i ≤ ps.length ∧ ∃ μ ρ st, Le μ1 H1 μ H ∧ HR X.K μ H st ∧ LR X.K μ H σ ρ ∧ Post X.K μ H (forL g b (ps.drop i) ρ st) (QS X.K D), ⟨ps.length, by simp, Nat.zero_le _, μ1, ρ, st1, .refl, hr1, lr.mono l1, by rw [List.drop_zero]; exact q1⟩, ?_⟩
      rintro i m σ2 H2 ⟨rfl, hi2, μ2, ρ2, st2, l2, hr2, lr2, q2⟩
      by_cases hlt : i < ps.length
      · have ev : (ItD.fix ps).view i st2 = some (some ps[i]) := congrArg some (List.getElem?_eq_getElem hlt)
        refine .inr ⟨hJ.go i μ2 H2 st2 _ l2 hr2 ev, fun σ H => ∃ μ ρ st, Le μ1 H1 μ H ∧ HR X.K μ H st ∧ LR X.K μ H σ ρ ∧ Post X.K μ H (forL g b (ps.drop (i + 1)) ρ st) (QS X.K D), fun σ' H' z => ⟨_, by omega, rfl, hlt, z⟩, fun x H3 y => ?_⟩
        obtain ⟨l3, hr3, hx⟩ := hJ.yl i μ2 H2 st2 _ x H3 l2 hr2 ev y
        rw [List.drop_eq_getElem_cons hlt] at q2
        refine ⟨μ2, ρ2, st2, ps[i], hr3, lr2.mono l3, hx, (q2.le l3).bind_imp fun μ4 H4 ρ4 st4 l4 hr4 q4 σ4 lr4 => ?_⟩
        refine ⟨μ4, ρ4, st4, hr4, lr4, q4.bind_imp fun μ5 H5 r st5 l5 hr5 q5 => ?_⟩
        obtain ⟨fl, ρ5⟩ := r
        have l := ((l2.trans l3).trans l4).trans l5
        cases fl with
        | nx => exact fun σ5 lr5 => ⟨μ5, ρ5, st5, l, hr5, lr5, q5⟩
        | ct => exact fun σ5 lr5 => ⟨μ5, ρ5, st5, l, hr5, lr5, q5⟩
        | bk => exact q5 μ5 H5 .refl hr5
        | rt p => exact q5 μ5 H5 .refl hr5
      · have ei : i = ps.length := by omega
        subst ei
        have ev : (ItD.fix ps).view ps.length st2 = some none := congrArg some (List.getElem?_eq_none (Nat.le_refl _))
        rw [List.drop_length] at q2
        exact .inl ⟨hJ.stop _ μ2 H2 st2 l2 hr2 ev, q2 μ2 H2 .refl hr2 σ2 lr2⟩
    | dyn d =>
      refine ⟨fun i m σ H => ∃ μ ρ st, Le μ1 H1 μ H ∧ HR X.K μ H st ∧ LR X.K μ H σ ρ ∧ Post X.K μ H (forD d g b m i ρ st) (QS X.K D), ⟨fuel, μ1, ρ, st1, .refl, hr1, lr.mono l1, q1⟩, ?_⟩
      rintro i m σ2 H2 ⟨μ2, ρ2, st2, l2, hr2, lr2, q2⟩
      cases m with
      | zero => exact q2.elim
      | succ n =>
        have q2' : Post X.K μ2 H2 (match d i st2 with
          | none => .bad
          | some none => .ok (.nx, ρ2) st2
          | some (some p) => (g p ρ2 st2).bind fun ρ1 st1 => (b ρ1 st1).bind fun r st2 => match r.1 with
            | .nx => forD d g b n (i + 1) r.2 st2
            | .ct => forD d g b n (i + 1) r.2 st2
            | .bk => .ok (.nx, r.2) st2
            | .rt p => .ok (.rt p, r.2) st2) (QS X.K D) := q2
        split at q2'
        · exact q2'.elim
        · rename_i ev
          exact .inl ⟨hJ.stop _ μ2 H2 st2 l2 hr2 ev, q2' μ2 H2 .refl hr2 σ2 lr2⟩
        · rename_i p ev
          refine .inr ⟨hJ.go i μ2 H2 st2 _ l2 hr2 ev, fun σ H => ∃ μ ρ st, Le μ1 H1 μ H ∧ HR X.K μ H st ∧ LR X.K μ H σ ρ ∧ Post X.K μ H (forD d g b n (i + 1) ρ st) (QS X.K D), fun σ' H' z => ⟨n, Nat.lt_succ_self n, z⟩, fun x H3 y => ?_⟩
          obtain ⟨l3, hr3, hx⟩ := hJ.yl i μ2 H2 st2 _ x H3 l2 hr2 ev y
          refine ⟨μ2, ρ2, st2, p, hr3, lr2.mono l3, hx, (q2'.le l3).bind_imp fun μ4 H4 ρ4 st4 l4 hr4 q4 σ4 lr4 => ?_⟩
          refine ⟨μ4, ρ4, st4, hr4, lr4, q4.bind_imp fun μ5 H5 r st5 l5 hr5 q5 => ?_⟩
          obtain ⟨fl, ρ5⟩ := r
          have l := ((l2.trans l3).trans l4).trans l5
          cases fl with
          | nx => exact fun σ5 lr5 => ⟨μ5, ρ5, st5, l, hr5, lr5, q5⟩
          | ct => exact fun σ5 lr5 => ⟨μ5, ρ5, st5, l, hr5, lr5, q5⟩
          | bk => exact q5 μ5 H5 .refl hr5
          | rt p => exact q5 μ5 H5 .refl hr5
end
end Pe
namespace Pe
open PySem PySem.Spec PyProof.Rows L2
variable {K : PySem.W.Frag} {μ μ' μ'' : List Addr} {H H' H'' : Hp} {st st' : Store} {σ : L2.St} {ρ : Env}

/-! ### targets within a comprehension: they change own slots alone -/
def Off (vs : List Nat) (σ σ' : L2.St) : Prop := σ'.length = σ.length ∧ ∀ (j : Nat), j ∉ vs → σ'[j]? = σ[j]?
def rdW (K : PySem.W.Frag) (vs : List Nat) (g : Tg) : TG := fun v σ H Q => ∃ μ ρ st p, HR K μ H st ∧ LR K μ H σ ρ ∧ VR K μ H v p ∧ Post K μ H (g p ρ st) (fun μ' H' ρ' _ => ∀ σ', LR K μ' H' σ' ρ' → Off vs σ σ' → Q σ' H')
def rdWs (K : PySem.W.Frag) (vs : List Nat) (g : Tgs) : TGs := fun ws σ H Q => ∃ μ ρ st ps, HR K μ H st ∧ LR K μ H σ ρ ∧ VRs K μ H ws ps ∧ Post K μ H (g ps ρ st) (fun μ' H' ρ' _ => ∀ σ', LR K μ' H' σ' ρ' → Off vs σ σ' → Q σ' H')
theorem Off.set {vs : List Nat} {σ σ' : L2.St} {i : Nat} {x : Option V} (hi : i ∈ vs) (h : Off vs σ σ') : Off vs σ (σ'.set i x) :=
  ⟨by rw [List.length_set]; exact h.1, fun j hj => by rw [List.getElem?_set_ne (show i ≠ j from fun e => hj (e ▸ hi))]; exact h.2 j hj⟩
theorem Off.refl {vs : List Nat} {σ : L2.St} : Off vs σ σ := ⟨rfl, fun _ _ => rfl⟩
theorem Off.trans {vs : List Nat} {σ σ' σ'' : L2.St} (a : Off vs σ σ') (b : Off vs σ' σ'') : Off vs σ σ'' := ⟨b.1.trans a.1, fun j hj => (b.2 j hj).trans (a.2 j hj)⟩
theorem wipe_in {σ : L2.St} {i : Nat} : ∀ {vs : List Nat}, i ∈ vs → i < σ.length → (wipe σ vs)[i]? = some none
  | v :: vs, h, hl => by
    show ((wipe σ vs).set v none)[i]? = _
    by_cases e : v = i
    · subst e
      rw [List.getElem?_set_self (by rw [wipe_length]; exact hl)]
    · rw [List.getElem?_set_ne e]
      rcases List.mem_cons.mp h with z | z
      · exact absurd z.symm e
      · exact wipe_in z hl
theorem wipe_off {vs : List Nat} {σ σ' : L2.St} (h : Off vs (wipe σ vs) σ') : wipe σ' vs = wipe σ vs := by
  have hl : σ'.length = σ.length := by rw [h.1, wipe_length]
  apply List.ext_getElem?
  intro j
  by_cases hj : j ∈ vs
  · by_cases z : j < σ.length
    · rw [wipe_in hj (by omega), wipe_in hj z]
    · rw [List.getElem?_eq_none (by rw [wipe_length]; omega), List.getElem?_eq_none (by rw [wipe_length]; omega)]
  · rw [wipe_out hj, h.2 j hj]
section
variable {X : Cx} {pos : Pos}
theorem pgw_name {vs : List Nat} {i : Nat} {x : Str} (hN : X.N.Nodup) (hi : X.N[i]? = some x) (hx : Loc X.env.scope x) (hf : X.fn x = true ∨ X.env.scope.names.lookup x = some .local) (hv : i ∈ vs) : PG X (.Name x pos) (rdW X.K vs (tgN i)) :=
  PG.imp (pg_name hN hi hx hf) fun v σ H Q h => by
    obtain ⟨μ, ρ, st, p, hr, lr, hv2, q⟩ := h
    exact q μ H .refl hr _ (lr.set hv2 i) (Off.refl.set hv)
theorem pgws_nil {vs : List Nat} : PGs X [] (rdWs X.K vs tgNil) := PGs.imp pgs_nil fun ws σ H Q h => by
  obtain ⟨μ, ρ, st, ps, hr, lr, hv, q⟩ := h
  cases hv with
  | nil => exact ⟨rfl, q μ H .refl hr _ lr .refl⟩
  | cons a b => exact q.elim
theorem pgws_cons {vs : List Nat} {e : Expr} {es : List Expr} {g : Tg} {h : Tgs} (h1 : PG X e (rdW X.K vs g)) (h2 : PGs X es (rdWs X.K vs h)) (hs : (assignEach (e :: es) X.env).map (·.2) = assign e X.env :: (assignEach es X.env).map (·.2)) : PGs X (e :: es) (rdWs X.K vs (tgCons g h)) :=
  PGs.imp (pgs_cons h1 h2 hs) fun ws σ H Q w => by
    obtain ⟨μ, ρ, st, ps, hr, lr, hv, q⟩ := w
    cases hv with
    | nil => exact q.elim
    | @cons v vs' p ps a b =>
      have q2 : Post X.K μ H ((g p ρ st).bind fun ρ1 st1 => h ps ρ1 st1) (fun μ' H' ρ' _ => ∀ σ', LR X.K μ' H' σ' ρ' → Off vs σ σ' → Q σ' H') := q
      exact ⟨v, vs', rfl, μ, ρ, st, p, hr, lr, a, q2.bind_imp fun μ1 H1 ρ1 st1 l1 hr1 q1 σ' lr' o' => ⟨μ1, ρ1, st1, ps, hr1, lr', b.mono l1, q1.imp fun μ2 H2 ρ2 st2 l2 hr2 q2 σ2 lr2 o2 => q2 σ2 lr2 (o'.trans o2)⟩⟩
theorem pgw_tup {vs : List Nat} {es : List Expr} {k : Nat} {h : Tgs} {n : Nat} (hc : X.calm = true) (h1 : PGs X es (rdWs X.K vs h)) (hn : (assignEach es X.env).length = n) (hst : (assignEach es X.env).findIdx? (·.1) = none) : PG X (.Tuple es k pos) (rdW X.K vs (tgT n h)) :=
  PG.imp (pg_tup hc h1 hn hst) fun v σ H Q w => by
    obtain ⟨μ, ρ, st, p, hr, lr, hv, q⟩ := w
    unfold tgT at q
    split at q
    · obtain ⟨a, xs, rfl, h2, r2⟩ := hv.tup_inv
      split at q
      · rename_i z
        exact ⟨a, xs, rfl, h2, r2.length.trans z, μ, ρ, st, _, hr, lr, r2, q⟩
      · exact q.elim
    · exact q.elim
end
/-! ### comprehensions -/
def wipeE (vs : List Nat) (ρ : Env) : Env := vs.foldr (fun v r => r.set v none) ρ
def compPut (D : Nat) (y : PV) (st : Store) : Res Unit := match st[D]? with
  | some (.lst acc) => if acc.length < sizeLine then .ok () (st.set D (.lst (acc ++ [y]))) else .bad
  | _ => .bad
def compTurn (g : Tg) (t : SmT) (e : Sm) (D : Nat) (ρ : Env) (p : PV) : Store → Res Unit := fun st => (g p ρ st).bind fun ρ1 st1 => (t ρ1 st1).bind fun b st2 => if b = true then (e ρ1 st2).bind fun y st3 => compPut D y st3 else .ok () st2
def compL (g : Tg) (t : SmT) (e : Sm) (D : Nat) (ρ : Env) : List PV → Store → Res Unit
  | [], st => .ok () st
  | p :: ps, st => (compTurn g t e D ρ p st).bind fun _ st1 => compL g t e D ρ ps st1
def compD (d : Nat → Store → Option (Option PV)) (g : Tg) (t : SmT) (e : Sm) (D : Nat) (ρ : Env) : Nat → Nat → Store → Res Unit
  | 0, _, _ => .bad
  | n + 1, i, st => match d i st with
    | none => .bad
    | some none => .ok () st
    | some (some p) => (compTurn g t e D ρ p st).bind fun _ st1 => compD d g t e D ρ n (i + 1) st1
def xComp (vs : List Nat) (it : SmI) (g : Tg) (t : SmT) (e : Sm) : Sm := fun ρ st => (it ρ st).bind fun d st1 => (match d with
  | .fix ps => compL g t e st1.length (wipeE vs ρ) ps (st1 ++ [Ob.lst []])
  | .dyn v => compD v g t e st1.length (wipeE vs ρ) fuel 0 (st1 ++ [Ob.lst []])).bind fun _ st2 => .ok (.ref st1.length) st2
theorem comp_turn {vs : List Nat} {g : Tg} {t : SmT} {e : Sm} {N : Nat} {D : Addr} {x : V} {p : PV} {Qp : List Addr → Hp → Unit → Store → Prop} {Nx : Hp → Prop} (hr : HR K μ H st) (lr : LR K μ H σ ρ) (hx : VR K μ H x p) (hN : μ[N]? = some D)
    (q : Post K μ H (compTurn g t e N (wipeE vs ρ) p st) Qp) (hQ : ∀ μ' H' st', Le μ H μ' H' → HR K μ' H' st' → Qp μ' H' () st' → Nx H') :
    rdW K vs g x (wipe σ vs) H fun σ2 H2 => wipe σ2 vs = wipe σ vs ∧ rdT K t σ2 H2 fun b H3 => if b = true then rd K e σ2 H3 fun y H4 => ∃ acc, H4 D = some (.lst acc) ∧ acc.length < sizeLine ∧ Nx (upd H4 D (.lst (acc ++ [y]))) else Nx H3 := by
  refine ⟨μ, wipeE vs ρ, st, p, hr, lr.wipe vs, hx, q.bind_imp fun μ1 H1 ρ1 st1 l1 hr1 q1 σ1 lr1 o1 => ⟨wipe_off o1, ?_⟩⟩
  refine ⟨μ1, ρ1, st1, hr1, lr1, q1.bind_imp fun μ2 H2 b st2 l2 hr2 q2 => ?_⟩
  cases b with
  | false => exact iteF (hQ μ2 H2 st2 (l1.trans l2) hr2 (q2 μ2 H2 .refl hr2))
  | true =>
    rw [if_pos rfl] at q2
    refine iteT ⟨μ2, ρ1, st2, hr2, lr1.mono l2, q2.bind_imp fun μ3 H3 y st3 l3 hr3 q3 v hv => ?_⟩
    have l := (l1.trans l2).trans l3
    unfold compPut at q3
    split at q3
    · rename_i acc e1
      split at q3
      · rename_i z
        obtain ⟨a, ys, m, h1, r1⟩ := hr3.lst e1
        rw [l.map N D hN] at m; cases m
        refine ⟨ys, h1, by rw [r1.length]; exact z, ?_⟩
        have r2 := r1.append (VRs.cons hv .nil)
        exact hQ μ3 _ _ (l.trans (.write h1)) (hr3.write e1 (l.map N D hN) h1 r2) (q3 μ3 _ (.write h1) (hr3.write e1 (l.map N D hN) h1 r2))
      · exact q3.elim
    · exact q3.elim
theorem rd_comp {vs : List Nat} {it : SmI} {g : Tg} {t : SmT} {e : Sm} {Q : VK} (h : rd K (xComp vs it g t e) σ H Q) : tLc (rdI K it) (rdW K vs g) (rdT K t) (rd K e) vs σ H Q := by
  obtain ⟨μ, ρ, st, hr, lr, q⟩ := h
  refine ⟨μ, ρ, st, hr, lr, q.bind_imp fun μ1 H1 d st1 l1 hr1 q1 J hJ D hD => ?_⟩
  have l2 : Le μ1 H1 (μ1 ++ [D]) (upd H1 D (.lst [])) := .newL hD
  have hr2 : HR K (μ1 ++ [D]) (upd H1 D (.lst [])) (st1 ++ [Ob.lst []]) := hr1.newL hD .nil
  have hN : (μ1 ++ [D])[st1.length]? = some D := by rw [← hr1.len]; simp
  have q2 := (q1.le l2).bind
  cases d with
  | fix ps =>
    refine ⟨fun i m H => m = ps.length - i ∧ i ≤ ps.length ∧ ∃ μ st, Le (μ1 ++ [D]) (upd H1 D (.lst [])) μ H ∧ HR K μ H st ∧ Post K μ H (compL g t e st1.length (wipeE vs ρ) (ps.drop i) st) (fun μ' H' _ st2 => Post K μ' H' (.ok (.ref st1.length) st2) (QV K Q)), ⟨ps.length, by simp, Nat.zero_le _, _, _, .refl, hr2, by rw [List.drop_zero]; exact q2⟩, ?_⟩
    rintro i m H3 ⟨rfl, hi, μ3, st3, l3, hr3, q3⟩
    by_cases hlt : i < ps.length
    · have ev : (ItD.fix ps).view i st3 = some (some ps[i]) := congrArg some (List.getElem?_eq_getElem hlt)
      refine .inr ⟨hJ.go i μ3 H3 st3 _ (l2.trans l3) hr3 ev, fun H => ∃ μ st, Le (μ1 ++ [D]) (upd H1 D (.lst [])) μ H ∧ HR K μ H st ∧ Post K μ H (compL g t e st1.length (wipeE vs ρ) (ps.drop (i + 1)) st) (fun μ' H' _ st2 => Post K μ' H' (.ok (.ref st1.length) st2) (QV K Q)), fun H' z => ⟨_, by omega, rfl, hlt, z⟩, fun x H4 y => ?_⟩
      obtain ⟨l4, hr4, hx⟩ := hJ.yl i μ3 H3 st3 _ x H4 (l2.trans l3) hr3 ev y
      rw [List.drop_eq_getElem_cons hlt] at q3
      refine comp_turn hr4 (lr.mono (((l1.trans l2).trans l3).trans l4)) hx ((l3.trans l4).map _ _ hN) (q3.le l4).bind fun μ5 H5 st5 l5 hr5 q5 => ⟨μ5, st5, (l3.trans l4).trans l5, hr5, q5⟩
    · have ei : i = ps.length := by omega
      subst ei
      have ev : (ItD.fix ps).view ps.length st3 = some none := congrArg some (List.getElem?_eq_none (Nat.le_refl _))
      rw [List.drop_length] at q3
      exact .inl ⟨hJ.stop _ μ3 H3 st3 (l2.trans l3) hr3 ev, q3 μ3 H3 .refl hr3 μ3 H3 .refl hr3 _ (.ref (l3.map _ _ hN))⟩
  | dyn d =>
    refine ⟨fun i m H => ∃ μ st, Le (μ1 ++ [D]) (upd H1 D (.lst [])) μ H ∧ HR K μ H st ∧ Post K μ H (compD d g t e st1.length (wipeE vs ρ) m i st) (fun μ' H' _ st2 => Post K μ' H' (.ok (.ref st1.length) st2) (QV K Q)), ⟨fuel, _, _, .refl, hr2, q2⟩, ?_⟩
    rintro i m H3 ⟨μ3, st3, l3, hr3, q3⟩
    cases m with
    | zero => exact q3.elim
    | succ n =>
      have q3' : Post K μ3 H3 (match d i st3 with
        | none => .bad
        | some none => .ok () st3
        | some (some p) => (compTurn g t e st1.length (wipeE vs ρ) p st3).bind fun _ st1' => compD d g t e st1.length (wipeE vs ρ) n (i + 1) st1') (fun μ' H' _ st2 => Post K μ' H' (.ok (.ref st1.length) st2) (QV K Q)) := q3
      split at q3'
      · exact q3'.elim
      · rename_i ev
        exact .inl ⟨hJ.stop _ μ3 H3 st3 (l2.trans l3) hr3 ev, q3' μ3 H3 .refl hr3 μ3 H3 .refl hr3 _ (.ref (l3.map _ _ hN))⟩
      · rename_i p ev
        refine .inr ⟨hJ.go i μ3 H3 st3 _ (l2.trans l3) hr3 ev, fun H => ∃ μ st, Le (μ1 ++ [D]) (upd H1 D (.lst [])) μ H ∧ HR K μ H st ∧ Post K μ H (compD d g t e st1.length (wipeE vs ρ) n (i + 1) st) (fun μ' H' _ st2 => Post K μ' H' (.ok (.ref st1.length) st2) (QV K Q)), fun H' z => ⟨n, Nat.lt_succ_self n, z⟩, fun x H4 y => ?_⟩
        obtain ⟨l4, hr4, hx⟩ := hJ.yl i μ3 H3 st3 _ x H4 (l2.trans l3) hr3 ev y
        refine comp_turn hr4 (lr.mono (((l1.trans l2).trans l3).trans l4)) hx ((l3.trans l4).map _ _ hN) (q3'.le l4).bind fun μ5 H5 st5 l5 hr5 q5 => ⟨μ5, st5, (l3.trans l4).trans l5, hr5, q5⟩
def xYes : SmT := fun _ st => .ok true st
section
variable {X : Cx}
theorem PTs.imp {es : List Expr} {t t' : TT} (h : PTs X es t) (f : ∀ σ H Q, t' σ H Q → t σ H Q) : PTs X es t' := ⟨fun pins s σ H Q I w => h.run pins s σ H Q I (f σ H Q w)⟩
theorem pts_nil_ : PTs X [] (rdT X.K xYes) := PTs.imp pts_nil fun σ H Q h => by
  obtain ⟨μ, ρ, st, hr, lr, q⟩ := h
  exact q μ H .refl hr
theorem pe_comp_ {elt tg iter : Expr} {ifs : List Expr} {scope : Scope} {own : List (Str × Nat)} {pos : Pos} {it : SmI} {g : Tg} {t : SmT} {e : Sm} (hc : X.calm = true) (hN : X.N.Nodup) (hi : PI X tg iter (rdI X.K it)) (ok : BlkOk X.N X.env.scope scope own)
    (hg : ∀ (s : Shared) (H : Hp) (C : Addr) (cl : List (Str × Addr)) (fp : List Addr), PG (X.blk s H scope (compEnvC scope cl C X.env) fp) tg (rdW X.K (own.map (·.2)) g)) (ht : ∀ (s : Shared) (H : Hp) (C : Addr) (cl : List (Str × Addr)) (fp : List Addr), PTs (X.blk s H scope (compEnvC scope cl C X.env) fp) ifs (rdT X.K t))
    (he : ∀ (s : Shared) (H : Hp) (C : Addr) (cl : List (Str × Addr)) (fp : List Addr), PE (X.blk s H scope (compEnvC scope cl C X.env) fp) elt (rd X.K e)) (hs : ∀ x, foldedSetIterable iter X.env x = pure x) :
    PE X (.ListComp elt [⟨tg, iter, ifs, 0⟩] scope pos) (rd X.K (xComp (own.map (·.2)) it g t e)) := PE.imp (pe_lc hc hN hi ok hg ht he hs) fun _ _ _ => rd_comp
theorem ps_setc_ {i : Nat} {y : Str} {py : Pos} {elt tg iter : Expr} {ifs : List Expr} {scope : Scope} {own : List (Str × Nat)} {pos spos : Pos} {it : SmI} {g : Tg} {t : SmT} {e : Sm} (hc : X.calm = true) (hN : X.N.Nodup) (hy : X.N[i]? = some y) (hyl : X.env.scope.names.lookup y = some .local)
    (hsw : swapsWith (.ListComp elt [⟨tg, iter, ifs, 0⟩] scope pos) (some (.Name y py)) spos.line X.env = pure true) (hi : PI X tg iter (rdI X.K it)) (ok : BlkOk X.N X.env.scope scope own)
    (hg : ∀ (s : Shared) (H : Hp) (C : Addr) (cl : List (Str × Addr)) (fp : List Addr), PG (X.blk s H scope (compEnvC scope cl C X.env) fp) tg (rdW X.K (own.map (·.2)) g)) (ht : ∀ (s : Shared) (H : Hp) (C : Addr) (cl : List (Str × Addr)) (fp : List Addr), PTs (X.blk s H scope (compEnvC scope cl C X.env) fp) ifs (rdT X.K t))
    (he : ∀ (s : Shared) (H : Hp) (C : Addr) (cl : List (Str × Addr)) (fp : List Addr), PE (X.blk s H scope (compEnvC scope cl C X.env) fp) elt (rd X.K e)) (hs : ∀ x, foldedSetIterable iter X.env x = pure x) :
    PS X (.Assign [.Name y py] (.ListComp elt [⟨tg, iter, ifs, 0⟩] scope pos) spos) (rdS X.K (sAs (tgN i) (xComp (own.map (·.2)) it g t e))) := PS.imp (ps_setLc hc hN hy hyl hsw hi ok hg ht he hs) fun D σ H h => by
  obtain ⟨μ, ρ, st, hr, lr, q⟩ := h
  exact rd_comp ⟨μ, ρ, st, hr, lr, q.bind_imp fun μ1 H1 p st1 l1 hr1 q1 v hv => q1 μ1 H1 .refl hr1 _ ((lr.mono l1).set hv i)⟩
/-! ### methods of lists -/
def gApp : PV → List PV → Store → Res PV
  | .ref n, [p], st => match st[n]? with
    | some (.lst xs) => if xs.length < sizeLine then .ok .non (st.set n (.lst (xs ++ [p]))) else .bad
    | _ => .bad
  | _, _, _ => .bad
def gPop : PV → Store → Res PV
  | .ref n, st => match st[n]? with
    | some (.lst xs) => match xs[xs.length - 1]? with
      | some p => .ok p (st.set n (.lst xs.dropLast))
      | none => .bad
    | _ => .bad
  | _, _ => .bad
def isL : PV → Store → Bool
  | .ref n, st => (listAt st n).isSome
  | _, _ => false
def xApp (fo : Sm) (fl : SmL) : Sm := fun ρ st => (fo ρ st).bind fun o st1 => if isL o st1 = true then (fl ρ st1).bind fun ps st2 => gApp o ps st2 else .bad
def xPop (fo : Sm) : Sm := fun ρ st => (fo ρ st).bind gPop
theorem isL_ty {X : Cx} {μ : List Addr} {H : Hp} {o : PV} {v : V} (hr : HR X.K μ H st) (hv : VR X.K μ H v o) (h : isL o st = true) : tyV X.K "list" v H := by
  cases hv with
  | @ref n a m =>
    have h2 : (listAt st n).isSome = true := h
    obtain ⟨ps, e⟩ := Option.isSome_iff_exists.mp h2
    obtain ⟨b, xs, m2, h3, _⟩ := hr.listAt e
    rw [m] at m2; cases m2
    exact .inl ⟨rfl, xs, h3⟩
  | non => cases h
  | bl _ => cases h
  | int _ => cases h
  | str _ => cases h
  | tup _ _ => cases h
theorem pe_app_ {o e : Expr} {apos cpos : Pos} {fo : Sm} {fl : SmL} (ho : PE X o (rd X.K fo)) (ha : PA X [e] (rdL X.K fl)) (hbase : attributeBase o "append" X.env (eval o X.env) = eval o X.env)
    (hfew : ((backTo cpos (starEach [e] X.env)).all (fun x => !x.1) && (backToKw cpos (keywordEach [] X.env)).all (fun x => x.1.isSome) && decide ([e].length + ([] : List Keyword).length + (if ([] : List Keyword).isEmpty then 0 else 1) < 30)) = true)
    (hline : (apos.endLine == cpos.line) = true) (hs : starEach [e] X.env = (false, eval e X.env) :: starEach [] X.env) (hplain : (backTo cpos (starEach [] X.env)).any (·.1) = false) : PE X (.Call (.Attribute o "append" apos) [e] [] cpos) (rd X.K (xApp fo fl)) :=
  PE.imp (pe_bm PySem.F.plainAttrs_list PySem.F.slot_list_append PySem.F.type_list_append mt_append ho ha hbase hfew hline hs hplain) fun σ H Q h => by
    obtain ⟨μ, ρ, st, hr, lr, q⟩ := h
    refine ⟨μ, ρ, st, hr, lr, q.bind_imp fun μ1 H1 p st1 l1 hr1 q1 v hv => ?_⟩
    split at q1
    · rename_i z
      refine ⟨isL_ty hr1 hv z, μ1, ρ, st1, hr1, lr.mono l1, q1.bind_imp fun μ2 H2 ps st2 l2 hr2 q2 vs hvs => ?_⟩
      unfold gApp at q2
      split at q2
      · split at q2
        · rename_i e1
          split at q2
          · rename_i z2
            obtain ⟨a, xs, m, h1, r1⟩ := hr2.lst e1
            cases ref_is (hv.mono l2) m
            obtain ⟨w, rfl, hw⟩ := hvs.one
            have r2 := r1.append (VRs.cons hw .nil)
            exact ⟨a, xs, w, rfl, rfl, h1, by rw [r1.length]; exact z2, q2 μ2 _ (.write h1) (hr2.write e1 m h1 r2) _ .non⟩
          · exact q2.elim
        · exact q2.elim
      · exact q2.elim
    · exact q1.elim
theorem pe_pop_ {o : Expr} {apos cpos : Pos} {fo : Sm} (ho : PE X o (rd X.K fo)) (hbase : attributeBase o "pop" X.env (eval o X.env) = eval o X.env) (hline : (apos.endLine == cpos.line) = true) : PE X (.Call (.Attribute o "pop" apos) [] [] cpos) (rd X.K (xPop fo)) :=
  PE.imp (pe_bm0 PySem.F.plainAttrs_list PySem.F.slot_list_pop PySem.F.type_list_pop mt_pop ho hbase hline) fun σ H Q h => by
    obtain ⟨μ, ρ, st, hr, lr, q⟩ := h
    refine ⟨μ, ρ, st, hr, lr, q.bind_imp fun μ1 H1 p st1 l1 hr1 q1 v hv => ?_⟩
    unfold gPop at q1
    split at q1
    · split at q1
      · rename_i e1
        split at q1
        · rename_i y e2
          obtain ⟨a, xs, m, h1, r1⟩ := hr1.lst e1
          cases ref_is hv m
          obtain ⟨w, e3, hw⟩ := r1.get e2
          have r2 := r1.dropLast
          exact ⟨.inl ⟨rfl, xs, .inl (.inl h1)⟩, a, xs, w, rfl, rfl, h1, by rw [r1.length]; exact e3, q1 μ1 _ (.write h1) (hr1.write e1 m h1 r2) _ (hw.mono (.write h1))⟩
        · exact q1.elim
      · exact q1.elim
    · exact q1.elim
end
end Pe
namespace Pe
open PySem PySem.Spec PyProof.Rows L2
/-! ### terms: what a def's text says, names as places -/
inductive Blt where | len | abs | max | min | int | divmod | list | tuple | all | any | sum | repr
def Blt.fn : Blt → Fn
  | .len => gLen | .abs => gAbs | .max => gMax | .min => gMin | .int => gInt | .divmod => gDivmod | .list => gList | .tuple => gTuple | .all => gAll | .any => gAny | .sum => gSum | .repr => gRepr
mutual
inductive Te where
  | bad | loc (i : Nat) | c (p : PV) | bin (op : Operator) (a b : Te) | neg (a : Te) | not (a : Te) | cmp (op : CmpOp) (a b : Te) | chn (op op' : CmpOp) (a b c : Te)
  | and (a b : Te) | or (a b : Te) | ite (t : Tt) (a b : Te) | tup (l : Tl) | lst (l : Tl) | idx (a b : Te) | cut (a : Te) (lo hi : To) | revL (a : Te)
  | call (j np nk : Nat) (l k : Tl) | blt (b : Blt) (l : Tl) | gcd (l : Tl) | isi (T : String) (a : Te) | comp (vs : List Nat) (it : Ti) (g : Tgt) (t : Tt) (e : Te) | app (o : Te) (l : Tl) | pop (o : Te)
inductive Tt where
  | tb (a : Te) | tv (a : Te) | not (t : Tt) | and (a b : Tt) | or (a b : Tt) | yes
inductive Tl where
  | bad | nil | cons (a : Te) (l : Tl) | star (a : Te) (l : Tl)
inductive To where
  | none | some (a : Te)
inductive Ti where
  | bad | seq (a : Te) | rng1 (l : Tl) | rng2 (l : Tl) | rng3 (l : Tl) | revr (a : Te) | rev (a : Te) | enum (a : Te) | zip (l : Tl)
inductive Tgt where
  | bad | nm (i : Nat) | tup (n : Nat) (l : Tgl) | sub (o i : Te)
inductive Tgl where
  | bad | nil | cons (a : Tgt) (l : Tgl)
end
inductive Ts where
  | bad | nil | seq (a b : Ts) | ret (a : Te) | retN | ex (a : Te) | bk | ct | ite (t : Tt) (a b : Ts) | as (g : Tgt) (a : Te) | par (is : List Nat) (l : Tl) | wh (t : Tt) (b : Ts) | for (it : Ti) (g : Tgt) (b : Ts)
def xBad : Sm := fun _ _ => .bad
def xBadL : SmL := fun _ _ => .bad
/-- *e, .. -/
def itemsOf : PV → Store → Option (List PV)
  | .tup ps, _ => some ps
  | .ref n, st => listAt st n
  | _, _ => none
def xStar (f : Sm) (fr : SmL) : SmL := fun ρ st => (f ρ st).bind fun p st1 => match itemsOf p st1 with
  | some xs => (fr ρ st1).bind fun ys st2 => .ok (xs ++ ys) st2
  | none => .bad
def xBadI : SmI := fun _ _ => .bad
def tgBad : Tg := fun _ _ _ => .bad
def tgsBad : Tgs := fun _ _ _ => .bad
mutual
def Te.m (cs : List Ent) : Te → Sm
  | .bad => xBad
  | .loc i => xLoc i
  | .c p => xC p
  | .bin op a b => xBin (gBin op) (a.m cs) (b.m cs)
  | .neg a => xUn gNeg (a.m cs)
  | .not a => xNot (a.m cs)
  | .cmp op a b => xBin (gOp op) (a.m cs) (b.m cs)
  | .chn op op' a b c => xChain (gOp op) (gOp op') (a.m cs) (b.m cs) (c.m cs)
  | .and a b => xAnd (a.m cs) (b.m cs)
  | .or a b => xOr (a.m cs) (b.m cs)
  | .ite t a b => xIte (t.m cs) (a.m cs) (b.m cs)
  | .tup l => xTup (l.m cs)
  | .lst l => xLst (l.m cs)
  | .idx a b => xBin gIdx (a.m cs) (b.m cs)
  | .cut a lo hi => xCut (a.m cs) (lo.m cs) (hi.m cs)
  | .revL a => xRevL (a.m cs)
  | .call j np nk l k => match cs[j]? with
    | some E => xCallE E np nk (l.m cs) (k.m cs)
    | none => xBad
  | .blt b l => xCall b.fn (l.m cs)
  | .gcd l => xCall gGcd (l.m cs)
  | .isi T a => xUn (gIsi T) (a.m cs)
  | .comp vs it g t e => xComp vs (it.m cs) (g.m cs) (t.m cs) (e.m cs)
  | .app o l => xApp (o.m cs) (l.m cs)
  | .pop o => xPop (o.m cs)
def Tt.m (cs : List Ent) : Tt → SmT
  | .tb a => xTb (a.m cs)
  | .tv a => xTv (a.m cs)
  | .not t => xNotT (t.m cs)
  | .and a b => xAndT (a.m cs) (b.m cs)
  | .or a b => xOrT (a.m cs) (b.m cs)
  | .yes => xYes
def Tl.m (cs : List Ent) : Tl → SmL
  | .bad => xBadL
  | .star a l => xStar (a.m cs) (l.m cs)
  | .nil => xNil
  | .cons a l => xCons (a.m cs) (l.m cs)
def To.m (cs : List Ent) : To → SmO
  | .none => xNoPart
  | .some a => xPart (a.m cs)
def Ti.m (cs : List Ent) : Ti → SmI
  | .bad => xBadI
  | .seq a => xSeqIt (a.m cs)
  | .rng1 l => xItL rng1It (l.m cs)
  | .rng2 l => xItL rng2It (l.m cs)
  | .rng3 l => xItL rng3It (l.m cs)
  | .revr a => xIt1 revRng (a.m cs)
  | .rev a => xIt1 revIt (a.m cs)
  | .enum a => xIt1 enumI (a.m cs)
  | .zip l => xItL zipI (l.m cs)
def Tgt.m (cs : List Ent) : Tgt → Tg
  | .bad => tgBad
  | .nm i => tgN i
  | .tup n l => tgT n (l.m cs)
  | .sub o i => tgS (o.m cs) (i.m cs)
def Tgl.m (cs : List Ent) : Tgl → Tgs
  | .bad => tgsBad
  | .nil => tgNil
  | .cons a l => tgCons (a.m cs) (l.m cs)
end
def Ts.m (cs : List Ent) : Ts → SmS
  | .bad => sBad
  | .nil => sNil
  | .seq a b => sSeq (a.m cs) (b.m cs)
  | .ret a => sRet (a.m cs)
  | .retN => sRetN
  | .ex a => sEx (a.m cs)
  | .bk => sBk
  | .ct => sCt
  | .ite t a b => sIf (t.m cs) (a.m cs) (b.m cs)
  | .as g a => sAs (g.m cs) (a.m cs)
  | .par is l => sPar is (l.m cs)
  | .wh t b => sWh (t.m cs) (b.m cs)
  | .for it g b => sFor (it.m cs) (g.m cs) (b.m cs)
/-! ### from the text to terms -/
structure Ga where
  k : Nat
  N : List Str
  calls : List (Str × Nat × List Str × Ent)
  consts : List (Str × PV)
  frees : List Str
  gcd : Bool
def Ga.ents (Γ : Ga) : List Ent := Γ.calls.map fun q => q.2.2.2
structure Sc where
  sc : Scope
  fn : Str → Bool
structure Gd (Γ : Ga) (c : Sc) (X : Cx) : Prop where
  N : X.N = Γ.N
  nd : Γ.N.Nodup
  dbg : ∀ x ∈ Γ.N, (x == ("__debug__" : Str)) = false ∧ (x == ("__classdict__" : Str)) = false
  sc : X.env.scope = c.sc
  calm : X.calm = true
  xe : X.xe = fun _ _ => False
  room : Room Γ.k X.A
  gd : Gz X.prog X.base Γ.k X.A
  top : Gt X.A
  fn : ∀ x, c.fn x = true → X.fn x = true
  calls : ∀ q ∈ Γ.calls, CallOk X.prog X.w X.K X.mg X.base Γ.k q.1 q.2.1 q.2.2.1 q.2.2.2 ∧ (q.1 == ("__debug__" : Str)) = false
  consts : ∀ q ∈ Γ.consts, (q.1 == ("__debug__" : Str)) = false ∧ ∃ v u, X.mg q.1 = some u ∧ RelV v u ∧ ∀ μ H, VR X.K μ H v q.2
  frees : ∀ x ∈ Γ.frees, X.mg x = none
  gcd : Γ.gcd = true → X.mg "gcd" = some (.builtin "math.gcd")
def ixOf : List Str → Str → Option Nat
  | [], _ => none
  | y :: r, x => if y = x then some 0 else match ixOf r x with
    | some i => some (i + 1)
    | none => none
theorem ixOf_ok : ∀ {N : List Str} {x : Str} {i : Nat}, ixOf N x = some i → N[i]? = some x
  | [], _, _, h => by cases h
  | y :: r, x, i, h => by
    unfold ixOf at h
    split at h
    · rename_i e; subst e; cases h; rfl
    · split at h
      · rename_i j e; cases h; exact ixOf_ok (N := r) e
      · cases h
def isStar : Expr → Bool
  | .Starred _ _ => true
  | _ => false
theorem star_ok {e : Expr} {es : List Expr} {env : PySem.Env} (h : isStar e = false) : starEach (e :: es) env = (false, eval e env) :: starEach es env := by
  cases e <;> first | rfl | cases h
theorem stars_ok {pos : Pos} {env : PySem.Env} : ∀ {es : List Expr}, es.any isStar = false → (backTo pos (starEach es env)).any (·.1) = false
  | [], _ => rfl
  | e :: es, h => by
    rw [List.any_cons, Bool.or_eq_false_iff] at h
    rw [star_ok h.1]
    show (false || (backTo pos (starEach es env)).any (·.1)) = false
    rw [stars_ok h.2]
    rfl
def kwNames : List Keyword → Option (List Str)
  | [] => some []
  | ⟨some x, _, _⟩ :: r => match kwNames r with
    | some l => some (x :: l)
    | none => none
  | _ :: _ => none
theorem kwNames_ok {pos : Pos} {env : PySem.Env} : ∀ {kws : List Keyword} {ks : List Str}, kwNames kws = some ks →
    (backToKw pos (keywordEach kws env)).all (·.1.isSome) = true ∧ (backToKw pos (keywordEach kws env)).filterMap (·.1) = ks ∧ (backToKw pos (keywordEach kws env)).any (·.1.isNone) = false ∧ kws.length = ks.length
  | [], ks, h => by cases h; exact ⟨rfl, rfl, rfl, rfl⟩
  | ⟨some x, e, p⟩ :: r, ks, h => by
    unfold kwNames at h
    split at h
    · rename_i l e1
      cases h
      obtain ⟨h1, h2, h3, h4⟩ := kwNames_ok (pos := pos) (env := env) e1
      refine ⟨?_, ?_, ?_, congrArg Nat.succ h4⟩
      · show (true && (backToKw pos (keywordEach r env)).all (·.1.isSome)) = true
        rw [h1]; rfl
      · show x :: (backToKw pos (keywordEach r env)).filterMap (·.1) = _
        rw [h2]
      · show (false || (backToKw pos (keywordEach r env)).any (·.1.isNone)) = false
        rw [h3]; rfl
    · cases h
  | ⟨none, e, p⟩ :: r, ks, h => by cases h
def bltOf (x : Str) : Option Blt :=
  if x = "len" then some .len else if x = "abs" then some .abs else if x = "max" then some .max else if x = "min" then some .min else if x = "int" then some .int else if x = "divmod" then some .divmod
  else if x = "list" then some .list else if x = "tuple" then some .tuple else if x = "all" then some .all else if x = "any" then some .any else if x = "sum" then some .sum else if x = "repr" then some .repr else none
def tyOf (x : Str) : Option String := if x = "int" then some "int" else if x = "bool" then some "bool" else if x = "str" then some "str" else if x = "tuple" then some "tuple" else if x = "list" then some "list" else none
def gl (c : Sc) (x : Str) : Bool := decide (c.sc.names.lookup x = some .globalImplicit)
def lf (Γ : Ga) (c : Sc) (x : Str) : Bool := gl c x && Γ.frees.contains x
def callIx : List (Str × Nat × List Str × Ent) → Str → Nat → List Str → Option Nat
  | [], _, _, _ => none
  | q :: r, x, np, ks => if q.1 = x ∧ q.2.1 = np ∧ q.2.2.1 = ks then some 0 else match callIx r x np ks with
    | some j => some (j + 1)
    | none => none
theorem callIx_ok : ∀ {l : List (Str × Nat × List Str × Ent)} {x : Str} {np : Nat} {ks : List Str} {j : Nat}, callIx l x np ks = some j → ∃ E, l[j]? = some (x, np, ks, E)
  | [], _, _, _, _, h => by cases h
  | q :: r, x, np, ks, j, h => by
    unfold callIx at h
    split at h
    · rename_i e
      obtain ⟨rfl, rfl, rfl⟩ := e
      cases h
      exact ⟨_, rfl⟩
    · split at h
      · rename_i j' e
        cases h
        exact callIx_ok (l := r) e
      · cases h
structure Tr where
  e : Sc → Expr → Te
  t : Sc → Expr → Tt
  g : Sc → Expr → Tgt
  v : List Nat → Sc → Expr → Tgt
def dL (f : Expr → Te) : List Expr → Tl
  | [] => .nil
  | e :: es => match e with
    | .Starred e' _ => .star (f e') (dL f es)
    | e => .cons (f e) (dL f es)
def dK (f : Expr → Te) : List Keyword → Tl
  | [] => .nil
  | ⟨_, e, _⟩ :: es => .cons (f e) (dK f es)
def dG (f : Expr → Tgt) : List Expr → Tgl
  | [] => .nil
  | e :: es => if isStar e = true then .bad else .cons (f e) (dG f es)
def dAnd (f : Expr → Te) : List Expr → Te
  | [] => .bad
  | [a] => f a
  | a :: b :: r => .and (f a) (dAnd f (b :: r))
def dOr (f : Expr → Te) : List Expr → Te
  | [] => .bad
  | [a] => f a
  | a :: b :: r => .or (f a) (dOr f (b :: r))
def dAndT (f : Expr → Tt) : List Expr → Tt
  | [] => .tb .bad
  | [a] => f a
  | a :: b :: r => .and (f a) (dAndT f (b :: r))
def dOrT (f : Expr → Tt) : List Expr → Tt
  | [] => .tb .bad
  | [a] => f a
  | a :: b :: r => .or (f a) (dOrT f (b :: r))
def dNm (Γ : Ga) (c : Sc) (x : Str) : Te := match c.sc.names.lookup x with
  | some .globalImplicit => match Γ.consts.lookup x with
    | some p => .c p
    | none => .bad
  | some .globalExplicit => .bad
  | none => .bad
  | _ => match ixOf Γ.N x with
    | some i => .loc i
    | none => .bad
def dO (f : Expr → Te) : Option Expr → To
  | none => .none
  | some e => .some (f e)
def dSub (f : Expr → Te) (a : Expr) : Expr → Te
  | .Slice none none (some (.UnaryOp .USub (.Constant (.int 1) _ _) _)) _ => .revL (f a)
  | .Slice lo hi none _ => .cut (f a) (dO f lo) (dO f hi)
  | .Slice _ _ (some _) _ => .bad
  | b => .idx (f a) (f b)
def isBare : Expr → Bool
  | .Name _ _ => true
  | .Attribute _ _ _ => true
  | .Subscript _ _ _ => true
  | _ => false
def dUser (Γ : Ga) (c : Sc) (f : Expr → Te) (x : Str) (es : List Expr) (kws : List Keyword) : Te :=
  if (decide (x = "gcd") && Γ.gcd && kws.isEmpty && !es.isEmpty && !es.any isStar) = true then .gcd (dL f es)
  else match kwNames kws with
    | some ks => match callIx Γ.calls x es.length ks with
      | some j => if es.any isStar = true then .bad else .call j es.length ks.length (dL f es) (dK f kws)
      | none => .bad
    | none => .bad
def dCall (Γ : Ga) (c : Sc) (f : Expr → Te) (fe : Expr) (es : List Expr) (kws : List Keyword) (pos : Pos) : Te := match fe with
  | .Name x _ => if gl c x = true then
      if x = "isinstance" then match es, kws with
        | [e, .Name T _], [] => match tyOf T with
          | some s => if (Γ.frees.contains "isinstance" && lf Γ c T && !isStar e) = true then .isi s (f e) else .bad
          | none => .bad
        | _, _ => .bad
      else match bltOf x, es, kws with
        | some b, e :: r, [] => if (Γ.frees.contains x && !isStar e && !(e :: r).any isStar) = true then .blt b (dL f (e :: r)) else .bad
        | _, _, _ => dUser Γ c f x es kws
    else .bad
  | .Attribute o a apos => if (isBare o && (apos.endLine == pos.line)) = true then
      if a = "append" then match es, kws with
        | [e], [] => if isStar e = true then .bad else .app (f o) (dL f [e])
        | _, _ => .bad
      else if a = "pop" then match es, kws with
        | [], [] => .pop (f o)
        | _, _ => .bad
      else .bad
    else .bad
  | _ => .bad
def isTup : Expr → Bool
  | .Tuple _ _ _ => true
  | _ => false
def isSet : Expr → Bool
  | .Set _ _ _ => true
  | _ => false
def dIt (Γ : Ga) (c : Sc) (f : Expr → Te) (tg : Expr) : Expr → Ti
  | .Call (.Name x p) es [] pos => if x = "range" then (if lf Γ c x = true then (if es.any isStar = true then .bad else match es with
        | [a] => .rng1 (dL f [a])
        | [a, b] => .rng2 (dL f [a, b])
        | [a, b, d] => .rng3 (dL f [a, b, d])
        | _ => .bad) else .bad)
      else if x = "reversed" then (if (lf Γ c x && !es.any isStar) = true then match es with
        | [.Call (.Name y p2) [a] [] pos2] => if y = "range" then (if (lf Γ c y && !isStar a) = true then .revr (f a) else .bad) else .rev (f (.Call (.Name y p2) [a] [] pos2))
        | [a] => .rev (f a)
        | _ => .bad else .bad)
      else if x = "enumerate" then (if (lf Γ c x && !es.any isStar && isTup tg) = true then match es with
        | [a] => .enum (f a)
        | _ => .bad else .bad)
      else if x = "zip" then (if (lf Γ c x && !es.any isStar && isTup tg) = true then match es with
        | [a, b] => .zip (dL f [a, b])
        | _ => .bad else .bad)
      else .seq (f (.Call (.Name x p) es [] pos))
  | e => if isSet e = true then .bad else .seq (f e)
def ownOf (N : List Str) (ns : List (Str × NameKind)) : List (Str × Nat) := ns.filterMap fun q => match q.2 with
  | .local => (ixOf N q.1).map (q.1, ·)
  | .cell => (ixOf N q.1).map (q.1, ·)
  | _ => none
def blkSc (scope : Scope) (c : Sc) : Sc := ⟨relS scope c.sc, fun x => scope.names.lookup x == some .cell⟩
def dIf (f : Expr → Tt) : List Expr → Tt
  | [] => .yes
  | [a] => f a
  | _ => .tb .bad
def dComp (Γ : Ga) (c : Sc) (T : Tr) (elt : Expr) (scope : Scope) : List Comprehension → Te
  | [⟨tg, iter, ifs, 0⟩] => if blkC Γ.N c.sc scope (ownOf Γ.N scope.names) = true then
      .comp ((ownOf Γ.N scope.names).map (·.2)) (dIt Γ c (T.e c) tg iter) (T.v ((ownOf Γ.N scope.names).map (·.2)) (blkSc scope c) tg) (dIf (T.t (blkSc scope c)) ifs) (T.e (blkSc scope c) elt)
    else .bad
  | _ => .bad
def okN (Γ : Ga) (c : Sc) (x : Str) : Option Nat := match c.sc.names.lookup x with
  | some .local => ixOf Γ.N x
  | some .cell => if c.fn x = true then ixOf Γ.N x else none
  | _ => none
def trStep (Γ : Ga) (T : Tr) : Tr where
  e c ex := match ex with
    | .Name x _ => dNm Γ c x
    | .Constant (.int i) _ _ => .c (.int i)
    | .Constant (.bool b) _ _ => .c (.bl b)
    | .Constant (.str x) _ _ => .c (.str x)
    | .Constant .none _ _ => .c .non
    | .BinOp a op b _ => .bin op (T.e c a) (T.e c b)
    | .UnaryOp .USub a _ => .neg (T.e c a)
    | .UnaryOp .Not a _ => .not (T.e c a)
    | .Compare a [op] [b] _ => if behindInMarks op b = false then .cmp op (T.e c a) (T.e c b) else .bad
    | .Compare a [op, op'] [b, d] _ => if lastMarks [op, op'] [b, d] = false then .chn op op' (T.e c a) (T.e c b) (T.e c d) else .bad
    | .BoolOp .And es _ => dAnd (T.e c) es
    | .BoolOp .Or es _ => dOr (T.e c) es
    | .IfExp t a b _ => .ite (T.t c t) (T.e c a) (T.e c b)
    | .Tuple es _ _ => .tup (dL (T.e c) es)
    | .List es _ => .lst (dL (T.e c) es)
    | .Subscript a b _ => dSub (T.e c) a b
    | .Call fe es kws pos => dCall Γ c (T.e c) fe es kws pos
    | .ListComp elt gens scope _ => dComp Γ c T elt scope gens
    | _ => .bad
  t c ex := match ex with
    | .Compare a [op] [b] _ => if behindInMarks op b = false then .tb (.cmp op (T.e c a) (T.e c b)) else .tb .bad
    | .Compare a [op, op'] [b, d] _ => if lastMarks [op, op'] [b, d] = false then .tb (.chn op op' (T.e c a) (T.e c b) (T.e c d)) else .tb .bad
    | .BoolOp .And es _ => dAndT (T.t c) es
    | .BoolOp .Or es _ => dOrT (T.t c) es
    | .UnaryOp .Not a _ => .not (T.t c a)
    | .Name x p => .tv (T.e c (.Name x p))
    | .Subscript a b p => .tv (T.e c (.Subscript a b p))
    | .Call a b d p => .tv (T.e c (.Call a b d p))
    | .Constant a b p => .tv (T.e c (.Constant a b p))
    | .BinOp a b d p => .tv (T.e c (.BinOp a b d p))
    | _ => .tb .bad
  g c ex := match ex with
    | .Name x _ => match okN Γ c x with
      | some i => .nm i
      | none => .bad
    | .Tuple es _ _ => if es.any isStar = true then .bad else .tup es.length (dG (T.g c) es)
    | .Subscript o (.Name x p) _ => .sub (T.e c o) (T.e c (.Name x p))
    | .Subscript o (.Constant x k p) _ => .sub (T.e c o) (T.e c (.Constant x k p))
    | .Subscript o (.BinOp x k y p) _ => .sub (T.e c o) (T.e c (.BinOp x k y p))
    | .Subscript o (.UnaryOp x k p) _ => .sub (T.e c o) (T.e c (.UnaryOp x k p))
    | .Subscript o (.Subscript x k p) _ => .sub (T.e c o) (T.e c (.Subscript x k p))
    | _ => .bad
  v vs c ex := match ex with
    | .Name x _ => match okN Γ c x with
      | some i => if i ∈ vs then .nm i else .bad
      | none => .bad
    | .Tuple es _ _ => if es.any isStar = true then .bad else .tup es.length (dG (T.v vs c) es)
    | _ => .bad
def tr0 : Tr := ⟨fun _ _ => .bad, fun _ _ => .tb .bad, fun _ _ => .bad, fun _ _ _ => .bad⟩
def trN (Γ : Ga) : Nat → Tr
  | 0 => tr0
  | n + 1 => trStep Γ (trN Γ n)
/-! ### statements -/
def allN (Γ : Ga) (c : Sc) (line : Nat) : List Expr → Option (List (Str × Nat))
  | [] => some []
  | .Name x p :: r => if c.sc.names.lookup x = some .local ∧ p.line = line then match ixOf Γ.N x, allN Γ c line r with
      | some i, some l => some ((x, i) :: l)
      | _, _ => none
    else none
  | _ :: _ => none
def isComp : Expr → Bool
  | .ListComp _ _ _ _ => true
  | .SetComp _ _ _ _ => true
  | .DictComp _ _ _ _ _ => true
  | _ => false
def folded (vs : List Expr) : Bool := vs.all (foldedForSure 8) || vs.all (constantsAlone 8)
/-- one of the targets is no local name -/
def someOther (c : Sc) (ts : List Expr) : Bool := ts.any fun
  | .Name x _ => !decide (c.sc.names.lookup x = some .local)
  | _ => true
def isLst : Expr → Bool
  | .List _ _ => true
  | _ => false
def plainStore (c : Sc) (ts vs : List Expr) : Bool := someOther c ts || vs.all (foldedForSure 8) || (decide (ts.length ≠ 2) && decide (ts.length ≠ 3))
def dPar (Γ : Ga) (c : Sc) (T : Tr) : List Expr → List Expr → Ts
  | [.Name x px, .Name y py], [a, b] => match okN Γ c x, okN Γ c y with
    | some i, some j => if (decide (c.sc.names.lookup x = some .local) && decide (c.sc.names.lookup y = some .local) && decide (x ≠ y) && decide (px.line = py.line) && !folded [a, b] && !isStar a && !isStar b) = true then .par [i, j] (dL (T.e c) [a, b]) else .bad
    | _, _ => .bad
  | [.Name x px, .Name y py, .Name z pz], [a, b, d] => match okN Γ c x, okN Γ c y, okN Γ c z with
    | some i, some j, some l => if (decide (c.sc.names.lookup x = some .local) && decide (c.sc.names.lookup y = some .local) && decide (c.sc.names.lookup z = some .local) && decide (x ≠ y) && decide (x ≠ z) && decide (y ≠ z) && decide (px.line = py.line) && decide (px.line = pz.line) && !folded [a, b, d] && !isStar a && !isStar b && !isStar d) = true then
        .par [i, j, l] (dL (T.e c) [a, b, d]) else .bad
    | _, _, _ => .bad
  | _, _ => .bad
def dAs (Γ : Ga) (c : Sc) (T : Tr) (tg e : Expr) : Ts :=
  match tg, e with
  | .Tuple ts k p, .Tuple vs k2 p2 => if plainStore c ts vs = true then .as (T.g c (.Tuple ts k p)) (T.e c (.Tuple vs k2 p2)) else dPar Γ c T ts vs
  | .Name x px, .ListComp elt gens scope pos => match gens with
    | [⟨tg, iter, ifs, 0⟩] => match okN Γ c x with
      | some i => if (decide (c.sc.names.lookup x = some .local) && decide (px.line = pos.line) && !(scope.names.any fun q => decide (q.1 = x) && (decide (q.2 = .local) || decide (q.2 = .cell)))) = true then .as (.nm i) (dComp Γ c T elt scope [⟨tg, iter, ifs, 0⟩]) else if c.sc.names.lookup x = some .cell then .as (.nm i) (dComp Γ c T elt scope [⟨tg, iter, ifs, 0⟩]) else .bad
      | none => .bad
    | _ => .bad
  | tg, e => if (isComp e || isStar tg || isLst tg) = true then .bad else .as (T.g c tg) (T.e c e)
def dS (Γ : Ga) (c : Sc) (T : Tr) (B : List Stmt → Ts) : Stmt → Ts
  | .Pass _ => .nil
  | .Break _ => .bk
  | .Continue _ => .ct
  | .Return (some e) _ => .ret (T.e c e)
  | .Return none _ => .retN
  | .Expr e _ => if isComp e = true then .bad else .ex (T.e c e)
  | .If t a b _ => .ite (T.t c t) (B a) (B b)
  | .While t b [] _ => .wh (T.t c t) (B b)
  | .For tg iter b [] _ => .for (dIt Γ c (T.e c) tg iter) (T.g c tg) (B b)
  | .Assign [tg] e _ => if c.sc.kind = .function then dAs Γ c T tg e else .bad
  | _ => .bad
def dB (Γ : Ga) (c : Sc) (T : Tr) : Nat → List Stmt → Ts
  | 0, _ => .bad
  | _ + 1, [] => .nil
  | n + 1, s :: r => .seq (dS Γ c T (dB Γ c T n) s) (dB Γ c T n r)
end Pe
namespace Pe
open PySem PySem.Spec PyProof.Rows L2
section
variable {X : Cx}
theorem pe_bad_ {e : Expr} : PE X e (rd X.K xBad) := ⟨fun pins s σ H Q I h => by obtain ⟨_, _, _, _, _, q⟩ := h; exact q.elim⟩
theorem pt_bad_ {e : Expr} : PT X e (rdT X.K (xTb xBad)) := ⟨fun pins s σ H Q I h => by obtain ⟨_, _, _, _, _, q⟩ := h; exact q.elim⟩
theorem pts_bad_ {e : List Expr} : PTs X e (rdT X.K (xTb xBad)) := ⟨fun pins s σ H Q I h => by obtain ⟨_, _, _, _, _, q⟩ := h; exact q.elim⟩
theorem pa_bad_ {e : List Expr} : PA X e (rdL X.K xBadL) := ⟨fun pos pins s σ H Q I h => by obtain ⟨_, _, _, _, _, q⟩ := h; exact q.elim⟩
theorem pi_bad_ {tg e : Expr} : PI X tg e (rdI X.K xBadI) := PI.imp (pi_seq_ (f := xBad) pe_bad_) fun σ H Q h => by obtain ⟨_, _, _, _, _, q⟩ := h; exact q.elim
theorem pg_bad_ {e : Expr} : PG X e (rdG X.K tgBad) := ⟨fun pins s σ H v u Q I r h => by obtain ⟨_, _, _, _, _, _, _, q⟩ := h; exact q.elim⟩
theorem pgw_bad_ {vs : List Nat} {e : Expr} : PG X e (rdW X.K vs tgBad) := ⟨fun pins s σ H v u Q I r h => by obtain ⟨_, _, _, _, _, _, _, q⟩ := h; exact q.elim⟩
theorem pgs_bad_ {es : List Expr} : PGs X es (rdGs X.K tgsBad) := ⟨fun pins s σ H vs us Q I r h => by obtain ⟨_, _, _, _, _, _, _, q⟩ := h; exact q.elim⟩
theorem pgws_bad_ {ws : List Nat} {es : List Expr} : PGs X es (rdWs X.K ws tgsBad) := ⟨fun pins s σ H vs us Q I r h => by obtain ⟨_, _, _, _, _, _, _, q⟩ := h; exact q.elim⟩
theorem pts_one_ {c : Expr} {t : SmT} (h : PT X c (rdT X.K t)) : PTs X [c] (rdT X.K t) := pts_one h
end
theorem assign_star {e : Expr} {es : List Expr} {env : PySem.Env} (h : isStar e = false) : assignEach (e :: es) env = (false, assign e env) :: assignEach es env := by
  cases e <;> first | rfl | cases h
theorem assign_len {env : PySem.Env} : ∀ {es : List Expr}, es.any isStar = false → (assignEach es env).length = es.length ∧ (assignEach es env).findIdx? (·.1) = none
  | [], _ => ⟨rfl, rfl⟩
  | e :: es, h => by
    rw [List.any_cons, Bool.or_eq_false_iff] at h
    rw [assign_star h.1]
    obtain ⟨h1, h2⟩ := assign_len (env := env) h.2
    refine ⟨congrArg Nat.succ h1, ?_⟩
    rw [List.findIdx?_cons, h2]
    rfl
theorem noSet {e : Expr} {env : PySem.Env} (h : isSet e = false) : ∀ x, foldedSetIterable e env x = pure x := by
  cases e <;> first | (intro x; rfl) | cases h
theorem Gd.blk {Γ : Ga} {c : Sc} {X : Cx} (G : Gd Γ c X) (scope : Scope) (s : Shared) (H : Hp) (C : Addr) (cl : List (Str × Addr)) (fp : List Addr) : Gd Γ (blkSc scope c) (X.blk s H scope (compEnvC scope cl C X.env) fp) :=
  ⟨G.N, G.nd, G.dbg, by show relS scope X.env.scope = relS scope c.sc; rw [G.sc], G.calm, rfl, G.room, G.gd, G.top, fun x h => h, G.calls, G.consts, G.frees, G.gcd⟩
theorem Gd.gl {Γ : Ga} {c : Sc} {X : Cx} (G : Gd Γ c X) {x : Str} (h : Pe.gl c x = true) : Gl X x := by
  show X.env.scope.names.lookup x = _
  rw [G.sc]
  exact of_decide_eq_true h
theorem Gd.lf {Γ : Ga} {c : Sc} {X : Cx} (G : Gd Γ c X) {x : Str} (h : Pe.lf Γ c x = true) : Gl X x ∧ X.mg x = none := by
  unfold Pe.lf at h
  rw [Bool.and_eq_true] at h
  exact ⟨G.gl h.1, G.frees x (List.contains_iff_mem.mp h.2)⟩
theorem Gd.un {Γ : Ga} {c : Sc} {X : Cx} (G : Gd Γ c X) : X.A.units + 80 < cLine := by have := G.room.un; omega
theorem Gd.un' {Γ : Ga} {c : Sc} {X : Cx} (G : Gd Γ c X) : X.A.units + 64 < cLine := by have := G.room.un; omega
section
variable {Γ : Ga} {c : Sc} {X : Cx} {cs : List Ent} {f : Expr → Te}
theorem pa_star_ {e : Expr} {p : Pos} {es : List Expr} {f : Sm} {fr : SmL} (he : PE X e (rd X.K f)) (hr : PA X es (rdL X.K fr)) : PA X (.Starred e p :: es) (rdL X.K (xStar f fr)) :=
  PA.imp (StX.pa_star he hr rfl) fun σ H Q h => by
    obtain ⟨μ, ρ, st, hr, lr, q⟩ := h
    refine ⟨μ, ρ, st, hr, lr, q.bind_imp fun μ1 H1 p st1 l1 hr1 q1 x hx => ?_⟩
    have fin : ∀ (xs : List V) (ps : List PV), VRs X.K μ1 H1 xs ps → Post X.K μ1 H1 ((fr ρ st1).bind fun ys st2 => .ok (ps ++ ys) st2) (fun μ' H' ps _ => ∀ vs, VRs X.K μ' H' vs ps → Q vs H') → rdL X.K fr σ H1 fun ys H2 => Q (xs ++ ys) H2 := fun xs ps r k =>
      ⟨μ1, ρ, st1, hr1, lr.mono l1, k.bind_imp fun μ2 H2 ys st2 l2 hr2 q2 vs hvs => q2 μ2 H2 .refl hr2 _ ((r.mono l2).append hvs)⟩
    cases hx with
    | tup h r => exact ⟨_, _, rfl, .inl h, fin _ _ r q1⟩
    | @ref n a m =>
      have q1' : Post X.K μ1 H1 (match listAt st1 n with
        | some xs => (fr ρ st1).bind fun ys st2 => .ok (xs ++ ys) st2
        | none => .bad) (fun μ' H' ps _ => ∀ vs, VRs X.K μ' H' vs ps → Q vs H') := q1
      split at q1'
      · rename_i ps e1
        obtain ⟨b, xs, m2, h1, r1⟩ := hr1.listAt e1
        rw [m] at m2
        cases m2
        exact ⟨a, xs, rfl, .inr h1, fin _ _ r1 q1'⟩
      · exact q1'.elim
    | non => exact q1.elim
    | bl _ => exact q1.elim
    | int _ => exact q1.elim
    | str _ => exact q1.elim
theorem dL_ok (hf : ∀ e, PE X e (rd X.K ((f e).m cs))) : ∀ es, PA X es (rdL X.K ((dL f es).m cs))
  | [] => pa_nil_
  | e :: es => by
    unfold dL
    split
    · exact pa_star_ (hf _) (dL_ok hf es)
    · rename_i h
      exact pa_cons_ (hf _) (dL_ok hf es) (star_ok (by
        cases e <;> first | rfl | exact (h _ _ rfl).elim))
theorem dK_ok (hf : ∀ e, PE X e (rd X.K ((f e).m cs))) : ∀ es, PK X es (rdL X.K ((dK f es).m cs))
  | [] => pk_nil_
  | ⟨_, e, _⟩ :: es => pk_cons_ (hf e) (dK_ok hf es)
theorem dG_ok {g : Expr → Tgt} (hf : ∀ e, PG X e (rdG X.K ((g e).m cs))) : ∀ es, PGs X es (rdGs X.K ((dG g es).m cs))
  | [] => pgs_nil_
  | e :: es => by
    unfold dG
    split
    · exact pgs_bad_
    · rename_i h
      exact pgs_cons_ (hf e) (dG_ok hf es) (by rw [assign_star (by simpa using h)]; rfl)
theorem dGw_ok {vs : List Nat} {g : Expr → Tgt} (hf : ∀ e, PG X e (rdW X.K vs ((g e).m cs))) : ∀ es, PGs X es (rdWs X.K vs ((dG g es).m cs))
  | [] => pgws_nil
  | e :: es => by
    unfold dG
    split
    · exact pgws_bad_
    · rename_i h
      exact pgws_cons (hf e) (dGw_ok hf es) (by rw [assign_star (by simpa using h)]; rfl)
theorem dAnd_ok (hf : ∀ e, PE X e (rd X.K ((f e).m cs))) (pos : Pos) : ∀ es, PE X (.BoolOp .And es pos) (rd X.K ((dAnd f es).m cs))
  | [] => pe_bad_
  | [a] => pe_one (hf a)
  | a :: b :: r => pe_and_ (hf a) (dAnd_ok hf pos (b :: r))
theorem dOr_ok (hf : ∀ e, PE X e (rd X.K ((f e).m cs))) (pos : Pos) : ∀ es, PE X (.BoolOp .Or es pos) (rd X.K ((dOr f es).m cs))
  | [] => pe_bad_
  | [a] => pe_one (hf a)
  | a :: b :: r => pe_or_ (hf a) (dOr_ok hf pos (b :: r))
theorem pw_bad_ {e : Expr} : PW X e (rdT X.K (xTb xBad)) := ⟨fun wh pins s σ H Q I h => by obtain ⟨_, _, _, _, _, q⟩ := h; exact q.elim⟩
theorem dAndT_ok {t : Expr → Tt} (hf : ∀ e, PT X e (rdT X.K ((t e).m cs))) (pos : Pos) : ∀ es, PW X (.BoolOp .And es pos) (rdT X.K ((dAndT t es).m cs))
  | [] => pw_bad_
  | [a] => pw_and1 (hf a)
  | a :: b :: r => pw_and_ (hf a) (dAndT_ok hf pos (b :: r))
theorem dOrT_ok {t : Expr → Tt} (hf : ∀ e, PT X e (rdT X.K ((t e).m cs))) (pos : Pos) : ∀ es, PW X (.BoolOp .Or es pos) (rdT X.K ((dOrT t es).m cs))
  | [] => pw_bad_
  | [a] => pw_or1 (hf a)
  | a :: b :: r => pw_or_ (hf a) (dOrT_ok hf pos (b :: r))
theorem mem_look {α : Type} : ∀ {l : List (Str × α)} {x : Str} {p : α}, l.lookup x = some p → (x, p) ∈ l
  | [], _, _, h => by cases h
  | (y, q) :: r, x, p, h => by
    rw [List.lookup_cons] at h
    split at h
    · rename_i e
      cases h
      rw [beq_iff_eq] at e
      subst e
      exact List.mem_cons_self
    · exact List.mem_cons_of_mem _ (mem_look h)
theorem pe_cst_ (G : Gd Γ c X) {x : Str} {p : PV} {pos : Pos} (h : c.sc.names.lookup x = some .globalImplicit) (hl : Γ.consts.lookup x = some p) : PE X (.Name x pos) (rd X.K (xC p)) := by
  obtain ⟨hd, v, u, hm, r, hv⟩ := G.consts _ (mem_look hl)
  exact PE.imp (pe_glob (by show X.env.scope.names.lookup x = _; rw [G.sc]; exact h) hm r hd) fun σ H Q => rd_c hv
theorem dNm_ok (G : Gd Γ c X) (x : Str) (pos : Pos) : PE X (.Name x pos) (rd X.K ((dNm Γ c x).m cs)) := by
  have own : ∀ k, c.sc.names.lookup x = some k → (k = .local ∨ k = .cell ∨ k = .free) → PE X (.Name x pos) (rd X.K ((match ixOf Γ.N x with
    | some i => Te.loc i
    | none => .bad : Te).m cs)) := fun k e hk => by
    split
    · rename_i i e2
      have hN := ixOf_ok e2
      have hd := G.dbg x (List.mem_of_getElem? hN)
      refine pe_loc (by rw [G.N]; exact hN) ?_ hd.1 hd.2
      unfold Vis
      rw [G.sc, e]
      rcases hk with rfl | rfl | rfl
      · exact .inl rfl
      · exact .inr (.inl rfl)
      · exact .inr (.inr rfl)
    · exact pe_bad_
  unfold dNm
  cases e : c.sc.names.lookup x with
  | none => exact pe_bad_
  | some k =>
    cases k with
    | globalImplicit =>
      dsimp only
      split
      · rename_i p e2
        exact pe_cst_ G e e2
      · exact pe_bad_
    | globalExplicit => exact pe_bad_
    | «local» => exact own _ e (.inl rfl)
    | cell => exact own _ e (.inr (.inl rfl))
    | free => exact own _ e (.inr (.inr rfl))
theorem dO_ok (hf : ∀ e, PE X e (rd X.K ((f e).m cs))) : ∀ o, PO X o (rdO X.K ((dO f o).m cs))
  | none => po_none_
  | some e => po_some_ (hf e)
theorem plain_ix {b : Expr} (h : ∀ lo hi st p, b ≠ .Slice lo hi st p) : PlainIx b := by
  intro o i
  cases b <;> first | rfl | exact absurd rfl (h _ _ _ _)
theorem dSub_ok (hf : ∀ e, PE X e (rd X.K ((f e).m cs))) (a b : Expr) (pos : Pos) : PE X (.Subscript a b pos) (rd X.K ((dSub f a b).m cs)) := by
  unfold dSub
  split
  · exact pe_revL_ (hf a)
  · exact pe_cut_ (hf a) (dO_ok hf _) (dO_ok hf _)
  · exact pe_bad_
  · rename_i h1 h2 h3
    refine pe_idx_ (hf a) (hf b) (plain_ix fun lo hi st p e => ?_)
    cases st with
    | none => exact h2 _ _ _ e
    | some z => exact h3 _ _ _ _ e
theorem blt_ok (G : Gd Γ c X) {x : Str} {b : Blt} {e : Expr} {es : List Expr} {p pos : Pos} {fl : SmL} (hb : bltOf x = some b) (hg : Gl X x) (hm : X.mg x = none) (ha : PA X (e :: es) (rdL X.K fl)) (hs : isStar e = false) (hp : (e :: es).any isStar = false) :
    PE X (.Call (.Name x p) (e :: es) [] pos) (rd X.K (xCall b.fn fl)) := by
  have he := star_ok (es := es) (env := X.env) hs
  rw [List.any_cons, Bool.or_eq_false_iff] at hp
  have hpl := stars_ok (pos := pos) (env := X.env) hp.2
  unfold bltOf at hb
  split at hb
  · rename_i z; subst z; cases hb; exact pe_blt_ cb_len hg hm rfl ha (by decide +kernel) (by decide +kernel) he hpl
  split at hb
  · rename_i z; subst z; cases hb; exact pe_blt_ cb_abs hg hm rfl ha (by decide +kernel) (by decide +kernel) he hpl
  split at hb
  · rename_i z; subst z; cases hb; exact pe_blt_ (cb_max G.calm) hg hm rfl ha (by decide +kernel) (by decide +kernel) he hpl
  split at hb
  · rename_i z; subst z; cases hb; exact pe_blt_ (cb_min G.calm) hg hm rfl ha (by decide +kernel) (by decide +kernel) he hpl
  split at hb
  · rename_i z; subst z; cases hb; exact pe_bty_ cb_int hg hm rfl ha (by decide +kernel) (by decide +kernel) he hpl
  split at hb
  · rename_i z; subst z; cases hb; exact pe_blt_ cb_divmod hg hm rfl ha (by decide +kernel) (by decide +kernel) he hpl
  split at hb
  · rename_i z; subst z; cases hb; exact pe_bty_ cb_list hg hm rfl ha (by decide +kernel) (by decide +kernel) he hpl
  split at hb
  · rename_i z; subst z; cases hb; exact pe_bty_ cb_tuple hg hm rfl ha (by decide +kernel) (by decide +kernel) he hpl
  split at hb
  · rename_i z; subst z; cases hb; exact pe_blt_ (cb_all G.calm) hg hm rfl ha (by decide +kernel) (by decide +kernel) he hpl
  split at hb
  · rename_i z; subst z; cases hb; exact pe_blt_ (cb_any G.calm) hg hm rfl ha (by decide +kernel) (by decide +kernel) he hpl
  split at hb
  · rename_i z; subst z; cases hb; exact pe_blt_ (cb_sum G.calm) hg hm rfl ha (by decide +kernel) (by decide +kernel) he hpl
  split at hb
  · rename_i z; subst z; cases hb; exact pe_blt_ (cb_repr G.gd.gd G.un) hg hm rfl ha (by decide +kernel) (by decide +kernel) he hpl
  · cases hb
theorem isi_ok (G : Gd Γ c X) {T : Str} {s : String} {e : Expr} {p p2 pos : Pos} {g : Sm} (hb : tyOf T = some s) (h1 : Gl X "isinstance") (h2 : X.mg "isinstance" = none) (h3 : Gl X T) (h4 : X.mg T = none) (he : PE X e (rd X.K g)) (hs : isStar e = false) :
    PE X (.Call (.Name "isinstance" p) [e, .Name T p2] [] pos) (rd X.K (xUn (gIsi s) g)) := by
  have hs2 := star_ok (es := [.Name T p2]) (env := X.env) hs
  unfold tyOf at hb
  split at hb
  · rename_i z; subst z; cases hb; exact pe_isi_ h1 h2 h3 h4 rfl (by decide +kernel) (by decide +kernel) he hs2
  split at hb
  · rename_i z; subst z; cases hb; exact pe_isi_ h1 h2 h3 h4 rfl (by decide +kernel) (by decide +kernel) he hs2
  split at hb
  · rename_i z; subst z; cases hb; exact pe_isi_ h1 h2 h3 h4 rfl (by decide +kernel) (by decide +kernel) he hs2
  split at hb
  · rename_i z; subst z; cases hb; exact pe_isi_ h1 h2 h3 h4 rfl (by decide +kernel) (by decide +kernel) he hs2
  split at hb
  · rename_i z; subst z; cases hb; exact pe_isi_ h1 h2 h3 h4 rfl (by decide +kernel) (by decide +kernel) he hs2
  · cases hb
theorem bare_ok {o : Expr} {a : Str} {env : PySem.Env} (h : isBare o = true) : attributeBase o a env (eval o env) = eval o env := by
  cases o <;> first | rfl | cases h
theorem dUser_ok (G : Gd Γ c X) (hf : ∀ e, PE X e (rd X.K ((f e).m Γ.ents))) {x : Str} {p : Pos} (hg : Gl X x) (es : List Expr) (kws : List Keyword) (pos : Pos) : PE X (.Call (.Name x p) es kws pos) (rd X.K ((dUser Γ c f x es kws).m Γ.ents)) := by
  unfold dUser
  split
  · rename_i z
    simp only [Bool.and_eq_true, Bool.not_eq_true', decide_eq_true_eq] at z
    obtain ⟨⟨⟨⟨rfl, z2⟩, z3⟩, z4⟩, z5⟩ := z
    cases kws with
    | cons a b => cases z3
    | nil =>
      cases es with
      | nil => cases z4
      | cons e r =>
        have z6 := z5
        rw [List.any_cons, Bool.or_eq_false_iff] at z6
        exact pe_bfn_ cb_gcd hg (G.gcd z2) (dL_ok hf (e :: r)) (by decide +kernel) (star_ok z6.1) (stars_ok z6.2)
  · split
    · rename_i ks hk
      split
      · rename_i j hj
        split
        · exact pe_bad_
        · rename_i z
          have z : es.any isStar = false := by simpa using z
          obtain ⟨E, hE⟩ := callIx_ok hj
          obtain ⟨C, hd⟩ := G.calls _ (List.mem_of_getElem? hE)
          obtain ⟨k1, k2, k3, k4⟩ := kwNames_ok (pos := pos) (env := X.env) hk
          have hst := stars_ok (pos := pos) (env := X.env) z
          have e2 : Γ.ents[j]? = some E := by unfold Ga.ents; rw [List.getElem?_map, hE]; rfl
          have e3 : ((Te.call j es.length ks.length (dL f es) (dK f kws)).m Γ.ents) = xCallE E es.length ks.length ((dL f es).m Γ.ents) ((dK f kws).m Γ.ents) := by
            show (match Γ.ents[j]? with
              | some E => xCallE E es.length ks.length ((dL f es).m Γ.ents) ((dK f kws).m Γ.ents)
              | none => xBad) = _
            rw [e2]
          rw [e3]
          cases es with
          | nil => exact pe_call0_ C G.room G.gd hg (dK_ok hf kws) k1 k2 hd (by rw [hst, k3]; rfl)
          | cons e r =>
            have z5 := z
            rw [List.any_cons, Bool.or_eq_false_iff] at z5
            exact pe_call_ C G.room G.gd hg (dL_ok hf (e :: r)) (dK_ok hf kws) k1 k2 hd (star_ok z5.1) (by rw [hst, k3]; rfl)
      · exact pe_bad_
    · exact pe_bad_
theorem dCall_ok (G : Gd Γ c X) (hf : ∀ e, PE X e (rd X.K ((f e).m Γ.ents))) (fe : Expr) (es : List Expr) (kws : List Keyword) (pos : Pos) : PE X (.Call fe es kws pos) (rd X.K ((dCall Γ c f fe es kws pos).m Γ.ents)) := by
  unfold dCall
  split
  · rename_i x p
    split
    · rename_i hg
      have hg := G.gl hg
      split
      · rename_i ex
        subst ex
        split
        · rename_i e T p2
          split
          · rename_i s hs
            split
            · rename_i z
              simp only [Bool.and_eq_true, Bool.not_eq_true'] at z
              obtain ⟨⟨z1, z2⟩, z3⟩ := z
              exact isi_ok G hs hg (G.frees _ (List.contains_iff_mem.mp z1)) (G.lf z2).1 (G.lf z2).2 (hf e) z3
            · exact pe_bad_
          · exact pe_bad_
        · exact pe_bad_
      · split
        · rename_i b e r hb
          split
          · rename_i z
            simp only [Bool.and_eq_true, Bool.not_eq_true'] at z
            obtain ⟨⟨z1, z2⟩, z3⟩ := z
            exact blt_ok G hb hg (G.frees _ (List.contains_iff_mem.mp z1)) (dL_ok hf (e :: r)) z2 z3
          · exact pe_bad_
        · exact dUser_ok G hf hg _ _ pos
    · exact pe_bad_
  · rename_i o a apos
    split
    · rename_i z
      rw [Bool.and_eq_true] at z
      split
      · rename_i ea
        subst ea
        split
        · rename_i e
          split
          · exact pe_bad_
          · rename_i h
            have h : isStar e = false := by simpa using h
            refine pe_app_ (hf o) (dL_ok hf [e]) (bare_ok z.1) ?_ z.2 (star_ok h) rfl
            rw [star_ok h]
            rfl
        · exact pe_bad_
      · split
        · rename_i ea
          subst ea
          split
          · exact pe_pop_ (hf o) (bare_ok z.1) z.2
          · exact pe_bad_
        · exact pe_bad_
    · exact pe_bad_
  · exact pe_bad_
end
end Pe
namespace Pe
open PySem PySem.Spec PyProof.Rows L2
section
variable {Γ : Ga} {c : Sc} {X : Cx} {f : Expr → Te}
theorem isTup_ok {tg : Expr} (h : isTup tg = true) : ∃ es k p, tg = .Tuple es k p := by
  cases tg <;> first | exact ⟨_, _, _, rfl⟩ | cases h
theorem dIt_ok (G : Gd Γ c X) (hf : ∀ e, PE X e (rd X.K ((f e).m Γ.ents))) (tg : Expr) (iter : Expr) : PI X tg iter (rdI X.K ((dIt Γ c f tg iter).m Γ.ents)) := by
  unfold dIt
  split
  · rename_i x p es pos
    split
    · rename_i e; subst e
      split
      · rename_i z
        split
        · exact pi_bad_
        · rename_i z2
          have z2 : es.any isStar = false := by simpa using z2
          obtain ⟨g1, g2⟩ := G.lf z
          split
          · rename_i a h
            have z2 : ([a] : List Expr).any isStar = false := by simpa using h
            simp only [List.any_cons, List.any_nil, Bool.or_eq_false_iff] at z2
            exact pi_range1_ g1 g2 (dL_ok hf [a]) (by rw [star_ok z2.1]; rfl)
          · rename_i a b h
            have z2 : ([a, b] : List Expr).any isStar = false := by simpa using h
            simp only [List.any_cons, List.any_nil, Bool.or_eq_false_iff] at z2
            exact pi_range2_ g1 g2 (dL_ok hf [a, b]) (by rw [star_ok z2.1, star_ok z2.2.1]; rfl) (by rw [star_ok z2.2.1]; rfl)
          · rename_i a b d h
            have z3 : ([a, b, d] : List Expr).any isStar = false := by simpa using h
            rw [List.any_cons, Bool.or_eq_false_iff] at z3
            exact pi_range3_ g1 g2 (dL_ok hf [a, b, d]) (star_ok z3.1) (stars_ok z3.2)
          · exact pi_bad_
      · exact pi_bad_
    · split
      · rename_i e; subst e
        split
        · rename_i z
          simp only [Bool.and_eq_true, Bool.not_eq_true'] at z
          obtain ⟨g1, g2⟩ := G.lf z.1
          have z2 := z.2
          split
          · rename_i y p2 a pos2
            split
            · rename_i ey; subst ey
              split
              · rename_i z3
                simp only [Bool.and_eq_true, Bool.not_eq_true'] at z3
                obtain ⟨g3, g4⟩ := G.lf z3.1
                exact pi_revRng_ g1 g2 g3 g4 (hf a) (star_ok z3.2)
              · exact pi_bad_
            · exact pi_rev_ g1 g2 (hf _) rfl
          · rename_i a h
            rw [List.any_cons, Bool.or_eq_false_iff] at z2
            exact pi_rev_ g1 g2 (hf a) (star_ok z2.1)
          · exact pi_bad_
        · exact pi_bad_
      · split
        · rename_i e; subst e
          split
          · rename_i z
            simp only [Bool.and_eq_true, Bool.not_eq_true'] at z
            obtain ⟨g1, g2⟩ := G.lf z.1.1
            have z2 := z.1.2
            obtain ⟨ts, k, pt, rfl⟩ := isTup_ok z.2
            split
            · rename_i a
              rw [List.any_cons, Bool.or_eq_false_iff] at z2
              exact pi_enum_ g1 g2 (hf a) (star_ok z2.1)
            · exact pi_bad_
          · exact pi_bad_
        · split
          · rename_i e; subst e
            split
            · rename_i z
              simp only [Bool.and_eq_true, Bool.not_eq_true'] at z
              obtain ⟨g1, g2⟩ := G.lf z.1.1
              have z2 := z.1.2
              obtain ⟨ts, k, pt, rfl⟩ := isTup_ok z.2
              split
              · rename_i a b
                rw [List.any_cons, Bool.or_eq_false_iff] at z2
                exact pi_zip_ g1 g2 (dL_ok hf [a, b]) (star_ok z2.1) (stars_ok z2.2)
              · exact pi_bad_
            · exact pi_bad_
          · exact pi_seq_ (hf _)
  · split
    · exact pi_bad_
    · exact pi_seq_ (hf _)
theorem dIt_set {tg e : Expr} (h : isSet e = true) : dIt Γ c f tg e = .bad := by
  cases e <;> first | rfl | cases h
/-! ### comprehensions -/
structure TrOk (Γ : Ga) (T : Tr) : Prop where
  e : ∀ {c : Sc} {X : Cx}, Gd Γ c X → ∀ ex, PE X ex (rd X.K ((T.e c ex).m Γ.ents))
  t : ∀ {c : Sc} {X : Cx}, Gd Γ c X → ∀ ex, PT X ex (rdT X.K ((T.t c ex).m Γ.ents))
  g : ∀ {c : Sc} {X : Cx}, Gd Γ c X → ∀ ex, PG X ex (rdG X.K ((T.g c ex).m Γ.ents))
  v : ∀ {c : Sc} {X : Cx}, Gd Γ c X → ∀ vs ex, PG X ex (rdW X.K vs ((T.v vs c ex).m Γ.ents))
theorem dIf_ok {t : Expr → Tt} (hf : ∀ e, PT X e (rdT X.K ((t e).m Γ.ents))) : ∀ es, PTs X es (rdT X.K ((dIf t es).m Γ.ents))
  | [] => pts_nil_
  | [a] => pts_one_ (hf a)
  | a :: b :: r => pts_bad_
theorem dComp_ok {T : Tr} (hT : TrOk Γ T) (G : Gd Γ c X) (elt : Expr) (scope : Scope) (gens : List Comprehension) (pos : Pos) : PE X (.ListComp elt gens scope pos) (rd X.K ((dComp Γ c T elt scope gens).m Γ.ents)) := by
  unfold dComp
  split
  · rename_i tg iter ifs
    split
    · rename_i hb
      cases hs : isSet iter with
      | true =>
        refine PE.imp pe_bad_ fun σ H Q h => ?_
        rw [dIt_set hs] at h
        obtain ⟨_, _, _, _, _, q⟩ := h
        exact q.elim
      | false =>
        exact pe_comp_ G.calm (by rw [G.N]; exact G.nd) (dIt_ok G (hT.e G) tg iter) (blkOk_by (by rw [G.N, G.sc]; exact hb)) (fun s H C cl fp => hT.v (G.blk scope s H C cl fp) _ tg)
          (fun s H C cl fp => dIf_ok (hT.t (G.blk scope s H C cl fp)) ifs) (fun s H C cl fp => hT.e (G.blk scope s H C cl fp) elt) (noSet hs)
    · exact pe_bad_
  · exact pe_bad_
theorem okN_ok (G : Gd Γ c X) {x : Str} {i : Nat} (h : okN Γ c x = some i) : X.N[i]? = some x ∧ Loc X.env.scope x ∧ (X.fn x = true ∨ X.env.scope.names.lookup x = some .local) := by
  rw [G.N]
  unfold L2.Loc
  rw [G.sc]
  unfold okN at h
  split at h
  · rename_i e
    exact ⟨ixOf_ok h, .inl e, .inr e⟩
  · rename_i e
    split at h
    · rename_i z
      exact ⟨ixOf_ok h, .inr e, .inl (G.fn _ z)⟩
    · cases h
  · cases h
theorem trStep_e {T : Tr} (hT : TrOk Γ T) (G : Gd Γ c X) (ex : Expr) : PE X ex (rd X.K (((trStep Γ T).e c ex).m Γ.ents)) := by
  unfold trStep
  dsimp only
  split
  · exact dNm_ok G _ _
  · exact PE.imp pe_int fun σ H Q => rd_c fun _ _ => .int _
  · exact PE.imp pe_bl fun σ H Q => rd_c fun _ _ => .bl _
  · exact PE.imp pe_str fun σ H Q => rd_c fun _ _ => .str _
  · exact PE.imp pe_non fun σ H Q => rd_c fun _ _ => .non
  · exact pe_bin (op_gBin G.gd G.top _) (hT.e G _) (hT.e G _)
  · exact pe_un_ un_gNeg (hT.e G _)
  · exact pe_not_ (hT.e G _)
  · split
    · rename_i h; exact pe_cmp_ G.un' (hT.e G _) (hT.e G _) h
    · exact pe_bad_
  · split
    · rename_i h; exact pe_chain_ G.un' (hT.e G _) (hT.e G _) (hT.e G _) h
    · exact pe_bad_
  · exact dAnd_ok (hT.e G) _ _
  · exact dOr_ok (hT.e G) _ _
  · exact pe_ite_ (hT.t G _) (hT.e G _) (hT.e G _)
  · exact pe_tup_ (dL_ok (hT.e G) _)
  · exact pe_lst_ (dL_ok (hT.e G) _)
  · exact dSub_ok (hT.e G) _ _ _
  · exact dCall_ok G (hT.e G) _ _ _ _
  · exact dComp_ok hT G _ _ _ _
  · exact pe_bad_
theorem trStep_t {T : Tr} (hT : TrOk Γ T) (G : Gd Γ c X) (ex : Expr) : PT X ex (rdT X.K (((trStep Γ T).t c ex).m Γ.ents)) := by
  unfold trStep
  dsimp only
  split
  · split
    · rename_i h; exact pt_cmp_ G.un' (hT.e G _) (hT.e G _) h
    · exact pt_bad_
  · split
    · rename_i h; exact pt_chain_ G.un' (hT.e G _) (hT.e G _) (hT.e G _) h
    · exact pt_bad_
  · exact (dAndT_ok (hT.t G) _ _).pt
  · exact (dOrT_ok (hT.t G) _ _).pt
  · exact pt_not_ (hT.t G _)
  · exact pt_tv (hT.e G _) fun _ => rfl
  · exact pt_tv (hT.e G _) fun _ => rfl
  · exact pt_tv (hT.e G _) fun _ => rfl
  · exact pt_tv (hT.e G _) fun _ => rfl
  · exact pt_tv (hT.e G _) fun _ => rfl
  · exact pt_bad_
theorem trStep_g {T : Tr} (hT : TrOk Γ T) (G : Gd Γ c X) (ex : Expr) : PG X ex (rdG X.K (((trStep Γ T).g c ex).m Γ.ents)) := by
  unfold trStep
  dsimp only
  split
  · split
    · rename_i i h
      obtain ⟨h1, h2, h3⟩ := okN_ok G h
      exact pg_name_ (by rw [G.N]; exact G.nd) h1 h2 h3
    · exact pg_bad_
  · split
    · exact pg_bad_
    · rename_i z
      obtain ⟨h1, h2⟩ := assign_len (env := X.env) (by simpa using z)
      exact pg_tup_ G.calm (dG_ok (hT.g G) _) h1 h2
  · exact pg_sub_ (hT.e G _) (hT.e G _) fun _ => rfl
  · exact pg_sub_ (hT.e G _) (hT.e G _) fun _ => rfl
  · exact pg_sub_ (hT.e G _) (hT.e G _) fun _ => rfl
  · exact pg_sub_ (hT.e G _) (hT.e G _) fun _ => rfl
  · exact pg_sub_ (hT.e G _) (hT.e G _) fun _ => rfl
  · exact pg_bad_
theorem trStep_v {T : Tr} (hT : TrOk Γ T) (G : Gd Γ c X) (vs : List Nat) (ex : Expr) : PG X ex (rdW X.K vs (((trStep Γ T).v vs c ex).m Γ.ents)) := by
  unfold trStep
  dsimp only
  split
  · split
    · rename_i i h
      obtain ⟨h1, h2, h3⟩ := okN_ok G h
      split
      · rename_i z
        exact pgw_name (by rw [G.N]; exact G.nd) h1 h2 h3 z
      · exact pgw_bad_
    · exact pgw_bad_
  · split
    · exact pgw_bad_
    · rename_i z
      obtain ⟨h1, h2⟩ := assign_len (env := X.env) (by simpa using z)
      exact pgw_tup G.calm (dGw_ok (hT.v G vs) _) h1 h2
  · exact pgw_bad_
theorem tr0_ok : TrOk Γ tr0 := ⟨fun _ _ => pe_bad_, fun _ _ => pt_bad_, fun _ _ => pg_bad_, fun _ _ _ => pgw_bad_⟩
theorem trN_ok : ∀ n, TrOk Γ (trN Γ n)
  | 0 => tr0_ok
  | n + 1 => ⟨trStep_e (trN_ok n), trStep_t (trN_ok n), trStep_g (trN_ok n), trStep_v (trN_ok n)⟩
end
end Pe
namespace Pe
open PySem PySem.Spec PyProof.Rows L2
theorem sw2 {env : PySem.Env} {x y : Str} {a b : Expr} {px py pt p2 : Pos} {kt k2 : Nat} (hk : env.scope.kind = .function) (hx : env.scope.names.lookup x = some .local) (hy : env.scope.names.lookup y = some .local) (hxy : x ≠ y) (hl : px.line = py.line)
    (hf : folded [a, b] = false) (ha : isStar a = false) (hb : isStar b = false) : swappedStores [.Tuple [.Name x px, .Name y py] kt pt] (.Tuple [a, b] k2 p2) env = pure (some [x, y]) := by
  unfold folded at hf
  rw [Bool.or_eq_false_iff] at hf
  have kx : env.kindOf x = some .local := hx
  have ky : env.kindOf y = some .local := hy
  have bk : env.blockKind = .function := by unfold PySem.Env.blockKind; rw [hk]; rfl
  have p1 : (Expr.Name x px).pos.line = px.line := rfl
  unfold swappedStores
  have q1 : (y == x) = false := by simpa using hxy.symm
  simp [bk, kx, ky, hl, hf.1, hf.2, List.eraseDups, List.eraseDupsBy, List.filterMap_cons, p1, List.eraseDupsBy.loop, q1]
  intro h
  rcases h with h | h
  · cases a <;> first | (cases h; done) | (cases ha; done)
  · cases b <;> first | (cases h; done) | (cases hb; done)
theorem sw3 {env : PySem.Env} {x y z : Str} {a b c : Expr} {px py pz pt p2 : Pos} {kt k2 : Nat} (hk : env.scope.kind = .function) (hx : env.scope.names.lookup x = some .local) (hy : env.scope.names.lookup y = some .local) (hz : env.scope.names.lookup z = some .local) (hxy : x ≠ y) (hxz : x ≠ z) (hyz : y ≠ z)
    (hl : px.line = py.line) (hl2 : px.line = pz.line)
    (hf : folded [a, b, c] = false) (ha : isStar a = false) (hb : isStar b = false) (hc : isStar c = false) : swappedStores [.Tuple [.Name x px, .Name y py, .Name z pz] kt pt] (.Tuple [a, b, c] k2 p2) env = pure (some [x, y, z]) := by
  unfold folded at hf
  rw [Bool.or_eq_false_iff] at hf
  have kx : env.kindOf x = some .local := hx
  have ky : env.kindOf y = some .local := hy
  have kz : env.kindOf z = some .local := hz
  have bk : env.blockKind = .function := by unfold PySem.Env.blockKind; rw [hk]; rfl
  have p1 : (Expr.Name x px).pos.line = px.line := rfl
  unfold swappedStores
  have q1 : (y == x) = false := by simpa using hxy.symm
  have q2 : (z == x) = false := by simpa using hxz.symm
  have q3 : (z == y) = false := by simpa using hyz.symm
  simp [bk, kx, ky, kz, ← hl, ← hl2, hf.1, hf.2, List.eraseDups, List.eraseDupsBy, List.filterMap_cons, p1, List.eraseDupsBy.loop, q1, q2, q3]
  intro h
  rcases h with h | h | h
  · cases a <;> first | (cases h; done) | (cases ha; done)
  · cases b <;> first | (cases h; done) | (cases hb; done)
  · cases c <;> first | (cases h; done) | (cases hc; done)
theorem swO {env : PySem.Env} {ts vs : List Expr} {c : Sc} {pt p2 : Pos} {kt k2 : Nat} (hs : env.scope = c.sc) (h : someOther c ts = true) : swappedStores [.Tuple ts kt pt] (.Tuple vs k2 p2) env = pure none := by
  unfold someOther at h
  rw [List.any_eq_true] at h
  obtain ⟨e, he, h2⟩ := h
  unfold swappedStores
  simp
  intro _ _ _ _ h5
  refine absurd ?_ (h5 e he)
  cases e <;> try rfl
  rename_i x p
  have h3 : ¬ env.kindOf x = some .local := by
    show ¬ env.scope.names.lookup x = _
    rw [hs]
    simpa using h2
  simp [h3]
theorem swF {env : PySem.Env} {ts vs : List Expr} {pt p2 : Pos} {kt k2 : Nat} (h : vs.all (foldedForSure 8) = true) : swappedStores [.Tuple ts kt pt] (.Tuple vs k2 p2) env = pure none := by
  unfold swappedStores
  simp [h]
theorem swLen {env : PySem.Env} {ts vs : List Expr} {pt p2 : Pos} {kt k2 : Nat} (h : ts.length ≠ 2) (h2 : ts.length ≠ 3) : swappedStores [.Tuple ts kt pt] (.Tuple vs k2 p2) env = pure none := by
  unfold swappedStores
  simp [h, h2]
theorem swP {env : PySem.Env} {ts vs : List Expr} {c : Sc} {pt p2 : Pos} {kt k2 : Nat} (hs : env.scope = c.sc) (h : plainStore c ts vs = true) : swappedStores [.Tuple ts kt pt] (.Tuple vs k2 p2) env = pure none := by
  unfold plainStore at h
  simp only [Bool.or_eq_true, Bool.and_eq_true, decide_eq_true_eq] at h
  rcases h with (h | h) | h
  · exact swO hs h
  · exact swF h
  · exact swLen h.1 h.2
theorem swN {env : PySem.Env} {tg e : Expr} (h : ∀ ts k p vs k2 p2, tg = .Tuple ts k p → e = .Tuple vs k2 p2 → False) (h2 : ∀ ts p vs k2 p2, tg = .List ts p → e = .Tuple vs k2 p2 → False) : swappedStores [tg] e env = pure none := by
  cases tg <;> first | rfl | (cases e <;> first | rfl | exact (h _ _ _ _ _ _ rfl rfl).elim | exact (h2 _ _ _ _ _ rfl rfl).elim)

theorem swLc {env : PySem.Env} {x : Str} {elt : Expr} {gens : List Comprehension} {scope : Scope} {px pos : Pos} {line : Nat} (hk : env.scope.kind = .function) (hx : env.scope.names.lookup x = some .local) (hl : px.line = pos.line)
    (hn : (scope.names.any fun q => decide (q.1 = x) && (decide (q.2 = .local) || decide (q.2 = .cell))) = false) : swapsWith (.ListComp elt gens scope pos) (some (.Name x px)) line env = pure true := by
  have kx : env.kindOf x = some .local := hx
  have bk : env.blockKind = .function := by unfold PySem.Env.blockKind; rw [hk]; rfl
  have p1 : (Expr.ListComp elt gens scope pos).pos.line = pos.line := rfl
  rw [List.any_eq_false] at hn
  unfold swapsWith
  simp [bk, kx, hl, p1]
  refine congrArg _ ?_
  rw [Bool.not_eq_true', List.any_eq_false]
  intro q hq
  have := hn q hq
  simpa using this
theorem swCell {env : PySem.Env} {x : Str} {elt : Expr} {gens : List Comprehension} {scope : Scope} {px pos : Pos} {line : Nat} (hx : env.scope.names.lookup x = some .cell) : swapsWith (.ListComp elt gens scope pos) (some (.Name x px)) line env = pure false := by
  have kx : env.kindOf x = some .cell := hx
  have ne : (NameKind.cell == NameKind.local) = false := rfl
  unfold swapsWith
  simp [kx, ne]
theorem noSwap {e : Expr} {t : Option Expr} {line : Nat} {env : PySem.Env} (h : isComp e = false) : swapsWith e t line env = pure false := by
  cases e <;> first | rfl | cases h
theorem one_target {tg : Expr} {env : PySem.Env} (h : isStar tg = false) : (assignEach [tg] env).map (·.2) = [assign tg env] := by
  rw [assign_star h]
  rfl
section
variable {Γ : Ga} {c : Sc} {X : Cx} {T : Tr}
theorem ne_ix {N : List Str} {i j : Nat} {x y : Str} (h1 : N[i]? = some x) (h2 : N[j]? = some y) (h : x ≠ y) : i ≠ j := fun e => by
  subst e
  rw [h1] at h2
  exact h (Option.some.inj h2)
theorem dPar_ok (hT : TrOk Γ T) (G : Gd Γ c X) (hk : c.sc.kind = .function) (ts vs : List Expr) (kt k2 : Nat) (pt p2 pos : Pos) : PS X (.Assign [.Tuple ts kt pt] (.Tuple vs k2 p2) pos) (rdS X.K ((dPar Γ c T ts vs).m Γ.ents)) := by
  have hk' : X.env.scope.kind = .function := by rw [G.sc]; exact hk
  have nd : X.N.Nodup := by rw [G.N]; exact G.nd
  unfold dPar
  split
  · rename_i x px y py a b
    split
    · rename_i i j hi hj
      split
      · rename_i z
        simp only [Bool.and_eq_true, Bool.not_eq_true', decide_eq_true_eq] at z
        obtain ⟨⟨⟨⟨⟨⟨z1, z2⟩, z3⟩, z4⟩, z5⟩, z6⟩, z7⟩ := z
        rw [← G.sc] at z1 z2
        exact ps_par_ G.calm nd (okN_ok G hi).1 (okN_ok G hj).1 (ne_ix (okN_ok G hi).1 (okN_ok G hj).1 z3) z1 z2 (dL_ok (hT.e G) [a, b]) (sw2 hk' z1 z2 z3 z4 z5 z6 z7)
      · exact ps_bad_
    · exact ps_bad_
  · rename_i x px y py w pw a b d
    split
    · rename_i i j l hi hj hl
      split
      · rename_i z
        simp only [Bool.and_eq_true, Bool.not_eq_true', decide_eq_true_eq] at z
        obtain ⟨⟨⟨⟨⟨⟨⟨⟨⟨⟨⟨z1, z2⟩, z3⟩, z4⟩, z5⟩, z6⟩, z7⟩, z8⟩, z9⟩, za⟩, zb⟩, zc⟩ := z
        rw [← G.sc] at z1 z2 z3
        exact ps_par3_ G.calm nd (okN_ok G hi).1 (okN_ok G hj).1 (okN_ok G hl).1 (ne_ix (okN_ok G hi).1 (okN_ok G hj).1 z4) (ne_ix (okN_ok G hi).1 (okN_ok G hl).1 z5) (ne_ix (okN_ok G hj).1 (okN_ok G hl).1 z6) z1 z2 z3
          (dL_ok (hT.e G) [a, b, d]) (sw3 hk' z1 z2 z3 z4 z5 z6 z7 z8 z9 za zb zc)
      · exact ps_bad_
    · exact ps_bad_
  · exact ps_bad_
theorem dAs_ok (hT : TrOk Γ T) (G : Gd Γ c X) (hk : c.sc.kind = .function) (tg e : Expr) (pos : Pos) : PS X (.Assign [tg] e pos) (rdS X.K ((dAs Γ c T tg e).m Γ.ents)) := by
  have hk' : X.env.scope.kind = .function := by rw [G.sc]; exact hk
  have nd : X.N.Nodup := by rw [G.N]; exact G.nd
  unfold dAs
  split
  · split
    · rename_i z
      exact ps_as_ (hT.e G _) (hT.g G _) rfl (swP G.sc z) rfl
    · exact dPar_ok hT G hk _ _ _ _ _ _ _
  · rename_i x px elt gens scope pos2
    split
    · rename_i tg iter ifs
      split
      · rename_i i hi
        split
        · rename_i z
          simp only [Bool.and_eq_true, Bool.not_eq_true', decide_eq_true_eq] at z
          obtain ⟨⟨z1, z2⟩, z3⟩ := z
          rw [← G.sc] at z1
          have ec : dComp Γ c T elt scope [⟨tg, iter, ifs, 0⟩] = if blkC Γ.N c.sc scope (ownOf Γ.N scope.names) = true then
              .comp ((ownOf Γ.N scope.names).map (·.2)) (dIt Γ c (T.e c) tg iter) (T.v ((ownOf Γ.N scope.names).map (·.2)) (blkSc scope c) tg) (dIf (T.t (blkSc scope c)) ifs) (T.e (blkSc scope c) elt) else .bad := rfl
          show PS X _ (rdS X.K (sAs (tgN i) ((dComp Γ c T elt scope [⟨tg, iter, ifs, 0⟩]).m Γ.ents)))
          rw [ec]
          split
          · rename_i hb
            cases hs : isSet iter with
            | true =>
              refine PS.imp ps_bad_ fun D σ H h => ?_
              rw [dIt_set hs] at h
              obtain ⟨_, _, _, _, _, q⟩ := h
              exact q.elim
            | false =>
              exact ps_setc_ G.calm nd (okN_ok G hi).1 z1 (swLc hk' z1 z2 z3) (dIt_ok G (hT.e G) tg iter) (blkOk_by (by rw [G.N, G.sc]; exact hb)) (fun s H C cl fp => hT.v (G.blk scope s H C cl fp) _ tg)
                (fun s H C cl fp => dIf_ok (hT.t (G.blk scope s H C cl fp)) ifs) (fun s H C cl fp => hT.e (G.blk scope s H C cl fp) elt) (noSet hs)
          · refine PS.imp ps_bad_ fun D σ H h => ?_
            obtain ⟨_, _, _, _, _, q⟩ := h
            exact q.elim
        · split
          · rename_i z
            rw [← G.sc] at z
            obtain ⟨n1, n2, n3⟩ := okN_ok G hi
            exact ps_as_ (dComp_ok hT G elt scope [⟨tg, iter, ifs, 0⟩] pos2) (pg_name_ nd n1 n2 n3) (swCell (line := pos.line) z) rfl rfl
          · exact ps_bad_
      · exact ps_bad_
    · exact ps_bad_
  · rename_i h3 h4
    split
    · exact ps_bad_
    · rename_i z
      simp only [Bool.or_eq_true, not_or, Bool.not_eq_true] at z
      obtain ⟨⟨z1, z2⟩, z3⟩ := z
      refine ps_as_ (hT.e G _) (hT.g G _) (noSwap z1) (swN (fun ts k p vs k2 p2 e1 e2 => h3 ts k p vs k2 p2 e1 e2) fun ts p vs k2 p2 e1 e2 => by subst e1; cases z3) (one_target z2)
theorem dS_ok (hT : TrOk Γ T) (G : Gd Γ c X) {B : List Stmt → Ts} (hB : ∀ b, PSs X b (rdS X.K ((B b).m Γ.ents))) (s : Stmt) : PS X s (rdS X.K ((dS Γ c T B s).m Γ.ents)) := by
  have hp : PassesOwn (model X.prog X.w) X.A X.env X.xe := by rw [G.xe]; exact PassesOwn.never
  unfold dS
  split
  · exact ps_pass_
  · exact ps_break_
  · exact ps_continue_
  · exact ps_ret_ (hT.e G _)
  · exact ps_retN_
  · split
    · exact ps_bad_
    · rename_i z
      exact ps_ex_ (hT.e G _) (noSwap (by simpa using z))
  · exact ps_if_ (hT.t G _) (hB _) (hB _)
  · exact ps_wh_ hp (hT.t G _) (hB _)
  · rename_i tg iter b pos
    cases hs : isSet iter with
    | true =>
      refine PS.imp ps_bad_ fun D σ H h => ?_
      rw [dIt_set hs] at h
      obtain ⟨_, _, _, _, _, q⟩ := h
      exact q.elim
    | false => exact ps_for_ hp G.calm (dIt_ok G (hT.e G) tg iter) (hT.g G tg) (hB b) (noSet hs)
  · split
    · rename_i hk
      exact dAs_ok hT G hk _ _ _
    · exact ps_bad_
  · exact ps_bad_
theorem pss_bad_ {b : List Stmt} : PSs X b (rdS X.K sBad) := ⟨fun pins s σ H D I h => by obtain ⟨_, _, _, _, _, q⟩ := h; exact q.elim⟩
theorem dB_ok (hT : TrOk Γ T) (G : Gd Γ c X) : ∀ (n : Nat) (b : List Stmt), PSs X b (rdS X.K ((dB Γ c T n b).m Γ.ents))
  | 0, _ => pss_bad_
  | _ + 1, [] => pss_nil_
  | n + 1, s :: r => pss_cons_ (dS_ok hT G (dB_ok hT G n) s) (dB_ok hT G n r)
end
end Pe
namespace Pe
open PySem PySem.Spec PyProof.Rows L2
/-! ### a def by its body's meaning -/
def fnM (n : Nat) (b : SmS) : Fn := fun args st => (b (args.map some ++ List.replicate (n - args.length) none) st).bind fun r st1 => match r.1 with
  | .nx => .ok .non st1
  | .rt p => .ok p st1
  | _ => .bad
structure GaOk (P : Program) (w : World) (K : PySem.W.Frag) (mg : Str → Option Value) (base : Heap) (Γ : Ga) : Prop where
  dbg : ∀ x ∈ Γ.N, (x == ("__debug__" : Str)) = false ∧ (x == ("__classdict__" : Str)) = false
  calls : ∀ q ∈ Γ.calls, CallOk P w K mg base Γ.k q.1 q.2.1 q.2.2.1 q.2.2.2 ∧ (q.1 == ("__debug__" : Str)) = false
  consts : ∀ q ∈ Γ.consts, (q.1 == ("__debug__" : Str)) = false ∧ ∃ v u, mg q.1 = some u ∧ RelV v u ∧ ∀ μ H, VR K μ H v q.2
  frees : ∀ x ∈ Γ.frees, mg x = none
  gcd : Γ.gcd = true → mg "gcd" = some (.builtin "math.gcd")
theorem vrs_start {K : PySem.W.Frag} {μ : List Addr} {H : Hp} {N : List Str} {vs : List V} {ps : List PV} (h : VRs K μ H vs ps) : LR K μ H (L2.start N vs) (ps.map some ++ List.replicate (N.length - ps.length) none) := by
  unfold L2.start
  rw [h.length]
  refine ⟨by simp [h.length], fun i p e => ?_⟩
  by_cases hi : i < ps.length
  · rw [List.getElem?_append_left (by simpa using hi), List.getElem?_map] at e
    cases e2 : ps[i]? with
    | none => rw [e2] at e; cases e
    | some q =>
      rw [e2] at e
      cases e
      obtain ⟨v, e3, r⟩ := h.get e2
      exact ⟨v, by rw [List.getElem?_append_left (by simpa [h.length] using hi), List.getElem?_map, e3]; rfl, r⟩
  · rw [List.getElem?_append_right (by simpa using hi), List.getElem?_replicate] at e
    split at e <;> cases e
/-- the context of a body in which nothing is raised -/
def cxQ (P : Program) (w : World) (K : PySem.W.Frag) (mg : Str → Option Value) (base : Heap) (N : List Str) (qual : Str) (scope : Scope) (f : Addr) (cd : Value) (A : Around) (outer : List PySem.Env) (s : Shared) (H : Hp) : Cx :=
  { cxOf CX0 P w K mg base N qual scope f cd A outer s H E0 with xe := fun _ _ => False }
theorem inv_quiet {P : Program} {w : World} {K : PySem.W.Frag} {mg : Str → Option Value} {base : Heap} {N : List Str} {qual : Str} {scope : Scope} {f : Addr} {cd : Value} {A : Around} {outer : List PySem.Env} {s : Shared} {H H' : Hp} {pins : List (Addr × Obj)} {σ : L2.St} {s1 : Shared}
    (I : Inv (cxOf CX0 P w K mg base N qual scope f cd A outer s H E0) pins σ H' s1) : Inv (cxQ P w K mg base N qual scope f cd A outer s H) pins σ H' s1 :=
  ⟨⟨I.ok.mod, I.ok.kind, I.ok.glob, I.ok.blt, I.ok.above, I.ok.inj, I.ok.has, I.ok.cab, I.ok.hd, I.ok.frames, I.ok.stk, I.ok.exf, I.ok.bs, I.ok.bsz, I.ok.noex, I.ok.exfs, I.ok.funs, I.ok.frf⟩, I.os, I.bare, I.base, I.loc, I.cell, I.free, I.freeC, I.pin, I.hok, I.len⟩
theorem fnG_of {P : Program} {w : World} {K : PySem.W.Frag} {mg : Str → Option Value} {base : Heap} {f : Addr} {fd : FuncData} {name qual : Str} {params : Arguments} {body : List Stmt} {scope : Scope} {dvs : List V} {kws : List (Str × V)} {ps : List Str} {Γ : Ga} {n m : Nat} {t : Ts}
    (D : FunD K name qual params body scope dvs kws f fd) (S : FnScope Γ.N ps scope) (O : GaOk P w K mg base Γ) (ht : dB Γ ⟨scope, fun _ => true⟩ (trN Γ n) m body = t) : FnG P w K mg base (Γ.k + 1) f fd ps (fnM Γ.N.length (t.m Γ.ents)) := by
  obtain ⟨oc, od, dV, kV, doc, pm, an, cdv, ct, osl, rfl, lk, hcd, _, _⟩ := D.ex
  refine ⟨fun A outer s H args us vs Q hr hg e0 hb r hl hsp => ?_⟩
  have kin : K.In s.heap := e0.mod.kin.keeps fun b o z => (e0.bs b o z).1
  have nolim : s.heap.NoLimit := e0.mod.nolimit.keeps fun b o z => (e0.bs b o z).1
  have kinds : ∀ q ∈ ps.zip us, scope.names.lookup q.1 = some .local ∨ (scope.names.lookup q.1 = some .cell ∧ ((cellsFrom (s.heap.objs.size + 1) scope.names []).lookup q.1).isSome = true) := fun ⟨x, v⟩ hq => by
    rcases S.par x (List.of_mem_zip hq).1 with z | z
    · exact .inl z
    · exact .inr ⟨z, PySem.W.cellsFrom_some _ _ _ (.inl z)⟩
  refine codeAny_call_function hr.depth (kin _ _ lk) rfl S.co S.gen rfl (PySem.W.codeRec_of kin hcd) (hb _ _ _ _ (wpAny_newFunctionEnv_cells S.kind kinds fun env he s1 x => ?_))
  subst he
  refine ⟨nolim.keeps x.toInCall.keep, codeAny_func ?_⟩
  have I0 : Inv (cxOf CX0 P w K mg base Γ.N qual scope f cdv A outer s H E0) [] (L2.start Γ.N vs) H s1 := inv_start S hr.hd e0 hl r x
  have I := inv_quiet I0
  have G : Gd Γ ⟨scope, fun _ => true⟩ (cxQ P w K mg base Γ.N qual scope f cdv A outer s H) := ⟨rfl, S.nd, O.dbg, rfl, rfl, rfl, hr.deeper _, hg.deeper _, ⟨_, _, Around.frames_deeper e0.frames, S.gen, S.co, I.ok.blt, I.ok.glob⟩, fun _ _ => rfl, O.calls, O.consts, O.frees, O.gcd⟩
  have hB := dB_ok (trN_ok (Γ := Γ) n) G m body
  rw [ht] at hB
  obtain ⟨μ, args', st, hr1, hv, q⟩ := hsp
  have q : Post K μ H (((t.m Γ.ents) (args'.map some ++ List.replicate (Γ.N.length - args'.length) none) st).bind fun r st1 => match r.1 with
    | .nx => .ok .non st1
    | .rt p => .ok p st1
    | _ => .bad) (QV K Q) := q
  refine wpAny_mono (hB.run [] s1 (L2.start Γ.N vs) H { nx := fun _ H' => Q .non H', rt := Q } I ⟨μ, _, st, hr1, vrs_start hv, q.bind_imp fun μ1 H1 r st1 l1 hr1 q1 => ?_⟩) (fun fl s' hs => ?_) fun e s' hs => hs.elim
  · obtain ⟨fl, ρ'⟩ := r
    cases fl with
    | nx => exact fun σ' lr => q1 μ1 H1 .refl hr1 _ .non
    | rt p => exact fun v hv => q1 μ1 H1 .refl hr1 v hv
    | bk => exact q1.elim
    | ct => exact q1.elim
  · have fin : ∀ {σ' : L2.St} {H' : Hp} {v : V} {u : Value}, Inv (cxQ P w K mg base Γ.N qual scope f cdv A outer s H) [] σ' H' s' → RelV v u → Q v H' → CE outer P w H s Q u s' :=
      fun {σ' H' v u} J rv q => ⟨v, H', J.os, J.bare, J.base, J.hok, rv, q⟩
    cases fl with
    | ret u =>
      obtain ⟨v, σ', H', J, rv, q⟩ := hs
      exact fin J rv q
    | next =>
      obtain ⟨σ', H', J, q⟩ := hs
      exact fin (v := V.non) (u := Value.none) J rfl q
    | brk =>
      obtain ⟨_, _, _, q⟩ := hs
      exact q.elim
    | cont =>
      obtain ⟨_, _, _, q⟩ := hs
      exact q.elim
end Pe
namespace Pe
open PySem PySem.Spec PyProof.Rows L2
/-! ### a law's end -/
theorem vrs_ints {K : PySem.W.Frag} {μ : List Addr} {H : Hp} : ∀ (ns : List Int), VRs K μ H (ns.map V.int) (ns.map PV.int)
  | [] => .nil
  | i :: r => .cons (.int i) (vrs_ints r)
theorem start_script {K : PySem.W.Frag} {H : Hp} {a : Addr} {ns : List Int} {F : Fn} {st' : Store} (h : SqR K H a (ns.map V.int)) (hF : F [.ref 0] [.ro (ns.map PV.int)] = .ok (.bl true) st') : spF K F [.ref a] H (fun v _ => v = .bl true) E0 := by
  refine ⟨[a], [.ref 0], [.ro (ns.map PV.int)], ⟨rfl, fun n o e => ?_, fun n m b ps qs e1 _ _ _ => ?_⟩, .cons (.ref rfl) .nil, ?_⟩
  · cases n with
    | zero => cases e; exact ⟨a, rfl, _, h, vrs_ints ns⟩
    | succ n => cases e
  · cases n with
    | zero => cases e1
    | succ n => cases e1
  · rw [hF]
    intro μ1 H1 l hr v hv
    cases hv
    rfl
section
variable {P : Program} {w : World} {K : PySem.W.Frag} {mg mb : Str → Option Value} {k : Nat} {lawA scr : Addr} {fd : FuncData} {x : Str} {F : Fn} {sh : Shared} {items : List Value} {ns : List Int}
/-- what is asked of the heap ahead of the law's call -/
structure Ahead (P : Program) (w : World) (K : PySem.W.Frag) (mg mb : Str → Option Value) (scr : Addr) (sh : Shared) (items : List Value) (ns : List Int) : Prop where
  kin : K.In sh.heap
  gl : sh.heap.Ns mainGlobals mg
  bl : sh.heap.Ns builtinsNs mb
  boot : ∀ y : Str, y ≠ "__name__" → mb y = bootBuiltins y
  lim : sh.heap.NoLimit
  seer : sh.heap.NoSeer
  tree : P.given.tree = none
  gens : sh.gens = #[]
  here : sh.heap.get? scr = some { cls := .type "list", data := .seq items.toArray }
  are : IntsAre items ns
  small : ns.length ≤ sizeLine
theorem Ahead.core (B : Ahead P w K mg mb scr sh items ns) (room : Room k callerA) (deep : callerA.depth + 3 * k + 120 < recursionLimit) (G : ∀ base : Heap, K.In base → base.Ns mainGlobals mg → FnG P w K mg base k lawA fd [x] F) (bind : ∀ (s : Shared) (u : Value), BindsTo s fd ⟨[u], []⟩ [(x, u)])
    (hF : ∃ st', F [.ref 0] [.ro (ns.map PV.int)] = .ok (.bl true) st') (T : Hp) (only : L2.Only T) (sq : SqR K T scr (ns.map V.int)) (ok : HOk P w T sh.heap) (at_ : ∀ b, T b ≠ none → b = scr) (out : T scr ≠ none → K.lookup scr = none) :
    codeAny (model P w) callerA (.call (.ref lawA) ⟨[.ref scr], []⟩) (fun r s' => r = .ok (.ret (.bool true)) ∧ OldK sh.heap s'.heap ∧ s'.os = sh.os ∧ AllBare s'.gens) sh := by
  obtain ⟨st', hF⟩ := hF
  have inH : ∀ {b : Addr} {o : Obj}, sh.heap.get? b = some o → T b = none → (hidT sh.heap T).get? b = some o := fun g z => hidT_get g z
  have noDict : ∀ {b : Addr} {o : Obj} {es : Array DictEntry} {ep : Nat}, sh.heap.get? b = some o → o.data = .dict es ep → T b = none := fun {b o es ep} g d => by
    cases q : T b with
    | none => rfl
    | some u =>
      have z := at_ b (by rw [q]; exact Option.some_ne_none u)
      subst z
      rw [B.here] at g
      cases g
      exact Data.noConfusion d
  have nsH : ∀ {b : Addr} {m : Str → Option Value}, sh.heap.Ns b m → (hidT sh.heap T).Ns b m := fun {b m} z => by
    obtain ⟨o, es, ep, g, d, r⟩ := z
    exact ⟨o, es, ep, inH g (noDict g d), d, r⟩
  have kinH : K.In (hidT sh.heap T) := fun b o e => inH (B.kin b o e) (by
    cases q : T b with
    | none => rfl
    | some u =>
      have z := at_ b (by rw [q]; exact Option.some_ne_none u)
      subst z
      rw [out (by rw [q]; exact Option.some_ne_none u)] at e
      cases e)
  have limH : (hidT sh.heap T).NoLimit := by
    obtain ⟨mc, h1, h2⟩ := B.lim
    exact ⟨mc, nsH h1, h2⟩
  have seerH : (hidT sh.heap T).NoSeer := by
    obtain ⟨mc, a1, a2⟩ := B.seer.statics
    obtain ⟨mm, b1, b2⟩ := B.seer.mods
    obtain ⟨mi, c1, c2⟩ := B.seer.imp
    obtain ⟨mn, bm, ob, d1, d2, d3, d4, d5⟩ := B.seer.main
    refine ⟨⟨mc, nsH a1, a2⟩, ⟨mm, nsH b1, b2⟩, ⟨mi, nsH c1, c2⟩, ⟨mn, bm, ob, nsH d1, d2, inH d3 ?_, d4, d5⟩⟩
    cases q : T bm with
    | none => rfl
    | some u =>
      have z := at_ bm (by rw [q]; exact Option.some_ne_none u)
      subst z
      rw [B.here] at d3
      cases d3
      have d4 : Value.type "list" = Value.type "module" := d4
      injection d4 with z
      exact absurd z (by decide)
  have env : Env0 P w K mg (hidT sh.heap T) callerA [] sh T :=
    ⟨rfl, ⟨kinH, nsH B.gl, ⟨mb, nsH B.bl, B.boot⟩, limH⟩, fun b o e => of_hidT e, Nat.le_of_eq (hidT_size _ _), trivial, fun b z => absurd (show b ∈ ([] : List Addr) from z) List.not_mem_nil, ok, AllBare.of_eq B.gens⟩
  refine codeAny_mono ((G _ kinH (nsH B.gl)).run callerA [] sh T ⟨[.ref scr], []⟩ [.ref scr] [.ref scr] _ room ⟨rfl, deep, B.tree, seerH⟩ env (bind sh (.ref scr)) (.cons rfl .nil) rfl (start_script sq hF)) fun r s' h => ?_
  cases r with
  | error e => exact False.elim h
  | ok fl =>
    cases fl with
    | next => exact h.elim
    | brk => exact h.elim
    | cont => exact h.elim
    | ret u =>
      obtain ⟨v, T', os, bare, un, ok', rv, q⟩ := h
      have q : v = .bl true := q
      subst q
      have rv : u = Value.bool true := rv
      subst rv
      refine ⟨rfl, OldK.of_keep fun b o e => ?_, os, bare⟩
      cases q : T b with
      | none => exact un.keep b o e q (fun z => absurd (show b ∈ ([] : List Addr) from z) List.not_mem_nil) List.not_mem_nil
      | some u =>
        rcases only b with z | ⟨ob, xs, z⟩
        · rw [q] at z
          cases z
        · have g1 := (ok b _ z).1
          have g2 := (ok' b _ (un.frzs b ob _ z)).1
          rw [e] at g1
          cases g1
          exact g2
theorem Ahead.call (B : Ahead P w K mg mb scr sh items ns) (room : Room k callerA) (deep : callerA.depth + 3 * k + 120 < recursionLimit) (G : ∀ base : Heap, K.In base → base.Ns mainGlobals mg → FnG P w K mg base k lawA fd [x] F) (bind : ∀ (s : Shared) (u : Value), BindsTo s fd ⟨[u], []⟩ [(x, u)])
    (hF : ∃ st', F [.ref 0] [.ro (ns.map PV.int)] = .ok (.bl true) st') :
    codeAny (model P w) callerA (.call (.ref lawA) ⟨[.ref scr], []⟩) (fun r s' => r = .ok (.ret (.bool true)) ∧ OldK sh.heap s'.heap ∧ s'.os = sh.os ∧ AllBare s'.gens) sh := by
  have vals := vals_ints B.are
  have len := B.are.length
  cases lk : K.lookup scr with
  | some o =>
    have g := B.kin scr o lk
    rw [B.here] at g
    cases g
    refine B.core room deep G bind hF (fun _ => none) (fun _ => .inl rfl) (.inr ⟨_, items.toArray, _, lk, rfl, rfl, rfl, ?_, by simpa using vals⟩) (fun b u z => nomatch z) (fun b z => absurd rfl z) fun z => absurd rfl z
    rw [List.size_toArray, len]
    exact B.small
  | none =>
    have self : ∀ (b : Addr) (u : HO), (if b = scr then some (HO.frz { cls := .type "list", data := .seq items.toArray } (.lst (ns.map V.int))) else none) = some u → b = scr ∧ u = .frz { cls := .type "list", data := .seq items.toArray } (.lst (ns.map V.int)) := fun b u z => by
      split at z
      · rename_i e
        exact ⟨e, (Option.some.inj z).symm⟩
      · cases z
    refine B.core room deep G bind hF (fun b => if b = scr then some (HO.frz { cls := .type "list", data := .seq items.toArray } (.lst (ns.map V.int))) else none) (fun b => ?_) (.inl ⟨_, if_pos rfl⟩) (fun b u z => ?_) (fun b z => ?_) fun _ => lk
    · by_cases e : b = scr
      · exact .inr ⟨_, _, if_pos e⟩
      · exact .inl (if_neg e)
    · obtain ⟨rfl, rfl⟩ := self b u z
      exact ⟨B.here, by rw [List.length_map]; exact B.small, items, _, vals, B.here⟩
    · obtain ⟨u, q⟩ := Option.ne_none_iff_exists'.mp z
      exact (self b u q).1
end
/-- a law: F gives the written part, the function object, its promise over every base, and its plain law -/
theorem walkG {l : PySem.W.OpenLaw} {n k : Nat} {q : Program} {loose : List Str} {XP : (Str → Option Value) → Heap → Prop} {YP : World → Heap → Prop} {d : DefRec} {x : Str} {F : Fn}
    (most : l.most = some n) (small : n ≤ sizeLine) (plain : d.params.defaults = []) (room : Room k callerA) (deep : callerA.depth + 3 * k + 120 < recursionLimit) (tree : l.prog.given.tree = none) (none_ : importsNone q = true) (law : ∀ ns : List Int, ns.length ≤ n → ∃ st', F [.ref 0] [.ro (ns.map PV.int)] = .ok (.bl true) st')
    (G : ∀ (w : World) (mg : Str → Option Value) (lawA : Addr) (h : Heap), YP w h → h.Ns mainGlobals mg → mg d.name = some (.ref lawA) →
      ∃ (K : PySem.W.Frag) (fd : FuncData), K.In h ∧ (∀ (s : Shared) (u : Value), BindsTo s fd ⟨[u], []⟩ [(x, u)]) ∧ ∀ base : Heap, K.In base → base.Ns mainGlobals mg → FnG l.prog w K mg base k lawA fd [x] F) :
    PySem.W.WalkO q loose XP YP l.row.toRowW d [] (fun f vs => PySem.call f vs) := by
  refine Att.attach_call most plain fun w s₀ s₁ mg mb fa o pm cd doc a vs ns Tp Y ho hd hcd hmg hobj hints hlen hg => ?_
  obtain ⟨K, fd, kin, hb, hG⟩ := G w mg fa _ Y Tp.T.g hmg
  exact Ahead.call ⟨kin, Tp.T.g, Tp.T.b, Tp.T.builtins, Tp.T.nolimit, Tp.T.seer none_, tree, hg, hobj, hints, Nat.le_trans hlen small⟩ room deep hG hb (law ns hlen)
end Pe
namespace Pe
open PySem PySem.Spec PyProof.Rows L2
/-! ### the module's constants -/
def relL (f : Value → PV → Bool) : List Value → List PV → Bool
  | [], [] => true
  | u :: us, p :: ps => f u p && relL f us ps
  | _, _ => false
def relP (K : PySem.W.Frag) : Nat → Value → PV → Bool
  | 0, _, _ => false
  | n + 1, v, p => match v, p with
    | .none, .non => true
    | .bool b, .bl c => b == c
    | .int i _, .int j => decide (i = j)
    | .str x _, .str y => decide (x = y)
    | .ref a, .tup ps => match K.lookup a with
      | some ⟨.type c, _, .seq its _, _⟩ => decide (c = "tuple") && (decide (its.size ≤ sizeLine) && relL (relP K n) its.toList ps)
      | _ => false
    | _, _ => false
theorem relL_ok {K : PySem.W.Frag} {f : Value → PV → Bool} (hf : ∀ u p, f u p = true → ∃ v, RelV v u ∧ ∀ μ H, VR K μ H v p) : ∀ {us : List Value} {ps : List PV}, relL f us ps = true → ∃ vs, Vals vs us ∧ ∀ μ H, VRs K μ H vs ps
  | [], [], _ => ⟨[], .nil, fun _ _ => .nil⟩
  | u :: us, p :: ps, h => by
    unfold relL at h
    rw [Bool.and_eq_true] at h
    obtain ⟨v, r, hv⟩ := hf u p h.1
    obtain ⟨vs, rs, hvs⟩ := relL_ok hf h.2
    exact ⟨v :: vs, .cons r rs, fun μ H => .cons (hv μ H) (hvs μ H)⟩
  | [], _ :: _, h => by cases h
  | _ :: _, [], h => by cases h
theorem relP_ok {K : PySem.W.Frag} : ∀ (n : Nat) (u : Value) (p : PV), relP K n u p = true → ∃ v, RelV v u ∧ ∀ μ H, VR K μ H v p
  | 0, _, _, h => by cases h
  | n + 1, u, p, h => by
    unfold relP at h
    split at h
    · exact ⟨.non, rfl, fun _ _ => .non⟩
    · rename_i b c
      rw [beq_iff_eq] at h
      subst h
      exact ⟨.bl b, rfl, fun _ _ => .bl b⟩
    · rename_i i t j
      have h := of_decide_eq_true h
      subst h
      exact ⟨.int i, ⟨t, rfl⟩, fun _ _ => .int i⟩
    · rename_i x t y
      have h := of_decide_eq_true h
      subst h
      exact ⟨.str x, ⟨t, rfl⟩, fun _ _ => .str x⟩
    · rename_i a ps
      split at h
      · rename_i c od its m osl lk
        rw [Bool.and_eq_true, Bool.and_eq_true] at h
        obtain ⟨h1, h2, h3⟩ := h
        have h1 := of_decide_eq_true h1
        subst h1
        obtain ⟨vs, r, hvs⟩ := relL_ok (relP_ok n) h3
        exact ⟨.ref a, rfl, fun μ H => .tup (.inr ⟨_, its, m, lk, rfl, rfl, of_decide_eq_true h2, r⟩) (hvs μ H)⟩
      · cases h
    · cases h
def cstB (K : PySem.W.Frag) (q : Str × PV) : Bool := match PySem.W.nsIn K mainGlobals q.1 with
  | some (some v) => relP K 8 v q.2 && !(q.1 == ("__debug__" : Str))
  | _ => false
theorem cstB_ok {K : PySem.W.Frag} {h : Heap} {mg : Str → Option Value} {q : Str × PV} (X : K.In h) (G : h.Ns mainGlobals mg) (c : cstB K q = true) : (q.1 == ("__debug__" : Str)) = false ∧ ∃ v u, mg q.1 = some u ∧ RelV v u ∧ ∀ μ H, VR K μ H v q.2 := by
  unfold cstB at c
  split at c
  · rename_i u e
    rw [Bool.and_eq_true, Bool.not_eq_true'] at c
    obtain ⟨v, r, hv⟩ := relP_ok 8 u q.2 c.1
    exact ⟨c.2, v, u, PySem.W.mg_of X G e, r, hv⟩
  · cases c
def extra (cl : List (Str × PV)) (g : Bool) (K : PySem.W.Frag) : Bool := cl.all (cstB K) && (!g || decide (PySem.W.nsIn K mainGlobals "gcd" = some (some (.builtin "math.gcd"))))
/-! ### a def with its place -/
/-- what is known ahead of the defs -/
structure Wd (P : Program) (w : World) (K : PySem.W.Frag) (mg : Str → Option Value) (cl : List (Str × PV)) (bl : List Str) (g : Bool) : Prop where
  consts : ∀ q ∈ cl, (q.1 == ("__debug__" : Str)) = false ∧ ∃ v u, mg q.1 = some u ∧ RelV v u ∧ ∀ μ H, VR K μ H v q.2
  frees : ∀ x ∈ bl, mg x = none
  gcd : g = true → mg "gcd" = some (.builtin "math.gcd")
theorem Wd.of {P : Program} {w : World} {K : PySem.W.Frag} {h : Heap} {mg : Str → Option Value} {cl : List (Str × PV)} {bl : List Str} {g : Bool} (X : K.In h) (G : h.Ns mainGlobals mg) (c : extra cl g K = true) (hb : ∀ x ∈ bl, mg x = none) : Wd P w K mg cl bl g := by
  unfold extra at c
  rw [Bool.and_eq_true] at c
  refine ⟨fun q hq => cstB_ok X G (List.all_eq_true.mp c.1 q hq), hb, fun e => ?_⟩
  subst e
  have := of_decide_eq_true (show decide (PySem.W.nsIn K mainGlobals "gcd" = some (some (.builtin "math.gcd"))) = true by simpa using c.2)
  exact PySem.W.mg_of X G this
structure Dk (P : Program) (w : World) (K : PySem.W.Frag) (mg : Str → Option Value) (base : Heap) (k : Nat) (x : Str) (ps : List Str) (params : Arguments) (F : Fn) : Prop where
  ok : ∃ (f : Addr) (fd : FuncData) (qual : Str) (body : List Stmt) (scope : Scope), mg x = some (.ref f) ∧ FunD K x qual params body scope [] [] f fd ∧ FnG P w K mg base k f fd ps F
/-- what is looked at, at a def -/
def chk (N ps : List Str) (sc : Scope) (calls : List (Str × Nat × List Str × Ent)) : Bool :=
  decide (sc.kind = .function) && !sc.isCoroutine && !sc.isGenerator && decide N.Nodup && decide (N.take ps.length = ps) && (ps.all fun x => decide (sc.names.lookup x = some .local) || decide (sc.names.lookup x = some .cell)) && (sc.names.all fun y => decide (y.2 ≠ .free))
    && (N.all fun x => !(x == ("__debug__" : Str)) && !(x == ("__classdict__" : Str))) && calls.all fun q => !(q.1 == ("__debug__" : Str))
theorem chk_ok {N ps : List Str} {sc : Scope} {calls : List (Str × Nat × List Str × Ent)} (h : chk N ps sc calls = true) : FnScope N ps sc ∧ (∀ x ∈ N, (x == ("__debug__" : Str)) = false ∧ (x == ("__classdict__" : Str)) = false) ∧ ∀ q ∈ calls, (q.1 == ("__debug__" : Str)) = false := by
  unfold chk at h
  simp only [Bool.and_eq_true, Bool.not_eq_true', decide_eq_true_eq, List.all_eq_true, Bool.or_eq_true] at h
  obtain ⟨⟨⟨⟨⟨⟨⟨⟨h1, h2⟩, h3⟩, h4⟩, h5⟩, h6⟩, h7⟩, h8⟩, h9⟩ := h
  exact ⟨⟨h1, h2, h3, h4, h5, h6, fun y hy => h7 y hy⟩, h8, h9⟩
section
variable {P : Program} {w : World} {K : PySem.W.Frag} {mg : Str → Option Value} {base : Heap} {cl : List (Str × PV)} {bl : List Str} {g : Bool} {k j : Nat} {x : Str} {ps : List Str} {params : Arguments} {F : Fn}
abbrev CallsOk (P : Program) (w : World) (K : PySem.W.Frag) (mg : Str → Option Value) (base : Heap) (k : Nat) (l : List (Str × Nat × List Str × Ent)) : Prop := ∀ q ∈ l, CallOk P w K mg base k q.1 q.2.1 q.2.2.1 q.2.2.2
theorem cnil : CallsOk P w K mg base k [] := fun q hq => absurd hq List.not_mem_nil
theorem ccons {np : Nat} {ks : List Str} {E : Ent} {l : List (Str × Nat × List Str × Ent)} (h : CallOk P w K mg base k x np ks E) (r : CallsOk P w K mg base k l) : CallsOk P w K mg base k ((x, np, ks, E) :: l) := fun q hq => by
  rcases List.mem_cons.mp hq with e | e
  · subst e; exact h
  · exact r q e
theorem Dk.of {d : He.DefD} {N : List Str} {calls : List (Str × Nat × List Str × Ent)} {n m : Nat} {t : Ts} {es : List Ent} (W : Wd P w K mg cl bl g) (D : ∃ fd, FunD K d.name d.qual d.params d.body d.scope (d.dvs K) (d.kws K) (He.fAd K d.at_) fd) (hd : d.dfl = []) (hk : d.kwd = []) (hn : d.name = x) (hp : d.params = params)
    (hm : mg x = some (.ref (He.fAd K d.at_))) (C : CallsOk P w K mg base k calls) (he : calls.map (fun q => q.2.2.2) = es) (hc : chk N ps d.scope calls = true) (ht : dB ⟨k, N, calls, cl, bl, g⟩ ⟨d.scope, fun _ => true⟩ (trN ⟨k, N, calls, cl, bl, g⟩ n) m d.body = t) :
    Dk P w K mg base (k + 1) x ps params (fnM N.length (t.m es)) := by
  subst hn hp he
  obtain ⟨fd, D⟩ := D
  have e1 : d.dvs K = [] := by unfold He.DefD.dvs; rw [hd]; rfl
  have e2 : d.kws K = [] := by unfold He.DefD.kws; rw [hk]; rfl
  rw [e1, e2] at D
  obtain ⟨S, hN, hC⟩ := chk_ok hc
  exact ⟨_, fd, _, _, _, hm, D, fnG_of (Γ := ⟨k, N, calls, cl, bl, g⟩) D S ⟨hN, fun q hq => ⟨C q hq, hC q hq⟩, W.consts, W.frees, W.gcd⟩ ht⟩
theorem bind_all {x' qual : Str} {body : List Stmt} {scope : Scope} {f : Addr} {fd : FuncData} {args : Args} {r : List (Str × Value)} (D : FunD K x' qual params body scope [] [] f fd)
    (h : ∀ (kV doc pm : Value) (an : Option Addr) (cdv ct : Value), bindArgs (PySem.W.fnOf x' qual params body scope .none kV doc pm an cdv ct) args = pure r) (s : Shared) : BindsTo s fd args r := by
  obtain ⟨oc, od, dV, kV, doc, pm, an, cdv, ct, osl, rfl, lk, hcd, hD, hK⟩ := D.ex
  rcases hD with ⟨_, rfl⟩ | ⟨e, _⟩
  · exact BindsTo.of_eq (h kV doc pm an cdv ct)
  · exact absurd rfl e
theorem Dk.call {n : Nat} (D : Dk P w K mg base j x ps params F) (hj : j ≤ k) (hn : n = ps.length)
    (h : ∀ (qual : Str) (body : List Stmt) (scope : Scope) (kV doc pm : Value) (an : Option Addr) (cdv ct : Value) (us : List Value), us.length = n → bindArgs (PySem.W.fnOf x qual params body scope .none kV doc pm an cdv ct) ⟨us, []⟩ = pure (ps.zip us)) :
    CallOk P w K mg base k x n [] ⟨F, none⟩ := by
  obtain ⟨f, fd, qual, body, scope, hm, D, G⟩ := D.ok
  exact ⟨f, fd, ps, hm, D.kp, G.mono hj, hn, rfl, fun s us _ hl => bind_all D (fun kV doc pm an cdv ct => h qual body scope kV doc pm an cdv ct us hl) s⟩
theorem Dk.callK {n : Nat} {ks : List Str} {idx : List Nat} (D : Dk P w K mg base j x ps params F) (hj : j ≤ k) (hi : idx.length = ps.length) (hb : idx.all (fun i => decide (i < n + ks.length)) = true)
    (h : ∀ (qual : Str) (body : List Stmt) (scope : Scope) (kV doc pm : Value) (an : Option Addr) (cdv ct : Value) (us ws : List Value), us.length = n → ws.length = ks.length → bindArgs (PySem.W.fnOf x qual params body scope .none kV doc pm an cdv ct) ⟨us, ks.zip ws⟩ = pure (ps.zip (permL idx (us ++ ws)))) :
    CallOk P w K mg base k x n ks ⟨F, some idx⟩ := by
  obtain ⟨f, fd, qual, body, scope, hm, D, G⟩ := D.ok
  refine ⟨f, fd, ps, hm, D.kp, G.mono hj, fun l hl => ?_, fun s us ws _ h1 h2 => bind_all D (fun kV doc pm an cdv ct => h qual body scope kV doc pm an cdv ct us ws h1 h2) s⟩
  rw [← hi]
  unfold permL
  clear h hi
  induction idx with
  | nil => rfl
  | cons i r ih =>
    rw [List.all_cons, Bool.and_eq_true] at hb
    have h1 := of_decide_eq_true hb.1
    rw [List.filterMap_cons, List.getElem?_eq_getElem (by omega)]
    exact congrArg Nat.succ (ih hb.2)
end
end Pe
namespace Rp
open PySem PySem.W
/-! ### the head's run, looked at part by part -/
section
variable {X A B C : Type} {o : Option X}
theorem two {f : X → A} {g : X → B} {a : A} {b : B} (h1 : o.map f = some a) (h2 : o.map g = some b) : o.map (fun x => (f x, g x)) = some (a, b) := by
  cases o with
  | none => cases h1
  | some x =>
    have e1 : f x = a := Option.some.inj h1
    have e2 : g x = b := Option.some.inj h2
    show some (f x, g x) = some (a, b)
    rw [e1, e2]
theorem band {f g : X → Bool} (h1 : o.map f = some true) (h2 : o.map g = some true) : o.map (fun x => f x && g x) = some true := by
  cases o with
  | none => cases h1
  | some x =>
    have e1 : f x = true := Option.some.inj h1
    have e2 : g x = true := Option.some.inj h2
    show some (f x && g x) = some true
    rw [e1, e2] <;> rfl
theorem alls {l l1 l2 : List A} {p : X → A → Bool} (e : l = l1 ++ l2) (h1 : o.map (fun x => l1.all (p x)) = some true) (h2 : o.map (fun x => l2.all (p x)) = some true) : o.map (fun x => l.all (p x)) = some true := by
  subst e
  cases o with
  | none => cases h1
  | some x =>
    have e1 : l1.all (p x) = true := Option.some.inj h1
    have e2 : l2.all (p x) = true := Option.some.inj h2
    show some ((l1 ++ l2).all (p x)) = some true
    rw [List.all_append, e1, e2] <;> rfl
theorem maps {l l1 l2 : List A} {g : X → A → B} {v : A → B} (e : l = l1 ++ l2) (h1 : o.map (fun x => l1.map (g x)) = some (l1.map v)) (h2 : o.map (fun x => l2.map (g x)) = some (l2.map v)) : o.map (fun x => l.map (g x)) = some (l.map v) := by
  subst e
  cases o with
  | none => cases h1
  | some x =>
    have e1 : l1.map (g x) = l1.map v := Option.some.inj h1
    have e2 : l2.map (g x) = l2.map v := Option.some.inj h2
    show some ((l1 ++ l2).map (g x)) = some ((l1 ++ l2).map v)
    rw [List.map_append, List.map_append, e1, e2]
end
section
variable {A B C : Type}
theorem fst {f : A → B} {g : A → C} {o : Option A} {b : B} {c : C} (h : o.map (fun x => (f x, g x)) = some (b, c)) : o.map f = some b := by
  cases o with
  | none => cases h
  | some x =>
    have e : (f x, g x) = (b, c) := Option.some.inj h
    show some (f x) = some b
    rw [(Prod.mk.inj e).1]
theorem snd {f : A → B} {g : A → C} {o : Option A} {b : B} {c : C} (h : o.map (fun x => (f x, g x)) = some (b, c)) : o.map g = some c := by
  cases o with
  | none => cases h
  | some x =>
    have e : (f x, g x) = (b, c) := Option.some.inj h
    show some (g x) = some c
    rw [(Prod.mk.inj e).2]
theorem three {f : A → B} {g : A → C} {o : Option A} {b : B} {c : C} {D : Type} {k : A → D} {d : D} (h : o.map (fun x => (f x, g x)) = some (b, c)) (h2 : o.map k = some d) : o.map (fun x => (f x, g x, k x)) = some (b, c, d) := by
  cases o with
  | none => cases h
  | some x =>
    have e : (f x, g x) = (b, c) := Option.some.inj h
    have e2 : k x = d := Option.some.inj h2
    show some (f x, g x, k x) = some (b, c, d)
    rw [(Prod.mk.inj e).1, (Prod.mk.inj e).2, e2]
end
end Rp
namespace Pg
open Pe PySem
def t_is_whole : Ts := (.seq (.ret (.and (.isi "int" (.loc 0)) (.not (.isi "bool" (.loc 0))))) .nil)
def e_is_whole : List Ent := []
def f_is_whole : Fn := fnM 1 (t_is_whole.m e_is_whole)
def t_are_wholes : Ts := (.seq (.ret (.and (.isi "tuple" (.loc 0)) (.and (.cmp .Eq (.blt .len (.cons (.loc 0) .nil)) (.loc 1)) (.blt .all (.cons (.comp [2] (.seq (.loc 0)) (.nm 2) .yes (.call 0 1 0 (.cons (.loc 2) .nil) .nil)) .nil))))) .nil)
def e_are_wholes : List Ent := [⟨f_is_whole, none⟩]
def f_are_wholes : Fn := fnM 3 (t_are_wholes.m e_are_wholes)
def t_divisor_of : Ts := (.seq (.as (.nm 1) (.c (.int 0))) (.seq (.for (.seq (.loc 0)) (.nm 2) (.seq (.as (.nm 1) (.gcd (.cons (.loc 1) (.cons (.loc 2) .nil)))) .nil)) (.seq (.ret (.loc 1)) .nil)))
def e_divisor_of : List Ent := []
def f_divisor_of : Fn := fnM 3 (t_divisor_of.m e_divisor_of)
def t_lowest : Ts := (.seq (.as (.nm 1) (.call 0 1 0 (.cons (.loc 0) .nil) .nil)) (.seq (.ret (.ite (.tb (.cmp .Eq (.loc 1) (.c (.int 0)))) (.blt .tuple (.cons (.loc 0) .nil)) (.blt .tuple (.cons (.comp [2] (.seq (.loc 0)) (.nm 2) .yes (.bin .FloorDiv (.loc 2) (.loc 1))) .nil)))) .nil))
def e_lowest : List Ent := [⟨f_divisor_of, none⟩]
def f_lowest : Fn := fnM 3 (t_lowest.m e_lowest)
def t_is_ratio : Ts := (.seq (.ret (.and (.call 0 2 0 (.cons (.loc 0) (.cons (.c (.int 2)) .nil)) .nil) (.and (.cmp .Gt (.idx (.loc 0) (.c (.int 1))) (.c (.int 0))) (.cmp .Eq (.call 1 1 0 (.cons (.loc 0) .nil) .nil) (.c (.int 1)))))) .nil)
def e_is_ratio : List Ent := [⟨f_are_wholes, none⟩, ⟨f_divisor_of, none⟩]
def f_is_ratio : Fn := fnM 1 (t_is_ratio.m e_is_ratio)
def t_ratio : Ts := (.seq (.ret (.ite (.tb (.cmp .Gt (.loc 1) (.c (.int 0)))) (.call 0 1 0 (.cons (.tup (.cons (.loc 0) (.cons (.loc 1) .nil))) .nil) .nil) (.call 0 1 0 (.cons (.tup (.cons (.neg (.loc 0)) (.cons (.neg (.loc 1)) .nil))) .nil) .nil))) .nil)
def e_ratio : List Ent := [⟨f_lowest, none⟩]
def f_ratio : Fn := fnM 2 (t_ratio.m e_ratio)
def t_plus : Ts := (.seq (.ret (.call 0 2 0 (.cons (.bin .Add (.bin .Mult (.idx (.loc 0) (.c (.int 0))) (.idx (.loc 1) (.c (.int 1)))) (.bin .Mult (.idx (.loc 1) (.c (.int 0))) (.idx (.loc 0) (.c (.int 1))))) (.cons (.bin .Mult (.idx (.loc 0) (.c (.int 1))) (.idx (.loc 1) (.c (.int 1)))) .nil)) .nil)) .nil)
def e_plus : List Ent := [⟨f_ratio, none⟩]
def f_plus : Fn := fnM 2 (t_plus.m e_plus)
def t_times : Ts := (.seq (.ret (.call 0 2 0 (.cons (.bin .Mult (.idx (.loc 0) (.c (.int 0))) (.idx (.loc 1) (.c (.int 0)))) (.cons (.bin .Mult (.idx (.loc 0) (.c (.int 1))) (.idx (.loc 1) (.c (.int 1)))) .nil)) .nil)) .nil)
def e_times : List Ent := [⟨f_ratio, none⟩]
def f_times : Fn := fnM 2 (t_times.m e_times)
def t_trimmed : Ts := (.seq (.as (.nm 1) (.blt .list (.cons (.loc 0) .nil))) (.seq (.wh (.and (.tb (.cmp .NotEq (.loc 1) (.lst .nil))) (.tb (.cmp .Eq (.idx (.loc 1) (.neg (.c (.int 1)))) (.c (.tup [(.int 0), (.int 1)]))))) (.seq (.ex (.pop (.loc 1))) .nil)) (.seq (.ret (.blt .tuple (.cons (.loc 1) .nil))) .nil)))
def e_trimmed : List Ent := []
def f_trimmed : Fn := fnM 2 (t_trimmed.m e_trimmed)
def t_degree_of : Ts := (.seq (.ret (.bin .Sub (.blt .len (.cons (.loc 0) .nil)) (.c (.int 1)))) .nil)
def e_degree_of : List Ent := []
def f_degree_of : Fn := fnM 1 (t_degree_of.m e_degree_of)
def t_number_at : Ts := (.seq (.ret (.ite (.tb (.cmp .Lt (.loc 1) (.blt .len (.cons (.loc 0) .nil)))) (.idx (.loc 0) (.loc 1)) (.c (.tup [(.int 0), (.int 1)])))) .nil)
def e_number_at : List Ent := []
def f_number_at : Fn := fnM 2 (t_number_at.m e_number_at)
def t_added : Ts := (.seq (.as (.nm 2) (.blt .max (.cons (.blt .len (.cons (.loc 0) .nil)) (.cons (.blt .len (.cons (.loc 1) .nil)) .nil)))) (.seq (.ret (.call 2 1 0 (.cons (.comp [3] (.rng1 (.cons (.loc 2) .nil)) (.nm 3) .yes (.call 1 2 0 (.cons (.call 0 2 0 (.cons (.loc 0) (.cons (.loc 3) .nil)) .nil) (.cons (.call 0 2 0 (.cons (.loc 1) (.cons (.loc 3) .nil)) .nil) .nil)) .nil)) .nil) .nil)) .nil))
def e_added : List Ent := [⟨f_number_at, none⟩, ⟨f_plus, none⟩, ⟨f_trimmed, none⟩]
def f_added : Fn := fnM 4 (t_added.m e_added)
def t_multiplied : Ts := (.seq (.as (.nm 2) (.bin .Mult (.lst (.cons (.c (.tup [(.int 0), (.int 1)])) .nil)) (.bin .Add (.blt .len (.cons (.loc 0) .nil)) (.blt .len (.cons (.loc 1) .nil))))) (.seq (.for (.enum (.loc 0)) (.tup 2 (.cons (.nm 3) (.cons (.nm 4) .nil))) (.seq (.for (.enum (.loc 1)) (.tup 2 (.cons (.nm 5) (.cons (.nm 6) .nil))) (.seq (.as (.sub (.loc 2) (.bin .Add (.loc 3) (.loc 5))) (.call 1 2 0 (.cons (.idx (.loc 2) (.bin .Add (.loc 3) (.loc 5))) (.cons (.call 0 2 0 (.cons (.loc 4) (.cons (.loc 6) .nil)) .nil) .nil)) .nil)) .nil)) .nil)) (.seq (.ret (.call 2 1 0 (.cons (.loc 2) .nil) .nil)) .nil)))
def e_multiplied : List Ent := [⟨f_times, none⟩, ⟨f_plus, none⟩, ⟨f_trimmed, none⟩]
def f_multiplied : Fn := fnM 7 (t_multiplied.m e_multiplied)
def t_is_led_by : Ts := (.seq (.ret (.and (.cmp .NotEq (.loc 0) (.tup .nil)) (.cmp .Eq (.idx (.loc 0) (.c (.int 0))) (.c (.tup [(.int 1), (.int 1)]))))) .nil)
def e_is_led_by : List Ent := []
def f_is_led_by : Fn := fnM 1 (t_is_led_by.m e_is_led_by)
def t_is_row : Ts := (.seq (.ite (.or (.not (.tv (.isi "tuple" (.loc 0)))) (.not (.tv (.blt .all (.cons (.comp [1] (.seq (.loc 0)) (.nm 1) .yes (.call 0 1 0 (.cons (.loc 1) .nil) .nil)) .nil))))) (.seq (.ret (.c (.bl false))) .nil) .nil) (.seq (.ret (.or (.cmp .Eq (.loc 0) (.tup .nil)) (.cmp .NotEq (.idx (.loc 0) (.neg (.c (.int 1)))) (.c (.tup [(.int 0), (.int 1)]))))) .nil))
def e_is_row : List Ent := [⟨f_is_ratio, none⟩]
def f_is_row : Fn := fnM 2 (t_is_row.m e_is_row)
def t_is_led : Ts := (.seq (.ret (.and (.call 0 1 0 (.cons (.loc 0) .nil) .nil) (.call 1 1 0 (.cons (.loc 0) .nil) .nil))) .nil)
def e_is_led : List Ent := [⟨f_is_row, none⟩, ⟨f_is_led_by, none⟩]
def f_is_led : Fn := fnM 1 (t_is_led.m e_is_led)
def t_is_machine : Ts := (.seq (.ite (.or (.not (.tv (.isi "tuple" (.loc 0)))) (.or (.tb (.cmp .NotEq (.blt .len (.cons (.loc 0) .nil)) (.c (.int 2)))) (.or (.not (.tv (.call 0 1 0 (.cons (.idx (.loc 0) (.c (.int 0))) .nil) .nil))) (.not (.tv (.call 1 1 0 (.cons (.idx (.loc 0) (.c (.int 1))) .nil) .nil)))))) (.seq (.ret (.c (.bl false))) .nil) .nil) (.seq (.ret (.and (.cmp .NotEq (.idx (.loc 0) (.c (.int 0))) (.tup .nil)) (.cmp .Eq (.idx (.idx (.loc 0) (.c (.int 0))) (.c (.int 0))) (.c (.tup [(.int 0), (.int 1)]))))) .nil))
def e_is_machine : List Ent := [⟨f_is_row, none⟩, ⟨f_is_led, none⟩]
def f_is_machine : Fn := fnM 1 (t_is_machine.m e_is_machine)
def t_is_helm : Ts := (.seq (.ret (.and (.isi "tuple" (.loc 0)) (.and (.cmp .Eq (.blt .len (.cons (.loc 0) .nil)) (.c (.int 2))) (.and (.call 0 1 0 (.cons (.idx (.loc 0) (.c (.int 0))) .nil) .nil) (.call 1 1 0 (.cons (.idx (.loc 0) (.c (.int 1))) .nil) .nil))))) .nil)
def e_is_helm : List Ent := [⟨f_is_row, none⟩, ⟨f_is_led, none⟩]
def f_is_helm : Fn := fnM 1 (t_is_helm.m e_is_helm)
def t_check_machine : Ts := (.seq (.ite (.not (.tv (.call 0 1 0 (.cons (.loc 0) .nil) .nil))) (.seq .bad .nil) .nil) .nil)
def e_check_machine : List Ent := [⟨f_is_machine, none⟩]
def f_check_machine : Fn := fnM 1 (t_check_machine.m e_check_machine)
def t_check_helm : Ts := (.seq (.ite (.not (.tv (.call 0 1 0 (.cons (.loc 0) .nil) .nil))) (.seq .bad .nil) .nil) .nil)
def e_check_helm : List Ent := [⟨f_is_helm, none⟩]
def f_check_helm : Fn := fnM 1 (t_check_helm.m e_check_helm)
def t_check_pair : Ts := (.seq (.ex (.call 0 1 0 (.cons (.loc 0) .nil) .nil)) (.seq (.ex (.call 1 1 0 (.cons (.loc 1) .nil) .nil)) .nil))
def e_check_pair : List Ent := [⟨f_check_machine, none⟩, ⟨f_check_helm, none⟩]
def f_check_pair : Fn := fnM 2 (t_check_pair.m e_check_pair)
def t_size_by : Ts := (.seq (.ret (.blt .max (.cons (.call 0 1 0 (.cons (.idx (.loc 0) (.c (.int 0))) .nil) .nil) (.cons (.call 0 1 0 (.cons (.idx (.loc 0) (.c (.int 1))) .nil) .nil) .nil)))) .nil)
def e_size_by : List Ent := [⟨f_degree_of, none⟩]
def f_size_by : Fn := fnM 1 (t_size_by.m e_size_by)
def t_closing_by : Ts := (.seq (.ret (.call 1 2 0 (.cons (.call 0 2 0 (.cons (.idx (.loc 0) (.c (.int 1))) (.cons (.idx (.loc 1) (.c (.int 1))) .nil)) .nil) (.cons (.call 0 2 0 (.cons (.idx (.loc 0) (.c (.int 0))) (.cons (.idx (.loc 1) (.c (.int 0))) .nil)) .nil) .nil)) .nil)) .nil)
def e_closing_by : List Ent := [⟨f_multiplied, none⟩, ⟨f_added, none⟩]
def f_closing_by : Fn := fnM 2 (t_closing_by.m e_closing_by)
def t_is_number_one : Ts := (.seq (.ret (.cmp .Eq (.loc 0) (.tup (.cons (.c (.tup [(.int 1), (.int 1)])) .nil)))) .nil)
def e_is_number_one : List Ent := []
def f_is_number_one : Fn := fnM 1 (t_is_number_one.m e_is_number_one)
def t_closing_row : Ts := (.seq (.ex (.call 0 2 0 (.cons (.loc 0) (.cons (.loc 1) .nil)) .nil)) (.seq (.ret (.call 1 2 0 (.cons (.loc 0) (.cons (.loc 1) .nil)) .nil)) .nil))
def e_closing_row : List Ent := [⟨f_check_pair, none⟩, ⟨f_closing_by, none⟩]
def f_closing_row : Fn := fnM 2 (t_closing_row.m e_closing_row)
def t_last_beat : Ts := (.seq (.ex (.call 0 2 0 (.cons (.loc 0) (.cons (.loc 1) .nil)) .nil)) (.seq (.ret (.ite (.tv (.call 2 1 0 (.cons (.call 1 2 0 (.cons (.loc 0) (.cons (.loc 1) .nil)) .nil) .nil) .nil)) (.bin .Add (.call 3 1 0 (.cons (.loc 0) .nil) .nil) (.call 3 1 0 (.cons (.loc 1) .nil) .nil)) (.c .non))) .nil))
def e_last_beat : List Ent := [⟨f_check_pair, none⟩, ⟨f_closing_by, none⟩, ⟨f_is_number_one, none⟩, ⟨f_size_by, none⟩]
def f_last_beat : Fn := fnM 2 (t_last_beat.m e_last_beat)
def t__law_reel : Ts := (.seq (.as (.nm 2) (.bin .Add (.c (.int 47185)) (.bin .Mult (.c (.int 9001)) (.loc 1)))) (.seq (.for (.seq (.cut (.loc 0) .none (.some (.c (.int 8))))) (.nm 3) (.seq (.as (.nm 2) (.bin .Mod (.blt .int (.cons (.bin .Add (.bin .Add (.bin .Mult (.loc 2) (.c (.int 46021))) (.bin .Mod (.blt .int (.cons (.loc 3) .nil)) (.c (.int 2147483497)))) (.c (.int 41))) .nil)) (.c (.int 2147483497)))) .nil)) (.seq (.as (.nm 4) (.ite (.tb (.cmp .Lt (.loc 1) (.blt .len (.cons (.loc 0) .nil)))) (.blt .abs (.cons (.blt .int (.cons (.idx (.loc 0) (.loc 1)) .nil)) .nil)) (.c (.int 0)))) (.seq (.ret (.lst (.cons (.ite (.tb (.cmp .GtE (.loc 4) (.bin .Pow (.c (.int 10)) (.c (.int 18))))) (.loc 4) (.c (.int 0))) (.cons (.bin .Mod (.blt .int (.cons (.bin .Add (.bin .Mult (.loc 2) (.c (.int 59))) (.bin .Mult (.bin .Mod (.blt .int (.cons (.loc 4) .nil)) (.c (.int 2147483497))) (.c (.int 8087)))) .nil)) (.c (.int 2147483497))) (.cons (.c (.int 0)) .nil))))) .nil))))
def e__law_reel : List Ent := []
def f__law_reel : Fn := fnM 5 (t__law_reel.m e__law_reel)
def t__law_pull : Ts := (.seq (.ite (.tb (.cmp .Gt (.idx (.loc 0) (.c (.int 0))) (.c (.int 0)))) (.seq (.as (.tup 2 (.cons (.sub (.loc 0) (.c (.int 0))) (.cons (.nm 2) .nil))) (.blt .divmod (.cons (.idx (.loc 0) (.c (.int 0))) (.cons (.loc 1) .nil)))) (.seq (.ret (.loc 2)) .nil)) .nil) (.seq (.as (.sub (.loc 0) (.c (.int 2))) (.bin .Add (.idx (.loc 0) (.c (.int 2))) (.c (.int 1)))) (.seq (.as (.nm 3) (.bin .Mod (.blt .int (.cons (.bin .Add (.idx (.loc 0) (.c (.int 1))) (.bin .Mult (.c (.int 50021)) (.idx (.loc 0) (.c (.int 2))))) .nil)) (.c (.int 2147483497)))) (.seq (.as (.sub (.loc 0) (.c (.int 1))) (.bin .Mod (.blt .int (.cons (.bin .Add (.bin .Mult (.loc 3) (.bin .Add (.bin .Mod (.blt .int (.cons (.loc 3) .nil)) (.c (.int 7993))) (.c (.int 30029)))) (.bin .Mult (.c (.int 43)) (.idx (.loc 0) (.c (.int 2))))) .nil)) (.c (.int 2147483497)))) (.seq (.ret (.bin .Mod (.blt .int (.cons (.bin .FloorDiv (.idx (.loc 0) (.c (.int 1))) (.c (.int 311))) .nil)) (.loc 1))) .nil)))))
def e__law_pull : List Ent := []
def f__law_pull : Fn := fnM 4 (t__law_pull.m e__law_pull)
def t__law_one_of : Ts := (.seq (.ret (.idx (.loc 1) (.call 0 2 0 (.cons (.loc 0) (.cons (.blt .len (.cons (.loc 1) .nil)) .nil)) .nil))) .nil)
def e__law_one_of : List Ent := [⟨f__law_pull, none⟩]
def f__law_one_of : Fn := fnM 2 (t__law_one_of.m e__law_one_of)
def t__law_lowest : Ts := (.seq (.par [2, 3] (.cons (.blt .abs (.cons (.loc 0) .nil)) (.cons (.blt .abs (.cons (.loc 1) .nil)) .nil))) (.seq (.wh (.tb (.cmp .NotEq (.loc 3) (.c (.int 0)))) (.seq (.par [2, 3] (.cons (.loc 3) (.cons (.bin .Mod (.blt .int (.cons (.loc 2) .nil)) (.loc 3)) .nil))) .nil)) (.seq (.ret (.ite (.tb (.cmp .Gt (.loc 1) (.c (.int 0)))) (.tup (.cons (.bin .FloorDiv (.loc 0) (.loc 2)) (.cons (.bin .FloorDiv (.loc 1) (.loc 2)) .nil))) (.tup (.cons (.bin .Sub (.c (.int 0)) (.bin .FloorDiv (.loc 0) (.loc 2))) (.cons (.bin .Sub (.c (.int 0)) (.bin .FloorDiv (.loc 1) (.loc 2))) .nil))))) .nil)))
def e__law_lowest : List Ent := []
def f__law_lowest : Fn := fnM 4 (t__law_lowest.m e__law_lowest)
def t__law_plus : Ts := (.seq (.ret (.call 0 2 0 (.cons (.bin .Add (.bin .Mult (.idx (.loc 0) (.c (.int 0))) (.idx (.loc 1) (.c (.int 1)))) (.bin .Mult (.idx (.loc 1) (.c (.int 0))) (.idx (.loc 0) (.c (.int 1))))) (.cons (.bin .Mult (.idx (.loc 0) (.c (.int 1))) (.idx (.loc 1) (.c (.int 1)))) .nil)) .nil)) .nil)
def e__law_plus : List Ent := [⟨f__law_lowest, none⟩]
def f__law_plus : Fn := fnM 2 (t__law_plus.m e__law_plus)
def t__law_minus : Ts := (.seq (.ret (.call 0 2 0 (.cons (.bin .Sub (.bin .Mult (.idx (.loc 0) (.c (.int 0))) (.idx (.loc 1) (.c (.int 1)))) (.bin .Mult (.idx (.loc 1) (.c (.int 0))) (.idx (.loc 0) (.c (.int 1))))) (.cons (.bin .Mult (.idx (.loc 0) (.c (.int 1))) (.idx (.loc 1) (.c (.int 1)))) .nil)) .nil)) .nil)
def e__law_minus : List Ent := [⟨f__law_lowest, none⟩]
def f__law_minus : Fn := fnM 2 (t__law_minus.m e__law_minus)
def t__law_times : Ts := (.seq (.ret (.call 0 2 0 (.cons (.bin .Mult (.idx (.loc 0) (.c (.int 0))) (.idx (.loc 1) (.c (.int 0)))) (.cons (.bin .Mult (.idx (.loc 0) (.c (.int 1))) (.idx (.loc 1) (.c (.int 1)))) .nil)) .nil)) .nil)
def e__law_times : List Ent := [⟨f__law_lowest, none⟩]
def f__law_times : Fn := fnM 2 (t__law_times.m e__law_times)
def t__law_over : Ts := (.seq (.ret (.call 0 2 0 (.cons (.bin .Mult (.idx (.loc 0) (.c (.int 0))) (.idx (.loc 1) (.c (.int 1)))) (.cons (.bin .Mult (.idx (.loc 0) (.c (.int 1))) (.idx (.loc 1) (.c (.int 0)))) .nil)) .nil)) .nil)
def e__law_over : List Ent := [⟨f__law_lowest, none⟩]
def f__law_over : Fn := fnM 2 (t__law_over.m e__law_over)
def t__law_part : Ts := (.seq (.ite (.tb (.cmp .Eq (.call 0 2 0 (.cons (.loc 0) (.cons (.c (.int 2)) .nil)) .nil) (.c (.int 0)))) (.seq (.ret (.tup (.cons (.bin .Sub (.call 0 2 0 (.cons (.loc 0) (.cons (.c (.int 9)) .nil)) .nil) (.c (.int 4))) (.cons (.c (.int 1)) .nil)))) .nil) .nil) (.seq (.as (.nm 1) (.bin .Sub (.call 0 2 0 (.cons (.loc 0) (.cons (.c (.int 25)) .nil)) .nil) (.c (.int 12)))) (.seq (.ret (.call 1 2 0 (.cons (.loc 1) (.cons (.bin .Add (.c (.int 1)) (.call 0 2 0 (.cons (.loc 0) (.cons (.c (.int 5)) .nil)) .nil)) .nil)) .nil)) .nil)))
def e__law_part : List Ent := [⟨f__law_pull, none⟩, ⟨f__law_lowest, none⟩]
def f__law_part : Fn := fnM 2 (t__law_part.m e__law_part)
def t__law_some : Ts := (.seq (.as (.nm 1) (.call 0 1 0 (.cons (.loc 0) .nil) .nil)) (.seq (.ret (.ite (.tb (.cmp .NotEq (.idx (.loc 1) (.c (.int 0))) (.c (.int 0)))) (.loc 1) (.tup (.cons (.c (.int 1)) (.cons (.c (.int 1)) .nil))))) .nil))
def e__law_some : List Ent := [⟨f__law_part, none⟩]
def f__law_some : Fn := fnM 2 (t__law_some.m e__law_some)
def t__law_trim : Ts := (.seq (.as (.nm 1) (.blt .len (.cons (.loc 0) .nil))) (.seq (.for (.rng1 (.cons (.blt .len (.cons (.loc 0) .nil)) .nil)) (.nm 2) (.seq (.ite (.tb (.cmp .NotEq (.idx (.idx (.loc 0) (.bin .Sub (.loc 1) (.c (.int 1)))) (.c (.int 0))) (.c (.int 0)))) (.seq .bk .nil) .nil) (.seq (.as (.nm 1) (.bin .Sub (.loc 1) (.c (.int 1)))) .nil))) (.seq (.ret (.blt .tuple (.cons (.cut (.loc 0) .none (.some (.loc 1))) .nil))) .nil)))
def e__law_trim : List Ent := []
def f__law_trim : Fn := fnM 3 (t__law_trim.m e__law_trim)
def t__law_at : Ts := (.seq (.ret (.ite (.tb (.chn .LtE .Lt (.c (.int 0)) (.loc 1) (.blt .len (.cons (.loc 0) .nil)))) (.idx (.loc 0) (.loc 1)) (.tup (.cons (.c (.int 0)) (.cons (.c (.int 1)) .nil))))) .nil)
def e__law_at : List Ent := []
def f__law_at : Fn := fnM 2 (t__law_at.m e__law_at)
def t__law_sum : Ts := (.seq (.ret (.call 2 1 0 (.cons (.comp [2] (.rng1 (.cons (.blt .max (.cons (.blt .len (.cons (.loc 0) .nil)) (.cons (.blt .len (.cons (.loc 1) .nil)) .nil))) .nil)) (.nm 2) .yes (.call 1 2 0 (.cons (.call 0 2 0 (.cons (.loc 0) (.cons (.loc 2) .nil)) .nil) (.cons (.call 0 2 0 (.cons (.loc 1) (.cons (.loc 2) .nil)) .nil) .nil)) .nil)) .nil) .nil)) .nil)
def e__law_sum : List Ent := [⟨f__law_at, none⟩, ⟨f__law_plus, none⟩, ⟨f__law_trim, none⟩]
def f__law_sum : Fn := fnM 3 (t__law_sum.m e__law_sum)
def t__law_scaled : Ts := (.seq (.ret (.call 1 1 0 (.cons (.comp [2] (.seq (.loc 0)) (.nm 2) .yes (.call 0 2 0 (.cons (.loc 2) (.cons (.loc 1) .nil)) .nil)) .nil) .nil)) .nil)
def e__law_scaled : List Ent := [⟨f__law_times, none⟩, ⟨f__law_trim, none⟩]
def f__law_scaled : Fn := fnM 3 (t__law_scaled.m e__law_scaled)
def t__law_less : Ts := (.seq (.ret (.call 1 2 0 (.cons (.loc 0) (.cons (.call 0 2 0 (.cons (.loc 1) (.cons (.tup (.cons (.neg (.c (.int 1))) (.cons (.c (.int 1)) .nil))) .nil)) .nil) .nil)) .nil)) .nil)
def e__law_less : List Ent := [⟨f__law_scaled, none⟩, ⟨f__law_sum, none⟩]
def f__law_less : Fn := fnM 2 (t__law_less.m e__law_less)
def t__law_product : Ts := (.seq (.as (.nm 2) (.bin .Mult (.lst (.cons (.tup (.cons (.c (.int 0)) (.cons (.c (.int 1)) .nil))) .nil)) (.bin .Add (.blt .len (.cons (.loc 0) .nil)) (.blt .len (.cons (.loc 1) .nil))))) (.seq (.for (.rng1 (.cons (.blt .len (.cons (.loc 0) .nil)) .nil)) (.nm 3) (.seq (.for (.rng1 (.cons (.blt .len (.cons (.loc 1) .nil)) .nil)) (.nm 4) (.seq (.as (.sub (.loc 2) (.bin .Add (.loc 3) (.loc 4))) (.call 1 2 0 (.cons (.idx (.loc 2) (.bin .Add (.loc 3) (.loc 4))) (.cons (.call 0 2 0 (.cons (.idx (.loc 0) (.loc 3)) (.cons (.idx (.loc 1) (.loc 4)) .nil)) .nil) .nil)) .nil)) .nil)) .nil)) (.seq (.ret (.call 2 1 0 (.cons (.loc 2) .nil) .nil)) .nil)))
def e__law_product : List Ent := [⟨f__law_times, none⟩, ⟨f__law_plus, none⟩, ⟨f__law_trim, none⟩]
def f__law_product : Fn := fnM 5 (t__law_product.m e__law_product)
def t__law_parted : Ts := (.seq (.par [2, 3] (.cons (.blt .list (.cons (.loc 0) .nil)) (.cons (.bin .Mult (.lst (.cons (.tup (.cons (.c (.int 0)) (.cons (.c (.int 1)) .nil))) .nil)) (.blt .max (.cons (.bin .Add (.bin .Sub (.blt .len (.cons (.loc 0) .nil)) (.blt .len (.cons (.loc 1) .nil))) (.c (.int 1))) (.cons (.c (.int 0)) .nil)))) .nil))) (.seq (.for (.rng3 (.cons (.bin .Sub (.blt .len (.cons (.loc 0) .nil)) (.blt .len (.cons (.loc 1) .nil))) (.cons (.neg (.c (.int 1))) (.cons (.neg (.c (.int 1))) .nil)))) (.nm 4) (.seq (.as (.nm 5) (.call 0 2 0 (.cons (.idx (.loc 2) (.bin .Sub (.bin .Add (.loc 4) (.blt .len (.cons (.loc 1) .nil))) (.c (.int 1)))) (.cons (.idx (.loc 1) (.bin .Sub (.blt .len (.cons (.loc 1) .nil)) (.c (.int 1)))) .nil)) .nil)) (.seq (.as (.sub (.loc 3) (.loc 4)) (.loc 5)) (.seq (.for (.rng1 (.cons (.blt .len (.cons (.loc 1) .nil)) .nil)) (.nm 6) (.seq (.as (.sub (.loc 2) (.bin .Add (.loc 4) (.loc 6))) (.call 2 2 0 (.cons (.idx (.loc 2) (.bin .Add (.loc 4) (.loc 6))) (.cons (.call 1 2 0 (.cons (.loc 5) (.cons (.idx (.loc 1) (.loc 6)) .nil)) .nil) .nil)) .nil)) .nil)) .nil)))) (.seq (.ret (.tup (.cons (.call 3 1 0 (.cons (.loc 3) .nil) .nil) (.cons (.call 3 1 0 (.cons (.loc 2) .nil) .nil) .nil)))) .nil)))
def e__law_parted : List Ent := [⟨f__law_over, none⟩, ⟨f__law_times, none⟩, ⟨f__law_minus, none⟩, ⟨f__law_trim, none⟩]
def f__law_parted : Fn := fnM 7 (t__law_parted.m e__law_parted)
def t__law_low : Ts := (.seq (.as (.nm 1) (.comp [2] (.seq (.loc 0)) (.nm 2) (.tb (.cmp .NotEq (.idx (.loc 2) (.c (.int 0))) (.c (.int 0)))) (.loc 2))) (.seq (.ret (.call 1 2 0 (.cons (.loc 0) (.cons (.call 0 2 0 (.cons (.tup (.cons (.c (.int 1)) (.cons (.c (.int 1)) .nil))) (.cons (.idx (.loc 1) (.c (.int 0))) .nil)) .nil) .nil)) .nil)) .nil))
def e__law_low : List Ent := [⟨f__law_over, none⟩, ⟨f__law_scaled, none⟩]
def f__law_low : Fn := fnM 3 (t__law_low.m e__law_low)
def t__law_divisor : Ts := (.seq (.for (.rng1 (.cons (.bin .Add (.bin .Add (.blt .len (.cons (.loc 0) .nil)) (.blt .len (.cons (.loc 1) .nil))) (.c (.int 2))) .nil)) (.nm 2) (.seq (.ite (.tb (.cmp .Eq (.loc 1) (.tup .nil))) (.seq .bk .nil) .nil) (.seq (.par [0, 1] (.cons (.loc 1) (.cons (.idx (.call 0 2 0 (.cons (.loc 0) (.cons (.loc 1) .nil)) .nil) (.c (.int 1))) .nil))) .nil))) (.seq (.ret (.call 1 1 0 (.cons (.loc 0) .nil) .nil)) .nil))
def e__law_divisor : List Ent := [⟨f__law_parted, none⟩, ⟨f__law_low, none⟩]
def f__law_divisor : Fn := fnM 3 (t__law_divisor.m e__law_divisor)
def t__law_bent : Ts := (.seq (.as (.nm 1) (.lst (.cons (.tup (.cons (.c (.int 1)) (.cons (.c (.int 1)) .nil))) .nil))) (.seq (.for (.seq (.revL (.loc 0))) (.nm 2) (.seq (.as (.nm 3) (.bin .Add (.loc 1) (.lst (.cons (.tup (.cons (.c (.int 0)) (.cons (.c (.int 1)) .nil))) .nil)))) (.seq (.as (.nm 4) (.bin .Sub (.blt .len (.cons (.loc 3) .nil)) (.c (.int 1)))) (.seq (.as (.nm 1) (.comp [5] (.rng1 (.cons (.bin .Add (.loc 4) (.c (.int 1))) .nil)) (.nm 5) .yes (.call 1 2 0 (.cons (.idx (.loc 3) (.loc 5)) (.cons (.call 0 2 0 (.cons (.loc 2) (.cons (.idx (.loc 3) (.bin .Sub (.loc 4) (.loc 5))) .nil)) .nil) .nil)) .nil))) .nil)))) (.seq (.ret (.call 2 1 0 (.cons (.loc 1) .nil) .nil)) .nil)))
def e__law_bent : List Ent := [⟨f__law_times, none⟩, ⟨f__law_plus, none⟩, ⟨f__law_trim, none⟩]
def f__law_bent : Fn := fnM 6 (t__law_bent.m e__law_bent)
def t__law_bend : Ts := (.seq (.ret (.call 0 2 0 (.cons (.loc 0) (.cons (.lst (.cons (.tup (.cons (.c (.int 1)) (.cons (.c (.int 2)) .nil))) (.cons (.tup (.cons (.neg (.c (.int 1))) (.cons (.c (.int 2)) .nil))) (.cons (.tup (.cons (.c (.int 1)) (.cons (.c (.int 3)) .nil))) (.cons (.tup (.cons (.neg (.c (.int 2))) (.cons (.c (.int 3)) .nil))) (.cons (.tup (.cons (.c (.int 0)) (.cons (.c (.int 1)) .nil))) (.cons (.tup (.cons (.c (.int 3)) (.cons (.c (.int 4)) .nil))) (.cons (.tup (.cons (.neg (.c (.int 1))) (.cons (.c (.int 4)) .nil))) (.cons (.tup (.cons (.neg (.c (.int 3))) (.cons (.c (.int 5)) .nil))) (.cons (.tup (.cons (.c (.int 1)) (.cons (.c (.int 5)) .nil))) .nil)))))))))) .nil)) .nil)) .nil)
def e__law_bend : List Ent := [⟨f__law_one_of, none⟩]
def f__law_bend : Fn := fnM 1 (t__law_bend.m e__law_bend)
def t__law_calm : Ts := (.seq (.as (.nm 2) (.lst .nil)) (.seq (.for (.rng1 (.cons (.call 0 2 0 (.cons (.loc 0) (.cons (.bin .Add (.loc 1) (.c (.int 1))) .nil)) .nil) .nil)) (.nm 3) (.seq (.ex (.app (.loc 2) (.cons (.call 1 1 0 (.cons (.loc 0) .nil) .nil) .nil))) .nil)) (.seq (.ite (.and (.tb (.cmp .NotEq (.loc 2) (.lst .nil))) (.tb (.cmp .Eq (.idx (.idx (.loc 2) (.c (.int 0))) (.c (.int 0))) (.c (.int 0))))) (.seq (.as (.sub (.loc 2) (.c (.int 0))) (.tup (.cons (.c (.int 1)) (.cons (.c (.int 2)) .nil)))) .nil) .nil) (.seq (.ret (.call 2 1 0 (.cons (.loc 2) .nil) .nil)) .nil))))
def e__law_calm : List Ent := [⟨f__law_pull, none⟩, ⟨f__law_bend, none⟩, ⟨f__law_bent, none⟩]
def f__law_calm : Fn := fnM 4 (t__law_calm.m e__law_calm)
def t__law_whole_row : Ts := (.seq (.ret (.blt .tuple (.cons (.comp [1] (.seq (.loc 0)) (.nm 1) .yes (.tup (.cons (.loc 1) (.cons (.c (.int 1)) .nil)))) .nil))) .nil)
def e__law_whole_row : List Ent := []
def f__law_whole_row : Fn := fnM 2 (t__law_whole_row.m e__law_whole_row)
def t__law_wild : Ts := (.seq (.ite (.tb (.cmp .Gt (.call 0 2 0 (.cons (.loc 0) (.cons (.c (.int 4)) .nil)) .nil) (.c (.int 0)))) (.seq (.ret (.call 2 1 0 (.cons (.call 1 2 0 (.cons (.loc 0) (.cons (.lst (.cons (.tup (.cons (.c (.int 1)) (.cons (.neg (.c (.int 2))) .nil))) (.cons (.tup (.cons (.c (.int 1)) (.cons (.neg (.c (.int 1))) .nil))) (.cons (.tup (.cons (.c (.int 1)) (.cons (.c (.int 1)) .nil))) (.cons (.tup (.cons (.c (.int 1)) (.cons (.neg (.c (.int 3))) .nil))) (.cons (.tup (.cons (.c (.int 1)) (.cons (.c (.int 2)) .nil))) .nil)))))) .nil)) .nil) .nil) .nil)) .nil) .nil) (.seq (.ret (.call 2 1 0 (.cons (.call 1 2 0 (.cons (.loc 0) (.cons (.lst (.cons (.tup (.cons (.c (.int 1)) (.cons (.c (.int 0)) (.cons (.c (.int 2)) .nil)))) (.cons (.tup (.cons (.c (.int 1)) (.cons (.c (.int 0)) (.cons (.c (.int 1)) .nil)))) (.cons (.tup (.cons (.c (.int 1)) (.cons (.neg (.c (.int 1))) (.cons (.c (.int 1)) .nil)))) (.cons (.tup (.cons (.c (.int 1)) (.cons (.neg (.c (.int 2))) (.cons (.c (.int 2)) .nil)))) .nil))))) .nil)) .nil) .nil) .nil)) .nil))
def e__law_wild : List Ent := [⟨f__law_pull, none⟩, ⟨f__law_one_of, none⟩, ⟨f__law_whole_row, none⟩]
def f__law_wild : Fn := fnM 1 (t__law_wild.m e__law_wild)
def t__law_drawn : Ts := (.seq (.par [2, 3] (.cons (.call 0 2 0 (.cons (.loc 0) (.cons (.bin .Add (.loc 1) (.c (.int 1))) .nil)) .nil) (.cons (.lst .nil) .nil))) (.seq (.for (.rng1 (.cons (.loc 2) .nil)) (.nm 4) (.seq (.ex (.app (.loc 3) (.cons (.ite (.tb (.cmp .Lt (.loc 4) (.bin .Sub (.loc 2) (.c (.int 1))))) (.call 1 1 0 (.cons (.loc 0) .nil) .nil) (.call 2 1 0 (.cons (.loc 0) .nil) .nil)) .nil))) .nil)) (.seq (.ret (.blt .tuple (.cons (.loc 3) .nil))) .nil)))
def e__law_drawn : List Ent := [⟨f__law_pull, none⟩, ⟨f__law_part, none⟩, ⟨f__law_some, none⟩]
def f__law_drawn : Fn := fnM 5 (t__law_drawn.m e__law_drawn)
def t__law_led : Ts := (.seq (.ret (.call 1 1 0 (.cons (.bin .Add (.tup (.cons (.tup (.cons (.c (.int 1)) (.cons (.c (.int 1)) .nil))) .nil)) (.call 0 2 0 (.cons (.loc 0) (.cons (.loc 1) .nil)) .nil)) .nil) .nil)) .nil)
def e__law_led : List Ent := [⟨f__law_drawn, none⟩, ⟨f__law_trim, none⟩]
def f__law_led : Fn := fnM 2 (t__law_led.m e__law_led)
def t__law_later : Ts := (.seq (.ret (.ite (.tb (.cmp .NotEq (.loc 0) (.tup .nil))) (.bin .Add (.bin .Mult (.tup (.cons (.tup (.cons (.c (.int 0)) (.cons (.c (.int 1)) .nil))) .nil)) (.loc 1)) (.loc 0)) (.tup .nil))) .nil)
def e__law_later : List Ent := []
def f__law_later : Fn := fnM 2 (t__law_later.m e__law_later)
def t__law_base : Ts := (.seq (.as (.tup 4 (.cons (.nm 2) (.cons (.nm 3) (.cons (.nm 4) (.cons (.nm 5) .nil))))) (.tup (.cons (.loc 0) (.cons (.loc 1) (.cons (.tup (.cons (.tup (.cons (.c (.int 1)) (.cons (.c (.int 1)) .nil))) .nil)) (.cons (.tup .nil) .nil)))))) (.seq (.for (.rng1 (.cons (.bin .Add (.bin .Add (.blt .len (.cons (.loc 0) .nil)) (.blt .len (.cons (.loc 1) .nil))) (.c (.int 2))) .nil)) (.nm 6) (.seq (.ite (.tb (.cmp .Eq (.loc 3) (.tup .nil))) (.seq .bk .nil) .nil) (.seq (.as (.tup 2 (.cons (.nm 7) (.cons (.nm 8) .nil))) (.call 0 2 0 (.cons (.loc 2) (.cons (.loc 3) .nil)) .nil)) (.seq (.par [2, 3] (.cons (.loc 3) (.cons (.loc 8) .nil))) (.seq (.par [4, 5] (.cons (.loc 5) (.cons (.call 2 2 0 (.cons (.loc 4) (.cons (.call 1 2 0 (.cons (.loc 7) (.cons (.loc 5) .nil)) .nil) .nil)) .nil) .nil))) .nil))))) (.seq (.as (.nm 9) (.idx (.call 0 2 0 (.cons (.call 4 2 0 (.cons (.loc 4) (.cons (.call 3 2 0 (.cons (.tup (.cons (.c (.int 1)) (.cons (.c (.int 1)) .nil))) (.cons (.idx (.loc 2) (.c (.int 0))) .nil)) .nil) .nil)) .nil) (.cons (.loc 1) .nil)) .nil) (.c (.int 1)))) (.seq (.ret (.tup (.cons (.loc 9) (.cons (.idx (.call 0 2 0 (.cons (.call 2 2 0 (.cons (.tup (.cons (.tup (.cons (.c (.int 1)) (.cons (.c (.int 1)) .nil))) .nil)) (.cons (.call 1 2 0 (.cons (.loc 0) (.cons (.loc 9) .nil)) .nil) .nil)) .nil) (.cons (.loc 1) .nil)) .nil) (.c (.int 0))) .nil)))) .nil))))
def e__law_base : List Ent := [⟨f__law_parted, none⟩, ⟨f__law_product, none⟩, ⟨f__law_less, none⟩, ⟨f__law_over, none⟩, ⟨f__law_scaled, none⟩]
def f__law_base : Fn := fnM 10 (t__law_base.m e__law_base)
def t__law_coprime : Ts := (.seq (.for (.rng1 (.cons (.bin .Add (.blt .len (.cons (.loc 1) .nil)) (.c (.int 1))) .nil)) (.nm 2) (.seq (.as (.nm 3) (.call 0 2 0 (.cons (.loc 0) (.cons (.loc 1) .nil)) .nil)) (.seq (.ite (.tb (.cmp .Eq (.blt .len (.cons (.loc 3) .nil)) (.c (.int 1)))) (.seq .bk .nil) .nil) (.seq (.as (.nm 1) (.idx (.call 1 2 0 (.cons (.loc 1) (.cons (.loc 3) .nil)) .nil) (.c (.int 0)))) .nil)))) (.seq (.ret (.loc 1)) .nil))
def e__law_coprime : List Ent := [⟨f__law_divisor, none⟩, ⟨f__law_parted, none⟩]
def f__law_coprime : Fn := fnM 4 (t__law_coprime.m e__law_coprime)
def t__law_core_5 : Ts := (.seq (.ret (.tup (.cons (.loc 3) (.cons (.call 6 2 0 (.cons (.loc 3) (.cons (.loc 4) .nil)) .nil) .nil)))) .nil)
def t__law_core_4 : Ts := (.seq (.for (.rng1 (.cons (.call 0 2 0 (.cons (.loc 0) (.cons (.bin .Add (.loc 1) (.c (.int 1))) .nil)) .nil) .nil)) (.nm 5) (.seq (.as (.nm 4) (.call 3 2 0 (.cons (.loc 4) (.cons (.ite (.tb (.cmp .Gt (.call 0 2 0 (.cons (.loc 0) (.cons (.c (.int 3)) .nil)) .nil) (.c (.int 0)))) (.call 2 1 0 (.cons (.loc 0) .nil) .nil) (.call 4 2 0 (.cons (.loc 0) (.cons (.c (.int 1)) .nil)) .nil)) .nil)) .nil)) .nil)) t__law_core_5)
def t__law_core_3 : Ts := (.seq (.par [3, 4] (.cons (.call 5 2 0 (.cons (.loc 3) (.cons (.ite (.tb (.cmp .Eq (.call 0 2 0 (.cons (.loc 0) (.cons (.c (.int 4)) .nil)) .nil) (.c (.int 0)))) (.c (.int 2)) (.c (.int 1))) .nil)) .nil) (.cons (.tup (.cons (.tup (.cons (.c (.int 1)) (.cons (.c (.int 1)) .nil))) .nil)) .nil))) t__law_core_4)
def t__law_core_2 : Ts := (.seq (.ite (.tb (.cmp .Eq (.loc 2) (.c (.int 1)))) (.seq (.as (.nm 3) (.call 3 2 0 (.cons (.loc 3) (.cons (.call 4 2 0 (.cons (.loc 0) (.cons (.c (.int 1)) .nil)) .nil) .nil)) .nil)) .nil) .nil) t__law_core_3)
def t__law_core_1 : Ts := (.seq (.ite (.tb (.cmp .Eq (.loc 2) (.c (.int 0)))) (.seq (.as (.nm 3) (.call 3 2 0 (.cons (.loc 3) (.cons (.call 2 1 0 (.cons (.loc 0) .nil) .nil) .nil)) .nil)) .nil) .nil) t__law_core_2)
def t__law_core : Ts := (.seq (.par [2, 3] (.cons (.call 0 2 0 (.cons (.loc 0) (.cons (.c (.int 4)) .nil)) .nil) (.cons (.tup (.cons (.call 1 1 0 (.cons (.loc 0) .nil) .nil) .nil)) .nil))) t__law_core_1)
def e__law_core : List Ent := [⟨f__law_pull, none⟩, ⟨f__law_some, none⟩, ⟨f__law_wild, none⟩, ⟨f__law_product, none⟩, ⟨f__law_led, none⟩, ⟨f__law_later, none⟩, ⟨f__law_coprime, none⟩]
def f__law_core : Fn := fnM 6 (t__law_core.m e__law_core)
def t__law_hidden_2 : Ts := (.seq (.ret (.ite (.tb (.cmp .Eq (.loc 1) (.c (.int 2)))) (.tup (.cons (.call 1 2 0 (.cons (.loc 0) (.cons (.c (.int 1)) .nil)) .nil) (.cons (.c (.bl true)) .nil))) (.tup (.cons (.call 2 1 0 (.cons (.loc 0) .nil) .nil) (.cons (.c (.bl false)) .nil))))) .nil)
def t__law_hidden_1 : Ts := (.seq (.ite (.tb (.cmp .Lt (.loc 1) (.c (.int 2)))) (.seq (.ret (.tup (.cons (.tup (.cons (.tup (.cons (.c (.int 1)) (.cons (.c (.int 1)) .nil))) .nil)) (.cons (.c (.bl true)) .nil)))) .nil) .nil) t__law_hidden_2)
def t__law_hidden : Ts := (.seq (.as (.nm 1) (.call 0 2 0 (.cons (.loc 0) (.cons (.c (.int 4)) .nil)) .nil)) t__law_hidden_1)
def e__law_hidden : List Ent := [⟨f__law_pull, none⟩, ⟨f__law_calm, none⟩, ⟨f__law_wild, none⟩]
def f__law_hidden : Fn := fnM 2 (t__law_hidden.m e__law_hidden)
def t__law_machine : Ts := (.seq (.ret (.tup (.cons (.call 0 2 0 (.cons (.idx (.loc 0) (.c (.int 0))) (.cons (.loc 1) .nil)) .nil) (.cons (.call 0 2 0 (.cons (.idx (.loc 0) (.c (.int 1))) (.cons (.loc 1) .nil)) .nil) .nil)))) .nil)
def e__law_machine : List Ent := [⟨f__law_product, none⟩]
def f__law_machine : Fn := fnM 2 (t__law_machine.m e__law_machine)
def t__law_size : Ts := (.seq (.ret (.blt .max (.cons (.bin .Sub (.blt .len (.cons (.idx (.loc 0) (.c (.int 0))) .nil)) (.c (.int 1))) (.cons (.bin .Sub (.blt .len (.cons (.idx (.loc 0) (.c (.int 1))) .nil)) (.c (.int 1))) (.cons (.c (.int 0)) .nil))))) .nil)
def e__law_size : List Ent := []
def f__law_size : Fn := fnM 1 (t__law_size.m e__law_size)
def t__law_closed : Ts := (.seq (.as (.tup 2 (.cons (.nm 3) (.cons (.nm 4) .nil))) (.loc 0)) (.seq (.as (.tup 2 (.cons (.nm 5) (.cons (.nm 6) .nil))) (.call 0 2 0 (.cons (.loc 3) (.cons (.loc 4) .nil)) .nil)) (.seq (.as (.nm 7) (.idx (.call 2 2 0 (.cons (.call 1 2 0 (.cons (.loc 1) (.cons (.loc 5) .nil)) .nil) (.cons (.loc 4) .nil)) .nil) (.c (.int 1)))) (.seq (.as (.nm 8) (.idx (.call 2 2 0 (.cons (.call 3 2 0 (.cons (.loc 1) (.cons (.call 1 2 0 (.cons (.loc 3) (.cons (.loc 7) .nil)) .nil) .nil)) .nil) (.cons (.loc 4) .nil)) .nil) (.c (.int 0)))) (.seq (.ret (.tup (.cons (.call 4 2 0 (.cons (.loc 7) (.cons (.call 1 2 0 (.cons (.loc 4) (.cons (.loc 2) .nil)) .nil) .nil)) .nil) (.cons (.call 3 2 0 (.cons (.loc 8) (.cons (.call 1 2 0 (.cons (.loc 3) (.cons (.loc 2) .nil)) .nil) .nil)) .nil) .nil)))) .nil)))))
def e__law_closed : List Ent := [⟨f__law_base, none⟩, ⟨f__law_product, none⟩, ⟨f__law_parted, none⟩, ⟨f__law_less, none⟩, ⟨f__law_sum, none⟩]
def f__law_closed : Fn := fnM 9 (t__law_closed.m e__law_closed)
def t__law_run : Ts := (.seq (.as (.tup 4 (.cons (.tup 2 (.cons (.nm 5) (.cons (.nm 6) .nil))) (.cons (.tup 2 (.cons (.nm 7) (.cons (.nm 8) .nil))) (.cons (.nm 9) (.cons (.nm 10) .nil))))) (.tup (.cons (.loc 0) (.cons (.loc 1) (.cons (.lst .nil) (.cons (.lst .nil) .nil)))))) (.seq (.for (.rng1 (.cons (.loc 4) .nil)) (.nm 11) (.seq (.as (.nm 12) (.call 0 2 0 (.cons (.loc 2) (.cons (.loc 11) .nil)) .nil)) (.seq (.for (.rng2 (.cons (.c (.int 1)) (.cons (.bin .Add (.blt .min (.cons (.loc 11) (.cons (.bin .Sub (.blt .max (.cons (.blt .len (.cons (.loc 5) .nil)) (.cons (.blt .len (.cons (.loc 6) .nil)) .nil))) (.c (.int 1))) .nil))) (.c (.int 1))) .nil))) (.nm 13) (.seq (.as (.nm 12) (.call 2 2 0 (.cons (.loc 12) (.cons (.call 1 2 0 (.cons (.call 0 2 0 (.cons (.loc 5) (.cons (.loc 13) .nil)) .nil) (.cons (.idx (.loc 10) (.bin .Sub (.loc 11) (.loc 13))) .nil)) .nil) .nil)) .nil)) (.seq (.as (.nm 12) (.call 3 2 0 (.cons (.loc 12) (.cons (.call 1 2 0 (.cons (.call 0 2 0 (.cons (.loc 6) (.cons (.loc 13) .nil)) .nil) (.cons (.idx (.loc 9) (.bin .Sub (.loc 11) (.loc 13))) .nil)) .nil) .nil)) .nil)) .nil))) (.seq (.ex (.app (.loc 9) (.cons (.loc 12) .nil))) (.seq (.as (.nm 12) (.call 0 2 0 (.cons (.loc 3) (.cons (.loc 11) .nil)) .nil)) (.seq (.for (.rng1 (.cons (.bin .Add (.blt .min (.cons (.loc 11) (.cons (.bin .Sub (.blt .max (.cons (.blt .len (.cons (.loc 7) .nil)) (.cons (.blt .len (.cons (.loc 8) .nil)) .nil))) (.c (.int 1))) .nil))) (.c (.int 1))) .nil)) (.nm 13) (.seq (.as (.nm 12) (.call 3 2 0 (.cons (.loc 12) (.cons (.call 1 2 0 (.cons (.call 0 2 0 (.cons (.loc 7) (.cons (.loc 13) .nil)) .nil) (.cons (.idx (.loc 9) (.bin .Sub (.loc 11) (.loc 13))) .nil)) .nil) .nil)) .nil)) (.seq (.ite (.tb (.cmp .Gt (.loc 13) (.c (.int 0)))) (.seq (.as (.nm 12) (.call 3 2 0 (.cons (.loc 12) (.cons (.call 1 2 0 (.cons (.call 0 2 0 (.cons (.loc 8) (.cons (.loc 13) .nil)) .nil) (.cons (.idx (.loc 10) (.bin .Sub (.loc 11) (.loc 13))) .nil)) .nil) .nil)) .nil)) .nil) .nil) .nil))) (.seq (.ex (.app (.loc 10) (.cons (.loc 12) .nil))) .nil))))))) (.seq (.ret (.tup (.cons (.loc 9) (.cons (.loc 10) .nil)))) .nil)))
def e__law_run : List Ent := [⟨f__law_at, none⟩, ⟨f__law_times, none⟩, ⟨f__law_plus, none⟩, ⟨f__law_minus, none⟩]
def f__law_run : Fn := fnM 14 (t__law_run.m e__law_run)
def t__law_last : Ts := (.seq (.par [2, 3] (.cons (.bin .Add (.bin .Mult (.c (.int 3)) (.bin .Add (.call 0 1 0 (.cons (.loc 0) .nil) .nil) (.call 0 1 0 (.cons (.loc 1) .nil) .nil))) (.c (.int 4))) (.cons (.c (.int 0)) .nil))) (.seq (.as (.nm 4) (.lst .nil)) (.seq (.for (.rng1 (.cons (.call 0 1 0 (.cons (.loc 0) .nil) .nil) .nil)) (.nm 5) (.seq (.ex (.app (.loc 4) (.cons (.tup (.cons (.bin .Add (.bin .Mult (.tup (.cons (.tup (.cons (.c (.int 0)) (.cons (.c (.int 1)) .nil))) .nil)) (.loc 5)) (.tup (.cons (.tup (.cons (.c (.int 1)) (.cons (.c (.int 1)) .nil))) .nil))) (.cons (.tup .nil) .nil))) .nil))) .nil)) (.seq (.for (.rng1 (.cons (.call 0 1 0 (.cons (.loc 1) .nil) .nil) .nil)) (.nm 5) (.seq (.ex (.app (.loc 4) (.cons (.tup (.cons (.tup .nil) (.cons (.bin .Add (.bin .Mult (.tup (.cons (.tup (.cons (.c (.int 0)) (.cons (.c (.int 1)) .nil))) .nil)) (.loc 5)) (.tup (.cons (.tup (.cons (.c (.int 1)) (.cons (.c (.int 1)) .nil))) .nil))) .nil))) .nil))) .nil)) (.seq (.for (.seq (.loc 4)) (.tup 2 (.cons (.nm 6) (.cons (.nm 7) .nil))) (.seq (.as (.tup 2 (.cons (.nm 8) (.cons (.nm 9) .nil))) (.call 1 5 0 (.cons (.loc 0) (.cons (.loc 1) (.cons (.loc 6) (.cons (.loc 7) (.cons (.loc 2) .nil))))) .nil)) (.seq (.for (.rng1 (.cons (.loc 2) .nil)) (.nm 5) (.seq (.ite (.or (.tb (.cmp .NotEq (.idx (.idx (.loc 8) (.loc 5)) (.c (.int 0))) (.c (.int 0)))) (.tb (.cmp .NotEq (.idx (.idx (.loc 9) (.loc 5)) (.c (.int 0))) (.c (.int 0))))) (.seq (.as (.nm 3) (.blt .max (.cons (.loc 3) (.cons (.bin .Add (.loc 5) (.c (.int 1))) .nil)))) .nil) .nil) .nil)) .nil))) (.seq (.ret (.loc 3)) .nil))))))
def e__law_last : List Ent := [⟨f__law_size, none⟩, ⟨f__law_run, none⟩]
def f__law_last : Fn := fnM 10 (t__law_last.m e__law_last)
def t__law_right_10 : Ts := (.seq (.ret (.and (.cmp .Eq (.blt .repr (.cons (.loc 8) .nil)) (.blt .repr (.cons (.bin .Add (.call 11 1 0 (.cons (.loc 6) .nil) .nil) (.call 11 1 0 (.cons (.loc 4) .nil) .nil)) .nil))) (.cmp .Eq (.loc 8) (.call 12 2 0 (.cons (.loc 6) (.cons (.loc 4) .nil)) .nil)))) .nil)
def t__law_right_9 : Ts := (.seq (.ite (.tb (.cmp .NotEq (.loc 7) (.tup (.cons (.tup (.cons (.c (.int 1)) (.cons (.c (.int 1)) .nil))) .nil)))) (.seq (.ret (.cmp .Is (.loc 8) (.c .non))) .nil) .nil) t__law_right_10)
def t__law_right_8 : Ts := (.seq (.ite (.tb (.cmp .NotEq (.blt .repr (.cons (.call 10 0 2 .nil (.cons (.loc 4) (.cons (.loc 6) .nil))) .nil)) (.blt .repr (.cons (.loc 8) .nil)))) (.seq (.ret (.c (.bl false))) .nil) .nil) t__law_right_9)
def t__law_right_7 : Ts := (.seq (.as (.nm 8) (.call 9 2 0 (.cons (.loc 6) (.cons (.loc 4) .nil)) .nil)) t__law_right_8)
def t__law_right_6 : Ts := (.seq (.ite (.tb (.cmp .NotEq (.blt .repr (.cons (.call 8 2 0 (.cons (.loc 6) (.cons (.loc 4) .nil)) .nil) .nil)) (.blt .repr (.cons (.loc 7) .nil)))) (.seq (.ret (.c (.bl false))) .nil) .nil) t__law_right_7)
def t__law_right_5 : Ts := (.seq (.as (.nm 7) (.call 7 2 0 (.cons (.loc 3) (.cons (.loc 5) .nil)) .nil)) t__law_right_6)
def t__law_right_4 : Ts := (.seq (.as (.nm 6) (.call 6 2 0 (.cons (.loc 1) (.cons (.loc 5) .nil)) .nil)) t__law_right_5)
def t__law_right_3 : Ts := (.seq (.ite (.tb (.cmp .Eq (.loc 2) (.c (.int 1)))) (.seq (.as (.nm 5) (.idx (.call 5 1 0 (.cons (.loc 0) .nil) .nil) (.c (.int 0)))) .nil) .nil) t__law_right_4)
def t__law_right_2 : Ts := (.seq (.par [4, 5] (.cons (.call 4 3 0 (.cons (.loc 1) (.cons (.loc 3) (.cons (.call 3 2 0 (.cons (.loc 0) (.cons (.c (.int 1)) .nil)) .nil) .nil))) .nil) (.cons (.tup (.cons (.tup (.cons (.c (.int 1)) (.cons (.c (.int 1)) .nil))) .nil)) .nil))) t__law_right_3)
def t__law_right_1 : Ts := (.seq (.as (.nm 3) (.ite (.tb (.cmp .Eq (.loc 2) (.c (.int 0)))) (.call 2 2 0 (.cons (.loc 0) (.cons (.c (.int 1)) .nil)) .nil) (.tup (.cons (.tup (.cons (.c (.int 1)) (.cons (.c (.int 1)) .nil))) .nil)))) t__law_right_2)
def t__law_right : Ts := (.seq (.par [1, 2] (.cons (.call 0 2 0 (.cons (.loc 0) (.cons (.c (.int 1)) .nil)) .nil) (.cons (.call 1 2 0 (.cons (.loc 0) (.cons (.c (.int 5)) .nil)) .nil) .nil))) t__law_right_1)
def e__law_right : List Ent := [⟨f__law_core, none⟩, ⟨f__law_pull, none⟩, ⟨f__law_led, none⟩, ⟨f__law_drawn, none⟩, ⟨f__law_closed, none⟩, ⟨f__law_hidden, none⟩, ⟨f__law_machine, none⟩, ⟨f__law_product, none⟩, ⟨f_closing_row, none⟩, ⟨f_last_beat, none⟩, ⟨f_last_beat, some [1, 0]⟩, ⟨f__law_size, none⟩, ⟨f__law_last, none⟩]
def f__law_right : Fn := fnM 9 (t__law_right.m e__law_right)
def t_law : Ts := (.seq (.ret (.blt .all (.cons (.comp [1] (.rng1 (.cons (.blt .max (.cons (.c (.int 1)) (.cons (.blt .min (.cons (.blt .len (.cons (.loc 0) .nil)) (.cons (.c (.int 1)) .nil))) .nil))) .nil)) (.nm 1) .yes (.call 1 1 0 (.cons (.call 0 2 0 (.cons (.loc 0) (.cons (.loc 1) .nil)) .nil) .nil) .nil)) .nil))) .nil)
def e_law : List Ent := [⟨f__law_reel, none⟩, ⟨f__law_right, none⟩]
def f_law : Fn := fnM 2 (t_law.m e_law)
end Pg
namespace Pe
open PySem
/-! ### what a meaning gives -/
section
variable {α β : Type} {st st1 st2 : Store} {Q Q' : α → Store → Prop}
@[irreducible] def Rn {α : Type} (r : Res α) (Q : α → Store → Prop) : Prop := match r with
  | .ok a st => Q a st
  | .bad => False
@[simp] theorem rn_ok {a : α} : Rn (.ok a st) Q ↔ Q a st := by
  unfold Rn
  exact Iff.rfl
@[simp] theorem rn_bad : Rn (.bad : Res α) Q ↔ False := by
  unfold Rn
  exact Iff.rfl
@[simp] theorem rn_bind {r : Res α} {f : α → Store → Res β} {Q : β → Store → Prop} : Rn (r.bind f) Q ↔ Rn r fun a st => Rn (f a st) Q := by
  cases r with
  | ok a st => rw [Res.bind_ok, rn_ok]
  | bad => rw [Res.bind_bad, rn_bad, rn_bad]
@[simp] theorem rn_ite {c : Prop} [Decidable c] {a b : Res α} : Rn (if c then a else b) Q ↔ if c then Rn a Q else Rn b Q := by
  split <;> exact Iff.rfl
theorem Rn.imp {r : Res α} (h : Rn r Q) (f : ∀ a st, Q a st → Q' a st) : Rn r Q' := by
  cases r with
  | ok a st => exact rn_ok.mpr (f a st (rn_ok.mp h))
  | bad => exact (rn_bad.mp h).elim
theorem Rn.and {r : Res α} (h : Rn r Q) (h2 : Rn r Q') : Rn r fun a st => Q a st ∧ Q' a st := by
  cases r with
  | ok a st => exact rn_ok.mpr ⟨rn_ok.mp h, rn_ok.mp h2⟩
  | bad => exact (rn_bad.mp h).elim
theorem Rn.ex {r : Res α} (h : Rn r Q) : ∃ a st, r = .ok a st ∧ Q a st := by
  cases r with
  | ok a st => exact ⟨a, st, rfl, rn_ok.mp h⟩
  | bad => exact (rn_bad.mp h).elim
/-- all but the objects of R stay -/
structure Up (R : List Nat) (st st' : Store) : Prop where
  le : st.length ≤ st'.length
  keep : ∀ n, n < st.length → n ∉ R → st'[n]? = st[n]?
theorem Up.refl {R : List Nat} : Up R st st := ⟨Nat.le_refl _, fun _ _ _ => rfl⟩
theorem Up.trans {R : List Nat} (a : Up R st st1) (b : Up R st1 st2) : Up R st st2 := ⟨Nat.le_trans a.le b.le, fun n h1 h2 => (b.keep n (Nat.lt_of_lt_of_le h1 a.le) h2).trans (a.keep n h1 h2)⟩
theorem Up.weak {R : List Nat} (a : Up [] st st1) : Up R st st1 := ⟨a.le, fun n h _ => a.keep n h List.not_mem_nil⟩
theorem Up.app {R : List Nat} (g : Store) : Up R st (st ++ g) := ⟨by simp, fun n h _ => List.getElem?_append_left h⟩
theorem Up.get {R : List Nat} (a : Up R st st1) {n : Nat} {o : Ob} (h : st[n]? = some o) (hn : n ∉ R) : st1[n]? = some o := by
  rw [a.keep n (by
    by_cases z : n < st.length
    · exact z
    · rw [List.getElem?_eq_none (by omega)] at h; cases h) hn]
  exact h
theorem Up.lst {R : List Nat} (a : Up R st st1) {n : Nat} {xs : List PV} (h : listAt st n = some xs) (hn : n ∉ R) : listAt st1 n = some xs := by
  unfold listAt at h ⊢
  cases e : st[n]? with
  | none => rw [e] at h; cases h
  | some o => rw [a.get e hn]; rw [e] at h; exact h
theorem Up.set {R : List Nat} {n : Nat} {o : Ob} (h : n ∈ R) : Up R st (st.set n o) := ⟨by simp, fun m _ hm => by rw [List.getElem?_set_ne (show n ≠ m from fun e => hm (e ▸ h))]⟩
/-- an object made behind st may change -/
theorem Up.late {R : List Nat} {n : Nat} {o : Ob} (a : Up R st st1) (h : st.length ≤ n) : Up R st (st1.set n o) := ⟨by simpa using a.le, fun m hm hr => by rw [List.getElem?_set_ne (by omega)]; exact a.keep m hm hr⟩
theorem Up.lt {R : List Nat} (a : Up R st st1) {n : Nat} (h : n < st.length) : n < st1.length := Nat.lt_of_lt_of_le h a.le
theorem lt_of_get {n : Nat} {o : Ob} (h : st[n]? = some o) : n < st.length := by
  by_cases z : n < st.length
  · exact z
  · rw [List.getElem?_eq_none (by omega)] at h; cases h
theorem lt_of_list {n : Nat} {xs : List PV} (h : listAt st n = some xs) : n < st.length := by
  unfold listAt at h
  cases e : st[n]? with
  | none => rw [e] at h; cases h
  | some o => exact lt_of_get e
@[simp] theorem get_new {o : Ob} : (st ++ [o])[st.length]? = some o := by simp
@[simp] theorem set_new {o o' : Ob} : (st ++ [o]).set st.length o' = st ++ [o'] := by simp
@[simp] theorem listAt_new {xs : List PV} : listAt (st ++ [Ob.lst xs]) st.length = some xs := by unfold listAt; rw [get_new]
theorem listAt_of {n : Nat} {xs : List PV} (h : st[n]? = some (.lst xs)) : listAt st n = some xs := by unfold listAt; rw [h]
end
/-! ### the meanings' rules, for simp -/
section
variable {cs : List Ent} {ρ : Env} {st : Store}
@[simp] theorem te_bad : Te.m cs .bad = xBad := id rfl
@[simp] theorem te_loc {i : Nat} : Te.m cs (.loc i) = xLoc i := id rfl
@[simp] theorem te_c {p : PV} : Te.m cs (.c p) = xC p := id rfl
@[simp] theorem te_bin {op : Operator} {a b : Te} : Te.m cs (.bin op a b) = xBin (gBin op) (a.m cs) (b.m cs) := id rfl
@[simp] theorem te_neg {a : Te} : Te.m cs (.neg a) = xUn gNeg (a.m cs) := id rfl
@[simp] theorem te_not {a : Te} : Te.m cs (.not a) = xNot (a.m cs) := id rfl
@[simp] theorem te_cmp {op : CmpOp} {a b : Te} : Te.m cs (.cmp op a b) = xBin (gOp op) (a.m cs) (b.m cs) := id rfl
@[simp] theorem te_chn {op op' : CmpOp} {a b c : Te} : Te.m cs (.chn op op' a b c) = xChain (gOp op) (gOp op') (a.m cs) (b.m cs) (c.m cs) := id rfl
@[simp] theorem te_and {a b : Te} : Te.m cs (.and a b) = xAnd (a.m cs) (b.m cs) := id rfl
@[simp] theorem te_or {a b : Te} : Te.m cs (.or a b) = xOr (a.m cs) (b.m cs) := id rfl
@[simp] theorem te_ite {t : Tt} {a b : Te} : Te.m cs (.ite t a b) = xIte (t.m cs) (a.m cs) (b.m cs) := id rfl
@[simp] theorem te_tup {l : Tl} : Te.m cs (.tup l) = xTup (l.m cs) := id rfl
@[simp] theorem te_lst {l : Tl} : Te.m cs (.lst l) = xLst (l.m cs) := id rfl
@[simp] theorem te_idx {a b : Te} : Te.m cs (.idx a b) = xBin gIdx (a.m cs) (b.m cs) := id rfl
@[simp] theorem te_cut {a : Te} {lo hi : To} : Te.m cs (.cut a lo hi) = xCut (a.m cs) (lo.m cs) (hi.m cs) := id rfl
@[simp] theorem te_revL {a : Te} : Te.m cs (.revL a) = xRevL (a.m cs) := id rfl
theorem te_call {j np nk : Nat} {l k : Tl} {E : Ent} (h : cs[j]? = some E) : Te.m cs (.call j np nk l k) = xCallE E np nk (l.m cs) (k.m cs) := by
  show (match cs[j]? with
    | some E => xCallE E np nk (l.m cs) (k.m cs)
    | none => xBad) = _
  rw [h]
@[simp] theorem te_call0 {E : Ent} {r : List Ent} {np nk : Nat} {l k : Tl} : Te.m (E :: r) (.call 0 np nk l k) = xCallE E np nk (l.m (E :: r)) (k.m (E :: r)) := id rfl
@[simp] theorem te_call1 {E E1 : Ent} {r : List Ent} {np nk : Nat} {l k : Tl} : Te.m (E1 :: E :: r) (.call 1 np nk l k) = xCallE E np nk (l.m (E1 :: E :: r)) (k.m (E1 :: E :: r)) := id rfl
@[simp] theorem te_call2 {E E1 E2 : Ent} {r : List Ent} {np nk : Nat} {l k : Tl} : Te.m (E1 :: E2 :: E :: r) (.call 2 np nk l k) = xCallE E np nk (l.m (E1 :: E2 :: E :: r)) (k.m (E1 :: E2 :: E :: r)) := id rfl
@[simp] theorem te_call3 {E E1 E2 E3 : Ent} {r : List Ent} {np nk : Nat} {l k : Tl} : Te.m (E1 :: E2 :: E3 :: E :: r) (.call 3 np nk l k) = xCallE E np nk (l.m (E1 :: E2 :: E3 :: E :: r)) (k.m (E1 :: E2 :: E3 :: E :: r)) := id rfl
@[simp] theorem te_blt {b : Blt} {l : Tl} : Te.m cs (.blt b l) = xCall b.fn (l.m cs) := id rfl
@[simp] theorem te_gcd {l : Tl} : Te.m cs (.gcd l) = xCall gGcd (l.m cs) := id rfl
@[simp] theorem te_isi {T : String} {a : Te} : Te.m cs (.isi T a) = xUn (gIsi T) (a.m cs) := id rfl
@[simp] theorem te_comp {vs : List Nat} {it : Ti} {g : Tgt} {t : Tt} {e : Te} : Te.m cs (.comp vs it g t e) = xComp vs (it.m cs) (g.m cs) (t.m cs) (e.m cs) := id rfl
@[simp] theorem te_app {o : Te} {l : Tl} : Te.m cs (.app o l) = xApp (o.m cs) (l.m cs) := id rfl
@[simp] theorem te_pop {o : Te} : Te.m cs (.pop o) = xPop (o.m cs) := id rfl
@[simp] theorem tt_tb {a : Te} : Tt.m cs (.tb a) = xTb (a.m cs) := id rfl
@[simp] theorem tt_tv {a : Te} : Tt.m cs (.tv a) = xTv (a.m cs) := id rfl
@[simp] theorem tt_not {t : Tt} : Tt.m cs (.not t) = xNotT (t.m cs) := id rfl
@[simp] theorem tt_and {a b : Tt} : Tt.m cs (.and a b) = xAndT (a.m cs) (b.m cs) := id rfl
@[simp] theorem tt_or {a b : Tt} : Tt.m cs (.or a b) = xOrT (a.m cs) (b.m cs) := id rfl
@[simp] theorem tt_yes : Tt.m cs .yes = xYes := id rfl
@[simp] theorem tl_nil : Tl.m cs .nil = xNil := id rfl
@[simp] theorem tl_cons {a : Te} {l : Tl} : Tl.m cs (.cons a l) = xCons (a.m cs) (l.m cs) := id rfl
@[simp] theorem tl_star {a : Te} {l : Tl} : Tl.m cs (.star a l) = xStar (a.m cs) (l.m cs) := id rfl
@[simp] theorem to_none : To.m cs .none = xNoPart := id rfl
@[simp] theorem to_some {a : Te} : To.m cs (.some a) = xPart (a.m cs) := id rfl
@[simp] theorem ti_seq {a : Te} : Ti.m cs (.seq a) = xSeqIt (a.m cs) := id rfl
@[simp] theorem ti_rng1 {l : Tl} : Ti.m cs (.rng1 l) = xItL rng1It (l.m cs) := id rfl
@[simp] theorem ti_rng2 {l : Tl} : Ti.m cs (.rng2 l) = xItL rng2It (l.m cs) := id rfl
@[simp] theorem ti_rng3 {l : Tl} : Ti.m cs (.rng3 l) = xItL rng3It (l.m cs) := id rfl
@[simp] theorem ti_revr {a : Te} : Ti.m cs (.revr a) = xIt1 revRng (a.m cs) := id rfl
@[simp] theorem ti_rev {a : Te} : Ti.m cs (.rev a) = xIt1 revIt (a.m cs) := id rfl
@[simp] theorem ti_enum {a : Te} : Ti.m cs (.enum a) = xIt1 enumI (a.m cs) := id rfl
@[simp] theorem ti_zip {l : Tl} : Ti.m cs (.zip l) = xItL zipI (l.m cs) := id rfl
@[simp] theorem tg_nm {i : Nat} : Tgt.m cs (.nm i) = tgN i := id rfl
@[simp] theorem tg_tup {n : Nat} {l : Tgl} : Tgt.m cs (.tup n l) = tgT n (l.m cs) := id rfl
@[simp] theorem tg_sub {o i : Te} : Tgt.m cs (.sub o i) = tgS (o.m cs) (i.m cs) := id rfl
@[simp] theorem tgl_nil : Tgl.m cs .nil = tgNil := id rfl
@[simp] theorem tgl_cons {a : Tgt} {l : Tgl} : Tgl.m cs (.cons a l) = tgCons (a.m cs) (l.m cs) := id rfl
@[simp] theorem ts_bad : Ts.m cs .bad = sBad := id rfl
@[simp] theorem ts_nil : Ts.m cs .nil = sNil := id rfl
@[simp] theorem ts_seq {a b : Ts} : Ts.m cs (.seq a b) = sSeq (a.m cs) (b.m cs) := id rfl
@[simp] theorem ts_ret {a : Te} : Ts.m cs (.ret a) = sRet (a.m cs) := id rfl
@[simp] theorem ts_retN : Ts.m cs .retN = sRetN := id rfl
@[simp] theorem ts_ex {a : Te} : Ts.m cs (.ex a) = sEx (a.m cs) := id rfl
@[simp] theorem ts_bk : Ts.m cs .bk = sBk := id rfl
@[simp] theorem ts_ct : Ts.m cs .ct = sCt := id rfl
@[simp] theorem ts_ite {t : Tt} {a b : Ts} : Ts.m cs (.ite t a b) = sIf (t.m cs) (a.m cs) (b.m cs) := id rfl
@[simp] theorem ts_as {g : Tgt} {a : Te} : Ts.m cs (.as g a) = sAs (g.m cs) (a.m cs) := id rfl
@[simp] theorem ts_par {is : List Nat} {l : Tl} : Ts.m cs (.par is l) = sPar is (l.m cs) := id rfl
@[simp] theorem ts_wh {t : Tt} {b : Ts} : Ts.m cs (.wh t b) = sWh (t.m cs) (b.m cs) := id rfl
@[simp] theorem ts_for {it : Ti} {g : Tgt} {b : Ts} : Ts.m cs (.for it g b) = sFor (it.m cs) (g.m cs) (b.m cs) := id rfl
variable {f fa fb fc : Sm} {fl fr fk : SmL} {t u : SmT} {s s' : SmS} {g : Tg} {h : Tgs}
@[simp] theorem x_bad : xBad ρ st = .bad := id rfl
@[simp] theorem x_loc {i : Nat} : xLoc i ρ st = match ρ[i]? with
  | some (some p) => .ok p st
  | _ => .bad := id rfl
@[simp] theorem x_c {p : PV} : xC p ρ st = .ok p st := id rfl
@[simp] theorem x_bin {op : PV → PV → Store → Res PV} : xBin op fa fb ρ st = (fa ρ st).bind fun p st1 => (fb ρ st1).bind fun q st2 => op p q st2 := id rfl
@[simp] theorem x_un {op : PV → Store → Res PV} : xUn op fa ρ st = (fa ρ st).bind op := id rfl
@[simp] theorem x_not : xNot f ρ st = (f ρ st).bind fun p st1 => match truP p st1 with
  | some b => .ok (.bl (!b)) st1
  | none => .bad := id rfl
@[simp] theorem x_and : xAnd fa fb ρ st = (fa ρ st).bind fun p st1 => match truP p st1 with
  | some b => if b = true then fb ρ st1 else .ok p st1
  | none => .bad := id rfl
@[simp] theorem x_or : xOr fa fb ρ st = (fa ρ st).bind fun p st1 => match truP p st1 with
  | some b => if b = true then .ok p st1 else fb ρ st1
  | none => .bad := id rfl
@[simp] theorem x_ite : xIte t fa fb ρ st = (t ρ st).bind fun b st1 => if b = true then fa ρ st1 else fb ρ st1 := id rfl
@[simp] theorem x_tup : xTup fl ρ st = (fl ρ st).bind fun ps st1 => if ps.length ≤ sizeLine then .ok (.tup ps) st1 else .bad := id rfl
@[simp] theorem x_lst : xLst fl ρ st = (fl ρ st).bind fun ps st1 => if ps.length ≤ sizeLine then newL ps st1 else .bad := id rfl
@[simp] theorem x_cut {lo hi : SmO} : xCut f lo hi ρ st = (f ρ st).bind fun p st1 => (lo ρ st1).bind fun l st2 => (hi ρ st2).bind fun u st3 => gCut p l u st3 := id rfl
@[simp] theorem x_noPart : xNoPart ρ st = .ok none st := id rfl
@[simp] theorem x_part : xPart f ρ st = (f ρ st).bind fun p st1 => match p with
  | .int i => .ok (some i) st1
  | _ => .bad := id rfl
@[simp] theorem x_nil : xNil ρ st = .ok [] st := id rfl
@[simp] theorem x_cons : xCons fa fr ρ st = (fa ρ st).bind fun p st1 => (fr ρ st1).bind fun ps st2 => .ok (p :: ps) st2 := id rfl
@[simp] theorem x_star : xStar f fr ρ st = (f ρ st).bind fun p st1 => match itemsOf p st1 with
  | some xs => (fr ρ st1).bind fun ys st2 => .ok (xs ++ ys) st2
  | none => .bad := id rfl
@[simp] theorem items_t {ps : List PV} : itemsOf (.tup ps) st = some ps := id rfl
@[simp] theorem items_r {n : Nat} : itemsOf (.ref n) st = listAt st n := id rfl
@[simp] theorem x_call {F : Fn} : xCall F fl ρ st = (fl ρ st).bind F := id rfl
@[simp] theorem x_callE {E : Ent} {np nk : Nat} : xCallE E np nk fl fk ρ st = (fl ρ st).bind fun ps st1 => (fk ρ st1).bind fun qs st2 => if ps.length = np ∧ qs.length = nk then E.mean (ps ++ qs) st2 else .bad := id rfl
@[simp] theorem ent_none {F : Fn} {ps : List PV} : Ent.mean ⟨F, none⟩ ps st = F ps st := id rfl
@[simp] theorem ent_some {F : Fn} {idx : List Nat} {ps : List PV} : Ent.mean ⟨F, some idx⟩ ps st = F (permL idx ps) st := id rfl
@[simp] theorem perm_nil {α : Type} {l : List α} : permL [] l = [] := id rfl
@[simp] theorem perm_cons {α : Type} {l : List α} {i : Nat} {r : List Nat} : permL (i :: r) l = match l[i]? with
  | some x => x :: permL r l
  | none => permL r l := by
  unfold permL
  rw [List.filterMap_cons]
  cases l[i]? <;> rfl
@[simp] theorem x_yes : xYes ρ st = .ok true st := id rfl
@[simp] theorem x_tb : xTb f ρ st = (f ρ st).bind fun p st1 => match p with
  | .bl b => .ok b st1
  | _ => .bad := id rfl
@[simp] theorem x_tv : xTv f ρ st = (f ρ st).bind fun p st1 => match truP p st1 with
  | some b => .ok b st1
  | none => .bad := id rfl
@[simp] theorem x_notT : xNotT t ρ st = (t ρ st).bind fun b st1 => .ok (!b) st1 := id rfl
@[simp] theorem x_andT : xAndT t u ρ st = (t ρ st).bind fun b st1 => if b = true then u ρ st1 else .ok false st1 := id rfl
@[simp] theorem x_orT : xOrT t u ρ st = (t ρ st).bind fun b st1 => if b = true then .ok true st1 else u ρ st1 := id rfl
@[simp] theorem x_seqIt : xSeqIt f ρ st = (f ρ st).bind seqIt := id rfl
@[simp] theorem x_itL {k : List PV → Store → Res ItD} : xItL k fl ρ st = (fl ρ st).bind k := id rfl
@[simp] theorem x_it1 {k : PV → Store → Res ItD} : xIt1 k f ρ st = (f ρ st).bind k := id rfl
@[simp] theorem x_app : xApp f fl ρ st = (f ρ st).bind fun o st1 => if isL o st1 = true then (fl ρ st1).bind fun ps st2 => gApp o ps st2 else .bad := id rfl
@[simp] theorem x_pop : xPop f ρ st = (f ρ st).bind gPop := id rfl
@[simp] theorem g_nm {i : Nat} {p : PV} : tgN i p ρ st = .ok (ρ.set i (some p)) st := id rfl
@[simp] theorem g_tup {n : Nat} {ps : List PV} : tgT n h (.tup ps) ρ st = if ps.length = n then h ps ρ st else .bad := id rfl
@[simp] theorem g_nil : tgNil [] ρ st = .ok ρ st := id rfl
@[simp] theorem g_cons {p : PV} {ps : List PV} : tgCons g h (p :: ps) ρ st = (g p ρ st).bind fun ρ1 st1 => h ps ρ1 st1 := id rfl
@[simp] theorem g_sub {p : PV} : tgS fa fb p ρ st = (fa ρ st).bind fun o st1 => (fb ρ st1).bind fun i st2 => (setL o i p st2).bind fun _ st3 => .ok ρ st3 := id rfl
@[simp] theorem s_nil : sNil ρ st = .ok (.nx, ρ) st := id rfl
@[simp] theorem s_bad : sBad ρ st = .bad := id rfl
@[simp] theorem s_seq : sSeq s s' ρ st = (s ρ st).bind fun r st1 => match r.1 with
  | .nx => s' r.2 st1
  | _ => .ok r st1 := id rfl
@[simp] theorem s_ret : sRet f ρ st = (f ρ st).bind fun p st1 => .ok (.rt p, ρ) st1 := id rfl
@[simp] theorem s_retN : sRetN ρ st = .ok (.rt .non, ρ) st := id rfl
@[simp] theorem s_ex : sEx f ρ st = (f ρ st).bind fun _ st1 => .ok (.nx, ρ) st1 := id rfl
@[simp] theorem s_bk : sBk ρ st = .ok (.bk, ρ) st := id rfl
@[simp] theorem s_ct : sCt ρ st = .ok (.ct, ρ) st := id rfl
@[simp] theorem s_if : sIf t s s' ρ st = (t ρ st).bind fun b st1 => if b = true then s ρ st1 else s' ρ st1 := id rfl
@[simp] theorem s_as : sAs g f ρ st = (f ρ st).bind fun p st1 => (g p ρ st1).bind fun ρ1 st2 => .ok (.nx, ρ1) st2 := id rfl
@[simp] theorem s_par {is : List Nat} : sPar is fl ρ st = (fl ρ st).bind fun ps st1 => if ps.length = is.length then .ok (.nx, setAll is ps ρ) st1 else .bad := id rfl
@[simp] theorem setAll_cons {i : Nat} {is : List Nat} {p : PV} {ps : List PV} : setAll (i :: is) (p :: ps) ρ = setAll is ps (ρ.set i (some p)) := id rfl
@[simp] theorem setAll_nil {ps : List PV} : setAll [] ps ρ = ρ := by cases ps <;> rfl
@[simp] theorem fn_m {n : Nat} {args : List PV} : fnM n s args st = (s (args.map some ++ List.replicate (n - args.length) none) st).bind fun r st1 => match r.1 with
  | .nx => .ok .non st1
  | .rt p => .ok p st1
  | _ => .bad := id rfl
@[simp] theorem b_add : gBin .Add = gAdd := id rfl
@[simp] theorem b_sub : gBin .Sub = gSub := id rfl
@[simp] theorem b_mul : gBin .Mult = gMul := id rfl
@[simp] theorem b_fdiv : gBin .FloorDiv = gFdiv := id rfl
@[simp] theorem b_mod : gBin .Mod = gMod := id rfl
@[simp] theorem b_pow : gBin .Pow = gPow := id rfl
@[simp] theorem o_eq : gOp .Eq = gEq false := id rfl
@[simp] theorem o_ne : gOp .NotEq = gEq true := id rfl
variable {i j : Int}
@[simp] theorem add_i : gAdd (.int i) (.int j) st = .ok (.int (i + j)) st := id rfl
@[simp] theorem add_t {xs ys : List PV} : gAdd (.tup xs) (.tup ys) st = if xs.length + ys.length ≤ sizeLine then .ok (.tup (xs ++ ys)) st else .bad := id rfl
@[simp] theorem sub_i : gSub (.int i) (.int j) st = .ok (.int (i - j)) st := id rfl
@[simp] theorem mul_i : gMul (.int i) (.int j) st = if i.natAbs.log2 + j.natAbs.log2 < 1000000 ∨ i.natAbs < 2 ^ 64 ∨ j.natAbs < 2 ^ 64 then .ok (.int (i * j)) st else .bad := id rfl
@[simp] theorem fdiv_i : gFdiv (.int i) (.int j) st = if 0 < j then .ok (.int (i / j)) st else .bad := id rfl
@[simp] theorem mod_i : gMod (.int i) (.int j) st = if 0 < j then .ok (.int (i % j)) st else .bad := id rfl
@[simp] theorem neg_i : gNeg (.int i) st = .ok (.int (-i)) st := id rfl
@[simp] theorem eq_i {n : Bool} : gEq n (.int i) (.int j) st = .ok (.bl (if n then !decide (i = j) else decide (i = j))) st := id rfl
@[simp] theorem eq_s {n : Bool} {x y : Str} : gEq n (.str x) (.str y) st = .ok (.bl (if n then !decide (x = y) else decide (x = y))) st := id rfl
@[simp] theorem tru_b {b : Bool} : truP (.bl b) st = some b := id rfl
@[simp] theorem fn_len : Blt.fn .len = gLen := id rfl
@[simp] theorem fn_abs : Blt.fn .abs = gAbs := id rfl
@[simp] theorem fn_max : Blt.fn .max = gMax := id rfl
@[simp] theorem fn_min : Blt.fn .min = gMin := id rfl
@[simp] theorem fn_int : Blt.fn .int = gInt := id rfl
@[simp] theorem fn_divmod : Blt.fn .divmod = gDivmod := id rfl
@[simp] theorem fn_list : Blt.fn .list = gList := id rfl
@[simp] theorem fn_tuple : Blt.fn .tuple = gTuple := id rfl
@[simp] theorem fn_all : Blt.fn .all = gAll := id rfl
@[simp] theorem fn_any : Blt.fn .any = gAny := id rfl
@[simp] theorem fn_sum : Blt.fn .sum = gSum := id rfl
@[simp] theorem fn_repr : Blt.fn .repr = gRepr := id rfl
@[simp] theorem int_i : gInt [.int i] st = .ok (.int i) st := id rfl
@[simp] theorem abs_i : gAbs [.int i] st = .ok (.int (if i < 0 then -i else i)) st := id rfl
@[simp] theorem max_i : gMax [.int i, .int j] st = .ok (.int (if j > i then j else i)) st := id rfl
@[simp] theorem min_i : gMin [.int i, .int j] st = .ok (.int (if j < i then j else i)) st := id rfl
@[simp] theorem gcd_i : gGcd [.int i, .int j] st = .ok (.int ((Nat.gcd i.natAbs j.natAbs : Nat) : Int)) st := id rfl
@[simp] theorem tuple_t {ps : List PV} : gTuple [.tup ps] st = .ok (.tup ps) st := id rfl
@[simp] theorem tuple_r {n : Nat} : gTuple [.ref n] st = match listAt st n with
  | some ps => .ok (.tup ps) st
  | none => .bad := id rfl
@[simp] theorem list_t {ps : List PV} : gList [.tup ps] st = newL ps st := id rfl
@[simp] theorem list_r {n : Nat} : gList [.ref n] st = match listAt st n with
  | some ps => newL ps st
  | none => .bad := id rfl
@[simp] theorem newL_e {ps : List PV} : newL ps st = .ok (.ref st.length) (st ++ [.lst ps]) := id rfl
@[simp] theorem len_t {ps : List PV} : gLen [.tup ps] st = .ok (.int ps.length) st := id rfl
@[simp] theorem len_r {n : Nat} : gLen [.ref n] st = match listAt st n with
  | some ps => .ok (.int ps.length) st
  | none => .bad := id rfl
@[simp] theorem seq_t {ps : List PV} : seqIt (.tup ps) st = .ok (.fix ps) st := id rfl
@[simp] theorem idx_t {ps : List PV} : gIdx (.tup ps) (.int i) st = match L2.atI ps i with
  | some p => .ok p st
  | none => .bad := id rfl
@[simp] theorem idx_r {n : Nat} : gIdx (.ref n) (.int i) st = match listAt st n with
  | some ps => match L2.atI ps i with
    | some p => .ok p st
    | none => .bad
  | none => .bad := id rfl
@[simp] theorem s_for_fix {ps : List PV} {it : SmI} {st1 : Store} {b : SmS} (h : it ρ st = .ok (.fix ps) st1) : sFor it g b ρ st = forL g b ps ρ st1 := by
  unfold sFor
  rw [h]
  rfl
end
@[simp] theorem cmp_lt {i j : Int} {st : Store} : gOp .Lt (.int i) (.int j) st = .ok (.bl (decide (i < j))) st := id rfl
@[simp] theorem cmp_le {i j : Int} {st : Store} : gOp .LtE (.int i) (.int j) st = .ok (.bl (decide (i ≤ j))) st := id rfl
@[simp] theorem cmp_gt {i j : Int} {st : Store} : gOp .Gt (.int i) (.int j) st = .ok (.bl (decide (j < i))) st := id rfl
@[simp] theorem cmp_ge {i j : Int} {st : Store} : gOp .GtE (.int i) (.int j) st = .ok (.bl (decide (j ≤ i))) st := id rfl
@[simp] theorem forL_nil {g : Tg} {b : SmS} {ρ : Env} {st : Store} : forL g b [] ρ st = .ok (.nx, ρ) st := id rfl
@[simp] theorem forL_cons {g : Tg} {b : SmS} {ρ : Env} {st : Store} {p : PV} {ps : List PV} : forL g b (p :: ps) ρ st = (g p ρ st).bind fun ρ1 st1 => (b ρ1 st1).bind fun r st2 => match r.1 with
    | .nx => forL g b ps r.2 st2
    | .ct => forL g b ps r.2 st2
    | .bk => .ok (.nx, r.2) st2
    | .rt p => .ok (.rt p, r.2) st2 := id rfl
@[simp] theorem comp_e {vs : List Nat} {it : SmI} {g : Tg} {t : SmT} {e : Sm} {ρ : Env} {st : Store} : xComp vs it g t e ρ st = (it ρ st).bind fun d st1 => (match d with
  | .fix ps => compL g t e st1.length (wipeE vs ρ) ps (st1 ++ [Ob.lst []])
  | .dyn v => compD v g t e st1.length (wipeE vs ρ) fuel 0 (st1 ++ [Ob.lst []])).bind fun _ st2 => .ok (.ref st1.length) st2 := id rfl
@[simp] theorem wipe_nil {ρ : Env} : wipeE [] ρ = ρ := id rfl
@[simp] theorem wipe_cons {ρ : Env} {v : Nat} {vs : List Nat} : wipeE (v :: vs) ρ = (wipeE vs ρ).set v none := id rfl
@[simp] theorem compL_nil {g : Tg} {t : SmT} {e : Sm} {D : Nat} {ρ : Env} {st : Store} : compL g t e D ρ [] st = .ok () st := id rfl
theorem compL_cons {g : Tg} {t : SmT} {e : Sm} {D : Nat} {ρ : Env} {st : Store} {p : PV} {ps : List PV} : compL g t e D ρ (p :: ps) st = (compTurn g t e D ρ p st).bind fun _ st1 => compL g t e D ρ ps st1 := id rfl
theorem compTurn_e {g : Tg} {t : SmT} {e : Sm} {D : Nat} {ρ : Env} {st : Store} {p : PV} : compTurn g t e D ρ p st = (g p ρ st).bind fun ρ1 st1 => (t ρ1 st1).bind fun b st2 => if b = true then (e ρ1 st2).bind fun y st3 => compPut D y st3 else .ok () st2 := id rfl
@[simp] theorem compPut_new {acc : List PV} {y : PV} {st : Store} : compPut st.length y (st ++ [Ob.lst acc]) = if acc.length < sizeLine then .ok () (st ++ [Ob.lst (acc ++ [y])]) else .bad := by
  unfold compPut
  rw [get_new]
  simp
end Pe
namespace Pe
open PySem
section
variable {g : Tg} {t : SmT} {e : Sm} {b : SmS} {ρ : Env} {st st1 : Store} {D : Nat} {ps : List PV}
/-! ### loops -/
theorem forL_rule {Q : Fl × Env → Store → Prop} (I : Nat → Env → Store → Prop) (hend : ∀ ρ st, I ps.length ρ st → Q (.nx, ρ) st)
    (hstep : ∀ i p ρ st, ps[i]? = some p → I i ρ st → Rn ((g p ρ st).bind fun ρ1 st1 => b ρ1 st1) fun r st2 => match r.1 with
      | .nx => I (i + 1) r.2 st2
      | .ct => I (i + 1) r.2 st2
      | .bk => Q (.nx, r.2) st2
      | .rt p => Q (.rt p, r.2) st2) (h0 : I 0 ρ st) : Rn (forL g b ps ρ st) Q := by
  have key : ∀ (k i : Nat) ρ st, i + k = ps.length → I i ρ st → Rn (forL g b (ps.drop i) ρ st) Q := by
    intro k
    induction k with
    | zero =>
      intro i ρ st hk h
      have : i = ps.length := by omega
      subst this
      rw [List.drop_length, forL_nil, rn_ok]
      exact hend ρ st h
    | succ k ih =>
      intro i ρ st hk h
      have hi : i < ps.length := by omega
      rw [List.drop_eq_getElem_cons hi, forL_cons]
      have hs := hstep i ps[i] ρ st (List.getElem?_eq_getElem hi) h
      rw [rn_bind] at hs ⊢
      refine hs.imp fun ρ1 st1 h1 => ?_
      rw [rn_bind]
      refine h1.imp fun r st2 h2 => ?_
      obtain ⟨fl, ρ2⟩ := r
      cases fl with
      | nx => exact ih (i + 1) ρ2 st2 (by omega) h2
      | ct => exact ih (i + 1) ρ2 st2 (by omega) h2
      | bk => exact rn_ok.mpr h2
      | rt p => exact rn_ok.mpr h2
  have := key ps.length 0 ρ st (by omega) h0
  rwa [List.drop_zero] at this
/-- a loop that looks each time -/
theorem forD_rule {Q : Fl × Env → Store → Prop} {d : Nat → Store → Option (Option PV)} (I : Nat → Env → Store → Prop) (ps : List PV) (hd : ∀ i ρ st, I i ρ st → d i st = some ps[i]?) (hend : ∀ ρ st, I ps.length ρ st → Q (.nx, ρ) st)
    (hstep : ∀ i p ρ st, ps[i]? = some p → I i ρ st → Rn ((g p ρ st).bind fun ρ1 st1 => b ρ1 st1) fun r st2 => match r.1 with
      | .nx => I (i + 1) r.2 st2
      | .ct => I (i + 1) r.2 st2
      | .bk => Q (.nx, r.2) st2
      | .rt p => Q (.rt p, r.2) st2) (h0 : I 0 ρ st) {n : Nat} (hn : ps.length < n) : Rn (forD d g b n 0 ρ st) Q := by
  have key : ∀ (k i n : Nat) ρ st, i + k = ps.length → k < n → I i ρ st → Rn (forD d g b n i ρ st) Q := by
    intro k
    induction k with
    | zero =>
      intro i n ρ st hk hn h
      obtain ⟨m, rfl⟩ : ∃ m, n = m + 1 := ⟨n - 1, by omega⟩
      have : i = ps.length := by omega
      subst this
      unfold forD
      rw [hd _ _ _ h, List.getElem?_eq_none (Nat.le_refl _)]
      exact rn_ok.mpr (hend ρ st h)
    | succ k ih =>
      intro i n ρ st hk hn h
      obtain ⟨m, rfl⟩ : ∃ m, n = m + 1 := ⟨n - 1, by omega⟩
      have hi : i < ps.length := by omega
      unfold forD
      rw [hd _ _ _ h, List.getElem?_eq_getElem hi]
      have hs := hstep i ps[i] ρ st (List.getElem?_eq_getElem hi) h
      show Rn ((g ps[i] ρ st).bind _) Q
      rw [rn_bind] at hs ⊢
      refine hs.imp fun ρ1 st1 h1 => ?_
      rw [rn_bind]
      refine h1.imp fun r st2 h2 => ?_
      obtain ⟨fl, ρ2⟩ := r
      cases fl with
      | nx => exact ih (i + 1) m ρ2 st2 (by omega) (by omega) h2
      | ct => exact ih (i + 1) m ρ2 st2 (by omega) (by omega) h2
      | bk => exact rn_ok.mpr h2
      | rt p => exact rn_ok.mpr h2
  exact key ps.length 0 n ρ st (by omega) hn h0
theorem while_rule {Q : Fl × Env → Store → Prop} (I : Nat → Env → Store → Prop)
    (hstep : ∀ m ρ st, I m ρ st → Rn (t ρ st) fun c st1 => if c = true then Rn (b ρ st1) (fun r st2 => match r.1 with
      | .nx => ∃ m', m' < m ∧ I m' r.2 st2
      | .ct => ∃ m', m' < m ∧ I m' r.2 st2
      | .bk => Q (.nx, r.2) st2
      | .rt p => Q (.rt p, r.2) st2) else Q (.nx, ρ) st1) {m : Nat} (h0 : I m ρ st) {n : Nat} (hn : m < n) : Rn (whileN t b n ρ st) Q := by
  induction n generalizing m ρ st with
  | zero => omega
  | succ n ih =>
    unfold whileN
    rw [rn_bind]
    refine (hstep m ρ st h0).imp fun c st1 hc => ?_
    rw [rn_ite]
    split
    · rename_i z
      rw [if_pos z] at hc
      rw [rn_bind]
      refine hc.imp fun r st2 hr => ?_
      obtain ⟨fl, ρ2⟩ := r
      cases fl with
      | nx => obtain ⟨m', h1, h2⟩ := hr; exact ih h2 (by omega)
      | ct => obtain ⟨m', h1, h2⟩ := hr; exact ih h2 (by omega)
      | bk => exact rn_ok.mpr hr
      | rt p => exact rn_ok.mpr hr
    · rename_i z
      rw [if_neg z] at hc
      exact rn_ok.mpr hc
theorem fuel_big {n : Nat} (h : n < 2 ^ 1000000) : n < fuel := by
  unfold fuel
  exact Nat.lt_of_lt_of_le h (Nat.pow_le_pow_right (by omega) (by decide +kernel))
theorem fuel_line {n : Nat} (h : n ≤ sizeLine) : n < fuel := by
  unfold fuel
  refine Nat.lt_of_le_of_lt h ?_
  unfold sizeLine
  exact Nat.pow_lt_pow_right (by omega) (by decide +kernel)
/-! ### comprehensions -/
/-- J hangs on the objects of R alone -/
def On (R : List Nat) (J : Store → Prop) : Prop := ∀ st st' : Store, (∀ r ∈ R, st'[r]? = st[r]?) → J st → J st'
def bodyC (g : Tg) (t : SmT) (e : Sm) (ρ : Env) (p : PV) (st : Store) : Res (Option PV) := (g p ρ st).bind fun ρ1 st1 => (t ρ1 st1).bind fun b st2 => if b = true then (e ρ1 st2).bind fun y st3 => .ok (some y) st3 else .ok none st2
theorem turn_body {p : PV} : compTurn g t e D ρ p st = (bodyC g t e ρ p st).bind fun o st3 => match o with
    | some y => compPut D y st3
    | none => .ok () st3 := by
  unfold compTurn bodyC
  cases g p ρ st with
  | bad => rfl
  | ok ρ1 st1 =>
    simp only [Res.bind_ok]
    cases t ρ1 st1 with
    | bad => rfl
    | ok b st2 =>
      simp only [Res.bind_ok]
      split
      · cases e ρ1 st2 with
        | bad => rfl
        | ok y st3 => rfl
      · rfl
structure CompInv (R : List Nat) (J : Store → Prop) (P : Nat → PV → Prop) (D i : Nat) (st0 st : Store) : Prop where
  acc : ∃ ys : List PV, st[D]? = some (.lst ys) ∧ ys.length = i ∧ ∀ k y, ys[k]? = some y → P k y
  up : Up (D :: R) st0 st
  j : J st
theorem comp_turn_rule {R : List Nat} {J : Store → Prop} {P : Nat → PV → Prop} {st0 : Store} {i : Nat} {p : PV} (hJ : On R J) (hD : D ∉ R) (hl : i < sizeLine) (I : CompInv R J P D i st0 st) (hlt : D < st0.length)
    (body : ∀ st2, Up (D :: R) st0 st2 → J st2 → Rn (bodyC g t e ρ p st2) fun o st4 => ∃ y, o = some y ∧ P i y ∧ Up R st2 st4 ∧ J st4) : Rn (compTurn g t e D ρ p st) fun _ st' => CompInv R J P D (i + 1) st0 st' := by
  rw [turn_body, rn_bind]
  refine (body st I.up I.j).imp ?_
  rintro o st4 ⟨y, rfl, hp, u, j⟩
  obtain ⟨ys, h1, h2, h3⟩ := I.acc
  have h4 := u.get h1 hD
  have hlt4 := lt_of_get h4
  show Rn (compPut D y st4) _
  unfold compPut
  rw [h4]
  simp only [h2, hl, if_true, rn_ok]
  refine ⟨⟨ys ++ [y], by rw [List.getElem?_set_self hlt4], by simp [h2], fun k z hk => ?_⟩, ?_, hJ _ _ (fun r hr => by rw [List.getElem?_set_ne (show D ≠ r from fun e => hD (e ▸ hr))]) j⟩
  · by_cases hki : k < ys.length
    · rw [List.getElem?_append_left hki] at hk
      exact h3 k z hk
    · rw [List.getElem?_append_right (by omega)] at hk
      have : k - ys.length = 0 := by
        cases q : k - ys.length with
        | zero => rfl
        | succ m => rw [q] at hk; simp at hk
      rw [this] at hk
      have ek : k = i := by omega
      subst ek
      cases (Option.some.inj hk)
      exact hp
  · exact (I.up.trans ⟨u.le, fun n h1 h2 => u.keep n h1 (fun z => h2 (List.mem_cons_of_mem _ z))⟩).trans (Up.set List.mem_cons_self)
theorem compL_rule {R : List Nat} {J : Store → Prop} {P : Nat → PV → Prop} {st0 : Store} (hJ : On R J) (hD : D ∉ R) (hl : ps.length ≤ sizeLine) (hlt : D < st0.length)
    (body : ∀ i p st2, ps[i]? = some p → Up (D :: R) st0 st2 → J st2 → Rn (bodyC g t e ρ p st2) fun o st4 => ∃ y, o = some y ∧ P i y ∧ Up R st2 st4 ∧ J st4) (I : CompInv R J P D 0 st0 st) : Rn (compL g t e D ρ ps st) fun _ st' => CompInv R J P D ps.length st0 st' := by
  have key : ∀ (k i : Nat) st, i + k = ps.length → CompInv R J P D i st0 st → Rn (compL g t e D ρ (ps.drop i) st) fun _ st' => CompInv R J P D ps.length st0 st' := by
    intro k
    induction k with
    | zero =>
      intro i st hk h
      have : i = ps.length := by omega
      subst this
      rw [List.drop_length, compL_nil, rn_ok]
      exact h
    | succ k ih =>
      intro i st hk h
      have hi : i < ps.length := by omega
      rw [List.drop_eq_getElem_cons hi, compL_cons, rn_bind]
      exact (comp_turn_rule hJ hD (by omega) h hlt (body i ps[i] · (List.getElem?_eq_getElem hi))).imp fun _ st1 h1 => ih (i + 1) st1 (by omega) h1
  have := key ps.length 0 st (by omega) I
  rwa [List.drop_zero] at this
theorem compD_rule {R : List Nat} {J : Store → Prop} {P : Nat → PV → Prop} {d : Nat → Store → Option (Option PV)} {st0 : Store} (hJ : On R J) (hD : D ∉ R) (hl : ps.length ≤ sizeLine) (hlt : D < st0.length) (hd : ∀ i st, Up (D :: R) st0 st → d i st = some ps[i]?)
    (body : ∀ i p st2, ps[i]? = some p → Up (D :: R) st0 st2 → J st2 → Rn (bodyC g t e ρ p st2) fun o st4 => ∃ y, o = some y ∧ P i y ∧ Up R st2 st4 ∧ J st4) (I : CompInv R J P D 0 st0 st) {n : Nat} (hn : ps.length < n) : Rn (compD d g t e D ρ n 0 st) fun _ st' => CompInv R J P D ps.length st0 st' := by
  have key : ∀ (k i n : Nat) st, i + k = ps.length → k < n → CompInv R J P D i st0 st → Rn (compD d g t e D ρ n i st) fun _ st' => CompInv R J P D ps.length st0 st' := by
    intro k
    induction k with
    | zero =>
      intro i n st hk hn h
      obtain ⟨m, rfl⟩ : ∃ m, n = m + 1 := ⟨n - 1, by omega⟩
      have : i = ps.length := by omega
      subst this
      unfold compD
      rw [hd _ _ h.up, List.getElem?_eq_none (Nat.le_refl _)]
      exact rn_ok.mpr h
    | succ k ih =>
      intro i n st hk hn h
      obtain ⟨m, rfl⟩ : ∃ m, n = m + 1 := ⟨n - 1, by omega⟩
      have hi : i < ps.length := by omega
      unfold compD
      rw [hd _ _ h.up, List.getElem?_eq_getElem hi]
      show Rn ((compTurn g t e D ρ ps[i] st).bind _) _
      rw [rn_bind]
      exact (comp_turn_rule hJ hD (by omega) h hlt (body i ps[i] · (List.getElem?_eq_getElem hi))).imp fun _ st1 h1 => ih (i + 1) m st1 (by omega) (by omega) h1
  exact key ps.length 0 n st (by omega) hn I
/-- a comprehension: what each element gives; R: what may change -/
theorem comp_rule {vs : List Nat} {it : SmI} {d : ItD} {R : List Nat} {J : Store → Prop} (P : Nat → PV → Prop) (hJ : On R J) (hR : ∀ r ∈ R, r < st1.length) (hl : ps.length ≤ sizeLine) (hit : it ρ st = .ok d st1) (hd : ∀ i st2, Up (st1.length :: R) st1 st2 → d.view i st2 = some ps[i]?) (j0 : J st1)
    (body : ∀ i p st2, ps[i]? = some p → Up (st1.length :: R) st1 st2 → J st2 → Rn (bodyC g t e (wipeE vs ρ) p st2) fun o st4 => ∃ y, o = some y ∧ P i y ∧ Up R st2 st4 ∧ J st4) :
    Rn (xComp vs it g t e ρ st) fun p st' => p = .ref st1.length ∧ (∃ ys, st'[st1.length]? = some (.lst ys) ∧ ys.length = ps.length ∧ ∀ k y, ys[k]? = some y → P k y) ∧ Up R st1 st' ∧ J st' := by
  have hD : st1.length ∉ R := fun z => Nat.lt_irrefl _ (hR _ z)
  rw [comp_e, hit, Res.bind_ok, rn_bind]
  have up0 : ∀ {st2}, Up (st1.length :: R) (st1 ++ [Ob.lst []]) st2 → Up (st1.length :: R) st1 st2 := fun u => (Up.app _).trans u
  have I0 : CompInv R J P st1.length 0 (st1 ++ [Ob.lst []]) (st1 ++ [Ob.lst []]) := ⟨⟨[], get_new, rfl, fun k y h => by simp at h⟩, .refl, hJ _ _ (fun r hr => List.getElem?_append_left (hR r hr)) j0⟩
  have fin : ∀ st', CompInv R J P st1.length ps.length (st1 ++ [Ob.lst []]) st' → Rn (.ok (.ref st1.length) st' : Res PV) fun p st' => p = .ref st1.length ∧ (∃ ys, st'[st1.length]? = some (.lst ys) ∧ ys.length = ps.length ∧ ∀ k y, ys[k]? = some y → P k y) ∧ Up R st1 st' ∧ J st' := fun st' I => by
    refine rn_ok.mpr ⟨rfl, I.acc, ⟨Nat.le_trans (by simp) I.up.le, fun n h1 h2 => ?_⟩, I.j⟩
    rw [I.up.keep n (by simp; omega) (fun z => by
      rcases List.mem_cons.mp z with z | z
      · omega
      · exact h2 z), List.getElem?_append_left h1]
  cases d with
  | fix qs =>
    have e2 : qs = ps := List.ext_getElem? fun i => Option.some.inj (hd i st1 .refl)
    subst e2
    exact (compL_rule hJ hD hl (by simp) (fun i p st2 h1 h2 h3 => body i p st2 h1 (up0 h2) h3) I0).imp fun _ st' I => fin st' I
  | dyn v => exact (compD_rule hJ hD hl (by simp) (fun i st2 u => hd i st2 (up0 u)) (fun i p st2 h1 h2 h3 => body i p st2 h1 (up0 h2) h3) I0 (fuel_line hl)).imp fun _ st' I => fin st' I
end
theorem On.true {R : List Nat} : On R fun _ => True := fun _ _ _ _ => trivial
/-- a comprehension that changes nothing, its values known -/
theorem comp_pure {vs : List Nat} {it : SmI} {d : ItD} {g : Tg} {t : SmT} {e : Sm} {ρ : Env} {st st1 : Store} {ps : List PV} (f : Nat → PV) (hl : ps.length ≤ sizeLine) (hit : it ρ st = .ok d st1) (hd : ∀ i st2, Up [st1.length] st1 st2 → d.view i st2 = some ps[i]?)
    (body : ∀ i p st2, ps[i]? = some p → Up [st1.length] st1 st2 → Rn (bodyC g t e (wipeE vs ρ) p st2) fun o st4 => o = some (f i) ∧ Up [] st2 st4) :
    Rn (xComp vs it g t e ρ st) fun p st' => p = .ref st1.length ∧ st'[st1.length]? = some (.lst ((List.range ps.length).map f)) ∧ Up [] st1 st' := by
  refine (comp_rule (R := []) (J := fun _ => True) (ps := ps) (fun i y => y = f i) On.true (fun r h => absurd h List.not_mem_nil) hl hit hd trivial fun i p st2 h1 h2 _ => (body i p st2 h1 h2).imp ?_).imp ?_
  · rintro o st4 ⟨rfl, u⟩
    exact ⟨f i, rfl, rfl, u, trivial⟩
  · rintro p st' ⟨h1, ⟨ys, h2, h3, h4⟩, u, _⟩
    refine ⟨h1, ?_, u⟩
    rw [h2]
    refine congrArg (fun z => some (Ob.lst z)) (List.ext_getElem? fun i => ?_)
    by_cases hi : i < ys.length
    · have e1 := h4 i ys[i] (List.getElem?_eq_getElem hi)
      rw [List.getElem?_eq_getElem hi, e1, List.getElem?_map, List.getElem?_range (by omega)]
      rfl
    · rw [List.getElem?_eq_none (by omega), List.getElem?_eq_none (by simp; omega)]
end Pe
namespace Pl
/-! ### series of fractions: a ring -/
structure Ps where
  c : Nat → Rat
theorem Ps.ext' {f g : Ps} (h : ∀ k, f.c k = g.c k) : f = g := by
  cases f; cases g
  congr
  exact funext h
def tl (f : Nat → Rat) : Nat → Rat := fun k => f (k + 1)
def cv (f g : Nat → Rat) : Nat → Rat
  | 0 => f 0 * g 0
  | k + 1 => f 0 * g (k + 1) + cv (tl f) g k
theorem cv_right : ∀ (k : Nat) (f g : Nat → Rat), cv f g (k + 1) = cv f (tl g) k + f (k + 1) * g 0
  | 0, f, g => by simp [cv, tl]
  | k + 1, f, g => by
    show f 0 * g (k + 2) + cv (tl f) g (k + 1) = (f 0 * (tl g) (k + 1) + cv (tl f) (tl g) k) + f (k + 2) * g 0
    rw [cv_right k (tl f) g]
    show f 0 * g (k + 2) + (cv (tl f) (tl g) k + f (k + 2) * g 0) = (f 0 * g (k + 2) + cv (tl f) (tl g) k) + f (k + 2) * g 0
    grind
theorem cv_comm : ∀ (k : Nat) (f g : Nat → Rat), cv f g k = cv g f k
  | 0, f, g => by simp only [cv]; grind
  | k + 1, f, g => by
    rw [cv_right k g f]
    show f 0 * g (k + 1) + cv (tl f) g k = _
    rw [cv_comm k (tl f) g]
    grind
theorem cv_add : ∀ (k : Nat) (f g h : Nat → Rat), cv f (fun i => g i + h i) k = cv f g k + cv f h k
  | 0, f, g, h => by simp only [cv]; grind
  | k + 1, f, g, h => by
    simp only [cv]
    rw [cv_add k (tl f) g h]
    grind
theorem add_cv (k : Nat) (f g h : Nat → Rat) : cv (fun i => g i + h i) f k = cv g f k + cv h f k := by
  rw [cv_comm, cv_add, cv_comm k f g, cv_comm k f h]
theorem smul_cv : ∀ (k : Nat) (x : Rat) (f g : Nat → Rat), cv (fun i => x * f i) g k = x * cv f g k
  | 0, x, f, g => by simp only [cv]; grind
  | k + 1, x, f, g => by
    simp only [cv]
    have e : tl (fun i => x * f i) = fun i => x * tl f i := rfl
    rw [e, smul_cv k x (tl f) g]
    grind
theorem cv_assoc : ∀ (k : Nat) (f g h : Nat → Rat), cv (cv f g) h k = cv f (cv g h) k
  | 0, f, g, h => by simp only [cv]; grind
  | k + 1, f, g, h => by
    have e : tl (cv f g) = fun i => f 0 * tl g i + cv (tl f) g i := rfl
    show cv f g 0 * h (k + 1) + cv (tl (cv f g)) h k = f 0 * cv g h (k + 1) + cv (tl f) (cv g h) k
    rw [e, add_cv, smul_cv, cv_assoc k (tl f) g h]
    show f 0 * g 0 * h (k + 1) + (f 0 * cv (tl g) h k + cv (tl f) (cv g h) k) = f 0 * (g 0 * h (k + 1) + cv (tl g) h k) + cv (tl f) (cv g h) k
    grind
theorem cv_zero : ∀ (k : Nat) (f : Nat → Rat), cv (fun _ => 0) f k = 0
  | 0, f => by simp [cv]
  | k + 1, f => by
    show 0 * f (k + 1) + cv (tl fun _ => 0) f k = 0
    have e : tl (fun _ => (0 : Rat)) = fun _ => 0 := rfl
    rw [e, cv_zero k f]
    grind
def cst (x : Rat) : Nat → Rat := fun k => if k = 0 then x else 0
theorem cst_cv (k : Nat) (x : Rat) (f : Nat → Rat) : cv (cst x) f k = x * f k := by
  cases k with
  | zero => rfl
  | succ k =>
    have e : tl (cst x) = fun _ => 0 := funext fun k => by unfold tl cst; rw [if_neg (Nat.succ_ne_zero k)]
    show cst x 0 * f (k + 1) + cv (tl (cst x)) f k = _
    rw [e, cv_zero]
    show x * f (k + 1) + 0 = _
    grind
namespace Ps
instance : Add Ps := ⟨fun f g => ⟨fun k => f.c k + g.c k⟩⟩
instance : Mul Ps := ⟨fun f g => ⟨cv f.c g.c⟩⟩
instance : Neg Ps := ⟨fun f => ⟨fun k => -f.c k⟩⟩
instance : Sub Ps := ⟨fun f g => ⟨fun k => f.c k - g.c k⟩⟩
instance : NatCast Ps := ⟨fun n => ⟨cst (n : Rat)⟩⟩
instance : IntCast Ps := ⟨fun n => ⟨cst (n : Rat)⟩⟩
instance (n : Nat) : OfNat Ps n := ⟨⟨cst (n : Rat)⟩⟩
instance : SMul Nat Ps := ⟨fun n f => (n : Ps) * f⟩
instance : SMul Int Ps := ⟨fun n f => (n : Ps) * f⟩
def pow (f : Ps) : Nat → Ps
  | 0 => 1
  | n + 1 => pow f n * f
instance : HPow Ps Nat Ps := ⟨pow⟩
theorem add_c (f g : Ps) (k : Nat) : (f + g).c k = f.c k + g.c k := rfl
theorem mul_c (f g : Ps) (k : Nat) : (f * g).c k = cv f.c g.c k := rfl
theorem neg_c (f : Ps) (k : Nat) : (-f).c k = -f.c k := rfl
theorem sub_c (f g : Ps) (k : Nat) : (f - g).c k = f.c k - g.c k := rfl
theorem zero_c (k : Nat) : (0 : Ps).c k = 0 := by show cst ((0 : Nat) : Rat) k = 0; unfold cst; split <;> rfl
theorem one_c (k : Nat) : (1 : Ps).c k = if k = 0 then 1 else 0 := by show cst ((1 : Nat) : Rat) k = _; unfold cst; split <;> rfl
theorem zero_f : (0 : Ps).c = fun _ => 0 := funext zero_c
theorem one_f : (1 : Ps).c = cst 1 := funext one_c
instance : Lean.Grind.CommRing Ps where
  add_zero a := ext' fun k => by rw [add_c, zero_c]; grind
  add_comm a b := ext' fun k => by rw [add_c, add_c]; grind
  add_assoc a b c := ext' fun k => by simp only [add_c]; grind
  mul_assoc a b c := ext' fun k => cv_assoc k _ _ _
  mul_one a := ext' fun k => by rw [mul_c, cv_comm, one_f, cst_cv]; grind
  one_mul a := ext' fun k => by rw [mul_c, one_f, cst_cv]; grind
  left_distrib a b c := ext' fun k => cv_add k _ _ _
  right_distrib a b c := ext' fun k => add_cv k _ _ _
  zero_mul a := ext' fun k => by rw [mul_c, zero_f, cv_zero]
  mul_zero a := ext' fun k => by rw [mul_c, cv_comm, zero_f, cv_zero]
  pow_zero a := rfl
  pow_succ a n := rfl
  ofNat_succ n := ext' fun k => by
    show cst ((n + 1 : Nat) : Rat) k = cst (n : Rat) k + (1 : Ps).c k
    rw [one_c]
    unfold cst
    split <;> grind
  neg_add_cancel a := ext' fun k => by rw [add_c, neg_c, zero_c]; grind
  sub_eq_add_neg a b := ext' fun k => by rw [sub_c, add_c, neg_c]; grind
  neg_zsmul i a := ext' fun k => by
    show cv (cst ((-i : Int) : Rat)) a.c k = -cv (cst (i : Rat)) a.c k
    rw [cst_cv, cst_cv]
    grind
  intCast_neg i := ext' fun k => by
    show cst ((-i : Int) : Rat) k = -cst (i : Rat) k
    unfold cst
    split <;> grind
  intCast_ofNat n := ext' fun k => by
    show cst (((n : Nat) : Int) : Rat) k = cst (n : Rat) k
    unfold cst
    split
    · exact Rat.intCast_natCast n
    · rfl
  mul_comm a b := ext' fun k => cv_comm k _ _
end Ps
example (a b c : Ps) : (a + b) * c - a * c = c * b := by grind
end Pl
namespace Pl
/-! ### rows as series -/
def co (l : List Rat) (i : Nat) : Rat := l[i]?.getD 0
def ps (l : List Rat) : Ps := ⟨co l⟩
@[simp] theorem co_nil (i : Nat) : co [] i = 0 := rfl
@[simp] theorem co_zero (a : Rat) (l : List Rat) : co (a :: l) 0 = a := rfl
@[simp] theorem co_succ (a : Rat) (l : List Rat) (i : Nat) : co (a :: l) (i + 1) = co l i := rfl
theorem tl_co (a : Rat) (l : List Rat) : tl (co (a :: l)) = co l := rfl
theorem co_of {l : List Rat} {i : Nat} {q : Rat} (h : l[i]? = some q) : co l i = q := by unfold co; rw [h]; rfl
theorem co_big {l : List Rat} {i : Nat} (h : l.length ≤ i) : co l i = 0 := by unfold co; rw [List.getElem?_eq_none h]; rfl
theorem co_map {f : Nat → Rat} {n : Nat} (h : ∀ i, n ≤ i → f i = 0) (i : Nat) : co ((List.range n).map f) i = f i := by
  by_cases hi : i < n
  · exact co_of (by rw [List.getElem?_map, List.getElem?_range hi]; rfl)
  · rw [co_big (by simpa using hi), h i (by omega)]
def trim : List Rat → List Rat
  | [] => []
  | a :: l => match trim l with
    | [] => if a = 0 then [] else [a]
    | b :: m => a :: b :: m
theorem co_trim : ∀ (l : List Rat) (i : Nat), co (trim l) i = co l i
  | [], _ => rfl
  | a :: l, i => by
    have ih := co_trim l
    unfold trim
    cases e : trim l with
    | nil =>
      rw [e] at ih
      dsimp only
      cases i with
      | zero =>
        split
        · rename_i z; rw [z]; rfl
        · rfl
      | succ i =>
        rw [co_succ, ← ih i]
        split <;> rfl
    | cons b m =>
      rw [e] at ih
      cases i with
      | zero => rfl
      | succ i => exact ih i
theorem trim_zero : ∀ {m : List Rat}, (∀ i, co m i = 0) → trim m = []
  | [], _ => rfl
  | a :: l, h => by
    unfold trim
    rw [trim_zero (m := l) fun i => h (i + 1)]
    have : a = 0 := h 0
    simp [this]
theorem trim_eq : ∀ {l m : List Rat}, (∀ i, co l i = co m i) → trim l = trim m
  | [], m, h => (trim_zero fun i => (h i).symm).symm
  | a :: l, [], h => trim_zero fun i => h i
  | a :: l, b :: m, h => by
    have h0 : a = b := h 0
    subst h0
    unfold trim
    rw [trim_eq (l := l) (m := m) fun i => h (i + 1)]
def Tm (l : List Rat) : Prop := trim l = l
theorem tm_trim (l : List Rat) : Tm (trim l) := trim_eq (co_trim l)
theorem tm_nil : Tm [] := rfl
theorem Tm.eq {l m : List Rat} (h1 : Tm l) (h2 : Tm m) (h : ps l = ps m) : l = m := by
  rw [← h1, ← h2]
  exact trim_eq fun i => congrArg (fun f : Ps => f.c i) h
theorem ps_trim (l : List Rat) : ps (trim l) = ps l := Ps.ext' (co_trim l)
theorem trim_snoc : ∀ (l : List Rat) (a : Rat), trim (l ++ [a]) = if a = 0 then trim l else l ++ [a]
  | [], a => by
    show (match trim [] with
      | [] => if a = 0 then [] else [a]
      | b :: m => a :: b :: m) = _
    rfl
  | b :: l, a => by
    have ih := trim_snoc l a
    show (match trim (l ++ [a]) with
      | [] => if b = 0 then [] else [b]
      | c :: m => b :: c :: m) = _
    rw [ih]
    by_cases h : a = 0
    · rw [if_pos h, if_pos h]
      rfl
    · rw [if_neg h, if_neg h]
      cases l with
      | nil => rfl
      | cons c m => rfl
theorem trim_mem : ∀ {l : List Rat} {q : Rat}, q ∈ trim l → q ∈ l
  | [], _, h => h
  | a :: l, q, h => by
    unfold trim at h
    cases e : trim l with
    | nil =>
      rw [e] at h
      dsimp only at h
      split at h
      · cases h
      · simp at h; subst h; exact List.mem_cons_self
    | cons b m =>
      rw [e] at h
      rcases List.mem_cons.mp h with z | z
      · subst z; exact List.mem_cons_self
      · exact List.mem_cons_of_mem _ (trim_mem (e ▸ z))
theorem trim_len : ∀ (l : List Rat), (trim l).length ≤ l.length
  | [] => Nat.le_refl _
  | a :: l => by
    have ih := trim_len l
    unfold trim
    cases e : trim l with
    | nil =>
      dsimp only
      split <;> simp
    | cons b m =>
      rw [e] at ih
      simp at ih ⊢
      omega
theorem tm_snoc {l : List Rat} {a : Rat} (h : Tm (l ++ [a])) : a ≠ 0 := fun e => by
  unfold Tm at h
  rw [trim_snoc, if_pos e] at h
  have := trim_len l
  rw [h] at this
  simp at this
  omega
theorem tm_snoc_of {l : List Rat} {a : Rat} (h : a ≠ 0) : Tm (l ++ [a]) := by
  unfold Tm
  rw [trim_snoc, if_neg h]
/-! ### worths -/
def ev : List Rat → Rat → Rat
  | [], _ => 0
  | a :: l, x => a + x * ev l x
theorem ev_trim (x : Rat) : ∀ (l : List Rat), ev (trim l) x = ev l x
  | [] => rfl
  | a :: l => by
    have ih := ev_trim x l
    unfold trim
    cases e : trim l with
    | nil =>
      rw [e] at ih
      dsimp only
      split
      · rename_i z
        simp only [ev] at ih ⊢
        rw [← ih, z]
        grind
      · simp only [ev] at ih ⊢
        rw [← ih]
    | cons b m =>
      rw [e] at ih
      show a + x * ev (b :: m) x = a + x * ev l x
      rw [ih]
theorem ev_ps {l m : List Rat} (h : ps l = ps m) (x : Rat) : ev l x = ev m x := by
  rw [← ev_trim x l, ← ev_trim x m, trim_eq fun i => congrArg (fun f : Ps => f.c i) h]
def addL : List Rat → List Rat → List Rat
  | [], m => m
  | a :: l, [] => a :: l
  | a :: l, b :: m => (a + b) :: addL l m
theorem co_addL : ∀ (l m : List Rat) (i : Nat), co (addL l m) i = co l i + co m i
  | [], m, i => by simp only [addL, co_nil]; grind
  | a :: l, [], i => by simp only [addL, co_nil]; grind
  | a :: l, b :: m, 0 => rfl
  | a :: l, b :: m, i + 1 => co_addL l m i
theorem ev_addL (x : Rat) : ∀ (l m : List Rat), ev (addL l m) x = ev l x + ev m x
  | [], m => by simp only [addL, ev]; grind
  | a :: l, [] => by simp only [addL, ev]; grind
  | a :: l, b :: m => by
    simp only [addL, ev]
    rw [ev_addL x l m]
    grind
theorem co_smul (x : Rat) : ∀ (l : List Rat) (i : Nat), co (l.map (x * ·)) i = x * co l i
  | [], i => by simp
  | a :: l, 0 => rfl
  | a :: l, i + 1 => co_smul x l i
theorem ev_smul (y x : Rat) : ∀ (l : List Rat), ev (l.map (y * ·)) x = y * ev l x
  | [] => by simp [ev]
  | a :: l => by
    simp only [List.map_cons, ev]
    rw [ev_smul y x l]
    grind
def mulL : List Rat → List Rat → List Rat
  | [], _ => []
  | a :: l, m => addL (m.map (a * ·)) (0 :: mulL l m)
theorem co_mulL : ∀ (l m : List Rat) (k : Nat), co (mulL l m) k = cv (co l) (co m) k
  | [], m, k => by
    have e : co [] = fun _ => 0 := rfl
    rw [e, cv_zero]
    rfl
  | a :: l, m, k => by
    show co (addL (m.map (a * ·)) (0 :: mulL l m)) k = _
    rw [co_addL, co_smul]
    cases k with
    | zero => simp only [co_zero, cv]; grind
    | succ k =>
      rw [co_succ, co_mulL l m k]
      rfl
theorem ev_mulL (x : Rat) : ∀ (l m : List Rat), ev (mulL l m) x = ev l x * ev m x
  | [], m => by simp only [mulL, ev]; grind
  | a :: l, m => by
    simp only [mulL, ev]
    rw [ev_addL, ev_smul]
    simp only [ev]
    rw [ev_mulL x l m]
    grind
theorem ps_mulL (l m : List Rat) : ps (mulL l m) = ps l * ps m := Ps.ext' (co_mulL l m)
theorem ps_addL (l m : List Rat) : ps (addL l m) = ps l + ps m := Ps.ext' (co_addL l m)
theorem ev_add {r l m : List Rat} (h : ps r = ps l + ps m) (x : Rat) : ev r x = ev l x + ev m x := by
  rw [← ev_addL, ev_ps (h.trans (ps_addL l m).symm)]
theorem ev_mul {r l m : List Rat} (h : ps r = ps l * ps m) (x : Rat) : ev r x = ev l x * ev m x := by
  rw [← ev_mulL, ev_ps (h.trans (ps_mulL l m).symm)]
theorem ps_nil : ps [] = 0 := Ps.ext' fun k => (Ps.zero_c k).symm
end Pl
namespace Pm
open Pl
/-! ### sizes of fractions -/
def Sz (n : Nat) (q : Rat) : Prop := q.num.natAbs < 2 ^ n ∧ q.den < 2 ^ n
theorem Sz.mono {n m : Nat} {q : Rat} (h : Sz n q) (l : n ≤ m) : Sz m q := ⟨Nat.lt_of_lt_of_le h.1 (Nat.pow_le_pow_right (by omega) l), Nat.lt_of_lt_of_le h.2 (Nat.pow_le_pow_right (by omega) l)⟩
theorem Sz.pos {n : Nat} {q : Rat} (h : Sz n q) : 1 ≤ n := by
  have h1 := h.2
  have h2 := q.den_pos
  cases n with
  | zero => simp at h1; omega
  | succ n => omega
section
variable {a b : Rat} {n m : Nat}
theorem mul_lt {x y : Nat} (hx : x < 2 ^ n) (hy : y < 2 ^ m) : x * y < 2 ^ (n + m) := by
  rw [Nat.pow_add]
  exact Nat.mul_lt_mul'' hx hy
theorem sz_norm {x : Int} {d k : Nat} (hd : d ≠ 0) (h1 : x.natAbs < 2 ^ k) (h2 : d < 2 ^ k) : Sz k (Rat.normalize x d hd) := by
  rw [Rat.normalize_eq]
  refine ⟨Nat.lt_of_le_of_lt ?_ h1, Nat.lt_of_le_of_lt (Nat.div_le_self _ _) h2⟩
  exact Int.natAbs_ediv_le_natAbs _ _
theorem sz_add (ha : Sz n a) (hb : Sz m b) : Sz (n + m + 1) (a + b) := by
  rw [Rat.add_def]
  have h1 := mul_lt ha.1 hb.2
  have h2 := mul_lt hb.1 ha.2
  have h3 := mul_lt ha.2 hb.2
  rw [Nat.add_comm m n] at h2
  have e : 2 ^ (n + m + 1) = 2 ^ (n + m) + 2 ^ (n + m) := by rw [Nat.pow_succ]; omega
  have h4 : (a.num * (b.den : Int)).natAbs = a.num.natAbs * b.den := by simp [Int.natAbs_mul]
  have h5 : (b.num * (a.den : Int)).natAbs = b.num.natAbs * a.den := by simp [Int.natAbs_mul]
  exact sz_norm _ (by omega) (by omega)
theorem sz_sub (ha : Sz n a) (hb : Sz m b) : Sz (n + m + 1) (a - b) := by
  rw [Rat.sub_def]
  have h1 := mul_lt ha.1 hb.2
  have h2 := mul_lt hb.1 ha.2
  have h3 := mul_lt ha.2 hb.2
  rw [Nat.add_comm m n] at h2
  have e : 2 ^ (n + m + 1) = 2 ^ (n + m) + 2 ^ (n + m) := by rw [Nat.pow_succ]; omega
  have h4 : (a.num * (b.den : Int)).natAbs = a.num.natAbs * b.den := by simp [Int.natAbs_mul]
  have h5 : (b.num * (a.den : Int)).natAbs = b.num.natAbs * a.den := by simp [Int.natAbs_mul]
  exact sz_norm _ (by omega) (by omega)
theorem sz_mul (ha : Sz n a) (hb : Sz m b) : Sz (n + m) (a * b) := by
  rw [Rat.mul_def]
  have h1 := mul_lt ha.1 hb.1
  have h3 := mul_lt ha.2 hb.2
  exact sz_norm _ (by rw [Int.natAbs_mul]; exact h1) h3
theorem sz_zero : Sz 1 0 := ⟨by decide, by decide⟩
theorem sz_one : Sz 1 1 := ⟨by decide, by decide⟩
theorem sz_neg : Sz 1 (-1) := ⟨by decide, by decide⟩
/-! quotients of fractions -/
theorem div_norm {n d : Int} (hd : d ≠ 0) : Rat.divInt n d = if 0 < d then Rat.normalize n d.natAbs (by omega) else Rat.normalize (-n) d.natAbs (by omega) := by
  cases d with
  | ofNat k =>
    have hk : k ≠ 0 := fun e => hd (by rw [e]; rfl)
    rw [if_pos (show (0 : Int) < Int.ofNat k by show (0 : Int) < (k : Int); omega)]
    show mkRat n k = Rat.normalize n (Int.ofNat k).natAbs _
    rw [← Rat.normalize_eq_mkRat hk]
    rfl
  | negSucc k =>
    rw [if_neg (by omega)]
    rfl
theorem div_eq {a b : Rat} : a / b = Rat.divInt (a.num * b.den) (a.den * b.num) := by
  rw [Rat.div_def, Rat.inv_def]
  conv => lhs; rw [← Rat.num_divInt_den a]
  rw [Rat.divInt_mul_divInt]
theorem sz_div (ha : Sz n a) (hb : Sz m b) (h0 : b ≠ 0) : Sz (n + m) (a / b) := by
  have hbn : b.num ≠ 0 := fun e => h0 (Rat.num_eq_zero.mp e)
  have hd : (a.den : Int) * b.num ≠ 0 := Int.mul_ne_zero (by have := a.den_nz; omega) hbn
  have h1 : (a.num * (b.den : Int)).natAbs < 2 ^ (n + m) := by rw [Int.natAbs_mul]; exact mul_lt ha.1 (by simpa using hb.2)
  have h2 : ((a.den : Int) * b.num).natAbs < 2 ^ (n + m) := by rw [Int.natAbs_mul]; exact mul_lt (by simpa using ha.2) hb.1
  rw [div_eq, div_norm hd]
  split
  · exact sz_norm _ h1 h2
  · exact sz_norm _ (by rw [Int.natAbs_neg]; exact h1) h2
/-- a fraction over a common denominator -/
theorem sz_of {q : Rat} {D : Nat} {z : Int} (h0 : 0 < D) (h : q * (D : Rat) = (z : Rat)) (h1 : z.natAbs < 2 ^ n) (h2 : D < 2 ^ n) : Sz n q := by
  have hD : D ≠ 0 := by omega
  have hDr : (D : Rat) ≠ 0 := by
    intro e
    have : (D : Rat).num = 0 := by rw [e]; rfl
    simp at this
    omega
  have e : q = Rat.normalize z D hD := by
    rw [Rat.normalize_eq_mkRat hD, Rat.mkRat_eq_div, ← h, Rat.mul_div_cancel hDr]
  rw [e]
  exact sz_norm hD h1 h2
end
/-! ### rows over a common denominator -/
def It (D : Nat) (X : Nat) (f : Nat → Rat) : Prop := ∀ i, ∃ z : Int, f i * (D : Rat) = (z : Rat) ∧ z.natAbs ≤ X
def Sr (n : Nat) (l : List Rat) : Prop := ∃ D X : Nat, 0 < D ∧ D < 2 ^ n ∧ X < 2 ^ n ∧ It D X (co l)
section
variable {a b l : List Rat} {n m : Nat}
theorem Sr.pos (h : Sr n l) : 1 ≤ n := by
  obtain ⟨D, X, h0, h1, h2, h3⟩ := h
  cases n with
  | zero => simp at h1; omega
  | succ n => omega
theorem Sr.mono (h : Sr n l) (e : n ≤ m) : Sr m l := by
  obtain ⟨D, X, h0, h1, h2, h3⟩ := h
  have := Nat.pow_le_pow_right (n := 2) (by omega) e
  exact ⟨D, X, h0, by omega, by omega, h3⟩
theorem Sr.sz (h : Sr n l) (i : Nat) : Sz n (co l i) := by
  obtain ⟨D, X, h0, h1, h2, h3⟩ := h
  obtain ⟨z, e, hz⟩ := h3 i
  exact sz_of h0 e (by omega) h1
theorem Sr.eqv (h : Sr n a) (e : ∀ i, Pl.co a i = Pl.co b i) : Sr n b := by
  obtain ⟨D, X, h0, h1, h2, h3⟩ := h
  exact ⟨D, X, h0, h1, h2, fun i => by rw [← e]; exact h3 i⟩
theorem Sr.trm (h : Sr n l) : Sr n (trim l) := h.eqv fun i => (co_trim l i).symm
theorem sr_nil : Sr 1 [] := ⟨1, 0, by decide, by decide, by decide, fun i => ⟨0, by rw [co_nil]; decide +kernel, by decide⟩⟩
theorem sr_one : Sr 1 [1] := ⟨1, 1, by decide, by decide, by decide, fun i => by
  cases i with
  | zero => exact ⟨1, by rw [co_zero]; decide +kernel, by decide⟩
  | succ i => exact ⟨0, by rw [co_succ, co_nil]; decide +kernel, by decide⟩⟩
theorem sr_sing {q : Rat} (h : Sz n q) : Sr n [q] := ⟨q.den, q.num.natAbs, q.den_pos, h.2, h.1, fun i => by
  cases i with
  | zero =>
    refine ⟨q.num, ?_, Nat.le_refl _⟩
    rw [co_zero]
    have := Rat.mkRat_self q
    rw [Rat.mkRat_eq_div] at this
    conv => lhs; lhs; rw [← this]
    exact Rat.div_mul_cancel (by
      intro e
      have h1 : (q.den : Rat).num = 0 := by rw [e]; rfl
      simp at h1
      exact q.den_nz h1)
  | succ i => exact ⟨0, by rw [co_succ, co_nil]; grind, by simp⟩⟩
theorem natAbs_add_le (x y : Int) : (x + y).natAbs ≤ x.natAbs + y.natAbs := Int.natAbs_add_le x y
theorem It.add {D E X Y : Nat} {f g : Nat → Rat} (hf : It D X f) (hg : It E Y g) : It (D * E) (X * E + Y * D) fun i => f i + g i := fun i => by
  obtain ⟨x, e1, h1⟩ := hf i
  obtain ⟨y, e2, h2⟩ := hg i
  refine ⟨x * E + y * D, ?_, ?_⟩
  · show (f i + g i) * ((D * E : Nat) : Rat) = ((x * (E : Int) + y * (D : Int) : Int) : Rat)
    rw [Rat.natCast_mul, Rat.intCast_add, Rat.intCast_mul, Rat.intCast_mul, ← e1, ← e2]
    have : ((E : Int) : Rat) = (E : Rat) := Rat.intCast_natCast E
    have : ((D : Int) : Rat) = (D : Rat) := Rat.intCast_natCast D
    grind
  · refine Nat.le_trans (natAbs_add_le _ _) ?_
    rw [Int.natAbs_mul, Int.natAbs_mul, Int.natAbs_natCast, Int.natAbs_natCast]
    exact Nat.add_le_add (Nat.mul_le_mul_right _ h1) (Nat.mul_le_mul_right _ h2)
theorem It.neg {D X : Nat} {f : Nat → Rat} (hf : It D X f) : It D X fun i => -f i := fun i => by
  obtain ⟨x, e1, h1⟩ := hf i
  exact ⟨-x, by rw [Rat.intCast_neg, ← e1]; grind, by rw [Int.natAbs_neg]; exact h1⟩
theorem It.shift {D X : Nat} {f : Nat → Rat} (hf : It D X f) : It D X (tl f) := fun i => hf (i + 1)
theorem It.conv : ∀ (k N : Nat) {D E X Y : Nat} {f g : Nat → Rat}, It D X f → It E Y g → (∀ i, N ≤ i → f i = 0) → ∃ z : Int, cv f g k * ((D * E : Nat) : Rat) = (z : Rat) ∧ z.natAbs ≤ N * (X * Y) := by
  intro k
  induction k with
  | zero =>
    intro N D E X Y f g hf hg hN
    cases N with
    | zero =>
      refine ⟨0, ?_, by simp⟩
      show f 0 * g 0 * _ = _
      rw [hN 0 (Nat.le_refl _)]
      grind
    | succ N =>
      obtain ⟨x, e1, h1⟩ := hf 0
      obtain ⟨y, e2, h2⟩ := hg 0
      refine ⟨x * y, ?_, ?_⟩
      · show f 0 * g 0 * ((D * E : Nat) : Rat) = _
        rw [Rat.natCast_mul, Rat.intCast_mul, ← e1, ← e2]
        grind
      · rw [Int.natAbs_mul]
        refine Nat.le_trans (Nat.mul_le_mul h1 h2) ?_
        rw [Nat.succ_mul]
        omega
  | succ k ih =>
    intro N D E X Y f g hf hg hN
    cases N with
    | zero =>
      refine ⟨0, ?_, by simp⟩
      have e : f = fun _ => 0 := funext fun i => hN i (Nat.zero_le _)
      rw [e, cv_zero]
      grind
    | succ N =>
      obtain ⟨w, e3, h3⟩ := ih N hf.shift hg fun i hi => hN (i + 1) (by omega)
      obtain ⟨x, e1, h1⟩ := hf 0
      obtain ⟨y, e2, h2⟩ := hg (k + 1)
      refine ⟨x * y + w, ?_, ?_⟩
      · show (f 0 * g (k + 1) + Pl.cv (tl f) g k) * ((D * E : Nat) : Rat) = _
        rw [Rat.intCast_add, ← e3, Rat.intCast_mul, ← e1, ← e2, Rat.natCast_mul]
        grind
      · refine Nat.le_trans (natAbs_add_le _ _) ?_
        rw [Int.natAbs_mul, Nat.succ_mul]
        have := Nat.mul_le_mul h1 h2
        omega
end
end Pm
namespace Pm
open Pl
/-! ### monomials, places set -/
def mono (i : Nat) (x : Rat) : Ps := ⟨fun k => if k = i then x else 0⟩
theorem cv_mono : ∀ (k i : Nat) (x : Rat) (f : Nat → Rat), cv (mono i x).c f k = if i ≤ k then x * f (k - i) else 0
  | 0, i, x, f => by
    show (if 0 = i then x else 0) * f 0 = _
    by_cases h : i = 0
    · subst h; simp
    · rw [if_neg (by omega), if_neg (by omega)]; grind
  | k + 1, 0, x, f => by
    have e : (mono 0 x).c = cst x := rfl
    rw [e, cst_cv]
    simp
  | k + 1, i + 1, x, f => by
    show (mono (i + 1) x).c 0 * f (k + 1) + cv (tl (mono (i + 1) x).c) f k = _
    have e : tl (mono (i + 1) x).c = (mono i x).c := funext fun j => by
      show (if j + 1 = i + 1 then x else 0) = if j = i then x else 0
      by_cases h : j = i
      · rw [if_pos h, if_pos (by omega)]
      · rw [if_neg h, if_neg (by omega)]
    have e0 : (mono (i + 1) x).c 0 = 0 := by show (if 0 = i + 1 then x else 0) = 0; exact if_neg (by omega)
    rw [e, e0, cv_mono k i x f]
    by_cases h : i ≤ k
    · rw [if_pos h, if_pos (by omega), show k + 1 - (i + 1) = k - i by omega]; grind
    · rw [if_neg h, if_neg (by omega)]; grind
theorem mono_mul (i j : Nat) (x y : Rat) : mono i x * mono j y = mono (i + j) (x * y) := Ps.ext' fun k => by
  rw [Ps.mul_c, cv_mono]
  show (if i ≤ k then x * (if k - i = j then y else 0) else 0) = if k = i + j then x * y else 0
  by_cases h : i ≤ k
  · rw [if_pos h]
    by_cases h2 : k - i = j
    · rw [if_pos h2, if_pos (by omega)]
    · rw [if_neg h2, if_neg (by omega)]; grind
  · rw [if_neg h, if_neg (by omega)]
theorem ps_take {l : List Rat} {i : Nat} : ps (l.take (i + 1)) = ps (l.take i) + mono i (co l i) := Ps.ext' fun k => by
  show co (l.take (i + 1)) k = co (l.take i) k + if k = i then co l i else 0
  unfold co
  rw [List.getElem?_take, List.getElem?_take]
  by_cases h : k = i
  · subst h
    rw [if_pos (by omega), if_neg (by omega), if_pos rfl]
    show _ = 0 + _
    grind
  · rw [if_neg h]
    by_cases h2 : k < i
    · rw [if_pos (by omega), if_pos h2]; grind
    · rw [if_neg (by omega), if_neg h2]
      show (0 : Rat) = 0 + 0
      grind
theorem ps_set {l : List Rat} {i : Nat} {x : Rat} (h : i < l.length) : ps (l.set i (co l i + x)) = ps l + mono i x := Ps.ext' fun k => by
  show co (l.set i (co l i + x)) k = co l k + if k = i then x else 0
  unfold co
  by_cases hk : i = k
  · subst hk
    rw [List.getElem?_set_self h, if_pos rfl]
    rfl
  · rw [List.getElem?_set_ne hk, if_neg (fun e => hk e.symm)]
    grind
theorem co_set {l : List Rat} {i k : Nat} {x : Rat} (h : i < l.length) : co (l.set i x) k = if k = i then x else co l k := by
  unfold co
  by_cases hk : i = k
  · subst hk
    rw [List.getElem?_set_self h, if_pos rfl]
    rfl
  · rw [List.getElem?_set_ne hk, if_neg (fun e => hk e.symm)]
theorem co_take {l : List Rat} {i k : Nat} : co (l.take i) k = if k < i then co l k else 0 := by
  unfold co
  rw [List.getElem?_take]
  split <;> rfl
/-! ### sums, differences, products, multiples -/
def addR (a b : List Rat) : List Rat := trim (addL a b)
def negL (a : List Rat) : List Rat := a.map ((-1) * ·)
def subR (a b : List Rat) : List Rat := trim (addL a (negL b))
def mulR (a b : List Rat) : List Rat := trim (mulL a b)
def sclR (l : List Rat) (x : Rat) : List Rat := trim (l.map (x * ·))
/-- a row k beats later -/
def shR (k : Nat) (l : List Rat) : List Rat := if l = [] then [] else List.replicate k 0 ++ l
theorem ps_addR (a b : List Rat) : ps (addR a b) = ps a + ps b := by unfold addR; rw [ps_trim, ps_addL]
theorem ps_negL (a : List Rat) : ps (negL a) = -ps a := Ps.ext' fun k => by
  show co (a.map ((-1) * ·)) k = -co a k
  rw [co_smul]
  grind
theorem ps_subR (a b : List Rat) : ps (subR a b) = ps a - ps b := by unfold subR; rw [ps_trim, ps_addL, ps_negL]; grind
theorem ps_mulR (a b : List Rat) : ps (mulR a b) = ps a * ps b := by unfold mulR; rw [ps_trim, ps_mulL]
theorem mono0 (x : Rat) (f : Ps) : mono 0 x * f = ⟨fun k => x * f.c k⟩ := Ps.ext' fun k => by
  rw [Ps.mul_c]
  show cv (cst x) f.c k = _
  rw [cst_cv]
theorem ps_sclR (l : List Rat) (x : Rat) : ps (sclR l x) = mono 0 x * ps l := by
  unfold sclR
  rw [ps_trim, mono0]
  exact Ps.ext' (co_smul x l)
theorem ps_nilE : ps ([] : List Rat) = 0 := ps_nil
theorem co_app0 {l : List Rat} {k i : Nat} : co (List.replicate k 0 ++ l) i = if k ≤ i then co l (i - k) else 0 := by
  unfold co
  by_cases h : k ≤ i
  · rw [if_pos h, List.getElem?_append_right (by simpa using h), List.length_replicate]
  · rw [if_neg h, List.getElem?_append_left (by simp; omega), List.getElem?_replicate, if_pos (by omega)]
    rfl
theorem ps_shR (k : Nat) (l : List Rat) : ps (shR k l) = mono k 1 * ps l := by
  unfold shR
  split
  · rename_i h
    rw [h, ps_nil]
    grind
  · refine Ps.ext' fun i => ?_
    rw [Ps.mul_c, cv_mono]
    show co (List.replicate k 0 ++ l) i = _
    rw [co_app0]
    show _ = if k ≤ i then 1 * co l (i - k) else 0
    split <;> grind
theorem ps_one : ps [1] = 1 := Ps.ext' fun k => by
  rw [Ps.one_c]
  cases k with
  | zero => rfl
  | succ k => rfl
theorem tm_addR (a b : List Rat) : Tm (addR a b) := tm_trim _
theorem tm_subR (a b : List Rat) : Tm (subR a b) := tm_trim _
theorem tm_mulR (a b : List Rat) : Tm (mulR a b) := tm_trim _
theorem tm_sclR (a : List Rat) (x : Rat) : Tm (sclR a x) := tm_trim _
theorem tm_one : Tm [1] := tm_snoc_of (l := []) (by decide)
theorem tm_last {l : List Rat} (h : Tm l) (h0 : l ≠ []) : co l (l.length - 1) ≠ 0 := by
  have hl := h
  rw [← List.dropLast_concat_getLast h0] at hl
  have hz := tm_snoc hl
  rw [co_of (q := l.getLast h0) (by rw [List.getLast_eq_getElem h0, List.getElem?_eq_getElem])]
  exact hz
theorem tm_of_last {l : List Rat} (h : l ≠ [] → co l (l.length - 1) ≠ 0) : Tm l := by
  by_cases h0 : l = []
  · subst h0; exact tm_nil
  · rw [← List.dropLast_concat_getLast h0]
    refine tm_snoc_of ?_
    have := h h0
    rwa [co_of (q := l.getLast h0) (by rw [List.getLast_eq_getElem h0, List.getElem?_eq_getElem])] at this
theorem tm_shR {k : Nat} {l : List Rat} (h : Tm l) : Tm (shR k l) := by
  unfold shR
  split
  · exact tm_nil
  · rename_i h0
    have hl := List.length_pos_iff.mpr h0
    refine tm_of_last fun _ => ?_
    rw [co_app0, List.length_append, List.length_replicate, if_pos (by omega), show k + l.length - 1 - k = l.length - 1 by omega]
    exact tm_last h h0
theorem co_addR (a b : List Rat) (i : Nat) : co (addR a b) i = co a i + co b i := congrArg (fun f : Ps => f.c i) (ps_addR a b)
theorem co_subR (a b : List Rat) (i : Nat) : co (subR a b) i = co a i - co b i := congrArg (fun f : Ps => f.c i) (ps_subR a b)
theorem co_mulR (a b : List Rat) (i : Nat) : co (mulR a b) i = cv (co a) (co b) i := congrArg (fun f : Ps => f.c i) (ps_mulR a b)
theorem co_sclR (a : List Rat) (x : Rat) (i : Nat) : co (sclR a x) i = x * co a i := by unfold sclR; rw [co_trim, co_smul]
theorem len_of_zero {l : List Rat} {n : Nat} (h : Tm l) (hz : ∀ i, n ≤ i → co l i = 0) : l.length ≤ n := by
  by_cases h0 : l = []
  · subst h0; simp
  · have h1 := tm_last h h0
    have h2 := List.length_pos_iff.mpr h0
    by_cases z : n ≤ l.length - 1
    · exact absurd (hz _ z) h1
    · omega
theorem addL_len : ∀ (l m : List Rat), (addL l m).length = max l.length m.length
  | [], m => by simp [addL]
  | a :: l, [] => by simp [addL]
  | a :: l, b :: m => by simp only [addL, List.length_cons, addL_len l m]; omega
theorem cv_big : ∀ (k n m : Nat) (f g : Nat → Rat), (∀ i, n ≤ i → f i = 0) → (∀ i, m ≤ i → g i = 0) → n + m ≤ k + 1 → cv f g k = 0 := by
  intro k
  induction k with
  | zero =>
    intro n m f g hf hg h
    show f 0 * g 0 = 0
    by_cases hn : n = 0
    · rw [hf 0 (by omega)]; grind
    · rw [hg 0 (by omega)]; grind
  | succ k ih =>
    intro n m f g hf hg h
    by_cases hn : n = 0
    · have e : f = fun _ => 0 := funext fun i => hf i (by omega)
      rw [e, cv_zero]
    · show f 0 * g (k + 1) + cv (tl f) g k = 0
      rw [hg (k + 1) (by omega), ih (n - 1) m (tl f) g (fun i hi => hf (i + 1) (by omega)) hg (by omega)]
      grind
section
variable {a b l : List Rat} {n m L M k : Nat} {x : Rat}
theorem addR_len : (addR a b).length ≤ max a.length b.length := Nat.le_trans (trim_len _) (by rw [addL_len]; exact Nat.le_refl _)
theorem subR_len : (subR a b).length ≤ max a.length b.length := Nat.le_trans (trim_len _) (by rw [addL_len]; unfold negL; rw [List.length_map]; exact Nat.le_refl _)
theorem mulR_len : (mulR a b).length ≤ a.length + b.length - 1 := len_of_zero (tm_mulR _ _) fun i hi => by
  rw [co_mulR]
  exact cv_big i a.length b.length _ _ (fun j hj => co_big hj) (fun j hj => co_big hj) (by omega)
theorem sclR_len : (sclR a x).length ≤ a.length := Nat.le_trans (trim_len _) (by simp)
theorem shR_len : (shR k a).length ≤ k + a.length := by unfold shR; split <;> simp
/-! ### a row with its size -/
class RW (n L : outParam Nat) (l : List Rat) : Prop where
  tm : Tm l
  len : l.length ≤ L
  sr : Sr n l
theorem RW.mono {n' L' : Nat} (h : RW n L l) (e : n ≤ n') (e2 : L ≤ L') : RW n' L' l := ⟨h.tm, Nat.le_trans h.len e2, h.sr.mono e⟩
theorem RW.nil : RW 1 0 [] := ⟨tm_nil, Nat.le_refl _, sr_nil⟩
theorem RW.one : RW 1 1 [1] := ⟨tm_one, Nat.le_refl _, sr_one⟩
theorem two_lt (k : Nat) : k < 2 ^ k := Nat.lt_two_pow_self
theorem sr_of_it {D X : Nat} {l : List Rat} (h : It D X (co l)) (h0 : 0 < D) (h1 : D < 2 ^ n) (h2 : X < 2 ^ n) : Sr n l := ⟨D, X, h0, h1, h2, h⟩
theorem Sr.addc (ha : Sr n a) (hb : Sr m b) (h : ∀ i, co l i = co a i + co b i) : Sr (n + m + 1) l := by
  obtain ⟨D, X, d0, d1, d2, d3⟩ := ha
  obtain ⟨E, Y, e0, e1, e2, e3⟩ := hb
  have h1 := mul_lt d1 e1
  have h2 := mul_lt d2 e1
  have h3 := mul_lt e2 d1
  rw [Nat.add_comm m n] at h3
  have e : 2 ^ (n + m + 1) = 2 ^ (n + m) + 2 ^ (n + m) := by rw [Nat.pow_succ]; omega
  refine ⟨D * E, X * E + Y * D, Nat.mul_pos d0 e0, by omega, by omega, fun i => ?_⟩
  rw [h]
  exact d3.add e3 i
theorem Sr.negc (ha : Sr n a) (h : ∀ i, co l i = -co a i) : Sr n l := by
  obtain ⟨D, X, d0, d1, d2, d3⟩ := ha
  exact ⟨D, X, d0, d1, d2, fun i => by rw [h]; exact d3.neg i⟩
theorem Sr.mulc (ha : Sr n a) (hb : Sr m b) (hl : a.length ≤ L) (h : ∀ i, co l i = cv (co a) (co b) i) : Sr (n + m + L) l := by
  obtain ⟨D, X, d0, d1, d2, d3⟩ := ha
  obtain ⟨E, Y, e0, e1, e2, e3⟩ := hb
  have h1 := mul_lt d1 e1
  have h2 := mul_lt d2 e2
  have h3 : L * (X * Y) < 2 ^ (n + m + L) := by
    rw [Nat.add_comm (n + m) L]
    exact mul_lt (two_lt L) h2
  have h4 : 2 ^ (n + m) ≤ 2 ^ (n + m + L) := Nat.pow_le_pow_right (by omega) (by omega)
  refine ⟨D * E, L * (X * Y), Nat.mul_pos d0 e0, by omega, h3, fun i => ?_⟩
  rw [h]
  exact It.conv i L d3 e3 fun j hj => co_big (by omega)
theorem RW.add (ha : RW n L a) (hb : RW m M b) : RW (n + m + 1) (max L M) (addR a b) :=
  ⟨tm_addR _ _, Nat.le_trans addR_len (by have := ha.len; have := hb.len; omega), ha.sr.addc hb.sr (co_addR a b)⟩
theorem RW.sub (ha : RW n L a) (hb : RW m M b) : RW (n + m + 1) (max L M) (subR a b) :=
  ⟨tm_subR _ _, Nat.le_trans subR_len (by have := ha.len; have := hb.len; omega), ha.sr.addc (b := negL b) (hb.sr.negc fun i => by
    have := congrArg (fun f : Ps => f.c i) (ps_negL b)
    exact this) fun i => by
    have := congrArg (fun f : Ps => f.c i) (ps_negL b)
    have e : co (negL b) i = -co b i := this
    rw [co_subR, e]
    grind⟩
theorem RW.mul (ha : RW n L a) (hb : RW m M b) : RW (n + m + L) (L + M - 1) (mulR a b) :=
  ⟨tm_mulR _ _, by
    have h1 : (mulR a b).length ≤ a.length + b.length - 1 := mulR_len
    have := ha.len
    have := hb.len
    omega, ha.sr.mulc hb.sr ha.len (co_mulR a b)⟩
theorem RW.scl (ha : RW n L a) (hx : Sz m x) : RW (n + m) L (sclR a x) :=
  ⟨tm_sclR _ _, Nat.le_trans sclR_len ha.len, by
    obtain ⟨D, X, d0, d1, d2, d3⟩ := ha.sr
    obtain ⟨E, Y, e0, e1, e2, e3⟩ := sr_sing hx
    have h1 := mul_lt d1 e1
    have h2 := mul_lt d2 e2
    refine ⟨D * E, X * Y, Nat.mul_pos d0 e0, h1, Nat.lt_of_le_of_lt (Nat.le_refl _) h2, fun i => ?_⟩
    obtain ⟨z, q1, q2⟩ := d3 i
    obtain ⟨w, q3, q4⟩ := e3 0
    refine ⟨z * w, ?_, by rw [Int.natAbs_mul]; exact Nat.mul_le_mul q2 q4⟩
    rw [co_sclR, Rat.natCast_mul, Rat.intCast_mul, ← q1, ← q3, co_zero]
    grind⟩
theorem RW.sh (ha : RW n L a) : RW n (k + L) (shR k a) := ⟨tm_shR ha.tm, Nat.le_trans shR_len (by have := ha.len; omega), by
  obtain ⟨D, X, d0, d1, d2, d3⟩ := ha.sr
  refine ⟨D, X, d0, d1, d2, fun i => ?_⟩
  unfold shR
  split
  · exact ⟨0, by rw [co_nil]; grind, by simp⟩
  · rw [co_app0]
    split
    · exact d3 _
    · exact ⟨0, by grind, by simp⟩⟩
theorem RW.sing (hx : Sz n x) (h : x ≠ 0) : RW n 1 [x] := ⟨tm_snoc_of (l := []) h, Nat.le_refl _, sr_sing hx⟩
instance : RW 1 0 [] := RW.nil
instance : RW 1 1 [1] := RW.one
instance [ha : RW n L a] [hb : RW m M b] : RW (n + m + 1) (max L M) (addR a b) := ha.add hb
instance [ha : RW n L a] [hb : RW m M b] : RW (n + m + 1) (max L M) (subR a b) := ha.sub hb
instance [ha : RW n L a] [hb : RW m M b] : RW (n + m + L) (L + M - 1) (mulR a b) := ha.mul hb
instance [ha : RW n L a] : RW n (k + L) (shR k a) := ha.sh
end
end Pm
namespace Pm
open Pl
/-! ### divisions with a rest -/
/-- what is left while the quotient's first s numbers are still in -/
def lft (q B r : List Rat) (s : Nat) : List Rat := addL (mulL (q.take s) B) r
section
variable {q B r A : List Rat} {s t k : Nat}
theorem ps_lft : ps (lft q B r s) = ps (q.take s) * ps B + ps r := by unfold lft; rw [ps_addL, ps_mulL]
theorem co_lft : co (lft q B r (t + 1)) k = co (lft q B r t) k + if t ≤ k then co q t * co B (k - t) else 0 := by
  have e : ps (lft q B r (t + 1)) = ps (lft q B r t) + mono t (co q t) * ps B := by
    rw [ps_lft, ps_lft, ps_take]
    grind
  have e2 : (ps (lft q B r (t + 1))).c k = (ps (lft q B r t) + mono t (co q t) * ps B).c k := by rw [e]
  have e3 : (mono t (co q t) * ps B).c k = if t ≤ k then co q t * co B (k - t) else 0 := cv_mono k t _ _
  rw [← e3]
  exact e2
theorem co_lft_big (h : s + B.length ≤ k + 1) (hr : r.length ≤ k) : co (lft q B r s) k = 0 := by
  have e : co (lft q B r s) k = cv (co (q.take s)) (co B) k + co r k := congrArg (fun f : Ps => f.c k) ps_lft
  rw [e, co_big hr, cv_big k s B.length (co (q.take s)) (co B) (fun i hi => co_big (by rw [List.length_take]; omega)) (fun i hi => co_big hi) h]
  grind
/-- the leading number -/
theorem co_lead (hB : 0 < B.length) (hr : r.length < B.length) : co (lft q B r (t + 1)) (t + B.length - 1) = co q t * co B (B.length - 1) := by
  rw [co_lft, if_pos (by omega), co_lft_big (by omega) (by omega), show t + B.length - 1 - t = B.length - 1 by omega]
  grind
/-- a quotient is as long as it can be -/
theorem q_len (hA : ps A = ps q * ps B + ps r) (hq : Tm q) (hB : Tm B) (hr : r.length < B.length) (h0 : q ≠ []) : q.length + B.length ≤ A.length + 1 := by
  have hql : 0 < q.length := List.length_pos_iff.mpr h0
  have hBl : B ≠ [] := fun e => by subst e; simp at hr
  have e : co A (q.length - 1 + B.length - 1) = co q (q.length - 1) * co B (B.length - 1) := by
    have e1 : co A (q.length - 1 + B.length - 1) = co (lft q B r (q.length - 1 + 1)) (q.length - 1 + B.length - 1) := by
      have : ps A = ps (lft q B r (q.length - 1 + 1)) := by rw [ps_lft, hA, List.take_of_length_le (by omega)]
      exact congrArg (fun f : Ps => f.c _) this
    rw [e1, co_lead (by omega) hr]
  have hne : co A (q.length - 1 + B.length - 1) ≠ 0 := by
    rw [e]
    have h1 := tm_last hq h0
    have h2 := tm_last hB hBl
    grind
  by_cases z : q.length - 1 + B.length - 1 < A.length
  · omega
  · exact absurd (co_big (by omega)) hne
theorem sz_lft {nq nB nr L : Nat} (h1 : Sr nq q) (h2 : Sr nB B) (h3 : Sr nr r) (hl : q.length ≤ L) : Sz (nq + nB + L + nr + 1) (co (lft q B r s) k) := by
  have e : ∀ i, co (lft q B r s) i = co (mulL (q.take s) B) i + co r i := fun i => co_addL _ _ i
  have ht : Sr nq (q.take s) := by
    obtain ⟨D, X, d0, d1, d2, d3⟩ := h1
    refine ⟨D, X, d0, d1, d2, fun i => ?_⟩
    rw [co_take]
    split
    · exact d3 i
    · exact ⟨0, by grind, by simp⟩
  exact ((ht.mulc h2 (L := L) (by rw [List.length_take]; omega) (co_mulL _ _)).addc h3 e).sz k
theorem one_pow_le {x n : Nat} (h : 1 ≤ x) : 1 ≤ x ^ n := Nat.one_le_pow _ _ h
theorem div_it {E Y : Nat} {zb : Int} (tB : Tm B) (hB : B ≠ []) (e0 : 0 < E) (iB : It E Y (co B)) (eb : co B (B.length - 1) * (E : Rat) = (zb : Rat)) (hzb : zb.natAbs ≤ Y) : ∀ (s : Nat) (A : List Rat) (D X : Nat), 0 < D → It D X (co A) → A.length ≤ B.length - 1 + s →
    ∃ (q r : List Rat), ps A = ps q * ps B + ps r ∧ q.length ≤ s ∧ r.length < B.length ∧ It (D * zb.natAbs ^ s) (X * (2 * Y) ^ s * E) (co q) ∧ It (D * zb.natAbs ^ s) (X * (2 * Y) ^ s) (co r) := by
  have hBl := List.length_pos_iff.mpr hB
  have hb := tm_last tB hB
  have hE : (E : Rat) ≠ 0 := by
    intro e
    have h1 : (E : Rat).num = 0 := by rw [e]; rfl
    simp at h1
    omega
  have hz0 : zb ≠ 0 := by
    intro e
    rw [e] at eb
    have : co B (B.length - 1) * (E : Rat) ≠ 0 := by grind
    exact this (by rw [eb]; rfl)
  have hzr : (zb : Rat) ≠ 0 := by
    intro e
    have h1 : (zb : Rat).num = 0 := by rw [e]; rfl
    simp at h1
    exact hz0 h1
  generalize hb1 : zb.natAbs = b
  have b1 : 1 ≤ b := by omega
  have bY : b ≤ Y := by omega
  obtain ⟨σ, hσ, hσ2⟩ : ∃ σ : Int, (b : Int) = σ * zb ∧ σ.natAbs = 1 := by
    by_cases h : 0 ≤ zb
    · exact ⟨1, by omega, rfl⟩
    · exact ⟨-1, by omega, rfl⟩
  have hσr : (b : Rat) = (σ : Rat) * (zb : Rat) := by
    rw [← Rat.intCast_natCast, hσ, Rat.intCast_mul]
  intro s
  induction s with
  | zero =>
    intro A D X hD hA hl
    refine ⟨[], A, by rw [ps_nil]; grind, Nat.le_refl _, by omega, fun i => ⟨0, by rw [co_nil]; grind, by simp⟩, ?_⟩
    simpa using hA
  | succ s ih =>
    intro A D X hD hA hl
    obtain ⟨c, hc⟩ : ∃ c, c = co A (B.length - 1 + s) / co B (B.length - 1) := ⟨_, rfl⟩
    have hcb : c * co B (B.length - 1) = co A (B.length - 1 + s) := by rw [hc]; grind
    obtain ⟨zt, et, hzt⟩ := hA (B.length - 1 + s)
    have hcD : c * (D : Rat) * (zb : Rat) = (zt : Rat) * (E : Rat) := by
      rw [← eb, ← et, ← hcb]
      grind
    obtain ⟨A', hA'⟩ : ∃ A', A' = (List.range (B.length - 1 + s)).map (fun k => co A k - if s ≤ k then c * co B (k - s) else 0) := ⟨_, rfl⟩
    have lA' : A'.length = B.length - 1 + s := by rw [hA']; simp
    have cA' : ∀ k, co A' k = co A k - if s ≤ k then c * co B (k - s) else 0 := fun k => by
      rw [hA']
      refine co_map (fun i hi => ?_) k
      rw [if_pos (by omega)]
      by_cases hi2 : i = B.length - 1 + s
      · subst hi2
        rw [show B.length - 1 + s - s = B.length - 1 by omega, hcb]
        grind
      · rw [co_big (l := A) (by omega), co_big (l := B) (by omega)]
        grind
    have pA' : ps A = ps A' + mono s c * ps B := Ps.ext' fun k => by
      have e3 : (mono s c * ps B).c k = if s ≤ k then c * co B (k - s) else 0 := cv_mono k s c _
      show co A k = co A' k + (mono s c * ps B).c k
      rw [e3, cA']
      grind
    have iA' : It (D * b) (X * (2 * Y)) (co A') := fun k => by
      obtain ⟨x, ex, hx⟩ := hA k
      have eX : X * (2 * Y) = X * Y + X * Y := by rw [Nat.mul_left_comm]; omega
      rw [cA', eX]
      have hxb : (x * zb).natAbs ≤ X * Y := by rw [Int.natAbs_mul]; exact Nat.mul_le_mul hx hzb
      by_cases hk : s ≤ k
      · rw [if_pos hk]
        obtain ⟨y, ey, hy⟩ := iB (k - s)
        have hty : (zt * y).natAbs ≤ X * Y := by rw [Int.natAbs_mul]; exact Nat.mul_le_mul hzt hy
        refine ⟨σ * (x * zb - zt * y), ?_, ?_⟩
        · rw [Rat.natCast_mul, hσr, Rat.intCast_mul, Rat.intCast_sub, Rat.intCast_mul, Rat.intCast_mul, ← ex, ← ey]
          have e5 : c * co B (k - s) * ((D : Rat) * ((σ : Rat) * (zb : Rat))) = (σ : Rat) * ((zt : Rat) * (co B (k - s) * (E : Rat))) := by
            have : c * co B (k - s) * ((D : Rat) * ((σ : Rat) * (zb : Rat))) = (σ : Rat) * co B (k - s) * (c * (D : Rat) * (zb : Rat)) := by grind
            rw [this, hcD]
            grind
          grind
        · rw [Int.natAbs_mul, hσ2, Nat.one_mul]
          have := Int.natAbs_sub_le (x * zb) (zt * y)
          omega
      · rw [if_neg hk]
        refine ⟨σ * (x * zb), ?_, ?_⟩
        · rw [Rat.natCast_mul, hσr, Rat.intCast_mul, Rat.intCast_mul, ← ex]
          grind
        · rw [Int.natAbs_mul, hσ2, Nat.one_mul]
          omega
    obtain ⟨q, r, p3, p4, p5, p6, p7⟩ := ih A' (D * b) (X * (2 * Y)) (Nat.mul_pos hD (by omega)) iA' (by omega)
    have eD : D * b * b ^ s = D * b ^ (s + 1) := by rw [Nat.pow_succ, Nat.mul_comm (b ^ s) b, Nat.mul_assoc]
    have eX : X * (2 * Y) * (2 * Y) ^ s = X * (2 * Y) ^ (s + 1) := by rw [Nat.pow_succ, Nat.mul_comm ((2 * Y) ^ s) (2 * Y), Nat.mul_assoc]
    rw [eD, eX] at p6 p7
    have cq : ∀ k, co ((List.range s).map (co q) ++ [c]) k = if k = s then c else co q k := fun k => by
      by_cases hk : k < s
      · rw [if_neg (by omega), co_of (q := co q k) (by rw [List.getElem?_append_left (by simpa using hk), List.getElem?_map, List.getElem?_range hk]; rfl)]
      · by_cases hk2 : k = s
        · subst hk2
          rw [if_pos rfl, co_of (q := c) (by rw [List.getElem?_append_right (by simp)]; simp)]
        · rw [if_neg hk2, co_big (by simp; omega), co_big (by omega)]
    refine ⟨(List.range s).map (co q) ++ [c], r, ?_, by simp, p5, fun k => ?_, p7⟩
    · have e6 : ps ((List.range s).map (co q) ++ [c]) = ps q + mono s c := Ps.ext' fun k => by
        show co ((List.range s).map (co q) ++ [c]) k = co q k + if k = s then c else 0
        rw [cq]
        by_cases hk : k = s
        · rw [if_pos hk, if_pos hk, hk, co_big p4]; grind
        · rw [if_neg hk, if_neg hk]; grind
      rw [pA', p3, e6]
      grind
    · rw [cq]
      by_cases hk : k = s
      · rw [if_pos hk]
        refine ⟨σ * zt * (E : Int) * ((b ^ s : Nat) : Int), ?_, ?_⟩
        · rw [Nat.pow_succ, Rat.natCast_mul, Rat.natCast_mul, hσr, Rat.intCast_mul, Rat.intCast_mul, Rat.intCast_mul, Rat.intCast_natCast, Rat.intCast_natCast]
          have : c * ((D : Rat) * (((b ^ s : Nat) : Rat) * ((σ : Rat) * (zb : Rat)))) = (σ : Rat) * ((b ^ s : Nat) : Rat) * (c * (D : Rat) * (zb : Rat)) := by grind
          rw [this, hcD]
          grind
        · rw [Int.natAbs_mul, Int.natAbs_mul, Int.natAbs_mul, hσ2, Nat.one_mul, Int.natAbs_natCast, Int.natAbs_natCast]
          have h1 : b ^ s ≤ (2 * Y) ^ s := Nat.pow_le_pow_left (by omega) s
          have h2 : (2 * Y) ^ s ≤ (2 * Y) ^ (s + 1) := Nat.pow_le_pow_right (by omega) (by omega)
          have h3 : zt.natAbs * E * b ^ s ≤ X * E * (2 * Y) ^ (s + 1) := Nat.mul_le_mul (Nat.mul_le_mul_right _ hzt) (by omega)
          rw [Nat.mul_right_comm X] at h3
          exact h3
      · rw [if_neg hk]
        exact p6 k
end
/-- every row has a quotient and a rest by a row other than nought, with sizes -/
theorem div_sr {A B : List Rat} {n m s : Nat} (tB : Tm B) (hB : B ≠ []) (sA : Sr n A) (sB : Sr m B) (hl : A.length + 1 ≤ B.length + s) :
    ∃ q r, ps A = ps q * ps B + ps r ∧ Tm q ∧ Tm r ∧ q.length ≤ s ∧ r.length < B.length ∧ Sr (n + s * (m + 1) + m) q ∧ Sr (n + s * (m + 1)) r := by
  have hBl := List.length_pos_iff.mpr hB
  obtain ⟨D, X, d0, d1, d2, d3⟩ := sA
  obtain ⟨E, Y, e0, e1, e2, e3⟩ := sB
  obtain ⟨zb, eb, hzb⟩ := e3 (B.length - 1)
  obtain ⟨q, r, p1, p2, p3, p4, p5⟩ := div_it tB hB e0 e3 eb hzb s A D X d0 d3 (by omega)
  have hz0 : zb ≠ 0 := by
    intro e
    rw [e] at eb
    have hb := tm_last tB hB
    have hE : (E : Rat) ≠ 0 := by
      intro e
      have h1 : (E : Rat).num = 0 := by rw [e]; rfl
      simp at h1
      omega
    have : co B (B.length - 1) * (E : Rat) ≠ 0 := by grind
    exact this (by rw [eb]; rfl)
  have D0 : 0 < D * zb.natAbs ^ s := Nat.mul_pos d0 (Nat.pow_pos (by omega))
  have hzs : zb.natAbs ^ s ≤ 2 ^ (m * s) := by
    rw [Nat.pow_mul]
    exact Nat.pow_le_pow_left (by omega) s
  have hYs : (2 * Y) ^ s ≤ 2 ^ (s * (m + 1)) := by
    rw [Nat.mul_comm s, Nat.pow_mul]
    refine Nat.pow_le_pow_left ?_ s
    rw [Nat.pow_succ]
    omega
  have hms : m * s ≤ s * (m + 1) := by rw [Nat.mul_comm, Nat.mul_succ]; omega
  have lt1 : ∀ {x y a b : Nat}, x < 2 ^ a → y ≤ 2 ^ b → x * y < 2 ^ (a + b) := fun {x y a b} h1 h2 => by
    rw [Nat.pow_add]
    exact Nat.lt_of_le_of_lt (Nat.mul_le_mul_left x h2) (Nat.mul_lt_mul_of_pos_right h1 (Nat.pow_pos (by omega)))
  have D1 : D * zb.natAbs ^ s < 2 ^ (n + s * (m + 1)) := Nat.lt_of_lt_of_le (lt1 d1 hzs) (Nat.pow_le_pow_right (by omega) (by omega))
  have X1 : X * (2 * Y) ^ s < 2 ^ (n + s * (m + 1)) := lt1 d2 hYs
  have X2 : X * (2 * Y) ^ s * E < 2 ^ (n + s * (m + 1) + m) := lt1 X1 (Nat.le_of_lt e1)
  refine ⟨trim q, trim r, by rw [ps_trim, ps_trim]; exact p1, tm_trim _, tm_trim _, Nat.le_trans (trim_len _) p2, Nat.lt_of_le_of_lt (trim_len _) p3, ?_, ?_⟩
  · exact Sr.trm ⟨_, _, D0, Nat.lt_of_lt_of_le D1 (Nat.pow_le_pow_right (by omega) (by omega)), X2, p4⟩
  · exact Sr.trm ⟨_, _, D0, D1, X1, p5⟩
theorem sr_ex : ∀ (l : List Rat), ∃ n, Sr n l
  | [] => ⟨1, sr_nil⟩
  | a :: l => by
    obtain ⟨n, h⟩ := sr_ex l
    have ha : ∃ m, Sz m a := by
      obtain ⟨m, hm⟩ : ∃ m, m = a.num.natAbs + a.den := ⟨_, rfl⟩
      have := two_lt m
      exact ⟨m, by omega, by omega⟩
    obtain ⟨m, ha⟩ := ha
    obtain ⟨D, X, d0, d1, d2, d3⟩ := h
    exact ⟨_, Sr.addc (a := [a]) (b := 0 :: l) (sr_sing ha) ⟨D, X, d0, d1, d2, fun i => by
      cases i with
      | zero => exact ⟨0, by rw [co_zero]; grind, by simp⟩
      | succ i => exact d3 i⟩ fun i => by
      cases i with
      | zero => rw [co_zero, co_zero, co_zero]; grind
      | succ i => rw [co_succ, co_succ, co_succ, co_nil]; grind⟩
theorem div_any {A B : List Rat} (tB : Tm B) (hB : B ≠ []) : ∃ p : List Rat × List Rat, ps A = ps p.1 * ps B + ps p.2 ∧ Tm p.1 ∧ Tm p.2 ∧ p.2.length < B.length := by
  obtain ⟨n, hA⟩ := sr_ex A
  obtain ⟨m, hBs⟩ := sr_ex B
  obtain ⟨q, r, h1, h2, h3, _, h5, _⟩ := div_sr (s := A.length + 1) tB hB hA hBs (by omega)
  exact ⟨(q, r), h1, h2, h3, h5⟩
/-- quotient and rest, one and the same -/
theorem div_uniq {q r q' r' B : List Rat} (tB : Tm B) (h : ps q * ps B + ps r = ps q' * ps B + ps r') (tq : Tm q) (tr : Tm r) (tq' : Tm q') (tr' : Tm r') (l : r.length < B.length) (l' : r'.length < B.length) : q = q' ∧ r = r' := by
  have e1 : subR q q' = [] := by
    by_cases z : subR q q' = []
    · exact z
    · have := q_len (A := subR r' r) (q := subR q q') (B := B) (r := []) (by rw [ps_nil, ps_subR, ps_subR]; grind) (tm_subR _ _) tB (by simp; omega) z
      have h2 : (subR r' r).length ≤ max r'.length r.length := subR_len
      have h3 := List.length_pos_iff.mpr z
      omega
  have e2 : ps q = ps q' := by
    have := ps_subR q q'
    rw [e1, ps_nil] at this
    grind
  refine ⟨tq.eq tq' e2, tr.eq tr' ?_⟩
  rw [e2] at h
  grind
noncomputable def divX (A B : List Rat) : List Rat × List Rat := open Classical in if h : Tm B ∧ B ≠ [] then Classical.choose (div_any (A := A) h.1 h.2) else ([], A)
noncomputable def quoR (A B : List Rat) : List Rat := (divX A B).1
noncomputable def modR (A B : List Rat) : List Rat := (divX A B).2
section
variable {A B q r : List Rat}
theorem div_spec (A : List Rat) (tB : Tm B) (hB : B ≠ []) : ps A = ps (quoR A B) * ps B + ps (modR A B) ∧ Tm (quoR A B) ∧ Tm (modR A B) ∧ (modR A B).length < B.length := by
  unfold quoR modR divX
  rw [dif_pos ⟨tB, hB⟩]
  exact Classical.choose_spec (div_any (A := A) tB hB)
theorem div_is (tB : Tm B) (h : ps A = ps q * ps B + ps r) (tq : Tm q) (tr : Tm r) (l : r.length < B.length) : quoR A B = q ∧ modR A B = r := by
  have hB : B ≠ [] := fun e => by subst e; simp at l
  obtain ⟨h1, h2, h3, h4⟩ := div_spec A tB hB
  exact div_uniq tB (h1.symm.trans h) h2 h3 tq tr h4 l
theorem div_sz {n m s : Nat} (tB : Tm B) (hB : B ≠ []) (sA : Sr n A) (sB : Sr m B) (hl : A.length + 1 ≤ B.length + s) : (quoR A B).length ≤ s ∧ Sr (n + s * (m + 1) + m) (quoR A B) ∧ Sr (n + s * (m + 1)) (modR A B) := by
  obtain ⟨q, r, h1, h2, h3, h4, h5, h6, h7⟩ := div_sr tB hB sA sB hl
  obtain ⟨e1, e2⟩ := div_is tB h1 h2 h3 h5
  rw [e1, e2]
  exact ⟨h4, h6, h7⟩
end
end Pm
namespace Pm
open Pl
/-! ### products have no noughts -/
section
variable {a b g h q r : List Rat}
theorem mulR_length (ha : Tm a) (hb : Tm b) (a0 : a ≠ []) (b0 : b ≠ []) : (mulR a b).length + 1 = a.length + b.length := by
  have h1 := q_len (A := mulR a b) (q := a) (B := b) (r := []) (by rw [ps_mulR, ps_nil]; grind) ha hb (List.length_pos_iff.mpr b0) a0
  have h2 : (mulR a b).length ≤ a.length + b.length - 1 := mulR_len
  have h3 := List.length_pos_iff.mpr a0
  omega
theorem mulR_ne (ha : Tm a) (hb : Tm b) (a0 : a ≠ []) (b0 : b ≠ []) : mulR a b ≠ [] := fun e => by
  have := mulR_length ha hb a0 b0
  rw [e] at this
  have h1 := List.length_pos_iff.mpr a0
  have h2 := List.length_pos_iff.mpr b0
  simp at this
  omega
theorem ps_zero (ha : Tm a) (h : ps a = 0) : a = [] := ha.eq tm_nil (by rw [h, ps_nil])
theorem ps_ne (ha : Tm a) (h : a ≠ []) : ps a ≠ 0 := fun e => h (ps_zero ha e)
theorem mul_zero_or (ha : Tm a) (hb : Tm b) (h : ps a * ps b = 0) : a = [] ∨ b = [] := by
  by_cases a0 : a = []
  · exact .inl a0
  · by_cases b0 : b = []
    · exact .inr b0
    · exact absurd (ps_zero (tm_mulR a b) (by rw [ps_mulR]; exact h)) (mulR_ne ha hb a0 b0)
theorem mul_cancel (ha : Tm a) (hb : Tm b) (hh : Tm h) (h0 : h ≠ []) (e : ps a * ps h = ps b * ps h) : a = b := by
  have : subR a b = [] := by
    rcases mul_zero_or (tm_subR a b) hh (by rw [ps_subR]; grind) with z | z
    · exact z
    · exact absurd z h0
  have e2 := ps_subR a b
  rw [this, ps_nil] at e2
  exact ha.eq hb (by grind)
theorem psmul_cancel {f : Ps} {a b : List Rat} (ha : Tm a) (hb : Tm b) (hh : Tm h) (h0 : h ≠ []) (e : ps a * ps h = ps b * ps h) : ps a = ps b := by rw [mul_cancel ha hb hh h0 e]
/-! ### which divide -/
def Dv (g a : List Rat) : Prop := ∃ q : List Rat, Tm q ∧ ps a = ps q * ps g
theorem dv_of {g a q : List Rat} (h : ps a = ps q * ps g) : Dv g a := ⟨trim q, tm_trim _, by rw [ps_trim]; exact h⟩
theorem dv_nil : Dv g [] := ⟨[], tm_nil, by rw [ps_nil]; grind⟩
theorem dv_refl : Dv g g := ⟨[1], tm_one, by rw [ps_one]; grind⟩
theorem Dv.trans {c : List Rat} (h1 : Dv a b) (h2 : Dv b c) : Dv a c := by
  obtain ⟨q, _, e1⟩ := h1
  obtain ⟨p, _, e2⟩ := h2
  exact dv_of (q := mulR p q) (by rw [ps_mulR, e2, e1]; grind)
theorem dv_mul {c : List Rat} (h : Dv g a) : Dv g (mulR c a) := by
  obtain ⟨q, _, e⟩ := h
  exact dv_of (q := mulR c q) (by rw [ps_mulR, ps_mulR, e]; grind)
theorem dv_iff {A B : List Rat} (tB : Tm B) (hB : B ≠ []) : Dv B A ↔ modR A B = [] := by
  obtain ⟨h1, h2, h3, h4⟩ := div_spec A tB hB
  refine ⟨fun ⟨q, tq, e⟩ => (div_is tB (r := []) (by rw [ps_nil, e]; grind) tq tm_nil (List.length_pos_iff.mpr hB)).2, fun e => ⟨_, h2, ?_⟩⟩
  rw [e, ps_nil] at h1
  rw [h1]
  grind
theorem quo_mul {A B : List Rat} (tB : Tm B) (hB : B ≠ []) (tA : Tm A) (h : Dv B A) : mulR (quoR A B) B = A := by
  obtain ⟨h1, h2, h3, h4⟩ := div_spec A tB hB
  rw [(dv_iff tB hB).mp h, ps_nil] at h1
  exact (tm_mulR _ _).eq tA (by rw [ps_mulR, h1]; grind)
theorem quo_is {A B : List Rat} (tB : Tm B) (hB : B ≠ []) (tq : Tm q) (e : ps A = ps q * ps B) : quoR A B = q := (div_is tB (r := []) (by rw [ps_nil, e]; grind) tq tm_nil (List.length_pos_iff.mpr hB)).1
/-- the same factor in both -/
theorem div_fac {A B : List Rat} (th : Tm h) (h0 : h ≠ []) (tB : Tm B) (hB : B ≠ []) : quoR (mulR h A) (mulR h B) = quoR A B ∧ modR (mulR h A) (mulR h B) = mulR h (modR A B) := by
  obtain ⟨h1, h2, h3, h4⟩ := div_spec A tB hB
  refine div_is (tm_mulR _ _) (by rw [ps_mulR, ps_mulR, ps_mulR, h1]; grind) h2 (tm_mulR _ _) ?_
  have e1 := mulR_length th tB h0 hB
  by_cases z : modR A B = []
  · have : mulR h (modR A B) = [] := ps_zero (tm_mulR _ _) (by rw [ps_mulR, z, ps_nil]; grind)
    rw [this]
    exact List.length_pos_iff.mpr (mulR_ne th tB h0 hB)
  · have e2 := mulR_length th h3 h0 z
    omega
/-! ### Euclid -/
noncomputable def gcdS : Nat → List Rat → List Rat → List Rat
  | 0, a, _ => a
  | k + 1, a, b => open Classical in if b = [] then a else gcdS k b (modR a b)
theorem gcdS_nil (k : Nat) : gcdS k a [] = a := by
  cases k with
  | zero => rfl
  | succ k => show (if [] = [] then a else _) = a; rw [if_pos rfl]
theorem gcdS_more : ∀ (k j : Nat) (a b : List Rat), Tm b → b.length ≤ k → b.length ≤ j → gcdS k a b = gcdS j a b
  | k, j, a, b, tb, hk, hj => by
    by_cases b0 : b = []
    · rw [b0, gcdS_nil, gcdS_nil]
    · have hl := List.length_pos_iff.mpr b0
      obtain ⟨k, rfl⟩ : ∃ i, k = i + 1 := ⟨k - 1, by omega⟩
      obtain ⟨j, rfl⟩ : ∃ i, j = i + 1 := ⟨j - 1, by omega⟩
      obtain ⟨_, _, h3, h4⟩ := div_spec a tb b0
      show (if b = [] then a else gcdS k b (modR a b)) = if b = [] then a else gcdS j b (modR a b)
      rw [if_neg b0, if_neg b0, gcdS_more k j b (modR a b) h3 (by omega) (by omega)]
noncomputable def gcdU (a b : List Rat) : List Rat := gcdS b.length a b
theorem gcdU_nil : gcdU a [] = a := rfl
theorem gcdU_step (tb : Tm b) (b0 : b ≠ []) : gcdU a b = gcdU b (modR a b) := by
  have hl := List.length_pos_iff.mpr b0
  obtain ⟨_, _, h3, h4⟩ := div_spec a tb b0
  unfold gcdU
  obtain ⟨k, hk⟩ : ∃ i, b.length = i + 1 := ⟨b.length - 1, by omega⟩
  rw [hk]
  show (if b = [] then a else gcdS k b (modR a b)) = _
  rw [if_neg b0, gcdS_more k _ b (modR a b) h3 (by omega) (Nat.le_refl _)]
/-- along Euclid's way -/
theorem euclid_ind {P : List Rat → List Rat → Prop} (h0 : ∀ a, Tm a → P a []) (hs : ∀ a b, Tm a → Tm b → b ≠ [] → P b (modR a b) → P a b) : ∀ (n : Nat) (a b : List Rat), b.length ≤ n → Tm a → Tm b → P a b
  | n, a, b, hn, ta, tb => by
    by_cases b0 : b = []
    · rw [b0]; exact h0 a ta
    · have hl := List.length_pos_iff.mpr b0
      obtain ⟨n, rfl⟩ : ∃ i, n = i + 1 := ⟨n - 1, by omega⟩
      obtain ⟨_, _, h3, h4⟩ := div_spec a tb b0
      exact hs a b ta tb b0 (euclid_ind h0 hs n b (modR a b) (by omega) tb h3)
theorem gcdU_spec (ta : Tm a) (tb : Tm b) : Tm (gcdU a b) ∧ Dv (gcdU a b) a ∧ Dv (gcdU a b) b ∧ (∃ u v : List Rat, ps (gcdU a b) = ps u * ps a + ps v * ps b) ∧ (gcdU a b = [] → a = [] ∧ b = []) := by
  refine euclid_ind (P := fun a b => Tm (gcdU a b) ∧ Dv (gcdU a b) a ∧ Dv (gcdU a b) b ∧ (∃ u v : List Rat, ps (gcdU a b) = ps u * ps a + ps v * ps b) ∧ (gcdU a b = [] → a = [] ∧ b = [])) ?_ ?_ b.length a b (Nat.le_refl _) ta tb
  · intro a ta
    rw [gcdU_nil]
    exact ⟨ta, dv_refl, dv_nil, ⟨[1], [], by rw [ps_one, ps_nil]; grind⟩, fun e => ⟨e, rfl⟩⟩
  · intro a b ta tb b0 ⟨h1, h2, h3, ⟨u, v, h4⟩, h5⟩
    rw [gcdU_step tb b0]
    obtain ⟨e1, _, _, _⟩ := div_spec a tb b0
    obtain ⟨q1, _, e2⟩ := h2
    obtain ⟨q2, _, e3⟩ := h3
    refine ⟨h1, dv_of (q := addR (mulR (quoR a b) q1) q2) (by rw [ps_addR, ps_mulR, e1]; grind), ⟨q1, ‹_›, e2⟩, ⟨v, subR u (mulR v (quoR a b)), ?_⟩, fun e => absurd (h5 e).1 b0⟩
    rw [h4, ps_subR, ps_mulR]
    have : ps (modR a b) = ps a - ps (quoR a b) * ps b := by rw [e1]; grind
    rw [this]
    grind
theorem gcdU_fac (th : Tm h) (h0 : h ≠ []) (ta : Tm a) (tb : Tm b) : gcdU (mulR h a) (mulR h b) = mulR h (gcdU a b) := by
  refine euclid_ind (P := fun a b => gcdU (mulR h a) (mulR h b) = mulR h (gcdU a b)) ?_ ?_ b.length a b (Nat.le_refl _) ta tb
  · intro a ta
    have : mulR h [] = [] := ps_zero (tm_mulR _ _) (by rw [ps_mulR, ps_nil]; grind)
    rw [this, gcdU_nil, gcdU_nil]
  · intro a b ta tb b0 ih
    rw [gcdU_step (tm_mulR _ _) (mulR_ne th tb h0 b0), (div_fac th h0 tb b0).2, ih, gcdU_step tb b0]
end
/-! ### the first number that is not 0 -/
def fnz : List Rat → Rat
  | [] => 1
  | a :: l => if a = 0 then fnz l else a
def Fz (k : Nat) (c : Rat) (f : Nat → Rat) : Prop := (∀ i, i < k → f i = 0) ∧ f k = c ∧ c ≠ 0
theorem fz_fnz : ∀ {l : List Rat}, Tm l → l ≠ [] → ∃ k, Fz k (fnz l) (co l)
  | [], _, h => absurd rfl h
  | a :: l, t, _ => by
    by_cases ha : a = 0
    · subst ha
      have hl : l ≠ [] := fun e => by
        subst e
        exact tm_snoc (l := []) t rfl
      have tl : Tm l := tm_of_last fun h0 => by
        have := tm_last t (by simp)
        have e : (0 :: l).length - 1 = (l.length - 1) + 1 := by have := List.length_pos_iff.mpr hl; simp; omega
        rw [e, co_succ] at this
        exact this
      obtain ⟨k, h1, h2, h3⟩ := fz_fnz tl hl
      have e : fnz (0 :: l) = fnz l := by show (if (0 : Rat) = 0 then fnz l else 0) = _; rw [if_pos rfl]
      rw [e]
      refine ⟨k + 1, fun i hi => ?_, h2, h3⟩
      cases i with
      | zero => rfl
      | succ i => exact h1 i (by omega)
    · have e : fnz (a :: l) = a := by show (if a = 0 then fnz l else a) = _; rw [if_neg ha]
      rw [e]
      exact ⟨0, fun i hi => absurd hi (by omega), rfl, ha⟩
theorem Fz.uniq {k j : Nat} {c d : Rat} {f : Nat → Rat} (h : Fz k c f) (h2 : Fz j d f) : c = d := by
  have : k = j := by
    rcases Nat.lt_trichotomy k j with z | z | z
    · exact absurd (h2.1 k z) (by rw [h.2.1]; exact h.2.2)
    · exact z
    · exact absurd (h.1 j z) (by rw [h2.2.1]; exact h2.2.2)
  subst this
  exact h.2.1.symm.trans h2.2.1
theorem cv_low : ∀ (k : Nat) (f g : Nat → Rat), (∀ i, i ≤ k → g i = 0) → cv f g k = 0
  | 0, f, g, h => by show f 0 * g 0 = 0; rw [h 0 (by omega)]; grind
  | k + 1, f, g, h => by
    show f 0 * g (k + 1) + cv (tl f) g k = 0
    rw [h (k + 1) (by omega), cv_low k (tl f) g fun i hi => h i (by omega)]
    grind
theorem Fz.mul : ∀ (k m : Nat) {c d : Rat} {f g : Nat → Rat}, Fz k c f → Fz m d g → Fz (k + m) (c * d) (cv f g)
  | 0, m, c, d, f, g, h1, h2 => by
    refine ⟨fun i hi => cv_low i f g fun j hj => h2.1 j (by omega), ?_, by have := h1.2.2; have := h2.2.2; grind⟩
    rw [Nat.zero_add]
    cases m with
    | zero => show f 0 * g 0 = _; rw [h1.2.1, h2.2.1]
    | succ m =>
      show f 0 * g (m + 1) + cv (tl f) g m = _
      rw [h1.2.1, h2.2.1, cv_low m (tl f) g fun j hj => h2.1 j (by omega)]
      grind
  | k + 1, m, c, d, f, g, h1, h2 => by
    have h3 : Fz k c (tl f) := ⟨fun i hi => h1.1 (i + 1) (by omega), h1.2.1, h1.2.2⟩
    obtain ⟨p1, p2, p3⟩ := Fz.mul k m h3 h2
    have f0 : f 0 = 0 := h1.1 0 (by omega)
    have step : ∀ i, cv f g (i + 1) = cv (tl f) g i := fun i => by
      show f 0 * g (i + 1) + cv (tl f) g i = _
      rw [f0]
      grind
    refine ⟨fun i hi => ?_, ?_, p3⟩
    · cases i with
      | zero => show f 0 * g 0 = 0; rw [f0]; grind
      | succ i => rw [step]; exact p1 i (by omega)
    · rw [show k + 1 + m = k + m + 1 by omega, step, p2]
section
variable {a b g l : List Rat} {x : Rat}
theorem fnz_ne : ∀ {l : List Rat}, fnz l ≠ 0
  | [] => by decide
  | a :: l => by
    show (if a = 0 then fnz l else a) ≠ 0
    split
    · exact fnz_ne
    · assumption
theorem fnz_mul (ta : Tm a) (tb : Tm b) (a0 : a ≠ []) (b0 : b ≠ []) : fnz (mulR a b) = fnz a * fnz b := by
  obtain ⟨k, h1⟩ := fz_fnz ta a0
  obtain ⟨m, h2⟩ := fz_fnz tb b0
  obtain ⟨n, h3⟩ := fz_fnz (tm_mulR a b) (mulR_ne ta tb a0 b0)
  have e : co (mulR a b) = cv (co a) (co b) := funext (co_mulR a b)
  rw [e] at h3
  exact h3.uniq (Fz.mul k m h1 h2)
theorem sclR_mul : sclR a x = mulR (sclR [1] x) a := (tm_sclR _ _).eq (tm_mulR _ _) (by rw [ps_mulR, ps_sclR, ps_sclR, ps_one]; grind)
theorem sclR_ne (ta : Tm a) (a0 : a ≠ []) (hx : x ≠ 0) : sclR a x ≠ [] := fun e => by
  have h1 := tm_last ta a0
  have h2 := co_sclR a x (a.length - 1)
  rw [e, co_nil] at h2
  grind
theorem sclR_length (ta : Tm a) (hx : x ≠ 0) : (sclR a x).length = a.length := by
  by_cases a0 : a = []
  · subst a0; exact Nat.le_antisymm sclR_len (Nat.zero_le _)
  · have h1 := tm_last ta a0
    have h2 := co_sclR a x (a.length - 1)
    have h3 : (sclR a x).length ≤ a.length := sclR_len
    have h4 := List.length_pos_iff.mpr a0
    by_cases z : a.length - 1 < (sclR a x).length
    · omega
    · rw [co_big (by omega)] at h2
      grind
theorem fnz_scl (ta : Tm a) (a0 : a ≠ []) (hx : x ≠ 0) : fnz (sclR a x) = x * fnz a := by
  obtain ⟨k, h1⟩ := fz_fnz ta a0
  obtain ⟨n, h3⟩ := fz_fnz (tm_sclR a x) (sclR_ne ta a0 hx)
  refine h3.uniq (k := n) (j := k) ⟨fun i hi => ?_, ?_, ?_⟩
  · rw [co_sclR, h1.1 i hi]; grind
  · rw [co_sclR, h1.2.1]
  · have := h1.2.2; grind
theorem sclR_scl {y : Rat} : sclR (sclR a x) y = sclR a (x * y) := (tm_sclR _ _).eq (tm_sclR _ _) (Ps.ext' fun k => by
  show co _ k = co _ k
  rw [co_sclR, co_sclR, co_sclR]
  grind)
theorem sclR_one (ta : Tm a) : sclR a 1 = a := (tm_sclR _ _).eq ta (Ps.ext' fun k => by
  show co _ k = co _ k
  rw [co_sclR]
  grind)
/-- a row over its first number that is not 0 -/
def lowR (l : List Rat) : List Rat := sclR l (1 / fnz l)
theorem tm_lowR : Tm (lowR l) := tm_sclR _ _
theorem inv_ne {y : Rat} (h : y ≠ 0) : 1 / y ≠ 0 := fun e => by
  have : 1 / y * y = 1 := Rat.div_mul_cancel h
  rw [e] at this
  grind
theorem lowR_ne (ta : Tm a) (a0 : a ≠ []) : lowR a ≠ [] := sclR_ne ta a0 (inv_ne fnz_ne)
theorem fnz_low (ta : Tm a) (a0 : a ≠ []) : fnz (lowR a) = 1 := by
  unfold lowR
  rw [fnz_scl ta a0 (inv_ne fnz_ne)]
  exact Rat.div_mul_cancel fnz_ne
theorem low_scl (ta : Tm a) (hx : x ≠ 0) : lowR (sclR a x) = lowR a := by
  by_cases a0 : a = []
  · subst a0
    have : sclR [] x = [] := List.length_eq_zero_iff.mp (Nat.le_antisymm sclR_len (Nat.zero_le _))
    rw [this]
  · unfold lowR
    rw [fnz_scl ta a0 hx, sclR_scl]
    congr 1
    have := fnz_ne (l := a)
    grind
theorem low_self (ta : Tm a) (h : fnz a = 1) : lowR a = a := by
  unfold lowR
  rw [h]
  have : (1 : Rat) / 1 = 1 := by decide +kernel
  rw [this, sclR_one ta]
theorem low_mul (ta : Tm a) (tb : Tm b) (a0 : a ≠ []) (b0 : b ≠ []) : lowR (mulR a b) = mulR (lowR a) (lowR b) := by
  unfold lowR
  refine (tm_sclR _ _).eq (tm_mulR _ _) ?_
  rw [fnz_mul ta tb a0 b0, ps_mulR, ps_sclR, ps_sclR, ps_sclR, ps_mulR]
  have : mono 0 (1 / (fnz a * fnz b)) = mono 0 (1 / fnz a) * mono 0 (1 / fnz b) := by
    rw [mono_mul]
    congr 1
    have := fnz_ne (l := a)
    have := fnz_ne (l := b)
    grind
  rw [this]
  grind
theorem dv_low : Dv (lowR a) a := by
  refine dv_of (q := sclR [1] (fnz a)) ?_
  unfold lowR
  rw [ps_sclR, ps_sclR, ps_one]
  have e : mono 0 (fnz a) * mono 0 (1 / fnz a) = 1 := by
    rw [mono_mul]
    have : fnz a * (1 / fnz a) = 1 := by have := fnz_ne (l := a); grind
    rw [this]
    refine Ps.ext' fun k => ?_
    rw [Ps.one_c]
    rfl
  have : mono 0 (fnz a) * 1 * (mono 0 (1 / fnz a) * ps a) = (mono 0 (fnz a) * mono 0 (1 / fnz a)) * ps a := by grind
  rw [this, e]
  grind
theorem low_dv : Dv a (lowR a) := dv_of (q := sclR [1] (1 / fnz a)) (by unfold lowR; rw [ps_sclR, ps_sclR, ps_one]; grind)
/-- rows that divide one another -/
theorem dv_both (ta : Tm a) (tb : Tm b) (h1 : Dv a b) (h2 : Dv b a) : lowR a = lowR b := by
  by_cases a0 : a = []
  · subst a0
    obtain ⟨q, _, e⟩ := h1
    have : b = [] := ps_zero tb (by rw [e, ps_nil]; grind)
    rw [this]
  · obtain ⟨q, tq, e⟩ := h1
    obtain ⟨p, tp, e2⟩ := h2
    have b0 : b ≠ [] := fun z => by
      subst z
      exact a0 (ps_zero ta (by rw [e2, ps_nil]; grind))
    have e3 : mulR p q = [1] := by
      refine mul_cancel (tm_mulR _ _) tm_one ta a0 ?_
      rw [ps_mulR, ps_one]
      conv => rhs; rw [e2, e]
      grind
    have q0 : q ≠ [] := fun z => by
      subst z
      have : mulR p [] = [] := ps_zero (tm_mulR _ _) (by rw [ps_mulR, ps_nil]; grind)
      rw [this] at e3
      cases e3
    have p0 : p ≠ [] := fun z => by
      subst z
      have : mulR [] q = [] := ps_zero (tm_mulR _ _) (by rw [ps_mulR, ps_nil]; grind)
      rw [this] at e3
      cases e3
    have l := mulR_length tp tq p0 q0
    rw [e3] at l
    have l1 := List.length_pos_iff.mpr p0
    have l2 := List.length_pos_iff.mpr q0
    have l3 : q.length = 1 := by simp at l; omega
    obtain ⟨x, rfl⟩ : ∃ x, q = [x] := by
      match q, l3 with
      | [x], _ => exact ⟨x, rfl⟩
    have hx : x ≠ 0 := tm_snoc (l := []) tq
    have : b = sclR a x := tb.eq (tm_sclR _ _) (by
      rw [e, ps_sclR]
      congr 1
      refine Ps.ext' fun k => ?_
      cases k with
      | zero => rfl
      | succ k => rfl)
    rw [this, low_scl ta hx]
noncomputable def gcdR (a b : List Rat) : List Rat := lowR (gcdU a b)
theorem gcdR_spec (ta : Tm a) (tb : Tm b) (h : a ≠ [] ∨ b ≠ []) : Tm (gcdR a b) ∧ gcdR a b ≠ [] ∧ fnz (gcdR a b) = 1 ∧ Dv (gcdR a b) a ∧ Dv (gcdR a b) b ∧ ∃ u v : List Rat, ps (gcdR a b) = ps u * ps a + ps v * ps b := by
  obtain ⟨h1, h2, h3, ⟨u, v, h4⟩, h5⟩ := gcdU_spec ta tb
  have h0 : gcdU a b ≠ [] := fun e => by
    obtain ⟨e1, e2⟩ := h5 e
    rcases h with z | z
    · exact z e1
    · exact z e2
  refine ⟨tm_lowR, lowR_ne h1 h0, fnz_low h1 h0, dv_low.trans h2, dv_low.trans h3, sclR u (1 / fnz (gcdU a b)), sclR v (1 / fnz (gcdU a b)), ?_⟩
  unfold gcdR lowR
  rw [ps_sclR, ps_sclR, ps_sclR, h4]
  grind
theorem gcdR_is (ta : Tm a) (tb : Tm b) (tg : Tm g) (hg : fnz g = 1) (h1 : Dv g a) (h2 : Dv g b) {u v : List Rat} (h3 : ps g = ps u * ps a + ps v * ps b) : gcdR a b = g := by
  obtain ⟨p1, p2, p3, ⟨w, z, p4⟩, p5⟩ := gcdU_spec ta tb
  have d1 : Dv (gcdU a b) g := by
    obtain ⟨q1, _, e1⟩ := p2
    obtain ⟨q2, _, e2⟩ := p3
    exact dv_of (q := addR (mulR u q1) (mulR v q2)) (by rw [ps_addR, ps_mulR, ps_mulR, h3, e1, e2]; grind)
  have d2 : Dv g (gcdU a b) := by
    obtain ⟨q1, _, e1⟩ := h1
    obtain ⟨q2, _, e2⟩ := h2
    exact dv_of (q := addR (mulR w q1) (mulR z q2)) (by rw [ps_addR, ps_mulR, ps_mulR, p4, e1, e2]; grind)
  unfold gcdR
  rw [dv_both p1 tg d1 d2, low_self tg hg]
theorem gcdR_comm (ta : Tm a) (tb : Tm b) (h : a ≠ [] ∨ b ≠ []) : gcdR b a = gcdR a b := by
  obtain ⟨h1, h2, h3, h4, h5, u, v, h6⟩ := gcdR_spec ta tb h
  exact gcdR_is tb ta h1 h3 h5 h4 (u := v) (v := u) (by rw [h6]; grind)
end
end Pm
namespace Pm
open Pl
/-! ### what is left on the way of a division, with sizes -/
section
variable {q B r A : List Rat} {n m s t k : Nat}
theorem lft_it {D E X Y : Nat} {zb : Int} (tB : Tm B) (hB : B ≠ []) (hr : r.length < B.length) (e0 : 0 < E) (iB : It E Y (co B)) (eb : co B (B.length - 1) * (E : Rat) = (zb : Rat)) (hzb : zb.natAbs ≤ Y) (iA : It D X (co (lft q B r (t + 1)))) :
    It (D * zb.natAbs) (X * (2 * Y)) (co (lft q B r t)) ∧ ∃ z : Int, co q t * ((D * zb.natAbs : Nat) : Rat) = (z : Rat) ∧ z.natAbs ≤ X * E := by
  have hBl := List.length_pos_iff.mpr hB
  have hb := tm_last tB hB
  obtain ⟨σ, hσ, hσ2⟩ : ∃ σ : Int, (zb.natAbs : Int) = σ * zb ∧ σ.natAbs = 1 := by
    by_cases h : 0 ≤ zb
    · exact ⟨1, by omega, rfl⟩
    · exact ⟨-1, by omega, rfl⟩
  have hσr : (zb.natAbs : Rat) = (σ : Rat) * (zb : Rat) := by
    rw [← Rat.intCast_natCast, hσ, Rat.intCast_mul]
  have hlead := co_lead (q := q) (t := t) hBl hr
  obtain ⟨zt, et, hzt⟩ := iA (t + B.length - 1)
  have hcD : co q t * (D : Rat) * (zb : Rat) = (zt : Rat) * (E : Rat) := by
    rw [← eb, ← et, hlead]
    grind
  refine ⟨fun k => ?_, σ * zt * (E : Int), ?_, ?_⟩
  · have e1 := co_lft (q := q) (B := B) (r := r) (t := t) (k := k)
    obtain ⟨x, ex, hx⟩ := iA k
    have eX : X * (2 * Y) = X * Y + X * Y := by rw [Nat.mul_left_comm]; omega
    rw [eX]
    have hxb : (x * zb).natAbs ≤ X * Y := by rw [Int.natAbs_mul]; exact Nat.mul_le_mul hx hzb
    by_cases hk : t ≤ k
    · rw [if_pos hk] at e1
      obtain ⟨y, ey, hy⟩ := iB (k - t)
      have hty : (zt * y).natAbs ≤ X * Y := by rw [Int.natAbs_mul]; exact Nat.mul_le_mul hzt hy
      refine ⟨σ * (x * zb - zt * y), ?_, ?_⟩
      · rw [Rat.natCast_mul, hσr, Rat.intCast_mul, Rat.intCast_sub, Rat.intCast_mul, Rat.intCast_mul, ← ex, ← ey]
        have e5 : co q t * co B (k - t) * ((D : Rat) * ((σ : Rat) * (zb : Rat))) = (σ : Rat) * ((zt : Rat) * (co B (k - t) * (E : Rat))) := by
          have : co q t * co B (k - t) * ((D : Rat) * ((σ : Rat) * (zb : Rat))) = (σ : Rat) * co B (k - t) * (co q t * (D : Rat) * (zb : Rat)) := by grind
          rw [this, hcD]
          grind
        grind
      · rw [Int.natAbs_mul, hσ2, Nat.one_mul]
        have := Int.natAbs_sub_le (x * zb) (zt * y)
        omega
    · rw [if_neg hk] at e1
      refine ⟨σ * (x * zb), ?_, ?_⟩
      · rw [Rat.natCast_mul, hσr, Rat.intCast_mul, Rat.intCast_mul, ← ex]
        grind
      · rw [Int.natAbs_mul, hσ2, Nat.one_mul]
        omega
  · rw [Rat.natCast_mul, hσr, Rat.intCast_mul, Rat.intCast_mul, Rat.intCast_natCast]
    have : co q t * ((D : Rat) * ((σ : Rat) * (zb : Rat))) = (σ : Rat) * (co q t * (D : Rat) * (zb : Rat)) := by grind
    rw [this, hcD]
    grind
  · rw [Int.natAbs_mul, Int.natAbs_mul, hσ2, Nat.one_mul, Int.natAbs_natCast]
    exact Nat.mul_le_mul_right _ hzt
theorem lft_sr (hA : ps A = ps q * ps B + ps r) (tB : Tm B) (hB : B ≠ []) (hr : r.length < B.length) (sA : Sr n A) (sB : Sr m B) (hl : q.length ≤ s) : (∀ t, Sr (n + s * (m + 1)) (lft q B r t)) ∧ ∀ t, Sz (n + s * (m + 1) + m) (co q t) := by
  obtain ⟨D, X, d0, d1, d2, d3⟩ := sA
  obtain ⟨E, Y, e0, e1, e2, e3⟩ := sB
  obtain ⟨zb, eb, hzb⟩ := e3 (B.length - 1)
  have hb := tm_last tB hB
  have hz0 : zb ≠ 0 := by
    intro e
    rw [e] at eb
    have hE : (E : Rat) ≠ 0 := by
      intro e
      have h1 : (E : Rat).num = 0 := by rw [e]; rfl
      simp at h1
      omega
    have : co B (B.length - 1) * (E : Rat) ≠ 0 := by grind
    exact this (by rw [eb]; rfl)
  have big : ∀ t, s ≤ t → It D X (co (lft q B r t)) := fun t ht i => by
    have : ps A = ps (lft q B r t) := by rw [ps_lft, hA, List.take_of_length_le (by omega)]
    have e : co (lft q B r t) i = co A i := congrArg (fun f : Ps => f.c i) this.symm
    rw [e]
    exact d3 i
  have all : ∀ j, j ≤ s → It (D * zb.natAbs ^ j) (X * (2 * Y) ^ j) (co (lft q B r (s - j))) := by
    intro j
    induction j with
    | zero => intro _; simpa using big s (Nat.le_refl _)
    | succ j ih =>
      intro hj
      have h1 := ih (by omega)
      have e : s - j = (s - (j + 1)) + 1 := by omega
      rw [e] at h1
      have := (lft_it tB hB hr e0 e3 eb hzb h1).1
      rw [Nat.mul_assoc, Nat.mul_assoc, ← Nat.pow_succ, ← Nat.pow_succ] at this
      exact this
  have lt1 : ∀ {x y a b : Nat}, x < 2 ^ a → y ≤ 2 ^ b → x * y < 2 ^ (a + b) := fun {x y a b} h1 h2 => by
    rw [Nat.pow_add]
    exact Nat.lt_of_le_of_lt (Nat.mul_le_mul_left x h2) (Nat.mul_lt_mul_of_pos_right h1 (Nat.pow_pos (by omega)))
  have hzs : ∀ j, zb.natAbs ^ j ≤ 2 ^ (j * (m + 1)) := fun j => by
    rw [Nat.mul_comm j, Nat.pow_mul]
    refine Nat.pow_le_pow_left ?_ j
    rw [Nat.pow_succ]
    omega
  have hYs : ∀ j, (2 * Y) ^ j ≤ 2 ^ (j * (m + 1)) := fun j => by
    rw [Nat.mul_comm j, Nat.pow_mul]
    refine Nat.pow_le_pow_left ?_ j
    rw [Nat.pow_succ]
    omega
  have up : ∀ j, j ≤ s → 2 ^ (n + j * (m + 1)) ≤ 2 ^ (n + s * (m + 1)) := fun j hj => Nat.pow_le_pow_right (by omega) (by have := Nat.mul_le_mul_right (m + 1) hj; omega)
  have D0 : ∀ j, 0 < D * zb.natAbs ^ j := fun j => Nat.mul_pos d0 (Nat.pow_pos (by omega))
  refine ⟨fun t => ?_, fun t => ?_⟩
  · by_cases ht : s ≤ t
    · exact ⟨D, X, d0, Nat.lt_of_lt_of_le d1 (Nat.pow_le_pow_right (by omega) (by omega)), Nat.lt_of_lt_of_le d2 (Nat.pow_le_pow_right (by omega) (by omega)), big t ht⟩
    · have := all (s - t) (by omega)
      rw [show s - (s - t) = t by omega] at this
      exact ⟨_, _, D0 _, Nat.lt_of_lt_of_le (lt1 d1 (hzs _)) (up _ (by omega)), Nat.lt_of_lt_of_le (lt1 d2 (hYs _)) (up _ (by omega)), this⟩
  · by_cases ht : s ≤ t
    · rw [co_big (by omega)]
      exact sz_zero.mono (by
        have : 1 ≤ n := Sr.pos (l := A) ⟨D, X, d0, d1, d2, d3⟩
        omega)
    · have h1 := all (s - (t + 1)) (by omega)
      rw [show s - (s - (t + 1)) = t + 1 by omega] at h1
      obtain ⟨z, h2, h3⟩ := (lft_it tB hB hr e0 e3 eb hzb h1).2
      rw [Nat.mul_assoc, ← Nat.pow_succ] at h2
      have hj : s - (t + 1) + 1 ≤ s := by omega
      refine sz_of (D0 _) h2 (Nat.lt_of_le_of_lt h3 ?_) (Nat.lt_of_lt_of_le (lt1 d1 (hzs _)) (Nat.le_trans (up _ hj) (Nat.pow_le_pow_right (by omega) (by omega))))
      exact Nat.lt_of_lt_of_le (lt1 (lt1 d2 (hYs (s - (t + 1)))) (Nat.le_of_lt e1)) (Nat.pow_le_pow_right (by omega) (by have := Nat.mul_le_mul_right (m + 1) (show s - (t + 1) ≤ s by omega); omega))
end
/-! ### Euclid's way, with sizes -/
/-- what the steps cost along a way of rows of lengths k + 1, k, .. -/
def eb : Nat → Nat → Nat → Nat
  | 0, _, _ => 0
  | k + 1, n, m => max (2 * (n + 2 * (m + 1)) + 2 * m) (eb k m (n + 2 * (m + 1)))
/-- the size of the last row -/
def ge : Nat → Nat → Nat → Nat
  | 0, n, _ => n
  | k + 1, n, m => max n (ge k m (n + 2 * (m + 1)))
theorem eb_mono : ∀ (k : Nat) {n n' m m' : Nat}, n ≤ n' → m ≤ m' → eb k n m ≤ eb k n' m'
  | 0, _, _, _, _, _, _ => Nat.le_refl _
  | k + 1, n, n', m, m', h1, h2 => by
    have := eb_mono k (n := m) (n' := m') (m := n + 2 * (m + 1)) (m' := n' + 2 * (m' + 1)) h2 (by omega)
    show max _ _ ≤ max _ _
    omega
theorem ge_mono : ∀ (k : Nat) {n n' m m' : Nat}, n ≤ n' → m ≤ m' → ge k n m ≤ ge k n' m'
  | 0, _, _, _, _, h, _ => h
  | k + 1, n, n', m, m', h1, h2 => by
    have := ge_mono k (n := m) (n' := m') (m := n + 2 * (m + 1)) (m' := n' + 2 * (m' + 1)) h2 (by omega)
    show max _ _ ≤ max _ _
    omega
theorem ge_fst : ∀ (k : Nat) {n m : Nat}, n ≤ ge k n m
  | 0, _, _ => Nat.le_refl _
  | k + 1, n, m => Nat.le_max_left _ _
theorem jump_le (d n m : Nat) : n + (d + 2) * (m + 1) ≤ m + (d + 1) * (n + 2 * (m + 1) + 1) := by
  have h1 : (d + 2) * (m + 1) ≤ (d + 1) * (2 * (m + 1)) := by
    rw [← Nat.mul_assoc, Nat.mul_comm (d + 1) 2]
    exact Nat.mul_le_mul_right _ (by omega)
  have h2 : (d + 1) * (n + 2 * (m + 1) + 1) = (d + 1) * n + (d + 1) * (2 * (m + 1)) + (d + 1) := by rw [Nat.mul_add, Nat.mul_add, Nat.mul_one]
  have h3 : n ≤ (d + 1) * n := by rw [Nat.succ_mul]; omega
  omega
theorem eb_s {k n m : Nat} : eb (k + 1) n m = max (2 * (n + 2 * (m + 1)) + 2 * m) (eb k m (n + 2 * (m + 1))) := rfl
theorem ge_s {k n m : Nat} : ge (k + 1) n m = max n (ge k m (n + 2 * (m + 1))) := rfl
theorem eb_jump : ∀ (d k : Nat) {n m : Nat}, 2 * (n + (d + 2) * (m + 1)) + 2 * m ≤ eb (k + (d + 1)) n m ∧ eb k m (n + (d + 2) * (m + 1)) ≤ eb (k + (d + 1)) n m
  | 0, k, n, m => by
    rw [Nat.zero_add, Nat.zero_add, eb_s]
    exact ⟨Nat.le_max_left _ _, Nat.le_max_right _ _⟩
  | d + 1, k, n, m => by
    obtain ⟨h1, h2⟩ := eb_jump d k (n := m) (m := n + 2 * (m + 1))
    have e : eb (k + (d + 1)) m (n + 2 * (m + 1)) ≤ eb (k + (d + 1) + 1) n m := by rw [eb_s]; exact Nat.le_max_right _ _
    have e3 : d + 1 + 2 = d + 3 := rfl
    have e4 : k + (d + 1) + 1 = k + (d + 1 + 1) := rfl
    have j1 : n + (d + 3) * (m + 1) ≤ m + (d + 2) * (n + 2 * (m + 1) + 1) := jump_le (d + 1) n m
    have j2 := eb_mono k (n := m) (n' := n + 2 * (m + 1)) (by omega) j1
    rw [e4] at e
    rw [e3]
    constructor <;> omega
theorem ge_jump : ∀ (d k : Nat) {n m : Nat}, ge k m (n + (d + 2) * (m + 1)) ≤ ge (k + (d + 1)) n m
  | 0, k, n, m => by
    rw [Nat.zero_add, Nat.zero_add, ge_s]
    exact Nat.le_max_right _ _
  | d + 1, k, n, m => by
    have h2 := ge_jump d k (n := m) (m := n + 2 * (m + 1))
    have e : ge (k + (d + 1)) m (n + 2 * (m + 1)) ≤ ge (k + (d + 1) + 1) n m := by rw [ge_s]; exact Nat.le_max_right _ _
    have e3 : d + 1 + 2 = d + 3 := rfl
    have e4 : k + (d + 1) + 1 = k + (d + 1 + 1) := rfl
    have j1 : n + (d + 3) * (m + 1) ≤ m + (d + 2) * (n + 2 * (m + 1) + 1) := jump_le (d + 1) n m
    have j2 := ge_mono k (n := m) (n' := n + 2 * (m + 1)) (by omega) j1
    rw [e4] at e
    rw [e3]
    omega
/-- each step of the way costs at most M -/
def Way (M : Nat) : Nat → List Rat → List Rat → Prop
  | 0, _, b => b = []
  | k + 1, a, b => b ≠ [] → ∃ n m s, Sr n a ∧ Sr m b ∧ a.length + 1 ≤ b.length + s ∧ 2 * (n + s * (m + 1)) + 2 * m ≤ M ∧ Way M k b (modR a b)
theorem Way.mono {M N : Nat} (h : M ≤ N) : ∀ (k : Nat) {a b : List Rat}, Way M k a b → Way N k a b
  | 0, _, _, w => w
  | k + 1, a, b, w => fun b0 => by
    obtain ⟨n, m, s, h1, h2, h3, h4, h5⟩ := w b0
    exact ⟨n, m, s, h1, h2, h3, by omega, h5.mono h k⟩
theorem Way.more {M : Nat} : ∀ (i j : Nat) {x y : List Rat}, i ≤ j → Way M i x y → Way M j x y := by
  intro i
  induction i with
  | zero =>
    intro j x y _ hw
    cases j with
    | zero => exact hw
    | succ j => exact fun y0 => absurd hw y0
  | succ i ih =>
    intro j x y hij hw
    obtain ⟨j, rfl⟩ : ∃ j', j = j' + 1 := ⟨j - 1, by omega⟩
    exact fun y0 => by
      obtain ⟨n1, m1, s1, q1, q2, q3, q4, q5⟩ := hw y0
      exact ⟨n1, m1, s1, q1, q2, q3, q4, ih j (by omega) q5⟩
variable {a b : List Rat}
theorem gcdU_len (ta : Tm a) (tb : Tm b) {N : Nat} (la : a.length ≤ N) (lb : b.length ≤ N) : (gcdU a b).length ≤ N := by
  obtain ⟨g1, g2, g3, _, g5⟩ := gcdU_spec ta tb
  by_cases g0 : gcdU a b = []
  · rw [g0]; exact Nat.zero_le _
  · by_cases z : a = []
    · obtain ⟨q, tq, e⟩ := g3
      by_cases zb : b = []
      · subst z zb
        rw [gcdU_nil] at g0
        exact absurd rfl g0
      · have q0 : q ≠ [] := fun e2 => by
          subst e2
          exact zb (ps_zero tb (by rw [e, ps_nil]; grind))
        have := q_len (A := b) (r := []) (by rw [e, ps_nil]; grind) tq g1 (List.length_pos_iff.mpr g0) q0
        have := List.length_pos_iff.mpr q0
        omega
    · obtain ⟨q, tq, e⟩ := g2
      have q0 : q ≠ [] := fun e2 => by
        subst e2
        exact z (ps_zero ta (by rw [e, ps_nil]; grind))
      have := q_len (A := a) (r := []) (by rw [e, ps_nil]; grind) tq g1 (List.length_pos_iff.mpr g0) q0
      have := List.length_pos_iff.mpr q0
      omega
theorem gcdU_ne (ta : Tm a) (tb : Tm b) (h1 : a ≠ [] ∨ b ≠ []) : gcdU a b ≠ [] := fun e => by
  obtain ⟨e1, e2⟩ := (gcdU_spec ta tb).2.2.2.2 e
  rcases h1 with z | z
  · exact z e1
  · exact z e2
/-- cofactors along the way -/
noncomputable def cuS : Nat → List Rat → List Rat → List Rat → List Rat → List Rat
  | 0, _, _, u, _ => u
  | k + 1, a, b, u, v => open Classical in if b = [] then u else cuS k b (modR a b) v (subR u (mulR (quoR a b) v))
theorem cuS_nil (k : Nat) {a u v : List Rat} : cuS k a [] u v = u := by
  cases k with
  | zero => rfl
  | succ k => show (if [] = [] then u else _) = u; rw [if_pos rfl]
theorem cuS_step (k : Nat) {a b u v : List Rat} (b0 : b ≠ []) : cuS (k + 1) a b u v = cuS k b (modR a b) v (subR u (mulR (quoR a b) v)) := by
  show (if b = [] then u else _) = _
  rw [if_neg b0]
theorem cuS_spec : ∀ (k : Nat) {a b u v x y : List Rat}, Tm a → Tm b → b.length ≤ k → (∃ w : List Rat, ps a = ps u * ps x + ps w * ps y) → (∃ w : List Rat, ps b = ps v * ps x + ps w * ps y) → ∃ w : List Rat, ps (gcdU a b) = ps (cuS k a b u v) * ps x + ps w * ps y
  | k, a, b, u, v, x, y, ta, tb, hk, h1, h2 => by
    by_cases b0 : b = []
    · subst b0
      rw [cuS_nil, gcdU_nil]
      exact h1
    · have hl := List.length_pos_iff.mpr b0
      obtain ⟨k, rfl⟩ : ∃ i, k = i + 1 := ⟨k - 1, by omega⟩
      obtain ⟨e1, _, h3, h4⟩ := div_spec a tb b0
      rw [cuS_step k b0, gcdU_step tb b0]
      refine cuS_spec k tb h3 (by omega) h2 ?_
      obtain ⟨w1, q1⟩ := h1
      obtain ⟨w2, q2⟩ := h2
      refine ⟨subR w1 (mulR (quoR a b) w2), ?_⟩
      have : ps (modR a b) = ps a - ps (quoR a b) * ps b := by rw [e1]; grind
      rw [this, ps_subR, ps_subR, ps_mulR, ps_mulR, q1, q2]
      grind
theorem cuS_more : ∀ (i j : Nat) (x y p q : List Rat), Tm y → y.length ≤ i → i ≤ j → cuS j x y p q = cuS i x y p q := by
  intro i
  induction i with
  | zero =>
    intro j x y p q ty hy _
    have : y = [] := List.length_eq_zero_iff.mp (by omega)
    rw [this, cuS_nil, cuS_nil]
  | succ i ih =>
    intro j x y p q ty hy hij
    obtain ⟨j, rfl⟩ : ∃ j', j = j' + 1 := ⟨j - 1, by omega⟩
    by_cases y0 : y = []
    · rw [y0, cuS_nil, cuS_nil]
    · obtain ⟨_, _, t3, t4⟩ := div_spec x ty y0
      rw [cuS_step _ y0, cuS_step _ y0]
      exact ih j _ _ _ _ t3 (by omega) (by omega)
/-- the cofactors' sizes: the greater one of all -/
def cb : Nat → Nat → Nat → Nat → Nat → Nat
  | 0, _, _, U, V => max U V
  | k + 1, n, m, U, V => max (max U V) (cb k m (n + 2 * (m + 1)) V (U + (n + 2 * (m + 1) + m) + V + 3))
theorem cb_s {k n m U V : Nat} : cb (k + 1) n m U V = max (max U V) (cb k m (n + 2 * (m + 1)) V (U + (n + 2 * (m + 1) + m) + V + 3)) := rfl
theorem cb_mono : ∀ (k : Nat) {n n' m m' U U' V V' : Nat}, n ≤ n' → m ≤ m' → U ≤ U' → V ≤ V' → cb k n m U V ≤ cb k n' m' U' V'
  | 0, _, _, _, _, _, _, _, _, _, _, h1, h2 => by show max _ _ ≤ max _ _; omega
  | k + 1, n, n', m, m', U, U', V, V', h1, h2, h3, h4 => by
    have := cb_mono k (n := m) (n' := m') (m := n + 2 * (m + 1)) (m' := n' + 2 * (m' + 1)) (U := V) (U' := V') (V := U + (n + 2 * (m + 1) + m) + V + 3) (V' := U' + (n' + 2 * (m' + 1) + m') + V' + 3) h2 (by omega) h4 (by omega)
    rw [cb_s, cb_s]
    omega
theorem cb_ge : ∀ (k : Nat) {n m U V : Nat}, max U V ≤ cb k n m U V
  | 0, _, _, _, _ => Nat.le_refl _
  | k + 1, _, _, _, _ => Nat.le_max_left _ _
theorem cb_jump : ∀ (d k : Nat) {n m U V : Nat}, cb k m (n + (d + 2) * (m + 1)) V (U + (n + (d + 2) * (m + 1) + m) + V + (d + 3)) ≤ cb (k + (d + 1)) n m U V
  | 0, k, n, m, U, V => by
    rw [Nat.zero_add, Nat.zero_add, Nat.zero_add, cb_s]
    exact Nat.le_max_right _ _
  | d + 1, k, n, m, U, V => by
    have h2 := cb_jump d k (n := m) (m := n + 2 * (m + 1)) (U := V) (V := U + (n + 2 * (m + 1) + m) + V + 3)
    have e : cb (k + (d + 1)) m (n + 2 * (m + 1)) V (U + (n + 2 * (m + 1) + m) + V + 3) ≤ cb (k + (d + 1) + 1) n m U V := by rw [cb_s]; exact Nat.le_max_right _ _
    have e3 : d + 1 + 2 = d + 3 := rfl
    have e5 : d + 1 + 3 = d + 4 := rfl
    have e4 : k + (d + 1) + 1 = k + (d + 1 + 1) := rfl
    have j1 : n + (d + 3) * (m + 1) ≤ m + (d + 2) * (n + 2 * (m + 1) + 1) := jump_le (d + 1) n m
    have j2 := cb_mono k (n := m) (n' := n + 2 * (m + 1)) (m := n + (d + 3) * (m + 1)) (m' := m + (d + 2) * (n + 2 * (m + 1) + 1)) (U := V) (U' := U + (n + 2 * (m + 1) + m) + V + 3) (V := U + (n + (d + 3) * (m + 1) + m) + V + (d + 4)) (V' := V + (m + (d + 2) * (n + 2 * (m + 1) + 1) + (n + 2 * (m + 1))) + (U + (n + 2 * (m + 1) + m) + V + 3) + (d + 3)) (by omega) j1 (by omega) (by omega)
    rw [e4] at e
    rw [e3, e5]
    omega
/-- each step of the way costs at most W, its cofactors at most C -/
def WayC (W C : Nat) : Nat → List Rat → List Rat → List Rat → List Rat → Prop
  | 0, _, b, _, _ => b = []
  | k + 1, a, b, u, v => b ≠ [] → ∃ n m s U V, Sr n a ∧ Sr m b ∧ a.length + 1 ≤ b.length + s ∧ 2 * (n + s * (m + 1)) + 2 * m ≤ W ∧ Sr U u ∧ Sr V v ∧ U + (n + s * (m + 1) + m) + V + s + 1 ≤ C ∧ WayC W C k b (modR a b) v (subR u (mulR (quoR a b) v))
theorem WayC.more {W C : Nat} : ∀ (i j : Nat) {a b u v : List Rat}, i ≤ j → WayC W C i a b u v → WayC W C j a b u v := by
  intro i
  induction i with
  | zero =>
    intro j a b u v _ hw
    cases j with
    | zero => exact hw
    | succ j => exact fun y0 => absurd hw y0
  | succ i ih =>
    intro j a b u v hij hw
    obtain ⟨j, rfl⟩ : ∃ j', j = j' + 1 := ⟨j - 1, by omega⟩
    exact fun y0 => by
      obtain ⟨n1, m1, s1, U, V, q1, q2, q3, q4, q5, q6, q7, q8⟩ := hw y0
      exact ⟨n1, m1, s1, U, V, q1, q2, q3, q4, q5, q6, q7, ih j (by omega) q8⟩
theorem WayC.mono {W C W' C' : Nat} (h : W ≤ W') (h2 : C ≤ C') : ∀ (k : Nat) {a b u v : List Rat}, WayC W C k a b u v → WayC W' C' k a b u v
  | 0, _, _, _, _, w => w
  | k + 1, a, b, u, v, w => fun b0 => by
    obtain ⟨n, m, s, U, V, h1, h3, h4, h5, h6, h7, h8, h9⟩ := w b0
    exact ⟨n, m, s, U, V, h1, h3, h4, by omega, h6, h7, by omega, h9.mono h h2 k⟩
theorem sr_cof {u v q : List Rat} {U V N s : Nat} (su : Sr U u) (sv : Sr V v) (sq : Sr N q) (lq : q.length ≤ s) : Sr (U + N + V + s + 1) (subR u (mulR q v)) := by
  have h1 : Sr (N + V + s) (mulR q v) := sq.mulc sv lq (co_mulR q v)
  have h2 : Sr (N + V + s) (negL (mulR q v)) := h1.negc fun i => congrArg (fun f : Ps => f.c i) (ps_negL (mulR q v))
  refine (su.addc h2 (l := subR u (mulR q v)) fun i => ?_).mono (by omega)
  have e : co (negL (mulR q v)) i = -co (mulR q v) i := congrArg (fun f : Ps => f.c i) (ps_negL (mulR q v))
  rw [co_subR, e]
  grind
theorem way_dec : ∀ (K : Nat) {a b u v : List Rat} {n m U V : Nat}, Tm a → Tm b → Sr n a → Sr m b → Sr U u → Sr V v → b.length < a.length → a.length ≤ K + (gcdU a b).length →
    WayC (eb K n m) (cb K n m U V) b.length a b u v ∧ Sr (ge K n m) (gcdU a b) ∧ Sr (cb K n m U V) (cuS b.length a b u v)
  | K, a, b, u, v, n, m, U, V, ta, tb, sa, sb, su, sv, hl, hK => by
    by_cases b0 : b = []
    · subst b0
      exact ⟨rfl, by rw [gcdU_nil]; exact sa.mono (ge_fst K), by rw [cuS_nil]; exact su.mono (Nat.le_trans (Nat.le_max_left U V) (cb_ge K))⟩
    · have hbl := List.length_pos_iff.mpr b0
      obtain ⟨h1, h2, h3, h4⟩ := div_spec a tb b0
      have hg : (gcdU b (modR a b)).length ≤ b.length := gcdU_len tb h3 (Nat.le_refl _) (by omega)
      rw [gcdU_step tb b0] at hK
      obtain ⟨d, hd⟩ : ∃ d, a.length = b.length + (d + 1) := ⟨a.length - b.length - 1, by omega⟩
      obtain ⟨k, hk⟩ : ∃ k, K = k + (d + 1) := ⟨K - (d + 1), by omega⟩
      obtain ⟨j1, j2⟩ := eb_jump d k (n := n) (m := m)
      have j3 := ge_jump d k (n := n) (m := m)
      have j4 := cb_jump d k (n := n) (m := m) (U := U) (V := V)
      obtain ⟨z1, z2, z3⟩ := div_sz (s := d + 2) tb b0 sa sb (by omega)
      have z4 := sr_cof su sv z2 z1
      obtain ⟨w, g, c⟩ := way_dec k tb h3 sb z3 sv z4 h4 (by omega)
      have e5 : U + (n + (d + 2) * (m + 1) + m) + V + (d + 3) = U + (n + (d + 2) * (m + 1) + m) + V + (d + 2) + 1 := rfl
      rw [e5] at j4
      subst hk
      have wm := w.mono j2 j4
      obtain ⟨L, hL⟩ : ∃ L, b.length = L + 1 := ⟨b.length - 1, by omega⟩
      have hL2 : (modR a b).length ≤ L := by omega
      have j5 : max V (U + (n + (d + 2) * (m + 1) + m) + V + (d + 2) + 1) ≤ _ := Nat.le_trans (cb_ge k) j4
      have cs : cuS b.length a b u v = cuS (modR a b).length b (modR a b) v (subR u (mulR (quoR a b) v)) := by
        rw [hL, cuS_step L b0]
        exact cuS_more _ _ _ _ _ _ h3 (Nat.le_refl _) hL2
      refine ⟨?_, by rw [gcdU_step tb b0]; exact g.mono j3, by rw [cs]; exact c.mono j4⟩
      rw [hL]
      exact fun _ => ⟨n, m, d + 2, U, V, sa, sb, by omega, j1, su, sv, by omega, wm.more _ _ hL2⟩
termination_by K => K
decreasing_by omega
theorem WayC.way {W C : Nat} : ∀ (k : Nat) {a b u v : List Rat}, WayC W C k a b u v → Way W k a b
  | 0, _, _, _, _, w => w
  | k + 1, a, b, u, v, w => fun b0 => by
    obtain ⟨n, m, s, U, V, h1, h3, h4, h5, h6, h7, h8, h9⟩ := w b0
    exact ⟨n, m, s, h1, h3, h4, h5, h9.way k⟩
/-- J: how much longer the rows are than their common divisor; M: their size -/
def EB (J M : Nat) : Nat := max (6 * M + 2) (eb J M (2 * M + 1))
def GB (J M : Nat) : Nat := ge J M (2 * M + 1)
def CB (J M : Nat) : Nat := max (3 * M + 6) (cb J M (2 * M + 1) 1 (3 * M + 6))
theorem way_of {J M : Nat} {a b : List Rat} (ta : Tm a) (tb : Tm b) (sa : Sr M a) (sb : Sr M b) (la : a.length ≤ J + (gcdU a b).length) (lb : b.length ≤ J + (gcdU a b).length) :
    WayC (EB J M) (CB J M) (b.length + 1) a b [1] [] ∧ Sr (GB J M) (gcdU a b) ∧ Sr (CB J M) (cuS (b.length + 1) a b [1] []) := by
  by_cases b0 : b = []
  · subst b0
    refine ⟨fun h => absurd rfl h, by rw [gcdU_nil]; exact sa.mono (ge_fst _), ?_⟩
    rw [cuS_nil]
    exact sr_one.mono (Nat.le_trans (show 1 ≤ 3 * M + 6 by omega) (Nat.le_max_left _ _))
  · have hbl := List.length_pos_iff.mpr b0
    obtain ⟨h1, h2, h3, h4⟩ := div_spec a tb b0
    have e1 : 6 * M + 2 ≤ EB J M := Nat.le_max_left _ _
    have e2 : eb J M (2 * M + 1) ≤ EB J M := Nat.le_max_right _ _
    have e3 : 3 * M + 6 ≤ CB J M := Nat.le_max_left _ _
    have e4 : cb J M (2 * M + 1) 1 (3 * M + 6) ≤ CB J M := Nat.le_max_right _ _
    have M1 := sa.pos
    rcases Nat.lt_or_ge b.length a.length with z | z
    · obtain ⟨w, g, c⟩ := way_dec J ta tb sa (sb.mono (show M ≤ 2 * M + 1 by omega)) sr_one (sr_nil.mono (show 1 ≤ 3 * M + 6 by omega)) z la
      refine ⟨(w.mono e2 e4).more _ _ (by omega), g, ?_⟩
      have : cuS (b.length + 1) a b [1] [] = cuS b.length a b [1] [] := by
        exact cuS_more _ _ _ _ _ _ tb (Nat.le_refl _) (by omega)
      rw [this]
      exact c.mono e4
    · obtain ⟨z1, z2, z3⟩ := div_sz (s := 1) tb b0 sa sb (by omega)
      have z4 := sr_cof sr_one sr_nil z2 z1
      rw [gcdU_step tb b0] at lb
      obtain ⟨w, g, c⟩ := way_dec J tb h3 sb (z3.mono (show M + 1 * (M + 1) ≤ 2 * M + 1 by omega)) (sr_nil) (z4.mono (show 1 + (M + 1 * (M + 1) + M) + 1 + 1 + 1 ≤ 3 * M + 6 by omega)) h4 lb
      refine ⟨fun _ => ⟨M, M, 1, 1, 1, sa, sb, by omega, by omega, sr_one, sr_nil, by omega, (w.mono e2 e4).more _ _ (by omega)⟩, by rw [gcdU_step tb b0]; exact g, ?_⟩
      rw [cuS_step _ b0]
      have : cuS b.length b (modR a b) [] (subR [1] (mulR (quoR a b) [])) = cuS (modR a b).length b (modR a b) [] (subR [1] (mulR (quoR a b) [])) := by
        exact cuS_more _ _ _ _ _ _ h3 (Nat.le_refl _) (by omega)
      rw [this]
      exact c.mono e4
end Pm
namespace Pm
open Pl
section
variable {a b g h l u v : List Rat} {n m L M J : Nat} {x : Rat}
theorem sz_fnz (ha : Sr n a) : Sz n (fnz a) := by
  have : ∀ (l : List Rat), (∀ i, Sz n (co l i)) → Sz n (fnz l) := fun l => by
    induction l with
    | nil => intro _; exact sz_one.mono ha.pos
    | cons q l ih =>
      intro h
      show Sz n (if q = 0 then fnz l else q)
      split
      · exact ih fun i => h (i + 1)
      · exact h 0
  exact this a ha.sz
/-- over the first number a row does not grow -/
theorem sr_low (ta : Tm a) (a0 : a ≠ []) (ha : Sr n a) : Sr n (lowR a) := by
  obtain ⟨D, X, d0, d1, d2, d3⟩ := ha
  obtain ⟨k, f1, f2, f3⟩ := fz_fnz ta a0
  obtain ⟨z, e, hz⟩ := d3 k
  have hD : (D : Rat) ≠ 0 := by
    intro e
    have h1 : (D : Rat).num = 0 := by rw [e]; rfl
    simp at h1
    omega
  have hz0 : z ≠ 0 := by
    intro e0
    rw [e0, f2] at e
    have : fnz a * (D : Rat) ≠ 0 := by grind
    exact this (by rw [e]; rfl)
  obtain ⟨σ, hσ, hσ2⟩ : ∃ σ : Int, (z.natAbs : Int) = σ * z ∧ σ.natAbs = 1 := by
    by_cases h : 0 ≤ z
    · exact ⟨1, by omega, rfl⟩
    · exact ⟨-1, by omega, rfl⟩
  have hσr : (z.natAbs : Rat) = (σ : Rat) * (z : Rat) := by
    rw [← Rat.intCast_natCast, hσ, Rat.intCast_mul]
  refine ⟨z.natAbs, X, by omega, by omega, d2, fun i => ?_⟩
  obtain ⟨w, e2, hw⟩ := d3 i
  refine ⟨σ * w, ?_, by rw [Int.natAbs_mul, hσ2, Nat.one_mul]; exact hw⟩
  unfold lowR
  rw [co_sclR, hσr, Rat.intCast_mul, ← e, ← e2, f2]
  grind
theorem gcdR_sz (ha : RW n L a) (hb : RW n L b) (h1 : a ≠ [] ∨ b ≠ []) (hJ : a.length ≤ J + (gcdU a b).length ∧ b.length ≤ J + (gcdU a b).length) : RW (GB J n) L (gcdR a b) := by
  have la := ha.len
  have lb := hb.len
  obtain ⟨_, gs, _⟩ := way_of ha.tm hb.tm ha.sr hb.sr hJ.1 hJ.2
  have g1 := (gcdU_spec ha.tm hb.tm).1
  have g0 := gcdU_ne ha.tm hb.tm h1
  exact ⟨tm_lowR, Nat.le_trans sclR_len (gcdU_len ha.tm hb.tm la lb), sr_low g1 g0 gs⟩
/-! ### cofactors -/
/-- e, f with e a + f b the common divisor, e shorter than what is left of b -/
structure Cof (a b e f : List Rat) : Prop where
  te : Tm e
  tf : Tm f
  sum : ps e * ps a + ps f * ps b = ps (gcdR a b)
  len : e.length < (quoR b (gcdR a b)).length
theorem cof_uniq {e f e' f' : List Rat} (ta : Tm a) (tb : Tm b) (b0 : b ≠ []) (c : Cof a b e f) (c' : Cof a b e' f') : e = e' ∧ f = f' := by
  obtain ⟨g1, g2, g3, g4, g5, _⟩ := gcdR_spec ta tb (.inr b0)
  have qb := quo_mul g1 g2 tb g5
  have qa := quo_mul g1 g2 ta g4
  have tq := (div_spec b g1 g2).2.1
  have q0 : quoR b (gcdR a b) ≠ [] := fun e => by
    have := c.len
    rw [e] at this
    simp at this
  -- (e - e') a' = (f' - f) b', coprime
  have eb : ps b = ps (quoR b (gcdR a b)) * ps (gcdR a b) := by rw [← ps_mulR, qb]
  have ea : ps a = ps (quoR a (gcdR a b)) * ps (gcdR a b) := by rw [← ps_mulR, qa]
  have h1 : ps (mulR (subR e e') (quoR a (gcdR a b))) = ps (mulR (subR f' f) (quoR b (gcdR a b))) := by
    refine psmul_cancel (tm_mulR _ _) (tm_mulR _ _) g1 g2 (f := 0) ?_
    rw [ps_mulR, ps_mulR, ps_subR, ps_subR]
    have s1 := c.sum
    have s2 := c'.sum
    rw [ea, eb] at s1 s2
    grind
  -- e a' + f b' = 1
  have h2 : ps e * ps (quoR a (gcdR a b)) + ps f * ps (quoR b (gcdR a b)) = 1 := by
    have : ps (addR (mulR e (quoR a (gcdR a b))) (mulR f (quoR b (gcdR a b)))) = ps [1] := by
      refine psmul_cancel (tm_addR _ _) tm_one g1 g2 (f := 0) ?_
      rw [ps_addR, ps_mulR, ps_mulR, ps_one]
      have s1 := c.sum
      rw [ea, eb] at s1
      grind
    rw [ps_addR, ps_mulR, ps_mulR, ps_one] at this
    exact this
  rw [ps_mulR, ps_mulR] at h1
  have h3 : Dv (quoR b (gcdR a b)) (subR e e') := dv_of (q := addR (mulR e (subR f' f)) (mulR (subR e e') f)) (by
    rw [ps_addR, ps_mulR, ps_mulR]
    have : ps (subR e e') = (ps e * ps (quoR a (gcdR a b)) + ps f * ps (quoR b (gcdR a b))) * ps (subR e e') := by rw [h2]; grind
    rw [this]
    grind)
  have h4 : subR e e' = [] := by
    by_cases z : subR e e' = []
    · exact z
    · obtain ⟨q, hq, hq2⟩ := h3
      have q1 : q ≠ [] := fun e2 => by
        subst e2
        exact z (ps_zero (tm_subR _ _) (by rw [hq2, ps_nil]; grind))
      have := q_len (A := subR e e') (r := []) (by rw [hq2, ps_nil]; grind) hq tq (List.length_pos_iff.mpr q0) q1
      have l1 := c.len
      have l2 := c'.len
      have l3 : (subR e e').length ≤ max e.length e'.length := subR_len
      have := List.length_pos_iff.mpr q1
      omega
  have h5 : e = e' := c.te.eq c'.te (by
    have := ps_subR e e'
    rw [h4, ps_nil] at this
    grind)
  refine ⟨h5, mul_cancel c.tf c'.tf tb b0 ?_⟩
  have s1 := c.sum
  have s2 := c'.sum
  rw [h5] at s1
  rw [← s2] at s1
  grind
theorem cof_of_chain {U : List Rat} (ta : Tm a) (tb : Tm b) (b0 : b ≠ []) (hU : ∃ w : List Rat, ps (gcdU a b) = ps U * ps a + ps w * ps b) :
    ∃ f, Cof a b (modR (sclR U (1 / fnz (gcdU a b))) (quoR b (gcdR a b))) f := by
  obtain ⟨g1, g2, g3, g4, g5, _⟩ := gcdR_spec ta tb (.inr b0)
  have qb := quo_mul g1 g2 tb g5
  have qa := quo_mul g1 g2 ta g4
  have tq := (div_spec b g1 g2).2.1
  have q0 : quoR b (gcdR a b) ≠ [] := fun e => by
    rw [e] at qb
    exact b0 (by rw [← qb]; exact ps_zero (tm_mulR _ _) (by rw [ps_mulR, ps_nil]; grind))
  obtain ⟨d1, d2, d3, d4⟩ := div_spec (sclR U (1 / fnz (gcdU a b))) tq q0
  obtain ⟨w, hw⟩ := hU
  have eb : ps b = ps (quoR b (gcdR a b)) * ps (gcdR a b) := by rw [← ps_mulR, qb]
  have ea : ps a = ps (quoR a (gcdR a b)) * ps (gcdR a b) := by rw [← ps_mulR, qa]
  have s : ps (gcdR a b) = ps (sclR U (1 / fnz (gcdU a b))) * ps a + ps (sclR w (1 / fnz (gcdU a b))) * ps b := by
    unfold gcdR lowR
    rw [ps_sclR, ps_sclR, ps_sclR, hw]
    grind
  refine ⟨addR (sclR w (1 / fnz (gcdU a b))) (mulR (quoR (sclR U (1 / fnz (gcdU a b))) (quoR b (gcdR a b))) (quoR a (gcdR a b))), d3, tm_addR _ _, ?_, d4⟩
  rw [ps_addR, ps_mulR]
  have e1 : ps (modR (sclR U (1 / fnz (gcdU a b))) (quoR b (gcdR a b))) = ps (sclR U (1 / fnz (gcdU a b))) - ps (quoR (sclR U (1 / fnz (gcdU a b))) (quoR b (gcdR a b))) * ps (quoR b (gcdR a b)) := by rw [d1]; grind
  rw [e1]
  conv => rhs; rw [s]
  conv => lhs; rw [ea, eb]
  conv => rhs; rw [ea, eb]
  grind
theorem mod_len (ta : Tm a) (tb : Tm b) (b0 : b ≠ []) : (modR a b).length ≤ a.length := by
  obtain ⟨_, _, _, h4⟩ := div_spec a tb b0
  by_cases z : a.length < b.length
  · have : quoR a b = [] ∧ modR a b = a := div_is tb (by rw [ps_nil]; grind) tm_nil ta z
    rw [this.2]
    exact Nat.le_refl _
  · omega
theorem cof_len {T : Nat} (tb : Tm b) (b0 : b ≠ []) (l1 : u.length + b.length ≤ T) (l2 : v.length + a.length ≤ T) : (subR u (mulR (quoR a b) v)).length + b.length ≤ T := by
  obtain ⟨e1, h2, _, h4⟩ := div_spec a tb b0
  have hless : (subR u (mulR (quoR a b) v)).length ≤ max u.length (mulR (quoR a b) v).length := subR_len
  have hml : (mulR (quoR a b) v).length ≤ (quoR a b).length + v.length - 1 := mulR_len
  by_cases q0 : quoR a b = []
  · have : mulR (quoR a b) v = [] := by rw [q0]; exact ps_zero (tm_mulR _ _) (by rw [ps_mulR, ps_nil]; grind)
    rw [this] at hless ⊢
    simp at hless
    omega
  · have := q_len e1 h2 tb h4 q0
    have := List.length_pos_iff.mpr b0
    omega
theorem cuS_len : ∀ (k : Nat) {a b u v : List Rat} {T : Nat}, Tm a → Tm b → b ≠ [] → b.length ≤ k → (v = [] ∨ b.length < a.length) → u.length + b.length ≤ T → v.length + a.length ≤ T → b.length + 1 ≤ T → (cuS k a b u v).length + (gcdU a b).length + 1 ≤ T
  | 0, a, b, u, v, T, ta, tb, b0, hk, _, _, _, _ => by
    have := List.length_pos_iff.mpr b0
    omega
  | k + 1, a, b, u, v, T, ta, tb, b0, hk, h1, l1, l2, l3 => by
    obtain ⟨e1, h2, h3, h4⟩ := div_spec a tb b0
    rw [cuS_step k b0, gcdU_step tb b0]
    by_cases r0 : modR a b = []
    · rw [r0, cuS_nil, gcdU_nil]
      rcases h1 with z | z
      · rw [z]; simp; omega
      · omega
    · have := mod_len ta tb b0
      exact cuS_len k tb h3 r0 (by omega) (.inr h4) (by omega) (cof_len tb b0 l1 l2) (by omega)
end
end Pm
namespace Pm
open Pl
/-! ### whole rows: Gauss -/
def tlZ (f : Nat → Int) : Nat → Int := fun k => f (k + 1)
def cvZ (f g : Nat → Int) : Nat → Int
  | 0 => f 0 * g 0
  | k + 1 => f 0 * g (k + 1) + cvZ (tlZ f) g k
theorem cv_cast : ∀ (k : Nat) {f g : Nat → Rat} {F G : Nat → Int}, (∀ i, f i = (F i : Rat)) → (∀ i, g i = (G i : Rat)) → cv f g k = (cvZ F G k : Rat)
  | 0, f, g, F, G, hf, hg => by
    show f 0 * g 0 = ((F 0 * G 0 : Int) : Rat)
    rw [Rat.intCast_mul, hf, hg]
  | k + 1, f, g, F, G, hf, hg => by
    show f 0 * g (k + 1) + cv (tl f) g k = ((F 0 * G (k + 1) + cvZ (tlZ F) G k : Int) : Rat)
    rw [Rat.intCast_add, Rat.intCast_mul, ← hf, ← hg, cv_cast k (f := tl f) (F := tlZ F) (fun i => hf (i + 1)) hg]
theorem cvZ_dvd : ∀ (k : Nat) {p : Int} {f g : Nat → Int}, (∀ i, i ≤ k → p ∣ g i) → p ∣ cvZ f g k
  | 0, p, f, g, h => Int.dvd_mul_of_dvd_right (h 0 (Nat.le_refl _))
  | k + 1, p, f, g, h => Int.dvd_add (Int.dvd_mul_of_dvd_right (h (k + 1) (Nat.le_refl _))) (cvZ_dvd k fun i hi => h i (by omega))
theorem cvZ_first : ∀ (i j : Nat) {p : Int} {f g : Nat → Int}, (∀ k, k < i → p ∣ f k) → (∀ k, k < j → p ∣ g k) → p ∣ cvZ f g (i + j) - f i * g j
  | 0, 0, p, f, g, _, _ => by
    show p ∣ f 0 * g 0 - f 0 * g 0
    rw [Int.sub_self]
    exact Int.dvd_zero p
  | 0, j + 1, p, f, g, _, h2 => by
    rw [Nat.zero_add]
    show p ∣ f 0 * g (j + 1) + cvZ (tlZ f) g j - f 0 * g (j + 1)
    have e : f 0 * g (j + 1) + cvZ (tlZ f) g j - f 0 * g (j + 1) = cvZ (tlZ f) g j := by omega
    rw [e]
    exact cvZ_dvd j fun k hk => h2 k (by omega)
  | i + 1, j, p, f, g, h1, h2 => by
    have ih := cvZ_first i j (p := p) (f := tlZ f) (g := g) (fun k hk => h1 (k + 1) (by omega)) h2
    rw [show i + 1 + j = i + j + 1 by omega]
    show p ∣ f 0 * g (i + j + 1) + cvZ (tlZ f) g (i + j) - f (i + 1) * g j
    have e : f 0 * g (i + j + 1) + cvZ (tlZ f) g (i + j) - f (i + 1) * g j = f 0 * g (i + j + 1) + (cvZ (tlZ f) g (i + j) - tlZ f i * g j) := by
      show _ = f 0 * g (i + j + 1) + (cvZ (tlZ f) g (i + j) - f (i + 1) * g j)
      omega
    rw [e]
    exact Int.dvd_add (Int.dvd_mul_of_dvd_left (h1 0 (by omega))) ih
/-- a number above 1 without divisors between -/
def Pri (p : Nat) : Prop := 1 < p ∧ ∀ d, d ∣ p → d = 1 ∨ d = p
theorem pri_ex : ∀ (n : Nat), 1 < n → ∃ p, Pri p ∧ p ∣ n := by
  intro n
  induction n using Nat.strongRecOn with
  | ind n ih =>
    intro hn
    by_cases h : Pri n
    · exact ⟨n, h, Nat.dvd_refl n⟩
    · have : ∃ d, d ∣ n ∧ d ≠ 1 ∧ d ≠ n := by
        refine Classical.byContradiction fun z => h ⟨hn, fun d hd => ?_⟩
        refine Classical.byContradiction fun z2 => z ⟨d, hd, fun e => z2 (.inl e), fun e => z2 (.inr e)⟩
      obtain ⟨d, h1, h2, h3⟩ := this
      have d0 : 0 < d := Nat.pos_of_dvd_of_pos h1 (by omega)
      have dn : d ≤ n := Nat.le_of_dvd (by omega) h1
      obtain ⟨p, hp, hd⟩ := ih d (by omega) (by omega)
      exact ⟨p, hp, Nat.dvd_trans hd h1⟩
theorem Pri.mul {p : Nat} (h : Pri p) {x y : Int} (hd : (p : Int) ∣ x * y) : (p : Int) ∣ x ∨ (p : Int) ∣ y := by
  have hd2 : p ∣ x.natAbs * y.natAbs := by
    have := Int.natAbs_dvd_natAbs.mpr hd
    rwa [Int.natAbs_natCast, Int.natAbs_mul] at this
  rcases h.2 (Nat.gcd p x.natAbs) (Nat.gcd_dvd_left _ _) with e | e
  · right
    have : p ∣ y.natAbs := (Nat.Coprime.dvd_of_dvd_mul_left e hd2)
    exact Int.natAbs_dvd_natAbs.mp (by rw [Int.natAbs_natCast]; exact this)
  · left
    have : p ∣ x.natAbs := by rw [← e]; exact Nat.gcd_dvd_right _ _
    exact Int.natAbs_dvd_natAbs.mp (by rw [Int.natAbs_natCast]; exact this)
theorem least_ex {P : Nat → Prop} (h : ∃ n, P n) : ∃ n, P n ∧ ∀ k, k < n → ¬ P k := by
  obtain ⟨n, hn⟩ := h
  induction n using Nat.strongRecOn with
  | ind n ih =>
    by_cases z : ∃ k, k < n ∧ P k
    · obtain ⟨k, hk, hp⟩ := z
      exact ih k hk hp
    · exact ⟨n, hn, fun k hk hp => z ⟨k, hk, hp⟩⟩
theorem gauss {p : Nat} (hp : Pri p) {f g : Nat → Int} (hf : ∃ i, ¬ (p : Int) ∣ f i) (hg : ∃ j, ¬ (p : Int) ∣ g j) : ∃ k, ¬ (p : Int) ∣ cvZ f g k := by
  obtain ⟨i, hi, hi2⟩ := least_ex hf
  obtain ⟨j, hj, hj2⟩ := least_ex hg
  refine ⟨i + j, fun z => ?_⟩
  have h1 := cvZ_first i j (p := (p : Int)) (f := f) (g := g) (fun k hk => Classical.not_not.mp (hi2 k hk)) (fun k hk => Classical.not_not.mp (hj2 k hk))
  have h2 : (p : Int) ∣ f i * g j := by
    have := Int.dvd_sub z h1
    have e : cvZ f g (i + j) - (cvZ f g (i + j) - f i * g j) = f i * g j := by omega
    rwa [e] at this
  rcases hp.mul h2 with z | z
  · exact hi z
  · exact hj z
/-! ### the least common denominator of a row over its first number -/
/-- D makes all numbers whole -/
def Whole (D : Nat) (f : Nat → Rat) : Prop := ∀ i, ∃ z : Int, f i * (D : Rat) = (z : Rat)
theorem natCast_ne {D : Nat} (h : 0 < D) : (D : Rat) ≠ 0 := by
  intro e
  have h1 : (D : Rat).num = 0 := by rw [e]; rfl
  simp at h1
  omega
theorem intCast_inj {x y : Int} (h : (x : Rat) = (y : Rat)) : x = y := by
  have := congrArg Rat.num h
  simpa using this
theorem least_den {l : List Rat} (h : ∃ D, 0 < D ∧ Whole D (co l)) : ∃ (D : Nat) (F : Nat → Int), 0 < D ∧ (∀ i, co l i * (D : Rat) = (F i : Rat)) ∧ ((∃ k, co l k = 1) → ∀ p, Pri p → ∃ i, ¬ (p : Int) ∣ F i) := by
  obtain ⟨D, ⟨h1, h2⟩, h3⟩ := least_ex h
  obtain ⟨F, hF⟩ : ∃ F : Nat → Int, ∀ i, co l i * (D : Rat) = (F i : Rat) := ⟨fun i => Classical.choose (h2 i), fun i => Classical.choose_spec (h2 i)⟩
  refine ⟨D, F, h1, hF, fun ⟨k, hk⟩ p hp => ?_⟩
  refine Classical.byContradiction fun z => ?_
  have all : ∀ i, (p : Int) ∣ F i := fun i => Classical.byContradiction fun y => z ⟨i, y⟩
  have hD : F k = (D : Int) := by
    have := hF k
    rw [hk, Rat.one_mul] at this
    exact intCast_inj (by rw [← this, Rat.intCast_natCast])
  obtain ⟨E, hE⟩ : ∃ E : Nat, D = p * E := by
    have := all k
    rw [hD] at this
    exact Int.natCast_dvd_natCast.mp this
  have p0 := hp.1
  have E0 : 0 < E := by
    cases E with
    | zero => simp at hE; omega
    | succ E => omega
  have ED : E < D := by
    rw [hE]
    have := Nat.mul_le_mul_right E (show 2 ≤ p by omega)
    omega
  refine h3 E ED ⟨E0, fun i => ?_⟩
  obtain ⟨w, hw⟩ := all i
  refine ⟨w, ?_⟩
  have e1 := hF i
  rw [hE, hw, Rat.natCast_mul, Rat.intCast_mul, Rat.intCast_natCast] at e1
  have hp0 := natCast_ne (D := p) (by omega)
  grind
/-- the factors' denominators divide the product's -/
theorem den_dvd {q g : List Rat} {D DQ DG : Nat} {FQ FG : Nat → Int} (hD : 0 < D) (hQ : 0 < DQ) (hG : 0 < DG) (w : Whole D (co (mulR q g))) (eQ : ∀ i, co q i * (DQ : Rat) = (FQ i : Rat)) (eG : ∀ i, co g i * (DG : Rat) = (FG i : Rat))
    (pQ : ∀ p, Pri p → ∃ i, ¬ (p : Int) ∣ FQ i) (pG : ∀ p, Pri p → ∃ i, ¬ (p : Int) ∣ FG i) : DQ * DG ∣ D := by
  have key : ∀ k, co (mulR q g) k * ((DQ * DG : Nat) : Rat) = (cvZ FQ FG k : Rat) := fun k => by
    have e1 : ∀ i, DQ * co q i = ((FQ i : Int) : Rat) := fun i => by rw [← eQ]; grind
    have e2 : ∀ i, DG * co g i = ((FG i : Int) : Rat) := fun i => by rw [← eG]; grind
    rw [← cv_cast k (f := fun i => (DQ : Rat) * co q i) (g := fun i => (DG : Rat) * co g i) e1 e2, smul_cv, cv_comm, smul_cv, cv_comm, ← co_mulR, Rat.natCast_mul]
    grind
  -- e: what DQ DG has more
  obtain ⟨d, hd⟩ : ∃ d, d = Nat.gcd D (DQ * DG) := ⟨_, rfl⟩
  have d0 : 0 < d := by rw [hd]; exact Nat.gcd_pos_of_pos_left _ hD
  obtain ⟨e, he⟩ : d ∣ DQ * DG := by rw [hd]; exact Nat.gcd_dvd_right _ _
  obtain ⟨f, hf⟩ : d ∣ D := by rw [hd]; exact Nat.gcd_dvd_left _ _
  have cop : Nat.gcd f e = 1 := by
    have h1 : Nat.gcd (d * f) (d * e) = d * Nat.gcd f e := Nat.gcd_mul_left d f e
    rw [← hf, ← he, ← hd] at h1
    have : d * 1 = d * Nat.gcd f e := by rw [Nat.mul_one]; exact h1
    exact (Nat.eq_of_mul_eq_mul_left d0 this).symm
  by_cases e1 : e = 1
  · rw [he, e1, Nat.mul_one]
    exact ⟨f, hf⟩
  · exfalso
    have e0 : 0 < e := by
      cases e with
      | zero => simp at he; have := Nat.mul_pos hQ hG; omega
      | succ e => omega
    obtain ⟨p, hp, hpe⟩ := pri_ex e (by omega)
    obtain ⟨k, hk⟩ := gauss hp (pQ p hp) (pG p hp)
    apply hk
    obtain ⟨z, hz⟩ := w k
    have e3 : (f : Int) * cvZ FQ FG k = (e : Int) * z := by
      apply intCast_inj
      rw [Rat.intCast_mul, Rat.intCast_mul, ← key k, ← hz, he, hf, Rat.intCast_natCast, Rat.intCast_natCast, Rat.natCast_mul, Rat.natCast_mul]
      grind
    have h4 : (p : Int) ∣ (f : Int) * cvZ FQ FG k := by
      rw [e3]
      exact Int.dvd_mul_of_dvd_left (Int.natCast_dvd_natCast.mpr hpe)
    rcases hp.mul h4 with y | y
    · exfalso
      have y2 : p ∣ f := Int.natCast_dvd_natCast.mp y
      have : p ∣ Nat.gcd f e := Nat.dvd_gcd y2 hpe
      rw [cop] at this
      have := Nat.le_of_dvd (by omega) this
      have := hp.1
      omega
    · exact y
end Pm
namespace Pm
open Pl
/-! ### whole rows by their worths -/
def evI : List Int → Int → Int
  | [], _ => 0
  | a :: l, x => a + x * evI l x
/-- what is left when the worth at t is taken off and d - t is divided out -/
def syn : List Int → Int → List Int
  | [], _ => []
  | [_], _ => []
  | _ :: b :: l, t => evI (b :: l) t :: syn (b :: l) t
theorem syn_len : ∀ (l : List Int) (t : Int), (syn l t).length = l.length - 1
  | [], _ => rfl
  | [_], _ => rfl
  | _ :: b :: l, t => by
    show (syn (b :: l) t).length + 1 = _
    rw [syn_len (b :: l) t]
    simp
theorem evI_syn : ∀ (l : List Int) (t x : Int), evI l x - evI l t = (x - t) * evI (syn l t) x
  | [], t, x => by simp [evI, syn]
  | [a], t, x => by simp [evI, syn]
  | a :: b :: l, t, x => by
    have ih := evI_syn (b :: l) t x
    show a + x * evI (b :: l) x - (a + t * evI (b :: l) t) = (x - t) * (evI (b :: l) t + x * evI (syn (b :: l) t) x)
    have : evI (b :: l) x = evI (b :: l) t + (x - t) * evI (syn (b :: l) t) x := by omega
    rw [this]
    grind
theorem natAbs_le_add {a b c : Int} (h : a = b + c) : a.natAbs ≤ b.natAbs + c.natAbs := by rw [h]; exact Int.natAbs_add_le b c
theorem syn_bound {B T : Nat} {t : Int} (ht : t.natAbs ≤ T) : ∀ (l : List Int) (W : Nat), (evI l t).natAbs ≤ W → (∀ c ∈ syn l t, c.natAbs ≤ B) → ∀ a ∈ l, a.natAbs ≤ max W B + T * B
  | [], _, _, _, a, ha => absurd ha List.not_mem_nil
  | [x], W, h, _, a, ha => by
    simp at ha
    subst ha
    simp [evI] at h
    omega
  | x :: y :: l, W, h, hs, a, ha => by
    have hy : (evI (y :: l) t).natAbs ≤ B := hs _ List.mem_cons_self
    rcases List.mem_cons.mp ha with rfl | ha
    · have e : a = evI (a :: y :: l) t + (-(t * evI (y :: l) t)) := by
        show a = a + t * evI (y :: l) t + (-(t * evI (y :: l) t))
        omega
      have h1 := natAbs_le_add e
      rw [Int.natAbs_neg, Int.natAbs_mul] at h1
      have h2 := Nat.mul_le_mul ht hy
      omega
    · have := syn_bound ht (y :: l) B hy (fun c hc => hs c (List.mem_cons_of_mem _ hc)) a ha
      omega
/-- a row is bounded by its worths at as many places as it has numbers -/
theorem worth_bound {T : Nat} : ∀ (k : Nat) (l : List Int) (ts : List Int) (Y : Nat), l.length ≤ k → k ≤ ts.length → ts.Pairwise (· ≠ ·) → (∀ t ∈ ts, t.natAbs ≤ T ∧ (evI l t).natAbs ≤ Y) → ∀ a ∈ l, a.natAbs ≤ Y * (2 * T + 3) ^ k
  | 0, l, ts, Y, hl, _, _, _, a, ha => by
    have : l = [] := List.length_eq_zero_iff.mp (by omega)
    subst this
    exact absurd ha List.not_mem_nil
  | k + 1, l, [], Y, hl, hk, _, _, a, ha => by simp at hk
  | k + 1, l, t :: ts, Y, hl, hk, hp, h, a, ha => by
    obtain ⟨hp1, hp2⟩ := List.pairwise_cons.mp hp
    have ht := h t List.mem_cons_self
    have ih := worth_bound k (syn l t) ts (2 * Y) (by rw [syn_len]; omega) (by simpa using hk) hp2 fun s hs => by
      have h1 := h s (List.mem_cons_of_mem _ hs)
      refine ⟨h1.1, ?_⟩
      have h2 := evI_syn l t s
      have h3 : (evI l s - evI l t).natAbs ≤ 2 * Y := by
        have := Int.natAbs_sub_le (evI l s) (evI l t)
        omega
      rw [h2, Int.natAbs_mul] at h3
      have h4 : 1 ≤ (s - t).natAbs := by
        have := hp1 s hs
        omega
      have := Nat.mul_le_mul_right (evI (syn l t) s).natAbs h4
      omega
    have := syn_bound ht.1 l Y ht.2 ih a ha
    have hpow : 1 ≤ (2 * T + 3) ^ k := Nat.one_le_pow _ _ (by omega)
    have h5 : Y ≤ Y * (2 * T + 3) ^ k := Nat.le_mul_of_pos_right _ (by omega)
    have h6 : Y * (2 * T + 3) ^ (k + 1) = 2 * T * (Y * (2 * T + 3) ^ k) + 3 * (Y * (2 * T + 3) ^ k) := by
      rw [Nat.pow_succ]
      generalize (2 * T + 3) ^ k = p
      rw [← Nat.add_mul, Nat.mul_comm p, ← Nat.mul_assoc, Nat.mul_comm Y, Nat.mul_assoc]
    have h7 : 2 * Y * (2 * T + 3) ^ k = 2 * (Y * (2 * T + 3) ^ k) := Nat.mul_assoc _ _ _
    have h8 : T * (2 * Y * (2 * T + 3) ^ k) = 2 * T * (Y * (2 * T + 3) ^ k) := by rw [h7, ← Nat.mul_assoc, Nat.mul_comm T 2]
    rw [h8, h7] at this
    omega
theorem evI_bound {X T : Nat} {t : Int} (ht : t.natAbs ≤ T) : ∀ (l : List Int), (∀ a ∈ l, a.natAbs ≤ X) → (evI l t).natAbs ≤ X * (T + 1) ^ l.length
  | [], _ => by simp [evI]
  | a :: l, h => by
    have ih := evI_bound ht l fun b hb => h b (List.mem_cons_of_mem _ hb)
    have ha := h a List.mem_cons_self
    have h1 : (evI (a :: l) t).natAbs ≤ a.natAbs + (t * evI l t).natAbs := natAbs_le_add rfl
    rw [Int.natAbs_mul] at h1
    have h2 := Nat.mul_le_mul ht ih
    have hpow : 1 ≤ (T + 1) ^ l.length := Nat.one_le_pow _ _ (by omega)
    have h3 : X ≤ X * (T + 1) ^ l.length := Nat.le_mul_of_pos_right _ (by omega)
    have h4 : X * (T + 1) ^ (a :: l).length = T * (X * (T + 1) ^ l.length) + X * (T + 1) ^ l.length := by
      rw [List.length_cons, Nat.pow_succ]
      generalize (T + 1) ^ l.length = p
      rw [Nat.mul_add, Nat.mul_add, Nat.mul_one, ← Nat.mul_assoc, Nat.mul_comm (X * p) T]
    omega
/-- places at which a whole row other than nought is not 0 -/
theorem places_ex {l : List Int} (h0 : ∃ a ∈ l, a ≠ 0) (k : Nat) : ∃ ts : List Int, k ≤ ts.length ∧ ts.Pairwise (· ≠ ·) ∧ ∀ t ∈ ts, t.natAbs ≤ l.length + k ∧ evI l t ≠ 0 := by
  obtain ⟨N, hN⟩ : ∃ N, N = l.length + k := ⟨_, rfl⟩
  have pw : ((List.range N).map fun i : Nat => (i : Int)).Pairwise (· ≠ ·) := by
    rw [List.pairwise_map]
    exact List.nodup_range.imp fun h e => h (by omega)
  obtain ⟨Z, hZ⟩ : ∃ Z, Z = ((List.range N).map fun i : Nat => (i : Int)).filter fun t => evI l t == 0 := ⟨_, rfl⟩
  obtain ⟨W, hW⟩ : ∃ W, W = ((List.range N).map fun i : Nat => (i : Int)).filter fun t => !(evI l t == 0) := ⟨_, rfl⟩
  have split : ∀ xs : List Int, (xs.filter fun t => evI l t == 0).length + (xs.filter fun t => !(evI l t == 0)).length = xs.length := by
    intro xs
    induction xs with
    | nil => rfl
    | cons x xs ih =>
      rw [List.filter_cons, List.filter_cons]
      by_cases z : (evI l x == 0) = true
      · simp [z] at ih ⊢; omega
      · simp [z] at ih ⊢; omega
  have hs := split ((List.range N).map fun i : Nat => (i : Int))
  rw [← hZ, ← hW, List.length_map, List.length_range] at hs
  have hz : Z.length < l.length := by
    refine Classical.byContradiction fun hz => ?_
    obtain ⟨a, ha, hne⟩ := h0
    have := worth_bound (T := N) l.length l Z 0 (Nat.le_refl _) (by omega) (by rw [hZ]; exact pw.filter _) (fun t ht => by
      rw [hZ, List.mem_filter, List.mem_map] at ht
      obtain ⟨⟨i, hi, rfl⟩, h2⟩ := ht
      have h3 : evI l (i : Int) = 0 := by simpa using h2
      have := List.mem_range.mp hi
      rw [h3]
      simp
      omega) a ha
    simp at this
    exact hne (by omega)
  refine ⟨W, by omega, by rw [hW]; exact pw.filter _, fun t ht => ?_⟩
  rw [hW, List.mem_filter, List.mem_map] at ht
  obtain ⟨⟨i, hi, rfl⟩, h2⟩ := ht
  have := List.mem_range.mp hi
  exact ⟨by simp; omega, by simpa using h2⟩
/-! ### factors are hardly greater -/
theorem ev_int {D : Nat} {t : Int} : ∀ {l : List Rat} {zs : List Int}, l.map (· * (D : Rat)) = zs.map (fun z : Int => (z : Rat)) → (D : Rat) * ev l (t : Rat) = (evI zs t : Rat)
  | [], [], _ => by
    show (D : Rat) * 0 = ((0 : Int) : Rat)
    rw [Rat.mul_zero]
    rfl
  | [], _ :: _, h => by simp at h
  | _ :: _, [], h => by simp at h
  | a :: l, z :: zs, h => by
    simp only [List.map_cons, List.cons.injEq] at h
    have ih := ev_int (D := D) (t := t) h.2
    show (D : Rat) * (a + (t : Rat) * ev l (t : Rat)) = ((z + t * evI zs t : Int) : Rat)
    rw [Rat.intCast_add, Rat.intCast_mul, ← h.1, ← ih]
    grind
/-- a row of whole numbers over D -/
theorem zl_ex {l : List Rat} {D : Nat} {F : Nat → Int} (h : ∀ i, co l i * (D : Rat) = (F i : Rat)) : l.map (· * (D : Rat)) = ((List.range l.length).map F).map (fun z : Int => (z : Rat)) := by
  refine List.ext_getElem? fun i => ?_
  by_cases hi : i < l.length
  · have e : co l i = l[i] := co_of (List.getElem?_eq_getElem hi)
    have := h i
    rw [e] at this
    rw [List.getElem?_map, List.getElem?_map, List.getElem?_map, List.getElem?_range hi, List.getElem?_eq_getElem hi]
    simp [this]
  · rw [List.getElem?_eq_none (by simp; omega), List.getElem?_eq_none (by simp; omega)]
theorem fac_sr {q g : List Rat} {n L t : Nat} (tq : Tm q) (tg : Tm g) (q0 : q ≠ []) (g0 : g ≠ []) (fq : fnz q = 1) (fg : fnz g = 1) (h : Sr n (mulR q g)) (hl : (mulR q g).length ≤ L) (ht : 4 * L + 3 ≤ 2 ^ t) : Sr (n + 2 * (t * L)) q := by
  obtain ⟨D, X, d0, d1, d2, d3⟩ := h
  obtain ⟨nq, DQ', XQ, a0, a1, a2, a3⟩ := sr_ex q
  obtain ⟨ng, DG', XG, b0, b1, b2, b3⟩ := sr_ex g
  obtain ⟨DQ, FQ, hQ, eQ, pQ⟩ := least_den (l := q) ⟨DQ', a0, fun i => let ⟨z, e, _⟩ := a3 i; ⟨z, e⟩⟩
  obtain ⟨DG, FG, hG, eG, pG⟩ := least_den (l := g) ⟨DG', b0, fun i => let ⟨z, e, _⟩ := b3 i; ⟨z, e⟩⟩
  have pQ := pQ (by obtain ⟨k, z⟩ := fz_fnz tq q0; exact ⟨k, by rw [z.2.1, fq]⟩)
  have pG := pG (by obtain ⟨k, z⟩ := fz_fnz tg g0; exact ⟨k, by rw [z.2.1, fg]⟩)
  obtain ⟨E, hE⟩ := den_dvd d0 hQ hG (fun i => let ⟨z, e, _⟩ := d3 i; ⟨z, e⟩) eQ eG pQ pG
  have E0 : 0 < E := by
    cases E with
    | zero => simp at hE; omega
    | succ E => omega
  -- the product's whole numbers
  obtain ⟨FA, hA⟩ : ∃ FA : Nat → Int, ∀ i, co (mulR q g) i * (D : Rat) = (FA i : Rat) ∧ (FA i).natAbs ≤ X := ⟨fun i => Classical.choose (d3 i), fun i => Classical.choose_spec (d3 i)⟩
  obtain ⟨zq, hzq⟩ : ∃ zq, zq = (List.range q.length).map FQ := ⟨_, rfl⟩
  obtain ⟨zg, hzg⟩ : ∃ zg, zg = (List.range g.length).map FG := ⟨_, rfl⟩
  obtain ⟨za, hza⟩ : ∃ za, za = (List.range (mulR q g).length).map FA := ⟨_, rfl⟩
  have lq : zq.length = q.length := by rw [hzq]; simp
  have la : za.length = (mulR q g).length := by rw [hza]; simp
  have ez : ∀ t : Int, evI za t = evI zq t * (evI zg t * (E : Int)) := fun t => by
    apply intCast_inj
    have h1 := ev_int (t := t) (zl_ex fun i => (hA i).1)
    have h2 := ev_int (t := t) (zl_ex eQ)
    have h3 := ev_int (t := t) (zl_ex eG)
    rw [← hza] at h1
    rw [← hzq] at h2
    rw [← hzg] at h3
    rw [Rat.intCast_mul, Rat.intCast_mul, ← h1, ← h2, ← h3, ev_mul (ps_mulR q g), hE, Rat.natCast_mul, Rat.natCast_mul, Rat.intCast_natCast]
    grind
  have hne : ∃ a ∈ za, a ≠ 0 := by
    have m0 := mulR_ne tq tg q0 g0
    have h1 := tm_last (tm_mulR q g) m0
    have h2 := List.length_pos_iff.mpr m0
    refine ⟨FA ((mulR q g).length - 1), by rw [hza]; exact List.mem_map.mpr ⟨_, List.mem_range.mpr (by omega), rfl⟩, fun e => ?_⟩
    have h3 := (hA ((mulR q g).length - 1)).1
    rw [e] at h3
    have hD := natCast_ne d0
    have : co (mulR q g) ((mulR q g).length - 1) * (D : Rat) ≠ 0 := by grind
    exact this (by rw [h3]; rfl)
  have ml := mulR_length tq tg q0 g0
  have gp := List.length_pos_iff.mpr g0
  obtain ⟨ts, t1, t2, t3⟩ := places_ex hne q.length
  have hX : ∀ a ∈ za, a.natAbs ≤ X := fun a ha => by
    rw [hza] at ha
    obtain ⟨i, _, rfl⟩ := List.mem_map.mp ha
    exact (hA i).2
  obtain ⟨T, hT⟩ : ∃ T, T = 2 * L := ⟨_, rfl⟩
  have bd := worth_bound (T := T) q.length zq ts (X * (T + 1) ^ za.length) (by omega) t1 t2 fun s hs => by
    obtain ⟨s1, s2⟩ := t3 s hs
    refine ⟨by omega, ?_⟩
    have h1 := evI_bound (X := X) (T := T) (t := s) (by omega) za hX
    have h2 := ez s
    have h3 : (evI zq s).natAbs ∣ (evI za s).natAbs := by
      rw [h2, Int.natAbs_mul]
      exact Nat.dvd_mul_right _ _
    exact Nat.le_trans (Nat.le_of_dvd (by omega) h3) h1
  have two : ∀ k, k ≤ L → (2 * T + 3) ^ k ≤ 2 ^ (t * L) := fun k hk => by
    rw [Nat.pow_mul]
    exact Nat.le_trans (Nat.pow_le_pow_left (by omega) k) (Nat.pow_le_pow_right (Nat.pow_pos (by omega)) hk)
  have big : X * (T + 1) ^ za.length * (2 * T + 3) ^ q.length < 2 ^ (n + 2 * (t * L)) := by
    have h1 : (T + 1) ^ za.length ≤ 2 ^ (t * L) := Nat.le_trans (Nat.pow_le_pow_left (by omega) _) (two za.length (by omega))
    have h2 := two q.length (by omega)
    have h3 : X * (T + 1) ^ za.length * (2 * T + 3) ^ q.length ≤ X * 2 ^ (t * L) * 2 ^ (t * L) := Nat.mul_le_mul (Nat.mul_le_mul_left _ h1) h2
    have h4 : 2 ^ (n + 2 * (t * L)) = 2 ^ n * 2 ^ (t * L) * 2 ^ (t * L) := by rw [show n + 2 * (t * L) = n + t * L + t * L by omega, Nat.pow_add, Nat.pow_add]
    rw [h4]
    refine Nat.lt_of_le_of_lt h3 ?_
    exact Nat.mul_lt_mul_of_pos_right (Nat.mul_lt_mul_of_pos_right d2 (Nat.pow_pos (by omega))) (Nat.pow_pos (by omega))
  have dq : DQ ≤ D := by
    rw [hE, Nat.mul_assoc]
    exact Nat.le_mul_of_pos_right _ (Nat.mul_pos hG E0)
  refine ⟨DQ, X * (T + 1) ^ za.length * (2 * T + 3) ^ q.length, hQ, Nat.lt_of_lt_of_le (Nat.lt_of_le_of_lt dq d1) (Nat.pow_le_pow_right (by omega) (by omega)), big, fun i => ⟨FQ i, eQ i, ?_⟩⟩
  by_cases hi : i < q.length
  · exact bd (FQ i) (by rw [hzq]; exact List.mem_map.mpr ⟨i, List.mem_range.mpr hi, rfl⟩)
  · have := eQ i
    rw [co_big (by omega)] at this
    have : FQ i = 0 := intCast_inj (by rw [← this]; show (0 : Rat) * _ = 0; rw [Rat.zero_mul])
    rw [this]
    simp
end Pm
namespace Pm
open Pl
/-! ### answers: quotients of rows without a common divisor -/
structure Nrm (A B N U : List Rat) : Prop where
  tn : Tm N
  tu : Tm U
  u0 : co U 0 = 1
  cross : ps N * ps B = ps U * ps A
  cop : ∃ u v : List Rat, ps u * ps N + ps v * ps U = 1
section
variable {A B N U A' B' N' U' a b h : List Rat} {n m L t : Nat}
theorem ne_of0 (h : co U 0 ≠ 0) : U ≠ [] := fun e => by
  subst e
  exact h rfl
theorem fnz0 : ∀ {l : List Rat}, co l 0 ≠ 0 → fnz l = co l 0
  | [], h => absurd rfl h
  | a :: l, h => by
    show (if a = 0 then fnz l else a) = a
    exact if_neg h
theorem mulR_comm' : mulR A B = mulR B A := (tm_mulR _ _).eq (tm_mulR _ _) (by rw [ps_mulR, ps_mulR]; grind)
theorem Nrm.une (h : Nrm A B N U) : U ≠ [] := ne_of0 (by rw [h.u0]; decide)
theorem Nrm.fu (h : Nrm A B N U) : fnz U = 1 := by rw [fnz0 (by rw [h.u0]; decide), h.u0]
theorem nrm_uniq (h : Nrm A B N U) (h' : Nrm A' B' N' U') (tB : Tm B) (B0 : B ≠ []) (tB' : Tm B') (B0' : B' ≠ []) (e : ps A * ps B' = ps A' * ps B) : N = N' ∧ U = U' := by
  have e1 : ps (mulR N U') = ps (mulR N' U) := by
    refine psmul_cancel (tm_mulR _ _) (tm_mulR _ _) (tm_mulR B B') (mulR_ne tB tB' B0 B0') (f := 0) ?_
    rw [ps_mulR, ps_mulR, ps_mulR]
    have c1 := h.cross
    have c2 := h'.cross
    have : ps N * ps U' * (ps B * ps B') = (ps N * ps B) * (ps U' * ps B') := by grind
    rw [this, c1]
    have : ps N' * ps U * (ps B * ps B') = (ps N' * ps B') * (ps U * ps B) := by grind
    rw [this, c2]
    grind
  rw [ps_mulR, ps_mulR] at e1
  obtain ⟨u, v, c⟩ := h.cop
  obtain ⟨u', v', c'⟩ := h'.cop
  have d1 : Dv U U' := dv_of (q := addR (mulR u N') (mulR v U')) (by
    rw [ps_addR, ps_mulR, ps_mulR]
    have : ps U' = (ps u * ps N + ps v * ps U) * ps U' := by rw [c]; grind
    rw [this]
    grind)
  have d2 : Dv U' U := dv_of (q := addR (mulR u' N) (mulR v' U)) (by
    rw [ps_addR, ps_mulR, ps_mulR]
    have : ps U = (ps u' * ps N' + ps v' * ps U') * ps U := by rw [c']; grind
    rw [this]
    grind)
  have e2 : U = U' := by
    rw [← low_self h.tu h.fu, ← low_self h'.tu h'.fu]
    exact dv_both h.tu h'.tu d1 d2
  refine ⟨mul_cancel h.tn h'.tn h.tu h.une ?_, e2⟩
  rw [e2] at e1 ⊢
  exact e1
theorem nrm_cross (h : Nrm A B N U) (h' : Nrm A' B' N U) : ps A * ps B' = ps A' * ps B := by
  have : ps (mulR A B') = ps (mulR A' B) := by
    refine psmul_cancel (tm_mulR _ _) (tm_mulR _ _) h.tu h.une (f := 0) ?_
    rw [ps_mulR, ps_mulR]
    have c1 := h.cross
    have c2 := h'.cross
    have : ps A * ps B' * ps U = (ps U * ps A) * ps B' := by grind
    rw [this, ← c1]
    have : ps A' * ps B * ps U = (ps U * ps A') * ps B := by grind
    rw [this, ← c2]
    grind
  rw [ps_mulR, ps_mulR] at this
  exact this
theorem nrm_fac (th : Tm h) (h0 : h ≠ []) : Nrm (mulR h a) (mulR h b) N U ↔ Nrm a b N U := by
  constructor
  · intro k
    refine ⟨k.tn, k.tu, k.u0, ?_, k.cop⟩
    have : ps (mulR N b) = ps (mulR U a) := by
      refine psmul_cancel (tm_mulR _ _) (tm_mulR _ _) th h0 (f := 0) ?_
      have c := k.cross
      rw [ps_mulR, ps_mulR] at c
      rw [ps_mulR, ps_mulR]
      grind
    rw [ps_mulR, ps_mulR] at this
    exact this
  · intro k
    refine ⟨k.tn, k.tu, k.u0, ?_, k.cop⟩
    have c := k.cross
    rw [ps_mulR, ps_mulR]
    have : ps N * (ps h * ps b) = ps h * (ps N * ps b) := by grind
    rw [this, c]
    grind
theorem nrm_nil : Nrm [] B [] [1] := ⟨tm_nil, tm_one, rfl, by rw [ps_nil]; grind, [], [1], by rw [ps_nil, ps_one]; grind⟩
/-- by the common divisor -/
theorem nrm_gcd (tA : Tm A) (tB : Tm B) (hB : co B 0 ≠ 0) : co (quoR B (gcdR A B)) 0 ≠ 0 ∧ Nrm A B (sclR (quoR A (gcdR A B)) (1 / co (quoR B (gcdR A B)) 0)) (sclR (quoR B (gcdR A B)) (1 / co (quoR B (gcdR A B)) 0)) := by
  have B0 := ne_of0 hB
  obtain ⟨g1, g2, g3, g4, g5, u, v, g6⟩ := gcdR_spec tA tB (.inr B0)
  have qb := quo_mul g1 g2 tB g5
  have qa := quo_mul g1 g2 tA g4
  have y0 : co (quoR B (gcdR A B)) 0 ≠ 0 := fun e => by
    apply hB
    rw [← qb, co_mulR]
    show co _ 0 * co _ 0 = 0
    rw [e]
    grind
  refine ⟨y0, tm_sclR _ _, tm_sclR _ _, by rw [co_sclR]; grind, ?_, ?_⟩
  · rw [ps_sclR, ps_sclR]
    have e1 : ps A = ps (quoR A (gcdR A B)) * ps (gcdR A B) := by rw [← ps_mulR, qa]
    have e2 : ps B = ps (quoR B (gcdR A B)) * ps (gcdR A B) := by rw [← ps_mulR, qb]
    conv => lhs; rw [e2]
    conv => rhs; rw [e1]
    grind
  · refine ⟨sclR u (co (quoR B (gcdR A B)) 0), sclR v (co (quoR B (gcdR A B)) 0), ?_⟩
    have one : ps (addR (mulR u (quoR A (gcdR A B))) (mulR v (quoR B (gcdR A B)))) = ps [1] := by
      refine psmul_cancel (tm_addR _ _) tm_one g1 g2 (f := 0) ?_
      rw [ps_addR, ps_mulR, ps_mulR, ps_one]
      have e1 : ps A = ps (quoR A (gcdR A B)) * ps (gcdR A B) := by rw [← ps_mulR, qa]
      have e2 : ps B = ps (quoR B (gcdR A B)) * ps (gcdR A B) := by rw [← ps_mulR, qb]
      rw [e1, e2] at g6
      conv => rhs; rw [g6]
      grind
    rw [ps_addR, ps_mulR, ps_mulR, ps_one] at one
    rw [ps_sclR, ps_sclR, ps_sclR, ps_sclR]
    have e3 : mono 0 (co (quoR B (gcdR A B)) 0) * mono 0 (1 / co (quoR B (gcdR A B)) 0) = 1 := by
      rw [mono_mul]
      have : co (quoR B (gcdR A B)) 0 * (1 / co (quoR B (gcdR A B)) 0) = 1 := by grind
      rw [this]
      refine Ps.ext' fun k => ?_
      rw [Ps.one_c]
      rfl
    have : mono 0 (co (quoR B (gcdR A B)) 0) * ps u * (mono 0 (1 / co (quoR B (gcdR A B)) 0) * ps (quoR A (gcdR A B))) + mono 0 (co (quoR B (gcdR A B)) 0) * ps v * (mono 0 (1 / co (quoR B (gcdR A B)) 0) * ps (quoR B (gcdR A B))) = (mono 0 (co (quoR B (gcdR A B)) 0) * mono 0 (1 / co (quoR B (gcdR A B)) 0)) * (ps u * ps (quoR A (gcdR A B)) + ps v * ps (quoR B (gcdR A B))) := by grind
    rw [this, e3, one]
    grind
noncomputable def nrmN (A B : List Rat) : List Rat := sclR (quoR A (gcdR A B)) (1 / co (quoR B (gcdR A B)) 0)
noncomputable def nrmU (A B : List Rat) : List Rat := sclR (quoR B (gcdR A B)) (1 / co (quoR B (gcdR A B)) 0)
theorem nrm_spec (tA : Tm A) (tB : Tm B) (hB : co B 0 ≠ 0) : Nrm A B (nrmN A B) (nrmU A B) := (nrm_gcd tA tB hB).2
theorem nrm_is (tA : Tm A) (tB : Tm B) (hB : co B 0 ≠ 0) (h : Nrm A B N U) : nrmN A B = N ∧ nrmU A B = U := nrm_uniq (nrm_spec tA tB hB) h tB (ne_of0 hB) tB (ne_of0 hB) rfl
/-- the same answer -/
theorem nrm_eq (tA : Tm A) (tB : Tm B) (hB : co B 0 ≠ 0) (tA' : Tm A') (tB' : Tm B') (hB' : co B' 0 ≠ 0) : (nrmN A B = nrmN A' B' ∧ nrmU A B = nrmU A' B') ↔ ps A * ps B' = ps A' * ps B := by
  constructor
  · intro ⟨e1, e2⟩
    have h1 := nrm_spec tA tB hB
    have h2 := nrm_spec tA' tB' hB'
    rw [e1, e2] at h1
    exact nrm_cross h1 h2
  · intro e
    exact nrm_uniq (nrm_spec tA tB hB) (nrm_spec tA' tB' hB') tB (ne_of0 hB) tB' (ne_of0 hB') e
theorem nrm_self (h : Nrm A B N U) : Nrm N U N U := ⟨h.tn, h.tu, h.u0, by grind, h.cop⟩
theorem nrm_nil_is (tB : Tm B) (hB : co B 0 ≠ 0) : nrmN [] B = [] ∧ nrmU [] B = [1] := nrm_is tm_nil tB hB nrm_nil
/-- what both are made of -/
theorem Nrm.parts (h : Nrm A B N U) (tA : Tm A) (tB : Tm B) : ∃ g : List Rat, Tm g ∧ A = mulR N g ∧ B = mulR U g := by
  obtain ⟨u, v, c⟩ := h.cop
  have cr := h.cross
  refine ⟨addR (mulR u A) (mulR v B), tm_addR _ _, tA.eq (tm_mulR _ _) ?_, tB.eq (tm_mulR _ _) ?_⟩
  · rw [ps_mulR, ps_addR, ps_mulR, ps_mulR]
    have : ps A = (ps u * ps N + ps v * ps U) * ps A := by rw [c]; grind
    rw [this]
    have : ps N * (ps u * ((ps u * ps N + ps v * ps U) * ps A) + ps v * ps B) = (ps u * ps N) * ((ps u * ps N + ps v * ps U) * ps A) + ps v * (ps N * ps B) := by grind
    rw [this, cr, c]
    grind
  · rw [ps_mulR, ps_addR, ps_mulR, ps_mulR]
    have : ps B = (ps u * ps N + ps v * ps U) * ps B := by rw [c]; grind
    rw [this]
    have : ps U * (ps u * ps A + ps v * ((ps u * ps N + ps v * ps U) * ps B)) = ps u * (ps U * ps A) + (ps v * ps U) * ((ps u * ps N + ps v * ps U) * ps B) := by grind
    rw [this, ← cr, c]
    grind
theorem Nrm.sz (h : Nrm A B N U) (hA : RW n L A) (hB : RW m L B) (b0 : co B 0 ≠ 0) (ht : 4 * L + 3 ≤ 2 ^ t) : RW (2 * n + m + 2 * (t * L)) L N ∧ RW (m + 2 * (t * L)) L U := by
  obtain ⟨g, tg, eA, eB⟩ := h.parts hA.tm hB.tm
  have B0 := ne_of0 b0
  have g0 : g ≠ [] := fun e => by
    subst e
    apply B0
    rw [eB]
    exact ps_zero (tm_mulR _ _) (by rw [ps_mulR, ps_nil]; grind)
  have u0 := h.une
  have lB := hB.len
  have lA := hA.len
  have mU := mulR_length h.tu tg u0 g0
  have gp := List.length_pos_iff.mpr g0
  have one_low : fnz (lowR g) = 1 := fnz_low tg g0
  have sB : Sr m (mulR U (lowR g)) := by
    have e : mulR U (lowR g) = lowR B := by rw [eB, low_mul h.tu tg u0 g0, low_self h.tu h.fu]
    rw [e]
    exact sr_low hB.tm B0 hB.sr
  have lgl : (lowR g).length = g.length := sclR_length tg (inv_ne fnz_ne)
  have sU := fac_sr (L := L) (t := t) h.tu tm_lowR u0 (lowR_ne tg g0) h.fu one_low sB (by
    have := mulR_length h.tu (tm_lowR (l := g)) u0 (lowR_ne tg g0)
    rw [eB] at lB
    omega) ht
  have rU : RW (m + 2 * (t * L)) L U := ⟨h.tu, by rw [eB] at lB; omega, sU⟩
  refine ⟨?_, rU⟩
  by_cases N0 : N = []
  · subst N0
    exact RW.nil.mono (by have := hB.sr.pos; omega) (Nat.zero_le _)
  · have mN := mulR_length h.tn tg N0 g0
    have A0 : A ≠ [] := by rw [eA]; exact mulR_ne h.tn tg N0 g0
    have sA : Sr n (mulR (lowR N) (lowR g)) := by
      rw [← low_mul h.tn tg N0 g0, ← eA]
      exact sr_low hA.tm A0 hA.sr
    have lNl : (lowR N).length = N.length := sclR_length h.tn (inv_ne fnz_ne)
    have sN := fac_sr (L := L) (t := t) tm_lowR tm_lowR (lowR_ne h.tn N0) (lowR_ne tg g0) (fnz_low h.tn N0) one_low sA (by
      have := mulR_length (tm_lowR (l := N)) (tm_lowR (l := g)) (lowR_ne h.tn N0) (lowR_ne tg g0)
      rw [eA] at lA
      omega) ht
    have fA : fnz A = fnz N * fnz g := by rw [eA, fnz_mul h.tn tg N0 g0]
    have fB : fnz B = fnz g := by rw [eB, fnz_mul h.tu tg u0 g0, h.fu]; grind
    have cN : Sz (n + m) (fnz N) := by
      have e : fnz N = fnz A / fnz B := by
        rw [fA, fB]
        have := fnz_ne (l := g)
        grind
      rw [e]
      exact sz_div (sz_fnz hA.sr) (sz_fnz hB.sr) fnz_ne
    have eN : N = sclR (lowR N) (fnz N) := by
      unfold lowR
      rw [sclR_scl]
      have : 1 / fnz N * fnz N = 1 := Rat.div_mul_cancel fnz_ne
      rw [this, sclR_one h.tn]
    have r1 : RW (n + 2 * (t * L)) L (lowR N) := ⟨tm_lowR, by rw [eA] at lA; omega, sN⟩
    have := r1.scl cN
    rw [← eN] at this
    exact this.mono (by omega) (Nat.le_refl _)
end
end Pm
namespace Pm
open Pl
/-! ### an answer's numbers -/
/-- the sum of B_j f_(k - j), j from 1 to i -/
def dotN (B : List Rat) (f : Nat → Rat) (k : Nat) : Nat → Rat
  | 0 => 0
  | i + 1 => dotN B f k i + co B (i + 1) * f (k - (i + 1))
def numsL (A B : List Rat) : Nat → List Rat
  | 0 => []
  | k + 1 => numsL A B k ++ [(co A k - dotN B (co (numsL A B k)) k k) / co B 0]
def numF (A B : List Rat) (k : Nat) : Rat := co (numsL A B (k + 1)) k
section
variable {A B A' B' N U : List Rat} {f g : Nat → Rat} {n m : Nat}
theorem numsL_len : ∀ (k : Nat), (numsL A B k).length = k
  | 0 => rfl
  | k + 1 => by
    show (numsL A B k ++ [_]).length = _
    rw [List.length_append, numsL_len k]
    rfl
theorem numsL_take : ∀ (K k : Nat), k < K → co (numsL A B K) k = numF A B k
  | 0, k, h => absurd h (by omega)
  | K + 1, k, h => by
    by_cases e : k = K
    · subst e; rfl
    · show co (numsL A B K ++ [_]) k = _
      have hl := numsL_len (A := A) (B := B) K
      have : co (numsL A B K ++ [(co A K - dotN B (co (numsL A B K)) K K) / co B 0]) k = co (numsL A B K) k := by
        unfold co
        rw [List.getElem?_append_left (by omega)]
      rw [this]
      exact numsL_take K k (by omega)
theorem numsL_eq (K : Nat) : numsL A B K = (List.range K).map (numF A B) := List.ext_getElem? fun i => by
  have hl := numsL_len (A := A) (B := B) K
  by_cases hi : i < K
  · have h1 := numsL_take (A := A) (B := B) K i hi
    unfold co at h1
    rw [List.getElem?_eq_getElem (by omega)] at h1 ⊢
    rw [List.getElem?_map, List.getElem?_range hi]
    exact congrArg some h1
  · rw [List.getElem?_eq_none (by omega), List.getElem?_eq_none (by simp; omega)]
theorem dotN_congr (k : Nat) : ∀ (i : Nat), (∀ j, j < k → f j = g j) → i ≤ k → dotN B f k i = dotN B g k i
  | 0, _, _ => rfl
  | i + 1, h, hi => by
    show dotN B f k i + _ * f (k - (i + 1)) = dotN B g k i + _ * g (k - (i + 1))
    rw [dotN_congr k i h (by omega), h _ (by omega)]
theorem numF_eq (k : Nat) : numF A B k = (co A k - dotN B (numF A B) k k) / co B 0 := by
  have e : numF A B k = (co A k - dotN B (co (numsL A B k)) k k) / co B 0 := by
    show co (numsL A B k ++ [_]) k = _
    have hl := numsL_len (A := A) (B := B) k
    unfold co
    rw [List.getElem?_append_right (by omega), hl, Nat.sub_self]
    rfl
  rw [e, dotN_congr k k (g := numF A B) (fun j hj => numsL_take k j hj) (Nat.le_refl _)]
theorem cv_dot : ∀ (k : Nat) (h : Nat → Rat) (f : Nat → Rat), cv h f k = h 0 * f k + dotN ((List.range (k + 1)).map h) f k k := by
  -- by the sum from the left
  have gen : ∀ (k : Nat) (h f : Nat → Rat), ∃ s : Nat → Rat, (s 0 = h 0 * f k) ∧ (∀ i, i < k → s (i + 1) = s i + h (i + 1) * f (k - (i + 1))) ∧ cv h f k = s k := by
    intro k
    induction k with
    | zero => intro h f; exact ⟨fun _ => h 0 * f 0, rfl, fun i hi => absurd hi (by omega), rfl⟩
    | succ k ih =>
      intro h f
      obtain ⟨s, s0, s1, s2⟩ := ih (tl h) f
      refine ⟨fun i => match i with
        | 0 => h 0 * f (k + 1)
        | i + 1 => h 0 * f (k + 1) + s i, rfl, fun i hi => ?_, ?_⟩
      · cases i with
        | zero =>
          show h 0 * f (k + 1) + s 0 = h 0 * f (k + 1) + h 1 * f (k + 1 - 1)
          rw [s0]
          rfl
        | succ i =>
          show h 0 * f (k + 1) + s (i + 1) = h 0 * f (k + 1) + s i + h (i + 2) * f (k + 1 - (i + 2))
          rw [s1 i (by omega), show k + 1 - (i + 2) = k - (i + 1) by omega]
          show _ + (s i + h (i + 2) * f (k - (i + 1))) = _
          grind
      · show h 0 * f (k + 1) + cv (tl h) f k = h 0 * f (k + 1) + s k
        rw [s2]
  intro k h f
  obtain ⟨s, s0, s1, s2⟩ := gen k h f
  rw [s2]
  have : ∀ i, i ≤ k → s i = h 0 * f k + dotN ((List.range (k + 1)).map h) f k i := by
    intro i
    induction i with
    | zero => intro _; rw [s0]; show _ = h 0 * f k + 0; grind
    | succ i ih =>
      intro hi
      rw [s1 i (by omega), ih (by omega)]
      show _ = h 0 * f k + (dotN ((List.range (k + 1)).map h) f k i + co ((List.range (k + 1)).map h) (i + 1) * f (k - (i + 1)))
      have : co ((List.range (k + 1)).map h) (i + 1) = h (i + 1) := co_of (by rw [List.getElem?_map, List.getElem?_range (by omega)]; rfl)
      rw [this]
      grind
  exact this k (Nat.le_refl _)
theorem dotN_row (k : Nat) : ∀ (i : Nat) {C : List Rat}, (∀ j, j ≤ i → co C j = co B j) → dotN C f k i = dotN B f k i
  | 0, _, _ => rfl
  | i + 1, C, h => by
    show dotN C f k i + co C (i + 1) * _ = dotN B f k i + co B (i + 1) * _
    rw [dotN_row k i fun j hj => h j (by omega), h (i + 1) (Nat.le_refl _)]
theorem cv_row (k : Nat) : cv (co B) f k = co B 0 * f k + dotN B f k k := by
  rw [cv_dot, dotN_row k k fun j hj => co_of (by rw [List.getElem?_map, List.getElem?_range (by omega)]; rfl)]
noncomputable def numS (A B : List Rat) : Ps := ⟨numF A B⟩
theorem numS_mul (b0 : co B 0 ≠ 0) : ps B * numS A B = ps A := Ps.ext' fun k => by
  rw [Ps.mul_c]
  show cv (co B) (numF A B) k = co A k
  rw [cv_row, numF_eq k]
  grind
/-- a row that begins with a number other than 0 may be left out -/
theorem ps_cancel {F G : Ps} (b0 : co B 0 ≠ 0) (h : ps B * F = ps B * G) : F = G := Ps.ext' fun k => by
  have key : ∀ (n k : Nat), k < n → F.c k = G.c k := by
    intro n
    induction n with
    | zero => intro k hk; omega
    | succ n ih =>
      intro k hk
      by_cases hkn : k < n
      · exact ih k hkn
      · have e : k = n := by omega
        subst e
        have h1 : cv (co B) F.c k = cv (co B) G.c k := congrArg (fun f : Ps => f.c k) h
        rw [cv_row, cv_row, dotN_congr k k (g := G.c) (fun j hj => ih j hj) (Nat.le_refl _)] at h1
        have : co B 0 * F.c k = co B 0 * G.c k := by grind
        grind
  exact key (k + 1) k (by omega)
theorem numS_is {F : Ps} (b0 : co B 0 ≠ 0) (h : ps B * F = ps A) : numS A B = F := ps_cancel b0 (by rw [numS_mul b0, h])
theorem numS_nrm (h : Nrm A B N U) (b0 : co B 0 ≠ 0) : numS N U = numS A B := by
  refine numS_is (by rw [h.u0]; decide) (ps_cancel b0 ?_)
  have : ps B * (ps U * numS A B) = ps U * (ps B * numS A B) := by grind
  rw [this, numS_mul b0, ← h.cross]
  grind
theorem numF_nrm (h : Nrm A B N U) (b0 : co B 0 ≠ 0) (k : Nat) : numF N U k = numF A B k := congrArg (fun f : Ps => f.c k) (numS_nrm h b0)
theorem numsL_nrm (h : Nrm A B N U) (b0 : co B 0 ≠ 0) (k : Nat) : numsL N U k = numsL A B k := by
  rw [numsL_eq, numsL_eq]
  exact List.map_congr_left fun i _ => numF_nrm h b0 i
/-- the first numbers tell answers of rows of few numbers apart -/
theorem nums_eq {K : Nat} (b0 : co B 0 ≠ 0) (b0' : co B' 0 ≠ 0) (l1 : A.length + B'.length ≤ K + 1) (l2 : A'.length + B.length ≤ K + 1) : numsL A B K = numsL A' B' K ↔ ps A * ps B' = ps A' * ps B := by
  constructor
  · intro h
    have hk : ∀ k, k < K → numF A B k = numF A' B' k := fun k hk => by rw [← numsL_take K k hk, ← numsL_take K k hk, h]
    refine Ps.ext' fun k => ?_
    have e : ps A * ps B' - ps A' * ps B = ps B * ps B' * (numS A B - numS A' B') := by
      have h1 := numS_mul (A := A) b0
      have h2 := numS_mul (A := A') b0'
      rw [← h1, ← h2]
      grind
    by_cases z : k < K
    · have h3 : (ps A * ps B' - ps A' * ps B).c k = 0 := by
        rw [e, Ps.mul_c]
        refine cv_low k _ _ fun i hi => ?_
        show numF A B i - numF A' B' i = 0
        rw [hk i (by omega)]
        grind
      have h4 : (ps A * ps B').c k - (ps A' * ps B).c k = 0 := h3
      grind
    · have h3 : (ps A * ps B').c k = 0 := cv_big k A.length B'.length _ _ (fun i hi => co_big hi) (fun i hi => co_big hi) (by omega)
      have h4 : (ps A' * ps B).c k = 0 := cv_big k A'.length B.length _ _ (fun i hi => co_big hi) (fun i hi => co_big hi) (by omega)
      rw [h3, h4]
  · intro h
    rw [numsL_eq, numsL_eq]
    refine List.map_congr_left fun i _ => ?_
    have : numS A B = numS A' B' := by
      refine numS_is b0 (ps_cancel b0' ?_)
      have e : ps B' * (ps B * numS A' B') = ps B * (ps B' * numS A' B') := by grind
      rw [e, numS_mul b0']
      grind
    exact congrArg (fun f : Ps => f.c i) this
/-- their sizes -/
theorem num_it {D X E Y : Nat} {z0 : Int} (iA : It D X (co A)) (iB : It E Y (co B)) (eb : co B 0 * (E : Rat) = (z0 : Rat)) (h0 : z0 ≠ 0) (hE : 0 < E) : ∀ (K k : Nat), k < K → ∃ z : Int, numF A B k * ((D : Rat) * (z0 : Rat) ^ (k + 1)) = (z : Rat) ∧ z.natAbs ≤ X * E * (2 * Y) ^ k := by
  have hz0 : (z0 : Rat) ≠ 0 := by
    intro e
    have h1 : (z0 : Rat).num = 0 := by rw [e]; rfl
    simp at h1
    exact h0 h1
  have hEr := natCast_ne hE
  have hY : z0.natAbs ≤ Y := by
    obtain ⟨w, e, hw⟩ := iB 0
    rw [eb] at e
    have := intCast_inj e
    omega
  have b0 : co B 0 ≠ 0 := by
    intro e
    rw [e] at eb
    apply hz0
    rw [← eb]
    grind
  intro K
  induction K with
  | zero => intro k hk; omega
  | succ K ih =>
    intro k hk
    -- the sum, step by step
    have dot : ∀ i, i ≤ k → ∃ z : Int, dotN B (numF A B) k i * ((E : Rat) * (D : Rat) * (z0 : Rat) ^ k) = (z : Rat) ∧ z.natAbs ≤ X * E * Y ^ k * (2 ^ k - 2 ^ (k - i)) := by
      intro i
      induction i with
      | zero =>
        intro _
        exact ⟨0, by show (0 : Rat) * _ = _; rw [Rat.zero_mul]; rfl, by simp⟩
      | succ i ih2 =>
        intro hi
        obtain ⟨w, e1, h1⟩ := ih2 (by omega)
        obtain ⟨y, e2, h2⟩ := iB (i + 1)
        obtain ⟨q, e3, h3⟩ := ih (k - (i + 1)) (by omega)
        have ek : k = (k - (i + 1) + 1) + i := by omega
        refine ⟨w + y * q * z0 ^ i, ?_, ?_⟩
        · show (dotN B (numF A B) k i + co B (i + 1) * numF A B (k - (i + 1))) * _ = _
          rw [Rat.intCast_add, Rat.intCast_mul, Rat.intCast_mul, ← e1, ← e2, ← e3, Rat.intCast_pow]
          have ep : (z0 : Rat) ^ k = (z0 : Rat) ^ (k - (i + 1) + 1) * (z0 : Rat) ^ i := by rw [← Lean.Grind.Semiring.pow_add, ← ek]
          rw [ep]
          grind
        · refine Nat.le_trans (Int.natAbs_add_le _ _) ?_
          rw [Int.natAbs_mul, Int.natAbs_mul, Int.natAbs_pow]
          have h4 : y.natAbs * q.natAbs * z0.natAbs ^ i ≤ Y * (X * E * (2 * Y) ^ (k - (i + 1))) * Y ^ i := Nat.mul_le_mul (Nat.mul_le_mul h2 h3) (Nat.pow_le_pow_left hY i)
          have h5 : Y * (X * E * (2 * Y) ^ (k - (i + 1))) * Y ^ i = X * E * Y ^ k * 2 ^ (k - (i + 1)) := by
            have : Y ^ k = Y ^ (k - (i + 1)) * Y * Y ^ i := by rw [← Nat.pow_succ, ← Nat.pow_add, ← ek]
            rw [this, Nat.mul_pow]
            generalize Y ^ (k - (i + 1)) = p1
            generalize Y ^ i = p2
            generalize 2 ^ (k - (i + 1)) = p3
            generalize X * E = p4
            grind
          rw [h5] at h4
          have h6 : 2 ^ (k - i) = 2 * 2 ^ (k - (i + 1)) := by rw [show k - i = (k - (i + 1)) + 1 by omega, Nat.pow_succ, Nat.mul_comm]
          have h7 : 2 ^ (k - i) ≤ 2 ^ k := Nat.pow_le_pow_right (by omega) (by omega)
          have h8 : X * E * Y ^ k * (2 ^ k - 2 ^ (k - i)) + X * E * Y ^ k * 2 ^ (k - (i + 1)) = X * E * Y ^ k * (2 ^ k - 2 ^ (k - (i + 1))) := by
            rw [← Nat.mul_add]
            congr 1
            omega
          omega
    obtain ⟨w, e1, h1⟩ := dot k (Nat.le_refl _)
    obtain ⟨x, e2, h2⟩ := iA k
    refine ⟨x * (E : Int) * z0 ^ k - w, ?_, ?_⟩
    · rw [numF_eq k, Rat.intCast_sub, Rat.intCast_mul, Rat.intCast_mul, ← e1, ← e2, Rat.intCast_pow, Rat.intCast_natCast, ← eb]
      have : ∀ p : Rat, (co A k - dotN B (numF A B) k k) / co B 0 * ((D : Rat) * p) = (co A k - dotN B (numF A B) k k) * (D : Rat) * (p / co B 0) := fun p => by grind
      rw [this]
      have e5 : (co B 0 * (E : Rat)) ^ (k + 1) / co B 0 = (E : Rat) * (co B 0 * (E : Rat)) ^ k := by
        rw [Lean.Grind.Semiring.pow_succ]
        grind
      rw [e5]
      grind
    · refine Nat.le_trans (Int.natAbs_sub_le _ _) ?_
      rw [Int.natAbs_mul, Int.natAbs_mul, Int.natAbs_natCast, Int.natAbs_pow]
      have h3 : x.natAbs * E * z0.natAbs ^ k ≤ X * E * Y ^ k := Nat.mul_le_mul (Nat.mul_le_mul_right _ h2) (Nat.pow_le_pow_left hY k)
      have h4 : 2 ^ (k - k) = 1 := by rw [Nat.sub_self]
      rw [h4] at h1
      have h5 : X * E * (2 * Y) ^ k = X * E * Y ^ k * 2 ^ k := by
        rw [Nat.mul_pow, Nat.mul_comm (2 ^ k)]
        exact (Nat.mul_assoc _ _ _).symm
      have h6 : 1 ≤ 2 ^ k := Nat.one_le_two_pow
      have h7 : X * E * Y ^ k * (2 ^ k - 1) + X * E * Y ^ k = X * E * Y ^ k * 2 ^ k := by
        rw [← Nat.mul_succ]
        congr 1
        omega
      rw [h5]
      omega
theorem sz_num (hA : Sr n A) (hB : Sr m B) (b0 : co B 0 ≠ 0) (k : Nat) : Sz (n + m + k * (m + 1)) (numF A B k) := by
  obtain ⟨D, X, d0, d1, d2, d3⟩ := hA
  obtain ⟨E, Y, e0, e1, e2, e3⟩ := hB
  obtain ⟨z0, eb, hz⟩ := e3 0
  have hEr := natCast_ne e0
  have h0 : z0 ≠ 0 := by
    intro e
    rw [e] at eb
    have : co B 0 * (E : Rat) ≠ 0 := by grind
    exact this (by rw [eb]; rfl)
  obtain ⟨z, h1, h2⟩ := num_it d3 e3 eb h0 e0 (k + 1) k (by omega)
  obtain ⟨σ, hσ, hσ2⟩ : ∃ σ : Int, (z0.natAbs : Int) = σ * z0 ∧ σ.natAbs = 1 := by
    by_cases h : 0 ≤ z0
    · exact ⟨1, by omega, rfl⟩
    · exact ⟨-1, by omega, rfl⟩
  have lt1 : ∀ {x y a b : Nat}, x < 2 ^ a → y ≤ 2 ^ b → x * y < 2 ^ (a + b) := fun {x y a b} h1 h2 => by
    rw [Nat.pow_add]
    exact Nat.lt_of_le_of_lt (Nat.mul_le_mul_left x h2) (Nat.mul_lt_mul_of_pos_right h1 (Nat.pow_pos (by omega)))
  have dpos : 0 < D * z0.natAbs ^ (k + 1) := Nat.mul_pos d0 (Nat.pow_pos (by omega))
  have dlt : D * z0.natAbs ^ (k + 1) < 2 ^ (n + m + k * (m + 1)) := by
    have : z0.natAbs ^ (k + 1) ≤ 2 ^ (m * (k + 1)) := by
      rw [Nat.pow_mul]
      exact Nat.pow_le_pow_left (by omega) _
    refine Nat.lt_of_lt_of_le (lt1 d1 this) (Nat.pow_le_pow_right (by omega) ?_)
    rw [Nat.mul_succ, Nat.mul_comm m k, Nat.mul_succ]
    omega
  refine sz_of (z := σ ^ (k + 1) * z) dpos ?_ ?_ dlt
  · have hσr : ((z0.natAbs : Nat) : Rat) = (σ : Rat) * (z0 : Rat) := by rw [← Rat.intCast_natCast, hσ, Rat.intCast_mul]
    rw [Rat.natCast_mul, Rat.intCast_mul, ← h1, Rat.natCast_pow, hσr, Rat.intCast_pow]
    have : ((σ : Rat) * (z0 : Rat)) ^ (k + 1) = (σ : Rat) ^ (k + 1) * (z0 : Rat) ^ (k + 1) := by rw [Lean.Grind.CommSemiring.mul_pow]
    rw [this]
    grind
  · rw [Int.natAbs_mul, Int.natAbs_pow, hσ2, Nat.one_pow, Nat.one_mul]
    refine Nat.lt_of_le_of_lt h2 ?_
    have h3 : (2 * Y) ^ k ≤ 2 ^ (k * (m + 1)) := by
      rw [Nat.mul_comm k, Nat.pow_mul]
      refine Nat.pow_le_pow_left ?_ k
      rw [Nat.pow_succ]
      omega
    exact lt1 (lt1 d2 (Nat.le_of_lt e1)) h3
end
end Pm
namespace Pm
open Pl
/-! ### bends of a row -/
theorem div_one {x : Rat} (h : x ≠ 0) : x / x = 1 := by rw [Rat.div_def, Rat.mul_inv_cancel x h]
/-- the next row's numbers -/
def nextL (f : List Rat) (k : Rat) : List Rat := (List.range (f.length - 1)).map fun i => (co f i - k * co f (f.length - 1 - i)) / (1 - k * k)
/-- a row is led on by a bend -/
def upL (f : List Rat) (k : Rat) : List Rat := (List.range (f.length + 1)).map fun i => co f i + k * co f (f.length - i)
/-- a size below 1 -/
def Lt1 (k : Rat) : Prop := -1 < k ∧ k < 1
instance (k : Rat) : Decidable (Lt1 k) := inferInstanceAs (Decidable (_ ∧ _))
/-- the bends -/
def bnds : Nat → List Rat → Option (List Rat)
  | 0, _ => some []
  | n + 1, f => if f.length ≤ 1 then some [] else if Lt1 (co f (f.length - 1)) then (bnds n (nextL f (co f (f.length - 1)))).map (co f (f.length - 1) :: ·) else none
/-- the row of some bends -/
def bentL : List Rat → List Rat
  | [] => [1]
  | k :: l => upL (bentL l) k
theorem nextL_len {f : List Rat} {k : Rat} : (nextL f k).length = f.length - 1 := by simp [nextL]
theorem upL_len {f : List Rat} {k : Rat} : (upL f k).length = f.length + 1 := by simp [upL]
theorem bentL_len : ∀ (l : List Rat), (bentL l).length = l.length + 1
  | [] => rfl
  | k :: l => by
    show (upL (bentL l) k).length = _
    rw [upL_len, bentL_len l, List.length_cons]
theorem co_nextL {f : List Rat} {k : Rat} {i : Nat} (h : i + 1 < f.length) : co (nextL f k) i = (co f i - k * co f (f.length - 1 - i)) / (1 - k * k) := by
  unfold nextL
  exact co_of (by rw [List.getElem?_map, List.getElem?_range (by omega)]; rfl)
theorem co_upL {f : List Rat} {k : Rat} {i : Nat} (h : i ≤ f.length) : co (upL f k) i = co f i + k * co f (f.length - i) := by
  unfold upL
  exact co_of (by rw [List.getElem?_map, List.getElem?_range (by omega)]; rfl)
theorem list_ext {a b : List Rat} (hl : a.length = b.length) (h : ∀ i, i < a.length → co a i = co b i) : a = b := by
  refine List.ext_getElem hl fun i h1 h2 => ?_
  have := h i h1
  rw [co_of (List.getElem?_eq_getElem h1), co_of (List.getElem?_eq_getElem h2)] at this
  exact this
theorem one_sub_ne {k : Rat} (h : Lt1 k) : 1 - k * k ≠ 0 := by
  obtain ⟨h1, h2⟩ := h
  intro e
  have e2 : (1 - k) * (1 + k) = 0 := by rw [← e]; grind
  rcases Rat.mul_eq_zero.mp e2 with e3 | e3 <;> grind
theorem upL_zero {f : List Rat} {k : Rat} (h : 0 < f.length) : co (upL f k) 0 = co f 0 := by
  rw [co_upL (by omega), Nat.sub_zero, co_big (Nat.le_refl _)]
  grind
theorem bentL_zero : ∀ (l : List Rat), co (bentL l) 0 = 1
  | [] => rfl
  | k :: l => by
    show co (upL (bentL l) k) 0 = 1
    rw [upL_zero (by rw [bentL_len]; omega), bentL_zero l]
theorem bentL_last {l : List Rat} {k : Rat} : co (bentL (k :: l)) ((bentL (k :: l)).length - 1) = k := by
  have e : (bentL (k :: l)).length - 1 = (bentL l).length := by
    show (upL (bentL l) k).length - 1 = _
    rw [upL_len]
    omega
  rw [e]
  show co (upL (bentL l) k) _ = k
  rw [co_upL (Nat.le_refl _), co_big (Nat.le_refl _), Nat.sub_self, bentL_zero]
  grind
theorem next_up {f : List Rat} {k : Rat} (h : Lt1 k) : nextL (upL f k) k = f := by
  refine list_ext (by rw [nextL_len, upL_len]; omega) fun i hi => ?_
  rw [nextL_len, upL_len] at hi
  have n0 := one_sub_ne h
  rw [co_nextL (by rw [upL_len]; omega), upL_len, Nat.add_sub_cancel, co_upL (by omega), co_upL (Nat.sub_le _ _), show f.length - (f.length - i) = i by omega]
  generalize co f i = x at *
  generalize co f (f.length - i) = y at *
  have e : x + k * y - k * (y + k * x) = (1 - k * k) * x := by grind
  rw [e, Rat.mul_comm, Rat.mul_div_cancel n0]
theorem up_next {f : List Rat} (h0 : co f 0 = 1) (hl : 2 ≤ f.length) (h : Lt1 (co f (f.length - 1))) : upL (nextL f (co f (f.length - 1))) (co f (f.length - 1)) = f := by
  have n0 := one_sub_ne h
  have z : co (nextL f (co f (f.length - 1))) 0 = 1 := by
    rw [co_nextL (by omega), Nat.sub_zero, h0, div_one n0]
  have zz : co (nextL f (co f (f.length - 1))) (f.length - 1) = 0 := co_big (by rw [nextL_len]; omega)
  refine list_ext (by rw [upL_len, nextL_len]; omega) fun i hi => ?_
  rw [upL_len, nextL_len] at hi
  rw [co_upL (by rw [nextL_len]; omega), nextL_len]
  by_cases c : i = 0
  · subst c
    rw [z, Nat.sub_zero, zz, h0]
    grind
  · by_cases c2 : i = f.length - 1
    · subst c2
      rw [zz, Nat.sub_self, z]
      grind
    · rw [co_nextL (by omega), co_nextL (by omega), show f.length - 1 - (f.length - 1 - i) = i by omega]
      generalize co f (f.length - 1) = k at *
      generalize co f i = x at *
      generalize co f (f.length - 1 - i) = y at *
      have e : (x - k * y) / (1 - k * k) + k * ((y - k * x) / (1 - k * k)) = ((1 - k * k) * x) / (1 - k * k) := by
        rw [Rat.div_def, Rat.div_def, Rat.div_def]
        grind
      rw [e, Rat.mul_comm, Rat.mul_div_cancel n0]
/-- the bends lead back -/
theorem bnds_bent : ∀ (l : List Rat) (n : Nat), l.length ≤ n → (∀ k ∈ l, Lt1 k) → bnds n (bentL l) = some l
  | [], 0, _, _ => rfl
  | [], n + 1, _, _ => rfl
  | k :: l, 0, h, _ => by simp at h
  | k :: l, n + 1, h, hk => by
    show (if (bentL (k :: l)).length ≤ 1 then _ else _) = _
    rw [bentL_last, if_neg (by rw [bentL_len, List.length_cons]; omega), if_pos (hk k List.mem_cons_self)]
    have e : nextL (bentL (k :: l)) k = bentL l := next_up (hk k List.mem_cons_self)
    rw [e, bnds_bent l n (by simpa using h) fun q hq => hk q (List.mem_cons_of_mem _ hq)]
    rfl
/-- and the row back -/
theorem bent_bnds : ∀ (n : Nat) (f l : List Rat), f.length ≤ n + 1 → co f 0 = 1 → bnds n f = some l → bentL l = f ∧ (∀ k ∈ l, Lt1 k) ∧ l.length + 1 = f.length
  | 0, f, l, h, h0, e => by
    have hf : 0 < f.length := List.length_pos_iff.mpr fun e => by rw [e] at h0; exact absurd h0 (by decide)
    cases e
    refine ⟨list_ext (by show 1 = _; omega) fun i hi => ?_, by simp, by simp; omega⟩
    have : i = 0 := by simpa [bentL] using hi
    rw [this, h0]
    rfl
  | n + 1, f, l, h, h0, e => by
    have hf : 0 < f.length := List.length_pos_iff.mpr fun e => by rw [e] at h0; exact absurd h0 (by decide)
    unfold bnds at e
    split at e
    · cases e
      refine ⟨list_ext (by show 1 = _; omega) fun i hi => ?_, by simp, by simp; omega⟩
      have : i = 0 := by simpa [bentL] using hi
      rw [this, h0]
      rfl
    · split at e
      · rename_i c1 c2
        obtain ⟨l', e1, rfl⟩ := Option.map_eq_some_iff.mp e
        have n0 := one_sub_ne c2
        have z : co (nextL f (co f (f.length - 1))) 0 = 1 := by rw [co_nextL (by omega), Nat.sub_zero, h0, div_one n0]
        obtain ⟨h1, h2, h3⟩ := bent_bnds n _ l' (by rw [nextL_len]; omega) z e1
        rw [nextL_len] at h3
        refine ⟨?_, fun k hk => ?_, by rw [List.length_cons]; omega⟩
        · show upL (bentL l') _ = f
          rw [h1]
          exact up_next h0 (by omega) c2
        · rcases List.mem_cons.mp hk with rfl | hk
          · exact c2
          · exact h2 k hk
      · exact absurd e (by simp)
end Pm
namespace Pm
open Pl
theorem sr_next {f : List Rat} {n : Nat} (hf : Sr n f) (hk : Lt1 (co f (f.length - 1))) : Sr (2 * n + 1) (nextL f (co f (f.length - 1))) := by
  obtain ⟨D, X, d0, d1, d2, d3⟩ := hf
  obtain ⟨w, w1, w2⟩ := d3 (f.length - 1)
  have n0 := one_sub_ne hk
  generalize co f (f.length - 1) = k at *
  have D0 : (0 : Rat) < (D : Rat) := by
    have : ((0 : Nat) : Rat) < ((D : Nat) : Rat) := Rat.natCast_lt_natCast.mpr d0
    simpa using this
  have wlt : w < (D : Int) := by
    have : (w : Rat) < ((D : Int) : Rat) := by
      rw [← w1, Rat.intCast_natCast]
      have := Rat.mul_lt_mul_of_pos_right hk.2 D0
      rwa [Rat.one_mul] at this
    exact Rat.intCast_lt_intCast.mp this
  have wgt : -(D : Int) < w := by
    have : ((-(D : Int) : Int) : Rat) < (w : Rat) := by
      rw [← w1, Rat.intCast_neg, Rat.intCast_natCast]
      have := Rat.mul_lt_mul_of_pos_right hk.1 D0
      rwa [Rat.neg_mul, Rat.one_mul] at this
    exact Rat.intCast_lt_intCast.mp this
  have wa : w.natAbs < D := by omega
  have hE : w.natAbs * w.natAbs < D * D := Nat.mul_lt_mul_of_lt_of_le wa (Nat.le_of_lt wa) (by omega)
  have eE : ((D * D - w.natAbs * w.natAbs : Nat) : Rat) = (D : Rat) * (D : Rat) - (w : Rat) * (w : Rat) := by
    have h : ((D * D - w.natAbs * w.natAbs : Nat) : Int) = (D : Int) * (D : Int) - w * w := by
      rw [Int.ofNat_sub (Nat.le_of_lt hE), Int.natCast_mul, Int.natCast_mul, Int.natAbs_mul_self']
    rw [← Rat.intCast_natCast, h, Rat.intCast_sub, Rat.intCast_mul, Rat.intCast_mul, Rat.intCast_natCast]
  have lD := mul_lt d1 d1
  have lX := mul_lt d1 d2
  have e2 : 2 ^ (2 * n + 1) = 2 ^ (n + n) + 2 ^ (n + n) := by rw [Nat.pow_succ, show 2 * n = n + n by omega]; omega
  refine ⟨D * D - w.natAbs * w.natAbs, 2 * (D * X), by omega, by omega, by omega, fun i => ?_⟩
  by_cases hi : i + 1 < f.length
  · obtain ⟨z, z1, z2⟩ := d3 i
    obtain ⟨y, y1, y2⟩ := d3 (f.length - 1 - i)
    refine ⟨z * (D : Int) - w * y, ?_, ?_⟩
    · rw [co_nextL hi, eE, Rat.intCast_sub, Rat.intCast_mul, Rat.intCast_mul, Rat.intCast_natCast, ← z1, ← y1, ← w1]
      have e3 : (D : Rat) * D - k * D * (k * D) = (1 - k * k) * (D * D) := by grind
      rw [e3, ← Rat.mul_assoc, Rat.div_mul_cancel n0]
      grind
    · have h1 : (z * (D : Int)).natAbs ≤ X * D := by rw [Int.natAbs_mul]; exact Nat.mul_le_mul z2 (Nat.le_of_eq (Int.natAbs_natCast D))
      have h2 : (w * y).natAbs ≤ D * X := by rw [Int.natAbs_mul]; exact Nat.mul_le_mul (Nat.le_of_lt wa) y2
      rw [Nat.mul_comm X D] at h1
      omega
  · exact ⟨0, by rw [co_big (by rw [nextL_len]; omega)]; simp, by simp⟩
theorem sr_up {f : List Rat} {n m : Nat} {k : Rat} (hf : Sr n f) (hk : Sz m k) : Sr (n + m + 1) (upL f k) := by
  obtain ⟨D, X, d0, d1, d2, d3⟩ := hf
  have kd : k * (k.den : Rat) = (k.num : Rat) := by
    have e := (Rat.num_divInt_den k).symm
    rw [Rat.divInt_eq_div] at e
    conv => lhs; lhs; rw [e]
    rw [Rat.intCast_natCast]
    refine Rat.div_mul_cancel fun e => ?_
    have h1 : (k.den : Rat).num = 0 := by rw [e]; rfl
    rw [Rat.num_natCast] at h1
    have := k.den_pos
    omega
  have l1 := mul_lt d1 hk.2
  have l2 := mul_lt d2 hk.2
  have l3 := mul_lt d2 hk.1
  have e2 : 2 ^ (n + m + 1) = 2 ^ (n + m) + 2 ^ (n + m) := by rw [Nat.pow_succ]; omega
  refine ⟨D * k.den, X * k.den + X * k.num.natAbs, Nat.mul_pos d0 k.den_pos, by omega, by omega, fun i => ?_⟩
  by_cases hi : i ≤ f.length
  · obtain ⟨z, z1, z2⟩ := d3 i
    obtain ⟨y, y1, y2⟩ := d3 (f.length - i)
    refine ⟨z * (k.den : Int) + y * k.num, ?_, ?_⟩
    · rw [co_upL hi, Rat.intCast_add, Rat.intCast_mul, Rat.intCast_mul, Rat.intCast_natCast, ← z1, ← y1, ← kd, Rat.natCast_mul]
      grind
    · have h1 : (z * (k.den : Int)).natAbs ≤ X * k.den := by rw [Int.natAbs_mul]; exact Nat.mul_le_mul z2 (Nat.le_of_eq (Int.natAbs_natCast _))
      have h2 : (y * k.num).natAbs ≤ X * k.num.natAbs := by rw [Int.natAbs_mul]; exact Nat.mul_le_mul y2 (Nat.le_refl _)
      omega
  · exact ⟨0, by rw [co_big (by rw [upL_len]; omega)]; simp, by simp⟩
/-- sizes on the way down -/
def nz : Nat → Nat → Nat
  | 0, n => n
  | k + 1, n => nz k (2 * n + 1)
theorem nz_ge : ∀ (k n : Nat), n ≤ nz k n
  | 0, n => Nat.le_refl _
  | k + 1, n => Nat.le_trans (by omega) (nz_ge k (2 * n + 1))
theorem bnds_sz : ∀ (t n : Nat) (f l : List Rat), Sr n f → bnds t f = some l → ∀ k ∈ l, Sz (nz t n) k
  | 0, n, f, l, hf, e => by cases e; simp
  | t + 1, n, f, l, hf, e => by
    unfold bnds at e
    split at e
    · cases e; simp
    · split at e
      · rename_i c1 c2
        obtain ⟨l', e1, rfl⟩ := Option.map_eq_some_iff.mp e
        intro k hk
        rcases List.mem_cons.mp hk with rfl | hk
        · exact (hf.sz _).mono (nz_ge (t + 1) n)
        · exact bnds_sz t (2 * n + 1) _ l' (sr_next hf c2) e1 k hk
      · exact absurd e (by simp)
theorem sr_bent {m : Nat} : ∀ (l : List Rat), (∀ k ∈ l, Sz m k) → Sr (1 + l.length * (m + 1)) (bentL l)
  | [], _ => sr_one.mono (by omega)
  | k :: l, h => (sr_up (sr_bent l fun q hq => h q (List.mem_cons_of_mem _ hq)) (h k List.mem_cons_self)).mono (by
    rw [List.length_cons, Nat.add_mul]
    omega)
end Pm
namespace Pm
open Pl
/-! ### energies -/
/-- the sum of the first n squares -/
def en (u : Nat → Rat) : Nat → Rat
  | 0 => 0
  | n + 1 => en u n + u n * u n
/-- one beat later -/
def sh1 (u : Nat → Rat) : Nat → Rat
  | 0 => 0
  | n + 1 => u n
theorem sq_ge (x : Rat) : 0 ≤ x * x := by
  rcases Rat.le_total (a := 0) (b := x) with h | h
  · exact Rat.mul_nonneg h h
  · have : 0 ≤ -x := by grind
    have := Rat.mul_nonneg this this
    grind
theorem en_ge (u : Nat → Rat) : ∀ n, 0 ≤ en u n
  | 0 => Rat.le_refl
  | n + 1 => by
    show 0 ≤ en u n + u n * u n
    have := en_ge u n
    have := sq_ge (u n)
    grind
theorem en_sh (u : Nat → Rat) : ∀ n, en (sh1 u) (n + 1) = en u n
  | 0 => by show 0 + 0 * 0 = (0 : Rat); grind
  | n + 1 => by
    show en (sh1 u) (n + 1) + u n * u n = en u n + u n * u n
    rw [en_sh u n]
theorem en_mono (u : Nat → Rat) (n : Nat) : en u n ≤ en u (n + 1) := by
  show en u n ≤ en u n + u n * u n
  have := sq_ge (u n)
  grind
/-- one step of bends: the gap of energies -/
theorem en_step (a b : Nat → Rat) (k : Rat) : ∀ n, en (fun i => a i + k * b i) n - en (fun i => b i + k * a i) n = (1 - k * k) * (en a n - en b n)
  | 0 => by show (0 : Rat) - 0 = (1 - k * k) * (0 - 0); grind
  | n + 1 => by
    have := en_step a b k n
    show en _ n + (a n + k * b n) * (a n + k * b n) - (en _ n + (b n + k * a n) * (b n + k * a n)) = (1 - k * k) * (en a n + a n * a n - (en b n + b n * b n))
    grind
end Pm
namespace Pm
open Pl
theorem up_co {g : List Rat} {k : Rat} (i : Nat) (hi : i ≤ g.length) : co (upL g k) i = co g i + k * sh1 (co g.reverse) i := by
  rw [co_upL hi]
  cases i with
  | zero => rw [Nat.sub_zero, co_big (Nat.le_refl _)]; rfl
  | succ i =>
    show _ = co g (i + 1) + k * co g.reverse i
    congr 2
    unfold co
    rw [List.getElem?_reverse (by omega), show g.length - 1 - i = g.length - (i + 1) by omega]
theorem up_rev {g : List Rat} {k : Rat} (i : Nat) (hi : i ≤ g.length) : co (upL g k).reverse i = sh1 (co g.reverse) i + k * co g i := by
  have e : co (upL g k).reverse i = co (upL g k) (g.length - i) := by
    unfold co
    rw [List.getElem?_reverse (by rw [upL_len]; omega), upL_len, show g.length + 1 - 1 - i = g.length - i by omega]
  rw [e, co_upL (by omega), show g.length - (g.length - i) = i by omega]
  congr 1
  cases i with
  | zero => rw [Nat.sub_zero, co_big (Nat.le_refl _)]; rfl
  | succ i =>
    show _ = co g.reverse i
    unfold co
    rw [List.getElem?_reverse (by omega), show g.length - 1 - i = g.length - (i + 1) by omega]
theorem en_sh_le (u : Nat → Rat) : ∀ n, en (sh1 u) n ≤ en u n
  | 0 => Rat.le_refl
  | n + 1 => by rw [en_sh]; exact en_mono u n
theorem up_co' {g : List Rat} {k : Rat} (i : Nat) : co (upL g k) i = co g i + k * sh1 (co g.reverse) i := by
  by_cases h : i ≤ g.length
  · exact up_co i h
  · obtain ⟨j, rfl⟩ : ∃ j, i = j + 1 := ⟨i - 1, by omega⟩
    rw [co_big (by rw [upL_len]; omega), co_big (by omega)]
    show (0 : Rat) = 0 + k * co g.reverse j
    rw [co_big (by rw [List.length_reverse]; omega)]
    grind
theorem up_rev' {g : List Rat} {k : Rat} (i : Nat) : co (upL g k).reverse i = sh1 (co g.reverse) i + k * co g i := by
  by_cases h : i ≤ g.length
  · exact up_rev i h
  · obtain ⟨j, rfl⟩ : ∃ j, i = j + 1 := ⟨i - 1, by omega⟩
    rw [co_big (by rw [List.length_reverse, upL_len]; omega), co_big (l := g) (by omega)]
    show (0 : Rat) = co g.reverse j + k * 0
    rw [co_big (by rw [List.length_reverse]; omega)]
    grind
theorem cv_lin (k : Rat) : ∀ (n : Nat) (f g w : Nat → Rat), cv (fun i => f i + k * g i) w n = cv f w n + k * cv g w n
  | 0, f, g, w => by show (f 0 + k * g 0) * w 0 = f 0 * w 0 + k * (g 0 * w 0); grind
  | n + 1, f, g, w => by
    show (f 0 + k * g 0) * w (n + 1) + cv (fun i => f (i + 1) + k * g (i + 1)) w n = f 0 * w (n + 1) + cv (tl f) w n + k * (g 0 * w (n + 1) + cv (tl g) w n)
    rw [cv_lin k n (fun i => f (i + 1)) (fun i => g (i + 1)) w]
    have e1 : cv (fun i => f (i + 1)) w n = cv (tl f) w n := rfl
    have e2 : cv (fun i => g (i + 1)) w n = cv (tl g) w n := rfl
    rw [e1, e2]
    grind
theorem cv_sh (u w : Nat → Rat) : ∀ n, cv (sh1 u) w n = sh1 (cv u w) n
  | 0 => by show (0 : Rat) * w 0 = 0; grind
  | n + 1 => by
    show (0 : Rat) * w (n + 1) + cv (tl (sh1 u)) w n = cv u w n
    have e : tl (sh1 u) = u := rfl
    rw [e]
    grind
/-- a row of bends: the reversed row, a beat later, has never more energy -/
theorem gap : ∀ (l : List Rat), (∀ k ∈ l, Lt1 k) → ∀ (w : Nat → Rat) (n : Nat), en (sh1 (cv (co (bentL l).reverse) w)) n ≤ en (cv (co (bentL l)) w) n
  | [], _, w, n => by
    have e : (bentL []).reverse = bentL [] := rfl
    rw [e]
    exact en_sh_le _ n
  | k :: l, h, w, n => by
    have ih := gap l (fun q hq => h q (List.mem_cons_of_mem _ hq)) w n
    have hk := h k List.mem_cons_self
    have e1 : cv (co (bentL (k :: l))) w = fun i => cv (co (bentL l)) w i + k * sh1 (cv (co (bentL l).reverse) w) i := funext fun i => by
      rw [← cv_sh, ← cv_lin]
      congr 1
      exact funext fun j => up_co' j
    have e2 : cv (co (bentL (k :: l)).reverse) w = fun i => sh1 (cv (co (bentL l).reverse) w) i + k * cv (co (bentL l)) w i := funext fun i => by
      rw [← cv_sh, ← cv_lin]
      congr 1
      exact funext fun j => up_rev' j
    refine Rat.le_trans (en_sh_le _ n) ?_
    rw [e1, e2]
    have st := en_step (cv (co (bentL l)) w) (sh1 (cv (co (bentL l).reverse) w)) k n
    have k2 : 0 ≤ 1 - k * k := by
      have h1 := hk.1
      have h2 := hk.2
      have := Rat.mul_nonneg (a := 1 - k) (b := 1 + k) (by grind) (by grind)
      grind
    have := Rat.mul_nonneg k2 (show 0 ≤ en (cv (co (bentL l)) w) n - en (sh1 (cv (co (bentL l).reverse) w)) n by grind)
    grind
end Pm
namespace Pm
open Pl
/-- a row whose inverse is bounded -/
def Sd (f : Nat → Rat) : Prop := ∃ C : Rat, 0 < C ∧ ∀ (w : Nat → Rat) (n : Nat), en w n ≤ C * en (cv f w) n
theorem sd_mul {f g : Nat → Rat} (hf : Sd f) (hg : Sd g) : Sd (cv f g) := by
  obtain ⟨C, c0, hC⟩ := hf
  obtain ⟨D, d0, hD⟩ := hg
  refine ⟨D * C, Rat.mul_pos d0 c0, fun w n => ?_⟩
  have h1 := hD w n
  have h2 := hC (cv g w) n
  have e : cv f (cv g w) = cv (cv f g) w := funext fun i => (cv_assoc i f g w).symm
  rw [e] at h2
  have := Rat.mul_le_mul_of_nonneg_left h2 (Rat.le_of_lt d0)
  rw [Rat.mul_assoc]
  exact Rat.le_trans h1 this
theorem en_low (v b : Nat → Rat) (k : Rat) (k0 : 0 ≤ k) : ∀ n, (1 - k) * en v n - k * (1 - k) * en b n ≤ en (fun i => v i + k * b i) n
  | 0 => by show (1 - k) * 0 - k * (1 - k) * 0 ≤ (0 : Rat); grind
  | n + 1 => by
    have ih := en_low v b k k0 n
    have h := Rat.mul_nonneg k0 (sq_ge (v n + b n))
    show (1 - k) * (en v n + v n * v n) - k * (1 - k) * (en b n + b n * b n) ≤ en _ n + (v n + k * b n) * (v n + k * b n)
    grind
theorem en_neg (b : Nat → Rat) : ∀ n, en (fun i => -b i) n = en b n
  | 0 => rfl
  | n + 1 => by
    show en (fun i => -b i) n + -b n * -b n = en b n + b n * b n
    rw [en_neg b n]
    grind
/-- v + k b has energy, when b has not more than v -/
theorem en_keep (v b : Nat → Rat) (k : Rat) (n : Nat) (h : en b n ≤ en v n) (hk : Lt1 k) : ∃ c : Rat, c = (if 0 ≤ k then 1 - k else 1 + k) ∧ 0 < c ∧ c * c * en v n ≤ en (fun i => v i + k * b i) n := by
  obtain ⟨h1, h2⟩ := hk
  by_cases k0 : 0 ≤ k
  · refine ⟨1 - k, by rw [if_pos k0], by grind, ?_⟩
    have l := en_low v b k k0 n
    have m := Rat.mul_nonneg (Rat.mul_nonneg k0 (show 0 ≤ 1 - k by grind)) (show 0 ≤ en v n - en b n by grind)
    grind
  · have k1 : 0 ≤ -k := by grind
    refine ⟨1 + k, by rw [if_neg k0], by grind, ?_⟩
    have l := en_low v (fun i => -b i) (-k) k1 n
    rw [en_neg] at l
    have e : (fun i => v i + -k * -b i) = fun i => v i + k * b i := funext fun i => by grind
    rw [e] at l
    have m := Rat.mul_nonneg (Rat.mul_nonneg k1 (show 0 ≤ 1 + k by grind)) (show 0 ≤ en v n - en b n by grind)
    grind
/-- rows of bends below 1 have a bounded inverse -/
theorem sd_bent : ∀ (l : List Rat), (∀ k ∈ l, Lt1 k) → Sd (co (bentL l))
  | [], _ => ⟨1, by decide, fun w n => by
    have e : cv (co (bentL [])) w = w := funext fun i => by
      show cv (co [1]) w i = w i
      have h : ps [1] = 1 := ps_one
      have := congrArg (fun f : Ps => (f * ⟨w⟩ : Ps).c i) h
      have e2 : ((1 : Ps) * ⟨w⟩ : Ps) = ⟨w⟩ := by grind
      rw [e2] at this
      exact this
    rw [e, Rat.one_mul]
    exact Rat.le_refl⟩
  | k :: l, h => by
    obtain ⟨C, c0, hC⟩ := sd_bent l fun q hq => h q (List.mem_cons_of_mem _ hq)
    have hk := h k List.mem_cons_self
    have key : ∀ w n, ∃ c : Rat, c = (if 0 ≤ k then 1 - k else 1 + k) ∧ 0 < c ∧ c * c * en (cv (co (bentL l)) w) n ≤ en (cv (co (bentL (k :: l))) w) n := fun w n => by
      have g := gap l (fun q hq => h q (List.mem_cons_of_mem _ hq)) w n
      have e1 : cv (co (bentL (k :: l))) w = fun i => cv (co (bentL l)) w i + k * sh1 (cv (co (bentL l).reverse) w) i := funext fun i => by
        rw [← cv_sh, ← cv_lin]
        congr 1
        exact funext fun j => up_co' j
      rw [e1]
      exact en_keep _ _ k n g hk
    obtain ⟨c, hc, cp, _⟩ := key (fun _ => 0) 0
    have cc : 0 < c * c := Rat.mul_pos cp cp
    have cne : c * c ≠ 0 := fun e => by rw [e] at cc; exact absurd cc (by decide)
    refine ⟨C / (c * c), ?_, fun w n => ?_⟩
    · rw [Rat.div_def]
      exact Rat.mul_pos c0 (Rat.inv_pos.mpr cc)
    · obtain ⟨c', hc', cp', h3⟩ := key w n
      rw [← hc] at hc'
      subst hc'
      have h4 := hC w n
      have h5 := Rat.mul_le_mul_of_nonneg_left h3 (show 0 ≤ C / (c' * c') by rw [Rat.div_def]; exact Rat.le_of_lt (Rat.mul_pos c0 (Rat.inv_pos.mpr cc)))
      have e : C / (c' * c') * (c' * c' * en (cv (co (bentL l)) w) n) = C * en (cv (co (bentL l)) w) n := by
        rw [← Rat.mul_assoc, Rat.div_mul_cancel cne]
      rw [e] at h5
      exact Rat.le_trans h4 h5
end Pm
namespace Pm
open Pl
theorem en_two (u v : Nat → Rat) : ∀ n, en (fun i => u i + v i) n ≤ 2 * en u n + 2 * en v n
  | 0 => by show (0 : Rat) ≤ 2 * 0 + 2 * 0; grind
  | n + 1 => by
    have := en_two u v n
    have := sq_ge (u n - v n)
    show en _ n + (u n + v n) * (u n + v n) ≤ 2 * (en u n + u n * u n) + 2 * (en v n + v n * v n)
    grind
theorem en_scl (x : Rat) (u : Nat → Rat) : ∀ n, en (fun i => x * u i) n = x * x * en u n
  | 0 => by show (0 : Rat) = x * x * 0; grind
  | n + 1 => by
    show en _ n + x * u n * (x * u n) = x * x * (en u n + u n * u n)
    rw [en_scl x u n]
    grind
/-- a row is a bounded factor -/
theorem row_bd : ∀ (g : List Rat), ∃ K : Rat, 0 < K ∧ ∀ (w : Nat → Rat) (n : Nat), en (cv (co g) w) n ≤ K * en w n
  | [] => ⟨1, by decide, fun w n => by
    have e : cv (co []) w = fun i => 0 * w i := funext fun i => by
      have h : co [] = fun _ : Nat => (0 : Rat) := rfl
      rw [h, cv_zero]
      grind
    rw [e, en_scl]
    have := en_ge w n
    grind⟩
  | x :: g => by
    obtain ⟨K, k0, hK⟩ := row_bd g
    refine ⟨2 * (x * x) + 2 * K + 1, ?_, fun w n => ?_⟩
    · have := sq_ge x
      grind
    · have e : cv (co (x :: g)) w = fun i => x * w i + sh1 (cv (co g) w) i := funext fun i => by
        cases i with
        | zero => show x * w 0 = x * w 0 + 0; grind
        | succ i => rfl
      rw [e]
      have h1 := en_two (fun i => x * w i) (sh1 (cv (co g) w)) n
      have h2 := en_sh_le (cv (co g) w) n
      have h3 := hK w n
      have h4 := en_scl x w n
      have h5 := en_ge w n
      grind
/-- a factor of a row with bounded inverse -/
theorem sd_fac {f : Nat → Rat} {g : List Rat} (h : Sd (cv (co g) f)) : Sd f := by
  obtain ⟨C, c0, hC⟩ := h
  obtain ⟨K, k0, hK⟩ := row_bd g
  refine ⟨C * K, Rat.mul_pos c0 k0, fun w n => ?_⟩
  have h1 := hC w n
  have e : cv (cv (co g) f) w = cv (co g) (cv f w) := funext fun i => cv_assoc i (co g) f w
  rw [e] at h1
  have h2 := Rat.mul_le_mul_of_nonneg_left (hK (cv f w) n) (Rat.le_of_lt c0)
  rw [Rat.mul_assoc]
  exact Rat.le_trans h1 h2
end Pm
namespace Pm
open Pl
/-- the sum of the first n products -/
def ip (u v : Nat → Rat) : Nat → Rat
  | 0 => 0
  | n + 1 => ip u v n + u n * v n
theorem ip_en (u : Nat → Rat) : ∀ n, ip u u n = en u n
  | 0 => rfl
  | n + 1 => by
    show ip u u n + u n * u n = en u n + u n * u n
    rw [ip_en u n]
theorem ip_comm (u v : Nat → Rat) : ∀ n, ip u v n = ip v u n
  | 0 => rfl
  | n + 1 => by
    show ip u v n + u n * v n = ip v u n + v n * u n
    rw [ip_comm u v n, Rat.mul_comm]
theorem ip_sh (u v : Nat → Rat) : ∀ n, ip (sh1 u) (sh1 v) (n + 1) = ip u v n
  | 0 => by show (0 : Rat) + 0 * 0 = 0; grind
  | n + 1 => by
    show ip (sh1 u) (sh1 v) (n + 1) + u n * v n = ip u v n + u n * v n
    rw [ip_sh u v n]
theorem ip_lin (x : Rat) (u v w : Nat → Rat) : ∀ n, ip (fun i => u i + x * v i) w n = ip u w n + x * ip v w n
  | 0 => by show (0 : Rat) = 0 + x * 0; grind
  | n + 1 => by
    have := ip_lin x u v w n
    show ip _ w n + (u n + x * v n) * w n = ip u w n + u n * w n + x * (ip v w n + v n * w n)
    grind
end Pm
namespace Pm
open Pl
/-- so many beats later -/
def shk : Nat → (Nat → Rat) → Nat → Rat
  | 0, u => u
  | s + 1, u => sh1 (shk s u)
theorem shk_sh : ∀ (s : Nat) (u : Nat → Rat), shk s (sh1 u) = shk (s + 1) u
  | 0, u => rfl
  | s + 1, u => by show sh1 (shk s (sh1 u)) = sh1 (shk (s + 1) u); rw [shk_sh s u]
theorem sh1_lin (x : Rat) (u v : Nat → Rat) : sh1 (fun i => u i + x * v i) = fun i => sh1 u i + x * sh1 v i := funext fun i => by
  cases i with
  | zero => show (0 : Rat) = 0 + x * 0; grind
  | succ i => rfl
theorem shk_lin (x : Rat) : ∀ (s : Nat) (u v : Nat → Rat), shk s (fun i => u i + x * v i) = fun i => shk s u i + x * shk s v i
  | 0, u, v => rfl
  | s + 1, u, v => by
    show sh1 (shk s _) = fun i => sh1 (shk s u) i + x * sh1 (shk s v) i
    rw [shk_lin x s u v, sh1_lin]
theorem shk_add : ∀ (a s : Nat) (u : Nat → Rat), shk (a + s) u = shk a (shk s u)
  | 0, s, u => by rw [Nat.zero_add]; rfl
  | a + 1, s, u => by
    rw [Nat.add_right_comm]
    show sh1 (shk (a + s) u) = sh1 (shk a (shk s u))
    rw [shk_add a s u]
theorem shk_big {u : Nat → Rat} {n : Nat} (h : ∀ i, n ≤ i → u i = 0) : ∀ (s i : Nat), n + s ≤ i → shk s u i = 0
  | 0, i, hi => h i (by omega)
  | s + 1, 0, hi => by omega
  | s + 1, i + 1, hi => shk_big h s i (by omega)
theorem ip_shk (u v : Nat → Rat) : ∀ (s n : Nat), ip (shk s u) (shk s v) (n + s) = ip u v n
  | 0, n => rfl
  | s + 1, n => by
    rw [← Nat.add_assoc]
    show ip (sh1 (shk s u)) (sh1 (shk s v)) (n + s + 1) = _
    rw [ip_sh, ip_shk u v s n]
theorem ip_fin {u v : Nat → Rat} {n : Nat} (h : ∀ i, n ≤ i → u i * v i = 0) : ∀ (k : Nat), ip u v (n + k) = ip u v n
  | 0 => rfl
  | k + 1 => by
    show ip u v (n + k) + u (n + k) * v (n + k) = _
    rw [ip_fin h k, h _ (by omega)]
    grind
theorem ip_fin' {u v : Nat → Rat} {n N : Nat} (h : ∀ i, n ≤ i → u i * v i = 0) (hN : n ≤ N) : ip u v N = ip u v n := by
  obtain ⟨k, rfl⟩ : ∃ k, N = n + k := ⟨N - n, by omega⟩
  exact ip_fin h k
theorem ip_two {x : Nat → Rat} {n : Nat} (h : ∀ i, n ≤ i → x i = 0) (a s N : Nat) (hN : n + a + s ≤ N) : ip (shk (a + s) x) (shk a x) N = ip (shk s x) x N := by
  obtain ⟨M, rfl⟩ : ∃ M, N = M + a := ⟨N - a, by omega⟩
  rw [shk_add, ip_shk]
  have z : ∀ i, n ≤ i → shk s x i * x i = 0 := fun i hi => by rw [h i hi]; grind
  rw [ip_fin' z (show n ≤ M by omega), ip_fin' z (show n ≤ M + a by omega)]
theorem cv_cons (a : Rat) (g : List Rat) (x : Nat → Rat) : cv (co (a :: g)) x = fun i => sh1 (cv (co g) x) i + a * x i := funext fun i => by
  cases i with
  | zero => show a * x 0 = 0 + a * x 0; grind
  | succ i => show a * x (i + 1) + cv (co g) x i = cv (co g) x i + a * x (i + 1); grind
theorem cv_nil (x : Nat → Rat) : cv (co []) x = fun _ => 0 := funext fun i => by
  have h : co [] = fun _ : Nat => (0 : Rat) := rfl
  rw [h, cv_zero]
theorem cv_snoc (a : Rat) (x : Nat → Rat) : ∀ (g : List Rat), cv (co (g ++ [a])) x = fun i => cv (co g) x i + a * shk g.length x i
  | [] => by
    show cv (co [a]) x = _
    rw [cv_cons, cv_nil]
    exact funext fun i => by cases i <;> rfl
  | b :: g => by
    show cv (co (b :: (g ++ [a]))) x = _
    rw [cv_cons, cv_snoc a x g, cv_cons, sh1_lin]
    refine funext fun i => ?_
    show sh1 (cv (co g) x) i + a * sh1 (shk g.length x) i + b * x i = sh1 (cv (co g) x) i + b * x i + a * sh1 (shk g.length x) i
    grind
theorem ip_zero (u : Nat → Rat) : ∀ N, ip u (fun _ => 0) N = 0
  | 0 => rfl
  | N + 1 => by
    show ip u (fun _ => 0) N + u N * 0 = 0
    rw [ip_zero u N]
    grind
theorem sh1_zero : sh1 (fun _ => (0 : Rat)) = fun _ => 0 := funext fun i => by cases i <;> rfl
theorem shk_zero : ∀ s, shk s (fun _ => (0 : Rat)) = fun _ => 0
  | 0 => rfl
  | s + 1 => by show sh1 (shk s _) = _; rw [shk_zero s, sh1_zero]
theorem ip_lin2 (x : Rat) (u v w : Nat → Rat) (n : Nat) : ip w (fun i => u i + x * v i) n = ip w u n + x * ip w v n := by
  rw [ip_comm, ip_lin, ip_comm u, ip_comm v]
/-- a row and the reversed row: inner products with a series of an end -/
theorem ip_rev {x : Nat → Rat} {n : Nat} (h : ∀ i, n ≤ i → x i = 0) : ∀ (g : List Rat) (s N : Nat), n + g.length + s ≤ N → ip x (shk s (cv (co g) x)) N = ip (shk (g.length + s) x) (sh1 (cv (co g.reverse) x)) N
  | [], s, N, _ => by
    rw [List.reverse_nil, cv_nil, shk_zero, sh1_zero, ip_zero, ip_zero]
  | a :: g, s, N, hN => by
    simp only [List.length_cons] at hN
    rw [cv_cons, shk_lin, shk_sh, ip_lin2, ip_rev h g (s + 1) N (by omega), List.reverse_cons, cv_snoc, sh1_lin, ip_lin2, List.length_reverse, List.length_cons, show g.length + (s + 1) = g.length + 1 + s by omega]
    congr 2
    have := ip_two h (g.length + 1) s N (by omega)
    rw [ip_comm x]
    exact this.symm
theorem cv_end {x : Nat → Rat} {n : Nat} (h : ∀ i, n ≤ i → x i = 0) : ∀ (g : List Rat) (i : Nat), n + g.length ≤ i → cv (co g) x i = 0
  | [], i, hi => by rw [cv_nil]
  | a :: g, 0, hi => by simp only [List.length_cons] at hi; omega
  | a :: g, i + 1, hi => by
    simp only [List.length_cons] at hi
    rw [cv_cons]
    show cv (co g) x i + a * x (i + 1) = 0
    rw [cv_end h g i (by omega), h (i + 1) (by omega)]
    grind
theorem en_add (a : Rat) (u v : Nat → Rat) (n : Nat) : en (fun i => u i + a * v i) n = en u n + 2 * a * ip u v n + a * a * en v n := by
  rw [← ip_en, ip_lin, ip_lin2, ip_lin2, ip_en, ip_en, ip_comm v u]
  grind
theorem en_shk_fin {u : Nat → Rat} {n : Nat} (h : ∀ i, n ≤ i → u i = 0) (s N : Nat) (hN : n + s ≤ N) : en (shk s u) N = en u N := by
  obtain ⟨M, rfl⟩ : ∃ M, N = M + s := ⟨N - s, by omega⟩
  have z : ∀ i, n ≤ i → u i * u i = 0 := fun i hi => by rw [h i hi]; grind
  rw [← ip_en, ip_shk, ← ip_en, ip_fin' z (show n ≤ M by omega), ip_fin' z (show n ≤ M + s by omega)]
/-- the whole energies of a row and the reversed row agree -/
theorem en_rev {x : Nat → Rat} {n : Nat} (h : ∀ i, n ≤ i → x i = 0) : ∀ (f : List Rat) (N : Nat), n + f.length ≤ N → en (cv (co f) x) N = en (cv (co f.reverse) x) N
  | [], N, _ => rfl
  | a :: g, N, hN => by
    simp only [List.length_cons] at hN
    rw [cv_cons, en_add, List.reverse_cons, cv_snoc, en_add, List.length_reverse]
    have e1 : en (sh1 (cv (co g) x)) N = en (cv (co g) x) N := en_shk_fin (cv_end h g) 1 N (by omega)
    have e2 := en_rev h g N (by omega)
    have e3 : en (shk g.length x) N = en x N := en_shk_fin h _ N (by omega)
    have e4 := ip_rev h g 1 N (by omega)
    have e5 : ip (shk (g.length + 1) x) (sh1 (cv (co g.reverse) x)) N = ip (shk g.length x) (cv (co g.reverse) x) N := by
      obtain ⟨M, rfl⟩ : ∃ M, N = M + 1 := ⟨N - 1, by omega⟩
      show ip (sh1 (shk g.length x)) (sh1 (cv (co g.reverse) x)) (M + 1) = _
      rw [ip_sh]
      show _ = ip _ _ M + shk g.length x M * _
      rw [shk_big h _ M (by omega)]
      grind
    have e6 : shk 1 (cv (co g) x) = sh1 (cv (co g) x) := rfl
    rw [e6] at e4
    rw [e1, e2, e3, ip_comm (sh1 _) x, e4, e5, ip_comm (cv (co g.reverse) x)]
end Pm
namespace Pm
open Pl
theorem rat_arch (x : Rat) : ∃ t : Nat, x < (t : Rat) := by
  refine ⟨x.num.natAbs + 1, ?_⟩
  refine Rat.not_le.mp fun h => ?_
  have kd : x * (x.den : Rat) = (x.num : Rat) := by
    have e := (Rat.num_divInt_den x).symm
    rw [Rat.divInt_eq_div] at e
    conv => lhs; lhs; rw [e]
    rw [Rat.intCast_natCast]
    refine Rat.div_mul_cancel fun e => ?_
    have h1 : (x.den : Rat).num = 0 := by rw [e]; rfl
    rw [Rat.num_natCast] at h1
    have := x.den_pos
    omega
  have d1 : (1 : Rat) ≤ (x.den : Rat) := by
    have : ((1 : Nat) : Rat) ≤ ((x.den : Nat) : Rat) := Rat.natCast_le_natCast.mpr x.den_pos
    simpa using this
  have t0 : (0 : Rat) ≤ ((x.num.natAbs + 1 : Nat) : Rat) := by
    have : ((0 : Nat) : Rat) ≤ ((x.num.natAbs + 1 : Nat) : Rat) := Rat.natCast_le_natCast.mpr (by omega)
    simpa using this
  have x0 : 0 ≤ x := Rat.le_trans t0 h
  have h2 : x ≤ x * (x.den : Rat) := by
    have := Rat.mul_le_mul_of_nonneg_left d1 x0
    rwa [Rat.mul_one] at this
  have h3 : ((x.num.natAbs + 1 : Nat) : Rat) ≤ (x.num : Rat) := by
    rw [← kd]
    exact Rat.le_trans h h2
  have h4 : (((x.num.natAbs + 1 : Nat) : Int) : Rat) ≤ (x.num : Rat) := by rw [Rat.intCast_natCast]; exact h3
  have := Rat.intCast_le_intCast.mp h4
  omega
/-- a bounded energy has blocks as small as one likes -/
theorem block {w : Nat → Rat} {B : Rat} (hB : ∀ n, en w n ≤ B) (m s : Nat) {e : Rat} (he : 0 < e) : ∃ n, s + m ≤ n ∧ en w n - en w (n - m) ≤ e := by
  refine Classical.byContradiction fun h => ?_
  have h' : ∀ n, s + m ≤ n → e < en w n - en w (n - m) := fun n hn => Rat.not_le.mp fun c => h ⟨n, hn, c⟩
  have key : ∀ t : Nat, (t : Rat) * e ≤ en w (s + m * t) := fun t => by
    induction t with
    | zero => rw [Nat.mul_zero]; have := en_ge w (s + 0); grind
    | succ t ih =>
      have := h' (s + m * (t + 1)) (by rw [Nat.mul_add]; omega)
      rw [show s + m * (t + 1) - m = s + m * t by rw [Nat.mul_add]; omega] at this
      have e2 : ((t + 1 : Nat) : Rat) = (t : Rat) + 1 := by rw [Rat.natCast_add]; rfl
      rw [e2]
      grind
  obtain ⟨t, ht⟩ := rat_arch (B / e)
  have h1 := key t
  have h2 := hB (s + m * t)
  have ene : e ≠ 0 := fun c => by rw [c] at he; exact absurd he (by decide)
  have h3 := Rat.mul_lt_mul_of_pos_right ht he
  rw [Rat.div_mul_cancel ene] at h3
  grind
/-- a series, cut -/
def ct (n : Nat) (u : Nat → Rat) (i : Nat) : Rat := if i < n then u i else 0
/-- a block of a series -/
def bl (p n : Nat) (u : Nat → Rat) (i : Nat) : Rat := if p ≤ i ∧ i < n then u i else 0
theorem en_congr {u v : Nat → Rat} : ∀ {n : Nat}, (∀ i, i < n → u i = v i) → en u n = en v n
  | 0, _ => rfl
  | n + 1, h => by
    show en u n + u n * u n = en v n + v n * v n
    rw [en_congr fun i hi => h i (by omega), h n (by omega)]
theorem en_diff {u v : Nat → Rat} {n : Nat} (h : ∀ i, n ≤ i → u i = v i) : ∀ k, en u (n + k) - en u n = en v (n + k) - en v n
  | 0 => by show en u n - en u n = en v n - en v n; grind
  | k + 1 => by
    have ih := en_diff h k
    show en u (n + k) + u (n + k) * u (n + k) - en u n = en v (n + k) + v (n + k) * v (n + k) - en v n
    rw [h (n + k) (by omega)]
    grind
theorem en_fin {u : Nat → Rat} {n : Nat} (h : ∀ i, n ≤ i → u i = 0) (k : Nat) : en u (n + k) = en u n := by
  rw [← ip_en, ← ip_en]
  exact ip_fin (fun i hi => by rw [h i hi]; grind) k
theorem en_bl {w : Nat → Rat} {p n : Nat} (h : p ≤ n) (k : Nat) : en (bl p n w) (n + k) = en w n - en w p := by
  have hz : ∀ i, n ≤ i → bl p n w i = 0 := fun i hi => if_neg (by omega)
  rw [en_fin hz]
  obtain ⟨j, rfl⟩ : ∃ j, n = p + j := ⟨n - p, by omega⟩
  have e0 : en (bl p (p + j) w) p = 0 := by
    have hz2 : ∀ i, i < p → bl p (p + j) w i = (fun _ => (0 : Rat)) i := fun i hi => if_neg (by omega)
    rw [en_congr hz2, ← ip_en]
    exact ip_zero _ p
  have : ∀ i, i ≤ j → en (bl p (p + j) w) (p + i) = en w (p + i) - en w p := fun i => by
    induction i with
    | zero => intro _; show en _ p = en w p - en w p; rw [e0]; grind
    | succ i ih =>
      intro hi
      have e := ih (by omega)
      have b : bl p (p + j) w (p + i) = w (p + i) := if_pos (by omega)
      show en _ (p + i) + bl p (p + j) w (p + i) * bl p (p + j) w (p + i) = en w (p + i) + w (p + i) * w (p + i) - en w p
      rw [e, b]
      grind
  exact this j (Nat.le_refl _)
/-- a row's product at a place looks back by its degree -/
theorem cv_look {x y : Nat → Rat} : ∀ (g : List Rat) (i : Nat), (∀ j, j ≤ i → i < j + g.length → x j = y j) → cv (co g) x i = cv (co g) y i
  | [], i, _ => by rw [cv_nil, cv_nil]
  | a :: g, 0, h => by
    show a * x 0 = a * y 0
    rw [h 0 (by omega) (by simp)]
  | a :: g, i + 1, h => by
    rw [cv_cons, cv_cons]
    show cv (co g) x i + a * x (i + 1) = cv (co g) y i + a * y (i + 1)
    rw [cv_look g i fun j hj hl => h j (by omega) (by rw [List.length_cons]; omega), h (i + 1) (by omega) (by rw [List.length_cons]; omega)]
/-- what a cut leaves behind -/
theorem tail_le (f : List Rat) : ∃ K : Rat, 0 < K ∧ ∀ (w : Nat → Rat) (m n k : Nat), f.length ≤ m + 1 → m ≤ n → en (cv (co f) (ct n w)) (n + k) ≤ en (cv (co f) w) n + K * (en w n - en w (n - m)) := by
  obtain ⟨K, k0, hK⟩ := row_bd f
  refine ⟨K, k0, fun w m n k hf hm => ?_⟩
  have e1 : en (cv (co f) (ct n w)) n = en (cv (co f) w) n := en_congr fun i hi => cv_look f i fun j hj _ => if_pos (by omega)
  have e2 := en_diff (u := cv (co f) (ct n w)) (v := cv (co f) (bl (n - m) n w)) (n := n) (fun i hi => cv_look f i fun j hj hl => by
    unfold ct bl
    by_cases c : j < n
    · rw [if_pos c, if_pos ⟨by omega, c⟩]
    · rw [if_neg c, if_neg (by omega)]) k
  have e3 := hK (bl (n - m) n w) (n + k)
  rw [en_bl (by omega)] at e3
  have e4 := en_ge (cv (co f) (bl (n - m) n w)) n
  grind
theorem en_up (u : Nat → Rat) (n : Nat) : ∀ k, en u n ≤ en u (n + k)
  | 0 => Rat.le_refl
  | k + 1 => Rat.le_trans (en_up u n k) (en_mono u (n + k))
theorem le_eps {a b K : Rat} (k0 : 0 < K) (h : ∀ e : Rat, 0 < e → a ≤ b + K * e) : a ≤ b := by
  refine Rat.not_lt.mp fun c => ?_
  have ne : 2 * K ≠ 0 := fun e => by grind
  have p2 : 0 < 2 * K := by grind
  have h1 := h ((a - b) / (2 * K)) (by rw [Rat.div_def]; exact Rat.mul_pos (by grind) (Rat.inv_pos.mpr p2))
  have h2 : (a - b) / (2 * K) * (2 * K) = a - b := Rat.div_mul_cancel ne
  have h3 : K * ((a - b) / (2 * K)) = (a - b) / 2 := by grind
  grind
/-- a row with bounded inverse: the reversed row has never more energy -/
theorem sd_rev {f : List Rat} (h : Sd (co f)) (f0 : co f 0 ≠ 0) (w : Nat → Rat) (n : Nat) : en (cv (co f.reverse) w) n ≤ en (cv (co f) w) n := by
  obtain ⟨C, c0, hC⟩ := h
  obtain ⟨K, k0, hK⟩ := tail_le f
  refine le_eps k0 fun e he => ?_
  -- the series that f leads to what f w begins with
  have hu : ∃ v : Nat → Rat, cv (co f) v = ct n (cv (co f) w) := by
    refine ⟨(numS ((List.range n).map (ct n (cv (co f) w))) f).c, ?_⟩
    have := numS_mul (A := (List.range n).map (ct n (cv (co f) w))) f0
    have h2 := congrArg Ps.c this
    refine Eq.trans h2 (funext fun i => ?_)
    exact co_map (f := ct n (cv (co f) w)) (fun i hi => if_neg (by omega)) i
  obtain ⟨v, hv⟩ := hu
  have agree : ∀ i, i < n → v i = w i := by
    have hz : en (fun i => v i + -1 * w i) n = 0 := by
      have h1 := hC (fun i => v i + -1 * w i) n
      have h2 : en (cv (co f) (fun i => v i + -1 * w i)) n = 0 := by
        rw [en_congr (v := fun _ => 0) fun i hi => ?_, ← ip_en]
        · exact ip_zero _ n
        · rw [cv_comm, cv_lin, cv_comm, hv, cv_comm i w]
          unfold ct
          rw [if_pos hi]
          grind
      have h3 := en_ge (fun i => v i + -1 * w i) n
      rw [h2] at h1
      grind
    intro i hi
    have h4 : ∀ j, j ≤ n → en (fun i => v i + -1 * w i) j ≤ 0 := fun j hj => by
      have := en_up (fun i => v i + -1 * w i) j (n - j)
      rw [show j + (n - j) = n by omega, hz] at this
      exact this
    have h5 := h4 (i + 1) (by omega)
    have h6 := en_ge (fun i => v i + -1 * w i) i
    have h7 : en (fun i => v i + -1 * w i) (i + 1) = en (fun i => v i + -1 * w i) i + (v i + -1 * w i) * (v i + -1 * w i) := rfl
    have h8 := sq_ge (v i + -1 * w i)
    have h9 : (v i + -1 * w i) * (v i + -1 * w i) = 0 := by grind
    rcases Rat.mul_eq_zero.mp h9 with h | h <;> grind
  have eu : ∀ k, en (cv (co f) v) (n + k) = en (cv (co f) w) n := fun k => by
    have hz : ∀ i, n ≤ i → ct n (cv (co f) w) i = 0 := fun i hi => if_neg (by omega)
    rw [hv, en_fin hz]
    exact en_congr fun i hi => if_pos hi
  have bd : ∀ N, en v N ≤ C * en (cv (co f) w) n := fun N => by
    have h1 := en_up v N n
    have h2 := hC v (N + n)
    rw [Nat.add_comm, eu, Nat.add_comm] at h2
    exact Rat.le_trans h1 h2
  obtain ⟨M, hM, hb⟩ := block bd (f.length - 1) n he
  have h1 := hK v (f.length - 1) M f.length (by omega) (by omega)
  have h2 : en (cv (co f) v) M = en (cv (co f) w) n := by
    obtain ⟨k, rfl⟩ : ∃ k, M = n + k := ⟨M - n, by omega⟩
    exact eu k
  have h3 : en (cv (co f) (ct M v)) (M + f.length) = en (cv (co f.reverse) (ct M v)) (M + f.length) := en_rev (fun i hi => if_neg (by omega)) f _ (Nat.le_refl _)
  have h4 : en (cv (co f.reverse) w) n = en (cv (co f.reverse) (ct M v)) n := en_congr fun i hi => cv_look _ i fun j hj _ => by
    unfold ct
    rw [if_pos (by omega), agree j (by omega)]
  have h5 : en (cv (co f.reverse) (ct M v)) n ≤ en (cv (co f.reverse) (ct M v)) (M + f.length) := by
    obtain ⟨k, hk⟩ : ∃ k, M + f.length = n + k := ⟨M + f.length - n, by omega⟩
    rw [hk]
    exact en_up _ n k
  have h6 := Rat.mul_le_mul_of_nonneg_left hb (Rat.le_of_lt k0)
  rw [h4]
  grind
end Pm
namespace Pm
open Pl
theorem shk_at (u : Nat → Rat) : ∀ (s i : Nat), shk s u i = if i < s then 0 else u (i - s)
  | 0, i => by rw [if_neg (by omega)]; rfl
  | s + 1, 0 => by rw [if_pos (by omega)]; rfl
  | s + 1, i + 1 => by
    show shk s u i = _
    rw [shk_at u s i]
    by_cases c : i < s
    · rw [if_pos c, if_pos (by omega)]
    · rw [if_neg c, if_neg (by omega), show i + 1 - (s + 1) = i - s by omega]
theorem ip_congr {u v u' v' : Nat → Rat} : ∀ {n : Nat}, (∀ i, i < n → u i * v i = u' i * v' i) → ip u v n = ip u' v' n
  | 0, _ => rfl
  | n + 1, h => by
    show ip u v n + u n * v n = ip u' v' n + u' n * v' n
    rw [ip_congr fun i hi => h i (by omega), h n (by omega)]
theorem ip_cst (u : Nat → Rat) (n : Nat) : ip u (cst 1) (n + 1) = u 0 := by
  have z : ∀ i, 1 ≤ i → u i * cst 1 i = 0 := fun i hi => by unfold cst; rw [if_neg (by omega)]; grind
  rw [ip_fin' z (show 1 ≤ n + 1 by omega)]
  show (0 : Rat) + u 0 * 1 = u 0
  grind
theorem co_one : co [1] = cst 1 := funext fun i => by
  cases i with
  | zero => rfl
  | succ i => rfl
/-- the last number of a row with bounded inverse has a size below 1 -/
theorem sd_lt {f : List Rat} (h : Sd (co f)) (f0 : co f 0 = 1) (hl : 2 ≤ f.length) : Lt1 (co f (f.length - 1)) := by
  have f0' : co f 0 ≠ 0 := by rw [f0]; decide
  obtain ⟨w, hw⟩ : ∃ w : Nat → Rat, cv (co f) w = cst 1 := ⟨(numS [1] f).c, (congrArg Ps.c (numS_mul (A := [1]) f0')).trans co_one⟩
  have w0 : w 0 = 1 := by
    have : co f 0 * w 0 = 1 := congrFun hw 0
    rw [f0, Rat.one_mul] at this
    exact this
  have hk : co f.reverse 0 = co f (f.length - 1) := by
    unfold co
    rw [List.getElem?_reverse (by omega), Nat.sub_zero]
  generalize ek : co f (f.length - 1) = k at *
  have en1 : ∀ n, en (cst 1) (n + 1) = 1 := fun n => by rw [← ip_en, ip_cst]; rfl
  have r0 : cv (co f.reverse) w 0 = k := by
    show co f.reverse 0 * w 0 = k
    rw [hk, w0, Rat.mul_one]
  have key : ∀ n, en (cv (co f.reverse) w) (n + 1) ≤ 1 := fun n => by
    have := sd_rev h f0' w (n + 1)
    rw [hw, en1] at this
    exact this
  have k2 : k * k ≤ 1 := by
    have h1 := key 0
    have h2 : en (cv (co f.reverse) w) (0 + 1) = 0 + cv (co f.reverse) w 0 * cv (co f.reverse) w 0 := rfl
    rw [h2, r0] at h1
    grind
  have ne : k * k ≠ 1 := fun e => by
    -- the reversed row is k times the row
    have z : ∀ i, cv (co f.reverse) w (i + 1) = 0 := fun i => by
      have h1 := key (i + 1)
      have h2 := en_up (cv (co f.reverse) w) 1 i
      have h3 : en (cv (co f.reverse) w) 1 = 0 + cv (co f.reverse) w 0 * cv (co f.reverse) w 0 := rfl
      rw [h3, r0, e, Nat.add_comm] at h2
      have h4 : en (cv (co f.reverse) w) (i + 1 + 1) = en (cv (co f.reverse) w) (i + 1) + cv (co f.reverse) w (i + 1) * cv (co f.reverse) w (i + 1) := rfl
      have h5 := sq_ge (cv (co f.reverse) w (i + 1))
      have h6 : cv (co f.reverse) w (i + 1) * cv (co f.reverse) w (i + 1) = 0 := by grind
      rcases Rat.mul_eq_zero.mp h6 with h | h <;> exact h
    have fw : cv (co f.reverse) w = cst k := funext fun i => by
      cases i with
      | zero => exact r0
      | succ i => exact z i
    have rk : ∀ x, cv (co f.reverse) x = fun i => k * cv (co f) x i := fun x => funext fun i => by
      have e1 : (⟨co f.reverse⟩ : Ps) * ⟨w⟩ = ⟨cst k⟩ := Ps.ext' fun i => congrFun fw i
      have e2 : (⟨co f⟩ : Ps) * ⟨w⟩ = 1 := Ps.ext' fun i => by
        rw [Ps.one_f]
        exact congrFun hw i
      have e3 : (⟨co f.reverse⟩ : Ps) * ⟨x⟩ = ⟨cst k⟩ * (⟨co f⟩ * ⟨x⟩) := by
        have a1 : (⟨co f.reverse⟩ : Ps) * ⟨x⟩ = (⟨co f.reverse⟩ * ⟨w⟩) * (⟨co f⟩ * ⟨x⟩) := by
          have : ((⟨co f.reverse⟩ : Ps) * ⟨w⟩) * (⟨co f⟩ * ⟨x⟩) = ⟨co f.reverse⟩ * ⟨x⟩ * (⟨co f⟩ * ⟨w⟩) := by grind
          rw [this, e2]
          grind
        rw [a1, e1]
      have := congrArg (fun g : Ps => g.c i) e3
      exact this.trans (cst_cv i k _)
    obtain ⟨C, c0, hC⟩ := h
    obtain ⟨K, k0, hK⟩ := tail_le f
    have bd : ∀ N, en w N ≤ C := fun N => by
      have h1 := en_mono w N
      have h2 := hC w (N + 1)
      rw [hw, en1] at h2
      grind
    obtain ⟨L, hL⟩ : ∃ L, f.length = L + 1 := ⟨f.length - 1, by omega⟩
    have le : (2 : Rat) ≤ 0 + (1 + K) * 0 := by
      refine le_eps (K := 1 + K) (by grind) fun ε he => ?_
      obtain ⟨n, hn, hb⟩ := block bd L 1 he
      have h1 := hK w L n f.length (by omega) (by omega)
      rw [hw] at h1
      have e1n : en (cst 1) n = 1 := by
        obtain ⟨j, rfl⟩ : ∃ j, n = j + 1 := ⟨n - 1, by omega⟩
        exact en1 j
      rw [e1n] at h1
      have hx : ∀ i, n ≤ i → ct n w i = 0 := fun i hi => if_neg (by omega)
      have r := ip_rev hx f 0 (n + f.length) (by omega)
      have s0 : shk 0 (cv (co f) (ct n w)) = cv (co f) (ct n w) := rfl
      rw [s0, Nat.add_zero, rk (ct n w)] at r
      have fx : ∀ i, i < n → cv (co f) (ct n w) i = cst 1 i := fun i hi => by
        rw [← hw]
        exact cv_look f i fun j hj _ => if_pos (by omega)
      -- the one side is 1
      have l1 : ip (ct n w) (cv (co f) (ct n w)) (n + f.length) = 1 := by
        rw [ip_fin (fun i hi => by rw [hx i hi]; grind), ip_congr (u' := ct n w) (v' := cst 1) (fun i hi => by rw [fx i hi])]
        obtain ⟨j, rfl⟩ : ∃ j, n = j + 1 := ⟨n - 1, by omega⟩
        rw [ip_cst]
        show (if 0 < j + 1 then w 0 else 0) = 1
        rw [if_pos (by omega), w0]
      rw [l1, hL] at r
      have r2 : ip (shk (L + 1) (ct n w)) (sh1 fun i => k * cv (co f) (ct n w) i) (n + (L + 1)) = ip (shk L (ct n w)) (fun i => k * cv (co f) (ct n w) i) (n + L) := ip_sh _ _ (n + L)
      rw [r2] at r
      -- the other one comes from the places from n on alone
      have r3 : ip (shk L (ct n w)) (fun i => k * cv (co f) (ct n w) i) (n + L) = k * ip (shk L (bl (n - L) n w)) (fun i => cv (co f) (ct n w) i + -1 * cst 1 i) (n + L) := by
        have a : ip (shk L (ct n w)) (fun i => k * cv (co f) (ct n w) i) (n + L) = ip (fun i => (fun _ => (0 : Rat)) i + k * shk L (bl (n - L) n w) i) (fun i => cv (co f) (ct n w) i + -1 * cst 1 i) (n + L) := by
          refine ip_congr fun i hi => ?_
          show _ = (0 + k * _) * (_ + -1 * cst 1 i)
          by_cases c : i < n
          · rw [fx i c]
            by_cases ci : i = 0
            · subst ci
              rw [shk_at, if_pos (by omega)]
              grind
            · unfold cst
              rw [if_neg ci]
              grind
          · have cz : cst 1 i = 0 := by unfold cst; exact if_neg (by omega)
            rw [cz, shk_at, if_neg (by omega), shk_at, if_neg (by omega)]
            unfold ct bl
            rw [if_pos (by omega), if_pos (by omega)]
            grind
        rw [a, ip_lin, ip_comm, ip_zero]
        grind
      rw [r3] at r
      have p := en_ge (fun i => shk L (bl (n - L) n w) i + -k * (cv (co f) (ct n w) i + -1 * cst 1 i)) (n + L)
      rw [en_add (-k) (shk L (bl (n - L) n w)) (fun i => cv (co f) (ct n w) i + -1 * cst 1 i)] at p
      have q1 : en (shk L (bl (n - L) n w)) (n + L) = en w n - en w (n - L) := by
        have hz : ∀ i, n ≤ i → bl (n - L) n w i = 0 := fun i hi => if_neg (by omega)
        rw [en_shk_fin hz L _ (Nat.le_refl _), en_bl (by omega)]
      have q2 : en (fun i => cv (co f) (ct n w) i + -1 * cst 1 i) (n + L) ≤ K * (en w n - en w (n - L)) := by
        have d := en_diff (u := fun i => cv (co f) (ct n w) i + -1 * cst 1 i) (v := cv (co f) (ct n w)) (n := n) (fun i hi => by
          have cz : cst 1 i = 0 := by unfold cst; exact if_neg (by omega)
          show _ + -1 * cst 1 i = _
          rw [cz]
          grind) L
        have d0 : en (fun i => cv (co f) (ct n w) i + -1 * cst 1 i) n = 0 := by
          have hz : ∀ i, i < n → (fun i => cv (co f) (ct n w) i + -1 * cst 1 i) i = (fun _ => (0 : Rat)) i := fun i hi => by
            show cv (co f) (ct n w) i + -1 * cst 1 i = 0
            rw [fx i hi]
            grind
          rw [en_congr hz, ← ip_en]
          exact ip_zero _ n
        have d1 : en (cv (co f) (ct n w)) n = 1 := by rw [en_congr fx, e1n]
        have d2 := en_mono (cv (co f) (ct n w)) (n + L)
        rw [hL] at h1
        have d3 : en (cv (co f) (ct n w)) (n + (L + 1)) = en (cv (co f) (ct n w)) (n + L + 1) := rfl
        grind
      have q3 := Rat.mul_le_mul_of_nonneg_left hb (Rat.le_of_lt k0)
      have e' : -k * -k = 1 := by grind
      rw [e'] at p
      grind
    rw [Rat.mul_zero] at le
    exact absurd le (by decide +kernel)
  refine ⟨Rat.not_le.mp fun c => ?_, Rat.not_le.mp fun c => ?_⟩
  · by_cases c1 : k = -1
    · exact ne (by rw [c1]; decide +kernel)
    · have := Rat.mul_pos (show 0 < -1 - k by grind) (show 0 < 1 - k by grind)
      grind
  · by_cases c1 : k = 1
    · exact ne (by rw [c1]; decide +kernel)
    · have := Rat.mul_pos (show 0 < k - 1 by grind) (show 0 < k + 1 by grind)
      grind
end Pm
namespace Pm
open Pl
theorem co_rev {f : List Rat} {i : Nat} (h : i < f.length) : co f.reverse i = co f (f.length - 1 - i) := by
  unfold co
  rw [List.getElem?_reverse h]
/-- the next row by the row and the reversed one -/
theorem next_cv {f : List Rat} {k : Rat} (hk : Lt1 k) (ek : co f (f.length - 1) = k) (f0 : co f 0 = 1) (w : Nat → Rat) : cv (co (nextL f k)) w = fun i => 1 / (1 - k * k) * (cv (co f) w i + -k * cv (co f.reverse) w i) := funext fun i => by
  have e : co (nextL f k) = fun i => 1 / (1 - k * k) * (co f i + -k * co f.reverse i) := funext fun i => by
    have hf : 0 < f.length := List.length_pos_iff.mpr fun e => by rw [e] at f0; exact absurd f0 (by decide)
    by_cases c : i + 1 < f.length
    · rw [co_nextL c, co_rev (by omega), Rat.div_def, Rat.div_def]
      grind
    · rw [co_big (by rw [nextL_len]; omega)]
      by_cases c2 : i < f.length
      · rw [co_rev c2, show i = f.length - 1 by omega, ek, Nat.sub_self, f0]
        grind
      · rw [co_big (by omega), co_big (by rw [List.length_reverse]; omega)]
        grind
  rw [e, smul_cv, cv_lin]
theorem sd_next {f : List Rat} (h : Sd (co f)) (f0 : co f 0 = 1) (hl : 2 ≤ f.length) : Sd (co (nextL f (co f (f.length - 1)))) := by
  have hk := sd_lt h f0 hl
  generalize ek : co f (f.length - 1) = k at *
  have f0' : co f 0 ≠ 0 := by rw [f0]; decide
  have n0 := one_sub_ne hk
  have hr := sd_rev h f0'
  obtain ⟨C, c0, hC⟩ := h
  have hk' : Lt1 (-k) := ⟨by have := hk.2; grind, by have := hk.1; grind⟩
  -- the factor of the gap
  have gap' : ∀ w n, ∃ c : Rat, c = (if 0 ≤ -k then 1 - -k else 1 + -k) ∧ 0 < c ∧ c * c * en (cv (co f) w) n ≤ en (fun i => cv (co f) w i + -k * cv (co f.reverse) w i) n := fun w n => en_keep _ _ (-k) n (hr w n) hk'
  obtain ⟨c, hc, cp, _⟩ := gap' (fun _ => 0) 0
  have cc : 0 < c * c := Rat.mul_pos cp cp
  have cne : c * c ≠ 0 := fun e => by rw [e] at cc; exact absurd cc (by decide)
  have s0 : 0 < (1 - k * k) * (1 - k * k) := by
    have h1 := sq_ge (1 - k * k)
    have h2 : (1 - k * k) * (1 - k * k) ≠ 0 := fun e => by rcases Rat.mul_eq_zero.mp e with h | h <;> exact n0 h
    grind
  refine ⟨C / (c * c) * ((1 - k * k) * (1 - k * k)), Rat.mul_pos (by rw [Rat.div_def]; exact Rat.mul_pos c0 (Rat.inv_pos.mpr cc)) s0, fun w n => ?_⟩
  obtain ⟨c', hc', cp', h3⟩ := gap' w n
  rw [← hc] at hc'
  subst hc'
  have e : en (cv (co (nextL f k)) w) n = 1 / (1 - k * k) * (1 / (1 - k * k)) * en (fun i => cv (co f) w i + -k * cv (co f.reverse) w i) n := by
    rw [next_cv hk ek f0 w, en_scl]
  have one : (1 - k * k) * (1 / (1 - k * k)) = 1 := by rw [Rat.div_def, Rat.one_mul, Rat.mul_inv_cancel _ n0]
  have e2 : C / (c' * c') * ((1 - k * k) * (1 - k * k)) * en (cv (co (nextL f k)) w) n = C / (c' * c') * en (fun i => cv (co f) w i + -k * cv (co f.reverse) w i) n := by
    rw [e]
    generalize 1 / (1 - k * k) = y at one
    generalize en (fun i => cv (co f) w i + -k * cv (co f.reverse) w i) n = E
    have : (1 - k * k) * (1 - k * k) * (y * y) = 1 := by
      have h : (1 - k * k) * (1 - k * k) * (y * y) = ((1 - k * k) * y) * ((1 - k * k) * y) := by grind
      rw [h, one]
      decide +kernel
    generalize (1 - k * k) * (1 - k * k) = z at this
    have h : C / (c' * c') * z * (y * y * E) = C / (c' * c') * (z * (y * y)) * E := by grind
    rw [h, this]
    grind
  rw [e2]
  have h4 := hC w n
  have h5 := Rat.mul_le_mul_of_nonneg_left h3 (show 0 ≤ C / (c' * c') by rw [Rat.div_def]; exact Rat.le_of_lt (Rat.mul_pos c0 (Rat.inv_pos.mpr cc)))
  have e3 : C / (c' * c') * (c' * c' * en (cv (co f) w) n) = C * en (cv (co f) w) n := by
    rw [← Rat.mul_assoc, Rat.div_mul_cancel cne]
  rw [e3] at h5
  exact Rat.le_trans h4 h5
/-- Schur and Cohn: a row has its bends exactly if its inverse is bounded -/
theorem sd_bnds : ∀ (n : Nat) (f : List Rat), co f 0 = 1 → Sd (co f) → ∃ l, bnds n f = some l
  | 0, f, _, _ => ⟨[], rfl⟩
  | n + 1, f, f0, h => by
    unfold bnds
    by_cases c : f.length ≤ 1
    · rw [if_pos c]
      exact ⟨_, rfl⟩
    · rw [if_neg c]
      have hk := sd_lt h f0 (by omega)
      rw [if_pos hk]
      have z : co (nextL f (co f (f.length - 1))) 0 = 1 := by rw [co_nextL (by omega), Nat.sub_zero, f0, div_one (one_sub_ne hk)]
      obtain ⟨l, hl⟩ := sd_bnds n _ z (sd_next h f0 (by omega))
      rw [hl]
      exact ⟨_, rfl⟩
theorem bnds_sd {n : Nat} {f l : List Rat} (hn : f.length ≤ n + 1) (f0 : co f 0 = 1) (h : bnds n f = some l) : Sd (co f) := by
  obtain ⟨h1, h2, _⟩ := bent_bnds n f l hn f0 h
  rw [← h1]
  exact sd_bent l h2
/-- a row is steady -/
def Stdy (f : List Rat) : Prop := Sd (co f)
theorem stdy_iff {n : Nat} {f : List Rat} (hn : f.length ≤ n + 1) (f0 : co f 0 = 1) : Stdy f ↔ (bnds n f).isSome = true :=
  ⟨fun h => by obtain ⟨l, hl⟩ := sd_bnds n f f0 h; rw [hl]; rfl, fun h => by obtain ⟨l, hl⟩ := Option.isSome_iff_exists.mp h; exact bnds_sd hn f0 hl⟩
/-- a product is steady exactly if both rows are -/
theorem stdy_mul {f g p : List Rat} (e : ps p = ps f * ps g) : Stdy p ↔ Stdy f ∧ Stdy g := by
  have e1 : co p = cv (co f) (co g) := congrArg Ps.c e
  have e2 : co p = cv (co g) (co f) := e1.trans (funext fun i => cv_comm i _ _)
  unfold Stdy
  refine ⟨fun h => ⟨?_, ?_⟩, fun ⟨h1, h2⟩ => ?_⟩
  · rw [e2] at h; exact sd_fac h
  · rw [e1] at h; exact sd_fac h
  · rw [e1]; exact sd_mul h1 h2
end Pm
namespace Pm
open Pl
/-! ### small solutions of whole equations (Siegel, Thue) -/
/-- the pigeons -/
theorem pigeon : ∀ (M N : Nat) (f : Nat → Nat), M < N → (∀ c, c < N → f c < M) → ∃ c d, c < d ∧ d < N ∧ f c = f d
  | 0, N, f, h, hf => absurd (hf 0 h) (by omega)
  | M + 1, N, f, h, hf => by
    refine Classical.byContradiction fun no => ?_
    have no' : ∀ c d, c < d → d < N → f c ≠ f d := fun c d h1 h2 e => no ⟨c, d, h1, h2, e⟩
    obtain ⟨K, rfl⟩ : ∃ K, N = K + 1 := ⟨N - 1, by omega⟩
    by_cases a : f K = M
    · obtain ⟨c, d, h1, h2, h3⟩ := pigeon M K f (by omega) fun c hc => by
        have h1 := hf c (by omega)
        have h2 := no' c K hc (by omega)
        omega
      exact no' c d h1 (by omega) h3
    · have aM : f K < M := by have := hf K (by omega); omega
      obtain ⟨c, d, h1, h2, h3⟩ := pigeon M K (fun c => if f c = M then f K else f c) (by omega) fun c hc => by
        have h1 := hf c (by omega)
        show (if f c = M then f K else f c) < M
        split <;> omega
      have n1 := no' c d h1 (by omega)
      have n2 := no' c K (by omega) (by omega)
      have n3 := no' d K (by omega) (by omega)
      split at h3 <;> split at h3 <;> omega
/-- figures of a number -/
def dg (b c j : Nat) : Nat := c / b ^ j % b
theorem dg_succ (b c j : Nat) : dg b c (j + 1) = dg b (c / b) j := by
  unfold dg
  rw [Nat.div_div_eq_div_mul, Nat.pow_succ, Nat.mul_comm]
theorem dg_inj {b : Nat} (hb : 0 < b) : ∀ (m c d : Nat), c < b ^ m → d < b ^ m → (∀ j, j < m → dg b c j = dg b d j) → c = d
  | 0, c, d, hc, hd, _ => by
    rw [Nat.pow_zero] at hc hd
    omega
  | m + 1, c, d, hc, hd, h => by
    have e0 := h 0 (by omega)
    unfold dg at e0
    rw [Nat.pow_zero, Nat.div_one, Nat.div_one] at e0
    have lt : ∀ x, x < b ^ (m + 1) → x / b < b ^ m := fun x hx => by
      rw [Nat.div_lt_iff_lt_mul hb, ← Nat.pow_succ]
      exact hx
    have e1 := dg_inj hb m (c / b) (d / b) (lt c hc) (lt d hd) fun j hj => by
      rw [← dg_succ, ← dg_succ]
      exact h (j + 1) (by omega)
    rw [← Nat.div_add_mod c b, ← Nat.div_add_mod d b, e0, e1]
/-- a number of figures -/
def cd (b : Nat) (v : Nat → Nat) : Nat → Nat
  | 0 => 0
  | k + 1 => cd b v k + v k * b ^ k
theorem cd_lt {b : Nat} {v : Nat → Nat} : ∀ (k : Nat), (∀ i, i < k → v i < b) → cd b v k < b ^ k
  | 0, _ => by simp [cd]
  | k + 1, h => by
    have h1 := cd_lt k fun i hi => h i (by omega)
    have h2 : v k + 1 ≤ b := h k (by omega)
    have h3 := Nat.mul_le_mul_right (b ^ k) h2
    show cd b v k + v k * b ^ k < b ^ (k + 1)
    rw [Nat.pow_succ, Nat.mul_comm (b ^ k) b]
    rw [Nat.add_mul, Nat.one_mul] at h3
    omega
theorem cd_inj {b : Nat} {v w : Nat → Nat} : ∀ (k : Nat), (∀ i, i < k → v i < b) → (∀ i, i < k → w i < b) → cd b v k = cd b w k → ∀ i, i < k → v i = w i
  | 0, _, _, _, i, hi => by omega
  | k + 1, hv, hw, e, i, hi => by
    have h1 := cd_lt k fun i hi => hv i (by omega)
    have h2 := cd_lt k fun i hi => hw i (by omega)
    have e : cd b v k + v k * b ^ k = cd b w k + w k * b ^ k := e
    have ek : v k = w k := by
      have a1 : (cd b v k + v k * b ^ k) / b ^ k = v k := by rw [Nat.add_mul_div_right _ _ (by omega), Nat.div_eq_of_lt h1]; omega
      have a2 : (cd b w k + w k * b ^ k) / b ^ k = w k := by rw [Nat.add_mul_div_right _ _ (by omega), Nat.div_eq_of_lt h2]; omega
      rw [← a1, ← a2, e]
    by_cases c : i = k
    · rw [c, ek]
    · rw [ek] at e
      exact cd_inj k (fun i hi => hv i (by omega)) (fun i hi => hw i (by omega)) (by omega) i (by omega)
/-- sums of whole numbers -/
def sm (f : Nat → Int) : Nat → Int
  | 0 => 0
  | n + 1 => sm f n + f n
theorem sm_sub (f g : Nat → Int) : ∀ n, sm f n - sm g n = sm (fun j => f j - g j) n
  | 0 => rfl
  | n + 1 => by
    have := sm_sub f g n
    show sm f n + f n - (sm g n + g n) = sm _ n + (f n - g n)
    omega
theorem sm_le {f : Nat → Int} {X : Nat} : ∀ (n : Nat), (∀ j, j < n → (f j).natAbs ≤ X) → (sm f n).natAbs ≤ n * X
  | 0, _ => by simp [sm]
  | n + 1, h => by
    have h1 := sm_le n fun j hj => h j (by omega)
    have h2 := h n (by omega)
    show (sm f n + f n).natAbs ≤ (n + 1) * X
    rw [Nat.add_mul, Nat.one_mul]
    omega
theorem sm_congr {f g : Nat → Int} : ∀ {n : Nat}, (∀ j, j < n → f j = g j) → sm f n = sm g n
  | 0, _ => rfl
  | n + 1, h => by
    show sm f n + f n = sm g n + g n
    rw [sm_congr fun j hj => h j (by omega), h n (by omega)]
/-- fewer equations than unknowns: a small solution other than nought -/
theorem siegel {m k X : Nat} (hk : k + 1 ≤ m) (hX : 1 ≤ X) (A : Nat → Nat → Int) (hA : ∀ j i, j < m → i < k → (A j i).natAbs ≤ X) :
    ∃ x : Nat → Int, (∃ j, j < m ∧ x j ≠ 0) ∧ (∀ j, (x j).natAbs ≤ (2 * m * X) ^ k) ∧ ∀ i, i < k → sm (fun j => A j i * x j) m = 0 := by
  obtain ⟨H, hH⟩ : ∃ H, H = (2 * m * X) ^ k := ⟨_, rfl⟩
  rw [← hH]
  obtain ⟨B, hB⟩ : ∃ B, B = 2 * (m * (X * H)) + 1 := ⟨_, rfl⟩
  have hdg : ∀ c j, dg (H + 1) c j ≤ H := fun c j => by
    have : dg (H + 1) c j < H + 1 := Nat.mod_lt _ (by omega)
    omega
  let vl : Nat → Nat → Int := fun c i => sm (fun j => A j i * (dg (H + 1) c j : Int)) m
  have hvl : ∀ c i, i < k → (vl c i).natAbs ≤ m * (X * H) := fun c i hi => sm_le m fun j hj => by
    rw [Int.natAbs_mul, Int.natAbs_natCast]
    exact Nat.mul_le_mul (hA j i hj hi) (hdg c j)
  let v : Nat → Nat → Nat := fun c i => (vl c i + (m * (X * H) : Nat)).toNat
  have hv : ∀ c i, i < k → v c i < B := fun c i hi => by
    have := hvl c i hi
    show (vl c i + (m * (X * H) : Nat)).toNat < B
    omega
  have big : B ^ k < (H + 1) ^ m := by
    have h1 : B ≤ (2 * m * X) * (H + 1) := by
      have m1 : 1 ≤ m * X := Nat.mul_pos (by omega) hX
      have e1 : 2 * m * X * (H + 1) = 2 * (m * (X * H)) + 2 * (m * X) := by grind
      omega
    have h2 : B ^ k ≤ (2 * m * X) ^ k * (H + 1) ^ k := by
      rw [← Nat.mul_pow]
      exact Nat.pow_le_pow_left h1 k
    have h3 : (2 * m * X) ^ k * (H + 1) ^ k < (H + 1) * (H + 1) ^ k := by
      refine Nat.mul_lt_mul_of_pos_right ?_ (Nat.pow_pos (by omega))
      rw [← hH]
      omega
    have h4 : (H + 1) * (H + 1) ^ k ≤ (H + 1) ^ m := by
      rw [Nat.mul_comm, ← Nat.pow_succ]
      exact Nat.pow_le_pow_right (by omega) hk
    omega
  obtain ⟨c, d, h1, h2, h3⟩ := pigeon (B ^ k) ((H + 1) ^ m) (fun c => cd B (v c) k) big fun c _ => cd_lt k (hv c)
  have e := cd_inj k (hv c) (hv d) h3
  refine ⟨fun j => (dg (H + 1) c j : Int) - (dg (H + 1) d j : Int), ?_, fun j => ?_, fun i hi => ?_⟩
  · refine Classical.byContradiction fun no => ?_
    have := dg_inj (b := H + 1) (by omega) m c d (by omega) h2 fun j hj => by
      refine Classical.byContradiction fun z => no ⟨j, hj, ?_⟩
      show (dg (H + 1) c j : Int) - (dg (H + 1) d j : Int) ≠ 0
      omega
    omega
  · have a1 := hdg c j
    have a2 := hdg d j
    show ((dg (H + 1) c j : Int) - (dg (H + 1) d j : Int)).natAbs ≤ H
    omega
  · have e1 : vl c i = vl d i := by
      have a1 := hvl c i hi
      have a2 := hvl d i hi
      have a3 : (vl c i + (m * (X * H) : Nat)).toNat = (vl d i + (m * (X * H) : Nat)).toNat := e i hi
      omega
    have e2 := sm_sub (fun j => A j i * (dg (H + 1) c j : Int)) (fun j => A j i * (dg (H + 1) d j : Int)) m
    have e3 : sm (fun j => A j i * ((dg (H + 1) c j : Int) - (dg (H + 1) d j : Int))) m = sm (fun j => A j i * (dg (H + 1) c j : Int) - A j i * (dg (H + 1) d j : Int)) m := sm_congr fun j _ => by rw [Int.mul_sub]
    rw [e3, ← e2]
    show vl c i - vl d i = 0
    omega
end Pm
namespace Pm
open Pl
/-! ### small pairs of rows -/
def sq (f : Nat → Rat) : Nat → Rat
  | 0 => 0
  | n + 1 => sq f n + f n
theorem sq_sm (f : Nat → Int) : ∀ n, ((sm f n : Int) : Rat) = sq (fun j => (f j : Rat)) n
  | 0 => rfl
  | n + 1 => by
    show ((sm f n + f n : Int) : Rat) = sq _ n + (f n : Rat)
    rw [Rat.intCast_add, sq_sm f n]
theorem sq_congr {f g : Nat → Rat} : ∀ {n : Nat}, (∀ j, j < n → f j = g j) → sq f n = sq g n
  | 0, _ => rfl
  | n + 1, h => by
    show sq f n + f n = sq g n + g n
    rw [sq_congr fun j hj => h j (by omega), h n (by omega)]
theorem sq_add (f : Nat → Rat) (p : Nat) : ∀ q, sq f (p + q) = sq f p + sq (fun j => f (p + j)) q
  | 0 => by show sq f p = sq f p + 0; grind
  | q + 1 => by
    show sq f (p + q) + f (p + q) = sq f p + (sq (fun j => f (p + j)) q + f (p + q))
    rw [sq_add f p q]
    grind
def rowF (y : Nat → Rat) (l : Nat) : List Rat := (List.range l).map y
theorem rowF_len (y : Nat → Rat) (l : Nat) : (rowF y l).length = l := by simp [rowF]
theorem co_rowF (y : Nat → Rat) (l i : Nat) : co (rowF y l) i = if i < l then y i else 0 := by
  split
  · rename_i h
    exact co_of (by unfold rowF; rw [List.getElem?_map, List.getElem?_range h]; rfl)
  · exact co_big (by rw [rowF_len]; omega)
theorem cv_rowF (y u : Nat → Rat) (i : Nat) : ∀ l, cv (co (rowF y l)) u i = sq (fun j => y j * shk j u i) l
  | 0 => by
    show cv (co []) u i = 0
    rw [cv_nil]
  | l + 1 => by
    have e : rowF y (l + 1) = rowF y l ++ [y l] := by unfold rowF; rw [List.range_succ, List.map_append]; rfl
    rw [e, cv_snoc, rowF_len]
    show cv (co (rowF y l)) u i + y l * shk l u i = sq _ l + y l * shk l u i
    rw [cv_rowF y u i l]
/-- whole multiples of a row -/
theorem it_shk {D X : Nat} {u : Nat → Rat} (h : It D X u) (j i : Nat) : ∃ z : Int, shk j u i * (D : Rat) = (z : Rat) ∧ z.natAbs ≤ X := by
  rw [shk_at]
  split
  · exact ⟨0, by rw [Rat.zero_mul]; rfl, by simp⟩
  · exact h _
/-- a N + b M = t C at some places, with small whole a, b, t -/
theorem small_at {N M C : List Rat} {la lb K n lam : Nat} (hN : Sr n N) (hM : Sr n M) (hC : Sr n C) (hK : K ≤ la + lb) (e : Nat → Nat) (hl : la + lb + 1 ≤ 2 ^ lam) :
    ∃ (a b : List Rat) (t : Int), a.length = la ∧ b.length = lb ∧ (∀ i, ∃ z : Int, co a i = (z : Rat) ∧ z.natAbs < 2 ^ (K * (1 + lam + n) + n)) ∧ (∀ i, ∃ z : Int, co b i = (z : Rat) ∧ z.natAbs < 2 ^ (K * (1 + lam + n) + n)) ∧ t.natAbs < 2 ^ (K * (1 + lam + n) + n) ∧ (∀ i, i < K → cv (co a) (co N) (e i) + cv (co b) (co M) (e i) = (t : Rat) * co C (e i)) ∧ (t ≠ 0 ∨ (∃ i, co a i ≠ 0) ∨ ∃ i, co b i ≠ 0) := by
  obtain ⟨D, X, d0, d1, d2, d3⟩ := hN
  obtain ⟨E, Y, e0, e1, e2, e3⟩ := hM
  obtain ⟨F, Z, f0, f1, f2, f3⟩ := hC
  have cN : ∀ j i, ∃ z : Int, shk j (co N) i * (D : Rat) = (z : Rat) ∧ z.natAbs ≤ X := it_shk d3
  have cM : ∀ j i, ∃ z : Int, shk j (co M) i * (E : Rat) = (z : Rat) ∧ z.natAbs ≤ Y := it_shk e3
  have n0 := (2 ^ n).pos_of_ne_zero (by have := Nat.pow_pos (n := n) (show 0 < 2 by omega); omega)
  obtain ⟨A, hA⟩ : ∃ A : Nat → Nat → Int, ∀ j i, (A j i).natAbs ≤ 2 ^ n - 1 ∧ (j < la → shk j (co N) i * (D : Rat) = (A j i : Rat)) ∧ (la ≤ j → j < la + lb → shk (j - la) (co M) i * (E : Rat) = (A j i : Rat)) ∧ (j = la + lb → -(co C i * (F : Rat)) = (A j i : Rat)) := by
    have : ∀ j i, ∃ z : Int, z.natAbs ≤ 2 ^ n - 1 ∧ (j < la → shk j (co N) i * (D : Rat) = (z : Rat)) ∧ (la ≤ j → j < la + lb → shk (j - la) (co M) i * (E : Rat) = (z : Rat)) ∧ (j = la + lb → -(co C i * (F : Rat)) = (z : Rat)) := fun j i => by
      by_cases c1 : j < la
      · obtain ⟨z, z1, z2⟩ := cN j i
        exact ⟨z, by omega, fun _ => z1, fun h => by omega, fun h => by omega⟩
      · by_cases c2 : j < la + lb
        · obtain ⟨z, z1, z2⟩ := cM (j - la) i
          exact ⟨z, by omega, fun h => by omega, fun _ _ => z1, fun h => by omega⟩
        · obtain ⟨z, z1, z2⟩ := f3 i
          exact ⟨-z, by omega, fun h => by omega, fun h h2 => by omega, fun _ => by rw [z1, Rat.intCast_neg]⟩
    exact ⟨fun j i => (this j i).choose, fun j i => (this j i).choose_spec⟩
  obtain ⟨x, x1, x2, x3⟩ := siegel (m := la + lb + 1) (k := K) (X := 2 ^ n) (by omega) (by omega) (fun j i => A j (e i)) fun j i _ _ => by have := (hA j (e i)).1; show (A j (e i)).natAbs ≤ _; omega
  have bound : (2 * (la + lb + 1) * 2 ^ n) ^ K ≤ 2 ^ (K * (1 + lam + n)) := by
    have h : 2 * (la + lb + 1) * 2 ^ n ≤ 2 ^ (1 + lam + n) := by
      rw [Nat.pow_add, Nat.pow_add]
      exact Nat.mul_le_mul_right _ (Nat.mul_le_mul (by omega) hl)
    calc _ ≤ (2 ^ (1 + lam + n)) ^ K := Nat.pow_le_pow_left h K
      _ = _ := by rw [← Nat.pow_mul, Nat.mul_comm]
  have xb : ∀ j, (x j).natAbs ≤ 2 ^ (K * (1 + lam + n)) := fun j => Nat.le_trans (x2 j) bound
  have big : ∀ (j : Nat) (G : Nat), G < 2 ^ n → (x j * (G : Int)).natAbs < 2 ^ (K * (1 + lam + n) + n) := fun j G hG => by
    rw [Int.natAbs_mul, Int.natAbs_natCast, Nat.pow_add]
    have p := Nat.pow_pos (n := K * (1 + lam + n)) (show 0 < 2 by omega)
    exact Nat.lt_of_le_of_lt (Nat.mul_le_mul_right G (xb j)) (Nat.mul_lt_mul_of_pos_left hG p)
  have castx : ∀ (j G : Nat), ((x j * (G : Int) : Int) : Rat) = (x j : Rat) * (G : Rat) := fun j G => by rw [Rat.intCast_mul, Rat.intCast_natCast]
  have zb : (0 : Int).natAbs < 2 ^ (K * (1 + lam + n) + n) := Nat.pow_pos (by omega)
  refine ⟨rowF (fun j => (x j : Rat) * (D : Rat)) la, rowF (fun j => (x (la + j) : Rat) * (E : Rat)) lb, x (la + lb) * (F : Int), rowF_len _ _, rowF_len _ _, fun i => ?_, fun i => ?_, big _ F f1, fun i => ?_, ?_⟩
  · rw [co_rowF]
    split
    · exact ⟨x i * (D : Int), (castx i D).symm, big _ D d1⟩
    · exact ⟨0, rfl, zb⟩
  · rw [co_rowF]
    split
    · exact ⟨x (la + i) * (E : Int), (castx (la + i) E).symm, big _ E e1⟩
    · exact ⟨0, rfl, zb⟩
  · intro hi
    have e1 := congrArg (fun z : Int => (z : Rat)) (x3 i hi)
    rw [sq_sm] at e1
    generalize e i = i at e1 ⊢
    have e' : sq (fun j => ((A j i * x j : Int) : Rat)) (la + lb) + ((A (la + lb) i * x (la + lb) : Int) : Rat) = ((0 : Int) : Rat) := e1
    rw [sq_add, Rat.intCast_mul, ← (hA (la + lb) i).2.2.2 rfl] at e'
    rw [cv_rowF, cv_rowF, castx]
    have s1 : sq (fun j => ((A j i * x j : Int) : Rat)) la = sq (fun j => (x j : Rat) * (D : Rat) * shk j (co N) i) la := sq_congr fun j hj => by
      rw [Rat.intCast_mul, ← (hA j i).2.1 hj]
      grind
    have s2 : sq (fun j => ((A (la + j) i * x (la + j) : Int) : Rat)) lb = sq (fun j => (x (la + j) : Rat) * (E : Rat) * shk j (co M) i) lb := sq_congr fun j hj => by
      have h := (hA (la + j) i).2.2.1 (by omega) (by omega)
      rw [show la + j - la = j by omega] at h
      rw [Rat.intCast_mul, ← h]
      grind
    rw [s1, s2] at e'
    have z0 : ((0 : Int) : Rat) = 0 := rfl
    rw [z0] at e'
    grind
  · obtain ⟨j, hj, hx⟩ := x1
    have nz : ∀ G : Nat, 0 < G → (x j : Rat) * (G : Rat) ≠ 0 := fun G hG e => by
      have e2 : ((x j * (G : Int) : Int) : Rat) = ((0 : Int) : Rat) := by rw [castx, e]; rfl
      have e3 := Rat.intCast_inj.mp e2
      rcases Int.mul_eq_zero.mp e3 with h | h
      · exact hx h
      · omega
    by_cases c1 : j < la
    · refine .inr (.inl ⟨j, ?_⟩)
      rw [co_rowF, if_pos c1]
      exact nz D d0
    · by_cases c2 : j < la + lb
      · refine .inr (.inr ⟨j - la, ?_⟩)
        rw [co_rowF, if_pos (by omega), show la + (j - la) = j by omega]
        exact nz E e0
      · refine .inl ?_
        have : j = la + lb := by omega
        rw [← this]
        intro e
        rcases Int.mul_eq_zero.mp e with h | h
        · exact hx h
        · omega
/-- a N + b M = t C with small whole a, b, t -/
theorem small_pair {N M C : List Rat} {la lb K n lam : Nat} (hN : Sr n N) (hM : Sr n M) (hC : Sr n C) (hK : K ≤ la + lb) (h1 : la = 0 ∨ la + N.length ≤ K + 1) (h2 : lb = 0 ∨ lb + M.length ≤ K + 1) (h3 : C.length ≤ K) (hl : la + lb + 1 ≤ 2 ^ lam) :
    ∃ (a b : List Rat) (t : Int), a.length = la ∧ b.length = lb ∧ (∀ i, ∃ z : Int, co a i = (z : Rat) ∧ z.natAbs < 2 ^ (K * (1 + lam + n) + n)) ∧ (∀ i, ∃ z : Int, co b i = (z : Rat) ∧ z.natAbs < 2 ^ (K * (1 + lam + n) + n)) ∧ t.natAbs < 2 ^ (K * (1 + lam + n) + n) ∧ (∀ i, cv (co a) (co N) i + cv (co b) (co M) i = (t : Rat) * co C i) ∧ (t ≠ 0 ∨ (∃ i, co a i ≠ 0) ∨ ∃ i, co b i ≠ 0) := by
  obtain ⟨a, b, t, ha, hb, az, bz, tz, h, nz⟩ := small_at (lam := lam) hN hM hC hK (fun i => i) hl
  refine ⟨a, b, t, ha, hb, az, bz, tz, fun i => ?_, nz⟩
  by_cases hi : i < K
  · exact h i hi
  · have g1 : cv (co a) (co N) i = 0 := by
      rcases h1 with z | h1
      · have : a = [] := List.length_eq_zero_iff.mp (by omega)
        rw [this, cv_nil]
      · exact cv_big i la N.length _ _ (fun j hj => co_big (by omega)) (fun j hj => co_big hj) (by omega)
    have g2 : cv (co b) (co M) i = 0 := by
      rcases h2 with z | h2
      · have : b = [] := List.length_eq_zero_iff.mp (by omega)
        rw [this, cv_nil]
      · exact cv_big i lb M.length _ _ (fun j hj => co_big (by omega)) (fun j hj => co_big hj) (by omega)
    rw [g1, g2, co_big (l := C) (by omega)]
    grind
end Pm
namespace Pm
open Pl
/-- the rows have no common divisor -/
def Cop (N M : List Rat) : Prop := ∃ u v : List Rat, ps u * ps N + ps v * ps M = 1
theorem zero_pair {N M : List Rat} (cop : Cop N M) (tM : Tm M) (M0 : M ≠ []) {A B : List Rat} (tA : Tm A) (tB : Tm B) (l : A.length < M.length) (e : ps A * ps N + ps B * ps M = 0) : A = [] ∧ B = [] := by
  obtain ⟨u, v, h⟩ := cop
  have dA : Dv M A := dv_of (q := subR (mulR A v) (mulR u B)) (by
    rw [ps_subR, ps_mulR, ps_mulR]
    generalize ps u = u at *
    generalize ps v = v at *
    generalize ps N = N at *
    generalize ps M = M at *
    generalize ps A = A at *
    generalize ps B = B at *
    have : A = A * (u * N + v * M) := by rw [h]; grind
    have e2 : A * N = -(B * M) := by grind
    grind)
  have a0 : A = [] := by
    obtain ⟨q, tq, hq⟩ := dA
    refine Classical.byContradiction fun z => ?_
    have q0 : q ≠ [] := fun c => z (ps_zero tA (by rw [hq, c, ps_nil]; grind))
    have : A = mulR q M := tA.eq (tm_mulR _ _) (by rw [ps_mulR]; exact hq)
    have l2 := mulR_length tq tM q0 M0
    rw [← this] at l2
    have := List.length_pos_iff.mpr q0
    omega
  refine ⟨a0, ?_⟩
  rw [a0, ps_nil] at e
  rcases mul_zero_or tB tM (by rw [← e]; grind) with h | h
  · exact h
  · exact absurd h M0
/-- the one pair of a closing row is small -/
theorem pair_sz {N M C A B : List Rat} {n K lam S : Nat} (cop : Cop N M) (hN : Sr n N) (hM : Sr n M) (hC : Sr n C) (tM : Tm M) (M0 : M ≠ []) (tA : Tm A) (tB : Tm B) (l : A.length < M.length) (e : ps A * ps N + ps B * ps M = ps C) (hK : N.length + M.length ≤ K + 2 ∧ M.length ≤ K + 1 ∧ C.length ≤ K) (hl : K + 1 ≤ 2 ^ lam) (hS : K * (1 + lam + n) + n ≤ S) : Sr S A ∧ Sr S B := by
  have Mp := List.length_pos_iff.mpr M0
  obtain ⟨lb, hlb⟩ : ∃ lb, lb = max (N.length - 1) (C.length - (M.length - 1)) := ⟨_, rfl⟩
  obtain ⟨a, b, t, ha, hb, az, bz, tz, h, nz⟩ := small_pair (la := M.length - 1) (lb := lb) (K := M.length - 1 + lb) (lam := lam) hN hM hC (Nat.le_refl _) (by omega) (by omega) (by omega) (by omega)
  have hKK : (M.length - 1 + lb) * (1 + lam + n) ≤ K * (1 + lam + n) := Nat.mul_le_mul_right _ (by omega)
  have pw : ∀ x : Nat, x < 2 ^ ((M.length - 1 + lb) * (1 + lam + n) + n) → x < 2 ^ S := fun x hx => Nat.lt_of_lt_of_le hx (Nat.pow_le_pow_right (by omega) (by omega))
  have hp : ps a * ps N + ps b * ps M = ⟨cst (t : Rat)⟩ * ps C := Ps.ext' fun i => by
    rw [Ps.add_c]
    show cv (co a) (co N) i + cv (co b) (co M) i = cv (cst (t : Rat)) (co C) i
    rw [cst_cv]
    exact h i
  have t0 : t ≠ 0 := fun z => by
    have hz : ps (trim a) * ps N + ps (trim b) * ps M = 0 := by
      rw [ps_trim, ps_trim, hp, z]
      refine Ps.ext' fun i => ?_
      rw [Ps.zero_c]
      show cv (cst ((0 : Int) : Rat)) (co C) i = 0
      rw [cst_cv]
      show 0 * _ = (0 : Rat)
      grind
    obtain ⟨z1, z2⟩ := zero_pair cop tM M0 (tm_trim a) (tm_trim b) (by have := trim_len a; omega) hz
    rcases nz with h | ⟨i, h⟩ | ⟨i, h⟩
    · exact h z
    · refine h ?_
      rw [← co_trim, z1]
      rfl
    · refine h ?_
      rw [← co_trim, z2]
      rfl
  have tr : (t : Rat) ≠ 0 := fun z => t0 (by
    have : (t : Rat) = ((0 : Int) : Rat) := z
    exact Rat.intCast_inj.mp this)
  -- the multiples of the pair are these
  have hq : ps (subR (trim a) (sclR A t)) * ps N + ps (subR (trim b) (sclR B t)) * ps M = 0 := by
    have e1 : ps (sclR A t) = ⟨cst (t : Rat)⟩ * ps A := Ps.ext' fun i => by
      show co (sclR A t) i = cv (cst (t : Rat)) (co A) i
      rw [co_sclR, cst_cv]
    have e2 : ps (sclR B t) = ⟨cst (t : Rat)⟩ * ps B := Ps.ext' fun i => by
      show co (sclR B t) i = cv (cst (t : Rat)) (co B) i
      rw [co_sclR, cst_cv]
    rw [ps_subR, ps_subR, ps_trim, ps_trim, e1, e2]
    rw [← e] at hp
    generalize (⟨cst (t : Rat)⟩ : Ps) = T at *
    grind
  have len1 : (subR (trim a) (sclR A t)).length < M.length := by
    have l1 : (subR (trim a) (sclR A t)).length ≤ max (trim a).length (sclR A t).length := subR_len
    have l2 := trim_len a
    have l3 : (sclR A t).length ≤ A.length := sclR_len
    omega
  obtain ⟨z1, z2⟩ := zero_pair cop tM M0 (tm_subR _ _) (tm_subR _ _) len1 hq
  have cA : ∀ i, co A i * (t : Rat) = co a i := fun i => by
    have : co (subR (trim a) (sclR A t)) i = 0 := by rw [z1]; rfl
    rw [co_subR, co_trim, co_sclR] at this
    grind
  have cB : ∀ i, co B i * (t : Rat) = co b i := fun i => by
    have : co (subR (trim b) (sclR B t)) i = 0 := by rw [z2]; rfl
    rw [co_subR, co_trim, co_sclR] at this
    grind
  have fin : ∀ {Z z : List Rat}, (∀ i, co Z i * (t : Rat) = co z i) → (∀ i, ∃ y : Int, co z i = (y : Rat) ∧ y.natAbs < 2 ^ ((M.length - 1 + lb) * (1 + lam + n) + n)) → Sr S Z := fun {Z z} h1 h2 => by
    have p0 := Nat.pow_pos (n := S) (show 0 < 2 by omega)
    refine ⟨t.natAbs, 2 ^ S - 1, by omega, pw _ tz, by omega, fun i => ?_⟩
    obtain ⟨y, y1, y2⟩ := h2 i
    have y3 := pw _ y2
    by_cases c : 0 ≤ t
    · refine ⟨y, ?_, by omega⟩
      have : ((t.natAbs : Nat) : Rat) = (t : Rat) := by
        rw [← Rat.intCast_natCast]
        congr 1
        omega
      rw [this, h1, y1]
    · refine ⟨-y, ?_, by omega⟩
      have : ((t.natAbs : Nat) : Rat) = -(t : Rat) := by
        rw [← Rat.intCast_natCast, ← Rat.intCast_neg]
        congr 1
        omega
      rw [this, Rat.intCast_neg, ← y1, ← h1]
      grind
  exact ⟨fin cA az, fin cB bz⟩
end Pm
namespace Pm
open Pl
/-! ### the sizes of the rows of a walk by bends -/
/-- a row by the next one -/
theorem co_by_next {f : List Rat} (f0 : co f 0 = 1) (hl : 2 ≤ f.length) (hk : Lt1 (co f (f.length - 1))) (i : Nat) :
    co f i = co (nextL f (co f (f.length - 1))) i + co f (f.length - 1) * sh1 (co (nextL f (co f (f.length - 1))).reverse) i ∧ co f.reverse i = sh1 (co (nextL f (co f (f.length - 1))).reverse) i + co f (f.length - 1) * co (nextL f (co f (f.length - 1))) i := by
  have h := up_next f0 hl hk
  have h1 := up_co' (g := nextL f (co f (f.length - 1))) (k := co f (f.length - 1)) i
  have h2 := up_rev' (g := nextL f (co f (f.length - 1))) (k := co f (f.length - 1)) i
  rw [h] at h1 h2
  exact ⟨h1, h2⟩
/-- so many steps -/
def itN : Nat → List Rat → List Rat
  | 0, f => f
  | j + 1, f => itN j (nextL f (co f (f.length - 1)))
/-- all bends of so many steps are of a size below 1 -/
def Dn : Nat → List Rat → Prop
  | 0, _ => True
  | j + 1, f => 2 ≤ f.length ∧ Lt1 (co f (f.length - 1)) ∧ Dn j (nextL f (co f (f.length - 1)))
theorem cv_sh2 (u w : Nat → Rat) (i : Nat) : cv u (sh1 w) i = sh1 (cv u w) i := by
  rw [cv_comm, cv_sh]
  cases i with
  | zero => rfl
  | succ i => show cv w u i = cv u w i; rw [cv_comm]
theorem cv_lin2 (k : Rat) (n : Nat) (f g w : Nat → Rat) : cv w (fun i => f i + k * g i) n = cv w f n + k * cv w g n := by
  rw [cv_comm, cv_lin, cv_comm n f, cv_comm n g]
theorem next_zero {f : List Rat} (f0 : co f 0 = 1) (hl : 2 ≤ f.length) (hk : Lt1 (co f (f.length - 1))) : co (nextL f (co f (f.length - 1))) 0 = 1 := by
  rw [co_nextL (by omega), Nat.sub_zero, f0, div_one (one_sub_ne hk)]
theorem cv_end2 : ∀ (j N : Nat) (u w : Nat → Rat), (∀ i, j < i → u i = 0) → (∀ i, N < i → w i = 0) → cv u w (j + N) = u j * w N
  | 0, N, u, w, hu, hw => by
    cases N with
    | zero => rfl
    | succ N =>
      have e : tl u = fun _ => 0 := funext fun i => hu (i + 1) (by omega)
      rw [Nat.zero_add]
      show u 0 * w (N + 1) + cv (tl u) w N = _
      rw [e, cv_zero]
      grind
  | j + 1, N, u, w, hu, hw => by
    rw [show j + 1 + N = (j + N) + 1 by omega]
    show u 0 * w (j + N + 1) + cv (tl u) w (j + N) = _
    rw [cv_end2 j N (tl u) w (fun i hi => hu (i + 1) (by omega)) hw, hw (j + N + 1) (by omega)]
    show u 0 * 0 + u (j + 1) * w N = _
    grind
/-- what a row and the reversed row lead to, without the places in the middle, is a multiple of a row of the walk -/
theorem walk_one : ∀ (j : Nat) (f : List Rat) (u v : Nat → Rat), co f 0 = 1 → Dn (j + 1) f → (∀ i, j < i → u i = 0) → (∀ i, j < i → v i = 0) →
    (∀ i, i < j → cv u (co f) i - cv v (co f.reverse) i = 0) → (∀ i, f.length ≤ i + 1 → cv u (co f) i - cv v (co f.reverse) i = 0) →
    ∃ c : Rat, (∀ i, cv u (co f) i - cv v (co f.reverse) i = c * shk j (co (itN (j + 1) f)) i) ∧ (c = 0 → (∀ i, u i = 0) ∧ ∀ i, v i = 0) := by
  intro j
  induction j with
  | zero =>
    intro f u v f0 hd hu hv h1 h2
    obtain ⟨hl, hk, _⟩ := hd
    have n0 := one_sub_ne hk
    have hb := co_by_next f0 hl hk
    have F1 := next_zero f0 hl hk
    have eit : itN (0 + 1) f = nextL f (co f (f.length - 1)) := rfl
    rw [eit]
    have lF := nextL_len (f := f) (k := co f (f.length - 1))
    have hlast : co f.reverse (f.length - 1) = 1 := by rw [co_rev (by omega), Nat.sub_self, f0]
    have hN := h2 (f.length - 1) (by omega)
    have eu : u = cst (u 0) := funext fun i => by
      cases i with
      | zero => rfl
      | succ i => rw [hu (i + 1) (by omega)]; rfl
    have ev : v = cst (v 0) := funext fun i => by
      cases i with
      | zero => rfl
      | succ i => rw [hv (i + 1) (by omega)]; rfl
    rw [eu, ev, cst_cv, cst_cv, hlast] at hN
    have z0 : ∀ x : Rat, cst x 0 = x := fun x => rfl
    have vk : v 0 = u 0 * co f (f.length - 1) := by grind
    refine ⟨u 0 * (1 - co f (f.length - 1) * co f (f.length - 1)), fun i => ?_, fun hc => ?_⟩
    · have e1 : cv u (co f) i = u 0 * co f i := by conv => lhs; rw [eu, cst_cv]
      have e2 : cv v (co f.reverse) i = v 0 * co f.reverse i := by conv => lhs; rw [ev, cst_cv]
      rw [e1, e2, vk, (hb i).1, (hb i).2]
      show _ = _ * co (nextL f (co f (f.length - 1))) i
      grind
    · have u0 : u 0 = 0 := by
        rcases Rat.mul_eq_zero.mp hc with h | h
        · exact h
        · exact absurd h n0
      have v0 : v 0 = 0 := by rw [vk, u0]; grind
      refine ⟨fun i => ?_, fun i => ?_⟩
      · cases i with
        | zero => exact u0
        | succ i => exact hu _ (by omega)
      · cases i with
        | zero => exact v0
        | succ i => exact hv _ (by omega)
  | succ j ih =>
    intro f u v f0 hd hu hv h1 h2
    obtain ⟨hl, hk, hd'⟩ := hd
    have n0 := one_sub_ne hk
    have hb := co_by_next f0 hl hk
    have F1 := next_zero f0 hl hk
    have lF := nextL_len (f := f) (k := co f (f.length - 1))
    have eit : itN (j + 1 + 1) f = itN (j + 1) (nextL f (co f (f.length - 1))) := rfl
    rw [eit]
    generalize hF : nextL f (co f (f.length - 1)) = F at *
    generalize co f (f.length - 1) = k at *
    -- the combination in the next rows
    have ef : co f = fun i => co F i + k * sh1 (co F.reverse) i := funext fun i => (hb i).1
    have er : co f.reverse = fun i => sh1 (co F.reverse) i + k * co F i := funext fun i => (hb i).2
    obtain ⟨p, hp⟩ : ∃ p : Nat → Rat, p = fun i => u i + -k * v i := ⟨_, rfl⟩
    obtain ⟨q, hq⟩ : ∃ q : Nat → Rat, q = fun i => v i + -k * u i := ⟨_, rfl⟩
    have eq1 : ∀ i, cv u (co f) i - cv v (co f.reverse) i = cv p (co F) i - sh1 (cv q (co F.reverse)) i := fun i => by
      rw [ef, er, cv_lin2, cv_lin2, hp, hq, cv_sh2, cv_sh2, cv_lin]
      have : sh1 (cv (fun i => v i + -k * u i) (co F.reverse)) i = sh1 (cv v (co F.reverse)) i + -k * sh1 (cv u (co F.reverse)) i := by
        have e : cv (fun i => v i + -k * u i) (co F.reverse) = fun i => cv v (co F.reverse) i + -k * cv u (co F.reverse) i := funext fun i => cv_lin _ _ _ _ _
        rw [e, sh1_lin]
      rw [this]
      grind
    have p0 : p 0 = 0 := by
      have := h1 0 (by omega)
      rw [eq1] at this
      have e : cv p (co F) 0 = p 0 * co F 0 := rfl
      have e2 : sh1 (cv q (co F.reverse)) 0 = 0 := rfl
      rw [e, e2, F1] at this
      grind
    have hpb : ∀ i, j + 1 < i → p i = 0 := fun i hi => by rw [hp]; show u i + -k * v i = 0; rw [hu i hi, hv i hi]; grind
    have hqb : ∀ i, j + 1 < i → q i = 0 := fun i hi => by rw [hq]; show v i + -k * u i = 0; rw [hu i hi, hv i hi]; grind
    have hlast : co F.reverse (F.length - 1) = 1 := by rw [co_rev (by omega), Nat.sub_self, F1]
    have q0 : q (j + 1) = 0 := by
      have h := h2 (j + 1 + (F.length - 1) + 1) (by omega)
      rw [eq1] at h
      have e1 : cv p (co F) (j + 1 + (F.length - 1) + 1) = 0 := cv_big _ (j + 2) F.length _ _ (fun i hi => hpb i (by omega)) (fun i hi => co_big hi) (by omega)
      have e2 : sh1 (cv q (co F.reverse)) (j + 1 + (F.length - 1) + 1) = cv q (co F.reverse) (j + 1 + (F.length - 1)) := rfl
      rw [e1, e2, cv_end2 (j + 1) (F.length - 1) q (co F.reverse) (fun i hi => hqb i hi) (fun i hi => co_big (by rw [List.length_reverse]; omega)), hlast] at h
      grind
    have pq : ∀ i, cv u (co f) (i + 1) - cv v (co f.reverse) (i + 1) = cv (tl p) (co F) i - cv q (co F.reverse) i := fun i => by
      rw [eq1]
      show p 0 * co F (i + 1) + cv (tl p) (co F) i - cv q (co F.reverse) i = _
      rw [p0]
      grind
    obtain ⟨c, c1, c2⟩ := ih F (tl p) q F1 hd' (fun i hi => hpb (i + 1) (by omega)) (fun i hi => by
      by_cases z : i = j + 1
      · rw [z]; exact q0
      · exact hqb i (by omega)) (fun i hi => by rw [← pq]; exact h1 (i + 1) (by omega)) (fun i hi => by rw [← pq]; exact h2 (i + 1) (by omega))
    refine ⟨c, fun i => ?_, fun hc => ?_⟩
    · cases i with
      | zero =>
        rw [h1 0 (by omega)]
        show (0 : Rat) = c * 0
        grind
      | succ i =>
        rw [pq, c1]
        rfl
    · obtain ⟨z1, z2⟩ := c2 hc
      have pz : ∀ i, p i = 0 := fun i => by
        cases i with
        | zero => exact p0
        | succ i => exact z1 i
      have both : ∀ i, u i = 0 ∧ v i = 0 := fun i => by
        have a1 := pz i
        have a2 := z2 i
        rw [hp] at a1
        rw [hq] at a2
        have a1 : u i + -k * v i = 0 := a1
        have a2 : v i + -k * u i = 0 := a2
        have a3 : (1 - k * k) * u i = 0 := by grind
        have a4 : u i = 0 := by
          rcases Rat.mul_eq_zero.mp a3 with h | h
          · exact absurd h n0
          · exact h
        exact ⟨a4, by rw [a4] at a2; grind⟩
      exact ⟨fun i => (both i).1, fun i => (both i).2⟩
end Pm
namespace Pm
open Pl
theorem cv_shk (w : Nat → Rat) : ∀ (j : Nat) (u : Nat → Rat), cv (shk j u) w = shk j (cv u w)
  | 0, u => rfl
  | j + 1, u => by
    have e : cv (sh1 (shk j u)) w = sh1 (cv (shk j u) w) := funext fun i => cv_sh _ _ i
    show cv (sh1 (shk j u)) w = sh1 (shk j (cv u w))
    rw [e, cv_shk w j u]
theorem cst1_cv (w : Nat → Rat) : cv (cst 1) w = w := funext fun i => by rw [cst_cv, Rat.one_mul]
theorem itN_zero : ∀ (j : Nat) (f : List Rat), co f 0 = 1 → Dn j f → co (itN j f) 0 = 1
  | 0, f, f0, _ => f0
  | j + 1, f, f0, hd => itN_zero j _ (next_zero f0 hd.1 hd.2.1) hd.2.2
theorem Dn.le : ∀ (j : Nat) (f : List Rat), Dn j f → j ≤ f.length
  | 0, f, _ => Nat.zero_le _
  | j + 1, f, hd => by
    have h1 := hd.1
    have := Dn.le j _ hd.2.2
    rw [nextL_len] at this
    omega
theorem sr_rev {f : List Rat} {n : Nat} (h : Sr n f) : Sr n f.reverse := by
  obtain ⟨D, X, d0, d1, d2, d3⟩ := h
  refine ⟨D, X, d0, d1, d2, fun i => ?_⟩
  by_cases c : i < f.length
  · rw [co_rev c]
    exact d3 _
  · rw [co_big (by rw [List.length_reverse]; omega)]
    exact ⟨0, by rw [Rat.zero_mul]; rfl, by simp⟩
/-- the rows of a walk are small -/
theorem walk_sz {f : List Rat} {n j lam : Nat} (hf : Sr n f) (f0 : co f 0 = 1) (hd : Dn (j + 1) f) (hl : 2 * j + 2 ≤ 2 ^ lam) : Sr ((2 * j + 1) * (1 + lam + n) + n + (n + lam)) (itN (j + 1) f) := by
  have hr := sr_rev hf
  have hlen := Dn.le _ _ hd
  have fl : 2 ≤ f.length := hd.1
  -- the row of the last unknown
  have eC : ∀ i, co (shR j f.reverse) i = shk j (co f.reverse) i := fun i => by
    have ne : f.reverse ≠ [] := fun e => by
      have := congrArg List.length e
      simp at this
      rw [this] at fl
      simp at fl
    unfold shR
    rw [if_neg ne, co_app0, shk_at]
    by_cases c : i < j
    · rw [if_pos c, if_neg (by omega)]
    · rw [if_neg c, if_pos (by omega)]
  have hC : Sr n (shR j f.reverse) := by
    obtain ⟨D, X, d0, d1, d2, d3⟩ := hr
    exact ⟨D, X, d0, d1, d2, fun i => by rw [eC]; exact it_shk d3 j i⟩
  obtain ⟨S0, hS0⟩ : ∃ S0, S0 = (2 * j + 1) * (1 + lam + n) + n := ⟨_, rfl⟩
  obtain ⟨a, b, t, ha, hb, az, bz, tz, h, nz⟩ := small_at (la := j + 1) (lb := j) (K := 2 * j + 1) (lam := lam) hf hr hC (by omega) (fun i => if i < j then i else f.length - 1 + (i - j)) (by omega)
  rw [← hS0] at az bz tz ⊢
  obtain ⟨v, hv⟩ : ∃ v : Nat → Rat, v = fun i => (t : Rat) * shk j (cst 1) i + -1 * co b i := ⟨_, rfl⟩
  have hg : ∀ i, cv (co a) (co f) i - cv v (co f.reverse) i = cv (co a) (co f) i + cv (co b) (co f.reverse) i - (t : Rat) * co (shR j f.reverse) i := fun i => by
    have e1 : cv v (co f.reverse) i = (t : Rat) * shk j (co f.reverse) i + -1 * cv (co b) (co f.reverse) i := by
      rw [hv, cv_lin, smul_cv, cv_shk, cst1_cv]
    rw [e1, eC]
    grind
  have zero : ∀ i, i < j ∨ f.length ≤ i + 1 → cv (co a) (co f) i - cv v (co f.reverse) i = 0 := fun i hi => by
    rw [hg]
    have one : ∀ k, k < 2 * j + 1 → (if k < j then k else f.length - 1 + (k - j)) = i → cv (co a) (co f) i + cv (co b) (co f.reverse) i - (t : Rat) * co (shR j f.reverse) i = 0 := fun k hk e => by
      have := h k hk
      rw [e] at this
      grind
    rcases hi with hi | hi
    · exact one i (by omega) (if_pos hi)
    · by_cases c : i < f.length + j
      · exact one (i - (f.length - 1) + j) (by omega) (by rw [if_neg (by omega)]; omega)
      · rw [cv_big i (j + 1) f.length _ _ (fun k hk => co_big (by omega)) (fun k hk => co_big hk) (by omega), cv_big i j f.length _ _ (fun k hk => co_big (by omega)) (fun k hk => co_big (by rw [List.length_reverse]; exact hk)) (by omega), eC, shk_at, if_neg (by omega), co_big (by rw [List.length_reverse]; omega)]
        grind
  have vat : ∀ i, v i = if i < j then -co b i else if i = j then (t : Rat) else 0 := fun i => by
    rw [hv]
    show (t : Rat) * shk j (cst 1) i + -1 * co b i = _
    rw [shk_at]
    by_cases c : i < j
    · rw [if_pos c, if_pos c]
      grind
    · rw [if_neg c, if_neg c, co_big (l := b) (by omega)]
      by_cases c2 : i = j
      · rw [if_pos c2, c2, Nat.sub_self]
        have : cst 1 0 = (1 : Rat) := rfl
        rw [this]
        grind
      · rw [if_neg c2]
        have : cst 1 (i - j) = (0 : Rat) := if_neg (by omega)
        rw [this]
        grind
  obtain ⟨c, c1, c2⟩ := walk_one j f (co a) v f0 hd (fun i hi => co_big (by omega)) (fun i hi => by rw [vat, if_neg (by omega), if_neg (by omega)]) (fun i hi => zero i (.inl hi)) (fun i hi => zero i (.inr hi))
  have c0 : c ≠ 0 := fun z => by
    obtain ⟨z1, z2⟩ := c2 z
    rcases nz with h | ⟨i, h⟩ | ⟨i, h⟩
    · have := z2 j
      rw [vat, if_neg (by omega), if_pos rfl] at this
      have : (t : Rat) = ((0 : Int) : Rat) := this
      exact h (Rat.intCast_inj.mp this)
    · exact h (z1 i)
    · by_cases ci : i < j
      · have := z2 i
        rw [vat, if_pos ci] at this
        exact h (by grind)
      · exact h (co_big (by omega))
  have F0 := itN_zero (j + 1) f f0 hd
  generalize itN (j + 1) f = F at *
  -- the numbers of the combination
  obtain ⟨D, X, d0, d1, d2, d3⟩ := hf
  have d3r : It D X (co f.reverse) := fun i => by
    by_cases ci : i < f.length
    · rw [co_rev ci]; exact d3 _
    · rw [co_big (by rw [List.length_reverse]; omega)]
      exact ⟨0, by rw [Rat.zero_mul]; rfl, by simp⟩
  have one1 : ((1 : Nat) : Rat) = 1 := rfl
  have ia : It 1 (2 ^ S0) (co a) := fun i => by
    obtain ⟨z, z1, z2⟩ := az i
    exact ⟨z, by rw [one1, Rat.mul_one]; exact z1, by omega⟩
  have iv : It 1 (2 ^ S0) v := fun i => by
    rw [vat]
    split
    · obtain ⟨z, z1, z2⟩ := bz i
      exact ⟨-z, by rw [one1, Rat.mul_one, z1, Rat.intCast_neg], by omega⟩
    · split
      · exact ⟨t, by rw [one1, Rat.mul_one], by omega⟩
      · exact ⟨0, by rw [Rat.zero_mul]; rfl, by simp⟩
  have gz : ∀ i, ∃ z : Int, (cv (co a) (co f) i - cv v (co f.reverse) i) * (D : Rat) = (z : Rat) ∧ z.natAbs < 2 ^ (S0 + (n + lam)) := fun i => by
    obtain ⟨y, y1, y2⟩ := It.conv i (j + 1) ia d3 fun k hk => co_big (by omega)
    obtain ⟨w, w1, w2⟩ := It.conv i (j + 1) iv d3r fun k hk => by rw [vat, if_neg (by omega), if_neg (by omega)]
    rw [Nat.one_mul] at y1 w1
    refine ⟨y - w, by rw [Rat.intCast_sub, ← y1, ← w1]; grind, ?_⟩
    have h1 : (y - w).natAbs ≤ (2 * (j + 1)) * (2 ^ S0 * X) := by
      have : 2 * (j + 1) * (2 ^ S0 * X) = (j + 1) * (2 ^ S0 * X) + (j + 1) * (2 ^ S0 * X) := by grind
      omega
    have h2 : (2 * (j + 1)) * (2 ^ S0 * X) < 2 ^ (S0 + (n + lam)) := by
      have p := Nat.pow_pos (n := S0) (show 0 < 2 by omega)
      have q1 : 2 ^ S0 * X < 2 ^ S0 * 2 ^ n := Nat.mul_lt_mul_of_pos_left d2 p
      have q2 : 2 * (j + 1) * (2 ^ S0 * X) ≤ 2 ^ lam * (2 ^ S0 * X) := Nat.mul_le_mul_right _ (by omega)
      have q3 : 2 ^ lam * (2 ^ S0 * X) < 2 ^ lam * (2 ^ S0 * 2 ^ n) := Nat.mul_lt_mul_of_pos_left q1 (Nat.pow_pos (by omega))
      have q4 : 2 ^ lam * (2 ^ S0 * 2 ^ n) = 2 ^ (S0 + (n + lam)) := by rw [Nat.pow_add, Nat.pow_add]; grind
      omega
    omega
  obtain ⟨w, w1, w2⟩ := gz j
  have cj : cv (co a) (co f) j - cv v (co f.reverse) j = c := by
    rw [c1, shk_at, if_neg (by omega), Nat.sub_self, F0]
    grind
  rw [cj] at w1
  have Dr0 : (D : Rat) ≠ 0 := fun e => by
    have h1 : (D : Rat).num = 0 := by rw [e]; rfl
    simp at h1
    omega
  have w0 : w ≠ 0 := fun e => by
    rw [e] at w1
    have : c * (D : Rat) = 0 := w1
    rcases Rat.mul_eq_zero.mp this with h | h
    · exact c0 h
    · exact Dr0 h
  have p0 := Nat.pow_pos (n := S0 + (n + lam)) (show 0 < 2 by omega)
  refine ⟨w.natAbs, 2 ^ (S0 + (n + lam)) - 1, by omega, w2, by omega, fun i => ?_⟩
  obtain ⟨y, y1, y2⟩ := gz (j + i)
  have ci : cv (co a) (co f) (j + i) - cv v (co f.reverse) (j + i) = c * co F i := by
    rw [c1, shk_at, if_neg (by omega), show j + i - j = i by omega]
  rw [ci] at y1
  by_cases hw : 0 ≤ w
  · refine ⟨y, ?_, by omega⟩
    have : ((w.natAbs : Nat) : Rat) = (w : Rat) := by
      rw [← Rat.intCast_natCast]
      congr 1
      omega
    rw [this, ← w1, ← y1]
    grind
  · refine ⟨-y, ?_, by omega⟩
    have : ((w.natAbs : Nat) : Rat) = -(w : Rat) := by
      rw [← Rat.intCast_natCast, ← Rat.intCast_neg]
      congr 1
      omega
    rw [this, Rat.intCast_neg, ← w1, ← y1]
    grind
end Pm
namespace Pm
open Pl
/-! ### all rows of a walk by bends are of a size -/
def Bz (S : Nat) : Nat → List Rat → Prop
  | 0, _ => True
  | n + 1, f => Sr S f ∧ (2 ≤ f.length → Lt1 (co f (f.length - 1)) → Bz S n (nextL f (co f (f.length - 1))))
theorem itN_succ : ∀ (j : Nat) (f : List Rat), itN (j + 1) f = nextL (itN j f) (co (itN j f) ((itN j f).length - 1))
  | 0, f => rfl
  | j + 1, f => itN_succ j (nextL f (co f (f.length - 1)))
theorem dn_succ : ∀ (j : Nat) (f : List Rat), Dn j f → 2 ≤ (itN j f).length → Lt1 (co (itN j f) ((itN j f).length - 1)) → Dn (j + 1) f
  | 0, f, _, h1, h2 => ⟨h1, h2, trivial⟩
  | j + 1, f, hd, h1, h2 => ⟨hd.1, hd.2.1, dn_succ j _ hd.2.2 h1 h2⟩
/-- the size of the walk -/
def WB (L m : Nat) : Nat := 2 * L * (1 + (L + 2) + m) + m + (m + (L + 2))
theorem le_pow2 : ∀ L : Nat, 2 * L ≤ 2 ^ (L + 2)
  | 0 => by decide
  | L + 1 => by
    have := le_pow2 L
    have e : 2 ^ (L + 1 + 2) = 2 ^ (L + 2) + 2 ^ (L + 2) := by rw [Nat.pow_succ]; omega
    have p := Nat.pow_le_pow_right (n := 2) (by omega) (show 1 ≤ L + 2 by omega)
    omega
theorem bz_walk {f : List Rat} {m L : Nat} (hf : Sr m f) (f0 : co f 0 = 1) (hl : f.length ≤ L + 1) : ∀ (t i : Nat), Dn i f → Bz (WB L m) t (itN i f)
  | 0, i, _ => trivial
  | t + 1, i, hd => by
    refine ⟨?_, fun h1 h2 => ?_⟩
    · cases i with
      | zero => exact hf.mono (by unfold WB; omega)
      | succ j =>
        have hj := Dn.le _ _ hd
        have hL : j + 1 ≤ L := by
          -- so many steps want so many numbers
          have : ∀ (k : Nat) (g : List Rat), Dn k g → k + 1 ≤ g.length ∨ k = 0 := fun k => by
            induction k with
            | zero => intro g _; exact .inr rfl
            | succ k ih =>
              intro g hg
              have h1 := hg.1
              rcases ih _ hg.2.2 with h | h
              · rw [nextL_len] at h
                exact .inl (by omega)
              · exact .inl (by omega)
          rcases this _ _ hd with h | h <;> omega
        have p := le_pow2 L
        have w := walk_sz (lam := L + 2) hf f0 hd (by omega)
        refine w.mono ?_
        unfold WB
        have := Nat.mul_le_mul_right (1 + (L + 2) + m) (show 2 * j + 1 ≤ 2 * L by omega)
        omega
    · rw [← itN_succ]
      exact bz_walk hf f0 hl t (i + 1) (dn_succ i f hd h1 h2)
/-- the numbers of a walk by bends of a row of the size n with at most L numbers -/
def BzF (n L : Nat) : Prop := WB L (2 * n + 1) ≤ 100000 ∧ L ≤ 100
instance {n L : Nat} : Decidable (BzF n L) := inferInstanceAs (Decidable (_ ∧ _))
end Pm
namespace Pm
open Pl
/-! ### helms that close a core to a row -/
/-- the least helm of a core for a row -/
structure Clo (N M C A B : List Rat) : Prop where
  tA : Tm A
  tB : Tm B
  len : A.length < M.length
  eq : ps A * ps N + ps B * ps M = ps C
section
variable {N M C A B A' B' P W u v : List Rat}
theorem clo_uniq (cop : Cop N M) (tM : Tm M) (M0 : M ≠ []) (h : Clo N M C A B) (h' : Clo N M C A' B') : A = A' ∧ B = B' := by
  have e : ps (subR A A') * ps N + ps (subR B B') * ps M = 0 := by
    rw [ps_subR, ps_subR]
    have e1 := h.eq
    have e2 := h'.eq
    rw [← e2] at e1
    grind
  have l : (subR A A').length < M.length := by
    have l1 : (subR A A').length ≤ max A.length A'.length := subR_len
    have := h.len
    have := h'.len
    omega
  obtain ⟨z1, z2⟩ := zero_pair cop tM M0 (tm_subR _ _) (tm_subR _ _) l e
  refine ⟨h.tA.eq h'.tA ?_, h.tB.eq h'.tB ?_⟩
  · have := ps_subR A A'
    rw [z1, ps_nil] at this
    grind
  · have := ps_subR B B'
    rw [z2, ps_nil] at this
    grind
/-- from any pair -/
theorem clo_mod (tM : Tm M) (M0 : M ≠ []) (e : ps u * ps N + ps v * ps M = ps C) : ∃ B, Clo N M C (modR u M) B := by
  obtain ⟨d1, d2, d3, d4⟩ := div_spec u tM M0
  refine ⟨addR v (mulR (quoR u M) N), d3, tm_addR _ _, d4, ?_⟩
  rw [ps_addR, ps_mulR, ← e]
  rw [d1]
  grind
theorem Clo.second (h : Clo N M C A B) (tM : Tm M) (M0 : M ≠ []) : quoR (subR C (mulR N A)) M = B := by
  refine quo_is tM M0 h.tB ?_
  rw [ps_subR, ps_mulR, ← h.eq]
  grind
theorem Clo.rest (h : Clo N M C A B) (tM : Tm M) (M0 : M ≠ []) : modR (subR C (mulR N A)) M = [] := by
  refine (div_is tM (q := B) (r := []) ?_ h.tB tm_nil (List.length_pos_iff.mpr M0)).2
  rw [ps_subR, ps_mulR, ← h.eq, ps_nil]
  grind
theorem clo_base (h : Clo N M [1] P W) (tM : Tm M) (M0 : M ≠ []) : ∃ B, Clo N M C (modR (mulR C P) M) B := by
  have e := h.eq
  rw [ps_one] at e
  refine clo_mod tM M0 (v := mulR C W) ?_
  rw [ps_mulR, ps_mulR]
  generalize ps P = p at *
  generalize ps W = w at *
  generalize ps N = n at *
  generalize ps M = m at *
  have : ps C = ps C * (p * n + w * m) := by rw [e]; grind
  grind
theorem clo_mod_eq (cop : Cop N M) (h : Clo N M [1] P W) (tM : Tm M) (M0 : M ≠ []) (c : Clo N M C A B) : modR (mulR C P) M = A := by
  obtain ⟨B', h'⟩ := clo_base (C := C) h tM M0
  exact (clo_uniq cop tM M0 h' c).1
theorem clo_ex (cop : Cop N M) (tM : Tm M) (M0 : M ≠ []) (C : List Rat) : ∃ A B, Clo N M C A B := by
  obtain ⟨u, v, e⟩ := cop
  obtain ⟨B, h⟩ := clo_mod (C := C) (N := N) (u := mulR u C) (v := mulR v C) tM M0 (by
    rw [ps_mulR, ps_mulR]
    generalize ps u = p at *
    generalize ps v = w at *
    generalize ps N = n at *
    generalize ps M = m at *
    have : ps C = ps C * (p * n + w * m) := by rw [e]; grind
    grind)
  exact ⟨_, _, h⟩
/-- its size -/
theorem Clo.sz {n K lam S : Nat} (h : Clo N M C A B) (cop : Cop N M) (tM : Tm M) (M0 : M ≠ []) (hN : Sr n N) (hM : Sr n M) (hC : Sr n C) (hK : N.length + M.length ≤ K + 2 ∧ M.length ≤ K + 1 ∧ C.length ≤ K) (hl : K + 1 ≤ 2 ^ lam) (hS : K * (1 + lam + n) + n ≤ S) : Sr S A ∧ Sr S B :=
  pair_sz cop hN hM hC tM M0 h.tA h.tB h.len h.eq hK hl hS
theorem Clo.lenB (h : Clo N M C A B) (tM : Tm M) (M0 : M ≠ []) {L : Nat} (hL : N.length ≤ L + 1 ∧ C.length + 1 ≤ M.length + L) : B.length ≤ L := by
  by_cases b0 : B = []
  · rw [b0]; exact Nat.zero_le _
  have Mp := List.length_pos_iff.mpr M0
  have e : ps (mulR B M) = ps (subR C (mulR A N)) := by
    rw [ps_mulR, ps_subR, ps_mulR, ← h.eq]
    grind
  have e2 : mulR B M = subR C (mulR A N) := (tm_mulR _ _).eq (tm_subR _ _) e
  have l1 := mulR_length h.tB tM b0 M0
  have l2 : (subR C (mulR A N)).length ≤ max C.length (mulR A N).length := subR_len
  have l3 : (mulR A N).length ≤ A.length + N.length - 1 := mulR_len
  rw [e2] at l1
  have := h.len
  by_cases a0 : A = []
  · have : mulR A N = [] := by rw [a0]; exact ps_zero (tm_mulR _ _) (by rw [ps_mulR, ps_nil]; grind)
    rw [this] at l1 l2
    simp at l2
    omega
  · omega
/-- the first number of the second row -/
theorem Clo.b0 (h : Clo N M C A B) (n0 : co N 0 = 0) (m1 : co M 0 = 1) : co B 0 = co C 0 := by
  have e := congrArg (fun f : Ps => f.c 0) h.eq
  have e1 : co A 0 * co N 0 + co B 0 * co M 0 = co C 0 := e
  rw [n0, m1] at e1
  grind
end
theorem gcdRU {A B : List Rat} (tA : Tm A) (tB : Tm B) : (gcdR A B).length = (gcdU A B).length := by
  unfold gcdR lowR
  exact sclR_length (gcdU_spec tA tB).1 (inv_ne fnz_ne)
theorem cop_one {N M : List Rat} (cop : Cop N M) (tN : Tm N) (tM : Tm M) (M0 : M ≠ []) : gcdR N M = [1] := by
  obtain ⟨u, v, e⟩ := cop
  exact gcdR_is (u := u) (v := v) tN tM tm_one rfl (dv_of (q := N) (by rw [ps_one]; grind)) (dv_of (q := M) (by rw [ps_one]; grind)) (by rw [ps_one, e])
theorem tm_cuS : ∀ (k : Nat) (a b u v : List Rat), Tm u → Tm v → Tm (cuS k a b u v)
  | 0, a, b, u, v, tu, tv => tu
  | k + 1, a, b, u, v, tu, tv => by
    by_cases z : b = []
    · rw [z, cuS_nil]; exact tu
    · rw [cuS_step k z]; exact tm_cuS k _ _ _ _ tv (tm_subR _ _)
end Pm
namespace Pm
open Pl
/-! ### a walk of Euclid whose first division is told apart -/
/-- the size behind the first division -/
def MB (n m s : Nat) : Nat := max m (n + s * (m + 1))
theorem way_two {X Y : List Rat} {n m s J : Nat} (tX : Tm X) (tY : Tm Y) (Y0 : Y ≠ []) (hX : Sr n X) (hY : Sr m Y) (hs : X.length + 1 ≤ Y.length + s) (hJ : Y.length ≤ J + (gcdU X Y).length) :
    Way (max (2 * (n + s * (m + 1)) + 2 * m) (EB J (MB n m s))) (Y.length + 1) X Y ∧ Sr (GB J (MB n m s)) (gcdU X Y) := by
  obtain ⟨d1, d2, d3, d4⟩ := div_spec X tY Y0
  obtain ⟨z1, z2, z3⟩ := div_sz tY Y0 hX hY hs
  have eg := gcdU_step (a := X) tY Y0
  have sY : Sr (MB n m s) Y := hY.mono (Nat.le_max_left _ _)
  have sR : Sr (MB n m s) (modR X Y) := z3.mono (Nat.le_max_right _ _)
  rw [eg] at hJ ⊢
  obtain ⟨wc, gs, _⟩ := way_of (J := J) tY d3 sY sR hJ (by omega)
  refine ⟨fun _ => ⟨n, m, s, hX, hY, hs, Nat.le_max_left _ _, ?_⟩, gs⟩
  exact (Way.more ((modR X Y).length + 1) Y.length (by omega) wc.way).mono (Nat.le_max_right _ _)
end Pm
namespace Pm
open PySem Pe Pg
/-! ### fractions -/
def fr (q : Rat) : PV := .tup [.int q.num, .int q.den]
@[simp] theorem at0 {α : Type} {x : α} {r : List α} : L2.atI (x :: r) 0 = some x := by
  unfold L2.atI L2.ixN
  simp
@[simp] theorem at1 {α : Type} {x y : α} {r : List α} : L2.atI (x :: y :: r) 1 = some y := by
  unfold L2.atI L2.ixN
  have : (1 : Int) < (r.length : Int) + 1 + 1 := by omega
  simp [this]
theorem log_lt {n k : Nat} (h : n < 2 ^ k) (hk : 0 < k) : n.log2 < k := by
  by_cases z : n = 0
  · subst z; simpa using hk
  · exact (Nat.log2_lt z).mpr h
theorem divisor_ok {a b : Int} {st : Store} : f_divisor_of [.tup [.int a, .int b]] st = .ok (.int ((Nat.gcd a.natAbs b.natAbs : Nat) : Int)) st := by
  simp [f_divisor_of, t_divisor_of, e_divisor_of, sFor]
theorem lowest_ok {a b : Int} {st : Store} (hb : b ≠ 0) :
    Rn (f_lowest [.tup [.int a, .int b]] st) fun p st' => p = .tup [.int (a / (Nat.gcd a.natAbs b.natAbs : Nat)), .int (b / (Nat.gcd a.natAbs b.natAbs : Nat))] ∧ Up [] st st' := by
  have g0 : 0 < Nat.gcd a.natAbs b.natAbs := Nat.gcd_pos_of_pos_right _ (by omega)
  have g1 : (Nat.gcd a.natAbs b.natAbs : Int) ≠ 0 := by omega
  simp [f_lowest, t_lowest, e_lowest, divisor_ok, g1, compL_cons, compTurn_e, hb, sizeLine, Up.app]
theorem fr_norm {n : Int} {d : Nat} (hd : d ≠ 0) : PV.tup [.int (n / (Nat.gcd n.natAbs d : Nat)), .int ((d : Int) / (Nat.gcd n.natAbs d : Nat))] = fr (Rat.normalize n d hd) := by
  rw [Rat.normalize_eq]
  rfl
theorem ratio_ok {n d : Int} {st : Store} (hd : 0 < d) : Rn (f_ratio [.int n, .int d] st) fun p st' => p = fr (Rat.normalize n d.natAbs (by omega)) ∧ Up [] st st' := by
  have e : ((d.natAbs : Nat) : Int) = d := by omega
  simp [f_ratio, t_ratio, e_ratio, hd, sizeLine]
  refine (lowest_ok (by omega)).imp ?_
  rintro p st' ⟨rfl, h⟩
  refine ⟨?_, h⟩
  rw [← fr_norm, e]
section
variable {a b : Rat} {n m : Nat} {st : Store}
theorem mul_bits {x y : Int} (hx : x.natAbs < 2 ^ n) (hy : y.natAbs < 2 ^ m) (h : n + m ≤ 900000) : x.natAbs.log2 + y.natAbs.log2 < 1000000 := by
  have h1 := log_lt (k := n + 1) (Nat.lt_of_lt_of_le hx (Nat.pow_le_pow_right (by omega) (by omega))) (by omega)
  have h2 := log_lt (k := m + 1) (Nat.lt_of_lt_of_le hy (Nat.pow_le_pow_right (by omega) (by omega))) (by omega)
  omega
theorem Sz.den (h : Sz n a) : ((a.den : Int)).natAbs < 2 ^ n := by simpa using h.2
theorem den_pos : (0 : Int) < (a.den : Int) * (b.den : Int) := by
  have h1 := a.den_nz
  have h2 := b.den_nz
  exact Int.mul_pos (by omega) (by omega)
theorem den_lt (ha : Sz n a) (hb : Sz m b) (h : n + m ≤ 900000) : ((a.den : Int) * (b.den : Int)).natAbs < 2 ^ 1000000 := by
  rw [Int.natAbs_mul]
  exact Nat.lt_of_lt_of_le (mul_lt ha.den hb.den) (Nat.pow_le_pow_right (by omega) (by omega))
theorem den_abs : ((a.den : Int) * (b.den : Int)).natAbs = a.den * b.den := by simp [Int.natAbs_mul]
theorem plus_ok (ha : Sz n a) (hb : Sz m b) (h : n + m ≤ 900000) : Rn (f_plus [fr a, fr b] st) fun p st' => p = fr (a + b) ∧ Up [] st st' := by
  have h1 := mul_bits ha.1 hb.den h
  have h2 := mul_bits hb.1 ha.den (by omega)
  have h3 := mul_bits ha.den hb.den h
  simp only [Int.natAbs_natCast] at h1 h2 h3
  simp [f_plus, t_plus, e_plus, fr, h1, h2, h3]
  refine (ratio_ok den_pos).imp ?_
  rintro p st' ⟨rfl, u⟩
  refine ⟨?_, u⟩
  rw [Rat.add_def]
  simp only [den_abs, fr]
theorem times_ok (ha : Sz n a) (hb : Sz m b) (h : n + m ≤ 900000) : Rn (f_times [fr a, fr b] st) fun p st' => p = fr (a * b) ∧ Up [] st st' := by
  have h1 := mul_bits ha.1 hb.1 h
  have h3 := mul_bits ha.den hb.den h
  simp only [Int.natAbs_natCast] at h1 h3
  simp [f_times, t_times, e_times, fr, h1, h3]
  refine (ratio_ok den_pos).imp ?_
  rintro p st' ⟨rfl, u⟩
  refine ⟨?_, u⟩
  rw [Rat.mul_def]
  simp only [den_abs, fr]
theorem ratio_neg {n d : Int} (hd : d < 0) : Rn (f_ratio [.int n, .int d] st) fun p st' => p = fr (Rat.normalize (-n) d.natAbs (by omega)) ∧ Up [] st st' := by
  have e : ((d.natAbs : Nat) : Int) = -d := by omega
  have hn : ¬ 0 < d := by omega
  simp [f_ratio, t_ratio, e_ratio, hn, sizeLine]
  refine (lowest_ok (by omega)).imp ?_
  rintro p st' ⟨rfl, h⟩
  refine ⟨?_, h⟩
  rw [← fr_norm, e]
  have e2 : (-d).natAbs = d.natAbs := by omega
  rw [e2]
end
end Pm
namespace Pm
open PySem Pe Pg Pl
/-! ### rows -/
def rw (l : List Rat) : PV := .tup (l.map fr)
def SzL (n : Nat) (l : List Rat) : Prop := ∀ q ∈ l, Sz n q
def Row (n : Nat) (l : List Rat) : Prop := Tm l ∧ SzL n l
theorem fr_zero : fr 0 = .tup [.int 0, .int 1] := rfl
theorem fr_one : fr 1 = .tup [.int 1, .int 1] := rfl
theorem fr_inj {a b : Rat} (h : fr a = fr b) : a = b := by
  unfold fr at h
  simp at h
  exact Rat.ext h.1 (by omega)
theorem SzL.co {n : Nat} {l : List Rat} (h : SzL n l) (hn : 1 ≤ n) (i : Nat) : Sz n (co l i) := by
  unfold Pl.co
  cases e : l[i]? with
  | none => exact sz_zero.mono hn
  | some q => exact h q (List.mem_of_getElem? e)
theorem SzL.mono {n m : Nat} {l : List Rat} (h : SzL n l) (e : n ≤ m) : SzL m l := fun q hq => (h q hq).mono e
theorem SzL.trim {n : Nat} {l : List Rat} (h : SzL n l) : SzL n (trim l) := fun q hq => h q (trim_mem hq)
theorem szl_nil {n : Nat} : SzL n [] := fun q hq => absurd hq List.not_mem_nil
/-! data -/
def pdR (q : Rat) : PyData := .tuple [.int q.num, .int q.den]
theorem dOf_fr {look : Nat → Option PyData} {q : Rat} : dOf look (fr q) = some (pdR q) := rfl
theorem dsOf_fr {look : Nat → Option PyData} : ∀ (l : List Rat), dsOf look (l.map fr) = some (l.map pdR)
  | [] => rfl
  | q :: l => by
    show (match dOf look (fr q), dsOf look (l.map fr) with
      | some d, some ds => some (d :: ds)
      | _, _ => none) = _
    rw [dOf_fr, dsOf_fr l]
    rfl
theorem toD_fr {st : Store} {q : Rat} : toD st (fr q) = some (pdR q) := rfl
theorem toD_rw {st : Store} {l : List Rat} : toD st (rw l) = some (.tuple (l.map pdR)) := by
  show (dsOf _ (l.map fr)).map PyData.tuple = _
  rw [dsOf_fr]
  rfl
theorem toD_list {st : Store} {n : Nat} {l : List Rat} (h : listAt st n = some (l.map fr)) : toD st (.ref n) = some (.list (l.map pdR)) := by
  show lookD st 8 n = _
  unfold lookD
  rw [h]
  dsimp only
  rw [dsOf_fr]
  rfl
theorem can_all : ∀ (l : List Rat), PyData.canLayAll0 (l.map pdR) = true
  | [] => rfl
  | q :: l => by
    show (true && PyData.canLayAll0 (l.map pdR)) = true
    rw [can_all l]
    rfl
theorem depth_all : ∀ (l : List Rat), PyData.depthAll (l.map pdR) ≤ 1
  | [] => Nat.zero_le _
  | q :: l => by
    show max 1 (PyData.depthAll (l.map pdR)) ≤ 1
    have := depth_all l
    omega
theorem shaped_fr {q : Rat} : SeqAt.shaped (pdR q) = true := rfl
theorem shaped_list {l : List Rat} : SeqAt.shaped (.list (l.map pdR)) = true := by
  unfold SeqAt.shaped
  have h1 : PyData.canLay0 (.list (l.map pdR)) = true := can_all l
  have h2 : PyData.depth (.list (l.map pdR)) = PyData.depthAll (l.map pdR) + 1 := rfl
  have h3 := depth_all l
  rw [h1, h2]
  simp
  omega
theorem shaped_rw {l : List Rat} : SeqAt.shaped (.tuple (l.map pdR)) = true := by
  unfold SeqAt.shaped
  have h1 : PyData.canLay0 (.tuple (l.map pdR)) = true := can_all l
  have h2 : PyData.depth (.tuple (l.map pdR)) = PyData.depthAll (l.map pdR) + 1 := rfl
  have h3 := depth_all l
  rw [h1, h2]
  simp
  omega
theorem eqv_fr {a b : Rat} : PyData.eqv (pdR a) (pdR b) = decide (a = b) := by
  have e : PyData.eqv (pdR a) (pdR b) = ((a.num == b.num) && (((a.den : Int) == (b.den : Int)) && true)) := rfl
  rw [e, Bool.eq_iff_iff]
  simp
  exact ⟨fun h => Rat.ext h.1 (by have := h.2; omega), fun h => by rw [h]; exact ⟨rfl, rfl⟩⟩
theorem gEq_fr {n : Bool} {a b : Rat} {st : Store} : gEq n (fr a) (fr b) st = .ok (.bl (if n then !decide (a = b) else decide (a = b))) st := by
  unfold gEq
  have e : scP (fr a) (fr b) = none := rfl
  rw [e, toD_fr, toD_fr]
  dsimp only
  rw [if_pos ⟨shaped_fr, shaped_fr⟩, eqv_fr]
theorem gEq_rw_nil {n : Bool} {l : List Rat} {st : Store} : gEq n (rw l) (.tup []) st = .ok (.bl (if n then !l.isEmpty else l.isEmpty)) st := by
  unfold gEq
  have e : scP (rw l) (.tup []) = none := rfl
  have e2 : toD st (.tup []) = some (.tuple ([].map pdR)) := rfl
  rw [e, toD_rw, e2]
  dsimp only
  rw [if_pos ⟨shaped_rw, shaped_rw⟩]
  cases l <;> rfl
theorem gEq_list_nil {n : Bool} {i j : Nat} {l : List Rat} {st : Store} (h : listAt st i = some (l.map fr)) (h2 : listAt st j = some []) : gEq n (.ref i) (.ref j) st = .ok (.bl (if n then !l.isEmpty else l.isEmpty)) st := by
  unfold gEq
  have e : scP (.ref i) (.ref j) = none := rfl
  rw [e, toD_list h, toD_list (l := []) h2]
  dsimp only
  rw [if_pos ⟨shaped_list, shaped_list⟩]
  cases l <;> rfl
theorem pop_r {n : Nat} {st : Store} : gPop (.ref n) st = match st[n]? with
    | some (.lst xs) => match xs[xs.length - 1]? with
      | some p => .ok p (st.set n (.lst xs.dropLast))
      | none => .bad
    | _ => .bad := rfl
/-! places -/
theorem at_nat {α : Type} {xs : List α} {i : Nat} (h : i < xs.length) : L2.atI xs (i : Int) = xs[i]? := by
  unfold L2.atI L2.ixN
  rw [if_pos (by omega), if_pos (by omega)]
  rfl
theorem at_last {α : Type} {xs : List α} {x : α} : L2.atI (xs ++ [x]) (-1) = some x := by
  unfold L2.atI L2.ixN
  have : (xs ++ [x]).length = xs.length + 1 := by simp
  rw [if_neg (by omega), if_pos (by omega)]
  have e : ((-1 : Int) + ((xs ++ [x]).length : Int)).toNat = xs.length := by omega
  rw [e]
  simp
theorem number_at_ok {l : List Rat} {i : Nat} {st : Store} : f_number_at [rw l, .int (i : Int)] st = .ok (fr (co l i)) st := by
  by_cases h : i < l.length
  · have e : L2.atI (l.map fr) (i : Int) = some (fr (co l i)) := by
      rw [at_nat (by simpa using h), List.getElem?_map, List.getElem?_eq_getElem h]
      unfold co
      rw [List.getElem?_eq_getElem h]
      rfl
    simp [f_number_at, t_number_at, e_number_at, rw, h, e]
  · simp [f_number_at, t_number_at, e_number_at, rw, h]
    rw [co_big (by omega), fr_zero]
/-! trimmed -/
theorem trimmed_loop {D : Nat} {st0 : Store} : ∀ (m : Nat) (l : List Rat) (ρ : Pe.Env) (st : Store) (n : Nat), l.length = m → m < n → ρ[1]? = some (some (.ref D)) → listAt st D = some (l.map fr) → st[D]? = some (.lst (l.map fr)) → Up [D] st0 st →
    Rn (whileN (xAndT (xTb (xBin (gEq true) (xLoc 1) (xLst xNil))) (xTb (xBin (gEq false) (xBin gIdx (xLoc 1) (xUn gNeg (xC (.int 1)))) (xC (.tup [.int 0, .int 1]))))) (sSeq (sEx (xPop (xLoc 1))) sNil) n ρ st) fun r st' => r = (Fl.nx, ρ) ∧ st'[D]? = some (.lst ((trim l).map fr)) ∧ Up [D] st0 st' := by
  intro m
  induction m with
  | zero =>
    intro l ρ st n hl hn hρ h1 h2 u
    obtain ⟨k, rfl⟩ : ∃ k, n = k + 1 := ⟨n - 1, by omega⟩
    have el : l = [] := List.length_eq_zero_iff.mp hl
    subst el
    have hD := lt_of_get h2
    have e : gEq true (.ref D) (.ref st.length) (st ++ [Ob.lst []]) = .ok (.bl false) (st ++ [Ob.lst []]) := gEq_list_nil (l := []) ((Up.app (R := []) [Ob.lst []]).lst h1 List.not_mem_nil) listAt_new
    unfold whileN
    simp [hρ, e, sizeLine]
    refine ⟨?_, u.trans (Up.app _)⟩
    rw [List.getElem?_append_left hD]
    exact h2
  | succ m ih =>
    intro l ρ st n hl hn hρ h1 h2 u
    obtain ⟨k, rfl⟩ : ∃ k, n = k + 1 := ⟨n - 1, by omega⟩
    have hne : l ≠ [] := fun e => by subst e; simp at hl
    obtain ⟨l', a, rfl⟩ : ∃ l' a, l = l' ++ [a] := ⟨l.dropLast, l.getLast hne, (List.dropLast_concat_getLast hne).symm⟩
    have hD := lt_of_get h2
    rw [List.map_append, List.map_cons, List.map_nil] at h1 h2
    have h1' : listAt (st ++ [Ob.lst []]) D = some (l'.map fr ++ [fr a]) := (Up.app (R := []) [Ob.lst []]).lst h1 List.not_mem_nil
    have h2' : (st ++ [Ob.lst []])[D]? = some (.lst (l'.map fr ++ [fr a])) := by rw [List.getElem?_append_left hD]; exact h2
    have e : gEq true (.ref D) (.ref st.length) (st ++ [Ob.lst []]) = .ok (.bl true) (st ++ [Ob.lst []]) := by
      have := gEq_list_nil (n := true) (l := l' ++ [a]) (by rw [h1', List.map_append, List.map_cons, List.map_nil]) (listAt_new (st := st) (xs := []))
      rw [this]
      simp
    have e2 : L2.atI (l'.map fr ++ [fr a]) (-1) = some (fr a) := at_last
    have e3 : gEq false (fr a) (.tup [.int 0, .int 1]) (st ++ [Ob.lst []]) = .ok (.bl (decide (a = 0))) (st ++ [Ob.lst []]) := by
      rw [← fr_zero, gEq_fr]
      rfl
    unfold whileN
    by_cases ha : a = 0
    · rw [decide_eq_true ha] at e3
      have e5 : gPop (.ref D) (st ++ [Ob.lst []]) = .ok (fr a) ((st ++ [Ob.lst []]).set D (.lst (l'.map fr))) := by
        rw [pop_r, h2']
        simp
      rw [trim_snoc, if_pos ha]
      have ih' := ih l' ρ ((st ++ [Ob.lst []]).set D (.lst (l'.map fr))) k (by simp at hl; omega) (by omega) hρ (listAt_of (by rw [List.getElem?_set_self (by simp; omega)])) (by rw [List.getElem?_set_self (by simp; omega)]) ((u.trans (Up.app _)).trans (Up.set (by simp)))
      simp only [x_andT, x_tb, x_bin, x_loc, x_lst, x_nil, x_un, x_c, s_seq, s_ex, x_pop, s_nil, rn_bind, rn_ok, rn_ite, hρ, Res.bind_ok, newL_e, e, h1', e2, e3, idx_r, neg_i, e5, if_true, List.length_nil, Nat.zero_le]
      exact ih'
    · rw [decide_eq_false ha] at e3
      rw [trim_snoc, if_neg ha]
      simp only [x_andT, x_tb, x_bin, x_loc, x_lst, x_nil, x_un, x_c, s_seq, s_ex, x_pop, s_nil, rn_bind, rn_ok, rn_ite, hρ, Res.bind_ok, newL_e, e, h1', e2, e3, idx_r, neg_i, if_true, List.length_nil, Nat.zero_le, Bool.false_eq_true, if_false]
      exact ⟨trivial, by rw [h2', List.map_append, List.map_cons, List.map_nil], u.trans (Up.app _)⟩
theorem trimmed_ok {l : List Rat} {n : Nat} {st : Store} (h : listAt st n = some (l.map fr)) (hl : l.length ≤ sizeLine) : Rn (f_trimmed [.ref n] st) fun p st' => p = rw (trim l) ∧ Up [] st st' := by
  simp [f_trimmed, t_trimmed, e_trimmed, h, sWh]
  refine (trimmed_loop (D := st.length) (st0 := st ++ [Ob.lst (l.map fr)]) l.length l [some (.ref n), some (.ref st.length)] _ fuel rfl (fuel_line hl) rfl listAt_new get_new .refl).imp ?_
  rintro r st' ⟨rfl, h1, u⟩
  simp [listAt_of h1]
  refine ⟨rfl, ⟨Nat.le_trans (by simp) u.le, fun m h2 _ => ?_⟩⟩
  rw [u.keep m (by simp; omega) (by simp; omega), List.getElem?_append_left h2]
end Pm
namespace Pm
open PySem Pe Pg Pl
/-! ### calls that change nothing -/
def Pu (F : Fn) (as : List PV) (v : PV) : Prop := ∀ st : Store, Rn (F as st) fun p st' => p = v ∧ Up [] st st'
theorem Pu.go0 {F : Fn} {as : List PV} {v : PV} {s0 st : Store} {K : PV → Store → Prop} (h : Pu F as v) (u : Up [] s0 st) (k : ∀ st', Up [] s0 st' → K v st') : Rn (F as st) K :=
  (h st).imp fun _ _ ⟨e, u2⟩ => e ▸ k _ (u.trans u2)
/-- the law's source of numbers -/
def Reel (n : Nat) (st : Store) : Prop := ∃ a b c : Int, st[n]? = some (.lst [.int a, .int b, .int c]) ∧ 0 ≤ a
theorem reel_on {n : Nat} : On [n] (Reel n) := fun st st' h ⟨a, b, c, e, z⟩ => ⟨a, b, c, by rw [h n (by simp)]; exact e, z⟩
theorem Reel.up {n : Nat} {st st' : Store} (h : Reel n st) (u : Up [] st st') : Reel n st' := by
  obtain ⟨a, b, c, e, z⟩ := h
  exact ⟨a, b, c, u.get e List.not_mem_nil, z⟩
theorem Reel.lt {n : Nat} {st : Store} (h : Reel n st) : n < st.length := lt_of_get h.choose_spec.choose_spec.choose_spec.1
/-- what stays through a round: fs are lists that are named -/
structure Iv (n : Nat) (s0 : Store) (fs : List (Nat × List PV)) (st : Store) : Prop where
  up : Up [n] s0 st
  reel : Reel n st
  facts : ∀ f ∈ fs, st[f.1]? = some (.lst f.2) ∧ f.1 ≠ n
section
variable {n : Nat} {s0 st st' : Store} {fs : List (Nat × List PV)} {xs : List PV} {F : Fn} {as : List PV} {v : PV} {K : PV → Store → Prop}
theorem Iv.of (h : Reel n st) : Iv n st [] st := ⟨.refl, h, fun f hf => absurd hf List.not_mem_nil⟩
theorem Iv.pure (I : Iv n s0 fs st) (u : Up [] st st') : Iv n s0 fs st' := ⟨I.up.trans u.weak, I.reel.up u, fun f hf => ⟨u.get (I.facts f hf).1 List.not_mem_nil, (I.facts f hf).2⟩⟩
theorem Iv.draw (I : Iv n s0 fs st) (u : Up [n] st st') (r : Reel n st') : Iv n s0 fs st' := ⟨I.up.trans u, r, fun f hf => ⟨u.get (I.facts f hf).1 (by simpa using (I.facts f hf).2), (I.facts f hf).2⟩⟩
theorem Iv.app {g : Store} (I : Iv n s0 fs st) : Iv n s0 fs (st ++ g) := I.pure (Up.app g)
theorem Iv.new (I : Iv n s0 fs st) : Iv n s0 ((st.length, xs) :: fs) (st ++ [.lst xs]) := by
  have I2 := I.app (g := [.lst xs])
  refine ⟨I2.up, I2.reel, fun f hf => ?_⟩
  rcases List.mem_cons.mp hf with rfl | hf
  · exact ⟨get_new, by have := I.reel.lt; dsimp only; omega⟩
  · exact I2.facts f hf
theorem Iv.drop {f : Nat × List PV} (I : Iv n s0 (f :: fs) st) : Iv n s0 fs st := ⟨I.up, I.reel, fun g hg => I.facts g (List.mem_cons_of_mem _ hg)⟩
theorem Iv.at0 {i : Nat} (I : Iv n s0 ((i, xs) :: fs) st) : listAt st i = some xs := listAt_of (I.facts _ List.mem_cons_self).1
theorem Iv.at1 {i : Nat} {f : Nat × List PV} (I : Iv n s0 (f :: (i, xs) :: fs) st) : listAt st i = some xs := I.drop.at0
theorem Pu.go (h : Pu F as v) (I : Iv n s0 fs st) (k : ∀ st', Iv n s0 fs st' → K v st') : Rn (F as st) K :=
  (h st).imp fun _ _ ⟨e, u⟩ => e ▸ k _ (I.pure u)
/-- a call that draws -/
def Dr (n : Nat) (F : Fn) (as : List PV) (P : PV → Prop) : Prop := ∀ st : Store, Reel n st → Rn (F as st) fun p st' => P p ∧ Up [n] st st' ∧ Reel n st'
theorem Dr.go {P : PV → Prop} (h : Dr n F as P) (I : Iv n s0 fs st) (k : ∀ v st', P v → Iv n s0 fs st' → K v st') : Rn (F as st) K :=
  (h st I.reel).imp fun v st' ⟨p, u, r⟩ => k v st' p (I.draw u r)
theorem Iv.fin {P : PV → Prop} (I : Iv n st fs st') (p : P v) : P v ∧ Up [n] st st' ∧ Reel n st' := ⟨p, I.up, I.reel⟩
/-- a new list is laid -/
theorem newL_go {ps : List PV} (I : Iv n s0 fs st) (k : Iv n s0 ((st.length, ps) :: fs) (st ++ [.lst ps]) → K (.ref st.length) (st ++ [.lst ps])) : Rn (newL ps st) K := by
  rw [newL_e, rn_ok]
  exact k I.new
end
theorem Sr.szl {n : Nat} {l : List Rat} (h : Sr n l) : SzL n l := fun q hq => by
  obtain ⟨i, hi, e⟩ := List.mem_iff_getElem.mp hq
  have := h.sz i
  rw [co_of (List.getElem?_eq_getElem hi), e] at this
  exact this
/-! ### data: how it is shown -/
def pdv (p : PV) : PyData := (dOf (fun _ => none) p).getD .none
/-- p reads as data, at most d deep, shown by at most c signs -/
structure Dt (d c : Nat) (p : PV) : Prop where
  rd : ∀ look, dOf look p = some (pdv p)
  show_ : (pdv p).showable = true
  can : (pdv p).canLay0 = true
  depth : (pdv p).depth ≤ d
  len : (pdv p).shown.length ≤ c
structure Dts (d c : Nat) (ps : List PV) : Prop where
  rd : ∀ look, dsOf look ps = some (ps.map pdv)
  show_ : PyData.showableAll (ps.map pdv) = true
  can : PyData.canLayAll0 (ps.map pdv) = true
  depth : PyData.depthAll (ps.map pdv) ≤ d
  len : ((PyData.shownAll (ps.map pdv)).map (·.length)).sum + 2 * ps.length ≤ c
theorem int_short {i : Int} {n : Nat} (h : i.natAbs < 2 ^ n) : (PyData.shown (.int i)).length ≤ n + 8 := by
  have h10 : i.natAbs < 10 ^ (n + 1) := Nat.lt_of_lt_of_le h (Nat.le_trans (Nat.pow_le_pow_left (by omega) n) (Nat.pow_le_pow_right (by omega) (by omega)))
  have e := PySem.int_text_length_le10 (k := n + 1) (by omega) h10
  show (Str.ofString (toString i)).length ≤ n + 8
  rw [ofString_length]
  omega
section
variable {d d' c c' n L : Nat} {p : PV} {ps : List PV} {q : Rat} {l : List Rat}
theorem dt_int {i : Int} (h : i.natAbs < 2 ^ n) (hn : n ≤ 1900) : Dt 0 (n + 8) (.int i) := ⟨fun _ => rfl, by
  have h1 := log_lt (k := n + 1) (Nat.lt_of_lt_of_le h (Nat.pow_le_pow_right (by omega) (by omega))) (by omega)
  show decide (i.natAbs.log2 < 1920) = true
  rw [decide_eq_true (by omega)], rfl, Nat.le_refl _, int_short h⟩
theorem dt_bl {b : Bool} : Dt 0 5 (.bl b) := ⟨fun _ => rfl, rfl, rfl, Nat.le_refl _, by
  show (PyData.shown (.bool b)).length ≤ 5
  cases b <;> decide⟩
theorem dt_non : Dt 0 4 .non := ⟨fun _ => rfl, rfl, rfl, Nat.le_refl _, by decide⟩
theorem dts_nil : Dts 0 0 [] := ⟨fun _ => rfl, rfl, rfl, Nat.le_refl _, Nat.le_refl _⟩
theorem dts_cons (h : Dt d c p) (t : Dts d' c' ps) : Dts (max d d') (c + c' + 2) (p :: ps) := by
  refine ⟨fun look => ?_, ?_, ?_, ?_, ?_⟩
  · show (match dOf look p, dsOf look ps with
      | some d, some ds => some (d :: ds)
      | _, _ => none) = _
    rw [h.rd, t.rd]
    rfl
  · show (PyData.showable (pdv p) && PyData.showableAll (ps.map pdv)) = true
    rw [h.show_, t.show_]
    rfl
  · show (PyData.canLay0 (pdv p) && PyData.canLayAll0 (ps.map pdv)) = true
    rw [h.can, t.can]
    rfl
  · show max (PyData.depth (pdv p)) (PyData.depthAll (ps.map pdv)) ≤ _
    have := h.depth
    have := t.depth
    omega
  · have := h.len
    have := t.len
    show (((pdv p).shown :: PyData.shownAll (ps.map pdv)).map (·.length)).sum + 2 * (ps.length + 1) ≤ _
    rw [List.map_cons, List.sum_cons]
    omega
theorem shownAll_len : ∀ {ds : List PyData}, (PyData.shownAll ds).length = ds.length
  | [] => rfl
  | d :: ds => by show (PyData.shownAll ds).length + 1 = _; rw [shownAll_len]; rfl
theorem dt_tup (h : Dts d c ps) : Dt (d + 1) (c + 3) (.tup ps) := by
  have e : pdv (.tup ps) = .tuple (ps.map pdv) := by
    unfold pdv
    have e1 : dOf (fun _ => none) (.tup ps) = (dsOf (fun _ => none) ps).map PyData.tuple := rfl
    rw [e1, h.rd]
    rfl
  refine ⟨fun look => ?_, ?_, ?_, ?_, ?_⟩
  · rw [e]
    show (dsOf look ps).map PyData.tuple = _
    rw [h.rd]
    rfl
  · rw [e]; exact h.show_
  · rw [e]; exact h.can
  · rw [e]
    have := h.depth
    show PyData.depthAll (ps.map pdv) + 1 ≤ _
    omega
  · rw [e]
    have h1 := h.len
    have h2 := tupleText_len_le (PyData.shownAll (ps.map pdv))
    rw [shownAll_len, List.length_map] at h2
    show (tupleText (PyData.shownAll (ps.map pdv))).length ≤ _
    omega
theorem dt_fr (h : Sz n q) (hn : n ≤ 1900) : Dt 1 (2 * n + 23) (fr q) := by
  have h2 : ((q.den : Int)).natAbs < 2 ^ n := by simpa using h.2
  have := dt_tup (dts_cons (dt_int h.1 hn) (dts_cons (dt_int h2 hn) dts_nil))
  exact ⟨this.rd, this.show_, this.can, this.depth, Nat.le_trans this.len (by omega)⟩
theorem dts_frs (hn : n ≤ 1900) : ∀ {l : List Rat}, SzL n l → Dts 1 (l.length * (2 * n + 25)) (l.map fr)
  | [], _ => ⟨fun _ => rfl, rfl, rfl, Nat.zero_le _, Nat.zero_le _⟩
  | q :: l, h => by
    have := dts_cons (dt_fr (h q List.mem_cons_self) hn) (dts_frs hn fun y hy => h y (List.mem_cons_of_mem _ hy))
    refine ⟨this.rd, this.show_, this.can, this.depth, Nat.le_trans this.len ?_⟩
    rw [List.length_cons, Nat.succ_mul l.length]
    omega
theorem dt_szl (h : SzL n l) (hl : l.length ≤ L) (hn : n ≤ 1900) : Dt 2 (L * (2 * n + 25) + 3) (rw l) := by
  have := dt_tup (dts_frs hn h)
  refine ⟨this.rd, this.show_, this.can, this.depth, Nat.le_trans this.len ?_⟩
  have := Nat.mul_le_mul_right (2 * n + 25) hl
  omega
theorem dt_rw (h : RW n L l) (hn : n ≤ 1900) : Dt 2 (L * (2 * n + 25) + 3) (rw l) := dt_szl h.sr.szl h.len hn
def text (ps : List PV) : Str := (PyData.list (ps.map pdv)).shown
theorem repr_l {i : Nat} {st : Store} (h : listAt st i = some ps) (t : Dts d c ps) (hd : d ≤ 50) (hc : c ≤ 16777000) : gRepr [.ref i] st = .ok (.str (text ps)) st := by
  have e : toD st (.ref i) = some (.list (ps.map pdv)) := by
    show lookD st 8 i = _
    unfold lookD
    rw [h]
    dsimp only
    rw [t.rd]
    rfl
  unfold gRepr
  dsimp only
  rw [e]
  dsimp only
  have hsh : SeqAt.shaped (.list (ps.map pdv)) = true := by
    unfold SeqAt.shaped
    have h2 : PyData.depth (.list (ps.map pdv)) = PyData.depthAll (ps.map pdv) + 1 := rfl
    have h3 : PyData.canLay0 (.list (ps.map pdv)) = true := t.can
    have := t.depth
    rw [h3, h2, Bool.true_and, decide_eq_true_eq]
    omega
  have hlen : (PyData.list (ps.map pdv)).shown.length ≤ sizeLine := by
    have h1 := t.len
    have h2 := listText_len_le (PyData.shownAll (ps.map pdv))
    rw [shownAll_len, List.length_map] at h2
    show (listText (PyData.shownAll (ps.map pdv))).length ≤ 16777216
    omega
  rw [if_pos ⟨t.show_, hsh, hlen⟩]
  rfl
theorem repr_tup {st : Store} (h : Dt d c (.tup ps)) (hd : d ≤ 50) (hc : c ≤ 16777000) : gRepr [.tup ps] st = .ok (.str (pdv (.tup ps)).shown) st := by
  have e : toD st (.tup ps) = some (pdv (.tup ps)) := h.rd _
  unfold gRepr
  dsimp only
  rw [e]
  dsimp only
  have hsh : SeqAt.shaped (pdv (.tup ps)) = true := by
    unfold SeqAt.shaped
    have := h.depth
    rw [h.can, Bool.true_and, decide_eq_true_eq]
    omega
  have hlen : (pdv (.tup ps)).shown.length ≤ sizeLine := by
    have := h.len
    show _ ≤ 16777216
    omega
  rw [if_pos ⟨h.show_, hsh, hlen⟩]
theorem repr_go {i : Nat} {st : Store} {K : PV → Store → Prop} (h : listAt st i = some ps) (t : Dts d c ps) (hd : d ≤ 50) (hc : c ≤ 16777000) (k : K (.str (text ps)) st) : Rn (gRepr [.ref i] st) K := by
  rw [repr_l h t hd hc, rn_ok]
  exact k
theorem repr_goT {st : Store} {K : PV → Store → Prop} (h : Dt d c (.tup ps)) (hd : d ≤ 50) (hc : c ≤ 16777000) (k : K (.str (pdv (.tup ps)).shown) st) : Rn (gRepr [.tup ps] st) K := by
  rw [repr_tup h hd hc, rn_ok]
  exact k
end
/-! ### equalities -/
theorem eqv_all : ∀ (a b : List Rat), PyData.eqvAll (a.map pdR) (b.map pdR) = decide (a = b)
  | [], [] => by simp [PyData.eqvAll]
  | [], _ :: _ => by simp [PyData.eqvAll]
  | _ :: _, [] => by simp [PyData.eqvAll]
  | x :: a, y :: b => by
    show (PyData.eqv (pdR x) (pdR y) && PyData.eqvAll (a.map pdR) (b.map pdR)) = _
    rw [eqv_fr, eqv_all a b]
    simp
theorem gEq_rw {n : Bool} {a b : List Rat} {st : Store} : gEq n (rw a) (rw b) st = .ok (.bl (if n then !decide (a = b) else decide (a = b))) st := by
  unfold gEq
  have e : scP (rw a) (rw b) = none := rfl
  rw [e, toD_rw, toD_rw]
  dsimp only
  rw [if_pos ⟨shaped_rw, shaped_rw⟩]
  have e2 : PyData.eqv (.tuple (a.map pdR)) (.tuple (b.map pdR)) = decide (a = b) := eqv_all a b
  rw [e2]
theorem rw_inj {a b : List Rat} (h : rw a = rw b) : a = b := by
  unfold rw at h
  simp only [PV.tup.injEq] at h
  exact List.map_inj_right (fun x y e => fr_inj e) |>.mp h
theorem gEq_rw2 {n : Bool} {a b a' b' : List Rat} {st : Store} : gEq n (.tup [rw a, rw b]) (.tup [rw a', rw b']) st = .ok (.bl (if n then !decide (a = a' ∧ b = b') else decide (a = a' ∧ b = b'))) st := by
  unfold gEq
  have e : scP (.tup [rw a, rw b]) (.tup [rw a', rw b']) = none := rfl
  have t : ∀ x y : List Rat, toD st (.tup [rw x, rw y]) = some (.tuple [.tuple (x.map pdR), .tuple (y.map pdR)]) := fun x y => by
    show (dsOf _ [rw x, rw y]).map PyData.tuple = _
    have e1 : ∀ z : List Rat, dOf (lookD st 8) (rw z) = some (.tuple (z.map pdR)) := fun z => toD_rw
    have e2 : dsOf (lookD st 8) [rw x, rw y] = (match dOf (lookD st 8) (rw x), (match dOf (lookD st 8) (rw y), some [] with
      | some d, some ds => some (d :: ds)
      | _, _ => none) with
      | some d, some ds => some (d :: ds)
      | _, _ => none) := rfl
    rw [e2, e1, e1]
    rfl
  have s : ∀ x y : List Rat, SeqAt.shaped (.tuple [.tuple (x.map pdR), .tuple (y.map pdR)]) = true := fun x y => by
    unfold SeqAt.shaped
    have h1 : PyData.canLay0 (.tuple [.tuple (x.map pdR), .tuple (y.map pdR)]) = (PyData.canLayAll0 (x.map pdR) && (PyData.canLayAll0 (y.map pdR) && true)) := rfl
    have h2 : PyData.depth (.tuple [.tuple (x.map pdR), .tuple (y.map pdR)]) = max (PyData.depthAll (x.map pdR) + 1) (max (PyData.depthAll (y.map pdR) + 1) 0) + 1 := rfl
    have h3 := depth_all x
    have h4 := depth_all y
    rw [h1, h2, can_all, can_all]
    simp
    omega
  rw [e, t, t]
  dsimp only
  rw [if_pos ⟨s _ _, s _ _⟩]
  have e2 : PyData.eqv (.tuple [.tuple (a.map pdR), .tuple (b.map pdR)]) (.tuple [.tuple (a'.map pdR), .tuple (b'.map pdR)]) = (PyData.eqvAll (a.map pdR) (a'.map pdR) && (PyData.eqvAll (b.map pdR) (b'.map pdR) && true)) := rfl
  rw [e2, eqv_all, eqv_all]
  simp
theorem gEq_bl {n : Bool} {a b : Bool} {st : Store} : gEq n (.bl a) (.bl b) st = .ok (.bl (if n then !decide (a = b) else decide (a = b))) st := rfl
theorem gIs_bl {n : Bool} {a b : Bool} {st : Store} : gIsN n (.bl a) (.bl b) st = .ok (.bl (if n then !decide (a = b) else decide (a = b))) st := rfl
end Pm
namespace Pm
open PySem Pe Pg Pl
theorem rngP_len {lo : Int} {k : Nat} : (rngP lo k).length = k := by simp [rngP]
theorem get_rng {k i : Nat} {p : PV} (h : (rngP 0 k)[i]? = some p) : i < k ∧ p = .int (i : Int) := by
  rw [rngP_get] at h
  split at h
  · rename_i hi
    refine ⟨hi, ?_⟩
    have := (Option.some.inj h).symm
    rw [this]
    simp
  · cases h
/-! a comprehension over range(n) -/
theorem comp_range {vs : List Nat} {it : SmI} {g : Tg} {t : SmT} {e : Sm} {ρ : Pe.Env} {st : Store} (n : Nat) (f : Nat → PV) (hn : n ≤ sizeLine) (hit : it ρ st = .ok (.fix (rngP 0 n)) st)
    (body : ∀ (i : Nat) st2, i < n → Up [st.length] st st2 → Rn (bodyC g t e (wipeE vs ρ) (.int (i : Int)) st2) fun o st4 => o = some (f i) ∧ Up [] st2 st4) :
    Rn (xComp vs it g t e ρ st) fun p st' => p = .ref st.length ∧ st'[st.length]? = some (.lst ((List.range n).map f)) ∧ Up [] st st' := by
  have len : (rngP 0 n).length = n := by simp [rngP]
  have := comp_pure (ps := rngP 0 n) (vs := vs) (g := g) (t := t) (e := e) f (by rw [len]; exact hn) hit (fun _ _ _ => rfl) fun i p st2 h1 h2 => by
    rw [rngP_get] at h1
    split at h1
    · rename_i hi
      have e1 : p = .int (i : Int) := by
        have := (Option.some.inj h1).symm
        rw [this]
        simp
      subst e1
      exact body i st2 hi h2
    · cases h1
  rw [len] at this
  exact this
theorem comp_seq {vs : List Nat} {g : Tg} {t : SmT} {e : Sm} {ρ : Pe.Env} {st : Store} {i : Nat} {qs : List PV} (f : Nat → PV) (hn : qs.length ≤ sizeLine) (hρ : ρ[i]? = some (some (.tup qs)))
    (body : ∀ (i : Nat) p st2, qs[i]? = some p → Up [st.length] st st2 → Rn (bodyC g t e (wipeE vs ρ) p st2) fun o st4 => o = some (f i) ∧ Up [] st2 st4) :
    Rn (xComp vs (xSeqIt (xLoc i)) g t e ρ st) fun p st' => p = .ref st.length ∧ st'[st.length]? = some (.lst ((List.range qs.length).map f)) ∧ Up [] st st' :=
  comp_pure (ps := qs) (d := .fix qs) f hn (by simp [hρ]) (fun _ _ _ => rfl) body
theorem line_eq : sizeLine = 16777216 := rfl
theorem two62 : (2 : Int) ^ 62 = 4611686018427387904 := rfl
theorem rng1_e {j : Int} {st : Store} : rng1It [.int j] st = if -(2 ^ 62) ≤ j ∧ j < 2 ^ 62 then .ok (.fix (rngP 0 j.toNat)) st else .bad := by unfold rng1It; exact Eq.refl _
theorem rng1_ok {n : Nat} {st : Store} (hn : n ≤ sizeLine) : rng1It [.int (n : Int)] st = .ok (.fix (rngP 0 n)) st := by
  rw [line_eq] at hn
  rw [rng1_e, two62, if_pos ⟨by omega, by omega⟩, Int.toNat_natCast]
theorem range_it {i : Nat} {n : Nat} {ρ : Pe.Env} {st : Store} (h : ρ[i]? = some (some (.int (n : Int)))) (hn : n ≤ sizeLine) : xItL rng1It (xCons (xLoc i) xNil) ρ st = .ok (.fix (rngP 0 n)) st := by
  have e : xCons (xLoc i) xNil ρ st = .ok [.int (n : Int)] st := by rw [x_cons, x_loc, h]; rfl
  rw [x_itL, e, Res.bind_ok, rng1_ok hn]
theorem max_nat {x y : Nat} : (if x < y then (y : Int) else (x : Int)) = ((max x y : Nat) : Int) := by
  split <;> omega
section
variable {a b : List Rat} {n m : Nat} {st : Store}
theorem added_ok (ha : SzL n a) (hb : SzL m b) (hn : 1 ≤ n) (hm : 1 ≤ m) (hs : n + m ≤ 900000) (la : a.length ≤ 1000) (lb : b.length ≤ 1000) : Rn (f_added [rw a, rw b] st) fun p st' => p = rw (addR a b) ∧ Up [] st st' := by
  have hl : max a.length b.length ≤ sizeLine := by unfold sizeLine; omega
  have hma := max_nat (x := a.length) (y := b.length)
  have er : rw a = .tup (a.map fr) := rfl
  have er2 : rw b = .tup (b.map fr) := rfl
  simp [-comp_e, f_added, t_added, e_added, er, er2]
  rw [hma]
  refine (comp_range (max a.length b.length) (fun i => fr (co a i + co b i)) hl (range_it rfl hl) fun i st2 hi u => ?_).imp ?_
  · simp [bodyC, ← er, ← er2, number_at_ok]
    exact plus_ok (ha.co hn i) (hb.co hm i) hs
  · rintro p st' ⟨rfl, h1, u⟩
    have e : (List.range (max a.length b.length)).map (fun i => fr (co a i + co b i)) = ((List.range (max a.length b.length)).map (fun i => co a i + co b i)).map fr := by rw [List.map_map]; rfl
    rw [e] at h1
    refine (trimmed_ok (listAt_of h1) (by simpa using hl)).imp ?_
    rintro p st2 ⟨rfl, u2⟩
    refine ⟨congrArg rw (trim_eq fun i => ?_), u.trans u2⟩
    rw [co_map fun i hi => by rw [co_big (by omega), co_big (by omega)]; grind, co_addL]
end
end Pm
namespace Pm
open PySem Pe Pg Pl
/-! ### products of rows -/
/-- the sum under way: a's first i rows of b are in, and of the next one j places -/
structure Pile (a b : List Rat) (i j : Nat) (F : List Rat) : Prop where
  len : F.length = a.length + b.length
  sum : ps F = ps (a.take i) * ps b + mono i (co a i) * ps (b.take j)
section
variable {a b F : List Rat} {i j n m : Nat}
theorem Pile.add (h : Pile a b i j F) (hi : i < a.length) (hj : j < b.length) : Pile a b i (j + 1) (F.set (i + j) (co F (i + j) + co a i * co b j)) := by
  have hl : i + j < F.length := by rw [h.len]; omega
  refine ⟨by rw [List.length_set]; exact h.len, ?_⟩
  rw [ps_set hl, h.sum, ps_take, ← mono_mul]
  grind
theorem Pile.next (h : Pile a b i b.length F) : Pile a b (i + 1) 0 F := by
  refine ⟨h.len, ?_⟩
  rw [h.sum, List.take_length, ps_take, List.take_zero, ps_nil]
  grind
theorem co_rep {L k : Nat} : co (List.replicate L (0 : Rat)) k = 0 := by
  unfold co
  rw [List.getElem?_replicate]
  split <;> rfl
theorem Pile.zero : Pile a b 0 0 (List.replicate (a.length + b.length) 0) := by
  refine ⟨by simp, ?_⟩
  have e2 : ps (List.replicate (a.length + b.length) 0) = 0 := Ps.ext' fun k => by rw [Ps.zero_c]; exact co_rep
  rw [e2, List.take_zero, List.take_zero, ps_nil]
  grind
theorem Pile.done (h : Pile a b a.length 0 F) : trim F = mulR a b := by
  refine Tm.eq (tm_trim _) (tm_mulR _ _) ?_
  rw [ps_trim, ps_mulR, h.sum, List.take_length, List.take_zero, ps_nil]
  grind
theorem sr_take (h : Sr n a) : Sr n (a.take i) := by
  obtain ⟨D, X, d0, d1, d2, d3⟩ := h
  refine ⟨D, X, d0, d1, d2, fun k => ?_⟩
  rw [co_take]
  split
  · exact d3 k
  · exact ⟨0, by grind, by simp⟩
theorem Pile.sz (h : Pile a b i j F) (ha : Sr n a) (hb : Sr m b) (k : Nat) : Sz (n + m + a.length + 1) (co F k) := by
  -- one row over a common denominator
  obtain ⟨D, X, d0, d1, d2, d3⟩ := ha
  obtain ⟨E, Y, e0, e1, e2, e3⟩ := hb
  have tk : ∀ {l : List Rat} {D X : Nat} (i : Nat), It D X (co l) → It D X (co (l.take i)) := fun {l D X} i hl k => by
    rw [co_take]
    split
    · exact hl k
    · exact ⟨0, by grind, by simp⟩
  obtain ⟨z, q1, q2⟩ := It.conv k a.length (tk i d3) e3 (fun t ht => co_big (by rw [List.length_take]; omega))
  have hmono : (mono i (co a i) * ps (b.take j)).c k = if i ≤ k then co a i * co (b.take j) (k - i) else 0 := cv_mono k i _ _
  obtain ⟨x, q3, q4⟩ := d3 i
  obtain ⟨y, q5, q6⟩ := tk j e3 (k - i)
  have hF : co F k = cv (co (a.take i)) (co b) k + if i ≤ k then co a i * co (b.take j) (k - i) else 0 := by
    rw [← hmono]
    exact congrArg (fun f : Ps => f.c k) h.sum
  have hXY : X * Y < 2 ^ (n + m) := mul_lt d2 e2
  have hDE : D * E < 2 ^ (n + m) := mul_lt d1 e1
  have h3 : a.length * (X * Y) < 2 ^ (n + m + a.length) := by
    rw [Nat.add_comm (n + m)]
    exact mul_lt (two_lt _) hXY
  have h4 : 2 ^ (n + m) ≤ 2 ^ (n + m + a.length) := Nat.pow_le_pow_right (by omega) (by omega)
  have h5 : 2 ^ (n + m + a.length + 1) = 2 ^ (n + m + a.length) + 2 ^ (n + m + a.length) := by rw [Nat.pow_succ]; omega
  have hxy : (x * y).natAbs ≤ X * Y := by rw [Int.natAbs_mul]; exact Nat.mul_le_mul q4 q6
  by_cases hk : i ≤ k
  · rw [if_pos hk] at hF
    refine sz_of (D := D * E) (z := z + x * y) (Nat.mul_pos d0 e0) ?_ ?_ (by omega)
    · rw [hF, Rat.intCast_add, ← q1, Rat.intCast_mul, ← q3, ← q5, Rat.natCast_mul]
      grind
    · have := natAbs_add_le z (x * y)
      omega
  · rw [if_neg hk] at hF
    refine sz_of (D := D * E) (z := z) (Nat.mul_pos d0 e0) ?_ (by omega) (by omega)
    rw [hF, ← q1]
    grind
end
end Pm
namespace Pm
open PySem Pe Pg Pl
theorem enumP_get {qs : List PV} {i : Nat} : (enumP qs)[i]? = qs[i]?.map fun p => PV.tup [.int (i : Int), p] := by
  unfold enumP
  rw [List.getElem?_zipWith, rngP_get]
  by_cases h : i < qs.length
  · rw [if_pos h, List.getElem?_eq_getElem h]
    simp
  · rw [if_neg h, List.getElem?_eq_none (by omega)]
    rfl
theorem enumP_len {qs : List PV} : (enumP qs).length = qs.length := by
  unfold enumP rngP
  simp
theorem setL_ok {n : Nat} {F : List PV} {k : Nat} {p : PV} {st : Store} (h : st[n]? = some (.lst F)) (hk : k < F.length) : setL (.ref n) (.int (k : Int)) p st = .ok () (st.set n (.lst (F.set k p))) := by
  unfold setL
  simp only [h]
  have e : L2.ixN F.length (k : Int) = some k := by
    unfold L2.ixN
    rw [if_pos (by omega), if_pos (by omega)]
    rfl
  rw [e]
theorem at_fr {F : List Rat} {k : Nat} (hk : k < F.length) : L2.atI (F.map fr) (k : Int) = some (fr (co F k)) := by
  rw [at_nat (by simpa using hk), List.getElem?_map, List.getElem?_eq_getElem hk]
  unfold co
  rw [List.getElem?_eq_getElem hk]
  rfl
theorem get_fr {l : List Rat} {i : Nat} {p : PV} (h : (l.map fr)[i]? = some p) : i < l.length ∧ p = fr (co l i) := by
  rw [List.getElem?_map] at h
  cases e : l[i]? with
  | none => rw [e] at h; cases h
  | some q =>
    rw [e] at h
    refine ⟨?_, ?_⟩
    · by_cases z : i < l.length
      · exact z
      · rw [List.getElem?_eq_none (by omega)] at e; cases e
    · rw [co_of e]
      exact (Option.some.inj h).symm
section
variable {a b : List Rat} {n m : Nat} {st : Store}
theorem multiplied_ok (ha : Sr n a) (hb : Sr m b) (la : a.length ≤ 1000) (lb : b.length ≤ 1000) (hs : 2 * (n + m) + a.length + 1 ≤ 900000) : Rn (f_multiplied [rw a, rw b] st) fun p st' => p = rw (mulR a b) ∧ Up [] st st' := by
  have er : rw a = .tup (a.map fr) := rfl
  have er2 : rw b = .tup (b.map fr) := rfl
  have hmul : ∀ st2 : Store, st2[st.length]? = some (.lst [PV.tup [.int 0, .int 1]]) → gMul (.ref st.length) (.int ((a.length : Int) + (b.length : Int))) st2 = .ok (.ref st2.length) (st2 ++ [Ob.lst ((List.replicate (a.length + b.length) (0 : Rat)).map fr)]) := fun st2 h2 => by
    unfold gMul
    simp only [h2]
    have e1 : ((a.length : Int) + (b.length : Int)).toNat = a.length + b.length := by omega
    have e63 : (2 : Int) ^ 63 = 9223372036854775808 := rfl
    rw [e63, e1, line_eq, if_pos ⟨by omega, by omega, by simp; omega⟩]
    unfold newL
    have e2 : (List.replicate (a.length + b.length) [PV.tup [PV.int 0, PV.int 1]]).flatten = (List.replicate (a.length + b.length) (0 : Rat)).map fr := by
      rw [List.map_replicate, fr_zero]
      generalize a.length + b.length = k
      induction k with
      | zero => rfl
      | succ k ih => rw [List.replicate_succ, List.flatten_cons, ih, List.replicate_succ]; rfl
    rw [e2]
  simp [f_multiplied, t_multiplied, e_multiplied, er, er2, sizeLine]
  rw [hmul _ get_new]
  simp only [rn_ok]
  generalize hst0 : st ++ [Ob.lst [PV.tup [PV.int 0, PV.int 1]]] = st0
  have u0 : Up [] st st0 := by rw [← hst0]; exact Up.app _
  generalize hD : st0.length = D
  have hDst : st.length ≤ D := by rw [← hD]; exact u0.le
  unfold sFor
  simp only [x_it1, x_loc, List.getElem?_cons_zero, Res.bind_ok, rn_bind, enumI]
  refine (forL_rule (Q := fun r st' => r.1 = Fl.nx ∧ (∃ x3 x4 x5 x6, r.2 = [some (rw a), some (rw b), some (.ref D), x3, x4, x5, x6]) ∧ (∃ F, st'[D]? = some (.lst (F.map fr)) ∧ Pile a b a.length 0 F) ∧ Up [] st st')
    (fun i ρ st' => (∃ x3 x4 x5 x6, ρ = [some (rw a), some (rw b), some (.ref D), x3, x4, x5, x6]) ∧ (∃ F, st'[D]? = some (.lst (F.map fr)) ∧ Pile a b i 0 F) ∧ Up [] st st') ?_ ?_ ?_).imp ?_
  · rintro ρ st' h
    rw [enumP_len, List.length_map] at h
    exact ⟨rfl, h⟩
  · rintro i p ρ st1 hp ⟨⟨x3, x4, x5, x6, rfl⟩, ⟨F, hF, pile⟩, u⟩
    rw [enumP_get] at hp
    obtain ⟨q, hq, rfl⟩ := Option.map_eq_some_iff.mp hp
    obtain ⟨hi, rfl⟩ := get_fr hq
    simp [er, er2, sFor, enumI]
    refine (forL_rule (Q := fun r st' => r.1 = Fl.nx ∧ (∃ x3 x4 x5 x6, r.2 = [some (rw a), some (rw b), some (.ref D), x3, x4, x5, x6]) ∧ (∃ F, st'[D]? = some (.lst (F.map fr)) ∧ Pile a b (i + 1) 0 F) ∧ Up [] st st')
      (fun j ρ st' => (∃ x5 x6, ρ = [some (rw a), some (rw b), some (.ref D), some (.int (i : Int)), some (fr (co a i)), x5, x6]) ∧ (∃ F, st'[D]? = some (.lst (F.map fr)) ∧ Pile a b i j F) ∧ Up [] st st') ?_ ?_ ?_).imp ?_
    · rintro ρ st' ⟨⟨x5, x6, rfl⟩, ⟨F', hF', pile'⟩, u'⟩
      rw [enumP_len, List.length_map] at pile'
      exact ⟨rfl, ⟨_, _, _, _, rfl⟩, ⟨F', hF', pile'.next⟩, u'⟩
    · rintro j p ρ st2 hp ⟨⟨x5, x6, rfl⟩, ⟨F2, hF2, pile2⟩, u2⟩
      rw [enumP_get] at hp
      obtain ⟨q, hq, rfl⟩ := Option.map_eq_some_iff.mp hp
      obtain ⟨hj, rfl⟩ := get_fr hq
      have hk : i + j < F2.length := by rw [pile2.len]; omega
      have hk' : ((i : Int) + (j : Int)) = ((i + j : Nat) : Int) := by omega
      have hsz : Sz (n + m + a.length + 1) (co F2 (i + j)) := pile2.sz ha hb _
      have hat : L2.atI (F2.map fr) ((i : Int) + (j : Int)) = some (fr (co F2 (i + j))) := by rw [hk']; exact at_fr hk
      simp [listAt_of hF2, hat]
      refine (times_ok (ha.sz i) (hb.sz j) (by omega)).imp ?_
      rintro p st3 ⟨rfl, u3⟩
      refine (plus_ok hsz (sz_mul (ha.sz i) (hb.sz j)) (by omega)).imp ?_
      rintro p st4 ⟨rfl, u4⟩
      have hF4 := (u3.trans u4).get hF2 List.not_mem_nil
      rw [hk', setL_ok hF4 (by simpa using hk)]
      simp
      refine ⟨⟨F2.set (i + j) (co F2 (i + j) + co a i * co b j), ?_, pile2.add hi hj⟩, ?_⟩
      · rw [List.getElem?_set_self (lt_of_get hF4), List.map_set]
      · exact (u2.trans (u3.trans u4)).late hDst
    · exact ⟨⟨x5, x6, by simp [er, er2]⟩, ⟨F, hF, pile⟩, u⟩
    · rintro ⟨fl, ρ⟩ st' ⟨h0, ⟨x3, x4, x5, x6, h1⟩, h2, h3⟩
      simp only at h0 h1
      subst h0 h1
      exact rn_ok.mpr ⟨⟨_, _, _, _, rfl⟩, h2, h3⟩
  · refine ⟨⟨none, none, none, none, by simp [er, er2]⟩, ⟨_, ?_, Pile.zero⟩, u0.trans (Up.app _)⟩
    rw [← hD]
    simp
  · rintro ⟨fl, ρ⟩ st' ⟨h0, ⟨x3, x4, x5, x6, h1⟩, ⟨F, hF, pile⟩, h3⟩
    simp only at h0 h1
    subst h0 h1
    simp
    refine (trimmed_ok (listAt_of hF) (by rw [pile.len, line_eq]; omega)).imp ?_
    rintro p st2 ⟨rfl, u2⟩
    exact ⟨congrArg rw pile.done, h3.trans u2⟩
end
end Pm
namespace Pm
open PySem Pe Pg Pl
section
variable {a b : List Rat} {n m : Nat} {x : Rat} {st : Store}
/-! ### is it a row -/
theorem is_whole_i {i : Int} : f_is_whole [.int i] st = .ok (.bl true) st := by
  simp [f_is_whole, t_is_whole, e_is_whole, gIsi, kindP, subTy]
theorem are_wholes_ok {q : Rat} : Rn (f_are_wholes [fr q, .int 2] st) fun p st' => p = .bl true ∧ Up [] st st' := by
  simp [f_are_wholes, t_are_wholes, e_are_wholes, fr, gIsi, kindP, subTy, compL_cons, compTurn_e, is_whole_i, gAll, blsOf, sizeLine, Up.app]
theorem is_ratio_ok {q : Rat} : Rn (f_is_ratio [fr q] st) fun p st' => p = .bl true ∧ Up [] st st' := by
  have hq : (0 : Int) < q.den := by have := q.den_nz; omega
  have hd : f_divisor_of [fr q] = fun st => .ok (.int 1) st := funext fun st => by
    unfold fr
    rw [divisor_ok]
    have := q.reduced
    rw [Int.natAbs_natCast, this]
    rfl
  have er : fr q = .tup [.int q.num, .int q.den] := rfl
  simp [f_is_ratio, t_is_ratio, e_is_ratio]
  refine are_wholes_ok.imp ?_
  rintro p st1 ⟨rfl, u⟩
  simp [hd]
  rw [er]
  have := q.den_pos
  simp [this]
  exact u
theorem blsOf_true : ∀ (l : List Nat), blsOf (l.map fun _ => PV.bl true) = some (l.map fun _ => true)
  | [] => rfl
  | i :: l => by
    show (blsOf (l.map fun _ => PV.bl true)).map (true :: ·) = _
    rw [blsOf_true l]
    rfl
theorem is_row_ok (h : Tm a) (la : a.length ≤ 1000) : Rn (f_is_row [rw a] st) fun p st' => p = .bl true ∧ Up [] st st' := by
  have er : rw a = .tup (a.map fr) := rfl
  simp [-comp_e, f_is_row, t_is_row, e_is_row, er, gIsi, kindP, subTy]
  refine (comp_seq (fun _ => PV.bl true) (by rw [List.length_map, line_eq]; omega) rfl fun i p st2 hp u => ?_).imp ?_
  · obtain ⟨hi, rfl⟩ := get_fr hp
    simp [bodyC]
    exact is_ratio_ok
  · rintro p st1 ⟨rfl, h1, u⟩
    have e1 : gAll [.ref st.length] st1 = .ok (.bl true) st1 := by
      unfold gAll
      simp [listAt_of h1, blsOf_true]
    simp [e1]
    have e2 : gEq false (.tup (a.map fr)) (.tup []) st1 = .ok (.bl a.isEmpty) st1 := gEq_rw_nil
    rw [e2]
    simp
    by_cases hn : a = []
    · simp [hn, u]
    · have hl := h
      rw [← List.dropLast_concat_getLast hn] at hl
      have hz := tm_snoc hl
      have e3 : L2.atI (a.map fr) (-1) = some (fr (a.getLast hn)) := by
        have : a.map fr = a.dropLast.map fr ++ [fr (a.getLast hn)] := by
          rw [← List.map_singleton, ← List.map_append, List.dropLast_concat_getLast hn]
        rw [this]
        exact at_last
      simp [hn, e3]
      rw [← fr_zero, gEq_fr]
      simp [hz, u]
end
end Pm
namespace Pm
open PySem Pe Pg Pl
theorem rngDn_at {L i : Nat} {p : PV} (h : (rngDn ((L : Int) - 1) L)[i]? = some p) : i < L ∧ p = .int ((L - (i + 1) : Nat) : Int) := by
  unfold rngDn at h
  rw [List.getElem?_map] at h
  by_cases hi : i < L
  · rw [List.getElem?_range hi] at h
    refine ⟨hi, ?_⟩
    have := (Option.some.inj h).symm
    have e : (L : Int) - 1 + (i : Int) * (-1) = ((L - (i + 1) : Nat) : Int) := by omega
    rw [this]
    exact congrArg PV.int e
  · rw [List.getElem?_eq_none (by simpa using hi)] at h
    cases h
theorem rngDn_len {a : Int} {L : Nat} : (rngDn a L).length = L := by simp [rngDn]
theorem revRng_e {j : Int} {st : Store} : revRng (.int j) st = if -(2 ^ 62) ≤ j ∧ j < 2 ^ 62 then .ok (.fix (rngDn ((j.toNat : Int) - 1) j.toNat)) st else .bad := by unfold revRng; exact Eq.refl _
theorem revRng_ok {n : Nat} {st : Store} (hn : n ≤ sizeLine) : revRng (.int (n : Int)) st = .ok (.fix (rngDn ((n : Int) - 1) n)) st := by
  rw [line_eq] at hn
  rw [revRng_e, two62, if_pos ⟨by omega, by omega⟩, Int.toNat_natCast]
theorem at_last_fr {B : List Rat} (h : B ≠ []) : L2.atI (B.map fr) (-1) = some (fr (co B (B.length - 1))) := by
  have e : B.map fr = B.dropLast.map fr ++ [fr (B.getLast h)] := by
    rw [← List.map_singleton, ← List.map_append, List.dropLast_concat_getLast h]
  rw [e, at_last, co_of (q := B.getLast h)]
  rw [List.getLast_eq_getElem h, List.getElem?_eq_getElem]
theorem zero_list {st2 : Store} {D k : Nat} (h2 : st2[D]? = some (.lst [PV.tup [.int 0, .int 1]])) (hk : k ≤ 2000) : gMul (.ref D) (.int (k : Int)) st2 = .ok (.ref st2.length) (st2 ++ [Ob.lst ((List.replicate k (0 : Rat)).map fr)]) := by
  unfold gMul
  simp only [h2]
  have e63 : (2 : Int) ^ 63 = 9223372036854775808 := rfl
  rw [e63, Int.toNat_natCast, line_eq, if_pos ⟨by omega, by omega, by simp; omega⟩]
  unfold newL
  have e2 : (List.replicate k [PV.tup [PV.int 0, PV.int 1]]).flatten = (List.replicate k (0 : Rat)).map fr := by
    rw [List.map_replicate, fr_zero]
    clear hk
    induction k with
    | zero => rfl
    | succ k ih => rw [List.replicate_succ, List.flatten_cons, ih, List.replicate_succ]; rfl
  rw [e2]
section
variable {A B q r : List Rat} {nq nB nr : Nat} {st : Store}
end
end Pm
namespace Pm
open PySem Pe Pg Pl
/-! ### the package's functions on fractions -/
section
variable {x y : Rat} {n m : Nat}
theorem plus_pu (hx : Sz n x) (hy : Sz m y) (h : n + m ≤ 900000) : Pu f_plus [fr x, fr y] (fr (x + y)) := fun st => plus_ok hx hy h
theorem times_pu (hx : Sz n x) (hy : Sz m y) (h : n + m ≤ 900000) : Pu f_times [fr x, fr y] (fr (x * y)) := fun st => times_ok hx hy h
end
/-! ### on rows -/
section
variable {a b h : List Rat} {n m L M : Nat} {x : Rat}
theorem added_pu [ha : RW n L a] [hb : RW m M b] (h : n + m ≤ 900000 ∧ L ≤ 500 ∧ M ≤ 500) : Pu f_added [rw a, rw b] (rw (addR a b)) := fun st =>
  added_ok ha.sr.szl hb.sr.szl ha.sr.pos hb.sr.pos h.1 (by have := ha.len; omega) (by have := hb.len; omega)
theorem multiplied_pu [ha : RW n L a] [hb : RW m M b] (h : 2 * (n + m) + L + 1 ≤ 900000 ∧ L ≤ 500 ∧ M ≤ 500) : Pu f_multiplied [rw a, rw b] (rw (mulR a b)) := fun st =>
  multiplied_ok ha.sr hb.sr (by have := ha.len; omega) (by have := hb.len; omega) (by have := ha.len; omega)
theorem is_row_pu [ha : RW n L a] (h : L ≤ 500) : Pu f_is_row [rw a] (.bl true) := fun st => is_row_ok ha.tm (by have := ha.len; omega)
/-! ### divisions -/
theorem mulR_one (ta : Tm a) : mulR [1] a = a := (tm_mulR _ _).eq ta (by rw [ps_mulR, ps_one]; grind)
theorem mulR_nil : mulR h [] = [] := ps_zero (tm_mulR _ _) (by rw [ps_mulR, ps_nil]; grind)
/-! ### the first number that is not 0 -/
theorem compL_fm {g : Tg} {t : SmT} {e : Sm} {ρ : Pe.Env} {D : Nat} {f : PV → Option PV} : ∀ (qs : List PV) (acc : List PV) (st : Store), (∀ p ∈ qs, ∀ st2, Rn (bodyC g t e ρ p st2) fun o st4 => o = f p ∧ Up [] st2 st4) → st[D]? = some (.lst acc) → acc.length + qs.length ≤ sizeLine →
    Rn (compL g t e D ρ qs st) fun _ st' => st'[D]? = some (.lst (acc ++ qs.filterMap f)) ∧ Up [D] st st'
  | [], acc, st, _, h, _ => by rw [compL_nil, rn_ok]; exact ⟨by rw [List.filterMap_nil, List.append_nil]; exact h, .refl⟩
  | p :: qs, acc, st, hb, h, hl => by
    rw [compL_cons, turn_body, rn_bind, rn_bind]
    refine (hb p List.mem_cons_self st).imp ?_
    rintro o st4 ⟨e, u⟩
    have h4 := u.get h List.not_mem_nil
    simp only [List.length_cons] at hl
    cases o with
    | none =>
      refine rn_ok.mpr ((compL_fm qs acc st4 (fun q hq => hb q (List.mem_cons_of_mem _ hq)) h4 (by omega)).imp fun _ st5 ⟨e5, u5⟩ => ⟨?_, u.weak.trans u5⟩)
      rw [e5, List.filterMap_cons, ← e]
    | some y =>
      show Rn (compPut D y st4) _
      unfold compPut
      rw [h4]
      simp only [show acc.length < sizeLine by omega, if_true, rn_ok]
      refine (compL_fm qs (acc ++ [y]) _ (fun q hq => hb q (List.mem_cons_of_mem _ hq)) (by rw [List.getElem?_set_self (lt_of_get h4)]) (by simp; omega)).imp fun _ st5 ⟨e5, u5⟩ => ⟨?_, (u.weak.trans (Up.set (by simp))).trans u5⟩
      rw [e5, List.filterMap_cons, ← e, List.append_assoc]
      rfl
def nzs (l : List Rat) : List Rat := l.filter fun q => decide (q ≠ 0)
theorem nzs_fr {f : PV → Option PV} (hf : ∀ q : Rat, f (fr q) = if q = 0 then none else some (fr q)) : ∀ (l : List Rat), (l.map fr).filterMap f = (nzs l).map fr
  | [] => rfl
  | q :: l => by
    rw [List.map_cons, List.filterMap_cons, hf, nzs_fr hf l]
    by_cases z : q = 0
    · simp [nzs, z]
    · simp [nzs, z]
theorem nzs_head : ∀ {l : List Rat}, Tm l → l ≠ [] → ∃ r, nzs l = fnz l :: r
  | [], _, h => absurd rfl h
  | q :: l, t, _ => by
    by_cases z : q = 0
    · subst z
      have hl : l ≠ [] := fun e => by
        subst e
        exact tm_snoc (l := []) t rfl
      have tl : Tm l := tm_of_last fun h0 => by
        have := tm_last t (by simp)
        have e : (0 :: l).length - 1 = (l.length - 1) + 1 := by have := List.length_pos_iff.mpr hl; simp; omega
        rw [e, co_succ] at this
        exact this
      obtain ⟨r, e⟩ := nzs_head tl hl
      refine ⟨r, ?_⟩
      have e1 : nzs (0 :: l) = nzs l := by simp [nzs]
      have e2 : fnz (0 :: l) = fnz l := by show (if (0 : Rat) = 0 then fnz l else 0) = _; rw [if_pos rfl]
      rw [e1, e2, e]
    · refine ⟨nzs l, ?_⟩
      have e2 : fnz (q :: l) = q := by show (if q = 0 then fnz l else q) = _; rw [if_neg z]
      rw [e2]
      simp [nzs, z]
end
end Pm
namespace Pm
open PySem Pe Pg Pl
/-! ### common divisors -/
section
variable {a b h q r A B : List Rat} {n m L M H Lh : Nat} {x : Rat}
/-- how much longer than their common divisor -/
theorem lenJ {J : Nat} (ha : RW n L a) (hb : RW m M b) (h1 : a ≠ [] ∨ b ≠ []) (h : L ≤ J + 1 ∧ M ≤ J + 1) : a.length ≤ J + (gcdU a b).length ∧ b.length ≤ J + (gcdU a b).length := by
  have := List.length_pos_iff.mpr (gcdU_ne ha.tm hb.tm h1)
  have := ha.len
  have := hb.len
  omega
theorem gcdU_lenc (ta : Tm a) (tb : Tm b) : (gcdU b a).length = (gcdU a b).length := by
  obtain ⟨g1, g2, g3, ⟨u, v, g4⟩, _⟩ := gcdU_spec ta tb
  obtain ⟨f1, f2, f3, ⟨w, z, f4⟩, _⟩ := gcdU_spec tb ta
  have d1 : Dv (gcdU a b) (gcdU b a) := by
    obtain ⟨q1, _, e1⟩ := g2
    obtain ⟨q2, _, e2⟩ := g3
    exact dv_of (q := addR (mulR w q2) (mulR z q1)) (by rw [ps_addR, ps_mulR, ps_mulR, f4, e1, e2]; grind)
  have d2 : Dv (gcdU b a) (gcdU a b) := by
    obtain ⟨q1, _, e1⟩ := f2
    obtain ⟨q2, _, e2⟩ := f3
    exact dv_of (q := addR (mulR u q2) (mulR v q1)) (by rw [ps_addR, ps_mulR, ps_mulR, g4, e1, e2]; grind)
  have := dv_both g1 f1 d1 d2
  have l1 := sclR_length g1 (inv_ne (fnz_ne (l := gcdU a b)))
  have l2 := sclR_length f1 (inv_ne (fnz_ne (l := gcdU b a)))
  unfold lowR at this
  rw [this] at l1
  omega
/-! ### quotients -/
end
end Pm
namespace Pm
open PySem Pe Pg Pl
/-! ### cofactors -/
section
variable {a b h u v q r A B : List Rat} {n m L M H Lh J : Nat} {x : Rat}
theorem sclR_row (ha : RW n L a) (hx : Sz m x) : RW (n + m) L (sclR a x) := ha.scl hx
theorem fnz_mulU {g : List Rat} (hh : Tm h) (h0 : h ≠ []) (tg : Tm g) (g0 : g ≠ []) : fnz (mulR h g) = fnz h * fnz g := fnz_mul hh tg h0 g0
/-- what is left of b -/
theorem quo_low {g : List Rat} (th : Tm h) (h0 : h ≠ []) (tb : Tm b) (tg : Tm g) (g0 : g ≠ []) (d : Dv g b) : quoR (mulR h b) (lowR (mulR h g)) = sclR (quoR b g) (fnz (mulR h g)) := by
  have e := quo_mul tg g0 tb d
  refine quo_is tm_lowR (lowR_ne (tm_mulR _ _) (mulR_ne th tg h0 g0)) (tm_sclR _ _) ?_
  unfold lowR
  rw [ps_sclR, ps_sclR, ps_mulR, ps_mulR]
  have e2 : ps b = ps (quoR b g) * ps g := by rw [← ps_mulR, e]
  have e3 : mono 0 (fnz (mulR h g)) * mono 0 (1 / fnz (mulR h g)) = 1 := by
    rw [mono_mul]
    have : fnz (mulR h g) * (1 / fnz (mulR h g)) = 1 := by have := fnz_ne (l := mulR h g); grind
    rw [this]
    refine Ps.ext' fun k => ?_
    rw [Ps.one_c]
    rfl
  have : mono 0 (fnz (mulR h g)) * ps (quoR b g) * (mono 0 (1 / fnz (mulR h g)) * (ps h * ps g)) = (mono 0 (fnz (mulR h g)) * mono 0 (1 / fnz (mulR h g))) * (ps h * (ps (quoR b g) * ps g)) := by grind
  rw [this, e3, ← e2]
  grind
/-- the size of the first cofactor, and of the second one -/
def CE (J n H Lh s : Nat) : Nat := CB J n + (1 + (H + GB J n + Lh)) + s * ((n + (J + 2) * (GB J n + 1) + GB J n) + (H + GB J n + Lh) + 1)
def CF (J n H Lh s : Nat) : Nat := (H + GB J n + Lh) + (CE J n H Lh s + (H + n + Lh) + 60) + 1 + (J + 1) * (H + n + Lh + 1) + (H + n + Lh)
end
end Pm
namespace Pm
open PySem Pe Pg Pl
/-! ### answers -/
section
variable {A B N U a b g h : List Rat} {n m L M t J : Nat}
/-- a quotient by a row whose first number that is not 0 is 1 -/
theorem quo_fac_sz (hA : RW n L A) (A0 : A ≠ []) (tg : Tm g) (g0 : g ≠ []) (fg : fnz g = 1) (d : Dv g A) (ht : 4 * L + 3 ≤ 2 ^ t) : RW (2 * n + 2 * (t * L)) L (quoR A g) ∧ RW (n + 2 * (t * L)) L g ∧ quoR A g ≠ [] := by
  have e := quo_mul tg g0 hA.tm d
  have tq := (div_spec A tg g0).2.1
  have q0 : quoR A g ≠ [] := fun z => by
    rw [z] at e
    exact A0 (by rw [← e]; exact ps_zero (tm_mulR _ _) (by rw [ps_mulR, ps_nil]; grind))
  have ml := mulR_length tq tg q0 g0
  rw [e] at ml
  have lA := hA.len
  have gp := List.length_pos_iff.mpr g0
  have qp := List.length_pos_iff.mpr q0
  have sA : Sr n (mulR (lowR (quoR A g)) g) := by
    have : mulR (lowR (quoR A g)) g = lowR A := by
      conv => rhs; rw [← e]
      rw [low_mul tq tg q0 g0, low_self tg fg]
    rw [this]
    exact sr_low hA.tm A0 hA.sr
  have ll : (lowR (quoR A g)).length = (quoR A g).length := sclR_length tq (inv_ne fnz_ne)
  have ml2 := mulR_length (tm_lowR (l := quoR A g)) tg (lowR_ne tq q0) g0
  have s1 := fac_sr (L := L) (t := t) tm_lowR tg (lowR_ne tq q0) g0 (fnz_low tq q0) fg sA (by omega) ht
  have s2 := fac_sr (L := L) (t := t) tg tm_lowR g0 (lowR_ne tq q0) fg (fnz_low tq q0) (by rw [mulR_comm']; exact sA) (by rw [mulR_comm']; omega) ht
  refine ⟨?_, ⟨tg, by omega, s2⟩, q0⟩
  have fA : fnz A = fnz (quoR A g) := by
    have : fnz A = fnz (mulR (quoR A g) g) := by rw [e]
    rw [this, fnz_mul tq tg q0 g0, fg]
    grind
  have r1 : RW (n + 2 * (t * L)) L (lowR (quoR A g)) := ⟨tm_lowR, by omega, s1⟩
  have := r1.scl (sz_fnz hA.sr)
  have eN : quoR A g = sclR (lowR (quoR A g)) (fnz A) := by
    rw [fA]
    unfold lowR
    rw [sclR_scl]
    have : 1 / fnz (quoR A g) * fnz (quoR A g) = 1 := Rat.div_mul_cancel fnz_ne
    rw [this, sclR_one tq]
  rw [← eN] at this
  exact this.mono (by omega) (Nat.le_refl _)
theorem at0_rw {l : List Rat} (h : l ≠ []) : L2.atI (l.map fr) 0 = some (fr (co l 0)) := at_fr (F := l) (k := 0) (List.length_pos_iff.mpr h)
/-- the size of an answer -/
theorem nrm_rw (hA : RW n L A) (hB : RW m L B) (b0 : co B 0 ≠ 0) (t : Nat) (ht : 4 * L + 3 ≤ 2 ^ t) : RW (2 * n + m + 2 * (t * L)) L (nrmN A B) ∧ RW (m + 2 * (t * L)) L (nrmU A B) := (nrm_spec hA.tm hB.tm b0).sz hA hB b0 ht
end
end Pm
namespace Pm
open PySem Pe Pg Pl
/-! ### an answer's numbers, what is an answer -/
theorem rng2_e {i j : Int} {st : Store} : rng2It [.int i, .int j] st = if -(2 ^ 62) ≤ i ∧ i < 2 ^ 62 ∧ -(2 ^ 62) ≤ j ∧ j < 2 ^ 62 then .ok (.fix (rngP i (j - i).toNat)) st else .bad := by unfold rng2It; exact Eq.refl _
theorem get_rng2 {lo : Int} {k i : Nat} {p : PV} (h : (rngP lo k)[i]? = some p) : i < k ∧ p = .int (lo + (i : Int)) := by
  rw [rngP_get] at h
  split at h
  · rename_i hi
    exact ⟨hi, (Option.some.inj h).symm⟩
  · cases h
section
variable {A B N U a b g h : List Rat} {n m L M t J : Nat}
/-- the places from 1 to the lesser one of k and l - 1 -/
theorem rng2_min {k l : Nat} {st : Store} (hk : k ≤ 1000) (hl : l ≤ 1000) (l0 : 0 < l) : rng2It [.int 1, .int ((if (l : Int) - 1 < (k : Int) then (l : Int) - 1 else (k : Int)) + 1)] st = .ok (.fix (rngP 1 (min k (l - 1)))) st := by
  have e : (if (l : Int) - 1 < (k : Int) then (l : Int) - 1 else (k : Int)) = ((min k (l - 1) : Nat) : Int) := by split <;> omega
  rw [e, rng2_e, two62, if_pos ⟨by omega, by omega, by omega, by omega⟩]
  have : (((min k (l - 1) : Nat) : Int) + 1 - 1).toNat = min k (l - 1) := by omega
  rw [this]
theorem dotN_min {f : Nat → Rat} {k : Nat} : ∀ (i : Nat), B.length - 1 ≤ i → dotN B f k i = dotN B f k (B.length - 1)
  | i, h => by
    induction i with
    | zero => rw [show B.length - 1 = 0 by omega]
    | succ i ih =>
      by_cases z : B.length - 1 = i + 1
      · rw [z]
      · show dotN B f k i + co B (i + 1) * _ = _
        rw [ih (by omega), co_big (l := B) (by omega)]
        grind
theorem dotN_le {f : Nat → Rat} {k : Nat} : dotN B f k (min k (B.length - 1)) = dotN B f k k := by
  by_cases z : B.length - 1 ≤ k
  · rw [Nat.min_eq_right z, dotN_min k z]
  · rw [Nat.min_eq_left (by omega)]
theorem sz_dot {f : Nat → Rat} {k s : Nat} (hB : ∀ i, Sz m (co B i)) (hf : ∀ i, i < k → Sz s (f i)) : ∀ i, i ≤ k → Sz (i * (m + s + 1) + 1) (dotN B f k i)
  | 0, _ => sz_zero.mono (by omega)
  | i + 1, hi => by
    refine (sz_add (sz_dot hB hf i (by omega)) (sz_mul (hB (i + 1)) (hf (k - (i + 1)) (by omega)))).mono ?_
    rw [Nat.succ_mul]
    omega
end
end Pm
namespace Pm
open PySem Pe Pg Pl
/-! ### what is an answer -/
section
variable {A B N U a b g h : List Rat} {n m L M t J : Nat}
theorem is_led_by_pu (u0 : co U 0 = 1) : Pu f_is_led_by [rw U] (.bl true) := fun st => by
  have U0 : U ≠ [] := ne_of0 (by rw [u0]; decide)
  have er : rw U = .tup (U.map fr) := rfl
  have e1 : gEq true (rw U) (.tup []) st = .ok (.bl true) st := by rw [gEq_rw_nil]; simp [U0]
  have e2 : gEq false (fr (co U 0)) (.tup [.int 1, .int 1]) st = .ok (.bl true) st := by
    rw [← fr_one, gEq_fr, u0]
    simp
  simp [f_is_led_by, t_is_led_by, e_is_led_by]
  rw [e1]
  simp
  rw [er]
  simp [at0_rw U0]
  rw [e2]
  simp [Up.refl]
theorem is_led_pu [hU : RW m M U] (u0 : co U 0 = 1) (hl : M ≤ 500) : Pu f_is_led [rw U] (.bl true) := fun st => by
  simp [f_is_led, t_is_led, e_is_led]
  refine (is_row_pu hl).go0 .refl ?_
  intro st u
  simp
  refine (is_led_by_pu u0).go0 u ?_
  intro st u
  exact ⟨rfl, u⟩
end
end Pm
namespace Pm
open PySem Pe Pg Pl
/-! ### helms -/
theorem max3_i {i j k : Int} {st : Store} : gMax [.int i, .int j, .int k] st = .ok (.int (if j > i then (if k > j then k else j) else (if k > i then k else i))) st := rfl
/-- the size of a pair -/
theorem len_rw2 {l : List Rat} {st : Store} : gLen [rw l] st = .ok (.int (l.length : Int)) st := by
  show Res.ok (PV.int ((l.map fr).length : Int)) st = _
  rw [List.length_map]
/-- the size of a pair -/
def szP (a b : List Rat) : Nat := max (a.length - 1) (b.length - 1)
section
variable {A B A' B' : List Rat} {n m L M n' m' L' M' : Nat}
theorem is_helm_pu [hA : RW n L A] [hB : RW m M B] (b1 : co B 0 = 1) (hl : L ≤ 500 ∧ M ≤ 500) : Pu f_is_helm [.tup [rw A, rw B]] (.bl true) := fun st => by
  simp [f_is_helm, t_is_helm, e_is_helm, gIsi, kindP, subTy]
  refine (is_row_pu (ha := hA) hl.1).go0 .refl ?_
  intro st u
  simp
  refine (is_led_pu (hU := hB) b1 hl.2).go0 u ?_
  intro st u
  exact ⟨rfl, u⟩
theorem check_helm_pu [hA : RW n L A] [hB : RW m M B] (b1 : co B 0 = 1) (hl : L ≤ 500 ∧ M ≤ 500) : Pu f_check_helm [.tup [rw A, rw B]] .non := fun st => by
  simp [f_check_helm, t_check_helm, e_check_helm]
  refine (is_helm_pu (hA := hA) (hB := hB) b1 hl).go0 .refl ?_
  intro st u
  simp
  exact u
theorem size_by_pu (B0 : B ≠ []) : Pu f_size_by [.tup [rw A, rw B]] (.int (szP A B : Nat)) := fun st => by
  have lenA : ∀ st2 : Store, gLen [rw A] st2 = .ok (.int (A.length : Int)) st2 := fun st2 => len_rw2
  have lenB : ∀ st2 : Store, gLen [rw B] st2 = .ok (.int (B.length : Int)) st2 := fun st2 => len_rw2
  have := List.length_pos_iff.mpr B0
  simp [f_size_by, t_size_by, e_size_by, f_degree_of, t_degree_of, e_degree_of, lenA, lenB, Up.refl, szP]
  split <;> omega
end
end Pm
namespace Pm
open PySem Pe Pg Pl
section
variable {A B A' B' h : List Rat} {n m L : Nat}
end
theorem szl_nums {A B : List Rat} {n m k : Nat} (hA : Sr n A) (hB : Sr m B) (b0 : co B 0 ≠ 0) : SzL (n + m + k * (m + 1)) (numsL A B k) := fun q hq => by
  rw [numsL_eq] at hq
  obtain ⟨i, hi, rfl⟩ := List.mem_map.mp hq
  have hi := List.mem_range.mp hi
  refine (sz_num hA hB b0 i).mono ?_
  have := Nat.mul_le_mul_right (m + 1) (show i ≤ k by omega)
  omega
theorem co_mul0 (a b : List Rat) : co (mulR a b) 0 = co a 0 * co b 0 := by rw [co_mulR]; rfl
theorem mul_ne0 {a b : Rat} (h : a ≠ 0) (h2 : b ≠ 0) : a * b ≠ 0 := fun e => (Rat.mul_eq_zero.mp e).elim h h2
theorem scl_mul (x : Rat) (A h : List Rat) : sclR (mulR A h) x = mulR (sclR h x) A := Tm.eq (tm_sclR _ _) (tm_mulR _ _) (by rw [ps_sclR, ps_mulR, ps_mulR, ps_sclR]; grind)
end Pm
namespace Pm
open PySem Pe Pg Pl
/-! ### answers by the small rows they come from -/
noncomputable def ans (A B : List Rat) : PV := .tup [rw (nrmN A B), rw (nrmU A B)]
structure Or (a K : Nat) (A B : List Rat) : Prop where
  ra : RW a K A
  rb : RW a K B
  b0 : co B 0 ≠ 0
section
variable {A B A' B' X Y N U : List Rat} {n m L a K : Nat}
theorem ans_eq (o : Or a K A B) (o' : Or n L A' B') (e : ps A * ps B' = ps A' * ps B) : ans A B = ans A' B' := by
  obtain ⟨e1, e2⟩ := (nrm_eq o.ra.tm o.rb.tm o.b0 o'.ra.tm o'.rb.tm o'.b0).mpr e
  unfold ans
  rw [e1, e2]
theorem Or.c (o : Or a K A B) : Nrm A B (nrmN A B) (nrmU A B) := nrm_spec o.ra.tm o.rb.tm o.b0
theorem Or.rN (o : Or a K A B) (t : Nat) (ht : 4 * K + 3 ≤ 2 ^ t) : RW (3 * a + 2 * (t * K)) K (nrmN A B) := (nrm_rw o.ra o.rb o.b0 t ht).1.mono (by omega) (Nat.le_refl _)
theorem Or.rU (o : Or a K A B) (t : Nat) (ht : 4 * K + 3 ≤ 2 ^ t) : RW (a + 2 * (t * K)) K (nrmU A B) := (nrm_rw o.ra o.rb o.b0 t ht).2
theorem Or.mono (o : Or a K A B) (h : a ≤ n) (h2 : K ≤ L) : Or n L A B := ⟨o.ra.mono h h2, o.rb.mono h h2, o.b0⟩
theorem Or.dt (o : Or a K A B) (t : Nat) (ht : 4 * K + 3 ≤ 2 ^ t) (h : 3 * a + 2 * (t * K) ≤ 1900) : Dt 3 (2 * (K * (2 * (3 * a + 2 * (t * K)) + 25)) + 20) (ans A B) := by
  have d1 := dt_rw (o.rN t ht) h
  have d2 := dt_rw ((o.rU t ht).mono (show a + 2 * (t * K) ≤ 3 * a + 2 * (t * K) by omega) (Nat.le_refl _)) h
  have d := dt_tup (dts_cons d1 (dts_cons d2 dts_nil))
  exact ⟨d.rd, d.show_, d.can, Nat.le_trans d.depth (by decide), Nat.le_trans d.len (by generalize K * (2 * (3 * a + 2 * (t * K)) + 25) = z; omega)⟩
/-- how many steps a division chain takes -/
theorem def_len {J : Nat} (tX : Tm X) (tY : Tm Y) (y0 : co Y 0 ≠ 0) (c : Nrm X Y N U) (hN : N.length ≤ J + 1) (hU : U.length ≤ J + 1) : X.length ≤ J + (gcdU X Y).length ∧ Y.length ≤ J + (gcdU X Y).length := by
  have Y0 := ne_of0 y0
  obtain ⟨g1, g2, g3, g4, g5, _⟩ := gcdR_spec tX tY (.inr Y0)
  obtain ⟨e1, e2⟩ := nrm_is tX tY y0 c
  have q0 := (nrm_gcd tX tY y0).1
  have lg : (gcdR X Y).length = (gcdU X Y).length := by
    unfold gcdR lowR
    exact sclR_length (gcdU_spec tX tY).1 (inv_ne fnz_ne)
  have one : ∀ {Z : List Rat}, Tm Z → Dv (gcdR X Y) Z → (sclR (quoR Z (gcdR X Y)) (1 / co (quoR Y (gcdR X Y)) 0)).length ≤ J + 1 → Z.length ≤ J + (gcdU X Y).length := fun {Z} tZ d l => by
    have qt := (div_spec Z g1 g2).2.1
    have qm := quo_mul g1 g2 tZ d
    rw [sclR_length qt (inv_ne q0)] at l
    by_cases z : quoR Z (gcdR X Y) = []
    · rw [z] at qm
      have : Z = [] := qm.symm
      rw [this]
      exact Nat.zero_le _
    · have := mulR_length qt g1 z g2
      rw [qm] at this
      omega
  constructor
  · exact one tX g4 (by show (nrmN X Y).length ≤ _; rw [e1]; exact hN)
  · exact one tY g5 (by show (nrmU X Y).length ≤ _; rw [e2]; exact hU)
theorem def_or (o : Or a K A B) (tX : Tm X) (tY : Tm Y) (y0 : co Y 0 ≠ 0) (e : ps X * ps B = ps A * ps Y) (J t : Nat) (ht : 4 * K + 3 ≤ 2 ^ t) (hJ : K ≤ J + 1) : (nrmN X Y = nrmN A B ∧ nrmU X Y = nrmU A B) ∧ X.length ≤ J + (gcdU X Y).length ∧ Y.length ≤ J + (gcdU X Y).length := by
  have q := (nrm_eq tX tY y0 o.ra.tm o.rb.tm o.b0).mpr e
  refine ⟨q, def_len tX tY y0 (nrm_spec tX tY y0) ?_ ?_⟩
  · rw [q.1]
    have := (o.rN t ht).len
    omega
  · rw [q.2]
    have := (o.rU t ht).len
    omega
/-- the numbers a chain needs -/
def Fit (n L a K J t s : Nat) : Prop := 4 * K + 3 ≤ 2 ^ t ∧ K ≤ J + 1 ∧ 4 * L + 3 ≤ 2 ^ s ∧ 20 * (n + n + s * L) + 1000 ≤ 400000 ∧ L ≤ 150 ∧ EB J n + 4 ≤ 900000 ∧ 2 * (GB J n + 2) + 2 ≤ 900000
instance {J t s : Nat} : Decidable (Fit n L a K J t s) := inferInstanceAs (Decidable (4 * K + 3 ≤ 2 ^ t ∧ K ≤ J + 1 ∧ 4 * L + 3 ≤ 2 ^ s ∧ 20 * (n + n + s * L) + 1000 ≤ 400000 ∧ L ≤ 150 ∧ EB J n + 4 ≤ 900000 ∧ 2 * (GB J n + 2) + 2 ≤ 900000))
theorem Or.cross (o : Or a K A B) : ps (nrmN A B) * ps B = ps A * ps (nrmU A B) := by
  have h := o.c.cross
  grind
theorem Or.u0 (o : Or a K A B) : co (nrmU A B) 0 = 1 := o.c.u0
theorem Or.une (o : Or a K A B) : co (nrmU A B) 0 ≠ 0 := by rw [o.c.u0]; decide
end
end Pm
namespace Pm
open PySem Pe Pg Pl
/-! ### sums, products and quotients of answers -/
section
variable {A B A' B' C D : List Rat} {a K a' K' b M : Nat}
theorem mul1 {x y : Rat} (h : x = 1) (h2 : y = 1) : x * y ≠ 0 := by rw [h, h2]; decide +kernel
section
variable {n L J t s : Nat}
end
end
end Pm
namespace Pm
open PySem Pe Pg Pl
theorem zip_view {n m : Nat} {xs ys : List PV} {i : Nat} {st : Store} (h1 : listAt st n = some xs) (h2 : listAt st m = some ys) : zipV n m i st = some (List.zipWith (fun p q => PV.tup [p, q]) xs ys)[i]? := by
  unfold zipV
  rw [h1, h2, List.getElem?_zipWith]
  dsimp only
  generalize xs[i]? = a
  generalize ys[i]? = c
  cases a <;> cases c <;> rfl
section
variable {l : List Rat} {n m : Nat} {b : Rat} {st : Store} {D : Nat}
end
theorem lt1_iff {k : Rat} : Lt1 k ↔ k.num.natAbs < k.den := by
  unfold Lt1
  rw [Rat.lt_iff, Rat.lt_iff]
  show (-1 : Int) * _ < k.num * 1 ∧ k.num * 1 < 1 * (k.den : Int) ↔ _
  omega
/-- bends as a value -/
def bv : Option (List Rat) → PV
  | none => .non
  | some l => rw l
theorem fr_lit (k : Rat) : fr k = .tup [.int k.num, .int (k.den : Int)] := rfl
theorem fr_i0 {k : Rat} {st : Store} : gIdx (fr k) (.int 0) st = .ok (.int k.num) st := rfl
theorem fr_i1 {k : Rat} {st : Store} : gIdx (fr k) (.int 1) st = .ok (.int (k.den : Int)) st := rfl
theorem isn_non {st : Store} : gOp .IsNot .non .non st = .ok (.bl false) st := rfl
theorem isn_tup {ps : List PV} {st : Store} : gOp .IsNot (.tup ps) .non st = .ok (.bl true) st := rfl
end Pm
namespace Pm
open PySem Pe Pg Pl
/-! ### machines -/
section
variable {A B a b g : List Rat} {n m L M : Nat}
theorem is_machine_pu [hA : RW n L A] [hB : RW m M B] (b1 : co B 0 = 1) (A0 : A ≠ []) (a0 : co A 0 = 0) (hl : L ≤ 500 ∧ M ≤ 500) : Pu f_is_machine [.tup [rw A, rw B]] (.bl true) := fun st => by
  have er : rw A = .tup (A.map fr) := rfl
  have hat : L2.atI (A.map fr) 0 = some (fr (co A 0)) := at_fr (F := A) (k := 0) (List.length_pos_iff.mpr A0)
  have i0 : ∀ st2 : Store, gIdx (rw A) (.int 0) st2 = .ok (fr (co A 0)) st2 := fun st2 => by
    rw [er]
    simp [hat]
  have e0 : ∀ st2 : Store, gEq false (fr (co A 0)) (.tup [.int 0, .int 1]) st2 = .ok (.bl true) st2 := fun st2 => by
    rw [← fr_zero, gEq_fr]
    simp [a0]
  simp [f_is_machine, t_is_machine, e_is_machine, gIsi, kindP, subTy]
  refine (is_row_pu (ha := hA) hl.1).go0 .refl ?_
  intro st u
  simp
  refine (is_led_pu (hU := hB) b1 hl.2).go0 u ?_
  intro st u
  simp [gEq_rw_nil, A0, i0, e0, u]
theorem check_machine_pu [hA : RW n L A] [hB : RW m M B] (b1 : co B 0 = 1) (A0 : A ≠ []) (a0 : co A 0 = 0) (hl : L ≤ 500 ∧ M ≤ 500) : Pu f_check_machine [.tup [rw A, rw B]] .non := fun st => by
  simp [f_check_machine, t_check_machine, e_check_machine]
  refine (is_machine_pu (hA := hA) (hB := hB) b1 A0 a0 hl).go0 .refl ?_
  intro st u
  simp
  exact u
end
end Pm
namespace Pm
open PySem Pe Pg Pl
/-! ### the law's draws -/
@[simp] theorem at2 {α : Type} {x y z : α} {r : List α} : L2.atI (x :: y :: z :: r) 2 = some z := by
  unfold L2.atI L2.ixN
  have : (2 : Int) < (r.length : Int) + 1 + 1 + 1 := by omega
  simp [this]
theorem setL_r {n : Nat} {F : List PV} {i : Int} {p : PV} {st : Store} (h : st[n]? = some (.lst F)) : setL (.ref n) (.int i) p st = match L2.ixN F.length i with
    | some j => .ok () (st.set n (.lst (F.set j p)))
    | none => .bad := by
  unfold setL
  simp only [h] <;> rfl
theorem listAt_set {n : Nat} {xs : List PV} {st : Store} (h : n < st.length) : listAt (st.set n (.lst xs)) n = some xs := listAt_of (by rw [List.getElem?_set_self h])
theorem get_set {n : Nat} {o : Ob} {st : Store} (h : n < st.length) : (st.set n o)[n]? = some o := List.getElem?_set_self h
theorem small_mod (x : Int) : (x % 2147483497).natAbs < 18446744073709551616 := by
  have h1 := Int.emod_nonneg x (show (2147483497 : Int) ≠ 0 by omega)
  have h2 := Int.emod_lt_of_pos x (show (0 : Int) < 2147483497 by omega)
  omega
@[simp] theorem ix30 : L2.ixN 3 0 = some 0 := rfl
@[simp] theorem ix31 : L2.ixN 3 1 = some 1 := rfl
@[simp] theorem ix32 : L2.ixN 3 2 = some 2 := rfl
section
variable {n : Nat} {st : Store}
theorem pull_ok {many : Int} (h : Reel n st) (h0 : 0 < many) (h1 : many < 1073741824) : Rn (f__law_pull [.ref n, .int many] st) fun p st' => ∃ d : Int, p = .int d ∧ 0 ≤ d ∧ d < many ∧ Up [n] st st' ∧ Reel n st' := by
  obtain ⟨a, b, c, e, z⟩ := h
  have hn := lt_of_get e
  simp [f__law_pull, t__law_pull, e__law_pull, listAt_of e]
  by_cases ha : 0 < a
  · simp [ha, gDivmod, h0, h1, setL_r e, listAt_of e]
    exact ⟨Int.emod_nonneg _ (by omega), Int.emod_lt_of_pos _ h0, Up.set (by simp), ⟨a / many, b, c, by rw [List.getElem?_set_self hn], Int.ediv_nonneg z (by omega)⟩⟩
  · simp [ha, listAt_of e, setL_r e, listAt_set hn, small_mod, setL_r (get_set hn), h0]
    exact ⟨Int.emod_nonneg _ (by omega), Int.emod_lt_of_pos _ h0, Up.set (by simp), ⟨a, _, c + 1, by rw [List.getElem?_set_self hn], z⟩⟩
/-! the law's own fractions -/
theorem euclid_loop {g : Nat} {r0 r1 : Option PV} {st0 : Store} : ∀ (y x : Nat) (n : Nat) (ρ : Pe.Env), y < n → ρ = [r0, r1, some (.int (x : Int)), some (.int (y : Int))] → Nat.gcd x y = g →
    Rn (whileN (xTb (xBin (gOp .NotEq) (xLoc 3) (xC (.int 0)))) (sSeq (sPar [2, 3] (xCons (xLoc 3) (xCons (xBin (gBin .Mod) (xCall gInt (xCons (xLoc 2) xNil)) (xLoc 3)) xNil))) sNil) n ρ st0) fun r st' => r = (Fl.nx, [r0, r1, some (.int (g : Int)), some (.int 0)]) ∧ st' = st0 := by
  intro y
  induction y using Nat.strongRecOn with
  | ind y ih =>
    intro x n ρ hn hρ hg
    subst hρ
    obtain ⟨m, rfl⟩ : ∃ m, n = m + 1 := ⟨n - 1, by omega⟩
    unfold whileN
    by_cases hy : y = 0
    · subst hy
      have : x = g := by rw [← hg, Nat.gcd_zero_right]
      subst this
      simp
    · have h0 : (0 : Int) < (y : Int) := by omega
      have e : ((x : Int) % (y : Int)) = ((x % y : Nat) : Int) := by omega
      have hlt := Nat.mod_lt x (show 0 < y by omega)
      simp [hy, h0]
      refine ⟨by omega, ?_⟩
      have := ih (x % y) hlt y m [r0, r1, some (.int (y : Int)), some (.int ((x % y : Nat) : Int))] (by omega) rfl (by rw [← hg, Nat.gcd_comm, ← Nat.gcd_rec, Nat.gcd_comm])
      simpa using this
theorem law_lowest_ok {x d : Int} (hd : 0 < d) (hs : d.natAbs < 2 ^ 1000000) : Rn (f__law_lowest [.int x, .int d] st) fun p st' => p = fr (Rat.normalize x d.natAbs (by omega)) ∧ Up [] st st' := by
  have ea : (if x < 0 then -x else x) = ((x.natAbs : Nat) : Int) := by split <;> omega
  have eb : (if d < 0 then -d else d) = ((d.natAbs : Nat) : Int) := by split <;> omega
  have g0 : 0 < Nat.gcd x.natAbs d.natAbs := Nat.gcd_pos_of_pos_right _ (by omega)
  have g1 : (0 : Int) < (Nat.gcd x.natAbs d.natAbs : Int) := by omega
  have ed : ((d.natAbs : Nat) : Int) = d := by omega
  simp [f__law_lowest, t__law_lowest, e__law_lowest, sWh]
  rw [ea, eb]
  refine (euclid_loop d.natAbs x.natAbs fuel _ (fuel_big hs) rfl rfl).imp ?_
  rintro r st' ⟨rfl, rfl⟩
  have hd' : ¬ d = 0 := by omega
  simp [hd, hd', g1, sizeLine]
  refine ⟨?_, Up.refl⟩
  rw [← fr_norm, ed]
section
variable {a b : Rat} {n m : Nat}
theorem law_plus_ok (ha : Sz n a) (hb : Sz m b) (h : n + m ≤ 900000) : Rn (f__law_plus [fr a, fr b] st) fun p st' => p = fr (a + b) ∧ Up [] st st' := by
  have h1 := mul_bits ha.1 hb.den h
  have h2 := mul_bits hb.1 ha.den (by omega)
  have h3 := mul_bits ha.den hb.den h
  simp only [Int.natAbs_natCast] at h1 h2 h3
  simp [f__law_plus, t__law_plus, e__law_plus, fr, h1, h2, h3]
  refine (law_lowest_ok den_pos (den_lt ha hb h)).imp ?_
  rintro p st' ⟨rfl, u⟩
  refine ⟨?_, u⟩
  rw [Rat.add_def]
  simp only [den_abs, fr]
theorem law_times_ok (ha : Sz n a) (hb : Sz m b) (h : n + m ≤ 900000) : Rn (f__law_times [fr a, fr b] st) fun p st' => p = fr (a * b) ∧ Up [] st st' := by
  have h1 := mul_bits ha.1 hb.1 h
  have h3 := mul_bits ha.den hb.den h
  simp only [Int.natAbs_natCast] at h1 h3
  simp [f__law_times, t__law_times, e__law_times, fr, h1, h3]
  refine (law_lowest_ok den_pos (den_lt ha hb h)).imp ?_
  rintro p st' ⟨rfl, u⟩
  refine ⟨?_, u⟩
  rw [Rat.mul_def]
  simp only [den_abs, fr]
end
theorem law_lowest_neg {x d : Int} (hd : d < 0) (hs : d.natAbs < 2 ^ 1000000) : Rn (f__law_lowest [.int x, .int d] st) fun p st' => p = fr (Rat.normalize (-x) d.natAbs (by omega)) ∧ Up [] st st' := by
  have ea : (if x < 0 then -x else x) = ((x.natAbs : Nat) : Int) := by split <;> omega
  have eb : (if d < 0 then -d else d) = ((d.natAbs : Nat) : Int) := by split <;> omega
  have g0 : 0 < Nat.gcd x.natAbs d.natAbs := Nat.gcd_pos_of_pos_right _ (by omega)
  have g1 : (0 : Int) < (Nat.gcd x.natAbs d.natAbs : Int) := by omega
  have ed : ((d.natAbs : Nat) : Int) = -d := by omega
  simp [f__law_lowest, t__law_lowest, e__law_lowest, sWh]
  rw [ea, eb]
  refine (euclid_loop d.natAbs x.natAbs fuel _ (fuel_big hs) rfl rfl).imp ?_
  rintro r st' ⟨rfl, rfl⟩
  have hd' : ¬ d = 0 := by omega
  have hd2 : ¬ 0 < d := by omega
  have hd3 : d ≤ 0 := by omega
  simp [hd, hd', hd2, hd3, g1, sizeLine]
  refine ⟨?_, Up.refl⟩
  have dx : (Nat.gcd x.natAbs d.natAbs : Int) ∣ x := by
    rw [← Int.natAbs_dvd_natAbs]
    simpa using Nat.gcd_dvd_left x.natAbs d.natAbs
  have dd : (Nat.gcd x.natAbs d.natAbs : Int) ∣ d := by
    rw [← Int.natAbs_dvd_natAbs]
    simpa using Nat.gcd_dvd_right x.natAbs d.natAbs
  rw [← fr_norm, ed, Int.natAbs_neg, Int.neg_ediv_of_dvd dx, Int.neg_ediv_of_dvd dd]
section
variable {a b : Rat} {n m : Nat}
theorem law_minus_ok (ha : Sz n a) (hb : Sz m b) (h : n + m ≤ 900000) : Rn (f__law_minus [fr a, fr b] st) fun p st' => p = fr (a - b) ∧ Up [] st st' := by
  have h1 := mul_bits ha.1 hb.den h
  have h2 := mul_bits hb.1 ha.den (by omega)
  have h3 := mul_bits ha.den hb.den h
  simp only [Int.natAbs_natCast] at h1 h2 h3
  simp [f__law_minus, t__law_minus, e__law_minus, fr, h1, h2, h3]
  refine (law_lowest_ok den_pos (den_lt ha hb h)).imp ?_
  rintro p st' ⟨rfl, u⟩
  refine ⟨?_, u⟩
  rw [Rat.sub_def]
  simp only [den_abs, fr]
theorem law_over_ok (ha : Sz n a) (hb : Sz m b) (h0 : b ≠ 0) (h : n + m ≤ 900000) : Rn (f__law_over [fr a, fr b] st) fun p st' => p = fr (a / b) ∧ Up [] st st' := by
  have h1 := mul_bits ha.1 hb.den h
  have h2 := mul_bits ha.den hb.1 h
  simp only [Int.natAbs_natCast] at h1 h2
  have hbn : b.num ≠ 0 := fun e => h0 (Rat.num_eq_zero.mp e)
  have hd : (a.den : Int) * b.num ≠ 0 := Int.mul_ne_zero (by have := a.den_nz; omega) hbn
  have hs : ((a.den : Int) * b.num).natAbs < 2 ^ 1000000 := by
    rw [Int.natAbs_mul]
    exact Nat.lt_of_lt_of_le (mul_lt ha.den hb.1) (Nat.pow_le_pow_right (by omega) (by omega))
  simp [f__law_over, t__law_over, e__law_over, fr, h1, h2]
  by_cases hp : 0 < (a.den : Int) * b.num
  · refine (law_lowest_ok hp hs).imp ?_
    rintro p st' ⟨rfl, u⟩
    refine ⟨?_, u⟩
    rw [div_eq, div_norm hd, if_pos hp]
    rfl
  · refine (law_lowest_neg (by omega) hs).imp ?_
    rintro p st' ⟨rfl, u⟩
    refine ⟨?_, u⟩
    rw [div_eq, div_norm hd, if_neg hp]
    rfl
end
/-- a small fraction -/
def Sm (q : Rat) : Prop := Sz 5 q ∧ ∃ z : Int, q * ((60 : Nat) : Rat) = (z : Rat) ∧ z.natAbs ≤ 720
theorem sm_of {x : Int} {y : Nat} (hy : y ≠ 0) (h5 : y ≤ 5) (hx : x.natAbs ≤ 12) : Sm (Rat.normalize x y hy) := by
  refine ⟨sz_norm hy (Nat.lt_of_le_of_lt hx (by decide)) (Nat.lt_of_le_of_lt h5 (by decide)), ?_⟩
  have e : Rat.normalize x y hy * (y : Rat) = (x : Rat) := by
    rw [Rat.normalize_eq_mkRat hy, Rat.mkRat_eq_div]
    refine Rat.div_mul_cancel fun e => ?_
    have h1 : (y : Rat).num = 0 := by rw [e]; rfl
    simp at h1
    exact hy h1
  generalize Rat.normalize x y hy = q at e ⊢
  obtain ⟨k, hk, hk2⟩ : ∃ k : Nat, y * k = 60 ∧ k ≤ 60 := by
    have : y = 1 ∨ y = 2 ∨ y = 3 ∨ y = 4 ∨ y = 5 := by omega
    rcases this with rfl | rfl | rfl | rfl | rfl
    · exact ⟨60, rfl, by omega⟩
    · exact ⟨30, rfl, by omega⟩
    · exact ⟨20, rfl, by omega⟩
    · exact ⟨15, rfl, by omega⟩
    · exact ⟨12, rfl, by omega⟩
  refine ⟨x * (k : Int), ?_, ?_⟩
  · rw [← hk, Rat.natCast_mul, Rat.intCast_mul, Rat.intCast_natCast, ← e]
    grind
  · rw [Int.natAbs_mul, Int.natAbs_natCast]
    exact Nat.le_trans (Nat.mul_le_mul hx hk2) (by omega)
theorem sm_int {x : Int} (hx : x.natAbs ≤ 12) : Sm (x : Rat) := by
  have := sm_of (y := 1) (by omega) (by omega) hx
  have e : Rat.normalize x 1 (by omega) = (x : Rat) := by
    rw [Rat.normalize_eq_mkRat, Rat.mkRat_eq_div]
    show (x : Rat) / 1 = _
    grind
  rwa [e] at this
theorem part_ok (h : Reel n st) : Rn (f__law_part [.ref n] st) fun p st' => (∃ q, p = fr q ∧ Sm q) ∧ Up [n] st st' ∧ Reel n st' := by
  simp [f__law_part, t__law_part, e__law_part]
  refine (pull_ok h (by omega) (by omega)).imp ?_
  rintro p st1 ⟨d, rfl, d0, d1, u1, h1⟩
  by_cases hd : d = 0
  · simp [hd]
    refine (pull_ok h1 (by omega) (by omega)).imp ?_
    rintro p st2 ⟨x, rfl, x0, x1, u2, h2⟩
    simp [sizeLine]
    exact ⟨⟨((x - 4 : Int) : Rat), rfl, sm_int (by omega)⟩, u1.trans u2, h2⟩
  · simp [hd]
    refine (pull_ok h1 (by omega) (by omega)).imp ?_
    rintro p st2 ⟨x, rfl, x0, x1, u2, h2⟩
    simp
    refine (pull_ok h2 (by omega) (by omega)).imp ?_
    rintro p st3 ⟨y, rfl, y0, y1, u3, h3⟩
    simp
    refine (law_lowest_ok (by omega) (Nat.lt_of_lt_of_le (show (1 + y).natAbs < 2 ^ 5 by omega) (Nat.pow_le_pow_right (by omega) (by omega)))).imp ?_
    rintro p st4 ⟨rfl, u4⟩
    exact ⟨⟨_, rfl, sm_of _ (by omega) (by omega)⟩, ((u1.trans u2).trans u3).trans u4.weak, h3.up u4⟩
theorem some_ok (h : Reel n st) : Rn (f__law_some [.ref n] st) fun p st' => (∃ q, p = fr q ∧ Sm q ∧ q ≠ 0) ∧ Up [n] st st' ∧ Reel n st' := by
  simp [f__law_some, t__law_some, e__law_some]
  refine (part_ok h).imp ?_
  rintro p st1 ⟨⟨q, rfl, hq⟩, u, h1⟩
  by_cases hz : q.num = 0
  · simp [fr, hz, sizeLine]
    exact ⟨⟨1, ⟨rfl, rfl⟩, sm_int (x := 1) (by omega), by decide⟩, u, h1⟩
  · simp [fr, hz]
    exact ⟨⟨q, ⟨rfl, rfl⟩, hq, fun e => hz (by rw [e]; rfl)⟩, u, h1⟩
end
section
variable {x y : Rat} {n m : Nat}
theorem law_plus_pu (hx : Sz n x) (hy : Sz m y) (h : n + m ≤ 900000) : Pu f__law_plus [fr x, fr y] (fr (x + y)) := fun st => law_plus_ok hx hy h
theorem law_minus_pu (hx : Sz n x) (hy : Sz m y) (h : n + m ≤ 900000) : Pu f__law_minus [fr x, fr y] (fr (x - y)) := fun st => law_minus_ok hx hy h
theorem law_times_pu (hx : Sz n x) (hy : Sz m y) (h : n + m ≤ 900000) : Pu f__law_times [fr x, fr y] (fr (x * y)) := fun st => law_times_ok hx hy h
theorem law_over_pu (hx : Sz n x) (hy : Sz m y) (h0 : y ≠ 0) (h : n + m ≤ 900000) : Pu f__law_over [fr x, fr y] (fr (x / y)) := fun st => law_over_ok hx hy h0 h
theorem pull_dr {n : Nat} {many : Int} (h0 : 0 < many) (h1 : many < 1073741824) : Dr n f__law_pull [.ref n, .int many] fun v => ∃ d : Int, v = .int d ∧ 0 ≤ d ∧ d < many := fun st h =>
  (pull_ok h h0 h1).imp fun v st' ⟨d, e, d0, d1, u, r⟩ => ⟨⟨d, e, d0, d1⟩, u, r⟩
theorem part_dr {n : Nat} : Dr n f__law_part [.ref n] fun v => ∃ q, v = fr q ∧ Sm q := fun st h => part_ok h
theorem some_dr {n : Nat} : Dr n f__law_some [.ref n] fun v => ∃ q, v = fr q ∧ Sm q ∧ q ≠ 0 := fun st h => some_ok h
theorem sr_sm {l : List Rat} (h : ∀ q ∈ l, Sm q) : Sr 10 l := ⟨60, 720, by decide, by decide, by decide, fun i => by
  unfold co
  cases e : l[i]? with
  | none => exact ⟨0, by show (0 : Rat) * _ = _; grind, by simp⟩
  | some q => exact (h q (List.mem_of_getElem? e)).2⟩
end
end Pm
namespace Pm
open PySem Pe Pg Pl
/-! ### the law's rows -/
def Sq (st : Store) (p : PV) (l : List Rat) : Prop := p = rw l ∨ ∃ n, p = .ref n ∧ listAt st n = some (l.map fr)
section
variable {st : Store} {p : PV} {l : List Rat}
theorem Sq.len (h : Sq st p l) : gLen [p] st = .ok (.int (l.length : Int)) st := by
  rcases h with rfl | ⟨n, rfl, e⟩
  · simp [rw]
  · simp [e]
theorem Sq.idx (h : Sq st p l) {k : Nat} (hk : k < l.length) : gIdx p (.int (k : Int)) st = .ok (fr (co l k)) st := by
  rcases h with rfl | ⟨n, rfl, e⟩
  · unfold rw
    rw [idx_t, at_fr hk]
  · rw [idx_r, e]
    simp only [at_fr hk]
theorem cut_to {α : Type} {xs : List PV} {k : Nat} (hk : k ≤ xs.length) : cutP xs none (some (k : Int)) = xs.take k := by
  have e1 : HT.sIx xs.length 0 none = 0 := rfl
  have e2 : HT.sIx xs.length xs.length (some (k : Int)) = k := by rw [HT.sIx_nat]; omega
  unfold cutP
  rw [e1, e2]
  simp
theorem Sq.cut (h : Sq st p l) {k : Nat} (hk : k ≤ l.length) : Rn (gCut p none (some (k : Int)) st) fun q st' => gTuple [q] st' = .ok (rw (l.take k)) st' ∧ Up [] st st' := by
  have e : cutP (l.map fr) none (some (k : Int)) = (l.take k).map fr := by rw [cut_to (α := Rat) (by simpa using hk), List.map_take]
  rcases h with rfl | ⟨n, rfl, e1⟩
  · unfold rw gCut
    simp only [rn_ok, e]
    exact ⟨rfl, .refl⟩
  · unfold gCut
    simp only [e1, e, newL_e, rn_ok, tuple_r, listAt_new]
    exact ⟨rfl, Up.app _⟩
theorem law_trim_ok (h : Sq st p l) (hl : l.length ≤ 1000) : Rn (f__law_trim [p] st) fun q st' => q = rw (trim l) ∧ Up [] st st' := by
  simp [f__law_trim, t__law_trim, e__law_trim, sFor, h.len]
  rw [rng1_ok (by rw [line_eq]; omega)]
  simp only [rn_ok]
  refine (forL_rule (Q := fun r st' => r.1 = Fl.nx ∧ (∃ k x2, r.2 = [some p, some (.int ((k : Nat) : Int)), x2] ∧ k ≤ l.length ∧ l.take k = trim l) ∧ st' = st)
    (fun i ρ st' => (∃ x2, ρ = [some p, some (.int ((l.length - i : Nat) : Int)), x2]) ∧ trim (l.take (l.length - i)) = trim l ∧ st' = st) ?_ ?_ ?_).imp ?_
  · rintro ρ st' ⟨⟨x2, rfl⟩, h1, rfl⟩
    have e : (rngP 0 l.length).length = l.length := by simp [rngP]
    rw [e, Nat.sub_self] at h1
    refine ⟨rfl, ⟨0, x2, by rw [e]; simp, by omega, h1⟩, rfl⟩
  · rintro i q ρ st' hq ⟨⟨x2, rfl⟩, h1, rfl⟩
    have hi : i < l.length := by
      rw [rngP_get] at hq
      split at hq
      · assumption
      · cases hq
    have e1 : ((l.length - i : Nat) : Int) - 1 = ((l.length - (i + 1) : Nat) : Int) := by omega
    have e2 := h.idx (k := l.length - (i + 1)) (by omega)
    have e3 : l.take (l.length - i) = l.take (l.length - (i + 1)) ++ [co l (l.length - (i + 1))] := by
      have : l.length - i = l.length - (i + 1) + 1 := by omega
      rw [this, List.take_succ, List.getElem?_eq_getElem (by omega), co_of (List.getElem?_eq_getElem (by omega))]
      rfl
    simp only [g_nm, Res.bind_ok, s_seq, s_if, tt_tb, x_tb, te_cmp, te_idx, te_bin, te_loc, te_c, x_bin, x_loc, x_c, List.set_cons_succ, List.set_cons_zero, List.getElem?_cons_zero, List.getElem?_cons_succ, b_sub, sub_i, e1, e2, rn_bind, rn_ok, fr, idx_t, at0, o_ne, eq_i, if_true, rn_ite, s_bk, s_nil, s_as, b_sub]
    by_cases hz : (co l (l.length - (i + 1))).num = 0
    · simp [hz]
      rw [e3, trim_snoc, if_pos (Rat.num_eq_zero.mp hz)] at h1
      exact h1
    · simp [hz]
      refine ⟨l.length - i, by omega, by omega, ?_⟩
      rw [e3, trim_snoc, if_neg (fun e => hz (by rw [e]; rfl))] at h1
      rw [e3]
      exact h1
  · exact ⟨⟨none, by simp⟩, by simp, rfl⟩
  · rintro ⟨fl, ρ⟩ st' ⟨h0, ⟨k, x2, h1, h2, h3⟩, e0⟩
    subst e0
    simp only at h0 h1
    subst h0 h1
    simp
    refine (h.cut h2).imp ?_
    rintro q st2 ⟨e, u⟩
    rw [e]
    simp
    exact ⟨congrArg rw h3, u⟩
theorem law_at_ok {k : Nat} : f__law_at [rw l, .int (k : Int)] st = .ok (fr (co l k)) st := by
  have er : rw l = .tup (l.map fr) := rfl
  have h0 : (0 : Int) ≤ (k : Int) := by omega
  by_cases h : k < l.length
  · simp [f__law_at, t__law_at, e__law_at, xChain, er, h, h0, at_fr h]
  · simp [f__law_at, t__law_at, e__law_at, xChain, er, h, h0, sizeLine]
    rw [co_big (by omega), fr_zero]
section
variable {a b : List Rat} {n m : Nat} {x : Rat}
theorem law_sum_ok (ha : SzL n a) (hb : SzL m b) (hn : 1 ≤ n) (hm : 1 ≤ m) (hs : n + m ≤ 900000) (la : a.length ≤ 1000) (lb : b.length ≤ 1000) : Rn (f__law_sum [rw a, rw b] st) fun p st' => p = rw (addR a b) ∧ Up [] st st' := by
  have hl : max a.length b.length ≤ 1000 := by omega
  have hma := max_nat (x := a.length) (y := b.length)
  have er : rw a = .tup (a.map fr) := rfl
  have er2 : rw b = .tup (b.map fr) := rfl
  simp [-comp_e, f__law_sum, t__law_sum, e__law_sum]
  refine (comp_range (max a.length b.length) (fun i => fr (co a i + co b i)) (by rw [line_eq]; omega) ?_ fun i st2 hi u => ?_).imp ?_
  · simp [er, er2, hma]
    exact rng1_ok (by rw [line_eq]; omega)
  · simp [bodyC, law_at_ok]
    exact law_plus_ok (ha.co hn i) (hb.co hm i) hs
  · rintro p st' ⟨rfl, h1, u⟩
    have e : (List.range (max a.length b.length)).map (fun i => fr (co a i + co b i)) = ((List.range (max a.length b.length)).map (fun i => co a i + co b i)).map fr := by rw [List.map_map]; rfl
    rw [e] at h1
    refine (law_trim_ok (.inr ⟨_, rfl, listAt_of h1⟩) (by simpa using hl)).imp ?_
    rintro p st2 ⟨rfl, u2⟩
    refine ⟨congrArg rw (trim_eq fun i => ?_), u.trans u2⟩
    rw [co_map fun i hi => by rw [co_big (by omega), co_big (by omega)]; grind, co_addL]
end
end
end Pm
namespace Pm
open PySem Pe Pg Pl
theorem sz_scl {l : List Rat} {x : Rat} {n m : Nat} (h : SzL n l) (hx : Sz m x) : SzL (n + m) (sclR l x) := SzL.trim fun q hq => by
  obtain ⟨y, hy, rfl⟩ := List.mem_map.mp hq
  exact (sz_mul hx (h y hy)).mono (by omega)
theorem ps_scl_neg (l : List Rat) : ps (sclR l (-1)) = -ps l := by unfold sclR; rw [ps_trim]; exact ps_negL l
section
variable {a b : List Rat} {n m : Nat} {x : Rat} {st : Store}
theorem law_scaled_ok (ha : SzL n a) (hx : Sz m x) (hs : n + m ≤ 900000) (la : a.length ≤ 1000) : Rn (f__law_scaled [rw a, fr x] st) fun p st' => p = rw (sclR a x) ∧ Up [] st st' := by
  simp [-comp_e, f__law_scaled, t__law_scaled, e__law_scaled]
  refine (comp_seq (fun i => fr (co a i * x)) (qs := a.map fr) (by rw [List.length_map, line_eq]; omega) rfl fun i p st2 hp u => ?_).imp ?_
  · obtain ⟨hi, rfl⟩ := get_fr hp
    simp [bodyC]
    have : Sz n (co a i) := by rw [co_of (List.getElem?_eq_getElem hi)]; exact ha _ (List.getElem_mem hi)
    exact law_times_ok this hx hs
  · rintro p st' ⟨rfl, h1, u⟩
    have e : (List.range (a.map fr).length).map (fun i => fr (co a i * x)) = ((List.range a.length).map (fun i => co a i * x)).map fr := by rw [List.map_map, List.length_map]; rfl
    rw [e] at h1
    refine (law_trim_ok (.inr ⟨_, rfl, listAt_of h1⟩) (by simpa using la)).imp ?_
    rintro p st2 ⟨rfl, u2⟩
    refine ⟨congrArg rw (trim_eq fun i => ?_), u.trans u2⟩
    rw [co_map fun i hi => by rw [co_big (by omega)]; grind, co_smul]
    grind
theorem fr_neg : fr (-1) = .tup [.int (-1), .int 1] := rfl
theorem law_less_ok (ha : SzL n a) (hb : SzL m b) (hn : 1 ≤ n) (hm : 1 ≤ m) (hs : n + m + 2 ≤ 900000) (la : a.length ≤ 1000) (lb : b.length ≤ 1000) : Rn (f__law_less [rw a, rw b] st) fun p st' => p = rw (subR a b) ∧ Up [] st st' := by
  simp [f__law_less, t__law_less, e__law_less, sizeLine]
  rw [← fr_neg]
  refine (law_scaled_ok hb sz_neg (by omega) lb).imp ?_
  rintro p st1 ⟨rfl, u⟩
  refine (law_sum_ok ha (sz_scl hb sz_neg) hn (by omega) (by omega) la (Nat.le_trans sclR_len lb)).imp ?_
  rintro p st2 ⟨rfl, u2⟩
  refine ⟨congrArg rw (Tm.eq (tm_addR _ _) (tm_subR _ _) ?_), u.trans u2⟩
  rw [ps_addR, ps_subR, ps_scl_neg]
  grind
theorem law_product_ok (ha : Sr n a) (hb : Sr m b) (la : a.length ≤ 400) (lb : b.length ≤ 400) (hs : 2 * (n + m) + a.length + 1 ≤ 900000) : Rn (f__law_product [rw a, rw b] st) fun p st' => p = rw (mulR a b) ∧ Up [] st st' := by
  have er : rw a = .tup (a.map fr) := rfl
  have er2 : rw b = .tup (b.map fr) := rfl
  have hmul : ∀ st2 : Store, st2[st.length]? = some (.lst [PV.tup [.int 0, .int 1]]) → gMul (.ref st.length) (.int ((a.length : Int) + (b.length : Int))) st2 = .ok (.ref st2.length) (st2 ++ [Ob.lst ((List.replicate (a.length + b.length) (0 : Rat)).map fr)]) := fun st2 h2 => by
    unfold gMul
    simp only [h2]
    have e1 : ((a.length : Int) + (b.length : Int)).toNat = a.length + b.length := by omega
    have e63 : (2 : Int) ^ 63 = 9223372036854775808 := rfl
    rw [e63, e1, line_eq, if_pos ⟨by omega, by omega, by simp; omega⟩]
    unfold newL
    have e2 : (List.replicate (a.length + b.length) [PV.tup [PV.int 0, PV.int 1]]).flatten = (List.replicate (a.length + b.length) (0 : Rat)).map fr := by
      rw [List.map_replicate, fr_zero]
      generalize a.length + b.length = k
      induction k with
      | zero => rfl
      | succ k ih => rw [List.replicate_succ, List.flatten_cons, ih, List.replicate_succ]; rfl
    rw [e2]
  have r1 : ∀ st2 : Store, rng1It [.int (a.length : Int)] st2 = .ok (.fix (rngP 0 a.length)) st2 := fun st2 => rng1_ok (by rw [line_eq]; omega)
  have r2 : ∀ st2 : Store, rng1It [.int (b.length : Int)] st2 = .ok (.fix (rngP 0 b.length)) st2 := fun st2 => rng1_ok (by rw [line_eq]; omega)
  simp [f__law_product, t__law_product, e__law_product, er, er2, sizeLine]
  rw [hmul _ get_new]
  simp only [rn_ok]
  generalize hst0 : st ++ [Ob.lst [PV.tup [PV.int 0, PV.int 1]]] = st0
  have u0 : Up [] st st0 := by rw [← hst0]; exact Up.app _
  generalize hD : st0.length = D
  have hDst : st.length ≤ D := by rw [← hD]; exact u0.le
  simp [sFor, r1]
  refine (forL_rule (Q := fun r st' => r.1 = Fl.nx ∧ (∃ x3 x4, r.2 = [some (rw a), some (rw b), some (.ref D), x3, x4]) ∧ (∃ F, st'[D]? = some (.lst (F.map fr)) ∧ Pile a b a.length 0 F) ∧ Up [] st st')
    (fun i ρ st' => (∃ x3 x4, ρ = [some (rw a), some (rw b), some (.ref D), x3, x4]) ∧ (∃ F, st'[D]? = some (.lst (F.map fr)) ∧ Pile a b i 0 F) ∧ Up [] st st') ?_ ?_ ?_).imp ?_
  · rintro ρ st' h
    rw [rngP_len] at h
    exact ⟨rfl, h⟩
  · intro i p ρ st1 hp hI
    obtain ⟨⟨x3, x4, hρ⟩, ⟨F, hF, pile⟩, u⟩ := hI
    subst hρ
    have hi := (get_rng hp).1
    have ep := (get_rng hp).2
    subst ep
    simp [er, er2, r2, sFor]
    refine (forL_rule (Q := fun r st' => r.1 = Fl.nx ∧ (∃ x3 x4, r.2 = [some (rw a), some (rw b), some (.ref D), x3, x4]) ∧ (∃ F, st'[D]? = some (.lst (F.map fr)) ∧ Pile a b (i + 1) 0 F) ∧ Up [] st st')
      (fun j ρ st' => (∃ x4, ρ = [some (rw a), some (rw b), some (.ref D), some (.int (i : Int)), x4]) ∧ (∃ F, st'[D]? = some (.lst (F.map fr)) ∧ Pile a b i j F) ∧ Up [] st st') ?_ ?_ ?_).imp ?_
    · rintro ρ st' ⟨⟨x4, rfl⟩, ⟨F', hF', pile'⟩, u'⟩
      rw [rngP_len] at pile'
      exact ⟨rfl, ⟨_, _, rfl⟩, ⟨F', hF', pile'.next⟩, u'⟩
    · rintro j p ρ st2 hp ⟨⟨x4, rfl⟩, ⟨F2, hF2, pile2⟩, u2⟩
      obtain ⟨hj, rfl⟩ := get_rng hp
      have hk : i + j < F2.length := by rw [pile2.len]; omega
      have hk' : ((i : Int) + (j : Int)) = ((i + j : Nat) : Int) := by omega
      have hsz : Sz (n + m + a.length + 1) (co F2 (i + j)) := pile2.sz ha hb _
      have hat : L2.atI (F2.map fr) ((i : Int) + (j : Int)) = some (fr (co F2 (i + j))) := by rw [hk']; exact at_fr hk
      simp [listAt_of hF2, hat, er, er2, at_fr hi, at_fr hj]
      refine (law_times_ok (ha.sz i) (hb.sz j) (by omega)).imp ?_
      rintro p st3 ⟨rfl, u3⟩
      refine (law_plus_ok hsz (sz_mul (ha.sz i) (hb.sz j)) (by omega)).imp ?_
      rintro p st4 ⟨rfl, u4⟩
      have hF4 := (u3.trans u4).get hF2 List.not_mem_nil
      rw [hk', setL_ok hF4 (by simpa using hk)]
      simp
      refine ⟨⟨F2.set (i + j) (co F2 (i + j) + co a i * co b j), ?_, pile2.add hi hj⟩, ?_⟩
      · rw [List.getElem?_set_self (lt_of_get hF4), List.map_set]
      · exact (u2.trans (u3.trans u4)).late hDst
    · exact ⟨⟨x4, by simp [er, er2]⟩, ⟨F, hF, pile⟩, u⟩
    · rintro ⟨fl, ρ⟩ st' ⟨h0, ⟨x3, x4, h1⟩, h2, h3⟩
      simp only at h0 h1
      subst h0 h1
      exact rn_ok.mpr ⟨⟨_, _, rfl⟩, h2, h3⟩
  · refine ⟨⟨none, none, by simp [er, er2]⟩, ⟨_, ?_, Pile.zero⟩, u0.trans (Up.app _)⟩
    rw [← hD]
    simp
  · rintro ⟨fl, ρ⟩ st' ⟨h0, ⟨x3, x4, h1⟩, ⟨F, hF, pile⟩, h3⟩
    simp only at h0 h1
    subst h0 h1
    simp
    refine (law_trim_ok (.inr ⟨_, rfl, listAt_of hF⟩) (by rw [pile.len]; omega)).imp ?_
    rintro p st2 ⟨rfl, u2⟩
    exact ⟨congrArg rw pile.done, h3.trans u2⟩
theorem law_trim_pu {L : List Rat} (h : L.length ≤ 1000) : Pu f__law_trim [rw L] (rw (trim L)) := fun st => law_trim_ok (.inl rfl) h
section
variable {n m L M : Nat} {a b : List Rat} {x : Rat}
theorem law_at_pu {k : Nat} : Pu f__law_at [rw a, .int (k : Int)] (fr (co a k)) := fun st => by rw [law_at_ok, rn_ok]; exact ⟨rfl, .refl⟩
theorem law_sum_pu [ha : RW n L a] [hb : RW m M b] (h : n + m ≤ 900000 ∧ L ≤ 400 ∧ M ≤ 400) : Pu f__law_sum [rw a, rw b] (rw (addR a b)) := fun st =>
  law_sum_ok ha.sr.szl hb.sr.szl ha.sr.pos hb.sr.pos h.1 (by have := ha.len; omega) (by have := hb.len; omega)
theorem law_scaled_pu [ha : RW n L a] (hx : Sz m x) (h : n + m ≤ 900000 ∧ L ≤ 400) : Pu f__law_scaled [rw a, fr x] (rw (sclR a x)) := fun st =>
  law_scaled_ok ha.sr.szl hx h.1 (by have := ha.len; omega)
theorem law_less_pu [ha : RW n L a] [hb : RW m M b] (h : n + m + 2 ≤ 900000 ∧ L ≤ 400 ∧ M ≤ 400) : Pu f__law_less [rw a, rw b] (rw (subR a b)) := fun st =>
  law_less_ok ha.sr.szl hb.sr.szl ha.sr.pos hb.sr.pos h.1 (by have := ha.len; omega) (by have := hb.len; omega)
theorem law_product_pu [ha : RW n L a] [hb : RW m M b] (h : 2 * (n + m) + L + 1 ≤ 900000 ∧ L ≤ 400 ∧ M ≤ 400) : Pu f__law_product [rw a, rw b] (rw (mulR a b)) := fun st =>
  law_product_ok ha.sr hb.sr (by have := ha.len; omega) (by have := hb.len; omega) (by have := ha.len; omega)
end
end
end Pm
namespace Pm
open PySem Pe Pg Pl
section
variable {n : Nat} {st : Store}
theorem drawn_ok {most : Nat} (h : Reel n st) (hm : most ≤ 100) : Rn (f__law_drawn [.ref n, .int (most : Int)] st) fun p st' => (∃ l, p = rw l ∧ RW 10 most l ∧ ∀ q ∈ l, Sm q) ∧ Up [n] st st' ∧ Reel n st' := by
  simp [f__law_drawn, t__law_drawn, e__law_drawn, sizeLine]
  refine (pull_ok h (by omega) (by omega)).imp ?_
  rintro p st1 ⟨d, rfl, d0, d1, u1, h1⟩
  obtain ⟨k, rfl⟩ : ∃ k : Nat, d = (k : Int) := ⟨d.toNat, by omega⟩
  have hn1 := h1.lt
  have hr : ∀ st2 : Store, rng1It [.int (k : Int)] st2 = .ok (.fix (rngP 0 k)) st2 := fun st2 => rng1_ok (by rw [line_eq]; omega)
  simp [sFor, hr]
  generalize hD : st1.length = D
  have hDn : D ≠ n := by omega
  have hst : st.length ≤ D := by rw [← hD]; exact u1.le
  refine (forL_rule (Q := fun r st' => r.1 = Fl.nx ∧ (∃ x4, r.2 = [some (.ref n), some (.int (most : Int)), some (.int (k : Int)), some (.ref D), x4]) ∧ (∃ l, st'[D]? = some (.lst (l.map fr)) ∧ Tm l ∧ (∀ q ∈ l, Sm q) ∧ l.length = k) ∧ Up [n] st st' ∧ Reel n st')
    (fun i ρ st' => (∃ x4, ρ = [some (.ref n), some (.int (most : Int)), some (.int (k : Int)), some (.ref D), x4]) ∧ (∃ l, st'[D]? = some (.lst (l.map fr)) ∧ (∀ q ∈ l, Sm q) ∧ (i = k → Tm l) ∧ l.length = i) ∧ Up [n] st st' ∧ Reel n st') ?_ ?_ ?_).imp ?_
  · rintro ρ st' ⟨h1, ⟨l, h2, h3, h4, h5⟩, h6, h7⟩
    rw [rngP_len] at h4 h5
    exact ⟨rfl, h1, ⟨l, h2, h4 rfl, h3, h5⟩, h6, h7⟩
  · intro i p ρ st2 hp hI
    obtain ⟨⟨x4, hρ⟩, ⟨l, h2, h3, h4, h5⟩, h6, h7⟩ := hI
    subst hρ
    have hi := (get_rng hp).1
    have ep := (get_rng hp).2
    subst ep
    have fin : ∀ (q : Rat) (st3 : Store), Sm q → (i + 1 = k → q ≠ 0) → Up [n] st2 st3 → Reel n st3 → st3[D]? = some (.lst (l.map fr)) ∧ (∃ l', (st3.set D (.lst (l.map fr ++ [fr q])))[D]? = some (.lst (l'.map fr)) ∧ (∀ q ∈ l', Sm q) ∧ (i + 1 = k → Tm l') ∧ l'.length = i + 1) ∧ Up [n] st (st3.set D (.lst (l.map fr ++ [fr q]))) ∧ Reel n (st3.set D (.lst (l.map fr ++ [fr q]))) := fun q st3 hq hz u3 r3 => by
      have e3 := u3.get h2 (by simp; exact hDn)
      refine ⟨e3, ⟨l ++ [q], by rw [List.getElem?_set_self (lt_of_get e3)]; simp, fun y hy => ?_, fun e => tm_snoc_of (hz e), by simp [h5]⟩, (h6.trans u3).late hst, ?_⟩
      · rcases List.mem_append.mp hy with z | z
        · exact h3 y z
        · simp at z; subst z; exact hq
      · obtain ⟨a, b, c, e, z⟩ := r3
        exact ⟨a, b, c, by rw [List.getElem?_set_ne hDn]; exact e, z⟩
    have hL : isL (.ref D) st2 = true := by
      unfold isL
      dsimp only
      rw [listAt_of h2]
      rfl
    have hlen : ∀ st3 : Store, ∀ q : Rat, st3[D]? = some (.lst (l.map fr)) → gApp (.ref D) [fr q] st3 = .ok .non (st3.set D (.lst (l.map fr ++ [fr q]))) := fun st3 q e => by
      unfold gApp
      simp only [e]
      rw [if_pos (by rw [List.length_map, line_eq]; omega)]
    by_cases hk : (i : Int) < (k : Int) - 1
    · simp [hL, hk]
      refine (part_ok h7).imp ?_
      rintro p st3 ⟨⟨q, rfl, hq⟩, u3, r3⟩
      obtain ⟨f1, f2, f3, f4⟩ := fin q st3 hq (fun e => by omega) u3 r3
      rw [hlen st3 q f1]
      exact rn_ok.mpr ⟨f2, f3, f4⟩
    · simp [hL, hk]
      refine (some_ok h7).imp ?_
      rintro p st3 ⟨⟨q, rfl, hq, hz⟩, u3, r3⟩
      obtain ⟨f1, f2, f3, f4⟩ := fin q st3 hq (fun _ => hz) u3 r3
      rw [hlen st3 q f1]
      exact rn_ok.mpr ⟨f2, f3, f4⟩
  · refine ⟨⟨none, rfl⟩, ⟨[], ?_, fun q hq => absurd hq List.not_mem_nil, fun _ => tm_nil, rfl⟩, u1.trans (Up.app _), h1.up (Up.app _)⟩
    rw [← hD]
    simp
  · rintro ⟨fl, ρ⟩ st' ⟨e0, ⟨x4, e1⟩, ⟨l, h2, h3, h3b, h4⟩, h5, h6⟩
    simp only at e0 e1
    subst e0 e1
    simp [listAt_of h2]
    exact ⟨⟨l, rfl, ⟨h3, by omega, sr_sm h3b⟩, h3b⟩, h5, h6⟩
end
theorem drawn_dr {most n : Nat} (hm : most ≤ 100) : Dr n f__law_drawn [.ref n, .int (most : Int)] fun v => ∃ l, v = rw l ∧ RW 10 most l ∧ ∀ q ∈ l, Sm q := fun st h => drawn_ok h hm
theorem rw_cons {q : Rat} {l : List Rat} : PV.tup (fr q :: l.map fr) = rw (q :: l) := rfl
theorem law_later_pu {l : List Rat} {k n L : Nat} [hl : RW n L l] (h : k ≤ 3 ∧ L ≤ 400) : Pu f__law_later [rw l, .int (k : Int)] (rw (shR k l)) := fun st => by
  have er : rw l = .tup (l.map fr) := rfl
  have ll := hl.len
  simp [f__law_later, t__law_later, e__law_later, gEq_rw_nil, sizeLine]
  by_cases h0 : l = []
  · subst h0
    have : shR k [] = [] := by unfold shR; rw [if_pos rfl]
    simp [this, Up.refl]
    rfl
  · have e : shR k l = List.replicate k 0 ++ l := by unfold shR; rw [if_neg h0]
    have : k = 0 ∨ k = 1 ∨ k = 2 ∨ k = 3 := by omega
    rw [e]
    rcases this with rfl | rfl | rfl | rfl <;> simp [h0, gMul, er, sizeLine, Up.refl, rw, fr_zero, List.replicate_succ] <;> omega
theorem law_led_dr {most n : Nat} (hm : most ≤ 100) : Dr n f__law_led [.ref n, .int (most : Int)] fun v => ∃ l, v = rw l ∧ RW 10 (most + 1) l ∧ co l 0 = 1 := fun st h => by
  simp [f__law_led, t__law_led, e__law_led, sizeLine]
  refine (drawn_dr hm).go (.of h) ?_
  rintro _ st ⟨l, rfl, hl, hm2⟩ I
  have ll := hl.len
  have el : rw l = .tup (l.map fr) := rfl
  simp [el, sizeLine]
  rw [← fr_one, rw_cons]
  refine ⟨by omega, ?_⟩
  refine (law_trim_pu (by simp; omega)).go I ?_
  intro st I
  have t1 : Sm 1 := sm_int (x := 1) (by omega)
  have s1 : Sr 10 (1 :: l) := sr_sm fun q hq => by
    rcases List.mem_cons.mp hq with rfl | hq
    · exact t1
    · exact hm2 q hq
  exact I.fin (P := fun v => ∃ l, v = rw l ∧ RW 10 (most + 1) l ∧ co l 0 = 1) ⟨trim (1 :: l), rfl, ⟨tm_trim _, Nat.le_trans (trim_len _) (by simp; omega), s1.trm⟩, by rw [co_trim]; rfl⟩
end Pm
namespace Pm
open PySem Pe Pg Pl
/-! ### the law's divisions -/
theorem rng3_e {i j c : Int} {st : Store} : rng3It [.int i, .int j, .int c] st = if c = -1 ∧ -(2 ^ 62) ≤ i ∧ i < 2 ^ 62 ∧ -(2 ^ 62) ≤ j ∧ j < 2 ^ 62 then .ok (.fix (rngDn i (i - j).toNat)) st else .bad := by unfold rng3It; exact Eq.refl _
theorem rng3_dn {x y : Nat} {st : Store} (hx : x ≤ 1000) (hy : y ≤ 1000) : rng3It [.int ((x : Int) - (y : Int)), .int (-1), .int (-1)] st = .ok (.fix (rngDn (((x + 1 - y : Nat) : Int) - 1) (x + 1 - y))) st := by
  rw [rng3_e, two62, if_pos ⟨rfl, by omega, by omega, by omega, by omega⟩]
  have e : ((x : Int) - (y : Int) - -1).toNat = x + 1 - y := by omega
  rw [e]
  by_cases z : x + 1 - y = 0
  · rw [z]; rfl
  · have : ((x : Int) - (y : Int)) = ((x + 1 - y : Nat) : Int) - 1 := by omega
    rw [this]
section
variable {A B q r : List Rat} {nq nB nr : Nat} {st : Store}
theorem law_parted_ok {S : Nat} (hA : ps A = ps q * ps B + ps r) (tq : Tm q) (tr : Tm r) (tB : Tm B) (hr : r.length < B.length) (hsz : ∀ s k, Sz S (co (lft q B r s) k)) (sq : ∀ t, Sz nq (co q t)) (sB : ∀ k, Sz nB (co B k)) (lA : A.length ≤ 1000) (lB : B.length ≤ 1000)
    (hS : S + nq + nB ≤ 900000) : Rn (f__law_parted [rw A, rw B] st) fun p st' => p = .tup [rw q, rw r] ∧ Up [] st st' := by
  have erA : rw A = .tup (A.map fr) := rfl
  have erB : rw B = .tup (B.map fr) := rfl
  have hB0 : B ≠ [] := fun e => by subst e; simp at hr
  have hb := tm_last tB hB0
  obtain ⟨L, hL⟩ : ∃ L : Nat, L = A.length + 1 - B.length := ⟨_, rfl⟩
  have hqL : q.length ≤ L := by
    by_cases hq : q = []
    · subst hq; simp
    · have := q_len hA tq tB hr hq
      omega
  have hmax : (if (A.length : Int) - (B.length : Int) + 1 < 0 then 0 else (A.length : Int) - (B.length : Int) + 1) = (L : Int) := by split <;> omega
  have hr3 := fun st2 : Store => rng3_dn (x := A.length) (y := B.length) (st := st2) lA lB
  rw [← hL] at hr3
  have hr1 : ∀ st2 : Store, rng1It [.int (B.length : Int)] st2 = .ok (.fix (rngP 0 B.length)) st2 := fun st2 => rng1_ok (by rw [line_eq]; omega)
  simp [f__law_parted, t__law_parted, e__law_parted, erA, erB, sizeLine]
  generalize hD : st.length = D
  rw [hmax, zero_list (D := D + 1) (by rw [← hD]; simp) (by omega)]
  simp only [rn_ok]
  generalize hst0 : st ++ [Ob.lst (A.map fr), Ob.lst [PV.tup [.int 0, .int 1]]] = st0
  have hD2 : st0.length = D + 2 := by rw [← hst0, ← hD]; simp
  have u0 : Up [] st st0 := by rw [← hst0]; exact Up.app _
  have hA0 : (st0 ++ [Ob.lst ((List.replicate L (0 : Rat)).map fr)])[D]? = some (.lst (A.map fr)) := by
    rw [List.getElem?_append_left (by omega), ← hst0, ← hD]
    simp
  have hF0 : (st0 ++ [Ob.lst ((List.replicate L (0 : Rat)).map fr)])[D + 2]? = some (.lst ((List.replicate L (0 : Rat)).map fr)) := by
    rw [← hD2]
    simp
  rw [hD2]
  rw [List.map_replicate] at hF0 hA0
  simp [sFor, hr3]
  refine (forL_rule (Q := fun r' st' => r'.1 = Fl.nx ∧ (∃ x4 x5 x6, r'.2 = [some (rw A), some (rw B), some (.ref D), some (.ref (D + 2)), x4, x5, x6]) ∧ (∃ F G, st'[D + 2]? = some (.lst (F.map fr)) ∧ F.length = L ∧ (∀ k, co F k = co q k) ∧ st'[D]? = some (.lst (G.map fr)) ∧ G.length = A.length ∧ (∀ k, co G k = co (lft q B r 0) k)) ∧ Up [] st st')
    (fun i ρ st' => (∃ x4 x5 x6, ρ = [some (rw A), some (rw B), some (.ref D), some (.ref (D + 2)), x4, x5, x6]) ∧ (∃ F G, st'[D + 2]? = some (.lst (F.map fr)) ∧ F.length = L ∧ (∀ k, co F k = if k < L - i then 0 else co q k) ∧ st'[D]? = some (.lst (G.map fr)) ∧ G.length = A.length ∧ (∀ k, co G k = co (lft q B r (L - i)) k)) ∧ Up [] st st') ?_ ?_ ?_).imp ?_
  · rintro ρ st' ⟨hρ, ⟨F, G, f1, f2, f3, g1, g2, g3⟩, u⟩
    rw [rngDn_len, Nat.sub_self] at f3 g3
    exact ⟨rfl, hρ, ⟨F, G, f1, f2, fun k => by rw [f3, if_neg (by omega)], g1, g2, g3⟩, u⟩
  · intro i p ρ st1 hp hI
    obtain ⟨⟨x4, x5, x6, hρ⟩, ⟨F, G, f1, f2, f3, g1, g2, g3⟩, u⟩ := hI
    subst hρ
    have hi := (rngDn_at hp).1
    have ep := (rngDn_at hp).2
    subst ep
    obtain ⟨t, ht⟩ : ∃ t : Nat, t = L - (i + 1) := ⟨_, rfl⟩
    rw [← ht]
    have hti : L - i = t + 1 := by omega
    rw [hti] at f3 g3
    have hBl : 0 < B.length := List.length_pos_iff.mpr hB0
    have hix : ((t : Int) + (B.length : Int) - 1) = ((t + B.length - 1 : Nat) : Int) := by omega
    have hiB : ((B.length : Int) - 1) = ((B.length - 1 : Nat) : Int) := by omega
    have hGi : t + B.length - 1 < G.length := by omega
    have hatG : L2.atI (G.map fr) ((t : Int) + (B.length : Int) - 1) = some (fr (co G (t + B.length - 1))) := by rw [hix]; exact at_fr hGi
    have hatB : L2.atI (B.map fr) ((B.length : Int) - 1) = some (fr (co B (B.length - 1))) := by rw [hiB]; exact at_fr (by omega)
    have hlead : co G (t + B.length - 1) = co q t * co B (B.length - 1) := by rw [g3, co_lead hBl hr]
    have hdiv : co G (t + B.length - 1) / co B (B.length - 1) = co q t := by rw [hlead]; grind
    have sG : ∀ k, Sz S (co G k) := fun k => by rw [g3]; exact hsz _ _
    simp [erB, listAt_of f1, listAt_of g1, hatG, hatB]
    refine (law_over_ok (sG _) (sB _) hb (by omega)).imp ?_
    rintro p st2 ⟨rfl, u2⟩
    rw [hdiv]
    have f1' := u2.get f1 List.not_mem_nil
    have g1' := u2.get g1 List.not_mem_nil
    rw [setL_ok f1' (by simpa [f2] using (show t < L by omega))]
    simp [sFor, hr1]
    have nDD : ¬ D + 2 = D := by omega
    have f1s : (st2.set (D + 2) (.lst ((F.map fr).set t (fr (co q t)))))[D + 2]? = some (.lst ((F.set t (co q t)).map fr)) := by rw [List.getElem?_set_self (lt_of_get f1'), List.map_set]
    have g1s : (st2.set (D + 2) (.lst ((F.map fr).set t (fr (co q t)))))[D]? = some (.lst (G.map fr)) := by rw [List.getElem?_set_ne nDD]; exact g1'
    have us : Up [] st (st2.set (D + 2) (.lst ((F.map fr).set t (fr (co q t))))) := (u.trans u2).late (by omega)
    generalize st2.set (D + 2) (.lst ((F.map fr).set t (fr (co q t)))) = st3 at f1s g1s us ⊢
    refine (forL_rule (Q := fun r' st' => r'.1 = Fl.nx ∧ (∃ x4 x5 x6, r'.2 = [some (rw A), some (rw B), some (.ref D), some (.ref (D + 2)), x4, x5, x6]) ∧ (∃ F G, st'[D + 2]? = some (.lst (F.map fr)) ∧ F.length = L ∧ (∀ k, co F k = if k < t then 0 else co q k) ∧ st'[D]? = some (.lst (G.map fr)) ∧ G.length = A.length ∧ (∀ k, co G k = co (lft q B r t) k)) ∧ Up [] st st')
      (fun j ρ st' => (∃ x6, ρ = [some (rw A), some (rw B), some (.ref D), some (.ref (D + 2)), some (.int (t : Int)), some (fr (co q t)), x6]) ∧ st'[D + 2]? = some (.lst ((F.set t (co q t)).map fr)) ∧ (∃ G, st'[D]? = some (.lst (G.map fr)) ∧ G.length = A.length ∧ (∀ k, co G k = if t ≤ k ∧ k < t + j then co (lft q B r t) k else co (lft q B r (t + 1)) k)) ∧ Up [] st st') ?_ ?_ ?_).imp ?_
    · rintro ρ st' ⟨⟨x6, rfl⟩, e1, ⟨G', e2, e3, e4⟩, u'⟩
      rw [rngP_len] at e4
      refine ⟨rfl, ⟨_, _, _, rfl⟩, ⟨_, G', e1, by rw [List.length_set]; exact f2, fun k => ?_, e2, e3, fun k => ?_⟩, u'⟩
      · rw [co_set (by omega), f3]
        by_cases hk : k = t
        · subst hk; rw [if_pos rfl, if_neg (by omega)]
        · rw [if_neg hk]
          by_cases hk2 : k < t
          · rw [if_pos (by omega), if_pos hk2]
          · rw [if_neg (by omega), if_neg hk2]
      · rw [e4]
        by_cases hk : t ≤ k ∧ k < t + B.length
        · rw [if_pos hk]
        · rw [if_neg hk, co_lft]
          by_cases hk2 : t ≤ k
          · rw [if_pos hk2, co_big (l := B) (by omega)]; grind
          · rw [if_neg hk2]; grind
    · intro j p ρ st4 hp hI
      obtain ⟨⟨x6, hρ⟩, e1, ⟨G', e2, e3, e4⟩, u4⟩ := hI
      subst hρ
      have hj := (get_rng hp).1
      have ep := (get_rng hp).2
      subst ep
      have hk : t + j < G'.length := by omega
      have hk' : ((t : Int) + (j : Int)) = ((t + j : Nat) : Int) := by omega
      have hat : L2.atI (G'.map fr) ((t : Int) + (j : Int)) = some (fr (co G' (t + j))) := by rw [hk']; exact at_fr hk
      have sG' : Sz S (co G' (t + j)) := by rw [e4, if_neg (by omega)]; exact hsz _ _
      have sqt : Sz nq (co q t) := sq t
      simp [erB, listAt_of e1, listAt_of e2, hat, at_fr hj]
      refine (law_times_ok sqt (sB j) (by omega)).imp ?_
      rintro p st5 ⟨rfl, u5⟩
      refine (law_minus_ok sG' (sz_mul sqt (sB j)) (by omega)).imp ?_
      rintro p st6 ⟨rfl, u6⟩
      have e2' := (u5.trans u6).get e2 List.not_mem_nil
      have e1' := (u5.trans u6).get e1 List.not_mem_nil
      rw [hk', setL_ok e2' (by simpa using hk)]
      simp
      refine ⟨by rw [e1', List.map_set], ⟨G'.set (t + j) (co G' (t + j) - co q t * co B j), by rw [List.getElem?_set_self (lt_of_get e2'), List.map_set], by rw [List.length_set]; exact e3, fun k => ?_⟩, (u4.trans (u5.trans u6)).late (by omega)⟩
      rw [co_set hk]
      by_cases hkk : k = t + j
      · subst hkk
        rw [if_pos rfl, if_pos (by omega), e4, if_neg (by omega), co_lft, if_pos (by omega), show t + j - t = j by omega]
        grind
      · rw [if_neg hkk, e4]
        by_cases hk2 : t ≤ k ∧ k < t + j
        · rw [if_pos hk2, if_pos (by omega)]
        · rw [if_neg hk2, if_neg (by omega)]
    · exact ⟨⟨x6, by simp [erA, erB]⟩, f1s, ⟨G, g1s, g2, fun k => by rw [if_neg (by omega)]; exact g3 k⟩, us⟩
    · rintro ⟨fl, ρ⟩ st' ⟨h0, ⟨x4, x5, x6, h1⟩, ⟨F', G', p1, p2, p3, p4, p5, p6⟩, h3⟩
      simp only at h0 h1
      subst h0 h1
      exact rn_ok.mpr ⟨⟨_, _, _, rfl⟩, ⟨F', p1, p2, p3, G', p4, p5, p6⟩, h3⟩
  · refine ⟨⟨none, none, none, by simp [erA, erB]⟩, ⟨List.replicate L 0, A, by rw [List.map_replicate]; exact hF0, by simp, fun k => ?_, hA0, rfl, fun k => ?_⟩, u0.trans (Up.app _)⟩
    · rw [co_rep]
      by_cases hk : k < L
      · rw [if_pos (by omega)]
      · rw [if_neg (by omega), co_big (by omega)]
    · have : ps A = ps (lft q B r L) := by rw [ps_lft, hA, List.take_of_length_le hqL]
      exact congrArg (fun f : Ps => f.c k) this
  · rintro ⟨fl, ρ⟩ st' ⟨h0, ⟨x4, x5, x6, h1⟩, ⟨F, G, f1, f2, f3, g1, g2, g3⟩, u⟩
    simp only at h0 h1
    subst h0 h1
    simp
    refine (law_trim_ok (.inr ⟨_, rfl, listAt_of f1⟩) (by omega)).imp ?_
    rintro p st2 ⟨rfl, u2⟩
    refine (law_trim_ok (.inr ⟨_, rfl, listAt_of (u2.get g1 List.not_mem_nil)⟩) (by omega)).imp ?_
    rintro p st3 ⟨rfl, u3⟩
    have eF : trim F = q := by rw [trim_eq f3]; exact tq
    have eG : trim G = r := by
      have : ∀ k, co G k = co r k := fun k => by
        rw [g3]
        have : ps (lft q B r 0) = ps r := by rw [ps_lft, List.take_zero, ps_nil]; grind
        exact congrArg (fun f : Ps => f.c k) this
      rw [trim_eq this]
      exact tr
    rw [eF, eG]
    simp [sizeLine]
    exact (u.trans u2).trans u3
end
section
variable {a b h q r A B : List Rat} {n m L M H Lh : Nat} {x : Rat}
theorem law_parted_fac {s : Nat} (hh : RW H Lh h) (h0 : h ≠ []) (sa : Sr n a) (tb : Tm b) (b0 : b ≠ []) (sb : Sr m b) (hl : a.length + 1 ≤ b.length + s) (la : a.length ≤ 400) (lb : b.length ≤ 400) (lh : Lh ≤ 400) (hs : 2 * (n + s * (m + 1)) + 2 * m + 2 * (H + Lh) ≤ 900000) :
    Pu f__law_parted [rw (mulR h a), rw (mulR h b)] (.tup [rw (quoR a b), rw (mulR h (modR a b))]) := fun st => by
  obtain ⟨h1, h2, h3, h4⟩ := div_spec a tb b0
  obtain ⟨z1, z2, z3⟩ := div_sz tb b0 sa sb hl
  obtain ⟨l1, l2⟩ := lft_sr h1 tb b0 h4 sa sb z1
  have hlen := hh.len
  have e1 := mulR_length hh.tm tb h0 b0
  have hpos := List.length_pos_iff.mpr h0
  have hr : (mulR h (modR a b)).length < (mulR h b).length := by
    by_cases z : modR a b = []
    · rw [z, mulR_nil]; have := List.length_pos_iff.mpr b0; simp; omega
    · have e2 := mulR_length hh.tm h3 h0 z
      omega
  have hA : (mulR h a).length ≤ h.length + a.length - 1 := mulR_len
  refine law_parted_ok (S := H + (n + s * (m + 1)) + Lh) (nq := n + s * (m + 1) + m) (nB := H + m + Lh) (by rw [ps_mulR, ps_mulR, ps_mulR, h1]; grind) h2 (tm_mulR _ _) (tm_mulR _ _) hr (fun t k => ?_) l2 (fun k => (hh.sr.mulc sb hlen (co_mulR h b)).sz k) (by omega) (by omega) (by omega)
  have e : ps (lft (quoR a b) (mulR h b) (mulR h (modR a b)) t) = ps h * ps (lft (quoR a b) b (modR a b) t) := by
    rw [ps_lft, ps_lft, ps_mulR, ps_mulR]
    grind
  exact (hh.sr.mulc (l1 t) hlen (l := lft (quoR a b) (mulR h b) (mulR h (modR a b)) t) fun i => congrArg (fun f : Ps => f.c i) e).sz k
theorem law_parted_pu {s : Nat} [ha : RW n L a] [hb : RW m M b] (b0 : b ≠ []) (hl : a.length + 1 ≤ b.length + s) (hs : 2 * (n + s * (m + 1)) + 2 * m + 10 ≤ 900000 ∧ L ≤ 400 ∧ M ≤ 400) : Pu f__law_parted [rw a, rw b] (.tup [rw (quoR a b), rw (modR a b)]) := by
  have h3 := (div_spec a hb.tm b0).2.2.1
  have := law_parted_fac RW.one (by simp) ha.sr hb.tm b0 hb.sr hl (by have := ha.len; omega) (by have := hb.len; omega) (by omega) (by omega)
  rwa [mulR_one ha.tm, mulR_one hb.tm, mulR_one h3] at this
theorem law_parted_is {nq nr nb Lq Lr LA : Nat} (tA : A.length ≤ LA) (hA : ps A = ps q * ps B + ps r) (hq : RW nq Lq q) (hr : RW nr Lr r) (hB : RW nb M B) (l : r.length < B.length) (hs : 2 * (nq + nb) + Lq + nr + 1 ≤ 900000 ∧ LA ≤ 500 ∧ M ≤ 500) : Pu f__law_parted [rw A, rw B] (.tup [rw q, rw r]) := fun st =>
  law_parted_ok (S := nq + nb + Lq + nr + 1) hA hq.tm hr.tm hB.tm l (fun s k => sz_lft hq.sr hB.sr hr.sr hq.len) (fun t => hq.sr.sz t) (fun k => hB.sr.sz k) (by omega) (by have := hB.len; omega) (by omega)
theorem law_low_pu [ha : RW n L a] (a0 : a ≠ []) (hs : 2 * n + 2 ≤ 900000 ∧ L ≤ 400) : Pu f__law_low [rw a] (rw (lowR a)) := fun st => by
  have er : rw a = .tup (a.map fr) := rfl
  have la := ha.len
  simp [f__law_low, t__law_low, e__law_low, er]
  refine (compL_fm (f := fun p => match scP p p, p with
      | _, .tup [.int i, .int _] => if i = 0 then none else some p
      | _, _ => none) (a.map fr) [] _ (fun p hp st2 => ?_) get_new (by simp [line_eq]; omega)).imp ?_
  · obtain ⟨q, hq, rfl⟩ := List.mem_map.mp hp
    by_cases z : q.num = 0
    · simp [bodyC, z, fr, Up.refl]
    · simp [bodyC, z, fr, Up.refl]
  · rintro _ st' ⟨h1, u⟩
    rw [nzs_fr (fun q => by
      by_cases z : q = 0
      · simp [z, fr]
      · have : q.num ≠ 0 := fun h => z (Rat.num_eq_zero.mp h)
        simp [fr, z, this])] at h1
    obtain ⟨r, e⟩ := nzs_head ha.tm a0
    rw [e] at h1
    have l1 : listAt st' st.length = some (fr (fnz a) :: r.map fr) := listAt_of (by simpa using h1)
    have u0 : Up [] st st' := ⟨Nat.le_trans (by simp) u.le, fun n h1 h2 => by rw [u.keep n (by simp; omega) (by simp; omega), List.getElem?_append_left h1]⟩
    simp [l1, sizeLine]
    rw [← fr_one, ← er]
    refine (law_over_pu sz_one (sz_fnz ha.sr) fnz_ne (by omega)).go0 u0 ?_
    intro st u
    refine (law_scaled_pu (sz_div sz_one (sz_fnz ha.sr) fnz_ne) (by omega)).go0 u ?_
    intro st u
    exact ⟨rfl, u⟩
end
end Pm
namespace Pm
open PySem Pe Pg Pl
/-! ### the law's common divisors -/
section
variable {a b h : List Rat} {n m L M H Lh : Nat}
theorem law_divisor_fac {J : Nat} (hh : RW H Lh h) (h0 : h ≠ []) (ha : RW n L a) (hb : RW n L b) (h1 : a ≠ [] ∨ b ≠ []) (hJ : a.length ≤ J + (gcdU a b).length ∧ b.length ≤ J + (gcdU a b).length) (hs : EB J n + 2 * (H + Lh) ≤ 900000 ∧ 2 * (H + GB J n + Lh) + 2 ≤ 900000 ∧ L ≤ 150 ∧ Lh ≤ 100) :
    Pu f__law_divisor [rw (mulR h a), rw (mulR h b)] (rw (gcdR (mulR h a) (mulR h b))) := fun st => by
  have la := ha.len
  have lb := hb.len
  obtain ⟨wc, gs, _⟩ := way_of ha.tm hb.tm ha.sr hb.sr hJ.1 hJ.2
  have w := wc.way
  have g1 := (gcdU_spec ha.tm hb.tm).1
  have g0 := gcdU_ne ha.tm hb.tm h1
  have gl := gcdU_len ha.tm hb.tm la lb
  have hlen := hh.len
  have gw : RW (H + GB J n + Lh) 300 (mulR h (gcdU a b)) := ⟨tm_mulR _ _, Nat.le_trans mulR_len (by omega), hh.sr.mulc gs hlen (co_mulR _ _)⟩
  have l1 : (mulR h a).length ≤ 300 := Nat.le_trans mulR_len (by omega)
  have l2 : (mulR h b).length ≤ 300 := Nat.le_trans mulR_len (by omega)
  have lb2 : b.length ≤ (mulR h b).length := by
    by_cases z : b = []
    · rw [z]; exact Nat.zero_le _
    · have := mulR_length hh.tm hb.tm h0 z
      have := List.length_pos_iff.mpr h0
      omega
  obtain ⟨N, hN⟩ : ∃ N : Nat, N = (mulR h a).length + (mulR h b).length + 2 := ⟨_, rfl⟩
  have hit : ∀ ρ1 x2, ρ1 = [some (rw (mulR h a)), some (rw (mulR h b)), x2] → xItL rng1It (xCons (xBin gAdd (xBin gAdd (xCall gLen (xCons (xLoc 0) xNil)) (xCall gLen (xCons (xLoc 1) xNil))) (xC (PV.int 2))) xNil) ρ1 st = .ok (.fix (rngP 0 N)) st := fun ρ1 x2 e => by
    subst e
    have e1 : gLen [rw (mulR h a)] st = .ok (.int ((mulR h a).length : Int)) st := Sq.len (.inl rfl)
    have e2 : gLen [rw (mulR h b)] st = .ok (.int ((mulR h b).length : Int)) st := Sq.len (.inl rfl)
    simp [e1, e2]
    have e3 : ((mulR h a).length : Int) + ((mulR h b).length : Int) + 2 = (N : Int) := by omega
    rw [e3]
    exact rng1_ok (by rw [line_eq]; omega)
  simp [f__law_divisor, t__law_divisor, e__law_divisor]
  rw [s_for_fix (hit _ _ rfl)]
  refine (forL_rule (Q := fun r st' => r.1 = Fl.nx ∧ (∃ x1 x2, r.2 = [some (rw (mulR h (gcdU a b))), x1, x2]) ∧ Up [] st st')
    (fun i ρ st' => (∃ a' b' x2, ρ = [some (rw (mulR h a')), some (rw (mulR h b')), x2] ∧ Way (EB J n) (b.length + 1 - i) a' b' ∧ Tm a' ∧ Tm b' ∧ a'.length ≤ 300 ∧ b'.length ≤ 300 ∧ gcdU a' b' = gcdU a b) ∧ Up [] st st') ?_ ?_ ?_).imp ?_
  · rintro ρ st' ⟨⟨a', b', x2, rfl, w', ta', tb', la', lb', hg⟩, u⟩
    rw [rngP_len, show b.length + 1 - N = 0 by omega] at w'
    have w' : b' = [] := w'
    subst w'
    rw [gcdU_nil] at hg
    subst hg
    exact ⟨rfl, ⟨_, _, rfl⟩, u⟩
  · intro i p ρ st1 hp hI
    obtain ⟨⟨a', b', x2, hρ, w', ta', tb', la', lb', hg⟩, u⟩ := hI
    subst hρ
    by_cases b0 : b' = []
    · subst b0
      rw [gcdU_nil] at hg
      subst hg
      simp [mulR_nil, gEq_rw_nil]
      exact u
    · have hb0 := mulR_ne hh.tm tb' h0 b0
      simp [gEq_rw_nil, hb0]
      obtain ⟨k, hk⟩ : ∃ k, b.length + 1 - i = k + 1 := by
        cases z : b.length + 1 - i with
        | zero => rw [z] at w'; exact absurd w' b0
        | succ k => exact ⟨k, rfl⟩
      rw [hk] at w'
      obtain ⟨n', m', s, sa, sb, hl, hc, w2⟩ := w' b0
      refine (law_parted_fac hh h0 sa tb' b0 sb hl (by omega) (by omega) (by omega) (by omega)).go0 u ?_
      intro st u
      simp
      obtain ⟨_, _, h3, h4⟩ := div_spec a' tb' b0
      refine ⟨⟨b', modR a' b', ⟨rfl, rfl⟩, ?_, tb', h3, lb', by omega, by rw [← gcdU_step tb' b0]; exact hg⟩, u⟩
      rw [show b.length - i = k by omega]
      exact w2
  · exact ⟨⟨a, b, none, rfl, w, ha.tm, hb.tm, by omega, by omega, rfl⟩, .refl⟩
  · rintro ⟨fl, ρ⟩ st' ⟨e0, ⟨x1, x2, e1⟩, u⟩
    simp only at e0 e1
    subst e0 e1
    simp
    refine (law_low_pu (mulR_ne hh.tm g1 h0 g0) (by omega)).go0 u ?_
    intro st u
    refine ⟨?_, u⟩
    unfold gcdR
    rw [gcdU_fac hh.tm h0 ha.tm hb.tm]
theorem law_divisor_pu [ha : RW n L a] [hb : RW m M b] (J : Nat) (h1 : a ≠ [] ∨ b ≠ []) (hJ : a.length ≤ J + (gcdU a b).length ∧ b.length ≤ J + (gcdU a b).length) (hs : EB J (max n m) + 4 ≤ 900000 ∧ 2 * (GB J (max n m) + 2) + 2 ≤ 900000 ∧ max L M ≤ 150) : Pu f__law_divisor [rw a, rw b] (rw (gcdR a b)) := by
  have ha2 : RW (max n m) (max L M) a := ha.mono (by omega) (by omega)
  have hb2 : RW (max n m) (max L M) b := hb.mono (by omega) (by omega)
  have := law_divisor_fac RW.one (by simp) ha2 hb2 h1 hJ ⟨by omega, by omega, by omega, by omega⟩
  rwa [mulR_one ha.tm, mulR_one hb.tm] at this
end
end Pm
namespace Pm
open PySem Pe Pg Pl
@[simp] theorem pow_i {i j : Int} {st : Store} : gPow (.int i) (.int j) st = if 0 ≤ j ∧ j ≤ 1000000 ∧ i.natAbs < 2 ^ 64 then .ok (.int (i ^ j.toNat)) st else .bad := id rfl
section
variable {n : Nat} {st : Store}
theorem one_of_ok {m : Nat} {qs : List Rat} (h : Reel n st) (hm : listAt st m = some (qs.map fr)) (hne : m ≠ n) (h0 : 0 < qs.length) (h1 : qs.length ≤ 100) : Rn (f__law_one_of [.ref n, .ref m] st) fun p st' => ∃ q, q ∈ qs ∧ p = fr q ∧ Up [n] st st' ∧ Reel n st' := by
  simp [f__law_one_of, t__law_one_of, e__law_one_of, hm]
  refine (pull_ok h (by omega) (by omega)).imp ?_
  rintro p st1 ⟨d, rfl, d0, d1, u, h1⟩
  obtain ⟨k, rfl⟩ : ∃ k : Nat, d = (k : Int) := ⟨d.toNat, by omega⟩
  have hk : k < qs.length := by omega
  simp [u.lst hm (by simpa using hne), at_fr hk]
  refine ⟨co qs k, ?_, rfl, u, h1⟩
  rw [co_of (List.getElem?_eq_getElem hk)]
  exact List.getElem_mem hk
theorem reel_new {o : Ob} {a b c : Int} (h : 0 ≤ a) : Reel (st.length + 1) (st ++ [o, .lst [.int a, .int b, .int c]]) := ⟨a, b, c, by simp, h⟩
theorem reel_ok {t : Nat} {ns : List Int} (ht : t ≤ 10) (h : listAt st 0 = some (ns.map PV.int)) (hl : ns.length ≤ 63) : Rn (f__law_reel [.ref 0, .int (t : Int)] st) fun p st' => ∃ m, p = .ref m ∧ Reel m st' ∧ Up [] st st' ∧ st.length ≤ m := by
  simp [f__law_reel, t__law_reel, e__law_reel, gCut, h, seqIt, sFor]
  generalize hC : cutP (ns.map PV.int) none (some 8) = C
  have hCi : ∀ p ∈ C, ∃ i, p = .int i := fun p hp => by
    rw [← hC] at hp
    unfold cutP at hp
    obtain ⟨i, _, e⟩ := List.mem_map.mp (List.mem_of_mem_drop (List.mem_of_mem_take hp))
    exact ⟨i, e.symm⟩
  have hCl : C.length ≤ sizeLine := by
    rw [← hC, line_eq]
    unfold cutP
    simp
    omega
  have h' := (Up.app (R := []) (st := st) [Ob.lst C]).lst h List.not_mem_nil
  refine (forD_rule (Q := fun r st' => r.1 = Fl.nx ∧ (∃ s x, r.2 = [some (.ref 0), some (.int (t : Int)), some (.int s), x, none]) ∧ st' = st ++ [Ob.lst C])
    (fun i ρ st' => (∃ s x, ρ = [some (.ref 0), some (.int (t : Int)), some (.int s), x, none]) ∧ st' = st ++ [Ob.lst C]) C ?_ ?_ ?_ ?_ (fuel_line hCl)).imp ?_
  · rintro i ρ st' ⟨_, rfl⟩
    unfold liveL
    rw [listAt_new]
    rfl
  · rintro ρ st' ⟨h1, h2⟩
    exact ⟨rfl, h1, h2⟩
  · intro i p ρ st' hp hI
    obtain ⟨⟨s, x, hρ⟩, hst⟩ := hI
    subst hρ hst
    obtain ⟨j, rfl⟩ := hCi p (List.mem_of_getElem? hp)
    simp
  · exact ⟨⟨_, none, rfl⟩, rfl⟩
  · rintro ⟨fl, ρ⟩ st' ⟨e0, ⟨s, x, e1⟩, e2⟩
    simp only at e0 e1
    subst e0 e1 e2
    by_cases hk : t < ns.length
    · have hat : L2.atI (ns.map PV.int) (t : Int) = some (.int ns[t]) := by
        rw [at_nat (by simpa using hk), List.getElem?_map, List.getElem?_eq_getElem hk]
        rfl
      simp [h', hk, hat, sizeLine]
      split <;> split <;> exact ⟨reel_new (by omega), Up.app _⟩
    · simp [h', hk, sizeLine]
      exact ⟨reel_new (by omega), Up.app _⟩
theorem addR_comm (a b : List Rat) : addR b a = addR a b := Tm.eq (tm_addR _ _) (tm_addR _ _) (by rw [ps_addR, ps_addR]; grind)
theorem mulR_comm (a b : List Rat) : mulR b a = mulR a b := Tm.eq (tm_mulR _ _) (tm_mulR _ _) (by rw [ps_mulR, ps_mulR]; grind)
theorem mulR_assoc (a b c : List Rat) : mulR (mulR a b) c = mulR a (mulR b c) := Tm.eq (tm_mulR _ _) (tm_mulR _ _) (by rw [ps_mulR, ps_mulR, ps_mulR, ps_mulR]; grind)
theorem gNe_text {x y : Str} (h : x = y) : gEq true (.str x) (.str y) st = .ok (.bl false) st := by
  subst h
  simp
theorem _root_.Pe.Up.fresh {a b c : Store} {m : Nat} (h : Up [] a b) (h2 : Up [m] b c) (hm : a.length ≤ m) : Up [] a c := ⟨Nat.le_trans h.le h2.le, fun k hk _ => (h2.keep k (Nat.lt_of_lt_of_le hk h.le) (by simp; omega)).trans (h.keep k hk List.not_mem_nil)⟩
/-- a list of one thing, k times -/
theorem rep_list {st2 : Store} {D k : Nat} {p : PV} (h2 : st2[D]? = some (.lst [p])) (hk : k ≤ 100) : gMul (.ref D) (.int (k : Int)) st2 = .ok (.ref st2.length) (st2 ++ [Ob.lst (List.replicate k p)]) := by
  unfold gMul
  simp only [h2]
  have e63 : (2 : Int) ^ 63 = 9223372036854775808 := rfl
  rw [e63, Int.toNat_natCast, line_eq, if_pos ⟨by omega, by omega, by simp; omega⟩]
  unfold newL
  have e2 : (List.replicate k [p]).flatten = List.replicate k p := by
    clear hk
    induction k with
    | zero => rfl
    | succ k ih => rw [List.replicate_succ, List.flatten_cons, ih, List.replicate_succ]; rfl
  rw [e2]
/-- a comprehension whose test is never met -/
theorem compL_none {g : Tg} {t : SmT} {e : Pe.Sm} {ρ : Pe.Env} {D : Nat} : ∀ (ps : List PV) (st : Store), (∀ p ∈ ps, ∀ st2, Rn (bodyC g t e ρ p st2) fun o st4 => o = none ∧ Up [] st2 st4) → Rn (compL g t e D ρ ps st) fun _ st' => Up [] st st'
  | [], st, _ => by rw [compL_nil, rn_ok]; exact .refl
  | p :: ps, st, h => by
    rw [compL_cons, turn_body, rn_bind, rn_bind]
    refine (h p List.mem_cons_self st).imp ?_
    rintro o st4 ⟨rfl, u⟩
    refine rn_ok.mpr ((compL_none ps st4 fun q hq => h q (List.mem_cons_of_mem _ hq)).imp fun _ st5 u5 => u.trans u5)
/-! the law's own look at rows -/
/-- the law of rounds, each of which is right -/
theorem law_rounds {ns : List Int} (hl : ns.length ≤ 63) (right : ∀ (n : Nat), Dr n f__law_right [.ref n] fun v => v = .bl true) {st : Store} (h0 : listAt st 0 = some (ns.map PV.int)) {i : Nat} (hi : i ≤ 10) :
    Rn (f__law_reel [.ref 0, .int (i : Int)] st) fun p st3 => Rn (f__law_right [p] st3) fun q st4 => q = .bl true ∧ Up [] st st4 := by
  refine (reel_ok hi h0 hl).imp ?_
  rintro p st3 ⟨m, rfl, hm, u3, lm⟩
  refine (right m st3 hm).imp ?_
  rintro p st4 ⟨rfl, u4, _⟩
  exact ⟨rfl, u3.fresh u4 lm⟩
end
end Pm
namespace Pm
open PySem Pe Pg Pl
/-! ### the law's answers -/
section
variable {A B N U a b g h : List Rat} {n m L M t J : Nat}
/-- one of some whole numbers -/
theorem one_of_ints {n m : Nat} {st : Store} {qs : List Int} (h : Reel n st) (hm : listAt st m = some (qs.map PV.int)) (hne : m ≠ n) (h0 : 0 < qs.length) (h1 : qs.length ≤ 100) : Rn (f__law_one_of [.ref n, .ref m] st) fun p st' => (∃ q ∈ qs, p = .int q) ∧ Up [n] st st' ∧ Reel n st' := by
  simp [f__law_one_of, t__law_one_of, e__law_one_of, hm]
  refine (pull_ok h (by omega) (by omega)).imp ?_
  rintro p st1 ⟨d, rfl, d0, d1, u, h1⟩
  obtain ⟨k, rfl⟩ : ∃ k : Nat, d = (k : Int) := ⟨d.toNat, by omega⟩
  have hk : k < qs.length := by omega
  have hat : L2.atI (qs.map PV.int) (k : Int) = some (.int qs[k]) := by
    rw [at_nat (by simpa using hk), List.getElem?_map, List.getElem?_eq_getElem hk]
    rfl
  simp [u.lst hm (by simpa using hne), hat]
  exact ⟨u, h1⟩
end
end Pm
namespace Pm
open PySem Pe Pg Pl
theorem gEq_text {x y : Str} {st : Store} (h : x = y) : gEq false (.str x) (.str y) st = .ok (.bl true) st := by
  subst h
  show Res.ok (PV.bl (x == x)) st = _
  simp
section
variable {A B A' B' : List Rat} {n m L M n' m' L' M' : Nat}
theorem law_size_pu (B0 : B ≠ []) : Pu f__law_size [.tup [rw A, rw B]] (.int (szP A B : Nat)) := fun st => by
  have lenA : ∀ st2 : Store, gLen [rw A] st2 = .ok (.int (A.length : Int)) st2 := fun st2 => Sq.len (.inl rfl)
  have lenB : ∀ st2 : Store, gLen [rw B] st2 = .ok (.int (B.length : Int)) st2 := fun st2 => Sq.len (.inl rfl)
  have := List.length_pos_iff.mpr B0
  simp [f__law_size, t__law_size, e__law_size, lenA, lenB, Up.refl, szP, max3_i]
  split <;> split <;> omega
end
end Pm
namespace Pm
open PySem Pe Pg Pl
section
variable {A B A' B' X Y C D : List Rat} {a K a' K' b M n L J t s : Nat}
def isMade (v : PV) : Prop := ∃ A B, v = ans A B ∧ Or 10 3 A B ∧ co B 0 = 1
/-- the folded numbers -/
def foldP (f g : Nat → Rat) (k : Nat) : Nat → Rat
  | 0 => 0
  | j + 1 => foldP f g k j + f j * g (k - j)
theorem foldP_tl (f g : Nat → Rat) (k : Nat) : ∀ j, j ≤ k + 1 → foldP f g (k + 1) j = foldP f (tl g) k j
  | 0, _ => rfl
  | j + 1, h => by
    show foldP f g (k + 1) j + f j * g (k + 1 - j) = foldP f (tl g) k j + f j * g (k - j + 1)
    rw [foldP_tl f g k j (by omega), show k + 1 - j = k - j + 1 by omega]
theorem foldP_cv : ∀ (k : Nat) (f g : Nat → Rat), foldP f g k (k + 1) = cv f g k
  | 0, f, g => by
    show 0 + f 0 * g (0 - 0) = f 0 * g 0
    grind
  | k + 1, f, g => by
    rw [cv_right]
    show foldP f g (k + 1) (k + 1) + f (k + 1) * g (k + 1 - (k + 1)) = _
    rw [foldP_tl f g k (k + 1) (Nat.le_refl _), foldP_cv k f (tl g), Nat.sub_self]
theorem sz_fold {f g : Nat → Rat} {n m k : Nat} (hf : ∀ i, i ≤ k → Sz n (f i)) (hg : ∀ i, i ≤ k → Sz m (g i)) : ∀ j, j ≤ k + 1 → Sz (j * (n + m + 1) + 1) (foldP f g k j)
  | 0, _ => by show Sz (0 * (n + m + 1) + 1) 0; rw [Nat.zero_mul]; exact sz_zero
  | j + 1, h => by
    have := sz_add (sz_fold hf hg j (by omega)) (sz_mul (hf j (by omega)) (hg (k - j) (by omega)))
    refine this.mono ?_
    rw [Nat.add_mul]
    omega
def foldL (f g : Nat → Rat) (K : Nat) : List Rat := (List.range K).map fun k => foldP f g k (k + 1)
theorem foldL_s (f g : Nat → Rat) (K : Nat) : foldL f g (K + 1) = foldL f g K ++ [foldP f g K (K + 1)] := by
  unfold foldL
  rw [List.range_succ, List.map_append]
  rfl
theorem foldL_len (f g : Nat → Rat) (K : Nat) : (foldL f g K).length = K := by simp [foldL]
/-- the numbers of a product are folded -/
theorem nums_prod (o : Or a K A B) (o' : Or a' K' A' B') (C0 : co D 0 ≠ 0) (e : ps C * (ps B * ps B') = ps A * ps A' * ps D) (k : Nat) : numF C D k = cv (numF A B) (numF A' B') k := by
  have h : ps D * (numS A B * numS A' B') = ps C := by
    refine ps_cancel (B := mulR B B') (by rw [co_mul0]; exact mul_ne0 o.b0 o'.b0) ?_
    rw [ps_mulR]
    have h1 := numS_mul (A := A) o.b0
    have h2 := numS_mul (A := A') o'.b0
    generalize numS A B = S at *
    generalize numS A' B' = S' at *
    generalize ps A = x at *
    generalize ps B = y at *
    generalize ps A' = x' at *
    generalize ps B' = y' at *
    generalize ps C = z at *
    generalize ps D = w at *
    grind
  exact congrArg (fun f : Ps => f.c k) (numS_is C0 h)
theorem nums_sum (o : Or a K A B) (o' : Or a' K' A' B') (C0 : co D 0 ≠ 0) (e : ps C * (ps B * ps B') = (ps A * ps B' + ps A' * ps B) * ps D) (k : Nat) : numF C D k = numF A B k + numF A' B' k := by
  have h : ps D * (numS A B + numS A' B') = ps C := by
    refine ps_cancel (B := mulR B B') (by rw [co_mul0]; exact mul_ne0 o.b0 o'.b0) ?_
    rw [ps_mulR]
    have h1 := numS_mul (A := A) o.b0
    have h2 := numS_mul (A := A') o'.b0
    generalize numS A B = S at *
    generalize numS A' B' = S' at *
    generalize ps A = x at *
    generalize ps B = y at *
    generalize ps A' = x' at *
    generalize ps B' = y' at *
    generalize ps C = z at *
    generalize ps D = w at *
    grind
  exact congrArg (fun f : Ps => f.c k) (numS_is C0 h)
end
end Pm
namespace Pm
open PySem Pe Pg Pl
theorem nz_step : ∀ (k n : Nat), nz (k + 1) n = nz k (2 * n + 1) := fun _ _ => rfl
end Pm
namespace Pm
open PySem Pe Pg Pl
section
variable {l : List Rat} {n : Nat}
theorem bent_tm (h : l ≠ [] → co l 0 ≠ 0) : Tm (bentL l) := by
  cases l with
  | nil => exact tm_one
  | cons k l =>
    refine tm_of_last fun _ => ?_
    rw [bentL_last]
    exact h (by simp)
theorem co_snoc0 {f : List Rat} (i : Nat) : co (f ++ [0]) i = co f i := by
  by_cases h : i < f.length
  · unfold co
    rw [List.getElem?_append_left h]
  · rw [co_big (l := f) (by omega)]
    by_cases h2 : i = f.length
    · subst h2
      exact co_of (by simp)
    · exact co_big (by simp; omega)
/-- the row by its bends, step by step -/
theorem bent_drop {i : Nat} (hi : i < l.length) : bentL (l.drop (l.length - 1 - i)) = upL (bentL (l.drop (l.length - i))) (co l (l.length - 1 - i)) := by
  have e : l.drop (l.length - 1 - i) = co l (l.length - 1 - i) :: l.drop (l.length - i) := by
    rw [List.drop_eq_getElem_cons (by omega), co_of (List.getElem?_eq_getElem (by omega)), show l.length - 1 - i + 1 = l.length - i by omega]
  rw [e]
  rfl
theorem sz_drop (h : ∀ k ∈ l, Sz n k) (i : Nat) : Sr (1 + l.length * (n + 1)) (bentL (l.drop i)) :=
  (sr_bent (l.drop i) fun k hk => h k (List.mem_of_mem_drop hk)).mono (by
    have := Nat.mul_le_mul_right (n + 1) (show (l.drop i).length ≤ l.length by rw [List.length_drop]; omega)
    omega)
theorem get_rev {p : PV} {i : Nat} (hp : ((l.map fr).reverse)[i]? = some p) : i < l.length ∧ p = fr (co l (l.length - 1 - i)) := by
  have hi : i < l.length := by
    by_cases z : i < l.length
    · exact z
    · rw [List.getElem?_eq_none (by simp; omega)] at hp
      cases hp
  refine ⟨hi, ?_⟩
  rw [List.getElem?_reverse (by simpa using hi), List.length_map, List.getElem?_map, List.getElem?_eq_getElem (by omega)] at hp
  rw [co_of (List.getElem?_eq_getElem (by omega))]
  exact (Option.some.inj hp).symm
theorem up_map {f : List Rat} {k : Rat} : (upL f k).map fr = (List.range (f.length + 1)).map fun j => fr (co f j + k * co f (f.length - j)) := by
  unfold upL
  rw [List.map_map]
  rfl
theorem law_bent_pu (h : ∀ k ∈ l, Sz n k) (hs : 4 * (l.length * (n + 1)) + 4 * n + 100 ≤ 400000 ∧ l.length ≤ 100) : Pu f__law_bent [rw l] (rw (trim (bentL l))) := fun st => by
  have er : rw l = .tup (l.map fr) := rfl
  have sb := fun i => sz_drop h i
  have sk : ∀ j, j < l.length → Sz n (co l j) := fun j hj => by
    rw [co_of (List.getElem?_eq_getElem hj)]
    exact h _ (List.getElem_mem hj)
  have hrev : ∀ (ρr : Pe.Env) (st2 : Store), xRevL (xLoc 0) (some (rw l) :: ρr) st2 = .ok (.tup (l.map fr).reverse) st2 := fun _ _ => rfl
  have e10 : PV.tup [PV.int 1, PV.int 1] = fr 1 := fr_one.symm
  simp [-comp_e, f__law_bent, t__law_bent, e__law_bent, sizeLine, sFor, hrev, e10]
  refine (forL_rule (Q := fun r st' => r.1 = Fl.nx ∧ (∃ D x2 x3 x4 x5, r.2 = [some (rw l), some (.ref D), x2, x3, x4, x5] ∧ st'[D]? = some (.lst ((bentL l).map fr))) ∧ Up [] st st')
    (fun i ρ st' => (∃ D x2 x3 x4 x5, ρ = [some (rw l), some (.ref D), x2, x3, x4, x5] ∧ st'[D]? = some (.lst ((bentL (l.drop (l.length - i))).map fr))) ∧ Up [] st st') ?_ ?_ ?_).imp ?_
  · rintro ρ st' ⟨⟨D, x2, x3, x4, x5, rfl, h1⟩, u⟩
    rw [List.length_reverse, List.length_map, Nat.sub_self, List.drop_zero] at h1
    exact ⟨rfl, ⟨D, x2, x3, x4, x5, rfl, h1⟩, u⟩
  · rintro i p ρ st1 hp ⟨⟨D, x2, x3, x4, x5, rfl, hD⟩, u⟩
    obtain ⟨hi, rfl⟩ := get_rev hp
    have e1 : l.drop (l.length - (i + 1)) = l.drop (l.length - 1 - i) := by rw [show l.length - (i + 1) = l.length - 1 - i by omega]
    have sf := sb (l.length - i)
    have kk := sk (l.length - 1 - i) (by omega)
    have ed := bent_drop hi
    have lf : (bentL (l.drop (l.length - i))).length = i + 1 := by rw [bentL_len, List.length_drop]; omega
    rw [e1, ed, up_map]
    generalize bentL (l.drop (l.length - i)) = f at *
    generalize co l (l.length - 1 - i) = k at *
    have z0 : PV.tup [PV.int 0, PV.int 1] = fr 0 := fr_zero.symm
    simp [-comp_e, z0, sizeLine, lf]
    have hD1 : (st1 ++ [Ob.lst [fr 0]])[D]? = some (.lst (f.map fr)) := (Up.app _).get hD List.not_mem_nil
    have hN1 : (st1 ++ [Ob.lst [fr 0]])[st1.length]? = some (.lst [fr 0]) := get_new
    have u1 : Up [] st (st1 ++ [Ob.lst [fr 0]]) := u.trans (Up.app _)
    have hs1 : (st1 ++ [Ob.lst [fr 0]]).length = st1.length + 1 := by simp
    generalize st1 ++ [Ob.lst [fr 0]] = st2 at hD1 hN1 u1 hs1 ⊢
    have hadd : gAdd (.ref D) (.ref st1.length) st2 = .ok (.ref st2.length) (st2 ++ [Ob.lst ((f ++ [0]).map fr)]) := by
      unfold gAdd
      simp only [hD1, hN1]
      rw [List.map_append, if_pos (by rw [List.length_map, lf, line_eq]; show i + 1 + 1 ≤ _; omega)]
      simp
    rw [hadd]
    have hM : listAt (st2 ++ [Ob.lst ((f ++ [0]).map fr)]) st2.length = some ((f ++ [0]).map fr) := listAt_new
    have u2 : Up [] st (st2 ++ [Ob.lst ((f ++ [0]).map fr)]) := u1.trans (Up.app _)
    generalize st2 ++ [Ob.lst ((f ++ [0]).map fr)] = st3 at hM u2 ⊢
    generalize st2.length = M at hM ⊢
    simp [-comp_e, hM, lf]
    refine (comp_range (i + 1 + 1) (fun j => fr (co f j + k * co f (i + 1 - j))) (by rw [line_eq]; omega) ?_ fun j st4 hj u4 => ?_).imp ?_
    · simp
      have e3 : (i : Int) + 1 + 1 = ((i + 1 + 1 : Nat) : Int) := rfl
      rw [e3]
      exact rng1_ok (by rw [line_eq]; omega)
    · have hM4 := u4.lst hM (by simp; exact Nat.ne_of_lt (lt_of_list hM))
      have e2 : (i : Int) + 1 - (j : Int) = ((i + 1 - j : Nat) : Int) := by omega
      have b1 : L2.atI ((f ++ [0]).map fr) (j : Int) = some (fr (co f j)) := by rw [← co_snoc0 (f := f)]; exact at_fr (by simp; omega)
      have b2 : L2.atI ((f ++ [0]).map fr) ((i + 1 - j : Nat) : Int) = some (fr (co f (i + 1 - j))) := by rw [← co_snoc0 (f := f)]; exact at_fr (by simp; omega)
      rw [List.map_append] at hM4 b1 b2
      simp at hM4 b1 b2
      simp [bodyC, hM4, b1, e2, b2]
      refine (law_times_ok kk (sf.sz (i + 1 - j)) (by omega)).imp ?_
      rintro p st7 ⟨rfl, u7⟩
      refine (law_plus_ok (sf.sz j) (sz_mul kk (sf.sz (i + 1 - j))) (by omega)).imp ?_
      rintro p st8 ⟨rfl, u8⟩
      exact ⟨rfl, u7.trans u8⟩
    · rintro p st6 ⟨rfl, e6, u6⟩
      exact ⟨⟨_, rfl, e6⟩, u2.trans u6⟩
  · exact ⟨⟨st.length, none, none, none, none, rfl, by rw [Nat.sub_zero, List.drop_length]; exact get_new⟩, Up.app _⟩
  · rintro ⟨fl, ρ⟩ st' ⟨e0, ⟨D, x2, x3, x4, x5, e1, h2⟩, u⟩
    simp only at e0 e1
    subst e0 e1
    simp
    refine (law_trim_ok (.inr ⟨_, rfl, listAt_of h2⟩) (by rw [bentL_len]; omega)).imp ?_
    rintro p st2 ⟨rfl, u2⟩
    exact ⟨rfl, u.trans u2⟩
end
end Pm
namespace Pm
open PySem Pe Pg Pl
section
variable {l : List Rat} {n : Nat}
end
end Pm
namespace Pm
open PySem Pe Pg Pl
section
variable {l : List Rat} {n : Nat}
end
end Pm
namespace Pm
open PySem Pe Pg Pl
theorem pdv_fr (q : Rat) : pdv (fr q) = pdR q := rfl
theorem toD_l {i : Nat} {st : Store} {a : List Rat} {m : Nat} (h : listAt st i = some (a.map fr)) (t : SzL m a) (hm : m ≤ 1900) : toD st (.ref i) = some (.list (a.map pdR)) := by
  show lookD st 8 i = _
  unfold lookD
  rw [h]
  dsimp only
  rw [(dts_frs hm t).rd, List.map_map]
  rfl
theorem gEq_ll {i j : Nat} {st : Store} {a b : List Rat} {m : Nat} {neg : Bool} (h1 : listAt st i = some (a.map fr)) (h2 : listAt st j = some (b.map fr)) (ta : SzL m a) (tb : SzL m b) (hm : m ≤ 1900) : gEq neg (.ref i) (.ref j) st = .ok (.bl (if neg then !decide (a = b) else decide (a = b))) st := by
  have sh : ∀ {c : List Rat}, SzL m c → SeqAt.shaped (.list (c.map pdR)) = true := fun {c} t => by
    have d := dts_frs hm t
    have hc := d.can
    have hd := d.depth
    rw [List.map_map] at hc hd
    unfold SeqAt.shaped
    have h2 : PyData.depth (.list (c.map pdR)) = PyData.depthAll (c.map pdR) + 1 := rfl
    have h3 : PyData.canLay0 (.list (c.map pdR)) = true := hc
    have h4 : PyData.depthAll (c.map pdR) ≤ 1 := hd
    rw [h3, h2, Bool.true_and, decide_eq_true_eq]
    omega
  unfold gEq
  have e : scP (.ref i) (.ref j) = none := rfl
  rw [e, toD_l h1 ta hm, toD_l h2 tb hm]
  dsimp only
  rw [if_pos ⟨sh ta, sh tb⟩]
  have e2 : PyData.eqv (.list (a.map pdR)) (.list (b.map pdR)) = decide (a = b) := eqv_all a b
  rw [e2]
/-- a drawn bend -/
def Bn (k : Rat) : Prop := Sz 4 k ∧ Lt1 k
theorem bn_of {x : Int} {y : Nat} (hy : y ≠ 0) (h8 : y ≤ 8) (hx : x.natAbs < y) : Bn (Rat.normalize x y hy) := by
  refine ⟨sz_norm hy (Nat.lt_of_lt_of_le hx (by omega)) (Nat.lt_of_le_of_lt h8 (by decide)), ?_⟩
  have e : Rat.normalize x y hy * (y : Rat) = (x : Rat) := by
    rw [Rat.normalize_eq_mkRat hy, Rat.mkRat_eq_div]
    refine Rat.div_mul_cancel fun e => ?_
    have h1 : (y : Rat).num = 0 := by rw [e]; rfl
    simp at h1
    exact hy h1
  generalize Rat.normalize x y hy = q at e ⊢
  have y0 : (0 : Rat) < (y : Rat) := Rat.natCast_pos.mpr (by omega)
  have x1 : (x : Rat) < ((y : Int) : Rat) := Rat.intCast_lt_intCast.mpr (by omega)
  have x2 : ((-(y : Int) : Int) : Rat) < (x : Rat) := Rat.intCast_lt_intCast.mpr (by omega)
  rw [Rat.intCast_natCast] at x1
  rw [Rat.intCast_neg, Rat.intCast_natCast] at x2
  rw [← e] at x1 x2
  constructor
  · refine (Rat.mul_lt_mul_right y0).mp ?_
    rw [Rat.neg_mul, Rat.one_mul]
    exact x2
  · refine (Rat.mul_lt_mul_right y0).mp ?_
    rw [Rat.one_mul]
    exact x1
theorem fr_half : PV.tup [PV.int (-1), PV.int 2] = fr (-1 / 2) := by
  have h1 : (-1 / 2 : Rat).num = -1 := by decide +kernel
  have h2 : (-1 / 2 : Rat).den = 2 := by decide +kernel
  unfold fr
  rw [h1, h2]
  rfl
theorem bn_half : Bn (-1 / 2) := ⟨⟨by decide +kernel, by decide +kernel⟩, by decide +kernel, by decide +kernel⟩
def isBends (v : PV) : Prop := ∃ l, v = rw l ∧ (∀ k ∈ l, Bn k) ∧ (l ≠ [] → co l 0 ≠ 0) ∧ l.length ≤ 5
end Pm
namespace Pm
open PySem Pe Pg Pl
/-! ### the law's machines: bends, calm and wild rows -/
/-- the row of some bends, the bends in a list -/
theorem law_bent_ls {l : List Rat} {n D0 : Nat} {st : Store} (hl : listAt st D0 = some (l.map fr)) (h : ∀ k ∈ l, Sz n k) (hs : 4 * (l.length * (n + 1)) + 4 * n + 100 ≤ 400000 ∧ l.length ≤ 100) : Rn (f__law_bent [.ref D0] st) fun p st' => p = rw (trim (bentL l)) ∧ Up [] st st' := by
  have sb := fun i => sz_drop h i
  have sk : ∀ j, j < l.length → Sz n (co l j) := fun j hj => by
    rw [co_of (List.getElem?_eq_getElem hj)]
    exact h _ (List.getElem_mem hj)
  have e10 : PV.tup [PV.int 1, PV.int 1] = fr 1 := fr_one.symm
  have hD0 := lt_of_list hl
  have hl1 : listAt (st ++ [Ob.lst [fr 1]]) D0 = some (l.map fr) := (Up.app (R := []) _).lst hl (by simp)
  have hrev : ∀ ρr : Pe.Env, xRevL (xLoc 0) (some (.ref D0) :: ρr) (st ++ [Ob.lst [fr 1]]) = .ok (.ref (st.length + 1)) (st ++ [Ob.lst [fr 1]] ++ [Ob.lst (l.map fr).reverse]) := fun ρr => by
    unfold xRevL
    simp [hl1]
  have hl2 : listAt (st ++ [Ob.lst [fr 1], Ob.lst (l.map fr).reverse]) (st.length + 1) = some (l.map fr).reverse := listAt_of (by simp)
  simp [-comp_e, f__law_bent, t__law_bent, e__law_bent, sizeLine, sFor, e10, hrev, seqIt, hl2]
  refine (forD_rule (Q := fun r st' => r.1 = Fl.nx ∧ (∃ D x2 x3 x4 x5, r.2 = [some (.ref D0), some (.ref D), x2, x3, x4, x5] ∧ st'[D]? = some (.lst ((bentL l).map fr))) ∧ Up [] st st')
    (fun i ρ st' => (∃ D x2 x3 x4 x5, ρ = [some (.ref D0), some (.ref D), x2, x3, x4, x5] ∧ st'[D]? = some (.lst ((bentL (l.drop (l.length - i))).map fr))) ∧ Up [] st st' ∧ st'[st.length + 1]? = some (.lst (l.map fr).reverse)) (l.map fr).reverse ?_ ?_ ?_ ?_ (fuel_line (by rw [line_eq]; simp; omega))).imp ?_
  · rintro i ρ st' ⟨_, _, hr⟩
    unfold liveL
    rw [listAt_of hr]
    rfl
  · rintro ρ st' ⟨⟨D, x2, x3, x4, x5, rfl, h1⟩, u, _⟩
    rw [List.length_reverse, List.length_map, Nat.sub_self, List.drop_zero] at h1
    exact ⟨rfl, ⟨D, x2, x3, x4, x5, rfl, h1⟩, u⟩
  · rintro i p ρ st1 hp ⟨⟨D, x2, x3, x4, x5, rfl, hD⟩, u, hr⟩
    obtain ⟨hi, rfl⟩ := get_rev hp
    have e1 : l.drop (l.length - (i + 1)) = l.drop (l.length - 1 - i) := by rw [show l.length - (i + 1) = l.length - 1 - i by omega]
    have sf := sb (l.length - i)
    have kk := sk (l.length - 1 - i) (by omega)
    have ed := bent_drop hi
    have lf : (bentL (l.drop (l.length - i))).length = i + 1 := by rw [bentL_len, List.length_drop]; omega
    rw [e1, ed, up_map]
    generalize bentL (l.drop (l.length - i)) = f at *
    generalize co l (l.length - 1 - i) = k at *
    have z0 : PV.tup [PV.int 0, PV.int 1] = fr 0 := fr_zero.symm
    simp [-comp_e, z0, sizeLine, lf]
    have hD1 : (st1 ++ [Ob.lst [fr 0]])[D]? = some (.lst (f.map fr)) := (Up.app _).get hD List.not_mem_nil
    have hN1 : (st1 ++ [Ob.lst [fr 0]])[st1.length]? = some (.lst [fr 0]) := get_new
    have u1 : Up [] st1 (st1 ++ [Ob.lst [fr 0]]) := (Up.app _)
    have hs1 : (st1 ++ [Ob.lst [fr 0]]).length = st1.length + 1 := by simp
    generalize st1 ++ [Ob.lst [fr 0]] = st2 at hD1 hN1 u1 hs1 ⊢
    have hadd : gAdd (.ref D) (.ref st1.length) st2 = .ok (.ref st2.length) (st2 ++ [Ob.lst ((f ++ [0]).map fr)]) := by
      unfold gAdd
      simp only [hD1, hN1]
      rw [List.map_append, if_pos (by rw [List.length_map, lf, line_eq]; show i + 1 + 1 ≤ _; omega)]
      simp
    rw [hadd]
    have hM : listAt (st2 ++ [Ob.lst ((f ++ [0]).map fr)]) st2.length = some ((f ++ [0]).map fr) := listAt_new
    have u2 : Up [] st1 (st2 ++ [Ob.lst ((f ++ [0]).map fr)]) := u1.trans (Up.app _)
    generalize st2 ++ [Ob.lst ((f ++ [0]).map fr)] = st3 at hM u2 ⊢
    generalize st2.length = M at hM ⊢
    simp [-comp_e, hM, lf]
    refine (comp_range (i + 1 + 1) (fun j => fr (co f j + k * co f (i + 1 - j))) (by rw [line_eq]; omega) ?_ fun j st4 hj u4 => ?_).imp ?_
    · simp
      have e3 : (i : Int) + 1 + 1 = ((i + 1 + 1 : Nat) : Int) := rfl
      rw [e3]
      exact rng1_ok (by rw [line_eq]; omega)
    · have hM4 := u4.lst hM (by simp; exact Nat.ne_of_lt (lt_of_list hM))
      have e2 : (i : Int) + 1 - (j : Int) = ((i + 1 - j : Nat) : Int) := by omega
      have b1 : L2.atI ((f ++ [0]).map fr) (j : Int) = some (fr (co f j)) := by rw [← co_snoc0 (f := f)]; exact at_fr (by simp; omega)
      have b2 : L2.atI ((f ++ [0]).map fr) ((i + 1 - j : Nat) : Int) = some (fr (co f (i + 1 - j))) := by rw [← co_snoc0 (f := f)]; exact at_fr (by simp; omega)
      rw [List.map_append] at hM4 b1 b2
      simp at hM4 b1 b2
      simp [bodyC, hM4, b1, e2, b2]
      refine (law_times_ok kk (sf.sz (i + 1 - j)) (by omega)).imp ?_
      rintro p st7 ⟨rfl, u7⟩
      refine (law_plus_ok (sf.sz j) (sz_mul kk (sf.sz (i + 1 - j))) (by omega)).imp ?_
      rintro p st8 ⟨rfl, u8⟩
      exact ⟨rfl, u7.trans u8⟩
    · rintro p st6 ⟨rfl, e6, u6⟩
      exact ⟨⟨_, rfl, e6⟩, u.trans (u2.trans u6), (u2.trans u6).get hr List.not_mem_nil⟩
  · refine ⟨⟨st.length, none, none, none, none, rfl, ?_⟩, Up.app _, ?_⟩
    · rw [Nat.sub_zero, List.drop_length]
      simp
      rfl
    · simp
  · rintro ⟨fl, ρ⟩ st' ⟨e0, ⟨D, x2, x3, x4, x5, e1, h2⟩, u⟩
    simp only at e0 e1
    subst e0 e1
    simp
    refine (law_trim_ok (.inr ⟨_, rfl, listAt_of h2⟩) (by rw [bentL_len]; omega)).imp ?_
    rintro p st2 ⟨rfl, u2⟩
    exact ⟨rfl, u.trans u2⟩
/-- a bend of the law -/
def Bq (k : Rat) : Prop := Sz 3 k ∧ Lt1 k
def bqs : List Rat := [⟨1, 2, by decide, by decide⟩, ⟨-1, 2, by decide, by decide⟩, ⟨1, 3, by decide, by decide⟩, ⟨-2, 3, by decide, by decide⟩, ⟨0, 1, by decide, by decide⟩, ⟨3, 4, by decide, by decide⟩, ⟨-1, 4, by decide, by decide⟩, ⟨-3, 5, by decide, by decide⟩, ⟨1, 5, by decide, by decide⟩]
theorem bqs_ok : ∀ k ∈ bqs, Bq k := by
  have : ∀ k ∈ bqs, (k.num.natAbs < 2 ^ 3 ∧ k.den < 2 ^ 3) ∧ k.num.natAbs < k.den := by decide +kernel
  exact fun k hk => ⟨(this k hk).1, lt1_iff.mpr (this k hk).2⟩
theorem bend_dr {n : Nat} : Dr n f__law_bend [.ref n] fun v => ∃ q, v = fr q ∧ Bq q := fun st h => by
  simp [f__law_bend, t__law_bend, e__law_bend, sizeLine]
  have r := h.up (Up.app (R := []) (st := st) [Ob.lst (bqs.map fr)])
  refine (one_of_ok (m := st.length) (qs := bqs) r listAt_new (by have := h.lt; omega) (by decide) (by decide)).imp ?_
  rintro p st' ⟨q, hq, rfl, u, r'⟩
  exact ⟨⟨q, rfl, bqs_ok q hq⟩, (Up.app _).trans u, r'⟩
/-- a calm row -/
def isCalm (most : Nat) (v : PV) : Prop := ∃ l, v = rw (bentL l) ∧ (∀ k ∈ l, Bq k) ∧ (l ≠ [] → co l 0 ≠ 0) ∧ l.length ≤ most
theorem fr_half2 : PV.tup [PV.int 1, PV.int 2] = fr ⟨1, 2, by decide, by decide⟩ := rfl
theorem calm_dr {n most : Nat} (hm : most ≤ 20) : Dr n f__law_calm [.ref n, .int (most : Int)] (isCalm most) := fun st h => by
  simp [f__law_calm, t__law_calm, e__law_calm, sizeLine, sFor]
  generalize hD : st.length = D
  have hn := h.lt
  have hDn : D ≠ n := by omega
  have h0 : (st ++ [Ob.lst []])[D]? = some (.lst (([] : List Rat).map fr)) := by rw [← hD]; simp
  have r0 : Reel n (st ++ [Ob.lst []]) := h.up (Up.app _)
  have u0 : Up [n] st (st ++ [Ob.lst []]) := Up.app _
  generalize st ++ [Ob.lst []] = st1 at h0 r0 u0 ⊢
  refine (pull_ok r0 (by omega) (by omega)).imp ?_
  rintro p st2 ⟨d, rfl, d0, d1, u1, r1⟩
  have h1 := u1.get h0 (by simpa using hDn)
  have u2 := u0.trans u1
  obtain ⟨k, rfl⟩ : ∃ k : Nat, d = (k : Int) := ⟨d.toNat, by omega⟩
  have hr : ∀ st2 : Store, rng1It [.int (k : Int)] st2 = .ok (.fix (rngP 0 k)) st2 := fun st2 => rng1_ok (by rw [line_eq]; omega)
  simp [hr]
  refine (forL_rule (Q := fun r st' => r.1 = Fl.nx ∧ (∃ x1 x3, r.2 = [some (.ref n), x1, some (.ref D), x3]) ∧ (∃ l : List Rat, st'[D]? = some (.lst (l.map fr)) ∧ (∀ q ∈ l, Bq q) ∧ l.length = k) ∧ Up [n] st st' ∧ Reel n st')
    (fun i ρ st' => (∃ x1 x3, ρ = [some (.ref n), x1, some (.ref D), x3]) ∧ (∃ l : List Rat, st'[D]? = some (.lst (l.map fr)) ∧ (∀ q ∈ l, Bq q) ∧ l.length = i) ∧ Up [n] st st' ∧ Reel n st') ?_ ?_ ?_).imp ?_
  · rintro ρ st' ⟨h1, ⟨l, h2, h3, h5⟩, h6, h7⟩
    rw [rngP_len] at h5
    exact ⟨rfl, h1, ⟨l, h2, h3, h5⟩, h6, h7⟩
  · rintro i p ρ st3 hp ⟨⟨x1, x3, rfl⟩, ⟨l, h2, h3, h5⟩, h6, h7⟩
    have hi := (get_rng hp).1
    have ep := (get_rng hp).2
    subst ep
    have hL : isL (.ref D) st3 = true := by
      unfold isL
      dsimp only
      rw [listAt_of h2]
      rfl
    simp [hL]
    refine (bend_dr _ h7).imp ?_
    rintro p st4 ⟨⟨q, rfl, hq⟩, u4, r4⟩
    have h24 := u4.get h2 (by simpa using hDn)
    have hap : gApp (.ref D) [fr q] st4 = .ok .non (st4.set D (.lst (l.map fr ++ [fr q]))) := by
      unfold gApp
      simp only [h24]
      rw [if_pos (by rw [List.length_map, line_eq]; omega)]
    rw [hap]
    simp only [rn_ok]
    refine ⟨⟨l ++ [q], by rw [List.getElem?_set_self (lt_of_get h24)]; simp, fun y hy => ?_, by simp [h5]⟩, (h6.trans u4).late (by omega), ?_⟩
    · rcases List.mem_append.mp hy with z | z
      · exact h3 y z
      · simp at z; subst z; exact hq
    · obtain ⟨a, b, c, e, z⟩ := r4
      exact ⟨a, b, c, by rw [List.getElem?_set_ne hDn]; exact e, z⟩
  · exact ⟨⟨_, none, rfl⟩, ⟨[], h1, by simp, rfl⟩, u2, r1⟩
  · rintro ⟨fl, ρ⟩ st' ⟨e0, ⟨x1, x3, e1⟩, ⟨l, h2, h3, h4⟩, h5, h6⟩
    simp only at e0 e1
    subst e0 e1
    simp [listAt_of h2]
    have I2 : (st' ++ [Ob.lst []])[D]? = some (.lst (l.map fr)) := (Up.app (st := st') [Ob.lst []]).get h2 List.not_mem_nil
    have I3 : listAt (st' ++ [Ob.lst []]) st'.length = some (([] : List Rat).map fr) := listAt_new
    have I4 : Up [n] st (st' ++ [Ob.lst []]) := h5.trans (Up.app _)
    have I5 : Reel n (st' ++ [Ob.lst []]) := h6.up (Up.app _)
    have sl : SzL 3 l := fun q hq => (h3 q hq).1
    rw [gEq_ll (listAt_of I2) I3 sl (fun q hq => absurd hq List.not_mem_nil) (by omega)]
    generalize st' ++ [Ob.lst []] = st3 at I2 I4 I5 ⊢
    have fin : ∀ (l : List Rat) (st3 : Store), st3[D]? = some (.lst (l.map fr)) → Up [n] st st3 → Reel n st3 → (∀ q ∈ l, Bq q) → l.length = k → (l ≠ [] → co l 0 ≠ 0) → Rn (f__law_bent [.ref D] st3) fun p st' => isCalm most p ∧ Up [n] st st' ∧ Reel n st' := fun l st3 g1 g2 g3 g4 g5 g6 => by
      have hb := Nat.mul_le_mul_right (3 + 1) (show l.length ≤ 20 by omega)
      refine (law_bent_ls (listAt_of g1) (n := 3) (fun q hq => (g4 q hq).1) (by omega)).imp ?_
      rintro p st4 ⟨rfl, u⟩
      have tb : trim (bentL l) = bentL l := bent_tm g6
      rw [tb]
      exact ⟨⟨l, rfl, g4, g6, by omega⟩, g2.trans u.weak, g3.up u⟩
    by_cases l0 : l = []
    · subst l0
      simp [listAt_of I2]
      exact fin [] st3 I2 I4 I5 (by simp) h4 (fun e => absurd rfl e)
    · have hat : L2.atI (l.map fr) 0 = some (fr (co l 0)) := at_fr (F := l) (k := 0) (List.length_pos_iff.mpr l0)
      simp [l0, listAt_of I2, hat, fr_i0]
      by_cases c0 : co l 0 = 0
      · simp [c0]
        have lp := List.length_pos_iff.mpr l0
        have hx : L2.ixN (l.map fr).length 0 = some 0 := by
          unfold L2.ixN
          simp
          omega
        rw [fr_half2, setL_r I2, hx]
        simp only [rn_ok]
        have g1 : (st3.set D (.lst ((l.map fr).set 0 (fr ⟨1, 2, by decide, by decide⟩))))[D]? = some (.lst ((l.set 0 ⟨1, 2, by decide, by decide⟩).map fr)) := by
          rw [List.getElem?_set_self (lt_of_get I2), List.map_set]
        refine fin (l.set 0 ⟨1, 2, by decide, by decide⟩) _ g1 (I4.late (by omega)) ?_ (fun q hq => ?_) (by simp; omega) fun _ => ?_
        · obtain ⟨a, b, c, e, z⟩ := I5
          exact ⟨a, b, c, by rw [List.getElem?_set_ne hDn]; exact e, z⟩
        · rcases List.mem_or_eq_of_mem_set hq with z | z
          · exact h3 q z
          · rw [z]; exact bqs_ok _ (by decide +kernel)
        · rw [co_set lp]
          simp
          decide +kernel
      · simp [c0, listAt_of I2]
        exact fin l st3 I2 I4 I5 h3 h4 (fun _ => c0)
/-- a wild row -/
def wilds : List (List Int) := [[1, -2], [1, -1], [1, 1], [1, -3], [1, 2], [1, 0, 2], [1, 0, 1], [1, -1, 1], [1, -2, 2]]
def ri (l : List Int) : List Rat := l.map fun z => (⟨z, 1, by decide, by simp⟩ : Rat)
def isWild (v : PV) : Prop := ∃ w ∈ wilds, v = rw (ri w)
theorem whole_row_pu {l : List Int} (hl : l.length ≤ 100) : Pu f__law_whole_row [.tup (l.map PV.int)] (rw (ri l)) := fun st => by
  simp [-comp_e, f__law_whole_row, t__law_whole_row, e__law_whole_row]
  refine (comp_seq (qs := l.map PV.int) (i := 0) (fun i => fr ((ri l).getD i 0)) (by rw [line_eq]; simp; omega) rfl fun i p st2 hp u => ?_).imp ?_
  · rw [List.getElem?_map] at hp
    obtain ⟨z, hz, rfl⟩ := Option.map_eq_some_iff.mp hp
    simp [bodyC]
    have : (ri l)[i]?.getD 0 = ⟨z, 1, by decide, by simp⟩ := by simp [ri, hz]
    rw [this]
    exact ⟨by rw [line_eq]; omega, rfl, .refl⟩
  · rintro p st' ⟨rfl, e, u⟩
    simp [listAt_of e]
    refine ⟨?_, u⟩
    show PV.tup _ = PV.tup _
    congr 1
    refine List.ext_getElem? fun i => ?_
    rw [List.getElem?_map, List.getElem?_map]
    by_cases h : i < l.length
    · rw [List.getElem?_range (by simpa using h)]
      have e1 : (ri l)[i]? = some ⟨l[i], 1, by decide, by simp⟩ := by simp [ri, h]
      simp [e1]
    · rw [List.getElem?_eq_none (by simp; omega), List.getElem?_eq_none (by simp [ri]; omega)]
      rfl
theorem one_of_any {n m : Nat} {st : Store} {qs : List PV} (h : Reel n st) (hm : listAt st m = some qs) (hne : m ≠ n) (h0 : 0 < qs.length) (h1 : qs.length ≤ 100) : Rn (f__law_one_of [.ref n, .ref m] st) fun p st' => p ∈ qs ∧ Up [n] st st' ∧ Reel n st' := by
  simp [f__law_one_of, t__law_one_of, e__law_one_of, hm]
  refine (pull_ok h (by omega) (by omega)).imp ?_
  rintro p st1 ⟨d, rfl, d0, d1, u, h1⟩
  obtain ⟨k, rfl⟩ : ∃ k : Nat, d = (k : Int) := ⟨d.toNat, by omega⟩
  have hk : k < qs.length := by omega
  have hat : L2.atI qs (k : Int) = some qs[k] := by
    rw [at_nat hk, List.getElem?_eq_getElem hk]
  simp [u.lst hm (by simpa using hne), hat]
  exact ⟨u, h1⟩
theorem wild_dr {n : Nat} : Dr n f__law_wild [.ref n] isWild := fun st h => by
  simp [f__law_wild, t__law_wild, e__law_wild, sizeLine]
  refine (pull_ok h (by omega) (by omega)).imp ?_
  rintro p st1 ⟨d, rfl, d0, d1, u1, r1⟩
  have go : ∀ (ws : List (List Int)), (∀ w ∈ ws, w ∈ wilds) → 0 < ws.length → ws.length ≤ 100 → Rn (f__law_one_of [.ref n, .ref st1.length] (st1 ++ [Ob.lst (ws.map fun w => .tup (w.map PV.int))])) fun p st2 => Rn (f__law_whole_row [p] st2) fun p st' => isWild p ∧ Up [n] st st' ∧ Reel n st' := fun ws hw h0 h1 => by
    have r := r1.up (Up.app (R := []) (st := st1) [Ob.lst (ws.map fun w => .tup (w.map PV.int))])
    refine (one_of_any (m := st1.length) r listAt_new (by have := r1.lt; omega) (by simpa using h0) (by simpa using h1)).imp ?_
    rintro p st2 ⟨hp, u2, r2⟩
    obtain ⟨w, hw1, rfl⟩ := List.mem_map.mp hp
    have hl : w.length ≤ 100 := by
      have : ∀ w ∈ wilds, w.length ≤ 100 := by decide
      exact this w (hw w hw1)
    refine (whole_row_pu hl _).imp ?_
    rintro p st3 ⟨rfl, u3⟩
    exact ⟨⟨w, hw w hw1, rfl⟩, (u1.trans (Up.app _)).trans (u2.trans u3.weak), r2.up u3⟩
  by_cases c : 0 < d
  · simp [c]
    exact go [[1, -2], [1, -1], [1, 1], [1, -3], [1, 2]] (by decide) (by decide) (by decide)
  · simp [c]
    exact go [[1, 0, 2], [1, 0, 1], [1, -1, 1], [1, -2, 2]] (by decide) (by decide) (by decide)
end Pm
namespace Pm
open PySem Pe Pg Pl
/-! ### rows of wild and calm kind -/
theorem co_ri {w : List Int} (i : Nat) : co (ri w) i = ((w.getD i 0 : Int) : Rat) := by
  unfold co ri
  rw [List.getElem?_map]
  cases h : w[i]? with
  | none => simp [h]
  | some z => simp [h]
theorem sr_ri {w : List Int} {n : Nat} (hn : 1 ≤ n) (h : ∀ z ∈ w, z.natAbs < 2 ^ n) : Sr n (ri w) := by
  have two : 2 ≤ 2 ^ n := by have := Nat.pow_le_pow_right (n := 2) (by omega) hn; omega
  refine ⟨1, 2 ^ n - 1, by omega, by omega, by omega, fun i => ⟨w.getD i 0, ?_, ?_⟩⟩
  · rw [co_ri]
    have : ((1 : Nat) : Rat) = 1 := rfl
    rw [this, Rat.mul_one]
  · by_cases c : i < w.length
    · have := h w[i] (List.getElem_mem c)
      simp [c]
      omega
    · simp [c]
theorem wild_facts : ∀ w ∈ wilds, Tm (ri w) ∧ (ri w).length ≤ 3 ∧ (∀ z ∈ w, z.natAbs < 2 ^ 2) ∧ co (ri w) 0 = 1 ∧ (bnds 2 (ri w)).isSome = false := by
  unfold Tm
  decide +kernel
theorem isWild.row {v : PV} (h : isWild v) : ∃ W, v = rw W ∧ RW 2 3 W ∧ co W 0 = 1 ∧ ¬ Stdy W := by
  obtain ⟨w, hw, rfl⟩ := h
  obtain ⟨h1, h2, h3, h4, h5⟩ := wild_facts w hw
  refine ⟨_, rfl, ⟨h1, h2, sr_ri (by omega) h3⟩, h4, fun s => ?_⟩
  rw [stdy_iff (n := 2) (by omega) h4, h5] at s
  exact absurd s (by simp)
theorem isCalm.row {v : PV} {most : Nat} (h : isCalm most v) : ∃ C, v = rw C ∧ RW (1 + most * 4) (most + 1) C ∧ co C 0 = 1 ∧ Stdy C := by
  obtain ⟨l, rfl, h1, h2, h3⟩ := h
  refine ⟨_, rfl, ⟨bent_tm h2, by rw [bentL_len]; omega, (sr_bent l fun k hk => (h1 k hk).1).mono ?_⟩, bentL_zero l, sd_bent l fun k hk => (h1 k hk).2⟩
  have := Nat.mul_le_mul_right (3 + 1) h3
  omega
/-! ### the law's rows without a common divisor -/
noncomputable def copR : Nat → List Rat → List Rat → List Rat
  | 0, _, M => M
  | k + 1, N, M => if (gcdR N M).length = 1 then M else copR k N (quoR M (gcdR N M))
theorem cop_step {N M : List Rat} (tN : Tm N) (tM : Tm M) (m1 : co M 0 = 1) : Tm (gcdR N M) ∧ gcdR N M ≠ [] ∧ co (gcdR N M) 0 = 1 ∧ Tm (quoR M (gcdR N M)) ∧ co (quoR M (gcdR N M)) 0 = 1 ∧ ps M = ps (quoR M (gcdR N M)) * ps (gcdR N M) ∧ Dv (gcdR N M) N ∧ (quoR M (gcdR N M)).length + (gcdR N M).length = M.length + 1 := by
  have M0 := ne_of0 (U := M) (by rw [m1]; decide)
  obtain ⟨g1, g2, g3, g4, g5, _⟩ := gcdR_spec tN tM (.inr M0)
  have qm := quo_mul g1 g2 tM g5
  have qt := (div_spec M g1 g2).2.1
  have e : ps M = ps (quoR M (gcdR N M)) * ps (gcdR N M) := by rw [← ps_mulR, qm]
  have c0 : co (quoR M (gcdR N M)) 0 * co (gcdR N M) 0 = 1 := by
    have : co (mulR (quoR M (gcdR N M)) (gcdR N M)) 0 = 1 := by rw [qm, m1]
    rw [co_mulR] at this
    exact this
  have gz : co (gcdR N M) 0 ≠ 0 := fun z => by
    rw [z, Rat.mul_zero] at c0
    exact absurd c0 (by decide)
  have gone : co (gcdR N M) 0 = 1 := by rw [← fnz0 gz, g3]
  have qone : co (quoR M (gcdR N M)) 0 = 1 := by rw [gone, Rat.mul_one] at c0; exact c0
  have q0 := ne_of0 (U := quoR M (gcdR N M)) (by rw [qone]; decide)
  have ll := mulR_length qt g1 q0 g2
  rw [qm] at ll
  exact ⟨g1, g2, gone, qt, qone, e, g4, by omega⟩
theorem one_of_len {g : List Rat} (h : g.length = 1) (h1 : co g 0 = 1) : g = [1] := by
  cases g with
  | nil => simp at h
  | cons a l =>
    cases l with
    | nil =>
      have : a = 1 := h1
      rw [this]
    | cons b l => simp at h
theorem cop_gcd {N M : List Rat} (tN : Tm N) (tM : Tm M) (m1 : co M 0 = 1) (h : (gcdR N M).length = 1) : Cop N M := by
  have M0 := ne_of0 (U := M) (by rw [m1]; decide)
  obtain ⟨g1, g2, gone, _⟩ := cop_step tN tM m1
  obtain ⟨_, _, _, _, _, u, v, e⟩ := gcdR_spec tN tM (.inr M0)
  rw [one_of_len h gone, ps_one] at e
  exact ⟨u, v, e.symm⟩
theorem copR_spec : ∀ (k : Nat) {N M : List Rat}, Tm N → Tm M → co M 0 = 1 → M.length ≤ k → Tm (copR k N M) ∧ co (copR k N M) 0 = 1 ∧ Dv (copR k N M) M ∧ Cop N (copR k N M)
  | 0, N, M, tN, tM, m1, hk => by
    have M0 := ne_of0 (U := M) (by rw [m1]; decide)
    have := List.length_pos_iff.mpr M0
    omega
  | k + 1, N, M, tN, tM, m1, hk => by
    obtain ⟨g1, g2, gone, qt, qone, e, d, ll⟩ := cop_step tN tM m1
    unfold copR
    by_cases c : (gcdR N M).length = 1
    · rw [if_pos c]
      exact ⟨tM, m1, dv_refl, cop_gcd tN tM m1 c⟩
    · rw [if_neg c]
      have gp := List.length_pos_iff.mpr g2
      obtain ⟨h1, h2, h3, h4⟩ := copR_spec k tN qt qone (by omega)
      exact ⟨h1, h2, h3.trans (dv_of (q := gcdR N M) (by rw [e]; grind)), h4⟩
theorem fac_led {a g : List Rat} {n L t : Nat} (hA : RW n L a) (a1 : co a 0 = 1) (tg : Tm g) (g1 : co g 0 = 1) (d : Dv g a) (ht : 4 * L + 3 ≤ 2 ^ t) : RW (n + 2 * (t * L)) L g := by
  have gz : co g 0 ≠ 0 := by rw [g1]; decide
  exact (quo_fac_sz hA (ne_of0 (by rw [a1]; decide)) tg (ne_of0 gz) (by rw [fnz0 gz, g1]) d ht).2.1
theorem law_coprime_pu {N M : List Rat} {n m L K t S : Nat} [hN : RW n L N] [hM : RW m K M] (m1 : co M 0 = 1) (ht : 4 * K + 3 ≤ 2 ^ t) (hS : n ≤ S ∧ m + 2 * (t * K) ≤ S) (J : Nat) (hJ : L ≤ J + 1 ∧ K ≤ J + 1) (hs : EB J S + 4 ≤ 900000 ∧ 2 * (GB J S + 2) + 2 ≤ 900000 ∧ L ≤ 150 ∧ K ≤ 150 ∧ 10 * S + 1000 ≤ 900000) : Pu f__law_coprime [rw N, rw M] (rw (copR (M.length + 1) N M)) := fun st => by
  have l1 := hM.len
  obtain ⟨R, hR⟩ : ∃ R, R = copR (M.length + 1) N M := ⟨_, rfl⟩
  rw [← hR]
  have e2 : gLen [rw M] st = .ok (.int (M.length : Int)) st := Sq.len (.inl rfl)
  have hr : rng1It [.int ((M.length : Int) + 1)] st = .ok (.fix (rngP 0 (M.length + 1))) st := by
    have e : (M.length : Int) + 1 = ((M.length + 1 : Nat) : Int) := rfl
    rw [e]
    exact rng1_ok (by rw [line_eq]; omega)
  have hN2 : RW S L N := hN.mono hS.1 (Nat.le_refl _)
  simp [f__law_coprime, t__law_coprime, e__law_coprime, sFor, e2, hr]
  refine (forL_rule (Q := fun r st' => r.1 = Fl.nx ∧ (∃ x2 x3, r.2 = [some (rw N), some (rw R), x2, x3]) ∧ Up [] st st')
    (fun i ρ st' => (∃ A x2 x3, ρ = [some (rw N), some (rw A), x2, x3] ∧ Tm A ∧ co A 0 = 1 ∧ Dv A M ∧ copR (M.length + 1 - i) N A = R) ∧ Up [] st st') ?_ ?_ ?_).imp ?_
  · rintro ρ st' ⟨⟨A, x2, x3, rfl, _, _, _, e⟩, u⟩
    rw [rngP_len, Nat.sub_self] at e
    have e : A = _ := e
    rw [← e]
    exact ⟨rfl, ⟨_, _, rfl⟩, u⟩
  · rintro i p ρ st1 hp ⟨⟨A, x2, x3, rfl, tA, a1, dA, e⟩, u⟩
    have hi := (get_rng hp).1
    have A0 := ne_of0 (U := A) (by rw [a1]; decide)
    have hA : RW S K A := (fac_led hM m1 tA a1 dA ht).mono hS.2 (Nat.le_refl _)
    simp
    refine (law_divisor_pu (ha := hN2) (hb := hA) J (.inr A0) (lenJ hN2 hA (.inr A0) hJ) (by rw [Nat.max_self]; omega)).go0 u ?_
    intro st u
    obtain ⟨g1, g2, gone, qt, qone, eM, dG, ll⟩ := cop_step hN.tm tA a1
    have eg : gLen [rw (gcdR N A)] st = .ok (.int ((gcdR N A).length : Int)) st := Sq.len (.inl rfl)
    simp [eg]
    obtain ⟨j, hj⟩ : ∃ j, M.length + 1 - i = j + 1 := ⟨M.length - i, by omega⟩
    rw [hj] at e
    unfold copR at e
    by_cases c : (gcdR N A).length = 1
    · have c' : ((gcdR N A).length : Int) = 1 := by omega
      rw [if_pos c] at e
      simp [c']
      rw [← e]
      exact ⟨rfl, u⟩
    · have c' : ¬ ((gcdR N A).length : Int) = 1 := by omega
      rw [if_neg c] at e
      simp [c']
      have hG : RW S K (gcdR N A) := (fac_led hM m1 g1 gone ((dv_of (q := quoR A (gcdR N A)) eM).trans dA) ht).mono hS.2 (Nat.le_refl _)
      have hQ : RW S K (quoR A (gcdR N A)) := (fac_led hM m1 qt qone ((dv_of (q := gcdR N A) (by rw [eM]; grind)).trans dA) ht).mono hS.2 (Nat.le_refl _)
      refine (law_parted_is (r := []) (nr := 1) (Lr := 0) (LA := K) hA.len (by rw [eM, ps_nil]; grind) hQ RW.nil hG (List.length_pos_iff.mpr g2) (by omega)).go0 u ?_
      intro st u
      simp
      refine ⟨⟨_, rfl, qt, qone, (dv_of (q := gcdR N A) (by rw [eM]; grind)).trans dA, ?_⟩, u⟩
      rw [show M.length - i = j by omega]
      exact e
  · exact ⟨⟨M, none, none, rfl, hM.tm, m1, dv_refl, hR.symm⟩, .refl⟩
  · rintro ⟨fl, ρ⟩ st' ⟨e0, ⟨x2, x3, e1⟩, u⟩
    simp only at e0 e1
    subst e0 e1
    simp
    exact u
end Pm
namespace Pm
open PySem Pe Pg Pl
/-! ### the law's cores and hidden parts -/
structure Core (S K : Nat) (N M : List Rat) : Prop where
  rn : RW 16 5 N
  rm : RW S K M
  n0 : N ≠ []
  z : co N 0 = 0
  m1 : co M 0 = 1
  cop : Cop N M
def isCore (S K : Nat) (v : PV) : Prop := ∃ N M, v = .tup [rw N, rw M] ∧ Core S K N M
theorem sh_zero {k : Nat} {N : List Rat} (n0 : N ≠ []) (h : 0 < k) : co (shR k N) 0 = 0 := by
  unfold shR
  rw [if_neg n0, co_app0]
  simp [h]
  intro e
  omega
theorem core_tail {n most S K J : Nat} {st0 st : Store} {fs : List (Nat × List PV)} {N : List Rat} {way x4 x5 : Option PV} (hN : RW 16 3 N) (n0 : N ≠ []) (I : Iv n st0 fs st) (hm : most ≤ 2) (hK : 1 + 2 * most ≤ K) {t : Nat} (ht : 4 * K + 3 ≤ 2 ^ t) (hS : 1 + 10 * most + most * most + 2 * (t * K) ≤ S ∧ 16 ≤ S) (hJ : 5 ≤ J + 1 ∧ K ≤ J + 1) (hs : EB J S + 4 ≤ 900000 ∧ 2 * (GB J S + 2) + 2 ≤ 900000 ∧ 5 ≤ 150 ∧ K ≤ 150 ∧ 10 * S + 1000 ≤ 900000) :
    Rn (Ts.m e__law_core t__law_core_3 [some (.ref n), some (.int (most : Int)), way, some (rw N), x4, x5] st) fun a st => Rn (match a.1 with
      | Fl.nx => Res.ok PV.non st
      | Fl.rt p => Res.ok p st
      | _ => Res.bad) fun p st' => isCore S K p ∧ Up [n] st0 st' ∧ Reel n st' := by
  have tail : ∀ (k : Nat) (st : Store), 1 ≤ k ∧ k ≤ 2 → Iv n st0 fs st → Rn (f__law_later [rw N, .int (k : Int)] st) fun p st => Rn (Ts.m e__law_core t__law_core_4 [some (.ref n), some (.int (most : Int)), way, some p, some (rw [1]), x5] st) fun a st => Rn (match a.1 with
      | Fl.nx => Res.ok PV.non st
      | Fl.rt p => Res.ok p st
      | _ => Res.bad) fun p st' => isCore S K p ∧ Up [n] st0 st' ∧ Reel n st' := fun k st hk I => by
    refine (law_later_pu (hl := hN) (by omega)).go I ?_
    intro st I
    have rN : RW 16 5 (shR k N) := hN.sh.mono (Nat.le_refl _) (by omega)
    have sN0 : shR k N ≠ [] := by
      unfold shR
      rw [if_neg n0]
      cases N with
      | nil => exact absurd rfl n0
      | cons a l => simp
    have sz := sh_zero (k := k) n0 (by omega)
    generalize shR k N = Z at rN sN0 sz ⊢
    simp [t__law_core_4, te_call, sizeLine, sFor, e__law_core]
    refine (pull_dr (by omega) (by omega)).go I ?_
    rintro _ st ⟨d, rfl, d0, d1⟩ I
    obtain ⟨j, rfl⟩ : ∃ j : Nat, d = (j : Int) := ⟨d.toNat, by omega⟩
    have hr : ∀ st2 : Store, rng1It [.int (j : Int)] st2 = .ok (.fix (rngP 0 j)) st2 := fun st2 => rng1_ok (by rw [line_eq]; omega)
    simp [hr]
    refine (forL_rule (Q := fun r st' => r.1 = Fl.nx ∧ (∃ M x5, r.2 = [some (.ref n), some (.int (most : Int)), way, some (rw Z), some (rw M), x5] ∧ RW (1 + 10 * most + most * most) K M ∧ co M 0 = 1) ∧ Iv n st0 fs st')
      (fun i ρ st' => (∃ M x5, ρ = [some (.ref n), some (.int (most : Int)), way, some (rw Z), some (rw M), x5] ∧ RW (1 + 10 * i + i * i) (1 + 2 * i) M ∧ co M 0 = 1) ∧ Iv n st0 fs st') ?_ ?_ ?_).imp ?_
    · rintro ρ st' ⟨⟨M, x5, rfl, h1, h2⟩, I⟩
      rw [rngP_len] at h1
      have := Nat.mul_le_mul (show j ≤ most by omega) (show j ≤ most by omega)
      exact ⟨rfl, ⟨M, x5, rfl, h1.mono (by omega) (by omega), h2⟩, I⟩
    · rintro i p ρ st1 hp ⟨⟨M, x5, rfl, h1, h2⟩, I⟩
      have hi := (get_rng hp).1
      have e0 : (i + 1) * (i + 1) = i * i + 2 * i + 1 := by grind
      have i2 : i * i ≤ 4 := Nat.mul_le_mul (show i ≤ 2 by omega) (show i ≤ 2 by omega)
      have go : ∀ (B : List Rat) (st : Store), RW 10 3 B → co B 0 = 1 → Iv n st0 fs st → Rn (f__law_product [rw M, rw B] st) fun p' st' => (∃ M' x5', [some (.ref n), some (.int (most : Int)), way, some (rw Z), some p', some p] = [some (.ref n), some (.int (most : Int)), way, some (rw Z), some (rw M'), x5'] ∧ RW (1 + 10 * (i + 1) + (i + 1) * (i + 1)) (1 + 2 * (i + 1)) M' ∧ co M' 0 = 1) ∧ Iv n st0 fs st' := fun B st hB b1 I => by
        refine (law_product_pu (ha := h1) (hb := hB) (by omega)).go I ?_
        intro st I
        refine ⟨⟨_, _, rfl, (h1.mul hB).mono (by omega) (by omega), ?_⟩, I⟩
        rw [co_mul0, h2, b1]
        decide +kernel
      simp
      refine (pull_dr (by omega) (by omega)).go I ?_
      rintro _ st ⟨e, rfl, e0, e1⟩ I
      by_cases c : 0 < e
      · simp [c]
        refine wild_dr.go I ?_
        intro v st hv I
        obtain ⟨W, rfl, hW, w1, _⟩ := hv.row
        simpa using go W st (hW.mono (by omega) (by omega)) w1 I
      · simp [c]
        have i1 : (1 : Int) = ((1 : Nat) : Int) := rfl
        rw [i1]
        refine (law_led_dr (by omega)).go I ?_
        rintro _ st ⟨W, rfl, hW, w1⟩ I
        simpa using go W st (hW.mono (by omega) (by omega)) w1 I
    · exact ⟨⟨[1], _, rfl, RW.one, rfl⟩, I⟩
    · rintro ⟨fl, ρ⟩ st' ⟨e0, ⟨M, x5, e1, hM, m1⟩, I⟩
      simp only at e0 e1
      subst e0 e1
      simp [t__law_core_5, te_call, sizeLine, e__law_core]
      refine (law_coprime_pu (hN := rN) (hM := hM) m1 ht ⟨hS.2, hS.1⟩ J hJ hs).go I ?_
      intro st I
      obtain ⟨c1, c2, c3, c4⟩ := copR_spec (M.length + 1) rN.tm hM.tm m1 (by omega)
      exact ⟨⟨_, _, rfl, rN, (fac_led hM m1 c1 c2 c3 ht).mono hS.1 (Nat.le_refl _), sN0, sz, c2, c4⟩, I.up, I.reel⟩
  simp [t__law_core_3, te_call, sizeLine, e__law_core]
  refine (pull_dr (by omega) (by omega)).go I ?_
  rintro _ st ⟨d, rfl, d0, d1⟩ I
  by_cases c : d = 0
  · simp [c]
    exact tail 2 st (by omega) I
  · simp [c]
    exact tail 1 st (by omega) I
theorem core_dr {n most S K J t : Nat} (hm : most ≤ 2) (hK : 1 + 2 * most ≤ K) (ht : 4 * K + 3 ≤ 2 ^ t) (hS : 1 + 10 * most + most * most + 2 * (t * K) ≤ S ∧ 16 ≤ S) (hJ : 5 ≤ J + 1 ∧ K ≤ J + 1) (hs : EB J S + 4 ≤ 900000 ∧ 2 * (GB J S + 2) + 2 ≤ 900000 ∧ 5 ≤ 150 ∧ K ≤ 150 ∧ 10 * S + 1000 ≤ 900000) : Dr n f__law_core [.ref n, .int (most : Int)] (isCore S K) := fun st0 hr => by
  simp [f__law_core, t__law_core, e__law_core, te_call, sizeLine]
  refine (pull_dr (by omega) (by omega)).go (.of hr) ?_
  rintro _ st ⟨d, rfl, d0, d1⟩ I
  refine some_dr.go I ?_
  rintro _ st ⟨q, rfl, hq, hz⟩ I
  have rq : RW 5 1 [q] := RW.sing hq.1 hz
  have eq1 : PV.tup [fr q] = rw [q] := rfl
  rw [eq1]
  have q0 : ([q] : List Rat) ≠ [] := by simp
  simp [t__law_core_1, te_call, sizeLine]
  by_cases c0 : d = 0
  · subst c0
    simp
    refine wild_dr.go I ?_
    intro v st hv I
    obtain ⟨W, rfl, hW, w1, _⟩ := hv.row
    refine (law_product_pu (ha := rq) (hb := hW) (by omega)).go I ?_
    intro st I
    simp [t__law_core_2, te_call, sizeLine]
    exact core_tail ((rq.mul hW).mono (by omega) (by omega)) (mulR_ne rq.tm hW.tm q0 (ne_of0 (by rw [w1]; decide))) I hm hK ht hS hJ hs
  · simp [c0, t__law_core_2, te_call, sizeLine]
    by_cases c1 : d = 1
    · subst c1
      simp
      have i1 : (1 : Int) = ((1 : Nat) : Int) := rfl
      refine (law_led_dr (most := 1) (by omega)).go I ?_
      rintro _ st ⟨W, rfl, hW, w1⟩ I
      refine (law_product_pu (ha := rq) (hb := hW) (by omega)).go I ?_
      intro st I
      exact core_tail ((rq.mul hW).mono (by omega) (by omega)) (mulR_ne rq.tm hW.tm q0 (ne_of0 (by rw [w1]; decide))) I hm hK ht hS hJ hs
    · simp [c1]
      exact core_tail (rq.mono (by omega) (by omega)) q0 I hm hK ht hS hJ hs
theorem core1_dr {n : Nat} : Dr n f__law_core [.ref n, .int 1] (isCore 36 3) := core_dr (most := 1) (t := 4) (J := 4) (by decide) (by decide) (by decide) (by decide) (by decide) (by decide)
theorem core2_dr {n : Nat} : Dr n f__law_core [.ref n, .int 2] (isCore 75 5) := core_dr (most := 2) (t := 5) (J := 4) (by decide) (by decide) (by decide) (by decide) (by decide) (by decide)
/-- a hidden part -/
def isHid (v : PV) : Prop := ∃ H c, v = .tup [rw H, .bl c] ∧ RW 5 3 H ∧ co H 0 = 1 ∧ (c = true ↔ Stdy H)
theorem stdy_one : Stdy [1] := sd_bent [] (by simp)
theorem hidden_dr {n : Nat} : Dr n f__law_hidden [.ref n] isHid := fun st0 hr => by
  simp [f__law_hidden, t__law_hidden, e__law_hidden, te_call, sizeLine]
  refine (pull_dr (by omega) (by omega)).go (.of hr) ?_
  rintro _ st ⟨d, rfl, d0, d1⟩ I
  simp [t__law_hidden_1, te_call, sizeLine]
  by_cases c0 : d < 2
  · simp [c0]
    exact ⟨⟨[1], true, rfl, RW.one.mono (by omega) (by omega), rfl, by simp [stdy_one]⟩, I.up, I.reel⟩
  · simp [c0, t__law_hidden_2, te_call, sizeLine]
    by_cases c1 : d = 2
    · subst c1
      simp
      refine (calm_dr (most := 1) (by omega)).go I ?_
      intro v st hv I
      obtain ⟨C, rfl, hC, h1, h2⟩ := hv.row
      exact ⟨⟨C, true, rfl, hC.mono (by omega) (by omega), h1, by simp [h2]⟩, I.up, I.reel⟩
    · simp [c1]
      refine wild_dr.go I ?_
      intro v st hv I
      obtain ⟨C, rfl, hC, h1, h2⟩ := hv.row
      exact ⟨⟨C, false, rfl, hC.mono (by omega) (by omega), h1, by simp [h2]⟩, I.up, I.reel⟩
theorem law_machine_pu {N M H : List Rat} {n L m K h Lh : Nat} [hN : RW n L N] [hM : RW m K M] [hH : RW h Lh H] (hs : 2 * (n + h) + L + 1 ≤ 900000 ∧ 2 * (m + h) + K + 1 ≤ 900000 ∧ L ≤ 400 ∧ K ≤ 400 ∧ Lh ≤ 400) : Pu f__law_machine [.tup [rw N, rw M], rw H] (.tup [rw (mulR N H), rw (mulR M H)]) := fun st => by
  simp [f__law_machine, t__law_machine, e__law_machine, sizeLine]
  refine (law_product_pu (ha := hN) (hb := hH) (by omega)).go0 .refl ?_
  intro st u
  refine (law_product_pu (ha := hM) (hb := hH) (by omega)).go0 u ?_
  intro st u
  exact ⟨⟨rfl, rfl⟩, u⟩
end Pm
namespace Pm
open PySem Pe Pg Pl
/-! ### machines with a hidden part -/
structure Hm (S L J : Nat) (A B G a b : List Rat) : Prop where
  rA : RW S L A
  rB : RW S L B
  rG : RW S L G
  ra : RW S L a
  rb : RW S L b
  A0 : A ≠ []
  a0 : co A 0 = 0
  b1 : co B 0 = 1
  g1 : co G 0 = 1
  gcd : gcdR A B = G
  eA : ps A = ps a * ps G
  eB : ps B = ps b * ps G
  la : a.length ≤ J + 1
  lb : b.length ≤ J + 1
/-- the numbers that the divisions need -/
def HmF (S L J : Nat) : Prop := EB J S + 4 ≤ 900000 ∧ 2 * (GB J S + 2) + 2 ≤ 900000 ∧ L ≤ 150 ∧ 10 * S + 1000 ≤ 900000
instance {S L J : Nat} : Decidable (HmF S L J) := inferInstanceAs (Decidable (_ ∧ _ ∧ _ ∧ _))
section
variable {S L J : Nat} {A B G a b : List Rat}
theorem Hm.B0 (h : Hm S L J A B G a b) : B ≠ [] := ne_of0 (by rw [h.b1]; decide)
theorem Hm.G0 (h : Hm S L J A B G a b) : G ≠ [] := ne_of0 (by rw [h.g1]; decide)
theorem Hm.lens (h : Hm S L J A B G a b) : A.length ≤ J + (gcdU A B).length ∧ B.length ≤ J + (gcdU A B).length := by
  rw [← gcdRU h.rA.tm h.rB.tm, h.gcd]
  have Gp := List.length_pos_iff.mpr h.G0
  have lenX : ∀ {X x : List Rat}, Tm X → Tm x → ps X = ps x * ps G → x.length ≤ J + 1 → X.length ≤ J + G.length := fun {X x} tX tx e l => by
    have : X = mulR x G := tX.eq (tm_mulR _ _) (by rw [ps_mulR]; exact e)
    rw [this]
    have := mulR_len (a := x) (b := G)
    omega
  exact ⟨lenX h.rA.tm h.ra.tm h.eA h.la, lenX h.rB.tm h.rb.tm h.eB h.lb⟩
theorem Hm.lawDiv (h : Hm S L J A B G a b) (f : HmF S L J) : Pu f__law_divisor [rw A, rw B] (rw G) := by
  obtain ⟨f1, f2, f3, f4⟩ := f
  have := law_divisor_pu (ha := h.rA) (hb := h.rB) J (.inr h.B0) h.lens (by rw [Nat.max_self, Nat.max_self]; omega)
  rw [h.gcd] at this
  exact this
theorem Hm.lawQuoA (h : Hm S L J A B G a b) (f : HmF S L J) : Pu f__law_parted [rw A, rw G] (.tup [rw a, rw []]) := by
  obtain ⟨f1, f2, f3, f4⟩ := f
  exact law_parted_is (r := []) h.rA.len (by rw [ps_nil, h.eA]; grind) h.ra RW.nil h.rG (List.length_pos_iff.mpr h.G0) (by omega)
theorem Hm.lawQuoB (h : Hm S L J A B G a b) (f : HmF S L J) : Pu f__law_parted [rw B, rw G] (.tup [rw b, rw []]) := by
  obtain ⟨f1, f2, f3, f4⟩ := f
  exact law_parted_is (r := []) h.rB.len (by rw [ps_nil, h.eB]; grind) h.rb RW.nil h.rG (List.length_pos_iff.mpr h.G0) (by omega)
theorem Hm.is (h : Hm S L J A B G a b) (f : HmF S L J) : Pu f_is_machine [.tup [rw A, rw B]] (.bl true) := is_machine_pu (hA := h.rA) (hB := h.rB) h.b1 h.A0 h.a0 (by have := f.2.2.1; omega)
theorem Hm.check (h : Hm S L J A B G a b) (f : HmF S L J) : Pu f_check_machine [.tup [rw A, rw B]] .non := check_machine_pu (hA := h.rA) (hB := h.rB) h.b1 h.A0 h.a0 (by have := f.2.2.1; omega)
/-- steadiness of a led row -/
theorem scl_led {G : List Rat} (tG : Tm G) (g1 : co G 0 = 1) : sclR G (1 / co G 0) = G := Tm.eq (tm_sclR _ _) tG (by
  refine Ps.ext' fun k => ?_
  show co (sclR G (1 / co G 0)) k = co G k
  rw [co_sclR, g1]
  have : (1 / 1 : Rat) = 1 := by decide +kernel
  rw [this]
  grind)
/-- a machine without a common divisor, times a hidden part -/
theorem hm_of {N M H : List Rat} (rN : RW S L N) (rM : RW S L M) (rH : RW S L H) (rA : RW S L (mulR N H)) (rB : RW S L (mulR M H)) (n0 : N ≠ []) (z : co N 0 = 0) (m1 : co M 0 = 1) (h1 : co H 0 = 1) (cop : Cop N M) (lN : N.length ≤ J + 1) (lM : M.length ≤ J + 1) : Hm S L J (mulR N H) (mulR M H) H N M where
  rA := rA
  rB := rB
  rG := rH
  ra := rN
  rb := rM
  A0 := mulR_ne rN.tm rH.tm n0 (ne_of0 (by rw [h1]; decide))
  a0 := by rw [co_mul0, z]; grind
  b1 := by rw [co_mul0, m1, h1]; decide +kernel
  g1 := h1
  gcd := by
    obtain ⟨u, v, e⟩ := cop
    refine gcdR_is (u := u) (v := v) rA.tm rB.tm rH.tm (by rw [fnz0 (by rw [h1]; decide), h1]) (dv_of (q := N) (ps_mulR _ _)) (dv_of (q := M) (ps_mulR _ _)) ?_
    rw [ps_mulR, ps_mulR]
    generalize ps u = u at *
    generalize ps v = v at *
    generalize ps N = N at *
    generalize ps M = M at *
    generalize ps H = H at *
    have : H = (u * N + v * M) * H := by rw [e]; grind
    grind
  eA := ps_mulR _ _
  eB := ps_mulR _ _
  la := lN
  lb := lM
/-- any machine -/
theorem hm_any {A B : List Rat} {n K t : Nat} (rA : RW n K A) (rB : RW n K B) (A0 : A ≠ []) (a0 : co A 0 = 0) (b1 : co B 0 = 1) (ht : 4 * K + 3 ≤ 2 ^ t) (hJ : K ≤ J + 1) (hS : 2 * n + 2 * (t * K) ≤ S) : Hm S K J A B (gcdR A B) (quoR A (gcdR A B)) (quoR B (gcdR A B)) := by
  obtain ⟨g1, g2, gone, qt, qone, e, d, ll⟩ := cop_step rA.tm rB.tm b1
  have gz : co (gcdR A B) 0 ≠ 0 := by rw [gone]; decide
  have dB : Dv (gcdR A B) B := dv_of e
  obtain ⟨s1, s2, s3⟩ := quo_fac_sz rA A0 g1 g2 (by rw [fnz0 gz, gone]) d ht
  obtain ⟨t1, t2, t3⟩ := quo_fac_sz rB (ne_of0 (by rw [b1]; decide)) g1 g2 (by rw [fnz0 gz, gone]) dB ht
  exact ⟨rA.mono (by omega) (Nat.le_refl _), rB.mono (by omega) (Nat.le_refl _), s2.mono (by omega) (Nat.le_refl _), s1.mono (by omega) (Nat.le_refl _), t1.mono (by omega) (Nat.le_refl _), A0, a0, b1, gone, rfl,
    by rw [← ps_mulR, quo_mul g1 g2 rA.tm d], e, Nat.le_trans s1.len hJ, Nat.le_trans t1.len hJ⟩
end
end Pm
namespace Pm
open PySem Pe Pg Pl
/-! ### the law's base helms and closings -/
/-- the numbers of the walk to a base helm -/
def BaseF (n L K J S : Nat) : Prop := EB J n + 10 ≤ 900000 ∧ 2 * CB J n + 1000 ≤ 900000 ∧ 2 * (CB J n + (1 + GB J n) + (L + K) * (n + 1)) + 2 * n + 10 ≤ 900000 ∧ L ≤ 40 ∧ K ≤ 40 ∧ L ≤ J + 1 ∧ K ≤ J + 1 ∧ 10 * (S + n + 100) ≤ 900000
instance {n L K J S : Nat} : Decidable (BaseF n L K J S) := inferInstanceAs (Decidable (_ ∧ _ ∧ _ ∧ _ ∧ _ ∧ _ ∧ _ ∧ _))
section
variable {N M C A B P W : List Rat} {n L K J S : Nat}
theorem law_base_pu (rN : RW n L N) (rM : RW n K M) (n0 : co N 0 = 0) (m1 : co M 0 = 1) (cop : Cop N M) (h : Clo N M [1] P W) (rP : RW S K P) (rW : RW S L W) (f : BaseF n L K J S) : Pu f__law_base [rw N, rw M] (.tup [rw P, rw W]) := fun st => by
  obtain ⟨f1, f2, f3, f4, f5, f6, f7, f8⟩ := f
  have M0 := ne_of0 (U := M) (by rw [m1]; decide)
  have lN := rN.len
  have lM := rM.len
  have Mp := List.length_pos_iff.mpr M0
  have hJ := lenJ rN rM (.inr M0) ⟨f6, f7⟩
  obtain ⟨wc, gs, us⟩ := way_of rN.tm rM.tm rN.sr rM.sr hJ.1 hJ.2
  have g1 := (gcdU_spec rN.tm rM.tm).1
  have one := cop_one cop rN.tm rM.tm M0
  have gl : (gcdU N M).length = 1 := by rw [← gcdRU rN.tm rM.tm, one]; rfl
  have g0 : gcdU N M ≠ [] := List.length_pos_iff.mp (by omega)
  obtain ⟨U, hU⟩ : ∃ U, U = cuS (M.length + 1) N M [1] [] := ⟨_, rfl⟩
  rw [← hU] at us
  have uspec : ∃ w : List Rat, ps (gcdU N M) = ps U * ps N + ps w * ps M := by
    obtain ⟨w, hw⟩ := cuS_spec (M.length + 1) (u := [1]) (v := []) (x := N) (y := M) rN.tm rM.tm (by omega) ⟨[], by rw [ps_one, ps_nil]; grind⟩ ⟨[1], by rw [ps_one, ps_nil]; grind⟩
    exact ⟨w, by rw [hw, hU]⟩
  obtain ⟨f', cf⟩ := cof_of_chain rN.tm rM.tm M0 uspec
  have q1 : quoR M [1] = M := quo_is tm_one (by simp) rM.tm (by rw [ps_one]; grind)
  rw [one, q1] at cf
  have hP : modR (sclR U (1 / fnz (gcdU N M))) M = P := by
    have cl : Clo N M [1] (modR (sclR U (1 / fnz (gcdU N M))) M) f' := ⟨cf.te, cf.tf, by have := cf.len; rw [one, q1] at this; exact this, by have := cf.sum; rw [one] at this; exact this⟩
    exact (clo_uniq cop rM.tm M0 cl h).1
  have gone : fnz (gcdU N M) = co (gcdU N M) 0 := by
    have h1 := tm_last g1 g0
    rw [gl] at h1
    exact fnz0 h1
  have gc0 : co (gcdU N M) 0 ≠ 0 := by rw [← gone]; exact fnz_ne
  have uT : Tm U := by rw [hU]; exact tm_cuS _ _ _ _ _ tm_one tm_nil
  have ul : U.length + 1 ≤ M.length + L := by
    have := cuS_len (M.length + 1) (u := [1]) (v := []) (T := M.length + L + 1) rN.tm rM.tm M0 (by omega) (.inl rfl) (by simp; omega) (by simp; omega) (by omega)
    rw [← hU] at this
    omega
  obtain ⟨T, hT⟩ : ∃ T, T = N.length + M.length + 2 := ⟨_, rfl⟩
  have lenN : ∀ st2 : Store, gLen [rw N] st2 = .ok (.int (N.length : Int)) st2 := fun _ => Sq.len (.inl rfl)
  have lenM : ∀ st2 : Store, gLen [rw M] st2 = .ok (.int (M.length : Int)) st2 := fun _ => Sq.len (.inl rfl)
  have e3 : (N.length : Int) + (M.length : Int) + 2 = (T : Int) := by omega
  have hr : ∀ st2 : Store, rng1It [.int (T : Int)] st2 = .ok (.fix (rngP 0 T)) st2 := fun _ => rng1_ok (by rw [line_eq]; omega)
  have n1 : PV.tup [PV.tup [PV.int 1, PV.int 1]] = rw [1] := rfl
  have nn : PV.tup [] = rw [] := rfl
  simp [f__law_base, t__law_base, e__law_base, sizeLine, sFor, n1, lenN, lenM, e3, hr]
  refine (forL_rule (Q := fun r st' => r.1 = Fl.nx ∧ (∃ x3 x5 x6 x7 x8, r.2 = [some (rw N), some (rw M), some (rw (gcdU N M)), x3, some (rw U), x5, x6, x7, x8, none]) ∧ Up [] st st')
    (fun i ρ st' => (∃ a b u v x6 x7 x8, ρ = [some (rw N), some (rw M), some (rw a), some (rw b), some (rw u), some (rw v), x6, x7, x8, none] ∧ WayC (EB J n) (CB J n) (M.length + 1 - i) a b u v ∧ Tm a ∧ Tm b ∧ Tm u ∧ Tm v ∧ a.length ≤ 50 ∧ b.length ≤ 50 ∧ u.length + b.length ≤ 100 ∧ v.length + a.length ≤ 100 ∧ gcdU a b = gcdU N M ∧ cuS (M.length + 1 - i) a b u v = U) ∧ Up [] st st') ?_ ?_ ?_).imp ?_
  · rintro ρ st' ⟨⟨a, b, u, v, x6, x7, x8, rfl, w, ta, tb, tu, tv, la, lb, lu, lv, hg, hu⟩, z⟩
    rw [rngP_len, show M.length + 1 - T = 0 by omega] at w hu
    have w : b = [] := w
    subst w
    rw [gcdU_nil] at hg
    have hu : u = U := hu
    subst hg hu
    exact ⟨rfl, ⟨_, _, _, _, _, rfl⟩, z⟩
  · rintro i p ρ st1 hp ⟨⟨a, b, u, v, x6, x7, x8, rfl, w, ta, tb, tu, tv, la, lb, lu, lv, hg, hu⟩, z⟩
    by_cases b0 : b = []
    · subst b0
      rw [gcdU_nil] at hg
      rw [cuS_nil] at hu
      subst hg hu
      simp [gEq_rw_nil]
      exact z
    · simp [gEq_rw_nil, b0]
      obtain ⟨k, hk⟩ : ∃ k, M.length + 1 - i = k + 1 := by
        cases z : M.length + 1 - i with
        | zero => rw [z] at w; exact absurd w b0
        | succ k => exact ⟨k, rfl⟩
      rw [hk] at w hu
      obtain ⟨n', m', s, U', V', sa, sb, hl, hc, su, sv, hcc, w2⟩ := w b0
      have ha : RW n' 50 a := ⟨ta, la, sa⟩
      have hb : RW m' 50 b := ⟨tb, lb, sb⟩
      refine (law_parted_pu (ha := ha) (hb := hb) b0 hl (by omega)).go0 z ?_
      intro st z
      obtain ⟨e1, h2, h3, h4⟩ := div_spec a tb b0
      obtain ⟨z1, z2, z3⟩ := div_sz tb b0 sa sb hl
      have bl := List.length_pos_iff.mpr b0
      have ql : quoR a b = [] ∨ (quoR a b).length + b.length ≤ a.length + 1 := by
        by_cases q0 : quoR a b = []
        · exact .inl q0
        · exact .inr (q_len e1 h2 tb h4 q0)
      have ql2 : (quoR a b).length ≤ 50 := by
        rcases ql with q0 | q0
        · rw [q0]; exact Nat.zero_le _
        · omega
      have hq : RW (n' + s * (m' + 1) + m') 50 (quoR a b) := ⟨h2, ql2, z2⟩
      have hv : RW V' 100 v := ⟨tv, by omega, sv⟩
      have hu' : RW U' 100 u := ⟨tu, by omega, su⟩
      have hp : RW (n' + s * (m' + 1) + m' + V' + s) 200 (mulR (quoR a b) v) := ⟨tm_mulR _ _, by
        have : (mulR (quoR a b) v).length ≤ (quoR a b).length + v.length - 1 := mulR_len
        omega, z2.mulc sv z1 (co_mulR _ _)⟩
      simp
      refine (law_product_pu (ha := hq) (hb := hv) (by omega)).go0 z ?_
      intro st z
      refine (law_less_pu (ha := hu') (hb := hp) (by omega)).go0 z ?_
      intro st z
      rw [cuS_step k b0] at hu
      have hr : (modR a b).length ≤ a.length := mod_len ta tb b0
      have hless : (subR u (mulR (quoR a b) v)).length ≤ max u.length (mulR (quoR a b) v).length := subR_len
      have hml : (mulR (quoR a b) v).length ≤ (quoR a b).length + v.length - 1 := mulR_len
      refine ⟨⟨b, modR a b, v, subR u (mulR (quoR a b) v), ⟨rfl, rfl, rfl, rfl⟩, ?_, tb, h3, tv, tm_subR _ _, lb, by omega, by omega, ?_, by rw [← gcdU_step tb b0]; exact hg, ?_⟩, z⟩
      · rw [show M.length - i = k by omega]
        exact w2
      · rcases ql with q0 | q0
        · have : mulR (quoR a b) v = [] := by rw [q0]; exact ps_zero (tm_mulR _ _) (by rw [ps_mulR, ps_nil]; grind)
          rw [this] at hless ⊢
          simp at hless
          omega
        · omega
      · rw [show M.length - i = k by omega]
        exact hu
  · exact ⟨⟨N, M, [1], [], none, none, none, rfl, wc, rN.tm, rM.tm, tm_one, tm_nil, by omega, by omega, by simp; omega, by simp; omega, rfl, hU.symm⟩, .refl⟩
  · rintro ⟨fl, ρ⟩ st' ⟨e0, ⟨x3, x5, x6, x7, x8, e1⟩, z⟩
    simp only at e0 e1
    subst e0 e1
    have gat : ∀ st2 : Store, gIdx (rw (gcdU N M)) (.int 0) st2 = .ok (fr (co (gcdU N M) 0)) st2 := fun st2 => by
      have er : rw (gcdU N M) = .tup ((gcdU N M).map fr) := rfl
      have hat : L2.atI ((gcdU N M).map fr) 0 = some (fr (co (gcdU N M) 0)) := at_fr (F := gcdU N M) (k := 0) (by omega)
      rw [er]
      simp [hat]
    have f11 : PV.tup [PV.int 1, PV.int 1] = fr 1 := fr_one.symm
    have sx : Sz (1 + GB J n) (1 / co (gcdU N M) 0) := sz_div sz_one (gs.sz 0) gc0
    have rU : RW (CB J n) 100 U := ⟨uT, by omega, us⟩
    have rU2 : RW (CB J n + (1 + GB J n)) 100 (sclR U (1 / co (gcdU N M) 0)) := rU.scl sx
    have hs : (sclR U (1 / co (gcdU N M) 0)).length + 1 ≤ M.length + (L + K) := by
      have := sclR_len (a := U) (x := 1 / co (gcdU N M) 0)
      omega
    rw [gone] at hP
    simp [te_call, gat, f11, sizeLine]
    refine (law_over_pu sz_one (gs.sz 0) gc0 (by omega)).go0 z ?_
    intro st z
    refine (law_scaled_pu (ha := rU) sx (by omega)).go0 z ?_
    intro st z
    refine (law_parted_pu (ha := rU2) (hb := rM) M0 hs (by omega)).go0 z ?_
    intro st z
    rw [hP]
    simp
    refine (law_product_pu (ha := rN) (hb := rP) (by omega)).go0 z ?_
    intro st z
    have hnp : RW (n + S + L) (L + K) (mulR N P) := (rN.mul rP).mono (Nat.le_refl _) (by omega)
    refine (law_less_pu (ha := RW.one) (hb := hnp) (by omega)).go0 z ?_
    intro st z
    have hsub : (subR [1] (mulR N P)).length ≤ 100 := by
      have := subR_len (a := [1]) (b := mulR N P)
      have := hnp.len
      simp at *
      omega
    refine (law_parted_is (q := W) (r := []) hsub (by have := h.eq; rw [ps_subR, ps_mulR, ← this, ps_nil]; grind) rW RW.nil rM Mp (by omega)).go0 z ?_
    intro st z
    simp
    exact z
/-- the law's helm that closes a core to a row -/
theorem law_closed_pu {F : List Rat} {c Lc S' Lb e Le : Nat} (rN : RW n L N) (rM : RW n K M) (n0 : co N 0 = 0) (m1 : co M 0 = 1) (cop : Cop N M) (h : Clo N M [1] P W) (rP : RW S K P) (rW : RW S L W) (f : BaseF n L K J S) (k : Clo N M C A B) (rC : RW c Lc C) (rA : RW S' K A) (rB : RW S' Lb B) (rF : RW e Le F) (hs : 2 * ((c + S + Lc) + (Lc + K) * (n + 1)) + 2 * n + 10 ≤ 900000 ∧ Lc ≤ 40 ∧ Le ≤ 40 ∧ Lb ≤ 40 ∧ 10 * (S' + n + e + c + 100) ≤ 900000) :
    Pu f__law_closed [.tup [rw N, rw M], rw C, rw F] (.tup [rw (addR A (mulR M F)), rw (subR B (mulR N F))]) := fun st => by
  have f' := f
  obtain ⟨f1, f2, f3, f4, f5, f6, f7, f8⟩ := f'
  have M0 := ne_of0 (U := M) (by rw [m1]; decide)
  have Mp := List.length_pos_iff.mpr M0
  have lC := rC.len
  have lP := rP.len
  have hA := clo_mod_eq cop h rM.tm M0 k
  simp [f__law_closed, t__law_closed, e__law_closed, sizeLine, te_call]
  refine (law_base_pu rN rM n0 m1 cop h rP rW f).go0 .refl ?_
  intro st z
  simp
  refine (law_product_pu (ha := rC) (hb := rP) (by omega)).go0 z ?_
  intro st z
  have rCP : RW (c + S + Lc) (Lc + K) (mulR C P) := (rC.mul rP).mono (Nat.le_refl _) (by omega)
  refine (law_parted_pu (ha := rCP) (hb := rM) (s := Lc + K) M0 (by have := mulR_len (a := C) (b := P); omega) (by omega)).go0 z ?_
  intro st z
  rw [hA]
  simp
  refine (law_product_pu (ha := rN) (hb := rA) (by omega)).go0 z ?_
  intro st z
  have rNA : RW (n + S' + L) (L + K) (mulR N A) := (rN.mul rA).mono (Nat.le_refl _) (by omega)
  refine (law_less_pu (ha := rC) (hb := rNA) (by omega)).go0 z ?_
  intro st z
  have hsub : (subR C (mulR N A)).length ≤ 200 := by
    have := subR_len (a := C) (b := mulR N A)
    have := rNA.len
    omega
  refine (law_parted_is (q := B) (r := []) hsub (by have := k.eq; rw [ps_subR, ps_mulR, ← this, ps_nil]; grind) rB RW.nil rM Mp (by omega)).go0 z ?_
  intro st z
  simp
  refine (law_product_pu (ha := rM) (hb := rF) (by omega)).go0 z ?_
  intro st z
  have rMF : RW (n + e + K) (K + Le) (mulR M F) := (rM.mul rF).mono (Nat.le_refl _) (by omega)
  refine (law_sum_pu (ha := rA) (hb := rMF) (by omega)).go0 z ?_
  intro st z
  refine (law_product_pu (ha := rN) (hb := rF) (by omega)).go0 z ?_
  intro st z
  have rNF : RW (n + e + L) (L + Le) (mulR N F) := (rN.mul rF).mono (Nat.le_refl _) (by omega)
  refine (law_less_pu (ha := rB) (hb := rNF) (by omega)).go0 z ?_
  intro st z
  simp
  exact z
end
end Pm
namespace Pm
open PySem Pe Pg Pl
/-! ### answers by the small rows they come from, both rows told apart -/
structure An (a K b M : Nat) (A B : List Rat) : Prop where
  ra : RW a K A
  rb : RW b M B
  b0 : co B 0 ≠ 0
/-- the numbers a walk needs: X of the size n, Y of the size m, both of at most L numbers, over A of at most K, B of at most M -/
def Fit2 (n m L K M t : Nat) : Prop := 2 * (n + K * (m + 1)) + 2 * m + 10 ≤ 900000 ∧ EB (M - 1) (MB n m K) + 10 ≤ 900000 ∧ 2 * (GB (M - 1) (MB n m K) + 2) + 2 ≤ 900000 ∧ 4 * L + 3 ≤ 2 ^ t ∧ 20 * (n + m + t * L) + 1000 ≤ 400000 ∧ L ≤ 150
instance {n m L K M t : Nat} : Decidable (Fit2 n m L K M t) := inferInstanceAs (Decidable (_ ∧ _ ∧ _ ∧ _ ∧ _ ∧ _))
section
variable {A B X Y C D : List Rat} {n m L a K b M t : Nat}
theorem An.spec (o : An a K b M A B) : Nrm A B (nrmN A B) (nrmU A B) := nrm_spec o.ra.tm o.rb.tm o.b0
theorem An.u0 (o : An a K b M A B) : co (nrmU A B) 0 = 1 := o.spec.u0
theorem An.ulen (o : An a K b M A B) : (nrmU A B).length ≤ M := by
  obtain ⟨g, tg, h1, h2⟩ := o.spec.parts o.ra.tm o.rb.tm
  have B0 := ne_of0 o.b0
  have g0 : g ≠ [] := fun e => B0 (by rw [h2, e]; exact ps_zero (tm_mulR _ _) (by rw [ps_mulR, ps_nil]; grind))
  have U0 := ne_of0 (U := nrmU A B) (by rw [o.u0]; decide)
  have := mulR_length o.spec.tu tg U0 g0
  rw [← h2] at this
  have := List.length_pos_iff.mpr g0
  have := o.rb.len
  omega
theorem An.nlen (o : An a K b M A B) : (nrmN A B).length ≤ K := by
  obtain ⟨g, tg, h1, h2⟩ := o.spec.parts o.ra.tm o.rb.tm
  have B0 := ne_of0 o.b0
  have g0 : g ≠ [] := fun e => B0 (by rw [h2, e]; exact ps_zero (tm_mulR _ _) (by rw [ps_mulR, ps_nil]; grind))
  by_cases N0 : nrmN A B = []
  · rw [N0]; exact Nat.zero_le _
  have := mulR_length o.spec.tn tg N0 g0
  rw [← h1] at this
  have := List.length_pos_iff.mpr g0
  have := o.ra.len
  omega
/-- the rows of an answer -/
theorem An.rows (o : An a K b M A B) (ht : 4 * max K M + 3 ≤ 2 ^ t) : RW (2 * a + b + 2 * (t * max K M)) K (nrmN A B) ∧ RW (b + 2 * (t * max K M)) M (nrmU A B) := by
  obtain ⟨h1, h2⟩ := nrm_rw (o.ra.mono (Nat.le_refl _) (Nat.le_max_left K M)) (o.rb.mono (Nat.le_refl _) (Nat.le_max_right K M)) o.b0 t ht
  exact ⟨⟨h1.tm, o.nlen, h1.sr⟩, ⟨h2.tm, o.ulen, h2.sr⟩⟩
theorem an_eq {a' K' b' M' : Nat} (o : An a K b M A B) (o' : An a' K' b' M' C D) (e : ps A * ps D = ps C * ps B) : ans A B = ans C D := by
  obtain ⟨e1, e2⟩ := (nrm_eq o.ra.tm o.rb.tm o.b0 o'.ra.tm o'.rb.tm o'.b0).mpr e
  unfold ans
  rw [e1, e2]
/-- what is known of other rows of the same answer -/
theorem an_len (o : An a K b M A B) (tX : Tm X) (tY : Tm Y) (y0 : co Y 0 ≠ 0) (e : ps X * ps B = ps A * ps Y) : (nrmN X Y = nrmN A B ∧ nrmU X Y = nrmU A B) ∧ Y.length ≤ (M - 1) + (gcdU X Y).length ∧ (X ≠ [] → X.length + 1 ≤ Y.length + K) := by
  have q := (nrm_eq tX tY y0 o.ra.tm o.rb.tm o.b0).mpr e
  have Y0 := ne_of0 y0
  have B0 := ne_of0 o.b0
  refine ⟨q, ?_, fun X0 => ?_⟩
  · obtain ⟨g1, g2, g3, g4, g5, _⟩ := gcdR_spec tX tY (.inr Y0)
    have q0 := (nrm_gcd tX tY y0).1
    have qt := (div_spec Y g1 g2).2.1
    have l := o.ulen
    rw [← q.2] at l
    have l2 : (sclR (quoR Y (gcdR X Y)) (1 / co (quoR Y (gcdR X Y)) 0)).length ≤ M := l
    rw [sclR_length qt (inv_ne q0)] at l2
    have qm := quo_mul g1 g2 tY g5
    have z : quoR Y (gcdR X Y) ≠ [] := ne_of0 q0
    have := mulR_length qt g1 z g2
    rw [qm] at this
    rw [← gcdRU tX tY]
    have := List.length_pos_iff.mpr g2
    omega
  · have A0 : A ≠ [] := fun z => by
      rw [z, ps_nil] at e
      rcases mul_zero_or tX o.rb.tm (by rw [e]; grind) with h | h
      · exact X0 h
      · exact B0 h
    have e2 : mulR X B = mulR A Y := (tm_mulR _ _).eq (tm_mulR _ _) (by rw [ps_mulR, ps_mulR]; exact e)
    have l1 := mulR_length tX o.rb.tm X0 B0
    have l2 := mulR_length o.ra.tm tY A0 Y0
    rw [e2] at l1
    have := List.length_pos_iff.mpr B0
    have := o.ra.len
    omega
end
end Pm
namespace Pm
open PySem Pe Pg Pl
section
variable {A B X Y C D : List Rat} {n m L a K b M t : Nat}
theorem law_divisor_way_pu {W G : Nat} (hX : RW n L X) (hY : RW m L Y) (Y0 : Y ≠ []) (w : Way W (Y.length + 1) X Y) (gs : Sr G (gcdU X Y)) (hs : W + 10 ≤ 900000 ∧ 2 * (G + 2) + 2 ≤ 900000 ∧ L ≤ 150) : Pu f__law_divisor [rw X, rw Y] (rw (gcdR X Y)) := fun st => by
  have la := hX.len
  have lb := hY.len
  have g1 := (gcdU_spec hX.tm hY.tm).1
  have g0 := gcdU_ne hX.tm hY.tm (.inr Y0)
  have gl := gcdU_len hX.tm hY.tm la lb
  have gw : RW G 300 (gcdU X Y) := ⟨g1, by omega, gs⟩
  have one0 : ([1] : List Rat) ≠ [] := by simp
  obtain ⟨N, hN⟩ : ∃ N : Nat, N = X.length + Y.length + 2 := ⟨_, rfl⟩
  have e1 : ∀ st2 : Store, gLen [rw X] st2 = .ok (.int (X.length : Int)) st2 := fun _ => Sq.len (.inl rfl)
  have e2 : ∀ st2 : Store, gLen [rw Y] st2 = .ok (.int (Y.length : Int)) st2 := fun _ => Sq.len (.inl rfl)
  have e3 : (X.length : Int) + (Y.length : Int) + 2 = (N : Int) := by omega
  have hr : ∀ st2 : Store, rng1It [.int (N : Int)] st2 = .ok (.fix (rngP 0 N)) st2 := fun _ => rng1_ok (by rw [line_eq]; omega)
  simp [f__law_divisor, t__law_divisor, e__law_divisor, sFor, e1, e2, e3, hr]
  refine (forL_rule (Q := fun r st' => r.1 = Fl.nx ∧ (∃ x1 x2, r.2 = [some (rw (gcdU X Y)), x1, x2]) ∧ Up [] st st')
    (fun i ρ st' => (∃ a' b' x2, ρ = [some (rw a'), some (rw b'), x2] ∧ Way W (Y.length + 1 - i) a' b' ∧ Tm a' ∧ Tm b' ∧ a'.length ≤ 150 ∧ b'.length ≤ 150 ∧ gcdU a' b' = gcdU X Y) ∧ Up [] st st') ?_ ?_ ?_).imp ?_
  · rintro ρ st' ⟨⟨a', b', x2, rfl, w', ta', tb', la', lb', hg⟩, u⟩
    rw [rngP_len, show Y.length + 1 - N = 0 by omega] at w'
    have w' : b' = [] := w'
    subst w'
    rw [gcdU_nil] at hg
    subst hg
    exact ⟨rfl, ⟨_, _, rfl⟩, u⟩
  · rintro i p ρ st1 hp ⟨⟨a', b', x2, rfl, w', ta', tb', la', lb', hg⟩, u⟩
    by_cases b0 : b' = []
    · subst b0
      rw [gcdU_nil] at hg
      subst hg
      simp [gEq_rw_nil]
      exact u
    · simp [gEq_rw_nil, b0]
      obtain ⟨k, hk⟩ : ∃ k, Y.length + 1 - i = k + 1 := by
        cases z : Y.length + 1 - i with
        | zero => rw [z] at w'; exact absurd w' b0
        | succ k => exact ⟨k, rfl⟩
      rw [hk] at w'
      obtain ⟨n', m', s, sa, sb, hl, hc, w2⟩ := w' b0
      have ha : RW n' 150 a' := ⟨ta', la', sa⟩
      have hb : RW m' 150 b' := ⟨tb', lb', sb⟩
      refine (law_parted_pu (ha := ha) (hb := hb) b0 hl (by omega)).go0 u ?_
      intro st u
      simp
      obtain ⟨_, _, h3, h4⟩ := div_spec a' tb' b0
      refine ⟨⟨b', modR a' b', ⟨rfl, rfl⟩, ?_, tb', h3, lb', by omega, by rw [← gcdU_step tb' b0]; exact hg⟩, u⟩
      rw [show Y.length - i = k by omega]
      exact w2
  · exact ⟨⟨X, Y, none, rfl, w, hX.tm, hY.tm, by omega, by omega, rfl⟩, .refl⟩
  · rintro ⟨fl, ρ⟩ st' ⟨e0, ⟨x1, x2, e1⟩, u⟩
    simp only at e0 e1
    subst e0 e1
    simp
    refine (law_low_pu (ha := gw) g0 (by omega)).go0 u ?_
    intro st u
    exact ⟨rfl, u⟩
end
end Pm
namespace Pm
open PySem Pe Pg Pl
/-! ### loops of a machine and a helm -/
theorem repr_bl {b : Bool} {st : Store} : gRepr [.bl b] st = .ok (.str (if b then "True" else "False")) st := rfl
theorem add_ll {D E : Nat} {xs ys : List PV} {st : Store} (h1 : st[D]? = some (.lst xs)) (h2 : st[E]? = some (.lst ys)) (hl : xs.length + ys.length ≤ 1000) : gAdd (.ref D) (.ref E) st = .ok (.ref st.length) (st ++ [Ob.lst (xs ++ ys)]) := by
  unfold gAdd
  simp only [h1, h2]
  rw [if_pos (by rw [line_eq]; omega)]
  simp
/-- a machine's rows, a helm's rows, their closing row -/
structure Lp (S L : Nat) (N M A B c : List Rat) : Prop where
  rN : RW S L N
  rM : RW S L M
  rA : RW S L A
  rB : RW S L B
  rc : RW S L c
  N0 : N ≠ []
  n0 : co N 0 = 0
  m1 : co M 0 = 1
  b1 : co B 0 = 1
  eq : ps c = ps M * ps B + ps N * ps A
section
variable {S L : Nat} {N M A B c : List Rat}
theorem Lp.c1 (h : Lp S L N M A B c) : co c 0 = 1 := by
  have e := congrArg (fun f : Ps => f.c 0) h.eq
  have e1 : co c 0 = co M 0 * co B 0 + co N 0 * co A 0 := e
  rw [e1, h.n0, h.m1, h.b1]
  grind
theorem Lp.is (h : Lp S L N M A B c) : addR (mulR M B) (mulR N A) = c := (tm_addR _ _).eq h.rc.tm (by rw [ps_addR, ps_mulR, ps_mulR, h.eq])
/-- the numbers of a loop -/
def LpF (S L : Nat) : Prop := 40 * (S + L) + 5000 ≤ 900000 ∧ L ≤ 40
instance : Decidable (LpF S L) := inferInstanceAs (Decidable (_ ∧ _))
theorem Lp.closing_by (h : Lp S L N M A B c) (f : LpF S L) : Pu f_closing_by [.tup [rw N, rw M], .tup [rw A, rw B]] (rw c) := fun st => by
  obtain ⟨f1, f2⟩ := f
  simp [f_closing_by, t_closing_by, e_closing_by, sizeLine, te_call]
  refine (multiplied_pu (ha := h.rM) (hb := h.rB) (by omega)).go0 .refl ?_
  intro st z
  refine (multiplied_pu (ha := h.rN) (hb := h.rA) (by omega)).go0 z ?_
  intro st z
  have r1 : RW (S + S + L) (L + L) (mulR M B) := (h.rM.mul h.rB).mono (Nat.le_refl _) (by omega)
  have r2 : RW (S + S + L) (L + L) (mulR N A) := (h.rN.mul h.rA).mono (Nat.le_refl _) (by omega)
  refine (added_pu (ha := r1) (hb := r2) (by omega)).go0 z ?_
  intro st z
  rw [h.is]
  exact ⟨rfl, z⟩
theorem Lp.check_pair (h : Lp S L N M A B c) (f : LpF S L) : Pu f_check_pair [.tup [rw N, rw M], .tup [rw A, rw B]] .non := fun st => by
  obtain ⟨f1, f2⟩ := f
  simp [f_check_pair, t_check_pair, e_check_pair]
  refine (check_machine_pu (hA := h.rN) (hB := h.rM) h.m1 h.N0 h.n0 (by omega)).go0 .refl ?_
  intro st z
  refine (check_helm_pu (hA := h.rA) (hB := h.rB) h.b1 (by omega)).go0 z ?_
  intro st z
  exact z
theorem Lp.closing_row (h : Lp S L N M A B c) (f : LpF S L) : Pu f_closing_row [.tup [rw N, rw M], .tup [rw A, rw B]] (rw c) := fun st => by
  simp [f_closing_row, t_closing_row, e_closing_row]
  refine (h.check_pair f).go0 .refl ?_
  intro st z
  refine (h.closing_by f).go0 z ?_
  intro st z
  exact ⟨rfl, z⟩
end
/-! ### the four answers -/
noncomputable def four (P Q R C : List Rat) : PV := .tup [ans P C, ans Q C, ans R C, ans (sclR P (-1)) C]
theorem nrm_neg {P C : List Rat} (tP : Tm P) (tC : Tm C) (c0 : co C 0 ≠ 0) : nrmN (sclR P (-1)) C = sclR (nrmN P C) (-1) ∧ nrmU (sclR P (-1)) C = nrmU P C := by
  have h := nrm_spec tP tC c0
  refine nrm_is (tm_sclR _ _) tC c0 ⟨tm_sclR _ _, h.tu, h.u0, ?_, ?_⟩
  · have e1 : ps (sclR (nrmN P C) (-1)) = -ps (nrmN P C) := ps_scl_neg _
    have e2 : ps (sclR P (-1)) = -ps P := ps_scl_neg _
    rw [e1, e2]
    have := h.cross
    grind
  · obtain ⟨u, v, e⟩ := h.cop
    refine ⟨sclR u (-1), v, ?_⟩
    have e1 : ps (sclR (nrmN P C) (-1)) = -ps (nrmN P C) := ps_scl_neg _
    have e2 : ps (sclR u (-1)) = -ps u := ps_scl_neg _
    rw [e1, e2, ← e]
    grind
/-- the names of the four answers -/
structure Fo (a K b M : Nat) (N M' A B c P Q R C : List Rat) : Prop where
  oP : An a K b M P C
  oQ : An a K b M Q C
  oR : An a K b M R C
  eP : ps (mulR N A) * ps C = ps P * ps c
  eQ : ps (mulR M' A) * ps C = ps Q * ps c
  eR : ps (mulR N B) * ps C = ps R * ps c
section
variable {S L a K b M t n k : Nat} {N M' A B c P Q R C : List Rat}
theorem An.neg (o : An a K b M P C) : An (a + 1) K b M (sclR P (-1)) C := ⟨o.ra.scl sz_neg, o.rb, o.b0⟩
end
end Pm
namespace Pm
open PySem Pe Pg Pl
/-! ### base helms, least helms -/
section
variable {N M P W C A B : List Rat} {n L K J Sb Lb : Nat}
end
/-! ### a machine with its core's base helm -/
structure Mb (S L J n Ln K s Sb Lb : Nat) (A B G a b P W : List Rat) : Prop where
  h : Hm S L J A B G a b
  f : HmF S L J
  rN : RW n Ln a
  rM : RW n K b
  cop : Cop a b
  kb : Clo a b [1] P W
  rP : RW Sb K P
  rW : RW Sb Lb W
  bf : BaseF n Ln K J Sb
  lb : Lb ≤ 60
section
variable {S L J n Ln K s Sb Lb : Nat} {A B G a b P W : List Rat}
theorem Mb.b1 (m : Mb S L J n Ln K s Sb Lb A B G a b P W) : co b 0 = 1 := by
  have e := congrArg (fun f : Ps => f.c 0) m.h.eB
  have e1 : co B 0 = co b 0 * co G 0 := e
  rw [m.h.b1, m.h.g1] at e1
  grind
theorem Mb.a0 (m : Mb S L J n Ln K s Sb Lb A B G a b P W) : co a 0 = 0 := by
  have e := congrArg (fun f : Ps => f.c 0) m.h.eA
  have e1 : co A 0 = co a 0 * co G 0 := e
  rw [m.h.a0, m.h.g1] at e1
  grind
theorem Mb.b0 (m : Mb S L J n Ln K s Sb Lb A B G a b P W) : b ≠ [] := ne_of0 (by rw [m.b1]; decide)
/-- the numbers of a least helm: goal of the size c, helm of the size S' -/
def LeaF (n L K Sb c Lc S' Lb' : Nat) : Prop := 2 * ((Sb + c + K) + (Lc + K) * (n + 1)) + 2 * n + 10 ≤ 900000 ∧ Lc ≤ 40 ∧ L ≤ 40 ∧ K ≤ 40 ∧ Lb' ≤ 40 ∧ 10 * (S' + Sb + n + c + 200) ≤ 900000
instance {n L K Sb c Lc S' Lb' : Nat} : Decidable (LeaF n L K Sb c Lc S' Lb') := inferInstanceAs (Decidable (_ ∧ _ ∧ _ ∧ _ ∧ _ ∧ _))
/-! ### beats -/
theorem is_one_pu {Y : List Rat} : Pu f_is_number_one [rw Y] (.bl (decide (Y = [1]))) := fun st => by
  have n1 : PV.tup [PV.tup [PV.int 1, PV.int 1]] = rw [1] := rfl
  simp [f_is_number_one, t_is_number_one, e_is_number_one, sizeLine, n1, gEq_rw]
  exact .refl
end
end Pm
namespace Pm
open PySem Pe Pg Pl
/-! ### helms of free answers, free answers of helms -/
section
variable {S L J n Ln K s Sb Lb : Nat} {A B G a b P W : List Rat}
/-- the numbers of products with a base helm -/
def HelF (n Ln K Sb Lb c Lc : Nat) : Prop := 10 * (n + Sb + c + Ln + K + Lb + Lc) + 1000 ≤ 900000 ∧ Ln ≤ 60 ∧ K ≤ 60 ∧ Lb ≤ 60 ∧ Lc ≤ 60
instance {n Ln K Sb Lb c Lc : Nat} : Decidable (HelF n Ln K Sb Lb c Lc) := inferInstanceAs (Decidable (_ ∧ _ ∧ _ ∧ _ ∧ _))
end
/-- a coprime pair, led below, is its own answer -/
theorem nrm_cop {X Y : List Rat} (tX : Tm X) (tY : Tm Y) (y1 : co Y 0 = 1) (cop : Cop X Y) : nrmN X Y = X ∧ nrmU X Y = Y := by
  obtain ⟨u, v, e⟩ := cop
  exact nrm_is tX tY (by rw [y1]; decide) ⟨tX, tY, y1, by grind, u, v, e⟩
theorem ans_cop {X Y : List Rat} (tX : Tm X) (tY : Tm Y) (y1 : co Y 0 = 1) (cop : Cop X Y) : ans X Y = .tup [rw X, rw Y] := by
  obtain ⟨e1, e2⟩ := nrm_cop tX tY y1 cop
  unfold ans
  rw [e1, e2]
end Pm
namespace Pm
open PySem Pe Pg Pl
/-- the first numbers, as a list -/
def yL (f : Nat → Rat) (k : Nat) : List Rat := (List.range k).map f
theorem yL_len (f : Nat → Rat) (k : Nat) : (yL f k).length = k := by simp [yL]
theorem yL_co {f : Nat → Rat} {k j : Nat} (h : j < k) : co (yL f k) j = f j := by
  unfold co yL
  simp [List.getElem?_map, List.getElem?_range h]
theorem yL_s (f : Nat → Rat) (k : Nat) : (yL f (k + 1)).map fr = (yL f k).map fr ++ [fr (f k)] := by
  simp [yL, List.range_succ]
theorem run_y {N M A B S T : List Rat} (m1 : co M 0 = 1) (n0 : co N 0 = 0) (e : ps M * ps B + ps N * ps A = 1) (i : Nat) :
    co (addR (mulR B S) (mulR N T)) i = co S i + dotN N (co (subR (mulR M T) (mulR A S))) i i - dotN M (co (addR (mulR B S) (mulR N T))) i i := by
  have h : ps M * ps (addR (mulR B S) (mulR N T)) = ps S + ps N * ps (subR (mulR M T) (mulR A S)) := by
    rw [ps_addR, ps_subR, ps_mulR, ps_mulR, ps_mulR, ps_mulR]
    have : ps S = ps S * (ps M * ps B + ps N * ps A) := by rw [e]; grind
    grind
  have h1 := congrArg (fun f : Ps => f.c i) h
  have h1 : cv (co M) (co (addR (mulR B S) (mulR N T))) i = co S i + cv (co N) (co (subR (mulR M T) (mulR A S))) i := h1
  rw [cv_row, cv_row, m1, n0] at h1
  grind
theorem run_u {N M A B S T : List Rat} (b1 : co B 0 = 1) (e : ps M * ps B + ps N * ps A = 1) (i : Nat) :
    co (subR (mulR M T) (mulR A S)) i = co T i - (co A 0 * co (addR (mulR B S) (mulR N T)) i + dotN A (co (addR (mulR B S) (mulR N T))) i i) - dotN B (co (subR (mulR M T) (mulR A S))) i i := by
  have h : ps B * ps (subR (mulR M T) (mulR A S)) + ps A * ps (addR (mulR B S) (mulR N T)) = ps T := by
    rw [ps_addR, ps_subR, ps_mulR, ps_mulR, ps_mulR, ps_mulR]
    have : ps T = ps T * (ps M * ps B + ps N * ps A) := by rw [e]; grind
    grind
  have h1 := congrArg (fun f : Ps => f.c i) h
  have h1 : cv (co B) (co (subR (mulR M T) (mulR A S))) i + cv (co A) (co (addR (mulR B S) (mulR N T))) i = co T i := h1
  rw [cv_row, cv_row, b1] at h1
  grind
theorem dot_far {B : List Rat} {f : Nat → Rat} {k l : Nat} (h : B.length ≤ l) : dotN B f k (min k (l - 1)) = dotN B f k k := by
  by_cases c : k ≤ l - 1
  · rw [Nat.min_eq_left c]
  · rw [Nat.min_eq_right (by omega), dotN_min (l - 1) (by omega), dotN_min k (by omega)]
/-- the number that is told, by parts -/
def vS (t : Rat) (A B : List Rat) (Y U : Nat → Rat) (i : Nat) : Nat → Rat
  | 0 => t
  | j + 1 => t - (co A 0 * Y i + dotN A Y i j) - dotN B U i j
section
variable {N M A B S T : List Rat} {Y U : Nat → Rat} {a b : Nat}
theorem law_run_ok {many : Nat} (rN : RW a 8 N) (rM : RW a 8 M) (rA : RW b 8 A) (rB : RW b 8 B) (rS : RW 1 20 S) (rT : RW 1 20 T) (M0 : M ≠ []) (B0 : B ≠ []) (hY : ∀ i, Y i = co S i + dotN N U i i - dotN M Y i i) (hU : ∀ i, U i = co T i - (co A 0 * Y i + dotN A Y i i) - dotN B U i i)
    (sY : ∀ i, Sz b (Y i)) (sU : ∀ i, Sz b (U i)) (ab : a ≤ b ∧ b ≤ 2000 ∧ 1 ≤ a) (hm : many ≤ 100) {st : Store} : Rn (f__law_run [.tup [rw N, rw M], .tup [rw A, rw B], rw S, rw T, .int (many : Int)] st) fun p st' => ∃ D E, p = .tup [.ref D, .ref E] ∧ st'[D]? = some (.lst ((yL Y many).map fr)) ∧ st'[E]? = some (.lst ((yL U many).map fr)) ∧ Up [] st st' := by
  have hr : ∀ st2 : Store, rng1It [.int (many : Int)] st2 = .ok (.fix (rngP 0 many)) st2 := fun st2 => rng1_ok (by rw [line_eq]; omega)
  simp [f__law_run, t__law_run, e__law_run, sizeLine, sFor, hr]
  have h0 : (st ++ [Ob.lst [], Ob.lst []])[st.length]? = some (.lst (([] : List Rat).map fr)) := by simp
  have h1 : (st ++ [Ob.lst [], Ob.lst []])[st.length + 1]? = some (.lst (([] : List Rat).map fr)) := by simp
  have u0 : Up [] st (st ++ [Ob.lst [], Ob.lst []]) := Up.app _
  generalize st ++ [Ob.lst [], Ob.lst []] = st1 at h0 h1 u0 ⊢
  have hDE : st.length ≠ st.length + 1 := by omega
  have hD : st.length ≤ st.length := Nat.le_refl _
  have hE : st.length ≤ st.length + 1 := by omega
  generalize hDd : st.length = D at h0 h1 hDE hD hE ⊢
  generalize D + 1 = E at h1 hDE hE ⊢
  have lenN : ∀ st2 : Store, gLen [rw N] st2 = .ok (.int (N.length : Int)) st2 := fun st2 => Sq.len (.inl rfl)
  have lenM : ∀ st2 : Store, gLen [rw M] st2 = .ok (.int (M.length : Int)) st2 := fun st2 => Sq.len (.inl rfl)
  have lenA : ∀ st2 : Store, gLen [rw A] st2 = .ok (.int (A.length : Int)) st2 := fun st2 => Sq.len (.inl rfl)
  have lenB : ∀ st2 : Store, gLen [rw B] st2 = .ok (.int (B.length : Int)) st2 := fun st2 => Sq.len (.inl rfl)
  have lN := rN.len
  have lM := rM.len
  have lA := rA.len
  have lB := rB.len
  have Mp := List.length_pos_iff.mpr M0
  have Bp := List.length_pos_iff.mpr B0
  refine (forL_rule (Q := fun r st' => r.1 = Fl.nx ∧ (∃ x11 x12 x13, r.2 = [some (.tup [rw N, rw M]), some (.tup [rw A, rw B]), some (rw S), some (rw T), some (.int (many : Int)), some (rw N), some (rw M), some (rw A), some (rw B), some (.ref D), some (.ref E), x11, x12, x13]) ∧ st'[D]? = some (.lst ((yL Y many).map fr)) ∧ st'[E]? = some (.lst ((yL U many).map fr)) ∧ Up [] st st')
    (fun i ρ st' => (∃ x11 x12 x13, ρ = [some (.tup [rw N, rw M]), some (.tup [rw A, rw B]), some (rw S), some (rw T), some (.int (many : Int)), some (rw N), some (rw M), some (rw A), some (rw B), some (.ref D), some (.ref E), x11, x12, x13]) ∧ st'[D]? = some (.lst ((yL Y i).map fr)) ∧ st'[E]? = some (.lst ((yL U i).map fr)) ∧ Up [] st st') ?_ ?_ ?_).imp ?_
  · rintro ρ st' ⟨h1, h2, h3, h4⟩
    rw [rngP_len] at h2 h3
    exact ⟨rfl, h1, h2, h3, h4⟩
  · intro i p ρ st2 hp hI
    obtain ⟨⟨x11, x12, x13, hρ⟩, hF, hG, u⟩ := hI
    subst hρ
    have hi := (get_rng hp).1
    have ep := (get_rng hp).2
    subst ep
    have mx : (if N.length < M.length then (M.length : Int) else (N.length : Int)) = ((max N.length M.length : Nat) : Int) := max_nat
    have mx2 : (if A.length < B.length then (B.length : Int) else (A.length : Int)) = ((max A.length B.length : Nat) : Int) := max_nat
    have hm1 := fun st2 : Store => rng2_min (k := i) (l := max N.length M.length) (st := st2) (by omega) (by omega) (by omega)
    have hm2 : ∀ st2 : Store, rng1It [.int ((if ((max A.length B.length : Nat) : Int) - 1 < (i : Int) then ((max A.length B.length : Nat) : Int) - 1 else (i : Int)) + 1)] st2 = .ok (.fix (rngP 0 (min i (max A.length B.length - 1) + 1))) st2 := fun st2 => by
      have e : (if ((max A.length B.length : Nat) : Int) - 1 < (i : Int) then ((max A.length B.length : Nat) : Int) - 1 else (i : Int)) + 1 = ((min i (max A.length B.length - 1) + 1 : Nat) : Int) := by split <;> omega
      rw [e]
      exact rng1_ok (by rw [line_eq]; omega)
    have sN := fun j => rN.sr.sz j
    have sM := fun j => rM.sr.sz j
    have sA := fun j => rA.sr.sz j
    have sB := fun j => rB.sr.sz j
    have hk : ∀ j, j ≤ i → j * (a + b + 1) ≤ 100 * (a + b + 1) := fun j hj => Nat.mul_le_mul_right _ (by omega)
    have hk2 : ∀ j, j ≤ i → j * (b + b + 1) ≤ 100 * (b + b + 1) := fun j hj => Nat.mul_le_mul_right _ (by omega)
    have s1 : ∀ j, j ≤ i → Sz (420 * b + 420) (co S i + dotN N U i j - dotN M Y i j) := fun j hj => by
      have := hk j hj
      exact (sz_sub (sz_add (rS.sr.sz i) (sz_dot sN (fun k _ => sU k) j hj)) (sz_dot sM (fun k _ => sY k) j hj)).mono (by omega)
    have s2 : ∀ j, j ≤ i → Sz (420 * b + 420) (co S i + dotN N U i j - dotN M Y i j + co N (j + 1) * U (i - (j + 1))) := fun j hj => by
      have := hk j hj
      exact (sz_add (sz_sub (sz_add (rS.sr.sz i) (sz_dot sN (fun k _ => sU k) j hj)) (sz_dot sM (fun k _ => sY k) j hj)) (sz_mul (sN (j + 1)) (sU _))).mono (by omega)
    simp [law_at_ok, lenN, lenM, sFor, mx, hm1]
    refine (forL_rule (Q := fun r st' => r.1 = Fl.nx ∧ (∃ x13, r.2 = [some (.tup [rw N, rw M]), some (.tup [rw A, rw B]), some (rw S), some (rw T), some (.int (many : Int)), some (rw N), some (rw M), some (rw A), some (rw B), some (.ref D), some (.ref E), some (.int (i : Int)), some (fr (Y i)), x13]) ∧ st'[D]? = some (.lst ((yL Y i).map fr)) ∧ st'[E]? = some (.lst ((yL U i).map fr)) ∧ Up [] st st')
      (fun j ρ st' => (∃ x13, ρ = [some (.tup [rw N, rw M]), some (.tup [rw A, rw B]), some (rw S), some (rw T), some (.int (many : Int)), some (rw N), some (rw M), some (rw A), some (rw B), some (.ref D), some (.ref E), some (.int (i : Int)), some (fr (co S i + dotN N U i j - dotN M Y i j)), x13]) ∧ st'[D]? = some (.lst ((yL Y i).map fr)) ∧ st'[E]? = some (.lst ((yL U i).map fr)) ∧ Up [] st st') ?_ ?_ ?_).imp ?_
    · rintro ρ st' ⟨⟨x7, rfl⟩, h2, h3, h4⟩
      rw [rngP_len, dot_far (by omega), dot_far (by omega), ← hY]
      exact ⟨rfl, ⟨_, rfl⟩, h2, h3, h4⟩
    · intro j p ρ st2 hp hI
      obtain ⟨⟨x7, hρ⟩, hF2, hG2, u2⟩ := hI
      subst hρ
      have hj := (get_rng2 hp).1
      have ep := (get_rng2 hp).2
      subst ep
      have e1 : (1 : Int) + (j : Int) = ((j + 1 : Nat) : Int) := by omega
      have e2 : (i : Int) - ((j + 1 : Nat) : Int) = ((i - (j + 1) : Nat) : Int) := by omega
      have a1 : L2.atI ((yL U i).map fr) ((i : Int) - ((j + 1 : Nat) : Int)) = some (fr (U (i - (j + 1)))) := by
        rw [e2, at_fr (by rw [yL_len]; omega), yL_co (by omega)]
      have a2 : L2.atI ((yL Y i).map fr) ((i : Int) - ((j + 1 : Nat) : Int)) = some (fr (Y (i - (j + 1)))) := by
        rw [e2, at_fr (by rw [yL_len]; omega), yL_co (by omega)]
      rw [e1]
      have q1 : ∀ st2 : Store, f__law_at [rw N, .int ((j + 1 : Nat) : Int)] st2 = .ok (fr (co N (j + 1))) st2 := fun _ => law_at_ok
      have q2 : ∀ st2 : Store, f__law_at [rw M, .int ((j + 1 : Nat) : Int)] st2 = .ok (fr (co M (j + 1))) st2 := fun _ => law_at_ok
      generalize ((j + 1 : Nat) : Int) = J at a1 a2 q1 q2 ⊢
      simp [q1, listAt_of hG2, a1]
      refine (law_times_ok (sN _) (sU _) (by omega)).imp ?_
      rintro p st3 ⟨rfl, u3⟩
      refine (law_plus_ok (s1 j (by omega)) (sz_mul (sN _) (sU _)) (by omega)).imp ?_
      rintro p st4 ⟨rfl, u4⟩
      have hF4 := (u3.trans u4).get hF2 List.not_mem_nil
      have hG4 := (u3.trans u4).get hG2 List.not_mem_nil
      simp [q2, listAt_of hF4, a2]
      refine (law_times_ok (sM _) (sY _) (by omega)).imp ?_
      rintro p st5 ⟨rfl, u5⟩
      refine (law_minus_ok (s2 j (by omega)) (sz_mul (sM _) (sY _)) (by omega)).imp ?_
      rintro p st6 ⟨rfl, u6⟩
      refine ⟨?_, (u5.trans u6).get hF4 List.not_mem_nil, (u5.trans u6).get hG4 List.not_mem_nil, ((u2.trans u3).trans u4).trans (u5.trans u6)⟩
      congr 1
      show _ = co S i + (dotN N U i j + co N (j + 1) * U (i - (j + 1))) - (dotN M Y i j + co M (j + 1) * Y (i - (j + 1)))
      grind
    · refine ⟨⟨x13, ?_⟩, hF, hG, u⟩
      have : co S i + dotN N U i 0 - dotN M Y i 0 = co S i := by show co S i + 0 - 0 = _; grind
      rw [this]
    · rintro ⟨fl, ρ⟩ st' ⟨e0, ⟨x7, e1⟩, h2, h3, h4⟩
      simp only at e0 e1
      subst e0 e1
      simp [isL, listAt_of h2]
      have hap : ∀ {F : Nat} {f : Nat → Rat} {st9 : Store}, st9[F]? = some (.lst ((yL f i).map fr)) → gApp (.ref F) [fr (f i)] st9 = .ok .non (st9.set F (.lst ((yL f (i + 1)).map fr))) := fun {F f st9} h => by
        unfold gApp
        simp only [h]
        rw [if_pos (by rw [List.length_map, yL_len, line_eq]; omega), yL_s]
      rw [hap h2]
      simp only [rn_ok]
      have g2 : (st'.set D (.lst ((yL Y (i + 1)).map fr)))[D]? = some (.lst ((yL Y (i + 1)).map fr)) := by
        rw [List.getElem?_set_self (lt_of_get h2)]
      have g3 : (st'.set D (.lst ((yL Y (i + 1)).map fr)))[E]? = some (.lst ((yL U i).map fr)) := by
        rw [List.getElem?_set_ne hDE]; exact h3
      have g4 := h4.late (n := D) (o := .lst ((yL Y (i + 1)).map fr)) (by omega)
      generalize st'.set D (.lst ((yL Y (i + 1)).map fr)) = st3 at g2 g3 g4 ⊢
      clear h2 h3 h4
      simp [law_at_ok, lenA, lenB, mx2, hm2]
      have s3 : ∀ j, j ≤ i + 1 → Sz (420 * b + 420) (vS (co T i) A B Y U i j) := fun j hj => by
        cases j with
        | zero => exact (rT.sr.sz i).mono (by omega)
        | succ j =>
          have := hk2 j (by omega)
          exact (sz_sub (sz_sub (rT.sr.sz i) (sz_add (sz_mul (sA 0) (sY i)) (sz_dot sA (fun k _ => sY k) j (by omega)))) (sz_dot sB (fun k _ => sU k) j (by omega))).mono (by omega)
      refine (forL_rule (Q := fun r st' => r.1 = Fl.nx ∧ (∃ x13, r.2 = [some (.tup [rw N, rw M]), some (.tup [rw A, rw B]), some (rw S), some (rw T), some (.int (many : Int)), some (rw N), some (rw M), some (rw A), some (rw B), some (.ref D), some (.ref E), some (.int (i : Int)), some (fr (U i)), x13]) ∧ st'[D]? = some (.lst ((yL Y (i + 1)).map fr)) ∧ st'[E]? = some (.lst ((yL U i).map fr)) ∧ Up [] st st')
        (fun j ρ st' => (∃ x13, ρ = [some (.tup [rw N, rw M]), some (.tup [rw A, rw B]), some (rw S), some (rw T), some (.int (many : Int)), some (rw N), some (rw M), some (rw A), some (rw B), some (.ref D), some (.ref E), some (.int (i : Int)), some (fr (vS (co T i) A B Y U i j)), x13]) ∧ st'[D]? = some (.lst ((yL Y (i + 1)).map fr)) ∧ st'[E]? = some (.lst ((yL U i).map fr)) ∧ Up [] st st') ?_ ?_ ?_).imp ?_
      · rintro ρ st' ⟨⟨x7, rfl⟩, h2, h3, h4⟩
        rw [rngP_len]
        have e : vS (co T i) A B Y U i (min i (max A.length B.length - 1) + 1) = U i := by
          show co T i - (co A 0 * Y i + dotN A Y i _) - dotN B U i _ = _
          rw [dot_far (by omega), dot_far (by omega), ← hU]
        rw [e]
        exact ⟨rfl, ⟨_, rfl⟩, h2, h3, h4⟩
      · intro j p ρ st2 hp hI
        obtain ⟨⟨x9, hρ⟩, hF2, hG2, u2⟩ := hI
        subst hρ
        have hj := (get_rng hp).1
        have ep := (get_rng hp).2
        subst ep
        have e2 : (i : Int) - (j : Int) = ((i - j : Nat) : Int) := by omega
        have a1 : L2.atI ((yL Y (i + 1)).map fr) ((i : Int) - (j : Int)) = some (fr (Y (i - j))) := by
          rw [e2, at_fr (by rw [yL_len]; omega), yL_co (by omega)]
        simp [law_at_ok, listAt_of hF2, a1]
        refine (law_times_ok (sA _) (sY _) (by omega)).imp ?_
        rintro p st5 ⟨rfl, u5⟩
        refine (law_minus_ok (s3 j (by omega)) (sz_mul (sA _) (sY _)) (by omega)).imp ?_
        rintro p st6 ⟨rfl, u6⟩
        have hF6 := (u5.trans u6).get hF2 List.not_mem_nil
        have hG6 := (u5.trans u6).get hG2 List.not_mem_nil
        by_cases c : j = 0
        · subst c
          simp
          refine ⟨?_, hF6, hG6, (u2.trans u5).trans u6⟩
          congr 1
          show co T i - co A 0 * Y (i - 0) = co T i - (co A 0 * Y i + 0) - 0
          rw [Nat.sub_zero]
          grind
        · obtain ⟨k, rfl⟩ : ∃ k, j = k + 1 := ⟨j - 1, by omega⟩
          have a2 : L2.atI ((yL U i).map fr) ((i : Int) - ((k + 1 : Nat) : Int)) = some (fr (U (i - (k + 1)))) := by
            rw [e2, at_fr (by rw [yL_len]; omega), yL_co (by omega)]
          have q1 : ∀ st2 : Store, f__law_at [rw B, .int ((k + 1 : Nat) : Int)] st2 = .ok (fr (co B (k + 1))) st2 := fun _ => law_at_ok
          have kp : (0 : Int) < ((k + 1 : Nat) : Int) := by omega
          have s4 := (sz_sub (s3 (k + 1) (by omega)) (sz_mul (sA (k + 1)) (sY (i - (k + 1)))))
          generalize ((k + 1 : Nat) : Int) = J at a2 q1 kp ⊢
          simp [kp, q1, listAt_of hG6, a2]
          refine (law_times_ok (sB _) (sU _) (by omega)).imp ?_
          rintro p st7 ⟨rfl, u7⟩
          refine (law_minus_ok s4 (sz_mul (sB _) (sU _)) (by omega)).imp ?_
          rintro p st8 ⟨rfl, u8⟩
          refine ⟨?_, (u7.trans u8).get hF6 List.not_mem_nil, (u7.trans u8).get hG6 List.not_mem_nil, ((u2.trans u5).trans u6).trans (u7.trans u8)⟩
          congr 1
          show (co T i - (co A 0 * Y i + dotN A Y i k) - dotN B U i k) - co A (k + 1) * Y (i - (k + 1)) - co B (k + 1) * U (i - (k + 1)) = co T i - (co A 0 * Y i + (dotN A Y i k + co A (k + 1) * Y (i - (k + 1)))) - (dotN B U i k + co B (k + 1) * U (i - (k + 1)))
          grind
      · exact ⟨⟨x7, rfl⟩, g2, g3, g4⟩
      · rintro ⟨fl, ρ⟩ st' ⟨e0, ⟨x9, e1⟩, h2, h3, h4⟩
        simp only at e0 e1
        subst e0 e1
        simp [isL, listAt_of h3]
        rw [hap h3]
        simp only [rn_ok]
        refine ⟨?_, ?_, ?_⟩
        · rw [List.getElem?_set_ne (Ne.symm hDE)]; exact h2
        · rw [List.getElem?_set_self (lt_of_get h3)]
        · exact h4.late (by omega)
  · exact ⟨⟨none, none, none, rfl⟩, h0, h1, u0⟩
  · rintro ⟨fl, ρ⟩ st' ⟨e0, ⟨x5, x6, x7, e1⟩, h2, h3, h4⟩
    simp only at e0 e1
    subst e0 e1
    simp
    exact ⟨D, E, ⟨rfl, rfl⟩, h2, h3, h4⟩
end
/-- the last place of a number that is not 0, counted from 1 -/
def lastN (f : Nat → Bool) : Nat → Nat → Nat
  | 0, l => l
  | k + 1, l => if f k then max (lastN f k l) (k + 1) else lastN f k l
theorem lastN_le (f : Nat → Bool) (l : Nat) : ∀ k, l ≤ lastN f k l ∧ lastN f k l ≤ max l k
  | 0 => ⟨Nat.le_refl _, Nat.le_max_left _ _⟩
  | k + 1 => by
    have := lastN_le f l k
    unfold lastN
    split <;> omega
theorem lastN_top {f : Nat → Bool} {e l : Nat} (h1 : ∀ j, e ≤ j → f j = false) (h2 : f (e - 1) = true) (h0 : 1 ≤ e) : ∀ k, e ≤ k → lastN f k l = max l e := by
  intro k hk
  obtain ⟨d, rfl⟩ : ∃ d, k = e + d := ⟨k - e, by omega⟩
  induction d with
  | zero =>
    obtain ⟨j, rfl⟩ : ∃ j, e = j + 1 := ⟨e - 1, by omega⟩
    have := lastN_le f l j
    have h2 : f j = true := h2
    show (if f j = true then max (lastN f j l) (j + 1) else lastN f j l) = max l (j + 1)
    rw [if_pos h2]
    omega
  | succ d ih =>
    show (if f (e + d) = true then max (lastN f (e + d) l) (e + d + 1) else lastN f (e + d) l) = _
    rw [h1 (e + d) (by omega), if_neg (by decide)]
    exact ih (by omega)
theorem zeros_mul {k : Nat} (hk : k ≤ 100) {st : Store} : gMul (.tup [.tup [.int 0, .int 1]]) (.int (k : Int)) st = .ok (.tup (List.replicate k (fr 0))) st := by
  show (if _ then _ else _) = _
  by_cases c : 2 ≤ k
  · rw [if_pos ⟨by simp, by omega, by omega, by simp⟩]
    congr 2
    simp [fr_zero]
  · rw [if_neg (by omega)]
    by_cases c1 : k = 1
    · subst c1
      rw [if_pos ⟨.inl rfl, by omega, by omega⟩]
      rfl
    · have : k = 0 := by omega
      subst this
      rw [if_neg (by simp)]
      show (if _ then _ else _) = _
      rw [if_pos (by simp)]
      rfl
theorem unit_add {k : Nat} (hk : k ≤ 100) {st : Store} : gAdd (.tup (List.replicate k (fr 0))) (.tup [.tup [.int 1, .int 1]]) st = .ok (rw (shR k [1])) st := by
  show (if _ then _ else _) = _
  rw [if_pos (by rw [line_eq]; simp; omega)]
  congr 1
  show PV.tup _ = PV.tup _
  congr 1
  unfold shR
  rw [if_neg (by simp)]
  simp [fr_one]
def stA (k : Nat) : PV := .tup [rw (shR k [1]), rw []]
def stB (k : Nat) : PV := .tup [rw [], rw (shR k [1])]
theorem unit_rw {k : Nat} (h : k ≤ 19) : RW 1 20 (shR k [1]) := RW.one.sh.mono (Nat.le_refl _) (by omega)
theorem co_unit {B : List Rat} {k : Nat} (j : Nat) : co (mulR B (shR k [1])) j = if k ≤ j then co B (j - k) else 0 := by
  have h : ps (mulR B (shR k [1])) = mono k 1 * ps B := by rw [ps_mulR, ps_shR, ps_one]; grind
  have h1 := congrArg (fun f : Ps => f.c j) h
  have h1 : co (mulR B (shR k [1])) j = cv (mono k 1).c (co B) j := h1
  rw [h1, cv_mono]
  split
  · grind
  · rfl
/-- where both rows end -/
theorem unit_end {B A Y U : List Rat} {k : Nat} (tB : Tm B) (tA : Tm A) (B0 : B ≠ []) (hY : ∀ j, co Y j = 0 ↔ co (mulR B (shR k [1])) j = 0) (hU : ∀ j, co U j = 0 ↔ co (mulR A (shR k [1])) j = 0) :
    (∀ j, k + szP A B + 1 ≤ j → co Y j = 0 ∧ co U j = 0) ∧ (co Y (k + szP A B) ≠ 0 ∨ co U (k + szP A B) ≠ 0) := by
  have Bp := List.length_pos_iff.mpr B0
  constructor
  · intro j hj
    unfold szP at hj
    rw [hY, hU, co_unit, co_unit, if_pos (by omega), if_pos (by omega)]
    exact ⟨co_big (by omega), co_big (by omega)⟩
  · rw [ne_eq, ne_eq, hY, hU, co_unit, co_unit, if_pos (by omega), if_pos (by omega), show k + szP A B - k = szP A B by omega]
    by_cases c : A.length ≤ B.length
    · left
      have e : szP A B = B.length - 1 := by unfold szP; omega
      rw [e]
      exact tm_last tB B0
    · right
      have e : szP A B = A.length - 1 := by unfold szP; omega
      rw [e]
      exact tm_last tA (List.length_pos_iff.mp (by omega))
theorem law_last_pu {N M A B : List Rat} {a b : Nat} (rN : RW a 8 N) (rM : RW a 8 M) (rA : RW b 8 A) (rB : RW b 8 B) (M0 : M ≠ []) (B0 : B ≠ []) (N2 : 2 ≤ N.length) (n0 : co N 0 = 0) (m1 : co M 0 = 1) (b1 : co B 0 = 1) (e : ps M * ps B + ps N * ps A = 1) (ab : a ≤ b ∧ b ≤ 900 ∧ 1 ≤ a) :
    Pu f__law_last [.tup [rw N, rw M], .tup [rw A, rw B]] (.int ((szP N M : Nat) + (szP A B : Nat))) := fun st => by
  have lN := rN.len
  have lM := rM.len
  have lA := rA.len
  have lB := rB.len
  obtain ⟨s, hs⟩ : ∃ s, s = szP N M := ⟨_, rfl⟩
  obtain ⟨t, ht⟩ : ∃ t, t = szP A B := ⟨_, rfl⟩
  have hs1 : 1 ≤ s ∧ s ≤ 7 := by rw [hs]; unfold szP; omega
  have ht1 : t ≤ 7 := by rw [ht]; unfold szP; omega
  obtain ⟨many, hmany⟩ : ∃ many, many = 3 * (s + t) + 4 := ⟨_, rfl⟩
  have hr : ∀ (k : Nat) (st2 : Store), k ≤ 100 → rng1It [.int (k : Int)] st2 = .ok (.fix (rngP 0 k)) st2 := fun k st2 hk => rng1_ok (by rw [line_eq]; omega)
  have nn : PV.tup [] = rw [] := rfl
  simp [f__law_last, t__law_last, e__law_last, sizeLine, sFor]
  refine (law_size_pu M0).go0 .refl ?_
  intro st1 u
  refine (law_size_pu B0).go0 u ?_
  intro st1 u
  rw [← hs, ← ht]
  have eM : (3 : Int) * ((s : Int) + (t : Int)) + 4 = (many : Int) := by omega
  simp
  rw [eM]
  have u0 := u.trans (Up.app [Ob.lst []])
  have g0 : (st1 ++ [Ob.lst []])[st1.length]? = some (.lst ((List.range 0).map stA)) := by simp
  have hD : st.length ≤ st1.length := u.le
  generalize st1 ++ [Ob.lst []] = st2 at u0 g0 ⊢
  generalize st1.length = D at g0 hD ⊢
  clear u
  have hlst : ∀ {st9 : Store} {xs : List PV} {p : PV}, st9[D]? = some (.lst xs) → xs.length ≤ 100 → gApp (.ref D) [p] st9 = .ok .non (st9.set D (.lst (xs ++ [p]))) := fun {st9 xs p} h hx => by
    unfold gApp
    simp only [h]
    rw [if_pos (by rw [line_eq]; omega)]
  refine (law_size_pu M0).go0 (.refl (st := st2)) ?_
  intro st3 u3
  have g3 := u3.get g0 List.not_mem_nil
  have u3 := u0.trans u3
  clear g0 u0
  rw [← hs, hr s st3 (by omega)]
  simp only [rn_ok]
  refine (forL_rule (Q := fun r st' => r.1 = Fl.nx ∧ (∃ x5, r.2 = [some (.tup [rw N, rw M]), some (.tup [rw A, rw B]), some (.int (many : Int)), some (.int 0), some (.ref D), x5, none, none, none, none]) ∧ st'[D]? = some (.lst ((List.range s).map stA)) ∧ Up [] st st')
    (fun i ρ st' => (∃ x5, ρ = [some (.tup [rw N, rw M]), some (.tup [rw A, rw B]), some (.int (many : Int)), some (.int 0), some (.ref D), x5, none, none, none, none]) ∧ st'[D]? = some (.lst ((List.range i).map stA)) ∧ Up [] st st') ?_ ?_ ?_).imp ?_
  · rintro ρ st' ⟨h1, h2, h3⟩
    rw [rngP_len] at h2
    exact ⟨rfl, h1, h2, h3⟩
  · rintro i p ρ st4 hp ⟨⟨x5, rfl⟩, g4, u4⟩
    have hi := (get_rng hp).1
    have ep := (get_rng hp).2
    subst ep
    simp [isL, listAt_of g4, zeros_mul (show i ≤ 100 by omega), unit_add (show i ≤ 100 by omega), sizeLine]
    rw [hlst g4 (by simp; omega)]
    simp only [rn_ok]
    refine ⟨?_, u4.late (by omega)⟩
    rw [List.getElem?_set_self (lt_of_get g4), List.range_succ, List.map_append]
    rfl
  · exact ⟨⟨none, rfl⟩, g3, u3⟩
  rintro ⟨fl, ρ⟩ st4 ⟨e0, ⟨x5, e1⟩, g4, u4⟩
  simp only at e0 e1
  subst e0 e1
  simp
  refine (law_size_pu B0).go0 (.refl (st := st4)) ?_
  intro st5 u5
  have g5 := u5.get g4 List.not_mem_nil
  have u5 := u4.trans u5
  clear g4 u4 g3 u3
  rw [← ht, hr t st5 (by omega)]
  simp only [rn_ok]
  refine (forL_rule (Q := fun r st' => r.1 = Fl.nx ∧ (∃ x5, r.2 = [some (.tup [rw N, rw M]), some (.tup [rw A, rw B]), some (.int (many : Int)), some (.int 0), some (.ref D), x5, none, none, none, none]) ∧ st'[D]? = some (.lst ((List.range s).map stA ++ (List.range t).map stB)) ∧ Up [] st st')
    (fun i ρ st' => (∃ x5, ρ = [some (.tup [rw N, rw M]), some (.tup [rw A, rw B]), some (.int (many : Int)), some (.int 0), some (.ref D), x5, none, none, none, none]) ∧ st'[D]? = some (.lst ((List.range s).map stA ++ (List.range i).map stB)) ∧ Up [] st st') ?_ ?_ ?_).imp ?_
  · rintro ρ st' ⟨h1, h2, h3⟩
    rw [rngP_len] at h2
    exact ⟨rfl, h1, h2, h3⟩
  · rintro i p ρ st4 hp ⟨⟨x5, rfl⟩, g4, u4⟩
    have hi := (get_rng hp).1
    have ep := (get_rng hp).2
    subst ep
    simp [isL, listAt_of g4, zeros_mul (show i ≤ 100 by omega), unit_add (show i ≤ 100 by omega), sizeLine]
    rw [hlst g4 (by simp; omega)]
    simp only [rn_ok]
    refine ⟨?_, u4.late (by omega)⟩
    rw [List.getElem?_set_self (lt_of_get g4), List.range_succ, List.map_append, List.append_assoc]
    rfl
  · exact ⟨⟨_, rfl⟩, by simpa using g5, u5⟩
  rintro ⟨fl, ρ⟩ st6 ⟨e0, ⟨x6, e1⟩, g6, u6⟩
  simp only at e0 e1
  subst e0 e1
  clear g5 u5
  simp [seqIt, listAt_of g6]
  have oneR : ∀ (S T : List Rat) (ℓ : Nat) (x5 x6 x7 x8 x9 : Option PV) (v : PV) (e0 : Nat) (st9 : Store), v = .tup [rw S, rw T] → RW 1 20 S → RW 1 20 T → (∀ j, e0 ≤ j → co (addR (mulR B S) (mulR N T)) j = 0 ∧ co (subR (mulR M T) (mulR A S)) j = 0) → (co (addR (mulR B S) (mulR N T)) (e0 - 1) ≠ 0 ∨ co (subR (mulR M T) (mulR A S)) (e0 - 1) ≠ 0) → 1 ≤ e0 → e0 ≤ many → Up [] st st9 → st9[D]? = some (.lst ((List.range s).map stA ++ (List.range t).map stB)) →
      Rn ((tgT 2 (tgCons (tgN 6) (tgCons (tgN 7) tgNil)) v [some (.tup [rw N, rw M]), some (.tup [rw A, rw B]), some (.int (many : Int)), some (.int (ℓ : Int)), some (.ref D), x5, x6, x7, x8, x9] st9).bind fun ρ1 st1 => (sSeq
        (sAs (tgT 2 (tgCons (tgN 8) (tgCons (tgN 9) tgNil)))
          (xCallE { fn := f__law_run, idx := none } 5 0
            (xCons (xLoc 0) (xCons (xLoc 1) (xCons (xLoc 6) (xCons (xLoc 7) (xCons (xLoc 2) xNil))))) xNil))
        (sSeq
          (sFor (xItL rng1It (xCons (xLoc 2) xNil)) (tgN 5)
            (sSeq
              (sIf
                (xOrT (xTb (xBin (gEq true) (xBin gIdx (xBin gIdx (xLoc 8) (xLoc 5)) (xC (PV.int 0))) (xC (PV.int 0))))
                  (xTb (xBin (gEq true) (xBin gIdx (xBin gIdx (xLoc 9) (xLoc 5)) (xC (PV.int 0))) (xC (PV.int 0)))))
                (sSeq (sAs (tgN 3) (xCall gMax (xCons (xLoc 3) (xCons (xBin gAdd (xLoc 5) (xC (PV.int 1))) xNil))))
                  sNil)
                sNil)
              sNil))
          sNil)) ρ1 st1) fun r st' => r.1 = Fl.nx ∧ (∃ x5 x6 x7 x8 x9, r.2 = [some (.tup [rw N, rw M]), some (.tup [rw A, rw B]), some (.int (many : Int)), some (.int ((max ℓ e0 : Nat) : Int)), some (.ref D), x5, x6, x7, x8, x9]) ∧ st'[D]? = some (.lst ((List.range s).map stA ++ (List.range t).map stB)) ∧ Up [] st st' := by
    intro S T ℓ x5 x6 x7 x8 x9 v e0 st9 hv rS rT z1 z2 z3 z4 u9 g9
    subst hv
    simp
    have rY : RW (2 * b + 20) 40 (addR (mulR B S) (mulR N T)) := ((rB.mul rS).add (rN.mul rT)).mono (by omega) (by omega)
    have rU : RW (2 * b + 20) 40 (subR (mulR M T) (mulR A S)) := ((rM.mul rT).sub (rA.mul rS)).mono (by omega) (by omega)
    refine (law_run_ok (a := a) (b := 2 * b + 20) rN rM (rA.mono (by omega) (Nat.le_refl _)) (rB.mono (by omega) (Nat.le_refl _)) rS rT M0 B0 (run_y m1 n0 e) (run_u b1 e) (fun i => rY.sr.sz i) (fun i => rU.sr.sz i) (by omega) (by omega)).imp ?_
    rintro _ st1 ⟨D1, E1, rfl, h1, h2, u1⟩
    have g1 := u1.get g9 List.not_mem_nil
    have u1 := u9.trans u1
    simp [sFor]
    rw [hr many st1 (by omega)]
    simp only [rn_ok]
    have hf : ∃ f : Nat → Bool, ∀ j, f j = (decide (co (addR (mulR B S) (mulR N T)) j ≠ 0) || decide (co (subR (mulR M T) (mulR A S)) j ≠ 0)) := ⟨_, fun _ => rfl⟩
    obtain ⟨f, hf⟩ := hf
    have top : lastN f many ℓ = max ℓ e0 := by
      refine lastN_top (fun j hj => ?_) ?_ z3 many z4
      · obtain ⟨y1, y2⟩ := z1 j hj
        rw [hf, y1, y2]
        rfl
      · rw [hf]
        simpa using z2
    refine (forL_rule (Q := fun r st' => r.1 = Fl.nx ∧ (∃ x5 x6 x7 x8 x9, r.2 = [some (.tup [rw N, rw M]), some (.tup [rw A, rw B]), some (.int (many : Int)), some (.int ((max ℓ e0 : Nat) : Int)), some (.ref D), x5, x6, x7, x8, x9]) ∧ st'[D]? = some (.lst ((List.range s).map stA ++ (List.range t).map stB)) ∧ Up [] st st')
      (fun i ρ st' => (∃ x5, ρ = [some (.tup [rw N, rw M]), some (.tup [rw A, rw B]), some (.int (many : Int)), some (.int (lastN f i ℓ : Nat)), some (.ref D), x5, some (rw S), some (rw T), some (.ref D1), some (.ref E1)]) ∧ st' = st1) ?_ ?_ ?_).imp ?_
    · rintro ρ st' ⟨⟨x5, rfl⟩, rfl⟩
      rw [rngP_len, top]
      exact ⟨rfl, ⟨_, _, _, _, _, rfl⟩, g1, u1⟩
    · rintro i p ρ st2 hp ⟨⟨x5, rfl⟩, rfl⟩
      have hi := (get_rng hp).1
      have ep := (get_rng hp).2
      subst ep
      have a1 : ∀ F : Nat → Rat, L2.atI ((yL F many).map fr) (i : Int) = some (fr (F i)) := fun F => by
        rw [at_fr (by rw [yL_len]; omega), yL_co hi]
      have num0 : ∀ q : Rat, (q.num = 0) = (q = 0) := fun q => by simp
      have gi : ∀ (q : Rat) (st9 : Store), gIdx (fr q) (.int 0) st9 = .ok (.int q.num) st9 := fun _ _ => rfl
      have gE : ∀ (z : Int) (st9 : Store), gEq true (.int z) (.int 0) st9 = .ok (.bl (!decide (z = 0))) st9 := fun _ _ => rfl
      have mx : (if (lastN f i ℓ : Int) < (i : Int) + 1 then (i : Int) + 1 else (lastN f i ℓ : Int)) = ((max (lastN f i ℓ) (i + 1) : Nat) : Int) := by split <;> omega
      have st0 : lastN f (i + 1) ℓ = if f i = true then max (lastN f i ℓ) (i + 1) else lastN f i ℓ := rfl
      simp [listAt_of h1, a1, gi, gE]
      by_cases cY : co (addR (mulR B S) (mulR N T)) i = 0
      · simp [cY, listAt_of h2, a1, gi, gE]
        by_cases cU : co (subR (mulR M T) (mulR A S)) i = 0
        · simp [cU]
          rw [st0, hf, cY, cU]
          simp
        · simp [cU]
          rw [mx, st0, hf]
          simp [cU]
      · simp [cY]
        rw [mx, st0, hf]
        simp [cY]
    · exact ⟨⟨_, rfl⟩, rfl⟩
    · rintro ⟨fl, ρ⟩ st' ⟨e0, e1, h2, h3⟩
      simp only at e0 e1
      subst e0
      simp
      exact ⟨e1, h2, h3⟩
  have hlen : ((List.range s).map stA ++ (List.range t).map stB).length = s + t := by simp
  refine (forD_rule (Q := fun r st' => r.1 = Fl.nx ∧ (∃ x5 x6 x7 x8 x9, r.2 = [some (.tup [rw N, rw M]), some (.tup [rw A, rw B]), some (.int (many : Int)), some (.int ((s + t : Nat) : Int)), some (.ref D), x5, x6, x7, x8, x9]) ∧ Up [] st st')
    (fun i ρ st' => (∃ ℓ : Nat, ℓ ≤ s + t ∧ (s ≤ i → ℓ = s + t) ∧ ∃ x5 x6 x7 x8 x9, ρ = [some (.tup [rw N, rw M]), some (.tup [rw A, rw B]), some (.int (many : Int)), some (.int (ℓ : Int)), some (.ref D), x5, x6, x7, x8, x9]) ∧ st'[D]? = some (.lst ((List.range s).map stA ++ (List.range t).map stB)) ∧ Up [] st st')
    ((List.range s).map stA ++ (List.range t).map stB) ?_ ?_ ?_ ?_ (fuel_line (by rw [line_eq, hlen]; omega))).imp ?_
  · rintro i ρ st7 ⟨_, g7, _⟩
    show liveL D i st7 = _
    unfold liveL
    rw [listAt_of g7]
    rfl
  · rintro ρ st7 ⟨⟨ℓ, l1, l2, h1⟩, g7, u7⟩
    rw [hlen] at l2
    have := l2 (by omega)
    subst this
    exact ⟨rfl, h1, u7⟩
  · rintro i p ρ st7 hp ⟨⟨ℓ, l1, l2, x5, x6, x7, x8, x9, rfl⟩, g7, u7⟩
    by_cases c : i < s
    · have ep : p = stA i := by
        rw [List.getElem?_append_left (by simpa using c)] at hp
        simpa [c] using hp.symm
      have hY : ∀ j, co (addR (mulR B (shR i [1])) (mulR N [])) j = 0 ↔ co (mulR B (shR i [1])) j = 0 := fun j => by
        rw [co_addR, mulR_nil]
        have : co ([] : List Rat) j = 0 := rfl
        rw [this, Rat.add_zero]
      have hU : ∀ j, co (subR (mulR M []) (mulR A (shR i [1]))) j = 0 ↔ co (mulR A (shR i [1])) j = 0 := fun j => by
        rw [co_subR, mulR_nil]
        have : co ([] : List Rat) j = 0 := rfl
        rw [this]
        constructor <;> intro h <;> grind
      obtain ⟨w1, w2⟩ := unit_end rB.tm rA.tm B0 hY hU
      rw [← ht] at w1 w2
      refine (oneR (shR i [1]) [] ℓ x5 x6 x7 x8 x9 p (i + t + 1) st7 ep (unit_rw (by omega)) (RW.nil.mono (by omega) (by omega)) w1 w2 (by omega) (by omega) u7 g7).imp ?_
      rintro ⟨fl, ρ⟩ st8 ⟨e1, ⟨y5, y6, y7, y8, y9, e2⟩, g8, u8⟩
      simp only at e1 e2
      subst e1 e2
      exact ⟨⟨max ℓ (i + t + 1), by omega, fun h => by omega, _, _, _, _, _, rfl⟩, g8, u8⟩
    · have hi : i < s + t := by
        rw [← hlen]
        by_cases z : i < ((List.range s).map stA ++ (List.range t).map stB).length
        · exact z
        · rw [List.getElem?_eq_none (by omega)] at hp; cases hp
      have ep : p = stB (i - s) := by
        rw [List.getElem?_append_right (by simpa using c)] at hp
        simp only [List.length_map, List.length_range] at hp
        rw [List.getElem?_map, List.getElem?_range (by omega)] at hp
        simpa using hp.symm
      have hY : ∀ j, co (addR (mulR B []) (mulR N (shR (i - s) [1]))) j = 0 ↔ co (mulR N (shR (i - s) [1])) j = 0 := fun j => by
        rw [co_addR, mulR_nil]
        have : co ([] : List Rat) j = 0 := rfl
        rw [this, Rat.zero_add]
      have hU : ∀ j, co (subR (mulR M (shR (i - s) [1])) (mulR A [])) j = 0 ↔ co (mulR M (shR (i - s) [1])) j = 0 := fun j => by
        rw [co_subR, mulR_nil]
        have : co ([] : List Rat) j = 0 := rfl
        rw [this]
        constructor <;> intro h <;> grind
      obtain ⟨w1, w2⟩ := unit_end rM.tm rN.tm M0 hU hY
      rw [← hs] at w1 w2
      have l3 := l2 (by omega)
      refine (oneR [] (shR (i - s) [1]) ℓ x5 x6 x7 x8 x9 p (i - s + s + 1) st7 ep (RW.nil.mono (by omega) (by omega)) (unit_rw (by omega)) (fun j hj => (w1 j hj).symm) w2.symm (by omega) (by omega) u7 g7).imp ?_
      rintro ⟨fl, ρ⟩ st8 ⟨e1, ⟨y5, y6, y7, y8, y9, e2⟩, g8, u8⟩
      simp only at e1 e2
      subst e1 e2
      exact ⟨⟨max ℓ (i - s + s + 1), by omega, fun h => by omega, _, _, _, _, _, rfl⟩, g8, u8⟩
  · exact ⟨⟨0, by omega, fun h => by omega, _, _, _, _, _, rfl⟩, g6, u6⟩
  · rintro ⟨fl, ρ⟩ st8 ⟨e1, ⟨y5, y6, y7, y8, y9, e2⟩, u8⟩
    simp only at e1 e2
    subst e1 e2
    simp
    exact u8
theorem last_beat_pu {S L : Nat} {N M A B c : List Rat} (h : Lp S L N M A B c) (f : LpF S L) : Pu f_last_beat [.tup [rw N, rw M], .tup [rw A, rw B]] (if c = [1] then .int ((szP N M : Nat) + (szP A B : Nat)) else .non) := fun st => by
  have M0 := ne_of0 (U := M) (by rw [h.m1]; decide)
  have B0 := ne_of0 (U := B) (by rw [h.b1]; decide)
  simp [f_last_beat, t_last_beat, e_last_beat]
  refine (h.check_pair f).go0 .refl ?_
  intro st z
  refine (h.closing_by f).go0 z ?_
  intro st z
  refine is_one_pu.go0 z ?_
  intro st z
  by_cases c : c = [1]
  · simp [c]
    refine (size_by_pu M0).go0 z ?_
    intro st z
    refine (size_by_pu B0).go0 z ?_
    intro st z
    simp
    exact z
  · simp [c]
    exact z
theorem right_dr {n : Nat} : Dr n f__law_right [.ref n] fun v => v = .bl true := fun st0 hr => by
  have i1 : (1 : Int) = ((1 : Nat) : Int) := rfl
  have n1 : PV.tup [PV.tup [PV.int 1, PV.int 1]] = rw [1] := rfl
  simp [f__law_right, t__law_right, e__law_right, te_call, sizeLine]
  refine core1_dr.go (.of hr) ?_
  rintro _ st ⟨N, M, rfl, co'⟩ I
  refine (pull_dr (by omega) (by omega)).go I ?_
  rintro _ st ⟨d, rfl, d0, d1⟩ I
  have rN := co'.rn
  have rM := co'.rm
  have n0 := co'.z
  have m1 := co'.m1
  have M0 := ne_of0 (U := M) (by rw [m1]; decide)
  have Mp := List.length_pos_iff.mpr M0
  have lN := rN.len
  have lM := rM.len
  have N2 : 2 ≤ N.length := by
    have h1 := List.length_pos_iff.mpr co'.n0
    have h2 := tm_last rN.tm co'.n0
    refine Nat.lt_of_not_le fun c => h2 ?_
    rw [show N.length - 1 = 0 by omega, n0]
  obtain ⟨P, W, kb⟩ := clo_ex co'.cop rM.tm M0 [1]
  have rN36 : RW 36 5 N := rN.mono (by omega) (Nat.le_refl _)
  obtain ⟨sP, sW⟩ := kb.sz (n := 36) (K := 6) (lam := 3) (S := 276) co'.cop rM.tm M0 rN36.sr rM.sr (sr_one.mono (by omega)) (by simp; omega) (by decide) (by decide)
  have rP : RW 276 3 P := ⟨kb.tA, by have := kb.len; omega, sP⟩
  have rW : RW 276 5 W := ⟨kb.tB, Nat.le_trans (kb.lenB rM.tm M0 (L := 4) (by simp; omega)) (by omega), sW⟩
  have bf : BaseF 36 5 3 4 276 := by decide
  have tail1 : ∀ (C : List Rat) (st : Store), RW 10 2 C → co C 0 = 1 → Iv n st0 [] st → Rn (Ts.m e__law_right t__law_right_2 [some (.ref n), some (.tup [rw N, rw M]), some (.int d), some (rw C), none, none, none, none, none] st) fun a st => Rn (match a.1 with
      | Fl.nx => Res.ok PV.non st
      | Fl.rt p => Res.ok p st
      | _ => Res.bad) fun p st' => p = .bl true ∧ Up [n] st0 st' ∧ Reel n st' := fun C st rC c1 I => by
    have Cp := List.length_pos_iff.mpr (ne_of0 (U := C) (by rw [c1]; decide))
    have lC := rC.len
    obtain ⟨A0, B0, k⟩ := clo_ex co'.cop rM.tm M0 C
    obtain ⟨sA, sB⟩ := k.sz (n := 36) (K := 6) (lam := 3) (S := 276) co'.cop rM.tm M0 rN36.sr rM.sr (rC.sr.mono (by omega)) (by omega) (by decide) (by decide)
    have rA0 : RW 276 3 A0 := ⟨k.tA, by have := k.len; omega, sA⟩
    have rB0 : RW 276 5 B0 := ⟨k.tB, Nat.le_trans (k.lenB rM.tm M0 (L := 5) (by omega)) (by omega), sB⟩
    simp [t__law_right_2, te_call, sizeLine, e__law_right]
    rw [i1]
    refine (drawn_dr (by omega)).go I ?_
    rintro _ st ⟨F, rfl, rF, _⟩ I
    refine (law_closed_pu (J := 4) rN36 rM n0 m1 co'.cop kb rP rW bf k rC rA0 rB0 rF (by decide)).go I ?_
    intro st I
    have rA : RW 330 8 (addR A0 (mulR M F)) := (rA0.add (rM.mul rF)).mono (by omega) (by omega)
    have rB : RW 330 8 (subR B0 (mulR N F)) := (rB0.sub (rN.mul rF)).mono (by omega) (by omega)
    have b1 : co (subR B0 (mulR N F)) 0 = 1 := by rw [co_subR, co_mul0, n0, k.b0 n0 m1, c1]; grind
    have ek : ps C = ps M * ps (subR B0 (mulR N F)) + ps N * ps (addR A0 (mulR M F)) := by
      rw [ps_addR, ps_subR, ps_mulR, ps_mulR, ← k.eq]
      grind
    generalize addR A0 (mulR M F) = A at rA ek ⊢
    generalize subR B0 (mulR N F) = B at rB b1 ek ⊢
    have Bn := ne_of0 (U := B) (by rw [b1]; decide)
    have tail2 : ∀ (H : List Rat) (st : Store), RW 5 3 H → co H 0 = 1 → Iv n st0 [] st → Rn (Ts.m e__law_right t__law_right_4 [some (.ref n), some (.tup [rw N, rw M]), some (.int d), some (rw C), some (.tup [rw A, rw B]), some (rw H), none, none, none] st) fun a st => Rn (match a.1 with
        | Fl.nx => Res.ok PV.non st
        | Fl.rt p => Res.ok p st
        | _ => Res.bad) fun p st' => p = .bl true ∧ Up [n] st0 st' ∧ Reel n st' := fun H st rH h1 I => by
      have Hn := ne_of0 (U := H) (by rw [h1]; decide)
      have Hp := List.length_pos_iff.mpr Hn
      have Nh := mulR_ne rN.tm rH.tm co'.n0 Hn
      have lp : Lp 400 8 (mulR N H) (mulR M H) A B (mulR C H) := ⟨(rN.mul rH).mono (by omega) (by omega), (rM.mul rH).mono (by omega) (by omega), rA.mono (by omega) (by omega), rB.mono (by omega) (by omega), (rC.mul rH).mono (by omega) (by omega), Nh, by rw [co_mul0, n0]; grind, by rw [co_mul0, m1, h1]; decide +kernel, b1, by
        rw [ps_mulR, ps_mulR, ps_mulR, ek]
        grind⟩
      have f1 : LpF 400 8 := by decide
      have rc : RW 20 5 (mulR C H) := (rC.mul rH).mono (by omega) (by omega)
      have lb := last_beat_pu lp f1
      have lcl := lp.closing_row f1
      have dc := dt_rw rc (by omega)
      simp [t__law_right_4, te_call, sizeLine, e__law_right]
      refine (law_machine_pu (hN := rN) (hM := rM) (hH := rH) (by omega)).go I ?_
      intro st I
      simp [t__law_right_5, te_call, sizeLine, e__law_right]
      refine (law_product_pu (ha := rC) (hb := rH) (by omega)).go I ?_
      intro st I
      simp [t__law_right_6, te_call, sizeLine, e__law_right]
      refine lcl.go I ?_
      intro st I
      refine repr_goT dc (by omega) (by omega) ?_
      refine repr_goT dc (by omega) (by omega) ?_
      rw [gNe_text rfl]
      simp [t__law_right_7, te_call, sizeLine, e__law_right]
      have lint : ((szP (mulR N H) (mulR M H) : Nat) : Int) + ((szP A B : Nat) : Int) ≤ 40 := by
        have := lp.rN.len
        have := lp.rM.len
        have := rA.len
        have := rB.len
        unfold szP
        omega
      obtain ⟨T, er⟩ : ∃ T : Str, ∀ st2 : Store, gRepr [.int ((szP (mulR N H) (mulR M H) : Nat) + (szP A B : Nat))] st2 = .ok (.str T) st2 := by
        have h64 : (((szP (mulR N H) (mulR M H) : Nat) : Int) + ((szP A B : Nat) : Int)).natAbs < 2 ^ 6 := by omega
        have hb : (((szP (mulR N H) (mulR M H) : Nat) : Int) + ((szP A B : Nat) : Int)).natAbs.log2 < 1920 := Nat.lt_trans (log_lt h64 (by omega)) (by omega)
        refine ⟨Str.ofString (toString (((szP (mulR N H) (mulR M H) : Nat) : Int) + ((szP A B : Nat) : Int))), fun st2 => ?_⟩
        show (if _ then _ else _) = _
        rw [if_pos hb]
      by_cases c : mulR C H = [1]
      · rw [if_pos c] at lb
        refine lb.go I ?_
        intro st I
        simp [t__law_right_8, te_call, sizeLine, e__law_right]
        refine lb.go I ?_
        intro st I
        rw [er]
        simp only [rn_ok]
        rw [er]
        simp only [rn_ok]
        rw [gNe_text rfl]
        simp [t__law_right_9, te_call, sizeLine, e__law_right, n1, gEq_rw, c]
        have l1 := mulR_length rC.tm rH.tm (List.length_pos_iff.mp Cp) Hn
        rw [c] at l1
        simp at l1
        have eH := one_of_len (g := H) (by omega) h1
        have eC := one_of_len (g := C) (by omega) c1
        subst eH eC
        have q1 : mulR N [1] = N := (tm_mulR _ _).eq rN.tm (by rw [ps_mulR, ps_one]; grind)
        have q2 : mulR M [1] = M := (tm_mulR _ _).eq rM.tm (by rw [ps_mulR, ps_one]; grind)
        rw [q1, q2] at er ⊢
        rw [ps_one] at ek
        have last := law_last_pu (a := 36) (b := 330) (rN.mono (by omega) (by omega)) (rM.mono (by omega) (by omega)) rA rB M0 Bn N2 n0 m1 b1 ek.symm (by omega)
        simp [t__law_right_10, te_call, sizeLine, e__law_right]
        rw [er]
        simp only [rn_ok]
        refine (law_size_pu M0).go I ?_
        intro st I
        refine (law_size_pu Bn).go I ?_
        intro st I
        simp
        rw [er]
        simp only [rn_ok]
        rw [gEq_text rfl]
        simp
        refine last.go I ?_
        intro st I
        have ge : ∀ (i : Int) (st2 : Store), gEq false (.int i) (.int i) st2 = .ok (.bl true) st2 := fun i st2 => by
          show (Res.ok (PV.bl (decide (i = i))) st2 : Res PV) = _
          simp
        rw [ge]
        simp
        exact ⟨I.up, I.reel⟩
      · rw [if_neg c] at lb
        refine lb.go I ?_
        intro st I
        simp [t__law_right_8, te_call, sizeLine, e__law_right]
        refine lb.go I ?_
        intro st I
        have r0 : ∀ st2 : Store, gRepr [.non] st2 = .ok (.str "None") st2 := fun _ => rfl
        rw [r0]
        simp only [rn_ok]
        rw [r0]
        simp only [rn_ok]
        rw [gNe_text rfl]
        simp [t__law_right_9, te_call, sizeLine, e__law_right, n1, gEq_rw, c]
        have isn : ∀ st2 : Store, gOp .Is .non .non st2 = .ok (.bl true) st2 := fun _ => rfl
        rw [isn]
        simp
        exact ⟨I.up, I.reel⟩
    simp [t__law_right_3, te_call, sizeLine, e__law_right]
    by_cases c : d = 1
    · simp only [c, if_true]
      refine hidden_dr.go I ?_
      rintro _ st ⟨H, ch, rfl, rH, h1, hH⟩ I
      have gi : ∀ st2 : Store, gIdx (.tup [rw H, .bl ch]) (.int 0) st2 = .ok (rw H) st2 := fun _ => rfl
      rw [gi]
      simp only [rn_ok]
      have := tail2 H st rH h1 I
      rw [c] at this
      exact this
    · rw [if_neg c, n1]
      exact tail2 [1] st (RW.one.mono (by omega) (by omega)) rfl I
  simp [t__law_right_1, te_call, sizeLine]
  by_cases c : d = 0
  · simp only [c, if_true]
    rw [i1]
    refine (law_led_dr (by omega)).go I ?_
    rintro _ st ⟨C, rfl, rC, c1⟩ I
    have := tail1 C st rC c1 I
    rw [c] at this
    exact this
  · rw [if_neg c, n1]
    exact tail1 [1] st (RW.one.mono (by omega) (by omega)) rfl I
/-- the law, plainly -/
theorem law_plain {ns : List Int} (hl : ns.length ≤ 63) : ∃ st', f_law [.ref 0] [.ro (ns.map PV.int)] = .ok (.bl true) st' := by
  have h0 : listAt [Ob.ro (ns.map PV.int)] 0 = some (ns.map PV.int) := rfl
  have key : Rn (f_law [.ref 0] [.ro (ns.map PV.int)]) fun p _ => p = .bl true := by
    obtain ⟨k, hk, hk10⟩ : ∃ k : Nat, (if (if (1 : Int) < (ns.length : Int) then 1 else (ns.length : Int)) > 1 then (if (1 : Int) < (ns.length : Int) then 1 else (ns.length : Int)) else 1) = (k : Int) ∧ k ≤ 10 := by
      refine ⟨(if (if (1 : Int) < (ns.length : Int) then 1 else (ns.length : Int)) > 1 then (if (1 : Int) < (ns.length : Int) then 1 else (ns.length : Int)) else 1).toNat, ?_, ?_⟩ <;> split <;> (try split) <;> omega
    simp [-comp_e, f_law, t_law, e_law]
    have hit : xItL rng1It (xCons (xCall gMax (xCons (xC (PV.int 1)) (xCons (xCall gMin (xCons (xCall gLen (xCons (xLoc 0) xNil)) (xCons (xC (PV.int 1)) xNil))) xNil))) xNil) [some (PV.ref 0), none] [Ob.ro (ns.map PV.int)] = .ok (.fix (rngP 0 k)) [Ob.ro (ns.map PV.int)] := by
      simp only [x_itL, x_cons, x_call, x_loc, x_c, x_nil, Res.bind_ok, List.getElem?_cons_zero, len_r, h0, List.length_map, min_i, max_i]
      rw [hk]
      exact rng1_ok (by rw [line_eq]; omega)
    refine (comp_range k (fun _ => PV.bl true) (by rw [line_eq]; omega) hit fun i st2 hi u => ?_).imp ?_
    · simp [bodyC]
      exact law_rounds hl (fun n => right_dr) (u.lst h0 (by simp)) (by omega)
    · rintro p st' ⟨rfl, h1, u⟩
      have e1 : gAll [.ref [Ob.ro (ns.map PV.int)].length] st' = .ok (.bl true) st' := by
        unfold gAll
        simp only [listAt_of h1, Option.bind_some, blsOf_true]
        simp
      rw [e1]
      simp
  obtain ⟨p, st', e, rfl⟩ := key.ex
  exact ⟨st', e⟩
end Pm
set_option maxHeartbeats 0
namespace Hd
open PySem PySem.Spec PyProof.Rows L2 Pe Pg
def top (i : Nat) : Stmt := PySem.Challenge.pw_allhelms_k20_whole_last_beats.main.body.getD i (.Pass ⟨0, 0, 0, 0⟩)
def d_is_whole : He.DefD := ⟨("is_whole", none), "is_whole", "is_whole", defArgs (top 6), defBody (top 6), defScope (top 6), [], []⟩
def d_are_wholes : He.DefD := ⟨("are_wholes", none), "are_wholes", "are_wholes", defArgs (top 7), defBody (top 7), defScope (top 7), [], []⟩
def d_divisor_of : He.DefD := ⟨("divisor_of", none), "divisor_of", "divisor_of", defArgs (top 8), defBody (top 8), defScope (top 8), [], []⟩
def d_lowest : He.DefD := ⟨("lowest", none), "lowest", "lowest", defArgs (top 9), defBody (top 9), defScope (top 9), [], []⟩
def d_is_ratio : He.DefD := ⟨("is_ratio", none), "is_ratio", "is_ratio", defArgs (top 13), defBody (top 13), defScope (top 13), [], []⟩
def d_ratio : He.DefD := ⟨("ratio", none), "ratio", "ratio", defArgs (top 14), defBody (top 14), defScope (top 14), [], []⟩
def d_plus : He.DefD := ⟨("plus", none), "plus", "plus", defArgs (top 15), defBody (top 15), defScope (top 15), [], []⟩
def d_times : He.DefD := ⟨("times", none), "times", "times", defArgs (top 16), defBody (top 16), defScope (top 16), [], []⟩
def d_trimmed : He.DefD := ⟨("trimmed", none), "trimmed", "trimmed", defArgs (top 18), defBody (top 18), defScope (top 18), [], []⟩
def d_degree_of : He.DefD := ⟨("degree_of", none), "degree_of", "degree_of", defArgs (top 19), defBody (top 19), defScope (top 19), [], []⟩
def d_number_at : He.DefD := ⟨("number_at", none), "number_at", "number_at", defArgs (top 20), defBody (top 20), defScope (top 20), [], []⟩
def d_added : He.DefD := ⟨("added", none), "added", "added", defArgs (top 21), defBody (top 21), defScope (top 21), [], []⟩
def d_multiplied : He.DefD := ⟨("multiplied", none), "multiplied", "multiplied", defArgs (top 22), defBody (top 22), defScope (top 22), [], []⟩
def d_is_led_by : He.DefD := ⟨("is_led_by", none), "is_led_by", "is_led_by", defArgs (top 23), defBody (top 23), defScope (top 23), [], []⟩
def d_is_row : He.DefD := ⟨("is_row", none), "is_row", "is_row", defArgs (top 25), defBody (top 25), defScope (top 25), [], []⟩
def d_is_led : He.DefD := ⟨("is_led", none), "is_led", "is_led", defArgs (top 26), defBody (top 26), defScope (top 26), [], []⟩
def d_is_machine : He.DefD := ⟨("is_machine", none), "is_machine", "is_machine", defArgs (top 28), defBody (top 28), defScope (top 28), [], []⟩
def d_is_helm : He.DefD := ⟨("is_helm", none), "is_helm", "is_helm", defArgs (top 29), defBody (top 29), defScope (top 29), [], []⟩
def d_check_machine : He.DefD := ⟨("check_machine", none), "check_machine", "check_machine", defArgs (top 30), defBody (top 30), defScope (top 30), [], []⟩
def d_check_helm : He.DefD := ⟨("check_helm", none), "check_helm", "check_helm", defArgs (top 31), defBody (top 31), defScope (top 31), [], []⟩
def d_check_pair : He.DefD := ⟨("check_pair", none), "check_pair", "check_pair", defArgs (top 32), defBody (top 32), defScope (top 32), [], []⟩
def d_size_by : He.DefD := ⟨("size_by", none), "size_by", "size_by", defArgs (top 33), defBody (top 33), defScope (top 33), [], []⟩
def d_closing_by : He.DefD := ⟨("closing_by", none), "closing_by", "closing_by", defArgs (top 35), defBody (top 35), defScope (top 35), [], []⟩
def d_is_number_one : He.DefD := ⟨("is_number_one", none), "is_number_one", "is_number_one", defArgs (top 36), defBody (top 36), defScope (top 36), [], []⟩
def d_closing_row : He.DefD := ⟨("closing_row", none), "closing_row", "closing_row", defArgs (top 38), defBody (top 38), defScope (top 38), [], []⟩
def d_last_beat : He.DefD := ⟨("last_beat", none), "last_beat", "last_beat", defArgs (top 39), defBody (top 39), defScope (top 39), [], []⟩
def d__law_reel : He.DefD := ⟨("_law_reel", none), "_law_reel", "_law_reel", defArgs (top 41), defBody (top 41), defScope (top 41), [], []⟩
def d__law_pull : He.DefD := ⟨("_law_pull", none), "_law_pull", "_law_pull", defArgs (top 42), defBody (top 42), defScope (top 42), [], []⟩
def d__law_one_of : He.DefD := ⟨("_law_one_of", none), "_law_one_of", "_law_one_of", defArgs (top 43), defBody (top 43), defScope (top 43), [], []⟩
def d__law_lowest : He.DefD := ⟨("_law_lowest", none), "_law_lowest", "_law_lowest", defArgs (top 44), defBody (top 44), defScope (top 44), [], []⟩
def d__law_plus : He.DefD := ⟨("_law_plus", none), "_law_plus", "_law_plus", defArgs (top 45), defBody (top 45), defScope (top 45), [], []⟩
def d__law_minus : He.DefD := ⟨("_law_minus", none), "_law_minus", "_law_minus", defArgs (top 46), defBody (top 46), defScope (top 46), [], []⟩
def d__law_times : He.DefD := ⟨("_law_times", none), "_law_times", "_law_times", defArgs (top 47), defBody (top 47), defScope (top 47), [], []⟩
def d__law_over : He.DefD := ⟨("_law_over", none), "_law_over", "_law_over", defArgs (top 48), defBody (top 48), defScope (top 48), [], []⟩
def d__law_part : He.DefD := ⟨("_law_part", none), "_law_part", "_law_part", defArgs (top 49), defBody (top 49), defScope (top 49), [], []⟩
def d__law_some : He.DefD := ⟨("_law_some", none), "_law_some", "_law_some", defArgs (top 50), defBody (top 50), defScope (top 50), [], []⟩
def d__law_trim : He.DefD := ⟨("_law_trim", none), "_law_trim", "_law_trim", defArgs (top 51), defBody (top 51), defScope (top 51), [], []⟩
def d__law_at : He.DefD := ⟨("_law_at", none), "_law_at", "_law_at", defArgs (top 52), defBody (top 52), defScope (top 52), [], []⟩
def d__law_sum : He.DefD := ⟨("_law_sum", none), "_law_sum", "_law_sum", defArgs (top 53), defBody (top 53), defScope (top 53), [], []⟩
def d__law_scaled : He.DefD := ⟨("_law_scaled", none), "_law_scaled", "_law_scaled", defArgs (top 54), defBody (top 54), defScope (top 54), [], []⟩
def d__law_less : He.DefD := ⟨("_law_less", none), "_law_less", "_law_less", defArgs (top 55), defBody (top 55), defScope (top 55), [], []⟩
def d__law_product : He.DefD := ⟨("_law_product", none), "_law_product", "_law_product", defArgs (top 56), defBody (top 56), defScope (top 56), [], []⟩
def d__law_parted : He.DefD := ⟨("_law_parted", none), "_law_parted", "_law_parted", defArgs (top 57), defBody (top 57), defScope (top 57), [], []⟩
def d__law_low : He.DefD := ⟨("_law_low", none), "_law_low", "_law_low", defArgs (top 58), defBody (top 58), defScope (top 58), [], []⟩
def d__law_divisor : He.DefD := ⟨("_law_divisor", none), "_law_divisor", "_law_divisor", defArgs (top 59), defBody (top 59), defScope (top 59), [], []⟩
def d__law_bent : He.DefD := ⟨("_law_bent", none), "_law_bent", "_law_bent", defArgs (top 60), defBody (top 60), defScope (top 60), [], []⟩
def d__law_bend : He.DefD := ⟨("_law_bend", none), "_law_bend", "_law_bend", defArgs (top 61), defBody (top 61), defScope (top 61), [], []⟩
def d__law_calm : He.DefD := ⟨("_law_calm", none), "_law_calm", "_law_calm", defArgs (top 62), defBody (top 62), defScope (top 62), [], []⟩
def d__law_whole_row : He.DefD := ⟨("_law_whole_row", none), "_law_whole_row", "_law_whole_row", defArgs (top 63), defBody (top 63), defScope (top 63), [], []⟩
def d__law_wild : He.DefD := ⟨("_law_wild", none), "_law_wild", "_law_wild", defArgs (top 64), defBody (top 64), defScope (top 64), [], []⟩
def d__law_drawn : He.DefD := ⟨("_law_drawn", none), "_law_drawn", "_law_drawn", defArgs (top 65), defBody (top 65), defScope (top 65), [], []⟩
def d__law_led : He.DefD := ⟨("_law_led", none), "_law_led", "_law_led", defArgs (top 66), defBody (top 66), defScope (top 66), [], []⟩
def d__law_later : He.DefD := ⟨("_law_later", none), "_law_later", "_law_later", defArgs (top 67), defBody (top 67), defScope (top 67), [], []⟩
def d__law_base : He.DefD := ⟨("_law_base", none), "_law_base", "_law_base", defArgs (top 68), defBody (top 68), defScope (top 68), [], []⟩
def d__law_coprime : He.DefD := ⟨("_law_coprime", none), "_law_coprime", "_law_coprime", defArgs (top 69), defBody (top 69), defScope (top 69), [], []⟩
def d__law_core : He.DefD := ⟨("_law_core", none), "_law_core", "_law_core", defArgs (top 70), defBody (top 70), defScope (top 70), [], []⟩
def d__law_hidden : He.DefD := ⟨("_law_hidden", none), "_law_hidden", "_law_hidden", defArgs (top 71), defBody (top 71), defScope (top 71), [], []⟩
def d__law_machine : He.DefD := ⟨("_law_machine", none), "_law_machine", "_law_machine", defArgs (top 72), defBody (top 72), defScope (top 72), [], []⟩
def d__law_size : He.DefD := ⟨("_law_size", none), "_law_size", "_law_size", defArgs (top 73), defBody (top 73), defScope (top 73), [], []⟩
def d__law_closed : He.DefD := ⟨("_law_closed", none), "_law_closed", "_law_closed", defArgs (top 74), defBody (top 74), defScope (top 74), [], []⟩
def d__law_run : He.DefD := ⟨("_law_run", none), "_law_run", "_law_run", defArgs (top 75), defBody (top 75), defScope (top 75), [], []⟩
def d__law_last : He.DefD := ⟨("_law_last", none), "_law_last", "_law_last", defArgs (top 76), defBody (top 76), defScope (top 76), [], []⟩
def d__law_right : He.DefD := ⟨("_law_right", none), "_law_right", "_law_right", defArgs (top 77), defBody (top 77), defScope (top 77), [], []⟩
def d_law : He.DefD := ⟨("law", none), "law", "law", defArgs (top 78), defBody (top 78), defScope (top 78), [], []⟩
def fn : List He.DefD := [d_is_whole, d_are_wholes, d_divisor_of, d_lowest, d_is_ratio, d_ratio, d_plus, d_times, d_trimmed, d_degree_of, d_number_at, d_added, d_multiplied, d_is_led_by, d_is_row, d_is_led, d_is_machine, d_is_helm, d_check_machine, d_check_helm, d_check_pair, d_size_by, d_closing_by, d_is_number_one, d_closing_row, d_last_beat, d__law_reel, d__law_pull, d__law_one_of, d__law_lowest, d__law_plus, d__law_minus, d__law_times, d__law_over, d__law_part, d__law_some, d__law_trim, d__law_at, d__law_sum, d__law_scaled, d__law_less, d__law_product, d__law_parted, d__law_low, d__law_divisor, d__law_bent, d__law_bend, d__law_calm, d__law_whole_row, d__law_wild, d__law_drawn, d__law_led, d__law_later, d__law_base, d__law_coprime, d__law_core, d__law_hidden, d__law_machine, d__law_size, d__law_closed, d__law_run, d__law_last, d__law_right, d_law]
def fa : List He.Fa := [.glo "is_whole", .glo "are_wholes", .glo "divisor_of", .glo "lowest", .glo "is_ratio", .glo "ratio", .glo "plus", .glo "times", .glo "trimmed", .glo "degree_of", .glo "number_at", .glo "added", .glo "multiplied", .glo "is_led_by", .glo "is_row", .glo "is_led", .glo "is_machine", .glo "is_helm", .glo "check_machine", .glo "check_helm", .glo "check_pair", .glo "size_by", .glo "closing_by", .glo "is_number_one", .glo "closing_row", .glo "last_beat", .glo "_law_reel", .glo "_law_pull", .glo "_law_one_of", .glo "_law_lowest", .glo "_law_plus", .glo "_law_minus", .glo "_law_times", .glo "_law_over", .glo "_law_part", .glo "_law_some", .glo "_law_trim", .glo "_law_at", .glo "_law_sum", .glo "_law_scaled", .glo "_law_less", .glo "_law_product", .glo "_law_parted", .glo "_law_low", .glo "_law_divisor", .glo "_law_bent", .glo "_law_bend", .glo "_law_calm", .glo "_law_whole_row", .glo "_law_wild", .glo "_law_drawn", .glo "_law_led", .glo "_law_later", .glo "_law_base", .glo "_law_coprime", .glo "_law_core", .glo "_law_hidden", .glo "_law_machine", .glo "_law_size", .glo "_law_closed", .glo "_law_run", .glo "_law_last", .glo "_law_right", .glo "law", .free "len", .free "range", .free "all", .free "any", .free "isinstance", .free "max", .free "min", .free "enumerate", .free "reversed", .free "zip", .free "list", .free "tuple", .free "int", .free "bool", .free "str", .free "divmod", .free "abs", .free "repr", .free "sum"]
def cl : List (Str × PV) := [("ZERO", .tup [(.int 0), (.int 1)]), ("ONE", .tup [(.int 1), (.int 1)])]
def bl : List Str := ["len", "range", "all", "any", "isinstance", "max", "min", "enumerate", "reversed", "zip", "list", "tuple", "int", "bool", "str", "divmod", "abs", "repr", "sum"]
def ex (K : PySem.W.Frag) : Bool := extra cl true K
abbrev R : PySem.W.OpenRow := PySem.W.OpenLaw.row PySem.Challenge.rw_allhelms_k20_whole_last_beats
abbrev hk : PySem.W.Hook := He.hookX 2 fa fn [] [] ex
def ob (s : PySem.W.SharedT) : He.AlX := He.obsX 2 fa fn [] [] ex (HandSHeadRun.getT s)
theorem ob_eq (s : PySem.W.SharedT) : ob s = hk.obs s.abs := He.obsX_eq (HandSHeadRun.getT_eq s)
def loose : List Str := (["__name__", "HelmError", "InvalidMachine", "InvalidHelm", "is_whole", "are_wholes", "divisor_of", "lowest", "ZERO", "ONE", "is_ratio", "ratio", "plus", "times", "trimmed", "degree_of", "number_at", "added", "multiplied", "is_led_by", "is_row", "is_led", "is_machine", "is_helm", "check_machine", "check_helm", "check_pair", "size_by", "closing_by", "is_number_one"] : List Str) ++ (["closing_row", "last_beat", "_law_reel", "_law_pull", "_law_one_of", "_law_lowest", "_law_plus", "_law_minus", "_law_times", "_law_over", "_law_part", "_law_some", "_law_trim", "_law_at", "_law_sum", "_law_scaled", "_law_less", "_law_product", "_law_parted", "_law_low", "_law_divisor", "_law_bent", "_law_bend", "_law_calm", "_law_whole_row", "_law_wild", "_law_drawn", "_law_led", "_law_later", "_law_base"] : List Str) ++ (["_law_coprime", "_law_core", "_law_hidden", "_law_machine", "_law_size", "_law_closed", "_law_run", "_law_last", "_law_right"] : List Str)
noncomputable abbrev wh (w : World) : Option (Shared × PySem.W.SharedT) := HandSHeadRun.wholeF (fun p => HandSHeadRun.stepQ (HandSHeadRun.denQ HandSHeadRun.tabQ) p w) HandSHeadRun.fenceQ 9000 R.prog
theorem r0 (w : World) : (wh w).map (fun x => (HandSHeadRun.looksF R.prog x.1.heap x.2.abs, HandSHeadRun.seenQ (PySem.W.view R.prog [0, 78]) loose (importedModules R.prog.main.body) (fun s => PySem.W.xlAt (PySem.W.view R.prog [0, 78]) [] s && PySem.W.recOk R.toRowW.records s) x.2.abs)) = some (true, PySem.W.openGood (PySem.W.view R.prog [0, 78]) loose) := by
  kernel_rfl
theorem ro (w : World) : (wh w).map (fun x => ob x.2) = some (hk.val w) := by
  kernel_rfl
theorem run (w : World) : HandSHeadRun.RunEqI R (PySem.W.view R.prog [0, 78]) hk ob 9000 loose w :=
  Rp.three (r0 w) (ro w)
section
variable {P : Program} {w : World} {K : PySem.W.Frag} {h : Heap} {mg : Str → Option Value} {base : Heap} (X : K.In h) (G : h.Ns mainGlobals mg) (c : He.SaysD fa fn K) (W : Wd P w K mg cl bl true)
include X G c W
theorem D_is_whole : Dk P w K mg base 1 "is_whole" ["value"] d_is_whole.params f_is_whole :=
  by unfold f_is_whole; exact Dk.of (d := d_is_whole) (k := 0) (N := ["value"]) (calls := []) (n := 30) (m := 60) (t := t_is_whole) (es := e_is_whole) W (c.def_ 0) rfl rfl rfl rfl (He.glo_ok X G (c.fact 0)) cnil rfl (by kernel_rfl) (by kernel_rfl)
theorem D_are_wholes : Dk P w K mg base 2 "are_wholes" ["value", "many"] d_are_wholes.params f_are_wholes :=
  by unfold f_are_wholes; exact Dk.of (d := d_are_wholes) (k := 1) (N := ["value", "many", "each"]) (calls := [("is_whole", 1, [], ⟨f_is_whole, none⟩)]) (n := 30) (m := 60) (t := t_are_wholes) (es := e_are_wholes) W (c.def_ 1) rfl rfl rfl rfl (He.glo_ok X G (c.fact 1)) (ccons ((D_is_whole X G c W).call (by omega) rfl fun _ _ _ _ _ _ _ _ _ us h => match us, h with | [u0], _ => by kernel_rfl) cnil) rfl (by kernel_rfl) (by kernel_rfl)
theorem D_divisor_of : Dk P w K mg base 1 "divisor_of" ["numbers"] d_divisor_of.params f_divisor_of :=
  by unfold f_divisor_of; exact Dk.of (d := d_divisor_of) (k := 0) (N := ["numbers", "found", "number"]) (calls := []) (n := 30) (m := 60) (t := t_divisor_of) (es := e_divisor_of) W (c.def_ 2) rfl rfl rfl rfl (He.glo_ok X G (c.fact 2)) cnil rfl (by kernel_rfl) (by kernel_rfl)
theorem D_lowest : Dk P w K mg base 2 "lowest" ["numbers"] d_lowest.params f_lowest :=
  by unfold f_lowest; exact Dk.of (d := d_lowest) (k := 1) (N := ["numbers", "part", "number"]) (calls := [("divisor_of", 1, [], ⟨f_divisor_of, none⟩)]) (n := 30) (m := 60) (t := t_lowest) (es := e_lowest) W (c.def_ 3) rfl rfl rfl rfl (He.glo_ok X G (c.fact 3)) (ccons ((D_divisor_of X G c W).call (by omega) rfl fun _ _ _ _ _ _ _ _ _ us h => match us, h with | [u0], _ => by kernel_rfl) cnil) rfl (by kernel_rfl) (by kernel_rfl)
theorem D_is_ratio : Dk P w K mg base 3 "is_ratio" ["value"] d_is_ratio.params f_is_ratio :=
  by unfold f_is_ratio; exact Dk.of (d := d_is_ratio) (k := 2) (N := ["value"]) (calls := [("are_wholes", 2, [], ⟨f_are_wholes, none⟩), ("divisor_of", 1, [], ⟨f_divisor_of, none⟩)]) (n := 30) (m := 60) (t := t_is_ratio) (es := e_is_ratio) W (c.def_ 4) rfl rfl rfl rfl (He.glo_ok X G (c.fact 4)) (ccons ((D_are_wholes X G c W).call (by omega) rfl fun _ _ _ _ _ _ _ _ _ us h => match us, h with | [u0, u1], _ => by kernel_rfl) (ccons ((D_divisor_of X G c W).call (by omega) rfl fun _ _ _ _ _ _ _ _ _ us h => match us, h with | [u0], _ => by kernel_rfl) cnil)) rfl (by kernel_rfl) (by kernel_rfl)
theorem D_ratio : Dk P w K mg base 3 "ratio" ["top", "low"] d_ratio.params f_ratio :=
  by unfold f_ratio; exact Dk.of (d := d_ratio) (k := 2) (N := ["top", "low"]) (calls := [("lowest", 1, [], ⟨f_lowest, none⟩)]) (n := 30) (m := 60) (t := t_ratio) (es := e_ratio) W (c.def_ 5) rfl rfl rfl rfl (He.glo_ok X G (c.fact 5)) (ccons ((D_lowest X G c W).call (by omega) rfl fun _ _ _ _ _ _ _ _ _ us h => match us, h with | [u0], _ => by kernel_rfl) cnil) rfl (by kernel_rfl) (by kernel_rfl)
theorem D_plus : Dk P w K mg base 4 "plus" ["one", "two"] d_plus.params f_plus :=
  by unfold f_plus; exact Dk.of (d := d_plus) (k := 3) (N := ["one", "two"]) (calls := [("ratio", 2, [], ⟨f_ratio, none⟩)]) (n := 30) (m := 60) (t := t_plus) (es := e_plus) W (c.def_ 6) rfl rfl rfl rfl (He.glo_ok X G (c.fact 6)) (ccons ((D_ratio X G c W).call (by omega) rfl fun _ _ _ _ _ _ _ _ _ us h => match us, h with | [u0, u1], _ => by kernel_rfl) cnil) rfl (by kernel_rfl) (by kernel_rfl)
theorem D_times : Dk P w K mg base 4 "times" ["one", "two"] d_times.params f_times :=
  by unfold f_times; exact Dk.of (d := d_times) (k := 3) (N := ["one", "two"]) (calls := [("ratio", 2, [], ⟨f_ratio, none⟩)]) (n := 30) (m := 60) (t := t_times) (es := e_times) W (c.def_ 7) rfl rfl rfl rfl (He.glo_ok X G (c.fact 7)) (ccons ((D_ratio X G c W).call (by omega) rfl fun _ _ _ _ _ _ _ _ _ us h => match us, h with | [u0, u1], _ => by kernel_rfl) cnil) rfl (by kernel_rfl) (by kernel_rfl)
theorem D_trimmed : Dk P w K mg base 1 "trimmed" ["numbers"] d_trimmed.params f_trimmed :=
  by unfold f_trimmed; exact Dk.of (d := d_trimmed) (k := 0) (N := ["numbers", "found"]) (calls := []) (n := 30) (m := 60) (t := t_trimmed) (es := e_trimmed) W (c.def_ 8) rfl rfl rfl rfl (He.glo_ok X G (c.fact 8)) cnil rfl (by kernel_rfl) (by kernel_rfl)
theorem D_degree_of : Dk P w K mg base 1 "degree_of" ["row"] d_degree_of.params f_degree_of :=
  by unfold f_degree_of; exact Dk.of (d := d_degree_of) (k := 0) (N := ["row"]) (calls := []) (n := 30) (m := 60) (t := t_degree_of) (es := e_degree_of) W (c.def_ 9) rfl rfl rfl rfl (He.glo_ok X G (c.fact 9)) cnil rfl (by kernel_rfl) (by kernel_rfl)
theorem D_number_at : Dk P w K mg base 1 "number_at" ["row", "place"] d_number_at.params f_number_at :=
  by unfold f_number_at; exact Dk.of (d := d_number_at) (k := 0) (N := ["row", "place"]) (calls := []) (n := 30) (m := 60) (t := t_number_at) (es := e_number_at) W (c.def_ 10) rfl rfl rfl rfl (He.glo_ok X G (c.fact 10)) cnil rfl (by kernel_rfl) (by kernel_rfl)
theorem D_added : Dk P w K mg base 5 "added" ["row", "other"] d_added.params f_added :=
  by unfold f_added; exact Dk.of (d := d_added) (k := 4) (N := ["row", "other", "many", "at"]) (calls := [("number_at", 2, [], ⟨f_number_at, none⟩), ("plus", 2, [], ⟨f_plus, none⟩), ("trimmed", 1, [], ⟨f_trimmed, none⟩)]) (n := 30) (m := 60) (t := t_added) (es := e_added) W (c.def_ 11) rfl rfl rfl rfl (He.glo_ok X G (c.fact 11)) (ccons ((D_number_at X G c W).call (by omega) rfl fun _ _ _ _ _ _ _ _ _ us h => match us, h with | [u0, u1], _ => by kernel_rfl) (ccons ((D_plus X G c W).call (by omega) rfl fun _ _ _ _ _ _ _ _ _ us h => match us, h with | [u0, u1], _ => by kernel_rfl) (ccons ((D_trimmed X G c W).call (by omega) rfl fun _ _ _ _ _ _ _ _ _ us h => match us, h with | [u0], _ => by kernel_rfl) cnil))) rfl (by kernel_rfl) (by kernel_rfl)
theorem D_multiplied : Dk P w K mg base 5 "multiplied" ["row", "other"] d_multiplied.params f_multiplied :=
  by unfold f_multiplied; exact Dk.of (d := d_multiplied) (k := 4) (N := ["row", "other", "found", "place", "one", "at", "two"]) (calls := [("times", 2, [], ⟨f_times, none⟩), ("plus", 2, [], ⟨f_plus, none⟩), ("trimmed", 1, [], ⟨f_trimmed, none⟩)]) (n := 30) (m := 60) (t := t_multiplied) (es := e_multiplied) W (c.def_ 12) rfl rfl rfl rfl (He.glo_ok X G (c.fact 12)) (ccons ((D_times X G c W).call (by omega) rfl fun _ _ _ _ _ _ _ _ _ us h => match us, h with | [u0, u1], _ => by kernel_rfl) (ccons ((D_plus X G c W).call (by omega) rfl fun _ _ _ _ _ _ _ _ _ us h => match us, h with | [u0, u1], _ => by kernel_rfl) (ccons ((D_trimmed X G c W).call (by omega) rfl fun _ _ _ _ _ _ _ _ _ us h => match us, h with | [u0], _ => by kernel_rfl) cnil))) rfl (by kernel_rfl) (by kernel_rfl)
theorem D_is_led_by : Dk P w K mg base 1 "is_led_by" ["row"] d_is_led_by.params f_is_led_by :=
  by unfold f_is_led_by; exact Dk.of (d := d_is_led_by) (k := 0) (N := ["row"]) (calls := []) (n := 30) (m := 60) (t := t_is_led_by) (es := e_is_led_by) W (c.def_ 13) rfl rfl rfl rfl (He.glo_ok X G (c.fact 13)) cnil rfl (by kernel_rfl) (by kernel_rfl)
theorem D_is_row : Dk P w K mg base 4 "is_row" ["value"] d_is_row.params f_is_row :=
  by unfold f_is_row; exact Dk.of (d := d_is_row) (k := 3) (N := ["value", "each"]) (calls := [("is_ratio", 1, [], ⟨f_is_ratio, none⟩)]) (n := 30) (m := 60) (t := t_is_row) (es := e_is_row) W (c.def_ 14) rfl rfl rfl rfl (He.glo_ok X G (c.fact 14)) (ccons ((D_is_ratio X G c W).call (by omega) rfl fun _ _ _ _ _ _ _ _ _ us h => match us, h with | [u0], _ => by kernel_rfl) cnil) rfl (by kernel_rfl) (by kernel_rfl)
theorem D_is_led : Dk P w K mg base 5 "is_led" ["value"] d_is_led.params f_is_led :=
  by unfold f_is_led; exact Dk.of (d := d_is_led) (k := 4) (N := ["value"]) (calls := [("is_row", 1, [], ⟨f_is_row, none⟩), ("is_led_by", 1, [], ⟨f_is_led_by, none⟩)]) (n := 30) (m := 60) (t := t_is_led) (es := e_is_led) W (c.def_ 15) rfl rfl rfl rfl (He.glo_ok X G (c.fact 15)) (ccons ((D_is_row X G c W).call (by omega) rfl fun _ _ _ _ _ _ _ _ _ us h => match us, h with | [u0], _ => by kernel_rfl) (ccons ((D_is_led_by X G c W).call (by omega) rfl fun _ _ _ _ _ _ _ _ _ us h => match us, h with | [u0], _ => by kernel_rfl) cnil)) rfl (by kernel_rfl) (by kernel_rfl)
theorem D_is_machine : Dk P w K mg base 6 "is_machine" ["value"] d_is_machine.params f_is_machine :=
  by unfold f_is_machine; exact Dk.of (d := d_is_machine) (k := 5) (N := ["value"]) (calls := [("is_row", 1, [], ⟨f_is_row, none⟩), ("is_led", 1, [], ⟨f_is_led, none⟩)]) (n := 30) (m := 60) (t := t_is_machine) (es := e_is_machine) W (c.def_ 16) rfl rfl rfl rfl (He.glo_ok X G (c.fact 16)) (ccons ((D_is_row X G c W).call (by omega) rfl fun _ _ _ _ _ _ _ _ _ us h => match us, h with | [u0], _ => by kernel_rfl) (ccons ((D_is_led X G c W).call (by omega) rfl fun _ _ _ _ _ _ _ _ _ us h => match us, h with | [u0], _ => by kernel_rfl) cnil)) rfl (by kernel_rfl) (by kernel_rfl)
theorem D_is_helm : Dk P w K mg base 6 "is_helm" ["value"] d_is_helm.params f_is_helm :=
  by unfold f_is_helm; exact Dk.of (d := d_is_helm) (k := 5) (N := ["value"]) (calls := [("is_row", 1, [], ⟨f_is_row, none⟩), ("is_led", 1, [], ⟨f_is_led, none⟩)]) (n := 30) (m := 60) (t := t_is_helm) (es := e_is_helm) W (c.def_ 17) rfl rfl rfl rfl (He.glo_ok X G (c.fact 17)) (ccons ((D_is_row X G c W).call (by omega) rfl fun _ _ _ _ _ _ _ _ _ us h => match us, h with | [u0], _ => by kernel_rfl) (ccons ((D_is_led X G c W).call (by omega) rfl fun _ _ _ _ _ _ _ _ _ us h => match us, h with | [u0], _ => by kernel_rfl) cnil)) rfl (by kernel_rfl) (by kernel_rfl)
theorem D_check_machine : Dk P w K mg base 7 "check_machine" ["value"] d_check_machine.params f_check_machine :=
  by unfold f_check_machine; exact Dk.of (d := d_check_machine) (k := 6) (N := ["value"]) (calls := [("is_machine", 1, [], ⟨f_is_machine, none⟩)]) (n := 30) (m := 60) (t := t_check_machine) (es := e_check_machine) W (c.def_ 18) rfl rfl rfl rfl (He.glo_ok X G (c.fact 18)) (ccons ((D_is_machine X G c W).call (by omega) rfl fun _ _ _ _ _ _ _ _ _ us h => match us, h with | [u0], _ => by kernel_rfl) cnil) rfl (by kernel_rfl) (by kernel_rfl)
theorem D_check_helm : Dk P w K mg base 7 "check_helm" ["value"] d_check_helm.params f_check_helm :=
  by unfold f_check_helm; exact Dk.of (d := d_check_helm) (k := 6) (N := ["value"]) (calls := [("is_helm", 1, [], ⟨f_is_helm, none⟩)]) (n := 30) (m := 60) (t := t_check_helm) (es := e_check_helm) W (c.def_ 19) rfl rfl rfl rfl (He.glo_ok X G (c.fact 19)) (ccons ((D_is_helm X G c W).call (by omega) rfl fun _ _ _ _ _ _ _ _ _ us h => match us, h with | [u0], _ => by kernel_rfl) cnil) rfl (by kernel_rfl) (by kernel_rfl)
theorem D_check_pair : Dk P w K mg base 8 "check_pair" ["machine", "helm"] d_check_pair.params f_check_pair :=
  by unfold f_check_pair; exact Dk.of (d := d_check_pair) (k := 7) (N := ["machine", "helm"]) (calls := [("check_machine", 1, [], ⟨f_check_machine, none⟩), ("check_helm", 1, [], ⟨f_check_helm, none⟩)]) (n := 30) (m := 60) (t := t_check_pair) (es := e_check_pair) W (c.def_ 20) rfl rfl rfl rfl (He.glo_ok X G (c.fact 20)) (ccons ((D_check_machine X G c W).call (by omega) rfl fun _ _ _ _ _ _ _ _ _ us h => match us, h with | [u0], _ => by kernel_rfl) (ccons ((D_check_helm X G c W).call (by omega) rfl fun _ _ _ _ _ _ _ _ _ us h => match us, h with | [u0], _ => by kernel_rfl) cnil)) rfl (by kernel_rfl) (by kernel_rfl)
theorem D_size_by : Dk P w K mg base 2 "size_by" ["pair"] d_size_by.params f_size_by :=
  by unfold f_size_by; exact Dk.of (d := d_size_by) (k := 1) (N := ["pair"]) (calls := [("degree_of", 1, [], ⟨f_degree_of, none⟩)]) (n := 30) (m := 60) (t := t_size_by) (es := e_size_by) W (c.def_ 21) rfl rfl rfl rfl (He.glo_ok X G (c.fact 21)) (ccons ((D_degree_of X G c W).call (by omega) rfl fun _ _ _ _ _ _ _ _ _ us h => match us, h with | [u0], _ => by kernel_rfl) cnil) rfl (by kernel_rfl) (by kernel_rfl)
theorem D_closing_by : Dk P w K mg base 6 "closing_by" ["machine", "helm"] d_closing_by.params f_closing_by :=
  by unfold f_closing_by; exact Dk.of (d := d_closing_by) (k := 5) (N := ["machine", "helm"]) (calls := [("multiplied", 2, [], ⟨f_multiplied, none⟩), ("added", 2, [], ⟨f_added, none⟩)]) (n := 30) (m := 60) (t := t_closing_by) (es := e_closing_by) W (c.def_ 22) rfl rfl rfl rfl (He.glo_ok X G (c.fact 22)) (ccons ((D_multiplied X G c W).call (by omega) rfl fun _ _ _ _ _ _ _ _ _ us h => match us, h with | [u0, u1], _ => by kernel_rfl) (ccons ((D_added X G c W).call (by omega) rfl fun _ _ _ _ _ _ _ _ _ us h => match us, h with | [u0, u1], _ => by kernel_rfl) cnil)) rfl (by kernel_rfl) (by kernel_rfl)
theorem D_is_number_one : Dk P w K mg base 1 "is_number_one" ["row"] d_is_number_one.params f_is_number_one :=
  by unfold f_is_number_one; exact Dk.of (d := d_is_number_one) (k := 0) (N := ["row"]) (calls := []) (n := 30) (m := 60) (t := t_is_number_one) (es := e_is_number_one) W (c.def_ 23) rfl rfl rfl rfl (He.glo_ok X G (c.fact 23)) cnil rfl (by kernel_rfl) (by kernel_rfl)
theorem D_closing_row : Dk P w K mg base 9 "closing_row" ["machine", "helm"] d_closing_row.params f_closing_row :=
  by unfold f_closing_row; exact Dk.of (d := d_closing_row) (k := 8) (N := ["machine", "helm"]) (calls := [("check_pair", 2, [], ⟨f_check_pair, none⟩), ("closing_by", 2, [], ⟨f_closing_by, none⟩)]) (n := 30) (m := 60) (t := t_closing_row) (es := e_closing_row) W (c.def_ 24) rfl rfl rfl rfl (He.glo_ok X G (c.fact 24)) (ccons ((D_check_pair X G c W).call (by omega) rfl fun _ _ _ _ _ _ _ _ _ us h => match us, h with | [u0, u1], _ => by kernel_rfl) (ccons ((D_closing_by X G c W).call (by omega) rfl fun _ _ _ _ _ _ _ _ _ us h => match us, h with | [u0, u1], _ => by kernel_rfl) cnil)) rfl (by kernel_rfl) (by kernel_rfl)
theorem D_last_beat : Dk P w K mg base 9 "last_beat" ["machine", "helm"] d_last_beat.params f_last_beat :=
  by unfold f_last_beat; exact Dk.of (d := d_last_beat) (k := 8) (N := ["machine", "helm"]) (calls := [("check_pair", 2, [], ⟨f_check_pair, none⟩), ("closing_by", 2, [], ⟨f_closing_by, none⟩), ("is_number_one", 1, [], ⟨f_is_number_one, none⟩), ("size_by", 1, [], ⟨f_size_by, none⟩)]) (n := 30) (m := 60) (t := t_last_beat) (es := e_last_beat) W (c.def_ 25) rfl rfl rfl rfl (He.glo_ok X G (c.fact 25)) (ccons ((D_check_pair X G c W).call (by omega) rfl fun _ _ _ _ _ _ _ _ _ us h => match us, h with | [u0, u1], _ => by kernel_rfl) (ccons ((D_closing_by X G c W).call (by omega) rfl fun _ _ _ _ _ _ _ _ _ us h => match us, h with | [u0, u1], _ => by kernel_rfl) (ccons ((D_is_number_one X G c W).call (by omega) rfl fun _ _ _ _ _ _ _ _ _ us h => match us, h with | [u0], _ => by kernel_rfl) (ccons ((D_size_by X G c W).call (by omega) rfl fun _ _ _ _ _ _ _ _ _ us h => match us, h with | [u0], _ => by kernel_rfl) cnil)))) rfl (by kernel_rfl) (by kernel_rfl)
theorem D__law_reel : Dk P w K mg base 1 "_law_reel" ["script", "turn"] d__law_reel.params f__law_reel :=
  by unfold f__law_reel; exact Dk.of (d := d__law_reel) (k := 0) (N := ["script", "turn", "state", "cell", "own"]) (calls := []) (n := 30) (m := 60) (t := t__law_reel) (es := e__law_reel) W (c.def_ 26) rfl rfl rfl rfl (He.glo_ok X G (c.fact 26)) cnil rfl (by kernel_rfl) (by kernel_rfl)
theorem D__law_pull : Dk P w K mg base 1 "_law_pull" ["reel", "many"] d__law_pull.params f__law_pull :=
  by unfold f__law_pull; exact Dk.of (d := d__law_pull) (k := 0) (N := ["reel", "many", "digit", "seed"]) (calls := []) (n := 30) (m := 60) (t := t__law_pull) (es := e__law_pull) W (c.def_ 27) rfl rfl rfl rfl (He.glo_ok X G (c.fact 27)) cnil rfl (by kernel_rfl) (by kernel_rfl)
theorem D__law_one_of : Dk P w K mg base 2 "_law_one_of" ["reel", "some"] d__law_one_of.params f__law_one_of :=
  by unfold f__law_one_of; exact Dk.of (d := d__law_one_of) (k := 1) (N := ["reel", "some"]) (calls := [("_law_pull", 2, [], ⟨f__law_pull, none⟩)]) (n := 30) (m := 60) (t := t__law_one_of) (es := e__law_one_of) W (c.def_ 28) rfl rfl rfl rfl (He.glo_ok X G (c.fact 28)) (ccons ((D__law_pull X G c W).call (by omega) rfl fun _ _ _ _ _ _ _ _ _ us h => match us, h with | [u0, u1], _ => by kernel_rfl) cnil) rfl (by kernel_rfl) (by kernel_rfl)
theorem D__law_lowest : Dk P w K mg base 1 "_law_lowest" ["n", "m"] d__law_lowest.params f__law_lowest :=
  by unfold f__law_lowest; exact Dk.of (d := d__law_lowest) (k := 0) (N := ["n", "m", "a", "b"]) (calls := []) (n := 30) (m := 60) (t := t__law_lowest) (es := e__law_lowest) W (c.def_ 29) rfl rfl rfl rfl (He.glo_ok X G (c.fact 29)) cnil rfl (by kernel_rfl) (by kernel_rfl)
theorem D__law_plus : Dk P w K mg base 2 "_law_plus" ["one", "two"] d__law_plus.params f__law_plus :=
  by unfold f__law_plus; exact Dk.of (d := d__law_plus) (k := 1) (N := ["one", "two"]) (calls := [("_law_lowest", 2, [], ⟨f__law_lowest, none⟩)]) (n := 30) (m := 60) (t := t__law_plus) (es := e__law_plus) W (c.def_ 30) rfl rfl rfl rfl (He.glo_ok X G (c.fact 30)) (ccons ((D__law_lowest X G c W).call (by omega) rfl fun _ _ _ _ _ _ _ _ _ us h => match us, h with | [u0, u1], _ => by kernel_rfl) cnil) rfl (by kernel_rfl) (by kernel_rfl)
theorem D__law_minus : Dk P w K mg base 2 "_law_minus" ["one", "two"] d__law_minus.params f__law_minus :=
  by unfold f__law_minus; exact Dk.of (d := d__law_minus) (k := 1) (N := ["one", "two"]) (calls := [("_law_lowest", 2, [], ⟨f__law_lowest, none⟩)]) (n := 30) (m := 60) (t := t__law_minus) (es := e__law_minus) W (c.def_ 31) rfl rfl rfl rfl (He.glo_ok X G (c.fact 31)) (ccons ((D__law_lowest X G c W).call (by omega) rfl fun _ _ _ _ _ _ _ _ _ us h => match us, h with | [u0, u1], _ => by kernel_rfl) cnil) rfl (by kernel_rfl) (by kernel_rfl)
theorem D__law_times : Dk P w K mg base 2 "_law_times" ["one", "two"] d__law_times.params f__law_times :=
  by unfold f__law_times; exact Dk.of (d := d__law_times) (k := 1) (N := ["one", "two"]) (calls := [("_law_lowest", 2, [], ⟨f__law_lowest, none⟩)]) (n := 30) (m := 60) (t := t__law_times) (es := e__law_times) W (c.def_ 32) rfl rfl rfl rfl (He.glo_ok X G (c.fact 32)) (ccons ((D__law_lowest X G c W).call (by omega) rfl fun _ _ _ _ _ _ _ _ _ us h => match us, h with | [u0, u1], _ => by kernel_rfl) cnil) rfl (by kernel_rfl) (by kernel_rfl)
theorem D__law_over : Dk P w K mg base 2 "_law_over" ["one", "two"] d__law_over.params f__law_over :=
  by unfold f__law_over; exact Dk.of (d := d__law_over) (k := 1) (N := ["one", "two"]) (calls := [("_law_lowest", 2, [], ⟨f__law_lowest, none⟩)]) (n := 30) (m := 60) (t := t__law_over) (es := e__law_over) W (c.def_ 33) rfl rfl rfl rfl (He.glo_ok X G (c.fact 33)) (ccons ((D__law_lowest X G c W).call (by omega) rfl fun _ _ _ _ _ _ _ _ _ us h => match us, h with | [u0, u1], _ => by kernel_rfl) cnil) rfl (by kernel_rfl) (by kernel_rfl)
theorem D__law_part : Dk P w K mg base 2 "_law_part" ["reel"] d__law_part.params f__law_part :=
  by unfold f__law_part; exact Dk.of (d := d__law_part) (k := 1) (N := ["reel", "top"]) (calls := [("_law_pull", 2, [], ⟨f__law_pull, none⟩), ("_law_lowest", 2, [], ⟨f__law_lowest, none⟩)]) (n := 30) (m := 60) (t := t__law_part) (es := e__law_part) W (c.def_ 34) rfl rfl rfl rfl (He.glo_ok X G (c.fact 34)) (ccons ((D__law_pull X G c W).call (by omega) rfl fun _ _ _ _ _ _ _ _ _ us h => match us, h with | [u0, u1], _ => by kernel_rfl) (ccons ((D__law_lowest X G c W).call (by omega) rfl fun _ _ _ _ _ _ _ _ _ us h => match us, h with | [u0, u1], _ => by kernel_rfl) cnil)) rfl (by kernel_rfl) (by kernel_rfl)
theorem D__law_some : Dk P w K mg base 3 "_law_some" ["reel"] d__law_some.params f__law_some :=
  by unfold f__law_some; exact Dk.of (d := d__law_some) (k := 2) (N := ["reel", "found"]) (calls := [("_law_part", 1, [], ⟨f__law_part, none⟩)]) (n := 30) (m := 60) (t := t__law_some) (es := e__law_some) W (c.def_ 35) rfl rfl rfl rfl (He.glo_ok X G (c.fact 35)) (ccons ((D__law_part X G c W).call (by omega) rfl fun _ _ _ _ _ _ _ _ _ us h => match us, h with | [u0], _ => by kernel_rfl) cnil) rfl (by kernel_rfl) (by kernel_rfl)
theorem D__law_trim : Dk P w K mg base 1 "_law_trim" ["numbers"] d__law_trim.params f__law_trim :=
  by unfold f__law_trim; exact Dk.of (d := d__law_trim) (k := 0) (N := ["numbers", "many", "turn"]) (calls := []) (n := 30) (m := 60) (t := t__law_trim) (es := e__law_trim) W (c.def_ 36) rfl rfl rfl rfl (He.glo_ok X G (c.fact 36)) cnil rfl (by kernel_rfl) (by kernel_rfl)
theorem D__law_at : Dk P w K mg base 1 "_law_at" ["row", "k"] d__law_at.params f__law_at :=
  by unfold f__law_at; exact Dk.of (d := d__law_at) (k := 0) (N := ["row", "k"]) (calls := []) (n := 30) (m := 60) (t := t__law_at) (es := e__law_at) W (c.def_ 37) rfl rfl rfl rfl (He.glo_ok X G (c.fact 37)) cnil rfl (by kernel_rfl) (by kernel_rfl)
theorem D__law_sum : Dk P w K mg base 3 "_law_sum" ["one", "two"] d__law_sum.params f__law_sum :=
  by unfold f__law_sum; exact Dk.of (d := d__law_sum) (k := 2) (N := ["one", "two", "k"]) (calls := [("_law_at", 2, [], ⟨f__law_at, none⟩), ("_law_plus", 2, [], ⟨f__law_plus, none⟩), ("_law_trim", 1, [], ⟨f__law_trim, none⟩)]) (n := 30) (m := 60) (t := t__law_sum) (es := e__law_sum) W (c.def_ 38) rfl rfl rfl rfl (He.glo_ok X G (c.fact 38)) (ccons ((D__law_at X G c W).call (by omega) rfl fun _ _ _ _ _ _ _ _ _ us h => match us, h with | [u0, u1], _ => by kernel_rfl) (ccons ((D__law_plus X G c W).call (by omega) rfl fun _ _ _ _ _ _ _ _ _ us h => match us, h with | [u0, u1], _ => by kernel_rfl) (ccons ((D__law_trim X G c W).call (by omega) rfl fun _ _ _ _ _ _ _ _ _ us h => match us, h with | [u0], _ => by kernel_rfl) cnil))) rfl (by kernel_rfl) (by kernel_rfl)
theorem D__law_scaled : Dk P w K mg base 3 "_law_scaled" ["row", "by"] d__law_scaled.params f__law_scaled :=
  by unfold f__law_scaled; exact Dk.of (d := d__law_scaled) (k := 2) (N := ["row", "by", "each"]) (calls := [("_law_times", 2, [], ⟨f__law_times, none⟩), ("_law_trim", 1, [], ⟨f__law_trim, none⟩)]) (n := 30) (m := 60) (t := t__law_scaled) (es := e__law_scaled) W (c.def_ 39) rfl rfl rfl rfl (He.glo_ok X G (c.fact 39)) (ccons ((D__law_times X G c W).call (by omega) rfl fun _ _ _ _ _ _ _ _ _ us h => match us, h with | [u0, u1], _ => by kernel_rfl) (ccons ((D__law_trim X G c W).call (by omega) rfl fun _ _ _ _ _ _ _ _ _ us h => match us, h with | [u0], _ => by kernel_rfl) cnil)) rfl (by kernel_rfl) (by kernel_rfl)
theorem D__law_less : Dk P w K mg base 4 "_law_less" ["one", "two"] d__law_less.params f__law_less :=
  by unfold f__law_less; exact Dk.of (d := d__law_less) (k := 3) (N := ["one", "two"]) (calls := [("_law_scaled", 2, [], ⟨f__law_scaled, none⟩), ("_law_sum", 2, [], ⟨f__law_sum, none⟩)]) (n := 30) (m := 60) (t := t__law_less) (es := e__law_less) W (c.def_ 40) rfl rfl rfl rfl (He.glo_ok X G (c.fact 40)) (ccons ((D__law_scaled X G c W).call (by omega) rfl fun _ _ _ _ _ _ _ _ _ us h => match us, h with | [u0, u1], _ => by kernel_rfl) (ccons ((D__law_sum X G c W).call (by omega) rfl fun _ _ _ _ _ _ _ _ _ us h => match us, h with | [u0, u1], _ => by kernel_rfl) cnil)) rfl (by kernel_rfl) (by kernel_rfl)
theorem D__law_product : Dk P w K mg base 3 "_law_product" ["one", "two"] d__law_product.params f__law_product :=
  by unfold f__law_product; exact Dk.of (d := d__law_product) (k := 2) (N := ["one", "two", "found", "j", "k"]) (calls := [("_law_times", 2, [], ⟨f__law_times, none⟩), ("_law_plus", 2, [], ⟨f__law_plus, none⟩), ("_law_trim", 1, [], ⟨f__law_trim, none⟩)]) (n := 30) (m := 60) (t := t__law_product) (es := e__law_product) W (c.def_ 41) rfl rfl rfl rfl (He.glo_ok X G (c.fact 41)) (ccons ((D__law_times X G c W).call (by omega) rfl fun _ _ _ _ _ _ _ _ _ us h => match us, h with | [u0, u1], _ => by kernel_rfl) (ccons ((D__law_plus X G c W).call (by omega) rfl fun _ _ _ _ _ _ _ _ _ us h => match us, h with | [u0, u1], _ => by kernel_rfl) (ccons ((D__law_trim X G c W).call (by omega) rfl fun _ _ _ _ _ _ _ _ _ us h => match us, h with | [u0], _ => by kernel_rfl) cnil))) rfl (by kernel_rfl) (by kernel_rfl)
theorem D__law_parted : Dk P w K mg base 3 "_law_parted" ["one", "two"] d__law_parted.params f__law_parted :=
  by unfold f__law_parted; exact Dk.of (d := d__law_parted) (k := 2) (N := ["one", "two", "rest", "quotient", "k", "by", "j"]) (calls := [("_law_over", 2, [], ⟨f__law_over, none⟩), ("_law_times", 2, [], ⟨f__law_times, none⟩), ("_law_minus", 2, [], ⟨f__law_minus, none⟩), ("_law_trim", 1, [], ⟨f__law_trim, none⟩)]) (n := 30) (m := 60) (t := t__law_parted) (es := e__law_parted) W (c.def_ 42) rfl rfl rfl rfl (He.glo_ok X G (c.fact 42)) (ccons ((D__law_over X G c W).call (by omega) rfl fun _ _ _ _ _ _ _ _ _ us h => match us, h with | [u0, u1], _ => by kernel_rfl) (ccons ((D__law_times X G c W).call (by omega) rfl fun _ _ _ _ _ _ _ _ _ us h => match us, h with | [u0, u1], _ => by kernel_rfl) (ccons ((D__law_minus X G c W).call (by omega) rfl fun _ _ _ _ _ _ _ _ _ us h => match us, h with | [u0, u1], _ => by kernel_rfl) (ccons ((D__law_trim X G c W).call (by omega) rfl fun _ _ _ _ _ _ _ _ _ us h => match us, h with | [u0], _ => by kernel_rfl) cnil)))) rfl (by kernel_rfl) (by kernel_rfl)
theorem D__law_low : Dk P w K mg base 4 "_law_low" ["row"] d__law_low.params f__law_low :=
  by unfold f__law_low; exact Dk.of (d := d__law_low) (k := 3) (N := ["row", "some", "each"]) (calls := [("_law_over", 2, [], ⟨f__law_over, none⟩), ("_law_scaled", 2, [], ⟨f__law_scaled, none⟩)]) (n := 30) (m := 60) (t := t__law_low) (es := e__law_low) W (c.def_ 43) rfl rfl rfl rfl (He.glo_ok X G (c.fact 43)) (ccons ((D__law_over X G c W).call (by omega) rfl fun _ _ _ _ _ _ _ _ _ us h => match us, h with | [u0, u1], _ => by kernel_rfl) (ccons ((D__law_scaled X G c W).call (by omega) rfl fun _ _ _ _ _ _ _ _ _ us h => match us, h with | [u0, u1], _ => by kernel_rfl) cnil)) rfl (by kernel_rfl) (by kernel_rfl)
theorem D__law_divisor : Dk P w K mg base 5 "_law_divisor" ["one", "two"] d__law_divisor.params f__law_divisor :=
  by unfold f__law_divisor; exact Dk.of (d := d__law_divisor) (k := 4) (N := ["one", "two", "turn"]) (calls := [("_law_parted", 2, [], ⟨f__law_parted, none⟩), ("_law_low", 1, [], ⟨f__law_low, none⟩)]) (n := 30) (m := 60) (t := t__law_divisor) (es := e__law_divisor) W (c.def_ 44) rfl rfl rfl rfl (He.glo_ok X G (c.fact 44)) (ccons ((D__law_parted X G c W).call (by omega) rfl fun _ _ _ _ _ _ _ _ _ us h => match us, h with | [u0, u1], _ => by kernel_rfl) (ccons ((D__law_low X G c W).call (by omega) rfl fun _ _ _ _ _ _ _ _ _ us h => match us, h with | [u0], _ => by kernel_rfl) cnil)) rfl (by kernel_rfl) (by kernel_rfl)
theorem D__law_bent : Dk P w K mg base 3 "_law_bent" ["bends"] d__law_bent.params f__law_bent :=
  by unfold f__law_bent; exact Dk.of (d := d__law_bent) (k := 2) (N := ["bends", "numbers", "k", "more", "j", "i"]) (calls := [("_law_times", 2, [], ⟨f__law_times, none⟩), ("_law_plus", 2, [], ⟨f__law_plus, none⟩), ("_law_trim", 1, [], ⟨f__law_trim, none⟩)]) (n := 30) (m := 60) (t := t__law_bent) (es := e__law_bent) W (c.def_ 45) rfl rfl rfl rfl (He.glo_ok X G (c.fact 45)) (ccons ((D__law_times X G c W).call (by omega) rfl fun _ _ _ _ _ _ _ _ _ us h => match us, h with | [u0, u1], _ => by kernel_rfl) (ccons ((D__law_plus X G c W).call (by omega) rfl fun _ _ _ _ _ _ _ _ _ us h => match us, h with | [u0, u1], _ => by kernel_rfl) (ccons ((D__law_trim X G c W).call (by omega) rfl fun _ _ _ _ _ _ _ _ _ us h => match us, h with | [u0], _ => by kernel_rfl) cnil))) rfl (by kernel_rfl) (by kernel_rfl)
theorem D__law_bend : Dk P w K mg base 3 "_law_bend" ["reel"] d__law_bend.params f__law_bend :=
  by unfold f__law_bend; exact Dk.of (d := d__law_bend) (k := 2) (N := ["reel"]) (calls := [("_law_one_of", 2, [], ⟨f__law_one_of, none⟩)]) (n := 30) (m := 60) (t := t__law_bend) (es := e__law_bend) W (c.def_ 46) rfl rfl rfl rfl (He.glo_ok X G (c.fact 46)) (ccons ((D__law_one_of X G c W).call (by omega) rfl fun _ _ _ _ _ _ _ _ _ us h => match us, h with | [u0, u1], _ => by kernel_rfl) cnil) rfl (by kernel_rfl) (by kernel_rfl)
theorem D__law_calm : Dk P w K mg base 4 "_law_calm" ["reel", "most"] d__law_calm.params f__law_calm :=
  by unfold f__law_calm; exact Dk.of (d := d__law_calm) (k := 3) (N := ["reel", "most", "bends", "turn"]) (calls := [("_law_pull", 2, [], ⟨f__law_pull, none⟩), ("_law_bend", 1, [], ⟨f__law_bend, none⟩), ("_law_bent", 1, [], ⟨f__law_bent, none⟩)]) (n := 30) (m := 60) (t := t__law_calm) (es := e__law_calm) W (c.def_ 47) rfl rfl rfl rfl (He.glo_ok X G (c.fact 47)) (ccons ((D__law_pull X G c W).call (by omega) rfl fun _ _ _ _ _ _ _ _ _ us h => match us, h with | [u0, u1], _ => by kernel_rfl) (ccons ((D__law_bend X G c W).call (by omega) rfl fun _ _ _ _ _ _ _ _ _ us h => match us, h with | [u0], _ => by kernel_rfl) (ccons ((D__law_bent X G c W).call (by omega) rfl fun _ _ _ _ _ _ _ _ _ us h => match us, h with | [u0], _ => by kernel_rfl) cnil))) rfl (by kernel_rfl) (by kernel_rfl)
theorem D__law_whole_row : Dk P w K mg base 1 "_law_whole_row" ["numbers"] d__law_whole_row.params f__law_whole_row :=
  by unfold f__law_whole_row; exact Dk.of (d := d__law_whole_row) (k := 0) (N := ["numbers", "number"]) (calls := []) (n := 30) (m := 60) (t := t__law_whole_row) (es := e__law_whole_row) W (c.def_ 48) rfl rfl rfl rfl (He.glo_ok X G (c.fact 48)) cnil rfl (by kernel_rfl) (by kernel_rfl)
theorem D__law_wild : Dk P w K mg base 3 "_law_wild" ["reel"] d__law_wild.params f__law_wild :=
  by unfold f__law_wild; exact Dk.of (d := d__law_wild) (k := 2) (N := ["reel"]) (calls := [("_law_pull", 2, [], ⟨f__law_pull, none⟩), ("_law_one_of", 2, [], ⟨f__law_one_of, none⟩), ("_law_whole_row", 1, [], ⟨f__law_whole_row, none⟩)]) (n := 30) (m := 60) (t := t__law_wild) (es := e__law_wild) W (c.def_ 49) rfl rfl rfl rfl (He.glo_ok X G (c.fact 49)) (ccons ((D__law_pull X G c W).call (by omega) rfl fun _ _ _ _ _ _ _ _ _ us h => match us, h with | [u0, u1], _ => by kernel_rfl) (ccons ((D__law_one_of X G c W).call (by omega) rfl fun _ _ _ _ _ _ _ _ _ us h => match us, h with | [u0, u1], _ => by kernel_rfl) (ccons ((D__law_whole_row X G c W).call (by omega) rfl fun _ _ _ _ _ _ _ _ _ us h => match us, h with | [u0], _ => by kernel_rfl) cnil))) rfl (by kernel_rfl) (by kernel_rfl)
theorem D__law_drawn : Dk P w K mg base 4 "_law_drawn" ["reel", "most"] d__law_drawn.params f__law_drawn :=
  by unfold f__law_drawn; exact Dk.of (d := d__law_drawn) (k := 3) (N := ["reel", "most", "many", "found", "k"]) (calls := [("_law_pull", 2, [], ⟨f__law_pull, none⟩), ("_law_part", 1, [], ⟨f__law_part, none⟩), ("_law_some", 1, [], ⟨f__law_some, none⟩)]) (n := 30) (m := 60) (t := t__law_drawn) (es := e__law_drawn) W (c.def_ 50) rfl rfl rfl rfl (He.glo_ok X G (c.fact 50)) (ccons ((D__law_pull X G c W).call (by omega) rfl fun _ _ _ _ _ _ _ _ _ us h => match us, h with | [u0, u1], _ => by kernel_rfl) (ccons ((D__law_part X G c W).call (by omega) rfl fun _ _ _ _ _ _ _ _ _ us h => match us, h with | [u0], _ => by kernel_rfl) (ccons ((D__law_some X G c W).call (by omega) rfl fun _ _ _ _ _ _ _ _ _ us h => match us, h with | [u0], _ => by kernel_rfl) cnil))) rfl (by kernel_rfl) (by kernel_rfl)
theorem D__law_led : Dk P w K mg base 5 "_law_led" ["reel", "most"] d__law_led.params f__law_led :=
  by unfold f__law_led; exact Dk.of (d := d__law_led) (k := 4) (N := ["reel", "most"]) (calls := [("_law_drawn", 2, [], ⟨f__law_drawn, none⟩), ("_law_trim", 1, [], ⟨f__law_trim, none⟩)]) (n := 30) (m := 60) (t := t__law_led) (es := e__law_led) W (c.def_ 51) rfl rfl rfl rfl (He.glo_ok X G (c.fact 51)) (ccons ((D__law_drawn X G c W).call (by omega) rfl fun _ _ _ _ _ _ _ _ _ us h => match us, h with | [u0, u1], _ => by kernel_rfl) (ccons ((D__law_trim X G c W).call (by omega) rfl fun _ _ _ _ _ _ _ _ _ us h => match us, h with | [u0], _ => by kernel_rfl) cnil)) rfl (by kernel_rfl) (by kernel_rfl)
theorem D__law_later : Dk P w K mg base 1 "_law_later" ["row", "by"] d__law_later.params f__law_later :=
  by unfold f__law_later; exact Dk.of (d := d__law_later) (k := 0) (N := ["row", "by"]) (calls := []) (n := 30) (m := 60) (t := t__law_later) (es := e__law_later) W (c.def_ 52) rfl rfl rfl rfl (He.glo_ok X G (c.fact 52)) cnil rfl (by kernel_rfl) (by kernel_rfl)
theorem D__law_base : Dk P w K mg base 5 "_law_base" ["n", "m"] d__law_base.params f__law_base :=
  by unfold f__law_base; exact Dk.of (d := d__law_base) (k := 4) (N := ["n", "m", "one", "two", "first", "second", "turn", "quotient", "rest", "p"]) (calls := [("_law_parted", 2, [], ⟨f__law_parted, none⟩), ("_law_product", 2, [], ⟨f__law_product, none⟩), ("_law_less", 2, [], ⟨f__law_less, none⟩), ("_law_over", 2, [], ⟨f__law_over, none⟩), ("_law_scaled", 2, [], ⟨f__law_scaled, none⟩)]) (n := 30) (m := 60) (t := t__law_base) (es := e__law_base) W (c.def_ 53) rfl rfl rfl rfl (He.glo_ok X G (c.fact 53)) (ccons ((D__law_parted X G c W).call (by omega) rfl fun _ _ _ _ _ _ _ _ _ us h => match us, h with | [u0, u1], _ => by kernel_rfl) (ccons ((D__law_product X G c W).call (by omega) rfl fun _ _ _ _ _ _ _ _ _ us h => match us, h with | [u0, u1], _ => by kernel_rfl) (ccons ((D__law_less X G c W).call (by omega) rfl fun _ _ _ _ _ _ _ _ _ us h => match us, h with | [u0, u1], _ => by kernel_rfl) (ccons ((D__law_over X G c W).call (by omega) rfl fun _ _ _ _ _ _ _ _ _ us h => match us, h with | [u0, u1], _ => by kernel_rfl) (ccons ((D__law_scaled X G c W).call (by omega) rfl fun _ _ _ _ _ _ _ _ _ us h => match us, h with | [u0, u1], _ => by kernel_rfl) cnil))))) rfl (by kernel_rfl) (by kernel_rfl)
theorem D__law_coprime : Dk P w K mg base 6 "_law_coprime" ["n", "m"] d__law_coprime.params f__law_coprime :=
  by unfold f__law_coprime; exact Dk.of (d := d__law_coprime) (k := 5) (N := ["n", "m", "turn", "both"]) (calls := [("_law_divisor", 2, [], ⟨f__law_divisor, none⟩), ("_law_parted", 2, [], ⟨f__law_parted, none⟩)]) (n := 30) (m := 60) (t := t__law_coprime) (es := e__law_coprime) W (c.def_ 54) rfl rfl rfl rfl (He.glo_ok X G (c.fact 54)) (ccons ((D__law_divisor X G c W).call (by omega) rfl fun _ _ _ _ _ _ _ _ _ us h => match us, h with | [u0, u1], _ => by kernel_rfl) (ccons ((D__law_parted X G c W).call (by omega) rfl fun _ _ _ _ _ _ _ _ _ us h => match us, h with | [u0, u1], _ => by kernel_rfl) cnil)) rfl (by kernel_rfl) (by kernel_rfl)
theorem D__law_core : Dk P w K mg base 7 "_law_core" ["reel", "most"] d__law_core.params f__law_core :=
  by unfold f__law_core; exact Dk.of (d := d__law_core) (k := 6) (N := ["reel", "most", "way", "n", "m", "turn"]) (calls := [("_law_pull", 2, [], ⟨f__law_pull, none⟩), ("_law_some", 1, [], ⟨f__law_some, none⟩), ("_law_wild", 1, [], ⟨f__law_wild, none⟩), ("_law_product", 2, [], ⟨f__law_product, none⟩), ("_law_led", 2, [], ⟨f__law_led, none⟩), ("_law_later", 2, [], ⟨f__law_later, none⟩), ("_law_coprime", 2, [], ⟨f__law_coprime, none⟩)]) (n := 30) (m := 60) (t := t__law_core) (es := e__law_core) W (c.def_ 55) rfl rfl rfl rfl (He.glo_ok X G (c.fact 55)) (ccons ((D__law_pull X G c W).call (by omega) rfl fun _ _ _ _ _ _ _ _ _ us h => match us, h with | [u0, u1], _ => by kernel_rfl) (ccons ((D__law_some X G c W).call (by omega) rfl fun _ _ _ _ _ _ _ _ _ us h => match us, h with | [u0], _ => by kernel_rfl) (ccons ((D__law_wild X G c W).call (by omega) rfl fun _ _ _ _ _ _ _ _ _ us h => match us, h with | [u0], _ => by kernel_rfl) (ccons ((D__law_product X G c W).call (by omega) rfl fun _ _ _ _ _ _ _ _ _ us h => match us, h with | [u0, u1], _ => by kernel_rfl) (ccons ((D__law_led X G c W).call (by omega) rfl fun _ _ _ _ _ _ _ _ _ us h => match us, h with | [u0, u1], _ => by kernel_rfl) (ccons ((D__law_later X G c W).call (by omega) rfl fun _ _ _ _ _ _ _ _ _ us h => match us, h with | [u0, u1], _ => by kernel_rfl) (ccons ((D__law_coprime X G c W).call (by omega) rfl fun _ _ _ _ _ _ _ _ _ us h => match us, h with | [u0, u1], _ => by kernel_rfl) cnil))))))) rfl (by kernel_rfl) (by kernel_rfl)
theorem D__law_hidden : Dk P w K mg base 5 "_law_hidden" ["reel"] d__law_hidden.params f__law_hidden :=
  by unfold f__law_hidden; exact Dk.of (d := d__law_hidden) (k := 4) (N := ["reel", "way"]) (calls := [("_law_pull", 2, [], ⟨f__law_pull, none⟩), ("_law_calm", 2, [], ⟨f__law_calm, none⟩), ("_law_wild", 1, [], ⟨f__law_wild, none⟩)]) (n := 30) (m := 60) (t := t__law_hidden) (es := e__law_hidden) W (c.def_ 56) rfl rfl rfl rfl (He.glo_ok X G (c.fact 56)) (ccons ((D__law_pull X G c W).call (by omega) rfl fun _ _ _ _ _ _ _ _ _ us h => match us, h with | [u0, u1], _ => by kernel_rfl) (ccons ((D__law_calm X G c W).call (by omega) rfl fun _ _ _ _ _ _ _ _ _ us h => match us, h with | [u0, u1], _ => by kernel_rfl) (ccons ((D__law_wild X G c W).call (by omega) rfl fun _ _ _ _ _ _ _ _ _ us h => match us, h with | [u0], _ => by kernel_rfl) cnil))) rfl (by kernel_rfl) (by kernel_rfl)
theorem D__law_machine : Dk P w K mg base 4 "_law_machine" ["core", "hidden"] d__law_machine.params f__law_machine :=
  by unfold f__law_machine; exact Dk.of (d := d__law_machine) (k := 3) (N := ["core", "hidden"]) (calls := [("_law_product", 2, [], ⟨f__law_product, none⟩)]) (n := 30) (m := 60) (t := t__law_machine) (es := e__law_machine) W (c.def_ 57) rfl rfl rfl rfl (He.glo_ok X G (c.fact 57)) (ccons ((D__law_product X G c W).call (by omega) rfl fun _ _ _ _ _ _ _ _ _ us h => match us, h with | [u0, u1], _ => by kernel_rfl) cnil) rfl (by kernel_rfl) (by kernel_rfl)
theorem D__law_size : Dk P w K mg base 1 "_law_size" ["pair"] d__law_size.params f__law_size :=
  by unfold f__law_size; exact Dk.of (d := d__law_size) (k := 0) (N := ["pair"]) (calls := []) (n := 30) (m := 60) (t := t__law_size) (es := e__law_size) W (c.def_ 58) rfl rfl rfl rfl (He.glo_ok X G (c.fact 58)) cnil rfl (by kernel_rfl) (by kernel_rfl)
theorem D__law_closed : Dk P w K mg base 6 "_law_closed" ["core", "c", "f"] d__law_closed.params f__law_closed :=
  by unfold f__law_closed; exact Dk.of (d := d__law_closed) (k := 5) (N := ["core", "c", "f", "n", "m", "p", "w", "a", "b"]) (calls := [("_law_base", 2, [], ⟨f__law_base, none⟩), ("_law_product", 2, [], ⟨f__law_product, none⟩), ("_law_parted", 2, [], ⟨f__law_parted, none⟩), ("_law_less", 2, [], ⟨f__law_less, none⟩), ("_law_sum", 2, [], ⟨f__law_sum, none⟩)]) (n := 30) (m := 60) (t := t__law_closed) (es := e__law_closed) W (c.def_ 59) rfl rfl rfl rfl (He.glo_ok X G (c.fact 59)) (ccons ((D__law_base X G c W).call (by omega) rfl fun _ _ _ _ _ _ _ _ _ us h => match us, h with | [u0, u1], _ => by kernel_rfl) (ccons ((D__law_product X G c W).call (by omega) rfl fun _ _ _ _ _ _ _ _ _ us h => match us, h with | [u0, u1], _ => by kernel_rfl) (ccons ((D__law_parted X G c W).call (by omega) rfl fun _ _ _ _ _ _ _ _ _ us h => match us, h with | [u0, u1], _ => by kernel_rfl) (ccons ((D__law_less X G c W).call (by omega) rfl fun _ _ _ _ _ _ _ _ _ us h => match us, h with | [u0, u1], _ => by kernel_rfl) (ccons ((D__law_sum X G c W).call (by omega) rfl fun _ _ _ _ _ _ _ _ _ us h => match us, h with | [u0, u1], _ => by kernel_rfl) cnil))))) rfl (by kernel_rfl) (by kernel_rfl)
theorem D__law_run : Dk P w K mg base 3 "_law_run" ["machine", "helm", "start", "turn", "many"] d__law_run.params f__law_run :=
  by unfold f__law_run; exact Dk.of (d := d__law_run) (k := 2) (N := ["machine", "helm", "start", "turn", "many", "n", "m", "a", "b", "y", "u", "k", "number", "j"]) (calls := [("_law_at", 2, [], ⟨f__law_at, none⟩), ("_law_times", 2, [], ⟨f__law_times, none⟩), ("_law_plus", 2, [], ⟨f__law_plus, none⟩), ("_law_minus", 2, [], ⟨f__law_minus, none⟩)]) (n := 30) (m := 60) (t := t__law_run) (es := e__law_run) W (c.def_ 60) rfl rfl rfl rfl (He.glo_ok X G (c.fact 60)) (ccons ((D__law_at X G c W).call (by omega) rfl fun _ _ _ _ _ _ _ _ _ us h => match us, h with | [u0, u1], _ => by kernel_rfl) (ccons ((D__law_times X G c W).call (by omega) rfl fun _ _ _ _ _ _ _ _ _ us h => match us, h with | [u0, u1], _ => by kernel_rfl) (ccons ((D__law_plus X G c W).call (by omega) rfl fun _ _ _ _ _ _ _ _ _ us h => match us, h with | [u0, u1], _ => by kernel_rfl) (ccons ((D__law_minus X G c W).call (by omega) rfl fun _ _ _ _ _ _ _ _ _ us h => match us, h with | [u0, u1], _ => by kernel_rfl) cnil)))) rfl (by kernel_rfl) (by kernel_rfl)
theorem D__law_last : Dk P w K mg base 4 "_law_last" ["machine", "helm"] d__law_last.params f__law_last :=
  by unfold f__law_last; exact Dk.of (d := d__law_last) (k := 3) (N := ["machine", "helm", "many", "last", "starts", "k", "start", "turn", "y", "u"]) (calls := [("_law_size", 1, [], ⟨f__law_size, none⟩), ("_law_run", 5, [], ⟨f__law_run, none⟩)]) (n := 30) (m := 60) (t := t__law_last) (es := e__law_last) W (c.def_ 61) rfl rfl rfl rfl (He.glo_ok X G (c.fact 61)) (ccons ((D__law_size X G c W).call (by omega) rfl fun _ _ _ _ _ _ _ _ _ us h => match us, h with | [u0], _ => by kernel_rfl) (ccons ((D__law_run X G c W).call (by omega) rfl fun _ _ _ _ _ _ _ _ _ us h => match us, h with | [u0, u1, u2, u3, u4], _ => by kernel_rfl) cnil)) rfl (by kernel_rfl) (by kernel_rfl)
theorem D__law_right : Dk P w K mg base 10 "_law_right" ["reel"] d__law_right.params f__law_right :=
  by unfold f__law_right; exact Dk.of (d := d__law_right) (k := 9) (N := ["reel", "core", "way", "c", "helm", "hidden", "machine", "both", "told"]) (calls := [("_law_core", 2, [], ⟨f__law_core, none⟩), ("_law_pull", 2, [], ⟨f__law_pull, none⟩), ("_law_led", 2, [], ⟨f__law_led, none⟩), ("_law_drawn", 2, [], ⟨f__law_drawn, none⟩), ("_law_closed", 3, [], ⟨f__law_closed, none⟩), ("_law_hidden", 1, [], ⟨f__law_hidden, none⟩), ("_law_machine", 2, [], ⟨f__law_machine, none⟩), ("_law_product", 2, [], ⟨f__law_product, none⟩), ("closing_row", 2, [], ⟨f_closing_row, none⟩), ("last_beat", 2, [], ⟨f_last_beat, none⟩), ("last_beat", 0, ["helm", "machine"], ⟨f_last_beat, some [1, 0]⟩), ("_law_size", 1, [], ⟨f__law_size, none⟩), ("_law_last", 2, [], ⟨f__law_last, none⟩)]) (n := 30) (m := 60) (t := t__law_right) (es := e__law_right) W (c.def_ 62) rfl rfl rfl rfl (He.glo_ok X G (c.fact 62)) (ccons ((D__law_core X G c W).call (by omega) rfl fun _ _ _ _ _ _ _ _ _ us h => match us, h with | [u0, u1], _ => by kernel_rfl) (ccons ((D__law_pull X G c W).call (by omega) rfl fun _ _ _ _ _ _ _ _ _ us h => match us, h with | [u0, u1], _ => by kernel_rfl) (ccons ((D__law_led X G c W).call (by omega) rfl fun _ _ _ _ _ _ _ _ _ us h => match us, h with | [u0, u1], _ => by kernel_rfl) (ccons ((D__law_drawn X G c W).call (by omega) rfl fun _ _ _ _ _ _ _ _ _ us h => match us, h with | [u0, u1], _ => by kernel_rfl) (ccons ((D__law_closed X G c W).call (by omega) rfl fun _ _ _ _ _ _ _ _ _ us h => match us, h with | [u0, u1, u2], _ => by kernel_rfl) (ccons ((D__law_hidden X G c W).call (by omega) rfl fun _ _ _ _ _ _ _ _ _ us h => match us, h with | [u0], _ => by kernel_rfl) (ccons ((D__law_machine X G c W).call (by omega) rfl fun _ _ _ _ _ _ _ _ _ us h => match us, h with | [u0, u1], _ => by kernel_rfl) (ccons ((D__law_product X G c W).call (by omega) rfl fun _ _ _ _ _ _ _ _ _ us h => match us, h with | [u0, u1], _ => by kernel_rfl) (ccons ((D_closing_row X G c W).call (by omega) rfl fun _ _ _ _ _ _ _ _ _ us h => match us, h with | [u0, u1], _ => by kernel_rfl) (ccons ((D_last_beat X G c W).call (by omega) rfl fun _ _ _ _ _ _ _ _ _ us h => match us, h with | [u0, u1], _ => by kernel_rfl) (ccons ((D_last_beat X G c W).callK (by omega) rfl rfl fun _ _ _ _ _ _ _ _ _ us ws h1 h2 => match us, h1, ws, h2 with | [], _, [w0, w1], _ => by kernel_rfl) (ccons ((D__law_size X G c W).call (by omega) rfl fun _ _ _ _ _ _ _ _ _ us h => match us, h with | [u0], _ => by kernel_rfl) (ccons ((D__law_last X G c W).call (by omega) rfl fun _ _ _ _ _ _ _ _ _ us h => match us, h with | [u0, u1], _ => by kernel_rfl) cnil))))))))))))) rfl (by kernel_rfl) (by kernel_rfl)
theorem D_law : Dk P w K mg base 11 "law" ["script"] d_law.params f_law :=
  by unfold f_law; exact Dk.of (d := d_law) (k := 10) (N := ["script", "turn"]) (calls := [("_law_reel", 2, [], ⟨f__law_reel, none⟩), ("_law_right", 1, [], ⟨f__law_right, none⟩)]) (n := 30) (m := 60) (t := t_law) (es := e_law) W (c.def_ 63) rfl rfl rfl rfl (He.glo_ok X G (c.fact 63)) (ccons ((D__law_reel X G c W).call (by omega) rfl fun _ _ _ _ _ _ _ _ _ us h => match us, h with | [u0, u1], _ => by kernel_rfl) (ccons ((D__law_right X G c W).call (by omega) rfl fun _ _ _ _ _ _ _ _ _ us h => match us, h with | [u0], _ => by kernel_rfl) cnil)) rfl (by kernel_rfl) (by kernel_rfl)
end
theorem link {P : Program} {w : World} {K : PySem.W.Frag} {h : Heap} {mg : Str → Option Value} {f : Addr} (X : K.In h) (G : h.Ns mainGlobals mg) (c : He.SaysX fa fn [] [] ex w h K) (hf : mg ("law" : Str) = some (.ref f)) :
    ∃ fd : FuncData, (∀ (s : Shared) (u : Value), BindsTo s fd ⟨[u], []⟩ [("script", u)]) ∧ ∀ base : Heap, K.In base → base.Ns mainGlobals mg → FnG P w K mg base 11 f fd ["script"] f_law := by
  have W : Wd P w K mg cl bl true := Wd.of X G c.more fun x hx => He.free_ok X G (c.t.d.facts (f := .free x) (by
    have e : fa = [.glo "is_whole", .glo "are_wholes", .glo "divisor_of", .glo "lowest", .glo "is_ratio", .glo "ratio", .glo "plus", .glo "times", .glo "trimmed", .glo "degree_of", .glo "number_at", .glo "added", .glo "multiplied", .glo "is_led_by", .glo "is_row", .glo "is_led", .glo "is_machine", .glo "is_helm", .glo "check_machine", .glo "check_helm", .glo "check_pair", .glo "size_by", .glo "closing_by", .glo "is_number_one", .glo "closing_row", .glo "last_beat", .glo "_law_reel", .glo "_law_pull", .glo "_law_one_of", .glo "_law_lowest", .glo "_law_plus", .glo "_law_minus", .glo "_law_times", .glo "_law_over", .glo "_law_part", .glo "_law_some", .glo "_law_trim", .glo "_law_at", .glo "_law_sum", .glo "_law_scaled", .glo "_law_less", .glo "_law_product", .glo "_law_parted", .glo "_law_low", .glo "_law_divisor", .glo "_law_bent", .glo "_law_bend", .glo "_law_calm", .glo "_law_whole_row", .glo "_law_wild", .glo "_law_drawn", .glo "_law_led", .glo "_law_later", .glo "_law_base", .glo "_law_coprime", .glo "_law_core", .glo "_law_hidden", .glo "_law_machine", .glo "_law_size", .glo "_law_closed", .glo "_law_run", .glo "_law_last", .glo "_law_right", .glo "law"] ++ bl.map He.Fa.free := rfl
    rw [e]
    exact List.mem_append_right _ (List.mem_map_of_mem hx)))
  obtain ⟨fd, D⟩ := c.t.d.def_ 63
  refine ⟨fd, fun s u => bind_all D (fun _ _ _ _ _ _ => by kernel_rfl) s, fun base _ _ => ?_⟩
  obtain ⟨f', fd', qual, body, scope, hm, D', F⟩ := (D_law (P := P) (w := w) (base := base) X G c.t.d W).ok
  rw [hf] at hm
  cases hm
  have e1 : mg ("law" : Str) = some (.ref (He.fAd K d_law.at_)) := He.glo_ok X G (c.t.d.fact 63)
  rw [hf] at e1
  cases e1
  obtain ⟨_, _, _, _, _, _, _, _, _, _, rfl, l1, _⟩ := D.ex
  obtain ⟨_, _, _, _, _, _, _, _, _, _, rfl, l2, _⟩ := D'.ex
  rw [l1] at l2
  cases l2
  exact F
end Hd
open PySem PySem.W PySem.Calls PyProof.Rows
theorem PySem.Challenge.cw_allhelms_k20_whole_last_beats_holds : PySem.Challenge.rw_allhelms_k20_whole_last_beats.Holds := by
  w_on; o_law
  refine HandSHeadRun.head_imp (r := OpenLaw.row PySem.Challenge.rw_allhelms_k20_whole_last_beats) (q := view (OpenLaw.row PySem.Challenge.rw_allhelms_k20_whole_last_beats).prog [0, 78]) (H := Hd.hk) (ob := Hd.ob) (M := 9000) (loose := Hd.loose) (d := HandSHeadRun.topDef (OpenLaw.row PySem.Challenge.rw_allhelms_k20_whole_last_beats).prog 78) (kwd := []) Hd.ob_eq Hd.run
    (by kernel_rfl) (by kernel_rfl) (by kernel_rfl) (by rfl) (by first | assumption | decide +kernel) (by decide +kernel) ⟨rfl, rfl, rfl, rfl, rfl, by decide +kernel⟩ ?hw ?hc
  case hw => w_witness2
  case hc =>
    refine Pe.walkG (l := PySem.Challenge.rw_allhelms_k20_whole_last_beats) (n := 63) (k := 11) (x := "script") (F := Pg.f_law) rfl (by decide) (by kernel_rfl) ⟨rfl, by decide, by decide⟩ (by decide) (by kernel_rfl) (by kernel_rfl) (fun ns h => Pm.law_plain h) ?G
    intro w mg fa h Y G hmg0
    obtain ⟨K, KX, c⟩ := Y
    have hmg : mg ("law" : PySem.Str) = some (.ref fa) := by
      have e : (HandSHeadRun.topDef (OpenLaw.row PySem.Challenge.rw_allhelms_k20_whole_last_beats).prog 78).name = ("law" : PySem.Str) := by kernel_rfl
      rw [← e]
      exact hmg0
    obtain ⟨fd, hb, hF⟩ := Hd.link (P := (PySem.Challenge.rw_allhelms_k20_whole_last_beats).prog) (w := w) KX G c hmg
    exact ⟨K, fd, KX, hb, hF⟩
