import PyProof.Rows.All
import Wide.All
import OpenK.AllK
import Wide.FinOn
import HandS.ForMost
import HandS.Lambda
import HandS.Flow
import HandS.Star
import HandS.TupAny
import HandS.Walk
import HandS.Style
import HandS.Comp
import HandS.Defaults
import HandS.Exc
import HandS.ExcInit
import HandS.Deep
import HandS.IsInst
import HandS.Zip
import KE.LtData
import PyProof.P3In
import HandS.ExcField
import HandS.TryMany
import HandS.OwnEq
import HandS.EndTab
import HandS.EndBits
import HandS.HeadWalk
import PyProof.ReprRoads
import HandS.Head0
import HandS.Head1
import HandS.Head2
import HandS.HeadHook4
import KE.KStateDown
import HandS.CallLocal
import HandS.Words
import HandS.TupMul
import KE.GoesMore
import KE.DataMinMax
import PySem.Challenge.RW_veinsaw_k00_whole_best_cuts_and_closed_t
set_option Elab.async false
set_option linter.all false
set_option maxRecDepth 100000
set_option maxHeartbeats 1900000
/-! Layer, part 0: pure values, the abstract state, mirrors, how they stand in the heap. -/
namespace Vs
open PySem L2

/-- a value of Python that never changes -/
inductive PV where
  | non | bl (b : Bool) | int (i : Int) | str (x : Str)
  | tup (l : List PV) | lst (l : List PV)
  | dK (ks : List Key) (vs : List PV) | dT (ks : List (List Key)) (vs : List PV)
  | obj (c : Nat) (ns : List Str) (vs : List PV)
  | fn (f : Nat)
/-- a value that a name may hold: a pure one, or the object i of the state (j = 0), a part of it (j > 0) -/
inductive PR where
  | p (v : PV) | r (i j : Nat)
/-- a dict within an object -/
inductive PD where
  | k (ks : List Key) (vs : List PV) | t (ks : List (List Key)) (vs : List PV)
/-- an object of the state -/
inductive PObj where
  | dead
  | lst (l : List PV)
  | dct (d : PD)
  | ins (c : Nat) (ns : List Str) (vs : List PV) (kn : Option (Str × PD))
  | dL (ks : List Str) (ls : List (List PV))
abbrev PSt := List PObj
inductive Out (α : Type) where
  | ok (a : α) (s : PSt) | err (c : Nat) (v : PV) (s : PSt) | stuck
abbrev PM (α : Type) := PSt → Out α
def Out.bind {α β : Type} (o : Out α) (f : α → PSt → Out β) : Out β := match o with
  | .ok a s => f a s
  | .err c v s => .err c v s
  | .stuck => .stuck
def PM.bind {α β : Type} (m : PM α) (f : α → PM β) : PM β := fun s => (m s).bind f
def PM.pure {α : Type} (a : α) : PM α := fun s => .ok a s
instance : Monad PM where
  pure := PM.pure
  bind := PM.bind
abbrev Ev := List (Option PR)
abbrev FM := List PR → PM PR
inductive OutS where
  | nx (ρ : Ev) (s : PSt) | ret (r : PR) (s : PSt) | brk (ρ : Ev) (s : PSt) | ct (ρ : Ev) (s : PSt)
  | err (c : Nat) (v : PV) (s : PSt) | stuck
abbrev EM := Ev → PM PR
abbrev SM := Ev → PSt → OutS

/-- the text's own classes and defs: their addresses; the tables of code objects -/
structure Gx where
  K : PySem.W.Frag
  cA : Nat → Addr
  fA : Nat → Addr
  T : List (Addr × Str)

def KL (K : PySem.W.Frag) (a : Addr) (xs : List V) : Prop :=
  ∃ (o : Obj) (its : Array Value) (n : Nat), K.lookup a = some o ∧ o.cls = .type "list" ∧ o.dict = none ∧ o.data = .seq its n ∧ its.size ≤ sizeLine ∧ Vals xs its.toList
def KT (K : PySem.W.Frag) (a : Addr) (xs : List V) : Prop :=
  ∃ (o : Obj) (its : Array Value) (n : Nat), K.lookup a = some o ∧ o.cls = .type "tuple" ∧ o.data = .seq its n ∧ its.size ≤ sizeLine ∧ Vals xs its.toList
def LsAt (g : Gx) (L : List Addr) (H : Hp) (a : Addr) (xs : List V) : Prop := (a ∉ L ∧ Rd H a (.lst xs)) ∨ KL g.K a xs
def TpAt (g : Gx) (L : List Addr) (H : Hp) (a : Addr) (xs : List V) : Prop := (a ∉ L ∧ Rd H a (.tup xs)) ∨ KT g.K a xs
theorem LsAt.sq {g : Gx} {L : List Addr} {H : Hp} {a : Addr} {xs : List V} (h : LsAt g L H a xs) : SqL g.K H a xs := h.elim (fun h => .inl h.2) .inr
theorem TpAt.sq {g : Gx} {L : List Addr} {H : Hp} {a : Addr} {xs : List V} (h : TpAt g L H a xs) : SqT g.K H a xs := h.elim (fun h => .inl h.2) .inr

mutual
def RV (g : Gx) (L : List Addr) (H : Hp) : PV → V → Prop
  | .non, x => x = .non
  | .bl b, x => x = .bl b
  | .int i, x => x = .int i
  | .str y, x => x = .str y
  | .tup l, x => ∃ a xs, x = .ref a ∧ TpAt g L H a xs ∧ RVs g L H l xs
  | .lst l, x => ∃ a xs, x = .ref a ∧ LsAt g L H a xs ∧ RVs g L H l xs
  | .dK ks l, x => ∃ a xs, x = .ref a ∧ a ∉ L ∧ H a = some (.dK (ks.zip xs)) ∧ ks.length = l.length ∧ RVs g L H l xs
  | .dT ks l, x => ∃ a xs, x = .ref a ∧ a ∉ L ∧ H a = some (.dT (ks.zip xs)) ∧ ks.length = l.length ∧ RVs g L H l xs
  | .obj c ns l, x => ∃ a dx xs, x = .ref a ∧ a ∉ L ∧ H a = some (.ins (g.cA c) dx (ns.zip xs)) ∧ ns.length = l.length ∧ RVs g L H l xs
  | .fn f, x => x = .ref (g.fA f)
def RVs (g : Gx) (L : List Addr) (H : Hp) : List PV → List V → Prop
  | [], xs => xs = []
  | v :: l, xs => ∃ x r, xs = x :: r ∧ RV g L H v x ∧ RVs g L H l r
end

/-- a table of code objects: it may grow -/
def IsTbl (o : HO) : Prop := ∃ ps, o = .tbl ps
/-- from (L, H) to (L', H'): what is not owned stays; what is owned was, or is new -/
structure Kp (L : List Addr) (H : Hp) (L' : List Addr) (H' : Hp) : Prop where
  st : ∀ a o, H a = some o → a ∉ L → ¬ IsTbl o → H' a = some o
  ow : ∀ a, a ∈ L' → a ∈ L ∨ ∀ o, H a = some o → IsTbl o
theorem Kp.of {L L' : List Addr} {H H' : Hp} (st : ∀ a o, H a = some o → a ∉ L → H' a = some o) (ow : ∀ a, a ∈ L' → a ∈ L ∨ H a = none) : Kp L H L' H' :=
  ⟨fun a o e n _ => st a o e n, fun a h => (ow a h).elim .inl fun e => .inr fun o e2 => by rw [e] at e2; cases e2⟩
theorem Kp.refl {L : List Addr} {H : Hp} : Kp L H L H := Kp.of (fun _ _ e _ => e) fun _ h => .inl h
theorem Kp.out {L L' : List Addr} {H H' : Hp} (k : Kp L H L' H') {a : Addr} {o : HO} (e : H a = some o) (n : a ∉ L) (t : ¬ IsTbl o) : a ∉ L' := fun h => by
  rcases k.ow a h with h | h
  · exact n h
  · exact t (h o e)
theorem Kp.trans {L L1 L2 : List Addr} {H H1 H2 : Hp} (k : Kp L H L1 H1) (k' : Kp L1 H1 L2 H2) : Kp L H L2 H2 :=
  ⟨fun a o e n t => k'.st a o (k.st a o e n t) (k.out e n t) t, fun a h => by
    rcases k'.ow a h with h | h
    · exact k.ow a h
    · by_cases n : a ∈ L
      · exact .inl n
      · refine .inr fun o e => ?_
        by_cases t : IsTbl o
        · exact t
        · exact h o (k.st a o e n t)⟩
section
variable {g : Gx} {L L' : List Addr} {H H' : Hp}
theorem Kp.rd (k : Kp L H L' H') {a : Addr} {u : HO} (n : a ∉ L) (r : Rd H a u) (t : ¬ IsTbl u) : a ∉ L' ∧ Rd H' a u := by
  rcases r with r | ⟨o, r⟩
  · exact ⟨k.out r n t, .inl (k.st _ _ r n t)⟩
  · have t' : ¬ IsTbl (.frz o u) := fun ⟨_, z⟩ => by cases z
    exact ⟨k.out r n t', .inr ⟨o, k.st _ _ r n t'⟩⟩
theorem LsAt.kp (k : Kp L H L' H') {a : Addr} {xs : List V} (h : LsAt g L H a xs) : LsAt g L' H' a xs := h.elim (fun h => .inl (k.rd h.1 h.2 fun ⟨_, z⟩ => by cases z)) .inr
theorem TpAt.kp (k : Kp L H L' H') {a : Addr} {xs : List V} (h : TpAt g L H a xs) : TpAt g L' H' a xs := h.elim (fun h => .inl (k.rd h.1 h.2 fun ⟨_, z⟩ => by cases z)) .inr
mutual
theorem RV.kp (k : Kp L H L' H') : ∀ {v : PV} {x : V}, RV g L H v x → RV g L' H' v x
  | .non, _, h => by simpa only [RV] using h
  | .bl b, _, h => by simpa only [RV] using h
  | .int i, _, h => by simpa only [RV] using h
  | .str y, _, h => by simpa only [RV] using h
  | .fn f, _, h => by simpa only [RV] using h
  | .tup l, _, h => by
    simp only [RV] at h ⊢
    obtain ⟨a, xs, e, t, r⟩ := h
    exact ⟨a, xs, e, t.kp k, RVs.kp k r⟩
  | .lst l, _, h => by
    simp only [RV] at h ⊢
    obtain ⟨a, xs, e, t, r⟩ := h
    exact ⟨a, xs, e, t.kp k, RVs.kp k r⟩
  | .dK ks l, _, h => by
    simp only [RV] at h ⊢
    obtain ⟨a, xs, e, n, t, z, r⟩ := h
    exact ⟨a, xs, e, k.out t n (fun ⟨_, z⟩ => by cases z), k.st _ _ t n (fun ⟨_, z⟩ => by cases z), z, RVs.kp k r⟩
  | .dT ks l, _, h => by
    simp only [RV] at h ⊢
    obtain ⟨a, xs, e, n, t, z, r⟩ := h
    exact ⟨a, xs, e, k.out t n (fun ⟨_, z⟩ => by cases z), k.st _ _ t n (fun ⟨_, z⟩ => by cases z), z, RVs.kp k r⟩
  | .obj c ns l, _, h => by
    simp only [RV] at h ⊢
    obtain ⟨a, dx, xs, e, n, t, z, r⟩ := h
    exact ⟨a, dx, xs, e, k.out t n (fun ⟨_, z⟩ => by cases z), k.st _ _ t n (fun ⟨_, z⟩ => by cases z), z, RVs.kp k r⟩
theorem RVs.kp (k : Kp L H L' H') : ∀ {l : List PV} {xs : List V}, RVs g L H l xs → RVs g L' H' l xs
  | [], _, h => by simpa only [RVs] using h
  | v :: l, _, h => by
    simp only [RVs] at h ⊢
    obtain ⟨x, r, e, h1, h2⟩ := h
    exact ⟨x, r, e, RV.kp k h1, RVs.kp k h2⟩
end
theorem RVs.length : ∀ {l : List PV} {xs : List V}, RVs g L H l xs → xs.length = l.length
  | [], _, h => by simp only [RVs] at h; subst h; rfl
  | v :: l, _, h => by
    simp only [RVs] at h
    obtain ⟨x, r, rfl, _, h2⟩ := h
    simp [RVs.length h2]
theorem RVs.nil : RVs g L H [] [] := by simp only [RVs]
theorem RVs.cons {v : PV} {l : List PV} {x : V} {xs : List V} (h : RV g L H v x) (t : RVs g L H l xs) : RVs g L H (v :: l) (x :: xs) := by
  simp only [RVs]; exact ⟨x, xs, rfl, h, t⟩
theorem RVs.get : ∀ {l : List PV} {xs : List V} {i : Nat} {v : PV}, RVs g L H l xs → l[i]? = some v → ∃ x, xs[i]? = some x ∧ RV g L H v x
  | [], _, _, _, _, e => by simp at e
  | w :: l, _, i, v, h, e => by
    simp only [RVs] at h
    obtain ⟨x, r, rfl, h1, h2⟩ := h
    cases i with
    | zero => simp at e; subst e; exact ⟨x, rfl, h1⟩
    | succ i => exact RVs.get (i := i) h2 (by simpa using e)
theorem RVs.append : ∀ {l m : List PV} {xs ys : List V}, RVs g L H l xs → RVs g L H m ys → RVs g L H (l ++ m) (xs ++ ys)
  | [], _, _, _, h, q => by simp only [RVs] at h; subst h; exact q
  | v :: l, _, _, _, h, q => by
    simp only [RVs] at h
    obtain ⟨x, r, rfl, h1, h2⟩ := h
    exact RVs.cons h1 (RVs.append h2 q)
theorem RVs.take : ∀ {l : List PV} {xs : List V} (n : Nat), RVs g L H l xs → RVs g L H (l.take n) (xs.take n)
  | _, _, 0, _ => by simp only [List.take_zero]; exact RVs.nil
  | [], _, n + 1, h => by simp only [RVs] at h; subst h; exact RVs.nil
  | v :: l, _, n + 1, h => by
    simp only [RVs] at h
    obtain ⟨x, r, rfl, h1, h2⟩ := h
    exact RVs.cons h1 (RVs.take n h2)
theorem RVs.drop : ∀ {l : List PV} {xs : List V} (n : Nat), RVs g L H l xs → RVs g L H (l.drop n) (xs.drop n)
  | _, _, 0, h => by simpa using h
  | [], _, n + 1, h => by simp only [RVs] at h; subst h; exact RVs.nil
  | v :: l, _, n + 1, h => by
    simp only [RVs] at h
    obtain ⟨x, r, rfl, h1, h2⟩ := h
    exact RVs.drop n h2
theorem RVs.set : ∀ {l : List PV} {xs : List V} {v : PV} {x : V} (i : Nat), RVs g L H l xs → RV g L H v x → RVs g L H (l.set i v) (xs.set i x)
  | [], _, _, _, _, h, _ => by simp only [RVs] at h; subst h; exact RVs.nil
  | w :: l, _, _, _, 0, h, q => by
    simp only [RVs] at h
    obtain ⟨y, r, rfl, h1, h2⟩ := h
    exact RVs.cons q h2
  | w :: l, _, _, _, i + 1, h, q => by
    simp only [RVs] at h
    obtain ⟨y, r, rfl, h1, h2⟩ := h
    exact RVs.cons h1 (RVs.set i h2 q)
theorem RVs.reverse {l : List PV} {xs : List V} (h : RVs g L H l xs) : RVs g L H l.reverse xs.reverse := by
  induction l generalizing xs with
  | nil => simp only [RVs] at h; subst h; exact RVs.nil
  | cons v l ih =>
    simp only [RVs] at h
    obtain ⟨x, r, rfl, h1, h2⟩ := h
    simp only [List.reverse_cons]
    exact (ih h2).append (RVs.cons h1 RVs.nil)
end

/-! ### the state -/
def PObj.isDead : PObj → Bool
  | .dead => true
  | _ => false
/-- where the state's objects stand (ls); what is set apart (ex: the lists that comprehensions around are filling) -/
structure Ph where
  ex : List Addr
  ls : List (Addr × List Addr)
def liv : List (Addr × List Addr) → PSt → List Addr
  | p :: φ, o :: st => (if o.isDead then [] else p.1 :: p.2) ++ liv φ st
  | _, _ => []
/-- the addresses of what is owned -/
def live (φ : Ph) (st : PSt) : List Addr := φ.ex ++ liv φ.ls st
def OwnHO : HO → Prop
  | .lst _ => True
  | .dK _ => True
  | .dT _ => True
  | .ins _ _ _ => True
  | _ => False
def RD (g : Gx) (L : List Addr) (H : Hp) (b : Addr) : PD → Prop
  | .k ks l => ∃ xs, H b = some (.dK (ks.zip xs)) ∧ ks.length = l.length ∧ RVs g L H l xs
  | .t ks l => ∃ xs, H b = some (.dT (ks.zip xs)) ∧ ks.length = l.length ∧ RVs g L H l xs
def RLs (g : Gx) (L : List Addr) (H : Hp) : List Addr → List (List PV) → Prop
  | [], ls => ls = []
  | b :: bs, ls => ∃ l r xs, ls = l :: r ∧ H b = some (.lst xs) ∧ RVs g L H l xs ∧ RLs g L H bs r
def RO (g : Gx) (L : List Addr) (H : Hp) (p : Addr × List Addr) : PObj → Prop
  | .dead => True
  | .lst l => p.2 = [] ∧ ∃ xs, H p.1 = some (.lst xs) ∧ RVs g L H l xs
  | .dct d => p.2 = [] ∧ RD g L H p.1 d
  | .ins c ns l none => p.2 = [] ∧ ∃ dx xs, H p.1 = some (.ins (g.cA c) dx (ns.zip xs)) ∧ ns.length = l.length ∧ RVs g L H l xs
  | .ins c ns l (some (nm, d)) => ∃ b dx xs, p.2 = [b] ∧ H p.1 = some (.ins (g.cA c) dx (ns.zip xs ++ [(nm, V.ref b)])) ∧ ns.length = l.length ∧ RVs g L H l xs ∧ nm ∉ ns ∧ RD g L H b d
  | .dL ks ls => ks.length = p.2.length ∧ H p.1 = some (.dK ((ks.map (Sum.inr : Str → Key)).zip (p.2.map V.ref))) ∧ RLs g L H p.2 ls
structure RH (g : Gx) (φ : Ph) (H : Hp) (st : PSt) : Prop where
  len : φ.ls.length = st.length
  nd : (live φ st).Nodup
  exs : ∀ a ∈ φ.ex, ∃ u, H a = some u ∧ OwnHO u
  ob : ∀ (i : Nat) p o, φ.ls[i]? = some p → st[i]? = some o → RO g (live φ st) H p o
  tab : LamX.Tabs g.T H
/-- what stood stands; its parts may grow -/
def PreL (a b : List (Addr × List Addr)) : Prop := ∀ (i : Nat) (p : Addr × List Addr), a[i]? = some p → ∃ q, b[i]? = some q ∧ q.1 = p.1 ∧ p.2 <+: q.2
theorem PreL.refl (a : List (Addr × List Addr)) : PreL a a := fun _ p h => ⟨p, h, rfl, List.prefix_refl _⟩
theorem PreL.trans {a b c : List (Addr × List Addr)} (h : PreL a b) (k : PreL b c) : PreL a c := fun i p e =>
  let ⟨q, e1, e2, e3⟩ := h i p e
  let ⟨r, k1, k2, k3⟩ := k i q e1
  ⟨r, k1, k2.trans e2, e3.trans k3⟩
theorem PreL.app (a b : List (Addr × List Addr)) : PreL a (a ++ b) := fun i p e =>
  ⟨p, by rw [List.getElem?_append_left (List.getElem?_eq_some_iff.mp e).1]; exact e, rfl, List.prefix_refl _⟩
/-- the whole step -/
structure Go (φ : Ph) (st : PSt) (H : Hp) (φ' : Ph) (st' : PSt) (H' : Hp) : Prop where
  exe : φ'.ex = φ.ex
  exk : ∀ a ∈ φ.ex, H' a = H a
  pre : PreL φ.ls φ'.ls
  kp : Kp (live φ st) H (live φ' st') H'
def RP (g : Gx) (φ : Ph) (st : PSt) (H : Hp) : PR → V → Prop
  | .p v, x => RV g (live φ st) H v x
  | .r i 0, x => ∃ p, φ.ls[i]? = some p ∧ x = .ref p.1
  | .r i (j + 1), x => ∃ p b, φ.ls[i]? = some p ∧ p.2[j]? = some b ∧ x = .ref b
def RPs (g : Gx) (φ : Ph) (st : PSt) (H : Hp) : List PR → List V → Prop
  | [], xs => xs = []
  | r :: l, xs => ∃ x t, xs = x :: t ∧ RP g φ st H r x ∧ RPs g φ st H l t
/-- names and slots -/
structure RE (g : Gx) (φ : Ph) (st : PSt) (H : Hp) (ρ : Ev) (σ : St) : Prop where
  len : ρ.length = σ.length
  at_ : ∀ (i : Nat) r, ρ[i]? = some (some r) → ∃ x, σ[i]? = some (some x) ∧ RP g φ st H r x
section
variable {g : Gx} {φ φ' φ2 : Ph} {st st' st2 : PSt} {H H' H2 : Hp}
theorem Go.refl : Go φ st H φ st H := ⟨rfl, fun _ _ => rfl, PreL.refl _, Kp.refl⟩
theorem Go.trans (a : Go φ st H φ' st' H') (b : Go φ' st' H' φ2 st2 H2) : Go φ st H φ2 st2 H2 := ⟨b.exe.trans a.exe, fun x h => (b.exk x (by rw [a.exe]; exact h)).trans (a.exk x h), a.pre.trans b.pre, a.kp.trans b.kp⟩
theorem pre_get {φ φ' : List (Addr × List Addr)} {p : Addr × List Addr} {i : Nat} (h : PreL φ φ') (e : φ[i]? = some p) : ∃ q, φ'[i]? = some q ∧ q.1 = p.1 := let ⟨q, a, b, _⟩ := h i p e; ⟨q, a, b⟩
theorem pre_part {φ φ' : List (Addr × List Addr)} {p : Addr × List Addr} {i j : Nat} {b : Addr} (h : PreL φ φ') (e : φ[i]? = some p) (k : p.2[j]? = some b) : ∃ q, φ'[i]? = some q ∧ q.2[j]? = some b := by
  obtain ⟨q, a, _, t, c⟩ := h i p e
  exact ⟨q, a, by rw [← c, List.getElem?_append_left (List.getElem?_eq_some_iff.mp k).1]; exact k⟩
theorem RP.go (k : Go φ st H φ' st' H') : ∀ {r : PR} {x : V}, RP g φ st H r x → RP g φ' st' H' r x
  | .p v, _, h => RV.kp k.kp h
  | .r i 0, _, ⟨p, e, q⟩ => let ⟨r, a, b⟩ := pre_get k.pre e; ⟨r, a, by rw [b]; exact q⟩
  | .r i (j + 1), _, ⟨p, b, e, e2, q⟩ => let ⟨r, a, c⟩ := pre_part k.pre e e2; ⟨r, b, a, c, q⟩
theorem RPs.go (k : Go φ st H φ' st' H') : ∀ {l : List PR} {xs : List V}, RPs g φ st H l xs → RPs g φ' st' H' l xs
  | [], _, h => h
  | _ :: _, _, ⟨x, t, e, h, q⟩ => ⟨x, t, e, h.go k, RPs.go k q⟩
theorem RPs.length : ∀ {l : List PR} {xs : List V}, RPs g φ st H l xs → xs.length = l.length
  | [], _, h => by have h : _ = _ := h; subst h; rfl
  | _ :: _, _, ⟨x, t, e, h, q⟩ => by subst e; simp [RPs.length q]
theorem RE.go {ρ : Ev} {σ : St} (e : RE g φ st H ρ σ) (k : Go φ st H φ' st' H') : RE g φ' st' H' ρ σ :=
  ⟨e.len, fun i r h => let ⟨x, a, b⟩ := e.at_ i r h; ⟨x, a, b.go k⟩⟩
theorem RE.set {ρ : Ev} {σ : St} {r : PR} {x : V} (e : RE g φ st H ρ σ) (i : Nat) (h : RP g φ st H r x) : RE g φ st H (ρ.set i (some r)) (σ.set i (some x)) := by
  refine ⟨by simpa using e.len, fun j q hq => ?_⟩
  by_cases hj : i = j
  · subst hj
    by_cases hl : i < ρ.length
    · rw [List.getElem?_set_self hl] at hq
      cases hq
      exact ⟨x, List.getElem?_set_self (by rw [← e.len]; exact hl), h⟩
    · rw [List.getElem?_eq_none (by simpa using hl)] at hq; cases hq
  · rw [List.getElem?_set_ne hj] at hq
    obtain ⟨y, a, b⟩ := e.at_ j q hq
    exact ⟨y, by rw [List.getElem?_set_ne hj]; exact a, b⟩
end

/-! ### what an outcome promises -/
section
variable {α β γ δ : Type}
def Ok (g : Gx) (φ : Ph) (st : PSt) (H : Hp) (R : Ph → PSt → Hp → α → β → Prop) (Q : β → Hp → Prop) (W : XK) : Out α → Prop
  | .ok r st' => ∀ x φ' H', Go φ st H φ' st' H' → RH g φ' H' st' → R φ' st' H' r x → Q x H'
  | .err c v st' => ∀ d φ' H' x, Go φ st H φ' st' H' → RH g φ' H' st' → H' d = some (.xd [("value", x)]) → RV g (live φ' st') H' v x → W (.ref (g.cA c)) (some d) H'
  | .stuck => False
variable {g : Gx} {φ φ' : Ph} {st st' : PSt} {H H' : Hp} {R : Ph → PSt → Hp → α → β → Prop} {R' : Ph → PSt → Hp → γ → δ → Prop} {Q : β → Hp → Prop} {Q' : δ → Hp → Prop} {W : XK}
theorem Ok.go {o : Out α} (h : Ok g φ st H R Q W o) (k : Go φ st H φ' st' H') : Ok g φ' st' H' R Q W o := by
  cases o with
  | ok r s => exact fun x φ2 H2 k2 => h x φ2 H2 (k.trans k2)
  | err c v s => exact fun d φ2 H2 x k2 => h d φ2 H2 x (k.trans k2)
  | stuck => exact h
theorem Ok.bind {m : PM α} {f : α → PM γ} (h : Ok g φ st H R' Q' W ((m >>= f) st))
    (k : ∀ a st1 x φ1 H1, Go φ st H φ1 st1 H1 → RH g φ1 H1 st1 → R φ1 st1 H1 a x → Ok g φ1 st1 H1 R' Q' W (f a st1) → Q x H1) : Ok g φ st H R Q W (m st) := by
  have h' : Ok g φ st H R' Q' W ((m st).bind f) := h
  cases e : m st with
  | ok r s =>
    rw [e] at h'
    exact fun x φ2 H2 k2 rh rp => k r s x φ2 H2 k2 rh rp (Ok.go h' k2)
  | err c v s => rw [e] at h'; exact h'
  | stuck => rw [e] at h'; exact h'
theorem Ok.mono {o : Out α} {Q2 : β → Hp → Prop} (h : Ok g φ st H R Q W o) (k : ∀ x H', Q x H' → Q2 x H') : Ok g φ st H R Q2 W o := by
  cases o with
  | ok r s => exact fun x φ2 H2 k2 rh rp => k _ _ (h x φ2 H2 k2 rh rp)
  | err c v s => exact h
  | stuck => exact h
end
def OkS (g : Gx) (φ : Ph) (st : PSt) (H : Hp) (D : Ends) (W : XK) : OutS → Prop
  | .nx ρ' st' => ∀ σ' φ' H', Go φ st H φ' st' H' → RH g φ' H' st' → RE g φ' st' H' ρ' σ' → D.nx σ' H'
  | .brk ρ' st' => ∀ σ' φ' H', Go φ st H φ' st' H' → RH g φ' H' st' → RE g φ' st' H' ρ' σ' → D.bk σ' H'
  | .ct ρ' st' => ∀ σ' φ' H', Go φ st H φ' st' H' → RH g φ' H' st' → RE g φ' st' H' ρ' σ' → D.ct σ' H'
  | .ret r st' => ∀ x φ' H', Go φ st H φ' st' H' → RH g φ' H' st' → RP g φ' st' H' r x → D.rt x H'
  | .err c v st' => ∀ d φ' H' x, Go φ st H φ' st' H' → RH g φ' H' st' → H' d = some (.xd [("value", x)]) → RV g (live φ' st') H' v x → W (.ref (g.cA c)) (some d) H'
  | .stuck => False
theorem OkS.go {g : Gx} {φ φ' : Ph} {st st' : PSt} {H H' : Hp} {D : Ends} {W : XK} {o : OutS} (h : OkS g φ st H D W o) (k : Go φ st H φ' st' H') : OkS g φ' st' H' D W o := by
  cases o with
  | nx ρ s => exact fun σ2 φ2 H2 k2 => h σ2 φ2 H2 (k.trans k2)
  | brk ρ s => exact fun σ2 φ2 H2 k2 => h σ2 φ2 H2 (k.trans k2)
  | ct ρ s => exact fun σ2 φ2 H2 k2 => h σ2 φ2 H2 (k.trans k2)
  | ret r s => exact fun x φ2 H2 k2 => h x φ2 H2 (k.trans k2)
  | err c v s => exact fun d φ2 H2 x k2 => h d φ2 H2 x (k.trans k2)
  | stuck => exact h

/-! ### the judgements -/
def rd (g : Gx) (W : XK) (m : EM) : TE := fun σ H Q => ∃ φ ρ st, RH g φ H st ∧ RE g φ st H ρ σ ∧ Ok g φ st H (RP g) Q W (m ρ st)
def rdA (g : Gx) (W : XK) (m : Ev → PM (List PR)) : TA := fun σ H Q => ∃ φ ρ st, RH g φ H st ∧ RE g φ st H ρ σ ∧ Ok g φ st H (RPs g) Q W (m ρ st)
def rdT (g : Gx) (W : XK) (m : Ev → PM Bool) : TT := fun σ H Q => ∃ φ ρ st, RH g φ H st ∧ RE g φ st H ρ σ ∧ Ok g φ st H (fun _ _ _ b c => b = c) Q W (m ρ st)
def rdS (g : Gx) (W : XK) (m : SM) : TS := fun D σ H => ∃ φ ρ st, RH g φ H st ∧ RE g φ st H ρ σ ∧ OkS g φ st H D W (m ρ st)
/-- a def's promise -/
def spF (g : Gx) (m : FM) : Sp := fun vs H Q E => ∃ φ st rs, RH g φ H st ∧ RPs g φ st H rs vs ∧ Ok g φ st H (RP g) Q E (m rs st)
end Vs
/-! Layer, part 1: the state's lemmas: new objects, writes, the end of a call. -/
namespace Vs
open PySem L2
section
variable {g : Gx} {φ φ' : Ph} {st st' : PSt} {H H' : Hp} {L : List Addr}
def adr (p : Addr × List Addr) : List Addr := p.1 :: p.2
theorem liv_mem : ∀ {φ : List (Addr × List Addr)} {st : PSt} {a : Addr}, a ∈ liv φ st ↔ ∃ (i : Nat) (p : Addr × List Addr) (o : PObj), φ[i]? = some p ∧ st[i]? = some o ∧ o.isDead = false ∧ a ∈ adr p
  | [], st, a => by simp [liv]
  | p :: φ, [], a => by simp [liv]
  | p :: φ, o :: st, a => by
    have ih := @liv_mem φ st a
    have e0 : liv (p :: φ) (o :: st) = (if o.isDead = true then [] else adr p) ++ liv φ st := rfl
    rw [e0, List.mem_append, ih]
    constructor
    · rintro (h | ⟨i, q, u, h1, h2, h3, h4⟩)
      · by_cases hd : o.isDead = true
        · rw [if_pos hd] at h; simp at h
        · rw [if_neg hd] at h
          exact ⟨0, p, o, rfl, rfl, by simpa using hd, h⟩
      · exact ⟨i + 1, q, u, by simpa using h1, by simpa using h2, h3, h4⟩
    · rintro ⟨i, q, u, h1, h2, h3, h4⟩
      cases i with
      | zero =>
        simp at h1 h2
        subst h1; subst h2
        left
        rw [if_neg (by rw [h3]; simp)]
        exact h4
      | succ i => exact .inr ⟨i, q, u, by simpa using h1, by simpa using h2, h3, h4⟩
theorem liv_apart : ∀ {φ : List (Addr × List Addr)} {st : PSt}, (liv φ st).Nodup → ∀ {i j : Nat} {p q : Addr × List Addr} {o u : PObj} {a : Addr}, φ[i]? = some p → st[i]? = some o → o.isDead = false → φ[j]? = some q → st[j]? = some u → u.isDead = false → a ∈ adr p → a ∈ adr q → i = j
  | [], _, _, i, _, _, _, _, _, _, h, _, _, _, _, _, _, _ => by simp at h
  | _ :: _, [], _, i, _, _, _, _, _, _, _, h, _, _, _, _, _, _ => by simp at h
  | p0 :: φ, o0 :: st, nd, i, j, p, q, o, u, a, h1, h2, h3, h4, h5, h6, h7, h8 => by
    have e0 : liv (p0 :: φ) (o0 :: st) = (if o0.isDead = true then [] else adr p0) ++ liv φ st := rfl
    rw [e0] at nd
    have nd2 := (List.nodup_append.mp nd)
    cases i with
    | zero =>
      cases j with
      | zero => rfl
      | succ j =>
        simp at h1 h2
        subst h1; subst h2
        rw [if_neg (by rw [h3]; simp)] at nd2
        exact absurd rfl (nd2.2.2 a h7 a (liv_mem.mpr ⟨j, q, u, by simpa using h4, by simpa using h5, h6, h8⟩))
    | succ i =>
      cases j with
      | zero =>
        simp at h4 h5
        subst h4; subst h5
        rw [if_neg (by rw [h6]; simp)] at nd2
        exact absurd rfl (nd2.2.2 a h8 a (liv_mem.mpr ⟨i, p, o, by simpa using h1, by simpa using h2, h3, h7⟩))
      | succ j => exact congrArg (· + 1) (liv_apart (i := i) (j := j) nd2.2.1 (by simpa using h1) (by simpa using h2) h3 (by simpa using h4) (by simpa using h5) h6 h7 h8)
theorem liv_nodup_adr : ∀ {φ : List (Addr × List Addr)} {st : PSt}, (liv φ st).Nodup → ∀ {i : Nat} {p : Addr × List Addr} {o : PObj}, φ[i]? = some p → st[i]? = some o → o.isDead = false → (adr p).Nodup
  | [], _, _, i, _, _, h, _, _ => by simp at h
  | _ :: _, [], _, i, _, _, _, h, _ => by simp at h
  | p0 :: φ, o0 :: st, nd, i, p, o, h1, h2, h3 => by
    have e0 : liv (p0 :: φ) (o0 :: st) = (if o0.isDead = true then [] else adr p0) ++ liv φ st := rfl
    rw [e0] at nd
    have nd2 := (List.nodup_append.mp nd)
    cases i with
    | zero =>
      simp at h1 h2
      subst h1; subst h2
      rw [if_neg (by rw [h3]; simp)] at nd2
      exact nd2.1
    | succ i => exact liv_nodup_adr (i := i) nd2.2.1 (by simpa using h1) (by simpa using h2) h3
theorem liv_set : ∀ {φ : List (Addr × List Addr)} {st : PSt} {i : Nat} {o o' : PObj}, st[i]? = some o → o.isDead = false → o'.isDead = false → liv φ (st.set i o') = liv φ st
  | [], _, _, _, _, _, _, _ => by simp [liv]
  | _ :: _, [], _, _, _, h, _, _ => by simp at h
  | p :: φ, u :: st, 0, o, o', h, h1, h2 => by
    simp at h; subst h
    show (if o'.isDead = true then [] else _) ++ liv φ st = (if u.isDead = true then [] else _) ++ liv φ st
    rw [h1, h2]
  | p :: φ, u :: st, i + 1, o, o', h, h1, h2 => by
    show _ ++ liv φ (st.set i o') = _ ++ liv φ st
    rw [liv_set (i := i) (by simpa using h) h1 h2]
theorem liv_append : ∀ {φ : List (Addr × List Addr)} {st : PSt} {p : Addr × List Addr} {o : PObj}, φ.length = st.length → o.isDead = false → liv (φ ++ [p]) (st ++ [o]) = liv φ st ++ adr p
  | [], [], p, o, _, h => by show (if o.isDead = true then [] else adr p) ++ [] = _; rw [h]; simp [liv]
  | [], _ :: _, _, _, e, _ => by simp at e
  | _ :: _, [], _, _, e, _ => by simp at e
  | q :: φ, u :: st, p, o, e, h => by
    show _ ++ liv (φ ++ [p]) (st ++ [o]) = (_ ++ liv φ st) ++ adr p
    rw [liv_append (by simpa using e) h, List.append_assoc]
theorem liv_take_sub : ∀ {φ : List (Addr × List Addr)} {st : PSt} (n : Nat), (liv (φ.take n) (st.take n)).Sublist (liv φ st)
  | φ, st, 0 => by simp [liv]
  | [], st, n + 1 => by simp [liv]
  | _ :: _, [], n + 1 => by simp [liv]
  | p :: φ, o :: st, n + 1 => by
    show List.Sublist (_ ++ liv (φ.take n) (st.take n)) (_ ++ liv φ st)
    exact List.Sublist.append (List.Sublist.refl _) (liv_take_sub n)
theorem OwnHO.tbl {u : HO} (h : OwnHO u) (ps : Array Value) : u ≠ .tbl ps := fun z => by subst z; exact h
theorem OwnHO.code {u : HO} (h : OwnHO u) (c : Addr) (q : Str) : u ≠ LamX.CodeO c q := fun z => by subst z; exact h
/-- the owned addresses stand -/
theorem RO.there {p : Addr × List Addr} {o : PObj} (h : RO g L H p o) (hd : o.isDead = false) : ∀ a ∈ adr p, ∃ u, H a = some u ∧ OwnHO u := by
  obtain ⟨a0, bs⟩ := p
  have rls : ∀ {bs : List Addr} {ls : List (List PV)}, RLs g L H bs ls → ∀ b ∈ bs, ∃ u, H b = some u ∧ OwnHO u := by
    intro bs
    induction bs with
    | nil => intro ls _ b hb; simp at hb
    | cons b bs ih =>
      rintro ls ⟨l, r, xs, e, h1, h2, h3⟩ c hc
      rcases List.mem_cons.mp hc with rfl | hc
      · exact ⟨_, h1, True.intro⟩
      · exact ih h3 c hc
  have rd' : ∀ {b : Addr} {d : PD}, RD g L H b d → ∃ u, H b = some u ∧ OwnHO u := by
    intro b d h
    cases d with
    | k ks l => obtain ⟨xs, h1, _⟩ := h; exact ⟨_, h1, True.intro⟩
    | t ks l => obtain ⟨xs, h1, _⟩ := h; exact ⟨_, h1, True.intro⟩
  intro a ha
  cases o with
  | dead => cases hd
  | lst l =>
    obtain ⟨e, xs, h1, _⟩ := h
    have e : bs = [] := e
    subst e
    have : a = a0 := by simpa [adr] using ha
    subst this
    exact ⟨_, h1, True.intro⟩
  | dct d =>
    obtain ⟨e, h1⟩ := h
    have e : bs = [] := e
    subst e
    have : a = a0 := by simpa [adr] using ha
    subst this
    exact rd' h1
  | ins c ns l kn =>
    cases kn with
    | none =>
      obtain ⟨e, dx, xs, h1, _⟩ := h
      have e : bs = [] := e
      subst e
      have : a = a0 := by simpa [adr] using ha
      subst this
      exact ⟨_, h1, True.intro⟩
    | some nd =>
      obtain ⟨nm, d⟩ := nd
      obtain ⟨b, dx, xs, e, h1, _, _, _, h2⟩ := h
      have e : bs = [b] := e
      subst e
      have : a = a0 ∨ a = b := by simpa [adr] using ha
      rcases this with rfl | rfl
      · exact ⟨_, h1, True.intro⟩
      · exact rd' h2
  | dL ks ls =>
    obtain ⟨e, h1, h2⟩ := h
    rcases List.mem_cons.mp (show a ∈ a0 :: bs from ha) with rfl | ha
    · exact ⟨_, h1, True.intro⟩
    · exact rls h2 a ha
theorem live_mem {a : Addr} : a ∈ live φ st ↔ a ∈ φ.ex ∨ ∃ (i : Nat) (p : Addr × List Addr) (o : PObj), φ.ls[i]? = some p ∧ st[i]? = some o ∧ o.isDead = false ∧ a ∈ adr p := by
  unfold live; rw [List.mem_append, liv_mem]
theorem RH.there (h : RH g φ H st) {a : Addr} (ha : a ∈ live φ st) : ∃ u, H a = some u ∧ OwnHO u := by
  rcases live_mem.mp ha with h' | ⟨i, p, o, h1, h2, h3, h4⟩
  · exact h.exs a h'
  · exact (h.ob i p o h1 h2).there h3 a h4
theorem RH.ndl (h : RH g φ H st) : (liv φ.ls st).Nodup := (List.nodup_append.mp h.nd).2.1
theorem RH.exn (h : RH g φ H st) {i : Nat} {p : Addr × List Addr} {o : PObj} {a : Addr} (h1 : φ.ls[i]? = some p) (h2 : st[i]? = some o) (h3 : o.isDead = false) (ha : a ∈ adr p) : a ∉ φ.ex := fun z =>
  (List.nodup_append.mp h.nd).2.2 a z a (liv_mem.mpr ⟨i, p, o, h1, h2, h3, ha⟩) rfl
theorem RH.new (h : RH g φ H st) {p : Addr} (hp : H p = none) : p ∉ live φ st := fun z => by
  obtain ⟨u, e, _⟩ := h.there z
  rw [hp] at e; cases e
theorem RD.kp {L' : List Addr} {b : Addr} {d : PD} (k : Kp L H L' H') (hb : H' b = H b) (h : RD g L H b d) : RD g L' H' b d := by
  cases d with
  | k ks l => obtain ⟨xs, h1, h2, h3⟩ := h; exact ⟨xs, hb.trans h1, h2, h3.kp k⟩
  | t ks l => obtain ⟨xs, h1, h2, h3⟩ := h; exact ⟨xs, hb.trans h1, h2, h3.kp k⟩
theorem RO.kp {L' : List Addr} {p : Addr × List Addr} {o : PObj} (k : Kp L H L' H') (hb : ∀ a ∈ adr p, H' a = H a) (h : RO g L H p o) : RO g L' H' p o := by
  obtain ⟨a0, bs⟩ := p
  have h0 : H' a0 = H a0 := hb a0 (List.mem_cons_self ..)
  have rls : ∀ {bs : List Addr} {ls : List (List PV)}, (∀ b ∈ bs, H' b = H b) → RLs g L H bs ls → RLs g L' H' bs ls := by
    intro bs
    induction bs with
    | nil => intro ls _ h; exact h
    | cons b bs ih =>
      rintro ls hb ⟨l, r, xs, e, h1, h2, h3⟩
      exact ⟨l, r, xs, e, (hb b (List.mem_cons_self ..)).trans h1, h2.kp k, ih (fun c hc => hb c (List.mem_cons_of_mem _ hc)) h3⟩
  cases o with
  | dead => exact h
  | lst l => obtain ⟨e, xs, h1, h2⟩ := h; exact ⟨e, xs, h0.trans h1, h2.kp k⟩
  | dct d => obtain ⟨e, h1⟩ := h; exact ⟨e, h1.kp k h0⟩
  | ins c ns l kn =>
    cases kn with
    | none => obtain ⟨e, dx, xs, h1, h3, h4⟩ := h; exact ⟨e, dx, xs, h0.trans h1, h3, h4.kp k⟩
    | some nd =>
      obtain ⟨nm, d⟩ := nd
      obtain ⟨b, dx, xs, e, h1, h3, h4, h5, h7⟩ := h
      have e' : bs = [b] := e
      exact ⟨b, dx, xs, e, h0.trans h1, h3, h4.kp k, h5, h7.kp k (hb b (by rw [e']; simp [adr]))⟩
  | dL ks ls =>
    obtain ⟨e, h1, h2⟩ := h
    exact ⟨e, h0.trans h1, rls (fun b hb' => hb b (List.mem_cons_of_mem _ hb')) h2⟩
theorem kp_new (h : RH g φ H st) {p : Addr} {o : HO} (hp : H p = none) : Kp (live φ st) H (live φ st) (upd H p o) :=
  .of (fun a u e _ => by rw [upd_ne (ne_of_none e hp)]; exact e) fun a h => .inl h
/-- a new object that is not owned -/
theorem RH.fresh (h : RH g φ H st) {p : Addr} {o : HO} (hp : H p = none) : RH g φ (upd H p o) st ∧ Go φ st H φ st (upd H p o) := by
  refine ⟨⟨h.len, h.nd, fun a ha => let ⟨u, e, w⟩ := h.exs a ha; ⟨u, by rw [upd_ne (ne_of_none e hp)]; exact e, w⟩, fun i q u h1 h2 => ?_, h.tab.ext fun b u e => by rw [upd_ne (ne_of_none e hp)]; exact e⟩, rfl, fun a ha => ?_, PreL.refl _, kp_new h hp⟩
  rotate_left
  · obtain ⟨u, e, _⟩ := h.exs a ha
    exact upd_ne (ne_of_none e hp)
  by_cases hd : u.isDead = true
  · cases u <;> first | exact True.intro | cases hd
  · have hd : u.isDead = false := by simpa using hd
    refine (h.ob i q u h1 h2).kp (kp_new h hp) fun a ha => ?_
    obtain ⟨v, e, _⟩ := (h.ob i q u h1 h2).there hd a ha
    exact upd_ne (ne_of_none e hp)
theorem kp_alloc (h : RH g φ H st) {p : Addr} {o : HO} (hp : H p = none) : Kp (live φ st) H (live φ st ++ [p]) (upd H p o) :=
  .of (fun a u e _ => by rw [upd_ne (ne_of_none e hp)]; exact e) fun a h => by
    rcases List.mem_append.mp h with h | h
    · exact .inl h
    · have : a = p := by simpa using h
      subst this; exact .inr hp
/-- a new object of the state -/
theorem RH.alloc (h : RH g φ H st) {p : Addr} {o : HO} {u : PObj} (hp : H p = none) (hu : u.isDead = false) (ro : RO g (live φ st ++ [p]) (upd H p o) (p, []) u) :
    RH g ⟨φ.ex, φ.ls ++ [(p, [])]⟩ (upd H p o) (st ++ [u]) ∧ Go φ st H ⟨φ.ex, φ.ls ++ [(p, [])]⟩ (st ++ [u]) (upd H p o) := by
  have hl : live ⟨φ.ex, φ.ls ++ [(p, [])]⟩ (st ++ [u]) = live φ st ++ [p] := by
    show φ.ex ++ liv (φ.ls ++ [(p, [])]) (st ++ [u]) = (φ.ex ++ liv φ.ls st) ++ [p]
    rw [liv_append h.len hu, List.append_assoc]; rfl
  have kp := kp_alloc h (o := o) hp
  have exk : ∀ a ∈ φ.ex, upd H p o a = H a := fun a ha => by
    obtain ⟨u, e, _⟩ := h.exs a ha
    exact upd_ne (ne_of_none e hp)
  refine ⟨⟨by simp [h.len], ?_, fun a ha => by rw [exk a ha]; exact h.exs a ha, fun i q v h1 h2 => ?_, h.tab.ext fun b w e => by rw [upd_ne (ne_of_none e hp)]; exact e⟩, rfl, exk, PreL.app _ _, by rw [hl]; exact kp⟩
  · rw [hl, List.nodup_append]
    refine ⟨h.nd, by simp, fun a ha b hb z => ?_⟩
    have : b = p := by simpa using hb
    subst this; subst z
    exact h.new hp ha
  · rw [hl]
    by_cases hi : i < φ.ls.length
    · rw [List.getElem?_append_left hi] at h1
      rw [List.getElem?_append_left (by rw [← h.len]; exact hi)] at h2
      by_cases hd : v.isDead = true
      · cases v <;> first | exact True.intro | cases hd
      · have hd : v.isDead = false := by simpa using hd
        refine (h.ob i q v h1 h2).kp kp fun a ha => ?_
        obtain ⟨w, e, _⟩ := (h.ob i q v h1 h2).there hd a ha
        exact upd_ne (ne_of_none e hp)
    · have hi' : φ.ls.length ≤ i := Nat.le_of_not_lt hi
      rw [List.getElem?_append_right hi'] at h1
      rw [List.getElem?_append_right (by rw [← h.len]; exact hi'), ← h.len] at h2
      cases hk : i - φ.ls.length with
      | zero => rw [hk] at h1 h2; simp at h1 h2; subst h1; subst h2; exact ro
      | succ n => rw [hk] at h1; simp at h1
theorem kp_write {a : Addr} {o : HO} (ha : a ∈ live φ st) : Kp (live φ st) H (live φ st) (upd H a o) :=
  .of (fun b u e n => by rw [upd_ne (fun z => n (by rw [z]; exact ha))]; exact e) fun a h => .inl h
/-- an object of the state is written, at a (its own address, or a part's) -/
theorem RH.write (h : RH g φ H st) {i : Nat} {p : Addr × List Addr} {u u' : PObj} {a : Addr} {o : HO} (h1 : φ.ls[i]? = some p) (h2 : st[i]? = some u) (hu : u.isDead = false) (hu' : u'.isDead = false) (ha : a ∈ adr p)
    (ro : RO g (live φ st) (upd H a o) p u') : RH g φ (upd H a o) (st.set i u') ∧ Go φ st H φ (st.set i u') (upd H a o) := by
  have hl : live φ (st.set i u') = live φ st := congrArg (φ.ex ++ ·) (liv_set h2 hu hu')
  have mem : a ∈ live φ st := live_mem.mpr (.inr ⟨i, p, u, h1, h2, hu, ha⟩)
  have kp := kp_write (H := H) (o := o) mem
  have exk : ∀ b ∈ φ.ex, upd H a o b = H b := fun b hb => upd_ne fun z => h.exn h1 h2 hu ha (by rw [← z]; exact hb)
  refine ⟨⟨by simp [h.len], by rw [hl]; exact h.nd, fun b hb => by rw [exk b hb]; exact h.exs b hb, fun j q v k1 k2 => ?_, ?_⟩, rfl, exk, PreL.refl _, by rw [hl]; exact kp⟩
  · rw [hl]
    by_cases hj : i = j
    · subst hj
      rw [h1] at k1; cases k1
      have hil : i < st.length := (List.getElem?_eq_some_iff.mp h2).1
      rw [List.getElem?_set_self hil] at k2; cases k2
      exact ro
    · rw [List.getElem?_set_ne hj] at k2
      by_cases hd : v.isDead = true
      · cases v <;> first | exact True.intro | cases hd
      · have hd : v.isDead = false := by simpa using hd
        refine (h.ob j q v k1 k2).kp kp fun b hb => ?_
        exact upd_ne fun z => hj (liv_apart h.ndl h1 h2 hu k1 k2 hd ha (by rw [← z]; exact hb))
  · obtain ⟨w, e, nt⟩ := h.there mem
    intro q hq
    obtain ⟨ps, t1, t2, t3⟩ := h.tab q hq
    have ne1 : q.1 ≠ a := fun z => by rw [z, e] at t1; cases t1; exact nt.tbl _ rfl
    refine ⟨ps, by rw [upd_ne ne1]; exact t1, t2, fun pos cv hc => ?_⟩
    obtain ⟨c, e1, e2⟩ := t3 pos cv hc
    refine ⟨c, e1, ?_⟩
    have ne2 : c ≠ a := fun z => by
      rw [z, e] at e2
      exact nt.code _ _ (Option.some.inj e2)
    rw [upd_ne ne2]; exact e2
/-- the end of a call: what is newer than n is let go -/
def Ph.take (φ : Ph) (n : Nat) : Ph := ⟨φ.ex, φ.ls.take n⟩
theorem live_take_sub (n : Nat) : (live (φ.take n) (st.take n)).Sublist (live φ st) := List.Sublist.append (List.Sublist.refl _) (liv_take_sub n)
theorem RH.drop (h : RH g φ H st) (n : Nat) : RH g (φ.take n) H (st.take n) := by
  have hs := live_take_sub (φ := φ) (st := st) n
  refine ⟨by simp [Ph.take, h.len], h.nd.sublist hs, h.exs, fun i p o h1 h2 => ?_, h.tab⟩
  have h1 : (φ.ls.take n)[i]? = some p := h1
  have hi : i < n := by
    have := (List.getElem?_eq_some_iff.mp h1).1
    rw [List.length_take] at this; omega
  rw [List.getElem?_take_of_lt hi] at h1 h2
  exact (h.ob i p o h1 h2).kp (.of (fun a u e _ => e) fun a ha => .inl (hs.subset ha)) fun _ _ => rfl
theorem Go.drop (k : Go φ st H φ' st' H') (hl : φ.ls.length = st.length) : Go φ st H (φ'.take st.length) (st'.take st.length) H' := by
  refine ⟨k.exe, k.exk, ?_, k.kp.st, fun a ha => k.kp.ow a ((live_take_sub _).subset ha)⟩
  intro i p e
  obtain ⟨q, a, b, c⟩ := k.pre i p e
  exact ⟨q, by show (φ'.ls.take st.length)[i]? = _; rw [List.getElem?_take_of_lt (by rw [← hl]; exact (List.getElem?_eq_some_iff.mp e).1)]; exact a, b, c⟩
end
end Vs
/-! Layer, part 2: expressions, arguments, tests, statements. -/
namespace Vs
open PySem L2
abbrev lim : Nat := 16777216
def PM.stuck {α : Type} : PM α := fun _ => .stuck
def PM.get : PM PSt := fun s => .ok s s
def PM.guard {α : Type} (c : Prop) [Decidable c] (m : PM α) : PM α := fun s => if c then m s else .stuck
/-! ### mirrors of expressions -/
def eVar (i : Nat) : EM := fun ρ st => match ρ[i]? with
  | some (some r) => .ok r st
  | _ => .stuck
def eC (v : PV) : EM := fun _ st => .ok (.p v) st
def eNo : EM := fun _ _ => .stuck
def e1 (f : PR → PM PR) (a : EM) : EM := fun ρ => a ρ >>= f
def e2 (f : PR → PR → PM PR) (a b : EM) : EM := fun ρ => a ρ >>= fun x => b ρ >>= fun y => f x y
def aNil : Ev → PM (List PR) := fun _ st => .ok [] st
def aCons (a : EM) (b : Ev → PM (List PR)) : Ev → PM (List PR) := fun ρ => a ρ >>= fun x => b ρ >>= fun l => pure (x :: l)
def eCall (f : FM) (a : Ev → PM (List PR)) : EM := fun ρ => a ρ >>= f
/-- truth -/
def truthM : PR → PM Bool
  | .p .non => pure false
  | .p (.bl b) => pure b
  | .p (.int i) => pure (i != 0)
  | .p (.str y) => PM.guard (y.length ≤ lim) (pure ((y.length : Int) != 0))
  | .p (.tup l) => pure (!l.isEmpty)
  | .p (.lst l) => pure (!l.isEmpty)
  | .p (.dK ks _) => pure (!ks.isEmpty)
  | .r i 0 => fun st => match st[i]? with
    | some (.lst l) => .ok (!l.isEmpty) st
    | _ => .stuck
  | _ => PM.stuck
abbrev TM := Ev → PM Bool
def tTruth (a : EM) : TM := fun ρ => a ρ >>= truthM
def tNotM (a : TM) : TM := fun ρ => a ρ >>= fun b => pure (!b)
def tAndM (a b : TM) : TM := fun ρ => a ρ >>= fun x => if x then b ρ else pure false
def tOrM (a b : TM) : TM := fun ρ => a ρ >>= fun x => if x then pure true else b ρ
/-- a value that is a truth value -/
def asB : PR → PM Bool
  | .p (.bl b) => pure b
  | _ => PM.stuck
def tVal (a : EM) : TM := fun ρ => a ρ >>= asB
def eNot (a : EM) : EM := fun ρ => a ρ >>= fun x => truthM x >>= fun b => pure (.p (.bl (!b)))
def eAnd (a b : EM) : EM := fun ρ => a ρ >>= fun x => truthM x >>= fun k => if k then b ρ else pure x
def eOr (a b : EM) : EM := fun ρ => a ρ >>= fun x => truthM x >>= fun k => if k then pure x else b ρ
def eIf (t : TM) (a b : EM) : EM := fun ρ => t ρ >>= fun k => if k then a ρ else b ρ
/-- a op b op' c -/
def eChain (f f' : PR → PR → PM PR) (a b c : EM) : EM := fun ρ => a ρ >>= fun x => b ρ >>= fun y => f x y >>= fun z => asB z >>= fun k => if k then c ρ >>= fun w => f' y w else pure (.p (.bl false))

/-! ### small lemmas -/
section
variable {g : Gx} {φ φ' : Ph} {st st' : PSt} {H H' : Hp} {Q : V → Hp → Prop} {W : XK}
theorem Ok.ret {α β : Type} {R : Ph → PSt → Hp → α → β → Prop} {Q : β → Hp → Prop} {r : α} {x : β} (h : Ok g φ st H R Q W (.ok r st)) (rh : RH g φ H st) (rp : R φ st H r x) : Q x H := h x φ H Go.refl rh rp
theorem ok_guard {α β : Type} {R : Ph → PSt → Hp → α → β → Prop} {Q : β → Hp → Prop} {c : Prop} [Decidable c] {m : PM α} (h : Ok g φ st H R Q W (PM.guard c m st)) : c ∧ Ok g φ st H R Q W (m st) := by
  unfold PM.guard at h
  split at h
  · exact ⟨‹_›, h⟩
  · exact h.elim
theorem rp_int {i : Int} {x : V} : RP g φ st H (.p (.int i)) x ↔ x = .int i := by simp only [RP, RV]
theorem rp_bl {i : Bool} {x : V} : RP g φ st H (.p (.bl i)) x ↔ x = .bl i := by simp only [RP, RV]
theorem rp_str {i : Str} {x : V} : RP g φ st H (.p (.str i)) x ↔ x = .str i := by simp only [RP, RV]
theorem rp_non {x : V} : RP g φ st H (.p .non) x ↔ x = .non := by simp only [RP, RV]
theorem rp_fn {f : Nat} {x : V} : RP g φ st H (.p (.fn f)) x ↔ x = .ref (g.fA f) := by simp only [RP, RV]
theorem rp_tup {l : List PV} {x : V} : RP g φ st H (.p (.tup l)) x ↔ ∃ a xs, x = .ref a ∧ TpAt g (live φ st) H a xs ∧ RVs g (live φ st) H l xs := by simp only [RP, RV]
theorem rp_lst {l : List PV} {x : V} : RP g φ st H (.p (.lst l)) x ↔ ∃ a xs, x = .ref a ∧ LsAt g (live φ st) H a xs ∧ RVs g (live φ st) H l xs := by simp only [RP, RV]
/-- a new tuple, a new list that nobody will change -/
theorem Ok.tup {l : List PV} {xs : List V} {p : Addr} (h : Ok g φ st H (RP g) Q W (.ok (.p (.tup l)) st)) (rh : RH g φ H st) (r : RVs g (live φ st) H l xs) (hp : H p = none) : Q (.ref p) (upd H p (.tup xs)) := by
  obtain ⟨h1, h2⟩ := rh.fresh (o := .tup xs) hp
  exact h _ _ _ h2 h1 (rp_tup.mpr ⟨p, xs, rfl, .inl ⟨rh.new hp, .inl upd_same⟩, r.kp h2.kp⟩)
theorem Ok.lst {l : List PV} {xs : List V} {p : Addr} (h : Ok g φ st H (RP g) Q W (.ok (.p (.lst l)) st)) (rh : RH g φ H st) (r : RVs g (live φ st) H l xs) (hp : H p = none) : Q (.ref p) (upd H p (.lst xs)) := by
  obtain ⟨h1, h2⟩ := rh.fresh (o := .lst xs) hp
  exact h _ _ _ h2 h1 (rp_lst.mpr ⟨p, xs, rfl, .inl ⟨rh.new hp, .inl upd_same⟩, r.kp h2.kp⟩)
/-- a new list that is an object of the state -/
theorem Ok.alloc {l : List PV} {xs : List V} {p : Addr} (h : Ok g φ st H (RP g) Q W (.ok (.r st.length 0) (st ++ [.lst l]))) (rh : RH g φ H st) (r : RVs g (live φ st) H l xs) (hp : H p = none) : Q (.ref p) (upd H p (.lst xs)) := by
  obtain ⟨h1, h2⟩ := rh.alloc (o := .lst xs) (u := .lst l) hp rfl ⟨rfl, xs, upd_same, r.kp (kp_alloc rh hp)⟩
  exact h _ _ _ h2 h1 ⟨(p, []), by show (φ.ls ++ [(p, [])])[st.length]? = _; rw [← rh.len, List.getElem?_append_right (Nat.le_refl _)]; simp, rfl⟩
theorem isEmpty_rvs {L : List Addr} {l : List PV} {xs : List V} (r : RVs g L H l xs) : xs.isEmpty = l.isEmpty := by
  have := r.length
  cases l <;> cases xs <;> simp at this ⊢
theorem truth_ok {r : PR} {x : V} {Q : Bool → Hp → Prop} (rh : RH g φ H st) (rp : RP g φ st H r x) (h : Ok g φ st H (fun _ _ _ b c => b = c) Q W (truthM r st)) : ∃ k, TruV g.K x H k ∧ Q k H := by
  cases r with
  | p v =>
    cases v with
    | non => rw [rp_non.mp rp]; exact ⟨_, rfl, h.ret rh rfl⟩
    | bl b => rw [rp_bl.mp rp]; exact ⟨_, rfl, h.ret rh rfl⟩
    | int i => rw [rp_int.mp rp]; exact ⟨_, rfl, h.ret rh rfl⟩
    | str y =>
      rw [rp_str.mp rp]
      obtain ⟨c, h⟩ := ok_guard h
      exact ⟨_, ⟨by rw [sizeLine_eq]; exact c, rfl⟩, h.ret rh rfl⟩
    | tup l =>
      obtain ⟨a, xs, rfl, t, r⟩ := rp_tup.mp rp
      exact ⟨_, .inr (.inl ⟨xs, t.sq, rfl⟩), by rw [isEmpty_rvs r]; exact h.ret rh rfl⟩
    | lst l =>
      obtain ⟨a, xs, rfl, t, r⟩ := rp_lst.mp rp
      exact ⟨_, .inl ⟨xs, t.sq, rfl⟩, by rw [isEmpty_rvs r]; exact h.ret rh rfl⟩
    | dK ks l =>
      have rp : RV g (live φ st) H (.dK ks l) x := rp
      simp only [RV] at rp
      obtain ⟨a, xs, rfl, n, t, z, r⟩ := rp
      refine ⟨_, .inr (.inr ⟨_, t, rfl⟩), ?_⟩
      have e : (ks.zip xs).isEmpty = ks.isEmpty := by
        have := r.length
        cases ks with
        | nil => rfl
        | cons k ks => cases xs with
          | nil => simp at this; rw [← this] at z; simp at z
          | cons x xs => rfl
      rw [e]; exact h.ret rh rfl
    | dT ks l => exact h.elim
    | obj c ns l => exact h.elim
    | fn f => exact h.elim
  | r i j =>
    cases j with
    | succ j => exact h.elim
    | zero =>
      obtain ⟨p, e, rfl⟩ := rp
      have h : Ok g φ st H _ Q W (match st[i]? with
        | some (.lst l) => .ok (!l.isEmpty) st
        | _ => .stuck) := h
      cases e2 : st[i]? with
      | none => rw [e2] at h; exact h.elim
      | some o =>
        rw [e2] at h
        cases o with
        | lst l =>
          obtain ⟨_, xs, h1, h2⟩ := rh.ob i p _ e e2
          exact ⟨_, .inl ⟨xs, .of h1, rfl⟩, by rw [isEmpty_rvs h2]; exact h.ret rh rfl⟩
        | _ => exact h.elim
end

/-! ### rules -/
theorem ofE {X : Cx} {e : Expr} {t t' : TE} (h : PE X e t) (k : ∀ pins s σ H Q, Inv X pins σ H s → t' σ H Q → t σ H Q) : PE X e t' :=
  ⟨fun pins s σ H Q I q => h.run pins s σ H Q I (k pins s σ H Q I q)⟩
theorem ofA {X : Cx} {e : List Expr} {t t' : TA} (h : PA X e t) (k : ∀ σ H Q, t' σ H Q → t σ H Q) : PA X e t' :=
  ⟨fun pos pins s σ H Q I q => h.run pos pins s σ H Q I (k σ H Q q)⟩
theorem ofT {X : Cx} {e : Expr} {t t' : TT} (h : PT X e t) (k : ∀ σ H Q, t' σ H Q → t σ H Q) : PT X e t' :=
  ⟨fun pins s σ H Q I q => h.run pins s σ H Q I (k σ H Q q)⟩
theorem ofW {X : Cx} {e : Expr} {t t' : TT} (h : PW X e t) (k : ∀ σ H Q, t' σ H Q → t σ H Q) : PW X e t' :=
  ⟨fun wh pins s σ H Q I q => h.run wh pins s σ H Q I (k σ H Q q)⟩
theorem ofS {X : Cx} {e : Stmt} {t t' : TS} (h : PS X e t) (k : ∀ D σ H, t' D σ H → t D σ H) : PS X e t' :=
  ⟨fun pins s σ H D I q => h.run pins s σ H D I (k D σ H q)⟩
theorem ofB {X : Cx} {e : List Stmt} {t t' : TS} (h : PSs X e t) (k : ∀ D σ H, t' D σ H → t D σ H) : PSs X e t' :=
  ⟨fun pins s σ H D I q => h.run pins s σ H D I (k D σ H q)⟩

section
variable {X : Cx} {g : Gx} {W : XK} {a b c e : Expr} {es rest : List Expr} {ma mb mc : EM} {ta tb : TM} {pos : Pos}
abbrev JE (X : Cx) (g : Gx) (W : XK) (e : Expr) (m : EM) : Prop := PE X e (rd g W m)
abbrev JA (X : Cx) (g : Gx) (W : XK) (e : List Expr) (m : Ev → PM (List PR)) : Prop := PA X e (rdA g W m)
abbrev JT (X : Cx) (g : Gx) (W : XK) (e : Expr) (m : TM) : Prop := PT X e (rdT g W m)
abbrev JW (X : Cx) (g : Gx) (W : XK) (e : Expr) (m : TM) : Prop := PW X e (rdT g W m)
abbrev JS (X : Cx) (g : Gx) (W : XK) (s : Stmt) (m : SM) : Prop := PS X s (rdS g W m)
abbrev JB (X : Cx) (g : Gx) (W : XK) (s : List Stmt) (m : SM) : Prop := PSs X s (rdS g W m)
theorem je_no : JE X g W e eNo := ⟨fun _ _ _ _ _ _ ⟨_, _, _, _, _, h⟩ => h.elim⟩
theorem je_var {i : Nat} (h : PE X e (tVar i)) : JE X g W e (eVar i) := ofE h fun _ _ σ H Q _ ⟨φ, ρ, st, rh, re, ok⟩ => by
  have ok : Ok g φ st H (RP g) Q W (match ρ[i]? with
    | some (some r) => .ok r st
    | _ => .stuck) := ok
  cases q : ρ[i]? with
  | none => rw [q] at ok; exact ok.elim
  | some o =>
    rw [q] at ok
    cases o with
    | none => exact ok.elim
    | some r =>
      obtain ⟨x, h1, h2⟩ := re.at_ i r q
      exact ⟨x, h1, ok.ret rh h2⟩
theorem je_c {v : PV} {x : V} (h : PE X e (tC x)) (hv : ∀ L H, RV g L H v x) : JE X g W e (eC v) := ofE h fun _ _ σ H Q _ ⟨φ, ρ, st, rh, re, ok⟩ => ok.ret rh (hv _ _)
theorem je_int {i j pos} : JE X g W (.Constant (.int i) j pos) (eC (.int i)) := je_c pe_int fun _ _ => by simp only [RV]
theorem je_bl {i j pos} : JE X g W (.Constant (.bool i) j pos) (eC (.bl i)) := je_c pe_bl fun _ _ => by simp only [RV]
theorem je_non {j pos} : JE X g W (.Constant .none j pos) (eC .non) := je_c pe_non fun _ _ => by simp only [RV]
theorem je_str {i j pos} : JE X g W (.Constant (.str i) j pos) (eC (.str i)) := je_c pe_str fun _ _ => by simp only [RV]
/-- two operands -/
def Op2 (g : Gx) (W : XK) (X : Cx) (f : PR → PR → PM PR) (r : R2) : Prop := ∀ pins s σ (φ : Ph) (st : PSt) (H : Hp) (a b : PR) (x y : V) (Q : V → Hp → Prop), Inv X pins σ H s → RH g φ H st → RP g φ st H a x → RP g φ st H b y → Ok g φ st H (RP g) Q W (f a b st) → r x y H Q
/-- .. as an operation of the model -/
def OpJ (X : Cx) (g : Gx) (W : XK) (op : Value → Value → Sem Value) (f : PR → PR → PM PR) : Prop :=
  OpR X op fun x y H Q => ∃ φ st a b, RH g φ H st ∧ RP g φ st H a x ∧ RP g φ st H b y ∧ Ok g φ st H (RP g) Q W (f a b st)
theorem OpJ.of {op : Value → Value → Sem Value} {f : PR → PR → PM PR} {r : R2} (h : OpR X op r) (k : Op2 g W X f r) : OpJ X g W op f :=
  fun pins s σ H x y v u Q I rx ry ⟨φ, st, a, b, rh, ra, rb, ok⟩ => h pins s σ H x y v u Q I rx ry (k pins s σ φ st H a b x y Q I rh ra rb ok)
theorem je_bin {op : Operator} {f : PR → PR → PM PR} (ho : OpJ X g W (binaryOp op) f) (ha : JE X g W a ma) (hb : JE X g W b mb) : JE X g W (.BinOp a op b pos) (e2 f ma mb) :=
  ofE (pe_op ho ha hb) fun _ _ σ H Q _ ⟨φ, ρ, st, rh, re, ok⟩ => ⟨φ, ρ, st, rh, re, ok.bind fun x st1 v φ1 H1 g1 h1 r1 ok1 => ⟨φ1, ρ, st1, h1, re.go g1, ok1.bind fun y st2 u φ2 H2 g2 h2 r2 ok2 => ⟨φ2, st2, x, y, h2, r1.go g2, r2, ok2⟩⟩⟩
theorem je_cmp {op : CmpOp} {f : PR → PR → PM PR} (ho : OpJ X g W (compareOp op) f) (ha : JE X g W a ma) (hb : JE X g W b mb) (hm : behindInMarks op b = false) : JE X g W (.Compare a [op] [b] pos) (e2 f ma mb) :=
  ofE (pe_cmpR ho ha hb hm) fun _ _ σ H Q _ ⟨φ, ρ, st, rh, re, ok⟩ => ⟨φ, ρ, st, rh, re, ok.bind fun x st1 v φ1 H1 g1 h1 r1 ok1 => ⟨φ1, ρ, st1, h1, re.go g1, ok1.bind fun y st2 u φ2 H2 g2 h2 r2 ok2 => ⟨φ2, st2, x, y, h2, r1.go g2, r2, ok2⟩⟩⟩
theorem asB_ok {φ : Ph} {st : PSt} {H : Hp} {r : PR} {x : V} {Q : Bool → Hp → Prop} (rh : RH g φ H st) (rp : RP g φ st H r x) (h : Ok g φ st H (fun _ _ _ b c => b = c) Q W (asB r st)) : ∃ k, x = .bl k ∧ Q k H := by
  cases r with
  | p v =>
    cases v with
    | bl b => exact ⟨b, rp_bl.mp rp, h.ret rh rfl⟩
    | _ => exact h.elim
  | r i j => exact h.elim
/-- a comparison as a test -/
theorem jt_cmp {op : CmpOp} {f : PR → PR → PM PR} (ho : OpJ X g W (compareOp op) f) (ha : JE X g W a ma) (hb : JE X g W b mb) (hm : behindInMarks op b = false) : JT X g W (.Compare a [op] [b] pos) (tVal (e2 f ma mb)) :=
  ofT (pt_cmpR ho ha hb hm) fun σ H Q ⟨φ, ρ, st, rh, re, ok⟩ => by
    have ok : Ok g φ st H (fun _ _ _ b c => b = c) Q W ((ma ρ >>= fun x => mb ρ >>= fun y => f x y >>= asB) st) := by
      have e : (tVal (e2 f ma mb) ρ st) = ((ma ρ >>= fun x => mb ρ >>= fun y => f x y >>= asB) st) := by
        show ((ma ρ >>= fun x => mb ρ >>= fun y => f x y) >>= asB) st = _
        show Out.bind (Out.bind (ma ρ st) _) _ = Out.bind (ma ρ st) _
        cases ma ρ st with
        | ok r s1 =>
          show Out.bind (Out.bind (mb ρ s1) _) _ = Out.bind (mb ρ s1) _
          cases mb ρ s1 <;> rfl
        | err _ _ _ => rfl
        | stuck => rfl
      rw [← e]; exact ok
    exact ⟨φ, ρ, st, rh, re, ok.bind fun x st1 v φ1 H1 g1 h1 r1 ok1 => ⟨φ1, ρ, st1, h1, re.go g1, ok1.bind fun y st2 u φ2 H2 g2 h2 r2 ok2 => ⟨φ2, st2, x, y, h2, r1.go g2, r2, ok2.bind fun z st3 u3 φ3 H3 g3 h3 r3 ok3 => asB_ok h3 r3 ok3⟩⟩⟩
end
end Vs
/-! Layer, part 2b: chains, and, or, not, conditional expressions, arguments, displays, calls. -/
namespace Vs
open PySem L2
theorem PM.assoc {α β γ : Type} (m : PM α) (f : α → PM β) (h : β → PM γ) : ((m >>= f) >>= h) = (m >>= fun x => f x >>= h) := by
  funext st
  show Out.bind (Out.bind (m st) _) _ = Out.bind (m st) _
  cases m st <;> rfl
theorem PM.pure_bind {α β : Type} (a : α) (f : α → PM β) : ((Pure.pure a : PM α) >>= f) = f a := rfl
theorem PM.ite_bind {α β : Type} (c : Bool) (a b : PM α) (f : α → PM β) : ((if c = true then a else b) >>= f) = (if c = true then a >>= f else b >>= f) := by cases c <;> rfl
section
variable {X : Cx} {g : Gx} {W : XK} {a b c e : Expr} {es rest : List Expr} {ma mb mc : EM} {ta tb : TM} {pos : Pos}
theorem je_chain {op op' : CmpOp} {f f' : PR → PR → PM PR} (ho : OpJ X g W (compareOp op) f) (ho' : OpJ X g W (compareOp op') f') (ha : JE X g W a ma) (hb : JE X g W b mb) (hc : JE X g W c mc)
    (hm : lastMarks [op, op'] [b, c] = false := by with_unfolding_all rfl) : JE X g W (.Compare a [op, op'] [b, c] pos) (eChain f f' ma mb mc) :=
  ofE (pe_chain ho ho' ha hb hc hm) fun _ _ σ H Q _ ⟨φ, ρ, st, rh, re, ok⟩ => ⟨φ, ρ, st, rh, re, ok.bind fun x st1 v φ1 H1 g1 h1 r1 ok1 => ⟨φ1, ρ, st1, h1, re.go g1, ok1.bind fun y st2 u φ2 H2 g2 h2 r2 ok2 =>
    ⟨φ2, st2, x, y, h2, r1.go g2, r2, ok2.bind fun z st3 u3 φ3 H3 g3 h3 r3 ok3 => by
      obtain ⟨k, e, q⟩ := asB_ok (Q := fun k H4 => if k = true then rd g W mc σ H4 fun w' H4 => ∃ φ st a b, RH g φ H4 st ∧ RP g φ st H4 a u ∧ RP g φ st H4 b w' ∧ Ok g φ st H4 (RP g) Q W (f' a b st) else Q (.bl false) H4) h3 r3
        (ok3.bind fun k st4 k' φ4 H4 g4 h4 r4 ok4 => by
          subst r4
          cases k with
          | false => rw [if_neg Bool.false_ne_true]; exact (show Ok g φ4 st4 H4 (RP g) Q W (.ok (.p (.bl false)) st4) from ok4).ret h4 (rp_bl.mpr rfl)
          | true => rw [if_pos rfl]; exact ⟨φ4, ρ, st4, h4, ((re.go g1).go g2).go (g3.trans g4), (show Ok g φ4 st4 H4 (RP g) Q W ((mc ρ >>= fun w => f' y w) st4) from ok4).bind fun w st5 u5 φ5 H5 g5 h5 r5 ok5 =>
              ⟨φ5, st5, y, w, h5, r2.go ((g3.trans g4).trans g5), r5, ok5⟩⟩)
      exact ⟨k, e, q⟩⟩⟩⟩
theorem jt_chain {op op' : CmpOp} {f f' : PR → PR → PM PR} (ho : OpJ X g W (compareOp op) f) (ho' : OpJ X g W (compareOp op') f') (ha : JE X g W a ma) (hb : JE X g W b mb) (hc : JE X g W c mc)
    (hm : lastMarks [op, op'] [b, c] = false := by with_unfolding_all rfl) : JT X g W (.Compare a [op, op'] [b, c] pos) (tVal (eChain f f' ma mb mc)) :=
  ofT (pt_chain ho ho' ha hb hc hm) fun σ H Q ⟨φ, ρ, st, rh, re, ok⟩ => by
    have ok : Ok g φ st H (fun _ _ _ b c => b = c) Q W ((ma ρ >>= fun x => mb ρ >>= fun y => f x y >>= fun z => asB z >>= fun k => (if k = true then mc ρ >>= fun w => f' y w else pure (.p (.bl false))) >>= asB) st) := by
      have e : tVal (eChain f f' ma mb mc) ρ = (ma ρ >>= fun x => mb ρ >>= fun y => f x y >>= fun z => asB z >>= fun k => (if k = true then mc ρ >>= fun w => f' y w else pure (.p (.bl false))) >>= asB) := by
        show (ma ρ >>= fun x => mb ρ >>= fun y => f x y >>= fun z => asB z >>= fun k => if k = true then mc ρ >>= fun w => f' y w else pure (.p (.bl false))) >>= asB = _
        simp only [PM.assoc]
      rw [← e]; exact ok
    exact ⟨φ, ρ, st, rh, re, ok.bind fun x st1 v φ1 H1 g1 h1 r1 ok1 => ⟨φ1, ρ, st1, h1, re.go g1, ok1.bind fun y st2 u φ2 H2 g2 h2 r2 ok2 =>
      ⟨φ2, st2, x, y, h2, r1.go g2, r2, ok2.bind fun z st3 u3 φ3 H3 g3 h3 r3 ok3 => by
        obtain ⟨k, e, q⟩ := asB_ok (Q := fun k H4 => if k = true then rd g W mc σ H4 fun w' H4 => ∃ φ st a b, RH g φ H4 st ∧ RP g φ st H4 a u ∧ RP g φ st H4 b w' ∧ Ok g φ st H4 (RP g) (fun x H' => ∃ k, x = .bl k ∧ Q k H') W (f' a b st) else ∃ k, (V.bl false) = .bl k ∧ Q k H4) h3 r3
          (ok3.bind fun k st4 k' φ4 H4 g4 h4 r4 ok4 => by
            subst r4
            cases k with
            | false => rw [if_neg Bool.false_ne_true]; exact ⟨false, rfl, (show Ok g φ4 st4 H4 (fun _ _ _ b c => b = c) Q W (.ok false st4) from ok4).ret h4 rfl⟩
            | true => rw [if_pos rfl]; exact ⟨φ4, ρ, st4, h4, ((re.go g1).go g2).go (g3.trans g4), (show Ok g φ4 st4 H4 _ Q W ((mc ρ >>= fun w => f' y w >>= asB) st4) from by
                have e : ((mc ρ >>= fun w => f' y w) >>= asB) = (mc ρ >>= fun w => f' y w >>= asB) := PM.assoc _ _ _
                rw [← e]; exact ok4).bind fun w st5 u5 φ5 H5 g5 h5 r5 ok5 =>
                ⟨φ5, st5, y, w, h5, r2.go ((g3.trans g4).trans g5), r5, ok5.bind fun z st6 u6 φ6 H6 g6 h6 r6 ok6 => asB_ok h6 r6 ok6⟩⟩)
        exact ⟨k, e, q⟩⟩⟩⟩
variable (hK : X.K = g.K)
include hK
theorem jt_truth (ha : JE X g W a ma) (he : ∀ whole, isTrue a X.env whole = (do let v ← whole; standAt a.pos; holding [v] (truthy v)) := by intro _; rfl) : JT X g W a (tTruth ma) :=
  ofT (pt_truth ha he) fun σ H Q ⟨φ, ρ, st, rh, re, ok⟩ => ⟨φ, ρ, st, rh, re, ok.bind fun x st1 v φ1 H1 g1 h1 r1 ok1 => by rw [hK]; exact truth_ok h1 r1 ok1⟩
theorem je_not (ha : JE X g W a ma) : JE X g W (.UnaryOp .Not a pos) (eNot ma) :=
  ofE (pe_notT ha) fun _ _ σ H Q _ ⟨φ, ρ, st, rh, re, ok⟩ => ⟨φ, ρ, st, rh, re, ok.bind fun x st1 v φ1 H1 g1 h1 r1 ok1 => by
    rw [hK]
    exact truth_ok (Q := fun k H => Q (.bl (!k)) H) h1 r1 (ok1.bind fun k st2 k' φ2 H2 g2 h2 r2 ok2 => by
      subst r2
      exact (show Ok g φ2 st2 H2 (RP g) Q W (.ok (.p (.bl (!k))) st2) from ok2).ret h2 (rp_bl.mpr rfl))⟩
theorem je_and (ha : JE X g W a ma) (hb : JE X g W (.BoolOp .And (b :: rest) pos) mb) : JE X g W (.BoolOp .And (a :: b :: rest) pos) (eAnd ma mb) :=
  ofE (pe_andT ha hb) fun _ _ σ H Q _ ⟨φ, ρ, st, rh, re, ok⟩ => ⟨φ, ρ, st, rh, re, ok.bind fun x st1 v φ1 H1 g1 h1 r1 ok1 => by
    rw [hK]
    exact truth_ok (Q := fun k H => if k = true then rd g W mb σ H Q else Q v H) h1 r1 (ok1.bind fun k st2 k' φ2 H2 g2 h2 r2 ok2 => by
      subst r2
      cases k with
      | true => rw [if_pos rfl]; exact ⟨φ2, ρ, st2, h2, (re.go g1).go g2, ok2⟩
      | false => rw [if_neg Bool.false_ne_true]; exact (show Ok g φ2 st2 H2 (RP g) Q W (.ok x st2) from ok2).ret h2 (r1.go g2))⟩
theorem je_or (ha : JE X g W a ma) (hb : JE X g W (.BoolOp .Or (b :: rest) pos) mb) : JE X g W (.BoolOp .Or (a :: b :: rest) pos) (eOr ma mb) :=
  ofE (pe_orT ha hb) fun _ _ σ H Q _ ⟨φ, ρ, st, rh, re, ok⟩ => ⟨φ, ρ, st, rh, re, ok.bind fun x st1 v φ1 H1 g1 h1 r1 ok1 => by
    rw [hK]
    exact truth_ok (Q := fun k H => if k = true then Q v H else rd g W mb σ H Q) h1 r1 (ok1.bind fun k st2 k' φ2 H2 g2 h2 r2 ok2 => by
      subst r2
      cases k with
      | false => rw [if_neg Bool.false_ne_true]; exact ⟨φ2, ρ, st2, h2, (re.go g1).go g2, ok2⟩
      | true => rw [if_pos rfl]; exact (show Ok g φ2 st2 H2 (RP g) Q W (.ok x st2) from ok2).ret h2 (r1.go g2))⟩
omit hK
theorem je_one {op} (h : JE X g W a ma) : JE X g W (.BoolOp op [a] pos) ma := pe_one h
/-! tests -/
theorem jw_and1 (ha : JT X g W a ta) : JW X g W (.BoolOp .And [a] pos) ta := pw_and1 ha
theorem jw_or1 (ha : JT X g W a ta) : JW X g W (.BoolOp .Or [a] pos) ta := pw_or1 ha
theorem jw_and (ha : JT X g W a ta) (hb : JW X g W (.BoolOp .And (b :: rest) pos) tb) : JW X g W (.BoolOp .And (a :: b :: rest) pos) (tAndM ta tb) :=
  ofW (pw_and ha hb) fun σ H Q ⟨φ, ρ, st, rh, re, ok⟩ => ⟨φ, ρ, st, rh, re, ok.bind fun k st1 k' φ1 H1 g1 h1 r1 ok1 => by
    subst r1
    cases k with
    | true => rw [if_pos rfl]; exact ⟨φ1, ρ, st1, h1, re.go g1, ok1⟩
    | false => rw [if_neg Bool.false_ne_true]; exact (show Ok g φ1 st1 H1 (fun _ _ _ b c => b = c) Q W (.ok false st1) from ok1).ret h1 rfl⟩
theorem jw_or (ha : JT X g W a ta) (hb : JW X g W (.BoolOp .Or (b :: rest) pos) tb) : JW X g W (.BoolOp .Or (a :: b :: rest) pos) (tOrM ta tb) :=
  ofW (pw_or ha hb) fun σ H Q ⟨φ, ρ, st, rh, re, ok⟩ => ⟨φ, ρ, st, rh, re, ok.bind fun k st1 k' φ1 H1 g1 h1 r1 ok1 => by
    subst r1
    cases k with
    | false => rw [if_neg Bool.false_ne_true]; exact ⟨φ1, ρ, st1, h1, re.go g1, ok1⟩
    | true => rw [if_pos rfl]; exact (show Ok g φ1 st1 H1 (fun _ _ _ b c => b = c) Q W (.ok true st1) from ok1).ret h1 rfl⟩
theorem jt_w (h : JW X g W a ta) : JT X g W a ta := h.pt
theorem jt_not (ha : JT X g W a ta) : JT X g W (.UnaryOp .Not a pos) (tNotM ta) :=
  ofT (pt_not ha) fun σ H Q ⟨φ, ρ, st, rh, re, ok⟩ => ⟨φ, ρ, st, rh, re, ok.bind fun k st1 k' φ1 H1 g1 h1 r1 ok1 => by
    subst r1
    exact (show Ok g φ1 st1 H1 (fun _ _ _ b c => b = c) Q W (.ok (!k) st1) from ok1).ret h1 rfl⟩
theorem je_if (hc : JT X g W c ta) (ha : JE X g W a ma) (hb : JE X g W b mb) : JE X g W (.IfExp c a b pos) (eIf ta ma mb) :=
  ofE (pe_ifExp hc ha hb) fun _ _ σ H Q _ ⟨φ, ρ, st, rh, re, ok⟩ => ⟨φ, ρ, st, rh, re, ok.bind fun k st1 k' φ1 H1 g1 h1 r1 ok1 => by
    subst r1
    cases k with
    | true => rw [if_pos rfl]; exact ⟨φ1, ρ, st1, h1, re.go g1, ok1⟩
    | false => rw [if_neg Bool.false_ne_true]; exact ⟨φ1, ρ, st1, h1, re.go g1, ok1⟩⟩
/-! arguments -/
variable {margs : Ev → PM (List PR)}
theorem ja_nil : JA X g W [] aNil := ofA pa_nil fun σ H Q ⟨φ, ρ, st, rh, re, ok⟩ => (show Ok g φ st H (RPs g) Q W (.ok [] st) from ok).ret rh rfl
theorem ja_cons (ha : JE X g W e ma) (hr : JA X g W es margs) (hs : starEach (e :: es) X.env = (false, eval e X.env) :: starEach es X.env := by rfl) : JA X g W (e :: es) (aCons ma margs) :=
  ofA (pa_cons ha hr hs) fun σ H Q ⟨φ, ρ, st, rh, re, ok⟩ => ⟨φ, ρ, st, rh, re, ok.bind fun x st1 v φ1 H1 g1 h1 r1 ok1 => ⟨φ1, ρ, st1, h1, re.go g1, ok1.bind fun l st2 vs φ2 H2 g2 h2 r2 ok2 =>
    (show Ok g φ2 st2 H2 (RPs g) Q W (.ok (x :: l) st2) from ok2).ret h2 ⟨v, vs, rfl, r1.go g2, r2⟩⟩⟩
end
/-- the items of a list, of a tuple -/
def itemsM : PR → PM (List PV)
  | .p (.tup l) => pure l
  | .p (.lst l) => pure l
  | .r i 0 => fun st => match st[i]? with
    | some (.lst l) => .ok l st
    | _ => .stuck
  | _ => PM.stuck
def aStar (a : EM) (b : Ev → PM (List PR)) : Ev → PM (List PR) := fun ρ => a ρ >>= fun x => itemsM x >>= fun l => b ρ >>= fun r => pure (l.map .p ++ r)
/-- only pure values -/
def pures : List PR → PM (List PV)
  | [] => pure []
  | .p v :: l => pures l >>= fun r => pure (v :: r)
  | .r _ _ :: _ => PM.stuck
section
variable {g : Gx} {φ φ' : Ph} {st st' : PSt} {H H' : Hp} {W : XK}
theorem rps_map : ∀ {l : List PV} {xs : List V}, RVs g (live φ st) H l xs → RPs g φ st H (l.map .p) xs
  | [], _, h => by simp only [RVs] at h; exact h
  | v :: l, _, h => by
    simp only [RVs] at h
    obtain ⟨x, r, rfl, h1, h2⟩ := h
    exact ⟨x, r, rfl, h1, rps_map h2⟩
theorem rps_append : ∀ {l m : List PR} {xs ys : List V}, RPs g φ st H l xs → RPs g φ st H m ys → RPs g φ st H (l ++ m) (xs ++ ys)
  | [], _, _, _, h, q => by have h : _ = _ := h; subst h; exact q
  | r :: l, _, _, _, ⟨x, t, e, h1, h2⟩, q => by subst e; exact ⟨x, _, rfl, h1, rps_append h2 q⟩
theorem items_ok {r : PR} {x : V} {β : Type} {R : Ph → PSt → Hp → List PV → β → Prop} {Q : β → Hp → Prop} (rh : RH g φ H st) (rp : RP g φ st H r x) (h : Ok g φ st H R Q W (itemsM r st)) :
    ∃ a xs l, x = .ref a ∧ (SqT g.K H a xs ∨ SqL g.K H a xs) ∧ RVs g (live φ st) H l xs ∧ itemsM r st = .ok l st := by
  cases r with
  | p v =>
    cases v with
    | tup l => obtain ⟨a, xs, rfl, t, r⟩ := rp_tup.mp rp; exact ⟨a, xs, l, rfl, .inl t.sq, r, rfl⟩
    | lst l => obtain ⟨a, xs, rfl, t, r⟩ := rp_lst.mp rp; exact ⟨a, xs, l, rfl, .inr t.sq, r, rfl⟩
    | _ => exact h.elim
  | r i j =>
    cases j with
    | succ j => exact h.elim
    | zero =>
      obtain ⟨p, e, rfl⟩ := rp
      have e0 : itemsM (.r i 0) st = (match st[i]? with
        | some (.lst l) => .ok l st
        | _ => .stuck) := rfl
      rw [e0] at h ⊢
      cases e2 : st[i]? with
      | none => rw [e2] at h; exact h.elim
      | some o =>
        rw [e2] at h
        cases o with
        | lst l =>
          obtain ⟨_, xs, h1, h2⟩ := rh.ob i p _ e e2
          exact ⟨p.1, xs, l, rfl, .inr (.of h1), h2, rfl⟩
        | _ => exact h.elim
theorem pures_ok {β : Type} {W : XK} {R : Ph → PSt → Hp → List PV → β → Prop} {Q : β → Hp → Prop} : ∀ {l : List PR} {xs : List V}, RPs g φ st H l xs → Ok g φ st H R Q W (pures l st) → ∃ m, RVs g (live φ st) H m xs ∧ pures l st = .ok m st ∧ m.length = l.length
  | [], _, h, _ => by have h : _ = _ := h; subst h; exact ⟨[], RVs.nil, rfl, rfl⟩
  | .r i j :: l, _, _, ok => ok.elim
  | .p v :: l, _, ⟨x, t, e, h1, h2⟩, ok => by
    subst e
    have ok : Ok g φ st H R Q W ((pures l st).bind fun r s => .ok (v :: r) s) := ok
    have ok2 : Ok g φ st H (fun _ _ _ _ (_ : Unit) => True) (fun _ _ => True) (fun _ _ _ => True) (pures l st) := by
      cases e : pures l st with
      | ok _ _ => intro _ _ _ _ _ _; trivial
      | err _ _ _ => intro _ _ _ _ _ _ _ _; trivial
      | stuck => rw [e] at ok; exact ok.elim
    obtain ⟨m, h3, h4, h5⟩ := pures_ok (W := fun _ _ _ => True) (R := fun _ _ _ _ (_ : Unit) => True) (Q := fun _ _ => True) h2 ok2
    refine ⟨v :: m, RVs.cons h1 h3, ?_, by simp [h5]⟩
    show (pures l st).bind _ = _
    rw [h4]; rfl
end
section
variable {X : Cx} {g : Gx} {W : XK} {a b c e : Expr} {es rest : List Expr} {ma mb mc : EM} {ta tb : TM} {pos p : Pos} {margs : Ev → PM (List PR)}
theorem ja_star (hK : X.K = g.K) (he : JE X g W e ma) (hr : JA X g W es margs) (hs : starEach (.Starred e p :: es) X.env = (true, eval e X.env) :: starEach es X.env := by rfl) : JA X g W (.Starred e p :: es) (aStar ma margs) :=
  ofA (StX.pa_star he hr hs) fun σ H Q ⟨φ, ρ, st, rh, re, ok⟩ => ⟨φ, ρ, st, rh, re, ok.bind fun x st1 v φ1 H1 g1 h1 r1 ok1 => by
    have ok1' : Ok g φ1 st1 H1 (RPs g) Q W ((itemsM x st1).bind fun l s => (margs ρ >>= fun r => pure (l.map .p ++ r)) s) := ok1
    have ok2 : Ok g φ1 st1 H1 (fun _ _ _ _ (_ : Unit) => True) (fun _ _ => True) (fun _ _ _ => True) (itemsM x st1) := by
      cases e : itemsM x st1 with
      | ok _ _ => intro _ _ _ _ _ _; trivial
      | err _ _ _ => intro _ _ _ _ _ _ _ _; trivial
      | stuck => rw [e] at ok1'; exact ok1'.elim
    obtain ⟨a, xs, l, rfl, hs, rv, e⟩ := items_ok h1 r1 ok2
    rw [e] at ok1'
    refine ⟨a, xs, rfl, by rw [hK]; exact hs, φ1, ρ, st1, h1, re.go g1, (show Ok g φ1 st1 H1 (RPs g) Q W ((margs ρ >>= fun r => pure (l.map .p ++ r)) st1) from ok1').bind fun r st2 vs φ2 H2 g2 h2 r2 ok3 => ?_⟩
    exact (show Ok g φ2 st2 H2 (RPs g) Q W (.ok (l.map .p ++ r) st2) from ok3).ret h2 (rps_append (rps_map (rv.kp g2.kp)) r2)⟩
/-- (a, b, ..) -/
def eTup (m : Ev → PM (List PR)) : EM := fun ρ => m ρ >>= fun l => pures l >>= fun vs => PM.guard (vs.length ≤ lim) (pure (.p (.tup vs)))
/-- [a, b, ..] that stays as it is; one that is changed later -/
def eLst (m : Ev → PM (List PR)) : EM := fun ρ => m ρ >>= fun l => pures l >>= fun vs => PM.guard (vs.length ≤ lim) (pure (.p (.lst vs)))
def newLst (vs : List PV) : PM PR := fun st => .ok (.r st.length 0) (st ++ [.lst vs])
def eLstM (m : Ev → PM (List PR)) : EM := fun ρ => m ρ >>= fun l => pures l >>= fun vs => PM.guard (vs.length ≤ lim) (newLst vs)
theorem ok_pures {β : Type} {R : Ph → PSt → Hp → PR → β → Prop} {Q : β → Hp → Prop} {φ : Ph} {st : PSt} {H : Hp} {l : List PR} {xs : List V} {f : List PV → PM PR} (r : RPs g φ st H l xs) (ok : Ok g φ st H R Q W ((pures l >>= f) st)) :
    ∃ m, RVs g (live φ st) H m xs ∧ m.length = l.length ∧ Ok g φ st H R Q W (f m st) := by
  have ok' : Ok g φ st H R Q W ((pures l st).bind f) := ok
  have ok2 : Ok g φ st H (fun _ _ _ _ (_ : Unit) => True) (fun _ _ => True) (fun _ _ _ => True) (pures l st) := by
    cases e : pures l st with
    | ok _ _ => intro _ _ _ _ _ _; trivial
    | err _ _ _ => intro _ _ _ _ _ _ _ _; trivial
    | stuck => rw [e] at ok'; exact ok'.elim
  obtain ⟨m, h1, h2, h3⟩ := pures_ok r ok2
  rw [h2] at ok'
  exact ⟨m, h1, h3, ok'⟩
theorem je_tup {x1} (h : JA X g W es margs) : JE X g W (.Tuple es x1 pos) (eTup margs) :=
  ofE (pe_tup h) fun _ _ σ H Q _ ⟨φ, ρ, st, rh, re, ok⟩ => ⟨φ, ρ, st, rh, re, ok.bind fun l st1 xs φ1 H1 g1 h1 r1 ok1 => by
    obtain ⟨m, h3, h4, ok2⟩ := ok_pures r1 ok1
    obtain ⟨c, ok3⟩ := ok_guard ok2
    exact ⟨by rw [sizeLine_eq, h3.length]; exact c, fun p hp => Ok.tup ok3 h1 h3 hp⟩⟩
theorem je_lst (h : JA X g W es margs) : JE X g W (.List es pos) (eLst margs) :=
  ofE (pe_lst h) fun _ _ σ H Q _ ⟨φ, ρ, st, rh, re, ok⟩ => ⟨φ, ρ, st, rh, re, ok.bind fun l st1 xs φ1 H1 g1 h1 r1 ok1 => by
    obtain ⟨m, h3, h4, ok2⟩ := ok_pures r1 ok1
    obtain ⟨c, ok3⟩ := ok_guard ok2
    exact ⟨by rw [sizeLine_eq, h3.length]; exact c, fun p hp => Ok.lst ok3 h1 h3 hp⟩⟩
theorem je_lstM (h : JA X g W es margs) : JE X g W (.List es pos) (eLstM margs) :=
  ofE (pe_lst h) fun _ _ σ H Q _ ⟨φ, ρ, st, rh, re, ok⟩ => ⟨φ, ρ, st, rh, re, ok.bind fun l st1 xs φ1 H1 g1 h1 r1 ok1 => by
    obtain ⟨m, h3, h4, ok2⟩ := ok_pures r1 ok1
    obtain ⟨c, ok3⟩ := ok_guard ok2
    exact ⟨by rw [sizeLine_eq, h3.length]; exact c, fun p hp => Ok.alloc ok3 h1 h3 hp⟩⟩
end
end Vs
/-! Layer, part 3: statements, targets, loops, comprehensions. -/
namespace Vs
open PySem L2
/-! ### mirrors of statements -/
def OutS.then (o : OutS) (f : SM) : OutS := match o with
  | .nx ρ s => f ρ s
  | o => o
def sNil : SM := fun ρ st => .nx ρ st
def sSeq (a b : SM) : SM := fun ρ st => (a ρ st).then b
def Out.toS {α : Type} (o : Out α) (f : α → PSt → OutS) : OutS := match o with
  | .ok a s => f a s
  | .err c v s => .err c v s
  | .stuck => .stuck
def sExpr (e : EM) : SM := fun ρ st => (e ρ st).toS fun _ s => .nx ρ s
def sRet (e : EM) : SM := fun ρ st => (e ρ st).toS fun r s => .ret r s
def sRetN : SM := fun _ st => .ret (.p .non) st
def sIf (t : TM) (a b : SM) : SM := fun ρ st => (t ρ st).toS fun k s => if k then a ρ s else b ρ s
def sBrk : SM := fun ρ st => .brk ρ st
def sCont : SM := fun ρ st => .ct ρ st
def sNo : SM := fun _ _ => .stuck
abbrev GM := PR → Ev → PM Ev
abbrev GsM := List PV → Ev → PM Ev
def sAsg (e : EM) (g : GM) : SM := fun ρ st => (e ρ st).toS fun r s => (g r ρ s).toS fun ρ' s' => .nx ρ' s'
def gNm (i : Nat) : GM := fun r ρ => pure (ρ.set i (some r))
def gsNil : GsM := fun l ρ => if l.isEmpty then pure ρ else PM.stuck
def gsCons (g : GM) (gs : GsM) : GsM := fun l ρ => match l with
  | v :: l => g (.p v) ρ >>= fun ρ' => gs l ρ'
  | [] => PM.stuck
def gTp (n : Nat) (gs : GsM) : GM := fun r ρ => match r with
  | .p (.tup l) => if l.length = n then gs l ρ else PM.stuck
  | _ => PM.stuck
def sPar (i j : Nat) (a : Ev → PM (List PR)) : SM := fun ρ st => (a ρ st).toS fun l s => match l with
  | [x, y] => .nx ((ρ.set i (some x)).set j (some y)) s
  | _ => .stuck
def sPar3 (i j k : Nat) (a : Ev → PM (List PR)) : SM := fun ρ st => (a ρ st).toS fun l s => match l with
  | [x, y, z] => .nx (((ρ.set i (some x)).set j (some y)).set k (some z)) s
  | _ => .stuck
/-- o[i] = value -/
def gSubM (f : PR → PR → PR → PM Unit) (o i : EM) : GM := fun r ρ => o ρ >>= fun x => i ρ >>= fun y => f x y r >>= fun _ => pure ρ

/-! ### walks -/
inductive Stp where
  | stuck | stop | item (v : PV)
structure Wk where
  n : Nat
  at_ : Nat → PSt → Stp
abbrev IM := Ev → PM Wk
def forM (at_ : Nat → PSt → Stp) (g : GM) (body : SM) : Nat → Nat → SM
  | 0, k => fun ρ st => match at_ k st with
    | .stop => .nx ρ st
    | _ => .stuck
  | m + 1, k => fun ρ st => match at_ k st with
    | .stop => .nx ρ st
    | .stuck => .stuck
    | .item v => (g (.p v) ρ st).toS fun ρ1 s1 => match body ρ1 s1 with
      | .nx ρ2 s2 => forM at_ g body m (k + 1) ρ2 s2
      | .ct ρ2 s2 => forM at_ g body m (k + 1) ρ2 s2
      | .brk ρ2 s2 => .nx ρ2 s2
      | o => o
def sFor (it : IM) (g : GM) (body : SM) : SM := fun ρ st => (it ρ st).toS fun w s => forM w.at_ g body w.n 0 ρ s
def wkL (l : List PV) : Wk := ⟨l.length, fun k _ => match l[k]? with
  | some v => .item v
  | none => .stop⟩
def WkR (g : Gx) (φ : Ph) (st : PSt) (H : Hp) (w : Wk) (J : It) : Prop := ∀ (k : Nat) (φ' : Ph) (st' : PSt) (H' : Hp), Kp (live φ st) H (live φ' st') H' → PreL φ.ls φ'.ls → RH g φ' H' st' → match w.at_ k st' with
  | .stuck => True
  | .stop => J.stop k H'
  | .item v => J.go k H' ∧ ∀ x H'', J.yld k H' x H'' → (∀ a u, H' a = some u → H'' a = some u) ∧ RV g (live φ' st') H'' v x
/-- all that stood stays -/
theorem RH.ext {g : Gx} {φ : Ph} {st : PSt} {H H' : Hp} (h : RH g φ H st) (k : ∀ a u, H a = some u → H' a = some u) : RH g φ H' st ∧ Go φ st H φ st H' := by
  have kp : Kp (live φ st) H (live φ st) H' := .of (fun a o e _ => k a o e) fun a h => .inl h
  have eq : ∀ a ∈ live φ st, H' a = H a := fun a ha => by
    obtain ⟨u, e, _⟩ := h.there ha
    rw [e, k a u e]
  have exk : ∀ a ∈ φ.ex, H' a = H a := fun a ha => eq a (List.mem_append_left _ ha)
  refine ⟨⟨h.len, h.nd, fun a ha => by rw [exk a ha]; exact h.exs a ha, fun i p o h1 h2 => ?_, h.tab.ext k⟩, rfl, exk, PreL.refl _, kp⟩
  by_cases hd : o.isDead = true
  · cases o <;> first | exact True.intro | cases hd
  · have hd : o.isDead = false := by simpa using hd
    exact (h.ob i p o h1 h2).kp kp fun a ha => eq a (live_mem.mpr (.inr ⟨i, p, o, h1, h2, hd, ha⟩))
def rdI (g : Gx) (W : XK) (m : IM) : TI := fun σ H R => ∃ φ ρ st, RH g φ H st ∧ RE g φ st H ρ σ ∧ Ok g φ st H (fun φ st H w J => WkR g φ st H w J) R W (m ρ st)
def rdG (g : Gx) (W : XK) (m : GM) : TG := fun v σ H Q => ∃ φ ρ st r, RH g φ H st ∧ RE g φ st H ρ σ ∧ RP g φ st H r v ∧ Ok g φ st H (RE g) Q W (m r ρ st)
def rdGs (g : Gx) (W : XK) (m : GsM) : TGs := fun vs σ H Q => ∃ φ ρ st l, RH g φ H st ∧ RE g φ st H ρ σ ∧ RVs g (live φ st) H l vs ∧ Ok g φ st H (RE g) Q W (m l ρ st)

section
variable {X : Cx} {g : Gx} {W : XK} {a b c e : Expr} {es : List Expr} {ma mb mc : EM} {ta tb : TM} {pos : Pos} {s s1 s2 : Stmt} {p q : List Stmt} {ms ms1 ms2 : SM} {margs : Ev → PM (List PR)} {gm : GM} {gs : GsM}
abbrev JG (X : Cx) (g : Gx) (W : XK) (e : Expr) (m : GM) : Prop := PG X e (rdG g W m)
abbrev JGs (X : Cx) (g : Gx) (W : XK) (e : List Expr) (m : GsM) : Prop := PGs X e (rdGs g W m)
abbrev JI (X : Cx) (g : Gx) (W : XK) (tg e : Expr) (m : IM) : Prop := PI X tg e (rdI g W m)
theorem ofG {t t' : TG} (h : PG X e t) (k : ∀ v σ H Q, t' v σ H Q → t v σ H Q) : PG X e t' :=
  ⟨fun pins s σ H v u Q I r q => h.run pins s σ H v u Q I r (k v σ H Q q)⟩
theorem ofGs {t t' : TGs} (h : PGs X es t) (k : ∀ v σ H Q, t' v σ H Q → t v σ H Q) : PGs X es t' :=
  ⟨fun pins s σ H v u Q I r q => h.run pins s σ H v u Q I r (k v σ H Q q)⟩
theorem ofI {tg : Expr} {t t' : TI} (h : PI X tg e t) (k : ∀ σ H Q, t' σ H Q → t σ H Q) : PI X tg e t' :=
  ⟨fun pins s σ H R I q => h.run pins s σ H R I (k σ H R q)⟩
/-- an outcome of an expression within a statement -/
theorem OkS.bind {α β : Type} {R : Ph → PSt → Hp → α → β → Prop} {φ : Ph} {st : PSt} {H : Hp} {D : Ends} {o : Out α} {f : α → PSt → OutS} {Q : β → Hp → Prop} (h : OkS g φ st H D W (o.toS f))
    (k : ∀ a st1 x φ1 H1, Go φ st H φ1 st1 H1 → RH g φ1 H1 st1 → R φ1 st1 H1 a x → OkS g φ1 st1 H1 D W (f a st1) → Q x H1) : Ok g φ st H R Q W o := by
  cases o with
  | ok r s => exact fun x φ2 H2 k2 rh rp => k r s x φ2 H2 k2 rh rp (OkS.go h k2)
  | err c v s => exact h
  | stuck => exact h
theorem js_seq (h1 : JS X g W s ms) (h2 : JB X g W q ms2) : JB X g W (s :: q) (sSeq ms ms2) :=
  ofB (pss_cons h1 h2) fun D σ H ⟨φ, ρ, st, rh, re, ok⟩ => ⟨φ, ρ, st, rh, re, by
    have ok : OkS g φ st H D W ((ms ρ st).then ms2) := ok
    cases e : ms ρ st with
    | nx ρ1 s1 =>
      rw [e] at ok
      exact fun σ1 φ1 H1 g1 h1 r1 => ⟨φ1, ρ1, s1, h1, r1, OkS.go ok g1⟩
    | _ => rw [e] at ok; exact ok⟩
theorem js_nil : JB X g W [] sNil := ofB pss_nil fun D σ H ⟨φ, ρ, st, rh, re, ok⟩ => ok σ φ H Go.refl rh re
theorem js_one (h : JS X g W s ms) : JB X g W [s] ms := pss_one h
theorem js_pass : JS X g W (.Pass pos) sNil := ofS ps_pass fun D σ H ⟨φ, ρ, st, rh, re, ok⟩ => ok σ φ H Go.refl rh re
theorem js_cont : JS X g W (.Continue pos) sCont := ofS ps_continue fun D σ H ⟨φ, ρ, st, rh, re, ok⟩ => ok σ φ H Go.refl rh re
theorem js_brk : JS X g W (.Break pos) sBrk := ofS ps_break fun D σ H ⟨φ, ρ, st, rh, re, ok⟩ => ok σ φ H Go.refl rh re
theorem js_no : JS X g W s sNo := ⟨fun _ _ _ _ _ _ ⟨_, _, _, _, _, h⟩ => h.elim⟩
theorem js_expr (h : JE X g W e ma) (hs : swapsWith e none pos.line X.env = pure false := by rfl) : JS X g W (.Expr e pos) (sExpr ma) :=
  ofS (ps_expr h hs) fun D σ H ⟨φ, ρ, st, rh, re, ok⟩ => ⟨φ, ρ, st, rh, re, OkS.bind ok fun r st1 x φ1 H1 g1 h1 r1 ok1 => ok1 σ φ1 H1 Go.refl h1 (re.go g1)⟩
theorem js_ret (h : JE X g W e ma) : JS X g W (.Return (some e) pos) (sRet ma) :=
  ofS (ps_ret h) fun D σ H ⟨φ, ρ, st, rh, re, ok⟩ => ⟨φ, ρ, st, rh, re, OkS.bind ok fun r st1 x φ1 H1 g1 h1 r1 ok1 => ok1 x φ1 H1 Go.refl h1 r1⟩
theorem js_retN : JS X g W (.Return none pos) sRetN := ofS ps_retN fun D σ H ⟨φ, ρ, st, rh, re, ok⟩ => ok .non φ H Go.refl rh (rp_non.mpr rfl)
theorem js_if (hc : JT X g W c ta) (h1 : JB X g W p ms1) (h2 : JB X g W q ms2) : JS X g W (.If c p q pos) (sIf ta ms1 ms2) :=
  ofS (ps_if hc h1 h2) fun D σ H ⟨φ, ρ, st, rh, re, ok⟩ => ⟨φ, ρ, st, rh, re, OkS.bind ok fun k st1 k' φ1 H1 g1 h1 r1 ok1 => by
    subst r1
    cases k with
    | true => rw [if_pos rfl]; exact ⟨φ1, ρ, st1, h1, re.go g1, ok1⟩
    | false => rw [if_neg Bool.false_ne_true]; exact ⟨φ1, ρ, st1, h1, re.go g1, ok1⟩⟩
/-! targets -/
theorem jg_nm {i : Nat} {x : Str} (hN : X.N.Nodup) (hi : X.N[i]? = some x) (hx : Loc X.env.scope x) (hf : X.fn x = true ∨ X.env.scope.names.lookup x = some .local := by first | exact .inl rfl | exact .inr rfl | assumption) : JG X g W (.Name x pos) (gNm i) :=
  ofG (pg_name hN hi hx hf) fun v σ H Q ⟨φ, ρ, st, r, rh, re, rp, ok⟩ => (show Ok g φ st H (RE g) Q W (.ok (ρ.set i (some r)) st) from ok).ret rh (re.set i rp)
theorem jgs_nil : JGs X g W [] gsNil := ofGs pgs_nil fun v σ H Q ⟨φ, ρ, st, l, rh, re, rv, ok⟩ => by
  cases l with
  | nil => simp only [RVs] at rv; exact ⟨rv, (show Ok g φ st H (RE g) Q W (.ok ρ st) from ok).ret rh re⟩
  | cons v l => exact ok.elim
theorem jgs_cons (h1 : JG X g W e gm) (h2 : JGs X g W es gs) (hs : (assignEach (e :: es) X.env).map (·.2) = assign e X.env :: (assignEach es X.env).map (·.2) := by rfl) : JGs X g W (e :: es) (gsCons gm gs) :=
  ofGs (pgs_cons h1 h2 hs) fun vs σ H Q ⟨φ, ρ, st, l, rh, re, rv, ok⟩ => by
    cases l with
    | nil => exact ok.elim
    | cons v l =>
      simp only [RVs] at rv
      obtain ⟨x, r, e, rv1, rv2⟩ := rv
      exact ⟨x, r, e, φ, ρ, st, .p v, rh, re, rv1, (show Ok g φ st H (RE g) Q W ((gm (.p v) ρ >>= fun ρ' => gs l ρ') st) from ok).bind fun ρ1 st1 σ1 φ1 H1 g1 h1 r1 ok1 => ⟨φ1, ρ1, st1, l, h1, r1, rv2.kp g1.kp, ok1⟩⟩
theorem jg_tup {k n : Nat} (hK : X.K = g.K) (hc : X.calm = true) (h : JGs X g W es gs) (hn : (assignEach es X.env).length = n := by rfl) (hst : (assignEach es X.env).findIdx? (·.1) = none := by rfl) : JG X g W (.Tuple es k pos) (gTp n gs) :=
  ofG (pg_tup hc h hn hst) fun v σ H Q ⟨φ, ρ, st, r, rh, re, rp, ok⟩ => by
    cases r with
    | r i j => exact ok.elim
    | p u =>
      cases u with
      | tup l =>
        obtain ⟨a, xs, rfl, t, rv⟩ := rp_tup.mp rp
        have ok : Ok g φ st H (RE g) Q W ((if l.length = n then gs l ρ else PM.stuck) st) := ok
        by_cases hl : l.length = n
        · rw [if_pos hl] at ok
          exact ⟨a, xs, rfl, by rw [hK]; exact t.sq, by rw [rv.length]; exact hl, φ, ρ, st, l, rh, re, rv, ok⟩
        · rw [if_neg hl] at ok
          exact ok.elim
      | _ => exact ok.elim
theorem js_set {i : Nat} {x : Str} {pos' : Pos} (hN : X.N.Nodup) (hi : X.N[i]? = some x) (hx : Loc X.env.scope x) (he : JE X g W e ma) (hs : swapsWith e (some (.Name x pos')) pos.line X.env = pure false := by rfl) (hf : X.fn x = true ∨ X.env.scope.names.lookup x = some .local := by first | exact .inl rfl | exact .inr rfl | assumption) :
    JS X g W (.Assign [.Name x pos'] e pos) (sAsg ma (gNm i)) :=
  ofS (ps_set hN hi hx he hs hf) fun D σ H ⟨φ, ρ, st, rh, re, ok⟩ => ⟨φ, ρ, st, rh, re, OkS.bind ok fun r st1 x φ1 H1 g1 h1 r1 ok1 => ok1 _ φ1 H1 Go.refl h1 ((re.go g1).set i r1)⟩
theorem js_asg {tg : Expr} (he : JE X g W e ma) (hg : JG X g W tg gm) (hs : swapsWithSole [tg] e pos.line X.env = pure false := by rfl) (hw : swappedStores [tg] e X.env = pure none := by rfl)
    (h1 : (assignEach [tg] X.env).map (·.2) = [assign tg X.env] := by rfl) : JS X g W (.Assign [tg] e pos) (sAsg ma gm) :=
  ofS (ps_asg he hg hs hw h1) fun D σ H ⟨φ, ρ, st, rh, re, ok⟩ => ⟨φ, ρ, st, rh, re, OkS.bind ok fun r st1 x φ1 H1 g1 h1 r1 ok1 => ⟨φ1, ρ, st1, r, h1, re.go g1, r1,
    OkS.bind ok1 fun ρ2 st2 σ2 φ2 H2 g2 h2 r2 ok2 => ok2 σ2 φ2 H2 Go.refl h2 r2⟩⟩
theorem js_par {i j : Nat} {x y : Str} {px py pt : Pos} {kt k2 pt2} (hc : X.calm = true) (hN : X.N.Nodup) (hi : X.N[i]? = some x) (hj : X.N[j]? = some y) (hij : i ≠ j)
    (hx : X.env.scope.names.lookup x = some .local) (hy : X.env.scope.names.lookup y = some .local) (ha : JA X g W [a, b] margs)
    (hw : swappedStores [.Tuple [.Name x px, .Name y py] kt pt] (.Tuple [a, b] k2 pt2) X.env = pure (some [x, y]) := by rfl)
    (hs : swapsWithSole [.Tuple [.Name x px, .Name y py] kt pt] (.Tuple [a, b] k2 pt2) pos.line X.env = pure false := by rfl) :
    JS X g W (.Assign [.Tuple [.Name x px, .Name y py] kt pt] (.Tuple [a, b] k2 pt2) pos) (sPar i j margs) :=
  ofS (ps_par hc hN hi hj hij hx hy ha hw hs) fun D σ H ⟨φ, ρ, st, rh, re, ok⟩ => ⟨φ, ρ, st, rh, re, OkS.bind ok fun l st1 vs φ1 H1 g1 h1 r1 ok1 => by
    cases l with
    | nil => exact ok1.elim
    | cons u l => cases l with
      | nil => exact ok1.elim
      | cons v l => cases l with
        | cons _ _ => exact ok1.elim
        | nil =>
          obtain ⟨x1, t, rfl, q1, x2, t2, rfl, q2, q3⟩ := r1
          have q3 : _ = _ := q3
          subst q3
          exact ⟨x1, x2, rfl, ok1 _ φ1 H1 Go.refl h1 (((re.go g1).set i q1).set j q2)⟩⟩
theorem js_par3 {i j l : Nat} {x y z : Str} {px py pz pt : Pos} {kt k2 pt2} (hc : X.calm = true) (hN : X.N.Nodup) (hi : X.N[i]? = some x) (hj : X.N[j]? = some y) (hl : X.N[l]? = some z) (hij : i ≠ j) (hil : i ≠ l) (hjl : j ≠ l)
    (hx : X.env.scope.names.lookup x = some .local) (hy : X.env.scope.names.lookup y = some .local) (hz : X.env.scope.names.lookup z = some .local) (ha : JA X g W [a, b, c] margs)
    (hw : swappedStores [.Tuple [.Name x px, .Name y py, .Name z pz] kt pt] (.Tuple [a, b, c] k2 pt2) X.env = pure (some [x, y, z]) := by rfl)
    (hs : swapsWithSole [.Tuple [.Name x px, .Name y py, .Name z pz] kt pt] (.Tuple [a, b, c] k2 pt2) pos.line X.env = pure false := by rfl) :
    JS X g W (.Assign [.Tuple [.Name x px, .Name y py, .Name z pz] kt pt] (.Tuple [a, b, c] k2 pt2) pos) (sPar3 i j l margs) :=
  ofS (ps_par3 hc hN hi hj hl hij hil hjl hx hy hz ha hw hs) fun D σ H ⟨φ, ρ, st, rh, re, ok⟩ => ⟨φ, ρ, st, rh, re, OkS.bind ok fun m st1 vs φ1 H1 g1 h1 r1 ok1 => by
    cases m with
    | nil => exact ok1.elim
    | cons u m => cases m with
      | nil => exact ok1.elim
      | cons v m => cases m with
        | nil => exact ok1.elim
        | cons w m => cases m with
          | cons _ _ => exact ok1.elim
          | nil =>
            obtain ⟨x1, t, rfl, q1, x2, t2, rfl, q2, x3, t3, rfl, q3, q4⟩ := r1
            have q4 : _ = _ := q4
            subst q4
            exact ⟨x1, x2, x3, rfl, ok1 _ φ1 H1 Go.refl h1 ((((re.go g1).set i q1).set j q2).set l q3)⟩⟩
/-- storing into a list, a dict -/
def SetJ (X : Cx) (g : Gx) (W : XK) (f : PR → PR → PR → PM Unit) : Prop :=
  PSet X fun o i v H Q => ∃ φ st x y r, RH g φ H st ∧ RP g φ st H x o ∧ RP g φ st H y i ∧ RP g φ st H r v ∧ Ok g φ st H (fun _ _ _ (_ : Unit) (_ : Unit) => True) (fun _ H' => Q H') W (f x y r st)
theorem jg_sub {o i : Expr} {mo mi : EM} {f : PR → PR → PR → PM Unit} (ho : JE X g W o mo) (hi : JE X g W i mi) (hs : SetJ X g W f)
    (ha : ∀ v, assign (.Subscript o i pos) X.env v = (do
      let ov ← holding [v] (eval o X.env)
      let iv ← holding [v, ov] (eval i X.env)
      standAt pos
      holding [v, ov, iv] (setItem ov iv v)
      release [v, ov, iv] []) := by intro _; rfl) : JG X g W (.Subscript o i pos) (gSubM f mo mi) :=
  ofG (pg_sub ho hi hs ha) fun v σ H Q ⟨φ, ρ, st, r, rh, re, rp, ok⟩ => ⟨φ, ρ, st, rh, re, ok.bind fun x st1 xv φ1 H1 g1 h1 r1 ok1 => ⟨φ1, ρ, st1, h1, re.go g1, ok1.bind fun y st2 yv φ2 H2 g2 h2 r2 ok2 =>
    ⟨φ2, st2, x, y, r, h2, r1.go g2, r2, rp.go (g1.trans g2), ok2.bind fun _ st3 _ φ3 H3 g3 h3 _ ok3 => (show Ok g φ3 st3 H3 (RE g) Q W (.ok ρ st3) from ok3).ret h3 (re.go ((g1.trans g2).trans g3))⟩⟩⟩
/-! loops -/
theorem forM_ok {n : Nat} {at_ : Nat → PSt → Stp} {J : It} {φ0 : Ph} {st0 : PSt} {H0 : Hp} (wk : WkR g φ0 st0 H0 ⟨n, at_⟩ J) (gm : GM) (ms : SM) (D : Ends) :
    ∃ Wv : Nat → Nat → St → Hp → Prop, (∀ m k ρ st φ σ H, Go φ0 st0 H0 φ st H → RH g φ H st → RE g φ st H ρ σ → OkS g φ st H D W (forM at_ gm ms m k ρ st) → Wv k m σ H) ∧ ∀ i m σ H, Wv i m σ H →
      (J.stop i H ∧ D.nx σ H) ∨ (J.go i H ∧ ∃ N : St → Hp → Prop, (∀ σ' H', N σ' H' → ∃ m', m' < m ∧ Wv (i + 1) m' σ' H') ∧ ∀ x H', J.yld i H x H' → rdG g W gm x σ H' fun σ2 H2 => rdS g W ms { D with nx := N, ct := N, bk := D.nx } σ2 H2) := by
  refine ⟨fun k m σ H => ∃ ρ st φ, Go φ0 st0 H0 φ st H ∧ RH g φ H st ∧ RE g φ st H ρ σ ∧ OkS g φ st H D W (forM at_ gm ms m k ρ st), fun m k ρ st φ σ H a b c d => ⟨ρ, st, φ, a, b, c, d⟩, ?_⟩
  rintro k m σ H ⟨ρ, st, φ, go, rh, re, ok⟩
  have hw := wk k φ st H go.kp go.pre rh
  have stp : at_ k st = .stop → OkS g φ st H D W (.nx ρ st) := fun e => by
    cases m with
    | zero => unfold forM at ok; rw [e] at ok; exact ok
    | succ m => unfold forM at ok; rw [e] at ok; exact ok
  cases e : at_ k st with
  | stop =>
    have hw : J.stop k H := by
      have e' : (Wk.at_ ⟨n, at_⟩ k st) = .stop := e
      rw [e'] at hw; exact hw
    exact .inl ⟨hw, stp e σ φ H Go.refl rh re⟩
  | stuck =>
    cases m with
    | zero => unfold forM at ok; rw [e] at ok; exact ok.elim
    | succ m => unfold forM at ok; rw [e] at ok; exact ok.elim
  | item v =>
    cases m with
    | zero => unfold forM at ok; rw [e] at ok; exact ok.elim
    | succ m =>
      unfold forM at ok
      rw [e] at ok
      have hw : J.go k H ∧ ∀ x H'', J.yld k H x H'' → (∀ a u, H a = some u → H'' a = some u) ∧ RV g (live φ st) H'' v x := by
        have e' : (Wk.at_ ⟨n, at_⟩ k st) = .item v := e
        rw [e'] at hw; exact hw
      refine .inr ⟨hw.1, fun σ' H' => ∃ ρ' st' φ', Go φ0 st0 H0 φ' st' H' ∧ RH g φ' H' st' ∧ RE g φ' st' H' ρ' σ' ∧ OkS g φ' st' H' D W (forM at_ gm ms m (k + 1) ρ' st'), fun σ' H' h => ⟨m, Nat.lt_succ_self m, h⟩, fun x H' hy => ?_⟩
      obtain ⟨ex2, rv⟩ := hw.2 x H' hy
      obtain ⟨rh2, go2⟩ := rh.ext ex2
      refine ⟨φ, ρ, st, .p v, rh2, re.go go2, rv, OkS.bind (OkS.go ok go2) fun ρ1 st1 σ1 φ1 H1 g1 h1 r1 ok1 => ⟨φ1, ρ1, st1, h1, r1, ?_⟩⟩
      have goT := (go.trans go2).trans g1
      cases e2 : ms ρ1 st1 with
      | nx ρ2 s2 =>
        rw [e2] at ok1
        exact fun σ2 φ2 H2 g2 h2 r2 => ⟨ρ2, s2, φ2, goT.trans g2, h2, r2, OkS.go ok1 g2⟩
      | ct ρ2 s2 =>
        rw [e2] at ok1
        exact fun σ2 φ2 H2 g2 h2 r2 => ⟨ρ2, s2, φ2, goT.trans g2, h2, r2, OkS.go ok1 g2⟩
      | brk ρ2 s2 =>
        rw [e2] at ok1
        exact fun σ2 φ2 H2 g2 h2 r2 => (OkS.go ok1 g2) σ2 φ2 H2 Go.refl h2 r2
      | ret r s2 => rw [e2] at ok1; exact ok1
      | err c v s2 => rw [e2] at ok1; exact ok1
      | stuck => rw [e2] at ok1; exact ok1
theorem js_for {tg iter : Expr} {im : IM} (hp : PassesOwn (model X.prog X.w) X.A X.env X.xe) (hc : X.calm = true) (hi : JI X g W tg iter im) (hg : JG X g W tg gm) (hb : JB X g W p ms)
    (hs : ∀ x, foldedSetIterable iter X.env x = pure x := by intro _; rfl) : JS X g W (.For tg iter p [] pos) (sFor im gm ms) :=
  ofS (ps_for hp hc hi hg hb hs) fun D σ H ⟨φ, ρ, st, rh, re, ok⟩ => ⟨φ, ρ, st, rh, re, OkS.bind ok fun w st1 J φ1 H1 g1 h1 r1 ok1 => by
    obtain ⟨Wv, h0, hstep⟩ := forM_ok (n := w.n) (at_ := w.at_) r1 gm ms D
    exact ⟨Wv, ⟨w.n, h0 w.n 0 ρ st1 φ1 σ H1 Go.refl h1 (re.go g1) ok1⟩, hstep⟩⟩
end
end Vs
/-! Layer, part 3b: comprehensions; walks over lists, tuples, ranges. -/
namespace Vs
open PySem L2
def wipeE (ρ : Ev) : List Nat → Ev
  | [] => ρ
  | v :: vs => (wipeE ρ vs).set v none
abbrev CG := PV → Ev → Option Ev
def cgNm (i : Nat) : CG := fun v ρ => some (ρ.set i (some (.p v)))
def setAll : List Nat → List PV → Ev → Option Ev
  | [], [], ρ => some ρ
  | i :: is, v :: vs, ρ => setAll is vs (ρ.set i (some (.p v)))
  | _, _, _ => none
def cgTup (is : List Nat) : CG := fun v ρ => match v with
  | .tup l => setAll is l ρ
  | _ => none
def tYesM : TM := fun _ => pure true
def lcM (at_ : Nat → PSt → Stp) (cg : CG) (ρ : Ev) (t : TM) (e : EM) : Nat → Nat → List PV → PM (List PV)
  | 0, k, acc => fun st => match at_ k st with
    | .stop => .ok acc st
    | _ => .stuck
  | m + 1, k, acc => fun st => match at_ k st with
    | .stop => .ok acc st
    | .stuck => .stuck
    | .item v => match cg v ρ with
      | none => .stuck
      | some ρ1 => match t ρ1 st with
        | .ok true s2 => match e ρ1 s2 with
          | .ok (.p y) s3 => if acc.length < lim then lcM at_ cg ρ t e m (k + 1) (acc ++ [y]) s3 else .stuck
          | _ => .stuck
        | .ok false s2 => lcM at_ cg ρ t e m (k + 1) acc s2
        | _ => .stuck
def eLc (im : IM) (cg : CG) (vs : List Nat) (t : TM) (e : EM) : EM := fun ρ => im ρ >>= fun w => lcM w.at_ cg (wipeE ρ vs) t e w.n 0 [] >>= fun acc => pure (.p (.lst acc))

theorem wipe_set {i : Nat} {y : Option V} : ∀ {vs : List Nat} {σ : St}, i ∈ vs → wipe (σ.set i y) vs = wipe σ vs
  | [], _, h => by simp at h
  | v :: vs, σ, h => by
    show (wipe (σ.set i y) vs).set v none = (wipe σ vs).set v none
    by_cases hv : i ∈ vs
    · rw [wipe_set hv]
    · have e : i = v := by
        rcases List.mem_cons.mp h with h | h
        · exact h
        · exact absurd h hv
      subst e
      have key : ∀ (us : List Nat) (σ : St), i ∉ us → wipe (σ.set i y) us = (wipe σ us).set i y := by
        intro us
        induction us with
        | nil => intro σ _; rfl
        | cons u us ih =>
          intro σ hu
          show (wipe (σ.set i y) us).set u none = ((wipe σ us).set u none).set i y
          rw [ih σ (fun z => hu (List.mem_cons_of_mem _ z))]
          exact List.set_comm _ _ (fun z => hu (by rw [z]; exact List.mem_cons_self ..))
      rw [key vs σ hv, List.set_set]
theorem wipe_wipe : ∀ (vs : List Nat) (σ : St), wipe (wipe σ vs) vs = wipe σ vs := by
  have key : ∀ (vs us : List Nat) (σ : St), (∀ v ∈ vs, v ∈ us) → wipe (wipe σ vs) us = wipe σ us := by
    intro vs
    induction vs with
    | nil => intro us σ _; rfl
    | cons v vs ih =>
      intro us σ h
      show wipe ((wipe σ vs).set v none) us = _
      rw [wipe_set (h v (List.mem_cons_self ..))]
      exact ih us σ fun u hu => h u (List.mem_cons_of_mem _ hu)
  exact fun vs σ => key vs vs σ fun v h => h
section
variable {g : Gx} {φ φ' : Ph} {st st' : PSt} {H H' : Hp}
theorem RP.kp (k : Kp (live φ st) H (live φ' st') H') (hp : PreL φ.ls φ'.ls) : ∀ {r : PR} {x : V}, RP g φ st H r x → RP g φ' st' H' r x
  | .p v, _, h => RV.kp k h
  | .r i 0, _, ⟨p, e, q⟩ => let ⟨r, a, b⟩ := pre_get hp e; ⟨r, a, by rw [b]; exact q⟩
  | .r i (j + 1), _, ⟨p, b, e, e2, q⟩ => let ⟨r, a, c⟩ := pre_part hp e e2; ⟨r, b, a, c, q⟩
theorem RE.kp {ρ : Ev} {σ : St} (e : RE g φ st H ρ σ) (k : Kp (live φ st) H (live φ' st') H') (hp : PreL φ.ls φ'.ls) : RE g φ' st' H' ρ σ :=
  ⟨e.len, fun i r h => let ⟨x, a, b⟩ := e.at_ i r h; ⟨x, a, b.kp k hp⟩⟩
theorem RE.wipe {ρ : Ev} {σ : St} (e : RE g φ st H ρ σ) : ∀ vs : List Nat, RE g φ st H (wipeE ρ vs) (L2.wipe σ vs)
  | [] => e
  | v :: vs => by
    have ih := RE.wipe e vs
    refine ⟨by show ((wipeE ρ vs).set v none).length = ((L2.wipe σ vs).set v none).length; rw [List.length_set, List.length_set]; exact ih.len, fun i r h => ?_⟩
    have h : ((wipeE ρ vs).set v none)[i]? = some (some r) := h
    by_cases hv : v = i
    · subst hv
      by_cases hl : v < (wipeE ρ vs).length
      · rw [List.getElem?_set_self hl] at h; cases h
      · rw [List.getElem?_eq_none (by simpa using hl)] at h; cases h
    · rw [List.getElem?_set_ne hv] at h
      obtain ⟨x, h1, h2⟩ := ih.at_ i r h
      exact ⟨x, by show ((L2.wipe σ vs).set v none)[i]? = _; rw [List.getElem?_set_ne hv]; exact h1, h2⟩
/-- a list that a comprehension fills -/
structure LcI (g : Gx) (D : Addr) (φ1 : Ph) (st1 : PSt) (H1 : Hp) (φ : Ph) (st : PSt) (H : Hp) (acc : List PV) : Prop where
  ex : φ.ex = D :: φ1.ex
  exk : ∀ a ∈ φ1.ex, H a = H1 a
  pre : PreL φ1.ls φ.ls
  kp : Kp (live φ1 st1) H1 (live φ st) H
  rh : RH g φ H st
  d : ∃ xs, H D = some (.lst xs) ∧ RVs g (live φ st) H acc xs
variable {D : Addr} {φ1 φ2 : Ph} {st1 st2 : PSt} {H1 H2 : Hp} {acc : List PV}
theorem LcI.start (rh : RH g φ1 H1 st1) (hD : H1 D = none) : LcI g D φ1 st1 H1 ⟨D :: φ1.ex, φ1.ls⟩ st1 (upd H1 D (.lst [])) [] := by
  have ne : ∀ {a : Addr}, a ∈ live φ1 st1 → a ≠ D := fun {a} h z => rh.new hD (by rw [← z]; exact h)
  have hl : live ⟨D :: φ1.ex, φ1.ls⟩ st1 = D :: live φ1 st1 := rfl
  have kp : Kp (live φ1 st1) H1 (live ⟨D :: φ1.ex, φ1.ls⟩ st1) (upd H1 D (.lst [])) := .of (fun a o e _ => by rw [upd_ne (ne_of_none e hD)]; exact e) fun a h => by
    rw [hl] at h
    rcases List.mem_cons.mp h with h | h
    · exact .inr (by rw [h]; exact hD)
    · exact .inl h
  refine ⟨rfl, fun a ha => upd_ne (ne (List.mem_append_left _ ha)), PreL.refl _, kp, ⟨rh.len, ?_, fun a ha => ?_, fun i p o h1 h2 => ?_, rh.tab.ext fun b u e => by rw [upd_ne (ne_of_none e hD)]; exact e⟩, [], upd_same, RVs.nil⟩
  · rw [hl]; exact List.nodup_cons.mpr ⟨rh.new hD, rh.nd⟩
  · rcases List.mem_cons.mp ha with h | h
    · subst h; exact ⟨_, upd_same, True.intro⟩
    · rw [upd_ne (ne (List.mem_append_left _ h))]; exact rh.exs a h
  · by_cases hd : o.isDead = true
    · cases o <;> first | exact True.intro | cases hd
    · have hd : o.isDead = false := by simpa using hd
      exact (rh.ob i p o h1 h2).kp kp fun a ha => upd_ne (ne (live_mem.mpr (.inr ⟨i, p, o, h1, h2, hd, ha⟩)))
theorem LcI.go (h : LcI g D φ1 st1 H1 φ st H acc) (k : Go φ st H φ2 st2 H2) (rh : RH g φ2 H2 st2) : LcI g D φ1 st1 H1 φ2 st2 H2 acc := by
  obtain ⟨xs, hd, rv⟩ := h.d
  have hD : D ∈ φ.ex := by rw [h.ex]; exact List.mem_cons_self ..
  exact ⟨k.exe.trans h.ex, fun a ha => (k.exk a (by rw [h.ex]; exact List.mem_cons_of_mem _ ha)).trans (h.exk a ha), h.pre.trans k.pre, h.kp.trans k.kp, rh, xs, (k.exk D hD).trans hd, rv.kp k.kp⟩
theorem LcI.put (h : LcI g D φ1 st1 H1 φ st H acc) (rh1 : RH g φ1 H1 st1) (hn : H1 D = none) {xs : List V} (hx : H D = some (.lst xs)) {v : PV} {y : V} (rv : RV g (live φ st) H v y) (rvs : RVs g (live φ st) H acc xs) : LcI g D φ1 st1 H1 φ st (upd H D (.lst (xs ++ [y]))) (acc ++ [v]) := by
  have hD : D ∈ φ.ex := by rw [h.ex]; exact List.mem_cons_self ..
  have mem : D ∈ live φ st := List.mem_append_left _ hD
  have kw := kp_write (H := H) (o := .lst (xs ++ [y])) mem
  have nd := h.rh.nd
  refine ⟨h.ex, fun a ha => ?_, h.pre, h.kp.trans kw, ⟨h.rh.len, nd, fun a ha => ?_, fun i p o h1 h2 => ?_, ?_⟩, _, upd_same, (rvs.kp kw).append (RVs.cons (rv.kp kw) RVs.nil)⟩
  · obtain ⟨u, e, _⟩ := rh1.exs a ha
    rw [upd_ne (ne_of_none e hn)]; exact h.exk a ha
  · by_cases z : a = D
    · subst z; exact ⟨_, upd_same, True.intro⟩
    · rw [upd_ne z]; exact h.rh.exs a ha
  · by_cases hd : o.isDead = true
    · cases o <;> first | exact True.intro | cases hd
    · have hd : o.isDead = false := by simpa using hd
      exact (h.rh.ob i p o h1 h2).kp kw fun a ha => upd_ne fun z => h.rh.exn h1 h2 hd ha (by rw [z]; exact hD)
  · intro q hq
    obtain ⟨ps, t1, t2, t3⟩ := h.rh.tab q hq
    have ne1 : q.1 ≠ D := fun z => by rw [z, hx] at t1; cases t1
    refine ⟨ps, by rw [upd_ne ne1]; exact t1, t2, fun pos cv hc => ?_⟩
    obtain ⟨c, e1, e2⟩ := t3 pos cv hc
    refine ⟨c, e1, ?_⟩
    have ne2 : c ≠ D := fun z => by
      rw [z, hx] at e2
      have e2 := Option.some.inj e2
      unfold LamX.CodeO at e2
      cases e2
    rw [upd_ne ne2]; exact e2
theorem LcI.done (h : LcI g D φ1 st1 H1 φ st H acc) (hn : H1 D = none) : RH g ⟨φ1.ex, φ.ls⟩ H st ∧ Go φ1 st1 H1 ⟨φ1.ex, φ.ls⟩ st H ∧ RP g ⟨φ1.ex, φ.ls⟩ st H (.p (.lst acc)) (.ref D) := by
  have hl : live φ st = D :: live ⟨φ1.ex, φ.ls⟩ st := by unfold live; rw [h.ex]; rfl
  have nd := h.rh.nd
  rw [hl] at nd
  have nD := (List.nodup_cons.mp nd).1
  have kd : Kp (live φ st) H (live ⟨φ1.ex, φ.ls⟩ st) H := .of (fun a o e _ => e) fun a ha => .inl (by rw [hl]; exact List.mem_cons_of_mem _ ha)
  obtain ⟨xs, hx, rv⟩ := h.d
  refine ⟨⟨h.rh.len, (List.nodup_cons.mp nd).2, fun a ha => h.rh.exs a (by rw [h.ex]; exact List.mem_cons_of_mem _ ha), fun i p o h1 h2 => (h.rh.ob i p o h1 h2).kp kd fun _ _ => rfl, h.rh.tab⟩,
    ⟨rfl, h.exk, h.pre, h.kp.trans kd⟩, rp_lst.mpr ⟨D, xs, rfl, .inl ⟨nD, .inl hx⟩, rv.kp kd⟩⟩
end
section
variable {X : Cx} {g : Gx} {W : XK} {elt tg iter e : Expr} {ifs : List Expr} {me : EM} {mt : TM} {pos : Pos} {im : IM} {cg : CG}
/-- no error is expected -/
abbrev Wn : XK := fun _ _ _ => False
abbrev JTs (X : Cx) (g : Gx) (W : XK) (e : List Expr) (m : TM) : Prop := PTs X e (rdT g W m)
theorem jts_nil : JTs X g W [] tYesM := ⟨fun pins s σ H Q I ⟨φ, ρ, st, rh, re, ok⟩ => pts_nil.run pins s σ H Q I ((show Ok g φ st H (fun _ _ _ b c => b = c) Q W (.ok true st) from ok).ret rh rfl)⟩
theorem jts_one (h : JT X g W e mt) : JTs X g W [e] mt := pts_one h
/-- a target of a comprehension: only the slots vs are stored -/
structure JC (X : Cx) (g : Gx) (vs : List Nat) (tg : Expr) (cg : CG) (t : TG) : Prop where
  pg : PG X tg t
  to : ∀ v ρ1 x σ H (φ : Ph) ρ st Q, RE g φ st H ρ σ → RV g (live φ st) H v x → cg v ρ = some ρ1 → (∀ σ1, RE g φ st H ρ1 σ1 → wipe σ1 vs = wipe σ vs → Q σ1 H) → t x σ H Q
theorem jc_nm {i : Nat} {x : Str} {vs : List Nat} (hN : X.N.Nodup) (hi : X.N[i]? = some x) (hx : Loc X.env.scope x) (hv : i ∈ vs) (hf : X.fn x = true ∨ X.env.scope.names.lookup x = some .local := by first | exact .inl rfl | exact .inr rfl | assumption) : JC X g vs (.Name x pos) (cgNm i) (gName i) :=
  ⟨pg_name hN hi hx hf, fun v ρ1 x σ H φ ρ st Q re rv e k => by
    cases (show some (ρ.set i (some (.p v))) = some ρ1 from e)
    exact k _ (re.set i rv) (wipe_set hv)⟩
/-- the names of a tuple target -/
inductive JCs (X : Cx) (vs : List Nat) : List Expr → List Nat → TGs → Prop
  | nil : JCs X vs [] [] gNil
  | cons {is : List Nat} {i : Nat} {x : Str} {p : Pos} {es : List Expr} {t : TGs} (pg : PG X (.Name x p) (gName i)) (hv : i ∈ vs) (hs : (assignEach (.Name x p :: es) X.env).map (·.2) = assign (.Name x p) X.env :: (assignEach es X.env).map (·.2)) (r : JCs X vs es is t) : JCs X vs (.Name x p :: es) (i :: is) (gCons (gName i) t)
theorem JCs.pgs {vs is : List Nat} {es : List Expr} {t : TGs} (h : JCs X vs es is t) : PGs X es t := by
  induction h with
  | nil => exact pgs_nil
  | cons pg hv hs r ih => exact pgs_cons pg ih hs
theorem JCs.to {vs is : List Nat} {es : List Expr} {t : TGs} (h : JCs X vs es is t) : ∀ l ρ1 xs σ H (φ : Ph) ρ st (Q : St → Hp → Prop), RE g φ st H ρ σ → RVs g (live φ st) H l xs → setAll is l ρ = some ρ1 → (∀ σ1, RE g φ st H ρ1 σ1 → wipe σ1 vs = wipe σ vs → Q σ1 H) → t xs σ H Q := by
  induction h with
  | nil =>
    intro l ρ1 xs σ H φ ρ st Q re rv e k
    cases l with
    | cons v l => cases e
    | nil =>
      simp only [RVs] at rv
      cases (show some ρ = some ρ1 from e)
      exact ⟨rv, k σ re rfl⟩
  | @cons is i x p es t pg hv hs r ih =>
    intro l ρ1 xs σ H φ ρ st Q re rv e k
    cases l with
    | nil => cases e
    | cons v l =>
      simp only [RVs] at rv
      obtain ⟨y, r, e1, rv1, rv2⟩ := rv
      exact ⟨y, r, e1, ih l ρ1 r (σ.set i (some y)) H φ _ st Q (re.set i (r := .p v) rv1) rv2 e fun σ1 re1 w => k σ1 re1 (w.trans (wipe_set hv))⟩
theorem jc_tup {k n : Nat} {es : List Expr} {vs is : List Nat} {t : TGs} (hK : X.K = g.K) (hc : X.calm = true) (h : JCs X vs es is t) (hl : is.length = n := by rfl) (hn : (assignEach es X.env).length = n := by rfl) (hst : (assignEach es X.env).findIdx? (·.1) = none := by rfl) : JC X g vs (.Tuple es k pos) (cgTup is) (gTup g.K n t) :=
  ⟨by rw [← hK]; exact pg_tup hc h.pgs hn hst, fun v ρ1 x σ H φ ρ st Q re rv e k => by
    cases v with
    | tup l =>
      have rv : RP g φ st H (.p (.tup l)) x := rv
      obtain ⟨a, xs, rfl, t, rvs⟩ := rp_tup.mp rv
      have e : setAll is l ρ = some ρ1 := e
      have len : ∀ (is : List Nat) (l : List PV) (ρ : Ev), setAll is l ρ = some ρ1 → is.length = l.length := by
        intro is
        induction is with
        | nil => intro l ρ e; cases l with
          | nil => rfl
          | cons _ _ => cases e
        | cons i is ih => intro l ρ e; cases l with
          | nil => cases e
          | cons v l => exact congrArg (· + 1) (ih l _ e)
      exact ⟨a, xs, rfl, t.sq, by rw [rvs.length, ← len is l ρ e]; exact hl, h.to l ρ1 xs σ H φ ρ st Q re rvs e k⟩
    | _ => cases e⟩
theorem lc_ok {tG : TG} {n : Nat} {at_ : Nat → PSt → Stp} {J : It} {φ1 : Ph} {st1 : PSt} {H1 : Hp} {D : Addr} {ρ : Ev} {σ : St} {vs : List Nat} {Q : VK} {W : XK} (hto : ∀ v ρ1 x σ H (φ : Ph) ρ st Q, RE g φ st H ρ σ → RV g (live φ st) H v x → cg v ρ = some ρ1 → (∀ σ1, RE g φ st H ρ1 σ1 → wipe σ1 vs = wipe σ vs → Q σ1 H) → tG x σ H Q)
    (wk : WkR g φ1 st1 H1 ⟨n, at_⟩ J) (rh1 : RH g φ1 H1 st1) (hn : H1 D = none) (re : RE g φ1 st1 H1 ρ σ) (ok : Ok g φ1 st1 H1 (RP g) Q W ((lcM at_ cg (wipeE ρ vs) mt me n 0 [] >>= fun acc => pure (.p (.lst acc))) st1)) :
    ∃ Wv : Nat → Nat → Hp → Prop, (∃ m, Wv 0 m (upd H1 D (.lst []))) ∧ ∀ i m H, Wv i m H →
      (J.stop i H ∧ Q (.ref D) H) ∨ (J.go i H ∧ ∃ Nx : Hp → Prop, (∀ H', Nx H' → ∃ m', m' < m ∧ Wv (i + 1) m' H') ∧ ∀ x H', J.yld i H x H' → tG x (wipe σ vs) H' fun σ2 H2 => wipe σ2 vs = wipe σ vs ∧ rdT g Wn mt σ2 H2 fun b H3 =>
        if b = true then rd g Wn me σ2 H3 fun y H4 => ∃ acc, H4 D = some (.lst acc) ∧ acc.length < sizeLine ∧ Nx (upd H4 D (.lst (acc ++ [y]))) else Nx H3) := by
  refine ⟨fun k m H => ∃ acc st φ, LcI g D φ1 st1 H1 φ st H acc ∧ Ok g φ1 st1 H1 (RP g) Q W ((lcM at_ cg (wipeE ρ vs) mt me m k acc >>= fun acc => pure (.p (.lst acc))) st), ⟨n, [], st1, _, LcI.start rh1 hn, ok⟩, ?_⟩
  rintro k m H ⟨acc, st, φ, inv, ok⟩
  have hw := wk k φ st H inv.kp inv.pre inv.rh
  have ok : Ok g φ1 st1 H1 (RP g) Q W ((lcM at_ cg (wipeE ρ vs) mt me m k acc st).bind fun acc s => .ok (.p (.lst acc)) s) := ok
  cases e : at_ k st with
  | stop =>
    have hw : J.stop k H := by
      have e' : (Wk.at_ ⟨n, at_⟩ k st) = .stop := e
      rw [e'] at hw; exact hw
    have e2 : lcM at_ cg (wipeE ρ vs) mt me m k acc st = .ok acc st := by
      cases m <;> (unfold lcM; rw [e])
    rw [e2] at ok
    obtain ⟨rh2, go2, rp2⟩ := inv.done hn
    exact .inl ⟨hw, ok _ _ _ go2 rh2 rp2⟩
  | stuck =>
    have e2 : lcM at_ cg (wipeE ρ vs) mt me m k acc st = .stuck := by
      cases m <;> (unfold lcM; rw [e])
    rw [e2] at ok
    exact ok.elim
  | item v =>
    cases m with
    | zero =>
      have e2 : lcM at_ cg (wipeE ρ vs) mt me 0 k acc st = .stuck := by unfold lcM; rw [e]
      rw [e2] at ok
      exact ok.elim
    | succ m =>
      unfold lcM at ok
      rw [e] at ok
      dsimp only at ok
      have hw : J.go k H ∧ ∀ x H'', J.yld k H x H'' → (∀ a u, H a = some u → H'' a = some u) ∧ RV g (live φ st) H'' v x := by
        have e' : (Wk.at_ ⟨n, at_⟩ k st) = .item v := e
        rw [e'] at hw; exact hw
      refine .inr ⟨hw.1, fun H' => ∃ acc' st' φ', LcI g D φ1 st1 H1 φ' st' H' acc' ∧ Ok g φ1 st1 H1 (RP g) Q W ((lcM at_ cg (wipeE ρ vs) mt me m (k + 1) acc' >>= fun acc => pure (.p (.lst acc))) st'), fun H' h => ⟨m, Nat.lt_succ_self m, h⟩, fun x H' hy => ?_⟩
      obtain ⟨ex2, rv⟩ := hw.2 x H' hy
      obtain ⟨rh2, go2⟩ := inv.rh.ext ex2
      have inv2 := inv.go go2 rh2
      have re2 : RE g φ st H' (wipeE ρ vs) (wipe σ vs) := (re.wipe vs).kp inv2.kp inv2.pre
      cases ec : cg v (wipeE ρ vs) with
      | none => rw [ec] at ok; exact ok.elim
      | some ρ1 =>
        rw [ec] at ok
        dsimp only at ok
        refine hto v ρ1 x (wipe σ vs) H' φ _ st _ re2 rv ec fun σ1 re3 ew => ⟨by rw [ew, wipe_wipe], φ, ρ1, st, rh2, re3, ?_⟩
        cases et : mt ρ1 st with
        | err c u s => simp only [et] at ok; exact ok.elim
        | stuck => simp only [et] at ok; exact ok.elim
        | ok b s2 =>
          simp only [et] at ok
          intro b' φ3 H3 g3 h3 eb
          subst eb
          have inv3 := inv2.go g3 h3
          cases b with
          | false => rw [if_neg Bool.false_ne_true]; exact ⟨acc, s2, φ3, inv3, ok⟩
          | true =>
            rw [if_pos rfl]
            refine ⟨φ3, ρ1, s2, h3, re3.go g3, ?_⟩
            cases ee : me ρ1 s2 with
            | err c u s => simp only [ee] at ok; exact ok.elim
            | stuck => simp only [ee] at ok; exact ok.elim
            | ok r s3 =>
              simp only [ee] at ok
              cases r with
              | r i j => exact ok.elim
              | p y =>
                simp only at ok
                by_cases hl : acc.length < lim
                · rw [if_pos hl] at ok
                  intro yv φ4 H4 g4 h4 r4
                  have inv4 := inv3.go g4 h4
                  obtain ⟨xs, hx, rx⟩ := inv4.d
                  exact ⟨xs, hx, by rw [sizeLine_eq, rx.length]; exact hl, acc ++ [y], s3, φ4, inv4.put rh1 hn hx r4 rx, ok⟩
                · rw [if_neg hl] at ok
                  exact ok.elim
theorem ofS2 {e : Stmt} {t t' : TS} (h : PS X e t) (k : ∀ (s : Shared) D σ H, t' D σ H → t D σ H) : PS X e t' :=
  ⟨fun pins s σ H D I q => h.run pins s σ H D I (k s D σ H q)⟩
theorem je_lc {scope : Scope} {own : List (Str × Nat)} {tG : TG} (hc : X.calm = true) (hN : X.N.Nodup) (hi : JI X g W tg iter im) (bo : BlkOk X.N X.env.scope scope own)
    (hg : ∀ (s : Shared) (H : Hp) (C : Addr) (cl : List (Str × Addr)) (fp : List Addr), JC (X.blk s H scope (compEnvC scope cl C X.env) fp) g (own.map (·.2)) tg cg tG)
    (ht : ∀ (s : Shared) (H : Hp) (C : Addr) (cl : List (Str × Addr)) (fp : List Addr), JTs (X.blk s H scope (compEnvC scope cl C X.env) fp) g Wn ifs mt)
    (he : ∀ (s : Shared) (H : Hp) (C : Addr) (cl : List (Str × Addr)) (fp : List Addr), JE (X.blk s H scope (compEnvC scope cl C X.env) fp) g Wn elt me) (hs : ∀ x, foldedSetIterable iter X.env x = pure x := by intro _; rfl) :
    JE X g W (.ListComp elt [⟨tg, iter, ifs, 0⟩] scope pos) (eLc im cg (own.map (·.2)) mt me) :=
  ofE (pe_lc hc hN hi bo (fun s H C cl fp => (hg s H C cl fp).pg) ht he hs) fun pins s σ H Q _ ⟨φ, ρ, st, rh, re, ok⟩ => ⟨φ, ρ, st, rh, re, ok.bind fun w st1 J φ1 H1 g1 h1 r1 ok1 D hD =>
    lc_ok (n := w.n) (at_ := w.at_) (hg s H 0 [] []).to r1 h1 hD (re.go g1) ok1⟩
theorem js_setLc {i : Nat} {y : Str} {py spos : Pos} {scope : Scope} {own : List (Str × Nat)} {tG : TG} (hc : X.calm = true) (hN : X.N.Nodup) (hy : X.N[i]? = some y) (hyl : X.env.scope.names.lookup y = some .local)
    (hsw : swapsWith (.ListComp elt [⟨tg, iter, ifs, 0⟩] scope pos) (some (.Name y py)) spos.line X.env = pure true) (hi : JI X g W tg iter im) (bo : BlkOk X.N X.env.scope scope own)
    (hg : ∀ (s : Shared) (H : Hp) (C : Addr) (cl : List (Str × Addr)) (fp : List Addr), JC (X.blk s H scope (compEnvC scope cl C X.env) fp) g (own.map (·.2)) tg cg tG)
    (ht : ∀ (s : Shared) (H : Hp) (C : Addr) (cl : List (Str × Addr)) (fp : List Addr), JTs (X.blk s H scope (compEnvC scope cl C X.env) fp) g Wn ifs mt)
    (he : ∀ (s : Shared) (H : Hp) (C : Addr) (cl : List (Str × Addr)) (fp : List Addr), JE (X.blk s H scope (compEnvC scope cl C X.env) fp) g Wn elt me) (hs : ∀ x, foldedSetIterable iter X.env x = pure x := by intro _; rfl) :
    JS X g W (.Assign [.Name y py] (.ListComp elt [⟨tg, iter, ifs, 0⟩] scope pos) spos) (sAsg (eLc im cg (own.map (·.2)) mt me) (gNm i)) :=
  ofS2 (ps_setLc hc hN hy hyl hsw hi bo (fun s H C cl fp => (hg s H C cl fp).pg) ht he hs) fun s D σ H ⟨φ, ρ, st, rh, re, ok⟩ => ⟨φ, ρ, st, rh, re, by
    have ok : OkS g φ st H D W ((im ρ >>= fun w => lcM w.at_ cg (wipeE ρ (own.map (·.2))) mt me w.n 0 [] >>= fun acc => pure (.p (.lst acc))) st |>.toS fun r s => .nx (ρ.set i (some r)) s) := ok
    have ok2 : Ok g φ st H (RP g) (fun x H1 => D.nx (σ.set i (some x)) H1) W ((im ρ >>= fun w => lcM w.at_ cg (wipeE ρ (own.map (·.2))) mt me w.n 0 [] >>= fun acc => pure (.p (.lst acc))) st) :=
      OkS.bind ok fun r st1 x φ1 H1 g1 h1 r1 ok1 => ok1 _ φ1 H1 Go.refl h1 ((re.go g1).set i r1)
    exact ok2.bind fun w st1 J φ1 H1 g1 h1 r1 ok1 Dn hD => lc_ok (n := w.n) (at_ := w.at_) (Q := fun x H1 => D.nx (σ.set i (some x)) H1) (hg s H 0 [] []).to r1 h1 hD (re.go g1) ok1⟩
end
end Vs
/-! Layer, part 4: defs and their promises, calls, objects, errors. -/
namespace Vs
open PySem PyProof.Rows L2
/-! ### a pure value out of an object of the state -/
def fz : PObj → Option PV
  | .lst l => some (.lst l)
  | .dct (.k ks vs) => some (.dK ks vs)
  | .dct (.t ks vs) => some (.dT ks vs)
  | .ins c ns vs none => some (.obj c ns vs)
  | _ => none
def frz : PR → PM PR
  | .p v => pure (.p v)
  | .r i 0 => fun st => match st[i]? with
    | some o => match fz o with
      | some v => .ok (.p v) (st.set i .dead)
      | none => .stuck
    | none => .stuck
  | _ => PM.stuck
def eFrz (e : EM) : EM := fun ρ => e ρ >>= frz
def retM (n : Nat) : PR → PSt → Out PR
  | .p v, s => .ok (.p v) (s.take n)
  | .r i 0, s => if i < n then .ok (.r i 0) (s.take n) else match s[i]? with
    | some o => match fz o with
      | some v => .ok (.p v) (s.take n)
      | none => .stuck
    | none => .stuck
  | _, _ => .stuck
def fin (n : Nat) : OutS → Out PR
  | .nx _ s => .ok (.p .non) (s.take n)
  | .ret r s => retM n r s
  | .err c v s => .err c v (s.take n)
  | _ => .stuck
def defM (np nl : Nat) (body : SM) : FM := fun rs st => if rs.length = np then fin st.length (body (rs.map some ++ List.replicate (nl - rs.length) none) st) else .stuck
section
variable {g : Gx} {φ φ' : Ph} {st st' : PSt} {H H' : Hp}
theorem liv_dead : ∀ {φ : List (Addr × List Addr)} {st : PSt} (i : Nat), (liv φ (st.set i .dead)).Sublist (liv φ st)
  | [], st, _ => by simp [liv]
  | _ :: _, [], _ => by simp
  | p :: φ, o :: st, 0 => by
    show (([] : List Addr) ++ liv φ st).Sublist ((if o.isDead then [] else _) ++ liv φ st)
    exact List.sublist_append_right _ _
  | p :: φ, o :: st, i + 1 => by
    show (_ ++ liv φ (st.set i .dead)).Sublist (_ ++ liv φ st)
    exact List.Sublist.append (List.Sublist.refl _) (liv_dead i)
theorem fz_alive {o : PObj} {v : PV} (h : fz o = some v) : o.isDead = false := by cases o <;> first | rfl | cases h
theorem fz_rv {L : List Addr} {p : Addr × List Addr} {o : PObj} {v : PV} (h : fz o = some v) (ro : RO g L H p o) (n : p.1 ∉ L) : RV g L H v (.ref p.1) := by
  cases o with
  | dead => cases h
  | lst l => cases h; obtain ⟨_, xs, h1, h2⟩ := ro; simp only [RV]; exact ⟨_, xs, rfl, .inl ⟨n, .inl h1⟩, h2⟩
  | dct d =>
    cases d with
    | k ks vs => cases h; obtain ⟨_, xs, h1, h2, h3⟩ := ro; simp only [RV]; exact ⟨_, xs, rfl, n, h1, h2, h3⟩
    | t ks vs => cases h; obtain ⟨_, xs, h1, h2, h3⟩ := ro; simp only [RV]; exact ⟨_, xs, rfl, n, h1, h2, h3⟩
  | ins c ns vs kn =>
    cases kn with
    | none => cases h; obtain ⟨_, dx, xs, h1, h2, h3⟩ := ro; simp only [RV]; exact ⟨_, dx, xs, rfl, n, h1, h2, h3⟩
    | some q => cases h
  | dL ks ls => cases h
/-- an object is let go -/
theorem RH.kill (h : RH g φ H st) {i : Nat} {p : Addr × List Addr} {o : PObj} (h1 : φ.ls[i]? = some p) (h2 : st[i]? = some o) (hd : o.isDead = false) :
    RH g φ H (st.set i .dead) ∧ Go φ st H φ (st.set i .dead) H ∧ ∀ a ∈ adr p, a ∉ live φ (st.set i .dead) := by
  have hs : (live φ (st.set i .dead)).Sublist (live φ st) := List.Sublist.append (List.Sublist.refl _) (liv_dead i)
  have kp : Kp (live φ st) H (live φ (st.set i .dead)) H := .of (fun a u e _ => e) fun a ha => .inl (hs.subset ha)
  have hil : i < st.length := (List.getElem?_eq_some_iff.mp h2).1
  refine ⟨⟨by simp [h.len], h.nd.sublist hs, h.exs, fun j q u k1 k2 => ?_, h.tab⟩, ⟨rfl, fun _ _ => rfl, PreL.refl _, kp⟩, fun a ha hm => ?_⟩
  · by_cases hj : i = j
    · subst hj
      rw [List.getElem?_set_self hil] at k2
      cases k2
      exact True.intro
    · rw [List.getElem?_set_ne hj] at k2
      exact (h.ob j q u k1 k2).kp kp fun _ _ => rfl
  · rcases live_mem.mp hm with z | ⟨j, q, u, k1, k2, k3, k4⟩
    · exact h.exn h1 h2 hd ha z
    · by_cases hj : i = j
      · subst hj
        rw [List.getElem?_set_self hil] at k2
        cases k2
        cases k3
      · rw [List.getElem?_set_ne hj] at k2
        exact hj (liv_apart h.ndl h1 h2 hd k1 k2 k3 ha k4)
end
section
variable {X : Cx} {g : Gx} {W : XK} {a b c e : Expr} {es : List Expr} {ma mb mc : EM} {pos : Pos} {margs : Ev → PM (List PR)}
theorem je_frz (h : JE X g W e ma) : JE X g W e (eFrz ma) :=
  ofE h fun _ _ σ H Q _ ⟨φ, ρ, st, rh, re, ok⟩ => ⟨φ, ρ, st, rh, re, by
    have ok : Ok g φ st H (RP g) Q W ((ma ρ st).bind fun r s => frz r s) := ok
    cases e : ma ρ st with
    | err c v s => rw [e] at ok; exact ok
    | stuck => rw [e] at ok; exact ok
    | ok r s =>
      rw [e] at ok
      intro x φ2 H2 g2 h2 r2
      have ok : Ok g φ st H (RP g) Q W (frz r s) := ok
      cases r with
      | p v => exact ok x φ2 H2 g2 h2 r2
      | r i j => cases j with
        | succ j => exact ok.elim
        | zero =>
          obtain ⟨p, e1, rfl⟩ := r2
          have ok : Ok g φ st H (RP g) Q W (match s[i]? with
            | some o => match fz o with
              | some v => .ok (.p v) (s.set i .dead)
              | none => .stuck
            | none => .stuck) := ok
          cases e2 : s[i]? with
          | none => rw [e2] at ok; exact ok.elim
          | some o =>
            rw [e2] at ok
            dsimp only at ok
            cases e3 : fz o with
            | none => rw [e3] at ok; exact ok.elim
            | some v =>
              rw [e3] at ok
              obtain ⟨rh3, go3, n3⟩ := h2.kill e1 e2 (fz_alive e3)
              exact ok _ _ _ (g2.trans go3) rh3 (fz_rv e3 ((h2.ob i p o e1 e2).kp go3.kp fun _ _ => rfl) (n3 _ (List.mem_cons_self ..)))⟩
/-! ### a def's end -/
theorem fin_ok {φ : Ph} {st : PSt} {H : Hp} {Q : VK} {E : XK} {o : OutS} (rh : RH g φ H st) (ok : Ok g φ st H (RP g) Q E (fin st.length o)) : OkS g φ st H { nx := fun _ H' => Q .non H', rt := Q, bk := fun _ _ => False, ct := fun _ _ => False } E o := by
  have kd : ∀ {φ' : Ph} {st' : PSt} {H' : Hp}, Kp (live φ' st') H' (live (φ'.take st.length) (st'.take st.length)) H' := fun {φ' st' H'} => .of (fun a o e _ => e) fun a h => .inl ((live_take_sub _).subset h)
  cases o with
  | nx ρ s => exact fun σ' φ' H' g2 h2 _ => ok .non _ H' (g2.drop rh.len) (h2.drop _) (rp_non.mpr rfl)
  | brk ρ s => exact ok.elim
  | ct ρ s => exact ok.elim
  | stuck => exact ok.elim
  | err c v s => exact fun d φ' H' x g2 h2 hd rv => ok d _ H' x (g2.drop rh.len) (h2.drop _) hd (rv.kp kd)
  | ret r s =>
    intro x φ' H' g2 h2 rp
    cases r with
    | p v => exact ok x _ H' (g2.drop rh.len) (h2.drop _) (RV.kp kd rp)
    | r i j => cases j with
      | succ j => exact ok.elim
      | zero =>
        obtain ⟨p, e1, rfl⟩ := rp
        have ok : Ok g φ st H (RP g) Q E (if i < st.length then .ok (.r i 0) (s.take st.length) else match s[i]? with
          | some o => match fz o with
            | some v => .ok (.p v) (s.take st.length)
            | none => .stuck
          | none => .stuck) := ok
        by_cases hi : i < st.length
        · rw [if_pos hi] at ok
          exact ok _ _ H' (g2.drop rh.len) (h2.drop _) ⟨p, by show (φ'.ls.take st.length)[i]? = _; rw [List.getElem?_take_of_lt hi]; exact e1, rfl⟩
        · rw [if_neg hi] at ok
          cases e2 : s[i]? with
          | none => rw [e2] at ok; exact ok.elim
          | some o =>
            rw [e2] at ok
            dsimp only at ok
            cases e3 : fz o with
            | none => rw [e3] at ok; exact ok.elim
            | some v =>
              rw [e3] at ok
              obtain ⟨rh3, go3, n3⟩ := h2.kill e1 e2 (fz_alive e3)
              have et : (s.set i .dead).take st.length = s.take st.length := by
                rw [List.take_set, List.set_eq_of_length_le]
                rw [List.length_take]; omega
              have rv := fz_rv e3 ((h2.ob i p o e1 e2).kp go3.kp fun _ _ => rfl) (n3 _ (List.mem_cons_self ..))
              have h4 := rh3.drop st.length
              rw [et] at h4
              have g4 := (g2.trans go3).drop rh.len
              rw [et] at g4
              have rv4 := rv.kp (kd (φ' := φ') (st' := s.set i .dead) (H' := H'))
              rw [et] at rv4
              exact ok _ _ H' g4 h4 rv4
theorem rps_start {φ : Ph} {st : PSt} {H : Hp} (n : Nat) : ∀ {rs : List PR} {vs : List V}, RPs g φ st H rs vs → RE g φ st H (rs.map some ++ List.replicate n none) (vs.map some ++ List.replicate n none) := by
  intro rs vs r
  refine ⟨by simp [r.length], fun i q h => ?_⟩
  have key : ∀ {rs : List PR} {vs : List V} (i : Nat), RPs g φ st H rs vs → (rs.map some ++ List.replicate n none)[i]? = some (some q) → ∃ x, (vs.map some ++ List.replicate n none)[i]? = some (some x) ∧ RP g φ st H q x := by
    intro rs
    induction rs with
    | nil =>
      intro vs i r h
      simp only [List.map_nil, List.nil_append, List.getElem?_replicate] at h
      split at h <;> cases h
    | cons a rs ih =>
      rintro vs i ⟨x, t, e, h1, h2⟩ h
      subst e
      cases i with
      | zero =>
        have h : some (some a) = some (some q) := h
        cases h
        exact ⟨x, rfl, h1⟩
      | succ i => exact ih i h2 h
  exact key i r h
/-- THE RULE for a def: its body keeps what its mirror says -/
theorem def_ok {P : Program} {w : World} {mg : Str → Option Value} {base : Heap} {x qual : Str} {params : Arguments} {body : List Stmt} {scope : Scope} {dvs : List V} {kws : List (Str × V)} {f : Addr} {fd : FuncData} {N ps : List Str} {k np nl : Nat} {m : SM}
    (F : FunD g.K x qual params body scope dvs kws f fd) (S : FnScope N ps scope) (hp : ps.length = np) (hl : N.length = nl)
    (hb : ∀ (cdv : Value) (A : Around) (outer : List Env) (s : Shared) (H : Hp) (E : XK), Room k (A.deeper (envOfC qual scope s.heap.objs.size f cdv)) → Takes (cxOf (CX P w) P w g.K mg base N qual scope f cdv A outer s H E) (fun c d _ H => E c d H) → PassesOwn (model P w) (A.deeper (envOfC qual scope s.heap.objs.size f cdv)) (envOfC qual scope s.heap.objs.size f cdv) (cxOf (CX P w) P w g.K mg base N qual scope f cdv A outer s H E).xe →
      JB (cxOf (CX P w) P w g.K mg base N qual scope f cdv A outer s H E) g E body m) : FnOk P w g.K mg base (CX P w) (k + 1) f fd ps (spF g (defM np nl m)) := by
  have len : ∀ vs H Q E, spF g (defM np nl m) vs H Q E → vs.length = ps.length := fun vs H Q E ⟨φ, st, rs, rh, r, ok⟩ => by
    rw [r.length]
    by_cases h : rs.length = np
    · rw [h, hp]
    · have ok : Ok g φ st H (RP g) Q E (if rs.length = np then fin st.length (m (rs.map some ++ List.replicate (nl - rs.length) none) st) else .stuck) := ok
      rw [if_neg h] at ok
      exact ok.elim
  refine F.ok S len fun cdv A outer s H vs Q E hr ⟨φ, st, rs, rh, r, ok⟩ => ⟨_, hb cdv A outer s H E hr (takes_of rfl rfl rfl rfl) (passes_of rfl), φ, rs.map some ++ List.replicate (nl - rs.length) none, st, rh, ?_, ?_⟩
  · have := rps_start (nl - rs.length) r
    rw [← hl, ← r.length] at this ⊢
    exact this
  · have ok : Ok g φ st H (RP g) Q E (if rs.length = np then fin st.length (m (rs.map some ++ List.replicate (nl - rs.length) none) st) else .stuck) := ok
    by_cases h : rs.length = np
    · rw [if_pos h] at ok
      exact fin_ok rh ok
    · rw [if_neg h] at ok
      exact ok.elim
/-! ### calls -/
def eCallD (f : FM) (a : Ev → PM (List PR)) (ds : List PV) : EM := fun ρ => a ρ >>= fun l => f (l ++ ds.map .p)
theorem rps_pure {φ : Ph} {st : PSt} {H : Hp} {ds : List PV} {dvs : List V} (h : ∀ L H, RVs g L H ds dvs) : RPs g φ st H (ds.map .p) dvs := rps_map (h _ _)
variable {k i : Nat} {f : Addr} {fd : FuncData} {ps : List Str} {mf : FM} {x m : Str} {p apos : Pos} {ds : List Value} {dvs : List V} {dps : List PV}
abbrev Tk (X : Cx) (W : XK) : Prop := Takes X fun c d _ H => W c d H
theorem je_call (F : FnOk X.prog X.w X.K X.mg X.base (CX X.prog X.w) k f fd ps (spF g mf)) (hr : Room k X.A) (hg : Gl X x) (hm : X.mg x = some (.ref f)) (hk : PySem.W.keepIn X.K (.ref f) = true) (hb : Binds X.K fd ps ds) (hd : Vals dvs ds) (hdp : ∀ L H, RVs g L H dps dvs) (tk : Tk X W)
    (ha : JA X g W (e :: es) margs) (hdb : (x == ("__debug__" : Str)) = false := by decide) (he : starEach (e :: es) X.env = (false, eval e X.env) :: starEach es X.env := by rfl) (hpl : (backTo pos (starEach es X.env)).any (·.1) = false := by rfl) :
    JE X g W (.Call (.Name x p) (e :: es) [] pos) (eCallD mf margs dps) :=
  ofE (pe_call F hr hg hm hk hb hd (passes_call tk fun _ _ _ _ h => h) ha hdb he hpl) fun _ _ σ H Q _ ⟨φ, ρ, st, rh, re, ok⟩ => ⟨φ, ρ, st, rh, re, ok.bind fun l st1 vs φ1 H1 g1 h1 r1 ok1 => ⟨φ1, st1, _, h1, rps_append r1 (rps_pure hdp), ok1⟩⟩
theorem je_call0 (F : FnOk X.prog X.w X.K X.mg X.base (CX X.prog X.w) k f fd ps (spF g mf)) (hr : Room k X.A) (hg : Gl X x) (hm : X.mg x = some (.ref f)) (hk : PySem.W.keepIn X.K (.ref f) = true) (hb : Binds X.K fd ps ds) (hd : Vals dvs ds) (hdp : ∀ L H, RVs g L H dps dvs) (tk : Tk X W)
    (hdb : (x == ("__debug__" : Str)) = false := by decide) :
    JE X g W (.Call (.Name x p) [] [] pos) (eCallD mf aNil dps) :=
  ofE (pe_call0 F hr hg hm hk hb hd (passes_call tk fun _ _ _ _ h => h) hdb) fun _ _ σ H Q _ ⟨φ, ρ, st, rh, re, ok⟩ => ⟨φ, st, _, rh, rps_pure hdp, ok⟩
/-! ### objects -/
def putN (f : Str) {α : Type} (v : α) : List Str → List α → List Str × List α
  | n :: ns, u :: us => if n = f then (n :: ns, v :: us) else ((n :: (putN f v ns us).1), u :: (putN f v ns us).2)
  | _, _ => ([f], [v])
theorem putN_zip {f : Str} {y : V} : ∀ {ns : List Str} {xs : List V}, ns.length = xs.length → (putN f y ns xs).1.zip (putN f y ns xs).2 = putF f y (ns.zip xs)
  | [], [], _ => rfl
  | n :: ns, x :: xs, e => by
    have ih := putN_zip (f := f) (y := y) (ns := ns) (xs := xs) (by simpa using e)
    show (putN f y (n :: ns) (x :: xs)).1.zip (putN f y (n :: ns) (x :: xs)).2 = if n = f then (n, y) :: ns.zip xs else (n, x) :: putF f y (ns.zip xs)
    unfold putN
    by_cases h : n = f
    · rw [if_pos h, if_pos h]; rfl
    · rw [if_neg h, if_neg h]
      show (n, x) :: (putN f y ns xs).1.zip (putN f y ns xs).2 = _
      rw [ih]
theorem putN_rvs {L : List Addr} {H : Hp} {f : Str} {v : PV} {y : V} (h : RV g L H v y) : ∀ {ns : List Str} {l : List PV} {xs : List V}, ns.length = l.length → RVs g L H l xs → (putN f v ns l).1 = (putN f y ns xs).1 ∧ RVs g L H (putN f v ns l).2 (putN f y ns xs).2 ∧ (putN f v ns l).1.length = (putN f v ns l).2.length
  | [], [], xs, _, r => by
    simp only [RVs] at r
    subst r
    exact ⟨rfl, RVs.cons h RVs.nil, rfl⟩
  | n :: ns, u :: l, xs, e, r => by
    simp only [RVs] at r
    obtain ⟨x, t, rfl, r1, r2⟩ := r
    obtain ⟨i1, i2, i3⟩ := putN_rvs (f := f) h (ns := ns) (by simpa using e) r2
    unfold putN
    by_cases hn : n = f
    · rw [if_pos hn, if_pos hn]
      exact ⟨rfl, RVs.cons h r2, by simpa using e⟩
    · rw [if_neg hn, if_neg hn]
      exact ⟨by show n :: _ = n :: _; rw [i1], RVs.cons r1 i2, by simpa using i3⟩
def nmOf (nm : Str) (ns : List Str) (vs : List PV) : Option PV := (ns.zip vs).lookup nm
theorem nm_rv {L : List Addr} {H : Hp} {nm : Str} {v : PV} : ∀ {ns : List Str} {l : List PV} {xs : List V}, RVs g L H l xs → nmOf nm ns l = some v → ∃ x, (ns.zip xs).lookup nm = some x ∧ RV g L H v x
  | [], _, _, _, e => by cases e
  | n :: ns, [], _, _, e => by cases e
  | n :: ns, u :: l, _, r, e => by
    simp only [RVs] at r
    obtain ⟨x, t, rfl, r1, r2⟩ := r
    have e : List.lookup nm ((n, u) :: ns.zip l) = some v := e
    show ∃ y, List.lookup nm ((n, x) :: ns.zip t) = some y ∧ _
    simp only [List.lookup] at e ⊢
    split at e
    · cases e; exact ⟨x, rfl, r1⟩
    · exact nm_rv r2 e
theorem nm_none {nm : Str} {L : List Addr} {H : Hp} : ∀ {ns : List Str} {l : List PV} {xs : List V}, RVs g L H l xs → nmOf nm ns l = none → (ns.zip xs).lookup nm = none
  | [], _, _, _, e => rfl
  | n :: ns, [], xs, r, e => by simp only [RVs] at r; subst r; rfl
  | n :: ns, u :: l, _, r, e => by
    simp only [RVs] at r
    obtain ⟨x, t, rfl, r1, r2⟩ := r
    have e : List.lookup nm ((n, u) :: ns.zip l) = none := e
    show List.lookup nm ((n, x) :: ns.zip t) = none
    simp only [List.lookup] at e ⊢
    split at e
    · cases e
    · exact nm_none r2 e
def fldM (cs : List Nat) (nm : Str) : PR → PM PR
  | .p (.obj c ns vs) => if c ∈ cs then match nmOf nm ns vs with
      | some v => pure (.p v)
      | none => PM.stuck
    else PM.stuck
  | .r i 0 => fun st => match st[i]? with
    | some (.ins c ns vs kn) => if c ∈ cs then match nmOf nm ns vs with
        | some v => .ok (.p v) st
        | none => match kn with
          | some (n2, _) => if n2 = nm then .ok (.r i 1) st else .stuck
          | none => .stuck
      else .stuck
    | _ => .stuck
  | _ => PM.stuck
theorem lookup_app {nm : Str} {x : V} : ∀ (l : List (Str × V)), l.lookup nm = none → (l ++ [(nm, x)]).lookup nm = some x
  | [], _ => by simp [List.lookup]
  | (n, y) :: l, h => by
    simp only [List.cons_append, List.lookup] at h ⊢
    split at h
    · cases h
    · exact lookup_app l h
theorem lookup_app1 {nm n2 : Str} {x y : V} : ∀ (l : List (Str × V)), l.lookup nm = some y → (l ++ [(n2, x)]).lookup nm = some y
  | [], h => by cases h
  | (n, y) :: l, h => by
    simp only [List.cons_append, List.lookup] at h ⊢
    split at h
    · exact h
    · exact lookup_app1 l h
/-- what the head says of the classes -/
def ClsNo (g : Gx) (cs : List Nat) (nm : Str) : Prop := ∀ c ∈ cs, Cls g.K (g.cA c) ∧ NoAttr g.K (g.cA c) nm
theorem fld_ok {cs : List Nat} {nm : Str} {φ : Ph} {st : PSt} {H : Hp} {Q : VK} {r : PR} {x : V} (hc : ClsNo g cs nm) (rh : RH g φ H st) (rp : RP g φ st H r x) (ok : Ok g φ st H (RP g) Q W (fldM cs nm r st)) :
    ∃ a C dx fs v, x = .ref a ∧ H a = some (.ins C dx fs) ∧ Cls g.K C ∧ NoAttr g.K C nm ∧ fs.lookup nm = some v ∧ Q v H := by
  cases r with
  | p u =>
    cases u with
    | obj c ns vs =>
      have rp : RV g (live φ st) H (.obj c ns vs) x := rp
      simp only [RV] at rp
      obtain ⟨a, dx, xs, rfl, n, t, z, r⟩ := rp
      have ok : Ok g φ st H (RP g) Q W ((if c ∈ cs then match nmOf nm ns vs with
        | some v => (pure (.p v) : PM PR)
        | none => PM.stuck
        else PM.stuck) st) := ok
      by_cases h : c ∈ cs
      · rw [if_pos h] at ok
        cases e : nmOf nm ns vs with
        | none => rw [e] at ok; exact ok.elim
        | some v =>
          rw [e] at ok
          obtain ⟨y, h1, h2⟩ := nm_rv r e
          exact ⟨a, _, dx, _, y, rfl, t, (hc c h).1, (hc c h).2, h1, (show Ok g φ st H (RP g) Q W (.ok (.p v) st) from ok).ret rh h2⟩
      · rw [if_neg h] at ok; exact ok.elim
    | _ => exact ok.elim
  | r i j => cases j with
    | succ j => exact ok.elim
    | zero =>
      obtain ⟨p, e1, rfl⟩ := rp
      cases e2 : st[i]? with
      | none =>
        have e3 : fldM cs nm (.r i 0) st = .stuck := by simp only [fldM, e2]
        rw [e3] at ok; exact ok.elim
      | some o =>
        cases o with
        | ins c ns vs kn =>
          by_cases h : c ∈ cs
          · cases e : nmOf nm ns vs with
            | some v =>
              have e3 : fldM cs nm (.r i 0) st = .ok (.p v) st := by simp only [fldM, e2, if_pos h, e]
              rw [e3] at ok
              cases kn with
              | none =>
                obtain ⟨_, dx, xs, h1, h2, h3⟩ := rh.ob i p _ e1 e2
                obtain ⟨y, q1, q2⟩ := nm_rv h3 e
                exact ⟨p.1, _, dx, _, y, rfl, h1, (hc c h).1, (hc c h).2, q1, ok.ret rh q2⟩
              | some q =>
                obtain ⟨n2, d⟩ := q
                obtain ⟨b, dx, xs, hb, h1, h2, h3, h4, h5⟩ := rh.ob i p _ e1 e2
                obtain ⟨y, q1, q2⟩ := nm_rv h3 e
                exact ⟨p.1, _, dx, _, y, rfl, h1, (hc c h).1, (hc c h).2, lookup_app1 _ q1, ok.ret rh q2⟩
            | none =>
              cases kn with
              | none =>
                have e3 : fldM cs nm (.r i 0) st = .stuck := by simp only [fldM, e2, if_pos h, e]
                rw [e3] at ok; exact ok.elim
              | some q =>
                obtain ⟨n2, d⟩ := q
                by_cases hn : n2 = nm
                · subst hn
                  have e3 : fldM cs n2 (.r i 0) st = .ok (.r i 1) st := by simp only [fldM, e2, if_pos h, e, if_true]
                  rw [e3] at ok
                  obtain ⟨b, dx, xs, hb, h1, h2, h3, h4, h5⟩ := rh.ob i p _ e1 e2
                  exact ⟨p.1, _, dx, _, .ref b, rfl, h1, (hc c h).1, (hc c h).2, lookup_app _ (nm_none h3 e), ok.ret rh ⟨p, b, e1, by rw [hb]; rfl, rfl⟩⟩
                · have e3 : fldM cs nm (.r i 0) st = .stuck := by simp only [fldM, e2, if_pos h, e, if_neg hn]
                  rw [e3] at ok; exact ok.elim
          · have e3 : fldM cs nm (.r i 0) st = .stuck := by simp only [fldM, e2, if_neg h]
            rw [e3] at ok; exact ok.elim
        | _ =>
          have e3 : fldM cs nm (.r i 0) st = .stuck := by simp only [fldM, e2]
          rw [e3] at ok; exact ok.elim
theorem je_fld {cs : List Nat} {nm : Str} (hK : X.K = g.K) (hc : ClsNo g cs nm) (he : JE X g W e ma) (hb : attributeBase e nm X.env (eval e X.env) = eval e X.env := by rfl) : JE X g W (.Attribute e nm pos) (e1 (fldM cs nm) ma) :=
  ofE (pe_fld he hb) fun _ _ σ H Q _ ⟨φ, ρ, st, rh, re, ok⟩ => ⟨φ, ρ, st, rh, re, ok.bind fun r st1 x φ1 H1 g1 h1 r1 ok1 => by rw [hK]; exact fld_ok hc h1 r1 ok1⟩
def setFldM (cs : List Nat) (nm : Str) : PR → PR → PM Unit
  | .p v, .r i 0 => fun st => match st[i]? with
    | some (.ins c ns vs none) => if c ∈ cs ∧ ns.length < 900 then .ok () (st.set i (.ins c (putN nm v ns vs).1 (putN nm v ns vs).2 none)) else .stuck
    | _ => .stuck
  | _, _ => PM.stuck
/-- o.nm = value -/
def sFldM (cs : List Nat) (nm : Str) (o v : EM) : SM := fun ρ st => (v ρ st).toS fun y s => (o ρ s).toS fun x s2 => (setFldM cs nm y x s2).toS fun _ s3 => .nx ρ s3
theorem js_fld {cs : List Nat} {nm : Str} {o value : Expr} {mo mv : EM} {pos' : Pos} (hK : X.K = g.K) (hc : ClsNo g cs nm) (ha : JE X g W o mo) (hv : JE X g W value mv) (hs : swapsWith value (some (.Attribute o nm pos')) pos.line X.env = pure false := by rfl) :
    JS X g W (.Assign [.Attribute o nm pos'] value pos) (sFldM cs nm mo mv) :=
  ofS (ps_fld ha hv hs) fun D σ H ⟨φ, ρ, st, rh, re, ok⟩ => ⟨φ, ρ, st, rh, re, OkS.bind ok fun y st1 yv φ1 H1 g1 h1 r1 ok1 => ⟨φ1, ρ, st1, h1, re.go g1, OkS.bind ok1 fun x st2 xv φ2 H2 g2 h2 r2 ok2 => by
    have r1' := r1.go g2
    cases y with
    | r i j => exact ok2.elim
    | p v => cases x with
      | p u => exact ok2.elim
      | r i j => cases j with
        | succ j => exact ok2.elim
        | zero =>
          obtain ⟨p, q1, rfl⟩ := r2
          cases q2 : st2[i]? with
          | none =>
            have e3 : setFldM cs nm (.p v) (.r i 0) st2 = .stuck := by simp only [setFldM, q2]
            rw [e3] at ok2; exact ok2.elim
          | some o =>
            have stuckE : ∀ (e3 : setFldM cs nm (.p v) (.r i 0) st2 = .stuck), False := fun e3 => by rw [e3] at ok2; exact ok2
            cases o with
            | ins c ns vs kn =>
              cases kn with
              | some q => exact (stuckE (by simp only [setFldM, q2])).elim
              | none =>
                by_cases h : c ∈ cs ∧ ns.length < 900
                · have e3 : setFldM cs nm (.p v) (.r i 0) st2 = .ok () (st2.set i (.ins c (putN nm v ns vs).1 (putN nm v ns vs).2 none)) := by simp only [setFldM, q2, if_pos h]
                  rw [e3] at ok2
                  obtain ⟨hp, dx, xs, k1, k2, k3⟩ := h2.ob i p _ q1 q2
                  obtain ⟨z1, z2, z3⟩ := putN_rvs (f := nm) r1' k2 k3
                  have mem : p.1 ∈ live φ2 st2 := live_mem.mpr (.inr ⟨i, p, _, q1, q2, rfl, List.mem_cons_self ..⟩)
                  have kw := kp_write (H := H2) (o := .ins (g.cA c) dx (putF nm yv (ns.zip xs))) mem
                  obtain ⟨w1, w2⟩ := h2.write (a := p.1) (u' := .ins c (putN nm v ns vs).1 (putN nm v ns vs).2 none) (o := .ins (g.cA c) dx (putF nm yv (ns.zip xs))) q1 q2 rfl rfl (List.mem_cons_self ..)
                    ⟨hp, dx, (putN nm yv ns xs).2, by rw [upd_same, ← putN_zip (by rw [k2, k3.length]), z1], z3, z2.kp kw⟩
                  refine ⟨p.1, _, dx, _, rfl, k1, by rw [hK]; exact (hc c h.1).1, by rw [hK]; exact (hc c h.1).2, ?_, ok2 σ φ2 _ w2 w1 (((re.go g1).go g2).go w2)⟩
                  rw [List.length_zip]
                  have := h.2
                  omega
                · exact (stuckE (by simp only [setFldM, q2, if_neg h])).elim
            | _ => exact (stuckE (by simp only [setFldM, q2])).elim⟩⟩
/-- C(..): the object, then its __init__ -/
def mkM (c : Nat) (f : FM) (a : Ev → PM (List PR)) (ds : List PV) : EM := fun ρ => a ρ >>= fun l => fun st => match f (.r st.length 0 :: (l ++ ds.map .p)) (st ++ [.ins c [] [] none]) with
  | .ok (.p .non) s => .ok (.r st.length 0) s
  | .ok _ _ => .stuck
  | .err c v s => .err c v s
  | .stuck => .stuck
theorem make_ok {c : Nat} {dx x : Addr} {l : List PR} {vs : List V} {φ : Ph} {st : PSt} {H : Hp} {Q : VK} (rh : RH g φ H st) (rp : RPs g φ st H l vs) (hx : H x = none) (hdx : H dx = none) (ne : dx ≠ x)
    (ok : Ok g φ st H (RP g) Q W (match mf (.r st.length 0 :: l) (st ++ [.ins c [] [] none]) with
      | .ok (.p .non) s => .ok (.r st.length 0) s
      | .ok _ _ => .stuck
      | .err c v s => .err c v s
      | .stuck => .stuck)) : spF g mf (.ref x :: vs) (upd (upd H dx (.own x)) x (.ins (g.cA c) dx [])) (fun v H2 => v = .non ∧ Q (.ref x) H2) W := by
  obtain ⟨rh1, go1⟩ := rh.fresh (o := .own x) hdx
  have hx1 : upd H dx (.own x) x = none := by rw [upd_ne (Ne.symm ne)]; exact hx
  obtain ⟨rh2, go2⟩ := rh1.alloc (o := .ins (g.cA c) dx []) (u := .ins c [] [] none) hx1 rfl ⟨rfl, dx, [], upd_same, rfl, RVs.nil⟩
  have hself : RP g ⟨φ.ex, φ.ls ++ [(x, [])]⟩ (st ++ [.ins c [] [] none]) (upd (upd H dx (.own x)) x (.ins (g.cA c) dx [])) (.r st.length 0) (.ref x) :=
    ⟨(x, []), by show (φ.ls ++ [(x, [])])[st.length]? = _; rw [← rh.len, List.getElem?_append_right (Nat.le_refl _)]; simp, rfl⟩
  refine ⟨_, _, .r st.length 0 :: l, rh2, ⟨_, _, rfl, hself, rp.go (go1.trans go2)⟩, ?_⟩
  have go := go1.trans go2
  cases e : mf (.r st.length 0 :: l) (st ++ [.ins c [] [] none]) with
  | err c v s => rw [e] at ok; exact fun d φ' H' y g2 => ok d φ' H' y (go.trans g2)
  | stuck => rw [e] at ok; exact ok.elim
  | ok r s =>
    rw [e] at ok
    cases r with
    | r i j => exact ok.elim
    | p v =>
      cases v with
      | non => exact fun y φ' H' g2 h2 r2 => ⟨rp_non.mp r2, ok _ φ' H' (go.trans g2) h2 (hself.go g2)⟩
      | _ => exact ok.elim
theorem je_make {c : Nat} (M : Mk X.K (g.cA c) f) (F : FnOk X.prog X.w X.K X.mg X.base (CX X.prog X.w) k f fd ps (spF g mf)) (hr : Room (k + 1) X.A) (hg : Gl X x) (hm : X.mg x = some (.ref (g.cA c))) (hb : Binds X.K fd ps ds) (hd : Vals dvs ds) (hdp : ∀ L H, RVs g L H dps dvs) (tk : Tk X W)
    (ha : JA X g W (e :: es) margs) (hdb : (x == ("__debug__" : Str)) = false := by decide) (he : starEach (e :: es) X.env = (false, eval e X.env) :: starEach es X.env := by rfl) (hpl : (backTo pos (starEach es X.env)).any (·.1) = false := by rfl) :
    JE X g W (.Call (.Name x p) (e :: es) [] pos) (mkM c mf margs dps) :=
  ofE (pe_make M F hr hg hm hb hd (passes_call tk fun _ _ _ _ h => h) ha hdb he hpl) fun _ _ σ H Q _ ⟨φ, ρ, st, rh, re, ok⟩ => ⟨φ, ρ, st, rh, re, ok.bind fun l st1 vs φ1 H1 g1 h1 r1 ok1 => fun x dx hx hdx ne =>
    make_ok h1 (rps_append r1 (rps_pure hdp)) hx hdx ne ok1⟩
theorem je_make0 {c : Nat} (M : Mk X.K (g.cA c) f) (F : FnOk X.prog X.w X.K X.mg X.base (CX X.prog X.w) k f fd ps (spF g mf)) (hr : Room (k + 1) X.A) (hg : Gl X x) (hm : X.mg x = some (.ref (g.cA c))) (hb : Binds X.K fd ps ds) (hd : Vals dvs ds) (hdp : ∀ L H, RVs g L H dps dvs) (tk : Tk X W)
    (hdb : (x == ("__debug__" : Str)) = false := by decide) :
    JE X g W (.Call (.Name x p) [] [] pos) (mkM c mf aNil dps) :=
  ofE (pe_make0 M F hr hg hm hb hd (passes_call tk fun _ _ _ _ h => h) hdb) fun _ _ σ H Q _ ⟨φ, ρ, st, rh, re, ok⟩ => fun x dx hx hdx ne => make_ok rh (rps_pure hdp) hx hdx ne ok
/-- o.m(..) of an object of the class c -/
def objC (c : Nat) (m : Str) : PR → PM PR
  | .p (.obj c' ns vs) => if c' = c ∧ nmOf m ns vs = none then pure (.p (.obj c' ns vs)) else PM.stuck
  | .r i 0 => fun st => match st[i]? with
    | some (.ins c' ns vs kn) => if c' = c ∧ nmOf m ns vs = none ∧ (∀ q ∈ kn, q.1 ≠ m) then .ok (.r i 0) st else .stuck
    | _ => .stuck
  | _ => PM.stuck
def methM (c : Nat) (m : Str) (f : FM) (o : EM) (a : Ev → PM (List PR)) (ds : List PV) : EM := fun ρ => o ρ >>= fun x => objC c m x >>= fun y => a ρ >>= fun l => f (y :: (l ++ ds.map .p))
theorem lookup_app0 {nm n2 : Str} {x : V} (hn : n2 ≠ nm) : ∀ (l : List (Str × V)), l.lookup nm = none → (l ++ [(n2, x)]).lookup nm = none
  | [], _ => by
    have : (nm == n2) = false := by simpa using fun z => hn z.symm
    simp [List.lookup, this]
  | (n, y) :: l, h => by
    simp only [List.cons_append, List.lookup] at h ⊢
    split at h
    · cases h
    · exact lookup_app0 hn l h
theorem objC_ok {c : Nat} {m : Str} {φ : Ph} {st : PSt} {H : Hp} {β : Type} {R : Ph → PSt → Hp → PR → β → Prop} {Q : β → Hp → Prop} {f : PR → PM PR} {r : PR} {x : V} (rh : RH g φ H st) (rp : RP g φ st H r x) (ok : Ok g φ st H R Q W ((objC c m r >>= f) st)) :
    ∃ a dx fs, x = .ref a ∧ H a = some (.ins (g.cA c) dx fs) ∧ fs.lookup m = none ∧ Ok g φ st H R Q W (f r st) := by
  have ok' : Ok g φ st H R Q W ((objC c m r st).bind f) := ok
  clear ok
  cases r with
  | p u =>
    cases u with
    | obj c' ns vs =>
      have rp : RV g (live φ st) H (.obj c' ns vs) x := rp
      simp only [RV] at rp
      obtain ⟨a, dx, xs, rfl, n, t, z, r⟩ := rp
      have e : objC c m (.p (.obj c' ns vs)) st = (if c' = c ∧ nmOf m ns vs = none then (pure (.p (.obj c' ns vs)) : PM PR) else PM.stuck) st := rfl
      by_cases h : c' = c ∧ nmOf m ns vs = none
      · rw [e, if_pos h] at ok'
        obtain ⟨rfl, h2⟩ := h
        exact ⟨a, dx, _, rfl, t, nm_none r h2, ok'⟩
      · rw [e, if_neg h] at ok'; exact ok'.elim
    | _ => exact ok'.elim
  | r i j => cases j with
    | succ j => exact ok'.elim
    | zero =>
      obtain ⟨p, e1, rfl⟩ := rp
      cases e2 : st[i]? with
      | none =>
        have e3 : objC c m (.r i 0) st = .stuck := by simp only [objC, e2]
        rw [e3] at ok'; exact ok'.elim
      | some o =>
        cases o with
        | ins c' ns vs kn =>
          by_cases h : c' = c ∧ nmOf m ns vs = none ∧ (∀ q ∈ kn, q.1 ≠ m)
          · have e3 : objC c m (.r i 0) st = .ok (.r i 0) st := by simp only [objC, e2, if_pos h]
            rw [e3] at ok'
            obtain ⟨rfl, h2, h3⟩ := h
            cases kn with
            | none =>
              obtain ⟨_, dx, xs, q1, q2, q3⟩ := rh.ob i p _ e1 e2
              exact ⟨p.1, dx, _, rfl, q1, nm_none q3 h2, ok'⟩
            | some q =>
              obtain ⟨n2, d⟩ := q
              obtain ⟨b, dx, xs, hb, q1, q2, q3, q4, q5⟩ := rh.ob i p _ e1 e2
              exact ⟨p.1, dx, _, rfl, q1, lookup_app0 (h3 _ rfl) _ (nm_none q3 h2), ok'⟩
          · have e3 : objC c m (.r i 0) st = .stuck := by simp only [objC, e2, if_neg h]
            rw [e3] at ok'; exact ok'.elim
        | _ =>
          have e3 : objC c m (.r i 0) st = .stuck := by simp only [objC, e2]
          rw [e3] at ok'; exact ok'.elim
theorem je_meth {pl : Sem Bool} {c : Nat} {o : Expr} (he : JE X g W o ma) (cl : Cls X.K (g.cA c)) (hm : Meth X.K (g.cA c) m f) (F : FnOk X.prog X.w X.K X.mg X.base (CX X.prog X.w) k f fd ps (spF g mf)) (hr : Room k X.A) (hb : Binds X.K fd ps ds) (hd : Vals dvs ds) (hdp : ∀ L H, RVs g L H dps dvs) (tk : Tk X W)
    (ha : JA X g W (e :: es) margs) (hst : starEach (e :: es) X.env = (false, eval e X.env) :: starEach es X.env := by rfl) (hpl : (backTo pos (starEach es X.env)).any (·.1) = false := by rfl)
    (ht : eval (.Call (.Attribute o m apos) (e :: es) [] pos) X.env = (do
      let ov ← eval o X.env
      standAt apos.atName
      let (f, first) ← holding [ov] (getMethod ov m pl)
      callWith pos f first (backTo pos (starEach (e :: es) X.env)) (backToKw pos (keywordEach [] X.env))) := by rfl) :
    JE X g W (.Call (.Attribute o m apos) (e :: es) [] pos) (methM c m mf ma margs dps) :=
  ofE (pe_meth he cl hm F hr hb hd (passes_call tk fun _ _ _ _ h => h) ha hst hpl ht) fun _ _ σ H Q _ ⟨φ, ρ, st, rh, re, ok⟩ => ⟨φ, ρ, st, rh, re, ok.bind fun r st1 x φ1 H1 g1 h1 r1 ok1 => by
    obtain ⟨a, dx, fs, rfl, t, l, ok2⟩ := objC_ok h1 r1 ok1
    exact ⟨a, dx, fs, rfl, t, l, φ1, ρ, st1, h1, re.go g1, ok2.bind fun l st2 vs φ2 H2 g2 h2 r2 ok3 => ⟨φ2, st2, r :: _, h2, ⟨_, _, rfl, r1.go g2, rps_append r2 (rps_pure hdp)⟩, ok3⟩⟩⟩
theorem je_meth0 {pl : Sem Bool} {c : Nat} {o : Expr} (he : JE X g W o ma) (cl : Cls X.K (g.cA c)) (hm : Meth X.K (g.cA c) m f) (F : FnOk X.prog X.w X.K X.mg X.base (CX X.prog X.w) k f fd ps (spF g mf)) (hr : Room k X.A) (hb : Binds X.K fd ps ds) (hd : Vals dvs ds) (hdp : ∀ L H, RVs g L H dps dvs) (tk : Tk X W)
    (ht : eval (.Call (.Attribute o m apos) [] [] pos) X.env = (do
      let ov ← eval o X.env
      standAt apos.atName
      let (f, first) ← holding [ov] (getMethod ov m pl)
      callWith pos f first (backTo pos (starEach [] X.env)) (backToKw pos (keywordEach [] X.env))) := by rfl) :
    JE X g W (.Call (.Attribute o m apos) [] [] pos) (methM c m mf ma aNil dps) :=
  ofE (pe_meth0 he cl hm F hr hb hd (passes_call tk fun _ _ _ _ h => h) ht) fun _ _ σ H Q _ ⟨φ, ρ, st, rh, re, ok⟩ => ⟨φ, ρ, st, rh, re, ok.bind fun r st1 x φ1 H1 g1 h1 r1 ok1 => by
    obtain ⟨a, dx, fs, rfl, t, l, ok2⟩ := objC_ok h1 r1 ok1
    exact ⟨a, dx, fs, rfl, t, l, φ1, st1, r :: _, h1, ⟨_, _, rfl, r1, rps_pure hdp⟩, ok2⟩⟩
end
end Vs
/-! Layer, part 5: operations: numbers, data, comparisons, places, parts. -/
namespace Vs
open PySem PyProof.Rows L2
/-! ### values as data -/
mutual
def toD : PV → Option PyData
  | .non => some .none
  | .bl b => some (.bool b)
  | .int i => some (.int i)
  | .str x => some (.str x)
  | .tup l => (toDs l).map .tuple
  | .lst l => (toDs l).map .list
  | _ => none
def toDs : List PV → Option (List PyData)
  | [] => some []
  | v :: l => match toD v, toDs l with
    | some d, some ds => some (d :: ds)
    | _, _ => none
end
def dOf (st : PSt) : PR → Option PyData
  | .p v => toD v
  | .r i 0 => match st[i]? with
    | some (.lst l) => (toDs l).map .list
    | _ => none
  | _ => none
section
variable {g : Gx} {L : List Addr} {H : Hp}
mutual
theorem toD_dp : ∀ {v : PV} {d : PyData} {x : V}, toD v = some d → RV g L H v x → Dp g.K H x d
  | .non, d, x, e, h => by simp only [toD] at e; simp only [RV] at h; cases e; subst h; exact .non
  | .bl b, d, x, e, h => by simp only [toD] at e; simp only [RV] at h; cases e; subst h; exact .bl b
  | .int i, d, x, e, h => by simp only [toD] at e; simp only [RV] at h; cases e; subst h; exact .int i
  | .str y, d, x, e, h => by simp only [toD] at e; simp only [RV] at h; cases e; subst h; exact .str y
  | .tup l, d, x, e, h => by
    simp only [toD] at e
    simp only [RV] at h
    obtain ⟨a, xs, rfl, t, r⟩ := h
    cases e2 : toDs l with
    | none => rw [e2] at e; cases e
    | some ds => rw [e2] at e; cases e; exact .tup t.sq (toDs_dp e2 r)
  | .lst l, d, x, e, h => by
    simp only [toD] at e
    simp only [RV] at h
    obtain ⟨a, xs, rfl, t, r⟩ := h
    cases e2 : toDs l with
    | none => rw [e2] at e; cases e
    | some ds => rw [e2] at e; cases e; exact .lst t.sq (toDs_dp e2 r)
  | .dK _ _, d, x, e, h => by simp only [toD] at e; cases e
  | .dT _ _, d, x, e, h => by simp only [toD] at e; cases e
  | .obj _ _ _, d, x, e, h => by simp only [toD] at e; cases e
  | .fn _, d, x, e, h => by simp only [toD] at e; cases e
theorem toDs_dp : ∀ {l : List PV} {ds : List PyData} {xs : List V}, toDs l = some ds → RVs g L H l xs → DpAll g.K H xs ds
  | [], ds, xs, e, h => by simp only [toDs] at e; simp only [RVs] at h; cases e; subst h; exact .nil
  | v :: l, ds, xs, e, h => by
    simp only [RVs] at h
    obtain ⟨x, r, rfl, h1, h2⟩ := h
    simp only [toDs] at e
    cases e1 : toD v with
    | none => rw [e1] at e; cases e
    | some d1 =>
      cases e2 : toDs l with
      | none => rw [e1, e2] at e; cases e
      | some ds1 => rw [e1, e2] at e; cases e; exact .cons (toD_dp e1 h1) (toDs_dp e2 h2)
end
theorem dOf_dp {φ : Ph} {st : PSt} {r : PR} {x : V} {d : PyData} (rh : RH g φ H st) (rp : RP g φ st H r x) (e : dOf st r = some d) : Dp g.K H x d := by
  cases r with
  | p v => exact toD_dp e rp
  | r i j => cases j with
    | succ j => cases e
    | zero =>
      obtain ⟨p, e1, rfl⟩ := rp
      have e' : (match st[i]? with
        | some (.lst l) => (toDs l).map PyData.list
        | _ => none) = some d := e
      cases e2 : st[i]? with
      | none => rw [e2] at e'; cases e'
      | some o =>
        rw [e2] at e'
        cases o with
        | lst l =>
          obtain ⟨_, xs, h1, h2⟩ := rh.ob i p _ e1 e2
          cases e3 : toDs l with
          | none =>
            have e' : (toDs l).map PyData.list = some d := e'
            rw [e3] at e'; cases e'
          | some ds =>
            have e' : (toDs l).map PyData.list = some d := e'
            rw [e3] at e'; cases e'; exact .lst (.of h1) (toDs_dp e3 h2)
        | _ => cases e'
end
/-! ### mirrors -/
def retB (b : Bool) : PM PR := pure (.p (.bl b))
def dat2 (f : PyData → PyData → PM PR) : PR → PR → PM PR := fun a b st => match dOf st a, dOf st b with
  | some d, some e => if SeqAt.shaped d = true ∧ SeqAt.shaped e = true then f d e st else .stuck
  | _, _ => .stuck
def eqM : PR → PR → PM PR := dat2 fun d e => retB (PyData.eqv d e)
def neM : PR → PR → PM PR := dat2 fun d e => retB (!PyData.eqv d e)
def inM (k : Bool) : PR → PR → PM PR := dat2 fun d e => match e with
  | .list ds => retB (if k then ds.any fun z => PyData.eqv z d else !ds.any fun z => PyData.eqv z d)
  | .tuple ds => retB (if k then ds.any fun z => PyData.eqv z d else !ds.any fun z => PyData.eqv z d)
  | .str y => match d with
    | .str x => retB (if k then !(Builtin.Str.occurrences y x 0 y.length 1).isEmpty else !(!(Builtin.Str.occurrences y x 0 y.length 1).isEmpty))
    | _ => PM.stuck
  | _ => PM.stuck
def int2 (f : Int → Int → PM PR) : PR → PR → PM PR
  | .p (.int i), .p (.int j) => f i j
  | _, _ => PM.stuck
def leM : PR → PR → PM PR := int2 fun i j => retB (decide (i ≤ j))
def gtM : PR → PR → PM PR := int2 fun i j => retB (decide (j < i))
def geM : PR → PR → PM PR := int2 fun i j => retB (decide (j ≤ i))
def someD : PyData → Bool
  | .none => false
  | _ => true
theorem someD_ne {d : PyData} (h : someD d = true) : d ≠ .none := fun z => by subst z; cases h
def ltM : PR → PR → PM PR
  | .p (.int i), .p (.int j) => retB (decide (i < j))
  | a, b => dat2 (fun d e => if PySem.W.alike d e = true ∧ someD d = true then retB (PySem.W.dataLt d e) else PM.stuck) a b
def isNonR : PR → Bool
  | .p .non => true
  | _ => false
def isNM (k : Bool) : PR → PR → PM PR := fun a b => match b with
  | .p .non => retB (if k then isNonR a else !isNonR a)
  | .p (.bl y) => match a with
    | .p (.bl x) => retB (if k then decide (x = y) else !decide (x = y))
    | .p .non => retB (!k)
    | .p (.int _) => retB (!k)
    | .p (.str _) => retB (!k)
    | .p (.tup _) => retB (!k)
    | .p (.lst _) => retB (!k)
    | _ => PM.stuck
  | _ => PM.stuck
def addM : PR → PR → PM PR
  | .p (.int i), .p (.int j) => pure (.p (.int (i + j)))
  | .p (.int i), .p (.bl k) => pure (.p (.int (i + b2i k)))
  | .p (.str i), .p (.str j) => PM.guard (i.length + j.length ≤ lim) (pure (.p (.str (i ++ j))))
  | .p (.tup l), .p (.tup m) => PM.guard (l.length + m.length ≤ lim) (pure (.p (.tup (l ++ m))))
  | a, b => itemsL a >>= fun l => itemsL b >>= fun m => PM.guard (l.length + m.length ≤ lim) (pure (.p (.lst (l ++ m))))
where itemsL : PR → PM (List PV)
  | .p (.lst l) => pure l
  | .r i 0 => fun st => match st[i]? with
    | some (.lst l) => .ok l st
    | _ => .stuck
  | _ => PM.stuck
def intM (f : Int → Int → Int) : PR → PR → PM PR := int2 fun i j => pure (.p (.int (f i j)))
def subM := intM fun i j => i - j
def intG (c : Int → Int → Bool) (f : Int → Int → Int) : PR → PR → PM PR := int2 fun i j => PM.guard (c i j = true) (pure (.p (.int (f i j))))
def mulM := intG (fun i j => (decide (-(2 ^ 64) < i) && decide (i < 2 ^ 64)) || (decide (-(2 ^ 64) < j) && decide (j < 2 ^ 64))) fun i j => i * j
def fdivM := intG (fun _ j => decide (0 < j) && decide (j < 1073741824)) fun i j => i / j
def modM := intG (fun _ j => decide (0 < j)) fun i j => i % j
def powM := intG (fun i j => decide (0 ≤ j) && decide (j ≤ 1000000) && decide (i.natAbs < 2 ^ 64)) fun i j => i ^ j.toNat
def shlM := intG (fun i j => decide (0 ≤ j) && decide (j ≤ 1000000) && decide (i.natAbs < 2 ^ 64)) fun i j => i * 2 ^ j.toNat
def shrM := intG (fun _ j => decide (0 ≤ j)) fun i j => i / 2 ^ j.toNat
def bandM := intM Builtin.bitAnd
def borM := intM Builtin.bitOr
def bxorM := intM Builtin.bitXor
def negM : PR → PM PR
  | .p (.int i) => pure (.p (.int (-i)))
  | _ => PM.stuck
section
variable {X : Cx} {g : Gx} {W : XK} {a b c e : Expr} {es : List Expr} {ma mb mc : EM} {pos : Pos} {margs : Ev → PM (List PR)}
theorem Ok.pure {φ : Ph} {st : PSt} {H : Hp} {Q : VK} {v : PV} {x : V} (ok : Ok g φ st H (RP g) Q W ((Pure.pure (.p v) : PM PR) st)) (rh : RH g φ H st) (h : RV g (live φ st) H v x) : Q x H := (show Ok g φ st H (RP g) Q W (.ok (.p v) st) from ok).ret rh h
theorem Ok.bl {φ : Ph} {st : PSt} {H : Hp} {Q : VK} {b : Bool} (ok : Ok g φ st H (RP g) Q W (retB b st)) (rh : RH g φ H st) : Q (.bl b) H := Ok.pure ok rh (by simp only [RV])
theorem Ok.intr {φ : Ph} {st : PSt} {H : Hp} {Q : VK} {i : Int} (ok : Ok g φ st H (RP g) Q W ((Pure.pure (.p (.int i)) : PM PR) st)) (rh : RH g φ H st) : Q (.int i) H := Ok.pure ok rh (by simp only [RV])
theorem int2_ok {f : Int → Int → PM PR} {φ : Ph} {st : PSt} {H : Hp} {Q : VK} {a b : PR} {x y : V} (ra : RP g φ st H a x) (rb : RP g φ st H b y) (ok : Ok g φ st H (RP g) Q W (int2 f a b st)) : ∃ i j, x = .int i ∧ y = .int j ∧ Ok g φ st H (RP g) Q W (f i j st) := by
  cases a with
  | r _ _ => exact ok.elim
  | p u =>
    cases u with
    | int i =>
      cases b with
      | r _ _ => exact ok.elim
      | p w =>
        cases w with
        | int j => exact ⟨i, j, rp_int.mp ra, rp_int.mp rb, ok⟩
        | _ => exact ok.elim
    | _ => exact ok.elim
theorem opI0 {op : Value → Value → Sem Value} {f : Int → Int → V} {m : Int → Int → PM PR} (h : OpR X op (rI0 f)) (hm : ∀ (φ : Ph) (st : PSt) (H : Hp) (Q : VK) i j, RH g φ H st → Ok g φ st H (RP g) Q W (m i j st) → Q (f i j) H) : OpJ X g W op (int2 m) :=
  OpJ.of h fun _ _ _ φ st H a b x y Q _ rh ra rb ok => by
    obtain ⟨i, j, rfl, rfl, ok⟩ := int2_ok ra rb ok
    exact ⟨i, j, rfl, rfl, hm φ st H Q i j rh ok⟩
theorem opIC {op : Value → Value → Sem Value} {C : Int → Int → Prop} {f : Int → Int → Int} {c : Int → Int → Bool} (h : OpR X op (rI C fun i j => .int (f i j))) (hc : ∀ i j, c i j = true → C i j) : OpJ X g W op (intG c f) :=
  OpJ.of h fun _ _ _ φ st H a b x y Q _ rh ra rb ok => by
    obtain ⟨i, j, rfl, rfl, ok⟩ := int2_ok ra rb ok
    obtain ⟨k, ok⟩ := ok_guard ok
    exact ⟨i, j, rfl, rfl, hc i j k, ok.intr rh⟩
theorem oj_le : OpJ X g W (compareOp .LtE) leM := opI0 op_le fun _ _ _ _ _ _ rh ok => ok.bl rh
theorem oj_gt : OpJ X g W (compareOp .Gt) gtM := opI0 op_gt fun _ _ _ _ _ _ rh ok => ok.bl rh
theorem oj_ge : OpJ X g W (compareOp .GtE) geM := opI0 op_ge fun _ _ _ _ _ _ rh ok => ok.bl rh
theorem oj_sub : OpJ X g W (binaryOp .Sub) subM := opI0 op_sub fun _ _ _ _ _ _ rh ok => ok.intr rh
theorem oj_band : OpJ X g W (binaryOp .BitAnd) bandM := opI0 op_and fun _ _ _ _ _ _ rh ok => ok.intr rh
theorem oj_bor : OpJ X g W (binaryOp .BitOr) borM := opI0 op_or fun _ _ _ _ _ _ rh ok => ok.intr rh
theorem oj_bxor : OpJ X g W (binaryOp .BitXor) bxorM := opI0 op_xor fun _ _ _ _ _ _ rh ok => ok.intr rh
theorem oj_mul : OpJ X g W (binaryOp .Mult) mulM := opIC op_mul fun i j h => by
  simp only [Bool.or_eq_true, Bool.and_eq_true, decide_eq_true_eq] at h
  exact h
theorem oj_fdiv : OpJ X g W (binaryOp .FloorDiv) fdivM := opIC op_fdiv fun i j h => by
  simp only [Bool.and_eq_true, decide_eq_true_eq] at h
  exact h
theorem oj_mod : OpJ X g W (binaryOp .Mod) modM := opIC op_mod fun i j h => by simpa using h
theorem oj_pow : OpJ X g W (binaryOp .Pow) powM := opIC op_pow fun i j h => by
  simp only [Bool.and_eq_true, decide_eq_true_eq] at h
  exact ⟨h.1.1, h.1.2, h.2⟩
theorem oj_shl : OpJ X g W (binaryOp .LShift) shlM := opIC op_shl fun i j h => by
  simp only [Bool.and_eq_true, decide_eq_true_eq] at h
  exact ⟨h.1.1, h.1.2, h.2⟩
theorem oj_shr : OpJ X g W (binaryOp .RShift) shrM := opIC op_shr fun i j h => by simpa using h
theorem je_neg (ha : JE X g W a ma) : JE X g W (.UnaryOp .USub a pos) (e1 negM ma) :=
  ofE (pe_un un_neg ha) fun _ _ σ H Q _ ⟨φ, ρ, st, rh, re, ok⟩ => ⟨φ, ρ, st, rh, re, ok.bind fun r st1 x φ1 H1 g1 h1 r1 ok1 => by
    cases r with
    | r _ _ => exact ok1.elim
    | p v =>
      cases v with
      | int i => exact ⟨i, rp_int.mp r1, ok1.intr h1⟩
      | _ => exact ok1.elim⟩
theorem dat2_ok {f : PyData → PyData → PM PR} {φ : Ph} {st : PSt} {H : Hp} {Q : VK} {a b : PR} {x y : V} (rh : RH g φ H st) (ra : RP g φ st H a x) (rb : RP g φ st H b y) (ok : Ok g φ st H (RP g) Q W (dat2 f a b st)) :
    ∃ d e, Dp g.K H x d ∧ Dp g.K H y e ∧ SeqAt.shaped d = true ∧ SeqAt.shaped e = true ∧ Ok g φ st H (RP g) Q W (f d e st) := by
  unfold dat2 at ok
  cases e1 : dOf st a with
  | none => simp only [e1] at ok; exact ok.elim
  | some d =>
    cases e2 : dOf st b with
    | none => simp only [e1, e2] at ok; exact ok.elim
    | some e =>
      simp only [e1, e2] at ok
      by_cases h : SeqAt.shaped d = true ∧ SeqAt.shaped e = true
      · rw [if_pos h] at ok
        exact ⟨d, e, dOf_dp rh ra e1, dOf_dp rh rb e2, h.1, h.2, ok⟩
      · rw [if_neg h] at ok
        exact ok.elim
theorem oj_eq (hK : X.K = g.K) (hu : X.A.units + 64 < cLine) : OpJ X g W (compareOp .Eq) eqM := OpJ.of (op_eqD hu) fun _ _ _ φ st H a b x y Q _ rh ra rb ok => by
  obtain ⟨d, e, h1, h2, h3, h4, ok⟩ := dat2_ok rh ra rb ok
  exact ⟨d, e, by rw [hK]; exact h1, by rw [hK]; exact h2, h3, h4, ok.bl rh⟩
theorem oj_ne (hK : X.K = g.K) (hu : X.A.units + 64 < cLine) : OpJ X g W (compareOp .NotEq) neM := OpJ.of (op_neD hu) fun _ _ _ φ st H a b x y Q _ rh ra rb ok => by
  obtain ⟨d, e, h1, h2, h3, h4, ok⟩ := dat2_ok rh ra rb ok
  exact ⟨d, e, by rw [hK]; exact h1, by rw [hK]; exact h2, h3, h4, ok.bl rh⟩
theorem oj_lt (hK : X.K = g.K) (hu : X.A.units + 64 < cLine) : OpJ X g W (compareOp .Lt) ltM := by
  intro pins s σ H x y v u Q I rx ry ⟨φ, st, a, b, rh, ra, rb, ok⟩
  have main : Ok g φ st H (RP g) Q W (dat2 (fun d e => if PySem.W.alike d e = true ∧ someD d = true then retB (PySem.W.dataLt d e) else PM.stuck) a b st) → wpAny (model X.prog X.w) X.A (compareOp .Lt v u) (EP X pins σ Q) X.xe s := fun ok => by
    obtain ⟨d, e, h1, h2, h3, h4, ok⟩ := dat2_ok rh ra rb ok
    by_cases h : PySem.W.alike d e = true ∧ someD d = true
    · rw [if_pos h] at ok
      obtain ⟨as, r1⟩ := Dp.reads I d x v (by rw [hK]; exact h1) rx
      obtain ⟨bs, r2⟩ := Dp.reads I e y u (by rw [hK]; exact h2) ry
      exact PySem.W.rcLt_alike d e X.A s v u as bs r1 r2 h.1 (someD_ne h.2) (SeqAt.room_of_shaped h3 hu) X.prog X.w _ _ ⟨.bl _, H, I, rfl, ok.bl rh⟩
    · rw [if_neg h] at ok
      exact ok.elim
  cases a with
  | r i j => exact main ok
  | p w =>
    cases w with
    | int i =>
      cases b with
      | r _ _ => exact main ok
      | p w2 =>
        cases w2 with
        | int j =>
          cases rp_int.mp ra
          cases rp_int.mp rb
          exact op_lt pins s σ H _ _ v u Q I rx ry ⟨i, j, rfl, rfl, (show Ok g φ st H (RP g) Q W (retB (decide (i < j)) st) from ok).bl rh⟩
        | _ => exact main ok
    | _ => exact main ok
theorem depthAll_shaped {ds : List PyData} {d : PyData} (h : SeqAt.shaped d = true) {A : Around} (hu : A.units + 65 < cLine) : A.units + 1 + min (PyData.depthAll ds) d.depth < cLine := by
  have h1 := SeqAt.depth_of_shaped h
  have h2 : min (PyData.depthAll ds) d.depth ≤ d.depth := Nat.min_le_right _ _
  omega
theorem shaped_list {ds : List PyData} (h : SeqAt.shaped (.list ds) = true) : PyData.canLayAll0 ds = true := by
  have := SeqAt.canLay_of_shaped h
  simpa only [PyData.canLay0] using this
theorem shaped_tuple {ds : List PyData} (h : SeqAt.shaped (.tuple ds) = true) : PyData.canLayAll0 ds = true := by
  have := SeqAt.canLay_of_shaped h
  simpa only [PyData.canLay0] using this
theorem oj_in (hK : X.K = g.K) (hu : X.A.units + 65 < cLine) : OpJ X g W (compareOp .In) (inM true) := by
  intro pins s σ H x y v u Q I rx ry ⟨φ, st, a, b, rh, ra, rb, ok⟩
  obtain ⟨d, e, h1, h2, h3, h4, ok⟩ := dat2_ok rh ra rb ok
  obtain ⟨as, r1⟩ := Dp.reads I d x v (by rw [hK]; exact h1) rx
  obtain ⟨bs, r2⟩ := Dp.reads I e y u (by rw [hK]; exact h2) ry
  cases e with
  | list ds =>
    have ok : Ok g φ st H (RP g) Q W (retB (ds.any fun z => PyData.eqv z d) st) := ok
    exact SeqAt.in_list_reads r2 r1 (shaped_list h4) (SeqAt.canLay_of_shaped h3) (depthAll_shaped h3 hu) ⟨.bl _, H, I, rfl, ok.bl rh⟩
  | tuple ds =>
    have ok : Ok g φ st H (RP g) Q W (retB (ds.any fun z => PyData.eqv z d) st) := ok
    exact SeqAt.in_tuple_reads r2 r1 (shaped_tuple h4) (SeqAt.canLay_of_shaped h3) (depthAll_shaped h3 hu) ⟨.bl _, H, I, rfl, ok.bl rh⟩
  | str y' =>
    cases d with
    | str x' =>
      cases h1
      cases h2
      have ok : Ok g φ st H (RP g) Q W (retB (!(Builtin.Str.occurrences y' x' 0 y'.length 1).isEmpty) st) := ok
      exact op_in_str pins s σ H _ _ v u Q I rx ry ⟨_, _, rfl, rfl, ok.bl rh⟩
    | _ => exact ok.elim
  | _ => exact ok.elim
theorem oj_notin (hK : X.K = g.K) (hu : X.A.units + 65 < cLine) : OpJ X g W (compareOp .NotIn) (inM false) := by
  intro pins s σ H x y v u Q I rx ry ⟨φ, st, a, b, rh, ra, rb, ok⟩
  obtain ⟨d, e, h1, h2, h3, h4, ok⟩ := dat2_ok rh ra rb ok
  obtain ⟨as, r1⟩ := Dp.reads I d x v (by rw [hK]; exact h1) rx
  obtain ⟨bs, r2⟩ := Dp.reads I e y u (by rw [hK]; exact h2) ry
  cases e with
  | list ds =>
    have ok : Ok g φ st H (RP g) Q W (retB (!ds.any fun z => PyData.eqv z d) st) := ok
    exact SeqAt.notIn_list_reads r2 r1 (shaped_list h4) (SeqAt.canLay_of_shaped h3) (depthAll_shaped h3 hu) ⟨.bl _, H, I, rfl, ok.bl rh⟩
  | tuple ds =>
    have ok : Ok g φ st H (RP g) Q W (retB (!ds.any fun z => PyData.eqv z d) st) := ok
    exact SeqAt.notIn_tuple_reads r2 r1 (shaped_tuple h4) (SeqAt.canLay_of_shaped h3) (depthAll_shaped h3 hu) ⟨.bl _, H, I, rfl, ok.bl rh⟩
  | str y' =>
    cases d with
    | str x' =>
      cases h1
      cases h2
      have ok : Ok g φ st H (RP g) Q W (retB (!(!(Builtin.Str.occurrences y' x' 0 y'.length 1).isEmpty)) st) := ok
      exact op_notin_str pins s σ H _ _ v u Q I rx ry ⟨_, _, rfl, rfl, ok.bl rh⟩
    | _ => exact ok.elim
  | _ => exact ok.elim
theorem isN_bool {φ : Ph} {st : PSt} {H : Hp} {a : PR} {x : V} (ra : RP g φ st H a x) : decide (x = .non) = isNonR a := by
  cases a with
  | r i j => cases j with
    | zero => obtain ⟨p, _, rfl⟩ := ra; rfl
    | succ j => obtain ⟨p, b, _, _, rfl⟩ := ra; rfl
  | p v =>
    have ra : RV g (live φ st) H v x := ra
    cases v <;> simp only [RV] at ra <;> first
      | (subst ra; rfl)
      | (obtain ⟨a, xs, rfl, _⟩ := ra; rfl)
      | (obtain ⟨a, dx, xs, rfl, _⟩ := ra; rfl)
theorem plain_bl {v : Value} {b : Bool} {x : V} (rx : RelV x v) (h : ∀ c, x ≠ .bl c) (hn : (∃ i, x = .int i) ∨ x = .non ∨ (∃ i, x = .str i) ∨ ∃ i, x = .ref i) : plainIs v (.bool b) = true ∧ v ≠ .bool b := by
  rcases hn with ⟨i, rfl⟩ | rfl | ⟨i, rfl⟩ | ⟨i, rfl⟩
  · obtain ⟨t, rfl⟩ := rx; exact ⟨rfl, fun z => by cases z⟩
  · cases rx; exact ⟨rfl, fun z => by cases z⟩
  · obtain ⟨t, rfl⟩ := rx; exact ⟨rfl, fun z => by cases z⟩
  · cases rx; exact ⟨rfl, fun z => by cases z⟩
theorem oj_is : OpJ X g W (compareOp .Is) (isNM true) := by
  intro pins s σ H x y v u Q I rx ry ⟨φ, st, a, b, rh, ra, rb, ok⟩
  cases b with
  | r _ _ => exact ok.elim
  | p w =>
    cases w with
    | non =>
      cases rp_non.mp rb
      refine op_isN pins s σ H _ _ v u Q I rx ry ⟨rfl, ?_⟩
      rw [isN_bool ra]
      exact (show Ok g φ st H (RP g) Q W (retB (isNonR a) st) from ok).bl rh
    | bl k =>
      cases rp_bl.mp rb
      cases (show u = Value.bool k from ry)
      have other : ((∃ i, x = .int i) ∨ x = .non ∨ (∃ i, x = .str i) ∨ ∃ i, x = .ref i) → Ok g φ st H (RP g) Q W (retB false st) → wpAny (model X.prog X.w) X.A (compareOp .Is v (.bool k)) (EP X pins σ Q) X.xe s := fun hn ok => by
        obtain ⟨h1, h2⟩ := plain_bl (b := k) rx (by rcases hn with ⟨i, rfl⟩ | rfl | ⟨i, rfl⟩ | ⟨i, rfl⟩ <;> (intro c z; cases z)) hn
        exact wpAny_is_other h1 h2 ⟨.bl false, H, I, rfl, ok.bl rh⟩
      cases a with
      | r _ _ => exact ok.elim
      | p z =>
        cases z with
        | bl q =>
          cases rp_bl.mp ra
          exact op_isBl pins s σ H _ (.bl k) v _ Q I rx rfl ⟨q, k, rfl, rfl, (show Ok g φ st H (RP g) Q W (retB (decide (q = k)) st) from ok).bl rh⟩
        | non => exact other (.inr (.inl (rp_non.mp ra))) ok
        | int i => exact other (.inl ⟨i, rp_int.mp ra⟩) ok
        | str i => exact other (.inr (.inr (.inl ⟨i, rp_str.mp ra⟩))) ok
        | tup l => obtain ⟨a, _, e, _⟩ := rp_tup.mp ra; exact other (.inr (.inr (.inr ⟨a, e⟩))) ok
        | lst l => obtain ⟨a, _, e, _⟩ := rp_lst.mp ra; exact other (.inr (.inr (.inr ⟨a, e⟩))) ok
        | _ => exact ok.elim
    | _ => exact ok.elim
theorem oj_isnot : OpJ X g W (compareOp .IsNot) (isNM false) := by
  intro pins s σ H x y v u Q I rx ry ⟨φ, st, a, b, rh, ra, rb, ok⟩
  cases b with
  | r _ _ => exact ok.elim
  | p w =>
    cases w with
    | non =>
      cases rp_non.mp rb
      refine op_notN pins s σ H _ _ v u Q I rx ry ⟨rfl, ?_⟩
      rw [isN_bool ra]
      exact (show Ok g φ st H (RP g) Q W (retB (!isNonR a) st) from ok).bl rh
    | bl k =>
      cases rp_bl.mp rb
      cases (show u = Value.bool k from ry)
      have other : ((∃ i, x = .int i) ∨ x = .non ∨ (∃ i, x = .str i) ∨ ∃ i, x = .ref i) → Ok g φ st H (RP g) Q W (retB true st) → wpAny (model X.prog X.w) X.A (compareOp .IsNot v (.bool k)) (EP X pins σ Q) X.xe s := fun hn ok => by
        obtain ⟨h1, h2⟩ := plain_bl (b := k) rx (by rcases hn with ⟨i, rfl⟩ | rfl | ⟨i, rfl⟩ | ⟨i, rfl⟩ <;> (intro c z; cases z)) hn
        exact wpAny_isNot_other h1 h2 ⟨.bl true, H, I, rfl, ok.bl rh⟩
      cases a with
      | r _ _ => exact ok.elim
      | p z =>
        cases z with
        | bl q =>
          cases rp_bl.mp ra
          exact op_notBl pins s σ H _ (.bl k) v _ Q I rx rfl ⟨q, k, rfl, rfl, (show Ok g φ st H (RP g) Q W (retB (!decide (q = k)) st) from ok).bl rh⟩
        | non => exact other (.inr (.inl (rp_non.mp ra))) ok
        | int i => exact other (.inl ⟨i, rp_int.mp ra⟩) ok
        | str i => exact other (.inr (.inr (.inl ⟨i, rp_str.mp ra⟩))) ok
        | tup l => obtain ⟨a, _, e, _⟩ := rp_tup.mp ra; exact other (.inr (.inr (.inr ⟨a, e⟩))) ok
        | lst l => obtain ⟨a, _, e, _⟩ := rp_lst.mp ra; exact other (.inr (.inr (.inr ⟨a, e⟩))) ok
        | _ => exact ok.elim
    | _ => exact ok.elim
end
end Vs
/-! Layer, part 5b: +, places, parts, len, isinstance, conversions, walks, append, stores. -/
namespace Vs
open PySem PyProof.Rows L2
section
variable {X : Cx} {g : Gx} {W : XK} {a b c e : Expr} {es : List Expr} {ma mb mc : EM} {pos p : Pos} {margs : Ev → PM (List PR)} {x : Str}
/-- a list, pure or of the state, by its items -/
def seqL : PR → PM (List PV) := addM.itemsL
theorem seqL_ok {β : Type} {R : Ph → PSt → Hp → PR → β → Prop} {Q : β → Hp → Prop} {φ : Ph} {st : PSt} {H : Hp} {r : PR} {x : V} {f : List PV → PM PR} (rh : RH g φ H st) (rp : RP g φ st H r x) (ok : Ok g φ st H R Q W ((seqL r >>= f) st)) :
    ∃ a xs l, x = .ref a ∧ SqL g.K H a xs ∧ RVs g (live φ st) H l xs ∧ ((∃ v, r = .p v) ∨ H a = some (.lst xs)) ∧ Ok g φ st H R Q W (f l st) := by
  have ok : Ok g φ st H R Q W ((seqL r st).bind f) := ok
  cases r with
  | p v =>
    cases v with
    | lst l => obtain ⟨a, xs, rfl, t, r⟩ := rp_lst.mp rp; exact ⟨a, xs, l, rfl, t.sq, r, .inl ⟨_, rfl⟩, ok⟩
    | _ => exact ok.elim
  | r i j => cases j with
    | succ j => exact ok.elim
    | zero =>
      obtain ⟨q, e1, rfl⟩ := rp
      cases e2 : st[i]? with
      | none =>
        have e3 : seqL (.r i 0) st = .stuck := by simp only [seqL, addM.itemsL, e2]
        rw [e3] at ok; exact ok.elim
      | some o =>
        cases o with
        | lst l =>
          have e3 : seqL (.r i 0) st = .ok l st := by simp only [seqL, addM.itemsL, e2]
          rw [e3] at ok
          obtain ⟨_, xs, h1, h2⟩ := rh.ob i q _ e1 e2
          exact ⟨q.1, xs, l, rfl, .of h1, h2, .inr h1, ok⟩
        | _ =>
          have e3 : seqL (.r i 0) st = .stuck := by simp only [seqL, addM.itemsL, e2]
          rw [e3] at ok; exact ok.elim
/-- len -/
def lenM : PR → PM PR
  | .p (.str y) => PM.guard (y.length ≤ lim) (pure (.p (.int y.length)))
  | .p (.tup l) => pure (.p (.int l.length))
  | r => seqL r >>= fun l => pure (.p (.int l.length))
theorem je_len (hK : X.K = g.K) (hg : Gl X "len") (hm : X.mg "len" = none) (ha : JE X g W a ma) (he : starEach [a] X.env = (false, eval a X.env) :: starEach [] X.env := by rfl) (hpl : (backTo pos (starEach [] X.env)).any (·.1) = false := by rfl) :
    JE X g W (.Call (.Name "len" p) [a] [] pos) (e1 lenM ma) :=
  ofE (pe_callB call_len hg hm boot_len (pa_cons ha pa_nil he) (by decide) (by decide) he hpl) fun _ _ σ H Q _ ⟨φ, ρ, st, rh, re, ok⟩ => ⟨φ, ρ, st, rh, re, ok.bind fun r st1 x φ1 H1 g1 h1 r1 ok1 => by
    have seq : Ok g φ1 st1 H1 (RP g) Q W ((seqL r >>= fun l => pure (.p (.int l.length))) st1) → ∃ x_1 n, [x] = [x_1] ∧ LenV X.K x_1 H1 n ∧ Q (.int n) H1 := fun ok1 => by
      obtain ⟨a, xs, l, rfl, s, rv, _, ok2⟩ := seqL_ok h1 r1 ok1
      exact ⟨_, _, rfl, .inl ⟨xs, by rw [hK]; exact s, rfl⟩, by rw [rv.length]; exact ok2.intr h1⟩
    cases r with
    | r i j => exact seq ok1
    | p v =>
      cases v with
      | str y =>
        cases rp_str.mp r1
        obtain ⟨c, ok2⟩ := ok_guard ok1
        exact ⟨_, _, rfl, ⟨by rw [sizeLine_eq]; exact c, rfl⟩, ok2.intr h1⟩
      | tup l =>
        obtain ⟨a, xs, rfl, t, rv⟩ := rp_tup.mp r1
        exact ⟨_, _, rfl, .inr ⟨xs, by rw [hK]; exact t.sq, rfl⟩, by rw [rv.length]; exact (show Ok g φ1 st1 H1 (RP g) Q W ((pure (.p (.int l.length)) : PM PR) st1) from ok1).intr h1⟩
      | _ => exact seq ok1⟩
/-- a[i] -/
def ixM : PR → PR → PM PR
  | .p (.tup l), .p (.int i) => fun st => match atI l i with
    | some v => .ok (.p v) st
    | none => .stuck
  | .p (.str z), .p (.int i) => fun st => if z.length ≤ lim then match atI z.cps.toList i with
      | some c => .ok (.p (.str ⟨#[c]⟩)) st
      | none => .stuck
    else .stuck
  | r, .p (.int i) => seqL r >>= fun l => fun st => match atI l i with
    | some v => .ok (.p v) st
    | none => .stuck
  | _, _ => PM.stuck
theorem atI_rvs {L : List Addr} {H : Hp} {l : List PV} {xs : List V} {i : Int} {v : PV} (r : RVs g L H l xs) (e : atI l i = some v) : ∃ y, atI xs i = some y ∧ RV g L H v y := by
  unfold atI at e ⊢
  rw [r.length]
  cases h : ixN l.length i with
  | none => rw [h] at e; cases e
  | some j =>
    rw [h] at e
    obtain ⟨y, h1, h2⟩ := r.get (show l[j]? = some v from e)
    exact ⟨y, h1, h2⟩
theorem je_ix (hK : X.K = g.K) (ha : JE X g W a ma) (hb : JE X g W b mb) (hs : PlainIx b := by intro _ _; rfl) : JE X g W (.Subscript a b pos) (e2 ixM ma mb) :=
  ofE (pe_ix ix_seq ha hb hs) fun _ _ σ H Q _ ⟨φ, ρ, st, rh, re, ok⟩ => ⟨φ, ρ, st, rh, re, ok.bind fun x st1 xv φ1 H1 g1 h1 r1 ok1 => ⟨φ1, ρ, st1, h1, re.go g1, ok1.bind fun y st2 yv φ2 H2 g2 h2 r2 ok2 => by
    have r1 := r1.go g2
    cases y with
    | r i1 j1 =>
      have e3 : ixM x (.r i1 j1) st2 = .stuck := by
        cases x with
        | r i j => rfl
        | p v => cases v <;> rfl
      rw [e3] at ok2; exact ok2.elim
    | p w =>
      cases w with
      | int i =>
        cases rp_int.mp r2
        have seq : Ok g φ2 st2 H2 (RP g) Q W ((seqL x >>= fun l => fun st => match atI l i with
          | some v => .ok (.p v) st
          | none => .stuck) st2) → rIx X.K xv (.int i) H2 Q := fun ok2 => by
          obtain ⟨a, xs, l, rfl, s, rv, _, ok3⟩ := seqL_ok h2 r1 ok2
          cases e : atI l i with
          | none => simp only [e] at ok3; exact ok3.elim
          | some v =>
            simp only [e] at ok3
            obtain ⟨y, q1, q2⟩ := atI_rvs rv e
            exact .inl ⟨a, xs, i, y, rfl, rfl, by rw [hK]; exact s, q1, ok3.ret h2 q2⟩
        cases x with
        | r _ _ => exact seq ok2
        | p u =>
          cases u with
          | tup l =>
            obtain ⟨a, xs, rfl, t, rv⟩ := rp_tup.mp r1
            have ok2 : Ok g φ2 st2 H2 (RP g) Q W (match atI l i with
              | some v => .ok (.p v) st2
              | none => .stuck) := ok2
            cases e : atI l i with
            | none => simp only [e] at ok2; exact ok2.elim
            | some v =>
              simp only [e] at ok2
              obtain ⟨y, q1, q2⟩ := atI_rvs rv e
              exact .inr (.inl ⟨a, xs, i, y, rfl, rfl, by rw [hK]; exact t.sq, q1, ok2.ret h2 q2⟩)
          | str z =>
            cases rp_str.mp r1
            have ok2 : Ok g φ2 st2 H2 (RP g) Q W (if z.length ≤ lim then match atI z.cps.toList i with
                | some c => .ok (.p (.str ⟨#[c]⟩)) st2
                | none => .stuck
              else .stuck) := ok2
            by_cases hz : z.length ≤ lim
            · rw [if_pos hz] at ok2
              cases e : atI z.cps.toList i with
              | none => simp only [e] at ok2; exact ok2.elim
              | some c =>
                simp only [e] at ok2
                exact .inr (.inr ⟨z, i, c, rfl, rfl, by rw [sizeLine_eq]; exact hz, e, ok2.ret h2 (rp_str.mpr rfl)⟩)
            · rw [if_neg hz] at ok2; exact ok2.elim
          | _ => exact seq ok2
      | _ =>
        have e3 : ∀ u, (∀ i, u ≠ PV.int i) → ixM x (.p u) st2 = .stuck := fun u hu => by
          cases u with
          | int i => exact absurd rfl (hu i)
          | _ =>
            cases x with
            | r i j => rfl
            | p v => cases v <;> rfl
        rw [e3 _ (fun i z => by cases z)] at ok2
        exact ok2.elim⟩⟩
/-- a[lo:hi] -/
abbrev PartM := Ev → PM (Option Int)
def pNo : PartM := fun _ => pure none
def pSome (m : EM) : PartM := fun ρ => m ρ >>= fun r => match r with
  | .p (.int i) => pure (some i)
  | _ => PM.stuck
def cutP {α : Type} (xs : List α) (lo hi : Option Int) : List α := (xs.drop (HT.sIx xs.length 0 lo)).take (HT.sIx xs.length xs.length hi - HT.sIx xs.length 0 lo)
def slM : PR → Option Int → Option Int → PM PR
  | .p (.tup l), lo, hi => pure (.p (.tup (cutP l lo hi)))
  | r, lo, hi => seqL r >>= fun l => pure (.p (.lst (cutP l lo hi)))
def eSl (a : EM) (lo hi : PartM) : EM := fun ρ => a ρ >>= fun x => lo ρ >>= fun l => hi ρ >>= fun h => slM x l h
def rdO (g : Gx) (W : XK) (m : PartM) : TO := fun σ H Q => ∃ φ ρ st, RH g φ H st ∧ RE g φ st H ρ σ ∧ Ok g φ st H (fun _ _ _ b c => b = c) Q W (m ρ st)
abbrev JO (X : Cx) (g : Gx) (W : XK) (e : Option Expr) (m : PartM) : Prop := PO X e (rdO g W m)
theorem jo_no : JO X g W none pNo := ⟨fun pins s σ H Q I ⟨φ, ρ, st, rh, re, ok⟩ => po_none.run pins s σ H Q I ((show Ok g φ st H (fun _ _ _ b c => b = c) Q W (.ok none st) from ok).ret rh rfl)⟩
theorem jo_some (h : JE X g W e ma) : JO X g W (some e) (pSome ma) := ⟨fun pins s σ H Q I ⟨φ, ρ, st, rh, re, ok⟩ => (po_some h).run pins s σ H Q I ⟨φ, ρ, st, rh, re,
  (show Ok g φ st H (fun _ _ _ b c => b = c) Q W ((ma ρ >>= fun r => match r with
  | .p (.int i) => pure (some i)
  | _ => PM.stuck) st) from ok).bind fun r st1 x φ1 H1 g1 h1 r1 ok1 => by
    cases r with
    | r _ _ => exact ok1.elim
    | p v =>
      cases v with
      | int i => exact ⟨i, rp_int.mp r1, (show Ok g φ1 st1 H1 (fun _ _ _ b c => b = c) Q W (.ok (some i) st1) from ok1).ret h1 rfl⟩
      | _ => exact ok1.elim⟩⟩
theorem cut_rvs {L : List Addr} {H : Hp} {l : List PV} {xs : List V} {lo hi : Option Int} (r : RVs g L H l xs) : RVs g L H (cutP l lo hi) (cutV xs lo hi) := by
  unfold cutP cutV
  rw [r.length]
  exact (r.drop _).take _
theorem sIx_le' (n d : Nat) (hd : d ≤ n) (o : Option Int) : HT.sIx n d o ≤ n := by
  cases o with
  | none => exact hd
  | some v =>
    show (if v < 0 then (v + (n : Int)).toNat else min v.toNat n) ≤ n
    by_cases h : v < 0
    · rw [if_pos h]; omega
    · rw [if_neg h]; omega
theorem je_sl {lo hi : Option Expr} {ml mh : PartM} {p2 : Pos} (hK : X.K = g.K) (ha : JE X g W a ma) (hl : JO X g W lo ml) (hh : JO X g W hi mh) : JE X g W (.Subscript a (.Slice lo hi none p2) pos) (eSl ma ml mh) :=
  ofE (pe_slice (sl_tupA.or sl_list) ha hl hh) fun _ _ σ H Q _ ⟨φ, ρ, st, rh, re, ok⟩ => ⟨φ, ρ, st, rh, re, ok.bind fun x st1 xv φ1 H1 g1 h1 r1 ok1 => ⟨φ1, ρ, st1, h1, re.go g1, ok1.bind fun l st2 lv φ2 H2 g2 h2 r2 ok2 => by
    subst r2
    exact ⟨φ2, ρ, st2, h2, (re.go g1).go g2, ok2.bind fun h st3 hv φ3 H3 g3 h3 r3 ok3 => by
      subst r3
      have r1 := r1.go (g2.trans g3)
      have seq : Ok g φ3 st3 H3 (RP g) Q W ((seqL x >>= fun m => pure (.p (.lst (cutP m l h)))) st3) → rSlA X.K xv l h H3 Q ∨ rSlL X.K xv l h H3 Q := fun ok3 => by
        obtain ⟨a, xs, m, rfl, s, rv, _, ok4⟩ := seqL_ok h3 r1 ok3
        exact .inr ⟨a, xs, rfl, by rw [hK]; exact s, fun p hp => Ok.lst (show Ok g φ3 st3 H3 (RP g) Q W (.ok (.p (.lst (cutP m l h))) st3) from ok4) h3 (cut_rvs rv) hp⟩
      cases x with
      | r i j => exact seq ok3
      | p v =>
        cases v with
        | tup m =>
          obtain ⟨a, xs, rfl, t, rv⟩ := rp_tup.mp r1
          have ok3 : Ok g φ3 st3 H3 (RP g) Q W (.ok (.p (.tup (cutP m l h))) st3) := ok3
          refine .inl ⟨a, xs, rfl, by rw [hK]; exact t.sq, fun ⟨z1, z2⟩ => ?_, fun _ p hp => Ok.tup ok3 h3 (cut_rvs rv) hp⟩
          have e : cutV xs l h = xs := by
            unfold cutV
            rw [z1, z2]; simp
          have := cut_rvs (lo := l) (hi := h) rv
          rw [e] at this
          exact ok3.ret h3 (rp_tup.mpr ⟨a, xs, rfl, t, this⟩)
        | _ => exact seq ok3⟩⟩⟩
/-- + -/
theorem oj_add (hK : X.K = g.K) : OpJ X g W (binaryOp .Add) addM := by
  intro pins s σ H x y v u Q I rx ry ⟨φ, st, a, b, rh, ra, rb, ok⟩
  have lists : Ok g φ st H (RP g) Q W ((seqL a >>= fun l => seqL b >>= fun m => PM.guard (l.length + m.length ≤ lim) (pure (.p (.lst (l ++ m))))) st) → wpAny (model X.prog X.w) X.A (binaryOp .Add v u) (EP X pins σ Q) X.xe s := fun ok => by
    obtain ⟨a1, xs, l, rfl, s1, rv, _, ok⟩ := seqL_ok rh ra ok
    obtain ⟨b1, ys, m, rfl, s2, rv2, _, ok⟩ := seqL_ok rh rb ok
    obtain ⟨c, ok⟩ := ok_guard ok
    cases rx
    cases ry
    obtain ⟨its, r, ⟨o, n, ho, hc, hd, hdt⟩, hz⟩ := I.list (show SqL X.K H a1 xs by rw [hK]; exact s1)
    obtain ⟨its2, r2, ⟨o2, n2, ho2, hc2, hd2, hdt2⟩, hz2⟩ := I.list (show SqL X.K H b1 ys by rw [hK]; exact s2)
    have hsz : its.toArray.size + its2.toArray.size ≤ sizeLine := by
      rw [List.size_toArray, List.size_toArray, ← r.length, ← r2.length, rv.length, rv2.length, sizeLine_eq]; exact c
    obtain ⟨oc, od, dt, sl⟩ := o
    obtain ⟨oc2, od2, dt2, sl2⟩ := o2
    simp only at hc hd hdt hc2 hd2 hdt2
    subst hc hd hdt hc2 hd2 hdt2
    refine concat_meets ⟨_, ho, rfl⟩ ⟨_, ho2, rfl⟩ noFill_list_add seq_list_add PySem.F.slot_list_add PySem.F.entry_list_add (PySem.F.args_list_add_2 _ _) (list_addW a1 b1 its.toArray its2.toArray n n2 none none _ _ hsz) ⟨ho, ho2, ?_⟩
    have ea : its.toArray ++ its2.toArray = (its ++ its2).toArray := by simp
    rw [ea]
    exact ⟨.ref _, _, I.lnew (t' := s.toks) (r.append r2) (by rw [List.length_append, rv.length, rv2.length, sizeLine_eq]; exact c), rfl, Ok.lst (show Ok g φ st H (RP g) Q W (.ok (.p (.lst (l ++ m))) st) from ok) rh (rv.append rv2) I.fresh⟩
  cases a with
  | r _ _ => exact lists ok
  | p u1 =>
    cases u1 with
    | int i =>
      cases b with
      | r _ _ => exact lists ok
      | p w =>
        cases w with
        | int j =>
          cases rp_int.mp ra
          cases rp_int.mp rb
          exact op_add pins s σ H _ _ v u Q I rx ry ⟨i, j, rfl, rfl, (show Ok g φ st H (RP g) Q W ((pure (.p (.int (i + j))) : PM PR) st) from ok).intr rh⟩
        | bl k =>
          cases rp_int.mp ra
          cases rp_bl.mp rb
          exact op_add_ib pins s σ H _ _ v u Q I rx ry ⟨i, k, rfl, rfl, (show Ok g φ st H (RP g) Q W ((pure (.p (.int (i + b2i k))) : PM PR) st) from ok).intr rh⟩
        | _ => exact lists ok
    | str i =>
      cases b with
      | r _ _ => exact lists ok
      | p w =>
        cases w with
        | str j =>
          cases rp_str.mp ra
          cases rp_str.mp rb
          obtain ⟨c, ok⟩ := ok_guard (show Ok g φ st H (RP g) Q W (PM.guard (i.length + j.length ≤ lim) (pure (.p (.str (i ++ j)))) st) from ok)
          exact op_add_str pins s σ H _ _ v u Q I rx ry ⟨i, j, rfl, rfl, by rw [sizeLine_eq]; exact c, ok.pure rh (by simp only [RV])⟩
        | _ => exact lists ok
    | tup l =>
      cases b with
      | r _ _ => exact lists ok
      | p w =>
        cases w with
        | tup m =>
          obtain ⟨a1, xs, rfl, t, rv⟩ := rp_tup.mp ra
          obtain ⟨b1, ys, rfl, t2, rv2⟩ := rp_tup.mp rb
          obtain ⟨c, ok⟩ := ok_guard (show Ok g φ st H (RP g) Q W (PM.guard (l.length + m.length ≤ lim) (pure (.p (.tup (l ++ m)))) st) from ok)
          have ok : Ok g φ st H (RP g) Q W (.ok (.p (.tup (l ++ m))) st) := ok
          refine op_catA pins s σ H _ _ v u Q I rx ry ⟨a1, b1, xs, ys, rfl, rfl, by rw [hK]; exact t.sq, by rw [hK]; exact t2.sq, by rw [rv.length, rv2.length, sizeLine_eq]; exact c, fun z => ?_, fun _ z => ?_, fun _ _ p hp => Ok.tup ok rh (rv.append rv2) hp⟩
          · subst z
            exact ok.ret rh (rp_tup.mpr ⟨b1, ys, rfl, t2, by simpa using rv.append rv2⟩)
          · subst z
            exact ok.ret rh (rp_tup.mpr ⟨a1, xs, rfl, t, by simpa using rv.append rv2⟩)
        | _ => exact lists ok
    | _ =>
      cases b with
      | r _ _ => exact lists ok
      | p w => cases w <;> exact lists ok
end
end Vs
/-! Layer, part 5c: isinstance, conversions, all, any, sum, walks, append, stores. -/
namespace Vs
open PySem PyProof.Rows L2
/-- classes, types of values -/
inductive Cl where
  | ty (n : String) | own (c : Nat)
  deriving DecidableEq
def clOf (st : PSt) : PR → Option Cl
  | .p .non => some (.ty "NoneType")
  | .p (.bl _) => some (.ty "bool")
  | .p (.int _) => some (.ty "int")
  | .p (.str _) => some (.ty "str")
  | .p (.tup _) => some (.ty "tuple")
  | .p (.lst _) => some (.ty "list")
  | .p (.dK _ _) => some (.ty "dict")
  | .p (.dT _ _) => some (.ty "dict")
  | .p (.obj c _ _) => some (.own c)
  | .p (.fn _) => none
  | .r i 0 => match st[i]? with
    | some (.lst _) => some (.ty "list")
    | some (.ins c _ _ none) => some (.own c)
    | _ => none
  | _ => none
/-- the answer for one class -/
def isCl : Cl → Cl → Bool
  | .ty a, .ty b => a == b || (a == "bool" && b == "int")
  | .own i, .own j => i == j
  | _, _ => false
def Cl.inK (ks : List Nat) : Cl → Bool
  | .ty _ => true
  | .own c => ks.contains c
def isiM (ks : List Nat) (cs : List Cl) : PR → PM PR := fun r st => match clOf st r with
  | some t => if t.inK ks = true then .ok (.p (.bl (cs.any fun c => isCl t c))) st else .stuck
  | none => .stuck
def tyNs : List String := ["NoneType", "bool", "int", "str", "tuple", "list", "dict"]
/-- what isinstance asks of an own class -/
structure ClsI (K : PySem.W.Frag) (C : Addr) : Prop where
  cls : Cls K C
  ha : PySem.W.findIn K (.ref C) "__class__" = some (some (.builtin "object.__class__"))
  hn : PySem.W.specialIn K (.builtin "object.__class__") "__get__" = some (some (.builtin "getset_descriptor.__get__"))
  htk : PySem.W.takesIn K (.builtin "object.__class__") = some true
  hm : PySem.W.mroIn K C (.type "object") = some true
  self : PySem.W.kitOne K (.ref C) (.ref C) = some true
  is : ∀ n ∈ tyNs, PySem.W.kitOne K (.ref C) (.type n) = some false ∧ PySem.W.kitOne K (.type n) (.ref C) = some false
/-- all of it for the classes ks -/
structure ClsIs (g : Gx) (ks : List Nat) : Prop where
  at_ : ∀ c ∈ ks, ClsI g.K (g.cA c)
  ne : ∀ c ∈ ks, ∀ d ∈ ks, c ≠ d → PySem.W.kitOne g.K (.ref (g.cA c)) (.ref (g.cA d)) = some false
def Cl.val (g : Gx) : Cl → Value
  | .ty n => .type n
  | .own c => .ref (g.cA c)
def Cl.v (g : Gx) : Cl → V
  | .ty n => .ty n
  | .own c => .ref (g.cA c)
def Cl.okIn (ks : List Nat) : Cl → Bool
  | .ty n => tyNs.contains n
  | .own c => ks.contains c
theorem kit_tys : ∀ a ∈ tyNs, ∀ b ∈ tyNs, kitB a b = some (a == b || (a == "bool" && b == "int")) := by decide +kernel
section
variable {g : Gx} {φ : Ph} {st : PSt} {H : Hp} {ks : List Nat}
theorem kit_cl (I : ClsIs g ks) {t c : Cl} (ht : t.okIn ks = true) (hc : c.okIn ks = true) : PySem.W.kitOne g.K (t.val g) (c.val g) = some (isCl t c) := by
  cases t with
  | ty a =>
    have ha : a ∈ tyNs := by simpa [Cl.okIn] using ht
    cases c with
    | ty b =>
      have hb : b ∈ tyNs := by simpa [Cl.okIn] using hc
      exact kit_ty (kit_tys a ha b hb)
    | own d =>
      have hd : d ∈ ks := by simpa [Cl.okIn] using hc
      exact ((I.at_ d hd).is a ha).2
  | own d =>
    have hd : d ∈ ks := by simpa [Cl.okIn] using ht
    cases c with
    | ty b =>
      have hb : b ∈ tyNs := by simpa [Cl.okIn] using hc
      exact ((I.at_ d hd).is b hb).1
    | own e =>
      have he : e ∈ ks := by simpa [Cl.okIn] using hc
      by_cases h : d = e
      · subst h
        have : isCl (.own d) (.own d) = true := by simp [isCl]
        rw [this]; exact (I.at_ d hd).self
      · have : isCl (.own d) (.own e) = false := by simp [isCl, h]
        rw [this]; exact I.ne d hd e he h
theorem kit_cls (I : ClsIs g ks) {t : Cl} (ht : t.okIn ks = true) : ∀ {cs : List Cl}, (cs.all (Cl.okIn ks)) = true → PySem.W.kitAny g.K (t.val g) (cs.map (Cl.val g)) = some (cs.any fun c => isCl t c)
  | [], _ => kitAny_nil
  | c :: cs, h => by
    simp only [List.all_cons, Bool.and_eq_true] at h
    have h1 := kit_cl I ht h.1
    have h2 := kit_cls I ht h.2
    show PySem.W.kitAny g.K (t.val g) (c.val g :: cs.map (Cl.val g)) = _
    simp only [List.any_cons]
    refine kitAny_cons h1 (fun e => ?_) fun e => ?_
    · rw [e, Bool.false_or]; exact h2
    · rw [e, Bool.true_or]
theorem kt_ty {a : Addr} {xs : List V} (h : KT g.K a xs) : TyX g.K H (.ref a) (.type "tuple") := by
  obtain ⟨o, its, n, h1, h2, _⟩ := h; exact .kTuple h1 h2
theorem kl_ty {a : Addr} {xs : List V} (h : KL g.K a xs) : TyX g.K H (.ref a) (.type "list") := by
  obtain ⟨o, its, n, h1, h2, _⟩ := h; exact .kList h1 h2
theorem cl_ty (I : ClsIs g ks) {r : PR} {x : V} {t : Cl} (rh : RH g φ H st) (rp : RP g φ st H r x) (e : clOf st r = some t) (hk : t.inK ks = true) : TyX g.K H x (t.val g) ∧ t.okIn ks = true := by
  cases r with
  | p v =>
    have rp : RV g (live φ st) H v x := rp
    cases v with
    | non => cases e; simp only [RV] at rp; subst rp; exact ⟨.base .non, by simp [Cl.okIn, tyNs]⟩
    | bl b => cases e; simp only [RV] at rp; subst rp; exact ⟨.base (.bl b), by simp [Cl.okIn, tyNs]⟩
    | int b => cases e; simp only [RV] at rp; subst rp; exact ⟨.base (.int b), by simp [Cl.okIn, tyNs]⟩
    | str b => cases e; simp only [RV] at rp; subst rp; exact ⟨.base (.str b), by simp [Cl.okIn, tyNs]⟩
    | tup l =>
      cases e; simp only [RV] at rp
      obtain ⟨a, xs, rfl, t, _⟩ := rp
      refine ⟨?_, by simp [Cl.okIn, tyNs]⟩
      rcases t with ⟨_, t | ⟨o, t⟩⟩ | t
      · exact .base (.tup t)
      · exact .fTuple t
      · exact kt_ty t
    | lst l =>
      cases e; simp only [RV] at rp
      obtain ⟨a, xs, rfl, t, _⟩ := rp
      refine ⟨?_, by simp [Cl.okIn, tyNs]⟩
      rcases t with ⟨_, t | ⟨o, t⟩⟩ | t
      · exact .base (.lst t)
      · exact .base (.frz t)
      · exact kl_ty t
    | dK k l =>
      cases e; simp only [RV] at rp
      obtain ⟨a, xs, rfl, _, t, _⟩ := rp
      exact ⟨.base (.dK t), by simp [Cl.okIn, tyNs]⟩
    | dT k l =>
      cases e; simp only [RV] at rp
      obtain ⟨a, xs, rfl, _, t, _⟩ := rp
      exact ⟨.base (.dT t), by simp [Cl.okIn, tyNs]⟩
    | obj c ns l =>
      cases e; simp only [RV] at rp
      obtain ⟨a, dx, xs, rfl, _, t, _⟩ := rp
      have hk : c ∈ ks := by simpa [Cl.inK] using hk
      have C := I.at_ c hk
      exact ⟨.base (.ins t C.cls C.ha C.hn C.htk C.hm), by simpa [Cl.okIn] using hk⟩
    | fn f => cases e
  | r i j => cases j with
    | succ j => cases e
    | zero =>
      obtain ⟨p, e1, rfl⟩ := rp
      have e' : (match st[i]? with
        | some (.lst _) => some (Cl.ty "list")
        | some (.ins c _ _ none) => some (.own c)
        | _ => none) = some t := e
      cases e2 : st[i]? with
      | none => rw [e2] at e'; cases e'
      | some o =>
        rw [e2] at e'
        cases o with
        | lst l =>
          cases e'
          obtain ⟨_, xs, h1, _⟩ := rh.ob i p _ e1 e2
          exact ⟨.base (.lst h1), by simp [Cl.okIn, tyNs]⟩
        | ins c ns l kn =>
          cases kn with
          | some q => cases e'
          | none =>
            cases e'
            obtain ⟨_, dx, xs, h1, _⟩ := rh.ob i p _ e1 e2
            have hk : c ∈ ks := by simpa [Cl.inK] using hk
            have C := I.at_ c hk
            exact ⟨.base (.ins h1 C.cls C.ha C.hn C.htk C.hm), by simpa [Cl.okIn] using hk⟩
        | _ => cases e'
end
section
variable {X : Cx} {g : Gx} {W : XK} {a b c e : Expr} {es : List Expr} {ma mb mc : EM} {pos p : Pos} {margs : Ev → PM (List PR)} {x : Str} {ks : List Nat}
theorem isi_some {cs : List Cl} {φ : Ph} {st : PSt} {H : Hp} {Q : VK} {r : PR} {x : V} (I : ClsIs g ks) (rh : RH g φ H st) (rp : RP g φ st H r x) (ok : Ok g φ st H (RP g) Q W (isiM ks cs r st)) :
    ∃ t, TyX g.K H x (t.val g) ∧ t.okIn ks = true ∧ Ok g φ st H (RP g) Q W (.ok (.p (.bl (cs.any fun c => isCl t c))) st) := by
  cases e : clOf st r with
  | none =>
    have e3 : isiM ks cs r st = .stuck := by simp only [isiM, e]
    rw [e3] at ok; exact ok.elim
  | some t =>
    by_cases hk : t.inK ks = true
    · have e3 : isiM ks cs r st = .ok (.p (.bl (cs.any fun c => isCl t c))) st := by simp only [isiM, e]; rw [if_pos hk]
      rw [e3] at ok
      obtain ⟨h1, h2⟩ := cl_ty I rh rp e hk
      exact ⟨t, h1, h2, ok⟩
    · have e3 : isiM ks cs r st = .stuck := by simp only [isiM, e]; rw [if_neg hk]
      rw [e3] at ok; exact ok.elim
theorem clv (c : Cl) : ClsV (c.v g) (c.val g) := by
  cases c with
  | ty n => exact .ty n
  | own d => exact .own _
/-- isinstance(a, C) -/
theorem je_isi {cl : Cl} (hK : X.K = g.K) (I : ClsIs g ks) (hg : Gl X "isinstance") (hm : X.mg "isinstance" = none) (ha : JE X g W a ma) (hc : PE X c (tC (cl.v g))) (ho : cl.okIn ks = true)
    (he : starEach [a, c] X.env = (false, eval a X.env) :: starEach [c] X.env := by rfl) (he2 : starEach [c] X.env = (false, eval c X.env) :: starEach [] X.env := by rfl) (hpl : (backTo pos (starEach [c] X.env)).any (·.1) = false := by rfl) :
    JE X g W (.Call (.Name "isinstance" p) [a, c] [] pos) (e1 (isiM ks [cl]) ma) :=
  ofE (pe_callB call_isi hg hm boot_isinstance (pa_cons ha (pa_cons hc pa_nil he2) he) (by decide) (by decide) he hpl) fun _ _ σ H Q _ ⟨φ, ρ, st, rh, re, ok⟩ => ⟨φ, ρ, st, rh, re, ok.bind fun r st1 x φ1 H1 g1 h1 r1 ok1 => by
    obtain ⟨t, h2, h3, ok2⟩ := isi_some I h1 r1 ok1
    refine ⟨x, cl.v g, t.val g, cl.val g, isCl t cl, rfl, clv cl, by rw [hK]; exact h2, by rw [hK]; exact kit_cl I h3 ho, ?_⟩
    have : ([cl].any fun c => isCl t c) = isCl t cl := by simp
    rw [this] at ok2
    exact ok2.ret h1 (rp_bl.mpr rfl)⟩
/-- the classes of a written tuple -/
inductive JCl (X : Cx) (g : Gx) : List Expr → List Cl → TA → Prop
  | nil : JCl X g [] [] tNil
  | cons {c : Expr} {cl : Cl} {cs : List Expr} {cls : List Cl} {t : TA} (hc : PE X c (tC (cl.v g))) (hr : JCl X g cs cls t) (he : starEach (c :: cs) X.env = (false, eval c X.env) :: starEach cs X.env := by rfl) : JCl X g (c :: cs) (cl :: cls) (tCons (tC (cl.v g)) t)
theorem JCl.pa {cs : List Expr} {cls : List Cl} {t : TA} (h : JCl X g cs cls t) : PA X cs t := by
  induction h with
  | nil => exact pa_nil
  | cons hc hr he ih => exact pa_cons hc ih he
theorem JCl.to {cs : List Expr} {cls : List Cl} {t : TA} (h : JCl X g cs cls t) : ∀ σ H (Q : List V → Hp → Prop), Q (cls.map (Cl.v g)) H → t σ H Q := by
  induction h with
  | nil => intro σ H Q q; exact q
  | cons hc hr he ih => intro σ H Q q; exact ih σ H _ q
theorem clvs : ∀ (cs : List Cl), Paired ClsV (cs.map (Cl.v g)) (cs.map (Cl.val g))
  | [] => .nil
  | c :: cs => .cons (clv c) (clvs cs)
theorem je_isiT {cs : List Expr} {cls : List Cl} {t : TA} {x1} {p1 : Pos} (hK : X.K = g.K) (I : ClsIs g ks) (hg : Gl X "isinstance") (hm : X.mg "isinstance" = none) (ha : JE X g W a ma) (hc : JCl X g cs cls t) (ho : cls.all (Cl.okIn ks) = true) (hl : cls.length ≤ 1000)
    (he : starEach [a, .Tuple cs x1 p1] X.env = (false, eval a X.env) :: starEach [.Tuple cs x1 p1] X.env := by rfl) (he2 : starEach [.Tuple cs x1 p1] X.env = (false, eval (.Tuple cs x1 p1) X.env) :: starEach [] X.env := by rfl) (hpl : (backTo pos (starEach [.Tuple cs x1 p1] X.env)).any (·.1) = false := by rfl) :
    JE X g W (.Call (.Name "isinstance" p) [a, .Tuple cs x1 p1] [] pos) (e1 (isiM ks cls) ma) :=
  ofE (pe_callB call_isiT hg hm boot_isinstance (pa_cons ha (pa_cons (pe_tup hc.pa) pa_nil he2) he) (by decide) (by decide) he hpl) fun _ _ σ H Q _ ⟨φ, ρ, st, rh, re, ok⟩ => ⟨φ, ρ, st, rh, re, ok.bind fun r st1 x φ1 H1 g1 h1 r1 ok1 => by
    obtain ⟨tt, h2, h3, ok2⟩ := isi_some I h1 r1 ok1
    refine hc.to σ H1 _ ⟨by rw [List.length_map, sizeLine_eq]; omega, fun pT hp => ?_⟩
    obtain ⟨h4, g4⟩ := h1.fresh (o := .tup (cls.map (Cl.v g))) hp
    refine ⟨x, pT, cls.map (Cl.v g), tt.val g, cls.map (Cl.val g), _, rfl, upd_same, clvs cls, ?_, by rw [hK]; exact kit_cls I h3 ho, (ok2.go g4).ret h4 (rp_bl.mpr rfl)⟩
    rw [hK]
    have ty : ∀ {x : V} {t : Value}, TyX g.K H1 x t → TyX g.K (upd H1 pT (.tup (cls.map (Cl.v g)))) x t := fun {x t} h => by
      have k : ∀ {a : Addr} {o : HO}, H1 a = some o → upd H1 pT (.tup (cls.map (Cl.v g))) a = some o := fun {a o} e => by rw [upd_ne (ne_of_none e hp)]; exact e
      cases h with
      | base h =>
        refine .base ?_
        cases h with
        | non => exact .non
        | bl b => exact .bl b
        | int b => exact .int b
        | str b => exact .str b
        | flt b => exact .flt b
        | lst e => exact .lst (k e)
        | frz e => exact .frz (k e)
        | tup e => exact .tup (k e)
        | dK e => exact .dK (k e)
        | dT e => exact .dT (k e)
        | ins e a b c d z => exact .ins (k e) a b c d z
      | byt b => exact .byt b
      | set e => exact .set (k e)
      | kList e c => exact .kList e c
      | kTuple e c => exact .kTuple e c
      | kDict e c => exact .kDict e c
      | fTuple e => exact .fTuple (k e)
      | fDict e => exact .fDict (k e)
    exact ty h2⟩
/-- int(a) -/
def toIntM : PR → PM PR
  | .p (.int i) => pure (.p (.int i))
  | .p (.bl b) => pure (.p (.int (if b then 1 else 0)))
  | _ => PM.stuck
theorem je_int1 (hg : Gl X "int") (hm : X.mg "int" = none) (ha : JE X g W a ma) (he : starEach [a] X.env = (false, eval a X.env) :: starEach [] X.env := by rfl) (hpl : (backTo pos (starEach [] X.env)).any (·.1) = false := by rfl) :
    JE X g W (.Call (.Name "int" p) [a] [] pos) (e1 toIntM ma) :=
  ofE (pe_callTy call_int1 hg hm boot_int (pa_cons ha pa_nil he) (by decide) (by decide) he hpl) fun _ _ σ H Q _ ⟨φ, ρ, st, rh, re, ok⟩ => ⟨φ, ρ, st, rh, re, ok.bind fun r st1 x φ1 H1 g1 h1 r1 ok1 => by
    cases r with
    | r i j => exact ok1.elim
    | p v =>
      cases v with
      | int i => cases rp_int.mp r1; exact .inl ⟨i, rfl, (show Ok g φ1 st1 H1 (RP g) Q W ((pure (.p (.int i)) : PM PR) st1) from ok1).intr h1⟩
      | bl b => cases rp_bl.mp r1; exact .inr ⟨b, rfl, (show Ok g φ1 st1 H1 (RP g) Q W ((pure (.p (.int (if b then 1 else 0))) : PM PR) st1) from ok1).intr h1⟩
      | _ => exact ok1.elim⟩
/-- truth values, numbers, within a list -/
def bools : List PV → PM (List Bool)
  | [] => pure []
  | .bl b :: l => bools l >>= fun r => pure (b :: r)
  | _ => PM.stuck
def intsOf : List PV → PM (List Int)
  | [] => pure []
  | .int b :: l => intsOf l >>= fun r => pure (b :: r)
  | _ => PM.stuck
theorem bools_ok {β : Type} {R : Ph → PSt → Hp → PR → β → Prop} {Q : β → Hp → Prop} {φ : Ph} {st : PSt} {H : Hp} : ∀ {l : List PV} {xs : List V} {f : List Bool → PM PR}, RVs g (live φ st) H l xs → Ok g φ st H R Q W ((bools l >>= f) st) → ∃ bs, xs = bs.map V.bl ∧ Ok g φ st H R Q W (f bs st)
  | [], _, f, r, ok => by simp only [RVs] at r; subst r; exact ⟨[], rfl, ok⟩
  | v :: l, _, f, r, ok => by
    simp only [RVs] at r
    obtain ⟨x, t, rfl, r1, r2⟩ := r
    cases v with
    | bl b =>
      simp only [RV] at r1
      subst r1
      have ok : Ok g φ st H R Q W ((bools l >>= fun r => f (b :: r)) st) := by
        have e : ((bools (.bl b :: l)) >>= f) = (bools l >>= fun r => f (b :: r)) := by
          show ((bools l >>= fun r => pure (b :: r)) >>= f) = _
          rw [PM.assoc]; rfl
        rw [← e]; exact ok
      obtain ⟨bs, e, ok⟩ := bools_ok r2 ok
      subst e
      exact ⟨b :: bs, rfl, ok⟩
    | _ => exact ok.elim
theorem intsOf_ok {β : Type} {R : Ph → PSt → Hp → PR → β → Prop} {Q : β → Hp → Prop} {φ : Ph} {st : PSt} {H : Hp} : ∀ {l : List PV} {xs : List V} {f : List Int → PM PR}, RVs g (live φ st) H l xs → Ok g φ st H R Q W ((intsOf l >>= f) st) → ∃ bs, xs = bs.map V.int ∧ Ok g φ st H R Q W (f bs st)
  | [], _, f, r, ok => by simp only [RVs] at r; subst r; exact ⟨[], rfl, ok⟩
  | v :: l, _, f, r, ok => by
    simp only [RVs] at r
    obtain ⟨x, t, rfl, r1, r2⟩ := r
    cases v with
    | int b =>
      simp only [RV] at r1
      subst r1
      have ok : Ok g φ st H R Q W ((intsOf l >>= fun r => f (b :: r)) st) := by
        have e : ((intsOf (.int b :: l)) >>= f) = (intsOf l >>= fun r => f (b :: r)) := by
          show ((intsOf l >>= fun r => pure (b :: r)) >>= f) = _
          rw [PM.assoc]; rfl
        rw [← e]; exact ok
      obtain ⟨bs, e, ok⟩ := intsOf_ok r2 ok
      subst e
      exact ⟨b :: bs, rfl, ok⟩
    | _ => exact ok.elim
def allM : PR → PM PR := fun r => seqL r >>= fun l => bools l >>= fun bs => retB (bs.all id)
def anyM : PR → PM PR := fun r => seqL r >>= fun l => bools l >>= fun bs => retB (bs.any id)
def sumM : PR → PM PR := fun r => seqL r >>= fun l => intsOf l >>= fun bs => pure (.p (.int bs.sum))
theorem je_all (hK : X.K = g.K) (hc : X.calm = true) (hg : Gl X "all") (hm : X.mg "all" = none) (ha : JE X g W a ma) (he : starEach [a] X.env = (false, eval a X.env) :: starEach [] X.env := by rfl) (hpl : (backTo pos (starEach [] X.env)).any (·.1) = false := by rfl) :
    JE X g W (.Call (.Name "all" p) [a] [] pos) (e1 allM ma) :=
  ofE (pe_callB (cr_all hc) hg hm boot_all (pa_cons ha pa_nil he) (by decide) (by decide) he hpl) fun _ _ σ H Q _ ⟨φ, ρ, st, rh, re, ok⟩ => ⟨φ, ρ, st, rh, re, ok.bind fun r st1 x φ1 H1 g1 h1 r1 ok1 => by
    obtain ⟨a, xs, l, rfl, s, rv, _, ok2⟩ := seqL_ok h1 r1 ok1
    obtain ⟨bs, rfl, ok3⟩ := bools_ok rv ok2
    exact ⟨a, bs, rfl, by rw [hK]; exact s, ok3.bl h1⟩⟩
theorem je_any (hK : X.K = g.K) (hc : X.calm = true) (hg : Gl X "any") (hm : X.mg "any" = none) (ha : JE X g W a ma) (he : starEach [a] X.env = (false, eval a X.env) :: starEach [] X.env := by rfl) (hpl : (backTo pos (starEach [] X.env)).any (·.1) = false := by rfl) :
    JE X g W (.Call (.Name "any" p) [a] [] pos) (e1 anyM ma) :=
  ofE (pe_callB (cr_any hc) hg hm boot_any (pa_cons ha pa_nil he) (by decide) (by decide) he hpl) fun _ _ σ H Q _ ⟨φ, ρ, st, rh, re, ok⟩ => ⟨φ, ρ, st, rh, re, ok.bind fun r st1 x φ1 H1 g1 h1 r1 ok1 => by
    obtain ⟨a, xs, l, rfl, s, rv, _, ok2⟩ := seqL_ok h1 r1 ok1
    obtain ⟨bs, rfl, ok3⟩ := bools_ok rv ok2
    exact ⟨a, bs, rfl, by rw [hK]; exact s, ok3.bl h1⟩⟩
theorem je_sum (hK : X.K = g.K) (hc : X.calm = true) (hg : Gl X "sum") (hm : X.mg "sum" = none) (ha : JE X g W a ma) (he : starEach [a] X.env = (false, eval a X.env) :: starEach [] X.env := by rfl) (hpl : (backTo pos (starEach [] X.env)).any (·.1) = false := by rfl) :
    JE X g W (.Call (.Name "sum" p) [a] [] pos) (e1 sumM ma) :=
  ofE (pe_callB (cr_sum hc) hg hm boot_sum (pa_cons ha pa_nil he) (by decide) (by decide) he hpl) fun _ _ σ H Q _ ⟨φ, ρ, st, rh, re, ok⟩ => ⟨φ, ρ, st, rh, re, ok.bind fun r st1 x φ1 H1 g1 h1 r1 ok1 => by
    obtain ⟨a, xs, l, rfl, s, rv, _, ok2⟩ := seqL_ok h1 r1 ok1
    obtain ⟨bs, rfl, ok3⟩ := intsOf_ok rv ok2
    exact ⟨a, bs, rfl, by rw [hK]; exact s, ok3.intr h1⟩⟩
/-- tuple(a), list(a) of a list or a tuple -/
def toTupM : PR → PM PR
  | .p (.tup l) => pure (.p (.tup l))
  | r => seqL r >>= fun l => pure (.p (.tup l))
def toLstM : PR → PM PR
  | .p (.tup l) => pure (.p (.lst l))
  | r => seqL r >>= fun l => pure (.p (.lst l))
theorem je_tuple (hK : X.K = g.K) (hg : Gl X "tuple") (hm : X.mg "tuple" = none) (ha : JE X g W a ma) (he : starEach [a] X.env = (false, eval a X.env) :: starEach [] X.env := by rfl) (hpl : (backTo pos (starEach [] X.env)).any (·.1) = false := by rfl) :
    JE X g W (.Call (.Name "tuple" p) [a] [] pos) (e1 toTupM ma) :=
  ofE (pe_callTy call_tuple_of hg hm boot_tuple (pa_cons ha pa_nil he) (by decide) (by decide) he hpl) fun _ _ σ H Q _ ⟨φ, ρ, st, rh, re, ok⟩ => ⟨φ, ρ, st, rh, re, ok.bind fun r st1 x φ1 H1 g1 h1 r1 ok1 => by
    have seq : Ok g φ1 st1 H1 (RP g) Q W ((seqL r >>= fun l => pure (.p (.tup l))) st1) → ∃ p ys, [x] = [.ref p] ∧ ((SqL X.K H1 p ys ∧ ∀ l, H1 l = none → Q (.ref l) (upd H1 l (.tup ys))) ∨ (SqT X.K H1 p ys ∧ Q (.ref p) H1)) := fun ok1 => by
      obtain ⟨a, xs, l, rfl, s, rv, _, ok2⟩ := seqL_ok h1 r1 ok1
      exact ⟨a, xs, rfl, .inl ⟨by rw [hK]; exact s, fun q hq => Ok.tup (show Ok g φ1 st1 H1 (RP g) Q W (.ok (.p (.tup l)) st1) from ok2) h1 rv hq⟩⟩
    cases r with
    | r i j => exact seq ok1
    | p v =>
      cases v with
      | tup l =>
        obtain ⟨a, xs, rfl, t, rv⟩ := rp_tup.mp r1
        exact ⟨a, xs, rfl, .inr ⟨by rw [hK]; exact t.sq, (show Ok g φ1 st1 H1 (RP g) Q W (.ok (.p (.tup l)) st1) from ok1).ret h1 r1⟩⟩
      | _ => exact seq ok1⟩
theorem je_list (hK : X.K = g.K) (hg : Gl X "list") (hm : X.mg "list" = none) (ha : JE X g W a ma) (he : starEach [a] X.env = (false, eval a X.env) :: starEach [] X.env := by rfl) (hpl : (backTo pos (starEach [] X.env)).any (·.1) = false := by rfl) :
    JE X g W (.Call (.Name "list" p) [a] [] pos) (e1 toLstM ma) :=
  ofE (pe_callTy call_list_of hg hm boot_list (pa_cons ha pa_nil he) (by decide) (by decide) he hpl) fun _ _ σ H Q _ ⟨φ, ρ, st, rh, re, ok⟩ => ⟨φ, ρ, st, rh, re, ok.bind fun r st1 x φ1 H1 g1 h1 r1 ok1 => by
    have seq : Ok g φ1 st1 H1 (RP g) Q W ((seqL r >>= fun l => pure (.p (.lst l))) st1) → ∃ p ys, [x] = [.ref p] ∧ (SqL X.K H1 p ys ∨ SqT X.K H1 p ys) ∧ ∀ l, H1 l = none → Q (.ref l) (upd H1 l (.lst ys)) := fun ok1 => by
      obtain ⟨a, xs, l, rfl, s, rv, _, ok2⟩ := seqL_ok h1 r1 ok1
      exact ⟨a, xs, rfl, .inl (by rw [hK]; exact s), fun q hq => Ok.lst (show Ok g φ1 st1 H1 (RP g) Q W (.ok (.p (.lst l)) st1) from ok2) h1 rv hq⟩
    cases r with
    | r i j => exact seq ok1
    | p v =>
      cases v with
      | tup l =>
        obtain ⟨a, xs, rfl, t, rv⟩ := rp_tup.mp r1
        exact ⟨a, xs, rfl, .inr (by rw [hK]; exact t.sq), fun q hq => Ok.lst (show Ok g φ1 st1 H1 (RP g) Q W (.ok (.p (.lst l)) st1) from ok1) h1 rv hq⟩
      | _ => exact seq ok1⟩
/-! ### walks -/
theorem wk_item {w : Wk} {J : It} {n : Nat} {φ : Ph} {st : PSt} {H : Hp} {G : Hp → Prop} {Y : Nat → Hp → V → Hp → Prop} {f : Nat → PV} (hn : ∀ k st, w.at_ k st = if k < n then .item (f k) else .stop) (wk : Walk J n G Y) (hG : ∀ (φ' : Ph) (st' : PSt) (H' : Hp), Kp (live φ st) H (live φ' st') H' → RH g φ' H' st' → G H')
    (hY : ∀ (k : Nat) (φ' : Ph) (st' : PSt) (H' : Hp) x H'', k < n → Kp (live φ st) H (live φ' st') H' → RH g φ' H' st' → Y k H' x H'' → (∀ a u, H' a = some u → H'' a = some u) ∧ RV g (live φ' st') H'' (f k) x) (hs : ∀ k H, n ≤ k → G H → J.stop k H) : WkR g φ st H w J := by
  intro k φ' st' H' kp pre rh
  rw [hn]
  by_cases h : k < n
  · rw [if_pos h]
    exact ⟨wk.goes k H' h (hG _ _ _ kp rh), fun x H'' hy => hY k φ' st' H' x H'' h kp rh (wk.yields k H' x H'' h (hG _ _ _ kp rh) hy)⟩
  · rw [if_neg h]
    exact hs k H' (Nat.le_of_not_lt h) (hG _ _ _ kp rh)
theorem wkL_at (l : List PV) (k : Nat) (st : PSt) : (wkL l).at_ k st = match l[k]? with
  | some v => .item v
  | none => .stop := rfl
/-- over the items of a pure list or tuple -/
theorem wk_list {l : List PV} {xs : List V} {a : Addr} {φ : Ph} {st : PSt} {H : Hp} (s : LsAt g (live φ st) H a xs) (rv : RVs g (live φ st) H l xs) : WkR g φ st H (wkL l) (Itl g.K a) := by
  intro k φ' st' H' kp pre rh
  have s' := (s.kp kp).sq
  have rv' := rv.kp kp
  rw [wkL_at]
  cases e : l[k]? with
  | none =>
    have h1 : l.length ≤ k := List.getElem?_eq_none_iff.mp e
    exact ⟨xs, s', by rw [rv.length]; exact h1⟩
  | some v =>
    obtain ⟨y, e1, r1⟩ := rv'.get e
    exact ⟨⟨xs, y, s', e1⟩, fun x H'' ⟨eH, hx⟩ => by
      subst eH
      have e2 := hx xs s'
      rw [e1] at e2
      cases e2
      exact ⟨fun _ _ e => e, r1⟩⟩
theorem wk_tup {l : List PV} {xs : List V} {a : Addr} {φ : Ph} {st : PSt} {H : Hp} (s : TpAt g (live φ st) H a xs) (rv : RVs g (live φ st) H l xs) : WkR g φ st H (wkL l) (Itt g.K a) := by
  intro k φ' st' H' kp pre rh
  have s' := (s.kp kp).sq
  have rv' := rv.kp kp
  rw [wkL_at]
  cases e : l[k]? with
  | none =>
    have h1 : l.length ≤ k := List.getElem?_eq_none_iff.mp e
    exact ⟨xs, s', by rw [rv.length]; exact h1⟩
  | some v =>
    obtain ⟨y, e1, r1⟩ := rv'.get e
    exact ⟨⟨xs, y, s', e1⟩, fun x H'' ⟨eH, hx⟩ => by
      subst eH
      have e2 := hx xs s'
      rw [e1] at e2
      cases e2
      exact ⟨fun _ _ e => e, r1⟩⟩
/-- the walks: over a list (kind L), a tuple (kind T); which of them, the text's writer knows -/
def iLstM (a : EM) : IM := fun ρ => a ρ >>= fun r => match r with
  | .p (.lst l) => pure (wkL l)
  | _ => PM.stuck
def iTupM (a : EM) : IM := fun ρ => a ρ >>= fun r => match r with
  | .p (.tup l) => pure (wkL l)
  | _ => PM.stuck
theorem ji_list {tg : Expr} (hK : X.K = g.K) (ha : JE X g W a ma) : JI X g W tg a (iLstM ma) :=
  ofI (pi_list ha) fun σ H R ⟨φ, ρ, st, rh, re, ok⟩ => ⟨φ, ρ, st, rh, re, (show Ok g φ st H (fun φ st H w J => WkR g φ st H w J) R W ((ma ρ >>= fun r => match r with
  | .p (.lst l) => (pure (wkL l) : PM Wk)
  | _ => PM.stuck) st) from ok).bind fun r st1 x φ1 H1 g1 h1 r1 ok1 => by
    cases r with
    | r i j => exact ok1.elim
    | p v =>
      cases v with
      | lst l =>
        obtain ⟨a, xs, rfl, t, rv⟩ := rp_lst.mp r1
        rw [hK]
        exact ⟨a, rfl, ⟨xs, t.sq⟩, (show Ok g φ1 st1 H1 (fun φ st H w J => WkR g φ st H w J) R W (.ok (wkL l) st1) from ok1) _ _ _ Go.refl h1 (wk_list t rv)⟩
      | _ => exact ok1.elim⟩
theorem ji_tup {tg : Expr} (hK : X.K = g.K) (ha : JE X g W a ma) : JI X g W tg a (iTupM ma) :=
  ofI (pi_tup ha) fun σ H R ⟨φ, ρ, st, rh, re, ok⟩ => ⟨φ, ρ, st, rh, re, (show Ok g φ st H (fun φ st H w J => WkR g φ st H w J) R W ((ma ρ >>= fun r => match r with
  | .p (.tup l) => (pure (wkL l) : PM Wk)
  | _ => PM.stuck) st) from ok).bind fun r st1 x φ1 H1 g1 h1 r1 ok1 => by
    cases r with
    | r i j => exact ok1.elim
    | p v =>
      cases v with
      | tup l =>
        obtain ⟨a, xs, rfl, t, rv⟩ := rp_tup.mp r1
        rw [hK]
        exact ⟨a, rfl, ⟨xs, t.sq⟩, (show Ok g φ1 st1 H1 (fun φ st H w J => WkR g φ st H w J) R W (.ok (wkL l) st1) from ok1) _ _ _ Go.refl h1 (wk_tup t rv)⟩
      | _ => exact ok1.elim⟩
def wkR (lo : Int) (n : Nat) : Wk := ⟨n, fun k _ => if k < n then .item (.int (lo + k)) else .stop⟩
def iRng1M (ta : Ev → PM (List PR)) : IM := fun ρ => ta ρ >>= fun l => match l with
  | [.p (.int j)] => if -(2 ^ 62) ≤ j ∧ j < 2 ^ 62 then pure (wkR 0 j.toNat) else PM.stuck
  | _ => PM.stuck
def iRng2M (ta : Ev → PM (List PR)) : IM := fun ρ => ta ρ >>= fun l => match l with
  | [.p (.int i), .p (.int j)] => if -(2 ^ 62) ≤ i ∧ i < 2 ^ 62 ∧ -(2 ^ 62) ≤ j ∧ j < 2 ^ 62 then pure (wkR i (j - i).toNat) else PM.stuck
  | _ => PM.stuck
theorem wk_range {lo : Int} {n : Nat} {φ : Ph} {st : PSt} {H : Hp} : WkR g φ st H (wkR lo n) (Itr lo n) := by
  intro k φ' st' H' kp pre rh
  show match (if k < n then Stp.item (.int (lo + k)) else .stop) with
    | .stuck => True
    | .stop => _
    | .item v => _
  by_cases h : k < n
  · rw [if_pos h]
    exact ⟨h, fun x H'' ⟨e1, e2⟩ => by subst e1; subst e2; exact ⟨fun _ _ e => e, by simp only [RV]⟩⟩
  · rw [if_neg h]
    exact Nat.le_of_not_lt h
theorem one_arg {φ : Ph} {st : PSt} {H : Hp} {r : PR} {vs : List V} (h : RPs g φ st H [r] vs) : ∃ x, vs = [x] ∧ RP g φ st H r x := by
  obtain ⟨x, t, rfl, h1, h2⟩ := h
  have h2 : t = [] := h2
  subst h2
  exact ⟨x, rfl, h1⟩
theorem two_args {φ : Ph} {st : PSt} {H : Hp} {r r2 : PR} {vs : List V} (h : RPs g φ st H [r, r2] vs) : ∃ x y, vs = [x, y] ∧ RP g φ st H r x ∧ RP g φ st H r2 y := by
  obtain ⟨x, t, rfl, h1, h2⟩ := h
  obtain ⟨y, rfl, h3⟩ := one_arg h2
  exact ⟨x, y, rfl, h1, h3⟩
theorem ji_range1 {tg : Expr} (hg : Gl X "range") (hm : X.mg "range" = none) (ha : JA X g W [a] margs) (hs : starEach [a] X.env = [(false, eval a X.env)] := by rfl) : JI X g W tg (.Call (.Name "range" p) [a] [] pos) (iRng1M margs) :=
  ofI (pi_range1 hg hm ha hs) fun σ H R ⟨φ, ρ, st, rh, re, ok⟩ => ⟨φ, ρ, st, rh, re, (show Ok g φ st H (fun φ st H w J => WkR g φ st H w J) R W ((margs ρ >>= fun l => match l with
  | [.p (.int j)] => if -(2 ^ 62) ≤ j ∧ j < 2 ^ 62 then (pure (wkR 0 j.toNat) : PM Wk) else PM.stuck
  | _ => PM.stuck) st) from ok).bind fun l st1 vs φ1 H1 g1 h1 r1 ok1 => by
    split at ok1
    · rename_i j
      obtain ⟨x, rfl, r2⟩ := one_arg r1
      cases rp_int.mp r2
      by_cases h : -(2 ^ 62) ≤ j ∧ j < 2 ^ 62
      · rw [if_pos h] at ok1
        exact ⟨j, rfl, h.1, h.2, (show Ok g φ1 st1 H1 (fun φ st H w J => WkR g φ st H w J) R W (.ok (wkR 0 j.toNat) st1) from ok1) _ _ _ Go.refl h1 wk_range⟩
      · rw [if_neg h] at ok1; exact ok1.elim
    · exact ok1.elim⟩
theorem ji_range2 {tg : Expr} (hg : Gl X "range") (hm : X.mg "range" = none) (ha : JA X g W [a, b] margs) (hs : starEach [a, b] X.env = [(false, eval a X.env), (false, eval b X.env)] := by rfl) (hs2 : starEach [b] X.env = [(false, eval b X.env)] := by rfl) : JI X g W tg (.Call (.Name "range" p) [a, b] [] pos) (iRng2M margs) :=
  ofI (pi_range2 hg hm ha hs hs2) fun σ H R ⟨φ, ρ, st, rh, re, ok⟩ => ⟨φ, ρ, st, rh, re, (show Ok g φ st H (fun φ st H w J => WkR g φ st H w J) R W ((margs ρ >>= fun l => match l with
  | [.p (.int i), .p (.int j)] => if -(2 ^ 62) ≤ i ∧ i < 2 ^ 62 ∧ -(2 ^ 62) ≤ j ∧ j < 2 ^ 62 then (pure (wkR i (j - i).toNat) : PM Wk) else PM.stuck
  | _ => PM.stuck) st) from ok).bind fun l st1 vs φ1 H1 g1 h1 r1 ok1 => by
    split at ok1
    · rename_i i j
      obtain ⟨x, y, rfl, r2, r3⟩ := two_args r1
      cases rp_int.mp r2
      cases rp_int.mp r3
      by_cases h : -(2 ^ 62) ≤ i ∧ i < 2 ^ 62 ∧ -(2 ^ 62) ≤ j ∧ j < 2 ^ 62
      · rw [if_pos h] at ok1
        exact ⟨i, j, rfl, h, (show Ok g φ1 st1 H1 (fun φ st H w J => WkR g φ st H w J) R W (.ok (wkR i (j - i).toNat) st1) from ok1) _ _ _ Go.refl h1 wk_range⟩
      · rw [if_neg h] at ok1; exact ok1.elim
    · exact ok1.elim⟩
/-- pairs -/
def zipV : List PV → List PV → List PV
  | a :: l, b :: m => .tup [a, b] :: zipV l m
  | _, _ => []
theorem zipV_get : ∀ {l m : List PV} {k : Nat}, (zipV l m)[k]? = (match l[k]?, m[k]? with
  | some a, some b => some (.tup [a, b])
  | _, _ => none)
  | [], _, k => by simp [zipV]
  | a :: l, [], k => by
    simp only [zipV, List.getElem?_nil]
    cases (a :: l)[k]? <;> rfl
  | a :: l, b :: m, 0 => by simp [zipV]
  | a :: l, b :: m, k + 1 => by
    have := @zipV_get l m k
    simpa [zipV] using this
theorem pair_rv {L : List Addr} {H : Hp} {T : Addr} {x y : V} {a b : PV} (hT : H T = none) (hn : T ∉ L) (h1 : RV g L H a x) (h2 : RV g L H b y) : RV g L (upd H T (.tup [x, y])) (.tup [a, b]) (.ref T) := by
  have k : Kp L H L (upd H T (.tup [x, y])) := .of (fun c u e _ => by rw [upd_ne (ne_of_none e hT)]; exact e) fun c h => .inl h
  simp only [RV]
  exact ⟨T, [x, y], rfl, .inl ⟨hn, .inl upd_same⟩, RVs.cons (h1.kp k) (RVs.cons (h2.kp k) RVs.nil)⟩
theorem wk_zipL {l m : List PV} {xs ys : List V} {a b : Addr} {φ : Ph} {st : PSt} {H : Hp} (s : LsAt g (live φ st) H a xs) (rv : RVs g (live φ st) H l xs) (s2 : LsAt g (live φ st) H b ys) (rv2 : RVs g (live φ st) H m ys) : WkR g φ st H (wkL (zipV l m)) (Itz g.K a b) := by
  intro k φ' st' H' kp pre rh
  have s' := (s.kp kp).sq
  have s2' := (s2.kp kp).sq
  have rv' := rv.kp kp
  have rv2' := rv2.kp kp
  rw [wkL_at, zipV_get]
  cases e : l[k]? with
  | none => exact ⟨xs, ys, s', s2', .inl (by rw [rv.length]; exact List.getElem?_eq_none_iff.mp e)⟩
  | some v =>
    cases e' : m[k]? with
    | none => exact ⟨xs, ys, s', s2', .inr (by rw [rv2.length]; exact List.getElem?_eq_none_iff.mp e')⟩
    | some w =>
      obtain ⟨x, e1, r1⟩ := rv'.get e
      obtain ⟨y, e2, r2⟩ := rv2'.get e'
      refine ⟨⟨xs, ys, x, y, s', s2', e1, e2⟩, fun z H'' hy => ?_⟩
      obtain ⟨T, x', y', rfl, hT, rfl, h1, h2⟩ := hy
      have h1 := h1 xs s'
      have h2 := h2 ys s2'
      rw [e1] at h1; cases h1
      rw [e2] at h2; cases h2
      exact ⟨fun c u e => by rw [upd_ne (ne_of_none e hT)]; exact e, pair_rv hT (rh.new hT) r1 r2⟩
theorem wk_zipT {l m : List PV} {xs ys : List V} {a b : Addr} {φ : Ph} {st : PSt} {H : Hp} (s : TpAt g (live φ st) H a xs) (rv : RVs g (live φ st) H l xs) (s2 : TpAt g (live φ st) H b ys) (rv2 : RVs g (live φ st) H m ys) : WkR g φ st H (wkL (zipV l m)) (RZ.ItzT g.K a b) := by
  intro k φ' st' H' kp pre rh
  have s' := (s.kp kp).sq
  have s2' := (s2.kp kp).sq
  have rv' := rv.kp kp
  have rv2' := rv2.kp kp
  rw [wkL_at, zipV_get]
  cases e : l[k]? with
  | none => exact ⟨xs, ys, s', s2', .inl (by rw [rv.length]; exact List.getElem?_eq_none_iff.mp e)⟩
  | some v =>
    cases e' : m[k]? with
    | none => exact ⟨xs, ys, s', s2', .inr (by rw [rv2.length]; exact List.getElem?_eq_none_iff.mp e')⟩
    | some w =>
      obtain ⟨x, e1, r1⟩ := rv'.get e
      obtain ⟨y, e2, r2⟩ := rv2'.get e'
      refine ⟨⟨xs, ys, x, y, s', s2', e1, e2⟩, fun z H'' hy => ?_⟩
      obtain ⟨T, x', y', rfl, hT, rfl, h1, h2⟩ := hy
      have h1 := h1 xs s'
      have h2 := h2 ys s2'
      rw [e1] at h1; cases h1
      rw [e2] at h2; cases h2
      exact ⟨fun c u e => by rw [upd_ne (ne_of_none e hT)]; exact e, pair_rv hT (rh.new hT) r1 r2⟩
def iZipM (ta : Ev → PM (List PR)) : IM := fun ρ => ta ρ >>= fun l => match l with
  | [.p (.lst l), .p (.lst m)] => pure (wkL (zipV l m))
  | [.p (.tup l), .p (.tup m)] => pure (wkL (zipV l m))
  | _ => PM.stuck
theorem ji_zip {tpos : Pos} {elts : List Expr} {kk : Nat} (hK : X.K = g.K) (hg : Gl X "zip") (hm : X.mg "zip" = none) (ha : JA X g W [a, b] margs)
    (hs : starEach [a, b] X.env = (false, eval a X.env) :: starEach [b] X.env := by rfl) (hpl : (backTo pos (starEach [b] X.env)).any (·.1) = false := by rfl) : JI X g W (.Tuple elts kk tpos) (.Call (.Name "zip" p) [a, b] [] pos) (iZipM margs) :=
  ofI (RZ.pi_zipA hg hm ha hs hpl) fun σ H R ⟨φ, ρ, st, rh, re, ok⟩ => ⟨φ, ρ, st, rh, re, (show Ok g φ st H (fun φ st H w J => WkR g φ st H w J) R W ((margs ρ >>= fun l => match l with
  | [.p (.lst l), .p (.lst m)] => (pure (wkL (zipV l m)) : PM Wk)
  | [.p (.tup l), .p (.tup m)] => pure (wkL (zipV l m))
  | _ => PM.stuck) st) from ok).bind fun l st1 vs φ1 H1 g1 h1 r1 ok1 => by
    rw [hK]
    split at ok1
    · rename_i l m
      obtain ⟨x, y, rfl, r2, r3⟩ := two_args r1
      obtain ⟨a1, xs, rfl, t1, v1⟩ := rp_lst.mp r2
      obtain ⟨a2, ys, rfl, t2, v2⟩ := rp_lst.mp r3
      exact ⟨a1, a2, xs, ys, rfl, .inl ⟨t1.sq, t2.sq, (show Ok g φ1 st1 H1 (fun φ st H w J => WkR g φ st H w J) R W (.ok (wkL (zipV l m)) st1) from ok1) _ _ _ Go.refl h1 (wk_zipL t1 v1 t2 v2)⟩⟩
    · rename_i l m
      obtain ⟨x, y, rfl, r2, r3⟩ := two_args r1
      obtain ⟨a1, xs, rfl, t1, v1⟩ := rp_tup.mp r2
      obtain ⟨a2, ys, rfl, t2, v2⟩ := rp_tup.mp r3
      exact ⟨a1, a2, xs, ys, rfl, .inr ⟨t1.sq, t2.sq, (show Ok g φ1 st1 H1 (fun φ st H w J => WkR g φ st H w J) R W (.ok (wkL (zipV l m)) st1) from ok1) _ _ _ Go.refl h1 (wk_zipT t1 v1 t2 v2)⟩⟩
    · exact ok1.elim⟩
/-! ### lists of the state -/
/-- o.append(a) -/
def apM : PR → PR → PM PR
  | .r i 0, .p v => fun st => match st[i]? with
    | some (.lst l) => if l.length < lim then .ok (.p .non) (st.set i (.lst (l ++ [v]))) else .stuck
    | _ => .stuck
  | _, _ => PM.stuck
theorem lst_set {φ : Ph} {st : PSt} {H : Hp} {i : Nat} {p : Addr × List Addr} {l l' : List PV} {xs xs' : List V} (rh : RH g φ H st) (h1 : φ.ls[i]? = some p) (h2 : st[i]? = some (.lst l)) (hx : H p.1 = some (.lst xs)) (rv : ∀ {H'}, Kp (live φ st) H (live φ st) H' → RVs g (live φ st) H' l' xs') :
    RH g φ (upd H p.1 (.lst xs')) (st.set i (.lst l')) ∧ Go φ st H φ (st.set i (.lst l')) (upd H p.1 (.lst xs')) := by
  have mem : p.1 ∈ live φ st := live_mem.mpr (.inr ⟨i, p, _, h1, h2, rfl, List.mem_cons_self ..⟩)
  obtain ⟨hp, _⟩ := rh.ob i p _ h1 h2
  exact rh.write (a := p.1) (u' := .lst l') (o := .lst xs') h1 h2 rfl rfl (List.mem_cons_self ..) ⟨hp, xs', upd_same, rv (kp_write mem)⟩
def lstR : PR → PM Unit
  | .r i 0 => fun st => match st[i]? with
    | some (.lst _) => .ok () st
    | _ => .stuck
  | _ => PM.stuck
def eAppend (mo ma : EM) : EM := fun ρ => mo ρ >>= fun x => lstR x >>= fun _ => ma ρ >>= fun y => apM x y
theorem lstR_ok {β : Type} {R : Ph → PSt → Hp → PR → β → Prop} {Q : β → Hp → Prop} {φ : Ph} {st : PSt} {H : Hp} {r : PR} {x : V} {f : Unit → PM PR} (rh : RH g φ H st) (rp : RP g φ st H r x) (ok : Ok g φ st H R Q W ((lstR r >>= f) st)) :
    ∃ i p l xs, r = .r i 0 ∧ x = .ref p.1 ∧ φ.ls[i]? = some p ∧ st[i]? = some (.lst l) ∧ H p.1 = some (.lst xs) ∧ Ok g φ st H R Q W (f () st) := by
  have ok : Ok g φ st H R Q W ((lstR r st).bind f) := ok
  cases r with
  | p v => exact ok.elim
  | r i j => cases j with
    | succ j => exact ok.elim
    | zero =>
      obtain ⟨q, e1, rfl⟩ := rp
      cases e2 : st[i]? with
      | none =>
        have e3 : lstR (.r i 0) st = .stuck := by simp only [lstR, e2]
        rw [e3] at ok; exact ok.elim
      | some o =>
        cases o with
        | lst l =>
          have e3 : lstR (.r i 0) st = .ok () st := by simp only [lstR, e2]
          rw [e3] at ok
          obtain ⟨_, xs, h1, h2⟩ := rh.ob i q _ e1 e2
          exact ⟨i, q, l, xs, rfl, rfl, e1, e2, h1, ok⟩
        | _ =>
          have e3 : lstR (.r i 0) st = .stuck := by simp only [lstR, e2]
          rw [e3] at ok; exact ok.elim
theorem apM_ok {φ : Ph} {st : PSt} {H : Hp} {Q : VK} {x y : PR} {xv yv : V} (rh : RH g φ H st) (rx : RP g φ st H x xv) (ry : RP g φ st H y yv) (ok : Ok g φ st H (RP g) Q W (apM x y st)) : rAppend xv [yv] H Q := by
  cases x with
  | p v => cases y <;> exact ok.elim
  | r i j => cases j with
    | succ j => cases y <;> exact ok.elim
    | zero => cases y with
      | r _ _ => exact ok.elim
      | p v =>
        obtain ⟨q, e1, rfl⟩ := rx
        cases e2 : st[i]? with
        | none =>
          have e3 : apM (.r i 0) (.p v) st = .stuck := by simp only [apM, e2]
          rw [e3] at ok; exact ok.elim
        | some o =>
          cases o with
          | lst l =>
            by_cases hl : l.length < lim
            · have e3 : apM (.r i 0) (.p v) st = .ok (.p .non) (st.set i (.lst (l ++ [v]))) := by simp only [apM, e2, if_pos hl]
              rw [e3] at ok
              obtain ⟨hp, xs, h1, h2⟩ := rh.ob i q _ e1 e2
              obtain ⟨h3, g3⟩ := lst_set (l' := l ++ [v]) (xs' := xs ++ [yv]) rh e1 e2 h1 fun k => (h2.kp k).append (RVs.cons (RV.kp k ry) RVs.nil)
              exact ⟨q.1, xs, yv, rfl, rfl, h1, by rw [sizeLine_eq, h2.length]; exact hl, ok _ _ _ g3 h3 (rp_non.mpr rfl)⟩
            · have e3 : apM (.r i 0) (.p v) st = .stuck := by simp only [apM, e2, if_neg hl]
              rw [e3] at ok; exact ok.elim
          | _ =>
            have e3 : apM (.r i 0) (.p v) st = .stuck := by simp only [apM, e2]
            rw [e3] at ok; exact ok.elim
theorem je_append {o : Expr} {mo : EM} {apos cpos : Pos} (hK : X.K = g.K) (ho : JE X g W o mo) (ha : JE X g W a ma)
    (hbase : attributeBase o "append" X.env (eval o X.env) = eval o X.env := by rfl)
    (hfew : ((backTo cpos (starEach [a] X.env)).all (fun x => !x.1) && (backToKw cpos (keywordEach [] X.env)).all (fun x => x.1.isSome)
      && decide ([a].length + ([] : List Keyword).length + (if ([] : List Keyword).isEmpty then 0 else 1) < 30)) = true := by rfl)
    (hline : (apos.endLine == cpos.line) = true := by rfl) (hs : starEach [a] X.env = (false, eval a X.env) :: starEach [] X.env := by rfl) (hplain : (backTo cpos (starEach [] X.env)).any (·.1) = false := by rfl) :
    JE X g W (.Call (.Attribute o "append" apos) [a] [] cpos) (eAppend mo ma) :=
  ofE (pe_bm PySem.F.plainAttrs_list PySem.F.slot_list_append PySem.F.type_list_append mt_append ho (pa_cons ha pa_nil hs) hbase hfew hline hs hplain) fun _ _ σ H Q _ ⟨φ, ρ, st, rh, re, ok⟩ => ⟨φ, ρ, st, rh, re, by
    have ok : Ok g φ st H (RP g) Q W ((mo ρ >>= fun x => lstR x >>= fun _ => ma ρ >>= fun y => apM x y) st) := ok
    refine ok.bind fun x st1 xv φ1 H1 g1 h1 r1 ok1 => ?_
    obtain ⟨i, p, l, xs, rfl, rfl, e1, e2, hx, ok2⟩ := lstR_ok h1 r1 ok1
    exact ⟨.inl ⟨rfl, xs, .of hx⟩, φ1, ρ, st1, h1, re.go g1, ok2.bind fun y st2 yv φ2 H2 g2 h2 r2 ok3 => apM_ok h2 (r1.go g2) r2 ok3⟩⟩
/-- o[i] = v of a list -/
def setLM : PR → PR → PR → PM Unit
  | .r i 0, .p (.int k), .p v => fun st => match st[i]? with
    | some (.lst l) => match ixN l.length k with
      | some j => .ok () (st.set i (.lst (l.set j v)))
      | none => .stuck
    | _ => .stuck
  | _, _, _ => PM.stuck
theorem sj_list : SetJ X g W setLM := by
  intro pins s σ H o iv v ov iv' u Q I ro ri rv ⟨φ, st, x, y, r, rh, rx, ry, rr, ok⟩
  have stuckE : setLM x y r st = .stuck → False := fun e => by rw [e] at ok; exact ok
  cases x with
  | p w => exact (stuckE (by cases y <;> cases r <;> rfl)).elim
  | r i j => cases j with
    | succ j => exact (stuckE (by cases y <;> cases r <;> rfl)).elim
    | zero => cases y with
      | r _ _ => exact (stuckE (by cases r <;> rfl)).elim
      | p w => cases w with
        | int k => cases r with
          | r _ _ => exact (stuckE rfl).elim
          | p v' =>
            obtain ⟨q, e1, rfl⟩ := rx
            cases rp_int.mp ry
            cases e2 : st[i]? with
            | none => exact (stuckE (by simp only [setLM, e2])).elim
            | some ob =>
              cases ob with
              | lst l =>
                cases e3 : ixN l.length k with
                | none => exact (stuckE (by simp only [setLM, e2, e3])).elim
                | some j =>
                  have e4 : setLM (.r i 0) (.p (.int k)) (.p v') st = .ok () (st.set i (.lst (l.set j v'))) := by simp only [setLM, e2, e3]
                  rw [e4] at ok
                  obtain ⟨hp, xs, h1, h2⟩ := rh.ob i q _ e1 e2
                  obtain ⟨h3, g3⟩ := lst_set (l' := l.set j v') (xs' := xs.set j v) rh e1 e2 h1 fun k => (h2.kp k).set j (RV.kp k rr)
                  exact set_list pins s σ H _ _ v ov iv' u Q I ro ri rv ⟨q.1, xs, k, j, rfl, rfl, h1, by rw [h2.length]; exact e3, ok () _ _ g3 h3 True.intro⟩
              | _ => exact (stuckE (by simp only [setLM, e2])).elim
        | _ => exact (stuckE (by cases r <;> rfl)).elim
end
end Vs
/-! Layer, part 6: errors raised, own ==, what is refused. -/
namespace Vs
open PySem L2
/-! ### own errors -/
/-- what the __init__ of the text's errors promises: self.value = value -/
def spErr (K : PySem.W.Frag) : Sp := fun vs H Q _ => ∃ (a C : Addr) (y : V), vs = [.ref a, y] ∧ OexC K C ∧ PySem.W.findIn K (.ref C) "value" = some none ∧ H a = some (exo a C none) ∧
  ∀ dx, H dx = none → dx ≠ a → Q .non (upd (upd H dx (exd dx [("value", y)])) a (exo a C (some dx)))
theorem err_ok {P : Program} {w : World} {K : PySem.W.Frag} {mg : Str → Option Value} {base : Heap} {x qual : Str} {params : Arguments} {body : List Stmt} {scope : Scope} {dvs : List V} {kws : List (Str × V)} {f : Addr} {fd : FuncData} {N : List Str} {k : Nat}
    (F : FunD K x qual params body scope dvs kws f fd) (S : FnScope N ["self", "value"] scope) (hN : N.length = 2)
    (hb : ∀ (cdv : Value) (A : Around) (outer : List Env) (s : Shared) (H : Hp) (E : XK), PSs (cxOf (CX P w) P w K mg base N qual scope f cdv A outer s H E) body (tOst K "value" (tVar 0) (tVar 1))) :
    FnOk P w K mg base (CX P w) (k + 1) f fd ["self", "value"] (spErr K) := by
  refine F.ok S (fun vs H Q E ⟨a, C, y, e, _⟩ => by rw [e]; rfl) fun cdv A outer s H vs Q E hr ⟨a, C, y, e, h1, h2, h3, h4⟩ => ⟨_, hb cdv A outer s H E, ?_⟩
  subst e
  have e0 : L2.start N [V.ref a, y] = [some (.ref a), some y] := by
    unfold L2.start
    rw [hN]; rfl
  rw [e0]
  exact ⟨y, rfl, .ref a, rfl, a, C, rfl, h1, h2, .inl ⟨h3, fun dx hn ne => h4 dx hn ne⟩⟩
def sRaise (c : Nat) (m : EM) : SM := fun ρ st => (m ρ st).toS fun r s => match r with
  | .p v => .err c v s
  | _ => .stuck
section
variable {X : Cx} {g : Gx} {W : XK} {a b c e : Expr} {es : List Expr} {ma mb mc : EM} {pos p : Pos} {margs : Ev → PM (List PR)} {x : Str} {k : Nat} {f : Addr} {fd : FuncData} {ps : List Str} {mf : FM}
/-- what the head says of an error class -/
structure ErrC (K : PySem.W.Frag) (C fI : Addr) : Prop where
  ox : OexC K C
  ini : PySem.W.findIn K (.ref C) "__init__" = some (some (.ref fI))
  tI : PySem.W.typeIn K (.ref fI) = some (.type "function")
  val : PySem.W.findIn K (.ref C) "value" = some none
theorem raise_H {H1 : Hp} {a d C : Addr} {y : V} (ha : H1 a = none) (hd : d ≠ a) (hd1 : H1 d = none) : upd (del (upd (upd (upd H1 a (exo a C none)) d (exd d [("value", y)])) a (exo a C (some d))) a) d (.xd [("value", y)]) = upd H1 d (.xd [("value", y)]) := by
  funext b
  by_cases hb : b = d
  · subst hb; rw [upd_same, upd_same]
  · rw [upd_ne hb, upd_ne hb]
    by_cases hba : b = a
    · subst hba; rw [del_same, ha]
    · rw [del_ne hba, upd_ne hba, upd_ne hb, upd_ne hba]
theorem js_raise {cn : Nat} (T : ErrC X.K (g.cA cn) f) (F : FnOk X.prog X.w X.K X.mg X.base (CX X.prog X.w) k f fd ["self", "value"] (spErr X.K)) (hr : Room (k + 1) X.A) (hb : Binds X.K fd ["self", "value"] []) (hc : X.calm = true) (tk : Tk X W) (hg : Gl X x) (hm : X.mg x = some (.ref (g.cA cn))) (ha : JE X g W a ma)
    (hdb : (x == ("__debug__" : Str)) = false := by decide) (he : starEach [a] X.env = (false, eval a X.env) :: starEach [] X.env := by rfl) (hpl : (backTo p (starEach [] X.env)).any (·.1) = false := by rfl) {px : Pos} :
    JS X g W (.Raise (some (.Call (.Name x px) [a] [] p)) none pos) (sRaise cn ma) :=
  ofS (ps_raise hc tk (pmk_oex T.ox T.ini T.tI F hr hb .nil (passes_call (W := fun _ _ _ _ => False) LamX.takes0 fun _ _ _ _ h => h) hg hm (pa_cons ha pa_nil he) hdb he hpl)) fun D σ H ⟨φ, ρ, st, rh, re, ok⟩ => ⟨φ, ρ, st, rh, re, OkS.bind ok fun r st1 y φ1 H1 g1 h1 r1 ok1 => ⟨by simp, fun q hq => by
    cases r with
    | r i j => exact ok1.elim
    | p v =>
      have ok1 : OkS g φ1 st1 H1 D W (.err cn v st1) := ok1
      refine ⟨q, g.cA cn, y, rfl, T.ox, T.val, upd_same, fun dx hn ne => ?_⟩
      have hn1 : H1 dx = none := by rw [upd_ne ne] at hn; exact hn
      refine ⟨rfl, dx, [("value", y)], upd_same, by rw [upd_ne ne, upd_same], hn1, ?_⟩
      rw [raise_H hq ne hn1]
      obtain ⟨h2, g2⟩ := h1.fresh (o := .xd [("value", y)]) hn1
      exact ok1 dx φ1 _ y g2 h2 upd_same (RV.kp g2.kp r1)⟩⟩
/-! ### own == -/
/-- what the head says of a class with its own == -/
structure EqC (K : PySem.W.Frag) (C fE : Addr) : Prop where
  cls : Cls K C
  find : PySem.W.findIn K (.ref C) "__eq__" = some (some (.ref fE))
  fn : PySem.W.isFn K (.ref fE) = true
  nf : ∀ n ∈ tyNs, PySem.W.notFirst K C (.type n) = true
/-- a == b, a of the class c: its __eq__ -/
def isObjC (c : Nat) : PR → PM PR
  | .p (.obj c' ns vs) => if c' = c then pure (.p (.obj c' ns vs)) else PM.stuck
  | .r i 0 => fun st => match st[i]? with
    | some (.ins c' _ _ _) => if c' = c then .ok (.r i 0) st else .stuck
    | _ => .stuck
  | _ => PM.stuck
def eqOM (c : Nat) (f : FM) : PR → PR → PM PR := fun x y => isObjC c x >>= fun x => fun st => match clOf st y with
  | some (.ty n) => if n ∈ tyNs then ((f [x, y] >>= fun r => asB r >>= fun b => retB b) st) else .stuck
  | some (.own c') => if c' = c then ((f [x, y] >>= fun r => asB r >>= fun b => retB b) st) else .stuck
  | none => .stuck
theorem isObjC_ok {c : Nat} {φ : Ph} {st : PSt} {H : Hp} {β : Type} {R : Ph → PSt → Hp → PR → β → Prop} {Q : β → Hp → Prop} {f : PR → PM PR} {r : PR} {x : V} (rh : RH g φ H st) (rp : RP g φ st H r x) (ok : Ok g φ st H R Q W ((isObjC c r >>= f) st)) :
    ∃ a dx fs, x = .ref a ∧ H a = some (.ins (g.cA c) dx fs) ∧ Ok g φ st H R Q W (f r st) := by
  have ok' : Ok g φ st H R Q W ((isObjC c r st).bind f) := ok
  clear ok
  cases r with
  | p u =>
    cases u with
    | obj c' ns vs =>
      have rp : RV g (live φ st) H (.obj c' ns vs) x := rp
      simp only [RV] at rp
      obtain ⟨a, dx, xs, rfl, n, t, z, r⟩ := rp
      have e : isObjC c (.p (.obj c' ns vs)) st = (if c' = c then (pure (.p (.obj c' ns vs)) : PM PR) else PM.stuck) st := rfl
      by_cases h : c' = c
      · rw [e, if_pos h] at ok'
        subst h
        exact ⟨a, dx, _, rfl, t, ok'⟩
      · rw [e, if_neg h] at ok'; exact ok'.elim
    | _ => exact ok'.elim
  | r i j => cases j with
    | succ j => exact ok'.elim
    | zero =>
      obtain ⟨p, e1, rfl⟩ := rp
      cases e2 : st[i]? with
      | none =>
        have e3 : isObjC c (.r i 0) st = .stuck := by simp only [isObjC, e2]
        rw [e3] at ok'; exact ok'.elim
      | some o =>
        cases o with
        | ins c' ns vs kn =>
          by_cases h : c' = c
          · have e3 : isObjC c (.r i 0) st = .ok (.r i 0) st := by simp only [isObjC, e2, if_pos h]
            rw [e3] at ok'
            subst h
            cases kn with
            | none =>
              obtain ⟨_, dx, xs, q1, q2, q3⟩ := rh.ob i p _ e1 e2
              exact ⟨p.1, dx, _, rfl, q1, ok'⟩
            | some q =>
              obtain ⟨n2, d⟩ := q
              obtain ⟨b, dx, xs, hb, q1, _⟩ := rh.ob i p _ e1 e2
              exact ⟨p.1, dx, _, rfl, q1, ok'⟩
          · have e3 : isObjC c (.r i 0) st = .stuck := by simp only [isObjC, e2, if_neg h]
            rw [e3] at ok'; exact ok'.elim
        | _ =>
          have e3 : isObjC c (.r i 0) st = .stuck := by simp only [isObjC, e2]
          rw [e3] at ok'; exact ok'.elim
theorem looks_ty {M : Model} {pins : List (Addr × Obj)} {s : Shared} {σ : St} {H : Hp} {x : V} {u : Value} {n : String} (I : Inv X pins σ H s) (rx : RelV x u) (ty : TyX X.K H x (.type n)) (hn : n ∈ tyNs) : PySem.W.Looks M s.heap (typeOf u) (.type n) := by
  have seq : ∀ {a : Addr} {o : Obj}, u = .ref a → s.heap.get? a = some o → o.cls = .type n → PySem.W.Looks M s.heap (typeOf u) (.type n) := fun {a o} e ho hc => by
    subst e
    intro A Q E s' k q
    exact wpAny_typeOf_ref (k _ _ ho) (by rw [hc]; exact q)
  cases ty with
  | base h =>
    cases h with
    | non => cases (show u = Value.none from rx); exact .now
    | bl b => cases (show u = Value.bool b from rx); exact .now
    | int i => obtain ⟨t, rfl⟩ := (show ∃ t, u = Value.int i t from rx); exact .now
    | str i => obtain ⟨t, rfl⟩ := (show ∃ t, u = Value.str i t from rx); exact .now
    | flt i => obtain ⟨t, rfl⟩ := (show ∃ t, u = Value.float i t from rx); exact .now
    | @lst a xs e =>
      obtain ⟨_, _, _, _, h1⟩ := (show ObjOk X.prog X.w H s.heap a (.lst xs) from I.hok a _ e)
      exact seq (show u = .ref a from rx) h1 rfl
    | @frz a o xs e =>
      obtain ⟨_, _, _, _, _, h1⟩ := (show ObjOk X.prog X.w H s.heap a (.frz o (.lst xs)) from I.hok a _ e)
      exact seq (show u = .ref a from rx) h1 rfl
    | @tup a xs e =>
      obtain ⟨_, _, _, o, h1, h2, _⟩ := (show ObjOk X.prog X.w H s.heap a (.tup xs) from I.hok a _ e)
      exact seq (show u = .ref a from rx) h1 h2
    | @dK a xs e =>
      obtain ⟨_, _, _, _, o, _, _, h1, h2, _⟩ := (show ObjOk X.prog X.w H s.heap a (.dK xs) from I.hok a _ e)
      exact seq (show u = .ref a from rx) h1 h2.1
    | @dT a xs e =>
      obtain ⟨_, _, _, _, o, _, _, h1, h2, _⟩ := (show ObjOk X.prog X.w H s.heap a (.dT xs) from I.hok a _ e)
      exact seq (show u = .ref a from rx) h1 h2.1
  | byt b => simp [tyNs] at hn
  | set e => simp [tyNs] at hn
  | @kList a o e c => exact seq (show u = .ref a from rx) (I.kIn _ _ e) c
  | @kTuple a o e c => exact seq (show u = .ref a from rx) (I.kIn _ _ e) c
  | @kDict a o e c => exact seq (show u = .ref a from rx) (I.kIn _ _ e) c
  | @fTuple a o xs e =>
    obtain ⟨_, _, _, _, o, h1, h2, _⟩ := (show ObjOk X.prog X.w H s.heap a (.frz o (.tup xs)) from I.hok a _ e)
    exact seq (show u = .ref a from rx) h1 h2
  | @fDict a o xs e =>
    obtain ⟨_, _, _, _, _, o, _, _, h1, h2, _⟩ := (show ObjOk X.prog X.w H s.heap a (.frz o (.dK xs)) from I.hok a _ e)
    exact seq (show u = .ref a from rx) h1 h2.1
theorem looks_own {M : Model} {pins : List (Addr × Obj)} {s : Shared} {σ : St} {H : Hp} {x : V} {u : Value} {C : Addr} (I : Inv X pins σ H s) (rx : RelV x u) (ty : TyX X.K H x (.ref C)) : PySem.W.Looks M s.heap (typeOf u) (.ref C) := by
  cases ty with
  | base h =>
    cases h with
    | @ins a C dx fs e cl ha hn htk hm =>
      cases (show u = Value.ref a from rx)
      obtain ⟨mA, J, _⟩ := ins_get I.hok e
      obtain ⟨od, J, _⟩ := J.look
      exact J.type
theorem run_eq {φ : Ph} {st : PSt} {H : Hp} {Q : V → Hp → Prop} {pins : List (Addr × Obj)} {s : Shared} {σ : St} {x y : PR} {xa : Addr} {yv : V} {yu : Value} (F : FnOk X.prog X.w X.K X.mg X.base (CX X.prog X.w) k f fd ps (spF g mf)) (hr : Room k X.A) (hb : Binds X.K fd ps []) (tk : Tk X W) (I : Inv X pins σ H s) (rh : RH g φ H st) (r1 : RP g φ st H x (.ref xa)) (r2 : RP g φ st H y yv) (ry : RelV yv yu)
    {fb : Bool → PM PR} (ok : Ok g φ st H (RP g) Q W ((mf [x, y] >>= fun r => asB r >>= fb) st)) : wpAny (model X.prog X.w) X.A (call (.ref f) [.ref xa, yu]) (EP X pins σ fun z H' => ∃ b, z = .bl b ∧ ∃ φ' st', Go φ st H φ' st' H' ∧ RH g φ' H' st' ∧ Ok g φ' st' H' (RP g) Q W (fb b st')) X.xe s := by
  refine run_fn (us := [.ref xa, yu]) (vs := [.ref xa, yv]) (ds := []) (dvs := []) F hr hb .nil (passes_call tk fun _ _ _ _ h => h) I (.cons rfl (.cons ry .nil)) ?_
  refine ⟨φ, st, [x, y], rh, ⟨_, _, rfl, r1, _, _, rfl, r2, rfl⟩, ok.bind fun r st1 z φ1 H1 g1 h1 rz ok1 => ?_⟩
  obtain ⟨b, e, q⟩ := asB_ok (Q := fun b H' => ∃ φ' st', Go φ st H φ' st' H' ∧ RH g φ' H' st' ∧ Ok g φ' st' H' (RP g) Q W (fb b st')) h1 rz (ok1.bind fun b st2 b' φ2 H2 g2 h2 e ok2 => by
    subst e
    exact ⟨φ2, st2, g1.trans g2, h2, ok2⟩)
  exact ⟨b, e, q⟩
theorem oj_eqO {cn : Nat} {ks : List Nat} (hK : X.K = g.K) (T : EqC X.K (g.cA cn) f) (IS : ClsIs g ks) (hks : cn ∈ ks) (F : FnOk X.prog X.w X.K X.mg X.base (CX X.prog X.w) k f fd ps (spF g mf)) (hr : Room k X.A) (hb : Binds X.K fd ps []) (tk : Tk X W) : OpJ X g W (compareOp .Eq) (eqOM cn mf) := by
  intro pins s σ H x y v u Q I rx ry ⟨φ, st, a, b, rh, ra, rb, ok⟩
  obtain ⟨xa, dx, fs, rfl, hx, ok⟩ := isObjC_ok rh ra ok
  cases rx
  obtain ⟨mA, J, _⟩ := ins_get I.hok hx
  obtain ⟨od, J, _⟩ := J.look
  obtain ⟨m, hF⟩ := I.fr
  have main : ∀ {tb : Value}, PySem.W.Looks (model X.prog X.w) s.heap (typeOf u) tb → PySem.W.notFirst X.K (g.cA cn) tb = true → Ok g φ st H (RP g) Q W ((mf [a, b] >>= fun r => asB r >>= fun b => retB b) st) → wpAny (model X.prog X.w) X.A (compareOp .Eq (.ref xa) u) (EP X pins σ Q) X.xe s := fun {tb} L nf ok => by
    refine PySem.W.cmp_K (op := .Eq) (tb := tb) hr.units0 hF I.ok.mod.kin J L nf T.find T.fn ?_
    refine wpAny_mono (run_eq F hr hb tk I rh ra rb ry ok) (fun r s' q => ?_) fun _ _ e => e
    obtain ⟨z, H', I', rz, bb, rfl, φ', st', g', h', ok'⟩ := q
    cases rz
    exact ⟨.bl bb, H', I', rfl, ok'.bl h'⟩
  cases e : clOf st b with
  | none => simp only [e] at ok; exact ok.elim
  | some t =>
    simp only [e] at ok
    cases t with
    | ty n =>
      dsimp only at ok
      by_cases hn : n ∈ tyNs
      · rw [if_pos hn] at ok
        have ty := (cl_ty IS rh rb e (by rfl)).1
        exact main (looks_ty I ry (by rw [hK]; exact ty) hn) (T.nf n hn) ok
      · rw [if_neg hn] at ok; exact ok.elim
    | own c' =>
      dsimp only at ok
      by_cases hn : c' = cn
      · rw [if_pos hn] at ok
        have okZ := ok
        clear ok
        subst hn
        have hk : (Cl.own c').inK ks = true := by simpa [Cl.inK] using hks
        have ty := (cl_ty IS rh rb e hk).1
        exact main (looks_own I ry (by rw [hK]; exact ty)) (by simp [PySem.W.notFirst]) okZ
      · rw [if_neg hn] at ok; exact ok.elim
end
end Vs
/-! Layer, part 6b: a != b by the own ==. -/
namespace Vs
open PySem PySem.W L2
section
variable {prog : Program} {w : World} {A : Around} {E : Value → Shared → Prop} {s : Shared} {K : Frag} {x C f : Addr} {ox : Obj} {od : Option Obj} {name : Str} {b tb : Value} {id : String}
/-- a special method that is a built-in one, called -/
theorem special_builtin {M : Model} {args : List Value} {R : Option Value → Shared → Prop} (kin : K.In s.heap) (inst : InstAt s.heap x ox C od) (found : findIn K (.ref C) name = some (some (.builtin id)))
    (bound : bindSpecial (.builtin id) (.ref x) = pure (.builtin id, [.ref x])) (run : wpAny M A (call (.builtin id) (.ref x :: args)) (fun v => R (some v)) E s) : wpAny M A (callSpecialIfBound? (.ref x) name args) R E s := by
  have last : wpAny M A (do let v ← call (.builtin id) ([.ref x] ++ args); pure (some v)) R E s := wpAny_bind (wpAny_mono run (fun _ _ q => wpAny_pure q) fun _ _ q => q)
  unfold callSpecialIfBound? bindSpecialIfBound?
  refine wpAny_holding <| wpAny_bind <| wpAny_bind <| wpAny_bind <| inst.type.here <| (looks_findIn kin found).here <| wpAny_bind <| wpAny_askSetting <| wpAny_ite ?_
  have bd : ∀ {Z : Value × List Value → Sem (Option (Value × List Value))} {R' : Option (Value × List Value) → Shared → Prop} {E' : Value → Shared → Prop}, wpAny M A (Z (.builtin id, [.ref x])) R' E' s → wpAny M A (bindSpecial (.builtin id) (.ref x) >>= Z) R' E' s := fun h => by
    rw [bound]; exact wpAny_bind (wpAny_pure h)
  split
  · exact bd (wpAny_pure last)
  · exact wpAny_tryCatch (bd (wpAny_pure last))
theorem bind_ne (self : Value) : bindSpecial (.builtin "object.__ne__") self = pure (.builtin "object.__ne__", [self]) := rfl
/-- object's != asks the own == -/
theorem object_ne {R : Fin → Shared → Prop} (kin : K.In s.heap) (inst : InstAt s.heap x ox C od) (own : findIn K (.ref C) "__eq__" = some (some (.ref f))) (isf : isFn K (.ref f) = true) (room : A.units < cLine)
    (run : wpAny (model prog w) A (call (.ref f) [.ref x, b]) (fun v s' => ∃ k, v = .bool k ∧ R (.done (.ret (.bool (!k)))) s') E s) : wpAny (model prog w) A (Builtin.«object.__ne__» ⟨[.ref x, b], []⟩) R E s := by
  have asked : wpAny (model prog w) A (callSpecialIfBound? (.ref x) (Str.ofString "__eq__") [b]) (fun o s' => ∃ k, o = some (.bool k) ∧ R (.done (.ret (.bool (!k)))) s') E s :=
    ifBound_K kin inst own isf (wpAny_mono run (fun v s' ⟨k, e, q⟩ => ⟨k, by rw [e], q⟩) fun _ _ q => q)
  unfold Builtin.«object.__ne__»
  repeat (first
    | (with_reducible refine wpAny_cRoomFor room ?_)
    | (refine wpAny_bind (wpAny_mono asked (fun o s' ⟨k, e, q⟩ => ?_) fun _ _ q => q)
       subst e
       repeat (first
         | exact wpAny_pure q
         | exact q
         | exact wpAny_truthy_bool q
         | (refine wpAny_bind (m := truthy (.bool k)) (wpAny_truthy_bool ?_))
         | wp_step))
    | wp_step)
theorem cmp_ne {R : Value → Shared → Prop} (room : A.units + 1 < cLine) (kin : K.In s.heap) (inst : InstAt s.heap x ox C od) (right : Looks (model prog w) s.heap (typeOf b) tb) (nf : notFirst K C tb = true)
    (hne : findIn K (.ref C) "__ne__" = some (some (.builtin "object.__ne__"))) (hm : mroIn K C (.type "object") = some true) (own : findIn K (.ref C) "__eq__" = some (some (.ref f))) (isf : isFn K (.ref f) = true)
    (run : wpAny (model prog w) A.in1 (call (.ref f) [.ref x, b]) (fun v s' => ∃ k, v = .bool k ∧ R (.bool (!k)) s') E s) : wpAny (model prog w) A (richCompare .NotEq (.ref x) b) R E s := by
  have tried : wpAny (model prog w) A (tryCompare (.ref x) "__ne__" b) (fun r s' => ∃ v, r = some v ∧ R v s') E s := by
    unfold tryCompare
    refine wpAny_bind (special_builtin kin inst hne (bind_ne _) (wpAny_call (codeAny_call_builtin F.cmp_object.ne.plain PySem.F.cmpEntry_ne
      (check_slot PySem.F.cmpKind_ne PySem.F.cmpSplit_ne (inst.type.andThen (looks_mroIn kin hm)) (PySem.F.cmpArgs_ne _ _) (object_ne (A := A.in1) kin inst own isf room (wpAny_mono run (fun v s' hv => ?_) fun _ _ q => q))))))
    obtain ⟨k, rfl, q⟩ := hv
    first | exact ⟨k, rfl, wpAny_pure ⟨_, rfl, q⟩⟩ | exact ⟨k, rfl, ⟨_, rfl, q⟩⟩
  have ending : ∀ {Z : Option Value → Sem Value}, (∀ v, Z (some v) = pure v) → wpAny (model prog w) A (tryCompare (.ref x) "__ne__" b >>= Z) R E s := fun {Z} hZ =>
    wpAny_bind (wpAny_mono tried (fun r s' ⟨v, e, q⟩ => by rw [e, hZ]; exact wpAny_pure q) fun _ _ q => q)
  unfold richCompare
  simp only [oneThing_ref]
  refine wpAny_holding (wpAny_bind (wpAny_cRoomFor (by omega) (wpAny_bind (inst.type.here (wpAny_bind (right.here ?_))))))
  have sub : tb ≠ .ref C → subIn K tb (.ref C) = some false := fun n => by
    have z := nf
    unfold notFirst at z
    rw [beq_eq_false_iff_ne.mpr n, Bool.false_or] at z
    exact beq_iff_eq.mp z
  split
  · rename_i q
    exact wpAny_bind ((looks_subIn kin (sub fun z => by rw [z] at q; simp at q)).here (ending fun _ => rfl))
  · exact wpAny_bind (wpAny_pure (ending fun _ => rfl))
end
end Vs
/-! Layer, part 6c: a != b; what _law_refused tells. -/
namespace Vs
open PySem L2
section
variable {X : Cx} {g : Gx} {W : XK} {a b c e : Expr} {es : List Expr} {ma mb mc : EM} {pos p : Pos} {margs : Ev → PM (List PR)} {x : Str} {k : Nat} {f : Addr} {fd : FuncData} {ps : List Str} {mf : FM}
/-- the callee runs, one step further down -/
theorem run_fn1 {CT : CXT} {sp : Sp} {E : XK} {pins : List (Addr × Obj)} {σ : St} {H : Hp} {s : Shared} {Q : VK} {us : List Value} {vs : List V} (F : FnOk X.prog X.w X.K X.mg X.base CT k f fd ps sp) (hr : Room k X.A.in1) (hb : Binds X.K fd ps []) (hx : Passes CT X E)
    (I : Inv X pins σ H s) (r : Vals vs us) (q : sp vs H Q E) : wpAny (model X.prog X.w) X.A.in1 (call (.ref f) us) (EP X pins σ Q) X.xe s := by
  have n : us.length = ps.length := by rw [← r.length]; exact F.len _ _ _ _ q
  have bd : BindsTo s fd ⟨us, []⟩ (ps.zip us) := by simpa using hb s us I.kIn (by simpa using n)
  refine wpAny_call (codeAny_mono (F.run _ _ s H _ us vs Q E hr I.env0.in1 bd r q) fun o s' z => ?_)
  match o, z with
  | .error e, z => exact hx pins σ H s e s' I z
  | .ok (.ret u), z => exact I.after z
theorem run_eq1 {φ : Ph} {st : PSt} {H : Hp} {Q : V → Hp → Prop} {pins : List (Addr × Obj)} {s : Shared} {σ : St} {x y : PR} {xa : Addr} {yv : V} {yu : Value} (F : FnOk X.prog X.w X.K X.mg X.base (CX X.prog X.w) k f fd ps (spF g mf)) (hr : Room k X.A.in1) (hb : Binds X.K fd ps []) (tk : Tk X W) (I : Inv X pins σ H s) (rh : RH g φ H st) (r1 : RP g φ st H x (.ref xa)) (r2 : RP g φ st H y yv) (ry : RelV yv yu)
    {fb : Bool → PM PR} (ok : Ok g φ st H (RP g) Q W ((mf [x, y] >>= fun r => asB r >>= fb) st)) : wpAny (model X.prog X.w) X.A.in1 (call (.ref f) [.ref xa, yu]) (EP X pins σ fun z H' => ∃ b, z = .bl b ∧ ∃ φ' st', Go φ st H φ' st' H' ∧ RH g φ' H' st' ∧ Ok g φ' st' H' (RP g) Q W (fb b st')) X.xe s := by
  refine run_fn1 (us := [.ref xa, yu]) (vs := [.ref xa, yv]) F hr hb (passes_call tk fun _ _ _ _ h => h) I (.cons rfl (.cons ry .nil)) ?_
  refine ⟨φ, st, [x, y], rh, ⟨_, _, rfl, r1, _, _, rfl, r2, rfl⟩, ok.bind fun r st1 z φ1 H1 g1 h1 rz ok1 => ?_⟩
  obtain ⟨b, e, q⟩ := asB_ok (Q := fun b H' => ∃ φ' st', Go φ st H φ' st' H' ∧ RH g φ' H' st' ∧ Ok g φ' st' H' (RP g) Q W (fb b st')) h1 rz (ok1.bind fun b st2 b' φ2 H2 g2 h2 e ok2 => by
    subst e
    exact ⟨φ2, st2, g1.trans g2, h2, ok2⟩)
  exact ⟨b, e, q⟩
def neOM (c : Nat) (f : FM) : PR → PR → PM PR := fun x y => isObjC c x >>= fun x => fun st => match clOf st y with
  | some (.ty n) => if n ∈ tyNs then ((f [x, y] >>= fun r => asB r >>= fun b => retB (!b)) st) else .stuck
  | some (.own c') => if c' = c then ((f [x, y] >>= fun r => asB r >>= fun b => retB (!b)) st) else .stuck
  | none => .stuck
theorem oj_neO {cn : Nat} {ks : List Nat} (hK : X.K = g.K) (T : EqC X.K (g.cA cn) f) (hne : PySem.W.findIn X.K (.ref (g.cA cn)) "__ne__" = some (some (.builtin "object.__ne__"))) (IS : ClsIs g ks) (hks : cn ∈ ks) (F : FnOk X.prog X.w X.K X.mg X.base (CX X.prog X.w) k f fd ps (spF g mf)) (hr : Room (k + 1) X.A) (hb : Binds X.K fd ps []) (tk : Tk X W) : OpJ X g W (compareOp .NotEq) (neOM cn mf) := by
  intro pins s σ H x y v u Q I rx ry ⟨φ, st, a, b, rh, ra, rb, ok⟩
  obtain ⟨xa, dx, fs, rfl, hx, ok⟩ := isObjC_ok rh ra ok
  cases rx
  obtain ⟨mA, J, _⟩ := ins_get I.hok hx
  obtain ⟨od, J, _⟩ := J.look
  have hm : PySem.W.mroIn X.K (g.cA cn) (.type "object") = some true := by rw [hK]; exact (IS.at_ cn hks).hm
  have main : ∀ {tb : Value}, PySem.W.Looks (model X.prog X.w) s.heap (typeOf u) tb → PySem.W.notFirst X.K (g.cA cn) tb = true → Ok g φ st H (RP g) Q W ((mf [a, b] >>= fun r => asB r >>= fun b => retB (!b)) st) → wpAny (model X.prog X.w) X.A (compareOp .NotEq (.ref xa) u) (EP X pins σ Q) X.xe s := fun {tb} L nf ok => by
    refine cmp_ne (tb := tb) (by have := hr.un; omega) I.kIn J L nf hne hm T.find T.fn ?_
    refine wpAny_mono (run_eq1 F hr.in1 hb tk I rh ra rb ry ok) (fun r s' q => ?_) fun _ _ e => e
    obtain ⟨z, H', I', rz, bb, rfl, φ', st', g', h', ok'⟩ := q
    cases rz
    exact ⟨bb, rfl, .bl (!bb), H', I', rfl, ok'.bl h'⟩
  cases e : clOf st b with
  | none => simp only [e] at ok; exact ok.elim
  | some t =>
    simp only [e] at ok
    cases t with
    | ty n =>
      dsimp only at ok
      by_cases hn : n ∈ tyNs
      · rw [if_pos hn] at ok
        have ty := (cl_ty IS rh rb e (by rfl)).1
        exact main (looks_ty I ry (by rw [hK]; exact ty) hn) (T.nf n hn) ok
      · rw [if_neg hn] at ok; exact ok.elim
    | own c' =>
      dsimp only at ok
      by_cases hn : c' = cn
      · rw [if_pos hn] at ok
        have okZ := ok
        clear ok
        subst hn
        have hk : (Cl.own c').inK ks = true := by simpa [Cl.inK] using hks
        have ty := (cl_ty IS rh rb e hk).1
        exact main (looks_own I ry (by rw [hK]; exact ty)) (by simp [PySem.W.notFirst]) okZ
      · rw [if_neg hn] at ok; exact ok.elim
end
/-! ### try with clauses «except x as n» -/
abbrev Clause := Value × (Addr → Value → Option Addr → TS)
/-- the ends of a clause's suite: the name n (slot i) is gone behind it -/
def Ends.less (i : Nat) (D : Ends) : Ends := { nx := fun σ H => D.nx (σ.set i none) H, rt := D.rt, bk := fun σ H => D.bk (σ.set i none) H, ct := fun σ H => D.ct (σ.set i none) H }
/-- the clauses' wishes, one behind the other -/
def wAsM (K : PySem.W.Frag) (i : Nat) (Wout : WX) (D : Ends) : List Clause → WX
  | [] => Wout
  | q :: r => fun cls d σ H => ∃ b, PySem.W.exmOne K cls q.1 = some b ∧ (b = true → ∀ a, H a = none → q.2 a cls d (Ends.less i D) (σ.set i (some (.ref a))) H) ∧ (b = false → wAsM K i Wout D r cls d σ H)
/-- such clauses, their classes known, their suites walked -/
inductive HdsAs (X : Cx) (n : Str) : List ExceptHandler → List Clause → Prop
  | nil : HdsAs X n [] []
  | cons {x : Str} {q : Clause} {s₀ : Stmt} {ss : List Stmt} {pc ph : Pos} {hs : List ExceptHandler} {l : List Clause} (known : Names X x q.1)
      (suite : ∀ (a : Addr) (oe : Obj) (cls : Value) (d : Option Addr) (pn : List (Addr × Obj)), Zc cls d oe → (∃ vs, oe.data = .fields vs) → PSs (X.suite a ((a, oe) :: pn)) (s₀ :: ss) (q.2 a cls d)) (rest : HdsAs X n hs l) :
      HdsAs X n (.ExceptHandler (some (.Name x pc)) (some n) (s₀ :: ss) ph :: hs) (q :: l)
section
variable {X : Cx} {n : Str} {i : Nat} {D : Ends} {Wout : WX} {pins : List (Addr × Obj)} {σ : St} {H : Hp} {a : Addr} {B : Heap} {sI s' : Shared} {cls : Value} {d : Option Addr} {h : Heap}
/-- an exception of the class cls that has come down upon the frame of X: h is the heap now, sI the state without it -/
structure Down (X : Cx) (pins : List (Addr × Obj)) (σ : St) (H : Hp) (a : Addr) (B : Heap) (sI s' : Shared) (cls : Value) (d : Option Addr) (h : Heap) : Prop where
  inv : Inv X pins σ H sI
  ground : ∀ b o, sI.heap.get? b = some o → b ∉ frs X.stack → B.get? b = some o
  up : sI.heap.UpToSlots h
  fl : HandSPX.FlyingZ B (X.env :: X.outer) a (Zc cls d) h
  na : H a = none
  os : s'.os = sI.os
  bare : PyProof.Rows.AllBare s'.gens
/-- as the state is then -/
theorem Down.now (c : Down X pins σ H a B sI s' cls d h) : Inv X pins σ H { s' with heap := h } := c.inv.landed c.ground c.fl.1 c.up c.os c.bare
/-- .. within a suite -/
theorem Down.inside (c : Down X pins σ H a B sI s' cls d h) (hf : X.env.frame = some X.env.locals) : ∃ oe, h.get? a = some oe ∧ Zc cls d oe ∧ (∃ vs, oe.data = .fields vs) ∧ Inv (X.suite a ((a, oe) :: (X.pn ++ pins))) [] σ H { s' with heap := h } := by
  obtain ⟨oe, vs, e1, e2, e3⟩ := c.fl.there
  have off : a ∉ frs (X.env :: X.outer) := fun z => by
    obtain ⟨_, u, e4, e5⟩ := c.fl.2.2.1.mem z
    cases e1.symm.trans e4
    exact e5 _ e3
  have offL : a ≠ X.env.locals := fun z => off (List.mem_filterMap.mpr ⟨_, List.mem_cons_self, by rw [hf, z]⟩)
  have offF : a ∉ X.fs := fun z => off ((List.mem_filterMap.mp z).elim fun e q => List.mem_filterMap.mpr ⟨e, List.mem_cons_of_mem _ q.1, q.2⟩)
  exact ⟨oe, e1, e2, ⟨vs, e3⟩, c.now.suite e1 e3 c.na offL offF⟩
/-- no clause has taken it -/
theorem Down.on (c : Down X pins σ H a B sI s' cls d h) (hs : X.stack = X.env :: X.outer) (hf : X.env.frame = some X.env.locals) (tk : Takes X Wout) (w : Wout cls d σ H) :
    wpAny (model X.prog X.w) X.A (handleBy (.ref a) X.env []) (SP X pins D) X.xe { s' with heap := h } := by
  obtain ⟨_, _, _, oe, vs, T, _, _, e1, _, e3, e4, _⟩ := id c.fl
  have air : wpAny (model X.prog X.w) X.A (setFlight (.ref a) X.env.frame) (fun _ s1 => wpAny (model X.prog X.w) X.A (throw (.ref a) : Sem Flow) (SP X pins D) X.xe s1) X.xe { s' with heap := h } := by
    rw [hf]
    exact HandSPX.setFlight_upZ c.fl fun h1 held u1 => wpAny_throw (tk _ _ ⟨a, B, sI, pins, σ, H, cls, d, rfl, c.inv, c.ground, c.up.trans u1, .inr (.inr (by rw [hs]; exact held)), c.na, c.os, c.bare, w⟩)
  refine wpAny_handleBy_nil ?_
  unfold PySem.passOn
  refine wpAny_bind (wpAny_field e1 e3 e4 ?_)
  have notN : ¬ (Value.ref T == Value.none) = true := by simp
  rw [if_neg notN]
  first | exact wpAny_bind (wpAny_pure (wpAny_bind air)) | exact wpAny_bind air
/-- the clauses, asked one behind the other -/
theorem Down.clauses {hs : List ExceptHandler} {l : List Clause} (c : Down X pins σ H a B sI s' cls d h) (hst : X.stack = X.env :: X.outer) (hf : X.env.frame = some X.env.locals) (hN : X.N.Nodup) (hi : X.N[i]? = some n) (hln : X.env.kindOf n = some .local) (tk : Takes X Wout) (hds : HdsAs X n hs l)
    (w : wAsM X.K i Wout D l cls d σ H) : wpAny (model X.prog X.w) X.A (handleBy (.ref a) X.env hs) (SP X pins D) X.xe { s' with heap := h } := by
  obtain ⟨oe, e1, e2, e3, S⟩ := c.inside hf
  induction hds with
  | nil => exact c.on hst hf tk w
  | @cons x q s₀ ss pc ph hs l known suite rest ih =>
    obtain ⟨b, hb, yes, no⟩ := w
    have cls_ : PySem.W.Looks (model X.prog X.w) h (typeOf (.ref a)) cls := fun _ _ _ _ keep z => wpAny_typeOf_ref (keep _ _ e1) (by rw [e2.1]; exact z)
    have fits := PySem.W.exm_one (M := model X.prog X.w) c.now.kIn cls_ hb
    have named : ∀ {R : Value → Shared → Prop} {E : Value → Shared → Prop}, R q.1 { s' with heap := h } → wpAny (model X.prog X.w) (X.A.mark (some (.ref a))) (eval (.Name x pc) X.env) R E { s' with heap := h } := fun z => by
      rcases known with ⟨k1, k2, k3 | ⟨k3, k4, k5⟩⟩
      · exact ld_glob (X := X.suite a ((a, oe) :: (X.pn ++ pins))) S k1 k3 z k2
      · exact ld_blt (X := X.suite a ((a, oe) :: (X.pn ++ pins))) S k1 k3 k4 z k5 k2
    refine wpAny_handleBy_cons (codeAny_handlers_test (named (fits.here ?_))) fun z => by cases z
    match b, yes, no with
    | false, _, no => exact ih (no rfl)
    | true, yes, _ =>
      refine codeAny_handlers_suite_as (HandSPX.lands_againZ c.fl fun h2 fl2 up2 => ?_)
      have c2 : Down X pins σ H a B sI s' cls d h2 := ⟨c.inv, c.ground, c.up.trans up2, fl2, c.na, c.os, c.bare⟩
      obtain ⟨oe2, _, f2, f3, S2⟩ := c2.inside hf
      refine store_ok (X := X.suite a ((a, oe2) :: (X.pn ++ pins))) (v := .ref a) S2 hN hi (.inl hln) rfl (fun s3 S3 => ?_) (.inr hln)
      have body := (suite a oe2 cls d (X.pn ++ pins) f2 f3).run [] s3 _ H _ S3 (yes rfl a c.na)
      have gone : ∀ {σ4 : St} {H4 : Hp} {s4 : Shared} {R : Shared → Prop}, Inv (X.suite a ((a, oe2) :: (X.pn ++ pins))) [] σ4 H4 s4 → (∀ s5, Inv X pins (σ4.set i none) H4 s5 → R s5) →
          wpAny (model X.prog X.w) X.A (do bindName X.env n .none; unbindBehindTheSuite X.env n ph) (fun _ s5 => R s5) X.xe s4 := fun S4 k => gone_ok (S4.unsuite c.inv.ok) hN hi hln k
      refine wpAny_mono body (fun fl s4 e => ?_) fun _ _ z => z.elim
      match fl, e with
      | .ret u, ⟨v, σ4, H4, S4, rv, z⟩ => exact gone S4 fun s5 J => ⟨v, _, H4, J, rv, z⟩
      | .next, ⟨σ4, H4, S4, z⟩ => exact gone S4 fun s5 J => ⟨_, H4, J, z⟩
      | .brk, ⟨σ4, H4, S4, z⟩ => exact gone S4 fun s5 J => ⟨_, H4, J, z⟩
      | .cont, ⟨σ4, H4, S4, z⟩ => exact gone S4 fun s5 J => ⟨_, H4, J, z⟩
theorem ps_try_asM {h₀ : ExceptHandler} {hs : List ExceptHandler} {l : List Clause} {body : List Stmt} {pos : Pos} {tb : WX → TS} (hst : X.stack = X.env :: X.outer) (hf : X.env.frame = some X.env.locals) (hN : X.N.Nodup) (hi : X.N[i]? = some n) (hln : X.env.kindOf n = some .local) (tk : Takes X Wout)
    (hb : ∀ (W : WX) (pn : List (Addr × Obj)) (xe : Value → Shared → Prop), Takes (X.tr pn xe) W → PassesOwn (model X.prog X.w) X.A X.env xe → PSs (X.tr pn xe) body (tb W)) (hds : HdsAs X n (h₀ :: hs) l) :
    PS X (.Try body (h₀ :: hs) [] [] pos) (fun D σ H => tb (wAsM X.K i Wout D l) D σ H) := ⟨fun pins s σ H D I w => by
  have caught : Takes (X.tr (X.pn ++ pins) fun e t₁ => wpAny (model X.prog X.w) X.A (noteFrame e X.env) (fun _ t₂ => wpAny (model X.prog X.w) X.A (setFlight e none) (fun _ t₃ => wpAny (model X.prog X.w) X.A (handleBy e X.env (h₀ :: hs)) (SP X pins D) X.xe t₃) X.xe t₂) X.xe t₁) (wAsM X.K i Wout D l) := fun u s' air => by
    obtain ⟨a, B, sI, _, σ', H', cls, d, rfl, J, ground, up, sky, na, os, bare, w⟩ := air
    refine Sky.land Zc.steady (show X.A.frames = some (X.env :: X.outer) by rw [I.ok.frames, hst]) hf (show Sky B (X.env :: X.outer) a (Zc cls d) X.env.locals s'.heap by rw [← hst]; exact sky) fun h fl up2 => ?_
    exact Down.clauses ⟨J.ofTry I.ok, ground, up.trans up2, fl, na, os, bare⟩ hst hf hN hi hln tk hds w
  refine wpAny_Try_except (wpAny_mono ((hb _ _ _ caught PassesOwn.looking).run [] s σ H D (I.toTry _) w) (fun fl s1 e => ?_) fun _ _ z => z)
  match fl, e with
  | .next, ⟨σ1, H1, J, z⟩ => exact wpAny_execs_nil ⟨σ1, H1, J.ofTry I.ok, z⟩
  | .brk, ⟨σ1, H1, J, z⟩ => exact ⟨σ1, H1, J.ofTry I.ok, z⟩
  | .cont, ⟨σ1, H1, J, z⟩ => exact ⟨σ1, H1, J.ofTry I.ok, z⟩
  | .ret u, ⟨v, σ1, H1, J, rv, z⟩ => exact ⟨v, σ1, H1, J.ofTry I.ok, rv, z⟩⟩
end
end Vs
/-! Layer, part 6d: _law_refused(lambda: ..). -/
namespace Vs
open PySem L2
/-- a name's slot, where there are n of them -/
def tVarL (n i : Nat) : TE := fun σ H Q => σ.length = n → tVar i σ H Q
theorem pe_varL {X : Cx} {n i : Nat} {e : Expr} (h : PE X e (tVar i)) (hn : X.N.length = n) : PE X e (tVarL n i) := ⟨fun pins s σ H Q I q => h.run pins s σ H Q I (q (I.len.trans hn))⟩
/-- the suite of a clause: return (t, e.value) -/
def tsRef (C : Addr) (t : Str) : Addr → Value → Option Addr → TS := fun a cls d => tRet (tTup (tCons (tC (.str t)) (tCons (tXf a cls d C "value" (tVarL 2 1)) tNil)))
def ERef (K : PySem.W.Frag) (Q : VK) : List (Addr × Str) → XK
  | [] => fun _ _ _ => False
  | q :: r => fun cls d H' => ∃ b, PySem.W.exmOne K cls (.ref q.1) = some b ∧ (b = true → cls = .ref q.1 ∧ ∃ dd v fs, d = some dd ∧ H' dd = some (.xd fs) ∧ fs.lookup ("value" : Str) = some v ∧ ∀ p, H' p = none → Q (.ref p) (upd H' p (.tup [.str q.2, v]))) ∧ (b = false → ERef K Q r cls d H')
def TRef (K : PySem.W.Frag) (L : List (Addr × Str)) : (XK → Hp → VK → Prop) → Hp → VK → Prop := fun tl H Q =>
  tl (ERef K Q L) H fun _ H1 => [V.str "", .non].length ≤ sizeLine ∧ ∀ p, H1 p = none → Q (.ref p) (upd H1 p (.tup [.str "", .non]))
theorem eref_w {K : PySem.W.Frag} {D : Ends} {σ : St} : ∀ {L : List (Addr × Str)} {cls : Value} {d : Option Addr} {H : Hp}, ERef K D.rt L cls d H → wAsM K 1 (fun _ _ _ _ => False) D (L.map fun q => (.ref q.1, tsRef q.1 q.2)) cls d σ H
  | [], _, _, _, h => h
  | q :: L, cls, d, H, ⟨b, h1, h2, h3⟩ => ⟨b, h1, fun hb a ha => by
    obtain ⟨e, dd, v, fs, ed, hx, hl, hq⟩ := h2 hb
    refine fun hl2 => ⟨.ref a, List.getElem?_set_self (by rw [List.length_set] at hl2; omega), rfl, e, dd, fs, v, ed, hx, hl, ?_, hq⟩
    show [V.str q.2, v].length ≤ sizeLine
    rw [sizeLine_eq]
    simp, fun hb => eref_w (h3 hb)⟩
theorem refused_gives {X : Cx} {x a q : Str} {sg : Scope} {g : Addr} {cdg : Value} {L : List (Addr × Str)} {h₀ : ExceptHandler} {hds : List ExceptHandler} {j1 j2 kx : Nat} {p1 p2 p3 p8 p9 p10 p11 p12 : Pos} {Ng : List Str} (hNg : Ng = [a, "e"]) (hnd : Ng.Nodup) (hln : sg.names.lookup ("e" : Str) = some .local)
    (hh : ∀ (s : Shared) (H : Hp), HdsAs (cxOf C8.CX0 X.prog X.w X.K X.mg X.base Ng x sg g cdg X.A X.stack s H C8.E0).nox "e" (h₀ :: hds) (L.map fun q => (.ref q.1, tsRef q.1 q.2))) :
    LamX.GivesTo X Ng x sg g cdg [.Try [.Expr (.Call (.Name a p1) [] [] p2) p3] (h₀ :: hds) [] [] p8, .Return (some (.Tuple [.Constant (.str "") j1 p9, .Constant .none j2 p10] kx p11)) p12] a q (TRef X.K L) := by
  subst hNg
  intro f c' s H Q tl act hc h
  refine ⟨_, pss_cons (ps_try_asM (X := (cxOf C8.CX0 X.prog X.w X.K X.mg X.base [a, "e"] x sg g cdg X.A X.stack s H C8.E0).nox) (i := 1)
      (tb := fun W D σ H => ∃ Ech : XK, (∀ cls d σ' H', Ech cls d H' → W cls d σ' H') ∧ σ[0]? = some (some (.ref f)) ∧ H c' = some (LamX.CodeO c' q) ∧ tl Ech H fun _ H1 => D.nx σ H1)
      rfl rfl hnd rfl hln LamX.takes0 (fun W pn xe tk _ => ?_) (hh s H)) (pss_one (ps_ret (pe_tup (pa_cons pe_str (pa_cons pe_non pa_nil))))), ?_⟩
  · refine ⟨fun pins s' σ H' D I h' => ?_⟩
    obtain ⟨Ech, hW, h1, h2, h3⟩ := h'
    exact (pss_one (ps_expr (pos := p3) (act W pn xe Ech p1 p2 tk hW))).run pins s' σ H' D I ⟨h1, h2, h3⟩
  · refine ⟨ERef X.K Q L, fun cls d σ' H' w => ?_, rfl, hc, ?_⟩
    · exact eref_w w
    · exact h

/-! ### the call -/
def eRefused (L : List (Nat × Str)) (m : EM) : EM := fun ρ st => match m ρ st with
  | .ok _ s => .ok (.p (.tup [.str "", .non])) s
  | .err c v s => match L.lookup c with
    | some t => .ok (.p (.tup [.str t, v])) s
    | none => .stuck
  | .stuck => .stuck
section
variable {g : Gx}
theorem RH.grow {φ : Ph} {st : PSt} {H H1 : Hp} (h : RH g φ H st) (e : LamX.ExtN H H1) (t : LamX.Tabs g.T H1) : RH g φ H1 st ∧ Go φ st H φ st H1 := by
  have kp : Kp (live φ st) H (live φ st) H1 := ⟨fun a o h1 _ h2 => e a o h1 fun ps z => h2 ⟨ps, z⟩, fun a h => .inl h⟩
  have eq : ∀ a ∈ live φ st, H1 a = H a := fun a ha => by
    obtain ⟨u, h1, h2⟩ := h.there ha
    rw [h1, e a u h1 fun ps => h2.tbl ps]
  have exk : ∀ a ∈ φ.ex, H1 a = H a := fun a ha => eq a (List.mem_append_left _ ha)
  refine ⟨⟨h.len, h.nd, fun a ha => by rw [exk a ha]; exact h.exs a ha, fun i p o h1 h2 => ?_, t⟩, rfl, exk, PreL.refl _, kp⟩
  by_cases hd : o.isDead = true
  · cases o <;> first | exact True.intro | cases hd
  · have hd : o.isDead = false := by simpa using hd
    exact (h.ob i p o h1 h2).kp kp fun a ha => eq a (live_mem.mpr (.inr ⟨i, p, o, h1, h2, hd, ha⟩))
theorem eref_ok {K : PySem.W.Frag} {Q : VK} {c : Nat} {t : Str} {d : Addr} {x : V} {H' : Hp} (hd : H' d = some (.xd [("value", x)])) (hq : ∀ p, H' p = none → Q (.ref p) (upd H' p (.tup [.str t, x]))) : ∀ {L : List (Nat × Str)}, (∀ q ∈ L, PySem.W.exmOne K (.ref (g.cA c)) (.ref (g.cA q.1)) = some (c == q.1)) → L.lookup c = some t →
    ERef K Q (L.map fun q => (g.cA q.1, q.2)) (.ref (g.cA c)) (some d) H'
  | [], _, h => by cases h
  | q :: L, hx, h => by
    obtain ⟨c', t'⟩ := q
    refine ⟨c == c', hx _ (List.mem_cons_self ..), fun hb => ?_, fun hb => ?_⟩
    · have e : c = c' := by simpa using hb
      subst e
      have h : (if (c == c) = true then some t' else L.lookup c) = some t := by
        have := h
        simp only [List.lookup] at this
        simpa using this
      have e2 : t' = t := by simpa using h
      subst e2
      exact ⟨rfl, d, x, _, rfl, hd, by simp [List.lookup], hq⟩
    · refine eref_ok hd hq (fun q hq => hx q (List.mem_cons_of_mem _ hq)) ?_
      simp only [List.lookup, hb] at h
      exact h
variable {X : Cx} {W : XK}
/-- errors of the text: what except asks of them -/
def ExcL (g : Gx) (all : List Nat) (L : List (Nat × Str)) : Prop := ∀ c ∈ all, ∀ q ∈ L, PySem.W.exmOne g.K (.ref (g.cA c)) (.ref (g.cA q.1)) = some (c == q.1)
theorem je_refused {x a : Str} {gA c P : Addr} {k : Nat} {pg : Arguments} {bg : List Stmt} {sg : Scope} {dV kV doc pm cdv ct oc : Value} {an od : Option Addr} {osl : Array (Option Value)} {Ng : List Str} {L : List (Nat × Str)} {all : List Nat} {m : EM}
    {params : Arguments} {body : Expr} {scope : Scope} {p lpos pos : Pos} (hK : X.K = g.K) (hE : ExcL g all L) (hall : ∀ q ∈ L, q.1 ∈ all) (hg : Gl X x) (hm : X.mg x = some (.ref gA)) (hk : PySem.W.keepIn X.K (.ref gA) = true)
    (lk : X.K.lookup gA = some ⟨oc, od, .func (PySem.W.fnOf x x pg bg sg dV kV doc pm an cdv ct), osl⟩) (hcg : PySem.W.codeIn X.K cdv x = true) (hb : L2.Binds X.K (PySem.W.fnOf x x pg bg sg dV kV doc pm an cdv ct) [a] []) (Sg : FnScope Ng [a] sg) (hNg : Ng[0]? = some a) (hva : Vis sg a)
    (hG : LamX.GivesTo X Ng x sg gA cdv bg a (X.env.qual ++ "<lambda>") (TRef X.K (L.map fun q => (g.cA q.1, q.2))))
    (TB : LamX.TabB X.base X.mg c P) (hcode : X.env.code = .ref c) (hmT : (P, X.env.qual ++ "<lambda>") ∈ g.T) (hu : ∀ p ∈ g.T, p.1 = P → p.2 = X.env.qual ++ "<lambda>") (hr : Room (k + 2) X.A) (LS : LamX.LamS X.env.scope scope) (hdef : defaultsOf params X.env = ([], []))
    (hbind : ∀ (q : Str) (cl : List (Str × Addr)) (pm cv ctv : Value), bindArgs (PySem.W.kla_fn "<lambda>" q params body scope cl pm cv ctv) ⟨[], []⟩ = pure [])
    (hbody : ∀ (A : Around) (outer : List Env) (s : Shared) (H : Hp) (E : XK) (f c' : Addr), Room k (A.deeper (LamX.lamEnv X scope s.heap.objs.size f c')) → Tk (LamX.lamCx X A outer s H E scope f c') E → JE (LamX.lamCx X A outer s H E scope f c') g E body m)
    (hdb : (x == ("__debug__" : Str)) = false := by decide) (hd : (a == ("__debug__" : Str)) = false := by decide) (hcd : (a == ("__classdict__" : Str)) = false := by decide) :
    JE X g W (.Call (.Name x p) [.Lambda params body scope lpos] [] pos) (eRefused L m) :=
  ofE (LamX.pe_lamcall (T := g.T) (t := fun E => rd g E m) hg hm hk lk hcg hb Sg hNg hva hG TB hcode hmT hu hr LS hdef hbind (fun A outer s H E f c' hr => hbody A outer s H E f c' hr (takes_of rfl rfl rfl rfl)) hdb hd hcd) fun _ _ σ H Q _ ⟨φ, ρ, st, rh, re, ok⟩ =>
    ⟨rh.tab, fun H1 e t => by
      obtain ⟨h1, g1⟩ := rh.grow e t
      have ok := ok.go g1
      refine ⟨φ, ρ, st, h1, re.go g1, ?_⟩
      have ok : Ok g φ st H1 (RP g) Q W (match m ρ st with
        | .ok _ s => .ok (.p (.tup [.str "", .non])) s
        | .err c v s => match L.lookup c with
          | some t => .ok (.p (.tup [.str t, v])) s
          | none => .stuck
        | .stuck => .stuck) := ok
      have le2 : ∀ {a b : V}, [a, b].length ≤ sizeLine := fun {a b} => by rw [sizeLine_eq]; simp
      cases em : m ρ st with
      | stuck => rw [em] at ok; exact ok.elim
      | ok r s =>
        rw [em] at ok
        intro x φ2 H2 g2 h2 r2
        exact ⟨le2, fun p hp => Ok.tup (ok.go g2) h2 (RVs.cons (by simp only [RV]) (RVs.cons (by simp only [RV]) RVs.nil)) hp⟩
      | err c v s =>
        rw [em] at ok
        cases el : L.lookup c with
        | none => simp only [el] at ok; exact ok.elim
        | some t =>
          simp only [el] at ok
          intro d φ2 H2 x g2 h2 hd2 rv
          rw [hK]
          have mem : ∃ q ∈ L, q.1 = c := by
            have : ∀ {L : List (Nat × Str)}, L.lookup c = some t → ∃ q ∈ L, q.1 = c := by
              intro L
              induction L with
              | nil => intro h; cases h
              | cons q L ih =>
                intro h
                obtain ⟨c', t'⟩ := q
                simp only [List.lookup] at h
                split at h
                · rename_i e
                  exact ⟨_, List.mem_cons_self .., (by simpa using e : c = c').symm⟩
                · obtain ⟨q, hq, e⟩ := ih h
                  exact ⟨q, List.mem_cons_of_mem _ hq, e⟩
            exact this el
          obtain ⟨q, hq, ec⟩ := mem
          exact eref_ok hd2 (fun p hp => Ok.tup (ok.go g2) h2 (RVs.cons (by simp only [RV]) (RVs.cons rv RVs.nil)) hp) (fun q' hq' => hE c (by rw [← ec]; exact hall q hq) q' hq') el⟩
end
end Vs
/-! Layer, part 7: repr, the defs that want to know that no repr is under way, the law's call. -/
namespace Vs
open PySem L2
/-! ### defs that are entered where no repr is under way -/
structure FnG (P : Program) (w : World) (K : PySem.W.Frag) (mg : Str → Option Value) (base : Heap) (CT : CXT) (k : Nat) (f : Addr) (fd : FuncData) (ps : List Str) (sp : Sp) : Prop where
  len : ∀ vs H Q E, sp vs H Q E → vs.length = ps.length
  run : ∀ (A : Around) (outer : List Env) (s : Shared) (H : Hp) (args : Args) (us : List Value) (vs : List V) (Q : VK) (E : XK), A.guards = some [] → Room k A → Env0 P w K mg base A outer s H → BindsTo s fd args (ps.zip us) → Vals vs us → sp vs H Q E →
    codeAny (model P w) A (.call (.ref f) args) (CR CT outer P w H s Q E) s
section
variable {g : Gx}
theorem spF_len {np nl : Nat} {m : SM} {vs : List V} {H : Hp} {Q : VK} {E : XK} (h : spF g (defM np nl m) vs H Q E) : vs.length = np := by
  obtain ⟨φ, st, rs, rh, r, ok⟩ := h
  rw [r.length]
  by_cases e : rs.length = np
  · exact e
  · have ok : Ok g φ st H (RP g) Q E (if rs.length = np then fin st.length (m (rs.map some ++ List.replicate (nl - rs.length) none) st) else .stuck) := ok
    rw [if_neg e] at ok
    exact ok.elim
theorem def_okG {P : Program} {w : World} {mg : Str → Option Value} {base : Heap} {x qual : Str} {params : Arguments} {body : List Stmt} {scope : Scope} {dvs : List V} {kws : List (Str × V)} {f : Addr} {fd : FuncData} {N ps : List Str} {k np nl : Nat} {m : SM}
    (F : FunD g.K x qual params body scope dvs kws f fd) (S : FnScope N ps scope) (hp : ps.length = np) (hl : N.length = nl)
    (hb : ∀ (cdv : Value) (A : Around) (outer : List Env) (s : Shared) (H : Hp) (E : XK), A.guards = some [] → (∃ (oc : Value) (od : Option Addr) (osl : Array (Option Value)) (dV kV doc pm : Value) (an : Option Addr) (ct : Value), g.K.lookup f = some ⟨oc, od, .func (PySem.W.fnOf x qual params body scope dV kV doc pm an cdv ct), osl⟩ ∧ PySem.W.codeIn g.K cdv qual = true) → Room k (A.deeper (PyProof.Rows.envOfC qual scope s.heap.objs.size f cdv)) → Takes (cxOf (CX P w) P w g.K mg base N qual scope f cdv A outer s H E) (fun c d _ H => E c d H) → PassesOwn (model P w) (A.deeper (PyProof.Rows.envOfC qual scope s.heap.objs.size f cdv)) (PyProof.Rows.envOfC qual scope s.heap.objs.size f cdv) (cxOf (CX P w) P w g.K mg base N qual scope f cdv A outer s H E).xe →
      JB (cxOf (CX P w) P w g.K mg base N qual scope f cdv A outer s H E) g E body m) : FnG P w g.K mg base (CX P w) (k + 1) f fd ps (spF g (defM np nl m)) := by
  refine ⟨fun vs H Q E h => by rw [spF_len h, hp], fun A outer s H args us vs Q E hG hr e0 bd rv sp => ?_⟩
  have len := spF_len sp
  obtain ⟨oc, od, dV, kV, doc, pm, an, cdv, ct, osl, rfl, lk, hcd, _, _⟩ := F.ex
  refine LamX.run_ofS lk hcd S hr e0 bd rv (len.trans hp.symm) fun hr' => ?_
  obtain ⟨φ, st, rs, rh, r, ok⟩ := sp
  refine ⟨_, hb cdv A outer s H E hG ⟨oc, od, osl, dV, kV, doc, pm, an, ct, lk, hcd⟩ hr' (takes_of rfl rfl rfl rfl) (passes_of rfl), φ, rs.map some ++ List.replicate (nl - rs.length) none, st, rh, ?_, ?_⟩
  · have z := rps_start (nl - rs.length) r
    rw [← hl, ← r.length] at z ⊢
    exact z
  · have ok : Ok g φ st H (RP g) Q E (if rs.length = np then fin st.length (m (rs.map some ++ List.replicate (nl - rs.length) none) st) else .stuck) := ok
    rw [if_pos (by rw [← r.length]; exact len)] at ok
    exact fin_ok rh ok
variable {X : Cx} {W : XK} {a b c e : Expr} {es : List Expr} {ma mb mc : EM} {pos p : Pos} {margs : Ev → PM (List PR)} {x : Str} {k : Nat} {f : Addr} {fd : FuncData} {ps : List Str} {mf : FM}
theorem je_callG (F : FnG X.prog X.w X.K X.mg X.base (CX X.prog X.w) k f fd ps (spF g mf)) (hG : X.A.guards = some []) (hr : Room k X.A) (hg : Gl X x) (hm : X.mg x = some (.ref f)) (hk : PySem.W.keepIn X.K (.ref f) = true) (hb : Binds X.K fd ps []) (tk : Tk X W)
    (ha : JA X g W (e :: es) margs) (hdb : (x == ("__debug__" : Str)) = false := by decide) (he : starEach (e :: es) X.env = (false, eval e X.env) :: starEach es X.env := by rfl) (hpl : (backTo pos (starEach es X.env)).any (·.1) = false := by rfl) :
    JE X g W (.Call (.Name x p) (e :: es) [] pos) (eCallD mf margs []) := ⟨fun pins s σ H Q I ⟨φ, ρ, st, rh, re, ok⟩ => by
  refine wpAny_Call_Name_kw (ld_glob I hg hm ?_ hdb)
  refine PySem.W.callWith_K (h₀ := X.base) I.ok.mod.kin hk (thn (ha.run pos pins s σ H _ I ⟨φ, ρ, st, rh, re, ok.bind fun l st1 vs φ1 H1 g1 h1 r1 ok1 => show spF g mf vs H1 Q W from ⟨φ1, st1, _, h1, r1, by simpa using ok1⟩⟩) fun us s1 ⟨vs, H1, I1, rv, sp⟩ => ⟨I1.kIn, ?_⟩) he hpl
  have n : us.length = ps.length := by rw [← rv.length]; exact F.len _ _ _ _ sp
  have bd : BindsTo s1 fd ⟨us, []⟩ (ps.zip us) := by simpa using hb s1 us I1.kIn (by simpa using n)
  refine wpAny_call (codeAny_mono (F.run _ _ s1 H1 _ us vs Q W hG hr I1.env0 bd rv sp) fun o s' z => ?_)
  match o, z with
  | .error e, z => exact passes_call tk (fun _ _ _ _ h => h) pins σ H1 s1 e s' I1 z
  | .ok (.ret u), z => exact I1.after z⟩
/-! ### repr -/
def reprOk (d : PyData) : Bool := d.showable && !d.hasDict && decide (d.depth ≤ 64) && decide (d.shown.length ≤ lim)
def isSq : PR → Bool
  | .p (.tup _) => true
  | .p (.lst _) => true
  | _ => false
def reprM : PR → PM PR := fun r st => match dOf st r with
  | some d => if isSq r = true ∧ reprOk d = true then .ok (.p (.str d.shown)) st else .stuck
  | none => .stuck
theorem call_reprD (hK : X.K = g.K) (hG : X.A.guards = some []) (hu : X.A.units + 128 < cLine) : CallR X (.builtin "repr") (fun vs H Q => ∃ φ st r x, vs = [x] ∧ RH g φ H st ∧ RP g φ st H r x ∧ Ok g φ st H (RP g) Q W (reprM r st)) := by
  intro pins s σ H xs us Q I rv ⟨φ, st, r, x, e, rh, rp, ok⟩
  subst e
  obtain ⟨u, rfl, ru⟩ := vals1 rv
  cases ed : dOf st r with
  | none =>
    have e3 : reprM r st = .stuck := by simp only [reprM, ed]
    rw [e3] at ok; exact ok.elim
  | some d =>
    by_cases h : isSq r = true ∧ reprOk d = true
    · have e3 : reprM r st = .ok (.p (.str d.shown)) st := by simp only [reprM, ed]; rw [if_pos h]
      rw [e3] at ok
      obtain ⟨as, rd⟩ := Dp.reads I d x u (by rw [hK]; exact dOf_dp rh rp ed) ru
      obtain ⟨h1, h2⟩ := h
      simp only [reprOk, Bool.and_eq_true, Bool.not_eq_true', decide_eq_true_eq] at h2
      have ref : ∃ a, x = .ref a := by
        cases r with
        | r _ _ => cases h1
        | p v =>
          cases v with
          | tup l => obtain ⟨a, _, e, _⟩ := rp_tup.mp rp; exact ⟨a, e⟩
          | lst l => obtain ⟨a, _, e, _⟩ := rp_lst.mp rp; exact ⟨a, e⟩
          | _ => cases h1
      obtain ⟨a, rfl⟩ := ref
      cases ru
      refine PySem.repr_of_reads' rd h2.1.1.1 (fun z => by rw [h2.1.1.2] at z; cases z) hG (by have := h2.1.2; omega) (fun _ _ z => z) (fun h' u tk kp => ?_) (by rw [sizeLine_eq]; exact h2.2)
      exact ⟨.str d.shown, H, I.kept kp, ⟨u, rfl⟩, ok.ret rh (rp_str.mpr rfl)⟩
    · have e3 : reprM r st = .stuck := by simp only [reprM, ed]; rw [if_neg h]
      rw [e3] at ok; exact ok.elim
theorem je_repr (hK : X.K = g.K) (hG : X.A.guards = some []) (hu : X.A.units + 128 < cLine) (hg : Gl X "repr") (hm : X.mg "repr" = none) (ha : JE X g W a ma) (he : starEach [a] X.env = (false, eval a X.env) :: starEach [] X.env := by rfl) (hpl : (backTo pos (starEach [] X.env)).any (·.1) = false := by rfl) :
    JE X g W (.Call (.Name "repr" p) [a] [] pos) (e1 reprM ma) :=
  ofE (pe_callB (call_reprD (W := W) hK hG hu) hg hm PyProof.Rows.boot_repr (pa_cons ha pa_nil he) (by decide) (by decide) he hpl) fun _ _ σ H Q _ ⟨φ, ρ, st, rh, re, ok⟩ => ⟨φ, ρ, st, rh, re, ok.bind fun r st1 x φ1 H1 g1 h1 r1 ok1 => ⟨φ1, st1, r, x, rfl, h1, r1, ok1⟩⟩
end
/-! ### the law's call -/
/-- what is known at the law's call: the tables, empty; the script, if the written part does not hold it -/
def hpL (ts : List Addr) (sc : Option (Addr × Obj × List V)) : Hp := fun b => if b ∈ ts then some (.tbl #[]) else match sc with
  | some q => if b = q.1 then some (.frz q.2.1 (.lst q.2.2)) else none
  | none => none
theorem hpL_cases {ts : List Addr} {sc : Option (Addr × Obj × List V)} {b : Addr} {u : HO} (h : hpL ts sc b = some u) : (b ∈ ts ∧ u = .tbl #[]) ∨ ∃ q, sc = some q ∧ b = q.1 ∧ u = .frz q.2.1 (.lst q.2.2) := by
  unfold hpL at h
  split at h
  · rename_i m; exact .inl ⟨m, (Option.some.inj h).symm⟩
  · split at h
    · rename_i q
      split at h
      · rename_i e; exact .inr ⟨q, rfl, e, (Option.some.inj h).symm⟩
      · cases h
    · cases h
theorem law_run {P : Program} {w : World} {K : PySem.W.Frag} {mg mb : Str → Option Value} {k : Nat} {fa a : Addr} {cs : List (Addr × Addr)} {fd : FuncData} {x : Str} {sp : Sp} {s₁ : Shared} {vs : List Value} {ns : List Int}
    (KX : K.In s₁.heap) (hns : s₁.heap.Ns mainGlobals mg) (hb : s₁.heap.Ns builtinsNs mb) (hbb : ∀ x : Str, x ≠ "__name__" → mb x = bootBuiltins x) (hlim : s₁.heap.NoLimit) (hg : s₁.gens = #[])
    (hT : ∀ p ∈ cs, s₁.heap.get? p.2 = some { cls := .none, data := .fields #[] }) (nT : ∀ p ∈ cs, K.lookup p.2 = none) (C : ∀ p ∈ cs, PySem.W.CodeHd s₁.heap p.1 p.2)
    (hbm : ∃ (bm : Addr) (ob : Obj), mg "__builtins__" = some (.ref bm) ∧ bm ≠ builtinsNs ∧ s₁.heap.get? bm = some ob ∧ ob.cls = .type "module" ∧ ob.dict = some builtinsNs ∧ ob.data = .plain)
    (ha : s₁.heap.get? a = some { cls := .type "list", data := .seq vs.toArray }) (hi : PyProof.Rows.IntsAre vs ns) (hl : ns.length ≤ sizeLine) (hr : Room k callerA)
    (F : ∀ base : Heap, K.In base → base.Ns mainGlobals mg → (∀ p ∈ cs, LamX.TabB base mg p.1 p.2) → FnG P w K mg base (CX P w) k fa fd [x] sp) (hbind : ∀ (s : Shared) (u : Value), BindsTo s fd ⟨[u], []⟩ [(x, u)])
    (hsp : ∀ H : Hp, (∀ p ∈ cs, H p.2 = some (.tbl #[])) → SqL K H a (ns.map V.int) → sp [.ref a] H (fun v _ => v = .bl true) fun _ _ _ => False) :
    codeAny (model P w) callerA (.call (.ref fa) ⟨[.ref a], []⟩) (fun r s' => r = .ok (.ret (.bool true)) ∧ OldK s₁.heap s'.heap ∧ s'.os = s₁.os ∧ PyProof.Rows.AllBare s'.gens) s₁ := by
  let ts := cs.map (·.2)
  have vls := vals_ints hi
  have isTab : ∀ b ∈ ts, s₁.heap.get? b = some { cls := .none, data := .fields #[] } := fun b hb => by
    obtain ⟨q, hq, rfl⟩ := List.mem_map.mp hb
    exact hT q hq
  have aT : a ∉ ts := fun z => by
    have y := (isTab a z).symm.trans ha
    injection y with y
    injection y with _ _ y
    cases y
  let sc : Option (Addr × Obj × List V) := match K.lookup a with
    | some _ => none
    | none => some (a, { cls := .type "list", data := .seq vs.toArray }, ns.map V.int)
  let H : Hp := hpL ts sc
  have scA : ∀ q, sc = some q → K.lookup a = none ∧ q = (a, { cls := .type "list", data := .seq vs.toArray }, ns.map V.int) := fun q hq => by
    show _ ∧ _
    cases e : K.lookup a with
    | some o =>
      have z : sc = none := by show (match K.lookup a with | some _ => _ | none => _) = _; rw [e]
      rw [z] at hq; cases hq
    | none =>
      have z : sc = some (a, { cls := .type "list", data := .seq vs.toArray }, ns.map V.int) := by show (match K.lookup a with | some _ => _ | none => _) = _; rw [e]
      rw [z] at hq
      exact ⟨rfl, (Option.some.inj hq).symm⟩
  have hH : ∀ p ∈ cs, H p.2 = some (.tbl #[]) := fun p hp => if_pos (List.mem_map.mpr ⟨p, hp, rfl⟩)
  have hS : SqL K H a (ns.map V.int) := by
    cases e : K.lookup a with
    | some o =>
      have z := KX a o e
      rw [ha] at z
      cases z
      exact .inr ⟨_, vs.toArray, _, e, rfl, rfl, rfl, by rw [List.size_toArray, hi.length]; exact hl, by simpa using vls⟩
    | none =>
      refine .inl (.inr ⟨{ cls := .type "list", data := .seq vs.toArray }, ?_⟩)
      have z : sc = some (a, { cls := .type "list", data := .seq vs.toArray }, ns.map V.int) := by show (match K.lookup a with | some _ => _ | none => _) = _; rw [e]
      show (if a ∈ ts then _ else match sc with | some q => _ | none => _) = _
      rw [if_neg aT, z]
      exact if_pos rfl
  have hok : HOk P w H s₁.heap := fun b u z => by
    rcases hpL_cases z with ⟨m, rfl⟩ | ⟨q, e1, e2, rfl⟩
    · exact isTab b m
    · obtain ⟨_, rfl⟩ := scA q e1
      subst e2
      exact ⟨ha, by rw [List.length_map]; exact hl, vs, _, vls, ha⟩
  -- a known thing that is neither a sequence nor an empty row of fields stands in the base
  have stays : ∀ {b : Addr} {o : Obj}, s₁.heap.get? b = some o → (∀ xs n, o.data ≠ .seq xs n) → o.data ≠ .fields #[] → (hidT s₁.heap H).get? b = some o := fun {b o} e n1 n2 => hidT_get e (by
    cases z : H b with
    | none => rfl
    | some u =>
      rcases hpL_cases z with ⟨m, _⟩ | ⟨q, e1, e2, _⟩
      · rw [isTab b m] at e; cases e; exact (n2 rfl).elim
      · obtain ⟨_, rfl⟩ := scA q e1
        subst e2
        rw [ha] at e; cases e; exact (n1 _ _ rfl).elim)
  have ns_ : ∀ {b : Addr} {m : Str → Option Value}, s₁.heap.Ns b m → (hidT s₁.heap H).Ns b m := fun ⟨o, es, ep, e, d, r⟩ => ⟨o, es, ep, stays e (fun _ _ z => by rw [d] at z; cases z) (fun z => by rw [d] at z; cases z), d, r⟩
  have kin : K.In (hidT s₁.heap H) := fun b o e => hidT_get (KX b o e) (by
    cases z : H b with
    | none => rfl
    | some u =>
      rcases hpL_cases z with ⟨m, _⟩ | ⟨q, e1, e2, _⟩
      · obtain ⟨p, hp, rfl⟩ := List.mem_map.mp m
        rw [nT p hp] at e; cases e
      · obtain ⟨no, rfl⟩ := scA q e1
        subst e2
        rw [no] at e; cases e)
  have tabs : ∀ p ∈ cs, LamX.TabB (hidT s₁.heap H) mg p.1 p.2 := fun p hp => by
    obtain ⟨o, us, file, tf, fl, tg, inF, text, tt, c1, c2, c3, c4, c5⟩ := C p hp
    obtain ⟨bm, ob, b1, b2, b3, b4, b5, b6⟩ := hbm
    obtain ⟨og, es, ep, g1, g2, _⟩ := id hns
    have us_ne : o.data ≠ .fields #[] := fun z => by rw [c3] at z; cases z; simp at c4
    refine ⟨⟨o, us, file, tf, fl, tg, inF, text, tt, stays c1 (fun _ _ z => by rw [c3] at z; cases z) us_ne, c2, c3, c4, c5⟩, ⟨bm, ob, b1, b2, fun z => ?_, fun z => ?_, stays b3 (fun _ _ z => by rw [b6] at z; cases z) (fun z => by rw [b6] at z; cases z), b4, b5, b6⟩, fun z => ?_⟩
    · rw [z, g1] at b3; cases b3; rw [g2] at b6; cases b6
    · rw [z, hT p hp] at b3; cases b3; cases b6
    · rw [z, hT p hp] at g1; cases g1; cases g2
  have env : Env0 P w K mg (hidT s₁.heap H) callerA [] s₁ H := ⟨rfl, ⟨kin, ns_ hns, ⟨mb, ns_ hb, hbb⟩, hlim.elim fun mc q => ⟨mc, ns_ q.1, q.2⟩⟩, fun _ _ e => of_hidT e, Nat.le_of_eq (hidT_size _ _), trivial, fun _ z => (by cases z), hok, .of_eq hg⟩
  refine codeAny_mono ((F _ kin (ns_ hns) tabs).run callerA [] s₁ H _ [.ref a] [.ref a] _ _ rfl hr env (hbind s₁ _) (.cons rfl .nil) (hsp H hH hS)) fun o s' z => ?_
  match o, z with
  | .error e, z => obtain ⟨_, _, _, _, _, _, _, _, _, _, _, _, no⟩ := z; exact no.elim
  | .ok (.ret u), z =>
    obtain ⟨v, H', os, bare, un, hok', rv, rfl⟩ := z
    cases rv
    have old : ∀ b o, s₁.heap.get? b = some o → (b ∈ ts ∧ ∃ more : Array Value, s'.heap.get? b = some { cls := .none, data := .fields more }) ∨ s'.heap.get? b = some o := fun b o e => by
      cases y : H b with
      | none => exact .inr (un.keep b o e y (fun z => by cases z) (by simp))
      | some u =>
        rcases hpL_cases y with ⟨m, rfl⟩ | ⟨q, _, _, rfl⟩
        · obtain ⟨more, t⟩ := un.tbls b _ y
          exact .inl ⟨m, _, hok' b _ t⟩
        · have t1 := (hok b _ y).1
          have t2 := (hok' b _ (un.frzs b _ _ y)).1
          exact .inr (by rw [t2, ← t1]; exact e)
    refine ⟨rfl, ⟨fun b o e => ?_, fun b o e => ?_⟩, os, bare⟩
    · rcases old b o e with ⟨m, more, t⟩ | t
      · obtain ⟨p, hp, rfl⟩ := List.mem_map.mp m
        have e' := (hT p hp).symm.trans e
        cases e'
        exact .inr (.inl ⟨((C p hp).tab (hT p hp)).isCodeTable, rfl, #[], more, rfl, by rw [Array.empty_append]; exact t⟩)
      · exact .inl t
    · rcases old b o e with ⟨m, more, t⟩ | t
      · exact ⟨_, t⟩
      · exact ⟨o, t⟩
/-- what a law's walk wants -/
def LawG (l : PySem.W.OpenLaw) (w : World) (K : PySem.W.Frag) (k n : Nat) (x : Str) (mg : Str → Option Value) (fa : Addr) (h : Heap) : Prop :=
  ∃ (fd : FuncData) (cs : List (Addr × Addr)) (sp : Sp), (∀ p ∈ cs, h.get? p.2 = some { cls := .none, data := .fields #[] }) ∧ (∀ p ∈ cs, K.lookup p.2 = none) ∧ (∀ p ∈ cs, PySem.W.CodeHd h p.1 p.2) ∧ (∀ (s : Shared) (u : Value), BindsTo s fd ⟨[u], []⟩ [(x, u)]) ∧
    (∀ (H : Hp) (a : Addr) (ns : List Int), ns.length ≤ n → (∀ z ∈ ns, Builtin.Int.intBits z ≤ 1048576) → (∀ p ∈ cs, H p.2 = some (.tbl #[])) → SqL K H a (ns.map V.int) → sp [.ref a] H (fun v _ => v = .bl true) fun _ _ _ => False) ∧
    ∀ base : Heap, K.In base → base.Ns mainGlobals mg → (∀ p ∈ cs, LamX.TabB base mg p.1 p.2) → FnG l.prog w K mg base (CX l.prog w) k fa fd [x] sp
theorem walk_ofG {l : PySem.W.OpenLaw} {n k : Nat} {q : Program} {loose : List Str} {XP : (Str → Option Value) → Heap → Prop} {YP : World → Heap → Prop} {d : DefRec} {x : Str} (hn : l.most = some n) (hn2 : n ≤ sizeLine) (hdf : d.params.defaults = []) (hr : Room k callerA)
    (F : ∀ (w : World) (mg : Str → Option Value) (fa : Addr) (h : Heap), YP w h → h.Ns mainGlobals mg → mg d.name = some (.ref fa) → ∃ K : PySem.W.Frag, K.In h ∧ LawG l w K k n x mg fa h) :
    PySem.W.WalkO q loose XP YP l.row.toRowW d [] (fun f vs => PySem.call f vs) :=
  Att.attach_callB hn hdf fun w s₀ s₁ mg mb fa o pm cd doc a vs ns G Y ho hd hcd hmg hobj hints hlen hbits hg => by
    obtain ⟨K, KX, fd, cs, sp, hT, nT, C, hb, hsp, hF⟩ := F w mg fa _ Y G.T.g hmg
    exact law_run KX G.T.g G.T.b G.T.builtins G.T.nolimit hg hT nT C G.T.bmain hobj hints (Nat.le_trans hlen hn2) hr hF hb fun H hH hS => hsp H a ns hlen hbits hH hS
end Vs
/-! Layer, part 8: what the head tells, as Bools. -/
namespace Vs
open PySem PySem.W L2
def oexB (K : Frag) (C : Addr) : Bool := (match K.lookup C with
  | some ⟨.type "type", _, .cls cd, sl⟩ => (match cd.mro, sl.toList with
    | .ref C' :: bm, [_, _, _, _, some (.builtin n), _] => C' == C && n == "ValueError.__new__" && !cd.hasDel && cd.hasDict && HandSPX.refsVE bm
    | _, _ => false)
  | _ => false) && decide (findIn K (.ref C) "__setattr__" = some (some (.builtin "object.__setattr__"))) && decide (subIn K (.ref C) (.type "BaseException") = some true) && decide (typeIn K (.ref C) = some (.type "type")) && keepIn K (.ref C)
theorem oexB_ok {K : Frag} {C : Addr} (h : oexB K C = true) : OexC K C := by
  unfold oexB at h
  simp only [Bool.and_eq_true, decide_eq_true_eq] at h
  obtain ⟨⟨⟨⟨q, h1⟩, h2⟩, h3⟩, h4⟩ := h
  refine ⟨?_, h1, h2, h3, h4⟩
  split at q
  · rename_i dd cd sl ho
    split at q
    · rename_i C' bm k0 k1 k2 k3 n k5 hm hs
      simp only [Bool.and_eq_true, beq_iff_eq, Bool.not_eq_true'] at q
      obtain ⟨⟨⟨⟨e1, e2⟩, e3⟩, e4⟩, e5⟩ := q
      subst e1 e2
      obtain ⟨nm, bs, mro, ns, qn, hd, sn, sub, ab, col, del⟩ := cd
      dsimp only at hm e3 e4
      subst hm e3 e4
      have hsl : sl = #[k0, k1, k2, k3, some (.builtin "ValueError.__new__"), k5] := by
        obtain ⟨l⟩ := sl
        simp only at hs
        rw [hs]
      subst hsl
      exact ⟨nm, qn, ns, bs, bm, sn, sub, ab, col, dd, k0, k1, k2, k3, k5, ho, e5⟩
    · cases q
  · cases q
/-- an error class: made by fI, its value read -/
def errB (K : Frag) (C fI : Addr) : Bool := oexB K C && decide (findIn K (.ref C) "__init__" = some (some (.ref fI))) && decide (typeIn K (.ref fI) = some (.type "function")) && decide (findIn K (.ref C) "value" = some none) && xfB K C
theorem errB_ok {K : Frag} {C fI : Addr} (h : errB K C fI = true) : ErrC K C fI ∧ XfC K C := by
  unfold errB at h
  simp only [Bool.and_eq_true, decide_eq_true_eq] at h
  exact ⟨⟨oexB_ok h.1.1.1.1, h.1.1.1.2, h.1.1.2, h.1.2⟩, xfB_ok h.2⟩
def clsB (K : Frag) (C : Addr) : Bool := plainGet K C Str.empty && (hasDictIn K C && (plainOver K C && decide (findIn K (.ref C) "__setattr__" = some (some (.builtin "object.__setattr__")))))
theorem clsB_ok {K : Frag} {C : Addr} (h : clsB K C = true) : Cls K C := by
  unfold clsB at h
  simp only [Bool.and_eq_true, decide_eq_true_eq] at h
  exact ⟨h.1, h.2.1, h.2.2.1, h.2.2.2⟩
def clsIB (K : Frag) (C : Addr) : Bool := clsB K C && decide (findIn K (.ref C) "__class__" = some (some (.builtin "object.__class__"))) && decide (specialIn K (.builtin "object.__class__") "__get__" = some (some (.builtin "getset_descriptor.__get__"))) && decide (takesIn K (.builtin "object.__class__") = some true) &&
  decide (mroIn K C (.type "object") = some true) && decide (kitOne K (.ref C) (.ref C) = some true) && tyNs.all fun n => decide (kitOne K (.ref C) (.type n) = some false) && decide (kitOne K (.type n) (.ref C) = some false)
theorem clsIB_ok {K : Frag} {C : Addr} (h : clsIB K C = true) : ClsI K C := by
  unfold clsIB at h
  simp only [Bool.and_eq_true, decide_eq_true_eq, List.all_eq_true] at h
  obtain ⟨⟨⟨⟨⟨⟨h0, h1⟩, h2⟩, h3⟩, h4⟩, h5⟩, h6⟩ := h
  exact ⟨clsB_ok h0, h1, h2, h3, h4, h5, fun n hn => h6 n hn⟩
def clsIsB (g : Gx) (ks : List Nat) : Bool := (ks.all fun c => clsIB g.K (g.cA c)) && ks.all fun c => ks.all fun d => c == d || decide (kitOne g.K (.ref (g.cA c)) (.ref (g.cA d)) = some false)
theorem clsIsB_ok {g : Gx} {ks : List Nat} (h : clsIsB g ks = true) : ClsIs g ks := by
  unfold clsIsB at h
  simp only [Bool.and_eq_true, List.all_eq_true, Bool.or_eq_true, beq_iff_eq, decide_eq_true_eq] at h
  exact ⟨fun c hc => clsIB_ok (h.1 c hc), fun c hc d hd ne => (h.2 c hc d hd).resolve_left ne⟩
/-- the fields of the classes cs -/
def clsNoB (g : Gx) (q : List Nat × Str) : Bool := q.1.all fun c => clsB g.K (g.cA c) && decide (findIn g.K (.ref (g.cA c)) q.2 = some none)
theorem clsNoB_ok {g : Gx} {cs : List Nat} {nm : Str} (h : clsNoB g (cs, nm) = true) : ClsNo g cs nm := by
  unfold clsNoB at h
  simp only [Bool.and_eq_true, List.all_eq_true, decide_eq_true_eq] at h
  exact fun c hc => ⟨clsB_ok (h c hc).1, (h c hc).2⟩
def eqCB (K : Frag) (C fE : Addr) : Bool := clsB K C && decide (findIn K (.ref C) "__eq__" = some (some (.ref fE))) && isFn K (.ref fE) && decide (findIn K (.ref C) "__ne__" = some (some (.builtin "object.__ne__"))) && tyNs.all fun n => notFirst K C (.type n)
theorem eqCB_ok {K : Frag} {C fE : Addr} (h : eqCB K C fE = true) : EqC K C fE ∧ findIn K (.ref C) "__ne__" = some (some (.builtin "object.__ne__")) := by
  unfold eqCB at h
  simp only [Bool.and_eq_true, List.all_eq_true, decide_eq_true_eq] at h
  exact ⟨⟨clsB_ok h.1.1.1.1, h.1.1.1.2, h.1.1.2, h.2⟩, h.1.2⟩
def excLB (g : Gx) (all : List Nat) (L : List (Nat × Str)) : Bool := all.all fun c => L.all fun q => decide (exmOne g.K (.ref (g.cA c)) (.ref (g.cA q.1)) = some (c == q.1))
theorem excLB_ok {g : Gx} {all : List Nat} {L : List (Nat × Str)} (h : excLB g all L = true) : ExcL g all L := by
  unfold excLB at h
  simp only [List.all_eq_true, decide_eq_true_eq] at h
  exact h
def methB (K : Frag) (C : Addr) (m : Str) (f : Addr) : Bool := decide (findIn K (.ref C) m = some (some (.ref f))) && (isFn K (.ref f) && keepIn K (.ref f))
theorem methB_ok {K : Frag} {C f : Addr} {m : Str} (h : methB K C m f = true) : Meth K C m f := by
  unfold methB at h
  simp only [Bool.and_eq_true, decide_eq_true_eq] at h
  exact ⟨h.1, h.2.1, h.2.2⟩
def mkB (K : Frag) (C f : Addr) : Bool := makesIn K C && (decide (findIn K (.ref C) "__init__" = some (some (.ref f))) && (isFn K (.ref f) && keepIn K (.ref C)))
theorem mkB_ok {K : Frag} {C f : Addr} (h : mkB K C f = true) : Mk K C f := by
  unfold mkB at h
  simp only [Bool.and_eq_true, decide_eq_true_eq] at h
  exact ⟨h.1, h.2.1, h.2.2.1, h.2.2.2⟩
/-- a known tuple of scalars -/
def ktB (K : Frag) (a : Addr) (vs : List V) : Bool := match K.lookup a with
  | some ⟨.type "tuple", _, .seq its _, _⟩ => decide (its.size ≤ sizeLine) && He.relAll vs its.toList
  | _ => false
theorem ktB_ok {K : Frag} {a : Addr} {vs : List V} (h : ktB K a vs = true) : KT K a vs := by
  unfold ktB at h
  split at h
  · rename_i dd its n sl e
    simp only [Bool.and_eq_true, decide_eq_true_eq] at h
    exact ⟨_, its, n, e, rfl, rfl, h.1, He.relAll_ok h.2⟩
  · cases h
def klB (K : Frag) (a : Addr) (vs : List V) : Bool := match K.lookup a with
  | some ⟨.type "list", none, .seq its _, _⟩ => decide (its.size ≤ sizeLine) && He.relAll vs its.toList
  | _ => false
theorem klB_ok {K : Frag} {a : Addr} {vs : List V} (h : klB K a vs = true) : KL K a vs := by
  unfold klB at h
  split at h
  · rename_i its n sl e
    simp only [Bool.and_eq_true, decide_eq_true_eq] at h
    exact ⟨_, its, n, e, rfl, rfl, rfl, h.1, He.relAll_ok h.2⟩
  · cases h
/-- all of a list of Bools, by place -/
theorem bAll {l : List Bool} (h : l.all id = true) {i : Nat} {b : Bool} (e : l[i]? = some b) : b = true := by
  have := List.all_eq_true.mp h b (List.mem_of_getElem? e)
  simpa using this
end Vs
/-! Layer, part 9: short words for the derivations. -/
namespace Vs
open PySem L2
theorem rm {j k : Nat} {A : Around} (r : Room k A) (h : j ≤ k := by omega) : Room j A := r.mono h
theorem u64 {k : Nat} {A : Around} (r : Room k A) : A.units + 64 < cLine := r.units
theorem u65 {k : Nat} {A : Around} (r : Room k A) : A.units + 65 < cLine := by have := r.un; omega
theorem u128 {k : Nat} {A : Around} (r : Room k A) : A.units + 128 < cLine := by have := r.un; omega
section
variable {P : Program} {w : World} {mg : Str → Option Value} {base : Heap} {g : Gx}
/-- a def that may be called by its name -/
structure Cal (P : Program) (w : World) (mg : Str → Option Value) (base : Heap) (g : Gx) (k : Nat) (x : Str) (f : Addr) (fd : FuncData) (ps : List Str) (m : FM) : Prop where
  fn : FnOk P w g.K mg base (CX P w) k f fd ps (spF g m)
  mg : mg x = some (.ref f)
  kp : PySem.W.keepIn g.K (.ref f) = true
  bd : Binds g.K fd ps []
variable {X : Cx} {W : XK} {a b c e : Expr} {es : List Expr} {ma mb mc : EM} {pos p : Pos} {margs : Ev → PM (List PR)} {x : Str} {k k' i : Nat} {f : Addr} {fd : FuncData} {ps : List Str} {mf : FM} {fds : Nat → FuncData} {pss : Nat → List Str} {C : Nat → FM}
theorem jc (F : Cal X.prog X.w X.mg X.base g k x f fd ps mf) (hK : X.K = g.K) (hr : Room k' X.A) (tk : Tk X W) (ha : JA X g W (e :: es) margs) (hk : k ≤ k' := by omega) (hg : Gl X x := by rfl) (hdb : (x == ("__debug__" : Str)) = false := by decide) (he : starEach (e :: es) X.env = (false, eval e X.env) :: starEach es X.env := by rfl) (hpl : (backTo pos (starEach es X.env)).any (·.1) = false := by rfl) :
    JE X g W (.Call (.Name x p) (e :: es) [] pos) (eCallD mf margs []) := by
  have F1 := F.fn
  have F2 := F.kp
  have F3 := F.bd
  rw [← hK] at F1 F2 F3
  exact je_call F1 (hr.mono hk) hg F.mg F2 F3 .nil (fun _ _ => RVs.nil) tk ha hdb he hpl
theorem jc0 (F : Cal X.prog X.w X.mg X.base g k x f fd ps mf) (hK : X.K = g.K) (hr : Room k' X.A) (tk : Tk X W) (hk : k ≤ k' := by omega) (hg : Gl X x := by rfl) (hdb : (x == ("__debug__" : Str)) = false := by decide) :
    JE X g W (.Call (.Name x p) [] [] pos) (eCallD mf aNil []) := by
  have F1 := F.fn
  have F2 := F.kp
  have F3 := F.bd
  rw [← hK] at F1 F2 F3
  exact je_call0 F1 (hr.mono hk) hg F.mg F2 F3 .nil (fun _ _ => RVs.nil) tk hdb
/-- a name that holds one of the defs is -/
def eCallV (j : Nat) (is : List Nat) (C : Nat → FM) (m : Ev → PM (List PR)) : EM := fun ρ => match ρ[j]? with
  | some (some (.p (.fn i))) => if i ∈ is then eCallD (C i) m [] ρ else PM.stuck
  | _ => PM.stuck
/-- what is known of the defs that a name may hold -/
def Hold (P : Program) (w : World) (mg : Str → Option Value) (base : Heap) (g : Gx) (k : Nat) (fds : Nat → FuncData) (pss : Nat → List Str) (C : Nat → FM) (is : List Nat) : Prop :=
  ∀ i ∈ is, FnOk P w g.K mg base (CX P w) k (g.fA i) (fds i) (pss i) (spF g (C i)) ∧ PySem.W.keepIn g.K (.ref (g.fA i)) = true ∧ Binds g.K (fds i) (pss i) []
theorem jcv {j : Nat} {is : List Nat} (F : Hold X.prog X.w X.mg X.base g k fds pss C is) (hK : X.K = g.K) (hr : Room k' X.A) (tk : Tk X W) (ha : JA X g W (e :: es) margs) (hk : k ≤ k' := by omega) (hN : X.N[j]? = some x := by rfl) (hv : Vis X.env.scope x := by first | exact Or.inl rfl | exact Or.inr (Or.inl rfl) | exact Or.inr (Or.inr rfl))
    (hdb : (x == ("__debug__" : Str)) = false := by decide) (hcd : (x == ("__classdict__" : Str)) = false := by decide) (he : starEach (e :: es) X.env = (false, eval e X.env) :: starEach es X.env := by rfl) (hpl : (backTo pos (starEach es X.env)).any (·.1) = false := by rfl) :
    JE X g W (.Call (.Name x p) (e :: es) [] pos) (eCallV j is C margs) := ⟨fun pins s σ H Q I ⟨φ, ρ, st, rh, re, ok⟩ => by
  have ok : Ok g φ st H (RP g) Q W ((match ρ[j]? with
    | some (some (.p (.fn i))) => if i ∈ is then eCallD (C i) margs [] ρ else PM.stuck
    | _ => PM.stuck) st) := ok
  cases e1 : ρ[j]? with
  | none => rw [e1] at ok; exact ok.elim
  | some o =>
    rw [e1] at ok
    cases o with
    | none => exact ok.elim
    | some r =>
      cases r with
      | r _ _ => exact ok.elim
      | p v =>
        cases v with
        | fn i =>
          obtain ⟨y, h1, h2⟩ := re.at_ j _ e1
          cases rp_fn.mp h2
          have ok : Ok g φ st H (RP g) Q W ((if i ∈ is then eCallD (C i) margs [] ρ else PM.stuck) st) := ok
          by_cases hi : i ∈ is
          · rw [if_pos hi] at ok
            obtain ⟨F1, F2, F3⟩ := F i hi
            rw [← hK] at F1 F2 F3
            refine (pe_callL (i := j) (dvs := []) (ds := []) F1 (hr.mono hk) hN hv F2 F3 .nil (passes_call tk fun _ _ _ _ h => h) ha hdb hcd he hpl).run pins s σ H Q I ⟨h1, φ, ρ, st, rh, re, ?_⟩
            exact (show Ok g φ st H (RP g) Q W ((margs ρ >>= fun l => C i (l ++ ([] : List PV).map .p)) st) from ok).bind fun l st1 vs φ1 H1 g1 h1 r1 ok1 => ⟨φ1, st1, _, h1, rps_append r1 (rps_pure (ds := []) (dvs := []) fun _ _ => RVs.nil), ok1⟩
          · rw [if_neg hi] at ok; exact ok.elim
        | _ => exact ok.elim⟩
/-- names of the module -/
theorem jg_int {x : Str} {i : Int} (h : ∃ t, X.mg x = some (.int i t)) (hg : Gl X x := by rfl) (hdb : (x == ("__debug__" : Str)) = false := by decide) : JE X g W (.Name x p) (eC (.int i)) := by
  obtain ⟨t, h⟩ := h
  exact je_c (x := V.int i) (pe_glob (v := V.int i) hg h ⟨t, rfl⟩ hdb) fun _ _ => by simp only [RV]
theorem jg_str {x z : Str} (h : ∃ t, X.mg x = some (.str z t)) (hg : Gl X x := by rfl) (hdb : (x == ("__debug__" : Str)) = false := by decide) : JE X g W (.Name x p) (eC (.str z)) := by
  obtain ⟨t, h⟩ := h
  exact je_c (x := V.str z) (pe_glob (v := V.str z) hg h ⟨t, rfl⟩ hdb) fun _ _ => by simp only [RV]
theorem jg_fn {x : Str} {i : Nat} (h : X.mg x = some (.ref (g.fA i))) (hg : Gl X x := by rfl) (hdb : (x == ("__debug__" : Str)) = false := by decide) : JE X g W (.Name x p) (eC (.fn i)) :=
  je_c (x := V.ref (g.fA i)) (pe_glob (v := V.ref (g.fA i)) hg h rfl hdb) fun _ _ => by simp only [RV]
theorem jv (i : Nat) {x : Str} {pos : Pos} (hN : X.N[i]? = some x := by rfl) (hv : Vis X.env.scope x := by first | exact Or.inl rfl | exact Or.inr (Or.inl rfl) | exact Or.inr (Or.inr rfl)) (hd : (x == ("__debug__" : Str)) = false := by decide)
    (hcd : (x == ("__classdict__" : Str)) = false := by decide) : JE X g W (.Name x pos) (eVar i) := je_var (pe_var hN hv hd hcd)
theorem jty {x : Str} (n : String) (hm : X.mg x = none) (hv : bootBuiltins x = some (.type n)) (hg : Gl X x := by rfl) (hn : x ≠ "__name__" := by decide) (hdb : (x == ("__debug__" : Str)) = false := by decide) : PE X (.Name x p) (tC ((Cl.ty n).v g)) := pe_bltn (v := V.ty n) hg hm hv rfl hn hdb
theorem jow {x : Str} (c : Nat) (hm : X.mg x = some (.ref (g.cA c))) (hg : Gl X x := by rfl) (hdb : (x == ("__debug__" : Str)) = false := by decide) : PE X (.Name x p) (tC ((Cl.own c).v g)) := pe_glob (v := V.ref (g.cA c)) hg hm rfl hdb
/-- callees by place: their binding -/
theorem bd_all {K : PySem.W.Frag} {x qual : Str} {params : Arguments} {body : List Stmt} {scope : Scope} {dvs : List V} {kws : List (Str × V)} {f : Addr} {fd : FuncData} {ps : List Str} (F : FunD K x qual params body scope dvs kws f fd) (hd : dvs ≠ [])
    (h : ∀ (T : Addr) (kV doc pm : Value) (an : Option Addr) (cdv ct : Value) (us its : List Value), us.length = ps.length → its.length = dvs.length →
      ∃ k, bindArgs (PySem.W.fnOf x qual params body scope (.ref T) kV doc pm an cdv ct) ⟨us, []⟩ = seqItems? (.ref T) >>= k ∧ k (some its.toArray) = pure (ps.zip us)) : Binds K fd ps [] := by
  obtain ⟨ds, h1, h2⟩ := F.binds1 (ps := ps) ps.length dvs.length hd (by simp) fun T kV doc pm an cdv ct us its e1 e2 => by
    obtain ⟨k, q1, q2⟩ := h T kV doc pm an cdv ct us its e1 e2
    exact ⟨k, q1, by rw [List.drop_eq_nil_of_le (by omega), List.append_nil]; exact q2⟩
  rw [List.drop_eq_nil_of_le (Nat.le_refl _)] at h1
  cases h1
  exact h2
end
/-- a comprehension's names, decided -/
def blkB (N : List Str) (sc scope : Scope) (own : List (Str × Nat)) : Bool :=
  decide (scope.kind = .function) && (scope.names.all fun y => decide (scope.names.lookup y.1 = some y.2)) && (own.all fun p => decide (N[p.2]? = some p.1)) &&
  (scope.names.all fun y => !decide (y.2 = .free) || decide (sc.names.lookup y.1 = some .cell) || decide (sc.names.lookup y.1 = some .free)) &&
  (scope.names.all fun y => (!decide (y.2 = .local) && !decide (y.2 = .cell)) || (own.map (·.1)).contains y.1 || !N.contains y.1)
theorem blk_by {N : List Str} {sc scope : Scope} {own : List (Str × Nat)} (h : blkB N sc scope own = true) : BlkOk N sc scope own := by
  unfold blkB at h
  simp only [Bool.and_eq_true, Bool.or_eq_true, Bool.not_eq_true', decide_eq_true_eq, decide_eq_false_iff_not, List.all_eq_true] at h
  obtain ⟨⟨⟨⟨h1, h2⟩, h3⟩, h4⟩, h5⟩ := h
  refine ⟨h1, h2, h3, fun y hy e => ?_, fun y hy e => ?_⟩
  · rcases h4 y hy with (z | z) | z
    · exact absurd e z
    · exact .inl z
    · exact .inr z
  · rcases h5 y hy with (⟨z1, z2⟩ | z) | z
    · rcases e with e | e
      · exact absurd e z1
      · exact absurd e z2
    · exact .inl (by simpa using z)
    · exact .inr (by simpa using z)
/-- what the head has told, by place -/
structure Tx (fa : List He.Fa) (fn : List He.DefD) (tf : List He.Defn) (ex : PySem.W.Frag → List Bool) (K : PySem.W.Frag) (mg : Str → Option Value) (base : Heap) (fd : Nat → FuncData) : Prop where
  fact : ∀ (i : Nat) (f : He.Fa), fa[i]? = some f → f.ok K = true
  more : (ex K).all id = true
  kin : K.In base
  glob : base.Ns mainGlobals mg
  defs : ∀ (i : Nat) (d : He.DefD), fn[i]? = some d → FunD K d.name d.qual d.params d.body d.scope (d.dvs K) (d.kws K) (He.fAd K d.at_) (fd i)
  tab : ∀ p ∈ tf, LamX.TabB base mg (He.cT K p).1 (He.cT K p).2
section
variable {fa : List He.Fa} {fn : List He.DefD} {tf : List He.Defn} {ex : PySem.W.Frag → List Bool} {K : PySem.W.Frag} {mg : Str → Option Value} {base : Heap} {fd : Nat → FuncData}
theorem Tx.glo (t : Tx fa fn tf ex K mg base fd) {x : Str} (i : Nat) (h : fa[i]? = some (.glo x) := by rfl) : mg x = some (.ref (He.ga K x)) := He.glo_ok t.kin t.glob (t.fact i _ h)
theorem Tx.free (t : Tx fa fn tf ex K mg base fd) {x : Str} (i : Nat) (h : fa[i]? = some (.free x) := by rfl) : mg x = none := He.free_ok t.kin t.glob (t.fact i _ h)
theorem Tx.int (t : Tx fa fn tf ex K mg base fd) {x : Str} {j : Int} (i : Nat) (h : fa[i]? = some (.int x j) := by rfl) : ∃ t, mg x = some (.int j t) := He.int_ok t.kin t.glob (t.fact i _ h)
theorem Tx.str (t : Tx fa fn tf ex K mg base fd) {x z : Str} (i : Nat) (h : fa[i]? = some (.str x z) := by rfl) : ∃ t, mg x = some (.str z t) := He.str_ok t.kin t.glob (t.fact i _ h)
theorem Tx.bl (t : Tx fa fn tf ex K mg base fd) {b : Bool} (i : Nat) (h : (ex K)[i]? = some b := by rfl) : b = true := bAll t.more h
theorem fds_ex (w : World) (c : He.SaysD fa fn K) : ∃ fd : Nat → FuncData, ∀ (i : Nat) (d : He.DefD), fn[i]? = some d → FunD K d.name d.qual d.params d.body d.scope (d.dvs K) (d.kws K) (He.fAd K d.at_) (fd i) := by
  have e0 : ∀ i : Nat, ∃ f : Option FuncData, ∀ d : He.DefD, fn[i]? = some d → ∃ u, f = some u ∧ FunD K d.name d.qual d.params d.body d.scope (d.dvs K) (d.kws K) (He.fAd K d.at_) u := fun i => by
    cases e : fn[i]? with
    | none => exact ⟨none, fun d h => by cases h⟩
    | some d =>
      obtain ⟨u, h⟩ := c.def_ i e
      exact ⟨some u, fun d' e' => by cases e'; exact ⟨u, rfl, h⟩⟩
  obtain ⟨F, hF⟩ := Classical.skolem.mp e0
  refine ⟨fun i => (F i).getD (PySem.W.fnOf "" "" ⟨[], [], none, [], [], none, []⟩ [] ⟨.function, [], false, false, []⟩ .none .none .none .none none .none .none), fun i d h => ?_⟩
  obtain ⟨u, e, q⟩ := hF i d h
  show FunD K d.name d.qual d.params d.body d.scope (d.dvs K) (d.kws K) (He.fAd K d.at_) ((F i).getD _)
  rw [e]
  exact q
end
section
variable {P : Program} {w : World} {mg : Str → Option Value} {base : Heap} {g : Gx} {CT : CXT} {k : Nat} {f : Addr} {fd : FuncData} {ps : List Str}
theorem fn_stuck {K : PySem.W.Frag} : FnOk P w K mg base CT k f fd ps (spF g fun _ _ => .stuck) :=
  ⟨fun _ _ _ _ ⟨_, _, _, _, _, h⟩ => h.elim, fun _ _ _ _ _ _ _ _ _ _ _ _ _ ⟨_, _, _, _, _, h⟩ => h.elim⟩
theorem fn_no {K : PySem.W.Frag} {np nl : Nat} : FnOk P w K mg base CT k f fd ps (spF g (defM np nl sNo)) := by
  have no : ∀ {vs H Q E}, spF g (defM np nl sNo) vs H Q E → False := fun {vs H Q E} ⟨φ, st, rs, rh, r, ok⟩ => by
    have ok : Ok g φ st H (RP g) Q E (if rs.length = np then .stuck else .stuck) := ok
    split at ok <;> exact ok.elim
  exact ⟨fun _ _ _ _ h => (no h).elim, fun _ _ _ _ _ _ _ _ _ _ _ _ _ h => (no h).elim⟩
/-- the law's promise of the script, from what its mirror gives -/
theorem law_sp {m : FM} {ns : List Int} {s : PSt} {cs : List (Addr × Addr)} {H : Hp} {a : Addr} (e : m [.p (.lst (ns.map .int))] [] = .ok (.p (.bl true)) s) (hT : ∀ p ∈ g.T, p.1 ∈ cs.map (·.2)) (hH : ∀ p ∈ cs, H p.2 = some (.tbl #[])) (hS : SqL g.K H a (ns.map V.int)) :
    spF g m [.ref a] H (fun v _ => v = .bl true) fun _ _ _ => False := by
  have rvs : ∀ l : List Int, RVs g [] H (l.map .int) (l.map V.int) := fun l => by
    induction l with
    | nil => exact RVs.nil
    | cons i l ih => exact RVs.cons (by simp only [RV]) ih
  refine ⟨⟨[], []⟩, [], [.p (.lst (ns.map .int))], ⟨rfl, List.nodup_nil, (fun _ h => (by cases h)), (fun i p o h _ => (by simp at h)), fun p hp => ?_⟩, ⟨_, _, rfl, ?_, rfl⟩, ?_⟩
  · obtain ⟨q, hq, e⟩ := List.mem_map.mp (hT p hp)
    exact LamX.TabS.nil (by rw [← e]; exact hH q hq)
  · refine rp_lst.mpr ⟨a, ns.map V.int, rfl, ?_, rvs ns⟩
    rcases hS with h | h
    · exact .inl ⟨by simp [live, liv], h⟩
    · exact .inr h
  · rw [e]
    exact fun x φ' H' _ _ r => rp_bl.mp r
end
end Vs
/-! Plain laws about mirrors: what a mirror returns. -/
namespace Vs
open PySem
def Ret {α : Type} (o : Out α) (P : α → PSt → Prop) : Prop := match o with
  | .ok a s => P a s
  | _ => False
/-- it returns, or raises an error of the class c with a value -/
def RetE {α : Type} (o : Out α) (P : α → PSt → Prop) (E : Nat → PV → PSt → Prop) : Prop := match o with
  | .ok a s => P a s
  | .err c v s => E c v s
  | .stuck => False
def RetS (o : OutS) (N : Ev → PSt → Prop) (R : PR → PSt → Prop) : Prop := match o with
  | .nx ρ s => N ρ s
  | .ret r s => R r s
  | _ => False
theorem Ret.eq {α : Type} {o : Out α} {P : α → PSt → Prop} (h : Ret o P) : ∃ a s, o = .ok a s ∧ P a s := by
  cases o with
  | ok a s => exact ⟨a, s, rfl, h⟩
  | err c v s => exact h.elim
  | stuck => exact h.elim
theorem Ret.mono {α : Type} {o : Out α} {P Q : α → PSt → Prop} (h : Ret o P) (k : ∀ a s, P a s → Q a s) : Ret o Q := by
  obtain ⟨a, s, rfl, h⟩ := h.eq; exact k a s h
theorem RetS.mono {o : OutS} {N N' : Ev → PSt → Prop} {R R' : PR → PSt → Prop} (h : RetS o N R) (k : ∀ a s, N a s → N' a s) (k' : ∀ a s, R a s → R' a s) : RetS o N' R' := by
  cases o with
  | nx ρ s => exact k _ _ h
  | ret r s => exact k' _ _ h
  | _ => exact h.elim
section
variable {α β : Type} {m : PM α} {f : α → PM β} {P : β → PSt → Prop} {st : PSt} {ρ : Ev} {N : Ev → PSt → Prop} {R : PR → PSt → Prop}
theorem pm_bind (m : PM α) (f : α → PM β) (st : PSt) : (m >>= f) st = (m st).bind f := rfl
theorem pm_pure (a : α) (st : PSt) : (pure a : PM α) st = .ok a st := rfl
theorem ob_ok (a : α) (s : PSt) (f : α → PSt → Out β) : (Out.ok a s).bind f = f a s := rfl
theorem ob_err (c : Nat) (v : PV) (s : PSt) (f : α → PSt → Out β) : (Out.err c v s : Out α).bind f = .err c v s := rfl
theorem ts_ok (a : α) (s : PSt) (f : α → PSt → OutS) : (Out.ok a s).toS f = f a s := rfl
theorem ts_err (c : Nat) (v : PV) (s : PSt) (f : α → PSt → OutS) : (Out.err c v s : Out α).toS f = .err c v s := rfl
theorem then_nx (ρ : Ev) (s : PSt) (f : SM) : (OutS.nx ρ s).then f = f ρ s := rfl
theorem then_ret (r : PR) (s : PSt) (f : SM) : (OutS.ret r s).then f = .ret r s := rfl
theorem then_err (c : Nat) (v : PV) (s : PSt) (f : SM) : (OutS.err c v s).then f = .err c v s := rfl
theorem then_ct (ρ : Ev) (s : PSt) (f : SM) : (OutS.ct ρ s).then f = .ct ρ s := rfl
theorem Ret.bind (h : Ret (m st) fun a s => Ret (f a s) P) : Ret ((m >>= f) st) P := by
  obtain ⟨a, s, e, h⟩ := h.eq
  rw [pm_bind, e]; exact h
/-- statements -/
theorem rs_seq {a b : SM} (h : RetS (a ρ st) (fun ρ' s' => RetS (b ρ' s') N R) R) : RetS (sSeq a b ρ st) N R := by
  show RetS ((a ρ st).then b) N R
  cases e : a ρ st <;> rw [e] at h <;> first | exact h | exact h.elim
theorem rs_set {e : EM} {i : Nat} (h : Ret (e ρ st) fun r s => N (ρ.set i (some r)) s) : RetS (sAsg e (gNm i) ρ st) N R := by
  obtain ⟨a, s, q, h⟩ := h.eq
  show RetS ((e ρ st).toS _) N R
  rw [q]; exact h
theorem rs_expr {e : EM} (h : Ret (e ρ st) fun _ s => N ρ s) : RetS (sExpr e ρ st) N R := by
  obtain ⟨a, s, q, h⟩ := h.eq
  show RetS ((e ρ st).toS _) N R
  rw [q]; exact h
theorem rs_ret {e : EM} (h : Ret (e ρ st) R) : RetS (sRet e ρ st) N R := by
  obtain ⟨a, s, q, h⟩ := h.eq
  show RetS ((e ρ st).toS _) N R
  rw [q]; exact h
theorem rs_if {t : TM} {a b : SM} (h : Ret (t ρ st) fun k s => if k = true then RetS (a ρ s) N R else RetS (b ρ s) N R) : RetS (sIf t a b ρ st) N R := by
  obtain ⟨k, s, q, h⟩ := h.eq
  show RetS ((t ρ st).toS _) N R
  rw [q]
  cases k <;> exact h
theorem rs_nil (h : N ρ st) : RetS (sNil ρ st) N R := h
theorem rs_par {i j : Nat} {a : Ev → PM (List PR)} (h : Ret (a ρ st) fun l s => ∃ x y, l = [x, y] ∧ N ((ρ.set i (some x)).set j (some y)) s) : RetS (sPar i j a ρ st) N R := by
  obtain ⟨l, s, q, x, y, rfl, h⟩ := h.eq
  show RetS ((a ρ st).toS _) N R
  rw [q]; exact h
theorem rs_par3 {i j k : Nat} {a : Ev → PM (List PR)} (h : Ret (a ρ st) fun l s => ∃ x y z, l = [x, y, z] ∧ N (((ρ.set i (some x)).set j (some y)).set k (some z)) s) : RetS (sPar3 i j k a ρ st) N R := by
  obtain ⟨l, s, q, x, y, z, rfl, h⟩ := h.eq
  show RetS ((a ρ st).toS _) N R
  rw [q]; exact h
/-- a for over n things -/
theorem rs_for {im : IM} {g : GM} {body : SM} {w : Wk} {s0 : PSt} (hi : im ρ st = .ok w s0) (f : Nat → PV) (hw : ∀ k s, w.at_ k s = if k < w.n then .item (f k) else .stop) (I : Nat → Ev → PSt → Prop) (h0 : I 0 ρ s0)
    (hs : ∀ k ρ s, k < w.n → I k ρ s → ∃ ρ1 s1, g (.p (f k)) ρ s = .ok ρ1 s1 ∧ RetS (body ρ1 s1) (I (k + 1)) R) (hd : ∀ ρ s, I w.n ρ s → N ρ s) : RetS (sFor im g body ρ st) N R := by
  show RetS ((im ρ st).toS _) N R
  rw [hi]
  show RetS (forM w.at_ g body w.n 0 ρ s0) N R
  have key : ∀ m k ρ s, k + m = w.n → I k ρ s → RetS (forM w.at_ g body m k ρ s) N R := by
    intro m
    induction m with
    | zero =>
      intro k ρ s e h
      have : k = w.n := by omega
      subst this
      unfold forM
      rw [hw, if_neg (Nat.lt_irrefl _)]
      exact hd ρ s h
    | succ m ih =>
      intro k ρ s e h
      unfold forM
      rw [hw, if_pos (by omega)]
      obtain ⟨ρ1, s1, e1, h1⟩ := hs k ρ s (by omega) h
      dsimp only
      rw [e1, ts_ok]
      cases eb : body ρ1 s1 with
      | nx ρ2 s2 => rw [eb] at h1; exact ih (k + 1) ρ2 s2 (by omega) h1
      | ret r s2 => rw [eb] at h1; exact h1
      | _ => rw [eb] at h1; exact h1.elim
  exact key w.n 0 ρ s0 (by omega) h0
theorem wkR_at (lo : Int) (n k : Nat) (s : PSt) : (wkR lo n).at_ k s = if k < (wkR lo n).n then .item (.int (lo + k)) else .stop := rfl
theorem wkL_at' (l : List PV) (k : Nat) (s : PSt) : (wkL l).at_ k s = if k < (wkL l).n then .item (l.getD k .non) else .stop := by
  show (match l[k]? with | some v => Stp.item v | none => .stop) = if k < l.length then _ else _
  by_cases h : k < l.length
  · rw [List.getElem?_eq_getElem h, if_pos h, List.getD_eq_getElem?_getD, List.getElem?_eq_getElem h]; rfl
  · rw [List.getElem?_eq_none (by omega), if_neg h]
/-- a comprehension of pure tests and values over a list -/
theorem lc_map {l : List PV} {cg : CG} {t : TM} {e : EM} {st : PSt} {ρ : Ev} (ρ1 : PV → Ev) (tb : PV → Bool) (ev : PV → PV) (h1 : ∀ v ∈ l, cg v ρ = some (ρ1 v)) (h2 : ∀ v ∈ l, t (ρ1 v) st = .ok (tb v) st) (h3 : ∀ v ∈ l, tb v = true → e (ρ1 v) st = .ok (.p (ev v)) st) (hl : l.length ≤ lim) :
    lcM (wkL l).at_ cg ρ t e (wkL l).n 0 [] st = .ok ((l.filter tb).map ev) st := by
  have key : ∀ m k acc, k + m = l.length → acc.length ≤ k → lcM (wkL l).at_ cg ρ t e m k acc st = .ok (acc ++ ((l.drop k).filter tb).map ev) st := by
    intro m
    induction m with
    | zero =>
      intro k acc e1 _
      unfold lcM
      rw [wkL_at', if_neg (by show ¬ k < l.length; omega), List.drop_eq_nil_of_le (by omega)]
      simp
    | succ m ih =>
      intro k acc e1 ha
      have hk : k < l.length := by omega
      unfold lcM
      rw [wkL_at', if_pos (show k < (wkL l).n from hk)]
      have hm : l.getD k .non ∈ l := by rw [List.getD_eq_getElem?_getD, List.getElem?_eq_getElem hk]; exact List.getElem_mem hk
      have hd : l.drop k = l.getD k .non :: l.drop (k + 1) := by rw [List.getD_eq_getElem?_getD, List.getElem?_eq_getElem hk]; exact List.drop_eq_getElem_cons hk
      simp only [h1 _ hm, h2 _ hm]
      rw [hd]
      cases ht : tb (l.getD k .non) with
      | false =>
        simp only
        rw [ih (k + 1) acc (by omega) (by omega), List.filter_cons_of_neg (by rw [ht]; simp)]
      | true =>
        simp only [h3 _ hm ht]
        rw [if_pos (by omega), ih (k + 1) (acc ++ [ev (l.getD k .non)]) (by omega) (by rw [List.length_append]; simp; omega), List.filter_cons_of_pos ht]
        simp
  have z := key l.length 0 [] (by omega) (Nat.le_refl _)
  show lcM (wkL l).at_ cg ρ t e l.length 0 [] st = _
  simpa using z
theorem wkR_wkL (n : Nat) : ∀ k s, (wkR 0 n).at_ k s = (wkL ((List.range n).map fun (i : Nat) => PV.int i)).at_ k s := by
  intro k s
  rw [wkR_at, wkL_at']
  show (if k < n then _ else _) = if k < ((List.range n).map fun (i : Nat) => PV.int i).length then _ else _
  rw [List.length_map, List.length_range]
  by_cases h : k < n
  · rw [if_pos h, if_pos h, List.getD_eq_getElem?_getD]
    simp [h]
  · rw [if_neg h, if_neg h]
/-- comprehensions, by where they walk -/
theorem lc_tup {l : List PV} {cg : CG} {vs : List Nat} {t : TM} {e a : EM} {st : PSt} {ρ : Ev} (ha : a ρ st = .ok (.p (.tup l)) st) (ρ1 : PV → Ev) (tb : PV → Bool) (ev : PV → PV) (h1 : ∀ v ∈ l, cg v (wipeE ρ vs) = some (ρ1 v)) (h2 : ∀ v ∈ l, t (ρ1 v) st = .ok (tb v) st) (h3 : ∀ v ∈ l, tb v = true → e (ρ1 v) st = .ok (.p (ev v)) st) (hl : l.length ≤ lim) :
    eLc (iTupM a) cg vs t e ρ st = .ok (.p (.lst ((l.filter tb).map ev))) st := by
  show ((a ρ st).bind _).bind _ = _
  rw [ha]
  show (lcM (wkL l).at_ cg (wipeE ρ vs) t e (wkL l).n 0 [] st).bind _ = _
  rw [lc_map ρ1 tb ev h1 h2 h3 hl]; rfl
theorem lc_lst {l : List PV} {cg : CG} {vs : List Nat} {t : TM} {e a : EM} {st : PSt} {ρ : Ev} (ha : a ρ st = .ok (.p (.lst l)) st) (ρ1 : PV → Ev) (tb : PV → Bool) (ev : PV → PV) (h1 : ∀ v ∈ l, cg v (wipeE ρ vs) = some (ρ1 v)) (h2 : ∀ v ∈ l, t (ρ1 v) st = .ok (tb v) st) (h3 : ∀ v ∈ l, tb v = true → e (ρ1 v) st = .ok (.p (ev v)) st) (hl : l.length ≤ lim) :
    eLc (iLstM a) cg vs t e ρ st = .ok (.p (.lst ((l.filter tb).map ev))) st := by
  show ((a ρ st).bind _).bind _ = _
  rw [ha]
  show (lcM (wkL l).at_ cg (wipeE ρ vs) t e (wkL l).n 0 [] st).bind _ = _
  rw [lc_map ρ1 tb ev h1 h2 h3 hl]; rfl
theorem lc_zip {l m : List PV} {cg : CG} {vs : List Nat} {t : TM} {e : EM} {a : Ev → PM (List PR)} {st : PSt} {ρ : Ev} (ha : a ρ st = .ok [.p (.tup l), .p (.tup m)] st) (ρ1 : PV → Ev) (tb : PV → Bool) (ev : PV → PV) (h1 : ∀ v ∈ zipV l m, cg v (wipeE ρ vs) = some (ρ1 v)) (h2 : ∀ v ∈ zipV l m, t (ρ1 v) st = .ok (tb v) st) (h3 : ∀ v ∈ zipV l m, tb v = true → e (ρ1 v) st = .ok (.p (ev v)) st) (hl : (zipV l m).length ≤ lim) :
    eLc (iZipM a) cg vs t e ρ st = .ok (.p (.lst (((zipV l m).filter tb).map ev))) st := by
  show ((a ρ st).bind _).bind _ = _
  rw [ha]
  show (lcM (wkL (zipV l m)).at_ cg (wipeE ρ vs) t e (wkL (zipV l m)).n 0 [] st).bind _ = _
  rw [lc_map ρ1 tb ev h1 h2 h3 hl]; rfl
theorem lcM_at {f f' : Nat → PSt → Stp} (h : ∀ k s, f k s = f' k s) {cg : CG} {ρ : Ev} {t : TM} {e : EM} : lcM f cg ρ t e = lcM f' cg ρ t e := by
  have : f = f' := funext fun k => funext fun s => h k s
  rw [this]
theorem lc_rng {j : Int} {cg : CG} {vs : List Nat} {t : TM} {e : EM} {a : Ev → PM (List PR)} {st : PSt} {ρ : Ev} (ha : a ρ st = .ok [.p (.int j)] st) (hj : 0 ≤ j ∧ j ≤ lim) (ρ1 : PV → Ev) (tb : PV → Bool) (ev : PV → PV) (h1 : ∀ k : Nat, k < j.toNat → cg (.int k) (wipeE ρ vs) = some (ρ1 (.int k))) (h2 : ∀ k : Nat, k < j.toNat → t (ρ1 (.int k)) st = .ok (tb (.int k)) st) (h3 : ∀ k : Nat, k < j.toNat → tb (.int k) = true → e (ρ1 (.int k)) st = .ok (.p (ev (.int k))) st) :
    eLc (iRng1M a) cg vs t e ρ st = .ok (.p (.lst ((((List.range j.toNat).map fun (i : Nat) => PV.int i).filter tb).map ev))) st := by
  show ((a ρ st).bind _).bind _ = _
  rw [ha]
  show ((if -(2 ^ 62) ≤ j ∧ j < 2 ^ 62 then (pure (wkR 0 j.toNat) : PM Wk) else PM.stuck) st).bind _ = _
  have hl : j ≤ 16777216 := hj.2
  rw [if_pos (by omega)]
  show (lcM (wkR 0 j.toNat).at_ cg (wipeE ρ vs) t e j.toNat 0 [] st).bind _ = _
  have hw := lcM_at (cg := cg) (ρ := wipeE ρ vs) (t := t) (e := e) (wkR_wkL j.toNat)
  have hm : ∀ v, v ∈ ((List.range j.toNat).map fun (i : Nat) => PV.int i) → ∃ k : Nat, k < j.toNat ∧ v = .int k := fun v hv => by
    obtain ⟨k, hk, e⟩ := List.mem_map.mp hv
    exact ⟨k, List.mem_range.mp hk, e.symm⟩
  have z := lc_map (l := (List.range j.toNat).map fun (i : Nat) => PV.int i) (cg := cg) (t := t) (e := e) (st := st) (ρ := wipeE ρ vs) ρ1 tb ev (fun v hv => by obtain ⟨k, hk, rfl⟩ := hm v hv; exact h1 k hk) (fun v hv => by obtain ⟨k, hk, rfl⟩ := hm v hv; exact h2 k hk)
    (fun v hv ht => by obtain ⟨k, hk, rfl⟩ := hm v hv; exact h3 k hk ht) (by rw [List.length_map, List.length_range]; omega)
  rw [hw]
  have hn : (wkL ((List.range j.toNat).map fun (i : Nat) => PV.int i)).n = j.toNat := by show ((List.range j.toNat).map fun (i : Nat) => PV.int i).length = _; simp
  rw [hn] at z
  rw [z]; rfl
/-! defs -/
theorem defM_ret {np nl : Nat} {body : SM} {rs : List PR} {v : PV} {st : PSt} (hl : rs.length = np) (h : body (rs.map some ++ List.replicate (nl - rs.length) none) st = .ret (.p v) st) : defM np nl body rs st = .ok (.p v) st := by
  unfold defM
  rw [if_pos hl, h]
  show Out.ok (PR.p v) (st.take st.length) = _
  rw [List.take_length]
theorem defM_nx {np nl : Nat} {body : SM} {rs : List PR} {ρ : Ev} {st : PSt} (hl : rs.length = np) (h : body (rs.map some ++ List.replicate (nl - rs.length) none) st = .nx ρ st) : defM np nl body rs st = .ok (.p .non) st := by
  unfold defM
  rw [if_pos hl, h]
  show Out.ok (PR.p .non) (st.take st.length) = _
  rw [List.take_length]
theorem defM_err {np nl : Nat} {body : SM} {rs : List PR} {c : Nat} {v : PV} {st : PSt} (hl : rs.length = np) (h : body (rs.map some ++ List.replicate (nl - rs.length) none) st = .err c v st) : defM np nl body rs st = .err c v st := by
  unfold defM
  rw [if_pos hl, h]
  show Out.err c v (st.take st.length) = _
  rw [List.take_length]
/-- a def that returns a pure value, the state at its entry cut back -/
theorem defM_RetS {np nl : Nat} {body : SM} {rs : List PR} {P : PR → PSt → Prop} {st : PSt} (hl : rs.length = np) (h : RetS (body (rs.map some ++ List.replicate (nl - rs.length) none) st) (fun _ s => P (.p .non) (s.take st.length)) (fun r s => ∃ v, r = .p v ∧ P r (s.take st.length))) : Ret (defM np nl body rs st) P := by
  unfold defM
  rw [if_pos hl]
  cases e : body (rs.map some ++ List.replicate (nl - rs.length) none) st with
  | nx ρ s => rw [e] at h; exact h
  | ret r s => rw [e] at h; obtain ⟨v, rfl, h⟩ := h; exact h
  | _ => rw [e] at h; exact h.elim
/-! one statement after the other, by equations -/
theorem sq_ret {a b : SM} {r : PR} {s : PSt} (h : a ρ st = .ret r s) : sSeq a b ρ st = .ret r s := by show (a ρ st).then b = _; rw [h]; rfl
theorem sq_err {a b : SM} {c : Nat} {v : PV} {s : PSt} (h : a ρ st = .err c v s) : sSeq a b ρ st = .err c v s := by show (a ρ st).then b = _; rw [h]; rfl
theorem sq_nx {a b : SM} {ρ1 : Ev} {s1 : PSt} {o : OutS} (h : a ρ st = .nx ρ1 s1) (k : b ρ1 s1 = o) : sSeq a b ρ st = o := by show (a ρ st).then b = _; rw [h]; exact k
theorem rs_nx {a b : SM} {ρ1 : Ev} {s1 : PSt} (h : a ρ st = .nx ρ1 s1) (k : RetS (b ρ1 s1) N R) : RetS (sSeq a b ρ st) N R := by show RetS ((a ρ st).then b) N R; rw [h]; exact k
theorem if_t {t : TM} {a b : SM} {s : PSt} {o : OutS} (h : t ρ st = .ok true s) (k : a ρ s = o) : sIf t a b ρ st = o := by show (t ρ st).toS _ = _; rw [h]; exact k
theorem if_f {t : TM} {a b : SM} {s : PSt} {o : OutS} (h : t ρ st = .ok false s) (k : b ρ s = o) : sIf t a b ρ st = o := by show (t ρ st).toS _ = _; rw [h]; exact k
theorem re_ok {e : EM} {r : PR} {s : PSt} (h : e ρ st = .ok r s) : sRet e ρ st = .ret r s := by show (e ρ st).toS _ = _; rw [h]; rfl
theorem as_ok {e : EM} {i : Nat} {r : PR} {s : PSt} (h : e ρ st = .ok r s) : sAsg e (gNm i) ρ st = .nx (ρ.set i (some r)) s := by show (e ρ st).toS _ = _; rw [h]; rfl
theorem ex_ok {e : EM} {r : PR} {s : PSt} (h : e ρ st = .ok r s) : sExpr e ρ st = .nx ρ s := by show (e ρ st).toS _ = _; rw [h]; rfl
theorem tv_ok {e : EM} {b : Bool} {s : PSt} (h : e ρ st = .ok (.p (.bl b)) s) : tVal e ρ st = .ok b s := by show (e ρ st).bind _ = _; rw [h]; rfl
theorem tt_ok {e : EM} {b : Bool} {s : PSt} (h : e ρ st = .ok (.p (.bl b)) s) : tTruth e ρ st = .ok b s := by show (e ρ st).bind _ = _; rw [h]; rfl
theorem tn_ok {t : TM} {b : Bool} {s : PSt} (h : t ρ st = .ok b s) : tNotM t ρ st = .ok (!b) s := by show (t ρ st).bind _ = _; rw [h]; rfl
theorem no_ok {e : EM} {b : Bool} {s : PSt} (h : e ρ st = .ok (.p (.bl b)) s) : eNot e ρ st = .ok (.p (.bl (!b))) s := by show (e ρ st).bind _ = _; rw [h]; rfl
theorem or_f {t u : TM} {b : Bool} {s s' : PSt} (h : t ρ st = .ok false s) (k : u ρ s = .ok b s') : tOrM t u ρ st = .ok b s' := by show (t ρ st).bind _ = _; rw [h]; exact k
theorem cl_ok {f : FM} {a : Ev → PM (List PR)} {ds : List PV} {l : List PR} {s : PSt} {o : Out PR} (h : a ρ st = .ok l s) (k : f (l ++ ds.map .p) s = o) : eCallD f a ds ρ st = o := by show (a ρ st).bind _ = _; rw [h]; exact k
theorem e1_ok {f : PR → PM PR} {e : EM} {r : PR} {s : PSt} {o : Out PR} (h : e ρ st = .ok r s) (k : f r s = o) : e1 f e ρ st = o := by show (e ρ st).bind _ = _; rw [h]; exact k
theorem e2_ok {f : PR → PR → PM PR} {a b : EM} {x y : PR} {s s' : PSt} {o : Out PR} (h : a ρ st = .ok x s) (h' : b ρ s = .ok y s') (k : f x y s' = o) : e2 f a b ρ st = o := by
  show (a ρ st).bind _ = _; rw [h]
  show (b ρ s).bind _ = _; rw [h']; exact k
theorem ac_ok {e : EM} {a : Ev → PM (List PR)} {x : PR} {l : List PR} {s s' : PSt} (h : e ρ st = .ok x s) (k : a ρ s = .ok l s') : aCons e a ρ st = .ok (x :: l) s' := by
  show (e ρ st).bind _ = _; rw [h]
  show (a ρ s).bind _ = _; rw [k]; rfl
/-! numbers -/
theorem le_ii (a b : Int) (st : PSt) : leM (.p (.int a)) (.p (.int b)) st = .ok (.p (.bl (decide (a ≤ b)))) st := rfl
theorem gt_ii (a b : Int) (st : PSt) : gtM (.p (.int a)) (.p (.int b)) st = .ok (.p (.bl (decide (b < a)))) st := rfl
theorem ge_ii (a b : Int) (st : PSt) : geM (.p (.int a)) (.p (.int b)) st = .ok (.p (.bl (decide (b ≤ a)))) st := rfl
theorem lt_ii (a b : Int) (st : PSt) : ltM (.p (.int a)) (.p (.int b)) st = .ok (.p (.bl (decide (a < b)))) st := rfl
theorem sub_ii (a b : Int) (st : PSt) : subM (.p (.int a)) (.p (.int b)) st = .ok (.p (.int (a - b))) st := rfl
theorem add_ii (a b : Int) (st : PSt) : addM (.p (.int a)) (.p (.int b)) st = .ok (.p (.int (a + b))) st := rfl
theorem toInt_i (a : Int) (st : PSt) : toIntM (.p (.int a)) st = .ok (.p (.int a)) st := rfl
theorem retB_ok (b : Bool) (st : PSt) : retB b st = .ok (.p (.bl b)) st := rfl
end
end Vs
/-! Layer, part 10: max of two numbers, {}, a tuple many times, enumerate. -/
namespace Vs
open PySem PyProof.Rows L2
section
variable {X : Cx} {g : Gx} {W : XK} {a b c e : Expr} {es : List Expr} {ma mb mc : EM} {pos p : Pos} {margs : Ev → PM (List PR)} {x : Str}
/-- max(i, j) -/
def eMax2 (m : Ev → PM (List PR)) : EM := fun ρ => m ρ >>= fun l => match l with
  | [.p (.int i), .p (.int j)] => pure (.p (.int (if j > i then j else i)))
  | _ => PM.stuck
theorem boot_mx : bootBuiltins "max" = some (.builtin "max") := by rfl
theorem je_max2 (hc : X.calm = true) (hg : Gl X "max") (hm : X.mg "max" = none) (ha : JA X g W [a, b] margs) (he : starEach [a, b] X.env = (false, eval a X.env) :: starEach [b] X.env := by rfl) (hpl : (backTo pos (starEach [b] X.env)).any (·.1) = false := by rfl) :
    JE X g W (.Call (.Name "max" p) [a, b] [] pos) (eMax2 margs) :=
  ofE (pe_callB (call_max2 hc) hg hm boot_mx ha (by decide) (by decide) he hpl) fun _ _ σ H Q _ ⟨φ, ρ, st, rh, re, ok⟩ => ⟨φ, ρ, st, rh, re, (show Ok g φ st H (RP g) Q W ((margs ρ >>= fun l => match l with
  | [.p (.int i), .p (.int j)] => (pure (.p (.int (if j > i then j else i))) : PM PR)
  | _ => PM.stuck) st) from ok).bind fun l st1 vs φ1 H1 g1 h1 r1 ok1 => by
    split at ok1
    · rename_i i j
      obtain ⟨u, v, rfl, r2, r3⟩ := two_args r1
      cases rp_int.mp r2
      cases rp_int.mp r3
      exact ⟨i, j, rfl, ok1.intr h1⟩
    · exact ok1.elim⟩
/-- {} -/
def eDct0 : EM := fun _ st => .ok (.p (.dK [] [])) st
theorem je_dct0 : JE X g W (.Dict [] [] pos) eDct0 :=
  ofE pe_dnewK fun _ _ σ H Q _ ⟨φ, ρ, st, rh, re, ok⟩ => fun q hq => by
    have ok : Ok g φ st H (RP g) Q W (.ok (.p (.dK [] [])) st) := ok
    obtain ⟨h1, h2⟩ := rh.fresh (o := .dK []) hq
    exact ok _ _ _ h2 h1 (by simp only [RP, RV]; exact ⟨q, [], rfl, rh.new hq, upd_same, rfl, RVs.nil⟩)
/-- a tuple many times -/
def repM : PR → PR → PM PR
  | .p (.tup l), .p (.int k) => PM.guard (l ≠ [] ∧ 2 ≤ k ∧ k ≤ 1000 ∧ l.length ≤ 1000) (pure (.p (.tup (List.replicate k.toNat l).flatten)))
  | _, _ => PM.stuck
theorem rvs_rep {L : List Addr} {H : Hp} {l : List PV} {xs : List V} (h : RVs g L H l xs) : ∀ n : Nat, RVs g L H (List.replicate n l).flatten (List.replicate n xs).flatten
  | 0 => RVs.nil
  | n + 1 => by
    simp only [List.replicate_succ, List.flatten_cons]
    exact h.append (rvs_rep h n)
theorem oj_rep (hK : X.K = g.K) : OpJ X g W (binaryOp .Mult) repM := OpJ.of op_repT fun _ _ _ φ st H a b x y Q _ rh ra rb ok => by
  cases a with
  | r _ _ => exact ok.elim
  | p u => cases u with
    | tup l => cases b with
      | r _ _ => exact ok.elim
      | p v => cases v with
        | int k =>
          obtain ⟨⟨c1, c2, c3, c4⟩, ok⟩ := ok_guard ok
          obtain ⟨q, xs, rfl, t, rv⟩ := rp_tup.mp ra
          cases rp_int.mp rb
          refine ⟨q, k, xs, rfl, rfl, by rw [hK]; exact t.sq, fun z => c1 ?_, c2, c3, by rw [rv.length]; exact c4, fun p hp => Ok.tup ok rh (rvs_rep rv _) hp⟩
          have := rv.length
          rw [z] at this
          exact List.eq_nil_of_length_eq_zero this.symm
        | _ => exact ok.elim
    | _ => exact ok.elim
end
end Vs
/-! Layer, part 10b: enumerate of a list or a tuple. -/
namespace Vs
open PySem PyProof.Rows L2
def IteT (K : PySem.W.Frag) (a : Addr) : It :=
  ⟨fun n G => ∃ (ys : List V) (y : V), SqT K G a ys ∧ ys[n]? = some y,
    fun n G v G' => ∃ t y, v = .ref t ∧ G t = none ∧ G' = upd G t (.tup [.int (n : Nat), y]) ∧ ∀ ys, SqT K G a ys → ys[n]? = some y,
    fun n G => ∃ ys : List V, SqT K G a ys ∧ ys.length ≤ n⟩
abbrev EnT (e it a : Addr) (n : Nat) (h : Heap) : Prop := (∃ o, IsEnum h e it ((n : Nat) : Int) o) ∧ h.IsTupleIter it a n ∧ e ≠ it ∧ e ≠ a ∧ a ≠ it
theorem turn_enumT {P : Program} {w : World} {K : PySem.W.Frag} {es : List Expr} {kk : Nat} {tp : Pos} (a e it : Addr) : Turn P w K (.Tuple es kk tp) (IteT K a) [e, it] e (EnT e it a) where
  mem := List.mem_cons_self ..
  obj := fun n h ⟨⟨o, q⟩, ⟨c, qc, _, qd⟩, _⟩ b hb => by
    rcases List.mem_cons.mp hb with rfl | hq2
    · exact ⟨_, q, fun _ z => nomatch z⟩
    · cases List.mem_singleton.mp hq2
      exact ⟨c, qc, fun _ z => by rw [qd] at z; cases z⟩
  keep := fun n h h' ⟨⟨o, q⟩, qi, n1, n2, n3⟩ k => ⟨⟨o, k e (List.mem_cons_self ..) _ q⟩, qi.at fun c z => k it (List.mem_cons_of_mem _ (List.mem_cons_self ..)) c z, n1, n2, n3⟩
  item := by
    intro X hP hw hK hc n pins s σ G E I hf ⟨⟨o, qe⟩, qi, n1, n2, n3⟩ ⟨ys, y, hq, hy⟩
    subst hP hw hK
    obtain ⟨its, rv, tp, _⟩ := I.tuple hq
    obtain ⟨u, hu, ru⟩ := rv.get hy
    have lt : n < its.toArray.size := by
      obtain ⟨z, _⟩ := List.getElem?_eq_some_iff.mp hu
      simpa using z
    have se : e < s.heap.objs.size := Heap.lt_size qe
    have si : it < s.heap.objs.size := let ⟨_, z, _⟩ := qi; Heap.lt_size z
    have out : e ∉ [it, a] := by simp [n1, n2]
    refine wpAny_pyNext_enum_itemD (Draws.tuple (A := X.A.in1) (show X.A.in1.handled = none from I.ok.hd hc) it a n3 its.toArray) qe ⟨qi, tp⟩ lt n1 out fun x h1 tk qx eo ⟨qi1, _⟩ cell sz kp => ?_
    have xu : x = u := by
      have z : its.toArray[n]? = some u := by simpa using hu
      rw [z] at qx; exact (Option.some.inj qx).symm
    subst xu
    refine ⟨_, rfl, wpAny_letOwnedTupleGo_enum (s := { s with heap := h1, toks := tk + 1 }) eo fun h2 e2 sb => ?_⟩
    have nw : ObjOk X.prog X.w (upd G s.heap.objs.size (.tup [.int (n : Nat), y])) h2 s.heap.objs.size (.tup [.int (n : Nat), y]) :=
      ⟨by show 2 ≤ sizeLine; decide, [.int n tk, x], .cons ⟨_, rfl⟩ (.cons ru .nil), ⟨_, (sb.2 _ (Nat.ne_of_gt se)).trans cell, rfl, _, rfl⟩⟩
    have J := I.turnedNew (t' := tk + 1) (ch := [e, it]) (fun b z hb q => (sb.2 b fun r => hb (r ▸ List.mem_cons_self ..)).trans (kp b z (fun r => hb (r ▸ List.mem_cons_self ..)) (fun r => hb (r ▸ List.mem_cons_of_mem _ (List.mem_cons_self ..))) q)) hf (Nat.le_refl _) nw
    refine ⟨.ref s.heap.objs.size, _, J, rfl, ⟨_, y, rfl, I.hok.fresh (Nat.le_refl _), rfl, fun zs hz => by rw [I.tuple_inj hz hq]; exact hy⟩, ⟨⟨x, ?_⟩, qi1.at fun c q => (sb.2 it n1.symm).trans q, n1, n2, n3⟩, fun b hb => ?_⟩
    · have nn : ((n + 1 : Nat) : Int) = (n : Int) + 1 := rfl
      rw [nn]; exact e2
    · have lb : b < s.heap.objs.size := by
        rcases List.mem_cons.mp hb with rfl | hq2
        · exact se
        · cases List.mem_singleton.mp hq2; exact si
      rw [upd_ne (Nat.ne_of_lt lb)]
      exact (hf b hb).1
  done := by
    intro X hP hw hK hc n pins s σ G E I hf ⟨⟨o, qe⟩, qi, n1, n2, n3⟩ ⟨ys, hq, hy⟩
    subst hP hw hK
    obtain ⟨its, rv, tp, _⟩ := I.tuple hq
    have big : its.toArray[n]? = none := by
      have z := rv.length
      simp; omega
    have no : Draws X.prog X.w X.A.in1 it [it, a] n (fun _ _ => False) (fun k h => k = n ∧ h.IsTupleIter it a n ∧ h.IsTuple a its.toArray) :=
      { live := fun _ _ q => let ⟨c, z, _⟩ := q.2.1; ⟨c, z⟩
        frame := fun _ _ _ q k => ⟨q.1, q.2.1.at fun c z => k it (List.mem_cons_self ..) c z, q.2.2.at fun c z => k a (List.mem_cons_of_mem _ (List.mem_cons_self ..)) c z⟩
        item := fun k _ _ _ lt q _ => absurd q.1 (Nat.ne_of_lt lt)
        done := fun _ _ _ q k => wpAny_nextOf_tuple_end (show X.A.in1.handled = none from I.ok.hd hc) q.2.1 q.2.2 big k }
    obtain ⟨f0, f1, f2, f3, f4, f5⟩ := hf it (List.mem_cons_of_mem _ (List.mem_cons_self ..))
    exact wpAny_pyNext_enum_endD no qe ⟨rfl, qi, tp⟩ fun h1 eb => ⟨rfl, I.turned (t' := s.toks) (fun b c hb q => eb b c hb q) f0 f1 f3 f4 f5⟩
  self := fun A n s Q E ⟨⟨_, q⟩, _⟩ h => wpAny_pyIter_enum q h
end Vs
/-! Layer, part 10c: how enumerate begins; its walk. -/
namespace Vs
open PySem PyProof.Rows L2
abbrev enO (it : Addr) : Obj := { cls := .type "enumerate", data := .fields #[.none, .bool false, .ref it, rawInt 0, .none, .none] }
theorem new_enum {v : Value} {o : Obj} {C : Heap → Prop} (B : Begins v o C) :
    Meets (Builtin.«enumerate.__new__» ⟨[.type "enumerate", v], []⟩) (fun _ R s => C s.heap ∧ R (.ok (.ret (.ref (s.heap.push o).objs.size))) { s with heap := (s.heap.push o).push (enO s.heap.objs.size) }) :=
  .of_wp fun P w A R s z => by
    obtain ⟨hp, gl, dp, tk, os⟩ := s
    obtain ⟨c, z⟩ := z
    have su := sub_enumerate
    have it : ∀ {A' : Around} {E Q : Value → Shared → Prop}, Q (.ref hp.objs.size) ⟨hp.push o, gl, dp, tk, os⟩ → wpAny (model P w) A' (pyIter v) Q E ⟨hp, gl, dp, tk, os⟩ := fun q => B.iter P w _ _ ⟨hp, gl, dp, tk, os⟩ _ c q
    wp_walk using it
    refine wpAny_stack_any fun k => wpAny_pure ?_
    split
    · rename_i cl _ _ _ _ _
      cases (cl == Value.type "enumerate") <;> (wp_walk using it; exact ⟨_, rfl, z⟩)
    · wp_walk using it
      exact ⟨_, rfl, z⟩
section
variable {A : Around} {P : Program} {w : World} {s : Shared} {E : Value → Shared → Prop}
theorem enum_of {v : Value} {o : Obj} {C : Heap → Prop} {Q : Value → Shared → Prop} (B : Begins v o C) (c : C s.heap)
    (q : ∀ h, IsEnum h (s.heap.objs.size + 1) s.heap.objs.size 0 .none → h.get? s.heap.objs.size = some o → (∀ b u, s.heap.get? b = some u → h.get? b = some u) → Q (.ref (s.heap.objs.size + 1)) { s with heap := h }) :
    wpAny (model P w) A (call (.type "enumerate") [v]) Q E s := by
  have sz : (s.heap.push o).objs.size = s.heap.objs.size + 1 := Heap.size_push ..
  refine callType_new F.called_enumerate (by decide) (F.typeCall_enumerate_1 _) (F.newCall_enumerate_1 _) (fun u => F.args_object_init_2 u _) F.entry_enumerate_new (new_enum B) ⟨c, ?_⟩
  rw [sz]
  have en : IsEnum ((s.heap.push o).push (enO s.heap.objs.size)) (s.heap.objs.size + 1) s.heap.objs.size 0 .none := by
    have z := Heap.get?_push_size (s.heap.push o) (o := enO s.heap.objs.size) rfl
    rw [sz] at z
    exact z
  exact ⟨⟨_, en, rfl⟩, q _ en (Heap.get?_push_of_some _ (Heap.get?_push_size _ B.free)) fun b u z => Heap.get?_push_of_some _ (Heap.get?_push_of_some _ z)⟩
end
def iEnA (K : PySem.W.Frag) (ta : TA) : TI := fun σ H R => ta σ H fun vs H1 => ∃ a xs, vs = [.ref a] ∧ ((SqL K H1 a xs ∧ R (Ite K a) H1) ∨ (SqT K H1 a xs ∧ R (IteT K a) H1))
theorem pi_enA {X : Cx} {e : Expr} {ta : TA} {p pos tpos : Pos} {es : List Expr} {kk : Nat} (hg : Gl X "enumerate") (hm : X.mg "enumerate" = none) (ha : PA X [e] ta) (hs : starEach [e] X.env = [(false, eval e X.env)] := by rfl) :
    PI X (.Tuple es kk tpos) (.Call (.Name "enumerate" p) [e] [] pos) (iEnA X.K ta) := by
  refine ⟨fun pins s σ H R I run => ?_⟩
  refine Call_ (ld_blt I hg hm boot_enumerate (callWith_type1 (thn (ha.run pos pins s σ H _ I run) fun us s1 ⟨vs, H1, I1, r1, a, xs, ev, cases2⟩ => ?_) hs rfl))
  subst ev
  cases r1 with
  | cons r2 r3 =>
    cases r3
    cases r2
    have fp : ∀ b ∈ [s1.heap.objs.size + 1, s1.heap.objs.size], FpOk X pins H1 b := fun b hb => by
      have le : s1.heap.objs.size ≤ b := by
        rcases List.mem_cons.mp hb with rfl | hq2
        · exact Nat.le_succ _
        · cases List.mem_singleton.mp hq2; exact Nat.le_refl _
      exact I1.fpOk le (I1.hok.fresh le)
    rcases cases2 with ⟨hq, q⟩ | ⟨hq, q⟩
    · obtain ⟨its, rv, pl, _⟩ := I1.list hq
      refine enum_of (begins_list a its.toArray) pl.isList fun h en io kp => wpAny_pyIter_enum en ?_
      exact ⟨_, _, _, _, H1, rfl, I1.kept (t' := s1.toks) kp, turn_enum a (s1.heap.objs.size + 1) s1.heap.objs.size, ⟨⟨.none, en⟩, ⟨_, io, rfl, rfl⟩, Nat.succ_ne_self _⟩, fp, q⟩
    · obtain ⟨its, rv, pt, _⟩ := I1.tuple hq
      obtain ⟨c, hc, _⟩ := id pt
      have la : a < s1.heap.objs.size := Heap.lt_size hc
      refine enum_of (begins_tuple a its.toArray) pt fun h en io kp => wpAny_pyIter_enum en ?_
      exact ⟨_, _, _, _, H1, rfl, I1.kept (t' := s1.toks) kp, turn_enumT a (s1.heap.objs.size + 1) s1.heap.objs.size, ⟨⟨.none, en⟩, ⟨_, io, rfl, rfl⟩, Nat.succ_ne_self _, Nat.ne_of_gt (Nat.lt_succ_of_lt la), Nat.ne_of_lt la⟩, fp, q⟩
/-! the walk -/
def enV : Nat → List PV → List PV
  | _, [] => []
  | k, a :: l => .tup [.int k, a] :: enV (k + 1) l
theorem enV_get : ∀ {l : List PV} {n k : Nat}, (enV n l)[k]? = (l[k]?).map fun v => .tup [.int ((n + k : Nat) : Int), v]
  | [], n, k => by simp [enV]
  | a :: l, n, 0 => by simp [enV]
  | a :: l, n, k + 1 => by
    have z := @enV_get l (n + 1) k
    have e : n + 1 + k = n + (k + 1) := by omega
    rw [e] at z
    simpa [enV] using z
section
variable {g : Gx} {W : XK} {X : Cx} {a : Expr} {margs : Ev → PM (List PR)} {p pos : Pos}
theorem rv_no {L : List Addr} {H : Hp} {i : Int} : RV g L H (.int i) (.int i) := by simp only [RV]
theorem wk_enL {l : List PV} {xs : List V} {a : Addr} {φ : Ph} {st : PSt} {H : Hp} (s : LsAt g (live φ st) H a xs) (rv : RVs g (live φ st) H l xs) : WkR g φ st H (wkL (enV 0 l)) (Ite g.K a) := by
  intro k φ' st' H' kp pre rh
  have s' := (s.kp kp).sq
  have rv' := rv.kp kp
  rw [wkL_at, enV_get]
  cases e : l[k]? with
  | none => exact ⟨xs, s', by rw [rv.length]; exact List.getElem?_eq_none_iff.mp e⟩
  | some v =>
    obtain ⟨x, e1, r1⟩ := rv'.get e
    refine ⟨⟨xs, x, s', e1⟩, fun z H'' ⟨T, y, ez, hT, eH, f⟩ => ?_⟩
    subst ez eH
    have e2 := f xs s'
    rw [e1] at e2
    cases e2
    rw [Nat.zero_add]
    exact ⟨fun c u q => by rw [upd_ne (ne_of_none q hT)]; exact q, pair_rv hT (rh.new hT) rv_no r1⟩
theorem wk_enT {l : List PV} {xs : List V} {a : Addr} {φ : Ph} {st : PSt} {H : Hp} (s : TpAt g (live φ st) H a xs) (rv : RVs g (live φ st) H l xs) : WkR g φ st H (wkL (enV 0 l)) (IteT g.K a) := by
  intro k φ' st' H' kp pre rh
  have s' := (s.kp kp).sq
  have rv' := rv.kp kp
  rw [wkL_at, enV_get]
  cases e : l[k]? with
  | none => exact ⟨xs, s', by rw [rv.length]; exact List.getElem?_eq_none_iff.mp e⟩
  | some v =>
    obtain ⟨x, e1, r1⟩ := rv'.get e
    refine ⟨⟨xs, x, s', e1⟩, fun z H'' ⟨T, y, ez, hT, eH, f⟩ => ?_⟩
    subst ez eH
    have e2 := f xs s'
    rw [e1] at e2
    cases e2
    rw [Nat.zero_add]
    exact ⟨fun c u q => by rw [upd_ne (ne_of_none q hT)]; exact q, pair_rv hT (rh.new hT) rv_no r1⟩
def iEnM (ta : Ev → PM (List PR)) : IM := fun ρ => ta ρ >>= fun l => match l with
  | [.p (.lst l)] => pure (wkL (enV 0 l))
  | [.p (.tup l)] => pure (wkL (enV 0 l))
  | _ => PM.stuck
theorem ji_enum {tpos : Pos} {es : List Expr} {kk : Nat} (hK : X.K = g.K) (hg : Gl X "enumerate") (hm : X.mg "enumerate" = none) (ha : JA X g W [a] margs) (hs : starEach [a] X.env = [(false, eval a X.env)] := by rfl) :
    JI X g W (.Tuple es kk tpos) (.Call (.Name "enumerate" p) [a] [] pos) (iEnM margs) :=
  ofI (pi_enA hg hm ha hs) fun σ H R ⟨φ, ρ, st, rh, re, ok⟩ => ⟨φ, ρ, st, rh, re, (show Ok g φ st H (fun φ st H w J => WkR g φ st H w J) R W ((margs ρ >>= fun l => match l with
  | [.p (.lst l)] => (pure (wkL (enV 0 l)) : PM Wk)
  | [.p (.tup l)] => pure (wkL (enV 0 l))
  | _ => PM.stuck) st) from ok).bind fun l st1 vs φ1 H1 g1 h1 r1 ok1 => by
    rw [hK]
    split at ok1
    · rename_i l
      obtain ⟨x, rfl, r2⟩ := one_arg r1
      obtain ⟨q, xs, rfl, t, rv⟩ := rp_lst.mp r2
      exact ⟨q, xs, rfl, .inl ⟨t.sq, (show Ok g φ1 st1 H1 (fun φ st H w J => WkR g φ st H w J) R W (.ok (wkL (enV 0 l)) st1) from ok1) _ _ _ Go.refl h1 (wk_enL t rv)⟩⟩
    · rename_i l
      obtain ⟨x, rfl, r2⟩ := one_arg r1
      obtain ⟨q, xs, rfl, t, rv⟩ := rp_tup.mp r2
      exact ⟨q, xs, rfl, .inr ⟨t.sq, (show Ok g φ1 st1 H1 (fun φ st H w J => WkR g φ st H w J) R W (.ok (wkL (enV 0 l)) st1) from ok1) _ _ _ Go.refl h1 (wk_enT t rv)⟩⟩
    · exact ok1.elim⟩
end
end Vs
/-! Layer, part 11: least and greatest of a list of data. -/
namespace Vs
open PySem PyProof.Rows L2
mutual
def ofD : PyData → Option PV
  | .none => some .non
  | .bool b => some (.bl b)
  | .int i => some (.int i)
  | .str x => some (.str x)
  | .list xs => (ofDs xs).map .lst
  | .tuple xs => (ofDs xs).map .tup
  | .dict _ => none
def ofDs : List PyData → Option (List PV)
  | [] => some []
  | x :: xs => match ofD x, ofDs xs with
    | some v, some l => some (v :: l)
    | _, _ => none
end
mutual
theorem of_toD : ∀ {v : PV} {d : PyData}, toD v = some d → ofD d = some v
  | .non, d, e => by simp only [toD] at e; cases e; rfl
  | .bl b, d, e => by simp only [toD] at e; cases e; rfl
  | .int i, d, e => by simp only [toD] at e; cases e; rfl
  | .str y, d, e => by simp only [toD] at e; cases e; rfl
  | .tup l, d, e => by
    simp only [toD] at e
    cases e2 : toDs l with
    | none => rw [e2] at e; cases e
    | some ds => rw [e2] at e; cases e; simp only [ofD, of_toDs e2, Option.map_some]
  | .lst l, d, e => by
    simp only [toD] at e
    cases e2 : toDs l with
    | none => rw [e2] at e; cases e
    | some ds => rw [e2] at e; cases e; simp only [ofD, of_toDs e2, Option.map_some]
  | .dK _ _, d, e => by simp only [toD] at e; cases e
  | .dT _ _, d, e => by simp only [toD] at e; cases e
  | .obj _ _ _, d, e => by simp only [toD] at e; cases e
  | .fn _, d, e => by simp only [toD] at e; cases e
theorem of_toDs : ∀ {l : List PV} {ds : List PyData}, toDs l = some ds → ofDs ds = some l
  | [], ds, e => by simp only [toDs] at e; cases e; rfl
  | v :: l, ds, e => by
    simp only [toDs] at e
    cases e1 : toD v with
    | none => rw [e1] at e; cases e
    | some d1 =>
      cases e2 : toDs l with
      | none => rw [e1, e2] at e; cases e
      | some ds1 => rw [e1, e2] at e; cases e; simp only [ofDs, of_toD e1, of_toDs e2]
end
theorem toDs_get : ∀ {l : List PV} {ds : List PyData} {i : Nat} {d : PyData}, toDs l = some ds → ds[i]? = some d → ∃ v, l[i]? = some v ∧ toD v = some d
  | [], ds, i, d, e, h => by simp only [toDs] at e; cases e; cases h
  | v :: l, ds, i, d, e, h => by
    simp only [toDs] at e
    cases e1 : toD v with
    | none => rw [e1] at e; cases e
    | some d1 =>
      cases e2 : toDs l with
      | none => rw [e1, e2] at e; cases e
      | some ds1 =>
        rw [e1, e2] at e
        cases e
        cases i with
        | zero => cases h; exact ⟨v, rfl, e1⟩
        | succ i => exact toDs_get (l := l) (ds := ds1) e2 (by simpa using h)
/-- they can all be compared -/
def alikeD (ds : List PyData) : Bool := (ds.all fun x => ds.all fun y => PySem.W.alike x y) && ds.all someD
theorem alikeD_ok {ds : List PyData} (h : alikeD ds = true) : PySem.W.AlikeAll ds := by
  unfold alikeD at h
  rw [Bool.and_eq_true, List.all_eq_true, List.all_eq_true] at h
  exact ⟨fun x hx y hy => List.all_eq_true.mp (h.1 x hx) y hy, fun x hx => someD_ne (h.2 x hx)⟩
/-- the least (the greatest) of a list: which of two -/
def mnM (f : PyData → List PyData → PyData) : PR → PM PR := fun r => seqL r >>= fun l => match toDs l with
  | some (d :: ds) => if alikeD (d :: ds) = true ∧ PyData.depthAll (d :: ds) ≤ 60 then (match ofD (f d ds) with
    | some v => pure (.p v)
    | none => PM.stuck) else PM.stuck
  | _ => PM.stuck
def minM := mnM PySem.W.minD
def maxM := mnM PySem.W.maxD
def rBest (K : PySem.W.Frag) (f : PyData → List PyData → PyData) : List V → Hp → VK → Prop := fun vs H Q => ∃ (a : Addr) (xs : List V) (d : PyData) (ds : List PyData), vs = [.ref a] ∧ SqL K H a xs ∧ DpAll K H xs (d :: ds) ∧ PySem.W.AlikeAll (d :: ds) ∧ PyData.depthAll (d :: ds) ≤ 60 ∧
  ∀ (i : Nat) (x : V), xs[i]? = some x → (d :: ds)[i]? = some (f d ds) → Q x H
theorem pick_mem (b : PyData → PyData → Bool) : ∀ (ds : List PyData) (d : PyData), ds.foldl (fun a y => if b a y then y else a) d ∈ d :: ds
  | [], d => List.mem_singleton.mpr rfl
  | y :: ds, d => by
    show ds.foldl _ (if b d y then y else d) ∈ _
    have h := pick_mem b ds (if b d y then y else d)
    rcases List.mem_cons.mp h with h | h
    · rw [h]
      cases b d y
      · exact List.mem_cons_self
      · exact List.mem_cons_of_mem _ List.mem_cons_self
    · exact List.mem_cons_of_mem _ (List.mem_cons_of_mem _ h)
theorem valD {xs : List V} {us : List Value} : Vals xs us → ∀ {i : Nat} {u : Value}, us[i]? = some u → ∃ x, xs[i]? = some x ∧ RelV x u := by
  intro h
  induction h with
  | nil => intro i u e; cases e
  | cons h1 _ ih =>
    intro i u e
    cases i with
    | zero => cases e; exact ⟨_, rfl, h1⟩
    | succ i => exact ih (by simpa using e)
section
variable {X : Cx}
theorem cr_best {nm : String} {f : PyData → List PyData → PyData} (hf : ∀ d ds, f d ds ∈ d :: ds)
    (run : ∀ {s : Shared} {l : Addr} {vs : Array Value} {x : PyData} {xs : List PyData} {as : List Addr} {Q : Value → Shared → Prop} {E : Value → Shared → Prop}, X.A.handled = none → s.heap.IsList l vs → ReadsAll s.heap vs.toList (x :: xs) as → PySem.W.AlikeAll (x :: xs) → X.A.units + 1 + PyData.depthAll (x :: xs) < cLine →
      (∀ (i : Nat) v h' tk bs, vs[i]? = some v → Reads h' v (f x xs) bs → (∀ b o, s.heap.get? b = some o → h'.get? b = some o) → Q v { s with heap := h', toks := tk }) → wpAny (model X.prog X.w) X.A (call (.builtin nm) [.ref l]) Q E s)
    (hc : X.calm = true) (hu : X.A.units + 64 < cLine) : CallR X (.builtin nm) (rBest X.K f) := by
  intro pins s σ H vs us Q I r h
  obtain ⟨a, xs, d, ds, rfl, hs, hd, ha, hl, q⟩ := h
  obtain ⟨its, rv, hl2, _⟩ := I.list hs
  rw [Vals.ref1 r]
  obtain ⟨as, rd⟩ := Dp.readsAll I (d :: ds) xs its hd rv
  refine run (I.ok.hd hc) hl2.isList (by simpa using rd) ha (by omega) fun i v h' tk bs hv hr hk => ?_
  obtain ⟨x, hx, rx⟩ := valD rv (i := i) (u := v) (by simpa using hv)
  obtain ⟨cs, c1, c2, c3, _⟩ := PySem.W.readsAll_at rd i v (by simpa using hv)
  have e := PySem.W.alike_unique _ _ _ _ _ (ha.1 _ c3 _ (hf d ds)) (PySem.W.reads_keeps hk c1) hr
  have e2 : (d :: ds)[i]? = some (f d ds) := by
    rw [← e, List.getD_eq_getElem?_getD, List.getElem?_eq_getElem c2]; rfl
  exact ⟨x, H, I.kept hk, rx, q i x hx e2⟩
theorem cr_minD (hc : X.calm = true) (hu : X.A.units + 64 < cLine) : CallR X (.builtin "min") (rBest X.K PySem.W.minD) :=
  cr_best (fun d ds => pick_mem (fun a y => PySem.W.dataLt y a) ds d) (fun h1 h2 h3 h4 h5 h6 => PySem.W.min_list_data h1 h2 h3 h4 h5 h6) hc hu
theorem cr_maxD (hc : X.calm = true) (hu : X.A.units + 64 < cLine) : CallR X (.builtin "max") (rBest X.K PySem.W.maxD) :=
  cr_best (fun d ds => pick_mem (fun a y => PySem.W.dataLt a y) ds d) (fun h1 h2 h3 h4 h5 h6 => PySem.W.max_list_data h1 h2 h3 h4 h5 h6) hc hu
end
section
variable {X : Cx} {g : Gx} {W : XK} {a : Expr} {ma : EM} {pos p : Pos}
theorem best_ok {f : PyData → List PyData → PyData} (hK : X.K = g.K) {φ : Ph} {st : PSt} {H : Hp} {Q : VK} {r : PR} {x : V} (h1 : RH g φ H st) (r1 : RP g φ st H r x) (ok1 : Ok g φ st H (RP g) Q W (mnM f r st)) : rBest X.K f [x] H Q := by
  obtain ⟨q, xs, l, rfl, s, rv, _, ok2⟩ := seqL_ok h1 r1 ok1
  cases e : toDs l with
  | none => rw [e] at ok2; exact ok2.elim
  | some ds =>
    cases ds with
    | nil => rw [e] at ok2; exact ok2.elim
    | cons d ds =>
      rw [e] at ok2
      dsimp only at ok2
      by_cases hc : alikeD (d :: ds) = true ∧ PyData.depthAll (d :: ds) ≤ 60
      · rw [if_pos hc] at ok2
        refine ⟨q, xs, d, ds, rfl, by rw [hK]; exact s, by rw [hK]; exact toDs_dp e rv, alikeD_ok hc.1, hc.2, fun i y hy hd => ?_⟩
        obtain ⟨v, hv, dv⟩ := toDs_get e hd
        obtain ⟨z, hz, rz⟩ := rv.get hv
        rw [hy] at hz
        cases hz
        rw [of_toD dv] at ok2
        exact (show Ok g φ st H (RP g) Q W (.ok (.p v) st) from ok2).ret h1 rz
      · rw [if_neg hc] at ok2; exact ok2.elim
theorem boot_mxD : bootBuiltins "max" = some (.builtin "max") := by rfl
theorem boot_mnD : bootBuiltins "min" = some (.builtin "min") := by rfl
theorem je_maxL (hK : X.K = g.K) (hc : X.calm = true) (hu : X.A.units + 64 < cLine) (hg : Gl X "max") (hm : X.mg "max" = none) (ha : JE X g W a ma) (he : starEach [a] X.env = (false, eval a X.env) :: starEach [] X.env := by rfl) (hpl : (backTo pos (starEach [] X.env)).any (·.1) = false := by rfl) :
    JE X g W (.Call (.Name "max" p) [a] [] pos) (e1 maxM ma) :=
  ofE (pe_callB (cr_maxD hc hu) hg hm boot_mxD (pa_cons ha pa_nil he) (by decide) (by decide) he hpl) fun _ _ σ H Q _ ⟨φ, ρ, st, rh, re, ok⟩ => ⟨φ, ρ, st, rh, re, ok.bind fun r st1 x φ1 H1 g1 h1 r1 ok1 => best_ok hK h1 r1 ok1⟩
theorem je_minL (hK : X.K = g.K) (hc : X.calm = true) (hu : X.A.units + 64 < cLine) (hg : Gl X "min") (hm : X.mg "min" = none) (ha : JE X g W a ma) (he : starEach [a] X.env = (false, eval a X.env) :: starEach [] X.env := by rfl) (hpl : (backTo pos (starEach [] X.env)).any (·.1) = false := by rfl) :
    JE X g W (.Call (.Name "min" p) [a] [] pos) (e1 minM ma) :=
  ofE (pe_callB (cr_minD hc hu) hg hm boot_mnD (pa_cons ha pa_nil he) (by decide) (by decide) he hpl) fun _ _ σ H Q _ ⟨φ, ρ, st, rh, re, ok⟩ => ⟨φ, ρ, st, rh, re, ok.bind fun r st1 x φ1 H1 g1 h1 r1 ok1 => best_ok hK h1 r1 ok1⟩
end
end Vs
/-! Layer, part 12: dicts under change whose keys are tuples, written out where they are asked. -/
namespace Vs
open PySem PyProof.Rows L2
/-- the dict that a name or a field holds -/
def pdAt (st : PSt) : PR → Option PD
  | .r i 0 => match st[i]? with
    | some (.dct d) => some d
    | _ => none
  | .r i 1 => match st[i]? with
    | some (.ins _ _ _ (some q)) => some q.2
    | _ => none
  | _ => none
def pdPut (st : PSt) (d : PD) : PR → PSt
  | .r i 0 => st.set i (.dct d)
  | .r i 1 => match st[i]? with
    | some (.ins c ns vs (some q)) => st.set i (.ins c ns vs (some (q.1, d)))
    | _ => st
  | _ => st
section
variable {g : Gx} {φ : Ph} {st : PSt} {H : Hp} {r : PR} {x : V} {d : PD}
theorem pd_at (rh : RH g φ H st) (rp : RP g φ st H r x) (e : pdAt st r = some d) : ∃ b, x = .ref b ∧ RD g (live φ st) H b d ∧ b ∈ live φ st := by
  cases r with
  | p v => cases e
  | r i j =>
    cases j with
    | zero =>
      obtain ⟨p, e1, rfl⟩ := rp
      simp only [pdAt] at e
      split at e
      · rename_i d' e2
        cases e
        obtain ⟨h1, h2⟩ := rh.ob i p _ e1 e2
        exact ⟨p.1, rfl, h2, live_mem.mpr (.inr ⟨i, p, _, e1, e2, rfl, List.mem_cons_self⟩)⟩
      · cases e
    | succ j =>
      cases j with
      | zero =>
        obtain ⟨p, b, e1, e3, rfl⟩ := rp
        simp only [pdAt] at e
        split at e
        · rename_i c ns vs q e2
          cases e
          obtain ⟨b2, dx, xs, h1, _, _, _, _, h2⟩ := rh.ob i p _ e1 e2
          rw [h1] at e3
          cases e3
          exact ⟨_, rfl, h2, live_mem.mpr (.inr ⟨i, p, _, e1, e2, rfl, by unfold adr; rw [h1]; exact List.mem_cons_of_mem _ List.mem_cons_self⟩)⟩
        · cases e
      | succ j => cases e
theorem pd_put (rh : RH g φ H st) (rp : RP g φ st H r x) (e : pdAt st r = some d) {b : Addr} (hx : x = .ref b) {o : HO} {d' : PD} (rd' : RD g (live φ st) (upd H b o) b d') : RH g φ (upd H b o) (pdPut st d' r) ∧ Go φ st H φ (pdPut st d' r) (upd H b o) := by
  cases r with
  | p v => cases e
  | r i j =>
    cases j with
    | zero =>
      obtain ⟨p, e1, e4⟩ := rp
      rw [hx] at e4
      cases e4
      simp only [pdAt] at e
      split at e
      · rename_i d2 e2
        obtain ⟨h1, h2⟩ := rh.ob i p _ e1 e2
        exact rh.write (u' := .dct d') e1 e2 rfl rfl List.mem_cons_self ⟨h1, rd'⟩
      · cases e
    | succ j =>
      cases j with
      | zero =>
        obtain ⟨p, b', e1, e3, e4⟩ := rp
        rw [hx] at e4
        cases e4
        simp only [pdAt] at e
        split at e
        · rename_i c ns vs q e2
          obtain ⟨b2, dx, xs, h1, h3, h4, h5, h6, h2⟩ := rh.ob i p _ e1 e2
          rw [h1] at e3
          cases e3
          have nd := liv_nodup_adr rh.ndl e1 e2 rfl
          have hn : p.1 ≠ b := fun z => by
            unfold adr at nd
            rw [h1, List.nodup_cons] at nd
            exact nd.1 (by rw [z]; exact List.mem_singleton.mpr rfl)
          have mem : b ∈ live φ st := live_mem.mpr (.inr ⟨i, p, _, e1, e2, rfl, by unfold adr; rw [h1]; exact List.mem_cons_of_mem _ List.mem_cons_self⟩)
          have w := rh.write (o := o) (u' := .ins c ns vs (some (q.1, d'))) (a := b) e1 e2 rfl rfl (by unfold adr; rw [h1]; exact List.mem_cons_of_mem _ List.mem_cons_self)
            ⟨b, dx, xs, h1, by rw [upd_ne hn]; exact h3, h4, h5.kp (kp_write mem), h6, rd'⟩
          have z : pdPut st d' (.r i (0 + 1)) = st.set i (.ins c ns vs (some (q.1, d'))) := by
            simp only [pdPut, e2]
          rw [z]
          exact w
        · cases e
      | succ j => cases e
end
/-- keys -/
def keysP : List PR → Option (List Key)
  | [] => some []
  | .p (.int i) :: l => (keysP l).map (Sum.inl i :: ·)
  | .p (.str s) :: l => (keysP l).map (Sum.inr s :: ·)
  | _ => none
theorem keysP_vs {g : Gx} {φ : Ph} {st : PSt} {H : Hp} : ∀ {l : List PR} {xs : List V} {k : List Key}, RPs g φ st H l xs → keysP l = some k → xs = k.map kV
  | [], xs, k, h, e => by
    have h : xs = [] := h
    cases e
    exact h
  | r :: l, xs, k, h, e => by
    obtain ⟨x, t, rfl, h1, h2⟩ := h
    have no : ∀ k, ¬ ((none : Option (List Key)) = some k) := fun _ z => by cases z
    cases r with
    | r _ _ => cases e
    | p v =>
      cases v with
      | int i =>
        obtain ⟨k2, e2, rfl⟩ := Option.map_eq_some_iff.mp (show (keysP l).map (Sum.inl i :: ·) = some k from e)
        cases rp_int.mp h1
        rw [keysP_vs h2 e2]; rfl
      | str s =>
        obtain ⟨k2, e2, rfl⟩ := Option.map_eq_some_iff.mp (show (keysP l).map (Sum.inr s :: ·) = some k from e)
        cases rp_str.mp h1
        rw [keysP_vs h2 e2]; rfl
      | _ => cases e
def lkP : List (List Key) → List PV → List Key → Option PV
  | k :: ks, v :: vs, j => if k = j then some v else lkP ks vs j
  | _, _, _ => none
section
variable {g : Gx} {L : List Addr} {H : Hp}
theorem lk_rel : ∀ {ks : List (List Key)} {vs : List PV} {xs : List V} (k : List Key), RVs g L H vs xs → ks.length = vs.length → match lkP ks vs k with
    | some v => ∃ x, valV (ks.zip xs) k = some x ∧ RV g L H v x
    | none => valV (ks.zip xs) k = none
  | [], vs, xs, k, h, e => by
    cases vs with
    | nil => rfl
    | cons _ _ => cases e
  | j :: ks, vs, xs, k, h, e => by
    cases vs with
    | nil => cases e
    | cons v vs =>
      simp only [RVs] at h
      obtain ⟨x, r, rfl, h1, h2⟩ := h
      have ih := lk_rel (ks := ks) (vs := vs) (xs := r) k h2 (by simpa using e)
      by_cases hj : j = k
      · simp only [lkP, if_pos hj]
        exact ⟨x, valV_pos (p := (j, x)) hj, h1⟩
      · simp only [lkP, if_neg hj]
        have z : valV ((j :: ks).zip (x :: r)) k = valV (ks.zip r) k := valV_neg (p := (j, x)) hj
        rw [z]
        exact ih
end
/-- (..) in d, d[..] -/
def inTM (b : Bool) (ka : Ev → PM (List PR)) (md : EM) : EM := fun ρ => ka ρ >>= fun l => PM.guard (l.length ≤ lim) (md ρ >>= fun r => fun st => match keysP l, pdAt st r with
  | some k, some (.t ks vs) => retB ((lkP ks vs k).isSome == b) st
  | _, _ => .stuck)
def ixTM (md : EM) (ka : Ev → PM (List PR)) : EM := fun ρ => md ρ >>= fun r => ka ρ >>= fun l => PM.guard (l.length ≤ lim) fun st => match keysP l, pdAt st r with
  | some k, some (.t ks vs) => match lkP ks vs k with
    | some v => .ok (.p v) st
    | none => .stuck
  | _, _ => .stuck
/-- d[..] = v, a new key -/
def setTM (md : EM) (ka : Ev → PM (List PR)) (mv : EM) : SM := fun ρ st => (mv ρ st).toS fun y s => (md ρ s).toS fun r s2 => (ka ρ s2).toS fun l s3 => match y, keysP l, pdAt s3 r with
  | .p v, some k, some (.t ks vs) => if l.length ≤ lim ∧ ks.length < lim ∧ (lkP ks vs k).isNone = true then .nx ρ (pdPut s3 (.t (ks ++ [k]) (vs ++ [v])) r) else .stuck
  | _, _, _ => .stuck
/-- {} -/
def eDctM : EM := fun _ st => .ok (.r st.length 0) (st ++ [.dct (.t [] [])])
/-- o.nm = {} -/
def sFldD (cs : List Nat) (nm : Str) (mo : EM) : SM := fun ρ st => (mo ρ st).toS fun x s => match x with
  | .r i 0 => match s[i]? with
    | some (.ins c ns vs none) => if (c ∈ cs ∧ ns.length < 900) ∧ nm ∉ ns then .nx ρ (s.set i (.ins c ns vs (some (nm, .t [] [])))) else .stuck
    | _ => .stuck
  | _ => .stuck
theorem ofC {X : Cx} {op : CmpOp} {a b : Expr} {t t' : TE} (h : PC X op a b t) (k : ∀ σ H Q, t' σ H Q → t σ H Q) : PC X op a b t' :=
  ⟨fun pins s σ H Q I q => h.run pins s σ H Q I (k σ H Q q)⟩
theorem jt_pc {X : Cx} {g : Gx} {W : XK} {op : CmpOp} {a b : Expr} {m : EM} {pos : Pos} (h : PC X op a b (rd g W m)) (hm : behindInMarks op b = false) : JT X g W (.Compare a [op] [b] pos) (tVal m) :=
  ofT (pt_cmp h hm) fun σ H Q ⟨φ, ρ, st, rh, re, ok⟩ => ⟨φ, ρ, st, rh, re, (show Ok g φ st H (fun _ _ _ b c => b = c) Q W ((m ρ >>= asB) st) from ok).bind fun r st1 x φ1 H1 g1 h1 r1 ok1 => by
    cases r with
    | r _ _ => exact ok1.elim
    | p v =>
      cases v with
      | bl b => exact ⟨b, rp_bl.mp r1, (show Ok g φ1 st1 H1 (fun _ _ _ b c => b = c) Q W (.ok b st1) from ok1).ret h1 rfl⟩
      | _ => exact ok1.elim⟩
section
variable {X : Cx} {g : Gx} {W : XK} {o value : Expr} {es : List Expr} {mo mv : EM} {ka : Ev → PM (List PR)} {pos pos' tp : Pos} {kk : Nat}
/-- what a key's tuple is, once it stands -/
theorem key_at {φ : Ph} {st : PSt} {H : Hp} {p : Addr} {xs : List V} (h : RH g φ H st) (hp : H p = none) {φ2 : Ph} {st2 : PSt} {H2 : Hp} (g2 : Go φ st (upd H p (.tup xs)) φ2 st2 H2) : H2 p = some (.tup xs) :=
  g2.kp.st p _ upd_same (h.new hp) fun ⟨_, z⟩ => by cases z
theorem in_dt {φ : Ph} {st : PSt} {H : Hp} {r : PR} {x : V} {ks : List (List Key)} {vs : List PV} {k : List Key} {p : Addr} (rh : RH g φ H st) (rp : RP g φ st H r x) (e : pdAt st r = some (.t ks vs)) (hk : H p = some (.tup (k.map kV))) :
    ∃ b ov, x = .ref b ∧ DGet H b (.ref p) ov ∧ (match lkP ks vs k with | some v => ∃ y, ov = some y ∧ RV g (live φ st) H v y | none => ov = none) := by
  obtain ⟨b, rfl, ⟨xs, h1, h2, h3⟩, _⟩ := pd_at rh rp e
  refine ⟨b, _, rfl, DGet.t h1 hk, ?_⟩
  have z := lk_rel k h3 h2
  cases hl : lkP ks vs k with
  | none => rw [hl] at z; exact z
  | some v => rw [hl] at z; exact z
theorem pc_inT (hu : X.A.units + 65 < cLine) (ha : JA X g W es ka) (ho : JE X g W o mo) : PC X .In (.Tuple es kk tp) o (rd g W (inTM true ka mo)) :=
  ofC (pc_din (by omega) (pe_tup ha) ho) fun σ H Q ⟨φ, ρ, st, rh, re, ok⟩ => ⟨φ, ρ, st, rh, re, ok.bind fun l st1 xs φ1 H1 g1 h1 r1 ok1 => by
    obtain ⟨c, ok2⟩ := ok_guard ok1
    refine ⟨by rw [sizeLine_eq, r1.length]; exact c, fun p hp => ?_⟩
    obtain ⟨f1, f2⟩ := h1.fresh (o := .tup xs) hp
    refine ⟨φ1, ρ, st1, f1, (re.go g1).go f2, (ok2.go f2).bind fun r st2 x φ2 H2 g2 h2 r2 ok3 => ?_⟩
    have hx := key_at h1 hp g2
    cases ek : keysP l with
    | none => simp only [ek] at ok3; exact ok3.elim
    | some k =>
      cases ed : pdAt st2 r with
      | none => simp only [ek, ed] at ok3; exact ok3.elim
      | some d =>
        cases d with
        | k _ _ => simp only [ek, ed] at ok3; exact ok3.elim
        | t ks vs =>
          simp only [ek, ed] at ok3
          rw [keysP_vs r1 ek] at hx
          obtain ⟨b, ov, rfl, dg, hv⟩ := in_dt h2 r2 ed hx
          refine ⟨b, ov, rfl, dg, ?_⟩
          cases hl : lkP ks vs k with
          | none =>
            rw [hl] at hv ok3
            subst hv
            exact (show Ok g φ2 st2 H2 (RP g) Q W (retB false st2) from ok3).bl h2
          | some v =>
            rw [hl] at hv ok3
            obtain ⟨y, rfl, _⟩ := hv
            exact (show Ok g φ2 st2 H2 (RP g) Q W (retB true st2) from ok3).bl h2⟩
theorem pc_notinT (hu : X.A.units + 65 < cLine) (ha : JA X g W es ka) (ho : JE X g W o mo) : PC X .NotIn (.Tuple es kk tp) o (rd g W (inTM false ka mo)) :=
  ofC (pc_dnotin (by omega) (pe_tup ha) ho) fun σ H Q ⟨φ, ρ, st, rh, re, ok⟩ => ⟨φ, ρ, st, rh, re, ok.bind fun l st1 xs φ1 H1 g1 h1 r1 ok1 => by
    obtain ⟨c, ok2⟩ := ok_guard ok1
    refine ⟨by rw [sizeLine_eq, r1.length]; exact c, fun p hp => ?_⟩
    obtain ⟨f1, f2⟩ := h1.fresh (o := .tup xs) hp
    refine ⟨φ1, ρ, st1, f1, (re.go g1).go f2, (ok2.go f2).bind fun r st2 x φ2 H2 g2 h2 r2 ok3 => ?_⟩
    have hx := key_at h1 hp g2
    cases ek : keysP l with
    | none => simp only [ek] at ok3; exact ok3.elim
    | some k =>
      cases ed : pdAt st2 r with
      | none => simp only [ek, ed] at ok3; exact ok3.elim
      | some d =>
        cases d with
        | k _ _ => simp only [ek, ed] at ok3; exact ok3.elim
        | t ks vs =>
          simp only [ek, ed] at ok3
          rw [keysP_vs r1 ek] at hx
          obtain ⟨b, ov, rfl, dg, hv⟩ := in_dt h2 r2 ed hx
          refine ⟨b, ov, rfl, dg, ?_⟩
          cases hl : lkP ks vs k with
          | none =>
            rw [hl] at hv ok3
            subst hv
            exact (show Ok g φ2 st2 H2 (RP g) Q W (retB true st2) from ok3).bl h2
          | some v =>
            rw [hl] at hv ok3
            obtain ⟨y, rfl, _⟩ := hv
            exact (show Ok g φ2 st2 H2 (RP g) Q W (retB false st2) from ok3).bl h2⟩
theorem je_ixT (hu : X.A.units + 65 < cLine) (ho : JE X g W o mo) (ha : JA X g W es ka) (hs : NoSl (.Tuple es kk tp) := by intro _ _; rfl) : JE X g W (.Subscript o (.Tuple es kk tp) pos) (ixTM mo ka) :=
  ofE (pe_dget (by omega) ho (pe_tup ha) hs) fun _ _ σ H Q _ ⟨φ, ρ, st, rh, re, ok⟩ => ⟨φ, ρ, st, rh, re, ok.bind fun r st1 x φ1 H1 g1 h1 r1 ok1 => ⟨φ1, ρ, st1, h1, re.go g1, ok1.bind fun l st2 xs φ2 H2 g2 h2 r2 ok2 => by
    obtain ⟨c, ok3⟩ := ok_guard ok2
    refine ⟨by rw [sizeLine_eq, r2.length]; exact c, fun p hp => ?_⟩
    obtain ⟨f1, f2⟩ := h2.fresh (o := .tup xs) hp
    have ok3 := ok3.go f2
    have hx : upd H2 p (.tup xs) p = some (.tup xs) := upd_same
    cases ek : keysP l with
    | none => simp only [ek] at ok3; exact ok3.elim
    | some k =>
      cases ed : pdAt st2 r with
      | none => simp only [ek, ed] at ok3; exact ok3.elim
      | some d =>
        cases d with
        | k _ _ => simp only [ek, ed] at ok3; exact ok3.elim
        | t ks vs =>
          simp only [ek, ed] at ok3
          have hx : upd H2 p (.tup xs) p = some (.tup (k.map kV)) := by rw [hx, keysP_vs r2 ek]
          obtain ⟨b, ov, rfl, dg, hv⟩ := in_dt f1 ((r1.go g2).go f2) ed hx
          cases hl : lkP ks vs k with
          | none => rw [hl] at ok3; exact ok3.elim
          | some v =>
            rw [hl] at hv ok3
            obtain ⟨y, rfl, rv⟩ := hv
            exact ⟨b, y, rfl, dg, (show Ok g φ2 st2 (upd H2 p (.tup xs)) (RP g) Q W (.ok (.p v) st2) from ok3).ret f1 rv⟩⟩⟩
theorem zip_app {α β : Type} : ∀ {a : List α} {b : List β} {x : α} {y : β}, a.length = b.length → (a ++ [x]).zip (b ++ [y]) = a.zip b ++ [(x, y)]
  | [], b, x, y, h => by
    cases b with
    | nil => rfl
    | cons _ _ => cases h
  | a :: as, b, x, y, h => by
    cases b with
    | nil => cases h
    | cons b bs => exact congrArg ((a, b) :: ·) (zip_app (by simpa using h))
theorem js_setT (hu : X.A.units + 65 < cLine) (ho : JE X g W o mo) (ha : JA X g W es ka) (hv : JE X g W value mv) (hs : swapsWith value (some (.Subscript o (.Tuple es kk tp) pos')) pos.line X.env = pure false := by rfl) :
    JS X g W (.Assign [.Subscript o (.Tuple es kk tp) pos'] value pos) (setTM mo ka mv) :=
  ofS (ps_dput (by omega) ho (pe_tup ha) hv hs) fun D σ H ⟨φ, ρ, st, rh, re, ok⟩ => ⟨φ, ρ, st, rh, re, OkS.bind ok fun y st1 yv φ1 H1 g1 h1 r1 ok1 => ⟨φ1, ρ, st1, h1, re.go g1, OkS.bind ok1 fun r st2 x φ2 H2 g2 h2 r2 ok2 => ⟨φ2, ρ, st2, h2, (re.go g1).go g2, OkS.bind ok2 fun l st3 xs φ3 H3 g3 h3 r3 ok3 => by
    have r1' := (r1.go g2).go g3
    have r2' := r2.go g3
    have bad : ∀ {o : OutS}, o = .stuck → OkS g φ3 st3 H3 D W o → False := fun e h => by subst e; exact h
    cases y with
    | r i j => exact (bad rfl ok3).elim
    | p v =>
      cases ek : keysP l with
      | none => simp only [ek] at ok3; exact ok3.elim
      | some k =>
        cases ed : pdAt st3 r with
        | none => simp only [ek, ed] at ok3; exact ok3.elim
        | some d =>
          cases d with
          | k _ _ => simp only [ek, ed] at ok3; exact ok3.elim
          | t ks vs =>
            simp only [ek, ed] at ok3
            by_cases hc : l.length ≤ lim ∧ ks.length < lim ∧ (lkP ks vs k).isNone = true
            · rw [if_pos hc] at ok3
              refine ⟨by rw [sizeLine_eq, r3.length]; exact hc.1, fun p hp => ?_⟩
              obtain ⟨f1, f2⟩ := h3.fresh (o := .tup xs) hp
              obtain ⟨b, hb, ⟨ys, d1, d2, d3⟩, mem⟩ := pd_at f1 (r2'.go f2) ed
              have zl : (ks.zip ys).length = ks.length := by rw [List.length_zip, d3.length, d2]; exact Nat.min_self _
              have zn : valV (ks.zip ys) k = none := by
                have z := lk_rel k d3 d2
                rw [Option.isNone_iff_eq_none.mp hc.2.2] at z
                exact z
              have hx : upd H3 p (.tup xs) p = some (.tup (k.map kV)) := by rw [keysP_vs r3 ek]; exact upd_same
              have kw := kp_write (H := upd H3 p (.tup xs)) (o := .dT (putK (ks.zip ys) k yv)) mem
              have rv : RV g (live φ3 st3) (upd H3 p (.tup xs)) v yv := r1'.go f2
              obtain ⟨w1, w2⟩ := pd_put f1 (r2'.go f2) ed hb (o := .dT (putK (ks.zip ys) k yv)) (d' := .t (ks ++ [k]) (vs ++ [v]))
                ⟨ys ++ [yv], by rw [upd_same, putK_new yv zn, zip_app (by rw [d2, d3.length])], by rw [List.length_append, List.length_append, d2]; rfl, (d3.kp kw).append (RVs.cons (rv.kp kw) RVs.nil)⟩
              exact ⟨b, _, hb, DPut.t d1 hx (by rw [zl, sizeLine_eq]; exact hc.2.1), (ok3.go f2) σ _ _ w2 w1 (((((re.go g1).go g2).go g3).go f2).go w2)⟩
            · rw [if_neg hc] at ok3; exact ok3.elim⟩⟩⟩
theorem je_dctM : JE X g W (.Dict [] [] pos) eDctM :=
  ofE pe_dnewT fun _ _ σ H Q _ ⟨φ, ρ, st, rh, re, ok⟩ => fun q hq => by
    have ok : Ok g φ st H (RP g) Q W (.ok (.r st.length 0) (st ++ [.dct (.t [] [])])) := ok
    obtain ⟨h1, h2⟩ := rh.alloc (o := .dT []) (u := .dct (.t [] [])) hq rfl ⟨rfl, [], upd_same, rfl, RVs.nil⟩
    exact ok _ _ _ h2 h1 ⟨(q, []), by show (φ.ls ++ [(q, [])])[st.length]? = _; rw [← rh.len, List.getElem?_append_right (Nat.le_refl _)]; simp, rfl⟩
end
end Vs
/-! Layer, part 12b: a dict becomes a part of an object. -/
namespace Vs
open PySem PyProof.Rows L2
theorem liv_part : ∀ {φ : List (Addr × List Addr)} {st : PSt} {i : Nat} {x p : Addr} {u u' : PObj}, φ[i]? = some (x, []) → st[i]? = some u → u.isDead = false → u'.isDead = false → (liv (φ.set i (x, [p])) (st.set i u')).Perm (p :: liv φ st)
  | [], _, _, _, _, _, _, h, _, _, _ => by cases h
  | _ :: _, [], _, _, _, _, _, _, h, _, _ => by cases h
  | q :: φ, o :: st, 0, x, p, u, u', h1, h2, h3, h4 => by
    cases h1
    cases h2
    show ((if u'.isDead = true then [] else [x, p]) ++ liv φ st).Perm (p :: ((if o.isDead = true then [] else [x]) ++ liv φ st))
    rw [h3, h4]
    exact List.Perm.swap p x _
  | q :: φ, o :: st, i + 1, x, p, u, u', h1, h2, h3, h4 => by
    have ih := liv_part (φ := φ) (st := st) (i := i) (p := p) (by simpa using h1) (by simpa using h2) h3 h4
    show ((if o.isDead = true then [] else q.1 :: q.2) ++ liv (φ.set i (x, [p])) (st.set i u')).Perm (p :: ((if o.isDead = true then [] else q.1 :: q.2) ++ liv φ st))
    exact (List.Perm.append_left _ ih).trans List.perm_middle
theorem putF_new {nm : Str} {v : V} : ∀ {ns : List Str} {xs : List V}, ns.length = xs.length → nm ∉ ns → putF nm v (ns.zip xs) = ns.zip xs ++ [(nm, v)]
  | [], xs, h, _ => by cases xs with
    | nil => rfl
    | cons _ _ => cases h
  | n :: ns, xs, h, hn => by
    cases xs with
    | nil => cases h
    | cons x xs =>
      have e : n ≠ nm := fun z => hn (by rw [z]; exact List.mem_cons_self)
      show (if n = nm then (n, v) :: ns.zip xs else (n, x) :: putF nm v (ns.zip xs)) = (n, x) :: (ns.zip xs ++ [(nm, v)])
      rw [if_neg e, putF_new (by simpa using h) fun z => hn (List.mem_cons_of_mem _ z)]
section
variable {g : Gx} {φ : Ph} {st : PSt} {H : Hp}
/-- the step: {} at p, then the field -/
theorem part_new (rh : RH g φ H st) {p : Addr} (hp : H p = none) {i c : Nat} {ns : List Str} {vs : List PV} {q : Addr × List Addr} {nm : Str} (e1 : φ.ls[i]? = some q) (e2 : st[i]? = some (.ins c ns vs none)) (hn : nm ∉ ns) :
    ∃ dx xs, upd H p (.dT []) q.1 = some (.ins (g.cA c) dx (ns.zip xs)) ∧ ns.length = xs.length ∧ ∃ φ', RH g φ' (upd (upd H p (.dT [])) q.1 (.ins (g.cA c) dx (putF nm (.ref p) (ns.zip xs)))) (st.set i (.ins c ns vs (some (nm, .t [] [])))) ∧
      Go φ st H φ' (st.set i (.ins c ns vs (some (nm, .t [] [])))) (upd (upd H p (.dT [])) q.1 (.ins (g.cA c) dx (putF nm (.ref p) (ns.zip xs)))) := by
  obtain ⟨h0, dx, xs, h1, h2, h3⟩ := rh.ob i q _ e1 e2
  obtain ⟨x, ps⟩ := q
  have h0 : ps = [] := h0
  subst h0
  have h1 : H x = some (.ins (g.cA c) dx (ns.zip xs)) := h1
  have hxp : x ≠ p := fun z => by rw [z, hp] at h1; cases h1
  have hl : ns.length = xs.length := by rw [h2, h3.length]
  have mem : x ∈ live φ st := live_mem.mpr (.inr ⟨i, (x, []), _, e1, e2, rfl, List.mem_cons_self⟩)
  refine ⟨dx, xs, by rw [upd_ne hxp]; exact h1, hl, ⟨φ.ex, φ.ls.set i (x, [p])⟩, ?_⟩
  have pm := liv_part (p := p) (u' := .ins c ns vs (some (nm, .t [] []))) e1 e2 rfl rfl
  have pl : (live ⟨φ.ex, φ.ls.set i (x, [p])⟩ (st.set i (.ins c ns vs (some (nm, .t [] []))))).Perm (p :: live φ st) := (List.Perm.append_left _ pm).trans List.perm_middle
  have np := rh.new hp
  have same : ∀ a, a ≠ x → a ≠ p → upd (upd H p (.dT [])) x (.ins (g.cA c) dx (putF nm (.ref p) (ns.zip xs))) a = H a := fun a z1 z2 => by rw [upd_ne z1, upd_ne z2]
  have kp : Kp (live φ st) H (live ⟨φ.ex, φ.ls.set i (x, [p])⟩ (st.set i (.ins c ns vs (some (nm, .t [] []))))) (upd (upd H p (.dT [])) x (.ins (g.cA c) dx (putF nm (.ref p) (ns.zip xs)))) := .of (fun a o e n => by
      rw [same a (fun z => n (by rw [z]; exact mem)) (fun z => by rw [z, hp] at e; cases e)]; exact e) fun a h => by
    rcases List.mem_cons.mp (pl.mem_iff.mp h) with h | h
    · exact .inr (by rw [h]; exact hp)
    · exact .inl h
  have exk : ∀ a ∈ φ.ex, upd (upd H p (.dT [])) x (.ins (g.cA c) dx (putF nm (.ref p) (ns.zip xs))) a = H a := fun a ha => same a (fun z => rh.exn e1 e2 rfl (a := x) List.mem_cons_self (by rw [← z]; exact ha)) fun z => by
    obtain ⟨u, e, _⟩ := rh.exs a ha
    rw [z, hp] at e; cases e
  have hil : i < φ.ls.length := (List.getElem?_eq_some_iff.mp e1).1
  have his : i < st.length := (List.getElem?_eq_some_iff.mp e2).1
  refine ⟨⟨by simp [rh.len], pl.nodup_iff.mpr (List.nodup_cons.mpr ⟨np, rh.nd⟩), fun a ha => by rw [exk a ha]; exact rh.exs a ha, fun j r v k1 k2 => ?_, ?_⟩, rfl, exk, fun j r e => ?_, kp⟩
  · have k3 : (φ.ls.set i (x, [p]))[j]? = some r := k1
    clear k1
    by_cases hj : i = j
    · subst hj
      rw [List.getElem?_set_self hil] at k3
      rw [List.getElem?_set_self his] at k2
      cases k3
      cases k2
      exact ⟨p, dx, xs, rfl, by rw [upd_same, putF_new hl hn], h2, h3.kp kp, hn, [], by rw [upd_ne (Ne.symm hxp), upd_same]; rfl, rfl, RVs.nil⟩
    · rw [List.getElem?_set_ne hj] at k3 k2
      by_cases hd : v.isDead = true
      · cases v <;> first | exact True.intro | cases hd
      · have hd : v.isDead = false := by simpa using hd
        refine (rh.ob j r v k3 k2).kp kp fun a ha => same a (fun z => ?_) fun z => ?_
        · subst z
          exact hj (liv_apart rh.ndl (a := a) e1 e2 rfl k3 k2 hd List.mem_cons_self ha)
        · obtain ⟨u, e, _⟩ := (rh.ob j r v k3 k2).there hd a ha
          rw [z, hp] at e; cases e
  · have t0 : LamX.Tabs g.T (upd H p (.dT [])) := (rh.fresh (o := .dT []) hp).1.tab
    have hx : upd H p (.dT []) x = some (.ins (g.cA c) dx (ns.zip xs)) := by rw [upd_ne hxp]; exact h1
    have nt : OwnHO (.ins (g.cA c) dx (ns.zip xs)) := True.intro
    intro r hr
    obtain ⟨qs, t1, t2, t3⟩ := t0 r hr
    have ne1 : r.1 ≠ x := fun z => by rw [z, hx] at t1; cases t1
    refine ⟨qs, by rw [upd_ne ne1]; exact t1, t2, fun pos cv hc => ?_⟩
    obtain ⟨d, e3, e4⟩ := t3 pos cv hc
    refine ⟨d, e3, ?_⟩
    have ne2 : d ≠ x := fun z => by
      rw [z, hx] at e4
      exact nt.code _ _ (Option.some.inj e4)
    rw [upd_ne ne2]; exact e4
  · by_cases hj : i = j
    · subst hj
      rw [e1] at e
      cases e
      exact ⟨(x, [p]), List.getElem?_set_self hil, rfl, List.nil_prefix⟩
    · exact ⟨r, by show (φ.ls.set i (x, [p]))[j]? = _; rw [List.getElem?_set_ne hj]; exact e, rfl, List.prefix_refl _⟩
end
/-- x.nm = {}, x a name -/
def sFldN (cs : List Nat) (nm : Str) (j : Nat) : SM := fun ρ st => match ρ[j]? with
  | some (some (.r i 0)) => match st[i]? with
    | some (.ins c ns vs none) => if (c ∈ cs ∧ ns.length < 900) ∧ nm ∉ ns then .nx ρ (st.set i (.ins c ns vs (some (nm, .t [] [])))) else .stuck
    | _ => .stuck
  | _ => .stuck
section
variable {X : Cx} {g : Gx} {W : XK} {o : Expr} {pos pos' dp : Pos}
theorem js_fldN {cs : List Nat} {nm : Str} {j : Nat} (hK : X.K = g.K) (hc : ClsNo g cs nm) (ho : PE X o (tVar j)) (hs : swapsWith (.Dict [] [] dp) (some (.Attribute o nm pos')) pos.line X.env = pure false := by rfl) :
    JS X g W (.Assign [.Attribute o nm pos'] (.Dict [] [] dp) pos) (sFldN cs nm j) :=
  ofS (ps_fld ho pe_dnewT hs) fun D σ H ⟨φ, ρ, st, rh, re, ok⟩ => fun p hp => by
    have ok : OkS g φ st H D W (sFldN cs nm j ρ st) := ok
    unfold sFldN at ok
    split at ok
    · rename_i i e
      split at ok
      · rename_i c ns vs e2
        by_cases hcond : (c ∈ cs ∧ ns.length < 900) ∧ nm ∉ ns
        · rw [if_pos hcond] at ok
          obtain ⟨x, hx, q, e1, rfl⟩ := re.at_ j _ e
          obtain ⟨dx, xs, k1, k2, φ', w1, w2⟩ := part_new rh hp e1 e2 hcond.2
          refine ⟨_, hx, q.1, _, dx, _, rfl, k1, by rw [hK]; exact (hc c hcond.1.1).1, by rw [hK]; exact (hc c hcond.1.1).2, ?_, ok σ φ' _ w2 w1 (re.go w2)⟩
          rw [List.length_zip]
          have := hcond.1.2
          omega
        · rw [if_neg hcond] at ok; exact ok.elim
      · exact ok.elim
    · exact ok.elim
end
end Vs
/-! Layer, part 12c: a tuple once, a global tuple. -/
namespace Vs
open PySem PySem.Spec PyProof.Rows L2
theorem mul_once (l : Addr) (items : Array Value) (n : Nat) (dd : Option Addr) (sl : Array (Option Value)) (u : Tok) :
    Meets (Builtin.«tuple.__mul__» ⟨[.ref l, .int 1 u], []⟩) (fun _ R s => s.heap.get? l = some { cls := .type "tuple", dict := dd, data := .seq items n, slots := sl } ∧ R (.ok (.ret (Value.ref l))) s) :=
  .of_wp fun prog w A R s h => by
    obtain ⟨hp, g, d, tk, os⟩ := s
    obtain ⟨hl, h⟩ := h
    have f1 := AutoSeq1.idx_int
    wp_walk using wpAny_loadPart' hl
    repeat (first
      | (refine wpAny_ite_false (by decide) ?_; wp_walk using wpAny_loadPart' hl)
      | (refine wpAny_ite_true (by rw [beq_self_eq_true, Bool.or_true]) ?_; wp_walk using wpAny_loadPart' hl)
      | (refine wpAny_ite_true (by decide) ?_; wp_walk using wpAny_loadPart' hl))
    exact ⟨_, rfl, h⟩
def rOnce (K : PySem.W.Frag) : R2 := fun x y H Q => ∃ l xs, x = .ref l ∧ y = .int 1 ∧ SqT K H l xs ∧ Q (.ref l) H
section
variable {X : Cx} {g : Gx} {W : XK} {p : Pos}
theorem op_once : OpR X (binaryOp .Mult) (rOnce X.K) := by
  intro pins s σ H x y v u Q I rx ry h
  obtain ⟨l, xs, rfl, rfl, hT, q⟩ := h
  cases rx
  obtain ⟨t, rfl⟩ := ry
  obtain ⟨its, r, ⟨⟨cls, dd, data, sl⟩, ho, hc, n, hd⟩, hs⟩ := I.tuple hT
  simp only at hc hd
  subst hc hd
  refine wpAny_binaryOp_repeat_ref (T := "tuple") (U := "int") (by decide) ⟨_, ho, rfl⟩ (fun s' => typeIs_int s' 1 t) noFill_tuple_mul F.fills_int_mul F.slot_int_rmul repeat_tuple F.slot_int_index.lookup
    (call_meets F.slot_int_rmul (typeIs_int s 1 t) F.entry_int_rmul (F.args_int_rmul_2 _ _) (int_rmul_tuple 1 t l its.toArray n dd sl)
      ⟨ho, rfl, ⟨_, ho, rfl⟩, call_meets F.slot_tuple_mul ⟨_, ho, rfl⟩ F.entry_tuple_mul (F.args_tuple_mul_2 _ _) (mul_once l its.toArray n dd sl t) ⟨ho, ?_⟩⟩)
  exact ⟨.ref l, H, I, rfl, q⟩
def rRepU (K : PySem.W.Frag) : R2 := fun x y H Q => rRepT K x y H Q ∨ rOnce K x y H Q
theorem op_repU : OpR X (binaryOp .Mult) (rRepU X.K) := fun pins s σ H x y v u Q I rx ry h => h.elim (op_repT pins s σ H x y v u Q I rx ry) (op_once pins s σ H x y v u Q I rx ry)
/-- a tuple once or many times -/
def repU : PR → PR → PM PR
  | .p (.tup l), .p (.int k) => PM.guard (l ≠ [] ∧ 1 ≤ k ∧ k ≤ 1000 ∧ l.length ≤ 1000) (pure (.p (.tup (List.replicate k.toNat l).flatten)))
  | _, _ => PM.stuck
theorem oj_repU (hK : X.K = g.K) : OpJ X g W (binaryOp .Mult) repU := OpJ.of op_repU fun _ _ _ φ st H a b x y Q _ rh ra rb ok => by
  cases a with
  | r _ _ => exact ok.elim
  | p u => cases u with
    | tup l => cases b with
      | r _ _ => exact ok.elim
      | p v => cases v with
        | int k =>
          obtain ⟨⟨c1, c2, c3, c4⟩, ok⟩ := ok_guard ok
          have ra0 := ra
          obtain ⟨q, xs, rfl, t, rv⟩ := rp_tup.mp ra
          cases rp_int.mp rb
          by_cases hk : k = 1
          · subst hk
            have e : (List.replicate (1 : Int).toNat l).flatten = l := by
              show (List.replicate 1 l).flatten = l
              simp
            rw [e] at ok
            exact .inr ⟨q, xs, rfl, rfl, by rw [hK]; exact t.sq, (show Ok g φ st H (RP g) Q W (.ok (.p (.tup l)) st) from ok).ret rh ra0⟩
          · refine .inl ⟨q, k, xs, rfl, rfl, by rw [hK]; exact t.sq, fun z => c1 ?_, by omega, c3, by rw [rv.length]; exact c4, fun p hp => Ok.tup ok rh (rvs_rep rv _) hp⟩
            have := rv.length
            rw [z] at this
            exact List.eq_nil_of_length_eq_zero this.symm
        | _ => exact ok.elim
    | _ => exact ok.elim
/-- a global name that holds a known tuple -/
theorem jg_ktup {x : Str} {a : Addr} {l : List PV} {vs : List V} (h : X.mg x = some (.ref a)) (k : KT g.K a vs) (r : ∀ L H, RVs g L H l vs) (hg : Gl X x := by rfl) (hdb : (x == ("__debug__" : Str)) = false := by decide) : JE X g W (.Name x p) (eC (.tup l)) :=
  je_c (x := V.ref a) (pe_glob (v := V.ref a) hg h rfl hdb) fun L H => by simp only [RV]; exact ⟨a, vs, rfl, .inr k, r _ _⟩
end
end Vs
/-! Layer, part 12d: a walk over a list under change. -/
namespace Vs
open PySem PyProof.Rows L2
def wkS (i n : Nat) : Wk := ⟨n, fun k s => match s[i]? with
  | some (.lst l) => (match l[k]? with
    | some v => .item v
    | none => .stop)
  | _ => .stuck⟩
section
variable {X : Cx} {g : Gx} {W : XK} {a : Expr} {ma : EM}
theorem wk_state {φ : Ph} {st : PSt} {H : Hp} {i n : Nat} {p : Addr × List Addr} (e1 : φ.ls[i]? = some p) : WkR g φ st H (wkS i n) (Itl g.K p.1) := by
  intro k φ' st' H' kp pre rh
  obtain ⟨q, e2, e3⟩ := pre_get pre e1
  cases es : st'[i]? with
  | none =>
    have z : (wkS i n).at_ k st' = .stuck := by simp only [wkS, es]
    rw [z]; exact True.intro
  | some o =>
    cases o with
    | lst l =>
      obtain ⟨_, xs, h1, rv⟩ := rh.ob i q _ e2 es
      rw [e3] at h1
      have sq : SqL g.K H' p.1 xs := .inl (.inl h1)
      cases e : l[k]? with
      | none =>
        have z : (wkS i n).at_ k st' = .stop := by simp only [wkS, es, e]
        rw [z]
        exact ⟨xs, sq, by rw [rv.length]; exact List.getElem?_eq_none_iff.mp e⟩
      | some v =>
        have z : (wkS i n).at_ k st' = .item v := by simp only [wkS, es, e]
        rw [z]
        obtain ⟨y, k1, r1⟩ := rv.get e
        exact ⟨⟨xs, y, sq, k1⟩, fun x H'' ⟨eH, hx⟩ => by
          subst eH
          have k2 := hx xs sq
          rw [k1] at k2
          cases k2
          exact ⟨fun _ _ e => e, r1⟩⟩
    | _ =>
      have z : (wkS i n).at_ k st' = .stuck := by simp only [wkS, es]
      rw [z]; exact True.intro
def iLsSM (a : EM) : IM := fun ρ => a ρ >>= fun r => fun st => match r with
  | .r i 0 => (match st[i]? with
    | some (.lst l) => .ok (wkS i l.length) st
    | _ => .stuck)
  | _ => .stuck
theorem ji_listS {tg : Expr} (hK : X.K = g.K) (ha : JE X g W a ma) : JI X g W tg a (iLsSM ma) :=
  ofI (pi_list ha) fun σ H R ⟨φ, ρ, st, rh, re, ok⟩ => ⟨φ, ρ, st, rh, re, (show Ok g φ st H (fun φ st H w J => WkR g φ st H w J) R W ((ma ρ >>= fun r => fun st => match r with
  | .r i 0 => (match st[i]? with
    | some (.lst l) => (Out.ok (wkS i l.length) st : Out Wk)
    | _ => .stuck)
  | _ => .stuck) st) from ok).bind fun r st1 x φ1 H1 g1 h1 r1 ok1 => by
    cases r with
    | p v => exact ok1.elim
    | r i j =>
      cases j with
      | succ j => exact ok1.elim
      | zero =>
        obtain ⟨p, e1, rfl⟩ := r1
        cases es : st1[i]? with
        | none => simp only [es] at ok1; exact ok1.elim
        | some o =>
          cases o with
          | lst l =>
            simp only [es] at ok1
            obtain ⟨_, xs, h2, rv⟩ := h1.ob i p _ e1 es
            rw [hK]
            exact ⟨p.1, rfl, ⟨xs, .inl (.inl h2)⟩, (show Ok g φ1 st1 H1 (fun φ st H w J => WkR g φ st H w J) R W (.ok (wkS i l.length) st1) from ok1) _ _ _ Go.refl h1 (wk_state e1)⟩
          | _ => simp only [es] at ok1; exact ok1.elim⟩
end
end Vs
/-! Layer, part 12e: two names at once, where a block within uses them. -/
namespace Vs
open PySem PyProof.Rows L2
section
variable {X : Cx} {g : Gx} {W : XK} {a b : Expr} {pos : Pos} {margs : Ev → PM (List PR)}
theorem js_parC {i j : Nat} {x y : Str} {px py pt : Pos} {kt k2 pt2} (hc : X.calm = true) (hN : X.N.Nodup) (hi : X.N[i]? = some x) (hj : X.N[j]? = some y) (hx : Loc X.env.scope x) (hy : Loc X.env.scope y) (ha : JA X g W [a, b] margs)
    (hfx : X.fn x = true ∨ X.env.scope.names.lookup x = some .local := by first | exact .inl rfl | exact .inr rfl) (hfy : X.fn y = true ∨ X.env.scope.names.lookup y = some .local := by first | exact .inl rfl | exact .inr rfl)
    (hw : swappedStores [.Tuple [.Name x px, .Name y py] kt pt] (.Tuple [a, b] k2 pt2) X.env = pure none := by rfl)
    (hs : swapsWithSole [.Tuple [.Name x px, .Name y py] kt pt] (.Tuple [a, b] k2 pt2) pos.line X.env = pure false := by rfl)
    (h1 : (assignEach [Expr.Tuple [.Name x px, .Name y py] kt pt] X.env).map (·.2) = [assign (.Tuple [.Name x px, .Name y py] kt pt) X.env] := by rfl)
    (q1 : (assignEach [Expr.Name x px, .Name y py] X.env).map (·.2) = assign (.Name x px) X.env :: (assignEach [Expr.Name y py] X.env).map (·.2) := by rfl)
    (q2 : (assignEach [Expr.Name y py] X.env).map (·.2) = assign (.Name y py) X.env :: (assignEach [] X.env).map (·.2) := by rfl)
    (q3 : (assignEach [Expr.Name x px, .Name y py] X.env).length = 2 := by rfl) (q4 : (assignEach [Expr.Name x px, .Name y py] X.env).findIdx? (·.1) = none := by rfl) :
    JS X g W (.Assign [.Tuple [.Name x px, .Name y py] kt pt] (.Tuple [a, b] k2 pt2) pos) (sPar i j margs) :=
  ofS (ps_asg (pe_tup ha) (pg_tup hc (pgs_cons (pg_name hN hi hx hfx) (pgs_cons (pg_name hN hj hy hfy) pgs_nil q2) q1) q3 q4) hs hw h1) fun D σ H ⟨φ, ρ, st, rh, re, ok⟩ => ⟨φ, ρ, st, rh, re, OkS.bind ok fun l st1 vs φ1 H1 g1 h1 r1 ok1 => by
    cases l with
    | nil => exact ok1.elim
    | cons u l => cases l with
      | nil => exact ok1.elim
      | cons v l => cases l with
        | cons _ _ => exact ok1.elim
        | nil =>
          obtain ⟨x1, t, rfl, e1, x2, t2, rfl, e2, e3⟩ := r1
          have e3 : _ = _ := e3
          subst e3
          refine ⟨by rw [sizeLine_eq]; show 2 ≤ 16777216; omega, fun p hp => ?_⟩
          obtain ⟨f1, f2⟩ := h1.fresh (o := .tup [x1, x2]) hp
          exact ⟨p, [x1, x2], rfl, .inl (.inl upd_same), rfl, x1, [x2], rfl, x2, [], rfl, rfl, ok1 _ φ1 _ f2 f1 ((((re.go g1).go f2).set i (e1.go f2)).set j (e2.go f2))⟩⟩
end
end Vs
/-! Layer, part 16c: a hook that looks at the first so many objects, whatever names them. -/
namespace Vs
open PySem L2 He
def obsN (n : Nat) (fa : List Fa) (fn : List DefD) (ts : List Tab) (tf : List Defn) (ex : PySem.W.Frag → Bool) (g : Addr → Option Obj) : AlX :=
  (fun K : PySem.W.Frag => (obsT fa fn ts K, ex K && tabsB g tf K)) (frT g (List.range n))
theorem saysN {n : Nat} {fa : List Fa} {fn : List DefD} {ts : List Tab} {tf : List Defn} {ex : PySem.W.Frag → Bool} {w : World} {h : Heap} (e : obsN n fa fn ts tf ex h.get? = valX fn ts w) : SaysX fa fn ts tf ex w h (frT h.get? (List.range n)) := by
  generalize ek : frT h.get? (List.range n) = K
  have e' : ((obsT fa fn ts K, ex K && tabsB h.get? tf K) : AlX) = (valT fn ts w, true) := by rw [← ek]; exact e
  obtain ⟨e1, e2⟩ := Prod.mk.inj e'
  obtain ⟨h1, h2⟩ := Bool.and_eq_true_iff.mp e2
  have tb : ∀ p ∈ tf, PySem.W.codeHdIn K (cT K p).1 (cT K p).2 = true ∧ ∃ o, h.get? (cT K p).2 = some o ∧ emptyTab o = true := fun p hp => by
    obtain ⟨h3, h4⟩ := Bool.and_eq_true_iff.mp (List.all_eq_true.mp h2 p hp)
    cases q : h.get? (cT K p).2 with
    | none => rw [q] at h4; cases h4
    | some o => rw [q] at h4; exact ⟨h3, o, rfl, h4⟩
  refine ⟨e1, h1, fun p hp => (tb p hp).1, fun p hp => ?_, fun p hp => ?_⟩
  · obtain ⟨_, o, q, z⟩ := tb p hp
    rw [← ek] at q ⊢
    exact frT_none q z
  · obtain ⟨_, o, q, z⟩ := tb p hp
    rw [q, emptyTab_eq z]
def hookN (n : Nat) (fa : List Fa) (fn : List DefD) (ts : List Tab) (tf : List Defn) (ex : PySem.W.Frag → Bool) : PySem.W.Hook where
  α := AlX
  obs := fun s => obsN n fa fn ts tf ex s.heap.get?
  val := fun w => valX fn ts w
  says := fun w h => ∃ K : PySem.W.Frag, K.In h ∧ SaysX fa fn ts tf ex w h K
  of := fun _ _ e => ⟨_, frT_in, saysN e⟩
  keeps := fun _ _ _ ⟨K, i, c⟩ k => ⟨K, i.keeps k, c.t, c.more, c.hd, c.out, fun p hp => k _ _ (c.empty p hp)⟩
theorem obsN_eq {n : Nat} {fa : List Fa} {fn : List DefD} {ts : List Tab} {tf : List Defn} {ex : PySem.W.Frag → Bool} {g : Addr → Option Obj} {s : Shared} (h : ∀ a, g a = s.heap.get? a) : obsN n fa fn ts tf ex g = (hookN n fa fn ts tf ex).obs s :=
  congrArg (obsN n fa fn ts tf ex) (funext h)
/-- two looks at the end of one run, told one by one -/
theorem two_looks {α β γ : Type} {o : Option α} {f : α → β} {g : α → γ} {b : β} {c : γ} (h1 : o.map f = some b) (h2 : o.map g = some c) : o.map (fun s => (f s, g s)) = some (b, c) := by
  cases o with
  | none => cases h1
  | some s => cases h1; cases h2; rfl
end Vs
/-! Layer, part 16e: the looks at the end of the head's run, told one by one (less memory than all at once). -/
namespace Vs
open PySem PySem.W PyProof.Rows L2 He HandSHeadRun
def Lk1 (r : OpenRow) (q : Program) (M : Nat) (loose : List Str) (w : World) : Prop :=
  ∀ os : OsState, (endF (stepQ (denQ tabQ) r.prog w) M r.prog w os).map (fun s => (looksF r.prog (boot_heap w.params) s.abs, seenQ q loose (importedModules r.prog.main.body) (fun s => xlAt q [] s && recOk r.toRowW.records s) s.abs)) = some (true, openGood q loose)
def Lk2 (r : OpenRow) (M n : Nat) (fn : List DefD) (w : World) : Prop :=
  ∀ os : OsState, (endF (stepQ (denQ tabQ) r.prog w) M r.prog w os).map (fun s => (fun K : Frag => (fn.all fun d => d.ok K, fn.map fun d => fnW K d.at_)) (frT (getT s) (List.range n))) = some (true, fn.map DefD.val)
def Lk3 (r : OpenRow) (M n : Nat) (fa : List Fa) (ts : List Tab) (tf : List Defn) (ex : Frag → Bool) (w : World) : Prop :=
  ∀ os : OsState, (endF (stepQ (denQ tabQ) r.prog w) M r.prog w os).map (fun s => (fun K : Frag => ((fa.all fun f => f.ok K, ts.map fun t => dicW K (t.1 K)), ex K && tabsB (getT s) tf K)) (frT (getT s) (List.range n))) = some ((true, ts.map fun t => some (keysIn w.params t.2)), true)
theorem looks4 {o : Option SharedT} {β : Type} {L : SharedT → Bool} {S : SharedT → β} {n k : Nat} {fa : List Fa} {fn : List DefD} {ts : List Tab} {tf : List Defn} {ex : Frag → Bool} {w : World} {G : β}
    (h1 : o.map (fun s => (L s, S s)) = some (true, G))
    (h2 : o.map (fun s => (fun K : Frag => ((fn.take k).all fun d => d.ok K, (fn.take k).map fun d => fnW K d.at_)) (frT (getT s) (List.range n))) = some (true, (fn.take k).map DefD.val))
    (h3 : o.map (fun s => (fun K : Frag => ((fn.drop k).all fun d => d.ok K, (fn.drop k).map fun d => fnW K d.at_)) (frT (getT s) (List.range n))) = some (true, (fn.drop k).map DefD.val))
    (h4 : o.map (fun s => (fun K : Frag => ((fa.all fun f => f.ok K, ts.map fun t => dicW K (t.1 K)), ex K && tabsB (getT s) tf K)) (frT (getT s) (List.range n))) = some ((true, ts.map fun t => some (keysIn w.params t.2)), true)) :
    o.map (fun s => (L s, S s, obsN n fa fn ts tf ex (getT s))) = some (true, G, valX fn ts w) := by
  cases o with
  | none => cases h1
  | some s =>
    simp only [Option.map_some, Option.some.injEq, Prod.mk.injEq] at h1 h2 h3 h4
    obtain ⟨a1, a2⟩ := h1
    obtain ⟨b1, b2⟩ := h2
    obtain ⟨c1, c2⟩ := h3
    obtain ⟨⟨d1, d2⟩, d3⟩ := h4
    have e1 : (fn.all fun d => d.ok (frT (getT s) (List.range n))) = true := by
      rw [← List.take_append_drop k fn, List.all_append, b1, c1]; rfl
    have e2 : (fn.map fun d => fnW (frT (getT s) (List.range n)) d.at_) = fn.map DefD.val := by
      rw [← List.take_append_drop k fn, List.map_append, List.map_append, b2, c2]
    show some (L s, S s, ((((fa.all fun f => f.ok (frT (getT s) (List.range n))) && (fn.all fun d => d.ok (frT (getT s) (List.range n))), fn.map fun d => fnW (frT (getT s) (List.range n)) d.at_), ts.map fun t => dicW (frT (getT s) (List.range n)) (t.1 (frT (getT s) (List.range n)))), ex (frT (getT s) (List.range n)) && tabsB (getT s) tf (frT (getT s) (List.range n)))) = _
    rw [a1, a2, d1, e1, e2, d2, d3]
    rfl
theorem runEq_of {r : OpenRow} {q : Program} {n k M : Nat} {fa : List Fa} {fn : List DefD} {ts : List Tab} {tf : List Defn} {ex : Frag → Bool} {loose : List Str} {w : World}
    (h1 : Lk1 r q M loose w) (h2 : Lk2 r M n (fn.take k) w) (h3 : Lk2 r M n (fn.drop k) w) (h4 : Lk3 r M n fa ts tf ex w) :
    RunEq r q (hookN n fa fn ts tf ex) (fun s => obsN n fa fn ts tf ex (getT s)) M loose w :=
  fun os => looks4 (L := fun s => looksF r.prog (boot_heap w.params) s.abs) (S := fun s => HandSHeadRun.seenQ q loose (importedModules r.prog.main.body) (fun s => xlAt q [] s && recOk r.toRowW.records s) s.abs) (h1 os) (h2 os) (h3 os) (h4 os)
end Vs
/-! ## the text K00 -/
namespace K00
open PySem L2 Vs
def top (i : Nat) : Stmt := PySem.Challenge.pw_veinsaw_k00_whole_best_cuts_and_closed_t.main.body.getD i (.Pass ⟨0, 0, 0, 0⟩)
abbrev s0 : Stmt := top 1
abbrev s1 : Stmt := top 2
abbrev s2 : Stmt := top 3
abbrev s3 : Stmt := top 4
abbrev s4 : Stmt := top 17
abbrev s5 : Stmt := top 18
abbrev s6 : Stmt := inClass (top 19) 0
abbrev s7 : Stmt := inClass (top 19) 1
abbrev s8 : Stmt := inClass (top 19) 2
abbrev s9 : Stmt := top 20
abbrev s10 : Stmt := top 21
abbrev s11 : Stmt := top 24
abbrev s12 : Stmt := top 25
abbrev s13 : Stmt := top 26
abbrev s14 : Stmt := top 27
abbrev s15 : Stmt := top 28
abbrev s16 : Stmt := top 29
abbrev s17 : Stmt := top 30
abbrev s18 : Stmt := top 31
abbrev s19 : Stmt := top 32
abbrev s20 : Stmt := inClass (top 34) 0
abbrev s21 : Stmt := inClass (top 34) 1
abbrev s22 : Stmt := inClass (top 34) 2
abbrev s23 : Stmt := inClass (top 34) 3
abbrev s24 : Stmt := inClass (top 34) 4
abbrev s25 : Stmt := top 35
abbrev s26 : Stmt := top 36
abbrev s27 : Stmt := top 37
abbrev s28 : Stmt := top 38
abbrev s29 : Stmt := top 39
abbrev s30 : Stmt := top 41
abbrev s31 : Stmt := top 42
abbrev s32 : Stmt := top 43
abbrev s33 : Stmt := top 44
abbrev s34 : Stmt := top 45
abbrev s35 : Stmt := top 46
abbrev s36 : Stmt := top 47
abbrev s37 : Stmt := top 49
abbrev s38 : Stmt := top 50
abbrev s39 : Stmt := top 51
abbrev s40 : Stmt := top 52
abbrev s41 : Stmt := top 53
abbrev s42 : Stmt := top 54
abbrev s43 : Stmt := top 55
abbrev s44 : Stmt := top 56
abbrev s45 : Stmt := top 57
abbrev s46 : Stmt := top 58
abbrev s47 : Stmt := top 59
abbrev s48 : Stmt := top 60
abbrev s49 : Stmt := top 61
abbrev s50 : Stmt := top 62
abbrev s51 : Stmt := top 63
abbrev s52 : Stmt := inClass (top 6) 0
def D0 : He.DefD := ⟨("is_integer", none), "is_integer", "is_integer", defArgs s0, defBody s0, defScope s0, [], []⟩
def D1 : He.DefD := ⟨("is_within", none), "is_within", "is_within", defArgs s1, defBody s1, defScope s1, [], []⟩
def D2 : He.DefD := ⟨("is_row", none), "is_row", "is_row", defArgs s2, defBody s2, defScope s2, [], []⟩
def D3 : He.DefD := ⟨("is_tuple_of", none), "is_tuple_of", "is_tuple_of", defArgs s3, defBody s3, defScope s3, [], []⟩
def D4 : He.DefD := ⟨("is_order", none), "is_order", "is_order", defArgs s4, defBody s4, defScope s4, [], []⟩
def D5 : He.DefD := ⟨("check_kerf", none), "check_kerf", "check_kerf", defArgs s5, defBody s5, defScope s5, [], []⟩
def D6 : He.DefD := ⟨("Saw", some "__init__"), "__init__", "Saw.__init__", defArgs s6, defBody s6, defScope s6, [], []⟩
def D7 : He.DefD := ⟨("Saw", some "__eq__"), "__eq__", "Saw.__eq__", defArgs s7, defBody s7, defScope s7, [], []⟩
def D8 : He.DefD := ⟨("Saw", some "parts"), "parts", "Saw.parts", defArgs s8, defBody s8, defScope s8, [], []⟩
def D9 : He.DefD := ⟨("check_size", none), "check_size", "check_size", defArgs s9, defBody s9, defScope s9, [], []⟩
def D10 : He.DefD := ⟨("check_sizes", none), "check_sizes", "check_sizes", defArgs s10, defBody s10, defScope s10, [], []⟩
def D11 : He.DefD := ⟨("second_of", none), "second_of", "second_of", defArgs s11, defBody s11, defScope s11, [], []⟩
def D12 : He.DefD := ⟨("is_cut", none), "is_cut", "is_cut", defArgs s12, defBody s12, defScope s12, [], []⟩
def D13 : He.DefD := ⟨("is_rest", none), "is_rest", "is_rest", defArgs s13, defBody s13, defScope s13, [], []⟩
def D14 : He.DefD := ⟨("is_told", none), "is_told", "is_told", defArgs s14, defBody s14, defScope s14, [], []⟩
def D15 : He.DefD := ⟨("is_tree", none), "is_tree", "is_tree", defArgs s15, defBody s15, defScope s15, [], []⟩
def D16 : He.DefD := ⟨("check_tree", none), "check_tree", "check_tree", defArgs s16, defBody s16, defScope s16, [], []⟩
def D17 : He.DefD := ⟨("slabs_of", none), "slabs_of", "slabs_of", defArgs s17, defBody s17, defScope s17, [], []⟩
def D18 : He.DefD := ⟨("tree_price", none), "tree_price", "tree_price", defArgs s18, defBody s18, defScope s18, [], []⟩
def D19 : He.DefD := ⟨("tree_cuts", none), "tree_cuts", "tree_cuts", defArgs s19, defBody s19, defScope s19, [], []⟩
def D20 : He.DefD := ⟨("Worths", some "__init__"), "__init__", "Worths.__init__", defArgs s20, defBody s20, defScope s20, [], []⟩
def D21 : He.DefD := ⟨("Worths", some "slab_key"), "slab_key", "Worths.slab_key", defArgs s21, defBody s21, defScope s21, [], []⟩
def D22 : He.DefD := ⟨("Worths", some "best"), "best", "Worths.best", defArgs s22, defBody s22, defScope s22, [], []⟩
def D23 : He.DefD := ⟨("Worths", some "cut"), "cut", "Worths.cut", defArgs s23, defBody s23, defScope s23, [], []⟩
def D24 : He.DefD := ⟨("Worths", some "reckoned"), "reckoned", "Worths.reckoned", defArgs s24, defBody s24, defScope s24, [], []⟩
def D25 : He.DefD := ⟨("told_best", none), "told_best", "told_best", defArgs s25, defBody s25, defScope s25, [], []⟩
def D26 : He.DefD := ⟨("best_price", none), "best_price", "best_price", defArgs s26, defBody s26, defScope s26, [], []⟩
def D27 : He.DefD := ⟨("best_tree", none), "best_tree", "best_tree", defArgs s27, defBody s27, defScope s27, [], []⟩
def D28 : He.DefD := ⟨("fewest_cuts", none), "fewest_cuts", "fewest_cuts", defArgs s28, defBody s28, defScope s28, [], []⟩
def D29 : He.DefD := ⟨("best_waste", none), "best_waste", "best_waste", defArgs s29, defBody s29, defScope s29, [], []⟩
def D30 : He.DefD := ⟨("price_table", none), "price_table", "price_table", defArgs s30, defBody s30, defScope s30, [], []⟩
def D31 : He.DefD := ⟨("told_in", none), "told_in", "told_in", defArgs s31, defBody s31, defScope s31, [], []⟩
def D32 : He.DefD := ⟨("is_form", none), "is_form", "is_form", defArgs s32, defBody s32, defScope s32, [], []⟩
def D33 : He.DefD := ⟨("is_closed_at", none), "is_closed_at", "is_closed_at", defArgs s33, defBody s33, defScope s33, [], []⟩
def D34 : He.DefD := ⟨("is_told_closed", none), "is_told_closed", "is_told_closed", defArgs s34, defBody s34, defScope s34, [], []⟩
def D35 : He.DefD := ⟨("is_closed", none), "is_closed", "is_closed", defArgs s35, defBody s35, defScope s35, [], []⟩
def D36 : He.DefD := ⟨("shows", none), "shows", "shows", defArgs s36, defBody s36, defScope s36, [], []⟩
def D37 : He.DefD := ⟨("_law_taken", none), "_law_taken", "_law_taken", defArgs s37, defBody s37, defScope s37, [], []⟩
def D38 : He.DefD := ⟨("_law_pick", none), "_law_pick", "_law_pick", defArgs s38, defBody s38, defScope s38, [], []⟩
def D39 : He.DefD := ⟨("_law_alike", none), "_law_alike", "_law_alike", defArgs s39, defBody s39, defScope s39, [], []⟩
def D40 : He.DefD := ⟨("_law_saw", none), "_law_saw", "_law_saw", defArgs s40, defBody s40, defScope s40, [], []⟩
def D41 : He.DefD := ⟨("_law_second", none), "_law_second", "_law_second", defArgs s41, defBody s41, defScope s41, [], []⟩
def D42 : He.DefD := ⟨("_law_slabs", none), "_law_slabs", "_law_slabs", defArgs s42, defBody s42, defScope s42, [], []⟩
def D43 : He.DefD := ⟨("_law_price", none), "_law_price", "_law_price", defArgs s43, defBody s43, defScope s43, [], []⟩
def D44 : He.DefD := ⟨("_law_cuts", none), "_law_cuts", "_law_cuts", defArgs s44, defBody s44, defScope s44, [], []⟩
def D45 : He.DefD := ⟨("_law_tree", none), "_law_tree", "_law_tree", defArgs s45, defBody s45, defScope s45, [], []⟩
def D46 : He.DefD := ⟨("_law_best", none), "_law_best", "_law_best", defArgs s46, defBody s46, defScope s46, [], []⟩
def D47 : He.DefD := ⟨("_law_both", none), "_law_both", "_law_both", defArgs s47, defBody s47, defScope s47, [], []⟩
def D48 : He.DefD := ⟨("_law_at", none), "_law_at", "_law_at", defArgs s48, defBody s48, defScope s48, [], []⟩
def D49 : He.DefD := ⟨("_law_closed", none), "_law_closed", "_law_closed", defArgs s49, defBody s49, defScope s49, [], []⟩
def D50 : He.DefD := ⟨("_law_refused", none), "_law_refused", "_law_refused", defArgs s50, defBody s50, defScope s50, [], []⟩
def D51 : He.DefD := ⟨("law", none), "law", "law", defArgs s51, defBody s51, defScope s51, [], []⟩
def D52 : He.DefD := ⟨("StoneError", some "__init__"), "__init__", "StoneError.__init__", defArgs s52, defBody s52, defScope s52, [.non], []⟩
def fn : List He.DefD := [D0, D1, D2, D3, D4, D5, D6, D7, D8, D9, D10, D11, D12, D13, D14, D15, D16, D17, D18, D19, D20, D21, D22, D23, D24, D25, D26, D27, D28, D29, D30, D31, D32, D33, D34, D35, D36, D37, D38, D39, D40, D41, D42, D43, D44, D45, D46, D47, D48, D49, D50, D51, D52]
def gx_c (K : PySem.W.Frag) : Nat → Addr
  | 0 => He.ga K "Saw"
  | 1 => He.ga K "Worths"
  | 2 => He.ga K "StoneError"
  | 3 => He.ga K "BadKerf"
  | 4 => He.ga K "BadOrders"
  | 5 => He.ga K "BadSize"
  | 6 => He.ga K "BadTree"
  | 7 => He.ga K "BadTable"
  | _ => 0
def gx_f (K : PySem.W.Frag) : Nat → Addr
  | 0 => He.fAd K ("is_integer", none)
  | 1 => He.fAd K ("is_within", none)
  | 2 => He.fAd K ("is_row", none)
  | 3 => He.fAd K ("is_tuple_of", none)
  | 4 => He.fAd K ("is_order", none)
  | 5 => He.fAd K ("check_kerf", none)
  | 6 => He.fAd K ("Saw", some "__init__")
  | 7 => He.fAd K ("Saw", some "__eq__")
  | 8 => He.fAd K ("Saw", some "parts")
  | 9 => He.fAd K ("check_size", none)
  | 10 => He.fAd K ("check_sizes", none)
  | 11 => He.fAd K ("second_of", none)
  | 12 => He.fAd K ("is_cut", none)
  | 13 => He.fAd K ("is_rest", none)
  | 14 => He.fAd K ("is_told", none)
  | 15 => He.fAd K ("is_tree", none)
  | 16 => He.fAd K ("check_tree", none)
  | 17 => He.fAd K ("slabs_of", none)
  | 18 => He.fAd K ("tree_price", none)
  | 19 => He.fAd K ("tree_cuts", none)
  | 20 => He.fAd K ("Worths", some "__init__")
  | 21 => He.fAd K ("Worths", some "slab_key")
  | 22 => He.fAd K ("Worths", some "best")
  | 23 => He.fAd K ("Worths", some "cut")
  | 24 => He.fAd K ("Worths", some "reckoned")
  | 25 => He.fAd K ("told_best", none)
  | 26 => He.fAd K ("best_price", none)
  | 27 => He.fAd K ("best_tree", none)
  | 28 => He.fAd K ("fewest_cuts", none)
  | 29 => He.fAd K ("best_waste", none)
  | 30 => He.fAd K ("price_table", none)
  | 31 => He.fAd K ("told_in", none)
  | 32 => He.fAd K ("is_form", none)
  | 33 => He.fAd K ("is_closed_at", none)
  | 34 => He.fAd K ("is_told_closed", none)
  | 35 => He.fAd K ("is_closed", none)
  | 36 => He.fAd K ("shows", none)
  | 37 => He.fAd K ("_law_taken", none)
  | 38 => He.fAd K ("_law_pick", none)
  | 39 => He.fAd K ("_law_alike", none)
  | 40 => He.fAd K ("_law_saw", none)
  | 41 => He.fAd K ("_law_second", none)
  | 42 => He.fAd K ("_law_slabs", none)
  | 43 => He.fAd K ("_law_price", none)
  | 44 => He.fAd K ("_law_cuts", none)
  | 45 => He.fAd K ("_law_tree", none)
  | 46 => He.fAd K ("_law_best", none)
  | 47 => He.fAd K ("_law_both", none)
  | 48 => He.fAd K ("_law_at", none)
  | 49 => He.fAd K ("_law_closed", none)
  | 50 => He.fAd K ("_law_refused", none)
  | 51 => He.fAd K ("law", none)
  | _ => 0
def errI (K : PySem.W.Frag) : Addr := He.fAd K ("StoneError", some "__init__")
def tf : List He.Defn := [("law", none)]
def gx (K : PySem.W.Frag) : Gx := ⟨K, gx_c K, gx_f K, [((He.cT K ("law", none)).2, ("law" : Str) ++ ".<locals>." ++ "<lambda>")]⟩
theorem tf_T {K : PySem.W.Frag} {p : Addr × Str} (h : p ∈ (gx K).T) : p.1 ∈ (tf.map (He.cT K)).map (·.2) := by
  have h : p ∈ [((He.cT K ("law", none)).2, ("law" : Str) ++ ".<locals>." ++ "<lambda>")] := h
  simp only [List.mem_cons, List.not_mem_nil, or_false] at h
  simp only [tf, List.map_cons, List.map_nil, List.mem_cons, List.not_mem_nil, or_false]
  rcases h with rfl <;> simp
def psN : Nat → List Str
  | 0 => ["thing"]
  | 1 => ["thing", "least", "most"]
  | 2 => ["thing"]
  | 3 => ["thing", "many"]
  | 4 => ["thing"]
  | 5 => ["kerf"]
  | 6 => ["self", "kerf", "orders"]
  | 7 => ["self", "other"]
  | 8 => ["self", "size"]
  | 9 => ["size"]
  | 10 => ["width", "height"]
  | 11 => ["saw", "size", "at"]
  | 12 => ["saw", "width", "height", "thing"]
  | 13 => ["saw", "width", "height", "thing"]
  | 14 => ["saw", "width", "height", "thing"]
  | 15 => ["saw", "width", "height", "thing"]
  | 16 => ["saw", "width", "height", "tree"]
  | 17 => ["tree"]
  | 18 => ["saw", "tree"]
  | 19 => ["tree"]
  | 20 => ["self", "saw", "by_waste"]
  | 21 => ["self", "order"]
  | 22 => ["self", "width", "height"]
  | 23 => ["self", "word", "at", "first", "second"]
  | 24 => ["self", "width", "height"]
  | 25 => ["saw", "width", "height"]
  | 26 => ["saw", "width", "height"]
  | 27 => ["saw", "width", "height"]
  | 28 => ["saw", "width", "height"]
  | 29 => ["saw", "width", "height"]
  | 30 => ["saw", "width", "height"]
  | 31 => ["table", "width", "height"]
  | 32 => ["width", "height", "thing"]
  | 33 => ["saw", "table", "width", "height"]
  | 34 => ["saw", "width", "height", "thing"]
  | 35 => ["saw", "width", "height", "thing"]
  | 36 => ["saw", "width", "height", "tree", "table"]
  | 37 => ["row", "many"]
  | 38 => ["row", "some"]
  | 39 => ["found", "due"]
  | 40 => ["row"]
  | 41 => ["told", "size", "at"]
  | 42 => ["told", "tree", "left", "top", "width", "height"]
  | 43 => ["told", "slabs"]
  | 44 => ["tree"]
  | 45 => ["row", "told", "width", "height", "deep"]
  | 46 => ["told", "known", "width", "height"]
  | 47 => ["first", "second"]
  | 48 => ["table", "width", "height"]
  | 49 => ["told", "table", "width", "height"]
  | 50 => ["ask"]
  | 51 => ["script"]
  | _ => []
def refL : List (Nat × Str) := [(5, "size"), (7, "table"), (6, "tree")]
def exs (K : PySem.W.Frag) : List Bool := [
  clsIsB (gx K) [0, 1],
  errB K (gx_c K 3) (errI K),
  clsNoB (gx K) ([0], "orders"),
  clsNoB (gx K) ([0], "kerf"),
  errB K (gx_c K 4) (errI K),
  errB K (gx_c K 5) (errI K),
  errB K (gx_c K 6) (errI K),
  clsNoB (gx K) ([1], "known"),
  clsNoB (gx K) ([1], "by_waste"),
  clsNoB (gx K) ([1], "saw"),
  methB K (gx_c K 1) "reckoned" (gx_f K 24),
  clsB K (gx_c K 1),
  methB K (gx_c K 0) "parts" (gx_f K 8),
  clsB K (gx_c K 0),
  methB K (gx_c K 1) "best" (gx_f K 22),
  methB K (gx_c K 1) "cut" (gx_f K 23),
  methB K (gx_c K 1) "slab_key" (gx_f K 21),
  ktB K (He.ga K "WASTE") [.str "waste"],
  mkB K (gx_c K 1) (gx_f K 20),
  errB K (gx_c K 7) (errI K),
  mkB K (gx_c K 0) (gx_f K 6),
  excLB (gx K) [2, 3, 4, 5, 6, 7] refL,
  errB K (gx_c K 2) (errI K)]
def fa : List He.Fa := [.free "int", .free "isinstance", .free "bool", .glo "is_integer", .free "list", .free "tuple", .free "len", .int "MOST_PRICE" 1000, .glo "is_within", .glo "is_tuple_of", .int "MOST_SIZE" 12, .int "MOST_KERF" 2, .glo "BadKerf", .free "enumerate", .glo "is_order", .glo "BadOrders", .glo "is_row", .int "MOST_ORDERS" 6, .glo "check_kerf", .glo "Saw", .free "range", .free "max", .glo "BadSize", .glo "check_size", .glo "is_told", .glo "is_rest", .glo "second_of", .glo "is_cut", .free "str", .glo "check_sizes", .glo "BadTree", .glo "slabs_of", .free "sum", .glo "tree_cuts", .glo "WASTE", .glo "Worths", .glo "told_best", .free "all", .glo "told_in", .glo "is_closed_at", .glo "is_form", .glo "is_told_closed", .glo "tree_price", .glo "BadTable", .glo "check_tree", .glo "_law_taken", .free "dict", .glo "_law_alike", .glo "_law_pick", .glo "_law_slabs", .glo "_law_second", .glo "_law_cuts", .glo "_law_tree", .free "min", .glo "_law_best", .glo "_law_both", .glo "_law_at", .glo "price_table", .glo "best_waste", .glo "fewest_cuts", .glo "best_tree", .glo "best_price", .free "repr", .glo "shows", .glo "is_closed", .glo "_law_closed", .glo "_law_price", .glo "is_tree", .glo "_law_saw", .glo "StoneError", .glo "law", .glo "_law_refused"]
-- is_integer(thing); slots: thing
-- is_within(thing, least, most); slots: thing least most
-- is_row(thing); slots: thing
-- is_tuple_of(thing, many); slots: thing many
-- is_order(thing); slots: thing
-- check_kerf(kerf); slots: kerf
-- Saw.__init__(self, kerf, orders); slots: self kerf orders index order
-- Saw.__eq__(self, other); slots: self other
-- Saw.parts(self, size); slots: self size at
-- check_size(size); slots: size
-- check_sizes(width, height); slots: width height
-- second_of(saw, size, at); slots: saw size at
-- is_cut(saw, width, height, thing); slots: saw width height thing size rest
-- is_rest(saw, width, height, thing); slots: saw width height thing
-- is_told(saw, width, height, thing); slots: saw width height thing
-- is_tree(saw, width, height, thing); slots: saw width height thing
-- check_tree(saw, width, height, tree); slots: saw width height tree
-- slabs_of(tree); slots: tree
-- tree_price(saw, tree); slots: saw tree number
-- tree_cuts(tree); slots: tree
-- Worths.__init__(self, saw, by_waste); slots: self saw by_waste
-- Worths.slab_key(self, order); slots: self order
-- Worths.best(self, width, height); slots: self width height
-- Worths.cut(self, word, at, first, second); slots: self word at first second key
-- Worths.reckoned(self, width, height); slots: self width height found number order at first second told
-- told_best(saw, width, height); slots: saw width height
-- best_price(saw, width, height); slots: saw width height
-- best_tree(saw, width, height); slots: saw width height
-- fewest_cuts(saw, width, height); slots: saw width height
-- best_waste(saw, width, height); slots: saw width height
-- price_table(saw, width, height); slots: saw width height worths rows down across
-- told_in(table, width, height); slots: table width height
-- is_form(width, height, thing); slots: width height thing row one
-- is_closed_at(saw, table, width, height); slots: saw table width height most _ first second
-- is_told_closed(saw, width, height, thing); slots: saw width height thing wide high price down across
-- is_closed(saw, width, height, thing); slots: saw width height thing
-- shows(saw, width, height, tree, table); slots: saw width height tree table
-- _law_taken(row, many); slots: row many found cell
-- _law_pick(row, some); slots: row some
-- _law_alike(found, due); slots: found due k key
-- _law_saw(row); slots: row orders k width height
-- _law_second(told, size, at); slots: told size at
-- _law_slabs(told, tree, left, top, width, height); slots: told tree left top width height good size at rest behind first second
-- _law_price(told, slabs); slots: told slabs one
-- _law_cuts(tree); slots: tree
-- _law_tree(row, told, width, height, deep); slots: row told width height deep fits at
-- _law_best(told, known, width, height); slots: told known width height some wide high price at one
-- _law_both(first, second); slots: first second
-- _law_at(table, width, height); slots: table width height
-- _law_closed(told, table, width, height); slots: told table width height wide high price down across sums at
-- _law_refused(ask); slots: ask e
-- law(script); slots: script row told known saw most width height best tree slabs table due across down turn column line number thing good other odd one wrong ask
def m0 (C : Nat → FM) : FM := defM 1 1 (sSeq (sRet (eAnd (e1 (isiM [0, 1] [(.ty "int")]) (eVar 0)) (eNot (e1 (isiM [0, 1] [(.ty "bool")]) (eVar 0))))) sNil)
def m1 (C : Nat → FM) : FM := defM 3 3 (sSeq (sRet (eAnd (eCallD (C 0) (aCons (eVar 0) aNil) []) (eChain leM leM (eVar 1) (eVar 0) (eVar 2)))) sNil)
def m2 (C : Nat → FM) : FM := defM 1 1 (sSeq (sRet (e1 (isiM [0, 1] [(.ty "list"), (.ty "tuple")]) (eVar 0))) sNil)
def m3 (C : Nat → FM) : FM := defM 2 2 (sSeq (sRet (eAnd (e1 (isiM [0, 1] [(.ty "tuple")]) (eVar 0)) (e2 eqM (e1 lenM (eVar 0)) (eVar 1)))) sNil)
def m4 (C : Nat → FM) : FM := defM 1 1 (sSeq (sIf (tOrM (tNotM (tTruth (eCallD (C 3) (aCons (eVar 0) (aCons (eC (.int 3)) aNil)) []))) (tOrM (tNotM (tTruth (eCallD (C 1) (aCons (e2 ixM (eVar 0) (eC (.int 0))) (aCons (eC (.int 1)) (aCons (eC (.int 12)) aNil))) []))) (tNotM (tTruth (eCallD (C 1) (aCons (e2 ixM (eVar 0) (eC (.int 1))) (aCons (eC (.int 1)) (aCons (eC (.int 12)) aNil))) []))))) (sSeq (sRet (eC (.bl false))) sNil) sNil) (sSeq (sRet (eCallD (C 1) (aCons (e2 ixM (eVar 0) (eC (.int 2))) (aCons (eC (.int 1)) (aCons (eC (.int 1000)) aNil))) [])) sNil))
def m5 (C : Nat → FM) : FM := defM 1 1 (sSeq (sIf (tNotM (tTruth (eCallD (C 1) (aCons (eVar 0) (aCons (eC (.int 0)) (aCons (eC (.int 2)) aNil))) []))) (sSeq (sRaise 3 (eVar 0)) sNil) sNil) sNil)
def m6 (C : Nat → FM) : FM := defM 3 5 (sSeq (sExpr (eCallD (C 5) (aCons (eVar 1) aNil) [])) (sSeq (sIf (tOrM (tNotM (tTruth (eCallD (C 2) (aCons (eVar 2) aNil) []))) (tNotM (tVal (eChain leM leM (eC (.int 1)) (e1 lenM (eVar 2)) (eC (.int 6)))))) (sSeq (sRaise 4 (e1 negM (eC (.int 1)))) sNil) sNil) (sSeq (sFor (iEnM (aCons (eVar 2) aNil)) (gTp 2 (gsCons (gNm 3) (gsCons (gNm 4) gsNil))) (sSeq (sIf (tNotM (tTruth (eCallD (C 4) (aCons (eVar 4) aNil) []))) (sSeq (sRaise 4 (eVar 3)) sNil) sNil) sNil)) (sSeq (sFldM [0] "kerf" (eVar 0) (eVar 1)) (sSeq (sFldM [0] "orders" (eVar 0) (e1 toTupM (eVar 2))) sNil)))))
def m7 (C : Nat → FM) : FM := defM 2 2 (sSeq (sRet (eAnd (e1 (isiM [0, 1] [(.own 0)]) (eVar 1)) (e2 eqM (eTup (aCons (e1 (fldM [0] "kerf") (eVar 0)) (aCons (e1 (fldM [0] "orders") (eVar 0)) aNil))) (eTup (aCons (e1 (fldM [0] "kerf") (eVar 1)) (aCons (e1 (fldM [0] "orders") (eVar 1)) aNil)))))) sNil)
def m8 (C : Nat → FM) : FM := defM 2 3 (sSeq (sRet (eLc (iRng2M (aCons (eC (.int 1)) (aCons (eVar 1) aNil))) (cgNm 2) [2] tYesM (eTup (aCons (eVar 2) (aCons (eVar 2) (aCons (eMax2 (aCons (eC (.int 0)) (aCons (e2 subM (e2 subM (eVar 1) (eVar 2)) (e1 (fldM [0] "kerf") (eVar 0))) aNil))) aNil)))))) sNil)
def m9 (C : Nat → FM) : FM := defM 1 1 (sSeq (sIf (tNotM (tTruth (eCallD (C 1) (aCons (eVar 0) (aCons (eC (.int 1)) (aCons (eC (.int 12)) aNil))) []))) (sSeq (sRaise 5 (eVar 0)) sNil) sNil) sNil)
def m10 (C : Nat → FM) : FM := defM 2 2 (sSeq (sExpr (eCallD (C 9) (aCons (eVar 0) aNil) [])) (sSeq (sExpr (eCallD (C 9) (aCons (eVar 1) aNil) [])) sNil))
def m11 (C : Nat → FM) : FM := defM 3 3 (sSeq (sRet (eMax2 (aCons (eC (.int 0)) (aCons (e2 subM (e2 subM (eVar 1) (eVar 2)) (e1 (fldM [0] "kerf") (eVar 0))) aNil)))) sNil)
def m12 (C : Nat → FM) : FM := defM 4 6 (sSeq (sAsg (eIf (tVal (e2 eqM (e2 ixM (eVar 3) (eC (.int 0))) (eC (.str "across")))) (eVar 1) (eVar 2)) (gNm 4)) (sSeq (sIf (tNotM (tTruth (eCallD (C 1) (aCons (e2 ixM (eVar 3) (eC (.int 1))) (aCons (eC (.int 1)) (aCons (e2 subM (eVar 4) (eC (.int 1))) aNil))) []))) (sSeq (sRet (eC (.bl false))) sNil) sNil) (sSeq (sAsg (eCallD (C 11) (aCons (eVar 0) (aCons (eVar 4) (aCons (e2 ixM (eVar 3) (eC (.int 1))) aNil))) []) (gNm 5)) (sSeq (sIf (tVal (e2 eqM (e2 ixM (eVar 3) (eC (.int 0))) (eC (.str "across")))) (sSeq (sRet (eAnd (eCallD (C 14) (aCons (eVar 0) (aCons (e2 ixM (eVar 3) (eC (.int 1))) (aCons (eVar 2) (aCons (e2 ixM (eVar 3) (eC (.int 2))) aNil)))) []) (eCallD (C 13) (aCons (eVar 0) (aCons (eVar 5) (aCons (eVar 2) (aCons (e2 ixM (eVar 3) (eC (.int 3))) aNil)))) []))) sNil) sNil) (sSeq (sRet (eAnd (eCallD (C 14) (aCons (eVar 0) (aCons (eVar 1) (aCons (e2 ixM (eVar 3) (eC (.int 1))) (aCons (e2 ixM (eVar 3) (eC (.int 2))) aNil)))) []) (eCallD (C 13) (aCons (eVar 0) (aCons (eVar 1) (aCons (eVar 5) (aCons (e2 ixM (eVar 3) (eC (.int 3))) aNil)))) []))) sNil)))))
def m13 (C : Nat → FM) : FM := defM 4 4 (sSeq (sIf (tOrM (tVal (e2 eqM (eVar 1) (eC (.int 0)))) (tVal (e2 eqM (eVar 2) (eC (.int 0))))) (sSeq (sRet (e2 (isNM true) (eVar 3) (eC .non))) sNil) sNil) (sSeq (sRet (eCallD (C 14) (aCons (eVar 0) (aCons (eVar 1) (aCons (eVar 2) (aCons (eVar 3) aNil)))) [])) sNil))
def m14 (C : Nat → FM) : FM := defM 4 4 (sSeq (sIf (tOrM (tNotM (tTruth (e1 (isiM [0, 1] [(.ty "tuple")]) (eVar 3)))) (tOrM (tNotM (tTruth (eVar 3))) (tNotM (tTruth (e1 (isiM [0, 1] [(.ty "str")]) (e2 ixM (eVar 3) (eC (.int 0)))))))) (sSeq (sRet (eC (.bl false))) sNil) sNil) (sSeq (sIf (tVal (e2 eqM (e2 ixM (eVar 3) (eC (.int 0))) (eC (.str "waste")))) (sSeq (sRet (e2 eqM (e1 lenM (eVar 3)) (eC (.int 1)))) sNil) sNil) (sSeq (sIf (tVal (e2 eqM (e2 ixM (eVar 3) (eC (.int 0))) (eC (.str "slab")))) (sSeq (sIf (tOrM (tVal (e2 neM (e1 lenM (eVar 3)) (eC (.int 2)))) (tNotM (tTruth (eCallD (C 1) (aCons (e2 ixM (eVar 3) (eC (.int 1))) (aCons (eC (.int 0)) (aCons (e2 subM (e1 lenM (e1 (fldM [0] "orders") (eVar 0))) (eC (.int 1))) aNil))) [])))) (sSeq (sRet (eC (.bl false))) sNil) sNil) (sSeq (sRet (e2 eqM (eSl (e2 ixM (e1 (fldM [0] "orders") (eVar 0)) (e2 ixM (eVar 3) (eC (.int 1)))) pNo (pSome (eC (.int 2)))) (eTup (aCons (eVar 1) (aCons (eVar 2) aNil))))) sNil)) sNil) (sSeq (sRet (eAnd (e2 (inM true) (e2 ixM (eVar 3) (eC (.int 0))) (eTup (aCons (eC (.str "across")) (aCons (eC (.str "down")) aNil)))) (eAnd (eCallD (C 3) (aCons (eVar 3) (aCons (eC (.int 4)) aNil)) []) (eCallD (C 12) (aCons (eVar 0) (aCons (eVar 1) (aCons (eVar 2) (aCons (eVar 3) aNil)))) [])))) sNil))))
def m15 (C : Nat → FM) : FM := defM 4 4 (sSeq (sExpr (eCallD (C 10) (aCons (eVar 1) (aCons (eVar 2) aNil)) [])) (sSeq (sRet (eCallD (C 14) (aCons (eVar 0) (aCons (eVar 1) (aCons (eVar 2) (aCons (eVar 3) aNil)))) [])) sNil))
def m16 (C : Nat → FM) : FM := defM 4 4 (sSeq (sIf (tNotM (tTruth (eCallD (C 14) (aCons (eVar 0) (aCons (eVar 1) (aCons (eVar 2) (aCons (eVar 3) aNil)))) []))) (sSeq (sRaise 6 (eVar 3)) sNil) sNil) sNil)
def m17 (C : Nat → FM) : FM := defM 1 1 (sSeq (sIf (tOrM (tVal (e2 (isNM true) (eVar 0) (eC .non))) (tVal (e2 eqM (e2 ixM (eVar 0) (eC (.int 0))) (eC (.str "waste"))))) (sSeq (sRet (eLst aNil)) sNil) sNil) (sSeq (sIf (tVal (e2 eqM (e2 ixM (eVar 0) (eC (.int 0))) (eC (.str "slab")))) (sSeq (sRet (eLst (aCons (e2 ixM (eVar 0) (eC (.int 1))) aNil))) sNil) sNil) (sSeq (sRet (e2 addM (eCallD (C 17) (aCons (e2 ixM (eVar 0) (eC (.int 2))) aNil) []) (eCallD (C 17) (aCons (e2 ixM (eVar 0) (eC (.int 3))) aNil) []))) sNil)))
def m18 (C : Nat → FM) : FM := defM 2 3 (sSeq (sRet (e1 sumM (eLc (iLstM (eCallD (C 17) (aCons (eVar 1) aNil) [])) (cgNm 2) [2] tYesM (e2 ixM (e2 ixM (e1 (fldM [0] "orders") (eVar 0)) (eVar 2)) (eC (.int 2)))))) sNil)
def m19 (C : Nat → FM) : FM := defM 1 1 (sSeq (sIf (tOrM (tVal (e2 (isNM true) (eVar 0) (eC .non))) (tVal (e2 (inM true) (e2 ixM (eVar 0) (eC (.int 0))) (eTup (aCons (eC (.str "waste")) (aCons (eC (.str "slab")) aNil)))))) (sSeq (sRet (eC (.int 0))) sNil) sNil) (sSeq (sRet (e2 addM (e2 addM (eC (.int 1)) (eCallD (C 19) (aCons (e2 ixM (eVar 0) (eC (.int 2))) aNil) [])) (eCallD (C 19) (aCons (e2 ixM (eVar 0) (eC (.int 3))) aNil) []))) sNil))
def m20 (C : Nat → FM) : FM := defM 3 3 (sSeq (sFldM [1] "saw" (eVar 0) (eVar 1)) (sSeq (sFldM [1] "by_waste" (eVar 0) (eVar 2)) (sSeq (sFldN [1] "known" 0) sNil)))
def m21 (C : Nat → FM) : FM := defM 2 2 (sSeq (sRet (eTup (aCons (e2 subM (eC (.int 0)) (e2 ixM (eVar 1) (eC (.int 2)))) (aCons (eIf (tTruth (e1 (fldM [1] "by_waste") (eVar 0))) (e2 subM (eC (.int 0)) (e2 mulM (e2 ixM (eVar 1) (eC (.int 0))) (e2 ixM (eVar 1) (eC (.int 1))))) (eC (.int 0))) (aCons (eC (.int 0)) aNil))))) sNil)
def m22 (C : Nat → FM) : FM := defM 3 3 (sSeq (sIf (tOrM (tVal (e2 eqM (eVar 1) (eC (.int 0)))) (tVal (e2 eqM (eVar 2) (eC (.int 0))))) (sSeq (sRet (eTup (aCons (eTup (aCons (eC (.int 0)) (aCons (eC (.int 0)) (aCons (eC (.int 0)) aNil)))) (aCons (eC .non) aNil)))) sNil) sNil) (sSeq (sIf (tVal (inTM false (aCons (eVar 1) (aCons (eVar 2) aNil)) (e1 (fldM [1] "known") (eVar 0)))) (sSeq (setTM (e1 (fldM [1] "known") (eVar 0)) (aCons (eVar 1) (aCons (eVar 2) aNil)) (methM 1 "reckoned" (C 24) (eVar 0) (aCons (eVar 1) (aCons (eVar 2) aNil)) [])) sNil) sNil) (sSeq (sRet (ixTM (e1 (fldM [1] "known") (eVar 0)) (aCons (eVar 1) (aCons (eVar 2) aNil)))) sNil)))
def m23 (C : Nat → FM) : FM := defM 5 6 (sSeq (sAsg (eTup (aCons (e2 addM (e2 ixM (e2 ixM (eVar 3) (eC (.int 0))) (eC (.int 0))) (e2 ixM (e2 ixM (eVar 4) (eC (.int 0))) (eC (.int 0)))) (aCons (e2 addM (e2 ixM (e2 ixM (eVar 3) (eC (.int 0))) (eC (.int 1))) (e2 ixM (e2 ixM (eVar 4) (eC (.int 0))) (eC (.int 1)))) (aCons (e2 addM (e2 addM (e2 ixM (e2 ixM (eVar 3) (eC (.int 0))) (eC (.int 2))) (e2 ixM (e2 ixM (eVar 4) (eC (.int 0))) (eC (.int 2)))) (eC (.int 1))) aNil)))) (gNm 5)) (sSeq (sRet (eTup (aCons (eVar 5) (aCons (eTup (aCons (eVar 1) (aCons (eVar 2) (aCons (e2 ixM (eVar 3) (eC (.int 1))) (aCons (e2 ixM (eVar 4) (eC (.int 1))) aNil))))) aNil)))) sNil))
def m24 (C : Nat → FM) : FM := defM 3 10 (sSeq (sAsg (eTup (aCons (eTup (aCons (eC (.int 0)) (aCons (eC (.int 0)) (aCons (eC (.int 0)) aNil)))) (aCons (eC (.tup [.str "waste"])) aNil))) (gNm 3)) (sSeq (sFor (iEnM (aCons (e1 (fldM [0] "orders") (e1 (fldM [1] "saw") (eVar 0))) aNil)) (gTp 2 (gsCons (gNm 4) (gsCons (gNm 5) gsNil))) (sSeq (sIf (tAndM (tVal (e2 eqM (eSl (eVar 5) pNo (pSome (eC (.int 2)))) (eTup (aCons (eVar 1) (aCons (eVar 2) aNil))))) (tVal (e2 ltM (methM 1 "slab_key" (C 21) (eVar 0) (aCons (eVar 5) aNil) []) (e2 ixM (eVar 3) (eC (.int 0)))))) (sSeq (sAsg (eTup (aCons (methM 1 "slab_key" (C 21) (eVar 0) (aCons (eVar 5) aNil) []) (aCons (eTup (aCons (eC (.str "slab")) (aCons (eVar 4) aNil))) aNil))) (gNm 3)) sNil) sNil) sNil)) (sSeq (sFor (iLstM (methM 0 "parts" (C 8) (e1 (fldM [1] "saw") (eVar 0)) (aCons (eVar 1) aNil) [])) (gTp 3 (gsCons (gNm 6) (gsCons (gNm 7) (gsCons (gNm 8) gsNil)))) (sSeq (sAsg (methM 1 "cut" (C 23) (eVar 0) (aCons (eC (.str "across")) (aCons (eVar 6) (aCons (methM 1 "best" (C 22) (eVar 0) (aCons (eVar 7) (aCons (eVar 2) aNil)) []) (aCons (methM 1 "best" (C 22) (eVar 0) (aCons (eVar 8) (aCons (eVar 2) aNil)) []) aNil)))) []) (gNm 9)) (sSeq (sIf (tVal (e2 ltM (e2 ixM (eVar 9) (eC (.int 0))) (e2 ixM (eVar 3) (eC (.int 0))))) (sSeq (sAsg (eVar 9) (gNm 3)) sNil) sNil) sNil))) (sSeq (sFor (iLstM (methM 0 "parts" (C 8) (e1 (fldM [1] "saw") (eVar 0)) (aCons (eVar 2) aNil) [])) (gTp 3 (gsCons (gNm 6) (gsCons (gNm 7) (gsCons (gNm 8) gsNil)))) (sSeq (sAsg (methM 1 "cut" (C 23) (eVar 0) (aCons (eC (.str "down")) (aCons (eVar 6) (aCons (methM 1 "best" (C 22) (eVar 0) (aCons (eVar 1) (aCons (eVar 7) aNil)) []) (aCons (methM 1 "best" (C 22) (eVar 0) (aCons (eVar 1) (aCons (eVar 8) aNil)) []) aNil)))) []) (gNm 9)) (sSeq (sIf (tVal (e2 ltM (e2 ixM (eVar 9) (eC (.int 0))) (e2 ixM (eVar 3) (eC (.int 0))))) (sSeq (sAsg (eVar 9) (gNm 3)) sNil) sNil) sNil))) (sSeq (sRet (eVar 3)) sNil)))))
def m25 (C : Nat → FM) : FM := defM 3 3 (sSeq (sRet (methM 1 "best" (C 22) (mkM 1 (C 20) (aCons (eVar 0) (aCons (eC (.bl false)) aNil)) []) (aCons (eVar 1) (aCons (eVar 2) aNil)) [])) sNil)
def m26 (C : Nat → FM) : FM := defM 3 3 (sSeq (sExpr (eCallD (C 10) (aCons (eVar 1) (aCons (eVar 2) aNil)) [])) (sSeq (sRet (e2 subM (eC (.int 0)) (e2 ixM (e2 ixM (eCallD (C 25) (aCons (eVar 0) (aCons (eVar 1) (aCons (eVar 2) aNil))) []) (eC (.int 0))) (eC (.int 0))))) sNil))
def m27 (C : Nat → FM) : FM := defM 3 3 (sSeq (sExpr (eCallD (C 10) (aCons (eVar 1) (aCons (eVar 2) aNil)) [])) (sSeq (sRet (e2 ixM (eCallD (C 25) (aCons (eVar 0) (aCons (eVar 1) (aCons (eVar 2) aNil))) []) (eC (.int 1)))) sNil))
def m28 (C : Nat → FM) : FM := defM 3 3 (sSeq (sExpr (eCallD (C 10) (aCons (eVar 1) (aCons (eVar 2) aNil)) [])) (sSeq (sRet (e2 ixM (e2 ixM (eCallD (C 25) (aCons (eVar 0) (aCons (eVar 1) (aCons (eVar 2) aNil))) []) (eC (.int 0))) (eC (.int 2)))) sNil))
def m29 (C : Nat → FM) : FM := defM 3 3 (sSeq (sExpr (eCallD (C 10) (aCons (eVar 1) (aCons (eVar 2) aNil)) [])) (sSeq (sRet (e2 addM (e2 mulM (eVar 1) (eVar 2)) (e2 ixM (e2 ixM (methM 1 "best" (C 22) (mkM 1 (C 20) (aCons (eVar 0) (aCons (eC (.bl true)) aNil)) []) (aCons (eVar 1) (aCons (eVar 2) aNil)) []) (eC (.int 0))) (eC (.int 1))))) sNil))
def m30 (C : Nat → FM) : FM := defM 3 7 (sSeq (sExpr (eCallD (C 10) (aCons (eVar 1) (aCons (eVar 2) aNil)) [])) (sSeq (sAsg (mkM 1 (C 20) (aCons (eVar 0) (aCons (eC (.bl false)) aNil)) []) (gNm 3)) (sSeq (sAsg (eLstM aNil) (gNm 4)) (sSeq (sFor (iRng2M (aCons (eC (.int 1)) (aCons (e2 addM (eVar 2) (eC (.int 1))) aNil))) (gNm 5) (sSeq (sExpr (eAppend (eVar 4) (e1 toTupM (eLc (iRng2M (aCons (eC (.int 1)) (aCons (e2 addM (eVar 1) (eC (.int 1))) aNil))) (cgNm 6) [6] tYesM (e2 subM (eC (.int 0)) (e2 ixM (e2 ixM (methM 1 "best" (C 22) (eVar 3) (aCons (eVar 6) (aCons (eVar 5) aNil)) []) (eC (.int 0))) (eC (.int 0)))))))) sNil)) (sSeq (sRet (e1 toTupM (eVar 4))) sNil)))))
def m31 (C : Nat → FM) : FM := defM 3 3 (sSeq (sIf (tOrM (tVal (e2 eqM (eVar 1) (eC (.int 0)))) (tVal (e2 eqM (eVar 2) (eC (.int 0))))) (sSeq (sRet (eC (.int 0))) sNil) sNil) (sSeq (sRet (e2 ixM (e2 ixM (eVar 0) (e2 subM (eVar 2) (eC (.int 1)))) (e2 subM (eVar 1) (eC (.int 1))))) sNil))
def m32 (C : Nat → FM) : FM := defM 3 5 (sSeq (sIf (tOrM (tNotM (tTruth (eCallD (C 3) (aCons (eVar 2) (aCons (eVar 1) aNil)) []))) (tNotM (tTruth (e1 allM (eLc (iTupM (eVar 2)) (cgNm 3) [3] tYesM (eCallD (C 3) (aCons (eVar 3) (aCons (eVar 0) aNil)) [])))))) (sSeq (sRet (eC (.bl false))) sNil) sNil) (sSeq (sRet (e1 allM (eLc (iTupM (eVar 2)) (cgNm 3) [3] tYesM (e1 allM (eLc (iTupM (eVar 3)) (cgNm 4) [4] tYesM (eAnd (eCallD (C 0) (aCons (eVar 4) aNil) []) (e2 geM (eVar 4) (eC (.int 0))))))))) sNil))
def m33 (C : Nat → FM) : FM := defM 4 8 (sSeq (sAsg (eCallD (C 31) (aCons (eVar 1) (aCons (eVar 2) (aCons (eVar 3) aNil))) []) (gNm 4)) (sSeq (sFor (iLstM (methM 0 "parts" (C 8) (eVar 0) (aCons (eVar 2) aNil) [])) (gTp 3 (gsCons (gNm 5) (gsCons (gNm 6) (gsCons (gNm 7) gsNil)))) (sSeq (sIf (tVal (e2 gtM (e2 addM (eCallD (C 31) (aCons (eVar 1) (aCons (eVar 6) (aCons (eVar 3) aNil))) []) (eCallD (C 31) (aCons (eVar 1) (aCons (eVar 7) (aCons (eVar 3) aNil))) [])) (eVar 4))) (sSeq (sRet (eC (.bl false))) sNil) sNil) sNil)) (sSeq (sFor (iLstM (methM 0 "parts" (C 8) (eVar 0) (aCons (eVar 3) aNil) [])) (gTp 3 (gsCons (gNm 5) (gsCons (gNm 6) (gsCons (gNm 7) gsNil)))) (sSeq (sIf (tVal (e2 gtM (e2 addM (eCallD (C 31) (aCons (eVar 1) (aCons (eVar 2) (aCons (eVar 6) aNil))) []) (eCallD (C 31) (aCons (eVar 1) (aCons (eVar 2) (aCons (eVar 7) aNil))) [])) (eVar 4))) (sSeq (sRet (eC (.bl false))) sNil) sNil) sNil)) (sSeq (sRet (eC (.bl true))) sNil))))
def m34 (C : Nat → FM) : FM := defM 4 9 (sSeq (sIf (tNotM (tTruth (eCallD (C 32) (aCons (eVar 1) (aCons (eVar 2) (aCons (eVar 3) aNil))) []))) (sSeq (sRet (eC (.bl false))) sNil) sNil) (sSeq (sFor (iTupM (e1 (fldM [0] "orders") (eVar 0))) (gTp 3 (gsCons (gNm 4) (gsCons (gNm 5) (gsCons (gNm 6) gsNil)))) (sSeq (sIf (tAndM (tVal (e2 leM (eVar 4) (eVar 1))) (tAndM (tVal (e2 leM (eVar 5) (eVar 2))) (tVal (e2 ltM (eCallD (C 31) (aCons (eVar 3) (aCons (eVar 4) (aCons (eVar 5) aNil))) []) (eVar 6))))) (sSeq (sRet (eC (.bl false))) sNil) sNil) sNil)) (sSeq (sFor (iRng2M (aCons (eC (.int 1)) (aCons (e2 addM (eVar 2) (eC (.int 1))) aNil))) (gNm 7) (sSeq (sIf (tNotM (tTruth (e1 allM (eLc (iRng2M (aCons (eC (.int 1)) (aCons (e2 addM (eVar 1) (eC (.int 1))) aNil))) (cgNm 8) [8] tYesM (eCallD (C 33) (aCons (eVar 0) (aCons (eVar 3) (aCons (eVar 8) (aCons (eVar 7) aNil)))) []))))) (sSeq (sRet (eC (.bl false))) sNil) sNil) sNil)) (sSeq (sRet (eC (.bl true))) sNil))))
def m35 (C : Nat → FM) : FM := defM 4 4 (sSeq (sExpr (eCallD (C 10) (aCons (eVar 1) (aCons (eVar 2) aNil)) [])) (sSeq (sRet (eCallD (C 34) (aCons (eVar 0) (aCons (eVar 1) (aCons (eVar 2) (aCons (eVar 3) aNil)))) [])) sNil))
def m36 (C : Nat → FM) : FM := defM 5 5 (sSeq (sExpr (eCallD (C 10) (aCons (eVar 1) (aCons (eVar 2) aNil)) [])) (sSeq (sExpr (eCallD (C 16) (aCons (eVar 0) (aCons (eVar 1) (aCons (eVar 2) (aCons (eVar 3) aNil)))) [])) (sSeq (sIf (tNotM (tTruth (eCallD (C 34) (aCons (eVar 0) (aCons (eVar 1) (aCons (eVar 2) (aCons (eVar 4) aNil)))) []))) (sSeq (sRaise 7 (eVar 4)) sNil) sNil) (sSeq (sRet (e2 eqM (eCallD (C 18) (aCons (eVar 0) (aCons (eVar 3) aNil)) []) (eCallD (C 31) (aCons (eVar 4) (aCons (eVar 1) (aCons (eVar 2) aNil))) []))) sNil))))
def m37 (C : Nat → FM) : FM := defM 2 4 (sSeq (sIf (tVal (e2 gtM (e2 ixM (eVar 0) (eC (.int 3))) (eC (.int 0)))) (sSeq (sAsg (e2 modM (e1 toIntM (e2 ixM (eVar 0) (eC (.int 3)))) (eVar 1)) (gNm 2)) (sSeq (sAsg (e2 fdivM (e2 ixM (eVar 0) (eC (.int 3))) (eVar 1)) (gSubM setLM (eVar 0) (eC (.int 3)))) (sSeq (sRet (eVar 2)) sNil))) sNil) (sSeq (sAsg (e2 addM (e2 ixM (eVar 0) (eC (.int 1))) (eC (.int 1))) (gSubM setLM (eVar 0) (eC (.int 1)))) (sSeq (sIf (tVal (e2 gtM (e2 ixM (eVar 0) (eC (.int 1))) (e1 lenM (e2 ixM (eVar 0) (eC (.int 0)))))) (sSeq (sAsg (e2 modM (e1 toIntM (e2 addM (e2 mulM (e2 ixM (eVar 0) (eC (.int 2))) (eC (.int 48271))) (eC (.int 11)))) (eC (.int 2147483647))) (gSubM setLM (eVar 0) (eC (.int 2)))) (sSeq (sRet (e2 modM (e1 toIntM (e2 fdivM (e2 ixM (eVar 0) (eC (.int 2))) (eC (.int 7)))) (eVar 1))) sNil)) sNil) (sSeq (sAsg (e2 ixM (e2 ixM (eVar 0) (eC (.int 0))) (e2 subM (e2 ixM (eVar 0) (eC (.int 1))) (eC (.int 1)))) (gNm 3)) (sSeq (sAsg (e2 modM (e1 toIntM (e2 addM (e2 addM (e2 mulM (e2 ixM (eVar 0) (eC (.int 2))) (eC (.int 48271))) (eVar 3)) (eC (.int 11)))) (eC (.int 2147483647))) (gSubM setLM (eVar 0) (eC (.int 2)))) (sSeq (sIf (tVal (e2 geM (eVar 3) (e2 powM (eC (.int 10)) (eC (.int 18))))) (sSeq (sAsg (e2 fdivM (eVar 3) (eVar 1)) (gSubM setLM (eVar 0) (eC (.int 3)))) sNil) sNil) (sSeq (sRet (e2 modM (e1 toIntM (eVar 3)) (eVar 1))) sNil)))))))
def m38 (C : Nat → FM) : FM := defM 2 2 (sSeq (sRet (e2 ixM (eVar 1) (eCallD (C 37) (aCons (eVar 0) (aCons (e1 lenM (eVar 1)) aNil)) []))) sNil)
def m39 (C : Nat → FM) : FM := defM 2 4 (sSeq (sIf (tTruth (e1 (isiM [0, 1] [(.ty "tuple"), (.ty "list")]) (eVar 1))) (sSeq (sIf (tOrM (tNotM (tTruth (e1 (isiM [0, 1] [(.ty "tuple"), (.ty "list")]) (eVar 0)))) (tVal (e2 neM (e1 (isiM [0, 1] [(.ty "list")]) (eVar 0)) (e1 (isiM [0, 1] [(.ty "list")]) (eVar 1))))) (sSeq (sRet (eC (.bl false))) sNil) sNil) (sSeq (sIf (tVal (e2 neM (e1 lenM (eVar 0)) (e1 lenM (eVar 1)))) (sSeq (sRet (eC (.bl false))) sNil) sNil) (sSeq (sRet (e2 eqM (eLc (iRng1M (aCons (e1 lenM (eVar 1)) aNil)) (cgNm 2) [2] (tNotM (tTruth (eCallD (C 39) (aCons (e2 ixM (eVar 0) (eVar 2)) (aCons (e2 ixM (eVar 1) (eVar 2)) aNil)) []))) (eVar 2)) (eLst aNil))) sNil))) sNil) (sSeq (sIf (tTruth (e1 (isiM [0, 1] [(.ty "dict")]) (eVar 1))) (sSeq (sIf (tOrM (tNotM (tTruth (e1 (isiM [0, 1] [(.ty "dict")]) (eVar 0)))) (tVal (e2 neM (e1 toLstM (eVar 0)) (e1 toLstM (eVar 1))))) (sSeq (sRet (eC (.bl false))) sNil) sNil) (sSeq (sRet (e2 eqM (eLc (iTupM (eVar 1)) (cgNm 3) [3] (tNotM (tTruth (eCallD (C 39) (aCons (e2 ixM (eVar 0) (eVar 3)) (aCons (e2 ixM (eVar 1) (eVar 3)) aNil)) []))) (eVar 3)) (eLst aNil))) sNil)) sNil) (sSeq (sIf (tOrM (tVal (e2 (isNM true) (eVar 1) (eC .non))) (tTruth (e1 (isiM [0, 1] [(.ty "str")]) (eVar 1)))) (sSeq (sRet (eAnd (e2 eqM (eVar 0) (eVar 1)) (e2 eqM (e1 (isiM [0, 1] [(.ty "str")]) (eVar 0)) (e1 (isiM [0, 1] [(.ty "str")]) (eVar 1))))) sNil) sNil) (sSeq (sRet (eAnd (e1 (isiM [0, 1] [(.ty "int")]) (eVar 0)) (eAnd (e2 eqM (e1 (isiM [0, 1] [(.ty "bool")]) (eVar 0)) (e1 (isiM [0, 1] [(.ty "bool")]) (eVar 1))) (e2 eqM (eVar 0) (eVar 1))))) sNil))))
def m40 (C : Nat → FM) : FM := defM 1 5 (sSeq (sAsg (eLstM aNil) (gNm 1)) (sSeq (sFor (iRng1M (aCons (e2 addM (eC (.int 1)) (eCallD (C 37) (aCons (eVar 0) (aCons (eCallD (C 38) (aCons (eVar 0) (aCons (eLst (aCons (eC (.int 3)) (aCons (eC (.int 6)) aNil))) aNil)) []) aNil)) [])) aNil)) (gNm 2) (sSeq (sPar 3 4 (aCons (e2 addM (eC (.int 1)) (eCallD (C 37) (aCons (eVar 0) (aCons (eCallD (C 38) (aCons (eVar 0) (aCons (eLst (aCons (eC (.int 2)) (aCons (eC (.int 4)) (aCons (eC (.int 12)) aNil)))) aNil)) []) aNil)) [])) (aCons (e2 addM (eC (.int 1)) (eCallD (C 37) (aCons (eVar 0) (aCons (eCallD (C 38) (aCons (eVar 0) (aCons (eLst (aCons (eC (.int 2)) (aCons (eC (.int 4)) (aCons (eC (.int 12)) aNil)))) aNil)) []) aNil)) [])) aNil))) (sSeq (sExpr (eAppend (eVar 1) (eTup (aCons (eVar 3) (aCons (eVar 4) (aCons (eCallD (C 38) (aCons (eVar 0) (aCons (eLst (aCons (eC (.int 1)) (aCons (e2 mulM (eVar 3) (eVar 4)) (aCons (e2 addM (eC (.int 1)) (eCallD (C 37) (aCons (eVar 0) (aCons (eC (.int 9)) aNil)) [])) (aCons (e2 addM (eC (.int 1)) (eCallD (C 37) (aCons (eVar 0) (aCons (eC (.int 1000)) aNil)) [])) aNil))))) aNil)) []) aNil)))))) sNil))) (sSeq (sRet (eTup (aCons (eCallD (C 37) (aCons (eVar 0) (aCons (eC (.int 3)) aNil)) []) (aCons (e1 toTupM (eVar 1)) aNil)))) sNil)))
def m41 (C : Nat → FM) : FM := defM 3 3 (sSeq (sRet (eMax2 (aCons (eC (.int 0)) (aCons (e2 subM (e2 subM (eVar 1) (eVar 2)) (e2 ixM (eVar 0) (eC (.int 0)))) aNil)))) sNil)
def m42 (C : Nat → FM) : FM := defM 6 13 (sSeq (sIf (tOrM (tNotM (tTruth (e1 (isiM [0, 1] [(.ty "tuple")]) (eVar 1)))) (tOrM (tVal (e2 eqM (eVar 1) (eTup aNil))) (tOrM (tVal (e2 ltM (eVar 4) (eC (.int 1)))) (tVal (e2 ltM (eVar 5) (eC (.int 1))))))) (sSeq (sRet (eIf (tAndM (tVal (e2 (isNM true) (eVar 1) (eC .non))) (tOrM (tVal (e2 ltM (eVar 4) (eC (.int 1)))) (tVal (e2 ltM (eVar 5) (eC (.int 1)))))) (eLst aNil) (eC .non))) sNil) sNil) (sSeq (sIf (tVal (e2 eqM (e2 ixM (eVar 1) (eC (.int 0))) (eC (.str "waste")))) (sSeq (sRet (eIf (tVal (e2 eqM (e1 lenM (eVar 1)) (eC (.int 1)))) (eLst aNil) (eC .non))) sNil) sNil) (sSeq (sIf (tVal (e2 eqM (e2 ixM (eVar 1) (eC (.int 0))) (eC (.str "slab")))) (sSeq (sAsg (eAnd (e2 eqM (e1 lenM (eVar 1)) (eC (.int 2))) (eAnd (e1 (isiM [0, 1] [(.ty "int")]) (e2 ixM (eVar 1) (eC (.int 1)))) (eAnd (eNot (e1 (isiM [0, 1] [(.ty "bool")]) (e2 ixM (eVar 1) (eC (.int 1))))) (eChain leM ltM (eC (.int 0)) (e2 ixM (eVar 1) (eC (.int 1))) (e1 lenM (e2 ixM (eVar 0) (eC (.int 1)))))))) (gNm 6)) (sSeq (sRet (eIf (tAndM (tTruth (eVar 6)) (tVal (e2 eqM (eSl (e2 ixM (e2 ixM (eVar 0) (eC (.int 1))) (e2 ixM (eVar 1) (eC (.int 1)))) pNo (pSome (eC (.int 2)))) (eTup (aCons (eVar 4) (aCons (eVar 5) aNil)))))) (eLst (aCons (eTup (aCons (eVar 2) (aCons (eVar 3) (aCons (e2 ixM (eVar 1) (eC (.int 1))) aNil)))) aNil)) (eC .non))) sNil)) sNil) (sSeq (sAsg (eIf (tVal (e2 eqM (e2 ixM (eVar 1) (eC (.int 0))) (eC (.str "across")))) (eVar 4) (eVar 5)) (gNm 7)) (sSeq (sIf (tOrM (tAndM (tVal (e2 neM (e2 ixM (eVar 1) (eC (.int 0))) (eC (.str "across")))) (tVal (e2 neM (e2 ixM (eVar 1) (eC (.int 0))) (eC (.str "down"))))) (tOrM (tVal (e2 neM (e1 lenM (eVar 1)) (eC (.int 4)))) (tOrM (tNotM (tTruth (e1 (isiM [0, 1] [(.ty "int")]) (e2 ixM (eVar 1) (eC (.int 1)))))) (tOrM (tTruth (e1 (isiM [0, 1] [(.ty "bool")]) (e2 ixM (eVar 1) (eC (.int 1))))) (tNotM (tVal (eChain leM ltM (eC (.int 1)) (e2 ixM (eVar 1) (eC (.int 1))) (eVar 7)))))))) (sSeq (sRet (eC .non)) sNil) sNil) (sSeq (sPar3 8 9 10 (aCons (e2 ixM (eVar 1) (eC (.int 1))) (aCons (eCallD (C 41) (aCons (eVar 0) (aCons (eVar 7) (aCons (e2 ixM (eVar 1) (eC (.int 1))) aNil))) []) (aCons (e2 addM (e2 ixM (eVar 1) (eC (.int 1))) (e2 ixM (eVar 0) (eC (.int 0)))) aNil)))) (sSeq (sIf (tVal (e2 eqM (e2 ixM (eVar 1) (eC (.int 0))) (eC (.str "across")))) (sSeq (sPar 11 12 (aCons (eCallD (C 42) (aCons (eVar 0) (aCons (e2 ixM (eVar 1) (eC (.int 2))) (aCons (eVar 2) (aCons (eVar 3) (aCons (eVar 8) (aCons (eVar 5) aNil)))))) []) (aCons (eCallD (C 42) (aCons (eVar 0) (aCons (e2 ixM (eVar 1) (eC (.int 3))) (aCons (e2 addM (eVar 2) (eVar 10)) (aCons (eVar 3) (aCons (eVar 9) (aCons (eVar 5) aNil)))))) []) aNil))) sNil) (sSeq (sPar 11 12 (aCons (eCallD (C 42) (aCons (eVar 0) (aCons (e2 ixM (eVar 1) (eC (.int 2))) (aCons (eVar 2) (aCons (eVar 3) (aCons (eVar 4) (aCons (eVar 8) aNil)))))) []) (aCons (eCallD (C 42) (aCons (eVar 0) (aCons (e2 ixM (eVar 1) (eC (.int 3))) (aCons (eVar 2) (aCons (e2 addM (eVar 3) (eVar 10)) (aCons (eVar 4) (aCons (eVar 9) aNil)))))) []) aNil))) sNil)) (sSeq (sRet (eIf (tOrM (tVal (e2 (isNM true) (eVar 11) (eC .non))) (tVal (e2 (isNM true) (eVar 12) (eC .non)))) (eC .non) (e2 addM (eVar 11) (eVar 12)))) sNil))))))))
def m43 (C : Nat → FM) : FM := defM 2 3 (sSeq (sRet (e1 sumM (eLc (iLstM (eVar 1)) (cgNm 2) [2] tYesM (e2 ixM (e2 ixM (e2 ixM (eVar 0) (eC (.int 1))) (e2 ixM (eVar 2) (eC (.int 2)))) (eC (.int 2)))))) sNil)
def m44 (C : Nat → FM) : FM := defM 1 1 (sSeq (sRet (eIf (tOrM (tVal (e2 (isNM true) (eVar 0) (eC .non))) (tOrM (tVal (e2 eqM (e2 ixM (eVar 0) (eC (.int 0))) (eC (.str "waste")))) (tVal (e2 eqM (e2 ixM (eVar 0) (eC (.int 0))) (eC (.str "slab")))))) (eC (.int 0)) (e2 addM (e2 addM (eC (.int 1)) (eCallD (C 44) (aCons (e2 ixM (eVar 0) (eC (.int 2))) aNil) [])) (eCallD (C 44) (aCons (e2 ixM (eVar 0) (eC (.int 3))) aNil) [])))) sNil)
def m45 (C : Nat → FM) : FM := defM 5 7 (sSeq (sIf (tOrM (tVal (e2 ltM (eVar 2) (eC (.int 1)))) (tVal (e2 ltM (eVar 3) (eC (.int 1))))) (sSeq (sRet (eC .non)) sNil) sNil) (sSeq (sAsg (eLc (iRng1M (aCons (e1 lenM (e2 ixM (eVar 1) (eC (.int 1)))) aNil)) (cgNm 6) [6] (tVal (e2 eqM (eSl (e2 ixM (e2 ixM (eVar 1) (eC (.int 1))) (eVar 6)) pNo (pSome (eC (.int 2)))) (eTup (aCons (eVar 2) (aCons (eVar 3) aNil))))) (eTup (aCons (eC (.str "slab")) (aCons (eVar 6) aNil)))) (gNm 5)) (sSeq (sIf (tAndM (tVal (e2 neM (eVar 5) (eLst aNil))) (tVal (e2 gtM (eCallD (C 37) (aCons (eVar 0) (aCons (eC (.int 3)) aNil)) []) (eC (.int 0))))) (sSeq (sRet (eCallD (C 38) (aCons (eVar 0) (aCons (eVar 5) aNil)) [])) sNil) sNil) (sSeq (sIf (tOrM (tVal (e2 eqM (eVar 4) (eC (.int 0)))) (tOrM (tAndM (tVal (e2 eqM (eVar 2) (eC (.int 1)))) (tVal (e2 eqM (eVar 3) (eC (.int 1))))) (tVal (e2 eqM (eCallD (C 37) (aCons (eVar 0) (aCons (eC (.int 5)) aNil)) []) (eC (.int 0)))))) (sSeq (sRet (eTup (aCons (eC (.str "waste")) aNil))) sNil) sNil) (sSeq (sIf (tOrM (tVal (e2 eqM (eVar 3) (eC (.int 1)))) (tAndM (tVal (e2 gtM (eVar 2) (eC (.int 1)))) (tVal (e2 eqM (eCallD (C 37) (aCons (eVar 0) (aCons (eC (.int 2)) aNil)) []) (eC (.int 0)))))) (sSeq (sAsg (e2 addM (eC (.int 1)) (eCallD (C 37) (aCons (eVar 0) (aCons (e2 subM (eVar 2) (eC (.int 1))) aNil)) [])) (gNm 6)) (sSeq (sRet (eTup (aCons (eC (.str "across")) (aCons (eVar 6) (aCons (eCallD (C 45) (aCons (eVar 0) (aCons (eVar 1) (aCons (eVar 6) (aCons (eVar 3) (aCons (e2 subM (eVar 4) (eC (.int 1))) aNil))))) []) (aCons (eCallD (C 45) (aCons (eVar 0) (aCons (eVar 1) (aCons (eCallD (C 41) (aCons (eVar 1) (aCons (eVar 2) (aCons (eVar 6) aNil))) []) (aCons (eVar 3) (aCons (e2 subM (eVar 4) (eC (.int 1))) aNil))))) []) aNil)))))) sNil)) sNil) (sSeq (sAsg (e2 addM (eC (.int 1)) (eCallD (C 37) (aCons (eVar 0) (aCons (e2 subM (eVar 3) (eC (.int 1))) aNil)) [])) (gNm 6)) (sSeq (sRet (eTup (aCons (eC (.str "down")) (aCons (eVar 6) (aCons (eCallD (C 45) (aCons (eVar 0) (aCons (eVar 1) (aCons (eVar 2) (aCons (eVar 6) (aCons (e2 subM (eVar 4) (eC (.int 1))) aNil))))) []) (aCons (eCallD (C 45) (aCons (eVar 0) (aCons (eVar 1) (aCons (eVar 2) (aCons (eCallD (C 41) (aCons (eVar 1) (aCons (eVar 3) (aCons (eVar 6) aNil))) []) (aCons (e2 subM (eVar 4) (eC (.int 1))) aNil))))) []) aNil)))))) sNil)))))))
def m46 (C : Nat → FM) : FM := defM 4 10 (sSeq (sIf (tOrM (tVal (e2 ltM (eVar 2) (eC (.int 1)))) (tVal (e2 ltM (eVar 3) (eC (.int 1))))) (sSeq (sRet (eTup (aCons (eTup (aCons (eC (.int 0)) (aCons (eC (.int 0)) aNil))) (aCons (eTup (aCons (eC (.int 0)) (aCons (eC (.int 0)) aNil))) aNil)))) sNil) sNil) (sSeq (sIf (tVal (inTM false (aCons (eVar 2) (aCons (eVar 3) aNil)) (eVar 1))) (sSeq (sAsg (eLstM (aCons (eTup (aCons (eTup (aCons (eC (.int 0)) (aCons (eC (.int 0)) aNil))) (aCons (eTup (aCons (eC (.int 0)) (aCons (eC (.int 0)) aNil))) aNil))) aNil)) (gNm 4)) (sSeq (sFor (iTupM (e2 ixM (eVar 0) (eC (.int 1)))) (gTp 3 (gsCons (gNm 5) (gsCons (gNm 6) (gsCons (gNm 7) gsNil)))) (sSeq (sIf (tVal (e2 eqM (eTup (aCons (eVar 5) (aCons (eVar 6) aNil))) (eTup (aCons (eVar 2) (aCons (eVar 3) aNil))))) (sSeq (sExpr (eAppend (eVar 4) (eTup (aCons (eTup (aCons (e2 subM (eC (.int 0)) (eVar 7)) (aCons (eC (.int 0)) aNil))) (aCons (eTup (aCons (e2 subM (eC (.int 0)) (eVar 7)) (aCons (e2 subM (eC (.int 0)) (e2 mulM (eVar 5) (eVar 6))) aNil))) aNil))))) sNil) sNil) sNil)) (sSeq (sFor (iRng2M (aCons (eC (.int 1)) (aCons (eVar 2) aNil))) (gNm 8) (sSeq (sExpr (eAppend (eVar 4) (eCallD (C 47) (aCons (eCallD (C 46) (aCons (eVar 0) (aCons (eVar 1) (aCons (eVar 8) (aCons (eVar 3) aNil)))) []) (aCons (eCallD (C 46) (aCons (eVar 0) (aCons (eVar 1) (aCons (eCallD (C 41) (aCons (eVar 0) (aCons (eVar 2) (aCons (eVar 8) aNil))) []) (aCons (eVar 3) aNil)))) []) aNil)) []))) sNil)) (sSeq (sFor (iRng2M (aCons (eC (.int 1)) (aCons (eVar 3) aNil))) (gNm 8) (sSeq (sExpr (eAppend (eVar 4) (eCallD (C 47) (aCons (eCallD (C 46) (aCons (eVar 0) (aCons (eVar 1) (aCons (eVar 2) (aCons (eVar 8) aNil)))) []) (aCons (eCallD (C 46) (aCons (eVar 0) (aCons (eVar 1) (aCons (eVar 2) (aCons (eCallD (C 41) (aCons (eVar 0) (aCons (eVar 3) (aCons (eVar 8) aNil))) []) aNil)))) []) aNil)) []))) sNil)) (sSeq (setTM (eVar 1) (aCons (eVar 2) (aCons (eVar 3) aNil)) (eTup (aCons (e1 minM (eLc (iLsSM (eVar 4)) (cgNm 9) [9] tYesM (e2 ixM (eVar 9) (eC (.int 0))))) (aCons (e1 minM (eLc (iLsSM (eVar 4)) (cgNm 9) [9] tYesM (e2 ixM (eVar 9) (eC (.int 1))))) aNil)))) sNil))))) sNil) (sSeq (sRet (ixTM (eVar 1) (aCons (eVar 2) (aCons (eVar 3) aNil)))) sNil)))
def m47 (C : Nat → FM) : FM := defM 2 2 (sSeq (sRet (eTup (aCons (eTup (aCons (e2 addM (e2 ixM (e2 ixM (eVar 0) (eC (.int 0))) (eC (.int 0))) (e2 ixM (e2 ixM (eVar 1) (eC (.int 0))) (eC (.int 0)))) (aCons (e2 addM (e2 addM (e2 ixM (e2 ixM (eVar 0) (eC (.int 0))) (eC (.int 1))) (e2 ixM (e2 ixM (eVar 1) (eC (.int 0))) (eC (.int 1)))) (eC (.int 1))) aNil))) (aCons (eTup (aCons (e2 addM (e2 ixM (e2 ixM (eVar 0) (eC (.int 1))) (eC (.int 0))) (e2 ixM (e2 ixM (eVar 1) (eC (.int 1))) (eC (.int 0)))) (aCons (e2 addM (e2 ixM (e2 ixM (eVar 0) (eC (.int 1))) (eC (.int 1))) (e2 ixM (e2 ixM (eVar 1) (eC (.int 1))) (eC (.int 1)))) aNil))) aNil)))) sNil)
def m48 (C : Nat → FM) : FM := defM 3 3 (sSeq (sRet (eIf (tOrM (tVal (e2 ltM (eVar 1) (eC (.int 1)))) (tVal (e2 ltM (eVar 2) (eC (.int 1))))) (eC (.int 0)) (e2 ixM (e2 ixM (eVar 0) (e2 subM (eVar 2) (eC (.int 1)))) (e2 subM (eVar 1) (eC (.int 1)))))) sNil)
def m49 (C : Nat → FM) : FM := defM 4 11 (sSeq (sFor (iTupM (e2 ixM (eVar 0) (eC (.int 1)))) (gTp 3 (gsCons (gNm 4) (gsCons (gNm 5) (gsCons (gNm 6) gsNil)))) (sSeq (sIf (tAndM (tVal (e2 leM (eVar 4) (eVar 2))) (tAndM (tVal (e2 leM (eVar 5) (eVar 3))) (tVal (e2 ltM (eCallD (C 48) (aCons (eVar 1) (aCons (eVar 4) (aCons (eVar 5) aNil))) []) (eVar 6))))) (sSeq (sRet (eC (.bl false))) sNil) sNil) sNil)) (sSeq (sFor (iRng2M (aCons (eC (.int 1)) (aCons (e2 addM (eVar 3) (eC (.int 1))) aNil))) (gNm 7) (sSeq (sFor (iRng2M (aCons (eC (.int 1)) (aCons (e2 addM (eVar 2) (eC (.int 1))) aNil))) (gNm 8) (sSeq (sAsg (eLc (iRng2M (aCons (eC (.int 1)) (aCons (eVar 8) aNil))) (cgNm 10) [10] tYesM (e2 addM (eCallD (C 48) (aCons (eVar 1) (aCons (eVar 10) (aCons (eVar 7) aNil))) []) (eCallD (C 48) (aCons (eVar 1) (aCons (eCallD (C 41) (aCons (eVar 0) (aCons (eVar 8) (aCons (eVar 10) aNil))) []) (aCons (eVar 7) aNil))) []))) (gNm 9)) (sSeq (sAsg (e2 addM (eVar 9) (eLc (iRng2M (aCons (eC (.int 1)) (aCons (eVar 7) aNil))) (cgNm 10) [10] tYesM (e2 addM (eCallD (C 48) (aCons (eVar 1) (aCons (eVar 8) (aCons (eVar 10) aNil))) []) (eCallD (C 48) (aCons (eVar 1) (aCons (eVar 8) (aCons (eCallD (C 41) (aCons (eVar 0) (aCons (eVar 7) (aCons (eVar 10) aNil))) []) aNil))) [])))) (gNm 9)) (sSeq (sIf (tVal (e2 gtM (e1 maxM (e2 addM (eVar 9) (eLst (aCons (eC (.int 0)) aNil)))) (eCallD (C 48) (aCons (eVar 1) (aCons (eVar 8) (aCons (eVar 7) aNil))) []))) (sSeq (sRet (eC (.bl false))) sNil) sNil) sNil)))) sNil)) (sSeq (sRet (eC (.bl true))) sNil)))
def m50 (C : Nat → FM) : FM := defM 1 2 sNo
def m51 (C : Nat → FM) : FM := defM 1 26 (sSeq (sAsg (eLstM (aCons (eVar 0) (aCons (eC (.int 0)) (aCons (eC (.int 100)) (aCons (eC (.int 0)) aNil))))) (gNm 1)) (sSeq (sPar 2 3 (aCons (eCallD (C 40) (aCons (eVar 1) aNil) []) (aCons eDctM aNil))) (sSeq (sPar 4 5 (aCons (eFrz (mkM 0 (C 6) (aCons (e2 ixM (eVar 2) (eC (.int 0))) (aCons (e2 ixM (eVar 2) (eC (.int 1))) aNil)) [])) (aCons (eIf (tVal (e2 eqM (eCallD (C 37) (aCons (eVar 1) (aCons (eC (.int 20)) aNil)) []) (eC (.int 0)))) (eC (.int 12)) (eC (.int 7))) aNil))) (sSeq (sPar 6 7 (aCons (e2 addM (eC (.int 1)) (eCallD (C 37) (aCons (eVar 1) (aCons (eVar 5) aNil)) [])) (aCons (e2 addM (eC (.int 1)) (eCallD (C 37) (aCons (eVar 1) (aCons (eVar 5) aNil)) [])) aNil))) (sSeq (sAsg (eCallD (C 46) (aCons (eVar 2) (aCons (eVar 3) (aCons (eVar 6) (aCons (eVar 7) aNil)))) []) (gNm 8)) (sSeq (sAsg (eCallD (C 27) (aCons (eVar 4) (aCons (eVar 6) (aCons (eVar 7) aNil))) []) (gNm 9)) (sSeq (sIf (tOrM (tNotM (tTruth (eCallD (C 39) (aCons (eCallD (C 26) (aCons (eVar 4) (aCons (eVar 6) (aCons (eVar 7) aNil))) []) (aCons (e2 subM (eC (.int 0)) (e2 ixM (e2 ixM (eVar 8) (eC (.int 0))) (eC (.int 0)))) aNil)) []))) (tVal (e2 (isNM false) (eCallD (C 15) (aCons (eVar 4) (aCons (eVar 6) (aCons (eVar 7) (aCons (eVar 9) aNil)))) []) (eC (.bl true))))) (sSeq (sRet (eC (.bl false))) sNil) sNil) (sSeq (sAsg (eCallD (C 42) (aCons (eVar 2) (aCons (eVar 9) (aCons (eC (.int 0)) (aCons (eC (.int 0)) (aCons (eVar 6) (aCons (eVar 7) aNil)))))) []) (gNm 10)) (sSeq (sIf (tOrM (tVal (e2 (isNM true) (eVar 10) (eC .non))) (tOrM (tVal (e2 neM (eCallD (C 43) (aCons (eVar 2) (aCons (eVar 10) aNil)) []) (e2 subM (eC (.int 0)) (e2 ixM (e2 ixM (eVar 8) (eC (.int 0))) (eC (.int 0)))))) (tOrM (tVal (e2 neM (eCallD (C 44) (aCons (eVar 9) aNil) []) (e2 ixM (e2 ixM (eVar 8) (eC (.int 0))) (eC (.int 1))))) (tVal (e2 neM (eCallD (C 19) (aCons (eVar 9) aNil) []) (e2 ixM (e2 ixM (eVar 8) (eC (.int 0))) (eC (.int 1)))))))) (sSeq (sRet (eC (.bl false))) sNil) sNil) (sSeq (sIf (tOrM (tNotM (tTruth (eCallD (C 39) (aCons (eCallD (C 28) (aCons (eVar 4) (aCons (eVar 6) (aCons (eVar 7) aNil))) []) (aCons (e2 ixM (e2 ixM (eVar 8) (eC (.int 0))) (eC (.int 1))) aNil)) []))) (tNotM (tTruth (eCallD (C 39) (aCons (eCallD (C 29) (aCons (eVar 4) (aCons (eVar 6) (aCons (eVar 7) aNil))) []) (aCons (e2 addM (e2 mulM (eVar 6) (eVar 7)) (e2 ixM (e2 ixM (eVar 8) (eC (.int 1))) (eC (.int 1)))) aNil)) [])))) (sSeq (sRet (eC (.bl false))) sNil) sNil) (sSeq (sAsg (eCallD (C 30) (aCons (eVar 4) (aCons (eVar 6) (aCons (eVar 7) aNil))) []) (gNm 11)) (sSeq (sAsg (e1 toTupM (eLc (iRng2M (aCons (eC (.int 1)) (aCons (e2 addM (eVar 7) (eC (.int 1))) aNil))) (cgNm 14) [14] tYesM (e1 toTupM (eLc (iRng2M (aCons (eC (.int 1)) (aCons (e2 addM (eVar 6) (eC (.int 1))) aNil))) (cgNm 13) [13] tYesM (e2 subM (eC (.int 0)) (e2 ixM (e2 ixM (eCallD (C 46) (aCons (eVar 2) (aCons (eVar 3) (aCons (eVar 13) (aCons (eVar 14) aNil)))) []) (eC (.int 0))) (eC (.int 0)))))))) (gNm 12)) (sSeq (sIf (tOrM (tNotM (tTruth (eCallD (C 39) (aCons (eVar 11) (aCons (eVar 12) aNil)) []))) (tOrM (tVal (e2 (isNM false) (eCallD (C 35) (aCons (eVar 4) (aCons (eVar 6) (aCons (eVar 7) (aCons (eVar 11) aNil)))) []) (eC (.bl true)))) (tNotM (tTruth (eCallD (C 49) (aCons (eVar 2) (aCons (eVar 11) (aCons (eVar 6) (aCons (eVar 7) aNil)))) []))))) (sSeq (sRet (eC (.bl false))) sNil) sNil) (sSeq (sIf (tVal (e2 (isNM false) (eCallD (C 36) (aCons (eVar 4) (aCons (eVar 6) (aCons (eVar 7) (aCons (eVar 9) (aCons (eVar 11) aNil))))) []) (eC (.bl true)))) (sSeq (sRet (eC (.bl false))) sNil) sNil) (sSeq (sFor (iRng1M (aCons (eC (.int 4)) aNil)) (gNm 15) (sSeq (sPar 16 17 (aCons (eCallD (C 37) (aCons (eVar 1) (aCons (eVar 6) aNil)) []) (aCons (eCallD (C 37) (aCons (eVar 1) (aCons (eVar 7) aNil)) []) aNil))) (sSeq (sAsg (eMax2 (aCons (eC (.int 0)) (aCons (e2 addM (e2 ixM (e2 ixM (eVar 12) (eVar 17)) (eVar 16)) (eCallD (C 38) (aCons (eVar 1) (aCons (eLst (aCons (e1 negM (eC (.int 1))) (aCons (eC (.int 1)) (aCons (eC (.int 5)) aNil)))) aNil)) [])) aNil))) (gNm 18)) (sSeq (sAsg (e2 addM (e2 addM (eSl (eVar 12) pNo (pSome (eVar 17))) (eTup (aCons (e2 addM (e2 addM (eSl (e2 ixM (eVar 12) (eVar 17)) pNo (pSome (eVar 16))) (eTup (aCons (eVar 18) aNil))) (eSl (e2 ixM (eVar 12) (eVar 17)) (pSome (e2 addM (eVar 16) (eC (.int 1)))) pNo)) aNil))) (eSl (eVar 12) (pSome (e2 addM (eVar 17) (eC (.int 1)))) pNo)) (gNm 19)) (sSeq (sAsg (eCallD (C 49) (aCons (eVar 2) (aCons (eVar 19) (aCons (eVar 6) (aCons (eVar 7) aNil)))) []) (gNm 20)) (sSeq (sIf (tOrM (tNotM (tTruth (eCallD (C 39) (aCons (eCallD (C 35) (aCons (eVar 4) (aCons (eVar 6) (aCons (eVar 7) (aCons (eVar 19) aNil)))) []) (aCons (eVar 20) aNil)) []))) (tAndM (tTruth (eVar 20)) (tVal (e2 ltM (eVar 18) (e2 ixM (e2 ixM (eVar 12) (eVar 17)) (eVar 16)))))) (sSeq (sRet (eC (.bl false))) sNil) sNil) (sSeq (sAsg (eCallD (C 45) (aCons (eVar 1) (aCons (eVar 2) (aCons (eVar 6) (aCons (eVar 7) (aCons (eC (.int 4)) aNil))))) []) (gNm 21)) (sSeq (sIf (tOrM (tVal (e2 gtM (eCallD (C 18) (aCons (eVar 4) (aCons (eVar 21) aNil)) []) (e2 subM (eC (.int 0)) (e2 ixM (e2 ixM (eVar 8) (eC (.int 0))) (eC (.int 0)))))) (tAndM (tTruth (eVar 20)) (tVal (e2 neM (eCallD (C 36) (aCons (eVar 4) (aCons (eVar 6) (aCons (eVar 7) (aCons (eVar 21) (aCons (eVar 19) aNil))))) []) (e2 eqM (eCallD (C 18) (aCons (eVar 4) (aCons (eVar 21) aNil)) []) (eCallD (C 48) (aCons (eVar 19) (aCons (eVar 6) (aCons (eVar 7) aNil))) [])))))) (sSeq (sRet (eC (.bl false))) sNil) sNil) sNil)))))))) (sSeq (sAsg (eCallD (C 38) (aCons (eVar 1) (aCons (eLst (aCons (eC .non) (aCons (e1 toLstM (eVar 12)) (aCons (eSl (eVar 12) (pSome (eC (.int 1))) pNo) (aCons (e2 addM (eVar 12) (eSl (eVar 12) pNo (pSome (eC (.int 1))))) (aCons (e1 toTupM (eLc (iTupM (eVar 12)) (cgNm 23) [23] tYesM (eSl (eVar 23) (pSome (eC (.int 1))) pNo))) (aCons (e2 repU (eTup (aCons (e2 repU (eTup (aCons (eC .non) aNil)) (eVar 6)) aNil)) (eVar 7)) (aCons (e2 repU (eTup (aCons (e2 repU (eTup (aCons (e1 negM (eC (.int 1))) aNil)) (eVar 6)) aNil)) (eVar 7)) (aCons (eC (.int 5)) aNil))))))))) aNil)) []) (gNm 22)) (sSeq (sIf (tOrM (tVal (e2 (isNM false) (eCallD (C 35) (aCons (eVar 4) (aCons (eVar 6) (aCons (eVar 7) (aCons (eVar 22) aNil)))) []) (eC (.bl false)))) (tVal (e2 neM (e1 reprM (eRefused refL (eCallD (C 36) (aCons (eVar 4) (aCons (eVar 6) (aCons (eVar 7) (aCons (eVar 9) (aCons (eVar 22) aNil))))) []))) (e1 reprM (eTup (aCons (eC (.str "table")) (aCons (eVar 22) aNil))))))) (sSeq (sRet (eC (.bl false))) sNil) sNil) (sSeq (sIf (tVal (e2 neM (eRefused refL (eCallD (C 36) (aCons (eVar 4) (aCons (eVar 6) (aCons (eVar 7) (aCons (eTup (aCons (eC (.str "gone")) aNil)) (aCons (eVar 22) aNil))))) [])) (eTup (aCons (eC (.str "tree")) (aCons (eTup (aCons (eC (.str "gone")) aNil)) aNil))))) (sSeq (sRet (eC (.bl false))) sNil) sNil) (sSeq (sAsg (eCallD (C 38) (aCons (eVar 1) (aCons (eLst (aCons (eC (.int 0)) (aCons (eC (.int 13)) (aCons (eC .non) (aCons (eC (.bl true)) aNil))))) aNil)) []) (gNm 24)) (sSeq (sFor (iLstM (eLst (aCons (eC (.fn 26)) (aCons (eC (.fn 27)) (aCons (eC (.fn 28)) (aCons (eC (.fn 29)) (aCons (eC (.fn 30)) aNil))))))) (gNm 25) (sSeq (sIf (tVal (e2 neM (e1 reprM (eRefused refL (eCallV 25 [26, 27, 28, 29, 30] C (aCons (eVar 4) (aCons (eC (.int 1)) (aCons (eVar 24) aNil)))))) (e1 reprM (eTup (aCons (eC (.str "size")) (aCons (eVar 24) aNil)))))) (sSeq (sRet (eC (.bl false))) sNil) sNil) sNil)) (sSeq (sRet (eC (.bl true))) sNil)))))))))))))))))))))
def callF : Nat → Nat → FM
  | 0, _ => fun _ _ => .stuck
  | n + 1, i => match i with
    | 0 => m0 (callF n)
    | 1 => m1 (callF n)
    | 2 => m2 (callF n)
    | 3 => m3 (callF n)
    | 4 => m4 (callF n)
    | 5 => m5 (callF n)
    | 6 => m6 (callF n)
    | 7 => m7 (callF n)
    | 8 => m8 (callF n)
    | 9 => m9 (callF n)
    | 10 => m10 (callF n)
    | 11 => m11 (callF n)
    | 12 => m12 (callF n)
    | 13 => m13 (callF n)
    | 14 => m14 (callF n)
    | 15 => m15 (callF n)
    | 16 => m16 (callF n)
    | 17 => m17 (callF n)
    | 18 => m18 (callF n)
    | 19 => m19 (callF n)
    | 20 => m20 (callF n)
    | 21 => m21 (callF n)
    | 22 => m22 (callF n)
    | 23 => m23 (callF n)
    | 24 => m24 (callF n)
    | 25 => m25 (callF n)
    | 26 => m26 (callF n)
    | 27 => m27 (callF n)
    | 28 => m28 (callF n)
    | 29 => m29 (callF n)
    | 30 => m30 (callF n)
    | 31 => m31 (callF n)
    | 32 => m32 (callF n)
    | 33 => m33 (callF n)
    | 34 => m34 (callF n)
    | 35 => m35 (callF n)
    | 36 => m36 (callF n)
    | 37 => m37 (callF n)
    | 38 => m38 (callF n)
    | 39 => m39 (callF n)
    | 40 => m40 (callF n)
    | 41 => m41 (callF n)
    | 42 => m42 (callF n)
    | 43 => m43 (callF n)
    | 44 => m44 (callF n)
    | 45 => m45 (callF n)
    | 46 => m46 (callF n)
    | 47 => m47 (callF n)
    | 48 => m48 (callF n)
    | 49 => m49 (callF n)
    | 50 => m50 (callF n)
    | _ => fun _ _ => .stuck
theorem cf0 (n : Nat) : callF (n + 1) 0 = m0 (callF n) := rfl
theorem cf1 (n : Nat) : callF (n + 1) 1 = m1 (callF n) := rfl
theorem cf2 (n : Nat) : callF (n + 1) 2 = m2 (callF n) := rfl
theorem cf3 (n : Nat) : callF (n + 1) 3 = m3 (callF n) := rfl
theorem cf4 (n : Nat) : callF (n + 1) 4 = m4 (callF n) := rfl
theorem cf5 (n : Nat) : callF (n + 1) 5 = m5 (callF n) := rfl
theorem cf6 (n : Nat) : callF (n + 1) 6 = m6 (callF n) := rfl
theorem cf7 (n : Nat) : callF (n + 1) 7 = m7 (callF n) := rfl
theorem cf8 (n : Nat) : callF (n + 1) 8 = m8 (callF n) := rfl
theorem cf9 (n : Nat) : callF (n + 1) 9 = m9 (callF n) := rfl
theorem cf10 (n : Nat) : callF (n + 1) 10 = m10 (callF n) := rfl
theorem cf11 (n : Nat) : callF (n + 1) 11 = m11 (callF n) := rfl
theorem cf12 (n : Nat) : callF (n + 1) 12 = m12 (callF n) := rfl
theorem cf13 (n : Nat) : callF (n + 1) 13 = m13 (callF n) := rfl
theorem cf14 (n : Nat) : callF (n + 1) 14 = m14 (callF n) := rfl
theorem cf15 (n : Nat) : callF (n + 1) 15 = m15 (callF n) := rfl
theorem cf16 (n : Nat) : callF (n + 1) 16 = m16 (callF n) := rfl
theorem cf17 (n : Nat) : callF (n + 1) 17 = m17 (callF n) := rfl
theorem cf18 (n : Nat) : callF (n + 1) 18 = m18 (callF n) := rfl
theorem cf19 (n : Nat) : callF (n + 1) 19 = m19 (callF n) := rfl
theorem cf20 (n : Nat) : callF (n + 1) 20 = m20 (callF n) := rfl
theorem cf21 (n : Nat) : callF (n + 1) 21 = m21 (callF n) := rfl
theorem cf22 (n : Nat) : callF (n + 1) 22 = m22 (callF n) := rfl
theorem cf23 (n : Nat) : callF (n + 1) 23 = m23 (callF n) := rfl
theorem cf24 (n : Nat) : callF (n + 1) 24 = m24 (callF n) := rfl
theorem cf25 (n : Nat) : callF (n + 1) 25 = m25 (callF n) := rfl
theorem cf26 (n : Nat) : callF (n + 1) 26 = m26 (callF n) := rfl
theorem cf27 (n : Nat) : callF (n + 1) 27 = m27 (callF n) := rfl
theorem cf28 (n : Nat) : callF (n + 1) 28 = m28 (callF n) := rfl
theorem cf29 (n : Nat) : callF (n + 1) 29 = m29 (callF n) := rfl
theorem cf30 (n : Nat) : callF (n + 1) 30 = m30 (callF n) := rfl
theorem cf31 (n : Nat) : callF (n + 1) 31 = m31 (callF n) := rfl
theorem cf32 (n : Nat) : callF (n + 1) 32 = m32 (callF n) := rfl
theorem cf33 (n : Nat) : callF (n + 1) 33 = m33 (callF n) := rfl
theorem cf34 (n : Nat) : callF (n + 1) 34 = m34 (callF n) := rfl
theorem cf35 (n : Nat) : callF (n + 1) 35 = m35 (callF n) := rfl
theorem cf36 (n : Nat) : callF (n + 1) 36 = m36 (callF n) := rfl
theorem cf37 (n : Nat) : callF (n + 1) 37 = m37 (callF n) := rfl
theorem cf38 (n : Nat) : callF (n + 1) 38 = m38 (callF n) := rfl
theorem cf39 (n : Nat) : callF (n + 1) 39 = m39 (callF n) := rfl
theorem cf40 (n : Nat) : callF (n + 1) 40 = m40 (callF n) := rfl
theorem cf41 (n : Nat) : callF (n + 1) 41 = m41 (callF n) := rfl
theorem cf42 (n : Nat) : callF (n + 1) 42 = m42 (callF n) := rfl
theorem cf43 (n : Nat) : callF (n + 1) 43 = m43 (callF n) := rfl
theorem cf44 (n : Nat) : callF (n + 1) 44 = m44 (callF n) := rfl
theorem cf45 (n : Nat) : callF (n + 1) 45 = m45 (callF n) := rfl
theorem cf46 (n : Nat) : callF (n + 1) 46 = m46 (callF n) := rfl
theorem cf47 (n : Nat) : callF (n + 1) 47 = m47 (callF n) := rfl
theorem cf48 (n : Nat) : callF (n + 1) 48 = m48 (callF n) := rfl
theorem cf49 (n : Nat) : callF (n + 1) 49 = m49 (callF n) := rfl
theorem cf50 (n : Nat) : callF (n + 1) 50 = m50 (callF n) := rfl
end K00
namespace K00
open PySem Vs
def dat : PV → Bool
  | .non => true | .bl _ => true | .int _ => true | .str _ => true | .tup _ => true | .lst _ => true
  | _ => false
def isInt : PV → Bool
  | .int _ => true
  | _ => false
def within (v : PV) (a b : Int) : Bool := match v with
  | .int x => decide (a ≤ x) && decide (x ≤ b)
  | _ => false
theorem e0 {n : Nat} {v : PV} (h : dat v = true) (st : PSt) : callF (n + 1) 0 [.p v] st = .ok (.p (.bl (isInt v))) st := by
  rw [cf0]
  cases v <;> first | exact defM_ret rfl rfl | cases h
theorem e1' {n : Nat} {v : PV} (h : dat v = true) (a b : Int) (st : PSt) : callF (n + 2) 1 [.p v, .p (.int a), .p (.int b)] st = .ok (.p (.bl (within v a b))) st := by
  rw [cf1]
  refine defM_ret rfl ?_
  have e := e0 (n := n) h st
  simp only [sSeq, sNil, sExpr, sRet, sRetN, sIf, sAsg, sPar, sPar3, sRaise, gNm, gsNil, gsCons, gTp, gSubM, eVar, eC, e1, e2, aNil, aCons, eCallD, eTup, eLst, eLstM, newLst, eAnd, eOr, eNot, eIf, eChain, tVal, tTruth, tNotM, tAndM, tOrM, asB, truthM, eFrz, frz, pures, PM.guard, PM.stuck, le_ii, gt_ii, ge_ii, lt_ii, sub_ii, add_ii, toInt_i, retB_ok, pm_bind, pm_pure, ob_ok, ob_err, ts_ok, ts_err, then_nx, then_ret, then_err, then_ct, List.map_cons, List.map_nil, List.append_nil, List.nil_append, List.cons_append, List.length_cons, List.length_nil, List.replicate, Nat.sub_self, Nat.zero_add, List.getElem?_cons_zero, List.getElem?_cons_succ, List.set_cons_zero, List.set_cons_succ, if_true, if_false, Bool.false_eq_true, Bool.not_true, Bool.not_false, ite_true, ite_false, eq_self, reduceIte, Bool.true_eq_false, reduceCtorEq, e]
  cases v with
  | int x =>
    simp only [isInt, within]
    by_cases h1 : a ≤ x <;> by_cases h2 : x ≤ b <;> simp only [sSeq, sNil, sExpr, sRet, sRetN, sIf, sAsg, sPar, sPar3, sRaise, gNm, gsNil, gsCons, gTp, gSubM, eVar, eC, e1, e2, aNil, aCons, eCallD, eTup, eLst, eLstM, newLst, eAnd, eOr, eNot, eIf, eChain, tVal, tTruth, tNotM, tAndM, tOrM, asB, truthM, eFrz, frz, pures, PM.guard, PM.stuck, le_ii, gt_ii, ge_ii, lt_ii, sub_ii, add_ii, toInt_i, retB_ok, pm_bind, pm_pure, ob_ok, ob_err, ts_ok, ts_err, then_nx, then_ret, then_err, then_ct, List.map_cons, List.map_nil, List.append_nil, List.nil_append, List.cons_append, List.length_cons, List.length_nil, List.replicate, Nat.sub_self, Nat.zero_add, List.getElem?_cons_zero, List.getElem?_cons_succ, List.set_cons_zero, List.set_cons_succ, if_true, if_false, Bool.false_eq_true, Bool.not_true, Bool.not_false, ite_true, ite_false, eq_self, reduceIte, Bool.true_eq_false, reduceCtorEq, h1, h2, decide_true, decide_false, Bool.and_true, Bool.and_false, Bool.true_and]
  | _ => simp only [sSeq, sNil, sExpr, sRet, sRetN, sIf, sAsg, sPar, sPar3, sRaise, gNm, gsNil, gsCons, gTp, gSubM, eVar, eC, e1, e2, aNil, aCons, eCallD, eTup, eLst, eLstM, newLst, eAnd, eOr, eNot, eIf, eChain, tVal, tTruth, tNotM, tAndM, tOrM, asB, truthM, eFrz, frz, pures, PM.guard, PM.stuck, le_ii, gt_ii, ge_ii, lt_ii, sub_ii, add_ii, toInt_i, retB_ok, pm_bind, pm_pure, ob_ok, ob_err, ts_ok, ts_err, then_nx, then_ret, then_err, then_ct, List.map_cons, List.map_nil, List.append_nil, List.nil_append, List.cons_append, List.length_cons, List.length_nil, List.replicate, Nat.sub_self, Nat.zero_add, List.getElem?_cons_zero, List.getElem?_cons_succ, List.set_cons_zero, List.set_cons_succ, if_true, if_false, Bool.false_eq_true, Bool.not_true, Bool.not_false, ite_true, ite_false, eq_self, reduceIte, Bool.true_eq_false, reduceCtorEq, isInt, within]
theorem eq_int (a b : Int) (st : PSt) : eqM (.p (.int a)) (.p (.int b)) st = .ok (.p (.bl (a == b))) st := rfl
theorem ne_int (a b : Int) (st : PSt) : neM (.p (.int a)) (.p (.int b)) st = .ok (.p (.bl (!(a == b)))) st := rfl
theorem eq_bl (a b : Bool) (st : PSt) : eqM (.p (.bl a)) (.p (.bl b)) st = .ok (.p (.bl (a == b))) st := rfl
theorem ne_bl (a b : Bool) (st : PSt) : neM (.p (.bl a)) (.p (.bl b)) st = .ok (.p (.bl (!(a == b)))) st := rfl
theorem bools_bl : ∀ (bs : List Bool) (st : PSt), bools (bs.map .bl) st = .ok bs st
  | [], _ => rfl
  | b :: bs, st => by
    show (bools (bs.map .bl) st).bind _ = _
    rw [bools_bl bs st]; rfl
theorem all_bl (bs : List Bool) (st : PSt) : allM (.p (.lst (bs.map .bl))) st = .ok (.p (.bl (bs.all id))) st := by
  show (bools (bs.map .bl) st).bind _ = _
  rw [bools_bl bs st]; rfl
theorem any_bl (bs : List Bool) (st : PSt) : anyM (.p (.lst (bs.map .bl))) st = .ok (.p (.bl (bs.any id))) st := by
  show (bools (bs.map .bl) st).bind _ = _
  rw [bools_bl bs st]; rfl
theorem defM_nxS {np nl : Nat} {body : SM} {rs : List PR} {ρ : Ev} {st s : PSt} (hl : rs.length = np) (h : body (rs.map some ++ List.replicate (nl - rs.length) none) st = .nx ρ s) (hn : s.length = st.length) : defM np nl body rs st = .ok (.p .non) s := by
  unfold defM
  rw [if_pos hl, h]
  show Out.ok (PR.p .non) (s.take st.length) = _
  rw [← hn, List.take_length]
theorem within_int {v : PV} {a b : Int} (h : within v a b = true) : ∃ x, v = .int x ∧ a ≤ x ∧ x ≤ b := by
  cases v with
  | int x => exact ⟨x, rfl, by simpa [within] using h⟩
  | _ => cases h
theorem defM_retS {np nl : Nat} {body : SM} {rs : List PR} {v : PV} {st s : PSt} (hl : rs.length = np) (h : body (rs.map some ++ List.replicate (nl - rs.length) none) st = .ret (.p v) s) (hn : s.length = st.length) : defM np nl body rs st = .ok (.p v) s := by
  unfold defM
  rw [if_pos hl, h]
  show Out.ok (PR.p v) (s.take st.length) = _
  rw [← hn, List.take_length]
def rowO (ns : List Int) (p s r : Int) : PObj := .lst [.lst (ns.map .int), .int p, .int s, .int r]
theorem at_nn {l : List PV} {i : Int} (h0 : 0 ≤ i) (h1 : i < l.length) : ∃ v ∈ l, L2.atI l i = some v := by
  have e : L2.ixN l.length i = some i.toNat := by unfold L2.ixN; rw [if_pos h0, if_pos h1]
  have hk : i.toNat < l.length := by omega
  refine ⟨l[i.toNat], List.getElem_mem hk, ?_⟩
  show (L2.ixN l.length i).bind _ = _
  rw [e]
  exact List.getElem?_eq_getElem hk
def mulM_ok (a : Int) (st : PSt) : mulM (.p (.int a)) (.p (.int 48271)) st = .ok (.p (.int (a * 48271))) st := by
  have e : ((decide (-(2 ^ 64) < a) && decide (a < 2 ^ 64)) || (decide (-(2 ^ 64) < (48271 : Int)) && decide ((48271 : Int) < 2 ^ 64))) = true := by
    have : (decide (-(2 ^ 64) < (48271 : Int)) && decide ((48271 : Int) < 2 ^ 64)) = true := by decide
    rw [this, Bool.or_true]
  show PM.guard _ _ st = _
  unfold PM.guard
  rw [if_pos e]; rfl
theorem fdiv_ok {a b : Int} (h0 : 0 < b) (h1 : b < 1073741824) (st : PSt) : fdivM (.p (.int a)) (.p (.int b)) st = .ok (.p (.int (a / b))) st := by
  show PM.guard _ _ st = _
  unfold PM.guard
  rw [if_pos (by simp only [Bool.and_eq_true, decide_eq_true_eq]; exact ⟨h0, h1⟩)]; rfl
theorem mod_ok {a b : Int} (h0 : 0 < b) (st : PSt) : modM (.p (.int a)) (.p (.int b)) st = .ok (.p (.int (a % b))) st := by
  show PM.guard _ _ st = _
  unfold PM.guard
  rw [if_pos (by simpa using h0)]; rfl
theorem e14 {n : Nat} {ns : List Int} {p s r many : Int} (hp : 0 ≤ p) (h0 : 0 < many) (h1 : many < 1073741824) (R : PSt) :
    ∃ d p' s' r', 0 ≤ d ∧ d < many ∧ 0 ≤ p' ∧ callF (n + 1) 37 [.r 0 0, .p (.int many)] (rowO ns p s r :: R) = .ok (.p (.int d)) (rowO ns p' s' r' :: R) := by
  have i0 : ∀ p s r : Int, ixM (.r 0 0) (.p (.int 0)) (rowO ns p s r :: R) = .ok (.p (.lst (ns.map .int))) (rowO ns p s r :: R) := fun _ _ _ => rfl
  have i1 : ∀ p s r : Int, ixM (.r 0 0) (.p (.int 1)) (rowO ns p s r :: R) = .ok (.p (.int p)) (rowO ns p s r :: R) := fun _ _ _ => rfl
  have i2 : ∀ p s r : Int, ixM (.r 0 0) (.p (.int 2)) (rowO ns p s r :: R) = .ok (.p (.int s)) (rowO ns p s r :: R) := fun _ _ _ => rfl
  have i3 : ∀ p s r : Int, ixM (.r 0 0) (.p (.int 3)) (rowO ns p s r :: R) = .ok (.p (.int r)) (rowO ns p s r :: R) := fun _ _ _ => rfl
  have s1 : ∀ p s r q : Int, setLM (.r 0 0) (.p (.int 1)) (.p (.int q)) (rowO ns p s r :: R) = .ok () (rowO ns q s r :: R) := fun _ _ _ _ => rfl
  have s2 : ∀ p s r q : Int, setLM (.r 0 0) (.p (.int 2)) (.p (.int q)) (rowO ns p s r :: R) = .ok () (rowO ns p q r :: R) := fun _ _ _ _ => rfl
  have s3 : ∀ p s r q : Int, setLM (.r 0 0) (.p (.int 3)) (.p (.int q)) (rowO ns p s r :: R) = .ok () (rowO ns p s q :: R) := fun _ _ _ _ => rfl
  have aii : ∀ (a b : Int) (st : PSt), addM (.p (.int a)) (.p (.int b)) st = .ok (.p (.int (a + b))) st := fun _ _ _ => rfl
  have ln : ∀ st : PSt, lenM (.p (.lst (ns.map .int))) st = .ok (.p (.int (ns.map PV.int).length)) st := fun _ => rfl
  have pw : ∀ st : PSt, powM (.p (.int 10)) (.p (.int 18)) st = .ok (.p (.int 1000000000000000000)) st := fun st => by rfl
  have nn : ∀ x : Int, 0 ≤ x % many ∧ x % many < many := fun x => ⟨Int.emod_nonneg _ (by omega), Int.emod_lt_of_pos _ h0⟩
  rw [cf37]
  by_cases hr : 0 < r
  · refine ⟨r % many, p, s, r / many, (nn r).1, (nn r).2, hp, defM_retS rfl ?_ rfl⟩
    simp only [sSeq, sNil, sExpr, sRet, sRetN, sIf, sAsg, sPar, sPar3, sRaise, gNm, gsNil, gsCons, gTp, gSubM, eVar, eC, e1, e2, aNil, aCons, eCallD, eTup, eLst, eLstM, newLst, eAnd, eOr, eNot, eIf, eChain, tVal, tTruth, tNotM, tAndM, tOrM, asB, truthM, eFrz, frz, pures, PM.guard, PM.stuck, le_ii, gt_ii, ge_ii, lt_ii, sub_ii, add_ii, toInt_i, retB_ok, pm_bind, pm_pure, ob_ok, ob_err, ts_ok, ts_err, then_nx, then_ret, then_err, then_ct, List.map_cons, List.map_nil, List.append_nil, List.nil_append, List.cons_append, List.length_cons, List.length_nil, List.replicate, Nat.sub_self, Nat.zero_add, List.getElem?_cons_zero, List.getElem?_cons_succ, List.set_cons_zero, List.set_cons_succ, if_true, if_false, Bool.false_eq_true, Bool.not_true, Bool.not_false, ite_true, ite_false, eq_self, reduceIte, Bool.true_eq_false, reduceCtorEq, i3, s3, mod_ok h0, fdiv_ok h0 h1, hr, decide_true]
  · by_cases hl : ((ns.map PV.int).length : Int) < p + 1
    · refine ⟨((s * 48271 + 11) % 2147483647) / 7 % many, p + 1, (s * 48271 + 11) % 2147483647, r, (nn _).1, (nn _).2, by omega, defM_retS rfl ?_ rfl⟩
      simp only [sSeq, sNil, sExpr, sRet, sRetN, sIf, sAsg, sPar, sPar3, sRaise, gNm, gsNil, gsCons, gTp, gSubM, eVar, eC, e1, e2, aNil, aCons, eCallD, eTup, eLst, eLstM, newLst, eAnd, eOr, eNot, eIf, eChain, tVal, tTruth, tNotM, tAndM, tOrM, asB, truthM, eFrz, frz, pures, PM.guard, PM.stuck, le_ii, gt_ii, ge_ii, lt_ii, sub_ii, add_ii, toInt_i, retB_ok, pm_bind, pm_pure, ob_ok, ob_err, ts_ok, ts_err, then_nx, then_ret, then_err, then_ct, List.map_cons, List.map_nil, List.append_nil, List.nil_append, List.cons_append, List.length_cons, List.length_nil, List.replicate, Nat.sub_self, Nat.zero_add, List.getElem?_cons_zero, List.getElem?_cons_succ, List.set_cons_zero, List.set_cons_succ, if_true, if_false, Bool.false_eq_true, Bool.not_true, Bool.not_false, ite_true, ite_false, eq_self, reduceIte, Bool.true_eq_false, reduceCtorEq, i0, i1, i2, i3, s1, s2, aii, ln, mulM_ok, mod_ok h0, mod_ok (show (0 : Int) < 2147483647 by decide), fdiv_ok (show (0 : Int) < 7 by decide) (by decide), hr, hl, decide_true, decide_false]
    · obtain ⟨v, hv, ev⟩ := at_nn (l := ns.map PV.int) (i := p + 1 - 1) (by omega) (by omega)
      obtain ⟨c, hc, rfl⟩ := List.mem_map.mp hv
      have ic : ∀ st, ixM (.p (.lst (ns.map PV.int))) (.p (.int (p + 1 - 1))) st = .ok (.p (.int c)) st := fun st => by
        show (match L2.atI (ns.map PV.int) (p + 1 - 1) with | some v => Out.ok (PR.p v) st | none => .stuck) = _
        rw [ev]
      by_cases hb : 1000000000000000000 ≤ c
      · refine ⟨c % many, p + 1, (s * 48271 + c + 11) % 2147483647, c / many, (nn _).1, (nn _).2, by omega, defM_retS rfl ?_ rfl⟩
        simp only [sSeq, sNil, sExpr, sRet, sRetN, sIf, sAsg, sPar, sPar3, sRaise, gNm, gsNil, gsCons, gTp, gSubM, eVar, eC, e1, e2, aNil, aCons, eCallD, eTup, eLst, eLstM, newLst, eAnd, eOr, eNot, eIf, eChain, tVal, tTruth, tNotM, tAndM, tOrM, asB, truthM, eFrz, frz, pures, PM.guard, PM.stuck, le_ii, gt_ii, ge_ii, lt_ii, sub_ii, add_ii, toInt_i, retB_ok, pm_bind, pm_pure, ob_ok, ob_err, ts_ok, ts_err, then_nx, then_ret, then_err, then_ct, List.map_cons, List.map_nil, List.append_nil, List.nil_append, List.cons_append, List.length_cons, List.length_nil, List.replicate, Nat.sub_self, Nat.zero_add, List.getElem?_cons_zero, List.getElem?_cons_succ, List.set_cons_zero, List.set_cons_succ, if_true, if_false, Bool.false_eq_true, Bool.not_true, Bool.not_false, ite_true, ite_false, eq_self, reduceIte, Bool.true_eq_false, reduceCtorEq, i0, i1, i2, i3, s1, s2, s3, aii, ln, ic, pw, mulM_ok, mod_ok h0, fdiv_ok h0 h1, mod_ok (show (0 : Int) < 2147483647 by decide), hr, hl, hb, decide_true, decide_false]
      · refine ⟨c % many, p + 1, (s * 48271 + c + 11) % 2147483647, r, (nn _).1, (nn _).2, by omega, defM_retS rfl ?_ rfl⟩
        simp only [sSeq, sNil, sExpr, sRet, sRetN, sIf, sAsg, sPar, sPar3, sRaise, gNm, gsNil, gsCons, gTp, gSubM, eVar, eC, e1, e2, aNil, aCons, eCallD, eTup, eLst, eLstM, newLst, eAnd, eOr, eNot, eIf, eChain, tVal, tTruth, tNotM, tAndM, tOrM, asB, truthM, eFrz, frz, pures, PM.guard, PM.stuck, le_ii, gt_ii, ge_ii, lt_ii, sub_ii, add_ii, toInt_i, retB_ok, pm_bind, pm_pure, ob_ok, ob_err, ts_ok, ts_err, then_nx, then_ret, then_err, then_ct, List.map_cons, List.map_nil, List.append_nil, List.nil_append, List.cons_append, List.length_cons, List.length_nil, List.replicate, Nat.sub_self, Nat.zero_add, List.getElem?_cons_zero, List.getElem?_cons_succ, List.set_cons_zero, List.set_cons_succ, if_true, if_false, Bool.false_eq_true, Bool.not_true, Bool.not_false, ite_true, ite_false, eq_self, reduceIte, Bool.true_eq_false, reduceCtorEq, i0, i1, i2, i3, s1, s2, s3, aii, ln, ic, pw, mulM_ok, mod_ok h0, mod_ok (show (0 : Int) < 2147483647 by decide), hr, hl, hb, decide_true, decide_false]
theorem e15 {n : Nat} {ns : List Int} {p s r : Int} {l : List PV} (hp : 0 ≤ p) (h0 : 0 < l.length) (h1 : l.length < 1073741824) (R : PSt) :
    ∃ v p' s' r', v ∈ l ∧ 0 ≤ p' ∧ callF (n + 2) 38 [.r 0 0, .p (.lst l)] (rowO ns p s r :: R) = .ok (.p v) (rowO ns p' s' r' :: R) := by
  obtain ⟨d, p', s', r', hd0, hd1, hp', e⟩ := e14 (n := n) (ns := ns) (p := p) (s := s) (r := r) (many := l.length) hp (by omega) (by omega) R
  obtain ⟨v, hv, ev⟩ := at_nn hd0 hd1
  refine ⟨v, p', s', r', hv, hp', ?_⟩
  have ln : ∀ st : PSt, lenM (.p (.lst l)) st = .ok (.p (.int l.length)) st := fun _ => rfl
  have ic : ∀ st, ixM (.p (.lst l)) (.p (.int d)) st = .ok (.p v) st := fun st => by
    show (match L2.atI l d with | some v => Out.ok (PR.p v) st | none => .stuck) = _
    rw [ev]
  rw [cf38]
  refine defM_retS rfl ?_ rfl
  simp only [sSeq, sNil, sExpr, sRet, sRetN, sIf, sAsg, sPar, sPar3, sRaise, gNm, gsNil, gsCons, gTp, gSubM, eVar, eC, e1, e2, aNil, aCons, eCallD, eTup, eLst, eLstM, newLst, eAnd, eOr, eNot, eIf, eChain, tVal, tTruth, tNotM, tAndM, tOrM, asB, truthM, eFrz, frz, pures, PM.guard, PM.stuck, le_ii, gt_ii, ge_ii, lt_ii, sub_ii, add_ii, toInt_i, retB_ok, pm_bind, pm_pure, ob_ok, ob_err, ts_ok, ts_err, then_nx, then_ret, then_err, then_ct, List.map_cons, List.map_nil, List.append_nil, List.nil_append, List.cons_append, List.length_cons, List.length_nil, List.replicate, Nat.sub_self, Nat.zero_add, List.getElem?_cons_zero, List.getElem?_cons_succ, List.set_cons_zero, List.set_cons_succ, if_true, if_false, Bool.false_eq_true, Bool.not_true, Bool.not_false, ite_true, ite_false, eq_self, reduceIte, Bool.true_eq_false, reduceCtorEq, ln, e, ic]
theorem a_int {n : Nat} (x : Int) (st : PSt) : callF (n + 1) 39 [.p (.int x), .p (.int x)] st = .ok (.p (.bl true)) st := by
  rw [cf39]
  refine defM_ret rfl ?_
  have i1 : isiM [0, 1] [.ty "tuple", .ty "list"] (.p (.int x)) st = .ok (.p (.bl false)) st := rfl
  have i2 : isiM [0, 1] [.ty "dict"] (.p (.int x)) st = .ok (.p (.bl false)) st := rfl
  have i3 : isiM [0, 1] [.ty "str"] (.p (.int x)) st = .ok (.p (.bl false)) st := rfl
  have i4 : isiM [0, 1] [.ty "int"] (.p (.int x)) st = .ok (.p (.bl true)) st := rfl
  have i5 : isiM [0, 1] [.ty "bool"] (.p (.int x)) st = .ok (.p (.bl false)) st := rfl
  have i6 : isNM true (.p (.int x)) (.p .non) st = .ok (.p (.bl false)) st := rfl
  simp only [sSeq, sNil, sExpr, sRet, sRetN, sIf, sAsg, sPar, sPar3, sRaise, gNm, gsNil, gsCons, gTp, gSubM, eVar, eC, e1, e2, aNil, aCons, eCallD, eTup, eLst, eLstM, newLst, eAnd, eOr, eNot, eIf, eChain, tVal, tTruth, tNotM, tAndM, tOrM, asB, truthM, eFrz, frz, pures, PM.guard, PM.stuck, le_ii, gt_ii, ge_ii, lt_ii, sub_ii, add_ii, toInt_i, retB_ok, pm_bind, pm_pure, ob_ok, ob_err, ts_ok, ts_err, then_nx, then_ret, then_err, then_ct, List.map_cons, List.map_nil, List.append_nil, List.nil_append, List.cons_append, List.length_cons, List.length_nil, List.replicate, Nat.sub_self, Nat.zero_add, List.getElem?_cons_zero, List.getElem?_cons_succ, List.set_cons_zero, List.set_cons_succ, if_true, if_false, Bool.false_eq_true, Bool.not_true, Bool.not_false, ite_true, ite_false, eq_self, reduceIte, Bool.true_eq_false, reduceCtorEq, i1, i2, i3, i4, i5, i6, eq_bl, eq_int, BEq.rfl]
theorem a_bl {n : Nat} (x : Bool) (st : PSt) : callF (n + 1) 39 [.p (.bl x), .p (.bl x)] st = .ok (.p (.bl true)) st := by
  rw [cf39]
  refine defM_ret rfl ?_
  have i1 : isiM [0, 1] [.ty "tuple", .ty "list"] (.p (.bl x)) st = .ok (.p (.bl false)) st := rfl
  have i2 : isiM [0, 1] [.ty "dict"] (.p (.bl x)) st = .ok (.p (.bl false)) st := rfl
  have i3 : isiM [0, 1] [.ty "str"] (.p (.bl x)) st = .ok (.p (.bl false)) st := rfl
  have i4 : isiM [0, 1] [.ty "int"] (.p (.bl x)) st = .ok (.p (.bl true)) st := rfl
  have i5 : isiM [0, 1] [.ty "bool"] (.p (.bl x)) st = .ok (.p (.bl true)) st := rfl
  have i6 : isNM true (.p (.bl x)) (.p .non) st = .ok (.p (.bl false)) st := rfl
  simp only [sSeq, sNil, sExpr, sRet, sRetN, sIf, sAsg, sPar, sPar3, sRaise, gNm, gsNil, gsCons, gTp, gSubM, eVar, eC, e1, e2, aNil, aCons, eCallD, eTup, eLst, eLstM, newLst, eAnd, eOr, eNot, eIf, eChain, tVal, tTruth, tNotM, tAndM, tOrM, asB, truthM, eFrz, frz, pures, PM.guard, PM.stuck, le_ii, gt_ii, ge_ii, lt_ii, sub_ii, add_ii, toInt_i, retB_ok, pm_bind, pm_pure, ob_ok, ob_err, ts_ok, ts_err, then_nx, then_ret, then_err, then_ct, List.map_cons, List.map_nil, List.append_nil, List.nil_append, List.cons_append, List.length_cons, List.length_nil, List.replicate, Nat.sub_self, Nat.zero_add, List.getElem?_cons_zero, List.getElem?_cons_succ, List.set_cons_zero, List.set_cons_succ, if_true, if_false, Bool.false_eq_true, Bool.not_true, Bool.not_false, ite_true, ite_false, eq_self, reduceIte, Bool.true_eq_false, reduceCtorEq, i1, i2, i3, i4, i5, i6, eq_bl, eq_int, BEq.rfl]
theorem lim_i {l : List PV} (h : l.length ≤ lim) : (l.length : Int) ≤ ((lim : Nat) : Int) := Int.ofNat_le.mpr h
theorem eq_nil (st : PSt) : eqM (.p (.lst [])) (.p (.lst [])) st = .ok (.p (.bl true)) st := rfl
theorem rng_len (l : List PV) : ((((List.range (l.length : Int).toNat).map fun (i : Nat) => PV.int i).filter fun _ => false).map fun v => v) = [] := by rw [List.filter_eq_nil_iff.mpr (by simp)]; rfl
theorem a_tup {n : Nat} {l : List PV} (hl : l.length ≤ lim) (st : PSt) (h : ∀ v ∈ l, callF n 39 [.p v, .p v] st = .ok (.p (.bl true)) st) : callF (n + 1) 39 [.p (.tup l), .p (.tup l)] st = .ok (.p (.bl true)) st := by
  rw [cf39]
  refine defM_ret rfl ?_
  have i1 : isiM [0, 1] [.ty "tuple", .ty "list"] (.p (.tup l)) st = .ok (.p (.bl true)) st := rfl
  have i2 : isiM [0, 1] [.ty "list"] (.p (.tup l)) st = .ok (.p (.bl false)) st := rfl
  have ln : ∀ st : PSt, lenM (.p (.tup l)) st = .ok (.p (.int l.length)) st := fun _ => rfl
  have c1 : eLc (iRng1M (aCons (e1 lenM (eVar 1)) aNil)) (cgNm 2) [2] (tNotM (tTruth (eCallD (callF n 39) (aCons (e2 ixM (eVar 0) (eVar 2)) (aCons (e2 ixM (eVar 1) (eVar 2)) aNil)) []))) (eVar 2) [some (.p (.tup l)), some (.p (.tup l)), none, none] st = .ok (.p (.lst ((((List.range (l.length : Int).toNat).map fun (i : Nat) => PV.int i).filter fun _ => false).map fun v => v))) st :=
    lc_rng (j := l.length) rfl ⟨by omega, lim_i hl⟩ (fun v => [some (.p (.tup l)), some (.p (.tup l)), some (.p v), none]) (fun _ => false) (fun v => v) (fun k _ => rfl)
      (fun k hk => by
        have hk : k < l.length := by simpa using hk
        obtain ⟨v, hv, ev⟩ := at_nn (l := l) (i := k) (by omega) (by omega)
        have ic : ixM (.p (.tup l)) (.p (.int k)) st = .ok (.p v) st := by
          show (match L2.atI l k with | some v => Out.ok (PR.p v) st | none => .stuck) = _
          rw [ev]
        simp only [sSeq, sNil, sExpr, sRet, sRetN, sIf, sAsg, sPar, sPar3, sRaise, gNm, gsNil, gsCons, gTp, gSubM, eVar, eC, e1, e2, aNil, aCons, eCallD, eTup, eLst, eLstM, newLst, eAnd, eOr, eNot, eIf, eChain, tVal, tTruth, tNotM, tAndM, tOrM, asB, truthM, eFrz, frz, pures, PM.guard, PM.stuck, le_ii, gt_ii, ge_ii, lt_ii, sub_ii, add_ii, toInt_i, retB_ok, pm_bind, pm_pure, ob_ok, ob_err, ts_ok, ts_err, then_nx, then_ret, then_err, then_ct, List.map_cons, List.map_nil, List.append_nil, List.nil_append, List.cons_append, List.length_cons, List.length_nil, List.replicate, Nat.sub_self, Nat.zero_add, List.getElem?_cons_zero, List.getElem?_cons_succ, List.set_cons_zero, List.set_cons_succ, if_true, if_false, Bool.false_eq_true, Bool.not_true, Bool.not_false, ite_true, ite_false, eq_self, reduceIte, Bool.true_eq_false, reduceCtorEq, ic, h v hv])
      (fun _ _ h => by cases h)
  rw [rng_len] at c1
  have n1 : neM (.p (.bl false)) (.p (.bl false)) st = .ok (.p (.bl false)) st := rfl
  have n2 : neM (.p (.int l.length)) (.p (.int l.length)) st = .ok (.p (.bl false)) st := by
    rw [ne_int, beq_self_eq_true]; rfl
  have t3 : ∀ C : EM, C [some (.p (.tup l)), some (.p (.tup l)), none, none] st = .ok (.p (.lst [])) st → e2 eqM C (eLst aNil) [some (.p (.tup l)), some (.p (.tup l)), none, none] st = .ok (.p (.bl true)) st := fun C h => by simp only [sSeq, sNil, sExpr, sRet, sRetN, sIf, sAsg, sPar, sPar3, sRaise, gNm, gsNil, gsCons, gTp, gSubM, eVar, eC, e1, e2, aNil, aCons, eCallD, eTup, eLst, eLstM, newLst, eAnd, eOr, eNot, eIf, eChain, tVal, tTruth, tNotM, tAndM, tOrM, asB, truthM, eFrz, frz, pures, PM.guard, PM.stuck, le_ii, gt_ii, ge_ii, lt_ii, sub_ii, add_ii, toInt_i, retB_ok, pm_bind, pm_pure, ob_ok, ob_err, ts_ok, ts_err, then_nx, then_ret, then_err, then_ct, List.map_cons, List.map_nil, List.append_nil, List.nil_append, List.cons_append, List.length_cons, List.length_nil, List.replicate, Nat.sub_self, Nat.zero_add, List.getElem?_cons_zero, List.getElem?_cons_succ, List.set_cons_zero, List.set_cons_succ, if_true, if_false, Bool.false_eq_true, Bool.not_true, Bool.not_false, ite_true, ite_false, eq_self, reduceIte, Bool.true_eq_false, reduceCtorEq, h, pures, Nat.zero_le, eq_nil]
  have t1 : tOrM (tNotM (tTruth (e1 (isiM [0, 1] [(.ty "tuple"), (.ty "list")]) (eVar 0)))) (tVal (e2 neM (e1 (isiM [0, 1] [(.ty "list")]) (eVar 0)) (e1 (isiM [0, 1] [(.ty "list")]) (eVar 1)))) [some (.p (.tup l)), some (.p (.tup l)), none, none] st = .ok false st := by simp only [sSeq, sNil, sExpr, sRet, sRetN, sIf, sAsg, sPar, sPar3, sRaise, gNm, gsNil, gsCons, gTp, gSubM, eVar, eC, e1, e2, aNil, aCons, eCallD, eTup, eLst, eLstM, newLst, eAnd, eOr, eNot, eIf, eChain, tVal, tTruth, tNotM, tAndM, tOrM, asB, truthM, eFrz, frz, pures, PM.guard, PM.stuck, le_ii, gt_ii, ge_ii, lt_ii, sub_ii, add_ii, toInt_i, retB_ok, pm_bind, pm_pure, ob_ok, ob_err, ts_ok, ts_err, then_nx, then_ret, then_err, then_ct, List.map_cons, List.map_nil, List.append_nil, List.nil_append, List.cons_append, List.length_cons, List.length_nil, List.replicate, Nat.sub_self, Nat.zero_add, List.getElem?_cons_zero, List.getElem?_cons_succ, List.set_cons_zero, List.set_cons_succ, if_true, if_false, Bool.false_eq_true, Bool.not_true, Bool.not_false, ite_true, ite_false, eq_self, reduceIte, Bool.true_eq_false, reduceCtorEq, i1, i2, n1]
  have t2 : tVal (e2 neM (e1 lenM (eVar 0)) (e1 lenM (eVar 1))) [some (.p (.tup l)), some (.p (.tup l)), none, none] st = .ok false st := by simp only [sSeq, sNil, sExpr, sRet, sRetN, sIf, sAsg, sPar, sPar3, sRaise, gNm, gsNil, gsCons, gTp, gSubM, eVar, eC, e1, e2, aNil, aCons, eCallD, eTup, eLst, eLstM, newLst, eAnd, eOr, eNot, eIf, eChain, tVal, tTruth, tNotM, tAndM, tOrM, asB, truthM, eFrz, frz, pures, PM.guard, PM.stuck, le_ii, gt_ii, ge_ii, lt_ii, sub_ii, add_ii, toInt_i, retB_ok, pm_bind, pm_pure, ob_ok, ob_err, ts_ok, ts_err, then_nx, then_ret, then_err, then_ct, List.map_cons, List.map_nil, List.append_nil, List.nil_append, List.cons_append, List.length_cons, List.length_nil, List.replicate, Nat.sub_self, Nat.zero_add, List.getElem?_cons_zero, List.getElem?_cons_succ, List.set_cons_zero, List.set_cons_succ, if_true, if_false, Bool.false_eq_true, Bool.not_true, Bool.not_false, ite_true, ite_false, eq_self, reduceIte, Bool.true_eq_false, reduceCtorEq, ln, n2]
  have t0 : tTruth (e1 (isiM [0, 1] [(.ty "tuple"), (.ty "list")]) (eVar 1)) [some (.p (.tup l)), some (.p (.tup l)), none, none] st = .ok true st := by simp only [sSeq, sNil, sExpr, sRet, sRetN, sIf, sAsg, sPar, sPar3, sRaise, gNm, gsNil, gsCons, gTp, gSubM, eVar, eC, e1, e2, aNil, aCons, eCallD, eTup, eLst, eLstM, newLst, eAnd, eOr, eNot, eIf, eChain, tVal, tTruth, tNotM, tAndM, tOrM, asB, truthM, eFrz, frz, pures, PM.guard, PM.stuck, le_ii, gt_ii, ge_ii, lt_ii, sub_ii, add_ii, toInt_i, retB_ok, pm_bind, pm_pure, ob_ok, ob_err, ts_ok, ts_err, then_nx, then_ret, then_err, then_ct, List.map_cons, List.map_nil, List.append_nil, List.nil_append, List.cons_append, List.length_cons, List.length_nil, List.replicate, Nat.sub_self, Nat.zero_add, List.getElem?_cons_zero, List.getElem?_cons_succ, List.set_cons_zero, List.set_cons_succ, if_true, if_false, Bool.false_eq_true, Bool.not_true, Bool.not_false, ite_true, ite_false, eq_self, reduceIte, Bool.true_eq_false, reduceCtorEq, i1]
  exact sq_ret (if_t t0 (sq_nx (if_f t1 rfl) (sq_nx (if_f t2 rfl) (sq_ret (re_ok (t3 _ c1))))))
theorem no_int {x a b : Int} (h : ¬ (a ≤ x ∧ x ≤ b)) : within (.int x) a b = false := by
  show (decide (a ≤ x) && decide (x ≤ b)) = false
  rw [Bool.and_eq_false_iff, decide_eq_false_iff_not, decide_eq_false_iff_not]
  omega
theorem yes_int {x a b : Int} (h : a ≤ x ∧ x ≤ b) : within (.int x) a b = true := by
  show (decide (a ≤ x) && decide (x ≤ b)) = true
  simp [h.1, h.2]
theorem so_app (a b : Str) : PyData.strOk (a ++ b) = (PyData.strOk a && PyData.strOk b) := by
  show (a.cps ++ b.cps).all (· < 0x110000) = _
  rw [Array.all_append]; rfl
theorem size_lim {n : Nat} (h : n ≤ sizeLine) : n ≤ lim := by rw [sizeLine_eq] at h; exact h
theorem repr_of {v : PV} {d : PyData} (h : toD v = some d) (hs : isSq (.p v) = true) (ok : (reprOk d && PyData.strOk d.shown) = true) : ∃ x, PyData.strOk x = true ∧ ∀ st, reprM (.p v) st = .ok (.p (.str x)) st := by
  rw [Bool.and_eq_true] at ok
  refine ⟨d.shown, ok.2, fun st => ?_⟩
  have e : dOf st (.p v) = some d := h
  unfold reprM
  simp only [e]
  rw [if_pos ⟨hs, ok.1⟩]
theorem ne_str {x : Str} (hx : PyData.strOk x = true) (st : PSt) : neM (.p (.str x)) (.p (.str x)) st = .ok (.p (.bl false)) st := by
  have e : dOf st (.p (.str x)) = some (.str x) := rfl
  unfold neM Vs.dat2
  simp only [e]
  have hs : SeqAt.shaped (.str x) = true := by
    show (PyData.strOk x && decide (PyData.depth (.str x) ≤ 64)) = true
    rw [hx]; rfl
  rw [if_pos ⟨hs, hs⟩]
  have : PyData.eqv (.str x) (.str x) = true := by simp [PyData.eqv]
  rw [this]; rfl
theorem ta_ok {t u : TM} {ρ : Ev} {st s s' : PSt} {b : Bool} (h : t ρ st = .ok true s) (k : u ρ s = .ok b s') : tAndM t u ρ st = .ok b s' := by show (t ρ st).bind _ = _; rw [h]; exact k
theorem ta_no {t u : TM} {ρ : Ev} {st s : PSt} (h : t ρ st = .ok false s) : tAndM t u ρ st = .ok false s := by show (t ρ st).bind _ = _; rw [h]; rfl
theorem sub_lit {ρ : Ev} {st s s' : PSt} {a b : EM} {x y : Int} (h : a ρ st = .ok (.p (.int x)) s) (k : b ρ s = .ok (.p (.int y)) s') : e2 subM a b ρ st = .ok (.p (.int (x - y))) s' := e2_ok h k (sub_ii ..)
theorem add_lit {ρ : Ev} {st s s' : PSt} {a b : EM} {x y : Int} (h : a ρ st = .ok (.p (.int x)) s) (k : b ρ s = .ok (.p (.int y)) s') : e2 addM a b ρ st = .ok (.p (.int (x + y))) s' := e2_ok h k (add_ii ..)
theorem as_sub {e o i : EM} {f : PR → PR → PR → PM Unit} {ρ : Ev} {st s s' : PSt} {r x y : PR} (h : e ρ st = .ok r s) (ho : o ρ s = .ok x s) (hi : i ρ s = .ok y s) (hf : f x y r s = .ok () s') : sAsg e (gSubM f o i) ρ st = .nx ρ s' := by
  show (e ρ st).toS _ = _
  rw [h]
  show ((o ρ s).bind _).toS _ = _
  rw [ho]
  show ((i ρ s).bind _).toS _ = _
  rw [hi]
  show ((f x y r s).bind _).toS _ = _
  rw [hf]; rfl
theorem sq_eq {a b : SM} {ρ ρ1 : Ev} {st s1 : PSt} (h : a ρ st = .nx ρ1 s1) : sSeq a b ρ st = b ρ1 s1 := sq_nx h rfl
theorem se_err {e : EM} {ρ : Ev} {st s : PSt} {c : Nat} {v : PV} (h : e ρ st = .err c v s) : sExpr e ρ st = .err c v s := by show (e ρ st).toS _ = _; rw [h]; rfl
theorem lim4 : 4 ≤ lim := by show 4 ≤ 16777216; omega
theorem lim2 : 2 ≤ lim := by show 2 ≤ 16777216; omega
section
variable {ρ : Ev} {st s : PSt} {a : Ev → PM (List PR)} {l : List PV}
theorem pures_map : ∀ (l : List PV) (st : PSt), pures (l.map .p) st = .ok l st
  | [], _ => rfl
  | v :: l, st => by
    show (pures (l.map .p) st).bind _ = _
    rw [pures_map l st]; rfl
theorem ls_ok (h : a ρ st = .ok (l.map .p) s) (hl : l.length ≤ lim) : eLst a ρ st = .ok (.p (.lst l)) s := by
  show (a ρ st).bind _ = _
  rw [h]
  show (pures (l.map .p) s).bind _ = _
  rw [pures_map]
  show (if _ then _ else _) = _
  rw [if_pos hl]; rfl
theorem tp_ok (h : a ρ st = .ok (l.map .p) s) (hl : l.length ≤ lim) : eTup a ρ st = .ok (.p (.tup l)) s := by
  show (a ρ st).bind _ = _
  rw [h]
  show (pures (l.map .p) s).bind _ = _
  rw [pures_map]
  show (if _ then _ else _) = _
  rw [if_pos hl]; rfl
theorem lm_ok (h : a ρ st = .ok (l.map .p) s) (hl : l.length ≤ lim) : eLstM a ρ st = .ok (.r s.length 0) (s ++ [.lst l]) := by
  show (a ρ st).bind _ = _
  rw [h]
  show (pures (l.map .p) s).bind _ = _
  rw [pures_map]
  show (if _ then _ else _) = _
  rw [if_pos hl]; rfl
theorem pr_ok {i j : Nat} {x y : PR} (h : a ρ st = .ok [x, y] s) : sPar i j a ρ st = .nx ((ρ.set i (some x)).set j (some y)) s := by
  show (a ρ st).toS _ = _
  rw [h]; rfl
theorem p3_ok {i j k : Nat} {x y z : PR} (h : a ρ st = .ok [x, y, z] s) : sPar3 i j k a ρ st = .nx (((ρ.set i (some x)).set j (some y)).set k (some z)) s := by
  show (a ρ st).toS _ = _
  rw [h]; rfl
end
theorem limN {n : Nat} (h : n ≤ 1000) : n ≤ lim := by show n ≤ 16777216; omega
theorem pick_ok {n : Nat} {ns : List Int} {p s r : Int} {l : List PV} {a : Ev → PM (List PR)} {ρ : Ev} (R : PSt) {j : Nat} (hr : ρ[j]? = some (some (.r 0 0))) (hp : 0 ≤ p) (h0 : 0 < l.length) (h1 : l.length ≤ 1000) (ha : ∀ st, a ρ st = .ok (l.map .p) st) :
    ∃ v p' s' r', v ∈ l ∧ 0 ≤ p' ∧ eCallD (callF (n + 2) 38) (aCons (eVar j) (aCons (eLst a) aNil)) [] ρ (rowO ns p s r :: R) = .ok (.p v) (rowO ns p' s' r' :: R) := by
  obtain ⟨v, p', s', r', hv, hp', e⟩ := e15 (n := n) (ns := ns) (p := p) (s := s) (r := r) (l := l) hp h0 (by omega) R
  refine ⟨v, p', s', r', hv, hp', cl_ok (ac_ok (x := .r 0 0) (s := rowO ns p s r :: R) (by simp only [sSeq, sNil, sExpr, sRet, sRetN, sIf, sAsg, sPar, sPar3, sRaise, gNm, gsNil, gsCons, gTp, gSubM, eVar, eC, e1, e2, aNil, aCons, eCallD, eTup, eLst, eLstM, newLst, eAnd, eOr, eNot, eIf, eChain, tVal, tTruth, tNotM, tAndM, tOrM, asB, truthM, eFrz, frz, pures, PM.guard, PM.stuck, le_ii, gt_ii, ge_ii, lt_ii, sub_ii, add_ii, toInt_i, retB_ok, pm_bind, pm_pure, ob_ok, ob_err, ts_ok, ts_err, then_nx, then_ret, then_err, then_ct, List.map_cons, List.map_nil, List.append_nil, List.nil_append, List.cons_append, List.length_cons, List.length_nil, List.replicate, Nat.sub_self, Nat.zero_add, List.getElem?_cons_zero, List.getElem?_cons_succ, List.set_cons_zero, List.set_cons_succ, if_true, if_false, Bool.false_eq_true, Bool.not_true, Bool.not_false, ite_true, ite_false, eq_self, reduceIte, Bool.true_eq_false, reduceCtorEq, hr]) (ac_ok (ls_ok (ha _) (limN h1)) rfl)) e⟩
theorem draw_ok {n : Nat} {ns : List Int} {p s r many : Int} {m : EM} {ρ : Ev} (R : PSt) {j : Nat} {q : Int} {s1 r1 : Int} (hr : ρ[j]? = some (some (.r 0 0))) (hp : 0 ≤ p) (h0 : 0 < many) (h1 : many < 1073741824) (hm : m ρ (rowO ns q s1 r1 :: R) = .ok (.p (.int many)) (rowO ns p s r :: R)) :
    ∃ d p' s' r', 0 ≤ d ∧ d < many ∧ 0 ≤ p' ∧ eCallD (callF (n + 1) 37) (aCons (eVar j) (aCons m aNil)) [] ρ (rowO ns q s1 r1 :: R) = .ok (.p (.int d)) (rowO ns p' s' r' :: R) := by
  obtain ⟨d, p', s', r', hd0, hd1, hp', e⟩ := e14 (n := n) (ns := ns) (p := p) (s := s) (r := r) (many := many) hp h0 h1 R
  exact ⟨d, p', s', r', hd0, hd1, hp', cl_ok (ac_ok (x := .r 0 0) (by simp only [sSeq, sNil, sExpr, sRet, sRetN, sIf, sAsg, sPar, sPar3, sRaise, gNm, gsNil, gsCons, gTp, gSubM, eVar, eC, e1, e2, aNil, aCons, eCallD, eTup, eLst, eLstM, newLst, eAnd, eOr, eNot, eIf, eChain, tVal, tTruth, tNotM, tAndM, tOrM, asB, truthM, eFrz, frz, pures, PM.guard, PM.stuck, le_ii, gt_ii, ge_ii, lt_ii, sub_ii, add_ii, toInt_i, retB_ok, pm_bind, pm_pure, ob_ok, ob_err, ts_ok, ts_err, then_nx, then_ret, then_err, then_ct, List.map_cons, List.map_nil, List.append_nil, List.nil_append, List.cons_append, List.length_cons, List.length_nil, List.replicate, Nat.sub_self, Nat.zero_add, List.getElem?_cons_zero, List.getElem?_cons_succ, List.set_cons_zero, List.set_cons_succ, if_true, if_false, Bool.false_eq_true, Bool.not_true, Bool.not_false, ite_true, ite_false, eq_self, reduceIte, Bool.true_eq_false, reduceCtorEq, hr]) (ac_ok hm rfl)) e⟩
theorem ea_ok {mo ma : EM} {ρ : Ev} {st s : PSt} {x y : PR} (h : mo ρ st = .ok x st) (h2 : lstR x st = .ok () st) (h3 : ma ρ st = .ok y st) (h4 : apM x y st = .ok (.p .non) s) : eAppend mo ma ρ st = .ok (.p .non) s := by
  show (mo ρ st).bind _ = _
  rw [h]
  show (lstR x st).bind _ = _
  rw [h2]
  show (ma ρ st).bind _ = _
  rw [h3]
  exact h4
theorem rng_ok {a : Ev → PM (List PR)} {ρ : Ev} {st : PSt} {j : Int} (h : a ρ st = .ok [.p (.int j)] st) (h0 : 0 ≤ j) (h1 : j ≤ 1000) : iRng1M a ρ st = .ok (wkR 0 j.toNat) st := by
  show (a ρ st).bind _ = _
  rw [h]
  show (if -(2 ^ 62) ≤ j ∧ j < 2 ^ 62 then (pure (wkR 0 j.toNat) : PM Wk) else PM.stuck) st = _
  rw [if_pos (by omega)]; rfl
theorem int_of {l : List Int} {v : PV} (h : v ∈ l.map .int) : ∃ m ∈ l, v = .int m := by
  obtain ⟨m, hm, e⟩ := List.mem_map.mp h
  exact ⟨m, hm, e.symm⟩
end K00

namespace K00
open PySem Vs
/-! the trees of the law, and what is made of them -/
inductive T where
  | non | waste | slabT | waste1 | unit | five | gone
  | slab (i : Int)
  | three (d : Bool) (at_ : Int) (a : T)
  | node (d : Bool) (at_ : Int) (a b : T)
def dirS (d : Bool) : Str := if d then "across" else "down"
def T.pv : T → PV
  | .non => .non
  | .waste => .tup [.str "waste"]
  | .slabT => .tup [.str "slab", .bl true]
  | .waste1 => .tup [.str "waste", .int 1]
  | .unit => .tup []
  | .five => .int 5
  | .gone => .tup [.str "gone"]
  | .slab i => .tup [.str "slab", .int i]
  | .three d k a => .tup [.str (dirS d), .int k, a.pv]
  | .node d k a b => .tup [.str (dirS d), .int k, a.pv, b.pv]
structure Ord where
  w : Int
  h : Int
  p : Int
def Ord.pv (o : Ord) : PV := .tup [.int o.w, .int o.h, .int o.p]
structure Told where
  k : Int
  os : List Ord
def Told.pv (t : Told) : PV := .tup [.int t.k, .tup (t.os.map Ord.pv)]
def Told.obj (t : Told) : PV := .obj 0 ["kerf", "orders"] [.int t.k, .tup (t.os.map Ord.pv)]
def sec (t : Told) (size k : Int) : Int := if size - k - t.k > 0 then size - k - t.k else 0
def fits (t : Told) (i W H : Int) : Bool := match t.os[i.toNat]? with
  | some o => decide (0 ≤ i) && (o.w == W && o.h == H)
  | none => false
def isNon : T → Bool
  | .non => true
  | _ => false
/-- is it a tree of a W by H piece -/
def tk (t : Told) : T → Int → Int → Bool
  | .waste, _, _ => true
  | .slab i, W, H => fits t i W H
  | .node d k a b, W, H => if d then decide (1 ≤ k) && decide (k < W) && tk t a k H && (if sec t W k = 0 ∨ H = 0 then isNon b else tk t b (sec t W k) H)
      else decide (1 ≤ k) && decide (k < H) && tk t a W k && (if W = 0 ∨ sec t H k = 0 then isNon b else tk t b W (sec t H k))
  | _, _, _ => false
/-- its slabs, as the law tells them -/
def sl (t : Told) : T → Int → Int → Int → Int → Option (List (Int × Int × Int))
  | .non, _, _, W, H => if W < 1 ∨ H < 1 then some [] else none
  | .waste, _, _, W, H => if W < 1 ∨ H < 1 then none else some []
  | .slab i, l, u, W, H => if W < 1 ∨ H < 1 then none else if fits t i W H = true then some [(l, u, i)] else none
  | .node d k a b, l, u, W, H => if W < 1 ∨ H < 1 then none else if 1 ≤ k ∧ k < (if d then W else H) then
        (if d then (match sl t a l u k H, sl t b (l + (k + t.k)) u (sec t W k) H with
          | some p, some q => some (p ++ q)
          | _, _ => none)
        else (match sl t a l u W k, sl t b l (u + (k + t.k)) W (sec t H k) with
          | some p, some q => some (p ++ q)
          | _, _ => none)) else none
  | _, _, _, _, _ => none
theorem sec_nn (t : Told) (n k : Int) : 0 ≤ sec t n k := by
  unfold sec
  split <;> omega
theorem sl_low (t : Told) (x : T) (l u W H : Int) (h : W < 1 ∨ H < 1) : (sl t x l u W H).isSome = isNon x := by
  cases x <;> simp only [sl, if_pos h, isNon, Option.isSome_some, Option.isSome_none]
theorem both_some {p q : Option (List (Int × Int × Int))} : (match p, q with
    | some p, some q => some (p ++ q)
    | _, _ => (none : Option (List (Int × Int × Int)))).isSome = (p.isSome && q.isSome) := by
  cases p <;> cases q <;> rfl
theorem sl_tk (t : Told) : ∀ (x : T) (l u W H : Int), 1 ≤ W → 1 ≤ H → (sl t x l u W H).isSome = tk t x W H := by
  intro x
  induction x with
  | node d k a b iha ihb =>
    intro l u W H hW hH
    have rest : ∀ (l u m n : Int), 0 ≤ m → 0 ≤ n → (sl t b l u m n).isSome = (if m = 0 ∨ n = 0 then isNon b else tk t b m n) := by
      intro l u m n hm hn
      by_cases z : m = 0 ∨ n = 0
      · rw [if_pos z, sl_low t b l u m n (by omega)]
      · rw [if_neg z, ihb l u m n (by omega) (by omega)]
    simp only [sl, tk]
    rw [if_neg (by omega)]
    cases d with
    | true =>
      simp only [if_true]
      by_cases hk : 1 ≤ k ∧ k < W
      · rw [if_pos hk, both_some, iha _ _ _ _ hk.1 hH, rest _ _ _ _ (sec_nn t W k) (by omega), decide_eq_true hk.1, decide_eq_true hk.2]
        simp only [Bool.true_and]
      · rw [if_neg hk]
        have : (decide (1 ≤ k) && decide (k < W)) = false := by
          rw [Bool.and_eq_false_iff, decide_eq_false_iff_not, decide_eq_false_iff_not]; omega
        rw [this]; rfl
    | false =>
      simp only [Bool.false_eq_true, if_false]
      by_cases hk : 1 ≤ k ∧ k < H
      · rw [if_pos hk, both_some, iha _ _ _ _ hW hk.1, rest _ _ _ _ (by omega) (sec_nn t H k), decide_eq_true hk.1, decide_eq_true hk.2]
        simp only [Bool.true_and]
      · rw [if_neg hk]
        have : (decide (1 ≤ k) && decide (k < H)) = false := by
          rw [Bool.and_eq_false_iff, decide_eq_false_iff_not, decide_eq_false_iff_not]; omega
        rw [this]; rfl
  | slab i =>
    intro l u W H hW hH
    simp only [sl, tk]
    rw [if_neg (by omega)]
    cases fits t i W H <;> rfl
  | non =>
    intro l u W H hW hH
    simp only [sl, tk]
    rw [if_neg (by omega)]; rfl
  | waste =>
    intro l u W H hW hH
    simp only [sl, tk]
    rw [if_neg (by omega)]; rfl
  | _ => intro l u W H hW hH; rfl
end K00
namespace K00
open PySem Vs
/-! is_told at the leaves -/
theorem tl_waste {n : Nat} (t : Told) (W H : Int) (st : PSt) : callF (n + 4) 14 [.p t.obj, .p (.int W), .p (.int H), .p T.waste.pv] st = .ok (.p (.bl true)) st := by rw [cf14]; refine defM_ret rfl ?_; kernel_rfl
theorem tl_non {n : Nat} (t : Told) (W H : Int) (st : PSt) : callF (n + 4) 14 [.p t.obj, .p (.int W), .p (.int H), .p T.non.pv] st = .ok (.p (.bl false)) st := by rw [cf14]; refine defM_ret rfl ?_; kernel_rfl
theorem tl_five {n : Nat} (t : Told) (W H : Int) (st : PSt) : callF (n + 4) 14 [.p t.obj, .p (.int W), .p (.int H), .p T.five.pv] st = .ok (.p (.bl false)) st := by rw [cf14]; refine defM_ret rfl ?_; kernel_rfl
theorem tl_unit {n : Nat} (t : Told) (W H : Int) (st : PSt) : callF (n + 4) 14 [.p t.obj, .p (.int W), .p (.int H), .p T.unit.pv] st = .ok (.p (.bl false)) st := by rw [cf14]; refine defM_ret rfl ?_; kernel_rfl
theorem tl_gone {n : Nat} (t : Told) (W H : Int) (st : PSt) : callF (n + 4) 14 [.p t.obj, .p (.int W), .p (.int H), .p T.gone.pv] st = .ok (.p (.bl false)) st := by rw [cf14]; refine defM_ret rfl ?_; kernel_rfl
theorem tl_waste1 {n : Nat} (t : Told) (W H : Int) (st : PSt) : callF (n + 4) 14 [.p t.obj, .p (.int W), .p (.int H), .p T.waste1.pv] st = .ok (.p (.bl false)) st := by rw [cf14]; refine defM_ret rfl ?_; kernel_rfl
theorem e3 {n : Nat} (l : List PV) (m : Int) (st : PSt) : callF (n + 1) 3 [.p (.tup l), .p (.int m)] st = .ok (.p (.bl ((l.length : Int) == m))) st := by
  rw [cf3]
  exact defM_ret rfl rfl
theorem ea_no {a b : EM} {ρ : Ev} {st s : PSt} (h : a ρ st = .ok (.p (.bl false)) s) : eAnd a b ρ st = .ok (.p (.bl false)) s := by
  show (a ρ st).bind _ = _
  rw [h]; rfl
theorem ea_yes {a b : EM} {ρ : Ev} {st s s' : PSt} {q : PR} (h : a ρ st = .ok (.p (.bl true)) s) (k : b ρ s = .ok q s') : eAnd a b ρ st = .ok q s' := by
  show (a ρ st).bind _ = _
  rw [h]; exact k
theorem tl_three {n : Nat} (t : Told) (d : Bool) (k : Int) (a : T) (W H : Int) (st : PSt) : callF (n + 4) 14 [.p t.obj, .p (.int W), .p (.int H), .p (T.three d k a).pv] st = .ok (.p (.bl false)) st := by
  rw [cf14]
  refine defM_ret rfl ?_
  have z := e3 (n := n + 2) [.str (dirS d), .int k, a.pv] 4 st
  refine sq_nx (ρ1 := [some (.p t.obj), some (.p (.int W)), some (.p (.int H)), some (.p (T.three d k a).pv)]) (s1 := st) (by cases d <;> kernel_rfl) (sq_nx (ρ1 := [some (.p t.obj), some (.p (.int W)), some (.p (.int H)), some (.p (T.three d k a).pv)]) (s1 := st) (by cases d <;> kernel_rfl) (sq_nx (ρ1 := [some (.p t.obj), some (.p (.int W)), some (.p (.int H)), some (.p (T.three d k a).pv)]) (s1 := st) (by cases d <;> kernel_rfl) (sq_ret (re_ok (ea_yes (s := st) (by cases d <;> kernel_rfl) (ea_no (cl_ok rfl z)))))))
theorem f_orders (t : Told) (st : PSt) : fldM [0] "orders" (.p t.obj) st = .ok (.p (.tup (t.os.map Ord.pv))) st := rfl
theorem f_kerf (t : Told) (st : PSt) : fldM [0] "kerf" (.p t.obj) st = .ok (.p (.int t.k)) st := rfl
theorem eq_pair (a b c d : Int) (st : PSt) : eqM (.p (.tup [.int a, .int b])) (.p (.tup [.int c, .int d])) st = .ok (.p (.bl (a == c && b == d))) st := by
  have e : eqM (.p (.tup [.int a, .int b])) (.p (.tup [.int c, .int d])) st = .ok (.p (.bl (a == c && (b == d && true)))) st := rfl
  rw [e, Bool.and_true]
theorem ord_at {t : Told} {i : Int} (h0 : 0 ≤ i) (h1 : i < t.os.length) (st : PSt) : ∃ o, t.os[i.toNat]? = some o ∧ ixM (.p (.tup (t.os.map Ord.pv))) (.p (.int i)) st = .ok (.p o.pv) st := by
  have lt : i.toNat < t.os.length := by omega
  refine ⟨t.os[i.toNat], List.getElem?_eq_getElem lt, ?_⟩
  have e : L2.ixN (t.os.map Ord.pv).length i = some i.toNat := by
    unfold L2.ixN
    rw [if_pos h0, if_pos (by rw [List.length_map]; exact h1)]
  show (match (L2.ixN (t.os.map Ord.pv).length i).bind (fun j => (t.os.map Ord.pv)[j]?) with | some v => Out.ok (PR.p v) st | none => .stuck) = _
  rw [e]
  simp [lt]
theorem cut2 (o : Ord) (st : PSt) : slM (.p o.pv) none (some 2) st = .ok (.p (.tup [.int o.w, .int o.h])) st := by rfl
theorem tl_slab {n : Nat} (t : Told) (i W H : Int) (st : PSt) : callF (n + 4) 14 [.p t.obj, .p (.int W), .p (.int H), .p (T.slab i).pv] st = .ok (.p (.bl (fits t i W H))) st := by
  rw [cf14]
  refine defM_ret rfl ?_
  have w1 := e1' (n := n + 1) (v := .int i) rfl 0 ((t.os.map Ord.pv).length - 1) st
  refine sq_nx (ρ1 := [some (.p t.obj), some (.p (.int W)), some (.p (.int H)), some (.p (T.slab i).pv)]) (s1 := st) (by kernel_rfl) (sq_nx (ρ1 := [some (.p t.obj), some (.p (.int W)), some (.p (.int H)), some (.p (T.slab i).pv)]) (s1 := st) (by kernel_rfl) (sq_ret (if_t (s := st) (by kernel_rfl) ?_)))
  have ln : tVal (e2 neM (e1 lenM (eVar 3)) (eC (.int 2))) [some (.p t.obj), some (.p (.int W)), some (.p (.int H)), some (.p (T.slab i).pv)] st = .ok false st := by kernel_rfl
  have t1 : tNotM (tTruth (eCallD (callF (n + 3) 1) (aCons (e2 ixM (eVar 3) (eC (.int 1))) (aCons (eC (.int 0)) (aCons (e2 subM (e1 lenM (e1 (fldM [0] "orders") (eVar 0))) (eC (.int 1))) aNil))) [])) [some (.p t.obj), some (.p (.int W)), some (.p (.int H)), some (.p (T.slab i).pv)] st = .ok (!within (.int i) 0 ((t.os.map Ord.pv).length - 1)) st :=
    tn_ok (tt_ok (cl_ok (ac_ok (e2_ok rfl rfl rfl) (ac_ok rfl (ac_ok (sub_lit (e1_ok (e1_ok rfl (f_orders ..)) rfl) rfl) rfl))) w1))
  by_cases hi : 0 ≤ i ∧ i < t.os.length
  · have wy : within (.int i) 0 ((t.os.map Ord.pv).length - 1) = true := yes_int ⟨hi.1, by rw [List.length_map]; omega⟩
    rw [wy] at t1
    obtain ⟨o, eo, ix⟩ := ord_at hi.1 hi.2 st
    refine sq_nx (if_f (or_f ln t1) rfl) (sq_ret (re_ok ?_))
    have ef : fits t i W H = (o.w == W && o.h == H) := by
      unfold fits
      rw [eo]
      show (decide (0 ≤ i) && _) = _
      rw [decide_eq_true hi.1, Bool.true_and]
    rw [ef]
    refine e2_ok (x := .p (.tup [.int o.w, .int o.h])) (s := st) ?_ (tp_ok (l := [.int W, .int H]) rfl lim2) (eq_pair ..)
    show ((e2 ixM (e1 (fldM [0] "orders") (eVar 0)) (e2 ixM (eVar 3) (eC (.int 1))) _ st).bind _) = _
    rw [e2_ok (e1_ok rfl (f_orders t st)) (e2_ok rfl rfl rfl) ix]
    exact cut2 o st
  · have wn : within (.int i) 0 ((t.os.map Ord.pv).length - 1) = false := no_int (by rw [List.length_map]; omega)
    rw [wn] at t1
    have ef : fits t i W H = false := by
      unfold fits
      by_cases h0 : 0 ≤ i
      · rw [List.getElem?_eq_none (by omega)]
      · cases t.os[i.toNat]? with
        | none => rfl
        | some o => show (decide (0 ≤ i) && _) = false; rw [decide_eq_false h0, Bool.false_and]
    rw [ef]
    exact sq_ret (if_t (or_f ln t1) (by simp only [sSeq, sNil, sExpr, sRet, sRetN, sIf, sAsg, sPar, sPar3, sRaise, gNm, gsNil, gsCons, gTp, gSubM, eVar, eC, e1, e2, aNil, aCons, eCallD, eTup, eLst, eLstM, newLst, eAnd, eOr, eNot, eIf, eChain, tVal, tTruth, tNotM, tAndM, tOrM, asB, truthM, eFrz, frz, pures, PM.guard, PM.stuck, le_ii, gt_ii, ge_ii, lt_ii, sub_ii, add_ii, toInt_i, retB_ok, pm_bind, pm_pure, ob_ok, ob_err, ts_ok, ts_err, then_nx, then_ret, then_err, then_ct, List.map_cons, List.map_nil, List.append_nil, List.nil_append, List.cons_append, List.length_cons, List.length_nil, List.replicate, Nat.sub_self, Nat.zero_add, List.getElem?_cons_zero, List.getElem?_cons_succ, List.set_cons_zero, List.set_cons_succ, if_true, if_false, Bool.false_eq_true, Bool.not_true, Bool.not_false, ite_true, ite_false, eq_self, reduceIte, Bool.true_eq_false, reduceCtorEq]))
theorem tl_slabT {n : Nat} (t : Told) (W H : Int) (st : PSt) : callF (n + 4) 14 [.p t.obj, .p (.int W), .p (.int H), .p T.slabT.pv] st = .ok (.p (.bl false)) st := by
  rw [cf14]
  refine defM_ret rfl ?_
  have w1 := e1' (n := n + 1) (v := .bl true) rfl 0 ((t.os.map Ord.pv).length - 1) st
  refine sq_nx (ρ1 := [some (.p t.obj), some (.p (.int W)), some (.p (.int H)), some (.p T.slabT.pv)]) (s1 := st) (by kernel_rfl) (sq_nx (ρ1 := [some (.p t.obj), some (.p (.int W)), some (.p (.int H)), some (.p T.slabT.pv)]) (s1 := st) (by kernel_rfl) (sq_ret (if_t (s := st) (by kernel_rfl) ?_)))
  have ln : tVal (e2 neM (e1 lenM (eVar 3)) (eC (.int 2))) [some (.p t.obj), some (.p (.int W)), some (.p (.int H)), some (.p T.slabT.pv)] st = .ok false st := by kernel_rfl
  have t1 : tNotM (tTruth (eCallD (callF (n + 3) 1) (aCons (e2 ixM (eVar 3) (eC (.int 1))) (aCons (eC (.int 0)) (aCons (e2 subM (e1 lenM (e1 (fldM [0] "orders") (eVar 0))) (eC (.int 1))) aNil))) [])) [some (.p t.obj), some (.p (.int W)), some (.p (.int H)), some (.p T.slabT.pv)] st = .ok true st :=
    tn_ok (b := false) (tt_ok (cl_ok (ac_ok (e2_ok rfl rfl rfl) (ac_ok rfl (ac_ok (sub_lit (e1_ok (e1_ok rfl (f_orders ..)) rfl) rfl) rfl))) w1))
  exact sq_ret (if_t (or_f ln t1) (by simp only [sSeq, sNil, sExpr, sRet, sRetN, sIf, sAsg, sPar, sPar3, sRaise, gNm, gsNil, gsCons, gTp, gSubM, eVar, eC, e1, e2, aNil, aCons, eCallD, eTup, eLst, eLstM, newLst, eAnd, eOr, eNot, eIf, eChain, tVal, tTruth, tNotM, tAndM, tOrM, asB, truthM, eFrz, frz, pures, PM.guard, PM.stuck, le_ii, gt_ii, ge_ii, lt_ii, sub_ii, add_ii, toInt_i, retB_ok, pm_bind, pm_pure, ob_ok, ob_err, ts_ok, ts_err, then_nx, then_ret, then_err, then_ct, List.map_cons, List.map_nil, List.append_nil, List.nil_append, List.cons_append, List.length_cons, List.length_nil, List.replicate, Nat.sub_self, Nat.zero_add, List.getElem?_cons_zero, List.getElem?_cons_succ, List.set_cons_zero, List.set_cons_succ, if_true, if_false, Bool.false_eq_true, Bool.not_true, Bool.not_false, ite_true, ite_false, eq_self, reduceIte, Bool.true_eq_false, reduceCtorEq]))
end K00
namespace K00
open PySem Vs
theorem e11 {n : Nat} (t : Told) (size k : Int) (st : PSt) : callF (n + 1) 11 [.p t.obj, .p (.int size), .p (.int k)] st = .ok (.p (.int (sec t size k))) st := by
  rw [cf11]
  exact defM_ret rfl rfl
theorem or_t {a b : TM} {ρ : Ev} {st s : PSt} (h : a ρ st = .ok true s) : tOrM a b ρ st = .ok true s := by
  show (a ρ st).bind _ = _
  rw [h]; rfl
def dep : T → Nat
  | .node _ _ a b => max (dep a) (dep b) + 1
  | _ => 0
def rst (t : Told) (x : T) (W H : Int) : Bool := if W = 0 ∨ H = 0 then isNon x else tk t x W H
theorem is_non (x : T) (st : PSt) : isNM true (.p x.pv) (.p .non) st = .ok (.p (.bl (isNon x))) st := by
  cases x <;> rfl
theorem e13 {n : Nat} {t : Told} {x : T} {W H : Int} {st : PSt} (h : callF n 14 [.p t.obj, .p (.int W), .p (.int H), .p x.pv] st = .ok (.p (.bl (tk t x W H))) st) : callF (n + 1) 13 [.p t.obj, .p (.int W), .p (.int H), .p x.pv] st = .ok (.p (.bl (rst t x W H))) st := by
  rw [cf13]
  refine defM_ret rfl ?_
  have t1 : tVal (e2 eqM (eVar 1) (eC (.int 0))) [some (.p t.obj), some (.p (.int W)), some (.p (.int H)), some (.p x.pv)] st = .ok (W == 0) st := tv_ok (e2_ok rfl rfl (eq_int ..))
  have t2 : tVal (e2 eqM (eVar 2) (eC (.int 0))) [some (.p t.obj), some (.p (.int W)), some (.p (.int H)), some (.p x.pv)] st = .ok (H == 0) st := tv_ok (e2_ok rfl rfl (eq_int ..))
  unfold rst
  by_cases z : W = 0 ∨ H = 0
  · rw [if_pos z]
    have t3 : tOrM (tVal (e2 eqM (eVar 1) (eC (.int 0)))) (tVal (e2 eqM (eVar 2) (eC (.int 0)))) [some (.p t.obj), some (.p (.int W)), some (.p (.int H)), some (.p x.pv)] st = .ok true st := by
      by_cases w : W = 0
      · subst w
        exact or_t t1
      · have hh : H = 0 := z.resolve_left w
        subst hh
        exact or_f (by rw [t1]; simp [w]) t2
    exact sq_ret (if_t t3 (sq_ret (re_ok (e2_ok rfl rfl (is_non x st)))))
  · rw [if_neg z]
    have w1 : (W == 0) = false := by simp; omega
    have w2 : (H == 0) = false := by simp; omega
    rw [w1] at t1
    rw [w2] at t2
    exact sq_nx (if_f (or_f t1 t2) rfl) (sq_ret (re_ok (cl_ok rfl h)))
theorem e12 {n : Nat} {t : Told} {d : Bool} {k : Int} {a b : T} {W H : Int} {st : PSt}
    (ha : ∀ W H, callF (n + 2) 14 [.p t.obj, .p (.int W), .p (.int H), .p a.pv] st = .ok (.p (.bl (tk t a W H))) st) (hb : ∀ W H, callF (n + 1) 14 [.p t.obj, .p (.int W), .p (.int H), .p b.pv] st = .ok (.p (.bl (tk t b W H))) st) :
    callF (n + 3) 12 [.p t.obj, .p (.int W), .p (.int H), .p (T.node d k a b).pv] st = .ok (.p (.bl (tk t (.node d k a b) W H))) st := by
  rw [cf12]
  refine defM_ret rfl ?_
  have w := e1' (n := n) (v := .int k) rfl 1 ((if d then W else H) - 1) st
  have q := e11 (n := n + 1) t (if d then W else H) k st
  refine sq_nx (ρ1 := [some (.p t.obj), some (.p (.int W)), some (.p (.int H)), some (.p (T.node d k a b).pv), some (.p (.int (if d then W else H))), none]) (s1 := st) (by cases d <;> kernel_rfl) ?_
  have t1 : tNotM (tTruth (eCallD (callF (n + 2) 1) (aCons (e2 ixM (eVar 3) (eC (.int 1))) (aCons (eC (.int 1)) (aCons (e2 subM (eVar 4) (eC (.int 1))) aNil))) [])) [some (.p t.obj), some (.p (.int W)), some (.p (.int H)), some (.p (T.node d k a b).pv), some (.p (.int (if d then W else H))), none] st = .ok (!within (.int k) 1 ((if d then W else H) - 1)) st :=
    tn_ok (tt_ok (cl_ok (ac_ok (e2_ok rfl rfl rfl) (ac_ok rfl (ac_ok (sub_lit rfl rfl) rfl))) w))
  have nd : tk t (.node d k a b) W H = (within (.int k) 1 ((if d then W else H) - 1) && (if d then tk t a k H && rst t b (sec t W k) H else tk t a W k && rst t b W (sec t H k))) := by
    have wd : within (.int k) 1 ((if d then W else H) - 1) = (decide (1 ≤ k) && decide (k < if d then W else H)) := by
      show (decide (1 ≤ k) && decide (k ≤ (if d then W else H) - 1)) = _
      congr 1
      exact decide_eq_decide.mpr (by omega)
    rw [wd]
    cases d <;> simp only [tk, rst, if_true, Bool.false_eq_true, if_false, Bool.and_assoc]
  rw [nd]
  cases hw : within (.int k) 1 ((if d then W else H) - 1) with
  | false =>
    rw [hw] at t1
    exact sq_ret (if_t t1 (by simp only [sSeq, sNil, sExpr, sRet, sRetN, sIf, sAsg, sPar, sPar3, sRaise, gNm, gsNil, gsCons, gTp, gSubM, eVar, eC, e1, e2, aNil, aCons, eCallD, eTup, eLst, eLstM, newLst, eAnd, eOr, eNot, eIf, eChain, tVal, tTruth, tNotM, tAndM, tOrM, asB, truthM, eFrz, frz, pures, PM.guard, PM.stuck, le_ii, gt_ii, ge_ii, lt_ii, sub_ii, add_ii, toInt_i, retB_ok, pm_bind, pm_pure, ob_ok, ob_err, ts_ok, ts_err, then_nx, then_ret, then_err, then_ct, List.map_cons, List.map_nil, List.append_nil, List.nil_append, List.cons_append, List.length_cons, List.length_nil, List.replicate, Nat.sub_self, Nat.zero_add, List.getElem?_cons_zero, List.getElem?_cons_succ, List.set_cons_zero, List.set_cons_succ, if_true, if_false, Bool.false_eq_true, Bool.not_true, Bool.not_false, ite_true, ite_false, eq_self, reduceIte, Bool.true_eq_false, reduceCtorEq, Bool.false_and]))
  | true =>
    rw [hw] at t1
    rw [Bool.true_and]
    refine sq_nx (if_f t1 rfl) (sq_nx (as_ok (cl_ok (ac_ok rfl (ac_ok rfl (ac_ok (e2_ok rfl rfl rfl) rfl))) q)) ?_)
    cases d with
    | true =>
      refine sq_ret (if_t (s := st) (by kernel_rfl) (sq_ret (re_ok ?_)))
      have x1 := ha k H
      have x2 := e13 (hb (sec t W k) H)
      cases h1 : tk t a k H with
      | false => rw [h1] at x1; exact ea_no (cl_ok (ac_ok rfl (ac_ok (e2_ok rfl rfl rfl) (ac_ok rfl (ac_ok (e2_ok rfl rfl rfl) rfl)))) x1)
      | true => rw [h1] at x1; exact ea_yes (cl_ok (ac_ok rfl (ac_ok (e2_ok rfl rfl rfl) (ac_ok rfl (ac_ok (e2_ok rfl rfl rfl) rfl)))) x1) (cl_ok (ac_ok rfl (ac_ok rfl (ac_ok rfl (ac_ok (e2_ok rfl rfl rfl) rfl)))) x2)
    | false =>
      refine sq_nx (if_f (s := st) (by kernel_rfl) rfl) (sq_ret (re_ok ?_))
      have x1 := ha W k
      have x2 := e13 (hb W (sec t H k))
      cases h1 : tk t a W k with
      | false => rw [h1] at x1; exact ea_no (cl_ok (ac_ok rfl (ac_ok rfl (ac_ok (e2_ok rfl rfl rfl) (ac_ok (e2_ok rfl rfl rfl) rfl)))) x1)
      | true => rw [h1] at x1; exact ea_yes (cl_ok (ac_ok rfl (ac_ok rfl (ac_ok (e2_ok rfl rfl rfl) (ac_ok (e2_ok rfl rfl rfl) rfl)))) x1) (cl_ok (ac_ok rfl (ac_ok rfl (ac_ok rfl (ac_ok (e2_ok rfl rfl rfl) rfl)))) x2)
end K00
namespace K00
open PySem Vs
theorem told_ok (t : Told) : ∀ (x : T) (n : Nat) (W H : Int) (st : PSt), 3 * dep x ≤ n → callF (n + 4) 14 [.p t.obj, .p (.int W), .p (.int H), .p x.pv] st = .ok (.p (.bl (tk t x W H))) st := by
  intro x
  induction x with
  | non => intro n W H st _; exact tl_non t W H st
  | waste => intro n W H st _; exact tl_waste t W H st
  | slabT => intro n W H st _; exact tl_slabT t W H st
  | waste1 => intro n W H st _; exact tl_waste1 t W H st
  | unit => intro n W H st _; exact tl_unit t W H st
  | five => intro n W H st _; exact tl_five t W H st
  | gone => intro n W H st _; exact tl_gone t W H st
  | slab i => intro n W H st _; exact tl_slab t i W H st
  | three d k a _ => intro n W H st _; exact tl_three t d k a W H st
  | node d k a b iha ihb =>
    intro n W H st hn
    have hn : 3 * (max (dep a) (dep b) + 1) ≤ n := hn
    obtain ⟨m, rfl⟩ : ∃ m, n = m + 3 := ⟨n - 3, by omega⟩
    have z := e3 (n := m + 5) [.str (dirS d), .int k, a.pv, b.pv] 4 st
    have c := e12 (n := m + 3) (t := t) (d := d) (k := k) (a := a) (b := b) (W := W) (H := H) (st := st) (fun W H => iha (m + 1) W H st (by omega)) (fun W H => ihb m W H st (by omega))
    rw [cf14]
    refine defM_ret rfl ?_
    exact sq_nx (ρ1 := [some (.p t.obj), some (.p (.int W)), some (.p (.int H)), some (.p (T.node d k a b).pv)]) (s1 := st) (by cases d <;> kernel_rfl) (sq_nx (ρ1 := [some (.p t.obj), some (.p (.int W)), some (.p (.int H)), some (.p (T.node d k a b).pv)]) (s1 := st) (by cases d <;> kernel_rfl) (sq_nx (ρ1 := [some (.p t.obj), some (.p (.int W)), some (.p (.int H)), some (.p (T.node d k a b).pv)]) (s1 := st) (by cases d <;> kernel_rfl) (sq_ret (re_ok (ea_yes (s := st) (by cases d <;> kernel_rfl) (ea_yes (cl_ok rfl z) (cl_ok rfl c)))))))
end K00
namespace K00
open PySem Vs
/-! trees as data -/
def T.pd : T → PyData
  | .non => .none
  | .waste => .tuple [.str "waste"]
  | .slabT => .tuple [.str "slab", .bool true]
  | .waste1 => .tuple [.str "waste", .int 1]
  | .unit => .tuple []
  | .five => .int 5
  | .gone => .tuple [.str "gone"]
  | .slab i => .tuple [.str "slab", .int i]
  | .three d k a => .tuple [.str (dirS d), .int k, a.pd]
  | .node d k a b => .tuple [.str (dirS d), .int k, a.pd, b.pd]
/-- nesting, three told too -/
def dp : T → Nat
  | .node _ _ a b => max (dp a) (dp b) + 1
  | .three _ _ a => dp a + 1
  | _ => 1
theorem toD_pv : ∀ x : T, toD x.pv = some x.pd
  | .non => rfl | .waste => rfl | .slabT => rfl | .waste1 => rfl | .unit => rfl | .five => rfl | .gone => rfl | .slab _ => rfl
  | .three d k a => by
    show (toDs [.str (dirS d), .int k, a.pv]).map PyData.tuple = _
    simp only [toDs, toD, toD_pv a, Option.map_some]; rfl
  | .node d k a b => by
    show (toDs [.str (dirS d), .int k, a.pv, b.pv]).map PyData.tuple = _
    simp only [toDs, toD, toD_pv a, toD_pv b, Option.map_some]; rfl
theorem lay_dir (d : Bool) : PyData.strOk (dirS d) = true := by cases d <;> decide +kernel
theorem lay_pd : ∀ x : T, x.pd.canLay0 = true
  | .non => rfl | .waste => by decide +kernel | .slabT => by decide +kernel | .waste1 => by decide +kernel | .unit => rfl | .five => rfl | .gone => by decide +kernel
  | .slab i => by
    show (PyData.strOk "slab" && (true && true)) = true
    decide +kernel
  | .three d k a => by
    show (PyData.strOk (dirS d) && (true && (a.pd.canLay0 && true))) = true
    rw [lay_dir, lay_pd a]; rfl
  | .node d k a b => by
    show (PyData.strOk (dirS d) && (true && (a.pd.canLay0 && (b.pd.canLay0 && true)))) = true
    rw [lay_dir, lay_pd a, lay_pd b]; rfl
theorem depth_pd : ∀ x : T, x.pd.depth ≤ dp x
  | .non => Nat.zero_le _ | .waste => Nat.le_refl _ | .slabT => Nat.le_refl _ | .waste1 => Nat.le_refl _ | .unit => Nat.le_refl _ | .five => Nat.zero_le _ | .gone => Nat.le_refl _ | .slab _ => Nat.le_refl _
  | .three d k a => by
    have h := depth_pd a
    show max 0 (max 0 (max a.pd.depth 0)) + 1 ≤ dp a + 1
    omega
  | .node d k a b => by
    have h := depth_pd a
    have h2 := depth_pd b
    show max 0 (max 0 (max a.pd.depth (max b.pd.depth 0))) + 1 ≤ max (dp a) (dp b) + 1
    omega
theorem shaped_pd {x : T} (h : dp x ≤ 64) : SeqAt.shaped x.pd = true := by
  show (x.pd.canLay0 && decide (x.pd.depth ≤ 64)) = true
  rw [lay_pd, Bool.true_and, decide_eq_true_eq]
  exact Nat.le_trans (depth_pd x) h
def isUnit : T → Bool
  | .unit => true
  | _ => false
theorem eq_unit {x : T} (h : dp x ≤ 64) (st : PSt) : eqM (.p x.pv) (.p (.tup [])) st = .ok (.p (.bl (isUnit x))) st := by
  have e1 : dOf st (.p x.pv) = some x.pd := toD_pv x
  have e2 : dOf st (.p (.tup [])) = some (.tuple []) := rfl
  unfold eqM Vs.dat2
  simp only [e1, e2]
  rw [if_pos ⟨shaped_pd h, rfl⟩]
  cases x <;> rfl
end K00
namespace K00
open PySem Vs
/-! _law_slabs -/
def triV (q : Int × Int × Int) : PV := .tup [.int q.1, .int q.2.1, .int q.2.2]
def slV : Option (List (Int × Int × Int)) → PV
  | none => .non
  | some l => .lst (l.map triV)
def isTup : T → Bool
  | .non => false
  | .five => false
  | _ => true
abbrev E27 (t : Told) (x : T) (l u W H : Int) (a b c d e f g : Option PR) : Ev := [some (.p t.pv), some (.p x.pv), some (.p (.int l)), some (.p (.int u)), some (.p (.int W)), some (.p (.int H)), a, b, c, d, e, f, g]
theorem isi_tup (x : T) (st : PSt) : isiM [0, 1] [.ty "tuple"] (.p x.pv) st = .ok (.p (.bl (isTup x))) st := by cases x <;> rfl
theorem or_tt {a b : TM} {ρ : Ev} {st : PSt} {p q : Bool} (h : a ρ st = .ok p st) (k : b ρ st = .ok q st) : tOrM a b ρ st = .ok (p || q) st := by
  show (a ρ st).bind _ = _
  rw [h]
  cases p
  · exact k
  · rfl
theorem and_tt {a b : TM} {ρ : Ev} {st : PSt} {p q : Bool} (h : a ρ st = .ok p st) (k : b ρ st = .ok q st) : tAndM a b ρ st = .ok (p && q) st := by
  show (a ρ st).bind _ = _
  rw [h]
  cases p
  · rfl
  · exact k
theorem low27 {t : Told} {x : T} {l u W H : Int} {a b c d e f g : Option PR} {st : PSt} (hx : dp x ≤ 64) :
    tOrM (tNotM (tTruth (e1 (isiM [0, 1] [(.ty "tuple")]) (eVar 1)))) (tOrM (tVal (e2 eqM (eVar 1) (eTup aNil))) (tOrM (tVal (e2 ltM (eVar 4) (eC (.int 1)))) (tVal (e2 ltM (eVar 5) (eC (.int 1)))))) (E27 t x l u W H a b c d e f g) st = .ok (!isTup x || (isUnit x || (decide (W < 1) || decide (H < 1)))) st :=
  or_tt (tn_ok (tt_ok (e1_ok rfl (isi_tup x st)))) (or_tt (tv_ok (e2_ok rfl (tp_ok (l := []) rfl (Nat.zero_le _)) (eq_unit hx st))) (or_tt (tv_ok (e2_ok rfl rfl (lt_ii ..))) (tv_ok (e2_ok rfl rfl (lt_ii ..)))))
end K00
namespace K00
open PySem Vs
theorem ei_t {t : TM} {a b : EM} {ρ : Ev} {st s : PSt} {o : Out PR} (h : t ρ st = .ok true s) (k : a ρ s = o) : eIf t a b ρ st = o := by
  show (t ρ st).bind _ = _
  rw [h]; exact k
theorem ei_f {t : TM} {a b : EM} {ρ : Ev} {st s : PSt} {o : Out PR} (h : t ρ st = .ok false s) (k : b ρ s = o) : eIf t a b ρ st = o := by
  show (t ρ st).bind _ = _
  rw [h]; exact k
/-- where nothing is to be sawn, or no tree stands -/
theorem sl27_low {n : Nat} {t : Told} {x : T} {l u W H : Int} {st : PSt} (hx : dp x ≤ 64) (h : (!isTup x || (isUnit x || (decide (W < 1) || decide (H < 1)))) = true) : callF (n + 1) 42 [.p t.pv, .p x.pv, .p (.int l), .p (.int u), .p (.int W), .p (.int H)] st = .ok (.p (slV (sl t x l u W H))) st := by
  rw [cf42]
  have g := low27 (t := t) (l := l) (u := u) (W := W) (H := H) (a := none) (b := none) (c := none) (d := none) (e := none) (f := none) (g := none) (st := st) hx
  rw [h] at g
  have t2 : tAndM (tVal (e2 (isNM true) (eVar 1) (eC .non))) (tOrM (tVal (e2 ltM (eVar 4) (eC (.int 1)))) (tVal (e2 ltM (eVar 5) (eC (.int 1))))) (E27 t x l u W H none none none none none none none) st = .ok (isNon x && (decide (W < 1) || decide (H < 1))) st :=
    and_tt (tv_ok (e2_ok rfl rfl (is_non x st))) (or_tt (tv_ok (e2_ok rfl rfl (lt_ii ..))) (tv_ok (e2_ok rfl rfl (lt_ii ..))))
  refine defM_ret rfl (sq_ret (if_t g (sq_ret (re_ok ?_))))
  have ev : slV (sl t x l u W H) = if (isNon x && (decide (W < 1) || decide (H < 1))) = true then PV.lst [] else .non := by
    by_cases z : W < 1 ∨ H < 1
    · have zz : (decide (W < 1) || decide (H < 1)) = true := by simpa using z
      rw [zz]
      cases x <;> simp only [sl, if_pos z, isNon, slV, List.map_nil, Bool.true_and, Bool.false_and, if_true, Bool.false_eq_true, if_false]
    · have zz : (decide (W < 1) || decide (H < 1)) = false := by
        rw [Bool.or_eq_false_iff, decide_eq_false_iff_not, decide_eq_false_iff_not]; omega
      rw [zz, Bool.or_false] at h
      rw [zz, Bool.and_false]
      cases x with
      | non => simp only [sl, if_neg z, slV]; rfl
      | five => rfl
      | unit => rfl
      | _ => cases h
  rw [ev]
  by_cases c : (isNon x && (decide (W < 1) || decide (H < 1))) = true
  · rw [if_pos c]
    rw [c] at t2
    exact ei_t t2 (ls_ok (l := []) rfl (Nat.zero_le _))
  · rw [if_neg c]
    have c' : (isNon x && (decide (W < 1) || decide (H < 1))) = false := by simpa using c
    rw [c'] at t2
    exact ei_f t2 rfl
end K00
namespace K00
open PySem Vs
theorem hi_dec {W H : Int} (hW : 1 ≤ W) (hH : 1 ≤ H) : (decide (W < 1) || decide (H < 1)) = false := by
  rw [Bool.or_eq_false_iff, decide_eq_false_iff_not, decide_eq_false_iff_not]; omega
theorem sl27_waste {n : Nat} {t : Told} {l u W H : Int} {st : PSt} (hW : 1 ≤ W) (hH : 1 ≤ H) : callF (n + 1) 42 [.p t.pv, .p T.waste.pv, .p (.int l), .p (.int u), .p (.int W), .p (.int H)] st = .ok (.p (slV (sl t .waste l u W H))) st := by
  rw [cf42]
  have g := low27 (t := t) (x := .waste) (l := l) (u := u) (W := W) (H := H) (a := none) (b := none) (c := none) (d := none) (e := none) (f := none) (g := none) (st := st) (by decide)
  rw [hi_dec hW hH] at g
  simp only [sl]
  rw [if_neg (by omega)]
  exact defM_ret rfl (sq_nx (if_f g rfl) (by kernel_rfl))
theorem sl27_waste1 {n : Nat} {t : Told} {l u W H : Int} {st : PSt} (hW : 1 ≤ W) (hH : 1 ≤ H) : callF (n + 1) 42 [.p t.pv, .p T.waste1.pv, .p (.int l), .p (.int u), .p (.int W), .p (.int H)] st = .ok (.p (slV (sl t .waste1 l u W H))) st := by
  rw [cf42]
  have g := low27 (t := t) (x := .waste1) (l := l) (u := u) (W := W) (H := H) (a := none) (b := none) (c := none) (d := none) (e := none) (f := none) (g := none) (st := st) (by decide)
  rw [hi_dec hW hH] at g
  exact defM_ret rfl (sq_nx (if_f g rfl) (by kernel_rfl))
theorem sl27_gone {n : Nat} {t : Told} {l u W H : Int} {st : PSt} (hW : 1 ≤ W) (hH : 1 ≤ H) : callF (n + 1) 42 [.p t.pv, .p T.gone.pv, .p (.int l), .p (.int u), .p (.int W), .p (.int H)] st = .ok (.p (slV (sl t .gone l u W H))) st := by
  rw [cf42]
  have g := low27 (t := t) (x := .gone) (l := l) (u := u) (W := W) (H := H) (a := none) (b := none) (c := none) (d := none) (e := none) (f := none) (g := none) (st := st) (by decide)
  rw [hi_dec hW hH] at g
  exact defM_ret rfl (sq_nx (if_f g rfl) (by kernel_rfl))
theorem sl27_slabT {n : Nat} {t : Told} {l u W H : Int} {st : PSt} (hW : 1 ≤ W) (hH : 1 ≤ H) : callF (n + 1) 42 [.p t.pv, .p T.slabT.pv, .p (.int l), .p (.int u), .p (.int W), .p (.int H)] st = .ok (.p (slV (sl t .slabT l u W H))) st := by
  rw [cf42]
  have g := low27 (t := t) (x := .slabT) (l := l) (u := u) (W := W) (H := H) (a := none) (b := none) (c := none) (d := none) (e := none) (f := none) (g := none) (st := st) (by decide)
  rw [hi_dec hW hH] at g
  exact defM_ret rfl (sq_nx (if_f g rfl) (by kernel_rfl))
theorem sl27_three {n : Nat} {t : Told} {d : Bool} {k : Int} {x : T} {l u W H : Int} {st : PSt} (hx : dp (.three d k x) ≤ 64) (hW : 1 ≤ W) (hH : 1 ≤ H) : callF (n + 1) 42 [.p t.pv, .p (T.three d k x).pv, .p (.int l), .p (.int u), .p (.int W), .p (.int H)] st = .ok (.p (slV (sl t (.three d k x) l u W H))) st := by
  rw [cf42]
  have g := low27 (t := t) (x := .three d k x) (l := l) (u := u) (W := W) (H := H) (a := none) (b := none) (c := none) (d := none) (e := none) (f := none) (g := none) (st := st) hx
  rw [hi_dec hW hH] at g
  exact defM_ret rfl (sq_nx (if_f g rfl) (by cases d <;> kernel_rfl))
end K00
namespace K00
open PySem Vs
theorem pv_orders (t : Told) (st : PSt) : ixM (.p t.pv) (.p (.int 1)) st = .ok (.p (.tup (t.os.map Ord.pv))) st := rfl
theorem pv_kerf (t : Told) (st : PSt) : ixM (.p t.pv) (.p (.int 0)) st = .ok (.p (.int t.k)) st := rfl
theorem sl27_slab {n : Nat} {t : Told} {i l u W H : Int} {st : PSt} (hW : 1 ≤ W) (hH : 1 ≤ H) : callF (n + 1) 42 [.p t.pv, .p (T.slab i).pv, .p (.int l), .p (.int u), .p (.int W), .p (.int H)] st = .ok (.p (slV (sl t (.slab i) l u W H))) st := by
  rw [cf42]
  have g := low27 (t := t) (x := .slab i) (l := l) (u := u) (W := W) (H := H) (a := none) (b := none) (c := none) (d := none) (e := none) (f := none) (g := none) (st := st) (by show 1 ≤ 64; omega)
  rw [hi_dec hW hH] at g
  have gd : eAnd (e2 eqM (e1 lenM (eVar 1)) (eC (.int 2))) (eAnd (e1 (isiM [0, 1] [(.ty "int")]) (e2 ixM (eVar 1) (eC (.int 1)))) (eAnd (eNot (e1 (isiM [0, 1] [(.ty "bool")]) (e2 ixM (eVar 1) (eC (.int 1))))) (eChain leM ltM (eC (.int 0)) (e2 ixM (eVar 1) (eC (.int 1))) (e1 lenM (e2 ixM (eVar 0) (eC (.int 1))))))) (E27 t (.slab i) l u W H none none none none none none none) st = .ok (.p (.bl (decide (0 ≤ i) && decide (i < (t.os.map Ord.pv).length)))) st := by
    refine ea_yes (s := st) (by kernel_rfl) (ea_yes (s := st) (by kernel_rfl) (ea_yes (s := st) (by kernel_rfl) ?_))
    have ln : ∀ st : PSt, lenM (.p (.tup (t.os.map Ord.pv))) st = .ok (.p (.int (t.os.map Ord.pv).length)) st := fun _ => rfl
    have ii : ixM (.p (T.slab i).pv) (.p (.int 1)) st = .ok (.p (.int i)) st := rfl
    by_cases h0 : 0 ≤ i <;> simp only [sSeq, sNil, sExpr, sRet, sRetN, sIf, sAsg, sPar, sPar3, sRaise, gNm, gsNil, gsCons, gTp, gSubM, eVar, eC, e1, e2, aNil, aCons, eCallD, eTup, eLst, eLstM, newLst, eAnd, eOr, eNot, eIf, eChain, tVal, tTruth, tNotM, tAndM, tOrM, asB, truthM, eFrz, frz, pures, PM.guard, PM.stuck, le_ii, gt_ii, ge_ii, lt_ii, sub_ii, add_ii, toInt_i, retB_ok, pm_bind, pm_pure, ob_ok, ob_err, ts_ok, ts_err, then_nx, then_ret, then_err, then_ct, List.map_cons, List.map_nil, List.append_nil, List.nil_append, List.cons_append, List.length_cons, List.length_nil, List.replicate, Nat.sub_self, Nat.zero_add, List.getElem?_cons_zero, List.getElem?_cons_succ, List.set_cons_zero, List.set_cons_succ, if_true, if_false, Bool.false_eq_true, Bool.not_true, Bool.not_false, ite_true, ite_false, eq_self, reduceIte, Bool.true_eq_false, reduceCtorEq, ii, pv_orders, ln, h0, decide_true, decide_false, Bool.true_and, Bool.false_and]
  refine defM_ret rfl (sq_nx (if_f g rfl) (sq_nx (ρ1 := E27 t (.slab i) l u W H none none none none none none none) (s1 := st) (by kernel_rfl) (sq_ret (if_t (s := st) (by kernel_rfl) (sq_nx (as_ok gd) (sq_ret (re_ok ?_)))))))
  have es : sl t (.slab i) l u W H = if fits t i W H = true then some [(l, u, i)] else none := by
    simp only [sl]
    rw [if_neg (by omega)]
  rw [es]
  by_cases hi : 0 ≤ i ∧ i < t.os.length
  · obtain ⟨o, eo, ix⟩ := ord_at hi.1 hi.2 st
    have ef : fits t i W H = (o.w == W && o.h == H) := by
      unfold fits
      rw [eo]
      show (decide (0 ≤ i) && _) = _
      rw [decide_eq_true hi.1, Bool.true_and]
    have bt : (decide (0 ≤ i) && decide (i < (t.os.map Ord.pv).length)) = true := by
      rw [decide_eq_true hi.1, Bool.true_and, decide_eq_true_eq, List.length_map]; exact hi.2
    rw [bt]
    have t2 : tVal (e2 eqM (eSl (e2 ixM (e2 ixM (eVar 0) (eC (.int 1))) (e2 ixM (eVar 1) (eC (.int 1)))) pNo (pSome (eC (.int 2)))) (eTup (aCons (eVar 4) (aCons (eVar 5) aNil)))) (E27 t (.slab i) l u W H (some (.p (.bl true))) none none none none none none) st = .ok (fits t i W H) st := by
      rw [ef]
      refine tv_ok (e2_ok (x := .p (.tup [.int o.w, .int o.h])) (s := st) ?_ (tp_ok (l := [.int W, .int H]) rfl lim2) (eq_pair ..))
      show ((e2 ixM (e2 ixM (eVar 0) (eC (.int 1))) (e2 ixM (eVar 1) (eC (.int 1))) _ st).bind _) = _
      rw [e2_ok (e2_ok rfl rfl (pv_orders t st)) (e2_ok rfl rfl rfl) ix]
      exact cut2 o st
    have t3 := ta_ok (t := tTruth (eVar 6)) (ρ := E27 t (.slab i) l u W H (some (.p (.bl true))) none none none none none none) (st := st) (s := st) rfl t2
    cases hf : fits t i W H with
    | true =>
      rw [hf] at t3
      exact ei_t t3 (ls_ok (l := [triV (l, u, i)]) (ac_ok (tp_ok (l := [.int l, .int u, .int i]) rfl (limN (by simp))) rfl) (limN (by simp)))
    | false =>
      rw [hf] at t3
      exact ei_f t3 rfl
  · have bf : (decide (0 ≤ i) && decide (i < (t.os.map Ord.pv).length)) = false := by
      rw [Bool.and_eq_false_iff, decide_eq_false_iff_not, decide_eq_false_iff_not, List.length_map]; omega
    rw [bf]
    have ef : fits t i W H = false := by
      unfold fits
      by_cases h0 : 0 ≤ i
      · rw [List.getElem?_eq_none (by omega)]
      · cases t.os[i.toNat]? with
        | none => rfl
        | some o => show (decide (0 ≤ i) && _) = false; rw [decide_eq_false h0, Bool.false_and]
    rw [ef]
    exact ei_f (ta_no rfl) rfl
end K00
namespace K00
open PySem Vs
theorem e26 {n : Nat} (t : Told) (size k : Int) (st : PSt) : callF (n + 1) 41 [.p t.pv, .p (.int size), .p (.int k)] st = .ok (.p (.int (sec t size k))) st := by
  rw [cf41]
  exact defM_ret rfl rfl
theorem slV_non (o : Option (List (Int × Int × Int))) (st : PSt) : isNM true (.p (slV o)) (.p .non) st = .ok (.p (.bl o.isNone)) st := by cases o <;> rfl
theorem add_sl (p q : List (Int × Int × Int)) (h : p.length + q.length ≤ lim) (st : PSt) : addM (.p (slV (some p))) (.p (slV (some q))) st = .ok (.p (slV (some (p ++ q)))) st := by
  show (PM.guard ((p.map triV).length + (q.map triV).length ≤ lim) _ st) = _
  unfold PM.guard
  rw [if_pos (by rw [List.length_map, List.length_map]; exact h)]
  show Out.ok (PR.p (.lst (p.map triV ++ q.map triV))) st = _
  rw [← List.map_append]; rfl
end K00
namespace K00
open PySem Vs
def sz : T → Nat
  | .node _ _ a b => sz a + sz b
  | .three _ _ a => sz a + 1
  | _ => 1
theorem sl_len (t : Told) : ∀ (x : T) (l u W H : Int) (p : List (Int × Int × Int)), sl t x l u W H = some p → p.length ≤ sz x := by
  intro x
  induction x with
  | node d k a b iha ihb =>
    intro l u W H p h
    cases d <;> (
      simp only [sl, if_true, Bool.false_eq_true, if_false] at h
      split at h
      · cases h
      · split at h
        · split at h
          · rename_i q r hq hr
            cases h
            rw [List.length_append]
            exact Nat.add_le_add (iha _ _ _ _ _ hq) (ihb _ _ _ _ _ hr)
          · cases h
        · cases h)
  | non => intro l u W H p h; simp only [sl] at h; split at h <;> cases h; exact Nat.zero_le _
  | waste => intro l u W H p h; simp only [sl] at h; split at h <;> cases h; exact Nat.zero_le _
  | slab i =>
    intro l u W H p h
    simp only [sl] at h
    split at h
    · cases h
    · split at h <;> cases h; exact Nat.le_refl _
  | _ => intro l u W H p h; cases h
end K00
namespace K00
open PySem Vs
/-- the part's own numbers at a cut -/
theorem node_no {t : Told} {d : Bool} {k : Int} {a b : T} {l u W H : Int} {x y z v w q g : Option PR} {st : PSt} :
    tOrM (tAndM (tVal (e2 neM (e2 ixM (eVar 1) (eC (.int 0))) (eC (.str "across")))) (tVal (e2 neM (e2 ixM (eVar 1) (eC (.int 0))) (eC (.str "down"))))) (tOrM (tVal (e2 neM (e1 lenM (eVar 1)) (eC (.int 4)))) (tOrM (tNotM (tTruth (e1 (isiM [0, 1] [(.ty "int")]) (e2 ixM (eVar 1) (eC (.int 1)))))) (tOrM (tTruth (e1 (isiM [0, 1] [(.ty "bool")]) (e2 ixM (eVar 1) (eC (.int 1))))) (tNotM (tVal (eChain leM ltM (eC (.int 1)) (e2 ixM (eVar 1) (eC (.int 1))) (eVar 7))))))) (E27 t (.node d k a b) l u W H x (some (.p (.int (if d then W else H)))) z v w q g) st = .ok (!(decide (1 ≤ k) && decide (k < if d then W else H))) st := by
  refine or_f (s := st) (by cases d <;> kernel_rfl) (or_f (s := st) (by kernel_rfl) (or_f (s := st) (by kernel_rfl) (or_f (s := st) (by kernel_rfl) ?_)))
  have ii : ixM (.p (T.node d k a b).pv) (.p (.int 1)) st = .ok (.p (.int k)) st := rfl
  by_cases h1 : 1 ≤ k <;> simp only [sSeq, sNil, sExpr, sRet, sRetN, sIf, sAsg, sPar, sPar3, sRaise, gNm, gsNil, gsCons, gTp, gSubM, eVar, eC, e1, e2, aNil, aCons, eCallD, eTup, eLst, eLstM, newLst, eAnd, eOr, eNot, eIf, eChain, tVal, tTruth, tNotM, tAndM, tOrM, asB, truthM, eFrz, frz, pures, PM.guard, PM.stuck, le_ii, gt_ii, ge_ii, lt_ii, sub_ii, add_ii, toInt_i, retB_ok, pm_bind, pm_pure, ob_ok, ob_err, ts_ok, ts_err, then_nx, then_ret, then_err, then_ct, List.map_cons, List.map_nil, List.append_nil, List.nil_append, List.cons_append, List.length_cons, List.length_nil, List.replicate, Nat.sub_self, Nat.zero_add, List.getElem?_cons_zero, List.getElem?_cons_succ, List.set_cons_zero, List.set_cons_succ, if_true, if_false, Bool.false_eq_true, Bool.not_true, Bool.not_false, ite_true, ite_false, eq_self, reduceIte, Bool.true_eq_false, reduceCtorEq, ii, h1, decide_true, decide_false, Bool.true_and, Bool.false_and]
end K00
namespace K00
open PySem Vs
def joinO (p q : Option (List (Int × Int × Int))) : Option (List (Int × Int × Int)) := match p, q with
  | some p, some q => some (p ++ q)
  | _, _ => none
theorem join_ok {p q : Option (List (Int × Int × Int))} {ρ : Ev} {st : PSt} (h1 : ρ[11]? = some (some (.p (slV p)))) (h2 : ρ[12]? = some (some (.p (slV q)))) (hl : ∀ a b, p = some a → q = some b → a.length + b.length ≤ lim) :
    eIf (tOrM (tVal (e2 (isNM true) (eVar 11) (eC .non))) (tVal (e2 (isNM true) (eVar 12) (eC .non)))) (eC .non) (e2 addM (eVar 11) (eVar 12)) ρ st = .ok (.p (slV (joinO p q))) st := by
  have v1 : eVar 11 ρ st = .ok (.p (slV p)) st := by simp only [sSeq, sNil, sExpr, sRet, sRetN, sIf, sAsg, sPar, sPar3, sRaise, gNm, gsNil, gsCons, gTp, gSubM, eVar, eC, e1, e2, aNil, aCons, eCallD, eTup, eLst, eLstM, newLst, eAnd, eOr, eNot, eIf, eChain, tVal, tTruth, tNotM, tAndM, tOrM, asB, truthM, eFrz, frz, pures, PM.guard, PM.stuck, le_ii, gt_ii, ge_ii, lt_ii, sub_ii, add_ii, toInt_i, retB_ok, pm_bind, pm_pure, ob_ok, ob_err, ts_ok, ts_err, then_nx, then_ret, then_err, then_ct, List.map_cons, List.map_nil, List.append_nil, List.nil_append, List.cons_append, List.length_cons, List.length_nil, List.replicate, Nat.sub_self, Nat.zero_add, List.getElem?_cons_zero, List.getElem?_cons_succ, List.set_cons_zero, List.set_cons_succ, if_true, if_false, Bool.false_eq_true, Bool.not_true, Bool.not_false, ite_true, ite_false, eq_self, reduceIte, Bool.true_eq_false, reduceCtorEq, h1]
  have v2 : eVar 12 ρ st = .ok (.p (slV q)) st := by simp only [sSeq, sNil, sExpr, sRet, sRetN, sIf, sAsg, sPar, sPar3, sRaise, gNm, gsNil, gsCons, gTp, gSubM, eVar, eC, e1, e2, aNil, aCons, eCallD, eTup, eLst, eLstM, newLst, eAnd, eOr, eNot, eIf, eChain, tVal, tTruth, tNotM, tAndM, tOrM, asB, truthM, eFrz, frz, pures, PM.guard, PM.stuck, le_ii, gt_ii, ge_ii, lt_ii, sub_ii, add_ii, toInt_i, retB_ok, pm_bind, pm_pure, ob_ok, ob_err, ts_ok, ts_err, then_nx, then_ret, then_err, then_ct, List.map_cons, List.map_nil, List.append_nil, List.nil_append, List.cons_append, List.length_cons, List.length_nil, List.replicate, Nat.sub_self, Nat.zero_add, List.getElem?_cons_zero, List.getElem?_cons_succ, List.set_cons_zero, List.set_cons_succ, if_true, if_false, Bool.false_eq_true, Bool.not_true, Bool.not_false, ite_true, ite_false, eq_self, reduceIte, Bool.true_eq_false, reduceCtorEq, h2]
  have t := or_tt (tv_ok (e2_ok v1 (b := eC .non) rfl (slV_non p st))) (tv_ok (e2_ok v2 (b := eC .non) rfl (slV_non q st)))
  cases p with
  | none => exact ei_t t rfl
  | some a => cases q with
    | none => exact ei_t t rfl
    | some b => exact ei_f t (e2_ok v1 v2 (add_sl a b (hl a b rfl rfl) st))
end K00
namespace K00
open PySem Vs
theorem sl27_node {n : Nat} {t : Told} {d : Bool} {k : Int} {a b : T} {l u W H : Int} {st : PSt} (hx : dp (.node d k a b) ≤ 64) (hs : sz (.node d k a b) ≤ 1000) (hW : 1 ≤ W) (hH : 1 ≤ H)
    (ha : ∀ l u W H, callF (n + 1) 42 [.p t.pv, .p a.pv, .p (.int l), .p (.int u), .p (.int W), .p (.int H)] st = .ok (.p (slV (sl t a l u W H))) st)
    (hb : ∀ l u W H, callF (n + 1) 42 [.p t.pv, .p b.pv, .p (.int l), .p (.int u), .p (.int W), .p (.int H)] st = .ok (.p (slV (sl t b l u W H))) st) :
    callF (n + 2) 42 [.p t.pv, .p (T.node d k a b).pv, .p (.int l), .p (.int u), .p (.int W), .p (.int H)] st = .ok (.p (slV (sl t (.node d k a b) l u W H))) st := by
  rw [cf42]
  have g := low27 (t := t) (x := .node d k a b) (l := l) (u := u) (W := W) (H := H) (a := none) (b := none) (c := none) (d := none) (e := none) (f := none) (g := none) (st := st) hx
  rw [hi_dec hW hH] at g
  refine defM_ret rfl (sq_nx (if_f g rfl) (sq_nx (ρ1 := E27 t (.node d k a b) l u W H none none none none none none none) (s1 := st) (by cases d <;> kernel_rfl) (sq_nx (ρ1 := E27 t (.node d k a b) l u W H none none none none none none none) (s1 := st) (by cases d <;> kernel_rfl) (sq_nx (ρ1 := E27 t (.node d k a b) l u W H none (some (.p (.int (if d then W else H)))) none none none none none) (s1 := st) (by cases d <;> kernel_rfl) ?_))))
  have nn := node_no (t := t) (d := d) (k := k) (a := a) (b := b) (l := l) (u := u) (W := W) (H := H) (x := none) (y := none) (z := none) (v := none) (w := none) (q := none) (g := none) (st := st)
  have len : ∀ l u W H l2 u2 W2 H2 p q, sl t a l u W H = some p → sl t b l2 u2 W2 H2 = some q → p.length + q.length ≤ lim := fun _ _ _ _ _ _ _ _ _ _ h1 h2 => limN (by
    have z1 := sl_len t a _ _ _ _ _ h1
    have z2 := sl_len t b _ _ _ _ _ h2
    have z3 : sz a + sz b ≤ 1000 := hs
    omega)
  have q := e26 (n := n) t (if d then W else H) k st
  by_cases hk : 1 ≤ k ∧ k < (if d then W else H)
  · have bk : (decide (1 ≤ k) && decide (k < if d then W else H)) = true := by rw [decide_eq_true hk.1, decide_eq_true hk.2]; rfl
    rw [bk] at nn
    refine sq_nx (if_f nn rfl) (sq_nx (ρ1 := E27 t (.node d k a b) l u W H none (some (.p (.int (if d then W else H)))) (some (.p (.int k))) (some (.p (.int (sec t (if d then W else H) k)))) (some (.p (.int (k + t.k)))) none none) (s1 := st) (p3_ok (ac_ok (e2_ok rfl rfl rfl) (ac_ok (cl_ok (ac_ok rfl (ac_ok rfl (ac_ok (e2_ok rfl rfl rfl) rfl))) q) (ac_ok (add_lit (e2_ok rfl rfl rfl) (e2_ok rfl rfl (pv_kerf t st))) rfl)))) ?_)
    simp only [sl]
    rw [if_neg (show ¬ (W < 1 ∨ H < 1) by omega), if_pos hk]
    cases d with
    | true =>
      refine sq_nx (ρ1 := E27 t (.node true k a b) l u W H none (some (.p (.int W))) (some (.p (.int k))) (some (.p (.int (sec t W k)))) (some (.p (.int (k + t.k)))) (some (.p (slV (sl t a l u k H)))) (some (.p (slV (sl t b (l + (k + t.k)) u (sec t W k) H))))) (s1 := st) (if_t (s := st) (by kernel_rfl) (sq_nx (pr_ok (ac_ok (cl_ok (ac_ok rfl (ac_ok (e2_ok rfl rfl rfl) (ac_ok rfl (ac_ok rfl (ac_ok rfl (ac_ok rfl rfl)))))) (ha l u k H)) (ac_ok (cl_ok (ac_ok rfl (ac_ok (e2_ok rfl rfl rfl) (ac_ok (add_lit rfl rfl) (ac_ok rfl (ac_ok rfl (ac_ok rfl rfl)))))) (hb (l + (k + t.k)) u (sec t W k) H)) rfl))) rfl)) (sq_ret (re_ok ?_))
      exact join_ok rfl rfl fun p q h1 h2 => len _ _ _ _ _ _ _ _ p q h1 h2
    | false =>
      refine sq_nx (ρ1 := E27 t (.node false k a b) l u W H none (some (.p (.int H))) (some (.p (.int k))) (some (.p (.int (sec t H k)))) (some (.p (.int (k + t.k)))) (some (.p (slV (sl t a l u W k)))) (some (.p (slV (sl t b l (u + (k + t.k)) W (sec t H k)))))) (s1 := st) (if_f (s := st) (by kernel_rfl) (sq_nx (pr_ok (ac_ok (cl_ok (ac_ok rfl (ac_ok (e2_ok rfl rfl rfl) (ac_ok rfl (ac_ok rfl (ac_ok rfl (ac_ok rfl rfl)))))) (ha l u W k)) (ac_ok (cl_ok (ac_ok rfl (ac_ok (e2_ok rfl rfl rfl) (ac_ok rfl (ac_ok (add_lit rfl rfl) (ac_ok rfl (ac_ok rfl rfl)))))) (hb l (u + (k + t.k)) W (sec t H k))) rfl))) rfl)) (sq_ret (re_ok ?_))
      exact join_ok rfl rfl fun p q h1 h2 => len _ _ _ _ _ _ _ _ p q h1 h2
  · have bk : (decide (1 ≤ k) && decide (k < if d then W else H)) = false := by
      rw [Bool.and_eq_false_iff, decide_eq_false_iff_not, decide_eq_false_iff_not]
      by_cases z : 1 ≤ k
      · exact .inr fun y => hk ⟨z, y⟩
      · exact .inl z
    rw [bk] at nn
    simp only [sl]
    rw [if_neg (show ¬ (W < 1 ∨ H < 1) by omega), if_neg hk]
    exact sq_ret (if_t nn (by simp only [sSeq, sNil, sExpr, sRet, sRetN, sIf, sAsg, sPar, sPar3, sRaise, gNm, gsNil, gsCons, gTp, gSubM, eVar, eC, e1, e2, aNil, aCons, eCallD, eTup, eLst, eLstM, newLst, eAnd, eOr, eNot, eIf, eChain, tVal, tTruth, tNotM, tAndM, tOrM, asB, truthM, eFrz, frz, pures, PM.guard, PM.stuck, le_ii, gt_ii, ge_ii, lt_ii, sub_ii, add_ii, toInt_i, retB_ok, pm_bind, pm_pure, ob_ok, ob_err, ts_ok, ts_err, then_nx, then_ret, then_err, then_ct, List.map_cons, List.map_nil, List.append_nil, List.nil_append, List.cons_append, List.length_cons, List.length_nil, List.replicate, Nat.sub_self, Nat.zero_add, List.getElem?_cons_zero, List.getElem?_cons_succ, List.set_cons_zero, List.set_cons_succ, if_true, if_false, Bool.false_eq_true, Bool.not_true, Bool.not_false, ite_true, ite_false, eq_self, reduceIte, Bool.true_eq_false, reduceCtorEq, slV]))
end K00
namespace K00
open PySem Vs
theorem lowB {x : T} {W H : Int} (z : W < 1 ∨ H < 1) : (!isTup x || (isUnit x || (decide (W < 1) || decide (H < 1)))) = true := by
  have zz : (decide (W < 1) || decide (H < 1)) = true := by simpa using z
  rw [zz, Bool.or_true, Bool.or_true]
theorem sl27_ok (t : Told) : ∀ (x : T) (n : Nat) (l u W H : Int) (st : PSt), dep x ≤ n → dp x ≤ 64 → sz x ≤ 1000 → callF (n + 1) 42 [.p t.pv, .p x.pv, .p (.int l), .p (.int u), .p (.int W), .p (.int H)] st = .ok (.p (slV (sl t x l u W H))) st := by
  intro x
  induction x with
  | node d k a b iha ihb =>
    intro n l u W H st hn hd hs
    by_cases z : W < 1 ∨ H < 1
    · exact sl27_low hd (lowB z)
    · have hn : max (dep a) (dep b) + 1 ≤ n := hn
      have hd' : max (dp a) (dp b) + 1 ≤ 64 := hd
      have hs' : sz a + sz b ≤ 1000 := hs
      obtain ⟨m, rfl⟩ : ∃ m, n = m + 1 := ⟨n - 1, by omega⟩
      exact sl27_node hd hs (by omega) (by omega) (fun l u W H => iha m l u W H st (by omega) (by omega) (by omega)) (fun l u W H => ihb m l u W H st (by omega) (by omega) (by omega))
  | non => intro n l u W H st _ hd _; exact sl27_low hd rfl
  | five => intro n l u W H st _ hd _; exact sl27_low hd rfl
  | unit => intro n l u W H st _ hd _; exact sl27_low hd rfl
  | waste =>
    intro n l u W H st _ hd _
    by_cases z : W < 1 ∨ H < 1
    · exact sl27_low hd (lowB z)
    · exact sl27_waste (by omega) (by omega)
  | waste1 =>
    intro n l u W H st _ hd _
    by_cases z : W < 1 ∨ H < 1
    · exact sl27_low hd (lowB z)
    · exact sl27_waste1 (by omega) (by omega)
  | gone =>
    intro n l u W H st _ hd _
    by_cases z : W < 1 ∨ H < 1
    · exact sl27_low hd (lowB z)
    · exact sl27_gone (by omega) (by omega)
  | slabT =>
    intro n l u W H st _ hd _
    by_cases z : W < 1 ∨ H < 1
    · exact sl27_low hd (lowB z)
    · exact sl27_slabT (by omega) (by omega)
  | slab i =>
    intro n l u W H st _ hd _
    by_cases z : W < 1 ∨ H < 1
    · exact sl27_low hd (lowB z)
    · exact sl27_slab (by omega) (by omega)
  | three d k a _ =>
    intro n l u W H st _ hd _
    by_cases z : W < 1 ∨ H < 1
    · exact sl27_low hd (lowB z)
    · exact sl27_three hd (by omega) (by omega)
/-! trees that stand: their slabs and cuts -/
def gd : T → Bool
  | .non => true
  | .waste => true
  | .slab _ => true
  | .node _ _ a b => gd a && gd b
  | _ => false
def sn : T → List Int
  | .slab i => [i]
  | .node _ _ a b => sn a ++ sn b
  | _ => []
def ct : T → Int
  | .node _ _ a b => 1 + ct a + ct b
  | _ => 0
theorem fits_in {t : Told} {i W H : Int} (h : fits t i W H = true) : 0 ≤ i ∧ i < t.os.length := by
  unfold fits at h
  split at h
  · rename_i o e
    obtain ⟨lt, _⟩ := List.getElem?_eq_some_iff.mp e
    rw [Bool.and_eq_true, decide_eq_true_eq] at h
    exact ⟨h.1, by omega⟩
  · cases h
theorem sl_gd (t : Told) : ∀ (x : T) (l u W H : Int) (p : List (Int × Int × Int)), sl t x l u W H = some p → gd x = true ∧ p.map (fun q => q.2.2) = sn x ∧ ∀ q ∈ p, 0 ≤ q.2.2 ∧ q.2.2 < t.os.length := by
  intro x
  induction x with
  | node d k a b iha ihb =>
    intro l u W H p h
    cases d <;> (
      simp only [sl, if_true, Bool.false_eq_true, if_false] at h
      split at h
      · cases h
      · split at h
        · split at h
          · rename_i q r hq hr
            cases h
            have A := iha _ _ _ _ _ hq
            have B := ihb _ _ _ _ _ hr
            refine ⟨by show (gd a && gd b) = true; rw [A.1, B.1]; rfl, by rw [List.map_append, A.2.1, B.2.1]; rfl, fun v hv => ?_⟩
            rcases List.mem_append.mp hv with hv | hv
            · exact A.2.2 v hv
            · exact B.2.2 v hv
          · cases h
        · cases h)
  | non => intro l u W H p h; simp only [sl] at h; split at h <;> cases h; exact ⟨rfl, rfl, fun _ h => by cases h⟩
  | waste => intro l u W H p h; simp only [sl] at h; split at h <;> cases h; exact ⟨rfl, rfl, fun _ h => by cases h⟩
  | slab i =>
    intro l u W H p h
    simp only [sl] at h
    split at h
    · cases h
    · split at h
      · rename_i hf
        cases h
        exact ⟨rfl, rfl, fun q hq => by cases List.mem_singleton.mp hq; exact fits_in hf⟩
      · cases h
  | _ => intro l u W H p h; cases h
end K00
namespace K00
open PySem Vs
theorem sn_len : ∀ x : T, (sn x).length ≤ sz x
  | .slab _ => Nat.le_refl _
  | .node _ _ a b => by
    show (sn a ++ sn b).length ≤ sz a + sz b
    rw [List.length_append]
    exact Nat.add_le_add (sn_len a) (sn_len b)
  | .non => Nat.zero_le _ | .waste => Nat.zero_le _ | .slabT => Nat.zero_le _ | .waste1 => Nat.zero_le _ | .unit => Nat.zero_le _ | .five => Nat.zero_le _ | .gone => Nat.zero_le _ | .three _ _ _ => Nat.zero_le _
theorem add_ints (p q : List Int) (h : p.length + q.length ≤ lim) (st : PSt) : addM (.p (.lst (p.map .int))) (.p (.lst (q.map .int))) st = .ok (.p (.lst ((p ++ q).map .int))) st := by
  show (PM.guard ((p.map PV.int).length + (q.map PV.int).length ≤ lim) _ st) = _
  unfold PM.guard
  rw [if_pos (by rw [List.length_map, List.length_map]; exact h)]
  show Out.ok (PR.p (.lst (p.map PV.int ++ q.map PV.int))) st = _
  rw [← List.map_append]
theorem e17 : ∀ (x : T) (n : Nat) (st : PSt), gd x = true → dep x ≤ n → sz x ≤ 1000 → callF (n + 1) 17 [.p x.pv] st = .ok (.p (.lst ((sn x).map .int))) st := by
  intro x
  induction x with
  | node d k a b iha ihb =>
    intro n st hg hn hs
    have hg : (gd a && gd b) = true := hg
    rw [Bool.and_eq_true] at hg
    have hn : max (dep a) (dep b) + 1 ≤ n := hn
    have hs : sz a + sz b ≤ 1000 := hs
    obtain ⟨m, rfl⟩ : ∃ m, n = m + 1 := ⟨n - 1, by omega⟩
    have x1 := iha m st hg.1 (by omega) (by omega)
    have x2 := ihb m st hg.2 (by omega) (by omega)
    have l1 := sn_len a
    have l2 := sn_len b
    rw [cf17]
    refine defM_ret rfl ?_
    exact sq_nx (ρ1 := [some (.p (T.node d k a b).pv)]) (s1 := st) (by cases d <;> kernel_rfl) (sq_nx (ρ1 := [some (.p (T.node d k a b).pv)]) (s1 := st) (by cases d <;> kernel_rfl) (sq_ret (re_ok (e2_ok (cl_ok (ac_ok (e2_ok rfl rfl rfl) rfl) x1) (cl_ok (ac_ok (e2_ok rfl rfl rfl) rfl) x2) (add_ints (sn a) (sn b) (limN (by omega)) st)))))
  | non => intro n st _ _ _; rw [cf17]; refine defM_ret rfl ?_; kernel_rfl
  | waste => intro n st _ _ _; rw [cf17]; refine defM_ret rfl ?_; kernel_rfl
  | slab i => intro n st _ _ _; rw [cf17]; refine defM_ret rfl ?_; kernel_rfl
  | _ => intro n st h _ _; cases h
theorem e19 : ∀ (x : T) (n : Nat) (st : PSt), gd x = true → dep x ≤ n → callF (n + 1) 19 [.p x.pv] st = .ok (.p (.int (ct x))) st := by
  intro x
  induction x with
  | node d k a b iha ihb =>
    intro n st hg hn
    have hg : (gd a && gd b) = true := hg
    rw [Bool.and_eq_true] at hg
    have hn : max (dep a) (dep b) + 1 ≤ n := hn
    obtain ⟨m, rfl⟩ : ∃ m, n = m + 1 := ⟨n - 1, by omega⟩
    have x1 := iha m st hg.1 (by omega)
    have x2 := ihb m st hg.2 (by omega)
    rw [cf19]
    refine defM_ret rfl ?_
    exact sq_nx (ρ1 := [some (.p (T.node d k a b).pv)]) (s1 := st) (by cases d <;> kernel_rfl) (sq_ret (re_ok (add_lit (add_lit rfl (cl_ok (ac_ok (e2_ok rfl rfl rfl) rfl) x1)) (cl_ok (ac_ok (e2_ok rfl rfl rfl) rfl) x2))))
  | non => intro n st _ _; rw [cf19]; refine defM_ret rfl ?_; kernel_rfl
  | waste => intro n st _ _; rw [cf19]; refine defM_ret rfl ?_; kernel_rfl
  | slab i => intro n st _ _; rw [cf19]; refine defM_ret rfl ?_; kernel_rfl
  | _ => intro n st h _; cases h
theorem e29 : ∀ (x : T) (n : Nat) (st : PSt), gd x = true → dep x ≤ n → callF (n + 1) 44 [.p x.pv] st = .ok (.p (.int (ct x))) st := by
  intro x
  induction x with
  | node d k a b iha ihb =>
    intro n st hg hn
    have hg : (gd a && gd b) = true := hg
    rw [Bool.and_eq_true] at hg
    have hn : max (dep a) (dep b) + 1 ≤ n := hn
    obtain ⟨m, rfl⟩ : ∃ m, n = m + 1 := ⟨n - 1, by omega⟩
    have x1 := iha m st hg.1 (by omega)
    have x2 := ihb m st hg.2 (by omega)
    rw [cf44]
    refine defM_ret rfl ?_
    exact sq_ret (re_ok (ei_f (s := st) (by cases d <;> kernel_rfl) (add_lit (add_lit rfl (cl_ok (ac_ok (e2_ok rfl rfl rfl) rfl) x1)) (cl_ok (ac_ok (e2_ok rfl rfl rfl) rfl) x2))))
  | non => intro n st _ _; rw [cf44]; exact defM_ret rfl (sq_ret (re_ok (ei_t (s := st) (by kernel_rfl) rfl)))
  | waste => intro n st _ _; rw [cf44]; exact defM_ret rfl (sq_ret (re_ok (ei_t (s := st) (by kernel_rfl) rfl)))
  | slab i => intro n st _ _; rw [cf44]; exact defM_ret rfl (sq_ret (re_ok (ei_t (s := st) (by kernel_rfl) rfl)))
  | _ => intro n st h _; cases h
end K00
namespace K00
open PySem Vs
/-! sums over slabs -/
theorem ints_ok : ∀ (L : List Int) (st : PSt), intsOf (L.map .int) st = .ok L st
  | [], _ => rfl
  | b :: L, st => by
    show (intsOf (L.map .int) st).bind _ = _
    rw [ints_ok L st]; rfl
theorem sum_ok (L : List Int) (st : PSt) : sumM (.p (.lst (L.map .int))) st = .ok (.p (.int L.sum)) st := by
  show (intsOf (L.map .int) st).bind _ = _
  rw [ints_ok L st]; rfl
theorem lc_gen {α : Type} {g f : α → PV} {L : List α} {cg : CG} {vs : List Nat} {e a : EM} {st : PSt} {ρ : Ev} (ha : a ρ st = .ok (.p (.lst (L.map g))) st) (ρ1 : PV → Ev) (h1 : ∀ v, cg v (wipeE ρ vs) = some (ρ1 v)) (h3 : ∀ x ∈ L, e (ρ1 (g x)) st = .ok (.p (f x)) st) (hl : L.length ≤ lim) : eLc (iLstM a) cg vs tYesM e ρ st = .ok (.p (.lst (L.map f))) st := by
  have z := lc_lst (e := e) (t := tYesM) (cg := cg) (vs := vs) ha ρ1 (fun _ => true) (fun v => match e (ρ1 v) st with | .ok (.p w) _ => w | _ => .non) (fun v _ => h1 v) (fun v _ => rfl) (fun v hv _ => by
    obtain ⟨x, hx, rfl⟩ := List.mem_map.mp hv
    rw [h3 x hx]) (by rw [List.length_map]; exact hl)
  have q : ((L.map g).filter fun _ => true) = L.map g := List.filter_eq_self.mpr fun _ _ => rfl
  rw [z, q, List.map_map]
  have w : L.map ((fun v => match e (ρ1 v) st with | .ok (.p w) _ => w | _ => .non) ∘ g) = L.map f := List.map_congr_left fun x hx => by
    show (match e (ρ1 (g x)) st with | .ok (.p w) _ => w | _ => .non) = f x
    rw [h3 x hx]
  rw [w]
theorem mul_ok {a b : Int} (h : 0 ≤ a ∧ a < 1000000) (st : PSt) : mulM (.p (.int a)) (.p (.int b)) st = .ok (.p (.int (a * b))) st := by
  have e : ((decide (-(2 ^ 64) < a) && decide (a < 2 ^ 64)) || (decide (-(2 ^ 64) < b) && decide (b < 2 ^ 64))) = true := by
    rw [decide_eq_true (show -(2 ^ 64) < a by omega), decide_eq_true (show a < 2 ^ 64 by omega)]; rfl
  show PM.guard _ _ st = _
  unfold PM.guard
  rw [if_pos e]; rfl
structure Told.Ok (t : Told) : Prop where
  k0 : 0 ≤ t.k
  k1 : t.k ≤ 2
  l0 : 1 ≤ t.os.length
  l1 : t.os.length ≤ 6
  w : ∀ o ∈ t.os, 1 ≤ o.w ∧ o.w ≤ 12
  h : ∀ o ∈ t.os, 1 ≤ o.h ∧ o.h ≤ 12
  p : ∀ o ∈ t.os, 1 ≤ o.p ∧ o.p ≤ 1000
def prc (t : Told) (i : Int) : Int := match t.os[i.toNat]? with
  | some o => o.p
  | none => 0
def are (t : Told) (i : Int) : Int := match t.os[i.toNat]? with
  | some o => o.w * o.h
  | none => 0
def isIn (t : Told) (L : List Int) : Prop := ∀ i ∈ L, 0 ≤ i ∧ i < t.os.length
theorem price_at {t : Told} {i : Int} {ρ : Ev} {st : PSt} {A B : EM} (hi : 0 ≤ i ∧ i < t.os.length) (hA : A ρ st = .ok (.p (.tup (t.os.map Ord.pv))) st) (hB : B ρ st = .ok (.p (.int i)) st) : e2 ixM (e2 ixM A B) (eC (.int 2)) ρ st = .ok (.p (.int (prc t i))) st := by
  obtain ⟨o, eo, ix⟩ := ord_at hi.1 hi.2 st
  have q : prc t i = o.p := by unfold prc; rw [eo]
  rw [q]
  exact e2_ok (e2_ok hA hB ix) rfl rfl
theorem area_at {t : Told} {i : Int} {ρ : Ev} {st : PSt} {A B : EM} (ok : t.Ok) (hi : 0 ≤ i ∧ i < t.os.length) (hA : A ρ st = .ok (.p (.tup (t.os.map Ord.pv))) st) (hB : B ρ st = .ok (.p (.int i)) st) : e2 mulM (e2 ixM (e2 ixM A B) (eC (.int 0))) (e2 ixM (e2 ixM A B) (eC (.int 1))) ρ st = .ok (.p (.int (are t i))) st := by
  obtain ⟨o, eo, ix⟩ := ord_at hi.1 hi.2 st
  have q : are t i = o.w * o.h := by unfold are; rw [eo]
  rw [q]
  have w := ok.w o (List.mem_of_getElem? eo)
  exact e2_ok (e2_ok (e2_ok hA hB ix) rfl rfl) (e2_ok (e2_ok hA hB ix) rfl rfl) (mul_ok ⟨by omega, by omega⟩ st)
theorem e18 {t : Told} {x : T} {n : Nat} {st : PSt} (hg : gd x = true) (hn : dep x ≤ n) (hs : sz x ≤ 1000) (hi : isIn t (sn x)) : callF (n + 2) 18 [.p t.obj, .p x.pv] st = .ok (.p (.int ((sn x).map (prc t)).sum)) st := by
  rw [cf18]
  have l := sn_len x
  have z : eLc (iLstM (eCallD (callF (n + 1) 17) (aCons (eVar 1) aNil) [])) (cgNm 2) [2] tYesM (e2 ixM (e2 ixM (e1 (fldM [0] "orders") (eVar 0)) (eVar 2)) (eC (.int 2))) [some (.p t.obj), some (.p x.pv), none] st = .ok (.p (.lst ((sn x).map fun i => .int (prc t i)))) st :=
    lc_gen (g := PV.int) (f := fun i => .int (prc t i)) (cl_ok rfl (e17 x n st hg hn hs)) (fun v => [some (.p t.obj), some (.p x.pv), some (.p v)]) (fun _ => rfl) (fun i hm => price_at (hi i hm) (e1_ok rfl (f_orders ..)) rfl) (limN (by omega))
  have m : ((sn x).map fun i => PV.int (prc t i)) = ((sn x).map (prc t)).map .int := by rw [List.map_map]; rfl
  rw [m] at z
  exact defM_ret rfl (sq_ret (re_ok (e1_ok z (sum_ok _ st))))
theorem e28 {t : Told} {p : List (Int × Int × Int)} {n : Nat} {st : PSt} (hl : p.length ≤ 1000) (hi : ∀ q ∈ p, 0 ≤ q.2.2 ∧ q.2.2 < t.os.length) : callF (n + 1) 43 [.p t.pv, .p (.lst (p.map triV))] st = .ok (.p (.int ((p.map fun q => q.2.2).map (prc t)).sum)) st := by
  rw [cf43]
  have z : eLc (iLstM (eVar 1)) (cgNm 2) [2] tYesM (e2 ixM (e2 ixM (e2 ixM (eVar 0) (eC (.int 1))) (e2 ixM (eVar 2) (eC (.int 2)))) (eC (.int 2))) [some (.p t.pv), some (.p (.lst (p.map triV))), none] st = .ok (.p (.lst (p.map fun q => .int (prc t q.2.2)))) st :=
    lc_gen (g := triV) (f := fun q => .int (prc t q.2.2)) rfl (fun v => [some (.p t.pv), some (.p (.lst (p.map triV))), some (.p v)]) (fun _ => rfl) (fun q hm => price_at (hi q hm) (e2_ok rfl rfl (pv_orders t st)) (e2_ok rfl rfl rfl)) (limN hl)
  have m : (p.map fun q => PV.int (prc t q.2.2)) = ((p.map fun q => q.2.2).map (prc t)).map .int := by rw [List.map_map, List.map_map]; rfl
  rw [m] at z
  exact defM_ret rfl (sq_ret (re_ok (e1_ok z (sum_ok _ st))))
end K00
namespace K00
open PySem Vs
/-! _law_saw -/
theorem pick_st {n : Nat} {ns : List Int} {p s r q s1 r1 : Int} {l : List PV} {a : Ev → PM (List PR)} {ρ : Ev} (R : PSt) {j : Nat} (hr : ρ[j]? = some (some (.r 0 0))) (hp : 0 ≤ p) (h0 : 0 < l.length) (h1 : l.length ≤ 1000) (ha : a ρ (rowO ns q s1 r1 :: R) = .ok (l.map .p) (rowO ns p s r :: R)) :
    ∃ v p' s' r', v ∈ l ∧ 0 ≤ p' ∧ eCallD (callF (n + 2) 38) (aCons (eVar j) (aCons (eLst a) aNil)) [] ρ (rowO ns q s1 r1 :: R) = .ok (.p v) (rowO ns p' s' r' :: R) := by
  obtain ⟨v, p', s', r', hv, hp', e⟩ := e15 (n := n) (ns := ns) (p := p) (s := s) (r := r) (l := l) hp h0 (by omega) R
  refine ⟨v, p', s', r', hv, hp', cl_ok (ac_ok (x := .r 0 0) (s := rowO ns q s1 r1 :: R) (by simp only [sSeq, sNil, sExpr, sRet, sRetN, sIf, sAsg, sPar, sPar3, sRaise, gNm, gsNil, gsCons, gTp, gSubM, eVar, eC, e1, e2, aNil, aCons, eCallD, eTup, eLst, eLstM, newLst, eAnd, eOr, eNot, eIf, eChain, tVal, tTruth, tNotM, tAndM, tOrM, asB, truthM, eFrz, frz, pures, PM.guard, PM.stuck, le_ii, gt_ii, ge_ii, lt_ii, sub_ii, add_ii, toInt_i, retB_ok, pm_bind, pm_pure, ob_ok, ob_err, ts_ok, ts_err, then_nx, then_ret, then_err, then_ct, List.map_cons, List.map_nil, List.append_nil, List.nil_append, List.cons_append, List.length_cons, List.length_nil, List.replicate, Nat.sub_self, Nat.zero_add, List.getElem?_cons_zero, List.getElem?_cons_succ, List.set_cons_zero, List.set_cons_succ, if_true, if_false, Bool.false_eq_true, Bool.not_true, Bool.not_false, ite_true, ite_false, eq_self, reduceIte, Bool.true_eq_false, reduceCtorEq, hr]) (ac_ok (ls_ok ha (limN h1)) rfl)) e⟩
theorem dim {n : Nat} {ns : List Int} {p s r : Int} {ρ : Ev} (R : PSt) (hr : ρ[0]? = some (some (.r 0 0))) (hp : 0 ≤ p) :
    ∃ w p' s' r', 1 ≤ w ∧ w ≤ 12 ∧ 0 ≤ p' ∧ e2 addM (eC (.int 1)) (eCallD (callF (n + 2) 37) (aCons (eVar 0) (aCons (eCallD (callF (n + 2) 38) (aCons (eVar 0) (aCons (eLst (aCons (eC (.int 2)) (aCons (eC (.int 4)) (aCons (eC (.int 12)) aNil)))) aNil)) []) aNil)) []) ρ (rowO ns p s r :: R) = .ok (.p (.int w)) (rowO ns p' s' r' :: R) := by
  obtain ⟨v, p1, s1, r1, hv, hp1, e1⟩ := pick_ok (n := n) (ns := ns) (p := p) (s := s) (r := r) (l := [2, 4, 12].map .int) (a := aCons (eC (.int 2)) (aCons (eC (.int 4)) (aCons (eC (.int 12)) aNil))) R hr hp (by simp) (by simp) (fun _ => rfl)
  obtain ⟨m, hm, rfl⟩ := int_of (l := [2, 4, 12]) hv
  have hm : 1 ≤ m ∧ m ≤ 12 := by
    simp only [List.mem_cons, List.not_mem_nil, or_false] at hm
    omega
  obtain ⟨d, p2, s2, r2, hd0, hd1, hp2, e2⟩ := draw_ok (n := n + 1) (ns := ns) R hr hp1 (by omega) (by omega) e1
  exact ⟨1 + d, p2, s2, r2, by omega, by omega, hp2, add_lit rfl e2⟩
theorem ea_st {mo ma : EM} {ρ : Ev} {st s s' : PSt} {x y : PR} (h : mo ρ st = .ok x st) (h2 : lstR x st = .ok () st) (h3 : ma ρ st = .ok y s') (h4 : apM x y s' = .ok (.p .non) s) : eAppend mo ma ρ st = .ok (.p .non) s := by
  show (mo ρ st).bind _ = _
  rw [h]
  show (lstR x st).bind _ = _
  rw [h2]
  show (ma ρ st).bind _ = _
  rw [h3]
  exact h4
theorem rng_st {a : Ev → PM (List PR)} {ρ : Ev} {st s : PSt} {j : Int} (h : a ρ st = .ok [.p (.int j)] s) (h0 : 0 ≤ j) (h1 : j ≤ 1000) : iRng1M a ρ st = .ok (wkR 0 j.toNat) s := by
  show (a ρ st).bind _ = _
  rw [h]
  show (if -(2 ^ 62) ≤ j ∧ j < 2 ^ 62 then (pure (wkR 0 j.toNat) : PM Wk) else PM.stuck) s = _
  rw [if_pos (by omega)]; rfl
structure Ord.Ok (o : Ord) : Prop where
  w : 1 ≤ o.w ∧ o.w ≤ 12
  h : 1 ≤ o.h ∧ o.h ≤ 12
  p : 1 ≤ o.p ∧ o.p ≤ 1000
abbrev stO (ns : List Int) (p s r : Int) (R : PSt) (L : List Ord) : PSt := rowO ns p s r :: (R ++ [.lst (L.map Ord.pv)])
theorem get_O {ns : List Int} {p s r : Int} {R : PSt} {L : List Ord} : (stO ns p s r R L)[R.length + 1]? = some (.lst (L.map Ord.pv)) := by
  show (R ++ [PObj.lst (L.map Ord.pv)])[R.length]? = _
  simp
theorem ap_O {ns : List Int} {p s r : Int} {R : PSt} {L : List Ord} {x : Ord} (hl : L.length ≤ 1000) : apM (.r (R.length + 1) 0) (.p x.pv) (stO ns p s r R L) = .ok (.p .non) (stO ns p s r R (L ++ [x])) := by
  have w : (stO ns p s r R L).set (R.length + 1) (.lst (L.map Ord.pv ++ [x.pv])) = stO ns p s r R (L ++ [x]) := by
    show rowO ns p s r :: (R ++ [PObj.lst (L.map Ord.pv)]).set R.length _ = _
    rw [List.set_append_right _ _ (Nat.le_refl _)]
    simp
  show (match (stO ns p s r R L)[R.length + 1]? with | some (.lst l) => if l.length < lim then Out.ok (PR.p .non) ((stO ns p s r R L).set (R.length + 1) (.lst (l ++ [x.pv]))) else .stuck | _ => .stuck) = _
  rw [get_O]
  dsimp only
  rw [if_pos (by rw [List.length_map]; show L.length < 16777216; omega), w]
theorem lr_O {ns : List Int} {p s r : Int} {R : PSt} {L : List Ord} : lstR (.r (R.length + 1) 0) (stO ns p s r R L) = .ok () (stO ns p s r R L) := by
  simp only [lstR, get_O]
theorem tt_O {ns : List Int} {p s r : Int} {R : PSt} {L : List Ord} : toTupM (.r (R.length + 1) 0) (stO ns p s r R L) = .ok (.p (.tup (L.map Ord.pv))) (stO ns p s r R L) := by
  simp only [toTupM, seqL, addM.itemsL, pm_bind, get_O, ob_ok, pm_pure]
abbrev E25 (R : PSt) (a b c : Option PR) : Ev := [some (.r 0 0), some (.r (R.length + 1) 0), a, b, c]
abbrev ordB (n : Nat) : SM := sSeq (sPar 3 4 (aCons (e2 addM (eC (.int 1)) (eCallD (callF (n + 2) 37) (aCons (eVar 0) (aCons (eCallD (callF (n + 2) 38) (aCons (eVar 0) (aCons (eLst (aCons (eC (.int 2)) (aCons (eC (.int 4)) (aCons (eC (.int 12)) aNil)))) aNil)) []) aNil)) [])) (aCons (e2 addM (eC (.int 1)) (eCallD (callF (n + 2) 37) (aCons (eVar 0) (aCons (eCallD (callF (n + 2) 38) (aCons (eVar 0) (aCons (eLst (aCons (eC (.int 2)) (aCons (eC (.int 4)) (aCons (eC (.int 12)) aNil)))) aNil)) []) aNil)) [])) aNil))) (sSeq (sExpr (eAppend (eVar 1) (eTup (aCons (eVar 3) (aCons (eVar 4) (aCons (eCallD (callF (n + 2) 38) (aCons (eVar 0) (aCons (eLst (aCons (eC (.int 1)) (aCons (e2 mulM (eVar 3) (eVar 4)) (aCons (e2 addM (eC (.int 1)) (eCallD (callF (n + 2) 37) (aCons (eVar 0) (aCons (eC (.int 9)) aNil)) [])) (aCons (e2 addM (eC (.int 1)) (eCallD (callF (n + 2) 37) (aCons (eVar 0) (aCons (eC (.int 1000)) aNil)) [])) aNil))))) aNil)) []) aNil)))))) sNil)
theorem ord_step {n : Nat} {ns : List Int} {p s r : Int} {R : PSt} {L : List Ord} {a b c : Option PR} (hp : 0 ≤ p) (hL : L.length ≤ 1000) : ∃ p' s' r' o b' c', 0 ≤ p' ∧ Ord.Ok o ∧ ordB n (E25 R a b c) (stO ns p s r R L) = .nx (E25 R a b' c') (stO ns p' s' r' R (L ++ [o])) := by
  obtain ⟨w, p1, s1, r1, w0, w1, hp1, x1⟩ := dim (n := n) (ns := ns) (p := p) (s := s) (r := r) (ρ := E25 R a b c) (R ++ [.lst (L.map Ord.pv)]) rfl hp
  obtain ⟨h, p2, s2, r2, h0, h1, hp2, x2⟩ := dim (n := n) (ns := ns) (p := p1) (s := s1) (r := r1) (ρ := E25 R a b c) (R ++ [.lst (L.map Ord.pv)]) rfl hp1
  obtain ⟨d, p3, s3, r3, d0, d1, hp3, x3⟩ := draw_ok (n := n + 1) (ns := ns) (p := p2) (s := s2) (r := r2) (q := p2) (s1 := s2) (r1 := r2) (many := 9) (m := eC (.int 9)) (ρ := E25 R a (some (.p (.int w))) (some (.p (.int h)))) (j := 0) (R ++ [.lst (L.map Ord.pv)]) rfl hp2 (by omega) (by omega) rfl
  obtain ⟨f, p4, s4, r4, f0, f1, hp4, x4⟩ := draw_ok (n := n + 1) (ns := ns) (p := p3) (s := s3) (r := r3) (q := p3) (s1 := s3) (r1 := r3) (many := 1000) (m := eC (.int 1000)) (ρ := E25 R a (some (.p (.int w))) (some (.p (.int h)))) (j := 0) (R ++ [.lst (L.map Ord.pv)]) rfl hp3 (by omega) (by omega) rfl
  have m0 : 1 * 1 ≤ w * h := Int.mul_le_mul w0 h0 (by omega) (by omega)
  have m1 : w * h ≤ 12 * 12 := Int.mul_le_mul w1 h1 (by omega) (by omega)
  obtain ⟨v, p5, s5, r5, hv, hp5, x5⟩ := pick_st (n := n) (ns := ns) (p := p4) (s := s4) (r := r4) (q := p2) (s1 := s2) (r1 := r2) (l := [1, w * h, 1 + d, 1 + f].map .int) (j := 0) (ρ := E25 R a (some (.p (.int w))) (some (.p (.int h)))) (R ++ [.lst (L.map Ord.pv)]) rfl hp4 (by simp) (by simp) (ac_ok (e := eC (.int 1)) rfl (ac_ok (e := e2 mulM (eVar 3) (eVar 4)) (e2_ok rfl rfl (mul_ok ⟨by omega, by omega⟩ _)) (ac_ok (add_lit (a := eC (.int 1)) rfl x3) (ac_ok (a := aNil) (add_lit (a := eC (.int 1)) rfl x4) rfl))))
  obtain ⟨m, hm, rfl⟩ := int_of (l := [1, w * h, 1 + d, 1 + f]) hv
  have hm : 1 ≤ m ∧ m ≤ 1000 := by
    simp only [List.mem_cons, List.not_mem_nil, or_false] at hm
    omega
  exact ⟨p5, s5, r5, ⟨w, h, m⟩, _, _, hp5, ⟨⟨w0, w1⟩, ⟨h0, h1⟩, hm⟩, sq_nx (pr_ok (ac_ok x1 (ac_ok x2 rfl))) (sq_nx (ex_ok (ea_st rfl lr_O (tp_ok (l := [.int w, .int h, .int m]) (ac_ok rfl (ac_ok rfl (ac_ok x5 rfl))) (limN (by simp))) (ap_O (x := ⟨w, h, m⟩) hL))) rfl)⟩
theorem e25 {n : Nat} {ns : List Int} {p s r : Int} (hp : 0 ≤ p) (R : PSt) : ∃ t p' s' r', Told.Ok t ∧ 0 ≤ p' ∧ callF (n + 3) 40 [.r 0 0] (rowO ns p s r :: R) = .ok (.p t.pv) (rowO ns p' s' r' :: R) := by
  have key : Ret (callF (n + 3) 40 [.r 0 0] (rowO ns p s r :: R)) (fun q st => ∃ t p' s' r', Told.Ok t ∧ 0 ≤ p' ∧ q = .p t.pv ∧ st = rowO ns p' s' r' :: R) := by
    rw [cf40]
    refine defM_RetS rfl ?_
    have x0 : eLstM aNil (List.map some [PR.r 0 0] ++ List.replicate (5 - [PR.r 0 0].length) none) (rowO ns p s r :: R) = .ok (.r (R.length + 1) 0) (stO ns p s r R []) := lm_ok (l := []) (a := aNil) (s := rowO ns p s r :: R) rfl (Nat.zero_le _)
    refine rs_nx (ρ1 := E25 R none none none) (s1 := stO ns p s r R []) (as_ok x0) ?_
    obtain ⟨v, p1, s1, r1, hv, hp1, x1⟩ := pick_ok (n := n) (ns := ns) (p := p) (s := s) (r := r) (l := [3, 6].map .int) (a := aCons (eC (.int 3)) (aCons (eC (.int 6)) aNil)) (ρ := E25 R none none none) (j := 0) (R ++ [.lst (([] : List Ord).map Ord.pv)]) rfl hp (by simp) (by simp) (fun _ => rfl)
    obtain ⟨m, hm, rfl⟩ := int_of (l := [3, 6]) hv
    have hm : 1 ≤ m ∧ m ≤ 6 := by
      simp only [List.mem_cons, List.not_mem_nil, or_false] at hm
      omega
    obtain ⟨d, p2, s2, r2, d0, d1, hp2, x2⟩ := draw_ok (n := n + 1) (ns := ns) (R ++ [.lst (([] : List Ord).map Ord.pv)]) (j := 0) (ρ := E25 R none none none) rfl hp1 (by omega) (by omega) x1
    refine rs_seq (rs_for (w := wkR 0 (1 + d).toNat) (rng_st (ac_ok (add_lit rfl x2) rfl) (by omega) (by omega)) (fun j => .int (0 + j)) (fun _ _ => wkR_at ..) (fun k ρ st => ∃ p' s' r' L a b c, 0 ≤ p' ∧ L.length = k ∧ (∀ o ∈ L, Ord.Ok o) ∧ ρ = E25 R a b c ∧ st = stO ns p' s' r' R L) ⟨p2, s2, r2, [], none, none, none, hp2, rfl, fun _ h => (by cases h), rfl, rfl⟩ ?_ ?_)
    · rintro k ρ st hk ⟨p', s', r', L, a, b, c, hp', hL, ho, rfl, rfl⟩
      have hk : k < (1 + d).toNat := hk
      obtain ⟨p3, s3, r3, o, b', c', hp3, oo, e⟩ := ord_step (n := n) (ns := ns) (p := p') (s := s') (r := r') (R := R) (L := L) (a := some (.p (.int (0 + k)))) (b := b) (c := c) hp' (by omega)
      refine ⟨E25 R (some (.p (.int (0 + k)))) b c, _, rfl, ?_⟩
      have e : ordB n (E25 R (some (.p (.int (0 + k)))) b c) (stO ns p' s' r' R L) = _ := e
      show RetS (ordB n (E25 R (some (.p (.int (0 + k)))) b c) (stO ns p' s' r' R L)) _ _
      rw [e]
      exact ⟨p3, s3, r3, L ++ [o], _, _, _, hp3, by rw [List.length_append, hL]; rfl, fun x hx => by
        rcases List.mem_append.mp hx with hx | hx
        · exact ho x hx
        · cases List.mem_singleton.mp hx; exact oo, rfl, rfl⟩
    · rintro ρ st ⟨p', s', r', L, a, b, c, hp', hL, ho, rfl, rfl⟩
      have hL : L.length = (1 + d).toNat := hL
      obtain ⟨k, p3, s3, r3, k0, k1, hp3, x3⟩ := draw_ok (n := n + 1) (ns := ns) (p := p') (s := s') (r := r') (q := p') (s1 := s') (r1 := r') (many := 3) (m := eC (.int 3)) (ρ := E25 R a b c) (j := 0) (R ++ [.lst (L.map Ord.pv)]) rfl hp' (by omega) (by omega) rfl
      have z : sSeq (sRet (eTup (aCons (eCallD (callF (n + 2) 37) (aCons (eVar 0) (aCons (eC (.int 3)) aNil)) []) (aCons (e1 toTupM (eVar 1)) aNil)))) sNil (E25 R a b c) (stO ns p' s' r' R L) = .ret (.p (Told.pv ⟨k, L⟩)) (stO ns p3 s3 r3 R L) :=
        sq_ret (re_ok (tp_ok (l := [.int k, .tup (L.map Ord.pv)]) (ac_ok x3 (ac_ok (e1_ok rfl tt_O) rfl)) lim2))
      show RetS (sSeq (sRet (eTup (aCons (eCallD (callF (n + 2) 37) (aCons (eVar 0) (aCons (eC (.int 3)) aNil)) []) (aCons (e1 toTupM (eVar 1)) aNil)))) sNil (E25 R a b c) (stO ns p' s' r' R L)) _ _
      rw [z]
      refine ⟨_, rfl, ⟨k, L⟩, p3, s3, r3, ⟨k0, by show k ≤ 2; omega, by show 1 ≤ L.length; omega, by show L.length ≤ 6; omega, fun o h => (ho o h).w, fun o h => (ho o h).h, fun o h => (ho o h).p⟩, hp3, rfl, ?_⟩
      show rowO ns p3 s3 r3 :: (R ++ [PObj.lst (L.map Ord.pv)]).take R.length = _
      rw [List.take_left']
      rfl
  obtain ⟨q, st, e, t, p', s', r', ok, hp', rfl, rfl⟩ := key.eq
  exact ⟨t, p', s', r', ok, hp', e⟩
end K00
namespace K00
open PySem Vs
/-! the checks -/
theorem e9ok {n : Nat} {v : PV} (d : dat v = true) (h : within v 1 12 = true) (st : PSt) : callF (n + 3) 9 [.p v] st = .ok (.p .non) st := by
  rw [cf9]
  have e := e1' (n := n) d 1 12 st
  rw [h] at e
  exact defM_nx (ρ := [some (.p v)]) rfl (sq_nx (if_f (tn_ok (b := true) (tt_ok (cl_ok rfl e))) rfl) rfl)
theorem e9no {n : Nat} {v : PV} (d : dat v = true) (h : within v 1 12 = false) (st : PSt) : callF (n + 3) 9 [.p v] st = .err 5 v st := by
  rw [cf9]
  have e := e1' (n := n) d 1 12 st
  rw [h] at e
  exact defM_err rfl (sq_err (if_t (tn_ok (b := false) (tt_ok (cl_ok rfl e))) (sq_err rfl)))
theorem e10ok {n : Nat} {W H : Int} (hW : 1 ≤ W ∧ W ≤ 12) (hH : 1 ≤ H ∧ H ≤ 12) (st : PSt) : callF (n + 4) 10 [.p (.int W), .p (.int H)] st = .ok (.p .non) st := by
  rw [cf10]
  exact defM_nx (ρ := [some (.p (.int W)), some (.p (.int H))]) rfl (sq_nx (ex_ok (cl_ok rfl (e9ok rfl (yes_int hW) st))) (sq_nx (ex_ok (cl_ok rfl (e9ok rfl (yes_int hH) st))) rfl))
theorem e10a {n : Nat} {v w : PV} (d : dat v = true) (h : within v 1 12 = false) (st : PSt) : callF (n + 4) 10 [.p v, .p w] st = .err 5 v st := by
  rw [cf10]
  exact defM_err rfl (sq_err (se_err (cl_ok rfl (e9no d h st))))
theorem e10b {n : Nat} {W : Int} {v : PV} (hW : 1 ≤ W ∧ W ≤ 12) (d : dat v = true) (h : within v 1 12 = false) (st : PSt) : callF (n + 4) 10 [.p (.int W), .p v] st = .err 5 v st := by
  rw [cf10]
  exact defM_err rfl (sq_nx (ex_ok (cl_ok rfl (e9ok rfl (yes_int hW) st))) (sq_err (se_err (cl_ok rfl (e9no d h st)))))
theorem e15' {n : Nat} {t : Told} {x : T} {W H : Int} (hn : 3 * dep x ≤ n) (hW : 1 ≤ W ∧ W ≤ 12) (hH : 1 ≤ H ∧ H ≤ 12) (st : PSt) : callF (n + 5) 15 [.p t.obj, .p (.int W), .p (.int H), .p x.pv] st = .ok (.p (.bl (tk t x W H))) st := by
  rw [cf15]
  exact defM_ret rfl (sq_nx (ex_ok (cl_ok rfl (e10ok (n := n) hW hH st))) (sq_ret (re_ok (cl_ok rfl (told_ok t x n W H st hn)))))
theorem e15no {n : Nat} {t : Told} {v w x : PV} (d : dat v = true) (h : within v 1 12 = false) (st : PSt) : callF (n + 5) 15 [.p t.obj, .p v, .p w, .p x] st = .err 5 v st := by
  rw [cf15]
  exact defM_err rfl (sq_err (se_err (cl_ok rfl (e10a (n := n) d h st))))
theorem e16ok {n : Nat} {t : Told} {x : T} {W H : Int} (hn : 3 * dep x ≤ n) (h : tk t x W H = true) (st : PSt) : callF (n + 5) 16 [.p t.obj, .p (.int W), .p (.int H), .p x.pv] st = .ok (.p .non) st := by
  rw [cf16]
  have e := told_ok t x n W H st hn
  rw [h] at e
  exact defM_nx (ρ := [some (.p t.obj), some (.p (.int W)), some (.p (.int H)), some (.p x.pv)]) rfl (sq_nx (if_f (tn_ok (b := true) (tt_ok (cl_ok rfl e))) rfl) rfl)
theorem e16no {n : Nat} {t : Told} {x : T} {W H : Int} (hn : 3 * dep x ≤ n) (h : tk t x W H = false) (st : PSt) : callF (n + 5) 16 [.p t.obj, .p (.int W), .p (.int H), .p x.pv] st = .err 6 x.pv st := by
  rw [cf16]
  have e := told_ok t x n W H st hn
  rw [h] at e
  exact defM_err rfl (sq_err (if_t (tn_ok (b := false) (tt_ok (cl_ok rfl e))) (sq_err rfl)))
theorem e5ok {n : Nat} {v : PV} (d : dat v = true) (h : within v 0 2 = true) (st : PSt) : callF (n + 3) 5 [.p v] st = .ok (.p .non) st := by
  rw [cf5]
  have e := e1' (n := n) d 0 2 st
  rw [h] at e
  exact defM_nx (ρ := [some (.p v)]) rfl (sq_nx (if_f (tn_ok (b := true) (tt_ok (cl_ok rfl e))) rfl) rfl)
theorem e5no {n : Nat} {v : PV} (d : dat v = true) (h : within v 0 2 = false) (st : PSt) : callF (n + 3) 5 [.p v] st = .err 3 v st := by
  rw [cf5]
  have e := e1' (n := n) d 0 2 st
  rw [h] at e
  exact defM_err rfl (sq_err (if_t (tn_ok (b := false) (tt_ok (cl_ok rfl e))) (sq_err rfl)))
/-! orders -/
theorem e3' {n : Nat} {v : PV} (h : v = .non ∨ ∃ l, v = .lst l) (m : Int) (st : PSt) : callF (n + 1) 3 [.p v, .p (.int m)] st = .ok (.p (.bl false)) st := by
  rw [cf3]
  rcases h with rfl | ⟨l, rfl⟩ <;> exact defM_ret rfl rfl
theorem e4t {n : Nat} {a b c : PV} (da : dat a = true) (db : dat b = true) (dc : dat c = true) (st : PSt) : callF (n + 3) 4 [.p (.tup [a, b, c])] st = .ok (.p (.bl (within a 1 12 && (within b 1 12 && within c 1 1000)))) st := by
  rw [cf4]
  have z := e3 (n := n + 1) [a, b, c] 3 st
  have wa := e1' (n := n) da 1 12 st
  have wb := e1' (n := n) db 1 12 st
  have wc := e1' (n := n) dc 1 1000 st
  have t0 : tNotM (tTruth (eCallD (callF (n + 2) 3) (aCons (eVar 0) (aCons (eC (.int 3)) aNil)) [])) [some (.p (.tup [a, b, c]))] st = .ok false st := tn_ok (b := true) (tt_ok (cl_ok rfl z))
  have t1 : tNotM (tTruth (eCallD (callF (n + 2) 1) (aCons (e2 ixM (eVar 0) (eC (.int 0))) (aCons (eC (.int 1)) (aCons (eC (.int 12)) aNil))) [])) [some (.p (.tup [a, b, c]))] st = .ok (!within a 1 12) st := tn_ok (tt_ok (cl_ok (ac_ok (e2_ok rfl rfl rfl) (ac_ok rfl (ac_ok rfl rfl))) wa))
  have t2 : tNotM (tTruth (eCallD (callF (n + 2) 1) (aCons (e2 ixM (eVar 0) (eC (.int 1))) (aCons (eC (.int 1)) (aCons (eC (.int 12)) aNil))) [])) [some (.p (.tup [a, b, c]))] st = .ok (!within b 1 12) st := tn_ok (tt_ok (cl_ok (ac_ok (e2_ok rfl rfl rfl) (ac_ok rfl (ac_ok rfl rfl))) wb))
  refine defM_ret rfl ?_
  have t3 := or_tt t1 t2
  cases h1 : within a 1 12 && within b 1 12 with
  | false =>
    have q : (!within a 1 12 || !within b 1 12) = true := by rw [← Bool.not_and, h1]; rfl
    rw [q] at t3
    rw [← Bool.and_assoc, h1]
    exact sq_ret (if_t (or_f t0 t3) (by simp only [sSeq, sNil, sExpr, sRet, sRetN, sIf, sAsg, sPar, sPar3, sRaise, gNm, gsNil, gsCons, gTp, gSubM, eVar, eC, e1, e2, aNil, aCons, eCallD, eTup, eLst, eLstM, newLst, eAnd, eOr, eNot, eIf, eChain, tVal, tTruth, tNotM, tAndM, tOrM, asB, truthM, eFrz, frz, pures, PM.guard, PM.stuck, le_ii, gt_ii, ge_ii, lt_ii, sub_ii, add_ii, toInt_i, retB_ok, pm_bind, pm_pure, ob_ok, ob_err, ts_ok, ts_err, then_nx, then_ret, then_err, then_ct, List.map_cons, List.map_nil, List.append_nil, List.nil_append, List.cons_append, List.length_cons, List.length_nil, List.replicate, Nat.sub_self, Nat.zero_add, List.getElem?_cons_zero, List.getElem?_cons_succ, List.set_cons_zero, List.set_cons_succ, if_true, if_false, Bool.false_eq_true, Bool.not_true, Bool.not_false, ite_true, ite_false, eq_self, reduceIte, Bool.true_eq_false, reduceCtorEq, Bool.false_and]))
  | true =>
    have q : (!within a 1 12 || !within b 1 12) = false := by rw [← Bool.not_and, h1]; rfl
    rw [q] at t3
    rw [← Bool.and_assoc, h1, Bool.true_and]
    exact sq_nx (if_f (or_f t0 t3) rfl) (sq_ret (re_ok (cl_ok (ac_ok (e2_ok rfl rfl rfl) (ac_ok rfl (ac_ok rfl rfl))) wc)))
theorem e4n {n : Nat} {v : PV} (h : v = .non ∨ (∃ l, v = .lst l) ∨ ∃ a b, v = .tup [a, b]) (st : PSt) : callF (n + 3) 4 [.p v] st = .ok (.p (.bl false)) st := by
  rw [cf4]
  have z : callF (n + 2) 3 [.p v, .p (.int 3)] st = .ok (.p (.bl false)) st := by
    rcases h with h | h | ⟨a, b, rfl⟩
    · exact e3' (n := n + 1) (.inl h) 3 st
    · exact e3' (n := n + 1) (.inr h) 3 st
    · exact e3 (n := n + 1) [a, b] 3 st
  exact defM_ret rfl (sq_ret (if_t (or_t (tn_ok (b := false) (tt_ok (cl_ok rfl z)))) (sq_ret rfl)))
theorem e4o {n : Nat} {o : Ord} (h : o.Ok) (st : PSt) : callF (n + 3) 4 [.p o.pv] st = .ok (.p (.bl true)) st := by
  have e := e4t (n := n) (a := .int o.w) (b := .int o.h) (c := .int o.p) rfl rfl rfl st
  rw [yes_int h.w, yes_int h.h, yes_int h.p] at e
  exact e
end K00
namespace K00
open PySem Vs
/-! Saw(..) -/
theorem set_at (st : PSt) (ns : List Str) (vs : List PV) (nm : Str) (v : PV) (hl : ns.length < 900) : setFldM [0] nm (.p v) (.r st.length 0) (st ++ [.ins 0 ns vs none]) = .ok () (st ++ [.ins 0 (putN nm v ns vs).1 (putN nm v ns vs).2 none]) := by
  have e : (st ++ [PObj.ins 0 ns vs none])[st.length]? = some (.ins 0 ns vs none) := by simp
  simp only [setFldM, e]
  rw [if_pos ⟨by simp, hl⟩]
  have e2 : (st ++ [PObj.ins 0 ns vs none]).set st.length (.ins 0 (putN nm v ns vs).1 (putN nm v ns vs).2 none) = st ++ [.ins 0 (putN nm v ns vs).1 (putN nm v ns vs).2 none] := by
    rw [List.set_append_right _ _ (Nat.le_refl _)]; simp
  rw [e2]
abbrev fresh : PObj := .ins 0 [] [] none
theorem sf_ok {nm : Str} {o v : EM} {ρ : Ev} {st s : PSt} {x y : PR} (h : v ρ st = .ok y st) (h2 : o ρ st = .ok x st) (h3 : setFldM [0] nm y x st = .ok () s) : sFldM [0] nm o v ρ st = .nx ρ s := by
  show (v ρ st).toS _ = _
  rw [h]
  show (o ρ st).toS _ = _
  rw [h2]
  show (setFldM [0] nm y x st).toS _ = _
  rw [h3]; rfl
theorem ch_ok {e : EM} {a b x : Int} {ρ : Ev} {st : PSt} (h : e ρ st = .ok (.p (.int x)) st) : eChain leM leM (eC (.int a)) e (eC (.int b)) ρ st = .ok (.p (.bl (decide (a ≤ x) && decide (x ≤ b)))) st := by
  by_cases z : a ≤ x <;> simp only [sSeq, sNil, sExpr, sRet, sRetN, sIf, sAsg, sPar, sPar3, sRaise, gNm, gsNil, gsCons, gTp, gSubM, eVar, eC, e1, e2, aNil, aCons, eCallD, eTup, eLst, eLstM, newLst, eAnd, eOr, eNot, eIf, eChain, tVal, tTruth, tNotM, tAndM, tOrM, asB, truthM, eFrz, frz, pures, PM.guard, PM.stuck, le_ii, gt_ii, ge_ii, lt_ii, sub_ii, add_ii, toInt_i, retB_ok, pm_bind, pm_pure, ob_ok, ob_err, ts_ok, ts_err, then_nx, then_ret, then_err, then_ct, List.map_cons, List.map_nil, List.append_nil, List.nil_append, List.cons_append, List.length_cons, List.length_nil, List.replicate, Nat.sub_self, Nat.zero_add, List.getElem?_cons_zero, List.getElem?_cons_succ, List.set_cons_zero, List.set_cons_succ, if_true, if_false, Bool.false_eq_true, Bool.not_true, Bool.not_false, ite_true, ite_false, eq_self, reduceIte, Bool.true_eq_false, reduceCtorEq, h, z, decide_true, decide_false, Bool.true_and, Bool.false_and]
/-- a walk that comes to its end -/
theorem for_all {im : IM} {g : GM} {body : SM} {ρ : Ev} {st : PSt} {w : Wk} {s0 : PSt} (hi : im ρ st = .ok w s0) (I : Nat → Ev → Prop) (h0 : I 0 ρ)
    (hs : ∀ k ρ, k < w.n → I k ρ → ∃ v ρ1 ρ2, w.at_ k s0 = .item v ∧ g (.p v) ρ s0 = .ok ρ1 s0 ∧ body ρ1 s0 = .nx ρ2 s0 ∧ I (k + 1) ρ2) (hd : w.at_ w.n s0 = .stop) : ∃ ρ', I w.n ρ' ∧ sFor im g body ρ st = .nx ρ' s0 := by
  have key : ∀ m k ρ, k + m = w.n → I k ρ → ∃ ρ', I w.n ρ' ∧ Vs.forM w.at_ g body m k ρ s0 = .nx ρ' s0 := by
    intro m
    induction m with
    | zero =>
      intro k ρ e h
      have : k = w.n := by omega
      subst this
      refine ⟨ρ, h, ?_⟩
      unfold Vs.forM
      rw [hd]
    | succ m ih =>
      intro k ρ e h
      obtain ⟨v, ρ1, ρ2, a1, a2, a3, a4⟩ := hs k ρ (by omega) h
      obtain ⟨ρ', b1, b2⟩ := ih (k + 1) ρ2 (by omega) a4
      refine ⟨ρ', b1, ?_⟩
      unfold Vs.forM
      rw [a1]
      dsimp only
      rw [a2, ts_ok, a3]
      exact b2
  obtain ⟨ρ', b1, b2⟩ := key w.n 0 ρ (by omega) h0
  refine ⟨ρ', b1, ?_⟩
  show ((im ρ st).toS _) = _
  rw [hi]
  exact b2
/-- a walk that raises -/
theorem for_err {im : IM} {g : GM} {body : SM} {ρ : Ev} {st : PSt} {w : Wk} {s0 : PSt} {c : Nat} {q : PV} (hi : im ρ st = .ok w s0) (I : Nat → Ev → Prop) (m : Nat) (hm : m < w.n) (h0 : I 0 ρ)
    (hs : ∀ k ρ, k < m → I k ρ → ∃ v ρ1 ρ2, w.at_ k s0 = .item v ∧ g (.p v) ρ s0 = .ok ρ1 s0 ∧ body ρ1 s0 = .nx ρ2 s0 ∧ I (k + 1) ρ2) (he : ∀ ρ, I m ρ → ∃ v ρ1, w.at_ m s0 = .item v ∧ g (.p v) ρ s0 = .ok ρ1 s0 ∧ body ρ1 s0 = .err c q s0) : sFor im g body ρ st = .err c q s0 := by
  have key : ∀ d k f ρ, k + d = m → d < f → I k ρ → Vs.forM w.at_ g body f k ρ s0 = .err c q s0 := by
    intro d
    induction d with
    | zero =>
      intro k f ρ e hf h
      have : k = m := by omega
      subst this
      obtain ⟨f, rfl⟩ : ∃ f', f = f' + 1 := ⟨f - 1, by omega⟩
      obtain ⟨v, ρ1, a1, a2, a3⟩ := he ρ h
      unfold Vs.forM
      rw [a1]
      dsimp only
      rw [a2, ts_ok, a3]
    | succ d ih =>
      intro k f ρ e hf h
      obtain ⟨f, rfl⟩ : ∃ f', f = f' + 1 := ⟨f - 1, by omega⟩
      obtain ⟨v, ρ1, ρ2, a1, a2, a3, a4⟩ := hs k ρ (by omega) h
      unfold Vs.forM
      rw [a1]
      dsimp only
      rw [a2, ts_ok, a3]
      exact ih (k + 1) f ρ2 (by omega) (by omega) a4
  show ((im ρ st).toS _) = _
  rw [hi]
  exact key m 0 w.n ρ (by omega) hm h0
theorem en_len : ∀ (n : Nat) (l : List PV), (enV n l).length = l.length
  | _, [] => rfl
  | n, _ :: l => congrArg (· + 1) (en_len (n + 1) l)
theorem en_at (l : List PV) (k : Nat) (s : PSt) : (wkL (enV 0 l)).at_ k s = match l[k]? with | some v => .item (.tup [.int k, v]) | none => .stop := by
  show (match (enV 0 l)[k]? with | some v => Stp.item v | none => .stop) = _
  rw [enV_get, Nat.zero_add]
  cases l[k]? <;> rfl
def sqV (b : Bool) (l : List PV) : PV := if b then .lst l else .tup l
abbrev E6 (j : Nat) (k o : PV) (i x : Option PR) : Ev := [some (.r j 0), some (.p k), some (.p o), i, x]
abbrev loopB (n : Nat) : SM := sSeq (sIf (tNotM (tTruth (eCallD (callF (n + 4) 4) (aCons (eVar 4) aNil) []))) (sSeq (sRaise 4 (eVar 3)) sNil) sNil) sNil
theorem loop_yes {n j : Nat} {k o v : PV} {i : PR} {s : PSt} (h : callF (n + 4) 4 [.p v] s = .ok (.p (.bl true)) s) : loopB n (E6 j k o (some i) (some (.p v))) s = .nx (E6 j k o (some i) (some (.p v))) s :=
  sq_nx (if_f (tn_ok (b := true) (tt_ok (cl_ok rfl h))) rfl) rfl
theorem loop_no {n j : Nat} {k o v i : PV} {s : PSt} (h : callF (n + 4) 4 [.p v] s = .ok (.p (.bl false)) s) : loopB n (E6 j k o (some (.p i)) (some (.p v))) s = .err 4 i s :=
  sq_err (if_t (tn_ok (b := false) (tt_ok (cl_ok rfl h))) (sq_err rfl))
theorem en_it (b : Bool) (l : List PV) (j : Nat) (k : PV) (i x : Option PR) (s : PSt) : iEnM (aCons (eVar 2) aNil) (E6 j k (sqV b l) i x) s = .ok (wkL (enV 0 l)) s := by cases b <;> rfl
theorem e2ok {n : Nat} (b : Bool) (l : List PV) (s : PSt) : callF (n + 1) 2 [.p (sqV b l)] s = .ok (.p (.bl true)) s := by
  rw [cf2]
  cases b <;> exact defM_ret rfl rfl
theorem e2no {n : Nat} {v : PV} (h : v = .non ∨ v = .dK [] []) (s : PSt) : callF (n + 1) 2 [.p v] s = .ok (.p (.bl false)) s := by
  rw [cf2]
  rcases h with rfl | rfl <;> exact defM_ret rfl rfl
theorem len_sq (b : Bool) (l : List PV) (s : PSt) : lenM (.p (sqV b l)) s = .ok (.p (.int l.length)) s := by cases b <;> rfl
theorem tup_sq (b : Bool) (l : List PV) (s : PSt) : toTupM (.p (sqV b l)) s = .ok (.p (.tup l)) s := by cases b <;> rfl
/-- the test ahead of the loop -/
theorem ahead {n j : Nat} (b : Bool) (l : List PV) (k : PV) (s : PSt) : tOrM (tNotM (tTruth (eCallD (callF (n + 4) 2) (aCons (eVar 2) aNil) []))) (tNotM (tVal (eChain leM leM (eC (.int 1)) (e1 lenM (eVar 2)) (eC (.int 6))))) (E6 j k (sqV b l) none none) s = .ok (!(decide ((1 : Int) ≤ l.length) && decide ((l.length : Int) ≤ 6))) s :=
  or_f (tn_ok (b := true) (tt_ok (cl_ok rfl (e2ok (n := n + 3) b l s)))) (tn_ok (tv_ok (ch_ok (e1_ok rfl (len_sq b l s)))))
theorem e6ok {n : Nat} {t : Told} (ok : t.Ok) (b : Bool) (st : PSt) : callF (n + 5) 6 [.r st.length 0, .p (.int t.k), .p (sqV b (t.os.map Ord.pv))] (st ++ [fresh]) = .ok (.p .non) (st ++ [.ins 0 ["kerf", "orders"] [.int t.k, .tup (t.os.map Ord.pv)] none]) := by
  rw [cf6]
  have c5 := e5ok (n := n + 1) (v := .int t.k) rfl (yes_int ⟨ok.k0, ok.k1⟩) (st ++ [fresh])
  have ah := ahead (n := n) (j := st.length) b (t.os.map Ord.pv) (.int t.k) (st ++ [fresh])
  have l0 := ok.l0
  have l1 := ok.l1
  have bt : (decide ((1 : Int) ≤ (t.os.map Ord.pv).length) && decide (((t.os.map Ord.pv).length : Int) ≤ 6)) = true := by
    rw [List.length_map, Bool.and_eq_true, decide_eq_true_eq, decide_eq_true_eq]; omega
  rw [bt] at ah
  obtain ⟨ρ', ⟨i', x', rfl⟩, lp⟩ := for_all (g := gTp 2 (gsCons (gNm 3) (gsCons (gNm 4) gsNil))) (body := loopB n) (en_it b (t.os.map Ord.pv) st.length (.int t.k) none none (st ++ [fresh])) (fun _ ρ => ∃ i x, ρ = E6 st.length (.int t.k) (sqV b (t.os.map Ord.pv)) i x) ⟨none, none, rfl⟩ (by
    rintro k ρ hk ⟨i, x, rfl⟩
    have hk : k < (enV 0 (t.os.map Ord.pv)).length := hk
    rw [en_len, List.length_map] at hk
    have e : (t.os.map Ord.pv)[k]? = some (t.os[k].pv) := by rw [List.getElem?_map, List.getElem?_eq_getElem hk]; rfl
    have hm : t.os[k] ∈ t.os := List.getElem_mem hk
    exact ⟨.tup [.int k, t.os[k].pv], E6 st.length (.int t.k) (sqV b (t.os.map Ord.pv)) (some (.p (.int k))) (some (.p t.os[k].pv)), _, by rw [en_at, e], rfl, loop_yes (e4o (n := n + 1) ⟨ok.w _ hm, ok.h _ hm, ok.p _ hm⟩ _), _, _, rfl⟩) (by
    show (wkL (enV 0 (t.os.map Ord.pv))).at_ (enV 0 (t.os.map Ord.pv)).length _ = _
    rw [en_at, en_len, List.getElem?_eq_none (Nat.le_refl _)])
  have s1 := set_at st [] [] "kerf" (.int t.k) (by simp)
  have s2 := set_at st ["kerf"] [.int t.k] "orders" (.tup (t.os.map Ord.pv)) (by simp)
  have p1 : putN "kerf" (PV.int t.k) [] [] = ((["kerf"] : List Str), ([.int t.k] : List PV)) := rfl
  have p2 : putN "orders" (PV.tup (t.os.map Ord.pv)) ["kerf"] [.int t.k] = ((["kerf", "orders"] : List Str), ([.int t.k, .tup (t.os.map Ord.pv)] : List PV)) := rfl
  rw [p1] at s1
  rw [p2] at s2
  dsimp only at s1 s2
  refine defM_nxS (st := st ++ [fresh]) rfl (ρ := E6 st.length (.int t.k) (sqV b (t.os.map Ord.pv)) i' x') (s := st ++ [.ins 0 ["kerf", "orders"] [.int t.k, .tup (t.os.map Ord.pv)] none]) ?_ (by simp)
  refine sq_nx (ex_ok (cl_ok rfl c5)) (sq_nx (if_f ah rfl) ?_)
  refine (sq_eq lp).trans ?_
  exact sq_nx (sf_ok rfl rfl s1) (sq_nx (sf_ok (e1_ok rfl (tup_sq b _ _)) rfl s2) rfl)
theorem e6k {n : Nat} {v o : PV} (d : dat v = true) (h : within v 0 2 = false) (j : Nat) (st : PSt) : callF (n + 5) 6 [.r j 0, .p v, .p o] st = .err 3 v st := by
  rw [cf6]
  exact defM_err rfl (sq_err (se_err (cl_ok rfl (e5no (n := n + 1) d h st))))
theorem e6n {n : Nat} {o : PV} (h : (o = .non ∨ o = .dK [] []) ∨ ∃ b l, o = sqV b l ∧ (l.length = 0 ∨ 6 < l.length)) (j : Nat) (st : PSt) : callF (n + 5) 6 [.r j 0, .p (.int 0), .p o] st = .err 4 (.int (-1)) st := by
  rw [cf6]
  have c5 := e5ok (n := n + 1) (v := .int 0) rfl rfl st
  rcases h with h | ⟨b, l, rfl, h⟩
  · exact defM_err rfl (sq_nx (ex_ok (cl_ok rfl c5)) (sq_err (if_t (or_t (tn_ok (b := false) (tt_ok (cl_ok rfl (e2no (n := n + 3) h st))))) (sq_err rfl))))
  · have ah := ahead (n := n) (j := j) b l (.int 0) st
    have bf : (decide ((1 : Int) ≤ l.length) && decide ((l.length : Int) ≤ 6)) = false := by
      rw [Bool.and_eq_false_iff, decide_eq_false_iff_not, decide_eq_false_iff_not]; omega
    rw [bf] at ah
    exact defM_err rfl (sq_nx (ex_ok (cl_ok rfl c5)) (sq_err (if_t ah (sq_err rfl))))
theorem e6w {n : Nat} {os : List Ord} {bad : PV} (hl : os.length ≤ 5) (ho : ∀ o ∈ os, Ord.Ok o) (j : Nat) (st : PSt) (hb : callF (n + 4) 4 [.p bad] st = .ok (.p (.bl false)) st) : callF (n + 5) 6 [.r j 0, .p (.int 0), .p (.lst (os.map Ord.pv ++ [bad]))] st = .err 4 (.int os.length) st := by
  rw [cf6]
  have c5 := e5ok (n := n + 1) (v := .int 0) rfl rfl st
  have ah := ahead (n := n) (j := j) true (os.map Ord.pv ++ [bad]) (.int 0) st
  have bt : (decide ((1 : Int) ≤ (os.map Ord.pv ++ [bad]).length) && decide (((os.map Ord.pv ++ [bad]).length : Int) ≤ 6)) = true := by
    rw [List.length_append, List.length_map, Bool.and_eq_true, decide_eq_true_eq, decide_eq_true_eq]
    simp only [List.length_cons, List.length_nil]
    omega
  rw [bt] at ah
  have lp := for_err (g := gTp 2 (gsCons (gNm 3) (gsCons (gNm 4) gsNil))) (body := loopB n) (c := 4) (q := .int os.length) (en_it true (os.map Ord.pv ++ [bad]) j (.int 0) none none st) (fun _ ρ => ∃ i x, ρ = E6 j (.int 0) (sqV true (os.map Ord.pv ++ [bad])) i x) os.length (by
    show os.length < (enV 0 (os.map Ord.pv ++ [bad])).length
    rw [en_len, List.length_append, List.length_map]
    exact Nat.lt_succ_self _) ⟨none, none, rfl⟩ (by
    rintro k ρ hk ⟨i, x, rfl⟩
    have e : (os.map Ord.pv ++ [bad])[k]? = some (os[k].pv) := by
      rw [List.getElem?_append_left (by rw [List.length_map]; exact hk), List.getElem?_map, List.getElem?_eq_getElem hk]; rfl
    exact ⟨.tup [.int k, os[k].pv], E6 j (.int 0) (sqV true (os.map Ord.pv ++ [bad])) (some (.p (.int k))) (some (.p os[k].pv)), _, by rw [en_at, e], rfl, loop_yes (e4o (n := n + 1) (ho _ (List.getElem_mem hk)) _), _, _, rfl⟩) (by
    rintro ρ ⟨i, x, rfl⟩
    have e : (os.map Ord.pv ++ [bad])[os.length]? = some bad := by
      rw [List.getElem?_append_right (by rw [List.length_map]; exact Nat.le_refl _), List.length_map, Nat.sub_self]; rfl
    exact ⟨.tup [.int os.length, bad], E6 j (.int 0) (sqV true (os.map Ord.pv ++ [bad])) (some (.p (.int os.length))) (some (.p bad)), by rw [en_at, e], rfl, loop_no hb⟩)
  exact defM_err rfl (sq_nx (ex_ok (cl_ok rfl c5)) (sq_nx (if_f ah rfl) (sq_err lp)))
end K00
namespace K00
open PySem Vs
/-! told tuples as data -/
def Ord.pd (o : Ord) : PyData := .tuple [.int o.w, .int o.h, .int o.p]
def Told.pd (t : Told) : PyData := .tuple [.int t.k, .tuple (t.os.map Ord.pd)]
theorem toDs_ords : ∀ os : List Ord, toDs (os.map Ord.pv) = some (os.map Ord.pd)
  | [] => rfl
  | o :: os => by
    show (match toD o.pv, toDs (os.map Ord.pv) with | some d, some ds => some (d :: ds) | _, _ => none) = _
    rw [toDs_ords os]; rfl
theorem deep_ords : ∀ os : List Ord, PyData.depthAll (os.map Ord.pd) ≤ 1
  | [] => Nat.zero_le _
  | o :: os => by
    show max (PyData.depth o.pd) (PyData.depthAll (os.map Ord.pd)) ≤ 1
    have := deep_ords os
    have e : PyData.depth o.pd = 1 := rfl
    omega
theorem lay_ords : ∀ os : List Ord, PyData.canLayAll0 (os.map Ord.pd) = true
  | [] => rfl
  | o :: os => by
    show (PyData.canLay0 o.pd && PyData.canLayAll0 (os.map Ord.pd)) = true
    rw [lay_ords os]; rfl
theorem d_told (t : Told) (st : PSt) : dOf st (.p t.pv) = some t.pd := by
  show (toDs [.int t.k, .tup (t.os.map Ord.pv)]).map PyData.tuple = _
  simp only [toDs, toD, toDs_ords, Option.map_some]; rfl
theorem lay_told (t : Told) : PyData.canLay0 t.pd = true := by
  show (true && (PyData.canLayAll0 (t.os.map Ord.pd) && true)) = true
  rw [lay_ords]; rfl
theorem shaped_told (t : Told) : SeqAt.shaped t.pd = true := by
  show (PyData.canLay0 t.pd && decide (PyData.depth t.pd ≤ 64)) = true
  rw [lay_told]
  have := deep_ords t.os
  have e : PyData.depth t.pd = max 0 (max (PyData.depthAll (t.os.map Ord.pd) + 1) 0) + 1 := rfl
  rw [e]
  simp; omega
def sameT (t u : Told) : Bool := PyData.eqv t.pd u.pd
theorem eq_told (t u : Told) (st : PSt) : eqM (.p t.pv) (.p u.pv) st = .ok (.p (.bl (sameT t u))) st := by
  unfold eqM Vs.dat2
  simp only [d_told]
  rw [if_pos ⟨shaped_told t, shaped_told u⟩]
  rfl
theorem sameT_self (t : Told) : sameT t t = true := SeqAt.eqv_refl t.pd (lay_told t)
theorem ne_self {v : PV} {d : PyData} (h : toD v = some d) (hs : SeqAt.shaped d = true) (st : PSt) : neM (.p v) (.p v) st = .ok (.p (.bl false)) st := by
  have e : dOf st (.p v) = some d := h
  unfold neM Vs.dat2
  simp only [e]
  rw [if_pos ⟨hs, hs⟩]
  have l : d.canLay0 = true := by
    have hs : (d.canLay0 && decide (d.depth ≤ 64)) = true := hs
    exact (Bool.and_eq_true _ _ ▸ hs).1
  rw [SeqAt.eqv_refl d l]; rfl
theorem tp_told (t : Told) {ρ : Ev} {st : PSt} {a : Ev → PM (List PR)} (h : a ρ st = .ok [.p (.int t.k), .p (.tup (t.os.map Ord.pv))] st) : eTup a ρ st = .ok (.p t.pv) st := tp_ok (l := [.int t.k, .tup (t.os.map Ord.pv)]) h lim2
theorem e7 {n : Nat} (t u : Told) (st : PSt) : callF (n + 1) 7 [.p t.obj, .p u.obj] st = .ok (.p (.bl (sameT t u))) st := by
  rw [cf7]
  exact defM_ret rfl (sq_ret (re_ok (ea_yes (s := st) rfl (e2_ok (tp_told t (ac_ok (e1_ok rfl (f_kerf t st)) (ac_ok (e1_ok rfl (f_orders t st)) rfl))) (tp_told u (ac_ok (e1_ok rfl (f_kerf u st)) (ac_ok (e1_ok rfl (f_orders u st)) rfl))) (eq_told t u st)))))
theorem e7t {n : Nat} (t u : Told) (st : PSt) : callF (n + 1) 7 [.p t.obj, .p u.pv] st = .ok (.p (.bl false)) st := by
  rw [cf7]
  exact defM_ret rfl (sq_ret (re_ok (ea_no rfl)))
theorem eqO_ok (t u : Told) (st : PSt) : eqOM 0 (callF 90 7) (.p t.obj) (.p u.obj) st = .ok (.p (.bl (sameT t u))) st := by
  have e : callF 90 7 [.p t.obj, .p u.obj] st = .ok (.p (.bl (sameT t u))) st := e7 (n := 89) ..
  show ((callF 90 7 [.p t.obj, .p u.obj] st).bind _) = _
  rw [e]; rfl
theorem neO_ok (t u : Told) (st : PSt) : neOM 0 (callF 90 7) (.p t.obj) (.p u.pv) st = .ok (.p (.bl true)) st := by
  have e : callF 90 7 [.p t.obj, .p u.pv] st = .ok (.p (.bl false)) st := e7t (n := 89) ..
  show (if ("tuple" : String) ∈ tyNs then ((callF 90 7 [.p t.obj, .p u.pv] >>= fun r => asB r >>= fun b => retB (!b)) st) else .stuck) = _
  rw [if_pos (by decide), pm_bind, e]
  rfl
/-! alike -/
theorem a_lst {n : Nat} {l : List PV} (hl : l.length ≤ lim) (st : PSt) (h : ∀ v ∈ l, callF n 39 [.p v, .p v] st = .ok (.p (.bl true)) st) : callF (n + 1) 39 [.p (.lst l), .p (.lst l)] st = .ok (.p (.bl true)) st := by
  rw [cf39]
  refine defM_ret rfl ?_
  have i1 : isiM [0, 1] [.ty "tuple", .ty "list"] (.p (.lst l)) st = .ok (.p (.bl true)) st := rfl
  have i2 : isiM [0, 1] [.ty "list"] (.p (.lst l)) st = .ok (.p (.bl true)) st := rfl
  have ln : ∀ st : PSt, lenM (.p (.lst l)) st = .ok (.p (.int l.length)) st := fun _ => rfl
  have c1 : eLc (iRng1M (aCons (e1 lenM (eVar 1)) aNil)) (cgNm 2) [2] (tNotM (tTruth (eCallD (callF n 39) (aCons (e2 ixM (eVar 0) (eVar 2)) (aCons (e2 ixM (eVar 1) (eVar 2)) aNil)) []))) (eVar 2) [some (.p (.lst l)), some (.p (.lst l)), none, none] st = .ok (.p (.lst ((((List.range (l.length : Int).toNat).map fun (i : Nat) => PV.int i).filter fun _ => false).map fun v => v))) st :=
    lc_rng (j := l.length) rfl ⟨by omega, lim_i hl⟩ (fun v => [some (.p (.lst l)), some (.p (.lst l)), some (.p v), none]) (fun _ => false) (fun v => v) (fun k _ => rfl)
      (fun k hk => by
        have hk : k < l.length := by simpa using hk
        obtain ⟨v, hv, ev⟩ := at_nn (l := l) (i := k) (by omega) (by omega)
        have ic : ixM (.p (.lst l)) (.p (.int k)) st = .ok (.p v) st := by
          show (match L2.atI l k with | some v => Out.ok (PR.p v) st | none => .stuck) = _
          rw [ev]
        simp only [sSeq, sNil, sExpr, sRet, sRetN, sIf, sAsg, sPar, sPar3, sRaise, gNm, gsNil, gsCons, gTp, gSubM, eVar, eC, e1, e2, aNil, aCons, eCallD, eTup, eLst, eLstM, newLst, eAnd, eOr, eNot, eIf, eChain, tVal, tTruth, tNotM, tAndM, tOrM, asB, truthM, eFrz, frz, pures, PM.guard, PM.stuck, le_ii, gt_ii, ge_ii, lt_ii, sub_ii, add_ii, toInt_i, retB_ok, pm_bind, pm_pure, ob_ok, ob_err, ts_ok, ts_err, then_nx, then_ret, then_err, then_ct, List.map_cons, List.map_nil, List.append_nil, List.nil_append, List.cons_append, List.length_cons, List.length_nil, List.replicate, Nat.sub_self, Nat.zero_add, List.getElem?_cons_zero, List.getElem?_cons_succ, List.set_cons_zero, List.set_cons_succ, if_true, if_false, Bool.false_eq_true, Bool.not_true, Bool.not_false, ite_true, ite_false, eq_self, reduceIte, Bool.true_eq_false, reduceCtorEq, ic, h v hv])
      (fun _ _ h => by cases h)
  rw [rng_len] at c1
  have n1 : neM (.p (.bl true)) (.p (.bl true)) st = .ok (.p (.bl false)) st := rfl
  have n2 : neM (.p (.int l.length)) (.p (.int l.length)) st = .ok (.p (.bl false)) st := by
    rw [ne_int, beq_self_eq_true]; rfl
  have t3 : ∀ C : EM, C [some (.p (.lst l)), some (.p (.lst l)), none, none] st = .ok (.p (.lst [])) st → e2 eqM C (eLst aNil) [some (.p (.lst l)), some (.p (.lst l)), none, none] st = .ok (.p (.bl true)) st := fun C h => by simp only [sSeq, sNil, sExpr, sRet, sRetN, sIf, sAsg, sPar, sPar3, sRaise, gNm, gsNil, gsCons, gTp, gSubM, eVar, eC, e1, e2, aNil, aCons, eCallD, eTup, eLst, eLstM, newLst, eAnd, eOr, eNot, eIf, eChain, tVal, tTruth, tNotM, tAndM, tOrM, asB, truthM, eFrz, frz, pures, PM.guard, PM.stuck, le_ii, gt_ii, ge_ii, lt_ii, sub_ii, add_ii, toInt_i, retB_ok, pm_bind, pm_pure, ob_ok, ob_err, ts_ok, ts_err, then_nx, then_ret, then_err, then_ct, List.map_cons, List.map_nil, List.append_nil, List.nil_append, List.cons_append, List.length_cons, List.length_nil, List.replicate, Nat.sub_self, Nat.zero_add, List.getElem?_cons_zero, List.getElem?_cons_succ, List.set_cons_zero, List.set_cons_succ, if_true, if_false, Bool.false_eq_true, Bool.not_true, Bool.not_false, ite_true, ite_false, eq_self, reduceIte, Bool.true_eq_false, reduceCtorEq, h, pures, Nat.zero_le, eq_nil]
  have t1 : tOrM (tNotM (tTruth (e1 (isiM [0, 1] [(.ty "tuple"), (.ty "list")]) (eVar 0)))) (tVal (e2 neM (e1 (isiM [0, 1] [(.ty "list")]) (eVar 0)) (e1 (isiM [0, 1] [(.ty "list")]) (eVar 1)))) [some (.p (.lst l)), some (.p (.lst l)), none, none] st = .ok false st := by simp only [sSeq, sNil, sExpr, sRet, sRetN, sIf, sAsg, sPar, sPar3, sRaise, gNm, gsNil, gsCons, gTp, gSubM, eVar, eC, e1, e2, aNil, aCons, eCallD, eTup, eLst, eLstM, newLst, eAnd, eOr, eNot, eIf, eChain, tVal, tTruth, tNotM, tAndM, tOrM, asB, truthM, eFrz, frz, pures, PM.guard, PM.stuck, le_ii, gt_ii, ge_ii, lt_ii, sub_ii, add_ii, toInt_i, retB_ok, pm_bind, pm_pure, ob_ok, ob_err, ts_ok, ts_err, then_nx, then_ret, then_err, then_ct, List.map_cons, List.map_nil, List.append_nil, List.nil_append, List.cons_append, List.length_cons, List.length_nil, List.replicate, Nat.sub_self, Nat.zero_add, List.getElem?_cons_zero, List.getElem?_cons_succ, List.set_cons_zero, List.set_cons_succ, if_true, if_false, Bool.false_eq_true, Bool.not_true, Bool.not_false, ite_true, ite_false, eq_self, reduceIte, Bool.true_eq_false, reduceCtorEq, i1, i2, n1]
  have t2 : tVal (e2 neM (e1 lenM (eVar 0)) (e1 lenM (eVar 1))) [some (.p (.lst l)), some (.p (.lst l)), none, none] st = .ok false st := by simp only [sSeq, sNil, sExpr, sRet, sRetN, sIf, sAsg, sPar, sPar3, sRaise, gNm, gsNil, gsCons, gTp, gSubM, eVar, eC, e1, e2, aNil, aCons, eCallD, eTup, eLst, eLstM, newLst, eAnd, eOr, eNot, eIf, eChain, tVal, tTruth, tNotM, tAndM, tOrM, asB, truthM, eFrz, frz, pures, PM.guard, PM.stuck, le_ii, gt_ii, ge_ii, lt_ii, sub_ii, add_ii, toInt_i, retB_ok, pm_bind, pm_pure, ob_ok, ob_err, ts_ok, ts_err, then_nx, then_ret, then_err, then_ct, List.map_cons, List.map_nil, List.append_nil, List.nil_append, List.cons_append, List.length_cons, List.length_nil, List.replicate, Nat.sub_self, Nat.zero_add, List.getElem?_cons_zero, List.getElem?_cons_succ, List.set_cons_zero, List.set_cons_succ, if_true, if_false, Bool.false_eq_true, Bool.not_true, Bool.not_false, ite_true, ite_false, eq_self, reduceIte, Bool.true_eq_false, reduceCtorEq, ln, n2]
  have t0 : tTruth (e1 (isiM [0, 1] [(.ty "tuple"), (.ty "list")]) (eVar 1)) [some (.p (.lst l)), some (.p (.lst l)), none, none] st = .ok true st := by simp only [sSeq, sNil, sExpr, sRet, sRetN, sIf, sAsg, sPar, sPar3, sRaise, gNm, gsNil, gsCons, gTp, gSubM, eVar, eC, e1, e2, aNil, aCons, eCallD, eTup, eLst, eLstM, newLst, eAnd, eOr, eNot, eIf, eChain, tVal, tTruth, tNotM, tAndM, tOrM, asB, truthM, eFrz, frz, pures, PM.guard, PM.stuck, le_ii, gt_ii, ge_ii, lt_ii, sub_ii, add_ii, toInt_i, retB_ok, pm_bind, pm_pure, ob_ok, ob_err, ts_ok, ts_err, then_nx, then_ret, then_err, then_ct, List.map_cons, List.map_nil, List.append_nil, List.nil_append, List.cons_append, List.length_cons, List.length_nil, List.replicate, Nat.sub_self, Nat.zero_add, List.getElem?_cons_zero, List.getElem?_cons_succ, List.set_cons_zero, List.set_cons_succ, if_true, if_false, Bool.false_eq_true, Bool.not_true, Bool.not_false, ite_true, ite_false, eq_self, reduceIte, Bool.true_eq_false, reduceCtorEq, i1]
  exact sq_ret (if_t t0 (sq_nx (if_f t1 rfl) (sq_nx (if_f t2 rfl) (sq_ret (re_ok (t3 _ c1))))))
theorem a_ints {n : Nat} {L : List Int} (hl : L.length ≤ 1000) (st : PSt) : callF (n + 2) 39 [.p (.lst (L.map .int)), .p (.lst (L.map .int))] st = .ok (.p (.bl true)) st :=
  a_lst (n := n + 1) (limN (by rw [List.length_map]; exact hl)) st fun v hv => by
    obtain ⟨i, _, rfl⟩ := List.mem_map.mp hv
    exact a_int i st
theorem a_told {n : Nat} {t : Told} (ok : t.Ok) (st : PSt) : callF (n + 4) 39 [.p t.pv, .p t.pv] st = .ok (.p (.bl true)) st := by
  have l1 := ok.l1
  refine a_tup (n := n + 3) (l := [.int t.k, .tup (t.os.map Ord.pv)]) lim2 st fun v hv => ?_
  simp only [List.mem_cons, List.not_mem_nil, or_false] at hv
  rcases hv with rfl | rfl
  · exact a_int (n := n + 2) _ st
  · refine a_tup (n := n + 2) (limN (by rw [List.length_map]; omega)) st fun v hv => ?_
    obtain ⟨o, _, rfl⟩ := List.mem_map.mp hv
    refine a_tup (n := n + 1) (l := [.int o.w, .int o.h, .int o.p]) (limN (by simp)) st fun v hv => ?_
    simp only [List.mem_cons, List.not_mem_nil, or_false] at hv
    rcases hv with rfl | rfl | rfl <;> exact a_int (n := n) _ st
theorem a_three {n : Nat} (a b c : Int) (st : PSt) : callF (n + 2) 39 [.p (.tup [.int a, .int b, .int c]), .p (.tup [.int a, .int b, .int c])] st = .ok (.p (.bl true)) st :=
  a_tup (n := n + 1) (l := [.int a, .int b, .int c]) (limN (by simp)) st fun v hv => by
    simp only [List.mem_cons, List.not_mem_nil, or_false] at hv
    rcases hv with rfl | rfl | rfl <;> exact a_int (n := n) _ st
/-! a Saw made, and a Saw refused -/
theorem make_ok {n : Nat} {t : Told} (ok : t.Ok) (b : Bool) {ρ : Ev} {st st0 : PSt} {ar : Ev → PM (List PR)} (hr : ar ρ st0 = .ok [.p (.int t.k), .p (sqV b (t.os.map Ord.pv))] st) : eFrz (mkM 0 (callF (n + 5) 6) ar []) ρ st0 = .ok (.p t.obj) (st ++ [.dead]) := by
  have e := e6ok (n := n) ok b st
  have g : (st ++ [PObj.ins 0 ["kerf", "orders"] [.int t.k, .tup (t.os.map Ord.pv)] none])[st.length]? = some (.ins 0 ["kerf", "orders"] [.int t.k, .tup (t.os.map Ord.pv)] none) := by simp
  have g2 : (st ++ [PObj.ins 0 ["kerf", "orders"] [.int t.k, .tup (t.os.map Ord.pv)] none]).set st.length .dead = st ++ [.dead] := by
    rw [List.set_append_right _ _ (Nat.le_refl _)]; simp
  simp only [sSeq, sNil, sExpr, sRet, sRetN, sIf, sAsg, sPar, sPar3, sRaise, gNm, gsNil, gsCons, gTp, gSubM, eVar, eC, e1, e2, aNil, aCons, eCallD, eTup, eLst, eLstM, newLst, eAnd, eOr, eNot, eIf, eChain, tVal, tTruth, tNotM, tAndM, tOrM, asB, truthM, eFrz, frz, pures, PM.guard, PM.stuck, le_ii, gt_ii, ge_ii, lt_ii, sub_ii, add_ii, toInt_i, retB_ok, pm_bind, pm_pure, ob_ok, ob_err, ts_ok, ts_err, then_nx, then_ret, then_err, then_ct, List.map_cons, List.map_nil, List.append_nil, List.nil_append, List.cons_append, List.length_cons, List.length_nil, List.replicate, Nat.sub_self, Nat.zero_add, List.getElem?_cons_zero, List.getElem?_cons_succ, List.set_cons_zero, List.set_cons_succ, if_true, if_false, Bool.false_eq_true, Bool.not_true, Bool.not_false, ite_true, ite_false, eq_self, reduceIte, Bool.true_eq_false, reduceCtorEq, mkM, hr, e, g, g2]
  rfl
theorem make_no {k o : PV} {ρ : Ev} {st st0 : PSt} {ar : Ev → PM (List PR)} {f : FM} {c : Nat} {q : PV} (hr : ar ρ st0 = .ok [.p k, .p o] st) (e : f [.r st.length 0, .p k, .p o] (st ++ [fresh]) = .err c q (st ++ [fresh])) : eFrz (mkM 0 f ar []) ρ st0 = .err c q (st ++ [fresh]) := by
  simp only [sSeq, sNil, sExpr, sRet, sRetN, sIf, sAsg, sPar, sPar3, sRaise, gNm, gsNil, gsCons, gTp, gSubM, eVar, eC, e1, e2, aNil, aCons, eCallD, eTup, eLst, eLstM, newLst, eAnd, eOr, eNot, eIf, eChain, tVal, tTruth, tNotM, tAndM, tOrM, asB, truthM, eFrz, frz, pures, PM.guard, PM.stuck, le_ii, gt_ii, ge_ii, lt_ii, sub_ii, add_ii, toInt_i, retB_ok, pm_bind, pm_pure, ob_ok, ob_err, ts_ok, ts_err, then_nx, then_ret, then_err, then_ct, List.map_cons, List.map_nil, List.append_nil, List.nil_append, List.cons_append, List.length_cons, List.length_nil, List.replicate, Nat.sub_self, Nat.zero_add, List.getElem?_cons_zero, List.getElem?_cons_succ, List.set_cons_zero, List.set_cons_succ, if_true, if_false, Bool.false_eq_true, Bool.not_true, Bool.not_false, ite_true, ite_false, eq_self, reduceIte, Bool.true_eq_false, reduceCtorEq, mkM, hr, e]
end K00
namespace K00
open PySem Vs
/-! _law_tree -/
def sm (m : Int) : T → Prop
  | .slab i => 0 ≤ i ∧ i ≤ m
  | .three _ k a => (0 ≤ k ∧ k ≤ m) ∧ sm m a
  | .node _ k a b => (0 ≤ k ∧ k ≤ m) ∧ sm m a ∧ sm m b
  | _ => True
structure Tre (t : Told) (x : T) (W H : Int) (k : Nat) : Prop where
  low : W < 1 ∨ H < 1 → x = .non
  hi : 1 ≤ W → 1 ≤ H → tk t x W H = true
  de : dep x ≤ k
  dd : dp x ≤ k + 1
  ss : sz x ≤ 2 ^ k
  sn : sm 12 x
def slabV (i : Int) : PV := (T.slab i).pv
theorem toDs_slabs : ∀ L : List Int, toDs (L.map slabV) = some (L.map fun i => (T.slab i).pd)
  | [] => rfl
  | i :: L => by
    show (match toD (slabV i), toDs (L.map slabV) with | some d, some ds => some (d :: ds) | _, _ => none) = _
    rw [toDs_slabs L]; rfl
theorem deep_slabs : ∀ L : List Int, PyData.depthAll (L.map fun i => (T.slab i).pd) ≤ 1
  | [] => Nat.zero_le _
  | i :: L => by
    show max (PyData.depth (T.slab i).pd) (PyData.depthAll (L.map fun i => (T.slab i).pd)) ≤ 1
    have := deep_slabs L
    have e : PyData.depth (T.slab i).pd = 1 := rfl
    omega
theorem lay_slabs : ∀ L : List Int, PyData.canLayAll0 (L.map fun i => (T.slab i).pd) = true
  | [] => rfl
  | i :: L => by
    show (PyData.canLay0 (T.slab i).pd && PyData.canLayAll0 (L.map fun i => (T.slab i).pd)) = true
    rw [lay_slabs L, lay_pd]; rfl
theorem ne_slabs (L : List Int) (st : PSt) : neM (.p (.lst (L.map slabV))) (.p (.lst [])) st = .ok (.p (.bl (!L.isEmpty))) st := by
  have e1 : dOf st (.p (.lst (L.map slabV))) = some (.list (L.map fun i => (T.slab i).pd)) := by
    show (toDs (L.map slabV)).map PyData.list = _
    rw [toDs_slabs]; rfl
  have e0 : dOf st (.p (.lst [])) = some (.list []) := rfl
  have hs : SeqAt.shaped (.list (L.map fun i => (T.slab i).pd)) = true := by
    show (PyData.canLayAll0 (L.map fun i => (T.slab i).pd) && decide (PyData.depthAll (L.map fun i => (T.slab i).pd) + 1 ≤ 64)) = true
    rw [lay_slabs]
    have := deep_slabs L
    simp; omega
  unfold neM Vs.dat2
  simp only [e0, e1]
  rw [if_pos ⟨hs, rfl⟩]
  cases L <;> rfl
abbrev E30 (t : Told) (W H k : Int) (f a : Option PR) : Ev := [some (.r 0 0), some (.p t.pv), some (.p (.int W)), some (.p (.int H)), some (.p (.int k)), f, a]
def fitL (t : Told) (W H : Int) : List Int := ((List.range t.os.length).filter fun (i : Nat) => fits t i W H).map fun (i : Nat) => (i : Int)
theorem fitL_in {t : Told} {W H i : Int} (h : i ∈ fitL t W H) : fits t i W H = true := by
  obtain ⟨j, hj, rfl⟩ := List.mem_map.mp h
  exact (List.mem_filter.mp hj).2
theorem fitL_len (t : Told) (W H : Int) : (fitL t W H).length ≤ t.os.length := by
  unfold fitL
  rw [List.length_map]
  exact Nat.le_trans (List.length_filter_le _ _) (by rw [List.length_range]; exact Nat.le_refl _)
theorem fits_lc {t : Told} (ok : t.Ok) {W H k : Int} {f a : Option PR} {st : PSt} : eLc (iRng1M (aCons (e1 lenM (e2 ixM (eVar 1) (eC (.int 1)))) aNil)) (cgNm 6) [6] (tVal (e2 eqM (eSl (e2 ixM (e2 ixM (eVar 1) (eC (.int 1))) (eVar 6)) pNo (pSome (eC (.int 2)))) (eTup (aCons (eVar 2) (aCons (eVar 3) aNil))))) (eTup (aCons (eC (.str "slab")) (aCons (eVar 6) aNil))) (E30 t W H k f a) st = .ok (.p (.lst ((fitL t W H).map slabV))) st := by
  have l1 := ok.l1
  have z := lc_rng (j := t.os.length) (cg := cgNm 6) (vs := [6]) (a := aCons (e1 lenM (e2 ixM (eVar 1) (eC (.int 1)))) aNil) (ρ := E30 t W H k f a) (st := st) (t := tVal (e2 eqM (eSl (e2 ixM (e2 ixM (eVar 1) (eC (.int 1))) (eVar 6)) pNo (pSome (eC (.int 2)))) (eTup (aCons (eVar 2) (aCons (eVar 3) aNil))))) (e := eTup (aCons (eC (.str "slab")) (aCons (eVar 6) aNil))) (by
      have ln : lenM (.p (.tup (t.os.map Ord.pv))) st = .ok (.p (.int t.os.length)) st := by
        show Out.ok (PR.p (.int (t.os.map Ord.pv).length)) st = _
        rw [List.length_map]
      exact ac_ok (e1_ok (e2_ok rfl rfl (pv_orders t st)) ln) rfl) ⟨by omega, lim_i (l := t.os.map Ord.pv) (limN (by rw [List.length_map]; omega)) |> fun h => by rw [List.length_map] at h; exact h⟩ (fun v => E30 t W H k f (some (.p v))) (fun v => match v with | .int i => fits t i W H | _ => false) (fun v => .tup [.str "slab", v]) (fun _ _ => rfl)
      (fun i hi => by
        have hi : i < t.os.length := by simpa using hi
        obtain ⟨o, eo, ix⟩ := ord_at (t := t) (i := i) (by omega) (by omega) st
        have ef : fits t i W H = (o.w == W && o.h == H) := by
          unfold fits
          rw [eo]
          show (decide ((0 : Int) ≤ i) && _) = _
          rw [decide_eq_true (show (0 : Int) ≤ i by omega), Bool.true_and]
        show _ = Out.ok (fits t i W H) st
        rw [ef]
        refine tv_ok (e2_ok (x := .p (.tup [.int o.w, .int o.h])) (s := st) ?_ (tp_ok (l := [.int W, .int H]) rfl lim2) (eq_pair ..))
        show ((e2 ixM (e2 ixM (eVar 1) (eC (.int 1))) (eVar 6) _ st).bind _) = _
        rw [e2_ok (e2_ok rfl rfl (pv_orders t st)) rfl ix]
        exact cut2 o st)
      (fun i _ _ => tp_ok (l := [.str "slab", .int i]) rfl lim2)
  have w : ((((List.range (t.os.length : Int).toNat).map fun (i : Nat) => PV.int i).filter (fun v => match v with | .int i => fits t i W H | _ => false)).map fun v => PV.tup [.str "slab", v]) = (fitL t W H).map slabV := by
    rw [Int.toNat_natCast, List.filter_map, List.map_map]
    unfold fitL
    rw [List.map_map]
    rfl
  rw [w] at z
  exact z
theorem t30a {t : Told} {n : Nat} {ns : List Int} {p s r : Int} {R : PSt} {W H k : Int} {a : Option PR} {L : List Int} (hp : 0 ≤ p) : ∃ b p' s' r', 0 ≤ p' ∧ (b = true → L ≠ []) ∧ tAndM (tVal (e2 neM (eVar 5) (eLst aNil))) (tVal (e2 gtM (eCallD (callF (n + 1) 37) (aCons (eVar 0) (aCons (eC (.int 3)) aNil)) []) (eC (.int 0)))) (E30 t W H k (some (.p (.lst (L.map slabV)))) a) (rowO ns p s r :: R) = .ok b (rowO ns p' s' r' :: R) := by
  have t1 := tv_ok (e2_ok (a := eVar 5) (ρ := E30 t W H k (some (.p (.lst (L.map slabV)))) a) rfl (ls_ok (l := []) (a := aNil) rfl (Nat.zero_le _)) (ne_slabs L (rowO ns p s r :: R)))
  cases L with
  | nil => exact ⟨false, p, s, r, hp, fun h => (by cases h), ta_no t1⟩
  | cons i L =>
    obtain ⟨d, p', s', r', _, _, hp', e⟩ := draw_ok (n := n) (ns := ns) (p := p) (s := s) (r := r) (q := p) (s1 := s) (r1 := r) (many := 3) (m := eC (.int 3)) (ρ := E30 t W H k (some (.p (.lst ((i :: L).map slabV)))) a) (j := 0) R rfl hp (by omega) (by omega) rfl
    exact ⟨_, p', s', r', hp', fun _ => List.cons_ne_nil _ _, ta_ok t1 (tv_ok (e2_ok e rfl (gt_ii ..)))⟩
theorem t30b {t : Told} {n : Nat} {ns : List Int} {p s r : Int} {R : PSt} {W H k : Int} {f a : Option PR} (hp : 0 ≤ p) : ∃ b p' s' r', 0 ≤ p' ∧ (b = false → k ≠ 0 ∧ ¬ (W = 1 ∧ H = 1)) ∧ tOrM (tVal (e2 eqM (eVar 4) (eC (.int 0)))) (tOrM (tAndM (tVal (e2 eqM (eVar 2) (eC (.int 1)))) (tVal (e2 eqM (eVar 3) (eC (.int 1))))) (tVal (e2 eqM (eCallD (callF (n + 1) 37) (aCons (eVar 0) (aCons (eC (.int 5)) aNil)) []) (eC (.int 0))))) (E30 t W H k f a) (rowO ns p s r :: R) = .ok b (rowO ns p' s' r' :: R) := by
  have t1 := tv_ok (e2_ok (a := eVar 4) (b := eC (.int 0)) (ρ := E30 t W H k f a) rfl rfl (eq_int k 0 (rowO ns p s r :: R)))
  have t2 := and_tt (tv_ok (e2_ok (a := eVar 2) (b := eC (.int 1)) (ρ := E30 t W H k f a) rfl rfl (eq_int W 1 (rowO ns p s r :: R)))) (tv_ok (e2_ok (a := eVar 3) (b := eC (.int 1)) (ρ := E30 t W H k f a) rfl rfl (eq_int H 1 (rowO ns p s r :: R))))
  by_cases z : k = 0
  · have q : (k == 0) = true := by simpa using z
    rw [q] at t1
    exact ⟨true, p, s, r, hp, fun h => (by cases h), or_t t1⟩
  · have q : (k == 0) = false := by simpa using z
    rw [q] at t1
    by_cases y : W = 1 ∧ H = 1
    · have q2 : (W == 1 && H == 1) = true := by simpa using y
      rw [q2] at t2
      exact ⟨true, p, s, r, hp, fun h => (by cases h), or_f t1 (or_t t2)⟩
    · have q2 : (W == 1 && H == 1) = false := by
        cases e : (W == 1 && H == 1) with
        | false => rfl
        | true => exact (y (by simpa using e)).elim
      rw [q2] at t2
      obtain ⟨d, p', s', r', _, _, hp', e⟩ := draw_ok (n := n) (ns := ns) (p := p) (s := s) (r := r) (q := p) (s1 := s) (r1 := r) (many := 5) (m := eC (.int 5)) (ρ := E30 t W H k f a) (j := 0) R rfl hp (by omega) (by omega) rfl
      exact ⟨_, p', s', r', hp', fun _ => ⟨z, y⟩, or_f t1 (or_f t2 (tv_ok (e2_ok e rfl (eq_int ..))))⟩
theorem t30c {t : Told} {n : Nat} {ns : List Int} {p s r : Int} {R : PSt} {W H k : Int} {f a : Option PR} (hp : 0 ≤ p) : ∃ b p' s' r', 0 ≤ p' ∧ (b = true → H = 1 ∨ 1 < W) ∧ (b = false → H ≠ 1) ∧ tOrM (tVal (e2 eqM (eVar 3) (eC (.int 1)))) (tAndM (tVal (e2 gtM (eVar 2) (eC (.int 1)))) (tVal (e2 eqM (eCallD (callF (n + 1) 37) (aCons (eVar 0) (aCons (eC (.int 2)) aNil)) []) (eC (.int 0))))) (E30 t W H k f a) (rowO ns p s r :: R) = .ok b (rowO ns p' s' r' :: R) := by
  have t1 := tv_ok (e2_ok (a := eVar 3) (b := eC (.int 1)) (ρ := E30 t W H k f a) rfl rfl (eq_int H 1 (rowO ns p s r :: R)))
  have t2 := tv_ok (e2_ok (a := eVar 2) (b := eC (.int 1)) (ρ := E30 t W H k f a) rfl rfl (gt_ii W 1 (rowO ns p s r :: R)))
  by_cases z : H = 1
  · have q : (H == 1) = true := by simpa using z
    rw [q] at t1
    exact ⟨true, p, s, r, hp, fun _ => .inl z, fun h => (by cases h), or_t t1⟩
  · have q : (H == 1) = false := by simpa using z
    rw [q] at t1
    by_cases y : 1 < W
    · rw [decide_eq_true y] at t2
      obtain ⟨d, p', s', r', _, _, hp', e⟩ := draw_ok (n := n) (ns := ns) (p := p) (s := s) (r := r) (q := p) (s1 := s) (r1 := r) (many := 2) (m := eC (.int 2)) (ρ := E30 t W H k f a) (j := 0) R rfl hp (by omega) (by omega) rfl
      exact ⟨_, p', s', r', hp', fun _ => .inr y, fun _ => z, or_f t1 (ta_ok t2 (tv_ok (e2_ok e rfl (eq_int ..))))⟩
    · rw [decide_eq_false y] at t2
      exact ⟨false, p, s, r, hp, fun h => (by cases h), fun _ => z, or_f t1 (ta_no t2)⟩
end K00
namespace K00
open PySem Vs
theorem sec_le {t : Told} (ok : t.Ok) {m k : Int} (hm : m ≤ 12) (hk : 0 ≤ k) : sec t m k ≤ 12 := by
  have := ok.k0
  unfold sec
  split <;> omega
theorem tre_node {t : Told} {d : Bool} {at_ : Int} {a b : T} {W H : Int} {k : Nat} (hk : k ≠ 0) (hW : 1 ≤ W) (hH : 1 ≤ H) (h0 : 1 ≤ at_) (h1 : at_ < if d then W else H) (h12 : at_ ≤ 12) (A : Tre t a (if d then at_ else W) (if d then H else at_) (k - 1)) (B : Tre t b (if d then sec t W at_ else W) (if d then H else sec t H at_) (k - 1)) : Tre t (.node d at_ a b) W H k := by
  have e2 : 2 ^ k = 2 ^ (k - 1) + 2 ^ (k - 1) := by
    obtain ⟨j, rfl⟩ : ∃ j, k = j + 1 := ⟨k - 1, by omega⟩
    rw [Nat.add_sub_cancel, Nat.pow_succ]; omega
  have A1 := A.de; have A2 := A.dd; have A3 := A.ss
  have B1 := B.de; have B2 := B.dd; have B3 := B.ss
  refine ⟨fun h => (by omega), fun _ _ => ?_, by show max (dep a) (dep b) + 1 ≤ k; omega, by show max (dp a) (dp b) + 1 ≤ k + 1; omega, by show sz a + sz b ≤ 2 ^ k; omega, ⟨⟨by omega, h12⟩, A.sn, B.sn⟩⟩
  have rest : ∀ m n : Int, 0 ≤ m → 0 ≤ n → Tre t b m n (k - 1) → (if m = 0 ∨ n = 0 then isNon b else tk t b m n) = true := fun m n hm hn B => by
    by_cases q : m = 0 ∨ n = 0
    · rw [if_pos q, B.low (by omega)]; rfl
    · rw [if_neg q]; exact B.hi (by omega) (by omega)
  cases d with
  | true =>
    have h1 : at_ < W := h1
    have A : Tre t a at_ H (k - 1) := A
    have B : Tre t b (sec t W at_) H (k - 1) := B
    simp only [tk, if_true]
    rw [decide_eq_true h0, decide_eq_true h1, A.hi h0 hH, rest _ _ (sec_nn t W at_) (by omega) B]; rfl
  | false =>
    have h1 : at_ < H := h1
    have A : Tre t a W at_ (k - 1) := A
    have B : Tre t b W (sec t H at_) (k - 1) := B
    simp only [tk, Bool.false_eq_true, if_false]
    rw [decide_eq_true h0, decide_eq_true h1, A.hi hW h0, rest _ _ (by omega) (sec_nn t H at_) B]; rfl
theorem e30 {t : Told} (ok : t.Ok) {ns : List Int} {R : PSt} : ∀ (k n : Nat) (p s r W H : Int), k ≤ n → 0 ≤ p → W ≤ 12 → H ≤ 12 → ∃ x p' s' r', 0 ≤ p' ∧ Tre t x W H k ∧ callF (n + 3) 45 [.r 0 0, .p t.pv, .p (.int W), .p (.int H), .p (.int k)] (rowO ns p s r :: R) = .ok (.p x.pv) (rowO ns p' s' r' :: R) := by
  intro k
  induction k using Nat.strongRecOn with
  | ind k ih =>
    intro n p s r W H hn hp hW hH
    have low := or_tt (tv_ok (e2_ok (a := eVar 2) (b := eC (.int 1)) (ρ := E30 t W H k none none) rfl rfl (lt_ii W 1 (rowO ns p s r :: R)))) (tv_ok (e2_ok (a := eVar 3) (b := eC (.int 1)) (ρ := E30 t W H k none none) rfl rfl (lt_ii H 1 (rowO ns p s r :: R))))
    by_cases z : W < 1 ∨ H < 1
    · have zz : (decide (W < 1) || decide (H < 1)) = true := by simpa using z
      rw [zz] at low
      refine ⟨.non, p, s, r, hp, ⟨fun _ => rfl, fun a b => (by omega), Nat.zero_le _, by show 1 ≤ k + 1; omega, Nat.one_le_two_pow, trivial⟩, ?_⟩
      rw [cf45]
      exact defM_retS rfl (sq_ret (if_t low (sq_ret (re_ok rfl)))) rfl
    · rw [hi_dec (by omega) (by omega)] at low
      have fl := fits_lc ok (W := W) (H := H) (k := k) (f := none) (a := none) (st := rowO ns p s r :: R)
      obtain ⟨b1, p1, s1, r1, hp1, hb1, x1⟩ := t30a (t := t) (n := n + 1) (ns := ns) (p := p) (s := s) (r := r) (R := R) (W := W) (H := H) (k := k) (a := none) (L := fitL t W H) hp
      cases b1 with
      | true =>
        have ne := hb1 rfl
        have fn := fitL_len t W H
        have l1 := ok.l1
        have ln : 0 < ((fitL t W H).map slabV).length := by
          rw [List.length_map]
          exact List.length_pos_iff.mpr ne
        obtain ⟨v, p2, s2, r2, hv, hp2, e⟩ := e15 (n := n) (ns := ns) (p := p1) (s := s1) (r := r1) (l := (fitL t W H).map slabV) hp1 ln (by rw [List.length_map]; omega) R
        obtain ⟨i, hi, rfl⟩ := List.mem_map.mp hv
        have hf := fitL_in hi
        have hr := fits_in hf
        refine ⟨.slab i, p2, s2, r2, hp2, ⟨fun h => (by omega), fun _ _ => hf, Nat.zero_le _, by show 1 ≤ k + 1; omega, Nat.one_le_two_pow, hr.1, by omega⟩, ?_⟩
        rw [cf45]
        exact defM_retS rfl (sq_nx (if_f low rfl) (sq_nx (as_ok fl) (sq_ret (if_t x1 (sq_ret (re_ok (cl_ok (ac_ok rfl (ac_ok rfl rfl)) e))))))) rfl
      | false =>
        obtain ⟨b2, p2, s2, r2, hp2, hb2, x2⟩ := t30b (t := t) (n := n + 1) (ns := ns) (p := p1) (s := s1) (r := r1) (R := R) (W := W) (H := H) (k := k) (f := some (.p (.lst ((fitL t W H).map slabV)))) (a := none) hp1
        cases b2 with
        | true =>
          refine ⟨.waste, p2, s2, r2, hp2, ⟨fun h => (by omega), fun _ _ => rfl, Nat.zero_le _, by show 1 ≤ k + 1; omega, Nat.one_le_two_pow, trivial⟩, ?_⟩
          rw [cf45]
          exact defM_retS rfl (sq_nx (if_f low rfl) (sq_nx (as_ok fl) (sq_nx (if_f x1 rfl) (sq_ret (if_t x2 (sq_ret (re_ok (tp_ok (l := [.str "waste"]) rfl (limN (by simp)))))))))) rfl
        | false =>
          obtain ⟨hk, hwh⟩ := hb2 rfl
          have hk : k ≠ 0 := fun h => hk (by rw [h]; rfl)
          have kc : ((k - 1 : Nat) : Int) = (k : Int) - 1 := by omega
          obtain ⟨m, rfl⟩ : ∃ m, n = m + 1 := ⟨n - 1, by omega⟩
          obtain ⟨b3, p3, s3, r3, hp3, hb3, hb3', x3⟩ := t30c (t := t) (n := m + 2) (ns := ns) (p := p2) (s := s2) (r := r2) (R := R) (W := W) (H := H) (k := k) (f := some (.p (.lst ((fitL t W H).map slabV)))) (a := none) hp2
          cases b3 with
          | true =>
            have w2 : 1 < W := by
              rcases hb3 rfl with h | h
              · omega
              · exact h
            obtain ⟨d, p4, s4, r4, d0, d1, hp4, x4⟩ := draw_ok (n := m + 2) (ns := ns) (p := p3) (s := s3) (r := r3) (q := p3) (s1 := s3) (r1 := r3) (many := W - 1) (m := e2 subM (eVar 2) (eC (.int 1))) (ρ := E30 t W H k (some (.p (.lst ((fitL t W H).map slabV)))) none) (j := 0) R rfl hp3 (by omega) (by omega) rfl
            obtain ⟨a, p5, s5, r5, hp5, A, x5⟩ := ih (k - 1) (by omega) m p4 s4 r4 (1 + d) H (by omega) hp4 (by omega) hH
            obtain ⟨b, p6, s6, r6, hp6, B, x6⟩ := ih (k - 1) (by omega) m p5 s5 r5 (sec t W (1 + d)) H (by omega) hp5 (sec_le ok hW (by omega)) hH
            rw [kc] at x5 x6
            refine ⟨.node true (1 + d) a b, p6, s6, r6, hp6, tre_node hk (by omega) (by omega) (by omega) (by show 1 + d < W; omega) (by omega) A B, ?_⟩
            rw [cf45]
            exact defM_retS rfl (sq_nx (if_f low rfl) (sq_nx (as_ok fl) (sq_nx (if_f x1 rfl) (sq_nx (if_f x2 rfl) (sq_ret (if_t x3 (sq_nx (as_ok (add_lit rfl x4)) (sq_ret (re_ok (tp_ok (l := [.str "across", .int (1 + d), a.pv, b.pv]) (ac_ok rfl (ac_ok rfl (ac_ok (cl_ok (ac_ok rfl (ac_ok rfl (ac_ok rfl (ac_ok rfl (ac_ok (sub_lit rfl rfl) rfl))))) x5) (ac_ok (cl_ok (ac_ok rfl (ac_ok rfl (ac_ok (cl_ok rfl (e26 (n := m + 2) t W (1 + d) (rowO ns p5 s5 r5 :: R))) (ac_ok rfl (ac_ok (sub_lit rfl rfl) rfl))))) x6) rfl)))) lim4)))))))))) rfl
          | false =>
            have h2 := hb3' rfl
            obtain ⟨d, p4, s4, r4, d0, d1, hp4, x4⟩ := draw_ok (n := m + 2) (ns := ns) (p := p3) (s := s3) (r := r3) (q := p3) (s1 := s3) (r1 := r3) (many := H - 1) (m := e2 subM (eVar 3) (eC (.int 1))) (ρ := E30 t W H k (some (.p (.lst ((fitL t W H).map slabV)))) none) (j := 0) R rfl hp3 (by omega) (by omega) rfl
            obtain ⟨a, p5, s5, r5, hp5, A, x5⟩ := ih (k - 1) (by omega) m p4 s4 r4 W (1 + d) (by omega) hp4 hW (by omega)
            obtain ⟨b, p6, s6, r6, hp6, B, x6⟩ := ih (k - 1) (by omega) m p5 s5 r5 W (sec t H (1 + d)) (by omega) hp5 hW (sec_le ok hH (by omega))
            rw [kc] at x5 x6
            refine ⟨.node false (1 + d) a b, p6, s6, r6, hp6, tre_node hk (by omega) (by omega) (by omega) (by show 1 + d < H; omega) (by omega) A B, ?_⟩
            rw [cf45]
            exact defM_retS rfl (sq_nx (if_f low rfl) (sq_nx (as_ok fl) (sq_nx (if_f x1 rfl) (sq_nx (if_f x2 rfl) (sq_nx (if_f x3 rfl) (sq_nx (as_ok (add_lit rfl x4)) (sq_ret (re_ok (tp_ok (l := [.str "down", .int (1 + d), a.pv, b.pv]) (ac_ok rfl (ac_ok rfl (ac_ok (cl_ok (ac_ok rfl (ac_ok rfl (ac_ok rfl (ac_ok rfl (ac_ok (sub_lit rfl rfl) rfl))))) x5) (ac_ok (cl_ok (ac_ok rfl (ac_ok rfl (ac_ok rfl (ac_ok (cl_ok rfl (e26 (n := m + 2) t H (1 + d) (rowO ns p5 s5 r5 :: R))) (ac_ok (sub_lit rfl rfl) rfl))))) x6) rfl)))) lim4))))))))) rfl
end K00
namespace K00
open PySem Vs
/-! keys, by their order -/
abbrev K3 := Int × Int × Int
def lt3 (x y : K3) : Bool := if x.1 = y.1 then (if x.2.1 = y.2.1 then decide (x.2.2 < y.2.2) else decide (x.2.1 < y.2.1)) else decide (x.1 < y.1)
def lt2 (x y : Int × Int) : Bool := if x.1 = y.1 then decide (x.2 < y.2) else decide (x.1 < y.1)
def k3V (x : K3) : PV := .tup [.int x.1, .int x.2.1, .int x.2.2]
def p2V (x : Int × Int) : PV := .tup [.int x.1, .int x.2]
def p2D (x : Int × Int) : PyData := .tuple [.int x.1, .int x.2]
def k3D (x : K3) : PyData := .tuple [.int x.1, .int x.2.1, .int x.2.2]
theorem tok_nil : PyProof.Rows.lexLt PyProof.Rows.itemOrd (PySem.W.keyToksAll []) (PySem.W.keyToksAll []) = false := by decide +kernel
theorem lt_one (a b : Int) (xs ys : List PyData) : PyProof.Rows.lexLt PyProof.Rows.itemOrd (PySem.W.keyToksAll (.int a :: xs)) (PySem.W.keyToksAll (.int b :: ys)) = if a = b then PyProof.Rows.lexLt PyProof.Rows.itemOrd (PySem.W.keyToksAll xs) (PySem.W.keyToksAll ys) else decide (a < b) := by
  have al : PySem.W.alike (.int a) (.int b) = true := rfl
  by_cases h : a = b
  · rw [if_pos h]
    exact PySem.W.dataLt_all_yes al (by subst h; exact SeqAt.eqv_refl _ rfl)
  · rw [if_neg h, PySem.W.dataLt_all_no al (by
      show (a == b) = false
      simpa using h), PySem.W.dataLt_int]
theorem d_lt3 (x y : K3) : PySem.W.dataLt (k3D x) (k3D y) = lt3 x y := by
  unfold k3D
  rw [PySem.W.dataLt_tuple, lt_one, lt_one, lt_one, tok_nil]
  unfold lt3
  by_cases h1 : x.1 = y.1
  · rw [if_pos h1, if_pos h1]
    by_cases h2 : x.2.1 = y.2.1
    · rw [if_pos h2, if_pos h2]
      by_cases h3 : x.2.2 = y.2.2
      · rw [if_pos h3, h3]; simp
      · rw [if_neg h3]
    · rw [if_neg h2, if_neg h2]
  · rw [if_neg h1, if_neg h1]
theorem d_lt2 (x y : Int × Int) : PySem.W.dataLt (p2D x) (p2D y) = lt2 x y := by
  unfold p2D
  rw [PySem.W.dataLt_tuple, lt_one, lt_one, tok_nil]
  unfold lt2
  by_cases h1 : x.1 = y.1
  · rw [if_pos h1, if_pos h1]
    by_cases h3 : x.2 = y.2
    · rw [if_pos h3, h3]; simp
    · rw [if_neg h3]
  · rw [if_neg h1, if_neg h1]
theorem ltM_3 (x y : K3) (st : PSt) : ltM (.p (k3V x)) (.p (k3V y)) st = .ok (.p (.bl (lt3 x y))) st := by
  have e1 : dOf st (.p (k3V x)) = some (k3D x) := rfl
  have e2 : dOf st (.p (k3V y)) = some (k3D y) := rfl
  have u : ltM (.p (k3V x)) (.p (k3V y)) st = Vs.dat2 (fun d e => if PySem.W.alike d e = true ∧ someD d = true then retB (PySem.W.dataLt d e) else PM.stuck) (.p (k3V x)) (.p (k3V y)) st := rfl
  rw [u]
  unfold Vs.dat2
  simp only [e1, e2]
  rw [if_pos ⟨rfl, rfl⟩, if_pos ⟨rfl, rfl⟩, d_lt3]
  rfl
theorem eqM_3 (x y : K3) (st : PSt) : eqM (.p (k3V x)) (.p (k3V y)) st = .ok (.p (.bl (x.1 == y.1 && (x.2.1 == y.2.1 && (x.2.2 == y.2.2 && true))))) st := rfl
/-- the first of the least -/
def min2 (x : Int × Int) (xs : List (Int × Int)) : Int × Int := xs.foldl (fun a y => if lt2 y a then y else a) x
theorem toDs_p2 : ∀ L : List (Int × Int), toDs (L.map p2V) = some (L.map p2D)
  | [] => rfl
  | x :: L => by
    show (match toD (p2V x), toDs (L.map p2V) with | some d, some ds => some (d :: ds) | _, _ => none) = _
    rw [toDs_p2 L]; rfl
theorem alike_p2 (L : List (Int × Int)) : alikeD (L.map p2D) = true := by
  unfold alikeD
  rw [Bool.and_eq_true, List.all_eq_true, List.all_eq_true]
  constructor
  · intro d hd
    obtain ⟨x, _, rfl⟩ := List.mem_map.mp hd
    rw [List.all_eq_true]
    intro e he
    obtain ⟨y, _, rfl⟩ := List.mem_map.mp he
    rfl
  · intro d hd
    obtain ⟨x, _, rfl⟩ := List.mem_map.mp hd
    rfl
theorem deep_p2 : ∀ L : List (Int × Int), PyData.depthAll (L.map p2D) ≤ 1
  | [] => Nat.zero_le _
  | x :: L => by
    show max (PyData.depth (p2D x)) (PyData.depthAll (L.map p2D)) ≤ 1
    have := deep_p2 L
    have e : PyData.depth (p2D x) = 1 := rfl
    omega
theorem minD_p2 : ∀ (xs : List (Int × Int)) (x : Int × Int), PySem.W.minD (p2D x) (xs.map p2D) = p2D (min2 x xs)
  | [], _ => rfl
  | y :: ys, x => by
    have ih := minD_p2 ys (if lt2 y x then y else x)
    show PySem.W.minD (if PySem.W.dataLt (p2D y) (p2D x) then p2D y else p2D x) (ys.map p2D) = p2D (min2 (if lt2 y x then y else x) ys)
    rw [← ih, d_lt2]
    cases lt2 y x <;> rfl
theorem min_ok (x : Int × Int) (xs : List (Int × Int)) (st : PSt) : minM (.p (.lst ((x :: xs).map p2V))) st = .ok (.p (p2V (min2 x xs))) st := by
  show (match toDs ((x :: xs).map p2V) with
    | some (d :: ds) => if alikeD (d :: ds) = true ∧ PyData.depthAll (d :: ds) ≤ 60 then (match ofD (PySem.W.minD d ds) with
      | some v => (pure (.p v) : PM PR)
      | none => PM.stuck) else PM.stuck
    | _ => PM.stuck) st = _
  rw [toDs_p2 (x :: xs)]
  have h1 := alike_p2 (x :: xs)
  have h2 : PyData.depthAll ((x :: xs).map p2D) ≤ 60 := Nat.le_trans (deep_p2 _) (by omega)
  have e : (x :: xs).map p2D = p2D x :: xs.map p2D := rfl
  rw [e] at h1 h2
  rw [e]
  dsimp only
  rw [if_pos ⟨h1, h2⟩, minD_p2]
  rfl
end K00
namespace K00
open PySem Vs
/-! the best trees, in plain terms -/
abbrev En := K3 × T
def entV (e : En) : PV := .tup [k3V e.1, e.2.pv]
def add3 (x y : K3) : K3 := (x.1 + y.1, x.2.1 + y.2.1, x.2.2 + y.2.2 + 1)
def cutE (d : Bool) (k : Int) (p q : En) : En := (add3 p.1 q.1, .node d k p.2 q.2)
def skey (b : Bool) (o : Ord) : K3 := (0 - o.p, if b then 0 - o.w * o.h else 0, 0)
def pickE (f e : En) : En := if lt3 e.1 f.1 then e else f
def e0E : En := ((0, 0, 0), .waste)
def slabC (t : Told) (b : Bool) (W H : Int) : List En := ((List.range t.os.length).filter fun (i : Nat) => fits t i W H).map fun (i : Nat) => ((match t.os[i]? with | some o => skey b o | none => (0, 0, 0)), .slab i)
def acrC (t : Told) (B : Int → Int → En) (W H : Int) : List En := (List.range (W - 1).toNat).map fun (k : Nat) => cutE true (1 + k) (B (1 + k) H) (B (sec t W (1 + k)) H)
def dwnC (t : Told) (B : Int → Int → En) (W H : Int) : List En := (List.range (H - 1).toNat).map fun (k : Nat) => cutE false (1 + k) (B W (1 + k)) (B W (sec t H (1 + k)))
def rck (t : Told) (b : Bool) (B : Int → Int → En) (W H : Int) : En := (slabC t b W H ++ acrC t B W H ++ dwnC t B W H).foldl pickE e0E
def bst (t : Told) (b : Bool) : Nat → Int → Int → En
  | 0, _, _ => ((0, 0, 0), .non)
  | n + 1, W, H => if W = 0 ∨ H = 0 then ((0, 0, 0), .non) else rck t b (bst t b n) W H
def bestE (t : Told) (b : Bool) (W H : Int) : En := bst t b (W + H).toNat W H
theorem sec_lt {t : Told} (ok : t.Ok) {n k : Int} (hk : 1 ≤ k) (hn : k < n) : sec t n k < n := by
  have := ok.k0
  unfold sec
  split <;> omega
theorem rck_cong {t : Told} (ok : t.Ok) {b : Bool} {B B' : Int → Int → En} {W H : Int} (hW : 1 ≤ W) (hH : 1 ≤ H) (h : ∀ w u, 0 ≤ w → 0 ≤ u → w + u < W + H → B w u = B' w u) : rck t b B W H = rck t b B' W H := by
  have a : acrC t B W H = acrC t B' W H := List.map_congr_left fun k hk => by
    have hk := List.mem_range.mp hk
    have := sec_nn t W (1 + k)
    have := sec_lt ok (n := W) (k := 1 + k) (by omega) (by omega)
    rw [h (1 + k) H (by omega) (by omega) (by omega), h (sec t W (1 + k)) H (by omega) (by omega) (by omega)]
  have d : dwnC t B W H = dwnC t B' W H := List.map_congr_left fun k hk => by
    have hk := List.mem_range.mp hk
    have := sec_nn t H (1 + k)
    have := sec_lt ok (n := H) (k := 1 + k) (by omega) (by omega)
    rw [h W (1 + k) (by omega) (by omega) (by omega), h W (sec t H (1 + k)) (by omega) (by omega) (by omega)]
  unfold rck
  rw [a, d]
theorem bst_fuel {t : Told} (ok : t.Ok) (b : Bool) : ∀ (n : Nat) (W H : Int), 0 ≤ W → 0 ≤ H → W + H ≤ n → bst t b n W H = bestE t b W H := by
  intro n
  induction n using Nat.strongRecOn with
  | ind n ih =>
    intro W H hW hH hn
    unfold bestE
    by_cases z : W = 0 ∨ H = 0
    · have e : ∀ m, bst t b m W H = ((0, 0, 0), .non) := fun m => by
        cases m with
        | zero => rfl
        | succ m => simp only [bst, if_pos z]
      rw [e, e]
    · obtain ⟨n, rfl⟩ : ∃ m, n = m + 1 := ⟨n - 1, by omega⟩
      obtain ⟨m, hm⟩ : ∃ m, (W + H).toNat = m + 1 := ⟨(W + H).toNat - 1, by omega⟩
      rw [hm]
      simp only [bst, if_neg z]
      exact rck_cong ok (by omega) (by omega) fun w u h1 h2 h3 => by
        rw [ih n (by omega) w u h1 h2 (by omega), ih m (by omega) w u h1 h2 (by omega)]
theorem best_zero (t : Told) (b : Bool) {W H : Int} (z : W = 0 ∨ H = 0) : bestE t b W H = ((0, 0, 0), .non) := by
  unfold bestE
  cases (W + H).toNat with
  | zero => rfl
  | succ m => simp only [bst, if_pos z]
theorem best_eq {t : Told} (ok : t.Ok) (b : Bool) {W H : Int} (hW : 1 ≤ W) (hH : 1 ≤ H) : bestE t b W H = rck t b (bestE t b) W H := by
  obtain ⟨m, hm⟩ : ∃ m, (W + H).toNat = m + 1 := ⟨(W + H).toNat - 1, by omega⟩
  have e : bestE t b W H = rck t b (bst t b m) W H := by
    show bst t b (W + H).toNat W H = _
    rw [hm]
    simp only [bst, if_neg (show ¬ (W = 0 ∨ H = 0) by omega)]
  rw [e]
  exact rck_cong ok hW hH fun w u h1 h2 h3 => bst_fuel ok b m w u h1 h2 (by omega)
/-! small defs -/
theorem wkR_list (lo : Int) (n : Nat) : ∀ k s, (wkR lo n).at_ k s = (wkL ((List.range n).map fun (i : Nat) => PV.int (lo + i))).at_ k s := by
  intro k s
  rw [wkR_at, wkL_at']
  show (if k < n then _ else _) = if k < ((List.range n).map fun (i : Nat) => PV.int (lo + i)).length then _ else _
  rw [List.length_map, List.length_range]
  by_cases h : k < n
  · rw [if_pos h, if_pos h, List.getD_eq_getElem?_getD]
    simp [h]
  · rw [if_neg h, if_neg h]
theorem lc_rng2 {i j : Int} {cg : CG} {vs : List Nat} {e : EM} {a : Ev → PM (List PR)} {st : PSt} {ρ : Ev} {f : Nat → PV} (ha : a ρ st = .ok [.p (.int i), .p (.int j)] st) (hi : 0 ≤ i ∧ i ≤ 1000) (hj : 0 ≤ j ∧ j ≤ 1000) (ρ1 : PV → Ev) (h1 : ∀ v, cg v (wipeE ρ vs) = some (ρ1 v)) (h3 : ∀ k : Nat, k < (j - i).toNat → e (ρ1 (.int (i + k))) st = .ok (.p (f k)) st) :
    eLc (iRng2M a) cg vs tYesM e ρ st = .ok (.p (.lst ((List.range (j - i).toNat).map f))) st := by
  show ((a ρ st).bind _).bind _ = _
  rw [ha]
  show ((if -(2 ^ 62) ≤ i ∧ i < 2 ^ 62 ∧ -(2 ^ 62) ≤ j ∧ j < 2 ^ 62 then (pure (wkR i (j - i).toNat) : PM Wk) else PM.stuck) st).bind _ = _
  rw [if_pos (by omega)]
  show (lcM (wkR i (j - i).toNat).at_ cg (wipeE ρ vs) tYesM e (j - i).toNat 0 [] st).bind _ = _
  rw [lcM_at (wkR_list i (j - i).toNat)]
  have z := lc_map (l := (List.range (j - i).toNat).map fun (k : Nat) => PV.int (i + k)) (cg := cg) (t := tYesM) (e := e) (st := st) (ρ := wipeE ρ vs) ρ1 (fun _ => true) (fun v => match e (ρ1 v) st with | .ok (.p w) _ => w | _ => .non) (fun v _ => h1 v) (fun v _ => rfl) (fun v hv _ => by
    obtain ⟨k, hk, rfl⟩ := List.mem_map.mp hv
    rw [h3 k (List.mem_range.mp hk)]) (limN (by rw [List.length_map, List.length_range]; omega))
  have hn : (wkL ((List.range (j - i).toNat).map fun (k : Nat) => PV.int (i + k))).n = (j - i).toNat := by show ((List.range (j - i).toNat).map fun (k : Nat) => PV.int (i + k)).length = _; simp
  rw [hn] at z
  rw [z]
  have q : (((List.range (j - i).toNat).map fun (k : Nat) => PV.int (i + k)).filter fun _ => true) = (List.range (j - i).toNat).map fun (k : Nat) => PV.int (i + k) := List.filter_eq_self.mpr fun _ _ => rfl
  rw [q, List.map_map]
  have w : (List.range (j - i).toNat).map ((fun v => match e (ρ1 v) st with | .ok (.p w) _ => w | _ => .non) ∘ fun (k : Nat) => PV.int (i + k)) = (List.range (j - i).toNat).map f := List.map_congr_left fun k hk => by
    show (match e (ρ1 (.int (i + k))) st with | .ok (.p w) _ => w | _ => .non) = f k
    rw [h3 k (List.mem_range.mp hk)]
  rw [w]; rfl
def partV (t : Told) (W : Int) (k : Nat) : PV := .tup [.int (1 + k), .int (1 + k), .int (sec t W (1 + k))]
def partsV (t : Told) (W : Int) : List PV := (List.range (W - 1).toNat).map (partV t W)
theorem e8 {n : Nat} (t : Told) {W : Int} (hW : 0 ≤ W ∧ W ≤ 1000) (st : PSt) : callF (n + 1) 8 [.p t.obj, .p (.int W)] st = .ok (.p (.lst (partsV t W))) st := by
  rw [cf8]
  have z := lc_rng2 (i := 1) (j := W) (cg := cgNm 2) (vs := [2]) (e := eTup (aCons (eVar 2) (aCons (eVar 2) (aCons (eMax2 (aCons (eC (.int 0)) (aCons (e2 subM (e2 subM (eVar 1) (eVar 2)) (e1 (fldM [0] "kerf") (eVar 0))) aNil))) aNil)))) (a := aCons (eC (.int 1)) (aCons (eVar 1) aNil)) (st := st) (ρ := [some (.p t.obj), some (.p (.int W)), none]) (f := partV t W) rfl (by omega) hW (fun v => [some (.p t.obj), some (.p (.int W)), some (.p v)]) (fun _ => rfl)
    (fun k hk => tp_ok (l := [.int (1 + k), .int (1 + k), .int (sec t W (1 + k))]) rfl (limN (by simp)))
  exact defM_ret rfl (sq_ret (re_ok z))
end K00
namespace K00
open PySem Vs
/-! a Worths and what it knows -/
abbrev wobj (t : Told) (b : Bool) (ks : List (List L2.Key)) (vs : List PV) : PObj := .ins 1 ["saw", "by_waste"] [t.obj, .bl b] (some ("known", .t ks vs))
abbrev stW (t : Told) (b : Bool) (base : PSt) (j : Nat) (ks : List (List L2.Key)) (vs : List PV) : PSt := base.set j (wobj t b ks vs)
abbrev kyW (W H : Int) : List L2.Key := [.inl W, .inl H]
theorem lk_no : ∀ {ks : List (List L2.Key)} {vs : List PV} {k : List L2.Key}, k ∉ ks → lkP ks vs k = none
  | [], _, _, _ => rfl
  | j :: ks, [], _, _ => rfl
  | j :: ks, v :: vs, k, h => by
    have e : j ≠ k := fun z => h (by rw [z]; exact List.mem_cons_self)
    simp only [lkP, if_neg e]
    exact lk_no fun z => h (List.mem_cons_of_mem _ z)
theorem lk_in : ∀ {ks : List (List L2.Key)} {vs : List PV} {k : List L2.Key}, ks.length = vs.length → k ∈ ks → ∃ v, lkP ks vs k = some v
  | [], _, _, _, h => by cases h
  | j :: ks, [], _, e, _ => by cases e
  | j :: ks, v :: vs, k, e, h => by
    by_cases z : j = k
    · exact ⟨v, by simp only [lkP, if_pos z]⟩
    · obtain ⟨u, hu⟩ := lk_in (ks := ks) (vs := vs) (k := k) (by simpa using e) ((List.mem_cons.mp h).resolve_left fun y => z y.symm)
      exact ⟨u, by simp only [lkP, if_neg z]; exact hu⟩
theorem lk_app : ∀ {ks : List (List L2.Key)} {vs : List PV} {k j : List L2.Key} {v : PV}, ks.length = vs.length → lkP (ks ++ [j]) (vs ++ [v]) k = (match lkP ks vs k with | some u => some u | none => if j = k then some v else none)
  | [], [], _, _, _, _ => by
    show (if _ then _ else _) = (if _ then _ else _)
    rfl
  | [], _ :: _, _, _, _, e => by cases e
  | _ :: _, [], _, _, _, e => by cases e
  | i :: ks, u :: vs, k, j, v, e => by
    by_cases z : i = k
    · show (if i = k then some u else lkP (ks ++ [j]) (vs ++ [v]) k) = (match (if i = k then some u else lkP ks vs k) with | some u => some u | none => _)
      rw [if_pos z, if_pos z]
    · show (if i = k then some u else lkP (ks ++ [j]) (vs ++ [v]) k) = (match (if i = k then some u else lkP ks vs k) with | some u => some u | none => _)
      rw [if_neg z, if_neg z]
      exact lk_app (by simpa using e)
structure Val (t : Told) (b : Bool) (ks : List (List L2.Key)) (vs : List PV) : Prop where
  len : ks.length = vs.length
  nd : ks.Nodup
  rg : ∀ k ∈ ks, ∃ w h : Int, k = kyW w h ∧ 1 ≤ w ∧ w ≤ 12 ∧ 1 ≤ h ∧ h ≤ 12
  at_ : ∀ (w h : Int) (v : PV), lkP ks vs (kyW w h) = some v → v = entV (bestE t b w h)
def Grow (m : Int) (ks ks' : List (List L2.Key)) : Prop := ∀ k ∈ ks', k ∈ ks ∨ ∃ w h : Int, k = kyW w h ∧ w + h ≤ m
theorem Grow.refl (m : Int) (ks : List (List L2.Key)) : Grow m ks ks := fun _ h => .inl h
theorem Grow.trans {m : Int} {a b c : List (List L2.Key)} (h : Grow m a b) (k : Grow m b c) : Grow m a c := fun x hx => (k x hx).elim (h x) .inr
theorem Grow.mono {m n : Int} {a b : List (List L2.Key)} (h : Grow m a b) (e : m ≤ n) : Grow n a b := fun x hx => (h x hx).elim .inl fun ⟨w, u, e1, e2⟩ => .inr ⟨w, u, e1, by omega⟩
theorem Val.nil (t : Told) (b : Bool) : Val t b [] [] := ⟨rfl, List.nodup_nil, fun _ h => (by cases h), fun _ _ _ h => (by cases h)⟩
theorem small_nat : ∀ (n : Nat) (l : List Nat), l.Nodup → (∀ x ∈ l, x < n) → l.length ≤ n
  | 0, l, _, h => by
    cases l with
    | nil => exact Nat.le_refl _
    | cons x l => exact absurd (h x List.mem_cons_self) (Nat.not_lt_zero _)
  | n + 1, l, nd, h => by
    by_cases m : n ∈ l
    · have e := List.length_erase_of_mem m
      have ih := small_nat n (l.erase n) (nd.erase n) fun x hx => by
        have hx := (nd.mem_erase_iff).mp hx
        have := h x hx.2
        have := hx.1
        omega
      have : 0 < l.length := List.length_pos_of_mem m
      omega
    · have ih := small_nat n l nd fun x hx => by
        have := h x hx
        have : x ≠ n := fun z => m (by rw [← z]; exact hx)
        omega
      omega
def codeK : List L2.Key → Nat
  | [.inl w, .inl h] => ((w - 1) * 12 + (h - 1)).toNat
  | _ => 0
theorem Val.small {t : Told} {b : Bool} {ks : List (List L2.Key)} {vs : List PV} (v : Val t b ks vs) : ks.length ≤ 144 := by
  have nd : (ks.map codeK).Nodup := by
    have go : ∀ l : List (List L2.Key), l.Nodup → (∀ k ∈ l, ∃ w h : Int, k = kyW w h ∧ 1 ≤ w ∧ w ≤ 12 ∧ 1 ≤ h ∧ h ≤ 12) → (l.map codeK).Nodup := by
      intro l
      induction l with
      | nil => intro _ _; exact List.nodup_nil
      | cons k l ih =>
        intro nd rg
        rw [List.nodup_cons] at nd
        rw [List.map_cons, List.nodup_cons]
        refine ⟨fun hm => ?_, ih nd.2 fun x hx => rg x (List.mem_cons_of_mem _ hx)⟩
        obtain ⟨k2, h2, e⟩ := List.mem_map.mp hm
        obtain ⟨w, h, rfl, a1, a2, a3, a4⟩ := rg k List.mem_cons_self
        obtain ⟨w2, h3, rfl, b1, b2, b3, b4⟩ := rg k2 (List.mem_cons_of_mem _ h2)
        have e : ((w2 - 1) * 12 + (h3 - 1)).toNat = ((w - 1) * 12 + (h - 1)).toNat := e
        have : w2 = w ∧ h3 = h := by omega
        rw [this.1, this.2] at h2
        exact nd.1 h2
    exact go ks v.nd v.rg
  have z := small_nat 144 (ks.map codeK) nd fun x hx => by
    obtain ⟨k, hk, rfl⟩ := List.mem_map.mp hx
    obtain ⟨w, h, rfl, a1, a2, a3, a4⟩ := v.rg k hk
    show ((w - 1) * 12 + (h - 1)).toNat < 144
    omega
  rw [List.length_map] at z
  exact z
section
variable {t : Told} {b : Bool} {base : PSt} {j : Nat} {ks : List (List L2.Key)} {vs : List PV}
theorem get_W (hj : j < base.length) : (stW t b base j ks vs)[j]? = some (wobj t b ks vs) := List.getElem?_set_self hj
theorem set_W {ks' : List (List L2.Key)} {vs' : List PV} : (stW t b base j ks vs).set j (wobj t b ks' vs') = stW t b base j ks' vs' := List.set_set ..
theorem len_W : (stW t b base j ks vs).length = base.length := List.length_set ..
theorem f_saw (hj : j < base.length) : fldM [1] "saw" (.r j 0) (stW t b base j ks vs) = .ok (.p t.obj) (stW t b base j ks vs) := by
  show (match (stW t b base j ks vs)[j]? with
    | some (.ins c ns vs kn) => _
    | _ => _) = _
  rw [get_W hj]; rfl
theorem f_byw (hj : j < base.length) : fldM [1] "by_waste" (.r j 0) (stW t b base j ks vs) = .ok (.p (.bl b)) (stW t b base j ks vs) := by
  show (match (stW t b base j ks vs)[j]? with
    | some (.ins c ns vs kn) => _
    | _ => _) = _
  rw [get_W hj]; rfl
theorem f_known (hj : j < base.length) : fldM [1] "known" (.r j 0) (stW t b base j ks vs) = .ok (.r j 1) (stW t b base j ks vs) := by
  show (match (stW t b base j ks vs)[j]? with
    | some (.ins c ns vs kn) => _
    | _ => _) = _
  rw [get_W hj]; rfl
theorem o_best (hj : j < base.length) : objC 1 "best" (.r j 0) (stW t b base j ks vs) = .ok (.r j 0) (stW t b base j ks vs) := by
  show (match (stW t b base j ks vs)[j]? with
    | some (.ins c ns vs kn) => _
    | _ => _) = _
  rw [get_W hj]
  exact if_pos ⟨rfl, rfl, fun q hq => by cases hq; show ("known" : Str) ≠ "best"; decide⟩
theorem o_rck (hj : j < base.length) : objC 1 "reckoned" (.r j 0) (stW t b base j ks vs) = .ok (.r j 0) (stW t b base j ks vs) := by
  show (match (stW t b base j ks vs)[j]? with
    | some (.ins c ns vs kn) => _
    | _ => _) = _
  rw [get_W hj]
  exact if_pos ⟨rfl, rfl, fun q hq => by cases hq; show ("known" : Str) ≠ "reckoned"; decide⟩
theorem o_cut (hj : j < base.length) : objC 1 "cut" (.r j 0) (stW t b base j ks vs) = .ok (.r j 0) (stW t b base j ks vs) := by
  show (match (stW t b base j ks vs)[j]? with
    | some (.ins c ns vs kn) => _
    | _ => _) = _
  rw [get_W hj]
  exact if_pos ⟨rfl, rfl, fun q hq => by cases hq; show ("known" : Str) ≠ "cut"; decide⟩
theorem o_key (hj : j < base.length) : objC 1 "slab_key" (.r j 0) (stW t b base j ks vs) = .ok (.r j 0) (stW t b base j ks vs) := by
  show (match (stW t b base j ks vs)[j]? with
    | some (.ins c ns vs kn) => _
    | _ => _) = _
  rw [get_W hj]
  exact if_pos ⟨rfl, rfl, fun q hq => by cases hq; show ("known" : Str) ≠ "slab_key"; decide⟩
theorem o_parts (st : PSt) : objC 0 "parts" (.p t.obj) st = .ok (.p t.obj) st := rfl
theorem me_ok {c : Nat} {m : Str} {f : FM} {mo : EM} {a : Ev → PM (List PR)} {ρ : Ev} {st s : PSt} {x : PR} {l : List PR} {o : Out PR} (h : mo ρ st = .ok x st) (h2 : objC c m x st = .ok x st) (h3 : a ρ st = .ok l s) (h4 : f (x :: (l ++ [])) s = o) : methM c m f mo a [] ρ st = o := by
  show (mo ρ st).bind _ = _
  rw [h]
  show (objC c m x st).bind _ = _
  rw [h2]
  show (a ρ st).bind _ = _
  rw [h3]
  exact h4
/-- the dict asked and written -/
theorem in_W (hj : j < base.length) {md : EM} {ka : Ev → PM (List PR)} {ρ : Ev} {W H : Int} (hk : ka ρ (stW t b base j ks vs) = .ok [.p (.int W), .p (.int H)] (stW t b base j ks vs)) (hd : md ρ (stW t b base j ks vs) = .ok (.r j 1) (stW t b base j ks vs)) :
    inTM false ka md ρ (stW t b base j ks vs) = .ok (.p (.bl ((lkP ks vs (kyW W H)).isSome == false))) (stW t b base j ks vs) := by
  show (ka ρ _).bind _ = _
  rw [hk]
  rw [ob_ok]
  unfold PM.guard
  rw [if_pos (show [PR.p (.int W), .p (.int H)].length ≤ lim from lim2)]
  show (md ρ _).bind _ = _
  rw [hd]
  show (match keysP [.p (.int W), .p (.int H)], pdAt (stW t b base j ks vs) (.r j 1) with
    | some k, some (.t ks vs) => retB ((lkP ks vs k).isSome == false) _
    | _, _ => _) = _
  have e : pdAt (stW t b base j ks vs) (.r j 1) = some (.t ks vs) := by
    show (match (stW t b base j ks vs)[j]? with | some (.ins _ _ _ (some q)) => some q.2 | _ => none) = _
    rw [get_W hj]
  rw [e]; rfl
theorem ix_W (hj : j < base.length) {md : EM} {ka : Ev → PM (List PR)} {ρ : Ev} {W H : Int} {v : PV} (hk : ka ρ (stW t b base j ks vs) = .ok [.p (.int W), .p (.int H)] (stW t b base j ks vs)) (hd : md ρ (stW t b base j ks vs) = .ok (.r j 1) (stW t b base j ks vs)) (hv : lkP ks vs (kyW W H) = some v) :
    ixTM md ka ρ (stW t b base j ks vs) = .ok (.p v) (stW t b base j ks vs) := by
  show (md ρ _).bind _ = _
  rw [hd]
  show (ka ρ _).bind _ = _
  rw [hk]
  rw [ob_ok]
  unfold PM.guard
  rw [if_pos (show [PR.p (.int W), .p (.int H)].length ≤ lim from lim2)]
  have e : pdAt (stW t b base j ks vs) (.r j 1) = some (.t ks vs) := by
    show (match (stW t b base j ks vs)[j]? with | some (.ins _ _ _ (some q)) => some q.2 | _ => none) = _
    rw [get_W hj]
  show (match keysP [.p (.int W), .p (.int H)], pdAt (stW t b base j ks vs) (.r j 1) with
    | some k, some (.t ks vs) => (match lkP ks vs k with
      | some v => Out.ok (PR.p v) _
      | none => _)
    | _, _ => _) = _
  rw [e]
  show (match lkP ks vs (kyW W H) with
      | some v => Out.ok (PR.p v) _
      | none => _) = _
  rw [hv]
theorem set_in_W (hj : j < base.length) {md mv : EM} {ka : Ev → PM (List PR)} {ρ : Ev} {W H : Int} {v : PV} {st : PSt} (hv : mv ρ st = .ok (.p v) (stW t b base j ks vs)) (hd : md ρ (stW t b base j ks vs) = .ok (.r j 1) (stW t b base j ks vs)) (hk : ka ρ (stW t b base j ks vs) = .ok [.p (.int W), .p (.int H)] (stW t b base j ks vs)) (hn : lkP ks vs (kyW W H) = none) (hl : ks.length ≤ 1000) :
    setTM md ka mv ρ st = .nx ρ (stW t b base j (ks ++ [kyW W H]) (vs ++ [v])) := by
  show (mv ρ st).toS _ = _
  rw [hv]
  show (md ρ _).toS _ = _
  rw [hd]
  show (ka ρ _).toS _ = _
  rw [hk]
  have e : pdAt (stW t b base j ks vs) (.r j 1) = some (.t ks vs) := by
    show (match (stW t b base j ks vs)[j]? with | some (.ins _ _ _ (some q)) => some q.2 | _ => none) = _
    rw [get_W hj]
  show (match PR.p v, keysP [.p (.int W), .p (.int H)], pdAt (stW t b base j ks vs) (.r j 1) with
    | .p v, some k, some (.t ks vs) => if [PR.p (.int W), .p (.int H)].length ≤ lim ∧ ks.length < lim ∧ (lkP ks vs k).isNone = true then OutS.nx ρ (pdPut _ (.t (ks ++ [k]) (vs ++ [v])) (.r j 1)) else .stuck
    | _, _, _ => .stuck) = _
  rw [e]
  show (if [PR.p (.int W), .p (.int H)].length ≤ lim ∧ ks.length < lim ∧ (lkP ks vs (kyW W H)).isNone = true then OutS.nx ρ (pdPut (stW t b base j ks vs) (.t (ks ++ [kyW W H]) (vs ++ [v])) (.r j 1)) else .stuck) = _
  rw [if_pos ⟨lim2, by show ks.length < 16777216; omega, by rw [hn]; rfl⟩]
  have p : pdPut (stW t b base j ks vs) (.t (ks ++ [kyW W H]) (vs ++ [v])) (.r j 1) = stW t b base j (ks ++ [kyW W H]) (vs ++ [v]) := by
    show (match (stW t b base j ks vs)[j]? with
      | some (.ins c ns ws (some q)) => (stW t b base j ks vs).set j (.ins c ns ws (some (q.1, .t (ks ++ [kyW W H]) (vs ++ [v]))))
      | _ => _) = _
    rw [get_W hj]
    exact set_W
  rw [p]
theorem Val.put (v : Val t b ks vs) {W H : Int} (hW : 1 ≤ W ∧ W ≤ 12) (hH : 1 ≤ H ∧ H ≤ 12) (hn : kyW W H ∉ ks) : Val t b (ks ++ [kyW W H]) (vs ++ [entV (bestE t b W H)]) := by
  refine ⟨by rw [List.length_append, List.length_append, v.len]; rfl, ?_, fun k hk => ?_, fun w h u hu => ?_⟩
  · rw [List.nodup_append]
    refine ⟨v.nd, by simp, fun a ha c hc => ?_⟩
    rw [List.mem_singleton.mp hc]
    exact fun z => hn (by rw [← z]; exact ha)
  · rcases List.mem_append.mp hk with hk | hk
    · exact v.rg k hk
    · rw [List.mem_singleton.mp hk]
      exact ⟨W, H, rfl, hW.1, hW.2, hH.1, hH.2⟩
  · rw [lk_app v.len] at hu
    cases e : lkP ks vs (kyW w h) with
    | some x =>
      rw [e] at hu
      cases hu
      exact v.at_ w h _ e
    | none =>
      rw [e] at hu
      dsimp only at hu
      by_cases z : kyW W H = kyW w h
      · rw [if_pos z] at hu
        cases hu
        injection z with z1 z2
        injection z2 with z2 _
        injection z1 with z1
        injection z2 with z2
        rw [z1, z2]
      · rw [if_neg z] at hu; cases hu
end
end K00
namespace K00
open PySem Vs
/-! small methods of Worths -/
section
variable {t : Told} {b : Bool} {base : PSt} {j : Nat} {ks : List (List L2.Key)} {vs : List PV}
theorem e21 {n : Nat} {o : Ord} (ho : Ord.Ok o) (hj : j < base.length) : callF (n + 1) 21 [.r j 0, .p o.pv] (stW t b base j ks vs) = .ok (.p (k3V (skey b o))) (stW t b base j ks vs) := by
  rw [cf21]
  have hb := tt_ok (e1_ok (f := fldM [1] "by_waste") (e := eVar 0) (ρ := [some (.r j 0), some (.p o.pv)]) rfl (f_byw (t := t) (b := b) (ks := ks) (vs := vs) hj))
  have hm : e2 mulM (e2 ixM (eVar 1) (eC (.int 0))) (e2 ixM (eVar 1) (eC (.int 1))) [some (.r j 0), some (.p o.pv)] (stW t b base j ks vs) = .ok (.p (.int (o.w * o.h))) (stW t b base j ks vs) := e2_ok (e2_ok rfl rfl rfl) (e2_ok rfl rfl rfl) (mul_ok ⟨by have := ho.w; omega, by have := ho.w; omega⟩ _)
  have hi : eIf (tTruth (e1 (fldM [1] "by_waste") (eVar 0))) (e2 subM (eC (.int 0)) (e2 mulM (e2 ixM (eVar 1) (eC (.int 0))) (e2 ixM (eVar 1) (eC (.int 1))))) (eC (.int 0)) [some (.r j 0), some (.p o.pv)] (stW t b base j ks vs) = .ok (.p (.int (if b then 0 - o.w * o.h else 0))) (stW t b base j ks vs) := by
    cases b with
    | true => exact ei_t hb (sub_lit rfl hm)
    | false => exact ei_f hb rfl
  exact defM_retS rfl (sq_ret (re_ok (tp_ok (l := [.int (0 - o.p), .int (if b then 0 - o.w * o.h else 0), .int 0]) (ac_ok (sub_lit rfl (e2_ok rfl rfl rfl)) (ac_ok hi (ac_ok rfl rfl))) (limN (by simp))))) rfl
theorem e23 {n : Nat} (d : Bool) (k : Int) (p q : En) (r : PR) (st : PSt) : callF (n + 1) 23 [r, .p (.str (dirS d)), .p (.int k), .p (entV p), .p (entV q)] st = .ok (.p (entV (cutE d k p q))) st := by
  rw [cf23]
  have ix : ∀ (e : En) (i : Int) (v : Int), (i = 0 ∧ v = e.1.1) ∨ (i = 1 ∧ v = e.1.2.1) ∨ (i = 2 ∧ v = e.1.2.2) → ∀ st, ixM (.p (k3V e.1)) (.p (.int i)) st = .ok (.p (.int v)) st := fun e i v h st => by
    rcases h with ⟨rfl, rfl⟩ | ⟨rfl, rfl⟩ | ⟨rfl, rfl⟩ <;> rfl
  refine defM_ret rfl (sq_nx (ρ1 := [some r, some (.p (.str (dirS d))), some (.p (.int k)), some (.p (entV p)), some (.p (entV q)), some (.p (k3V (add3 p.1 q.1)))]) (s1 := st) (as_ok (tp_ok (l := [.int (p.1.1 + q.1.1), .int (p.1.2.1 + q.1.2.1), .int (p.1.2.2 + q.1.2.2 + 1)])
    (ac_ok (add_lit (e2_ok (e2_ok rfl rfl rfl) rfl (ix p 0 _ (.inl ⟨rfl, rfl⟩) st)) (e2_ok (e2_ok rfl rfl rfl) rfl (ix q 0 _ (.inl ⟨rfl, rfl⟩) st)))
      (ac_ok (add_lit (e2_ok (e2_ok rfl rfl rfl) rfl (ix p 1 _ (.inr (.inl ⟨rfl, rfl⟩)) st)) (e2_ok (e2_ok rfl rfl rfl) rfl (ix q 1 _ (.inr (.inl ⟨rfl, rfl⟩)) st)))
        (ac_ok (add_lit (add_lit (e2_ok (e2_ok rfl rfl rfl) rfl (ix p 2 _ (.inr (.inr ⟨rfl, rfl⟩)) st)) (e2_ok (e2_ok rfl rfl rfl) rfl (ix q 2 _ (.inr (.inr ⟨rfl, rfl⟩)) st))) rfl) rfl))) (limN (by simp)))) ?_)
  exact sq_ret (re_ok (tp_ok (l := [k3V (add3 p.1 q.1), (T.node d k p.2 q.2).pv]) (ac_ok rfl (ac_ok (tp_ok (l := [.str (dirS d), .int k, p.2.pv, q.2.pv]) (ac_ok rfl (ac_ok rfl (ac_ok (e2_ok rfl rfl rfl) (ac_ok (e2_ok rfl rfl rfl) rfl)))) lim4) rfl)) lim2))
/-! reckoned -/
abbrev E24 (j : Nat) (W H : Int) (f : En) (x4 x5 x6 x7 x8 x9 : Option PR) : Ev := [some (.r j 0), some (.p (.int W)), some (.p (.int H)), some (.p (entV f)), x4, x5, x6, x7, x8, x9]
def sl1 (t : Told) (b : Bool) (W H : Int) (k : Nat) : En := (((List.range k).filter fun (i : Nat) => fits t i W H).map fun (i : Nat) => (((match t.os[i]? with | some o => skey b o | none => (0, 0, 0)), T.slab i) : En)).foldl pickE e0E
theorem sl1_succ {t : Told} {b : Bool} {W H : Int} {k : Nat} {o : Ord} (e : t.os[k]? = some o) : sl1 t b W H (k + 1) = if fits t k W H = true then pickE (sl1 t b W H k) (skey b o, .slab k) else sl1 t b W H k := by
  unfold sl1
  rw [List.range_succ, List.filter_append, List.map_append, List.foldl_append]
  by_cases h : fits t k W H = true
  · rw [if_pos h, List.filter_cons_of_pos (by simpa using h)]
    simp only [List.filter_nil, List.map_cons, List.map_nil, List.foldl_cons, List.foldl_nil, e]
  · rw [if_neg h, List.filter_cons_of_neg (by simpa using h)]
    rfl
abbrev ordL (n : Nat) : SM := sSeq (sIf (tAndM (tVal (e2 eqM (eSl (eVar 5) pNo (pSome (eC (.int 2)))) (eTup (aCons (eVar 1) (aCons (eVar 2) aNil))))) (tVal (e2 ltM (methM 1 "slab_key" (callF (n + 1) 21) (eVar 0) (aCons (eVar 5) aNil) []) (e2 ixM (eVar 3) (eC (.int 0)))))) (sSeq (sAsg (eTup (aCons (methM 1 "slab_key" (callF (n + 1) 21) (eVar 0) (aCons (eVar 5) aNil) []) (aCons (eTup (aCons (eC (.str "slab")) (aCons (eVar 4) aNil))) aNil))) (gNm 3)) sNil) sNil) sNil
theorem ord_turn {n : Nat} {W H : Int} {k : Nat} {o : Ord} {f : En} {x6 x7 x8 x9 : Option PR} (hj : j < base.length) (ho : Ord.Ok o) (e : t.os[k]? = some o) :
    ordL n (E24 j W H f (some (.p (.int k))) (some (.p o.pv)) x6 x7 x8 x9) (stW t b base j ks vs) = .nx (E24 j W H (if fits t k W H = true then pickE f (skey b o, .slab k) else f) (some (.p (.int k))) (some (.p o.pv)) x6 x7 x8 x9) (stW t b base j ks vs) := by
  have ef : fits t k W H = (o.w == W && o.h == H) := by
    unfold fits
    rw [Int.toNat_natCast, e]
    show (decide ((0 : Int) ≤ k) && _) = _
    rw [decide_eq_true (show (0 : Int) ≤ k by omega), Bool.true_and]
  have t1 : tVal (e2 eqM (eSl (eVar 5) pNo (pSome (eC (.int 2)))) (eTup (aCons (eVar 1) (aCons (eVar 2) aNil)))) (E24 j W H f (some (.p (.int k))) (some (.p o.pv)) x6 x7 x8 x9) (stW t b base j ks vs) = .ok (fits t k W H) (stW t b base j ks vs) := by
    rw [ef]
    exact tv_ok (e2_ok (x := .p (.tup [.int o.w, .int o.h])) (s := stW t b base j ks vs) (cut2 o _) (tp_ok (l := [.int W, .int H]) rfl lim2) (eq_pair ..))
  have mk : methM 1 "slab_key" (callF (n + 1) 21) (eVar 0) (aCons (eVar 5) aNil) [] (E24 j W H f (some (.p (.int k))) (some (.p o.pv)) x6 x7 x8 x9) (stW t b base j ks vs) = .ok (.p (k3V (skey b o))) (stW t b base j ks vs) := me_ok rfl (o_key hj) rfl (e21 ho hj)
  have t2 := tv_ok (e2_ok (b := e2 ixM (eVar 3) (eC (.int 0))) mk (e2_ok rfl rfl rfl) (ltM_3 (skey b o) f.1 (stW t b base j ks vs)))
  cases hf : fits t k W H with
  | false =>
    rw [hf] at t1
    exact sq_nx (if_f (ta_no t1) rfl) rfl
  | true =>
    rw [hf] at t1
    rw [if_pos rfl]
    unfold pickE
    cases hl : lt3 (skey b o) f.1 with
    | false =>
      rw [hl] at t2
      exact sq_nx (if_f (ta_ok t1 t2) rfl) rfl
    | true =>
      rw [hl] at t2
      exact sq_nx (if_t (ta_ok t1 t2) (sq_nx (as_ok (tp_ok (l := [k3V (skey b o), slabV k]) (ac_ok mk (ac_ok (tp_ok (l := [.str "slab", .int k]) rfl lim2) rfl)) lim2)) rfl)) rfl
theorem ord_loop {n : Nat} {W H : Int} (ok : t.Ok) (hj : j < base.length) {x6 x7 x8 x9 : Option PR} : ∃ x4 x5, sFor (iEnM (aCons (e1 (fldM [0] "orders") (e1 (fldM [1] "saw") (eVar 0))) aNil)) (gTp 2 (gsCons (gNm 4) (gsCons (gNm 5) gsNil))) (ordL n) (E24 j W H e0E none none x6 x7 x8 x9) (stW t b base j ks vs) = .nx (E24 j W H ((slabC t b W H).foldl pickE e0E) x4 x5 x6 x7 x8 x9) (stW t b base j ks vs) := by
  have hi : iEnM (aCons (e1 (fldM [0] "orders") (e1 (fldM [1] "saw") (eVar 0))) aNil) (E24 j W H e0E none none x6 x7 x8 x9) (stW t b base j ks vs) = .ok (wkL (enV 0 (t.os.map Ord.pv))) (stW t b base j ks vs) := by
    show ((aCons (e1 (fldM [0] "orders") (e1 (fldM [1] "saw") (eVar 0))) aNil _ _).bind _) = _
    rw [ac_ok (e1_ok (e1_ok rfl (f_saw hj)) (f_orders t _)) rfl]
    rfl
  obtain ⟨ρ', ⟨x4, x5, rfl⟩, lp⟩ := for_all (g := gTp 2 (gsCons (gNm 4) (gsCons (gNm 5) gsNil))) (body := ordL n) hi (fun k ρ => ∃ x4 x5, ρ = E24 j W H (sl1 t b W H k) x4 x5 x6 x7 x8 x9) ⟨none, none, rfl⟩ (by
    rintro k ρ hk ⟨x4, x5, rfl⟩
    have hk : k < (enV 0 (t.os.map Ord.pv)).length := hk
    rw [en_len, List.length_map] at hk
    have e0 : t.os[k]? = some t.os[k] := List.getElem?_eq_getElem hk
    have e : (t.os.map Ord.pv)[k]? = some (t.os[k].pv) := by rw [List.getElem?_map, e0]; rfl
    have hm : t.os[k] ∈ t.os := List.getElem_mem hk
    refine ⟨.tup [.int k, t.os[k].pv], E24 j W H (sl1 t b W H k) (some (.p (.int k))) (some (.p t.os[k].pv)) x6 x7 x8 x9, _, by rw [en_at, e], rfl, ord_turn hj ⟨ok.w _ hm, ok.h _ hm, ok.p _ hm⟩ e0, _, _, by rw [sl1_succ e0]⟩) (by
    show (wkL (enV 0 (t.os.map Ord.pv))).at_ (enV 0 (t.os.map Ord.pv)).length _ = _
    rw [en_at, en_len, List.getElem?_eq_none (Nat.le_refl _)])
  refine ⟨x4, x5, ?_⟩
  have hn : (wkL (enV 0 (t.os.map Ord.pv))).n = t.os.length := by
    show (enV 0 (t.os.map Ord.pv)).length = _
    rw [en_len, List.length_map]
  rw [hn] at lp
  exact lp
end
end K00
namespace K00
open PySem Vs
section
variable {t : Told} {b : Bool} {base : PSt} {j : Nat}
def BestP (t : Told) (b : Bool) (base : PSt) (j m : Nat) (N : Int) : Prop := ∀ (W H : Int) (ks : List (List L2.Key)) (vs : List PV), (0 ≤ W ∧ W ≤ 12) → (0 ≤ H ∧ H ≤ 12) → W + H ≤ N → Val t b ks vs →
  ∃ ks' vs', Val t b ks' vs' ∧ Grow (W + H) ks ks' ∧ callF m 22 [.r j 0, .p (.int W), .p (.int H)] (stW t b base j ks vs) = .ok (.p (entV (bestE t b W H))) (stW t b base j ks' vs')
abbrev pickL : SM := sSeq (sIf (tVal (e2 ltM (e2 ixM (eVar 9) (eC (.int 0))) (e2 ixM (eVar 3) (eC (.int 0))))) (sSeq (sAsg (eVar 9) (gNm 3)) sNil) sNil) sNil
theorem pick_turn {W H : Int} {f e : En} {x4 x5 x6 x7 x8 : Option PR} {st : PSt} : pickL (E24 j W H f x4 x5 x6 x7 x8 (some (.p (entV e)))) st = .nx (E24 j W H (pickE f e) x4 x5 x6 x7 x8 (some (.p (entV e)))) st := by
  have t2 : tVal (e2 ltM (e2 ixM (eVar 9) (eC (.int 0))) (e2 ixM (eVar 3) (eC (.int 0)))) (E24 j W H f x4 x5 x6 x7 x8 (some (.p (entV e)))) st = .ok (lt3 e.1 f.1) st := tv_ok (e2_ok (e2_ok rfl rfl rfl) (e2_ok rfl rfl rfl) (ltM_3 e.1 f.1 st))
  unfold pickE
  cases hl : lt3 e.1 f.1 with
  | false =>
    rw [hl] at t2
    exact sq_nx (if_f t2 rfl) rfl
  | true =>
    rw [hl] at t2
    exact sq_nx (if_t t2 (sq_nx (as_ok rfl) rfl)) rfl
abbrev acrL (n : Nat) : SM := sSeq (sAsg (methM 1 "cut" (callF (n + 1) 23) (eVar 0) (aCons (eC (.str "across")) (aCons (eVar 6) (aCons (methM 1 "best" (callF (n + 1) 22) (eVar 0) (aCons (eVar 7) (aCons (eVar 2) aNil)) []) (aCons (methM 1 "best" (callF (n + 1) 22) (eVar 0) (aCons (eVar 8) (aCons (eVar 2) aNil)) []) aNil)))) []) (gNm 9)) pickL
abbrev dwnL (n : Nat) : SM := sSeq (sAsg (methM 1 "cut" (callF (n + 1) 23) (eVar 0) (aCons (eC (.str "down")) (aCons (eVar 6) (aCons (methM 1 "best" (callF (n + 1) 22) (eVar 0) (aCons (eVar 1) (aCons (eVar 7) aNil)) []) (aCons (methM 1 "best" (callF (n + 1) 22) (eVar 0) (aCons (eVar 1) (aCons (eVar 8) aNil)) []) aNil)))) []) (gNm 9)) pickL
theorem acr_turn {n k : Nat} {W H : Int} {f : En} {x4 x5 x9 : Option PR} {ks : List (List L2.Key)} {vs : List PV} (ok : t.Ok) (hj : j < base.length) (hW : 1 ≤ W ∧ W ≤ 12) (hH : 1 ≤ H ∧ H ≤ 12) (hk : k < (W - 1).toNat) (P : BestP t b base j (n + 1) (W + H - 1)) (v : Val t b ks vs) :
    ∃ ks' vs', Val t b ks' vs' ∧ Grow (W + H - 1) ks ks' ∧ ∃ x9', acrL n (E24 j W H f x4 x5 (some (.p (.int (1 + k)))) (some (.p (.int (1 + k)))) (some (.p (.int (sec t W (1 + k))))) x9) (stW t b base j ks vs) = .nx (E24 j W H (pickE f (cutE true (1 + k) (bestE t b (1 + k) H) (bestE t b (sec t W (1 + k)) H))) x4 x5 (some (.p (.int (1 + k)))) (some (.p (.int (1 + k)))) (some (.p (.int (sec t W (1 + k))))) x9') (stW t b base j ks' vs') := by
  have s0 := sec_nn t W (1 + k)
  have s1 := sec_lt ok (n := W) (k := 1 + k) (by omega) (by omega)
  obtain ⟨ks1, vs1, v1, g1, c1⟩ := P (1 + k) H ks vs (by omega) (by omega) (by omega) v
  obtain ⟨ks2, vs2, v2, g2, c2⟩ := P (sec t W (1 + k)) H ks1 vs1 (by omega) (by omega) (by omega) v1
  refine ⟨ks2, vs2, v2, (g1.mono (by omega)).trans (g2.mono (by omega)), some (.p (entV (cutE true (1 + k) (bestE t b (1 + k) H) (bestE t b (sec t W (1 + k)) H)))), ?_⟩
  have a1 : methM 1 "best" (callF (n + 1) 22) (eVar 0) (aCons (eVar 7) (aCons (eVar 2) aNil)) [] (E24 j W H f x4 x5 (some (.p (.int (1 + k)))) (some (.p (.int (1 + k)))) (some (.p (.int (sec t W (1 + k))))) x9) (stW t b base j ks vs) = .ok (.p (entV (bestE t b (1 + k) H))) (stW t b base j ks1 vs1) := me_ok rfl (o_best hj) rfl c1
  have a2 : methM 1 "best" (callF (n + 1) 22) (eVar 0) (aCons (eVar 8) (aCons (eVar 2) aNil)) [] (E24 j W H f x4 x5 (some (.p (.int (1 + k)))) (some (.p (.int (1 + k)))) (some (.p (.int (sec t W (1 + k))))) x9) (stW t b base j ks1 vs1) = .ok (.p (entV (bestE t b (sec t W (1 + k)) H))) (stW t b base j ks2 vs2) := me_ok rfl (o_best hj) rfl c2
  exact sq_nx (ρ1 := E24 j W H f x4 x5 (some (.p (.int (1 + k)))) (some (.p (.int (1 + k)))) (some (.p (.int (sec t W (1 + k))))) (some (.p (entV (cutE true (1 + k) (bestE t b (1 + k) H) (bestE t b (sec t W (1 + k)) H)))))) (as_ok (me_ok rfl (o_cut hj) (ac_ok rfl (ac_ok rfl (ac_ok a1 (ac_ok a2 rfl)))) (e23 true (1 + k) _ _ _ _))) pick_turn
theorem dwn_turn {n k : Nat} {W H : Int} {f : En} {x4 x5 x9 : Option PR} {ks : List (List L2.Key)} {vs : List PV} (ok : t.Ok) (hj : j < base.length) (hW : 1 ≤ W ∧ W ≤ 12) (hH : 1 ≤ H ∧ H ≤ 12) (hk : k < (H - 1).toNat) (P : BestP t b base j (n + 1) (W + H - 1)) (v : Val t b ks vs) :
    ∃ ks' vs', Val t b ks' vs' ∧ Grow (W + H - 1) ks ks' ∧ ∃ x9', dwnL n (E24 j W H f x4 x5 (some (.p (.int (1 + k)))) (some (.p (.int (1 + k)))) (some (.p (.int (sec t H (1 + k))))) x9) (stW t b base j ks vs) = .nx (E24 j W H (pickE f (cutE false (1 + k) (bestE t b W (1 + k)) (bestE t b W (sec t H (1 + k))))) x4 x5 (some (.p (.int (1 + k)))) (some (.p (.int (1 + k)))) (some (.p (.int (sec t H (1 + k))))) x9') (stW t b base j ks' vs') := by
  have s0 := sec_nn t H (1 + k)
  have s1 := sec_lt ok (n := H) (k := 1 + k) (by omega) (by omega)
  obtain ⟨ks1, vs1, v1, g1, c1⟩ := P W (1 + k) ks vs (by omega) (by omega) (by omega) v
  obtain ⟨ks2, vs2, v2, g2, c2⟩ := P W (sec t H (1 + k)) ks1 vs1 (by omega) (by omega) (by omega) v1
  refine ⟨ks2, vs2, v2, (g1.mono (by omega)).trans (g2.mono (by omega)), some (.p (entV (cutE false (1 + k) (bestE t b W (1 + k)) (bestE t b W (sec t H (1 + k)))))), ?_⟩
  have a1 : methM 1 "best" (callF (n + 1) 22) (eVar 0) (aCons (eVar 1) (aCons (eVar 7) aNil)) [] (E24 j W H f x4 x5 (some (.p (.int (1 + k)))) (some (.p (.int (1 + k)))) (some (.p (.int (sec t H (1 + k))))) x9) (stW t b base j ks vs) = .ok (.p (entV (bestE t b W (1 + k)))) (stW t b base j ks1 vs1) := me_ok rfl (o_best hj) rfl c1
  have a2 : methM 1 "best" (callF (n + 1) 22) (eVar 0) (aCons (eVar 1) (aCons (eVar 8) aNil)) [] (E24 j W H f x4 x5 (some (.p (.int (1 + k)))) (some (.p (.int (1 + k)))) (some (.p (.int (sec t H (1 + k))))) x9) (stW t b base j ks1 vs1) = .ok (.p (entV (bestE t b W (sec t H (1 + k))))) (stW t b base j ks2 vs2) := me_ok rfl (o_best hj) rfl c2
  exact sq_nx (ρ1 := E24 j W H f x4 x5 (some (.p (.int (1 + k)))) (some (.p (.int (1 + k)))) (some (.p (.int (sec t H (1 + k))))) (some (.p (entV (cutE false (1 + k) (bestE t b W (1 + k)) (bestE t b W (sec t H (1 + k)))))))) (as_ok (me_ok rfl (o_cut hj) (ac_ok rfl (ac_ok rfl (ac_ok a1 (ac_ok a2 rfl)))) (e23 false (1 + k) _ _ _ _))) pick_turn
theorem parts_it {n : Nat} {W : Int} {mo mw : EM} {ρ : Ev} {st : PSt} (hW : 1 ≤ W ∧ W ≤ 12) (h : mo ρ st = .ok (.p t.obj) st) (h2 : mw ρ st = .ok (.p (.int W)) st) : iLstM (methM 0 "parts" (callF (n + 1) 8) mo (aCons mw aNil) []) ρ st = .ok (wkL (partsV t W)) st := by
  show ((methM 0 "parts" (callF (n + 1) 8) mo (aCons mw aNil) [] ρ st).bind _) = _
  rw [me_ok h (o_parts st) (ac_ok h2 rfl) (e8 t ⟨by omega, by omega⟩ st)]
  rfl
theorem parts_len {W : Int} : (partsV t W).length = (W - 1).toNat := by
  show ((List.range (W - 1).toNat).map (partV t W)).length = _
  rw [List.length_map, List.length_range]
theorem parts_at {W : Int} {k : Nat} (hk : k < (W - 1).toNat) : (partsV t W).getD k .non = partV t W k := by
  rw [List.getD_eq_getElem?_getD]
  show (((List.range (W - 1).toNat).map (partV t W))[k]?).getD .non = _
  rw [List.getElem?_map, List.getElem?_range hk]; rfl
theorem fold_succ (F : Nat → En) (f : En) (k : Nat) : ((List.range (k + 1)).map F).foldl pickE f = pickE (((List.range k).map F).foldl pickE f) (F k) := by
  rw [List.range_succ, List.map_append, List.foldl_append]; rfl
theorem rck_ok {n : Nat} {W H : Int} {ks : List (List L2.Key)} {vs : List PV} (ok : t.Ok) (hj : j < base.length) (hW : 1 ≤ W ∧ W ≤ 12) (hH : 1 ≤ H ∧ H ≤ 12) (P : BestP t b base j (n + 1) (W + H - 1)) (v : Val t b ks vs) :
    ∃ ks' vs', Val t b ks' vs' ∧ Grow (W + H - 1) ks ks' ∧ callF (n + 2) 24 [.r j 0, .p (.int W), .p (.int H)] (stW t b base j ks vs) = .ok (.p (entV (bestE t b W H))) (stW t b base j ks' vs') := by
  have key : Ret (callF (n + 2) 24 [.r j 0, .p (.int W), .p (.int H)] (stW t b base j ks vs)) (fun q st => ∃ ks' vs', Val t b ks' vs' ∧ Grow (W + H - 1) ks ks' ∧ q = .p (entV (bestE t b W H)) ∧ st = stW t b base j ks' vs') := by
    rw [cf24]
    refine defM_RetS rfl ?_
    have a0 : sAsg (eTup (aCons (eTup (aCons (eC (.int 0)) (aCons (eC (.int 0)) (aCons (eC (.int 0)) aNil)))) (aCons (eC (.tup [.str "waste"])) aNil))) (gNm 3) ([PR.r j 0, .p (.int W), .p (.int H)].map some ++ List.replicate (10 - [PR.r j 0, .p (.int W), .p (.int H)].length) none) (stW t b base j ks vs) = .nx (E24 j W H e0E none none none none none none) (stW t b base j ks vs) :=
      as_ok (tp_ok (l := [k3V (0, 0, 0), T.waste.pv]) (ac_ok (tp_ok (l := [.int 0, .int 0, .int 0]) rfl (limN (by simp))) (ac_ok rfl rfl)) lim2)
    rw [sq_eq a0]
    obtain ⟨x4, x5, l1⟩ := ord_loop (t := t) (b := b) (base := base) (j := j) (ks := ks) (vs := vs) (n := n) (W := W) (H := H) ok hj (x6 := none) (x7 := none) (x8 := none) (x9 := none)
    refine rs_nx l1 ?_
    refine rs_seq (rs_for (w := wkL (partsV t W)) (parts_it hW (e1_ok rfl (f_saw hj)) rfl) (fun k => (partsV t W).getD k .non) (wkL_at' _) (fun k ρ st => ∃ ks' vs' x6 x7 x8 x9, Val t b ks' vs' ∧ Grow (W + H - 1) ks ks' ∧ ρ = E24 j W H (((List.range k).map fun (k : Nat) => cutE true (1 + k) (bestE t b (1 + k) H) (bestE t b (sec t W (1 + k)) H)).foldl pickE ((slabC t b W H).foldl pickE e0E)) x4 x5 x6 x7 x8 x9 ∧ st = stW t b base j ks' vs') ⟨ks, vs, none, none, none, none, v, Grow.refl _ _, rfl, rfl⟩ ?_ ?_)
    · rintro k ρ st hk ⟨ks1, vs1, x6, x7, x8, x9, v1, g1, rfl, rfl⟩
      have hk : k < (partsV t W).length := hk
      rw [parts_len] at hk
      rw [parts_at hk]
      refine ⟨E24 j W H (((List.range k).map fun (k : Nat) => cutE true (1 + k) (bestE t b (1 + k) H) (bestE t b (sec t W (1 + k)) H)).foldl pickE ((slabC t b W H).foldl pickE e0E)) x4 x5 (some (.p (.int (1 + k)))) (some (.p (.int (1 + k)))) (some (.p (.int (sec t W (1 + k))))) x9, _, rfl, ?_⟩
      obtain ⟨ks2, vs2, v2, g2, x9', e⟩ := acr_turn (n := n) (f := ((List.range k).map fun (k : Nat) => cutE true (1 + k) (bestE t b (1 + k) H) (bestE t b (sec t W (1 + k)) H)).foldl pickE ((slabC t b W H).foldl pickE e0E)) (x4 := x4) (x5 := x5) (x9 := x9) ok hj hW hH hk P v1
      show RetS (acrL n _ _) _ _
      rw [e]
      exact ⟨ks2, vs2, _, _, _, _, v2, g1.trans g2, by rw [fold_succ], rfl⟩
    · rintro ρ st ⟨ks1, vs1, x6, x7, x8, x9, v1, g1, rfl, rfl⟩
      have hn : (wkL (partsV t W)).n = (W - 1).toNat := parts_len
      rw [hn]
      refine rs_seq (rs_for (w := wkL (partsV t H)) (parts_it hH (e1_ok rfl (f_saw hj)) rfl) (fun k => (partsV t H).getD k .non) (wkL_at' _) (fun k ρ st => ∃ ks' vs' x6 x7 x8 x9, Val t b ks' vs' ∧ Grow (W + H - 1) ks ks' ∧ ρ = E24 j W H (((List.range k).map fun (k : Nat) => cutE false (1 + k) (bestE t b W (1 + k)) (bestE t b W (sec t H (1 + k)))).foldl pickE ((acrC t (bestE t b) W H).foldl pickE ((slabC t b W H).foldl pickE e0E))) x4 x5 x6 x7 x8 x9 ∧ st = stW t b base j ks' vs') ⟨ks1, vs1, x6, x7, x8, x9, v1, g1, rfl, rfl⟩ ?_ ?_)
      · rintro k ρ st hk ⟨ks1, vs1, x6, x7, x8, x9, v1, g1, rfl, rfl⟩
        have hk : k < (partsV t H).length := hk
        rw [parts_len] at hk
        rw [parts_at hk]
        refine ⟨E24 j W H (((List.range k).map fun (k : Nat) => cutE false (1 + k) (bestE t b W (1 + k)) (bestE t b W (sec t H (1 + k)))).foldl pickE ((acrC t (bestE t b) W H).foldl pickE ((slabC t b W H).foldl pickE e0E))) x4 x5 (some (.p (.int (1 + k)))) (some (.p (.int (1 + k)))) (some (.p (.int (sec t H (1 + k))))) x9, _, rfl, ?_⟩
        obtain ⟨ks2, vs2, v2, g2, x9', e⟩ := dwn_turn (n := n) (f := ((List.range k).map fun (k : Nat) => cutE false (1 + k) (bestE t b W (1 + k)) (bestE t b W (sec t H (1 + k)))).foldl pickE ((acrC t (bestE t b) W H).foldl pickE ((slabC t b W H).foldl pickE e0E))) (x4 := x4) (x5 := x5) (x9 := x9) ok hj hW hH hk P v1
        show RetS (dwnL n _ _) _ _
        rw [e]
        exact ⟨ks2, vs2, _, _, _, _, v2, g1.trans g2, by rw [fold_succ], rfl⟩
      · rintro ρ st ⟨ks1, vs1, x6, x7, x8, x9, v1, g1, rfl, rfl⟩
        have hn : (wkL (partsV t H)).n = (H - 1).toNat := parts_len
        rw [hn]
        have fe : ((List.range (H - 1).toNat).map fun (k : Nat) => cutE false (1 + k) (bestE t b W (1 + k)) (bestE t b W (sec t H (1 + k)))).foldl pickE ((acrC t (bestE t b) W H).foldl pickE ((slabC t b W H).foldl pickE e0E)) = bestE t b W H := by
          rw [best_eq ok b hW.1 hH.1]
          unfold rck
          rw [List.foldl_append, List.foldl_append]
          rfl
        rw [fe]
        refine ⟨_, rfl, ks1, vs1, v1, g1, rfl, ?_⟩
        rw [len_W]
        exact List.take_of_length_le (by rw [len_W]; exact Nat.le_refl _)
  obtain ⟨q, st, e, ks', vs', v', g', rfl, rfl⟩ := key.eq
  exact ⟨ks', vs', v', g', e⟩
end
end K00
namespace K00
open PySem Vs
section
variable {t : Told} {b : Bool} {base : PSt} {j : Nat}
theorem defM_retT {np nl : Nat} {body : SM} {rs : List PR} {v : PV} {st s s' : PSt} (hl : rs.length = np) (h : body (rs.map some ++ List.replicate (nl - rs.length) none) st = .ret (.p v) s) (hn : s.take st.length = s') : defM np nl body rs st = .ok (.p v) s' := by
  unfold defM
  rw [if_pos hl, h]
  show Out.ok (PR.p v) (s.take st.length) = _
  rw [hn]
theorem ky_in {W H : Int} {ks : List (List L2.Key)} {m : Int} {ks0 : List (List L2.Key)} (g : Grow m ks0 ks) (h : kyW W H ∉ ks0) (e : m < W + H) : kyW W H ∉ ks := fun z => by
  rcases g _ z with z | ⟨w, u, z, l⟩
  · exact h z
  · injection z with z1 z2
    injection z2 with z2 _
    injection z1 with z1
    injection z2 with z2
    omega
theorem best_ok (ok : t.Ok) (hj : j < base.length) : ∀ n m : Nat, 2 * n + 3 ≤ m → BestP t b base j m n := by
  intro n
  induction n with
  | zero =>
    intro m hm W H ks vs hW hH hn v
    obtain ⟨m, rfl⟩ : ∃ m', m = m' + 1 := ⟨m - 1, by omega⟩
    have z : W = 0 := by omega
    subst z
    refine ⟨ks, vs, v, Grow.refl _ _, ?_⟩
    rw [cf22, best_zero t b (.inl rfl)]
    exact defM_retS rfl (sq_ret (if_t (or_t (tv_ok (e2_ok rfl rfl (eq_int 0 0 _)))) (sq_ret (re_ok (tp_ok (l := [k3V (0, 0, 0), .non]) (ac_ok (tp_ok (l := [.int 0, .int 0, .int 0]) rfl (limN (by simp))) rfl) lim2))))) rfl
  | succ n ih =>
    intro m hm W H ks vs hW hH hn v
    obtain ⟨m, rfl⟩ : ∃ m', m = m' + 3 := ⟨m - 3, by omega⟩
    have t1 : tVal (e2 eqM (eVar 1) (eC (.int 0))) [some (.r j 0), some (.p (.int W)), some (.p (.int H))] (stW t b base j ks vs) = .ok (W == 0) (stW t b base j ks vs) := tv_ok (e2_ok rfl rfl (eq_int ..))
    have t2 : tVal (e2 eqM (eVar 2) (eC (.int 0))) [some (.r j 0), some (.p (.int W)), some (.p (.int H))] (stW t b base j ks vs) = .ok (H == 0) (stW t b base j ks vs) := tv_ok (e2_ok rfl rfl (eq_int ..))
    have t3 := or_tt t1 t2
    by_cases z : W = 0 ∨ H = 0
    · have q : (W == 0 || H == 0) = true := by simpa using z
      rw [q] at t3
      refine ⟨ks, vs, v, Grow.refl _ _, ?_⟩
      rw [cf22, best_zero t b z]
      exact defM_retS rfl (sq_ret (if_t t3 (sq_ret (re_ok (tp_ok (l := [k3V (0, 0, 0), .non]) (ac_ok (tp_ok (l := [.int 0, .int 0, .int 0]) rfl (limN (by simp))) rfl) lim2))))) rfl
    · have q : (W == 0 || H == 0) = false := by
        rw [Bool.or_eq_false_iff]
        constructor
        · simp; omega
        · simp; omega
      rw [q] at t3
      have P : BestP t b base j (m + 1) (W + H - 1) := fun w u ks vs h1 h2 h3 h4 => ih (m + 1) (by omega) w u ks vs h1 h2 (by omega) h4
      by_cases hm : kyW W H ∈ ks
      · obtain ⟨u, hu⟩ := lk_in v.len hm
        have e := v.at_ W H u hu
        subst e
        have i := tv_ok (in_W (t := t) (b := b) (ks := ks) (vs := vs) hj (md := e1 (fldM [1] "known") (eVar 0)) (ka := aCons (eVar 1) (aCons (eVar 2) aNil)) (ρ := [some (.r j 0), some (.p (.int W)), some (.p (.int H))]) (W := W) (H := H) rfl (e1_ok rfl (f_known hj)))
        rw [hu] at i
        refine ⟨ks, vs, v, Grow.refl _ _, ?_⟩
        rw [cf22]
        exact defM_retS rfl (sq_nx (if_f t3 rfl) (sq_nx (if_f i rfl) (sq_ret (re_ok (ix_W hj rfl (e1_ok rfl (f_known hj)) hu))))) rfl
      · have i := tv_ok (in_W (t := t) (b := b) (ks := ks) (vs := vs) hj (md := e1 (fldM [1] "known") (eVar 0)) (ka := aCons (eVar 1) (aCons (eVar 2) aNil)) (ρ := [some (.r j 0), some (.p (.int W)), some (.p (.int H))]) (W := W) (H := H) rfl (e1_ok rfl (f_known hj)))
        rw [lk_no hm] at i
        obtain ⟨ks1, vs1, v1, g1, c1⟩ := rck_ok (n := m) ok hj (W := W) (H := H) (by omega) (by omega) P v
        have nk := ky_in (W := W) (H := H) g1 hm (by omega)
        have v2 := v1.put (W := W) (H := H) (by omega) (by omega) nk
        have hl : lkP (ks1 ++ [kyW W H]) (vs1 ++ [entV (bestE t b W H)]) (kyW W H) = some (entV (bestE t b W H)) := by
          rw [lk_app v1.len, lk_no nk]
          exact if_pos rfl
        refine ⟨_, _, v2, fun k hk => ?_, ?_⟩
        · rcases List.mem_append.mp hk with hk | hk
          · exact (g1.mono (by omega)) k hk
          · rw [List.mem_singleton.mp hk]
            exact .inr ⟨W, H, rfl, Int.le_refl _⟩
        · rw [cf22]
          have sm1 := v1.small
          exact defM_retS rfl (sq_nx (if_f t3 rfl) (sq_nx (if_t i (sq_nx (set_in_W hj (me_ok rfl (o_rck hj) rfl c1) (e1_ok rfl (f_known hj)) rfl (lk_no nk) (by omega)) rfl)) (sq_ret (re_ok (ix_W hj rfl (e1_ok rfl (f_known hj)) hl))))) (by rw [len_W, len_W])
/-! a Worths made -/
theorem set_aw (st : PSt) (ns : List Str) (vs : List PV) (nm : Str) (v : PV) (hl : ns.length < 900) : setFldM [1] nm (.p v) (.r st.length 0) (st ++ [.ins 1 ns vs none]) = .ok () (st ++ [.ins 1 (putN nm v ns vs).1 (putN nm v ns vs).2 none]) := by
  have e : (st ++ [PObj.ins 1 ns vs none])[st.length]? = some (.ins 1 ns vs none) := by simp
  simp only [setFldM, e]
  rw [if_pos ⟨by simp, hl⟩]
  have e2 : (st ++ [PObj.ins 1 ns vs none]).set st.length (.ins 1 (putN nm v ns vs).1 (putN nm v ns vs).2 none) = st ++ [.ins 1 (putN nm v ns vs).1 (putN nm v ns vs).2 none] := by
    rw [List.set_append_right _ _ (Nat.le_refl _)]; simp
  rw [e2]
theorem sf1_ok {nm : Str} {o v : EM} {ρ : Ev} {st s : PSt} {x y : PR} (h : v ρ st = .ok y st) (h2 : o ρ st = .ok x st) (h3 : setFldM [1] nm y x st = .ok () s) : sFldM [1] nm o v ρ st = .nx ρ s := by
  show (v ρ st).toS _ = _
  rw [h]
  show (o ρ st).toS _ = _
  rw [h2]
  show (setFldM [1] nm y x st).toS _ = _
  rw [h3]; rfl
theorem w20 {n : Nat} (t : Told) (b : Bool) (st : PSt) : callF (n + 1) 20 [.r st.length 0, .p t.obj, .p (.bl b)] (st ++ [.ins 1 [] [] none]) = .ok (.p .non) (st ++ [wobj t b [] []]) := by
  rw [cf20]
  have s1 := set_aw st [] [] "saw" t.obj (by simp)
  have s2 := set_aw st ["saw"] [t.obj] "by_waste" (.bl b) (by simp)
  have p1 : putN "saw" t.obj [] [] = ((["saw"] : List Str), ([t.obj] : List PV)) := rfl
  have p2 : putN "by_waste" (.bl b) ["saw"] [t.obj] = ((["saw", "by_waste"] : List Str), ([t.obj, .bl b] : List PV)) := rfl
  rw [p1] at s1
  rw [p2] at s2
  dsimp only at s1 s2
  have s3 : sFldN [1] "known" 0 [some (.r st.length 0), some (.p t.obj), some (.p (.bl b))] (st ++ [.ins 1 ["saw", "by_waste"] [t.obj, .bl b] none]) = .nx [some (.r st.length 0), some (.p t.obj), some (.p (.bl b))] (st ++ [wobj t b [] []]) := by
    have e : (st ++ [PObj.ins 1 ["saw", "by_waste"] [t.obj, .bl b] none])[st.length]? = some (.ins 1 ["saw", "by_waste"] [t.obj, .bl b] none) := by simp
    have e2 : (st ++ [PObj.ins 1 ["saw", "by_waste"] [t.obj, .bl b] none]).set st.length (wobj t b [] []) = st ++ [wobj t b [] []] := by
      rw [List.set_append_right _ _ (Nat.le_refl _)]; simp
    unfold sFldN
    simp only [List.getElem?_cons_zero, e]
    rw [if_pos ⟨⟨by simp, by simp⟩, by decide⟩, e2]
  refine defM_nxS (st := st ++ [.ins 1 [] [] none]) rfl (ρ := [some (.r st.length 0), some (.p t.obj), some (.p (.bl b))]) (s := st ++ [wobj t b [] []]) ?_ (by simp)
  exact sq_nx (sf1_ok rfl rfl s1) (sq_nx (sf1_ok rfl rfl s2) (sq_nx s3 rfl))
theorem mk_W {n : Nat} {ρ : Ev} {st : PSt} {ar : Ev → PM (List PR)} (hr : ar ρ st = .ok [.p t.obj, .p (.bl b)] st) : mkM 1 (callF (n + 1) 20) ar [] ρ st = .ok (.r st.length 0) (st ++ [wobj t b [] []]) := by
  have e := w20 (n := n) t b st
  simp only [sSeq, sNil, sExpr, sRet, sRetN, sIf, sAsg, sPar, sPar3, sRaise, gNm, gsNil, gsCons, gTp, gSubM, eVar, eC, e1, e2, aNil, aCons, eCallD, eTup, eLst, eLstM, newLst, eAnd, eOr, eNot, eIf, eChain, tVal, tTruth, tNotM, tAndM, tOrM, asB, truthM, eFrz, frz, pures, PM.guard, PM.stuck, le_ii, gt_ii, ge_ii, lt_ii, sub_ii, add_ii, toInt_i, retB_ok, pm_bind, pm_pure, ob_ok, ob_err, ts_ok, ts_err, then_nx, then_ret, then_err, then_ct, List.map_cons, List.map_nil, List.append_nil, List.nil_append, List.cons_append, List.length_cons, List.length_nil, List.replicate, Nat.sub_self, Nat.zero_add, List.getElem?_cons_zero, List.getElem?_cons_succ, List.set_cons_zero, List.set_cons_succ, if_true, if_false, Bool.false_eq_true, Bool.not_true, Bool.not_false, ite_true, ite_false, eq_self, reduceIte, Bool.true_eq_false, reduceCtorEq, mkM, hr, e]
theorem app_W (t : Told) (b : Bool) (st R : PSt) (ks : List (List L2.Key)) (vs : List PV) : stW t b (st ++ .dead :: R) st.length ks vs = st ++ wobj t b ks vs :: R := by
  show (st ++ .dead :: R).set st.length _ = _
  rw [List.set_append_right _ _ (Nat.le_refl _), Nat.sub_self]
  rfl
/-- the best, asked of a new Worths -/
theorem ask_W {n m : Nat} {W H : Int} {ρ : Ev} {st : PSt} {ar ka : Ev → PM (List PR)} (ok : t.Ok) (hW : 0 ≤ W ∧ W ≤ 12) (hH : 0 ≤ H ∧ H ≤ 12) (hm : 51 ≤ m) (hr : ar ρ st = .ok [.p t.obj, .p (.bl b)] st) (hk : ∀ s, ka ρ s = .ok [.p (.int W), .p (.int H)] s) :
    ∃ x, methM 1 "best" (callF m 22) (mkM 1 (callF (n + 1) 20) ar []) ka [] ρ st = .ok (.p (entV (bestE t b W H))) (st ++ [x]) := by
  have hj : st.length < (st ++ [PObj.dead]).length := by simp
  obtain ⟨ks, vs, v, _, c⟩ := best_ok (t := t) (b := b) (base := st ++ [.dead]) (j := st.length) ok hj 24 m hm W H [] [] hW hH (by omega) (Val.nil t b)
  have ob := o_best (t := t) (b := b) (base := st ++ [.dead]) (j := st.length) (ks := []) (vs := []) hj
  rw [app_W] at c ob
  rw [app_W] at c
  have h1 := mk_W (n := n) hr
  refine ⟨wobj t b ks vs, ?_⟩
  show (mkM 1 (callF (n + 1) 20) ar [] ρ st).bind _ = _
  rw [h1]
  show (objC 1 "best" (.r st.length 0) (st ++ [wobj t b [] []])).bind _ = _
  rw [ob]
  show (ka ρ _).bind _ = _
  rw [hk]
  exact c
theorem take_one (st : PSt) (x : PObj) : (st ++ [x]).take st.length = st := by rw [List.take_left']; rfl
theorem w25 {n : Nat} {W H : Int} (ok : t.Ok) (hn : 51 ≤ n) (hW : 0 ≤ W ∧ W ≤ 12) (hH : 0 ≤ H ∧ H ≤ 12) (st : PSt) : callF (n + 1) 25 [.p t.obj, .p (.int W), .p (.int H)] st = .ok (.p (entV (bestE t false W H))) st := by
  obtain ⟨m, rfl⟩ : ∃ m, n = m + 1 := ⟨n - 1, by omega⟩
  obtain ⟨x, e⟩ := ask_W (n := m) (m := m + 1) (b := false) (ρ := [some (.p t.obj), some (.p (.int W)), some (.p (.int H))]) (st := st) (ar := aCons (eVar 0) (aCons (eC (.bl false)) aNil)) (ka := aCons (eVar 1) (aCons (eVar 2) aNil)) ok hW hH hn rfl (fun _ => rfl)
  rw [cf25]
  exact defM_retT rfl (sq_ret (re_ok e)) (take_one st x)
theorem w26 {n : Nat} {W H : Int} (ok : t.Ok) (hn : 51 ≤ n) (hW : 1 ≤ W ∧ W ≤ 12) (hH : 1 ≤ H ∧ H ≤ 12) (st : PSt) : callF (n + 2) 26 [.p t.obj, .p (.int W), .p (.int H)] st = .ok (.p (.int (0 - (bestE t false W H).1.1))) st := by
  obtain ⟨m, rfl⟩ : ∃ m, n = m + 3 := ⟨n - 3, by omega⟩
  rw [cf26]
  exact defM_ret rfl (sq_nx (ex_ok (cl_ok rfl (e10ok (n := m) hW hH st))) (sq_ret (re_ok (sub_lit rfl (e2_ok (e2_ok (cl_ok rfl (w25 (n := m + 3) ok hn (by omega) (by omega) st)) rfl rfl) rfl rfl)))))
theorem w27 {n : Nat} {W H : Int} (ok : t.Ok) (hn : 51 ≤ n) (hW : 1 ≤ W ∧ W ≤ 12) (hH : 1 ≤ H ∧ H ≤ 12) (st : PSt) : callF (n + 2) 27 [.p t.obj, .p (.int W), .p (.int H)] st = .ok (.p (bestE t false W H).2.pv) st := by
  obtain ⟨m, rfl⟩ : ∃ m, n = m + 3 := ⟨n - 3, by omega⟩
  rw [cf27]
  exact defM_ret rfl (sq_nx (ex_ok (cl_ok rfl (e10ok (n := m) hW hH st))) (sq_ret (re_ok (e2_ok (cl_ok rfl (w25 (n := m + 3) ok hn (by omega) (by omega) st)) rfl rfl))))
theorem w28 {n : Nat} {W H : Int} (ok : t.Ok) (hn : 51 ≤ n) (hW : 1 ≤ W ∧ W ≤ 12) (hH : 1 ≤ H ∧ H ≤ 12) (st : PSt) : callF (n + 2) 28 [.p t.obj, .p (.int W), .p (.int H)] st = .ok (.p (.int (bestE t false W H).1.2.2)) st := by
  obtain ⟨m, rfl⟩ : ∃ m, n = m + 3 := ⟨n - 3, by omega⟩
  rw [cf28]
  exact defM_ret rfl (sq_nx (ex_ok (cl_ok rfl (e10ok (n := m) hW hH st))) (sq_ret (re_ok (e2_ok (e2_ok (cl_ok rfl (w25 (n := m + 3) ok hn (by omega) (by omega) st)) rfl rfl) rfl rfl))))
theorem w29 {n : Nat} {W H : Int} (ok : t.Ok) (hn : 51 ≤ n) (hW : 1 ≤ W ∧ W ≤ 12) (hH : 1 ≤ H ∧ H ≤ 12) (st : PSt) : callF (n + 2) 29 [.p t.obj, .p (.int W), .p (.int H)] st = .ok (.p (.int (W * H + (bestE t true W H).1.2.1))) st := by
  obtain ⟨m, rfl⟩ : ∃ m, n = m + 3 := ⟨n - 3, by omega⟩
  obtain ⟨x, e⟩ := ask_W (n := m + 3) (m := m + 4) (b := true) (ρ := [some (.p t.obj), some (.p (.int W)), some (.p (.int H))]) (st := st) (ar := aCons (eVar 0) (aCons (eC (.bl true)) aNil)) (ka := aCons (eVar 1) (aCons (eVar 2) aNil)) ok (by omega) (by omega) (by omega) rfl (fun _ => rfl)
  rw [cf29]
  exact defM_retT rfl (sq_nx (ex_ok (cl_ok rfl (e10ok (n := m) hW hH st))) (sq_ret (re_ok (add_lit (e2_ok rfl rfl (mul_ok ⟨by omega, by omega⟩ _)) (e2_ok (e2_ok e rfl rfl) rfl rfl))))) (take_one st x)
end
end K00
namespace K00
open PySem Vs
/-! comprehensions: over a list under change; with elements that change the state -/
theorem lc_S {α : Type} {g f : α → PV} {L : List α} {cg : CG} {vs : List Nat} {e a : EM} {st : PSt} {ρ : Ev} {i : Nat} (ha : a ρ st = .ok (.r i 0) st) (hi : st[i]? = some (.lst (L.map g))) (ρ1 : PV → Ev) (h1 : ∀ v, cg v (wipeE ρ vs) = some (ρ1 v)) (h3 : ∀ x ∈ L, e (ρ1 (g x)) st = .ok (.p (f x)) st) (hl : L.length ≤ lim) : eLc (iLsSM a) cg vs tYesM e ρ st = .ok (.p (.lst (L.map f))) st := by
  have at_ : ∀ k, (wkS i (L.map g).length).at_ k st = (wkL (L.map g)).at_ k st := fun k => by
    show (match st[i]? with
      | some (.lst l) => (match l[k]? with
        | some v => Stp.item v
        | none => .stop)
      | _ => .stuck) = (match (L.map g)[k]? with
        | some v => Stp.item v
        | none => .stop)
    rw [hi]
  have key : ∀ m k acc, k + m = L.length → acc.length ≤ k → lcM (wkS i (L.map g).length).at_ cg (wipeE ρ vs) tYesM e m k acc st = .ok (acc ++ ((L.drop k).map f)) st := by
    intro m
    induction m with
    | zero =>
      intro k acc e1 _
      unfold lcM
      rw [at_, wkL_at', if_neg (by show ¬ k < (L.map g).length; rw [List.length_map]; omega), List.drop_eq_nil_of_le (by omega)]
      simp
    | succ m ih =>
      intro k acc e1 hk2
      have hk : k < L.length := by omega
      have hd : L.drop k = L[k] :: L.drop (k + 1) := List.drop_eq_getElem_cons hk
      have gd : (L.map g).getD k .non = g L[k] := by
        rw [List.getD_eq_getElem?_getD, List.getElem?_map, List.getElem?_eq_getElem hk]; rfl
      unfold lcM
      rw [at_, wkL_at', if_pos (show k < (wkL (L.map g)).n by show k < (L.map g).length; rw [List.length_map]; exact hk), gd]
      have q := h3 L[k] (List.getElem_mem hk)
      have yes : tYesM (ρ1 (g L[k])) st = .ok true st := rfl
      simp only [h1, yes, q]
      rw [if_pos (by omega), ih (k + 1) (acc ++ [f L[k]]) (by omega) (by rw [List.length_append]; simp; omega), hd, List.map_cons, List.append_assoc]
      rfl
  show ((iLsSM a ρ st).bind _) = _
  have hw : iLsSM a ρ st = .ok (wkS i (L.map g).length) st := by
    show (a ρ st).bind _ = _
    rw [ha]
    show (match st[i]? with
      | some (.lst l) => Out.ok (wkS i l.length) st
      | _ => .stuck) = _
    rw [hi]
  rw [hw]
  show (lcM (wkS i (L.map g).length).at_ cg (wipeE ρ vs) tYesM e (L.map g).length 0 [] st).bind _ = _
  rw [List.length_map] at key ⊢
  rw [key L.length 0 [] (by omega) (Nat.le_refl _)]
  rfl
theorem lc_inv {i j : Int} {cg : CG} {vs : List Nat} {e : EM} {a : Ev → PM (List PR)} {st : PSt} {ρ : Ev} {f : Nat → PV} (I : PSt → Prop) (ha : a ρ st = .ok [.p (.int i), .p (.int j)] st) (hi : 0 ≤ i ∧ i ≤ 1000) (hj : 0 ≤ j ∧ j ≤ 1000) (h0 : I st) (ρ1 : PV → Ev) (h1 : ∀ v, cg v (wipeE ρ vs) = some (ρ1 v)) (h3 : ∀ k : Nat, k < (j - i).toNat → ∀ st, I st → ∃ st', I st' ∧ e (ρ1 (.int (i + k))) st = .ok (.p (f k)) st') :
    ∃ st', I st' ∧ eLc (iRng2M a) cg vs tYesM e ρ st = .ok (.p (.lst ((List.range (j - i).toNat).map f))) st' := by
  have key : ∀ m k acc st, k + m = (j - i).toNat → acc.length ≤ k → I st → ∃ st', I st' ∧ lcM (wkR i (j - i).toNat).at_ cg (wipeE ρ vs) tYesM e m k acc st = .ok (acc ++ (((List.range (j - i).toNat).drop k).map f)) st' := by
    intro m
    induction m with
    | zero =>
      intro k acc st e1 _ hI
      refine ⟨st, hI, ?_⟩
      unfold lcM
      rw [wkR_at, if_neg (by show ¬ k < (j - i).toNat; omega), List.drop_eq_nil_of_le (by rw [List.length_range]; omega)]
      simp
    | succ m ih =>
      intro k acc st e1 hk2 hI
      have hk : k < (j - i).toNat := by omega
      have hl : k < (List.range (j - i).toNat).length := by rw [List.length_range]; exact hk
      have hd : (List.range (j - i).toNat).drop k = k :: (List.range (j - i).toNat).drop (k + 1) := by
        rw [List.drop_eq_getElem_cons hl, List.getElem_range]
      obtain ⟨s1, I1, q⟩ := h3 k hk st hI
      obtain ⟨s2, I2, z⟩ := ih (k + 1) (acc ++ [f k]) s1 (by omega) (by rw [List.length_append]; simp; omega) I1
      refine ⟨s2, I2, ?_⟩
      unfold lcM
      rw [wkR_at, if_pos (show k < (wkR i (j - i).toNat).n from hk)]
      have yes : tYesM (ρ1 (.int (i + k))) st = .ok true st := rfl
      simp only [h1, yes, q]
      have lm : ((lim : Nat)) = 16777216 := rfl
      rw [if_pos (by omega), z, hd, List.map_cons, List.append_assoc]
      rfl
  obtain ⟨s', I', z⟩ := key (j - i).toNat 0 [] st (by omega) (Nat.le_refl _) h0
  refine ⟨s', I', ?_⟩
  show ((a ρ st).bind _).bind _ = _
  rw [ha]
  show ((if -(2 ^ 62) ≤ i ∧ i < 2 ^ 62 ∧ -(2 ^ 62) ≤ j ∧ j < 2 ^ 62 then (pure (wkR i (j - i).toNat) : PM Wk) else PM.stuck) st).bind _ = _
  rw [if_pos (by omega)]
  show (lcM (wkR i (j - i).toNat).at_ cg (wipeE ρ vs) tYesM e (j - i).toNat 0 [] st).bind _ = _
  rw [z]
  rfl
end K00
namespace K00
open PySem Vs
/-! the law's own best -/
abbrev P4 := (Int × Int) × (Int × Int)
def p4V (x : P4) : PV := .tup [p2V x.1, p2V x.2]
def z4 : P4 := ((0, 0), (0, 0))
def both (x y : P4) : P4 := ((x.1.1 + y.1.1, x.1.2 + y.1.2 + 1), (x.2.1 + y.2.1, x.2.2 + y.2.2))
def ordP (o : Ord) : P4 := ((0 - o.p, 0), (0 - o.p, 0 - o.w * o.h))
def ordC (os : List Ord) (W H : Int) : List P4 := (os.filter fun o => o.w == W && o.h == H).map ordP
def acP (t : Told) (L : Int → Int → P4) (W H : Int) : List P4 := (List.range (W - 1).toNat).map fun (k : Nat) => both (L (1 + k) H) (L (sec t W (1 + k)) H)
def dwP (t : Told) (L : Int → Int → P4) (W H : Int) : List P4 := (List.range (H - 1).toNat).map fun (k : Nat) => both (L W (1 + k)) (L W (sec t H (1 + k)))
def lcs (t : Told) (L : Int → Int → P4) (W H : Int) : List P4 := ordC t.os W H ++ acP t L W H ++ dwP t L W H
def mn4 (l : List P4) : P4 := (min2 (0, 0) (l.map (·.1)), min2 (0, 0) (l.map (·.2)))
def lbt (t : Told) : Nat → Int → Int → P4
  | 0, _, _ => z4
  | n + 1, W, H => if W < 1 ∨ H < 1 then z4 else mn4 (lcs t (lbt t n) W H)
def lawE (t : Told) (W H : Int) : P4 := lbt t (W + H).toNat W H
theorem lcs_cong {t : Told} (ok : t.Ok) {B B' : Int → Int → P4} {W H : Int} (hW : 1 ≤ W) (hH : 1 ≤ H) (h : ∀ w u, 0 ≤ w → 0 ≤ u → w + u < W + H → B w u = B' w u) : lcs t B W H = lcs t B' W H := by
  have a : acP t B W H = acP t B' W H := List.map_congr_left fun k hk => by
    have hk := List.mem_range.mp hk
    have := sec_nn t W (1 + k)
    have := sec_lt ok (n := W) (k := 1 + k) (by omega) (by omega)
    rw [h (1 + k) H (by omega) (by omega) (by omega), h (sec t W (1 + k)) H (by omega) (by omega) (by omega)]
  have d : dwP t B W H = dwP t B' W H := List.map_congr_left fun k hk => by
    have hk := List.mem_range.mp hk
    have := sec_nn t H (1 + k)
    have := sec_lt ok (n := H) (k := 1 + k) (by omega) (by omega)
    rw [h W (1 + k) (by omega) (by omega) (by omega), h W (sec t H (1 + k)) (by omega) (by omega) (by omega)]
  unfold lcs
  rw [a, d]
theorem lbt_zero (t : Told) {W H : Int} (z : W < 1 ∨ H < 1) : ∀ m, lbt t m W H = z4
  | 0 => rfl
  | m + 1 => by simp only [lbt, if_pos z]
theorem lbt_fuel {t : Told} (ok : t.Ok) : ∀ (n : Nat) (W H : Int), 0 ≤ W → 0 ≤ H → W + H ≤ n → lbt t n W H = lawE t W H := by
  intro n
  induction n using Nat.strongRecOn with
  | ind n ih =>
    intro W H hW hH hn
    unfold lawE
    by_cases z : W < 1 ∨ H < 1
    · rw [lbt_zero t z, lbt_zero t z]
    · obtain ⟨n, rfl⟩ : ∃ m, n = m + 1 := ⟨n - 1, by omega⟩
      obtain ⟨m, hm⟩ : ∃ m, (W + H).toNat = m + 1 := ⟨(W + H).toNat - 1, by omega⟩
      rw [hm]
      simp only [lbt, if_neg z]
      rw [lcs_cong (B := lbt t n) (B' := lbt t m) ok (by omega) (by omega) fun w u h1 h2 h3 => by
        rw [ih n (by omega) w u h1 h2 (by omega), ih m (by omega) w u h1 h2 (by omega)]]
theorem law_zero (t : Told) {W H : Int} (z : W < 1 ∨ H < 1) : lawE t W H = z4 := lbt_zero t z _
theorem law_eq {t : Told} (ok : t.Ok) {W H : Int} (hW : 1 ≤ W) (hH : 1 ≤ H) : lawE t W H = mn4 (lcs t (lawE t) W H) := by
  obtain ⟨m, hm⟩ : ∃ m, (W + H).toNat = m + 1 := ⟨(W + H).toNat - 1, by omega⟩
  have e : lawE t W H = mn4 (lcs t (lbt t m) W H) := by
    show lbt t (W + H).toNat W H = _
    rw [hm]
    simp only [lbt, if_neg (show ¬ (W < 1 ∨ H < 1) by omega)]
  rw [e, lcs_cong ok hW hH fun w u h1 h2 h3 => lbt_fuel ok m w u h1 h2 (by omega)]
theorem e47 {n : Nat} (x y : P4) (st : PSt) : callF (n + 1) 47 [.p (p4V x), .p (p4V y)] st = .ok (.p (p4V (both x y))) st := by
  rw [cf47]
  have i1 : ∀ (x : P4) st, ixM (.p (p4V x)) (.p (.int 0)) st = .ok (.p (p2V x.1)) st := fun _ _ => rfl
  have i2 : ∀ (x : P4) st, ixM (.p (p4V x)) (.p (.int 1)) st = .ok (.p (p2V x.2)) st := fun _ _ => rfl
  have j1 : ∀ (x : Int × Int) st, ixM (.p (p2V x)) (.p (.int 0)) st = .ok (.p (.int x.1)) st := fun _ _ => rfl
  have j2 : ∀ (x : Int × Int) st, ixM (.p (p2V x)) (.p (.int 1)) st = .ok (.p (.int x.2)) st := fun _ _ => rfl
  exact defM_ret rfl (sq_ret (re_ok (tp_ok (l := [p2V (both x y).1, p2V (both x y).2])
    (ac_ok (tp_ok (l := [.int (x.1.1 + y.1.1), .int (x.1.2 + y.1.2 + 1)]) (ac_ok (add_lit (e2_ok (e2_ok rfl rfl (i1 x st)) rfl (j1 _ st)) (e2_ok (e2_ok rfl rfl (i1 y st)) rfl (j1 _ st))) (ac_ok (add_lit (add_lit (e2_ok (e2_ok rfl rfl (i1 x st)) rfl (j2 _ st)) (e2_ok (e2_ok rfl rfl (i1 y st)) rfl (j2 _ st))) rfl) rfl)) lim2)
    (ac_ok (tp_ok (l := [.int (x.2.1 + y.2.1), .int (x.2.2 + y.2.2)]) (ac_ok (add_lit (e2_ok (e2_ok rfl rfl (i2 x st)) rfl (j1 _ st)) (e2_ok (e2_ok rfl rfl (i2 y st)) rfl (j1 _ st))) (ac_ok (add_lit (e2_ok (e2_ok rfl rfl (i2 x st)) rfl (j2 _ st)) (e2_ok (e2_ok rfl rfl (i2 y st)) rfl (j2 _ st))) rfl)) lim2) rfl)) lim2)))
/-- what the law's dict knows -/
structure VaL (t : Told) (ks : List (List L2.Key)) (vs : List PV) : Prop where
  len : ks.length = vs.length
  nd : ks.Nodup
  rg : ∀ k ∈ ks, ∃ w h : Int, k = kyW w h ∧ 1 ≤ w ∧ w ≤ 12 ∧ 1 ≤ h ∧ h ≤ 12
  at_ : ∀ (w h : Int) (v : PV), lkP ks vs (kyW w h) = some v → v = p4V (lawE t w h)
theorem VaL.nil (t : Told) : VaL t [] [] := ⟨rfl, List.nodup_nil, fun _ h => (by cases h), fun _ _ _ h => (by cases h)⟩
theorem VaL.small {t : Told} {ks : List (List L2.Key)} {vs : List PV} (v : VaL t ks vs) : ks.length ≤ 144 := by
  have nd : (ks.map codeK).Nodup := by
    have go : ∀ l : List (List L2.Key), l.Nodup → (∀ k ∈ l, ∃ w h : Int, k = kyW w h ∧ 1 ≤ w ∧ w ≤ 12 ∧ 1 ≤ h ∧ h ≤ 12) → (l.map codeK).Nodup := by
      intro l
      induction l with
      | nil => intro _ _; exact List.nodup_nil
      | cons k l ih =>
        intro nd rg
        rw [List.nodup_cons] at nd
        rw [List.map_cons, List.nodup_cons]
        refine ⟨fun hm => ?_, ih nd.2 fun x hx => rg x (List.mem_cons_of_mem _ hx)⟩
        obtain ⟨k2, h2, e⟩ := List.mem_map.mp hm
        obtain ⟨w, h, rfl, a1, a2, a3, a4⟩ := rg k List.mem_cons_self
        obtain ⟨w2, h3, rfl, b1, b2, b3, b4⟩ := rg k2 (List.mem_cons_of_mem _ h2)
        have e : ((w2 - 1) * 12 + (h3 - 1)).toNat = ((w - 1) * 12 + (h - 1)).toNat := e
        have : w2 = w ∧ h3 = h := by omega
        rw [this.1, this.2] at h2
        exact nd.1 h2
    exact go ks v.nd v.rg
  have z := small_nat 144 (ks.map codeK) nd fun x hx => by
    obtain ⟨k, hk, rfl⟩ := List.mem_map.mp hx
    obtain ⟨w, h, rfl, a1, a2, a3, a4⟩ := v.rg k hk
    show ((w - 1) * 12 + (h - 1)).toNat < 144
    omega
  rw [List.length_map] at z
  exact z
theorem VaL.put {t : Told} {ks : List (List L2.Key)} {vs : List PV} (v : VaL t ks vs) {W H : Int} (hW : 1 ≤ W ∧ W ≤ 12) (hH : 1 ≤ H ∧ H ≤ 12) (hn : kyW W H ∉ ks) : VaL t (ks ++ [kyW W H]) (vs ++ [p4V (lawE t W H)]) := by
  refine ⟨by rw [List.length_append, List.length_append, v.len]; rfl, ?_, fun k hk => ?_, fun w h u hu => ?_⟩
  · rw [List.nodup_append]
    refine ⟨v.nd, by simp, fun a ha c hc => ?_⟩
    rw [List.mem_singleton.mp hc]
    exact fun z => hn (by rw [← z]; exact ha)
  · rcases List.mem_append.mp hk with hk | hk
    · exact v.rg k hk
    · rw [List.mem_singleton.mp hk]
      exact ⟨W, H, rfl, hW.1, hW.2, hH.1, hH.2⟩
  · rw [lk_app v.len] at hu
    cases e : lkP ks vs (kyW w h) with
    | some x =>
      rw [e] at hu
      cases hu
      exact v.at_ w h _ e
    | none =>
      rw [e] at hu
      dsimp only at hu
      by_cases z : kyW W H = kyW w h
      · rw [if_pos z] at hu
        cases hu
        injection z with z1 z2
        injection z2 with z2 _
        injection z1 with z1
        injection z2 with z2
        rw [z1, z2]
      · rw [if_neg z] at hu; cases hu
abbrev stD (base : PSt) (j : Nat) (ks : List (List L2.Key)) (vs : List PV) : PSt := base.set j (.dct (.t ks vs))
section
variable {t : Told} {base : PSt} {j : Nat} {ks : List (List L2.Key)} {vs : List PV}
theorem pd_D {R : PSt} (hj : j < base.length) : pdAt (stD base j ks vs ++ R) (.r j 0) = some (.t ks vs) := by
  have e : (stD base j ks vs ++ R)[j]? = some (.dct (.t ks vs)) := by
    rw [List.getElem?_append_left (by rw [List.length_set]; exact hj)]
    exact List.getElem?_set_self hj
  show (match (stD base j ks vs ++ R)[j]? with | some (.dct d) => some d | _ => none) = _
  rw [e]
theorem put_D {R : PSt} (hj : j < base.length) {ks' : List (List L2.Key)} {vs' : List PV} : pdPut (stD base j ks vs ++ R) (.t ks' vs') (.r j 0) = stD base j ks' vs' ++ R := by
  show (stD base j ks vs ++ R).set j _ = _
  rw [List.set_append_left _ _ (by rw [List.length_set]; exact hj)]
  show (base.set j _).set j _ ++ R = _
  rw [List.set_set]
theorem app_D {x : PObj} (hj : j < base.length) : stD (base ++ [x]) j ks vs = stD base j ks vs ++ [x] := List.set_append_left _ _ hj
theorem in_D {R : PSt} (hj : j < base.length) {md : EM} {ka : Ev → PM (List PR)} {ρ : Ev} {W H : Int} (hk : ka ρ (stD base j ks vs ++ R) = .ok [.p (.int W), .p (.int H)] (stD base j ks vs ++ R)) (hd : md ρ (stD base j ks vs ++ R) = .ok (.r j 0) (stD base j ks vs ++ R)) :
    inTM false ka md ρ (stD base j ks vs ++ R) = .ok (.p (.bl ((lkP ks vs (kyW W H)).isSome == false))) (stD base j ks vs ++ R) := by
  show (ka ρ _).bind _ = _
  rw [hk]
  rw [ob_ok]
  unfold PM.guard
  rw [if_pos (show [PR.p (.int W), .p (.int H)].length ≤ lim from lim2)]
  show (md ρ _).bind _ = _
  rw [hd]
  show (match keysP [.p (.int W), .p (.int H)], pdAt (stD base j ks vs ++ R) (.r j 0) with
    | some k, some (.t ks vs) => retB ((lkP ks vs k).isSome == false) _
    | _, _ => _) = _
  rw [pd_D hj]; rfl
theorem ix_D {R : PSt} (hj : j < base.length) {md : EM} {ka : Ev → PM (List PR)} {ρ : Ev} {W H : Int} {v : PV} (hk : ka ρ (stD base j ks vs ++ R) = .ok [.p (.int W), .p (.int H)] (stD base j ks vs ++ R)) (hd : md ρ (stD base j ks vs ++ R) = .ok (.r j 0) (stD base j ks vs ++ R)) (hv : lkP ks vs (kyW W H) = some v) :
    ixTM md ka ρ (stD base j ks vs ++ R) = .ok (.p v) (stD base j ks vs ++ R) := by
  show (md ρ _).bind _ = _
  rw [hd]
  show (ka ρ _).bind _ = _
  rw [hk]
  rw [ob_ok]
  unfold PM.guard
  rw [if_pos (show [PR.p (.int W), .p (.int H)].length ≤ lim from lim2)]
  show (match keysP [.p (.int W), .p (.int H)], pdAt (stD base j ks vs ++ R) (.r j 0) with
    | some k, some (.t ks vs) => (match lkP ks vs k with
      | some v => Out.ok (PR.p v) _
      | none => _)
    | _, _ => _) = _
  rw [pd_D hj]
  show (match lkP ks vs (kyW W H) with
      | some v => Out.ok (PR.p v) _
      | none => _) = _
  rw [hv]
theorem set_in_D {R : PSt} (hj : j < base.length) {md mv : EM} {ka : Ev → PM (List PR)} {ρ : Ev} {W H : Int} {v : PV} {st : PSt} (hv : mv ρ st = .ok (.p v) (stD base j ks vs ++ R)) (hd : md ρ (stD base j ks vs ++ R) = .ok (.r j 0) (stD base j ks vs ++ R)) (hk : ka ρ (stD base j ks vs ++ R) = .ok [.p (.int W), .p (.int H)] (stD base j ks vs ++ R)) (hn : lkP ks vs (kyW W H) = none) (hl : ks.length ≤ 1000) :
    setTM md ka mv ρ st = .nx ρ (stD base j (ks ++ [kyW W H]) (vs ++ [v]) ++ R) := by
  show (mv ρ st).toS _ = _
  rw [hv]
  show (md ρ _).toS _ = _
  rw [hd]
  show (ka ρ _).toS _ = _
  rw [hk]
  show (match PR.p v, keysP [.p (.int W), .p (.int H)], pdAt (stD base j ks vs ++ R) (.r j 0) with
    | .p v, some k, some (.t ks vs) => if [PR.p (.int W), .p (.int H)].length ≤ lim ∧ ks.length < lim ∧ (lkP ks vs k).isNone = true then OutS.nx ρ (pdPut _ (.t (ks ++ [k]) (vs ++ [v])) (.r j 0)) else .stuck
    | _, _, _ => .stuck) = _
  rw [pd_D hj]
  show (if [PR.p (.int W), .p (.int H)].length ≤ lim ∧ ks.length < lim ∧ (lkP ks vs (kyW W H)).isNone = true then OutS.nx ρ (pdPut (stD base j ks vs ++ R) (.t (ks ++ [kyW W H]) (vs ++ [v])) (.r j 0)) else .stuck) = _
  rw [if_pos ⟨lim2, by show ks.length < 16777216; omega, by rw [hn]; rfl⟩, put_D hj]
/-- the list `some` behind it -/
theorem get_L {A : PSt} {l : List PV} : (A ++ [PObj.lst l])[A.length]? = some (.lst l) := by simp
theorem ap_L {A : PSt} {l : List PV} {v : PV} (hl : l.length ≤ 1000) : apM (.r A.length 0) (.p v) (A ++ [.lst l]) = .ok (.p .non) (A ++ [.lst (l ++ [v])]) := by
  have w : (A ++ [PObj.lst l]).set A.length (.lst (l ++ [v])) = A ++ [.lst (l ++ [v])] := by
    rw [List.set_append_right _ _ (Nat.le_refl _), Nat.sub_self]; rfl
  show (match (A ++ [PObj.lst l])[A.length]? with | some (.lst m) => if m.length < lim then Out.ok (PR.p .non) ((A ++ [PObj.lst l]).set A.length (.lst (m ++ [v]))) else .stuck | _ => .stuck) = _
  rw [get_L]
  dsimp only
  rw [if_pos (by show l.length < 16777216; omega), w]
theorem lr_L {A : PSt} {l : List PV} : lstR (.r A.length 0) (A ++ [.lst l]) = .ok () (A ++ [.lst l]) := by
  simp only [lstR, get_L]
end
end K00
namespace K00
open PySem Vs
theorem rs_ift {t : TM} {a b : SM} {ρ : Ev} {st s : PSt} {N : Ev → PSt → Prop} {R : PR → PSt → Prop} (h : t ρ st = .ok true s) (k : RetS (a ρ s) N R) : RetS (sIf t a b ρ st) N R := by
  rw [if_t h rfl]
  exact k
section
variable {t : Told} {base : PSt} {j : Nat}
def LawP (t : Told) (m : Nat) (N : Int) : Prop := ∀ (base : PSt) (j : Nat), j < base.length → ∀ (W H : Int) (ks : List (List L2.Key)) (vs : List PV), (0 ≤ W ∧ W ≤ 12) → (0 ≤ H ∧ H ≤ 12) → W + H ≤ N → VaL t ks vs →
  ∃ ks' vs', VaL t ks' vs' ∧ Grow (W + H) ks ks' ∧ callF m 46 [.p t.pv, .r j 0, .p (.int W), .p (.int H)] (stD base j ks vs) = .ok (.p (p4V (lawE t W H))) (stD base j ks' vs')
abbrev E46 (t : Told) (j i : Nat) (W H : Int) (x5 x6 x7 x8 x9 : Option PR) : Ev := [some (.p t.pv), some (.r j 0), some (.p (.int W)), some (.p (.int H)), some (.r i 0), x5, x6, x7, x8, x9]
abbrev stL (base : PSt) (j : Nat) (ks : List (List L2.Key)) (vs : List PV) (L : List P4) : PSt := stD base j ks vs ++ [.lst (L.map p4V)]
theorem len_D {ks : List (List L2.Key)} {vs : List PV} : (stD base j ks vs).length = base.length := List.length_set ..
theorem app_L {ks : List (List L2.Key)} {vs : List PV} {L : List P4} {x : P4} {ma : EM} {ρ : Ev} {ks' : List (List L2.Key)} {vs' : List PV} (h4 : ρ[4]? = some (some (.r base.length 0))) (hl : L.length ≤ 1000) (ha : ma ρ (stL base j ks vs L) = .ok (.p (p4V x)) (stL base j ks' vs' L)) : eAppend (eVar 4) ma ρ (stL base j ks vs L) = .ok (.p .non) (stL base j ks' vs' (L ++ [x])) := by
  have l1 := lr_L (A := stD base j ks vs) (l := L.map p4V)
  have a1 := ap_L (A := stD base j ks' vs') (l := L.map p4V) (v := p4V x) (by rw [List.length_map]; exact hl)
  rw [len_D] at l1 a1
  have m : L.map p4V ++ [p4V x] = (L ++ [x]).map p4V := by rw [List.map_append]; rfl
  rw [m] at a1
  exact ea_st (x := .r base.length 0) (by simp only [sSeq, sNil, sExpr, sRet, sRetN, sIf, sAsg, sPar, sPar3, sRaise, gNm, gsNil, gsCons, gTp, gSubM, eVar, eC, e1, e2, aNil, aCons, eCallD, eTup, eLst, eLstM, newLst, eAnd, eOr, eNot, eIf, eChain, tVal, tTruth, tNotM, tAndM, tOrM, asB, truthM, eFrz, frz, pures, PM.guard, PM.stuck, le_ii, gt_ii, ge_ii, lt_ii, sub_ii, add_ii, toInt_i, retB_ok, pm_bind, pm_pure, ob_ok, ob_err, ts_ok, ts_err, then_nx, then_ret, then_err, then_ct, List.map_cons, List.map_nil, List.append_nil, List.nil_append, List.cons_append, List.length_cons, List.length_nil, List.replicate, Nat.sub_self, Nat.zero_add, List.getElem?_cons_zero, List.getElem?_cons_succ, List.set_cons_zero, List.set_cons_succ, if_true, if_false, Bool.false_eq_true, Bool.not_true, Bool.not_false, ite_true, ite_false, eq_self, reduceIte, Bool.true_eq_false, reduceCtorEq, h4]) l1 ha a1
theorem ordC_succ {os : List Ord} {k : Nat} {o : Ord} (e : os[k]? = some o) (W H : Int) : ordC (os.take (k + 1)) W H = if (o.w == W && o.h == H) = true then ordC (os.take k) W H ++ [ordP o] else ordC (os.take k) W H := by
  unfold ordC
  rw [List.take_succ, e, List.filter_append, List.map_append]
  by_cases h : (o.w == W && o.h == H) = true
  · rw [if_pos h]
    have f : ([o].filter fun o => o.w == W && o.h == H) = [o] := List.filter_cons_of_pos (p := fun (o : Ord) => o.w == W && o.h == H) h
    show _ ++ (([o].filter fun o => o.w == W && o.h == H).map ordP) = _
    rw [f]; rfl
  · rw [if_neg h]
    have f : ([o].filter fun o => o.w == W && o.h == H) = [] := List.filter_cons_of_neg (p := fun (o : Ord) => o.w == W && o.h == H) h
    show _ ++ (([o].filter fun o => o.w == W && o.h == H).map ordP) = _
    rw [f, List.map_nil, List.append_nil]
theorem ordC_len (os : List Ord) (W H : Int) : (ordC os W H).length ≤ os.length := by
  unfold ordC
  rw [List.length_map]
  exact List.length_filter_le _ _
abbrev ordT : SM := sSeq (sIf (tVal (e2 eqM (eTup (aCons (eVar 5) (aCons (eVar 6) aNil))) (eTup (aCons (eVar 2) (aCons (eVar 3) aNil))))) (sSeq (sExpr (eAppend (eVar 4) (eTup (aCons (eTup (aCons (e2 subM (eC (.int 0)) (eVar 7)) (aCons (eC (.int 0)) aNil))) (aCons (eTup (aCons (e2 subM (eC (.int 0)) (eVar 7)) (aCons (e2 subM (eC (.int 0)) (e2 mulM (eVar 5) (eVar 6))) aNil))) aNil))))) sNil) sNil) sNil
theorem ord_t {W H : Int} {o : Ord} {ks : List (List L2.Key)} {vs : List PV} {L : List P4} {x8 x9 : Option PR} (ho : Ord.Ok o) (hl : L.length ≤ 1000) :
    ordT (E46 t j base.length W H (some (.p (.int o.w))) (some (.p (.int o.h))) (some (.p (.int o.p))) x8 x9) (stL base j ks vs L) = .nx (E46 t j base.length W H (some (.p (.int o.w))) (some (.p (.int o.h))) (some (.p (.int o.p))) x8 x9) (stL base j ks vs (if (o.w == W && o.h == H) = true then L ++ [ordP o] else L)) := by
  have t1 := tv_ok (e2_ok (a := eTup (aCons (eVar 5) (aCons (eVar 6) aNil))) (b := eTup (aCons (eVar 2) (aCons (eVar 3) aNil))) (ρ := E46 t j base.length W H (some (.p (.int o.w))) (some (.p (.int o.h))) (some (.p (.int o.p))) x8 x9) (st := stL base j ks vs L) (tp_ok (l := [.int o.w, .int o.h]) rfl lim2) (tp_ok (l := [.int W, .int H]) rfl lim2) (eq_pair o.w o.h W H _))
  by_cases h : (o.w == W && o.h == H) = true
  · rw [h] at t1
    rw [if_pos h]
    refine sq_nx (if_t t1 (sq_nx (ex_ok (app_L (x := ordP o) rfl hl (tp_ok (l := [p2V (0 - o.p, 0), p2V (0 - o.p, 0 - o.w * o.h)]) (ac_ok (tp_ok (l := [.int (0 - o.p), .int 0]) (ac_ok (sub_lit rfl rfl) rfl) lim2) (ac_ok (tp_ok (l := [.int (0 - o.p), .int (0 - o.w * o.h)]) (ac_ok (sub_lit rfl rfl) (ac_ok (sub_lit rfl (e2_ok rfl rfl (mul_ok ⟨by have := ho.w; omega, by have := ho.w; omega⟩ _))) rfl)) lim2) rfl)) lim2))) rfl)) rfl
  · have h' : (o.w == W && o.h == H) = false := by simpa using h
    rw [h'] at t1
    rw [if_neg h]
    exact sq_nx (if_f t1 rfl) rfl
theorem callL {m : Nat} {N W H : Int} {ks : List (List L2.Key)} {vs : List PV} {L : List P4} (P : LawP t m N) (hj : j < base.length) (hW : 0 ≤ W ∧ W ≤ 12) (hH : 0 ≤ H ∧ H ≤ 12) (hn : W + H ≤ N) (v : VaL t ks vs) :
    ∃ ks' vs', VaL t ks' vs' ∧ Grow (W + H) ks ks' ∧ callF m 46 [.p t.pv, .r j 0, .p (.int W), .p (.int H)] (stL base j ks vs L) = .ok (.p (p4V (lawE t W H))) (stL base j ks' vs' L) := by
  obtain ⟨ks', vs', v', g', e⟩ := P (base ++ [.lst (L.map p4V)]) j (by rw [List.length_append]; omega) W H ks vs hW hH hn v
  rw [app_D hj, app_D hj] at e
  exact ⟨ks', vs', v', g', e⟩
abbrev acrT (n : Nat) : SM := sSeq (sExpr (eAppend (eVar 4) (eCallD (callF (n + 1) 47) (aCons (eCallD (callF (n + 1) 46) (aCons (eVar 0) (aCons (eVar 1) (aCons (eVar 8) (aCons (eVar 3) aNil)))) []) (aCons (eCallD (callF (n + 1) 46) (aCons (eVar 0) (aCons (eVar 1) (aCons (eCallD (callF (n + 1) 41) (aCons (eVar 0) (aCons (eVar 2) (aCons (eVar 8) aNil))) []) (aCons (eVar 3) aNil)))) []) aNil)) []))) sNil
abbrev dwnT (n : Nat) : SM := sSeq (sExpr (eAppend (eVar 4) (eCallD (callF (n + 1) 47) (aCons (eCallD (callF (n + 1) 46) (aCons (eVar 0) (aCons (eVar 1) (aCons (eVar 2) (aCons (eVar 8) aNil)))) []) (aCons (eCallD (callF (n + 1) 46) (aCons (eVar 0) (aCons (eVar 1) (aCons (eVar 2) (aCons (eCallD (callF (n + 1) 41) (aCons (eVar 0) (aCons (eVar 3) (aCons (eVar 8) aNil))) []) aNil)))) []) aNil)) []))) sNil
theorem acr_t {n k : Nat} {W H : Int} {x5 x6 x7 x9 : Option PR} {ks : List (List L2.Key)} {vs : List PV} {L : List P4} (ok : t.Ok) (hj : j < base.length) (hW : 1 ≤ W ∧ W ≤ 12) (hH : 1 ≤ H ∧ H ≤ 12) (hk : k < (W - 1).toNat) (P : LawP t (n + 1) (W + H - 1)) (v : VaL t ks vs) (hl : L.length ≤ 1000) :
    ∃ ks' vs', VaL t ks' vs' ∧ Grow (W + H - 1) ks ks' ∧ acrT n (E46 t j base.length W H x5 x6 x7 (some (.p (.int (1 + k)))) x9) (stL base j ks vs L) = .nx (E46 t j base.length W H x5 x6 x7 (some (.p (.int (1 + k)))) x9) (stL base j ks' vs' (L ++ [both (lawE t (1 + k) H) (lawE t (sec t W (1 + k)) H)])) := by
  have s0 := sec_nn t W (1 + k)
  have s1 := sec_lt ok (n := W) (k := 1 + k) (by omega) (by omega)
  obtain ⟨ks1, vs1, v1, g1, c1⟩ := callL (L := L) (base := base) (j := j) (W := 1 + k) (H := H) P hj (by omega) (by omega) (by omega) v
  obtain ⟨ks2, vs2, v2, g2, c2⟩ := callL (L := L) (base := base) (j := j) (W := sec t W (1 + k)) (H := H) P hj (by omega) (by omega) (by omega) v1
  refine ⟨ks2, vs2, v2, (g1.mono (by omega)).trans (g2.mono (by omega)), ?_⟩
  exact sq_nx (ex_ok (app_L rfl hl (cl_ok (ac_ok (cl_ok (ac_ok rfl (ac_ok rfl (ac_ok rfl (ac_ok rfl rfl)))) c1) (ac_ok (cl_ok (ac_ok rfl (ac_ok rfl (ac_ok (cl_ok (ac_ok rfl (ac_ok rfl (ac_ok rfl rfl))) (e26 (n := n) t W (1 + k) _)) (ac_ok rfl rfl)))) c2) rfl)) (e47 _ _ _)))) rfl
theorem dwn_t {n k : Nat} {W H : Int} {x5 x6 x7 x9 : Option PR} {ks : List (List L2.Key)} {vs : List PV} {L : List P4} (ok : t.Ok) (hj : j < base.length) (hW : 1 ≤ W ∧ W ≤ 12) (hH : 1 ≤ H ∧ H ≤ 12) (hk : k < (H - 1).toNat) (P : LawP t (n + 1) (W + H - 1)) (v : VaL t ks vs) (hl : L.length ≤ 1000) :
    ∃ ks' vs', VaL t ks' vs' ∧ Grow (W + H - 1) ks ks' ∧ dwnT n (E46 t j base.length W H x5 x6 x7 (some (.p (.int (1 + k)))) x9) (stL base j ks vs L) = .nx (E46 t j base.length W H x5 x6 x7 (some (.p (.int (1 + k)))) x9) (stL base j ks' vs' (L ++ [both (lawE t W (1 + k)) (lawE t W (sec t H (1 + k)))])) := by
  have s0 := sec_nn t H (1 + k)
  have s1 := sec_lt ok (n := H) (k := 1 + k) (by omega) (by omega)
  obtain ⟨ks1, vs1, v1, g1, c1⟩ := callL (L := L) (base := base) (j := j) (W := W) (H := 1 + k) P hj (by omega) (by omega) (by omega) v
  obtain ⟨ks2, vs2, v2, g2, c2⟩ := callL (L := L) (base := base) (j := j) (W := W) (H := sec t H (1 + k)) P hj (by omega) (by omega) (by omega) v1
  refine ⟨ks2, vs2, v2, (g1.mono (by omega)).trans (g2.mono (by omega)), ?_⟩
  exact sq_nx (ex_ok (app_L rfl hl (cl_ok (ac_ok (cl_ok (ac_ok rfl (ac_ok rfl (ac_ok rfl (ac_ok rfl rfl)))) c1) (ac_ok (cl_ok (ac_ok rfl (ac_ok rfl (ac_ok rfl (ac_ok (cl_ok (ac_ok rfl (ac_ok rfl (ac_ok rfl rfl))) (e26 (n := n) t H (1 + k) _)) rfl)))) c2) rfl)) (e47 _ _ _)))) rfl
theorem rng2_ok {a : Ev → PM (List PR)} {ρ : Ev} {st : PSt} {i k : Int} (h : a ρ st = .ok [.p (.int i), .p (.int k)] st) (hi : 0 ≤ i ∧ i ≤ 1000) (hk : 0 ≤ k ∧ k ≤ 1000) : iRng2M a ρ st = .ok (wkR i (k - i).toNat) st := by
  show (a ρ st).bind _ = _
  rw [h]
  show ((if -(2 ^ 62) ≤ i ∧ i < 2 ^ 62 ∧ -(2 ^ 62) ≤ k ∧ k < 2 ^ 62 then (pure (wkR i (k - i).toNat) : PM Wk) else PM.stuck) st) = _
  rw [if_pos (by omega)]
  rfl
theorem min_L {i : Nat} {ρ : Ev} {st : PSt} {L : List P4} {q : Int} {f : P4 → Int × Int} (ρ1 : PV → Ev) (h4 : ρ[4]? = some (some (.r i 0))) (hi : st[i]? = some (.lst ((z4 :: L).map p4V))) (h1 : ∀ v, (cgNm 9) v (wipeE ρ [9]) = some (ρ1 v)) (hq : ∀ x : P4, e2 ixM (eVar 9) (eC (.int q)) (ρ1 (p4V x)) st = .ok (.p (p2V (f x))) st) (hl : L.length ≤ 1000) :
    e1 minM (eLc (iLsSM (eVar 4)) (cgNm 9) [9] tYesM (e2 ixM (eVar 9) (eC (.int q)))) ρ st = .ok (.p (p2V (min2 (f z4) (L.map f)))) st := by
  have z := lc_S (g := p4V) (f := fun x => p2V (f x)) (L := z4 :: L) (cg := cgNm 9) (vs := [9]) (e := e2 ixM (eVar 9) (eC (.int q))) (a := eVar 4) (st := st) (ρ := ρ) (i := i) (by simp only [sSeq, sNil, sExpr, sRet, sRetN, sIf, sAsg, sPar, sPar3, sRaise, gNm, gsNil, gsCons, gTp, gSubM, eVar, eC, e1, e2, aNil, aCons, eCallD, eTup, eLst, eLstM, newLst, eAnd, eOr, eNot, eIf, eChain, tVal, tTruth, tNotM, tAndM, tOrM, asB, truthM, eFrz, frz, pures, PM.guard, PM.stuck, le_ii, gt_ii, ge_ii, lt_ii, sub_ii, add_ii, toInt_i, retB_ok, pm_bind, pm_pure, ob_ok, ob_err, ts_ok, ts_err, then_nx, then_ret, then_err, then_ct, List.map_cons, List.map_nil, List.append_nil, List.nil_append, List.cons_append, List.length_cons, List.length_nil, List.replicate, Nat.sub_self, Nat.zero_add, List.getElem?_cons_zero, List.getElem?_cons_succ, List.set_cons_zero, List.set_cons_succ, if_true, if_false, Bool.false_eq_true, Bool.not_true, Bool.not_false, ite_true, ite_false, eq_self, reduceIte, Bool.true_eq_false, reduceCtorEq, h4]) hi ρ1 h1 (fun x _ => hq x) (limN' (by rw [List.length_cons]; omega))
  have m : (z4 :: L).map (fun x => p2V (f x)) = (f z4 :: L.map f).map p2V := by rw [List.map_cons, List.map_cons, List.map_map]; rfl
  rw [m] at z
  exact e1_ok z (min_ok _ _ _)
where limN' {n : Nat} (h : n ≤ 1001) : n ≤ lim := by show n ≤ 16777216; omega
theorem fold_app (F : Nat → P4) (L : List P4) (k : Nat) : L ++ (List.range (k + 1)).map F = (L ++ (List.range k).map F) ++ [F k] := by
  rw [List.range_succ, List.map_append, List.append_assoc]; rfl
theorem law_step {n : Nat} {W H : Int} {ks : List (List L2.Key)} {vs : List PV} (ok : t.Ok) (hj : j < base.length) (hW : 0 ≤ W ∧ W ≤ 12) (hH : 0 ≤ H ∧ H ≤ 12) (P : LawP t (n + 1) (W + H - 1)) (v : VaL t ks vs) :
    ∃ ks' vs', VaL t ks' vs' ∧ Grow (W + H) ks ks' ∧ callF (n + 2) 46 [.p t.pv, .r j 0, .p (.int W), .p (.int H)] (stD base j ks vs) = .ok (.p (p4V (lawE t W H))) (stD base j ks' vs') := by
  have key : Ret (callF (n + 2) 46 [.p t.pv, .r j 0, .p (.int W), .p (.int H)] (stD base j ks vs)) (fun q st => ∃ ks' vs', VaL t ks' vs' ∧ Grow (W + H) ks ks' ∧ q = .p (p4V (lawE t W H)) ∧ st = stD base j ks' vs') := by
    rw [cf46]
    refine defM_RetS rfl ?_
    have low := or_tt (tv_ok (e2_ok (a := eVar 2) (b := eC (.int 1)) (ρ := [PR.p t.pv, .r j 0, .p (.int W), .p (.int H)].map some ++ List.replicate (10 - [PR.p t.pv, .r j 0, .p (.int W), .p (.int H)].length) none) rfl rfl (lt_ii W 1 (stD base j ks vs)))) (tv_ok (e2_ok (a := eVar 3) (b := eC (.int 1)) (ρ := [PR.p t.pv, .r j 0, .p (.int W), .p (.int H)].map some ++ List.replicate (10 - [PR.p t.pv, .r j 0, .p (.int W), .p (.int H)].length) none) rfl rfl (lt_ii H 1 (stD base j ks vs))))
    by_cases z : W < 1 ∨ H < 1
    · have zz : (decide (W < 1) || decide (H < 1)) = true := by simpa using z
      rw [zz] at low
      have e : sSeq (sIf (tOrM (tVal (e2 ltM (eVar 2) (eC (.int 1)))) (tVal (e2 ltM (eVar 3) (eC (.int 1))))) (sSeq (sRet (eTup (aCons (eTup (aCons (eC (.int 0)) (aCons (eC (.int 0)) aNil))) (aCons (eTup (aCons (eC (.int 0)) (aCons (eC (.int 0)) aNil))) aNil)))) sNil) sNil) = sSeq (sIf (tOrM (tVal (e2 ltM (eVar 2) (eC (.int 1)))) (tVal (e2 ltM (eVar 3) (eC (.int 1))))) (sSeq (sRet (eTup (aCons (eTup (aCons (eC (.int 0)) (aCons (eC (.int 0)) aNil))) (aCons (eTup (aCons (eC (.int 0)) (aCons (eC (.int 0)) aNil))) aNil)))) sNil) sNil) := rfl
      rw [sq_ret (if_t low (sq_ret (re_ok (tp_ok (l := [p2V (0, 0), p2V (0, 0)]) (ac_ok (tp_ok (l := [.int 0, .int 0]) rfl lim2) (ac_ok (tp_ok (l := [.int 0, .int 0]) rfl lim2) rfl)) lim2))))]
      refine ⟨_, rfl, ks, vs, v, Grow.refl _ _, by rw [law_zero t z]; rfl, ?_⟩
      exact List.take_of_length_le (Nat.le_refl _)
    · rw [hi_dec (by omega) (by omega)] at low
      refine rs_nx (if_f low rfl) ?_
      have i := tv_ok (in_D (base := base) (j := j) (ks := ks) (vs := vs) (R := []) hj (md := eVar 1) (ka := aCons (eVar 2) (aCons (eVar 3) aNil)) (ρ := [PR.p t.pv, .r j 0, .p (.int W), .p (.int H)].map some ++ List.replicate (10 - [PR.p t.pv, .r j 0, .p (.int W), .p (.int H)].length) none) (W := W) (H := H) rfl rfl)
      rw [List.append_nil] at i
      by_cases hm : kyW W H ∈ ks
      · obtain ⟨u, hu⟩ := lk_in v.len hm
        have e := v.at_ W H u hu
        subst e
        rw [hu] at i
        refine rs_nx (if_f i rfl) ?_
        have x := ix_D (base := base) (j := j) (ks := ks) (vs := vs) (R := []) hj (md := eVar 1) (ka := aCons (eVar 2) (aCons (eVar 3) aNil)) (ρ := [PR.p t.pv, .r j 0, .p (.int W), .p (.int H)].map some ++ List.replicate (10 - [PR.p t.pv, .r j 0, .p (.int W), .p (.int H)].length) none) (W := W) (H := H) rfl rfl hu
        rw [List.append_nil] at x
        rw [sq_ret (re_ok x)]
        exact ⟨_, rfl, ks, vs, v, Grow.refl _ _, rfl, List.take_of_length_le (Nat.le_refl _)⟩
      · rw [lk_no hm] at i
        have l1 := ok.l1
        refine rs_seq (rs_ift i ?_)
        have x0 : eLstM (aCons (eTup (aCons (eTup (aCons (eC (.int 0)) (aCons (eC (.int 0)) aNil))) (aCons (eTup (aCons (eC (.int 0)) (aCons (eC (.int 0)) aNil))) aNil))) aNil) ([PR.p t.pv, .r j 0, .p (.int W), .p (.int H)].map some ++ List.replicate (10 - [PR.p t.pv, .r j 0, .p (.int W), .p (.int H)].length) none) (stD base j ks vs) = .ok (.r base.length 0) (stL base j ks vs [z4]) := by
          have y := lm_ok (l := [p4V z4]) (s := stD base j ks vs) (a := aCons (eTup (aCons (eTup (aCons (eC (.int 0)) (aCons (eC (.int 0)) aNil))) (aCons (eTup (aCons (eC (.int 0)) (aCons (eC (.int 0)) aNil))) aNil))) aNil) (ρ := [PR.p t.pv, .r j 0, .p (.int W), .p (.int H)].map some ++ List.replicate (10 - [PR.p t.pv, .r j 0, .p (.int W), .p (.int H)].length) none) (st := stD base j ks vs) (ac_ok (tp_ok (l := [p2V (0, 0), p2V (0, 0)]) (ac_ok (tp_ok (l := [.int 0, .int 0]) rfl lim2) (ac_ok (tp_ok (l := [.int 0, .int 0]) rfl lim2) rfl)) lim2) rfl) (limN (by simp))
          rw [len_D] at y
          exact y
        have x1 : sAsg (eLstM (aCons (eTup (aCons (eTup (aCons (eC (.int 0)) (aCons (eC (.int 0)) aNil))) (aCons (eTup (aCons (eC (.int 0)) (aCons (eC (.int 0)) aNil))) aNil))) aNil)) (gNm 4) ([PR.p t.pv, .r j 0, .p (.int W), .p (.int H)].map some ++ List.replicate (10 - [PR.p t.pv, .r j 0, .p (.int W), .p (.int H)].length) none) (stD base j ks vs) = .nx (E46 t j base.length W H none none none none none) (stL base j ks vs [z4]) := as_ok x0
        rw [sq_eq x1]
        have it1 : iTupM (e2 ixM (eVar 0) (eC (.int 1))) (E46 t j base.length W H none none none none none) (stL base j ks vs [z4]) = .ok (wkL (t.os.map Ord.pv)) (stL base j ks vs [z4]) := rfl
        refine rs_seq (rs_for it1 (fun k => (t.os.map Ord.pv).getD k .non) (wkL_at' _) (fun k ρ st => ∃ x5 x6 x7, ρ = E46 t j base.length W H x5 x6 x7 none none ∧ st = stL base j ks vs (z4 :: ordC (t.os.take k) W H)) ⟨none, none, none, rfl, rfl⟩ ?_ ?_)
        · rintro k ρ st hk ⟨x5, x6, x7, rfl, rfl⟩
          have hk : k < (t.os.map Ord.pv).length := hk
          rw [List.length_map] at hk
          have e0 : t.os[k]? = some t.os[k] := List.getElem?_eq_getElem hk
          have gd : (t.os.map Ord.pv).getD k .non = t.os[k].pv := by
            rw [List.getD_eq_getElem?_getD, List.getElem?_map, e0]; rfl
          have hmm : t.os[k] ∈ t.os := List.getElem_mem hk
          have ll := ordC_len (t.os.take k) W H
          have ll2 : (t.os.take k).length ≤ t.os.length := by rw [List.length_take]; exact Nat.min_le_right _ _
          rw [gd]
          refine ⟨E46 t j base.length W H (some (.p (.int t.os[k].w))) (some (.p (.int t.os[k].h))) (some (.p (.int t.os[k].p))) none none, _, rfl, ?_⟩
          have e := ord_t (t := t) (base := base) (j := j) (W := W) (H := H) (o := t.os[k]) (ks := ks) (vs := vs) (L := z4 :: ordC (t.os.take k) W H) (x8 := none) (x9 := none) ⟨ok.w _ hmm, ok.h _ hmm, ok.p _ hmm⟩ (by rw [List.length_cons]; omega)
          show RetS (ordT _ _) _ _
          rw [e]
          refine ⟨_, _, _, rfl, ?_⟩
          rw [ordC_succ e0]
          by_cases q : (t.os[k].w == W && t.os[k].h == H) = true
          · rw [if_pos q, if_pos q]; rfl
          · rw [if_neg q, if_neg q]
        rintro ρ st ⟨x5, x6, x7, rfl, rfl⟩
        have hn : (wkL (t.os.map Ord.pv)).n = t.os.length := by
          show (t.os.map Ord.pv).length = _
          rw [List.length_map]
        rw [hn, List.take_length]
        have lo := ordC_len t.os W H
        have P1 : LawP t (n + 1) (W + H - 1) := P
        refine rs_seq (rs_for (w := wkR 1 (W - 1).toNat) (rng2_ok rfl (by omega) (by omega)) (fun k => .int (1 + k)) (fun _ _ => wkR_at ..) (fun k ρ st => ∃ ks' vs' x8, VaL t ks' vs' ∧ Grow (W + H - 1) ks ks' ∧ ρ = E46 t j base.length W H x5 x6 x7 x8 none ∧ st = stL base j ks' vs' (z4 :: ordC t.os W H ++ (List.range k).map fun (k : Nat) => both (lawE t (1 + k) H) (lawE t (sec t W (1 + k)) H))) ⟨ks, vs, none, v, Grow.refl _ _, rfl, by rw [List.range_zero, List.map_nil, List.append_nil]⟩ ?_ ?_)
        · rintro k ρ st hk ⟨ks1, vs1, x8, v1, g1, rfl, rfl⟩
          have hk : k < (W - 1).toNat := hk
          refine ⟨E46 t j base.length W H x5 x6 x7 (some (.p (.int (1 + k)))) none, _, rfl, ?_⟩
          obtain ⟨ks2, vs2, v2, g2, e⟩ := acr_t (n := n) (k := k) (x5 := x5) (x6 := x6) (x7 := x7) (x9 := none) (L := z4 :: ordC t.os W H ++ (List.range k).map fun (k : Nat) => both (lawE t (1 + k) H) (lawE t (sec t W (1 + k)) H)) ok hj (by omega) (by omega) hk P v1 (by rw [List.length_append, List.length_cons, List.length_map, List.length_range]; omega)
          show RetS (acrT n _ _) _ _
          rw [e]
          exact ⟨ks2, vs2, _, v2, g1.trans g2, rfl, by rw [fold_app]⟩
        rintro ρ st ⟨ks1, vs1, x8, v1, g1, rfl, rfl⟩
        have hn2 : (wkR 1 (W - 1).toNat).n = (W - 1).toNat := rfl
        rw [hn2]
        refine rs_seq (rs_for (w := wkR 1 (H - 1).toNat) (rng2_ok rfl (by omega) (by omega)) (fun k => .int (1 + k)) (fun _ _ => wkR_at ..) (fun k ρ st => ∃ ks' vs' x8, VaL t ks' vs' ∧ Grow (W + H - 1) ks ks' ∧ ρ = E46 t j base.length W H x5 x6 x7 x8 none ∧ st = stL base j ks' vs' ((z4 :: ordC t.os W H ++ acP t (lawE t) W H) ++ (List.range k).map fun (k : Nat) => both (lawE t W (1 + k)) (lawE t W (sec t H (1 + k))))) ⟨ks1, vs1, x8, v1, g1, rfl, by rw [List.range_zero, List.map_nil, List.append_nil]; rfl⟩ ?_ ?_)
        · rintro k ρ st hk ⟨ks2, vs2, x8, v2, g2, rfl, rfl⟩
          have hk : k < (H - 1).toNat := hk
          refine ⟨E46 t j base.length W H x5 x6 x7 (some (.p (.int (1 + k)))) none, _, rfl, ?_⟩
          obtain ⟨ks3, vs3, v3, g3, e⟩ := dwn_t (n := n) (k := k) (x5 := x5) (x6 := x6) (x7 := x7) (x9 := none) (L := (z4 :: ordC t.os W H ++ acP t (lawE t) W H) ++ (List.range k).map fun (k : Nat) => both (lawE t W (1 + k)) (lawE t W (sec t H (1 + k)))) ok hj (by omega) (by omega) hk P v2 (by
            have : (acP t (lawE t) W H).length = (W - 1).toNat := by unfold acP; rw [List.length_map, List.length_range]
            rw [List.length_append, List.length_append, List.length_cons, List.length_map, List.length_range]; omega)
          show RetS (dwnT n _ _) _ _
          rw [e]
          exact ⟨ks3, vs3, _, v3, g2.trans g3, rfl, by rw [fold_app]⟩
        rintro ρ st ⟨ks2, vs2, x8, v2, g2, rfl, rfl⟩
        have hn3 : (wkR 1 (H - 1).toNat).n = (H - 1).toNat := rfl
        rw [hn3]
        have le : (z4 :: ordC t.os W H ++ acP t (lawE t) W H) ++ ((List.range (H - 1).toNat).map fun (k : Nat) => both (lawE t W (1 + k)) (lawE t W (sec t H (1 + k)))) = z4 :: lcs t (lawE t) W H := rfl
        rw [le]
        have ln : (lcs t (lawE t) W H).length ≤ 1000 := by
          unfold lcs acP dwP
          rw [List.length_append, List.length_append, List.length_map, List.length_range, List.length_map, List.length_range]
          omega
        have gt : (stL base j ks2 vs2 (z4 :: lcs t (lawE t) W H))[base.length]? = some (.lst ((z4 :: lcs t (lawE t) W H).map p4V)) := by
          have y := get_L (A := stD base j ks2 vs2) (l := (z4 :: lcs t (lawE t) W H).map p4V)
          rw [len_D] at y
          exact y
        have m1 := min_L (i := base.length) (ρ := E46 t j base.length W H x5 x6 x7 x8 none) (st := stL base j ks2 vs2 (z4 :: lcs t (lawE t) W H)) (L := lcs t (lawE t) W H) (q := 0) (f := (·.1)) (fun v => E46 t j base.length W H x5 x6 x7 x8 (some (.p v))) rfl gt (fun _ => rfl) (fun _ => e2_ok rfl rfl rfl) ln
        have m2 := min_L (i := base.length) (ρ := E46 t j base.length W H x5 x6 x7 x8 none) (st := stL base j ks2 vs2 (z4 :: lcs t (lawE t) W H)) (L := lcs t (lawE t) W H) (q := 1) (f := (·.2)) (fun v => E46 t j base.length W H x5 x6 x7 x8 (some (.p v))) rfl gt (fun _ => rfl) (fun _ => e2_ok rfl rfl rfl) ln
        have mv : eTup (aCons (e1 minM (eLc (iLsSM (eVar 4)) (cgNm 9) [9] tYesM (e2 ixM (eVar 9) (eC (.int 0))))) (aCons (e1 minM (eLc (iLsSM (eVar 4)) (cgNm 9) [9] tYesM (e2 ixM (eVar 9) (eC (.int 1))))) aNil)) (E46 t j base.length W H x5 x6 x7 x8 none) (stL base j ks2 vs2 (z4 :: lcs t (lawE t) W H)) = .ok (.p (p4V (lawE t W H))) (stL base j ks2 vs2 (z4 :: lcs t (lawE t) W H)) := by
          rw [law_eq ok (W := W) (H := H) (by omega) (by omega)]
          exact tp_ok (l := [p2V (mn4 (lcs t (lawE t) W H)).1, p2V (mn4 (lcs t (lawE t) W H)).2]) (ac_ok m1 (ac_ok m2 rfl)) lim2
        have nk := ky_in (W := W) (H := H) g2 hm (by omega)
        have v3 := v2.put (W := W) (H := H) (by omega) (by omega) nk
        have sm2 := v2.small
        refine rs_nx (set_in_D hj (md := eVar 1) (ka := aCons (eVar 2) (aCons (eVar 3) aNil)) mv rfl rfl (lk_no nk) (by omega)) ?_
        have hl : lkP (ks2 ++ [kyW W H]) (vs2 ++ [p4V (lawE t W H)]) (kyW W H) = some (p4V (lawE t W H)) := by
          rw [lk_app v2.len, lk_no nk]
          exact if_pos rfl
        have x := ix_D (base := base) (j := j) (ks := ks2 ++ [kyW W H]) (vs := vs2 ++ [p4V (lawE t W H)]) (R := [.lst ((z4 :: lcs t (lawE t) W H).map p4V)]) hj (md := eVar 1) (ka := aCons (eVar 2) (aCons (eVar 3) aNil)) (ρ := E46 t j base.length W H x5 x6 x7 x8 none) (W := W) (H := H) rfl rfl hl
        show RetS (sSeq (sRet (ixTM (eVar 1) (aCons (eVar 2) (aCons (eVar 3) aNil)))) sNil _ _) _ _
        rw [sq_ret (re_ok x)]
        refine ⟨_, rfl, _, _, v3, fun k hk => ?_, rfl, ?_⟩
        · rcases List.mem_append.mp hk with hk | hk
          · exact (g2.mono (by omega)) k hk
          · rw [List.mem_singleton.mp hk]
            exact .inr ⟨W, H, rfl, Int.le_refl _⟩
        · rw [len_D, ← len_D (base := base) (j := j) (ks := ks2 ++ [kyW W H]) (vs := vs2 ++ [p4V (lawE t W H)])]
          exact List.take_left'  rfl
  obtain ⟨q, st, e, ks', vs', v', g', rfl, rfl⟩ := key.eq
  exact ⟨ks', vs', v', g', e⟩
theorem law_best (ok : t.Ok) : ∀ n m : Nat, n + 2 ≤ m → LawP t m n := by
  intro n
  induction n with
  | zero =>
    intro m hm base j hj W H ks vs hW hH hn v
    obtain ⟨m, rfl⟩ : ∃ m', m = m' + 2 := ⟨m - 2, by omega⟩
    exact law_step ok hj hW hH (fun base j hj w u ks vs h1 h2 h3 h4 => absurd h3 (by omega)) v
  | succ n ih =>
    intro m hm base j hj W H ks vs hW hH hn v
    obtain ⟨m, rfl⟩ : ∃ m', m = m' + 2 := ⟨m - 2, by omega⟩
    exact law_step ok hj hW hH (fun base j hj w u ks vs h1 h2 h3 h4 => ih (m + 1) (by omega) base j hj w u ks vs h1 h2 (by omega) h4) v
end
end K00
namespace K00
open PySem Vs
/-! price tables -/
def rowT (row : List Int) : PV := .tup (row.map .int)
def tbV (tab : List (List Int)) : PV := .tup (tab.map rowT)
def priceR (t : Told) (W : Int) (d : Int) : List Int := (List.range W.toNat).map fun (k : Nat) => 0 - (bestE t false (1 + k) d).1.1
def priceL (t : Told) (W H : Int) : List (List Int) := (List.range H.toNat).map fun (k : Nat) => priceR t W (1 + k)
theorem tt_L {A : PSt} {l : List PV} : toTupM (.r A.length 0) (A ++ [.lst l]) = .ok (.p (.tup l)) (A ++ [.lst l]) := by
  simp only [toTupM, seqL, addM.itemsL, pm_bind, get_L, ob_ok, pm_pure]
section
variable {t : Told}
abbrev E30p (t : Told) (i : Nat) (W H : Int) (x5 x6 : Option PR) : Ev := [some (.p t.obj), some (.p (.int W)), some (.p (.int H)), some (.r i 0), some (.r (i + 1) 0), x5, x6]
theorem row_lc {m : Nat} {W H d : Int} {st : PSt} {L : List PV} {x6 : Option PR} {ks : List (List L2.Key)} {vs : List PV} (ok : t.Ok) (hm : 51 ≤ m) (hW : 1 ≤ W ∧ W ≤ 12) (hd : 1 ≤ d ∧ d ≤ 12) (v : Val t false ks vs) :
    ∃ ks' vs', Val t false ks' vs' ∧ eLc (iRng2M (aCons (eC (.int 1)) (aCons (e2 addM (eVar 1) (eC (.int 1))) aNil))) (cgNm 6) [6] tYesM (e2 subM (eC (.int 0)) (e2 ixM (e2 ixM (methM 1 "best" (callF m 22) (eVar 3) (aCons (eVar 6) (aCons (eVar 5) aNil)) []) (eC (.int 0))) (eC (.int 0)))) (E30p t st.length W H (some (.p (.int d))) x6) (st ++ wobj t false ks vs :: [.lst L]) = .ok (.p (.lst ((priceR t W d).map .int))) (st ++ wobj t false ks' vs' :: [.lst L]) := by
  have hj : st.length < (st ++ PObj.dead :: [PObj.lst L]).length := by simp
  have z := lc_inv (i := 1) (j := W + 1) (cg := cgNm 6) (vs := [6]) (e := e2 subM (eC (.int 0)) (e2 ixM (e2 ixM (methM 1 "best" (callF m 22) (eVar 3) (aCons (eVar 6) (aCons (eVar 5) aNil)) []) (eC (.int 0))) (eC (.int 0)))) (a := aCons (eC (.int 1)) (aCons (e2 addM (eVar 1) (eC (.int 1))) aNil)) (st := st ++ wobj t false ks vs :: [.lst L]) (ρ := E30p t st.length W H (some (.p (.int d))) x6) (f := fun k => .int (0 - (bestE t false (1 + k) d).1.1)) (fun s => ∃ ks' vs', Val t false ks' vs' ∧ s = st ++ wobj t false ks' vs' :: [.lst L]) (ac_ok rfl (ac_ok (add_lit rfl rfl) rfl)) (by omega) (by omega) ⟨ks, vs, v, rfl⟩ (fun v => E30p t st.length W H (some (.p (.int d))) (some (.p v))) (fun _ => rfl)
    (fun k hk s ⟨ks1, vs1, v1, es⟩ => by
      subst es
      obtain ⟨ks2, vs2, v2, _, c⟩ := best_ok (t := t) (b := false) (base := st ++ .dead :: [.lst L]) (j := st.length) ok hj 24 m hm (1 + k) d ks1 vs1 (by omega) (by omega) (by omega) v1
      have ob := o_best (t := t) (b := false) (base := st ++ .dead :: [.lst L]) (j := st.length) (ks := ks1) (vs := vs1) hj
      rw [app_W] at c ob
      rw [app_W] at c
      exact ⟨_, ⟨ks2, vs2, v2, rfl⟩, sub_lit rfl (e2_ok (e2_ok (me_ok rfl ob rfl c) rfl rfl) rfl rfl)⟩)
  obtain ⟨s', ⟨ks', vs', v', rfl⟩, e⟩ := z
  refine ⟨ks', vs', v', ?_⟩
  rw [e]
  have hn : (W + 1 - 1).toNat = W.toNat := by omega
  rw [hn]
  unfold priceR
  rw [List.map_map]
  rfl
theorem w30 {n : Nat} {W H : Int} {st : PSt} (ok : t.Ok) (hn : 51 ≤ n) (hW : 1 ≤ W ∧ W ≤ 12) (hH : 1 ≤ H ∧ H ≤ 12) : callF (n + 2) 30 [.p t.obj, .p (.int W), .p (.int H)] st = .ok (.p (tbV (priceL t W H))) st := by
  have key : Ret (callF (n + 2) 30 [.p t.obj, .p (.int W), .p (.int H)] st) (fun q s => q = .p (tbV (priceL t W H)) ∧ s = st) := by
    rw [cf30]
    refine defM_RetS rfl ?_
    obtain ⟨m, rfl⟩ : ∃ m, n = m + 3 := ⟨n - 3, by omega⟩
    refine rs_nx (ex_ok (cl_ok rfl (e10ok (n := m) hW hH st))) ?_
    have x1 : sAsg (mkM 1 (callF (m + 4) 20) (aCons (eVar 0) (aCons (eC (.bl false)) aNil)) []) (gNm 3) ([PR.p t.obj, .p (.int W), .p (.int H)].map some ++ List.replicate (7 - [PR.p t.obj, .p (.int W), .p (.int H)].length) none) st = .nx [some (.p t.obj), some (.p (.int W)), some (.p (.int H)), some (.r st.length 0), none, none, none] (st ++ [wobj t false [] []]) := as_ok (mk_W (n := m + 3) rfl)
    rw [sq_eq x1]
    have x2 : sAsg (eLstM aNil) (gNm 4) [some (.p t.obj), some (.p (.int W)), some (.p (.int H)), some (.r st.length 0), none, none, none] (st ++ [wobj t false [] []]) = .nx (E30p t st.length W H none none) (st ++ wobj t false [] [] :: [.lst []]) := by
      have y := lm_ok (l := []) (s := st ++ [wobj t false [] []]) (a := aNil) (ρ := [some (.p t.obj), some (.p (.int W)), some (.p (.int H)), some (.r st.length 0), none, none, none]) (st := st ++ [wobj t false [] []]) rfl (Nat.zero_le _)
      have h : (st ++ [wobj t false [] []]).length = st.length + 1 := by simp
      rw [h, List.append_assoc] at y
      exact as_ok y
    rw [sq_eq x2]
    refine rs_seq (rs_for (w := wkR 1 H.toNat) (by
      have y := rng2_ok (a := aCons (eC (.int 1)) (aCons (e2 addM (eVar 2) (eC (.int 1))) aNil)) (ρ := E30p t st.length W H none none) (st := st ++ wobj t false [] [] :: [.lst []]) (i := 1) (k := H + 1) (ac_ok rfl (ac_ok (add_lit rfl rfl) rfl)) (by omega) (by omega)
      have hn : (H + 1 - 1).toNat = H.toNat := by omega
      rw [hn] at y
      exact y) (fun k => .int (1 + k)) (fun _ _ => wkR_at ..) (fun k ρ s => ∃ ks vs x5 x6, Val t false ks vs ∧ ρ = E30p t st.length W H x5 x6 ∧ s = st ++ wobj t false ks vs :: [.lst (((List.range k).map fun (k : Nat) => priceR t W (1 + k)).map rowT)]) ⟨[], [], none, none, Val.nil t false, rfl, rfl⟩ ?_ ?_)
    · rintro k ρ s hk ⟨ks, vs, x5, x6, v, rfl, rfl⟩
      have hk : k < H.toNat := hk
      refine ⟨E30p t st.length W H (some (.p (.int (1 + k)))) x6, _, rfl, ?_⟩
      obtain ⟨ks1, vs1, v1, e⟩ := row_lc (m := m + 4) (H := H) (d := 1 + k) (st := st) (L := ((List.range k).map fun (k : Nat) => priceR t W (1 + k)).map rowT) (x6 := x6) ok (by omega) hW (by omega) v
      have l1 := lr_L (A := st ++ [wobj t false ks vs]) (l := ((List.range k).map fun (k : Nat) => priceR t W (1 + k)).map rowT)
      have a1 := ap_L (A := st ++ [wobj t false ks1 vs1]) (l := ((List.range k).map fun (k : Nat) => priceR t W (1 + k)).map rowT) (v := rowT (priceR t W (1 + k))) (by rw [List.length_map, List.length_map, List.length_range]; omega)
      have h1 : (st ++ [wobj t false ks vs]).length = st.length + 1 := by simp
      have h2 : (st ++ [wobj t false ks1 vs1]).length = st.length + 1 := by simp
      rw [h1, List.append_assoc] at l1
      rw [h2, List.append_assoc, List.append_assoc] at a1
      have q : sExpr (eAppend (eVar 4) (e1 toTupM (eLc (iRng2M (aCons (eC (.int 1)) (aCons (e2 addM (eVar 1) (eC (.int 1))) aNil))) (cgNm 6) [6] tYesM (e2 subM (eC (.int 0)) (e2 ixM (e2 ixM (methM 1 "best" (callF (m + 4) 22) (eVar 3) (aCons (eVar 6) (aCons (eVar 5) aNil)) []) (eC (.int 0))) (eC (.int 0))))))) (E30p t st.length W H (some (.p (.int (1 + k)))) x6) (st ++ wobj t false ks vs :: [.lst (((List.range k).map fun (k : Nat) => priceR t W (1 + k)).map rowT)]) = .nx (E30p t st.length W H (some (.p (.int (1 + k)))) x6) (st ++ wobj t false ks1 vs1 :: [.lst (((List.range k).map fun (k : Nat) => priceR t W (1 + k)).map rowT ++ [rowT (priceR t W (1 + k))])]) :=
        ex_ok (ea_st (x := .r (st.length + 1) 0) rfl l1 (e1_ok e rfl) a1)
      refine rs_nx q ?_
      exact ⟨ks1, vs1, _, _, v1, rfl, by rw [List.range_succ, List.map_append, List.map_append]; rfl⟩
    · rintro ρ s ⟨ks, vs, x5, x6, v, rfl, rfl⟩
      have hn : (wkR 1 H.toNat).n = H.toNat := rfl
      rw [hn]
      have y := tt_L (A := st ++ [wobj t false ks vs]) (l := ((List.range H.toNat).map fun (k : Nat) => priceR t W (1 + k)).map rowT)
      have h1 : (st ++ [wobj t false ks vs]).length = st.length + 1 := by simp
      rw [h1, List.append_assoc] at y
      show RetS (sSeq (sRet (e1 toTupM (eVar 4))) sNil _ _) _ _
      rw [sq_ret (re_ok (e1_ok (r := .r (st.length + 1) 0) rfl y))]
      exact ⟨_, rfl, rfl, List.take_left' rfl⟩
  obtain ⟨q, s, e, rfl, rfl⟩ := key.eq
  exact e
end
end K00
namespace K00
open PySem Vs
/-! tables asked -/
theorem lc_genT {α : Type} {g f : α → PV} {L : List α} {cg : CG} {vs : List Nat} {e a : EM} {st : PSt} {ρ : Ev} (ha : a ρ st = .ok (.p (.tup (L.map g))) st) (ρ1 : PV → Ev) (h1 : ∀ v, cg v (wipeE ρ vs) = some (ρ1 v)) (h3 : ∀ x ∈ L, e (ρ1 (g x)) st = .ok (.p (f x)) st) (hl : L.length ≤ lim) : eLc (iTupM a) cg vs tYesM e ρ st = .ok (.p (.lst (L.map f))) st := by
  have z := lc_tup (e := e) (t := tYesM) (cg := cg) (vs := vs) ha ρ1 (fun _ => true) (fun v => match e (ρ1 v) st with | .ok (.p w) _ => w | _ => .non) (fun v _ => h1 v) (fun v _ => rfl) (fun v hv _ => by
    obtain ⟨x, hx, rfl⟩ := List.mem_map.mp hv
    rw [h3 x hx]) (by rw [List.length_map]; exact hl)
  have q : ((L.map g).filter fun _ => true) = L.map g := List.filter_eq_self.mpr fun _ _ => rfl
  rw [z, q, List.map_map]
  have w : L.map ((fun v => match e (ρ1 v) st with | .ok (.p w) _ => w | _ => .non) ∘ g) = L.map f := List.map_congr_left fun x hx => by
    show (match e (ρ1 (g x)) st with | .ok (.p w) _ => w | _ => .non) = f x
    rw [h3 x hx]
  rw [w]
/-- a walk that may be left with a value -/
theorem for_find {im : IM} {g : GM} {body : SM} {ρ : Ev} {st : PSt} {w : Wk} {r : PR} (hi : im ρ st = .ok w st) (good : Nat → Bool) (I : Nat → Ev → Prop) (h0 : I 0 ρ)
    (hs : ∀ k ρ, k < w.n → I k ρ → ∃ v ρ1, w.at_ k st = .item v ∧ g (.p v) ρ st = .ok ρ1 st ∧ (good k = true → ∃ ρ2, body ρ1 st = .nx ρ2 st ∧ I (k + 1) ρ2) ∧ (good k = false → body ρ1 st = .ret r st)) (hd : w.at_ w.n st = .stop) :
    ((List.range w.n).all good = true → ∃ ρ', I w.n ρ' ∧ sFor im g body ρ st = .nx ρ' st) ∧ ((List.range w.n).all good = false → sFor im g body ρ st = .ret r st) := by
  have key : ∀ m k ρ, k + m = w.n → I k ρ → (((List.range w.n).drop k).all good = true → ∃ ρ', I w.n ρ' ∧ Vs.forM w.at_ g body m k ρ st = .nx ρ' st) ∧ (((List.range w.n).drop k).all good = false → Vs.forM w.at_ g body m k ρ st = .ret r st) := by
    intro m
    induction m with
    | zero =>
      intro k ρ e h
      have : k = w.n := by omega
      subst this
      refine ⟨fun _ => ⟨ρ, h, ?_⟩, fun z => ?_⟩
      · unfold Vs.forM
        rw [hd]
      · rw [List.drop_eq_nil_of_le (by rw [List.length_range]; exact Nat.le_refl _)] at z
        cases z
    | succ m ih =>
      intro k ρ e h
      have hk : k < w.n := by omega
      have hl : k < (List.range w.n).length := by rw [List.length_range]; exact hk
      have dr : (List.range w.n).drop k = k :: (List.range w.n).drop (k + 1) := by
        rw [List.drop_eq_getElem_cons hl, List.getElem_range]
      obtain ⟨v, ρ1, a1, a2, a3, a4⟩ := hs k ρ hk h
      rw [dr, List.all_cons]
      cases hg : good k with
      | false =>
        refine ⟨fun z => (by rw [Bool.false_and] at z; cases z), fun _ => ?_⟩
        unfold Vs.forM
        rw [a1]
        dsimp only
        rw [a2, ts_ok, a4 hg]
      | true =>
        obtain ⟨ρ2, b1, b2⟩ := a3 hg
        obtain ⟨c1, c2⟩ := ih (k + 1) ρ2 (by omega) b2
        rw [Bool.true_and]
        refine ⟨fun z => ?_, fun z => ?_⟩
        · obtain ⟨ρ', d1, d2⟩ := c1 z
          refine ⟨ρ', d1, ?_⟩
          unfold Vs.forM
          rw [a1]
          dsimp only
          rw [a2, ts_ok, b1]
          exact d2
        · unfold Vs.forM
          rw [a1]
          dsimp only
          rw [a2, ts_ok, b1]
          exact c2 z
  obtain ⟨c1, c2⟩ := key w.n 0 ρ (by omega) h0
  rw [List.drop_zero] at c1 c2
  refine ⟨fun z => ?_, fun z => ?_⟩
  · obtain ⟨ρ', d1, d2⟩ := c1 z
    refine ⟨ρ', d1, ?_⟩
    show ((im ρ st).toS _) = _
    rw [hi]
    exact d2
  · show ((im ρ st).toS _) = _
    rw [hi]
    exact c2 z
def atT (tab : List (List Int)) (w h : Int) : Int := if w < 1 ∨ h < 1 then 0 else (tab.getD (h - 1).toNat []).getD (w - 1).toNat 0
structure Tab (W H : Int) (tab : List (List Int)) : Prop where
  len : (tab.length : Int) = H
  row : ∀ r ∈ tab, (r.length : Int) = W
  nn : ∀ r ∈ tab, ∀ x ∈ r, 0 ≤ x
theorem ix_at {l : List PV} {i : Int} (h0 : 0 ≤ i) (h1 : i < l.length) (st : PSt) : ixM (.p (.tup l)) (.p (.int i)) st = .ok (.p (l.getD i.toNat .non)) st := by
  have lt : i.toNat < l.length := by omega
  have e : L2.ixN l.length i = some i.toNat := by
    unfold L2.ixN
    rw [if_pos h0, if_pos h1]
  show (match (L2.ixN l.length i).bind (fun j => l[j]?) with | some v => Out.ok (PR.p v) st | none => .stuck) = _
  rw [e]
  show (match l[i.toNat]? with | some v => Out.ok (PR.p v) st | none => .stuck) = _
  rw [List.getElem?_eq_getElem lt, List.getD_eq_getElem?_getD, List.getElem?_eq_getElem lt]
  rfl
theorem getD_map {α β : Type} (f : α → β) (l : List α) (k : Nat) (d : α) (e : β) (h : k < l.length) : (l.map f).getD k e = f (l.getD k d) := by
  rw [List.getD_eq_getElem?_getD, List.getD_eq_getElem?_getD, List.getElem?_map, List.getElem?_eq_getElem h]; rfl
theorem two_ix {W H w h : Int} {tab : List (List Int)} (T : Tab W H tab) (hw : 1 ≤ w ∧ w ≤ W) (hh : 1 ≤ h ∧ h ≤ H) {A B C : EM} {ρ : Ev} {st : PSt} (hA : A ρ st = .ok (.p (tbV tab)) st) (hB : B ρ st = .ok (.p (.int (h - 1))) st) (hC : C ρ st = .ok (.p (.int (w - 1))) st) :
    e2 ixM (e2 ixM A B) C ρ st = .ok (.p (.int (atT tab w h))) st := by
  have l1 := T.len
  have k1 : (h - 1).toNat < tab.length := by omega
  have i1 := ix_at (l := tab.map rowT) (i := h - 1) (by omega) (by rw [List.length_map]; omega) st
  rw [getD_map rowT tab (h - 1).toNat [] .non k1] at i1
  have hr : tab.getD (h - 1).toNat [] ∈ tab := by
    rw [List.getD_eq_getElem?_getD, List.getElem?_eq_getElem k1]; exact List.getElem_mem k1
  have l2 := T.row _ hr
  have k2 : (w - 1).toNat < (tab.getD (h - 1).toNat []).length := by omega
  have i2 := ix_at (l := (tab.getD (h - 1).toNat []).map .int) (i := w - 1) (by omega) (by rw [List.length_map]; omega) st
  rw [getD_map PV.int _ (w - 1).toNat 0 .non k2] at i2
  have e : atT tab w h = (tab.getD (h - 1).toNat []).getD (w - 1).toNat 0 := by
    unfold atT
    rw [if_neg (by omega)]
  rw [e]
  exact e2_ok (e2_ok hA hB i1) hC i2
theorem e31 {n : Nat} {W H w h : Int} {tab : List (List Int)} (T : Tab W H tab) (hw : 0 ≤ w ∧ w ≤ W) (hh : 0 ≤ h ∧ h ≤ H) (st : PSt) : callF (n + 1) 31 [.p (tbV tab), .p (.int w), .p (.int h)] st = .ok (.p (.int (atT tab w h))) st := by
  rw [cf31]
  have t3 := or_tt (tv_ok (e2_ok (a := eVar 1) (b := eC (.int 0)) (ρ := [some (.p (tbV tab)), some (.p (.int w)), some (.p (.int h))]) rfl rfl (eq_int w 0 st))) (tv_ok (e2_ok (a := eVar 2) (b := eC (.int 0)) (ρ := [some (.p (tbV tab)), some (.p (.int w)), some (.p (.int h))]) rfl rfl (eq_int h 0 st)))
  by_cases z : w = 0 ∨ h = 0
  · have q : (w == 0 || h == 0) = true := by simpa using z
    rw [q] at t3
    have e : atT tab w h = 0 := by
      unfold atT
      rw [if_pos (by omega)]
    rw [e]
    exact defM_ret rfl (sq_ret (if_t t3 (sq_ret rfl)))
  · have q : (w == 0 || h == 0) = false := by
      rw [Bool.or_eq_false_iff]
      constructor
      · simp; omega
      · simp; omega
    rw [q] at t3
    exact defM_ret rfl (sq_nx (if_f t3 rfl) (sq_ret (re_ok (two_ix T (by omega) (by omega) rfl (sub_lit rfl rfl) (sub_lit rfl rfl)))))
theorem e48 {n : Nat} {W H w h : Int} {tab : List (List Int)} (T : Tab W H tab) (hw : 0 ≤ w ∧ w ≤ W) (hh : 0 ≤ h ∧ h ≤ H) (st : PSt) : callF (n + 1) 48 [.p (tbV tab), .p (.int w), .p (.int h)] st = .ok (.p (.int (atT tab w h))) st := by
  rw [cf48]
  have t3 := or_tt (tv_ok (e2_ok (a := eVar 1) (b := eC (.int 1)) (ρ := [some (.p (tbV tab)), some (.p (.int w)), some (.p (.int h))]) rfl rfl (lt_ii w 1 st))) (tv_ok (e2_ok (a := eVar 2) (b := eC (.int 1)) (ρ := [some (.p (tbV tab)), some (.p (.int w)), some (.p (.int h))]) rfl rfl (lt_ii h 1 st)))
  by_cases z : w < 1 ∨ h < 1
  · have q : (decide (w < 1) || decide (h < 1)) = true := by simpa using z
    rw [q] at t3
    have e : atT tab w h = 0 := by
      unfold atT
      rw [if_pos z]
    rw [e]
    exact defM_ret rfl (sq_ret (re_ok (ei_t t3 rfl)))
  · rw [hi_dec (by omega) (by omega)] at t3
    exact defM_ret rfl (sq_ret (re_ok (ei_f t3 (two_ix T (by omega) (by omega) rfl (sub_lit rfl rfl) (sub_lit rfl rfl)))))
theorem tat_nn {W H w h : Int} {tab : List (List Int)} (T : Tab W H tab) (hw : 0 ≤ w ∧ w ≤ W) (hh : 0 ≤ h ∧ h ≤ H) : 0 ≤ atT tab w h := by
  unfold atT
  by_cases z : w < 1 ∨ h < 1
  · rw [if_pos z]; exact Int.le_refl _
  · rw [if_neg z]
    have l1 := T.len
    have k1 : (h - 1).toNat < tab.length := by omega
    have hr : tab.getD (h - 1).toNat [] ∈ tab := by
      rw [List.getD_eq_getElem?_getD, List.getElem?_eq_getElem k1]; exact List.getElem_mem k1
    have l2 := T.row _ hr
    have k2 : (w - 1).toNat < (tab.getD (h - 1).toNat []).length := by omega
    refine T.nn _ hr _ ?_
    generalize tab.getD (h - 1).toNat [] = r at k2
    rw [List.getD_eq_getElem?_getD, List.getElem?_eq_getElem k2]
    exact List.getElem_mem k2
/-! closed at a piece -/
def acrG (t : Told) (tab : List (List Int)) (w h : Int) (k : Nat) : Bool := decide (atT tab (1 + k) h + atT tab (sec t w (1 + k)) h ≤ atT tab w h)
def dwnG (t : Told) (tab : List (List Int)) (w h : Int) (k : Nat) : Bool := decide (atT tab w (1 + k) + atT tab w (sec t h (1 + k)) ≤ atT tab w h)
def clAt (t : Told) (tab : List (List Int)) (w h : Int) : Bool := (List.range (w - 1).toNat).all (acrG t tab w h) && (List.range (h - 1).toNat).all (dwnG t tab w h)
theorem parts_w {t : Told} {W : Int} {k : Nat} (hk : k < (W - 1).toNat) (st : PSt) : (wkL (partsV t W)).at_ k st = .item (partV t W k) := by
  rw [wkL_at', if_pos (show k < (wkL (partsV t W)).n by show k < (partsV t W).length; rw [parts_len]; exact hk), parts_at hk]
theorem parts_end {t : Told} {W : Int} (st : PSt) : (wkL (partsV t W)).at_ (wkL (partsV t W)).n st = .stop := by
  rw [wkL_at', if_neg (Nat.lt_irrefl _)]
abbrev E33t (t : Told) (tab : List (List Int)) (w h : Int) (x5 x6 x7 : Option PR) : Ev := [some (.p t.obj), some (.p (tbV tab)), some (.p (.int w)), some (.p (.int h)), some (.p (.int (atT tab w h))), x5, x6, x7]
theorem not_le_lt (a b : Int) : decide (b < a) = !decide (a ≤ b) := by
  by_cases h : a ≤ b
  · rw [decide_eq_true h, decide_eq_false (by omega)]; rfl
  · rw [decide_eq_false h, decide_eq_true (by omega)]; rfl
theorem tst_a {n k : Nat} {t : Told} {W H w h : Int} {tab : List (List Int)} {x5 : Option PR} (ok : t.Ok) (T : Tab W H tab) (hw : 1 ≤ w ∧ w ≤ W) (hh : 1 ≤ h ∧ h ≤ H) (hk : k < (w - 1).toNat) (st : PSt) : tVal (e2 gtM (e2 addM (eCallD (callF (n + 1) 31) (aCons (eVar 1) (aCons (eVar 6) (aCons (eVar 3) aNil))) []) (eCallD (callF (n + 1) 31) (aCons (eVar 1) (aCons (eVar 7) (aCons (eVar 3) aNil))) [])) (eVar 4)) (E33t t tab w h x5 (some (.p (.int (1 + k)))) (some (.p (.int (sec t w (1 + k)))))) st = .ok (!acrG t tab w h k) st := by
  have s0 := sec_nn t w (1 + k)
  have s1 := sec_lt ok (n := w) (k := 1 + k) (by omega) (by omega)
  have c1 : eCallD (callF (n + 1) 31) (aCons (eVar 1) (aCons (eVar 6) (aCons (eVar 3) aNil))) [] (E33t t tab w h x5 (some (.p (.int (1 + k)))) (some (.p (.int (sec t w (1 + k)))))) st = .ok (.p (.int (atT tab (1 + k) h))) st := cl_ok rfl (e31 (n := n) (w := 1 + k) (h := h) T (by omega) (by omega) st)
  have c2 : eCallD (callF (n + 1) 31) (aCons (eVar 1) (aCons (eVar 7) (aCons (eVar 3) aNil))) [] (E33t t tab w h x5 (some (.p (.int (1 + k)))) (some (.p (.int (sec t w (1 + k)))))) st = .ok (.p (.int (atT tab (sec t w (1 + k)) h))) st := cl_ok rfl (e31 (n := n) (w := sec t w (1 + k)) (h := h) T (by omega) (by omega) st)
  unfold acrG
  rw [← not_le_lt]
  exact tv_ok (e2_ok (add_lit c1 c2) rfl (gt_ii ..))
theorem tst_d {n k : Nat} {t : Told} {W H w h : Int} {tab : List (List Int)} {x5 : Option PR} (ok : t.Ok) (T : Tab W H tab) (hw : 1 ≤ w ∧ w ≤ W) (hh : 1 ≤ h ∧ h ≤ H) (hk : k < (h - 1).toNat) (st : PSt) : tVal (e2 gtM (e2 addM (eCallD (callF (n + 1) 31) (aCons (eVar 1) (aCons (eVar 2) (aCons (eVar 6) aNil))) []) (eCallD (callF (n + 1) 31) (aCons (eVar 1) (aCons (eVar 2) (aCons (eVar 7) aNil))) [])) (eVar 4)) (E33t t tab w h x5 (some (.p (.int (1 + k)))) (some (.p (.int (sec t h (1 + k)))))) st = .ok (!dwnG t tab w h k) st := by
  have s0 := sec_nn t h (1 + k)
  have s1 := sec_lt ok (n := h) (k := 1 + k) (by omega) (by omega)
  have c1 : eCallD (callF (n + 1) 31) (aCons (eVar 1) (aCons (eVar 2) (aCons (eVar 6) aNil))) [] (E33t t tab w h x5 (some (.p (.int (1 + k)))) (some (.p (.int (sec t h (1 + k)))))) st = .ok (.p (.int (atT tab w (1 + k)))) st := cl_ok rfl (e31 (n := n) (w := w) (h := 1 + k) T (by omega) (by omega) st)
  have c2 : eCallD (callF (n + 1) 31) (aCons (eVar 1) (aCons (eVar 2) (aCons (eVar 7) aNil))) [] (E33t t tab w h x5 (some (.p (.int (1 + k)))) (some (.p (.int (sec t h (1 + k)))))) st = .ok (.p (.int (atT tab w (sec t h (1 + k))))) st := cl_ok rfl (e31 (n := n) (w := w) (h := sec t h (1 + k)) T (by omega) (by omega) st)
  unfold dwnG
  rw [← not_le_lt]
  exact tv_ok (e2_ok (add_lit c1 c2) rfl (gt_ii ..))
theorem e33 {n : Nat} {t : Told} {W H w h : Int} {tab : List (List Int)} (ok : t.Ok) (T : Tab W H tab) (hW : W ≤ 12) (hH : H ≤ 12) (hw : 1 ≤ w ∧ w ≤ W) (hh : 1 ≤ h ∧ h ≤ H) (st : PSt) : callF (n + 2) 33 [.p t.obj, .p (tbV tab), .p (.int w), .p (.int h)] st = .ok (.p (.bl (clAt t tab w h))) st := by
  rw [cf33]
  have a0 : sAsg (eCallD (callF (n + 1) 31) (aCons (eVar 1) (aCons (eVar 2) (aCons (eVar 3) aNil))) []) (gNm 4) ([PR.p t.obj, .p (tbV tab), .p (.int w), .p (.int h)].map some ++ List.replicate (8 - [PR.p t.obj, .p (tbV tab), .p (.int w), .p (.int h)].length) none) st = .nx [some (.p t.obj), some (.p (tbV tab)), some (.p (.int w)), some (.p (.int h)), some (.p (.int (atT tab w h))), none, none, none] st := as_ok (cl_ok rfl (e31 T (by omega) (by omega) st))
  refine defM_ret rfl ?_
  refine (sq_eq a0).trans ?_
  have f1 := for_find (im := iLstM (methM 0 "parts" (callF (n + 1) 8) (eVar 0) (aCons (eVar 2) aNil) [])) (g := gTp 3 (gsCons (gNm 5) (gsCons (gNm 6) (gsCons (gNm 7) gsNil)))) (body := sSeq (sIf (tVal (e2 gtM (e2 addM (eCallD (callF (n + 1) 31) (aCons (eVar 1) (aCons (eVar 6) (aCons (eVar 3) aNil))) []) (eCallD (callF (n + 1) 31) (aCons (eVar 1) (aCons (eVar 7) (aCons (eVar 3) aNil))) [])) (eVar 4))) (sSeq (sRet (eC (.bl false))) sNil) sNil) sNil) (ρ := [some (.p t.obj), some (.p (tbV tab)), some (.p (.int w)), some (.p (.int h)), some (.p (.int (atT tab w h))), none, none, none]) (st := st) (r := .p (.bl false)) (parts_it (t := t) (W := w) (by omega) rfl rfl) (acrG t tab w h) (fun _ ρ => ∃ x5 x6 x7, ρ = [some (.p t.obj), some (.p (tbV tab)), some (.p (.int w)), some (.p (.int h)), some (.p (.int (atT tab w h))), x5, x6, x7]) ⟨none, none, none, rfl⟩ (by
    rintro k ρ hk ⟨x5, x6, x7, rfl⟩
    have hk : k < (partsV t w).length := hk
    rw [parts_len] at hk
    have s0 := sec_nn t w (1 + k)
    have s1 := sec_lt ok (n := w) (k := 1 + k) (by omega) (by omega)
    refine ⟨partV t w k, [some (.p t.obj), some (.p (tbV tab)), some (.p (.int w)), some (.p (.int h)), some (.p (.int (atT tab w h))), some (.p (.int (1 + k))), some (.p (.int (1 + k))), some (.p (.int (sec t w (1 + k))))], parts_w hk st, rfl, ?_, ?_⟩
    · intro hg
      have tt := tst_a (n := n) (x5 := some (.p (.int (1 + k)))) ok T hw hh hk st
      rw [hg] at tt
      exact ⟨_, sq_nx (if_f tt rfl) rfl, _, _, _, rfl⟩
    · intro hg
      have tt := tst_a (n := n) (x5 := some (.p (.int (1 + k)))) ok T hw hh hk st
      rw [hg] at tt
      exact sq_ret (if_t tt (sq_ret rfl))) (parts_end st)
  have hn1 : (wkL (partsV t w)).n = (w - 1).toNat := parts_len
  rw [hn1] at f1
  unfold clAt
  cases g1 : (List.range (w - 1).toNat).all (acrG t tab w h) with
  | false =>
    rw [Bool.false_and]
    exact sq_ret (f1.2 g1)
  | true =>
    obtain ⟨ρ', ⟨x5, x6, x7, rfl⟩, e1⟩ := f1.1 g1
    rw [Bool.true_and]
    refine sq_nx e1 ?_
    have f2 := for_find (im := iLstM (methM 0 "parts" (callF (n + 1) 8) (eVar 0) (aCons (eVar 3) aNil) [])) (g := gTp 3 (gsCons (gNm 5) (gsCons (gNm 6) (gsCons (gNm 7) gsNil)))) (body := sSeq (sIf (tVal (e2 gtM (e2 addM (eCallD (callF (n + 1) 31) (aCons (eVar 1) (aCons (eVar 2) (aCons (eVar 6) aNil))) []) (eCallD (callF (n + 1) 31) (aCons (eVar 1) (aCons (eVar 2) (aCons (eVar 7) aNil))) [])) (eVar 4))) (sSeq (sRet (eC (.bl false))) sNil) sNil) sNil) (ρ := [some (.p t.obj), some (.p (tbV tab)), some (.p (.int w)), some (.p (.int h)), some (.p (.int (atT tab w h))), x5, x6, x7]) (st := st) (r := .p (.bl false)) (parts_it (t := t) (W := h) (by omega) rfl rfl) (dwnG t tab w h) (fun _ ρ => ∃ x5 x6 x7, ρ = [some (.p t.obj), some (.p (tbV tab)), some (.p (.int w)), some (.p (.int h)), some (.p (.int (atT tab w h))), x5, x6, x7]) ⟨x5, x6, x7, rfl⟩ (by
      rintro k ρ hk ⟨x5, x6, x7, rfl⟩
      have hk : k < (partsV t h).length := hk
      rw [parts_len] at hk
      have s0 := sec_nn t h (1 + k)
      have s1 := sec_lt ok (n := h) (k := 1 + k) (by omega) (by omega)
      refine ⟨partV t h k, [some (.p t.obj), some (.p (tbV tab)), some (.p (.int w)), some (.p (.int h)), some (.p (.int (atT tab w h))), some (.p (.int (1 + k))), some (.p (.int (1 + k))), some (.p (.int (sec t h (1 + k))))], parts_w hk st, rfl, ?_, ?_⟩
      · intro hg
        have tt := tst_d (n := n) (x5 := some (.p (.int (1 + k)))) ok T hw hh hk st
        rw [hg] at tt
        exact ⟨_, sq_nx (if_f tt rfl) rfl, _, _, _, rfl⟩
      · intro hg
        have tt := tst_d (n := n) (x5 := some (.p (.int (1 + k)))) ok T hw hh hk st
        rw [hg] at tt
        exact sq_ret (if_t tt (sq_ret rfl))) (parts_end st)
    have hn2 : (wkL (partsV t h)).n = (h - 1).toNat := parts_len
    rw [hn2] at f2
    cases g2 : (List.range (h - 1).toNat).all (dwnG t tab w h) with
    | false => exact sq_ret (f2.2 g2)
    | true =>
      obtain ⟨ρ', ⟨x5, x6, x7, rfl⟩, e2⟩ := f2.1 g2
      exact sq_nx e2 (sq_ret rfl)
end K00
namespace K00
open PySem Vs
/-! the form -/
def goodE : PV → Bool
  | .int i => decide (0 ≤ i)
  | _ => false
def formB (W H : Int) (rows : List (List PV)) : Bool := ((rows.length : Int) == H) && (rows.all fun r => (r.length : Int) == W) && rows.all fun r => r.all goodE
theorem all_map {α : Type} (f : α → Bool) (l : List α) : (l.map f).all id = l.all f := by
  rw [List.all_map]; rfl
theorem e3n {n : Nat} {v : PV} (h : ∀ l, v ≠ .tup l) (d : dat v = true) (m : Int) (st : PSt) : callF (n + 1) 3 [.p v, .p (.int m)] st = .ok (.p (.bl false)) st := by
  rw [cf3]
  cases v with
  | tup l => exact (h l rfl).elim
  | non => exact defM_ret rfl rfl
  | bl _ => exact defM_ret rfl rfl
  | int _ => exact defM_ret rfl rfl
  | str _ => exact defM_ret rfl rfl
  | lst _ => exact defM_ret rfl rfl
  | _ => cases d
theorem e32n {n : Nat} {v : PV} {W H : Int} (h : ∀ l, v ≠ .tup l) (d : dat v = true) (st : PSt) : callF (n + 2) 32 [.p (.int W), .p (.int H), .p v] st = .ok (.p (.bl false)) st := by
  rw [cf32]
  exact defM_ret rfl (sq_ret (if_t (or_t (tn_ok (b := false) (tt_ok (cl_ok rfl (e3n (n := n) h d H st))))) (sq_ret rfl)))
theorem e32 {n : Nat} {W H : Int} {rows : List (List PV)} (hl : rows.length ≤ 1000) (hr : ∀ r ∈ rows, r.length ≤ 1000) (hd : ∀ r ∈ rows, ∀ x ∈ r, dat x = true) (st : PSt) : callF (n + 2) 32 [.p (.int W), .p (.int H), .p (.tup (rows.map .tup))] st = .ok (.p (.bl (formB W H rows))) st := by
  rw [cf32]
  have c3 := e3 (n := n) (rows.map .tup) H st
  rw [List.length_map] at c3
  have z1 := lc_genT (g := PV.tup) (f := fun r => .bl ((r.length : Int) == W)) (L := rows) (cg := cgNm 3) (vs := [3]) (e := eCallD (callF (n + 1) 3) (aCons (eVar 3) (aCons (eVar 0) aNil)) []) (a := eVar 2) (st := st) (ρ := [some (.p (.int W)), some (.p (.int H)), some (.p (.tup (rows.map .tup))), none, none]) rfl (fun v => [some (.p (.int W)), some (.p (.int H)), some (.p (.tup (rows.map .tup))), some (.p v), none]) (fun _ => rfl) (fun r _ => cl_ok rfl (e3 (n := n) r W st)) (limN hl)
  have m1 : (rows.map fun r => PV.bl ((r.length : Int) == W)) = (rows.map fun r => (r.length : Int) == W).map .bl := by rw [List.map_map]; rfl
  rw [m1] at z1
  have y1 := e1_ok z1 (all_bl _ st)
  rw [all_map] at y1
  have t1 := or_tt (tn_ok (tt_ok (cl_ok (ρ := [some (.p (.int W)), some (.p (.int H)), some (.p (.tup (rows.map .tup))), none, none]) (a := aCons (eVar 2) (aCons (eVar 1) aNil)) (ds := []) rfl c3))) (tn_ok (tt_ok y1))
  have z2 := lc_genT (g := PV.tup) (f := fun r => .bl (r.all goodE)) (L := rows) (cg := cgNm 3) (vs := [3]) (e := e1 allM (eLc (iTupM (eVar 3)) (cgNm 4) [4] tYesM (eAnd (eCallD (callF (n + 1) 0) (aCons (eVar 4) aNil) []) (e2 geM (eVar 4) (eC (.int 0)))))) (a := eVar 2) (st := st) (ρ := [some (.p (.int W)), some (.p (.int H)), some (.p (.tup (rows.map .tup))), none, none]) rfl (fun v => [some (.p (.int W)), some (.p (.int H)), some (.p (.tup (rows.map .tup))), some (.p v), none]) (fun _ => rfl) (fun r hm => by
    have z3 := lc_genT (g := fun x => x) (f := fun x => .bl (goodE x)) (L := r) (cg := cgNm 4) (vs := [4]) (e := eAnd (eCallD (callF (n + 1) 0) (aCons (eVar 4) aNil) []) (e2 geM (eVar 4) (eC (.int 0)))) (a := eVar 3) (st := st) (ρ := [some (.p (.int W)), some (.p (.int H)), some (.p (.tup (rows.map .tup))), some (.p (.tup r)), none]) (by rw [List.map_id']; rfl) (fun v => [some (.p (.int W)), some (.p (.int H)), some (.p (.tup (rows.map .tup))), some (.p (.tup r)), some (.p v)]) (fun _ => rfl) (fun x hx => by
      have c0 := e0 (n := n) (hd r hm x hx) st
      cases x with
      | int i => exact ea_yes (cl_ok rfl c0) (e2_ok rfl rfl (ge_ii i 0 st))
      | _ => exact ea_no (cl_ok rfl c0)) (limN (hr r hm))
    have m3 : (r.map fun x => PV.bl (goodE x)) = (r.map goodE).map .bl := by rw [List.map_map]; rfl
    rw [m3] at z3
    have y3 := e1_ok z3 (all_bl _ st)
    rw [all_map] at y3
    exact y3) (limN hl)
  have m2 : (rows.map fun r => PV.bl (r.all goodE)) = (rows.map fun r => r.all goodE).map .bl := by rw [List.map_map]; rfl
  rw [m2] at z2
  have y2 := e1_ok z2 (all_bl _ st)
  rw [all_map] at y2
  unfold formB
  cases h1 : ((rows.length : Int) == H) && rows.all fun r => (r.length : Int) == W with
  | false =>
    have q : (!((rows.length : Int) == H) || !(rows.all fun r => (r.length : Int) == W)) = true := by rw [← Bool.not_and, h1]; rfl
    rw [q] at t1
    rw [Bool.false_and]
    exact defM_ret rfl (sq_ret (if_t t1 (sq_ret rfl)))
  | true =>
    have q : (!((rows.length : Int) == H) || !(rows.all fun r => (r.length : Int) == W)) = false := by rw [← Bool.not_and, h1]; rfl
    rw [q] at t1
    rw [Bool.true_and]
    exact defM_ret rfl (sq_nx (if_f t1 rfl) (sq_ret (re_ok y2)))
theorem tb_rows (tab : List (List Int)) : tbV tab = .tup ((tab.map fun r => r.map PV.int).map .tup) := by
  unfold tbV
  rw [List.map_map]
  rfl
theorem form_tab {W H : Int} {tab : List (List Int)} (T : Tab W H tab) : formB W H (tab.map fun r => r.map PV.int) = true := by
  unfold formB
  rw [List.length_map, T.len, beq_self_eq_true, Bool.true_and, Bool.and_eq_true, List.all_eq_true, List.all_eq_true]
  constructor
  · intro r hr
    obtain ⟨s, hs, rfl⟩ := List.mem_map.mp hr
    rw [List.length_map, T.row s hs, beq_self_eq_true]
  · intro r hr
    obtain ⟨s, hs, rfl⟩ := List.mem_map.mp hr
    rw [List.all_eq_true]
    intro x hx
    obtain ⟨i, hi, rfl⟩ := List.mem_map.mp hx
    exact decide_eq_true (T.nn s hs i hi)
theorem e32t {n : Nat} {W H : Int} {tab : List (List Int)} (T : Tab W H tab) (hW : 0 ≤ W ∧ W ≤ 12) (hH : 0 ≤ H ∧ H ≤ 12) (st : PSt) : callF (n + 2) 32 [.p (.int W), .p (.int H), .p (tbV tab)] st = .ok (.p (.bl true)) st := by
  have l := T.len
  have e := e32 (n := n) (W := W) (H := H) (rows := tab.map fun r => r.map PV.int) (by rw [List.length_map]; omega) (fun r hr => by
    obtain ⟨s, hs, rfl⟩ := List.mem_map.mp hr
    have := T.row s hs
    rw [List.length_map]; omega) (fun r hr x hx => by
    obtain ⟨s, hs, rfl⟩ := List.mem_map.mp hr
    obtain ⟨i, hi, rfl⟩ := List.mem_map.mp hx
    rfl) st
  rw [form_tab T] at e
  rw [tb_rows]
  exact e
/-! closed -/
def ordG (W H : Int) (tab : List (List Int)) (o : Ord) : Bool := !(decide (o.w ≤ W) && (decide (o.h ≤ H) && decide (atT tab o.w o.h < o.p)))
def clT (t : Told) (W H : Int) (tab : List (List Int)) : Bool := ((List.range t.os.length).all fun k => match t.os[k]? with | some o => ordG W H tab o | none => true) && (List.range H.toNat).all fun r => (List.range W.toNat).all fun c => clAt t tab (1 + c) (1 + r)
theorem ord_test {n : Nat} {W H : Int} {tab : List (List Int)} {o : Ord} {b p q : EM} {f : Nat} {ρ : Ev} {st : PSt} (T : Tab W H tab) (ho : Ord.Ok o) (hf : ∀ w h, 0 ≤ w ∧ w ≤ W → 0 ≤ h ∧ h ≤ H → callF n f [.p (tbV tab), .p (.int w), .p (.int h)] st = .ok (.p (.int (atT tab w h))) st)
    {vW vH vT vw vh vp : Nat} (hW : eVar vW ρ st = .ok (.p (.int W)) st) (hH : eVar vH ρ st = .ok (.p (.int H)) st) (hT : eVar vT ρ st = .ok (.p (tbV tab)) st) (hw : eVar vw ρ st = .ok (.p (.int o.w)) st) (hh : eVar vh ρ st = .ok (.p (.int o.h)) st) (hp : eVar vp ρ st = .ok (.p (.int o.p)) st) :
    tAndM (tVal (e2 leM (eVar vw) (eVar vW))) (tAndM (tVal (e2 leM (eVar vh) (eVar vH))) (tVal (e2 ltM (eCallD (callF n f) (aCons (eVar vT) (aCons (eVar vw) (aCons (eVar vh) aNil))) []) (eVar vp)))) ρ st = .ok (!ordG W H tab o) st := by
  have t1 := tv_ok (e2_ok hw hW (le_ii o.w W st))
  have t2 := tv_ok (e2_ok hh hH (le_ii o.h H st))
  have hw1 := ho.w
  have hh1 := ho.h
  unfold ordG
  rw [Bool.not_not]
  by_cases h1 : o.w ≤ W
  · rw [decide_eq_true h1] at t1 ⊢
    rw [Bool.true_and]
    by_cases h2 : o.h ≤ H
    · rw [decide_eq_true h2] at t2 ⊢
      rw [Bool.true_and]
      exact ta_ok t1 (ta_ok t2 (tv_ok (e2_ok (cl_ok (ac_ok hT (ac_ok hw (ac_ok hh rfl))) (hf o.w o.h (by omega) (by omega))) hp (lt_ii ..))))
    · rw [decide_eq_false h2] at t2 ⊢
      rw [Bool.false_and]
      exact ta_ok t1 (ta_no t2)
  · rw [decide_eq_false h1] at t1 ⊢
    rw [Bool.false_and]
    exact ta_no t1
abbrev E34 (t : Told) (W H : Int) (tab : List (List Int)) (x4 x5 x6 x7 x8 : Option PR) : Ev := [some (.p t.obj), some (.p (.int W)), some (.p (.int H)), some (.p (tbV tab)), x4, x5, x6, x7, x8]
theorem row_all {n : Nat} {t : Told} {W H d : Int} {tab : List (List Int)} {x4 x5 x6 x8 : Option PR} (ok : t.Ok) (T : Tab W H tab) (hW : 1 ≤ W ∧ W ≤ 12) (hH : 1 ≤ H ∧ H ≤ 12) (hd : 1 ≤ d ∧ d ≤ H) (st : PSt) : e1 allM (eLc (iRng2M (aCons (eC (.int 1)) (aCons (e2 addM (eVar 1) (eC (.int 1))) aNil))) (cgNm 8) [8] tYesM (eCallD (callF (n + 2) 33) (aCons (eVar 0) (aCons (eVar 3) (aCons (eVar 8) (aCons (eVar 7) aNil)))) [])) (E34 t W H tab x4 x5 x6 (some (.p (.int d))) x8) st = .ok (.p (.bl ((List.range W.toNat).all fun (c : Nat) => clAt t tab (1 + c) d))) st := by
  have z := lc_rng2 (i := 1) (j := W + 1) (cg := cgNm 8) (vs := [8]) (e := eCallD (callF (n + 2) 33) (aCons (eVar 0) (aCons (eVar 3) (aCons (eVar 8) (aCons (eVar 7) aNil)))) []) (a := aCons (eC (.int 1)) (aCons (e2 addM (eVar 1) (eC (.int 1))) aNil)) (st := st) (ρ := E34 t W H tab x4 x5 x6 (some (.p (.int d))) x8) (f := fun (c : Nat) => .bl (clAt t tab (1 + c) d)) (ac_ok rfl (ac_ok (add_lit rfl rfl) rfl)) (by omega) (by omega) (fun v => E34 t W H tab x4 x5 x6 (some (.p (.int d))) (some (.p v))) (fun _ => rfl) (fun k hk => cl_ok rfl (e33 (n := n) ok T hW.2 hH.2 (by omega) hd st))
  have hn : (W + 1 - 1).toNat = W.toNat := by omega
  rw [hn] at z
  have m : ((List.range W.toNat).map fun (c : Nat) => PV.bl (clAt t tab (1 + c) d)) = ((List.range W.toNat).map fun (c : Nat) => clAt t tab (1 + c) d).map .bl := by rw [List.map_map]; rfl
  rw [m] at z
  have y := e1_ok z (all_bl _ st)
  rw [all_map] at y
  exact y
theorem ordw_at (t : Told) (k : Nat) (st : PSt) : (wkL (t.os.map Ord.pv)).at_ k st = match t.os[k]? with | some o => .item o.pv | none => .stop := by
  show (match (t.os.map Ord.pv)[k]? with | some v => Stp.item v | none => .stop) = _
  rw [List.getElem?_map]
  cases t.os[k]? <;> rfl
theorem e34 {n : Nat} {t : Told} {W H : Int} {tab : List (List Int)} (ok : t.Ok) (T : Tab W H tab) (hW : 1 ≤ W ∧ W ≤ 12) (hH : 1 ≤ H ∧ H ≤ 12) (st : PSt) : callF (n + 3) 34 [.p t.obj, .p (.int W), .p (.int H), .p (tbV tab)] st = .ok (.p (.bl (clT t W H tab))) st := by
  rw [cf34]
  have fo := e32t (n := n) T (by omega) (by omega) st
  refine defM_ret rfl (sq_nx (ρ1 := E34 t W H tab none none none none none) (s1 := st) (if_f (tn_ok (b := true) (tt_ok (cl_ok rfl fo))) rfl) ?_)
  have f1 := for_find (im := iTupM (e1 (fldM [0] "orders") (eVar 0))) (g := gTp 3 (gsCons (gNm 4) (gsCons (gNm 5) (gsCons (gNm 6) gsNil)))) (body := sSeq (sIf (tAndM (tVal (e2 leM (eVar 4) (eVar 1))) (tAndM (tVal (e2 leM (eVar 5) (eVar 2))) (tVal (e2 ltM (eCallD (callF (n + 2) 31) (aCons (eVar 3) (aCons (eVar 4) (aCons (eVar 5) aNil))) []) (eVar 6))))) (sSeq (sRet (eC (.bl false))) sNil) sNil) sNil) (ρ := E34 t W H tab none none none none none) (st := st) (w := wkL (t.os.map Ord.pv)) (r := .p (.bl false)) rfl (fun k => match t.os[k]? with | some o => ordG W H tab o | none => true) (fun _ ρ => ∃ x4 x5 x6, ρ = E34 t W H tab x4 x5 x6 none none) ⟨none, none, none, rfl⟩ (by
    rintro k ρ hk ⟨x4, x5, x6, rfl⟩
    have hk : k < (t.os.map Ord.pv).length := hk
    rw [List.length_map] at hk
    have e0 : t.os[k]? = some t.os[k] := List.getElem?_eq_getElem hk
    have hm : t.os[k] ∈ t.os := List.getElem_mem hk
    have tt := ord_test (n := n + 2) (f := 31) (ρ := E34 t W H tab (some (.p (.int t.os[k].w))) (some (.p (.int t.os[k].h))) (some (.p (.int t.os[k].p))) none none) (st := st) (b := eC .non) (p := eC .non) (q := eC .non) (o := t.os[k]) T ⟨ok.w _ hm, ok.h _ hm, ok.p _ hm⟩ (fun w h h1 h2 => e31 (n := n + 1) T h1 h2 st) (vW := 1) (vH := 2) (vT := 3) (vw := 4) (vh := 5) (vp := 6) rfl rfl rfl rfl rfl rfl
    refine ⟨t.os[k].pv, E34 t W H tab (some (.p (.int t.os[k].w))) (some (.p (.int t.os[k].h))) (some (.p (.int t.os[k].p))) none none, by rw [ordw_at, e0], rfl, ?_, ?_⟩
    · intro hg
      rw [e0] at hg
      have hg : ordG W H tab t.os[k] = true := hg
      rw [hg] at tt
      exact ⟨_, sq_nx (if_f tt rfl) rfl, _, _, _, rfl⟩
    · intro hg
      rw [e0] at hg
      have hg : ordG W H tab t.os[k] = false := hg
      rw [hg] at tt
      exact sq_ret (if_t tt (sq_ret rfl))) (by
    rw [ordw_at]
    have : (wkL (t.os.map Ord.pv)).n = t.os.length := by show (t.os.map Ord.pv).length = _; rw [List.length_map]
    rw [this, List.getElem?_eq_none (Nat.le_refl _)])
  have hn1 : (wkL (t.os.map Ord.pv)).n = t.os.length := by show (t.os.map Ord.pv).length = _; rw [List.length_map]
  rw [hn1] at f1
  unfold clT
  cases g1 : (List.range t.os.length).all fun k => match t.os[k]? with | some o => ordG W H tab o | none => true with
  | false =>
    rw [Bool.false_and]
    exact sq_ret (f1.2 g1)
  | true =>
    obtain ⟨ρ', ⟨x4, x5, x6, rfl⟩, u1⟩ := f1.1 g1
    rw [Bool.true_and]
    refine sq_nx u1 ?_
    have f2 := for_find (im := iRng2M (aCons (eC (.int 1)) (aCons (e2 addM (eVar 2) (eC (.int 1))) aNil))) (g := gNm 7) (body := sSeq (sIf (tNotM (tTruth (e1 allM (eLc (iRng2M (aCons (eC (.int 1)) (aCons (e2 addM (eVar 1) (eC (.int 1))) aNil))) (cgNm 8) [8] tYesM (eCallD (callF (n + 2) 33) (aCons (eVar 0) (aCons (eVar 3) (aCons (eVar 8) (aCons (eVar 7) aNil)))) []))))) (sSeq (sRet (eC (.bl false))) sNil) sNil) sNil) (ρ := E34 t W H tab x4 x5 x6 none none) (st := st) (w := wkR 1 H.toNat) (r := .p (.bl false)) (by
        have y := rng2_ok (a := aCons (eC (.int 1)) (aCons (e2 addM (eVar 2) (eC (.int 1))) aNil)) (ρ := E34 t W H tab x4 x5 x6 none none) (st := st) (i := 1) (k := H + 1) (ac_ok rfl (ac_ok (add_lit rfl rfl) rfl)) (by omega) (by omega)
        have hn : (H + 1 - 1).toNat = H.toNat := by omega
        rw [hn] at y
        exact y) (fun r => (List.range W.toNat).all fun c => clAt t tab (1 + c) (1 + r)) (fun _ ρ => ∃ x7, ρ = E34 t W H tab x4 x5 x6 x7 none) ⟨none, rfl⟩ (by
      rintro k ρ hk ⟨x7, rfl⟩
      have hk : k < H.toNat := hk
      have tt := tn_ok (tt_ok (row_all (n := n) (x4 := x4) (x5 := x5) (x6 := x6) (x8 := none) ok T hW hH (d := 1 + k) (by omega) st))
      refine ⟨.int (1 + k), E34 t W H tab x4 x5 x6 (some (.p (.int (1 + k)))) none, by rw [wkR_at, if_pos (show k < (wkR 1 H.toNat).n from hk)], rfl, ?_, ?_⟩
      · intro hg
        rw [hg] at tt
        exact ⟨_, sq_nx (if_f tt rfl) rfl, _, rfl⟩
      · intro hg
        rw [hg] at tt
        exact sq_ret (if_t tt (sq_ret rfl))) (by rw [wkR_at, if_neg (Nat.lt_irrefl _)])
    have hn2 : (wkR 1 H.toNat).n = H.toNat := rfl
    rw [hn2] at f2
    cases g2 : (List.range H.toNat).all fun r => (List.range W.toNat).all fun c => clAt t tab (1 + c) (1 + r) with
    | false => exact sq_ret (f2.2 g2)
    | true =>
      obtain ⟨ρ', ⟨x7, rfl⟩, u2⟩ := f2.1 g2
      exact sq_nx u2 (sq_ret rfl)
theorem e34n {n : Nat} {t : Told} {W H : Int} {v : PV} (st : PSt) (h : callF (n + 2) 32 [.p (.int W), .p (.int H), .p v] st = .ok (.p (.bl false)) st) : callF (n + 3) 34 [.p t.obj, .p (.int W), .p (.int H), .p v] st = .ok (.p (.bl false)) st := by
  rw [cf34]
  exact defM_ret rfl (sq_ret (if_t (tn_ok (b := false) (tt_ok (cl_ok rfl h))) (sq_ret rfl)))
theorem e35 {n : Nat} {t : Told} {W H : Int} {v : PV} {b : Bool} (hW : 1 ≤ W ∧ W ≤ 12) (hH : 1 ≤ H ∧ H ≤ 12) (st : PSt) (h : callF (n + 4) 34 [.p t.obj, .p (.int W), .p (.int H), .p v] st = .ok (.p (.bl b)) st) : callF (n + 5) 35 [.p t.obj, .p (.int W), .p (.int H), .p v] st = .ok (.p (.bl b)) st := by
  rw [cf35]
  exact defM_ret rfl (sq_nx (ex_ok (cl_ok rfl (e10ok (n := n) hW hH st))) (sq_ret (re_ok (cl_ok rfl h))))
theorem e36 {n : Nat} {t : Told} {x : T} {W H : Int} {tab : List (List Int)} (ok : t.Ok) (T : Tab W H tab) (hn : 3 * dep x ≤ n) (hW : 1 ≤ W ∧ W ≤ 12) (hH : 1 ≤ H ∧ H ≤ 12) (hk : tk t x W H = true) (hc : clT t W H tab = true) (hg : gd x = true) (hs : sz x ≤ 1000) (hi : isIn t (sn x)) (st : PSt) :
    callF (n + 6) 36 [.p t.obj, .p (.int W), .p (.int H), .p x.pv, .p (tbV tab)] st = .ok (.p (.bl (((sn x).map (prc t)).sum == atT tab W H))) st := by
  rw [cf36]
  have c1 := e34 (n := n + 2) ok T hW hH st
  rw [hc] at c1
  have c2 := e18 (t := t) (x := x) (n := n + 3) (st := st) hg (by omega) hs hi
  have c3 := e31 (n := n + 4) (w := W) (h := H) T (by omega) (by omega) st
  exact defM_ret rfl (sq_nx (ex_ok (cl_ok rfl (e10ok (n := n + 1) hW hH st))) (sq_nx (ex_ok (cl_ok rfl (e16ok hn hk st))) (sq_nx (if_f (tn_ok (b := true) (tt_ok (cl_ok rfl c1))) rfl) (sq_ret (re_ok (e2_ok (cl_ok rfl c2) (cl_ok rfl c3) (eq_int ..)))))))
theorem e36n {n : Nat} {t : Told} {x : T} {W H : Int} {v : PV} (hn : 3 * dep x ≤ n) (hW : 1 ≤ W ∧ W ≤ 12) (hH : 1 ≤ H ∧ H ≤ 12) (hk : tk t x W H = true) (st : PSt) (hc : callF (n + 5) 34 [.p t.obj, .p (.int W), .p (.int H), .p v] st = .ok (.p (.bl false)) st) :
    callF (n + 6) 36 [.p t.obj, .p (.int W), .p (.int H), .p x.pv, .p v] st = .err 7 v st := by
  rw [cf36]
  exact defM_err rfl (sq_nx (ex_ok (cl_ok rfl (e10ok (n := n + 1) hW hH st))) (sq_nx (ex_ok (cl_ok rfl (e16ok hn hk st))) (sq_err (if_t (tn_ok (b := false) (tt_ok (cl_ok rfl hc))) (sq_err rfl)))))
theorem e36g {n : Nat} {t : Told} {x : T} {W H : Int} {v : PV} (hn : 3 * dep x ≤ n) (hW : 1 ≤ W ∧ W ≤ 12) (hH : 1 ≤ H ∧ H ≤ 12) (hk : tk t x W H = false) (st : PSt) :
    callF (n + 6) 36 [.p t.obj, .p (.int W), .p (.int H), .p x.pv, .p v] st = .err 6 x.pv st := by
  rw [cf36]
  exact defM_err rfl (sq_nx (ex_ok (cl_ok rfl (e10ok (n := n + 1) hW hH st))) (sq_err (se_err (cl_ok rfl (e16no hn hk st)))))
end K00
namespace K00
open PySem Vs
/-! the law's own look at a table -/
def maxI : List Int → Int
  | [] => 0
  | x :: xs => xs.foldl max x
theorem fold_max (a : Int) : ∀ (xs : List Int) (x : Int), xs.foldl max x ≤ a ↔ x ≤ a ∧ ∀ y ∈ xs, y ≤ a
  | [], x => ⟨fun h => ⟨h, fun _ h => by cases h⟩, fun h => h.1⟩
  | y :: ys, x => by
    rw [List.foldl_cons, fold_max a ys (max x y)]
    constructor
    · rintro ⟨h1, h2⟩
      refine ⟨by omega, fun z hz => ?_⟩
      rcases List.mem_cons.mp hz with rfl | hz
      · omega
      · exact h2 z hz
    · rintro ⟨h1, h2⟩
      exact ⟨by have := h2 y List.mem_cons_self; omega, fun z hz => h2 z (List.mem_cons_of_mem _ hz)⟩
theorem maxI_le {L : List Int} (h : L ≠ []) (a : Int) : maxI L ≤ a ↔ ∀ y ∈ L, y ≤ a := by
  cases L with
  | nil => exact (h rfl).elim
  | cons x xs =>
    rw [show maxI (x :: xs) = xs.foldl max x from rfl, fold_max]
    constructor
    · rintro ⟨h1, h2⟩ z hz
      rcases List.mem_cons.mp hz with rfl | hz
      · exact h1
      · exact h2 z hz
    · exact fun h => ⟨h x List.mem_cons_self, fun z hz => h z (List.mem_cons_of_mem _ hz)⟩
theorem toDs_int : ∀ L : List Int, toDs (L.map .int) = some (L.map .int)
  | [] => rfl
  | x :: L => by
    show (match toD (.int x), toDs (L.map .int) with | some d, some ds => some (d :: ds) | _, _ => none) = _
    rw [toDs_int L]; rfl
theorem alike_int (L : List Int) : alikeD (L.map .int) = true := by
  unfold alikeD
  rw [Bool.and_eq_true, List.all_eq_true, List.all_eq_true]
  constructor
  · intro d hd
    obtain ⟨x, _, rfl⟩ := List.mem_map.mp hd
    rw [List.all_eq_true]
    intro e he
    obtain ⟨y, _, rfl⟩ := List.mem_map.mp he
    rfl
  · intro d hd
    obtain ⟨x, _, rfl⟩ := List.mem_map.mp hd
    rfl
theorem deep_int : ∀ L : List Int, PyData.depthAll (L.map .int) = 0
  | [] => rfl
  | x :: L => by
    show max (PyData.depth (.int x)) (PyData.depthAll (L.map .int)) = 0
    rw [deep_int L]; rfl
theorem max_ok {L : List Int} (h : L ≠ []) (st : PSt) : maxM (.p (.lst (L.map .int))) st = .ok (.p (.int (maxI L))) st := by
  cases L with
  | nil => exact (h rfl).elim
  | cons x xs =>
    show (match toDs ((x :: xs).map .int) with
      | some (d :: ds) => if alikeD (d :: ds) = true ∧ PyData.depthAll (d :: ds) ≤ 60 then (match ofD (PySem.W.maxD d ds) with
        | some v => (pure (.p v) : PM PR)
        | none => PM.stuck) else PM.stuck
      | _ => PM.stuck) st = _
    rw [toDs_int (x :: xs)]
    have h1 := alike_int (x :: xs)
    have h2 : PyData.depthAll ((x :: xs).map .int) ≤ 60 := by rw [deep_int]; omega
    have e : (x :: xs).map PyData.int = PyData.int x :: xs.map .int := rfl
    rw [e] at h1 h2
    rw [e]
    dsimp only
    rw [if_pos ⟨h1, h2⟩, PySem.W.maxD_ints]
    rfl
theorem add_il (p q : List Int) (h : p.length + q.length ≤ 1000) (st : PSt) : addM (.p (.lst (p.map .int))) (.p (.lst (q.map .int))) st = .ok (.p (.lst ((p ++ q).map .int))) st := add_ints p q (limN h) st
section
variable {t : Told} {W H : Int} {tab : List (List Int)}
abbrev E49 (t : Told) (tab : List (List Int)) (W H : Int) (x4 x5 x6 x7 x8 x9 x10 : Option PR) : Ev := [some (.p t.pv), some (.p (tbV tab)), some (.p (.int W)), some (.p (.int H)), x4, x5, x6, x7, x8, x9, x10]
def sumA (t : Told) (tab : List (List Int)) (w h : Int) : List Int := (List.range (w - 1).toNat).map fun (k : Nat) => atT tab (1 + k) h + atT tab (sec t w (1 + k)) h
def sumD (t : Told) (tab : List (List Int)) (w h : Int) : List Int := (List.range (h - 1).toNat).map fun (k : Nat) => atT tab w (1 + k) + atT tab w (sec t h (1 + k))
theorem sums_cl (T : Tab W H tab) {w h : Int} (hw : 1 ≤ w ∧ w ≤ W) (hh : 1 ≤ h ∧ h ≤ H) : decide (maxI (sumA t tab w h ++ sumD t tab w h ++ [0]) ≤ atT tab w h) = clAt t tab w h := by
  have nn := tat_nn T (w := w) (h := h) (by omega) (by omega)
  rw [show clAt t tab w h = decide (clAt t tab w h = true) by cases clAt t tab w h <;> rfl]
  apply decide_eq_decide.mpr
  rw [maxI_le (by simp)]
  unfold clAt
  rw [Bool.and_eq_true, List.all_eq_true, List.all_eq_true]
  constructor
  · intro hh
    constructor
    · intro k hk
      exact decide_eq_true (hh _ (List.mem_append_left _ (List.mem_append_left _ (List.mem_map.mpr ⟨k, hk, rfl⟩))))
    · intro k hk
      exact decide_eq_true (hh _ (List.mem_append_left _ (List.mem_append_right _ (List.mem_map.mpr ⟨k, hk, rfl⟩))))
  · rintro ⟨h1, h2⟩ y hy
    rcases List.mem_append.mp hy with hy | hy
    · rcases List.mem_append.mp hy with hy | hy
      · obtain ⟨k, hk, rfl⟩ := List.mem_map.mp hy
        exact of_decide_eq_true (h1 k hk)
      · obtain ⟨k, hk, rfl⟩ := List.mem_map.mp hy
        exact of_decide_eq_true (h2 k hk)
    · rw [List.mem_singleton.mp hy]; exact nn
abbrev cellL (n : Nat) : SM := sSeq (sAsg (eLc (iRng2M (aCons (eC (.int 1)) (aCons (eVar 8) aNil))) (cgNm 10) [10] tYesM (e2 addM (eCallD (callF (n + 1) 48) (aCons (eVar 1) (aCons (eVar 10) (aCons (eVar 7) aNil))) []) (eCallD (callF (n + 1) 48) (aCons (eVar 1) (aCons (eCallD (callF (n + 1) 41) (aCons (eVar 0) (aCons (eVar 8) (aCons (eVar 10) aNil))) []) (aCons (eVar 7) aNil))) []))) (gNm 9)) (sSeq (sAsg (e2 addM (eVar 9) (eLc (iRng2M (aCons (eC (.int 1)) (aCons (eVar 7) aNil))) (cgNm 10) [10] tYesM (e2 addM (eCallD (callF (n + 1) 48) (aCons (eVar 1) (aCons (eVar 8) (aCons (eVar 10) aNil))) []) (eCallD (callF (n + 1) 48) (aCons (eVar 1) (aCons (eVar 8) (aCons (eCallD (callF (n + 1) 41) (aCons (eVar 0) (aCons (eVar 7) (aCons (eVar 10) aNil))) []) aNil))) [])))) (gNm 9)) (sSeq (sIf (tVal (e2 gtM (e1 maxM (e2 addM (eVar 9) (eLst (aCons (eC (.int 0)) aNil)))) (eCallD (callF (n + 1) 48) (aCons (eVar 1) (aCons (eVar 8) (aCons (eVar 7) aNil))) []))) (sSeq (sRet (eC (.bl false))) sNil) sNil) sNil))
theorem cell_turn {n : Nat} {w h : Int} {x4 x5 x6 x9 x10 : Option PR} (ok : t.Ok) (T : Tab W H tab) (hW : 1 ≤ W ∧ W ≤ 12) (hH : 1 ≤ H ∧ H ≤ 12) (hw : 1 ≤ w ∧ w ≤ W) (hh : 1 ≤ h ∧ h ≤ H) (st : PSt) :
    (clAt t tab w h = true → ∃ x9', cellL n (E49 t tab W H x4 x5 x6 (some (.p (.int h))) (some (.p (.int w))) x9 x10) st = .nx (E49 t tab W H x4 x5 x6 (some (.p (.int h))) (some (.p (.int w))) x9' x10) st) ∧ (clAt t tab w h = false → cellL n (E49 t tab W H x4 x5 x6 (some (.p (.int h))) (some (.p (.int w))) x9 x10) st = .ret (.p (.bl false)) st) := by
  have z1 := lc_rng2 (i := 1) (j := w) (cg := cgNm 10) (vs := [10]) (e := e2 addM (eCallD (callF (n + 1) 48) (aCons (eVar 1) (aCons (eVar 10) (aCons (eVar 7) aNil))) []) (eCallD (callF (n + 1) 48) (aCons (eVar 1) (aCons (eCallD (callF (n + 1) 41) (aCons (eVar 0) (aCons (eVar 8) (aCons (eVar 10) aNil))) []) (aCons (eVar 7) aNil))) [])) (a := aCons (eC (.int 1)) (aCons (eVar 8) aNil)) (st := st) (ρ := E49 t tab W H x4 x5 x6 (some (.p (.int h))) (some (.p (.int w))) x9 x10) (f := fun (k : Nat) => .int (atT tab (1 + k) h + atT tab (sec t w (1 + k)) h)) rfl (by omega) (by omega) (fun v => E49 t tab W H x4 x5 x6 (some (.p (.int h))) (some (.p (.int w))) x9 (some (.p v))) (fun _ => rfl) (fun k hk => by
    have s0 := sec_nn t w (1 + k)
    have s1 := sec_lt ok (n := w) (k := 1 + k) (by omega) (by omega)
    have c1 : eCallD (callF (n + 1) 48) (aCons (eVar 1) (aCons (eVar 10) (aCons (eVar 7) aNil))) [] (E49 t tab W H x4 x5 x6 (some (.p (.int h))) (some (.p (.int w))) x9 (some (.p (.int (1 + k))))) st = .ok (.p (.int (atT tab (1 + k) h))) st := cl_ok rfl (e48 (n := n) (w := 1 + k) (h := h) T (by omega) (by omega) st)
    have c2 : eCallD (callF (n + 1) 48) (aCons (eVar 1) (aCons (eCallD (callF (n + 1) 41) (aCons (eVar 0) (aCons (eVar 8) (aCons (eVar 10) aNil))) []) (aCons (eVar 7) aNil))) [] (E49 t tab W H x4 x5 x6 (some (.p (.int h))) (some (.p (.int w))) x9 (some (.p (.int (1 + k))))) st = .ok (.p (.int (atT tab (sec t w (1 + k)) h))) st := cl_ok (ac_ok rfl (ac_ok (cl_ok rfl (e26 (n := n) t w (1 + k) st)) (ac_ok rfl rfl))) (e48 (n := n) (w := sec t w (1 + k)) (h := h) T (by omega) (by omega) st)
    exact add_lit c1 c2)
  have m1 : ((List.range (w - 1).toNat).map fun (k : Nat) => PV.int (atT tab (1 + k) h + atT tab (sec t w (1 + k)) h)) = (sumA t tab w h).map .int := by unfold sumA; rw [List.map_map]; rfl
  rw [m1] at z1
  have z2 := lc_rng2 (i := 1) (j := h) (cg := cgNm 10) (vs := [10]) (e := e2 addM (eCallD (callF (n + 1) 48) (aCons (eVar 1) (aCons (eVar 8) (aCons (eVar 10) aNil))) []) (eCallD (callF (n + 1) 48) (aCons (eVar 1) (aCons (eVar 8) (aCons (eCallD (callF (n + 1) 41) (aCons (eVar 0) (aCons (eVar 7) (aCons (eVar 10) aNil))) []) aNil))) [])) (a := aCons (eC (.int 1)) (aCons (eVar 7) aNil)) (st := st) (ρ := E49 t tab W H x4 x5 x6 (some (.p (.int h))) (some (.p (.int w))) (some (.p (.lst ((sumA t tab w h).map .int)))) x10) (f := fun (k : Nat) => .int (atT tab w (1 + k) + atT tab w (sec t h (1 + k)))) rfl (by omega) (by omega) (fun v => E49 t tab W H x4 x5 x6 (some (.p (.int h))) (some (.p (.int w))) (some (.p (.lst ((sumA t tab w h).map .int)))) (some (.p v))) (fun _ => rfl) (fun k hk => by
    have s0 := sec_nn t h (1 + k)
    have s1 := sec_lt ok (n := h) (k := 1 + k) (by omega) (by omega)
    have c1 : eCallD (callF (n + 1) 48) (aCons (eVar 1) (aCons (eVar 8) (aCons (eVar 10) aNil))) [] (E49 t tab W H x4 x5 x6 (some (.p (.int h))) (some (.p (.int w))) (some (.p (.lst ((sumA t tab w h).map .int)))) (some (.p (.int (1 + k))))) st = .ok (.p (.int (atT tab w (1 + k)))) st := cl_ok rfl (e48 (n := n) (w := w) (h := 1 + k) T (by omega) (by omega) st)
    have c2 : eCallD (callF (n + 1) 48) (aCons (eVar 1) (aCons (eVar 8) (aCons (eCallD (callF (n + 1) 41) (aCons (eVar 0) (aCons (eVar 7) (aCons (eVar 10) aNil))) []) aNil))) [] (E49 t tab W H x4 x5 x6 (some (.p (.int h))) (some (.p (.int w))) (some (.p (.lst ((sumA t tab w h).map .int)))) (some (.p (.int (1 + k))))) st = .ok (.p (.int (atT tab w (sec t h (1 + k))))) st := cl_ok (ac_ok rfl (ac_ok rfl (ac_ok (cl_ok rfl (e26 (n := n) t h (1 + k) st)) rfl))) (e48 (n := n) (w := w) (h := sec t h (1 + k)) T (by omega) (by omega) st)
    exact add_lit c1 c2)
  have m2 : ((List.range (h - 1).toNat).map fun (k : Nat) => PV.int (atT tab w (1 + k) + atT tab w (sec t h (1 + k)))) = (sumD t tab w h).map .int := by unfold sumD; rw [List.map_map]; rfl
  rw [m2] at z2
  have lA : (sumA t tab w h).length = (w - 1).toNat := by unfold sumA; rw [List.length_map, List.length_range]
  have lD : (sumD t tab w h).length = (h - 1).toNat := by unfold sumD; rw [List.length_map, List.length_range]
  have tt : tVal (e2 gtM (e1 maxM (e2 addM (eVar 9) (eLst (aCons (eC (.int 0)) aNil)))) (eCallD (callF (n + 1) 48) (aCons (eVar 1) (aCons (eVar 8) (aCons (eVar 7) aNil))) [])) (E49 t tab W H x4 x5 x6 (some (.p (.int h))) (some (.p (.int w))) (some (.p (.lst ((sumA t tab w h ++ sumD t tab w h).map .int)))) x10) st = .ok (!clAt t tab w h) st := by
    rw [← sums_cl T hw hh, ← not_le_lt]
    exact tv_ok (e2_ok (e1_ok (e2_ok rfl (ls_ok (l := [0].map .int) rfl (limN (by simp))) (add_il (sumA t tab w h ++ sumD t tab w h) [0] (by rw [List.length_append, lA, lD]; simp; omega) st)) (max_ok (by simp) st)) (cl_ok rfl (e48 (n := n) (w := w) (h := h) T (by omega) (by omega) st)) (gt_ii ..))
  refine ⟨fun hg => ⟨some (.p (.lst ((sumA t tab w h ++ sumD t tab w h).map .int))), ?_⟩, fun hg => ?_⟩
  · rw [hg] at tt
    exact sq_nx (as_ok z1) (sq_nx (as_ok (e2_ok rfl z2 (add_il _ _ (by rw [lA, lD]; omega) st))) (sq_nx (if_f tt rfl) rfl))
  · rw [hg] at tt
    exact sq_nx (as_ok z1) (sq_nx (as_ok (e2_ok rfl z2 (add_il _ _ (by rw [lA, lD]; omega) st))) (sq_ret (if_t tt (sq_ret rfl))))
theorem e49 {n : Nat} (ok : t.Ok) (T : Tab W H tab) (hW : 1 ≤ W ∧ W ≤ 12) (hH : 1 ≤ H ∧ H ≤ 12) (st : PSt) : callF (n + 2) 49 [.p t.pv, .p (tbV tab), .p (.int W), .p (.int H)] st = .ok (.p (.bl (clT t W H tab))) st := by
  rw [cf49]
  refine defM_ret rfl ?_
  have f1 := for_find (im := iTupM (e2 ixM (eVar 0) (eC (.int 1)))) (g := gTp 3 (gsCons (gNm 4) (gsCons (gNm 5) (gsCons (gNm 6) gsNil)))) (body := sSeq (sIf (tAndM (tVal (e2 leM (eVar 4) (eVar 2))) (tAndM (tVal (e2 leM (eVar 5) (eVar 3))) (tVal (e2 ltM (eCallD (callF (n + 1) 48) (aCons (eVar 1) (aCons (eVar 4) (aCons (eVar 5) aNil))) []) (eVar 6))))) (sSeq (sRet (eC (.bl false))) sNil) sNil) sNil) (ρ := E49 t tab W H none none none none none none none) (st := st) (w := wkL (t.os.map Ord.pv)) (r := .p (.bl false)) rfl (fun k => match t.os[k]? with | some o => ordG W H tab o | none => true) (fun _ ρ => ∃ x4 x5 x6, ρ = E49 t tab W H x4 x5 x6 none none none none) ⟨none, none, none, rfl⟩ (by
    rintro k ρ hk ⟨x4, x5, x6, rfl⟩
    have hk : k < (t.os.map Ord.pv).length := hk
    rw [List.length_map] at hk
    have e0 : t.os[k]? = some t.os[k] := List.getElem?_eq_getElem hk
    have hm : t.os[k] ∈ t.os := List.getElem_mem hk
    have tt := ord_test (n := n + 1) (f := 48) (ρ := E49 t tab W H (some (.p (.int t.os[k].w))) (some (.p (.int t.os[k].h))) (some (.p (.int t.os[k].p))) none none none none) (st := st) (b := eC .non) (p := eC .non) (q := eC .non) (o := t.os[k]) T ⟨ok.w _ hm, ok.h _ hm, ok.p _ hm⟩ (fun w h h1 h2 => e48 (n := n) T h1 h2 st) (vW := 2) (vH := 3) (vT := 1) (vw := 4) (vh := 5) (vp := 6) rfl rfl rfl rfl rfl rfl
    refine ⟨t.os[k].pv, E49 t tab W H (some (.p (.int t.os[k].w))) (some (.p (.int t.os[k].h))) (some (.p (.int t.os[k].p))) none none none none, by rw [ordw_at, e0], rfl, ?_, ?_⟩
    · intro hg
      rw [e0] at hg
      have hg : ordG W H tab t.os[k] = true := hg
      rw [hg] at tt
      exact ⟨_, sq_nx (if_f tt rfl) rfl, _, _, _, rfl⟩
    · intro hg
      rw [e0] at hg
      have hg : ordG W H tab t.os[k] = false := hg
      rw [hg] at tt
      exact sq_ret (if_t tt (sq_ret rfl))) (by
    rw [ordw_at]
    have : (wkL (t.os.map Ord.pv)).n = t.os.length := by show (t.os.map Ord.pv).length = _; rw [List.length_map]
    rw [this, List.getElem?_eq_none (Nat.le_refl _)])
  have hn1 : (wkL (t.os.map Ord.pv)).n = t.os.length := by show (t.os.map Ord.pv).length = _; rw [List.length_map]
  rw [hn1] at f1
  unfold clT
  cases g1 : (List.range t.os.length).all fun k => match t.os[k]? with | some o => ordG W H tab o | none => true with
  | false =>
    rw [Bool.false_and]
    exact sq_ret (f1.2 g1)
  | true =>
    obtain ⟨ρ', ⟨x4, x5, x6, rfl⟩, u1⟩ := f1.1 g1
    rw [Bool.true_and]
    refine sq_nx u1 ?_
    have inner : ∀ (h : Int) (x8 x9 x10 : Option PR), 1 ≤ h ∧ h ≤ H → (((List.range W.toNat).all fun c => clAt t tab (1 + c) h) = true → ∃ x8' x9', sFor (iRng2M (aCons (eC (.int 1)) (aCons (e2 addM (eVar 2) (eC (.int 1))) aNil))) (gNm 8) (cellL n) (E49 t tab W H x4 x5 x6 (some (.p (.int h))) x8 x9 x10) st = .nx (E49 t tab W H x4 x5 x6 (some (.p (.int h))) x8' x9' x10) st) ∧ (((List.range W.toNat).all fun c => clAt t tab (1 + c) h) = false → sFor (iRng2M (aCons (eC (.int 1)) (aCons (e2 addM (eVar 2) (eC (.int 1))) aNil))) (gNm 8) (cellL n) (E49 t tab W H x4 x5 x6 (some (.p (.int h))) x8 x9 x10) st = .ret (.p (.bl false)) st) := by
      intro h x8 x9 x10 hh
      have f3 := for_find (im := iRng2M (aCons (eC (.int 1)) (aCons (e2 addM (eVar 2) (eC (.int 1))) aNil))) (g := gNm 8) (body := cellL n) (ρ := E49 t tab W H x4 x5 x6 (some (.p (.int h))) x8 x9 x10) (st := st) (w := wkR 1 W.toNat) (r := .p (.bl false)) (by
          have y := rng2_ok (a := aCons (eC (.int 1)) (aCons (e2 addM (eVar 2) (eC (.int 1))) aNil)) (ρ := E49 t tab W H x4 x5 x6 (some (.p (.int h))) x8 x9 x10) (st := st) (i := 1) (k := W + 1) (ac_ok rfl (ac_ok (add_lit rfl rfl) rfl)) (by omega) (by omega)
          have hn : (W + 1 - 1).toNat = W.toNat := by omega
          rw [hn] at y
          exact y) (fun c => clAt t tab (1 + c) h) (fun _ ρ => ∃ x8 x9, ρ = E49 t tab W H x4 x5 x6 (some (.p (.int h))) x8 x9 x10) ⟨x8, x9, rfl⟩ (by
        rintro k ρ hk ⟨x8, x9, rfl⟩
        have hk : k < W.toNat := hk
        obtain ⟨c1, c2⟩ := cell_turn (n := n) (x4 := x4) (x5 := x5) (x6 := x6) (x9 := x9) (x10 := x10) (w := 1 + k) (h := h) ok T hW hH (by omega) hh st
        refine ⟨.int (1 + k), E49 t tab W H x4 x5 x6 (some (.p (.int h))) (some (.p (.int (1 + k)))) x9 x10, by rw [wkR_at, if_pos (show k < (wkR 1 W.toNat).n from hk)], rfl, ?_, c2⟩
        intro hg
        obtain ⟨x9', e⟩ := c1 hg
        exact ⟨_, e, _, _, rfl⟩) (by rw [wkR_at, if_neg (Nat.lt_irrefl _)])
      have hn3 : (wkR 1 W.toNat).n = W.toNat := rfl
      rw [hn3] at f3
      refine ⟨fun hg => ?_, f3.2⟩
      obtain ⟨ρ', ⟨x8', x9', rfl⟩, e⟩ := f3.1 hg
      exact ⟨x8', x9', e⟩
    have f2 := for_find (im := iRng2M (aCons (eC (.int 1)) (aCons (e2 addM (eVar 3) (eC (.int 1))) aNil))) (g := gNm 7) (body := sSeq (sFor (iRng2M (aCons (eC (.int 1)) (aCons (e2 addM (eVar 2) (eC (.int 1))) aNil))) (gNm 8) (cellL n)) sNil) (ρ := E49 t tab W H x4 x5 x6 none none none none) (st := st) (w := wkR 1 H.toNat) (r := .p (.bl false)) (by
        have y := rng2_ok (a := aCons (eC (.int 1)) (aCons (e2 addM (eVar 3) (eC (.int 1))) aNil)) (ρ := E49 t tab W H x4 x5 x6 none none none none) (st := st) (i := 1) (k := H + 1) (ac_ok rfl (ac_ok (add_lit rfl rfl) rfl)) (by omega) (by omega)
        have hn : (H + 1 - 1).toNat = H.toNat := by omega
        rw [hn] at y
        exact y) (fun r => (List.range W.toNat).all fun c => clAt t tab (1 + c) (1 + r)) (fun _ ρ => ∃ x7 x8 x9, ρ = E49 t tab W H x4 x5 x6 x7 x8 x9 none) ⟨none, none, none, rfl⟩ (by
      rintro k ρ hk ⟨x7, x8, x9, rfl⟩
      have hk : k < H.toNat := hk
      obtain ⟨c1, c2⟩ := inner (1 + k) x8 x9 none (by omega)
      refine ⟨.int (1 + k), E49 t tab W H x4 x5 x6 (some (.p (.int (1 + k)))) x8 x9 none, by rw [wkR_at, if_pos (show k < (wkR 1 H.toNat).n from hk)], rfl, ?_, ?_⟩
      · intro hg
        obtain ⟨x8', x9', e⟩ := c1 hg
        exact ⟨_, sq_nx e rfl, _, _, _, rfl⟩
      · intro hg
        exact sq_ret (c2 hg)) (by rw [wkR_at, if_neg (Nat.lt_irrefl _)])
    have hn2 : (wkR 1 H.toNat).n = H.toNat := rfl
    rw [hn2] at f2
    cases g2 : (List.range H.toNat).all fun r => (List.range W.toNat).all fun c => clAt t tab (1 + c) (1 + r) with
    | false => exact sq_ret (f2.2 g2)
    | true =>
      obtain ⟨ρ', ⟨x7, x8, x9, rfl⟩, u2⟩ := f2.1 g2
      exact sq_nx u2 (sq_ret rfl)
end
end K00
namespace K00
open PySem Vs
/-! orders of keys -/
theorem lt3_iff (x y : K3) : lt3 x y = true ↔ x.1 < y.1 ∨ (x.1 = y.1 ∧ (x.2.1 < y.2.1 ∨ (x.2.1 = y.2.1 ∧ x.2.2 < y.2.2))) := by
  unfold lt3
  by_cases h1 : x.1 = y.1
  · rw [if_pos h1]
    by_cases h2 : x.2.1 = y.2.1
    · rw [if_pos h2, decide_eq_true_eq]; omega
    · rw [if_neg h2, decide_eq_true_eq]; omega
  · rw [if_neg h1, decide_eq_true_eq]; omega
theorem lt2_iff (x y : Int × Int) : lt2 x y = true ↔ x.1 < y.1 ∨ (x.1 = y.1 ∧ x.2 < y.2) := by
  unfold lt2
  by_cases h1 : x.1 = y.1
  · rw [if_pos h1, decide_eq_true_eq]; omega
  · rw [if_neg h1, decide_eq_true_eq]; omega
theorem fold_pick : ∀ (l : List En) (f : En), l.foldl pickE f ∈ f :: l ∧ ∀ e ∈ f :: l, ¬ lt3 e.1 (l.foldl pickE f).1 = true
  | [], f => ⟨List.mem_cons_self, fun e he => by
    rw [List.mem_singleton.mp he, show ([] : List En).foldl pickE f = f from rfl, lt3_iff]
    omega⟩
  | e :: l, f => by
    obtain ⟨h1, h2⟩ := fold_pick l (pickE f e)
    rw [List.foldl_cons]
    have pk : pickE f e = e ∧ lt3 e.1 f.1 = true ∨ pickE f e = f ∧ ¬ lt3 e.1 f.1 = true := by
      unfold pickE
      cases h : lt3 e.1 f.1 with
      | true => exact .inl ⟨rfl, rfl⟩
      | false => exact .inr ⟨rfl, by simp⟩
    have hp := h2 (pickE f e) List.mem_cons_self
    constructor
    · rcases List.mem_cons.mp h1 with h | h
      · rw [h]
        rcases pk with ⟨q, _⟩ | ⟨q, _⟩ <;> rw [q]
        · exact List.mem_cons_of_mem _ List.mem_cons_self
        · exact List.mem_cons_self
      · exact List.mem_cons_of_mem _ (List.mem_cons_of_mem _ h)
    · intro x hx
      rcases List.mem_cons.mp hx with rfl | hx
      · rcases pk with ⟨q, w⟩ | ⟨q, w⟩
        · rw [q] at hp ⊢
          rw [lt3_iff] at hp w ⊢
          omega
        · rw [q] at hp ⊢
          exact hp
      · rcases List.mem_cons.mp hx with rfl | hx
        · rcases pk with ⟨q, w⟩ | ⟨q, w⟩
          · rw [q] at hp ⊢
            exact hp
          · rw [q] at hp ⊢
            rw [lt3_iff] at hp w ⊢
            omega
        · exact h2 x (List.mem_cons_of_mem _ hx)
theorem fold_min2 : ∀ (l : List (Int × Int)) (f : Int × Int), min2 f l ∈ f :: l ∧ ∀ e ∈ f :: l, ¬ lt2 e (min2 f l) = true
  | [], f => ⟨List.mem_cons_self, fun e he => by
    rw [List.mem_singleton.mp he, show min2 f [] = f from rfl, lt2_iff]
    omega⟩
  | e :: l, f => by
    obtain ⟨h1, h2⟩ := fold_min2 l (if lt2 e f then e else f)
    have mm : min2 f (e :: l) = min2 (if lt2 e f then e else f) l := rfl
    rw [mm]
    have pk : ((if lt2 e f then e else f) = e ∧ lt2 e f = true) ∨ ((if lt2 e f then e else f) = f ∧ ¬ lt2 e f = true) := by
      cases h : lt2 e f with
      | true => exact .inl ⟨rfl, rfl⟩
      | false => exact .inr ⟨rfl, by simp⟩
    have hp := h2 (if lt2 e f then e else f) List.mem_cons_self
    constructor
    · rcases List.mem_cons.mp h1 with h | h
      · rw [h]
        rcases pk with ⟨q, _⟩ | ⟨q, _⟩ <;> rw [q]
        · exact List.mem_cons_of_mem _ List.mem_cons_self
        · exact List.mem_cons_self
      · exact List.mem_cons_of_mem _ (List.mem_cons_of_mem _ h)
    · intro x hx
      rcases List.mem_cons.mp hx with rfl | hx
      · rcases pk with ⟨q, w⟩ | ⟨q, w⟩
        · rw [q] at hp ⊢
          rw [lt2_iff] at hp w ⊢
          omega
        · rw [q] at hp ⊢
          exact hp
      · rcases List.mem_cons.mp hx with rfl | hx
        · rcases pk with ⟨q, w⟩ | ⟨q, w⟩
          · rw [q] at hp ⊢
            exact hp
          · rw [q] at hp ⊢
            rw [lt2_iff] at hp w ⊢
            omega
        · exact h2 x (List.mem_cons_of_mem _ hx)
/-! what the best is -/
theorem best_mem {t : Told} (ok : t.Ok) (b : Bool) {W H : Int} (hW : 1 ≤ W) (hH : 1 ≤ H) : bestE t b W H ∈ e0E :: (slabC t b W H ++ acrC t (bestE t b) W H ++ dwnC t (bestE t b) W H) ∧ ∀ e ∈ e0E :: (slabC t b W H ++ acrC t (bestE t b) W H ++ dwnC t (bestE t b) W H), ¬ lt3 e.1 (bestE t b W H).1 = true := by
  have h := fold_pick (slabC t b W H ++ acrC t (bestE t b) W H ++ dwnC t (bestE t b) W H) e0E
  have e : (slabC t b W H ++ acrC t (bestE t b) W H ++ dwnC t (bestE t b) W H).foldl pickE e0E = bestE t b W H := (best_eq ok b hW hH).symm
  rw [e] at h
  exact h
theorem fits_iff {t : Told} {k : Nat} {W H : Int} : fits t k W H = true ↔ ∃ o, t.os[k]? = some o ∧ o.w = W ∧ o.h = H := by
  unfold fits
  rw [Int.toNat_natCast]
  cases e : t.os[k]? with
  | none => exact ⟨fun h => (by cases h), fun ⟨_, h, _⟩ => (by cases h)⟩
  | some o =>
    show (decide ((0 : Int) ≤ k) && (o.w == W && o.h == H)) = true ↔ _
    rw [decide_eq_true (show (0 : Int) ≤ k by omega), Bool.true_and, Bool.and_eq_true, beq_iff_eq, beq_iff_eq]
    exact ⟨fun h => ⟨o, rfl, h.1, h.2⟩, fun ⟨p, h, h1, h2⟩ => (by cases h; exact ⟨h1, h2⟩)⟩
theorem slab_mem {t : Told} {b : Bool} {W H : Int} {e : En} : e ∈ slabC t b W H ↔ ∃ (k : Nat) (o : Ord), t.os[k]? = some o ∧ o.w = W ∧ o.h = H ∧ e = (skey b o, .slab k) := by
  unfold slabC
  rw [List.mem_map]
  constructor
  · rintro ⟨k, hk, rfl⟩
    obtain ⟨o, h1, h2, h3⟩ := fits_iff.mp (List.mem_filter.mp hk).2
    exact ⟨k, o, h1, h2, h3, by rw [h1]⟩
  · rintro ⟨k, o, h1, h2, h3, rfl⟩
    have lt : k < t.os.length := (List.getElem?_eq_some_iff.mp h1).1
    exact ⟨k, List.mem_filter.mpr ⟨List.mem_range.mpr lt, fits_iff.mpr ⟨o, h1, h2, h3⟩⟩, by rw [h1]⟩
theorem acr_mem {t : Told} {B : Int → Int → En} {W H : Int} {e : En} : e ∈ acrC t B W H ↔ ∃ k : Int, 1 ≤ k ∧ k < W ∧ e = cutE true k (B k H) (B (sec t W k) H) := by
  unfold acrC
  rw [List.mem_map]
  constructor
  · rintro ⟨k, hk, rfl⟩
    have hk := List.mem_range.mp hk
    exact ⟨1 + k, by omega, by omega, rfl⟩
  · rintro ⟨k, h1, h2, rfl⟩
    exact ⟨(k - 1).toNat, List.mem_range.mpr (by omega), by rw [show 1 + ((k - 1).toNat : Int) = k by omega]⟩
theorem dwn_mem {t : Told} {B : Int → Int → En} {W H : Int} {e : En} : e ∈ dwnC t B W H ↔ ∃ k : Int, 1 ≤ k ∧ k < H ∧ e = cutE false k (B W k) (B W (sec t H k)) := by
  unfold dwnC
  rw [List.mem_map]
  constructor
  · rintro ⟨k, hk, rfl⟩
    have hk := List.mem_range.mp hk
    exact ⟨1 + k, by omega, by omega, rfl⟩
  · rintro ⟨k, h1, h2, rfl⟩
    exact ⟨(k - 1).toNat, List.mem_range.mpr (by omega), by rw [show 1 + ((k - 1).toNat : Int) = k by omega]⟩
theorem lcs_mem {t : Told} {L : Int → Int → P4} {W H : Int} {y : P4} : y ∈ lcs t L W H ↔ (∃ o ∈ t.os, o.w = W ∧ o.h = H ∧ y = ordP o) ∨ (∃ k : Int, 1 ≤ k ∧ k < W ∧ y = both (L k H) (L (sec t W k) H)) ∨ ∃ k : Int, 1 ≤ k ∧ k < H ∧ y = both (L W k) (L W (sec t H k)) := by
  unfold lcs
  rw [List.mem_append, List.mem_append, or_assoc]
  refine or_congr ?_ (or_congr ?_ ?_)
  · unfold ordC
    rw [List.mem_map]
    constructor
    · rintro ⟨o, ho, rfl⟩
      obtain ⟨h1, h2⟩ := List.mem_filter.mp ho
      rw [Bool.and_eq_true, beq_iff_eq, beq_iff_eq] at h2
      exact ⟨o, h1, h2.1, h2.2, rfl⟩
    · rintro ⟨o, h1, h2, h3, rfl⟩
      exact ⟨o, List.mem_filter.mpr ⟨h1, by rw [Bool.and_eq_true, beq_iff_eq, beq_iff_eq]; exact ⟨h2, h3⟩⟩, rfl⟩
  · unfold acP
    rw [List.mem_map]
    constructor
    · rintro ⟨k, hk, rfl⟩
      have hk := List.mem_range.mp hk
      exact ⟨1 + k, by omega, by omega, rfl⟩
    · rintro ⟨k, h1, h2, rfl⟩
      exact ⟨(k - 1).toNat, List.mem_range.mpr (by omega), by rw [show 1 + ((k - 1).toNat : Int) = k by omega]⟩
  · unfold dwP
    rw [List.mem_map]
    constructor
    · rintro ⟨k, hk, rfl⟩
      have hk := List.mem_range.mp hk
      exact ⟨1 + k, by omega, by omega, rfl⟩
    · rintro ⟨k, h1, h2, rfl⟩
      exact ⟨(k - 1).toNat, List.mem_range.mpr (by omega), by rw [show 1 + ((k - 1).toNat : Int) = k by omega]⟩
/-- every candidate of the program, with what the law's has -/
structure Same (x : P4) (k0 k1 : K3) : Prop where
  a : k0.1 = x.1.1
  b : k0.2.1 = 0
  c : k0.2.2 = x.1.2
  d : k1.1 = x.2.1
  e : k1.2.1 = x.2.2
theorem same_add {x y : P4} {a b c d : K3} (h : Same x a b) (k : Same y c d) : Same (both x y) (add3 a c) (add3 b d) := by
  obtain ⟨h1, h2, h3, h4, h5⟩ := h
  obtain ⟨k1, k2, k3, k4, k5⟩ := k
  exact ⟨by show a.1 + c.1 = x.1.1 + y.1.1; omega, by show a.2.1 + c.2.1 = 0; omega, by show a.2.2 + c.2.2 + 1 = x.1.2 + y.1.2 + 1; omega, by show b.1 + d.1 = x.2.1 + y.2.1; omega, by show b.2.1 + d.2.1 = x.2.2 + y.2.2; omega⟩
theorem same_best {t : Told} (ok : t.Ok) : ∀ (n : Nat) (W H : Int), 0 ≤ W → 0 ≤ H → W + H ≤ n → Same (lawE t W H) (bestE t false W H).1 (bestE t true W H).1 := by
  intro n
  induction n with
  | zero =>
    intro W H h1 h2 h3
    rw [law_zero t (by omega), best_zero t false (by omega), best_zero t true (by omega)]
    exact ⟨rfl, rfl, rfl, rfl, rfl⟩
  | succ n ih =>
    intro W H h1 h2 h3
    by_cases z : W = 0 ∨ H = 0
    · rw [law_zero t (by omega), best_zero t false z, best_zero t true z]
      exact ⟨rfl, rfl, rfl, rfl, rfl⟩
    · have hW : 1 ≤ W := by omega
      have hH : 1 ≤ H := by omega
      have ia : ∀ k : Int, 1 ≤ k → k < W → Same (both (lawE t k H) (lawE t (sec t W k) H)) (add3 (bestE t false k H).1 (bestE t false (sec t W k) H).1) (add3 (bestE t true k H).1 (bestE t true (sec t W k) H).1) := fun k k1 k2 => by
        have := sec_nn t W k
        have := sec_lt ok k1 k2
        exact same_add (ih k H (by omega) (by omega) (by omega)) (ih (sec t W k) H (by omega) (by omega) (by omega))
      have id : ∀ k : Int, 1 ≤ k → k < H → Same (both (lawE t W k) (lawE t W (sec t H k))) (add3 (bestE t false W k).1 (bestE t false W (sec t H k)).1) (add3 (bestE t true W k).1 (bestE t true W (sec t H k)).1) := fun k k1 k2 => by
        have := sec_nn t H k
        have := sec_lt ok k1 k2
        exact same_add (ih W k (by omega) (by omega) (by omega)) (ih W (sec t H k) (by omega) (by omega) (by omega))
      obtain ⟨m0, l0⟩ := best_mem ok false hW hH
      obtain ⟨m1, l1⟩ := best_mem ok true hW hH
      have le : lawE t W H = mn4 (lcs t (lawE t) W H) := law_eq ok hW hH
      obtain ⟨n0, p0⟩ := fold_min2 ((lcs t (lawE t) W H).map (·.1)) (0, 0)
      obtain ⟨n1, p1⟩ := fold_min2 ((lcs t (lawE t) W H).map (·.2)) (0, 0)
      have e1 : (lawE t W H).1 = min2 (0, 0) ((lcs t (lawE t) W H).map (·.1)) := by rw [le]; rfl
      have e2 : (lawE t W H).2 = min2 (0, 0) ((lcs t (lawE t) W H).map (·.2)) := by rw [le]; rfl
      rw [← e1] at n0 p0
      rw [← e2] at n1 p1
      -- from the program to the law
      have fw0 : ∀ e ∈ e0E :: (slabC t false W H ++ acrC t (bestE t false) W H ++ dwnC t (bestE t false) W H), (e.1.1, e.1.2.2) ∈ ((0, 0) : Int × Int) :: (lcs t (lawE t) W H).map (·.1) ∧ e.1.2.1 = 0 := fun e he => by
        rcases List.mem_cons.mp he with rfl | he
        · exact ⟨List.mem_cons_self, rfl⟩
        · rcases List.mem_append.mp he with he | he
          · rcases List.mem_append.mp he with he | he
            · obtain ⟨k, o, a1, a2, a3, rfl⟩ := slab_mem.mp he
              exact ⟨List.mem_cons_of_mem _ (List.mem_map.mpr ⟨ordP o, lcs_mem.mpr (.inl ⟨o, List.mem_of_getElem? a1, a2, a3, rfl⟩), rfl⟩), rfl⟩
            · obtain ⟨k, a1, a2, rfl⟩ := acr_mem.mp he
              have s := ia k a1 a2
              exact ⟨List.mem_cons_of_mem _ (List.mem_map.mpr ⟨_, lcs_mem.mpr (.inr (.inl ⟨k, a1, a2, rfl⟩)), Prod.ext s.a.symm s.c.symm⟩), s.b⟩
          · obtain ⟨k, a1, a2, rfl⟩ := dwn_mem.mp he
            have s := id k a1 a2
            exact ⟨List.mem_cons_of_mem _ (List.mem_map.mpr ⟨_, lcs_mem.mpr (.inr (.inr ⟨k, a1, a2, rfl⟩)), Prod.ext s.a.symm s.c.symm⟩), s.b⟩
      have fw1 : ∀ e ∈ e0E :: (slabC t true W H ++ acrC t (bestE t true) W H ++ dwnC t (bestE t true) W H), (e.1.1, e.1.2.1) ∈ ((0, 0) : Int × Int) :: (lcs t (lawE t) W H).map (·.2) := fun e he => by
        rcases List.mem_cons.mp he with rfl | he
        · exact List.mem_cons_self
        · rcases List.mem_append.mp he with he | he
          · rcases List.mem_append.mp he with he | he
            · obtain ⟨k, o, a1, a2, a3, rfl⟩ := slab_mem.mp he
              exact List.mem_cons_of_mem _ (List.mem_map.mpr ⟨ordP o, lcs_mem.mpr (.inl ⟨o, List.mem_of_getElem? a1, a2, a3, rfl⟩), rfl⟩)
            · obtain ⟨k, a1, a2, rfl⟩ := acr_mem.mp he
              have s := ia k a1 a2
              exact List.mem_cons_of_mem _ (List.mem_map.mpr ⟨_, lcs_mem.mpr (.inr (.inl ⟨k, a1, a2, rfl⟩)), Prod.ext s.d.symm s.e.symm⟩)
          · obtain ⟨k, a1, a2, rfl⟩ := dwn_mem.mp he
            have s := id k a1 a2
            exact List.mem_cons_of_mem _ (List.mem_map.mpr ⟨_, lcs_mem.mpr (.inr (.inr ⟨k, a1, a2, rfl⟩)), Prod.ext s.d.symm s.e.symm⟩)
      -- from the law to the program
      have bw0 : ∀ y ∈ ((0, 0) : Int × Int) :: (lcs t (lawE t) W H).map (·.1), ∃ e ∈ e0E :: (slabC t false W H ++ acrC t (bestE t false) W H ++ dwnC t (bestE t false) W H), e.1.1 = y.1 ∧ e.1.2.1 = 0 ∧ e.1.2.2 = y.2 := fun y hy => by
        rcases List.mem_cons.mp hy with rfl | hy
        · exact ⟨e0E, List.mem_cons_self, rfl, rfl, rfl⟩
        · obtain ⟨x, hx, rfl⟩ := List.mem_map.mp hy
          rcases lcs_mem.mp hx with ⟨o, a1, a2, a3, rfl⟩ | ⟨k, a1, a2, rfl⟩ | ⟨k, a1, a2, rfl⟩
          · obtain ⟨i, hi, rfl⟩ := List.mem_iff_getElem.mp a1
            exact ⟨_, List.mem_cons_of_mem _ (List.mem_append_left _ (List.mem_append_left _ (slab_mem.mpr ⟨i, _, List.getElem?_eq_getElem hi, a2, a3, rfl⟩))), rfl, rfl, rfl⟩
          · have s := ia k a1 a2
            exact ⟨_, List.mem_cons_of_mem _ (List.mem_append_left _ (List.mem_append_right _ (acr_mem.mpr ⟨k, a1, a2, rfl⟩))), s.a, s.b, s.c⟩
          · have s := id k a1 a2
            exact ⟨_, List.mem_cons_of_mem _ (List.mem_append_right _ (dwn_mem.mpr ⟨k, a1, a2, rfl⟩)), s.a, s.b, s.c⟩
      have bw1 : ∀ y ∈ ((0, 0) : Int × Int) :: (lcs t (lawE t) W H).map (·.2), ∃ e ∈ e0E :: (slabC t true W H ++ acrC t (bestE t true) W H ++ dwnC t (bestE t true) W H), e.1.1 = y.1 ∧ e.1.2.1 = y.2 := fun y hy => by
        rcases List.mem_cons.mp hy with rfl | hy
        · exact ⟨e0E, List.mem_cons_self, rfl, rfl⟩
        · obtain ⟨x, hx, rfl⟩ := List.mem_map.mp hy
          rcases lcs_mem.mp hx with ⟨o, a1, a2, a3, rfl⟩ | ⟨k, a1, a2, rfl⟩ | ⟨k, a1, a2, rfl⟩
          · obtain ⟨i, hi, rfl⟩ := List.mem_iff_getElem.mp a1
            exact ⟨_, List.mem_cons_of_mem _ (List.mem_append_left _ (List.mem_append_left _ (slab_mem.mpr ⟨i, _, List.getElem?_eq_getElem hi, a2, a3, rfl⟩))), rfl, rfl⟩
          · have s := ia k a1 a2
            exact ⟨_, List.mem_cons_of_mem _ (List.mem_append_left _ (List.mem_append_right _ (acr_mem.mpr ⟨k, a1, a2, rfl⟩))), s.d, s.e⟩
          · have s := id k a1 a2
            exact ⟨_, List.mem_cons_of_mem _ (List.mem_append_right _ (dwn_mem.mpr ⟨k, a1, a2, rfl⟩)), s.d, s.e⟩
      obtain ⟨f0, f0'⟩ := fw0 _ m0
      have f1 := fw1 _ m1
      obtain ⟨u0, hu0, v1, v2, v3⟩ := bw0 _ n0
      obtain ⟨u1, hu1, w1, w2⟩ := bw1 _ n1
      have q1 := p0 _ f0
      have q2 := l0 _ hu0
      have q3 := p1 _ f1
      have q4 := l1 _ hu1
      rw [lt2_iff] at q1 q3
      rw [lt3_iff] at q2 q4
      have q1 : ¬ ((bestE t false W H).1.1 < (lawE t W H).1.1 ∨ ((bestE t false W H).1.1 = (lawE t W H).1.1 ∧ (bestE t false W H).1.2.2 < (lawE t W H).1.2)) := q1
      have q3 : ¬ ((bestE t true W H).1.1 < (lawE t W H).2.1 ∨ ((bestE t true W H).1.1 = (lawE t W H).2.1 ∧ (bestE t true W H).1.2.1 < (lawE t W H).2.2)) := q3
      exact ⟨by omega, f0', by omega, by omega, by omega⟩
end K00
namespace K00
open PySem Vs
/-! the best tree, and all trees -/
structure Bst (t : Told) (e : En) (W H : Int) : Prop where
  low : W = 0 ∨ H = 0 → e.2 = .non
  hi : 1 ≤ W → 1 ≤ H → tk t e.2 W H = true
  sm : ((sn e.2).map (prc t)).sum = 0 - e.1.1
  cu : ct e.2 = e.1.2.2
  de : (dep e.2 : Int) ≤ W + H
  dd : (dp e.2 : Int) ≤ W + H + 1
  sz : 1 ≤ W → 1 ≤ H → (sz e.2 : Int) ≤ 2 * (W * H)
theorem bst_cut {t : Told} (ok : t.Ok) {d : Bool} {k W H : Int} {a b : En} (hW : 1 ≤ W) (hH : 1 ≤ H) (h0 : 1 ≤ k) (h1 : k < if d then W else H) (A : Bst t a (if d then k else W) (if d then H else k)) (B : Bst t b (if d then sec t W k else W) (if d then H else sec t H k)) : Bst t (cutE d k a b) W H := by
  have A3 := A.sm; have A4 := A.cu; have A5 := A.de; have A6 := A.dd
  have B3 := B.sm; have B4 := B.cu; have B5 := B.de; have B6 := B.dd
  have rest : ∀ m n : Int, 0 ≤ m → 0 ≤ n → Bst t b m n → (if m = 0 ∨ n = 0 then isNon b.2 else tk t b.2 m n) = true := fun m n hm hn B => by
    by_cases q : m = 0 ∨ n = 0
    · rw [if_pos q, B.low q]; rfl
    · rw [if_neg q]; exact B.hi (by omega) (by omega)
  have szr : ∀ m n : Int, 0 ≤ m → 0 ≤ n → Bst t b m n → (sz b.2 : Int) ≤ 2 * (m * n) + 1 ∧ (1 ≤ m → 1 ≤ n → (sz b.2 : Int) ≤ 2 * (m * n)) := fun m n hm hn B => by
    refine ⟨?_, B.sz⟩
    by_cases q : m = 0 ∨ n = 0
    · rw [B.low q]
      have : m * n = 0 := by
        rcases q with rfl | rfl
        · exact Int.zero_mul _
        · exact Int.mul_zero _
      rw [this]
      exact Int.le_refl _
    · have := B.sz (by omega) (by omega)
      omega
  cases d with
  | true =>
    have h1 : k < W := h1
    have A : Bst t a k H := A
    have B : Bst t b (sec t W k) H := B
    have A5 : (dep a.2 : Int) ≤ k + H := A5
    have A6 : (dp a.2 : Int) ≤ k + H + 1 := A6
    have B5 : (dep b.2 : Int) ≤ sec t W k + H := B5
    have B6 : (dp b.2 : Int) ≤ sec t W k + H + 1 := B6
    have s0 := sec_nn t W k
    have s1 := sec_lt ok h0 h1
    have s2 : k + sec t W k ≤ W := by
      have := ok.k0
      unfold sec
      split <;> omega
    refine ⟨fun h => (by omega), fun _ _ => ?_, ?_, ?_, ?_, ?_, fun _ _ => ?_⟩
    · show tk t (.node true k a.2 b.2) W H = true
      simp only [tk, if_true]
      rw [decide_eq_true h0, decide_eq_true h1, A.hi h0 hH, rest _ _ s0 (by omega) B]; rfl
    · show ((sn a.2 ++ sn b.2).map (prc t)).sum = 0 - (a.1.1 + b.1.1)
      rw [List.map_append, List.sum_append]; omega
    · show 1 + ct a.2 + ct b.2 = a.1.2.2 + b.1.2.2 + 1
      omega
    · show ((max (dep a.2) (dep b.2) + 1 : Nat) : Int) ≤ W + H
      omega
    · show ((max (dp a.2) (dp b.2) + 1 : Nat) : Int) ≤ W + H + 1
      omega
    · show ((sz a.2 + sz b.2 : Nat) : Int) ≤ 2 * (W * H)
      have a7 := A.sz h0 hH
      obtain ⟨b7, b8⟩ := szr _ _ s0 (by omega) B
      have m1 : (k + sec t W k) * H ≤ W * H := Int.mul_le_mul_of_nonneg_right s2 (by omega)
      rw [Int.add_mul] at m1
      by_cases q : 1 ≤ sec t W k
      · have := b8 q hH
        omega
      · have q0 : sec t W k = 0 := by omega
        have m2 : (k + 1) * H ≤ W * H := Int.mul_le_mul_of_nonneg_right (by omega) (by omega)
        rw [Int.add_mul, Int.one_mul] at m2
        rw [q0, Int.zero_mul] at b7
        omega
  | false =>
    have h1 : k < H := h1
    have A : Bst t a W k := A
    have B : Bst t b W (sec t H k) := B
    have A5 : (dep a.2 : Int) ≤ W + k := A5
    have A6 : (dp a.2 : Int) ≤ W + k + 1 := A6
    have B5 : (dep b.2 : Int) ≤ W + sec t H k := B5
    have B6 : (dp b.2 : Int) ≤ W + sec t H k + 1 := B6
    have s0 := sec_nn t H k
    have s1 := sec_lt ok h0 h1
    have s2 : k + sec t H k ≤ H := by
      have := ok.k0
      unfold sec
      split <;> omega
    refine ⟨fun h => (by omega), fun _ _ => ?_, ?_, ?_, ?_, ?_, fun _ _ => ?_⟩
    · show tk t (.node false k a.2 b.2) W H = true
      simp only [tk, Bool.false_eq_true, if_false]
      rw [decide_eq_true h0, decide_eq_true h1, A.hi hW h0, rest _ _ (by omega) s0 B]; rfl
    · show ((sn a.2 ++ sn b.2).map (prc t)).sum = 0 - (a.1.1 + b.1.1)
      rw [List.map_append, List.sum_append]; omega
    · show 1 + ct a.2 + ct b.2 = a.1.2.2 + b.1.2.2 + 1
      omega
    · show ((max (dep a.2) (dep b.2) + 1 : Nat) : Int) ≤ W + H
      omega
    · show ((max (dp a.2) (dp b.2) + 1 : Nat) : Int) ≤ W + H + 1
      omega
    · show ((sz a.2 + sz b.2 : Nat) : Int) ≤ 2 * (W * H)
      have a7 := A.sz hW h0
      obtain ⟨b7, b8⟩ := szr _ _ (by omega) s0 B
      have m1 : W * (k + sec t H k) ≤ W * H := Int.mul_le_mul_of_nonneg_left s2 (by omega)
      rw [Int.mul_add] at m1
      by_cases q : 1 ≤ sec t H k
      · have := b8 hW q
        omega
      · have q0 : sec t H k = 0 := by omega
        have m2 : W * (k + 1) ≤ W * H := Int.mul_le_mul_of_nonneg_left (by omega) (by omega)
        rw [Int.mul_add, Int.mul_one] at m2
        rw [q0, Int.mul_zero] at b7
        omega
theorem best_is {t : Told} (ok : t.Ok) : ∀ (n : Nat) (W H : Int), 0 ≤ W → 0 ≤ H → W + H ≤ n → Bst t (bestE t false W H) W H := by
  intro n
  induction n with
  | zero =>
    intro W H h1 h2 h3
    rw [best_zero t false (by omega)]
    exact ⟨fun _ => rfl, fun a b => (by omega), rfl, rfl, by show ((0 : Nat) : Int) ≤ W + H; omega, by show ((1 : Nat) : Int) ≤ W + H + 1; omega, fun a b => (by omega)⟩
  | succ n ih =>
    intro W H h1 h2 h3
    by_cases z : W = 0 ∨ H = 0
    · rw [best_zero t false z]
      exact ⟨fun _ => rfl, fun a b => (by omega), rfl, rfl, by show ((0 : Nat) : Int) ≤ W + H; omega, by show ((1 : Nat) : Int) ≤ W + H + 1; omega, fun a b => (by omega)⟩
    · have hW : 1 ≤ W := by omega
      have hH : 1 ≤ H := by omega
      have one : 1 * 1 ≤ W * H := Int.mul_le_mul hW hH (by omega) (by omega)
      obtain ⟨m0, _⟩ := best_mem ok false hW hH
      generalize bestE t false W H = e at m0
      rcases List.mem_cons.mp m0 with rfl | he
      · exact ⟨fun h => (by omega), fun _ _ => rfl, rfl, rfl, by show ((0 : Nat) : Int) ≤ W + H; omega, by show ((1 : Nat) : Int) ≤ W + H + 1; omega, fun _ _ => by show ((1 : Nat) : Int) ≤ 2 * (W * H); omega⟩
      · rcases List.mem_append.mp he with he | he
        · rcases List.mem_append.mp he with he | he
          · obtain ⟨k, o, a1, a2, a3, rfl⟩ := slab_mem.mp he
            refine ⟨fun h => (by omega), fun _ _ => fits_iff.mpr ⟨o, a1, a2, a3⟩, ?_, rfl, by show ((0 : Nat) : Int) ≤ W + H; omega, by show ((1 : Nat) : Int) ≤ W + H + 1; omega, fun _ _ => by show ((1 : Nat) : Int) ≤ 2 * (W * H); omega⟩
            have e : prc t k = o.p := by
              unfold prc
              rw [Int.toNat_natCast, a1]
            show prc t k + 0 = 0 - (0 - o.p)
            omega
          · obtain ⟨k, a1, a2, rfl⟩ := acr_mem.mp he
            have s0 := sec_nn t W k
            have s1 := sec_lt ok a1 a2
            exact bst_cut (d := true) ok hW hH a1 a2 (ih k H (by omega) (by omega) (by omega)) (ih (sec t W k) H s0 (by omega) (by omega))
        · obtain ⟨k, a1, a2, rfl⟩ := dwn_mem.mp he
          have s0 := sec_nn t H k
          have s1 := sec_lt ok a1 a2
          exact bst_cut (d := false) ok hW hH a1 a2 (ih W k (by omega) (by omega) (by omega)) (ih W (sec t H k) (by omega) s0 (by omega))
/-- the greatest price -/
def gpr (t : Told) (W H : Int) : Int := 0 - (bestE t false W H).1.1
theorem gpr_zero (t : Told) {W H : Int} (z : W = 0 ∨ H = 0) : gpr t W H = 0 := by
  unfold gpr
  rw [best_zero t false z]; rfl
theorem gpr_le {t : Told} (ok : t.Ok) {W H : Int} (hW : 1 ≤ W) (hH : 1 ≤ H) {e : En} (he : e ∈ e0E :: (slabC t false W H ++ acrC t (bestE t false) W H ++ dwnC t (bestE t false) W H)) : 0 - e.1.1 ≤ gpr t W H := by
  obtain ⟨_, l0⟩ := best_mem ok false hW hH
  have q := l0 e he
  rw [lt3_iff] at q
  unfold gpr
  omega
theorem gpr_nn {t : Told} (ok : t.Ok) {W H : Int} (hW : 0 ≤ W) (hH : 0 ≤ H) : 0 ≤ gpr t W H := by
  by_cases z : W = 0 ∨ H = 0
  · rw [gpr_zero t z]; exact Int.le_refl _
  · exact gpr_le ok (by omega) (by omega) (e := e0E) List.mem_cons_self
theorem gpr_ord {t : Told} (ok : t.Ok) {k : Nat} {o : Ord} (e : t.os[k]? = some o) : o.p ≤ gpr t o.w o.h := by
  have hm := List.mem_of_getElem? e
  have h := gpr_le ok (ok.w o hm).1 (ok.h o hm).1 (e := (skey false o, .slab k)) (List.mem_cons_of_mem _ (List.mem_append_left _ (List.mem_append_left _ (slab_mem.mpr ⟨k, o, e, rfl, rfl, rfl⟩))))
  have h : 0 - (0 - o.p) ≤ gpr t o.w o.h := h
  omega
theorem gpr_acr {t : Told} (ok : t.Ok) {W H k : Int} (hH : 0 ≤ H) (h0 : 1 ≤ k) (h1 : k < W) : gpr t k H + gpr t (sec t W k) H ≤ gpr t W H := by
  by_cases z : H = 0
  · rw [gpr_zero t (.inr z), gpr_zero t (.inr z), gpr_zero t (.inr z)]; exact Int.le_refl _
  · have h := gpr_le ok (W := W) (H := H) (by omega) (by omega) (e := cutE true k (bestE t false k H) (bestE t false (sec t W k) H)) (List.mem_cons_of_mem _ (List.mem_append_left _ (List.mem_append_right _ (acr_mem.mpr ⟨k, h0, h1, rfl⟩))))
    have h : 0 - ((bestE t false k H).1.1 + (bestE t false (sec t W k) H).1.1) ≤ gpr t W H := h
    unfold gpr at h ⊢
    omega
theorem gpr_dwn {t : Told} (ok : t.Ok) {W H k : Int} (hW : 0 ≤ W) (h0 : 1 ≤ k) (h1 : k < H) : gpr t W k + gpr t W (sec t H k) ≤ gpr t W H := by
  by_cases z : W = 0
  · rw [gpr_zero t (.inl z), gpr_zero t (.inl z), gpr_zero t (.inl z)]; exact Int.le_refl _
  · have h := gpr_le ok (W := W) (H := H) (by omega) (by omega) (e := cutE false k (bestE t false W k) (bestE t false W (sec t H k))) (List.mem_cons_of_mem _ (List.mem_append_right _ (dwn_mem.mpr ⟨k, h0, h1, rfl⟩)))
    have h : 0 - ((bestE t false W k).1.1 + (bestE t false W (sec t H k)).1.1) ≤ gpr t W H := h
    unfold gpr at h ⊢
    omega
/-- no tree is worth more -/
theorem tree_le {t : Told} (ok : t.Ok) : ∀ (x : T) (W H : Int), 1 ≤ W → 1 ≤ H → tk t x W H = true → ((sn x).map (prc t)).sum ≤ gpr t W H := by
  intro x
  induction x with
  | node d k a b iha ihb =>
    intro W H hW hH hk
    have rest : ∀ m n : Int, 0 ≤ m → 0 ≤ n → (if m = 0 ∨ n = 0 then isNon b else tk t b m n) = true → ((sn b).map (prc t)).sum ≤ gpr t m n := fun m n hm hn h => by
      by_cases q : m = 0 ∨ n = 0
      · rw [if_pos q] at h
        rw [gpr_zero t q]
        cases b <;> first | exact Int.le_refl _ | cases h
      · rw [if_neg q] at h
        exact ihb m n (by omega) (by omega) h
    show ((sn a ++ sn b).map (prc t)).sum ≤ gpr t W H
    rw [List.map_append, List.sum_append]
    cases d with
    | true =>
      simp only [tk, if_true, Bool.and_eq_true, decide_eq_true_eq] at hk
      obtain ⟨⟨⟨h0, h1⟩, h2⟩, h3⟩ := hk
      have := iha k H h0 hH h2
      have := rest _ _ (sec_nn t W k) (by omega) h3
      have := gpr_acr ok (W := W) (H := H) (k := k) (by omega) h0 h1
      omega
    | false =>
      simp only [tk, Bool.false_eq_true, if_false, Bool.and_eq_true, decide_eq_true_eq] at hk
      obtain ⟨⟨⟨h0, h1⟩, h2⟩, h3⟩ := hk
      have := iha W k hW h0 h2
      have := rest _ _ (by omega) (sec_nn t H k) h3
      have := gpr_dwn ok (W := W) (H := H) (k := k) (by omega) h0 h1
      omega
  | waste => intro W H hW hH _; exact gpr_nn ok (by omega) (by omega)
  | slab i =>
    intro W H hW hH hk
    have hf : fits t i W H = true := hk
    have hr := fits_in hf
    obtain ⟨k, rfl⟩ : ∃ k : Nat, i = k := ⟨i.toNat, by omega⟩
    obtain ⟨o, e, rfl, rfl⟩ := fits_iff.mp hf
    have h := gpr_ord ok e
    have pe : prc t k = o.p := by
      unfold prc
      rw [Int.toNat_natCast, e]
    show prc t k + 0 ≤ _
    omega
  | _ => intro W H _ _ hk; cases hk
/-! the table of prices -/
theorem price_at2 {t : Told} {W H w h : Int} (hw : 0 ≤ w ∧ w ≤ W) (hh : 0 ≤ h ∧ h ≤ H) : atT (priceL t W H) w h = gpr t w h := by
  unfold atT
  by_cases z : w < 1 ∨ h < 1
  · rw [if_pos z, gpr_zero t (by omega)]
  · rw [if_neg z]
    unfold priceL
    have k1 : (h - 1).toNat < (List.range H.toNat).length := by rw [List.length_range]; omega
    rw [getD_map (fun (k : Nat) => priceR t W (1 + k)) (List.range H.toNat) (h - 1).toNat 0 [] k1]
    have e1 : (List.range H.toNat).getD (h - 1).toNat 0 = (h - 1).toNat := by
      rw [List.getD_eq_getElem?_getD, List.getElem?_eq_getElem k1, List.getElem_range]; rfl
    rw [e1]
    unfold priceR
    have k2 : (w - 1).toNat < (List.range W.toNat).length := by rw [List.length_range]; omega
    rw [getD_map (fun (k : Nat) => 0 - (bestE t false (1 + k) (1 + ((h - 1).toNat : Int))).1.1) (List.range W.toNat) (w - 1).toNat 0 0 k2]
    have e2 : (List.range W.toNat).getD (w - 1).toNat 0 = (w - 1).toNat := by
      rw [List.getD_eq_getElem?_getD, List.getElem?_eq_getElem k2, List.getElem_range]; rfl
    rw [e2]
    rw [show 1 + ((h - 1).toNat : Int) = h by omega, show 1 + ((w - 1).toNat : Int) = w by omega]
    rfl
theorem price_tab {t : Told} (ok : t.Ok) {W H : Int} (hW : 0 ≤ W) (hH : 0 ≤ H) : Tab W H (priceL t W H) := by
  refine ⟨by unfold priceL; rw [List.length_map, List.length_range]; omega, fun r hr => ?_, fun r hr x hx => ?_⟩
  · obtain ⟨k, _, rfl⟩ := List.mem_map.mp hr
    unfold priceR
    rw [List.length_map, List.length_range]; omega
  · obtain ⟨k, _, rfl⟩ := List.mem_map.mp hr
    obtain ⟨c, _, rfl⟩ := List.mem_map.mp hx
    exact gpr_nn ok (W := 1 + c) (H := 1 + k) (by omega) (by omega)
theorem price_closed {t : Told} (ok : t.Ok) {W H : Int} (hW : 0 ≤ W) (hH : 0 ≤ H) : clT t W H (priceL t W H) = true := by
  unfold clT
  rw [Bool.and_eq_true, List.all_eq_true, List.all_eq_true]
  constructor
  · intro k hk
    have hk := List.mem_range.mp hk
    have e0 : t.os[k]? = some t.os[k] := List.getElem?_eq_getElem hk
    have hm : t.os[k] ∈ t.os := List.getElem_mem hk
    rw [e0]
    show ordG W H (priceL t W H) t.os[k] = true
    unfold ordG
    by_cases h1 : t.os[k].w ≤ W
    · by_cases h2 : t.os[k].h ≤ H
      · have a := ok.w _ hm
        have b := ok.h _ hm
        have g := gpr_ord ok e0
        rw [price_at2 (t := t) (W := W) (H := H) (w := t.os[k].w) (h := t.os[k].h) (by omega) (by omega), decide_eq_false (show ¬ gpr t t.os[k].w t.os[k].h < t.os[k].p by omega), Bool.and_false, Bool.and_false]
        rfl
      · rw [decide_eq_false h2, Bool.false_and, Bool.and_false]; rfl
    · rw [decide_eq_false h1, Bool.false_and]; rfl
  · intro r hr
    have hr := List.mem_range.mp hr
    rw [List.all_eq_true]
    intro c hc
    have hc := List.mem_range.mp hc
    unfold clAt
    rw [Bool.and_eq_true, List.all_eq_true, List.all_eq_true]
    constructor
    · intro k hk
      have hk := List.mem_range.mp hk
      have s0 := sec_nn t (1 + c) (1 + k)
      have s1 := sec_lt ok (n := 1 + c) (k := 1 + k) (by omega) (by omega)
      apply decide_eq_true
      rw [price_at2 (by omega) (by omega), price_at2 (by omega) (by omega), price_at2 (by omega) (by omega)]
      exact gpr_acr ok (by omega) (by omega) (by omega)
    · intro k hk
      have hk := List.mem_range.mp hk
      have s0 := sec_nn t (1 + r) (1 + k)
      have s1 := sec_lt ok (n := 1 + r) (k := 1 + k) (by omega) (by omega)
      apply decide_eq_true
      rw [price_at2 (by omega) (by omega), price_at2 (by omega) (by omega), price_at2 (by omega) (by omega)]
      exact gpr_dwn ok (by omega) (by omega) (by omega)
/-- no closed table has less -/
theorem closed_ge {t : Told} (ok : t.Ok) {W H : Int} {tab : List (List Int)} (T : Tab W H tab) (hc : clT t W H tab = true) : ∀ (n : Nat) (w h : Int), 0 ≤ w ∧ w ≤ W → 0 ≤ h ∧ h ≤ H → w + h ≤ n → gpr t w h ≤ atT tab w h := by
  unfold clT at hc
  rw [Bool.and_eq_true, List.all_eq_true, List.all_eq_true] at hc
  obtain ⟨hc1, hc2⟩ := hc
  intro n
  induction n with
  | zero =>
    intro w h h1 h2 h3
    rw [gpr_zero t (by omega)]
    exact tat_nn T h1 h2
  | succ n ih =>
    intro w h h1 h2 h3
    by_cases z : w = 0 ∨ h = 0
    · rw [gpr_zero t z]
      exact tat_nn T h1 h2
    · obtain ⟨m0, _⟩ := best_mem ok false (W := w) (H := h) (by omega) (by omega)
      have cl := hc2 (h - 1).toNat (List.mem_range.mpr (by omega))
      rw [List.all_eq_true] at cl
      have cl := cl (w - 1).toNat (List.mem_range.mpr (by omega))
      rw [show 1 + ((h - 1).toNat : Int) = h by omega, show 1 + ((w - 1).toNat : Int) = w by omega] at cl
      unfold clAt at cl
      rw [Bool.and_eq_true, List.all_eq_true, List.all_eq_true] at cl
      rcases List.mem_cons.mp m0 with q | he
      · have : gpr t w h = 0 := by unfold gpr; rw [q]; rfl
        rw [this]
        exact tat_nn T h1 h2
      · rcases List.mem_append.mp he with he | he
        · rcases List.mem_append.mp he with he | he
          · obtain ⟨k, o, a1, a2, a3, q⟩ := slab_mem.mp he
            have g : gpr t w h = o.p := by
              unfold gpr
              rw [q]
              show 0 - (0 - o.p) = o.p
              omega
            have c := hc1 k (List.mem_range.mpr (List.getElem?_eq_some_iff.mp a1).1)
            rw [a1] at c
            have c : ordG W H tab o = true := c
            unfold ordG at c
            rw [decide_eq_true (show o.w ≤ W by omega), decide_eq_true (show o.h ≤ H by omega), Bool.true_and, Bool.true_and, Bool.not_eq_true', decide_eq_false_iff_not] at c
            rw [a2, a3] at c
            omega
          · obtain ⟨k, a1, a2, q⟩ := acr_mem.mp he
            have s0 := sec_nn t w k
            have s1 := sec_lt ok a1 a2
            have g : gpr t w h = gpr t k h + gpr t (sec t w k) h := by
              unfold gpr
              rw [q]
              show 0 - ((bestE t false k h).1.1 + (bestE t false (sec t w k) h).1.1) = _
              omega
            have c := of_decide_eq_true (cl.1 (k - 1).toNat (List.mem_range.mpr (by omega)))
            rw [show 1 + ((k - 1).toNat : Int) = k by omega] at c
            have i1 := ih k h (by omega) h2 (by omega)
            have i2 := ih (sec t w k) h (by omega) h2 (by omega)
            omega
        · obtain ⟨k, a1, a2, q⟩ := dwn_mem.mp he
          have s0 := sec_nn t h k
          have s1 := sec_lt ok a1 a2
          have g : gpr t w h = gpr t w k + gpr t w (sec t h k) := by
            unfold gpr
            rw [q]
            show 0 - ((bestE t false w k).1.1 + (bestE t false w (sec t h k)).1.1) = _
            omega
          have c := of_decide_eq_true (cl.2 (k - 1).toNat (List.mem_range.mpr (by omega)))
          rw [show 1 + ((k - 1).toNat : Int) = k by omega] at c
          have i1 := ih w k h1 (by omega) (by omega)
          have i2 := ih w (sec t h k) h1 (by omega) (by omega)
          omega
end K00
namespace K00
open PySem Vs
/-! what repr shows of tables -/
structure Lf (d : PyData) : Prop where
  sh : d.showable = true
  ls : d.leavesShort 13 = true
  so : PyData.strOk d.shown = true
  nd : d.hasDict = false
  dp : d.depth = 0
  bk : d.bulk = 0
theorem so_all {x : Str} (h : ∀ c ∈ x.cps.toList, c < 0x110000) : PyData.strOk x = true := by
  show x.cps.all (· < 0x110000) = true
  rw [← Array.all_toList, List.all_eq_true]
  exact fun c hc => decide_eq_true (h c hc)
theorem lf_int {x : Int} (h0 : -1 ≤ x) (h1 : x ≤ 1000000) : Lf (.int x) := by
  refine ⟨?_, ?_, so_all fun c hc => ?_, rfl, rfl, rfl⟩
  · show decide (x.natAbs.log2 < 1920) = true
    rw [decide_eq_true_eq]
    have : x.natAbs < 2 ^ 1920 := Nat.lt_of_lt_of_le (show x.natAbs < 2 ^ 20 by omega) (Nat.pow_le_pow_right (by omega) (by omega))
    by_cases z : x.natAbs = 0
    · rw [z]; decide
    · exact (Nat.log2_lt z).mpr this
  · show decide ((PyData.shown (.int x)).length ≤ 13) = true
    rw [decide_eq_true_eq]
    exact PyData.shown_int_le2 (by omega) (by omega)
  · by_cases z : c < 0x110000
    · exact z
    · exact absurd hc (PyProof.Rows.shown_int_free' ⟨by omega, .inr (by omega)⟩ x)
theorem lf_none : Lf .none := ⟨by decide +kernel, by decide +kernel, by decide +kernel, rfl, rfl, rfl⟩
def Gs (d : PyData) : Prop := d.showable = true ∧ d.leavesShort 13 = true ∧ PyData.strOk d.shown = true ∧ d.hasDict = false
theorem gs_all : ∀ {ds : List PyData}, (∀ d ∈ ds, Gs d) → PyData.showableAll ds = true ∧ PyData.leavesShortAll 13 ds = true ∧ (∀ x ∈ PyData.shownAll ds, PyData.strOk x = true) ∧ PyData.hasDictAll ds = false
  | [], _ => ⟨rfl, rfl, fun _ h => (by cases h), rfl⟩
  | d :: ds, h => by
    obtain ⟨h1, h2, h3, h4⟩ := h d List.mem_cons_self
    obtain ⟨k1, k2, k3, k4⟩ := gs_all (ds := ds) fun e he => h e (List.mem_cons_of_mem _ he)
    refine ⟨by simp only [PyData.showableAll, h1, k1, Bool.and_true], by simp only [PyData.leavesShortAll, h2, k2, Bool.and_true], fun x hx => ?_, by simp only [PyData.hasDictAll, h4, k4, Bool.or_false]⟩
    rcases List.mem_cons.mp (show x ∈ PyData.shown d :: PyData.shownAll ds from hx) with rfl | hx
    · exact h3
    · exact k3 x hx
theorem so_join : ∀ {ts : List Str}, (∀ x ∈ ts, PyData.strOk x = true) → PyData.strOk (Str.join ", " ts) = true
  | [], _ => by decide +kernel
  | [x], h => h x List.mem_cons_self
  | x :: y :: r, h => by
    show PyData.strOk (x ++ ", " ++ Str.join ", " (y :: r)) = true
    rw [so_app, so_app, h x List.mem_cons_self, so_join fun z hz => h z (List.mem_cons_of_mem _ hz)]
    decide +kernel
theorem so_from : ∀ {ts : List Str} {k : Nat} {acc : Str}, PyData.strOk acc = true → (∀ x ∈ ts, PyData.strOk x = true) → PyData.strOk (textFrom k acc ts) = true
  | [], _, _, h, _ => h
  | x :: r, k, acc, h, hx => by
    show PyData.strOk (textFrom (k + 1) (acc ++ (if k > 0 then ", " else "" : String) ++ x) r) = true
    refine so_from ?_ fun z hz => hx z (List.mem_cons_of_mem _ hz)
    rw [so_app, so_app, h, hx x List.mem_cons_self]
    by_cases z : k > 0
    · rw [if_pos z]; decide +kernel
    · rw [if_neg z]; decide +kernel
theorem gs_tuple {ds : List PyData} (h : ∀ d ∈ ds, Gs d) : Gs (.tuple ds) := by
  obtain ⟨h1, h2, h3, h4⟩ := gs_all h
  refine ⟨by simp only [PyData.showable, h1], by simp only [PyData.leavesShort, h2], ?_, by simp only [PyData.hasDict, h4]⟩
  show PyData.strOk (("(" : Str) ++ Str.join ", " (PyData.shownAll ds) ++ (if (PyData.shownAll ds).length == 1 then ",)" else ")" : String)) = true
  rw [so_app, so_app, so_join h3]
  cases (PyData.shownAll ds).length == 1 <;> decide +kernel
theorem gs_list {ds : List PyData} (h : ∀ d ∈ ds, Gs d) : Gs (.list ds) := by
  obtain ⟨h1, h2, h3, h4⟩ := gs_all h
  refine ⟨by simp only [PyData.showable, h1], by simp only [PyData.leavesShort, h2], ?_, by simp only [PyData.hasDict, h4]⟩
  show PyData.strOk (textFrom 0 "[" (PyData.shownAll ds) ++ (("]" : String) : Str)) = true
  rw [so_app, so_from (by decide +kernel) h3]
  decide +kernel
def lfD : PV → PyData
  | .int i => .int i
  | _ => .none
def okL (x : PV) : Prop := x = .non ∨ ∃ i, x = .int i ∧ -1 ≤ i ∧ i ≤ 1000000
theorem okL_lf {x : PV} (h : okL x) : Lf (lfD x) ∧ toD x = some (lfD x) := by
  rcases h with rfl | ⟨i, rfl, h0, h1⟩
  · exact ⟨lf_none, rfl⟩
  · exact ⟨lf_int h0 h1, rfl⟩
theorem toDs_row : ∀ {r : List PV}, (∀ x ∈ r, okL x) → toDs r = some (r.map lfD)
  | [], _ => rfl
  | x :: r, h => by
    have e := (okL_lf (h x List.mem_cons_self)).2
    have ih := toDs_row (r := r) fun y hy => h y (List.mem_cons_of_mem _ hy)
    simp only [toDs, e, ih, List.map_cons]
theorem toDs_rows : ∀ {rows : List (List PV)}, (∀ r ∈ rows, ∀ x ∈ r, okL x) → toDs (rows.map .tup) = some (rows.map fun r => .tuple (r.map lfD))
  | [], _ => rfl
  | r :: rows, h => by
    have e := toDs_row (h r List.mem_cons_self)
    have ih := toDs_rows (rows := rows) fun y hy => h y (List.mem_cons_of_mem _ hy)
    simp only [List.map_cons, toDs, toD, e, ih, Option.map_some]
theorem row_gs {r : List PV} (h : ∀ x ∈ r, okL x) : Gs (.tuple (r.map lfD)) := gs_tuple fun d hd => by
  obtain ⟨x, hx, rfl⟩ := List.mem_map.mp hd
  have l := (okL_lf (h x hx)).1
  exact ⟨l.sh, l.ls, l.so, l.nd⟩
theorem row_deep : ∀ {r : List PV}, (∀ x ∈ r, okL x) → PyData.depthAll (r.map lfD) = 0
  | [], _ => rfl
  | x :: r, h => by
    show max (lfD x).depth (PyData.depthAll (r.map lfD)) = 0
    rw [row_deep fun y hy => h y (List.mem_cons_of_mem _ hy), (okL_lf (h x List.mem_cons_self)).1.dp]; rfl
theorem row_bulk : ∀ {r : List PV}, (∀ x ∈ r, okL x) → PyData.bulkAll (r.map lfD) = r.length
  | [], _ => rfl
  | x :: r, h => by
    show (lfD x).bulk + 1 + PyData.bulkAll (r.map lfD) = r.length + 1
    rw [row_bulk fun y hy => h y (List.mem_cons_of_mem _ hy), (okL_lf (h x List.mem_cons_self)).1.bk]; omega
theorem rows_deep : ∀ {rows : List (List PV)}, (∀ r ∈ rows, ∀ x ∈ r, okL x) → PyData.depthAll (rows.map fun r => PyData.tuple (r.map lfD)) ≤ 1
  | [], _ => Nat.zero_le _
  | r :: rows, h => by
    have ih := rows_deep (rows := rows) fun y hy => h y (List.mem_cons_of_mem _ hy)
    have e := row_deep (h r List.mem_cons_self)
    show max (PyData.depthAll (r.map lfD) + 1) (PyData.depthAll (rows.map fun r => PyData.tuple (r.map lfD))) ≤ 1
    omega
theorem rows_bulk : ∀ {rows : List (List PV)}, (∀ r ∈ rows, ∀ x ∈ r, okL x) → (∀ r ∈ rows, r.length ≤ 12) → PyData.bulkAll (rows.map fun r => PyData.tuple (r.map lfD)) ≤ 13 * rows.length
  | [], _, _ => Nat.zero_le _
  | r :: rows, h, hl => by
    have ih := rows_bulk (rows := rows) (fun y hy => h y (List.mem_cons_of_mem _ hy)) fun y hy => hl y (List.mem_cons_of_mem _ hy)
    have e := row_bulk (h r List.mem_cons_self)
    have l := hl r List.mem_cons_self
    show PyData.bulkAll (r.map lfD) + 1 + PyData.bulkAll (rows.map fun r => PyData.tuple (r.map lfD)) ≤ 13 * (rows.length + 1)
    omega
theorem table_repr {v : PV} {d : PyData} (h : toD v = some d) (g : Gs d) (hd : d.depth ≤ 10) (hb : d.bulk ≤ 100000) : ∃ x, PyData.strOk x = true ∧ ∀ st, reprM (.p (.tup [.str "table", v])) st = .ok (.p (.str x)) st := by
  have g2 : Gs (.tuple [.str "table", d]) := gs_tuple fun e he => by
    simp only [List.mem_cons, List.not_mem_nil, or_false] at he
    rcases he with rfl | rfl
    · exact ⟨by decide +kernel, by decide +kernel, by decide +kernel, by decide +kernel⟩
    · exact g
  refine repr_of (d := .tuple [.str "table", d]) ?_ rfl ?_
  · show (toDs [.str "table", v]).map PyData.tuple = _
    simp only [toDs, toD, h, Option.map_some]
  · have dd : (PyData.tuple [.str "table", d]).depth ≤ 64 := by
      show max 0 (max d.depth 0) + 1 ≤ 64
      omega
    have bk : (PyData.tuple [.str "table", d]).bulk ≤ 2 ^ 20 := by
      have b4 : (PyData.str "table").bulk ≤ 6 := by decide +kernel
      show (PyData.str "table").bulk + 1 + (d.bulk + 1 + 0) ≤ 2 ^ 20
      omega
    have h6 := size_lim (PyData.shown_fits_bulk (B := 13) (by decide) (by decide) g2.2.1 bk)
    unfold reprOk
    rw [g2.1, g2.2.2.2, g2.2.2.1]
    simp only [Bool.not_false, Bool.true_and, Bool.and_true, Bool.and_eq_true, decide_eq_true_eq]
    exact ⟨dd, h6⟩
/-- what is no table -/
structure NoT (W H : Int) (v : PV) : Prop where
  no : ∀ (n : Nat) (st : PSt), callF (n + 2) 32 [.p (.int W), .p (.int H), .p v] st = .ok (.p (.bl false)) st
  re : ∃ x, PyData.strOk x = true ∧ ∀ st, reprM (.p (.tup [.str "table", v])) st = .ok (.p (.str x)) st
theorem no_rows {W H : Int} {rows : List (List PV)} (h : ∀ r ∈ rows, ∀ x ∈ r, okL x) (hl : rows.length ≤ 100) (hr : ∀ r ∈ rows, r.length ≤ 12) (hf : formB W H rows = false) : NoT W H (.tup (rows.map .tup)) := by
  refine ⟨fun n st => ?_, ?_⟩
  · have e := e32 (n := n) (W := W) (H := H) (rows := rows) (by omega) (fun r hm => by have := hr r hm; omega) (fun r hm x hx => by
      rcases h r hm x hx with rfl | ⟨i, rfl, _, _⟩ <;> rfl) st
    rw [hf] at e
    exact e
  · refine table_repr (d := .tuple (rows.map fun r => .tuple (r.map lfD))) ?_ (gs_tuple fun d hd => ?_) ?_ ?_
    · show (toDs (rows.map .tup)).map PyData.tuple = _
      rw [toDs_rows h]; rfl
    · obtain ⟨r, hm, rfl⟩ := List.mem_map.mp hd
      exact row_gs (h r hm)
    · have := rows_deep h
      show PyData.depthAll _ + 1 ≤ 10
      omega
    · have := rows_bulk h hr
      show PyData.bulkAll _ ≤ 100000
      omega
def rowsI (tab : List (List Int)) : List (List PV) := tab.map fun r => r.map PV.int
theorem odd_table {W H : Int} {tab : List (List Int)} {v : PV} (T : Tab W H tab) (hW : 1 ≤ W ∧ W ≤ 12) (hH : 1 ≤ H ∧ H ≤ 12) (hx : ∀ r ∈ tab, ∀ x ∈ r, x ≤ 1000000) (hv : v ∈ [PV.non, .lst (tab.map rowT), .tup ((rowsI tab).drop 1 |>.map .tup), .tup ((rowsI tab ++ (rowsI tab).take 1).map .tup), .tup (((rowsI tab).map (List.drop 1)).map .tup), .tup ((List.replicate H.toNat (List.replicate W.toNat .non)).map .tup), .tup ((List.replicate H.toNat (List.replicate W.toNat (.int (-1)))).map .tup), .int 5]) : NoT W H v := by
  have lt := T.len
  have oi : ∀ r ∈ rowsI tab, ∀ x ∈ r, okL x := fun r hr x hm => by
    obtain ⟨s, hs, rfl⟩ := List.mem_map.mp hr
    obtain ⟨i, hi, rfl⟩ := List.mem_map.mp hm
    have := T.nn s hs i hi
    exact .inr ⟨i, rfl, by omega, hx s hs i hi⟩
  have li : (rowsI tab).length = tab.length := List.length_map ..
  have ri : ∀ r ∈ rowsI tab, (r.length : Int) = W := fun r hr => by
    obtain ⟨s, hs, rfl⟩ := List.mem_map.mp hr
    rw [List.length_map]; exact T.row s hs
  have tt : tab.map rowT = (rowsI tab).map .tup := by unfold rowsI; rw [List.map_map]; rfl
  simp only [List.mem_cons, List.not_mem_nil, or_false] at hv
  rcases hv with rfl | rfl | rfl | rfl | rfl | rfl | rfl | rfl
  · exact ⟨fun n st => e32n (fun l z => by cases z) rfl st, repr_of (d := .tuple [.str "table", .none]) rfl rfl (by decide +kernel)⟩
  · refine ⟨fun n st => e32n (fun l z => by cases z) rfl st, ?_⟩
    rw [tt]
    refine table_repr (d := .list ((rowsI tab).map fun r => .tuple (r.map lfD))) ?_ (gs_list fun d hd => ?_) ?_ ?_
    · show (toDs ((rowsI tab).map .tup)).map PyData.list = _
      rw [toDs_rows oi]; rfl
    · obtain ⟨r, hm, rfl⟩ := List.mem_map.mp hd
      exact row_gs (oi r hm)
    · have := rows_deep oi
      show PyData.depthAll _ + 1 ≤ 10
      omega
    · have := rows_bulk oi fun r hr => by have := ri r hr; omega
      show PyData.bulkAll _ ≤ 100000
      omega
  · refine no_rows (fun r hr => oi r (List.mem_of_mem_drop hr)) (by rw [List.length_drop]; omega) (fun r hr => by have := ri r (List.mem_of_mem_drop hr); omega) ?_
    have : (((rowsI tab).drop 1).length : Int) ≠ H := by rw [List.length_drop]; omega
    unfold formB
    rw [beq_false_of_ne this]; rfl
  · refine no_rows (fun r hr => ?_) (by rw [List.length_append, List.length_take]; omega) (fun r hr => ?_) ?_
    · rcases List.mem_append.mp hr with hr | hr
      · exact oi r hr
      · exact oi r (List.mem_of_mem_take hr)
    · have : (r.length : Int) = W := by
        rcases List.mem_append.mp hr with hr | hr
        · exact ri r hr
        · exact ri r (List.mem_of_mem_take hr)
      omega
    · have : ((rowsI tab ++ (rowsI tab).take 1).length : Int) ≠ H := by rw [List.length_append, List.length_take]; omega
      unfold formB
      rw [beq_false_of_ne this]; rfl
  · refine no_rows (fun r hr x hm => ?_) (by rw [List.length_map]; omega) (fun r hr => ?_) ?_
    · obtain ⟨s, hs, rfl⟩ := List.mem_map.mp hr
      exact oi s hs x (List.mem_of_mem_drop hm)
    · obtain ⟨s, hs, rfl⟩ := List.mem_map.mp hr
      have := ri s hs
      rw [List.length_drop]; omega
    · unfold formB
      have : ((rowsI tab).map (List.drop 1)).all (fun r => (r.length : Int) == W) = false := by
        cases e : rowsI tab with
        | nil => rw [e] at li; simp at li; omega
        | cons s l =>
          have hs := ri s (by rw [e]; exact List.mem_cons_self)
          rw [List.map_cons, List.all_cons, beq_false_of_ne (show ((s.drop 1).length : Int) ≠ W by rw [List.length_drop]; omega), Bool.false_and]
      rw [this, Bool.and_false]; rfl
  · refine no_rows (fun r hr x hm => ?_) (by rw [List.length_replicate]; omega) (fun r hr => ?_) ?_
    · rw [(List.mem_replicate.mp hr).2] at hm
      exact .inl (List.mem_replicate.mp hm).2
    · rw [(List.mem_replicate.mp hr).2, List.length_replicate]; omega
    · unfold formB
      obtain ⟨a, ha⟩ : ∃ a, H.toNat = a + 1 := ⟨H.toNat - 1, by omega⟩
      obtain ⟨b, hb⟩ : ∃ b, W.toNat = b + 1 := ⟨W.toNat - 1, by omega⟩
      rw [ha, hb]
      have : (List.replicate (a + 1) (List.replicate (b + 1) PV.non)).all (fun r => r.all goodE) = false := rfl
      rw [this, Bool.and_false]
  · refine no_rows (fun r hr x hm => ?_) (by rw [List.length_replicate]; omega) (fun r hr => ?_) ?_
    · rw [(List.mem_replicate.mp hr).2] at hm
      exact .inr ⟨-1, (List.mem_replicate.mp hm).2, by omega, by omega⟩
    · rw [(List.mem_replicate.mp hr).2, List.length_replicate]; omega
    · unfold formB
      obtain ⟨a, ha⟩ : ∃ a, H.toNat = a + 1 := ⟨H.toNat - 1, by omega⟩
      obtain ⟨b, hb⟩ : ∃ b, W.toNat = b + 1 := ⟨W.toNat - 1, by omega⟩
      rw [ha, hb]
      have : (List.replicate (a + 1) (List.replicate (b + 1) (PV.int (-1)))).all (fun r => r.all goodE) = false := rfl
      rw [this, Bool.and_false]
  · exact ⟨fun n st => e32n (fun l z => by cases z) rfl st, repr_of (d := .tuple [.str "table", .int 5]) rfl rfl (by decide +kernel)⟩
end K00
namespace K00
open PySem Vs
abbrev A0 : SM := sAsg (eLstM (aCons (eVar 0) (aCons (eC (.int 0)) (aCons (eC (.int 100)) (aCons (eC (.int 0)) aNil))))) (gNm 1)
abbrev A1 : SM := sPar 2 3 (aCons (eCallD (callF 90 40) (aCons (eVar 1) aNil) []) (aCons eDctM aNil))
abbrev A2 : SM := sPar 4 5 (aCons (eFrz (mkM 0 (callF 90 6) (aCons (e2 ixM (eVar 2) (eC (.int 0))) (aCons (e2 ixM (eVar 2) (eC (.int 1))) aNil)) [])) (aCons (eIf (tVal (e2 eqM (eCallD (callF 90 37) (aCons (eVar 1) (aCons (eC (.int 20)) aNil)) []) (eC (.int 0)))) (eC (.int 12)) (eC (.int 7))) aNil))
abbrev A3 : SM := sPar 6 7 (aCons (e2 addM (eC (.int 1)) (eCallD (callF 90 37) (aCons (eVar 1) (aCons (eVar 5) aNil)) [])) (aCons (e2 addM (eC (.int 1)) (eCallD (callF 90 37) (aCons (eVar 1) (aCons (eVar 5) aNil)) [])) aNil))
abbrev A4 : SM := sAsg (eCallD (callF 90 46) (aCons (eVar 2) (aCons (eVar 3) (aCons (eVar 6) (aCons (eVar 7) aNil)))) []) (gNm 8)
abbrev A5 : SM := sAsg (eCallD (callF 90 27) (aCons (eVar 4) (aCons (eVar 6) (aCons (eVar 7) aNil))) []) (gNm 9)
abbrev A6 : SM := sIf (tOrM (tNotM (tTruth (eCallD (callF 90 39) (aCons (eCallD (callF 90 26) (aCons (eVar 4) (aCons (eVar 6) (aCons (eVar 7) aNil))) []) (aCons (e2 subM (eC (.int 0)) (e2 ixM (e2 ixM (eVar 8) (eC (.int 0))) (eC (.int 0)))) aNil)) []))) (tVal (e2 (isNM false) (eCallD (callF 90 15) (aCons (eVar 4) (aCons (eVar 6) (aCons (eVar 7) (aCons (eVar 9) aNil)))) []) (eC (.bl true))))) (sSeq (sRet (eC (.bl false))) sNil) sNil
abbrev A7 : SM := sAsg (eCallD (callF 90 42) (aCons (eVar 2) (aCons (eVar 9) (aCons (eC (.int 0)) (aCons (eC (.int 0)) (aCons (eVar 6) (aCons (eVar 7) aNil)))))) []) (gNm 10)
abbrev A8 : SM := sIf (tOrM (tVal (e2 (isNM true) (eVar 10) (eC .non))) (tOrM (tVal (e2 neM (eCallD (callF 90 43) (aCons (eVar 2) (aCons (eVar 10) aNil)) []) (e2 subM (eC (.int 0)) (e2 ixM (e2 ixM (eVar 8) (eC (.int 0))) (eC (.int 0)))))) (tOrM (tVal (e2 neM (eCallD (callF 90 44) (aCons (eVar 9) aNil) []) (e2 ixM (e2 ixM (eVar 8) (eC (.int 0))) (eC (.int 1))))) (tVal (e2 neM (eCallD (callF 90 19) (aCons (eVar 9) aNil) []) (e2 ixM (e2 ixM (eVar 8) (eC (.int 0))) (eC (.int 1)))))))) (sSeq (sRet (eC (.bl false))) sNil) sNil
abbrev A9 : SM := sIf (tOrM (tNotM (tTruth (eCallD (callF 90 39) (aCons (eCallD (callF 90 28) (aCons (eVar 4) (aCons (eVar 6) (aCons (eVar 7) aNil))) []) (aCons (e2 ixM (e2 ixM (eVar 8) (eC (.int 0))) (eC (.int 1))) aNil)) []))) (tNotM (tTruth (eCallD (callF 90 39) (aCons (eCallD (callF 90 29) (aCons (eVar 4) (aCons (eVar 6) (aCons (eVar 7) aNil))) []) (aCons (e2 addM (e2 mulM (eVar 6) (eVar 7)) (e2 ixM (e2 ixM (eVar 8) (eC (.int 1))) (eC (.int 1)))) aNil)) [])))) (sSeq (sRet (eC (.bl false))) sNil) sNil
abbrev A10 : SM := sAsg (eCallD (callF 90 30) (aCons (eVar 4) (aCons (eVar 6) (aCons (eVar 7) aNil))) []) (gNm 11)
abbrev A11 : SM := sAsg (e1 toTupM (eLc (iRng2M (aCons (eC (.int 1)) (aCons (e2 addM (eVar 7) (eC (.int 1))) aNil))) (cgNm 14) [14] tYesM (e1 toTupM (eLc (iRng2M (aCons (eC (.int 1)) (aCons (e2 addM (eVar 6) (eC (.int 1))) aNil))) (cgNm 13) [13] tYesM (e2 subM (eC (.int 0)) (e2 ixM (e2 ixM (eCallD (callF 90 46) (aCons (eVar 2) (aCons (eVar 3) (aCons (eVar 13) (aCons (eVar 14) aNil)))) []) (eC (.int 0))) (eC (.int 0)))))))) (gNm 12)
abbrev A12 : SM := sIf (tOrM (tNotM (tTruth (eCallD (callF 90 39) (aCons (eVar 11) (aCons (eVar 12) aNil)) []))) (tOrM (tVal (e2 (isNM false) (eCallD (callF 90 35) (aCons (eVar 4) (aCons (eVar 6) (aCons (eVar 7) (aCons (eVar 11) aNil)))) []) (eC (.bl true)))) (tNotM (tTruth (eCallD (callF 90 49) (aCons (eVar 2) (aCons (eVar 11) (aCons (eVar 6) (aCons (eVar 7) aNil)))) []))))) (sSeq (sRet (eC (.bl false))) sNil) sNil
abbrev A13 : SM := sIf (tVal (e2 (isNM false) (eCallD (callF 90 36) (aCons (eVar 4) (aCons (eVar 6) (aCons (eVar 7) (aCons (eVar 9) (aCons (eVar 11) aNil))))) []) (eC (.bl true)))) (sSeq (sRet (eC (.bl false))) sNil) sNil
abbrev B0 : SM := sPar 16 17 (aCons (eCallD (callF 90 37) (aCons (eVar 1) (aCons (eVar 6) aNil)) []) (aCons (eCallD (callF 90 37) (aCons (eVar 1) (aCons (eVar 7) aNil)) []) aNil))
abbrev B1 : SM := sAsg (eMax2 (aCons (eC (.int 0)) (aCons (e2 addM (e2 ixM (e2 ixM (eVar 12) (eVar 17)) (eVar 16)) (eCallD (callF 90 38) (aCons (eVar 1) (aCons (eLst (aCons (e1 negM (eC (.int 1))) (aCons (eC (.int 1)) (aCons (eC (.int 5)) aNil)))) aNil)) [])) aNil))) (gNm 18)
abbrev B2 : SM := sAsg (e2 addM (e2 addM (eSl (eVar 12) pNo (pSome (eVar 17))) (eTup (aCons (e2 addM (e2 addM (eSl (e2 ixM (eVar 12) (eVar 17)) pNo (pSome (eVar 16))) (eTup (aCons (eVar 18) aNil))) (eSl (e2 ixM (eVar 12) (eVar 17)) (pSome (e2 addM (eVar 16) (eC (.int 1)))) pNo)) aNil))) (eSl (eVar 12) (pSome (e2 addM (eVar 17) (eC (.int 1)))) pNo)) (gNm 19)
abbrev B3 : SM := sAsg (eCallD (callF 90 49) (aCons (eVar 2) (aCons (eVar 19) (aCons (eVar 6) (aCons (eVar 7) aNil)))) []) (gNm 20)
abbrev B4 : SM := sIf (tOrM (tNotM (tTruth (eCallD (callF 90 39) (aCons (eCallD (callF 90 35) (aCons (eVar 4) (aCons (eVar 6) (aCons (eVar 7) (aCons (eVar 19) aNil)))) []) (aCons (eVar 20) aNil)) []))) (tAndM (tTruth (eVar 20)) (tVal (e2 ltM (eVar 18) (e2 ixM (e2 ixM (eVar 12) (eVar 17)) (eVar 16)))))) (sSeq (sRet (eC (.bl false))) sNil) sNil
abbrev B5 : SM := sAsg (eCallD (callF 90 45) (aCons (eVar 1) (aCons (eVar 2) (aCons (eVar 6) (aCons (eVar 7) (aCons (eC (.int 4)) aNil))))) []) (gNm 21)
abbrev B6 : SM := sIf (tOrM (tVal (e2 gtM (eCallD (callF 90 18) (aCons (eVar 4) (aCons (eVar 21) aNil)) []) (e2 subM (eC (.int 0)) (e2 ixM (e2 ixM (eVar 8) (eC (.int 0))) (eC (.int 0)))))) (tAndM (tTruth (eVar 20)) (tVal (e2 neM (eCallD (callF 90 36) (aCons (eVar 4) (aCons (eVar 6) (aCons (eVar 7) (aCons (eVar 21) (aCons (eVar 19) aNil))))) []) (e2 eqM (eCallD (callF 90 18) (aCons (eVar 4) (aCons (eVar 21) aNil)) []) (eCallD (callF 90 48) (aCons (eVar 19) (aCons (eVar 6) (aCons (eVar 7) aNil))) [])))))) (sSeq (sRet (eC (.bl false))) sNil) sNil
abbrev turnB : SM := sSeq B0 (sSeq B1 (sSeq B2 (sSeq B3 (sSeq B4 (sSeq B5 (sSeq B6 sNil))))))
abbrev A14 : SM := sFor (iRng1M (aCons (eC (.int 4)) aNil)) (gNm 15) turnB
abbrev A15 : SM := sAsg (eCallD (callF 90 38) (aCons (eVar 1) (aCons (eLst (aCons (eC .non) (aCons (e1 toLstM (eVar 12)) (aCons (eSl (eVar 12) (pSome (eC (.int 1))) pNo) (aCons (e2 addM (eVar 12) (eSl (eVar 12) pNo (pSome (eC (.int 1))))) (aCons (e1 toTupM (eLc (iTupM (eVar 12)) (cgNm 23) [23] tYesM (eSl (eVar 23) (pSome (eC (.int 1))) pNo))) (aCons (e2 repU (eTup (aCons (e2 repU (eTup (aCons (eC .non) aNil)) (eVar 6)) aNil)) (eVar 7)) (aCons (e2 repU (eTup (aCons (e2 repU (eTup (aCons (e1 negM (eC (.int 1))) aNil)) (eVar 6)) aNil)) (eVar 7)) (aCons (eC (.int 5)) aNil))))))))) aNil)) []) (gNm 22)
abbrev A16 : SM := sIf (tOrM (tVal (e2 (isNM false) (eCallD (callF 90 35) (aCons (eVar 4) (aCons (eVar 6) (aCons (eVar 7) (aCons (eVar 22) aNil)))) []) (eC (.bl false)))) (tVal (e2 neM (e1 reprM (eRefused refL (eCallD (callF 90 36) (aCons (eVar 4) (aCons (eVar 6) (aCons (eVar 7) (aCons (eVar 9) (aCons (eVar 22) aNil))))) []))) (e1 reprM (eTup (aCons (eC (.str "table")) (aCons (eVar 22) aNil))))))) (sSeq (sRet (eC (.bl false))) sNil) sNil
abbrev A17 : SM := sIf (tVal (e2 neM (eRefused refL (eCallD (callF 90 36) (aCons (eVar 4) (aCons (eVar 6) (aCons (eVar 7) (aCons (eTup (aCons (eC (.str "gone")) aNil)) (aCons (eVar 22) aNil))))) [])) (eTup (aCons (eC (.str "tree")) (aCons (eTup (aCons (eC (.str "gone")) aNil)) aNil))))) (sSeq (sRet (eC (.bl false))) sNil) sNil
abbrev A18 : SM := sAsg (eCallD (callF 90 38) (aCons (eVar 1) (aCons (eLst (aCons (eC (.int 0)) (aCons (eC (.int 13)) (aCons (eC .non) (aCons (eC (.bl true)) aNil))))) aNil)) []) (gNm 24)
abbrev C0 : SM := sIf (tVal (e2 neM (e1 reprM (eRefused refL (eCallV 25 [26, 27, 28, 29, 30] (callF 90) (aCons (eVar 4) (aCons (eC (.int 1)) (aCons (eVar 24) aNil)))))) (e1 reprM (eTup (aCons (eC (.str "size")) (aCons (eVar 24) aNil)))))) (sSeq (sRet (eC (.bl false))) sNil) sNil
abbrev turnC : SM := sSeq C0 sNil
abbrev A19 : SM := sFor (iLstM (eLst (aCons (eC (.fn 26)) (aCons (eC (.fn 27)) (aCons (eC (.fn 28)) (aCons (eC (.fn 29)) (aCons (eC (.fn 30)) aNil))))))) (gNm 25) turnC
abbrev A20 : SM := sRet (eC (.bl true))
abbrev lawB : SM := sSeq A0 (sSeq A1 (sSeq A2 (sSeq A3 (sSeq A4 (sSeq A5 (sSeq A6 (sSeq A7 (sSeq A8 (sSeq A9 (sSeq A10 (sSeq A11 (sSeq A12 (sSeq A13 (sSeq A14 (sSeq A15 (sSeq A16 (sSeq A17 (sSeq A18 (sSeq A19 (sSeq A20 sNil))))))))))))))))))))
theorem law_is : m51 (callF 90) = defM 1 26 lawB := rfl
end K00
namespace K00
open PySem Vs
/-! slices and changed tables -/
theorem cut_lo {l : List PV} {i : Int} (h0 : 0 ≤ i) (h1 : i ≤ l.length) (st : PSt) : slM (.p (.tup l)) none (some i) st = .ok (.p (.tup (l.take i.toNat))) st := by
  have e : cutP l none (some i) = l.take i.toNat := by
    show (l.drop 0).take (HT.sIx l.length l.length (some i) - 0) = _
    obtain ⟨k, rfl⟩ : ∃ k : Nat, i = k := ⟨i.toNat, by omega⟩
    rw [HT.sIx_nat, List.drop_zero, Nat.sub_zero, Nat.min_eq_left (by omega), Int.toNat_natCast]
  show Out.ok (PR.p (.tup (cutP l none (some i)))) st = _
  rw [e]
theorem cut_hi {l : List PV} {i : Int} (h0 : 0 ≤ i) (h1 : i ≤ l.length) (st : PSt) : slM (.p (.tup l)) (some i) none st = .ok (.p (.tup (l.drop i.toNat))) st := by
  have e : cutP l (some i) none = l.drop i.toNat := by
    show (l.drop (HT.sIx l.length 0 (some i))).take (l.length - HT.sIx l.length 0 (some i)) = _
    obtain ⟨k, rfl⟩ : ∃ k : Nat, i = k := ⟨i.toNat, by omega⟩
    rw [HT.sIx_nat, Nat.min_eq_left (by omega), Int.toNat_natCast]
    exact List.take_of_length_le (by rw [List.length_drop]; exact Nat.le_refl _)
  show Out.ok (PR.p (.tup (cutP l (some i) none))) st = _
  rw [e]
theorem add_tt (a b : List PV) (h : a.length + b.length ≤ 1000) (st : PSt) : addM (.p (.tup a)) (.p (.tup b)) st = .ok (.p (.tup (a ++ b))) st := by
  show (PM.guard (a.length + b.length ≤ lim) _ st) = _
  unfold PM.guard
  rw [if_pos (limN h)]
  rfl
theorem sl_lo {a b : EM} {ρ : Ev} {st : PSt} {l : List PV} {i : Int} (h : a ρ st = .ok (.p (.tup l)) st) (k : b ρ st = .ok (.p (.int i)) st) (h0 : 0 ≤ i) (h1 : i ≤ l.length) : eSl a pNo (pSome b) ρ st = .ok (.p (.tup (l.take i.toNat))) st := by
  show (a ρ st).bind _ = _
  rw [h]
  show ((b ρ st).bind _).bind _ = _
  rw [k]
  exact cut_lo h0 h1 st
theorem sl_hi {a b : EM} {ρ : Ev} {st : PSt} {l : List PV} {i : Int} (h : a ρ st = .ok (.p (.tup l)) st) (k : b ρ st = .ok (.p (.int i)) st) (h0 : 0 ≤ i) (h1 : i ≤ l.length) : eSl a (pSome b) pNo ρ st = .ok (.p (.tup (l.drop i.toNat))) st := by
  show (a ρ st).bind _ = _
  rw [h]
  show ((b ρ st).bind _).bind _ = _
  rw [k]
  exact cut_hi h0 h1 st
theorem set_parts {α : Type} (l : List α) (i : Nat) (x : α) (h : i < l.length) : l.take i ++ [x] ++ l.drop (i + 1) = l.set i x := by
  rw [List.set_eq_take_append_cons_drop, if_pos h, List.append_assoc]; rfl
def setT (tab : List (List Int)) (w h v : Int) : List (List Int) := tab.set (h - 1).toNat ((tab.getD (h - 1).toNat []).set (w - 1).toNat v)
theorem set_tab {W H w h v : Int} {tab : List (List Int)} (T : Tab W H tab) (hw : 1 ≤ w ∧ w ≤ W) (hh : 1 ≤ h ∧ h ≤ H) (hv : 0 ≤ v) : Tab W H (setT tab w h v) ∧ atT (setT tab w h v) w h = v := by
  have l1 := T.len
  have k1 : (h - 1).toNat < tab.length := by omega
  have hr : tab.getD (h - 1).toNat [] ∈ tab := by
    rw [List.getD_eq_getElem?_getD, List.getElem?_eq_getElem k1]; exact List.getElem_mem k1
  have l2 := T.row _ hr
  have k2 : (w - 1).toNat < (tab.getD (h - 1).toNat []).length := by omega
  unfold setT
  refine ⟨⟨by rw [List.length_set]; exact l1, fun r hm => ?_, fun r hm x hx => ?_⟩, ?_⟩
  · rcases List.mem_or_eq_of_mem_set hm with hm | rfl
    · exact T.row r hm
    · rw [List.length_set]; exact l2
  · rcases List.mem_or_eq_of_mem_set hm with hm | rfl
    · exact T.nn r hm x hx
    · rcases List.mem_or_eq_of_mem_set hx with hx | rfl
      · exact T.nn _ hr x hx
      · exact hv
  · generalize tab.getD (h - 1).toNat [] = r at k2
    unfold atT
    rw [if_neg (by omega)]
    have e1 : (tab.set (h - 1).toNat (r.set (w - 1).toNat v)).getD (h - 1).toNat [] = r.set (w - 1).toNat v := by
      rw [List.getD_eq_getElem?_getD, List.getElem?_set_self k1]; rfl
    rw [e1, List.getD_eq_getElem?_getD, List.getElem?_set_self k2]
    rfl
theorem thing_ok {W H w h v : Int} {tab : List (List Int)} (T : Tab W H tab) (hW : W ≤ 12) (hH : H ≤ 12) (hw : 1 ≤ w ∧ w ≤ W) (hh : 1 ≤ h ∧ h ≤ H) {D L C N : EM} {ρ : Ev} {st : PSt} (hD : D ρ st = .ok (.p (tbV tab)) st) (hL : L ρ st = .ok (.p (.int (h - 1))) st) (hC : C ρ st = .ok (.p (.int (w - 1))) st) (hN : N ρ st = .ok (.p (.int v)) st) :
    e2 addM (e2 addM (eSl D pNo (pSome L)) (eTup (aCons (e2 addM (e2 addM (eSl (e2 ixM D L) pNo (pSome C)) (eTup (aCons N aNil))) (eSl (e2 ixM D L) (pSome (e2 addM C (eC (.int 1)))) pNo)) aNil))) (eSl D (pSome (e2 addM L (eC (.int 1)))) pNo) ρ st = .ok (.p (tbV (setT tab w h v))) st := by
  have l1 := T.len
  have k1 : (h - 1).toNat < tab.length := by omega
  have hr : tab.getD (h - 1).toNat [] ∈ tab := by
    rw [List.getD_eq_getElem?_getD, List.getElem?_eq_getElem k1]; exact List.getElem_mem k1
  have l2 := T.row _ hr
  have i1 := ix_at (l := tab.map rowT) (i := h - 1) (by omega) (by rw [List.length_map]; omega) st
  rw [getD_map rowT tab (h - 1).toNat [] .non k1] at i1
  have hR : e2 ixM D L ρ st = .ok (.p (.tup ((tab.getD (h - 1).toNat []).map .int))) st := e2_ok hD hL i1
  unfold setT
  have e1 : tab.set (h - 1).toNat ((tab.getD (h - 1).toNat []).set (w - 1).toNat v) = tab.take (h - 1).toNat ++ [(tab.getD (h - 1).toNat []).set (w - 1).toNat v] ++ tab.drop ((h - 1).toNat + 1) := (set_parts _ _ _ k1).symm
  rw [e1]
  generalize tab.getD (h - 1).toNat [] = r at hR l2
  have k2 : (w - 1).toNat < r.length := by omega
  have e2' : r.set (w - 1).toNat v = r.take (w - 1).toNat ++ [v] ++ r.drop ((w - 1).toNat + 1) := (set_parts _ _ _ k2).symm
  rw [e2']
  have c1 := sl_lo (a := e2 ixM D L) (b := C) (l := r.map .int) hR hC (by omega) (by rw [List.length_map]; omega)
  have c2 := sl_hi (a := e2 ixM D L) (b := e2 addM C (eC (.int 1))) (l := r.map .int) (i := w - 1 + 1) hR (add_lit hC rfl) (by omega) (by rw [List.length_map]; omega)
  have c3 := sl_lo (a := D) (b := L) (l := tab.map rowT) hD hL (by omega) (by rw [List.length_map]; omega)
  have c4 := sl_hi (a := D) (b := e2 addM L (eC (.int 1))) (l := tab.map rowT) (i := h - 1 + 1) hD (add_lit hL rfl) (by omega) (by rw [List.length_map]; omega)
  have n1 : (w - 1 + 1).toNat = (w - 1).toNat + 1 := by omega
  have n2 : (h - 1 + 1).toNat = (h - 1).toNat + 1 := by omega
  rw [n1] at c2
  rw [n2] at c4
  have mid := e2_ok (e2_ok c1 (tp_ok (l := [.int v]) (ac_ok (a := aNil) hN rfl) (limN (by simp))) (add_tt _ _ (by rw [List.length_take, List.length_map]; simp; omega) st)) c2 (add_tt _ _ (by rw [List.length_append, List.length_take, List.length_drop, List.length_map]; simp; omega) st)
  have fin := e2_ok (e2_ok c3 (tp_ok (l := [_]) (ac_ok (a := aNil) mid rfl) (limN (by simp))) (add_tt _ _ (by rw [List.length_take, List.length_map]; simp; omega) st)) c4 (add_tt _ _ (by rw [List.length_append, List.length_take, List.length_drop, List.length_map]; simp; omega) st)
  rw [fin]
  have q : (tab.map rowT).take (h - 1).toNat ++ [PV.tup ((r.map PV.int).take (w - 1).toNat ++ [.int v] ++ (r.map PV.int).drop ((w - 1).toNat + 1))] ++ (tab.map rowT).drop ((h - 1).toNat + 1) = (tab.take (h - 1).toNat ++ [r.take (w - 1).toNat ++ [v] ++ r.drop ((w - 1).toNat + 1)] ++ tab.drop ((h - 1).toNat + 1)).map rowT := by
    rw [List.map_append, List.map_append, List.map_take, List.map_drop, List.map_cons, List.map_nil]
    have : rowT (r.take (w - 1).toNat ++ [v] ++ r.drop ((w - 1).toNat + 1)) = PV.tup ((r.map PV.int).take (w - 1).toNat ++ [.int v] ++ (r.map PV.int).drop ((w - 1).toNat + 1)) := by
      unfold rowT
      rw [List.map_append, List.map_append, List.map_take, List.map_drop]; rfl
    rw [this]
  rw [q]
  rfl
/-! alike tables -/
theorem a_tab {n : Nat} {W H : Int} {tab : List (List Int)} (T : Tab W H tab) (hW : W ≤ 12) (hH : H ≤ 12) (st : PSt) : callF (n + 3) 39 [.p (tbV tab), .p (tbV tab)] st = .ok (.p (.bl true)) st := by
  have l1 := T.len
  refine a_tup (n := n + 2) (l := tab.map rowT) (limN (by rw [List.length_map]; omega)) st fun v hv => ?_
  obtain ⟨r, hr, rfl⟩ := List.mem_map.mp hv
  have l2 := T.row r hr
  refine a_tup (n := n + 1) (l := r.map .int) (limN (by rw [List.length_map]; omega)) st fun v hv => ?_
  obtain ⟨i, _, rfl⟩ := List.mem_map.mp hv
  exact a_int (n := n) i st
/-! sizes refused -/
theorem ask_no {n f : Nat} {t : Told} {v : PV} (hf : f = 26 ∨ f = 27 ∨ f = 28 ∨ f = 29 ∨ f = 30) (d : dat v = true) (h : within v 1 12 = false) (st : PSt) : callF (n + 5) f [.p t.obj, .p (.int 1), .p v] st = .err 5 v st := by
  have e := e10b (n := n) (W := 1) (v := v) (by omega) d h st
  rcases hf with rfl | rfl | rfl | rfl | rfl
  · rw [cf26]; exact defM_err rfl (sq_err (se_err (cl_ok rfl e)))
  · rw [cf27]; exact defM_err rfl (sq_err (se_err (cl_ok rfl e)))
  · rw [cf28]; exact defM_err rfl (sq_err (se_err (cl_ok rfl e)))
  · rw [cf29]; exact defM_err rfl (sq_err (se_err (cl_ok rfl e)))
  · rw [cf30]; exact defM_err rfl (sq_err (se_err (cl_ok rfl e)))
theorem none_repr : ∃ x, PyData.strOk x = true ∧ ∀ st, reprM (.p (.tup [.str "", .non])) st = .ok (.p (.str x)) st := repr_of (d := .tuple [.str "", .none]) rfl rfl (by decide +kernel)
theorem ref_ok {E T : EM} {ρ : Ev} {st s : PSt} {k : Nat} {v : PV} {t x : Str} (h : E ρ st = .err k v s) (hk : refL.lookup k = some t) (hr : PyData.strOk x = true ∧ ∀ st, reprM (.p (.tup [.str t, v])) st = .ok (.p (.str x)) st) (hT : T ρ s = .ok (.p (.tup [.str t, v])) s) :
    tVal (e2 neM (e1 reprM (eRefused refL E)) (e1 reprM T)) ρ st = .ok false s := by
  have e : eRefused refL E ρ st = .ok (.p (.tup [.str t, v])) s := by
    unfold eRefused
    rw [h]
    dsimp only
    rw [hk]
  exact tv_ok (e2_ok (e1_ok e (hr.2 s)) (e1_ok hT (hr.2 s)) (ne_str hr.1 _))
structure OddV (t : Str) (v : PV) (lo hi : Int) : Prop where
  d : dat v = true
  no : within v lo hi = false
  re : ∃ x, PyData.strOk x = true ∧ ∀ st, reprM (.p (.tup [.str t, v])) st = .ok (.p (.str x)) st
theorem odd_size {v : PV} (h : v ∈ [PV.int 0, .int 13, .non, .bl true]) : OddV "size" v 1 12 := by
  simp only [List.mem_cons, List.not_mem_nil, or_false] at h
  rcases h with rfl | rfl | rfl | rfl
  · exact ⟨rfl, rfl, repr_of (d := .tuple [.str "size", .int 0]) rfl rfl (by decide +kernel)⟩
  · exact ⟨rfl, rfl, repr_of (d := .tuple [.str "size", .int 13]) rfl rfl (by decide +kernel)⟩
  · exact ⟨rfl, rfl, repr_of (d := .tuple [.str "size", .none]) rfl rfl (by decide +kernel)⟩
  · exact ⟨rfl, rfl, repr_of (d := .tuple [.str "size", .bool true]) rfl rfl (by decide +kernel)⟩
/-- prices are bounded -/
theorem prc_le {t : Told} (ok : t.Ok) (i : Int) : prc t i ≤ 1000 := by
  unfold prc
  split
  · rename_i o e
    exact (ok.p o (List.mem_of_getElem? e)).2
  · omega
theorem sum_prc {t : Told} (ok : t.Ok) : ∀ L : List Int, (L.map (prc t)).sum ≤ 1000 * L.length
  | [] => by show (0 : Int) ≤ 1000 * ((0 : Nat) : Int); omega
  | i :: L => by
    have := prc_le ok i
    have := sum_prc ok L
    show prc t i + (L.map (prc t)).sum ≤ 1000 * ((L.length + 1 : Nat) : Int)
    omega
theorem gpr_small {t : Told} (ok : t.Ok) {W H : Int} (hW : 1 ≤ W ∧ W ≤ 12) (hH : 1 ≤ H ∧ H ≤ 12) : gpr t W H ≤ 1000000 := by
  have b := best_is ok (W + H).toNat W H (by omega) (by omega) (by omega)
  have s := b.sz hW.1 hH.1
  have m := b.sm
  have l := sn_len (bestE t false W H).2
  have p := sum_prc ok (sn (bestE t false W H).2)
  have c : W * H ≤ 12 * 12 := Int.mul_le_mul hW.2 hH.2 (by omega) (by omega)
  unfold gpr
  omega
theorem price_small {t : Told} (ok : t.Ok) {W H : Int} (hW : 1 ≤ W ∧ W ≤ 12) (hH : 1 ≤ H ∧ H ≤ 12) : ∀ r ∈ priceL t W H, ∀ x ∈ r, x ≤ 1000000 := by
  intro r hr x hx
  obtain ⟨k, hk, rfl⟩ := List.mem_map.mp hr
  obtain ⟨c, hc, rfl⟩ := List.mem_map.mp hx
  have hk := List.mem_range.mp hk
  have hc := List.mem_range.mp hc
  exact gpr_small ok (W := 1 + c) (H := 1 + k) (by omega) (by omega)
/-! the law's own table -/
def dueL (t : Told) (W H : Int) : List (List Int) := (List.range H.toNat).map fun (r : Nat) => (List.range W.toNat).map fun (c : Nat) => 0 - (lawE t (1 + c) (1 + r)).1.1
theorem due_price {t : Told} (ok : t.Ok) (W H : Int) : dueL t W H = priceL t W H := by
  unfold dueL priceL priceR
  refine List.map_congr_left fun r _ => List.map_congr_left fun c _ => ?_
  have s := same_best ok (2 + c + r) (1 + c) (1 + r) (by omega) (by omega) (by omega)
  rw [s.a]
theorem due_lc {t : Told} {W H : Int} {p s r : Int} {ns : List Int} {R : PSt} {ks : List (List L2.Key)} {vs : List PV} {m : Nat} {ρ : Ev} (ok : t.Ok) (hm : 26 ≤ m) (hW : 1 ≤ W ∧ W ≤ 12) (hH : 1 ≤ H ∧ H ≤ 12) (v : VaL t ks vs) (ρ1 : PV → Ev) (ρ2 : PV → PV → Ev)
    (w1 : ∀ v, (cgNm 14) v (wipeE ρ [14]) = some (ρ1 v)) (w2 : ∀ u v, (cgNm 13) v (wipeE (ρ1 u) [13]) = some (ρ2 u v)) (a7 : ∀ st, eVar 7 ρ st = .ok (.p (.int H)) st) (a6 : ∀ u st, eVar 6 (ρ1 u) st = .ok (.p (.int W)) st) (a2 : ∀ u v st, eVar 2 (ρ2 u v) st = .ok (.p t.pv) st) (a3 : ∀ u v st, eVar 3 (ρ2 u v) st = .ok (.r 1 0) st) (a13 : ∀ u v st, eVar 13 (ρ2 u v) st = .ok (.p v) st) (a14 : ∀ u v st, eVar 14 (ρ2 u v) st = .ok (.p u) st) :
    ∃ ks' vs', VaL t ks' vs' ∧ e1 toTupM (eLc (iRng2M (aCons (eC (.int 1)) (aCons (e2 addM (eVar 7) (eC (.int 1))) aNil))) (cgNm 14) [14] tYesM (e1 toTupM (eLc (iRng2M (aCons (eC (.int 1)) (aCons (e2 addM (eVar 6) (eC (.int 1))) aNil))) (cgNm 13) [13] tYesM (e2 subM (eC (.int 0)) (e2 ixM (e2 ixM (eCallD (callF m 46) (aCons (eVar 2) (aCons (eVar 3) (aCons (eVar 13) (aCons (eVar 14) aNil)))) []) (eC (.int 0))) (eC (.int 0))))))) ρ (rowO ns p s r :: .dct (.t ks vs) :: R) = .ok (.p (tbV (dueL t W H))) (rowO ns p s r :: .dct (.t ks' vs') :: R) := by
  have z := lc_inv (i := 1) (j := H + 1) (cg := cgNm 14) (vs := [14]) (e := e1 toTupM (eLc (iRng2M (aCons (eC (.int 1)) (aCons (e2 addM (eVar 6) (eC (.int 1))) aNil))) (cgNm 13) [13] tYesM (e2 subM (eC (.int 0)) (e2 ixM (e2 ixM (eCallD (callF m 46) (aCons (eVar 2) (aCons (eVar 3) (aCons (eVar 13) (aCons (eVar 14) aNil)))) []) (eC (.int 0))) (eC (.int 0)))))) (a := aCons (eC (.int 1)) (aCons (e2 addM (eVar 7) (eC (.int 1))) aNil)) (st := rowO ns p s r :: .dct (.t ks vs) :: R) (ρ := ρ) (f := fun (d : Nat) => rowT ((List.range W.toNat).map fun (c : Nat) => 0 - (lawE t (1 + c) (1 + d)).1.1)) (fun st => ∃ ks' vs', VaL t ks' vs' ∧ st = rowO ns p s r :: .dct (.t ks' vs') :: R) (ac_ok rfl (ac_ok (add_lit (a7 _) rfl) rfl)) (by omega) (by omega) ⟨ks, vs, v, rfl⟩ ρ1 w1 (fun d hd st hst => by
    have y := lc_inv (i := 1) (j := W + 1) (cg := cgNm 13) (vs := [13]) (e := e2 subM (eC (.int 0)) (e2 ixM (e2 ixM (eCallD (callF m 46) (aCons (eVar 2) (aCons (eVar 3) (aCons (eVar 13) (aCons (eVar 14) aNil)))) []) (eC (.int 0))) (eC (.int 0)))) (a := aCons (eC (.int 1)) (aCons (e2 addM (eVar 6) (eC (.int 1))) aNil)) (st := st) (ρ := ρ1 (.int (1 + d))) (f := fun (c : Nat) => .int (0 - (lawE t (1 + c) (1 + d)).1.1)) (fun st => ∃ ks' vs', VaL t ks' vs' ∧ st = rowO ns p s r :: .dct (.t ks' vs') :: R) (ac_ok rfl (ac_ok (add_lit (a6 _ _) rfl) rfl)) (by omega) (by omega) hst (ρ2 (.int (1 + d))) (w2 _) (fun c hc st hst => by
      obtain ⟨ks1, vs1, v1, rfl⟩ := hst
      obtain ⟨ks2, vs2, v2, _, e⟩ := law_best ok 24 m hm (rowO ns p s r :: .dead :: R) 1 (by simp) (1 + c) (1 + d) ks1 vs1 (by omega) (by omega) (by omega) v1
      exact ⟨_, ⟨ks2, vs2, v2, rfl⟩, sub_lit rfl (e2_ok (e2_ok (cl_ok (ac_ok (a2 _ _ _) (ac_ok (a3 _ _ _) (ac_ok (a13 _ _ _) (ac_ok (a14 _ _ _) rfl)))) e) rfl rfl) rfl rfl)⟩)
    obtain ⟨st', hst', e⟩ := y
    have hn : (W + 1 - 1).toNat = W.toNat := by omega
    rw [hn] at e
    refine ⟨st', hst', e1_ok e ?_⟩
    show Out.ok (PR.p (.tup ((List.range W.toNat).map fun (c : Nat) => PV.int (0 - (lawE t (1 + c) (1 + d)).1.1)))) st' = _
    unfold rowT
    rw [List.map_map]
    rfl)
  obtain ⟨st', ⟨ks', vs', v', rfl⟩, e⟩ := z
  refine ⟨ks', vs', v', e1_ok e ?_⟩
  have hn : (H + 1 - 1).toNat = H.toNat := by omega
  rw [hn]
  show Out.ok (PR.p (.tup ((List.range H.toNat).map fun (d : Nat) => rowT ((List.range W.toNat).map fun (c : Nat) => 0 - (lawE t (1 + c) (1 + d)).1.1)))) _ = _
  unfold tbV dueL
  rw [List.map_map]
  rfl
end K00
namespace K00
open PySem Vs
/-! one turn of the law -/
theorem tree_facts {t : Told} {x : T} {W H : Int} (hW : 1 ≤ W) (hH : 1 ≤ H) (h : tk t x W H = true) : gd x = true ∧ isIn t (sn x) := by
  have so : (sl t x 0 0 W H).isSome = true := by rw [sl_tk t x 0 0 W H hW hH, h]
  obtain ⟨q, hq⟩ := Option.isSome_iff_exists.mp so
  obtain ⟨g1, g2, g3⟩ := sl_gd t x 0 0 W H q hq
  refine ⟨g1, fun i hi => ?_⟩
  rw [← g2] at hi
  obtain ⟨v, hv, rfl⟩ := List.mem_map.mp hi
  exact g3 v hv
theorem mx_ok {a b : EM} {ρ : Ev} {st s s' : PSt} {x y : Int} (h : a ρ st = .ok (.p (.int x)) s) (k : b ρ s = .ok (.p (.int y)) s') : eMax2 (aCons a (aCons b aNil)) ρ st = .ok (.p (.int (if y > x then y else x))) s' := by
  show ((aCons a (aCons b aNil)) ρ st).bind _ = _
  rw [ac_ok h (ac_ok (a := aNil) k rfl)]
  rfl
theorem law_gpr {t : Told} (ok : t.Ok) {W H : Int} (hW : 1 ≤ W) (hH : 1 ≤ H) : 0 - (lawE t W H).1.1 = gpr t W H := by
  have s := same_best ok (W + H).toNat W H (by omega) (by omega) (by omega)
  unfold gpr
  rw [s.a]
theorem p4_00 (x : P4) {A : EM} {ρ : Ev} {st : PSt} (h : A ρ st = .ok (.p (p4V x)) st) : e2 ixM (e2 ixM A (eC (.int 0))) (eC (.int 0)) ρ st = .ok (.p (.int x.1.1)) st := e2_ok (e2_ok h rfl rfl) rfl rfl
abbrev E5 (ns : List Int) (t : Told) (x5 x6 x7 x8 x9 x10 x11 x12 x15 x16 x17 x18 x19 x20 x21 x22 x24 x25 : Option PR) : Ev := [some (.p (.lst (ns.map .int))), some (.r 0 0), some (.p t.pv), some (.r 1 0), some (.p t.obj), x5, x6, x7, x8, x9, x10, x11, x12, none, none, x15, x16, x17, x18, x19, x20, x21, x22, none, x24, x25]
abbrev E51 (ns : List Int) (t : Told) (W H : Int) (x5 x9 x10 x15 x16 x17 x18 x19 x20 x21 x22 x24 x25 : Option PR) : Ev := E5 ns t x5 (some (.p (.int W))) (some (.p (.int H))) (some (.p (p4V (lawE t W H)))) x9 x10 (some (.p (tbV (priceL t W H)))) (some (.p (tbV (priceL t W H)))) x15 x16 x17 x18 x19 x20 x21 x22 x24 x25
theorem turn {ns : List Int} {t : Told} {W H p s r : Int} {R : PSt} {x5 x9 x10 x15 x16 x17 x18 x19 x20 x21 : Option PR} {Rt : PR → PSt → Prop} (ok : t.Ok) (hW : 1 ≤ W ∧ W ≤ 12) (hH : 1 ≤ H ∧ H ≤ 12) (hp : 0 ≤ p) :
    RetS (turnB (E51 ns t W H x5 x9 x10 x15 x16 x17 x18 x19 x20 x21 none none none) (rowO ns p s r :: R)) (fun ρ st => ∃ p' s' r' x16 x17 x18 x19 x20 x21, 0 ≤ p' ∧ ρ = E51 ns t W H x5 x9 x10 x15 x16 x17 x18 x19 x20 x21 none none none ∧ st = rowO ns p' s' r' :: R) Rt := by
  have T0 := price_tab ok (W := W) (H := H) (by omega) (by omega)
  obtain ⟨c, p1, s1, r1, c0, c1, hp1, z1⟩ := draw_ok (n := 89) (ns := ns) (p := p) (s := s) (r := r) (q := p) (s1 := s) (r1 := r) (many := W) (m := eVar 6) (ρ := E51 ns t W H x5 x9 x10 x15 x16 x17 x18 x19 x20 x21 none none none) (j := 1) R rfl hp (by omega) (by omega) rfl
  obtain ⟨l, p2, s2, r2, l0, l1, hp2, z2⟩ := draw_ok (n := 89) (ns := ns) (p := p1) (s := s1) (r := r1) (q := p1) (s1 := s1) (r1 := r1) (many := H) (m := eVar 7) (ρ := E51 ns t W H x5 x9 x10 x15 x16 x17 x18 x19 x20 x21 none none none) (j := 1) R rfl hp1 (by omega) (by omega) rfl
  obtain ⟨w, rfl⟩ : ∃ w, c = w - 1 := ⟨c + 1, by omega⟩
  obtain ⟨h, rfl⟩ : ∃ h, l = h - 1 := ⟨l + 1, by omega⟩
  have hw : 1 ≤ w ∧ w ≤ W := by omega
  have hh : 1 ≤ h ∧ h ≤ H := by omega
  refine rs_nx (ρ1 := E51 ns t W H x5 x9 x10 x15 (some (.p (.int (w - 1)))) (some (.p (.int (h - 1)))) x18 x19 x20 x21 none none none) (s1 := rowO ns p2 s2 r2 :: R) (pr_ok (ac_ok z1 (ac_ok (a := aNil) z2 rfl))) ?_
  have at0 : ∀ {u18 u19 u20 u21 : Option PR} (st : PSt), e2 ixM (e2 ixM (eVar 12) (eVar 17)) (eVar 16) (E51 ns t W H x5 x9 x10 x15 (some (.p (.int (w - 1)))) (some (.p (.int (h - 1)))) u18 u19 u20 u21 none none none) st = .ok (.p (.int (gpr t w h))) st := fun {u18 u19 u20 u21} st => by
    have e := two_ix T0 hw hh (A := eVar 12) (B := eVar 17) (C := eVar 16) (ρ := E51 ns t W H x5 x9 x10 x15 (some (.p (.int (w - 1)))) (some (.p (.int (h - 1)))) u18 u19 u20 u21 none none none) (st := st) rfl rfl rfl
    rw [price_at2 ⟨by omega, hw.2⟩ ⟨by omega, hh.2⟩] at e
    exact e
  obtain ⟨kv, p3, s3, r3, hk, hp3, z3⟩ := pick_ok (n := 88) (ns := ns) (p := p2) (s := s2) (r := r2) (l := [-1, 1, 5].map .int) (a := aCons (e1 negM (eC (.int 1))) (aCons (eC (.int 1)) (aCons (eC (.int 5)) aNil))) (ρ := E51 ns t W H x5 x9 x10 x15 (some (.p (.int (w - 1)))) (some (.p (.int (h - 1)))) x18 x19 x20 x21 none none none) (j := 1) R rfl hp2 (by simp) (by simp) (fun _ => rfl)
  obtain ⟨k, _, rfl⟩ := int_of hk
  have z4 := mx_ok (a := eC (.int 0)) (x := 0) (b := e2 addM (e2 ixM (e2 ixM (eVar 12) (eVar 17)) (eVar 16)) (eCallD (callF 90 38) (aCons (eVar 1) (aCons (eLst (aCons (e1 negM (eC (.int 1))) (aCons (eC (.int 1)) (aCons (eC (.int 5)) aNil)))) aNil)) [])) rfl (add_lit (at0 _) z3)
  obtain ⟨v, hv⟩ : ∃ v, v = (if gpr t w h + k > 0 then gpr t w h + k else 0) := ⟨_, rfl⟩
  rw [← hv] at z4
  have v0 : 0 ≤ v := by rw [hv]; split <;> omega
  refine rs_nx (ρ1 := E51 ns t W H x5 x9 x10 x15 (some (.p (.int (w - 1)))) (some (.p (.int (h - 1)))) (some (.p (.int v))) x19 x20 x21 none none none) (s1 := rowO ns p3 s3 r3 :: R) (as_ok z4) ?_
  obtain ⟨T1, v1⟩ := set_tab T0 hw hh v0
  have z5 := thing_ok T0 hW.2 hH.2 hw hh (v := v) (D := eVar 12) (L := eVar 17) (C := eVar 16) (N := eVar 18) (ρ := E51 ns t W H x5 x9 x10 x15 (some (.p (.int (w - 1)))) (some (.p (.int (h - 1)))) (some (.p (.int v))) x19 x20 x21 none none none) (st := rowO ns p3 s3 r3 :: R) rfl rfl rfl rfl
  generalize setT (priceL t W H) w h v = tab at T1 v1 z5
  refine rs_nx (ρ1 := E51 ns t W H x5 x9 x10 x15 (some (.p (.int (w - 1)))) (some (.p (.int (h - 1)))) (some (.p (.int v))) (some (.p (tbV tab))) x20 x21 none none none) (s1 := rowO ns p3 s3 r3 :: R) (as_ok z5) ?_
  have z6 : callF 90 49 [.p t.pv, .p (tbV tab), .p (.int W), .p (.int H)] (rowO ns p3 s3 r3 :: R) = .ok (.p (.bl (clT t W H tab))) (rowO ns p3 s3 r3 :: R) := e49 (n := 88) ok T1 hW hH _
  refine rs_nx (ρ1 := E51 ns t W H x5 x9 x10 x15 (some (.p (.int (w - 1)))) (some (.p (.int (h - 1)))) (some (.p (.int v))) (some (.p (tbV tab))) (some (.p (.bl (clT t W H tab)))) x21 none none none) (s1 := rowO ns p3 s3 r3 :: R) (as_ok (cl_ok rfl z6)) ?_
  have z7 : callF 90 35 [.p t.obj, .p (.int W), .p (.int H), .p (tbV tab)] (rowO ns p3 s3 r3 :: R) = .ok (.p (.bl (clT t W H tab))) (rowO ns p3 s3 r3 :: R) := e35 (n := 85) hW hH _ (e34 (n := 86) ok T1 hW hH _)
  have z8 : callF 90 39 [.p (.bl (clT t W H tab)), .p (.bl (clT t W H tab))] (rowO ns p3 s3 r3 :: R) = .ok (.p (.bl true)) (rowO ns p3 s3 r3 :: R) := a_bl (n := 89) (clT t W H tab) _
  have b4 : tAndM (tTruth (eVar 20)) (tVal (e2 ltM (eVar 18) (e2 ixM (e2 ixM (eVar 12) (eVar 17)) (eVar 16)))) (E51 ns t W H x5 x9 x10 x15 (some (.p (.int (w - 1)))) (some (.p (.int (h - 1)))) (some (.p (.int v))) (some (.p (tbV tab))) (some (.p (.bl (clT t W H tab)))) x21 none none none) (rowO ns p3 s3 r3 :: R) = .ok false (rowO ns p3 s3 r3 :: R) := by
    cases hc : clT t W H tab with
    | false => exact ta_no (tt_ok rfl)
    | true =>
      have g := closed_ge ok T1 hc (w + h).toNat w h ⟨by omega, hw.2⟩ ⟨by omega, hh.2⟩ (by omega)
      rw [v1] at g
      have q : decide (v < gpr t w h) = false := decide_eq_false (by omega)
      exact ta_ok (b := false) (tt_ok (b := true) rfl) (tv_ok (by rw [← q]; exact e2_ok (x := .p (.int v)) rfl (at0 _) (lt_ii ..)))
  refine rs_nx (ρ1 := E51 ns t W H x5 x9 x10 x15 (some (.p (.int (w - 1)))) (some (.p (.int (h - 1)))) (some (.p (.int v))) (some (.p (tbV tab))) (some (.p (.bl (clT t W H tab)))) x21 none none none) (s1 := rowO ns p3 s3 r3 :: R) (if_f (or_f (tn_ok (b := true) (tt_ok (cl_ok (ac_ok (cl_ok rfl z7) (ac_ok (a := aNil) (e := eVar 20) rfl rfl)) z8))) b4) rfl) ?_
  obtain ⟨x, p4, s4, r4, hp4, X, z9⟩ := e30 ok (ns := ns) (R := R) 4 87 p3 s3 r3 W H (by omega) hp3 hW.2 hH.2
  have z9 : callF 90 45 [.r 0 0, .p t.pv, .p (.int W), .p (.int H), .p (.int 4)] (rowO ns p3 s3 r3 :: R) = .ok (.p x.pv) (rowO ns p4 s4 r4 :: R) := z9
  have xt := X.hi hW.1 hH.1
  have xd := X.de
  have xn := X.dd
  have xs : sz x ≤ 16 := X.ss
  obtain ⟨xg, xi⟩ := tree_facts hW.1 hH.1 xt
  refine rs_nx (ρ1 := E51 ns t W H x5 x9 x10 x15 (some (.p (.int (w - 1)))) (some (.p (.int (h - 1)))) (some (.p (.int v))) (some (.p (tbV tab))) (some (.p (.bl (clT t W H tab)))) (some (.p x.pv)) none none none) (s1 := rowO ns p4 s4 r4 :: R) (as_ok (cl_ok rfl z9)) ?_
  have pr : ∀ st, callF 90 18 [.p t.obj, .p x.pv] st = .ok (.p (.int ((sn x).map (prc t)).sum)) st := fun st => e18 (n := 88) xg (by omega) (by omega) xi
  have le := tree_le ok x W H hW.1 hH.1 xt
  have lg := law_gpr ok hW.1 hH.1
  have c1 : tVal (e2 gtM (eCallD (callF 90 18) (aCons (eVar 4) (aCons (eVar 21) aNil)) []) (e2 subM (eC (.int 0)) (e2 ixM (e2 ixM (eVar 8) (eC (.int 0))) (eC (.int 0))))) (E51 ns t W H x5 x9 x10 x15 (some (.p (.int (w - 1)))) (some (.p (.int (h - 1)))) (some (.p (.int v))) (some (.p (tbV tab))) (some (.p (.bl (clT t W H tab)))) (some (.p x.pv)) none none none) (rowO ns p4 s4 r4 :: R) = .ok false (rowO ns p4 s4 r4 :: R) := by
    have q : decide (0 - (lawE t W H).1.1 < ((sn x).map (prc t)).sum) = false := decide_eq_false (by omega)
    exact tv_ok (by rw [← q]; exact e2_ok (cl_ok rfl (pr _)) (sub_lit rfl (p4_00 (lawE t W H) rfl)) (gt_ii ..))
  have c2 : tAndM (tTruth (eVar 20)) (tVal (e2 neM (eCallD (callF 90 36) (aCons (eVar 4) (aCons (eVar 6) (aCons (eVar 7) (aCons (eVar 21) (aCons (eVar 19) aNil))))) []) (e2 eqM (eCallD (callF 90 18) (aCons (eVar 4) (aCons (eVar 21) aNil)) []) (eCallD (callF 90 48) (aCons (eVar 19) (aCons (eVar 6) (aCons (eVar 7) aNil))) [])))) (E51 ns t W H x5 x9 x10 x15 (some (.p (.int (w - 1)))) (some (.p (.int (h - 1)))) (some (.p (.int v))) (some (.p (tbV tab))) (some (.p (.bl (clT t W H tab)))) (some (.p x.pv)) none none none) (rowO ns p4 s4 r4 :: R) = .ok false (rowO ns p4 s4 r4 :: R) := by
    cases hc : clT t W H tab with
    | false => exact ta_no (tt_ok rfl)
    | true =>
      have a1 : callF 90 36 [.p t.obj, .p (.int W), .p (.int H), .p x.pv, .p (tbV tab)] (rowO ns p4 s4 r4 :: R) = .ok (.p (.bl (((sn x).map (prc t)).sum == atT tab W H))) (rowO ns p4 s4 r4 :: R) := e36 (n := 84) ok T1 (by omega) hW hH xt hc xg (by omega) xi _
      have a2 : callF 90 48 [.p (tbV tab), .p (.int W), .p (.int H)] (rowO ns p4 s4 r4 :: R) = .ok (.p (.int (atT tab W H))) (rowO ns p4 s4 r4 :: R) := e48 (n := 89) T1 (by omega) (by omega) _
      have bb : ∀ (b : Bool) (st : PSt), neM (.p (.bl b)) (.p (.bl b)) st = .ok (.p (.bl false)) st := fun b _ => by cases b <;> rfl
      exact ta_ok (b := false) (tt_ok (b := true) rfl) (tv_ok (e2_ok (cl_ok rfl a1) (e2_ok (cl_ok rfl (pr _)) (cl_ok rfl a2) (eq_int ..)) (bb _ _)))
  exact rs_nx (if_f (or_f c1 c2) rfl) ⟨p4, s4, r4, _, _, _, _, _, _, hp4, rfl, rfl⟩
end K00
namespace K00
open PySem Vs
/-! the odd tables -/
def oddL (W H : Int) (tab : List (List Int)) : List PV := [PV.non, .lst (tab.map rowT), .tup ((rowsI tab).drop 1 |>.map .tup), .tup ((rowsI tab ++ (rowsI tab).take 1).map .tup), .tup (((rowsI tab).map (List.drop 1)).map .tup), .tup ((List.replicate H.toNat (List.replicate W.toNat .non)).map .tup), .tup ((List.replicate H.toNat (List.replicate W.toNat (.int (-1)))).map .tup), .int 5]
theorem rep_one {α : Type} (x : α) : ∀ n : Nat, (List.replicate n [x]).flatten = List.replicate n x
  | 0 => rfl
  | n + 1 => by rw [List.replicate_succ, List.flatten_cons, rep_one x n]; rfl
theorem repU_one {x : PV} {k : Int} (hk : 1 ≤ k ∧ k ≤ 12) (st : PSt) : repU (.p (.tup [x])) (.p (.int k)) st = .ok (.p (.tup (List.replicate k.toNat x))) st := by
  have c : [x] ≠ [] ∧ 1 ≤ k ∧ k ≤ 1000 ∧ [x].length ≤ 1000 := ⟨by simp, by omega, by omega, by simp⟩
  show PM.guard ([x] ≠ [] ∧ 1 ≤ k ∧ k ≤ 1000 ∧ [x].length ≤ 1000) _ st = _
  unfold PM.guard
  rw [if_pos c, rep_one]
  rfl
theorem grid_ok {e : EM} {x : PV} {W H : Int} {ρ : Ev} {st : PSt} (h : e ρ st = .ok (.p x) st) (hW : 1 ≤ W ∧ W ≤ 12) (hH : 1 ≤ H ∧ H ≤ 12) (a6 : eVar 6 ρ st = .ok (.p (.int W)) st) (a7 : eVar 7 ρ st = .ok (.p (.int H)) st) : e2 repU (eTup (aCons (e2 repU (eTup (aCons e aNil)) (eVar 6)) aNil)) (eVar 7) ρ st = .ok (.p (.tup ((List.replicate H.toNat (List.replicate W.toNat x)).map .tup))) st := by
  have z := e2_ok (tp_ok (l := [.tup (List.replicate W.toNat x)]) (ac_ok (a := aNil) (e2_ok (tp_ok (l := [x]) (ac_ok (a := aNil) h rfl) (limN (by simp))) a6 (repU_one hW st)) rfl) (limN (by simp))) a7 (repU_one hH st)
  rw [z, List.map_replicate]
theorem odd_args {W H : Int} {tab : List (List Int)} {ρ : Ev} (T : Tab W H tab) (hW : 1 ≤ W ∧ W ≤ 12) (hH : 1 ≤ H ∧ H ≤ 12) (a6 : ∀ st, eVar 6 ρ st = .ok (.p (.int W)) st) (a7 : ∀ st, eVar 7 ρ st = .ok (.p (.int H)) st) (a12 : ∀ st, eVar 12 ρ st = .ok (.p (tbV tab)) st) (ρ1 : PV → Ev) (w1 : ∀ v, (cgNm 23) v (wipeE ρ [23]) = some (ρ1 v)) (a23 : ∀ v st, eVar 23 (ρ1 v) st = .ok (.p v) st) (st : PSt) :
    (aCons (eC .non) (aCons (e1 toLstM (eVar 12)) (aCons (eSl (eVar 12) (pSome (eC (.int 1))) pNo) (aCons (e2 addM (eVar 12) (eSl (eVar 12) pNo (pSome (eC (.int 1))))) (aCons (e1 toTupM (eLc (iTupM (eVar 12)) (cgNm 23) [23] tYesM (eSl (eVar 23) (pSome (eC (.int 1))) pNo))) (aCons (e2 repU (eTup (aCons (e2 repU (eTup (aCons (eC .non) aNil)) (eVar 6)) aNil)) (eVar 7)) (aCons (e2 repU (eTup (aCons (e2 repU (eTup (aCons (e1 negM (eC (.int 1))) aNil)) (eVar 6)) aNil)) (eVar 7)) (aCons (eC (.int 5)) aNil)))))))) ρ st = .ok ((oddL W H tab).map .p) st := by
  have lt := T.len
  have tt : tab.map rowT = (rowsI tab).map .tup := by unfold rowsI; rw [List.map_map]; rfl
  have lm : (tab.map rowT).length = tab.length := List.length_map ..
  have s1 := sl_hi (a := eVar 12) (b := eC (.int 1)) (l := tab.map rowT) (i := 1) (ρ := ρ) (a12 st) rfl (by omega) (by omega)
  have s2 := sl_lo (a := eVar 12) (b := eC (.int 1)) (l := tab.map rowT) (i := 1) (ρ := ρ) (a12 st) rfl (by omega) (by omega)
  have s3 := e2_ok (a12 st) s2 (add_tt (tab.map rowT) ((tab.map rowT).take (1 : Int).toNat) (by rw [List.length_take]; omega) st)
  have s4 := lc_genT (g := rowT) (f := fun r => .tup ((r.map PV.int).drop 1)) (L := tab) (cg := cgNm 23) (vs := [23]) (e := eSl (eVar 23) (pSome (eC (.int 1))) pNo) (a := eVar 12) (st := st) (ρ := ρ) (a12 st) ρ1 w1 (fun r hr => by
    have := T.row r hr
    exact sl_hi (a := eVar 23) (b := eC (.int 1)) (l := r.map .int) (i := 1) (a23 _ st) rfl (by omega) (by rw [List.length_map]; omega)) (limN (by omega))
  have s5 : e1 toTupM (eLc (iTupM (eVar 12)) (cgNm 23) [23] tYesM (eSl (eVar 23) (pSome (eC (.int 1))) pNo)) ρ st = .ok (.p (.tup (((rowsI tab).map (List.drop 1)).map .tup))) st := by
    have q : (tab.map fun r => PV.tup ((r.map PV.int).drop 1)) = ((rowsI tab).map (List.drop 1)).map .tup := by unfold rowsI; rw [List.map_map, List.map_map]; rfl
    rw [q] at s4
    exact e1_ok s4 rfl
  have s6 := grid_ok (e := eC .non) (x := .non) (ρ := ρ) (st := st) rfl hW hH (a6 st) (a7 st)
  have s7 := grid_ok (e := e1 negM (eC (.int 1))) (x := .int (-1)) (ρ := ρ) (st := st) rfl hW hH (a6 st) (a7 st)
  have q1 : (tab.map rowT).drop (1 : Int).toNat = ((rowsI tab).drop 1).map .tup := by rw [tt, List.map_drop]; rfl
  have q3 : tab.map rowT ++ (tab.map rowT).take (1 : Int).toNat = (rowsI tab ++ (rowsI tab).take 1).map .tup := by rw [tt, List.map_append, List.map_take]; rfl
  rw [q1] at s1
  rw [q3] at s3
  have s8 : e1 toLstM (eVar 12) ρ st = .ok (.p (.lst (tab.map rowT))) st := e1_ok (a12 st) rfl
  exact ac_ok (e := eC .non) rfl (ac_ok s8 (ac_ok s1 (ac_ok s3 (ac_ok s5 (ac_ok s6 (ac_ok s7 (ac_ok (e := eC (.int 5)) (a := aNil) rfl rfl)))))))
/-! the last part -/
abbrev E52 (ns : List Int) (t : Told) (W H : Int) (x5 x9 x10 x15 x16 x17 x18 x19 x20 x21 x22 x24 x25 : Option PR) : Ev := E51 ns t W H x5 x9 x10 x15 x16 x17 x18 x19 x20 x21 x22 x24 x25
theorem asked {ns : List Int} {t : Told} {W H p s r : Int} {R : PSt} {v : PV} {x5 x9 x10 x15 x16 x17 x18 x19 x20 x21 x22 : Option PR} {Rt : PR → PSt → Prop} (o : OddV "size" v 1 12) :
    RetS (A19 (E51 ns t W H x5 x9 x10 x15 x16 x17 x18 x19 x20 x21 x22 (some (.p v)) none) (rowO ns p s r :: R)) (fun ρ st => ∃ x25, ρ = E51 ns t W H x5 x9 x10 x15 x16 x17 x18 x19 x20 x21 x22 (some (.p v)) x25 ∧ st = rowO ns p s r :: R) Rt := by
  have il_ok : ∀ {e : EM} {ρ : Ev} {st s : PSt} {l : List PV}, e ρ st = .ok (.p (.lst l)) s → iLstM e ρ st = .ok (wkL l) s := fun {e ρ st s l} h => by
    show (e ρ st).bind _ = _
    rw [h]; rfl
  have hi : iLstM (eLst (aCons (eC (.fn 26)) (aCons (eC (.fn 27)) (aCons (eC (.fn 28)) (aCons (eC (.fn 29)) (aCons (eC (.fn 30)) aNil)))))) (E51 ns t W H x5 x9 x10 x15 x16 x17 x18 x19 x20 x21 x22 (some (.p v)) none) (rowO ns p s r :: R) = .ok (wkL [.fn 26, .fn 27, .fn 28, .fn 29, .fn 30]) (rowO ns p s r :: R) := il_ok (ls_ok (l := [.fn 26, .fn 27, .fn 28, .fn 29, .fn 30]) rfl (limN (by simp)))
  refine rs_for hi (fun j => [PV.fn 26, .fn 27, .fn 28, .fn 29, .fn 30].getD j .non) (wkL_at' _) (fun _ ρ st => ∃ x25, ρ = E51 ns t W H x5 x9 x10 x15 x16 x17 x18 x19 x20 x21 x22 (some (.p v)) x25 ∧ st = rowO ns p s r :: R) ⟨_, rfl, rfl⟩ ?_ (fun _ _ h => h)
  rintro j ρ st hj ⟨y, rfl, rfl⟩
  have hj : j < 5 := hj
  refine ⟨E51 ns t W H x5 x9 x10 x15 x16 x17 x18 x19 x20 x21 x22 (some (.p v)) (some (.p ([PV.fn 26, .fn 27, .fn 28, .fn 29, .fn 30].getD j .non))), _, rfl, ?_⟩
  have hf : ∃ q : Nat, [PV.fn 26, .fn 27, .fn 28, .fn 29, .fn 30].getD j .non = .fn q ∧ (q = 26 ∨ q = 27 ∨ q = 28 ∨ q = 29 ∨ q = 30) := by
    have : j = 0 ∨ j = 1 ∨ j = 2 ∨ j = 3 ∨ j = 4 := by omega
    rcases this with rfl | rfl | rfl | rfl | rfl
    · exact ⟨26, rfl, by omega⟩
    · exact ⟨27, rfl, by omega⟩
    · exact ⟨28, rfl, by omega⟩
    · exact ⟨29, rfl, by omega⟩
    · exact ⟨30, rfl, by omega⟩
  obtain ⟨q, eq, hq⟩ := hf
  rw [eq]
  obtain ⟨x, hx⟩ := o.re
  refine rs_nx (ρ1 := E51 ns t W H x5 x9 x10 x15 x16 x17 x18 x19 x20 x21 x22 (some (.p v)) (some (.p (.fn q)))) (s1 := rowO ns p s r :: R) (if_f (s := rowO ns p s r :: R) (ref_ok (k := 5) (v := v) (t := "size") (x := x) ?_ rfl hx (tp_ok (l := [.str "size", v]) rfl lim2)) rfl) ⟨_, rfl, rfl⟩
  show (if q ∈ [26, 27, 28, 29, 30] then eCallD (callF 90 q) (aCons (eVar 4) (aCons (eC (.int 1)) (aCons (eVar 24) aNil))) [] _ else PM.stuck) _ = _
  rw [if_pos (by simp only [List.mem_cons, List.not_mem_nil, or_false]; exact hq)]
  exact cl_ok rfl (ask_no (n := 85) hq o.d o.no _)
theorem last {ns : List Int} {t : Told} {W H p s r : Int} {R : PSt} {x5 x10 x15 x16 x17 x18 x19 x20 x21 : Option PR} (ok : t.Ok) (hW : 1 ≤ W ∧ W ≤ 12) (hH : 1 ≤ H ∧ H ≤ 12) (hp : 0 ≤ p) {N : Ev → PSt → Prop} :
    RetS (sSeq A15 (sSeq A16 (sSeq A17 (sSeq A18 (sSeq A19 (sSeq A20 sNil))))) (E51 ns t W H x5 (some (.p (bestE t false W H).2.pv)) x10 x15 x16 x17 x18 x19 x20 x21 none none none) (rowO ns p s r :: R)) N (fun q _ => q = .p (.bl true)) := by
  have T0 := price_tab ok (W := W) (H := H) (by omega) (by omega)
  have B := best_is ok (W + H).toNat W H (by omega) (by omega) (by omega)
  have bt := B.hi hW.1 hH.1
  have bd := B.de
  obtain ⟨v, p1, s1, r1, hv, hp1, z1⟩ := pick_ok (n := 88) (ns := ns) (p := p) (s := s) (r := r) (l := oddL W H (priceL t W H)) (ρ := E51 ns t W H x5 (some (.p (bestE t false W H).2.pv)) x10 x15 x16 x17 x18 x19 x20 x21 none none none) (j := 1) R rfl hp (by simp [oddL]) (by simp [oddL]) (odd_args T0 hW hH (fun _ => rfl) (fun _ => rfl) (fun _ => rfl) (fun v => [some (.p (.lst (ns.map .int))), some (.r 0 0), some (.p t.pv), some (.r 1 0), some (.p t.obj), x5, some (.p (.int W)), some (.p (.int H)), some (.p (p4V (lawE t W H))), some (.p (bestE t false W H).2.pv), x10, some (.p (tbV (priceL t W H))), some (.p (tbV (priceL t W H))), none, none, x15, x16, x17, x18, x19, x20, x21, none, some (.p v), none, none]) (fun _ => rfl) (fun _ _ => rfl))
  have nt := odd_table T0 hW hH (price_small ok hW hH) hv
  obtain ⟨x, hx⟩ := nt.re
  refine rs_nx (ρ1 := E51 ns t W H x5 (some (.p (bestE t false W H).2.pv)) x10 x15 x16 x17 x18 x19 x20 x21 (some (.p v)) none none) (s1 := rowO ns p1 s1 r1 :: R) (as_ok z1) ?_
  have z2 : callF 90 35 [.p t.obj, .p (.int W), .p (.int H), .p v] (rowO ns p1 s1 r1 :: R) = .ok (.p (.bl false)) (rowO ns p1 s1 r1 :: R) := e35 (n := 85) hW hH _ (e34n (n := 86) _ (nt.no 86 _))
  have z3 : callF 90 36 [.p t.obj, .p (.int W), .p (.int H), .p (bestE t false W H).2.pv, .p v] (rowO ns p1 s1 r1 :: R) = .err 7 v (rowO ns p1 s1 r1 :: R) := e36n (n := 84) (by omega) hW hH bt _ (e34n (n := 86) _ (nt.no 86 _))
  refine rs_nx (ρ1 := E51 ns t W H x5 (some (.p (bestE t false W H).2.pv)) x10 x15 x16 x17 x18 x19 x20 x21 (some (.p v)) none none) (s1 := rowO ns p1 s1 r1 :: R) (if_f (or_f (tv_ok (e2_ok (cl_ok rfl z2) rfl rfl)) (ref_ok (cl_ok rfl z3) rfl hx (tp_ok (l := [.str "table", v]) rfl lim2))) rfl) ?_
  have z4 : callF 90 36 [.p t.obj, .p (.int W), .p (.int H), .p T.gone.pv, .p v] (rowO ns p1 s1 r1 :: R) = .err 6 T.gone.pv (rowO ns p1 s1 r1 :: R) := e36g (n := 84) (x := .gone) (Nat.zero_le _) hW hH rfl _
  have z5 : eRefused refL (eCallD (callF 90 36) (aCons (eVar 4) (aCons (eVar 6) (aCons (eVar 7) (aCons (eTup (aCons (eC (.str "gone")) aNil)) (aCons (eVar 22) aNil))))) []) (E51 ns t W H x5 (some (.p (bestE t false W H).2.pv)) x10 x15 x16 x17 x18 x19 x20 x21 (some (.p v)) none none) (rowO ns p1 s1 r1 :: R) = .ok (.p (.tup [.str "tree", .tup [.str "gone"]])) (rowO ns p1 s1 r1 :: R) := by
    have z : eCallD (callF 90 36) (aCons (eVar 4) (aCons (eVar 6) (aCons (eVar 7) (aCons (eTup (aCons (eC (.str "gone")) aNil)) (aCons (eVar 22) aNil))))) [] (E51 ns t W H x5 (some (.p (bestE t false W H).2.pv)) x10 x15 x16 x17 x18 x19 x20 x21 (some (.p v)) none none) (rowO ns p1 s1 r1 :: R) = .err 6 T.gone.pv (rowO ns p1 s1 r1 :: R) := cl_ok (ac_ok rfl (ac_ok rfl (ac_ok rfl (ac_ok (tp_ok (l := [.str "gone"]) (ac_ok (a := aNil) rfl rfl) (limN (by simp))) (ac_ok (a := aNil) rfl rfl))))) z4
    unfold eRefused
    rw [z]
    rfl
  have z6 : eTup (aCons (eC (.str "tree")) (aCons (eTup (aCons (eC (.str "gone")) aNil)) aNil)) (E51 ns t W H x5 (some (.p (bestE t false W H).2.pv)) x10 x15 x16 x17 x18 x19 x20 x21 (some (.p v)) none none) (rowO ns p1 s1 r1 :: R) = .ok (.p (.tup [.str "tree", .tup [.str "gone"]])) (rowO ns p1 s1 r1 :: R) := tp_ok (l := [.str "tree", .tup [.str "gone"]]) (ac_ok rfl (ac_ok (a := aNil) (tp_ok (l := [.str "gone"]) (ac_ok (a := aNil) rfl rfl) (limN (by simp))) rfl)) lim2
  have z7 := ne_self (v := .tup [.str "tree", .tup [.str "gone"]]) (d := .tuple [.str "tree", .tuple [.str "gone"]]) rfl (by decide +kernel) (rowO ns p1 s1 r1 :: R)
  refine rs_nx (ρ1 := E51 ns t W H x5 (some (.p (bestE t false W H).2.pv)) x10 x15 x16 x17 x18 x19 x20 x21 (some (.p v)) none none) (s1 := rowO ns p1 s1 r1 :: R) (if_f (tv_ok (e2_ok z5 z6 z7)) rfl) ?_
  obtain ⟨u, p2, s2, r2, hu, hp2, z8⟩ := pick_ok (n := 88) (ns := ns) (p := p1) (s := s1) (r := r1) (l := [.int 0, .int 13, .non, .bl true]) (a := aCons (eC (.int 0)) (aCons (eC (.int 13)) (aCons (eC .non) (aCons (eC (.bl true)) aNil)))) (ρ := E51 ns t W H x5 (some (.p (bestE t false W H).2.pv)) x10 x15 x16 x17 x18 x19 x20 x21 (some (.p v)) none none) (j := 1) R rfl hp1 (by simp) (by simp) (fun _ => rfl)
  have ou := odd_size hu
  refine rs_nx (ρ1 := E51 ns t W H x5 (some (.p (bestE t false W H).2.pv)) x10 x15 x16 x17 x18 x19 x20 x21 (some (.p v)) (some (.p u)) none) (s1 := rowO ns p2 s2 r2 :: R) (as_ok z8) ?_
  refine rs_seq ((asked ou).mono (fun ρ st hh => ?_) fun _ _ h => h)
  obtain ⟨x25, rfl, rfl⟩ := hh
  have fin : sSeq A20 sNil (E51 ns t W H x5 (some (.p (bestE t false W H).2.pv)) x10 x15 x16 x17 x18 x19 x20 x21 (some (.p v)) (some (.p u)) x25) (rowO ns p2 s2 r2 :: R) = .ret (.p (.bl true)) (rowO ns p2 s2 r2 :: R) := sq_ret (re_ok rfl)
  rw [fin]
  exact rfl
end K00
namespace K00
open PySem Vs
theorem ne_selfI (x : Int) (st : PSt) : neM (.p (.int x)) (.p (.int x)) st = .ok (.p (.bl false)) st := by
  show Out.ok (PR.p (.bl (!(x == x)))) st = _
  rw [beq_self_eq_true]; rfl
theorem plain (ns : List Int) : ∃ s, m51 (callF 90) [.p (.lst (ns.map .int))] [] = .ok (.p (.bl true)) s := by
  have key : Ret (m51 (callF 90) [.p (.lst (ns.map .int))] []) (fun q _ => q = .p (.bl true)) := by
    rw [law_is]
    refine defM_RetS rfl ?_
    refine rs_nx (ρ1 := [some (.p (.lst (ns.map .int))), some (.r 0 0), none, none, none, none, none, none, none, none, none, none, none, none, none, none, none, none, none, none, none, none, none, none, none, none]) (s1 := [rowO ns 0 100 0]) (as_ok (lm_ok (s := []) (l := [.lst (ns.map .int), .int 0, .int 100, .int 0]) rfl lim4)) ?_
    obtain ⟨t, p1, s1, r1, ok, hp1, z1⟩ := e25 (n := 87) (ns := ns) (p := 0) (s := 100) (r := 0) (by omega) []
    have z1 : callF 90 40 [.r 0 0] [rowO ns 0 100 0] = .ok (.p t.pv) [rowO ns p1 s1 r1] := z1
    refine rs_nx (ρ1 := [some (.p (.lst (ns.map .int))), some (.r 0 0), some (.p t.pv), some (.r 1 0), none, none, none, none, none, none, none, none, none, none, none, none, none, none, none, none, none, none, none, none, none, none]) (s1 := [rowO ns p1 s1 r1, .dct (.t [] [])]) (pr_ok (ac_ok (cl_ok rfl z1) (ac_ok (e := eDctM) (a := aNil) (s := [rowO ns p1 s1 r1, .dct (.t [] [])]) rfl rfl))) ?_
    have z2 := make_ok (n := 85) ok false (ρ := [some (.p (.lst (ns.map .int))), some (.r 0 0), some (.p t.pv), some (.r 1 0), none, none, none, none, none, none, none, none, none, none, none, none, none, none, none, none, none, none, none, none, none, none]) (st := [rowO ns p1 s1 r1, .dct (.t [] [])]) (st0 := [rowO ns p1 s1 r1, .dct (.t [] [])]) (ar := aCons (e2 ixM (eVar 2) (eC (.int 0))) (aCons (e2 ixM (eVar 2) (eC (.int 1))) aNil)) (ac_ok (e2_ok rfl rfl (pv_kerf t _)) (ac_ok (e2_ok rfl rfl (pv_orders t _)) rfl))
    obtain ⟨d, p2, s2, r2, d0, d1, hp2, z3⟩ := draw_ok (n := 89) (ns := ns) (p := p1) (s := s1) (r := r1) (q := p1) (s1 := s1) (r1 := r1) (many := 20) (m := eC (.int 20)) (ρ := [some (.p (.lst (ns.map .int))), some (.r 0 0), some (.p t.pv), some (.r 1 0), none, none, none, none, none, none, none, none, none, none, none, none, none, none, none, none, none, none, none, none, none, none]) (j := 1) [.dct (.t [] []), .dead] rfl hp1 (by omega) (by omega) rfl
    obtain ⟨m, hm, z4⟩ : ∃ m : Int, (1 ≤ m ∧ m ≤ 12) ∧ eIf (tVal (e2 eqM (eCallD (callF 90 37) (aCons (eVar 1) (aCons (eC (.int 20)) aNil)) []) (eC (.int 0)))) (eC (.int 12)) (eC (.int 7)) [some (.p (.lst (ns.map .int))), some (.r 0 0), some (.p t.pv), some (.r 1 0), none, none, none, none, none, none, none, none, none, none, none, none, none, none, none, none, none, none, none, none, none, none] [rowO ns p1 s1 r1, .dct (.t [] []), .dead] = .ok (.p (.int m)) [rowO ns p2 s2 r2, .dct (.t [] []), .dead] := by
      have z := tv_ok (e2_ok (b := eC (.int 0)) (y := .p (.int 0)) z3 rfl (eq_int ..))
      cases hd : (d == 0) with
      | true => rw [hd] at z; exact ⟨12, by omega, ei_t z rfl⟩
      | false => rw [hd] at z; exact ⟨7, by omega, ei_f z rfl⟩
    refine rs_nx (ρ1 := E5 ns t (some (.p (.int m))) none none none none none none none none none none none none none none none none none) (s1 := [rowO ns p2 s2 r2, .dct (.t [] []), .dead]) (pr_ok (ac_ok z2 (ac_ok (a := aNil) z4 rfl))) ?_
    obtain ⟨w, p3, s3, r3, w0, w1, hp3, z5⟩ := draw_ok (n := 89) (ns := ns) (p := p2) (s := s2) (r := r2) (q := p2) (s1 := s2) (r1 := r2) (many := m) (m := eVar 5) (ρ := E5 ns t (some (.p (.int m))) none none none none none none none none none none none none none none none none none) (j := 1) [.dct (.t [] []), .dead] rfl hp2 (by omega) (by omega) rfl
    obtain ⟨h, p4, s4, r4, h0, h1, hp4, z6⟩ := draw_ok (n := 89) (ns := ns) (p := p3) (s := s3) (r := r3) (q := p3) (s1 := s3) (r1 := r3) (many := m) (m := eVar 5) (ρ := E5 ns t (some (.p (.int m))) none none none none none none none none none none none none none none none none none) (j := 1) [.dct (.t [] []), .dead] rfl hp3 (by omega) (by omega) rfl
    obtain ⟨W, hWd⟩ : ∃ W, W = 1 + w := ⟨_, rfl⟩
    obtain ⟨H, hHd⟩ : ∃ H, H = 1 + h := ⟨_, rfl⟩
    have hW : 1 ≤ W ∧ W ≤ 12 := by omega
    have hH : 1 ≤ H ∧ H ≤ 12 := by omega
    refine rs_nx (ρ1 := E5 ns t (some (.p (.int m))) (some (.p (.int W))) (some (.p (.int H))) none none none none none none none none none none none none none none none) (s1 := [rowO ns p4 s4 r4, .dct (.t [] []), .dead]) (by
      rw [hWd, hHd]
      exact pr_ok (ac_ok (add_lit rfl z5) (ac_ok (a := aNil) (add_lit rfl z6) rfl))) ?_
    obtain ⟨ks, vs, va, _, z7⟩ := law_best ok 24 90 (by omega) [rowO ns p4 s4 r4, .dead, .dead] 1 (by simp) W H [] [] (by omega) (by omega) (by omega) (VaL.nil t)
    have z7 : callF 90 46 [.p t.pv, .r 1 0, .p (.int W), .p (.int H)] [rowO ns p4 s4 r4, .dct (.t [] []), .dead] = .ok (.p (p4V (lawE t W H))) [rowO ns p4 s4 r4, .dct (.t ks vs), .dead] := z7
    refine rs_nx (ρ1 := E5 ns t (some (.p (.int m))) (some (.p (.int W))) (some (.p (.int H))) (some (.p (p4V (lawE t W H)))) none none none none none none none none none none none none none none) (s1 := [rowO ns p4 s4 r4, .dct (.t ks vs), .dead]) (as_ok (cl_ok rfl z7)) ?_
    have B := best_is ok (W + H).toNat W H (by omega) (by omega) (by omega)
    have S := same_best ok (W + H).toNat W H (by omega) (by omega) (by omega)
    have bt := B.hi hW.1 hH.1
    have bd := B.de
    have bp := B.dd
    have bs := B.sz hW.1 hH.1
    have ar : W * H ≤ 12 * 12 := Int.mul_le_mul hW.2 hH.2 (by omega) (by omega)
    obtain ⟨bg, bi⟩ := tree_facts hW.1 hH.1 bt
    have lg := law_gpr ok hW.1 hH.1
    have p1e : (0 : Int) - (bestE t false W H).1.1 = 0 - (lawE t W H).1.1 := by rw [S.a]
    have c1e : (bestE t false W H).1.2.2 = (lawE t W H).1.2 := S.c
    have w1e : (bestE t true W H).1.2.1 = (lawE t W H).2.2 := S.e
    have sm : ((sn (bestE t false W H).2).map (prc t)).sum = 0 - (lawE t W H).1.1 := by rw [B.sm, p1e]
    have ct1 : ct (bestE t false W H).2 = (lawE t W H).1.2 := by rw [B.cu, c1e]
    have z8 : callF 90 27 [.p t.obj, .p (.int W), .p (.int H)] [rowO ns p4 s4 r4, .dct (.t ks vs), .dead] = .ok (.p (bestE t false W H).2.pv) [rowO ns p4 s4 r4, .dct (.t ks vs), .dead] := w27 (n := 88) ok (by omega) hW hH _
    have a26 : ∀ st, callF 90 26 [.p t.obj, .p (.int W), .p (.int H)] st = .ok (.p (.int (0 - (lawE t W H).1.1))) st := fun st => by rw [← p1e]; exact w26 (n := 88) ok (by omega) hW hH st
    have a28 : ∀ st, callF 90 28 [.p t.obj, .p (.int W), .p (.int H)] st = .ok (.p (.int (lawE t W H).1.2)) st := fun st => by rw [← c1e]; exact w28 (n := 88) ok (by omega) hW hH st
    have a29 : ∀ st, callF 90 29 [.p t.obj, .p (.int W), .p (.int H)] st = .ok (.p (.int (W * H + (lawE t W H).2.2))) st := fun st => by rw [← w1e]; exact w29 (n := 88) ok (by omega) hW hH st
    have a15 : ∀ st, callF 90 15 [.p t.obj, .p (.int W), .p (.int H), .p (bestE t false W H).2.pv] st = .ok (.p (.bl true)) st := fun st => by
      have e := e15' (n := 85) (t := t) (x := (bestE t false W H).2) (W := W) (H := H) (by omega) hW hH st
      rw [bt] at e
      exact e
    obtain ⟨q, hq⟩ := Option.isSome_iff_exists.mp (show (sl t (bestE t false W H).2 0 0 W H).isSome = true by rw [sl_tk t _ 0 0 W H hW.1 hH.1, bt])
    obtain ⟨g1, g2, g3⟩ := sl_gd t _ 0 0 W H q hq
    have ql := sl_len t _ 0 0 W H q hq
    have a42 : ∀ st, callF 90 42 [.p t.pv, .p (bestE t false W H).2.pv, .p (.int 0), .p (.int 0), .p (.int W), .p (.int H)] st = .ok (.p (.lst (q.map triV))) st := fun st => by
      have e := sl27_ok t (bestE t false W H).2 89 0 0 W H st (by omega) (by omega) (by omega)
      rw [hq] at e
      exact e
    have a43 : ∀ st, callF 90 43 [.p t.pv, .p (.lst (q.map triV))] st = .ok (.p (.int (0 - (lawE t W H).1.1))) st := fun st => by
      have e := e28 (n := 89) (t := t) (p := q) (st := st) (by omega) g3
      rw [g2, sm] at e
      exact e
    have a44 : ∀ st, callF 90 44 [.p (bestE t false W H).2.pv] st = .ok (.p (.int (lawE t W H).1.2)) st := fun st => by
      rw [← ct1]
      exact e29 _ 89 st bg (by omega)
    have a19 : ∀ st, callF 90 19 [.p (bestE t false W H).2.pv] st = .ok (.p (.int (lawE t W H).1.2)) st := fun st => by
      rw [← ct1]
      exact e19 _ 89 st bg (by omega)
    have T0 := price_tab ok (W := W) (H := H) (by omega) (by omega)
    have Cl := price_closed ok (W := W) (H := H) (by omega) (by omega)
    have a35 : ∀ st, callF 90 35 [.p t.obj, .p (.int W), .p (.int H), .p (tbV (priceL t W H))] st = .ok (.p (.bl true)) st := fun st => by
      have e := e35 (n := 85) hW hH st (e34 (n := 86) ok T0 hW hH st)
      rw [Cl] at e
      exact e
    have a49 : ∀ st, callF 90 49 [.p t.pv, .p (tbV (priceL t W H)), .p (.int W), .p (.int H)] st = .ok (.p (.bl true)) st := fun st => by
      have e := e49 (n := 88) ok T0 hW hH st
      rw [Cl] at e
      exact e
    have a36 : ∀ st, callF 90 36 [.p t.obj, .p (.int W), .p (.int H), .p (bestE t false W H).2.pv, .p (tbV (priceL t W H))] st = .ok (.p (.bl true)) st := fun st => by
      have e := e36 (n := 84) (x := (bestE t false W H).2) ok T0 (by omega) hW hH bt Cl bg (by omega) bi st
      rw [sm, price_at2 (W := W) (H := H) ⟨by omega, by omega⟩ ⟨by omega, by omega⟩, lg, beq_self_eq_true] at e
      exact e
    refine rs_nx (ρ1 := E5 ns t (some (.p (.int m))) (some (.p (.int W))) (some (.p (.int H))) (some (.p (p4V (lawE t W H)))) (some (.p (bestE t false W H).2.pv)) none none none none none none none none none none none none none) (s1 := [rowO ns p4 s4 r4, .dct (.t ks vs), .dead]) (as_ok (cl_ok rfl z8)) ?_
    refine rs_nx (ρ1 := E5 ns t (some (.p (.int m))) (some (.p (.int W))) (some (.p (.int H))) (some (.p (p4V (lawE t W H)))) (some (.p (bestE t false W H).2.pv)) none none none none none none none none none none none none none) (s1 := [rowO ns p4 s4 r4, .dct (.t ks vs), .dead]) (if_f (or_f (tn_ok (b := true) (tt_ok (cl_ok (ac_ok (cl_ok rfl (a26 _)) (ac_ok (a := aNil) (sub_lit rfl (p4_00 (lawE t W H) rfl)) rfl)) (a_int (n := 89) _ _)))) (tv_ok (e2_ok (cl_ok rfl (a15 _)) rfl rfl))) rfl) ?_
    refine rs_nx (ρ1 := E5 ns t (some (.p (.int m))) (some (.p (.int W))) (some (.p (.int H))) (some (.p (p4V (lawE t W H)))) (some (.p (bestE t false W H).2.pv)) (some (.p (.lst (q.map triV)))) none none none none none none none none none none none none) (s1 := [rowO ns p4 s4 r4, .dct (.t ks vs), .dead]) (as_ok (cl_ok rfl (a42 _))) ?_
    have p4_01 : ∀ {A : EM} {ρ : Ev} {st : PSt}, A ρ st = .ok (.p (p4V (lawE t W H))) st → e2 ixM (e2 ixM A (eC (.int 0))) (eC (.int 1)) ρ st = .ok (.p (.int (lawE t W H).1.2)) st := fun {A ρ st} h => e2_ok (e2_ok h rfl rfl) rfl rfl
    have p4_11 : ∀ {A : EM} {ρ : Ev} {st : PSt}, A ρ st = .ok (.p (p4V (lawE t W H))) st → e2 ixM (e2 ixM A (eC (.int 1))) (eC (.int 1)) ρ st = .ok (.p (.int (lawE t W H).2.2)) st := fun {A ρ st} h => e2_ok (e2_ok h rfl rfl) rfl rfl
    refine rs_nx (ρ1 := E5 ns t (some (.p (.int m))) (some (.p (.int W))) (some (.p (.int H))) (some (.p (p4V (lawE t W H)))) (some (.p (bestE t false W H).2.pv)) (some (.p (.lst (q.map triV)))) none none none none none none none none none none none none) (s1 := [rowO ns p4 s4 r4, .dct (.t ks vs), .dead]) (if_f (or_f (tv_ok (e2_ok rfl rfl rfl)) (or_f (tv_ok (e2_ok (cl_ok rfl (a43 _)) (sub_lit rfl (p4_00 (lawE t W H) rfl)) (ne_selfI _ _))) (or_f (tv_ok (e2_ok (cl_ok rfl (a44 _)) (p4_01 rfl) (ne_selfI _ _))) (tv_ok (e2_ok (cl_ok rfl (a19 _)) (p4_01 rfl) (ne_selfI _ _)))))) rfl) ?_
    refine rs_nx (ρ1 := E5 ns t (some (.p (.int m))) (some (.p (.int W))) (some (.p (.int H))) (some (.p (p4V (lawE t W H)))) (some (.p (bestE t false W H).2.pv)) (some (.p (.lst (q.map triV)))) none none none none none none none none none none none none) (s1 := [rowO ns p4 s4 r4, .dct (.t ks vs), .dead]) (if_f (or_f (tn_ok (b := true) (tt_ok (cl_ok (ac_ok (cl_ok rfl (a28 _)) (ac_ok (a := aNil) (p4_01 rfl) rfl)) (a_int (n := 89) _ _)))) (tn_ok (b := true) (tt_ok (cl_ok (ac_ok (cl_ok rfl (a29 _)) (ac_ok (a := aNil) (add_lit (e2_ok rfl rfl (mul_ok ⟨by omega, by omega⟩ _)) (p4_11 rfl)) rfl)) (a_int (n := 89) _ _))))) rfl) ?_
    have a30 : ∀ st, callF 90 30 [.p t.obj, .p (.int W), .p (.int H)] st = .ok (.p (tbV (priceL t W H))) st := fun st => w30 (n := 88) ok (by omega) hW hH
    refine rs_nx (ρ1 := E5 ns t (some (.p (.int m))) (some (.p (.int W))) (some (.p (.int H))) (some (.p (p4V (lawE t W H)))) (some (.p (bestE t false W H).2.pv)) (some (.p (.lst (q.map triV)))) (some (.p (tbV (priceL t W H)))) none none none none none none none none none none none) (s1 := [rowO ns p4 s4 r4, .dct (.t ks vs), .dead]) (as_ok (cl_ok rfl (a30 _))) ?_
    obtain ⟨ks', vs', _, z9⟩ := due_lc (m := 90) (R := [.dead]) (ns := ns) (p := p4) (s := s4) (r := r4) (ρ := E5 ns t (some (.p (.int m))) (some (.p (.int W))) (some (.p (.int H))) (some (.p (p4V (lawE t W H)))) (some (.p (bestE t false W H).2.pv)) (some (.p (.lst (q.map triV)))) (some (.p (tbV (priceL t W H)))) none none none none none none none none none none none) ok (by omega) hW hH va
      (fun u => [some (.p (.lst (ns.map .int))), some (.r 0 0), some (.p t.pv), some (.r 1 0), some (.p t.obj), some (.p (.int m)), some (.p (.int W)), some (.p (.int H)), some (.p (p4V (lawE t W H))), some (.p (bestE t false W H).2.pv), some (.p (.lst (q.map triV))), some (.p (tbV (priceL t W H))), none, none, some (.p u), none, none, none, none, none, none, none, none, none, none, none])
      (fun u v => [some (.p (.lst (ns.map .int))), some (.r 0 0), some (.p t.pv), some (.r 1 0), some (.p t.obj), some (.p (.int m)), some (.p (.int W)), some (.p (.int H)), some (.p (p4V (lawE t W H))), some (.p (bestE t false W H).2.pv), some (.p (.lst (q.map triV))), some (.p (tbV (priceL t W H))), none, some (.p v), some (.p u), none, none, none, none, none, none, none, none, none, none, none])
      (fun _ => rfl) (fun _ _ => rfl) (fun _ => rfl) (fun _ _ => rfl) (fun _ _ _ => rfl) (fun _ _ _ => rfl) (fun _ _ _ => rfl) (fun _ _ _ => rfl)
    rw [due_price ok] at z9
    refine rs_nx (ρ1 := E51 ns t W H (some (.p (.int m))) (some (.p (bestE t false W H).2.pv)) (some (.p (.lst (q.map triV)))) none none none none none none none none none none) (s1 := [rowO ns p4 s4 r4, .dct (.t ks' vs'), .dead]) (as_ok z9) ?_
    have e12 : A12 (E51 ns t W H (some (.p (.int m))) (some (.p (bestE t false W H).2.pv)) (some (.p (.lst (q.map triV)))) none none none none none none none none none none) [rowO ns p4 s4 r4, .dct (.t ks' vs'), .dead] = .nx (E51 ns t W H (some (.p (.int m))) (some (.p (bestE t false W H).2.pv)) (some (.p (.lst (q.map triV)))) none none none none none none none none none none) [rowO ns p4 s4 r4, .dct (.t ks' vs'), .dead] :=
      if_f (or_f (tn_ok (b := true) (tt_ok (cl_ok rfl (a_tab (n := 87) T0 hW.2 hH.2 _)))) (or_f (tv_ok (e2_ok (cl_ok rfl (a35 _)) rfl rfl)) (tn_ok (b := true) (tt_ok (cl_ok rfl (a49 _)))))) rfl
    have e13' : A13 (E51 ns t W H (some (.p (.int m))) (some (.p (bestE t false W H).2.pv)) (some (.p (.lst (q.map triV)))) none none none none none none none none none none) [rowO ns p4 s4 r4, .dct (.t ks' vs'), .dead] = .nx (E51 ns t W H (some (.p (.int m))) (some (.p (bestE t false W H).2.pv)) (some (.p (.lst (q.map triV)))) none none none none none none none none none none) [rowO ns p4 s4 r4, .dct (.t ks' vs'), .dead] :=
      if_f (tv_ok (e2_ok (cl_ok rfl (a36 _)) rfl rfl)) rfl
    rw [sq_eq e12, sq_eq e13']
    refine rs_seq (rs_for (w := wkR 0 (4 : Int).toNat) (rng_ok (j := 4) rfl (by omega) (by omega)) (fun j => .int (0 + j)) (fun _ _ => wkR_at ..) (fun _ ρ st => ∃ p s r x15 x16 x17 x18 x19 x20 x21, 0 ≤ p ∧ ρ = E51 ns t W H (some (.p (.int m))) (some (.p (bestE t false W H).2.pv)) (some (.p (.lst (q.map triV)))) x15 x16 x17 x18 x19 x20 x21 none none none ∧ st = rowO ns p s r :: [.dct (.t ks' vs'), .dead]) ⟨p4, s4, r4, none, none, none, none, none, none, none, hp4, rfl, rfl⟩ ?_ ?_)
    · rintro k ρ st _ ⟨p, s, r, x15, x16, x17, x18, x19, x20, x21, hp, rfl, rfl⟩
      refine ⟨E51 ns t W H (some (.p (.int m))) (some (.p (bestE t false W H).2.pv)) (some (.p (.lst (q.map triV)))) (some (.p (.int (0 + k)))) x16 x17 x18 x19 x20 x21 none none none, _, rfl, ?_⟩
      refine (turn ok hW hH hp).mono (fun ρ st hh => ?_) fun _ _ h => h
      obtain ⟨p', s', r', y16, y17, y18, y19, y20, y21, hp', rfl, rfl⟩ := hh
      exact ⟨p', s', r', _, y16, y17, y18, y19, y20, y21, hp', rfl, rfl⟩
    · rintro ρ st ⟨p, s, r, x15, x16, x17, x18, x19, x20, x21, hp, rfl, rfl⟩
      exact (last ok hW hH hp).mono (fun _ _ h => h) fun q st h => by
        subst h
        exact ⟨_, rfl, rfl⟩
  obtain ⟨q, st, e, rfl⟩ := key.eq
  exact ⟨st, e⟩
end K00
namespace K00
open PySem L2 Vs
section
variable {P : Program} {w : World} {K : PySem.W.Frag} {mg : Str → Option Value} {base : Heap} {fd : Nat → FuncData} {n : Nat} {C : Nat → FM}
abbrev Ft (K : PySem.W.Frag) (mg : Str → Option Value) (base : Heap) (fd : Nat → FuncData) : Prop := Tx fa fn tf exs K mg base fd
def gds : List Nat := [51]
abbrev Ih (P : Program) (w : World) (K : PySem.W.Frag) (mg : Str → Option Value) (base : Heap) (fd : Nat → FuncData) (n : Nat) (C : Nat → FM) : Prop := ∀ i, i ∉ gds → FnOk P w K mg base (CX P w) (2 * n + 1) (gx_f K i) (fd i) (psN i) (spF (gx K) (C i))
theorem bd0 (t : Ft K mg base fd) : Binds K (fd 0) (psN 0) [] := FunD.bindsN (ps := psN 0) (t.defs 0 D0 rfl) fun _ _ _ _ _ _ us hl => match us, hl with | [_], _ => rfl
theorem bd1 (t : Ft K mg base fd) : Binds K (fd 1) (psN 1) [] := FunD.bindsN (ps := psN 1) (t.defs 1 D1 rfl) fun _ _ _ _ _ _ us hl => match us, hl with | [_, _, _], _ => rfl
theorem bd2 (t : Ft K mg base fd) : Binds K (fd 2) (psN 2) [] := FunD.bindsN (ps := psN 2) (t.defs 2 D2 rfl) fun _ _ _ _ _ _ us hl => match us, hl with | [_], _ => rfl
theorem bd3 (t : Ft K mg base fd) : Binds K (fd 3) (psN 3) [] := FunD.bindsN (ps := psN 3) (t.defs 3 D3 rfl) fun _ _ _ _ _ _ us hl => match us, hl with | [_, _], _ => rfl
theorem bd4 (t : Ft K mg base fd) : Binds K (fd 4) (psN 4) [] := FunD.bindsN (ps := psN 4) (t.defs 4 D4 rfl) fun _ _ _ _ _ _ us hl => match us, hl with | [_], _ => rfl
theorem bd5 (t : Ft K mg base fd) : Binds K (fd 5) (psN 5) [] := FunD.bindsN (ps := psN 5) (t.defs 5 D5 rfl) fun _ _ _ _ _ _ us hl => match us, hl with | [_], _ => rfl
theorem bd6 (t : Ft K mg base fd) : Binds K (fd 6) (psN 6) [] := FunD.bindsN (ps := psN 6) (t.defs 6 D6 rfl) fun _ _ _ _ _ _ us hl => match us, hl with | [_, _, _], _ => rfl
theorem bd7 (t : Ft K mg base fd) : Binds K (fd 7) (psN 7) [] := FunD.bindsN (ps := psN 7) (t.defs 7 D7 rfl) fun _ _ _ _ _ _ us hl => match us, hl with | [_, _], _ => rfl
theorem bd8 (t : Ft K mg base fd) : Binds K (fd 8) (psN 8) [] := FunD.bindsN (ps := psN 8) (t.defs 8 D8 rfl) fun _ _ _ _ _ _ us hl => match us, hl with | [_, _], _ => rfl
theorem bd9 (t : Ft K mg base fd) : Binds K (fd 9) (psN 9) [] := FunD.bindsN (ps := psN 9) (t.defs 9 D9 rfl) fun _ _ _ _ _ _ us hl => match us, hl with | [_], _ => rfl
theorem bd10 (t : Ft K mg base fd) : Binds K (fd 10) (psN 10) [] := FunD.bindsN (ps := psN 10) (t.defs 10 D10 rfl) fun _ _ _ _ _ _ us hl => match us, hl with | [_, _], _ => rfl
theorem bd11 (t : Ft K mg base fd) : Binds K (fd 11) (psN 11) [] := FunD.bindsN (ps := psN 11) (t.defs 11 D11 rfl) fun _ _ _ _ _ _ us hl => match us, hl with | [_, _, _], _ => rfl
theorem bd12 (t : Ft K mg base fd) : Binds K (fd 12) (psN 12) [] := FunD.bindsN (ps := psN 12) (t.defs 12 D12 rfl) fun _ _ _ _ _ _ us hl => match us, hl with | [_, _, _, _], _ => rfl
theorem bd13 (t : Ft K mg base fd) : Binds K (fd 13) (psN 13) [] := FunD.bindsN (ps := psN 13) (t.defs 13 D13 rfl) fun _ _ _ _ _ _ us hl => match us, hl with | [_, _, _, _], _ => rfl
theorem bd14 (t : Ft K mg base fd) : Binds K (fd 14) (psN 14) [] := FunD.bindsN (ps := psN 14) (t.defs 14 D14 rfl) fun _ _ _ _ _ _ us hl => match us, hl with | [_, _, _, _], _ => rfl
theorem bd15 (t : Ft K mg base fd) : Binds K (fd 15) (psN 15) [] := FunD.bindsN (ps := psN 15) (t.defs 15 D15 rfl) fun _ _ _ _ _ _ us hl => match us, hl with | [_, _, _, _], _ => rfl
theorem bd16 (t : Ft K mg base fd) : Binds K (fd 16) (psN 16) [] := FunD.bindsN (ps := psN 16) (t.defs 16 D16 rfl) fun _ _ _ _ _ _ us hl => match us, hl with | [_, _, _, _], _ => rfl
theorem bd17 (t : Ft K mg base fd) : Binds K (fd 17) (psN 17) [] := FunD.bindsN (ps := psN 17) (t.defs 17 D17 rfl) fun _ _ _ _ _ _ us hl => match us, hl with | [_], _ => rfl
theorem bd18 (t : Ft K mg base fd) : Binds K (fd 18) (psN 18) [] := FunD.bindsN (ps := psN 18) (t.defs 18 D18 rfl) fun _ _ _ _ _ _ us hl => match us, hl with | [_, _], _ => rfl
theorem bd19 (t : Ft K mg base fd) : Binds K (fd 19) (psN 19) [] := FunD.bindsN (ps := psN 19) (t.defs 19 D19 rfl) fun _ _ _ _ _ _ us hl => match us, hl with | [_], _ => rfl
theorem bd20 (t : Ft K mg base fd) : Binds K (fd 20) (psN 20) [] := FunD.bindsN (ps := psN 20) (t.defs 20 D20 rfl) fun _ _ _ _ _ _ us hl => match us, hl with | [_, _, _], _ => rfl
theorem bd21 (t : Ft K mg base fd) : Binds K (fd 21) (psN 21) [] := FunD.bindsN (ps := psN 21) (t.defs 21 D21 rfl) fun _ _ _ _ _ _ us hl => match us, hl with | [_, _], _ => rfl
theorem bd22 (t : Ft K mg base fd) : Binds K (fd 22) (psN 22) [] := FunD.bindsN (ps := psN 22) (t.defs 22 D22 rfl) fun _ _ _ _ _ _ us hl => match us, hl with | [_, _, _], _ => rfl
theorem bd23 (t : Ft K mg base fd) : Binds K (fd 23) (psN 23) [] := FunD.bindsN (ps := psN 23) (t.defs 23 D23 rfl) fun _ _ _ _ _ _ us hl => match us, hl with | [_, _, _, _, _], _ => rfl
theorem bd24 (t : Ft K mg base fd) : Binds K (fd 24) (psN 24) [] := FunD.bindsN (ps := psN 24) (t.defs 24 D24 rfl) fun _ _ _ _ _ _ us hl => match us, hl with | [_, _, _], _ => rfl
theorem bd25 (t : Ft K mg base fd) : Binds K (fd 25) (psN 25) [] := FunD.bindsN (ps := psN 25) (t.defs 25 D25 rfl) fun _ _ _ _ _ _ us hl => match us, hl with | [_, _, _], _ => rfl
theorem bd26 (t : Ft K mg base fd) : Binds K (fd 26) (psN 26) [] := FunD.bindsN (ps := psN 26) (t.defs 26 D26 rfl) fun _ _ _ _ _ _ us hl => match us, hl with | [_, _, _], _ => rfl
theorem bd27 (t : Ft K mg base fd) : Binds K (fd 27) (psN 27) [] := FunD.bindsN (ps := psN 27) (t.defs 27 D27 rfl) fun _ _ _ _ _ _ us hl => match us, hl with | [_, _, _], _ => rfl
theorem bd28 (t : Ft K mg base fd) : Binds K (fd 28) (psN 28) [] := FunD.bindsN (ps := psN 28) (t.defs 28 D28 rfl) fun _ _ _ _ _ _ us hl => match us, hl with | [_, _, _], _ => rfl
theorem bd29 (t : Ft K mg base fd) : Binds K (fd 29) (psN 29) [] := FunD.bindsN (ps := psN 29) (t.defs 29 D29 rfl) fun _ _ _ _ _ _ us hl => match us, hl with | [_, _, _], _ => rfl
theorem bd30 (t : Ft K mg base fd) : Binds K (fd 30) (psN 30) [] := FunD.bindsN (ps := psN 30) (t.defs 30 D30 rfl) fun _ _ _ _ _ _ us hl => match us, hl with | [_, _, _], _ => rfl
theorem bd31 (t : Ft K mg base fd) : Binds K (fd 31) (psN 31) [] := FunD.bindsN (ps := psN 31) (t.defs 31 D31 rfl) fun _ _ _ _ _ _ us hl => match us, hl with | [_, _, _], _ => rfl
theorem bd32 (t : Ft K mg base fd) : Binds K (fd 32) (psN 32) [] := FunD.bindsN (ps := psN 32) (t.defs 32 D32 rfl) fun _ _ _ _ _ _ us hl => match us, hl with | [_, _, _], _ => rfl
theorem bd33 (t : Ft K mg base fd) : Binds K (fd 33) (psN 33) [] := FunD.bindsN (ps := psN 33) (t.defs 33 D33 rfl) fun _ _ _ _ _ _ us hl => match us, hl with | [_, _, _, _], _ => rfl
theorem bd34 (t : Ft K mg base fd) : Binds K (fd 34) (psN 34) [] := FunD.bindsN (ps := psN 34) (t.defs 34 D34 rfl) fun _ _ _ _ _ _ us hl => match us, hl with | [_, _, _, _], _ => rfl
theorem bd35 (t : Ft K mg base fd) : Binds K (fd 35) (psN 35) [] := FunD.bindsN (ps := psN 35) (t.defs 35 D35 rfl) fun _ _ _ _ _ _ us hl => match us, hl with | [_, _, _, _], _ => rfl
theorem bd36 (t : Ft K mg base fd) : Binds K (fd 36) (psN 36) [] := FunD.bindsN (ps := psN 36) (t.defs 36 D36 rfl) fun _ _ _ _ _ _ us hl => match us, hl with | [_, _, _, _, _], _ => rfl
theorem bd37 (t : Ft K mg base fd) : Binds K (fd 37) (psN 37) [] := FunD.bindsN (ps := psN 37) (t.defs 37 D37 rfl) fun _ _ _ _ _ _ us hl => match us, hl with | [_, _], _ => rfl
theorem bd38 (t : Ft K mg base fd) : Binds K (fd 38) (psN 38) [] := FunD.bindsN (ps := psN 38) (t.defs 38 D38 rfl) fun _ _ _ _ _ _ us hl => match us, hl with | [_, _], _ => rfl
theorem bd39 (t : Ft K mg base fd) : Binds K (fd 39) (psN 39) [] := FunD.bindsN (ps := psN 39) (t.defs 39 D39 rfl) fun _ _ _ _ _ _ us hl => match us, hl with | [_, _], _ => rfl
theorem bd40 (t : Ft K mg base fd) : Binds K (fd 40) (psN 40) [] := FunD.bindsN (ps := psN 40) (t.defs 40 D40 rfl) fun _ _ _ _ _ _ us hl => match us, hl with | [_], _ => rfl
theorem bd41 (t : Ft K mg base fd) : Binds K (fd 41) (psN 41) [] := FunD.bindsN (ps := psN 41) (t.defs 41 D41 rfl) fun _ _ _ _ _ _ us hl => match us, hl with | [_, _, _], _ => rfl
theorem bd42 (t : Ft K mg base fd) : Binds K (fd 42) (psN 42) [] := FunD.bindsN (ps := psN 42) (t.defs 42 D42 rfl) fun _ _ _ _ _ _ us hl => match us, hl with | [_, _, _, _, _, _], _ => rfl
theorem bd43 (t : Ft K mg base fd) : Binds K (fd 43) (psN 43) [] := FunD.bindsN (ps := psN 43) (t.defs 43 D43 rfl) fun _ _ _ _ _ _ us hl => match us, hl with | [_, _], _ => rfl
theorem bd44 (t : Ft K mg base fd) : Binds K (fd 44) (psN 44) [] := FunD.bindsN (ps := psN 44) (t.defs 44 D44 rfl) fun _ _ _ _ _ _ us hl => match us, hl with | [_], _ => rfl
theorem bd45 (t : Ft K mg base fd) : Binds K (fd 45) (psN 45) [] := FunD.bindsN (ps := psN 45) (t.defs 45 D45 rfl) fun _ _ _ _ _ _ us hl => match us, hl with | [_, _, _, _, _], _ => rfl
theorem bd46 (t : Ft K mg base fd) : Binds K (fd 46) (psN 46) [] := FunD.bindsN (ps := psN 46) (t.defs 46 D46 rfl) fun _ _ _ _ _ _ us hl => match us, hl with | [_, _, _, _], _ => rfl
theorem bd47 (t : Ft K mg base fd) : Binds K (fd 47) (psN 47) [] := FunD.bindsN (ps := psN 47) (t.defs 47 D47 rfl) fun _ _ _ _ _ _ us hl => match us, hl with | [_, _], _ => rfl
theorem bd48 (t : Ft K mg base fd) : Binds K (fd 48) (psN 48) [] := FunD.bindsN (ps := psN 48) (t.defs 48 D48 rfl) fun _ _ _ _ _ _ us hl => match us, hl with | [_, _, _], _ => rfl
theorem bd49 (t : Ft K mg base fd) : Binds K (fd 49) (psN 49) [] := FunD.bindsN (ps := psN 49) (t.defs 49 D49 rfl) fun _ _ _ _ _ _ us hl => match us, hl with | [_, _, _, _], _ => rfl
theorem bd50 (t : Ft K mg base fd) : Binds K (fd 50) (psN 50) [] := FunD.bindsN (ps := psN 50) (t.defs 50 D50 rfl) fun _ _ _ _ _ _ us hl => match us, hl with | [_], _ => rfl
theorem bd51 (t : Ft K mg base fd) : Binds K (fd 51) (psN 51) [] := FunD.bindsN (ps := psN 51) (t.defs 51 D51 rfl) fun _ _ _ _ _ _ us hl => match us, hl with | [_], _ => rfl
theorem hold26_27_28_29_30 (t : Ft K mg base fd) (ih : Ih P w K mg base fd n C) : Hold P w mg base (gx K) (2 * n + 1) fd psN C [26, 27, 28, 29, 30] := fun i hi => by
  simp only [List.mem_cons, List.not_mem_nil, or_false] at hi
  rcases hi with rfl | rfl | rfl | rfl | rfl
  · exact ⟨ih 26 (by decide), (t.defs 26 D26 rfl).kp, bd26 t⟩
  · exact ⟨ih 27 (by decide), (t.defs 27 D27 rfl).kp, bd27 t⟩
  · exact ⟨ih 28 (by decide), (t.defs 28 D28 rfl).kp, bd28 t⟩
  · exact ⟨ih 29 (by decide), (t.defs 29 D29 rfl).kp, bd29 t⟩
  · exact ⟨ih 30 (by decide), (t.defs 30 D30 rfl).kp, bd30 t⟩
theorem c0 (t : Ft K mg base fd) (ih : Ih P w K mg base fd n C) : Cal P w mg base (gx K) (2 * n + 1) "is_integer" (gx_f K 0) (fd 0) (psN 0) (C 0) := ⟨ih 0 (by decide), t.glo 3, (t.defs 0 D0 rfl).kp, bd0 t⟩
theorem c1 (t : Ft K mg base fd) (ih : Ih P w K mg base fd n C) : Cal P w mg base (gx K) (2 * n + 1) "is_within" (gx_f K 1) (fd 1) (psN 1) (C 1) := ⟨ih 1 (by decide), t.glo 8, (t.defs 1 D1 rfl).kp, bd1 t⟩
theorem c2 (t : Ft K mg base fd) (ih : Ih P w K mg base fd n C) : Cal P w mg base (gx K) (2 * n + 1) "is_row" (gx_f K 2) (fd 2) (psN 2) (C 2) := ⟨ih 2 (by decide), t.glo 16, (t.defs 2 D2 rfl).kp, bd2 t⟩
theorem c3 (t : Ft K mg base fd) (ih : Ih P w K mg base fd n C) : Cal P w mg base (gx K) (2 * n + 1) "is_tuple_of" (gx_f K 3) (fd 3) (psN 3) (C 3) := ⟨ih 3 (by decide), t.glo 9, (t.defs 3 D3 rfl).kp, bd3 t⟩
theorem c4 (t : Ft K mg base fd) (ih : Ih P w K mg base fd n C) : Cal P w mg base (gx K) (2 * n + 1) "is_order" (gx_f K 4) (fd 4) (psN 4) (C 4) := ⟨ih 4 (by decide), t.glo 14, (t.defs 4 D4 rfl).kp, bd4 t⟩
theorem c5 (t : Ft K mg base fd) (ih : Ih P w K mg base fd n C) : Cal P w mg base (gx K) (2 * n + 1) "check_kerf" (gx_f K 5) (fd 5) (psN 5) (C 5) := ⟨ih 5 (by decide), t.glo 18, (t.defs 5 D5 rfl).kp, bd5 t⟩
theorem c9 (t : Ft K mg base fd) (ih : Ih P w K mg base fd n C) : Cal P w mg base (gx K) (2 * n + 1) "check_size" (gx_f K 9) (fd 9) (psN 9) (C 9) := ⟨ih 9 (by decide), t.glo 23, (t.defs 9 D9 rfl).kp, bd9 t⟩
theorem c10 (t : Ft K mg base fd) (ih : Ih P w K mg base fd n C) : Cal P w mg base (gx K) (2 * n + 1) "check_sizes" (gx_f K 10) (fd 10) (psN 10) (C 10) := ⟨ih 10 (by decide), t.glo 29, (t.defs 10 D10 rfl).kp, bd10 t⟩
theorem c11 (t : Ft K mg base fd) (ih : Ih P w K mg base fd n C) : Cal P w mg base (gx K) (2 * n + 1) "second_of" (gx_f K 11) (fd 11) (psN 11) (C 11) := ⟨ih 11 (by decide), t.glo 26, (t.defs 11 D11 rfl).kp, bd11 t⟩
theorem c12 (t : Ft K mg base fd) (ih : Ih P w K mg base fd n C) : Cal P w mg base (gx K) (2 * n + 1) "is_cut" (gx_f K 12) (fd 12) (psN 12) (C 12) := ⟨ih 12 (by decide), t.glo 27, (t.defs 12 D12 rfl).kp, bd12 t⟩
theorem c13 (t : Ft K mg base fd) (ih : Ih P w K mg base fd n C) : Cal P w mg base (gx K) (2 * n + 1) "is_rest" (gx_f K 13) (fd 13) (psN 13) (C 13) := ⟨ih 13 (by decide), t.glo 25, (t.defs 13 D13 rfl).kp, bd13 t⟩
theorem c14 (t : Ft K mg base fd) (ih : Ih P w K mg base fd n C) : Cal P w mg base (gx K) (2 * n + 1) "is_told" (gx_f K 14) (fd 14) (psN 14) (C 14) := ⟨ih 14 (by decide), t.glo 24, (t.defs 14 D14 rfl).kp, bd14 t⟩
theorem c15 (t : Ft K mg base fd) (ih : Ih P w K mg base fd n C) : Cal P w mg base (gx K) (2 * n + 1) "is_tree" (gx_f K 15) (fd 15) (psN 15) (C 15) := ⟨ih 15 (by decide), t.glo 67, (t.defs 15 D15 rfl).kp, bd15 t⟩
theorem c16 (t : Ft K mg base fd) (ih : Ih P w K mg base fd n C) : Cal P w mg base (gx K) (2 * n + 1) "check_tree" (gx_f K 16) (fd 16) (psN 16) (C 16) := ⟨ih 16 (by decide), t.glo 44, (t.defs 16 D16 rfl).kp, bd16 t⟩
theorem c17 (t : Ft K mg base fd) (ih : Ih P w K mg base fd n C) : Cal P w mg base (gx K) (2 * n + 1) "slabs_of" (gx_f K 17) (fd 17) (psN 17) (C 17) := ⟨ih 17 (by decide), t.glo 31, (t.defs 17 D17 rfl).kp, bd17 t⟩
theorem c18 (t : Ft K mg base fd) (ih : Ih P w K mg base fd n C) : Cal P w mg base (gx K) (2 * n + 1) "tree_price" (gx_f K 18) (fd 18) (psN 18) (C 18) := ⟨ih 18 (by decide), t.glo 42, (t.defs 18 D18 rfl).kp, bd18 t⟩
theorem c19 (t : Ft K mg base fd) (ih : Ih P w K mg base fd n C) : Cal P w mg base (gx K) (2 * n + 1) "tree_cuts" (gx_f K 19) (fd 19) (psN 19) (C 19) := ⟨ih 19 (by decide), t.glo 33, (t.defs 19 D19 rfl).kp, bd19 t⟩
theorem c25 (t : Ft K mg base fd) (ih : Ih P w K mg base fd n C) : Cal P w mg base (gx K) (2 * n + 1) "told_best" (gx_f K 25) (fd 25) (psN 25) (C 25) := ⟨ih 25 (by decide), t.glo 36, (t.defs 25 D25 rfl).kp, bd25 t⟩
theorem c26 (t : Ft K mg base fd) (ih : Ih P w K mg base fd n C) : Cal P w mg base (gx K) (2 * n + 1) "best_price" (gx_f K 26) (fd 26) (psN 26) (C 26) := ⟨ih 26 (by decide), t.glo 61, (t.defs 26 D26 rfl).kp, bd26 t⟩
theorem c27 (t : Ft K mg base fd) (ih : Ih P w K mg base fd n C) : Cal P w mg base (gx K) (2 * n + 1) "best_tree" (gx_f K 27) (fd 27) (psN 27) (C 27) := ⟨ih 27 (by decide), t.glo 60, (t.defs 27 D27 rfl).kp, bd27 t⟩
theorem c28 (t : Ft K mg base fd) (ih : Ih P w K mg base fd n C) : Cal P w mg base (gx K) (2 * n + 1) "fewest_cuts" (gx_f K 28) (fd 28) (psN 28) (C 28) := ⟨ih 28 (by decide), t.glo 59, (t.defs 28 D28 rfl).kp, bd28 t⟩
theorem c29 (t : Ft K mg base fd) (ih : Ih P w K mg base fd n C) : Cal P w mg base (gx K) (2 * n + 1) "best_waste" (gx_f K 29) (fd 29) (psN 29) (C 29) := ⟨ih 29 (by decide), t.glo 58, (t.defs 29 D29 rfl).kp, bd29 t⟩
theorem c30 (t : Ft K mg base fd) (ih : Ih P w K mg base fd n C) : Cal P w mg base (gx K) (2 * n + 1) "price_table" (gx_f K 30) (fd 30) (psN 30) (C 30) := ⟨ih 30 (by decide), t.glo 57, (t.defs 30 D30 rfl).kp, bd30 t⟩
theorem c31 (t : Ft K mg base fd) (ih : Ih P w K mg base fd n C) : Cal P w mg base (gx K) (2 * n + 1) "told_in" (gx_f K 31) (fd 31) (psN 31) (C 31) := ⟨ih 31 (by decide), t.glo 38, (t.defs 31 D31 rfl).kp, bd31 t⟩
theorem c32 (t : Ft K mg base fd) (ih : Ih P w K mg base fd n C) : Cal P w mg base (gx K) (2 * n + 1) "is_form" (gx_f K 32) (fd 32) (psN 32) (C 32) := ⟨ih 32 (by decide), t.glo 40, (t.defs 32 D32 rfl).kp, bd32 t⟩
theorem c33 (t : Ft K mg base fd) (ih : Ih P w K mg base fd n C) : Cal P w mg base (gx K) (2 * n + 1) "is_closed_at" (gx_f K 33) (fd 33) (psN 33) (C 33) := ⟨ih 33 (by decide), t.glo 39, (t.defs 33 D33 rfl).kp, bd33 t⟩
theorem c34 (t : Ft K mg base fd) (ih : Ih P w K mg base fd n C) : Cal P w mg base (gx K) (2 * n + 1) "is_told_closed" (gx_f K 34) (fd 34) (psN 34) (C 34) := ⟨ih 34 (by decide), t.glo 41, (t.defs 34 D34 rfl).kp, bd34 t⟩
theorem c35 (t : Ft K mg base fd) (ih : Ih P w K mg base fd n C) : Cal P w mg base (gx K) (2 * n + 1) "is_closed" (gx_f K 35) (fd 35) (psN 35) (C 35) := ⟨ih 35 (by decide), t.glo 64, (t.defs 35 D35 rfl).kp, bd35 t⟩
theorem c36 (t : Ft K mg base fd) (ih : Ih P w K mg base fd n C) : Cal P w mg base (gx K) (2 * n + 1) "shows" (gx_f K 36) (fd 36) (psN 36) (C 36) := ⟨ih 36 (by decide), t.glo 63, (t.defs 36 D36 rfl).kp, bd36 t⟩
theorem c37 (t : Ft K mg base fd) (ih : Ih P w K mg base fd n C) : Cal P w mg base (gx K) (2 * n + 1) "_law_taken" (gx_f K 37) (fd 37) (psN 37) (C 37) := ⟨ih 37 (by decide), t.glo 45, (t.defs 37 D37 rfl).kp, bd37 t⟩
theorem c38 (t : Ft K mg base fd) (ih : Ih P w K mg base fd n C) : Cal P w mg base (gx K) (2 * n + 1) "_law_pick" (gx_f K 38) (fd 38) (psN 38) (C 38) := ⟨ih 38 (by decide), t.glo 48, (t.defs 38 D38 rfl).kp, bd38 t⟩
theorem c39 (t : Ft K mg base fd) (ih : Ih P w K mg base fd n C) : Cal P w mg base (gx K) (2 * n + 1) "_law_alike" (gx_f K 39) (fd 39) (psN 39) (C 39) := ⟨ih 39 (by decide), t.glo 47, (t.defs 39 D39 rfl).kp, bd39 t⟩
theorem c40 (t : Ft K mg base fd) (ih : Ih P w K mg base fd n C) : Cal P w mg base (gx K) (2 * n + 1) "_law_saw" (gx_f K 40) (fd 40) (psN 40) (C 40) := ⟨ih 40 (by decide), t.glo 68, (t.defs 40 D40 rfl).kp, bd40 t⟩
theorem c41 (t : Ft K mg base fd) (ih : Ih P w K mg base fd n C) : Cal P w mg base (gx K) (2 * n + 1) "_law_second" (gx_f K 41) (fd 41) (psN 41) (C 41) := ⟨ih 41 (by decide), t.glo 50, (t.defs 41 D41 rfl).kp, bd41 t⟩
theorem c42 (t : Ft K mg base fd) (ih : Ih P w K mg base fd n C) : Cal P w mg base (gx K) (2 * n + 1) "_law_slabs" (gx_f K 42) (fd 42) (psN 42) (C 42) := ⟨ih 42 (by decide), t.glo 49, (t.defs 42 D42 rfl).kp, bd42 t⟩
theorem c43 (t : Ft K mg base fd) (ih : Ih P w K mg base fd n C) : Cal P w mg base (gx K) (2 * n + 1) "_law_price" (gx_f K 43) (fd 43) (psN 43) (C 43) := ⟨ih 43 (by decide), t.glo 66, (t.defs 43 D43 rfl).kp, bd43 t⟩
theorem c44 (t : Ft K mg base fd) (ih : Ih P w K mg base fd n C) : Cal P w mg base (gx K) (2 * n + 1) "_law_cuts" (gx_f K 44) (fd 44) (psN 44) (C 44) := ⟨ih 44 (by decide), t.glo 51, (t.defs 44 D44 rfl).kp, bd44 t⟩
theorem c45 (t : Ft K mg base fd) (ih : Ih P w K mg base fd n C) : Cal P w mg base (gx K) (2 * n + 1) "_law_tree" (gx_f K 45) (fd 45) (psN 45) (C 45) := ⟨ih 45 (by decide), t.glo 52, (t.defs 45 D45 rfl).kp, bd45 t⟩
theorem c46 (t : Ft K mg base fd) (ih : Ih P w K mg base fd n C) : Cal P w mg base (gx K) (2 * n + 1) "_law_best" (gx_f K 46) (fd 46) (psN 46) (C 46) := ⟨ih 46 (by decide), t.glo 54, (t.defs 46 D46 rfl).kp, bd46 t⟩
theorem c47 (t : Ft K mg base fd) (ih : Ih P w K mg base fd n C) : Cal P w mg base (gx K) (2 * n + 1) "_law_both" (gx_f K 47) (fd 47) (psN 47) (C 47) := ⟨ih 47 (by decide), t.glo 55, (t.defs 47 D47 rfl).kp, bd47 t⟩
theorem c48 (t : Ft K mg base fd) (ih : Ih P w K mg base fd n C) : Cal P w mg base (gx K) (2 * n + 1) "_law_at" (gx_f K 48) (fd 48) (psN 48) (C 48) := ⟨ih 48 (by decide), t.glo 56, (t.defs 48 D48 rfl).kp, bd48 t⟩
theorem c49 (t : Ft K mg base fd) (ih : Ih P w K mg base fd n C) : Cal P w mg base (gx K) (2 * n + 1) "_law_closed" (gx_f K 49) (fd 49) (psN 49) (C 49) := ⟨ih 49 (by decide), t.glo 65, (t.defs 49 D49 rfl).kp, bd49 t⟩
theorem bderr (t : Ft K mg base fd) : Binds K (fd 52) ["self", "value"] [] := bd_all (ps := ["self", "value"]) (t.defs 52 D52 rfl) (by simp [He.DefD.dvs, D52]) fun _ _ _ _ _ _ _ us its hl hi => match us, its, hl, hi with | [_, _], [_], _, _ => ⟨_, rfl, rfl⟩
theorem scerr : FnScope ["self", "value"] ["self", "value"] (defScope s52) := ⟨rfl, rfl, rfl, by decide +kernel, rfl, by decide +kernel, by decide +kernel⟩
theorem derr (t : Ft K mg base fd) : FnOk P w K mg base (CX P w) 1 (errI K) (fd 52) ["self", "value"] (spErr K) :=
  err_ok (t.defs 52 D52 rfl) scerr rfl fun cdv A outer s H E => pss_one (ps_ost (pv 0) (pv 1))
theorem scR : FnScope ["ask", "e"] ["ask"] (defScope s50) := ⟨rfl, rfl, rfl, by decide +kernel, rfl, by decide +kernel, by decide +kernel⟩
theorem lamC0 (t : Ft K mg base fd) {cdv : Value} (h : ∃ (oc : Value) (od : Option Addr) (osl : Array (Option Value)) (dV kV doc pm : Value) (an : Option Addr) (ct : Value), K.lookup (gx_f K 51) = some ⟨oc, od, .func (PySem.W.fnOf "law" "law" (defArgs s51) (defBody s51) (defScope s51) dV kV doc pm an cdv ct), osl⟩ ∧ PySem.W.codeIn K cdv "law" = true) : ∃ c, cdv = .ref c ∧ LamX.TabB base mg c (He.cT K ("law", none)).2 := by
  obtain ⟨oc, od, osl, dV, kV, doc, pm, an, ct, lk, hc⟩ := h
  obtain ⟨c, rfl⟩ := He.codeIn_ref hc
  have e := He.codeOf_eq (p := ("law", none)) lk rfl
  have tb := t.tab ("law", none) (by simp [tf])
  exact ⟨c, rfl, by have z : (He.cT K ("law", none)).1 = c := e; rw [← z]; exact tb⟩
theorem jref (t : Ft K mg base fd) {k : Nat} {X : Cx} {W : XK} {p lpos pos : Pos} {params : Arguments} {body : Expr} {scope : Scope} {m : EM} {P0 : Addr} (hX : X.K = K ∧ X.mg = mg ∧ X.base = base) (hr : Room (k + 2) X.A) (hg : Gl X "_law_refused") (hcode : ∃ c, X.env.code = .ref c ∧ LamX.TabB base mg c P0) (hmT : (P0, X.env.qual ++ "<lambda>") ∈ (gx K).T) (hu : ∀ p ∈ (gx K).T, p.1 = P0 → p.2 = X.env.qual ++ "<lambda>") (LS : LamX.LamS X.env.scope scope) (hdef : defaultsOf params X.env = ([], []))
    (hbind : ∀ (q : Str) (cl : List (Str × Addr)) (pm cv ctv : Value), bindArgs (PySem.W.kla_fn "<lambda>" q params body scope cl pm cv ctv) ⟨[], []⟩ = pure [])
    (hbody : ∀ (A : Around) (outer : List Env) (s : Shared) (H : Hp) (E : XK) (f c' : Addr), Room k (A.deeper (LamX.lamEnv X scope s.heap.objs.size f c')) → Tk (LamX.lamCx X A outer s H E scope f c') E → JE (LamX.lamCx X A outer s H E scope f c') (gx K) E body m) :
    JE X (gx K) W (.Call (.Name "_law_refused" p) [.Lambda params body scope lpos] [] pos) (eRefused refL m) := by
  obtain ⟨rfl, rfl, rfl⟩ := hX
  have F := t.defs 50 D50 rfl
  have B := bd50 t
  obtain ⟨oc, od, dV, kV, doc, pm, an, cdv, ct, osl, e, lk, hcd, _, _⟩ := F.ex
  rw [e] at lk B
  obtain ⟨c, hc, TB⟩ := hcode
  refine je_refused (g := gx X.K) (Ng := ["ask", "e"]) (c := c) (P := P0) rfl (excLB_ok (t.bl 21)) (by decide) hg (t.glo 71) F.kp lk hcd B scR rfl (.inl rfl) ?_ TB hc hmT hu hr LS hdef hbind hbody
  exact refused_gives rfl (by decide) rfl fun s H => (.cons (q := (Value.ref (gx_c X.K 5), tsRef (gx_c X.K 5) "size")) ⟨rfl, by decide, .inl (t.glo 22)⟩ (fun a oe cls d pn hz hf => pss_one (ps_ret (pe_tup (pa_cons pe_str (pa_cons (pe_xf (errB_ok (t.bl 5)).2 (errB_ok (t.bl 5)).1.val hz hf (pe_varL (pv 1) rfl)) pa_nil))))) (.cons (q := (Value.ref (gx_c X.K 7), tsRef (gx_c X.K 7) "table")) ⟨rfl, by decide, .inl (t.glo 43)⟩ (fun a oe cls d pn hz hf => pss_one (ps_ret (pe_tup (pa_cons pe_str (pa_cons (pe_xf (errB_ok (t.bl 19)).2 (errB_ok (t.bl 19)).1.val hz hf (pe_varL (pv 1) rfl)) pa_nil))))) (.cons (q := (Value.ref (gx_c X.K 6), tsRef (gx_c X.K 6) "tree")) ⟨rfl, by decide, .inl (t.glo 30)⟩ (fun a oe cls d pn hz hf => pss_one (ps_ret (pe_tup (pa_cons pe_str (pa_cons (pe_xf (errB_ok (t.bl 6)).2 (errB_ok (t.bl 6)).1.val hz hf (pe_varL (pv 1) rfl)) pa_nil))))) .nil)))
theorem sc0 : FnScope ["thing"] ["thing"] (defScope s0) := ⟨rfl, rfl, rfl, by decide +kernel, rfl, by decide +kernel, by decide +kernel⟩
theorem d0 (t : Ft K mg base fd) (ih : Ih P w K mg base fd n C) : FnOk P w K mg base (CX P w) (2 * n + 3) (gx_f K 0) (fd 0) (psN 0) (spF (gx K) (m0 C)) :=
  def_ok (g := gx K) (t.defs 0 D0 rfl) sc0 rfl rfl fun cdv A outer s H E hr tk po => have nd := sc0.nd;
    (js_seq (js_ret (je_and rfl (je_isi rfl (clsIsB_ok (t.bl 0)) rfl (t.free 1) (jv 0) (jty "int" (t.free 0) PyProof.Rows.boot_int) (by decide)) (je_one (je_not rfl (je_isi rfl (clsIsB_ok (t.bl 0)) rfl (t.free 1) (jv 0) (jty "bool" (t.free 2) PyProof.Rows.boot_bool) (by decide)))))) js_nil)
theorem sc1 : FnScope ["thing", "least", "most"] ["thing", "least", "most"] (defScope s1) := ⟨rfl, rfl, rfl, by decide +kernel, rfl, by decide +kernel, by decide +kernel⟩
theorem d1 (t : Ft K mg base fd) (ih : Ih P w K mg base fd n C) : FnOk P w K mg base (CX P w) (2 * n + 3) (gx_f K 1) (fd 1) (psN 1) (spF (gx K) (m1 C)) :=
  def_ok (g := gx K) (t.defs 1 D1 rfl) sc1 rfl rfl fun cdv A outer s H E hr tk po => have nd := sc1.nd;
    (js_seq (js_ret (je_and rfl (jc (c0 t ih) rfl hr tk (ja_cons (jv 0) ja_nil)) (je_one (je_chain oj_le oj_le (jv 1) (jv 0) (jv 2))))) js_nil)
theorem sc2 : FnScope ["thing"] ["thing"] (defScope s2) := ⟨rfl, rfl, rfl, by decide +kernel, rfl, by decide +kernel, by decide +kernel⟩
theorem d2 (t : Ft K mg base fd) (ih : Ih P w K mg base fd n C) : FnOk P w K mg base (CX P w) (2 * n + 3) (gx_f K 2) (fd 2) (psN 2) (spF (gx K) (m2 C)) :=
  def_ok (g := gx K) (t.defs 2 D2 rfl) sc2 rfl rfl fun cdv A outer s H E hr tk po => have nd := sc2.nd;
    (js_seq (js_ret (je_isiT rfl (clsIsB_ok (t.bl 0)) rfl (t.free 1) (jv 0) (.cons (jty "list" (t.free 4) PyProof.Rows.boot_list) (.cons (jty "tuple" (t.free 5) PyProof.Rows.boot_tuple) .nil)) (by decide) (by decide))) js_nil)
theorem sc3 : FnScope ["thing", "many"] ["thing", "many"] (defScope s3) := ⟨rfl, rfl, rfl, by decide +kernel, rfl, by decide +kernel, by decide +kernel⟩
theorem d3 (t : Ft K mg base fd) (ih : Ih P w K mg base fd n C) : FnOk P w K mg base (CX P w) (2 * n + 3) (gx_f K 3) (fd 3) (psN 3) (spF (gx K) (m3 C)) :=
  def_ok (g := gx K) (t.defs 3 D3 rfl) sc3 rfl rfl fun cdv A outer s H E hr tk po => have nd := sc3.nd;
    (js_seq (js_ret (je_and rfl (je_isi rfl (clsIsB_ok (t.bl 0)) rfl (t.free 1) (jv 0) (jty "tuple" (t.free 5) PyProof.Rows.boot_tuple) (by decide)) (je_one (je_cmp (oj_eq rfl (u64 hr)) (je_len rfl rfl (t.free 6) (jv 0)) (jv 1) (by rfl))))) js_nil)
theorem sc4 : FnScope ["thing"] ["thing"] (defScope s4) := ⟨rfl, rfl, rfl, by decide +kernel, rfl, by decide +kernel, by decide +kernel⟩
theorem d4 (t : Ft K mg base fd) (ih : Ih P w K mg base fd n C) : FnOk P w K mg base (CX P w) (2 * n + 3) (gx_f K 4) (fd 4) (psN 4) (spF (gx K) (m4 C)) :=
  def_ok (g := gx K) (t.defs 4 D4 rfl) sc4 rfl rfl fun cdv A outer s H E hr tk po => have nd := sc4.nd;
    (js_seq (js_if (jt_w (jw_or (jt_not (jt_truth rfl (jc (c3 t ih) rfl hr tk (ja_cons (jv 0) (ja_cons je_int ja_nil))))) (jw_or (jt_not (jt_truth rfl (jc (c1 t ih) rfl hr tk (ja_cons (je_ix rfl (jv 0) je_int) (ja_cons je_int (ja_cons (jg_int (t.int 10)) ja_nil)))))) (jw_or1 (jt_not (jt_truth rfl (jc (c1 t ih) rfl hr tk (ja_cons (je_ix rfl (jv 0) je_int) (ja_cons je_int (ja_cons (jg_int (t.int 10)) ja_nil)))))))))) (js_seq (js_ret je_bl) js_nil) js_nil) (js_seq (js_ret (jc (c1 t ih) rfl hr tk (ja_cons (je_ix rfl (jv 0) je_int) (ja_cons je_int (ja_cons (jg_int (t.int 7)) ja_nil))))) js_nil))
theorem sc5 : FnScope ["kerf"] ["kerf"] (defScope s5) := ⟨rfl, rfl, rfl, by decide +kernel, rfl, by decide +kernel, by decide +kernel⟩
theorem d5 (t : Ft K mg base fd) (ih : Ih P w K mg base fd n C) : FnOk P w K mg base (CX P w) (2 * n + 3) (gx_f K 5) (fd 5) (psN 5) (spF (gx K) (m5 C)) :=
  def_ok (g := gx K) (t.defs 5 D5 rfl) sc5 rfl rfl fun cdv A outer s H E hr tk po => have nd := sc5.nd;
    (js_seq (js_if (jt_not (jt_truth rfl (jc (c1 t ih) rfl hr tk (ja_cons (jv 0) (ja_cons je_int (ja_cons (jg_int (t.int 11)) ja_nil)))))) (js_seq (js_raise (errB_ok (t.bl 1)).1 (derr t) (rm hr) (bderr t) rfl tk (by rfl) (by exact (t.glo 12)) (jv 0)) js_nil) js_nil) js_nil)
theorem sc6 : FnScope ["self", "kerf", "orders", "index", "order"] ["self", "kerf", "orders"] (defScope s6) := ⟨rfl, rfl, rfl, by decide +kernel, rfl, by decide +kernel, by decide +kernel⟩
theorem d6 (t : Ft K mg base fd) (ih : Ih P w K mg base fd n C) : FnOk P w K mg base (CX P w) (2 * n + 3) (gx_f K 6) (fd 6) (psN 6) (spF (gx K) (m6 C)) :=
  def_ok (g := gx K) (t.defs 6 D6 rfl) sc6 rfl rfl fun cdv A outer s H E hr tk po => have nd := sc6.nd;
    (js_seq (js_expr (jc (c5 t ih) rfl hr tk (ja_cons (jv 1) ja_nil))) (js_seq (js_if (jt_w (jw_or (jt_not (jt_truth rfl (jc (c2 t ih) rfl hr tk (ja_cons (jv 2) ja_nil)))) (jw_or1 (jt_not (jt_chain oj_le oj_le je_int (je_len rfl rfl (t.free 6) (jv 2)) (jg_int (t.int 17))))))) (js_seq (js_raise (errB_ok (t.bl 4)).1 (derr t) (rm hr) (bderr t) rfl tk (by rfl) (by exact (t.glo 15)) (je_neg je_int)) js_nil) js_nil) (js_seq (js_for po rfl (ji_enum rfl rfl (t.free 13) (ja_cons (jv 2) ja_nil)) (jg_tup rfl rfl (jgs_cons (jg_nm (i := 3) nd rfl (by first | exact Or.inl rfl | exact Or.inr rfl)) (jgs_cons (jg_nm (i := 4) nd rfl (by first | exact Or.inl rfl | exact Or.inr rfl)) jgs_nil))) (js_seq (js_if (jt_not (jt_truth rfl (jc (c4 t ih) rfl hr tk (ja_cons (jv 4) ja_nil)))) (js_seq (js_raise (errB_ok (t.bl 4)).1 (derr t) (rm hr) (bderr t) rfl tk (by rfl) (by exact (t.glo 15)) (jv 3)) js_nil) js_nil) js_nil)) (js_seq (js_fld rfl (clsNoB_ok (t.bl 3)) (jv 0) (jv 1)) (js_seq (js_fld rfl (clsNoB_ok (t.bl 2)) (jv 0) (je_tuple rfl rfl (t.free 5) (jv 2))) js_nil)))))
theorem sc7 : FnScope ["self", "other"] ["self", "other"] (defScope s7) := ⟨rfl, rfl, rfl, by decide +kernel, rfl, by decide +kernel, by decide +kernel⟩
theorem d7 (t : Ft K mg base fd) (ih : Ih P w K mg base fd n C) : FnOk P w K mg base (CX P w) (2 * n + 3) (gx_f K 7) (fd 7) (psN 7) (spF (gx K) (m7 C)) :=
  def_ok (g := gx K) (t.defs 7 D7 rfl) sc7 rfl rfl fun cdv A outer s H E hr tk po => have nd := sc7.nd;
    (js_seq (js_ret (je_and rfl (je_isi rfl (clsIsB_ok (t.bl 0)) rfl (t.free 1) (jv 1) (jow 0 (t.glo 19)) (by decide)) (je_one (je_cmp (oj_eq rfl (u64 hr)) (je_tup (ja_cons (je_fld rfl (clsNoB_ok (t.bl 3)) (jv 0)) (ja_cons (je_fld rfl (clsNoB_ok (t.bl 2)) (jv 0)) ja_nil))) (je_tup (ja_cons (je_fld rfl (clsNoB_ok (t.bl 3)) (jv 1)) (ja_cons (je_fld rfl (clsNoB_ok (t.bl 2)) (jv 1)) ja_nil))) (by rfl))))) js_nil)
theorem sc8 : FnScope ["self", "size", "at"] ["self", "size"] (defScope s8) := ⟨rfl, rfl, rfl, by decide +kernel, rfl, by decide +kernel, by decide +kernel⟩
theorem d8 (t : Ft K mg base fd) (ih : Ih P w K mg base fd n C) : FnOk P w K mg base (CX P w) (2 * n + 3) (gx_f K 8) (fd 8) (psN 8) (spF (gx K) (m8 C)) :=
  def_ok (g := gx K) (t.defs 8 D8 rfl) sc8 rfl rfl fun cdv A outer s H E hr tk po => have nd := sc8.nd;
    (js_seq (js_ret (je_lc (own := [("at", 2)]) rfl nd (ji_range2 rfl (t.free 20) (ja_cons je_int (ja_cons (jv 1) ja_nil))) (blk_by (by kernel_rfl)) (fun s H C cl fp => jc_nm (i := 2) nd rfl (by first | exact Or.inl rfl | exact Or.inr rfl) (by decide) (by first | exact .inl rfl | exact .inr rfl)) (fun s H C cl fp => jts_nil) (fun s H C cl fp => (je_tup (ja_cons (jv 2) (ja_cons (jv 2) (ja_cons (je_max2 rfl rfl (t.free 21) (ja_cons je_int (ja_cons (je_bin oj_sub (je_bin oj_sub (jv 1) (jv 2)) (je_fld rfl (clsNoB_ok (t.bl 3)) (jv 0))) ja_nil))) ja_nil))))))) js_nil)
theorem sc9 : FnScope ["size"] ["size"] (defScope s9) := ⟨rfl, rfl, rfl, by decide +kernel, rfl, by decide +kernel, by decide +kernel⟩
theorem d9 (t : Ft K mg base fd) (ih : Ih P w K mg base fd n C) : FnOk P w K mg base (CX P w) (2 * n + 3) (gx_f K 9) (fd 9) (psN 9) (spF (gx K) (m9 C)) :=
  def_ok (g := gx K) (t.defs 9 D9 rfl) sc9 rfl rfl fun cdv A outer s H E hr tk po => have nd := sc9.nd;
    (js_seq (js_if (jt_not (jt_truth rfl (jc (c1 t ih) rfl hr tk (ja_cons (jv 0) (ja_cons je_int (ja_cons (jg_int (t.int 10)) ja_nil)))))) (js_seq (js_raise (errB_ok (t.bl 5)).1 (derr t) (rm hr) (bderr t) rfl tk (by rfl) (by exact (t.glo 22)) (jv 0)) js_nil) js_nil) js_nil)
theorem sc10 : FnScope ["width", "height"] ["width", "height"] (defScope s10) := ⟨rfl, rfl, rfl, by decide +kernel, rfl, by decide +kernel, by decide +kernel⟩
theorem d10 (t : Ft K mg base fd) (ih : Ih P w K mg base fd n C) : FnOk P w K mg base (CX P w) (2 * n + 3) (gx_f K 10) (fd 10) (psN 10) (spF (gx K) (m10 C)) :=
  def_ok (g := gx K) (t.defs 10 D10 rfl) sc10 rfl rfl fun cdv A outer s H E hr tk po => have nd := sc10.nd;
    (js_seq (js_expr (jc (c9 t ih) rfl hr tk (ja_cons (jv 0) ja_nil))) (js_seq (js_expr (jc (c9 t ih) rfl hr tk (ja_cons (jv 1) ja_nil))) js_nil))
theorem sc11 : FnScope ["saw", "size", "at"] ["saw", "size", "at"] (defScope s11) := ⟨rfl, rfl, rfl, by decide +kernel, rfl, by decide +kernel, by decide +kernel⟩
theorem d11 (t : Ft K mg base fd) (ih : Ih P w K mg base fd n C) : FnOk P w K mg base (CX P w) (2 * n + 3) (gx_f K 11) (fd 11) (psN 11) (spF (gx K) (m11 C)) :=
  def_ok (g := gx K) (t.defs 11 D11 rfl) sc11 rfl rfl fun cdv A outer s H E hr tk po => have nd := sc11.nd;
    (js_seq (js_ret (je_max2 rfl rfl (t.free 21) (ja_cons je_int (ja_cons (je_bin oj_sub (je_bin oj_sub (jv 1) (jv 2)) (je_fld rfl (clsNoB_ok (t.bl 3)) (jv 0))) ja_nil)))) js_nil)
theorem sc12 : FnScope ["saw", "width", "height", "thing", "size", "rest"] ["saw", "width", "height", "thing"] (defScope s12) := ⟨rfl, rfl, rfl, by decide +kernel, rfl, by decide +kernel, by decide +kernel⟩
theorem d12 (t : Ft K mg base fd) (ih : Ih P w K mg base fd n C) : FnOk P w K mg base (CX P w) (2 * n + 3) (gx_f K 12) (fd 12) (psN 12) (spF (gx K) (m12 C)) :=
  def_ok (g := gx K) (t.defs 12 D12 rfl) sc12 rfl rfl fun cdv A outer s H E hr tk po => have nd := sc12.nd;
    (js_seq (js_set (i := 4) nd rfl (by first | exact Or.inl rfl | exact Or.inr rfl) (je_if (jt_cmp (oj_eq rfl (u64 hr)) (je_ix rfl (jv 3) je_int) je_str (by rfl)) (jv 1) (jv 2))) (js_seq (js_if (jt_not (jt_truth rfl (jc (c1 t ih) rfl hr tk (ja_cons (je_ix rfl (jv 3) je_int) (ja_cons je_int (ja_cons (je_bin oj_sub (jv 4) je_int) ja_nil)))))) (js_seq (js_ret je_bl) js_nil) js_nil) (js_seq (js_set (i := 5) nd rfl (by first | exact Or.inl rfl | exact Or.inr rfl) (jc (c11 t ih) rfl hr tk (ja_cons (jv 0) (ja_cons (jv 4) (ja_cons (je_ix rfl (jv 3) je_int) ja_nil))))) (js_seq (js_if (jt_cmp (oj_eq rfl (u64 hr)) (je_ix rfl (jv 3) je_int) je_str (by rfl)) (js_seq (js_ret (je_and rfl (jc (c14 t ih) rfl hr tk (ja_cons (jv 0) (ja_cons (je_ix rfl (jv 3) je_int) (ja_cons (jv 2) (ja_cons (je_ix rfl (jv 3) je_int) ja_nil))))) (je_one (jc (c13 t ih) rfl hr tk (ja_cons (jv 0) (ja_cons (jv 5) (ja_cons (jv 2) (ja_cons (je_ix rfl (jv 3) je_int) ja_nil)))))))) js_nil) js_nil) (js_seq (js_ret (je_and rfl (jc (c14 t ih) rfl hr tk (ja_cons (jv 0) (ja_cons (jv 1) (ja_cons (je_ix rfl (jv 3) je_int) (ja_cons (je_ix rfl (jv 3) je_int) ja_nil))))) (je_one (jc (c13 t ih) rfl hr tk (ja_cons (jv 0) (ja_cons (jv 1) (ja_cons (jv 5) (ja_cons (je_ix rfl (jv 3) je_int) ja_nil)))))))) js_nil)))))
theorem sc13 : FnScope ["saw", "width", "height", "thing"] ["saw", "width", "height", "thing"] (defScope s13) := ⟨rfl, rfl, rfl, by decide +kernel, rfl, by decide +kernel, by decide +kernel⟩
theorem d13 (t : Ft K mg base fd) (ih : Ih P w K mg base fd n C) : FnOk P w K mg base (CX P w) (2 * n + 3) (gx_f K 13) (fd 13) (psN 13) (spF (gx K) (m13 C)) :=
  def_ok (g := gx K) (t.defs 13 D13 rfl) sc13 rfl rfl fun cdv A outer s H E hr tk po => have nd := sc13.nd;
    (js_seq (js_if (jt_w (jw_or (jt_cmp (oj_eq rfl (u64 hr)) (jv 1) je_int (by rfl)) (jw_or1 (jt_cmp (oj_eq rfl (u64 hr)) (jv 2) je_int (by rfl))))) (js_seq (js_ret (je_cmp oj_is (jv 3) je_non (by rfl))) js_nil) js_nil) (js_seq (js_ret (jc (c14 t ih) rfl hr tk (ja_cons (jv 0) (ja_cons (jv 1) (ja_cons (jv 2) (ja_cons (jv 3) ja_nil)))))) js_nil))
theorem sc14 : FnScope ["saw", "width", "height", "thing"] ["saw", "width", "height", "thing"] (defScope s14) := ⟨rfl, rfl, rfl, by decide +kernel, rfl, by decide +kernel, by decide +kernel⟩
theorem d14 (t : Ft K mg base fd) (ih : Ih P w K mg base fd n C) : FnOk P w K mg base (CX P w) (2 * n + 3) (gx_f K 14) (fd 14) (psN 14) (spF (gx K) (m14 C)) :=
  def_ok (g := gx K) (t.defs 14 D14 rfl) sc14 rfl rfl fun cdv A outer s H E hr tk po => have nd := sc14.nd;
    (js_seq (js_if (jt_w (jw_or (jt_not (jt_truth rfl (je_isi rfl (clsIsB_ok (t.bl 0)) rfl (t.free 1) (jv 3) (jty "tuple" (t.free 5) PyProof.Rows.boot_tuple) (by decide)))) (jw_or (jt_not (jt_truth rfl (jv 3))) (jw_or1 (jt_not (jt_truth rfl (je_isi rfl (clsIsB_ok (t.bl 0)) rfl (t.free 1) (je_ix rfl (jv 3) je_int) (jty "str" (t.free 28) PyProof.Rows.boot_str) (by decide)))))))) (js_seq (js_ret je_bl) js_nil) js_nil) (js_seq (js_if (jt_cmp (oj_eq rfl (u64 hr)) (je_ix rfl (jv 3) je_int) je_str (by rfl)) (js_seq (js_ret (je_cmp (oj_eq rfl (u64 hr)) (je_len rfl rfl (t.free 6) (jv 3)) je_int (by rfl))) js_nil) js_nil) (js_seq (js_if (jt_cmp (oj_eq rfl (u64 hr)) (je_ix rfl (jv 3) je_int) je_str (by rfl)) (js_seq (js_if (jt_w (jw_or (jt_cmp (oj_ne rfl (u64 hr)) (je_len rfl rfl (t.free 6) (jv 3)) je_int (by rfl)) (jw_or1 (jt_not (jt_truth rfl (jc (c1 t ih) rfl hr tk (ja_cons (je_ix rfl (jv 3) je_int) (ja_cons je_int (ja_cons (je_bin oj_sub (je_len rfl rfl (t.free 6) (je_fld rfl (clsNoB_ok (t.bl 2)) (jv 0))) je_int) ja_nil))))))))) (js_seq (js_ret je_bl) js_nil) js_nil) (js_seq (js_ret (je_cmp (oj_eq rfl (u64 hr)) (je_sl rfl (je_ix rfl (je_fld rfl (clsNoB_ok (t.bl 2)) (jv 0)) (je_ix rfl (jv 3) je_int)) jo_no (jo_some je_int)) (je_tup (ja_cons (jv 1) (ja_cons (jv 2) ja_nil))) (by rfl))) js_nil)) js_nil) (js_seq (js_ret (je_and rfl (je_cmp (oj_in rfl (u65 hr)) (je_ix rfl (jv 3) je_int) (je_tup (ja_cons je_str (ja_cons je_str ja_nil))) (by rfl)) (je_and rfl (jc (c3 t ih) rfl hr tk (ja_cons (jv 3) (ja_cons je_int ja_nil))) (je_one (jc (c12 t ih) rfl hr tk (ja_cons (jv 0) (ja_cons (jv 1) (ja_cons (jv 2) (ja_cons (jv 3) ja_nil))))))))) js_nil))))
theorem sc15 : FnScope ["saw", "width", "height", "thing"] ["saw", "width", "height", "thing"] (defScope s15) := ⟨rfl, rfl, rfl, by decide +kernel, rfl, by decide +kernel, by decide +kernel⟩
theorem d15 (t : Ft K mg base fd) (ih : Ih P w K mg base fd n C) : FnOk P w K mg base (CX P w) (2 * n + 3) (gx_f K 15) (fd 15) (psN 15) (spF (gx K) (m15 C)) :=
  def_ok (g := gx K) (t.defs 15 D15 rfl) sc15 rfl rfl fun cdv A outer s H E hr tk po => have nd := sc15.nd;
    (js_seq (js_expr (jc (c10 t ih) rfl hr tk (ja_cons (jv 1) (ja_cons (jv 2) ja_nil)))) (js_seq (js_ret (jc (c14 t ih) rfl hr tk (ja_cons (jv 0) (ja_cons (jv 1) (ja_cons (jv 2) (ja_cons (jv 3) ja_nil)))))) js_nil))
theorem sc16 : FnScope ["saw", "width", "height", "tree"] ["saw", "width", "height", "tree"] (defScope s16) := ⟨rfl, rfl, rfl, by decide +kernel, rfl, by decide +kernel, by decide +kernel⟩
theorem d16 (t : Ft K mg base fd) (ih : Ih P w K mg base fd n C) : FnOk P w K mg base (CX P w) (2 * n + 3) (gx_f K 16) (fd 16) (psN 16) (spF (gx K) (m16 C)) :=
  def_ok (g := gx K) (t.defs 16 D16 rfl) sc16 rfl rfl fun cdv A outer s H E hr tk po => have nd := sc16.nd;
    (js_seq (js_if (jt_not (jt_truth rfl (jc (c14 t ih) rfl hr tk (ja_cons (jv 0) (ja_cons (jv 1) (ja_cons (jv 2) (ja_cons (jv 3) ja_nil))))))) (js_seq (js_raise (errB_ok (t.bl 6)).1 (derr t) (rm hr) (bderr t) rfl tk (by rfl) (by exact (t.glo 30)) (jv 3)) js_nil) js_nil) js_nil)
theorem sc17 : FnScope ["tree"] ["tree"] (defScope s17) := ⟨rfl, rfl, rfl, by decide +kernel, rfl, by decide +kernel, by decide +kernel⟩
theorem d17 (t : Ft K mg base fd) (ih : Ih P w K mg base fd n C) : FnOk P w K mg base (CX P w) (2 * n + 3) (gx_f K 17) (fd 17) (psN 17) (spF (gx K) (m17 C)) :=
  def_ok (g := gx K) (t.defs 17 D17 rfl) sc17 rfl rfl fun cdv A outer s H E hr tk po => have nd := sc17.nd;
    (js_seq (js_if (jt_w (jw_or (jt_cmp oj_is (jv 0) je_non (by rfl)) (jw_or1 (jt_cmp (oj_eq rfl (u64 hr)) (je_ix rfl (jv 0) je_int) je_str (by rfl))))) (js_seq (js_ret (je_lst ja_nil)) js_nil) js_nil) (js_seq (js_if (jt_cmp (oj_eq rfl (u64 hr)) (je_ix rfl (jv 0) je_int) je_str (by rfl)) (js_seq (js_ret (je_lst (ja_cons (je_ix rfl (jv 0) je_int) ja_nil))) js_nil) js_nil) (js_seq (js_ret (je_bin (oj_add rfl) (jc (c17 t ih) rfl hr tk (ja_cons (je_ix rfl (jv 0) je_int) ja_nil)) (jc (c17 t ih) rfl hr tk (ja_cons (je_ix rfl (jv 0) je_int) ja_nil)))) js_nil)))
theorem sc18 : FnScope ["saw", "tree", "number"] ["saw", "tree"] (defScope s18) := ⟨rfl, rfl, rfl, by decide +kernel, rfl, by decide +kernel, by decide +kernel⟩
theorem d18 (t : Ft K mg base fd) (ih : Ih P w K mg base fd n C) : FnOk P w K mg base (CX P w) (2 * n + 3) (gx_f K 18) (fd 18) (psN 18) (spF (gx K) (m18 C)) :=
  def_ok (g := gx K) (t.defs 18 D18 rfl) sc18 rfl rfl fun cdv A outer s H E hr tk po => have nd := sc18.nd;
    (js_seq (js_ret (je_sum rfl rfl rfl (t.free 32) (je_lc (own := [("number", 2)]) rfl nd (ji_list rfl (jc (c17 t ih) rfl hr tk (ja_cons (jv 1) ja_nil))) (blk_by (by kernel_rfl)) (fun s H C cl fp => jc_nm (i := 2) nd rfl (by first | exact Or.inl rfl | exact Or.inr rfl) (by decide) (by first | exact .inl rfl | exact .inr rfl)) (fun s H C cl fp => jts_nil) (fun s H C cl fp => (je_ix rfl (je_ix rfl (je_fld rfl (clsNoB_ok (t.bl 2)) (jv 0)) (jv 2)) je_int))))) js_nil)
theorem sc19 : FnScope ["tree"] ["tree"] (defScope s19) := ⟨rfl, rfl, rfl, by decide +kernel, rfl, by decide +kernel, by decide +kernel⟩
theorem d19 (t : Ft K mg base fd) (ih : Ih P w K mg base fd n C) : FnOk P w K mg base (CX P w) (2 * n + 3) (gx_f K 19) (fd 19) (psN 19) (spF (gx K) (m19 C)) :=
  def_ok (g := gx K) (t.defs 19 D19 rfl) sc19 rfl rfl fun cdv A outer s H E hr tk po => have nd := sc19.nd;
    (js_seq (js_if (jt_w (jw_or (jt_cmp oj_is (jv 0) je_non (by rfl)) (jw_or1 (jt_cmp (oj_in rfl (u65 hr)) (je_ix rfl (jv 0) je_int) (je_tup (ja_cons je_str (ja_cons je_str ja_nil))) (by rfl))))) (js_seq (js_ret je_int) js_nil) js_nil) (js_seq (js_ret (je_bin (oj_add rfl) (je_bin (oj_add rfl) je_int (jc (c19 t ih) rfl hr tk (ja_cons (je_ix rfl (jv 0) je_int) ja_nil))) (jc (c19 t ih) rfl hr tk (ja_cons (je_ix rfl (jv 0) je_int) ja_nil)))) js_nil))
theorem sc20 : FnScope ["self", "saw", "by_waste"] ["self", "saw", "by_waste"] (defScope s20) := ⟨rfl, rfl, rfl, by decide +kernel, rfl, by decide +kernel, by decide +kernel⟩
theorem d20 (t : Ft K mg base fd) (ih : Ih P w K mg base fd n C) : FnOk P w K mg base (CX P w) (2 * n + 3) (gx_f K 20) (fd 20) (psN 20) (spF (gx K) (m20 C)) :=
  def_ok (g := gx K) (t.defs 20 D20 rfl) sc20 rfl rfl fun cdv A outer s H E hr tk po => have nd := sc20.nd;
    (js_seq (js_fld rfl (clsNoB_ok (t.bl 9)) (jv 0) (jv 1)) (js_seq (js_fld rfl (clsNoB_ok (t.bl 8)) (jv 0) (jv 2)) (js_seq (js_fldN rfl (clsNoB_ok (t.bl 7)) (pe_var (i := 0) (by rfl) (by first | exact Or.inl rfl | exact Or.inr (Or.inl rfl) | exact Or.inr (Or.inr rfl)))) js_nil)))
theorem sc21 : FnScope ["self", "order"] ["self", "order"] (defScope s21) := ⟨rfl, rfl, rfl, by decide +kernel, rfl, by decide +kernel, by decide +kernel⟩
theorem d21 (t : Ft K mg base fd) (ih : Ih P w K mg base fd n C) : FnOk P w K mg base (CX P w) (2 * n + 3) (gx_f K 21) (fd 21) (psN 21) (spF (gx K) (m21 C)) :=
  def_ok (g := gx K) (t.defs 21 D21 rfl) sc21 rfl rfl fun cdv A outer s H E hr tk po => have nd := sc21.nd;
    (js_seq (js_ret (je_tup (ja_cons (je_bin oj_sub je_int (je_ix rfl (jv 1) je_int)) (ja_cons (je_if (jt_truth rfl (je_fld rfl (clsNoB_ok (t.bl 8)) (jv 0))) (je_bin oj_sub je_int (je_bin oj_mul (je_ix rfl (jv 1) je_int) (je_ix rfl (jv 1) je_int))) je_int) (ja_cons je_int ja_nil))))) js_nil)
theorem sc22 : FnScope ["self", "width", "height"] ["self", "width", "height"] (defScope s22) := ⟨rfl, rfl, rfl, by decide +kernel, rfl, by decide +kernel, by decide +kernel⟩
theorem d22 (t : Ft K mg base fd) (ih : Ih P w K mg base fd n C) : FnOk P w K mg base (CX P w) (2 * n + 3) (gx_f K 22) (fd 22) (psN 22) (spF (gx K) (m22 C)) :=
  def_ok (g := gx K) (t.defs 22 D22 rfl) sc22 rfl rfl fun cdv A outer s H E hr tk po => have nd := sc22.nd;
    (js_seq (js_if (jt_w (jw_or (jt_cmp (oj_eq rfl (u64 hr)) (jv 1) je_int (by rfl)) (jw_or1 (jt_cmp (oj_eq rfl (u64 hr)) (jv 2) je_int (by rfl))))) (js_seq (js_ret (je_tup (ja_cons (je_tup (ja_cons je_int (ja_cons je_int (ja_cons je_int ja_nil)))) (ja_cons je_non ja_nil)))) js_nil) js_nil) (js_seq (js_if (jt_pc (pc_notinT (u65 hr) (ja_cons (jv 1) (ja_cons (jv 2) ja_nil)) (je_fld rfl (clsNoB_ok (t.bl 7)) (jv 0))) (by rfl)) (js_seq (js_setT (u65 hr) (je_fld rfl (clsNoB_ok (t.bl 7)) (jv 0)) (ja_cons (jv 1) (ja_cons (jv 2) ja_nil)) (je_meth (jv 0) (clsB_ok (t.bl 11)) (methB_ok (t.bl 10)) (ih 24 (by decide)) (rm hr) (bd24 t) .nil (fun _ _ => RVs.nil) tk (ja_cons (jv 1) (ja_cons (jv 2) ja_nil)))) js_nil) js_nil) (js_seq (js_ret (je_ixT (u65 hr) (je_fld rfl (clsNoB_ok (t.bl 7)) (jv 0)) (ja_cons (jv 1) (ja_cons (jv 2) ja_nil)))) js_nil)))
theorem sc23 : FnScope ["self", "word", "at", "first", "second", "key"] ["self", "word", "at", "first", "second"] (defScope s23) := ⟨rfl, rfl, rfl, by decide +kernel, rfl, by decide +kernel, by decide +kernel⟩
theorem d23 (t : Ft K mg base fd) (ih : Ih P w K mg base fd n C) : FnOk P w K mg base (CX P w) (2 * n + 3) (gx_f K 23) (fd 23) (psN 23) (spF (gx K) (m23 C)) :=
  def_ok (g := gx K) (t.defs 23 D23 rfl) sc23 rfl rfl fun cdv A outer s H E hr tk po => have nd := sc23.nd;
    (js_seq (js_set (i := 5) nd rfl (by first | exact Or.inl rfl | exact Or.inr rfl) (je_tup (ja_cons (je_bin (oj_add rfl) (je_ix rfl (je_ix rfl (jv 3) je_int) je_int) (je_ix rfl (je_ix rfl (jv 4) je_int) je_int)) (ja_cons (je_bin (oj_add rfl) (je_ix rfl (je_ix rfl (jv 3) je_int) je_int) (je_ix rfl (je_ix rfl (jv 4) je_int) je_int)) (ja_cons (je_bin (oj_add rfl) (je_bin (oj_add rfl) (je_ix rfl (je_ix rfl (jv 3) je_int) je_int) (je_ix rfl (je_ix rfl (jv 4) je_int) je_int)) je_int) ja_nil))))) (js_seq (js_ret (je_tup (ja_cons (jv 5) (ja_cons (je_tup (ja_cons (jv 1) (ja_cons (jv 2) (ja_cons (je_ix rfl (jv 3) je_int) (ja_cons (je_ix rfl (jv 4) je_int) ja_nil))))) ja_nil)))) js_nil))
theorem sc24 : FnScope ["self", "width", "height", "found", "number", "order", "at", "first", "second", "told"] ["self", "width", "height"] (defScope s24) := ⟨rfl, rfl, rfl, by decide +kernel, rfl, by decide +kernel, by decide +kernel⟩
theorem d24 (t : Ft K mg base fd) (ih : Ih P w K mg base fd n C) : FnOk P w K mg base (CX P w) (2 * n + 3) (gx_f K 24) (fd 24) (psN 24) (spF (gx K) (m24 C)) :=
  def_ok (g := gx K) (t.defs 24 D24 rfl) sc24 rfl rfl fun cdv A outer s H E hr tk po => have nd := sc24.nd;
    (js_seq (js_set (i := 3) nd rfl (by first | exact Or.inl rfl | exact Or.inr rfl) (je_tup (ja_cons (je_tup (ja_cons je_int (ja_cons je_int (ja_cons je_int ja_nil)))) (ja_cons (jg_ktup (t.glo 34) (ktB_ok (t.bl 17)) (fun _ _ => (RVs.cons (by simp only [RV]) RVs.nil))) ja_nil)))) (js_seq (js_for po rfl (ji_enum rfl rfl (t.free 13) (ja_cons (je_fld rfl (clsNoB_ok (t.bl 2)) (je_fld rfl (clsNoB_ok (t.bl 9)) (jv 0))) ja_nil)) (jg_tup rfl rfl (jgs_cons (jg_nm (i := 4) nd rfl (by first | exact Or.inl rfl | exact Or.inr rfl)) (jgs_cons (jg_nm (i := 5) nd rfl (by first | exact Or.inl rfl | exact Or.inr rfl)) jgs_nil))) (js_seq (js_if (jt_w (jw_and (jt_cmp (oj_eq rfl (u64 hr)) (je_sl rfl (jv 5) jo_no (jo_some je_int)) (je_tup (ja_cons (jv 1) (ja_cons (jv 2) ja_nil))) (by rfl)) (jw_and1 (jt_cmp (oj_lt rfl (u64 hr)) (je_meth (jv 0) (clsB_ok (t.bl 11)) (methB_ok (t.bl 16)) (ih 21 (by decide)) (rm hr) (bd21 t) .nil (fun _ _ => RVs.nil) tk (ja_cons (jv 5) ja_nil)) (je_ix rfl (jv 3) je_int) (by rfl))))) (js_seq (js_set (i := 3) nd rfl (by first | exact Or.inl rfl | exact Or.inr rfl) (je_tup (ja_cons (je_meth (jv 0) (clsB_ok (t.bl 11)) (methB_ok (t.bl 16)) (ih 21 (by decide)) (rm hr) (bd21 t) .nil (fun _ _ => RVs.nil) tk (ja_cons (jv 5) ja_nil)) (ja_cons (je_tup (ja_cons je_str (ja_cons (jv 4) ja_nil))) ja_nil)))) js_nil) js_nil) js_nil)) (js_seq (js_for po rfl (ji_list rfl (je_meth (je_fld rfl (clsNoB_ok (t.bl 9)) (jv 0)) (clsB_ok (t.bl 13)) (methB_ok (t.bl 12)) (ih 8 (by decide)) (rm hr) (bd8 t) .nil (fun _ _ => RVs.nil) tk (ja_cons (jv 1) ja_nil))) (jg_tup rfl rfl (jgs_cons (jg_nm (i := 6) nd rfl (by first | exact Or.inl rfl | exact Or.inr rfl)) (jgs_cons (jg_nm (i := 7) nd rfl (by first | exact Or.inl rfl | exact Or.inr rfl)) (jgs_cons (jg_nm (i := 8) nd rfl (by first | exact Or.inl rfl | exact Or.inr rfl)) jgs_nil)))) (js_seq (js_set (i := 9) nd rfl (by first | exact Or.inl rfl | exact Or.inr rfl) (je_meth (jv 0) (clsB_ok (t.bl 11)) (methB_ok (t.bl 15)) (ih 23 (by decide)) (rm hr) (bd23 t) .nil (fun _ _ => RVs.nil) tk (ja_cons je_str (ja_cons (jv 6) (ja_cons (je_meth (jv 0) (clsB_ok (t.bl 11)) (methB_ok (t.bl 14)) (ih 22 (by decide)) (rm hr) (bd22 t) .nil (fun _ _ => RVs.nil) tk (ja_cons (jv 7) (ja_cons (jv 2) ja_nil))) (ja_cons (je_meth (jv 0) (clsB_ok (t.bl 11)) (methB_ok (t.bl 14)) (ih 22 (by decide)) (rm hr) (bd22 t) .nil (fun _ _ => RVs.nil) tk (ja_cons (jv 8) (ja_cons (jv 2) ja_nil))) ja_nil)))))) (js_seq (js_if (jt_cmp (oj_lt rfl (u64 hr)) (je_ix rfl (jv 9) je_int) (je_ix rfl (jv 3) je_int) (by rfl)) (js_seq (js_set (i := 3) nd rfl (by first | exact Or.inl rfl | exact Or.inr rfl) (jv 9)) js_nil) js_nil) js_nil))) (js_seq (js_for po rfl (ji_list rfl (je_meth (je_fld rfl (clsNoB_ok (t.bl 9)) (jv 0)) (clsB_ok (t.bl 13)) (methB_ok (t.bl 12)) (ih 8 (by decide)) (rm hr) (bd8 t) .nil (fun _ _ => RVs.nil) tk (ja_cons (jv 2) ja_nil))) (jg_tup rfl rfl (jgs_cons (jg_nm (i := 6) nd rfl (by first | exact Or.inl rfl | exact Or.inr rfl)) (jgs_cons (jg_nm (i := 7) nd rfl (by first | exact Or.inl rfl | exact Or.inr rfl)) (jgs_cons (jg_nm (i := 8) nd rfl (by first | exact Or.inl rfl | exact Or.inr rfl)) jgs_nil)))) (js_seq (js_set (i := 9) nd rfl (by first | exact Or.inl rfl | exact Or.inr rfl) (je_meth (jv 0) (clsB_ok (t.bl 11)) (methB_ok (t.bl 15)) (ih 23 (by decide)) (rm hr) (bd23 t) .nil (fun _ _ => RVs.nil) tk (ja_cons je_str (ja_cons (jv 6) (ja_cons (je_meth (jv 0) (clsB_ok (t.bl 11)) (methB_ok (t.bl 14)) (ih 22 (by decide)) (rm hr) (bd22 t) .nil (fun _ _ => RVs.nil) tk (ja_cons (jv 1) (ja_cons (jv 7) ja_nil))) (ja_cons (je_meth (jv 0) (clsB_ok (t.bl 11)) (methB_ok (t.bl 14)) (ih 22 (by decide)) (rm hr) (bd22 t) .nil (fun _ _ => RVs.nil) tk (ja_cons (jv 1) (ja_cons (jv 8) ja_nil))) ja_nil)))))) (js_seq (js_if (jt_cmp (oj_lt rfl (u64 hr)) (je_ix rfl (jv 9) je_int) (je_ix rfl (jv 3) je_int) (by rfl)) (js_seq (js_set (i := 3) nd rfl (by first | exact Or.inl rfl | exact Or.inr rfl) (jv 9)) js_nil) js_nil) js_nil))) (js_seq (js_ret (jv 3)) js_nil)))))
theorem sc25 : FnScope ["saw", "width", "height"] ["saw", "width", "height"] (defScope s25) := ⟨rfl, rfl, rfl, by decide +kernel, rfl, by decide +kernel, by decide +kernel⟩
theorem d25 (t : Ft K mg base fd) (ih : Ih P w K mg base fd n C) : FnOk P w K mg base (CX P w) (2 * n + 3) (gx_f K 25) (fd 25) (psN 25) (spF (gx K) (m25 C)) :=
  def_ok (g := gx K) (t.defs 25 D25 rfl) sc25 rfl rfl fun cdv A outer s H E hr tk po => have nd := sc25.nd;
    (js_seq (js_ret (je_meth (je_make (mkB_ok (t.bl 18)) (ih 20 (by decide)) (rm hr) (by rfl) (by exact (t.glo 35)) (bd20 t) .nil (fun _ _ => RVs.nil) tk (ja_cons (jv 0) (ja_cons je_bl ja_nil))) (clsB_ok (t.bl 11)) (methB_ok (t.bl 14)) (ih 22 (by decide)) (rm hr) (bd22 t) .nil (fun _ _ => RVs.nil) tk (ja_cons (jv 1) (ja_cons (jv 2) ja_nil)))) js_nil)
theorem sc26 : FnScope ["saw", "width", "height"] ["saw", "width", "height"] (defScope s26) := ⟨rfl, rfl, rfl, by decide +kernel, rfl, by decide +kernel, by decide +kernel⟩
theorem d26 (t : Ft K mg base fd) (ih : Ih P w K mg base fd n C) : FnOk P w K mg base (CX P w) (2 * n + 3) (gx_f K 26) (fd 26) (psN 26) (spF (gx K) (m26 C)) :=
  def_ok (g := gx K) (t.defs 26 D26 rfl) sc26 rfl rfl fun cdv A outer s H E hr tk po => have nd := sc26.nd;
    (js_seq (js_expr (jc (c10 t ih) rfl hr tk (ja_cons (jv 1) (ja_cons (jv 2) ja_nil)))) (js_seq (js_ret (je_bin oj_sub je_int (je_ix rfl (je_ix rfl (jc (c25 t ih) rfl hr tk (ja_cons (jv 0) (ja_cons (jv 1) (ja_cons (jv 2) ja_nil)))) je_int) je_int))) js_nil))
theorem sc27 : FnScope ["saw", "width", "height"] ["saw", "width", "height"] (defScope s27) := ⟨rfl, rfl, rfl, by decide +kernel, rfl, by decide +kernel, by decide +kernel⟩
theorem d27 (t : Ft K mg base fd) (ih : Ih P w K mg base fd n C) : FnOk P w K mg base (CX P w) (2 * n + 3) (gx_f K 27) (fd 27) (psN 27) (spF (gx K) (m27 C)) :=
  def_ok (g := gx K) (t.defs 27 D27 rfl) sc27 rfl rfl fun cdv A outer s H E hr tk po => have nd := sc27.nd;
    (js_seq (js_expr (jc (c10 t ih) rfl hr tk (ja_cons (jv 1) (ja_cons (jv 2) ja_nil)))) (js_seq (js_ret (je_ix rfl (jc (c25 t ih) rfl hr tk (ja_cons (jv 0) (ja_cons (jv 1) (ja_cons (jv 2) ja_nil)))) je_int)) js_nil))
theorem sc28 : FnScope ["saw", "width", "height"] ["saw", "width", "height"] (defScope s28) := ⟨rfl, rfl, rfl, by decide +kernel, rfl, by decide +kernel, by decide +kernel⟩
theorem d28 (t : Ft K mg base fd) (ih : Ih P w K mg base fd n C) : FnOk P w K mg base (CX P w) (2 * n + 3) (gx_f K 28) (fd 28) (psN 28) (spF (gx K) (m28 C)) :=
  def_ok (g := gx K) (t.defs 28 D28 rfl) sc28 rfl rfl fun cdv A outer s H E hr tk po => have nd := sc28.nd;
    (js_seq (js_expr (jc (c10 t ih) rfl hr tk (ja_cons (jv 1) (ja_cons (jv 2) ja_nil)))) (js_seq (js_ret (je_ix rfl (je_ix rfl (jc (c25 t ih) rfl hr tk (ja_cons (jv 0) (ja_cons (jv 1) (ja_cons (jv 2) ja_nil)))) je_int) je_int)) js_nil))
theorem sc29 : FnScope ["saw", "width", "height"] ["saw", "width", "height"] (defScope s29) := ⟨rfl, rfl, rfl, by decide +kernel, rfl, by decide +kernel, by decide +kernel⟩
theorem d29 (t : Ft K mg base fd) (ih : Ih P w K mg base fd n C) : FnOk P w K mg base (CX P w) (2 * n + 3) (gx_f K 29) (fd 29) (psN 29) (spF (gx K) (m29 C)) :=
  def_ok (g := gx K) (t.defs 29 D29 rfl) sc29 rfl rfl fun cdv A outer s H E hr tk po => have nd := sc29.nd;
    (js_seq (js_expr (jc (c10 t ih) rfl hr tk (ja_cons (jv 1) (ja_cons (jv 2) ja_nil)))) (js_seq (js_ret (je_bin (oj_add rfl) (je_bin oj_mul (jv 1) (jv 2)) (je_ix rfl (je_ix rfl (je_meth (je_make (mkB_ok (t.bl 18)) (ih 20 (by decide)) (rm hr) (by rfl) (by exact (t.glo 35)) (bd20 t) .nil (fun _ _ => RVs.nil) tk (ja_cons (jv 0) (ja_cons je_bl ja_nil))) (clsB_ok (t.bl 11)) (methB_ok (t.bl 14)) (ih 22 (by decide)) (rm hr) (bd22 t) .nil (fun _ _ => RVs.nil) tk (ja_cons (jv 1) (ja_cons (jv 2) ja_nil))) je_int) je_int))) js_nil))
theorem sc30 : FnScope ["saw", "width", "height", "worths", "rows", "down", "across"] ["saw", "width", "height"] (defScope s30) := ⟨rfl, rfl, rfl, by decide +kernel, rfl, by decide +kernel, by decide +kernel⟩
theorem d30 (t : Ft K mg base fd) (ih : Ih P w K mg base fd n C) : FnOk P w K mg base (CX P w) (2 * n + 3) (gx_f K 30) (fd 30) (psN 30) (spF (gx K) (m30 C)) :=
  def_ok (g := gx K) (t.defs 30 D30 rfl) sc30 rfl rfl fun cdv A outer s H E hr tk po => have nd := sc30.nd;
    (js_seq (js_expr (jc (c10 t ih) rfl hr tk (ja_cons (jv 1) (ja_cons (jv 2) ja_nil)))) (js_seq (js_set (i := 3) nd rfl (by first | exact Or.inl rfl | exact Or.inr rfl) (je_make (mkB_ok (t.bl 18)) (ih 20 (by decide)) (rm hr) (by rfl) (by exact (t.glo 35)) (bd20 t) .nil (fun _ _ => RVs.nil) tk (ja_cons (jv 0) (ja_cons je_bl ja_nil)))) (js_seq (js_set (i := 4) nd rfl (by first | exact Or.inl rfl | exact Or.inr rfl) (je_lstM ja_nil)) (js_seq (js_for po rfl (ji_range2 rfl (t.free 20) (ja_cons je_int (ja_cons (je_bin (oj_add rfl) (jv 2) je_int) ja_nil))) (jg_nm (i := 5) nd rfl (by first | exact Or.inl rfl | exact Or.inr rfl)) (js_seq (js_expr (je_append rfl (jv 4) (je_tuple rfl rfl (t.free 5) (je_lc (own := [("across", 6)]) rfl nd (ji_range2 rfl (t.free 20) (ja_cons je_int (ja_cons (je_bin (oj_add rfl) (jv 1) je_int) ja_nil))) (blk_by (by kernel_rfl)) (fun s H C cl fp => jc_nm (i := 6) nd rfl (by first | exact Or.inl rfl | exact Or.inr rfl) (by decide) (by first | exact .inl rfl | exact .inr rfl)) (fun s H C cl fp => jts_nil) (fun s H C cl fp => (je_bin oj_sub je_int (je_ix rfl (je_ix rfl (je_meth (jv 3) (clsB_ok (t.bl 11)) (methB_ok (t.bl 14)) (ih 22 (by decide)) (rm hr) (bd22 t) .nil (fun _ _ => RVs.nil) LamX.takes0 (ja_cons (jv 6) (ja_cons (jv 5) ja_nil))) je_int) je_int))))))) js_nil)) (js_seq (js_ret (je_tuple rfl rfl (t.free 5) (jv 4))) js_nil)))))
theorem sc31 : FnScope ["table", "width", "height"] ["table", "width", "height"] (defScope s31) := ⟨rfl, rfl, rfl, by decide +kernel, rfl, by decide +kernel, by decide +kernel⟩
theorem d31 (t : Ft K mg base fd) (ih : Ih P w K mg base fd n C) : FnOk P w K mg base (CX P w) (2 * n + 3) (gx_f K 31) (fd 31) (psN 31) (spF (gx K) (m31 C)) :=
  def_ok (g := gx K) (t.defs 31 D31 rfl) sc31 rfl rfl fun cdv A outer s H E hr tk po => have nd := sc31.nd;
    (js_seq (js_if (jt_w (jw_or (jt_cmp (oj_eq rfl (u64 hr)) (jv 1) je_int (by rfl)) (jw_or1 (jt_cmp (oj_eq rfl (u64 hr)) (jv 2) je_int (by rfl))))) (js_seq (js_ret je_int) js_nil) js_nil) (js_seq (js_ret (je_ix rfl (je_ix rfl (jv 0) (je_bin oj_sub (jv 2) je_int)) (je_bin oj_sub (jv 1) je_int))) js_nil))
theorem sc32 : FnScope ["width", "height", "thing", "row", "one"] ["width", "height", "thing"] (defScope s32) := ⟨rfl, rfl, rfl, by decide +kernel, rfl, by decide +kernel, by decide +kernel⟩
theorem d32 (t : Ft K mg base fd) (ih : Ih P w K mg base fd n C) : FnOk P w K mg base (CX P w) (2 * n + 3) (gx_f K 32) (fd 32) (psN 32) (spF (gx K) (m32 C)) :=
  def_ok (g := gx K) (t.defs 32 D32 rfl) sc32 rfl rfl fun cdv A outer s H E hr tk po => have nd := sc32.nd;
    (js_seq (js_if (jt_w (jw_or (jt_not (jt_truth rfl (jc (c3 t ih) rfl hr tk (ja_cons (jv 2) (ja_cons (jv 1) ja_nil))))) (jw_or1 (jt_not (jt_truth rfl (je_all rfl rfl rfl (t.free 37) (je_lc (own := [("row", 3)]) rfl nd (ji_tup rfl (jv 2)) (blk_by (by kernel_rfl)) (fun s H C cl fp => jc_nm (i := 3) nd rfl (by first | exact Or.inl rfl | exact Or.inr rfl) (by decide) (by first | exact .inl rfl | exact .inr rfl)) (fun s H C cl fp => jts_nil) (fun s H C cl fp => (jc (c3 t ih) rfl hr LamX.takes0 (ja_cons (jv 3) (ja_cons (jv 0) ja_nil))))))))))) (js_seq (js_ret je_bl) js_nil) js_nil) (js_seq (js_ret (je_all rfl rfl rfl (t.free 37) (je_lc (own := [("row", 3)]) rfl nd (ji_tup rfl (jv 2)) (blk_by (by kernel_rfl)) (fun s H C cl fp => jc_nm (i := 3) nd rfl (by first | exact Or.inl rfl | exact Or.inr rfl) (by decide) (by first | exact .inl rfl | exact .inr rfl)) (fun s H C cl fp => jts_nil) (fun s H C cl fp => (je_all rfl rfl rfl (t.free 37) (je_lc (own := [("one", 4)]) rfl nd (ji_tup rfl (jv 3)) (blk_by (by kernel_rfl)) (fun s H C cl fp => jc_nm (i := 4) nd rfl (by first | exact Or.inl rfl | exact Or.inr rfl) (by decide) (by first | exact .inl rfl | exact .inr rfl)) (fun s H C cl fp => jts_nil) (fun s H C cl fp => (je_and rfl (jc (c0 t ih) rfl hr LamX.takes0 (ja_cons (jv 4) ja_nil)) (je_one (je_cmp oj_ge (jv 4) je_int (by rfl))))))))))) js_nil))
theorem sc33 : FnScope ["saw", "table", "width", "height", "most", "_", "first", "second"] ["saw", "table", "width", "height"] (defScope s33) := ⟨rfl, rfl, rfl, by decide +kernel, rfl, by decide +kernel, by decide +kernel⟩
theorem d33 (t : Ft K mg base fd) (ih : Ih P w K mg base fd n C) : FnOk P w K mg base (CX P w) (2 * n + 3) (gx_f K 33) (fd 33) (psN 33) (spF (gx K) (m33 C)) :=
  def_ok (g := gx K) (t.defs 33 D33 rfl) sc33 rfl rfl fun cdv A outer s H E hr tk po => have nd := sc33.nd;
    (js_seq (js_set (i := 4) nd rfl (by first | exact Or.inl rfl | exact Or.inr rfl) (jc (c31 t ih) rfl hr tk (ja_cons (jv 1) (ja_cons (jv 2) (ja_cons (jv 3) ja_nil))))) (js_seq (js_for po rfl (ji_list rfl (je_meth (jv 0) (clsB_ok (t.bl 13)) (methB_ok (t.bl 12)) (ih 8 (by decide)) (rm hr) (bd8 t) .nil (fun _ _ => RVs.nil) tk (ja_cons (jv 2) ja_nil))) (jg_tup rfl rfl (jgs_cons (jg_nm (i := 5) nd rfl (by first | exact Or.inl rfl | exact Or.inr rfl)) (jgs_cons (jg_nm (i := 6) nd rfl (by first | exact Or.inl rfl | exact Or.inr rfl)) (jgs_cons (jg_nm (i := 7) nd rfl (by first | exact Or.inl rfl | exact Or.inr rfl)) jgs_nil)))) (js_seq (js_if (jt_cmp oj_gt (je_bin (oj_add rfl) (jc (c31 t ih) rfl hr tk (ja_cons (jv 1) (ja_cons (jv 6) (ja_cons (jv 3) ja_nil)))) (jc (c31 t ih) rfl hr tk (ja_cons (jv 1) (ja_cons (jv 7) (ja_cons (jv 3) ja_nil))))) (jv 4) (by rfl)) (js_seq (js_ret je_bl) js_nil) js_nil) js_nil)) (js_seq (js_for po rfl (ji_list rfl (je_meth (jv 0) (clsB_ok (t.bl 13)) (methB_ok (t.bl 12)) (ih 8 (by decide)) (rm hr) (bd8 t) .nil (fun _ _ => RVs.nil) tk (ja_cons (jv 3) ja_nil))) (jg_tup rfl rfl (jgs_cons (jg_nm (i := 5) nd rfl (by first | exact Or.inl rfl | exact Or.inr rfl)) (jgs_cons (jg_nm (i := 6) nd rfl (by first | exact Or.inl rfl | exact Or.inr rfl)) (jgs_cons (jg_nm (i := 7) nd rfl (by first | exact Or.inl rfl | exact Or.inr rfl)) jgs_nil)))) (js_seq (js_if (jt_cmp oj_gt (je_bin (oj_add rfl) (jc (c31 t ih) rfl hr tk (ja_cons (jv 1) (ja_cons (jv 2) (ja_cons (jv 6) ja_nil)))) (jc (c31 t ih) rfl hr tk (ja_cons (jv 1) (ja_cons (jv 2) (ja_cons (jv 7) ja_nil))))) (jv 4) (by rfl)) (js_seq (js_ret je_bl) js_nil) js_nil) js_nil)) (js_seq (js_ret je_bl) js_nil))))
theorem sc34 : FnScope ["saw", "width", "height", "thing", "wide", "high", "price", "down", "across"] ["saw", "width", "height", "thing"] (defScope s34) := ⟨rfl, rfl, rfl, by decide +kernel, rfl, by decide +kernel, by decide +kernel⟩
theorem d34 (t : Ft K mg base fd) (ih : Ih P w K mg base fd n C) : FnOk P w K mg base (CX P w) (2 * n + 3) (gx_f K 34) (fd 34) (psN 34) (spF (gx K) (m34 C)) :=
  def_ok (g := gx K) (t.defs 34 D34 rfl) sc34 rfl rfl fun cdv A outer s H E hr tk po => have nd := sc34.nd;
    (js_seq (js_if (jt_not (jt_truth rfl (jc (c32 t ih) rfl hr tk (ja_cons (jv 1) (ja_cons (jv 2) (ja_cons (jv 3) ja_nil)))))) (js_seq (js_ret je_bl) js_nil) js_nil) (js_seq (js_for po rfl (ji_tup rfl (je_fld rfl (clsNoB_ok (t.bl 2)) (jv 0))) (jg_tup rfl rfl (jgs_cons (jg_nm (i := 4) nd rfl (by first | exact Or.inl rfl | exact Or.inr rfl)) (jgs_cons (jg_nm (i := 5) nd rfl (by first | exact Or.inl rfl | exact Or.inr rfl)) (jgs_cons (jg_nm (i := 6) nd rfl (by first | exact Or.inl rfl | exact Or.inr rfl)) jgs_nil)))) (js_seq (js_if (jt_w (jw_and (jt_cmp oj_le (jv 4) (jv 1) (by rfl)) (jw_and (jt_cmp oj_le (jv 5) (jv 2) (by rfl)) (jw_and1 (jt_cmp (oj_lt rfl (u64 hr)) (jc (c31 t ih) rfl hr tk (ja_cons (jv 3) (ja_cons (jv 4) (ja_cons (jv 5) ja_nil)))) (jv 6) (by rfl)))))) (js_seq (js_ret je_bl) js_nil) js_nil) js_nil)) (js_seq (js_for po rfl (ji_range2 rfl (t.free 20) (ja_cons je_int (ja_cons (je_bin (oj_add rfl) (jv 2) je_int) ja_nil))) (jg_nm (i := 7) nd rfl (by first | exact Or.inl rfl | exact Or.inr rfl)) (js_seq (js_if (jt_not (jt_truth rfl (je_all rfl rfl rfl (t.free 37) (je_lc (own := [("across", 8)]) rfl nd (ji_range2 rfl (t.free 20) (ja_cons je_int (ja_cons (je_bin (oj_add rfl) (jv 1) je_int) ja_nil))) (blk_by (by kernel_rfl)) (fun s H C cl fp => jc_nm (i := 8) nd rfl (by first | exact Or.inl rfl | exact Or.inr rfl) (by decide) (by first | exact .inl rfl | exact .inr rfl)) (fun s H C cl fp => jts_nil) (fun s H C cl fp => (jc (c33 t ih) rfl hr LamX.takes0 (ja_cons (jv 0) (ja_cons (jv 3) (ja_cons (jv 8) (ja_cons (jv 7) ja_nil)))))))))) (js_seq (js_ret je_bl) js_nil) js_nil) js_nil)) (js_seq (js_ret je_bl) js_nil))))
theorem sc35 : FnScope ["saw", "width", "height", "thing"] ["saw", "width", "height", "thing"] (defScope s35) := ⟨rfl, rfl, rfl, by decide +kernel, rfl, by decide +kernel, by decide +kernel⟩
theorem d35 (t : Ft K mg base fd) (ih : Ih P w K mg base fd n C) : FnOk P w K mg base (CX P w) (2 * n + 3) (gx_f K 35) (fd 35) (psN 35) (spF (gx K) (m35 C)) :=
  def_ok (g := gx K) (t.defs 35 D35 rfl) sc35 rfl rfl fun cdv A outer s H E hr tk po => have nd := sc35.nd;
    (js_seq (js_expr (jc (c10 t ih) rfl hr tk (ja_cons (jv 1) (ja_cons (jv 2) ja_nil)))) (js_seq (js_ret (jc (c34 t ih) rfl hr tk (ja_cons (jv 0) (ja_cons (jv 1) (ja_cons (jv 2) (ja_cons (jv 3) ja_nil)))))) js_nil))
theorem sc36 : FnScope ["saw", "width", "height", "tree", "table"] ["saw", "width", "height", "tree", "table"] (defScope s36) := ⟨rfl, rfl, rfl, by decide +kernel, rfl, by decide +kernel, by decide +kernel⟩
theorem d36 (t : Ft K mg base fd) (ih : Ih P w K mg base fd n C) : FnOk P w K mg base (CX P w) (2 * n + 3) (gx_f K 36) (fd 36) (psN 36) (spF (gx K) (m36 C)) :=
  def_ok (g := gx K) (t.defs 36 D36 rfl) sc36 rfl rfl fun cdv A outer s H E hr tk po => have nd := sc36.nd;
    (js_seq (js_expr (jc (c10 t ih) rfl hr tk (ja_cons (jv 1) (ja_cons (jv 2) ja_nil)))) (js_seq (js_expr (jc (c16 t ih) rfl hr tk (ja_cons (jv 0) (ja_cons (jv 1) (ja_cons (jv 2) (ja_cons (jv 3) ja_nil)))))) (js_seq (js_if (jt_not (jt_truth rfl (jc (c34 t ih) rfl hr tk (ja_cons (jv 0) (ja_cons (jv 1) (ja_cons (jv 2) (ja_cons (jv 4) ja_nil))))))) (js_seq (js_raise (errB_ok (t.bl 19)).1 (derr t) (rm hr) (bderr t) rfl tk (by rfl) (by exact (t.glo 43)) (jv 4)) js_nil) js_nil) (js_seq (js_ret (je_cmp (oj_eq rfl (u64 hr)) (jc (c18 t ih) rfl hr tk (ja_cons (jv 0) (ja_cons (jv 3) ja_nil))) (jc (c31 t ih) rfl hr tk (ja_cons (jv 4) (ja_cons (jv 1) (ja_cons (jv 2) ja_nil)))) (by rfl))) js_nil))))
theorem sc37 : FnScope ["row", "many", "found", "cell"] ["row", "many"] (defScope s37) := ⟨rfl, rfl, rfl, by decide +kernel, rfl, by decide +kernel, by decide +kernel⟩
theorem d37 (t : Ft K mg base fd) (ih : Ih P w K mg base fd n C) : FnOk P w K mg base (CX P w) (2 * n + 3) (gx_f K 37) (fd 37) (psN 37) (spF (gx K) (m37 C)) :=
  def_ok (g := gx K) (t.defs 37 D37 rfl) sc37 rfl rfl fun cdv A outer s H E hr tk po => have nd := sc37.nd;
    (js_seq (js_if (jt_cmp oj_gt (je_ix rfl (jv 0) je_int) je_int (by rfl)) (js_seq (js_set (i := 2) nd rfl (by first | exact Or.inl rfl | exact Or.inr rfl) (je_bin oj_mod (je_int1 rfl (t.free 0) (je_ix rfl (jv 0) je_int)) (jv 1))) (js_seq (js_asg (je_bin oj_fdiv (je_ix rfl (jv 0) je_int) (jv 1)) (jg_sub (jv 0) je_int sj_list)) (js_seq (js_ret (jv 2)) js_nil))) js_nil) (js_seq (js_asg (je_bin (oj_add rfl) (je_ix rfl (jv 0) je_int) je_int) (jg_sub (jv 0) je_int sj_list)) (js_seq (js_if (jt_cmp oj_gt (je_ix rfl (jv 0) je_int) (je_len rfl rfl (t.free 6) (je_ix rfl (jv 0) je_int)) (by rfl)) (js_seq (js_asg (je_bin oj_mod (je_int1 rfl (t.free 0) (je_bin (oj_add rfl) (je_bin oj_mul (je_ix rfl (jv 0) je_int) je_int) je_int)) je_int) (jg_sub (jv 0) je_int sj_list)) (js_seq (js_ret (je_bin oj_mod (je_int1 rfl (t.free 0) (je_bin oj_fdiv (je_ix rfl (jv 0) je_int) je_int)) (jv 1))) js_nil)) js_nil) (js_seq (js_set (i := 3) nd rfl (by first | exact Or.inl rfl | exact Or.inr rfl) (je_ix rfl (je_ix rfl (jv 0) je_int) (je_bin oj_sub (je_ix rfl (jv 0) je_int) je_int))) (js_seq (js_asg (je_bin oj_mod (je_int1 rfl (t.free 0) (je_bin (oj_add rfl) (je_bin (oj_add rfl) (je_bin oj_mul (je_ix rfl (jv 0) je_int) je_int) (jv 3)) je_int)) je_int) (jg_sub (jv 0) je_int sj_list)) (js_seq (js_if (jt_cmp oj_ge (jv 3) (je_bin oj_pow je_int je_int) (by rfl)) (js_seq (js_asg (je_bin oj_fdiv (jv 3) (jv 1)) (jg_sub (jv 0) je_int sj_list)) js_nil) js_nil) (js_seq (js_ret (je_bin oj_mod (je_int1 rfl (t.free 0) (jv 3)) (jv 1))) js_nil)))))))
theorem sc38 : FnScope ["row", "some"] ["row", "some"] (defScope s38) := ⟨rfl, rfl, rfl, by decide +kernel, rfl, by decide +kernel, by decide +kernel⟩
theorem d38 (t : Ft K mg base fd) (ih : Ih P w K mg base fd n C) : FnOk P w K mg base (CX P w) (2 * n + 3) (gx_f K 38) (fd 38) (psN 38) (spF (gx K) (m38 C)) :=
  def_ok (g := gx K) (t.defs 38 D38 rfl) sc38 rfl rfl fun cdv A outer s H E hr tk po => have nd := sc38.nd;
    (js_seq (js_ret (je_ix rfl (jv 1) (jc (c37 t ih) rfl hr tk (ja_cons (jv 0) (ja_cons (je_len rfl rfl (t.free 6) (jv 1)) ja_nil))))) js_nil)
theorem sc39 : FnScope ["found", "due", "k", "key"] ["found", "due"] (defScope s39) := ⟨rfl, rfl, rfl, by decide +kernel, rfl, by decide +kernel, by decide +kernel⟩
theorem d39 (t : Ft K mg base fd) (ih : Ih P w K mg base fd n C) : FnOk P w K mg base (CX P w) (2 * n + 3) (gx_f K 39) (fd 39) (psN 39) (spF (gx K) (m39 C)) :=
  def_ok (g := gx K) (t.defs 39 D39 rfl) sc39 rfl rfl fun cdv A outer s H E hr tk po => have nd := sc39.nd;
    (js_seq (js_if (jt_truth rfl (je_isiT rfl (clsIsB_ok (t.bl 0)) rfl (t.free 1) (jv 1) (.cons (jty "tuple" (t.free 5) PyProof.Rows.boot_tuple) (.cons (jty "list" (t.free 4) PyProof.Rows.boot_list) .nil)) (by decide) (by decide))) (js_seq (js_if (jt_w (jw_or (jt_not (jt_truth rfl (je_isiT rfl (clsIsB_ok (t.bl 0)) rfl (t.free 1) (jv 0) (.cons (jty "tuple" (t.free 5) PyProof.Rows.boot_tuple) (.cons (jty "list" (t.free 4) PyProof.Rows.boot_list) .nil)) (by decide) (by decide)))) (jw_or1 (jt_cmp (oj_ne rfl (u64 hr)) (je_isi rfl (clsIsB_ok (t.bl 0)) rfl (t.free 1) (jv 0) (jty "list" (t.free 4) PyProof.Rows.boot_list) (by decide)) (je_isi rfl (clsIsB_ok (t.bl 0)) rfl (t.free 1) (jv 1) (jty "list" (t.free 4) PyProof.Rows.boot_list) (by decide)) (by rfl))))) (js_seq (js_ret je_bl) js_nil) js_nil) (js_seq (js_if (jt_cmp (oj_ne rfl (u64 hr)) (je_len rfl rfl (t.free 6) (jv 0)) (je_len rfl rfl (t.free 6) (jv 1)) (by rfl)) (js_seq (js_ret je_bl) js_nil) js_nil) (js_seq (js_ret (je_cmp (oj_eq rfl (u64 hr)) (je_lc (own := [("k", 2)]) rfl nd (ji_range1 rfl (t.free 20) (ja_cons (je_len rfl rfl (t.free 6) (jv 1)) ja_nil)) (blk_by (by kernel_rfl)) (fun s H C cl fp => jc_nm (i := 2) nd rfl (by first | exact Or.inl rfl | exact Or.inr rfl) (by decide) (by first | exact .inl rfl | exact .inr rfl)) (fun s H C cl fp => jts_one (jt_not (jt_truth rfl (jc (c39 t ih) rfl hr LamX.takes0 (ja_cons (je_ix rfl (jv 0) (jv 2)) (ja_cons (je_ix rfl (jv 1) (jv 2)) ja_nil)))))) (fun s H C cl fp => (jv 2))) (je_lst ja_nil) (by rfl))) js_nil))) js_nil) (js_seq (js_if (jt_truth rfl (je_isi rfl (clsIsB_ok (t.bl 0)) rfl (t.free 1) (jv 1) (jty "dict" (t.free 46) PyProof.Rows.boot_dict) (by decide))) (js_seq (js_if (jt_w (jw_or (jt_not (jt_truth rfl (je_isi rfl (clsIsB_ok (t.bl 0)) rfl (t.free 1) (jv 0) (jty "dict" (t.free 46) PyProof.Rows.boot_dict) (by decide)))) (jw_or1 (jt_cmp (oj_ne rfl (u64 hr)) (je_list rfl rfl (t.free 4) (jv 0)) (je_list rfl rfl (t.free 4) (jv 1)) (by rfl))))) (js_seq (js_ret je_bl) js_nil) js_nil) (js_seq (js_ret (je_cmp (oj_eq rfl (u64 hr)) (je_lc (own := [("key", 3)]) rfl nd (ji_tup rfl (jv 1)) (blk_by (by kernel_rfl)) (fun s H C cl fp => jc_nm (i := 3) nd rfl (by first | exact Or.inl rfl | exact Or.inr rfl) (by decide) (by first | exact .inl rfl | exact .inr rfl)) (fun s H C cl fp => jts_one (jt_not (jt_truth rfl (jc (c39 t ih) rfl hr LamX.takes0 (ja_cons (je_ix rfl (jv 0) (jv 3)) (ja_cons (je_ix rfl (jv 1) (jv 3)) ja_nil)))))) (fun s H C cl fp => (jv 3))) (je_lst ja_nil) (by rfl))) js_nil)) js_nil) (js_seq (js_if (jt_w (jw_or (jt_cmp oj_is (jv 1) je_non (by rfl)) (jw_or1 (jt_truth rfl (je_isi rfl (clsIsB_ok (t.bl 0)) rfl (t.free 1) (jv 1) (jty "str" (t.free 28) PyProof.Rows.boot_str) (by decide)))))) (js_seq (js_ret (je_and rfl (je_cmp (oj_eq rfl (u64 hr)) (jv 0) (jv 1) (by rfl)) (je_one (je_cmp (oj_eq rfl (u64 hr)) (je_isi rfl (clsIsB_ok (t.bl 0)) rfl (t.free 1) (jv 0) (jty "str" (t.free 28) PyProof.Rows.boot_str) (by decide)) (je_isi rfl (clsIsB_ok (t.bl 0)) rfl (t.free 1) (jv 1) (jty "str" (t.free 28) PyProof.Rows.boot_str) (by decide)) (by rfl))))) js_nil) js_nil) (js_seq (js_ret (je_and rfl (je_isi rfl (clsIsB_ok (t.bl 0)) rfl (t.free 1) (jv 0) (jty "int" (t.free 0) PyProof.Rows.boot_int) (by decide)) (je_and rfl (je_cmp (oj_eq rfl (u64 hr)) (je_isi rfl (clsIsB_ok (t.bl 0)) rfl (t.free 1) (jv 0) (jty "bool" (t.free 2) PyProof.Rows.boot_bool) (by decide)) (je_isi rfl (clsIsB_ok (t.bl 0)) rfl (t.free 1) (jv 1) (jty "bool" (t.free 2) PyProof.Rows.boot_bool) (by decide)) (by rfl)) (je_one (je_cmp (oj_eq rfl (u64 hr)) (jv 0) (jv 1) (by rfl)))))) js_nil))))
theorem sc40 : FnScope ["row", "orders", "k", "width", "height"] ["row"] (defScope s40) := ⟨rfl, rfl, rfl, by decide +kernel, rfl, by decide +kernel, by decide +kernel⟩
theorem d40 (t : Ft K mg base fd) (ih : Ih P w K mg base fd n C) : FnOk P w K mg base (CX P w) (2 * n + 3) (gx_f K 40) (fd 40) (psN 40) (spF (gx K) (m40 C)) :=
  def_ok (g := gx K) (t.defs 40 D40 rfl) sc40 rfl rfl fun cdv A outer s H E hr tk po => have nd := sc40.nd;
    (js_seq (js_set (i := 1) nd rfl (by first | exact Or.inl rfl | exact Or.inr rfl) (je_lstM ja_nil)) (js_seq (js_for po rfl (ji_range1 rfl (t.free 20) (ja_cons (je_bin (oj_add rfl) je_int (jc (c37 t ih) rfl hr tk (ja_cons (jv 0) (ja_cons (jc (c38 t ih) rfl hr tk (ja_cons (jv 0) (ja_cons (je_lst (ja_cons je_int (ja_cons je_int ja_nil))) ja_nil))) ja_nil)))) ja_nil)) (jg_nm (i := 2) nd rfl (by first | exact Or.inl rfl | exact Or.inr rfl)) (js_seq (js_par (i := 3) (j := 4) rfl nd rfl rfl (by decide) rfl rfl (ja_cons (je_bin (oj_add rfl) je_int (jc (c37 t ih) rfl hr tk (ja_cons (jv 0) (ja_cons (jc (c38 t ih) rfl hr tk (ja_cons (jv 0) (ja_cons (je_lst (ja_cons je_int (ja_cons je_int (ja_cons je_int ja_nil)))) ja_nil))) ja_nil)))) (ja_cons (je_bin (oj_add rfl) je_int (jc (c37 t ih) rfl hr tk (ja_cons (jv 0) (ja_cons (jc (c38 t ih) rfl hr tk (ja_cons (jv 0) (ja_cons (je_lst (ja_cons je_int (ja_cons je_int (ja_cons je_int ja_nil)))) ja_nil))) ja_nil)))) ja_nil))) (js_seq (js_expr (je_append rfl (jv 1) (je_tup (ja_cons (jv 3) (ja_cons (jv 4) (ja_cons (jc (c38 t ih) rfl hr tk (ja_cons (jv 0) (ja_cons (je_lst (ja_cons je_int (ja_cons (je_bin oj_mul (jv 3) (jv 4)) (ja_cons (je_bin (oj_add rfl) je_int (jc (c37 t ih) rfl hr tk (ja_cons (jv 0) (ja_cons je_int ja_nil)))) (ja_cons (je_bin (oj_add rfl) je_int (jc (c37 t ih) rfl hr tk (ja_cons (jv 0) (ja_cons je_int ja_nil)))) ja_nil))))) ja_nil))) ja_nil)))))) js_nil))) (js_seq (js_ret (je_tup (ja_cons (jc (c37 t ih) rfl hr tk (ja_cons (jv 0) (ja_cons je_int ja_nil))) (ja_cons (je_tuple rfl rfl (t.free 5) (jv 1)) ja_nil)))) js_nil)))
theorem sc41 : FnScope ["told", "size", "at"] ["told", "size", "at"] (defScope s41) := ⟨rfl, rfl, rfl, by decide +kernel, rfl, by decide +kernel, by decide +kernel⟩
theorem d41 (t : Ft K mg base fd) (ih : Ih P w K mg base fd n C) : FnOk P w K mg base (CX P w) (2 * n + 3) (gx_f K 41) (fd 41) (psN 41) (spF (gx K) (m41 C)) :=
  def_ok (g := gx K) (t.defs 41 D41 rfl) sc41 rfl rfl fun cdv A outer s H E hr tk po => have nd := sc41.nd;
    (js_seq (js_ret (je_max2 rfl rfl (t.free 21) (ja_cons je_int (ja_cons (je_bin oj_sub (je_bin oj_sub (jv 1) (jv 2)) (je_ix rfl (jv 0) je_int)) ja_nil)))) js_nil)
theorem sc42 : FnScope ["told", "tree", "left", "top", "width", "height", "good", "size", "at", "rest", "behind", "first", "second"] ["told", "tree", "left", "top", "width", "height"] (defScope s42) := ⟨rfl, rfl, rfl, by decide +kernel, rfl, by decide +kernel, by decide +kernel⟩
theorem d42 (t : Ft K mg base fd) (ih : Ih P w K mg base fd n C) : FnOk P w K mg base (CX P w) (2 * n + 3) (gx_f K 42) (fd 42) (psN 42) (spF (gx K) (m42 C)) :=
  def_ok (g := gx K) (t.defs 42 D42 rfl) sc42 rfl rfl fun cdv A outer s H E hr tk po => have nd := sc42.nd;
    (js_seq (js_if (jt_w (jw_or (jt_not (jt_truth rfl (je_isi rfl (clsIsB_ok (t.bl 0)) rfl (t.free 1) (jv 1) (jty "tuple" (t.free 5) PyProof.Rows.boot_tuple) (by decide)))) (jw_or (jt_cmp (oj_eq rfl (u64 hr)) (jv 1) (je_tup ja_nil) (by rfl)) (jw_or (jt_cmp (oj_lt rfl (u64 hr)) (jv 4) je_int (by rfl)) (jw_or1 (jt_cmp (oj_lt rfl (u64 hr)) (jv 5) je_int (by rfl))))))) (js_seq (js_ret (je_if (jt_w (jw_and (jt_cmp oj_is (jv 1) je_non (by rfl)) (jw_and1 (jt_w (jw_or (jt_cmp (oj_lt rfl (u64 hr)) (jv 4) je_int (by rfl)) (jw_or1 (jt_cmp (oj_lt rfl (u64 hr)) (jv 5) je_int (by rfl)))))))) (je_lst ja_nil) je_non)) js_nil) js_nil) (js_seq (js_if (jt_cmp (oj_eq rfl (u64 hr)) (je_ix rfl (jv 1) je_int) je_str (by rfl)) (js_seq (js_ret (je_if (jt_cmp (oj_eq rfl (u64 hr)) (je_len rfl rfl (t.free 6) (jv 1)) je_int (by rfl)) (je_lst ja_nil) je_non)) js_nil) js_nil) (js_seq (js_if (jt_cmp (oj_eq rfl (u64 hr)) (je_ix rfl (jv 1) je_int) je_str (by rfl)) (js_seq (js_set (i := 6) nd rfl (by first | exact Or.inl rfl | exact Or.inr rfl) (je_and rfl (je_cmp (oj_eq rfl (u64 hr)) (je_len rfl rfl (t.free 6) (jv 1)) je_int (by rfl)) (je_and rfl (je_isi rfl (clsIsB_ok (t.bl 0)) rfl (t.free 1) (je_ix rfl (jv 1) je_int) (jty "int" (t.free 0) PyProof.Rows.boot_int) (by decide)) (je_and rfl (je_not rfl (je_isi rfl (clsIsB_ok (t.bl 0)) rfl (t.free 1) (je_ix rfl (jv 1) je_int) (jty "bool" (t.free 2) PyProof.Rows.boot_bool) (by decide))) (je_one (je_chain oj_le (oj_lt rfl (u64 hr)) je_int (je_ix rfl (jv 1) je_int) (je_len rfl rfl (t.free 6) (je_ix rfl (jv 0) je_int)))))))) (js_seq (js_ret (je_if (jt_w (jw_and (jt_truth rfl (jv 6)) (jw_and1 (jt_cmp (oj_eq rfl (u64 hr)) (je_sl rfl (je_ix rfl (je_ix rfl (jv 0) je_int) (je_ix rfl (jv 1) je_int)) jo_no (jo_some je_int)) (je_tup (ja_cons (jv 4) (ja_cons (jv 5) ja_nil))) (by rfl))))) (je_lst (ja_cons (je_tup (ja_cons (jv 2) (ja_cons (jv 3) (ja_cons (je_ix rfl (jv 1) je_int) ja_nil)))) ja_nil)) je_non)) js_nil)) js_nil) (js_seq (js_set (i := 7) nd rfl (by first | exact Or.inl rfl | exact Or.inr rfl) (je_if (jt_cmp (oj_eq rfl (u64 hr)) (je_ix rfl (jv 1) je_int) je_str (by rfl)) (jv 4) (jv 5))) (js_seq (js_if (jt_w (jw_or (jt_w (jw_and (jt_cmp (oj_ne rfl (u64 hr)) (je_ix rfl (jv 1) je_int) je_str (by rfl)) (jw_and1 (jt_cmp (oj_ne rfl (u64 hr)) (je_ix rfl (jv 1) je_int) je_str (by rfl))))) (jw_or (jt_cmp (oj_ne rfl (u64 hr)) (je_len rfl rfl (t.free 6) (jv 1)) je_int (by rfl)) (jw_or (jt_not (jt_truth rfl (je_isi rfl (clsIsB_ok (t.bl 0)) rfl (t.free 1) (je_ix rfl (jv 1) je_int) (jty "int" (t.free 0) PyProof.Rows.boot_int) (by decide)))) (jw_or (jt_truth rfl (je_isi rfl (clsIsB_ok (t.bl 0)) rfl (t.free 1) (je_ix rfl (jv 1) je_int) (jty "bool" (t.free 2) PyProof.Rows.boot_bool) (by decide))) (jw_or1 (jt_not (jt_chain oj_le (oj_lt rfl (u64 hr)) je_int (je_ix rfl (jv 1) je_int) (jv 7))))))))) (js_seq (js_ret je_non) js_nil) js_nil) (js_seq (js_par3 (i := 8) (j := 9) (l := 10) rfl nd rfl rfl rfl (by decide) (by decide) (by decide) rfl rfl rfl (ja_cons (je_ix rfl (jv 1) je_int) (ja_cons (jc (c41 t ih) rfl hr tk (ja_cons (jv 0) (ja_cons (jv 7) (ja_cons (je_ix rfl (jv 1) je_int) ja_nil)))) (ja_cons (je_bin (oj_add rfl) (je_ix rfl (jv 1) je_int) (je_ix rfl (jv 0) je_int)) ja_nil)))) (js_seq (js_if (jt_cmp (oj_eq rfl (u64 hr)) (je_ix rfl (jv 1) je_int) je_str (by rfl)) (js_seq (js_par (i := 11) (j := 12) rfl nd rfl rfl (by decide) rfl rfl (ja_cons (jc (c42 t ih) rfl hr tk (ja_cons (jv 0) (ja_cons (je_ix rfl (jv 1) je_int) (ja_cons (jv 2) (ja_cons (jv 3) (ja_cons (jv 8) (ja_cons (jv 5) ja_nil))))))) (ja_cons (jc (c42 t ih) rfl hr tk (ja_cons (jv 0) (ja_cons (je_ix rfl (jv 1) je_int) (ja_cons (je_bin (oj_add rfl) (jv 2) (jv 10)) (ja_cons (jv 3) (ja_cons (jv 9) (ja_cons (jv 5) ja_nil))))))) ja_nil))) js_nil) (js_seq (js_par (i := 11) (j := 12) rfl nd rfl rfl (by decide) rfl rfl (ja_cons (jc (c42 t ih) rfl hr tk (ja_cons (jv 0) (ja_cons (je_ix rfl (jv 1) je_int) (ja_cons (jv 2) (ja_cons (jv 3) (ja_cons (jv 4) (ja_cons (jv 8) ja_nil))))))) (ja_cons (jc (c42 t ih) rfl hr tk (ja_cons (jv 0) (ja_cons (je_ix rfl (jv 1) je_int) (ja_cons (jv 2) (ja_cons (je_bin (oj_add rfl) (jv 3) (jv 10)) (ja_cons (jv 4) (ja_cons (jv 9) ja_nil))))))) ja_nil))) js_nil)) (js_seq (js_ret (je_if (jt_w (jw_or (jt_cmp oj_is (jv 11) je_non (by rfl)) (jw_or1 (jt_cmp oj_is (jv 12) je_non (by rfl))))) je_non (je_bin (oj_add rfl) (jv 11) (jv 12)))) js_nil))))))))
theorem sc43 : FnScope ["told", "slabs", "one"] ["told", "slabs"] (defScope s43) := ⟨rfl, rfl, rfl, by decide +kernel, rfl, by decide +kernel, by decide +kernel⟩
theorem d43 (t : Ft K mg base fd) (ih : Ih P w K mg base fd n C) : FnOk P w K mg base (CX P w) (2 * n + 3) (gx_f K 43) (fd 43) (psN 43) (spF (gx K) (m43 C)) :=
  def_ok (g := gx K) (t.defs 43 D43 rfl) sc43 rfl rfl fun cdv A outer s H E hr tk po => have nd := sc43.nd;
    (js_seq (js_ret (je_sum rfl rfl rfl (t.free 32) (je_lc (own := [("one", 2)]) rfl nd (ji_list rfl (jv 1)) (blk_by (by kernel_rfl)) (fun s H C cl fp => jc_nm (i := 2) nd rfl (by first | exact Or.inl rfl | exact Or.inr rfl) (by decide) (by first | exact .inl rfl | exact .inr rfl)) (fun s H C cl fp => jts_nil) (fun s H C cl fp => (je_ix rfl (je_ix rfl (je_ix rfl (jv 0) je_int) (je_ix rfl (jv 2) je_int)) je_int))))) js_nil)
theorem sc44 : FnScope ["tree"] ["tree"] (defScope s44) := ⟨rfl, rfl, rfl, by decide +kernel, rfl, by decide +kernel, by decide +kernel⟩
theorem d44 (t : Ft K mg base fd) (ih : Ih P w K mg base fd n C) : FnOk P w K mg base (CX P w) (2 * n + 3) (gx_f K 44) (fd 44) (psN 44) (spF (gx K) (m44 C)) :=
  def_ok (g := gx K) (t.defs 44 D44 rfl) sc44 rfl rfl fun cdv A outer s H E hr tk po => have nd := sc44.nd;
    (js_seq (js_ret (je_if (jt_w (jw_or (jt_cmp oj_is (jv 0) je_non (by rfl)) (jw_or (jt_cmp (oj_eq rfl (u64 hr)) (je_ix rfl (jv 0) je_int) je_str (by rfl)) (jw_or1 (jt_cmp (oj_eq rfl (u64 hr)) (je_ix rfl (jv 0) je_int) je_str (by rfl)))))) je_int (je_bin (oj_add rfl) (je_bin (oj_add rfl) je_int (jc (c44 t ih) rfl hr tk (ja_cons (je_ix rfl (jv 0) je_int) ja_nil))) (jc (c44 t ih) rfl hr tk (ja_cons (je_ix rfl (jv 0) je_int) ja_nil))))) js_nil)
theorem sc45 : FnScope ["row", "told", "width", "height", "deep", "fits", "at"] ["row", "told", "width", "height", "deep"] (defScope s45) := ⟨rfl, rfl, rfl, by decide +kernel, rfl, by decide +kernel, by decide +kernel⟩
theorem d45 (t : Ft K mg base fd) (ih : Ih P w K mg base fd n C) : FnOk P w K mg base (CX P w) (2 * n + 3) (gx_f K 45) (fd 45) (psN 45) (spF (gx K) (m45 C)) :=
  def_ok (g := gx K) (t.defs 45 D45 rfl) sc45 rfl rfl fun cdv A outer s H E hr tk po => have nd := sc45.nd;
    (js_seq (js_if (jt_w (jw_or (jt_cmp (oj_lt rfl (u64 hr)) (jv 2) je_int (by rfl)) (jw_or1 (jt_cmp (oj_lt rfl (u64 hr)) (jv 3) je_int (by rfl))))) (js_seq (js_ret je_non) js_nil) js_nil) (js_seq (js_setLc (i := 5) (own := [("at", 6)]) rfl nd rfl rfl (by rfl) (ji_range1 rfl (t.free 20) (ja_cons (je_len rfl rfl (t.free 6) (je_ix rfl (jv 1) je_int)) ja_nil)) (blk_by (by kernel_rfl)) (fun s H C cl fp => jc_nm (i := 6) nd rfl (by first | exact Or.inl rfl | exact Or.inr rfl) (by decide) (by first | exact .inl rfl | exact .inr rfl)) (fun s H C cl fp => jts_one (jt_cmp (oj_eq rfl (u64 hr)) (je_sl rfl (je_ix rfl (je_ix rfl (jv 1) je_int) (jv 6)) jo_no (jo_some je_int)) (je_tup (ja_cons (jv 2) (ja_cons (jv 3) ja_nil))) (by rfl))) (fun s H C cl fp => (je_tup (ja_cons je_str (ja_cons (jv 6) ja_nil))))) (js_seq (js_if (jt_w (jw_and (jt_cmp (oj_ne rfl (u64 hr)) (jv 5) (je_lst ja_nil) (by rfl)) (jw_and1 (jt_cmp oj_gt (jc (c37 t ih) rfl hr tk (ja_cons (jv 0) (ja_cons je_int ja_nil))) je_int (by rfl))))) (js_seq (js_ret (jc (c38 t ih) rfl hr tk (ja_cons (jv 0) (ja_cons (jv 5) ja_nil)))) js_nil) js_nil) (js_seq (js_if (jt_w (jw_or (jt_cmp (oj_eq rfl (u64 hr)) (jv 4) je_int (by rfl)) (jw_or (jt_w (jw_and (jt_cmp (oj_eq rfl (u64 hr)) (jv 2) je_int (by rfl)) (jw_and1 (jt_cmp (oj_eq rfl (u64 hr)) (jv 3) je_int (by rfl))))) (jw_or1 (jt_cmp (oj_eq rfl (u64 hr)) (jc (c37 t ih) rfl hr tk (ja_cons (jv 0) (ja_cons je_int ja_nil))) je_int (by rfl)))))) (js_seq (js_ret (je_tup (ja_cons je_str ja_nil))) js_nil) js_nil) (js_seq (js_if (jt_w (jw_or (jt_cmp (oj_eq rfl (u64 hr)) (jv 3) je_int (by rfl)) (jw_or1 (jt_w (jw_and (jt_cmp oj_gt (jv 2) je_int (by rfl)) (jw_and1 (jt_cmp (oj_eq rfl (u64 hr)) (jc (c37 t ih) rfl hr tk (ja_cons (jv 0) (ja_cons je_int ja_nil))) je_int (by rfl)))))))) (js_seq (js_set (i := 6) nd rfl (by first | exact Or.inl rfl | exact Or.inr rfl) (je_bin (oj_add rfl) je_int (jc (c37 t ih) rfl hr tk (ja_cons (jv 0) (ja_cons (je_bin oj_sub (jv 2) je_int) ja_nil))))) (js_seq (js_ret (je_tup (ja_cons je_str (ja_cons (jv 6) (ja_cons (jc (c45 t ih) rfl hr tk (ja_cons (jv 0) (ja_cons (jv 1) (ja_cons (jv 6) (ja_cons (jv 3) (ja_cons (je_bin oj_sub (jv 4) je_int) ja_nil)))))) (ja_cons (jc (c45 t ih) rfl hr tk (ja_cons (jv 0) (ja_cons (jv 1) (ja_cons (jc (c41 t ih) rfl hr tk (ja_cons (jv 1) (ja_cons (jv 2) (ja_cons (jv 6) ja_nil)))) (ja_cons (jv 3) (ja_cons (je_bin oj_sub (jv 4) je_int) ja_nil)))))) ja_nil)))))) js_nil)) js_nil) (js_seq (js_set (i := 6) nd rfl (by first | exact Or.inl rfl | exact Or.inr rfl) (je_bin (oj_add rfl) je_int (jc (c37 t ih) rfl hr tk (ja_cons (jv 0) (ja_cons (je_bin oj_sub (jv 3) je_int) ja_nil))))) (js_seq (js_ret (je_tup (ja_cons je_str (ja_cons (jv 6) (ja_cons (jc (c45 t ih) rfl hr tk (ja_cons (jv 0) (ja_cons (jv 1) (ja_cons (jv 2) (ja_cons (jv 6) (ja_cons (je_bin oj_sub (jv 4) je_int) ja_nil)))))) (ja_cons (jc (c45 t ih) rfl hr tk (ja_cons (jv 0) (ja_cons (jv 1) (ja_cons (jv 2) (ja_cons (jc (c41 t ih) rfl hr tk (ja_cons (jv 1) (ja_cons (jv 3) (ja_cons (jv 6) ja_nil)))) (ja_cons (je_bin oj_sub (jv 4) je_int) ja_nil)))))) ja_nil)))))) js_nil)))))))
theorem sc46 : FnScope ["told", "known", "width", "height", "some", "wide", "high", "price", "at", "one"] ["told", "known", "width", "height"] (defScope s46) := ⟨rfl, rfl, rfl, by decide +kernel, rfl, by decide +kernel, by decide +kernel⟩
theorem d46 (t : Ft K mg base fd) (ih : Ih P w K mg base fd n C) : FnOk P w K mg base (CX P w) (2 * n + 3) (gx_f K 46) (fd 46) (psN 46) (spF (gx K) (m46 C)) :=
  def_ok (g := gx K) (t.defs 46 D46 rfl) sc46 rfl rfl fun cdv A outer s H E hr tk po => have nd := sc46.nd;
    (js_seq (js_if (jt_w (jw_or (jt_cmp (oj_lt rfl (u64 hr)) (jv 2) je_int (by rfl)) (jw_or1 (jt_cmp (oj_lt rfl (u64 hr)) (jv 3) je_int (by rfl))))) (js_seq (js_ret (je_tup (ja_cons (je_tup (ja_cons je_int (ja_cons je_int ja_nil))) (ja_cons (je_tup (ja_cons je_int (ja_cons je_int ja_nil))) ja_nil)))) js_nil) js_nil) (js_seq (js_if (jt_pc (pc_notinT (u65 hr) (ja_cons (jv 2) (ja_cons (jv 3) ja_nil)) (jv 1)) (by rfl)) (js_seq (js_set (i := 4) nd rfl (by first | exact Or.inl rfl | exact Or.inr rfl) (je_lstM (ja_cons (je_tup (ja_cons (je_tup (ja_cons je_int (ja_cons je_int ja_nil))) (ja_cons (je_tup (ja_cons je_int (ja_cons je_int ja_nil))) ja_nil))) ja_nil))) (js_seq (js_for po rfl (ji_tup rfl (je_ix rfl (jv 0) je_int)) (jg_tup rfl rfl (jgs_cons (jg_nm (i := 5) nd rfl (by first | exact Or.inl rfl | exact Or.inr rfl)) (jgs_cons (jg_nm (i := 6) nd rfl (by first | exact Or.inl rfl | exact Or.inr rfl)) (jgs_cons (jg_nm (i := 7) nd rfl (by first | exact Or.inl rfl | exact Or.inr rfl)) jgs_nil)))) (js_seq (js_if (jt_cmp (oj_eq rfl (u64 hr)) (je_tup (ja_cons (jv 5) (ja_cons (jv 6) ja_nil))) (je_tup (ja_cons (jv 2) (ja_cons (jv 3) ja_nil))) (by rfl)) (js_seq (js_expr (je_append rfl (jv 4) (je_tup (ja_cons (je_tup (ja_cons (je_bin oj_sub je_int (jv 7)) (ja_cons je_int ja_nil))) (ja_cons (je_tup (ja_cons (je_bin oj_sub je_int (jv 7)) (ja_cons (je_bin oj_sub je_int (je_bin oj_mul (jv 5) (jv 6))) ja_nil))) ja_nil))))) js_nil) js_nil) js_nil)) (js_seq (js_for po rfl (ji_range2 rfl (t.free 20) (ja_cons je_int (ja_cons (jv 2) ja_nil))) (jg_nm (i := 8) nd rfl (by first | exact Or.inl rfl | exact Or.inr rfl)) (js_seq (js_expr (je_append rfl (jv 4) (jc (c47 t ih) rfl hr tk (ja_cons (jc (c46 t ih) rfl hr tk (ja_cons (jv 0) (ja_cons (jv 1) (ja_cons (jv 8) (ja_cons (jv 3) ja_nil))))) (ja_cons (jc (c46 t ih) rfl hr tk (ja_cons (jv 0) (ja_cons (jv 1) (ja_cons (jc (c41 t ih) rfl hr tk (ja_cons (jv 0) (ja_cons (jv 2) (ja_cons (jv 8) ja_nil)))) (ja_cons (jv 3) ja_nil))))) ja_nil))))) js_nil)) (js_seq (js_for po rfl (ji_range2 rfl (t.free 20) (ja_cons je_int (ja_cons (jv 3) ja_nil))) (jg_nm (i := 8) nd rfl (by first | exact Or.inl rfl | exact Or.inr rfl)) (js_seq (js_expr (je_append rfl (jv 4) (jc (c47 t ih) rfl hr tk (ja_cons (jc (c46 t ih) rfl hr tk (ja_cons (jv 0) (ja_cons (jv 1) (ja_cons (jv 2) (ja_cons (jv 8) ja_nil))))) (ja_cons (jc (c46 t ih) rfl hr tk (ja_cons (jv 0) (ja_cons (jv 1) (ja_cons (jv 2) (ja_cons (jc (c41 t ih) rfl hr tk (ja_cons (jv 0) (ja_cons (jv 3) (ja_cons (jv 8) ja_nil)))) ja_nil))))) ja_nil))))) js_nil)) (js_seq (js_setT (u65 hr) (jv 1) (ja_cons (jv 2) (ja_cons (jv 3) ja_nil)) (je_tup (ja_cons (je_minL rfl rfl (u64 hr) rfl (t.free 53) (je_lc (own := [("one", 9)]) rfl nd (ji_listS rfl (jv 4)) (blk_by (by kernel_rfl)) (fun s H C cl fp => jc_nm (i := 9) nd rfl (by first | exact Or.inl rfl | exact Or.inr rfl) (by decide) (by first | exact .inl rfl | exact .inr rfl)) (fun s H C cl fp => jts_nil) (fun s H C cl fp => (je_ix rfl (jv 9) je_int)))) (ja_cons (je_minL rfl rfl (u64 hr) rfl (t.free 53) (je_lc (own := [("one", 9)]) rfl nd (ji_listS rfl (jv 4)) (blk_by (by kernel_rfl)) (fun s H C cl fp => jc_nm (i := 9) nd rfl (by first | exact Or.inl rfl | exact Or.inr rfl) (by decide) (by first | exact .inl rfl | exact .inr rfl)) (fun s H C cl fp => jts_nil) (fun s H C cl fp => (je_ix rfl (jv 9) je_int)))) ja_nil)))) js_nil))))) js_nil) (js_seq (js_ret (je_ixT (u65 hr) (jv 1) (ja_cons (jv 2) (ja_cons (jv 3) ja_nil)))) js_nil)))
theorem sc47 : FnScope ["first", "second"] ["first", "second"] (defScope s47) := ⟨rfl, rfl, rfl, by decide +kernel, rfl, by decide +kernel, by decide +kernel⟩
theorem d47 (t : Ft K mg base fd) (ih : Ih P w K mg base fd n C) : FnOk P w K mg base (CX P w) (2 * n + 3) (gx_f K 47) (fd 47) (psN 47) (spF (gx K) (m47 C)) :=
  def_ok (g := gx K) (t.defs 47 D47 rfl) sc47 rfl rfl fun cdv A outer s H E hr tk po => have nd := sc47.nd;
    (js_seq (js_ret (je_tup (ja_cons (je_tup (ja_cons (je_bin (oj_add rfl) (je_ix rfl (je_ix rfl (jv 0) je_int) je_int) (je_ix rfl (je_ix rfl (jv 1) je_int) je_int)) (ja_cons (je_bin (oj_add rfl) (je_bin (oj_add rfl) (je_ix rfl (je_ix rfl (jv 0) je_int) je_int) (je_ix rfl (je_ix rfl (jv 1) je_int) je_int)) je_int) ja_nil))) (ja_cons (je_tup (ja_cons (je_bin (oj_add rfl) (je_ix rfl (je_ix rfl (jv 0) je_int) je_int) (je_ix rfl (je_ix rfl (jv 1) je_int) je_int)) (ja_cons (je_bin (oj_add rfl) (je_ix rfl (je_ix rfl (jv 0) je_int) je_int) (je_ix rfl (je_ix rfl (jv 1) je_int) je_int)) ja_nil))) ja_nil)))) js_nil)
theorem sc48 : FnScope ["table", "width", "height"] ["table", "width", "height"] (defScope s48) := ⟨rfl, rfl, rfl, by decide +kernel, rfl, by decide +kernel, by decide +kernel⟩
theorem d48 (t : Ft K mg base fd) (ih : Ih P w K mg base fd n C) : FnOk P w K mg base (CX P w) (2 * n + 3) (gx_f K 48) (fd 48) (psN 48) (spF (gx K) (m48 C)) :=
  def_ok (g := gx K) (t.defs 48 D48 rfl) sc48 rfl rfl fun cdv A outer s H E hr tk po => have nd := sc48.nd;
    (js_seq (js_ret (je_if (jt_w (jw_or (jt_cmp (oj_lt rfl (u64 hr)) (jv 1) je_int (by rfl)) (jw_or1 (jt_cmp (oj_lt rfl (u64 hr)) (jv 2) je_int (by rfl))))) je_int (je_ix rfl (je_ix rfl (jv 0) (je_bin oj_sub (jv 2) je_int)) (je_bin oj_sub (jv 1) je_int)))) js_nil)
theorem sc49 : FnScope ["told", "table", "width", "height", "wide", "high", "price", "down", "across", "sums", "at"] ["told", "table", "width", "height"] (defScope s49) := ⟨rfl, rfl, rfl, by decide +kernel, rfl, by decide +kernel, by decide +kernel⟩
theorem d49 (t : Ft K mg base fd) (ih : Ih P w K mg base fd n C) : FnOk P w K mg base (CX P w) (2 * n + 3) (gx_f K 49) (fd 49) (psN 49) (spF (gx K) (m49 C)) :=
  def_ok (g := gx K) (t.defs 49 D49 rfl) sc49 rfl rfl fun cdv A outer s H E hr tk po => have nd := sc49.nd;
    (js_seq (js_for po rfl (ji_tup rfl (je_ix rfl (jv 0) je_int)) (jg_tup rfl rfl (jgs_cons (jg_nm (i := 4) nd rfl (by first | exact Or.inl rfl | exact Or.inr rfl)) (jgs_cons (jg_nm (i := 5) nd rfl (by first | exact Or.inl rfl | exact Or.inr rfl)) (jgs_cons (jg_nm (i := 6) nd rfl (by first | exact Or.inl rfl | exact Or.inr rfl)) jgs_nil)))) (js_seq (js_if (jt_w (jw_and (jt_cmp oj_le (jv 4) (jv 2) (by rfl)) (jw_and (jt_cmp oj_le (jv 5) (jv 3) (by rfl)) (jw_and1 (jt_cmp (oj_lt rfl (u64 hr)) (jc (c48 t ih) rfl hr tk (ja_cons (jv 1) (ja_cons (jv 4) (ja_cons (jv 5) ja_nil)))) (jv 6) (by rfl)))))) (js_seq (js_ret je_bl) js_nil) js_nil) js_nil)) (js_seq (js_for po rfl (ji_range2 rfl (t.free 20) (ja_cons je_int (ja_cons (je_bin (oj_add rfl) (jv 3) je_int) ja_nil))) (jg_nm (i := 7) nd rfl (by first | exact Or.inl rfl | exact Or.inr rfl)) (js_seq (js_for po rfl (ji_range2 rfl (t.free 20) (ja_cons je_int (ja_cons (je_bin (oj_add rfl) (jv 2) je_int) ja_nil))) (jg_nm (i := 8) nd rfl (by first | exact Or.inl rfl | exact Or.inr rfl)) (js_seq (js_setLc (i := 9) (own := [("at", 10)]) rfl nd rfl rfl (by rfl) (ji_range2 rfl (t.free 20) (ja_cons je_int (ja_cons (jv 8) ja_nil))) (blk_by (by kernel_rfl)) (fun s H C cl fp => jc_nm (i := 10) nd rfl (by first | exact Or.inl rfl | exact Or.inr rfl) (by decide) (by first | exact .inl rfl | exact .inr rfl)) (fun s H C cl fp => jts_nil) (fun s H C cl fp => (je_bin (oj_add rfl) (jc (c48 t ih) rfl hr LamX.takes0 (ja_cons (jv 1) (ja_cons (jv 10) (ja_cons (jv 7) ja_nil)))) (jc (c48 t ih) rfl hr LamX.takes0 (ja_cons (jv 1) (ja_cons (jc (c41 t ih) rfl hr LamX.takes0 (ja_cons (jv 0) (ja_cons (jv 8) (ja_cons (jv 10) ja_nil)))) (ja_cons (jv 7) ja_nil))))))) (js_seq (js_set (i := 9) nd rfl (by first | exact Or.inl rfl | exact Or.inr rfl) (je_bin (oj_add rfl) (jv 9) (je_lc (own := [("at", 10)]) rfl nd (ji_range2 rfl (t.free 20) (ja_cons je_int (ja_cons (jv 7) ja_nil))) (blk_by (by kernel_rfl)) (fun s H C cl fp => jc_nm (i := 10) nd rfl (by first | exact Or.inl rfl | exact Or.inr rfl) (by decide) (by first | exact .inl rfl | exact .inr rfl)) (fun s H C cl fp => jts_nil) (fun s H C cl fp => (je_bin (oj_add rfl) (jc (c48 t ih) rfl hr LamX.takes0 (ja_cons (jv 1) (ja_cons (jv 8) (ja_cons (jv 10) ja_nil)))) (jc (c48 t ih) rfl hr LamX.takes0 (ja_cons (jv 1) (ja_cons (jv 8) (ja_cons (jc (c41 t ih) rfl hr LamX.takes0 (ja_cons (jv 0) (ja_cons (jv 7) (ja_cons (jv 10) ja_nil)))) ja_nil))))))))) (js_seq (js_if (jt_cmp oj_gt (je_maxL rfl rfl (u64 hr) rfl (t.free 21) (je_bin (oj_add rfl) (jv 9) (je_lst (ja_cons je_int ja_nil)))) (jc (c48 t ih) rfl hr tk (ja_cons (jv 1) (ja_cons (jv 8) (ja_cons (jv 7) ja_nil)))) (by rfl)) (js_seq (js_ret je_bl) js_nil) js_nil) js_nil)))) js_nil)) (js_seq (js_ret je_bl) js_nil)))
theorem d50 : FnOk P w K mg base (CX P w) (2 * n + 3) (gx_f K 50) (fd 50) (psN 50) (spF (gx K) (m50 C)) := fn_no
theorem sc51 : FnScope ["script", "row", "told", "known", "saw", "most", "width", "height", "best", "tree", "slabs", "table", "due", "across", "down", "turn", "column", "line", "number", "thing", "good", "other", "odd", "one", "wrong", "ask"] ["script"] (defScope s51) := ⟨rfl, rfl, rfl, by decide +kernel, rfl, by decide +kernel, by decide +kernel⟩
theorem d51 (t : Ft K mg base fd) (ih : Ih P w K mg base fd n C) : FnG P w K mg base (CX P w) (2 * n + 5) (gx_f K 51) (fd 51) (psN 51) (spF (gx K) (m51 C)) :=
  def_okG (g := gx K) (t.defs 51 D51 rfl) sc51 rfl rfl fun cdv A outer s H E hG0 lk hr tk po => have hG : (A.deeper (PyProof.Rows.envOfC "law" (defScope s51) s.heap.objs.size (gx_f K 51) cdv)).guards = some [] := hG0; have nd := sc51.nd; have lkc := lamC0 t lk; 
    (js_seq (js_set (i := 1) nd rfl (by first | exact Or.inl rfl | exact Or.inr rfl) (je_lstM (ja_cons (jv 0) (ja_cons je_int (ja_cons je_int (ja_cons je_int ja_nil)))))) (js_seq (js_parC (i := 2) (j := 3) rfl nd rfl rfl (by first | exact Or.inl rfl | exact Or.inr rfl) (by first | exact Or.inl rfl | exact Or.inr rfl) (ja_cons (jc (c40 t ih) rfl hr tk (ja_cons (jv 1) ja_nil)) (ja_cons je_dctM ja_nil))) (js_seq (js_parC (i := 4) (j := 5) rfl nd rfl rfl (by first | exact Or.inl rfl | exact Or.inr rfl) (by first | exact Or.inl rfl | exact Or.inr rfl) (ja_cons (je_frz (je_make (mkB_ok (t.bl 20)) (ih 6 (by decide)) (rm hr) (by rfl) (by exact (t.glo 19)) (bd6 t) .nil (fun _ _ => RVs.nil) tk (ja_cons (je_ix rfl (jv 2) je_int) (ja_cons (je_ix rfl (jv 2) je_int) ja_nil)))) (ja_cons (je_if (jt_cmp (oj_eq rfl (u64 hr)) (jc (c37 t ih) rfl hr tk (ja_cons (jv 1) (ja_cons je_int ja_nil))) je_int (by rfl)) je_int je_int) ja_nil))) (js_seq (js_parC (i := 6) (j := 7) rfl nd rfl rfl (by first | exact Or.inl rfl | exact Or.inr rfl) (by first | exact Or.inl rfl | exact Or.inr rfl) (ja_cons (je_bin (oj_add rfl) je_int (jc (c37 t ih) rfl hr tk (ja_cons (jv 1) (ja_cons (jv 5) ja_nil)))) (ja_cons (je_bin (oj_add rfl) je_int (jc (c37 t ih) rfl hr tk (ja_cons (jv 1) (ja_cons (jv 5) ja_nil)))) ja_nil))) (js_seq (js_set (i := 8) nd rfl (by first | exact Or.inl rfl | exact Or.inr rfl) (jc (c46 t ih) rfl hr tk (ja_cons (jv 2) (ja_cons (jv 3) (ja_cons (jv 6) (ja_cons (jv 7) ja_nil)))))) (js_seq (js_set (i := 9) nd rfl (by first | exact Or.inl rfl | exact Or.inr rfl) (jc (c27 t ih) rfl hr tk (ja_cons (jv 4) (ja_cons (jv 6) (ja_cons (jv 7) ja_nil))))) (js_seq (js_if (jt_w (jw_or (jt_not (jt_truth rfl (jc (c39 t ih) rfl hr tk (ja_cons (jc (c26 t ih) rfl hr tk (ja_cons (jv 4) (ja_cons (jv 6) (ja_cons (jv 7) ja_nil)))) (ja_cons (je_bin oj_sub je_int (je_ix rfl (je_ix rfl (jv 8) je_int) je_int)) ja_nil))))) (jw_or1 (jt_cmp oj_isnot (jc (c15 t ih) rfl hr tk (ja_cons (jv 4) (ja_cons (jv 6) (ja_cons (jv 7) (ja_cons (jv 9) ja_nil))))) je_bl (by rfl))))) (js_seq (js_ret je_bl) js_nil) js_nil) (js_seq (js_set (i := 10) nd rfl (by first | exact Or.inl rfl | exact Or.inr rfl) (jc (c42 t ih) rfl hr tk (ja_cons (jv 2) (ja_cons (jv 9) (ja_cons je_int (ja_cons je_int (ja_cons (jv 6) (ja_cons (jv 7) ja_nil)))))))) (js_seq (js_if (jt_w (jw_or (jt_cmp oj_is (jv 10) je_non (by rfl)) (jw_or (jt_cmp (oj_ne rfl (u64 hr)) (jc (c43 t ih) rfl hr tk (ja_cons (jv 2) (ja_cons (jv 10) ja_nil))) (je_bin oj_sub je_int (je_ix rfl (je_ix rfl (jv 8) je_int) je_int)) (by rfl)) (jw_or (jt_cmp (oj_ne rfl (u64 hr)) (jc (c44 t ih) rfl hr tk (ja_cons (jv 9) ja_nil)) (je_ix rfl (je_ix rfl (jv 8) je_int) je_int) (by rfl)) (jw_or1 (jt_cmp (oj_ne rfl (u64 hr)) (jc (c19 t ih) rfl hr tk (ja_cons (jv 9) ja_nil)) (je_ix rfl (je_ix rfl (jv 8) je_int) je_int) (by rfl))))))) (js_seq (js_ret je_bl) js_nil) js_nil) (js_seq (js_if (jt_w (jw_or (jt_not (jt_truth rfl (jc (c39 t ih) rfl hr tk (ja_cons (jc (c28 t ih) rfl hr tk (ja_cons (jv 4) (ja_cons (jv 6) (ja_cons (jv 7) ja_nil)))) (ja_cons (je_ix rfl (je_ix rfl (jv 8) je_int) je_int) ja_nil))))) (jw_or1 (jt_not (jt_truth rfl (jc (c39 t ih) rfl hr tk (ja_cons (jc (c29 t ih) rfl hr tk (ja_cons (jv 4) (ja_cons (jv 6) (ja_cons (jv 7) ja_nil)))) (ja_cons (je_bin (oj_add rfl) (je_bin oj_mul (jv 6) (jv 7)) (je_ix rfl (je_ix rfl (jv 8) je_int) je_int)) ja_nil)))))))) (js_seq (js_ret je_bl) js_nil) js_nil) (js_seq (js_set (i := 11) nd rfl (by first | exact Or.inl rfl | exact Or.inr rfl) (jc (c30 t ih) rfl hr tk (ja_cons (jv 4) (ja_cons (jv 6) (ja_cons (jv 7) ja_nil))))) (js_seq (js_set (i := 12) nd rfl (by first | exact Or.inl rfl | exact Or.inr rfl) (je_tuple rfl rfl (t.free 5) (je_lc (own := [("down", 14)]) rfl nd (ji_range2 rfl (t.free 20) (ja_cons je_int (ja_cons (je_bin (oj_add rfl) (jv 7) je_int) ja_nil))) (blk_by (by kernel_rfl)) (fun s H C cl fp => jc_nm (i := 14) nd rfl (by first | exact Or.inl rfl | exact Or.inr rfl) (by decide) (by first | exact .inl rfl | exact .inr rfl)) (fun s H C cl fp => jts_nil) (fun s H C cl fp => (je_tuple rfl rfl (t.free 5) (je_lc (own := [("across", 13)]) rfl nd (ji_range2 rfl (t.free 20) (ja_cons je_int (ja_cons (je_bin (oj_add rfl) (jv 6) je_int) ja_nil))) (blk_by (by kernel_rfl)) (fun s H C cl fp => jc_nm (i := 13) nd rfl (by first | exact Or.inl rfl | exact Or.inr rfl) (by decide) (by first | exact .inl rfl | exact .inr rfl)) (fun s H C cl fp => jts_nil) (fun s H C cl fp => (je_bin oj_sub je_int (je_ix rfl (je_ix rfl (jc (c46 t ih) rfl hr LamX.takes0 (ja_cons (jv 2) (ja_cons (jv 3) (ja_cons (jv 13) (ja_cons (jv 14) ja_nil))))) je_int) je_int))))))))) (js_seq (js_if (jt_w (jw_or (jt_not (jt_truth rfl (jc (c39 t ih) rfl hr tk (ja_cons (jv 11) (ja_cons (jv 12) ja_nil))))) (jw_or (jt_cmp oj_isnot (jc (c35 t ih) rfl hr tk (ja_cons (jv 4) (ja_cons (jv 6) (ja_cons (jv 7) (ja_cons (jv 11) ja_nil))))) je_bl (by rfl)) (jw_or1 (jt_not (jt_truth rfl (jc (c49 t ih) rfl hr tk (ja_cons (jv 2) (ja_cons (jv 11) (ja_cons (jv 6) (ja_cons (jv 7) ja_nil))))))))))) (js_seq (js_ret je_bl) js_nil) js_nil) (js_seq (js_if (jt_cmp oj_isnot (jc (c36 t ih) rfl hr tk (ja_cons (jv 4) (ja_cons (jv 6) (ja_cons (jv 7) (ja_cons (jv 9) (ja_cons (jv 11) ja_nil)))))) je_bl (by rfl)) (js_seq (js_ret je_bl) js_nil) js_nil) (js_seq (js_for po rfl (ji_range1 rfl (t.free 20) (ja_cons je_int ja_nil)) (jg_nm (i := 15) nd rfl (by first | exact Or.inl rfl | exact Or.inr rfl)) (js_seq (js_par (i := 16) (j := 17) rfl nd rfl rfl (by decide) rfl rfl (ja_cons (jc (c37 t ih) rfl hr tk (ja_cons (jv 1) (ja_cons (jv 6) ja_nil))) (ja_cons (jc (c37 t ih) rfl hr tk (ja_cons (jv 1) (ja_cons (jv 7) ja_nil))) ja_nil))) (js_seq (js_set (i := 18) nd rfl (by first | exact Or.inl rfl | exact Or.inr rfl) (je_max2 rfl rfl (t.free 21) (ja_cons je_int (ja_cons (je_bin (oj_add rfl) (je_ix rfl (je_ix rfl (jv 12) (jv 17)) (jv 16)) (jc (c38 t ih) rfl hr tk (ja_cons (jv 1) (ja_cons (je_lst (ja_cons (je_neg je_int) (ja_cons je_int (ja_cons je_int ja_nil)))) ja_nil)))) ja_nil)))) (js_seq (js_set (i := 19) nd rfl (by first | exact Or.inl rfl | exact Or.inr rfl) (je_bin (oj_add rfl) (je_bin (oj_add rfl) (je_sl rfl (jv 12) jo_no (jo_some (jv 17))) (je_tup (ja_cons (je_bin (oj_add rfl) (je_bin (oj_add rfl) (je_sl rfl (je_ix rfl (jv 12) (jv 17)) jo_no (jo_some (jv 16))) (je_tup (ja_cons (jv 18) ja_nil))) (je_sl rfl (je_ix rfl (jv 12) (jv 17)) (jo_some (je_bin (oj_add rfl) (jv 16) je_int)) jo_no)) ja_nil))) (je_sl rfl (jv 12) (jo_some (je_bin (oj_add rfl) (jv 17) je_int)) jo_no))) (js_seq (js_set (i := 20) nd rfl (by first | exact Or.inl rfl | exact Or.inr rfl) (jc (c49 t ih) rfl hr tk (ja_cons (jv 2) (ja_cons (jv 19) (ja_cons (jv 6) (ja_cons (jv 7) ja_nil)))))) (js_seq (js_if (jt_w (jw_or (jt_not (jt_truth rfl (jc (c39 t ih) rfl hr tk (ja_cons (jc (c35 t ih) rfl hr tk (ja_cons (jv 4) (ja_cons (jv 6) (ja_cons (jv 7) (ja_cons (jv 19) ja_nil))))) (ja_cons (jv 20) ja_nil))))) (jw_or1 (jt_w (jw_and (jt_truth rfl (jv 20)) (jw_and1 (jt_cmp (oj_lt rfl (u64 hr)) (jv 18) (je_ix rfl (je_ix rfl (jv 12) (jv 17)) (jv 16)) (by rfl)))))))) (js_seq (js_ret je_bl) js_nil) js_nil) (js_seq (js_set (i := 21) nd rfl (by first | exact Or.inl rfl | exact Or.inr rfl) (jc (c45 t ih) rfl hr tk (ja_cons (jv 1) (ja_cons (jv 2) (ja_cons (jv 6) (ja_cons (jv 7) (ja_cons je_int ja_nil))))))) (js_seq (js_if (jt_w (jw_or (jt_cmp oj_gt (jc (c18 t ih) rfl hr tk (ja_cons (jv 4) (ja_cons (jv 21) ja_nil))) (je_bin oj_sub je_int (je_ix rfl (je_ix rfl (jv 8) je_int) je_int)) (by rfl)) (jw_or1 (jt_w (jw_and (jt_truth rfl (jv 20)) (jw_and1 (jt_cmp (oj_ne rfl (u64 hr)) (jc (c36 t ih) rfl hr tk (ja_cons (jv 4) (ja_cons (jv 6) (ja_cons (jv 7) (ja_cons (jv 21) (ja_cons (jv 19) ja_nil)))))) (je_cmp (oj_eq rfl (u64 hr)) (jc (c18 t ih) rfl hr tk (ja_cons (jv 4) (ja_cons (jv 21) ja_nil))) (jc (c48 t ih) rfl hr tk (ja_cons (jv 19) (ja_cons (jv 6) (ja_cons (jv 7) ja_nil)))) (by rfl)) (by rfl)))))))) (js_seq (js_ret je_bl) js_nil) js_nil) js_nil)))))))) (js_seq (js_set (i := 22) nd rfl (by first | exact Or.inl rfl | exact Or.inr rfl) (jc (c38 t ih) rfl hr tk (ja_cons (jv 1) (ja_cons (je_lst (ja_cons je_non (ja_cons (je_list rfl rfl (t.free 4) (jv 12)) (ja_cons (je_sl rfl (jv 12) (jo_some je_int) jo_no) (ja_cons (je_bin (oj_add rfl) (jv 12) (je_sl rfl (jv 12) jo_no (jo_some je_int))) (ja_cons (je_tuple rfl rfl (t.free 5) (je_lc (own := [("one", 23)]) rfl nd (ji_tup rfl (jv 12)) (blk_by (by kernel_rfl)) (fun s H C cl fp => jc_nm (i := 23) nd rfl (by first | exact Or.inl rfl | exact Or.inr rfl) (by decide) (by first | exact .inl rfl | exact .inr rfl)) (fun s H C cl fp => jts_nil) (fun s H C cl fp => (je_sl rfl (jv 23) (jo_some je_int) jo_no)))) (ja_cons (je_bin (oj_repU rfl) (je_tup (ja_cons (je_bin (oj_repU rfl) (je_tup (ja_cons je_non ja_nil)) (jv 6)) ja_nil)) (jv 7)) (ja_cons (je_bin (oj_repU rfl) (je_tup (ja_cons (je_bin (oj_repU rfl) (je_tup (ja_cons (je_neg je_int) ja_nil)) (jv 6)) ja_nil)) (jv 7)) (ja_cons je_int ja_nil))))))))) ja_nil)))) (js_seq (js_if (jt_w (jw_or (jt_cmp oj_isnot (jc (c35 t ih) rfl hr tk (ja_cons (jv 4) (ja_cons (jv 6) (ja_cons (jv 7) (ja_cons (jv 22) ja_nil))))) je_bl (by rfl)) (jw_or1 (jt_cmp (oj_ne rfl (u64 hr)) (je_repr rfl hG (u128 hr) rfl (t.free 62) (jref (k := 2 * n + 2) t ⟨rfl, rfl, rfl⟩ hr rfl lkc (List.mem_singleton.mpr rfl) (fun p hp _ => by rw [List.mem_singleton.mp hp]; rfl) (LamX.lamS_by (by rfl)) rfl (fun _ _ _ _ _ => rfl) (fun A outer s H E f c' hr tk => (jc (c36 t ih) rfl hr tk (ja_cons (jv 4) (ja_cons (jv 6) (ja_cons (jv 7) (ja_cons (jv 9) (ja_cons (jv 22) ja_nil))))))))) (je_repr rfl hG (u128 hr) rfl (t.free 62) (je_tup (ja_cons je_str (ja_cons (jv 22) ja_nil)))) (by rfl))))) (js_seq (js_ret je_bl) js_nil) js_nil) (js_seq (js_if (jt_cmp (oj_ne rfl (u64 hr)) (jref (k := 2 * n + 2) t ⟨rfl, rfl, rfl⟩ hr rfl lkc (List.mem_singleton.mpr rfl) (fun p hp _ => by rw [List.mem_singleton.mp hp]; rfl) (LamX.lamS_by (by rfl)) rfl (fun _ _ _ _ _ => rfl) (fun A outer s H E f c' hr tk => (jc (c36 t ih) rfl hr tk (ja_cons (jv 4) (ja_cons (jv 6) (ja_cons (jv 7) (ja_cons (je_tup (ja_cons je_str ja_nil)) (ja_cons (jv 22) ja_nil)))))))) (je_tup (ja_cons je_str (ja_cons (je_tup (ja_cons je_str ja_nil)) ja_nil))) (by rfl)) (js_seq (js_ret je_bl) js_nil) js_nil) (js_seq (js_set (i := 24) nd rfl (by first | exact Or.inl rfl | exact Or.inr rfl) (jc (c38 t ih) rfl hr tk (ja_cons (jv 1) (ja_cons (je_lst (ja_cons je_int (ja_cons je_int (ja_cons je_non (ja_cons je_bl ja_nil))))) ja_nil)))) (js_seq (js_for po rfl (ji_list rfl (je_lst (ja_cons (jg_fn (i := 26) (t.glo 61)) (ja_cons (jg_fn (i := 27) (t.glo 60)) (ja_cons (jg_fn (i := 28) (t.glo 59)) (ja_cons (jg_fn (i := 29) (t.glo 58)) (ja_cons (jg_fn (i := 30) (t.glo 57)) ja_nil))))))) (jg_nm (i := 25) nd rfl (by first | exact Or.inl rfl | exact Or.inr rfl)) (js_seq (js_if (jt_cmp (oj_ne rfl (u64 hr)) (je_repr rfl hG (u128 hr) rfl (t.free 62) (jref (k := 2 * n + 2) t ⟨rfl, rfl, rfl⟩ hr rfl lkc (List.mem_singleton.mpr rfl) (fun p hp _ => by rw [List.mem_singleton.mp hp]; rfl) (LamX.lamS_by (by rfl)) rfl (fun _ _ _ _ _ => rfl) (fun A outer s H E f c' hr tk => (jcv (hold26_27_28_29_30 t ih) rfl hr tk (ja_cons (jv 4) (ja_cons je_int (ja_cons (jv 24) ja_nil))))))) (je_repr rfl hG (u128 hr) rfl (t.free 62) (je_tup (ja_cons je_str (ja_cons (jv 24) ja_nil)))) (by rfl)) (js_seq (js_ret je_bl) js_nil) js_nil) js_nil)) (js_seq (js_ret je_bl) js_nil)))))))))))))))))))))
end
end K00
set_option maxHeartbeats 0
namespace K00
open PySem PySem.Spec PyProof.Rows L2 Vs
section
variable {P : Program} {w : World} {K : PySem.W.Frag} {mg : Str → Option Value} {base : Heap} {fd : Nat → FuncData}
theorem levels (t : Ft K mg base fd) : ∀ n : Nat, Ih P w K mg base fd n (callF n)
  | 0 => fun i _ => fn_stuck
  | n + 1 => fun i hi => match i, hi with
    | 0, _ => d0 t (levels t n)
    | 1, _ => d1 t (levels t n)
    | 2, _ => d2 t (levels t n)
    | 3, _ => d3 t (levels t n)
    | 4, _ => d4 t (levels t n)
    | 5, _ => d5 t (levels t n)
    | 6, _ => d6 t (levels t n)
    | 7, _ => d7 t (levels t n)
    | 8, _ => d8 t (levels t n)
    | 9, _ => d9 t (levels t n)
    | 10, _ => d10 t (levels t n)
    | 11, _ => d11 t (levels t n)
    | 12, _ => d12 t (levels t n)
    | 13, _ => d13 t (levels t n)
    | 14, _ => d14 t (levels t n)
    | 15, _ => d15 t (levels t n)
    | 16, _ => d16 t (levels t n)
    | 17, _ => d17 t (levels t n)
    | 18, _ => d18 t (levels t n)
    | 19, _ => d19 t (levels t n)
    | 20, _ => d20 t (levels t n)
    | 21, _ => d21 t (levels t n)
    | 22, _ => d22 t (levels t n)
    | 23, _ => d23 t (levels t n)
    | 24, _ => d24 t (levels t n)
    | 25, _ => d25 t (levels t n)
    | 26, _ => d26 t (levels t n)
    | 27, _ => d27 t (levels t n)
    | 28, _ => d28 t (levels t n)
    | 29, _ => d29 t (levels t n)
    | 30, _ => d30 t (levels t n)
    | 31, _ => d31 t (levels t n)
    | 32, _ => d32 t (levels t n)
    | 33, _ => d33 t (levels t n)
    | 34, _ => d34 t (levels t n)
    | 35, _ => d35 t (levels t n)
    | 36, _ => d36 t (levels t n)
    | 37, _ => d37 t (levels t n)
    | 38, _ => d38 t (levels t n)
    | 39, _ => d39 t (levels t n)
    | 40, _ => d40 t (levels t n)
    | 41, _ => d41 t (levels t n)
    | 42, _ => d42 t (levels t n)
    | 43, _ => d43 t (levels t n)
    | 44, _ => d44 t (levels t n)
    | 45, _ => d45 t (levels t n)
    | 46, _ => d46 t (levels t n)
    | 47, _ => d47 t (levels t n)
    | 48, _ => d48 t (levels t n)
    | 49, _ => d49 t (levels t n)
    | 50, _ => d50 (C := callF n)
    | 51, hi => absurd (by decide) hi
    | _ + 52, _ => fn_stuck
end
/-- what the law asks of its mirror -/
def Plain : Prop := ∀ ns : List Int, ns.length ≤ 63 → (∀ z ∈ ns, Builtin.Int.intBits z ≤ 1048576) → ∃ s, (m51 (callF 90)) [.p (.lst (ns.map .int))] [] = .ok (.p (.bl true)) s
abbrev R : PySem.W.OpenRow := PySem.W.OpenLaw.row PySem.Challenge.rw_veinsaw_k00_whole_best_cuts_and_closed_t
def exB (K : PySem.W.Frag) : Bool := (exs K).all id
abbrev hk : PySem.W.Hook := hookN 1000 fa fn [] tf exB
def ob (s : PySem.W.SharedT) : He.AlX := obsN 1000 fa fn [] tf exB (HandSHeadRun.getT s)
theorem ob_eq (s : PySem.W.SharedT) : ob s = hk.obs s.abs := obsN_eq (HandSHeadRun.getT_eq s)
def loose0 : List Str := ["is_integer", "is_within", "is_row", "is_tuple_of", "StoneError", "BadKerf", "BadOrders", "BadSize", "BadTree", "BadTable", "MOST_KERF", "MOST_ORDERS", "MOST_SIZE", "MOST_PRICE", "is_order", "check_kerf", "Saw", "check_size", "check_sizes", "WASTE", "second_of", "is_cut", "is_rest", "is_told"]
def loose1 : List Str := ["is_tree", "check_tree", "slabs_of", "tree_price", "tree_cuts", "Worths", "told_best", "best_price", "best_tree", "fewest_cuts", "best_waste", "price_table", "told_in", "is_form", "is_closed_at", "is_told_closed", "is_closed", "shows", "_law_taken", "_law_pick", "_law_alike", "_law_saw", "_law_second", "_law_slabs"]
def loose2 : List Str := ["_law_price", "_law_cuts", "_law_tree", "_law_best", "_law_both", "_law_at", "_law_closed", "_law_refused"]
def loose : List Str := loose0 ++ loose1 ++ loose2
abbrev ts0 : List He.Tab := []
theorem look1 (w : World) : Lk1 R (PySem.W.view R.prog [63]) 4000 loose w := by
  intro os
  kernel_rfl
theorem look2 (w : World) : Lk2 R 4000 1000 (fn.take 30) w := by
  intro os
  kernel_rfl
theorem look3 (w : World) : Lk2 R 4000 1000 (fn.drop 30) w := by
  intro os
  kernel_rfl
theorem look4 (w : World) : Lk3 R 4000 1000 fa ts0 tf exB w := by
  intro os
  kernel_rfl
theorem run (w : World) : HandSHeadRun.RunEq R (PySem.W.view R.prog [63]) hk ob 4000 loose w :=
  runEq_of (r := R) (q := (PySem.W.view R.prog [63])) (n := 1000) (k := 30) (M := 4000) (fa := fa) (fn := fn) (ts := ts0) (tf := tf) (ex := exB) (loose := loose) (look1 w) (look2 w) (look3 w) (look4 w)
theorem law_ok (pl : Plain) {w : World} {mg : Str → Option Value} {fa0 : Addr} {h : Heap} (Y : hk.says w h) (G : h.Ns mainGlobals mg) (hfa : mg ("law" : Str) = some (.ref fa0)) : ∃ K : PySem.W.Frag, K.In h ∧ LawG PySem.Challenge.rw_veinsaw_k00_whole_best_cuts_and_closed_t w K 188 63 "script" mg fa0 h := by
  obtain ⟨K, KX, c⟩ := Y
  obtain ⟨fd, hfd⟩ := fds_ex w c.t.d
  have gl : mg ("law" : Str) = some (.ref (He.ga K "law")) := He.glo_ok KX G (c.t.d.fact 70 (f := .glo "law") rfl)
  cases hfa.symm.trans gl
  refine ⟨K, KX, fd 51, tf.map (He.cT K), spF (gx K) ((m51 (callF 90))), ?_, ?_, ?_, ?_, ?_, ?_⟩
  · intro p hp; obtain ⟨q, hq, rfl⟩ := List.mem_map.mp hp; exact c.empty q hq
  · intro p hp; obtain ⟨q, hq, rfl⟩ := List.mem_map.mp hp; exact c.out q hq
  · intro p hp; obtain ⟨q, hq, rfl⟩ := List.mem_map.mp hp; exact PySem.W.codeHd_of_K KX (c.hd q hq)
  · intro s u; exact FunD.bindsA (ps := ["script"]) (hfd 51 D51 rfl) (fun _ _ _ _ _ _ us hl => match us, hl with | [_], _ => rfl) s [u] rfl
  · intro H a ns hl hb hT hS
    obtain ⟨s, e⟩ := pl ns hl hb
    refine law_sp (g := gx K) (cs := tf.map (He.cT K)) e (fun p hp => ?_) hT hS
    show p.1 ∈ (tf.map (He.cT K)).map (·.2)
    exact tf_T hp
  · intro base kb gb tb
    have t : Ft K mg base fd := ⟨fun i f hf => c.t.d.fact i hf, c.more, kb, gb, hfd, fun p hp => tb _ (List.mem_map.mpr ⟨p, hp, rfl⟩)⟩
    exact ⟨fun vs H Q E h => by rw [spF_len h]; rfl, fun A outer s H args us vs Q E hG hr e0 bd rv sp => (d51 t (levels t 90)).run A outer s H args us vs Q E hG (hr.mono (by decide)) e0 bd rv sp⟩
end K00
open PySem PySem.W PySem.Calls PyProof.Rows
theorem holds_of (pl : K00.Plain) : PySem.Challenge.rw_veinsaw_k00_whole_best_cuts_and_closed_t.Holds := by
  w_on; o_law
  refine HandSHeadRun.head_any (r := OpenLaw.row PySem.Challenge.rw_veinsaw_k00_whole_best_cuts_and_closed_t) (q := view (OpenLaw.row PySem.Challenge.rw_veinsaw_k00_whole_best_cuts_and_closed_t).prog [63]) (H := K00.hk) (ob := K00.ob) (M := 4000) (loose := K00.loose) (d := HandSHeadRun.topDef (OpenLaw.row PySem.Challenge.rw_veinsaw_k00_whole_best_cuts_and_closed_t).prog 63) (kwd := []) K00.ob_eq
    (by kernel_rfl) (fun s => by kernel_rfl) K00.run (by kernel_rfl) (by kernel_rfl) (by kernel_rfl) (by rfl) (by first | assumption | decide +kernel) (by decide +kernel) ⟨rfl, rfl, rfl, rfl, rfl, by decide +kernel⟩ ?hw ?hc
  case hw => w_witness2
  case hc =>
    refine Vs.walk_ofG (l := PySem.Challenge.rw_veinsaw_k00_whole_best_cuts_and_closed_t) (n := 63) (k := 188) (x := "script") rfl (by decide) (by kernel_rfl) ⟨rfl, by decide, by decide⟩ ?F
    intro w mg fa0 h Y G hmg0
    have hmg : mg ("law" : PySem.Str) = some (.ref fa0) := by
      have e : (HandSHeadRun.topDef (OpenLaw.row PySem.Challenge.rw_veinsaw_k00_whole_best_cuts_and_closed_t).prog 63).name = ("law" : PySem.Str) := by kernel_rfl
      rw [← e]
      exact hmg0
    exact K00.law_ok pl Y G hmg

theorem PySem.Challenge.cw_veinsaw_k00_whole_best_cuts_and_closed_t_holds : PySem.Challenge.rw_veinsaw_k00_whole_best_cuts_and_closed_t.Holds := by
  exact holds_of fun ns _ _ => K00.plain ns
