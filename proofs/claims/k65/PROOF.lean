import PyProof.Rows.All
import Wide.All
import OpenK.AllK
import Wide.FinOn
import HandS.ForMost
import HandS.Walk
import HandS.WordsExc
import HandS.ExcInit
import HandS.TupAny
import HandS.TupLen
import HandS.IsInst
import HandS.Deep
import HandS.Wide
import HandS.Style
import HandS.SortInts
import HandS.Zip
import HandS.Rev
import HandS.ExcOwn
import HandS.TupLe
import KE.KTupSum
import PySem.Challenge.RW_whobeatwhom_k65_whole_strengths
set_option Elab.async false
set_option linter.all false
set_option maxRecDepth 100000
set_option maxHeartbeats 1000000
/-! the value layer: data, how data lie in the heap, the state -/
namespace VL
open PySem PySem.Spec PyProof.Rows L2

/-- data: what a value tells, without addresses -/
inductive D where
  | non | bl (b : Bool) | int (i : Int) | str (x : Str)
  | tup (xs : List D) | lst (xs : List D)
  | dk (ks : List Key) (vs : List D) | dt (ks : List (List Key)) (vs : List D)
  | ins (C : Addr) (ns : List Str) (vs : List D)
  | obj (a : Addr)
  | scr (ns : List Int)
abbrev Rho := List (Option D)
/-- an error: its class, its fields -/
structure Exn where
  cls : Addr
  ns : List Str
  vs : List D
inductive Rs (α : Type) where
  | ok (a : α) | err (x : Exn) | bad
def Rs.bind {α β : Type} : Rs α → (α → Rs β) → Rs β
  | .ok a, f => f a
  | .err x, _ => .err x
  | .bad, _ => .bad
instance : Monad Rs where
  pure := .ok
  bind := Rs.bind
@[simp] theorem ok_bind {α β : Type} (a : α) (f : α → Rs β) : (Rs.ok a >>= f) = f a := rfl
@[simp] theorem err_bind {α β : Type} (x : Exn) (f : α → Rs β) : ((Rs.err x : Rs α) >>= f) = .err x := rfl
@[simp] theorem bad_bind {α β : Type} (f : α → Rs β) : ((Rs.bad : Rs α) >>= f) = .bad := rfl
@[simp] theorem pure_ok {α : Type} (a : α) : (pure a : Rs α) = .ok a := rfl

/-- the script at a -/
def ScrAt (K : PySem.W.Frag) (S : Addr → Prop) (H : Hp) (a : Addr) (ns : List Int) : Prop :=
  (H a = some (.lst (ns.map V.int)) ∧ S a) ∨ (∃ o, H a = some (.frz o (.lst (ns.map V.int)))) ∨
    ∃ (o : Obj) (its : Array Value) (n : Nat), K.lookup a = some o ∧ o.cls = .type "list" ∧ o.dict = none ∧ o.data = .seq its n ∧ its.size ≤ sizeLine ∧ Vals (ns.map V.int) its.toList
theorem ScrAt.sq {K : PySem.W.Frag} {S : Addr → Prop} {H : Hp} {a : Addr} {ns : List Int} (h : ScrAt K S H a ns) : SqL K H a (ns.map V.int) := by
  rcases h with h | h | h
  · exact .inl (.inl h.1)
  · exact .inl (.inr h)
  · exact .inr h
theorem ScrAt.of {K : PySem.W.Frag} {S : Addr → Prop} {H : Hp} {a : Addr} {ns : List Int} (h : SqL K H a (ns.map V.int)) (s : S a) : ScrAt K S H a ns := by
  rcases h with (h | h) | h
  · exact .inl ⟨h, s⟩
  · exact .inr (.inl h)
  · exact .inr (.inr h)
section
variable (K : PySem.W.Frag) (S : Addr → Prop) (H : Hp)
mutual
/-- d lies at v; lists, dicts, instances from depth j on stand at addresses of S -/
def Rq : Nat → D → V → Prop
  | _, .non, v => v = .non
  | _, .bl b, v => v = .bl b
  | _, .int i, v => v = .int i
  | _, .str x, v => v = .str x
  | _, .tup ds, v => ∃ a vs, v = .ref a ∧ H a = some (.tup vs) ∧ Rqs 0 ds vs
  | j, .lst ds, v => ∃ a vs, v = .ref a ∧ H a = some (.lst vs) ∧ (j = 0 → S a) ∧ Rqs (j - 1) ds vs
  | j, .dk ks ds, v => ∃ a vs, v = .ref a ∧ H a = some (.dK (ks.zip vs)) ∧ ks.length = vs.length ∧ (j = 0 → S a) ∧ Rqs (j - 1) ds vs
  | j, .dt ks ds, v => ∃ a vs, v = .ref a ∧ H a = some (.dT (ks.zip vs)) ∧ ks.length = vs.length ∧ (j = 0 → S a) ∧ Rqs (j - 1) ds vs
  | j, .ins C ns ds, v => ∃ a dx vs, v = .ref a ∧ H a = some (.ins C dx (ns.zip vs)) ∧ ns.length = vs.length ∧ (j = 0 → S a) ∧ Rqs (j - 1) ds vs
  | _, .obj a, v => v = .ref a
  | _, .scr ns, v => ∃ a, v = .ref a ∧ ScrAt K S H a ns
def Rqs : Nat → List D → List V → Prop
  | _, [], vs => vs = []
  | j, d :: ds, vs => ∃ v r, vs = v :: r ∧ Rq j d v ∧ Rqs j ds r
end
end

/-- the heap grows -/
def Grow (H H' : Hp) : Prop := ∀ a o, H a = some o → H' a = some o
theorem Grow.refl (H : Hp) : Grow H H := fun _ _ h => h
theorem Grow.trans {H H1 H2 : Hp} (a : Grow H H1) (b : Grow H1 H2) : Grow H H2 := fun c o h => b c o (a c o h)
theorem Grow.upd {H : Hp} {p : Addr} {o : HO} (h : H p = none) : Grow H (upd H p o) := fun a u e => by
  rw [upd_ne (ne_of_none e h)]; exact e
theorem Grow.dom {H H' : Hp} (g : Grow H H') {a : Addr} (h : H' a = none) : H a = none := by
  cases e : H a with
  | none => rfl
  | some o => rw [g a o e] at h; cases h
theorem SqT.stay {K : PySem.W.Frag} {H H' : Hp} {a : Addr} {xs : List V} (h : SqT K H a xs) (k : ∀ o, H a = some o → (∃ ys, o = .tup ys) ∨ (∃ ob u, o = .frz ob u) → H' a = some o) : SqT K H' a xs := by
  rcases h with (h | ⟨o, h⟩) | h
  · exact .inl (.inl (k _ h (.inl ⟨_, rfl⟩)))
  · exact .inl (.inr ⟨o, k _ h (.inr ⟨_, _, rfl⟩)⟩)
  · exact .inr h
theorem SqT.grow {K : PySem.W.Frag} {H H' : Hp} {a : Addr} {xs : List V} (h : SqT K H a xs) (g : Grow H H') : SqT K H' a xs := SqT.stay h fun o e _ => g a o e
theorem Rd.grow {H H' : Hp} {a : Addr} {u : HO} (h : Rd H a u) (g : Grow H H') : Rd H' a u := by
  rcases h with h | ⟨o, h⟩
  · exact .inl (g _ _ h)
  · exact .inr ⟨o, g _ _ h⟩

section
variable {K : PySem.W.Frag} {S S' : Addr → Prop} {H H' : Hp}
theorem Rqs.length : ∀ {ds : List D} {j : Nat} {vs : List V}, Rqs K S H j ds vs → ds.length = vs.length
  | [], _, _, h => by unfold Rqs at h; rw [h]; rfl
  | d :: ds, _, _, h => by
    unfold Rqs at h
    obtain ⟨v, r, rfl, _, h⟩ := h
    simp [Rqs.length h]
mutual
theorem Rq.stay (hs : ∀ a, S a → H a ≠ none → S' a) : ∀ (d : D) (j : Nat) (v : V), (∀ a o, H a = some o → (0 < j ∨ S a ∨ (∃ ys, o = .tup ys) ∨ (∃ ob u, o = .frz ob u)) → H' a = some o) → Rq K S H j d v → Rq K S' H' j d v
  | .non, _, _, _, h => by unfold Rq at h ⊢; exact h
  | .bl _, _, _, _, h => by unfold Rq at h ⊢; exact h
  | .int _, _, _, _, h => by unfold Rq at h ⊢; exact h
  | .str _, _, _, _, h => by unfold Rq at h ⊢; exact h
  | .obj _, _, _, _, h => by unfold Rq at h ⊢; exact h
  | .scr ns, j, v, k, h => by
    unfold Rq at h ⊢
    obtain ⟨a, e, h⟩ := h
    refine ⟨a, e, ?_⟩
    rcases h with ⟨h, s⟩ | ⟨o, h⟩ | h
    · exact .inl ⟨k _ _ h (.inr (.inl s)), hs a s (by rw [h]; simp)⟩
    · exact .inr (.inl ⟨o, k _ _ h (.inr (.inr (.inr ⟨_, _, rfl⟩)))⟩)
    · exact .inr (.inr h)
  | .tup ds, j, v, k, h => by
    unfold Rq at h ⊢
    obtain ⟨a, vs, e, t, r⟩ := h
    exact ⟨a, vs, e, k _ _ t (.inr (.inr (.inl ⟨_, rfl⟩))), Rqs.stay hs ds 0 vs (fun b o q z => k b o q (z.elim (fun y => absurd y (Nat.lt_irrefl _)) .inr)) r⟩
  | .lst ds, j, v, k, h => by
    unfold Rq at h ⊢
    obtain ⟨a, vs, e, t, s, r⟩ := h
    have z : 0 < j ∨ S a := by
      cases j with
      | zero => exact .inr (s rfl)
      | succ j => exact .inl (Nat.succ_pos _)
    exact ⟨a, vs, e, k _ _ t (z.imp id .inl), fun q => hs a (s q) (by rw [t]; simp), Rqs.stay hs ds (j - 1) vs (fun b o q y => k b o q (y.imp (fun y => by omega) id)) r⟩
  | .dk ks ds, j, v, k, h => by
    unfold Rq at h ⊢
    obtain ⟨a, vs, e, t, l, s, r⟩ := h
    have z : 0 < j ∨ S a := by
      cases j with
      | zero => exact .inr (s rfl)
      | succ j => exact .inl (Nat.succ_pos _)
    exact ⟨a, vs, e, k _ _ t (z.imp id .inl), l, fun q => hs a (s q) (by rw [t]; simp), Rqs.stay hs ds (j - 1) vs (fun b o q y => k b o q (y.imp (fun y => by omega) id)) r⟩
  | .dt ks ds, j, v, k, h => by
    unfold Rq at h ⊢
    obtain ⟨a, vs, e, t, l, s, r⟩ := h
    have z : 0 < j ∨ S a := by
      cases j with
      | zero => exact .inr (s rfl)
      | succ j => exact .inl (Nat.succ_pos _)
    exact ⟨a, vs, e, k _ _ t (z.imp id .inl), l, fun q => hs a (s q) (by rw [t]; simp), Rqs.stay hs ds (j - 1) vs (fun b o q y => k b o q (y.imp (fun y => by omega) id)) r⟩
  | .ins C ns ds, j, v, k, h => by
    unfold Rq at h ⊢
    obtain ⟨a, dx, vs, e, t, l, s, r⟩ := h
    have z : 0 < j ∨ S a := by
      cases j with
      | zero => exact .inr (s rfl)
      | succ j => exact .inl (Nat.succ_pos _)
    exact ⟨a, dx, vs, e, k _ _ t (z.imp id .inl), l, fun q => hs a (s q) (by rw [t]; simp), Rqs.stay hs ds (j - 1) vs (fun b o q y => k b o q (y.imp (fun y => by omega) id)) r⟩
theorem Rqs.stay (hs : ∀ a, S a → H a ≠ none → S' a) : ∀ (ds : List D) (j : Nat) (vs : List V), (∀ a o, H a = some o → (0 < j ∨ S a ∨ (∃ ys, o = .tup ys) ∨ (∃ ob u, o = .frz ob u)) → H' a = some o) → Rqs K S H j ds vs → Rqs K S' H' j ds vs
  | [], _, _, _, h => by unfold Rqs at h ⊢; exact h
  | d :: ds, j, vs, k, h => by
    unfold Rqs at h ⊢
    obtain ⟨v, r, e, h1, h2⟩ := h
    exact ⟨v, r, e, Rq.stay hs d j v k h1, Rqs.stay hs ds j r k h2⟩
end
theorem Rq.grow {d : D} {j : Nat} {v : V} (h : Rq K S H j d v) (g : Grow H H') (hs : ∀ a, S a → H a ≠ none → S' a) : Rq K S' H' j d v := Rq.stay hs d j v (fun a o e _ => g a o e) h
theorem Rqs.grow {ds : List D} {j : Nat} {vs : List V} (h : Rqs K S H j ds vs) (g : Grow H H') (hs : ∀ a, S a → H a ≠ none → S' a) : Rqs K S' H' j ds vs := Rqs.stay hs ds j vs (fun a o e _ => g a o e) h
mutual
theorem Rq.up : ∀ (d : D) {j j' : Nat} {v : V}, j ≤ j' → Rq K S H j d v → Rq K S H j' d v
  | .non, _, _, _, _, h => by unfold Rq at h ⊢; exact h
  | .bl _, _, _, _, _, h => by unfold Rq at h ⊢; exact h
  | .int _, _, _, _, _, h => by unfold Rq at h ⊢; exact h
  | .str _, _, _, _, _, h => by unfold Rq at h ⊢; exact h
  | .obj _, _, _, _, _, h => by unfold Rq at h ⊢; exact h
  | .scr _, _, _, _, _, h => by unfold Rq at h ⊢; exact h
  | .tup ds, _, _, _, _, h => by unfold Rq at h ⊢; exact h
  | .lst ds, j, j', v, l, h => by
    unfold Rq at h ⊢
    obtain ⟨a, vs, e, t, s, r⟩ := h
    exact ⟨a, vs, e, t, fun q => s (by omega), Rqs.up ds (by omega) r⟩
  | .dk ks ds, j, j', v, l, h => by
    unfold Rq at h ⊢
    obtain ⟨a, vs, e, t, x, s, r⟩ := h
    exact ⟨a, vs, e, t, x, fun q => s (by omega), Rqs.up ds (by omega) r⟩
  | .dt ks ds, j, j', v, l, h => by
    unfold Rq at h ⊢
    obtain ⟨a, vs, e, t, x, s, r⟩ := h
    exact ⟨a, vs, e, t, x, fun q => s (by omega), Rqs.up ds (by omega) r⟩
  | .ins C ns ds, j, j', v, l, h => by
    unfold Rq at h ⊢
    obtain ⟨a, dx, vs, e, t, x, s, r⟩ := h
    exact ⟨a, dx, vs, e, t, x, fun q => s (by omega), Rqs.up ds (by omega) r⟩
theorem Rqs.up : ∀ (ds : List D) {j j' : Nat} {vs : List V}, j ≤ j' → Rqs K S H j ds vs → Rqs K S H j' ds vs
  | [], _, _, _, _, h => by unfold Rqs at h ⊢; exact h
  | d :: ds, _, _, _, l, h => by
    unfold Rqs at h ⊢
    obtain ⟨v, r, e, h1, h2⟩ := h
    exact ⟨v, r, e, Rq.up d l h1, Rqs.up ds l h2⟩
end
theorem Rqs.get : ∀ {ds : List D} {j : Nat} {vs : List V} {i : Nat} {d : D}, Rqs K S H j ds vs → ds[i]? = some d → ∃ v, vs[i]? = some v ∧ Rq K S H j d v
  | [], _, _, _, _, _, e => by simp at e
  | d :: ds, j, vs, 0, d', h, e => by
    unfold Rqs at h
    obtain ⟨v, r, rfl, h1, _⟩ := h
    simp at e; subst e
    exact ⟨v, rfl, h1⟩
  | d :: ds, j, vs, i + 1, d', h, e => by
    unfold Rqs at h
    obtain ⟨v, r, rfl, _, h2⟩ := h
    obtain ⟨u, h3, h4⟩ := Rqs.get (i := i) h2 (by simpa using e)
    exact ⟨u, by simpa using h3, h4⟩
theorem Rqs.getV : ∀ {ds : List D} {j : Nat} {vs : List V} {i : Nat} {v : V}, Rqs K S H j ds vs → vs[i]? = some v → ∃ d, ds[i]? = some d ∧ Rq K S H j d v
  | [], _, _, _, _, h, e => by unfold Rqs at h; subst h; simp at e
  | d :: ds, j, vs, 0, v', h, e => by
    unfold Rqs at h
    obtain ⟨v, r, rfl, h1, _⟩ := h
    simp at e; subst e
    exact ⟨d, rfl, h1⟩
  | d :: ds, j, vs, i + 1, d', h, e => by
    unfold Rqs at h
    obtain ⟨v, r, rfl, _, h2⟩ := h
    obtain ⟨u, h3, h4⟩ := Rqs.getV (i := i) h2 (by simpa using e)
    exact ⟨u, by simpa using h3, h4⟩
theorem Rqs.append : ∀ {ds es : List D} {j : Nat} {vs us : List V}, Rqs K S H j ds vs → Rqs K S H j es us → Rqs K S H j (ds ++ es) (vs ++ us)
  | [], _, _, _, _, h, h' => by unfold Rqs at h; subst h; exact h'
  | d :: ds, es, j, vs, us, h, h' => by
    unfold Rqs at h
    obtain ⟨v, r, rfl, h1, h2⟩ := h
    show Rqs K S H j (d :: (ds ++ es)) (v :: (r ++ us))
    unfold Rqs
    exact ⟨v, _, rfl, h1, Rqs.append h2 h'⟩
theorem Rqs.nil {j : Nat} : Rqs K S H j [] [] := by unfold Rqs; rfl
theorem Rqs.cons {j : Nat} {d : D} {ds : List D} {v : V} {vs : List V} (h : Rq K S H j d v) (h' : Rqs K S H j ds vs) : Rqs K S H j (d :: ds) (v :: vs) := by
  unfold Rqs; exact ⟨v, vs, rfl, h, h'⟩
theorem Rqs.one {j : Nat} {d : D} {v : V} (h : Rq K S H j d v) : Rqs K S H j [d] [v] := .cons h .nil
theorem Rqs.inv {j : Nat} {d : D} {ds : List D} {vs : List V} (h : Rqs K S H j (d :: ds) vs) : ∃ v r, vs = v :: r ∧ Rq K S H j d v ∧ Rqs K S H j ds r := by unfold Rqs at h; exact h
theorem Rqs.inv0 {j : Nat} {vs : List V} (h : Rqs K S H j [] vs) : vs = [] := by unfold Rqs at h; exact h
theorem Rqs.of_get {j : Nat} : ∀ {ds : List D} {vs : List V}, ds.length = vs.length → (∀ (i : Nat) (d : D) (v : V), ds[i]? = some d → vs[i]? = some v → Rq K S H j d v) → Rqs K S H j ds vs
  | [], [], _, _ => .nil
  | d :: ds, v :: vs, hl, h => .cons (h 0 d v rfl rfl) (Rqs.of_get (by simpa using hl) fun i d' v' e1 e2 => h (i + 1) d' v' (by simpa using e1) (by simpa using e2))
theorem Rqs.set {j i : Nat} {ds : List D} {vs : List V} {d : D} {v : V} (h : Rqs K S H j ds vs) (r : Rq K S H j d v) : Rqs K S H j (ds.set i d) (vs.set i v) := by
  refine .of_get (by simp [h.length]) fun n d' v' e1 e2 => ?_
  by_cases hi : i = n
  · subst hi
    have l1 : i < ds.length := by
      have := (List.getElem?_eq_some_iff.mp e1).1
      simpa using this
    have l2 : i < vs.length := by rw [← h.length]; exact l1
    rw [List.getElem?_set_self l1] at e1
    rw [List.getElem?_set_self l2] at e2
    cases e1; cases e2; exact r
  · rw [List.getElem?_set_ne hi] at e1 e2
    obtain ⟨u, h1, h2⟩ := h.get e1
    rw [e2] at h1; cases h1; exact h2
theorem Rqs.take {j : Nat} (n : Nat) {ds : List D} {vs : List V} (h : Rqs K S H j ds vs) : Rqs K S H j (ds.take n) (vs.take n) := by
  refine .of_get (by simp [h.length]) fun i d' v' e1 e2 => ?_
  rw [List.getElem?_take] at e1 e2
  split at e1
  · rename_i hi
    rw [if_pos hi] at e2
    obtain ⟨u, h1, h2⟩ := h.get e1
    rw [e2] at h1; cases h1; exact h2
  · cases e1
theorem Rqs.drop {j : Nat} (n : Nat) {ds : List D} {vs : List V} (h : Rqs K S H j ds vs) : Rqs K S H j (ds.drop n) (vs.drop n) := by
  refine .of_get (by simp [h.length]) fun i d' v' e1 e2 => ?_
  rw [List.getElem?_drop] at e1 e2
  obtain ⟨u, h1, h2⟩ := h.get e1
  rw [e2] at h1; cases h1; exact h2
theorem Rqs.ints : ∀ {ns : List Int} {j : Nat} {vs : List V}, Rqs K S H j (ns.map .int) vs → vs = ns.map V.int
  | [], _, _, h => by have := h.inv0; simpa using this
  | n :: ns, _, _, h => by
    obtain ⟨v, r, rfl, h1, h2⟩ := h.inv
    unfold Rq at h1
    subst h1
    rw [Rqs.ints h2]; rfl
theorem Rqs.ofInts : ∀ {ns : List Int} {j : Nat}, Rqs K S H j (ns.map .int) (ns.map V.int)
  | [], _ => .nil
  | n :: ns, _ => .cons (by unfold Rq; rfl) Rqs.ofInts
end
end VL

set_option Elab.async false
set_option linter.all false
set_option maxRecDepth 100000
set_option maxHeartbeats 1000000
namespace VL
open PySem PySem.Spec PyProof.Rows L2

def OwsW (P : D → V → List Addr → Prop) : List D → List V → List Addr → Prop
  | [], vs, L => vs = [] ∧ L = []
  | d :: ds, vs, L => ∃ v r L1 L2, vs = v :: r ∧ L = L1 ++ L2 ∧ P d v L1 ∧ OwsW P ds r L2
/-- d lies at v, its containers to depth k are owned: they are L -/
def Ow (K : PySem.W.Frag) (S : Addr → Prop) (H : Hp) : Nat → D → V → List Addr → Prop
  | 0, d, v, L => L = [] ∧ Rq K S H 0 d v
  | k + 1, .lst ds, v, L => ∃ a vs L', v = .ref a ∧ H a = some (.lst vs) ∧ L = a :: L' ∧ OwsW (Ow K S H k) ds vs L'
  | k + 1, .dk ks ds, v, L => ∃ a vs L', v = .ref a ∧ H a = some (.dK (ks.zip vs)) ∧ ks.length = vs.length ∧ L = a :: L' ∧ OwsW (Ow K S H k) ds vs L'
  | k + 1, .dt ks ds, v, L => ∃ a vs L', v = .ref a ∧ H a = some (.dT (ks.zip vs)) ∧ ks.length = vs.length ∧ L = a :: L' ∧ OwsW (Ow K S H k) ds vs L'
  | k + 1, .ins C ns ds, v, L => ∃ a dx vs L', v = .ref a ∧ H a = some (.ins C dx (ns.zip vs)) ∧ ns.length = vs.length ∧ L = a :: L' ∧ OwsW (Ow K S H k) ds vs L'
  | _ + 1, d, v, L => L = [] ∧ Rq K S H 0 d v
def isM : HO → Prop
  | .lst _ => True
  | .dK _ => True
  | .dT _ => True
  | .ins _ _ _ => True
  | _ => False

section
variable {K : PySem.W.Frag} {S S' : Addr → Prop} {H H' : Hp}
theorem OwsW.mem {P : D → V → List Addr → Prop} {Z : Addr → Prop} (hP : ∀ d v L, P d v L → ∀ a ∈ L, Z a) : ∀ {ds : List D} {vs : List V} {L : List Addr}, OwsW P ds vs L → ∀ a ∈ L, Z a
  | [], _, _, h, a, ha => by unfold OwsW at h; rw [h.2] at ha; cases ha
  | d :: ds, _, _, h, a, ha => by
    unfold OwsW at h
    obtain ⟨v, r, L1, L2, rfl, rfl, h1, h2⟩ := h
    rcases List.mem_append.mp ha with ha | ha
    · exact hP _ _ _ h1 a ha
    · exact OwsW.mem hP h2 a ha
theorem Ow.mem : ∀ {k : Nat} {d : D} {v : V} {L : List Addr}, Ow K S H k d v L → ∀ a ∈ L, ∃ o, H a = some o ∧ isM o
  | 0, _, _, _, h, a, ha => by unfold Ow at h; rw [h.1] at ha; cases ha
  | k + 1, d, v, L, h, a, ha => by
    cases d with
    | lst ds =>
      unfold Ow at h
      obtain ⟨b, vs, L', rfl, hb, rfl, h2⟩ := h
      rcases List.mem_cons.mp ha with rfl | ha
      · exact ⟨_, hb, trivial⟩
      · exact OwsW.mem (fun _ _ _ q => Ow.mem q) h2 a ha
    | dk ks ds =>
      unfold Ow at h
      obtain ⟨b, vs, L', rfl, hb, _, rfl, h2⟩ := h
      rcases List.mem_cons.mp ha with rfl | ha
      · exact ⟨_, hb, trivial⟩
      · exact OwsW.mem (fun _ _ _ q => Ow.mem q) h2 a ha
    | dt ks ds =>
      unfold Ow at h
      obtain ⟨b, vs, L', rfl, hb, _, rfl, h2⟩ := h
      rcases List.mem_cons.mp ha with rfl | ha
      · exact ⟨_, hb, trivial⟩
      · exact OwsW.mem (fun _ _ _ q => Ow.mem q) h2 a ha
    | ins C ns ds =>
      unfold Ow at h
      obtain ⟨b, dx, vs, L', rfl, hb, _, rfl, h2⟩ := h
      rcases List.mem_cons.mp ha with rfl | ha
      · exact ⟨_, hb, trivial⟩
      · exact OwsW.mem (fun _ _ _ q => Ow.mem q) h2 a ha
    | non => unfold Ow at h; rw [h.1] at ha; cases ha
    | bl _ => unfold Ow at h; rw [h.1] at ha; cases ha
    | int _ => unfold Ow at h; rw [h.1] at ha; cases ha
    | str _ => unfold Ow at h; rw [h.1] at ha; cases ha
    | tup _ => unfold Ow at h; rw [h.1] at ha; cases ha
    | obj _ => unfold Ow at h; rw [h.1] at ha; cases ha
    | scr _ => unfold Ow at h; rw [h.1] at ha; cases ha
theorem OwsW.imp {P P' : D → V → List Addr → Prop} : ∀ {ds : List D} {vs : List V} {L : List Addr}, (∀ d v L1, (∀ a ∈ L1, a ∈ L) → P d v L1 → P' d v L1) → OwsW P ds vs L → OwsW P' ds vs L
  | [], _, _, _, h => by unfold OwsW at h ⊢; exact h
  | d :: ds, _, _, hP, h => by
    unfold OwsW at h ⊢
    obtain ⟨v, r, L1, L2, rfl, rfl, h1, h2⟩ := h
    exact ⟨v, r, L1, L2, rfl, rfl, hP _ _ _ (fun a ha => List.mem_append_left _ ha) h1, OwsW.imp (fun d v L hL q => hP d v L (fun a ha => List.mem_append_right _ (hL a ha)) q) h2⟩
theorem OwsW.rqs {P : D → V → List Addr → Prop} {S' : Addr → Prop} {j : Nat} : ∀ {ds : List D} {vs : List V} {L : List Addr}, (∀ d v L1, (∀ a ∈ L1, a ∈ L) → P d v L1 → Rq K S' H j d v) → OwsW P ds vs L → Rqs K S' H j ds vs
  | [], _, _, _, h => by unfold OwsW at h; rw [h.1]; exact .nil
  | d :: ds, _, _, hP, h => by
    unfold OwsW at h
    obtain ⟨v, r, L1, L2, rfl, rfl, h1, h2⟩ := h
    exact .cons (hP _ _ _ (fun a ha => List.mem_append_left _ ha) h1) (OwsW.rqs (fun d v L hL q => hP d v L (fun a ha => List.mem_append_right _ (hL a ha)) q) h2)
theorem Ow.stay (hs : ∀ a, S a → H a ≠ none → S' a) : ∀ {k : Nat} {d : D} {v : V} {L : List Addr}, (∀ a o, H a = some o → (S a ∨ a ∈ L ∨ (∃ ys, o = .tup ys) ∨ (∃ ob u, o = .frz ob u)) → H' a = some o) → Ow K S H k d v L → Ow K S' H' k d v L
  | 0, d, v, L, k, h => by
    unfold Ow at h ⊢
    exact ⟨h.1, Rq.stay hs d 0 v (fun a o e z => k a o e (by rcases z with z | z | z; exact absurd z (Nat.lt_irrefl _); exact .inl z; exact .inr (.inr z))) h.2⟩
  | n + 1, d, v, L, k, h => by
    have atom : (L = [] ∧ Rq K S H 0 d v) → (L = [] ∧ Rq K S' H' 0 d v) := fun h =>
      ⟨h.1, Rq.stay hs d 0 v (fun a o e z => k a o e (by rcases z with z | z | z; exact absurd z (Nat.lt_irrefl _); exact .inl z; exact .inr (.inr z))) h.2⟩
    have more : ∀ {a L'}, L = a :: L' → ∀ d v L1, (∀ b ∈ L1, b ∈ L') → Ow K S H n d v L1 → Ow K S' H' n d v L1 := fun {a L'} e d v L1 hL q =>
      Ow.stay hs (fun b o eb z => k b o eb (z.imp id (.imp (fun y => by rw [e]; exact List.mem_cons_of_mem _ (hL b y)) id))) q
    cases d with
    | lst ds =>
      unfold Ow at h ⊢
      obtain ⟨b, vs, L', rfl, hb, rfl, h2⟩ := h
      exact ⟨b, vs, L', rfl, k _ _ hb (.inr (.inl List.mem_cons_self)), rfl, h2.imp (more rfl)⟩
    | dk ks ds =>
      unfold Ow at h ⊢
      obtain ⟨b, vs, L', rfl, hb, hl, rfl, h2⟩ := h
      exact ⟨b, vs, L', rfl, k _ _ hb (.inr (.inl List.mem_cons_self)), hl, rfl, h2.imp (more rfl)⟩
    | dt ks ds =>
      unfold Ow at h ⊢
      obtain ⟨b, vs, L', rfl, hb, hl, rfl, h2⟩ := h
      exact ⟨b, vs, L', rfl, k _ _ hb (.inr (.inl List.mem_cons_self)), hl, rfl, h2.imp (more rfl)⟩
    | ins C ns ds =>
      unfold Ow at h ⊢
      obtain ⟨b, dx, vs, L', rfl, hb, hl, rfl, h2⟩ := h
      exact ⟨b, dx, vs, L', rfl, k _ _ hb (.inr (.inl List.mem_cons_self)), hl, rfl, h2.imp (more rfl)⟩
    | non => unfold Ow at h ⊢; exact atom h
    | bl _ => unfold Ow at h ⊢; exact atom h
    | int _ => unfold Ow at h ⊢; exact atom h
    | str _ => unfold Ow at h ⊢; exact atom h
    | tup _ => unfold Ow at h ⊢; exact atom h
    | obj _ => unfold Ow at h ⊢; exact atom h
    | scr _ => unfold Ow at h ⊢; exact atom h
theorem Ow.grow {k : Nat} {d : D} {v : V} {L : List Addr} (h : Ow K S H k d v L) (g : Grow H H') (hs : ∀ a, S a → H a ≠ none → S' a) : Ow K S' H' k d v L := Ow.stay hs (fun a o e _ => g a o e) h
/-- read, owned or not -/
theorem Ow.peek : ∀ {k : Nat} {d : D} {v : V} {L : List Addr}, Ow K S H k d v L → Rq K S H k d v
  | 0, _, _, _, h => by unfold Ow at h; exact h.2
  | n + 1, d, v, L, h => by
    cases d with
    | lst ds =>
      unfold Ow at h
      obtain ⟨b, vs, L', rfl, hb, rfl, h2⟩ := h
      unfold Rq
      exact ⟨b, vs, rfl, hb, fun e => absurd e (Nat.succ_ne_zero _), h2.rqs fun _ _ _ _ q => Ow.peek q⟩
    | dk ks ds =>
      unfold Ow at h
      obtain ⟨b, vs, L', rfl, hb, hl, rfl, h2⟩ := h
      unfold Rq
      exact ⟨b, vs, rfl, hb, hl, fun e => absurd e (Nat.succ_ne_zero _), h2.rqs fun _ _ _ _ q => Ow.peek q⟩
    | dt ks ds =>
      unfold Ow at h
      obtain ⟨b, vs, L', rfl, hb, hl, rfl, h2⟩ := h
      unfold Rq
      exact ⟨b, vs, rfl, hb, hl, fun e => absurd e (Nat.succ_ne_zero _), h2.rqs fun _ _ _ _ q => Ow.peek q⟩
    | ins C ns ds =>
      unfold Ow at h
      obtain ⟨b, dx, vs, L', rfl, hb, hl, rfl, h2⟩ := h
      unfold Rq
      exact ⟨b, dx, vs, rfl, hb, hl, fun e => absurd e (Nat.succ_ne_zero _), h2.rqs fun _ _ _ _ q => Ow.peek q⟩
    | non => unfold Ow at h; exact h.2.up _ (Nat.zero_le _)
    | bl _ => unfold Ow at h; exact h.2.up _ (Nat.zero_le _)
    | int _ => unfold Ow at h; exact h.2.up _ (Nat.zero_le _)
    | str _ => unfold Ow at h; exact h.2.up _ (Nat.zero_le _)
    | tup _ => unfold Ow at h; exact h.2.up _ (Nat.zero_le _)
    | obj _ => unfold Ow at h; exact h.2.up _ (Nat.zero_le _)
    | scr _ => unfold Ow at h; exact h.2.up _ (Nat.zero_le _)
/-- what was owned is shared from now on -/
theorem Ow.share (hs : ∀ a, S a → H a ≠ none → S' a) : ∀ {k : Nat} {d : D} {v : V} {L : List Addr}, (∀ a ∈ L, S' a) → Ow K S H k d v L → Rq K S' H 0 d v
  | 0, _, _, _, _, h => by unfold Ow at h; exact h.2.grow (Grow.refl H) hs
  | n + 1, d, v, L, hL, h => by
    cases d with
    | lst ds =>
      unfold Ow at h
      obtain ⟨b, vs, L', rfl, hb, rfl, h2⟩ := h
      unfold Rq
      exact ⟨b, vs, rfl, hb, fun _ => hL b List.mem_cons_self, h2.rqs fun _ _ _ h3 q => Ow.share hs (fun a ha => hL a (List.mem_cons_of_mem _ (h3 a ha))) q⟩
    | dk ks ds =>
      unfold Ow at h
      obtain ⟨b, vs, L', rfl, hb, hl, rfl, h2⟩ := h
      unfold Rq
      exact ⟨b, vs, rfl, hb, hl, fun _ => hL b List.mem_cons_self, h2.rqs fun _ _ _ h3 q => Ow.share hs (fun a ha => hL a (List.mem_cons_of_mem _ (h3 a ha))) q⟩
    | dt ks ds =>
      unfold Ow at h
      obtain ⟨b, vs, L', rfl, hb, hl, rfl, h2⟩ := h
      unfold Rq
      exact ⟨b, vs, rfl, hb, hl, fun _ => hL b List.mem_cons_self, h2.rqs fun _ _ _ h3 q => Ow.share hs (fun a ha => hL a (List.mem_cons_of_mem _ (h3 a ha))) q⟩
    | ins C ns ds =>
      unfold Ow at h
      obtain ⟨b, dx, vs, L', rfl, hb, hl, rfl, h2⟩ := h
      unfold Rq
      exact ⟨b, dx, vs, rfl, hb, hl, fun _ => hL b List.mem_cons_self, h2.rqs fun _ _ _ h3 q => Ow.share hs (fun a ha => hL a (List.mem_cons_of_mem _ (h3 a ha))) q⟩
    | non => unfold Ow at h; exact h.2.grow (Grow.refl H) hs
    | bl _ => unfold Ow at h; exact h.2.grow (Grow.refl H) hs
    | int _ => unfold Ow at h; exact h.2.grow (Grow.refl H) hs
    | str _ => unfold Ow at h; exact h.2.grow (Grow.refl H) hs
    | tup _ => unfold Ow at h; exact h.2.grow (Grow.refl H) hs
    | obj _ => unfold Ow at h; exact h.2.grow (Grow.refl H) hs
    | scr _ => unfold Ow at h; exact h.2.grow (Grow.refl H) hs
theorem Ow.zero {d : D} {v : V} (h : Rq K S H 0 d v) : Ow K S H 0 d v [] := by unfold Ow; exact ⟨rfl, h⟩
theorem Ow.of_zero {d : D} {v : V} {L : List Addr} (h : Ow K S H 0 d v L) : L = [] ∧ Rq K S H 0 d v := by unfold Ow at h; exact h
theorem OwsW.zeros : ∀ {ds : List D} {vs : List V}, Rqs K S H 0 ds vs → OwsW (Ow K S H 0) ds vs []
  | [], _, h => by unfold OwsW; exact ⟨h.inv0, rfl⟩
  | d :: ds, _, h => by
    obtain ⟨v, r, rfl, h1, h2⟩ := h.inv
    unfold OwsW
    exact ⟨v, r, [], [], rfl, rfl, .zero h1, .zeros h2⟩
theorem OwsW.of_zeros {ds : List D} {vs : List V} {L : List Addr} (h : OwsW (Ow K S H 0) ds vs L) : L = [] ∧ Rqs K S H 0 ds vs := by
  refine ⟨?_, h.rqs fun _ _ _ _ q => q.of_zero.2⟩
  rw [List.eq_nil_iff_forall_not_mem]
  exact fun a ha => OwsW.mem (Z := fun _ => False) (fun _ _ _ q b hb => by rw [q.of_zero.1] at hb; cases hb) h a ha
end

/-! ### the state of a frame -/
/-- shared: neither another's nor a slot's own -/
def Sh (R : Addr → Prop) (Ls : Nat → List Addr) : Addr → Prop := fun a => ¬ R a ∧ ∀ i, a ∉ Ls i
def RU (R : Addr → Prop) (L : List Addr) : Addr → Prop := fun a => R a ∨ a ∈ L
/-- slots: R others' own, m how deep a slot owns, Ls what it owns -/
structure SR (K : PySem.W.Frag) (R : Addr → Prop) (H : Hp) (σ : L2.St) (ρ : Rho) (m : List Nat) (Ls : Nat → List Addr) : Prop where
  len : ρ.length = σ.length
  mlen : m.length = ρ.length
  val : ∀ i d, ρ[i]? = some (some d) → ∃ v, σ[i]? = some (some v) ∧ Ow K (Sh R Ls) H (m.getD i 0) d v (Ls i)
  emp : ∀ i, (∀ d, ρ[i]? ≠ some (some d)) → Ls i = []
  nd : ∀ i, (Ls i).Nodup
  dj : ∀ i j a, a ∈ Ls i → a ∈ Ls j → i = j
  sep : ∀ i a, a ∈ Ls i → ¬ R a
  dom : ∀ a, R a → H a ≠ none
/-- from H to H': what is not of the slots is kept; what is owned then was owned, or is new -/
structure Step (Ls Ls' : Nat → List Addr) (Lt : List Addr) (H H' : Hp) : Prop where
  keep : ∀ a o, H a = some o → (∀ i, a ∉ Ls i) → H' a = some o
  dom : ∀ a, H a ≠ none → H' a ≠ none
  new : ∀ a, ((∃ i, a ∈ Ls' i) ∨ a ∈ Lt) → (∃ i, a ∈ Ls i) ∨ H a = none
section
variable {K : PySem.W.Frag} {R : Addr → Prop} {H H' H1 H2 : Hp} {σ : L2.St} {ρ : Rho} {m : List Nat} {Ls Ls' Ls1 Ls2 : Nat → List Addr} {Lt : List Addr}
theorem SR.mem (s : SR K R H σ ρ m Ls) {i : Nat} {a : Addr} (h : a ∈ Ls i) : ∃ o, H a = some o ∧ isM o := by
  by_cases q : ∃ d, ρ[i]? = some (some d)
  · obtain ⟨d, q⟩ := q
    obtain ⟨v, _, w⟩ := s.val i d q
    exact w.mem a h
  · rw [s.emp i fun d e => q ⟨d, e⟩] at h
    cases h
theorem SR.fresh (s : SR K R H σ ρ m Ls) {p : Addr} (h : H p = none) : Sh R Ls p :=
  ⟨fun r => s.dom p r h, fun i hi => by obtain ⟨o, e, _⟩ := s.mem hi; rw [h] at e; cases e⟩
theorem SR.grow (s : SR K R H σ ρ m Ls) (g : Grow H H') : SR K R H' σ ρ m Ls :=
  ⟨s.len, s.mlen, fun i d e => by
    obtain ⟨v, h1, h2⟩ := s.val i d e
    exact ⟨v, h1, h2.grow g fun _ z _ => z⟩, s.emp, s.nd, s.dj, s.sep, fun a r e => s.dom a r (g.dom e)⟩
theorem Step.grow (g : Grow H H') : Step Ls Ls [] H H' := ⟨fun a o e _ => g a o e, fun a n e => n (g.dom e), fun a h => .inl (h.elim id fun z => nomatch z)⟩
theorem Step.refl (H : Hp) : Step Ls Ls [] H H := Step.grow (Grow.refl H)
theorem Step.trans (a : Step Ls Ls1 [] H H1) (b : Step Ls1 Ls2 Lt H1 H2) : Step Ls Ls2 Lt H H2 where
  keep := fun c o e n => b.keep c o (a.keep c o e n) fun i hi => by
    rcases a.new c (.inl ⟨i, hi⟩) with ⟨j, z⟩ | z
    · exact n j z
    · rw [z] at e; cases e
  dom := fun c n => b.dom c (a.dom c n)
  new := fun c h => by
    rcases b.new c h with h | h
    · exact a.new c (.inl h)
    · refine .inr ?_
      cases q : H c with
      | none => rfl
      | some o => exact absurd h (a.dom c (by rw [q]; simp))
theorem Step.sub {Lt' : List Addr} (a : Step Ls Ls1 Lt H H1) (h : ∀ c, ((∃ i, c ∈ Ls2 i) ∨ c ∈ Lt') → (∃ i, c ∈ Ls1 i) ∨ c ∈ Lt) : Step Ls Ls2 Lt' H H1 := ⟨a.keep, a.dom, fun c hc => a.new c (h c hc)⟩
theorem SR.sh (s : SR K R H σ ρ m Ls) (t : Step Ls Ls' Lt H H') {a : Addr} (h : Sh R Ls a) (n : H a ≠ none) : Sh (RU R Lt) Ls' a := by
  refine ⟨fun z => ?_, fun i hi => ?_⟩
  · rcases z with z | z
    · exact h.1 z
    · rcases t.new a (.inr z) with ⟨i, hi⟩ | e
      · exact h.2 i hi
      · exact n e
  · rcases t.new a (.inl ⟨i, hi⟩) with ⟨j, hj⟩ | e
    · exact h.2 j hj
    · exact n e
theorem SR.kept (s : SR K R H σ ρ m Ls) (t : Step Ls Ls' Lt H H') {a : Addr} {o : HO} (e : H a = some o) (z : Sh R Ls a ∨ (∃ ys, o = .tup ys) ∨ (∃ ob u, o = .frz ob u)) : H' a = some o := by
  refine t.keep a o e fun i hi => ?_
  obtain ⟨u, eu, mu⟩ := s.mem hi
  rw [e] at eu; cases eu
  rcases z with z | ⟨ys, rfl⟩ | ⟨ob, u, rfl⟩
  · exact z.2 i hi
  · exact mu
  · exact mu
/-- what is shared stays through a step -/
theorem SR.rq (s : SR K R H σ ρ m Ls) (t : Step Ls Ls' Lt H H') {d : D} {v : V} (h : Rq K (Sh R Ls) H 0 d v) : Rq K (Sh (RU R Lt) Ls') H' 0 d v :=
  Rq.stay (fun a z n => s.sh t z n) d 0 v (fun a o e z => s.kept t e (z.elim (fun y => absurd y (Nat.lt_irrefl _)) id)) h
theorem SR.rqs (s : SR K R H σ ρ m Ls) (t : Step Ls Ls' Lt H H') {ds : List D} {vs : List V} (h : Rqs K (Sh R Ls) H 0 ds vs) : Rqs K (Sh (RU R Lt) Ls') H' 0 ds vs :=
  Rqs.stay (fun a z n => s.sh t z n) ds 0 vs (fun a o e z => s.kept t e (z.elim (fun y => absurd y (Nat.lt_irrefl _)) id)) h
theorem ru_nil : RU R [] = R := by funext a; simp [RU]
theorem SR.rq0 (s : SR K R H σ ρ m Ls) (t : Step Ls Ls' [] H H') {d : D} {v : V} (h : Rq K (Sh R Ls) H 0 d v) : Rq K (Sh R Ls') H' 0 d v := by
  have := s.rq t h; rwa [ru_nil] at this
theorem SR.rqs0 (s : SR K R H σ ρ m Ls) (t : Step Ls Ls' [] H H') {ds : List D} {vs : List V} (h : Rqs K (Sh R Ls) H 0 ds vs) : Rqs K (Sh R Ls') H' 0 ds vs := by
  have := s.rqs t h; rwa [ru_nil] at this
/-- what slot i owns, anew -/
def put (Ls : Nat → List Addr) (i : Nat) (L : List Addr) : Nat → List Addr := fun j => if j = i then L else Ls j
theorem put_same {i : Nat} {L : List Addr} : put Ls i L i = L := if_pos rfl
theorem put_ne {i j : Nat} {L : List Addr} (h : j ≠ i) : put Ls i L j = Ls j := if_neg h
theorem getD_set_self {m : List Nat} {i k : Nat} (h : i < m.length) : (m.set i k).getD i 0 = k := by simp [List.getD, List.getElem?_set_self h]
theorem getD_set_ne {m : List Nat} {i j k : Nat} (h : i ≠ j) : (m.set i k).getD j 0 = m.getD j 0 := by simp [List.getD, List.getElem?_set_ne h]
/-- a slot is stored -/
theorem SR.set {i k : Nat} {d : D} {v : V} (s : SR K (RU R Lt) H σ ρ m Ls) (o : Ow K (Sh (RU R Lt) Ls) H k d v Lt) (nd : Lt.Nodup) (nr : ∀ a ∈ Lt, ¬ R a) (hi : i < ρ.length) :
    SR K R H (σ.set i (some v)) (ρ.set i (some d)) (m.set i k) (put Ls i Lt) := by
  have sub : ∀ a, Sh (RU R Lt) Ls a → H a ≠ none → Sh R (put Ls i Lt) a := fun a z _ => ⟨fun r => z.1 (.inl r), fun j hj => by
    by_cases e : j = i
    · subst e; rw [put_same] at hj; exact z.1 (.inr hj)
    · rw [put_ne e] at hj; exact z.2 j hj⟩
  have him : i < m.length := by rw [s.mlen]; exact hi
  have his : i < σ.length := by rw [← s.len]; exact hi
  refine ⟨by simp [s.len], by simp [s.mlen], fun j e hj => ?_, fun j hj => ?_, fun j => ?_, fun j j' a h1 h2 => ?_, fun j a ha => ?_, fun a r => s.dom a (.inl r)⟩
  · by_cases q : i = j
    · subst q
      rw [List.getElem?_set_self hi] at hj
      cases hj
      rw [put_same, getD_set_self him]
      exact ⟨v, List.getElem?_set_self his, o.grow (Grow.refl H) sub⟩
    · rw [List.getElem?_set_ne q] at hj
      obtain ⟨u, h1, h2⟩ := s.val j e hj
      rw [put_ne (Ne.symm q), getD_set_ne q]
      exact ⟨u, by rw [List.getElem?_set_ne q]; exact h1, h2.grow (Grow.refl H) sub⟩
  · by_cases q : i = j
    · subst q
      exact absurd (List.getElem?_set_self hi) (hj d)
    · rw [put_ne (Ne.symm q)]
      exact s.emp j fun e he => hj e (by rw [List.getElem?_set_ne q]; exact he)
  · by_cases q : j = i
    · subst q; rw [put_same]; exact nd
    · rw [put_ne q]; exact s.nd j
  · by_cases q : j = i
    · by_cases q' : j' = i
      · rw [q, q']
      · subst q
        rw [put_same] at h1; rw [put_ne q'] at h2
        exact absurd (.inr h1) (s.sep j' a h2)
    · by_cases q' : j' = i
      · subst q'
        rw [put_same] at h2; rw [put_ne q] at h1
        exact absurd (.inr h2) (s.sep j a h1)
      · rw [put_ne q] at h1; rw [put_ne q'] at h2
        exact s.dj j j' a h1 h2
  · by_cases q : j = i
    · subst q; rw [put_same] at ha; exact nr a ha
    · rw [put_ne q] at ha; exact fun r => s.sep j a ha (.inl r)
theorem SR.set0 {i : Nat} {d : D} {v : V} (s : SR K R H σ ρ m Ls) (o : Rq K (Sh R Ls) H 0 d v) (hi : i < ρ.length) :
    SR K R H (σ.set i (some v)) (ρ.set i (some d)) (m.set i 0) (put Ls i []) := by
  have s' : SR K (RU R []) H σ ρ m Ls := by rw [ru_nil]; exact s
  refine s'.set (by rw [ru_nil]; exact .zero o) List.nodup_nil (fun a ha => nomatch ha) hi
theorem Step.put {i : Nat} (t : Step Ls Ls' Lt H H') : Step Ls (put Ls' i Lt) [] H H' := t.sub fun c h => by
  rcases h with ⟨j, hj⟩ | h
  · by_cases q : j = i
    · subst q; rw [put_same] at hj; exact .inr hj
    · rw [put_ne q] at hj; exact .inl ⟨j, hj⟩
  · cases h
/-- what slots own by a lesser mask -/
def cutL (m' : List Nat) (Ls : Nat → List Addr) : Nat → List Addr := fun i => if m'.getD i 0 = 0 then [] else Ls i
theorem cut_of {m' : List Nat} {j : Nat} {a : Addr} (h : a ∈ cutL m' Ls j) : a ∈ Ls j ∧ m'.getD j 0 ≠ 0 := by
  unfold cutL at h
  split at h
  · cases h
  · rename_i q; exact ⟨h, q⟩
theorem cut_zero {m' : List Nat} {j : Nat} (q : m'.getD j 0 = 0) : cutL m' Ls j = [] := if_pos q
theorem cut_pos {m' : List Nat} {j : Nat} (q : ¬ m'.getD j 0 = 0) : cutL m' Ls j = Ls j := if_neg q
def MW (m m' : List Nat) : Prop := m'.length = m.length ∧ ∀ i, m'.getD i 0 = m.getD i 0 ∨ m'.getD i 0 = 0
/-- what a slot owns is shared from now on -/
theorem SR.weak {m' : List Nat} (s : SR K R H σ ρ m Ls) (w : MW m m') : SR K R H σ ρ m' (cutL m' Ls) := by
  have sub : ∀ a, Sh R Ls a → H a ≠ none → Sh R (cutL m' Ls) a := fun a z _ => ⟨z.1, fun j hj => z.2 j (cut_of hj).1⟩
  refine ⟨s.len, w.1.trans s.mlen, fun j d e => ?_, fun j e => ?_, fun j => ?_, fun j j' a h1 h2 => s.dj j j' a (cut_of h1).1 (cut_of h2).1, fun j a h => s.sep j a (cut_of h).1, s.dom⟩
  · obtain ⟨v, h1, h2⟩ := s.val j d e
    refine ⟨v, h1, ?_⟩
    by_cases q : m'.getD j 0 = 0
    · rw [q, cut_zero q]
      refine .zero (h2.share sub fun a ha => ⟨s.sep j a ha, fun j' hj' => ?_⟩)
      have := s.dj j j' a ha (cut_of hj').1
      subst this
      exact (cut_of hj').2 q
    · rw [cut_pos q]
      rcases w.2 j with z | z
      · rw [z]; exact h2.grow (Grow.refl H) sub
      · exact absurd z q
  · by_cases q : m'.getD j 0 = 0
    · exact cut_zero q
    · rw [cut_pos q]; exact s.emp j e
  · by_cases q : m'.getD j 0 = 0
    · rw [cut_zero q]; exact List.nodup_nil
    · rw [cut_pos q]; exact s.nd j
theorem Step.weak {m' : List Nat} (t : Step Ls Ls' Lt H H') : Step Ls (cutL m' Ls') Lt H H' := t.sub fun c h => h.imp (fun ⟨j, hj⟩ => ⟨j, (cut_of hj).1⟩) id
end
end VL

set_option Elab.async false
set_option linter.all false
set_option maxRecDepth 100000
set_option maxHeartbeats 1000000
namespace VL
open PySem PySem.Spec PyProof.Rows L2
abbrev Sg := L2.St

/-! ### universal readings -/
def UE (X : Cx) (e : Expr) : TE := fun σ H Q => ∀ pins s, Inv X pins σ H s → wpAny (model X.prog X.w) X.A (eval e X.env) (EP X pins σ Q) X.xe s
def UT (X : Cx) (e : Expr) : TT := fun σ H Q => ∀ pins s, Inv X pins σ H s → wpAny (model X.prog X.w) X.A (isTrue e X.env (eval e X.env)) (TP X pins σ Q) X.xe s
def UW (X : Cx) (e : Expr) : TT := fun σ H Q => ∀ whole pins s, Inv X pins σ H s → wpAny (model X.prog X.w) X.A (isTrue e X.env whole) (TP X pins σ Q) X.xe s
def US (X : Cx) (st : Stmt) : TS := fun D σ H => ∀ pins s, Inv X pins σ H s → wpAny (model X.prog X.w) X.A (exec st X.env) (SP X pins D) X.xe s
def USs (X : Cx) (st : List Stmt) : TS := fun D σ H => ∀ pins s, Inv X pins σ H s → wpAny (model X.prog X.w) X.A (execs st X.env) (SP X pins D) X.xe s
theorem peU {X : Cx} {e : Expr} : PE X e (UE X e) := ⟨fun pins s _ _ _ I h => h pins s I⟩
theorem ptU {X : Cx} {e : Expr} : PT X e (UT X e) := ⟨fun pins s _ _ _ I h => h pins s I⟩
theorem pwU {X : Cx} {e : Expr} : PW X e (UW X e) := ⟨fun wh pins s _ _ _ I h => h wh pins s I⟩
theorem psU {X : Cx} {e : Stmt} : PS X e (US X e) := ⟨fun pins s _ _ _ I h => h pins s I⟩
theorem pssU {X : Cx} {e : List Stmt} : PSs X e (USs X e) := ⟨fun pins s _ _ _ I h => h pins s I⟩
theorem UE.of {X : Cx} {e : Expr} {t : TE} {σ : Sg} {H : Hp} {Q : VK} (h : PE X e t) (q : t σ H Q) : UE X e σ H Q := fun pins s I => h.run pins s σ H Q I q
theorem UT.of {X : Cx} {e : Expr} {t : TT} {σ : Sg} {H : Hp} {Q : Bool → Hp → Prop} (h : PT X e t) (q : t σ H Q) : UT X e σ H Q := fun pins s I => h.run pins s σ H Q I q
theorem UW.of {X : Cx} {e : Expr} {t : TT} {σ : Sg} {H : Hp} {Q : Bool → Hp → Prop} (h : PW X e t) (q : t σ H Q) : UW X e σ H Q := fun wh pins s I => h.run wh pins s σ H Q I q
theorem UW.ut {X : Cx} {e : Expr} {σ : Sg} {H : Hp} {Q : Bool → Hp → Prop} (q : UW X e σ H Q) : UT X e σ H Q := fun pins s I => q _ pins s I
theorem US.of {X : Cx} {e : Stmt} {t : TS} {σ : Sg} {H : Hp} {Q : Ends} (h : PS X e t) (q : t Q σ H) : US X e Q σ H := fun pins s I => h.run pins s σ H Q I q
theorem USs.of {X : Cx} {e : List Stmt} {t : TS} {σ : Sg} {H : Hp} {Q : Ends} (h : PSs X e t) (q : t Q σ H) : USs X e Q σ H := fun pins s I => h.run pins s σ H Q I q
/-- operands from the left -/
def UN (X : Cx) : List Expr → TA
  | [] => fun _ H Q => Q [] H
  | e :: es => fun σ H Q => UE X e σ H fun v H1 => UN X es σ H1 fun vs H2 => Q (v :: vs) H2
def NoStar (X : Cx) : List Expr → Prop
  | [] => True
  | e :: es => starEach (e :: es) X.env = (false, eval e X.env) :: starEach es X.env ∧ NoStar X es
theorem paN {X : Cx} : ∀ {es : List Expr}, NoStar X es → PA X es (UN X es)
  | [], _ => pa_nil
  | _ :: _, h => pa_cons peU (paN h.2) h.1

/-! ### the context of a frame -/
structure Gd (X : Cx) (n : Nat) : Prop where
  calm : X.calm = true
  nd : X.N.Nodup
  room : Room n X.A
/-- the exception that lies at cls, dd is x -/
def ExIs (K : PySem.W.Frag) (x : Exn) (cls : Value) (dd : Option Addr) (H : Hp) : Prop :=
  cls = .ref x.cls ∧ ((x.ns = [] ∧ dd = none) ∨ ∃ d vs, dd = some d ∧ H d = some (.xd (x.ns.zip vs)) ∧ x.ns.length = vs.length ∧ Rqs K (fun _ => True) H 0 x.vs vs)

/-! ### pure expressions -/
def SP (X : Cx) (m : List Nat) (j : Nat) (e : Expr) (f : Rho → Rs D) : Prop :=
  ∀ (R : Addr → Prop) (σ : Sg) (H : Hp) (ρ : Rho) (Ls : Nat → List Addr) (Q : VK) (W : WX), SR X.K R H σ ρ m Ls → Takes X W →
    (match f ρ with
      | .ok d => ∀ v H', Grow H H' → Rq X.K (Sh R Ls) H' j d v → Q v H'
      | .err x => ∀ cls dd H', Grow H H' → ExIs X.K x cls dd H' → W cls dd σ H'
      | .bad => False) → UE X e σ H Q
/-- .. whose result is new and owned -/
def SF (X : Cx) (m : List Nat) (k : Nat) (e : Expr) (f : Rho → Rs D) : Prop :=
  ∀ (R : Addr → Prop) (σ : Sg) (H : Hp) (ρ : Rho) (Ls : Nat → List Addr) (Q : VK) (W : WX), SR X.K R H σ ρ m Ls → Takes X W →
    (match f ρ with
      | .ok d => ∀ v H' Lt, Grow H H' → Ow X.K (Sh (RU R Lt) Ls) H' k d v Lt → Lt.Nodup → (∀ a ∈ Lt, H a = none) → Q v H'
      | .err x => ∀ cls dd H', Grow H H' → ExIs X.K x cls dd H' → W cls dd σ H'
      | .bad => False) → UE X e σ H Q
/-- .. of a reading -/
def SFr (X : Cx) (rd : TE) (m : List Nat) (k : Nat) (f : Rho → Rs D) : Prop :=
  ∀ (R : Addr → Prop) (σ : Sg) (H : Hp) (ρ : Rho) (Ls : Nat → List Addr) (Q : VK) (W : WX), SR X.K R H σ ρ m Ls → Takes X W →
    (match f ρ with
      | .ok d => ∀ v H' Lt, Grow H H' → Ow X.K (Sh (RU R Lt) Ls) H' k d v Lt → Lt.Nodup → (∀ a ∈ Lt, H a = none) → Q v H'
      | .err x => ∀ cls dd H', Grow H H' → ExIs X.K x cls dd H' → W cls dd σ H'
      | .bad => False) → rd σ H Q
def SB (X : Cx) (m : List Nat) (e : Expr) (f : Rho → Rs Bool) : Prop :=
  ∀ (R : Addr → Prop) (σ : Sg) (H : Hp) (ρ : Rho) (Ls : Nat → List Addr) (Q : Bool → Hp → Prop) (W : WX), SR X.K R H σ ρ m Ls → Takes X W →
    (match f ρ with
      | .ok b => ∀ H', Grow H H' → Q b H'
      | .err x => ∀ cls dd H', Grow H H' → ExIs X.K x cls dd H' → W cls dd σ H'
      | .bad => False) → UT X e σ H Q
def SW (X : Cx) (m : List Nat) (e : Expr) (f : Rho → Rs Bool) : Prop :=
  ∀ (R : Addr → Prop) (σ : Sg) (H : Hp) (ρ : Rho) (Ls : Nat → List Addr) (Q : Bool → Hp → Prop) (W : WX), SR X.K R H σ ρ m Ls → Takes X W →
    (match f ρ with
      | .ok b => ∀ H', Grow H H' → Q b H'
      | .err x => ∀ cls dd H', Grow H H' → ExIs X.K x cls dd H' → W cls dd σ H'
      | .bad => False) → UW X e σ H Q
def RqL (K : PySem.W.Frag) (S : Addr → Prop) (H : Hp) : List Nat → List D → List V → Prop
  | [], ds, vs => ds = [] ∧ vs = []
  | j :: js, ds, vs => ∃ d dr v vr, ds = d :: dr ∧ vs = v :: vr ∧ Rq K S H j d v ∧ RqL K S H js dr vr
def SPs (X : Cx) (m : List Nat) (js : List Nat) (es : List Expr) (f : Rho → Rs (List D)) : Prop :=
  ∀ (R : Addr → Prop) (σ : Sg) (H : Hp) (ρ : Rho) (Ls : Nat → List Addr) (Q : List V → Hp → Prop) (W : WX), SR X.K R H σ ρ m Ls → Takes X W →
    (match f ρ with
      | .ok ds => ∀ vs H', Grow H H' → RqL X.K (Sh R Ls) H' js ds vs → Q vs H'
      | .err x => ∀ cls dd H', Grow H H' → ExIs X.K x cls dd H' → W cls dd σ H'
      | .bad => False) → UN X es σ H Q
def ofO {α : Type} : Option α → Rs α
  | some a => .ok a
  | none => .bad
@[simp] theorem ofO_some {α : Type} (a : α) : ofO (some a) = .ok a := rfl
@[simp] theorem ofO_none {α : Type} : ofO (none : Option α) = .bad := rfl
/-- how a construct evaluates: its operands, then r of their values -/
def EvN (X : Cx) (e : Expr) (es : List Expr) (r : List V → Hp → VK → Prop) : Prop := ∀ σ H Q, UN X es σ H (fun vs H' => r vs H' Q) → UE X e σ H Q
def EvT (X : Cx) (e : Expr) (es : List Expr) (r : List V → Hp → VK → Prop) : Prop := ∀ σ H Q, UN X es σ H (fun vs H' => r vs H' fun x H2 => ∃ k, x = .bl k ∧ Q k H2) → UT X e σ H Q
/-- an operation by data -/
def Op (K : PySem.W.Frag) (js : List Nat) (j : Nat) (r : List V → Hp → VK → Prop) (g : List D → Option D) : Prop :=
  ∀ (S : Addr → Prop) (H : Hp) (ds : List D) (vs : List V) (z : D) (Q : VK), (∀ p, H p = none → S p) → RqL K S H js ds vs → g ds = some z →
    (∀ w H', Grow H H' → Rq K S H' j z w → Q w H') → r vs H Q
/-- .. that makes a new list -/
def OpL (K : PySem.W.Frag) (js : List Nat) (r : List V → Hp → VK → Prop) (g : List D → Option (List D)) : Prop :=
  ∀ (S : Addr → Prop) (H : Hp) (ds : List D) (vs : List V) (zs : List D) (Q : VK), (∀ p, H p = none → S p) → RqL K S H js ds vs → g ds = some zs →
    (∀ p us H', Grow H H' → H p = none → H' p = some (.lst us) → Rqs K S H 0 zs us → Q (.ref p) H') → r vs H Q
section
variable {X : Cx} {m : List Nat} {e : Expr} {es : List Expr}
theorem RqL.grow {K : PySem.W.Frag} {S S' : Addr → Prop} {H H' : Hp} (g : Grow H H') (hs : ∀ a, S a → H a ≠ none → S' a) : ∀ {js : List Nat} {ds : List D} {vs : List V}, RqL K S H js ds vs → RqL K S' H' js ds vs
  | [], _, _, h => h
  | j :: js, _, _, h => by
    obtain ⟨d, dr, v, vr, rfl, rfl, h1, h2⟩ := h
    exact ⟨d, dr, v, vr, rfl, rfl, h1.grow g hs, RqL.grow g hs h2⟩
theorem sps_nil : SPs X m [] [] (fun _ => .ok []) := fun R σ H ρ Ls Q W s tk h => h [] H (Grow.refl H) ⟨rfl, rfl⟩
def fCons (f : Rho → Rs D) (fs : Rho → Rs (List D)) : Rho → Rs (List D) := fun ρ => do
  let d ← f ρ
  let ds ← fs ρ
  pure (d :: ds)
theorem sps_cons {j : Nat} {js : List Nat} {f : Rho → Rs D} {fs : Rho → Rs (List D)} (h1 : SP X m j e f) (h2 : SPs X m js es fs) : SPs X m (j :: js) (e :: es) (fCons f fs) := by
  intro R σ H ρ Ls Q W s tk h
  unfold fCons at h
  refine h1 R σ H ρ Ls _ W s tk ?_
  cases e1 : f ρ with
  | bad => rw [e1] at h; exact h
  | err x => rw [e1] at h; exact h
  | ok d =>
    rw [e1] at h
    intro v H1 g1 r1
    refine h2 R σ H1 ρ Ls _ W (s.grow g1) tk ?_
    cases e2 : fs ρ with
    | bad => rw [e2] at h; exact h
    | err x => rw [e2] at h; exact fun cls dd H2 g2 q => h cls dd H2 (g1.trans g2) q
    | ok ds =>
      rw [e2] at h
      exact fun vs H2 g2 r2 => h (v :: vs) H2 (g1.trans g2) ⟨d, ds, v, vs, rfl, rfl, r1.grow g2 (fun _ z _ => z), r2⟩
def fOp (fs : Rho → Rs (List D)) (g : List D → Option D) : Rho → Rs D := fun ρ => do
  let ds ← fs ρ
  ofO (g ds)
theorem sp_op {js : List Nat} {j : Nat} {r : List V → Hp → VK → Prop} {fs : Rho → Rs (List D)} {g : List D → Option D} (hE : EvN X e es r) (hA : SPs X m js es fs) (hO : Op X.K js j r g) : SP X m j e (fOp fs g) := by
  intro R σ H ρ Ls Q W s tk h
  unfold fOp at h
  refine hE σ H Q (hA R σ H ρ Ls _ W s tk ?_)
  cases e1 : fs ρ with
  | bad => rw [e1] at h; exact h
  | err x => rw [e1] at h; exact h
  | ok ds =>
    rw [e1] at h
    intro vs H1 g1 r1
    cases e2 : g ds with
    | none => simp only [ok_bind, e2] at h; exact h.elim
    | some z =>
      simp only [ok_bind, e2] at h
      exact hO _ H1 ds vs z Q (fun p hp => s.fresh (g1.dom hp)) r1 e2 fun w H2 g2 q => h w H2 (g1.trans g2) q
def fOpB (fs : Rho → Rs (List D)) (g : List D → Option Bool) : Rho → Rs Bool := fun ρ => do
  let ds ← fs ρ
  ofO (g ds)
theorem sb_op {js : List Nat} {r : List V → Hp → VK → Prop} {fs : Rho → Rs (List D)} {g : List D → Option Bool} (hE : EvT X e es r) (hA : SPs X m js es fs) (hO : Op X.K js 0 r (fun ds => (g ds).map D.bl)) : SB X m e (fOpB fs g) := by
  intro R σ H ρ Ls Q W s tk h
  unfold fOpB at h
  refine hE σ H Q (hA R σ H ρ Ls _ W s tk ?_)
  cases e1 : fs ρ with
  | bad => rw [e1] at h; exact h
  | err x => rw [e1] at h; exact h
  | ok ds =>
    rw [e1] at h
    intro vs H1 g1 r1
    cases e2 : g ds with
    | none => simp only [ok_bind, e2] at h; exact h.elim
    | some z =>
      simp only [ok_bind, e2] at h
      refine hO _ H1 ds vs (.bl z) _ (fun p hp => s.fresh (g1.dom hp)) r1 (by show (g ds).map D.bl = some (.bl z); rw [e2]; rfl) fun w H2 g2 q => ?_
      unfold Rq at q
      exact ⟨z, q, h H2 (g1.trans g2)⟩
/-- a new list -/
def fOpL (fs : Rho → Rs (List D)) (g : List D → Option (List D)) : Rho → Rs D := fun ρ => do
  let ds ← fs ρ
  let zs ← ofO (g ds)
  pure (.lst zs)
theorem sf_op {js : List Nat} {r : List V → Hp → VK → Prop} {fs : Rho → Rs (List D)} {g : List D → Option (List D)} (hE : EvN X e es r) (hA : SPs X m js es fs) (hO : OpL X.K js r g) : SF X m 1 e (fOpL fs g) := by
  intro R σ H ρ Ls Q W s tk h
  unfold fOpL at h
  refine hE σ H Q (hA R σ H ρ Ls _ W s tk ?_)
  cases e1 : fs ρ with
  | bad => rw [e1] at h; exact h
  | err x => rw [e1] at h; exact h
  | ok ds =>
    rw [e1] at h
    intro vs H1 g1 r1
    cases e2 : g ds with
    | none => simp only [ok_bind, e2] at h; exact h.elim
    | some zs =>
      simp only [ok_bind, e2, ofO_some, pure_ok] at h
      refine hO (Sh R Ls) H1 ds vs zs _ (fun p hp => s.fresh (g1.dom hp)) r1 e2 fun p us H2 g2 hp0 hp q => ?_
      have hpH := g1.dom hp0
      refine h (.ref p) H2 [p] (g1.trans g2) ?_ (by simp) (fun a ha => by simp at ha; subst ha; exact hpH)
      unfold Ow
      refine ⟨p, us, [], rfl, hp, rfl, OwsW.zeros (q.grow g2 fun a z n => ⟨fun w => ?_, z.2⟩)⟩
      rcases w with w | w
      · exact z.1 w
      · simp at w; subst w; exact n hp0
/-- owned results are shared from now on -/
theorem Ow.sh0 {K : PySem.W.Frag} {R : Addr → Prop} {H : Hp} {σ : Sg} {ρ : Rho} {Ls : Nat → List Addr} {H' : Hp} {k : Nat} {d : D} {v : V} {Lt : List Addr} (s : SR K R H σ ρ m Ls) (h : Ow K (Sh (RU R Lt) Ls) H' k d v Lt) (n : ∀ a ∈ Lt, H a = none) : Rq K (Sh R Ls) H' 0 d v :=
  h.share (fun a z _ => ⟨fun r => z.1 (.inl r), z.2⟩) fun a ha => s.fresh (n a ha)
theorem sp_of_sf {k : Nat} {f : Rho → Rs D} (h : SF X m k e f) : SP X m 0 e f := by
  intro R σ H ρ Ls Q W s tk q
  refine h R σ H ρ Ls Q W s tk ?_
  cases e1 : f ρ with
  | bad => rw [e1] at q; exact q
  | err x => rw [e1] at q; exact q
  | ok d =>
    rw [e1] at q
    exact fun v H' Lt g o nd n => q v H' g (Ow.sh0 s o n)
theorem sf_of_sp {f : Rho → Rs D} (h : SP X m 0 e f) : SF X m 0 e f := by
  intro R σ H ρ Ls Q W s tk q
  refine h R σ H ρ Ls Q W s tk ?_
  cases e1 : f ρ with
  | bad => rw [e1] at q; exact q
  | err x => rw [e1] at q; exact q
  | ok d =>
    rw [e1] at q
    exact fun v H' g o => q v H' [] g (by rw [ru_nil]; exact .zero o) List.nodup_nil fun a ha => nomatch ha
theorem sp_up {j j' : Nat} {f : Rho → Rs D} (h : SP X m j e f) (l : j ≤ j') : SP X m j' e f := by
  intro R σ H ρ Ls Q W s tk q
  refine h R σ H ρ Ls Q W s tk ?_
  cases e1 : f ρ with
  | bad => rw [e1] at q; exact q
  | err x => rw [e1] at q; exact q
  | ok d =>
    rw [e1] at q
    exact fun v H' g o => q v H' g (o.up _ l)
end
end VL

set_option Elab.async false
set_option linter.all false
set_option maxRecDepth 100000
set_option maxHeartbeats 1000000
namespace VL
open PySem PySem.Spec PyProof.Rows L2

section
variable {K : PySem.W.Frag} {S : Addr → Prop} {H : Hp}
theorem RqL.one {i : Nat} {ds : List D} {vs : List V} (h : RqL K S H [i] ds vs) : ∃ d x, ds = [d] ∧ vs = [x] ∧ Rq K S H i d x := by
  obtain ⟨d, dr, v, vr, rfl, rfl, h1, rfl, rfl⟩ := h
  exact ⟨d, v, rfl, rfl, h1⟩
theorem RqL.two {i j : Nat} {ds : List D} {vs : List V} (h : RqL K S H [i, j] ds vs) : ∃ d e x y, ds = [d, e] ∧ vs = [x, y] ∧ Rq K S H i d x ∧ Rq K S H j e y := by
  obtain ⟨d, dr, v, vr, rfl, rfl, h1, h3⟩ := h
  obtain ⟨e, y, rfl, rfl, h4⟩ := RqL.one h3
  exact ⟨d, e, v, y, rfl, rfl, h1, h4⟩
theorem RqL.three {i j k : Nat} {ds : List D} {vs : List V} (h : RqL K S H [i, j, k] ds vs) : ∃ d e f x y z, ds = [d, e, f] ∧ vs = [x, y, z] ∧ Rq K S H i d x ∧ Rq K S H j e y ∧ Rq K S H k f z := by
  obtain ⟨d, dr, v, vr, rfl, rfl, h1, h5⟩ := h
  obtain ⟨e, f, y, z, rfl, rfl, h6, h7⟩ := RqL.two h5
  exact ⟨d, e, f, v, y, z, rfl, rfl, h1, h6, h7⟩
theorem Rq.int {j : Nat} {i : Int} {v : V} (h : Rq K S H j (.int i) v) : v = .int i := by unfold Rq at h; exact h
theorem Rq.bl {j : Nat} {i : Bool} {v : V} (h : Rq K S H j (.bl i) v) : v = .bl i := by unfold Rq at h; exact h
theorem Rq.str {j : Nat} {i : Str} {v : V} (h : Rq K S H j (.str i) v) : v = .str i := by unfold Rq at h; exact h
theorem Rq.non {j : Nat} {v : V} (h : Rq K S H j .non v) : v = .non := by unfold Rq at h; exact h
theorem Rq.obj {j : Nat} {a : Addr} {v : V} (h : Rq K S H j (.obj a) v) : v = .ref a := by unfold Rq at h; exact h
theorem Rq.tup {j : Nat} {ds : List D} {v : V} (h : Rq K S H j (.tup ds) v) : ∃ a vs, v = .ref a ∧ H a = some (.tup vs) ∧ Rqs K S H 0 ds vs := by unfold Rq at h; exact h
theorem Rq.lst {j : Nat} {ds : List D} {v : V} (h : Rq K S H j (.lst ds) v) : ∃ a vs, v = .ref a ∧ H a = some (.lst vs) ∧ (j = 0 → S a) ∧ Rqs K S H (j - 1) ds vs := by unfold Rq at h; exact h
theorem Rq.scr {j : Nat} {ns : List Int} {v : V} (h : Rq K S H j (.scr ns) v) : ∃ a, v = .ref a ∧ ScrAt K S H a ns := by unfold Rq at h; exact h
theorem Rq.dk {j : Nat} {ks : List Key} {ds : List D} {v : V} (h : Rq K S H j (.dk ks ds) v) : ∃ a vs, v = .ref a ∧ H a = some (.dK (ks.zip vs)) ∧ ks.length = vs.length ∧ (j = 0 → S a) ∧ Rqs K S H (j - 1) ds vs := by unfold Rq at h; exact h
theorem Rq.dt {j : Nat} {ks : List (List Key)} {ds : List D} {v : V} (h : Rq K S H j (.dt ks ds) v) : ∃ a vs, v = .ref a ∧ H a = some (.dT (ks.zip vs)) ∧ ks.length = vs.length ∧ (j = 0 → S a) ∧ Rqs K S H (j - 1) ds vs := by unfold Rq at h; exact h
theorem Rq.ins {j : Nat} {C : Addr} {ns : List Str} {ds : List D} {v : V} (h : Rq K S H j (.ins C ns ds) v) : ∃ a dx vs, v = .ref a ∧ H a = some (.ins C dx (ns.zip vs)) ∧ ns.length = vs.length ∧ (j = 0 → S a) ∧ Rqs K S H (j - 1) ds vs := by unfold Rq at h; exact h
theorem rq_int {j : Nat} {i : Int} : Rq K S H j (.int i) (.int i) := by unfold Rq; rfl
theorem rq_bl {j : Nat} {i : Bool} : Rq K S H j (.bl i) (.bl i) := by unfold Rq; rfl
theorem rq_str {j : Nat} {i : Str} : Rq K S H j (.str i) (.str i) := by unfold Rq; rfl
theorem rq_non {j : Nat} : Rq K S H j .non .non := by unfold Rq; rfl
theorem rq_tup {j : Nat} {ds : List D} {a : Addr} {vs : List V} (h1 : H a = some (.tup vs)) (h2 : Rqs K S H 0 ds vs) : Rq K S H j (.tup ds) (.ref a) := by unfold Rq; exact ⟨a, vs, rfl, h1, h2⟩
theorem rq_lst {ds : List D} {a : Addr} {vs : List V} (h1 : H a = some (.lst vs)) (h : S a) (h2 : Rqs K S H 0 ds vs) : Rq K S H 0 (.lst ds) (.ref a) := by unfold Rq; exact ⟨a, vs, rfl, h1, fun _ => h, h2⟩
/-- a new tuple, list -/
theorem new_tup {j : Nat} {ds : List D} {p : Addr} {vs : List V} (hp : H p = none) (h2 : Rqs K S H 0 ds vs) : Rq K S (upd H p (.tup vs)) j (.tup ds) (.ref p) := rq_tup upd_same (h2.grow (Grow.upd hp) fun _ z _ => z)
theorem new_lst {ds : List D} {p : Addr} {vs : List V} (hp : H p = none) (s : S p) (h2 : Rqs K S H 0 ds vs) : Rq K S (upd H p (.lst vs)) 0 (.lst ds) (.ref p) := rq_lst upd_same s (h2.grow (Grow.upd hp) fun _ z _ => z)
end

/-! ### names, constants -/
section
variable {X : Cx} {m : List Nat} {pos : Pos}
def eVar (i : Nat) : Rho → Rs D := fun ρ => match ρ[i]? with
  | some (some d) => .ok d
  | _ => .bad
theorem sp_var (i : Nat) {j : Nat} {x : Str} (hj : m.getD i 0 ≤ j := by decide) (hN : X.N[i]? = some x := by rfl) (hv : Vis X.env.scope x := by first | exact Or.inl rfl | exact Or.inr (Or.inl rfl) | exact Or.inr (Or.inr rfl))
    (hd : (x == ("__debug__" : Str)) = false := by decide +kernel) (hcd : (x == ("__classdict__" : Str)) = false := by decide +kernel) : SP X m j (.Name x pos) (eVar i) := by
  intro R σ H ρ Ls Q W s tk h
  unfold eVar at h
  cases e : ρ[i]? with
  | none => rw [e] at h; exact h.elim
  | some o =>
    cases o with
    | none => rw [e] at h; exact h.elim
    | some d =>
      rw [e] at h
      obtain ⟨v, h1, h2⟩ := s.val i d e
      exact UE.of (pe_var hN hv hd hcd) ⟨v, h1, h v H (Grow.refl H) (h2.peek.up _ hj)⟩
def eC (d : D) : Rho → Rs D := fun _ => .ok d
theorem sp_int {n : Int} {k j : Nat} : SP X m j (.Constant (.int n) k pos) (eC (.int n)) := fun R σ H ρ Ls Q W s tk h => UE.of pe_int (h _ H (Grow.refl H) rq_int)
theorem sp_bl {n : Bool} {k j : Nat} : SP X m j (.Constant (.bool n) k pos) (eC (.bl n)) := fun R σ H ρ Ls Q W s tk h => UE.of pe_bl (h _ H (Grow.refl H) rq_bl)
theorem sp_non {k j : Nat} : SP X m j (.Constant .none k pos) (eC .non) := fun R σ H ρ Ls Q W s tk h => UE.of pe_non (h _ H (Grow.refl H) rq_non)
theorem sp_str {x : Str} {k j : Nat} : SP X m j (.Constant (.str x) k pos) (eC (.str x)) := fun R σ H ρ Ls Q W s tk h => UE.of pe_str (h _ H (Grow.refl H) rq_str)
/-- a module's name: an int, a def, a class -/
theorem sp_globI {x : Str} {i : Int} {t : Tok} {j : Nat} (hg : Gl X x) (hm : X.mg x = some (.int i t)) (hdb : (x == ("__debug__" : Str)) = false := by decide +kernel) : SP X m j (.Name x pos) (eC (.int i)) := fun R σ H ρ Ls Q W s tk h =>
  UE.of (pe_glob (v := .int i) hg hm ⟨t, rfl⟩ (hd := hdb)) (h _ H (Grow.refl H) rq_int)
theorem sp_globR {x : Str} {a : Addr} {j : Nat} (hg : Gl X x) (hm : X.mg x = some (.ref a)) (hdb : (x == ("__debug__" : Str)) = false := by decide +kernel) : SP X m j (.Name x pos) (eC (.obj a)) := fun R σ H ρ Ls Q W s tk h =>
  UE.of (pe_glob (v := .ref a) hg hm rfl (hd := hdb)) (h _ H (Grow.refl H) (by unfold Rq; rfl))
end

theorem UE.mono {X : Cx} {e : Expr} {σ : Sg} {H : Hp} {Q Q' : VK} (h : UE X e σ H Q) (k : ∀ v H, Q v H → Q' v H) : UE X e σ H Q' := fun pins s I =>
  thn (h pins s I) fun _ _ ⟨v, H', I', r, q⟩ => ⟨v, H', I', r, k v H' q⟩
theorem UT.mono {X : Cx} {e : Expr} {σ : Sg} {H : Hp} {Q Q' : Bool → Hp → Prop} (h : UT X e σ H Q) (k : ∀ v H, Q v H → Q' v H) : UT X e σ H Q' := fun pins s I =>
  thn (h pins s I) fun _ _ ⟨H', I', q⟩ => ⟨H', I', k _ H' q⟩
theorem un1 {X : Cx} {a : Expr} {σ : Sg} {H : Hp} {Q : List V → Hp → Prop} (h : UN X [a] σ H Q) : UE X a σ H fun v H1 => Q [v] H1 := h
theorem un2 {X : Cx} {a b : Expr} {σ : Sg} {H : Hp} {Q : List V → Hp → Prop} (h : UN X [a, b] σ H Q) : UE X a σ H fun v H1 => UE X b σ H1 fun u H2 => Q [v, u] H2 := h
/-! ### operators -/
def r2 (r : R2) : List V → Hp → VK → Prop := fun vs H Q => ∃ x y, vs = [x, y] ∧ r x y H Q
def r1 (r : V → Hp → VK → Prop) : List V → Hp → VK → Prop := fun vs H Q => ∃ x, vs = [x] ∧ r x H Q
def UR (X : Cx) (f : Value → Value → Sem Value) : R2 := fun x y H Q => ∃ r, OpR X f r ∧ r x y H Q
def UU (X : Cx) (f : Value → Sem Value) : V → Hp → VK → Prop := fun x H Q => ∃ r, UnR X f r ∧ r x H Q
section
variable {X : Cx} {m : List Nat} {pos : Pos} {a b c : Expr}
theorem urR {f : Value → Value → Sem Value} : OpR X f (UR X f) := by
  intro pins s σ H x y v u Q I rx ry h
  obtain ⟨r, hr, h⟩ := h
  exact hr pins s σ H x y v u Q I rx ry h
theorem uuR {f : Value → Sem Value} : UnR X f (UU X f) := by
  intro pins s σ H x v Q I rx h
  obtain ⟨r, hr, h⟩ := h
  exact hr pins s σ H x v Q I rx h
theorem ev_bin {op : Operator} : EvN X (.BinOp a op b pos) [a, b] (r2 (UR X (binaryOp op))) := by
  intro σ H Q h
  refine UE.of (pe_op urR peU peU) ((un2 h).mono fun v H1 h1 => h1.mono fun u H2 h2 => ?_)
  obtain ⟨x, y, e, q⟩ := h2
  cases e
  exact q
theorem ev_un {op : UnaryOp} : EvN X (.UnaryOp op a pos) [a] (r1 (UU X (unaryOp op))) := by
  intro σ H Q h
  refine UE.of (pe_un uuR peU) ((un1 h).mono fun v H1 h1 => ?_)
  obtain ⟨x, e, q⟩ := h1
  cases e
  exact q
theorem ev_cmp {op : CmpOp} (hm : behindInMarks op b = false) : EvN X (.Compare a [op] [b] pos) [a, b] (r2 (UR X (compareOp op))) := by
  intro σ H Q h
  refine UE.of (pe_cmpR urR peU peU hm) ((un2 h).mono fun v H1 h1 => h1.mono fun u H2 h2 => ?_)
  obtain ⟨x, y, e, q⟩ := h2
  cases e
  exact q
theorem evt_cmp {op : CmpOp} (hm : behindInMarks op b = false) : EvT X (.Compare a [op] [b] pos) [a, b] (r2 (UR X (compareOp op))) := by
  intro σ H Q h
  refine UT.of (pt_cmpR urR peU peU hm) ((un2 h).mono fun v H1 h1 => h1.mono fun u H2 h2 => ?_)
  obtain ⟨x, y, e, q⟩ := h2
  cases e
  exact q
end
end VL

set_option Elab.async false
set_option linter.all false
set_option maxRecDepth 100000
set_option maxHeartbeats 1000000
namespace VL
open PySem PySem.Spec PyProof.Rows L2

section
variable {K : PySem.W.Frag} {S : Addr → Prop} {H : Hp}
/-- a list or tuple whose items are shared -/
theorem Rq.sq1 {ds : List D} {v : V} (h : Rq K S H 1 (.lst ds) v) : ∃ a vs, v = .ref a ∧ H a = some (.lst vs) ∧ Rqs K S H 0 ds vs := by
  obtain ⟨a, vs, e, h1, _, h2⟩ := h.lst
  exact ⟨a, vs, e, h1, h2⟩
end

/-! ### equality -/
mutual
def toPy : D → PyData
  | .bl b => .bool b
  | .int i => .int i
  | .str x => .str x
  | .tup ds => .tuple (toPys ds)
  | .lst ds => .list (toPys ds)
  | .non => .none
  | .dk _ _ => .none
  | .dt _ _ => .none
  | .ins _ _ _ => .none
  | .obj _ => .none
  | .scr _ => .none
def toPys : List D → List PyData
  | [] => []
  | d :: ds => toPy d :: toPys ds
end
/-- plain data, so deep at most -/
def dok : Nat → D → Bool
  | _, .non => true
  | _, .bl _ => true
  | _, .int _ => true
  | _, .str x => PyData.strOk x
  | n + 1, .tup ds => ds.all (dok n)
  | n + 1, .lst ds => ds.all (dok n)
  | _, _ => false
theorem toPys_map : ∀ ds : List D, toPys ds = ds.map toPy
  | [] => by unfold toPys; rfl
  | d :: ds => by unfold toPys; rw [toPys_map ds]; rfl
theorem canAll {l : List PyData} (h : ∀ x ∈ l, x.canLay0 = true) : PyData.canLayAll0 l = true := by
  induction l with
  | nil => unfold PyData.canLayAll0; rfl
  | cons a l ih =>
    unfold PyData.canLayAll0
    rw [h a List.mem_cons_self, ih fun x hx => h x (List.mem_cons_of_mem _ hx)]; rfl
theorem depAll {n : Nat} {l : List PyData} (h : ∀ x ∈ l, x.depth ≤ n) : PyData.depthAll l ≤ n := by
  induction l with
  | nil => unfold PyData.depthAll; exact Nat.zero_le _
  | cons a l ih =>
    unfold PyData.depthAll
    exact Nat.max_le.mpr ⟨h a List.mem_cons_self, ih fun x hx => h x (List.mem_cons_of_mem _ hx)⟩
theorem dok_py : ∀ {n : Nat} {d : D}, dok n d = true → (toPy d).canLay0 = true ∧ (toPy d).depth ≤ n
  | n, .non, _ => by unfold toPy; simp [PyData.canLay0, PyData.depth]
  | n, .bl _, _ => by unfold toPy; simp [PyData.canLay0, PyData.depth]
  | n, .int _, _ => by unfold toPy; simp [PyData.canLay0, PyData.depth]
  | n, .str x, h => by
    unfold dok at h
    unfold toPy
    exact ⟨by unfold PyData.canLay0; exact h, by unfold PyData.depth; exact Nat.zero_le _⟩
  | n + 1, .tup ds, h => by
    unfold dok at h
    rw [List.all_eq_true] at h
    unfold toPy
    rw [toPys_map]
    refine ⟨?_, ?_⟩
    · unfold PyData.canLay0
      exact canAll fun x hx => by obtain ⟨d, hd, rfl⟩ := List.mem_map.mp hx; exact (dok_py (h d hd)).1
    · unfold PyData.depth
      exact Nat.succ_le_succ (depAll fun x hx => by obtain ⟨d, hd, rfl⟩ := List.mem_map.mp hx; exact (dok_py (h d hd)).2)
  | n + 1, .lst ds, h => by
    unfold dok at h
    rw [List.all_eq_true] at h
    unfold toPy
    rw [toPys_map]
    refine ⟨?_, ?_⟩
    · unfold PyData.canLay0
      exact canAll fun x hx => by obtain ⟨d, hd, rfl⟩ := List.mem_map.mp hx; exact (dok_py (h d hd)).1
    · unfold PyData.depth
      exact Nat.succ_le_succ (depAll fun x hx => by obtain ⟨d, hd, rfl⟩ := List.mem_map.mp hx; exact (dok_py (h d hd)).2)
  | n, .dk _ _, h => by unfold dok at h; cases h
  | n, .dt _ _, h => by unfold dok at h; cases h
  | n, .ins _ _ _, h => by unfold dok at h; cases h
  | n, .obj _, h => by unfold dok at h; cases h
  | n, .scr _, h => by unfold dok at h; cases h
  | 0, .tup _, h => by unfold dok at h; cases h
  | 0, .lst _, h => by unfold dok at h; cases h
theorem dok_shaped {d : D} (h : dok 64 d = true) : SeqAt.shaped (toPy d) = true := by
  obtain ⟨h1, h2⟩ := dok_py h
  unfold SeqAt.shaped
  rw [h1, decide_eq_true h2]; rfl
section
variable {K : PySem.W.Frag} {S : Addr → Prop} {H : Hp}
theorem dpAll {P : D → V → Prop} (hP : ∀ d v, P d v → Dp K H v (toPy d)) : ∀ {ds : List D} {vs : List V}, ds.length = vs.length → (∀ (i : Nat) (d : D) (v : V), ds[i]? = some d → vs[i]? = some v → P d v) → DpAll K H vs (toPys ds)
  | [], [], _, _ => by unfold toPys; exact .nil
  | d :: ds, v :: vs, hl, h => by
    unfold toPys
    exact .cons (hP d v (h 0 d v rfl rfl)) (dpAll hP (by simpa using hl) fun i d' v' e1 e2 => h (i + 1) d' v' (by simpa using e1) (by simpa using e2))
theorem Rq.dp : ∀ {n : Nat} {d : D} {j : Nat} {v : V}, dok n d = true → Rq K S H j d v → Dp K H v (toPy d)
  | n, .non, j, v, _, h => by rw [h.non]; unfold toPy; exact .non
  | n, .bl b, j, v, _, h => by rw [h.bl]; unfold toPy; exact .bl b
  | n, .int i, j, v, _, h => by rw [h.int]; unfold toPy; exact .int i
  | n, .str x, j, v, _, h => by rw [h.str]; unfold toPy; exact .str x
  | n + 1, .tup ds, j, v, hd, h => by
    unfold dok at hd
    rw [List.all_eq_true] at hd
    obtain ⟨a, vs, rfl, h1, h2⟩ := h.tup
    unfold toPy
    refine .tup (.of h1) (dpAll (P := fun d v => dok n d = true ∧ Rq K S H 0 d v) (fun d v q => q.2.dp q.1) h2.length fun i d v e1 e2 => ?_)
    obtain ⟨u, e3, r⟩ := h2.get e1
    rw [e2] at e3; cases e3
    exact ⟨hd d (List.mem_of_getElem? e1), r⟩
  | n + 1, .lst ds, j, v, hd, h => by
    unfold dok at hd
    rw [List.all_eq_true] at hd
    obtain ⟨a, vs, rfl, h1, _, h2⟩ := h.lst
    unfold toPy
    refine .lst (.of h1) (dpAll (P := fun d v => dok n d = true ∧ Rq K S H (j - 1) d v) (fun d v q => q.2.dp q.1) h2.length fun i d v e1 e2 => ?_)
    obtain ⟨u, e3, r⟩ := h2.get e1
    rw [e2] at e3; cases e3
    exact ⟨hd d (List.mem_of_getElem? e1), r⟩
  | n, .dk _ _, j, v, h, _ => by unfold dok at h; cases h
  | n, .dt _ _, j, v, h, _ => by unfold dok at h; cases h
  | n, .ins _ _ _, j, v, h, _ => by unfold dok at h; cases h
  | n, .obj _, j, v, h, _ => by unfold dok at h; cases h
  | n, .scr _, j, v, h, _ => by unfold dok at h; cases h
  | 0, .tup _, j, v, h, _ => by unfold dok at h; cases h
  | 0, .lst _, j, v, h, _ => by unfold dok at h; cases h
end
def deq (a b : D) : Bool := PyData.eqv (toPy a) (toPy b)

/-! ### the operators by data -/
def gAdd : List D → Option D
  | [.int a, .int b] => some (.int (a + b))
  | [.str a, .str b] => if a.length + b.length ≤ sizeLine then some (.str (a ++ b)) else none
  | [.lst a, .lst b] => if a.length + b.length ≤ sizeLine then some (.lst (a ++ b)) else none
  | [.tup a, .tup b] => if a.length + b.length ≤ sizeLine then some (.tup (a ++ b)) else none
  | [.int a, .bl b] => some (.int (a + b2i b))
  | _ => none
def gAddL : List D → Option (List D)
  | [.lst a, .lst b] => if a.length + b.length ≤ sizeLine then some (a ++ b) else none
  | _ => none
def gSub : List D → Option D
  | [.int a, .int b] => some (.int (a - b))
  | _ => none
def gMul : List D → Option D
  | [.int a, .int b] => if a.natAbs.log2 + b.natAbs.log2 < 1000000 then some (.int (a * b)) else none
  | _ => none
/-- a list, so often -/
@[irreducible] def gMulL : List D → Option (List D)
  | [.lst a, .int k] => if -(2 ^ 63) ≤ k ∧ k < 2 ^ 63 ∧ a.length * k.toNat ≤ sizeLine then some (List.replicate k.toNat a).flatten else none
  | _ => none
def gDiv : List D → Option D
  | [.int a, .int b] => if 0 < b ∧ b.natAbs.log2 < 9000 then some (.int (a / b)) else none
  | _ => none
def gMod : List D → Option D
  | [.int a, .int b] => if 0 < b then some (.int (a % b)) else none
  | _ => none
def gPow : List D → Option D
  | [.int a, .int b] => if 0 ≤ b ∧ b ≤ 1000000 ∧ a.natAbs < 2 ^ 64 then some (.int (a ^ b.toNat)) else none
  | _ => none
def gShl : List D → Option D
  | [.int a, .int b] => if 0 ≤ b ∧ b ≤ 1000000 ∧ a.natAbs < 2 ^ 64 then some (.int (a * 2 ^ b.toNat)) else none
  | _ => none
def gShr : List D → Option D
  | [.int a, .int b] => if 0 ≤ b then some (.int (a / 2 ^ b.toNat)) else none
  | _ => none
def gAnd : List D → Option D
  | [.int a, .int b] => some (.int (Builtin.bitAnd a b))
  | _ => none
def gOr : List D → Option D
  | [.int a, .int b] => some (.int (Builtin.bitOr a b))
  | _ => none
def gXor : List D → Option D
  | [.int a, .int b] => some (.int (Builtin.bitXor a b))
  | _ => none
def gNeg : List D → Option D
  | [.int a] => some (.int (-a))
  | _ => none
def gInv : List D → Option D
  | [.int a] => some (.int (Builtin.bitNot a))
  | _ => none
def gLt : List D → Option Bool
  | [.int a, .int b] => some (decide (a < b))
  | _ => none
def gLe : List D → Option Bool
  | [.int a, .int b] => some (decide (a ≤ b))
  | _ => none
def gGt : List D → Option Bool
  | [.int a, .int b] => some (decide (b < a))
  | _ => none
def gGe : List D → Option Bool
  | [.int a, .int b] => some (decide (b ≤ a))
  | _ => none
def gEq : List D → Option Bool
  | [a, b] => if dok 64 a && dok 64 b then some (deq a b) else none
  | _ => none
def gNe : List D → Option Bool
  | [a, b] => if dok 64 a && dok 64 b then some (!deq a b) else none
  | _ => none
def isNon : D → Bool
  | .non => true
  | _ => false
def gIsN : List D → Option Bool
  | [a, .non] => some (isNon a)
  | _ => none
def gIsNotN : List D → Option Bool
  | [a, .non] => some (!isNon a)
  | _ => none
def gIn : List D → Option Bool
  | [a, .lst b] => if dok 64 a && dok 64 (.lst b) then some (b.any fun z => deq z a) else none
  | [a, .tup b] => if dok 0 a && b.all (dok 0) then some (b.any fun z => deq z a) else none
  | _ => none
def gNotIn : List D → Option Bool
  | [a, .lst b] => if dok 64 a && dok 64 (.lst b) then some (!b.any fun z => deq z a) else none
  | [a, .tup b] => if dok 0 a && b.all (dok 0) then some (!b.any fun z => deq z a) else none
  | _ => none
def oB (g : List D → Option Bool) : List D → Option D := fun ds => (g ds).map D.bl

section
variable {X : Cx} {K : PySem.W.Frag}
/-- two ints -/
theorem op_ii {f : Value → Value → Sem Value} {C : Int → Int → Prop} {g : Int → Int → V} {gd : Int → Int → D} {G : List D → Option D} (h : OpR X f (rI C g)) (hg : ∀ S H i j, Rq X.K S H 0 (gd i j) (g i j))
    (hG : ∀ ds z, G ds = some z → ∃ i j, ds = [.int i, .int j] ∧ C i j ∧ z = gd i j) : Op X.K [1, 1] 0 (r2 (UR X f)) G := by
  intro S H ds vs z Q fr r e q
  obtain ⟨i, j, rfl, c, rfl⟩ := hG ds z e
  obtain ⟨d, e', x, y, e1, rfl, r1, r2⟩ := r.two
  cases e1
  rw [r1.int, r2.int]
  exact ⟨_, _, rfl, _, h, i, j, rfl, rfl, c, q _ H (Grow.refl H) (hg S H i j)⟩
theorem op_ii0 {f : Value → Value → Sem Value} {g : Int → Int → V} {gd : Int → Int → D} {G : List D → Option D} (h : OpR X f (rI0 g)) (hg : ∀ S H i j, Rq X.K S H 0 (gd i j) (g i j))
    (hG : ∀ ds z, G ds = some z → ∃ i j, ds = [.int i, .int j] ∧ z = gd i j) : Op X.K [1, 1] 0 (r2 (UR X f)) G := by
  intro S H ds vs z Q fr r e q
  obtain ⟨i, j, rfl, rfl⟩ := hG ds z e
  obtain ⟨d, e', x, y, e1, rfl, r1, r2⟩ := r.two
  cases e1
  rw [r1.int, r2.int]
  exact ⟨_, _, rfl, _, h, i, j, rfl, rfl, q _ H (Grow.refl H) (hg S H i j)⟩
theorem o_sub : Op X.K [1, 1] 0 (r2 (UR X (binaryOp .Sub))) gSub := op_ii0 (gd := fun i j => .int (i - j)) op_sub (fun _ _ _ _ => rq_int) fun ds z e => by
  unfold gSub at e; split at e <;> first | (cases e; exact ⟨_, _, rfl, rfl⟩) | cases e
theorem o_and : Op X.K [1, 1] 0 (r2 (UR X (binaryOp .BitAnd))) gAnd := op_ii0 (gd := fun i j => .int (Builtin.bitAnd i j)) op_and (fun _ _ _ _ => rq_int) fun ds z e => by
  unfold gAnd at e; split at e <;> first | (cases e; exact ⟨_, _, rfl, rfl⟩) | cases e
theorem o_or : Op X.K [1, 1] 0 (r2 (UR X (binaryOp .BitOr))) gOr := op_ii0 (gd := fun i j => .int (Builtin.bitOr i j)) op_or (fun _ _ _ _ => rq_int) fun ds z e => by
  unfold gOr at e; split at e <;> first | (cases e; exact ⟨_, _, rfl, rfl⟩) | cases e
theorem o_xor : Op X.K [1, 1] 0 (r2 (UR X (binaryOp .BitXor))) gXor := op_ii0 (gd := fun i j => .int (Builtin.bitXor i j)) op_xor (fun _ _ _ _ => rq_int) fun ds z e => by
  unfold gXor at e; split at e <;> first | (cases e; exact ⟨_, _, rfl, rfl⟩) | cases e
theorem o_mul : Op X.K [1, 1] 0 (r2 (UR X (binaryOp .Mult))) gMul := op_ii (gd := fun i j => .int (i * j)) op_mulW (fun _ _ _ _ => rq_int) fun ds z e => by
  unfold gMul at e
  split at e
  · split at e
    · cases e
      rename_i h
      exact ⟨_, _, rfl, h, rfl⟩
    · cases e
  · cases e
theorem o_div : Op X.K [1, 1] 0 (r2 (UR X (binaryOp .FloorDiv))) gDiv := op_ii (gd := fun i j => .int (i / j)) op_fdivW (fun _ _ _ _ => rq_int) fun ds z e => by
  unfold gDiv at e
  split at e
  · split at e
    · cases e; rename_i h; exact ⟨_, _, rfl, h, rfl⟩
    · cases e
  · cases e
theorem o_mod : Op X.K [1, 1] 0 (r2 (UR X (binaryOp .Mod))) gMod := op_ii (gd := fun i j => .int (i % j)) op_mod (fun _ _ _ _ => rq_int) fun ds z e => by
  unfold gMod at e
  split at e
  · split at e
    · cases e; rename_i h; exact ⟨_, _, rfl, h, rfl⟩
    · cases e
  · cases e
theorem o_pow : Op X.K [1, 1] 0 (r2 (UR X (binaryOp .Pow))) gPow := op_ii (gd := fun i j => .int (i ^ j.toNat)) op_pow (fun _ _ _ _ => rq_int) fun ds z e => by
  unfold gPow at e
  split at e
  · split at e
    · cases e; rename_i h; exact ⟨_, _, rfl, h, rfl⟩
    · cases e
  · cases e
theorem o_shl : Op X.K [1, 1] 0 (r2 (UR X (binaryOp .LShift))) gShl := op_ii (gd := fun i j => .int (i * 2 ^ j.toNat)) op_shl (fun _ _ _ _ => rq_int) fun ds z e => by
  unfold gShl at e
  split at e
  · split at e
    · cases e; rename_i h; exact ⟨_, _, rfl, h, rfl⟩
    · cases e
  · cases e
theorem o_shr : Op X.K [1, 1] 0 (r2 (UR X (binaryOp .RShift))) gShr := op_ii (gd := fun i j => .int (i / 2 ^ j.toNat)) op_shr (fun _ _ _ _ => rq_int) fun ds z e => by
  unfold gShr at e
  split at e
  · split at e
    · cases e; rename_i h; exact ⟨_, _, rfl, h, rfl⟩
    · cases e
  · cases e
theorem o_lt : Op X.K [1, 1] 0 (r2 (UR X (compareOp .Lt))) (oB gLt) := op_ii0 (gd := fun i j => .bl (decide (i < j))) op_lt (fun _ _ _ _ => rq_bl) fun ds z e => by
  unfold oB gLt at e; split at e <;> first | (cases e; exact ⟨_, _, rfl, rfl⟩) | cases e
theorem o_le : Op X.K [1, 1] 0 (r2 (UR X (compareOp .LtE))) (oB gLe) := op_ii0 (gd := fun i j => .bl (decide (i ≤ j))) op_le (fun _ _ _ _ => rq_bl) fun ds z e => by
  unfold oB gLe at e; split at e <;> first | (cases e; exact ⟨_, _, rfl, rfl⟩) | cases e
theorem o_gt : Op X.K [1, 1] 0 (r2 (UR X (compareOp .Gt))) (oB gGt) := op_ii0 (gd := fun i j => .bl (decide (j < i))) op_gt (fun _ _ _ _ => rq_bl) fun ds z e => by
  unfold oB gGt at e; split at e <;> first | (cases e; exact ⟨_, _, rfl, rfl⟩) | cases e
theorem o_ge : Op X.K [1, 1] 0 (r2 (UR X (compareOp .GtE))) (oB gGe) := op_ii0 (gd := fun i j => .bl (decide (j ≤ i))) op_ge (fun _ _ _ _ => rq_bl) fun ds z e => by
  unfold oB gGe at e; split at e <;> first | (cases e; exact ⟨_, _, rfl, rfl⟩) | cases e
theorem o_add : Op X.K [1, 1] 0 (r2 (UR X (binaryOp .Add))) gAdd := by
  intro S H ds vs z Q fr r e q
  obtain ⟨d, e', x, y, rfl, rfl, h1, h2⟩ := r.two
  unfold gAdd at e
  split at e
  · rename_i i j he; cases he; cases e
    rw [h1.int, h2.int]
    exact ⟨_, _, rfl, _, op_add, _, _, rfl, rfl, q _ H (Grow.refl H) rq_int⟩
  · rename_i i j he; cases he
    split at e
    · cases e
      rw [h1.str, h2.str]
      rename_i hl
      exact ⟨_, _, rfl, _, op_add_str, _, _, rfl, rfl, hl, q _ H (Grow.refl H) rq_str⟩
    · cases e
  · rename_i i j he; cases he
    split at e
    · cases e
      obtain ⟨a, vs, rfl, h3, h4⟩ := h1.sq1
      obtain ⟨b, us, rfl, h5, h6⟩ := h2.sq1
      rename_i hl
      rw [h4.length, h6.length] at hl
      exact ⟨_, _, rfl, _, op_cat, _, _, _, _, rfl, rfl, h3, h5, hl, fun p hp => q _ _ (Grow.upd hp) (new_lst hp (fr p hp) (h4.append h6))⟩
    · cases e
  · rename_i i j he; cases he
    split at e
    · cases e
      obtain ⟨a, vs, rfl, h3, h4⟩ := h1.tup
      obtain ⟨b, us, rfl, h5, h6⟩ := h2.tup
      rename_i hl
      rw [h4.length, h6.length] at hl
      refine ⟨_, _, rfl, _, op_catA, _, _, _, _, rfl, rfl, .of h3, .of h5, hl, fun hx => ?_, fun hx hy => ?_, fun hx hy p hp => ?_⟩
      · refine q _ H (Grow.refl H) (rq_tup h5 ?_)
        have h7 := h4.append h6
        rw [hx] at h7; exact h7
      · refine q _ H (Grow.refl H) (rq_tup h3 ?_)
        have h7 := h4.append h6
        rw [hy, List.append_nil] at h7; exact h7
      · exact q _ _ (Grow.upd hp) (new_tup hp (h4.append h6))
    · cases e
  · rename_i i j he; cases he; cases e
    rw [h1.int, h2.bl]
    exact ⟨_, _, rfl, _, op_add_ib, _, _, rfl, rfl, q _ H (Grow.refl H) rq_int⟩
  · cases e
theorem o_addL : OpL X.K [1, 1] (r2 (UR X (binaryOp .Add))) gAddL := by
  intro S H ds vs z Q fr r e q
  obtain ⟨d, e', x, y, rfl, rfl, h1, h2⟩ := r.two
  unfold gAddL at e
  split at e
  · rename_i i j he; cases he
    split at e
    · cases e
      obtain ⟨a, vs, rfl, h3, h4⟩ := h1.sq1
      obtain ⟨b, us, rfl, h5, h6⟩ := h2.sq1
      rename_i hl
      rw [h4.length, h6.length] at hl
      exact ⟨_, _, rfl, _, op_cat, _, _, _, _, rfl, rfl, h3, h5, hl, fun p hp => q p _ _ (Grow.upd hp) hp upd_same (h4.append h6)⟩
    · cases e
  · cases e
theorem Rqs.rep {S : Addr → Prop} {H : Hp} {ds : List D} {vs : List V} (h : Rqs K S H 0 ds vs) : ∀ n : Nat, Rqs K S H 0 (List.replicate n ds).flatten (List.replicate n vs).flatten
  | 0 => .nil
  | n + 1 => by
    rw [List.replicate_succ, List.replicate_succ, List.flatten_cons, List.flatten_cons]
    exact h.append (Rqs.rep h n)
end
end VL

set_option Elab.async false
set_option linter.all false
set_option maxRecDepth 100000
set_option maxHeartbeats 1000000
namespace VL
open PySem PySem.Spec PyProof.Rows L2

section
variable {X : Cx} {m : List Nat} {pos : Pos} {a b c e : Expr} {es : List Expr}
theorem o_mulL : OpL X.K [1, 0] (r2 (UR X (binaryOp .Mult))) gMulL := by
  intro S H ds vs z Q fr r e q
  obtain ⟨d, e', x, y, rfl, rfl, h1, h2⟩ := r.two
  unfold gMulL at e
  split at e
  · rename_i i j he; cases he
    split at e
    · cases e
      obtain ⟨a, vs, rfl, h3, h4⟩ := h1.sq1
      rw [h2.int]
      rename_i hl
      rw [h4.length] at hl
      exact ⟨_, _, rfl, _, op_rep, _, _, _, rfl, rfl, h3, hl.1, hl.2.1, hl.2.2, fun p hp => q p _ _ (Grow.upd hp) hp upd_same (h4.rep _)⟩
    · cases e
  · cases e
theorem o_neg : Op X.K [0] 0 (r1 (UU X (unaryOp .USub))) gNeg := by
  intro S H ds vs z Q fr r e q
  obtain ⟨d, x, rfl, rfl, h1⟩ := r.one
  unfold gNeg at e
  split at e
  · rename_i i he; cases he; cases e
    rw [h1.int]
    exact ⟨_, rfl, _, un_neg, _, rfl, q _ H (Grow.refl H) rq_int⟩
  · cases e
theorem o_inv : Op X.K [0] 0 (r1 (UU X (unaryOp .Invert))) gInv := by
  intro S H ds vs z Q fr r e q
  obtain ⟨d, x, rfl, rfl, h1⟩ := r.one
  unfold gInv at e
  split at e
  · rename_i i he; cases he; cases e
    rw [h1.int]
    exact ⟨_, rfl, _, un_inv, _, rfl, q _ H (Grow.refl H) rq_int⟩
  · cases e
theorem o_eq (n : Nat) (hr : Room n X.A) {j j' : Nat} : Op X.K [j, j'] 0 (r2 (UR X (compareOp .Eq))) (oB gEq) := by
  intro S H ds vs z Q fr r e q
  obtain ⟨d, e', x, y, rfl, rfl, h1, h2⟩ := r.two
  unfold oB gEq at e
  simp only at e
  split at e
  · rename_i hk
    rw [Bool.and_eq_true] at hk
    cases e
    exact ⟨_, _, rfl, _, op_eqD hr.units, _, _, h1.dp hk.1, h2.dp hk.2, dok_shaped hk.1, dok_shaped hk.2, q _ H (Grow.refl H) rq_bl⟩
  · cases e
theorem o_ne (n : Nat) (hr : Room n X.A) {j j' : Nat} : Op X.K [j, j'] 0 (r2 (UR X (compareOp .NotEq))) (oB gNe) := by
  intro S H ds vs z Q fr r e q
  obtain ⟨d, e', x, y, rfl, rfl, h1, h2⟩ := r.two
  unfold oB gNe at e
  simp only at e
  split at e
  · rename_i hk
    rw [Bool.and_eq_true] at hk
    cases e
    exact ⟨_, _, rfl, _, op_neD hr.units, _, _, h1.dp hk.1, h2.dp hk.2, dok_shaped hk.1, dok_shaped hk.2, q _ H (Grow.refl H) rq_bl⟩
  · cases e
theorem rq_isN {K : PySem.W.Frag} {S : Addr → Prop} {H : Hp} {j : Nat} {d : D} {x : V} (h : Rq K S H j d x) : decide (x = V.non) = isNon d := by
  cases d with
  | non => rw [h.non]; rfl
  | bl _ => rw [h.bl]; rfl
  | int _ => rw [h.int]; rfl
  | str _ => rw [h.str]; rfl
  | tup _ => obtain ⟨a, _, rfl, _⟩ := h.tup; rfl
  | lst _ => obtain ⟨a, _, rfl, _⟩ := h.lst; rfl
  | dk _ _ => obtain ⟨a, _, rfl, _⟩ := h.dk; rfl
  | dt _ _ => obtain ⟨a, _, rfl, _⟩ := h.dt; rfl
  | ins _ _ _ => obtain ⟨a, _, _, rfl, _⟩ := h.ins; rfl
  | obj _ => rw [h.obj]; rfl
  | scr _ => obtain ⟨a, rfl, _⟩ := h.scr; rfl
theorem o_isN {j : Nat} : Op X.K [j, 0] 0 (r2 (UR X (compareOp .Is))) (oB gIsN) := by
  intro S H ds vs z Q fr r e q
  obtain ⟨d, e', x, y, rfl, rfl, h1, h2⟩ := r.two
  unfold oB gIsN at e
  split at e
  · rename_i d' he; cases he; cases e
    rw [h2.non]
    exact ⟨_, _, rfl, _, op_isN, rfl, q _ H (Grow.refl H) (by rw [rq_isN h1]; exact rq_bl)⟩
  · cases e
theorem o_isNotN {j : Nat} : Op X.K [j, 0] 0 (r2 (UR X (compareOp .IsNot))) (oB gIsNotN) := by
  intro S H ds vs z Q fr r e q
  obtain ⟨d, e', x, y, rfl, rfl, h1, h2⟩ := r.two
  unfold oB gIsNotN at e
  split at e
  · rename_i d' he; cases he; cases e
    rw [h2.non]
    exact ⟨_, _, rfl, _, op_notN, rfl, q _ H (Grow.refl H) (by rw [rq_isN h1]; exact rq_bl)⟩
  · cases e
theorem any_py {d : D} : ∀ {b : List D}, (toPys b).any (fun z => PyData.eqv z (toPy d)) = b.any fun z => deq z d
  | [] => by unfold toPys; rfl
  | x :: b => by unfold toPys; rw [List.any_cons, List.any_cons, any_py]; rfl
theorem flat_of {K : PySem.W.Frag} {S : Addr → Prop} {H : Hp} {d : D} {j : Nat} {x : V} (hk : dok 0 d = true) (h : Rq K S H j d x) : flatV x = true := by
  cases d with
  | non => rw [h.non]; rfl
  | bl _ => rw [h.bl]; rfl
  | int _ => rw [h.int]; rfl
  | str _ => rw [h.str]; rfl
  | _ => unfold dok at hk; cases hk
theorem eqV_deq {K : PySem.W.Frag} {S : Addr → Prop} {H : Hp} {d e : D} {i j : Nat} {x y : V} (hd : dok 0 d = true) (he : dok 0 e = true) (h : Rq K S H i d x) (h' : Rq K S H j e y) : eqV x y = deq d e := by
  have z : ∀ k : Bool, (if k then (1 : Int) else 0) = b2i k := fun k => by cases k <;> rfl
  cases d with
  | non =>
    rw [h.non]
    cases e with
    | non => rw [h'.non]; simp [eqV, deq, toPy, PyData.eqv]
    | bl _ => rw [h'.bl]; simp [eqV, deq, toPy, PyData.eqv]
    | int _ => rw [h'.int]; simp [eqV, deq, toPy, PyData.eqv]
    | str _ => rw [h'.str]; simp [eqV, deq, toPy, PyData.eqv]
    | _ => unfold dok at he; cases he
  | bl _ =>
    rw [h.bl]
    cases e with
    | non => rw [h'.non]; simp [eqV, deq, toPy, PyData.eqv]
    | bl _ => rw [h'.bl]; simp [eqV, deq, toPy, PyData.eqv]
    | int _ => rw [h'.int]; simp [eqV, deq, toPy, PyData.eqv]
    | str _ => rw [h'.str]; simp [eqV, deq, toPy, PyData.eqv]
    | _ => unfold dok at he; cases he
  | int _ =>
    rw [h.int]
    cases e with
    | non => rw [h'.non]; simp [eqV, deq, toPy, PyData.eqv]
    | bl _ => rw [h'.bl]; simp [eqV, deq, toPy, PyData.eqv]
    | int _ => rw [h'.int]; simp [eqV, deq, toPy, PyData.eqv]
    | str _ => rw [h'.str]; simp [eqV, deq, toPy, PyData.eqv]
    | _ => unfold dok at he; cases he
  | str _ =>
    rw [h.str]
    cases e with
    | non => rw [h'.non]; simp [eqV, deq, toPy, PyData.eqv]
    | bl _ => rw [h'.bl]; simp [eqV, deq, toPy, PyData.eqv]
    | int _ => rw [h'.int]; simp [eqV, deq, toPy, PyData.eqv]
    | str _ => rw [h'.str]; simp [eqV, deq, toPy, PyData.eqv]
    | _ => unfold dok at he; cases he
  | _ => unfold dok at hd; cases hd
theorem flats {K : PySem.W.Frag} {S : Addr → Prop} {H : Hp} {d : D} {x : V} {j i : Nat} (hd : dok 0 d = true) (h : Rq K S H j d x) : ∀ {b : List D} {us : List V}, b.all (dok 0) = true → Rqs K S H i b us → us.all flatV = true ∧ inV x us = b.any fun z => deq z d
  | [], us, _, hr => by rw [hr.inv0]; exact ⟨rfl, rfl⟩
  | y :: b, us, hb, hr => by
    obtain ⟨v, r, rfl, h1, h2⟩ := hr.inv
    rw [List.all_cons, Bool.and_eq_true] at hb
    obtain ⟨h3, h4⟩ := flats hd h hb.2 h2
    refine ⟨by rw [List.all_cons, flat_of hb.1 h1, h3]; rfl, ?_⟩
    unfold inV at h4 ⊢
    rw [List.any_cons, List.any_cons, h4, eqV_deq hb.1 hd h1 h]
theorem o_in (n : Nat) (hr : Room n X.A) {j : Nat} : Op X.K [j, 1] 0 (r2 (UR X (compareOp .In))) (oB gIn) := by
  intro S H ds vs z Q fr r e q
  obtain ⟨d, e', x, y, rfl, rfl, h1, h2⟩ := r.two
  unfold oB gIn at e
  split at e
  · rename_i d' b he; cases he
    split at e
    · rename_i hk
      rw [Bool.and_eq_true] at hk
      cases e
      have h3 := h2.dp hk.2
      have s3 := dok_shaped hk.2
      unfold toPy at h3 s3
      refine ⟨_, _, rfl, _, op_inD (by have := hr.un; omega), _, _, h1.dp hk.1, h3, dok_shaped hk.1, s3, q _ H (Grow.refl H) ?_⟩
      rw [any_py]; exact rq_bl
    · cases e
  · rename_i d' b he; cases he
    split at e
    · rename_i hk
      rw [Bool.and_eq_true] at hk
      cases e
      obtain ⟨p, us, rfl, h3, h4⟩ := h2.tup
      obtain ⟨h5, h6⟩ := flats hk.1 h1 hk.2 h4
      refine ⟨_, _, rfl, _, op_in_seq, _, _, rfl, .inr (.of h3), flat_of hk.1 h1, h5, q _ H (Grow.refl H) ?_⟩
      rw [if_neg (by decide), h6]; exact rq_bl
    · cases e
  · cases e
theorem o_notIn (n : Nat) (hr : Room n X.A) {j : Nat} : Op X.K [j, 1] 0 (r2 (UR X (compareOp .NotIn))) (oB gNotIn) := by
  intro S H ds vs z Q fr r e q
  obtain ⟨d, e', x, y, rfl, rfl, h1, h2⟩ := r.two
  unfold oB gNotIn at e
  split at e
  · rename_i d' b he; cases he
    split at e
    · rename_i hk
      rw [Bool.and_eq_true] at hk
      cases e
      have h3 := h2.dp hk.2
      have s3 := dok_shaped hk.2
      unfold toPy at h3 s3
      refine ⟨_, _, rfl, _, op_notInD (by have := hr.un; omega), _, _, h1.dp hk.1, h3, dok_shaped hk.1, s3, q _ H (Grow.refl H) ?_⟩
      rw [any_py]; exact rq_bl
    · cases e
  · rename_i d' b he; cases he
    split at e
    · rename_i hk
      rw [Bool.and_eq_true] at hk
      cases e
      obtain ⟨p, us, rfl, h3, h4⟩ := h2.tup
      obtain ⟨h5, h6⟩ := flats hk.1 h1 hk.2 h4
      refine ⟨_, _, rfl, _, op_notIn_seq, _, _, rfl, .inr (.of h3), flat_of hk.1 h1, h5, q _ H (Grow.refl H) ?_⟩
      rw [if_pos rfl, h6]; exact rq_bl
    · cases e
  · cases e
end
end VL

set_option Elab.async false
set_option linter.all false
set_option maxRecDepth 100000
set_option maxHeartbeats 1000000
namespace VL
open PySem PySem.Spec PyProof.Rows L2

/-! ### tests, and, or, not, a if t else b, chains -/
section
variable {X : Cx} {m : List Nat} {pos : Pos} {a b c e : Expr} {rest : List Expr} {j : Nat}
def fB (f : Rho → Rs D) : Rho → Rs Bool := fun ρ => match f ρ with
  | .ok (.bl k) => .ok k
  | .ok _ => .bad
  | .err x => .err x
  | .bad => .bad
/-- a test whose value is a bool -/
theorem sb_val {f : Rho → Rs D} (h : SP X m 0 e f) (he : ∀ whole, isTrue e X.env whole = (do let v ← whole; standAt e.pos; holding [v] (truthy v)) := by intro _; rfl) : SB X m e (fB f) := by
  intro R σ H ρ Ls Q W s tk q
  unfold fB at q
  refine UT.of (pt_val peU he) (h R σ H ρ Ls _ W s tk ?_)
  cases e1 : f ρ with
  | bad => rw [e1] at q; exact q
  | err x => rw [e1] at q; exact q
  | ok d =>
    rw [e1] at q
    cases d with
    | bl k => exact fun v H' g r => ⟨k, r.bl, q H' g⟩
    | _ => exact q.elim
theorem sw_sb {f : Rho → Rs Bool} (h : SW X m e f) : SB X m e f := by
  intro R σ H ρ Ls Q W s tk q
  exact (h R σ H ρ Ls Q W s tk q).ut
def fAnd (f g : Rho → Rs Bool) : Rho → Rs Bool := fun ρ => do
  let k ← f ρ
  if k then g ρ else pure false
def fOr (f g : Rho → Rs Bool) : Rho → Rs Bool := fun ρ => do
  let k ← f ρ
  if k then pure true else g ρ
def fNot (f : Rho → Rs Bool) : Rho → Rs Bool := fun ρ => do
  let k ← f ρ
  pure (!k)
theorem sb_bind {f : Rho → Rs Bool} {g : Bool → Rho → Rs Bool} {T : Bool → TT} (h : SB X m a f)
    (k : ∀ (bv : Bool) (R : Addr → Prop) (σ : Sg) (H : Hp) (ρ : Rho) (Ls : Nat → List Addr) (Q : Bool → Hp → Prop) (W : WX), SR X.K R H σ ρ m Ls → Takes X W →
      (match g bv ρ with
      | .ok b => ∀ H', Grow H H' → Q b H'
      | .err x => ∀ cls dd H', Grow H H' → ExIs X.K x cls dd H' → W cls dd σ H'
      | .bad => False) → T bv σ H Q)
    {R : Addr → Prop} {σ : Sg} {H : Hp} {ρ : Rho} {Ls : Nat → List Addr} {Q : Bool → Hp → Prop} {W : WX} (s : SR X.K R H σ ρ m Ls) (tk : Takes X W)
    (q : match (f ρ >>= fun bv => g bv ρ) with
      | .ok b => ∀ H', Grow H H' → Q b H'
      | .err x => ∀ cls dd H', Grow H H' → ExIs X.K x cls dd H' → W cls dd σ H'
      | .bad => False) : UT X a σ H fun bv H1 => T bv σ H1 Q := by
  refine h R σ H ρ Ls _ W s tk ?_
  cases e1 : f ρ with
  | bad => rw [e1] at q; exact q
  | err x => rw [e1] at q; exact q
  | ok bv =>
    rw [e1] at q
    intro H1 g1
    refine k bv R σ H1 ρ Ls Q W (s.grow g1) tk ?_
    simp only [ok_bind] at q
    cases e2 : g bv ρ with
    | bad => rw [e2] at q; exact q
    | err x => rw [e2] at q; exact fun cls dd H2 g2 z => q cls dd H2 (g1.trans g2) z
    | ok b => rw [e2] at q; exact fun H2 g2 => q H2 (g1.trans g2)
theorem sw_and1 {f : Rho → Rs Bool} (h : SB X m a f) : SW X m (.BoolOp .And [a] pos) f := fun R σ H ρ Ls Q W s tk q => UW.of (pw_and1 ptU) (h R σ H ρ Ls Q W s tk q)
theorem sw_or1 {f : Rho → Rs Bool} (h : SB X m a f) : SW X m (.BoolOp .Or [a] pos) f := fun R σ H ρ Ls Q W s tk q => UW.of (pw_or1 ptU) (h R σ H ρ Ls Q W s tk q)
theorem sw_and {f g : Rho → Rs Bool} (h : SB X m a f) (h' : SW X m (.BoolOp .And (b :: rest) pos) g) : SW X m (.BoolOp .And (a :: b :: rest) pos) (fAnd f g) := by
  intro R σ H ρ Ls Q W s tk q
  refine UW.of (pw_and ptU pwU) (sb_bind (g := fun k ρ => if k then g ρ else pure false) (T := fun k σ H1 Q => if k = true then UW X (.BoolOp .And (b :: rest) pos) σ H1 Q else Q false H1) h (fun k R σ H ρ Ls Q W s tk q => ?_) s tk q)
  cases k with
  | true => exact h' R σ H ρ Ls Q W s tk q
  | false => exact q H (Grow.refl H)
theorem sw_or {f g : Rho → Rs Bool} (h : SB X m a f) (h' : SW X m (.BoolOp .Or (b :: rest) pos) g) : SW X m (.BoolOp .Or (a :: b :: rest) pos) (fOr f g) := by
  intro R σ H ρ Ls Q W s tk q
  refine UW.of (pw_or ptU pwU) (sb_bind (g := fun k ρ => if k then pure true else g ρ) (T := fun k σ H1 Q => if k = true then Q true H1 else UW X (.BoolOp .Or (b :: rest) pos) σ H1 Q) h (fun k R σ H ρ Ls Q W s tk q => ?_) s tk q)
  cases k with
  | false => exact h' R σ H ρ Ls Q W s tk q
  | true => exact q H (Grow.refl H)
theorem sb_not {f : Rho → Rs Bool} (h : SB X m a f) : SB X m (.UnaryOp .Not a pos) (fNot f) := by
  intro R σ H ρ Ls Q W s tk q
  refine UT.of (pt_not ptU) (sb_bind (g := fun k _ => pure (!k)) (T := fun k _ H1 Q => Q (!k) H1) h (fun k R σ H ρ Ls Q W s tk q => ?_) s tk q)
  exact q H (Grow.refl H)
/-- .. as values -/
def fBl (f : Rho → Rs Bool) : Rho → Rs D := fun ρ => do
  let k ← f ρ
  pure (.bl k)
def fAndV (f : Rho → Rs D) (g : Rho → Rs D) : Rho → Rs D := fun ρ => do
  let k ← fB f ρ
  if k then g ρ else pure (.bl false)
def fOrV (f : Rho → Rs D) (g : Rho → Rs D) : Rho → Rs D := fun ρ => do
  let k ← fB f ρ
  if k then pure (.bl true) else g ρ
def fNotV (f : Rho → Rs D) : Rho → Rs D := fun ρ => do
  let k ← fB f ρ
  pure (.bl !k)
def fIf (t : Rho → Rs Bool) (f g : Rho → Rs D) : Rho → Rs D := fun ρ => do
  let k ← t ρ
  if k then f ρ else g ρ
theorem spB_bind {f : Rho → Rs D} {g : Bool → Rho → Rs D} {T : Bool → TE} (h : SP X m 0 a f)
    (k : ∀ (bv : Bool) (R : Addr → Prop) (σ : Sg) (H : Hp) (ρ : Rho) (Ls : Nat → List Addr) (Q : VK) (W : WX), SR X.K R H σ ρ m Ls → Takes X W →
      (match g bv ρ with
      | .ok d => ∀ v H', Grow H H' → Rq X.K (Sh R Ls) H' j d v → Q v H'
      | .err x => ∀ cls dd H', Grow H H' → ExIs X.K x cls dd H' → W cls dd σ H'
      | .bad => False) → T bv σ H Q)
    {R : Addr → Prop} {σ : Sg} {H : Hp} {ρ : Rho} {Ls : Nat → List Addr} {Q : VK} {W : WX} (s : SR X.K R H σ ρ m Ls) (tk : Takes X W)
    (q : match (fB f ρ >>= fun bv => g bv ρ) with
      | .ok d => ∀ v H', Grow H H' → Rq X.K (Sh R Ls) H' j d v → Q v H'
      | .err x => ∀ cls dd H', Grow H H' → ExIs X.K x cls dd H' → W cls dd σ H'
      | .bad => False) : UE X a σ H fun v H1 => ∃ bv, v = .bl bv ∧ T bv σ H1 Q := by
  refine h R σ H ρ Ls _ W s tk ?_
  unfold fB at q
  cases e1 : f ρ with
  | bad => rw [e1] at q; exact q
  | err x => rw [e1] at q; exact q
  | ok d =>
    rw [e1] at q
    cases d with
    | bl bv =>
      intro v H1 g1 r1
      refine ⟨bv, r1.bl, k bv R σ H1 ρ Ls Q W (s.grow g1) tk ?_⟩
      simp only [ok_bind] at q
      cases e2 : g bv ρ with
      | bad => rw [e2] at q; exact q
      | err x => rw [e2] at q; exact fun cls dd H2 g2 z => q cls dd H2 (g1.trans g2) z
      | ok b => rw [e2] at q; exact fun v H2 g2 r => q v H2 (g1.trans g2) r
    | _ => exact q.elim
theorem sp_one {op : BoolOp} {f : Rho → Rs D} (h : SP X m j a f) : SP X m j (.BoolOp op [a] pos) f := fun R σ H ρ Ls Q W s tk q => UE.of (pe_one peU) (h R σ H ρ Ls Q W s tk q)
theorem sp_and {f g : Rho → Rs D} (h : SP X m 0 a f) (h' : SP X m j (.BoolOp .And (b :: rest) pos) g) : SP X m j (.BoolOp .And (a :: b :: rest) pos) (fAndV f g) := by
  intro R σ H ρ Ls Q W s tk q
  refine UE.of (pe_and peU peU) (spB_bind (g := fun k ρ => if k then g ρ else pure (.bl false)) (T := fun k σ H1 Q => if k = true then UE X (.BoolOp .And (b :: rest) pos) σ H1 Q else Q (.bl false) H1) h (fun k R σ H ρ Ls Q W s tk q => ?_) s tk q)
  cases k with
  | true => exact h' R σ H ρ Ls Q W s tk q
  | false => exact q _ H (Grow.refl H) rq_bl
theorem sp_or {f g : Rho → Rs D} (h : SP X m 0 a f) (h' : SP X m j (.BoolOp .Or (b :: rest) pos) g) : SP X m j (.BoolOp .Or (a :: b :: rest) pos) (fOrV f g) := by
  intro R σ H ρ Ls Q W s tk q
  refine UE.of (pe_or peU peU) (spB_bind (g := fun k ρ => if k then pure (.bl true) else g ρ) (T := fun k σ H1 Q => if k = true then Q (.bl true) H1 else UE X (.BoolOp .Or (b :: rest) pos) σ H1 Q) h (fun k R σ H ρ Ls Q W s tk q => ?_) s tk q)
  cases k with
  | false => exact h' R σ H ρ Ls Q W s tk q
  | true => exact q _ H (Grow.refl H) rq_bl
theorem sp_not {f : Rho → Rs D} (h : SP X m 0 a f) : SP X m j (.UnaryOp .Not a pos) (fNotV f) := by
  intro R σ H ρ Ls Q W s tk q
  refine UE.of (pe_not peU) (spB_bind (g := fun k _ => pure (.bl !k)) (T := fun k _ H1 Q => Q (.bl !k) H1) h (fun k R σ H ρ Ls Q W s tk q => ?_) s tk q)
  exact q _ H (Grow.refl H) rq_bl
theorem sp_if {t : Rho → Rs Bool} {f g : Rho → Rs D} (ht : SB X m c t) (h : SP X m j a f) (h' : SP X m j b g) : SP X m j (.IfExp c a b pos) (fIf t f g) := by
  intro R σ H ρ Ls Q W s tk q
  unfold fIf at q
  refine UE.of (pe_ifExp ptU peU peU) (ht R σ H ρ Ls _ W s tk ?_)
  cases e1 : t ρ with
  | bad => rw [e1] at q; exact q
  | err x => rw [e1] at q; exact q
  | ok k =>
    rw [e1] at q
    intro H1 g1
    cases k with
    | true =>
      refine h R σ H1 ρ Ls Q W (s.grow g1) tk ?_
      simp only [ok_bind, if_true] at q
      cases e2 : f ρ with
      | bad => rw [e2] at q; exact q
      | err x => rw [e2] at q; exact fun cls dd H2 g2 z => q cls dd H2 (g1.trans g2) z
      | ok b => rw [e2] at q; exact fun v H2 g2 r => q v H2 (g1.trans g2) r
    | false =>
      refine h' R σ H1 ρ Ls Q W (s.grow g1) tk ?_
      simp only [ok_bind] at q
      rw [if_neg (by decide)] at q
      cases e2 : g ρ with
      | bad => rw [e2] at q; exact q
      | err x => rw [e2] at q; exact fun cls dd H2 g2 z => q cls dd H2 (g1.trans g2) z
      | ok b => rw [e2] at q; exact fun v H2 g2 r => q v H2 (g1.trans g2) r
/-- a op b op' c -/
def fChain (f1 f2 f3 : Rho → Rs D) (g g' : List D → Option Bool) : Rho → Rs Bool := fun ρ => do
  let x ← f1 ρ
  let y ← f2 ρ
  let k ← ofO (g [x, y])
  if k then do
    let z ← f3 ρ
    ofO (g' [y, z])
  else pure false
theorem chain_core {op op' : CmpOp} {f1 f2 f3 : Rho → Rs D} {g g' : List D → Option Bool} (h1 : SP X m 0 a f1) (h2 : SP X m 0 b f2) (h3 : SP X m 0 c f3)
    (o : Op X.K [1, 1] 0 (r2 (UR X (compareOp op))) (oB g)) (o' : Op X.K [1, 1] 0 (r2 (UR X (compareOp op'))) (oB g'))
    {R : Addr → Prop} {σ : Sg} {H : Hp} {ρ : Rho} {Ls : Nat → List Addr} {Q : Bool → Hp → Prop} {W : WX} (s : SR X.K R H σ ρ m Ls) (tk : Takes X W)
    (q : match fChain f1 f2 f3 g g' ρ with
      | .ok b => ∀ H', Grow H H' → Q b H'
      | .err x => ∀ cls dd H', Grow H H' → ExIs X.K x cls dd H' → W cls dd σ H'
      | .bad => False) : tChain (UR X (compareOp op)) (UR X (compareOp op')) (UE X a) (UE X b) (UE X c) σ H fun v H' => ∃ k, v = .bl k ∧ Q k H' := by
  unfold fChain at q
  unfold tChain
  refine h1 R σ H ρ Ls _ W s tk ?_
  cases e1 : f1 ρ with
  | bad => rw [e1] at q; exact q
  | err x => rw [e1] at q; exact q
  | ok x =>
    rw [e1, ok_bind] at q
    intro vx H1 g1 rx
    refine h2 R σ H1 ρ Ls _ W (s.grow g1) tk ?_
    cases e2 : f2 ρ with
    | bad => rw [e2] at q; exact q
    | err x => rw [e2] at q; exact fun cls dd H2 g2 z => q cls dd H2 (g1.trans g2) z
    | ok y =>
      rw [e2, ok_bind] at q
      intro vy H2 g2 ry
      have rx2 := rx.grow g2 (fun _ z _ => z)
      cases e3 : g [x, y] with
      | none => rw [e3] at q; exact q.elim
      | some k =>
        rw [e3, ofO_some, ok_bind] at q
        have := o (Sh R Ls) H2 [x, y] [vx, vy] (.bl k) (fun z H3 => ∃ k, z = .bl k ∧ (if k = true then UE X c σ H3 fun w' H4 => UR X (compareOp op') vy w' H4 (fun v H' => ∃ k, v = .bl k ∧ Q k H') else ∃ k, V.bl false = .bl k ∧ Q k H3))
          (fun p hp => s.fresh ((g1.trans g2).dom hp)) ⟨x, [y], vx, [vy], rfl, rfl, rx2.up _ (Nat.zero_le _), y, [], vy, [], rfl, rfl, ry.up _ (Nat.zero_le _), rfl, rfl⟩ (by unfold oB; rw [e3]; rfl) ?_
        · obtain ⟨x', y', e4, q4⟩ := this
          cases e4
          exact q4
        · intro w H3 g3 rw'
          refine ⟨k, rw'.bl, ?_⟩
          cases k with
          | false =>
            rw [if_neg (by decide)]
            rw [if_neg (by decide)] at q
            exact ⟨false, rfl, q H3 ((g1.trans g2).trans g3)⟩
          | true =>
            rw [if_pos rfl]
            rw [if_pos rfl] at q
            refine h3 R σ H3 ρ Ls _ W (s.grow ((g1.trans g2).trans g3)) tk ?_
            cases e5 : f3 ρ with
            | bad => rw [e5] at q; exact q
            | err x => rw [e5] at q; exact fun cls dd H4 g4 z => q cls dd H4 (((g1.trans g2).trans g3).trans g4) z
            | ok z =>
              rw [e5, ok_bind] at q
              intro vz H4 g4 rz
              cases e6 : g' [y, z] with
              | none => rw [e6] at q; exact q.elim
              | some k' =>
                rw [e6, ofO_some] at q
                have := o' (Sh R Ls) H4 [y, z] [vy, vz] (.bl k') (fun v H' => ∃ k, v = .bl k ∧ Q k H') (fun p hp => s.fresh ((((g1.trans g2).trans g3).trans g4).dom hp))
                  ⟨y, [z], vy, [vz], rfl, rfl, (ry.grow (g3.trans g4) (fun _ z _ => z)).up _ (Nat.zero_le _), z, [], vz, [], rfl, rfl, rz.up _ (Nat.zero_le _), rfl, rfl⟩ (by unfold oB; rw [e6]; rfl)
                  fun w H5 g5 rw5 => ⟨k', rw5.bl, q H5 ((((g1.trans g2).trans g3).trans g4).trans g5)⟩
                obtain ⟨x', y', e4, q4⟩ := this
                cases e4
                exact q4
theorem sb_chain {op op' : CmpOp} {f1 f2 f3 : Rho → Rs D} {g g' : List D → Option Bool} (h1 : SP X m 0 a f1) (h2 : SP X m 0 b f2) (h3 : SP X m 0 c f3)
    (o : Op X.K [1, 1] 0 (r2 (UR X (compareOp op))) (oB g)) (o' : Op X.K [1, 1] 0 (r2 (UR X (compareOp op'))) (oB g')) (hm : lastMarks [op, op'] [b, c] = false := by with_unfolding_all rfl) : SB X m (.Compare a [op, op'] [b, c] pos) (fChain f1 f2 f3 g g') :=
  fun R σ H ρ Ls Q W s tk q => UT.of (pt_chain urR urR peU peU peU hm) (chain_core h1 h2 h3 o o' s tk q)
theorem sp_chain {op op' : CmpOp} {f1 f2 f3 : Rho → Rs D} {g g' : List D → Option Bool} (h1 : SP X m 0 a f1) (h2 : SP X m 0 b f2) (h3 : SP X m 0 c f3)
    (o : Op X.K [1, 1] 0 (r2 (UR X (compareOp op))) (oB g)) (o' : Op X.K [1, 1] 0 (r2 (UR X (compareOp op'))) (oB g')) (hm : lastMarks [op, op'] [b, c] = false := by with_unfolding_all rfl) : SP X m j (.Compare a [op, op'] [b, c] pos) (fBl (fChain f1 f2 f3 g g')) := by
  intro R σ H ρ Ls Q W s tk q
  refine (UE.of (pe_chain urR urR peU peU peU hm) (chain_core (Q := fun k H' => Q (.bl k) H') h1 h2 h3 o o' s tk ?_)).mono fun v H' ⟨k, e, q⟩ => by rw [e]; exact q
  unfold fBl at q
  cases e1 : fChain f1 f2 f3 g g' ρ with
  | bad => rw [e1] at q; exact q
  | err x => rw [e1] at q; exact q
  | ok k => rw [e1] at q; exact fun H' g' => q _ H' g' rq_bl
end
end VL

set_option Elab.async false
set_option linter.all false
set_option maxRecDepth 100000
set_option maxHeartbeats 1000000
namespace VL
open PySem PySem.Spec PyProof.Rows L2

/-! ### subscripts -/
def UIx (X : Cx) : R2 := fun x y H Q => ∃ r, IxR X r ∧ r x y H Q
section
variable {X : Cx} {m : List Nat} {pos p2 : Pos} {a b c e : Expr} {es : List Expr} {j : Nat}
theorem uixR : IxR X (UIx X) := by
  intro value slice pins s σ H x y v u Q I rx ry h hs
  obtain ⟨r, hr, h⟩ := h
  exact hr value slice pins s σ H x y v u Q I rx ry h hs
theorem ev_ix (hs : PlainIx b) : EvN X (.Subscript a b pos) [a, b] (r2 (UIx X)) := by
  intro σ H Q h
  refine UE.of (pe_ix uixR peU peU hs) ((un2 h).mono fun v H1 h1 => h1.mono fun u H2 h2 => ?_)
  obtain ⟨x, y, e, q⟩ := h2
  cases e
  exact q
def gIx : List D → Option D
  | [.lst ds, .int i] => atI ds i
  | [.tup ds, .int i] => atI ds i
  | [.str z, .int i] => if z.length ≤ sizeLine then (atI z.cps.toList i).map fun c => .str ⟨#[c]⟩ else none
  | _ => none
theorem atI_rq {K : PySem.W.Frag} {S : Addr → Prop} {H : Hp} {ds : List D} {vs : List V} {i : Int} {d : D} (h : Rqs K S H j ds vs) (e : atI ds i = some d) : ∃ v, atI vs i = some v ∧ Rq K S H j d v := by
  unfold atI at e ⊢
  rw [h.length] at e
  cases q : ixN vs.length i with
  | none => rw [q] at e; cases e
  | some n => rw [q] at e; exact h.get e
/-- a[b], a list (maybe owned, to depth j + 1), a tuple, a text -/
theorem o_ix : Op X.K [j + 1, 0] j (r2 (UIx X)) gIx := by
  intro S H ds vs z Q fr r e q
  obtain ⟨d, e', x, y, rfl, rfl, h1, h2⟩ := r.two
  unfold gIx at e
  split at e
  · rename_i xs i he; cases he
    obtain ⟨a, vs, rfl, h3, _, h4⟩ := h1.lst
    obtain ⟨v, h5, h6⟩ := atI_rq h4 e
    rw [h2.int]
    exact ⟨_, _, rfl, _, ix_list, _, _, _, _, rfl, rfl, .of h3, h5, q _ H (Grow.refl H) h6⟩
  · rename_i xs i he; cases he
    obtain ⟨a, vs, rfl, h3, h4⟩ := h1.tup
    obtain ⟨v, h5, h6⟩ := atI_rq h4 e
    rw [h2.int]
    exact ⟨_, _, rfl, _, ix_tup, _, _, _, _, rfl, rfl, .of h3, h5, q _ H (Grow.refl H) (h6.up _ (Nat.zero_le _))⟩
  · rename_i xs i he; cases he
    split at e
    · rw [h1.str, h2.int]
      rename_i hz
      rw [Option.map_eq_some_iff] at e
      obtain ⟨c, e1, rfl⟩ := e
      exact ⟨_, _, rfl, _, ix_str, _, _, c, rfl, rfl, hz, e1, q _ H (Grow.refl H) rq_str⟩
    · cases e
  · cases e
def lookK {κ : Type} [DecidableEq κ] (ks : List κ) (ds : List D) (k : κ) : Option D := ((ks.zip ds).find? fun kv => decide (kv.1 = k)).map (·.2)
theorem lookK_rq {K : PySem.W.Frag} {S : Addr → Prop} {H : Hp} {κ : Type} [DecidableEq κ] {k : κ} : ∀ {ks : List κ} {ds : List D} {vs : List V}, Rqs K S H j ds vs → (∀ d, lookK ks ds k = some d → ∃ v, valV (ks.zip vs) k = some v ∧ Rq K S H j d v) ∧ (lookK ks ds k = none → valV (ks.zip vs) k = none)
  | [], ds, vs, h => by
    refine ⟨fun d e => ?_, fun _ => ?_⟩
    · unfold lookK at e; rw [List.zip_nil_left] at e; cases e
    · unfold valV; rw [List.zip_nil_left]; rfl
  | k' :: ks, [], vs, h => by
    rw [h.inv0]
    refine ⟨fun d e => ?_, fun _ => ?_⟩
    · unfold lookK at e; rw [List.zip_nil_right] at e; cases e
    · unfold valV; rw [List.zip_nil_right]; rfl
  | k' :: ks, d :: ds, vs, h => by
    obtain ⟨v, r, rfl, h1, h2⟩ := h.inv
    obtain ⟨i1, i2⟩ := lookK_rq (k := k) (ks := ks) h2
    unfold lookK valV at i1 i2 ⊢
    rw [List.zip_cons_cons, List.zip_cons_cons, List.find?_cons, List.find?_cons]
    by_cases q : k' = k
    · rw [decide_eq_true (show (k', d).1 = k from q)]
      exact ⟨fun d' e => ⟨v, rfl, by cases e; exact h1⟩, fun e => nomatch e⟩
    · rw [decide_eq_false (show ¬ (k', d).1 = k from q)]
      exact ⟨i1, i2⟩
def keyD : D → Option Key
  | .int i => some (.inl i)
  | .str x => some (.inr x)
  | _ => none
def keysD (ds : List D) : Option (List Key) := ds.mapM keyD
theorem keyD_rq {K : PySem.W.Frag} {S : Addr → Prop} {H : Hp} {d : D} {v : V} {k : Key} (h : Rq K S H j d v) (e : keyD d = some k) : v = kV k := by
  unfold keyD at e
  split at e
  · cases e; exact h.int
  · cases e; exact h.str
  · cases e
theorem keysD_rq {K : PySem.W.Frag} {S : Addr → Prop} {H : Hp} : ∀ {ds : List D} {vs : List V} {ks : List Key}, Rqs K S H j ds vs → keysD ds = some ks → vs = ks.map kV
  | [], vs, ks, h, e => by
    unfold keysD at e; rw [List.mapM_nil] at e; cases e; exact h.inv0
  | d :: ds, vs, ks, h, e => by
    obtain ⟨v, r, rfl, h1, h2⟩ := h.inv
    unfold keysD at e
    rw [List.mapM_cons] at e
    cases e1 : keyD d with
    | none => rw [e1] at e; cases e
    | some k =>
      cases e2 : ds.mapM keyD with
      | none => rw [e1, e2] at e; cases e
      | some ks' =>
        rw [e1, e2] at e
        cases e
        rw [keyD_rq h1 e1, keysD_rq h2 e2]; rfl
/-- what a dict holds at a key -/
def lookD : D → D → Option (Option D)
  | .dk ks ds, k => (keyD k).map fun k => lookK ks ds k
  | .dt ks ds, .tup k => (keysD k).map fun k => lookK ks ds k
  | _, _ => none
theorem lookD_rq {K : PySem.W.Frag} {S : Addr → Prop} {H : Hp} {i : Nat} {d k : D} {x y : V} {o : Option D} (h : Rq K S H (j + 1) d x) (hk : Rq K S H i k y) (e : lookD d k = some o) :
    ∃ a r, x = .ref a ∧ DGet H a y r ∧ (∀ d', o = some d' → ∃ v, r = some v ∧ Rq K S H j d' v) ∧ (o = none → r = none) := by
  unfold lookD at e
  split at e
  · rw [Option.map_eq_some_iff] at e
    obtain ⟨k', e1, rfl⟩ := e
    obtain ⟨a, vs, rfl, h1, _, _, h4⟩ := h.dk
    rw [keyD_rq hk e1]
    obtain ⟨i1, i2⟩ := lookK_rq (k := k') h4
    exact ⟨a, _, rfl, .k h1, i1, i2⟩
  · rw [Option.map_eq_some_iff] at e
    obtain ⟨k', e1, rfl⟩ := e
    obtain ⟨a, vs, rfl, h1, _, _, h4⟩ := h.dt
    obtain ⟨b, us, rfl, h5, h6⟩ := hk.tup
    rw [keysD_rq h6 e1] at h5
    obtain ⟨i1, i2⟩ := lookK_rq (k := k') h4
    exact ⟨a, _, rfl, .t h1 h5, i1, i2⟩
  · cases e
def gDget : List D → Option D
  | [d, k] => (lookD d k).bind id
  | _ => none
theorem ev_dget (n : Nat) (hr : Room n X.A) (hs : NoSl b) : EvN X (.Subscript a b pos) [a, b] (r2 fun x y H Q => ∃ a v, x = .ref a ∧ DGet H a y (some v) ∧ Q v H) := by
  intro σ H Q h
  refine UE.of (pe_dget (hu_of hr) peU peU hs) ((un2 h).mono fun v H1 h1 => h1.mono fun u H2 h2 => ?_)
  obtain ⟨x, y, e, q⟩ := h2
  cases e
  exact q
/-- d[k] -/
theorem o_dget : Op X.K [j + 1, 0] j (r2 fun x y H Q => ∃ a v, x = .ref a ∧ DGet H a y (some v) ∧ Q v H) gDget := by
  intro S H ds vs z Q fr r e q
  obtain ⟨d, k, x, y, rfl, rfl, h1, h2⟩ := r.two
  unfold gDget at e
  simp only at e
  cases e1 : lookD d k with
  | none => rw [e1] at e; cases e
  | some o =>
    rw [e1] at e
    obtain ⟨a, r, rfl, h3, h4, _⟩ := lookD_rq h1 h2 e1
    obtain ⟨v, rfl, h5⟩ := h4 z e
    exact ⟨_, _, rfl, a, v, rfl, h3, q v H (Grow.refl H) h5⟩
def gDin : List D → Option Bool
  | [k, d] => (lookD d k).map fun o => o.isSome
  | _ => none
def gDnotin : List D → Option Bool
  | [k, d] => (lookD d k).map fun o => !o.isSome
  | _ => none
theorem op_dIn (n : Nat) (hr : Room n X.A) : OpR X (compareOp .In) (fun y x H Q => ∃ a o, x = .ref a ∧ DGet H a y o ∧ Q (.bl o.isSome) H) := by
  intro pins s σ H y x iv u Q I ry rx h
  obtain ⟨a, ov, ex, g, q2⟩ := h
  subst ex
  obtain rfl : u = Value.ref a := rx
  exact d_in (hu_of hr) I g ry fun s3 I3 => ⟨.bl ov.isSome, H, I3, rfl, q2⟩
theorem op_dNotIn (n : Nat) (hr : Room n X.A) : OpR X (compareOp .NotIn) (fun y x H Q => ∃ a o, x = .ref a ∧ DGet H a y o ∧ Q (.bl (!o.isSome)) H) := by
  intro pins s σ H y x iv u Q I ry rx h
  obtain ⟨a, ov, ex, g, q2⟩ := h
  subst ex
  obtain rfl : u = Value.ref a := rx
  exact d_notIn (hu_of hr) I g ry fun s3 I3 => ⟨.bl (!ov.isSome), H, I3, rfl, q2⟩
theorem isSome_of {o : Option D} {r : Option V} {P : D → V → Prop} (h : ∀ d, o = some d → ∃ v, r = some v ∧ P d v) (h' : o = none → r = none) : r.isSome = o.isSome := by
  cases o with
  | none => rw [h' rfl]; rfl
  | some d => obtain ⟨v, e, _⟩ := h d rfl; rw [e]; rfl
theorem o_din (n : Nat) (hr : Room n X.A) : Op X.K [0, 1] 0 (r2 (UR X (compareOp .In))) (oB gDin) := by
  intro S H ds vs z Q fr r e q
  obtain ⟨k, d, y, x, rfl, rfl, h2, h1⟩ := r.two
  unfold oB gDin at e
  simp only at e
  cases e1 : lookD d k with
  | none => rw [e1] at e; cases e
  | some o =>
    rw [e1] at e
    cases e
    obtain ⟨a, r', rfl, h3, h4, h5⟩ := lookD_rq (j := 0) h1 h2 e1
    exact ⟨_, _, rfl, _, op_dIn n hr, a, r', rfl, h3, q _ H (Grow.refl H) (by rw [isSome_of h4 h5]; exact rq_bl)⟩
theorem o_dnotin (n : Nat) (hr : Room n X.A) : Op X.K [0, 1] 0 (r2 (UR X (compareOp .NotIn))) (oB gDnotin) := by
  intro S H ds vs z Q fr r e q
  obtain ⟨k, d, y, x, rfl, rfl, h2, h1⟩ := r.two
  unfold oB gDnotin at e
  simp only at e
  cases e1 : lookD d k with
  | none => rw [e1] at e; cases e
  | some o =>
    rw [e1] at e
    cases e
    obtain ⟨a, r', rfl, h3, h4, h5⟩ := lookD_rq (j := 0) h1 h2 e1
    exact ⟨_, _, rfl, _, op_dNotIn n hr, a, r', rfl, h3, q _ H (Grow.refl H) (by rw [isSome_of h4 h5]; exact rq_bl)⟩

/-! ### fields -/
def lookF (ns : List Str) (ds : List D) (f : Str) : Option D := (ns.zip ds).lookup f
theorem lookF_rq {K : PySem.W.Frag} {S : Addr → Prop} {H : Hp} {f : Str} : ∀ {ns : List Str} {ds : List D} {vs : List V} {d : D}, Rqs K S H j ds vs → lookF ns ds f = some d → ∃ v, (ns.zip vs).lookup f = some v ∧ Rq K S H j d v
  | [], ds, vs, d, h, e => by unfold lookF at e; rw [List.zip_nil_left] at e; cases e
  | n :: ns, [], vs, d, h, e => by unfold lookF at e; rw [List.zip_nil_right] at e; cases e
  | n :: ns, d' :: ds, vs, d, h, e => by
    obtain ⟨v, r, rfl, h1, h2⟩ := h.inv
    unfold lookF at e
    rw [List.zip_cons_cons, List.lookup_cons] at e ⊢
    cases q : f == n with
    | true => rw [q] at e; cases e; exact ⟨v, rfl, h1⟩
    | false => rw [q] at e; exact lookF_rq h2 e
def gFld (Cs : List Addr) (f : Str) : List D → Option D
  | [.ins C ns ds] => if C ∈ Cs then lookF ns ds f else none
  | _ => none
def rFld (K : PySem.W.Frag) (f : Str) : List V → Hp → VK → Prop := fun vs H Q => ∃ a C dx fs v, vs = [.ref a] ∧ H a = some (.ins C dx fs) ∧ Cls K C ∧ NoAttr K C f ∧ fs.lookup f = some v ∧ Q v H
theorem ev_fld {f : Str} (hb : attributeBase e f X.env (eval e X.env) = eval e X.env := by rfl) : EvN X (.Attribute e f pos) [e] (rFld X.K f) := by
  intro σ H Q h
  refine UE.of (pe_fld peU hb) ((un1 h).mono fun v H1 h1 => ?_)
  obtain ⟨a, C, dx, fs, u, e, q⟩ := h1
  cases e
  exact ⟨a, C, dx, fs, u, rfl, q⟩
theorem o_fld {Cs : List Addr} {f : Str} (hC : ∀ C ∈ Cs, Cls X.K C ∧ NoAttr X.K C f) : Op X.K [j + 1] j (rFld X.K f) (gFld Cs f) := by
  intro S H ds vs z Q fr r e q
  obtain ⟨d, x, rfl, rfl, h1⟩ := r.one
  unfold gFld at e
  split at e
  · rename_i C ns ds he; cases he
    split at e
    · rename_i hc
      obtain ⟨a, dx, vs, rfl, h2, _, _, h3⟩ := h1.ins
      obtain ⟨v, h4, h5⟩ := lookF_rq h3 e
      exact ⟨a, C, dx, _, v, rfl, h2, (hC C hc).1, (hC C hc).2, h4, q v H (Grow.refl H) h5⟩
    · cases e
  · cases e

/-! ### displays -/
def rTupD : List V → Hp → VK → Prop := fun vs H Q => vs.length ≤ sizeLine ∧ ∀ p, H p = none → Q (.ref p) (upd H p (.tup vs))
def rLstD : List V → Hp → VK → Prop := fun vs H Q => vs.length ≤ sizeLine ∧ ∀ p, H p = none → Q (.ref p) (upd H p (.lst vs))
theorem ev_tup {k} (hs : NoStar X es) : EvN X (.Tuple es k pos) es rTupD := fun σ H Q h => UE.of (pe_tup (paN hs)) h
theorem ev_lst (hs : NoStar X es) : EvN X (.List es pos) es rLstD := fun σ H Q h => UE.of (pe_lst (paN hs)) h
def gTupD : List D → Option D := fun ds => if ds.length ≤ sizeLine then some (.tup ds) else none
def gLstD : List D → Option (List D) := fun ds => if ds.length ≤ sizeLine then some ds else none
def AllZ (js : List Nat) : Prop := ∀ j ∈ js, j = 0
theorem RqL.rqs {K : PySem.W.Frag} {S : Addr → Prop} {H : Hp} : ∀ {js : List Nat} {ds : List D} {vs : List V}, AllZ js → RqL K S H js ds vs → Rqs K S H 0 ds vs
  | [], _, _, _, h => by obtain ⟨rfl, rfl⟩ := h; exact .nil
  | j :: js, _, _, hz, h => by
    obtain ⟨d, dr, v, vr, rfl, rfl, h1, h2⟩ := h
    have : j = 0 := hz j List.mem_cons_self
    subst this
    exact .cons h1 (RqL.rqs (fun i hi => hz i (List.mem_cons_of_mem _ hi)) h2)
theorem o_tupD {js : List Nat} (hz : AllZ js) : Op X.K js 0 rTupD gTupD := by
  intro S H ds vs z Q fr r e q
  have h := r.rqs hz
  unfold gTupD at e
  split at e
  · cases e
    rename_i hl
    exact ⟨by rw [← h.length]; exact hl, fun p hp => q _ _ (Grow.upd hp) (new_tup hp h)⟩
  · cases e
theorem o_lstD {js : List Nat} (hz : AllZ js) : OpL X.K js rLstD gLstD := by
  intro S H ds vs z Q fr r e q
  have h := r.rqs hz
  unfold gLstD at e
  split at e
  · cases e
    rename_i hl
    exact ⟨by rw [← h.length]; exact hl, fun p hp => q p _ _ (Grow.upd hp) hp upd_same h⟩
  · cases e

/-! ### built-ins -/
def UC (X : Cx) (f : Value) : List V → Hp → VK → Prop := fun vs H Q => ∃ r, CallR X f r ∧ r vs H Q
theorem ucR {f : Value} : CallR X f (UC X f) := by
  intro pins s σ H vs us Q I r h
  obtain ⟨r', hr, h⟩ := h
  exact hr pins s σ H vs us Q I r h
theorem ev_callB {x : Str} {id : String} {p : Pos} (hg : Gl X x) (hm : X.mg x = none) (hv : bootBuiltins x = some (.builtin id)) (hs : NoStar X (e :: es)) (hn : x ≠ "__name__" := by decide +kernel) (hdb : (x == ("__debug__" : Str)) = false := by decide +kernel)
    (hpl : (backTo pos (starEach es X.env)).any (·.1) = false := by rfl) : EvN X (.Call (.Name x p) (e :: es) [] pos) (e :: es) (UC X (.builtin id)) := fun σ H Q h =>
  UE.of (pe_callB ucR hg hm hv (paN hs) hn hdb hs.1 hpl) h
theorem ev_callT {x : Str} {T : String} {p : Pos} (hg : Gl X x) (hm : X.mg x = none) (hv : bootBuiltins x = some (.type T)) (hs : NoStar X (e :: es)) (hn : x ≠ "__name__" := by decide +kernel) (hdb : (x == ("__debug__" : Str)) = false := by decide +kernel)
    (hpl : (backTo pos (starEach es X.env)).any (·.1) = false := by rfl) : EvN X (.Call (.Name x p) (e :: es) [] pos) (e :: es) (UC X (.type T)) := fun σ H Q h =>
  UE.of (pe_callTy ucR hg hm hv (paN hs) hn hdb hs.1 hpl) h
def gLen : List D → Option D
  | [.lst ds] => some (.int ds.length)
  | [.tup ds] => some (.int ds.length)
  | [.str z] => if z.length ≤ sizeLine then some (.int z.length) else none
  | [.dk ks ds] => some (.int ds.length)
  | [.dt ks ds] => some (.int ds.length)
  | [.scr ns] => some (.int ns.length)
  | _ => none
theorem o_len : Op X.K [j] 0 (UC X (.builtin "len")) gLen := by
  intro S H ds vs z Q fr r e q
  obtain ⟨d, x, rfl, rfl, h1⟩ := r.one
  unfold gLen at e
  split at e
  · rename_i ds he; cases he; cases e
    obtain ⟨a, vs, rfl, h2, _, h3⟩ := h1.lst
    exact ⟨_, call_len_seq, a, vs, rfl, .inl (.of h2), by rw [← h3.length]; exact q _ H (Grow.refl H) rq_int⟩
  · rename_i ds he; cases he; cases e
    obtain ⟨a, vs, rfl, h2, h3⟩ := h1.tup
    exact ⟨_, call_len_seq, a, vs, rfl, .inr (.of h2), by rw [← h3.length]; exact q _ H (Grow.refl H) rq_int⟩
  · rename_i z' he; cases he
    split at e
    · cases e
      rename_i hz
      rw [h1.str]
      exact ⟨_, call_len_str, _, rfl, hz, q _ H (Grow.refl H) rq_int⟩
    · cases e
  · rename_i ks ds he; cases he; cases e
    obtain ⟨a, vs, rfl, h2, hl, _, h3⟩ := h1.dk
    have e1 : (ks.zip vs).length = ds.length := by rw [List.length_zip, hl, Nat.min_self, h3.length]
    exact ⟨_, call_lenD, a, _, rfl, h2, by rw [e1]; exact q _ H (Grow.refl H) rq_int⟩
  · rename_i ks ds he; cases he; cases e
    obtain ⟨a, vs, rfl, h2, hl, _, h3⟩ := h1.dt
    have e1 : (ks.zip vs).length = ds.length := by rw [List.length_zip, hl, Nat.min_self, h3.length]
    exact ⟨_, call_len_dT, a, _, rfl, h2, by rw [e1]; exact q _ H (Grow.refl H) rq_int⟩
  · rename_i ns he; cases he; cases e
    obtain ⟨a, rfl, h2⟩ := h1.scr
    exact ⟨_, call_len_seq, a, _, rfl, .inl h2.sq, by rw [List.length_map]; exact q _ H (Grow.refl H) rq_int⟩
  · cases e
def gListOf : List D → Option (List D)
  | [.lst ds] => some ds
  | [.tup ds] => some ds
  | [.scr ns] => some (ns.map .int)
  | _ => none
theorem o_list : OpL X.K [1] (UC X (.type "list")) gListOf := by
  intro S H ds vs z Q fr r e q
  obtain ⟨d, x, rfl, rfl, h1⟩ := r.one
  unfold gListOf at e
  split at e
  · rename_i ds he; cases he; cases e
    obtain ⟨a, vs, rfl, h2, h3⟩ := h1.sq1
    exact ⟨_, call_list_of, a, vs, rfl, .inl (.of h2), fun p hp => q p _ _ (Grow.upd hp) hp upd_same h3⟩
  · rename_i ds he; cases he; cases e
    obtain ⟨a, vs, rfl, h2, h3⟩ := h1.tup
    exact ⟨_, call_list_of, a, vs, rfl, .inr (.of h2), fun p hp => q p _ _ (Grow.upd hp) hp upd_same h3⟩
  · rename_i ds he; cases he; cases e
    obtain ⟨a, rfl, h2⟩ := h1.scr
    exact ⟨_, call_list_of, a, _, rfl, .inl h2.sq, fun p hp => q p _ _ (Grow.upd hp) hp upd_same .ofInts⟩
  · cases e
def gTupOf : List D → Option D
  | [.lst ds] => some (.tup ds)
  | [.tup ds] => some (.tup ds)
  | _ => none
theorem o_tuple : Op X.K [1] 0 (UC X (.type "tuple")) gTupOf := by
  intro S H ds vs z Q fr r e q
  obtain ⟨d, x, rfl, rfl, h1⟩ := r.one
  unfold gTupOf at e
  split at e
  · rename_i ds he; cases he; cases e
    obtain ⟨a, vs, rfl, h2, h3⟩ := h1.sq1
    exact ⟨_, call_tuple_of, a, vs, rfl, .inl ⟨.of h2, fun p hp => q _ _ (Grow.upd hp) (new_tup hp h3)⟩⟩
  · rename_i ds he; cases he; cases e
    obtain ⟨a, vs, rfl, h2, h3⟩ := h1.tup
    exact ⟨_, call_tuple_of, a, vs, rfl, .inr ⟨.of h2, q _ H (Grow.refl H) (rq_tup h2 h3)⟩⟩
  · cases e
def gInt : List D → Option D
  | [.int i] => some (.int i)
  | [.bl k] => some (.int (if k then 1 else 0))
  | _ => none
theorem o_int : Op X.K [j] 0 (UC X (.type "int")) gInt := by
  intro S H ds vs z Q fr r e q
  obtain ⟨d, x, rfl, rfl, h1⟩ := r.one
  unfold gInt at e
  split at e
  · rename_i i he; cases he; cases e
    rw [h1.int]
    exact ⟨_, call_int1, .inl ⟨_, rfl, q _ H (Grow.refl H) rq_int⟩⟩
  · rename_i i he; cases he; cases e
    rw [h1.bl]
    exact ⟨_, call_int1, .inr ⟨_, rfl, q _ H (Grow.refl H) rq_int⟩⟩
  · cases e
def gAbs : List D → Option D
  | [.int i] => some (.int (if i < 0 then -i else i))
  | _ => none
theorem o_abs : Op X.K [j] 0 (UC X (.builtin "abs")) gAbs := by
  intro S H ds vs z Q fr r e q
  obtain ⟨d, x, rfl, rfl, h1⟩ := r.one
  unfold gAbs at e
  split at e
  · rename_i i he; cases he; cases e
    rw [h1.int]
    exact ⟨_, call_abs, _, rfl, q _ H (Grow.refl H) rq_int⟩
  · cases e
def gMax2 : List D → Option D
  | [.int i, .int k] => some (.int (if k > i then k else i))
  | _ => none
def gMin2 : List D → Option D
  | [.int i, .int k] => some (.int (if k < i then k else i))
  | _ => none
theorem o_max2 (hc : X.calm = true) : Op X.K [0, 0] 0 (UC X (.builtin "max")) gMax2 := by
  intro S H ds vs z Q fr r e q
  obtain ⟨d, d', x, y, rfl, rfl, h1, h2⟩ := r.two
  unfold gMax2 at e
  split at e
  · rename_i i k he; cases he; cases e
    rw [h1.int, h2.int]
    exact ⟨_, call_max2 hc, _, _, rfl, q _ H (Grow.refl H) rq_int⟩
  · cases e
theorem o_min2 (hc : X.calm = true) : Op X.K [0, 0] 0 (UC X (.builtin "min")) gMin2 := by
  intro S H ds vs z Q fr r e q
  obtain ⟨d, d', x, y, rfl, rfl, h1, h2⟩ := r.two
  unfold gMin2 at e
  split at e
  · rename_i i k he; cases he; cases e
    rw [h1.int, h2.int]
    exact ⟨_, call_min2 hc, _, _, rfl, q _ H (Grow.refl H) rq_int⟩
  · cases e
end
end VL

set_option Elab.async false
set_option linter.all false
set_option maxRecDepth 100000
set_option maxHeartbeats 1000000
namespace VL
open PySem PySem.Spec PyProof.Rows L2

/-! ### what is walked -/
def UI (X : Cx) (tg iter : Expr) : TI := fun σ H R => ∀ pins s, Inv X pins σ H s → wpAny (model X.prog X.w) X.A (eval iter X.env) (fun v s1 => wpAny (model X.prog X.w) X.A (pyIter v) (PIE X pins σ tg R) X.xe s1) X.xe s
theorem piU {X : Cx} {tg iter : Expr} : PI X tg iter (UI X tg iter) := ⟨fun pins s _ _ _ I h => h pins s I⟩
theorem UI.of {X : Cx} {tg iter : Expr} {w : TI} {σ : Sg} {H : Hp} {R : It → Hp → Prop} (h : PI X tg iter w) (q : w σ H R) : UI X tg iter σ H R := fun pins s I => h.run pins s σ H R I q
/-- J gives the data ds, one after another, while G holds -/
structure Src (K : PySem.W.Frag) (J : It) (ds : List D) (G : (Addr → Prop) → Hp → Prop) : Prop where
  go : ∀ S H i, i < ds.length → G S H → J.go i H
  stop : ∀ S H, G S H → J.stop ds.length H
  yld : ∀ S H i v H', (∀ p, H p = none → S p) → i < ds.length → G S H → J.yld i H v H' → Grow H H' ∧ ∃ d, ds[i]? = some d ∧ Rq K S H' 0 d v
def Grows (G : (Addr → Prop) → Hp → Prop) : Prop := ∀ S S' H H', (∀ a, S a → H a ≠ none → S' a) → Grow H H' → G S H → G S' H'
def Stays (G : (Addr → Prop) → Hp → Prop) : Prop := ∀ S S' H H', (∀ a, S a → H a ≠ none → S' a) → (∀ a o, H a = some o → (S a ∨ (∃ ys, o = .tup ys) ∨ (∃ ob u, o = .frz ob u)) → H' a = some o) → G S H → G S' H'
theorem Stays.grows {G : (Addr → Prop) → Hp → Prop} (h : Stays G) : Grows G := fun S S' H H' hs g => h S S' H H' hs fun a o e _ => g a o e
/-- walked, its source shared (so that the body of a for may write), or within a comprehension -/
def SIt (b : Bool) (X : Cx) (m : List Nat) (tg iter : Expr) (f : Rho → Rs (List D)) : Prop :=
  ∀ (R : Addr → Prop) (σ : Sg) (H : Hp) (ρ : Rho) (Ls : Nat → List Addr) (Q : It → Hp → Prop) (W : WX), SR X.K R H σ ρ m Ls → Takes X W →
    (match f ρ with
      | .ok ds => ∀ J H' G, Grow H H' → Src X.K J ds G → (if b = true then Stays G else Grows G) → G (Sh R Ls) H' → Q J H'
      | .err x => ∀ cls dd H', Grow H H' → ExIs X.K x cls dd H' → W cls dd σ H'
      | .bad => False) → UI X tg iter σ H Q
section
variable {X : Cx} {m : List Nat} {tg e e2 : Expr} {es : List Expr} {pos p tpos : Pos}
theorem SIt.weak {b : Bool} {f : Rho → Rs (List D)} (h : SIt b X m tg e f) : SIt false X m tg e f := by
  intro R σ H ρ Ls Q W s tk q
  refine h R σ H ρ Ls Q W s tk ?_
  cases e1 : f ρ with
  | bad => rw [e1] at q; exact q
  | err x => rw [e1] at q; exact q
  | ok ds =>
    rw [e1] at q
    intro J H' G g sr st gg
    refine q J H' G g sr ?_ gg
    cases b with
    | true => exact (show Stays G from st).grows
    | false => exact st
def GL (K : PySem.W.Frag) (a : Addr) (vs : List V) (ds : List D) : (Addr → Prop) → Hp → Prop := fun S H => H a = some (.lst vs) ∧ S a ∧ Rqs K S H 0 ds vs
def GLp (K : PySem.W.Frag) (a : Addr) (vs : List V) (ds : List D) : (Addr → Prop) → Hp → Prop := fun S H => H a = some (.lst vs) ∧ Rqs K S H 0 ds vs
def GT (K : PySem.W.Frag) (a : Addr) (vs : List V) (ds : List D) : (Addr → Prop) → Hp → Prop := fun S H => H a = some (.tup vs) ∧ Rqs K S H 0 ds vs
theorem rqs_stay {K : PySem.W.Frag} {S S' : Addr → Prop} {H H' : Hp} {ds : List D} {vs : List V} (hs : ∀ a, S a → H a ≠ none → S' a) (k : ∀ a o, H a = some o → (S a ∨ (∃ ys, o = .tup ys) ∨ (∃ ob u, o = .frz ob u)) → H' a = some o) (h : Rqs K S H 0 ds vs) : Rqs K S' H' 0 ds vs :=
  Rqs.stay hs ds 0 vs (fun a o e z => k a o e (z.elim (fun y => absurd y (Nat.lt_irrefl _)) id)) h
theorem gl_stays {K : PySem.W.Frag} {a : Addr} {vs : List V} {ds : List D} : Stays (GL K a vs ds) := fun S S' H H' hs k h => ⟨k _ _ h.1 (.inl h.2.1), hs a h.2.1 (by rw [h.1]; simp), rqs_stay hs k h.2.2⟩
theorem glp_grows {K : PySem.W.Frag} {a : Addr} {vs : List V} {ds : List D} : Grows (GLp K a vs ds) := fun S S' H H' hs g h => ⟨g _ _ h.1, h.2.grow g hs⟩
theorem gt_stays {K : PySem.W.Frag} {a : Addr} {vs : List V} {ds : List D} : Stays (GT K a vs ds) := fun S S' H H' hs k h => ⟨k _ _ h.1 (.inr (.inl ⟨_, rfl⟩)), rqs_stay hs k h.2⟩
theorem src_glp {K : PySem.W.Frag} {a : Addr} {vs : List V} {ds : List D} (hl : ds.length = vs.length) : Src K (Itl K a) ds (GLp K a vs ds) where
  go := fun S H i hi h => walk_list.goes i H (by rw [← hl]; exact hi) (.of h.1)
  stop := fun S H h => by rw [hl]; exact walk_list.stops H (.of h.1)
  yld := fun S H i v H' fr hi h y => by
    obtain ⟨e, e1⟩ := walk_list.yields i H v H' (by rw [← hl]; exact hi) (.of h.1) y
    subst e
    obtain ⟨d, e2, r⟩ := h.2.getV e1
    exact ⟨Grow.refl _, d, e2, r⟩
theorem src_gl {K : PySem.W.Frag} {a : Addr} {vs : List V} {ds : List D} (hl : ds.length = vs.length) : Src K (Itl K a) ds (GL K a vs ds) where
  go := fun S H i hi h => (src_glp hl).go S H i hi ⟨h.1, h.2.2⟩
  stop := fun S H h => (src_glp hl).stop S H ⟨h.1, h.2.2⟩
  yld := fun S H i v H' fr hi h y => (src_glp hl).yld S H i v H' fr hi ⟨h.1, h.2.2⟩ y
theorem src_gt {K : PySem.W.Frag} {a : Addr} {vs : List V} {ds : List D} (hl : ds.length = vs.length) : Src K (Itt K a) ds (GT K a vs ds) where
  go := fun S H i hi h => walk_tup.goes i H (by rw [← hl]; exact hi) (.of h.1)
  stop := fun S H h => by rw [hl]; exact walk_tup.stops H (.of h.1)
  yld := fun S H i v H' fr hi h y => by
    obtain ⟨e, e1⟩ := walk_tup.yields i H v H' (by rw [← hl]; exact hi) (.of h.1) y
    subst e
    obtain ⟨d, e2, r⟩ := h.2.getV e1
    exact ⟨Grow.refl _, d, e2, r⟩
/-- a list, a tuple, a text -/
def fItems (f : Rho → Rs D) : Rho → Rs (List D) := fun ρ => match f ρ with
  | .ok (.lst ds) => .ok ds
  | .ok (.tup ds) => .ok ds
  | .ok (.str z) => .ok (z.cps.toList.map fun c => .str ⟨#[c]⟩)
  | .ok _ => .bad
  | .err x => .err x
  | .bad => .bad
theorem si_str {b : Bool} {z : Str} {σ : Sg} {H : Hp} {Q : It → Hp → Prop} {S : Addr → Prop} (h : UE X e σ H fun v H' => v = .str z ∧ Grow H H')
    (q : ∀ J H' G, Grow H H' → Src X.K J (z.cps.toList.map fun c => .str ⟨#[c]⟩) G → (if b = true then Stays G else Grows G) → G S H' → Q J H') : UI X tg e σ H Q := by
  refine UI.of (pi_str peU) (h.mono fun v H' ⟨e1, g⟩ => ⟨z, e1, q _ H' (fun _ _ => True) g ⟨fun S H i hi _ => ?_, fun S H _ => ?_, fun S H i v H' fr hi _ y => ?_⟩ ?_ trivial⟩)
  · show i < z.cps.size
    simpa using hi
  · show z.cps.size ≤ _
    exact Nat.le_of_eq (by simp)
  · obtain ⟨e2, c, e3, rfl⟩ := y
    subst e2
    refine ⟨Grow.refl _, .str ⟨#[c]⟩, ?_, rq_str⟩
    rw [List.getElem?_map, Array.getElem?_toList, e3]; rfl
  · cases b
    · exact fun _ _ _ _ _ _ _ => trivial
    · exact fun _ _ _ _ _ _ _ => trivial
theorem si_shared {f : Rho → Rs D} (h : SP X m 0 e f) : SIt true X m tg e (fItems f) := by
  intro R σ H ρ Ls Q W s tk q
  unfold fItems at q
  cases e1 : f ρ with
  | bad => rw [e1] at q; exact q.elim
  | err x =>
    rw [e1] at q
    refine UI.of (pi_list peU) (h R σ H ρ Ls _ W s tk ?_)
    rw [e1]; exact q
  | ok d =>
    rw [e1] at q
    cases d with
    | lst ds =>
      refine UI.of (pi_list peU) (h R σ H ρ Ls _ W s tk ?_)
      rw [e1]
      intro v H' g r
      obtain ⟨a, vs, rfl, h1, hs, h2⟩ := r.lst
      exact ⟨a, rfl, ⟨vs, .of h1⟩, q _ H' _ g (src_gl h2.length) gl_stays ⟨h1, hs rfl, h2⟩⟩
    | tup ds =>
      refine UI.of (pi_tup peU) (h R σ H ρ Ls _ W s tk ?_)
      rw [e1]
      intro v H' g r
      obtain ⟨a, vs, rfl, h1, h2⟩ := r.tup
      exact ⟨a, rfl, ⟨vs, .of h1⟩, q _ H' _ g (src_gt h2.length) gt_stays ⟨h1, h2⟩⟩
    | str z =>
      refine si_str (b := true) (z := z) (S := Sh R Ls) (h R σ H ρ Ls _ W s tk ?_) q
      rw [e1]
      exact fun v H' g r => ⟨r.str, g⟩
    | _ => exact q.elim
/-- within a comprehension: an owned list may be walked -/
theorem si_peek {f : Rho → Rs D} (h : SP X m 1 e f) : SIt false X m tg e (fItems f) := by
  intro R σ H ρ Ls Q W s tk q
  unfold fItems at q
  cases e1 : f ρ with
  | bad => rw [e1] at q; exact q.elim
  | err x =>
    rw [e1] at q
    refine UI.of (pi_list peU) (h R σ H ρ Ls _ W s tk ?_)
    rw [e1]; exact q
  | ok d =>
    rw [e1] at q
    cases d with
    | lst ds =>
      refine UI.of (pi_list peU) (h R σ H ρ Ls _ W s tk ?_)
      rw [e1]
      intro v H' g r
      obtain ⟨a, vs, rfl, h1, h2⟩ := r.sq1
      exact ⟨a, rfl, ⟨vs, .of h1⟩, q _ H' _ g (src_glp h2.length) glp_grows ⟨h1, h2⟩⟩
    | tup ds =>
      refine UI.of (pi_tup peU) (h R σ H ρ Ls _ W s tk ?_)
      rw [e1]
      intro v H' g r
      obtain ⟨a, vs, rfl, h1, h2⟩ := r.tup
      exact ⟨a, rfl, ⟨vs, .of h1⟩, q _ H' _ g (src_gt h2.length) gt_stays.grows ⟨h1, h2⟩⟩
    | str z =>
      refine si_str (b := false) (z := z) (S := Sh R Ls) (h R σ H ρ Ls _ W s tk ?_) q
      rw [e1]
      exact fun v H' g r => ⟨r.str, g⟩
    | _ => exact q.elim
/-- range -/
def rngI (lo : Int) (n : Nat) : List D := (List.range n).map fun (i : Nat) => .int (lo + (i : Int))
@[irreducible] def fRange (fs : Rho → Rs (List D)) : Rho → Rs (List D) := fun ρ => match fs ρ with
  | .ok [.int n] => if -(2 ^ 62) ≤ n ∧ n < 2 ^ 62 then .ok (rngI 0 n.toNat) else .bad
  | .ok [.int a, .int b] => if -(2 ^ 62) ≤ a ∧ a < 2 ^ 62 ∧ -(2 ^ 62) ≤ b ∧ b < 2 ^ 62 then .ok (rngI a (b - a).toNat) else .bad
  | .ok _ => .bad
  | .err x => .err x
  | .bad => .bad
theorem src_rng {K : PySem.W.Frag} {lo : Int} {n : Nat} : Src K (Itr lo n) (rngI lo n) (fun _ _ => True) where
  go := fun S H i hi _ => by unfold rngI at hi; rw [List.length_map, List.length_range] at hi; exact hi
  stop := fun S H _ => by unfold rngI; rw [List.length_map, List.length_range]; exact Nat.le_refl _
  yld := fun S H i v H' fr hi _ y => by
    obtain ⟨e, e1⟩ := y
    subst e
    unfold rngI at hi
    rw [List.length_map, List.length_range] at hi
    refine ⟨Grow.refl _, .int (lo + (i : Int)), ?_, by rw [e1]; exact rq_int⟩
    unfold rngI
    rw [List.getElem?_map, List.getElem?_range hi]; rfl
theorem true_stays : Stays (fun _ _ => True) := fun _ _ _ _ _ _ _ => trivial
theorem si_range1 {f : Rho → Rs D} (hg : Gl X "range") (hm : X.mg "range" = none) (hs : NoStar X [e]) (h : SP X m 0 e f) : SIt true X m tg (.Call (.Name "range" p) [e] [] pos) (fRange (fCons f fun _ => .ok [])) := by
  intro R σ H ρ Ls Q W s tk q
  unfold fRange fCons at q
  refine UI.of (pi_range1 hg hm (paN hs) hs.1) (h R σ H ρ Ls _ W s tk ?_)
  cases e1 : f ρ with
  | bad => rw [e1] at q; exact q
  | err x => rw [e1] at q; exact q
  | ok d =>
    rw [e1] at q
    intro v H' g r
    cases d with
    | int n =>
      simp only [ok_bind, pure_ok] at q
      by_cases hn : -(2 ^ 62) ≤ n ∧ n < 2 ^ 62
      · rw [if_pos hn] at q
        exact ⟨n, by rw [r.int], hn.1, hn.2, q _ H' _ g src_rng true_stays trivial⟩
      · rw [if_neg hn] at q; exact q.elim
    | _ => exact q.elim
theorem si_range2 {f f2 : Rho → Rs D} (hg : Gl X "range") (hm : X.mg "range" = none) (hs : NoStar X [e, e2]) (h : SP X m 0 e f) (h2 : SP X m 0 e2 f2) : SIt true X m tg (.Call (.Name "range" p) [e, e2] [] pos) (fRange (fCons f (fCons f2 fun _ => .ok []))) := by
  intro R σ H ρ Ls Q W s tk q
  unfold fRange fCons at q
  have hs2 : starEach [e, e2] X.env = [(false, eval e X.env), (false, eval e2 X.env)] := by rw [hs.1, hs.2.1]; rfl
  have hs3 : starEach [e2] X.env = [(false, eval e2 X.env)] := by rw [hs.2.1]; rfl
  refine UI.of (pi_range2 hg hm (paN hs) hs2 hs3) (h R σ H ρ Ls _ W s tk ?_)
  cases e1 : f ρ with
  | bad => rw [e1] at q; exact q
  | err x => rw [e1] at q; exact q
  | ok d =>
    rw [e1] at q
    intro v H1 g1 r
    refine h2 R σ H1 ρ Ls _ W (s.grow g1) tk ?_
    cases e3 : f2 ρ with
    | bad => rw [e3] at q; exact q
    | err x => rw [e3] at q; exact fun cls dd H2 g2 z => q cls dd H2 (g1.trans g2) z
    | ok d2 =>
      rw [e3] at q
      intro v2 H' g r2
      cases d with
      | int n =>
        cases d2 with
        | int n2 =>
          simp only [ok_bind, pure_ok] at q
          by_cases hn : -(2 ^ 62) ≤ n ∧ n < 2 ^ 62 ∧ -(2 ^ 62) ≤ n2 ∧ n2 < 2 ^ 62
          · rw [if_pos hn] at q
            exact ⟨n, n2, by rw [r.int, r2.int], hn, q _ H' _ (g1.trans g) src_rng true_stays trivial⟩
          · rw [if_neg hn] at q; exact q.elim
        | _ => exact q.elim
      | _ => exact q.elim
/-- zip of two lists, two tuples -/
def fZip (f f2 : Rho → Rs D) : Rho → Rs (List D) := fun ρ => do
  let x ← f ρ
  let y ← f2 ρ
  match x, y with
  | .lst a, .lst b => .ok ((a.zip b).map fun p => .tup [p.1, p.2])
  | .tup a, .tup b => .ok ((a.zip b).map fun p => .tup [p.1, p.2])
  | _, _ => .bad
def GZ (K : PySem.W.Frag) (a b : Addr) (vs us : List V) (ds es : List D) : (Addr → Prop) → Hp → Prop := fun S H => GLp K a vs ds S H ∧ GLp K b us es S H
def GZT (K : PySem.W.Frag) (a b : Addr) (vs us : List V) (ds es : List D) : (Addr → Prop) → Hp → Prop := fun S H => GT K a vs ds S H ∧ GT K b us es S H
theorem zip_len {ds es : List D} : ((ds.zip es).map fun p => D.tup [p.1, p.2]).length = min ds.length es.length := by rw [List.length_map, List.length_zip]
theorem pair_yld {K : PySem.W.Frag} {S : Addr → Prop} {H H' : Hp} {i : Nat} {v : V} {ds es : List D} {vs us : List V} (h1 : Rqs K S H 0 ds vs) (h2 : Rqs K S H 0 es us) (y : YPair (fun i => vs[i]?) (fun i => us[i]?) i H v H') :
    Grow H H' ∧ ∃ d, ((ds.zip es).map fun p => D.tup [p.1, p.2])[i]? = some d ∧ Rq K S H' 0 d v := by
  obtain ⟨T, x, y', rfl, hT, rfl, e1, e2⟩ := y
  obtain ⟨d1, e3, r1⟩ := h1.getV e1
  obtain ⟨d2, e4, r2⟩ := h2.getV e2
  refine ⟨Grow.upd hT, .tup [d1, d2], ?_, new_tup hT (.cons r1 (.one r2))⟩
  rw [List.getElem?_map, (List.getElem?_zip_eq_some (z := (d1, d2))).mpr ⟨e3, e4⟩]; rfl
theorem src_gz {K : PySem.W.Frag} {a b : Addr} {vs us : List V} {ds es : List D} (hl : ds.length = vs.length) (hl2 : es.length = us.length) : Src K (Itz K a b) ((ds.zip es).map fun p => .tup [p.1, p.2]) (GZ K a b vs us ds es) where
  go := fun S H i hi h => (walk_zip (n := min vs.length us.length) rfl).goes i H (by rw [zip_len, hl, hl2] at hi; exact hi) ⟨.of h.1.1, .of h.2.1⟩
  stop := fun S H h => by rw [zip_len, hl, hl2]; exact (walk_zip rfl).stops H ⟨.of h.1.1, .of h.2.1⟩
  yld := fun S H i v H' fr hi h y => pair_yld h.1.2 h.2.2 ((walk_zip (n := min vs.length us.length) rfl).yields i H v H' (by rw [zip_len, hl, hl2] at hi; exact hi) ⟨.of h.1.1, .of h.2.1⟩ y)
theorem src_gzt {K : PySem.W.Frag} {a b : Addr} {vs us : List V} {ds es : List D} (hl : ds.length = vs.length) (hl2 : es.length = us.length) : Src K (RZ.ItzT K a b) ((ds.zip es).map fun p => .tup [p.1, p.2]) (GZT K a b vs us ds es) where
  go := fun S H i hi h => by
    rw [zip_len, hl, hl2] at hi
    have h1 : i < vs.length := by omega
    have h2 : i < us.length := by omega
    exact ⟨vs, us, vs[i], us[i], .of h.1.1, .of h.2.1, by simp [h1], by simp [h2]⟩
  stop := fun S H h => by rw [zip_len, hl, hl2]; exact ⟨vs, us, .of h.1.1, .of h.2.1, by omega⟩
  yld := fun S H i v H' fr hi h y => by
    obtain ⟨T, x, y', e, hT, e', k1, k2⟩ := y
    exact pair_yld h.1.2 h.2.2 ⟨T, x, y', e, hT, e', k1 vs (.of h.1.1), k2 us (.of h.2.1)⟩
theorem gz_grows {K : PySem.W.Frag} {a b : Addr} {vs us : List V} {ds es : List D} : Grows (GZ K a b vs us ds es) := fun S S' H H' hs g h => ⟨glp_grows S S' H H' hs g h.1, glp_grows S S' H H' hs g h.2⟩
theorem gzt_stays {K : PySem.W.Frag} {a b : Addr} {vs us : List V} {ds es : List D} : Stays (GZT K a b vs us ds es) := fun S S' H H' hs g h => ⟨gt_stays S S' H H' hs g h.1, gt_stays S S' H H' hs g h.2⟩
/-- zip within a comprehension -/
theorem si_zip {elts : List Expr} {kk : Nat} {f f2 : Rho → Rs D} (hg : Gl X "zip") (hm : X.mg "zip" = none) (hs : NoStar X [e, e2]) (h : SP X m 1 e f) (h2 : SP X m 1 e2 f2) : SIt false X m (.Tuple elts kk tpos) (.Call (.Name "zip" p) [e, e2] [] pos) (fZip f f2) := by
  intro R σ H ρ Ls Q W s tk q
  unfold fZip at q
  refine UI.of (RZ.pi_zipA hg hm (paN hs) hs.1 (by rw [hs.2.1]; rfl)) (h R σ H ρ Ls _ W s tk ?_)
  cases e1 : f ρ with
  | bad => rw [e1] at q; exact q
  | err x => rw [e1] at q; exact q
  | ok d =>
    rw [e1, ok_bind] at q
    intro v H1 g1 r
    refine h2 R σ H1 ρ Ls _ W (s.grow g1) tk ?_
    cases e3 : f2 ρ with
    | bad => rw [e3] at q; exact q
    | err x => rw [e3] at q; exact fun cls dd H2 g2 z => q cls dd H2 (g1.trans g2) z
    | ok d2 =>
      rw [e3, ok_bind] at q
      intro v2 H' g r2
      have r' := r.grow g (fun _ z _ => z)
      cases d with
      | lst xs =>
        cases d2 with
        | lst ys =>
          obtain ⟨a, vs, rfl, k1, k2⟩ := r'.sq1
          obtain ⟨b, us, rfl, k3, k4⟩ := r2.sq1
          exact ⟨a, b, vs, us, rfl, .inl ⟨.of k1, .of k3, q _ H' _ (g1.trans g) (src_gz k2.length k4.length) gz_grows ⟨⟨k1, k2⟩, k3, k4⟩⟩⟩
        | _ => exact q.elim
      | tup xs =>
        cases d2 with
        | tup ys =>
          obtain ⟨a, vs, rfl, k1, k2⟩ := r'.tup
          obtain ⟨b, us, rfl, k3, k4⟩ := r2.tup
          exact ⟨a, b, vs, us, rfl, .inr ⟨.of k1, .of k3, q _ H' _ (g1.trans g) (src_gzt k2.length k4.length) gzt_stays.grows ⟨⟨k1, k2⟩, k3, k4⟩⟩⟩
        | _ => exact q.elim
      | _ =>
        cases d2 <;> exact q.elim
end
end VL

set_option Elab.async false
set_option linter.all false
set_option maxRecDepth 100000
set_option maxHeartbeats 1000000
namespace VL
open PySem PySem.Spec PyProof.Rows L2

/-! ### targets of for and of comprehensions -/
def UG (X : Cx) (tg : Expr) : TG := fun v σ H Q => ∀ pins s u, Inv X pins σ H s → RelV v u → wpAny (model X.prog X.w) X.A (assign tg X.env u) (fun _ s' => ∃ σ' H', Inv X pins σ' H' s' ∧ Q σ' H') X.xe s
theorem pgU {X : Cx} {tg : Expr} : PG X tg (UG X tg) := ⟨fun pins s _ _ _ u _ I r h => h pins s u I r⟩
theorem UG.of {X : Cx} {tg : Expr} {t : TG} {v : V} {σ : Sg} {H : Hp} {Q : Sg → Hp → Prop} (h : PG X tg t) (q : t v σ H Q) : UG X tg v σ H Q := fun pins s u I r => h.run pins s σ H v u Q I r q
/-- a target that stores shared data in the slots ts -/
def SG (X : Cx) (m : List Nat) (ts : List Nat) (tg : Expr) (f : D → Rho → Option Rho) : Prop :=
  ∀ (R : Addr → Prop) (σ : Sg) (H : Hp) (ρ : Rho) (Ls : Nat → List Addr) (d : D) (v : V) (ρ' : Rho) (Q : Sg → Hp → Prop), SR X.K R H σ ρ m Ls → Rq X.K (Sh R Ls) H 0 d v → f d ρ = some ρ' →
    (∀ σ', SR X.K R H σ' ρ' m Ls → σ'.length = σ.length → (∀ j, j ∉ ts → σ'[j]? = σ[j]?) → Q σ' H) → UG X tg v σ H Q
section
variable {K : PySem.W.Frag} {R : Addr → Prop} {H : Hp} {σ : Sg} {ρ : Rho} {m : List Nat} {Ls : Nat → List Addr}
theorem SR.nil0 (s : SR K R H σ ρ m Ls) {i : Nat} (h : m.getD i 0 = 0) : Ls i = [] := by
  by_cases q : ∃ d, ρ[i]? = some (some d)
  · obtain ⟨d, q⟩ := q
    obtain ⟨v, _, w⟩ := s.val i d q
    rw [h] at w
    exact w.of_zero.1
  · exact s.emp i fun d e => q ⟨d, e⟩
theorem put_nil {i : Nat} (h : Ls i = []) : put Ls i [] = Ls := by
  funext j
  by_cases q : j = i
  · subst q; rw [put_same, h]
  · rw [put_ne q]
theorem set_getD {i : Nat} (h : m.getD i 0 = 0) : m.set i 0 = m := by
  apply List.ext_getElem?
  intro j
  by_cases q : i = j
  · subst q
    by_cases l : i < m.length
    · rw [List.getElem?_set_self l]
      simp [List.getD, List.getElem?_eq_getElem l] at h
      rw [List.getElem?_eq_getElem l, h]
    · rw [List.getElem?_eq_none (by simpa using l), List.getElem?_eq_none (by simpa using l)]
  · rw [List.getElem?_set_ne q]
theorem SR.set00 {i : Nat} {d : D} {v : V} (s : SR K R H σ ρ m Ls) (o : Rq K (Sh R Ls) H 0 d v) (hi : i < ρ.length) (h : m.getD i 0 = 0) : SR K R H (σ.set i (some v)) (ρ.set i (some d)) m Ls := by
  have q := s.set0 o hi
  rwa [set_getD h, put_nil (s.nil0 h)] at q
theorem SR.forget {i : Nat} {o : Option V} (s : SR K R H σ ρ m Ls) (h : m.getD i 0 = 0) : SR K R H (σ.set i o) (ρ.set i none) m Ls := by
  refine ⟨by simp [s.len], by simp [s.mlen], fun j d e => ?_, fun j e => ?_, s.nd, s.dj, s.sep, s.dom⟩
  · by_cases q : i = j
    · subst q
      by_cases l : i < ρ.length
      · rw [List.getElem?_set_self l] at e; cases e
      · rw [List.getElem?_eq_none (by simpa using l)] at e; cases e
    · rw [List.getElem?_set_ne q] at e ⊢
      exact s.val j d e
  · by_cases q : i = j
    · subst q; exact s.nil0 h
    · exact s.emp j fun d z => e d (by rw [List.getElem?_set_ne q]; exact z)
end
section
variable {X : Cx} {m : List Nat} {tg e : Expr} {es : List Expr} {pos : Pos}
def gN (i : Nat) : D → Rho → Option Rho := fun d ρ => if i < ρ.length then some (ρ.set i (some d)) else none
theorem sg_name {i : Nat} {x : Str} (hN : X.N.Nodup) (h0 : m.getD i 0 = 0 := by decide) (hi : X.N[i]? = some x := by rfl) (hx : Loc X.env.scope x := by first | exact Or.inl rfl | exact Or.inr rfl) (hf : X.fn x = true ∨ X.env.scope.names.lookup x = some .local := by first | exact .inl rfl | exact .inr rfl) :
    SG X m [i] (.Name x pos) (gN i) := by
  intro R σ H ρ Ls d v ρ' Q s r e q
  unfold gN at e
  split at e
  · rename_i hl
    cases e
    refine UG.of (pg_name hN hi hx hf) (q _ (s.set00 r hl h0) (by simp) fun j hj => ?_)
    rw [List.getElem?_set_ne (fun z => hj (by simp [z]))]
  · cases e
/-- a, b = .. -/
def gT2 (f g : D → Rho → Option Rho) : D → Rho → Option Rho := fun d ρ => match d with
  | .tup [x, y] => (f x ρ).bind (g y)
  | _ => none
theorem sg_two {a b : Expr} {k : Nat} {f g : D → Rho → Option Rho} {ts us : List Nat} (hc : X.calm = true) (h : SG X m ts a f) (h' : SG X m us b g)
    (hs : (assignEach [a, b] X.env).map (·.2) = assign a X.env :: (assignEach [b] X.env).map (·.2) := by rfl) (hs1 : (assignEach [b] X.env).map (·.2) = assign b X.env :: (assignEach [] X.env).map (·.2) := by rfl)
    (hn : (assignEach [a, b] X.env).length = 2 := by rfl) (hst : (assignEach [a, b] X.env).findIdx? (·.1) = none := by rfl) : SG X m (ts ++ us) (.Tuple [a, b] k pos) (gT2 f g) := by
  intro R σ H ρ Ls d v ρ' Q s r e q
  unfold gT2 at e
  split at e
  · rename_i x y
    obtain ⟨t, vs, rfl, ht, hr⟩ := r.tup
    obtain ⟨v1, r', rfl, h1, hr'⟩ := hr.inv
    obtain ⟨v2, r'', rfl, h2, hr''⟩ := hr'.inv
    cases hr''.inv0
    cases e1 : f x ρ with
    | none => rw [e1] at e; cases e
    | some ρ1 =>
      rw [e1] at e
      have e2 : g y ρ1 = some ρ' := e
      refine UG.of (pg_tup (n := 2) hc (pgs_cons pgU (pgs_cons pgU pgs_nil hs1) hs) hn hst) ⟨t, [v1, v2], rfl, .of ht, rfl, v1, [v2], rfl, ?_⟩
      refine h R σ H ρ Ls x v1 ρ1 _ s h1 e1 fun σ1 s1 l1 k1 => ⟨v2, [], rfl, ?_⟩
      refine h' R σ1 H ρ1 Ls y v2 ρ' _ s1 h2 e2 fun σ2 s2 l2 k2 => ⟨rfl, q σ2 s2 (l2.trans l1) fun j hj => ?_⟩
      rw [List.mem_append, not_or] at hj
      exact (k2 j hj.2).trans (k1 j hj.1)
  · cases e

/-! ### comprehensions -/
def wipeR (ρ : Rho) : List Nat → Rho
  | [] => ρ
  | v :: vs => (wipeR ρ vs).set v none
theorem SR.wipe {K : PySem.W.Frag} {R : Addr → Prop} {H : Hp} {σ : Sg} {ρ : Rho} {Ls : Nat → List Addr} (s : SR K R H σ ρ m Ls) : ∀ {vs : List Nat}, (∀ i ∈ vs, m.getD i 0 = 0) → SR K R H (wipe σ vs) (wipeR ρ vs) m Ls
  | [], _ => s
  | v :: vs, h => by
    unfold L2.wipe wipeR
    exact (SR.wipe s fun i hi => h i (List.mem_cons_of_mem _ hi)).forget (h v List.mem_cons_self)
theorem wipe_get {σ : Sg} : ∀ {vs : List Nat} {j : Nat}, (wipe σ vs)[j]? = if j ∈ vs then (if j < σ.length then some none else none) else σ[j]?
  | [], j => by simp [wipe]
  | v :: vs, j => by
    unfold wipe
    by_cases q : v = j
    · subst q
      by_cases l : v < σ.length
      · rw [List.getElem?_set_self (by rw [wipe_length]; exact l)]; simp [l]
      · rw [List.getElem?_eq_none (by rw [List.length_set, wipe_length]; omega)]; simp [l]
    · rw [List.getElem?_set_ne q, wipe_get]
      have : j ∈ v :: vs ↔ j ∈ vs := by simp [Ne.symm q]
      simp only [this]
theorem wipe_same {σ σ' : Sg} {vs ts : List Nat} (hl : σ'.length = (wipe σ vs).length) (k : ∀ j, j ∉ ts → σ'[j]? = (wipe σ vs)[j]?) (ht : ∀ j ∈ ts, j ∈ vs) : wipe σ' vs = wipe σ vs := by
  apply List.ext_getElem?
  intro j
  rw [wipe_get, wipe_get]
  by_cases q : j ∈ vs
  · rw [if_pos q, if_pos q, hl, wipe_length]
  · rw [if_neg q, if_neg q, k j (fun z => q (ht j z)), wipe_get, if_neg q]
/-- within a comprehension an error has no way out -/
def nx {α : Type} : Rs α → Rs α
  | .err _ => .bad
  | r => r
@[simp] theorem nx_ok {α : Type} (a : α) : nx (.ok a) = .ok a := rfl
def lcGo (tg : D → Rho → Option Rho) (ft : Rho → Rs Bool) (fe : Rho → Rs D) (ρ : Rho) : List D → Rs (List D)
  | [] => .ok []
  | d :: ds => match tg d ρ with
    | none => .bad
    | some ρ' => do
      let k ← nx (ft ρ')
      if k then do
        let y ← nx (fe ρ')
        let r ← lcGo tg ft fe ρ ds
        pure (y :: r)
      else lcGo tg ft fe ρ ds
theorem lcGo_noerr {tg : D → Rho → Option Rho} {ft : Rho → Rs Bool} {fe : Rho → Rs D} {ρ : Rho} {x : Exn} : ∀ {ds : List D}, lcGo tg ft fe ρ ds = .err x → False
  | [], h => by unfold lcGo at h; cases h
  | d :: ds, h => by
    unfold lcGo at h
    cases e3 : tg d ρ with
    | none => rw [e3] at h; cases h
    | some ρ1 =>
      rw [e3] at h
      dsimp only at h
      cases e4 : ft ρ1 with
      | bad => rw [e4] at h; cases h
      | err z => rw [e4] at h; cases h
      | ok b =>
        rw [e4] at h
        simp only [nx_ok, ok_bind] at h
        cases b with
        | false => rw [if_neg (by decide)] at h; exact lcGo_noerr h
        | true =>
          rw [if_pos rfl] at h
          cases e5 : fe ρ1 with
          | bad => rw [e5] at h; cases h
          | err z => rw [e5] at h; cases h
          | ok y =>
            rw [e5] at h
            simp only [nx_ok, ok_bind] at h
            cases e6 : lcGo tg ft fe ρ ds with
            | bad => rw [e6] at h; cases h
            | err z => exact lcGo_noerr e6
            | ok r => rw [e6] at h; cases h
def fLc (vs : List Nat) (fi : Rho → Rs (List D)) (tg : D → Rho → Option Rho) (ft : Rho → Rs Bool) (fe : Rho → Rs D) : Rho → Rs D := fun ρ => do
  let ds ← fi ρ
  if ds.length ≤ sizeLine then do
    let r ← lcGo tg ft fe (wipeR ρ vs) ds
    pure (.lst r)
  else .bad
/-- tests of a comprehension -/
def UTs (X : Cx) (ifs : List Expr) : TT := fun σ H Q => ∃ t : TT, PTs X ifs t ∧ t σ H Q
theorem ptsU {ifs : List Expr} : PTs X ifs (UTs X ifs) := ⟨fun pins s σ H Q I h => by obtain ⟨t, ht, q⟩ := h; exact ht.run pins s σ H Q I q⟩
def STs (X : Cx) (m : List Nat) (ifs : List Expr) (f : Rho → Rs Bool) : Prop :=
  ∀ (R : Addr → Prop) (σ : Sg) (H : Hp) (ρ : Rho) (Ls : Nat → List Addr) (Q : Bool → Hp → Prop) (W : WX), SR X.K R H σ ρ m Ls → Takes X W →
    (match f ρ with
      | .ok b => ∀ H', Grow H H' → Q b H'
      | .err x => ∀ cls dd H', Grow H H' → ExIs X.K x cls dd H' → W cls dd σ H'
      | .bad => False) → UTs X ifs σ H Q
def fYes : Rho → Rs Bool := fun _ => .ok true
theorem sts_nil : STs X m [] fYes := fun R σ H ρ Ls Q W s tk q => ⟨tYes, pts_nil, q H (Grow.refl H)⟩
theorem sts_one {f : Rho → Rs Bool} (h : SB X m e f) : STs X m [e] f := fun R σ H ρ Ls Q W s tk q => ⟨UT X e, pts_one ptU, h R σ H ρ Ls Q W s tk q⟩
theorem OwsW.snoc {P : D → V → List Addr → Prop} {d : D} {v : V} {L' : List Addr} (hd : P d v L') : ∀ {ds : List D} {vs : List V} {L : List Addr}, OwsW P ds vs L → OwsW P (ds ++ [d]) (vs ++ [v]) (L ++ L')
  | [], _, _, h => by
    unfold OwsW at h
    obtain ⟨rfl, rfl⟩ := h
    exact ⟨v, [], L', [], rfl, by simp, hd, rfl, rfl⟩
  | d' :: ds, _, _, h => by
    unfold OwsW at h
    obtain ⟨v', r, L1, L2, rfl, rfl, h1, h2⟩ := h
    exact ⟨v', r ++ [v], L1, L2 ++ L', rfl, by rw [List.append_assoc], h1, OwsW.snoc hd h2⟩
theorem OwsW.len {P : D → V → List Addr → Prop} : ∀ {ds : List D} {vs : List V} {L : List Addr}, OwsW P ds vs L → ds.length = vs.length
  | [], _, _, h => by unfold OwsW at h; rw [h.1]; rfl
  | d' :: ds, _, _, h => by
    unfold OwsW at h
    obtain ⟨v', r, L1, L2, rfl, rfl, h1, h2⟩ := h
    simp [OwsW.len h2]
/-- objects L that came since H0 are held aside -/
theorem SR.aside {K : PySem.W.Frag} {R : Addr → Prop} {H0 H : Hp} {σ : Sg} {ρ : Rho} {Ls : Nat → List Addr} {L : List Addr} (s : SR K R H0 σ ρ m Ls) (g : Grow H0 H) (n : ∀ a ∈ L, H0 a = none) (n' : ∀ a ∈ L, H a ≠ none) : SR K (RU R L) H σ ρ m Ls :=
  by
  refine ⟨s.len, s.mlen, fun i d e => ?_, s.emp, s.nd, s.dj, fun i a ha w => ?_, fun a w => ?_⟩
  · obtain ⟨v, h1, h2⟩ := s.val i d e
    refine ⟨v, h1, h2.grow g fun a z nz => ⟨fun w => ?_, z.2⟩⟩
    rcases w with w | w
    · exact z.1 w
    · exact nz (n a w)
  · rcases w with w | w
    · exact s.sep i a ha w
    · obtain ⟨o, e, _⟩ := s.mem ha
      rw [n a w] at e; cases e
  · rcases w with w | w
    · intro z; exact s.dom a w (g.dom z)
    · exact n' a w
/-- the parts of a comprehension's block, in every block's context -/
def BG (X : Cx) (scope : Scope) (tg : Expr) : TG := fun v σ H Q => ∀ (s : Shared) (H0 : Hp) (C : Addr) (cl : List (Str × Addr)) (fp : List Addr), UG (X.blk s H0 scope (compEnvC scope cl C X.env) fp) tg v σ H Q
def BT (X : Cx) (scope : Scope) (ifs : List Expr) : TT := fun σ H Q => ∀ (s : Shared) (H0 : Hp) (C : Addr) (cl : List (Str × Addr)) (fp : List Addr), UTs (X.blk s H0 scope (compEnvC scope cl C X.env) fp) ifs σ H Q
def BE (X : Cx) (scope : Scope) (elt : Expr) : TE := fun σ H Q => ∀ (s : Shared) (H0 : Hp) (C : Addr) (cl : List (Str × Addr)) (fp : List Addr), UE (X.blk s H0 scope (compEnvC scope cl C X.env) fp) elt σ H Q
theorem lc_read {k : Nat} {elt iter : Expr} {ifs : List Expr} {scope : Scope} {own : List (Str × Nat)} {ts : List Nat} {fi : Rho → Rs (List D)} {tgf : D → Rho → Option Rho} {ft : Rho → Rs Bool} {fe : Rho → Rs D}
    (hi : SIt false X m tg iter fi) (hm0 : ∀ i ∈ own.map (·.2), m.getD i 0 = 0) (hts : ∀ j ∈ ts, j ∈ own.map (·.2))
    (hg : ∀ (s : Shared) (H : Hp) (C : Addr) (cl : List (Str × Addr)) (fp : List Addr), SG (X.blk s H scope (compEnvC scope cl C X.env) fp) m ts tg tgf)
    (ht : ∀ (s : Shared) (H : Hp) (C : Addr) (cl : List (Str × Addr)) (fp : List Addr), STs (X.blk s H scope (compEnvC scope cl C X.env) fp) m ifs ft)
    (he : ∀ (s : Shared) (H : Hp) (C : Addr) (cl : List (Str × Addr)) (fp : List Addr), SF (X.blk s H scope (compEnvC scope cl C X.env) fp) m k elt fe) :
    SFr X (tLc (UI X tg iter) (BG X scope tg) (BT X scope ifs) (BE X scope elt) (own.map (·.2))) m (k + 1) (fLc (own.map (·.2)) fi tgf ft fe) := by
  intro R σ H ρ Ls Q W s tk q
  unfold fLc at q
  refine hi R σ H ρ Ls _ W s tk ?_
  cases e1 : fi ρ with
  | bad => rw [e1] at q; exact q
  | err x => rw [e1] at q; exact q
  | ok ds =>
    rw [e1, ok_bind] at q
    intro J H1 G g1 sr gr gS A hA
    by_cases hz : ds.length ≤ sizeLine
    · rw [if_pos hz] at q
      cases e2 : lcGo tgf ft fe (wipeR ρ (own.map (·.2))) ds with
      | bad => rw [e2] at q; exact q.elim
      | err x =>
        exact (lcGo_noerr e2).elim
      | ok fin =>
        rw [e2] at q
        have s0 : SR X.K R H1 (wipe σ (own.map (·.2))) (wipeR ρ (own.map (·.2))) m Ls := (s.grow g1).wipe hm0
        refine lc_it (g := BG X scope tg) (tt := BT X scope ifs) (te := BE X scope elt) (vs := own.map (·.2)) (σ := σ) (H1 := H1) (D := A) (Qd := fun H' => Q (.ref A) H') (n := ds.length) (G := fun H' => ∃ S, (∀ p, H' p = none → S p) ∧ G S H') (Y := fun i Ha v Hb => Grow Ha Hb ∧ ∀ S, (∀ p, Ha p = none → S p) → G S Ha → ∃ d, ds[i]? = some d ∧ Rq X.K S Hb 0 d v)
          ⟨fun i Ha hi ⟨S, _, gg⟩ => sr.go S Ha i hi gg, fun Ha ⟨S, _, gg⟩ => sr.stop S Ha gg, fun i Ha v Hb hi ⟨S, fr, gg⟩ y => ⟨(sr.yld S Ha i v Hb fr hi gg y).1, fun S' fr' gg' => (sr.yld S' Ha i v Hb fr' hi gg' y).2⟩⟩
          (fun i H' => ∃ acc L done rest, H' A = some (.lst acc) ∧ OwsW (Ow X.K (Sh (RU R (A :: L)) Ls) H' k) done acc L ∧ L.Nodup ∧ A ∉ L ∧ (∀ a ∈ L, H1 a = none) ∧ acc.length ≤ i ∧ Grow H1 H' ∧
            lcGo tgf ft fe (wipeR ρ (own.map (·.2))) (ds.drop i) = .ok rest ∧ fin = done ++ rest) ?_ ?_ ?_ ?_
        · exact ⟨[], [], [], fin, upd_same, ⟨rfl, rfl⟩, List.nodup_nil, by simp, fun a ha => (nomatch ha), Nat.le_refl _, Grow.upd hA, e2, rfl⟩
        · rintro i H' hi ⟨acc, L, done, rest, h1, h2, h3, h4, h5, h6, h7, h8, h9⟩
          have lk : ∀ a ∈ A :: L, H1 a = none ∧ H' a ≠ none := fun a ha => by
            rcases List.mem_cons.mp ha with rfl | ha
            · exact ⟨hA, by rw [h1]; simp⟩
            · obtain ⟨o, e, _⟩ := OwsW.mem (Z := fun a => ∃ o, H' a = some o ∧ isM o) (fun _ _ _ q => Ow.mem q) h2 a ha
              exact ⟨h5 a ha, by rw [e]; simp⟩
          refine ⟨Sh (RU R (A :: L)) Ls, fun p hp => ?_, gr _ _ _ _ (fun a z nz => ⟨fun w => ?_, z.2⟩) h7 gS⟩
          · have z := (s.grow g1).fresh (h7.dom hp)
            refine ⟨fun w => ?_, z.2⟩
            rcases w with w | w
            · exact z.1 w
            · exact (lk p w).2 hp
          · rcases w with w | w
            · exact z.1 w
            · exact nz (lk a w).1
        · rintro i x Ha Hb hi' ⟨acc, L, done, rest, h1, h2, h3, h4, h5, h6, h7, h8, h9⟩ ⟨gab, yv⟩
          have lk : ∀ a ∈ A :: L, H1 a = none ∧ Ha a ≠ none := fun a ha => by
            rcases List.mem_cons.mp ha with rfl | ha
            · exact ⟨hA, by rw [h1]; simp⟩
            · obtain ⟨o, e, _⟩ := OwsW.mem (Z := fun a => ∃ o, Ha a = some o ∧ isM o) (fun _ _ _ q => Ow.mem q) h2 a ha
              exact ⟨h5 a ha, by rw [e]; simp⟩
          have frs : ∀ p, Ha p = none → Sh (RU R (A :: L)) Ls p := fun p hp => by
            have z := (s.grow g1).fresh (h7.dom hp)
            refine ⟨fun w => ?_, z.2⟩
            rcases w with w | w
            · exact z.1 w
            · exact (lk p w).2 hp
          have gga : G (Sh (RU R (A :: L)) Ls) Ha := gr _ _ _ _ (fun a z nz => ⟨fun w => by
            rcases w with w | w
            · exact z.1 w
            · exact nz (lk a w).1, z.2⟩) h7 gS
          obtain ⟨d, ed, rd⟩ := yv _ frs gga
          have sa : SR X.K (RU R (A :: L)) Ha (wipe σ (own.map (·.2))) (wipeR ρ (own.map (·.2))) m Ls := s0.aside h7 (fun a ha => (lk a ha).1) fun a ha => (lk a ha).2
          have sb := sa.grow gab
          have edrop : ds.drop i = d :: ds.drop (i + 1) := by
            rw [List.drop_eq_getElem_cons hi']
            rw [List.getElem?_eq_getElem hi'] at ed
            cases ed; rfl
          rw [edrop] at h8
          unfold lcGo at h8
          cases e3 : tgf d (wipeR ρ (own.map (·.2))) with
          | none => rw [e3] at h8; cases h8
          | some ρ1 =>
            rw [e3] at h8
            dsimp only at h8
            intro bs bH bC bcl bfp
            refine hg bs bH bC bcl bfp _ _ _ _ _ d x ρ1 _ sb rd e3 fun σ1 s1 l1 k1 => ⟨wipe_same l1 k1 hts, ?_⟩
            intro bs bH bC bcl bfp
            refine ht bs bH bC bcl bfp _ _ _ _ _ _ _ s1 takes0 ?_
            cases e4 : ft ρ1 with
            | bad => rw [e4] at h8; cases h8
            | err z => rw [e4] at h8; cases h8
            | ok b =>
              rw [e4] at h8
              simp only [nx_ok, ok_bind] at h8
              intro H3 g3
              cases b with
              | false =>
                rw [if_neg (by decide)] at h8 ⊢
                refine ⟨acc, L, done, rest, (gab.trans g3) _ _ h1, h2.imp fun d v L1 _ q => q.grow (gab.trans g3) fun _ z _ => z, h3, h4, h5, Nat.le_succ_of_le h6, (h7.trans gab).trans g3, h8, h9⟩
              | true =>
                rw [if_pos rfl] at h8 ⊢
                intro bs bH bC bcl bfp
                refine he bs bH bC bcl bfp _ _ _ _ _ _ _ (s1.grow g3) takes0 ?_
                cases e5 : fe ρ1 with
                | bad => rw [e5] at h8; cases h8
                | err z => rw [e5] at h8; cases h8
                | ok y =>
                  rw [e5] at h8
                  simp only [nx_ok, ok_bind] at h8
                  cases e6 : lcGo tgf ft fe (wipeR ρ (own.map (·.2))) (ds.drop (i + 1)) with
                  | bad => rw [e6] at h8; cases h8
                  | err z => rw [e6] at h8; cases h8
                  | ok rest' =>
                    rw [e6] at h8
                    simp only [ok_bind, pure_ok] at h8
                    cases h8
                    intro v H4 Lt g4 o4 nd4 fr4
                    have ga4 : Grow Ha H4 := (gab.trans g3).trans g4
                    have hA4 : H4 A = some (.lst acc) := ga4 _ _ h1
                    have hALt : A ∉ Lt := fun z => by
                      have := fr4 A z
                      rw [(gab.trans g3) _ _ h1] at this; cases this
                    have hLLt : ∀ a ∈ L, a ∉ Lt := fun a ha z => by
                      have n := (lk a (List.mem_cons_of_mem _ ha)).2
                      have := fr4 a z
                      exact n ((gab.trans g3).dom this)
                    have h14 : Grow H1 H4 := ((h7.trans gab).trans g3).trans g4
                    refine ⟨acc, hA4, ?_, acc ++ [v], L ++ Lt, done ++ [y], rest', upd_same, ?_, ?_, ?_, ?_, ?_, ?_, rfl, by rw [h9]; simp⟩
                    · have l0 := h6
                      omega
                    · have t1 : ∀ a, Sh (RU (RU R (A :: L)) Lt) Ls a → H4 a ≠ none → Sh (RU R (A :: (L ++ Lt))) Ls a := fun a z nz => ⟨fun w => by
                        rcases w with w | w
                        · exact z.1 (.inl (.inl w))
                        · rcases List.mem_cons.mp w with rfl | w
                          · exact z.1 (.inl (.inr List.mem_cons_self))
                          · rcases List.mem_append.mp w with w | w
                            · exact z.1 (.inl (.inr (List.mem_cons_of_mem _ w)))
                            · exact z.1 (.inr w), z.2⟩
                      have t2 : ∀ a o, H4 a = some o → (Sh (RU (RU R (A :: L)) Lt) Ls a ∨ a ∈ Lt ∨ (∃ ys, o = .tup ys) ∨ (∃ ob u, o = .frz ob u)) → upd H4 A (.lst (acc ++ [v])) a = some o := fun a o ea z => by
                        have na : a ≠ A := fun e => by
                          subst e
                          rw [hA4] at ea; cases ea
                          rcases z with z | z | ⟨_, z⟩ | ⟨_, _, z⟩
                          · exact z.1 (.inl (.inr List.mem_cons_self))
                          · exact hALt z
                          · cases z
                          · cases z
                        rw [upd_ne na]; exact ea
                      have t3 : ∀ a, Sh (RU R (A :: L)) Ls a → Ha a ≠ none → Sh (RU R (A :: (L ++ Lt))) Ls a := fun a z nz => ⟨fun w => by
                        rcases w with w | w
                        · exact z.1 (.inl w)
                        · rcases List.mem_cons.mp w with rfl | w
                          · exact z.1 (.inr List.mem_cons_self)
                          · rcases List.mem_append.mp w with w | w
                            · exact z.1 (.inr (List.mem_cons_of_mem _ w))
                            · exact nz ((gab.trans g3).dom (fr4 a w)), z.2⟩
                      have t4 : ∀ L1 : List Addr, (∀ a ∈ L1, a ∈ L) → ∀ a o, Ha a = some o → (Sh (RU R (A :: L)) Ls a ∨ a ∈ L1 ∨ (∃ ys, o = .tup ys) ∨ (∃ ob u, o = .frz ob u)) → upd H4 A (.lst (acc ++ [v])) a = some o := fun L1 hL1 a o ea z => by
                        have na : a ≠ A := fun e => by
                          subst e
                          rw [h1] at ea; cases ea
                          rcases z with z | z | ⟨_, z⟩ | ⟨_, _, z⟩
                          · exact z.1 (.inr List.mem_cons_self)
                          · exact h4 (hL1 _ z)
                          · cases z
                          · cases z
                        rw [upd_ne na]; exact ga4 _ _ ea
                      exact OwsW.snoc (Ow.stay t1 t2 o4) (h2.imp fun d v L1 hL1 q => Ow.stay t3 (t4 L1 hL1) q)
                    · exact List.nodup_append.mpr ⟨h3, nd4, fun a ha b hb e => hLLt a ha (e ▸ hb)⟩
                    · rw [List.mem_append, not_or]; exact ⟨h4, hALt⟩
                    · intro a ha
                      rcases List.mem_append.mp ha with ha | ha
                      · exact h5 a ha
                      · exact (((h7.trans gab).trans g3)).dom (fr4 a ha)
                    · rw [List.length_append, List.length_singleton]; omega
                    · intro a o ea
                      rw [upd_ne (ne_of_none ea hA)]
                      exact h14 _ _ ea
        · rintro H' ⟨acc, L, done, rest, h1, h2, h3, h4, h5, h6, h7, h8, h9⟩
          rw [List.drop_length] at h8
          unfold lcGo at h8
          cases h8
          rw [List.append_nil] at h9
          subst h9
          refine q (.ref A) H' (A :: L) (g1.trans h7) ⟨A, acc, L, rfl, h1, rfl, h2⟩ (List.nodup_cons.mpr ⟨h4, h3⟩) fun a ha => ?_
          rcases List.mem_cons.mp ha with rfl | ha
          · exact g1.dom hA
          · exact g1.dom (h5 a ha)
    · rw [if_neg hz] at q; exact q.elim
theorem bg_ok {scope : Scope} {tg : Expr} : ∀ (s : Shared) (H : Hp) (C : Addr) (cl : List (Str × Addr)) (fp : List Addr), PG (X.blk s H scope (compEnvC scope cl C X.env) fp) tg (BG X scope tg) := fun s H C cl fp => ⟨fun pins s' σ H' v u Q I r h => h s H C cl fp pins s' u I r⟩
theorem bt_ok {scope : Scope} {ifs : List Expr} : ∀ (s : Shared) (H : Hp) (C : Addr) (cl : List (Str × Addr)) (fp : List Addr), PTs (X.blk s H scope (compEnvC scope cl C X.env) fp) ifs (BT X scope ifs) := fun s H C cl fp => ⟨fun pins s' σ H' Q I h => by
  obtain ⟨t, ht', q'⟩ := h s H C cl fp
  exact ht'.run pins s' σ H' Q I q'⟩
theorem be_ok {scope : Scope} {elt : Expr} : ∀ (s : Shared) (H : Hp) (C : Addr) (cl : List (Str × Addr)) (fp : List Addr), PE (X.blk s H scope (compEnvC scope cl C X.env) fp) elt (BE X scope elt) := fun s H C cl fp => ⟨fun pins s' σ H' Q I h => h s H C cl fp pins s' I⟩
theorem sf_lc {k : Nat} {elt iter : Expr} {ifs : List Expr} {scope : Scope} {own : List (Str × Nat)} {ts : List Nat} {fi : Rho → Rs (List D)} {tgf : D → Rho → Option Rho} {ft : Rho → Rs Bool} {fe : Rho → Rs D}
    (hc : X.calm = true) (hN : X.N.Nodup) (hi : SIt false X m tg iter fi) (ok : BlkOk X.N X.env.scope scope own) (hm0 : ∀ i ∈ own.map (·.2), m.getD i 0 = 0) (hts : ∀ j ∈ ts, j ∈ own.map (·.2))
    (hg : ∀ (s : Shared) (H : Hp) (C : Addr) (cl : List (Str × Addr)) (fp : List Addr), SG (X.blk s H scope (compEnvC scope cl C X.env) fp) m ts tg tgf)
    (ht : ∀ (s : Shared) (H : Hp) (C : Addr) (cl : List (Str × Addr)) (fp : List Addr), STs (X.blk s H scope (compEnvC scope cl C X.env) fp) m ifs ft)
    (he : ∀ (s : Shared) (H : Hp) (C : Addr) (cl : List (Str × Addr)) (fp : List Addr), SF (X.blk s H scope (compEnvC scope cl C X.env) fp) m k elt fe)
    (hs : ∀ x, foldedSetIterable iter X.env x = pure x := by intro _; rfl) : SF X m (k + 1) (.ListComp elt [⟨tg, iter, ifs, 0⟩] scope pos) (fLc (own.map (·.2)) fi tgf ft fe) := by
  intro R σ H ρ Ls Q W s tk q
  exact UE.of (pe_lc (g := BG X scope tg) (tt := BT X scope ifs) (te := BE X scope elt) hc hN piU ok bg_ok bt_ok be_ok hs) (lc_read hi hm0 hts hg ht he R σ H ρ Ls Q W s tk q)
end
end VL

set_option Elab.async false
set_option linter.all false
set_option maxRecDepth 100000
set_option maxHeartbeats 1000000
namespace VL
open PySem PySem.Spec PyProof.Rows L2

/-! ### expressions that change the slots' data -/
inductive Ri (α : Type) where
  | ok (a : α) (ρ : Rho) | err (x : Exn) (ρ : Rho) | bad
/-- what follows an expression whose result is owned to depth k -/
def PostI (K : PySem.W.Frag) (R : Addr → Prop) (H : Hp) (σ : Sg) (m : List Nat) (Ls : Nat → List Addr) (k : Nat) (Q : VK) (W : WX) : Ri D → Prop
  | .ok d ρ' => ∀ v H' Ls' Lt, SR K (RU R Lt) H' σ ρ' m Ls' → Ow K (Sh (RU R Lt) Ls') H' k d v Lt → Lt.Nodup → (∀ a ∈ Lt, ¬ R a) → Step Ls Ls' Lt H H' → Q v H'
  | .err x ρ' => ∀ cls dd H' Ls', SR K R H' σ ρ' m Ls' → Step Ls Ls' [] H H' → ExIs K x cls dd H' → W cls dd σ H'
  | .bad => False
def SIr (X : Cx) (rd : TE) (m : List Nat) (k : Nat) (f : Rho → Ri D) : Prop :=
  ∀ (R : Addr → Prop) (σ : Sg) (H : Hp) (ρ : Rho) (Ls : Nat → List Addr) (Q : VK) (W : WX), SR X.K R H σ ρ m Ls → Takes X W → PostI X.K R H σ m Ls k Q W (f ρ) → rd σ H Q
def SI (X : Cx) (m : List Nat) (k : Nat) (e : Expr) (f : Rho → Ri D) : Prop := SIr X (UE X e) m k f
def up (f : Rho → Rs D) : Rho → Ri D := fun ρ => match f ρ with
  | .ok d => .ok d ρ
  | .err x => .err x ρ
  | .bad => .bad
def PostB (K : PySem.W.Frag) (R : Addr → Prop) (H : Hp) (σ : Sg) (m : List Nat) (Ls : Nat → List Addr) (Q : Bool → Hp → Prop) (W : WX) : Ri Bool → Prop
  | .ok b ρ' => ∀ H' Ls', SR K R H' σ ρ' m Ls' → Step Ls Ls' [] H H' → Q b H'
  | .err x ρ' => ∀ cls dd H' Ls', SR K R H' σ ρ' m Ls' → Step Ls Ls' [] H H' → ExIs K x cls dd H' → W cls dd σ H'
  | .bad => False
def SIB (X : Cx) (m : List Nat) (e : Expr) (f : Rho → Ri Bool) : Prop :=
  ∀ (R : Addr → Prop) (σ : Sg) (H : Hp) (ρ : Rho) (Ls : Nat → List Addr) (Q : Bool → Hp → Prop) (W : WX), SR X.K R H σ ρ m Ls → Takes X W → PostB X.K R H σ m Ls Q W (f ρ) → UT X e σ H Q
def upB (f : Rho → Rs Bool) : Rho → Ri Bool := fun ρ => match f ρ with
  | .ok d => .ok d ρ
  | .err x => .err x ρ
  | .bad => .bad
section
variable {X : Cx} {m : List Nat} {e : Expr}
theorem si_of_sfr {rd : TE} {k : Nat} {f : Rho → Rs D} (h : SFr X rd m k f) : SIr X rd m k (up f) := by
  intro R σ H ρ Ls Q W s tk q
  refine h R σ H ρ Ls Q W s tk ?_
  unfold up at q
  cases e1 : f ρ with
  | bad => rw [e1] at q; exact q
  | err x => rw [e1] at q; exact fun cls dd H' g z => q cls dd H' Ls (s.grow g) (Step.grow g) z
  | ok d =>
    rw [e1] at q
    intro v H' Lt g o nd n
    refine q v H' Ls Lt (s.aside g n fun a ha => ?_) o nd (fun a ha r => s.dom a r (n a ha)) ⟨fun a o e _ => g a o e, fun a nz z => nz (g.dom z), fun a h => h.elim .inl fun z => .inr (n a z)⟩
    obtain ⟨u, e, _⟩ := o.mem a ha
    rw [e]; simp
theorem si_of_sf {k : Nat} {f : Rho → Rs D} (h : SF X m k e f) : SI X m k e (up f) := si_of_sfr h
theorem si_of_sp {f : Rho → Rs D} (h : SP X m 0 e f) : SI X m 0 e (up f) := si_of_sf (sf_of_sp h)
theorem sib_of_sb {f : Rho → Rs Bool} (h : SB X m e f) : SIB X m e (upB f) := by
  intro R σ H ρ Ls Q W s tk q
  refine h R σ H ρ Ls Q W s tk ?_
  unfold upB at q
  cases e1 : f ρ with
  | bad => rw [e1] at q; exact q
  | err x => rw [e1] at q; exact fun cls dd H' g z => q cls dd H' Ls (s.grow g) (Step.grow g) z
  | ok d => rw [e1] at q; exact fun H' g => q H' Ls (s.grow g) (Step.grow g)
end

/-! ### statements -/
inductive Out where
  | nx (ρ : Rho) | ret (d : D) (ρ : Rho) | bk (ρ : Rho) | ct (ρ : Rho) | err (x : Exn) (ρ : Rho) | bad
/-- what stays the same within a def: the parameters that are handed back (io: how deep they are owned), how deep the result is owned; within a loop: ml the mask at its head; me the mask behind an error -/
structure Fx where
  io : List Nat
  kr : Nat
  ml : List Nat
  me : List Nat
def Fix (io : List Nat) (vs : List V) (σ : Sg) : Prop := ∀ i, 0 < io.getD i 0 → ∃ v, vs[i]? = some v ∧ σ[i]? = some (some v)
/-- the handed-back parameters alone -/
def ioR (io : List Nat) (n : Nat) (ρ : Rho) : Rho := (List.range n).map fun i => if 0 < io.getD i 0 then (ρ[i]?.getD none) else none
def ioM (io : List Nat) (n : Nat) : List Nat := (List.range n).map fun i => io.getD i 0
/-- behind a return -/
def RetP (K : PySem.W.Frag) (R : Addr → Prop) (F : Fx) (vs : List V) (H0 : Hp) (Ls0 : Nat → List Addr) (d : D) (ρ : Rho) : VK := fun v H' =>
  ∃ Ls' Lt, SR K (RU R Lt) H' (vs.map some) (ioR F.io vs.length ρ) (ioM F.io vs.length) Ls' ∧ Ow K (Sh (RU R Lt) Ls') H' F.kr d v Lt ∧ Lt.Nodup ∧ (∀ a ∈ Lt, ¬ R a) ∧ Step Ls0 Ls' Lt H0 H'
def PostS (K : PySem.W.Frag) (R : Addr → Prop) (F : Fx) (vs : List V) (H0 : Hp) (Ls0 : Nat → List Addr) (m' : List Nat) (E : Ends) (W : WX) : Out → Prop
  | .nx ρ' => ∀ σ' H' Ls', Fix F.io vs σ' → SR K R H' σ' ρ' m' Ls' → Step Ls0 Ls' [] H0 H' → E.nx σ' H'
  | .ret d ρ' => ∀ v H', RetP K R F vs H0 Ls0 d ρ' v H' → E.rt v H'
  | .bk ρ' => ∀ σ' H' Ls', Fix F.io vs σ' → SR K R H' σ' ρ' F.ml Ls' → Step Ls0 Ls' [] H0 H' → E.bk σ' H'
  | .ct ρ' => ∀ σ' H' Ls', Fix F.io vs σ' → SR K R H' σ' ρ' F.ml Ls' → Step Ls0 Ls' [] H0 H' → E.ct σ' H'
  | .err x ρ' => ∀ cls dd σ' H' Ls', Fix F.io vs σ' → SR K R H' σ' ρ' F.me Ls' → Step Ls0 Ls' [] H0 H' → ExIs K x cls dd H' → W cls dd σ' H'
  | .bad => False
def SS (X : Cx) (F : Fx) (m m' : List Nat) (st : Stmt) (f : Rho → Out) : Prop :=
  ∀ (R : Addr → Prop) (vs : List V) (σ : Sg) (H : Hp) (ρ : Rho) (Ls : Nat → List Addr) (E : Ends) (W : WX), Fix F.io vs σ → SR X.K R H σ ρ m Ls → Takes X W → PostS X.K R F vs H Ls m' E W (f ρ) → US X st E σ H
def SSs (X : Cx) (F : Fx) (m m' : List Nat) (st : List Stmt) (f : Rho → Out) : Prop :=
  ∀ (R : Addr → Prop) (vs : List V) (σ : Sg) (H : Hp) (ρ : Rho) (Ls : Nat → List Addr) (E : Ends) (W : WX), Fix F.io vs σ → SR X.K R H σ ρ m Ls → Takes X W → PostS X.K R F vs H Ls m' E W (f ρ) → USs X st E σ H
/-- .. of any reading -/
def SSr (X : Cx) (rd : TS) (F : Fx) (m m' : List Nat) (f : Rho → Out) : Prop :=
  ∀ (R : Addr → Prop) (vs : List V) (σ : Sg) (H : Hp) (ρ : Rho) (Ls : Nat → List Addr) (E : Ends) (W : WX), Fix F.io vs σ → SR X.K R H σ ρ m Ls → Takes X W → PostS X.K R F vs H Ls m' E W (f ρ) → rd E σ H
section
variable {K : PySem.W.Frag} {R : Addr → Prop} {F : Fx} {vs : List V} {H0 H1 : Hp} {Ls0 Ls1 : Nat → List Addr} {m' : List Nat} {E : Ends} {W : WX} {o : Out}
theorem RetP.step {Ls1 : Nat → List Addr} {d : D} {ρ : Rho} {v : V} {H' : Hp} (t : Step Ls0 Ls1 [] H0 H1) (h : RetP K R F vs H1 Ls1 d ρ v H') : RetP K R F vs H0 Ls0 d ρ v H' := by
  obtain ⟨Ls', Lt, h1, h2, h3, h4, h5⟩ := h
  exact ⟨Ls', Lt, h1, h2, h3, h4, t.trans h5⟩
/-- behind a first step -/
theorem PostS.after (t : Step Ls0 Ls1 [] H0 H1) (h : PostS K R F vs H0 Ls0 m' E W o) : PostS K R F vs H1 Ls1 m' E W o := by
  cases o with
  | nx ρ => exact fun σ' H' Ls' fx s t' => h σ' H' Ls' fx s (t.trans t')
  | ret d ρ => exact fun v H' r => h v H' (r.step t)
  | bk ρ => exact fun σ' H' Ls' fx s t' => h σ' H' Ls' fx s (t.trans t')
  | ct ρ => exact fun σ' H' Ls' fx s t' => h σ' H' Ls' fx s (t.trans t')
  | err x ρ => exact fun cls dd σ' H' Ls' fx s t' z => h cls dd σ' H' Ls' fx s (t.trans t') z
  | bad => exact h
theorem MW.refl {m : List Nat} : MW m m := ⟨rfl, fun _ => .inl rfl⟩
/-- lesser masks, decided -/
def mwB (m m' : List Nat) : Bool := decide (m'.length = m.length) && (List.range m.length).all fun i => m'.getD i 0 == m.getD i 0 || m'.getD i 0 == 0
theorem mw_of {m m' : List Nat} (h : mwB m m' = true) : MW m m' := by
  unfold mwB at h
  rw [Bool.and_eq_true, decide_eq_true_eq, List.all_eq_true] at h
  refine ⟨h.1, fun i => ?_⟩
  by_cases q : i < m.length
  · have := h.2 i (List.mem_range.mpr q)
    rw [Bool.or_eq_true, beq_iff_eq, beq_iff_eq] at this
    exact this
  · right
    simp [List.getD, List.getElem?_eq_none (show m'.length ≤ i by omega)]
end
section
variable {X : Cx} {F : Fx} {m m' m'' : List Nat} {st : Stmt} {rest : List Stmt} {e : Expr} {pos : Pos}
def oBind (f g : Rho → Out) : Rho → Out := fun ρ => match f ρ with
  | .nx ρ' => g ρ'
  | o => o
theorem sss_nil : SSs X F m m [] .nx := fun R vs σ H ρ Ls E W fx s tk q => USs.of pss_nil (q σ H Ls fx s (Step.refl H))
theorem sss_cons {f g : Rho → Out} (h : SS X F m m' st f) (h' : SSs X F m' m'' rest g) : SSs X F m m'' (st :: rest) (oBind f g) := by
  intro R vs σ H ρ Ls E W fx s tk q
  unfold oBind at q
  refine USs.of (pss_cons psU pssU) (h R vs σ H ρ Ls { E with nx := USs X rest E } W fx s tk ?_)
  cases e1 : f ρ with
  | nx ρ1 =>
    rw [e1] at q
    exact fun σ1 H1 Ls1 fx1 s1 t1 => h' R vs σ1 H1 ρ1 Ls1 E W fx1 s1 tk (PostS.after t1 q)
  | ret d ρ1 => rw [e1] at q; exact q
  | bk ρ1 => rw [e1] at q; exact q
  | ct ρ1 => rw [e1] at q; exact q
  | err x ρ1 => rw [e1] at q; exact q
  | bad => rw [e1] at q; exact q
theorem sss_one {f : Rho → Out} (h : SS X F m m' st f) : SSs X F m m' [st] f := fun R vs σ H ρ Ls E W fx s tk q => USs.of (pss_one psU) (h R vs σ H ρ Ls E W fx s tk q)
/-- owned slots are shared from here on -/
theorem sss_weak {f : Rho → Out} (h : SSs X F m' m'' rest f) (w : mwB m m' = true) : SSs X F m m'' rest f := fun R vs σ H ρ Ls E W fx s tk q =>
  h R vs σ H ρ _ E W fx (s.weak (mw_of w)) tk (PostS.after ((Step.refl H).weak) q)
theorem ss_weak {f : Rho → Out} (h : SS X F m' m'' st f) (w : mwB m m' = true) : SS X F m m'' st f := fun R vs σ H ρ Ls E W fx s tk q =>
  h R vs σ H ρ _ E W fx (s.weak (mw_of w)) tk (PostS.after ((Step.refl H).weak) q)
/-- .. behind it -/
theorem sss_weak' {f : Rho → Out} (h : SSs X F m m' rest f) (w : mwB m' m'' = true) : SSs X F m m'' rest f := fun R vs σ H ρ Ls E W fx s tk q => by
  refine h R vs σ H ρ Ls E W fx s tk ?_
  cases e1 : f ρ with
  | nx ρ1 =>
    rw [e1] at q
    exact fun σ1 H1 Ls1 fx1 s1 t1 => q σ1 H1 _ fx1 (s1.weak (mw_of w)) t1.weak
  | ret d ρ1 => rw [e1] at q; exact q
  | bk ρ1 => rw [e1] at q; exact q
  | ct ρ1 => rw [e1] at q; exact q
  | err x ρ1 => rw [e1] at q; exact q
  | bad => rw [e1] at q; exact q
theorem ss_pass : SS X F m m (.Pass pos) .nx := fun R vs σ H ρ Ls E W fx s tk q => US.of ps_pass (q σ H Ls fx s (Step.refl H))
theorem ss_break (w : mwB m F.ml = true) : SS X F m m' (.Break pos) .bk := fun R vs σ H ρ Ls E W fx s tk q => US.of ps_break (q σ H _ fx (s.weak (mw_of w)) (Step.refl H).weak)
theorem ss_continue (w : mwB m F.ml = true) : SS X F m m' (.Continue pos) .ct := fun R vs σ H ρ Ls E W fx s tk q => US.of ps_continue (q σ H _ fx (s.weak (mw_of w)) (Step.refl H).weak)
def oRet (f : Rho → Ri D) : Rho → Out := fun ρ => match f ρ with
  | .ok d ρ' => .ret d ρ'
  | .err x ρ' => .err x ρ'
  | .bad => .bad
/-- the handed-back parameters are as deep owned as they were -/
def ioB (io m : List Nat) : Bool := (List.range io.length).all fun i => io.getD i 0 == 0 || io.getD i 0 == m.getD i 0
theorem io_of {io m : List Nat} (h : ioB io m = true) (i : Nat) (hi : 0 < io.getD i 0) : m.getD i 0 = io.getD i 0 := by
  unfold ioB at h
  rw [List.all_eq_true] at h
  have hl : i < io.length := by
    refine Nat.lt_of_not_le fun q => ?_
    simp [List.getD, List.getElem?_eq_none q] at hi
  have := h i (List.mem_range.mpr hl)
  rw [Bool.or_eq_true, beq_iff_eq, beq_iff_eq] at this
  rcases this with z | z
  · omega
  · exact z.symm
theorem io_get {io : List Nat} {n i : Nat} {ρ : Rho} {d : D} (h : (ioR io n ρ)[i]? = some (some d)) : i < n ∧ 0 < io.getD i 0 ∧ ρ[i]? = some (some d) := by
  unfold ioR at h
  rw [List.getElem?_map] at h
  by_cases q : i < n
  · rw [List.getElem?_range q] at h
    simp only [Option.map_some, Option.some.injEq] at h
    by_cases q2 : 0 < io.getD i 0
    · rw [if_pos q2] at h
      refine ⟨q, q2, ?_⟩
      cases e : ρ[i]? with
      | none => rw [e] at h; cases h
      | some o => rw [e] at h; rw [show o = some d from h]
    · rw [if_neg q2] at h; cases h
  · rw [List.getElem?_eq_none (by simpa using q)] at h; cases h
theorem ioM_get {io : List Nat} {n i : Nat} (h : i < n) : (ioM io n).getD i 0 = io.getD i 0 := by
  unfold ioM
  simp [List.getD, List.getElem?_map, List.getElem?_range h]
/-- only what the handed-back parameters own is told behind a return -/
def ioL (io : List Nat) (ρ : Rho) (n : Nat) (Ls : Nat → List Addr) : Nat → List Addr := fun i => match (ioR io n ρ)[i]? with
  | some (some _) => Ls i
  | _ => []
theorem ioL_of {io : List Nat} {ρ : Rho} {n i : Nat} {Ls : Nat → List Addr} {a : Addr} (h : a ∈ ioL io ρ n Ls i) : a ∈ Ls i := by
  unfold ioL at h
  split at h
  · exact h
  · cases h
theorem SR.ret {K : PySem.W.Frag} {R : Addr → Prop} {H : Hp} {σ : Sg} {ρ : Rho} {Ls : Nat → List Addr} {vs : List V} {io : List Nat} (s : SR K R H σ ρ m Ls) (fx : Fix io vs σ) (hio : ioB io m = true) :
    SR K R H (vs.map some) (ioR io vs.length ρ) (ioM io vs.length) (ioL io ρ vs.length Ls) := by
  refine ⟨by unfold ioR; simp, by unfold ioM ioR; simp, fun i d h => ?_, fun i h => ?_, fun i => ?_, fun i j a h1 h2 => s.dj i j a (ioL_of h1) (ioL_of h2), fun i a h => s.sep i a (ioL_of h), s.dom⟩
  · obtain ⟨h1, h2, h3⟩ := io_get h
    obtain ⟨v, e1, e2⟩ := s.val i d h3
    obtain ⟨w, e3, e4⟩ := fx i h2
    rw [e1] at e4
    cases e4
    refine ⟨v, by rw [List.getElem?_map, e3]; rfl, ?_⟩
    have e5 : ioL io ρ vs.length Ls i = Ls i := by unfold ioL; rw [h]
    rw [ioM_get h1, e5, ← io_of hio i h2]
    exact e2.grow (Grow.refl H) fun a z _ => ⟨z.1, fun j hj => z.2 j (ioL_of hj)⟩
  · unfold ioL
    split
    · rename_i d e; exact absurd e (h d)
    · rfl
  · unfold ioL
    split
    · exact s.nd i
    · exact List.nodup_nil
theorem ss_ret {f : Rho → Ri D} (h : SI X m F.kr e f) (hio : ioB F.io m = true) (w : mwB m F.me = true) : SS X F m m' (.Return (some e) pos) (oRet f) := by
  intro R vs σ H ρ Ls E W fx s tk q
  unfold oRet at q
  refine US.of (ps_ret peU) (h R σ H ρ Ls E.rt W s tk ?_)
  cases e1 : f ρ with
  | bad => rw [e1] at q; exact q
  | err x ρ' => rw [e1] at q; exact fun cls dd H' Ls' s' t z => q cls dd σ H' _ fx (s'.weak (mw_of w)) t.weak z
  | ok d ρ' =>
    rw [e1] at q
    intro v H' Ls' Lt s' o nd n t
    refine q v H' ⟨_, Lt, s'.ret fx hio, o.grow (Grow.refl H') (fun a z _ => ⟨z.1, fun j hj => z.2 j (ioL_of hj)⟩), nd, n, t.sub fun c hc => hc.imp (fun ⟨i, hi⟩ => ⟨i, ioL_of hi⟩) id⟩
theorem ss_retN (hk : F.kr = 0) (hio : ioB F.io m = true) : SS X F m m' (.Return none pos) (fun ρ => .ret .non ρ) := by
  intro R vs σ H ρ Ls E W fx s tk q
  refine US.of ps_retN (q .non H ⟨ioL F.io ρ vs.length Ls, [], ?_, ?_, List.nodup_nil, fun a ha => (nomatch ha), (Step.refl H).sub fun c hc => hc.imp (fun ⟨i, hi⟩ => ⟨i, ioL_of hi⟩) id⟩)
  · rw [ru_nil]; exact s.ret fx hio
  · rw [hk]; exact .zero rq_non
/-- the body is through -/
theorem ret_none {K : PySem.W.Frag} {R : Addr → Prop} {vs : List V} {H : Hp} {σ : Sg} {ρ : Rho} {Ls : Nat → List Addr} {H0 : Hp} {Ls0 : Nat → List Addr} (hk : F.kr = 0) (hio : ioB F.io m = true) (fx : Fix F.io vs σ) (s : SR K R H σ ρ m Ls) (t : Step Ls0 Ls [] H0 H) : RetP K R F vs H0 Ls0 .non ρ .non H :=
  ⟨ioL F.io ρ vs.length Ls, [], by rw [ru_nil]; exact s.ret fx hio, by rw [hk]; exact .zero rq_non, List.nodup_nil, fun a ha => (nomatch ha), t.sub fun c hc => hc.imp (fun ⟨i, hi⟩ => ⟨i, ioL_of hi⟩) id⟩
/-- an expression whose value is dropped -/
def oDrop (f : Rho → Ri D) : Rho → Out := fun ρ => match f ρ with
  | .ok d ρ' => .nx ρ'
  | .err x ρ' => .err x ρ'
  | .bad => .bad
theorem ss_expr {f : Rho → Ri D} (h : SI X m 0 e f) (w : mwB m F.me = true) (hs : swapsWith e none pos.line X.env = pure false := by rfl) : SS X F m m (.Expr e pos) (oDrop f) := by
  intro R vs σ H ρ Ls E W fx s tk q
  unfold oDrop at q
  refine US.of (ps_expr peU hs) (h R σ H ρ Ls _ W s tk ?_)
  cases e1 : f ρ with
  | bad => rw [e1] at q; exact q
  | err x ρ' => rw [e1] at q; exact fun cls dd H' Ls' s' t z => q cls dd σ H' _ fx (s'.weak (mw_of w)) t.weak z
  | ok d ρ' =>
    rw [e1] at q
    intro v H' Ls' Lt s' o nd n t
    obtain ⟨rfl, _⟩ := o.of_zero
    rw [ru_nil] at s'
    exact q σ H' Ls' fx s' t
/-- name = value -/
def oSet (i : Nat) (f : Rho → Ri D) : Rho → Out := fun ρ => match f ρ with
  | .ok d ρ' => if i < ρ'.length then .nx (ρ'.set i (some d)) else .bad
  | .err x ρ' => .err x ρ'
  | .bad => .bad
theorem Fix.set {io : List Nat} {vs : List V} {σ : Sg} {i : Nat} {o : Option V} (fx : Fix io vs σ) (h : io.getD i 0 = 0) : Fix io vs (σ.set i o) := fun j hj => by
  obtain ⟨v, e1, e2⟩ := fx j hj
  refine ⟨v, e1, ?_⟩
  rw [List.getElem?_set_ne (fun q => by subst q; omega)]; exact e2
theorem ss_setr {i k : Nat} {rd : TE} {f : Rho → Ri D} (hA : ∀ E σ H, rd σ H (fun v H1 => E.nx (σ.set i (some v)) H1) → US X st E σ H) (h : SIr X rd m k f) (hio : F.io.getD i 0 = 0 := by decide) (w : mwB m F.me = true := by decide) : SS X F m (m.set i k) st (oSet i f) := by
  intro R vs σ H ρ Ls E W fx s tk q
  unfold oSet at q
  refine hA E σ H (h R σ H ρ Ls _ W s tk ?_)
  cases e1 : f ρ with
  | bad => rw [e1] at q; exact q
  | err x ρ' => rw [e1] at q; exact fun cls dd H' Ls' s' t z => q cls dd σ H' _ fx (s'.weak (mw_of w)) t.weak z
  | ok d ρ' =>
    rw [e1] at q
    dsimp only at q
    intro v H' Ls' Lt s' o nd n t
    by_cases hi : i < ρ'.length
    · rw [if_pos hi] at q
      exact q _ H' _ (fx.set hio) (s'.set o nd n hi) (t.put (i := i))
    · rw [if_neg hi] at q; exact q.elim
theorem ss_set {i k : Nat} {x : Str} {p : Pos} {f : Rho → Ri D} (h : SI X m k e f) (hN : X.N.Nodup) (hi : X.N[i]? = some x := by rfl) (hx : Loc X.env.scope x := by first | exact Or.inl rfl | exact Or.inr rfl) (hs : swapsWith e (some (.Name x p)) pos.line X.env = pure false := by rfl)
    (hf : X.fn x = true ∨ X.env.scope.names.lookup x = some .local := by first | exact .inl rfl | exact .inr rfl) (hio : F.io.getD i 0 = 0 := by decide) (w : mwB m F.me = true := by decide) : SS X F m (m.set i k) (.Assign [.Name x p] e pos) (oSet i f) :=
  ss_setr (rd := UE X e) (fun E σ H q => US.of (ps_set hN hi hx peU hs hf) q) h hio w
/-- name = [.. for ..] -/
theorem ss_setLc {i k : Nat} {y : Str} {py : Pos} {elt tg iter : Expr} {ifs : List Expr} {scope : Scope} {own : List (Str × Nat)} {lpos spos : Pos} {f : Rho → Ri D} (hc : X.calm = true) (hN : X.N.Nodup)
    (h : SIr X (tLc (UI X tg iter) (BG X scope tg) (BT X scope ifs) (BE X scope elt) (own.map (·.2))) m k f) (ok : BlkOk X.N X.env.scope scope own) (hy : X.N[i]? = some y) (hyl : X.env.scope.names.lookup y = some .local)
    (hsw : swapsWith (.ListComp elt [⟨tg, iter, ifs, 0⟩] scope lpos) (some (.Name y py)) spos.line X.env = pure true) (hs : ∀ x, foldedSetIterable iter X.env x = pure x := by intro _; rfl)
    (hio : F.io.getD i 0 = 0 := by decide) (w : mwB m F.me = true := by decide) : SS X F m (m.set i k) (.Assign [.Name y py] (.ListComp elt [⟨tg, iter, ifs, 0⟩] scope lpos) spos) (oSet i f) :=
  ss_setr (fun E σ H q => US.of (ps_setLc hc hN hy hyl hsw piU ok bg_ok bt_ok be_ok hs) q) h hio w
/-- if -/
def oIf (t : Rho → Ri Bool) (f g : Rho → Out) : Rho → Out := fun ρ => match t ρ with
  | .ok b ρ' => if b then f ρ' else g ρ'
  | .err x ρ' => .err x ρ'
  | .bad => .bad
theorem ss_if {c : Expr} {a b : List Stmt} {t : Rho → Ri Bool} {f g : Rho → Out} (ht : SIB X m c t) (h : SSs X F m m' a f) (h' : SSs X F m m' b g) (w : mwB m F.me = true := by decide) : SS X F m m' (.If c a b pos) (oIf t f g) := by
  intro R vs σ H ρ Ls E W fx s tk q
  unfold oIf at q
  refine US.of (ps_if ptU pssU pssU) (ht R σ H ρ Ls _ W s tk ?_)
  cases e1 : t ρ with
  | bad => rw [e1] at q; exact q
  | err x ρ' => rw [e1] at q; exact fun cls dd H' Ls' s' t z => q cls dd σ H' _ fx (s'.weak (mw_of w)) t.weak z
  | ok k ρ' =>
    rw [e1] at q
    dsimp only at q
    intro H' Ls' s' t'
    cases k with
    | true => rw [if_pos rfl] at q ⊢; exact h R vs σ H' ρ' Ls' E W fx s' tk (PostS.after t' q)
    | false => rw [if_neg (by decide)] at q ⊢; exact h' R vs σ H' ρ' Ls' E W fx s' tk (PostS.after t' q)
end
end VL

set_option Elab.async false
set_option linter.all false
set_option maxRecDepth 100000
set_option maxHeartbeats 1000000
namespace VL
open PySem PySem.Spec PyProof.Rows L2
abbrev Pso (X : Cx) : Prop := PassesOwn (model X.prog X.w) X.A X.env X.xe
/-! ### loops -/
section
variable {X : Cx} {F : Fx} {m m' ml : List Nat} {st : Stmt} {rest body : List Stmt} {e c tg iter : Expr} {pos : Pos}
def oWhile (t : Rho → Ri Bool) (f : Rho → Out) : Nat → Rho → Out
  | 0, _ => .bad
  | n + 1, ρ => match t ρ with
    | .ok true ρ1 => match f ρ1 with
      | .nx ρ2 => oWhile t f n ρ2
      | .ct ρ2 => oWhile t f n ρ2
      | .bk ρ2 => .nx ρ2
      | o => o
    | .ok false ρ1 => .nx ρ1
    | .err x ρ1 => .err x ρ1
    | .bad => .bad
theorem ss_while (n : Nat) {t : Rho → Ri Bool} {f : Rho → Out} (hp : Pso X) (ht : SIB X ml c t) (h : SSs X { F with ml := ml } ml ml body f) (w : mwB ml F.me = true := by decide) : SS X F ml ml (.While c body [] pos) (oWhile t f n) := by
  intro R vs σ H ρ Ls E W fx s tk q
  refine US.of (ps_while hp ptU pssU) ⟨fun n σ' H' => ∃ ρ' Ls', Fix F.io vs σ' ∧ SR X.K R H' σ' ρ' ml Ls' ∧ PostS X.K R F vs H' Ls' ml E W (oWhile t f n ρ'), ⟨n, ρ, Ls, fx, s, q⟩, ?_⟩
  rintro n σ' H' ⟨ρ', Ls', fx', s', q'⟩
  cases n with
  | zero => exact q'.elim
  | succ n =>
    unfold oWhile at q'
    refine ht R σ' H' ρ' Ls' _ W s' tk ?_
    cases e1 : t ρ' with
    | bad => rw [e1] at q'; exact q'
    | err x ρ1 => rw [e1] at q'; exact fun cls dd H1 Ls1 s1 t1 z => q' cls dd σ' H1 _ fx' (s1.weak (mw_of w)) t1.weak z
    | ok b ρ1 =>
      rw [e1] at q'
      intro H1 Ls1 s1 t1
      cases b with
      | false => rw [if_neg (by decide)]; exact q' σ' H1 Ls1 fx' s1 t1
      | true =>
        rw [if_pos rfl]
        dsimp only at q'
        refine ⟨fun σ2 H2 => ∃ ρ2 Ls2, Fix F.io vs σ2 ∧ SR X.K R H2 σ2 ρ2 ml Ls2 ∧ PostS X.K R F vs H2 Ls2 ml E W (oWhile t f n ρ2), fun σ2 H2 z => ⟨n, Nat.lt_succ_self n, z⟩, ?_⟩
        refine h R vs σ' H1 ρ1 Ls1 { E with nx := _, ct := _, bk := E.nx } W fx' s1 tk ?_
        have q2 := PostS.after t1 q'
        cases e2 : f ρ1 with
        | nx ρ2 => rw [e2] at q2; exact fun σ2 H2 Ls2 fx2 s2 t2 => ⟨ρ2, Ls2, fx2, s2, PostS.after t2 q2⟩
        | ct ρ2 => rw [e2] at q2; exact fun σ2 H2 Ls2 fx2 s2 t2 => ⟨ρ2, Ls2, fx2, s2, PostS.after t2 q2⟩
        | bk ρ2 => rw [e2] at q2; exact q2
        | ret d ρ2 => rw [e2] at q2; exact q2
        | err x ρ2 => rw [e2] at q2; exact q2
        | bad => rw [e2] at q2; exact q2
def oForGo (tgf : D → Rho → Option Rho) (f : Rho → Out) : List D → Rho → Out
  | [], ρ => .nx ρ
  | d :: ds, ρ => match tgf d ρ with
    | none => .bad
    | some ρ1 => match f ρ1 with
      | .nx ρ2 => oForGo tgf f ds ρ2
      | .ct ρ2 => oForGo tgf f ds ρ2
      | .bk ρ2 => .nx ρ2
      | o => o
def oFor (fi : Rho → Rs (List D)) (tgf : D → Rho → Option Rho) (f : Rho → Out) : Rho → Out := fun ρ => match fi ρ with
  | .ok ds => oForGo tgf f ds ρ
  | .err x => .err x ρ
  | .bad => .bad
theorem ss_for {fi : Rho → Rs (List D)} {tgf : D → Rho → Option Rho} {ts : List Nat} {f : Rho → Out} (hp : Pso X) (hc : X.calm = true) (hi : SIt true X ml tg iter fi) (hg : SG X ml ts tg tgf) (h : SSs X { F with ml := ml } ml ml body f)
    (hts : ts.all (fun j => F.io.getD j 0 == 0) = true := by decide) (w : mwB ml F.me = true := by decide) (hs : ∀ x, foldedSetIterable iter X.env x = pure x := by intro _; rfl) : SS X F ml ml (.For tg iter body [] pos) (oFor fi tgf f) := by
  intro R vs σ H ρ Ls E W fx s tk q
  unfold oFor at q
  refine US.of (ps_for hp hc piU pgU pssU hs) (hi R σ H ρ Ls _ W s tk ?_)
  cases e1 : fi ρ with
  | bad => rw [e1] at q; exact q
  | err x => rw [e1] at q; exact fun cls dd H' g z => q cls dd σ H' _ fx ((s.grow g).weak (mw_of w)) (Step.grow g).weak z
  | ok ds =>
    rw [e1] at q
    dsimp only at q
    intro J H1 G g1 sr st gS
    have s1 := s.grow g1
    have q1 := PostS.after (Step.grow g1) q
    refine for_it (n := ds.length) (G := fun H' => ∃ S, (∀ p, H' p = none → S p) ∧ G S H') (Y := fun i Ha v Hb => Grow Ha Hb ∧ ∀ S, (∀ p, Ha p = none → S p) → G S Ha → ∃ d, ds[i]? = some d ∧ Rq X.K S Hb 0 d v)
      ⟨fun i Ha hi ⟨S, _, gg⟩ => sr.go S Ha i hi gg, fun Ha ⟨S, _, gg⟩ => sr.stop S Ha gg, fun i Ha v Hb hi ⟨S, fr, gg⟩ y => ⟨(sr.yld S Ha i v Hb fr hi gg y).1, fun S' fr' gg' => (sr.yld S' Ha i v Hb fr' hi gg' y).2⟩⟩
      (fun i σ' H' => ∃ ρ' Ls', Fix F.io vs σ' ∧ SR X.K R H' σ' ρ' ml Ls' ∧ Step Ls Ls' [] H1 H' ∧ PostS X.K R F vs H' Ls' ml E W (oForGo tgf f (ds.drop i) ρ')) ⟨ρ, Ls, fx, s1, Step.refl _, q1⟩ ?_ ?_ ?_
    · have stay : ∀ {H' : Hp} {Ls' : Nat → List Addr}, Step Ls Ls' [] H1 H' → G (Sh R Ls') H' := fun {H' Ls'} t => by
        refine (show Stays G from st) (Sh R Ls) _ H1 _ (fun a z n => ?_) (fun a o ea z => s1.kept t ea z) gS
        have := s1.sh t z n; rwa [ru_nil] at this
      rintro i σ' H' hi' ⟨ρ', Ls', fx', s', t', q'⟩
      exact ⟨_, fun p hp => s'.fresh hp, stay t'⟩
    · have stay : ∀ {H' : Hp} {Ls' : Nat → List Addr}, Step Ls Ls' [] H1 H' → G (Sh R Ls') H' := fun {H' Ls'} t => by
        refine (show Stays G from st) (Sh R Ls) _ H1 _ (fun a z n => ?_) (fun a o ea z => s1.kept t ea z) gS
        have := s1.sh t z n; rwa [ru_nil] at this
      rintro i x σ' Ha Hb hi' ⟨ρ', Ls', fx', s', t', q'⟩ ⟨gab, yv⟩
      obtain ⟨d, ed, rd⟩ := yv _ (fun p hp => s'.fresh hp) (stay t')
      have edrop : ds.drop i = d :: ds.drop (i + 1) := by
        rw [List.drop_eq_getElem_cons hi']
        rw [List.getElem?_eq_getElem hi'] at ed
        cases ed; rfl
      rw [edrop] at q'
      unfold oForGo at q'
      cases e2 : tgf d ρ' with
      | none => rw [e2] at q'; exact q'.elim
      | some ρ1 =>
        rw [e2] at q'
        dsimp only at q'
        refine hg R σ' Hb ρ' Ls' d x ρ1 _ (s'.grow gab) rd e2 fun σ1 s2 l1 k1 => ?_
        have fx1 : Fix F.io vs σ1 := fun j hj => by
          obtain ⟨v, z1, z2⟩ := fx' j hj
          refine ⟨v, z1, ?_⟩
          rw [k1 j fun hm => ?_]
          · exact z2
          · rw [List.all_eq_true] at hts
            have := hts j hm
            rw [beq_iff_eq] at this
            omega
        have tb := t'.trans (Step.grow gab)
        refine h R vs σ1 Hb ρ1 Ls' { E with nx := _, ct := _, bk := E.nx } W fx1 s2 tk ?_
        have q2 := PostS.after (Step.grow gab) q'
        cases e3 : f ρ1 with
        | nx ρ2 => rw [e3] at q2; exact fun σ2 H2 Ls2 fx2 s2 t2 => ⟨ρ2, Ls2, fx2, s2, tb.trans t2, PostS.after t2 q2⟩
        | ct ρ2 => rw [e3] at q2; exact fun σ2 H2 Ls2 fx2 s2 t2 => ⟨ρ2, Ls2, fx2, s2, tb.trans t2, PostS.after t2 q2⟩
        | bk ρ2 => rw [e3] at q2; exact q2
        | ret d ρ2 => rw [e3] at q2; exact q2
        | err x ρ2 => rw [e3] at q2; exact q2
        | bad => rw [e3] at q2; exact q2
    · rintro σ' H' ⟨ρ', Ls', fx', s', t', q'⟩
      rw [List.drop_length] at q'
      exact q' σ' H' Ls' fx' s' (Step.refl _)
end
end VL

set_option Elab.async false
set_option linter.all false
set_option maxRecDepth 100000
set_option maxHeartbeats 1000000
namespace VL
open PySem PySem.Spec PyProof.Rows L2

/-! ### defs -/
/-- a def that changes nothing: F its value -/
def spP (K : PySem.W.Frag) (kr n : Nat) (F : List D → Rs D) : Sp := fun vs H Q E => ∃ (S : Addr → Prop) (ds : List D), ds.length = n ∧ Rqs K S H 0 ds vs ∧ (∀ p, H p = none → S p) ∧
  match F ds with
  | .ok d => ∀ v H' Lt, Grow H H' → Ow K (fun a => S a ∧ a ∉ Lt) H' kr d v Lt → Lt.Nodup → (∀ a ∈ Lt, H a = none) → Q v H'
  | .err x => ∀ cls dd H', Grow H H' → ExIs K x cls dd H' → E cls dd H'
  | .bad => False
def rho0 (nN : Nat) (ds : List D) : Rho := ds.map some ++ List.replicate (nN - ds.length) none
def runP (nN : Nat) (f : Rho → Out) (ds : List D) : Rs D := match f (rho0 nN ds) with
  | .ret d _ => .ok d
  | .nx _ => .ok .non
  | .err x _ => .err x
  | _ => .bad
abbrev BX (P : Program) (w : World) (K : PySem.W.Frag) (mg : Str → Option Value) (base : Heap) (N : List Str) (qual : Str) (st : Stmt) (f : Addr) (cdv : Value) (A : Around) (outer : List Env) (s : Shared) (H : Hp) (E : XK) : Cx :=
  cxOf (L2.CX P w) P w K mg base N qual (defScope st) f cdv A outer s H E
section
variable {P : Program} {w : World} {K : PySem.W.Frag} {mg : Str → Option Value} {base : Heap}
theorem bx_takes {N : List Str} {qual : Str} {st : Stmt} {f : Addr} {cdv : Value} {A : Around} {outer : List Env} {s : Shared} {H : Hp} {E : XK} : Takes (BX P w K mg base N qual st f cdv A outer s H E) (fun cls d _ H => E cls d H) := takes_of rfl rfl rfl rfl
theorem bx_pso {N : List Str} {qual : Str} {st : Stmt} {f : Addr} {cdv : Value} {A : Around} {outer : List Env} {s : Shared} {H : Hp} {E : XK} : Pso (BX P w K mg base N qual st f cdv A outer s H E) := passes_of rfl
theorem rep_getD {n i : Nat} : (List.replicate n 0).getD i 0 = 0 := by
  by_cases h : i < n
  · simp [List.getD, List.getElem?_replicate, h]
  · simp [List.getD, List.getElem?_replicate, h]
theorem fn_pure {x qual : Str} {st : Stmt} {f : Addr} {fd : FuncData} {N ps : List Str} {k kr : Nat} {m' me : List Nat} {fb : Rho → Out} (F : Fun K x qual st f fd) (S : FnScope N ps (defScope st)) (hkr : kr = 0 ∨ ∀ ρ ρ', fb ρ ≠ .nx ρ')
    (hb : ∀ (cdv : Value) (A : Around) (outer : List Env) (s : Shared) (H : Hp) (E : XK), Gd (BX P w K mg base N qual st f cdv A outer s H E) k → Pso (BX P w K mg base N qual st f cdv A outer s H E) →
      SSs (BX P w K mg base N qual st f cdv A outer s H E) ⟨[], kr, [], me⟩ (List.replicate N.length 0) m' (defBody st) fb) :
    FnOk P w K mg base (L2.CX P w) (k + 1) f fd ps (spP K kr ps.length (runP N.length fb)) := by
  refine F.okX S (fun vs H Q E h => ?_) (fun cdv A outer s H vs Q E hr h => ?_)
  · obtain ⟨S', ds, hn, hq, _⟩ := h
    rw [← hn, hq.length]
  · obtain ⟨S', ds, hn, hq, fr, post⟩ := h
    refine ⟨_, pssU, ?_⟩
    have hpl : ps.length ≤ N.length := by
      have := congrArg List.length S.pre
      rw [List.length_take] at this
      omega
    have hvs : vs.length = ps.length := by rw [← hq.length, hn]
    have s0 : SR K (fun a => H a ≠ none ∧ ¬ S' a) H (start N vs) (rho0 N.length ds) (List.replicate N.length 0) (fun _ => []) := by
      refine ⟨?_, ?_, fun i d e => ?_, fun i _ => rfl, fun i => List.nodup_nil, fun i j a h => (nomatch h), fun i a h => (nomatch h), fun a z => z.1⟩
      · unfold rho0 L2.start; simp [hq.length]
      · unfold rho0; simp; omega
      · unfold rho0 at e
        rw [List.getElem?_append] at e
        split at e
        · rename_i hi
          rw [List.getElem?_map, Option.map_eq_some_iff] at e
          obtain ⟨d', e1, e2⟩ := e
          cases e2
          obtain ⟨v, e3, r⟩ := hq.get e1
          refine ⟨v, ?_, ?_⟩
          · unfold L2.start
            rw [List.getElem?_append_left (by simpa [hq.length] using hi), List.getElem?_map, e3]; rfl
          · rw [rep_getD]
            exact .zero (r.grow (Grow.refl H) fun a z _ => ⟨fun y => y.2 z, fun _ h => nomatch h⟩)
        · rw [List.getElem?_replicate] at e
          split at e <;> cases e
    have gr : ∀ {Ls' : Nat → List Addr} {Lt : List Addr} {H' : Hp}, Step (fun _ => []) Ls' Lt H H' → Grow H H' := fun t a o e => t.keep a o e fun i h => nomatch h
    refine hb cdv A outer s H E ⟨rfl, S.nd, hr⟩ bx_pso (fun a => H a ≠ none ∧ ¬ S' a) vs _ H (rho0 N.length ds) (fun _ => []) _ _ (fun i hi => absurd hi (by simp)) s0 bx_takes ?_
    unfold runP at post
    cases e1 : fb (rho0 N.length ds) with
    | nx ρ' =>
      rw [e1] at post
      rcases hkr with rfl | hk
      · exact fun σ' H' Ls' fx s' t => post .non H' [] (gr t) (.zero rq_non) List.nodup_nil fun a h => nomatch h
      · exact absurd e1 (hk _ _)
    | ret d ρ' =>
      rw [e1] at post
      intro v H' r
      obtain ⟨Ls', Lt, h1, h2, h3, h4, h5⟩ := r
      refine post v H' Lt (gr h5) (h2.grow (Grow.refl H') fun a z _ => ⟨?_, fun y => z.1 (.inr y)⟩) h3 fun a ha => ?_
      · cases e : H a with
        | none => exact fr a e
        | some o => exact Classical.byContradiction fun y => z.1 (.inl ⟨by rw [e]; simp, y⟩)
      · rcases h5.new a (.inr ha) with ⟨i, hi⟩ | e
        · cases hi
        · exact e
    | bk ρ' => rw [e1] at post; exact post.elim
    | ct ρ' => rw [e1] at post; exact post.elim
    | err x ρ' =>
      rw [e1] at post
      exact fun cls dd σ' H' Ls' fx s' t z => post cls dd H' (gr t) z
    | bad => rw [e1] at post; exact post.elim

def only (j : Nat) (L : List Addr) : Nat → List Addr := fun i => if i = j then L else []
theorem only_same {j : Nat} {L : List Addr} : only j L j = L := if_pos rfl
theorem only_ne {i j : Nat} {L : List Addr} (h : i ≠ j) : only j L i = [] := if_neg h
/-- a def that changes its parameter j (owned to depth k there) -/
inductive Ro where
  | ok (d : D) (d0 : D) | err (x : Exn) | bad
def spI (K : PySem.W.Frag) (kr n j kj : Nat) (F : List D → Ro) : Sp := fun vs H Q E => ∃ (R : Addr → Prop) (L : List Addr) (ds : List D), ds.length = n ∧
  SR K R H (vs.map some) (ds.map some) ((List.replicate n 0).set j kj) (only j L) ∧
  match F ds with
  | .ok d d0 => ∀ v H' L' Lt v0, vs[j]? = some v0 → (∀ a o, H a = some o → a ∉ L → H' a = some o) → (∀ a, H a ≠ none → H' a ≠ none) → (∀ a, (a ∈ L' ∨ a ∈ Lt) → a ∈ L ∨ H a = none) →
      Ow K (fun a => ¬ R a ∧ a ∉ Lt ∧ a ∉ L') H' kj d0 v0 L' → Ow K (fun a => ¬ R a ∧ a ∉ Lt ∧ a ∉ L') H' kr d v Lt → L'.Nodup → Lt.Nodup → (∀ a ∈ L', a ∉ Lt ∧ ¬ R a) → (∀ a ∈ Lt, ¬ R a) → Q v H'
  | .err x => ∀ cls dd H', (∀ a o, H a = some o → a ∉ L → H' a = some o) → (∀ a, H a ≠ none → H' a ≠ none) → ExIs K x cls dd H' → E cls dd H'
  | .bad => False
def runI (nN j : Nat) (f : Rho → Out) (ds : List D) : Ro := match f (rho0 nN ds) with
  | .ret d ρ' => match ρ'[j]? with
    | some (some d0) => .ok d d0
    | _ => .bad
  | .nx ρ' => match ρ'[j]? with
    | some (some d0) => .ok .non d0
    | _ => .bad
  | .err x _ => .err x
  | _ => .bad
theorem fn_io {x qual : Str} {st : Stmt} {f : Addr} {fd : FuncData} {N ps : List Str} {k kr j kj : Nat} {m' me : List Nat} {fb : Rho → Out} (F : Fun K x qual st f fd) (S : FnScope N ps (defScope st)) (hkr : kr = 0 ∨ ∀ ρ ρ', fb ρ ≠ .nx ρ') (hj : j < ps.length) (hkj : 0 < kj)
    (hm' : (∀ ρ ρ', fb ρ ≠ .nx ρ') ∨ m'.getD j 0 = kj)
    (hb : ∀ (cdv : Value) (A : Around) (outer : List Env) (s : Shared) (H : Hp) (E : XK), Gd (BX P w K mg base N qual st f cdv A outer s H E) k → Pso (BX P w K mg base N qual st f cdv A outer s H E) →
      SSs (BX P w K mg base N qual st f cdv A outer s H E) ⟨(List.replicate ps.length 0).set j kj, kr, [], me⟩ ((List.replicate N.length 0).set j kj) m' (defBody st) fb) :
    FnOk P w K mg base (L2.CX P w) (k + 1) f fd ps (spI K kr ps.length j kj (runI N.length j fb)) := by
  refine F.okX S (fun vs H Q E h => ?_) (fun cdv A outer s H vs Q E hr h => ?_)
  · obtain ⟨R, L, ds, hn, hq, _⟩ := h
    have := hq.len
    simp at this
    omega
  · obtain ⟨R, L, ds, hn, hq, post⟩ := h
    refine ⟨_, pssU, ?_⟩
    have hpl : ps.length ≤ N.length := by
      have := congrArg List.length S.pre
      rw [List.length_take] at this
      omega
    have hdv : ds.length = vs.length := by have := hq.len; simpa using this
    have ioj : ((List.replicate ps.length 0).set j kj).getD j 0 = kj := getD_set_self (by simpa using hj)
    have ion : ∀ i, i ≠ j → ((List.replicate ps.length 0).set j kj).getD i 0 = 0 := fun i hi => by rw [getD_set_ne (Ne.symm hi), rep_getD]
    have s0 : SR K R H (start N vs) (rho0 N.length ds) ((List.replicate N.length 0).set j kj) (only j L) := by
      refine ⟨?_, ?_, fun i d e => ?_, fun i h => ?_, hq.nd, hq.dj, hq.sep, hq.dom⟩
      · unfold rho0 L2.start; simp [hdv]
      · unfold rho0; simp; omega
      · unfold rho0 at e
        rw [List.getElem?_append] at e
        split at e
        · rename_i hi
          obtain ⟨v, e3, r⟩ := hq.val i d e
          refine ⟨v, ?_, ?_⟩
          · unfold L2.start
            rw [List.getElem?_append_left (by simpa [hdv] using hi)]; exact e3
          · have e4 : ((List.replicate N.length 0).set j kj).getD i 0 = ((List.replicate ps.length 0).set j kj).getD i 0 := by
              by_cases q : i = j
              · subst q
                rw [ioj, getD_set_self (by simp; omega)]
              · rw [ion i q, getD_set_ne (Ne.symm q), rep_getD]
            rw [e4]; exact r
        · rw [List.getElem?_replicate] at e
          split at e <;> cases e
      · refine hq.emp i fun d e => h d ?_
        unfold rho0
        rw [List.getElem?_append_left ?_]
        · exact e
        · exact (List.getElem?_eq_some_iff.mp e).1
    have fx0 : Fix ((List.replicate ps.length 0).set j kj) vs (start N vs) := fun i hi => by
      have : i = j := Classical.byContradiction fun q => by rw [ion i q] at hi; exact absurd hi (Nat.lt_irrefl _)
      subst this
      have hv : i < vs.length := by omega
      refine ⟨vs[i], by simp [hv], ?_⟩
      unfold L2.start
      rw [List.getElem?_append_left (by simpa using hv)]
      simp [hv]
    have hjv : j < vs.length := by omega
    have kp : ∀ {Ls' : Nat → List Addr} {Lt : List Addr} {H' : Hp}, Step (only j L) Ls' Lt H H' → ∀ a o, H a = some o → a ∉ L → H' a = some o := fun t a o e n => t.keep a o e fun i h => by
      by_cases q : i = j
      · rw [q, only_same] at h; exact n h
      · rw [only_ne q] at h; cases h
    have nw : ∀ {Ls' : Nat → List Addr} {Lt : List Addr} {H' : Hp}, Step (only j L) Ls' Lt H H' → ∀ a, (a ∈ Ls' j ∨ a ∈ Lt) → a ∈ L ∨ H a = none := fun t a h => by
      rcases t.new a (h.imp (fun z => ⟨j, z⟩) id) with ⟨i, z⟩ | z
      · by_cases q : i = j
        · rw [q, only_same] at z; exact .inl z
        · rw [only_ne q] at z; cases z
      · exact .inr z
    refine hb cdv A outer s H E ⟨rfl, S.nd, hr⟩ bx_pso R vs _ H (rho0 N.length ds) _ _ _ fx0 s0 bx_takes ?_
    unfold runI at post
    cases e1 : fb (rho0 N.length ds) with
    | nx ρ' =>
      rw [e1] at post
      dsimp only at post
      rcases hkr with rfl | hk
      · rcases hm' with hm' | hm'
        · exact absurd e1 (hm' _ _)
        · intro σ' H' Ls' fx s' t
          cases e2 : ρ'[j]? with
          | none => rw [e2] at post; exact post.elim
          | some o =>
            cases o with
            | none => rw [e2] at post; exact post.elim
            | some d0 =>
              rw [e2] at post
              obtain ⟨v, e3, o3⟩ := s'.val j d0 e2
              obtain ⟨v', e4, e5⟩ := fx j (by rw [ioj]; exact hkj)
              rw [e3] at e5
              cases e5
              rw [hm'] at o3
              exact post .non H' (Ls' j) [] v e4 (kp t) t.dom (nw t) (o3.grow (Grow.refl H') fun a z _ => ⟨z.1, fun h => (nomatch h), z.2 j⟩) (.zero rq_non) (s'.nd j) List.nodup_nil (fun a ha => ⟨fun h => (nomatch h), s'.sep j a ha⟩) fun a h => nomatch h
      · exact absurd e1 (hk _ _)
    | ret d ρ' =>
      rw [e1] at post
      dsimp only at post
      intro v H' r
      obtain ⟨Ls', Lt, h1, h2, h3, h4, h5⟩ := r
      cases e2 : ρ'[j]? with
      | none => rw [e2] at post; exact post.elim
      | some o =>
        cases o with
        | none => rw [e2] at post; exact post.elim
        | some d0 =>
          rw [e2] at post
          have e3 : (ioR ((List.replicate ps.length 0).set j kj) vs.length ρ')[j]? = some (some d0) := by
            unfold ioR
            rw [List.getElem?_map, List.getElem?_range hjv]
            simp only [Option.map_some]
            rw [ioj, if_pos hkj, e2]; rfl
          obtain ⟨v0, e4, o4⟩ := h1.val j d0 e3
          rw [List.getElem?_map, Option.map_eq_some_iff] at e4
          obtain ⟨v0', e5, e6⟩ := e4
          cases e6
          rw [ioM_get hjv, ioj] at o4
          exact post v H' (Ls' j) Lt v0 e5 (kp h5) h5.dom (nw h5) (o4.grow (Grow.refl H') fun a z _ => ⟨fun y => z.1 (.inl y), fun y => z.1 (.inr y), z.2 j⟩) (h2.grow (Grow.refl H') fun a z _ => ⟨fun y => z.1 (.inl y), fun y => z.1 (.inr y), z.2 j⟩)
            (h1.nd j) h3 (fun a ha => ⟨fun y => h1.sep j a ha (.inr y), fun y => h1.sep j a ha (.inl y)⟩) h4
    | bk ρ' => rw [e1] at post; exact post.elim
    | ct ρ' => rw [e1] at post; exact post.elim
    | err x ρ' =>
      rw [e1] at post
      exact fun cls dd σ' H' Ls' fx s' t z => post cls dd H' (kp t) t.dom z
    | bad => rw [e1] at post; exact post.elim
end
end VL

set_option Elab.async false
set_option linter.all false
set_option maxRecDepth 100000
set_option maxHeartbeats 1000000
namespace VL
open PySem PySem.Spec PyProof.Rows L2
/-! ### calls of defs -/
/-! no list, dict, object in it -/
mutual
def flatD : D → Bool
  | .non => true
  | .bl _ => true
  | .int _ => true
  | .str _ => true
  | .obj _ => true
  | .tup ds => flatDs ds
  | .lst _ => false
  | .dk _ _ => false
  | .dt _ _ => false
  | .ins _ _ _ => false
  | .scr _ => false
def flatDs : List D → Bool
  | [] => true
  | d :: ds => flatD d && flatDs ds
end
theorem flatDs_all : ∀ ds : List D, flatDs ds = ds.all flatD
  | [] => by unfold flatDs; rfl
  | d :: ds => by unfold flatDs; rw [flatDs_all ds]; rfl
mutual
theorem Rq.flat {K : PySem.W.Frag} {S S' : Addr → Prop} {H : Hp} : ∀ {d : D} {v : V}, flatD d = true → Rq K S H 0 d v → Rq K S' H 0 d v
  | .non, v, _, h => by rw [h.non]; exact rq_non
  | .bl _, v, _, h => by rw [h.bl]; exact rq_bl
  | .int _, v, _, h => by rw [h.int]; exact rq_int
  | .str _, v, _, h => by rw [h.str]; exact rq_str
  | .obj _, v, _, h => by rw [h.obj]; unfold Rq; rfl
  | .tup ds, v, hf, h => by
    unfold flatD at hf
    obtain ⟨a, vs, rfl, h1, h2⟩ := h.tup
    exact rq_tup h1 (Rqs.flat hf h2)
  | .lst _, v, hf, h => by unfold flatD at hf; cases hf
  | .dk _ _, v, hf, h => by unfold flatD at hf; cases hf
  | .dt _ _, v, hf, h => by unfold flatD at hf; cases hf
  | .ins _ _ _, v, hf, h => by unfold flatD at hf; cases hf
  | .scr _, v, hf, h => by unfold flatD at hf; cases hf
theorem Rqs.flat {K : PySem.W.Frag} {S S' : Addr → Prop} {H : Hp} : ∀ {ds : List D} {vs : List V}, flatDs ds = true → Rqs K S H 0 ds vs → Rqs K S' H 0 ds vs
  | [], _, _, h => by rw [h.inv0]; exact .nil
  | d :: ds, _, hf, h => by
    unfold flatDs at hf
    rw [Bool.and_eq_true] at hf
    obtain ⟨v, r, rfl, h1, h2⟩ := h.inv
    exact .cons (Rq.flat hf.1 h1) (Rqs.flat hf.2 h2)
end
section
variable {X : Cx} {m : List Nat} {e o : Expr} {es : List Expr} {pos p apos : Pos} {x mt : Str} {f C : Addr} {fd : FuncData} {ps : List Str} {k kr n : Nat} {F : List D → Rs D}
def fCall (fs : Rho → Rs (List D)) (F : List D → Rs D) : Rho → Rs D := fun ρ => do
  let ds ← fs ρ
  F ds
theorem RqL.len {K : PySem.W.Frag} {S : Addr → Prop} {H : Hp} : ∀ {js : List Nat} {ds : List D} {vs : List V}, RqL K S H js ds vs → ds.length = js.length
  | [], _, _, h => by obtain ⟨rfl, rfl⟩ := h; rfl
  | j :: js, _, _, h => by
    obtain ⟨d, dr, v, vr, rfl, rfl, _, h2⟩ := h
    simp [RqL.len h2]
theorem sp_of_promise {R : Addr → Prop} {σ : Sg} {H H1 : Hp} {ρ : Rho} {Ls : Nat → List Addr} {Q : VK} {W : WX} {vs : List V} {ds : List D} (s : SR X.K R H σ ρ m Ls) (g1 : Grow H H1) (hl : ds.length = n) (r : Rqs X.K (Sh R Ls) H1 0 ds vs)
    (q : match F ds with
      | .ok d => ∀ v H' Lt, Grow H H' → Ow X.K (Sh (RU R Lt) Ls) H' kr d v Lt → Lt.Nodup → (∀ a ∈ Lt, H a = none) → Q v H'
      | .err x => ∀ cls dd H', Grow H H' → ExIs X.K x cls dd H' → W cls dd σ H'
      | .bad => False) : spP X.K kr n F vs H1 Q (fun cls d H => W cls d σ H) := by
  refine ⟨Sh R Ls, ds, hl, r, fun p hp => s.fresh (g1.dom hp), ?_⟩
  cases e1 : F ds with
  | bad => rw [e1] at q; exact q
  | err x => rw [e1] at q; exact fun cls dd H' g z => q cls dd H' (g1.trans g) z
  | ok d =>
    rw [e1] at q
    intro v H' Lt g o nd n
    refine q v H' Lt (g1.trans g) (o.grow (Grow.refl H') fun a z _ => ⟨fun w => ?_, z.1.2⟩) nd fun a ha => g1.dom (n a ha)
    rcases w with w | w
    · exact z.1.1 w
    · exact z.2 w
/-- f(a, ..) -/
theorem sf_call {js : List Nat} {fs : Rho → Rs (List D)} (G : FnOk X.prog X.w X.K X.mg X.base (L2.CX X.prog X.w) k f fd ps (spP X.K kr n F)) (hr : Room k X.A) (hg : Gl X x) (hm : X.mg x = some (.ref f)) (hk : PySem.W.keepIn X.K (.ref f) = true) (hb : Binds X.K fd ps [])
    (hs : NoStar X (e :: es)) (hA : SPs X m js (e :: es) fs) (hz : AllZ js) (hn : js.length = n := by rfl) (hdb : (x == ("__debug__" : Str)) = false := by decide +kernel) (hpl : (backTo pos (starEach es X.env)).any (·.1) = false := by rfl) :
    SF X m kr (.Call (.Name x p) (e :: es) [] pos) (fCall fs F) := by
  intro R σ H ρ Ls Q W s tk q
  unfold fCall at q
  refine UE.of (pe_callS (E := WE W) G hr hg hm hk hb (fun σ => passAt tk σ) (paN hs) hdb hs.1 hpl) (hA R σ H ρ Ls _ W s tk ?_)
  cases e1 : fs ρ with
  | bad => rw [e1] at q; exact q
  | err x => rw [e1] at q; exact q
  | ok ds =>
    rw [e1] at q
    intro vs H1 g1 r1
    exact sp_of_promise s g1 (r1.len.trans hn) (r1.rqs hz) q
/-- owned lists are lent to a def that hands back no list -/
def fCallB (fs : Rho → Rs (List D)) (F : List D → Rs D) : Rho → Rs D := fun ρ => do
  let ds ← fs ρ
  let d ← F ds
  if flatD d then pure d else .bad
theorem Rq.top {K : PySem.W.Frag} {S : Addr → Prop} {H : Hp} : ∀ (d : D) {j : Nat} {v : V}, Rq K S H j d v → Rq K (fun _ => True) H 0 d v := fun d j v h => by
  have h1 : Rq K (fun _ => True) H j d v := h.grow (Grow.refl H) fun _ _ _ => trivial
  exact topDown d j v h1
where
  topDown {K : PySem.W.Frag} {H : Hp} : ∀ (d : D) (j : Nat) (v : V), Rq K (fun _ => True) H j d v → Rq K (fun _ => True) H 0 d v
    | .non, j, v, h => by rw [h.non]; exact rq_non
    | .bl _, j, v, h => by rw [h.bl]; exact rq_bl
    | .int _, j, v, h => by rw [h.int]; exact rq_int
    | .str _, j, v, h => by rw [h.str]; exact rq_str
    | .obj _, j, v, h => by rw [h.obj]; unfold Rq; rfl
    | .tup ds, j, v, h => by unfold Rq at h ⊢; exact h
    | .scr _, j, v, h => by unfold Rq at h ⊢; exact h
    | .lst ds, j, v, h => by
      obtain ⟨a, vs, rfl, h1, _, h2⟩ := h.lst
      unfold Rq
      exact ⟨a, vs, rfl, h1, fun _ => trivial, topDowns ds (j - 1) vs h2⟩
    | .dk ks ds, j, v, h => by
      obtain ⟨a, vs, rfl, h1, h3, _, h2⟩ := h.dk
      unfold Rq
      exact ⟨a, vs, rfl, h1, h3, fun _ => trivial, topDowns ds (j - 1) vs h2⟩
    | .dt ks ds, j, v, h => by
      obtain ⟨a, vs, rfl, h1, h3, _, h2⟩ := h.dt
      unfold Rq
      exact ⟨a, vs, rfl, h1, h3, fun _ => trivial, topDowns ds (j - 1) vs h2⟩
    | .ins C ns ds, j, v, h => by
      obtain ⟨a, dx, vs, rfl, h1, h3, _, h2⟩ := h.ins
      unfold Rq
      exact ⟨a, dx, vs, rfl, h1, h3, fun _ => trivial, topDowns ds (j - 1) vs h2⟩
  topDowns {K : PySem.W.Frag} {H : Hp} : ∀ (ds : List D) (j : Nat) (vs : List V), Rqs K (fun _ => True) H j ds vs → Rqs K (fun _ => True) H 0 ds vs
    | [], j, vs, h => by rw [h.inv0]; exact .nil
    | d :: ds, j, vs, h => by
      obtain ⟨v, r, rfl, h1, h2⟩ := h.inv
      exact .cons (topDown d j v h1) (topDowns ds j r h2)
theorem RqL.top {K : PySem.W.Frag} {S : Addr → Prop} {H : Hp} : ∀ {js : List Nat} {ds : List D} {vs : List V}, RqL K S H js ds vs → Rqs K (fun _ => True) H 0 ds vs
  | [], _, _, h => by obtain ⟨rfl, rfl⟩ := h; exact .nil
  | j :: js, _, _, h => by
    obtain ⟨d, dr, v, vr, rfl, rfl, h1, h2⟩ := h
    exact .cons (h1.top d) (RqL.top h2)
theorem sp_callB {js : List Nat} {j : Nat} {fs : Rho → Rs (List D)} (G : FnOk X.prog X.w X.K X.mg X.base (L2.CX X.prog X.w) k f fd ps (spP X.K kr n F)) (hr : Room k X.A) (hg : Gl X x) (hm : X.mg x = some (.ref f)) (hk : PySem.W.keepIn X.K (.ref f) = true) (hb : Binds X.K fd ps [])
    (hs : NoStar X (e :: es)) (hA : SPs X m js (e :: es) fs) (hn : js.length = n := by rfl) (hdb : (x == ("__debug__" : Str)) = false := by decide +kernel) (hpl : (backTo pos (starEach es X.env)).any (·.1) = false := by rfl) :
    SP X m j (.Call (.Name x p) (e :: es) [] pos) (fCallB fs F) := by
  intro R σ H ρ Ls Q W s tk q
  unfold fCallB at q
  refine UE.of (pe_callS (E := WE W) G hr hg hm hk hb (fun σ => passAt tk σ) (paN hs) hdb hs.1 hpl) (hA R σ H ρ Ls _ W s tk ?_)
  cases e1 : fs ρ with
  | bad => rw [e1] at q; exact q
  | err x => rw [e1] at q; exact q
  | ok ds =>
    rw [e1, ok_bind] at q
    intro vs H1 g1 r1
    refine ⟨fun _ => True, ds, r1.len.trans hn, r1.top, fun _ _ => trivial, ?_⟩
    cases e2 : F ds with
    | bad => rw [e2] at q; exact q
    | err x => rw [e2] at q; exact fun cls dd H' g z => q cls dd H' (g1.trans g) z
    | ok d =>
      rw [e2, ok_bind] at q
      intro v H' Lt g o nd n
      by_cases hf : flatD d = true
      · rw [if_pos hf] at q
        have := o.share (S' := fun _ => True) (fun _ _ _ => trivial) fun _ _ => trivial
        exact q v H' (g1.trans g) ((this.flat hf).up _ (Nat.zero_le _))
      · rw [if_neg hf] at q; exact q.elim
/-- o.m(..), a method that changes nothing and raises nothing -/
def isC (C : Addr) (mt : Str) : D → Bool
  | .ins C' ns _ => decide (C' = C) && ns.all (fun n => n != mt)
  | _ => false
def fMeth (C : Addr) (mt : Str) (fo : Rho → Rs D) (fs : Rho → Rs (List D)) (F : List D → Rs D) : Rho → Rs D := fun ρ => do
  let o ← fo ρ
  if isC C mt o then do
    let ds ← fs ρ
    nx (F (o :: ds))
  else .bad
theorem lookup_no {f : Str} : ∀ {ns : List Str} {vs : List V}, ns.all (fun n => n != f) = true → (ns.zip vs).lookup f = none
  | [], vs, _ => by rw [List.zip_nil_left]; rfl
  | n :: ns, [], _ => by rw [List.zip_nil_right]; rfl
  | n :: ns, v :: vs, h => by
    rw [List.all_cons, Bool.and_eq_true] at h
    rw [List.zip_cons_cons, List.lookup_cons]
    have e : (f == n) = false := by
      have := h.1
      rw [bne_iff_ne] at this
      exact beq_eq_false_iff_ne.mpr (Ne.symm this)
    rw [e]
    exact lookup_no h.2
theorem isC_of {K : PySem.W.Frag} {S : Addr → Prop} {H : Hp} {d : D} {v : V} {j : Nat} (h : isC C mt d = true) (r : Rq K S H j d v) : ∃ a dx fs, v = .ref a ∧ H a = some (.ins C dx fs) ∧ fs.lookup mt = none := by
  unfold isC at h
  split at h
  · rw [Bool.and_eq_true, decide_eq_true_eq] at h
    obtain ⟨rfl, h2⟩ := h
    obtain ⟨a, dx, vs, rfl, h1, _⟩ := r.ins
    exact ⟨a, dx, _, rfl, h1, lookup_no h2⟩
  · cases h
theorem meth_core {fo : Rho → Rs D} {fs : Rho → Rs (List D)} {js : List Nat} {R : Addr → Prop} {σ : Sg} {H : Hp} {ρ : Rho} {Ls : Nat → List Addr} {Q : VK} {W : WX} (s : SR X.K R H σ ρ m Ls) (tk : Takes X W) (ho : SP X m 0 o fo) (hA : SPs X m js es fs) (hz : AllZ js) (hn : js.length + 1 = n)
    (q : match fMeth C mt fo fs F ρ with
      | .ok d => ∀ v H' Lt, Grow H H' → Ow X.K (Sh (RU R Lt) Ls) H' kr d v Lt → Lt.Nodup → (∀ a ∈ Lt, H a = none) → Q v H'
      | .err x => ∀ cls dd H', Grow H H' → ExIs X.K x cls dd H' → W cls dd σ H'
      | .bad => False) : UE X o σ H fun x H1 => ∃ a dx fs, x = .ref a ∧ H1 a = some (.ins C dx fs) ∧ fs.lookup mt = none ∧ UN X es σ H1 fun vs H2 => spP X.K kr n F (x :: (vs ++ [])) H2 Q E0 := by
  unfold fMeth at q
  refine ho R σ H ρ Ls _ W s tk ?_
  cases e1 : fo ρ with
  | bad => rw [e1] at q; exact q
  | err x => rw [e1] at q; exact q
  | ok d =>
    rw [e1, ok_bind] at q
    intro v H1 g1 r1
    by_cases hc : isC C mt d = true
    · rw [if_pos hc] at q
      obtain ⟨a, dx, ff, rfl, h1, h2⟩ := isC_of hc r1
      refine ⟨a, dx, ff, rfl, h1, h2, hA R σ H1 ρ Ls _ W (s.grow g1) tk ?_⟩
      cases e2 : fs ρ with
      | bad => rw [e2] at q; exact q
      | err x => rw [e2] at q; exact fun cls dd H' g z => q cls dd H' (g1.trans g) z
      | ok ds =>
        rw [e2, ok_bind] at q
        intro vs H2 g2 r2
        rw [List.append_nil]
        refine ⟨Sh R Ls, d :: ds, by rw [List.length_cons, r2.len, hn], .cons (r1.grow g2 fun _ z _ => z) (r2.rqs hz), fun p hp => s.fresh ((g1.trans g2).dom hp), ?_⟩
        cases e3 : F (d :: ds) with
        | bad => rw [e3] at q; exact q
        | err x => rw [e3] at q; exact q.elim
        | ok d' =>
          rw [e3] at q
          intro v H' Lt g o nd n
          refine q v H' Lt ((g1.trans g2).trans g) (o.grow (Grow.refl H') fun a z _ => ⟨fun w => ?_, z.1.2⟩) nd fun a ha => (g1.trans g2).dom (n a ha)
          rcases w with w | w
          · exact z.1.1 w
          · exact z.2 w
    · rw [if_neg hc] at q; exact q.elim
theorem sf_meth {fo : Rho → Rs D} {fs : Rho → Rs (List D)} {js : List Nat} {pl : Sem Bool} (hc : Cls X.K C) (hM : Meth X.K C mt f) (G : FnOk X.prog X.w X.K X.mg X.base (L2.CX X.prog X.w) k f fd ps (spP X.K kr n F)) (hr : Room k X.A) (hb : Binds X.K fd ps [])
    (ho : SP X m 0 o fo) (hs : NoStar X (e :: es)) (hA : SPs X m js (e :: es) fs) (hz : AllZ js) (hn : js.length + 1 = n := by rfl) (hpl : (backTo pos (starEach es X.env)).any (·.1) = false := by rfl)
    (ht : eval (.Call (.Attribute o mt apos) (e :: es) [] pos) X.env = (do
      let ov ← eval o X.env
      standAt apos.atName
      let (f, first) ← holding [ov] (getMethod ov mt pl)
      callWith pos f first (backTo pos (starEach (e :: es) X.env)) (backToKw pos (keywordEach [] X.env))) := by rfl) : SF X m kr (.Call (.Attribute o mt apos) (e :: es) [] pos) (fMeth C mt fo fs F) := by
  intro R σ H ρ Ls Q W s tk q
  exact UE.of (pe_meth peU hc hM G hr hb .nil passL (paN hs) hs.1 hpl ht) (meth_core s tk ho hA hz hn q)
theorem sf_meth0 {fo : Rho → Rs D} {pl : Sem Bool} (hc : Cls X.K C) (hM : Meth X.K C mt f) (G : FnOk X.prog X.w X.K X.mg X.base (L2.CX X.prog X.w) k f fd ps (spP X.K kr n F)) (hr : Room k X.A) (hb : Binds X.K fd ps [])
    (ho : SP X m 0 o fo) (hn : 1 = n := by rfl)
    (ht : eval (.Call (.Attribute o mt apos) [] [] pos) X.env = (do
      let ov ← eval o X.env
      standAt apos.atName
      let (f, first) ← holding [ov] (getMethod ov mt pl)
      callWith pos f first (backTo pos (starEach [] X.env)) (backToKw pos (keywordEach [] X.env))) := by rfl) : SF X m kr (.Call (.Attribute o mt apos) [] [] pos) (fMeth C mt fo (fun _ => .ok []) F) := by
  intro R σ H ρ Ls Q W s tk q
  exact UE.of (pe_meth0 peU hc hM G hr hb .nil passL ht) (meth_core (es := []) s tk ho sps_nil (fun j hj => nomatch hj) hn q)
end
end VL

set_option Elab.async false
set_option linter.all false
set_option maxRecDepth 100000
set_option maxHeartbeats 1000000
namespace VL
open PySem PySem.Spec PyProof.Rows L2
/-! ### operands that change the slots' data -/
def PostL (K : PySem.W.Frag) (R : Addr → Prop) (H : Hp) (σ : Sg) (m : List Nat) (Ls : Nat → List Addr) (n : Nat) (Q : List V → Hp → Prop) (W : WX) : Ri (List D) → Prop
  | .ok ds ρ' => ds.length = n → ∀ vs H' Ls', SR K R H' σ ρ' m Ls' → Step Ls Ls' [] H H' → Rqs K (Sh R Ls') H' 0 ds vs → Q vs H'
  | .err x ρ' => ∀ cls dd H' Ls', SR K R H' σ ρ' m Ls' → Step Ls Ls' [] H H' → ExIs K x cls dd H' → W cls dd σ H'
  | .bad => False
def SIs (X : Cx) (m : List Nat) (es : List Expr) (f : Rho → Ri (List D)) : Prop :=
  ∀ (R : Addr → Prop) (σ : Sg) (H : Hp) (ρ : Rho) (Ls : Nat → List Addr) (Q : List V → Hp → Prop) (W : WX), SR X.K R H σ ρ m Ls → Takes X W → PostL X.K R H σ m Ls es.length Q W (f ρ) → UN X es σ H Q
section
variable {X : Cx} {m : List Nat} {a b c e o : Expr} {es rest : List Expr} {pos p apos : Pos}
theorem PostI.zero {K : PySem.W.Frag} {R : Addr → Prop} {H : Hp} {σ : Sg} {Ls : Nat → List Addr} {Q : VK} {W : WX} {r : Ri D}
    (h : match r with
      | .ok d ρ' => ∀ v H' Ls', SR K R H' σ ρ' m Ls' → Step Ls Ls' [] H H' → Rq K (Sh R Ls') H' 0 d v → Q v H'
      | .err x ρ' => ∀ cls dd H' Ls', SR K R H' σ ρ' m Ls' → Step Ls Ls' [] H H' → ExIs K x cls dd H' → W cls dd σ H'
      | .bad => False) : PostI K R H σ m Ls 0 Q W r := by
  cases r with
  | ok d ρ' =>
    intro v H' Ls' Lt s o nd n t
    obtain ⟨rfl, r⟩ := o.of_zero
    rw [ru_nil] at s r
    exact h v H' Ls' s t r
  | err x ρ' => exact h
  | bad => exact h
theorem sis_nil : SIs X m [] (fun ρ => .ok [] ρ) := fun R σ H ρ Ls Q W s tk h => h rfl [] H Ls s (Step.refl H) .nil
def iCons (f : Rho → Ri D) (fs : Rho → Ri (List D)) : Rho → Ri (List D) := fun ρ => match f ρ with
  | .ok d ρ1 => match fs ρ1 with
    | .ok ds ρ2 => .ok (d :: ds) ρ2
    | .err x ρ2 => .err x ρ2
    | .bad => .bad
  | .err x ρ1 => .err x ρ1
  | .bad => .bad
theorem sis_cons {f : Rho → Ri D} {fs : Rho → Ri (List D)} (h1 : SI X m 0 e f) (h2 : SIs X m es fs) : SIs X m (e :: es) (iCons f fs) := by
  intro R σ H ρ Ls Q W s tk h
  unfold iCons at h
  refine h1 R σ H ρ Ls _ W s tk (PostI.zero ?_)
  cases e1 : f ρ with
  | bad => rw [e1] at h; exact h
  | err x ρ1 => rw [e1] at h; exact h
  | ok d ρ1 =>
    rw [e1] at h
    dsimp only at h
    intro v H1 Ls1 s1 t1 r1
    refine h2 R σ H1 ρ1 Ls1 _ W s1 tk ?_
    cases e2 : fs ρ1 with
    | bad => rw [e2] at h; exact h
    | err x ρ2 => rw [e2] at h; exact fun cls dd H2 Ls2 s2 t2 z => h cls dd H2 Ls2 s2 (t1.trans t2) z
    | ok ds ρ2 =>
      rw [e2] at h
      intro hl vs H2 Ls2 s2 t2 r2
      exact h (by simp [hl]) (v :: vs) H2 Ls2 s2 (t1.trans t2) (.cons (s1.rq0 t2 r1) r2)
theorem Rqs.rqL {K : PySem.W.Frag} {S : Addr → Prop} {H : Hp} : ∀ {js : List Nat} {ds : List D} {vs : List V}, ds.length = js.length → Rqs K S H 0 ds vs → RqL K S H js ds vs
  | [], [], _, _, h => ⟨rfl, h.inv0⟩
  | j :: js, d :: ds, _, hl, h => by
    obtain ⟨v, r, rfl, h1, h2⟩ := h.inv
    exact ⟨d, ds, v, r, rfl, rfl, h1.up _ (Nat.zero_le _), Rqs.rqL (by simpa using hl) h2⟩
def iOp (fs : Rho → Ri (List D)) (g : List D → Option D) : Rho → Ri D := fun ρ => match fs ρ with
  | .ok ds ρ1 => match g ds with
    | some d => .ok d ρ1
    | none => .bad
  | .err x ρ1 => .err x ρ1
  | .bad => .bad
theorem si_op {js : List Nat} {r : List V → Hp → VK → Prop} {fs : Rho → Ri (List D)} {g : List D → Option D} (hE : EvN X e es r) (hA : SIs X m es fs) (hO : Op X.K js 0 r g) (hj : es.length = js.length := by rfl) : SI X m 0 e (iOp fs g) := by
  intro R σ H ρ Ls Q W s tk h
  unfold iOp at h
  refine hE σ H Q (hA R σ H ρ Ls _ W s tk ?_)
  cases e1 : fs ρ with
  | bad => rw [e1] at h; exact h
  | err x ρ1 => rw [e1] at h; exact h
  | ok ds ρ1 =>
    rw [e1] at h
    dsimp only at h
    intro hl vs H1 Ls1 s1 t1 r1
    cases e2 : g ds with
    | none => rw [e2] at h; exact h.elim
    | some z =>
      rw [e2] at h
      refine hO _ H1 ds vs z Q (fun p hp => s1.fresh hp) (r1.rqL (hl.trans hj)) e2 fun w H2 g2 q => ?_
      exact h w H2 Ls1 [] (by rw [ru_nil]; exact s1.grow g2) (by rw [ru_nil]; exact .zero q) List.nodup_nil (fun a ha => nomatch ha) (t1.trans (Step.grow g2))
def iOpL (fs : Rho → Ri (List D)) (g : List D → Option (List D)) : Rho → Ri D := iOp fs fun ds => (g ds).map .lst
theorem si_opL {js : List Nat} {r : List V → Hp → VK → Prop} {fs : Rho → Ri (List D)} {g : List D → Option (List D)} (hE : EvN X e es r) (hA : SIs X m es fs) (hO : OpL X.K js r g) (hj : es.length = js.length := by rfl) : SI X m 1 e (iOpL fs g) := by
  intro R σ H ρ Ls Q W s tk h
  unfold iOpL iOp at h
  refine hE σ H Q (hA R σ H ρ Ls _ W s tk ?_)
  cases e1 : fs ρ with
  | bad => rw [e1] at h; exact h
  | err x ρ1 => rw [e1] at h; exact h
  | ok ds ρ1 =>
    rw [e1] at h
    dsimp only at h
    intro hl vs H1 Ls1 s1 t1 r1
    cases e2 : g ds with
    | none => rw [e2] at h; exact h.elim
    | some zs =>
      rw [e2] at h
      refine hO _ H1 ds vs zs Q (fun p hp => s1.fresh hp) (r1.rqL (hl.trans hj)) e2 fun p us H2 g2 hp0 hp q => ?_
      refine h (.ref p) H2 Ls1 [p] (s1.aside g2 (fun a ha => by simp at ha; rw [ha]; exact hp0) fun a ha => by simp at ha; rw [ha, hp]; simp) ?_ (by simp) (fun a ha r => by simp at ha; subst ha; exact s1.dom a r hp0) (t1.trans ⟨fun a o e _ => g2 a o e, fun a nz z => nz (g2.dom z), fun a h => h.elim .inl fun z => by simp at z; exact .inr (by rw [z]; exact hp0)⟩)
      unfold Ow
      refine ⟨p, us, [], rfl, hp, rfl, OwsW.zeros (q.grow g2 fun a z nz => ⟨fun w => ?_, z.2⟩)⟩
      rcases w with w | w
      · exact z.1 w
      · simp at w; subst w; exact nz hp0
def iOpB (fs : Rho → Ri (List D)) (g : List D → Option Bool) : Rho → Ri Bool := fun ρ => match fs ρ with
  | .ok ds ρ1 => match g ds with
    | some d => .ok d ρ1
    | none => .bad
  | .err x ρ1 => .err x ρ1
  | .bad => .bad
theorem sib_op {js : List Nat} {r : List V → Hp → VK → Prop} {fs : Rho → Ri (List D)} {g : List D → Option Bool} (hE : EvT X e es r) (hA : SIs X m es fs) (hO : Op X.K js 0 r (oB g)) (hj : es.length = js.length := by rfl) : SIB X m e (iOpB fs g) := by
  intro R σ H ρ Ls Q W s tk h
  unfold iOpB at h
  refine hE σ H Q (hA R σ H ρ Ls _ W s tk ?_)
  cases e1 : fs ρ with
  | bad => rw [e1] at h; exact h
  | err x ρ1 => rw [e1] at h; exact h
  | ok ds ρ1 =>
    rw [e1] at h
    dsimp only at h
    intro hl vs H1 Ls1 s1 t1 r1
    cases e2 : g ds with
    | none => rw [e2] at h; exact h.elim
    | some z =>
      rw [e2] at h
      refine hO _ H1 ds vs (.bl z) _ (fun p hp => s1.fresh hp) (r1.rqL (hl.trans hj)) (by unfold oB; rw [e2]; rfl) fun w H2 g2 q => ?_
      exact ⟨z, q.bl, h H2 Ls1 (s1.grow g2) (t1.trans (Step.grow g2))⟩
/-- a test by its value -/
def iB (f : Rho → Ri D) : Rho → Ri Bool := fun ρ => match f ρ with
  | .ok (.bl k) ρ1 => .ok k ρ1
  | .ok _ _ => .bad
  | .err x ρ1 => .err x ρ1
  | .bad => .bad
theorem sib_val {f : Rho → Ri D} (h : SI X m 0 e f) (he : ∀ whole, isTrue e X.env whole = (do let v ← whole; standAt e.pos; holding [v] (truthy v)) := by intro _; rfl) : SIB X m e (iB f) := by
  intro R σ H ρ Ls Q W s tk q
  unfold iB at q
  refine UT.of (pt_val peU he) (h R σ H ρ Ls _ W s tk (PostI.zero ?_))
  cases e1 : f ρ with
  | bad => rw [e1] at q; exact q
  | err x ρ1 => rw [e1] at q; exact q
  | ok d ρ1 =>
    rw [e1] at q
    cases d with
    | bl k => exact fun v H' Ls' s' t r => ⟨k, r.bl, q H' Ls' s' t⟩
    | _ => exact q.elim
def SIW (X : Cx) (m : List Nat) (e : Expr) (f : Rho → Ri Bool) : Prop :=
  ∀ (R : Addr → Prop) (σ : Sg) (H : Hp) (ρ : Rho) (Ls : Nat → List Addr) (Q : Bool → Hp → Prop) (W : WX), SR X.K R H σ ρ m Ls → Takes X W → PostB X.K R H σ m Ls Q W (f ρ) → UW X e σ H Q
theorem sib_siw {f : Rho → Ri Bool} (h : SIW X m e f) : SIB X m e f := fun R σ H ρ Ls Q W s tk q => (h R σ H ρ Ls Q W s tk q).ut
def iAnd (f g : Rho → Ri Bool) : Rho → Ri Bool := fun ρ => match f ρ with
  | .ok k ρ1 => if k then g ρ1 else .ok false ρ1
  | .err x ρ1 => .err x ρ1
  | .bad => .bad
def iOr (f g : Rho → Ri Bool) : Rho → Ri Bool := fun ρ => match f ρ with
  | .ok k ρ1 => if k then .ok true ρ1 else g ρ1
  | .err x ρ1 => .err x ρ1
  | .bad => .bad
def iNot (f : Rho → Ri Bool) : Rho → Ri Bool := fun ρ => match f ρ with
  | .ok k ρ1 => .ok (!k) ρ1
  | .err x ρ1 => .err x ρ1
  | .bad => .bad
theorem PostB.after {K : PySem.W.Frag} {R : Addr → Prop} {H H1 : Hp} {σ : Sg} {Ls Ls1 : Nat → List Addr} {Q : Bool → Hp → Prop} {W : WX} {r : Ri Bool} (t : Step Ls Ls1 [] H H1) (h : PostB K R H σ m Ls Q W r) : PostB K R H1 σ m Ls1 Q W r := by
  cases r with
  | ok b ρ => exact fun H' Ls' s t' => h H' Ls' s (t.trans t')
  | err x ρ => exact fun cls dd H' Ls' s t' z => h cls dd H' Ls' s (t.trans t') z
  | bad => exact h
theorem PostI.after {K : PySem.W.Frag} {R : Addr → Prop} {H H1 : Hp} {σ : Sg} {Ls Ls1 : Nat → List Addr} {k : Nat} {Q : VK} {W : WX} {r : Ri D} (t : Step Ls Ls1 [] H H1) (h : PostI K R H σ m Ls k Q W r) : PostI K R H1 σ m Ls1 k Q W r := by
  cases r with
  | ok d ρ => exact fun v H' Ls' Lt s o nd n t' => h v H' Ls' Lt s o nd n (t.trans t')
  | err x ρ => exact fun cls dd H' Ls' s t' z => h cls dd H' Ls' s (t.trans t') z
  | bad => exact h
theorem siw_and1 {f : Rho → Ri Bool} (h : SIB X m a f) : SIW X m (.BoolOp .And [a] pos) f := fun R σ H ρ Ls Q W s tk q => UW.of (pw_and1 ptU) (h R σ H ρ Ls Q W s tk q)
theorem siw_or1 {f : Rho → Ri Bool} (h : SIB X m a f) : SIW X m (.BoolOp .Or [a] pos) f := fun R σ H ρ Ls Q W s tk q => UW.of (pw_or1 ptU) (h R σ H ρ Ls Q W s tk q)
theorem siw_and {f g : Rho → Ri Bool} (h : SIB X m a f) (h' : SIW X m (.BoolOp .And (b :: rest) pos) g) : SIW X m (.BoolOp .And (a :: b :: rest) pos) (iAnd f g) := by
  intro R σ H ρ Ls Q W s tk q
  unfold iAnd at q
  refine UW.of (pw_and ptU pwU) (h R σ H ρ Ls _ W s tk ?_)
  cases e1 : f ρ with
  | bad => rw [e1] at q; exact q
  | err x ρ1 => rw [e1] at q; exact q
  | ok k ρ1 =>
    rw [e1] at q
    intro H1 Ls1 s1 t1
    cases k with
    | true => exact h' R σ H1 ρ1 Ls1 Q W s1 tk (PostB.after t1 q)
    | false => exact q H1 Ls1 s1 t1
theorem siw_or {f g : Rho → Ri Bool} (h : SIB X m a f) (h' : SIW X m (.BoolOp .Or (b :: rest) pos) g) : SIW X m (.BoolOp .Or (a :: b :: rest) pos) (iOr f g) := by
  intro R σ H ρ Ls Q W s tk q
  unfold iOr at q
  refine UW.of (pw_or ptU pwU) (h R σ H ρ Ls _ W s tk ?_)
  cases e1 : f ρ with
  | bad => rw [e1] at q; exact q
  | err x ρ1 => rw [e1] at q; exact q
  | ok k ρ1 =>
    rw [e1] at q
    intro H1 Ls1 s1 t1
    cases k with
    | false => exact h' R σ H1 ρ1 Ls1 Q W s1 tk (PostB.after t1 q)
    | true => exact q H1 Ls1 s1 t1
theorem sib_not {f : Rho → Ri Bool} (h : SIB X m a f) : SIB X m (.UnaryOp .Not a pos) (iNot f) := by
  intro R σ H ρ Ls Q W s tk q
  unfold iNot at q
  refine UT.of (pt_not ptU) (h R σ H ρ Ls _ W s tk ?_)
  cases e1 : f ρ with
  | bad => rw [e1] at q; exact q
  | err x ρ1 => rw [e1] at q; exact q
  | ok k ρ1 => rw [e1] at q; exact fun H1 Ls1 s1 t1 => q H1 Ls1 s1 t1
def iIf (t : Rho → Ri Bool) (f g : Rho → Ri D) : Rho → Ri D := fun ρ => match t ρ with
  | .ok k ρ1 => if k then f ρ1 else g ρ1
  | .err x ρ1 => .err x ρ1
  | .bad => .bad
theorem si_if {k : Nat} {t : Rho → Ri Bool} {f g : Rho → Ri D} (ht : SIB X m c t) (h : SI X m k a f) (h' : SI X m k b g) : SI X m k (.IfExp c a b pos) (iIf t f g) := by
  intro R σ H ρ Ls Q W s tk q
  unfold iIf at q
  refine UE.of (pe_ifExp ptU peU peU) (ht R σ H ρ Ls _ W s tk ?_)
  cases e1 : t ρ with
  | bad => rw [e1] at q; exact q
  | err x ρ1 => rw [e1] at q; exact q
  | ok b ρ1 =>
    rw [e1] at q
    intro H1 Ls1 s1 t1
    cases b with
    | true => exact h R σ H1 ρ1 Ls1 Q W s1 tk (PostI.after t1 q)
    | false => exact h' R σ H1 ρ1 Ls1 Q W s1 tk (PostI.after t1 q)
/-- a def that changes nothing, its arguments do -/
def iCall (fs : Rho → Ri (List D)) (F : List D → Rs D) : Rho → Ri D := fun ρ => match fs ρ with
  | .ok ds ρ1 => match F ds with
    | .ok d => .ok d ρ1
    | .err x => .err x ρ1
    | .bad => .bad
  | .err x ρ1 => .err x ρ1
  | .bad => .bad
theorem promise_of {kr n : Nat} {F : List D → Rs D} {R : Addr → Prop} {σ : Sg} {H H1 : Hp} {ρ : Rho} {Ls Ls1 : Nat → List Addr} {Q : VK} {W : WX} {vs : List V} {ds : List D} (s : SR X.K R H1 σ ρ m Ls1) (t : Step Ls Ls1 [] H H1) (hl : ds.length = n) (r : Rqs X.K (Sh R Ls1) H1 0 ds vs)
    (q : PostI X.K R H σ m Ls kr Q W (match F ds with
      | .ok d => .ok d ρ
      | .err x => .err x ρ
      | .bad => .bad)) : spP X.K kr n F vs H1 Q (fun cls d H => W cls d σ H) := by
  refine ⟨Sh R Ls1, ds, hl, r, fun p hp => s.fresh hp, ?_⟩
  cases e1 : F ds with
  | bad => rw [e1] at q; exact q
  | err x => rw [e1] at q; exact fun cls dd H' g z => q cls dd H' Ls1 (s.grow g) (t.trans (Step.grow g)) z
  | ok d =>
    rw [e1] at q
    intro v H' Lt g o nd n
    refine q v H' Ls1 Lt (s.aside g n fun a ha => ?_) (o.grow (Grow.refl H') fun a z _ => ⟨fun w => ?_, z.1.2⟩) nd (fun a ha r => s.dom a r (n a ha)) (t.trans ⟨fun a o e _ => g a o e, fun a nz z => nz (g.dom z), fun a h => h.elim .inl fun z => .inr (n a z)⟩)
    · obtain ⟨u, e, _⟩ := o.mem a ha
      rw [e]; simp
    · rcases w with w | w
      · exact z.1.1 w
      · exact z.2 w
variable {x mt : Str} {f C : Addr} {fd : FuncData} {ps : List Str} {k kr n : Nat} {F : List D → Rs D}
theorem si_call {fs : Rho → Ri (List D)} (G : FnOk X.prog X.w X.K X.mg X.base (L2.CX X.prog X.w) k f fd ps (spP X.K kr n F)) (hr : Room k X.A) (hg : Gl X x) (hm : X.mg x = some (.ref f)) (hk : PySem.W.keepIn X.K (.ref f) = true) (hb : Binds X.K fd ps [])
    (hs : NoStar X (e :: es)) (hA : SIs X m (e :: es) fs) (hn : (e :: es).length = n := by rfl) (hdb : (x == ("__debug__" : Str)) = false := by decide +kernel) (hpl : (backTo pos (starEach es X.env)).any (·.1) = false := by rfl) :
    SI X m kr (.Call (.Name x p) (e :: es) [] pos) (iCall fs F) := by
  intro R σ H ρ Ls Q W s tk q
  unfold iCall at q
  refine UE.of (pe_callS (E := WE W) G hr hg hm hk hb (fun σ => passAt tk σ) (paN hs) hdb hs.1 hpl) (hA R σ H ρ Ls _ W s tk ?_)
  cases e1 : fs ρ with
  | bad => rw [e1] at q; exact q
  | err x ρ1 => rw [e1] at q; exact q
  | ok ds ρ1 =>
    rw [e1] at q
    exact fun hl vs H1 Ls1 s1 t1 r1 => promise_of s1 t1 (hl.trans hn) r1 q

/-! ### a def that changes a slot's data -/
def ArgsOK (K : PySem.W.Frag) (S : Addr → Prop) (H : Hp) (σ : Sg) (i0 j : Nat) (ds : List D) (vs : List V) : Prop :=
  ds.length = vs.length ∧ (∃ v, σ[i0]? = some (some v) ∧ vs[j]? = some v) ∧ ∀ i d v, i ≠ j → ds[i]? = some d → vs[i]? = some v → Rq K S H 0 d v
def PostA (K : PySem.W.Frag) (R : Addr → Prop) (H : Hp) (σ : Sg) (m : List Nat) (Ls : Nat → List Addr) (i0 j n : Nat) (Q : List V → Hp → Prop) (W : WX) : Ri (List D) → Prop
  | .ok ds ρ' => ds.length = n → ∀ vs H' Ls', SR K R H' σ ρ' m Ls' → Step Ls Ls' [] H H' → ArgsOK K (Sh R Ls') H' σ i0 j ds vs → Q vs H'
  | .err x ρ' => ∀ cls dd H' Ls', SR K R H' σ ρ' m Ls' → Step Ls Ls' [] H H' → ExIs K x cls dd H' → W cls dd σ H'
  | .bad => False
def SAs (X : Cx) (m : List Nat) (i0 j : Nat) (es : List Expr) (f : Rho → Ri (List D)) : Prop :=
  ∀ (R : Addr → Prop) (σ : Sg) (H : Hp) (ρ : Rho) (Ls : Nat → List Addr) (Q : List V → Hp → Prop) (W : WX), SR X.K R H σ ρ m Ls → Takes X W → PostA X.K R H σ m Ls i0 j es.length Q W (f ρ) → UN X es σ H Q
def iHere (i : Nat) (fs : Rho → Ri (List D)) : Rho → Ri (List D) := fun ρ => match ρ[i]? with
  | some (some _) => match fs ρ with
    | .ok ds ρ1 => .ok (.non :: ds) ρ1
    | .err x ρ1 => .err x ρ1
    | .bad => .bad
  | _ => .bad
theorem sas_here (i : Nat) {fs : Rho → Ri (List D)} (h : SIs X m es fs) (hN : X.N[i]? = some x := by rfl) (hv : Vis X.env.scope x := by first | exact Or.inl rfl | exact Or.inr (Or.inl rfl) | exact Or.inr (Or.inr rfl))
    (hd : (x == ("__debug__" : Str)) = false := by decide +kernel) (hcd : (x == ("__classdict__" : Str)) = false := by decide +kernel) : SAs X m i 0 (.Name x p :: es) (iHere i fs) := by
  intro R σ H ρ Ls Q W s tk q
  unfold iHere at q
  cases e : ρ[i]? with
  | none => rw [e] at q; exact q.elim
  | some o =>
    cases o with
    | none => rw [e] at q; exact q.elim
    | some d =>
      rw [e] at q
      dsimp only at q
      obtain ⟨v, h1, h2⟩ := s.val i d e
      refine UE.of (pe_var hN hv hd hcd) ⟨v, h1, h R σ H ρ Ls _ W s tk ?_⟩
      cases e1 : fs ρ with
      | bad => rw [e1] at q; exact q
      | err x ρ1 => rw [e1] at q; exact q
      | ok ds ρ1 =>
        rw [e1] at q
        intro hl vs H' Ls' s' t r
        refine q (by simp [hl]) (v :: vs) H' Ls' s' t ⟨by simp [r.length], ⟨v, h1, rfl⟩, fun n d' v' hn e2 e3 => ?_⟩
        cases n with
        | zero => exact absurd rfl hn
        | succ n =>
          obtain ⟨u, e4, r4⟩ := r.get (by simpa using e2)
          have e3' : vs[n]? = some v' := by simpa using e3
          rw [e3'] at e4; cases e4; exact r4
theorem sas_next {i j : Nat} {f1 : Rho → Ri D} {fs : Rho → Ri (List D)} (h1 : SI X m 0 e f1) (h2 : SAs X m i j es fs) : SAs X m i (j + 1) (e :: es) (iCons f1 fs) := by
  intro R σ H ρ Ls Q W s tk h
  unfold iCons at h
  refine h1 R σ H ρ Ls _ W s tk (PostI.zero ?_)
  cases e1 : f1 ρ with
  | bad => rw [e1] at h; exact h
  | err x ρ1 => rw [e1] at h; exact h
  | ok d ρ1 =>
    rw [e1] at h
    dsimp only at h
    intro v H1 Ls1 s1 t1 r1
    refine h2 R σ H1 ρ1 Ls1 _ W s1 tk ?_
    cases e2 : fs ρ1 with
    | bad => rw [e2] at h; exact h
    | err x ρ2 => rw [e2] at h; exact fun cls dd H2 Ls2 s2 t2 z => h cls dd H2 Ls2 s2 (t1.trans t2) z
    | ok ds ρ2 =>
      rw [e2] at h
      intro hl vs H2 Ls2 s2 t2 ⟨a1, ⟨w, a2, a3⟩, a4⟩
      refine h (by simp [hl]) (v :: vs) H2 Ls2 s2 (t1.trans t2) ⟨by simp [a1], ⟨w, a2, by simpa using a3⟩, fun n d' v' hn e3 e4 => ?_⟩
      cases n with
      | zero =>
        simp at e3 e4
        subst e3; subst e4
        exact s1.rq0 t2 r1
      | succ n => exact a4 n d' v' (fun q => hn (by rw [q])) (by simpa using e3) (by simpa using e4)
def iCallIO (i0 j : Nat) (fs : Rho → Ri (List D)) (F : List D → Ro) : Rho → Ri D := fun ρ => match fs ρ with
  | .ok ds ρ1 => match ρ1[i0]? with
    | some (some d0) => match F (ds.set j d0) with
      | .ok d d1 => .ok d (ρ1.set i0 (some d1))
      | _ => .bad
    | _ => .bad
  | .err x ρ1 => .err x ρ1
  | .bad => .bad
theorem promise_io {kj i0 j : Nat} {F : List D → Ro} {R : Addr → Prop} {σ : Sg} {H H1 : Hp} {ρ : Rho} {Ls Ls1 : Nat → List Addr} {Q : VK} {W : WX} {vs : List V} {ds : List D} {d0 : D} (s : SR X.K R H1 σ ρ m Ls1) (t : Step Ls Ls1 [] H H1) (hl : ds.length = n) (hj : j < n)
    (a : ArgsOK X.K (Sh R Ls1) H1 σ i0 j ds vs) (h0 : ρ[i0]? = some (some d0)) (hmk : m.getD i0 0 = kj) (hk0 : 0 < kj)
    (q : PostI X.K R H σ m Ls kr Q W (match F (ds.set j d0) with
      | .ok d d1 => .ok d (ρ.set i0 (some d1))
      | _ => .bad)) : spI X.K kr n j kj F vs H1 Q (fun cls d H => W cls d σ H) := by
  obtain ⟨a1, ⟨v0, a2, a3⟩, a4⟩ := a
  obtain ⟨v0', e1, o1⟩ := s.val i0 d0 h0
  rw [a2] at e1; cases e1
  rw [hmk] at o1
  have hjd : j < ds.length := by omega
  have sub : ∀ a, Sh R Ls1 a → H1 a ≠ none → Sh (fun a => R a ∨ ∃ i, i ≠ i0 ∧ a ∈ Ls1 i) (only j (Ls1 i0)) a := fun a z _ => ⟨fun w => by
    rcases w with w | ⟨i, _, w⟩
    · exact z.1 w
    · exact z.2 i w, fun i hi => by
    by_cases e : i = j
    · rw [e, only_same] at hi; exact z.2 i0 hi
    · rw [only_ne e] at hi; cases hi⟩
  have eLj : only j (Ls1 i0) j = Ls1 i0 := only_same
  have eLn : ∀ i, i ≠ j → only j (Ls1 i0) i = [] := fun i hi => only_ne hi
  have mj : ((List.replicate n 0).set j kj).getD j 0 = kj := getD_set_self (by simpa using hj)
  have mn : ∀ i, i ≠ j → ((List.replicate n 0).set j kj).getD i 0 = 0 := fun i hi => by rw [getD_set_ne (Ne.symm hi), rep_getD]
  refine ⟨fun a => R a ∨ ∃ i, i ≠ i0 ∧ a ∈ Ls1 i, Ls1 i0, ds.set j d0, by simp [hl], ⟨by simp [a1], by simp [hl], fun i d e => ?_, fun i h => ?_, fun i => ?_, fun i i' a h1 h2 => ?_, fun i a h w => ?_, fun a w => ?_⟩, ?_⟩
  · rw [List.getElem?_map, Option.map_eq_some_iff] at e
    obtain ⟨d', e2, e3⟩ := e
    cases e3
    by_cases hi : i = j
    · subst hi
      rw [List.getElem?_set_self hjd] at e2
      cases e2
      exact ⟨v0, by rw [List.getElem?_map, a3]; rfl, by rw [mj, eLj]; exact o1.grow (Grow.refl H1) sub⟩
    · rw [List.getElem?_set_ne (Ne.symm hi)] at e2
      have hiv : i < vs.length := by rw [← a1]; exact (List.getElem?_eq_some_iff.mp e2).1
      refine ⟨vs[i], by rw [List.getElem?_map, List.getElem?_eq_getElem hiv]; rfl, ?_⟩
      rw [mn i hi, eLn i hi]
      exact .zero ((a4 i _ _ hi e2 (List.getElem?_eq_getElem hiv)).grow (Grow.refl H1) sub)
  · by_cases hi : i = j
    · subst hi
      exact absurd (show ((ds.set i d0).map some)[i]? = some (some d0) by rw [List.getElem?_map, List.getElem?_set_self hjd]; rfl) (h d0)
    · exact eLn i hi
  · by_cases hi : i = j
    · subst hi; rw [eLj]; exact s.nd i0
    · rw [eLn i hi]; exact List.nodup_nil
  · by_cases hi : i = j
    · by_cases hi' : i' = j
      · rw [hi, hi']
      · rw [eLn i' hi'] at h2; cases h2
    · rw [eLn i hi] at h1; cases h1
  · by_cases hi : i = j
    · subst hi
      rw [eLj] at h
      rcases w with w | ⟨i', n', w⟩
      · exact s.sep i0 a h w
      · exact n' (s.dj i' i0 a w h)
    · rw [eLn i hi] at h; cases h
  · rcases w with w | ⟨i', n', w⟩
    · exact s.dom a w
    · obtain ⟨o, e, _⟩ := s.mem w
      rw [e]; simp
  · cases e2 : F (ds.set j d0) with
    | bad => rw [e2] at q; exact q.elim
    | err x => rw [e2] at q; exact q.elim
    | ok d d1 =>
      rw [e2] at q
      intro v H' L' Lt v0' e3 kp dm nw o0 or nd' ndt dl dt
      rw [a3] at e3; cases e3
      have hi0 : i0 < ρ.length := (List.getElem?_eq_some_iff.mp h0).1
      have Lnew : ∀ a, a ∈ L' → a ∈ Ls1 i0 ∨ H1 a = none := fun a ha => nw a (.inl ha)
      have Ltnew : ∀ a, a ∈ Lt → a ∈ Ls1 i0 ∨ H1 a = none := fun a ha => nw a (.inr ha)
      have other : ∀ i, i ≠ i0 → ∀ a ∈ Ls1 i, a ∉ L' ∧ a ∉ Lt := fun i hi a ha => by
        obtain ⟨u, eu, _⟩ := s.mem ha
        refine ⟨fun z => ?_, fun z => ?_⟩
        · rcases Lnew a z with y | y
          · exact hi (s.dj i i0 a ha y)
          · rw [eu] at y; cases y
        · rcases Ltnew a z with y | y
          · exact hi (s.dj i i0 a ha y)
          · rw [eu] at y; cases y
      have S2 : ∀ a, (¬ (R a ∨ ∃ i, i ≠ i0 ∧ a ∈ Ls1 i) ∧ a ∉ Lt ∧ a ∉ L') → H' a ≠ none → Sh (RU R Lt) (put Ls1 i0 L') a := fun a z _ => ⟨fun w => by
        rcases w with w | w
        · exact z.1 (.inl w)
        · exact z.2.1 w, fun i hi => by
        by_cases e : i = i0
        · subst e; rw [put_same] at hi; exact z.2.2 hi
        · rw [put_ne e] at hi; exact z.1 (.inr ⟨i, e, hi⟩)⟩
      have st : Step Ls1 (put Ls1 i0 L') Lt H1 H' := ⟨fun a o e n => kp a o e (n i0), dm, fun a h => by
        rcases h with ⟨i, hi⟩ | h
        · by_cases e : i = i0
          · subst e; rw [put_same] at hi; exact (Lnew a hi).imp (fun y => ⟨i, y⟩) id
          · rw [put_ne e] at hi; exact .inl ⟨i, hi⟩
        · exact (Ltnew a h).imp (fun y => ⟨i0, y⟩) id⟩
      refine q v H' (put Ls1 i0 L') Lt ⟨by simp [s.len], by simp [s.mlen], fun i d' e => ?_, fun i h => ?_, fun i => ?_, fun i i' a h1 h2 => ?_, fun i a h w => ?_, fun a w => ?_⟩ (or.grow (Grow.refl H') S2) ndt (fun a ha r => dt a ha (.inl r)) (t.trans st)
      · by_cases hi : i0 = i
        · subst hi
          rw [List.getElem?_set_self hi0] at e
          cases e
          rw [put_same, hmk]
          exact ⟨v0, a2, o0.grow (Grow.refl H') S2⟩
        · rw [List.getElem?_set_ne hi] at e
          obtain ⟨u, e5, o5⟩ := s.val i d' e
          rw [put_ne (Ne.symm hi)]
          refine ⟨u, e5, Ow.stay (fun a z nz => ?_) (fun a o ea z => kp a o ea fun ha => ?_) o5⟩
          · refine ⟨fun w => ?_, fun i' hi' => ?_⟩
            · rcases w with w | w
              · exact z.1 w
              · rcases Ltnew a w with y | y
                · exact z.2 i0 y
                · exact nz y
            · by_cases e : i' = i0
              · subst e
                rw [put_same] at hi'
                rcases Lnew a hi' with y | y
                · exact z.2 i' y
                · exact nz y
              · rw [put_ne e] at hi'; exact z.2 i' hi'
          · obtain ⟨u', eu, mu⟩ := s.mem ha
            rw [ea] at eu; cases eu
            rcases z with z | z | ⟨ys, rfl⟩ | ⟨ob, u2, rfl⟩
            · exact z.2 i0 ha
            · exact hi (s.dj i0 i a ha z)
            · exact mu
            · exact mu
      · by_cases hi : i0 = i
        · subst hi; exact absurd (List.getElem?_set_self hi0) (h d1)
        · rw [put_ne (Ne.symm hi)]
          exact s.emp i fun d' e => h d' (by rw [List.getElem?_set_ne hi]; exact e)
      · by_cases hi : i = i0
        · subst hi; rw [put_same]; exact nd'
        · rw [put_ne hi]; exact s.nd i
      · by_cases hi : i = i0
        · by_cases hi' : i' = i0
          · rw [hi, hi']
          · subst hi
            rw [put_same] at h1; rw [put_ne hi'] at h2
            exact absurd h1 (other i' hi' a h2).1
        · by_cases hi' : i' = i0
          · subst hi'
            rw [put_same] at h2; rw [put_ne hi] at h1
            exact absurd h2 (other i hi a h1).1
          · rw [put_ne hi] at h1; rw [put_ne hi'] at h2
            exact s.dj i i' a h1 h2
      · by_cases hi : i = i0
        · subst hi
          rw [put_same] at h
          rcases w with w | w
          · exact (dl a h).2 (.inl w)
          · exact (dl a h).1 w
        · rw [put_ne hi] at h
          rcases w with w | w
          · exact s.sep i a h w
          · exact (other i hi a h).2 w
      · rcases w with w | w
        · exact dm a (s.dom a w)
        · obtain ⟨u, eu, _⟩ := or.mem a w
          rw [eu]; simp
theorem si_callIO {fs : Rho → Ri (List D)} {i0 j kj : Nat} {F : List D → Ro} (G : FnOk X.prog X.w X.K X.mg X.base (L2.CX X.prog X.w) k f fd ps (spI X.K kr n j kj F)) (hr : Room k X.A) (hg : Gl X x) (hm : X.mg x = some (.ref f)) (hk : PySem.W.keepIn X.K (.ref f) = true) (hb : Binds X.K fd ps [])
    (hs : NoStar X (e :: es)) (hA : SAs X m i0 j (e :: es) fs) (hmk : m.getD i0 0 = kj := by decide) (hk0 : 0 < kj := by decide) (hj : j < n := by decide) (hn : (e :: es).length = n := by rfl) (hdb : (x == ("__debug__" : Str)) = false := by decide +kernel) (hpl : (backTo pos (starEach es X.env)).any (·.1) = false := by rfl) :
    SI X m kr (.Call (.Name x p) (e :: es) [] pos) (iCallIO i0 j fs F) := by
  intro R σ H ρ Ls Q W s tk q
  unfold iCallIO at q
  refine UE.of (pe_callS (E := WE W) G hr hg hm hk hb (fun σ => passAt tk σ) (paN hs) hdb hs.1 hpl) (hA R σ H ρ Ls _ W s tk ?_)
  cases e1 : fs ρ with
  | bad => rw [e1] at q; exact q
  | err x ρ1 => rw [e1] at q; exact q
  | ok ds ρ1 =>
    rw [e1] at q
    dsimp only at q
    intro hl vs H1 Ls1 s1 t1 a1
    cases e2 : ρ1[i0]? with
    | none => rw [e2] at q; exact q.elim
    | some o =>
      cases o with
      | none => rw [e2] at q; exact q.elim
      | some d0 =>
        rw [e2] at q
        exact promise_io s1 t1 (hl.trans hn) hj a1 e2 hmk hk0 q
end
end VL

set_option Elab.async false
set_option linter.all false
set_option maxRecDepth 100000
set_option maxHeartbeats 1000000
namespace VL
open PySem PySem.Spec PyProof.Rows L2
/-! ### an owned object is written -/
section
variable {K : PySem.W.Frag} {S S' R : Addr → Prop} {H H' : Hp} {σ : Sg} {ρ : Rho} {m : List Nat} {Ls : Nat → List Addr} {Lt : List Addr}
/-- what stays of what is not written -/
def Stay (S S' : Addr → Prop) (H H' : Hp) (A : List Addr) : Prop := (∀ a, S a → H a ≠ none → S' a) ∧ ∀ a o, H a = some o → (S a ∨ a ∈ A ∨ (∃ ys, o = .tup ys) ∨ (∃ ob u, o = .frz ob u)) → H' a = some o
theorem Stay.ow {A : List Addr} {k : Nat} {d : D} {v : V} {L : List Addr} (t : Stay S S' H H' A) (hA : ∀ a ∈ L, a ∈ A) (h : Ow K S H k d v L) : Ow K S' H' k d v L :=
  Ow.stay t.1 (fun a o e z => t.2 a o e (z.imp id (.imp (hA a) id))) h
theorem Stay.rq {A : List Addr} {d : D} {v : V} (t : Stay S S' H H' A) (h : Rq K S H 0 d v) : Rq K S' H' 0 d v := (t.ow (L := []) (fun a ha => nomatch ha) (.zero h)).of_zero.2
/-- the whole of a slot's data anew; a was its own -/
theorem SR.updated {H0 : Hp} {Ls0 : Nat → List Addr} {i : Nat} {a : Addr} {o' : HO} {d' : D} {v : V} {L2 : List Addr} (s : SR K (RU R Lt) H σ ρ m Ls) (t : Step Ls0 Ls Lt H0 H) (ha : a ∈ Ls i) (hv : σ[i]? = some (some v)) (hi : i < ρ.length) (hd : Ow K (Sh R (put Ls i L2)) (upd H a o') (m.getD i 0) d' v L2)
    (sub : ∀ b ∈ L2, b ∈ Ls i ∨ b ∈ Lt) (nd : L2.Nodup) (nr : ∀ b ∈ Lt, ¬ R b) : SR K R (upd H a o') σ (ρ.set i (some d')) m (put Ls i L2) ∧ Step Ls0 (put Ls i L2) [] H0 (upd H a o') := by
  have other : ∀ j, j ≠ i → ∀ b ∈ Ls j, b ∉ L2 := fun j hj b hb h2 => by
    rcases sub b h2 with z | z
    · exact hj (s.dj j i b hb z)
    · exact s.sep j b hb (.inr z)
  have t1 : ∀ b, Sh (RU R Lt) Ls b → H b ≠ none → Sh R (put Ls i L2) b := fun b z n => ⟨fun r => z.1 (.inl r), fun j' hj' => by
    by_cases q' : j' = i
    · subst q'
      rw [put_same] at hj'
      rcases sub b hj' with y | y
      · exact z.2 j' y
      · exact z.1 (.inr y)
    · rw [put_ne q'] at hj'; exact z.2 j' hj'⟩
  refine ⟨⟨by simp [s.len], by simp [s.mlen], fun j d e => ?_, fun j h => ?_, fun j => ?_, fun j j' b h1 h2 => ?_, fun j b hb => ?_, fun b r => ?_⟩, ⟨fun b o e n => ?_, fun b n => ?_, fun b h => ?_⟩⟩
  · by_cases q : i = j
    · subst q
      rw [List.getElem?_set_self hi] at e
      cases e
      rw [put_same]
      exact ⟨v, hv, hd⟩
    · rw [List.getElem?_set_ne q] at e
      obtain ⟨u, h1, h2⟩ := s.val j d e
      rw [put_ne (Ne.symm q)]
      have t2 : ∀ b o, H b = some o → (Sh (RU R Lt) Ls b ∨ b ∈ Ls j ∨ (∃ ys, o = .tup ys) ∨ (∃ ob u, o = .frz ob u)) → _root_.L2.upd H a o' b = some o := fun b o e z => by
        have nb : b ≠ a := fun q' => by
          subst q'
          obtain ⟨u', eu, mu⟩ := s.mem ha
          rw [e] at eu; cases eu
          rcases z with z | z | ⟨ys, rfl⟩ | ⟨ob, u2, rfl⟩
          · exact z.2 i ha
          · exact q (s.dj i j b ha z)
          · exact mu
          · exact mu
        rw [upd_ne nb]; exact e
      exact ⟨u, h1, Ow.stay t1 t2 h2⟩
  · by_cases q : i = j
    · subst q; exact absurd (List.getElem?_set_self hi) (h d')
    · rw [put_ne (Ne.symm q)]
      exact s.emp j fun d e => h d (by rw [List.getElem?_set_ne q]; exact e)
  · by_cases q : j = i
    · subst q; rw [put_same]; exact nd
    · rw [put_ne q]; exact s.nd j
  · by_cases q : j = i
    · by_cases q' : j' = i
      · rw [q, q']
      · subst q
        rw [put_same] at h1; rw [put_ne q'] at h2
        exact absurd h1 (other j' q' b h2)
    · by_cases q' : j' = i
      · subst q'
        rw [put_same] at h2; rw [put_ne q] at h1
        exact absurd h2 (other j q b h1)
      · rw [put_ne q] at h1; rw [put_ne q'] at h2
        exact s.dj j j' b h1 h2
  · by_cases q : j = i
    · subst q
      rw [put_same] at hb
      rcases sub b hb with y | y
      · exact fun r => s.sep j b y (.inl r)
      · exact nr b y
    · rw [put_ne q] at hb
      exact fun r => s.sep j b hb (.inl r)
  · by_cases q : b = a
    · rw [q, upd_same]; simp
    · rw [upd_ne q]; exact s.dom b (.inl r)
  · have nb : b ≠ a := fun q => by
      rw [q] at e n
      rcases t.new a (.inl ⟨i, ha⟩) with ⟨j, hj⟩ | z
      · exact n j hj
      · rw [z] at e; cases e
    rw [upd_ne nb]
    exact t.keep b o e n
  · by_cases q : b = a
    · rw [q, upd_same]; simp
    · rw [upd_ne q]; exact t.dom b n
  · rcases h with ⟨j, hj⟩ | h
    · by_cases q : j = i
      · subst q
        rw [put_same] at hj
        exact t.new b ((sub b hj).imp (fun y => ⟨j, y⟩) id)
      · rw [put_ne q] at hj; exact t.new b (.inl ⟨j, hj⟩)
    · cases h
/-- a place within owned data: what lies there, and how it is put back -/
def Zoom (K : PySem.W.Frag) (S : Addr → Prop) (H : Hp) (k : Nat) (d : D) (v : V) (L : List Addr) (k1 : Nat) (d1 : D) (v1 : V) (L1 : List Addr) (C : D → D) : Prop :=
  ∃ A B, L = A ++ L1 ++ B ∧ Ow K S H k1 d1 v1 L1 ∧ ∀ (S' : Addr → Prop) (H' : Hp) (d' : D) (L' : List Addr), Stay S S' H H' (A ++ B) → Ow K S' H' k1 d' v1 L' → Ow K S' H' k (C d') v (A ++ L' ++ B)
theorem Zoom.refl {k : Nat} {d : D} {v : V} {L : List Addr} (h : Ow K S H k d v L) : Zoom K S H k d v L k d v L id := ⟨[], [], by simp, h, fun S' H' d' L' _ h' => by simpa using h'⟩
theorem Zoom.trans {k k1 k2 : Nat} {d d1 d2 : D} {v v1 v2 : V} {L L1 L2 : List Addr} {C C' : D → D} (z : Zoom K S H k d v L k1 d1 v1 L1 C) (z' : Zoom K S H k1 d1 v1 L1 k2 d2 v2 L2 C') : Zoom K S H k d v L k2 d2 v2 L2 (C ∘ C') := by
  obtain ⟨A, B, e, h, put⟩ := z
  obtain ⟨A', B', e', h', put'⟩ := z'
  refine ⟨A ++ A', B' ++ B, by rw [e, e']; simp, h', fun S' H' d' L' t o => ?_⟩
  have mono : ∀ {A1 A2 : List Addr}, (∀ a ∈ A1, a ∈ A2) → Stay S S' H H' A2 → Stay S S' H H' A1 := fun hA t => ⟨t.1, fun a o e z => t.2 a o e (z.imp id (.imp (hA a) id))⟩
  have h1 := put' S' H' d' L' (mono (fun a ha => by
    rcases List.mem_append.mp ha with ha | ha
    · simp [ha]
    · simp [ha]) t) o
  have h2 := put S' H' (C' d') _ (mono (fun a ha => by
    rcases List.mem_append.mp ha with ha | ha
    · simp [ha]
    · simp [ha]) t) h1
  simpa using h2
theorem OwsW.split {P : D → V → List Addr → Prop} : ∀ {ds : List D} {vs : List V} {L : List Addr} {j : Nat} {d : D}, OwsW P ds vs L → ds[j]? = some d → ∃ v A L1 B, vs[j]? = some v ∧ L = A ++ L1 ++ B ∧ P d v L1 ∧
    ∀ (P' : D → V → List Addr → Prop) (d' : D) (v' : V) (L' : List Addr), (∀ d v L1, (∀ a ∈ L1, a ∈ A ++ B) → P d v L1 → P' d v L1) → P' d' v' L' → OwsW P' (ds.set j d') (vs.set j v') (A ++ L' ++ B)
  | [], _, _, _, _, _, e => by simp at e
  | d0 :: ds, vs, L, 0, d, h, e => by
    unfold OwsW at h
    obtain ⟨v, r, L1, L2, rfl, rfl, h1, h2⟩ := h
    simp at e; subst e
    refine ⟨v, [], L1, L2, rfl, by simp, h1, fun P' d' v' L' k p => ?_⟩
    show OwsW P' (d' :: ds) (v' :: r) ([] ++ L' ++ L2)
    exact ⟨v', r, L', L2, rfl, by simp, p, h2.imp fun d v L1 hL q => k d v L1 (fun a ha => by simp [hL a ha]) q⟩
  | d0 :: ds, vs, L, j + 1, d, h, e => by
    unfold OwsW at h
    obtain ⟨v, r, L1, L2, rfl, rfl, h1, h2⟩ := h
    obtain ⟨u, A, L3, B, e1, e2, p, put⟩ := OwsW.split (j := j) (d := d) h2 (by simpa using e)
    refine ⟨u, L1 ++ A, L3, B, by simpa using e1, by rw [e2]; simp, p, fun P' d' v' L' k p' => ?_⟩
    show OwsW P' (d0 :: ds.set j d') (v :: r.set j v') (L1 ++ A ++ L' ++ B)
    refine ⟨v, r.set j v', L1, A ++ L' ++ B, rfl, by simp, k d0 v L1 (fun a ha => by simp [ha]) h1, put P' d' v' L' (fun d v L1 hL q => k d v L1 (fun a ha => ?_) q) p'⟩
    rcases List.mem_append.mp (hL a ha) with z | z
    · simp [z]
    · simp [z]
theorem set_same {α : Type} {l : List α} {j : Nat} {v : α} (h : l[j]? = some v) : l.set j v = l := by
  apply List.ext_getElem?
  intro n
  by_cases q : j = n
  · subst q
    rw [List.getElem?_set_self (List.getElem?_eq_some_iff.mp h).1, h]
  · rw [List.getElem?_set_ne q]
theorem Zoom.lst {k : Nat} {ds : List D} {v : V} {L : List Addr} {j : Nat} {d1 : D} (h : Ow K S H (k + 1) (.lst ds) v L) (e : ds[j]? = some d1) :
    ∃ a vs v1 L1, v = .ref a ∧ H a = some (.lst vs) ∧ vs[j]? = some v1 ∧ ds.length = vs.length ∧ Zoom K S H (k + 1) (.lst ds) v L k d1 v1 L1 (fun d' => .lst (ds.set j d')) := by
  unfold Ow at h
  obtain ⟨a, vs, L', rfl, ha, rfl, h2⟩ := h
  obtain ⟨v1, A, L1, B, e1, e2, p, put⟩ := h2.split e
  refine ⟨a, vs, v1, L1, rfl, ha, e1, h2.len, a :: A, B, by rw [e2]; simp, p, fun S' H' d' L' t o => ?_⟩
  unfold Ow
  refine ⟨a, vs, A ++ L' ++ B, rfl, t.2 a _ ha (.inr (.inl (by simp))), by simp, ?_⟩
  have k1 : ∀ b ∈ A ++ B, b ∈ a :: A ++ B := fun b hb => by simpa using Or.inr (List.mem_append.mp hb)
  have k2 := put (Ow K S' H' k) d' v1 L' (fun d v L1 hL q => t.ow (fun b hb => k1 b (hL b hb)) q) o
  rw [set_same e1] at k2
  exact k2
theorem lookF_ix : ∀ {ns : List Str} {ds : List D} {f : Str} {d : D}, lookF ns ds f = some d → ∃ j, ns[j]? = some f ∧ ds[j]? = some d ∧ (∀ (i : Nat), i < j → ns[i]? ≠ some f)
  | [], ds, f, d, e => by unfold lookF at e; rw [List.zip_nil_left] at e; cases e
  | n :: ns, [], f, d, e => by unfold lookF at e; rw [List.zip_nil_right] at e; cases e
  | n :: ns, d' :: ds, f, d, e => by
    unfold lookF at e
    rw [List.zip_cons_cons, List.lookup_cons] at e
    cases q : f == n with
    | true =>
      rw [q] at e; cases e
      rw [beq_iff_eq] at q
      exact ⟨0, by rw [q]; rfl, rfl, fun i hi => absurd hi (Nat.not_lt_zero _)⟩
    | false =>
      rw [q] at e
      obtain ⟨j, h1, h2, h3⟩ := lookF_ix e
      refine ⟨j + 1, by simpa using h1, by simpa using h2, fun i hi => ?_⟩
      cases i with
      | zero =>
        rw [beq_eq_false_iff_ne] at q
        simp [Ne.symm q]
      | succ i => simpa using h3 i (by omega)
theorem nodup_mid {A L1 B L' : List Addr} (h : (A ++ L1 ++ B).Nodup) (h' : L'.Nodup) (d : ∀ a ∈ L', a ∉ A ∧ a ∉ B) : (A ++ L' ++ B).Nodup := by
  rw [List.append_assoc, List.nodup_append] at h ⊢
  obtain ⟨h1, h2, h3⟩ := h
  rw [List.nodup_append] at h2
  obtain ⟨h4, h5, h6⟩ := h2
  refine ⟨h1, List.nodup_append.mpr ⟨h', h5, fun a ha b hb e => (d a ha).2 (e ▸ hb)⟩, fun a ha b hb e => ?_⟩
  rcases List.mem_append.mp hb with hb | hb
  · exact (d b hb).1 (e ▸ ha)
  · exact h3 a ha b (List.mem_append_right _ hb) e
/-- a place of a slot's data is written -/
theorem SR.write {H0 : Hp} {Ls0 : Nat → List Addr} {i k1 : Nat} {a : Addr} {o' : HO} {d d1 d1' : D} {v : V} {L1 L1' : List Addr} {C : D → D} (s : SR K (RU R Lt) H σ ρ m Ls) (t : Step Ls0 Ls Lt H0 H) (hρ : ρ[i]? = some (some d)) (hv : σ[i]? = some (some v))
    (z : Zoom K (Sh (RU R Lt) Ls) H (m.getD i 0) d v (Ls i) k1 d1 (.ref a) L1 C) (ha : a ∈ L1) (nr : ∀ b ∈ Lt, ¬ R b)
    (hO : ∀ S', Stay (Sh (RU R Lt) Ls) S' H (upd H a o') ((L1 ++ Lt).filter (· ≠ a)) → Ow K S' (upd H a o') k1 d1' (.ref a) L1') (sub : ∀ b ∈ L1', b ∈ L1 ∨ b ∈ Lt) (nd : L1'.Nodup) :
    ∃ Ls', SR K R (upd H a o') σ (ρ.set i (some (C d1'))) m Ls' ∧ Step Ls0 Ls' [] H0 (upd H a o') := by
  obtain ⟨A, B, e, h1, put'⟩ := z
  have hi : i < ρ.length := (List.getElem?_eq_some_iff.mp hρ).1
  have hai : a ∈ Ls i := by rw [e]; simp [ha]
  have ndi := s.nd i
  rw [e] at ndi
  have disj : ∀ b ∈ L1, b ∉ A ∧ b ∉ B := fun b hb => by
    rw [List.append_assoc, List.nodup_append] at ndi
    obtain ⟨_, h2, h3⟩ := ndi
    rw [List.nodup_append] at h2
    exact ⟨fun q => h3 b q b (List.mem_append_left _ hb) rfl, fun q => h2.2.2 b hb b q rfl⟩
  have dt : ∀ b ∈ Lt, b ∉ A ∧ b ∉ B := fun b hb => ⟨fun q => s.sep i b (by rw [e]; simp [q]) (.inr hb), fun q => s.sep i b (by rw [e]; simp [q]) (.inr hb)⟩
  have inL : ∀ b ∈ A ++ L1' ++ B, b ∈ Ls i ∨ b ∈ Lt := fun b hb => by
    rw [List.mem_append, List.mem_append] at hb
    rcases hb with (hb | hb) | hb
    · left; rw [e]; simp [hb]
    · rcases sub b hb with y | y
      · left; rw [e]; simp [y]
      · exact .inr y
    · left; rw [e]; simp [hb]
  have t1 : ∀ b, Sh (RU R Lt) Ls b → H b ≠ none → Sh R (put Ls i (A ++ L1' ++ B)) b := fun b z n => ⟨fun r => z.1 (.inl r), fun j' hj' => by
    by_cases q' : j' = i
    · subst q'
      rw [put_same] at hj'
      rcases inL b hj' with y | y
      · exact z.2 j' y
      · exact z.1 (.inr y)
    · rw [put_ne q'] at hj'; exact z.2 j' hj'⟩
  have t2 : ∀ (X : List Addr), a ∉ X → ∀ b o, H b = some o → (Sh (RU R Lt) Ls b ∨ b ∈ X ∨ (∃ ys, o = .tup ys) ∨ (∃ ob u, o = .frz ob u)) → _root_.L2.upd H a o' b = some o := fun X hX b o eb z => by
    have nb : b ≠ a := fun q' => by
      subst q'
      obtain ⟨u', eu, mu⟩ := s.mem hai
      rw [eb] at eu; cases eu
      rcases z with z | z | ⟨ys, rfl⟩ | ⟨ob, u2, rfl⟩
      · exact z.2 i hai
      · exact hX z
      · exact mu
      · exact mu
    rw [upd_ne nb]; exact eb
  have aAB : a ∉ A ++ B := fun q => by
    rcases List.mem_append.mp q with q | q
    · exact (disj a ha).1 q
    · exact (disj a ha).2 q
  have hd := put' (Sh R (put Ls i (A ++ L1' ++ B))) (upd H a o') d1' L1' ⟨t1, t2 _ aAB⟩ (hO _ ⟨t1, t2 _ (by simp)⟩)
  refine ⟨_, s.updated t hai hv hi hd inL (nodup_mid ndi nd fun b hb => ?_) nr⟩
  rcases sub b hb with y | y
  · exact disj b y
  · exact dt b y
/-- .. a list whose items are shared -/
theorem SR.write1 {H0 : Hp} {Ls0 : Nat → List Addr} {i : Nat} {a : Addr} {d : D} {ds ds' : List D} {us : List V} {v : V} {L1 : List Addr} {C : D → D} (s : SR K R H σ ρ m Ls) (t : Step Ls0 Ls [] H0 H) (hρ : ρ[i]? = some (some d)) (hv : σ[i]? = some (some v))
    (z : Zoom K (Sh R Ls) H (m.getD i 0) d v (Ls i) 1 (.lst ds) (.ref a) L1 C) (r : Rqs K (Sh R Ls) H 0 ds' us) :
    ∃ Ls', SR K R (upd H a (.lst us)) σ (ρ.set i (some (C (.lst ds')))) m Ls' ∧ Step Ls0 Ls' [] H0 (upd H a (.lst us)) := by
  have z' := z
  obtain ⟨_, _, _, h1, _⟩ := z'
  unfold Ow at h1
  obtain ⟨a', vs, L', e1, h2, rfl, h3⟩ := h1
  cases e1
  obtain ⟨rfl, h4⟩ := h3.of_zeros
  rw [← ru_nil (R := R)] at s z r
  refine s.write t hρ hv z (by simp) (fun b hb => nomatch hb) (fun S' st => ?_) (L1' := [a]) (by simp) (by simp)
  unfold Ow
  exact ⟨a, us, [], rfl, upd_same, rfl, OwsW.zeros (Rqs.stay st.1 ds' 0 us (fun b o e q => st.2 b o e (by
    rcases q with q | q | q
    · exact absurd q (Nat.lt_irrefl _)
    · exact .inl q
    · exact .inr (.inr q))) r)⟩
end

theorem Step.andGrow {Ls Ls' : Nat → List Addr} {Lt : List Addr} {H H1 H2 : Hp} (t : Step Ls Ls' Lt H H1) (g : Grow H1 H2) : Step Ls Ls' Lt H H2 := ⟨fun a o e n => g a o (t.keep a o e n), fun a n z => t.dom a n (g.dom z), t.new⟩
/-! ### places -/
def SPl (X : Cx) (m : List Nat) (i k1 : Nat) (e : Expr) (f : Rho → Rs (D × (D → D))) : Prop :=
  ∀ (R : Addr → Prop) (σ : Sg) (H : Hp) (ρ : Rho) (Ls : Nat → List Addr) (Q : VK) (W : WX), SR X.K R H σ ρ m Ls → Takes X W →
    (match f ρ with
      | .ok dc => ∀ v1 H', Grow H H' → (∃ d v L1, ρ[i]? = some (some d) ∧ σ[i]? = some (some v) ∧ Zoom X.K (Sh R Ls) H' (m.getD i 0) d v (Ls i) k1 dc.1 v1 L1 dc.2) → Q v1 H'
      | .err x => ∀ cls dd H', Grow H H' → ExIs X.K x cls dd H' → W cls dd σ H'
      | .bad => False) → UE X e σ H Q
section
variable {X : Cx} {F : Fx} {m m' : List Nat} {a b e o ix : Expr} {es : List Expr} {pos p pos' apos : Pos} {x : Str}
def plVar (i : Nat) : Rho → Rs (D × (D → D)) := fun ρ => match ρ[i]? with
  | some (some d) => .ok (d, id)
  | _ => .bad
theorem spl_var (i : Nat) {k1 : Nat} (hk : m.getD i 0 = k1 := by decide) (hN : X.N[i]? = some x := by rfl) (hv : Vis X.env.scope x := by first | exact Or.inl rfl | exact Or.inr (Or.inl rfl) | exact Or.inr (Or.inr rfl))
    (hd : (x == ("__debug__" : Str)) = false := by decide +kernel) (hcd : (x == ("__classdict__" : Str)) = false := by decide +kernel) : SPl X m i k1 (.Name x pos) (plVar i) := by
  intro R σ H ρ Ls Q W s tk q
  unfold plVar at q
  cases e : ρ[i]? with
  | none => rw [e] at q; exact q.elim
  | some o =>
    cases o with
    | none => rw [e] at q; exact q.elim
    | some d =>
      rw [e] at q
      obtain ⟨v, h1, h2⟩ := s.val i d e
      subst hk
      exact UE.of (pe_var hN hv hd hcd) ⟨v, h1, q v H (Grow.refl H) ⟨d, v, Ls i, rfl, h1, .refl h2⟩⟩
def plIx (f : Rho → Rs (D × (D → D))) (g : Rho → Rs D) : Rho → Rs (D × (D → D)) := fun ρ => do
  let dc ← f ρ
  let j ← g ρ
  match dc.1, j with
  | .lst ds, .int n => match ixN ds.length n with
    | some j => match ds[j]? with
      | some d1 => .ok (d1, fun d' => dc.2 (.lst (ds.set j d')))
      | none => .bad
    | none => .bad
  | _, _ => .bad
theorem Zoom.grow {K : PySem.W.Frag} {S : Addr → Prop} {H H' : Hp} {k k1 : Nat} {d d1 : D} {v v1 : V} {L L1 : List Addr} {C : D → D} (z : Zoom K S H k d v L k1 d1 v1 L1 C) (g : Grow H H') : Zoom K S H' k d v L k1 d1 v1 L1 C := by
  obtain ⟨A, B, e, h, put⟩ := z
  refine ⟨A, B, e, h.grow g fun _ z _ => z, fun S' H'' d' L' t o => put S' H'' d' L' ⟨fun a z n => ?_, fun a o e z => t.2 a o (g a o e) z⟩ o⟩
  refine t.1 a z fun q => ?_
  exact n (g.dom q)
theorem spl_ix {i k1 : Nat} {f : Rho → Rs (D × (D → D))} {g : Rho → Rs D} (h : SPl X m i (k1 + 1) o f) (h' : SP X m 0 ix g) (hs : PlainIx ix := by exact fun _ _ => rfl) : SPl X m i k1 (.Subscript o ix pos) (plIx f g) := by
  intro R σ H ρ Ls Q W s tk q
  unfold plIx at q
  refine UE.of (pe_ix ix_list peU peU hs) (h R σ H ρ Ls _ W s tk ?_)
  cases e1 : f ρ with
  | bad => rw [e1] at q; exact q
  | err x => rw [e1] at q; exact q
  | ok dc =>
    rw [e1, ok_bind] at q
    rintro v1 H1 g1 ⟨d, v, L1, hρ, hv, z⟩
    refine h' R σ H1 ρ Ls _ W (s.grow g1) tk ?_
    cases e2 : g ρ with
    | bad => rw [e2] at q; exact q
    | err x => rw [e2] at q; exact fun cls dd H' g2 y => q cls dd H' (g1.trans g2) y
    | ok j =>
      rw [e2, ok_bind] at q
      intro vj H2 g2 rj
      have z2 := z.grow g2
      obtain ⟨d1, C⟩ := dc
      dsimp only at q z2
      cases d1 with
      | lst ds =>
        cases j with
        | int n =>
          dsimp only at q
          cases e3 : ixN ds.length n with
          | none => rw [e3] at q; exact q.elim
          | some j =>
            rw [e3] at q
            dsimp only at q
            cases e4 : ds[j]? with
            | none => rw [e4] at q; exact q.elim
            | some d2 =>
              rw [e4] at q
              have z3 := z2
              obtain ⟨_, _, _, h1, _⟩ := z3
              obtain ⟨a, vs, v2, L2, rfl, ha, hv2, hl, z4⟩ := Zoom.lst h1 e4
              refine ⟨a, vs, n, v2, rfl, rj.int, .of ha, ?_, q v2 H2 (g1.trans g2) ⟨d, v, L2, hρ, hv, z2.trans z4⟩⟩
              unfold atI
              rw [← hl, e3]; exact hv2
        | _ => exact q.elim
      | _ => cases j <;> exact q.elim
/-! ### stores, and methods that change -/
/-- o[ix] = e -/
def oSub (i : Nat) (f : Rho → Ri D) (pl : Rho → Rs (D × (D → D))) (g : Rho → Rs D) : Rho → Out := fun ρ => match f ρ with
  | .ok d ρ1 => match plIx pl g ρ1 with
    | .ok dc => .nx (ρ1.set i (some (dc.2 d)))
    | .err x => .bad
    | .bad => .bad
  | .err x ρ1 => .err x ρ1
  | .bad => .bad
theorem Takes.all {X : Cx} (W : WX) (h : Takes X W) : Takes X W := h
theorem ss_sub {i k1 : Nat} {f : Rho → Ri D} {pl : Rho → Rs (D × (D → D))} {g : Rho → Rs D} (h : SI X m k1 e f) (hp : SPl X m i (k1 + 1) o pl) (hg : SP X m 0 ix g) (hio : F.io.getD i 0 = F.io.getD i 0 := by rfl) (w : mwB m F.me = true := by decide)
    (ha : ∀ v, assign (.Subscript o ix pos') X.env v = (do
      let ov ← holding [v] (eval o X.env)
      let iv ← holding [v, ov] (eval ix X.env)
      standAt pos'
      holding [v, ov, iv] (setItem ov iv v)
      release [v, ov, iv] []) := by intro _; rfl)
    (hs : swapsWithSole [.Subscript o ix pos'] e pos.line X.env = pure false := by rfl) (hw : swappedStores [.Subscript o ix pos'] e X.env = pure none := by rfl)
    (h1 : (assignEach [.Subscript o ix pos'] X.env).map (·.2) = [assign (.Subscript o ix pos') X.env] := by rfl) : SS X F m m (.Assign [.Subscript o ix pos'] e pos) (oSub i f pl g) := by
  intro R vs σ H ρ Ls E W fx s tk q
  unfold oSub at q
  refine US.of (ps_asg peU (pg_sub peU peU set_list ha) hs hw h1) (h R σ H ρ Ls _ W s tk ?_)
  cases e1 : f ρ with
  | bad => rw [e1] at q; exact q
  | err x ρ' => rw [e1] at q; exact fun cls dd H' Ls' s' t z => q cls dd σ H' _ fx (s'.weak (mw_of w)) t.weak z
  | ok d ρ1 =>
    rw [e1] at q
    dsimp only at q
    intro v H1 Ls1 Lt s1 o1 nd1 nr1 t1
    refine hp (RU R Lt) σ H1 ρ1 Ls1 _ W s1 tk ?_
    unfold plIx at q
    cases e2 : pl ρ1 with
    | bad => rw [e2] at q; exact q
    | err x => rw [e2] at q; exact q.elim
    | ok dc =>
      rw [e2, ok_bind] at q
      rintro v1 H2 g2 ⟨d0, v0, L1, hρ, hv, z⟩
      refine hg (RU R Lt) σ H2 ρ1 Ls1 _ W (s1.grow g2) tk ?_
      cases e3 : g ρ1 with
      | bad => rw [e3] at q; exact q
      | err x => rw [e3] at q; exact q.elim
      | ok j =>
        rw [e3, ok_bind] at q
        intro vj H3 g3 rj
        have g13 := g2.trans g3
        have s3 := s1.grow g13
        have z3 := z.grow g3
        obtain ⟨d1, C⟩ := dc
        dsimp only at q z3
        cases d1 with
        | lst ds =>
          cases j with
          | int n =>
            dsimp only at q
            cases e4 : ixN ds.length n with
            | none => rw [e4] at q; exact q.elim
            | some j =>
              rw [e4] at q
              dsimp only at q
              cases e5 : ds[j]? with
              | none => rw [e5] at q; exact q.elim
              | some d2 =>
                rw [e5] at q
                dsimp only at q
                have z4 := z3
                obtain ⟨A, B, eL, h2, _⟩ := z4
                unfold Ow at h2
                obtain ⟨a, us, Lin, rfl, ha, rfl, h3⟩ := h2
                obtain ⟨u, A', Lj, B', e6, rfl, p6, put6⟩ := h3.split e5
                have hl := h3.len
                refine ⟨a, us, n, j, rfl, rj.int, ha, by rw [← hl]; exact e4, ?_⟩
                have ndi := s3.nd i
                rw [eL] at ndi
                have ndL : (a :: (A' ++ Lj ++ B')).Nodup := by
                  rw [List.append_assoc, List.nodup_append] at ndi
                  have := ndi.2.1
                  rw [List.nodup_append] at this
                  exact this.1
                have ndt : ∀ b ∈ Lt, b ≠ a ∧ b ∉ A' ∧ b ∉ B' := fun b hb => by
                  have k : ∀ c ∈ a :: (A' ++ Lj ++ B'), c ∉ Lt := fun c hc hz => s3.sep i c (by rw [eL]; simp only [List.mem_append]; exact .inl (.inr hc)) (.inr hz)
                  refine ⟨fun q => k a (by simp) (q ▸ hb), fun q => k b (by simp [q]) hb, fun q => k b (by simp [q]) hb⟩
                rw [List.nodup_cons] at ndL
                obtain ⟨Ls4, s4, t4⟩ := s3.write (o' := .lst (us.set j v)) (d1' := .lst (ds.set j d)) (L1' := a :: (A' ++ Lt ++ B')) (t1.andGrow g13) hρ hv z3 (by simp) nr1 (fun S' st => by
                    unfold Ow
                    refine ⟨a, us.set j v, A' ++ Lt ++ B', rfl, upd_same, rfl, put6 _ d v Lt (fun d' v' L' hL' q' => st.ow (fun b hb => ?_) q') ?_⟩
                    · rw [List.mem_filter]
                      have hb' := hL' b hb
                      have nb : b ≠ a := fun q => ndL.1 (by rw [← q]; rcases List.mem_append.mp hb' with y | y <;> simp [y])
                      refine ⟨?_, by simpa using nb⟩
                      rcases List.mem_append.mp hb' with y | y <;> simp [y]
                    · refine st.ow (fun b hb => ?_) (o1.grow g13 fun _ z _ => z)
                      rw [List.mem_filter]
                      exact ⟨by simp [hb], by simpa using (ndt b hb).1⟩) (fun b hb => by
                    rcases List.mem_cons.mp hb with y | y
                    · left; simp [y]
                    · rw [List.mem_append, List.mem_append] at y
                      rcases y with (y | y) | y
                      · left; simp [y]
                      · exact .inr y
                      · left; simp [y]) (List.nodup_cons.mpr ⟨fun q => by
                    rw [List.mem_append, List.mem_append] at q
                    rcases q with (q | q) | q
                    · exact ndL.1 (by simp [q])
                    · exact (ndt a q).1 rfl
                    · exact ndL.1 (by simp [q]), nodup_mid ndL.2 nd1 fun b hb => ⟨(ndt b hb).2.1, (ndt b hb).2.2⟩⟩)
                exact q σ _ Ls4 fx s4 t4
          | _ => exact q.elim
        | _ => cases j <;> exact q.elim
end
end VL

set_option Elab.async false
set_option linter.all false
set_option maxRecDepth 100000
set_option maxHeartbeats 1000000
namespace VL
open PySem PySem.Spec PyProof.Rows L2
/-! ### append, pop -/
section
variable {K : PySem.W.Frag} {R : Addr → Prop} {H : Hp} {σ : Sg} {ρ : Rho} {m : List Nat} {Ls : Nat → List Addr} {Lt : List Addr}
theorem SR.app {H0 : Hp} {Ls0 : Nat → List Addr} {i k1 : Nat} {d d1 : D} {ds : List D} {v v1 va : V} {L1 : List Addr} {C : D → D} (s : SR K (RU R Lt) H σ ρ m Ls) (t : Step Ls0 Ls Lt H0 H) (hρ : ρ[i]? = some (some d)) (hv : σ[i]? = some (some v))
    (z : Zoom K (Sh (RU R Lt) Ls) H (m.getD i 0) d v (Ls i) (k1 + 1) (.lst ds) va L1 C) (o : Ow K (Sh (RU R Lt) Ls) H k1 d1 v1 Lt) (ndt : Lt.Nodup) (nr : ∀ b ∈ Lt, ¬ R b) :
    ∃ a us, va = .ref a ∧ H a = some (.lst us) ∧ us.length = ds.length ∧ ∃ Ls', SR K R (upd H a (.lst (us ++ [v1]))) σ (ρ.set i (some (C (.lst (ds ++ [d1]))))) m Ls' ∧ Step Ls0 Ls' [] H0 (upd H a (.lst (us ++ [v1]))) := by
  have z' := z
  obtain ⟨A, B, eL, h1, _⟩ := z'
  unfold Ow at h1
  obtain ⟨a, us, L', rfl, ha, rfl, h3⟩ := h1
  refine ⟨a, us, rfl, ha, h3.len.symm, ?_⟩
  have ndi := s.nd i
  rw [eL] at ndi
  have ndL : (a :: L').Nodup := by
    rw [List.append_assoc, List.nodup_append] at ndi
    have := ndi.2.1
    rw [List.nodup_append] at this
    exact this.1
  have sp : ∀ c ∈ a :: L', c ∉ Lt := fun c hc hz => s.sep i c (by rw [eL]; simp only [List.mem_append]; exact .inl (.inr hc)) (.inr hz)
  rw [List.nodup_cons] at ndL
  refine s.write (o' := .lst (us ++ [v1])) (d1' := .lst (ds ++ [d1])) (L1' := a :: (L' ++ Lt)) t hρ hv z (by simp) nr (fun S' st => ?_) (fun b hb => ?_) ?_
  · unfold Ow
    refine ⟨a, us ++ [v1], L' ++ Lt, rfl, upd_same, rfl, OwsW.snoc (st.ow (fun b hb => ?_) o) (h3.imp fun d' v' L'' hL q => st.ow (fun b hb => ?_) q)⟩
    · rw [List.mem_filter]
      exact ⟨by simp [hb], decide_eq_true (show b ≠ a from fun q => sp a (by simp) (q ▸ hb))⟩
    · rw [List.mem_filter]
      have := hL b hb
      exact ⟨by simp [this], decide_eq_true (show b ≠ a from fun q => ndL.1 (q ▸ this))⟩
  · rcases List.mem_cons.mp hb with y | y
    · left; simp [y]
    · rcases List.mem_append.mp y with y | y
      · left; simp [y]
      · exact .inr y
  · refine List.nodup_cons.mpr ⟨fun q => ?_, List.nodup_append.mpr ⟨ndL.2, ndt, fun b hb c hc e => sp b (by simp [hb]) (e ▸ hc)⟩⟩
    rcases List.mem_append.mp q with q | q
    · exact ndL.1 q
    · exact sp a (by simp) q
end
section
variable {X : Cx} {F : Fx} {m m' : List Nat} {a b e o ix : Expr} {es : List Expr} {pos p pos' apos cpos px : Pos} {x : Str}
def isLst : D → Bool
  | .lst _ => true
  | _ => false
/-- x.append(e), x the name of slot i -/
def iApp (i : Nat) (f : Rho → Ri D) : Rho → Ri D := fun ρ => match ρ[i]? with
  | some (some (.lst _)) => match f ρ with
    | .ok d ρ1 => match ρ1[i]? with
      | some (some (.lst ds)) => if ds.length < sizeLine then .ok .non (ρ1.set i (some (.lst (ds ++ [d])))) else .bad
      | _ => .bad
    | .err x ρ1 => .err x ρ1
    | .bad => .bad
  | _ => .bad
theorem si_append (i : Nat) {k1 : Nat} {f : Rho → Ri D} (h : SI X m k1 e f) (hk : m.getD i 0 = k1 + 1 := by decide) (hN : X.N[i]? = some x := by rfl) (hv : Vis X.env.scope x := by first | exact Or.inl rfl | exact Or.inr (Or.inl rfl) | exact Or.inr (Or.inr rfl))
    (hd : (x == ("__debug__" : Str)) = false := by decide +kernel) (hcd : (x == ("__classdict__" : Str)) = false := by decide +kernel)
    (hbase : attributeBase (.Name x px) "append" X.env (eval (.Name x px) X.env) = eval (.Name x px) X.env := by rfl)
    (hfew : ((backTo cpos (starEach [e] X.env)).all (fun x => !x.1) && (backToKw cpos (keywordEach [] X.env)).all (fun x => x.1.isSome)
      && decide (([e] : List Expr).length + ([] : List Keyword).length + (if ([] : List Keyword).isEmpty then 0 else 1) < 30)) = true := by rfl)
    (hline : (apos.endLine == cpos.line) = true := by rfl) (hs : starEach [e] X.env = (false, eval e X.env) :: starEach [] X.env := by rfl) (hplain : (backTo cpos (starEach [] X.env)).any (·.1) = false := by rfl) :
    SI X m 0 (.Call (.Attribute (.Name x px) "append" apos) [e] [] cpos) (iApp i f) := by
  intro R σ H ρ Ls Q W s tk q
  unfold iApp at q
  refine UE.of (pe_bm PySem.F.plainAttrs_list PySem.F.slot_list_append PySem.F.type_list_append mt_append (pe_var hN hv hd hcd) (pa_cons peU pa_nil hs) hbase hfew hline hs hplain) ?_
  split at q
  · rename_i ds0 e0
    obtain ⟨v, h1, h2⟩ := s.val i _ e0
    rw [hk] at h2
    have h2' := h2
    unfold Ow at h2'
    obtain ⟨a, us0, L0, rfl, ha0, _, _⟩ := h2'
    refine ⟨.ref a, h1, .inl ⟨rfl, us0, .of ha0⟩, ?_⟩
    refine h R σ H ρ Ls _ W s tk ?_
    cases e1 : f ρ with
    | bad => rw [e1] at q; exact q
    | err x ρ1 => rw [e1] at q; exact q
    | ok d ρ1 =>
      rw [e1] at q
      dsimp only at q
      intro v1 H1 Ls1 Lt s1 o1 nd1 nr1 t1
      cases e2 : ρ1[i]? with
      | none => rw [e2] at q; exact q.elim
      | some od =>
        rw [e2] at q
        cases od with
        | none => exact q.elim
        | some dd =>
          cases dd with
          | lst ds =>
            dsimp only at q
            by_cases hz : ds.length < sizeLine
            · rw [if_pos hz] at q
              obtain ⟨v', h1', h2'⟩ := s1.val i _ e2
              rw [h1] at h1'
              cases h1'
              rw [hk] at h2'
              obtain ⟨a', us, ea, ha, hl, Ls', s', t'⟩ := s1.app t1 e2 h1 (k1 := k1) (by rw [hk]; exact .refl h2') o1 nd1 nr1
              cases ea
              refine ⟨a, us, v1, rfl, rfl, ha, by rw [hl]; exact hz, ?_⟩
              exact q .non _ Ls' [] (by rw [ru_nil]; exact s') (.zero rq_non) List.nodup_nil (fun a h => nomatch h) t'
            · rw [if_neg hz] at q; exact q.elim
          | _ => exact q.elim
  · exact q.elim
/-- x.pop(), x the name of slot i, its items shared -/
def iPop (i : Nat) : Rho → Ri D := fun ρ => match ρ[i]? with
  | some (some (.lst ds)) => match ds[ds.length - 1]? with
    | some d => .ok d (ρ.set i (some (.lst ds.dropLast)))
    | none => .bad
  | _ => .bad
theorem Rqs.dropLast {K : PySem.W.Frag} {S : Addr → Prop} {H : Hp} {ds : List D} {vs : List V} (h : Rqs K S H 0 ds vs) : Rqs K S H 0 ds.dropLast vs.dropLast := by
  rw [List.dropLast_eq_take, List.dropLast_eq_take, h.length]
  exact h.take _
theorem si_pop (i : Nat) (hk : m.getD i 0 = 1 := by decide) (hN : X.N[i]? = some x := by rfl) (hv : Vis X.env.scope x := by first | exact Or.inl rfl | exact Or.inr (Or.inl rfl) | exact Or.inr (Or.inr rfl))
    (hd : (x == ("__debug__" : Str)) = false := by decide +kernel) (hcd : (x == ("__classdict__" : Str)) = false := by decide +kernel)
    (hbase : attributeBase (.Name x px) "pop" X.env (eval (.Name x px) X.env) = eval (.Name x px) X.env := by rfl) (hline : (apos.endLine == cpos.line) = true := by rfl) :
    SI X m 0 (.Call (.Attribute (.Name x px) "pop" apos) [] [] cpos) (iPop i) := by
  intro R σ H ρ Ls Q W s tk q
  unfold iPop at q
  refine UE.of (pe_bm0 PySem.F.plainAttrs_list PySem.F.slot_list_pop PySem.F.type_list_pop (mt_pop) (pe_var hN hv hd hcd) hbase hline) ?_
  split at q
  · rename_i ds e0
    split at q
    · rename_i d e1
      obtain ⟨v, h1, h2⟩ := s.val i _ e0
      have z := Zoom.refl h2
      rw [hk] at h2
      have h2' := h2
      unfold Ow at h2'
      obtain ⟨a, us, L0, rfl, ha, _, h3⟩ := h2'
      obtain ⟨_, r⟩ := h3.of_zeros
      obtain ⟨w, ew, rw'⟩ := r.get e1
      refine ⟨.ref a, h1, .inl ⟨rfl, us, .of ha⟩, a, us, w, rfl, rfl, ha, by rw [← r.length]; exact ew, ?_⟩
      obtain ⟨Ls', s', t'⟩ := s.write1 (ds' := ds.dropLast) (us := us.dropLast) (Step.refl H) e0 h1 (by rw [hk] at z ⊢; exact z) r.dropLast
      refine q w _ Ls' [] (by rw [ru_nil]; exact s') (.zero ?_) List.nodup_nil (fun a h => nomatch h) t'
      rw [ru_nil]
      exact s.rq0 t' rw'
    · exact q.elim
  · exact q.elim
end
end VL

set_option Elab.async false
set_option linter.all false
set_option maxRecDepth 100000
set_option maxHeartbeats 1000000
namespace VL
open PySem PySem.Spec PyProof.Rows L2
/-! ### more operators: is of bools, sum, all, any, isinstance -/
section
variable {X : Cx} {j : Nat}
def gIs : List D → Option Bool
  | [.bl a, .bl b] => some (decide (a = b))
  | _ => none
def gIsNot : List D → Option Bool
  | [.bl a, .bl b] => some (!decide (a = b))
  | _ => none
theorem o_is : Op X.K [j, 0] 0 (r2 (UR X (compareOp .Is))) (oB gIs) := by
  intro S H ds vs z Q fr r e q
  obtain ⟨d, e', x, y, rfl, rfl, h1, h2⟩ := r.two
  unfold oB gIs at e
  split at e
  · rename_i a b he; cases he; cases e
    rw [h2.bl, h1.bl]
    exact ⟨_, _, rfl, _, op_is_bl, a, b, rfl, rfl, q _ H (Grow.refl H) rq_bl⟩
  · cases e
theorem o_isNot : Op X.K [j, 0] 0 (r2 (UR X (compareOp .IsNot))) (oB gIsNot) := by
  intro S H ds vs z Q fr r e q
  obtain ⟨d, e', x, y, rfl, rfl, h1, h2⟩ := r.two
  unfold oB gIsNot at e
  split at e
  · rename_i a b he; cases he; cases e
    rw [h2.bl, h1.bl]
    exact ⟨_, _, rfl, _, op_isnot_bl, a, b, rfl, rfl, q _ H (Grow.refl H) rq_bl⟩
  · cases e
def asInts : List D → Option (List Int)
  | [] => some []
  | .int i :: ds => (asInts ds).map (i :: ·)
  | _ => none
def asBls : List D → Option (List Bool)
  | [] => some []
  | .bl i :: ds => (asBls ds).map (i :: ·)
  | _ => none
theorem asInts_map : ∀ {ns : List Int}, asInts (ns.map D.int) = some ns
  | [] => rfl
  | n :: ns => by rw [List.map_cons]; unfold asInts; rw [asInts_map]; rfl
theorem asBls_map : ∀ {ns : List Bool}, asBls (ns.map D.bl) = some ns
  | [] => rfl
  | n :: ns => by rw [List.map_cons]; unfold asBls; rw [asBls_map]; rfl
theorem asInts_eq : ∀ {ds : List D} {ns : List Int}, asInts ds = some ns → ds = ns.map D.int
  | [], ns, h => by unfold asInts at h; cases h; rfl
  | d :: ds, ns, h => by
    cases d with
    | int i =>
      unfold asInts at h
      obtain ⟨r, h1, h2⟩ := Option.map_eq_some_iff.mp h
      rw [asInts_eq h1, ← h2]; rfl
    | _ => simp [asInts] at h
theorem asBls_eq : ∀ {ds : List D} {ns : List Bool}, asBls ds = some ns → ds = ns.map D.bl
  | [], ns, h => by unfold asBls at h; cases h; rfl
  | d :: ds, ns, h => by
    cases d with
    | bl i =>
      unfold asBls at h
      obtain ⟨r, h1, h2⟩ := Option.map_eq_some_iff.mp h
      rw [asBls_eq h1, ← h2]; rfl
    | _ => simp [asBls] at h
theorem rqs_ints {K : PySem.W.Frag} {S : Addr → Prop} {H : Hp} : ∀ {ns : List Int} {vs : List V}, Rqs K S H j (ns.map D.int) vs → vs = ns.map V.int
  | [], vs, h => h.inv0
  | n :: ns, vs, h => by
    obtain ⟨v, r, rfl, h1, h2⟩ := h.inv
    rw [h1.int, rqs_ints h2]; rfl
theorem rqs_bls {K : PySem.W.Frag} {S : Addr → Prop} {H : Hp} : ∀ {ns : List Bool} {vs : List V}, Rqs K S H j (ns.map D.bl) vs → vs = ns.map V.bl
  | [], vs, h => h.inv0
  | n :: ns, vs, h => by
    obtain ⟨v, r, rfl, h1, h2⟩ := h.inv
    rw [h1.bl, rqs_bls h2]; rfl
def gSum : List D → Option D
  | [.lst ds] => (asInts ds).map fun ns => .int ns.sum
  | [.tup ds] => (asInts ds).map fun ns => .int ns.sum
  | _ => none
def rSumT (K : PySem.W.Frag) : List V → Hp → VK → Prop := fun vs H Q => ∃ (a : Addr) (ns : List Int), vs = [V.ref a] ∧ SqT K H a (ns.map V.int) ∧ Q (.int ns.sum) H
theorem cr_sumT (hc : X.calm = true) : CallR X (.builtin "sum") (rSumT X.K) := by
  intro pins s σ H vs us Q I r h
  obtain ⟨a, ns, rfl, hs, q⟩ := h
  obtain ⟨its, rv, ht, hz⟩ := I.tuple hs
  rw [Vals.ref1 r]
  have hi := rv.ints
  obtain ⟨xs, hx⟩ := hi.allInts.items
  have hn : numsOf (intItems xs).toList = ns := by rw [← hx]; exact hi.numsOf
  rw [nums_intItems] at hn
  rw [hx] at ht
  refine PySem.W.ktm_sumG (I.ok.hd hc) ht fun h' tk t' hk => ⟨.int _, H, I.kept hk, ⟨_, rfl⟩, ?_⟩
  rw [preSum_eq, List.take_of_length_le (by simp), hn]
  exact q
theorem o_sum (hc : X.calm = true) : Op X.K [1] 0 (UC X (.builtin "sum")) gSum := by
  intro S H ds vs z Q fr r e q
  obtain ⟨d, x, rfl, rfl, h1⟩ := r.one
  unfold gSum at e
  split at e
  · rename_i ds he; cases he
    obtain ⟨ns, e1, rfl⟩ := Option.map_eq_some_iff.mp e
    obtain ⟨a, vs, rfl, h2, _, h3⟩ := h1.lst
    rw [asInts_eq e1] at h3
    rw [rqs_ints h3] at h2
    exact ⟨_, cr_sum hc, a, ns, rfl, .of h2, q _ H (Grow.refl H) rq_int⟩
  · rename_i ds he; cases he
    obtain ⟨ns, e1, rfl⟩ := Option.map_eq_some_iff.mp e
    obtain ⟨a, vs, rfl, h2, h3⟩ := h1.tup
    rw [asInts_eq e1] at h3
    rw [rqs_ints h3] at h2
    exact ⟨_, cr_sumT hc, a, ns, rfl, .of h2, q _ H (Grow.refl H) rq_int⟩
  · cases e
def gAll : List D → Option Bool
  | [.lst ds] => (asBls ds).map fun ns => ns.all id
  | _ => none
def gAny : List D → Option Bool
  | [.lst ds] => (asBls ds).map fun ns => ns.any id
  | _ => none
theorem o_all (hc : X.calm = true) : Op X.K [1] 0 (UC X (.builtin "all")) (oB gAll) := by
  intro S H ds vs z Q fr r e q
  obtain ⟨d, x, rfl, rfl, h1⟩ := r.one
  unfold oB gAll at e
  obtain ⟨b, e0, rfl⟩ := Option.map_eq_some_iff.mp e
  split at e0
  · rename_i ds he; cases he
    obtain ⟨ns, e1, rfl⟩ := Option.map_eq_some_iff.mp e0
    obtain ⟨a, vs, rfl, h2, _, h3⟩ := h1.lst
    rw [asBls_eq e1] at h3
    rw [rqs_bls h3] at h2
    exact ⟨_, cr_all hc, a, ns, rfl, .of h2, q _ H (Grow.refl H) rq_bl⟩
  · cases e0
theorem o_any (hc : X.calm = true) : Op X.K [1] 0 (UC X (.builtin "any")) (oB gAny) := by
  intro S H ds vs z Q fr r e q
  obtain ⟨d, x, rfl, rfl, h1⟩ := r.one
  unfold oB gAny at e
  obtain ⟨b, e0, rfl⟩ := Option.map_eq_some_iff.mp e
  split at e0
  · rename_i ds he; cases he
    obtain ⟨ns, e1, rfl⟩ := Option.map_eq_some_iff.mp e0
    obtain ⟨a, vs, rfl, h2, _, h3⟩ := h1.lst
    rw [asBls_eq e1] at h3
    rw [rqs_bls h3] at h2
    exact ⟨_, cr_any hc, a, ns, rfl, .of h2, q _ H (Grow.refl H) rq_bl⟩
  · cases e0
/-- the built-in type of data -/
def tyD : D → Option String
  | .non => some "NoneType"
  | .bl _ => some "bool"
  | .int _ => some "int"
  | .str _ => some "str"
  | .tup _ => some "tuple"
  | .lst _ => some "list"
  | .dk _ _ => some "dict"
  | .dt _ _ => some "dict"
  | _ => none
theorem tyD_of {K : PySem.W.Frag} {S : Addr → Prop} {H : Hp} {d : D} {v : V} {T : String} (r : Rq K S H j d v) (h : tyD d = some T) : TyX K H v (.type T) := by
  cases d with
  | non => cases h; rw [r.non]; exact .base .non
  | bl b => cases h; rw [r.bl]; exact .base (.bl b)
  | int b => cases h; rw [r.int]; exact .base (.int b)
  | str b => cases h; rw [r.str]; exact .base (.str b)
  | tup ds => cases h; obtain ⟨a, vs, rfl, h2, _⟩ := r.tup; exact .base (.tup h2)
  | lst ds => cases h; obtain ⟨a, vs, rfl, h2, _⟩ := r.lst; exact .base (.lst h2)
  | dk ks ds => cases h; obtain ⟨a, vs, rfl, h2, _⟩ := r.dk; exact .base (.dK h2)
  | dt ks ds => cases h; obtain ⟨a, vs, rfl, h2, _⟩ := r.dt; exact .base (.dT h2)
  | _ => cases h
/-- isinstance(x, T), T a built-in type -/
def gIsi (T : String) : List D → Option Bool
  | [d] => (tyD d).bind fun t => kitB t T
  | _ => none
/-- the class is read, no operand -/
def EvIsi (X : Cx) (T : String) (r : List V → Hp → VK → Prop) : Prop := ∀ v H Q, (∃ t b, TyX X.K H v (.type t) ∧ kitB t T = some b ∧ Q (.bl b) H) → r [v] H Q
def rIsiB (K : PySem.W.Frag) (T : String) : List V → Hp → VK → Prop := fun vs H Q => ∃ v t b, vs = [v] ∧ TyX K H v (.type t) ∧ kitB t T = some b ∧ Q (.bl b) H
theorem o_isi {T : String} : Op X.K [j] 0 (rIsiB X.K T) (oB (gIsi T)) := by
  intro S H ds vs z Q fr r e q
  obtain ⟨d, x, rfl, rfl, h1⟩ := r.one
  unfold oB gIsi at e
  obtain ⟨b, e0, rfl⟩ := Option.map_eq_some_iff.mp e
  obtain ⟨t, e1, e2⟩ := Option.bind_eq_some_iff.mp e0
  exact ⟨x, t, b, rfl, tyD_of h1 e1, e2, q _ H (Grow.refl H) rq_bl⟩
theorem pe_tyB {T : Str} {Ts : String} {p : Pos} (hg : Gl X T) (hm : X.mg T = none) (hv : bootBuiltins T = some (.type Ts)) (hn : T ≠ "__name__") (hd : (T == ("__debug__" : Str)) = false) : PE X (.Name T p) (tC (.ty Ts)) :=
  ⟨fun pins s σ H Q I h => ld_blt I hg hm hv ⟨.ty Ts, H, I, rfl, h⟩ hn hd⟩
theorem ev_isi {e : Expr} {T : Str} {Ts : String} {p p2 pos : Pos} (hg : Gl X "isinstance") (hm : X.mg "isinstance" = none) (hgT : Gl X T) (hmT : X.mg T = none) (hT : bootBuiltins T = some (.type Ts)) (hs : NoStar X [e, .Name T p2]) (hn : T ≠ "__name__" := by decide +kernel) (hdT : (T == ("__debug__" : Str)) = false := by decide +kernel)
    (hpl : (backTo pos (starEach [.Name T p2] X.env)).any (·.1) = false := by rfl) : EvN X (.Call (.Name "isinstance" p) [e, .Name T p2] [] pos) [e] (rIsiB X.K Ts) := by
  intro σ H Q h
  refine UE.of (pe_callB call_isi hg hm (by rfl) (pa_cons peU (pa_cons (pe_tyB hgT hmT hT hn hdT) pa_nil hs.2.1) hs.1) (by decide +kernel) (by decide +kernel) hs.1 hpl) ?_
  refine UE.mono (un1 h) fun v H1 q => ?_
  obtain ⟨v', t, b, e0, ty, hk, q⟩ := q
  cases e0
  exact ⟨v, .ty Ts, .type t, .type Ts, b, rfl, .ty Ts, ty, kit_ty hk, q⟩
end
end VL

set_option Elab.async false
set_option linter.all false
set_option maxRecDepth 100000
set_option maxHeartbeats 1000000
namespace VL
open PySem PySem.Spec PyProof.Rows L2
/-! ### what is not reached -/
section
variable {X : Cx} {F : Fx} {m m' : List Nat} {st : Stmt} {rest : List Stmt} {e : Expr} {pos : Pos} {k j : Nat}
theorem ss_bad : SS X F m m' st (fun _ => .bad) := fun R vs σ H ρ Ls E W fx s tk q => q.elim
theorem sss_bad : SSs X F m m' rest (fun _ => .bad) := fun R vs σ H ρ Ls E W fx s tk q => q.elim
theorem si_bad : SI X m k e (fun _ => .bad) := fun R σ H ρ Ls Q W s tk q => q.elim
theorem sp_bad : SP X m j e (fun _ => .bad) := fun R σ H ρ Ls Q W s tk q => q.elim
end
/-! ### a, b = x, y -/
section
variable {K : PySem.W.Frag} {R : Addr → Prop} {H H1 H2 : Hp} {σ : Sg} {ρ : Rho} {m : List Nat} {Ls Ls1 Ls2 : Nat → List Addr} {Lt Lt1 Lt2 : List Addr}
theorem SR.drop (s : SR K (RU R Lt) H σ ρ m Ls) : SR K R H σ ρ m Ls := by
  refine ⟨s.len, s.mlen, fun i d e => ?_, s.emp, s.nd, s.dj, fun i a h r => s.sep i a h (.inl r), fun a r => s.dom a (.inl r)⟩
  obtain ⟨v, h1, h2⟩ := s.val i d e
  exact ⟨v, h1, h2.grow (Grow.refl H) fun a z _ => ⟨fun r => z.1 (.inl r), z.2⟩⟩
theorem Step.two (s : SR K (RU R Lt1) H1 σ ρ m Ls1) (t1 : Step Ls Ls1 Lt1 H H1) (t2 : Step Ls1 Ls2 Lt2 H1 H2) : Step Ls Ls2 (Lt1 ++ Lt2) H H2 where
  keep := fun a o e n => t2.keep a o (t1.keep a o e n) fun i hi => by
    rcases t1.new a (.inl ⟨i, hi⟩) with ⟨j, z⟩ | z
    · exact n j z
    · rw [z] at e; cases e
  dom := fun a n => t2.dom a (t1.dom a n)
  new := fun a h => by
    have old : (∃ i, a ∈ Ls2 i) ∨ a ∈ Lt2 → (∃ i, a ∈ Ls i) ∨ H a = none := fun h => by
      rcases t2.new a h with h | h
      · exact t1.new a (.inl h)
      · refine .inr ?_
        cases q : H a with
        | none => rfl
        | some o => exact absurd h (t1.dom a (by rw [q]; simp))
    rcases h with h | h
    · exact old (.inl h)
    · rcases List.mem_append.mp h with h | h
      · exact t1.new a (.inr h)
      · exact old (.inr h)
/-- what is held aside stays through a step -/
theorem SR.heldO {k1 : Nat} {d1 : D} {v1 : V} {Ls3 : Nat → List Addr} (s : SR K (RU R Lt1) H1 σ ρ m Ls1) (t2 : Step Ls1 Ls2 Lt2 H1 H2) (sub : ∀ a, (∃ i, a ∈ Ls3 i) → (∃ i, a ∈ Ls2 i) ∨ a ∈ Lt2) (o : Ow K (Sh (RU R Lt1) Ls1) H1 k1 d1 v1 Lt1) : Ow K (Sh (RU R Lt1) Ls3) H2 k1 d1 v1 Lt1 := by
  refine Ow.stay (fun a z n => ?_) (fun a o e z => ?_) o
  · have q := s.sh t2 z n
    refine ⟨fun r => q.1 (.inl r), fun i hi => ?_⟩
    rcases sub a ⟨i, hi⟩ with ⟨j, y⟩ | y
    · exact q.2 j y
    · exact q.1 (.inr y)
  · rcases z with z | z | z
    · exact s.kept t2 e (.inl z)
    · exact t2.keep a o e fun i hi => s.sep i a hi (.inr z)
    · exact s.kept t2 e (.inr z)
end
section
variable {X : Cx} {F : Fx} {m m' : List Nat} {a b e o ix tg : Expr} {es : List Expr} {pos p pos' px py pt pt2 : Pos} {x y : Str} {kt k2' : Nat}
def oPar (i j : Nat) (f g : Rho → Ri D) : Rho → Out := fun ρ => match f ρ with
  | .ok d1 ρ1 => match g ρ1 with
    | .ok d2 ρ2 => if i < ρ2.length ∧ j < ρ2.length then .nx ((ρ2.set j (some d2)).set i (some d1)) else .bad
    | .err x ρ2 => .err x ρ2
    | .bad => .bad
  | .err x ρ1 => .err x ρ1
  | .bad => .bad
theorem put_in {Ls : Nat → List Addr} {i : Nat} {L : List Addr} {a : Addr} (h : ∃ j, a ∈ put Ls i L j) : (∃ j, a ∈ Ls j) ∨ a ∈ L := by
  obtain ⟨j, hj⟩ := h
  by_cases q : j = i
  · subst q; rw [put_same] at hj; exact .inr hj
  · rw [put_ne q] at hj; exact .inl ⟨j, hj⟩
theorem ss_par {i j k1 k2 : Nat} {f g : Rho → Ri D} (hc : X.calm = true) (hN : X.N.Nodup) (h1 : SI X m k1 a f) (h2 : SI X m k2 b g) (hi : X.N[i]? = some x := by rfl) (hj : X.N[j]? = some y := by rfl) (hij : i ≠ j := by decide)
    (hx : X.env.scope.names.lookup x = some .local := by rfl) (hy : X.env.scope.names.lookup y = some .local := by rfl) (hns : NoStar X [a, b] := by exact ⟨rfl, rfl, trivial⟩)
    (hw : swappedStores [.Tuple [.Name x px, .Name y py] kt pt] (.Tuple [a, b] k2' pt2) X.env = pure (some [x, y]) := by rfl)
    (hs : swapsWithSole [.Tuple [.Name x px, .Name y py] kt pt] (.Tuple [a, b] k2' pt2) pos.line X.env = pure false := by rfl)
    (hio : F.io.getD i 0 = 0 := by decide) (hio2 : F.io.getD j 0 = 0 := by decide) (w : mwB m F.me = true := by decide) :
    SS X F m ((m.set j k2).set i k1) (.Assign [.Tuple [.Name x px, .Name y py] kt pt] (.Tuple [a, b] k2' pt2) pos) (oPar i j f g) := by
  intro R vs σ H ρ Ls E W fx s tk q
  unfold oPar at q
  refine US.of (ps_par hc hN hi hj hij hx hy (paN hns) hw hs) ?_
  refine h1 R σ H ρ Ls _ W s tk ?_
  cases e1 : f ρ with
  | bad => rw [e1] at q; exact q
  | err x ρ' => rw [e1] at q; exact fun cls dd H' Ls' s' t z => q cls dd σ H' _ fx (s'.weak (mw_of w)) t.weak z
  | ok d1 ρ1 =>
    rw [e1] at q
    dsimp only at q
    intro v1 H1 Ls1 Lt1 s1 o1 nd1 nr1 t1
    refine h2 (RU R Lt1) σ H1 ρ1 Ls1 _ W s1 tk ?_
    cases e2 : g ρ1 with
    | bad => rw [e2] at q; exact q
    | err x ρ' =>
      rw [e2] at q
      exact fun cls dd H' Ls' s' t z => q cls dd σ H' _ fx (s'.drop.weak (mw_of w)) ((Step.two s1 t1 t).sub fun c hc => hc.imp id fun z => nomatch z).weak z
    | ok d2 ρ2 =>
      rw [e2] at q
      dsimp only at q
      intro v2 H2 Ls2 Lt2 s2 o2 nd2 nr2 t2
      refine ⟨v1, v2, rfl, ?_⟩
      by_cases hl : i < ρ2.length ∧ j < ρ2.length
      · rw [if_pos hl] at q
        have s3 := s2.set (i := j) o2 nd2 nr2 hl.2
        have o1' := s1.heldO (Ls3 := put Ls2 j Lt2) t2 (fun a h => put_in h) o1
        have s4 := s3.set (i := i) o1' nd1 nr1 (by simpa using hl.1)
        have ec : (σ.set i (some v1)).set j (some v2) = (σ.set j (some v2)).set i (some v1) := List.set_comm _ _ hij
        rw [ec]
        refine q _ H2 _ ((fx.set hio2).set hio) s4 ((Step.two s1 t1 t2).sub fun c hc => ?_)
        rcases hc with hc | hc
        · rcases put_in hc with hc | hc
          · rcases put_in hc with hc | hc
            · exact .inl hc
            · exact .inr (List.mem_append_right _ hc)
          · exact .inr (List.mem_append_left _ hc)
        · cases hc
      · rw [if_neg hl] at q; exact q.elim
/-! ### targets that may change objects -/
def SGm (X : Cx) (m : List Nat) (ts : List Nat) (tg : Expr) (f : D → Rho → Option Rho) : Prop :=
  ∀ (R : Addr → Prop) (σ : Sg) (H : Hp) (ρ : Rho) (Ls : Nat → List Addr) (d : D) (v : V) (ρ' : Rho) (Q : Sg → Hp → Prop) (W : WX), SR X.K R H σ ρ m Ls → Takes X W → Rq X.K (Sh R Ls) H 0 d v → f d ρ = some ρ' →
    (∀ σ' H' Ls', SR X.K R H' σ' ρ' m Ls' → Step Ls Ls' [] H H' → σ'.length = σ.length → (∀ j, j ∉ ts → σ'[j]? = σ[j]?) → Q σ' H') → UG X tg v σ H Q
theorem sgm_of {ts : List Nat} {f : D → Rho → Option Rho} (h : SG X m ts tg f) : SGm X m ts tg f := fun R σ H ρ Ls d v ρ' Q W s tk r e q =>
  h R σ H ρ Ls d v ρ' Q s r e fun σ' s' l k => q σ' H Ls s' (Step.refl H) l k
theorem sgm_two {a b : Expr} {k : Nat} {f g : D → Rho → Option Rho} {ts us : List Nat} (hc : X.calm = true) (h : SGm X m ts a f) (h' : SGm X m us b g)
    (hs : (assignEach [a, b] X.env).map (·.2) = assign a X.env :: (assignEach [b] X.env).map (·.2) := by rfl) (hs1 : (assignEach [b] X.env).map (·.2) = assign b X.env :: (assignEach [] X.env).map (·.2) := by rfl)
    (hn : (assignEach [a, b] X.env).length = 2 := by rfl) (hst : (assignEach [a, b] X.env).findIdx? (·.1) = none := by rfl) : SGm X m (ts ++ us) (.Tuple [a, b] k pos) (gT2 f g) := by
  intro R σ H ρ Ls d v ρ' Q W s tk r e q
  unfold gT2 at e
  split at e
  · rename_i x y
    obtain ⟨t, vs, rfl, ht, hr⟩ := r.tup
    obtain ⟨v1, r', rfl, h1, hr'⟩ := hr.inv
    obtain ⟨v2, r'', rfl, h2, hr''⟩ := hr'.inv
    cases hr''.inv0
    cases e1 : f x ρ with
    | none => rw [e1] at e; cases e
    | some ρ1 =>
      rw [e1] at e
      have e2 : g y ρ1 = some ρ' := e
      refine UG.of (pg_tup (n := 2) hc (pgs_cons pgU (pgs_cons pgU pgs_nil hs1) hs) hn hst) ⟨t, [v1, v2], rfl, .of ht, rfl, v1, [v2], rfl, ?_⟩
      refine h R σ H ρ Ls x v1 ρ1 _ W s tk h1 e1 fun σ1 H1 Ls1 s1 t1 l1 k1 => ⟨v2, [], rfl, ?_⟩
      refine h' R σ1 H1 ρ1 Ls1 y v2 ρ' _ W s1 tk (s.rq0 t1 h2) e2 fun σ2 H2 Ls2 s2 t2 l2 k2 => ⟨rfl, q σ2 H2 Ls2 s2 (t1.trans t2) (l2.trans l1) fun j hj => ?_⟩
      rw [List.mem_append, not_or] at hj
      exact (k2 j hj.2).trans (k1 j hj.1)
  · cases e
/-- o[ix] = shared data -/
def gSubP (i : Nat) (pl : Rho → Rs (D × (D → D))) (g : Rho → Rs D) : D → Rho → Option Rho := fun d ρ => match plIx pl g ρ with
  | .ok dc => some (ρ.set i (some (dc.2 d)))
  | _ => none
theorem sgm_sub {i : Nat} {pl : Rho → Rs (D × (D → D))} {g : Rho → Rs D} (hp : SPl X m i 1 o pl) (hg : SP X m 0 ix g)
    (ha : ∀ v, assign (.Subscript o ix pos') X.env v = (do
      let ov ← holding [v] (eval o X.env)
      let iv ← holding [v, ov] (eval ix X.env)
      standAt pos'
      holding [v, ov, iv] (setItem ov iv v)
      release [v, ov, iv] []) := by intro _; rfl) : SGm X m [] (.Subscript o ix pos') (gSubP i pl g) := by
  intro R σ H ρ Ls d v ρ' Q W s tk r e q
  unfold gSubP plIx at e
  refine UG.of (pg_sub peU peU set_list ha) ?_
  refine hp R σ H ρ Ls _ W s tk ?_
  cases e2 : pl ρ with
  | bad => rw [e2] at e; cases e
  | err x => rw [e2] at e; cases e
  | ok dc =>
    rw [e2, ok_bind] at e
    rintro v1 H2 g2 ⟨d0, v0, L1, hρ, hv, z⟩
    refine hg R σ H2 ρ Ls _ W (s.grow g2) tk ?_
    cases e3 : g ρ with
    | bad => rw [e3] at e; cases e
    | err x => rw [e3] at e; cases e
    | ok j =>
      rw [e3, ok_bind] at e
      intro vj H3 g3 rj
      have g13 := g2.trans g3
      have s3 := s.grow g13
      have z3 := z.grow g3
      obtain ⟨d1, C⟩ := dc
      dsimp only at e z3
      cases d1 with
      | lst ds =>
        cases j with
        | int n =>
          dsimp only at e
          cases e4 : ixN ds.length n with
          | none => rw [e4] at e; cases e
          | some j =>
            rw [e4] at e
            dsimp only at e
            cases e5 : ds[j]? with
            | none => rw [e5] at e; cases e
            | some d2 =>
              rw [e5] at e
              cases e
              have z4 := z3
              obtain ⟨A, B, eL, h2, _⟩ := z4
              unfold Ow at h2
              obtain ⟨a, us, Lin, rfl, ha, rfl, h3⟩ := h2
              have hl := h3.len
              obtain ⟨_, h4⟩ := h3.of_zeros
              refine ⟨a, us, n, j, rfl, rj.int, ha, by rw [← hl]; exact e4, ?_⟩
              obtain ⟨Ls4, s4, t4⟩ := s3.write1 (Step.grow g13) hρ hv z3 (h4.set (r.grow g13 fun _ z _ => z))
              exact q σ _ Ls4 s4 t4 rfl fun j _ => rfl
        | _ => cases e
      | _ => cases j <;> cases e
def oAsg (f : Rho → Ri D) (g : D → Rho → Option Rho) : Rho → Out := fun ρ => match f ρ with
  | .ok d ρ1 => match g d ρ1 with
    | some ρ2 => .nx ρ2
    | none => .bad
  | .err x ρ1 => .err x ρ1
  | .bad => .bad
theorem ss_asg {ts : List Nat} {f : Rho → Ri D} {g : D → Rho → Option Rho} (h : SI X m 0 e f) (hg : SGm X m ts tg g) (hts : ts.all (fun i => F.io.getD i 0 == 0) = true := by decide) (w : mwB m F.me = true := by decide)
    (hs : swapsWithSole [tg] e pos.line X.env = pure false := by rfl) (hw : swappedStores [tg] e X.env = pure none := by rfl)
    (h1 : (assignEach [tg] X.env).map (·.2) = [assign tg X.env] := by rfl) : SS X F m m (.Assign [tg] e pos) (oAsg f g) := by
  intro R vs σ H ρ Ls E W fx s tk q
  unfold oAsg at q
  refine US.of (ps_asg peU pgU hs hw h1) (h R σ H ρ Ls _ W s tk ?_)
  cases e1 : f ρ with
  | bad => rw [e1] at q; exact q
  | err x ρ' => rw [e1] at q; exact fun cls dd H' Ls' s' t z => q cls dd σ H' _ fx (s'.weak (mw_of w)) t.weak z
  | ok d ρ1 =>
    rw [e1] at q
    dsimp only at q
    intro v H1 Ls1 Lt s1 o1 nd1 nr1 t1
    obtain ⟨rfl, r⟩ := o1.of_zero
    rw [ru_nil] at s1 r
    cases e2 : g d ρ1 with
    | none => rw [e2] at q; exact q.elim
    | some ρ2 =>
      rw [e2] at q
      refine hg R σ H1 ρ1 Ls1 d v ρ2 _ W s1 tk r e2 fun σ2 H2 Ls2 s2 t2 l2 k2 => q σ2 H2 Ls2 (fun i hi => ?_) s2 (t1.trans t2)
      obtain ⟨v, e3, e4⟩ := fx i hi
      refine ⟨v, e3, ?_⟩
      rw [k2 i fun hm => ?_]
      · exact e4
      · rw [List.all_eq_true] at hts
        have := hts i hm
        rw [beq_iff_eq] at this
        omega
end
end VL

set_option Elab.async false
set_option linter.all false
set_option maxRecDepth 100000
set_option maxHeartbeats 1000000
namespace VL
open PySem PySem.Spec PyProof.Rows L2
/-! ### comprehensions whose parts change the slots' data -/
section
variable {K : PySem.W.Frag} {R : Addr → Prop} {H H1 H2 : Hp} {σ : Sg} {ρ : Rho} {m : List Nat} {Ls Ls1 Ls2 : Nat → List Addr} {L Lt : List Addr}
theorem ru_app {L1 L2 : List Addr} : RU (RU R L1) L2 = RU R (L1 ++ L2) := by
  funext a
  simp [RU, or_assoc]
/-- what is held aside is written -/
theorem SR.updA {A : Addr} {xs : List V} {o' : HO} (s : SR K R H σ ρ m Ls) (hA : R A) (e : H A = some (.lst xs)) : SR K R (upd H A o') σ ρ m Ls := by
  refine ⟨s.len, s.mlen, fun i d e' => ?_, s.emp, s.nd, s.dj, s.sep, fun a r => ?_⟩
  · obtain ⟨v, h1, h2⟩ := s.val i d e'
    refine ⟨v, h1, Ow.stay (fun a z _ => z) (fun b o eb z => ?_) h2⟩
    have nb : b ≠ A := fun q => by
      subst q
      rw [e] at eb; cases eb
      rcases z with z | z | ⟨_, z⟩ | ⟨_, _, z⟩
      · exact z.1 hA
      · exact s.sep i b z hA
      · cases z
      · cases z
    rw [upd_ne nb]; exact eb
  · by_cases q : a = A
    · rw [q, upd_same]; simp
    · rw [upd_ne q]; exact s.dom a r
end
def restR (ρ ρn : Rho) : List Nat → Rho
  | [] => ρn
  | v :: vs => (restR ρ ρn vs).set v (ρ[v]?.getD none)
theorem restR_len {ρ ρn : Rho} : ∀ {vs : List Nat}, (restR ρ ρn vs).length = ρn.length
  | [] => rfl
  | v :: vs => by unfold restR; rw [List.length_set]; exact restR_len
theorem restR_get {ρ ρn : Rho} (hl : ρ.length = ρn.length) : ∀ {vs : List Nat} {j : Nat}, (restR ρ ρn vs)[j]? = if j ∈ vs then ρ[j]? else ρn[j]?
  | [], j => by simp [restR]
  | v :: vs, j => by
    unfold restR
    by_cases q : v = j
    · subst q
      by_cases l : v < ρ.length
      · rw [List.getElem?_set_self (by rw [restR_len, ← hl]; exact l)]
        simp [List.getElem?_eq_getElem l]
      · rw [List.getElem?_eq_none (by rw [List.length_set, restR_len, ← hl]; omega)]
        simp [List.getElem?_eq_none (show ρ.length ≤ v by omega)]
    · rw [List.getElem?_set_ne q, restR_get hl]
      have : j ∈ v :: vs ↔ j ∈ vs := by simp [Ne.symm q]
      simp only [this]
theorem wipeR_len {ρ : Rho} : ∀ {vs : List Nat}, (wipeR ρ vs).length = ρ.length
  | [] => rfl
  | v :: vs => by unfold wipeR; rw [List.length_set]; exact wipeR_len
/-- back in the frame: the block's own slots as they were -/
theorem SR.rest {K : PySem.W.Frag} {R : Addr → Prop} {H H' : Hp} {σ : Sg} {ρ ρn : Rho} {m : List Nat} {Ls Ls' : Nat → List Addr} {vs : List Nat} {Lt : List Addr} (s : SR K R H σ ρ m Ls) (s' : SR K (RU R Lt) H' (L2.wipe σ vs) ρn m Ls') (t : Step Ls Ls' Lt H H') (h0 : ∀ i ∈ vs, m.getD i 0 = 0) :
    SR K (RU R Lt) H' σ (restR ρ ρn vs) m Ls' := by
  have hl : ρ.length = ρn.length := by rw [s.len, s'.len, wipe_length]
  refine ⟨by rw [restR_len, s'.len, wipe_length], by rw [restR_len]; exact s'.mlen, fun i d e => ?_, fun i e => ?_, s'.nd, s'.dj, s'.sep, s'.dom⟩
  · rw [restR_get hl] at e
    by_cases q : i ∈ vs
    · rw [if_pos q] at e
      obtain ⟨v, h1, h2⟩ := s.val i d e
      rw [h0 i q] at h2 ⊢
      rw [s'.nil0 (h0 i q)]
      exact ⟨v, h1, .zero (s.rq t h2.of_zero.2)⟩
    · rw [if_neg q] at e
      obtain ⟨v, h1, h2⟩ := s'.val i d e
      rw [wipe_get, if_neg q] at h1
      exact ⟨v, h1, h2⟩
  · by_cases q : i ∈ vs
    · exact s'.nil0 (h0 i q)
    · refine s'.emp i fun d z => e d ?_
      rw [restR_get hl, if_neg q]; exact z
section
variable {X : Cx} {m : List Nat} {tg : Expr} {pos : Pos}
def lcGoI (vs : List Nat) (tg : D → Rho → Option Rho) (ft : Rho → Rs Bool) (fe : Rho → Ri D) : List D → Rho → Option (List D × Rho)
  | [], ρ => some ([], ρ)
  | d :: ds, ρ => match tg d ρ with
    | none => none
    | some ρ1 => match ft ρ1 with
      | .ok true => match fe ρ1 with
        | .ok y ρ2 => match lcGoI vs tg ft fe ds (wipeR ρ2 vs) with
          | some (r, ρ3) => some (y :: r, ρ3)
          | none => none
        | _ => none
      | .ok false => lcGoI vs tg ft fe ds (wipeR ρ1 vs)
      | _ => none
def iLc (vs : List Nat) (fi : Rho → Rs (List D)) (tg : D → Rho → Option Rho) (ft : Rho → Rs Bool) (fe : Rho → Ri D) : Rho → Ri D := fun ρ => match fi ρ with
  | .ok ds => if ds.length ≤ sizeLine then match lcGoI vs tg ft fe ds (wipeR ρ vs) with
    | some (r, ρn) => .ok (.lst r) (restR ρ ρn vs)
    | none => .bad
    else .bad
  | .err x => .err x ρ
  | .bad => .bad
theorem lc_readI {k : Nat} {elt iter : Expr} {ifs : List Expr} {scope : Scope} {own : List (Str × Nat)} {ts : List Nat} {fi : Rho → Rs (List D)} {tgf : D → Rho → Option Rho} {ft : Rho → Rs Bool} {fe : Rho → Ri D}
    (hi : SIt true X m tg iter fi) (hm0 : ∀ i ∈ own.map (·.2), m.getD i 0 = 0) (hts : ∀ j ∈ ts, j ∈ own.map (·.2))
    (hg : ∀ (s : Shared) (H : Hp) (C : Addr) (cl : List (Str × Addr)) (fp : List Addr), SG (X.blk s H scope (compEnvC scope cl C X.env) fp) m ts tg tgf)
    (ht : ∀ (s : Shared) (H : Hp) (C : Addr) (cl : List (Str × Addr)) (fp : List Addr), STs (X.blk s H scope (compEnvC scope cl C X.env) fp) m ifs ft)
    (he : ∀ (s : Shared) (H : Hp) (C : Addr) (cl : List (Str × Addr)) (fp : List Addr), SI (X.blk s H scope (compEnvC scope cl C X.env) fp) m k elt fe) :
    SIr X (tLc (UI X tg iter) (BG X scope tg) (BT X scope ifs) (BE X scope elt) (own.map (·.2))) m (k + 1) (iLc (own.map (·.2)) fi tgf ft fe) := by
  intro R σ H ρ Ls Q W s tk q
  unfold iLc at q
  refine hi R σ H ρ Ls _ W s tk ?_
  cases e1 : fi ρ with
  | bad => rw [e1] at q; exact q
  | err x => rw [e1] at q; exact fun cls dd H' g z => q cls dd H' Ls (s.grow g) (Step.grow g) z
  | ok ds =>
    rw [e1] at q
    dsimp only at q
    intro J H1 G g1 sr st gS A hA
    by_cases hz : ds.length ≤ sizeLine
    · rw [if_pos hz] at q
      cases e2 : lcGoI (own.map (·.2)) tgf ft fe ds (wipeR ρ (own.map (·.2))) with
      | none => rw [e2] at q; exact q.elim
      | some fin =>
        rw [e2] at q
        obtain ⟨fin, ρn⟩ := fin
        dsimp only at q
        have sH1 := s.grow g1
        have s0 : SR X.K R H1 (wipe σ (own.map (·.2))) (wipeR ρ (own.map (·.2))) m Ls := sH1.wipe hm0
        refine lc_it (g := BG X scope tg) (tt := BT X scope ifs) (te := BE X scope elt) (vs := own.map (·.2)) (σ := σ) (H1 := H1) (D := A) (Qd := fun H' => Q (.ref A) H') (n := ds.length) (G := fun H' => ∃ S, (∀ p, H' p = none → S p) ∧ G S H') (Y := fun i Ha v Hb => Grow Ha Hb ∧ ∀ S, (∀ p, Ha p = none → S p) → G S Ha → ∃ d, ds[i]? = some d ∧ Rq X.K S Hb 0 d v)
          ⟨fun i Ha hi ⟨S, _, gg⟩ => sr.go S Ha i hi gg, fun Ha ⟨S, _, gg⟩ => sr.stop S Ha gg, fun i Ha v Hb hi ⟨S, fr, gg⟩ y => ⟨(sr.yld S Ha i v Hb fr hi gg y).1, fun S' fr' gg' => (sr.yld S' Ha i v Hb fr' hi gg' y).2⟩⟩
          (fun i H' => ∃ acc L done rest ρi Lsi, H' A = some (.lst acc) ∧ OwsW (Ow X.K (Sh (RU R (A :: L)) Lsi) H' k) done acc L ∧ L.Nodup ∧ A ∉ L ∧ (∀ a ∈ A :: L, ¬ R a) ∧ acc.length ≤ i ∧ SR X.K (RU R (A :: L)) H' (wipe σ (own.map (·.2))) ρi m Lsi ∧ Step Ls Lsi (A :: L) H1 H' ∧
            lcGoI (own.map (·.2)) tgf ft fe (ds.drop i) ρi = some (rest, ρn) ∧ fin = done ++ rest) ?_ ?_ ?_ ?_
        · refine ⟨[], [], [], fin, _, Ls, upd_same, ⟨rfl, rfl⟩, List.nodup_nil, by simp, fun a ha r => ?_, Nat.le_refl _, s0.aside (Grow.upd hA) (fun a ha => ?_) (fun a ha => ?_), ⟨fun a o e n => Grow.upd hA a o e, fun a n z => n ((Grow.upd hA).dom z), fun a h => h.imp id fun z => ?_⟩, e2, rfl⟩
          · simp at ha; subst ha; exact sH1.dom a r hA
          · simp at ha; subst ha; exact hA
          · simp at ha; subst ha; rw [upd_same]; simp
          · simp at z; subst z; exact hA
        · rintro i H' hi ⟨acc, L, done, rest, ρi, Lsi, h1, h2, h3, h4, h5, h6, h7, h8, h9, h10⟩
          refine ⟨Sh (RU R (A :: L)) Lsi, fun p hp => h7.fresh hp, (show Stays G from st) (Sh R Ls) _ H1 _ (fun a z n => ?_) (fun a o ea z => sH1.kept h8 ea z) gS⟩
          exact sH1.sh h8 z n
        · rintro i x Ha Hb hi' ⟨acc, L, done, rest, ρi, Lsi, h1, h2, h3, h4, h5, h6, h7, h8, h9, h10⟩ ⟨gab, yv⟩
          have gga : G (Sh (RU R (A :: L)) Lsi) Ha := (show Stays G from st) (Sh R Ls) _ H1 _ (fun a z n => sH1.sh h8 z n) (fun a o ea z => sH1.kept h8 ea z) gS
          obtain ⟨d, ed, rd⟩ := yv _ (fun p hp => h7.fresh hp) gga
          have sb := h7.grow gab
          have edrop : ds.drop i = d :: ds.drop (i + 1) := by
            rw [List.drop_eq_getElem_cons hi']
            rw [List.getElem?_eq_getElem hi'] at ed
            cases ed; rfl
          rw [edrop] at h9
          unfold lcGoI at h9
          cases e3 : tgf d ρi with
          | none => rw [e3] at h9; cases h9
          | some ρ1 =>
            rw [e3] at h9
            dsimp only at h9
            intro bs bH bC bcl bfp
            refine hg bs bH bC bcl bfp _ _ _ _ _ d x ρ1 _ sb rd e3 fun σ1 s1 l1 k1 => ⟨wipe_same l1 k1 hts, ?_⟩
            have ew : wipe σ1 (own.map (·.2)) = wipe σ (own.map (·.2)) := wipe_same l1 k1 hts
            intro bs bH bC bcl bfp
            refine ht bs bH bC bcl bfp _ _ _ _ _ _ _ s1 takes0 ?_
            cases e4 : ft ρ1 with
            | bad => rw [e4] at h9; cases h9
            | err z => rw [e4] at h9; cases h9
            | ok b =>
              rw [e4] at h9
              intro H3 g3
              have gb3 := gab.trans g3
              have s3 := s1.grow g3
              cases b with
              | false =>
                dsimp only at h9
                rw [if_neg (by decide)]
                have s3' := s3.wipe (vs := own.map (·.2)) hm0
                rw [ew] at s3'
                exact ⟨acc, L, done, rest, _, Lsi, gb3 _ _ h1, h2.imp fun d v L1 _ q => q.grow gb3 fun _ z _ => z, h3, h4, h5, Nat.le_succ_of_le h6, s3', h8.andGrow gb3, h9, h10⟩
              | true =>
                dsimp only at h9
                rw [if_pos rfl]
                intro bs bH bC bcl bfp
                refine he bs bH bC bcl bfp _ _ _ _ _ _ _ s3 takes0 ?_
                cases e5 : fe ρ1 with
                | bad => rw [e5] at h9; cases h9
                | err z => rw [e5] at h9; cases h9
                | ok y ρ2 =>
                  rw [e5] at h9
                  dsimp only at h9
                  cases e6 : lcGoI (own.map (·.2)) tgf ft fe (ds.drop (i + 1)) (wipeR ρ2 (own.map (·.2))) with
                  | none => rw [e6] at h9; cases h9
                  | some rest' =>
                    rw [e6] at h9
                    obtain ⟨rest', ρn'⟩ := rest'
                    cases h9
                    intro v H4 Ls4 Lt s4 o4 nd4 nr4 t4
                    have h13 := gb3 _ _ h1
                    have RA : RU R (A :: L) A := .inr (by simp)
                    have hA4 : H4 A = some (.lst acc) := t4.keep A _ h13 fun j hj => s3.sep j A hj RA
                    have hALt : A ∉ Lt := fun z => nr4 A z RA
                    have hLLt : ∀ a ∈ L, a ∉ Lt := fun a ha z => nr4 a z (.inr (by simp [ha]))
                    have s5 := s4.wipe (vs := own.map (·.2)) hm0
                    rw [ew] at s5
                    have s6 := s5.updA (o' := .lst (acc ++ [v])) (.inl RA) hA4
                    rw [ru_app] at s6
                    refine ⟨acc, hA4, by omega, acc ++ [v], L ++ Lt, done ++ [y], rest', _, Ls4, upd_same, ?_, ?_, ?_, ?_, ?_, s6, ?_, e6, by rw [h10]; simp⟩
                    · have t2 : ∀ a o, H4 a = some o → (Sh (RU (RU R (A :: L)) Lt) Ls4 a ∨ a ∈ Lt ∨ (∃ ys, o = .tup ys) ∨ (∃ ob u, o = .frz ob u)) → upd H4 A (.lst (acc ++ [v])) a = some o := fun a o ea z => by
                        have na : a ≠ A := fun e => by
                          subst e
                          rw [hA4] at ea; cases ea
                          rcases z with z | z | ⟨_, z⟩ | ⟨_, _, z⟩
                          · exact z.1 (.inl RA)
                          · exact hALt z
                          · cases z
                          · cases z
                        rw [upd_ne na]; exact ea
                      have es : RU R (A :: (L ++ Lt)) = RU (RU R (A :: L)) Lt := by rw [ru_app]; rfl
                      rw [es]
                      have t3 : ∀ a, Sh (RU R (A :: L)) Lsi a → Ha a ≠ none → Sh (RU (RU R (A :: L)) Lt) Ls4 a := fun a z nz => s3.sh t4 z fun q => nz (gb3.dom q)
                      have t4' : ∀ L1 : List Addr, (∀ a ∈ L1, a ∈ L) → ∀ a o, Ha a = some o → (Sh (RU R (A :: L)) Lsi a ∨ a ∈ L1 ∨ (∃ ys, o = .tup ys) ∨ (∃ ob u, o = .frz ob u)) → upd H4 A (.lst (acc ++ [v])) a = some o := fun L1 hL1 a o ea z => by
                        have na : a ≠ A := fun e => by
                          subst e
                          rw [h1] at ea; cases ea
                          rcases z with z | z | ⟨_, z⟩ | ⟨_, _, z⟩
                          · exact z.1 RA
                          · exact h4 (hL1 _ z)
                          · cases z
                          · cases z
                        rw [upd_ne na]
                        rcases z with z | z | z
                        · exact s3.kept t4 (gb3 _ _ ea) (.inl z)
                        · exact t4.keep a o (gb3 _ _ ea) fun j hj => s3.sep j a hj (.inr (by simp [hL1 a z]))
                        · exact s3.kept t4 (gb3 _ _ ea) (.inr z)
                      exact OwsW.snoc (Ow.stay (fun a z _ => z) t2 o4) (h2.imp fun d v L1 hL1 q => Ow.stay t3 (t4' L1 hL1) q)
                    · exact List.nodup_append.mpr ⟨h3, nd4, fun a ha b hb e => hLLt a ha (e ▸ hb)⟩
                    · rw [List.mem_append, not_or]; exact ⟨h4, hALt⟩
                    · intro a ha r
                      rcases List.mem_cons.mp ha with rfl | ha
                      · exact h5 a (by simp) r
                      · rcases List.mem_append.mp ha with ha | ha
                        · exact h5 a (by simp [ha]) r
                        · exact nr4 a ha (.inl r)
                    · rw [List.length_append, List.length_singleton]; omega
                    · have h83 := h8.andGrow gb3
                      refine ⟨fun a o ea n => ?_, fun a nz => ?_, fun a h => ?_⟩
                      · have na : a ≠ A := ne_of_none ea hA
                        rw [upd_ne na]
                        refine t4.keep a o (h83.keep a o ea n) fun j hj => ?_
                        rcases h83.new a (.inl ⟨j, hj⟩) with ⟨j', z⟩ | z
                        · exact n j' z
                        · rw [z] at ea; cases ea
                      · by_cases q : a = A
                        · rw [q, upd_same]; simp
                        · rw [upd_ne q]; exact t4.dom a (h83.dom a nz)
                      · have old : (∃ j, a ∈ Ls4 j) ∨ a ∈ Lt → (∃ j, a ∈ Ls j) ∨ H1 a = none := fun h => by
                          rcases t4.new a h with h | h
                          · exact h83.new a (.inl h)
                          · refine .inr ?_
                            cases q : H1 a with
                            | none => rfl
                            | some o => exact absurd h (h83.dom a (by rw [q]; simp))
                        rcases h with h | h
                        · exact old (.inl h)
                        · rcases List.mem_cons.mp h with rfl | h
                          · exact .inr hA
                          · rcases List.mem_append.mp h with h | h
                            · exact h83.new a (.inr (by simp [h]))
                            · exact old (.inr h)
        · rintro H' ⟨acc, L, done, rest, ρi, Lsi, h1, h2, h3, h4, h5, h6, h7, h8, h9, h10⟩
          rw [List.drop_length] at h9
          unfold lcGoI at h9
          cases h9
          rw [List.append_nil] at h10
          subst h10
          exact q (.ref A) H' Lsi (A :: L) (sH1.rest h7 h8 hm0) ⟨A, acc, L, rfl, h1, rfl, h2⟩ (List.nodup_cons.mpr ⟨h4, h3⟩) h5 ((Step.grow g1).trans h8)
    · rw [if_neg hz] at q; exact q.elim
theorem si_lc {k : Nat} {elt iter : Expr} {ifs : List Expr} {scope : Scope} {own : List (Str × Nat)} {ts : List Nat} {fi : Rho → Rs (List D)} {tgf : D → Rho → Option Rho} {ft : Rho → Rs Bool} {fe : Rho → Ri D}
    (hc : X.calm = true) (hN : X.N.Nodup) (hi : SIt true X m tg iter fi) (ok : BlkOk X.N X.env.scope scope own) (hm0 : ∀ i ∈ own.map (·.2), m.getD i 0 = 0) (hts : ∀ j ∈ ts, j ∈ own.map (·.2))
    (hg : ∀ (s : Shared) (H : Hp) (C : Addr) (cl : List (Str × Addr)) (fp : List Addr), SG (X.blk s H scope (compEnvC scope cl C X.env) fp) m ts tg tgf)
    (ht : ∀ (s : Shared) (H : Hp) (C : Addr) (cl : List (Str × Addr)) (fp : List Addr), STs (X.blk s H scope (compEnvC scope cl C X.env) fp) m ifs ft)
    (he : ∀ (s : Shared) (H : Hp) (C : Addr) (cl : List (Str × Addr)) (fp : List Addr), SI (X.blk s H scope (compEnvC scope cl C X.env) fp) m k elt fe)
    (hs : ∀ x, foldedSetIterable iter X.env x = pure x := by intro _; rfl) : SI X m (k + 1) (.ListComp elt [⟨tg, iter, ifs, 0⟩] scope pos) (iLc (own.map (·.2)) fi tgf ft fe) := by
  intro R σ H ρ Ls Q W s tk q
  exact UE.of (pe_lc (g := BG X scope tg) (tt := BT X scope ifs) (te := BE X scope elt) hc hN piU ok bg_ok bt_ok be_ok hs) (lc_readI hi hm0 hts hg ht he R σ H ρ Ls Q W s tk q)
/-- what was owned is shared -/
theorem si_share {k : Nat} {e : Expr} {f : Rho → Ri D} (h : SI X m k e f) : SI X m 0 e f := by
  intro R σ H ρ Ls Q W s tk q
  refine h R σ H ρ Ls Q W s tk ?_
  cases e1 : f ρ with
  | bad => rw [e1] at q; exact q
  | err x ρ1 => rw [e1] at q; exact q
  | ok d ρ1 =>
    rw [e1] at q
    intro v H' Ls' Lt s' o nd nr t
    have sub : ∀ a, Sh (RU R Lt) Ls' a → H' a ≠ none → Sh R Ls' a := fun a z _ => ⟨fun r => z.1 (.inl r), z.2⟩
    refine q v H' Ls' [] (by rw [ru_nil]; exact s'.drop) (.zero ?_) List.nodup_nil (fun a h => nomatch h) (t.sub fun c hc => hc.imp id fun z => nomatch z)
    rw [ru_nil]
    exact o.share sub fun a ha => ⟨nr a ha, fun i hi => s'.sep i a hi (.inr ha)⟩
end
end VL

set_option Elab.async false
set_option linter.all false
set_option maxRecDepth 100000
set_option maxHeartbeats 1000000
namespace VL
open PySem PySem.Spec PyProof.Rows L2
/-! ### dicts that are owned by a slot -/
def putD {κ : Type} [DecidableEq κ] (ks : List κ) (ds : List D) (k : κ) (d : D) : List κ × List D :=
  if ks.any (fun x => decide (x = k)) = true then (ks, (ks.zip ds).map fun p => if p.1 = k then d else p.2) else (ks ++ [k], ds ++ [d])
theorem zip_any {κ α : Type} [DecidableEq κ] {k : κ} : ∀ {ks : List κ} {vs : List α}, ks.length = vs.length → (ks.zip vs).any (fun kv => decide (kv.1 = k)) = ks.any fun x => decide (x = k)
  | [], _, _ => by simp
  | x :: ks, [], h => by simp at h
  | x :: ks, v :: vs, h => by
    rw [List.zip_cons_cons, List.any_cons, List.any_cons, zip_any (by simpa using h)]
theorem zip_mapif {κ α : Type} [DecidableEq κ] {k : κ} {v : α} : ∀ {ks : List κ} {vs : List α}, ks.length = vs.length → (ks.zip vs).map (fun kv => if kv.1 = k then (kv.1, v) else kv) = ks.zip ((ks.zip vs).map fun p => if p.1 = k then v else p.2)
  | [], _, _ => by simp
  | x :: ks, [], h => by simp at h
  | x :: ks, w :: vs, h => by
    rw [List.zip_cons_cons, List.map_cons, List.map_cons, List.zip_cons_cons, zip_mapif (by simpa using h)]
    by_cases q : x = k
    · simp [q]
    · simp [q]
theorem rqs_mapif {K : PySem.W.Frag} {S : Addr → Prop} {H : Hp} {κ : Type} [DecidableEq κ] {k : κ} {d : D} {v : V} (r : Rq K S H 0 d v) : ∀ {ks : List κ} {ds : List D} {vs : List V}, Rqs K S H 0 ds vs → Rqs K S H 0 ((ks.zip ds).map fun p => if p.1 = k then d else p.2) ((ks.zip vs).map fun p => if p.1 = k then v else p.2)
  | [], _, _, h => .nil
  | x :: ks, [], vs, h => by rw [h.inv0]; exact .nil
  | x :: ks, d' :: ds, vs, h => by
    obtain ⟨v', r', rfl, h1, h2⟩ := h.inv
    rw [List.zip_cons_cons, List.zip_cons_cons, List.map_cons, List.map_cons]
    refine .cons ?_ (rqs_mapif r h2)
    by_cases q : x = k
    · simp [q]; exact r
    · simp [q]; exact h1
theorem putD_rq {K : PySem.W.Frag} {S : Addr → Prop} {H : Hp} {κ : Type} [DecidableEq κ] {k : κ} {d : D} {v : V} {ks : List κ} {ds : List D} {vs : List V} (h : Rqs K S H 0 ds vs) (hl : ks.length = vs.length) (r : Rq K S H 0 d v) :
    ∃ vs', putK (ks.zip vs) k v = (putD ks ds k d).1.zip vs' ∧ (putD ks ds k d).1.length = vs'.length ∧ Rqs K S H 0 (putD ks ds k d).2 vs' := by
  unfold putK putD
  rw [zip_any hl]
  by_cases q : ks.any (fun x => decide (x = k)) = true
  · rw [if_pos q, if_pos q]
    exact ⟨_, zip_mapif hl, by simp [hl], rqs_mapif r h⟩
  · rw [if_neg q, if_neg q]
    exact ⟨vs ++ [v], by rw [List.zip_append hl]; rfl, by simp [hl], h.append (.cons r .nil)⟩
section
variable {K : PySem.W.Frag} {R : Addr → Prop} {H : Hp} {σ : Sg} {ρ : Rho} {m : List Nat} {Ls : Nat → List Addr} {Lt : List Addr}
/-- an object that stands alone, its parts shared, is written -/
theorem SR.writeO {H0 : Hp} {Ls0 : Nat → List Addr} {i : Nat} {a : Addr} {o' : HO} {d d1 d1' : D} {v : V} {C : D → D} (s : SR K R H σ ρ m Ls) (t : Step Ls0 Ls [] H0 H) (hρ : ρ[i]? = some (some d)) (hv : σ[i]? = some (some v))
    (z : Zoom K (Sh R Ls) H (m.getD i 0) d v (Ls i) 1 d1 (.ref a) [a] C)
    (hO : ∀ S', (∀ {ds : List D} {us : List V}, Rqs K (Sh R Ls) H 0 ds us → Rqs K S' (upd H a o') 0 ds us) → Ow K S' (upd H a o') 1 d1' (.ref a) [a]) :
    ∃ Ls', SR K R (upd H a o') σ (ρ.set i (some (C d1'))) m Ls' ∧ Step Ls0 Ls' [] H0 (upd H a o') := by
  rw [← ru_nil (R := R)] at s z hO
  exact s.write t hρ hv z (by simp) (fun b hb => nomatch hb) (fun S' st => hO S' fun {ds us} r => Rqs.stay st.1 ds 0 us (fun b o e q => st.2 b o e (by
    rcases q with q | q | q
    · exact absurd q (Nat.lt_irrefl _)
    · exact .inl q
    · exact .inr (.inr q))) r) (by simp) (by simp)
end
section
variable {X : Cx} {F : Fx} {m m' : List Nat} {a b e o ix kx vx : Expr} {es : List Expr} {pos p pos' apos cpos px : Pos} {x : Str}
/-- x[k] = v, x the name of slot i, a dict -/
def oDput (i : Nat) (f : Rho → Rs D) (g : Rho → Rs D) : Rho → Out := fun ρ => match f ρ, g ρ, ρ[i]? with
  | .ok d, .ok k, some (some (.dk ks ds)) => match keyD k with
    | some k => if ds.length < sizeLine then .nx (ρ.set i (some (.dk (putD ks ds k d).1 (putD ks ds k d).2))) else .bad
    | none => .bad
  | .ok d, .ok (.tup k), some (some (.dt ks ds)) => match keysD k with
    | some k => if ds.length < sizeLine then .nx (ρ.set i (some (.dt (putD ks ds k d).1 (putD ks ds k d).2))) else .bad
    | none => .bad
  | _, _, _ => .bad
theorem ss_dput (i : Nat) {f g : Rho → Rs D} (hu : X.A.units + 1 < cLine) (hf : SP X m 0 e f) (hg : SP X m 0 ix g) (hk : m.getD i 0 = 1 := by decide) (hN : X.N[i]? = some x := by rfl) (hv : Vis X.env.scope x := by first | exact Or.inl rfl | exact Or.inr (Or.inl rfl) | exact Or.inr (Or.inr rfl))
    (hd : (x == ("__debug__" : Str)) = false := by decide +kernel) (hcd : (x == ("__classdict__" : Str)) = false := by decide +kernel) (hs : swapsWith e (some (.Subscript (.Name x px) ix pos')) pos.line X.env = pure false := by rfl) :
    SS X F m m (.Assign [.Subscript (.Name x px) ix pos'] e pos) (oDput i f g) := by
  intro R vs σ H ρ Ls E W fx s tk q
  unfold oDput at q
  refine US.of (ps_dput hu (pe_var hN hv hd hcd) peU peU hs) (hf R σ H ρ Ls _ W s tk ?_)
  cases e1 : f ρ with
  | bad => rw [e1] at q; exact q.elim
  | err x => rw [e1] at q; exact q.elim
  | ok d =>
    intro v H1 g1 rv
    cases e2 : g ρ with
    | bad => rw [e1, e2] at q; exact q.elim
    | err x => rw [e1, e2] at q; exact q.elim
    | ok k =>
      rw [e1, e2] at q
      cases e3 : ρ[i]? with
      | none => rw [e3] at q; exact q.elim
      | some od =>
        rw [e3] at q
        cases od with
        | none => exact q.elim
        | some dd =>
          obtain ⟨w, h1, h2⟩ := s.val i dd e3
          refine ⟨w, h1, hg R σ H1 ρ Ls _ W (s.grow g1) tk ?_⟩
          rw [e2]
          intro y H2 g2 ry
          have s2 := s.grow (g1.trans g2)
          obtain ⟨w', h1', h3⟩ := s2.val i dd e3
          rw [h1] at h1'; cases h1'
          have z := Zoom.refl h3
          rw [hk] at h3
          have rv2 := rv.grow g2 fun _ z _ => z
          split at q
          · rename_i d' k' ks ds ed ek eo
            cases ed; cases ek; cases eo
            cases e4 : keyD k with
            | none => rw [e4] at q; exact q.elim
            | some kk =>
              rw [e4] at q
              dsimp only at q
              by_cases hz : ds.length < sizeLine
              · rw [if_pos hz] at q
                unfold Ow at h3
                obtain ⟨a, us, L0, rfl, ha, hl, eL, h4⟩ := h3
                obtain ⟨rfl, r⟩ := h4.of_zeros
                obtain ⟨us', e5, e6, r'⟩ := putD_rq (k := kk) r hl rv2
                refine ⟨a, _, rfl, by rw [keyD_rq ry e4]; exact .k ha (by rw [List.length_zip, hl, Nat.min_self, ← r.length]; exact hz), ?_⟩
                rw [e5]
                obtain ⟨Ls', s', t'⟩ := s2.writeO (o' := .dK ((putD ks ds kk d).1.zip us')) (d1' := .dk (putD ks ds kk d).1 (putD ks ds kk d).2) (Step.grow (g1.trans g2)) e3 h1 (by rw [hk, eL] at z; rw [hk, eL]; exact z) fun S' tr => by
                  unfold Ow
                  exact ⟨a, us', [], rfl, upd_same, e6, rfl, .zeros (tr r')⟩
                exact q σ _ Ls' fx s' t'
              · rw [if_neg hz] at q; exact q.elim
          · rename_i d' k' ks ds ed ek eo
            cases ed; cases ek; cases eo
            cases e4 : keysD k' with
            | none => rw [e4] at q; exact q.elim
            | some kk =>
              rw [e4] at q
              dsimp only at q
              by_cases hz : ds.length < sizeLine
              · rw [if_pos hz] at q
                unfold Ow at h3
                obtain ⟨a, us, L0, rfl, ha, hl, eL, h4⟩ := h3
                obtain ⟨rfl, r⟩ := h4.of_zeros
                obtain ⟨us', e5, e6, r'⟩ := putD_rq (k := kk) r hl rv2
                obtain ⟨b, ws, rfl, hb, hr⟩ := ry.tup
                rw [keysD_rq hr e4] at hb
                refine ⟨a, _, rfl, .t ha hb (by rw [List.length_zip, hl, Nat.min_self, ← r.length]; exact hz), ?_⟩
                rw [e5]
                obtain ⟨Ls', s', t'⟩ := s2.writeO (o' := .dT ((putD ks ds kk d).1.zip us')) (d1' := .dt (putD ks ds kk d).1 (putD ks ds kk d).2) (Step.grow (g1.trans g2)) e3 h1 (by rw [hk, eL] at z; rw [hk, eL]; exact z) fun S' tr => by
                  unfold Ow
                  exact ⟨a, us', [], rfl, upd_same, e6, rfl, .zeros (tr r')⟩
                exact q σ _ Ls' fx s' t'
              · rw [if_neg hz] at q; exact q.elim
          · exact q.elim
/-- {k: v} -/
def fDisp1 (f g : Rho → Rs D) : Rho → Rs D := fun ρ => do
  let k ← f ρ
  let v ← g ρ
  match keyD k with
  | some k => pure (.dk [k] [v])
  | none => .bad
theorem sf_disp1 {f g : Rho → Rs D} (hf : SP X m 0 kx f) (hg : SP X m 0 vx g) : SF X m 1 (.Dict [some kx] [vx] pos) (fDisp1 f g) := by
  intro R σ H ρ Ls Q W s tk q
  unfold fDisp1 at q
  refine UE.of (pe_disp (pps_cons peU peU pps_nil) (by rfl) (by rfl) (by simp) (by simp)) fun p hp => ?_
  have gp : Grow H (upd H p (.dK [])) := Grow.upd hp
  have s1 : SR X.K (RU R [p]) (upd H p (.dK [])) σ ρ m Ls := s.aside gp (fun a ha => by simp at ha; subst ha; exact hp) fun a ha => by simp at ha; subst ha; rw [upd_same]; simp
  refine hf _ σ _ ρ Ls _ W s1 tk ?_
  cases e1 : f ρ with
  | bad => rw [e1] at q; exact q
  | err x => rw [e1] at q; exact fun cls dd H' g z => q cls dd H' (gp.trans g) z
  | ok k =>
    rw [e1, ok_bind] at q
    intro y H1 g1 rk
    refine hg _ σ _ ρ Ls _ W (s1.grow g1) tk ?_
    cases e2 : g ρ with
    | bad => rw [e2] at q; exact q
    | err x => rw [e2] at q; exact fun cls dd H' g z => q cls dd H' ((gp.trans g1).trans g) z
    | ok v =>
      rw [e2, ok_bind] at q
      intro w H2 g2 rw'
      have hp2 : H2 p = some (.dK []) := g2 _ _ (g1 _ _ upd_same)
      cases e3 : keyD k with
      | none => rw [e3] at q; exact q.elim
      | some kk =>
        rw [e3] at q
        refine ⟨hp2, [(kk, w)], by rw [keyD_rq rk e3]; rfl, by simp, ?_⟩
        have g12 : Grow H (upd H2 p (.dK (mergeK [] [(kk, w)]))) := fun b o e => by
          rw [upd_ne (ne_of_none e hp)]
          exact g2 _ _ (g1 _ _ (gp _ _ e))
        refine q (.ref p) _ [p] g12 ?_ (by simp) (fun b hb => by simp at hb; subst hb; exact hp)
        unfold Ow
        refine ⟨p, [w], [], rfl, upd_same, rfl, rfl, .zeros (.cons ?_ .nil)⟩
        refine Rq.stay (fun a z _ => z) v 0 w (fun b o eb z => ?_) rw'
        have nb : b ≠ p := fun q' => by
          subst q'
          rw [hp2] at eb; cases eb
          rcases z with z | z | ⟨_, z⟩ | ⟨_, _, z⟩
          · exact Nat.lt_irrefl _ z
          · exact z.1 (.inr (by simp))
          · cases z
          · cases z
        rw [upd_ne nb]; exact eb
/-! ### fields, constructors -/
def putFD (f : Str) (d : D) : List Str → List D → List Str × List D
  | n :: ns, x :: ds => if n = f then (n :: ns, d :: ds) else (n :: (putFD f d ns ds).1, x :: (putFD f d ns ds).2)
  | _, _ => ([f], [d])
theorem putF_rq {K : PySem.W.Frag} {S : Addr → Prop} {H : Hp} {f : Str} {d : D} {v : V} (r : Rq K S H 0 d v) : ∀ {ns : List Str} {ds : List D} {vs : List V}, Rqs K S H 0 ds vs → ns.length = vs.length →
    ∃ vs', putF f v (ns.zip vs) = (putFD f d ns ds).1.zip vs' ∧ (putFD f d ns ds).1.length = vs'.length ∧ Rqs K S H 0 (putFD f d ns ds).2 vs'
  | [], ds, vs, h, hl => by
    have e : vs = [] := by cases vs with | nil => rfl | cons _ _ => simp at hl
    subst e
    have e : ds = [] := by have := h.length; cases ds with | nil => rfl | cons _ _ => simp at this
    subst e
    exact ⟨[v], rfl, rfl, .cons r .nil⟩
  | n :: ns, [], vs, h, hl => by rw [h.inv0] at hl; simp at hl
  | n :: ns, x :: ds, vs, h, hl => by
    obtain ⟨w, r', rfl, h1, h2⟩ := h.inv
    obtain ⟨us, e1, e2, e3⟩ := putF_rq (f := f) r h2 (ns := ns) (by simpa using hl)
    by_cases q : n = f
    · refine ⟨v :: r', ?_, ?_, ?_⟩
      · simp [putF, putFD, q]
      · simp [putFD, q]; simpa using hl
      · simp only [putFD, if_pos q]; exact .cons r h2
    · refine ⟨w :: us, ?_, ?_, ?_⟩
      · simp [putF, putFD, q, e1]
      · simp [putFD, q, e2]
      · simp only [putFD, if_neg q]; exact .cons h1 e3
def oFld (i : Nat) (C : Addr) (f : Str) (g : Rho → Rs D) : Rho → Out := fun ρ => match g ρ, ρ[i]? with
  | .ok d, some (some (.ins C' ns ds)) => if C' = C ∧ ns.length < 1000 then .nx (ρ.set i (some (.ins C' (putFD f d ns ds).1 (putFD f d ns ds).2))) else .bad
  | _, _ => .bad
theorem ss_fld (i : Nat) {C : Addr} {f : Str} {g : Rho → Rs D} (hC : Cls X.K C) (hA : NoAttr X.K C f) (hg : SP X m 0 e g) (hk : m.getD i 0 = 1 := by decide) (hN : X.N[i]? = some x := by rfl) (hv : Vis X.env.scope x := by first | exact Or.inl rfl | exact Or.inr (Or.inl rfl) | exact Or.inr (Or.inr rfl))
    (hd : (x == ("__debug__" : Str)) = false := by decide +kernel) (hcd : (x == ("__classdict__" : Str)) = false := by decide +kernel) (hs : swapsWith e (some (.Attribute (.Name x px) f pos')) pos.line X.env = pure false := by rfl) :
    SS X F m m (.Assign [.Attribute (.Name x px) f pos'] e pos) (oFld i C f g) := by
  intro R vs σ H ρ Ls E W fx s tk q
  unfold oFld at q
  refine US.of (ps_fld (pe_var hN hv hd hcd) peU hs) (hg R σ H ρ Ls _ W s tk ?_)
  cases e1 : g ρ with
  | bad => rw [e1] at q; exact q.elim
  | err x => rw [e1] at q; exact q.elim
  | ok d =>
    rw [e1] at q
    intro v H1 g1 rv
    cases e3 : ρ[i]? with
    | none => rw [e3] at q; exact q.elim
    | some od =>
      rw [e3] at q
      cases od with
      | none => exact q.elim
      | some dd =>
        cases dd with
        | ins C' ns ds =>
          dsimp only at q
          by_cases hz : C' = C ∧ ns.length < 1000
          · rw [if_pos hz] at q
            have s2 := s.grow g1
            obtain ⟨w, h1, h3⟩ := s2.val i _ e3
            have z := Zoom.refl h3
            rw [hk] at h3
            unfold Ow at h3
            obtain ⟨a, dx, us, L0, rfl, ha, hl, eL, h4⟩ := h3
            obtain ⟨rfl, r⟩ := h4.of_zeros
            obtain ⟨us', e5, e6, r'⟩ := putF_rq (f := f) rv r hl
            refine ⟨_, h1, a, C', dx, _, rfl, ha, by rw [hz.1]; exact hC, by rw [hz.1]; exact hA, by rw [List.length_zip, hl, Nat.min_self, ← hl]; exact hz.2, ?_⟩
            rw [e5]
            obtain ⟨Ls', s', t'⟩ := s2.writeO (o' := .ins C' dx ((putFD f d ns ds).1.zip us')) (d1' := .ins C' (putFD f d ns ds).1 (putFD f d ns ds).2) (Step.grow g1) e3 h1 (by rw [hk, eL] at z; rw [hk, eL]; exact z) fun S' tr => by
              unfold Ow
              exact ⟨a, dx, us', [], rfl, upd_same, e6, rfl, .zeros (tr r')⟩
            exact q σ _ Ls' fx s' t'
          · rw [if_neg hz] at q; exact q.elim
        | _ => exact q.elim
/-- C(e, ..), nothing raised -/
def fMake (C : Addr) (fs : Rho → Rs (List D)) (F : List D → Ro) : Rho → Rs D := fun ρ => do
  let ds ← fs ρ
  match F (.ins C [] [] :: ds) with
  | .ok .non d0 => pure d0
  | _ => .bad
theorem sf_make {k n : Nat} {f C : Addr} {fd : FuncData} {ps : List Str} {js : List Nat} {fs : Rho → Rs (List D)} {F : List D → Ro} (M : Mk X.K C f) (G : FnOk X.prog X.w X.K X.mg X.base (L2.CX X.prog X.w) k f fd ps (spI X.K 0 n 0 1 F)) (hr : Room (k + 1) X.A) (hg : Gl X x) (hm : X.mg x = some (.ref C)) (hb : Binds X.K fd ps [])
    (hs : NoStar X (e :: es)) (hA : SPs X m js (e :: es) fs) (hz : AllZ js) (hn : js.length + 1 = n := by rfl) (hdb : (x == ("__debug__" : Str)) = false := by decide +kernel) (hpl : (backTo pos (starEach es X.env)).any (·.1) = false := by rfl) :
    SF X m 1 (.Call (.Name x p) (e :: es) [] pos) (fMake C fs F) := by
  intro R σ H ρ Ls Q W s tk q
  unfold fMake at q
  refine UE.of (pe_make M G hr hg hm hb .nil passL (paN hs) hdb hs.1 hpl) (hA R σ H ρ Ls _ W s tk ?_)
  cases e1 : fs ρ with
  | bad => rw [e1] at q; exact q
  | err x => rw [e1] at q; exact q
  | ok ds =>
    rw [e1, ok_bind] at q
    intro vs H1 g1 r1
    intro x dx nx ndx nex
    have r := r1.rqs hz
    have g2 : Grow H1 (upd (upd H1 dx (.own x)) x (.ins C dx [])) := fun b o e => by
      rw [upd_ne (ne_of_none e nx), upd_ne (ne_of_none e ndx)]; exact e
    have s1 := s.grow g1
    refine ⟨fun a => R a ∨ ∃ i, a ∈ Ls i, [x], .ins C [] [] :: ds, by rw [List.length_cons, r1.len]; exact hn, ⟨by simp [r.length], ?_, fun i d e => ?_, fun i e => ?_, fun i => ?_, fun i j a h1 h2 => ?_, fun i a h => ?_, fun a h => ?_⟩, ?_⟩
    · rw [List.length_set, List.length_replicate, List.length_map, List.length_cons, r1.len]; exact hn.symm
    · cases i with
      | zero =>
        simp at e; subst e
        have en : ((List.replicate n 0).set 0 1).getD 0 0 = 1 := getD_set_self (by rw [List.length_replicate]; omega)
        refine ⟨.ref x, by simp, ?_⟩
        rw [en, only_same]
        unfold Ow
        exact ⟨x, dx, [], [], rfl, upd_same, rfl, rfl, rfl, rfl⟩
      | succ i =>
        have e' : ds[i]? = some d := by simpa using e
        obtain ⟨v, e2, rv⟩ := r.get e'
        refine ⟨v, by simp [e2], ?_⟩
        rw [getD_set_ne (by omega), rep_getD, only_ne (by omega)]
        refine .zero (rv.grow g2 fun a z na => ⟨fun h => ?_, fun j hj => ?_⟩)
        · rcases h with h | ⟨j, h⟩
          · exact z.1 h
          · exact z.2 j h
        · by_cases qj : j = 0
          · subst qj
            rw [only_same] at hj
            simp at hj; subst hj
            exact na nx
          · rw [only_ne qj] at hj; cases hj
    · by_cases qj : i = 0
      · subst qj; exact absurd (by simp) (e (.ins C [] []))
      · exact only_ne qj
    · by_cases qj : i = 0
      · subst qj; rw [only_same]; simp
      · rw [only_ne qj]; exact List.nodup_nil
    · by_cases qi : i = 0
      · by_cases qj : j = 0
        · rw [qi, qj]
        · rw [only_ne qj] at h2; cases h2
      · rw [only_ne qi] at h1; cases h1
    · by_cases qi : i = 0
      · subst qi
        rw [only_same] at h
        simp at h; subst h
        intro h
        rcases h with h | ⟨j, h⟩
        · exact s1.dom a h nx
        · obtain ⟨u, eu, _⟩ := s1.mem h
          rw [nx] at eu; cases eu
      · rw [only_ne qi] at h; cases h
    · intro hn
      have := g2.dom hn
      rcases h with h | ⟨j, h⟩
      · exact s1.dom a h this
      · obtain ⟨u, eu, _⟩ := s1.mem h
        rw [this] at eu; cases eu
    · have hvs : vs ++ ([] : List V) = vs := by simp
      rw [hvs]
      cases e2 : F (.ins C [] [] :: ds) with
      | bad => rw [e2] at q; exact q
      | err x => rw [e2] at q; exact q.elim
      | ok d d0 =>
        rw [e2] at q
        cases d with
        | non =>
          intro v H' L' Lt v0 e3 kp dm nw o0 od nd' ndt sp nrt
          simp at e3; subst e3
          obtain ⟨rfl, rv⟩ := od.of_zero
          refine ⟨rv.non, q (.ref x) H' L' (fun b o e => ?_) (o0.grow (Grow.refl H') fun a z _ => ⟨fun h => ?_, fun i hi => z.1 (.inr ⟨i, hi⟩)⟩) nd' fun a ha => ?_⟩
          · have e1' := g1 _ _ e
            refine kp b o (g2 _ _ e1') fun hb => ?_
            simp at hb; subst hb
            rw [nx] at e1'; cases e1'
          · rcases h with h | h
            · exact z.1 (.inl h)
            · exact z.2.2 h
          · rcases nw a (.inl ha) with h | h
            · simp at h; subst h; exact g1.dom nx
            · exact g1.dom (g2.dom h)
        | _ => exact q.elim
end
end VL

set_option Elab.async false
set_option linter.all false
set_option maxRecDepth 100000
set_option maxHeartbeats 1000000
namespace VL
open PySem PySem.Spec PyProof.Rows L2
/-! ### [.. for .. for ..] -/
/-- the list at A that is being filled -/
structure AccI (K : PySem.W.Frag) (R : Addr → Prop) (Ls : Nat → List Addr) (H1 : Hp) (k : Nat) (A : Addr) (acc : List V) (L : List Addr) (done : List D) (H : Hp) : Prop where
  at_ : H A = some (.lst acc)
  ows : OwsW (Ow K (Sh (RU R (A :: L)) Ls) H k) done acc L
  nd : L.Nodup
  nA : A ∉ L
  new : ∀ a ∈ A :: L, H1 a = none
  gr : Grow H1 H
section
variable {K : PySem.W.Frag} {R : Addr → Prop} {Ls : Nat → List Addr} {H1 H H' : Hp} {k : Nat} {A : Addr} {acc : List V} {L : List Addr} {done : List D}
theorem AccI.grow (i : AccI K R Ls H1 k A acc L done H) (g : Grow H H') : AccI K R Ls H1 k A acc L done H' :=
  ⟨g _ _ i.at_, i.ows.imp fun d v L1 _ q => q.grow g fun _ z _ => z, i.nd, i.nA, i.new, i.gr.trans g⟩
theorem AccI.there (i : AccI K R Ls H1 k A acc L done H) : ∀ a ∈ A :: L, H1 a = none ∧ H a ≠ none := fun a ha => ⟨i.new a ha, by
  rcases List.mem_cons.mp ha with rfl | ha
  · rw [i.at_]; simp
  · obtain ⟨o, e, _⟩ := OwsW.mem (Z := fun a => ∃ o, H a = some o ∧ isM o) (fun _ _ _ q => Ow.mem q) i.ows a ha
    rw [e]; simp⟩
theorem AccI.sr {σ : Sg} {ρ : Rho} {m : List Nat} (i : AccI K R Ls H1 k A acc L done H) (s : SR K R H1 σ ρ m Ls) : SR K (RU R (A :: L)) H σ ρ m Ls :=
  s.aside i.gr (fun a ha => i.new a ha) fun a ha => (i.there a ha).2
theorem AccI.push {H4 : Hp} {y : D} {v : V} {Lt : List Addr} (i : AccI K R Ls H1 k A acc L done H) (g4 : Grow H H4) (o4 : Ow K (Sh (RU (RU R (A :: L)) Lt) Ls) H4 k y v Lt) (nd4 : Lt.Nodup) (fr4 : ∀ a ∈ Lt, H a = none) :
    AccI K R Ls H1 k A (acc ++ [v]) (L ++ Lt) (done ++ [y]) (upd H4 A (.lst (acc ++ [v]))) := by
  have hA4 : H4 A = some (.lst acc) := g4 _ _ i.at_
  have RA : RU R (A :: L) A := .inr (by simp)
  have hALt : A ∉ Lt := fun z => by
    have := fr4 A z
    rw [i.at_] at this; cases this
  have hLLt : ∀ a ∈ L, a ∉ Lt := fun a ha z => (i.there a (List.mem_cons_of_mem _ ha)).2 (fr4 a z)
  have es : RU R (A :: (L ++ Lt)) = RU (RU R (A :: L)) Lt := by rw [ru_app]; rfl
  refine ⟨upd_same, ?_, List.nodup_append.mpr ⟨i.nd, nd4, fun a ha b hb e => hLLt a ha (e ▸ hb)⟩, by rw [List.mem_append, not_or]; exact ⟨i.nA, hALt⟩, fun a ha => ?_, fun a o ea => ?_⟩
  · rw [es]
    have t2 : ∀ a o, H4 a = some o → (Sh (RU (RU R (A :: L)) Lt) Ls a ∨ a ∈ Lt ∨ (∃ ys, o = .tup ys) ∨ (∃ ob u, o = .frz ob u)) → upd H4 A (.lst (acc ++ [v])) a = some o := fun a o ea z => by
      have na : a ≠ A := fun e => by
        subst e
        rw [hA4] at ea; cases ea
        rcases z with z | z | ⟨_, z⟩ | ⟨_, _, z⟩
        · exact z.1 (.inl RA)
        · exact hALt z
        · cases z
        · cases z
      rw [upd_ne na]; exact ea
    have t3 : ∀ a, Sh (RU R (A :: L)) Ls a → H a ≠ none → Sh (RU (RU R (A :: L)) Lt) Ls a := fun a z nz => ⟨fun w => by
      rcases w with w | w
      · exact z.1 w
      · exact nz (fr4 a w), z.2⟩
    have t4 : ∀ L1 : List Addr, (∀ a ∈ L1, a ∈ L) → ∀ a o, H a = some o → (Sh (RU R (A :: L)) Ls a ∨ a ∈ L1 ∨ (∃ ys, o = .tup ys) ∨ (∃ ob u, o = .frz ob u)) → upd H4 A (.lst (acc ++ [v])) a = some o := fun L1 hL1 a o ea z => by
      have na : a ≠ A := fun e => by
        subst e
        rw [i.at_] at ea; cases ea
        rcases z with z | z | ⟨_, z⟩ | ⟨_, _, z⟩
        · exact z.1 RA
        · exact i.nA (hL1 _ z)
        · cases z
        · cases z
      rw [upd_ne na]; exact g4 _ _ ea
    exact OwsW.snoc (Ow.stay (fun a z _ => z) t2 o4) (i.ows.imp fun d v L1 hL1 q => Ow.stay t3 (t4 L1 hL1) q)
  · rcases List.mem_cons.mp ha with rfl | ha
    · exact i.new a (by simp)
    · rcases List.mem_append.mp ha with ha | ha
      · exact i.new a (by simp [ha])
      · exact i.gr.dom (fr4 a ha)
  · rw [upd_ne (ne_of_none ea (i.new A (by simp)))]
    exact g4 _ _ (i.gr _ _ ea)
end
section
variable {X : Cx} {m : List Nat} {tg tg1 : Expr} {pos : Pos}
def lc2Go (vs1 : List Nat) (tg : D → Rho → Option Rho) (ft : Rho → Rs Bool) (fi1 : Rho → Rs (List D)) (tg1 : D → Rho → Option Rho) (ft1 : Rho → Rs Bool) (fe : Rho → Rs D) (ρ : Rho) : List D → Rs (List D)
  | [] => .ok []
  | d :: ds => match tg d ρ with
    | none => .bad
    | some ρ1 => do
      let k ← nx (ft ρ1)
      if k then do
        let ds1 ← nx (fi1 ρ1)
        let r1 ← lcGo tg1 ft1 fe (wipeR ρ1 vs1) ds1
        let r ← lc2Go vs1 tg ft fi1 tg1 ft1 fe ρ ds
        pure (r1 ++ r)
      else lc2Go vs1 tg ft fi1 tg1 ft1 fe ρ ds
def fLc2 (vs vs1 : List Nat) (fi : Rho → Rs (List D)) (tg : D → Rho → Option Rho) (ft : Rho → Rs Bool) (fi1 : Rho → Rs (List D)) (tg1 : D → Rho → Option Rho) (ft1 : Rho → Rs Bool) (fe : Rho → Rs D) : Rho → Rs D := fun ρ => do
  let ds ← fi ρ
  match lc2Go vs1 tg ft fi1 tg1 ft1 fe (wipeR ρ vs) ds with
  | .ok r => if r.length ≤ sizeLine then pure (.lst r) else .bad
  | _ => .bad
def BI (X : Cx) (scope : Scope) (tg iter : Expr) : TI := fun σ H Q => ∀ (s : Shared) (H0 : Hp) (C : Addr) (cl : List (Str × Addr)) (fp : List Addr), UI (X.blk s H0 scope (compEnvC scope cl C X.env) fp) tg iter σ H Q
theorem bi_ok {scope : Scope} {tg iter : Expr} : ∀ (s : Shared) (H : Hp) (C : Addr) (cl : List (Str × Addr)) (fp : List Addr), PI (X.blk s H scope (compEnvC scope cl C X.env) fp) tg iter (BI X scope tg iter) := fun s H C cl fp => ⟨fun pins s' σ H' Q I h => h s H C cl fp pins s' I⟩
theorem lc2_read {k : Nat} {elt iter iter1 : Expr} {ifs ifs1 : List Expr} {scope : Scope} {own : List (Str × Nat)} {vs1 ts ts1 : List Nat} {fi fi1 : Rho → Rs (List D)} {tgf tgf1 : D → Rho → Option Rho} {ft ft1 : Rho → Rs Bool} {fe : Rho → Rs D}
    (hi : SIt false X m tg iter fi) (hm0 : ∀ i ∈ own.map (·.2), m.getD i 0 = 0) (hv : ∀ i ∈ vs1, i ∈ own.map (·.2)) (hts : ∀ j ∈ ts, j ∈ own.map (·.2)) (hts1 : ∀ j ∈ ts1, j ∈ vs1)
    (hg : ∀ (s : Shared) (H : Hp) (C : Addr) (cl : List (Str × Addr)) (fp : List Addr), SG (X.blk s H scope (compEnvC scope cl C X.env) fp) m ts tg tgf)
    (ht : ∀ (s : Shared) (H : Hp) (C : Addr) (cl : List (Str × Addr)) (fp : List Addr), STs (X.blk s H scope (compEnvC scope cl C X.env) fp) m ifs ft)
    (hi1 : ∀ (s : Shared) (H : Hp) (C : Addr) (cl : List (Str × Addr)) (fp : List Addr), SIt true (X.blk s H scope (compEnvC scope cl C X.env) fp) m tg1 iter1 fi1)
    (hg1 : ∀ (s : Shared) (H : Hp) (C : Addr) (cl : List (Str × Addr)) (fp : List Addr), SG (X.blk s H scope (compEnvC scope cl C X.env) fp) m ts1 tg1 tgf1)
    (ht1 : ∀ (s : Shared) (H : Hp) (C : Addr) (cl : List (Str × Addr)) (fp : List Addr), STs (X.blk s H scope (compEnvC scope cl C X.env) fp) m ifs1 ft1)
    (he : ∀ (s : Shared) (H : Hp) (C : Addr) (cl : List (Str × Addr)) (fp : List Addr), SF (X.blk s H scope (compEnvC scope cl C X.env) fp) m k elt fe) :
    SFr X (tLc2 (UI X tg iter) (BG X scope tg) (BT X scope ifs) (BI X scope tg1 iter1) (BG X scope tg1) (BT X scope ifs1) (BE X scope elt) (own.map (·.2)) vs1) m (k + 1) (fLc2 (own.map (·.2)) vs1 fi tgf ft fi1 tgf1 ft1 fe) := by
  intro R σ H ρ Ls Q W s tk q
  unfold fLc2 at q
  refine hi R σ H ρ Ls _ W s tk ?_
  cases e1 : fi ρ with
  | bad => rw [e1] at q; exact q
  | err x => rw [e1] at q; exact q
  | ok ds =>
    rw [e1, ok_bind] at q
    intro J H1 G g1 sr gr gS A hA
    cases e2 : lc2Go vs1 tgf ft fi1 tgf1 ft1 fe (wipeR ρ (own.map (·.2))) ds with
    | bad => rw [e2] at q; exact q.elim
    | err x => rw [e2] at q; exact q.elim
    | ok fin =>
      rw [e2] at q
      dsimp only at q
      by_cases hz : fin.length ≤ sizeLine
      · rw [if_pos hz] at q
        have s0 : SR X.K R H1 (wipe σ (own.map (·.2))) (wipeR ρ (own.map (·.2))) m Ls := (s.grow g1).wipe hm0
        let Pv : Nat → Hp → Prop := fun i H' => ∃ acc L done rest, AccI X.K R Ls H1 k A acc L done H' ∧ lc2Go vs1 tgf ft fi1 tgf1 ft1 fe (wipeR ρ (own.map (·.2))) (ds.drop i) = .ok rest ∧ fin = done ++ rest
        refine ⟨fun i mm H' => mm = ds.length - i ∧ i ≤ ds.length ∧ Pv i H', ⟨ds.length, by simp, Nat.zero_le _, [], [], [], fin, ⟨upd_same, ⟨rfl, rfl⟩, List.nodup_nil, by simp, fun a ha => ?_, Grow.upd hA⟩, e2, rfl⟩, ?_⟩
        · simp at ha; subst ha; exact hA
        · rintro i mm Ha ⟨rfl, hi', acc, L, done, rest, ai, h8, h9⟩
          have gga : G (Sh (RU R (A :: L)) Ls) Ha := (show Grows G from gr) _ _ _ _ (fun a z nz => ⟨fun w => by
            rcases w with w | w
            · exact z.1 w
            · exact nz (ai.there a w).1, z.2⟩) ai.gr gS
          by_cases hlt : i < ds.length
          · refine .inr ⟨sr.go _ Ha i hlt gga, Pv (i + 1), fun H' p => ⟨ds.length - (i + 1), by omega, rfl, hlt, p⟩, fun x Hb yl => ?_⟩
            have sa := ai.sr s0
            obtain ⟨gab, d, ed, rd⟩ := sr.yld _ Ha i x Hb (fun p hp => sa.fresh hp) hlt gga yl
            have aib := ai.grow gab
            have sb := aib.sr s0
            have edrop : ds.drop i = d :: ds.drop (i + 1) := by
              rw [List.drop_eq_getElem_cons hlt]
              rw [List.getElem?_eq_getElem hlt] at ed
              cases ed; rfl
            rw [edrop] at h8
            unfold lc2Go at h8
            cases e3 : tgf d (wipeR ρ (own.map (·.2))) with
            | none => rw [e3] at h8; cases h8
            | some ρ1 =>
              rw [e3] at h8
              dsimp only at h8
              intro bs bH bC bcl bfp
              refine hg bs bH bC bcl bfp _ _ _ _ _ d x ρ1 _ sb rd e3 fun σ1 s1 l1 k1 => ⟨wipe_same l1 k1 hts, ?_⟩
              intro bs bH bC bcl bfp
              refine ht bs bH bC bcl bfp _ _ _ _ _ _ _ s1 takes0 ?_
              cases e4 : ft ρ1 with
              | bad => rw [e4] at h8; cases h8
              | err z => rw [e4] at h8; cases h8
              | ok b =>
                rw [e4] at h8
                simp only [nx_ok, ok_bind] at h8
                intro H3 g3
                have ai3 := aib.grow g3
                cases b with
                | false =>
                  rw [if_neg (by decide)] at h8 ⊢
                  exact ⟨acc, L, done, rest, ai3, h8, h9⟩
                | true =>
                  rw [if_pos rfl] at h8 ⊢
                  intro bs bH bC bcl bfp
                  refine hi1 bs bH bC bcl bfp _ _ _ _ _ _ _ (s1.grow g3) takes0 ?_
                  cases e5 : fi1 ρ1 with
                  | bad => rw [e5] at h8; cases h8
                  | err z => rw [e5] at h8; cases h8
                  | ok ds1 =>
                    rw [e5] at h8
                    simp only [nx_ok, ok_bind] at h8
                    cases e6 : lcGo tgf1 ft1 fe (wipeR ρ1 vs1) ds1 with
                    | bad => rw [e6] at h8; cases h8
                    | err z => rw [e6] at h8; cases h8
                    | ok r1 =>
                      rw [e6, ok_bind] at h8
                      cases e7 : lc2Go vs1 tgf ft fi1 tgf1 ft1 fe (wipeR ρ (own.map (·.2))) (ds.drop (i + 1)) with
                      | bad => rw [e7] at h8; cases h8
                      | err z => rw [e7] at h8; cases h8
                      | ok rest' =>
                        rw [e7] at h8
                        cases h8
                        intro J1 H4 G1 g4 sr1 st1 gS1
                        have ai4 := ai3.grow g4
                        have s4 : SR X.K (RU R (A :: L)) H4 (wipe σ1 vs1) (wipeR ρ1 vs1) m Ls := (s1.grow (g3.trans g4)).wipe fun i hi => hm0 i (hv i hi)
                        let Pv1 : Nat → Hp → Prop := fun j H' => ∃ acc' L' done' rest1, AccI X.K R Ls H1 k A acc' L' done' H' ∧ lcGo tgf1 ft1 fe (wipeR ρ1 vs1) (ds1.drop j) = .ok rest1 ∧ fin = done' ++ (rest1 ++ rest') ∧
                          SR X.K (RU R (A :: L')) H' (wipe σ1 vs1) (wipeR ρ1 vs1) m Ls ∧ G1 (Sh (RU R (A :: L')) Ls) H'
                        refine ⟨fun j mm H' => mm = ds1.length - j ∧ j ≤ ds1.length ∧ Pv1 j H', ⟨ds1.length, by simp, Nat.zero_le _, acc, L, done, r1, ai4, e6, h9, s4, gS1⟩, ?_⟩
                        rintro j mm Hc ⟨rfl, hj', acc', L', done', rest1, ac, hc8, hc9, sc, gc⟩
                        by_cases hlt1 : j < ds1.length
                        · refine .inr ⟨sr1.go _ Hc j hlt1 gc, Pv1 (j + 1), fun H' p => ⟨ds1.length - (j + 1), by omega, rfl, hlt1, p⟩, fun x1 Hd yl1 => ?_⟩
                          obtain ⟨gcd, d1, ed1, rd1⟩ := sr1.yld _ Hc j x1 Hd (fun p hp => sc.fresh hp) hlt1 gc yl1
                          have scd := sc.grow gcd
                          have acd := ac.grow gcd
                          have edrop1 : ds1.drop j = d1 :: ds1.drop (j + 1) := by
                            rw [List.drop_eq_getElem_cons hlt1]
                            rw [List.getElem?_eq_getElem hlt1] at ed1
                            cases ed1; rfl
                          rw [edrop1] at hc8
                          unfold lcGo at hc8
                          cases f3 : tgf1 d1 (wipeR ρ1 vs1) with
                          | none => rw [f3] at hc8; cases hc8
                          | some ρ2 =>
                            rw [f3] at hc8
                            dsimp only at hc8
                            intro bs bH bC bcl bfp
                            refine hg1 bs bH bC bcl bfp _ _ _ _ _ d1 x1 ρ2 _ scd rd1 f3 fun σ3 s3 l3 k3 => ⟨wipe_same l3 k3 hts1, ?_⟩
                            intro bs bH bC bcl bfp
                            refine ht1 bs bH bC bcl bfp _ _ _ _ _ _ _ s3 takes0 ?_
                            cases f4 : ft1 ρ2 with
                            | bad => rw [f4] at hc8; cases hc8
                            | err z => rw [f4] at hc8; cases hc8
                            | ok b1 =>
                              rw [f4] at hc8
                              simp only [nx_ok, ok_bind] at hc8
                              intro H5 g5
                              have gc5 := gcd.trans g5
                              have stayG : ∀ {H6 : Hp} {L6 : List Addr}, (∀ a, Sh (RU R (A :: L')) Ls a → Hc a ≠ none → Sh (RU R (A :: L6)) Ls a) → (∀ a o, Hc a = some o → (Sh (RU R (A :: L')) Ls a ∨ (∃ ys, o = .tup ys) ∨ (∃ ob u, o = .frz ob u)) → H6 a = some o) → G1 (Sh (RU R (A :: L6)) Ls) H6 := fun a b => (show Stays G1 from st1) _ _ _ _ a b gc
                              cases b1 with
                              | false =>
                                rw [if_neg (by decide)] at hc8 ⊢
                                exact ⟨acc', L', done', rest1, acd.grow g5, hc8, hc9, sc.grow gc5, stayG (fun a z _ => z) fun a o e _ => gc5 _ _ e⟩
                              | true =>
                                rw [if_pos rfl] at hc8 ⊢
                                intro bs bH bC bcl bfp
                                refine he bs bH bC bcl bfp _ _ _ _ _ _ _ (s3.grow g5) takes0 ?_
                                cases f5 : fe ρ2 with
                                | bad => rw [f5] at hc8; cases hc8
                                | err z => rw [f5] at hc8; cases hc8
                                | ok y =>
                                  rw [f5] at hc8
                                  simp only [nx_ok, ok_bind] at hc8
                                  cases f6 : lcGo tgf1 ft1 fe (wipeR ρ1 vs1) (ds1.drop (j + 1)) with
                                  | bad => rw [f6] at hc8; cases hc8
                                  | err z => rw [f6] at hc8; cases hc8
                                  | ok rest2 =>
                                    rw [f6] at hc8
                                    cases hc8
                                    intro v H6 Lt g6 o6 nd6 fr6
                                    have ac5 := acd.grow g5
                                    have acp := ac5.push g6 o6 nd6 fr6
                                    have hlen := congrArg List.length hc9
                                    have hl2 := ac.ows.len
                                    simp only [List.length_append, List.length_cons] at hlen
                                    have es : RU R (A :: (L' ++ Lt)) = RU (RU R (A :: L')) Lt := by rw [ru_app]; rfl
                                    have hA6 : H6 A = some (.lst acc') := g6 _ _ ac5.at_
                                    have RA : RU R (A :: L') A := .inr (by simp)
                                    have s6 : SR X.K (RU (RU R (A :: L')) Lt) H6 (wipe σ1 vs1) (wipeR ρ1 vs1) m Ls := (sc.grow gc5).aside g6 fr6 fun a ha => by
                                      obtain ⟨u, eu, _⟩ := o6.mem a ha
                                      rw [eu]; simp
                                    have s7 := s6.updA (o' := .lst (acc' ++ [v])) (.inl RA) hA6
                                    refine ⟨acc', hA6, by omega, acc' ++ [v], L' ++ Lt, done' ++ [y], rest2, acp, f6, by rw [hc9]; simp, by rw [es]; exact s7, ?_⟩
                                    refine stayG (fun a z nz => ?_) fun a o e z => ?_
                                    · rw [es]
                                      refine ⟨fun w => ?_, z.2⟩
                                      rcases w with w | w
                                      · exact z.1 w
                                      · exact nz (gc5.dom (fr6 a w))
                                    · have na : a ≠ A := fun q => by
                                        subst q
                                        rw [ac.at_] at e; cases e
                                        rcases z with z | ⟨_, z⟩ | ⟨_, _, z⟩
                                        · exact z.1 RA
                                        · cases z
                                        · cases z
                                      rw [upd_ne na]
                                      exact g6 _ _ (gc5 _ _ e)
                        · have ej : j = ds1.length := by omega
                          subst ej
                          refine .inl ⟨sr1.stop _ Hc gc, acc', L', done', rest', ac, e7, ?_⟩
                          rw [List.drop_length] at hc8
                          unfold lcGo at hc8
                          cases hc8
                          rw [hc9]; rfl
          · have ei : i = ds.length := by omega
            subst ei
            refine .inl ⟨sr.stop _ Ha gga, ?_⟩
            rw [List.drop_length] at h8
            unfold lc2Go at h8
            cases h8
            rw [List.append_nil] at h9
            subst h9
            refine q (.ref A) Ha (A :: L) (g1.trans ai.gr) ⟨A, acc, L, rfl, ai.at_, rfl, ai.ows⟩ (List.nodup_cons.mpr ⟨ai.nA, ai.nd⟩) fun a ha => g1.dom (ai.new a ha)
      · rw [if_neg hz] at q; exact q.elim
theorem sf_lc2 {k : Nat} {elt iter iter1 : Expr} {ifs ifs1 : List Expr} {scope : Scope} {own : List (Str × Nat)} {vs1 ts ts1 : List Nat} {fi fi1 : Rho → Rs (List D)} {tgf tgf1 : D → Rho → Option Rho} {ft ft1 : Rho → Rs Bool} {fe : Rho → Rs D}
    (hc : X.calm = true) (hN : X.N.Nodup) (hi : SIt false X m tg iter fi) (ok : BlkOk X.N X.env.scope scope own) (hm0 : ∀ i ∈ own.map (·.2), m.getD i 0 = 0) (hv : ∀ i ∈ vs1, i ∈ own.map (·.2)) (hts : ∀ j ∈ ts, j ∈ own.map (·.2)) (hts1 : ∀ j ∈ ts1, j ∈ vs1)
    (hg : ∀ (s : Shared) (H : Hp) (C : Addr) (cl : List (Str × Addr)) (fp : List Addr), SG (X.blk s H scope (compEnvC scope cl C X.env) fp) m ts tg tgf)
    (ht : ∀ (s : Shared) (H : Hp) (C : Addr) (cl : List (Str × Addr)) (fp : List Addr), STs (X.blk s H scope (compEnvC scope cl C X.env) fp) m ifs ft)
    (hi1 : ∀ (s : Shared) (H : Hp) (C : Addr) (cl : List (Str × Addr)) (fp : List Addr), SIt true (X.blk s H scope (compEnvC scope cl C X.env) fp) m tg1 iter1 fi1)
    (hg1 : ∀ (s : Shared) (H : Hp) (C : Addr) (cl : List (Str × Addr)) (fp : List Addr), SG (X.blk s H scope (compEnvC scope cl C X.env) fp) m ts1 tg1 tgf1)
    (ht1 : ∀ (s : Shared) (H : Hp) (C : Addr) (cl : List (Str × Addr)) (fp : List Addr), STs (X.blk s H scope (compEnvC scope cl C X.env) fp) m ifs1 ft1)
    (he : ∀ (s : Shared) (H : Hp) (C : Addr) (cl : List (Str × Addr)) (fp : List Addr), SF (X.blk s H scope (compEnvC scope cl C X.env) fp) m k elt fe)
    (hs : ∀ x, foldedSetIterable iter X.env x = pure x := by intro _; rfl) (hs1 : ∀ env x, foldedSetIterable iter1 env x = pure x := by intro _ _; rfl) : SF X m (k + 1) (.ListComp elt [⟨tg, iter, ifs, 0⟩, ⟨tg1, iter1, ifs1, 0⟩] scope pos) (fLc2 (own.map (·.2)) vs1 fi tgf ft fi1 tgf1 ft1 fe) := by
  intro R σ H ρ Ls Q W s tk q
  exact UE.of (pe_lc2 (g := BG X scope tg) (tt := BT X scope ifs) (te := BE X scope elt) hc hN piU ok hv bg_ok bt_ok bi_ok bg_ok bt_ok be_ok hs hs1) (lc2_read hi hm0 hv hts hts1 hg ht hi1 hg1 ht1 he R σ H ρ Ls Q W s tk q)
end
/-! ### while, the fuel by the data -/
section
variable {X : Cx} {F : Fx} {m m' ml : List Nat} {body : List Stmt} {c : Expr} {pos : Pos}
def oWhl (t : Rho → Ri Bool) (f : Rho → Out) (n : Rho → Nat) : Rho → Out := fun ρ => oWhile t f (n ρ) ρ
theorem ss_whl (n : Rho → Nat) {t : Rho → Ri Bool} {f : Rho → Out} (hp : Pso X) (ht : SIB X ml c t) (h : SSs X { F with ml := ml } ml ml body f) (w : mwB ml F.me = true := by decide) : SS X F ml ml (.While c body [] pos) (oWhl t f n) :=
  fun R vs σ H ρ Ls E W fx s tk q => ss_while (n ρ) hp ht h w R vs σ H ρ Ls E W fx s tk q
end
end VL

set_option Elab.async false
set_option linter.all false
set_option maxRecDepth 100000
set_option maxHeartbeats 1000000
namespace VL
open PySem PySem.Spec PyProof.Rows L2
/-- what was owned is shared -/
theorem sir_share {X : Cx} {rd : TE} {m : List Nat} {k : Nat} {f : Rho → Ri D} (h : SIr X rd m k f) : SIr X rd m 0 f := by
  intro R σ H ρ Ls Q W s tk q
  refine h R σ H ρ Ls Q W s tk ?_
  cases e1 : f ρ with
  | bad => rw [e1] at q; exact q
  | err x ρ1 => rw [e1] at q; exact q
  | ok d ρ1 =>
    rw [e1] at q
    intro v H' Ls' Lt s' o nd nr t
    have sub : ∀ a, Sh (RU R Lt) Ls' a → H' a ≠ none → Sh R Ls' a := fun a z _ => ⟨fun r => z.1 (.inl r), z.2⟩
    refine q v H' Ls' [] (by rw [ru_nil]; exact s'.drop) (.zero ?_) List.nodup_nil (fun a h => nomatch h) (t.sub fun c hc => hc.imp id fun z => nomatch z)
    rw [ru_nil]
    exact o.share sub fun a ha => ⟨nr a ha, fun i hi => s'.sep i a hi (.inr ha)⟩
/-! ### a body that always hands back a value -/
def NN (f : Rho → Out) : Prop := ∀ ρ ρ', f ρ ≠ .nx ρ'
theorem nn_ret {f : Rho → Ri D} : NN (oRet f) := fun ρ ρ' h => by
  unfold oRet at h
  split at h <;> cases h
theorem nn_retc {d : D} : NN (fun ρ => .ret d ρ) := fun ρ ρ' h => by cases h
theorem nn_bad : NN (fun _ => .bad) := fun ρ ρ' h => by cases h
theorem nn_bind {f g : Rho → Out} (h : NN g) : NN (oBind f g) := fun ρ ρ' e => by
  unfold oBind at e
  split at e
  · exact h _ _ e
  · rename_i o q
    exact q _ e
theorem nn_if {t : Rho → Ri Bool} {f g : Rho → Out} (h : NN f) (h' : NN g) : NN (oIf t f g) := fun ρ ρ' e => by
  unfold oIf at e
  split at e
  · split at e
    · exact h _ _ e
    · exact h' _ _ e
  · cases e
  · cases e
/-! ### operators by the room of the frame (a block has it too) -/
section
variable {X : Cx} {n : Nat} {A : Around} {c : Bool}
theorem o_eqR (hr : Room n A) {j j' : Nat} (hA : X.A = A := by rfl) : Op X.K [j, j'] 0 (r2 (UR X (compareOp .Eq))) (oB gEq) := o_eq n (by rw [hA]; exact hr)
theorem o_neR (hr : Room n A) {j j' : Nat} (hA : X.A = A := by rfl) : Op X.K [j, j'] 0 (r2 (UR X (compareOp .NotEq))) (oB gNe) := o_ne n (by rw [hA]; exact hr)
theorem o_inR (hr : Room n A) {j : Nat} (hA : X.A = A := by rfl) : Op X.K [j, 1] 0 (r2 (UR X (compareOp .In))) (oB gIn) := o_in n (by rw [hA]; exact hr)
theorem o_notInR (hr : Room n A) {j : Nat} (hA : X.A = A := by rfl) : Op X.K [j, 1] 0 (r2 (UR X (compareOp .NotIn))) (oB gNotIn) := o_notIn n (by rw [hA]; exact hr)
theorem o_dinR (hr : Room n A) (hA : X.A = A := by rfl) : Op X.K [0, 1] 0 (r2 (UR X (compareOp .In))) (oB gDin) := o_din n (by rw [hA]; exact hr)
theorem o_dnotinR (hr : Room n A) (hA : X.A = A := by rfl) : Op X.K [0, 1] 0 (r2 (UR X (compareOp .NotIn))) (oB gDnotin) := o_dnotin n (by rw [hA]; exact hr)
theorem ev_dgetR {a b : Expr} {pos : Pos} (hr : Room n A) (hs : NoSl b) (hA : X.A = A := by rfl) : EvN X (.Subscript a b pos) [a, b] (r2 fun x y H Q => ∃ a v, x = .ref a ∧ DGet H a y (some v) ∧ Q v H) := ev_dget n (by rw [hA]; exact hr) hs
theorem o_sumR (hc : c = true) (h : X.calm = c := by rfl) : Op X.K [1] 0 (UC X (.builtin "sum")) gSum := o_sum (h.trans hc)
theorem o_allR (hc : c = true) (h : X.calm = c := by rfl) : Op X.K [1] 0 (UC X (.builtin "all")) (oB gAll) := o_all (h.trans hc)
theorem o_anyR (hc : c = true) (h : X.calm = c := by rfl) : Op X.K [1] 0 (UC X (.builtin "any")) (oB gAny) := o_any (h.trans hc)
theorem o_max2R (hc : c = true) (h : X.calm = c := by rfl) : Op X.K [0, 0] 0 (UC X (.builtin "max")) gMax2 := o_max2 (h.trans hc)
theorem o_min2R (hc : c = true) (h : X.calm = c := by rfl) : Op X.K [0, 0] 0 (UC X (.builtin "min")) gMin2 := o_min2 (h.trans hc)
end
/-! ### fuel -/
def intAt (ρ : Rho) (i : Nat) : Int := match ρ[i]? with
  | some (some (.int n)) => n
  | _ => 0
def fuel2 (ρ : Rho) (i : Nat) : Nat := (intAt ρ i).toNat + 2
end VL

set_option Elab.async false
set_option linter.all false
set_option maxRecDepth 100000
set_option maxHeartbeats 4000000
namespace VL
open PySem PySem.Spec PyProof.Rows L2
/-! ### what a function of the layer gives, told by what must follow -/
/-- a proof by computing that simp does not take for one -/
theorem nrfl {α : Sort _} {a b : α} (h : a = b) : a = b := h
def wR {α : Type} (r : Rs α) (Q : α → Prop) (E : Exn → Prop) : Prop := match r with
  | .ok a => Q a
  | .err x => E x
  | .bad => False
def wE (f : Rho → Rs D) (ρ : Rho) (Q : D → Prop) (E : Exn → Prop) : Prop := wR (f ρ) Q E
def wB (f : Rho → Rs Bool) (ρ : Rho) (Q : Bool → Prop) (E : Exn → Prop) : Prop := wR (f ρ) Q E
def wL (f : Rho → Rs (List D)) (ρ : Rho) (Q : List D → Prop) (E : Exn → Prop) : Prop := wR (f ρ) Q E
def wO {α : Type} (o : Option α) (Q : α → Prop) : Prop := match o with
  | some a => Q a
  | none => False
def wRi {α : Type} (r : Ri α) (Q : α → Rho → Prop) (E : Exn → Rho → Prop) : Prop := match r with
  | .ok a ρ => Q a ρ
  | .err x ρ => E x ρ
  | .bad => False
def wI (f : Rho → Ri D) (ρ : Rho) (Q : D → Rho → Prop) (E : Exn → Rho → Prop) : Prop := wRi (f ρ) Q E
def wIB (f : Rho → Ri Bool) (ρ : Rho) (Q : Bool → Rho → Prop) (E : Exn → Rho → Prop) : Prop := wRi (f ρ) Q E
def wIL (f : Rho → Ri (List D)) (ρ : Rho) (Q : List D → Rho → Prop) (E : Exn → Rho → Prop) : Prop := wRi (f ρ) Q E
structure Kt where
  N : Rho → Prop
  T : D → Rho → Prop
  B : Rho → Prop
  C : Rho → Prop
  E : Exn → Rho → Prop
def wO' (o : Out) (k : Kt) : Prop := match o with
  | .nx ρ => k.N ρ
  | .ret d ρ => k.T d ρ
  | .bk ρ => k.B ρ
  | .ct ρ => k.C ρ
  | .err x ρ => k.E x ρ
  | .bad => False
def wS (f : Rho → Out) (ρ : Rho) (k : Kt) : Prop := wO' (f ρ) k
theorem wR_bind {α β : Type} {r : Rs α} {f : α → Rs β} {Q : β → Prop} {E : Exn → Prop} : wR (r >>= f) Q E = wR r (fun a => wR (f a) Q E) E := by cases r <;> rfl
theorem wR_ofO {α : Type} {o : Option α} {Q : α → Prop} {E : Exn → Prop} : wR (ofO o) Q E = wO o Q := by cases o <;> rfl
section
variable {ρ : Rho} {Q : D → Prop} {QB : Bool → Prop} {QL : List D → Prop} {E : Exn → Prop} {f g f1 f2 f3 : Rho → Rs D} {fs : Rho → Rs (List D)} {t t' : Rho → Rs Bool} {i j : Nat} {d : D}
theorem w_nil : wL (fun _ => .ok []) ρ QL E = QL [] := nrfl rfl
theorem w_cons : wL (fCons f fs) ρ QL E = wE f ρ (fun d => wL fs ρ (fun ds => QL (d :: ds)) E) E := by
  unfold wL wE fCons
  rw [wR_bind]
  congr 1
  funext d
  rw [wR_bind]; rfl
theorem w_op {G : List D → Option D} : wE (fOp fs G) ρ Q E = wL fs ρ (fun ds => wO (G ds) Q) E := by
  unfold wE wL fOp
  rw [wR_bind]
  congr 1
  funext ds
  exact wR_ofO
theorem w_opB {G : List D → Option Bool} : wB (fOpB fs G) ρ QB E = wL fs ρ (fun ds => wO (G ds) QB) E := by
  unfold wB wL fOpB
  rw [wR_bind]
  congr 1
  funext ds
  exact wR_ofO
theorem w_opL {G : List D → Option (List D)} : wE (fOpL fs G) ρ Q E = wL fs ρ (fun ds => wO (G ds) fun zs => Q (.lst zs)) E := by
  unfold wE wL fOpL
  rw [wR_bind]
  congr 1
  funext ds
  rw [wR_bind, wR_ofO]; rfl
/-- a slot -/
def wV (o : Option (Option D)) (Q : D → Prop) : Prop := match o with
  | some (some d) => Q d
  | _ => False
theorem w_var : wE (eVar i) ρ Q E = wV ρ[i]? Q := by
  unfold wE eVar wV
  cases h : ρ[i]? with
  | none => rfl
  | some o => cases o <;> rfl
theorem wV_some : wV (some (some d)) Q = Q d := nrfl rfl
theorem w_c : wE (eC d) ρ Q E = Q d := nrfl rfl
def wT (d : D) (Q : Bool → Prop) : Prop := match d with
  | .bl k => Q k
  | _ => False
theorem wT_bl {b : Bool} : wT (.bl b) QB = QB b := nrfl rfl
theorem w_B : wB (fB f) ρ QB E = wE f ρ (fun d => wT d QB) E := by
  unfold wB wE fB
  cases f ρ with
  | ok d => cases d <;> rfl
  | err x => rfl
  | bad => rfl
theorem w_and : wB (fAnd t t') ρ QB E = wB t ρ (fun k => if k = true then wB t' ρ QB E else QB false) E := by
  unfold wB fAnd
  rw [wR_bind]
  congr 1
  funext k
  cases k <;> rfl
theorem w_or : wB (fOr t t') ρ QB E = wB t ρ (fun k => if k = true then QB true else wB t' ρ QB E) E := by
  unfold wB fOr
  rw [wR_bind]
  congr 1
  funext k
  cases k <;> rfl
theorem w_not : wB (fNot t) ρ QB E = wB t ρ (fun k => QB !k) E := by
  unfold wB fNot
  rw [wR_bind]; rfl
theorem w_yes : wB fYes ρ QB E = QB true := nrfl rfl
theorem w_bl : wE (fBl t) ρ Q E = wB t ρ (fun k => Q (.bl k)) E := by
  unfold wB wE fBl
  rw [wR_bind]; rfl
theorem w_andV : wE (fAndV f g) ρ Q E = wB (fB f) ρ (fun k => if k = true then wE g ρ Q E else Q (.bl false)) E := by
  unfold wB wE fAndV
  rw [wR_bind]
  congr 1
  funext k
  cases k <;> rfl
theorem w_orV : wE (fOrV f g) ρ Q E = wB (fB f) ρ (fun k => if k = true then Q (.bl true) else wE g ρ Q E) E := by
  unfold wB wE fOrV
  rw [wR_bind]
  congr 1
  funext k
  cases k <;> rfl
theorem w_notV : wE (fNotV f) ρ Q E = wB (fB f) ρ (fun k => Q (.bl !k)) E := by
  unfold wB wE fNotV
  rw [wR_bind]; rfl
theorem w_if : wE (fIf t f g) ρ Q E = wB t ρ (fun k => if k = true then wE f ρ Q E else wE g ρ Q E) E := by
  unfold wB wE fIf
  rw [wR_bind]
  congr 1
  funext k
  cases k <;> rfl
theorem w_chain {G G' : List D → Option Bool} : wB (fChain f1 f2 f3 G G') ρ QB E = wE f1 ρ (fun x => wE f2 ρ (fun y => wO (G [x, y]) fun k => if k = true then wE f3 ρ (fun z => wO (G' [y, z]) QB) E else QB false) E) E := by
  unfold wB wE fChain
  rw [wR_bind]
  congr 1
  funext x
  rw [wR_bind]
  congr 1
  funext y
  rw [wR_bind, wR_ofO]
  congr 1
  funext k
  cases k with
  | false => rfl
  | true =>
    rw [if_pos rfl, if_pos rfl, wR_bind]
    congr 1
    funext z
    exact wR_ofO
theorem w_call {F : List D → Rs D} : wE (fCall fs F) ρ Q E = wL fs ρ (fun ds => wR (F ds) Q E) E := by
  unfold wE wL fCall
  rw [wR_bind]
theorem w_callB {F : List D → Rs D} : wE (fCallB fs F) ρ Q E = wL fs ρ (fun ds => wR (F ds) (fun d => flatD d = true ∧ Q d) E) E := by
  unfold wE wL fCallB
  rw [wR_bind]
  congr 1
  funext ds
  rw [wR_bind]
  congr 1
  funext d
  by_cases q : flatD d = true
  · rw [if_pos q]; simp [wR, q]
  · rw [if_neg q]; simp [wR, q]
theorem w_meth {C : Addr} {mt : Str} {fo : Rho → Rs D} {F : List D → Rs D} : wE (fMeth C mt fo fs F) ρ Q E = wE fo ρ (fun o => isC C mt o = true ∧ wL fs ρ (fun ds => wR (F (o :: ds)) Q fun _ => False) E) E := by
  unfold wE wL fMeth
  rw [wR_bind]
  congr 1
  funext o
  by_cases q : isC C mt o = true
  · rw [if_pos q, wR_bind]
    simp only [q, true_and]
    congr 1
    funext ds
    cases F (o :: ds) <;> rfl
  · rw [if_neg q]; simp [wR, q]
theorem w_make {C : Addr} {F : List D → Ro} : wE (fMake C fs F) ρ Q E = wL fs ρ (fun ds => ∃ d0, F (.ins C [] [] :: ds) = .ok .non d0 ∧ Q d0) E := by
  unfold wE wL fMake
  rw [wR_bind]
  congr 1
  funext ds
  cases e : F (.ins C [] [] :: ds) with
  | ok d d0 =>
    cases d with
    | non => simp [wR]
    | _ => simp [wR]
  | _ => simp [wR]
theorem w_items : wL (fItems f) ρ QL E = wE f ρ (fun d => match d with
    | .lst ds => QL ds
    | .tup ds => QL ds
    | .str z => QL (z.cps.toList.map fun c => .str ⟨#[c]⟩)
    | _ => False) E := by
  unfold wL wE fItems
  cases f ρ with
  | ok d => cases d <;> rfl
  | err x => rfl
  | bad => rfl
theorem w_range : wL (fRange fs) ρ QL E = wL fs ρ (fun ds => match ds with
    | [.int n] => (-(2 ^ 62) ≤ n ∧ n < 2 ^ 62) ∧ QL (rngI 0 n.toNat)
    | [.int a, .int b] => (-(2 ^ 62) ≤ a ∧ a < 2 ^ 62 ∧ -(2 ^ 62) ≤ b ∧ b < 2 ^ 62) ∧ QL (rngI a (b - a).toNat)
    | _ => False) E := by
  unfold wL fRange
  cases fs ρ with
  | ok ds =>
    cases ds with
    | nil => rfl
    | cons a r =>
      cases r with
      | nil =>
        cases a with
        | int n =>
          show wR (if -(2 ^ 62) ≤ n ∧ n < 2 ^ 62 then _ else _) QL E = ((-(2 ^ 62) ≤ n ∧ n < 2 ^ 62) ∧ _)
          by_cases q : -(2 ^ 62) ≤ n ∧ n < 2 ^ 62
          · rw [if_pos q]; simp only [q, and_self, true_and]; rfl
          · rw [if_neg q]; simp only [q, false_and]; rfl
        | _ => rfl
      | cons b r =>
        cases r with
        | nil =>
          cases a with
          | int n =>
            cases b with
            | int b =>
              show wR (if -(2 ^ 62) ≤ n ∧ n < 2 ^ 62 ∧ -(2 ^ 62) ≤ b ∧ b < 2 ^ 62 then _ else _) QL E = ((-(2 ^ 62) ≤ n ∧ n < 2 ^ 62 ∧ -(2 ^ 62) ≤ b ∧ b < 2 ^ 62) ∧ _)
              by_cases q : -(2 ^ 62) ≤ n ∧ n < 2 ^ 62 ∧ -(2 ^ 62) ≤ b ∧ b < 2 ^ 62
              · rw [if_pos q]; simp only [q, and_self, true_and]; rfl
              · rw [if_neg q]; simp only [q, false_and]; rfl
            | _ => rfl
          | _ => cases b <;> rfl
        | cons c r => cases a <;> cases b <;> rfl
  | err x => rfl
  | bad => rfl
theorem w_zip : wL (fZip f g) ρ QL E = wE f ρ (fun x => wE g ρ (fun y => match x, y with
    | .lst a, .lst b => QL ((a.zip b).map fun p => .tup [p.1, p.2])
    | .tup a, .tup b => QL ((a.zip b).map fun p => .tup [p.1, p.2])
    | _, _ => False) E) E := by
  unfold wL wE fZip
  rw [wR_bind]
  congr 1
  funext x
  rw [wR_bind]
  congr 1
  funext y
  cases x <;> cases y <;> rfl
theorem w_disp1 : wE (fDisp1 f g) ρ Q E = wE f ρ (fun k => wE g ρ (fun v => wO (keyD k) fun k => Q (.dk [k] [v])) E) E := by
  unfold wE fDisp1
  rw [wR_bind]
  congr 1
  funext k
  rw [wR_bind]
  congr 1
  funext v
  cases keyD k <;> rfl
/-- comprehensions -/
def wLc (tg : D → Rho → Option Rho) (ft : Rho → Rs Bool) (fe : Rho → Rs D) (ρ : Rho) : List D → (List D → Prop) → Prop
  | [], Q => Q []
  | d :: ds, Q => wO (tg d ρ) fun ρ' => wB ft ρ' (fun k => if k = true then wE fe ρ' (fun y => wLc tg ft fe ρ ds fun r => Q (y :: r)) (fun _ => False) else wLc tg ft fe ρ ds Q) fun _ => False
theorem wR_nx {α : Type} {r : Rs α} {Q : α → Prop} {E : Exn → Prop} : wR (nx r) Q E = wR r Q fun _ => False := by cases r <;> rfl
theorem w_lcGo {tg : D → Rho → Option Rho} {ft : Rho → Rs Bool} {fe : Rho → Rs D} {ρ : Rho} : ∀ {ds : List D} {Q : List D → Prop} {E : Exn → Prop}, wR (lcGo tg ft fe ρ ds) Q E = wLc tg ft fe ρ ds Q
  | [], Q, E => rfl
  | d :: ds, Q, E => by
    unfold lcGo wLc
    cases tg d ρ with
    | none => rfl
    | some ρ' =>
      show wR (nx (ft ρ') >>= _) Q E = wB ft ρ' _ _
      rw [wR_bind, wR_nx]
      unfold wB
      congr 1
      funext k
      cases k with
      | false => exact w_lcGo
      | true =>
        rw [if_pos rfl, if_pos rfl, wR_bind, wR_nx]
        unfold wE
        congr 1
        funext y
        rw [wR_bind, w_lcGo]; rfl
theorem w_lc {vs : List Nat} {fi : Rho → Rs (List D)} {tg : D → Rho → Option Rho} {ft : Rho → Rs Bool} {fe : Rho → Rs D} : wE (fLc vs fi tg ft fe) ρ Q E = wL fi ρ (fun ds => ds.length ≤ sizeLine ∧ wLc tg ft fe (wipeR ρ vs) ds fun r => Q (.lst r)) E := by
  unfold wE wL fLc
  rw [wR_bind]
  congr 1
  funext ds
  by_cases q : ds.length ≤ sizeLine
  · rw [if_pos q, wR_bind, w_lcGo]; simp only [q, true_and]; rfl
  · rw [if_neg q]; simp only [q, false_and]; rfl
/-- .. by functions of the items -/
theorem wLc_map {tg : D → Rho → Option Rho} {ft : Rho → Rs Bool} {fe : Rho → Rs D} {ρ : Rho} {p : D → Bool} {h : D → D} : ∀ {ds : List D} {Q : List D → Prop}, (∀ d ∈ ds, wO (tg d ρ) fun ρ' => wB ft ρ' (fun k => k = p d ∧ (k = true → wE fe ρ' (fun y => y = h d) fun _ => False)) fun _ => False) → Q ((ds.filter p).map h) → wLc tg ft fe ρ ds Q
  | [], Q, hd, q => q
  | d :: ds, Q, hd, q => by
    unfold wLc
    have h1 := hd d List.mem_cons_self
    cases e : tg d ρ with
    | none => rw [e] at h1; exact h1
    | some ρ' =>
      rw [e] at h1
      have h1' : wB ft ρ' (fun k => k = p d ∧ (k = true → wE fe ρ' (fun y => y = h d) fun _ => False)) fun _ => False := h1
      show wB ft ρ' _ _
      unfold wB wR at h1' ⊢
      cases e2 : ft ρ' with
      | bad => rw [e2] at h1'; exact h1'
      | err x => rw [e2] at h1'; exact h1'
      | ok k =>
        rw [e2] at h1'
        obtain ⟨h2, h3⟩ := h1'
        cases k with
        | false =>
          dsimp only
          rw [if_neg (by decide)]
          refine wLc_map (p := p) (h := h) (fun d' hd' => hd d' (List.mem_cons_of_mem _ hd')) ?_
          rw [List.filter_cons_of_neg (by rw [← h2]; decide)] at q
          exact q
        | true =>
          dsimp only
          rw [if_pos rfl]
          have h4 := h3 rfl
          unfold wE wR at h4 ⊢
          cases e3 : fe ρ' with
          | bad => rw [e3] at h4; exact h4
          | err x => rw [e3] at h4; exact h4
          | ok y =>
            rw [e3] at h4
            have h5 : y = h d := h4
            subst h5
            dsimp only
            refine wLc_map (p := p) (h := h) (fun d' hd' => hd d' (List.mem_cons_of_mem _ hd')) ?_
            rw [List.filter_cons_of_pos (by rw [← h2]), List.map_cons] at q
            exact q
end
section
variable {ρ : Rho} {Q : D → Rho → Prop} {QB : Bool → Rho → Prop} {QL : List D → Rho → Prop} {E : Exn → Rho → Prop} {f g : Rho → Ri D} {fs : Rho → Ri (List D)} {t t' : Rho → Ri Bool} {i j : Nat} {d : D} {k : Kt}
theorem wi_up {f : Rho → Rs D} : wI (up f) ρ Q E = wE f ρ (fun d => Q d ρ) fun x => E x ρ := by unfold wI wE up; cases f ρ <;> rfl
theorem wi_upB {f : Rho → Rs Bool} : wIB (upB f) ρ QB E = wB f ρ (fun d => QB d ρ) fun x => E x ρ := by unfold wIB wB upB; cases f ρ <;> rfl
theorem wi_nil : wIL (fun ρ => .ok [] ρ) ρ QL E = QL [] ρ := nrfl rfl
theorem wi_cons : wIL (iCons f fs) ρ QL E = wI f ρ (fun d ρ1 => wIL fs ρ1 (fun ds ρ2 => QL (d :: ds) ρ2) E) E := by
  unfold wIL wI iCons
  cases f ρ with
  | ok d ρ1 => show wRi (match fs ρ1 with | .ok ds ρ2 => _ | .err x ρ2 => _ | .bad => _) QL E = wRi (fs ρ1) _ E; cases fs ρ1 <;> rfl
  | err x ρ1 => rfl
  | bad => rfl
theorem wi_op {G : List D → Option D} : wI (iOp fs G) ρ Q E = wIL fs ρ (fun ds ρ1 => wO (G ds) fun d => Q d ρ1) E := by
  unfold wIL wI iOp
  cases fs ρ with
  | ok ds ρ1 => show wRi (match G ds with | some d => _ | none => _) Q E = wO (G ds) _; cases G ds <;> rfl
  | err x ρ1 => rfl
  | bad => rfl
theorem wi_opL {G : List D → Option (List D)} : wI (iOpL fs G) ρ Q E = wIL fs ρ (fun ds ρ1 => wO (G ds) fun d => Q (.lst d) ρ1) E := by
  unfold iOpL
  rw [wi_op]
  congr 1
  funext ds ρ1
  cases G ds <;> rfl
theorem wi_opB {G : List D → Option Bool} : wIB (iOpB fs G) ρ QB E = wIL fs ρ (fun ds ρ1 => wO (G ds) fun d => QB d ρ1) E := by
  unfold wIL wIB iOpB
  cases fs ρ with
  | ok ds ρ1 => show wRi (match G ds with | some d => _ | none => _) QB E = wO (G ds) _; cases G ds <;> rfl
  | err x ρ1 => rfl
  | bad => rfl
theorem wi_B : wIB (iB f) ρ QB E = wI f ρ (fun d ρ1 => wT d fun b => QB b ρ1) E := by
  unfold wIB wI iB
  cases f ρ with
  | ok d ρ1 => cases d <;> rfl
  | err x ρ1 => rfl
  | bad => rfl
theorem wi_and : wIB (iAnd t t') ρ QB E = wIB t ρ (fun b ρ1 => if b = true then wIB t' ρ1 QB E else QB false ρ1) E := by
  unfold wIB iAnd
  cases t ρ with
  | ok b ρ1 => cases b <;> rfl
  | err x ρ1 => rfl
  | bad => rfl
theorem wi_or : wIB (iOr t t') ρ QB E = wIB t ρ (fun b ρ1 => if b = true then QB true ρ1 else wIB t' ρ1 QB E) E := by
  unfold wIB iOr
  cases t ρ with
  | ok b ρ1 => cases b <;> rfl
  | err x ρ1 => rfl
  | bad => rfl
theorem wi_not : wIB (iNot t) ρ QB E = wIB t ρ (fun b ρ1 => QB (!b) ρ1) E := by
  unfold wIB iNot
  cases t ρ <;> rfl
theorem wi_if : wI (iIf t f g) ρ Q E = wIB t ρ (fun b ρ1 => if b = true then wI f ρ1 Q E else wI g ρ1 Q E) E := by
  unfold wIB wI iIf
  cases t ρ with
  | ok b ρ1 => cases b <;> rfl
  | err x ρ1 => rfl
  | bad => rfl
theorem wi_call {F : List D → Rs D} : wI (iCall fs F) ρ Q E = wIL fs ρ (fun ds ρ1 => wR (F ds) (fun d => Q d ρ1) fun x => E x ρ1) E := by
  unfold wIL wI iCall
  cases fs ρ with
  | ok ds ρ1 => show wRi (match F ds with | .ok d => _ | .err x => _ | .bad => _) Q E = wR (F ds) _ _; cases F ds <;> rfl
  | err x ρ1 => rfl
  | bad => rfl
theorem wi_here : wIL (iHere i fs) ρ QL E = wV ρ[i]? fun _ => wIL fs ρ (fun ds ρ1 => QL (.non :: ds) ρ1) E := by
  unfold wIL iHere wV
  cases ρ[i]? with
  | none => rfl
  | some o =>
    cases o with
    | none => rfl
    | some d => show wRi (match fs ρ with | .ok ds ρ1 => _ | .err x ρ1 => _ | .bad => _) QL E = wRi (fs ρ) _ E; cases fs ρ <;> rfl
def wRo (r : Ro) (Q : D → D → Prop) : Prop := match r with
  | .ok d d0 => Q d d0
  | _ => False
theorem wi_callIO {i0 j : Nat} {F : List D → Ro} : wI (iCallIO i0 j fs F) ρ Q E = wIL fs ρ (fun ds ρ1 => wV ρ1[i0]? fun d0 => wRo (F (ds.set j d0)) fun d d1 => Q d (ρ1.set i0 (some d1))) E := by
  unfold wIL wI iCallIO
  cases fs ρ with
  | ok ds ρ1 =>
    show wRi (match ρ1[i0]? with | some (some d0) => _ | _ => _) Q E = wV ρ1[i0]? _
    unfold wV
    cases ρ1[i0]? with
    | none => rfl
    | some o =>
      cases o with
      | none => rfl
      | some d0 => show wRi (match F (ds.set j d0) with | .ok d d1 => _ | _ => _) Q E = wRo (F (ds.set j d0)) _; cases F (ds.set j d0) <;> rfl
  | err x ρ1 => rfl
  | bad => rfl
def wLst (o : Option (Option D)) (Q : List D → Prop) : Prop := match o with
  | some (some (.lst ds)) => Q ds
  | _ => False
theorem wLst_some {ds : List D} {Q : List D → Prop} : wLst (some (some (.lst ds))) Q = Q ds := nrfl rfl
theorem wi_app : wI (iApp i f) ρ Q E = wLst ρ[i]? fun _ => wI f ρ (fun d ρ1 => wLst ρ1[i]? fun ds => ds.length < sizeLine ∧ Q .non (ρ1.set i (some (.lst (ds ++ [d]))))) E := by
  unfold wI iApp wLst
  cases ρ[i]? with
  | none => rfl
  | some o =>
    cases o with
    | none => rfl
    | some dd =>
      cases dd with
      | lst ds =>
        dsimp only
        cases f ρ with
        | ok d ρ1 =>
          show wRi (match ρ1[i]? with | some (some (.lst ds)) => _ | _ => _) Q E = (match ρ1[i]? with | some (some (.lst ds)) => _ | _ => False)
          cases ρ1[i]? with
          | none => rfl
          | some o =>
            cases o with
            | none => rfl
            | some dd =>
              cases dd with
              | lst ds' =>
                show wRi (if ds'.length < sizeLine then _ else _) Q E = (ds'.length < sizeLine ∧ _)
                by_cases q : ds'.length < sizeLine
                · rw [if_pos q]; simp only [q, true_and]; rfl
                · rw [if_neg q]; simp only [q, false_and]; rfl
              | _ => rfl
        | err x ρ1 => rfl
        | bad => rfl
      | _ => rfl
theorem wi_pop : wI (iPop i) ρ Q E = wLst ρ[i]? fun ds => wO ds[ds.length - 1]? fun d => Q d (ρ.set i (some (.lst ds.dropLast))) := by
  unfold wI iPop wLst
  cases ρ[i]? with
  | none => rfl
  | some o =>
    cases o with
    | none => rfl
    | some dd =>
      cases dd with
      | lst ds => dsimp only; cases ds[ds.length - 1]? <;> rfl
      | _ => rfl
def wLcI (vs : List Nat) (tg : D → Rho → Option Rho) (ft : Rho → Rs Bool) (fe : Rho → Ri D) : List D → Rho → (List D → Rho → Prop) → Prop
  | [], ρ, Q => Q [] ρ
  | d :: ds, ρ, Q => wO (tg d ρ) fun ρ1 => wB ft ρ1 (fun b => if b = true then wI fe ρ1 (fun y ρ2 => wLcI vs tg ft fe ds (wipeR ρ2 vs) fun r ρ3 => Q (y :: r) ρ3) (fun _ _ => False) else wLcI vs tg ft fe ds (wipeR ρ1 vs) Q) fun _ => False
def wOo (o : Option (List D × Rho)) (Q : List D → Rho → Prop) : Prop := match o with
  | some (r, ρ) => Q r ρ
  | none => False
theorem w_lcGoI {vs : List Nat} {tg : D → Rho → Option Rho} {ft : Rho → Rs Bool} {fe : Rho → Ri D} : ∀ {ds : List D} {ρ : Rho} {Q : List D → Rho → Prop}, wOo (lcGoI vs tg ft fe ds ρ) Q = wLcI vs tg ft fe ds ρ Q
  | [], ρ, Q => rfl
  | d :: ds, ρ, Q => by
    unfold lcGoI wLcI
    cases tg d ρ with
    | none => rfl
    | some ρ1 =>
      show wOo (match ft ρ1 with | .ok true => _ | .ok false => _ | _ => _) Q = wB ft ρ1 _ _
      unfold wB wR
      cases ft ρ1 with
      | bad => rfl
      | err x => rfl
      | ok b =>
        cases b with
        | false => exact w_lcGoI
        | true =>
          dsimp only
          rw [if_pos rfl]
          unfold wI wRi
          cases fe ρ1 with
          | bad => rfl
          | err x ρ2 => rfl
          | ok y ρ2 =>
            dsimp only
            rw [← w_lcGoI]
            cases lcGoI vs tg ft fe ds (wipeR ρ2 vs) with
            | none => rfl
            | some p => rfl
theorem wi_lc {vs : List Nat} {fi : Rho → Rs (List D)} {tg : D → Rho → Option Rho} {ft : Rho → Rs Bool} {fe : Rho → Ri D} : wI (iLc vs fi tg ft fe) ρ Q E = wL fi ρ (fun ds => ds.length ≤ sizeLine ∧ wLcI vs tg ft fe ds (wipeR ρ vs) fun r ρn => Q (.lst r) (restR ρ ρn vs)) fun x => E x ρ := by
  unfold wI wL iLc
  cases fi ρ with
  | ok ds =>
    show wRi (if ds.length ≤ sizeLine then _ else _) Q E = (ds.length ≤ sizeLine ∧ _)
    by_cases q : ds.length ≤ sizeLine
    · rw [if_pos q, ← w_lcGoI]
      simp only [q, true_and]
      cases lcGoI vs tg ft fe ds (wipeR ρ vs) with
      | none => rfl
      | some p => rfl
    · rw [if_neg q]; simp only [q, false_and]; rfl
  | err x => rfl
  | bad => rfl
/-! statements -/
theorem ws_nx : wS .nx ρ k = k.N ρ := nrfl rfl
theorem ws_bk : wS .bk ρ k = k.B ρ := nrfl rfl
theorem ws_ct : wS .ct ρ k = k.C ρ := nrfl rfl
theorem ws_retN : wS (fun ρ => .ret d ρ) ρ k = k.T d ρ := nrfl rfl
theorem ws_bind {f g : Rho → Out} : wS (oBind f g) ρ k = wS f ρ { k with N := fun ρ1 => wS g ρ1 k } := by
  unfold wS oBind
  cases f ρ <;> rfl
theorem ws_ret : wS (oRet f) ρ k = wI f ρ k.T k.E := by unfold wS wI oRet; cases f ρ <;> rfl
theorem ws_drop : wS (oDrop f) ρ k = wI f ρ (fun _ ρ1 => k.N ρ1) k.E := by unfold wS wI oDrop; cases f ρ <;> rfl
theorem ws_set : wS (oSet i f) ρ k = wI f ρ (fun d ρ1 => i < ρ1.length ∧ k.N (ρ1.set i (some d))) k.E := by
  unfold wS wI oSet
  cases f ρ with
  | ok d ρ1 =>
    show wO' (if i < ρ1.length then _ else _) k = (i < ρ1.length ∧ _)
    by_cases q : i < ρ1.length
    · rw [if_pos q]; simp only [q, true_and]; rfl
    · rw [if_neg q]; simp only [q, false_and]; rfl
  | err x ρ1 => rfl
  | bad => rfl
theorem ws_if {a b : Rho → Out} : wS (oIf t a b) ρ k = wIB t ρ (fun c ρ1 => if c = true then wS a ρ1 k else wS b ρ1 k) k.E := by
  unfold wS wIB oIf
  cases t ρ with
  | ok c ρ1 => cases c <;> rfl
  | err x ρ1 => rfl
  | bad => rfl
theorem ws_par : wS (oPar i j f g) ρ k = wI f ρ (fun d1 ρ1 => wI g ρ1 (fun d2 ρ2 => (i < ρ2.length ∧ j < ρ2.length) ∧ k.N ((ρ2.set j (some d2)).set i (some d1))) k.E) k.E := by
  unfold wS wI oPar
  cases f ρ with
  | ok d1 ρ1 =>
    show wO' (match g ρ1 with | .ok d2 ρ2 => _ | .err x ρ2 => _ | .bad => _) k = wRi (g ρ1) _ _
    cases g ρ1 with
    | ok d2 ρ2 =>
      show wO' (if i < ρ2.length ∧ j < ρ2.length then _ else _) k = (_ ∧ _)
      by_cases q : i < ρ2.length ∧ j < ρ2.length
      · rw [if_pos q]; simp only [q, and_self, true_and]; rfl
      · rw [if_neg q]; simp only [q, false_and]; rfl
    | err x ρ2 => rfl
    | bad => rfl
  | err x ρ1 => rfl
  | bad => rfl
/-- a place -/
def wP (pl : Rho → Rs (D × (D → D))) (ρ : Rho) (Q : D × (D → D) → Prop) : Prop := match pl ρ with
  | .ok dc => Q dc
  | _ => False
theorem wp_var {Q : D × (D → D) → Prop} : wP (plVar i) ρ Q = wV ρ[i]? fun d => Q (d, id) := by
  unfold wP plVar wV
  cases ρ[i]? with
  | none => rfl
  | some o => cases o <;> rfl
def wPx (dc : D × (D → D)) (j : D) (Q : D × (D → D) → Prop) : Prop := match dc.1, j with
  | .lst ds, .int n => wO (ixN ds.length n) fun j => wO ds[j]? fun d1 => Q (d1, fun d' => dc.2 (.lst (ds.set j d')))
  | _, _ => False
theorem wPx_lst {ds : List D} {c : D → D} {n : Int} {Q : D × (D → D) → Prop} : wPx (.lst ds, c) (.int n) Q = wO (ixN ds.length n) fun j => wO ds[j]? fun d1 => Q (d1, fun d' => c (.lst (ds.set j d'))) := nrfl rfl
theorem wp_ix {pl : Rho → Rs (D × (D → D))} {g : Rho → Rs D} {Q : D × (D → D) → Prop} : wP (plIx pl g) ρ Q = wP pl ρ fun dc => wE g ρ (fun j => wPx dc j Q) fun _ => False := by
  unfold wP plIx wE
  cases pl ρ with
  | err x => rfl
  | bad => rfl
  | ok dc =>
    rw [ok_bind]
    cases g ρ with
    | err x => rfl
    | bad => rfl
    | ok j =>
      rw [ok_bind]
      unfold wR wPx
      dsimp only
      split
      · rename_i dc' e
        split at e
        · rename_i ds n h1
          cases e2 : ixN ds.length n with
          | none => rw [e2] at e; cases e
          | some m =>
            rw [e2] at e
            dsimp only at e
            cases e3 : ds[m]? with
            | none => rw [e3] at e; cases e
            | some d1 => rw [e3] at e; cases e; simp only [wO, h1, e2, e3]
        · cases e
      · rename_i hn
        split
        · rename_i ds n h1
          rw [h1] at hn
          cases e2 : ixN ds.length n with
          | none => rfl
          | some m =>
            cases e3 : ds[m]? with
            | none => simp only [wO, e3]
            | some d1 => exact absurd (show _ = Rs.ok (d1, fun d' => dc.snd (D.lst (ds.set m d'))) by simp only [e2, e3]) (hn _)
        · rfl
theorem ws_sub {pl : Rho → Rs (D × (D → D))} {g : Rho → Rs D} : wS (oSub i f pl g) ρ k = wI f ρ (fun d ρ1 => wP (plIx pl g) ρ1 fun dc => k.N (ρ1.set i (some (dc.2 d)))) k.E := by
  unfold wS wI oSub
  cases f ρ with
  | ok d ρ1 =>
    show wO' (match plIx pl g ρ1 with | .ok dc => _ | .err x => _ | .bad => _) k = wP (plIx pl g) ρ1 _
    unfold wP
    cases plIx pl g ρ1 <;> rfl
  | err x ρ1 => rfl
  | bad => rfl
theorem ws_asg {g : D → Rho → Option Rho} : wS (oAsg f g) ρ k = wI f ρ (fun d ρ1 => wO (g d ρ1) k.N) k.E := by
  unfold wS wI oAsg
  cases f ρ with
  | ok d ρ1 =>
    show wO' (match g d ρ1 with | some ρ2 => _ | none => _) k = wO (g d ρ1) _
    cases g d ρ1 <;> rfl
  | err x ρ1 => rfl
  | bad => rfl
theorem w_gN {d : D} {Q : Rho → Prop} : wO (gN i d ρ) Q = (i < ρ.length ∧ Q (ρ.set i (some d))) := by
  unfold gN
  by_cases q : i < ρ.length
  · rw [if_pos q]; simp only [q, true_and]; rfl
  · rw [if_neg q]; simp only [q, false_and]; rfl
theorem w_gT2 {f g : D → Rho → Option Rho} {x y : D} {Q : Rho → Prop} : wO (gT2 f g (.tup [x, y]) ρ) Q = wO (f x ρ) fun ρ1 => wO (g y ρ1) Q := by
  unfold gT2
  show wO ((f x ρ).bind (g y)) Q = _
  cases f x ρ <;> rfl
theorem w_gSub {pl : Rho → Rs (D × (D → D))} {g : Rho → Rs D} {d : D} {Q : Rho → Prop} : wO (gSubP i pl g d ρ) Q = wP (plIx pl g) ρ fun dc => Q (ρ.set i (some (dc.2 d))) := by
  unfold gSubP wP
  cases plIx pl g ρ <;> rfl
/-- for: what holds before each turn -/
theorem ws_for {fi : Rho → Rs (List D)} {tg : D → Rho → Option Rho} {f : Rho → Out} (I : List D → Rho → Prop) (h0 : wL fi ρ (fun ds => I ds ρ) fun x => k.E x ρ)
    (hs : ∀ d ds ρ, I (d :: ds) ρ → wO (tg d ρ) fun ρ1 => wS f ρ1 { k with N := I ds, C := I ds, B := k.N }) (hd : ∀ ρ, I [] ρ → k.N ρ) : wS (oFor fi tg f) ρ k := by
  unfold wS oFor
  unfold wL wR at h0
  cases e : fi ρ with
  | bad => rw [e] at h0; exact h0
  | err x => rw [e] at h0; exact h0
  | ok ds =>
    rw [e] at h0
    dsimp only at h0 ⊢
    clear e
    induction ds generalizing ρ with
    | nil => exact hd ρ h0
    | cons d ds ih =>
      unfold oForGo
      have h1 := hs d ds ρ h0
      cases e1 : tg d ρ with
      | none => rw [e1] at h1; exact h1
      | some ρ1 =>
        rw [e1] at h1
        have h2 : wO' (f ρ1) { k with N := I ds, C := I ds, B := k.N } := h1
        dsimp only
        cases e2 : f ρ1 with
        | nx ρ2 => rw [e2] at h2; exact ih h2
        | ct ρ2 => rw [e2] at h2; exact ih h2
        | bk ρ2 => rw [e2] at h2; exact h2
        | ret d ρ2 => rw [e2] at h2; exact h2
        | err x ρ2 => rw [e2] at h2; exact h2
        | bad => rw [e2] at h2; exact h2
/-- while: what holds before each turn, n turns at most -/
theorem ws_whl {t : Rho → Ri Bool} {f : Rho → Out} {n : Rho → Nat} (I : Nat → Rho → Prop) (h0 : ∃ m, m < n ρ ∧ I m ρ)
    (hs : ∀ m ρ, I m ρ → wIB t ρ (fun b ρ1 => if b = true then wS f ρ1 { k with N := fun ρ2 => ∃ m', m' < m ∧ I m' ρ2, C := fun ρ2 => ∃ m', m' < m ∧ I m' ρ2, B := k.N } else k.N ρ1) k.E) : wS (oWhl t f n) ρ k := by
  unfold wS oWhl
  obtain ⟨m, hm, h0⟩ := h0
  generalize n ρ = n' at hm
  induction n' generalizing ρ m with
  | zero => exact absurd hm (Nat.not_lt_zero _)
  | succ n' ih =>
    unfold oWhile
    have h1 := hs m ρ h0
    unfold wIB wRi at h1
    cases e1 : t ρ with
    | bad => rw [e1] at h1; exact h1
    | err x ρ1 => rw [e1] at h1; exact h1
    | ok b ρ1 =>
      rw [e1] at h1
      dsimp only at h1
      cases b with
      | false => rw [if_neg (by decide)] at h1; exact h1
      | true =>
        rw [if_pos rfl] at h1
        dsimp only
        unfold wS at h1
        cases e2 : f ρ1 with
        | nx ρ2 => rw [e2] at h1; obtain ⟨m', hm', h2⟩ := h1; exact ih m' h2 (by omega)
        | ct ρ2 => rw [e2] at h1; obtain ⟨m', hm', h2⟩ := h1; exact ih m' h2 (by omega)
        | bk ρ2 => rw [e2] at h1; exact h1
        | ret d ρ2 => rw [e2] at h1; exact h1
        | err x ρ2 => rw [e2] at h1; exact h1
        | bad => rw [e2] at h1; exact h1
end
/-- the value of a def -/
theorem runP_ok {nN : Nat} {f : Rho → Out} {ds : List D} {r : D} (h : wS f (rho0 nN ds) ⟨fun _ => r = .non, fun d _ => d = r, fun _ => False, fun _ => False, fun _ _ => False⟩) : runP nN f ds = .ok r := by
  unfold runP
  unfold wS wO' at h
  split at h
  · rename_i e; rw [e]; rw [h]
  · rename_i e; rw [e]; rw [h]
  all_goals exact h.elim
theorem runI_ok {nN j : Nat} {f : Rho → Out} {ds : List D} {Q : D → D → Prop} (h : wS f (rho0 nN ds) ⟨fun ρ => wV ρ[j]? (Q .non), fun d ρ => wV ρ[j]? (Q d), fun _ => False, fun _ => False, fun _ _ => False⟩) : ∃ d d0, runI nN j f ds = .ok d d0 ∧ Q d d0 := by
  unfold runI
  unfold wS wO' at h
  cases e : f (rho0 nN ds) with
  | nx ρ' =>
    rw [e] at h
    dsimp only at h ⊢
    unfold wV at h
    cases e2 : ρ'[j]? with
    | none => rw [e2] at h; exact h.elim
    | some o =>
      cases o with
      | none => rw [e2] at h; exact h.elim
      | some d0 => rw [e2] at h; exact ⟨_, _, rfl, h⟩
  | ret d ρ' =>
    rw [e] at h
    dsimp only at h ⊢
    unfold wV at h
    cases e2 : ρ'[j]? with
    | none => rw [e2] at h; exact h.elim
    | some o =>
      cases o with
      | none => rw [e2] at h; exact h.elim
      | some d0 => rw [e2] at h; exact ⟨_, _, rfl, h⟩
  | bk ρ' => rw [e] at h; exact h.elim
  | ct ρ' => rw [e] at h; exact h.elim
  | err x ρ' => rw [e] at h; exact h.elim
  | bad => rw [e] at h; exact h.elim
end VL

set_option Elab.async false
set_option linter.all false
set_option maxRecDepth 100000
set_option maxHeartbeats 4000000
namespace VL
open PySem PySem.Spec PyProof.Rows L2
/-! ### the operators at data of known kind -/
section
variable {a b : Int} {x y : Bool} {Q : D → Prop} {QB : Bool → Prop} {QL : List D → Prop} {ds es : List D} {d e : D}
theorem g_add : wO (gAdd [.int a, .int b]) Q = Q (.int (a + b)) := nrfl rfl
theorem g_sub : wO (gSub [.int a, .int b]) Q = Q (.int (a - b)) := nrfl rfl
theorem w_ite {α : Type} {c : Prop} [Decidable c] {z : α} {Q : α → Prop} : wO (if c then some z else none) Q = (c ∧ Q z) := by
  by_cases q : c
  · rw [if_pos q]; simp only [q, true_and]; rfl
  · rw [if_neg q]; simp only [q, false_and]; rfl
theorem g_mul : wO (gMul [.int a, .int b]) Q = (a.natAbs.log2 + b.natAbs.log2 < 1000000 ∧ Q (.int (a * b))) := w_ite
theorem g_div : wO (gDiv [.int a, .int b]) Q = ((0 < b ∧ b.natAbs.log2 < 9000) ∧ Q (.int (a / b))) := w_ite
theorem g_mod : wO (gMod [.int a, .int b]) Q = (0 < b ∧ Q (.int (a % b))) := w_ite
theorem g_pow : wO (gPow [.int a, .int b]) Q = ((0 ≤ b ∧ b ≤ 1000000 ∧ a.natAbs < 2 ^ 64) ∧ Q (.int (a ^ b.toNat))) := w_ite
theorem g_shl : wO (gShl [.int a, .int b]) Q = ((0 ≤ b ∧ b ≤ 1000000 ∧ a.natAbs < 2 ^ 64) ∧ Q (.int (a * 2 ^ b.toNat))) := w_ite
theorem g_shr : wO (gShr [.int a, .int b]) Q = (0 ≤ b ∧ Q (.int (a / 2 ^ b.toNat))) := w_ite
theorem g_pow18 : wO (gPow [.int 10, .int 18]) Q = Q (.int 1000000000000000000) := by
  rw [g_pow]
  have h : ((0 : Int) ≤ 18 ∧ (18 : Int) ≤ 1000000 ∧ (10 : Int).natAbs < 2 ^ 64) = True := eq_true (by decide)
  rw [h, true_and]
  rfl
theorem g_neg : wO (gNeg [.int a]) Q = Q (.int (-a)) := nrfl rfl
theorem g_lt : wO (gLt [.int a, .int b]) QB = QB (decide (a < b)) := nrfl rfl
theorem g_le : wO (gLe [.int a, .int b]) QB = QB (decide (a ≤ b)) := nrfl rfl
theorem g_gt : wO (gGt [.int a, .int b]) QB = QB (decide (b < a)) := nrfl rfl
theorem g_ge : wO (gGe [.int a, .int b]) QB = QB (decide (b ≤ a)) := nrfl rfl
theorem deq_i : deq (.int a) (.int b) = decide (a = b) := by unfold deq toPy; rw [PyData.eqv]; rfl
theorem deq_b : deq (.bl x) (.bl y) = decide (x = y) := by unfold deq toPy; rw [PyData.eqv]; cases x <;> cases y <;> rfl
theorem dok_i {n : Nat} : dok n (.int a) = true := by unfold dok; rfl
theorem dok_b {n : Nat} : dok n (.bl x) = true := by unfold dok; rfl
theorem dok_n {n : Nat} : dok n .non = true := by unfold dok; rfl
theorem g_eq : wO (gEq [d, e]) QB = ((dok 64 d = true ∧ dok 64 e = true) ∧ QB (deq d e)) := by
  unfold gEq
  rw [w_ite, Bool.and_eq_true]
theorem g_ne : wO (gNe [d, e]) QB = ((dok 64 d = true ∧ dok 64 e = true) ∧ QB (!deq d e)) := by
  unfold gNe
  rw [w_ite, Bool.and_eq_true]
theorem g_ixL : wO (gIx [.lst ds, .int a]) Q = wO (atI ds a) Q := nrfl rfl
theorem g_ixT : wO (gIx [.tup ds, .int a]) Q = wO (atI ds a) Q := nrfl rfl
theorem atI_lit {n : Nat} {α : Type} {l : List α} : atI l (no_index (OfNat.ofNat n : Int)) = l[n]? := by
  show atI l (n : Int) = l[n]?
  unfold atI ixN
  rw [if_pos (by omega)]
  by_cases q : n < l.length
  · rw [if_pos (by omega)]; simp
  · rw [if_neg (by omega)]; simp; omega
theorem atI_nat {n : Nat} {α : Type} {l : List α} : atI l (n : Int) = l[n]? := atI_lit (n := n)
theorem atI_pos {i : Int} {α : Type} {l : List α} (h : 0 ≤ i) : atI l i = l[i.toNat]? := by
  obtain ⟨n, rfl⟩ := Int.eq_ofNat_of_zero_le h
  exact atI_nat
theorem ixN_lit {n m : Nat} : ixN m (no_index (OfNat.ofNat n : Int)) = if n < m then some n else none := by
  show ixN m (n : Int) = _
  unfold ixN
  rw [if_pos (by omega)]
  by_cases q : n < m
  · rw [if_pos (by omega), if_pos q]; rfl
  · rw [if_neg (by omega), if_neg q]
theorem ixN_nat {n m : Nat} : ixN m (n : Int) = if n < m then some n else none := ixN_lit (n := n)
theorem wO_some {α : Type} {z : α} {Q : α → Prop} : wO (some z) Q = Q z := nrfl rfl
theorem wR_ok {α : Type} {z : α} {Q : α → Prop} {E : Exn → Prop} : wR (.ok z) Q E = Q z := nrfl rfl
theorem g_lenL : wO (gLen [.lst ds]) Q = Q (.int ds.length) := nrfl rfl
theorem g_lenT : wO (gLen [.tup ds]) Q = Q (.int ds.length) := nrfl rfl
theorem g_lenK {ks : List Key} : wO (gLen [.dk ks ds]) Q = Q (.int ds.length) := nrfl rfl
theorem g_listS {ns : List Int} : wO (gListOf [.scr ns]) QL = QL (ns.map .int) := nrfl rfl
theorem g_listL : wO (gListOf [.lst ds]) QL = QL ds := nrfl rfl
theorem g_listT : wO (gListOf [.tup ds]) QL = QL ds := nrfl rfl
theorem g_tupL : wO (gTupOf [.lst ds]) Q = Q (.tup ds) := nrfl rfl
theorem g_tupT : wO (gTupOf [.tup ds]) Q = Q (.tup ds) := nrfl rfl
theorem g_int : wO (gInt [.int a]) Q = Q (.int a) := nrfl rfl
theorem g_intB : wO (gInt [.bl x]) Q = Q (.int (if x then 1 else 0)) := nrfl rfl
theorem g_abs : wO (gAbs [.int a]) Q = Q (.int (if a < 0 then -a else a)) := nrfl rfl
theorem g_tup : wO (gTupD ds) Q = (ds.length ≤ sizeLine ∧ Q (.tup ds)) := w_ite
theorem g_lst : wO (gLstD ds) QL = (ds.length ≤ sizeLine ∧ QL ds) := w_ite
theorem g_isNot : wO (gIsNot [.bl x, .bl y]) QB = QB (!decide (x = y)) := nrfl rfl
theorem g_is : wO (gIs [.bl x, .bl y]) QB = QB (decide (x = y)) := nrfl rfl
theorem g_isN : wO (gIsN [d, .non]) QB = QB (isNon d) := nrfl rfl
theorem g_isNotN : wO (gIsNotN [d, .non]) QB = QB (!isNon d) := nrfl rfl
theorem g_max2 : wO (gMax2 [.int a, .int b]) Q = Q (.int (if b > a then b else a)) := nrfl rfl
theorem g_min2 : wO (gMin2 [.int a, .int b]) Q = Q (.int (if b < a then b else a)) := nrfl rfl
theorem g_mulL {k : Int} : wO (gMulL [.lst ds, .int k]) QL = ((-(2 ^ 63) ≤ k ∧ k < 2 ^ 63 ∧ ds.length * k.toNat ≤ sizeLine) ∧ QL (List.replicate k.toNat ds).flatten) := by
  unfold gMulL
  exact w_ite
theorem g_addL : wO (gAddL [.lst ds, .lst es]) QL = (ds.length + es.length ≤ sizeLine ∧ QL (ds ++ es)) := w_ite
end
/-! ### drawing: the same def in every law -/
def fDraw : Rho → Out := (oBind (oIf (upB (fAnd (fOpB (fCons (fOp (fCons (eVar 0) (fCons (eC (.int 2)) fun _ => .ok [])) gIx) (fCons (eC (.int 0)) (fun _ => .ok []))) gEq) (fOpB (fCons (fOp (fCons (eVar 0) (fCons (eC (.int 1)) fun _ => .ok [])) gIx) (fCons (fOp (fCons (fOp (fCons (eVar 0) (fCons (eC (.int 0)) fun _ => .ok [])) gIx) (fun _ => .ok [])) gLen) (fun _ => .ok []))) gLt))) (oBind (oSet 2 (up (fOp (fCons (fOp (fCons (eVar 0) (fCons (eC (.int 0)) fun _ => .ok [])) gIx) (fCons (fOp (fCons (eVar 0) (fCons (eC (.int 1)) fun _ => .ok [])) gIx) fun _ => .ok [])) gIx))) (oBind (oSub 0 (up (fOp (fCons (fOp (fCons (eVar 0) (fCons (eC (.int 1)) fun _ => .ok [])) gIx) (fCons (eC (.int 1)) (fun _ => .ok []))) gAdd)) (plVar 0) (eC (.int 1))) (oBind (oIf (upB (fOpB (fCons (eVar 2) (fCons (fOp (fCons (eC (.int 10)) (fCons (eC (.int 18)) (fun _ => .ok []))) gPow) (fun _ => .ok []))) gGe)) (oSub 0 (up (eVar 2)) (plVar 0) (eC (.int 2))) .nx) (oSub 0 (up (fOp (fCons (fOp (fCons (fOp (fCons (fOp (fCons (fOp (fCons (fOp (fCons (eVar 0) (fCons (eC (.int 3)) fun _ => .ok [])) gIx) (fCons (eC (.int 48271)) (fun _ => .ok []))) gMul) (fCons (eVar 2) (fun _ => .ok []))) gAdd) (fCons (eC (.int 13)) (fun _ => .ok []))) gAdd) (fun _ => .ok [])) gInt) (fCons (eC (.int 2147483647)) (fun _ => .ok []))) gMod)) (plVar 0) (eC (.int 3)))))) .nx) (oBind (oIf (upB (fOpB (fCons (fOp (fCons (eVar 0) (fCons (eC (.int 2)) fun _ => .ok [])) gIx) (fCons (eC (.int 0)) (fun _ => .ok []))) gGt)) (oBind (oSet 3 (up (fOp (fCons (fOp (fCons (fOp (fCons (eVar 0) (fCons (eC (.int 2)) fun _ => .ok [])) gIx) (fun _ => .ok [])) gInt) (fCons (eVar 1) (fun _ => .ok []))) gMod))) (oBind (oSub 0 (up (fOp (fCons (fOp (fCons (eVar 0) (fCons (eC (.int 2)) fun _ => .ok [])) gIx) (fCons (eVar 1) (fun _ => .ok []))) gDiv)) (plVar 0) (eC (.int 2))) (oRet (up (eVar 3))))) .nx) (oBind (oSub 0 (up (fOp (fCons (fOp (fCons (fOp (fCons (fOp (fCons (fOp (fCons (eVar 0) (fCons (eC (.int 3)) fun _ => .ok [])) gIx) (fCons (eC (.int 69621)) (fun _ => .ok []))) gMul) (fCons (eC (.int 7)) (fun _ => .ok []))) gAdd) (fun _ => .ok [])) gInt) (fCons (eC (.int 2147483629)) (fun _ => .ok []))) gMod)) (plVar 0) (eC (.int 3))) (oRet (up (fOp (fCons (fOp (fCons (fOp (fCons (fOp (fCons (eVar 0) (fCons (eC (.int 3)) fun _ => .ok [])) gIx) (fCons (eC (.int 11)) (fun _ => .ok []))) gDiv) (fun _ => .ok [])) gInt) (fCons (eVar 1) (fun _ => .ok []))) gMod))))))
/-- the list that is drawn from: the script, the place, what is left of a big cell, the hash -/
def Dw (ls : List Int) (d : D) : Prop := ∃ p b h : Int, d = .lst [.lst (ls.map .int), .int p, .int b, .int h] ∧ 0 ≤ p ∧ p ≤ ls.length ∧ 0 ≤ b ∧ 0 ≤ h ∧ h < 2147483648
theorem log_lt {i : Int} {b : Nat} (h0 : 0 < b) (h : i.natAbs < 2 ^ b) : i.natAbs.log2 < b := PySem.Flt.log2_lt_of h0 h
theorem draw_ok {ls : List Int} {d : D} {n : Int} (hd : Dw ls d) (hn : 0 < n) (hn9 : n < 1000000) : ∃ d1 d', runI 4 0 fDraw [d, .int n] = .ok d1 d' ∧ (∃ v : Int, d1 = .int v ∧ 0 ≤ v ∧ v < n) ∧ Dw ls d' := by
  obtain ⟨p, b, h, rfl, hp, hp', hb, hh, hh'⟩ := hd
  have l1 : h.natAbs.log2 < 32 := log_lt (by omega) (by omega)
  have l2 : n.natAbs.log2 < 32 := log_lt (by omega) (by omega)
  refine runI_ok ?_
  have e0 : rho0 4 [D.lst [.lst (ls.map .int), .int p, .int b, .int h], .int n] = [some (D.lst [.lst (ls.map .int), .int p, .int b, .int h]), some (.int n), none, none] := rfl
  rw [e0]
  unfold fDraw
  simp only [↓ws_bind, ↓ws_if, ↓ws_set, ↓ws_sub, ↓ws_ret, ↓ws_nx, ↓wi_up, ↓wi_upB, ↓w_and, ↓w_opB, ↓w_op, ↓w_cons, ↓w_nil, ↓w_var, ↓w_c, ↓wV_some, ↓wp_ix, ↓wp_var, ↓wPx_lst, ↓g_add, ↓g_mul, ↓g_div, ↓g_mod, ↓g_pow18, ↓g_ge, ↓g_gt, ↓g_lt, ↓g_eq, ↓g_ixL, ↓g_lenL, ↓g_int, ↓atI_lit, ↓ixN_lit, ↓wO_some, ↓w_ite, id, List.getElem?_cons_zero, List.getElem?_cons_succ, List.length_cons, List.length_nil, List.length_map, List.length_set, List.set_cons_zero, List.set_cons_succ, deq_i, dok_i, true_and, and_true]
  have k1 : h.natAbs.log2 + (Int.natAbs 48271).log2 < 1000000 := by
    have : (Int.natAbs 48271).log2 < 32 := log_lt (by omega) (by omega)
    omega
  have k2 : ∀ z : Int, 0 ≤ z → z < 2147483648 → z.natAbs.log2 + (Int.natAbs 69621).log2 < 1000000 := fun z h0 h1 => by
    have : (Int.natAbs 69621).log2 < 32 := log_lt (by omega) (by omega)
    have : z.natAbs.log2 < 32 := log_lt (by omega) (by omega)
    omega
  have k3 : n.natAbs.log2 < 9000 := by omega
  have k4 : (Int.natAbs 11).log2 < 9000 := by
    have : (Int.natAbs 11).log2 < 32 := log_lt (by omega) (by omega)
    omega
  have last : ∀ (p b z : Int), 0 ≤ p → p ≤ ls.length → 0 ≤ b → (∃ v, D.int (z % 2147483629 / 11 % n) = D.int v ∧ 0 ≤ v ∧ v < n) ∧ Dw ls (.lst [.lst (ls.map .int), .int p, .int b, .int (z % 2147483629)]) := fun p b z h0 h1 h2 =>
    ⟨⟨_, rfl, Int.emod_nonneg _ (by omega), Int.emod_lt_of_pos _ hn⟩, p, b, _, rfl, h0, h1, h2, Int.emod_nonneg _ (by omega), by have := Int.emod_lt_of_pos z (show (0 : Int) < 2147483629 by omega); omega⟩
  have big : ∀ (p b z : Int), 0 ≤ p → p ≤ ls.length → 0 ≤ b → 0 ≤ z → z < 2147483648 → (∃ v, D.int (b % n) = D.int v ∧ 0 ≤ v ∧ v < n) ∧ Dw ls (.lst [.lst (ls.map .int), .int p, .int (b / n), .int z]) := fun p b z h0 h1 h2 h3 h4 =>
    ⟨⟨_, rfl, Int.emod_nonneg _ (by omega), Int.emod_lt_of_pos _ hn⟩, p, _, z, rfl, h0, h1, Int.ediv_nonneg h2 (by omega), h3, h4⟩
  by_cases hb0 : b = 0
  · subst hb0
    by_cases hpl : p < ls.length
    · have e1 : atI (ls.map D.int) p = some (.int (ls[p.toNat]'(by omega))) := by
        rw [atI_pos hp, List.getElem?_map, List.getElem?_eq_getElem (by omega)]; rfl
      generalize ls[p.toNat]'(by omega) = c at e1
      by_cases hc : 1000000000000000000 ≤ c
      · have hc0 : 0 < c := by omega
        simp only [↓ws_bind, ↓ws_if, ↓ws_set, ↓ws_sub, ↓ws_ret, ↓ws_nx, ↓wi_up, ↓wi_upB, ↓w_and, ↓w_opB, ↓w_op, ↓w_cons, ↓w_nil, ↓w_var, ↓w_c, ↓wV_some, ↓wp_ix, ↓wp_var, ↓wPx_lst, ↓g_add, ↓g_mul, ↓g_div, ↓g_mod, ↓g_pow18, ↓g_ge, ↓g_gt, ↓g_lt, ↓g_eq, ↓g_ixL, ↓g_lenL, ↓g_int, ↓atI_lit, ↓ixN_lit, ↓wO_some, ↓w_ite, id, List.getElem?_cons_zero, List.getElem?_cons_succ, List.length_cons, List.length_nil, List.length_map, List.length_set, List.set_cons_zero, List.set_cons_succ, deq_i, dok_i, true_and, and_true, hpl, hc, hc0, e1, decide_true, if_true]
        refine ⟨by omega, by omega, by omega, k1, by omega, by omega, hn, by omega, ⟨hn, k3⟩, by omega, big _ _ _ (by omega) (by omega) (by omega) (Int.emod_nonneg _ (by omega)) ?_⟩
        have := Int.emod_lt_of_pos (h * 48271 + c + 13) (show (0 : Int) < 2147483647 by omega)
        omega
      · have h00 : decide ((0 : Int) < 0) = false := rfl
        simp only [↓ws_bind, ↓ws_if, ↓ws_set, ↓ws_sub, ↓ws_ret, ↓ws_nx, ↓wi_up, ↓wi_upB, ↓w_and, ↓w_opB, ↓w_op, ↓w_cons, ↓w_nil, ↓w_var, ↓w_c, ↓wV_some, ↓wp_ix, ↓wp_var, ↓wPx_lst, ↓g_add, ↓g_mul, ↓g_div, ↓g_mod, ↓g_pow18, ↓g_ge, ↓g_gt, ↓g_lt, ↓g_eq, ↓g_ixL, ↓g_lenL, ↓g_int, ↓atI_lit, ↓ixN_lit, ↓wO_some, ↓w_ite, id, List.getElem?_cons_zero, List.getElem?_cons_succ, List.length_cons, List.length_nil, List.length_map, List.length_set, List.set_cons_zero, List.set_cons_succ, deq_i, dok_i, true_and, and_true, hpl, hc, e1, h00, decide_true, decide_false, if_true, Bool.false_eq_true, if_false]
        have m1 := Int.emod_lt_of_pos (h * 48271 + c + 13) (show (0 : Int) < 2147483647 by omega)
        exact ⟨by omega, by omega, k1, by omega, by omega, k2 _ (Int.emod_nonneg _ (by omega)) (by omega), by omega, by omega, ⟨by omega, k4⟩, hn, last _ _ _ (by omega) (by omega) (by omega)⟩
    · have h00 : decide ((0 : Int) < 0) = false := rfl
      simp only [↓ws_bind, ↓ws_if, ↓ws_set, ↓ws_sub, ↓ws_ret, ↓ws_nx, ↓wi_up, ↓wi_upB, ↓w_and, ↓w_opB, ↓w_op, ↓w_cons, ↓w_nil, ↓w_var, ↓w_c, ↓wV_some, ↓wp_ix, ↓wp_var, ↓wPx_lst, ↓g_add, ↓g_mul, ↓g_div, ↓g_mod, ↓g_pow18, ↓g_ge, ↓g_gt, ↓g_lt, ↓g_eq, ↓g_ixL, ↓g_lenL, ↓g_int, ↓atI_lit, ↓ixN_lit, ↓wO_some, ↓w_ite, id, List.getElem?_cons_zero, List.getElem?_cons_succ, List.length_cons, List.length_nil, List.length_map, List.length_set, List.set_cons_zero, List.set_cons_succ, deq_i, dok_i, true_and, and_true, hpl, h00, decide_true, decide_false, if_true, Bool.false_eq_true, if_false]
      exact ⟨k2 _ hh hh', by omega, by omega, ⟨by omega, k4⟩, hn, last _ _ _ (by omega) (by omega) (by omega)⟩
  · have hb1 : 0 < b := by omega
    simp only [↓ws_bind, ↓ws_if, ↓ws_set, ↓ws_sub, ↓ws_ret, ↓ws_nx, ↓wi_up, ↓wi_upB, ↓w_and, ↓w_opB, ↓w_op, ↓w_cons, ↓w_nil, ↓w_var, ↓w_c, ↓wV_some, ↓wp_ix, ↓wp_var, ↓wPx_lst, ↓g_add, ↓g_mul, ↓g_div, ↓g_mod, ↓g_pow18, ↓g_ge, ↓g_gt, ↓g_lt, ↓g_eq, ↓g_ixL, ↓g_lenL, ↓g_int, ↓atI_lit, ↓ixN_lit, ↓wO_some, ↓w_ite, id, List.getElem?_cons_zero, List.getElem?_cons_succ, List.length_cons, List.length_nil, List.length_map, List.length_set, List.set_cons_zero, List.set_cons_succ, deq_i, dok_i, true_and, and_true, hb0, hb1, decide_true, decide_false, if_true, Bool.false_eq_true, if_false]
    exact ⟨hn, by omega, ⟨hn, k3⟩, by omega, big _ _ _ (by omega) (by omega) (by omega) hh hh'⟩
end VL

set_option Elab.async false
set_option linter.all false
set_option maxRecDepth 100000
set_option maxHeartbeats 4000000
namespace VL
open PySem PySem.Spec PyProof.Rows L2
/-! ### loops and comprehensions over the data of a list -/
section
variable {α : Type} {xs : List α} {mk : α → D}
theorem wLc_xs {tg : D → Rho → Option Rho} {ft : Rho → Rs Bool} {fe : Rho → Rs D} {ρ : Rho} {p : α → Bool} {g : α → D} : ∀ {xs : List α} {Q : List D → Prop}, (∀ x ∈ xs, wO (tg (mk x) ρ) fun ρ' => wB ft ρ' (fun k => k = p x ∧ (p x = true → wE fe ρ' (fun y => y = g x) fun _ => False)) fun _ => False) → Q ((xs.filter p).map g) → wLc tg ft fe ρ (xs.map mk) Q
  | [], Q, hd, q => q
  | x :: xs, Q, hd, q => by
    rw [List.map_cons]
    unfold wLc
    have h1 := hd x List.mem_cons_self
    cases e : tg (mk x) ρ with
    | none => rw [e] at h1; exact h1
    | some ρ' =>
      rw [e] at h1
      have h1' : wB ft ρ' (fun k => k = p x ∧ (p x = true → wE fe ρ' (fun y => y = g x) fun _ => False)) fun _ => False := h1
      show wB ft ρ' _ _
      unfold wB wR at h1' ⊢
      cases e2 : ft ρ' with
      | bad => rw [e2] at h1'; exact h1'
      | err x => rw [e2] at h1'; exact h1'
      | ok k =>
        rw [e2] at h1'
        obtain ⟨h2, h3⟩ := h1'
        cases k with
        | false =>
          dsimp only
          rw [if_neg (by decide)]
          refine wLc_xs (p := p) (g := g) (fun d' hd' => hd d' (List.mem_cons_of_mem _ hd')) ?_
          rw [List.filter_cons_of_neg (by rw [← h2]; decide)] at q
          exact q
        | true =>
          dsimp only
          rw [if_pos rfl]
          have h4 := h3 h2.symm
          unfold wE wR at h4 ⊢
          cases e3 : fe ρ' with
          | bad => rw [e3] at h4; exact h4
          | err x => rw [e3] at h4; exact h4
          | ok y =>
            rw [e3] at h4
            have h5 : y = g x := h4
            subst h5
            dsimp only
            refine wLc_xs (p := p) (g := g) (fun d' hd' => hd d' (List.mem_cons_of_mem _ hd')) ?_
            rw [List.filter_cons_of_pos (by rw [← h2]), List.map_cons] at q
            exact q
/-- .. no test -/
theorem wLc_all {tg : D → Rho → Option Rho} {fe : Rho → Rs D} {ρ : Rho} {g : α → D} {Q : List D → Prop} (hd : ∀ x ∈ xs, wO (tg (mk x) ρ) fun ρ' => wE fe ρ' (fun y => y = g x) fun _ => False) (q : Q (xs.map g)) : wLc tg fYes fe ρ (xs.map mk) Q := by
  refine wLc_xs (p := fun _ => true) (g := g) (fun x hx => ?_) ?_
  · have h := hd x hx
    cases e : tg (mk x) ρ with
    | none => rw [e] at h; exact h
    | some ρ' => rw [e] at h; exact ⟨rfl, fun _ => h⟩
  · rw [List.filter_eq_self.mpr (fun _ _ => rfl)]; exact q
/-- .. that changes data: I is kept -/
theorem wLcI_all {vs : List Nat} {tg : D → Rho → Option Rho} {fe : Rho → Ri D} (I : Rho → Prop) (P : α → D → Prop) : ∀ {xs : List α} {ρ : Rho} {Q : List D → Rho → Prop}, I ρ → (∀ x ∈ xs, ∀ ρ, I ρ → wO (tg (mk x) ρ) fun ρ1 => wI fe ρ1 (fun y ρ2 => P x y ∧ I (wipeR ρ2 vs)) fun _ _ => False) →
    (∀ (r : List D) (ρn : Rho), I ρn → r.length = xs.length → (∀ (i : Nat) (x : α) (y : D), xs[i]? = some x → r[i]? = some y → P x y) → Q r ρn) → wLcI vs tg fYes fe (xs.map mk) ρ Q
  | [], ρ, Q, h0, hd, q => q [] ρ h0 rfl fun i x y e => by simp at e
  | x :: xs, ρ, Q, h0, hd, q => by
    rw [List.map_cons]
    unfold wLcI
    have h1 := hd x List.mem_cons_self ρ h0
    cases e : tg (mk x) ρ with
    | none => rw [e] at h1; exact h1
    | some ρ1 =>
      rw [e] at h1
      have h2 : wI fe ρ1 (fun y ρ2 => P x y ∧ I (wipeR ρ2 vs)) fun _ _ => False := h1
      show wB fYes ρ1 _ _
      rw [w_yes, if_pos rfl]
      unfold wI wRi at h2 ⊢
      cases e2 : fe ρ1 with
      | bad => rw [e2] at h2; exact h2
      | err x ρ2 => rw [e2] at h2; exact h2
      | ok y ρ2 =>
        rw [e2] at h2
        dsimp only at h2 ⊢
        refine wLcI_all I P h2.2 (fun x' hx' => hd x' (List.mem_cons_of_mem _ hx')) fun r ρn hI hl hp => q (y :: r) ρn hI (by simp [hl]) fun i x' y' e3 e4 => ?_
        cases i with
        | zero => simp at e3 e4; subst e3 e4; exact h2.1
        | succ i => exact hp i x' y' (by simpa using e3) (by simpa using e4)
end
/-- for over the data of a list, by the turn -/
theorem ws_forX {α : Type} {mk : α → D} {fi : Rho → Rs (List D)} {tg : D → Rho → Option Rho} {f : Rho → Out} {ρ : Rho} {k : Kt} (xs : List α) (I : Nat → Rho → Prop) (hf : wL fi ρ (fun ds => ds = xs.map mk) fun _ => False) (h0 : I 0 ρ)
    (hs : ∀ i x ρ, xs[i]? = some x → I i ρ → wO (tg (mk x) ρ) fun ρ1 => wS f ρ1 { k with N := I (i + 1), C := I (i + 1), B := k.N }) (hd : ∀ ρ, I xs.length ρ → k.N ρ) : wS (oFor fi tg f) ρ k := by
  refine ws_for (fun ds ρ => ∃ i, i ≤ xs.length ∧ ds = (xs.drop i).map mk ∧ I i ρ) ?_ ?_ ?_
  · unfold wL wR at hf ⊢
    cases e : fi ρ with
    | bad => rw [e] at hf; exact hf
    | err x => rw [e] at hf; exact hf.elim
    | ok ds =>
      rw [e] at hf
      have : ds = xs.map mk := hf
      subst this
      exact ⟨0, Nat.zero_le _, rfl, h0⟩
  · rintro d ds ρ ⟨i, hi, e, hI⟩
    by_cases hl : i < xs.length
    · rw [List.drop_eq_getElem_cons hl, List.map_cons] at e
      cases e
      have h := hs i xs[i] ρ (List.getElem?_eq_getElem hl) hI
      cases e1 : tg (mk xs[i]) ρ with
      | none => rw [e1] at h; exact h
      | some ρ1 =>
        rw [e1] at h
        have h' : wS f ρ1 { k with N := I (i + 1), C := I (i + 1), B := k.N } := h
        show wS f ρ1 _
        unfold wS wO' at h' ⊢
        cases e2 : f ρ1 with
        | nx ρ2 => rw [e2] at h'; exact ⟨i + 1, hl, rfl, h'⟩
        | ct ρ2 => rw [e2] at h'; exact ⟨i + 1, hl, rfl, h'⟩
        | bk ρ2 => rw [e2] at h'; exact h'
        | ret d ρ2 => rw [e2] at h'; exact h'
        | err x ρ2 => rw [e2] at h'; exact h'
        | bad => rw [e2] at h'; exact h'
    · rw [List.drop_eq_nil_of_le (by omega)] at e; cases e
  · rintro ρ ⟨i, hi, e, hI⟩
    by_cases hl : i < xs.length
    · rw [List.drop_eq_getElem_cons hl, List.map_cons] at e; cases e
    · have : i = xs.length := by omega
      subst this
      exact hd ρ hI
/-- for over range(n) -/
theorem ws_forR {fi : Rho → Rs (List D)} {tg : D → Rho → Option Rho} {f : Rho → Out} {ρ : Rho} {k : Kt} (n : Nat) (I : Nat → Rho → Prop) (hf : wL fi ρ (fun ds => ds = rngI 0 n) fun _ => False) (h0 : I 0 ρ)
    (hs : ∀ i ρ, i < n → I i ρ → wO (tg (.int (i : Int)) ρ) fun ρ1 => wS f ρ1 { k with N := I (i + 1), C := I (i + 1), B := k.N }) (hd : ∀ ρ, I n ρ → k.N ρ) : wS (oFor fi tg f) ρ k := by
  refine ws_forX (mk := fun i : Nat => .int (0 + (i : Int))) (List.range n) I hf h0 (fun i x ρ e hI => ?_) (by rw [List.length_range]; exact hd)
  have hl : i < n := by
    have := (List.getElem?_eq_some_iff.mp e).1
    rwa [List.length_range] at this
  rw [List.getElem?_range hl] at e
  cases e
  rw [Int.zero_add]
  exact hs i ρ hl hI
theorem rng_map (lo : Int) (n : Nat) : rngI lo n = (List.range n).map fun i : Nat => D.int (lo + (i : Int)) := rfl
/-! ### draws -/
theorem w_draw {ls : List Int} {d : D} {n : Int} {Q : D → D → Prop} (hd : Dw ls d) (hn : 0 < n) (hn9 : n < 1000000) (q : ∀ (v : Int) d', 0 ≤ v → v < n → Dw ls d' → Q (.int v) d') : wRo (runI 4 0 fDraw [d, .int n]) Q := by
  obtain ⟨d1, d', e, ⟨v, rfl, h1, h2⟩, h3⟩ := draw_ok hd hn hn9
  rw [e]
  exact q v d' h1 h2 h3
/-! ### vectors, matrices -/
def vecL (n : Nat) (S : Nat → Int) : List D := (List.range n).map fun i => .int (S i)
def matT (n : Nat) (R : Nat → Nat → Int) : D := .tup ((List.range n).map fun i => .tup (vecL n (R i)))
theorem vec_get {n i : Nat} {S : Nat → Int} (h : i < n) : (vecL n S)[i]? = some (.int (S i)) := by
  unfold vecL
  rw [List.getElem?_map, List.getElem?_range h]; rfl
theorem vec_len {n : Nat} {S : Nat → Int} : (vecL n S).length = n := by unfold vecL; rw [List.length_map, List.length_range]
theorem rng_get {α : Type} {n i : Nat} {g : Nat → α} (h : i < n) : ((List.range n).map g)[i]? = some (g i) := by rw [List.getElem?_map, List.getElem?_range h]; rfl
theorem rng_len {α : Type} {n : Nat} {g : Nat → α} : ((List.range n).map g).length = n := by rw [List.length_map, List.length_range]
def sumN : Nat → (Nat → Int) → Int
  | 0, _ => 0
  | n + 1, S => sumN n S + S n
theorem asInts_vec {n : Nat} {S : Nat → Int} : asInts (vecL n S) = some ((List.range n).map S) := by
  unfold vecL
  have : (List.range n).map (fun i => D.int (S i)) = ((List.range n).map S).map D.int := by rw [List.map_map]; rfl
  rw [this, asInts_map]
theorem sum_range {S : Nat → Int} : ∀ {n : Nat}, ((List.range n).map S).sum = sumN n S
  | 0 => rfl
  | n + 1 => by
    rw [List.range_succ, List.map_append, List.sum_append, sum_range]
    simp [sumN]
theorem g_sumL {n : Nat} {S : Nat → Int} {Q : D → Prop} : wO (gSum [.lst (vecL n S)]) Q = Q (.int (sumN n S)) := by
  unfold gSum
  dsimp only
  rw [asInts_vec, ← sum_range]; rfl
theorem g_sumT {n : Nat} {S : Nat → Int} {Q : D → Prop} : wO (gSum [.tup (vecL n S)]) Q = Q (.int (sumN n S)) := by
  unfold gSum
  dsimp only
  rw [asInts_vec, ← sum_range]; rfl
end VL

set_option Elab.async false
set_option linter.all false
set_option maxRecDepth 100000
set_option maxHeartbeats 4000000
namespace VL
open PySem PySem.Spec PyProof.Rows L2
/-! ### more of the same: two fors, fields, dicts, isinstance, all, any -/
def wLc2 (vs1 : List Nat) (tg : D → Rho → Option Rho) (ft : Rho → Rs Bool) (fi1 : Rho → Rs (List D)) (tg1 : D → Rho → Option Rho) (ft1 : Rho → Rs Bool) (fe : Rho → Rs D) (ρ : Rho) : List D → (List D → Prop) → Prop
  | [], Q => Q []
  | d :: ds, Q => wO (tg d ρ) fun ρ1 => wB ft ρ1 (fun k => if k = true then wL fi1 ρ1 (fun ds1 => wLc tg1 ft1 fe (wipeR ρ1 vs1) ds1 fun r1 => wLc2 vs1 tg ft fi1 tg1 ft1 fe ρ ds fun r => Q (r1 ++ r)) (fun _ => False) else wLc2 vs1 tg ft fi1 tg1 ft1 fe ρ ds Q) fun _ => False
theorem w_lc2Go {vs1 : List Nat} {tg tg1 : D → Rho → Option Rho} {ft ft1 : Rho → Rs Bool} {fi1 : Rho → Rs (List D)} {fe : Rho → Rs D} {ρ : Rho} : ∀ {ds : List D} {Q : List D → Prop}, wR (lc2Go vs1 tg ft fi1 tg1 ft1 fe ρ ds) Q (fun _ => False) = wLc2 vs1 tg ft fi1 tg1 ft1 fe ρ ds Q
  | [], Q => rfl
  | d :: ds, Q => by
    unfold lc2Go wLc2
    cases tg d ρ with
    | none => rfl
    | some ρ' =>
      show wR (nx (ft ρ') >>= _) Q _ = wB ft ρ' _ _
      rw [wR_bind, wR_nx]
      unfold wB
      congr 1
      funext k
      cases k with
      | false => exact w_lc2Go
      | true =>
        rw [if_pos rfl, if_pos rfl, wR_bind, wR_nx]
        unfold wL
        congr 1
        funext ds1
        rw [wR_bind, w_lcGo]
        congr 1
        funext r1
        rw [wR_bind, w_lc2Go]; rfl
theorem w_lc2 {vs vs1 : List Nat} {tg tg1 : D → Rho → Option Rho} {ft ft1 : Rho → Rs Bool} {fi fi1 : Rho → Rs (List D)} {fe : Rho → Rs D} {ρ : Rho} {Q : D → Prop} {E : Exn → Prop} : wE (fLc2 vs vs1 fi tg ft fi1 tg1 ft1 fe) ρ Q E = wL fi ρ (fun ds => wLc2 vs1 tg ft fi1 tg1 ft1 fe (wipeR ρ vs) ds fun r => r.length ≤ sizeLine ∧ Q (.lst r)) E := by
  unfold wE wL fLc2
  rw [wR_bind]
  congr 1
  funext ds
  rw [← w_lc2Go]
  cases lc2Go vs1 tg ft fi1 tg1 ft1 fe (wipeR ρ vs) ds with
  | ok r =>
    show wR (if r.length ≤ sizeLine then _ else _) Q E = (r.length ≤ sizeLine ∧ _)
    by_cases q : r.length ≤ sizeLine
    · rw [if_pos q]; simp only [q, true_and]; rfl
    · rw [if_neg q]; simp only [q, false_and]; rfl
  | err x => rfl
  | bad => rfl
theorem wLc_imp {tg : D → Rho → Option Rho} {ft : Rho → Rs Bool} {fe : Rho → Rs D} {ρ : Rho} : ∀ {ds : List D} {Q Q' : List D → Prop}, (∀ r, Q r → Q' r) → wLc tg ft fe ρ ds Q → wLc tg ft fe ρ ds Q'
  | [], Q, Q', h, q => h _ q
  | d :: ds, Q, Q', h, q => by
    unfold wLc at q ⊢
    cases e : tg d ρ with
    | none => rw [e] at q; exact q
    | some ρ' =>
      rw [e] at q
      have q' : wB ft ρ' _ _ := q
      show wB ft ρ' _ _
      unfold wB wR at q' ⊢
      cases e2 : ft ρ' with
      | bad => rw [e2] at q'; exact q'
      | err x => rw [e2] at q'; exact q'
      | ok k =>
        rw [e2] at q'
        dsimp only at q' ⊢
        cases k with
        | false => rw [if_neg (by decide)] at q' ⊢; exact wLc_imp h q'
        | true =>
          rw [if_pos rfl] at q' ⊢
          unfold wE wR at q' ⊢
          cases e3 : fe ρ' with
          | bad => rw [e3] at q'; exact q'
          | err x => rw [e3] at q'; exact q'
          | ok y =>
            rw [e3] at q'
            exact wLc_imp (fun r hr => h _ hr) q'
theorem wLc2_all {α : Type} {mk : α → D} {vs1 : List Nat} {tg tg1 : D → Rho → Option Rho} {ft1 : Rho → Rs Bool} {fi1 : Rho → Rs (List D)} {fe : Rho → Rs D} {ρ : Rho} {g : α → List D} : ∀ {xs : List α} {Q : List D → Prop}, (∀ x ∈ xs, wO (tg (mk x) ρ) fun ρ1 => wL fi1 ρ1 (fun ds1 => wLc tg1 ft1 fe (wipeR ρ1 vs1) ds1 fun r1 => r1 = g x) fun _ => False) → Q (xs.map g).flatten → wLc2 vs1 tg fYes fi1 tg1 ft1 fe ρ (xs.map mk) Q
  | [], Q, hd, q => q
  | x :: xs, Q, hd, q => by
    rw [List.map_cons]
    unfold wLc2
    have h1 := hd x List.mem_cons_self
    cases e : tg (mk x) ρ with
    | none => rw [e] at h1; exact h1
    | some ρ1 =>
      rw [e] at h1
      have h2 : wL fi1 ρ1 (fun ds1 => wLc tg1 ft1 fe (wipeR ρ1 vs1) ds1 fun r1 => r1 = g x) fun _ => False := h1
      show wB fYes ρ1 _ _
      rw [w_yes, if_pos rfl]
      unfold wL wR at h2 ⊢
      cases e2 : fi1 ρ1 with
      | bad => rw [e2] at h2; exact h2
      | err x => rw [e2] at h2; exact h2
      | ok ds1 =>
        rw [e2] at h2
        dsimp only at h2 ⊢
        refine wLc_imp (fun r hr => ?_) h2
        subst hr
        refine wLc2_all (g := g) (fun x' hx' => hd x' (List.mem_cons_of_mem _ hx')) ?_
        rw [List.map_cons, List.flatten_cons] at q
        exact q
theorem asBls_of {b : Bool} : ∀ {ds : List D}, (∀ d ∈ ds, d = .bl b) → asBls ds = some (List.replicate ds.length b)
  | [], _ => rfl
  | d :: ds, h => by
    rw [h d List.mem_cons_self]
    unfold asBls
    rw [asBls_of fun d' hd' => h d' (List.mem_cons_of_mem _ hd')]; rfl
theorem g_allT {ds : List D} {Q : Bool → Prop} (h : ∀ d ∈ ds, d = .bl true) : wO (gAll [.lst ds]) Q = Q true := by
  unfold gAll
  dsimp only
  rw [asBls_of h]
  show Q _ = Q true
  congr 1
  rw [List.all_eq_true]
  intro x hx
  rw [(List.mem_replicate.mp hx).2]; rfl
theorem g_anyF {ds : List D} {Q : Bool → Prop} (h : ∀ d ∈ ds, d = .bl false) : wO (gAny [.lst ds]) Q = Q false := by
  unfold gAny
  dsimp only
  rw [asBls_of h]
  show Q _ = Q false
  congr 1
  rw [List.any_eq_false]
  intro x hx
  rw [(List.mem_replicate.mp hx).2]; decide
theorem g_oB {g : List D → Option Bool} {ds : List D} {Q : D → Prop} : wO (oB g ds) Q = wO (g ds) fun b => Q (.bl b) := by
  unfold oB
  cases g ds <;> rfl
theorem kitTT : kitB "tuple" "tuple" = some true := by decide +kernel
theorem kitII : kitB "int" "int" = some true := by decide +kernel
theorem kitIB : kitB "int" "bool" = some false := by decide +kernel
theorem g_isiTT {ds : List D} {Q : Bool → Prop} : wO (gIsi "tuple" [.tup ds]) Q = Q true := by
  show wO ((tyD (.tup ds)).bind fun t => kitB t "tuple") Q = Q true
  show wO (kitB "tuple" "tuple") Q = Q true
  rw [kitTT]; rfl
theorem g_isiII {i : Int} {Q : Bool → Prop} : wO (gIsi "int" [.int i]) Q = Q true := by
  show wO (kitB "int" "int") Q = Q true
  rw [kitII]; rfl
theorem g_isiIB {i : Int} {Q : Bool → Prop} : wO (gIsi "bool" [.int i]) Q = Q false := by
  show wO (kitB "int" "bool") Q = Q false
  rw [kitIB]; rfl
section
variable {ρ : Rho} {k : Kt} {i : Nat}
def wIns (o : Option (Option D)) (Q : Addr → List Str → List D → Prop) : Prop := match o with
  | some (some (.ins C ns ds)) => Q C ns ds
  | _ => False
theorem wIns_some {C : Addr} {ns : List Str} {ds : List D} {Q : Addr → List Str → List D → Prop} : wIns (some (some (.ins C ns ds))) Q = Q C ns ds := nrfl rfl
theorem ws_fld {C : Addr} {f : Str} {g : Rho → Rs D} : wS (oFld i C f g) ρ k = wE g ρ (fun d => wIns ρ[i]? fun C' ns ds => (C' = C ∧ ns.length < 1000) ∧ k.N (ρ.set i (some (.ins C' (putFD f d ns ds).1 (putFD f d ns ds).2)))) fun _ => False := by
  unfold wS wE oFld wIns
  cases g ρ with
  | err x => rfl
  | bad => rfl
  | ok d =>
    cases ρ[i]? with
    | none => rfl
    | some o =>
      cases o with
      | none => rfl
      | some dd =>
        cases dd with
        | ins C' ns ds =>
          show wO' (if C' = C ∧ ns.length < 1000 then _ else _) k = ((C' = C ∧ ns.length < 1000) ∧ _)
          by_cases q : C' = C ∧ ns.length < 1000
          · rw [if_pos q]; simp only [q, and_self, true_and]; rfl
          · rw [if_neg q]; simp only [q, false_and]; rfl
        | _ => rfl
def wDk (o : Option (Option D)) (key d : D) (Q : D → Prop) : Prop := match o, key with
  | some (some (.dk ks ds)), key => wO (keyD key) fun q => ds.length < sizeLine ∧ Q (.dk (putD ks ds q d).1 (putD ks ds q d).2)
  | some (some (.dt ks ds)), .tup kd => wO (keysD kd) fun q => ds.length < sizeLine ∧ Q (.dt (putD ks ds q d).1 (putD ks ds q d).2)
  | _, _ => False
theorem wDk_int {ks : List Key} {ds : List D} {n : Int} {d : D} {Q : D → Prop} : wDk (some (some (.dk ks ds))) (.int n) d Q = (ds.length < sizeLine ∧ Q (.dk (putD ks ds (.inl n) d).1 (putD ks ds (.inl n) d).2)) := nrfl rfl
theorem ws_dput {f g : Rho → Rs D} : wS (oDput i f g) ρ k = wE f ρ (fun d => wE g ρ (fun q => wDk ρ[i]? q d fun r => k.N (ρ.set i (some r))) fun _ => False) fun _ => False := by
  unfold wS wE oDput
  cases f ρ with
  | err x => rfl
  | bad => rfl
  | ok d =>
    cases g ρ with
    | err x => rfl
    | bad => rfl
    | ok q =>
      show _ = wDk ρ[i]? q d (fun r => k.N (List.set ρ i (some r)))
      unfold wDk
      cases ρ[i]? with
      | none => rfl
      | some o =>
        cases o with
        | none => rfl
        | some dd =>
          cases dd with
          | dk ks ds =>
            show wO' (match keyD q with | some k => _ | none => _) k = wO (keyD q) _
            cases keyD q with
            | none => rfl
            | some q' =>
              show wO' (if ds.length < sizeLine then _ else _) k = (ds.length < sizeLine ∧ _)
              by_cases z : ds.length < sizeLine
              · rw [if_pos z]; simp only [z, true_and]; rfl
              · rw [if_neg z]; simp only [z, false_and]; rfl
          | dt ks ds =>
            cases q with
            | tup kd =>
              show wO' (match keysD kd with | some k => _ | none => _) k = wO (keysD kd) _
              cases keysD kd with
              | none => rfl
              | some q' =>
                show wO' (if ds.length < sizeLine then _ else _) k = (ds.length < sizeLine ∧ _)
                by_cases z : ds.length < sizeLine
                · rw [if_pos z]; simp only [z, true_and]; rfl
                · rw [if_neg z]; simp only [z, false_and]; rfl
            | _ => rfl
          | _ => rfl
theorem g_dnotin {ks : List Key} {ds : List D} {n : Int} {Q : Bool → Prop} : wO (gDnotin [.int n, .dk ks ds]) Q = Q (!(lookK ks ds (.inl n)).isSome) := nrfl rfl
theorem keyD_int {n : Int} {Q : Key → Prop} : wO (keyD (.int n)) Q = Q (.inl n) := nrfl rfl
end
end VL

set_option Elab.async false
set_option linter.all false
set_option maxRecDepth 100000
set_option maxHeartbeats 4000000
namespace VL
open PySem PySem.Spec PyProof.Rows L2
def top (i : Nat) : Stmt := PySem.Challenge.pw_whobeatwhom_k65_whole_strengths.main.body.getD i (.Pass ⟨0, 0, 0, 0⟩)
abbrev s_is_integer : Stmt := (top 5)
abbrev s_lowest : Stmt := (top 7)
abbrev s_plus : Stmt := (top 8)
abbrev s_times : Stmt := (top 9)
abbrev s_Counts___init__ : Stmt := (inClass (top 11) 0)
abbrev s_Counts_wins : Stmt := (inClass (top 11) 1)
abbrev s_Counts_losses : Stmt := (inClass (top 11) 2)
abbrev s_Counts_met : Stmt := (inClass (top 11) 3)
abbrev s_solved : Stmt := (top 12)
abbrev s_by_half_wins : Stmt := (top 13)
abbrev s_strong_lot : Stmt := (top 14)
abbrev s_are_strengths : Stmt := (top 15)
abbrev s__law_draws : Stmt := (top 17)
abbrev s__law_draw : Stmt := (top 18)
abbrev s__law_low : Stmt := (top 21)
abbrev s__law_plus : Stmt := (top 22)
abbrev s__law_counts : Stmt := (top 24)
abbrev s_law : Stmt := (top 25)
structure Tx (P : Program) (w : World) (K : PySem.W.Frag) (mg : Str → Option Value) (base : Heap) where
  C_Counts : Addr
  f_is_integer : Addr
  d_is_integer : FuncData
  F_is_integer : Fun K "is_integer" "is_integer" s_is_integer f_is_integer d_is_integer
  b_is_integer : Binds K d_is_integer ["value"] []
  n_is_integer : mg "is_integer" = some (.ref f_is_integer)
  f_lowest : Addr
  d_lowest : FuncData
  F_lowest : Fun K "lowest" "lowest" s_lowest f_lowest d_lowest
  b_lowest : Binds K d_lowest ["top", "bottom"] []
  n_lowest : mg "lowest" = some (.ref f_lowest)
  f_plus : Addr
  d_plus : FuncData
  F_plus : Fun K "plus" "plus" s_plus f_plus d_plus
  b_plus : Binds K d_plus ["first", "other"] []
  n_plus : mg "plus" = some (.ref f_plus)
  f_times : Addr
  d_times : FuncData
  F_times : Fun K "times" "times" s_times f_times d_times
  b_times : Binds K d_times ["first", "other"] []
  n_times : mg "times" = some (.ref f_times)
  f_Counts___init__ : Addr
  d_Counts___init__ : FuncData
  F_Counts___init__ : Fun K "__init__" "Counts.__init__" s_Counts___init__ f_Counts___init__ d_Counts___init__
  b_Counts___init__ : Binds K d_Counts___init__ ["self", "rows"] []
  f_Counts_wins : Addr
  d_Counts_wins : FuncData
  F_Counts_wins : Fun K "wins" "Counts.wins" s_Counts_wins f_Counts_wins d_Counts_wins
  b_Counts_wins : Binds K d_Counts_wins ["self", "side"] []
  f_Counts_losses : Addr
  d_Counts_losses : FuncData
  F_Counts_losses : Fun K "losses" "Counts.losses" s_Counts_losses f_Counts_losses d_Counts_losses
  b_Counts_losses : Binds K d_Counts_losses ["self", "side"] []
  f_Counts_met : Addr
  d_Counts_met : FuncData
  F_Counts_met : Fun K "met" "Counts.met" s_Counts_met f_Counts_met d_Counts_met
  b_Counts_met : Binds K d_Counts_met ["self", "one", "other"] []
  f_solved : Addr
  d_solved : FuncData
  F_solved : Fun K "solved" "solved" s_solved f_solved d_solved
  b_solved : Binds K d_solved ["rows", "goal"] []
  n_solved : mg "solved" = some (.ref f_solved)
  f_by_half_wins : Addr
  d_by_half_wins : FuncData
  F_by_half_wins : Fun K "by_half_wins" "by_half_wins" s_by_half_wins f_by_half_wins d_by_half_wins
  b_by_half_wins : Binds K d_by_half_wins ["counts"] []
  n_by_half_wins : mg "by_half_wins" = some (.ref f_by_half_wins)
  f_strong_lot : Addr
  d_strong_lot : FuncData
  F_strong_lot : Fun K "strong_lot" "strong_lot" s_strong_lot f_strong_lot d_strong_lot
  b_strong_lot : Binds K d_strong_lot ["counts"] []
  n_strong_lot : mg "strong_lot" = some (.ref f_strong_lot)
  f_are_strengths : Addr
  d_are_strengths : FuncData
  F_are_strengths : Fun K "are_strengths" "are_strengths" s_are_strengths f_are_strengths d_are_strengths
  b_are_strengths : Binds K d_are_strengths ["counts", "strengths"] []
  n_are_strengths : mg "are_strengths" = some (.ref f_are_strengths)
  f__law_draws : Addr
  d__law_draws : FuncData
  F__law_draws : Fun K "_law_draws" "_law_draws" s__law_draws f__law_draws d__law_draws
  b__law_draws : Binds K d__law_draws ["script"] []
  n__law_draws : mg "_law_draws" = some (.ref f__law_draws)
  f__law_draw : Addr
  d__law_draw : FuncData
  F__law_draw : Fun K "_law_draw" "_law_draw" s__law_draw f__law_draw d__law_draw
  b__law_draw : Binds K d__law_draw ["draws", "limit"] []
  n__law_draw : mg "_law_draw" = some (.ref f__law_draw)
  f__law_low : Addr
  d__law_low : FuncData
  F__law_low : Fun K "_law_low" "_law_low" s__law_low f__law_low d__law_low
  b__law_low : Binds K d__law_low ["top", "bottom"] []
  n__law_low : mg "_law_low" = some (.ref f__law_low)
  f__law_plus : Addr
  d__law_plus : FuncData
  F__law_plus : Fun K "_law_plus" "_law_plus" s__law_plus f__law_plus d__law_plus
  b__law_plus : Binds K d__law_plus ["one", "two"] []
  n__law_plus : mg "_law_plus" = some (.ref f__law_plus)
  f__law_counts : Addr
  d__law_counts : FuncData
  F__law_counts : Fun K "_law_counts" "_law_counts" s__law_counts f__law_counts d__law_counts
  b__law_counts : Binds K d__law_counts ["draws", "size", "most"] []
  n__law_counts : mg "_law_counts" = some (.ref f__law_counts)
  f_law : Addr
  d_law : FuncData
  F_law : Fun K "law" "law" s_law f_law d_law
  b_law : Binds K d_law ["script"] []
  n_law : mg "law" = some (.ref f_law)
  c_Counts : Cls K C_Counts
  n_Counts : mg "Counts" = some (.ref C_Counts)
  k_Counts : Mk K C_Counts f_Counts___init__
  h_Counts_wins : Meth K C_Counts "wins" f_Counts_wins
  h_Counts_losses : Meth K C_Counts "losses" f_Counts_losses
  h_Counts_met : Meth K C_Counts "met" f_Counts_met
  q_rows : NoAttr K C_Counts "rows"
  a_rows : ∀ C ∈ [C_Counts], Cls K C ∧ NoAttr K C "rows"
  q_size : NoAttr K C_Counts "size"
  a_size : ∀ C ∈ [C_Counts], Cls K C ∧ NoAttr K C "size"
  n_isinstance : mg "isinstance" = none
  n_bool : mg "bool" = none
  n_int : mg "int" = none
  n_abs : mg "abs" = none
  n_len : mg "len" = none
  t_MOST_SIDES : Tok
  n_MOST_SIDES : mg "MOST_SIDES" = some (.int 12 t_MOST_SIDES)
  n_tuple : mg "tuple" = none
  n_all : mg "all" = none
  n_any : mg "any" = none
  n_range : mg "range" = none
  n_sum : mg "sum" = none
  n_zip : mg "zip" = none
  n_list : mg "list" = none
  n_max : mg "max" = none
section
variable {P : Program} {w : World} {K : PySem.W.Frag} {mg : Str → Option Value} {base : Heap}
def f_is_integer (T : Tx P w K mg base) : Rho → Out := (oRet (up (fAndV (fOp (fCons (eVar 0) (fun _ => .ok [])) (oB (gIsi "int"))) (fNotV (fOp (fCons (eVar 0) (fun _ => .ok [])) (oB (gIsi "bool")))))))
def m_is_integer (T : Tx P w K mg base) : List D → Rs D := runP 1 (f_is_integer T)
theorem ok_is_integer (T : Tx P w K mg base) : FnOk P w K mg base (L2.CX P w) 1 T.f_is_integer T.d_is_integer ["value"] (spP K 0 1 (m_is_integer T)) :=
  fn_pure (N := ["value"]) (me := [0]) (m' := [0]) (fb := f_is_integer T) T.F_is_integer ⟨rfl, rfl, rfl, by decide +kernel, rfl, by decide +kernel, by decide +kernel⟩ (.inl rfl) fun cdv A outer s H E gd pso => by
    unfold f_is_integer
    exact (sss_one (ss_ret (si_of_sp (sp_and (sp_op (ev_isi (by rfl) T.n_isinstance (by rfl) T.n_int (by rfl) ⟨rfl, rfl, trivial⟩) (sps_cons (sp_var 0 (j := 0)) sps_nil) (o_isi (j := 0))) (sp_one (sp_not (sp_op (ev_isi (by rfl) T.n_isinstance (by rfl) T.n_bool (by rfl) ⟨rfl, rfl, trivial⟩) (sps_cons (sp_var 0 (j := 0)) sps_nil) (o_isi (j := 0))))))) (by decide) (by decide)))
def f_lowest (T : Tx P w K mg base) : Rho → Out := (oBind (oPar 2 3 (up (fOp (fCons (eVar 0) (fun _ => .ok [])) gAbs)) (up (eVar 1))) (oBind (oWhl (upB (fOpB (fCons (eVar 3) (fCons (eC (.int 0)) (fun _ => .ok []))) gGt)) (oPar 2 3 (up (eVar 3)) (up (fOp (fCons (eVar 2) (fCons (eVar 3) (fun _ => .ok []))) gMod))) (fun ρ => fuel2 ρ 3)) (oRet (up (fIf (fOpB (fCons (eVar 2) (fCons (eC (.int 0)) (fun _ => .ok []))) gGt) (fOp (fCons (fOp (fCons (eVar 0) (fCons (eVar 2) (fun _ => .ok []))) gDiv) (fCons (fOp (fCons (eVar 1) (fCons (eVar 2) (fun _ => .ok []))) gDiv) (fun _ => .ok []))) gTupD) (fOp (fCons (eC (.int 0)) (fCons (eC (.int 1)) (fun _ => .ok []))) gTupD))))))
def m_lowest (T : Tx P w K mg base) : List D → Rs D := runP 4 (f_lowest T)
theorem ok_lowest (T : Tx P w K mg base) : FnOk P w K mg base (L2.CX P w) 1 T.f_lowest T.d_lowest ["top", "bottom"] (spP K 0 2 (m_lowest T)) :=
  fn_pure (N := ["top", "bottom", "one", "other"]) (me := [0, 0, 0, 0]) (m' := [0, 0, 0, 0]) (fb := f_lowest T) T.F_lowest ⟨rfl, rfl, rfl, by decide +kernel, rfl, by decide +kernel, by decide +kernel⟩ (.inl rfl) fun cdv A outer s H E gd pso => by
    unfold f_lowest
    exact (sss_cons (ss_par (i := 2) (j := 3) (k1 := 0) (k2 := 0) gd.calm gd.nd (si_of_sp (sp_op (ev_callB (by rfl) T.n_abs (by rfl) ⟨rfl, trivial⟩) (sps_cons (sp_var 0 (j := 0)) sps_nil) (o_abs (j := 0)))) (si_of_sp (sp_var 1 (j := 0)))) (sss_cons (ss_whl (ml := [0, 0, 0, 0]) (fun ρ => fuel2 ρ 3) pso (sib_of_sb (sb_op (evt_cmp rfl) (sps_cons (sp_var 3 (j := 1)) (sps_cons (sp_int (j := 1)) sps_nil)) o_gt)) (sss_one (ss_par (i := 2) (j := 3) (k1 := 0) (k2 := 0) gd.calm gd.nd (si_of_sp (sp_var 3 (j := 0))) (si_of_sp (sp_op ev_bin (sps_cons (sp_var 2 (j := 1)) (sps_cons (sp_var 3 (j := 1)) sps_nil)) o_mod))))) (sss_one (ss_ret (si_of_sp (sp_if (sb_op (evt_cmp rfl) (sps_cons (sp_var 2 (j := 1)) (sps_cons (sp_int (j := 1)) sps_nil)) o_gt) (sp_op (ev_tup ⟨rfl, rfl, trivial⟩) (sps_cons (sp_op ev_bin (sps_cons (sp_var 0 (j := 1)) (sps_cons (sp_var 2 (j := 1)) sps_nil)) o_div) (sps_cons (sp_op ev_bin (sps_cons (sp_var 1 (j := 1)) (sps_cons (sp_var 2 (j := 1)) sps_nil)) o_div) sps_nil)) (o_tupD (js := [0, 0]) (by unfold AllZ; decide))) (sp_op (ev_tup ⟨rfl, rfl, trivial⟩) (sps_cons (sp_int (j := 0)) (sps_cons (sp_int (j := 0)) sps_nil)) (o_tupD (js := [0, 0]) (by unfold AllZ; decide))))) (by decide) (by decide)))))
def f_plus (T : Tx P w K mg base) : Rho → Out := (oRet (up (fCall (fCons (fOp (fCons (fOp (fCons (fOp (fCons (eVar 0) (fCons (eC (.int 0)) fun _ => .ok [])) gIx) (fCons (fOp (fCons (eVar 1) (fCons (eC (.int 1)) fun _ => .ok [])) gIx) (fun _ => .ok []))) gMul) (fCons (fOp (fCons (fOp (fCons (eVar 1) (fCons (eC (.int 0)) fun _ => .ok [])) gIx) (fCons (fOp (fCons (eVar 0) (fCons (eC (.int 1)) fun _ => .ok [])) gIx) (fun _ => .ok []))) gMul) (fun _ => .ok []))) gAdd) (fCons (fOp (fCons (fOp (fCons (eVar 0) (fCons (eC (.int 1)) fun _ => .ok [])) gIx) (fCons (fOp (fCons (eVar 1) (fCons (eC (.int 1)) fun _ => .ok [])) gIx) (fun _ => .ok []))) gMul) (fun _ => .ok []))) (m_lowest T))))
def m_plus (T : Tx P w K mg base) : List D → Rs D := runP 2 (f_plus T)
theorem ok_plus (T : Tx P w K mg base) : FnOk P w K mg base (L2.CX P w) 2 T.f_plus T.d_plus ["first", "other"] (spP K 0 2 (m_plus T)) :=
  fn_pure (N := ["first", "other"]) (me := [0, 0]) (m' := [0, 0]) (fb := f_plus T) T.F_plus ⟨rfl, rfl, rfl, by decide +kernel, rfl, by decide +kernel, by decide +kernel⟩ (.inl rfl) fun cdv A outer s H E gd pso => by
    unfold f_plus
    exact (sss_one (ss_ret (si_of_sf (sf_call (ok_lowest T) (gd.room.mono (by decide)) (by rfl) T.n_lowest T.F_lowest.kp T.b_lowest ⟨rfl, rfl, trivial⟩ (sps_cons (sp_op ev_bin (sps_cons (sp_up (sp_op ev_bin (sps_cons (sp_op (ev_ix (fun _ _ => rfl)) (sps_cons (sp_var 0 (j := 2)) (sps_cons (sp_int (j := 0)) sps_nil)) (o_ix (j := 1))) (sps_cons (sp_op (ev_ix (fun _ _ => rfl)) (sps_cons (sp_var 1 (j := 2)) (sps_cons (sp_int (j := 0)) sps_nil)) (o_ix (j := 1))) sps_nil)) o_mul) (by decide : 0 ≤ 1)) (sps_cons (sp_up (sp_op ev_bin (sps_cons (sp_op (ev_ix (fun _ _ => rfl)) (sps_cons (sp_var 1 (j := 2)) (sps_cons (sp_int (j := 0)) sps_nil)) (o_ix (j := 1))) (sps_cons (sp_op (ev_ix (fun _ _ => rfl)) (sps_cons (sp_var 0 (j := 2)) (sps_cons (sp_int (j := 0)) sps_nil)) (o_ix (j := 1))) sps_nil)) o_mul) (by decide : 0 ≤ 1)) sps_nil)) o_add) (sps_cons (sp_op ev_bin (sps_cons (sp_op (ev_ix (fun _ _ => rfl)) (sps_cons (sp_var 0 (j := 2)) (sps_cons (sp_int (j := 0)) sps_nil)) (o_ix (j := 1))) (sps_cons (sp_op (ev_ix (fun _ _ => rfl)) (sps_cons (sp_var 1 (j := 2)) (sps_cons (sp_int (j := 0)) sps_nil)) (o_ix (j := 1))) sps_nil)) o_mul) sps_nil)) (by unfold AllZ; decide))) (by decide) (by decide)))
def f_times (T : Tx P w K mg base) : Rho → Out := (oRet (up (fCall (fCons (fOp (fCons (fOp (fCons (eVar 0) (fCons (eC (.int 0)) fun _ => .ok [])) gIx) (fCons (fOp (fCons (eVar 1) (fCons (eC (.int 0)) fun _ => .ok [])) gIx) (fun _ => .ok []))) gMul) (fCons (fOp (fCons (fOp (fCons (eVar 0) (fCons (eC (.int 1)) fun _ => .ok [])) gIx) (fCons (fOp (fCons (eVar 1) (fCons (eC (.int 1)) fun _ => .ok [])) gIx) (fun _ => .ok []))) gMul) (fun _ => .ok []))) (m_lowest T))))
def m_times (T : Tx P w K mg base) : List D → Rs D := runP 2 (f_times T)
theorem ok_times (T : Tx P w K mg base) : FnOk P w K mg base (L2.CX P w) 2 T.f_times T.d_times ["first", "other"] (spP K 0 2 (m_times T)) :=
  fn_pure (N := ["first", "other"]) (me := [0, 0]) (m' := [0, 0]) (fb := f_times T) T.F_times ⟨rfl, rfl, rfl, by decide +kernel, rfl, by decide +kernel, by decide +kernel⟩ (.inl rfl) fun cdv A outer s H E gd pso => by
    unfold f_times
    exact (sss_one (ss_ret (si_of_sf (sf_call (ok_lowest T) (gd.room.mono (by decide)) (by rfl) T.n_lowest T.F_lowest.kp T.b_lowest ⟨rfl, rfl, trivial⟩ (sps_cons (sp_op ev_bin (sps_cons (sp_op (ev_ix (fun _ _ => rfl)) (sps_cons (sp_var 0 (j := 2)) (sps_cons (sp_int (j := 0)) sps_nil)) (o_ix (j := 1))) (sps_cons (sp_op (ev_ix (fun _ _ => rfl)) (sps_cons (sp_var 1 (j := 2)) (sps_cons (sp_int (j := 0)) sps_nil)) (o_ix (j := 1))) sps_nil)) o_mul) (sps_cons (sp_op ev_bin (sps_cons (sp_op (ev_ix (fun _ _ => rfl)) (sps_cons (sp_var 0 (j := 2)) (sps_cons (sp_int (j := 0)) sps_nil)) (o_ix (j := 1))) (sps_cons (sp_op (ev_ix (fun _ _ => rfl)) (sps_cons (sp_var 1 (j := 2)) (sps_cons (sp_int (j := 0)) sps_nil)) (o_ix (j := 1))) sps_nil)) o_mul) sps_nil)) (by unfold AllZ; decide))) (by decide) (by decide)))
def f_Counts___init__ (T : Tx P w K mg base) : Rho → Out := (oBind (oIf (upB (fOr (fNot (fB (fOp (fCons (eVar 1) (fun _ => .ok [])) (oB (gIsi "tuple"))))) (fNot (fChain (eC (.int 0)) (fOp (fCons (eVar 1) (fun _ => .ok [])) gLen) (eC (.int 12)) gLt gLe)))) (fun _ => .bad) .nx) (oBind (oIf (upB (fNot (fB (fOp (fCons (fLc [2] (fItems (eVar 1)) (gN 2) fYes (fAndV (fOp (fCons (eVar 2) (fun _ => .ok [])) (oB (gIsi "tuple"))) (fOp (fCons (fOp (fCons (eVar 2) (fun _ => .ok [])) gLen) (fCons (fOp (fCons (eVar 1) (fun _ => .ok [])) gLen) (fun _ => .ok []))) (oB gEq)))) (fun _ => .ok [])) (oB gAll))))) (fun _ => .bad) .nx) (oBind (oIf (upB (fNot (fB (fOp (fCons (fLc2 [2, 3] [3] (fItems (eVar 1)) (gN 2) fYes (fItems (eVar 2)) (gN 3) fYes (fAndV (fCall (fCons (eVar 3) (fun _ => .ok [])) (m_is_integer T)) (fOp (fCons (eVar 3) (fCons (eC (.int 0)) (fun _ => .ok []))) (oB gGe)))) (fun _ => .ok [])) (oB gAll))))) (fun _ => .bad) .nx) (oBind (oIf (upB (fB (fOp (fCons (fLc [4] (fRange (fCons (fOp (fCons (eVar 1) (fun _ => .ok [])) gLen) fun _ => .ok [])) (gN 4) fYes (fOp (fCons (fOp (fCons (fOp (fCons (eVar 1) (fCons (eVar 4) fun _ => .ok [])) gIx) (fCons (eVar 4) fun _ => .ok [])) gIx) (fCons (eC (.int 0)) (fun _ => .ok []))) (oB gNe))) (fun _ => .ok [])) (oB gAny)))) (fun _ => .bad) .nx) (oBind (oFld 0 T.C_Counts "rows" (eVar 1)) (oFld 0 T.C_Counts "size" (fOp (fCons (eVar 1) (fun _ => .ok [])) gLen)))))))
def m_Counts___init__ (T : Tx P w K mg base) : List D → Ro := runI 5 0 (f_Counts___init__ T)
theorem ok_Counts___init__ (T : Tx P w K mg base) : FnOk P w K mg base (L2.CX P w) 2 T.f_Counts___init__ T.d_Counts___init__ ["self", "rows"] (spI K 0 2 0 1 (m_Counts___init__ T)) :=
  fn_io (N := ["self", "rows", "row", "one", "side"]) (me := [0, 0, 0, 0, 0]) (m' := [1, 0, 0, 0, 0]) (fb := f_Counts___init__ T) T.F_Counts___init__ ⟨rfl, rfl, rfl, by decide +kernel, rfl, by decide +kernel, by decide +kernel⟩ (.inl rfl) (by decide) (by decide) (.inr (by decide)) fun cdv A outer s H E gd pso => by
    unfold f_Counts___init__
    exact (sss_cons (ss_if (m' := [1, 0, 0, 0, 0]) (sib_of_sb (sw_sb (sw_or (sb_not (sb_val (sp_op (ev_isi (by rfl) T.n_isinstance (by rfl) T.n_tuple (by rfl) ⟨rfl, rfl, trivial⟩) (sps_cons (sp_var 1 (j := 0)) sps_nil) (o_isi (j := 0))))) (sw_or1 (sb_not (sb_chain (sp_int (j := 0)) (sp_op (ev_callB (by rfl) T.n_len (by rfl) ⟨rfl, trivial⟩) (sps_cons (sp_var 1 (j := 0)) sps_nil) (o_len (j := 0))) (sp_globI (j := 0) (by rfl) T.n_MOST_SIDES) o_lt o_le)))))) (sss_one ss_bad) sss_nil) (sss_cons (ss_if (m' := [1, 0, 0, 0, 0]) (sib_of_sb (sb_not (sb_val (sp_op (ev_callB (by rfl) T.n_all (by rfl) ⟨rfl, trivial⟩) (sps_cons (sp_up (sp_of_sf (sf_lc (own := [("row", 2)]) gd.calm gd.nd (SIt.weak (si_shared (sp_var 1 (j := 0)))) (blkOk_by (N := ["self", "rows", "row", "one", "side"]) (sc := defScope s_Counts___init__) (by decide +kernel)) (by decide) (by decide) (fun _ _ _ _ _ => (sg_name gd.nd (i := 2))) (fun _ _ _ _ _ => sts_nil) (fun _ _ _ _ _ => (sf_of_sp (sp_and (sp_op (ev_isi (by rfl) T.n_isinstance (by rfl) T.n_tuple (by rfl) ⟨rfl, rfl, trivial⟩) (sps_cons (sp_var 2 (j := 0)) sps_nil) (o_isi (j := 0))) (sp_one (sp_op (ev_cmp rfl) (sps_cons (sp_op (ev_callB (by rfl) T.n_len (by rfl) ⟨rfl, trivial⟩) (sps_cons (sp_var 2 (j := 0)) sps_nil) (o_len (j := 0))) (sps_cons (sp_op (ev_callB (by rfl) T.n_len (by rfl) ⟨rfl, trivial⟩) (sps_cons (sp_var 1 (j := 0)) sps_nil) (o_len (j := 0))) sps_nil)) (o_eqR gd.room (j := 0) (j' := 0))))))))) (by decide : 0 ≤ 1)) sps_nil) (o_allR gd.calm))))) (sss_one ss_bad) sss_nil) (sss_cons (ss_if (m' := [1, 0, 0, 0, 0]) (sib_of_sb (sb_not (sb_val (sp_op (ev_callB (by rfl) T.n_all (by rfl) ⟨rfl, trivial⟩) (sps_cons (sp_up (sp_of_sf (sf_lc2 (own := [("row", 2), ("one", 3)]) (vs1 := [3]) gd.calm gd.nd (SIt.weak (si_shared (sp_var 1 (j := 0)))) (blkOk_by (N := ["self", "rows", "row", "one", "side"]) (sc := defScope s_Counts___init__) (by decide +kernel)) (by decide) (by decide) (by decide) (by decide) (fun _ _ _ _ _ => (sg_name gd.nd (i := 2))) (fun _ _ _ _ _ => sts_nil) (fun _ _ _ _ _ => (si_shared (sp_var 2 (j := 0)))) (fun _ _ _ _ _ => (sg_name gd.nd (i := 3))) (fun _ _ _ _ _ => sts_nil) (fun _ _ _ _ _ => (sf_of_sp (sp_and (sp_of_sf (sf_call (ok_is_integer T) (gd.room.mono (by decide)) (by rfl) T.n_is_integer T.F_is_integer.kp T.b_is_integer ⟨rfl, trivial⟩ (sps_cons (sp_var 3 (j := 0)) sps_nil) (by unfold AllZ; decide))) (sp_one (sp_op (ev_cmp rfl) (sps_cons (sp_var 3 (j := 1)) (sps_cons (sp_int (j := 1)) sps_nil)) o_ge))))))) (by decide : 0 ≤ 1)) sps_nil) (o_allR gd.calm))))) (sss_one ss_bad) sss_nil) (sss_cons (ss_if (m' := [1, 0, 0, 0, 0]) (sib_of_sb (sb_val (sp_op (ev_callB (by rfl) T.n_any (by rfl) ⟨rfl, trivial⟩) (sps_cons (sp_up (sp_of_sf (sf_lc (own := [("side", 4)]) gd.calm gd.nd (SIt.weak (si_range1 (by rfl) T.n_range ⟨rfl, trivial⟩ (sp_op (ev_callB (by rfl) T.n_len (by rfl) ⟨rfl, trivial⟩) (sps_cons (sp_var 1 (j := 0)) sps_nil) (o_len (j := 0))))) (blkOk_by (N := ["self", "rows", "row", "one", "side"]) (sc := defScope s_Counts___init__) (by decide +kernel)) (by decide) (by decide) (fun _ _ _ _ _ => (sg_name gd.nd (i := 4))) (fun _ _ _ _ _ => sts_nil) (fun _ _ _ _ _ => (sf_of_sp (sp_op (ev_cmp rfl) (sps_cons (sp_op (ev_ix (fun _ _ => rfl)) (sps_cons (sp_op (ev_ix (fun _ _ => rfl)) (sps_cons (sp_var 1 (j := 2)) (sps_cons (sp_var 4 (j := 0)) sps_nil)) (o_ix (j := 1))) (sps_cons (sp_var 4 (j := 0)) sps_nil)) (o_ix (j := 0))) (sps_cons (sp_int (j := 0)) sps_nil)) (o_neR gd.room (j := 0) (j' := 0))))))) (by decide : 0 ≤ 1)) sps_nil) (o_anyR gd.calm)))) (sss_one ss_bad) sss_nil) (sss_cons (ss_fld 0 T.c_Counts T.q_rows (sp_var 1 (j := 0))) (sss_one (ss_fld 0 T.c_Counts T.q_size (sp_op (ev_callB (by rfl) T.n_len (by rfl) ⟨rfl, trivial⟩) (sps_cons (sp_var 1 (j := 0)) sps_nil) (o_len (j := 0))))))))))
def f_Counts_wins (T : Tx P w K mg base) : Rho → Out := (oRet (up (fOp (fCons (fOp (fCons (fOp (fCons (eVar 0) fun _ => .ok []) (gFld [T.C_Counts] "rows")) (fCons (eVar 1) fun _ => .ok [])) gIx) (fun _ => .ok [])) gSum)))
def m_Counts_wins (T : Tx P w K mg base) : List D → Rs D := runP 2 (f_Counts_wins T)
theorem ok_Counts_wins (T : Tx P w K mg base) : FnOk P w K mg base (L2.CX P w) 1 T.f_Counts_wins T.d_Counts_wins ["self", "side"] (spP K 0 2 (m_Counts_wins T)) :=
  fn_pure (N := ["self", "side"]) (me := [0, 0]) (m' := [0, 0]) (fb := f_Counts_wins T) T.F_Counts_wins ⟨rfl, rfl, rfl, by decide +kernel, rfl, by decide +kernel, by decide +kernel⟩ (.inl rfl) fun cdv A outer s H E gd pso => by
    unfold f_Counts_wins
    exact (sss_one (ss_ret (si_of_sp (sp_op (ev_callB (by rfl) T.n_sum (by rfl) ⟨rfl, trivial⟩) (sps_cons (sp_op (ev_ix (fun _ _ => rfl)) (sps_cons (sp_op ev_fld (sps_cons (sp_var 0 (j := 3)) sps_nil) (o_fld (j := 2) (Cs := [T.C_Counts]) T.a_rows)) (sps_cons (sp_var 1 (j := 0)) sps_nil)) (o_ix (j := 1))) sps_nil) (o_sumR gd.calm))) (by decide) (by decide)))
def f_Counts_losses (T : Tx P w K mg base) : Rho → Out := (oRet (up (fOp (fCons (fLc [2] (fItems (fOp (fCons (eVar 0) fun _ => .ok []) (gFld [T.C_Counts] "rows"))) (gN 2) fYes (fOp (fCons (eVar 2) (fCons (eVar 1) fun _ => .ok [])) gIx)) (fun _ => .ok [])) gSum)))
def m_Counts_losses (T : Tx P w K mg base) : List D → Rs D := runP 3 (f_Counts_losses T)
theorem ok_Counts_losses (T : Tx P w K mg base) : FnOk P w K mg base (L2.CX P w) 1 T.f_Counts_losses T.d_Counts_losses ["self", "side"] (spP K 0 2 (m_Counts_losses T)) :=
  fn_pure (N := ["self", "side", "row"]) (me := [0, 0, 0]) (m' := [0, 0, 0]) (fb := f_Counts_losses T) T.F_Counts_losses ⟨rfl, rfl, rfl, by decide +kernel, rfl, by decide +kernel, by decide +kernel⟩ (.inl rfl) fun cdv A outer s H E gd pso => by
    unfold f_Counts_losses
    exact (sss_one (ss_ret (si_of_sp (sp_op (ev_callB (by rfl) T.n_sum (by rfl) ⟨rfl, trivial⟩) (sps_cons (sp_up (sp_of_sf (sf_lc (own := [("row", 2)]) gd.calm gd.nd (SIt.weak (si_shared (sp_op ev_fld (sps_cons (sp_var 0 (j := 1)) sps_nil) (o_fld (j := 0) (Cs := [T.C_Counts]) T.a_rows)))) (blkOk_by (N := ["self", "side", "row"]) (sc := defScope s_Counts_losses) (by decide +kernel)) (by decide) (by decide) (fun _ _ _ _ _ => (sg_name gd.nd (i := 2))) (fun _ _ _ _ _ => sts_nil) (fun _ _ _ _ _ => (sf_of_sp (sp_op (ev_ix (fun _ _ => rfl)) (sps_cons (sp_var 2 (j := 1)) (sps_cons (sp_var 1 (j := 0)) sps_nil)) (o_ix (j := 0))))))) (by decide : 0 ≤ 1)) sps_nil) (o_sumR gd.calm))) (by decide) (by decide)))
def f_Counts_met (T : Tx P w K mg base) : Rho → Out := (oRet (up (fOp (fCons (fOp (fCons (fOp (fCons (fOp (fCons (eVar 0) fun _ => .ok []) (gFld [T.C_Counts] "rows")) (fCons (eVar 1) fun _ => .ok [])) gIx) (fCons (eVar 2) fun _ => .ok [])) gIx) (fCons (fOp (fCons (fOp (fCons (fOp (fCons (eVar 0) fun _ => .ok []) (gFld [T.C_Counts] "rows")) (fCons (eVar 2) fun _ => .ok [])) gIx) (fCons (eVar 1) fun _ => .ok [])) gIx) (fun _ => .ok []))) gAdd)))
def m_Counts_met (T : Tx P w K mg base) : List D → Rs D := runP 3 (f_Counts_met T)
theorem ok_Counts_met (T : Tx P w K mg base) : FnOk P w K mg base (L2.CX P w) 1 T.f_Counts_met T.d_Counts_met ["self", "one", "other"] (spP K 0 3 (m_Counts_met T)) :=
  fn_pure (N := ["self", "one", "other"]) (me := [0, 0, 0]) (m' := [0, 0, 0]) (fb := f_Counts_met T) T.F_Counts_met ⟨rfl, rfl, rfl, by decide +kernel, rfl, by decide +kernel, by decide +kernel⟩ (.inl rfl) fun cdv A outer s H E gd pso => by
    unfold f_Counts_met
    exact (sss_one (ss_ret (si_of_sp (sp_op ev_bin (sps_cons (sp_op (ev_ix (fun _ _ => rfl)) (sps_cons (sp_op (ev_ix (fun _ _ => rfl)) (sps_cons (sp_op ev_fld (sps_cons (sp_var 0 (j := 4)) sps_nil) (o_fld (j := 3) (Cs := [T.C_Counts]) T.a_rows)) (sps_cons (sp_var 1 (j := 0)) sps_nil)) (o_ix (j := 2))) (sps_cons (sp_var 2 (j := 0)) sps_nil)) (o_ix (j := 1))) (sps_cons (sp_op (ev_ix (fun _ _ => rfl)) (sps_cons (sp_op (ev_ix (fun _ _ => rfl)) (sps_cons (sp_op ev_fld (sps_cons (sp_var 0 (j := 4)) sps_nil) (o_fld (j := 3) (Cs := [T.C_Counts]) T.a_rows)) (sps_cons (sp_var 2 (j := 0)) sps_nil)) (o_ix (j := 2))) (sps_cons (sp_var 1 (j := 0)) sps_nil)) (o_ix (j := 1))) sps_nil)) o_add)) (by decide) (by decide)))
def f_solved (T : Tx P w K mg base) : Rho → Out := (oBind (oSet 2 (up (fOp (fCons (eVar 0) (fun _ => .ok [])) gLen))) (oBind (oSet 3 (up (fLc [12, 11] (fZip (eVar 0) (eVar 1)) (gT2 (gN 12) (gN 11)) fYes (fOpL (fCons (fOpL (fCons (eVar 12) (fun _ => .ok [])) gListOf) (fCons (fOpL (fCons (eVar 11) (fun _ => .ok [])) gLstD) (fun _ => .ok []))) gAddL)))) (oBind (oFor (fRange (fCons (eVar 2) fun _ => .ok [])) (gN 4) (oBind (oSet 5 (up (fLc [9] (fRange (fCons (eVar 4) (fCons (eVar 2) fun _ => .ok []))) (gN 9) (fOpB (fCons (fOp (fCons (fOp (fCons (fOp (fCons (eVar 3) (fCons (eVar 9) fun _ => .ok [])) gIx) (fCons (eVar 4) fun _ => .ok [])) gIx) (fCons (eC (.int 0)) fun _ => .ok [])) gIx) (fCons (eC (.int 0)) (fun _ => .ok []))) gNe) (eVar 9)))) (oBind (oIf (upB (fOpB (fCons (fOp (fCons (eVar 5) (fun _ => .ok [])) gLen) (fCons (eC (.int 0)) (fun _ => .ok []))) gEq)) (oRet (up (eC .non))) .nx) (oBind (oAsg (up (fOp (fCons (fOp (fCons (eVar 3) (fCons (fOp (fCons (eVar 5) (fCons (eC (.int 0)) fun _ => .ok [])) gIx) fun _ => .ok [])) gIx) (fCons (fOp (fCons (eVar 3) (fCons (eVar 4) fun _ => .ok [])) gIx) (fun _ => .ok []))) gTupD)) (gT2 (gSubP 3 (plVar 3) (eVar 4)) (gSubP 3 (plVar 3) (fOp (fCons (eVar 5) (fCons (eC (.int 0)) fun _ => .ok [])) gIx)))) (oBind (oAsg (up (fOp (fCons (fOp (fCons (eVar 3) (fCons (eVar 4) fun _ => .ok [])) gIx) (fCons (eVar 4) fun _ => .ok [])) gIx)) (gT2 (gN 6) (gN 7))) (oBind (oSet 8 (up (fIf (fOpB (fCons (eVar 6) (fCons (eC (.int 0)) (fun _ => .ok []))) gGt) (fOp (fCons (eVar 7) (fCons (eVar 6) (fun _ => .ok []))) gTupD) (fOp (fCons (fOp (fCons (eVar 7) (fun _ => .ok [])) gNeg) (fCons (fOp (fCons (eVar 6) (fun _ => .ok [])) gNeg) (fun _ => .ok []))) gTupD)))) (oBind (oSub 3 (up (fLc [11] (fItems (fOp (fCons (eVar 3) (fCons (eVar 4) fun _ => .ok [])) gIx)) (gN 11) fYes (fCall (fCons (eVar 11) (fCons (eVar 8) (fun _ => .ok []))) (m_times T)))) (plVar 3) (eVar 4)) (oFor (fRange (fCons (eVar 2) fun _ => .ok [])) (gN 9) (oIf (upB (fAnd (fOpB (fCons (eVar 9) (fCons (eVar 4) (fun _ => .ok []))) gNe) (fOpB (fCons (fOp (fCons (fOp (fCons (fOp (fCons (eVar 3) (fCons (eVar 9) fun _ => .ok [])) gIx) (fCons (eVar 4) fun _ => .ok [])) gIx) (fCons (eC (.int 0)) fun _ => .ok [])) gIx) (fCons (eC (.int 0)) (fun _ => .ok []))) gNe))) (oBind (oSet 10 (up (fOp (fCons (fOp (fCons (fOp (fCons (fOp (fCons (fOp (fCons (eVar 3) (fCons (eVar 9) fun _ => .ok [])) gIx) (fCons (eVar 4) fun _ => .ok [])) gIx) (fCons (eC (.int 0)) fun _ => .ok [])) gIx) (fun _ => .ok [])) gNeg) (fCons (fOp (fCons (fOp (fCons (fOp (fCons (eVar 3) (fCons (eVar 9) fun _ => .ok [])) gIx) (fCons (eVar 4) fun _ => .ok [])) gIx) (fCons (eC (.int 1)) fun _ => .ok [])) gIx) (fun _ => .ok []))) gTupD))) (oSub 3 (up (fLc [11, 13] (fZip (fOp (fCons (eVar 3) (fCons (eVar 9) fun _ => .ok [])) gIx) (fOp (fCons (eVar 3) (fCons (eVar 4) fun _ => .ok [])) gIx)) (gT2 (gN 11) (gN 13)) fYes (fCall (fCons (eVar 11) (fCons (fCall (fCons (eVar 10) (fCons (eVar 13) (fun _ => .ok []))) (m_times T)) (fun _ => .ok []))) (m_plus T)))) (plVar 3) (eVar 9))) .nx))))))))) (oRet (up (fOp (fCons (fLc [12] (fItems (eVar 3)) (gN 12) fYes (fOp (fCons (eVar 12) (fCons (fOp (fCons (eC (.int 1)) (fun _ => .ok [])) gNeg) fun _ => .ok [])) gIx)) (fun _ => .ok [])) gTupOf))))))
def m_solved (T : Tx P w K mg base) : List D → Rs D := runP 14 (f_solved T)
theorem ok_solved (T : Tx P w K mg base) : FnOk P w K mg base (L2.CX P w) 3 T.f_solved T.d_solved ["rows", "goal"] (spP K 0 2 (m_solved T)) :=
  fn_pure (N := ["rows", "goal", "count", "work", "at", "spots", "top", "bottom", "turned", "k", "minus", "one", "row", "two"]) (me := [0, 0, 0, 0, 0, 0, 0, 0, 0, 0, 0, 0, 0, 0]) (m' := [0, 0, 0, 0, 0, 0, 0, 0, 0, 0, 0, 0, 0, 0]) (fb := f_solved T) T.F_solved ⟨rfl, rfl, rfl, by decide +kernel, rfl, by decide +kernel, by decide +kernel⟩ (.inl rfl) fun cdv A outer s H E gd pso => by
    unfold f_solved
    exact (sss_cons (ss_set (i := 2) (k := 0) (si_of_sp (sp_op (ev_callB (by rfl) T.n_len (by rfl) ⟨rfl, trivial⟩) (sps_cons (sp_var 0 (j := 0)) sps_nil) (o_len (j := 0)))) gd.nd) (sss_cons (ss_set (i := 3) (k := 1) (si_of_sf (sf_lc (own := [("row", 12), ("one", 11)]) gd.calm gd.nd (si_zip (by rfl) T.n_zip ⟨rfl, rfl, trivial⟩ (sp_var 0 (j := 1)) (sp_var 1 (j := 1))) (blkOk_by (N := ["rows", "goal", "count", "work", "at", "spots", "top", "bottom", "turned", "k", "minus", "one", "row", "two"]) (sc := defScope s_solved) (by decide +kernel)) (by decide) (by decide) (fun _ _ _ _ _ => (sg_two gd.calm (sg_name gd.nd (i := 12)) (sg_name gd.nd (i := 11)))) (fun _ _ _ _ _ => sts_nil) (fun _ _ _ _ _ => (sf_of_sp (sp_of_sf (sf_op ev_bin (sps_cons (sp_up (sp_of_sf (sf_op (ev_callT (by rfl) T.n_list (by rfl) ⟨rfl, trivial⟩) (sps_cons (sp_var 12 (j := 1)) sps_nil) o_list)) (by decide : 0 ≤ 1)) (sps_cons (sp_up (sp_of_sf (sf_op (ev_lst ⟨rfl, trivial⟩) (sps_cons (sp_var 11 (j := 0)) sps_nil) (o_lstD (js := [0]) (by unfold AllZ; decide)))) (by decide : 0 ≤ 1)) sps_nil)) o_addL)))))) gd.nd) (sss_cons (ss_for (ml := [0, 0, 0, 1, 0, 0, 0, 0, 0, 0, 0, 0, 0, 0]) pso gd.calm (si_range1 (by rfl) T.n_range ⟨rfl, trivial⟩ (sp_var 2 (j := 0))) (sg_name gd.nd (i := 4)) (sss_cons (ss_setLc (i := 5) (k := 0) gd.calm gd.nd (sir_share (si_of_sfr (lc_read (own := [("k", 9)]) (SIt.weak (si_range2 (by rfl) T.n_range ⟨rfl, rfl, trivial⟩ (sp_var 4 (j := 0)) (sp_var 2 (j := 0)))) (by decide) (by decide) (fun _ _ _ _ _ => (sg_name gd.nd (i := 9))) (fun _ _ _ _ _ => (sts_one (sb_op (evt_cmp rfl) (sps_cons (sp_op (ev_ix (fun _ _ => rfl)) (sps_cons (sp_op (ev_ix (fun _ _ => rfl)) (sps_cons (sp_op (ev_ix (fun _ _ => rfl)) (sps_cons (sp_var 3 (j := 3)) (sps_cons (sp_var 9 (j := 0)) sps_nil)) (o_ix (j := 2))) (sps_cons (sp_var 4 (j := 0)) sps_nil)) (o_ix (j := 1))) (sps_cons (sp_int (j := 0)) sps_nil)) (o_ix (j := 0))) (sps_cons (sp_int (j := 0)) sps_nil)) (o_neR gd.room (j := 0) (j' := 0))))) (fun _ _ _ _ _ => (sf_of_sp (sp_var 9 (j := 0))))))) (blkOk_by (N := ["rows", "goal", "count", "work", "at", "spots", "top", "bottom", "turned", "k", "minus", "one", "row", "two"]) (sc := defScope s_solved) (by decide +kernel)) (by rfl) (by rfl) (by rfl)) (sss_cons (ss_if (m' := [0, 0, 0, 1, 0, 0, 0, 0, 0, 0, 0, 0, 0, 0]) (sib_of_sb (sb_op (evt_cmp rfl) (sps_cons (sp_op (ev_callB (by rfl) T.n_len (by rfl) ⟨rfl, trivial⟩) (sps_cons (sp_var 5 (j := 0)) sps_nil) (o_len (j := 0))) (sps_cons (sp_int (j := 0)) sps_nil)) (o_eqR gd.room (j := 0) (j' := 0)))) (sss_one (ss_ret (si_of_sp (sp_non (j := 0))) (by decide) (by decide))) sss_nil) (sss_cons (ss_asg (si_of_sp (sp_op (ev_tup ⟨rfl, rfl, trivial⟩) (sps_cons (sp_op (ev_ix (fun _ _ => rfl)) (sps_cons (sp_var 3 (j := 1)) (sps_cons (sp_op (ev_ix (fun _ _ => rfl)) (sps_cons (sp_var 5 (j := 1)) (sps_cons (sp_int (j := 0)) sps_nil)) (o_ix (j := 0))) sps_nil)) (o_ix (j := 0))) (sps_cons (sp_op (ev_ix (fun _ _ => rfl)) (sps_cons (sp_var 3 (j := 1)) (sps_cons (sp_var 4 (j := 0)) sps_nil)) (o_ix (j := 0))) sps_nil)) (o_tupD (js := [0, 0]) (by unfold AllZ; decide)))) (sgm_two gd.calm (sgm_sub (spl_var 3) (sp_var 4 (j := 0))) (sgm_sub (spl_var 3) (sp_op (ev_ix (fun _ _ => rfl)) (sps_cons (sp_var 5 (j := 1)) (sps_cons (sp_int (j := 0)) sps_nil)) (o_ix (j := 0)))))) (sss_cons (ss_asg (si_of_sp (sp_op (ev_ix (fun _ _ => rfl)) (sps_cons (sp_op (ev_ix (fun _ _ => rfl)) (sps_cons (sp_var 3 (j := 2)) (sps_cons (sp_var 4 (j := 0)) sps_nil)) (o_ix (j := 1))) (sps_cons (sp_var 4 (j := 0)) sps_nil)) (o_ix (j := 0)))) (sgm_two gd.calm (sgm_of (sg_name gd.nd (i := 6))) (sgm_of (sg_name gd.nd (i := 7))))) (sss_cons (ss_set (i := 8) (k := 0) (si_of_sp (sp_if (sb_op (evt_cmp rfl) (sps_cons (sp_var 6 (j := 1)) (sps_cons (sp_int (j := 1)) sps_nil)) o_gt) (sp_op (ev_tup ⟨rfl, rfl, trivial⟩) (sps_cons (sp_var 7 (j := 0)) (sps_cons (sp_var 6 (j := 0)) sps_nil)) (o_tupD (js := [0, 0]) (by unfold AllZ; decide))) (sp_op (ev_tup ⟨rfl, rfl, trivial⟩) (sps_cons (sp_op ev_un (sps_cons (sp_var 7 (j := 0)) sps_nil) o_neg) (sps_cons (sp_op ev_un (sps_cons (sp_var 6 (j := 0)) sps_nil) o_neg) sps_nil)) (o_tupD (js := [0, 0]) (by unfold AllZ; decide))))) gd.nd) (sss_cons (ss_sub (i := 3) (k1 := 0) (si_of_sp (sp_of_sf (sf_lc (own := [("one", 11)]) gd.calm gd.nd (SIt.weak (si_shared (sp_op (ev_ix (fun _ _ => rfl)) (sps_cons (sp_var 3 (j := 1)) (sps_cons (sp_var 4 (j := 0)) sps_nil)) (o_ix (j := 0))))) (blkOk_by (N := ["rows", "goal", "count", "work", "at", "spots", "top", "bottom", "turned", "k", "minus", "one", "row", "two"]) (sc := defScope s_solved) (by decide +kernel)) (by decide) (by decide) (fun _ _ _ _ _ => (sg_name gd.nd (i := 11))) (fun _ _ _ _ _ => sts_nil) (fun _ _ _ _ _ => (sf_call (ok_times T) (gd.room.mono (by decide)) (by rfl) T.n_times T.F_times.kp T.b_times ⟨rfl, rfl, trivial⟩ (sps_cons (sp_var 11 (j := 0)) (sps_cons (sp_var 8 (j := 0)) sps_nil)) (by unfold AllZ; decide)))))) (spl_var 3) (sp_var 4 (j := 0))) (sss_one (ss_for (ml := [0, 0, 0, 1, 0, 0, 0, 0, 0, 0, 0, 0, 0, 0]) pso gd.calm (si_range1 (by rfl) T.n_range ⟨rfl, trivial⟩ (sp_var 2 (j := 0))) (sg_name gd.nd (i := 9)) (sss_one (ss_if (m' := [0, 0, 0, 1, 0, 0, 0, 0, 0, 0, 0, 0, 0, 0]) (sib_of_sb (sw_sb (sw_and (sb_op (evt_cmp rfl) (sps_cons (sp_var 9 (j := 0)) (sps_cons (sp_var 4 (j := 0)) sps_nil)) (o_neR gd.room (j := 0) (j' := 0))) (sw_and1 (sb_op (evt_cmp rfl) (sps_cons (sp_op (ev_ix (fun _ _ => rfl)) (sps_cons (sp_op (ev_ix (fun _ _ => rfl)) (sps_cons (sp_op (ev_ix (fun _ _ => rfl)) (sps_cons (sp_var 3 (j := 3)) (sps_cons (sp_var 9 (j := 0)) sps_nil)) (o_ix (j := 2))) (sps_cons (sp_var 4 (j := 0)) sps_nil)) (o_ix (j := 1))) (sps_cons (sp_int (j := 0)) sps_nil)) (o_ix (j := 0))) (sps_cons (sp_int (j := 0)) sps_nil)) (o_neR gd.room (j := 0) (j' := 0))))))) (sss_cons (ss_set (i := 10) (k := 0) (si_of_sp (sp_op (ev_tup ⟨rfl, rfl, trivial⟩) (sps_cons (sp_op ev_un (sps_cons (sp_op (ev_ix (fun _ _ => rfl)) (sps_cons (sp_op (ev_ix (fun _ _ => rfl)) (sps_cons (sp_op (ev_ix (fun _ _ => rfl)) (sps_cons (sp_var 3 (j := 3)) (sps_cons (sp_var 9 (j := 0)) sps_nil)) (o_ix (j := 2))) (sps_cons (sp_var 4 (j := 0)) sps_nil)) (o_ix (j := 1))) (sps_cons (sp_int (j := 0)) sps_nil)) (o_ix (j := 0))) sps_nil) o_neg) (sps_cons (sp_op (ev_ix (fun _ _ => rfl)) (sps_cons (sp_op (ev_ix (fun _ _ => rfl)) (sps_cons (sp_op (ev_ix (fun _ _ => rfl)) (sps_cons (sp_var 3 (j := 3)) (sps_cons (sp_var 9 (j := 0)) sps_nil)) (o_ix (j := 2))) (sps_cons (sp_var 4 (j := 0)) sps_nil)) (o_ix (j := 1))) (sps_cons (sp_int (j := 0)) sps_nil)) (o_ix (j := 0))) sps_nil)) (o_tupD (js := [0, 0]) (by unfold AllZ; decide)))) gd.nd) (sss_one (ss_sub (i := 3) (k1 := 0) (si_of_sp (sp_of_sf (sf_lc (own := [("one", 11), ("two", 13)]) gd.calm gd.nd (si_zip (by rfl) T.n_zip ⟨rfl, rfl, trivial⟩ (sp_op (ev_ix (fun _ _ => rfl)) (sps_cons (sp_var 3 (j := 2)) (sps_cons (sp_var 9 (j := 0)) sps_nil)) (o_ix (j := 1))) (sp_op (ev_ix (fun _ _ => rfl)) (sps_cons (sp_var 3 (j := 2)) (sps_cons (sp_var 4 (j := 0)) sps_nil)) (o_ix (j := 1)))) (blkOk_by (N := ["rows", "goal", "count", "work", "at", "spots", "top", "bottom", "turned", "k", "minus", "one", "row", "two"]) (sc := defScope s_solved) (by decide +kernel)) (by decide) (by decide) (fun _ _ _ _ _ => (sg_two gd.calm (sg_name gd.nd (i := 11)) (sg_name gd.nd (i := 13)))) (fun _ _ _ _ _ => sts_nil) (fun _ _ _ _ _ => (sf_call (ok_plus T) (gd.room.mono (by decide)) (by rfl) T.n_plus T.F_plus.kp T.b_plus ⟨rfl, rfl, trivial⟩ (sps_cons (sp_var 11 (j := 0)) (sps_cons (sp_of_sf (sf_call (ok_times T) (gd.room.mono (by decide)) (by rfl) T.n_times T.F_times.kp T.b_times ⟨rfl, rfl, trivial⟩ (sps_cons (sp_var 10 (j := 0)) (sps_cons (sp_var 13 (j := 0)) sps_nil)) (by unfold AllZ; decide))) sps_nil)) (by unfold AllZ; decide)))))) (spl_var 3) (sp_var 9 (j := 0))))) sss_nil))))))))))) (sss_one (ss_ret (si_of_sp (sp_op (ev_callT (by rfl) T.n_tuple (by rfl) ⟨rfl, trivial⟩) (sps_cons (sp_up (sp_of_sf (sf_lc (own := [("row", 12)]) gd.calm gd.nd (si_peek (sp_var 3 (j := 1))) (blkOk_by (N := ["rows", "goal", "count", "work", "at", "spots", "top", "bottom", "turned", "k", "minus", "one", "row", "two"]) (sc := defScope s_solved) (by decide +kernel)) (by decide) (by decide) (fun _ _ _ _ _ => (sg_name gd.nd (i := 12))) (fun _ _ _ _ _ => sts_nil) (fun _ _ _ _ _ => (sf_of_sp (sp_op (ev_ix (fun _ _ => rfl)) (sps_cons (sp_var 12 (j := 1)) (sps_cons (sp_op ev_un (sps_cons (sp_int (j := 0)) sps_nil) o_neg) sps_nil)) (o_ix (j := 0))))))) (by decide : 0 ≤ 1)) sps_nil) o_tuple)) (by decide) (by decide))))))
def f_by_half_wins (T : Tx P w K mg base) : Rho → Out := (oBind (oPar 1 2 (up (fOpL (fun _ => .ok []) gLstD)) (up (fOpL (fun _ => .ok []) gLstD))) (oBind (oFor (fRange (fCons (fOp (fCons (eVar 0) fun _ => .ok []) (gFld [T.C_Counts] "size")) fun _ => .ok [])) (gN 3) (oBind (oSet 4 (up (fOp (fCons (fMeth T.C_Counts "wins" (eVar 0) (fCons (eVar 3) (fun _ => .ok [])) (m_Counts_wins T)) (fCons (fMeth T.C_Counts "losses" (eVar 0) (fCons (eVar 3) (fun _ => .ok [])) (m_Counts_losses T)) (fun _ => .ok []))) gAdd))) (oBind (oDrop (iApp 1 (up (fLc [5] (fRange (fCons (fOp (fCons (eVar 0) fun _ => .ok []) (gFld [T.C_Counts] "size")) fun _ => .ok [])) (gN 5) fYes (fIf (fOpB (fCons (eVar 3) (fCons (eVar 5) (fun _ => .ok []))) gEq) (fOp (fCons (fOp (fCons (eC (.int 2)) (fCons (eVar 4) (fun _ => .ok []))) gAdd) (fCons (eC (.int 1)) (fun _ => .ok []))) gTupD) (fOp (fCons (fOp (fCons (fMeth T.C_Counts "met" (eVar 0) (fCons (eVar 3) (fCons (eVar 5) (fun _ => .ok []))) (m_Counts_met T)) (fun _ => .ok [])) gNeg) (fCons (eC (.int 1)) (fun _ => .ok []))) gTupD)))))) (oDrop (iApp 2 (up (fCall (fCons (fOp (fCons (fOp (fCons (eC (.int 2)) (fCons (fMeth T.C_Counts "wins" (eVar 0) (fCons (eVar 3) (fun _ => .ok [])) (m_Counts_wins T)) (fun _ => .ok []))) gAdd) (fCons (fMeth T.C_Counts "losses" (eVar 0) (fCons (eVar 3) (fun _ => .ok [])) (m_Counts_losses T)) (fun _ => .ok []))) gSub) (fCons (eC (.int 2)) (fun _ => .ok []))) (m_lowest T)))))))) (oRet (up (fCall (fCons (eVar 1) (fCons (eVar 2) (fun _ => .ok []))) (m_solved T))))))
def m_by_half_wins (T : Tx P w K mg base) : List D → Rs D := runP 6 (f_by_half_wins T)
theorem ok_by_half_wins (T : Tx P w K mg base) : FnOk P w K mg base (L2.CX P w) 4 T.f_by_half_wins T.d_by_half_wins ["counts"] (spP K 0 1 (m_by_half_wins T)) :=
  fn_pure (N := ["counts", "rows", "goal", "one", "total", "two"]) (me := [0, 0, 0, 0, 0, 0]) (m' := [0, 0, 0, 0, 0, 0]) (fb := f_by_half_wins T) T.F_by_half_wins ⟨rfl, rfl, rfl, by decide +kernel, rfl, by decide +kernel, by decide +kernel⟩ (.inl rfl) fun cdv A outer s H E gd pso => by
    unfold f_by_half_wins
    exact (sss_cons (ss_par (i := 1) (j := 2) (k1 := 1) (k2 := 1) gd.calm gd.nd (si_of_sf (sf_op (ev_lst trivial) sps_nil (o_lstD (js := []) (by unfold AllZ; decide)))) (si_of_sf (sf_op (ev_lst trivial) sps_nil (o_lstD (js := []) (by unfold AllZ; decide))))) (sss_cons (ss_for (ml := [0, 1, 1, 0, 0, 0]) pso gd.calm (si_range1 (by rfl) T.n_range ⟨rfl, trivial⟩ (sp_op ev_fld (sps_cons (sp_var 0 (j := 1)) sps_nil) (o_fld (j := 0) (Cs := [T.C_Counts]) T.a_size))) (sg_name gd.nd (i := 3)) (sss_cons (ss_set (i := 4) (k := 0) (si_of_sp (sp_op ev_bin (sps_cons (sp_up (sp_of_sf (sf_meth T.c_Counts T.h_Counts_wins (ok_Counts_wins T) (gd.room.mono (by decide)) T.b_Counts_wins (sp_var 0 (j := 0)) ⟨rfl, trivial⟩ (sps_cons (sp_var 3 (j := 0)) sps_nil) (by unfold AllZ; decide))) (by decide : 0 ≤ 1)) (sps_cons (sp_up (sp_of_sf (sf_meth T.c_Counts T.h_Counts_losses (ok_Counts_losses T) (gd.room.mono (by decide)) T.b_Counts_losses (sp_var 0 (j := 0)) ⟨rfl, trivial⟩ (sps_cons (sp_var 3 (j := 0)) sps_nil) (by unfold AllZ; decide))) (by decide : 0 ≤ 1)) sps_nil)) o_add)) gd.nd) (sss_cons (ss_expr (si_append 1 (si_of_sp (sp_of_sf (sf_lc (own := [("two", 5)]) gd.calm gd.nd (SIt.weak (si_range1 (by rfl) T.n_range ⟨rfl, trivial⟩ (sp_op ev_fld (sps_cons (sp_var 0 (j := 1)) sps_nil) (o_fld (j := 0) (Cs := [T.C_Counts]) T.a_size)))) (blkOk_by (N := ["counts", "rows", "goal", "one", "total", "two"]) (sc := defScope s_by_half_wins) (by decide +kernel)) (by decide) (by decide) (fun _ _ _ _ _ => (sg_name gd.nd (i := 5))) (fun _ _ _ _ _ => sts_nil) (fun _ _ _ _ _ => (sf_of_sp (sp_if (sb_op (evt_cmp rfl) (sps_cons (sp_var 3 (j := 0)) (sps_cons (sp_var 5 (j := 0)) sps_nil)) (o_eqR gd.room (j := 0) (j' := 0))) (sp_op (ev_tup ⟨rfl, rfl, trivial⟩) (sps_cons (sp_op ev_bin (sps_cons (sp_int (j := 1)) (sps_cons (sp_var 4 (j := 1)) sps_nil)) o_add) (sps_cons (sp_int (j := 0)) sps_nil)) (o_tupD (js := [0, 0]) (by unfold AllZ; decide))) (sp_op (ev_tup ⟨rfl, rfl, trivial⟩) (sps_cons (sp_op ev_un (sps_cons (sp_of_sf (sf_meth T.c_Counts T.h_Counts_met (ok_Counts_met T) (gd.room.mono (by decide)) T.b_Counts_met (sp_var 0 (j := 0)) ⟨rfl, rfl, trivial⟩ (sps_cons (sp_var 3 (j := 0)) (sps_cons (sp_var 5 (j := 0)) sps_nil)) (by unfold AllZ; decide))) sps_nil) o_neg) (sps_cons (sp_int (j := 0)) sps_nil)) (o_tupD (js := [0, 0]) (by unfold AllZ; decide)))))))))) (by decide)) (sss_one (ss_expr (si_append 2 (si_of_sf (sf_call (ok_lowest T) (gd.room.mono (by decide)) (by rfl) T.n_lowest T.F_lowest.kp T.b_lowest ⟨rfl, rfl, trivial⟩ (sps_cons (sp_op ev_bin (sps_cons (sp_up (sp_op ev_bin (sps_cons (sp_int (j := 1)) (sps_cons (sp_up (sp_of_sf (sf_meth T.c_Counts T.h_Counts_wins (ok_Counts_wins T) (gd.room.mono (by decide)) T.b_Counts_wins (sp_var 0 (j := 0)) ⟨rfl, trivial⟩ (sps_cons (sp_var 3 (j := 0)) sps_nil) (by unfold AllZ; decide))) (by decide : 0 ≤ 1)) sps_nil)) o_add) (by decide : 0 ≤ 1)) (sps_cons (sp_up (sp_of_sf (sf_meth T.c_Counts T.h_Counts_losses (ok_Counts_losses T) (gd.room.mono (by decide)) T.b_Counts_losses (sp_var 0 (j := 0)) ⟨rfl, trivial⟩ (sps_cons (sp_var 3 (j := 0)) sps_nil) (by unfold AllZ; decide))) (by decide : 0 ≤ 1)) sps_nil)) o_sub) (sps_cons (sp_int (j := 0)) sps_nil)) (by unfold AllZ; decide)))) (by decide)))))) (sss_weak (m' := [0, 0, 0, 0, 0, 0]) (sss_one (ss_ret (si_of_sf (sf_call (ok_solved T) (gd.room.mono (by decide)) (by rfl) T.n_solved T.F_solved.kp T.b_solved ⟨rfl, rfl, trivial⟩ (sps_cons (sp_var 1 (j := 0)) (sps_cons (sp_var 2 (j := 0)) sps_nil)) (by unfold AllZ; decide))) (by decide) (by decide))) (by decide))))
def f_strong_lot (T : Tx P w K mg base) : Rho → Out := (oBind (oFor (fRange (fCons (fOp (fCons (eVar 0) fun _ => .ok []) (gFld [T.C_Counts] "size")) fun _ => .ok [])) (gN 1) (oBind (oSet 2 (up (fDisp1 (eVar 1) (eC (.bl true))))) (oBind (oSet 3 (up (fOpL (fCons (eVar 1) (fun _ => .ok [])) gLstD))) (oBind (oWhl (upB (fOpB (fCons (fOp (fCons (eVar 3) (fun _ => .ok [])) gLen) (fCons (eC (.int 0)) (fun _ => .ok []))) gGt)) (oBind (oSet 4 (iPop 3)) (oFor (fRange (fCons (fOp (fCons (eVar 0) fun _ => .ok []) (gFld [T.C_Counts] "size")) fun _ => .ok [])) (gN 5) (oIf (upB (fAnd (fOpB (fCons (fOp (fCons (fOp (fCons (fOp (fCons (eVar 0) fun _ => .ok []) (gFld [T.C_Counts] "rows")) (fCons (eVar 5) fun _ => .ok [])) gIx) (fCons (eVar 4) fun _ => .ok [])) gIx) (fCons (eC (.int 0)) (fun _ => .ok []))) gGt) (fOpB (fCons (eVar 5) (fCons (eVar 2) (fun _ => .ok []))) gDnotin))) (oBind (oDput 2 (eC (.bl true)) (eVar 5)) (oDrop (iApp 3 (up (eVar 5))))) .nx))) (fun _ => 40)) (oIf (upB (fOpB (fCons (fOp (fCons (eVar 2) (fun _ => .ok [])) gLen) (fCons (fOp (fCons (eVar 0) fun _ => .ok []) (gFld [T.C_Counts] "size")) (fun _ => .ok []))) gLt)) (fun _ => .bad) .nx))))) (oRet (up (eC .non))))
def m_strong_lot (T : Tx P w K mg base) : List D → Rs D := runP 6 (f_strong_lot T)
theorem ok_strong_lot (T : Tx P w K mg base) : FnOk P w K mg base (L2.CX P w) 1 T.f_strong_lot T.d_strong_lot ["counts"] (spP K 0 1 (m_strong_lot T)) :=
  fn_pure (N := ["counts", "side", "seen", "todo", "at", "other"]) (me := [0, 0, 0, 0, 0, 0]) (m' := [0, 0, 0, 0, 0, 0]) (fb := f_strong_lot T) T.F_strong_lot ⟨rfl, rfl, rfl, by decide +kernel, rfl, by decide +kernel, by decide +kernel⟩ (.inl rfl) fun cdv A outer s H E gd pso => by
    unfold f_strong_lot
    exact (sss_cons (ss_for (ml := [0, 0, 0, 0, 0, 0]) pso gd.calm (si_range1 (by rfl) T.n_range ⟨rfl, trivial⟩ (sp_op ev_fld (sps_cons (sp_var 0 (j := 1)) sps_nil) (o_fld (j := 0) (Cs := [T.C_Counts]) T.a_size))) (sg_name gd.nd (i := 1)) (sss_weak' (m' := [0, 0, 1, 1, 0, 0]) (sss_cons (ss_set (i := 2) (k := 1) (si_of_sf (sf_disp1 (sp_var 1 (j := 0)) (sp_bl (j := 0)))) gd.nd) (sss_cons (ss_set (i := 3) (k := 1) (si_of_sf (sf_op (ev_lst ⟨rfl, trivial⟩) (sps_cons (sp_var 1 (j := 0)) sps_nil) (o_lstD (js := [0]) (by unfold AllZ; decide)))) gd.nd) (sss_cons (ss_whl (ml := [0, 0, 1, 1, 0, 0]) (fun _ => 40) pso (sib_of_sb (sb_op (evt_cmp rfl) (sps_cons (sp_up (sp_op (ev_callB (by rfl) T.n_len (by rfl) ⟨rfl, trivial⟩) (sps_cons (sp_var 3 (j := 1)) sps_nil) (o_len (j := 1))) (by decide : 0 ≤ 1)) (sps_cons (sp_int (j := 1)) sps_nil)) o_gt)) (sss_cons (ss_set (i := 4) (k := 0) (si_pop 3) gd.nd) (sss_one (ss_for (ml := [0, 0, 1, 1, 0, 0]) pso gd.calm (si_range1 (by rfl) T.n_range ⟨rfl, trivial⟩ (sp_op ev_fld (sps_cons (sp_var 0 (j := 1)) sps_nil) (o_fld (j := 0) (Cs := [T.C_Counts]) T.a_size))) (sg_name gd.nd (i := 5)) (sss_one (ss_if (m' := [0, 0, 1, 1, 0, 0]) (sib_of_sb (sw_sb (sw_and (sb_op (evt_cmp rfl) (sps_cons (sp_op (ev_ix (fun _ _ => rfl)) (sps_cons (sp_op (ev_ix (fun _ _ => rfl)) (sps_cons (sp_op ev_fld (sps_cons (sp_var 0 (j := 4)) sps_nil) (o_fld (j := 3) (Cs := [T.C_Counts]) T.a_rows)) (sps_cons (sp_var 5 (j := 0)) sps_nil)) (o_ix (j := 2))) (sps_cons (sp_var 4 (j := 0)) sps_nil)) (o_ix (j := 1))) (sps_cons (sp_int (j := 1)) sps_nil)) o_gt) (sw_and1 (sb_op (evt_cmp rfl) (sps_cons (sp_var 5 (j := 0)) (sps_cons (sp_var 2 (j := 1)) sps_nil)) (o_dnotinR gd.room)))))) (sss_cons (ss_dput 2 (hu_of gd.room) (sp_bl (j := 0)) (sp_var 5 (j := 0))) (sss_one (ss_expr (si_append 3 (si_of_sp (sp_var 5 (j := 0)))) (by decide)))) sss_nil)))))) (sss_one (ss_if (m' := [0, 0, 1, 1, 0, 0]) (sib_of_sb (sb_op (evt_cmp rfl) (sps_cons (sp_up (sp_op (ev_callB (by rfl) T.n_len (by rfl) ⟨rfl, trivial⟩) (sps_cons (sp_var 2 (j := 1)) sps_nil) (o_len (j := 1))) (by decide : 0 ≤ 1)) (sps_cons (sp_op ev_fld (sps_cons (sp_var 0 (j := 2)) sps_nil) (o_fld (j := 1) (Cs := [T.C_Counts]) T.a_size)) sps_nil)) o_lt)) (sss_one ss_bad) sss_nil))))) (by decide))) (sss_one (ss_ret (si_of_sp (sp_non (j := 0))) (by decide) (by decide))))
def f_are_strengths (T : Tx P w K mg base) : Rho → Out := (oBind (oFor (fRange (fCons (fOp (fCons (eVar 0) fun _ => .ok []) (gFld [T.C_Counts] "size")) fun _ => .ok [])) (gN 2) (oBind (oSet 3 (up (fOp (fCons (eC (.int 0)) (fCons (eC (.int 1)) (fun _ => .ok []))) gTupD))) (oBind (oFor (fRange (fCons (fOp (fCons (eVar 0) fun _ => .ok []) (gFld [T.C_Counts] "size")) fun _ => .ok [])) (gN 4) (oIf (upB (fOpB (fCons (eVar 2) (fCons (eVar 4) (fun _ => .ok []))) gNe)) (oSet 3 (up (fCall (fCons (eVar 3) (fCons (fCall (fCons (fOp (fCons (fMeth T.C_Counts "met" (eVar 0) (fCons (eVar 2) (fCons (eVar 4) (fun _ => .ok []))) (m_Counts_met T)) (fCons (fOp (fCons (eVar 1) (fCons (eVar 2) fun _ => .ok [])) gIx) (fun _ => .ok []))) gMul) (fCons (fOp (fCons (fOp (fCons (eVar 1) (fCons (eVar 2) fun _ => .ok [])) gIx) (fCons (fOp (fCons (eVar 1) (fCons (eVar 4) fun _ => .ok [])) gIx) (fun _ => .ok []))) gAdd) (fun _ => .ok []))) (m_lowest T)) (fun _ => .ok []))) (m_plus T)))) .nx)) (oIf (upB (fOpB (fCons (eVar 3) (fCons (fOp (fCons (fMeth T.C_Counts "wins" (eVar 0) (fCons (eVar 2) (fun _ => .ok [])) (m_Counts_wins T)) (fCons (eC (.int 1)) (fun _ => .ok []))) gTupD) (fun _ => .ok []))) gNe)) (oRet (up (eC (.bl false)))) .nx)))) (oRet (up (eC (.bl true)))))
def m_are_strengths (T : Tx P w K mg base) : List D → Rs D := runP 5 (f_are_strengths T)
theorem ok_are_strengths (T : Tx P w K mg base) : FnOk P w K mg base (L2.CX P w) 3 T.f_are_strengths T.d_are_strengths ["counts", "strengths"] (spP K 0 2 (m_are_strengths T)) :=
  fn_pure (N := ["counts", "strengths", "one", "due", "two"]) (me := [0, 0, 0, 0, 0]) (m' := [0, 0, 0, 0, 0]) (fb := f_are_strengths T) T.F_are_strengths ⟨rfl, rfl, rfl, by decide +kernel, rfl, by decide +kernel, by decide +kernel⟩ (.inl rfl) fun cdv A outer s H E gd pso => by
    unfold f_are_strengths
    exact (sss_cons (ss_for (ml := [0, 0, 0, 0, 0]) pso gd.calm (si_range1 (by rfl) T.n_range ⟨rfl, trivial⟩ (sp_op ev_fld (sps_cons (sp_var 0 (j := 1)) sps_nil) (o_fld (j := 0) (Cs := [T.C_Counts]) T.a_size))) (sg_name gd.nd (i := 2)) (sss_cons (ss_set (i := 3) (k := 0) (si_of_sp (sp_op (ev_tup ⟨rfl, rfl, trivial⟩) (sps_cons (sp_int (j := 0)) (sps_cons (sp_int (j := 0)) sps_nil)) (o_tupD (js := [0, 0]) (by unfold AllZ; decide)))) gd.nd) (sss_cons (ss_for (ml := [0, 0, 0, 0, 0]) pso gd.calm (si_range1 (by rfl) T.n_range ⟨rfl, trivial⟩ (sp_op ev_fld (sps_cons (sp_var 0 (j := 1)) sps_nil) (o_fld (j := 0) (Cs := [T.C_Counts]) T.a_size))) (sg_name gd.nd (i := 4)) (sss_one (ss_if (m' := [0, 0, 0, 0, 0]) (sib_of_sb (sb_op (evt_cmp rfl) (sps_cons (sp_var 2 (j := 0)) (sps_cons (sp_var 4 (j := 0)) sps_nil)) (o_neR gd.room (j := 0) (j' := 0)))) (sss_one (ss_set (i := 3) (k := 0) (si_of_sf (sf_call (ok_plus T) (gd.room.mono (by decide)) (by rfl) T.n_plus T.F_plus.kp T.b_plus ⟨rfl, rfl, trivial⟩ (sps_cons (sp_var 3 (j := 0)) (sps_cons (sp_of_sf (sf_call (ok_lowest T) (gd.room.mono (by decide)) (by rfl) T.n_lowest T.F_lowest.kp T.b_lowest ⟨rfl, rfl, trivial⟩ (sps_cons (sp_op ev_bin (sps_cons (sp_up (sp_of_sf (sf_meth T.c_Counts T.h_Counts_met (ok_Counts_met T) (gd.room.mono (by decide)) T.b_Counts_met (sp_var 0 (j := 0)) ⟨rfl, rfl, trivial⟩ (sps_cons (sp_var 2 (j := 0)) (sps_cons (sp_var 4 (j := 0)) sps_nil)) (by unfold AllZ; decide))) (by decide : 0 ≤ 1)) (sps_cons (sp_op (ev_ix (fun _ _ => rfl)) (sps_cons (sp_var 1 (j := 2)) (sps_cons (sp_var 2 (j := 0)) sps_nil)) (o_ix (j := 1))) sps_nil)) o_mul) (sps_cons (sp_op ev_bin (sps_cons (sp_op (ev_ix (fun _ _ => rfl)) (sps_cons (sp_var 1 (j := 2)) (sps_cons (sp_var 2 (j := 0)) sps_nil)) (o_ix (j := 1))) (sps_cons (sp_op (ev_ix (fun _ _ => rfl)) (sps_cons (sp_var 1 (j := 2)) (sps_cons (sp_var 4 (j := 0)) sps_nil)) (o_ix (j := 1))) sps_nil)) o_add) sps_nil)) (by unfold AllZ; decide))) sps_nil)) (by unfold AllZ; decide))) gd.nd)) sss_nil))) (sss_one (ss_if (m' := [0, 0, 0, 0, 0]) (sib_of_sb (sb_op (evt_cmp rfl) (sps_cons (sp_var 3 (j := 0)) (sps_cons (sp_op (ev_tup ⟨rfl, rfl, trivial⟩) (sps_cons (sp_of_sf (sf_meth T.c_Counts T.h_Counts_wins (ok_Counts_wins T) (gd.room.mono (by decide)) T.b_Counts_wins (sp_var 0 (j := 0)) ⟨rfl, trivial⟩ (sps_cons (sp_var 2 (j := 0)) sps_nil) (by unfold AllZ; decide))) (sps_cons (sp_int (j := 0)) sps_nil)) (o_tupD (js := [0, 0]) (by unfold AllZ; decide))) sps_nil)) (o_neR gd.room (j := 0) (j' := 0)))) (sss_one (ss_ret (si_of_sp (sp_bl (j := 0))) (by decide) (by decide))) sss_nil))))) (sss_one (ss_ret (si_of_sp (sp_bl (j := 0))) (by decide) (by decide))))
def f__law_draws (T : Tx P w K mg base) : Rho → Out := (oRet (up (fOpL (fCons (fOpL (fCons (eVar 0) (fun _ => .ok [])) gListOf) (fCons (eC (.int 0)) (fCons (eC (.int 0)) (fCons (eC (.int 1)) (fun _ => .ok []))))) gLstD)))
def m__law_draws (T : Tx P w K mg base) : List D → Rs D := runP 1 (f__law_draws T)
theorem ok__law_draws (T : Tx P w K mg base) : FnOk P w K mg base (L2.CX P w) 1 T.f__law_draws T.d__law_draws ["script"] (spP K 1 1 (m__law_draws T)) :=
  fn_pure (N := ["script"]) (me := [0]) (m' := [0]) (fb := f__law_draws T) T.F__law_draws ⟨rfl, rfl, rfl, by decide +kernel, rfl, by decide +kernel, by decide +kernel⟩ (.inr (show NN (f__law_draws T) from by unfold f__law_draws; repeat (first | exact nn_ret | exact nn_retc | exact nn_bad | apply nn_bind | apply nn_if))) fun cdv A outer s H E gd pso => by
    unfold f__law_draws
    exact (sss_one (ss_ret (si_of_sf (sf_op (ev_lst ⟨rfl, rfl, rfl, rfl, trivial⟩) (sps_cons (sp_of_sf (sf_op (ev_callT (by rfl) T.n_list (by rfl) ⟨rfl, trivial⟩) (sps_cons (sp_var 0 (j := 1)) sps_nil) o_list)) (sps_cons (sp_int (j := 0)) (sps_cons (sp_int (j := 0)) (sps_cons (sp_int (j := 0)) sps_nil)))) (o_lstD (js := [0, 0, 0, 0]) (by unfold AllZ; decide)))) (by decide) (by decide)))
def f__law_draw (T : Tx P w K mg base) : Rho → Out := (oBind (oIf (upB (fAnd (fOpB (fCons (fOp (fCons (eVar 0) (fCons (eC (.int 2)) fun _ => .ok [])) gIx) (fCons (eC (.int 0)) (fun _ => .ok []))) gEq) (fOpB (fCons (fOp (fCons (eVar 0) (fCons (eC (.int 1)) fun _ => .ok [])) gIx) (fCons (fOp (fCons (fOp (fCons (eVar 0) (fCons (eC (.int 0)) fun _ => .ok [])) gIx) (fun _ => .ok [])) gLen) (fun _ => .ok []))) gLt))) (oBind (oSet 2 (up (fOp (fCons (fOp (fCons (eVar 0) (fCons (eC (.int 0)) fun _ => .ok [])) gIx) (fCons (fOp (fCons (eVar 0) (fCons (eC (.int 1)) fun _ => .ok [])) gIx) fun _ => .ok [])) gIx))) (oBind (oSub 0 (up (fOp (fCons (fOp (fCons (eVar 0) (fCons (eC (.int 1)) fun _ => .ok [])) gIx) (fCons (eC (.int 1)) (fun _ => .ok []))) gAdd)) (plVar 0) (eC (.int 1))) (oBind (oIf (upB (fOpB (fCons (eVar 2) (fCons (fOp (fCons (eC (.int 10)) (fCons (eC (.int 18)) (fun _ => .ok []))) gPow) (fun _ => .ok []))) gGe)) (oSub 0 (up (eVar 2)) (plVar 0) (eC (.int 2))) .nx) (oSub 0 (up (fOp (fCons (fOp (fCons (fOp (fCons (fOp (fCons (fOp (fCons (fOp (fCons (eVar 0) (fCons (eC (.int 3)) fun _ => .ok [])) gIx) (fCons (eC (.int 48271)) (fun _ => .ok []))) gMul) (fCons (eVar 2) (fun _ => .ok []))) gAdd) (fCons (eC (.int 13)) (fun _ => .ok []))) gAdd) (fun _ => .ok [])) gInt) (fCons (eC (.int 2147483647)) (fun _ => .ok []))) gMod)) (plVar 0) (eC (.int 3)))))) .nx) (oBind (oIf (upB (fOpB (fCons (fOp (fCons (eVar 0) (fCons (eC (.int 2)) fun _ => .ok [])) gIx) (fCons (eC (.int 0)) (fun _ => .ok []))) gGt)) (oBind (oSet 3 (up (fOp (fCons (fOp (fCons (fOp (fCons (eVar 0) (fCons (eC (.int 2)) fun _ => .ok [])) gIx) (fun _ => .ok [])) gInt) (fCons (eVar 1) (fun _ => .ok []))) gMod))) (oBind (oSub 0 (up (fOp (fCons (fOp (fCons (eVar 0) (fCons (eC (.int 2)) fun _ => .ok [])) gIx) (fCons (eVar 1) (fun _ => .ok []))) gDiv)) (plVar 0) (eC (.int 2))) (oRet (up (eVar 3))))) .nx) (oBind (oSub 0 (up (fOp (fCons (fOp (fCons (fOp (fCons (fOp (fCons (fOp (fCons (eVar 0) (fCons (eC (.int 3)) fun _ => .ok [])) gIx) (fCons (eC (.int 69621)) (fun _ => .ok []))) gMul) (fCons (eC (.int 7)) (fun _ => .ok []))) gAdd) (fun _ => .ok [])) gInt) (fCons (eC (.int 2147483629)) (fun _ => .ok []))) gMod)) (plVar 0) (eC (.int 3))) (oRet (up (fOp (fCons (fOp (fCons (fOp (fCons (fOp (fCons (eVar 0) (fCons (eC (.int 3)) fun _ => .ok [])) gIx) (fCons (eC (.int 11)) (fun _ => .ok []))) gDiv) (fun _ => .ok [])) gInt) (fCons (eVar 1) (fun _ => .ok []))) gMod))))))
def m__law_draw (T : Tx P w K mg base) : List D → Ro := runI 4 0 (f__law_draw T)
theorem ok__law_draw (T : Tx P w K mg base) : FnOk P w K mg base (L2.CX P w) 1 T.f__law_draw T.d__law_draw ["draws", "limit"] (spI K 0 2 0 1 (m__law_draw T)) :=
  fn_io (N := ["draws", "limit", "cell", "value"]) (me := [0, 0, 0, 0]) (m' := [0, 0, 0, 0]) (fb := f__law_draw T) T.F__law_draw ⟨rfl, rfl, rfl, by decide +kernel, rfl, by decide +kernel, by decide +kernel⟩ (.inl rfl) (by decide) (by decide) (.inl (show NN (f__law_draw T) from by unfold f__law_draw; repeat (first | exact nn_ret | exact nn_retc | exact nn_bad | apply nn_bind | apply nn_if))) fun cdv A outer s H E gd pso => by
    unfold f__law_draw
    exact (sss_cons (ss_if (m' := [1, 0, 0, 0]) (sib_of_sb (sw_sb (sw_and (sb_op (evt_cmp rfl) (sps_cons (sp_op (ev_ix (fun _ _ => rfl)) (sps_cons (sp_var 0 (j := 1)) (sps_cons (sp_int (j := 0)) sps_nil)) (o_ix (j := 0))) (sps_cons (sp_int (j := 0)) sps_nil)) (o_eqR gd.room (j := 0) (j' := 0))) (sw_and1 (sb_op (evt_cmp rfl) (sps_cons (sp_op (ev_ix (fun _ _ => rfl)) (sps_cons (sp_var 0 (j := 2)) (sps_cons (sp_int (j := 0)) sps_nil)) (o_ix (j := 1))) (sps_cons (sp_up (sp_op (ev_callB (by rfl) T.n_len (by rfl) ⟨rfl, trivial⟩) (sps_cons (sp_op (ev_ix (fun _ _ => rfl)) (sps_cons (sp_var 0 (j := 1)) (sps_cons (sp_int (j := 0)) sps_nil)) (o_ix (j := 0))) sps_nil) (o_len (j := 0))) (by decide : 0 ≤ 1)) sps_nil)) o_lt))))) (sss_cons (ss_set (i := 2) (k := 0) (si_of_sp (sp_op (ev_ix (fun _ _ => rfl)) (sps_cons (sp_op (ev_ix (fun _ _ => rfl)) (sps_cons (sp_var 0 (j := 2)) (sps_cons (sp_int (j := 0)) sps_nil)) (o_ix (j := 1))) (sps_cons (sp_op (ev_ix (fun _ _ => rfl)) (sps_cons (sp_var 0 (j := 1)) (sps_cons (sp_int (j := 0)) sps_nil)) (o_ix (j := 0))) sps_nil)) (o_ix (j := 0)))) gd.nd) (sss_cons (ss_sub (i := 0) (k1 := 0) (si_of_sp (sp_op ev_bin (sps_cons (sp_op (ev_ix (fun _ _ => rfl)) (sps_cons (sp_var 0 (j := 2)) (sps_cons (sp_int (j := 0)) sps_nil)) (o_ix (j := 1))) (sps_cons (sp_int (j := 1)) sps_nil)) o_add)) (spl_var 0) (sp_int (j := 0))) (sss_cons (ss_if (m' := [1, 0, 0, 0]) (sib_of_sb (sb_op (evt_cmp rfl) (sps_cons (sp_var 2 (j := 1)) (sps_cons (sp_up (sp_op ev_bin (sps_cons (sp_int (j := 1)) (sps_cons (sp_int (j := 1)) sps_nil)) o_pow) (by decide : 0 ≤ 1)) sps_nil)) o_ge)) (sss_one (ss_sub (i := 0) (k1 := 0) (si_of_sp (sp_var 2 (j := 0))) (spl_var 0) (sp_int (j := 0)))) sss_nil) (sss_one (ss_sub (i := 0) (k1 := 0) (si_of_sp (sp_op ev_bin (sps_cons (sp_up (sp_op (ev_callT (by rfl) T.n_int (by rfl) ⟨rfl, trivial⟩) (sps_cons (sp_op ev_bin (sps_cons (sp_up (sp_op ev_bin (sps_cons (sp_up (sp_op ev_bin (sps_cons (sp_op (ev_ix (fun _ _ => rfl)) (sps_cons (sp_var 0 (j := 2)) (sps_cons (sp_int (j := 0)) sps_nil)) (o_ix (j := 1))) (sps_cons (sp_int (j := 1)) sps_nil)) o_mul) (by decide : 0 ≤ 1)) (sps_cons (sp_var 2 (j := 1)) sps_nil)) o_add) (by decide : 0 ≤ 1)) (sps_cons (sp_int (j := 1)) sps_nil)) o_add) sps_nil) (o_int (j := 0))) (by decide : 0 ≤ 1)) (sps_cons (sp_int (j := 1)) sps_nil)) o_mod)) (spl_var 0) (sp_int (j := 0))))))) sss_nil) (sss_cons (ss_if (m' := [1, 0, 0, 0]) (sib_of_sb (sb_op (evt_cmp rfl) (sps_cons (sp_op (ev_ix (fun _ _ => rfl)) (sps_cons (sp_var 0 (j := 2)) (sps_cons (sp_int (j := 0)) sps_nil)) (o_ix (j := 1))) (sps_cons (sp_int (j := 1)) sps_nil)) o_gt)) (sss_cons (ss_set (i := 3) (k := 0) (si_of_sp (sp_op ev_bin (sps_cons (sp_up (sp_op (ev_callT (by rfl) T.n_int (by rfl) ⟨rfl, trivial⟩) (sps_cons (sp_op (ev_ix (fun _ _ => rfl)) (sps_cons (sp_var 0 (j := 1)) (sps_cons (sp_int (j := 0)) sps_nil)) (o_ix (j := 0))) sps_nil) (o_int (j := 0))) (by decide : 0 ≤ 1)) (sps_cons (sp_var 1 (j := 1)) sps_nil)) o_mod)) gd.nd) (sss_cons (ss_sub (i := 0) (k1 := 0) (si_of_sp (sp_op ev_bin (sps_cons (sp_op (ev_ix (fun _ _ => rfl)) (sps_cons (sp_var 0 (j := 2)) (sps_cons (sp_int (j := 0)) sps_nil)) (o_ix (j := 1))) (sps_cons (sp_var 1 (j := 1)) sps_nil)) o_div)) (spl_var 0) (sp_int (j := 0))) (sss_one (ss_ret (si_of_sp (sp_var 3 (j := 0))) (by decide) (by decide))))) sss_nil) (sss_cons (ss_sub (i := 0) (k1 := 0) (si_of_sp (sp_op ev_bin (sps_cons (sp_up (sp_op (ev_callT (by rfl) T.n_int (by rfl) ⟨rfl, trivial⟩) (sps_cons (sp_op ev_bin (sps_cons (sp_up (sp_op ev_bin (sps_cons (sp_op (ev_ix (fun _ _ => rfl)) (sps_cons (sp_var 0 (j := 2)) (sps_cons (sp_int (j := 0)) sps_nil)) (o_ix (j := 1))) (sps_cons (sp_int (j := 1)) sps_nil)) o_mul) (by decide : 0 ≤ 1)) (sps_cons (sp_int (j := 1)) sps_nil)) o_add) sps_nil) (o_int (j := 0))) (by decide : 0 ≤ 1)) (sps_cons (sp_int (j := 1)) sps_nil)) o_mod)) (spl_var 0) (sp_int (j := 0))) (sss_one (ss_ret (si_of_sp (sp_op ev_bin (sps_cons (sp_up (sp_op (ev_callT (by rfl) T.n_int (by rfl) ⟨rfl, trivial⟩) (sps_cons (sp_op ev_bin (sps_cons (sp_op (ev_ix (fun _ _ => rfl)) (sps_cons (sp_var 0 (j := 2)) (sps_cons (sp_int (j := 0)) sps_nil)) (o_ix (j := 1))) (sps_cons (sp_int (j := 1)) sps_nil)) o_div) sps_nil) (o_int (j := 0))) (by decide : 0 ≤ 1)) (sps_cons (sp_var 1 (j := 1)) sps_nil)) o_mod)) (by decide) (by decide))))))
def f__law_low (T : Tx P w K mg base) : Rho → Out := (oBind (oPar 2 3 (up (fOp (fCons (eVar 0) (fun _ => .ok [])) gAbs)) (up (eVar 1))) (oBind (oWhl (upB (fOpB (fCons (eVar 3) (fCons (eC (.int 0)) (fun _ => .ok []))) gGt)) (oPar 2 3 (up (eVar 3)) (up (fOp (fCons (eVar 2) (fCons (fOp (fCons (fOp (fCons (eVar 2) (fCons (eVar 3) (fun _ => .ok []))) gDiv) (fCons (eVar 3) (fun _ => .ok []))) gMul) (fun _ => .ok []))) gSub))) (fun ρ => fuel2 ρ 3)) (oRet (up (fIf (fOpB (fCons (eVar 2) (fCons (eC (.int 0)) (fun _ => .ok []))) gGt) (fOp (fCons (fOp (fCons (eVar 0) (fCons (eVar 2) (fun _ => .ok []))) gDiv) (fCons (fOp (fCons (eVar 1) (fCons (eVar 2) (fun _ => .ok []))) gDiv) (fun _ => .ok []))) gTupD) (fOp (fCons (eC (.int 0)) (fCons (eC (.int 1)) (fun _ => .ok []))) gTupD))))))
def m__law_low (T : Tx P w K mg base) : List D → Rs D := runP 4 (f__law_low T)
theorem ok__law_low (T : Tx P w K mg base) : FnOk P w K mg base (L2.CX P w) 1 T.f__law_low T.d__law_low ["top", "bottom"] (spP K 0 2 (m__law_low T)) :=
  fn_pure (N := ["top", "bottom", "one", "two"]) (me := [0, 0, 0, 0]) (m' := [0, 0, 0, 0]) (fb := f__law_low T) T.F__law_low ⟨rfl, rfl, rfl, by decide +kernel, rfl, by decide +kernel, by decide +kernel⟩ (.inl rfl) fun cdv A outer s H E gd pso => by
    unfold f__law_low
    exact (sss_cons (ss_par (i := 2) (j := 3) (k1 := 0) (k2 := 0) gd.calm gd.nd (si_of_sp (sp_op (ev_callB (by rfl) T.n_abs (by rfl) ⟨rfl, trivial⟩) (sps_cons (sp_var 0 (j := 0)) sps_nil) (o_abs (j := 0)))) (si_of_sp (sp_var 1 (j := 0)))) (sss_cons (ss_whl (ml := [0, 0, 0, 0]) (fun ρ => fuel2 ρ 3) pso (sib_of_sb (sb_op (evt_cmp rfl) (sps_cons (sp_var 3 (j := 1)) (sps_cons (sp_int (j := 1)) sps_nil)) o_gt)) (sss_one (ss_par (i := 2) (j := 3) (k1 := 0) (k2 := 0) gd.calm gd.nd (si_of_sp (sp_var 3 (j := 0))) (si_of_sp (sp_op ev_bin (sps_cons (sp_var 2 (j := 1)) (sps_cons (sp_up (sp_op ev_bin (sps_cons (sp_up (sp_op ev_bin (sps_cons (sp_var 2 (j := 1)) (sps_cons (sp_var 3 (j := 1)) sps_nil)) o_div) (by decide : 0 ≤ 1)) (sps_cons (sp_var 3 (j := 1)) sps_nil)) o_mul) (by decide : 0 ≤ 1)) sps_nil)) o_sub))))) (sss_one (ss_ret (si_of_sp (sp_if (sb_op (evt_cmp rfl) (sps_cons (sp_var 2 (j := 1)) (sps_cons (sp_int (j := 1)) sps_nil)) o_gt) (sp_op (ev_tup ⟨rfl, rfl, trivial⟩) (sps_cons (sp_op ev_bin (sps_cons (sp_var 0 (j := 1)) (sps_cons (sp_var 2 (j := 1)) sps_nil)) o_div) (sps_cons (sp_op ev_bin (sps_cons (sp_var 1 (j := 1)) (sps_cons (sp_var 2 (j := 1)) sps_nil)) o_div) sps_nil)) (o_tupD (js := [0, 0]) (by unfold AllZ; decide))) (sp_op (ev_tup ⟨rfl, rfl, trivial⟩) (sps_cons (sp_int (j := 0)) (sps_cons (sp_int (j := 0)) sps_nil)) (o_tupD (js := [0, 0]) (by unfold AllZ; decide))))) (by decide) (by decide)))))
def f__law_plus (T : Tx P w K mg base) : Rho → Out := (oRet (up (fCall (fCons (fOp (fCons (fOp (fCons (fOp (fCons (eVar 0) (fCons (eC (.int 0)) fun _ => .ok [])) gIx) (fCons (fOp (fCons (eVar 1) (fCons (eC (.int 1)) fun _ => .ok [])) gIx) (fun _ => .ok []))) gMul) (fCons (fOp (fCons (fOp (fCons (eVar 1) (fCons (eC (.int 0)) fun _ => .ok [])) gIx) (fCons (fOp (fCons (eVar 0) (fCons (eC (.int 1)) fun _ => .ok [])) gIx) (fun _ => .ok []))) gMul) (fun _ => .ok []))) gAdd) (fCons (fOp (fCons (fOp (fCons (eVar 0) (fCons (eC (.int 1)) fun _ => .ok [])) gIx) (fCons (fOp (fCons (eVar 1) (fCons (eC (.int 1)) fun _ => .ok [])) gIx) (fun _ => .ok []))) gMul) (fun _ => .ok []))) (m__law_low T))))
def m__law_plus (T : Tx P w K mg base) : List D → Rs D := runP 2 (f__law_plus T)
theorem ok__law_plus (T : Tx P w K mg base) : FnOk P w K mg base (L2.CX P w) 2 T.f__law_plus T.d__law_plus ["one", "two"] (spP K 0 2 (m__law_plus T)) :=
  fn_pure (N := ["one", "two"]) (me := [0, 0]) (m' := [0, 0]) (fb := f__law_plus T) T.F__law_plus ⟨rfl, rfl, rfl, by decide +kernel, rfl, by decide +kernel, by decide +kernel⟩ (.inl rfl) fun cdv A outer s H E gd pso => by
    unfold f__law_plus
    exact (sss_one (ss_ret (si_of_sf (sf_call (ok__law_low T) (gd.room.mono (by decide)) (by rfl) T.n__law_low T.F__law_low.kp T.b__law_low ⟨rfl, rfl, trivial⟩ (sps_cons (sp_op ev_bin (sps_cons (sp_up (sp_op ev_bin (sps_cons (sp_op (ev_ix (fun _ _ => rfl)) (sps_cons (sp_var 0 (j := 2)) (sps_cons (sp_int (j := 0)) sps_nil)) (o_ix (j := 1))) (sps_cons (sp_op (ev_ix (fun _ _ => rfl)) (sps_cons (sp_var 1 (j := 2)) (sps_cons (sp_int (j := 0)) sps_nil)) (o_ix (j := 1))) sps_nil)) o_mul) (by decide : 0 ≤ 1)) (sps_cons (sp_up (sp_op ev_bin (sps_cons (sp_op (ev_ix (fun _ _ => rfl)) (sps_cons (sp_var 1 (j := 2)) (sps_cons (sp_int (j := 0)) sps_nil)) (o_ix (j := 1))) (sps_cons (sp_op (ev_ix (fun _ _ => rfl)) (sps_cons (sp_var 0 (j := 2)) (sps_cons (sp_int (j := 0)) sps_nil)) (o_ix (j := 1))) sps_nil)) o_mul) (by decide : 0 ≤ 1)) sps_nil)) o_add) (sps_cons (sp_op ev_bin (sps_cons (sp_op (ev_ix (fun _ _ => rfl)) (sps_cons (sp_var 0 (j := 2)) (sps_cons (sp_int (j := 0)) sps_nil)) (o_ix (j := 1))) (sps_cons (sp_op (ev_ix (fun _ _ => rfl)) (sps_cons (sp_var 1 (j := 2)) (sps_cons (sp_int (j := 0)) sps_nil)) (o_ix (j := 1))) sps_nil)) o_mul) sps_nil)) (by unfold AllZ; decide))) (by decide) (by decide)))
def f__law_counts (T : Tx P w K mg base) : Rho → Out := (oBind (oSet 3 (up (fOpL (fun _ => .ok []) gLstD))) (oBind (oFor (fRange (fCons (eVar 1) fun _ => .ok [])) (gN 4) (oDrop (iApp 3 (iOp (iCons (iLc [5] (fRange (fCons (eVar 1) fun _ => .ok [])) (gN 5) fYes (iIf (upB (fOpB (fCons (eVar 4) (fCons (eVar 5) (fun _ => .ok []))) gEq)) (up (eC (.int 0))) (iOp (iCons (up (eC (.int 0))) (iCons (iOp (iCons (iCallIO 0 0 (iHere 0 (iCons (up (fOp (fCons (eVar 2) (fCons (eC (.int 2)) (fun _ => .ok []))) gAdd)) (fun ρ => .ok [] ρ))) (m__law_draw T)) (iCons (up (eC (.int 1))) (fun ρ => .ok [] ρ))) gSub) (fun ρ => .ok [] ρ))) gMax2))) (fun ρ => .ok [] ρ)) gTupOf)))) (oRet (up (fOp (fCons (eVar 3) (fun _ => .ok [])) gTupOf)))))
def m__law_counts (T : Tx P w K mg base) : List D → Ro := runI 6 0 (f__law_counts T)
theorem ok__law_counts (T : Tx P w K mg base) : FnOk P w K mg base (L2.CX P w) 2 T.f__law_counts T.d__law_counts ["draws", "size", "most"] (spI K 0 3 0 1 (m__law_counts T)) :=
  fn_io (N := ["draws", "size", "most", "rows", "one", "two"]) (me := [0, 0, 0, 0, 0, 0]) (m' := [0, 0, 0, 0, 0, 0]) (fb := f__law_counts T) T.F__law_counts ⟨rfl, rfl, rfl, by decide +kernel, rfl, by decide +kernel, by decide +kernel⟩ (.inl rfl) (by decide) (by decide) (.inl (show NN (f__law_counts T) from by unfold f__law_counts; repeat (first | exact nn_ret | exact nn_retc | exact nn_bad | apply nn_bind | apply nn_if))) fun cdv A outer s H E gd pso => by
    unfold f__law_counts
    exact (sss_cons (ss_set (i := 3) (k := 1) (si_of_sf (sf_op (ev_lst trivial) sps_nil (o_lstD (js := []) (by unfold AllZ; decide)))) gd.nd) (sss_cons (ss_for (ml := [1, 0, 0, 1, 0, 0]) pso gd.calm (si_range1 (by rfl) T.n_range ⟨rfl, trivial⟩ (sp_var 1 (j := 0))) (sg_name gd.nd (i := 4)) (sss_one (ss_expr (si_append 3 (si_op (js := [1]) (ev_callT (by rfl) T.n_tuple (by rfl) ⟨rfl, trivial⟩) (sis_cons (si_share (si_lc (own := [("two", 5)]) gd.calm gd.nd (si_range1 (by rfl) T.n_range ⟨rfl, trivial⟩ (sp_var 1 (j := 0))) (blkOk_by (N := ["draws", "size", "most", "rows", "one", "two"]) (sc := defScope s__law_counts) (by decide +kernel)) (by decide) (by decide) (fun _ _ _ _ _ => (sg_name gd.nd (i := 5))) (fun _ _ _ _ _ => sts_nil) (fun _ _ _ _ _ => (si_if (sib_of_sb (sb_op (evt_cmp rfl) (sps_cons (sp_var 4 (j := 0)) (sps_cons (sp_var 5 (j := 0)) sps_nil)) (o_eqR gd.room (j := 0) (j' := 0)))) (si_of_sp (sp_int (j := 0))) (si_op (js := [0, 0]) (ev_callB (by rfl) T.n_max (by rfl) ⟨rfl, rfl, trivial⟩) (sis_cons (si_of_sp (sp_int (j := 0))) (sis_cons (si_op (js := [1, 1]) ev_bin (sis_cons (si_callIO (ok__law_draw T) (gd.room.mono (by decide)) (by rfl) T.n__law_draw T.F__law_draw.kp T.b__law_draw ⟨rfl, rfl, trivial⟩ (sas_here 0 (sis_cons (si_of_sp (sp_op ev_bin (sps_cons (sp_var 2 (j := 1)) (sps_cons (sp_int (j := 1)) sps_nil)) o_add)) sis_nil))) (sis_cons (si_of_sp (sp_int (j := 0))) sis_nil)) o_sub) sis_nil)) (o_max2R gd.calm)))))) sis_nil) o_tuple)) (by decide)))) (sss_one (ss_ret (si_of_sp (sp_op (ev_callT (by rfl) T.n_tuple (by rfl) ⟨rfl, trivial⟩) (sps_cons (sp_var 3 (j := 1)) sps_nil) o_tuple)) (by decide) (by decide)))))
def f_law (T : Tx P w K mg base) : Rho → Out := (oBind (oSet 1 (up (fCall (fCons (eVar 0) (fun _ => .ok [])) (m__law_draws T)))) (oBind (oSet 2 (iOp (iCons (up (eC (.int 1))) (iCons (iCallIO 1 0 (iHere 1 (iCons (up (eC (.int 4))) (fun ρ => .ok [] ρ))) (m__law_draw T)) (fun ρ => .ok [] ρ))) gAdd)) (oBind (oSet 3 (iLc [16] (fRange (fCons (eVar 2) fun _ => .ok [])) (gN 16) fYes (iOp (iCons (up (eC (.int 1))) (iCons (iCallIO 1 0 (iHere 1 (iCons (up (eC (.int 4))) (fun ρ => .ok [] ρ))) (m__law_draw T)) (fun ρ => .ok [] ρ))) gAdd))) (oBind (oSet 4 (up (fLc [16] (fRange (fCons (eVar 2) fun _ => .ok [])) (gN 16) fYes (fOpL (fCons (fOpL (fCons (eC (.int 0)) (fun _ => .ok [])) gLstD) (fCons (eVar 2) (fun _ => .ok []))) gMulL)))) (oBind (oFor (fRange (fCons (eVar 2) fun _ => .ok [])) (gN 5) (oFor (fRange (fCons (eVar 5) fun _ => .ok [])) (gN 6) (oBind (oSet 7 (iOp (iCons (up (eC (.int 1))) (iCons (iCallIO 1 0 (iHere 1 (iCons (up (eC (.int 2))) (fun ρ => .ok [] ρ))) (m__law_draw T)) (fun ρ => .ok [] ρ))) gAdd)) (oAsg (up (fOp (fCons (fOp (fCons (eVar 7) (fCons (fOp (fCons (eVar 3) (fCons (eVar 5) fun _ => .ok [])) gIx) (fun _ => .ok []))) gMul) (fCons (fOp (fCons (eVar 7) (fCons (fOp (fCons (eVar 3) (fCons (eVar 6) fun _ => .ok [])) gIx) (fun _ => .ok []))) gMul) (fun _ => .ok []))) gTupD)) (gT2 (gSubP 4 (plIx (plVar 4) (eVar 5)) (eVar 6)) (gSubP 4 (plIx (plVar 4) (eVar 6)) (eVar 5))))))) (oBind (oSet 8 (up (fMake T.C_Counts (fCons (fOp (fCons (fLc [17] (fItems (eVar 4)) (gN 17) fYes (fOp (fCons (eVar 17) (fun _ => .ok [])) gTupOf)) (fun _ => .ok [])) gTupOf) (fun _ => .ok [])) (m_Counts___init__ T)))) (oBind (oIf (upB (fOr (fOpB (fCons (fCall (fCons (eVar 8) (fCons (eVar 3) (fun _ => .ok []))) (m_are_strengths T)) (fCons (eC (.bl true)) (fun _ => .ok []))) gIsNot) (fOpB (fCons (fCall (fCons (eVar 8) (fCons (fLc [18] (fItems (eVar 3)) (gN 18) fYes (fOp (fCons (eC (.int 3)) (fCons (eVar 18) (fun _ => .ok []))) gMul)) (fun _ => .ok []))) (m_are_strengths T)) (fCons (eC (.bl true)) (fun _ => .ok []))) gIsNot))) (oRet (up (eC (.bl false)))) .nx) (oBind (oIf (upB (fAnd (fOpB (fCons (eVar 2) (fCons (eC (.int 1)) (fun _ => .ok []))) gGt) (fOpB (fCons (fCall (fCons (eVar 8) (fun _ => .ok [])) (m_strong_lot T)) (fCons (eC .non) (fun _ => .ok []))) gIsNotN))) (oRet (up (eC (.bl false)))) .nx) (oBind (oSet 9 (iLc [16] (fRange (fCons (eVar 2) fun _ => .ok [])) (gN 16) fYes (iOp (iCons (up (eC (.int 1))) (iCons (iCallIO 1 0 (iHere 1 (iCons (up (eC (.int 4))) (fun ρ => .ok [] ρ))) (m__law_draw T)) (fun ρ => .ok [] ρ))) gAdd))) (oBind (oSet 10 (up (fOp (fCons (fOp (fCons (fLc [16] (fRange (fCons (eVar 2) fun _ => .ok [])) (gN 16) (fOpB (fCons (fOp (fCons (fOp (fCons (eVar 9) (fCons (eVar 16) fun _ => .ok [])) gIx) (fCons (fOp (fCons (eVar 3) (fCons (eC (.int 0)) fun _ => .ok [])) gIx) (fun _ => .ok []))) gMul) (fCons (fOp (fCons (fOp (fCons (eVar 3) (fCons (eVar 16) fun _ => .ok [])) gIx) (fCons (fOp (fCons (eVar 9) (fCons (eC (.int 0)) fun _ => .ok [])) gIx) (fun _ => .ok []))) gMul) (fun _ => .ok []))) gNe) (eVar 16)) (fun _ => .ok [])) gLen) (fCons (eC (.int 0)) (fun _ => .ok []))) (oB gEq)))) (oBind (oIf (upB (fOpB (fCons (fCall (fCons (eVar 8) (fCons (eVar 9) (fun _ => .ok []))) (m_are_strengths T)) (fCons (eVar 10) (fun _ => .ok []))) gNe)) (oRet (up (eC (.bl false)))) .nx) (oBind (oSet 11 (iCallIO 1 0 (iHere 1 (iCons (up (eVar 2)) (iCons (up (eC (.int 3))) (fun ρ => .ok [] ρ)))) (m__law_counts T))) (oBind (oSet 12 (up (fMake T.C_Counts (fCons (eVar 11) (fun _ => .ok [])) (m_Counts___init__ T)))) (oBind (oSet 13 (up (eC (.bl true)))) (oBind (oFor (fRange (fCons (eVar 2) fun _ => .ok [])) (gN 5) (oBind (oSet 14 (up (fOp (fCons (eC (.int 0)) (fCons (eC (.int 1)) (fun _ => .ok []))) gTupD))) (oBind (oFor (fRange (fCons (eVar 2) fun _ => .ok [])) (gN 6) (oIf (upB (fOpB (fCons (eVar 5) (fCons (eVar 6) (fun _ => .ok []))) gNe)) (oSet 14 (up (fCall (fCons (eVar 14) (fCons (fCall (fCons (fOp (fCons (fOp (fCons (fOp (fCons (fOp (fCons (eVar 11) (fCons (eVar 5) fun _ => .ok [])) gIx) (fCons (eVar 6) fun _ => .ok [])) gIx) (fCons (fOp (fCons (fOp (fCons (eVar 11) (fCons (eVar 6) fun _ => .ok [])) gIx) (fCons (eVar 5) fun _ => .ok [])) gIx) (fun _ => .ok []))) gAdd) (fCons (fOp (fCons (eVar 9) (fCons (eVar 5) fun _ => .ok [])) gIx) (fun _ => .ok []))) gMul) (fCons (fOp (fCons (fOp (fCons (eVar 9) (fCons (eVar 5) fun _ => .ok [])) gIx) (fCons (fOp (fCons (eVar 9) (fCons (eVar 6) fun _ => .ok [])) gIx) (fun _ => .ok []))) gAdd) (fun _ => .ok []))) (m__law_low T)) (fun _ => .ok []))) (m__law_plus T)))) .nx)) (oSet 13 (up (fAndV (eVar 13) (fOp (fCons (eVar 14) (fCons (fOp (fCons (fOp (fCons (fOp (fCons (eVar 11) (fCons (eVar 5) fun _ => .ok [])) gIx) (fun _ => .ok [])) gSum) (fCons (eC (.int 1)) (fun _ => .ok []))) gTupD) (fun _ => .ok []))) (oB gEq)))))))) (oBind (oIf (upB (fOpB (fCons (fCall (fCons (eVar 12) (fCons (eVar 9) (fun _ => .ok []))) (m_are_strengths T)) (fCons (eVar 13) (fun _ => .ok []))) gNe)) (oRet (up (eC (.bl false)))) .nx) (oBind (oSet 15 (up (fCall (fCons (eVar 8) (fun _ => .ok [])) (m_by_half_wins T)))) (oBind (oIf (upB (fAnd (fOpB (fCons (eVar 2) (fCons (eC (.int 2)) (fun _ => .ok []))) gEq) (fOpB (fCons (fOp (fCons (fOp (fCons (fOp (fCons (fOp (fCons (eVar 15) (fCons (eC (.int 0)) fun _ => .ok [])) gIx) (fCons (eC (.int 0)) fun _ => .ok [])) gIx) (fCons (fOp (fCons (fOp (fCons (eVar 15) (fCons (eC (.int 1)) fun _ => .ok [])) gIx) (fCons (eC (.int 1)) fun _ => .ok [])) gIx) (fun _ => .ok []))) gMul) (fCons (fOp (fCons (fOp (fCons (fOp (fCons (eVar 15) (fCons (eC (.int 1)) fun _ => .ok [])) gIx) (fCons (eC (.int 0)) fun _ => .ok [])) gIx) (fCons (fOp (fCons (fOp (fCons (eVar 15) (fCons (eC (.int 0)) fun _ => .ok [])) gIx) (fCons (eC (.int 1)) fun _ => .ok [])) gIx) (fun _ => .ok []))) gMul) (fun _ => .ok []))) (oB gGt)) (fCons (fOp (fCons (fOp (fCons (eVar 3) (fCons (eC (.int 0)) fun _ => .ok [])) gIx) (fCons (fOp (fCons (eVar 3) (fCons (eC (.int 1)) fun _ => .ok [])) gIx) (fun _ => .ok []))) (oB gGt)) (fun _ => .ok []))) gNe))) (oRet (up (eC (.bl false)))) .nx) (oRet (up (eC (.bl true))))))))))))))))))))))
def m_law (T : Tx P w K mg base) : List D → Rs D := runP 19 (f_law T)
theorem ok_law (T : Tx P w K mg base) : FnOk P w K mg base (L2.CX P w) 5 T.f_law T.d_law ["script"] (spP K 0 1 (m_law T)) :=
  fn_pure (N := ["script", "draws", "size", "strengths", "rows", "a", "b", "times_v", "made", "others", "alike", "drawn", "counts", "good", "due", "ratings", "k", "row", "one"]) (me := [0, 0, 0, 0, 0, 0, 0, 0, 0, 0, 0, 0, 0, 0, 0, 0, 0, 0, 0]) (m' := [0, 0, 0, 0, 0, 0, 0, 0, 0, 0, 0, 0, 0, 0, 0, 0, 0, 0, 0]) (fb := f_law T) T.F_law ⟨rfl, rfl, rfl, by decide +kernel, rfl, by decide +kernel, by decide +kernel⟩ (.inl rfl) fun cdv A outer s H E gd pso => by
    unfold f_law
    exact (sss_cons (ss_set (i := 1) (k := 1) (si_of_sf (sf_call (ok__law_draws T) (gd.room.mono (by decide)) (by rfl) T.n__law_draws T.F__law_draws.kp T.b__law_draws ⟨rfl, trivial⟩ (sps_cons (sp_var 0 (j := 0)) sps_nil) (by unfold AllZ; decide))) gd.nd) (sss_cons (ss_set (i := 2) (k := 0) (si_op (js := [1, 1]) ev_bin (sis_cons (si_of_sp (sp_int (j := 0))) (sis_cons (si_callIO (ok__law_draw T) (gd.room.mono (by decide)) (by rfl) T.n__law_draw T.F__law_draw.kp T.b__law_draw ⟨rfl, rfl, trivial⟩ (sas_here 1 (sis_cons (si_of_sp (sp_int (j := 0))) sis_nil))) sis_nil)) o_add) gd.nd) (sss_cons (ss_set (i := 3) (k := 0) (si_share (si_lc (own := [("k", 16)]) gd.calm gd.nd (si_range1 (by rfl) T.n_range ⟨rfl, trivial⟩ (sp_var 2 (j := 0))) (blkOk_by (N := ["script", "draws", "size", "strengths", "rows", "a", "b", "times_v", "made", "others", "alike", "drawn", "counts", "good", "due", "ratings", "k", "row", "one"]) (sc := defScope s_law) (by decide +kernel)) (by decide) (by decide) (fun _ _ _ _ _ => (sg_name gd.nd (i := 16))) (fun _ _ _ _ _ => sts_nil) (fun _ _ _ _ _ => (si_op (js := [1, 1]) ev_bin (sis_cons (si_of_sp (sp_int (j := 0))) (sis_cons (si_callIO (ok__law_draw T) (gd.room.mono (by decide)) (by rfl) T.n__law_draw T.F__law_draw.kp T.b__law_draw ⟨rfl, rfl, trivial⟩ (sas_here 1 (sis_cons (si_of_sp (sp_int (j := 0))) sis_nil))) sis_nil)) o_add)))) gd.nd) (sss_cons (ss_setLc (i := 4) (k := 2) gd.calm gd.nd (si_of_sfr (lc_read (own := [("k", 16)]) (SIt.weak (si_range1 (by rfl) T.n_range ⟨rfl, trivial⟩ (sp_var 2 (j := 0)))) (by decide) (by decide) (fun _ _ _ _ _ => (sg_name gd.nd (i := 16))) (fun _ _ _ _ _ => sts_nil) (fun _ _ _ _ _ => (sf_op ev_bin (sps_cons (sp_up (sp_of_sf (sf_op (ev_lst ⟨rfl, trivial⟩) (sps_cons (sp_int (j := 0)) sps_nil) (o_lstD (js := [0]) (by unfold AllZ; decide)))) (by decide : 0 ≤ 1)) (sps_cons (sp_var 2 (j := 0)) sps_nil)) o_mulL)))) (blkOk_by (N := ["script", "draws", "size", "strengths", "rows", "a", "b", "times_v", "made", "others", "alike", "drawn", "counts", "good", "due", "ratings", "k", "row", "one"]) (sc := defScope s_law) (by decide +kernel)) (by rfl) (by rfl) (by rfl)) (sss_cons (ss_for (ml := [0, 1, 0, 0, 2, 0, 0, 0, 0, 0, 0, 0, 0, 0, 0, 0, 0, 0, 0]) pso gd.calm (si_range1 (by rfl) T.n_range ⟨rfl, trivial⟩ (sp_var 2 (j := 0))) (sg_name gd.nd (i := 5)) (sss_one (ss_for (ml := [0, 1, 0, 0, 2, 0, 0, 0, 0, 0, 0, 0, 0, 0, 0, 0, 0, 0, 0]) pso gd.calm (si_range1 (by rfl) T.n_range ⟨rfl, trivial⟩ (sp_var 5 (j := 0))) (sg_name gd.nd (i := 6)) (sss_cons (ss_set (i := 7) (k := 0) (si_op (js := [1, 1]) ev_bin (sis_cons (si_of_sp (sp_int (j := 0))) (sis_cons (si_callIO (ok__law_draw T) (gd.room.mono (by decide)) (by rfl) T.n__law_draw T.F__law_draw.kp T.b__law_draw ⟨rfl, rfl, trivial⟩ (sas_here 1 (sis_cons (si_of_sp (sp_int (j := 0))) sis_nil))) sis_nil)) o_add) gd.nd) (sss_one (ss_asg (si_of_sp (sp_op (ev_tup ⟨rfl, rfl, trivial⟩) (sps_cons (sp_op ev_bin (sps_cons (sp_var 7 (j := 1)) (sps_cons (sp_op (ev_ix (fun _ _ => rfl)) (sps_cons (sp_var 3 (j := 2)) (sps_cons (sp_var 5 (j := 0)) sps_nil)) (o_ix (j := 1))) sps_nil)) o_mul) (sps_cons (sp_op ev_bin (sps_cons (sp_var 7 (j := 1)) (sps_cons (sp_op (ev_ix (fun _ _ => rfl)) (sps_cons (sp_var 3 (j := 2)) (sps_cons (sp_var 6 (j := 0)) sps_nil)) (o_ix (j := 1))) sps_nil)) o_mul) sps_nil)) (o_tupD (js := [0, 0]) (by unfold AllZ; decide)))) (sgm_two gd.calm (sgm_sub (spl_ix (spl_var 4) (sp_var 5 (j := 0))) (sp_var 6 (j := 0))) (sgm_sub (spl_ix (spl_var 4) (sp_var 6 (j := 0))) (sp_var 5 (j := 0)))))))))) (sss_weak (m' := [0, 1, 0, 0, 0, 0, 0, 0, 0, 0, 0, 0, 0, 0, 0, 0, 0, 0, 0]) (sss_cons (ss_set (i := 8) (k := 0) (si_of_sp (sp_of_sf (sf_make T.k_Counts (ok_Counts___init__ T) (gd.room.mono (by decide)) (by rfl) T.n_Counts T.b_Counts___init__ ⟨rfl, trivial⟩ (sps_cons (sp_op (ev_callT (by rfl) T.n_tuple (by rfl) ⟨rfl, trivial⟩) (sps_cons (sp_up (sp_of_sf (sf_lc (own := [("row", 17)]) gd.calm gd.nd (SIt.weak (si_shared (sp_var 4 (j := 0)))) (blkOk_by (N := ["script", "draws", "size", "strengths", "rows", "a", "b", "times_v", "made", "others", "alike", "drawn", "counts", "good", "due", "ratings", "k", "row", "one"]) (sc := defScope s_law) (by decide +kernel)) (by decide) (by decide) (fun _ _ _ _ _ => (sg_name gd.nd (i := 17))) (fun _ _ _ _ _ => sts_nil) (fun _ _ _ _ _ => (sf_of_sp (sp_op (ev_callT (by rfl) T.n_tuple (by rfl) ⟨rfl, trivial⟩) (sps_cons (sp_var 17 (j := 1)) sps_nil) o_tuple))))) (by decide : 0 ≤ 1)) sps_nil) o_tuple) sps_nil) (by unfold AllZ; decide)))) gd.nd) (sss_cons (ss_if (m' := [0, 1, 0, 0, 0, 0, 0, 0, 0, 0, 0, 0, 0, 0, 0, 0, 0, 0, 0]) (sib_of_sb (sw_sb (sw_or (sb_op (evt_cmp rfl) (sps_cons (sp_of_sf (sf_call (ok_are_strengths T) (gd.room.mono (by decide)) (by rfl) T.n_are_strengths T.F_are_strengths.kp T.b_are_strengths ⟨rfl, rfl, trivial⟩ (sps_cons (sp_var 8 (j := 0)) (sps_cons (sp_var 3 (j := 0)) sps_nil)) (by unfold AllZ; decide))) (sps_cons (sp_bl (j := 0)) sps_nil)) (o_isNot (j := 0))) (sw_or1 (sb_op (evt_cmp rfl) (sps_cons (sp_of_sf (sf_call (ok_are_strengths T) (gd.room.mono (by decide)) (by rfl) T.n_are_strengths T.F_are_strengths.kp T.b_are_strengths ⟨rfl, rfl, trivial⟩ (sps_cons (sp_var 8 (j := 0)) (sps_cons (sp_of_sf (sf_lc (own := [("one", 18)]) gd.calm gd.nd (SIt.weak (si_shared (sp_var 3 (j := 0)))) (blkOk_by (N := ["script", "draws", "size", "strengths", "rows", "a", "b", "times_v", "made", "others", "alike", "drawn", "counts", "good", "due", "ratings", "k", "row", "one"]) (sc := defScope s_law) (by decide +kernel)) (by decide) (by decide) (fun _ _ _ _ _ => (sg_name gd.nd (i := 18))) (fun _ _ _ _ _ => sts_nil) (fun _ _ _ _ _ => (sf_of_sp (sp_op ev_bin (sps_cons (sp_int (j := 1)) (sps_cons (sp_var 18 (j := 1)) sps_nil)) o_mul))))) sps_nil)) (by unfold AllZ; decide))) (sps_cons (sp_bl (j := 0)) sps_nil)) (o_isNot (j := 0))))))) (sss_one (ss_ret (si_of_sp (sp_bl (j := 0))) (by decide) (by decide))) sss_nil) (sss_cons (ss_if (m' := [0, 1, 0, 0, 0, 0, 0, 0, 0, 0, 0, 0, 0, 0, 0, 0, 0, 0, 0]) (sib_of_sb (sw_sb (sw_and (sb_op (evt_cmp rfl) (sps_cons (sp_var 2 (j := 1)) (sps_cons (sp_int (j := 1)) sps_nil)) o_gt) (sw_and1 (sb_op (evt_cmp rfl) (sps_cons (sp_of_sf (sf_call (ok_strong_lot T) (gd.room.mono (by decide)) (by rfl) T.n_strong_lot T.F_strong_lot.kp T.b_strong_lot ⟨rfl, trivial⟩ (sps_cons (sp_var 8 (j := 0)) sps_nil) (by unfold AllZ; decide))) (sps_cons (sp_non (j := 0)) sps_nil)) (o_isNotN (j := 0))))))) (sss_one (ss_ret (si_of_sp (sp_bl (j := 0))) (by decide) (by decide))) sss_nil) (sss_cons (ss_set (i := 9) (k := 0) (si_share (si_lc (own := [("k", 16)]) gd.calm gd.nd (si_range1 (by rfl) T.n_range ⟨rfl, trivial⟩ (sp_var 2 (j := 0))) (blkOk_by (N := ["script", "draws", "size", "strengths", "rows", "a", "b", "times_v", "made", "others", "alike", "drawn", "counts", "good", "due", "ratings", "k", "row", "one"]) (sc := defScope s_law) (by decide +kernel)) (by decide) (by decide) (fun _ _ _ _ _ => (sg_name gd.nd (i := 16))) (fun _ _ _ _ _ => sts_nil) (fun _ _ _ _ _ => (si_op (js := [1, 1]) ev_bin (sis_cons (si_of_sp (sp_int (j := 0))) (sis_cons (si_callIO (ok__law_draw T) (gd.room.mono (by decide)) (by rfl) T.n__law_draw T.F__law_draw.kp T.b__law_draw ⟨rfl, rfl, trivial⟩ (sas_here 1 (sis_cons (si_of_sp (sp_int (j := 0))) sis_nil))) sis_nil)) o_add)))) gd.nd) (sss_cons (ss_set (i := 10) (k := 0) (si_of_sp (sp_op (ev_cmp rfl) (sps_cons (sp_op (ev_callB (by rfl) T.n_len (by rfl) ⟨rfl, trivial⟩) (sps_cons (sp_of_sf (sf_lc (own := [("k", 16)]) gd.calm gd.nd (SIt.weak (si_range1 (by rfl) T.n_range ⟨rfl, trivial⟩ (sp_var 2 (j := 0)))) (blkOk_by (N := ["script", "draws", "size", "strengths", "rows", "a", "b", "times_v", "made", "others", "alike", "drawn", "counts", "good", "due", "ratings", "k", "row", "one"]) (sc := defScope s_law) (by decide +kernel)) (by decide) (by decide) (fun _ _ _ _ _ => (sg_name gd.nd (i := 16))) (fun _ _ _ _ _ => (sts_one (sb_op (evt_cmp rfl) (sps_cons (sp_op ev_bin (sps_cons (sp_op (ev_ix (fun _ _ => rfl)) (sps_cons (sp_var 9 (j := 2)) (sps_cons (sp_var 16 (j := 0)) sps_nil)) (o_ix (j := 1))) (sps_cons (sp_op (ev_ix (fun _ _ => rfl)) (sps_cons (sp_var 3 (j := 2)) (sps_cons (sp_int (j := 0)) sps_nil)) (o_ix (j := 1))) sps_nil)) o_mul) (sps_cons (sp_op ev_bin (sps_cons (sp_op (ev_ix (fun _ _ => rfl)) (sps_cons (sp_var 3 (j := 2)) (sps_cons (sp_var 16 (j := 0)) sps_nil)) (o_ix (j := 1))) (sps_cons (sp_op (ev_ix (fun _ _ => rfl)) (sps_cons (sp_var 9 (j := 2)) (sps_cons (sp_int (j := 0)) sps_nil)) (o_ix (j := 1))) sps_nil)) o_mul) sps_nil)) (o_neR gd.room (j := 0) (j' := 0))))) (fun _ _ _ _ _ => (sf_of_sp (sp_var 16 (j := 0)))))) sps_nil) (o_len (j := 0))) (sps_cons (sp_int (j := 0)) sps_nil)) (o_eqR gd.room (j := 0) (j' := 0)))) gd.nd) (sss_cons (ss_if (m' := [0, 1, 0, 0, 0, 0, 0, 0, 0, 0, 0, 0, 0, 0, 0, 0, 0, 0, 0]) (sib_of_sb (sb_op (evt_cmp rfl) (sps_cons (sp_of_sf (sf_call (ok_are_strengths T) (gd.room.mono (by decide)) (by rfl) T.n_are_strengths T.F_are_strengths.kp T.b_are_strengths ⟨rfl, rfl, trivial⟩ (sps_cons (sp_var 8 (j := 0)) (sps_cons (sp_var 9 (j := 0)) sps_nil)) (by unfold AllZ; decide))) (sps_cons (sp_var 10 (j := 0)) sps_nil)) (o_neR gd.room (j := 0) (j' := 0)))) (sss_one (ss_ret (si_of_sp (sp_bl (j := 0))) (by decide) (by decide))) sss_nil) (sss_cons (ss_set (i := 11) (k := 0) (si_callIO (ok__law_counts T) (gd.room.mono (by decide)) (by rfl) T.n__law_counts T.F__law_counts.kp T.b__law_counts ⟨rfl, rfl, rfl, trivial⟩ (sas_here 1 (sis_cons (si_of_sp (sp_var 2 (j := 0))) (sis_cons (si_of_sp (sp_int (j := 0))) sis_nil)))) gd.nd) (sss_cons (ss_set (i := 12) (k := 0) (si_of_sp (sp_of_sf (sf_make T.k_Counts (ok_Counts___init__ T) (gd.room.mono (by decide)) (by rfl) T.n_Counts T.b_Counts___init__ ⟨rfl, trivial⟩ (sps_cons (sp_var 11 (j := 0)) sps_nil) (by unfold AllZ; decide)))) gd.nd) (sss_cons (ss_set (i := 13) (k := 0) (si_of_sp (sp_bl (j := 0))) gd.nd) (sss_cons (ss_for (ml := [0, 1, 0, 0, 0, 0, 0, 0, 0, 0, 0, 0, 0, 0, 0, 0, 0, 0, 0]) pso gd.calm (si_range1 (by rfl) T.n_range ⟨rfl, trivial⟩ (sp_var 2 (j := 0))) (sg_name gd.nd (i := 5)) (sss_cons (ss_set (i := 14) (k := 0) (si_of_sp (sp_op (ev_tup ⟨rfl, rfl, trivial⟩) (sps_cons (sp_int (j := 0)) (sps_cons (sp_int (j := 0)) sps_nil)) (o_tupD (js := [0, 0]) (by unfold AllZ; decide)))) gd.nd) (sss_cons (ss_for (ml := [0, 1, 0, 0, 0, 0, 0, 0, 0, 0, 0, 0, 0, 0, 0, 0, 0, 0, 0]) pso gd.calm (si_range1 (by rfl) T.n_range ⟨rfl, trivial⟩ (sp_var 2 (j := 0))) (sg_name gd.nd (i := 6)) (sss_one (ss_if (m' := [0, 1, 0, 0, 0, 0, 0, 0, 0, 0, 0, 0, 0, 0, 0, 0, 0, 0, 0]) (sib_of_sb (sb_op (evt_cmp rfl) (sps_cons (sp_var 5 (j := 0)) (sps_cons (sp_var 6 (j := 0)) sps_nil)) (o_neR gd.room (j := 0) (j' := 0)))) (sss_one (ss_set (i := 14) (k := 0) (si_of_sf (sf_call (ok__law_plus T) (gd.room.mono (by decide)) (by rfl) T.n__law_plus T.F__law_plus.kp T.b__law_plus ⟨rfl, rfl, trivial⟩ (sps_cons (sp_var 14 (j := 0)) (sps_cons (sp_of_sf (sf_call (ok__law_low T) (gd.room.mono (by decide)) (by rfl) T.n__law_low T.F__law_low.kp T.b__law_low ⟨rfl, rfl, trivial⟩ (sps_cons (sp_op ev_bin (sps_cons (sp_up (sp_op ev_bin (sps_cons (sp_op (ev_ix (fun _ _ => rfl)) (sps_cons (sp_op (ev_ix (fun _ _ => rfl)) (sps_cons (sp_var 11 (j := 3)) (sps_cons (sp_var 5 (j := 0)) sps_nil)) (o_ix (j := 2))) (sps_cons (sp_var 6 (j := 0)) sps_nil)) (o_ix (j := 1))) (sps_cons (sp_op (ev_ix (fun _ _ => rfl)) (sps_cons (sp_op (ev_ix (fun _ _ => rfl)) (sps_cons (sp_var 11 (j := 3)) (sps_cons (sp_var 6 (j := 0)) sps_nil)) (o_ix (j := 2))) (sps_cons (sp_var 5 (j := 0)) sps_nil)) (o_ix (j := 1))) sps_nil)) o_add) (by decide : 0 ≤ 1)) (sps_cons (sp_op (ev_ix (fun _ _ => rfl)) (sps_cons (sp_var 9 (j := 2)) (sps_cons (sp_var 5 (j := 0)) sps_nil)) (o_ix (j := 1))) sps_nil)) o_mul) (sps_cons (sp_op ev_bin (sps_cons (sp_op (ev_ix (fun _ _ => rfl)) (sps_cons (sp_var 9 (j := 2)) (sps_cons (sp_var 5 (j := 0)) sps_nil)) (o_ix (j := 1))) (sps_cons (sp_op (ev_ix (fun _ _ => rfl)) (sps_cons (sp_var 9 (j := 2)) (sps_cons (sp_var 6 (j := 0)) sps_nil)) (o_ix (j := 1))) sps_nil)) o_add) sps_nil)) (by unfold AllZ; decide))) sps_nil)) (by unfold AllZ; decide))) gd.nd)) sss_nil))) (sss_one (ss_set (i := 13) (k := 0) (si_of_sp (sp_and (sp_var 13 (j := 0)) (sp_one (sp_op (ev_cmp rfl) (sps_cons (sp_var 14 (j := 0)) (sps_cons (sp_op (ev_tup ⟨rfl, rfl, trivial⟩) (sps_cons (sp_op (ev_callB (by rfl) T.n_sum (by rfl) ⟨rfl, trivial⟩) (sps_cons (sp_op (ev_ix (fun _ _ => rfl)) (sps_cons (sp_var 11 (j := 2)) (sps_cons (sp_var 5 (j := 0)) sps_nil)) (o_ix (j := 1))) sps_nil) (o_sumR gd.calm)) (sps_cons (sp_int (j := 0)) sps_nil)) (o_tupD (js := [0, 0]) (by unfold AllZ; decide))) sps_nil)) (o_eqR gd.room (j := 0) (j' := 0)))))) gd.nd))))) (sss_cons (ss_if (m' := [0, 1, 0, 0, 0, 0, 0, 0, 0, 0, 0, 0, 0, 0, 0, 0, 0, 0, 0]) (sib_of_sb (sb_op (evt_cmp rfl) (sps_cons (sp_of_sf (sf_call (ok_are_strengths T) (gd.room.mono (by decide)) (by rfl) T.n_are_strengths T.F_are_strengths.kp T.b_are_strengths ⟨rfl, rfl, trivial⟩ (sps_cons (sp_var 12 (j := 0)) (sps_cons (sp_var 9 (j := 0)) sps_nil)) (by unfold AllZ; decide))) (sps_cons (sp_var 13 (j := 0)) sps_nil)) (o_neR gd.room (j := 0) (j' := 0)))) (sss_one (ss_ret (si_of_sp (sp_bl (j := 0))) (by decide) (by decide))) sss_nil) (sss_cons (ss_set (i := 15) (k := 0) (si_of_sf (sf_call (ok_by_half_wins T) (gd.room.mono (by decide)) (by rfl) T.n_by_half_wins T.F_by_half_wins.kp T.b_by_half_wins ⟨rfl, trivial⟩ (sps_cons (sp_var 8 (j := 0)) sps_nil) (by unfold AllZ; decide))) gd.nd) (sss_cons (ss_if (m' := [0, 1, 0, 0, 0, 0, 0, 0, 0, 0, 0, 0, 0, 0, 0, 0, 0, 0, 0]) (sib_of_sb (sw_sb (sw_and (sb_op (evt_cmp rfl) (sps_cons (sp_var 2 (j := 0)) (sps_cons (sp_int (j := 0)) sps_nil)) (o_eqR gd.room (j := 0) (j' := 0))) (sw_and1 (sb_op (evt_cmp rfl) (sps_cons (sp_op (ev_cmp rfl) (sps_cons (sp_up (sp_op ev_bin (sps_cons (sp_op (ev_ix (fun _ _ => rfl)) (sps_cons (sp_op (ev_ix (fun _ _ => rfl)) (sps_cons (sp_var 15 (j := 3)) (sps_cons (sp_int (j := 0)) sps_nil)) (o_ix (j := 2))) (sps_cons (sp_int (j := 0)) sps_nil)) (o_ix (j := 1))) (sps_cons (sp_op (ev_ix (fun _ _ => rfl)) (sps_cons (sp_op (ev_ix (fun _ _ => rfl)) (sps_cons (sp_var 15 (j := 3)) (sps_cons (sp_int (j := 0)) sps_nil)) (o_ix (j := 2))) (sps_cons (sp_int (j := 0)) sps_nil)) (o_ix (j := 1))) sps_nil)) o_mul) (by decide : 0 ≤ 1)) (sps_cons (sp_up (sp_op ev_bin (sps_cons (sp_op (ev_ix (fun _ _ => rfl)) (sps_cons (sp_op (ev_ix (fun _ _ => rfl)) (sps_cons (sp_var 15 (j := 3)) (sps_cons (sp_int (j := 0)) sps_nil)) (o_ix (j := 2))) (sps_cons (sp_int (j := 0)) sps_nil)) (o_ix (j := 1))) (sps_cons (sp_op (ev_ix (fun _ _ => rfl)) (sps_cons (sp_op (ev_ix (fun _ _ => rfl)) (sps_cons (sp_var 15 (j := 3)) (sps_cons (sp_int (j := 0)) sps_nil)) (o_ix (j := 2))) (sps_cons (sp_int (j := 0)) sps_nil)) (o_ix (j := 1))) sps_nil)) o_mul) (by decide : 0 ≤ 1)) sps_nil)) o_gt) (sps_cons (sp_op (ev_cmp rfl) (sps_cons (sp_op (ev_ix (fun _ _ => rfl)) (sps_cons (sp_var 3 (j := 2)) (sps_cons (sp_int (j := 0)) sps_nil)) (o_ix (j := 1))) (sps_cons (sp_op (ev_ix (fun _ _ => rfl)) (sps_cons (sp_var 3 (j := 2)) (sps_cons (sp_int (j := 0)) sps_nil)) (o_ix (j := 1))) sps_nil)) o_gt) sps_nil)) (o_neR gd.room (j := 0) (j' := 0))))))) (sss_one (ss_ret (si_of_sp (sp_bl (j := 0))) (by decide) (by decide))) sss_nil) (sss_one (ss_ret (si_of_sp (sp_bl (j := 0))) (by decide) (by decide)))))))))))))))) (by decide)))))))
end
end VL

set_option Elab.async false
set_option linter.all false
set_option maxRecDepth 100000
set_option maxHeartbeats 4000000
namespace VL
open PySem PySem.Spec PyProof.Rows L2
def BB : Nat := 2 ^ 8000
theorem log_BB {i : Int} (h : i.natAbs < BB) : i.natAbs.log2 < 8000 := log_lt (by omega) h
def low (t b : Int) : Int × Int := (t / (Int.gcd t b : Int), b / (Int.gcd t b : Int))
def pr (x : Int × Int) : D := .tup [.int x.1, .int x.2]
section
variable {P : Program} {w : World} {K : PySem.W.Frag} {mg : Str → Option Value} {base : Heap}
theorem gcd_pos {t b : Int} (h : 0 < b) : 0 < (Int.gcd t b : Int) := by
  have : 0 < Int.gcd t b := Int.gcd_pos_of_ne_zero_right t (by omega)
  omega
theorem gcd_le {t b : Int} (h : 0 < b) : (Int.gcd t b : Int) ≤ b := by
  have := Int.le_of_dvd h (Int.gcd_dvd_right t b)
  exact this
theorem gcd_step {x y : Int} (hx : 0 ≤ x) (hy : 0 < y) : Int.gcd y (x % y) = Int.gcd x y := by
  rw [Int.gcd_comm x y, Int.emod_def, Int.gcd_sub_mul_left_right]
theorem lowest_ok (T : Tx P w K mg base) {t b : Int} (hb : 0 < b) (ht' : t.natAbs < BB) (hb' : b.natAbs < BB) : m_lowest T [.int t, .int b] = .ok (pr (low t b)) := by
  unfold m_lowest
  refine runP_ok ?_
  have e0 : rho0 4 [D.int t, .int b] = [some (.int t), some (.int b), none, none] := rfl
  rw [e0]
  unfold f_lowest
  simp only [↓ws_bind, ↓ws_if, ↓ws_set, ↓ws_sub, ↓ws_ret, ↓ws_drop, ↓ws_par, ↓ws_asg, ↓ws_nx, ↓ws_retN, ↓wi_up, ↓wi_upB, ↓wi_cons, ↓wi_nil, ↓wi_op, ↓wi_opB, ↓wi_opL, ↓wi_if, ↓wi_and, ↓wi_or, ↓wi_not, ↓wi_B, ↓wi_call, ↓wi_callIO, ↓wi_here, ↓wi_app, ↓wi_pop, ↓wi_lc, ↓wLst_some, ↓w_and, ↓w_or, ↓w_not, ↓w_if, ↓w_bl, ↓w_B, ↓wT_bl, ↓w_andV, ↓w_orV, ↓w_notV, ↓w_chain, ↓w_opB, ↓w_op, ↓w_opL, ↓w_cons, ↓w_nil, ↓w_var, ↓w_c, ↓w_call, ↓w_callB, ↓w_meth, ↓w_make, ↓w_items, ↓w_range, ↓w_zip, ↓w_disp1, ↓w_lc, ↓wV_some, ↓wp_ix, ↓wp_var, ↓wPx_lst, ↓w_gN, ↓w_gT2, ↓w_gSub, ↓g_add, ↓g_sub, ↓g_mul, ↓g_div, ↓g_mod, ↓g_neg, ↓g_pow18, ↓g_ge, ↓g_gt, ↓g_lt, ↓g_le, ↓g_eq, ↓g_ne, ↓g_ixL, ↓g_ixT, ↓g_lenL, ↓g_lenT, ↓g_lenK, ↓g_int, ↓g_intB, ↓g_abs, ↓g_tup, ↓g_lst, ↓g_listS, ↓g_listL, ↓g_listT, ↓g_tupL, ↓g_tupT, ↓g_is, ↓g_isNot, ↓g_isN, ↓g_isNotN, ↓g_max2, ↓g_min2, ↓g_mulL, ↓g_addL, ↓g_sumL, ↓g_sumT, ↓atI_lit, ↓atI_nat, ↓ixN_lit, ↓ixN_nat, ↓wO_some, ↓w_ite, ↓wR_ok, id, List.getElem?_cons_zero, List.getElem?_cons_succ, List.length_cons, List.length_nil, List.length_map, List.length_set, List.set_cons_zero, List.set_cons_succ, deq_i, dok_i, deq_b, dok_b, dok_n, true_and, and_true]
  refine ⟨by omega, ws_whl (fun m ρ => ∃ x y : Int, ρ = [some (.int t), some (.int b), some (.int x), some (.int y)] ∧ 0 ≤ x ∧ 0 ≤ y ∧ Int.gcd x y = Int.gcd t b ∧ m = y.toNat) ?_ ?_⟩
  · refine ⟨b.toNat, ?_, _, b, rfl, ?_, by omega, ?_, rfl⟩
    · show b.toNat < (intAt _ 3).toNat + 2
      show b.toNat < b.toNat + 2
      omega
    · split <;> omega
    · split
      · exact Int.neg_gcd
      · rfl
  · rintro m ρ ⟨x, y, rfl, hx, hy, hg, rfl⟩
    simp only [↓ws_bind, ↓ws_if, ↓ws_set, ↓ws_sub, ↓ws_ret, ↓ws_drop, ↓ws_par, ↓ws_asg, ↓ws_nx, ↓ws_retN, ↓wi_up, ↓wi_upB, ↓wi_cons, ↓wi_nil, ↓wi_op, ↓wi_opB, ↓wi_opL, ↓wi_if, ↓wi_and, ↓wi_or, ↓wi_not, ↓wi_B, ↓wi_call, ↓wi_callIO, ↓wi_here, ↓wi_app, ↓wi_pop, ↓wi_lc, ↓wLst_some, ↓w_and, ↓w_or, ↓w_not, ↓w_if, ↓w_bl, ↓w_B, ↓wT_bl, ↓w_andV, ↓w_orV, ↓w_notV, ↓w_chain, ↓w_opB, ↓w_op, ↓w_opL, ↓w_cons, ↓w_nil, ↓w_var, ↓w_c, ↓w_call, ↓w_callB, ↓w_meth, ↓w_make, ↓w_items, ↓w_range, ↓w_zip, ↓w_disp1, ↓w_lc, ↓wV_some, ↓wp_ix, ↓wp_var, ↓wPx_lst, ↓w_gN, ↓w_gT2, ↓w_gSub, ↓g_add, ↓g_sub, ↓g_mul, ↓g_div, ↓g_mod, ↓g_neg, ↓g_pow18, ↓g_ge, ↓g_gt, ↓g_lt, ↓g_le, ↓g_eq, ↓g_ne, ↓g_ixL, ↓g_ixT, ↓g_lenL, ↓g_lenT, ↓g_lenK, ↓g_int, ↓g_intB, ↓g_abs, ↓g_tup, ↓g_lst, ↓g_listS, ↓g_listL, ↓g_listT, ↓g_tupL, ↓g_tupT, ↓g_is, ↓g_isNot, ↓g_isN, ↓g_isNotN, ↓g_max2, ↓g_min2, ↓g_mulL, ↓g_addL, ↓g_sumL, ↓g_sumT, ↓atI_lit, ↓atI_nat, ↓ixN_lit, ↓ixN_nat, ↓wO_some, ↓w_ite, ↓wR_ok, id, List.getElem?_cons_zero, List.getElem?_cons_succ, List.length_cons, List.length_nil, List.length_map, List.length_set, List.set_cons_zero, List.set_cons_succ, deq_i, dok_i, deq_b, dok_b, dok_n, true_and, and_true]
    by_cases hy0 : 0 < y
    · simp only [↓ws_bind, ↓ws_if, ↓ws_set, ↓ws_sub, ↓ws_ret, ↓ws_drop, ↓ws_par, ↓ws_asg, ↓ws_nx, ↓ws_retN, ↓wi_up, ↓wi_upB, ↓wi_cons, ↓wi_nil, ↓wi_op, ↓wi_opB, ↓wi_opL, ↓wi_if, ↓wi_and, ↓wi_or, ↓wi_not, ↓wi_B, ↓wi_call, ↓wi_callIO, ↓wi_here, ↓wi_app, ↓wi_pop, ↓wi_lc, ↓wLst_some, ↓w_and, ↓w_or, ↓w_not, ↓w_if, ↓w_bl, ↓w_B, ↓wT_bl, ↓w_andV, ↓w_orV, ↓w_notV, ↓w_chain, ↓w_opB, ↓w_op, ↓w_opL, ↓w_cons, ↓w_nil, ↓w_var, ↓w_c, ↓w_call, ↓w_callB, ↓w_meth, ↓w_make, ↓w_items, ↓w_range, ↓w_zip, ↓w_disp1, ↓w_lc, ↓wV_some, ↓wp_ix, ↓wp_var, ↓wPx_lst, ↓w_gN, ↓w_gT2, ↓w_gSub, ↓g_add, ↓g_sub, ↓g_mul, ↓g_div, ↓g_mod, ↓g_neg, ↓g_pow18, ↓g_ge, ↓g_gt, ↓g_lt, ↓g_le, ↓g_eq, ↓g_ne, ↓g_ixL, ↓g_ixT, ↓g_lenL, ↓g_lenT, ↓g_lenK, ↓g_int, ↓g_intB, ↓g_abs, ↓g_tup, ↓g_lst, ↓g_listS, ↓g_listL, ↓g_listT, ↓g_tupL, ↓g_tupT, ↓g_is, ↓g_isNot, ↓g_isN, ↓g_isNotN, ↓g_max2, ↓g_min2, ↓g_mulL, ↓g_addL, ↓g_sumL, ↓g_sumT, ↓atI_lit, ↓atI_nat, ↓ixN_lit, ↓ixN_nat, ↓wO_some, ↓w_ite, ↓wR_ok, id, List.getElem?_cons_zero, List.getElem?_cons_succ, List.length_cons, List.length_nil, List.length_map, List.length_set, List.set_cons_zero, List.set_cons_succ, deq_i, dok_i, deq_b, dok_b, dok_n, true_and, and_true, hy0, decide_true, if_true]
      refine ⟨by omega, _, ?_, y, _, rfl, by omega, Int.emod_nonneg _ (by omega), (gcd_step hx hy0).trans hg, rfl⟩
      have := Int.emod_lt_of_pos x hy0
      have := Int.emod_nonneg x (show y ≠ 0 by omega)
      omega
    · have hy1 : y = 0 := by omega
      subst hy1
      rw [Int.gcd_zero] at hg
      have hx1 : x = (Int.gcd t b : Int) := by omega
      have hp := gcd_pos (t := t) hb
      have hl := gcd_le (t := t) hb
      subst hx1
      have l1 := log_BB (i := (Int.gcd t b : Int)) (by omega)
      have d0 : decide ((0 : Int) < 0) = false := rfl
      simp only [↓ws_bind, ↓ws_if, ↓ws_set, ↓ws_sub, ↓ws_ret, ↓ws_drop, ↓ws_par, ↓ws_asg, ↓ws_nx, ↓ws_retN, ↓wi_up, ↓wi_upB, ↓wi_cons, ↓wi_nil, ↓wi_op, ↓wi_opB, ↓wi_opL, ↓wi_if, ↓wi_and, ↓wi_or, ↓wi_not, ↓wi_B, ↓wi_call, ↓wi_callIO, ↓wi_here, ↓wi_app, ↓wi_pop, ↓wi_lc, ↓wLst_some, ↓w_and, ↓w_or, ↓w_not, ↓w_if, ↓w_bl, ↓w_B, ↓wT_bl, ↓w_andV, ↓w_orV, ↓w_notV, ↓w_chain, ↓w_opB, ↓w_op, ↓w_opL, ↓w_cons, ↓w_nil, ↓w_var, ↓w_c, ↓w_call, ↓w_callB, ↓w_meth, ↓w_make, ↓w_items, ↓w_range, ↓w_zip, ↓w_disp1, ↓w_lc, ↓wV_some, ↓wp_ix, ↓wp_var, ↓wPx_lst, ↓w_gN, ↓w_gT2, ↓w_gSub, ↓g_add, ↓g_sub, ↓g_mul, ↓g_div, ↓g_mod, ↓g_neg, ↓g_pow18, ↓g_ge, ↓g_gt, ↓g_lt, ↓g_le, ↓g_eq, ↓g_ne, ↓g_ixL, ↓g_ixT, ↓g_lenL, ↓g_lenT, ↓g_lenK, ↓g_int, ↓g_intB, ↓g_abs, ↓g_tup, ↓g_lst, ↓g_listS, ↓g_listL, ↓g_listT, ↓g_tupL, ↓g_tupT, ↓g_is, ↓g_isNot, ↓g_isN, ↓g_isNotN, ↓g_max2, ↓g_min2, ↓g_mulL, ↓g_addL, ↓g_sumL, ↓g_sumT, ↓atI_lit, ↓atI_nat, ↓ixN_lit, ↓ixN_nat, ↓wO_some, ↓w_ite, ↓wR_ok, id, List.getElem?_cons_zero, List.getElem?_cons_succ, List.length_cons, List.length_nil, List.length_map, List.length_set, List.set_cons_zero, List.set_cons_succ, deq_i, dok_i, deq_b, dok_b, dok_n, true_and, and_true, hp, d0, decide_true, if_true, Bool.false_eq_true, if_false]
      exact ⟨by omega, by omega, by rw [sizeLine_eq]; omega, rfl⟩
theorem law_low_ok (T : Tx P w K mg base) {t b : Int} (hb : 0 < b) (ht' : t.natAbs < BB) (hb' : b.natAbs < BB) : m__law_low T [.int t, .int b] = .ok (pr (low t b)) := by
  unfold m__law_low
  refine runP_ok ?_
  have e0 : rho0 4 [D.int t, .int b] = [some (.int t), some (.int b), none, none] := rfl
  rw [e0]
  unfold f__law_low
  simp only [↓ws_bind, ↓ws_if, ↓ws_set, ↓ws_sub, ↓ws_ret, ↓ws_drop, ↓ws_par, ↓ws_asg, ↓ws_nx, ↓ws_retN, ↓wi_up, ↓wi_upB, ↓wi_cons, ↓wi_nil, ↓wi_op, ↓wi_opB, ↓wi_opL, ↓wi_if, ↓wi_and, ↓wi_or, ↓wi_not, ↓wi_B, ↓wi_call, ↓wi_callIO, ↓wi_here, ↓wi_app, ↓wi_pop, ↓wi_lc, ↓wLst_some, ↓w_and, ↓w_or, ↓w_not, ↓w_if, ↓w_bl, ↓w_B, ↓wT_bl, ↓w_andV, ↓w_orV, ↓w_notV, ↓w_chain, ↓w_opB, ↓w_op, ↓w_opL, ↓w_cons, ↓w_nil, ↓w_var, ↓w_c, ↓w_call, ↓w_callB, ↓w_meth, ↓w_make, ↓w_items, ↓w_range, ↓w_zip, ↓w_disp1, ↓w_lc, ↓wV_some, ↓wp_ix, ↓wp_var, ↓wPx_lst, ↓w_gN, ↓w_gT2, ↓w_gSub, ↓g_add, ↓g_sub, ↓g_mul, ↓g_div, ↓g_mod, ↓g_neg, ↓g_pow18, ↓g_ge, ↓g_gt, ↓g_lt, ↓g_le, ↓g_eq, ↓g_ne, ↓g_ixL, ↓g_ixT, ↓g_lenL, ↓g_lenT, ↓g_lenK, ↓g_int, ↓g_intB, ↓g_abs, ↓g_tup, ↓g_lst, ↓g_listS, ↓g_listL, ↓g_listT, ↓g_tupL, ↓g_tupT, ↓g_is, ↓g_isNot, ↓g_isN, ↓g_isNotN, ↓g_max2, ↓g_min2, ↓g_mulL, ↓g_addL, ↓g_sumL, ↓g_sumT, ↓atI_lit, ↓atI_nat, ↓ixN_lit, ↓ixN_nat, ↓wO_some, ↓w_ite, ↓wR_ok, id, List.getElem?_cons_zero, List.getElem?_cons_succ, List.length_cons, List.length_nil, List.length_map, List.length_set, List.set_cons_zero, List.set_cons_succ, deq_i, dok_i, deq_b, dok_b, dok_n, true_and, and_true]
  refine ⟨by omega, ws_whl (fun m ρ => ∃ x y : Int, ρ = [some (.int t), some (.int b), some (.int x), some (.int y)] ∧ 0 ≤ x ∧ 0 ≤ y ∧ x.natAbs < BB ∧ y.natAbs < BB ∧ Int.gcd x y = Int.gcd t b ∧ m = y.toNat) ?_ ?_⟩
  · refine ⟨b.toNat, ?_, _, b, rfl, ?_, by omega, ?_, hb', ?_, rfl⟩
    · show b.toNat < b.toNat + 2
      omega
    · split <;> omega
    · split <;> omega
    · split
      · exact Int.neg_gcd
      · rfl
  · rintro m ρ ⟨x, y, rfl, hx, hy, bx, by', hg, rfl⟩
    simp only [↓ws_bind, ↓ws_if, ↓ws_set, ↓ws_sub, ↓ws_ret, ↓ws_drop, ↓ws_par, ↓ws_asg, ↓ws_nx, ↓ws_retN, ↓wi_up, ↓wi_upB, ↓wi_cons, ↓wi_nil, ↓wi_op, ↓wi_opB, ↓wi_opL, ↓wi_if, ↓wi_and, ↓wi_or, ↓wi_not, ↓wi_B, ↓wi_call, ↓wi_callIO, ↓wi_here, ↓wi_app, ↓wi_pop, ↓wi_lc, ↓wLst_some, ↓w_and, ↓w_or, ↓w_not, ↓w_if, ↓w_bl, ↓w_B, ↓wT_bl, ↓w_andV, ↓w_orV, ↓w_notV, ↓w_chain, ↓w_opB, ↓w_op, ↓w_opL, ↓w_cons, ↓w_nil, ↓w_var, ↓w_c, ↓w_call, ↓w_callB, ↓w_meth, ↓w_make, ↓w_items, ↓w_range, ↓w_zip, ↓w_disp1, ↓w_lc, ↓wV_some, ↓wp_ix, ↓wp_var, ↓wPx_lst, ↓w_gN, ↓w_gT2, ↓w_gSub, ↓g_add, ↓g_sub, ↓g_mul, ↓g_div, ↓g_mod, ↓g_neg, ↓g_pow18, ↓g_ge, ↓g_gt, ↓g_lt, ↓g_le, ↓g_eq, ↓g_ne, ↓g_ixL, ↓g_ixT, ↓g_lenL, ↓g_lenT, ↓g_lenK, ↓g_int, ↓g_intB, ↓g_abs, ↓g_tup, ↓g_lst, ↓g_listS, ↓g_listL, ↓g_listT, ↓g_tupL, ↓g_tupT, ↓g_is, ↓g_isNot, ↓g_isN, ↓g_isNotN, ↓g_max2, ↓g_min2, ↓g_mulL, ↓g_addL, ↓g_sumL, ↓g_sumT, ↓atI_lit, ↓atI_nat, ↓ixN_lit, ↓ixN_nat, ↓wO_some, ↓w_ite, ↓wR_ok, id, List.getElem?_cons_zero, List.getElem?_cons_succ, List.length_cons, List.length_nil, List.length_map, List.length_set, List.set_cons_zero, List.set_cons_succ, deq_i, dok_i, deq_b, dok_b, dok_n, true_and, and_true]
    by_cases hy0 : 0 < y
    · have ly := log_BB by'
      have hd : (x / y).natAbs.log2 < 8000 := log_BB (by
        have h1 := Int.ediv_nonneg hx hy
        have h2 : x / y ≤ x := Int.ediv_le_self _ hx
        omega)
      simp only [↓ws_bind, ↓ws_if, ↓ws_set, ↓ws_sub, ↓ws_ret, ↓ws_drop, ↓ws_par, ↓ws_asg, ↓ws_nx, ↓ws_retN, ↓wi_up, ↓wi_upB, ↓wi_cons, ↓wi_nil, ↓wi_op, ↓wi_opB, ↓wi_opL, ↓wi_if, ↓wi_and, ↓wi_or, ↓wi_not, ↓wi_B, ↓wi_call, ↓wi_callIO, ↓wi_here, ↓wi_app, ↓wi_pop, ↓wi_lc, ↓wLst_some, ↓w_and, ↓w_or, ↓w_not, ↓w_if, ↓w_bl, ↓w_B, ↓wT_bl, ↓w_andV, ↓w_orV, ↓w_notV, ↓w_chain, ↓w_opB, ↓w_op, ↓w_opL, ↓w_cons, ↓w_nil, ↓w_var, ↓w_c, ↓w_call, ↓w_callB, ↓w_meth, ↓w_make, ↓w_items, ↓w_range, ↓w_zip, ↓w_disp1, ↓w_lc, ↓wV_some, ↓wp_ix, ↓wp_var, ↓wPx_lst, ↓w_gN, ↓w_gT2, ↓w_gSub, ↓g_add, ↓g_sub, ↓g_mul, ↓g_div, ↓g_mod, ↓g_neg, ↓g_pow18, ↓g_ge, ↓g_gt, ↓g_lt, ↓g_le, ↓g_eq, ↓g_ne, ↓g_ixL, ↓g_ixT, ↓g_lenL, ↓g_lenT, ↓g_lenK, ↓g_int, ↓g_intB, ↓g_abs, ↓g_tup, ↓g_lst, ↓g_listS, ↓g_listL, ↓g_listT, ↓g_tupL, ↓g_tupT, ↓g_is, ↓g_isNot, ↓g_isN, ↓g_isNotN, ↓g_max2, ↓g_min2, ↓g_mulL, ↓g_addL, ↓g_sumL, ↓g_sumT, ↓atI_lit, ↓atI_nat, ↓ixN_lit, ↓ixN_nat, ↓wO_some, ↓w_ite, ↓wR_ok, id, List.getElem?_cons_zero, List.getElem?_cons_succ, List.length_cons, List.length_nil, List.length_map, List.length_set, List.set_cons_zero, List.set_cons_succ, deq_i, dok_i, deq_b, dok_b, dok_n, true_and, and_true, hy0, decide_true, if_true]
      have e1 : x - x / y * y = x % y := by rw [Int.emod_def, Int.mul_comm]
      rw [e1]
      have h1 := Int.emod_lt_of_pos x hy0
      have h2 := Int.emod_nonneg x (show y ≠ 0 by omega)
      exact ⟨by omega, by omega, by omega, _, by omega, y, _, rfl, by omega, h2, by', by omega, (gcd_step hx hy0).trans hg, rfl⟩
    · have hy1 : y = 0 := by omega
      subst hy1
      rw [Int.gcd_zero] at hg
      have hx1 : x = (Int.gcd t b : Int) := by omega
      have hp := gcd_pos (t := t) hb
      have hl := gcd_le (t := t) hb
      subst hx1
      have l1 := log_BB (i := (Int.gcd t b : Int)) (by omega)
      have d0 : decide ((0 : Int) < 0) = false := rfl
      simp only [↓ws_bind, ↓ws_if, ↓ws_set, ↓ws_sub, ↓ws_ret, ↓ws_drop, ↓ws_par, ↓ws_asg, ↓ws_nx, ↓ws_retN, ↓wi_up, ↓wi_upB, ↓wi_cons, ↓wi_nil, ↓wi_op, ↓wi_opB, ↓wi_opL, ↓wi_if, ↓wi_and, ↓wi_or, ↓wi_not, ↓wi_B, ↓wi_call, ↓wi_callIO, ↓wi_here, ↓wi_app, ↓wi_pop, ↓wi_lc, ↓wLst_some, ↓w_and, ↓w_or, ↓w_not, ↓w_if, ↓w_bl, ↓w_B, ↓wT_bl, ↓w_andV, ↓w_orV, ↓w_notV, ↓w_chain, ↓w_opB, ↓w_op, ↓w_opL, ↓w_cons, ↓w_nil, ↓w_var, ↓w_c, ↓w_call, ↓w_callB, ↓w_meth, ↓w_make, ↓w_items, ↓w_range, ↓w_zip, ↓w_disp1, ↓w_lc, ↓wV_some, ↓wp_ix, ↓wp_var, ↓wPx_lst, ↓w_gN, ↓w_gT2, ↓w_gSub, ↓g_add, ↓g_sub, ↓g_mul, ↓g_div, ↓g_mod, ↓g_neg, ↓g_pow18, ↓g_ge, ↓g_gt, ↓g_lt, ↓g_le, ↓g_eq, ↓g_ne, ↓g_ixL, ↓g_ixT, ↓g_lenL, ↓g_lenT, ↓g_lenK, ↓g_int, ↓g_intB, ↓g_abs, ↓g_tup, ↓g_lst, ↓g_listS, ↓g_listL, ↓g_listT, ↓g_tupL, ↓g_tupT, ↓g_is, ↓g_isNot, ↓g_isN, ↓g_isNotN, ↓g_max2, ↓g_min2, ↓g_mulL, ↓g_addL, ↓g_sumL, ↓g_sumT, ↓atI_lit, ↓atI_nat, ↓ixN_lit, ↓ixN_nat, ↓wO_some, ↓w_ite, ↓wR_ok, id, List.getElem?_cons_zero, List.getElem?_cons_succ, List.length_cons, List.length_nil, List.length_map, List.length_set, List.set_cons_zero, List.set_cons_succ, deq_i, dok_i, deq_b, dok_b, dok_n, true_and, and_true, hp, d0, decide_true, if_true, Bool.false_eq_true, if_false]
      exact ⟨by omega, by omega, by rw [sizeLine_eq]; omega, rfl⟩
/-- a pair with a positive denominator, of k bits at most -/
def Bp (k : Nat) (x : Int × Int) : Prop := x.1.natAbs < 2 ^ k ∧ x.2.natAbs < 2 ^ k ∧ 0 < x.2
theorem Bp.mono {k l : Nat} {x : Int × Int} (h : Bp k x) (hl : k ≤ l) : Bp l x :=
  ⟨Nat.lt_of_lt_of_le h.1 (Nat.pow_le_pow_right (by omega) hl), Nat.lt_of_lt_of_le h.2.1 (Nat.pow_le_pow_right (by omega) hl), h.2.2⟩
theorem low_Bp {t b : Int} {k : Nat} (hb : 0 < b) (h1 : t.natAbs < 2 ^ k) (h2 : b.natAbs < 2 ^ k) : Bp k (low t b) := by
  have hp := gcd_pos (t := t) hb
  have hl := gcd_le (t := t) hb
  refine ⟨?_, ?_, ?_⟩
  · refine Nat.lt_of_le_of_lt ?_ h1
    show (t / (Int.gcd t b : Int)).natAbs ≤ t.natAbs
    exact Int.natAbs_ediv_le_natAbs _ _
  · refine Nat.lt_of_le_of_lt ?_ h2
    show (b / (Int.gcd t b : Int)).natAbs ≤ b.natAbs
    exact Int.natAbs_ediv_le_natAbs _ _
  · show 0 < b / (Int.gcd t b : Int)
    exact Int.ediv_pos_of_pos_of_dvd hb (by omega) (Int.gcd_dvd_right t b)
def fplus (x y : Int × Int) : Int × Int := low (x.1 * y.2 + y.1 * x.2) (x.2 * y.2)
def ftimes (x y : Int × Int) : Int × Int := low (x.1 * y.1) (x.2 * y.2)
theorem mul_bits {a b : Int} {k l : Nat} (ha : a.natAbs < 2 ^ k) (hb : b.natAbs < 2 ^ l) : (a * b).natAbs < 2 ^ (k + l) := wide_lt ha hb
theorem pow_BB {i : Int} {k : Nat} (h : i.natAbs < 2 ^ k) (hk : k ≤ 8000) : i.natAbs < BB := Nat.lt_of_lt_of_le h (Nat.pow_le_pow_right (by omega) hk)
theorem plus_bits {x y : Int × Int} {k l : Nat} (hx : Bp k x) (hy : Bp l y) : (x.1 * y.2 + y.1 * x.2).natAbs < 2 ^ (k + l + 1) ∧ (x.2 * y.2).natAbs < 2 ^ (k + l + 1) ∧ 0 < x.2 * y.2 := by
  have h1 := mul_bits hx.1 hy.2.1
  have h2 := mul_bits hy.1 hx.2.1
  have h3 := mul_bits hx.2.1 hy.2.1
  rw [Nat.add_comm l k] at h2
  have e : (2 : Nat) ^ (k + l + 1) = 2 * 2 ^ (k + l) := by rw [Nat.pow_succ, Nat.mul_comm]
  rw [e]
  generalize (2 : Nat) ^ (k + l) = z at *
  exact ⟨by omega, by omega, Int.mul_pos hx.2.2 hy.2.2⟩
theorem fplus_Bp {x y : Int × Int} {k l : Nat} (hx : Bp k x) (hy : Bp l y) : Bp (k + l + 1) (fplus x y) := by
  obtain ⟨h1, h2, h3⟩ := plus_bits hx hy
  exact low_Bp h3 h1 h2
theorem ftimes_Bp {x y : Int × Int} {k l : Nat} (hx : Bp k x) (hy : Bp l y) : Bp (k + l) (ftimes x y) :=
  low_Bp (Int.mul_pos hx.2.2 hy.2.2) (mul_bits hx.1 hy.1) (mul_bits hx.2.1 hy.2.1)
theorem bp_log {x : Int} {k : Nat} (h : x.natAbs < 2 ^ k) (hk : k ≤ 8000) : x.natAbs.log2 < 8000 := log_BB (pow_BB h hk)
theorem plus_ok (T : Tx P w K mg base) {x y : Int × Int} {k l : Nat} (hx : Bp k x) (hy : Bp l y) (hk : k + l + 1 ≤ 8000) : m_plus T [pr x, pr y] = .ok (pr (fplus x y)) := by
  unfold m_plus
  refine runP_ok ?_
  have e0 : rho0 2 [pr x, pr y] = [some (.tup [.int x.1, .int x.2]), some (.tup [.int y.1, .int y.2])] := rfl
  rw [e0]
  unfold f_plus
  obtain ⟨h1, h2, h3⟩ := plus_bits hx hy
  have b1 := bp_log hx.1 (by omega)
  have b2 := bp_log hx.2.1 (by omega)
  have b3 := bp_log hy.1 (by omega)
  have b4 := bp_log hy.2.1 (by omega)
  simp only [↓ws_bind, ↓ws_if, ↓ws_set, ↓ws_sub, ↓ws_ret, ↓ws_drop, ↓ws_par, ↓ws_asg, ↓ws_nx, ↓ws_retN, ↓wi_up, ↓wi_upB, ↓wi_cons, ↓wi_nil, ↓wi_op, ↓wi_opB, ↓wi_opL, ↓wi_if, ↓wi_and, ↓wi_or, ↓wi_not, ↓wi_B, ↓wi_call, ↓wi_callIO, ↓wi_here, ↓wi_app, ↓wi_pop, ↓wi_lc, ↓wLst_some, ↓w_and, ↓w_or, ↓w_not, ↓w_if, ↓w_bl, ↓w_B, ↓wT_bl, ↓w_andV, ↓w_orV, ↓w_notV, ↓w_chain, ↓w_opB, ↓w_op, ↓w_opL, ↓w_cons, ↓w_nil, ↓w_var, ↓w_c, ↓w_call, ↓w_callB, ↓w_meth, ↓w_make, ↓w_items, ↓w_range, ↓w_zip, ↓w_disp1, ↓w_lc, ↓wV_some, ↓wp_ix, ↓wp_var, ↓wPx_lst, ↓w_gN, ↓w_gT2, ↓w_gSub, ↓g_add, ↓g_sub, ↓g_mul, ↓g_div, ↓g_mod, ↓g_neg, ↓g_pow18, ↓g_ge, ↓g_gt, ↓g_lt, ↓g_le, ↓g_eq, ↓g_ne, ↓g_ixL, ↓g_ixT, ↓g_lenL, ↓g_lenT, ↓g_lenK, ↓g_int, ↓g_intB, ↓g_abs, ↓g_tup, ↓g_lst, ↓g_listS, ↓g_listL, ↓g_listT, ↓g_tupL, ↓g_tupT, ↓g_is, ↓g_isNot, ↓g_isN, ↓g_isNotN, ↓g_max2, ↓g_min2, ↓g_mulL, ↓g_addL, ↓g_sumL, ↓g_sumT, ↓atI_lit, ↓atI_nat, ↓ixN_lit, ↓ixN_nat, ↓wO_some, ↓w_ite, ↓wR_ok, id, List.getElem?_cons_zero, List.getElem?_cons_succ, List.length_cons, List.length_nil, List.length_map, List.length_set, List.set_cons_zero, List.set_cons_succ, deq_i, dok_i, deq_b, dok_b, dok_n, true_and, and_true]
  rw [lowest_ok T h3 (pow_BB h1 hk) (pow_BB h2 hk)]
  exact ⟨by omega, by omega, by omega, rfl⟩
theorem law_plus_ok (T : Tx P w K mg base) {x y : Int × Int} {k l : Nat} (hx : Bp k x) (hy : Bp l y) (hk : k + l + 1 ≤ 8000) : m__law_plus T [pr x, pr y] = .ok (pr (fplus x y)) := by
  unfold m__law_plus
  refine runP_ok ?_
  have e0 : rho0 2 [pr x, pr y] = [some (.tup [.int x.1, .int x.2]), some (.tup [.int y.1, .int y.2])] := rfl
  rw [e0]
  unfold f__law_plus
  obtain ⟨h1, h2, h3⟩ := plus_bits hx hy
  have b1 := bp_log hx.1 (by omega)
  have b2 := bp_log hx.2.1 (by omega)
  have b3 := bp_log hy.1 (by omega)
  have b4 := bp_log hy.2.1 (by omega)
  simp only [↓ws_bind, ↓ws_if, ↓ws_set, ↓ws_sub, ↓ws_ret, ↓ws_drop, ↓ws_par, ↓ws_asg, ↓ws_nx, ↓ws_retN, ↓wi_up, ↓wi_upB, ↓wi_cons, ↓wi_nil, ↓wi_op, ↓wi_opB, ↓wi_opL, ↓wi_if, ↓wi_and, ↓wi_or, ↓wi_not, ↓wi_B, ↓wi_call, ↓wi_callIO, ↓wi_here, ↓wi_app, ↓wi_pop, ↓wi_lc, ↓wLst_some, ↓w_and, ↓w_or, ↓w_not, ↓w_if, ↓w_bl, ↓w_B, ↓wT_bl, ↓w_andV, ↓w_orV, ↓w_notV, ↓w_chain, ↓w_opB, ↓w_op, ↓w_opL, ↓w_cons, ↓w_nil, ↓w_var, ↓w_c, ↓w_call, ↓w_callB, ↓w_meth, ↓w_make, ↓w_items, ↓w_range, ↓w_zip, ↓w_disp1, ↓w_lc, ↓wV_some, ↓wp_ix, ↓wp_var, ↓wPx_lst, ↓w_gN, ↓w_gT2, ↓w_gSub, ↓g_add, ↓g_sub, ↓g_mul, ↓g_div, ↓g_mod, ↓g_neg, ↓g_pow18, ↓g_ge, ↓g_gt, ↓g_lt, ↓g_le, ↓g_eq, ↓g_ne, ↓g_ixL, ↓g_ixT, ↓g_lenL, ↓g_lenT, ↓g_lenK, ↓g_int, ↓g_intB, ↓g_abs, ↓g_tup, ↓g_lst, ↓g_listS, ↓g_listL, ↓g_listT, ↓g_tupL, ↓g_tupT, ↓g_is, ↓g_isNot, ↓g_isN, ↓g_isNotN, ↓g_max2, ↓g_min2, ↓g_mulL, ↓g_addL, ↓g_sumL, ↓g_sumT, ↓atI_lit, ↓atI_nat, ↓ixN_lit, ↓ixN_nat, ↓wO_some, ↓w_ite, ↓wR_ok, id, List.getElem?_cons_zero, List.getElem?_cons_succ, List.length_cons, List.length_nil, List.length_map, List.length_set, List.set_cons_zero, List.set_cons_succ, deq_i, dok_i, deq_b, dok_b, dok_n, true_and, and_true]
  rw [law_low_ok T h3 (pow_BB h1 hk) (pow_BB h2 hk)]
  exact ⟨by omega, by omega, by omega, rfl⟩
theorem times_ok (T : Tx P w K mg base) {x y : Int × Int} {k l : Nat} (hx : Bp k x) (hy : Bp l y) (hk : k + l ≤ 8000) : m_times T [pr x, pr y] = .ok (pr (ftimes x y)) := by
  unfold m_times
  refine runP_ok ?_
  have e0 : rho0 2 [pr x, pr y] = [some (.tup [.int x.1, .int x.2]), some (.tup [.int y.1, .int y.2])] := rfl
  rw [e0]
  unfold f_times
  have b1 := bp_log hx.1 (by omega)
  have b2 := bp_log hx.2.1 (by omega)
  have b3 := bp_log hy.1 (by omega)
  have b4 := bp_log hy.2.1 (by omega)
  simp only [↓ws_bind, ↓ws_if, ↓ws_set, ↓ws_sub, ↓ws_ret, ↓ws_drop, ↓ws_par, ↓ws_asg, ↓ws_nx, ↓ws_retN, ↓wi_up, ↓wi_upB, ↓wi_cons, ↓wi_nil, ↓wi_op, ↓wi_opB, ↓wi_opL, ↓wi_if, ↓wi_and, ↓wi_or, ↓wi_not, ↓wi_B, ↓wi_call, ↓wi_callIO, ↓wi_here, ↓wi_app, ↓wi_pop, ↓wi_lc, ↓wLst_some, ↓w_and, ↓w_or, ↓w_not, ↓w_if, ↓w_bl, ↓w_B, ↓wT_bl, ↓w_andV, ↓w_orV, ↓w_notV, ↓w_chain, ↓w_opB, ↓w_op, ↓w_opL, ↓w_cons, ↓w_nil, ↓w_var, ↓w_c, ↓w_call, ↓w_callB, ↓w_meth, ↓w_make, ↓w_items, ↓w_range, ↓w_zip, ↓w_disp1, ↓w_lc, ↓wV_some, ↓wp_ix, ↓wp_var, ↓wPx_lst, ↓w_gN, ↓w_gT2, ↓w_gSub, ↓g_add, ↓g_sub, ↓g_mul, ↓g_div, ↓g_mod, ↓g_neg, ↓g_pow18, ↓g_ge, ↓g_gt, ↓g_lt, ↓g_le, ↓g_eq, ↓g_ne, ↓g_ixL, ↓g_ixT, ↓g_lenL, ↓g_lenT, ↓g_lenK, ↓g_int, ↓g_intB, ↓g_abs, ↓g_tup, ↓g_lst, ↓g_listS, ↓g_listL, ↓g_listT, ↓g_tupL, ↓g_tupT, ↓g_is, ↓g_isNot, ↓g_isN, ↓g_isNotN, ↓g_max2, ↓g_min2, ↓g_mulL, ↓g_addL, ↓g_sumL, ↓g_sumT, ↓atI_lit, ↓atI_nat, ↓ixN_lit, ↓ixN_nat, ↓wO_some, ↓w_ite, ↓wR_ok, id, List.getElem?_cons_zero, List.getElem?_cons_succ, List.length_cons, List.length_nil, List.length_map, List.length_set, List.set_cons_zero, List.set_cons_succ, deq_i, dok_i, deq_b, dok_b, dok_n, true_and, and_true]
  rw [lowest_ok T (Int.mul_pos hx.2.2 hy.2.2) (pow_BB (mul_bits hx.1 hy.1) hk) (pow_BB (mul_bits hx.2.1 hy.2.1) hk)]
  exact ⟨by omega, by omega, rfl⟩
end
end VL

set_option Elab.async false
set_option linter.all false
set_option maxRecDepth 100000
set_option maxHeartbeats 4000000
namespace VL
open PySem PySem.Spec PyProof.Rows L2
def cts (C : Addr) (n : Nat) (R : Nat → Nat → Int) : D := .ins C ["rows", "size"] [matT n R, .int n]
theorem ne_sr : (("size" : Str) == ("rows" : Str)) = false := by decide +kernel
theorem eq_rr : (("rows" : Str) == ("rows" : Str)) = true := by decide +kernel
theorem eq_ss : (("size" : Str) == ("size" : Str)) = true := by decide +kernel
theorem fld_rows {C : Addr} {n : Nat} {R : Nat → Nat → Int} {Q : D → Prop} : wO (gFld [C] "rows" [cts C n R]) Q = Q (matT n R) := by
  unfold gFld cts lookF
  dsimp only
  rw [if_pos (by simp), List.zip_cons_cons, List.lookup_cons, eq_rr]; rfl
theorem fld_size {C : Addr} {n : Nat} {R : Nat → Nat → Int} {Q : D → Prop} : wO (gFld [C] "size" [cts C n R]) Q = Q (.int n) := by
  unfold gFld cts lookF
  dsimp only
  rw [if_pos (by simp), List.zip_cons_cons, List.lookup_cons, ne_sr, List.zip_cons_cons]
  dsimp only
  rw [List.lookup_cons, eq_ss]; rfl
theorem mat_ix {n i : Nat} {R : Nat → Nat → Int} {Q : D → Prop} (h : i < n) : wO (gIx [matT n R, .int i]) Q = Q (.tup (vecL n (R i))) := by
  show wO (atI ((List.range n).map fun i => D.tup (vecL n (R i))) (i : Int)) Q = _
  rw [atI_nat, rng_get h]; rfl
theorem row_ix {n i : Nat} {S : Nat → Int} {Q : D → Prop} (h : i < n) : wO (gIx [.tup (vecL n S), .int i]) Q = Q (.int (S i)) := by
  show wO (atI (vecL n S) (i : Int)) Q = _
  rw [atI_nat, vec_get h]; rfl
theorem vec_ix {n i : Nat} {S : Nat → Int} {Q : D → Prop} (h : i < n) : wO (gIx [.lst (vecL n S), .int i]) Q = Q (.int (S i)) := by
  show wO (atI (vecL n S) (i : Int)) Q = _
  rw [atI_nat, vec_get h]; rfl
theorem mat_items {n : Nat} {R : Nat → Nat → Int} {Q : List D → Prop} : (match matT n R with
    | .lst ds => Q ds
    | .tup ds => Q ds
    | .str z => Q (z.cps.toList.map fun c => .str ⟨#[c]⟩)
    | _ => False) = Q ((List.range n).map fun i => .tup (vecL n (R i))) := rfl
theorem ws_guard {t : Rho → Rs Bool} {ρ : Rho} {k : Kt} (h : wB t ρ (fun b => b = false) fun _ => False) (h' : k.N ρ) : wS (oIf (upB t) (fun _ => .bad) .nx) ρ k := by
  rw [ws_if, wi_upB]
  unfold wB wR at h ⊢
  cases e : t ρ with
  | bad => rw [e] at h; exact h
  | err x => rw [e] at h; exact h.elim
  | ok b =>
    rw [e] at h
    have hb : b = false := h
    subst hb
    exact h'
theorem mat_len {n : Nat} {R : Nat → Nat → Int} {Q : D → Prop} : wO (gLen [matT n R]) Q = Q (.int n) := by
  show Q (.int _) = _
  rw [rng_len]
section
variable {P : Program} {w : World} {K : PySem.W.Frag} {mg : Str → Option Value} {base : Heap} {n : Nat} {R : Nat → Nat → Int} {S : Nat → Int}
theorem is_integer_ok (T : Tx P w K mg base) {i : Int} : m_is_integer T [.int i] = .ok (.bl true) := by
  unfold m_is_integer
  refine runP_ok ?_
  have e0 : rho0 1 [D.int i] = [some (.int i)] := rfl
  rw [e0]
  unfold f_is_integer
  simp only [↓ws_bind, ↓ws_if, ↓ws_set, ↓ws_sub, ↓ws_ret, ↓ws_drop, ↓ws_par, ↓ws_asg, ↓ws_nx, ↓ws_retN, ↓wi_up, ↓wi_upB, ↓wi_cons, ↓wi_nil, ↓wi_op, ↓wi_opB, ↓wi_opL, ↓wi_if, ↓wi_and, ↓wi_or, ↓wi_not, ↓wi_B, ↓wi_call, ↓wi_callIO, ↓wi_here, ↓wi_app, ↓wi_pop, ↓wi_lc, ↓wLst_some, ↓w_and, ↓w_or, ↓w_not, ↓w_if, ↓w_bl, ↓w_B, ↓wT_bl, ↓w_andV, ↓w_orV, ↓w_notV, ↓w_chain, ↓w_opB, ↓w_op, ↓w_opL, ↓w_cons, ↓w_nil, ↓w_var, ↓w_c, ↓w_call, ↓w_callB, ↓w_meth, ↓w_make, ↓w_items, ↓w_range, ↓w_zip, ↓w_disp1, ↓w_lc, ↓wV_some, ↓wp_ix, ↓wp_var, ↓wPx_lst, ↓w_gN, ↓w_gT2, ↓w_gSub, ↓g_add, ↓g_sub, ↓g_mul, ↓g_div, ↓g_mod, ↓g_neg, ↓g_pow18, ↓g_ge, ↓g_gt, ↓g_lt, ↓g_le, ↓g_eq, ↓g_ne, ↓g_ixL, ↓g_ixT, ↓g_lenL, ↓g_lenT, ↓g_lenK, ↓g_int, ↓g_intB, ↓g_abs, ↓g_tup, ↓g_lst, ↓g_listS, ↓g_listL, ↓g_listT, ↓g_tupL, ↓g_tupT, ↓g_is, ↓g_isNot, ↓g_isN, ↓g_isNotN, ↓g_max2, ↓g_min2, ↓g_mulL, ↓g_addL, ↓g_sumL, ↓g_sumT, ↓atI_lit, ↓atI_nat, ↓ixN_lit, ↓ixN_nat, ↓wO_some, ↓w_ite, ↓wR_ok, id, List.getElem?_cons_zero, List.getElem?_cons_succ, List.length_cons, List.length_nil, List.length_map, List.length_set, List.set_cons_zero, List.set_cons_succ, deq_i, dok_i, deq_b, dok_b, dok_n, true_and, and_true, ↓w_lc2, ↓ws_fld, ↓wIns_some, ↓ws_dput, ↓wDk_int, ↓g_dnotin, ↓g_oB, ↓g_isiTT, ↓g_isiII, ↓g_isiIB, ↓keyD_int, Bool.not_false, if_true]
theorem met_ok (T : Tx P w K mg base) {i j : Nat} (hi : i < n) (hj : j < n) : m_Counts_met T [cts T.C_Counts n R, .int i, .int j] = .ok (.int (R i j + R j i)) := by
  unfold m_Counts_met
  refine runP_ok ?_
  have e0 : rho0 3 [cts T.C_Counts n R, .int i, .int j] = [some (cts T.C_Counts n R), some (.int i), some (.int j)] := rfl
  rw [e0]
  unfold f_Counts_met
  simp only [↓ws_bind, ↓ws_if, ↓ws_set, ↓ws_sub, ↓ws_ret, ↓ws_drop, ↓ws_par, ↓ws_asg, ↓ws_nx, ↓ws_retN, ↓wi_up, ↓wi_upB, ↓wi_cons, ↓wi_nil, ↓wi_op, ↓wi_opB, ↓wi_opL, ↓wi_if, ↓wi_and, ↓wi_or, ↓wi_not, ↓wi_B, ↓wi_call, ↓wi_callIO, ↓wi_here, ↓wi_app, ↓wi_pop, ↓wi_lc, ↓wLst_some, ↓w_and, ↓w_or, ↓w_not, ↓w_if, ↓w_bl, ↓w_B, ↓wT_bl, ↓w_andV, ↓w_orV, ↓w_notV, ↓w_chain, ↓w_opB, ↓w_op, ↓w_opL, ↓w_cons, ↓w_nil, ↓w_var, ↓w_c, ↓w_call, ↓w_callB, ↓w_meth, ↓w_make, ↓w_items, ↓w_range, ↓w_zip, ↓w_disp1, ↓w_lc, ↓wV_some, ↓wp_ix, ↓wp_var, ↓wPx_lst, ↓w_gN, ↓w_gT2, ↓w_gSub, ↓g_add, ↓g_sub, ↓g_mul, ↓g_div, ↓g_mod, ↓g_neg, ↓g_pow18, ↓g_ge, ↓g_gt, ↓g_lt, ↓g_le, ↓g_eq, ↓g_ne, ↓g_ixL, ↓g_ixT, ↓g_lenL, ↓g_lenT, ↓g_lenK, ↓g_int, ↓g_intB, ↓g_abs, ↓g_tup, ↓g_lst, ↓g_listS, ↓g_listL, ↓g_listT, ↓g_tupL, ↓g_tupT, ↓g_is, ↓g_isNot, ↓g_isN, ↓g_isNotN, ↓g_max2, ↓g_min2, ↓g_mulL, ↓g_addL, ↓g_sumL, ↓g_sumT, ↓atI_lit, ↓atI_nat, ↓ixN_lit, ↓ixN_nat, ↓wO_some, ↓w_ite, ↓wR_ok, id, List.getElem?_cons_zero, List.getElem?_cons_succ, List.length_cons, List.length_nil, List.length_map, List.length_set, List.set_cons_zero, List.set_cons_succ, deq_i, dok_i, deq_b, dok_b, dok_n, true_and, and_true, ↓w_lc2, ↓ws_fld, ↓wIns_some, ↓ws_dput, ↓wDk_int, ↓g_dnotin, ↓g_oB, ↓g_isiTT, ↓g_isiII, ↓g_isiIB, ↓keyD_int, ↓fld_rows, ↓mat_ix hi, ↓mat_ix hj, ↓row_ix hi, ↓row_ix hj]
theorem wins_ok (T : Tx P w K mg base) {i : Nat} (hi : i < n) : m_Counts_wins T [cts T.C_Counts n R, .int i] = .ok (.int (sumN n (R i))) := by
  unfold m_Counts_wins
  refine runP_ok ?_
  have e0 : rho0 2 [cts T.C_Counts n R, .int i] = [some (cts T.C_Counts n R), some (.int i)] := rfl
  rw [e0]
  unfold f_Counts_wins
  simp only [↓ws_bind, ↓ws_if, ↓ws_set, ↓ws_sub, ↓ws_ret, ↓ws_drop, ↓ws_par, ↓ws_asg, ↓ws_nx, ↓ws_retN, ↓wi_up, ↓wi_upB, ↓wi_cons, ↓wi_nil, ↓wi_op, ↓wi_opB, ↓wi_opL, ↓wi_if, ↓wi_and, ↓wi_or, ↓wi_not, ↓wi_B, ↓wi_call, ↓wi_callIO, ↓wi_here, ↓wi_app, ↓wi_pop, ↓wi_lc, ↓wLst_some, ↓w_and, ↓w_or, ↓w_not, ↓w_if, ↓w_bl, ↓w_B, ↓wT_bl, ↓w_andV, ↓w_orV, ↓w_notV, ↓w_chain, ↓w_opB, ↓w_op, ↓w_opL, ↓w_cons, ↓w_nil, ↓w_var, ↓w_c, ↓w_call, ↓w_callB, ↓w_meth, ↓w_make, ↓w_items, ↓w_range, ↓w_zip, ↓w_disp1, ↓w_lc, ↓wV_some, ↓wp_ix, ↓wp_var, ↓wPx_lst, ↓w_gN, ↓w_gT2, ↓w_gSub, ↓g_add, ↓g_sub, ↓g_mul, ↓g_div, ↓g_mod, ↓g_neg, ↓g_pow18, ↓g_ge, ↓g_gt, ↓g_lt, ↓g_le, ↓g_eq, ↓g_ne, ↓g_ixL, ↓g_ixT, ↓g_lenL, ↓g_lenT, ↓g_lenK, ↓g_int, ↓g_intB, ↓g_abs, ↓g_tup, ↓g_lst, ↓g_listS, ↓g_listL, ↓g_listT, ↓g_tupL, ↓g_tupT, ↓g_is, ↓g_isNot, ↓g_isN, ↓g_isNotN, ↓g_max2, ↓g_min2, ↓g_mulL, ↓g_addL, ↓g_sumL, ↓g_sumT, ↓atI_lit, ↓atI_nat, ↓ixN_lit, ↓ixN_nat, ↓wO_some, ↓w_ite, ↓wR_ok, id, List.getElem?_cons_zero, List.getElem?_cons_succ, List.length_cons, List.length_nil, List.length_map, List.length_set, List.set_cons_zero, List.set_cons_succ, deq_i, dok_i, deq_b, dok_b, dok_n, true_and, and_true, ↓w_lc2, ↓ws_fld, ↓wIns_some, ↓ws_dput, ↓wDk_int, ↓g_dnotin, ↓g_oB, ↓g_isiTT, ↓g_isiII, ↓g_isiIB, ↓keyD_int, ↓fld_rows, ↓mat_ix hi]
theorem losses_ok (T : Tx P w K mg base) {i : Nat} (hi : i < n) (hn : n ≤ 12) : m_Counts_losses T [cts T.C_Counts n R, .int i] = .ok (.int (sumN n fun j => R j i)) := by
  unfold m_Counts_losses
  refine runP_ok ?_
  have e0 : rho0 3 [cts T.C_Counts n R, .int i] = [some (cts T.C_Counts n R), some (.int i), none] := rfl
  rw [e0]
  unfold f_Counts_losses
  simp only [↓ws_bind, ↓ws_if, ↓ws_set, ↓ws_sub, ↓ws_ret, ↓ws_drop, ↓ws_par, ↓ws_asg, ↓ws_nx, ↓ws_retN, ↓wi_up, ↓wi_upB, ↓wi_cons, ↓wi_nil, ↓wi_op, ↓wi_opB, ↓wi_opL, ↓wi_if, ↓wi_and, ↓wi_or, ↓wi_not, ↓wi_B, ↓wi_call, ↓wi_callIO, ↓wi_here, ↓wi_app, ↓wi_pop, ↓wi_lc, ↓wLst_some, ↓w_and, ↓w_or, ↓w_not, ↓w_if, ↓w_bl, ↓w_B, ↓wT_bl, ↓w_andV, ↓w_orV, ↓w_notV, ↓w_chain, ↓w_opB, ↓w_op, ↓w_opL, ↓w_cons, ↓w_nil, ↓w_var, ↓w_c, ↓w_call, ↓w_callB, ↓w_meth, ↓w_make, ↓w_items, ↓w_range, ↓w_zip, ↓w_disp1, ↓w_lc, ↓wV_some, ↓wp_ix, ↓wp_var, ↓wPx_lst, ↓w_gN, ↓w_gT2, ↓w_gSub, ↓g_add, ↓g_sub, ↓g_mul, ↓g_div, ↓g_mod, ↓g_neg, ↓g_pow18, ↓g_ge, ↓g_gt, ↓g_lt, ↓g_le, ↓g_eq, ↓g_ne, ↓g_ixL, ↓g_ixT, ↓g_lenL, ↓g_lenT, ↓g_lenK, ↓g_int, ↓g_intB, ↓g_abs, ↓g_tup, ↓g_lst, ↓g_listS, ↓g_listL, ↓g_listT, ↓g_tupL, ↓g_tupT, ↓g_is, ↓g_isNot, ↓g_isN, ↓g_isNotN, ↓g_max2, ↓g_min2, ↓g_mulL, ↓g_addL, ↓g_sumL, ↓g_sumT, ↓atI_lit, ↓atI_nat, ↓ixN_lit, ↓ixN_nat, ↓wO_some, ↓w_ite, ↓wR_ok, id, List.getElem?_cons_zero, List.getElem?_cons_succ, List.length_cons, List.length_nil, List.length_map, List.length_set, List.set_cons_zero, List.set_cons_succ, deq_i, dok_i, deq_b, dok_b, dok_n, true_and, and_true, ↓w_lc2, ↓ws_fld, ↓wIns_some, ↓ws_dput, ↓wDk_int, ↓g_dnotin, ↓g_oB, ↓g_isiTT, ↓g_isiII, ↓g_isiIB, ↓keyD_int, ↓fld_rows, ↓mat_items]
  refine ⟨by rw [rng_len, sizeLine_eq]; omega, ?_⟩
  have e1 : wipeR [some (cts T.C_Counts n R), some (.int i), none] [2] = [some (cts T.C_Counts n R), some (.int i), none] := rfl
  rw [e1]
  refine wLc_all (g := fun j => .int (R j i)) (fun x hx => ?_) ?_
  · simp only [↓ws_bind, ↓ws_if, ↓ws_set, ↓ws_sub, ↓ws_ret, ↓ws_drop, ↓ws_par, ↓ws_asg, ↓ws_nx, ↓ws_retN, ↓wi_up, ↓wi_upB, ↓wi_cons, ↓wi_nil, ↓wi_op, ↓wi_opB, ↓wi_opL, ↓wi_if, ↓wi_and, ↓wi_or, ↓wi_not, ↓wi_B, ↓wi_call, ↓wi_callIO, ↓wi_here, ↓wi_app, ↓wi_pop, ↓wi_lc, ↓wLst_some, ↓w_and, ↓w_or, ↓w_not, ↓w_if, ↓w_bl, ↓w_B, ↓wT_bl, ↓w_andV, ↓w_orV, ↓w_notV, ↓w_chain, ↓w_opB, ↓w_op, ↓w_opL, ↓w_cons, ↓w_nil, ↓w_var, ↓w_c, ↓w_call, ↓w_callB, ↓w_meth, ↓w_make, ↓w_items, ↓w_range, ↓w_zip, ↓w_disp1, ↓w_lc, ↓wV_some, ↓wp_ix, ↓wp_var, ↓wPx_lst, ↓w_gN, ↓w_gT2, ↓w_gSub, ↓g_add, ↓g_sub, ↓g_mul, ↓g_div, ↓g_mod, ↓g_neg, ↓g_pow18, ↓g_ge, ↓g_gt, ↓g_lt, ↓g_le, ↓g_eq, ↓g_ne, ↓g_ixL, ↓g_ixT, ↓g_lenL, ↓g_lenT, ↓g_lenK, ↓g_int, ↓g_intB, ↓g_abs, ↓g_tup, ↓g_lst, ↓g_listS, ↓g_listL, ↓g_listT, ↓g_tupL, ↓g_tupT, ↓g_is, ↓g_isNot, ↓g_isN, ↓g_isNotN, ↓g_max2, ↓g_min2, ↓g_mulL, ↓g_addL, ↓g_sumL, ↓g_sumT, ↓atI_lit, ↓atI_nat, ↓ixN_lit, ↓ixN_nat, ↓wO_some, ↓w_ite, ↓wR_ok, id, List.getElem?_cons_zero, List.getElem?_cons_succ, List.length_cons, List.length_nil, List.length_map, List.length_set, List.set_cons_zero, List.set_cons_succ, deq_i, dok_i, deq_b, dok_b, dok_n, true_and, and_true, ↓w_lc2, ↓ws_fld, ↓wIns_some, ↓ws_dput, ↓wDk_int, ↓g_dnotin, ↓g_oB, ↓g_isiTT, ↓g_isiII, ↓g_isiIB, ↓keyD_int, ↓row_ix hi]
    omega
  · show wO (gSum [.lst (vecL n fun j => R j i)]) _
    rw [g_sumL]
theorem init_ok (T : Tx P w K mg base) (h0 : 0 < n) (hn : n ≤ 12) (hR : ∀ i j, i < n → j < n → 0 ≤ R i j) (hd : ∀ i, i < n → R i i = 0) : ∃ d d0, m_Counts___init__ T [.ins T.C_Counts [] [], matT n R] = .ok d d0 ∧ d = .non ∧ d0 = cts T.C_Counts n R := by
  unfold m_Counts___init__
  refine runI_ok (Q := fun d d0 => d = .non ∧ d0 = cts T.C_Counts n R) ?_
  have e0 : rho0 5 [.ins T.C_Counts [] [], matT n R] = [some (.ins T.C_Counts [] []), some (matT n R), none, none, none] := rfl
  rw [e0]
  unfold f_Counts___init__
  have hl : ((List.range n).map fun i => D.tup (vecL n (R i))).length = n := rng_len
  have q1 : decide ((0 : Int) < (n : Int)) = true := decide_eq_true (by omega)
  have q2 : decide ((n : Int) ≤ 12) = true := decide_eq_true (by omega)
  have em : matT n R = .tup ((List.range n).map fun i => .tup (vecL n (R i))) := rfl
  have ez : sizeLine = 16777216 := sizeLine_eq
  rw [ws_bind]
  refine ws_guard ?_ ?_
  · rw [em]
    simp only [↓ws_bind, ↓ws_if, ↓ws_set, ↓ws_sub, ↓ws_ret, ↓ws_drop, ↓ws_par, ↓ws_asg, ↓ws_nx, ↓ws_retN, ↓wi_up, ↓wi_upB, ↓wi_cons, ↓wi_nil, ↓wi_op, ↓wi_opB, ↓wi_opL, ↓wi_if, ↓wi_and, ↓wi_or, ↓wi_not, ↓wi_B, ↓wi_call, ↓wi_callIO, ↓wi_here, ↓wi_app, ↓wi_pop, ↓wi_lc, ↓wLst_some, ↓w_and, ↓w_or, ↓w_not, ↓w_if, ↓w_bl, ↓w_B, ↓wT_bl, ↓w_andV, ↓w_orV, ↓w_notV, ↓w_chain, ↓w_opB, ↓w_op, ↓w_opL, ↓w_cons, ↓w_nil, ↓w_var, ↓w_c, ↓w_call, ↓w_callB, ↓w_meth, ↓w_make, ↓w_items, ↓w_range, ↓w_zip, ↓w_disp1, ↓w_lc, ↓wV_some, ↓wp_ix, ↓wp_var, ↓wPx_lst, ↓w_gN, ↓w_gT2, ↓w_gSub, ↓g_add, ↓g_sub, ↓g_mul, ↓g_div, ↓g_mod, ↓g_neg, ↓g_pow18, ↓g_ge, ↓g_gt, ↓g_lt, ↓g_le, ↓g_eq, ↓g_ne, ↓g_ixL, ↓g_ixT, ↓g_lenL, ↓g_lenT, ↓g_lenK, ↓g_int, ↓g_intB, ↓g_abs, ↓g_tup, ↓g_lst, ↓g_listS, ↓g_listL, ↓g_listT, ↓g_tupL, ↓g_tupT, ↓g_is, ↓g_isNot, ↓g_isN, ↓g_isNotN, ↓g_max2, ↓g_min2, ↓g_mulL, ↓g_addL, ↓g_sumL, ↓g_sumT, ↓atI_lit, ↓atI_nat, ↓ixN_lit, ↓ixN_nat, ↓wO_some, ↓w_ite, ↓wR_ok, id, List.getElem?_cons_zero, List.getElem?_cons_succ, List.length_cons, List.length_nil, List.length_map, List.length_set, List.set_cons_zero, List.set_cons_succ, deq_i, dok_i, deq_b, dok_b, dok_n, true_and, and_true, ↓w_lc2, ↓ws_fld, ↓wIns_some, ↓ws_dput, ↓wDk_int, ↓g_dnotin, ↓g_oB, ↓g_isiTT, ↓g_isiII, ↓g_isiIB, ↓keyD_int, hl, q1, q2, Bool.not_true, if_true, Bool.false_eq_true, if_false]
  dsimp only
  rw [ws_bind]
  refine ws_guard ?_ ?_
  · rw [w_not, w_B, w_op, w_cons, w_lc, w_items, w_var]
    simp only [↓List.getElem?_cons_succ, ↓List.getElem?_cons_zero, ↓wV_some, ↓mat_items]
    refine ⟨by rw [rng_len, ez]; omega, ?_⟩
    have e1 : wipeR [some (.ins T.C_Counts [] []), some (matT n R), none, none, none] [2] = [some (.ins T.C_Counts [] []), some (matT n R), none, none, none] := rfl
    rw [e1]
    refine wLc_all (g := fun _ => .bl true) (fun x hx => ?_) ?_
    · rw [em]
      simp only [↓ws_bind, ↓ws_if, ↓ws_set, ↓ws_sub, ↓ws_ret, ↓ws_drop, ↓ws_par, ↓ws_asg, ↓ws_nx, ↓ws_retN, ↓wi_up, ↓wi_upB, ↓wi_cons, ↓wi_nil, ↓wi_op, ↓wi_opB, ↓wi_opL, ↓wi_if, ↓wi_and, ↓wi_or, ↓wi_not, ↓wi_B, ↓wi_call, ↓wi_callIO, ↓wi_here, ↓wi_app, ↓wi_pop, ↓wi_lc, ↓wLst_some, ↓w_and, ↓w_or, ↓w_not, ↓w_if, ↓w_bl, ↓w_B, ↓wT_bl, ↓w_andV, ↓w_orV, ↓w_notV, ↓w_chain, ↓w_opB, ↓w_op, ↓w_opL, ↓w_cons, ↓w_nil, ↓w_var, ↓w_c, ↓w_call, ↓w_callB, ↓w_meth, ↓w_make, ↓w_items, ↓w_range, ↓w_zip, ↓w_disp1, ↓w_lc, ↓wV_some, ↓wp_ix, ↓wp_var, ↓wPx_lst, ↓w_gN, ↓w_gT2, ↓w_gSub, ↓g_add, ↓g_sub, ↓g_mul, ↓g_div, ↓g_mod, ↓g_neg, ↓g_pow18, ↓g_ge, ↓g_gt, ↓g_lt, ↓g_le, ↓g_eq, ↓g_ne, ↓g_ixL, ↓g_ixT, ↓g_lenL, ↓g_lenT, ↓g_lenK, ↓g_int, ↓g_intB, ↓g_abs, ↓g_tup, ↓g_lst, ↓g_listS, ↓g_listL, ↓g_listT, ↓g_tupL, ↓g_tupT, ↓g_is, ↓g_isNot, ↓g_isN, ↓g_isNotN, ↓g_max2, ↓g_min2, ↓g_mulL, ↓g_addL, ↓g_sumL, ↓g_sumT, ↓atI_lit, ↓atI_nat, ↓ixN_lit, ↓ixN_nat, ↓wO_some, ↓w_ite, ↓wR_ok, id, List.getElem?_cons_zero, List.getElem?_cons_succ, List.length_cons, List.length_nil, List.length_map, List.length_set, List.set_cons_zero, List.set_cons_succ, deq_i, dok_i, deq_b, dok_b, dok_n, true_and, and_true, ↓w_lc2, ↓ws_fld, ↓wIns_some, ↓ws_dput, ↓wDk_int, ↓g_dnotin, ↓g_oB, ↓g_isiTT, ↓g_isiII, ↓g_isiIB, ↓keyD_int, hl, vec_len, decide_true, if_true]
      omega
    · rw [w_nil, g_oB, g_allT (fun d hd => by obtain ⟨_, _, e⟩ := List.mem_map.mp hd; exact e.symm)]; rfl
  dsimp only
  rw [ws_bind]
  refine ws_guard ?_ ?_
  · rw [w_not, w_B, w_op, w_cons, w_lc2, w_items, w_var]
    simp only [↓List.getElem?_cons_succ, ↓List.getElem?_cons_zero, ↓wV_some, ↓mat_items]
    have e1 : wipeR [some (.ins T.C_Counts [] []), some (matT n R), none, none, none] [2, 3] = [some (.ins T.C_Counts [] []), some (matT n R), none, none, none] := rfl
    rw [e1]
    refine wLc2_all (g := fun _ => (List.range n).map fun _ => .bl true) (fun x hx => ?_) ?_
    · have hx' : x < n := List.mem_range.mp hx
      simp only [↓ws_bind, ↓ws_if, ↓ws_set, ↓ws_sub, ↓ws_ret, ↓ws_drop, ↓ws_par, ↓ws_asg, ↓ws_nx, ↓ws_retN, ↓wi_up, ↓wi_upB, ↓wi_cons, ↓wi_nil, ↓wi_op, ↓wi_opB, ↓wi_opL, ↓wi_if, ↓wi_and, ↓wi_or, ↓wi_not, ↓wi_B, ↓wi_call, ↓wi_callIO, ↓wi_here, ↓wi_app, ↓wi_pop, ↓wi_lc, ↓wLst_some, ↓w_and, ↓w_or, ↓w_not, ↓w_if, ↓w_bl, ↓w_B, ↓wT_bl, ↓w_andV, ↓w_orV, ↓w_notV, ↓w_chain, ↓w_opB, ↓w_op, ↓w_opL, ↓w_cons, ↓w_nil, ↓w_var, ↓w_c, ↓w_call, ↓w_callB, ↓w_meth, ↓w_make, ↓w_items, ↓w_range, ↓w_zip, ↓w_disp1, ↓w_lc, ↓wV_some, ↓wp_ix, ↓wp_var, ↓wPx_lst, ↓w_gN, ↓w_gT2, ↓w_gSub, ↓g_add, ↓g_sub, ↓g_mul, ↓g_div, ↓g_mod, ↓g_neg, ↓g_pow18, ↓g_ge, ↓g_gt, ↓g_lt, ↓g_le, ↓g_eq, ↓g_ne, ↓g_ixL, ↓g_ixT, ↓g_lenL, ↓g_lenT, ↓g_lenK, ↓g_int, ↓g_intB, ↓g_abs, ↓g_tup, ↓g_lst, ↓g_listS, ↓g_listL, ↓g_listT, ↓g_tupL, ↓g_tupT, ↓g_is, ↓g_isNot, ↓g_isN, ↓g_isNotN, ↓g_max2, ↓g_min2, ↓g_mulL, ↓g_addL, ↓g_sumL, ↓g_sumT, ↓atI_lit, ↓atI_nat, ↓ixN_lit, ↓ixN_nat, ↓wO_some, ↓w_ite, ↓wR_ok, id, List.getElem?_cons_zero, List.getElem?_cons_succ, List.length_cons, List.length_nil, List.length_map, List.length_set, List.set_cons_zero, List.set_cons_succ, deq_i, dok_i, deq_b, dok_b, dok_n, true_and, and_true, ↓w_lc2, ↓ws_fld, ↓wIns_some, ↓ws_dput, ↓wDk_int, ↓g_dnotin, ↓g_oB, ↓g_isiTT, ↓g_isiII, ↓g_isiIB, ↓keyD_int]
      refine ⟨by omega, ?_⟩
      have e2 : wipeR [some (.ins T.C_Counts [] []), some (matT n R), some (.tup (vecL n (R x))), none, none] [3] = [some (.ins T.C_Counts [] []), some (matT n R), some (.tup (vecL n (R x))), none, none] := rfl
      rw [e2]
      unfold vecL
      refine wLc_all (g := fun _ => .bl true) (fun y hy => ?_) rfl
      have hy' : y < n := List.mem_range.mp hy
      have h1 := hR x y hx' hy'
      simp only [↓ws_bind, ↓ws_if, ↓ws_set, ↓ws_sub, ↓ws_ret, ↓ws_drop, ↓ws_par, ↓ws_asg, ↓ws_nx, ↓ws_retN, ↓wi_up, ↓wi_upB, ↓wi_cons, ↓wi_nil, ↓wi_op, ↓wi_opB, ↓wi_opL, ↓wi_if, ↓wi_and, ↓wi_or, ↓wi_not, ↓wi_B, ↓wi_call, ↓wi_callIO, ↓wi_here, ↓wi_app, ↓wi_pop, ↓wi_lc, ↓wLst_some, ↓w_and, ↓w_or, ↓w_not, ↓w_if, ↓w_bl, ↓w_B, ↓wT_bl, ↓w_andV, ↓w_orV, ↓w_notV, ↓w_chain, ↓w_opB, ↓w_op, ↓w_opL, ↓w_cons, ↓w_nil, ↓w_var, ↓w_c, ↓w_call, ↓w_callB, ↓w_meth, ↓w_make, ↓w_items, ↓w_range, ↓w_zip, ↓w_disp1, ↓w_lc, ↓wV_some, ↓wp_ix, ↓wp_var, ↓wPx_lst, ↓w_gN, ↓w_gT2, ↓w_gSub, ↓g_add, ↓g_sub, ↓g_mul, ↓g_div, ↓g_mod, ↓g_neg, ↓g_pow18, ↓g_ge, ↓g_gt, ↓g_lt, ↓g_le, ↓g_eq, ↓g_ne, ↓g_ixL, ↓g_ixT, ↓g_lenL, ↓g_lenT, ↓g_lenK, ↓g_int, ↓g_intB, ↓g_abs, ↓g_tup, ↓g_lst, ↓g_listS, ↓g_listL, ↓g_listT, ↓g_tupL, ↓g_tupT, ↓g_is, ↓g_isNot, ↓g_isN, ↓g_isNotN, ↓g_max2, ↓g_min2, ↓g_mulL, ↓g_addL, ↓g_sumL, ↓g_sumT, ↓atI_lit, ↓atI_nat, ↓ixN_lit, ↓ixN_nat, ↓wO_some, ↓w_ite, ↓wR_ok, id, List.getElem?_cons_zero, List.getElem?_cons_succ, List.length_cons, List.length_nil, List.length_map, List.length_set, List.set_cons_zero, List.set_cons_succ, deq_i, dok_i, deq_b, dok_b, dok_n, true_and, and_true, ↓w_lc2, ↓ws_fld, ↓wIns_some, ↓ws_dput, ↓wDk_int, ↓g_dnotin, ↓g_oB, ↓g_isiTT, ↓g_isiII, ↓g_isiIB, ↓keyD_int, is_integer_ok, h1, decide_true, if_true]
      omega
    · refine ⟨?_, ?_⟩
      · rw [List.length_flatten, List.map_map]
        have : ((List.range n).map (List.length ∘ fun _ : Nat => (List.range n).map fun _ : Nat => D.bl true)) = (List.range n).map fun _ => n := by
          refine List.map_congr_left fun x _ => ?_
          show ((List.range n).map fun _ : Nat => D.bl true).length = n
          rw [rng_len]
        rw [this, List.map_const', List.sum_replicate_nat, List.length_range, ez]
        have : n * n ≤ 12 * 12 := Nat.mul_le_mul hn hn
        omega
      · rw [w_nil, g_oB, g_allT (fun d hd => by
          obtain ⟨l, hl1, hl2⟩ := List.mem_flatten.mp hd
          obtain ⟨_, _, e⟩ := List.mem_map.mp hl1
          subst e
          obtain ⟨_, _, e⟩ := List.mem_map.mp hl2
          exact e.symm)]; rfl
  dsimp only
  rw [ws_bind]
  rw [ws_if, wi_upB, w_B, w_op, w_cons, w_lc, w_range, w_cons, w_op, w_cons, w_var]
  simp only [↓List.getElem?_cons_succ, ↓List.getElem?_cons_zero, ↓wV_some, ↓w_nil, ↓mat_len]
  refine ⟨by omega, ?_⟩
  rw [Int.toNat_natCast]
  refine ⟨by rw [rng_map, rng_len, ez]; omega, ?_⟩
  have e1 : wipeR [some (.ins T.C_Counts [] []), some (matT n R), none, none, none] [4] = [some (.ins T.C_Counts [] []), some (matT n R), none, none, none] := rfl
  rw [e1, rng_map]
  refine wLc_all (g := fun _ => .bl false) (fun x hx => ?_) ?_
  · have hx' : x < n := List.mem_range.mp hx
    rw [Int.zero_add]
    have h1 := hd x hx'
    simp only [↓ws_bind, ↓ws_if, ↓ws_set, ↓ws_sub, ↓ws_ret, ↓ws_drop, ↓ws_par, ↓ws_asg, ↓ws_nx, ↓ws_retN, ↓wi_up, ↓wi_upB, ↓wi_cons, ↓wi_nil, ↓wi_op, ↓wi_opB, ↓wi_opL, ↓wi_if, ↓wi_and, ↓wi_or, ↓wi_not, ↓wi_B, ↓wi_call, ↓wi_callIO, ↓wi_here, ↓wi_app, ↓wi_pop, ↓wi_lc, ↓wLst_some, ↓w_and, ↓w_or, ↓w_not, ↓w_if, ↓w_bl, ↓w_B, ↓wT_bl, ↓w_andV, ↓w_orV, ↓w_notV, ↓w_chain, ↓w_opB, ↓w_op, ↓w_opL, ↓w_cons, ↓w_nil, ↓w_var, ↓w_c, ↓w_call, ↓w_callB, ↓w_meth, ↓w_make, ↓w_items, ↓w_range, ↓w_zip, ↓w_disp1, ↓w_lc, ↓wV_some, ↓wp_ix, ↓wp_var, ↓wPx_lst, ↓w_gN, ↓w_gT2, ↓w_gSub, ↓g_add, ↓g_sub, ↓g_mul, ↓g_div, ↓g_mod, ↓g_neg, ↓g_pow18, ↓g_ge, ↓g_gt, ↓g_lt, ↓g_le, ↓g_eq, ↓g_ne, ↓g_ixL, ↓g_ixT, ↓g_lenL, ↓g_lenT, ↓g_lenK, ↓g_int, ↓g_intB, ↓g_abs, ↓g_tup, ↓g_lst, ↓g_listS, ↓g_listL, ↓g_listT, ↓g_tupL, ↓g_tupT, ↓g_is, ↓g_isNot, ↓g_isN, ↓g_isNotN, ↓g_max2, ↓g_min2, ↓g_mulL, ↓g_addL, ↓g_sumL, ↓g_sumT, ↓atI_lit, ↓atI_nat, ↓ixN_lit, ↓ixN_nat, ↓wO_some, ↓w_ite, ↓wR_ok, id, List.getElem?_cons_zero, List.getElem?_cons_succ, List.length_cons, List.length_nil, List.length_map, List.length_set, List.set_cons_zero, List.set_cons_succ, deq_i, dok_i, deq_b, dok_b, dok_n, true_and, and_true, ↓w_lc2, ↓ws_fld, ↓wIns_some, ↓ws_dput, ↓wDk_int, ↓g_dnotin, ↓g_oB, ↓g_isiTT, ↓g_isiII, ↓g_isiIB, ↓keyD_int, ↓mat_ix hx', ↓row_ix hx', h1, decide_true, Bool.not_true]
    omega
  rw [g_oB, g_anyF (fun d hd => by obtain ⟨_, _, e⟩ := List.mem_map.mp hd; exact e.symm), wT_bl, if_neg (by decide), ws_nx]
  dsimp only
  rw [em]
  simp only [↓ws_bind, ↓ws_if, ↓ws_set, ↓ws_sub, ↓ws_ret, ↓ws_drop, ↓ws_par, ↓ws_asg, ↓ws_nx, ↓ws_retN, ↓wi_up, ↓wi_upB, ↓wi_cons, ↓wi_nil, ↓wi_op, ↓wi_opB, ↓wi_opL, ↓wi_if, ↓wi_and, ↓wi_or, ↓wi_not, ↓wi_B, ↓wi_call, ↓wi_callIO, ↓wi_here, ↓wi_app, ↓wi_pop, ↓wi_lc, ↓wLst_some, ↓w_and, ↓w_or, ↓w_not, ↓w_if, ↓w_bl, ↓w_B, ↓wT_bl, ↓w_andV, ↓w_orV, ↓w_notV, ↓w_chain, ↓w_opB, ↓w_op, ↓w_opL, ↓w_cons, ↓w_nil, ↓w_var, ↓w_c, ↓w_call, ↓w_callB, ↓w_meth, ↓w_make, ↓w_items, ↓w_range, ↓w_zip, ↓w_disp1, ↓w_lc, ↓wV_some, ↓wp_ix, ↓wp_var, ↓wPx_lst, ↓w_gN, ↓w_gT2, ↓w_gSub, ↓g_add, ↓g_sub, ↓g_mul, ↓g_div, ↓g_mod, ↓g_neg, ↓g_pow18, ↓g_ge, ↓g_gt, ↓g_lt, ↓g_le, ↓g_eq, ↓g_ne, ↓g_ixL, ↓g_ixT, ↓g_lenL, ↓g_lenT, ↓g_lenK, ↓g_int, ↓g_intB, ↓g_abs, ↓g_tup, ↓g_lst, ↓g_listS, ↓g_listL, ↓g_listT, ↓g_tupL, ↓g_tupT, ↓g_is, ↓g_isNot, ↓g_isN, ↓g_isNotN, ↓g_max2, ↓g_min2, ↓g_mulL, ↓g_addL, ↓g_sumL, ↓g_sumT, ↓atI_lit, ↓atI_nat, ↓ixN_lit, ↓ixN_nat, ↓wO_some, ↓w_ite, ↓wR_ok, id, List.getElem?_cons_zero, List.getElem?_cons_succ, List.length_cons, List.length_nil, List.length_map, List.length_set, List.set_cons_zero, List.set_cons_succ, deq_i, dok_i, deq_b, dok_b, dok_n, true_and, and_true, ↓w_lc2, ↓ws_fld, ↓wIns_some, ↓ws_dput, ↓wDk_int, ↓g_dnotin, ↓g_oB, ↓g_isiTT, ↓g_isiII, ↓g_isiIB, ↓keyD_int, hl]
  rw [← em]
  refine ⟨by decide, (by show 1 < 1000; decide), ?_⟩
  have ne : ¬ ("rows" : Str) = "size" := by decide +kernel
  have e2 : putFD "rows" (matT n R) [] [] = ([("rows" : Str)], [matT n R]) := rfl
  have e3 : putFD "size" (.int n) [("rows" : Str)] [matT n R] = ([("rows" : Str), ("size" : Str)], [matT n R, .int n]) := by
    unfold putFD
    rw [if_neg ne]; rfl
  rw [e2, e3]; rfl
end
end VL

set_option Elab.async false
set_option linter.all false
set_option maxRecDepth 100000
set_option maxHeartbeats 4000000
namespace VL
open PySem PySem.Spec PyProof.Rows L2
def due (R : Nat → Nat → Int) (S : Nat → Int) (a : Nat) : Nat → Int × Int
  | 0 => (0, 1)
  | m + 1 => if a = m then due R S a m else fplus (due R S a m) (low ((R a m + R m a) * S a) (S a + S m))
theorem due_same {R : Nat → Nat → Int} {S : Nat → Int} {a : Nat} : due R S a (a + 1) = due R S a a := if_pos rfl
def areB (n : Nat) (R : Nat → Nat → Int) (S : Nat → Int) : Bool := (List.range n).all fun a => decide (due R S a n = (sumN n (R a), 1))
structure Sm (n : Nat) (R : Nat → Nat → Int) (S : Nat → Int) : Prop where
  r0 : ∀ i j, i < n → j < n → 0 ≤ R i j
  r1 : ∀ i j, i < n → j < n → R i j < 1024
  s0 : ∀ i, i < n → 0 < S i
  s1 : ∀ i, i < n → S i < 1024
section
variable {n : Nat} {R : Nat → Nat → Int} {S : Nat → Int}
theorem term_bits (h : Sm n R S) {a m : Nat} (ha : a < n) (hm : m < n) : ((R a m + R m a) * S a).natAbs < 2 ^ 21 ∧ (S a + S m).natAbs < 2 ^ 21 ∧ 0 < S a + S m := by
  have h1 := h.r0 a m ha hm
  have h2 := h.r1 a m ha hm
  have h3 := h.r0 m a hm ha
  have h4 := h.r1 m a hm ha
  have h5 := h.s0 a ha
  have h6 := h.s1 a ha
  have h7 := h.s0 m hm
  have h8 := h.s1 m hm
  refine ⟨?_, by omega, by omega⟩
  have q1 : (R a m + R m a).natAbs < 2 ^ 11 := by omega
  have q2 : (S a).natAbs < 2 ^ 10 := by omega
  exact mul_bits q1 q2
theorem due_Bp (h : Sm n R S) {a : Nat} (ha : a < n) : ∀ {m : Nat}, m ≤ n → Bp (22 * m + 1) (due R S a m)
  | 0, _ => ⟨show (0 : Int).natAbs < 2 ^ 1 by decide, show (1 : Int).natAbs < 2 ^ 1 by decide, show (0 : Int) < 1 by decide⟩
  | m + 1, hm => by
    unfold due
    have ih := due_Bp h ha (m := m) (by omega)
    by_cases q : a = m
    · rw [if_pos q]; exact ih.mono (by omega)
    · rw [if_neg q]
      obtain ⟨h1, h2, h3⟩ := term_bits h ha (show m < n by omega)
      exact (fplus_Bp ih (low_Bp h3 h1 h2)).mono (by omega)
end
theorem deq_pr {x y : Int × Int} : deq (pr x) (pr y) = decide (x = y) := by
  obtain ⟨a, b⟩ := x
  obtain ⟨c, d⟩ := y
  unfold deq pr
  simp only [toPy, toPys, PyData.eqv, PyData.eqvAll, Bool.and_true]
  rw [Bool.eq_iff_iff]
  simp
theorem dok_pr {x : Int × Int} : dok 64 (pr x) = true := by
  unfold pr dok
  simp [dok_i]
theorem s_met : (("rows" : Str) != "met") = true ∧ (("size" : Str) != "met") = true := by decide +kernel
theorem s_wins : (("rows" : Str) != "wins") = true ∧ (("size" : Str) != "wins") = true := by decide +kernel
theorem s_losses : (("rows" : Str) != "losses") = true ∧ (("size" : Str) != "losses") = true := by decide +kernel
theorem isC_cts {C : Addr} {n : Nat} {R : Nat → Nat → Int} {mt : Str} (h : (("rows" : Str) != mt) = true ∧ (("size" : Str) != mt) = true) : isC C mt (cts C n R) = true := by
  unfold isC cts
  dsimp only
  rw [List.all_cons, List.all_cons, List.all_nil, h.1, h.2]
  simp
section
variable {P : Program} {w : World} {K : PySem.W.Frag} {mg : Str → Option Value} {base : Heap} {n : Nat} {R : Nat → Nat → Int} {S : Nat → Int}
theorem are_ok (T : Tx P w K mg base) (hn : n ≤ 12) (h : Sm n R S) : m_are_strengths T [cts T.C_Counts n R, .lst (vecL n S)] = .ok (.bl (areB n R S)) := by
  unfold m_are_strengths
  refine runP_ok ?_
  have e0 : rho0 5 [cts T.C_Counts n R, .lst (vecL n S)] = [some (cts T.C_Counts n R), some (.lst (vecL n S)), none, none, none] := rfl
  rw [e0]
  unfold f_are_strengths
  rw [ws_bind]
  refine ws_forR n (fun a ρ => ∃ o2 o3 o4, ρ = [some (cts T.C_Counts n R), some (.lst (vecL n S)), o2, o3, o4] ∧ ∀ a' < a, due R S a' n = (sumN n (R a'), 1)) ?_ ⟨_, _, _, rfl, fun a' h => absurd h (Nat.not_lt_zero _)⟩ ?_ ?_
  · simp only [↓ws_bind, ↓ws_if, ↓ws_set, ↓ws_sub, ↓ws_ret, ↓ws_drop, ↓ws_par, ↓ws_asg, ↓ws_nx, ↓ws_retN, ↓wi_up, ↓wi_upB, ↓wi_cons, ↓wi_nil, ↓wi_op, ↓wi_opB, ↓wi_opL, ↓wi_if, ↓wi_and, ↓wi_or, ↓wi_not, ↓wi_B, ↓wi_call, ↓wi_callIO, ↓wi_here, ↓wi_app, ↓wi_pop, ↓wi_lc, ↓wLst_some, ↓w_and, ↓w_or, ↓w_not, ↓w_if, ↓w_bl, ↓w_B, ↓wT_bl, ↓w_andV, ↓w_orV, ↓w_notV, ↓w_chain, ↓w_opB, ↓w_op, ↓w_opL, ↓w_cons, ↓w_nil, ↓w_var, ↓w_c, ↓w_call, ↓w_callB, ↓w_meth, ↓w_make, ↓w_items, ↓w_range, ↓w_zip, ↓w_disp1, ↓w_lc, ↓wV_some, ↓wp_ix, ↓wp_var, ↓wPx_lst, ↓w_gN, ↓w_gT2, ↓w_gSub, ↓g_add, ↓g_sub, ↓g_mul, ↓g_div, ↓g_mod, ↓g_neg, ↓g_pow18, ↓g_ge, ↓g_gt, ↓g_lt, ↓g_le, ↓g_eq, ↓g_ne, ↓g_ixL, ↓g_ixT, ↓g_lenL, ↓g_lenT, ↓g_lenK, ↓g_int, ↓g_intB, ↓g_abs, ↓g_tup, ↓g_lst, ↓g_listS, ↓g_listL, ↓g_listT, ↓g_tupL, ↓g_tupT, ↓g_is, ↓g_isNot, ↓g_isN, ↓g_isNotN, ↓g_max2, ↓g_min2, ↓g_mulL, ↓g_addL, ↓g_sumL, ↓g_sumT, ↓atI_lit, ↓atI_nat, ↓ixN_lit, ↓ixN_nat, ↓wO_some, ↓w_ite, ↓wR_ok, id, List.getElem?_cons_zero, List.getElem?_cons_succ, List.length_cons, List.length_nil, List.length_map, List.length_set, List.set_cons_zero, List.set_cons_succ, deq_i, dok_i, deq_b, dok_b, dok_n, true_and, and_true, ↓w_lc2, ↓ws_fld, ↓wIns_some, ↓ws_dput, ↓wDk_int, ↓g_dnotin, ↓g_oB, ↓g_isiTT, ↓g_isiII, ↓g_isiIB, ↓keyD_int, ↓fld_size]
    exact ⟨by omega, by rw [Int.toNat_natCast]⟩
  · rintro a ρ ha ⟨o2, o3, o4, rfl, hp⟩
    rw [w_gN]
    refine ⟨by simp, ?_⟩
    rw [ws_bind]
    simp only [↓ws_bind, ↓ws_if, ↓ws_set, ↓ws_sub, ↓ws_ret, ↓ws_drop, ↓ws_par, ↓ws_asg, ↓ws_nx, ↓ws_retN, ↓wi_up, ↓wi_upB, ↓wi_cons, ↓wi_nil, ↓wi_op, ↓wi_opB, ↓wi_opL, ↓wi_if, ↓wi_and, ↓wi_or, ↓wi_not, ↓wi_B, ↓wi_call, ↓wi_callIO, ↓wi_here, ↓wi_app, ↓wi_pop, ↓wi_lc, ↓wLst_some, ↓w_and, ↓w_or, ↓w_not, ↓w_if, ↓w_bl, ↓w_B, ↓wT_bl, ↓w_andV, ↓w_orV, ↓w_notV, ↓w_chain, ↓w_opB, ↓w_op, ↓w_opL, ↓w_cons, ↓w_nil, ↓w_var, ↓w_c, ↓w_call, ↓w_callB, ↓w_meth, ↓w_make, ↓w_items, ↓w_range, ↓w_zip, ↓w_disp1, ↓w_lc, ↓wV_some, ↓wp_ix, ↓wp_var, ↓wPx_lst, ↓w_gN, ↓w_gT2, ↓w_gSub, ↓g_add, ↓g_sub, ↓g_mul, ↓g_div, ↓g_mod, ↓g_neg, ↓g_pow18, ↓g_ge, ↓g_gt, ↓g_lt, ↓g_le, ↓g_eq, ↓g_ne, ↓g_ixL, ↓g_ixT, ↓g_lenL, ↓g_lenT, ↓g_lenK, ↓g_int, ↓g_intB, ↓g_abs, ↓g_tup, ↓g_lst, ↓g_listS, ↓g_listL, ↓g_listT, ↓g_tupL, ↓g_tupT, ↓g_is, ↓g_isNot, ↓g_isN, ↓g_isNotN, ↓g_max2, ↓g_min2, ↓g_mulL, ↓g_addL, ↓g_sumL, ↓g_sumT, ↓atI_lit, ↓atI_nat, ↓ixN_lit, ↓ixN_nat, ↓wO_some, ↓w_ite, ↓wR_ok, id, List.getElem?_cons_zero, List.getElem?_cons_succ, List.length_cons, List.length_nil, List.length_map, List.length_set, List.set_cons_zero, List.set_cons_succ, deq_i, dok_i, deq_b, dok_b, dok_n, true_and, and_true, ↓w_lc2, ↓ws_fld, ↓wIns_some, ↓ws_dput, ↓wDk_int, ↓g_dnotin, ↓g_oB, ↓g_isiTT, ↓g_isiII, ↓g_isiIB, ↓keyD_int]
    refine ⟨by rw [sizeLine_eq]; omega, by omega, ?_⟩
    refine ws_forR n (fun m ρ => ∃ o4, ρ = [some (cts T.C_Counts n R), some (.lst (vecL n S)), some (.int a), some (pr (due R S a m)), o4]) ?_ ⟨_, rfl⟩ ?_ ?_
    · simp only [↓ws_bind, ↓ws_if, ↓ws_set, ↓ws_sub, ↓ws_ret, ↓ws_drop, ↓ws_par, ↓ws_asg, ↓ws_nx, ↓ws_retN, ↓wi_up, ↓wi_upB, ↓wi_cons, ↓wi_nil, ↓wi_op, ↓wi_opB, ↓wi_opL, ↓wi_if, ↓wi_and, ↓wi_or, ↓wi_not, ↓wi_B, ↓wi_call, ↓wi_callIO, ↓wi_here, ↓wi_app, ↓wi_pop, ↓wi_lc, ↓wLst_some, ↓w_and, ↓w_or, ↓w_not, ↓w_if, ↓w_bl, ↓w_B, ↓wT_bl, ↓w_andV, ↓w_orV, ↓w_notV, ↓w_chain, ↓w_opB, ↓w_op, ↓w_opL, ↓w_cons, ↓w_nil, ↓w_var, ↓w_c, ↓w_call, ↓w_callB, ↓w_meth, ↓w_make, ↓w_items, ↓w_range, ↓w_zip, ↓w_disp1, ↓w_lc, ↓wV_some, ↓wp_ix, ↓wp_var, ↓wPx_lst, ↓w_gN, ↓w_gT2, ↓w_gSub, ↓g_add, ↓g_sub, ↓g_mul, ↓g_div, ↓g_mod, ↓g_neg, ↓g_pow18, ↓g_ge, ↓g_gt, ↓g_lt, ↓g_le, ↓g_eq, ↓g_ne, ↓g_ixL, ↓g_ixT, ↓g_lenL, ↓g_lenT, ↓g_lenK, ↓g_int, ↓g_intB, ↓g_abs, ↓g_tup, ↓g_lst, ↓g_listS, ↓g_listL, ↓g_listT, ↓g_tupL, ↓g_tupT, ↓g_is, ↓g_isNot, ↓g_isN, ↓g_isNotN, ↓g_max2, ↓g_min2, ↓g_mulL, ↓g_addL, ↓g_sumL, ↓g_sumT, ↓atI_lit, ↓atI_nat, ↓ixN_lit, ↓ixN_nat, ↓wO_some, ↓w_ite, ↓wR_ok, id, List.getElem?_cons_zero, List.getElem?_cons_succ, List.length_cons, List.length_nil, List.length_map, List.length_set, List.set_cons_zero, List.set_cons_succ, deq_i, dok_i, deq_b, dok_b, dok_n, true_and, and_true, ↓w_lc2, ↓ws_fld, ↓wIns_some, ↓ws_dput, ↓wDk_int, ↓g_dnotin, ↓g_oB, ↓g_isiTT, ↓g_isiII, ↓g_isiIB, ↓keyD_int, ↓fld_size]
      exact ⟨by omega, by rw [Int.toNat_natCast]⟩
    · rintro m ρ hm ⟨o4, rfl⟩
      rw [w_gN]
      refine ⟨by simp, ?_⟩
      obtain ⟨h1, h2, h3⟩ := term_bits h ha hm
      have b0 := due_Bp h ha (m := m) (by omega)
      have b1 := low_Bp h3 h1 h2
      by_cases q : a = m
      · subst q
        simp only [↓ws_bind, ↓ws_if, ↓ws_set, ↓ws_sub, ↓ws_ret, ↓ws_drop, ↓ws_par, ↓ws_asg, ↓ws_nx, ↓ws_retN, ↓wi_up, ↓wi_upB, ↓wi_cons, ↓wi_nil, ↓wi_op, ↓wi_opB, ↓wi_opL, ↓wi_if, ↓wi_and, ↓wi_or, ↓wi_not, ↓wi_B, ↓wi_call, ↓wi_callIO, ↓wi_here, ↓wi_app, ↓wi_pop, ↓wi_lc, ↓wLst_some, ↓w_and, ↓w_or, ↓w_not, ↓w_if, ↓w_bl, ↓w_B, ↓wT_bl, ↓w_andV, ↓w_orV, ↓w_notV, ↓w_chain, ↓w_opB, ↓w_op, ↓w_opL, ↓w_cons, ↓w_nil, ↓w_var, ↓w_c, ↓w_call, ↓w_callB, ↓w_meth, ↓w_make, ↓w_items, ↓w_range, ↓w_zip, ↓w_disp1, ↓w_lc, ↓wV_some, ↓wp_ix, ↓wp_var, ↓wPx_lst, ↓w_gN, ↓w_gT2, ↓w_gSub, ↓g_add, ↓g_sub, ↓g_mul, ↓g_div, ↓g_mod, ↓g_neg, ↓g_pow18, ↓g_ge, ↓g_gt, ↓g_lt, ↓g_le, ↓g_eq, ↓g_ne, ↓g_ixL, ↓g_ixT, ↓g_lenL, ↓g_lenT, ↓g_lenK, ↓g_int, ↓g_intB, ↓g_abs, ↓g_tup, ↓g_lst, ↓g_listS, ↓g_listL, ↓g_listT, ↓g_tupL, ↓g_tupT, ↓g_is, ↓g_isNot, ↓g_isN, ↓g_isNotN, ↓g_max2, ↓g_min2, ↓g_mulL, ↓g_addL, ↓g_sumL, ↓g_sumT, ↓atI_lit, ↓atI_nat, ↓ixN_lit, ↓ixN_nat, ↓wO_some, ↓w_ite, ↓wR_ok, id, List.getElem?_cons_zero, List.getElem?_cons_succ, List.length_cons, List.length_nil, List.length_map, List.length_set, List.set_cons_zero, List.set_cons_succ, deq_i, dok_i, deq_b, dok_b, dok_n, true_and, and_true, ↓w_lc2, ↓ws_fld, ↓wIns_some, ↓ws_dput, ↓wDk_int, ↓g_dnotin, ↓g_oB, ↓g_isiTT, ↓g_isiII, ↓g_isiIB, ↓keyD_int, decide_true, Bool.not_true, Bool.false_eq_true, if_false]
        exact ⟨_, by rw [due_same]⟩
      · have qd : decide ((a : Int) = (m : Int)) = false := decide_eq_false (by omega)
        simp only [↓ws_bind, ↓ws_if, ↓ws_set, ↓ws_sub, ↓ws_ret, ↓ws_drop, ↓ws_par, ↓ws_asg, ↓ws_nx, ↓ws_retN, ↓wi_up, ↓wi_upB, ↓wi_cons, ↓wi_nil, ↓wi_op, ↓wi_opB, ↓wi_opL, ↓wi_if, ↓wi_and, ↓wi_or, ↓wi_not, ↓wi_B, ↓wi_call, ↓wi_callIO, ↓wi_here, ↓wi_app, ↓wi_pop, ↓wi_lc, ↓wLst_some, ↓w_and, ↓w_or, ↓w_not, ↓w_if, ↓w_bl, ↓w_B, ↓wT_bl, ↓w_andV, ↓w_orV, ↓w_notV, ↓w_chain, ↓w_opB, ↓w_op, ↓w_opL, ↓w_cons, ↓w_nil, ↓w_var, ↓w_c, ↓w_call, ↓w_callB, ↓w_meth, ↓w_make, ↓w_items, ↓w_range, ↓w_zip, ↓w_disp1, ↓w_lc, ↓wV_some, ↓wp_ix, ↓wp_var, ↓wPx_lst, ↓w_gN, ↓w_gT2, ↓w_gSub, ↓g_add, ↓g_sub, ↓g_mul, ↓g_div, ↓g_mod, ↓g_neg, ↓g_pow18, ↓g_ge, ↓g_gt, ↓g_lt, ↓g_le, ↓g_eq, ↓g_ne, ↓g_ixL, ↓g_ixT, ↓g_lenL, ↓g_lenT, ↓g_lenK, ↓g_int, ↓g_intB, ↓g_abs, ↓g_tup, ↓g_lst, ↓g_listS, ↓g_listL, ↓g_listT, ↓g_tupL, ↓g_tupT, ↓g_is, ↓g_isNot, ↓g_isN, ↓g_isNotN, ↓g_max2, ↓g_min2, ↓g_mulL, ↓g_addL, ↓g_sumL, ↓g_sumT, ↓atI_lit, ↓atI_nat, ↓ixN_lit, ↓ixN_nat, ↓wO_some, ↓w_ite, ↓wR_ok, id, List.getElem?_cons_zero, List.getElem?_cons_succ, List.length_cons, List.length_nil, List.length_map, List.length_set, List.set_cons_zero, List.set_cons_succ, deq_i, dok_i, deq_b, dok_b, dok_n, true_and, and_true, ↓w_lc2, ↓ws_fld, ↓wIns_some, ↓ws_dput, ↓wDk_int, ↓g_dnotin, ↓g_oB, ↓g_isiTT, ↓g_isiII, ↓g_isiIB, ↓keyD_int, qd, Bool.not_false, if_true, isC_cts s_met, met_ok T ha hm, ↓vec_ix ha, ↓vec_ix hm, lowest_ok T h3 (pow_BB h1 (by omega)) (pow_BB h2 (by omega)), plus_ok T b0 b1 (by omega)]
        have l1 := bp_log (show (R a m + R m a).natAbs < 2 ^ 21 by have := h.r0 a m ha hm; have := h.r1 a m ha hm; have := h.r0 m a hm ha; have := h.r1 m a hm ha; omega) (by omega)
        have l2 := bp_log (show (S a).natAbs < 2 ^ 21 by have := h.s0 a ha; have := h.s1 a ha; omega) (by omega)
        refine ⟨by omega, by omega, some (.int m), ?_⟩
        rw [due, if_neg q]
    · rintro ρ ⟨o4, rfl⟩
      dsimp only
      by_cases q : due R S a n = (sumN n (R a), 1)
      · have qd : deq (pr (due R S a n)) (.tup [.int (sumN n (R a)), .int 1]) = true := by
          rw [show D.tup [.int (sumN n (R a)), .int 1] = pr (sumN n (R a), 1) from rfl, deq_pr]
          exact decide_eq_true q
        have dk : dok 64 (.tup [.int (sumN n (R a)), .int 1]) = true := dok_pr (x := (sumN n (R a), 1))
        simp only [↓ws_bind, ↓ws_if, ↓ws_set, ↓ws_sub, ↓ws_ret, ↓ws_drop, ↓ws_par, ↓ws_asg, ↓ws_nx, ↓ws_retN, ↓wi_up, ↓wi_upB, ↓wi_cons, ↓wi_nil, ↓wi_op, ↓wi_opB, ↓wi_opL, ↓wi_if, ↓wi_and, ↓wi_or, ↓wi_not, ↓wi_B, ↓wi_call, ↓wi_callIO, ↓wi_here, ↓wi_app, ↓wi_pop, ↓wi_lc, ↓wLst_some, ↓w_and, ↓w_or, ↓w_not, ↓w_if, ↓w_bl, ↓w_B, ↓wT_bl, ↓w_andV, ↓w_orV, ↓w_notV, ↓w_chain, ↓w_opB, ↓w_op, ↓w_opL, ↓w_cons, ↓w_nil, ↓w_var, ↓w_c, ↓w_call, ↓w_callB, ↓w_meth, ↓w_make, ↓w_items, ↓w_range, ↓w_zip, ↓w_disp1, ↓w_lc, ↓wV_some, ↓wp_ix, ↓wp_var, ↓wPx_lst, ↓w_gN, ↓w_gT2, ↓w_gSub, ↓g_add, ↓g_sub, ↓g_mul, ↓g_div, ↓g_mod, ↓g_neg, ↓g_pow18, ↓g_ge, ↓g_gt, ↓g_lt, ↓g_le, ↓g_eq, ↓g_ne, ↓g_ixL, ↓g_ixT, ↓g_lenL, ↓g_lenT, ↓g_lenK, ↓g_int, ↓g_intB, ↓g_abs, ↓g_tup, ↓g_lst, ↓g_listS, ↓g_listL, ↓g_listT, ↓g_tupL, ↓g_tupT, ↓g_is, ↓g_isNot, ↓g_isN, ↓g_isNotN, ↓g_max2, ↓g_min2, ↓g_mulL, ↓g_addL, ↓g_sumL, ↓g_sumT, ↓atI_lit, ↓atI_nat, ↓ixN_lit, ↓ixN_nat, ↓wO_some, ↓w_ite, ↓wR_ok, id, List.getElem?_cons_zero, List.getElem?_cons_succ, List.length_cons, List.length_nil, List.length_map, List.length_set, List.set_cons_zero, List.set_cons_succ, deq_i, dok_i, deq_b, dok_b, dok_n, true_and, and_true, ↓w_lc2, ↓ws_fld, ↓wIns_some, ↓ws_dput, ↓wDk_int, ↓g_dnotin, ↓g_oB, ↓g_isiTT, ↓g_isiII, ↓g_isiIB, ↓keyD_int, isC_cts s_wins, wins_ok T ha, qd, dk, dok_pr, Bool.not_true, Bool.false_eq_true, if_false]
        refine ⟨by rw [sizeLine_eq]; omega, _, _, _, rfl, fun a' h' => ?_⟩
        rcases Nat.lt_succ_iff_lt_or_eq.mp h' with h'' | rfl
        · exact hp a' h''
        · exact q
      · have qd : deq (pr (due R S a n)) (.tup [.int (sumN n (R a)), .int 1]) = false := by
          rw [show D.tup [.int (sumN n (R a)), .int 1] = pr (sumN n (R a), 1) from rfl, deq_pr]
          exact decide_eq_false q
        have dk : dok 64 (.tup [.int (sumN n (R a)), .int 1]) = true := dok_pr (x := (sumN n (R a), 1))
        simp only [↓ws_bind, ↓ws_if, ↓ws_set, ↓ws_sub, ↓ws_ret, ↓ws_drop, ↓ws_par, ↓ws_asg, ↓ws_nx, ↓ws_retN, ↓wi_up, ↓wi_upB, ↓wi_cons, ↓wi_nil, ↓wi_op, ↓wi_opB, ↓wi_opL, ↓wi_if, ↓wi_and, ↓wi_or, ↓wi_not, ↓wi_B, ↓wi_call, ↓wi_callIO, ↓wi_here, ↓wi_app, ↓wi_pop, ↓wi_lc, ↓wLst_some, ↓w_and, ↓w_or, ↓w_not, ↓w_if, ↓w_bl, ↓w_B, ↓wT_bl, ↓w_andV, ↓w_orV, ↓w_notV, ↓w_chain, ↓w_opB, ↓w_op, ↓w_opL, ↓w_cons, ↓w_nil, ↓w_var, ↓w_c, ↓w_call, ↓w_callB, ↓w_meth, ↓w_make, ↓w_items, ↓w_range, ↓w_zip, ↓w_disp1, ↓w_lc, ↓wV_some, ↓wp_ix, ↓wp_var, ↓wPx_lst, ↓w_gN, ↓w_gT2, ↓w_gSub, ↓g_add, ↓g_sub, ↓g_mul, ↓g_div, ↓g_mod, ↓g_neg, ↓g_pow18, ↓g_ge, ↓g_gt, ↓g_lt, ↓g_le, ↓g_eq, ↓g_ne, ↓g_ixL, ↓g_ixT, ↓g_lenL, ↓g_lenT, ↓g_lenK, ↓g_int, ↓g_intB, ↓g_abs, ↓g_tup, ↓g_lst, ↓g_listS, ↓g_listL, ↓g_listT, ↓g_tupL, ↓g_tupT, ↓g_is, ↓g_isNot, ↓g_isN, ↓g_isNotN, ↓g_max2, ↓g_min2, ↓g_mulL, ↓g_addL, ↓g_sumL, ↓g_sumT, ↓atI_lit, ↓atI_nat, ↓ixN_lit, ↓ixN_nat, ↓wO_some, ↓w_ite, ↓wR_ok, id, List.getElem?_cons_zero, List.getElem?_cons_succ, List.length_cons, List.length_nil, List.length_map, List.length_set, List.set_cons_zero, List.set_cons_succ, deq_i, dok_i, deq_b, dok_b, dok_n, true_and, and_true, ↓w_lc2, ↓ws_fld, ↓wIns_some, ↓ws_dput, ↓wDk_int, ↓g_dnotin, ↓g_oB, ↓g_isiTT, ↓g_isiII, ↓g_isiIB, ↓keyD_int, isC_cts s_wins, wins_ok T ha, qd, dk, dok_pr, Bool.not_false, if_true]
        refine ⟨by rw [sizeLine_eq]; omega, ?_⟩
        congr 1
        symm
        unfold areB
        rw [Bool.eq_false_iff]
        intro hall
        rw [List.all_eq_true] at hall
        exact q (of_decide_eq_true (hall a (List.mem_range.mpr ha)))
  · rintro ρ ⟨o2, o3, o4, rfl, hp⟩
    simp only [↓ws_bind, ↓ws_if, ↓ws_set, ↓ws_sub, ↓ws_ret, ↓ws_drop, ↓ws_par, ↓ws_asg, ↓ws_nx, ↓ws_retN, ↓wi_up, ↓wi_upB, ↓wi_cons, ↓wi_nil, ↓wi_op, ↓wi_opB, ↓wi_opL, ↓wi_if, ↓wi_and, ↓wi_or, ↓wi_not, ↓wi_B, ↓wi_call, ↓wi_callIO, ↓wi_here, ↓wi_app, ↓wi_pop, ↓wi_lc, ↓wLst_some, ↓w_and, ↓w_or, ↓w_not, ↓w_if, ↓w_bl, ↓w_B, ↓wT_bl, ↓w_andV, ↓w_orV, ↓w_notV, ↓w_chain, ↓w_opB, ↓w_op, ↓w_opL, ↓w_cons, ↓w_nil, ↓w_var, ↓w_c, ↓w_call, ↓w_callB, ↓w_meth, ↓w_make, ↓w_items, ↓w_range, ↓w_zip, ↓w_disp1, ↓w_lc, ↓wV_some, ↓wp_ix, ↓wp_var, ↓wPx_lst, ↓w_gN, ↓w_gT2, ↓w_gSub, ↓g_add, ↓g_sub, ↓g_mul, ↓g_div, ↓g_mod, ↓g_neg, ↓g_pow18, ↓g_ge, ↓g_gt, ↓g_lt, ↓g_le, ↓g_eq, ↓g_ne, ↓g_ixL, ↓g_ixT, ↓g_lenL, ↓g_lenT, ↓g_lenK, ↓g_int, ↓g_intB, ↓g_abs, ↓g_tup, ↓g_lst, ↓g_listS, ↓g_listL, ↓g_listT, ↓g_tupL, ↓g_tupT, ↓g_is, ↓g_isNot, ↓g_isN, ↓g_isNotN, ↓g_max2, ↓g_min2, ↓g_mulL, ↓g_addL, ↓g_sumL, ↓g_sumT, ↓atI_lit, ↓atI_nat, ↓ixN_lit, ↓ixN_nat, ↓wO_some, ↓w_ite, ↓wR_ok, id, List.getElem?_cons_zero, List.getElem?_cons_succ, List.length_cons, List.length_nil, List.length_map, List.length_set, List.set_cons_zero, List.set_cons_succ, deq_i, dok_i, deq_b, dok_b, dok_n, true_and, and_true, ↓w_lc2, ↓ws_fld, ↓wIns_some, ↓ws_dput, ↓wDk_int, ↓g_dnotin, ↓g_oB, ↓g_isiTT, ↓g_isiII, ↓g_isiIB, ↓keyD_int]
    congr 1
    symm
    unfold areB
    rw [List.all_eq_true]
    intro a ha
    exact decide_eq_true (hp a (List.mem_range.mp ha))
end
end VL

set_option Elab.async false
set_option linter.all false
set_option maxRecDepth 100000
set_option maxHeartbeats 4000000
namespace VL
open PySem PySem.Spec PyProof.Rows L2
/-! ### strengths that explain the counts: plain -/
theorem low_spec {t b : Int} (hb : 0 < b) : ∃ g : Int, 0 < g ∧ (low t b).1 * g = t ∧ (low t b).2 * g = b :=
  ⟨(Int.gcd t b : Int), gcd_pos hb, Int.ediv_mul_cancel (Int.gcd_dvd_left t b), Int.ediv_mul_cancel (Int.gcd_dvd_right t b)⟩
theorem low_mul {k b : Int} (hb : 0 < b) : low (k * b) b = (k, 1) := by
  have e : (Int.gcd (k * b) b : Int) = b := by
    have h1 : b ∣ (Int.gcd (k * b) b : Int) := Int.dvd_coe_gcd (Int.dvd_mul_left k b) (Int.dvd_refl b)
    have h2 := gcd_le (t := k * b) hb
    have h3 := Int.le_of_dvd (gcd_pos (t := k * b) hb) h1
    omega
  unfold low
  rw [e, Int.mul_ediv_cancel k (by omega), Int.ediv_self (by omega)]
theorem fplus_one {x y : Int} : fplus (x, 1) (y, 1) = (x + y, 1) := by
  unfold fplus
  have : low ((x + y) * 1) 1 = (x + y, 1) := low_mul (by omega)
  simpa using this
/-- counts that were made of strengths -/
structure Made (n : Nat) (R : Nat → Nat → Int) (S : Nat → Int) : Prop where
  s0 : ∀ i, i < n → 0 < S i
  d : ∀ i, i < n → R i i = 0
  t : ∀ i j, i < n → j < n → i ≠ j → ∃ t : Int, 0 < t ∧ R i j = t * S i ∧ R j i = t * S j
section
variable {n : Nat} {R : Nat → Nat → Int} {S O : Nat → Int}
theorem due_made (h : Made n R S) (o0 : ∀ i, i < n → 0 < O i) (hp : ∀ a b, a < n → b < n → O a * S b = S a * O b) {a : Nat} (ha : a < n) : ∀ {m : Nat}, m ≤ n → due R O a m = (sumN m (R a), 1)
  | 0, _ => rfl
  | m + 1, hm => by
    have ih := due_made h o0 hp ha (m := m) (by omega)
    unfold due sumN
    by_cases q : a = m
    · subst q
      rw [if_pos rfl, ih, h.d a ha, Int.add_zero]
    · rw [if_neg q, ih]
      obtain ⟨t, t0, e1, e2⟩ := h.t a m ha (by omega) q
      have e3 : (R a m + R m a) * O a = R a m * (O a + O m) := by
        rw [e1, e2]
        have := hp a m ha (by omega)
        grind
      rw [e3, low_mul (by have := o0 a ha; have := o0 m (by omega); omega), fplus_one]
/-- the side whose strength is rated highest -/
theorem top_side (s0 : ∀ i, i < n → 0 < S i) (o0 : ∀ i, i < n → 0 < O i) (hn : 0 < n) : ∀ m, 0 < m → m ≤ n → ∃ a, a < m ∧ ∀ b, b < m → S a * O b ≤ O a * S b
  | 0, h, _ => absurd h (Nat.lt_irrefl _)
  | 1, _, hm => ⟨0, by omega, fun b hb => by
    have : b = 0 := by omega
    subst this
    rw [Int.mul_comm]; exact Int.le_refl _⟩
  | m + 2, _, hm => by
    obtain ⟨a, ha, hmax⟩ := top_side s0 o0 hn (m + 1) (by omega) (by omega)
    have sa := s0 a (by omega)
    have oa := o0 a (by omega)
    have sm := s0 (m + 1) (by omega)
    have om := o0 (m + 1) (by omega)
    by_cases q : S a * O (m + 1) ≤ O a * S (m + 1)
    · refine ⟨a, by omega, fun b hb => ?_⟩
      by_cases hb' : b = m + 1
      · subst hb'; exact q
      · exact hmax b (by omega)
    · refine ⟨m + 1, by omega, fun b hb => ?_⟩
      by_cases hb' : b = m + 1
      · subst hb'; rw [Int.mul_comm]; exact Int.le_refl _
      · have h1 := hmax b (by omega)
        have sb := s0 b (by omega)
        have ob := o0 b (by omega)
        -- S a * O b ≤ O a * S b, O a * S m < S a * O m ⟹ S m * O b ≤ O m * S b
        have h2 : O a * S (m + 1) < S a * O (m + 1) := by omega
        have h3 : (S a * O b) * S (m + 1) ≤ (O a * S b) * S (m + 1) := Int.mul_le_mul_of_nonneg_right h1 (by omega)
        have h4 : (O a * S (m + 1)) * S b < (S a * O (m + 1)) * S b := Int.mul_lt_mul_of_pos_right h2 sb
        have h5 : S a * (S (m + 1) * O b) < S a * (O (m + 1) * S b) := by
          have e1 : S a * (S (m + 1) * O b) = (S a * O b) * S (m + 1) := by grind
          have e2 : S a * (O (m + 1) * S b) = (S a * O (m + 1)) * S b := by grind
          have e3 : (O a * S b) * S (m + 1) = (O a * S (m + 1)) * S b := by grind
          omega
        exact Int.le_of_lt (Int.lt_of_mul_lt_mul_left h5 (by omega))
theorem low_ge {t b r : Int} (hb : 0 < b) (h : r * b ≤ t) : r * (low t b).2 ≤ (low t b).1 ∧ (r * b < t → r * (low t b).2 < (low t b).1) := by
  obtain ⟨g, g0, e1, e2⟩ := low_spec (t := t) hb
  have e3 : (r * (low t b).2) * g = r * b := by rw [Int.mul_assoc, e2]
  refine ⟨Int.le_of_mul_le_mul_right (a := g) ?_ g0, fun h' => Int.lt_of_mul_lt_mul_right (a := g) ?_ (by omega)⟩
  · rw [e3, e1]; exact h
  · rw [e3, e1]; exact h'
theorem low_pos {t b : Int} (hb : 0 < b) : 0 < (low t b).2 := by
  obtain ⟨g, g0, e1, e2⟩ := low_spec (t := t) hb
  rw [← e2] at hb
  exact Int.pos_of_mul_pos_left hb (by omega)
theorem fplus_ge {x y : Int × Int} {u v : Int} (hx : 0 < x.2) (hy : 0 < y.2) (h1 : u * x.2 ≤ x.1) (h2 : v * y.2 ≤ y.1) : 0 < (fplus x y).2 ∧ (u + v) * (fplus x y).2 ≤ (fplus x y).1 ∧ ((u * x.2 < x.1 ∨ v * y.2 < y.1) → (u + v) * (fplus x y).2 < (fplus x y).1) := by
  have hp := Int.mul_pos hx hy
  have a1 : (u * x.2) * y.2 ≤ x.1 * y.2 := Int.mul_le_mul_of_nonneg_right h1 (by omega)
  have a2 : (v * y.2) * x.2 ≤ y.1 * x.2 := Int.mul_le_mul_of_nonneg_right h2 (by omega)
  have e : (u + v) * (x.2 * y.2) = (u * x.2) * y.2 + (v * y.2) * x.2 := by grind
  obtain ⟨b1, b2⟩ := low_ge (t := x.1 * y.2 + y.1 * x.2) (r := u + v) hp (by omega)
  refine ⟨low_pos hp, b1, fun h => b2 ?_⟩
  rcases h with h | h
  · have := Int.mul_lt_mul_of_pos_right h hy
    omega
  · have := Int.mul_lt_mul_of_pos_right h hx
    omega
theorem due_ge (h : Made n R S) (o0 : ∀ i, i < n → 0 < O i) {a : Nat} (ha : a < n) (hmax : ∀ b, b < n → S a * O b ≤ O a * S b) : ∀ {m : Nat}, m ≤ n → 0 < (due R O a m).2 ∧ sumN m (R a) * (due R O a m).2 ≤ (due R O a m).1 ∧ ((∃ b, b < m ∧ S a * O b < O a * S b) → sumN m (R a) * (due R O a m).2 < (due R O a m).1)
  | 0, _ => ⟨show (0 : Int) < 1 by decide, show (0 : Int) * 1 ≤ 0 by decide, fun ⟨b, hb, _⟩ => absurd hb (Nat.not_lt_zero _)⟩
  | m + 1, hm => by
    obtain ⟨i1, i2, i3⟩ := due_ge h o0 ha hmax (m := m) (by omega)
    unfold due sumN
    by_cases q : a = m
    · subst q
      rw [if_pos rfl, h.d a ha, Int.add_zero]
      refine ⟨i1, i2, fun ⟨b, hb, hs⟩ => i3 ?_⟩
      rcases Nat.lt_succ_iff_lt_or_eq.mp hb with hb | rfl
      · exact ⟨b, hb, hs⟩
      · rw [Int.mul_comm] at hs; exact absurd hs (Int.lt_irrefl _)
    · rw [if_neg q]
      obtain ⟨t, t0, e1, e2⟩ := h.t a m ha (by omega) q
      have den : 0 < O a + O m := by have := o0 a ha; have := o0 m (by omega); omega
      have hm' := hmax m (by omega)
      have d1 : (R a m + R m a) * O a = R a m * (O a + O m) + t * (O a * S m - S a * O m) := by
        rw [e1, e2]; grind
      have d2 : 0 ≤ t * (O a * S m - S a * O m) := Int.mul_nonneg (by omega) (by omega)
      obtain ⟨l1, l2⟩ := low_ge (t := (R a m + R m a) * O a) (r := R a m) den (by omega)
      obtain ⟨f1, f2, f3⟩ := fplus_ge i1 (low_pos (t := (R a m + R m a) * O a) den) i2 l1
      refine ⟨f1, f2, fun ⟨b, hb, hs⟩ => f3 ?_⟩
      rcases Nat.lt_succ_iff_lt_or_eq.mp hb with hb | rfl
      · exact .inl (i3 ⟨b, hb, hs⟩)
      · have d3 : 0 < t * (O a * S b - S a * O b) := Int.mul_pos t0 (by omega)
        exact .inr (l2 (by omega))
theorem are_true (h : Made n R S) (o0 : ∀ i, i < n → 0 < O i) (hp : ∀ a b, a < n → b < n → O a * S b = S a * O b) : areB n R O = true := by
  unfold areB
  rw [List.all_eq_true]
  exact fun a ha => decide_eq_true (due_made h o0 hp (List.mem_range.mp ha) (Nat.le_refl n))
theorem are_alike (h : Made n R S) (hn : 0 < n) (o0 : ∀ i, i < n → 0 < O i) : areB n R O = true ↔ ∀ k, k < n → O k * S 0 = S k * O 0 := by
  constructor
  · intro hall
    unfold areB at hall
    rw [List.all_eq_true] at hall
    obtain ⟨a, ha, hmax⟩ := top_side h.s0 o0 hn n hn (Nat.le_refl n)
    have e := of_decide_eq_true (hall a (List.mem_range.mpr ha))
    obtain ⟨g1, g2, g3⟩ := due_ge h o0 ha hmax (Nat.le_refl n)
    have eq : ∀ b, b < n → S a * O b = O a * S b := fun b hb => by
      refine Classical.byContradiction fun q => ?_
      have := g3 ⟨b, hb, by have := hmax b hb; omega⟩
      rw [e] at this
      simp at this
    intro k hk
    have e1 := eq k hk
    have e2 := eq 0 hn
    have sa := h.s0 a ha
    have : S a * (O k * S 0) = S a * (S k * O 0) := by
      have z1 : S a * (O k * S 0) = (S a * O k) * S 0 := by grind
      have z2 : S a * (S k * O 0) = (S a * O 0) * S k := by grind
      rw [z1, z2, e1, e2]; grind
    exact Int.eq_of_mul_eq_mul_left (by omega) this
  · intro hk
    refine are_true h o0 fun a b ha hb => ?_
    have e1 := hk a ha
    have e2 := hk b hb
    have s := h.s0 0 hn
    have : S 0 * (O a * S b) = S 0 * (S a * O b) := by
      have z1 : S 0 * (O a * S b) = (O a * S 0) * S b := by grind
      have z2 : S 0 * (S a * O b) = (O b * S 0) * S a := by grind
      rw [z1, z2, e1, e2]; grind
    exact Int.eq_of_mul_eq_mul_left (by omega) this
end
end VL

set_option Elab.async false
set_option linter.all false
set_option maxRecDepth 100000
set_option maxHeartbeats 4000000
namespace VL
open PySem PySem.Spec PyProof.Rows L2
theorem nodup_len {α : Type} [DecidableEq α] : ∀ {l1 l2 : List α}, l1.Nodup → (∀ x ∈ l1, x ∈ l2) → l1.length ≤ l2.length
  | [], _, _, _ => Nat.zero_le _
  | x :: l1, l2, h, hs => by
    rw [List.nodup_cons] at h
    have h1 : l1.length ≤ (l2.erase x).length := nodup_len h.2 fun y hy => by
      refine (List.mem_erase_of_ne fun q => ?_).mpr (hs y (List.mem_cons_of_mem _ hy))
      subst q; exact h.1 hy
    have h2 := List.length_erase_of_mem (hs x List.mem_cons_self)
    have h3 : 0 < l2.length := List.length_pos_of_mem (hs x List.mem_cons_self)
    rw [List.length_cons]
    omega
def seenD (l : List Nat) : D := .dk (l.map fun i : Nat => (Sum.inl (i : Int) : Key)) (List.replicate l.length (.bl true))
def todoD (l : List Nat) : D := .lst (l.map fun i : Nat => .int i)
theorem look_seen {k : Nat} : ∀ {l : List Nat}, (lookK (l.map fun i : Nat => (Sum.inl (i : Int) : Key)) (List.replicate l.length (.bl true)) (Sum.inl (k : Int))).isSome = decide (k ∈ l)
  | [] => rfl
  | x :: l => by
    have ih := look_seen (k := k) (l := l)
    unfold lookK at ih ⊢
    rw [List.map_cons, List.length_cons, List.replicate_succ, List.zip_cons_cons, List.find?_cons]
    by_cases q : x = k
    · subst q
      rw [decide_eq_true (show ((Sum.inl (x : Int) : Key), D.bl true).1 = Sum.inl (x : Int) from rfl)]
      simp
    · rw [decide_eq_false (show ¬ ((Sum.inl (x : Int) : Key), D.bl true).1 = Sum.inl (k : Int) from fun e => q (by have := Sum.inl.inj e; omega))]
      rw [ih]
      simp [Ne.symm q]
theorem put_seen {k : Nat} {l : List Nat} (h : k ∉ l) : D.dk (putD (l.map fun i : Nat => (Sum.inl (i : Int) : Key)) (List.replicate l.length (.bl true)) (Sum.inl (k : Int)) (.bl true)).1 (putD (l.map fun i : Nat => (Sum.inl (i : Int) : Key)) (List.replicate l.length (.bl true)) (Sum.inl (k : Int)) (.bl true)).2 = seenD (l ++ [k]) := by
  have e : ((l.map fun i : Nat => (Sum.inl (i : Int) : Key)).any fun x => decide (x = Sum.inl (k : Int))) = false := by
    rw [List.any_eq_false]
    intro x hx
    obtain ⟨i, hi, rfl⟩ := List.mem_map.mp hx
    rw [decide_eq_true_eq]
    intro q
    have := Sum.inl.inj q
    have : i = k := by omega
    exact h (this ▸ hi)
  unfold putD seenD
  rw [e, if_neg (by decide)]
  rw [List.map_append, List.length_append, List.length_singleton, List.replicate_succ']
  rfl
section
variable {P : Program} {w : World} {K : PySem.W.Frag} {mg : Str → Option Value} {base : Heap} {n : Nat} {R : Nat → Nat → Int} {S : Nat → Int}
structure StI (n : Nat) (l td : List Nat) : Prop where
  nd : l.Nodup
  lt : ∀ x ∈ l, x < n
  sub : ∀ x ∈ td, x ∈ l
  le : td.length ≤ l.length
theorem strong_ok (T : Tx P w K mg base) (hn : n ≤ 12) (hR : ∀ i j, i < n → j < n → i ≠ j → 0 < R i j) : m_strong_lot T [cts T.C_Counts n R] = .ok .non := by
  unfold m_strong_lot
  refine runP_ok ?_
  have e0 : rho0 6 [cts T.C_Counts n R] = [some (cts T.C_Counts n R), none, none, none, none, none] := rfl
  rw [e0]
  unfold f_strong_lot
  have ez : sizeLine = 16777216 := sizeLine_eq
  rw [ws_bind]
  refine ws_forR n (fun a ρ => ∃ o1 o2 o3 o4 o5, ρ = [some (cts T.C_Counts n R), o1, o2, o3, o4, o5]) ?_ ⟨_, _, _, _, _, rfl⟩ ?_ ?_
  · simp only [↓ws_bind, ↓ws_if, ↓ws_set, ↓ws_sub, ↓ws_ret, ↓ws_drop, ↓ws_par, ↓ws_asg, ↓ws_nx, ↓ws_retN, ↓wi_up, ↓wi_upB, ↓wi_cons, ↓wi_nil, ↓wi_op, ↓wi_opB, ↓wi_opL, ↓wi_if, ↓wi_and, ↓wi_or, ↓wi_not, ↓wi_B, ↓wi_call, ↓wi_callIO, ↓wi_here, ↓wi_app, ↓wi_pop, ↓wi_lc, ↓wLst_some, ↓w_and, ↓w_or, ↓w_not, ↓w_if, ↓w_bl, ↓w_B, ↓wT_bl, ↓w_andV, ↓w_orV, ↓w_notV, ↓w_chain, ↓w_opB, ↓w_op, ↓w_opL, ↓w_cons, ↓w_nil, ↓w_var, ↓w_c, ↓w_call, ↓w_callB, ↓w_meth, ↓w_make, ↓w_items, ↓w_range, ↓w_zip, ↓w_disp1, ↓w_lc, ↓wV_some, ↓wp_ix, ↓wp_var, ↓wPx_lst, ↓w_gN, ↓w_gT2, ↓w_gSub, ↓g_add, ↓g_sub, ↓g_mul, ↓g_div, ↓g_mod, ↓g_neg, ↓g_pow18, ↓g_ge, ↓g_gt, ↓g_lt, ↓g_le, ↓g_eq, ↓g_ne, ↓g_ixL, ↓g_ixT, ↓g_lenL, ↓g_lenT, ↓g_lenK, ↓g_int, ↓g_intB, ↓g_abs, ↓g_tup, ↓g_lst, ↓g_listS, ↓g_listL, ↓g_listT, ↓g_tupL, ↓g_tupT, ↓g_is, ↓g_isNot, ↓g_isN, ↓g_isNotN, ↓g_max2, ↓g_min2, ↓g_mulL, ↓g_addL, ↓g_sumL, ↓g_sumT, ↓atI_lit, ↓atI_nat, ↓ixN_lit, ↓ixN_nat, ↓wO_some, ↓w_ite, ↓wR_ok, id, List.getElem?_cons_zero, List.getElem?_cons_succ, List.length_cons, List.length_nil, List.length_map, List.length_set, List.set_cons_zero, List.set_cons_succ, deq_i, dok_i, deq_b, dok_b, dok_n, true_and, and_true, ↓w_lc2, ↓ws_fld, ↓wIns_some, ↓ws_dput, ↓wDk_int, ↓g_dnotin, ↓g_oB, ↓g_isiTT, ↓g_isiII, ↓g_isiIB, ↓keyD_int, ↓fld_size]
    exact ⟨by omega, by rw [Int.toNat_natCast]⟩
  · rintro a ρ ha ⟨o1, o2, o3, o4, o5, rfl⟩
    rw [w_gN]
    refine ⟨by simp, ?_⟩
    rw [ws_bind, ws_set, wi_up]
    simp only [↓w_disp1, ↓w_var, ↓w_c, ↓List.set_cons_succ, ↓List.set_cons_zero, ↓List.getElem?_cons_succ, ↓List.getElem?_cons_zero, ↓wV_some, ↓keyD_int]
    refine ⟨by simp, ?_⟩
    rw [ws_bind, ws_set, wi_up]
    simp only [↓w_opL, ↓w_cons, ↓w_nil, ↓g_lst, ↓w_var, ↓w_c, ↓List.set_cons_succ, ↓List.set_cons_zero, ↓List.getElem?_cons_succ, ↓List.getElem?_cons_zero, ↓wV_some]
    refine ⟨by rw [ez]; simp, by simp, ?_⟩
    rw [ws_bind]
    refine ws_whl (fun m ρ => ∃ l td o4 o5, ρ = [some (cts T.C_Counts n R), some (.int a), some (seenD l), some (todoD td), o4, o5] ∧ StI n l td ∧ ((∀ i, i < n → i ∈ l) ∨ td ≠ []) ∧ m = (n - l.length) + td.length) ?_ ?_
    · refine ⟨(n - 1) + 1, by show _ < 40; omega, [a], [a], o4, o5, rfl, ⟨by simp, by simpa using ha, by simp, by simp⟩, .inr (by simp), rfl⟩
    · rintro m ρ ⟨l, td, o4, o5, rfl, hI, hfull, rfl⟩
      have ltl : ((td.map fun i : Nat => D.int (i : Int)).length : Int) = (td.length : Int) := by rw [List.length_map]
      unfold todoD
      have htd0 : td = [] ∨ ∃ td' at_, td = td' ++ [at_] := by
        rcases List.eq_nil_or_concat td with h | ⟨td', at_, h⟩
        · exact .inl h
        · exact .inr ⟨td', at_, by rw [h, List.concat_eq_append]⟩
      rcases htd0 with rfl | ⟨td', at_, rfl⟩
      · have d0 : decide ((0 : Int) < ((([] : List Nat).map fun i : Nat => D.int (i : Int)).length : Int)) = false := rfl
        simp only [↓wi_upB, ↓w_opB, ↓w_op, ↓w_cons, ↓w_nil, ↓w_var, ↓w_c, ↓List.getElem?_cons_succ, ↓List.getElem?_cons_zero, ↓wV_some, ↓g_lenL, ↓g_gt, d0, Bool.false_eq_true, if_false]
        have hf : ∀ i, i < n → i ∈ l := by
          rcases hfull with h | h
          · exact h
          · exact absurd rfl h
        have hlen : n ≤ l.length := by
          have := nodup_len (l1 := List.range n) (l2 := l) List.nodup_range fun x hx => hf x (List.mem_range.mp hx)
          rwa [List.length_range] at this
        have d1 : decide ((l.length : Int) < (n : Int)) = false := decide_eq_false (by omega)
        unfold seenD
        simp only [↓ws_bind, ↓ws_if, ↓ws_set, ↓ws_sub, ↓ws_ret, ↓ws_drop, ↓ws_par, ↓ws_asg, ↓ws_nx, ↓ws_retN, ↓wi_up, ↓wi_upB, ↓wi_cons, ↓wi_nil, ↓wi_op, ↓wi_opB, ↓wi_opL, ↓wi_if, ↓wi_and, ↓wi_or, ↓wi_not, ↓wi_B, ↓wi_call, ↓wi_callIO, ↓wi_here, ↓wi_app, ↓wi_pop, ↓wi_lc, ↓wLst_some, ↓w_and, ↓w_or, ↓w_not, ↓w_if, ↓w_bl, ↓w_B, ↓wT_bl, ↓w_andV, ↓w_orV, ↓w_notV, ↓w_chain, ↓w_opB, ↓w_op, ↓w_opL, ↓w_cons, ↓w_nil, ↓w_var, ↓w_c, ↓w_call, ↓w_callB, ↓w_meth, ↓w_make, ↓w_items, ↓w_range, ↓w_zip, ↓w_disp1, ↓w_lc, ↓wV_some, ↓wp_ix, ↓wp_var, ↓wPx_lst, ↓w_gN, ↓w_gT2, ↓w_gSub, ↓g_add, ↓g_sub, ↓g_mul, ↓g_div, ↓g_mod, ↓g_neg, ↓g_pow18, ↓g_ge, ↓g_gt, ↓g_lt, ↓g_le, ↓g_eq, ↓g_ne, ↓g_ixL, ↓g_ixT, ↓g_lenL, ↓g_lenT, ↓g_lenK, ↓g_int, ↓g_intB, ↓g_abs, ↓g_tup, ↓g_lst, ↓g_listS, ↓g_listL, ↓g_listT, ↓g_tupL, ↓g_tupT, ↓g_is, ↓g_isNot, ↓g_isN, ↓g_isNotN, ↓g_max2, ↓g_min2, ↓g_mulL, ↓g_addL, ↓g_sumL, ↓g_sumT, ↓atI_lit, ↓atI_nat, ↓ixN_lit, ↓ixN_nat, ↓wO_some, ↓w_ite, ↓wR_ok, id, List.getElem?_cons_zero, List.getElem?_cons_succ, List.length_cons, List.length_nil, List.length_map, List.length_set, List.set_cons_zero, List.set_cons_succ, deq_i, dok_i, deq_b, dok_b, dok_n, true_and, and_true, ↓w_lc2, ↓ws_fld, ↓wIns_some, ↓ws_dput, ↓wDk_int, ↓g_dnotin, ↓g_oB, ↓g_isiTT, ↓g_isiII, ↓g_isiIB, ↓keyD_int, ↓fld_size, List.length_replicate, d1, Bool.false_eq_true, if_false]
        exact ⟨_, _, _, _, _, rfl⟩
      · have hat : at_ ∈ l := hI.sub at_ (by simp)
        have hatn := hI.lt at_ hat
        have d0 : decide ((0 : Int) < (((td' ++ [at_]).map fun i : Nat => D.int (i : Int)).length : Int)) = true := decide_eq_true (by rw [List.length_map, List.length_append, List.length_singleton]; omega)
        simp only [↓wi_upB, ↓w_opB, ↓w_op, ↓w_cons, ↓w_nil, ↓w_var, ↓w_c, ↓List.getElem?_cons_succ, ↓List.getElem?_cons_zero, ↓wV_some, ↓g_lenL, ↓g_gt, d0, if_true]
        rw [ws_bind, ws_set, wi_pop]
        simp only [↓List.getElem?_cons_succ, ↓List.getElem?_cons_zero, ↓wLst_some]
        have e1 : ((td' ++ [at_]).map fun i : Nat => D.int (i : Int))[((td' ++ [at_]).map fun i : Nat => D.int (i : Int)).length - 1]? = some (.int at_) := by simp
        have e2 : ((td' ++ [at_]).map fun i : Nat => D.int (i : Int)).dropLast = td'.map fun i : Nat => D.int (i : Int) := by simp
        rw [e1, e2, wO_some]
        refine ⟨by simp, ?_⟩
        refine ws_forR n (fun o ρ => ∃ l2 td2 o5, ρ = [some (cts T.C_Counts n R), some (.int a), some (seenD l2), some (todoD td2), some (.int at_), o5] ∧ StI n l2 td2 ∧ at_ ∈ l2 ∧ (∀ i, i < o → i ≠ at_ → i ∈ l2) ∧ (n - l2.length) + td2.length = (n - l.length) + td'.length) ?_ ?_ ?_ ?_
        · simp only [↓ws_bind, ↓ws_if, ↓ws_set, ↓ws_sub, ↓ws_ret, ↓ws_drop, ↓ws_par, ↓ws_asg, ↓ws_nx, ↓ws_retN, ↓wi_up, ↓wi_upB, ↓wi_cons, ↓wi_nil, ↓wi_op, ↓wi_opB, ↓wi_opL, ↓wi_if, ↓wi_and, ↓wi_or, ↓wi_not, ↓wi_B, ↓wi_call, ↓wi_callIO, ↓wi_here, ↓wi_app, ↓wi_pop, ↓wi_lc, ↓wLst_some, ↓w_and, ↓w_or, ↓w_not, ↓w_if, ↓w_bl, ↓w_B, ↓wT_bl, ↓w_andV, ↓w_orV, ↓w_notV, ↓w_chain, ↓w_opB, ↓w_op, ↓w_opL, ↓w_cons, ↓w_nil, ↓w_var, ↓w_c, ↓w_call, ↓w_callB, ↓w_meth, ↓w_make, ↓w_items, ↓w_range, ↓w_zip, ↓w_disp1, ↓w_lc, ↓wV_some, ↓wp_ix, ↓wp_var, ↓wPx_lst, ↓w_gN, ↓w_gT2, ↓w_gSub, ↓g_add, ↓g_sub, ↓g_mul, ↓g_div, ↓g_mod, ↓g_neg, ↓g_pow18, ↓g_ge, ↓g_gt, ↓g_lt, ↓g_le, ↓g_eq, ↓g_ne, ↓g_ixL, ↓g_ixT, ↓g_lenL, ↓g_lenT, ↓g_lenK, ↓g_int, ↓g_intB, ↓g_abs, ↓g_tup, ↓g_lst, ↓g_listS, ↓g_listL, ↓g_listT, ↓g_tupL, ↓g_tupT, ↓g_is, ↓g_isNot, ↓g_isN, ↓g_isNotN, ↓g_max2, ↓g_min2, ↓g_mulL, ↓g_addL, ↓g_sumL, ↓g_sumT, ↓atI_lit, ↓atI_nat, ↓ixN_lit, ↓ixN_nat, ↓wO_some, ↓w_ite, ↓wR_ok, id, List.getElem?_cons_zero, List.getElem?_cons_succ, List.length_cons, List.length_nil, List.length_map, List.length_set, List.set_cons_zero, List.set_cons_succ, deq_i, dok_i, deq_b, dok_b, dok_n, true_and, and_true, ↓w_lc2, ↓ws_fld, ↓wIns_some, ↓ws_dput, ↓wDk_int, ↓g_dnotin, ↓g_oB, ↓g_isiTT, ↓g_isiII, ↓g_isiIB, ↓keyD_int, ↓fld_size]
          exact ⟨by omega, by rw [Int.toNat_natCast]⟩
        · exact ⟨l, td', o5, rfl, ⟨hI.nd, hI.lt, fun x hx => hI.sub x (by simp [hx]), by have := hI.le; rw [List.length_append, List.length_singleton] at this; omega⟩, hat, fun i h => absurd h (Nat.not_lt_zero _), rfl⟩
        · rintro o ρ ho ⟨l2, td2, o5, rfl, hI2, hat2, hall, hm⟩
          rw [w_gN]
          refine ⟨by simp, ?_⟩
          unfold seenD todoD
          by_cases q : o ∈ l2
          · have done : ∀ i, i < o + 1 → i ≠ at_ → i ∈ l2 := fun i hi hne => by
              rcases Nat.lt_succ_iff_lt_or_eq.mp hi with h | rfl
              · exact hall i h hne
              · exact q
            have dq : decide (o ∈ l2) = true := decide_eq_true q
            by_cases r : 0 < R o at_
            · simp only [↓ws_bind, ↓ws_if, ↓ws_set, ↓ws_sub, ↓ws_ret, ↓ws_drop, ↓ws_par, ↓ws_asg, ↓ws_nx, ↓ws_retN, ↓wi_up, ↓wi_upB, ↓wi_cons, ↓wi_nil, ↓wi_op, ↓wi_opB, ↓wi_opL, ↓wi_if, ↓wi_and, ↓wi_or, ↓wi_not, ↓wi_B, ↓wi_call, ↓wi_callIO, ↓wi_here, ↓wi_app, ↓wi_pop, ↓wi_lc, ↓wLst_some, ↓w_and, ↓w_or, ↓w_not, ↓w_if, ↓w_bl, ↓w_B, ↓wT_bl, ↓w_andV, ↓w_orV, ↓w_notV, ↓w_chain, ↓w_opB, ↓w_op, ↓w_opL, ↓w_cons, ↓w_nil, ↓w_var, ↓w_c, ↓w_call, ↓w_callB, ↓w_meth, ↓w_make, ↓w_items, ↓w_range, ↓w_zip, ↓w_disp1, ↓w_lc, ↓wV_some, ↓wp_ix, ↓wp_var, ↓wPx_lst, ↓w_gN, ↓w_gT2, ↓w_gSub, ↓g_add, ↓g_sub, ↓g_mul, ↓g_div, ↓g_mod, ↓g_neg, ↓g_pow18, ↓g_ge, ↓g_gt, ↓g_lt, ↓g_le, ↓g_eq, ↓g_ne, ↓g_ixL, ↓g_ixT, ↓g_lenL, ↓g_lenT, ↓g_lenK, ↓g_int, ↓g_intB, ↓g_abs, ↓g_tup, ↓g_lst, ↓g_listS, ↓g_listL, ↓g_listT, ↓g_tupL, ↓g_tupT, ↓g_is, ↓g_isNot, ↓g_isN, ↓g_isNotN, ↓g_max2, ↓g_min2, ↓g_mulL, ↓g_addL, ↓g_sumL, ↓g_sumT, ↓atI_lit, ↓atI_nat, ↓ixN_lit, ↓ixN_nat, ↓wO_some, ↓w_ite, ↓wR_ok, id, List.getElem?_cons_zero, List.getElem?_cons_succ, List.length_cons, List.length_nil, List.length_map, List.length_set, List.set_cons_zero, List.set_cons_succ, deq_i, dok_i, deq_b, dok_b, dok_n, true_and, and_true, ↓w_lc2, ↓ws_fld, ↓wIns_some, ↓ws_dput, ↓wDk_int, ↓g_dnotin, ↓g_oB, ↓g_isiTT, ↓g_isiII, ↓g_isiIB, ↓keyD_int, ↓fld_rows, ↓mat_ix ho, ↓row_ix hatn, r, decide_true, if_true, look_seen, dq, Bool.not_true, Bool.false_eq_true, if_false]
              exact ⟨l2, td2, _, rfl, hI2, hat2, done, hm⟩
            · simp only [↓ws_bind, ↓ws_if, ↓ws_set, ↓ws_sub, ↓ws_ret, ↓ws_drop, ↓ws_par, ↓ws_asg, ↓ws_nx, ↓ws_retN, ↓wi_up, ↓wi_upB, ↓wi_cons, ↓wi_nil, ↓wi_op, ↓wi_opB, ↓wi_opL, ↓wi_if, ↓wi_and, ↓wi_or, ↓wi_not, ↓wi_B, ↓wi_call, ↓wi_callIO, ↓wi_here, ↓wi_app, ↓wi_pop, ↓wi_lc, ↓wLst_some, ↓w_and, ↓w_or, ↓w_not, ↓w_if, ↓w_bl, ↓w_B, ↓wT_bl, ↓w_andV, ↓w_orV, ↓w_notV, ↓w_chain, ↓w_opB, ↓w_op, ↓w_opL, ↓w_cons, ↓w_nil, ↓w_var, ↓w_c, ↓w_call, ↓w_callB, ↓w_meth, ↓w_make, ↓w_items, ↓w_range, ↓w_zip, ↓w_disp1, ↓w_lc, ↓wV_some, ↓wp_ix, ↓wp_var, ↓wPx_lst, ↓w_gN, ↓w_gT2, ↓w_gSub, ↓g_add, ↓g_sub, ↓g_mul, ↓g_div, ↓g_mod, ↓g_neg, ↓g_pow18, ↓g_ge, ↓g_gt, ↓g_lt, ↓g_le, ↓g_eq, ↓g_ne, ↓g_ixL, ↓g_ixT, ↓g_lenL, ↓g_lenT, ↓g_lenK, ↓g_int, ↓g_intB, ↓g_abs, ↓g_tup, ↓g_lst, ↓g_listS, ↓g_listL, ↓g_listT, ↓g_tupL, ↓g_tupT, ↓g_is, ↓g_isNot, ↓g_isN, ↓g_isNotN, ↓g_max2, ↓g_min2, ↓g_mulL, ↓g_addL, ↓g_sumL, ↓g_sumT, ↓atI_lit, ↓atI_nat, ↓ixN_lit, ↓ixN_nat, ↓wO_some, ↓w_ite, ↓wR_ok, id, List.getElem?_cons_zero, List.getElem?_cons_succ, List.length_cons, List.length_nil, List.length_map, List.length_set, List.set_cons_zero, List.set_cons_succ, deq_i, dok_i, deq_b, dok_b, dok_n, true_and, and_true, ↓w_lc2, ↓ws_fld, ↓wIns_some, ↓ws_dput, ↓wDk_int, ↓g_dnotin, ↓g_oB, ↓g_isiTT, ↓g_isiII, ↓g_isiIB, ↓keyD_int, ↓fld_rows, ↓mat_ix ho, ↓row_ix hatn, r, decide_false, Bool.false_eq_true, if_false]
              exact ⟨l2, td2, _, rfl, hI2, hat2, done, hm⟩
          · have hne : o ≠ at_ := fun e => q (e ▸ hat2)
            have r := hR o at_ ho hatn hne
            have dq : decide (o ∈ l2) = false := decide_eq_false q
            have hlen : l2.length ≤ n := by
              have := nodup_len hI2.nd (l2 := List.range n) fun x hx => List.mem_range.mpr (hI2.lt x hx)
              rwa [List.length_range] at this
            have hlen' : l2.length + 1 ≤ n := by
              have := nodup_len (l1 := l2 ++ [o]) (l2 := List.range n) (List.nodup_append.mpr ⟨hI2.nd, by simp, fun x hx y hy e => by simp at hy; subst hy; subst e; exact q hx⟩) fun x hx => by
                rcases List.mem_append.mp hx with h | h
                · exact List.mem_range.mpr (hI2.lt x h)
                · simp at h; subst h; exact List.mem_range.mpr ho
              rw [List.length_range, List.length_append, List.length_singleton] at this
              exact this
            have htd : td2.length ≤ 40 := by have := hI2.le; omega
            simp only [↓ws_bind, ↓ws_if, ↓ws_set, ↓ws_sub, ↓ws_ret, ↓ws_drop, ↓ws_par, ↓ws_asg, ↓ws_nx, ↓ws_retN, ↓wi_up, ↓wi_upB, ↓wi_cons, ↓wi_nil, ↓wi_op, ↓wi_opB, ↓wi_opL, ↓wi_if, ↓wi_and, ↓wi_or, ↓wi_not, ↓wi_B, ↓wi_call, ↓wi_callIO, ↓wi_here, ↓wi_app, ↓wi_pop, ↓wi_lc, ↓wLst_some, ↓w_and, ↓w_or, ↓w_not, ↓w_if, ↓w_bl, ↓w_B, ↓wT_bl, ↓w_andV, ↓w_orV, ↓w_notV, ↓w_chain, ↓w_opB, ↓w_op, ↓w_opL, ↓w_cons, ↓w_nil, ↓w_var, ↓w_c, ↓w_call, ↓w_callB, ↓w_meth, ↓w_make, ↓w_items, ↓w_range, ↓w_zip, ↓w_disp1, ↓w_lc, ↓wV_some, ↓wp_ix, ↓wp_var, ↓wPx_lst, ↓w_gN, ↓w_gT2, ↓w_gSub, ↓g_add, ↓g_sub, ↓g_mul, ↓g_div, ↓g_mod, ↓g_neg, ↓g_pow18, ↓g_ge, ↓g_gt, ↓g_lt, ↓g_le, ↓g_eq, ↓g_ne, ↓g_ixL, ↓g_ixT, ↓g_lenL, ↓g_lenT, ↓g_lenK, ↓g_int, ↓g_intB, ↓g_abs, ↓g_tup, ↓g_lst, ↓g_listS, ↓g_listL, ↓g_listT, ↓g_tupL, ↓g_tupT, ↓g_is, ↓g_isNot, ↓g_isN, ↓g_isNotN, ↓g_max2, ↓g_min2, ↓g_mulL, ↓g_addL, ↓g_sumL, ↓g_sumT, ↓atI_lit, ↓atI_nat, ↓ixN_lit, ↓ixN_nat, ↓wO_some, ↓w_ite, ↓wR_ok, id, List.getElem?_cons_zero, List.getElem?_cons_succ, List.length_cons, List.length_nil, List.length_map, List.length_set, List.set_cons_zero, List.set_cons_succ, deq_i, dok_i, deq_b, dok_b, dok_n, true_and, and_true, ↓w_lc2, ↓ws_fld, ↓wIns_some, ↓ws_dput, ↓wDk_int, ↓g_dnotin, ↓g_oB, ↓g_isiTT, ↓g_isiII, ↓g_isiIB, ↓keyD_int, ↓fld_rows, ↓mat_ix ho, ↓row_ix hatn, r, decide_true, if_true, look_seen, dq, Bool.not_false, List.length_replicate]
            rw [put_seen q]
            refine ⟨by rw [ez]; omega, by rw [ez]; omega, l2 ++ [o], td2 ++ [o], some (.int o), ?_, ⟨?_, ?_, ?_, by simp [hI2.le]⟩, by simp [hat2], ?_, ?_⟩
            · rw [show (List.map (fun i : Nat => D.int (i : Int)) td2 ++ [D.int (o : Int)]) = (td2 ++ [o]).map (fun i : Nat => D.int (i : Int)) from by rw [List.map_append]; rfl]
              rfl
            · exact List.nodup_append.mpr ⟨hI2.nd, by simp, fun x hx y hy e => by simp at hy; subst hy; subst e; exact q hx⟩
            · intro x hx
              rcases List.mem_append.mp hx with h | h
              · exact hI2.lt x h
              · simp at h; subst h; exact ho
            · intro x hx
              rcases List.mem_append.mp hx with h | h
              · exact List.mem_append_left _ (hI2.sub x h)
              · exact List.mem_append_right _ h
            · intro i hi hne'
              rcases Nat.lt_succ_iff_lt_or_eq.mp hi with h | rfl
              · exact List.mem_append_left _ (hall i h hne')
              · simp
            · rw [List.length_append, List.length_append, List.length_singleton]
              omega
        · rintro ρ ⟨l2, td2, o5, rfl, hI2, hat2, hall, hm⟩
          refine ⟨(n - l2.length) + td2.length, ?_, l2, td2, _, _, rfl, hI2, .inl fun i hi => ?_, rfl⟩
          · rw [hm, List.length_append, List.length_singleton]; omega
          · by_cases e : i = at_
            · rw [e]; exact hat2
            · exact hall i hi e
  · rintro ρ ⟨o1, o2, o3, o4, o5, rfl⟩
    simp only [↓ws_bind, ↓ws_if, ↓ws_set, ↓ws_sub, ↓ws_ret, ↓ws_drop, ↓ws_par, ↓ws_asg, ↓ws_nx, ↓ws_retN, ↓wi_up, ↓wi_upB, ↓wi_cons, ↓wi_nil, ↓wi_op, ↓wi_opB, ↓wi_opL, ↓wi_if, ↓wi_and, ↓wi_or, ↓wi_not, ↓wi_B, ↓wi_call, ↓wi_callIO, ↓wi_here, ↓wi_app, ↓wi_pop, ↓wi_lc, ↓wLst_some, ↓w_and, ↓w_or, ↓w_not, ↓w_if, ↓w_bl, ↓w_B, ↓wT_bl, ↓w_andV, ↓w_orV, ↓w_notV, ↓w_chain, ↓w_opB, ↓w_op, ↓w_opL, ↓w_cons, ↓w_nil, ↓w_var, ↓w_c, ↓w_call, ↓w_callB, ↓w_meth, ↓w_make, ↓w_items, ↓w_range, ↓w_zip, ↓w_disp1, ↓w_lc, ↓wV_some, ↓wp_ix, ↓wp_var, ↓wPx_lst, ↓w_gN, ↓w_gT2, ↓w_gSub, ↓g_add, ↓g_sub, ↓g_mul, ↓g_div, ↓g_mod, ↓g_neg, ↓g_pow18, ↓g_ge, ↓g_gt, ↓g_lt, ↓g_le, ↓g_eq, ↓g_ne, ↓g_ixL, ↓g_ixT, ↓g_lenL, ↓g_lenT, ↓g_lenK, ↓g_int, ↓g_intB, ↓g_abs, ↓g_tup, ↓g_lst, ↓g_listS, ↓g_listL, ↓g_listT, ↓g_tupL, ↓g_tupT, ↓g_is, ↓g_isNot, ↓g_isN, ↓g_isNotN, ↓g_max2, ↓g_min2, ↓g_mulL, ↓g_addL, ↓g_sumL, ↓g_sumT, ↓atI_lit, ↓atI_nat, ↓ixN_lit, ↓ixN_nat, ↓wO_some, ↓w_ite, ↓wR_ok, id, List.getElem?_cons_zero, List.getElem?_cons_succ, List.length_cons, List.length_nil, List.length_map, List.length_set, List.set_cons_zero, List.set_cons_succ, deq_i, dok_i, deq_b, dok_b, dok_n, true_and, and_true, ↓w_lc2, ↓ws_fld, ↓wIns_some, ↓ws_dput, ↓wDk_int, ↓g_dnotin, ↓g_oB, ↓g_isiTT, ↓g_isiII, ↓g_isiIB, ↓keyD_int]
end
end VL

set_option Elab.async false
set_option linter.all false
set_option maxRecDepth 100000
set_option maxHeartbeats 4000000
namespace VL
open PySem PySem.Spec PyProof.Rows L2
abbrev MW2 := Nat → Nat → Int × Int
def rowD (n : Nat) (W : MW2) (k : Nat) : D := .lst ((List.range (n + 1)).map fun j => pr (W k j))
def wk (n : Nat) (W : MW2) : D := .lst ((List.range n).map (rowD n W))
def swapW (W : MW2) (a b : Nat) : MW2 := fun k => if k = b then W a else if k = a then W b else W k
def turned (x : Int × Int) : Int × Int := if 0 < x.1 then (x.2, x.1) else (-x.2, -x.1)
def normW (W : MW2) (a : Nat) : MW2 := fun k j => if k = a then ftimes (W a j) (turned (W a a)) else W k j
def elimR (W : MW2) (a k j : Nat) : Int × Int := if k ≠ a ∧ (W k a).1 ≠ 0 then fplus (W k j) (ftimes (-(W k a).1, (W k a).2) (W a j)) else W k j
def elimW (W : MW2) (a : Nat) : MW2 := fun k j => elimR W a k j
def stepW (a k0 : Nat) (W : MW2) : MW2 := elimW (normW (swapW W a k0) a) a
theorem rng_set {α : Type} {n i : Nat} {f : Nat → α} {v : α} : ((List.range n).map f).set i v = (List.range n).map fun k => if k = i then v else f k := by
  apply List.ext_getElem?
  intro j
  by_cases q : i = j
  · subst q
    by_cases l : i < n
    · rw [List.getElem?_set_self (by simpa using l), rng_get l, if_pos rfl]
    · rw [List.getElem?_eq_none (by simp; omega), List.getElem?_eq_none (by simp; omega)]
  · rw [List.getElem?_set_ne q]
    by_cases l : j < n
    · rw [rng_get l, rng_get l, if_neg (Ne.symm q)]
    · rw [List.getElem?_eq_none (by simp; omega), List.getElem?_eq_none (by simp; omega)]
theorem rng_zip {α β : Type} {n : Nat} {f : Nat → α} {g : Nat → β} : ((List.range n).map f).zip ((List.range n).map g) = (List.range n).map fun i => (f i, g i) := by
  rw [List.zip_map']
theorem rng_snoc {n : Nat} {f : Nat → D} : (List.range n).map f ++ [f n] = (List.range (n + 1)).map f := by
  rw [List.range_succ, List.map_append]; rfl
theorem wk_ix {n k : Nat} {W : MW2} {Q : D → Prop} (h : k < n) : wO (gIx [wk n W, .int k]) Q = Q (rowD n W k) := by
  show wO (atI ((List.range n).map (rowD n W)) (k : Int)) Q = _
  rw [atI_nat, rng_get h]; rfl
theorem rowD_ix {n k j : Nat} {W : MW2} {Q : D → Prop} (h : j < n + 1) : wO (gIx [rowD n W k, .int j]) Q = Q (pr (W k j)) := by
  show wO (atI ((List.range (n + 1)).map fun j => pr (W k j)) (j : Int)) Q = _
  rw [atI_nat, rng_get h]; rfl
theorem pr_ix0 {x : Int × Int} {Q : D → Prop} : wO (gIx [pr x, .int 0]) Q = Q (.int x.1) := rfl
theorem pr_ix1 {x : Int × Int} {Q : D → Prop} : wO (gIx [pr x, .int 1]) Q = Q (.int x.2) := rfl
theorem wk_set {n k : Nat} {W W' : MW2} (h : ∀ i, i < n → ∀ j, j < n + 1 → W' i j = if i = k then W' k j else W i j) : D.lst (((List.range n).map (rowD n W)).set k (rowD n W' k)) = wk n W' := by
  unfold wk
  rw [rng_set]
  congr 1
  refine List.map_congr_left fun i hi => ?_
  have hi' := List.mem_range.mp hi
  by_cases q : i = k
  · rw [if_pos q, q]
  · rw [if_neg q]
    unfold rowD
    congr 1
    refine List.map_congr_left fun j hj => ?_
    rw [h i hi' j (List.mem_range.mp hj), if_neg q]
theorem turned_Bp {b : Nat} {x : Int × Int} (h : Bp b x) (h0 : x.1 ≠ 0) : Bp b (turned x) := by
  obtain ⟨h1, h2, h3⟩ := h
  unfold turned
  by_cases q : 0 < x.1
  · rw [if_pos q]; exact ⟨h2, h1, q⟩
  · rw [if_neg q]; exact ⟨by rw [Int.natAbs_neg]; exact h2, by rw [Int.natAbs_neg]; exact h1, by show 0 < -x.1; omega⟩
theorem wE_imp {f : Rho → Rs D} {ρ : Rho} {Q Q' : D → Prop} {E : Exn → Prop} (h : wE f ρ Q fun _ => False) (k : ∀ d, Q d → Q' d) : wE f ρ Q' E := by
  unfold wE wR at h ⊢
  cases e : f ρ with
  | ok d => rw [e] at h; exact k d h
  | err x => rw [e] at h; exact h.elim
  | bad => rw [e] at h; exact h
theorem wPx_at {ds : List D} {c : D → D} {k : Nat} {Q : D × (D → D) → Prop} (h : k < ds.length) : wPx (.lst ds, c) (.int (k : Int)) Q = Q (ds[k], fun d' => c (.lst (ds.set k d'))) := by
  rw [wPx_lst, ixN_nat, if_pos h, wO_some, List.getElem?_eq_getElem h, wO_some]
theorem swap_D {n a k0 : Nat} {W : MW2} : D.lst ((((List.range n).map (rowD n W)).set a (rowD n W k0)).set k0 (rowD n W a)) = wk n (swapW W a k0) := by
  rw [rng_set, rng_set]
  unfold wk
  congr 1
  refine List.map_congr_left fun k _ => ?_
  by_cases q : k = k0
  · rw [if_pos q]; unfold rowD swapW; rw [if_pos q]
  · rw [if_neg q]
    by_cases q2 : k = a
    · rw [if_pos q2]; unfold rowD swapW; rw [if_neg q, if_pos q2]
    · rw [if_neg q2]; unfold rowD swapW; rw [if_neg q, if_neg q2]
theorem filter_first {n i0 : Nat} {p : Nat → Bool} {r : List Nat} (h : (List.range n).filter p = i0 :: r) : i0 < n ∧ p i0 = true ∧ ∀ i, i < i0 → p i = false := by
  have hm : i0 ∈ (List.range n).filter p := by rw [h]; exact List.mem_cons_self
  have hm' := List.mem_filter.mp hm
  refine ⟨List.mem_range.mp hm'.1, hm'.2, fun i hi => ?_⟩
  cases q : p i with
  | false => rfl
  | true =>
    have hi' : i ∈ (List.range n).filter p := List.mem_filter.mpr ⟨List.mem_range.mpr (by have := List.mem_range.mp hm'.1; omega), q⟩
    have hs : ((List.range n).filter p).Pairwise (· < ·) := List.Pairwise.filter _ List.pairwise_lt_range
    rw [h] at hi' hs
    rcases List.mem_cons.mp hi' with e | e
    · omega
    · have := (List.pairwise_cons.mp hs).1 i e
      omega
section
variable {P : Program} {w : World} {K : PySem.W.Frag} {mg : Str → Option Value} {base : Heap} {n : Nat}
theorem solved_ok (T : Tx P w K mg base) (hn : n ≤ 12) {W0 : MW2} (b : Nat → Nat) (hb8 : ∀ a, a < n → 4 * b a + 1 ≤ 8000) (J : Nat → MW2 → Prop) (h0 : J 0 W0)
    (hb : ∀ a W, a ≤ n → J a W → ∀ k j, k < n → j < n + 1 → Bp (b a) (W k j))
    (hs : ∀ a W k0, a < n → J a W → a ≤ k0 → k0 < n → (W k0 a).1 ≠ 0 → (∀ k, a ≤ k → k < k0 → (W k a).1 = 0) → J (a + 1) (stepW a k0 W)) :
    (∃ a W, a < n ∧ J a W ∧ (∀ k, a ≤ k → k < n → (W k a).1 = 0) ∧ m_solved T [.lst ((List.range n).map fun k => .lst ((List.range n).map fun j => pr (W0 k j))), .lst ((List.range n).map fun k => pr (W0 k n))] = .ok .non) ∨
    ∃ W, J n W ∧ m_solved T [.lst ((List.range n).map fun k => .lst ((List.range n).map fun j => pr (W0 k j))), .lst ((List.range n).map fun k => pr (W0 k n))] = .ok (.tup ((List.range n).map fun k => pr (W k n))) := by
  have key : wS (f_solved T) (rho0 14 [.lst ((List.range n).map fun k => .lst ((List.range n).map fun j => pr (W0 k j))), .lst ((List.range n).map fun k => pr (W0 k n))]) ⟨fun _ => False, fun d _ => (d = .non ∧ ∃ a W, a < n ∧ J a W ∧ ∀ k, a ≤ k → k < n → (W k a).1 = 0) ∨ ∃ W, J n W ∧ d = .tup ((List.range n).map fun k => pr (W k n)), fun _ => False, fun _ => False, fun _ _ => False⟩ := by
    have ez : sizeLine = 16777216 := sizeLine_eq
    have e0 : rho0 14 [.lst ((List.range n).map fun k => .lst ((List.range n).map fun j => pr (W0 k j))), .lst ((List.range n).map fun k => pr (W0 k n))] = [some (.lst ((List.range n).map fun k => .lst ((List.range n).map fun j => pr (W0 k j)))), some (.lst ((List.range n).map fun k => pr (W0 k n))), none, none, none, none, none, none, none, none, none, none, none, none] := rfl
    rw [e0]
    generalize eA : D.lst ((List.range n).map fun k => .lst ((List.range n).map fun j => pr (W0 k j))) = A
    generalize eB : D.lst ((List.range n).map fun k => pr (W0 k n)) = B
    unfold f_solved
    rw [ws_bind, ws_set, wi_up]
    simp only [↓w_op, ↓w_cons, ↓w_nil, ↓w_var, ↓List.getElem?_cons_zero, ↓wV_some]
    rw [← eA, g_lenL, rng_len, eA]
    refine ⟨by simp, ?_⟩
    simp only [List.set_cons_succ, List.set_cons_zero]
    rw [ws_bind, ws_set, wi_up, w_lc, w_zip]
    simp only [↓w_var, ↓List.getElem?_cons_succ, ↓List.getElem?_cons_zero, ↓wV_some]
    rw [← eA, ← eB]
    dsimp only
    rw [rng_zip, List.map_map]
    refine ⟨by rw [rng_len, ez]; omega, ?_⟩
    refine wLc_all (g := rowD n W0) (fun k hk => ?_) ?_
    · simp only [Function.comp, ↓w_gT2, ↓w_gN]
      refine ⟨by simp [wipeR], by simp [wipeR], ?_⟩
      simp only [wipeR, ↓ws_bind, ↓ws_if, ↓ws_set, ↓ws_sub, ↓ws_ret, ↓ws_drop, ↓ws_par, ↓ws_asg, ↓ws_nx, ↓ws_retN, ↓wi_up, ↓wi_upB, ↓wi_cons, ↓wi_nil, ↓wi_op, ↓wi_opB, ↓wi_opL, ↓wi_if, ↓wi_and, ↓wi_or, ↓wi_not, ↓wi_B, ↓wi_call, ↓wi_callIO, ↓wi_here, ↓wi_app, ↓wi_pop, ↓wi_lc, ↓wLst_some, ↓w_and, ↓w_or, ↓w_not, ↓w_if, ↓w_bl, ↓w_B, ↓wT_bl, ↓w_andV, ↓w_orV, ↓w_notV, ↓w_chain, ↓w_opB, ↓w_op, ↓w_opL, ↓w_cons, ↓w_nil, ↓w_var, ↓w_c, ↓w_call, ↓w_callB, ↓w_meth, ↓w_make, ↓w_items, ↓w_range, ↓w_zip, ↓w_disp1, ↓w_lc, ↓wV_some, ↓wp_ix, ↓wp_var, ↓wPx_lst, ↓w_gN, ↓w_gT2, ↓w_gSub, ↓g_add, ↓g_sub, ↓g_mul, ↓g_div, ↓g_mod, ↓g_neg, ↓g_pow18, ↓g_ge, ↓g_gt, ↓g_lt, ↓g_le, ↓g_eq, ↓g_ne, ↓g_ixL, ↓g_ixT, ↓g_lenL, ↓g_lenT, ↓g_lenK, ↓g_int, ↓g_intB, ↓g_abs, ↓g_tup, ↓g_lst, ↓g_listS, ↓g_listL, ↓g_listT, ↓g_tupL, ↓g_tupT, ↓g_is, ↓g_isNot, ↓g_isN, ↓g_isNotN, ↓g_max2, ↓g_min2, ↓g_mulL, ↓g_addL, ↓g_sumL, ↓g_sumT, ↓atI_lit, ↓atI_nat, ↓ixN_lit, ↓ixN_nat, ↓wO_some, ↓w_ite, ↓wR_ok, id, List.getElem?_cons_zero, List.getElem?_cons_succ, List.length_cons, List.length_nil, List.length_map, List.length_set, List.set_cons_zero, List.set_cons_succ, deq_i, dok_i, deq_b, dok_b, dok_n, true_and, and_true, ↓w_lc2, ↓ws_fld, ↓wIns_some, ↓ws_dput, ↓wDk_int, ↓g_dnotin, ↓g_oB, ↓g_isiTT, ↓g_isiII, ↓g_isiIB, ↓keyD_int, List.length_range, List.length_map]
      refine ⟨by rw [ez]; omega, by rw [ez]; omega, ?_⟩
      unfold rowD
      rw [rng_snoc]
    rw [eA, eB]
    refine ⟨by simp, ?_⟩
    simp only [List.set_cons_succ, List.set_cons_zero]
    show wS _ [some A, some B, some (.int n), some (wk n W0), none, none, none, none, none, none, none, none, none, none] _
    rw [ws_bind]
    generalize hr : [some A, some B, some (D.int (n : Int)), some (wk n W0), none, none, none, none, none, none, none, none, none, none] = rr
    refine ws_forR n (fun a ρ => ∃ W o4 o5 o6 o7 o8 o9 o10 o11 o12 o13, ρ = [some A, some B, some (.int n), some (wk n W), o4, o5, o6, o7, o8, o9, o10, o11, o12, o13] ∧ J a W) ?_ ⟨W0, _, _, _, _, _, _, _, _, _, _, hr.symm, h0⟩ ?_ ?_
    · rw [← hr]
      simp only [↓ws_bind, ↓ws_if, ↓ws_set, ↓ws_sub, ↓ws_ret, ↓ws_drop, ↓ws_par, ↓ws_asg, ↓ws_nx, ↓ws_retN, ↓wi_up, ↓wi_upB, ↓wi_cons, ↓wi_nil, ↓wi_op, ↓wi_opB, ↓wi_opL, ↓wi_if, ↓wi_and, ↓wi_or, ↓wi_not, ↓wi_B, ↓wi_call, ↓wi_callIO, ↓wi_here, ↓wi_app, ↓wi_pop, ↓wi_lc, ↓wLst_some, ↓w_and, ↓w_or, ↓w_not, ↓w_if, ↓w_bl, ↓w_B, ↓wT_bl, ↓w_andV, ↓w_orV, ↓w_notV, ↓w_chain, ↓w_opB, ↓w_op, ↓w_opL, ↓w_cons, ↓w_nil, ↓w_var, ↓w_c, ↓w_call, ↓w_callB, ↓w_meth, ↓w_make, ↓w_items, ↓w_range, ↓w_zip, ↓w_disp1, ↓w_lc, ↓wV_some, ↓wp_ix, ↓wp_var, ↓wPx_lst, ↓w_gN, ↓w_gT2, ↓w_gSub, ↓g_add, ↓g_sub, ↓g_mul, ↓g_div, ↓g_mod, ↓g_neg, ↓g_pow18, ↓g_ge, ↓g_gt, ↓g_lt, ↓g_le, ↓g_eq, ↓g_ne, ↓g_ixL, ↓g_ixT, ↓g_lenL, ↓g_lenT, ↓g_lenK, ↓g_int, ↓g_intB, ↓g_abs, ↓g_tup, ↓g_lst, ↓g_listS, ↓g_listL, ↓g_listT, ↓g_tupL, ↓g_tupT, ↓g_is, ↓g_isNot, ↓g_isN, ↓g_isNotN, ↓g_max2, ↓g_min2, ↓g_mulL, ↓g_addL, ↓g_sumL, ↓g_sumT, ↓atI_lit, ↓atI_nat, ↓ixN_lit, ↓ixN_nat, ↓wO_some, ↓w_ite, ↓wR_ok, id, List.getElem?_cons_zero, List.getElem?_cons_succ, List.length_cons, List.length_nil, List.length_map, List.length_set, List.set_cons_zero, List.set_cons_succ, deq_i, dok_i, deq_b, dok_b, dok_n, true_and, and_true, ↓w_lc2, ↓ws_fld, ↓wIns_some, ↓ws_dput, ↓wDk_int, ↓g_dnotin, ↓g_oB, ↓g_isiTT, ↓g_isiII, ↓g_isiIB, ↓keyD_int]
      exact ⟨by omega, by rw [Int.toNat_natCast]⟩
    · rintro a ρ ha ⟨W, o4, o5, o6, o7, o8, o9, o10, o11, o12, o13, rfl, hJ⟩
      have bW := hb a W (by omega) hJ
      have b8 := hb8 a ha
      rw [w_gN]
      refine ⟨by simp, ?_⟩
      simp only [List.set_cons_succ, List.set_cons_zero]
      rw [ws_bind, ws_set, wi_up, w_lc, w_range]
      simp only [↓w_cons, ↓w_nil, ↓w_var, ↓List.getElem?_cons_succ, ↓List.getElem?_cons_zero, ↓wV_some]
      refine ⟨⟨by omega, by omega, by omega, by omega⟩, ?_⟩
      have en : ((n : Int) - (a : Int)).toNat = n - a := by omega
      rw [en, rng_map]
      refine ⟨by rw [rng_len, ez]; omega, ?_⟩
      refine wLc_xs (p := fun i => decide ((W (a + i) a).1 ≠ 0)) (g := fun i => .int ((a + i : Nat) : Int)) (fun i hi => ?_) ?_
      · have hi' : a + i < n := by have := List.mem_range.mp hi; omega
        have ec : (a : Int) + (i : Int) = ((a + i : Nat) : Int) := by omega
        rw [ec, w_gN]
        refine ⟨by simp [wipeR], ?_⟩
        simp only [wipeR, List.set_cons_succ, List.set_cons_zero]
        simp only [↓ws_bind, ↓ws_if, ↓ws_set, ↓ws_sub, ↓ws_ret, ↓ws_drop, ↓ws_par, ↓ws_asg, ↓ws_nx, ↓ws_retN, ↓wi_up, ↓wi_upB, ↓wi_cons, ↓wi_nil, ↓wi_op, ↓wi_opB, ↓wi_opL, ↓wi_if, ↓wi_and, ↓wi_or, ↓wi_not, ↓wi_B, ↓wi_call, ↓wi_callIO, ↓wi_here, ↓wi_app, ↓wi_pop, ↓wi_lc, ↓wLst_some, ↓w_and, ↓w_or, ↓w_not, ↓w_if, ↓w_bl, ↓w_B, ↓wT_bl, ↓w_andV, ↓w_orV, ↓w_notV, ↓w_chain, ↓w_opB, ↓w_op, ↓w_opL, ↓w_cons, ↓w_nil, ↓w_var, ↓w_c, ↓w_call, ↓w_callB, ↓w_meth, ↓w_make, ↓w_items, ↓w_range, ↓w_zip, ↓w_disp1, ↓w_lc, ↓wV_some, ↓wp_ix, ↓wp_var, ↓wPx_lst, ↓w_gN, ↓w_gT2, ↓w_gSub, ↓g_add, ↓g_sub, ↓g_mul, ↓g_div, ↓g_mod, ↓g_neg, ↓g_pow18, ↓g_ge, ↓g_gt, ↓g_lt, ↓g_le, ↓g_eq, ↓g_ne, ↓g_ixL, ↓g_ixT, ↓g_lenL, ↓g_lenT, ↓g_lenK, ↓g_int, ↓g_intB, ↓g_abs, ↓g_tup, ↓g_lst, ↓g_listS, ↓g_listL, ↓g_listT, ↓g_tupL, ↓g_tupT, ↓g_is, ↓g_isNot, ↓g_isN, ↓g_isNotN, ↓g_max2, ↓g_min2, ↓g_mulL, ↓g_addL, ↓g_sumL, ↓g_sumT, ↓atI_lit, ↓atI_nat, ↓ixN_lit, ↓ixN_nat, ↓wO_some, ↓w_ite, ↓wR_ok, id, List.getElem?_cons_zero, List.getElem?_cons_succ, List.length_cons, List.length_nil, List.length_map, List.length_set, List.set_cons_zero, List.set_cons_succ, deq_i, dok_i, deq_b, dok_b, dok_n, true_and, and_true, ↓w_lc2, ↓ws_fld, ↓wIns_some, ↓ws_dput, ↓wDk_int, ↓g_dnotin, ↓g_oB, ↓g_isiTT, ↓g_isiII, ↓g_isiIB, ↓keyD_int, ↓wk_ix hi', ↓rowD_ix (show a < n + 1 by omega), ↓pr_ix0]
        refine ⟨by simp, fun _ => trivial⟩
      · refine ⟨by simp, ?_⟩
        simp only [List.set_cons_succ, List.set_cons_zero]
        cases hL : (List.range (n - a)).filter fun i => decide ((W (a + i) a).1 ≠ 0) with
        | nil =>
          rw [List.map_nil, ws_bind, ws_if, wi_upB]
          have d0 : decide (((0 : Nat) : Int) = 0) = true := rfl
          simp only [↓ws_bind, ↓ws_if, ↓ws_set, ↓ws_sub, ↓ws_ret, ↓ws_drop, ↓ws_par, ↓ws_asg, ↓ws_nx, ↓ws_retN, ↓wi_up, ↓wi_upB, ↓wi_cons, ↓wi_nil, ↓wi_op, ↓wi_opB, ↓wi_opL, ↓wi_if, ↓wi_and, ↓wi_or, ↓wi_not, ↓wi_B, ↓wi_call, ↓wi_callIO, ↓wi_here, ↓wi_app, ↓wi_pop, ↓wi_lc, ↓wLst_some, ↓w_and, ↓w_or, ↓w_not, ↓w_if, ↓w_bl, ↓w_B, ↓wT_bl, ↓w_andV, ↓w_orV, ↓w_notV, ↓w_chain, ↓w_opB, ↓w_op, ↓w_opL, ↓w_cons, ↓w_nil, ↓w_var, ↓w_c, ↓w_call, ↓w_callB, ↓w_meth, ↓w_make, ↓w_items, ↓w_range, ↓w_zip, ↓w_disp1, ↓w_lc, ↓wV_some, ↓wp_ix, ↓wp_var, ↓wPx_lst, ↓w_gN, ↓w_gT2, ↓w_gSub, ↓g_add, ↓g_sub, ↓g_mul, ↓g_div, ↓g_mod, ↓g_neg, ↓g_pow18, ↓g_ge, ↓g_gt, ↓g_lt, ↓g_le, ↓g_eq, ↓g_ne, ↓g_ixL, ↓g_ixT, ↓g_lenL, ↓g_lenT, ↓g_lenK, ↓g_int, ↓g_intB, ↓g_abs, ↓g_tup, ↓g_lst, ↓g_listS, ↓g_listL, ↓g_listT, ↓g_tupL, ↓g_tupT, ↓g_is, ↓g_isNot, ↓g_isN, ↓g_isNotN, ↓g_max2, ↓g_min2, ↓g_mulL, ↓g_addL, ↓g_sumL, ↓g_sumT, ↓atI_lit, ↓atI_nat, ↓ixN_lit, ↓ixN_nat, ↓wO_some, ↓w_ite, ↓wR_ok, id, List.getElem?_cons_zero, List.getElem?_cons_succ, List.length_cons, List.length_nil, List.length_map, List.length_set, List.set_cons_zero, List.set_cons_succ, deq_i, dok_i, deq_b, dok_b, dok_n, true_and, and_true, ↓w_lc2, ↓ws_fld, ↓wIns_some, ↓ws_dput, ↓wDk_int, ↓g_dnotin, ↓g_oB, ↓g_isiTT, ↓g_isiII, ↓g_isiIB, ↓keyD_int, d0, if_true]
          refine .inl ⟨a, W, ha, hJ, fun k h1 h2 => ?_⟩
          refine Classical.byContradiction fun q => ?_
          have : k - a ∈ (List.range (n - a)).filter fun i => decide ((W (a + i) a).1 ≠ 0) := List.mem_filter.mpr ⟨List.mem_range.mpr (by omega), by
            have e : a + (k - a) = k := by omega
            rw [e]; exact decide_eq_true q⟩
          rw [hL] at this
          cases this
        | cons i0 rest =>
          obtain ⟨hi0, hp0, hmin⟩ := filter_first hL
          have hk0 : a + i0 < n := by omega
          have hz0 : (W (a + i0) a).1 ≠ 0 := of_decide_eq_true hp0
          have hJ2 := hs a W (a + i0) ha hJ (by omega) hk0 hz0 fun k h1 h2 => by
            have := hmin (k - a) (by omega)
            have e : a + (k - a) = k := by omega
            rw [e] at this
            have := of_decide_eq_false this
            exact Classical.byContradiction this
          generalize hk0e : a + i0 = k0 at *
          rw [List.map_cons, hk0e, ws_bind, ws_if, wi_upB]
          have d0 : decide (((((rest.map fun i => D.int ((a + i : Nat) : Int)).length + 1 : Nat)) : Int) = 0) = false := decide_eq_false (by omega)
          simp only [↓w_opB, ↓w_op, ↓w_cons, ↓w_nil, ↓w_var, ↓w_c, ↓List.getElem?_cons_succ, ↓List.getElem?_cons_zero, ↓wV_some, ↓g_lenL, ↓g_eq, List.length_cons, deq_i, dok_i, true_and, d0, Bool.false_eq_true, if_false, ↓ws_nx]
          generalize (rest.map fun i => D.int ((a + i : Nat) : Int)) = spots
          rw [ws_bind, ws_asg, wi_up]
          simp only [↓w_op, ↓w_cons, ↓w_nil, ↓w_var, ↓w_c, ↓List.getElem?_cons_succ, ↓List.getElem?_cons_zero, ↓wV_some, ↓g_ixL, ↓atI_lit, ↓wO_some]
          rw [wk_ix hk0, wk_ix ha, g_tup]
          refine ⟨by rw [ez]; simp, ?_⟩
          rw [w_gT2, w_gSub, wp_ix, wp_var]
          simp only [↓w_op, ↓w_cons, ↓w_nil, ↓w_var, ↓w_c, ↓List.getElem?_cons_succ, ↓List.getElem?_cons_zero, ↓wV_some]
          unfold wk
          rw [wPx_at (by rw [rng_len]; exact ha)]
          simp only [List.set_cons_succ, List.set_cons_zero, id]
          rw [w_gSub, wp_ix, wp_var]
          simp only [↓w_op, ↓w_cons, ↓w_nil, ↓w_var, ↓w_c, ↓List.getElem?_cons_succ, ↓List.getElem?_cons_zero, ↓wV_some, ↓g_ixL, ↓atI_lit, ↓wO_some]
          rw [wPx_at (by rw [List.length_set, rng_len]; exact hk0)]
          simp only [List.set_cons_succ, List.set_cons_zero, id]
          rw [swap_D]
          have bW1 : ∀ k j, k < n → j < n + 1 → Bp (b a) (swapW W a k0 k j) := fun k j hk hj => by
            unfold swapW
            by_cases q : k = k0
            · rw [if_pos q]; exact bW a j ha hj
            · rw [if_neg q]
              by_cases q2 : k = a
              · rw [if_pos q2]; exact bW k0 j hk0 hj
              · rw [if_neg q2]; exact bW k j hk hj
          have hp1 : (swapW W a k0 a a).1 ≠ 0 := by
            unfold swapW
            by_cases q : a = k0
            · rw [if_pos q]; rw [← q] at hz0; exact hz0
            · rw [if_neg q, if_pos rfl]; exact hz0
          have hJ3 : J (a + 1) (elimW (normW (swapW W a k0) a) a) := hJ2
          generalize swapW W a k0 = W1 at *
          rw [ws_bind, ws_asg, wi_up]
          simp only [↓w_op, ↓w_cons, ↓w_nil, ↓w_var, ↓w_c, ↓List.getElem?_cons_succ, ↓List.getElem?_cons_zero, ↓wV_some]
          rw [wk_ix ha, rowD_ix (by omega)]
          have ep : pr (W1 a a) = .tup [.int (W1 a a).1, .int (W1 a a).2] := rfl
          rw [ep, w_gT2, w_gN]
          refine ⟨by simp, ?_⟩
          simp only [List.set_cons_succ, List.set_cons_zero]
          rw [w_gN]
          refine ⟨by simp, ?_⟩
          simp only [List.set_cons_succ, List.set_cons_zero]
          rw [ws_bind, ws_set, wi_up]
          have et : wE (fIf (fOpB (fCons (eVar 6) (fCons (eC (.int 0)) (fun _ => .ok []))) gGt) (fOp (fCons (eVar 7) (fCons (eVar 6) (fun _ => .ok []))) gTupD) (fOp (fCons (fOp (fCons (eVar 7) (fun _ => .ok [])) gNeg) (fCons (fOp (fCons (eVar 6) (fun _ => .ok [])) gNeg) (fun _ => .ok []))) gTupD)) [some A, some B, some (.int n), some (wk n W1), some (.int a), some (.lst (.int (k0 : Int) :: spots)), some (.int (W1 a a).1), some (.int (W1 a a).2), o8, o9, o10, o11, o12, o13] (fun d => d = pr (turned (W1 a a))) (fun _ => False) := by
            by_cases q : 0 < (W1 a a).1
            · simp only [↓ws_bind, ↓ws_if, ↓ws_set, ↓ws_sub, ↓ws_ret, ↓ws_drop, ↓ws_par, ↓ws_asg, ↓ws_nx, ↓ws_retN, ↓wi_up, ↓wi_upB, ↓wi_cons, ↓wi_nil, ↓wi_op, ↓wi_opB, ↓wi_opL, ↓wi_if, ↓wi_and, ↓wi_or, ↓wi_not, ↓wi_B, ↓wi_call, ↓wi_callIO, ↓wi_here, ↓wi_app, ↓wi_pop, ↓wi_lc, ↓wLst_some, ↓w_and, ↓w_or, ↓w_not, ↓w_if, ↓w_bl, ↓w_B, ↓wT_bl, ↓w_andV, ↓w_orV, ↓w_notV, ↓w_chain, ↓w_opB, ↓w_op, ↓w_opL, ↓w_cons, ↓w_nil, ↓w_var, ↓w_c, ↓w_call, ↓w_callB, ↓w_meth, ↓w_make, ↓w_items, ↓w_range, ↓w_zip, ↓w_disp1, ↓w_lc, ↓wV_some, ↓wp_ix, ↓wp_var, ↓wPx_lst, ↓w_gN, ↓w_gT2, ↓w_gSub, ↓g_add, ↓g_sub, ↓g_mul, ↓g_div, ↓g_mod, ↓g_neg, ↓g_pow18, ↓g_ge, ↓g_gt, ↓g_lt, ↓g_le, ↓g_eq, ↓g_ne, ↓g_ixL, ↓g_ixT, ↓g_lenL, ↓g_lenT, ↓g_lenK, ↓g_int, ↓g_intB, ↓g_abs, ↓g_tup, ↓g_lst, ↓g_listS, ↓g_listL, ↓g_listT, ↓g_tupL, ↓g_tupT, ↓g_is, ↓g_isNot, ↓g_isN, ↓g_isNotN, ↓g_max2, ↓g_min2, ↓g_mulL, ↓g_addL, ↓g_sumL, ↓g_sumT, ↓atI_lit, ↓atI_nat, ↓ixN_lit, ↓ixN_nat, ↓wO_some, ↓w_ite, ↓wR_ok, id, List.getElem?_cons_zero, List.getElem?_cons_succ, List.length_cons, List.length_nil, List.length_map, List.length_set, List.set_cons_zero, List.set_cons_succ, deq_i, dok_i, deq_b, dok_b, dok_n, true_and, and_true, ↓w_lc2, ↓ws_fld, ↓wIns_some, ↓ws_dput, ↓wDk_int, ↓g_dnotin, ↓g_oB, ↓g_isiTT, ↓g_isiII, ↓g_isiIB, ↓keyD_int, q, decide_true, if_true]
              exact ⟨by rw [ez]; simp, by unfold turned; rw [if_pos q]; rfl⟩
            · simp only [↓ws_bind, ↓ws_if, ↓ws_set, ↓ws_sub, ↓ws_ret, ↓ws_drop, ↓ws_par, ↓ws_asg, ↓ws_nx, ↓ws_retN, ↓wi_up, ↓wi_upB, ↓wi_cons, ↓wi_nil, ↓wi_op, ↓wi_opB, ↓wi_opL, ↓wi_if, ↓wi_and, ↓wi_or, ↓wi_not, ↓wi_B, ↓wi_call, ↓wi_callIO, ↓wi_here, ↓wi_app, ↓wi_pop, ↓wi_lc, ↓wLst_some, ↓w_and, ↓w_or, ↓w_not, ↓w_if, ↓w_bl, ↓w_B, ↓wT_bl, ↓w_andV, ↓w_orV, ↓w_notV, ↓w_chain, ↓w_opB, ↓w_op, ↓w_opL, ↓w_cons, ↓w_nil, ↓w_var, ↓w_c, ↓w_call, ↓w_callB, ↓w_meth, ↓w_make, ↓w_items, ↓w_range, ↓w_zip, ↓w_disp1, ↓w_lc, ↓wV_some, ↓wp_ix, ↓wp_var, ↓wPx_lst, ↓w_gN, ↓w_gT2, ↓w_gSub, ↓g_add, ↓g_sub, ↓g_mul, ↓g_div, ↓g_mod, ↓g_neg, ↓g_pow18, ↓g_ge, ↓g_gt, ↓g_lt, ↓g_le, ↓g_eq, ↓g_ne, ↓g_ixL, ↓g_ixT, ↓g_lenL, ↓g_lenT, ↓g_lenK, ↓g_int, ↓g_intB, ↓g_abs, ↓g_tup, ↓g_lst, ↓g_listS, ↓g_listL, ↓g_listT, ↓g_tupL, ↓g_tupT, ↓g_is, ↓g_isNot, ↓g_isN, ↓g_isNotN, ↓g_max2, ↓g_min2, ↓g_mulL, ↓g_addL, ↓g_sumL, ↓g_sumT, ↓atI_lit, ↓atI_nat, ↓ixN_lit, ↓ixN_nat, ↓wO_some, ↓w_ite, ↓wR_ok, id, List.getElem?_cons_zero, List.getElem?_cons_succ, List.length_cons, List.length_nil, List.length_map, List.length_set, List.set_cons_zero, List.set_cons_succ, deq_i, dok_i, deq_b, dok_b, dok_n, true_and, and_true, ↓w_lc2, ↓ws_fld, ↓wIns_some, ↓ws_dput, ↓wDk_int, ↓g_dnotin, ↓g_oB, ↓g_isiTT, ↓g_isiII, ↓g_isiIB, ↓keyD_int, q, decide_false, Bool.false_eq_true, if_false]
              exact ⟨by rw [ez]; simp, by unfold turned; rw [if_neg q]; rfl⟩
          refine wE_imp et fun d hd => ?_
          subst hd
          refine ⟨by simp, ?_⟩
          simp only [List.set_cons_succ, List.set_cons_zero]
          rw [ws_bind, ws_sub, wi_up, w_lc, w_items]
          simp only [↓w_op, ↓w_cons, ↓w_nil, ↓w_var, ↓w_c, ↓List.getElem?_cons_succ, ↓List.getElem?_cons_zero, ↓wV_some]
          rw [wk_ix ha]
          unfold rowD
          dsimp only
          refine ⟨by rw [rng_len, ez]; omega, ?_⟩
          refine wLc_all (g := fun j => pr (ftimes (W1 a j) (turned (W1 a a)))) (fun j hj => ?_) ?_
          · have hj' := List.mem_range.mp hj
            rw [w_gN]
            refine ⟨by simp [wipeR], ?_⟩
            simp only [wipeR, List.set_cons_succ, List.set_cons_zero]
            rw [w_call]
            simp only [↓w_op, ↓w_cons, ↓w_nil, ↓w_var, ↓w_c, ↓List.getElem?_cons_succ, ↓List.getElem?_cons_zero, ↓wV_some]
            rw [times_ok T (bW1 a j ha hj') (turned_Bp (bW1 a a ha (by omega)) hp1) (by omega)]
            rfl
          rw [wp_ix, wp_var]
          simp only [↓w_op, ↓w_cons, ↓w_nil, ↓w_var, ↓w_c, ↓List.getElem?_cons_succ, ↓List.getElem?_cons_zero, ↓wV_some]
          unfold wk
          rw [wPx_at (by rw [rng_len]; exact ha)]
          simp only [List.set_cons_succ, List.set_cons_zero, id]
          have e2 : D.lst (((List.range n).map (rowD n W1)).set a (.lst ((List.range (n + 1)).map fun j => pr (ftimes (W1 a j) (turned (W1 a a)))))) = wk n (normW W1 a) := by
            have e3 : D.lst ((List.range (n + 1)).map fun j => pr (ftimes (W1 a j) (turned (W1 a a)))) = rowD n (normW W1 a) a := by
              unfold rowD normW
              simp only [if_true]
            rw [e3]
            exact wk_set fun i hi j hj => by
              unfold normW
              by_cases q : i = a
              · rw [if_pos q, if_pos q, if_pos rfl]
              · rw [if_neg q, if_neg q]
          rw [e2]
          have bW2 : ∀ k j, k < n → j < n + 1 → Bp (if k = a then 2 * b a else b a) (normW W1 a k j) := fun k j hk hj => by
            unfold normW
            by_cases q : k = a
            · rw [if_pos q, if_pos q]
              exact (ftimes_Bp (bW1 a j ha hj) (turned_Bp (bW1 a a ha (by omega)) hp1)).mono (by omega)
            · rw [if_neg q, if_neg q]
              exact bW1 k j hk hj
          generalize normW W1 a = W2 at *
          generalize hr2 : [some A, some B, some (D.int (n : Int)), some (wk n W2), some (D.int (a : Int)), some (D.lst (D.int (k0 : Int) :: spots)), some (D.int (W1 a a).1), some (D.int (W1 a a).2), some (pr (turned (W1 a a))), o9, o10, o11, o12, o13] = r2
          refine ws_forR n (fun k ρ => ∃ V o9 o10 o11 o12 o13, ρ = [some A, some B, some (.int n), some (wk n V), some (.int a), some (.lst (.int k0 :: spots)), some (.int (W1 a a).1), some (.int (W1 a a).2), some (pr (turned (W1 a a))), o9, o10, o11, o12, o13] ∧ ∀ i, i < n → ∀ j, j < n + 1 → V i j = if i < k then elimR W2 a i j else W2 i j) ?_ ⟨W2, _, _, _, _, _, hr2.symm, fun i _ j _ => by rw [if_neg (Nat.not_lt_zero _)]⟩ ?_ ?_
          · rw [← hr2]
            simp only [↓ws_bind, ↓ws_if, ↓ws_set, ↓ws_sub, ↓ws_ret, ↓ws_drop, ↓ws_par, ↓ws_asg, ↓ws_nx, ↓ws_retN, ↓wi_up, ↓wi_upB, ↓wi_cons, ↓wi_nil, ↓wi_op, ↓wi_opB, ↓wi_opL, ↓wi_if, ↓wi_and, ↓wi_or, ↓wi_not, ↓wi_B, ↓wi_call, ↓wi_callIO, ↓wi_here, ↓wi_app, ↓wi_pop, ↓wi_lc, ↓wLst_some, ↓w_and, ↓w_or, ↓w_not, ↓w_if, ↓w_bl, ↓w_B, ↓wT_bl, ↓w_andV, ↓w_orV, ↓w_notV, ↓w_chain, ↓w_opB, ↓w_op, ↓w_opL, ↓w_cons, ↓w_nil, ↓w_var, ↓w_c, ↓w_call, ↓w_callB, ↓w_meth, ↓w_make, ↓w_items, ↓w_range, ↓w_zip, ↓w_disp1, ↓w_lc, ↓wV_some, ↓wp_ix, ↓wp_var, ↓wPx_lst, ↓w_gN, ↓w_gT2, ↓w_gSub, ↓g_add, ↓g_sub, ↓g_mul, ↓g_div, ↓g_mod, ↓g_neg, ↓g_pow18, ↓g_ge, ↓g_gt, ↓g_lt, ↓g_le, ↓g_eq, ↓g_ne, ↓g_ixL, ↓g_ixT, ↓g_lenL, ↓g_lenT, ↓g_lenK, ↓g_int, ↓g_intB, ↓g_abs, ↓g_tup, ↓g_lst, ↓g_listS, ↓g_listL, ↓g_listT, ↓g_tupL, ↓g_tupT, ↓g_is, ↓g_isNot, ↓g_isN, ↓g_isNotN, ↓g_max2, ↓g_min2, ↓g_mulL, ↓g_addL, ↓g_sumL, ↓g_sumT, ↓atI_lit, ↓atI_nat, ↓ixN_lit, ↓ixN_nat, ↓wO_some, ↓w_ite, ↓wR_ok, id, List.getElem?_cons_zero, List.getElem?_cons_succ, List.length_cons, List.length_nil, List.length_map, List.length_set, List.set_cons_zero, List.set_cons_succ, deq_i, dok_i, deq_b, dok_b, dok_n, true_and, and_true, ↓w_lc2, ↓ws_fld, ↓wIns_some, ↓ws_dput, ↓wDk_int, ↓g_dnotin, ↓g_oB, ↓g_isiTT, ↓g_isiII, ↓g_isiIB, ↓keyD_int]
            exact ⟨by omega, by rw [Int.toNat_natCast]⟩
          · rintro k ρ hk ⟨V, o9, o10, o11, o12, o13, rfl, hV⟩
            have Vk : ∀ j, j < n + 1 → V k j = W2 k j := fun j hj => by rw [hV k hk j hj, if_neg (Nat.lt_irrefl _)]
            have Va : ∀ j, j < n + 1 → V a j = W2 a j := fun j hj => by
              rw [hV a ha j hj]
              by_cases q : a < k
              · rw [if_pos q]; unfold elimR; rw [if_neg (fun h => h.1 rfl)]
              · rw [if_neg q]
            have an : a < n + 1 := by omega
            have skip : (k = a ∨ (W2 k a).1 = 0) → ∀ i, i < n → ∀ j, j < n + 1 → V i j = if i < k + 1 then elimR W2 a i j else W2 i j := fun h i hi j hj => by
              rw [hV i hi j hj]
              by_cases q : i < k
              · rw [if_pos q, if_pos (by omega)]
              · by_cases q2 : i = k
                · subst q2
                  rw [if_neg q, if_pos (by omega)]
                  unfold elimR
                  rw [if_neg]
                  rintro ⟨h1, h2⟩
                  rcases h with h | h
                  · exact h1 h
                  · exact h2 h
                · rw [if_neg q, if_neg (by omega)]
            rw [w_gN]
            refine ⟨by simp, ?_⟩
            simp only [List.set_cons_succ, List.set_cons_zero]
            by_cases qk : k = a
            · have dk : decide ((k : Int) = (a : Int)) = true := decide_eq_true (by omega)
              simp only [↓ws_bind, ↓ws_if, ↓ws_set, ↓ws_sub, ↓ws_ret, ↓ws_drop, ↓ws_par, ↓ws_asg, ↓ws_nx, ↓ws_retN, ↓wi_up, ↓wi_upB, ↓wi_cons, ↓wi_nil, ↓wi_op, ↓wi_opB, ↓wi_opL, ↓wi_if, ↓wi_and, ↓wi_or, ↓wi_not, ↓wi_B, ↓wi_call, ↓wi_callIO, ↓wi_here, ↓wi_app, ↓wi_pop, ↓wi_lc, ↓wLst_some, ↓w_and, ↓w_or, ↓w_not, ↓w_if, ↓w_bl, ↓w_B, ↓wT_bl, ↓w_andV, ↓w_orV, ↓w_notV, ↓w_chain, ↓w_opB, ↓w_op, ↓w_opL, ↓w_cons, ↓w_nil, ↓w_var, ↓w_c, ↓w_call, ↓w_callB, ↓w_meth, ↓w_make, ↓w_items, ↓w_range, ↓w_zip, ↓w_disp1, ↓w_lc, ↓wV_some, ↓wp_ix, ↓wp_var, ↓wPx_lst, ↓w_gN, ↓w_gT2, ↓w_gSub, ↓g_add, ↓g_sub, ↓g_mul, ↓g_div, ↓g_mod, ↓g_neg, ↓g_pow18, ↓g_ge, ↓g_gt, ↓g_lt, ↓g_le, ↓g_eq, ↓g_ne, ↓g_ixL, ↓g_ixT, ↓g_lenL, ↓g_lenT, ↓g_lenK, ↓g_int, ↓g_intB, ↓g_abs, ↓g_tup, ↓g_lst, ↓g_listS, ↓g_listL, ↓g_listT, ↓g_tupL, ↓g_tupT, ↓g_is, ↓g_isNot, ↓g_isN, ↓g_isNotN, ↓g_max2, ↓g_min2, ↓g_mulL, ↓g_addL, ↓g_sumL, ↓g_sumT, ↓atI_lit, ↓atI_nat, ↓ixN_lit, ↓ixN_nat, ↓wO_some, ↓w_ite, ↓wR_ok, id, List.getElem?_cons_zero, List.getElem?_cons_succ, List.length_cons, List.length_nil, List.length_map, List.length_set, List.set_cons_zero, List.set_cons_succ, deq_i, dok_i, deq_b, dok_b, dok_n, true_and, and_true, ↓w_lc2, ↓ws_fld, ↓wIns_some, ↓ws_dput, ↓wDk_int, ↓g_dnotin, ↓g_oB, ↓g_isiTT, ↓g_isiII, ↓g_isiIB, ↓keyD_int, dk, Bool.not_true, Bool.false_eq_true, if_false]
              exact ⟨V, _, _, _, _, _, rfl, skip (.inl qk)⟩
            · have dk : decide ((k : Int) = (a : Int)) = false := decide_eq_false (by omega)
              by_cases qz : (W2 k a).1 = 0
              · have dz : decide ((V k a).1 = 0) = true := decide_eq_true (by rw [Vk a an]; exact qz)
                simp only [↓ws_bind, ↓ws_if, ↓ws_set, ↓ws_sub, ↓ws_ret, ↓ws_drop, ↓ws_par, ↓ws_asg, ↓ws_nx, ↓ws_retN, ↓wi_up, ↓wi_upB, ↓wi_cons, ↓wi_nil, ↓wi_op, ↓wi_opB, ↓wi_opL, ↓wi_if, ↓wi_and, ↓wi_or, ↓wi_not, ↓wi_B, ↓wi_call, ↓wi_callIO, ↓wi_here, ↓wi_app, ↓wi_pop, ↓wi_lc, ↓wLst_some, ↓w_and, ↓w_or, ↓w_not, ↓w_if, ↓w_bl, ↓w_B, ↓wT_bl, ↓w_andV, ↓w_orV, ↓w_notV, ↓w_chain, ↓w_opB, ↓w_op, ↓w_opL, ↓w_cons, ↓w_nil, ↓w_var, ↓w_c, ↓w_call, ↓w_callB, ↓w_meth, ↓w_make, ↓w_items, ↓w_range, ↓w_zip, ↓w_disp1, ↓w_lc, ↓wV_some, ↓wp_ix, ↓wp_var, ↓wPx_lst, ↓w_gN, ↓w_gT2, ↓w_gSub, ↓g_add, ↓g_sub, ↓g_mul, ↓g_div, ↓g_mod, ↓g_neg, ↓g_pow18, ↓g_ge, ↓g_gt, ↓g_lt, ↓g_le, ↓g_eq, ↓g_ne, ↓g_ixL, ↓g_ixT, ↓g_lenL, ↓g_lenT, ↓g_lenK, ↓g_int, ↓g_intB, ↓g_abs, ↓g_tup, ↓g_lst, ↓g_listS, ↓g_listL, ↓g_listT, ↓g_tupL, ↓g_tupT, ↓g_is, ↓g_isNot, ↓g_isN, ↓g_isNotN, ↓g_max2, ↓g_min2, ↓g_mulL, ↓g_addL, ↓g_sumL, ↓g_sumT, ↓atI_lit, ↓atI_nat, ↓ixN_lit, ↓ixN_nat, ↓wO_some, ↓w_ite, ↓wR_ok, id, List.getElem?_cons_zero, List.getElem?_cons_succ, List.length_cons, List.length_nil, List.length_map, List.length_set, List.set_cons_zero, List.set_cons_succ, deq_i, dok_i, deq_b, dok_b, dok_n, true_and, and_true, ↓w_lc2, ↓ws_fld, ↓wIns_some, ↓ws_dput, ↓wDk_int, ↓g_dnotin, ↓g_oB, ↓g_isiTT, ↓g_isiII, ↓g_isiIB, ↓keyD_int, dk, Bool.not_false, if_true, ↓wk_ix hk, ↓rowD_ix an, ↓pr_ix0, dz, Bool.not_true, Bool.false_eq_true, if_false]
                exact ⟨V, _, _, _, _, _, rfl, skip (.inr qz)⟩
              · have dz : decide ((V k a).1 = 0) = false := decide_eq_false (by rw [Vk a an]; exact qz)
                rw [ws_if, wi_upB]
                simp only [↓w_and, ↓w_opB, ↓w_op, ↓w_cons, ↓w_nil, ↓w_var, ↓w_c, ↓List.getElem?_cons_succ, ↓List.getElem?_cons_zero, ↓wV_some, ↓g_ne, deq_i, dok_i, true_and, dk, Bool.not_false, if_true, ↓wk_ix hk, ↓rowD_ix an, ↓pr_ix0, dz]
                rw [ws_bind, ws_set, wi_up]
                simp only [↓w_op, ↓w_cons, ↓w_nil, ↓w_var, ↓w_c, ↓List.getElem?_cons_succ, ↓List.getElem?_cons_zero, ↓wV_some, ↓wk_ix hk, ↓rowD_ix an, ↓pr_ix0, ↓pr_ix1, ↓g_neg, ↓g_tup]
                refine ⟨by rw [ez]; simp, by simp, ?_⟩
                simp only [List.set_cons_succ, List.set_cons_zero]
                rw [ws_sub, wi_up, w_lc, w_zip]
                simp only [↓w_op, ↓w_cons, ↓w_nil, ↓w_var, ↓w_c, ↓List.getElem?_cons_succ, ↓List.getElem?_cons_zero, ↓wV_some]
                rw [wk_ix hk, wk_ix ha]
                unfold rowD
                dsimp only
                rw [rng_zip, List.map_map]
                refine ⟨by rw [rng_len, ez]; omega, ?_⟩
                have bk := bW2 k
                rw [if_neg qk] at bk
                have ba := bW2 a
                rw [if_pos rfl] at ba
                have bm : Bp (b a) (-(V k a).1, (V k a).2) := by
                  rw [Vk a an]
                  obtain ⟨h1, h2, h3⟩ := bk a hk an
                  exact ⟨by show (-(W2 k a).1).natAbs < _; rw [Int.natAbs_neg]; exact h1, h2, h3⟩
                refine wLc_all (g := fun j => pr (elimR W2 a k j)) (fun j hj => ?_) ?_
                · have hj' := List.mem_range.mp hj
                  simp only [Function.comp]
                  rw [w_gT2, w_gN]
                  refine ⟨by simp [wipeR], ?_⟩
                  rw [w_gN]
                  refine ⟨by simp [wipeR], ?_⟩
                  simp only [wipeR, List.set_cons_succ, List.set_cons_zero]
                  rw [w_call]
                  simp only [↓w_op, ↓w_cons, ↓w_nil, ↓w_var, ↓w_c, ↓List.getElem?_cons_succ, ↓List.getElem?_cons_zero, ↓wV_some, ↓w_call]
                  have e5 : D.tup [.int (-(V k a).1), .int (V k a).2] = pr (-(V k a).1, (V k a).2) := rfl
                  have bj : Bp (2 * b a) (V a j) := by rw [Va j hj']; exact ba j ha hj'
                  have bkj : Bp (b a) (V k j) := by rw [Vk j hj']; exact bk j hk hj'
                  rw [e5, times_ok T bm bj (by omega), wR_ok, plus_ok T bkj (ftimes_Bp bm bj) (by omega), wR_ok]
                  unfold elimR
                  rw [if_pos ⟨qk, qz⟩, Vk j hj', Vk a an, Va j hj']
                rw [wp_ix, wp_var]
                simp only [↓w_op, ↓w_cons, ↓w_nil, ↓w_var, ↓w_c, ↓List.getElem?_cons_succ, ↓List.getElem?_cons_zero, ↓wV_some]
                unfold wk
                rw [wPx_at (by rw [rng_len]; exact hk)]
                simp only [List.set_cons_succ, List.set_cons_zero, id]
                refine ⟨fun i j => if i = k then elimR W2 a k j else V i j, some (.int k), some (.tup [.int (-(V k a).1), .int (V k a).2]), o11, o12, o13, ?_, fun i hi j hj => ?_⟩
                · have e6 : D.lst (((List.range n).map (rowD n V)).set k (.lst ((List.range (n + 1)).map fun j => pr (elimR W2 a k j)))) = wk n (fun i j => if i = k then elimR W2 a k j else V i j) := by
                    have e7 : D.lst ((List.range (n + 1)).map fun j => pr (elimR W2 a k j)) = rowD n (fun i j => if i = k then elimR W2 a k j else V i j) k := by
                      unfold rowD
                      simp only [if_true]
                    rw [e7]
                    exact wk_set fun i hi j hj => by simp only [if_true]
                  rw [e6]
                  rfl
                · dsimp only
                  by_cases q : i = k
                  · rw [if_pos q, if_pos (by omega), q]
                  · rw [if_neg q, hV i hi j hj]
                    by_cases q2 : i < k
                    · rw [if_pos q2, if_pos (by omega)]
                    · rw [if_neg q2, if_neg (by omega)]
          · rintro ρ ⟨V, o9, o10, o11, o12, o13, rfl, hV⟩
            refine ⟨elimW W2 a, some (.int a), some (.lst (.int k0 :: spots)), some (.int (W1 a a).1), some (.int (W1 a a).2), some (pr (turned (W1 a a))), o9, o10, o11, o12, o13, ?_, hJ3⟩
            have e8 : wk n V = wk n (elimW W2 a) := by
              unfold wk
              congr 1
              refine List.map_congr_left fun i hi => ?_
              unfold rowD
              congr 1
              refine List.map_congr_left fun j hj => ?_
              rw [hV i (List.mem_range.mp hi) j (List.mem_range.mp hj), if_pos (List.mem_range.mp hi)]; rfl
            rw [e8]
            rfl
    · rintro ρ ⟨W, o4, o5, o6, o7, o8, o9, o10, o11, o12, o13, rfl, hJ⟩
      dsimp only
      rw [ws_ret, wi_up, w_op, w_cons, w_lc, w_items, w_var]
      simp only [↓List.getElem?_cons_succ, ↓List.getElem?_cons_zero, ↓wV_some]
      unfold wk
      dsimp only
      refine ⟨by rw [rng_len, ez]; omega, ?_⟩
      refine wLc_all (g := fun k => pr (W k n)) (fun k hk => ?_) ?_
      · rw [w_gN]
        refine ⟨by simp [wipeR], ?_⟩
        simp only [wipeR, List.set_cons_succ, List.set_cons_zero]
        rw [w_op, w_cons, w_var]
        simp only [↓w_cons, ↓w_nil, ↓w_op, ↓w_c, ↓List.getElem?_cons_succ, ↓List.getElem?_cons_zero, ↓wV_some, ↓g_neg]
        unfold rowD
        show wO (atI ((List.range (n + 1)).map fun j => pr (W k j)) (-1)) _
        have e1 : atI ((List.range (n + 1)).map fun j => pr (W k j)) (-1) = some (pr (W k n)) := by
          unfold atI ixN
          rw [rng_len, if_neg (by omega), if_pos (by omega)]
          have : ((-1 : Int) + ((n + 1 : Nat) : Int)).toNat = n := by omega
          rw [this]
          show ((List.range (n + 1)).map fun j => pr (W k j))[n]? = _
          rw [rng_get (by omega)]
        rw [e1]; rfl
      · rw [w_nil, g_tupL]
        exact .inr ⟨W, hJ, rfl⟩
  unfold m_solved runP
  unfold wS wO' at key
  split at key
  · exact key.elim
  · rename_i d ρ' e
    rw [e]
    dsimp only at key ⊢
    rcases key with ⟨rfl, a, W, h1, h2, h3⟩ | ⟨W, h1, rfl⟩
    · exact .inl ⟨a, W, h1, h2, h3, rfl⟩
    · exact .inr ⟨W, h1, rfl⟩
  all_goals exact key.elim
end
end VL

set_option Elab.async false
set_option linter.all false
set_option maxRecDepth 100000
set_option maxHeartbeats 4000000
namespace VL
open PySem PySem.Spec PyProof.Rows L2
def halfW (n : Nat) (R : Nat → Nat → Int) : MW2 := fun k j => if j < n then (if k = j then (2 + (sumN n (R k) + sumN n fun i => R i k), 1) else (-(R k j + R j k), 1)) else low (2 + sumN n (R k) - sumN n fun i => R i k) 2
theorem sum_bound {n : Nat} {S : Nat → Int} : ∀ {m : Nat}, m ≤ n → (∀ i, i < n → 0 ≤ S i ∧ S i < 1024) → 0 ≤ sumN m S ∧ sumN m S ≤ 1024 * (m : Int)
  | 0, _, _ => ⟨Int.le_refl _, by show (0 : Int) ≤ _; omega⟩
  | m + 1, hm, h => by
    obtain ⟨h1, h2⟩ := sum_bound (m := m) (by omega) h
    have h3 := h m (by omega)
    unfold sumN
    omega
section
variable {P : Program} {w : World} {K : PySem.W.Frag} {mg : Str → Option Value} {base : Heap} {n : Nat} {R : Nat → Nat → Int} {S : Nat → Int}
theorem half_Bp (hn : n ≤ 12) (h0 : ∀ i j, i < n → j < n → 0 ≤ R i j ∧ R i j < 1024) {k j : Nat} (hk : k < n) : Bp 16 (halfW n R k j) := by
  have a := sum_bound (S := R k) (Nat.le_refl n) fun i hi => h0 k i hk hi
  have b := sum_bound (S := fun i => R i k) (Nat.le_refl n) fun i hi => h0 i k hi hk
  unfold halfW
  by_cases q : j < n
  · rw [if_pos q]
    by_cases q2 : k = j
    · rw [if_pos q2]
      refine ⟨?_, show (1 : Int).natAbs < 2 ^ 16 by decide, show (0 : Int) < 1 by decide⟩
      show (2 + (sumN n (R k) + sumN n fun i => R i k)).natAbs < 2 ^ 16
      omega
    · rw [if_neg q2]
      refine ⟨?_, show (1 : Int).natAbs < 2 ^ 16 by decide, show (0 : Int) < 1 by decide⟩
      have c := h0 k j hk q
      have d := h0 j k q hk
      show (-(R k j + R j k)).natAbs < 2 ^ 16
      omega
  · rw [if_neg q]
    exact low_Bp (by decide) (by omega) (by decide)
theorem half_ok (T : Tx P w K mg base) (hn : n ≤ 12) (h0 : ∀ i j, i < n → j < n → 0 ≤ R i j ∧ R i j < 1024) {r : D}
    (hs : m_solved T [.lst ((List.range n).map fun k => .lst ((List.range n).map fun j => pr (halfW n R k j))), .lst ((List.range n).map fun k => pr (halfW n R k n))] = .ok r) : m_by_half_wins T [cts T.C_Counts n R] = .ok r := by
  unfold m_by_half_wins
  refine runP_ok ?_
  have e0 : rho0 6 [cts T.C_Counts n R] = [some (cts T.C_Counts n R), none, none, none, none, none] := rfl
  have ez : sizeLine = 16777216 := sizeLine_eq
  rw [e0]
  unfold f_by_half_wins
  rw [ws_bind]
  simp only [↓ws_par, ↓wi_up, ↓w_opL, ↓w_nil, ↓g_lst, List.set_cons_succ, List.set_cons_zero, List.length_nil]
  refine ⟨by omega, by omega, by simp, ?_⟩
  rw [ws_bind]
  generalize hr : [some (cts T.C_Counts n R), some (D.lst []), some (D.lst []), none, none, none] = rr
  refine ws_forR n (fun k ρ => ∃ o3 o4 o5, ρ = [some (cts T.C_Counts n R), some (.lst ((List.range k).map fun k => .lst ((List.range n).map fun j => pr (halfW n R k j)))), some (.lst ((List.range k).map fun k => pr (halfW n R k n))), o3, o4, o5]) ?_ ⟨_, _, _, hr.symm⟩ ?_ ?_
  · rw [← hr]
    simp only [↓ws_bind, ↓ws_if, ↓ws_set, ↓ws_sub, ↓ws_ret, ↓ws_drop, ↓ws_par, ↓ws_asg, ↓ws_nx, ↓ws_retN, ↓wi_up, ↓wi_upB, ↓wi_cons, ↓wi_nil, ↓wi_op, ↓wi_opB, ↓wi_opL, ↓wi_if, ↓wi_and, ↓wi_or, ↓wi_not, ↓wi_B, ↓wi_call, ↓wi_callIO, ↓wi_here, ↓wi_app, ↓wi_pop, ↓wi_lc, ↓wLst_some, ↓w_and, ↓w_or, ↓w_not, ↓w_if, ↓w_bl, ↓w_B, ↓wT_bl, ↓w_andV, ↓w_orV, ↓w_notV, ↓w_chain, ↓w_opB, ↓w_op, ↓w_opL, ↓w_cons, ↓w_nil, ↓w_var, ↓w_c, ↓w_call, ↓w_callB, ↓w_meth, ↓w_make, ↓w_items, ↓w_range, ↓w_zip, ↓w_disp1, ↓w_lc, ↓wV_some, ↓wp_ix, ↓wp_var, ↓wPx_lst, ↓w_gN, ↓w_gT2, ↓w_gSub, ↓g_add, ↓g_sub, ↓g_mul, ↓g_div, ↓g_mod, ↓g_neg, ↓g_pow18, ↓g_ge, ↓g_gt, ↓g_lt, ↓g_le, ↓g_eq, ↓g_ne, ↓g_ixL, ↓g_ixT, ↓g_lenL, ↓g_lenT, ↓g_lenK, ↓g_int, ↓g_intB, ↓g_abs, ↓g_tup, ↓g_lst, ↓g_listS, ↓g_listL, ↓g_listT, ↓g_tupL, ↓g_tupT, ↓g_is, ↓g_isNot, ↓g_isN, ↓g_isNotN, ↓g_max2, ↓g_min2, ↓g_mulL, ↓g_addL, ↓g_sumL, ↓g_sumT, ↓atI_lit, ↓atI_nat, ↓ixN_lit, ↓ixN_nat, ↓wO_some, ↓w_ite, ↓wR_ok, id, List.getElem?_cons_zero, List.getElem?_cons_succ, List.length_cons, List.length_nil, List.length_map, List.length_set, List.set_cons_zero, List.set_cons_succ, deq_i, dok_i, deq_b, dok_b, dok_n, true_and, and_true, ↓w_lc2, ↓ws_fld, ↓wIns_some, ↓ws_dput, ↓wDk_int, ↓g_dnotin, ↓g_oB, ↓g_isiTT, ↓g_isiII, ↓g_isiIB, ↓keyD_int, ↓fld_size]
    exact ⟨by omega, by rw [Int.toNat_natCast]⟩
  · rintro k ρ hk ⟨o3, o4, o5, rfl⟩
    rw [w_gN]
    refine ⟨by simp, ?_⟩
    simp only [List.set_cons_succ, List.set_cons_zero]
    rw [ws_bind]
    simp only [↓ws_set, ↓wi_up, ↓w_op, ↓w_cons, ↓w_nil, ↓w_meth, ↓w_var, ↓List.getElem?_cons_succ, ↓List.getElem?_cons_zero, ↓wV_some, isC_cts s_wins, isC_cts s_losses, wins_ok T hk, losses_ok T hk hn, ↓wR_ok, ↓g_add, true_and, List.set_cons_succ, List.set_cons_zero]
    refine ⟨by simp, ?_⟩
    rw [ws_bind, ws_drop, wi_app]
    simp only [↓List.getElem?_cons_succ, ↓List.getElem?_cons_zero, ↓wLst_some]
    rw [wi_up, w_lc, w_range]
    simp only [↓w_op, ↓w_cons, ↓w_nil, ↓w_var, ↓List.getElem?_cons_succ, ↓List.getElem?_cons_zero, ↓wV_some, ↓fld_size]
    refine ⟨by omega, ?_⟩
    rw [Int.toNat_natCast, rng_map]
    refine ⟨by rw [rng_len, ez]; omega, ?_⟩
    refine wLc_all (g := fun j => pr (halfW n R k j)) (fun j hj => ?_) ?_
    · have hj' := List.mem_range.mp hj
      rw [Int.zero_add, w_gN]
      refine ⟨by simp [wipeR], ?_⟩
      simp only [wipeR, List.set_cons_succ, List.set_cons_zero]
      by_cases q : k = j
      · have dq : decide ((k : Int) = (j : Int)) = true := decide_eq_true (by omega)
        simp only [↓ws_bind, ↓ws_if, ↓ws_set, ↓ws_sub, ↓ws_ret, ↓ws_drop, ↓ws_par, ↓ws_asg, ↓ws_nx, ↓ws_retN, ↓wi_up, ↓wi_upB, ↓wi_cons, ↓wi_nil, ↓wi_op, ↓wi_opB, ↓wi_opL, ↓wi_if, ↓wi_and, ↓wi_or, ↓wi_not, ↓wi_B, ↓wi_call, ↓wi_callIO, ↓wi_here, ↓wi_app, ↓wi_pop, ↓wi_lc, ↓wLst_some, ↓w_and, ↓w_or, ↓w_not, ↓w_if, ↓w_bl, ↓w_B, ↓wT_bl, ↓w_andV, ↓w_orV, ↓w_notV, ↓w_chain, ↓w_opB, ↓w_op, ↓w_opL, ↓w_cons, ↓w_nil, ↓w_var, ↓w_c, ↓w_call, ↓w_callB, ↓w_meth, ↓w_make, ↓w_items, ↓w_range, ↓w_zip, ↓w_disp1, ↓w_lc, ↓wV_some, ↓wp_ix, ↓wp_var, ↓wPx_lst, ↓w_gN, ↓w_gT2, ↓w_gSub, ↓g_add, ↓g_sub, ↓g_mul, ↓g_div, ↓g_mod, ↓g_neg, ↓g_pow18, ↓g_ge, ↓g_gt, ↓g_lt, ↓g_le, ↓g_eq, ↓g_ne, ↓g_ixL, ↓g_ixT, ↓g_lenL, ↓g_lenT, ↓g_lenK, ↓g_int, ↓g_intB, ↓g_abs, ↓g_tup, ↓g_lst, ↓g_listS, ↓g_listL, ↓g_listT, ↓g_tupL, ↓g_tupT, ↓g_is, ↓g_isNot, ↓g_isN, ↓g_isNotN, ↓g_max2, ↓g_min2, ↓g_mulL, ↓g_addL, ↓g_sumL, ↓g_sumT, ↓atI_lit, ↓atI_nat, ↓ixN_lit, ↓ixN_nat, ↓wO_some, ↓w_ite, ↓wR_ok, id, List.getElem?_cons_zero, List.getElem?_cons_succ, List.length_cons, List.length_nil, List.length_map, List.length_set, List.set_cons_zero, List.set_cons_succ, deq_i, dok_i, deq_b, dok_b, dok_n, true_and, and_true, ↓w_lc2, ↓ws_fld, ↓wIns_some, ↓ws_dput, ↓wDk_int, ↓g_dnotin, ↓g_oB, ↓g_isiTT, ↓g_isiII, ↓g_isiIB, ↓keyD_int, dq, if_true]
        refine ⟨by rw [ez]; omega, ?_⟩
        unfold halfW
        rw [if_pos hj', if_pos q]; rfl
      · have dq : decide ((k : Int) = (j : Int)) = false := decide_eq_false (by omega)
        simp only [↓ws_bind, ↓ws_if, ↓ws_set, ↓ws_sub, ↓ws_ret, ↓ws_drop, ↓ws_par, ↓ws_asg, ↓ws_nx, ↓ws_retN, ↓wi_up, ↓wi_upB, ↓wi_cons, ↓wi_nil, ↓wi_op, ↓wi_opB, ↓wi_opL, ↓wi_if, ↓wi_and, ↓wi_or, ↓wi_not, ↓wi_B, ↓wi_call, ↓wi_callIO, ↓wi_here, ↓wi_app, ↓wi_pop, ↓wi_lc, ↓wLst_some, ↓w_and, ↓w_or, ↓w_not, ↓w_if, ↓w_bl, ↓w_B, ↓wT_bl, ↓w_andV, ↓w_orV, ↓w_notV, ↓w_chain, ↓w_opB, ↓w_op, ↓w_opL, ↓w_cons, ↓w_nil, ↓w_var, ↓w_c, ↓w_call, ↓w_callB, ↓w_meth, ↓w_make, ↓w_items, ↓w_range, ↓w_zip, ↓w_disp1, ↓w_lc, ↓wV_some, ↓wp_ix, ↓wp_var, ↓wPx_lst, ↓w_gN, ↓w_gT2, ↓w_gSub, ↓g_add, ↓g_sub, ↓g_mul, ↓g_div, ↓g_mod, ↓g_neg, ↓g_pow18, ↓g_ge, ↓g_gt, ↓g_lt, ↓g_le, ↓g_eq, ↓g_ne, ↓g_ixL, ↓g_ixT, ↓g_lenL, ↓g_lenT, ↓g_lenK, ↓g_int, ↓g_intB, ↓g_abs, ↓g_tup, ↓g_lst, ↓g_listS, ↓g_listL, ↓g_listT, ↓g_tupL, ↓g_tupT, ↓g_is, ↓g_isNot, ↓g_isN, ↓g_isNotN, ↓g_max2, ↓g_min2, ↓g_mulL, ↓g_addL, ↓g_sumL, ↓g_sumT, ↓atI_lit, ↓atI_nat, ↓ixN_lit, ↓ixN_nat, ↓wO_some, ↓w_ite, ↓wR_ok, id, List.getElem?_cons_zero, List.getElem?_cons_succ, List.length_cons, List.length_nil, List.length_map, List.length_set, List.set_cons_zero, List.set_cons_succ, deq_i, dok_i, deq_b, dok_b, dok_n, true_and, and_true, ↓w_lc2, ↓ws_fld, ↓wIns_some, ↓ws_dput, ↓wDk_int, ↓g_dnotin, ↓g_oB, ↓g_isiTT, ↓g_isiII, ↓g_isiIB, ↓keyD_int, dq, Bool.false_eq_true, if_false, isC_cts s_met, met_ok T hk hj']
        refine ⟨by rw [ez]; omega, ?_⟩
        unfold halfW
        rw [if_pos hj', if_neg q]; rfl
    simp only [↓List.getElem?_cons_succ, ↓List.getElem?_cons_zero, ↓wLst_some, List.length_map, List.length_range, List.set_cons_succ, List.set_cons_zero]
    refine ⟨by rw [ez]; omega, ?_⟩
    rw [ws_drop, wi_app]
    simp only [↓List.getElem?_cons_succ, ↓List.getElem?_cons_zero, ↓wLst_some]
    have a := sum_bound (S := R k) (Nat.le_refl n) fun i hi => h0 k i hk hi
    have b := sum_bound (S := fun i => R i k) (Nat.le_refl n) fun i hi => h0 i k hi hk
    have bt : (2 + sumN n (R k) - sumN n fun i => R i k).natAbs < 2 ^ 16 := by omega
    simp only [↓wi_up, ↓w_call, ↓w_op, ↓w_cons, ↓w_nil, ↓w_c, ↓w_meth, ↓w_var, ↓List.getElem?_cons_succ, ↓List.getElem?_cons_zero, ↓wV_some, isC_cts s_wins, isC_cts s_losses, wins_ok T hk, losses_ok T hk hn, ↓wR_ok, ↓g_add, ↓g_sub, true_and]
    rw [lowest_ok T (by decide) (pow_BB bt (by omega)) (pow_BB (k := 16) (by decide) (by omega)), wR_ok]
    simp only [↓List.getElem?_cons_succ, ↓List.getElem?_cons_zero, ↓wLst_some, List.length_map, List.length_range, List.set_cons_succ, List.set_cons_zero]
    refine ⟨by rw [ez]; omega, some (.int k), some (.int (sumN n (R k) + sumN n fun i => R i k)), o5, ?_⟩
    have e1 : (List.range k).map (fun k => D.lst ((List.range n).map fun j => pr (halfW n R k j))) ++ [D.lst ((List.range n).map fun j => pr (halfW n R k j))] = (List.range (k + 1)).map fun k => D.lst ((List.range n).map fun j => pr (halfW n R k j)) := rng_snoc (f := fun k => D.lst ((List.range n).map fun j => pr (halfW n R k j)))
    have e2 : (List.range k).map (fun k => pr (halfW n R k n)) ++ [pr (low (2 + sumN n (R k) - sumN n fun i => R i k) 2)] = (List.range (k + 1)).map fun k => pr (halfW n R k n) := by
      have : low (2 + sumN n (R k) - sumN n fun i => R i k) 2 = halfW n R k n := by
        unfold halfW
        rw [if_neg (Nat.lt_irrefl n)]
      rw [this]
      exact rng_snoc (f := fun k => pr (halfW n R k n))
    rw [e1, e2]
  · rintro ρ ⟨o3, o4, o5, rfl⟩
    simp only [↓ws_ret, ↓wi_up, ↓w_call, ↓w_cons, ↓w_nil, ↓w_var, ↓List.getElem?_cons_succ, ↓List.getElem?_cons_zero, ↓wV_some]
    rw [hs]; rfl
def bb : Nat → Nat
  | 0 => 16
  | a + 1 => 4 * bb a + 1
theorem step_Bp {b a k0 : Nat} {W : MW2} (ha : a < n) (hk0 : k0 < n) (h : ∀ k j, k < n → j < n + 1 → Bp b (W k j)) (h1 : (W k0 a).1 ≠ 0) : ∀ k j, k < n → j < n + 1 → Bp (4 * b + 1) (stepW a k0 W k j) := by
  have bW1 : ∀ k j, k < n → j < n + 1 → Bp b (swapW W a k0 k j) := fun k j hk hj => by
    unfold swapW
    by_cases q : k = k0
    · rw [if_pos q]; exact h a j ha hj
    · rw [if_neg q]
      by_cases q2 : k = a
      · rw [if_pos q2]; exact h k0 j hk0 hj
      · rw [if_neg q2]; exact h k j hk hj
  have hp1 : (swapW W a k0 a a).1 ≠ 0 := by
    unfold swapW
    by_cases q : a = k0
    · rw [if_pos q]; rw [← q] at h1; exact h1
    · rw [if_neg q, if_pos rfl]; exact h1
  unfold stepW
  generalize swapW W a k0 = W1 at *
  have bW2 : ∀ k j, k < n → j < n + 1 → Bp (if k = a then 2 * b else b) (normW W1 a k j) := fun k j hk hj => by
    unfold normW
    by_cases q : k = a
    · rw [if_pos q, if_pos q]
      exact (ftimes_Bp (bW1 a j ha hj) (turned_Bp (bW1 a a ha (by omega)) hp1)).mono (by omega)
    · rw [if_neg q, if_neg q]
      exact bW1 k j hk hj
  generalize normW W1 a = W2 at *
  intro k j hk hj
  unfold elimW elimR
  by_cases q : k ≠ a ∧ (W2 k a).1 ≠ 0
  · rw [if_pos q]
    have bk := bW2 k
    rw [if_neg q.1] at bk
    have ba := bW2 a
    rw [if_pos rfl] at ba
    have bm : Bp b (-(W2 k a).1, (W2 k a).2) := by
      obtain ⟨g1, g2, g3⟩ := bk a hk (by omega)
      exact ⟨by show (-(W2 k a).1).natAbs < _; rw [Int.natAbs_neg]; exact g1, g2, g3⟩
    exact (fplus_Bp (bk j hk hj) (ftimes_Bp bm (ba j ha hj))).mono (by omega)
  · rw [if_neg q]
    exact (bW2 k j hk hj).mono (by split <;> omega)
theorem bb8 {a : Nat} (h : a < 4) : 4 * bb a + 1 ≤ 8000 := by
  match a, h with
  | 0, _ => decide
  | 1, _ => decide
  | 2, _ => decide
  | 3, _ => decide
/-- half_wins runs, whatever it gives -/
theorem half_runs (T : Tx P w K mg base) (hn : n ≤ 4) (h0 : ∀ i j, i < n → j < n → 0 ≤ R i j ∧ R i j < 1024) : ∃ r, m_by_half_wins T [cts T.C_Counts n R] = .ok r := by
  rcases solved_ok T (n := n) (W0 := halfW n R) (by omega) bb (fun a ha => bb8 (by omega)) (fun a W => ∀ k j, k < n → j < n + 1 → Bp (bb a) (W k j)) (fun k j hk hj => half_Bp (by omega) h0 hk) (fun a W _ h => h)
    (fun a W k0 ha h _ hk0 h1 _ => step_Bp ha hk0 h h1) with ⟨_, _, _, _, _, e⟩ | ⟨W, _, e⟩
  · exact ⟨_, half_ok T (by omega) h0 e⟩
  · exact ⟨_, half_ok T (by omega) h0 e⟩
end
end VL

set_option Elab.async false
set_option linter.all false
set_option maxRecDepth 100000
set_option maxHeartbeats 4000000
namespace VL
open PySem PySem.Spec PyProof.Rows L2
def val (x : Int × Int) : Rat := (x.1 : Rat) / (x.2 : Rat)
theorem cast_ne {i : Int} (h : i ≠ 0) : (i : Rat) ≠ 0 := by
  intro e
  exact h (by exact_mod_cast e)
theorem val_low {t b : Int} (hb : 0 < b) : val (low t b) = (t : Rat) / (b : Rat) := by
  obtain ⟨g, g0, e1, e2⟩ := low_spec (t := t) hb
  have h1 : ((low t b).1 : Rat) * (g : Rat) = (t : Rat) := by rw [← Rat.intCast_mul, e1]
  have h2 : ((low t b).2 : Rat) * (g : Rat) = (b : Rat) := by rw [← Rat.intCast_mul, e2]
  have n1 := cast_ne (show g ≠ 0 by omega)
  have n2 := cast_ne (show (low t b).2 ≠ 0 from by have := low_pos (t := t) hb; omega)
  unfold val
  rw [← h1, ← h2]
  grind
theorem val_plus {x y : Int × Int} (hx : 0 < x.2) (hy : 0 < y.2) : val (fplus x y) = val x + val y := by
  unfold fplus
  rw [val_low (Int.mul_pos hx hy), Rat.intCast_add, Rat.intCast_mul, Rat.intCast_mul, Rat.intCast_mul]
  have n1 := cast_ne (show x.2 ≠ 0 by omega)
  have n2 := cast_ne (show y.2 ≠ 0 by omega)
  unfold val
  grind
theorem val_times {x y : Int × Int} (hx : 0 < x.2) (hy : 0 < y.2) : val (ftimes x y) = val x * val y := by
  unfold ftimes
  rw [val_low (Int.mul_pos hx hy), Rat.intCast_mul, Rat.intCast_mul]
  have n1 := cast_ne (show x.2 ≠ 0 by omega)
  have n2 := cast_ne (show y.2 ≠ 0 by omega)
  unfold val
  grind
theorem val_turned {x : Int × Int} (hx : 0 < x.2) (h0 : x.1 ≠ 0) : val (turned x) * val x = 1 := by
  have n1 := cast_ne h0
  have n2 := cast_ne (show x.2 ≠ 0 by omega)
  unfold turned
  split
  · unfold val
    grind
  · unfold val
    dsimp only
    rw [Rat.intCast_neg, Rat.intCast_neg]
    grind
theorem val_neg {p q : Int} : val (-p, q) = - val (p, q) := by
  unfold val
  dsimp only
  rw [Rat.intCast_neg]
  grind
theorem val_zero {x : Int × Int} (h : x.1 = 0) : val x = 0 := by
  unfold val
  rw [h]
  grind
theorem val_ne {x : Int × Int} (h : val x ≠ 0) : x.1 ≠ 0 := fun e => h (val_zero e)
theorem val_lt {x y : Int × Int} (hx : 0 < x.2) (hy : 0 < y.2) : val x < val y ↔ x.1 * y.2 < y.1 * x.2 := by
  have n1 := cast_ne (show x.2 ≠ 0 by omega)
  have n2 := cast_ne (show y.2 ≠ 0 by omega)
  have p1 : (0 : Rat) < (x.2 : Rat) := by exact_mod_cast hx
  have p2 : (0 : Rat) < (y.2 : Rat) := by exact_mod_cast hy
  have e1 : val x * ((x.2 : Rat) * (y.2 : Rat)) = (x.1 : Rat) * (y.2 : Rat) := by unfold val; grind
  have e2 : val y * ((x.2 : Rat) * (y.2 : Rat)) = (y.1 : Rat) * (x.2 : Rat) := by unfold val; grind
  have pp : (0 : Rat) < (x.2 : Rat) * (y.2 : Rat) := Rat.mul_pos p1 p2
  constructor
  · intro h
    have := Rat.mul_lt_mul_of_pos_right h pp
    rw [e1, e2, ← Rat.intCast_mul, ← Rat.intCast_mul] at this
    exact_mod_cast this
  · intro h
    have h' : (x.1 : Rat) * (y.2 : Rat) < (y.1 : Rat) * (x.2 : Rat) := by
      rw [← Rat.intCast_mul, ← Rat.intCast_mul]; exact_mod_cast h
    rw [← e1, ← e2] at h'
    exact Rat.lt_of_mul_lt_mul_right h' (Rat.le_of_lt pp)
theorem swap_self {W : MW2} {a : Nat} : swapW W a a = W := by
  funext k
  unfold swapW
  by_cases q : k = a
  · rw [if_pos q, q]
  · rw [if_neg q, if_neg q]
theorem step_piv {W : MW2} {a j : Nat} (h1 : 0 < (W a j).2) (h2 : 0 < (W a a).2) (h3 : (W a a).1 ≠ 0) : val (stepW a a W a j) = val (W a j) * val (turned (W a a)) ∧ 0 < (stepW a a W a j).2 := by
  have e : stepW a a W a j = ftimes (W a j) (turned (W a a)) := by
    unfold stepW elimW elimR normW
    rw [swap_self, if_neg (fun h => h.1 rfl), if_pos rfl]
  have ht : 0 < (turned (W a a)).2 := by
    unfold turned
    split
    · assumption
    · show 0 < -(W a a).1; omega
  rw [e]
  exact ⟨val_times h1 ht, low_pos (Int.mul_pos h1 ht)⟩
theorem step_oth {W : MW2} {a k j : Nat} (hk : k ≠ a) (h0 : 0 < (W k j).2) (h1 : 0 < (W a j).2) (h2 : 0 < (W a a).2) (h3 : (W a a).1 ≠ 0) (h4 : 0 < (W k a).2) : val (stepW a a W k j) = val (W k j) - val (W k a) * (val (W a j) * val (turned (W a a))) ∧ 0 < (stepW a a W k j).2 := by
  have ht : 0 < (turned (W a a)).2 := by
    unfold turned
    split
    · assumption
    · show 0 < -(W a a).1; omega
  have e : stepW a a W k j = if (W k a).1 ≠ 0 then fplus (W k j) (ftimes (-(W k a).1, (W k a).2) (ftimes (W a j) (turned (W a a)))) else W k j := by
    unfold stepW elimW elimR normW
    rw [swap_self, if_neg hk, if_neg hk, if_pos rfl]
    simp only [hk, ne_eq, not_false_eq_true, true_and]
  have hp : 0 < (ftimes (W a j) (turned (W a a))).2 := low_pos (Int.mul_pos h1 ht)
  rw [e]
  by_cases q : (W k a).1 = 0
  · rw [if_neg (fun h => h q), val_zero q]
    exact ⟨by grind, h0⟩
  · rw [if_pos q]
    have hm : 0 < (ftimes (-(W k a).1, (W k a).2) (ftimes (W a j) (turned (W a a)))).2 := low_pos (Int.mul_pos h4 hp)
    refine ⟨?_, low_pos (Int.mul_pos h0 hm)⟩
    rw [val_plus h0 hm, val_times (x := (-(W k a).1, (W k a).2)) h4 hp, val_times h1 ht, val_neg]
    grind
section
variable {P : Program} {w : World} {K : PySem.W.Frag} {mg : Str → Option Value} {base : Heap} {R : Nat → Nat → Int}
theorem half2 (T : Tx P w K mg base) (h0 : ∀ i j, i < 2 → j < 2 → 0 ≤ R i j ∧ R i j < 1024) (hd : ∀ i, i < 2 → R i i = 0) (p01 : 0 < R 0 1) (p10 : 0 < R 1 0) :
    ∃ x y : Int × Int, m_by_half_wins T [cts T.C_Counts 2 R] = .ok (.tup [pr x, pr y]) ∧ Bp 300 x ∧ Bp 300 y ∧ (y.1 * x.2 < x.1 * y.2 ↔ R 1 0 < R 0 1) := by
  let W0 := halfW 2 R
  let W1 := stepW 0 0 W0
  let W2 := stepW 1 1 W1
  have B0 : ∀ k j, k < 2 → j < 3 → Bp 16 (W0 k j) := fun k j hk hj => half_Bp (by omega) h0 hk
  have d0 := hd 0 (by omega)
  have d1 := hd 1 (by omega)
  have w00 : W0 0 0 = (2 + (R 0 1 + R 1 0), 1) := by
    show (2 + ((0 + R 0 0 + R 0 1) + (0 + R 0 0 + R 1 0)), (1 : Int)) = _
    rw [d0]; simp
  have w11 : W0 1 1 = (2 + (R 0 1 + R 1 0), 1) := by
    show (2 + ((0 + R 1 0 + R 1 1) + (0 + R 0 1 + R 1 1)), (1 : Int)) = _
    rw [d1]; simp; omega
  have w01 : W0 0 1 = (-(R 0 1 + R 1 0), 1) := rfl
  have w10 : W0 1 0 = (-(R 1 0 + R 0 1), 1) := rfl
  have w02 : W0 0 2 = low (2 + R 0 1 - R 1 0) 2 := by
    show low (2 + (0 + R 0 0 + R 0 1) - (0 + R 0 0 + R 1 0)) 2 = _
    rw [d0]; simp
  have w12 : W0 1 2 = low (2 + R 1 0 - R 0 1) 2 := by
    show low (2 + (0 + R 1 0 + R 1 1) - (0 + R 0 1 + R 1 1)) 2 = _
    rw [d1]; simp
  have n00 : (W0 0 0).1 ≠ 0 := by rw [w00]; show 2 + (R 0 1 + R 1 0) ≠ 0; omega
  have q0 : ∀ k j, k < 2 → j < 3 → 0 < (W0 k j).2 := fun k j hk hj => (B0 k j hk hj).2.2
  -- values behind the first turn
  have t0 := val_turned (q0 0 0 (by omega) (by omega)) n00
  have a1 := step_piv (W := W0) (a := 0) (j := 1) (q0 0 1 (by omega) (by omega)) (q0 0 0 (by omega) (by omega)) n00
  have a2 := step_piv (W := W0) (a := 0) (j := 2) (q0 0 2 (by omega) (by omega)) (q0 0 0 (by omega) (by omega)) n00
  have b1 := step_oth (W := W0) (a := 0) (k := 1) (j := 1) (by omega) (q0 1 1 (by omega) (by omega)) (q0 0 1 (by omega) (by omega)) (q0 0 0 (by omega) (by omega)) n00 (q0 1 0 (by omega) (by omega))
  have b2 := step_oth (W := W0) (a := 0) (k := 1) (j := 2) (by omega) (q0 1 2 (by omega) (by omega)) (q0 0 2 (by omega) (by omega)) (q0 0 0 (by omega) (by omega)) n00 (q0 1 0 (by omega) (by omega))
  let t : Rat := ((R 0 1 + R 1 0 : Int) : Rat)
  have tp : (0 : Rat) < t := by
    show (0 : Rat) < ((R 0 1 + R 1 0 : Int) : Rat)
    exact_mod_cast (by omega : 0 < R 0 1 + R 1 0)
  have v00 : val (W0 0 0) = 2 + t := by
    rw [w00]; unfold val; dsimp only
    rw [Rat.intCast_add]; show (((2 : Int) : Rat) + t) / ((1 : Int) : Rat) = 2 + t
    grind
  have v11 : val (W0 1 1) = 2 + t := by rw [w11, ← w00]; exact v00
  have v01 : val (W0 0 1) = -t := by
    rw [w01]; unfold val; dsimp only
    rw [Rat.intCast_neg]; show (-t) / ((1 : Int) : Rat) = -t
    grind
  have v10 : val (W0 1 0) = -t := by
    have : W0 1 0 = W0 0 1 := by rw [w10, w01, Int.add_comm]
    rw [this]; exact v01
  let g0 := val (W0 0 2)
  let g1 := val (W0 1 2)
  let p := val (turned (W0 0 0))
  have hp : p * (2 + t) = 1 := by rw [← v00]; exact t0
  have c01 : val (W1 0 1) = -t * p := by show val (stepW 0 0 W0 0 1) = _; rw [a1.1, v01]
  have c02 : val (W1 0 2) = g0 * p := a2.1
  have c11 : val (W1 1 1) = 2 + t - t * (t * p) := by show val (stepW 0 0 W0 1 1) = _; rw [b1.1, v11, v10, v01]; grind
  have c12 : val (W1 1 2) = g1 + t * (g0 * p) := by show val (stepW 0 0 W0 1 2) = _; rw [b2.1, v10]; grind
  have e11 : val (W1 1 1) * (2 + t) = 4 * (1 + t) := by
    rw [c11]
    have : (2 + t - t * (t * p)) * (2 + t) = (2 + t) * (2 + t) - t * t * (p * (2 + t)) := by grind
    rw [this, hp]; grind
  have n11 : (W1 1 1).1 ≠ 0 := val_ne fun z => by
    rw [z] at e11
    have : (0 : Rat) < 4 * (1 + t) := by grind
    grind
  have r1 := b1.2
  have r2 := b2.2
  have r3 := a1.2
  have r4 := a2.2
  have t1 := val_turned r1 n11
  have f1 := step_piv (W := W1) (a := 1) (j := 2) r2 r1 n11
  have f0 := step_oth (W := W1) (a := 1) (k := 0) (j := 2) (by omega) r4 r2 r1 n11 r3
  let s := val (turned (W1 1 1))
  have hs : s * val (W1 1 1) = 1 := t1
  have z1 : val (W2 1 2) = (g1 + t * (g0 * p)) * s := by show val (stepW 1 1 W1 1 2) = _; rw [f1.1, c12]
  have z0 : val (W2 0 2) = g0 * p + t * p * ((g1 + t * (g0 * p)) * s) := by show val (stepW 1 1 W1 0 2) = _; rw [f0.1, c02, c01, c12]; grind
  have hs' : s * (2 + t - t * (t * p)) = 1 := by rw [← c11]; exact hs
  have diff : (val (W2 0 2) - val (W2 1 2)) * (2 + 2 * t) = g0 - g1 := by
    rw [z0, z1]
    grind
  have vg0 : g0 = ((2 + R 0 1 - R 1 0 : Int) : Rat) / ((2 : Int) : Rat) := by show val (W0 0 2) = _; rw [w02]; exact val_low (by decide)
  have vg1 : g1 = ((2 + R 1 0 - R 0 1 : Int) : Rat) / ((2 : Int) : Rat) := by show val (W0 1 2) = _; rw [w12]; exact val_low (by decide)
  have dg : g0 - g1 = ((R 0 1 - R 1 0 : Int) : Rat) := by
    rw [vg0, vg1, Rat.intCast_sub, Rat.intCast_sub, Rat.intCast_sub, Rat.intCast_add, Rat.intCast_add]
    grind
  have key : val (W2 1 2) < val (W2 0 2) ↔ R 1 0 < R 0 1 := by
    rw [dg] at diff
    have c2 : (0 : Rat) < 2 + 2 * t := by grind
    constructor
    · intro h
      have h1 : (0 : Rat) < (val (W2 0 2) - val (W2 1 2)) * (2 + 2 * t) := Rat.mul_pos (by grind) c2
      rw [diff] at h1
      have : 0 < R 0 1 - R 1 0 := by exact_mod_cast h1
      omega
    · intro h
      have h1 : (0 : Rat) < ((R 0 1 - R 1 0 : Int) : Rat) := by exact_mod_cast (by omega : 0 < R 0 1 - R 1 0)
      rw [← diff] at h1
      have h2 : (0 : Rat) * (2 + 2 * t) < (val (W2 0 2) - val (W2 1 2)) * (2 + 2 * t) := by rw [Rat.zero_mul]; exact h1
      have := Rat.lt_of_mul_lt_mul_right h2 (Rat.le_of_lt c2)
      grind
  have S := solved_ok T (n := 2) (W0 := W0) (by omega) bb (fun a ha => bb8 (by omega)) (fun a W => (∀ k j, k < 2 → j < 3 → Bp (bb a) (W k j)) ∧ (a = 0 → W = W0) ∧ (a = 1 → W = W1) ∧ (a = 2 → W = W2)) ⟨fun k j hk hj => B0 k j hk hj, fun _ => rfl, fun h => absurd h (by omega), fun h => absurd h (by omega)⟩ (fun a W _ h => h.1)
    (fun a W k0 ha h hle hk0 h1 hmin => by
      refine ⟨step_Bp ha hk0 h.1 h1, fun q => absurd q (by omega), fun q => ?_, fun q => ?_⟩
      · have ea : a = 0 := by omega
        subst ea
        have eW := h.2.1 rfl
        subst eW
        have : k0 = 0 := by
          refine Classical.byContradiction fun q => ?_
          exact n00 (hmin 0 (by omega) (by omega))
        subst this
        rfl
      · have ea : a = 1 := by omega
        subst ea
        have eW := h.2.2.1 rfl
        subst eW
        have : k0 = 1 := by omega
        subst this
        rfl)
  rcases S with ⟨a, W, ha, h, hz, _⟩ | ⟨W, h, e⟩
  · exfalso
    by_cases q : a = 0
    · subst q
      rw [h.2.1 rfl] at hz
      exact n00 (hz 0 (by omega) (by omega))
    · have : a = 1 := by omega
      subst this
      rw [h.2.2.1 rfl] at hz
      exact n11 (hz 1 (by omega) (by omega))
  · have eW := h.2.2.2 rfl
    subst eW
    refine ⟨W2 0 2, W2 1 2, ?_, (h.1 0 2 (by omega) (by omega)).mono (by decide), (h.1 1 2 (by omega) (by omega)).mono (by decide), ?_⟩
    · exact half_ok T (by omega) h0 e
    · rw [← val_lt f1.2 f0.2]; exact key
end
end VL

set_option Elab.async false
set_option linter.all false
set_option maxRecDepth 100000
set_option maxHeartbeats 4000000
namespace VL
open PySem PySem.Spec PyProof.Rows L2
def matL (n : Nat) (R : Nat → Nat → Int) : D := .lst ((List.range n).map fun i => .lst (vecL n (R i)))
theorem vec_of {n : Nat} {r : List D} {P : Int → Prop} (hl : r.length = n) (h : ∀ i, i < n → ∃ s : Int, r[i]? = some (.int s) ∧ P s) : ∃ S : Nat → Int, r = vecL n S ∧ ∀ i, i < n → P (S i) := by
  refine ⟨fun i => match r[i]? with | some (.int s) => s | _ => 0, ?_, fun i hi => ?_⟩
  · apply List.ext_getElem?
    intro i
    by_cases q : i < n
    · obtain ⟨s, e, _⟩ := h i q
      rw [vec_get q, e]
    · rw [List.getElem?_eq_none (by omega), List.getElem?_eq_none (by rw [vec_len]; omega)]
  · obtain ⟨s, e, p⟩ := h i hi
    dsimp only
    rw [e]; exact p
theorem mat_of {n : Nat} {r : List D} {P : Nat → Nat → Int → Prop} (hl : r.length = n) (h : ∀ i, i < n → ∃ S : Nat → Int, r[i]? = some (.tup (vecL n S)) ∧ ∀ j, j < n → P i j (S j)) : ∃ R : Nat → Nat → Int, D.tup r = matT n R ∧ ∀ i j, i < n → j < n → P i j (R i j) := by
  have h' : ∀ i : Nat, ∃ S : Nat → Int, i < n → r[i]? = some (.tup (vecL n S)) ∧ ∀ j, j < n → P i j (S j) := fun i => by
    by_cases q : i < n
    · obtain ⟨S, e⟩ := h i q; exact ⟨S, fun _ => e⟩
    · exact ⟨fun _ => 0, fun z => absurd z q⟩
  refine ⟨fun i => Classical.choose (h' i), ?_, fun i j hi hj => (Classical.choose_spec (h' i) hi).2 j hj⟩
  unfold matT
  congr 1
  apply List.ext_getElem?
  intro i
  by_cases q : i < n
  · rw [rng_get q, (Classical.choose_spec (h' i) q).1]
  · rw [List.getElem?_eq_none (by omega), List.getElem?_eq_none (by rw [rng_len]; omega)]
theorem rep_vec {n : Nat} : (List.replicate n [D.int 0]).flatten = vecL n fun _ => 0 := by
  unfold vecL
  rw [List.map_const', List.length_range]
  induction n with
  | zero => rfl
  | succ n ih => rw [List.replicate_succ, List.flatten_cons, ih, List.replicate_succ]; rfl
def updM (R : Nat → Nat → Int) (a b : Nat) (v : Int) : Nat → Nat → Int := fun i j => if i = a then (if j = b then v else R i j) else R i j
theorem upd_D {n a b : Nat} {R : Nat → Nat → Int} {v : Int} (ha : a < n) : D.lst (((List.range n).map fun i => D.lst (vecL n (R i))).set a (.lst ((vecL n (R a)).set b (.int v)))) = matL n (updM R a b v) := by
  unfold matL
  rw [rng_set]
  congr 1
  refine List.map_congr_left fun i hi => ?_
  by_cases q : i = a
  · rw [if_pos q]
    unfold vecL updM
    rw [rng_set]
    congr 1
    refine List.map_congr_left fun j hj => ?_
    subst q
    by_cases q2 : j = b
    · rw [if_pos q2, if_pos rfl, if_pos q2]
    · rw [if_neg q2, if_pos rfl, if_neg q2]
  · rw [if_neg q]
    unfold updM
    simp only [q, if_false]
section
variable {P : Program} {w : World} {K : PySem.W.Frag} {mg : Str → Option Value} {base : Heap} {n : Nat} {R : Nat → Nat → Int} {S : Nat → Int}
theorem draw_w (T : Tx P w K mg base) {ls : List Int} {d : D} {n : Int} {Q : D → D → Prop} (hd : Dw ls d) (hn : 0 < n) (hn9 : n < 1000000) (q : ∀ (v : Int) d', 0 ≤ v → v < n → Dw ls d' → Q (.int v) d') : wRo (m__law_draw T [d, .int n]) Q :=
  w_draw hd hn hn9 q
theorem draws_ok (T : Tx P w K mg base) {ns : List Int} (h : ns.length ≤ 63) : ∃ d, m__law_draws T [.scr ns] = .ok d ∧ Dw ns d := by
  refine ⟨.lst [.lst (ns.map .int), .int 0, .int 0, .int 1], ?_, 0, 0, 1, rfl, by omega, by omega, by omega, by omega, by omega⟩
  unfold m__law_draws
  refine runP_ok ?_
  have e0 : rho0 1 [D.scr ns] = [some (.scr ns)] := rfl
  rw [e0]
  unfold f__law_draws
  simp only [↓ws_bind, ↓ws_if, ↓ws_set, ↓ws_sub, ↓ws_ret, ↓ws_drop, ↓ws_par, ↓ws_asg, ↓ws_nx, ↓ws_retN, ↓wi_up, ↓wi_upB, ↓wi_cons, ↓wi_nil, ↓wi_op, ↓wi_opB, ↓wi_opL, ↓wi_if, ↓wi_and, ↓wi_or, ↓wi_not, ↓wi_B, ↓wi_call, ↓wi_callIO, ↓wi_here, ↓wi_app, ↓wi_pop, ↓wi_lc, ↓wLst_some, ↓w_and, ↓w_or, ↓w_not, ↓w_if, ↓w_bl, ↓w_B, ↓wT_bl, ↓w_andV, ↓w_orV, ↓w_notV, ↓w_chain, ↓w_opB, ↓w_op, ↓w_opL, ↓w_cons, ↓w_nil, ↓w_var, ↓w_c, ↓w_call, ↓w_callB, ↓w_meth, ↓w_make, ↓w_items, ↓w_range, ↓w_zip, ↓w_disp1, ↓w_lc, ↓wV_some, ↓wp_ix, ↓wp_var, ↓wPx_lst, ↓w_gN, ↓w_gT2, ↓w_gSub, ↓g_add, ↓g_sub, ↓g_mul, ↓g_div, ↓g_mod, ↓g_neg, ↓g_pow18, ↓g_ge, ↓g_gt, ↓g_lt, ↓g_le, ↓g_eq, ↓g_ne, ↓g_ixL, ↓g_ixT, ↓g_lenL, ↓g_lenT, ↓g_lenK, ↓g_int, ↓g_intB, ↓g_abs, ↓g_tup, ↓g_lst, ↓g_listS, ↓g_listL, ↓g_listT, ↓g_tupL, ↓g_tupT, ↓g_is, ↓g_isNot, ↓g_isN, ↓g_isNotN, ↓g_max2, ↓g_min2, ↓g_mulL, ↓g_addL, ↓g_sumL, ↓g_sumT, ↓atI_lit, ↓atI_nat, ↓ixN_lit, ↓ixN_nat, ↓wO_some, ↓w_ite, ↓wR_ok, id, List.getElem?_cons_zero, List.getElem?_cons_succ, List.length_cons, List.length_nil, List.length_map, List.length_set, List.set_cons_zero, List.set_cons_succ, deq_i, dok_i, deq_b, dok_b, dok_n, true_and, and_true, ↓w_lc2, ↓ws_fld, ↓wIns_some, ↓ws_dput, ↓wDk_int, ↓g_dnotin, ↓g_oB, ↓g_isiTT, ↓g_isiII, ↓g_isiIB, ↓keyD_int]
  rw [sizeLine_eq]; omega
theorem matL_place {n a b : Nat} {R : Nat → Nat → Int} {ρ : Rho} {g g' : Rho → Rs D} {i : Nat} {Q : D × (D → D) → Prop} (ha : a < n) (hb : b < n) (h0 : ρ[i]? = some (some (matL n R))) (h1 : ∀ {Q : D → Prop}, wE g ρ Q (fun _ => False) = Q (.int a)) (h2 : ∀ {Q : D → Prop}, wE g' ρ Q (fun _ => False) = Q (.int b)) :
    wP (plIx (plIx (plVar i) g) g') ρ Q = Q (.int (R a b), fun d' => .lst (((List.range n).map fun i => D.lst (vecL n (R i))).set a (.lst ((vecL n (R a)).set b d')))) := by
  rw [wp_ix, wp_ix, wp_var, h0, wV_some, h1]
  unfold matL
  rw [wPx_at (by rw [rng_len]; exact ha), h2]
  have e : ((List.range n).map fun i => D.lst (vecL n (R i)))[a]'(by rw [rng_len]; exact ha) = .lst (vecL n (R a)) := by
    have := rng_get (g := fun i => D.lst (vecL n (R i))) ha
    rw [List.getElem?_eq_getElem (by rw [rng_len]; exact ha)] at this
    exact Option.some.inj this
  rw [e, wPx_at (by rw [vec_len]; exact hb)]
  have e2 : (vecL n (R a))[b]'(by rw [vec_len]; exact hb) = .int (R a b) := by
    have := vec_get (S := R a) hb
    rw [List.getElem?_eq_getElem (by rw [vec_len]; exact hb)] at this
    exact Option.some.inj this
  rw [e2]; rfl
end
end VL

set_option Elab.async false
set_option linter.all false
set_option maxRecDepth 100000
set_option maxHeartbeats 4000000
namespace VL
open PySem PySem.Spec PyProof.Rows L2
section
variable {P : Program} {w : World} {K : PySem.W.Frag} {mg : Str → Option Value} {base : Heap} {n : Nat} {R : Nat → Nat → Int} {S : Nat → Int}
theorem counts_ok (T : Tx P w K mg base) {ls : List Int} {d : D} (hd : Dw ls d) (hn : n ≤ 12) : ∃ r d', m__law_counts T [d, .int n, .int 3] = .ok r d' ∧ Dw ls d' ∧ ∃ R : Nat → Nat → Int, r = matT n R ∧ ∀ i j, i < n → j < n → (0 ≤ R i j ∧ R i j < 1024) ∧ (i = j → R i j = 0) := by
  unfold m__law_counts
  refine runI_ok (Q := fun r d' => Dw ls d' ∧ ∃ R : Nat → Nat → Int, r = matT n R ∧ ∀ i j, i < n → j < n → (0 ≤ R i j ∧ R i j < 1024) ∧ (i = j → R i j = 0)) ?_
  have e0 : rho0 6 [d, .int n, .int 3] = [some d, some (.int n), some (.int 3), none, none, none] := rfl
  have ez : sizeLine = 16777216 := sizeLine_eq
  rw [e0]
  unfold f__law_counts
  rw [ws_bind, ws_set, wi_up]
  simp only [↓w_opL, ↓w_nil, ↓g_lst, List.set_cons_succ, List.set_cons_zero, List.length_nil]
  refine ⟨by omega, by simp, ?_⟩
  rw [ws_bind]
  generalize hr : [some d, some (D.int (n : Int)), some (.int 3), some (D.lst []), none, none] = rr
  refine ws_forR n (fun k ρ => ∃ d r o4 o5, ρ = [some d, some (.int n), some (.int 3), some (.lst r), o4, o5] ∧ Dw ls d ∧ r.length = k ∧ ∀ i, i < k → ∃ S : Nat → Int, r[i]? = some (.tup (vecL n S)) ∧ ∀ j, j < n → (0 ≤ S j ∧ S j < 1024) ∧ (i = j → S j = 0)) ?_ ⟨d, [], _, _, hr.symm, hd, rfl, fun i h => absurd h (Nat.not_lt_zero _)⟩ ?_ ?_
  · rw [← hr]
    simp only [↓ws_bind, ↓ws_if, ↓ws_set, ↓ws_sub, ↓ws_ret, ↓ws_drop, ↓ws_par, ↓ws_asg, ↓ws_nx, ↓ws_retN, ↓wi_up, ↓wi_upB, ↓wi_cons, ↓wi_nil, ↓wi_op, ↓wi_opB, ↓wi_opL, ↓wi_if, ↓wi_and, ↓wi_or, ↓wi_not, ↓wi_B, ↓wi_call, ↓wi_callIO, ↓wi_here, ↓wi_app, ↓wi_pop, ↓wi_lc, ↓wLst_some, ↓w_and, ↓w_or, ↓w_not, ↓w_if, ↓w_bl, ↓w_B, ↓wT_bl, ↓w_andV, ↓w_orV, ↓w_notV, ↓w_chain, ↓w_opB, ↓w_op, ↓w_opL, ↓w_cons, ↓w_nil, ↓w_var, ↓w_c, ↓w_call, ↓w_callB, ↓w_meth, ↓w_make, ↓w_items, ↓w_range, ↓w_zip, ↓w_disp1, ↓w_lc, ↓wV_some, ↓wp_ix, ↓wp_var, ↓wPx_lst, ↓w_gN, ↓w_gT2, ↓w_gSub, ↓g_add, ↓g_sub, ↓g_mul, ↓g_div, ↓g_mod, ↓g_neg, ↓g_pow18, ↓g_ge, ↓g_gt, ↓g_lt, ↓g_le, ↓g_eq, ↓g_ne, ↓g_ixL, ↓g_ixT, ↓g_lenL, ↓g_lenT, ↓g_lenK, ↓g_int, ↓g_intB, ↓g_abs, ↓g_tup, ↓g_lst, ↓g_listS, ↓g_listL, ↓g_listT, ↓g_tupL, ↓g_tupT, ↓g_is, ↓g_isNot, ↓g_isN, ↓g_isNotN, ↓g_max2, ↓g_min2, ↓g_mulL, ↓g_addL, ↓g_sumL, ↓g_sumT, ↓atI_lit, ↓atI_nat, ↓ixN_lit, ↓ixN_nat, ↓wO_some, ↓w_ite, ↓wR_ok, id, List.getElem?_cons_zero, List.getElem?_cons_succ, List.length_cons, List.length_nil, List.length_map, List.length_set, List.set_cons_zero, List.set_cons_succ, deq_i, dok_i, deq_b, dok_b, dok_n, true_and, and_true, ↓w_lc2, ↓ws_fld, ↓wIns_some, ↓ws_dput, ↓wDk_int, ↓g_dnotin, ↓g_oB, ↓g_isiTT, ↓g_isiII, ↓g_isiIB, ↓keyD_int]
    exact ⟨by omega, by rw [Int.toNat_natCast]⟩
  · clear hr
    rintro k ρ hk ⟨d1, r, o4, o5, hρ, hd1, hl, hr⟩
    rw [hρ]
    clear hρ
    rw [w_gN]
    refine ⟨by simp, ?_⟩
    simp only [List.set_cons_succ, List.set_cons_zero]
    rw [ws_drop, wi_app]
    have eA : ([some d1, some (D.int (n : Int)), some (.int 3), some (D.lst r), some (D.int (k : Int)), o5] : Rho)[3]? = some (some (.lst r)) := rfl
    rw [eA, wLst_some]
    rw [wi_op, wi_cons, wi_lc, w_range]
    simp only [↓w_op, ↓w_cons, ↓w_nil, ↓w_var, ↓List.getElem?_cons_succ, ↓List.getElem?_cons_zero, ↓wV_some]
    refine ⟨by omega, ?_⟩
    rw [Int.toNat_natCast, rng_map]
    refine ⟨by rw [rng_len, ez]; omega, ?_⟩
    refine wLcI_all (fun ρ => ∃ d, ρ = [some d, some (.int n), some (.int 3), some (.lst r), some (.int k), none] ∧ Dw ls d) (fun j y => ∃ s : Int, y = .int s ∧ (0 ≤ s ∧ s < 1024) ∧ (k = j → s = 0)) ⟨d1, rfl, hd1⟩ ?_ ?_
    · rintro j hj ρ ⟨d, rfl, hd⟩
      rw [Int.zero_add, w_gN]
      refine ⟨by simp, ?_⟩
      simp only [List.set_cons_succ, List.set_cons_zero]
      by_cases q : k = j
      · have dq : decide ((k : Int) = (j : Int)) = true := decide_eq_true (by omega)
        simp only [↓ws_bind, ↓ws_if, ↓ws_set, ↓ws_sub, ↓ws_ret, ↓ws_drop, ↓ws_par, ↓ws_asg, ↓ws_nx, ↓ws_retN, ↓wi_up, ↓wi_upB, ↓wi_cons, ↓wi_nil, ↓wi_op, ↓wi_opB, ↓wi_opL, ↓wi_if, ↓wi_and, ↓wi_or, ↓wi_not, ↓wi_B, ↓wi_call, ↓wi_callIO, ↓wi_here, ↓wi_app, ↓wi_pop, ↓wi_lc, ↓wLst_some, ↓w_and, ↓w_or, ↓w_not, ↓w_if, ↓w_bl, ↓w_B, ↓wT_bl, ↓w_andV, ↓w_orV, ↓w_notV, ↓w_chain, ↓w_opB, ↓w_op, ↓w_opL, ↓w_cons, ↓w_nil, ↓w_var, ↓w_c, ↓w_call, ↓w_callB, ↓w_meth, ↓w_make, ↓w_items, ↓w_range, ↓w_zip, ↓w_disp1, ↓w_lc, ↓wV_some, ↓wp_ix, ↓wp_var, ↓wPx_lst, ↓w_gN, ↓w_gT2, ↓w_gSub, ↓g_add, ↓g_sub, ↓g_mul, ↓g_div, ↓g_mod, ↓g_neg, ↓g_pow18, ↓g_ge, ↓g_gt, ↓g_lt, ↓g_le, ↓g_eq, ↓g_ne, ↓g_ixL, ↓g_ixT, ↓g_lenL, ↓g_lenT, ↓g_lenK, ↓g_int, ↓g_intB, ↓g_abs, ↓g_tup, ↓g_lst, ↓g_listS, ↓g_listL, ↓g_listT, ↓g_tupL, ↓g_tupT, ↓g_is, ↓g_isNot, ↓g_isN, ↓g_isNotN, ↓g_max2, ↓g_min2, ↓g_mulL, ↓g_addL, ↓g_sumL, ↓g_sumT, ↓atI_lit, ↓atI_nat, ↓ixN_lit, ↓ixN_nat, ↓wO_some, ↓w_ite, ↓wR_ok, id, List.getElem?_cons_zero, List.getElem?_cons_succ, List.length_cons, List.length_nil, List.length_map, List.length_set, List.set_cons_zero, List.set_cons_succ, deq_i, dok_i, deq_b, dok_b, dok_n, true_and, and_true, ↓w_lc2, ↓ws_fld, ↓wIns_some, ↓ws_dput, ↓wDk_int, ↓g_dnotin, ↓g_oB, ↓g_isiTT, ↓g_isiII, ↓g_isiIB, ↓keyD_int, dq, if_true]
        exact ⟨⟨0, rfl, by omega, fun _ => rfl⟩, d, rfl, hd⟩
      · have dq : decide ((k : Int) = (j : Int)) = false := decide_eq_false (by omega)
        simp only [↓ws_bind, ↓ws_if, ↓ws_set, ↓ws_sub, ↓ws_ret, ↓ws_drop, ↓ws_par, ↓ws_asg, ↓ws_nx, ↓ws_retN, ↓wi_up, ↓wi_upB, ↓wi_cons, ↓wi_nil, ↓wi_op, ↓wi_opB, ↓wi_opL, ↓wi_if, ↓wi_and, ↓wi_or, ↓wi_not, ↓wi_B, ↓wi_call, ↓wi_callIO, ↓wi_here, ↓wi_app, ↓wi_pop, ↓wi_lc, ↓wLst_some, ↓w_and, ↓w_or, ↓w_not, ↓w_if, ↓w_bl, ↓w_B, ↓wT_bl, ↓w_andV, ↓w_orV, ↓w_notV, ↓w_chain, ↓w_opB, ↓w_op, ↓w_opL, ↓w_cons, ↓w_nil, ↓w_var, ↓w_c, ↓w_call, ↓w_callB, ↓w_meth, ↓w_make, ↓w_items, ↓w_range, ↓w_zip, ↓w_disp1, ↓w_lc, ↓wV_some, ↓wp_ix, ↓wp_var, ↓wPx_lst, ↓w_gN, ↓w_gT2, ↓w_gSub, ↓g_add, ↓g_sub, ↓g_mul, ↓g_div, ↓g_mod, ↓g_neg, ↓g_pow18, ↓g_ge, ↓g_gt, ↓g_lt, ↓g_le, ↓g_eq, ↓g_ne, ↓g_ixL, ↓g_ixT, ↓g_lenL, ↓g_lenT, ↓g_lenK, ↓g_int, ↓g_intB, ↓g_abs, ↓g_tup, ↓g_lst, ↓g_listS, ↓g_listL, ↓g_listT, ↓g_tupL, ↓g_tupT, ↓g_is, ↓g_isNot, ↓g_isN, ↓g_isNotN, ↓g_max2, ↓g_min2, ↓g_mulL, ↓g_addL, ↓g_sumL, ↓g_sumT, ↓atI_lit, ↓atI_nat, ↓ixN_lit, ↓ixN_nat, ↓wO_some, ↓w_ite, ↓wR_ok, id, List.getElem?_cons_zero, List.getElem?_cons_succ, List.length_cons, List.length_nil, List.length_map, List.length_set, List.set_cons_zero, List.set_cons_succ, deq_i, dok_i, deq_b, dok_b, dok_n, true_and, and_true, ↓w_lc2, ↓ws_fld, ↓wIns_some, ↓ws_dput, ↓wDk_int, ↓g_dnotin, ↓g_oB, ↓g_isiTT, ↓g_isiII, ↓g_isiIB, ↓keyD_int, dq, Bool.false_eq_true, if_false]
        refine draw_w T hd (by omega) (by omega) fun v d' v0 v1 hd' => ?_
        simp only [↓ws_bind, ↓ws_if, ↓ws_set, ↓ws_sub, ↓ws_ret, ↓ws_drop, ↓ws_par, ↓ws_asg, ↓ws_nx, ↓ws_retN, ↓wi_up, ↓wi_upB, ↓wi_cons, ↓wi_nil, ↓wi_op, ↓wi_opB, ↓wi_opL, ↓wi_if, ↓wi_and, ↓wi_or, ↓wi_not, ↓wi_B, ↓wi_call, ↓wi_callIO, ↓wi_here, ↓wi_app, ↓wi_pop, ↓wi_lc, ↓wLst_some, ↓w_and, ↓w_or, ↓w_not, ↓w_if, ↓w_bl, ↓w_B, ↓wT_bl, ↓w_andV, ↓w_orV, ↓w_notV, ↓w_chain, ↓w_opB, ↓w_op, ↓w_opL, ↓w_cons, ↓w_nil, ↓w_var, ↓w_c, ↓w_call, ↓w_callB, ↓w_meth, ↓w_make, ↓w_items, ↓w_range, ↓w_zip, ↓w_disp1, ↓w_lc, ↓wV_some, ↓wp_ix, ↓wp_var, ↓wPx_lst, ↓w_gN, ↓w_gT2, ↓w_gSub, ↓g_add, ↓g_sub, ↓g_mul, ↓g_div, ↓g_mod, ↓g_neg, ↓g_pow18, ↓g_ge, ↓g_gt, ↓g_lt, ↓g_le, ↓g_eq, ↓g_ne, ↓g_ixL, ↓g_ixT, ↓g_lenL, ↓g_lenT, ↓g_lenK, ↓g_int, ↓g_intB, ↓g_abs, ↓g_tup, ↓g_lst, ↓g_listS, ↓g_listL, ↓g_listT, ↓g_tupL, ↓g_tupT, ↓g_is, ↓g_isNot, ↓g_isN, ↓g_isNotN, ↓g_max2, ↓g_min2, ↓g_mulL, ↓g_addL, ↓g_sumL, ↓g_sumT, ↓atI_lit, ↓atI_nat, ↓ixN_lit, ↓ixN_nat, ↓wO_some, ↓w_ite, ↓wR_ok, id, List.getElem?_cons_zero, List.getElem?_cons_succ, List.length_cons, List.length_nil, List.length_map, List.length_set, List.set_cons_zero, List.set_cons_succ, deq_i, dok_i, deq_b, dok_b, dok_n, true_and, and_true, ↓w_lc2, ↓ws_fld, ↓wIns_some, ↓ws_dput, ↓wDk_int, ↓g_dnotin, ↓g_oB, ↓g_isiTT, ↓g_isiII, ↓g_isiIB, ↓keyD_int]
        refine ⟨⟨_, rfl, ?_, fun z => absurd z q⟩, d', rfl, hd'⟩
        split <;> omega
    · rintro r' ρn ⟨d', rfl, hd'⟩ hl' hP
      have hv := vec_of (n := n) (r := r') (P := fun s => True) (by rw [hl', List.length_range]) fun i hi => by
        obtain ⟨y, hy⟩ : ∃ y, r'[i]? = some y := ⟨_, List.getElem?_eq_getElem (by rw [hl', List.length_range]; exact hi)⟩
        obtain ⟨s, e, _⟩ := hP i i y (List.getElem?_range hi) hy
        exact ⟨s, by rw [hy, e], trivial⟩
      obtain ⟨S, rfl, _⟩ := hv
      have hS : ∀ j, j < n → (0 ≤ S j ∧ S j < 1024) ∧ (k = j → S j = 0) := fun j hj => by
        obtain ⟨s, e, p⟩ := hP j j (.int (S j)) (List.getElem?_range hj) (vec_get hj)
        cases e; exact p
      simp only [restR, wi_nil, g_tupL, List.getElem?_cons_succ, List.getElem?_cons_zero, List.set_cons_succ, List.set_cons_zero, wLst_some, Option.getD_some]
      refine ⟨by rw [ez]; omega, d', _, _, _, rfl, hd', by simp [hl], fun i hi => ?_⟩
      rcases Nat.lt_succ_iff_lt_or_eq.mp hi with h | rfl
      · obtain ⟨S', e, p⟩ := hr i h
        exact ⟨S', by rw [List.getElem?_append_left (by omega)]; exact e, p⟩
      · refine ⟨S, ?_, hS⟩
        rw [List.getElem?_append_right (by omega), hl]; simp
  · rintro ρ ⟨d, r, o4, o5, rfl, hd, hl, hr⟩
    simp only [↓ws_bind, ↓ws_if, ↓ws_set, ↓ws_sub, ↓ws_ret, ↓ws_drop, ↓ws_par, ↓ws_asg, ↓ws_nx, ↓ws_retN, ↓wi_up, ↓wi_upB, ↓wi_cons, ↓wi_nil, ↓wi_op, ↓wi_opB, ↓wi_opL, ↓wi_if, ↓wi_and, ↓wi_or, ↓wi_not, ↓wi_B, ↓wi_call, ↓wi_callIO, ↓wi_here, ↓wi_app, ↓wi_pop, ↓wi_lc, ↓wLst_some, ↓w_and, ↓w_or, ↓w_not, ↓w_if, ↓w_bl, ↓w_B, ↓wT_bl, ↓w_andV, ↓w_orV, ↓w_notV, ↓w_chain, ↓w_opB, ↓w_op, ↓w_opL, ↓w_cons, ↓w_nil, ↓w_var, ↓w_c, ↓w_call, ↓w_callB, ↓w_meth, ↓w_make, ↓w_items, ↓w_range, ↓w_zip, ↓w_disp1, ↓w_lc, ↓wV_some, ↓wp_ix, ↓wp_var, ↓wPx_lst, ↓w_gN, ↓w_gT2, ↓w_gSub, ↓g_add, ↓g_sub, ↓g_mul, ↓g_div, ↓g_mod, ↓g_neg, ↓g_pow18, ↓g_ge, ↓g_gt, ↓g_lt, ↓g_le, ↓g_eq, ↓g_ne, ↓g_ixL, ↓g_ixT, ↓g_lenL, ↓g_lenT, ↓g_lenK, ↓g_int, ↓g_intB, ↓g_abs, ↓g_tup, ↓g_lst, ↓g_listS, ↓g_listL, ↓g_listT, ↓g_tupL, ↓g_tupT, ↓g_is, ↓g_isNot, ↓g_isN, ↓g_isNotN, ↓g_max2, ↓g_min2, ↓g_mulL, ↓g_addL, ↓g_sumL, ↓g_sumT, ↓atI_lit, ↓atI_nat, ↓ixN_lit, ↓ixN_nat, ↓wO_some, ↓w_ite, ↓wR_ok, id, List.getElem?_cons_zero, List.getElem?_cons_succ, List.length_cons, List.length_nil, List.length_map, List.length_set, List.set_cons_zero, List.set_cons_succ, deq_i, dok_i, deq_b, dok_b, dok_n, true_and, and_true, ↓w_lc2, ↓ws_fld, ↓wIns_some, ↓ws_dput, ↓wDk_int, ↓g_dnotin, ↓g_oB, ↓g_isiTT, ↓g_isiII, ↓g_isiIB, ↓keyD_int]
    obtain ⟨R, e, p⟩ := mat_of (P := fun i j s => (0 ≤ s ∧ s < 1024) ∧ (i = j → s = 0)) hl hr
    exact ⟨hd, R, e, p⟩
end
end VL

set_option Elab.async false
set_option linter.all false
set_option maxRecDepth 100000
set_option maxHeartbeats 4000000
namespace VL
open PySem PySem.Spec PyProof.Rows L2
section
variable {P : Program} {w : World} {K : PySem.W.Frag} {mg : Str → Option Value} {base : Heap} {n : Nat} {R : Nat → Nat → Int} {S : Nat → Int}
/-- the counts behind the turns that are done -/
structure Fill (n : Nat) (S : Nat → Int) (R : Nat → Nat → Int) (D : Nat → Nat → Prop) : Prop where
  d : ∀ i, i < n → R i i = 0
  f : ∀ i j, i < n → j < n → D i j → ∃ t : Int, 1 ≤ t ∧ t ≤ 2 ∧ R i j = t * S i ∧ R j i = t * S j
theorem fill_upd {a b : Nat} {t : Int} {Dn : Nat → Nat → Prop} (hab : a ≠ b) (ha : a < n) (hb : b < n) (h : Fill n S R Dn) (t1 : 1 ≤ t) (t2 : t ≤ 2) :
    Fill n S (updM (updM R a b (t * S a)) b a (t * S b)) (fun i j => Dn i j ∨ (i = a ∧ j = b) ∨ (i = b ∧ j = a)) := by
  have e : ∀ i j, updM (updM R a b (t * S a)) b a (t * S b) i j = if i = b ∧ j = a then t * S b else if i = a ∧ j = b then t * S a else R i j := fun i j => by
    unfold updM
    by_cases q1 : i = b
    · by_cases q2 : j = a
      · simp [q1, q2]
      · have : ¬ (b = a) := fun z => hab z.symm
        simp [q1, q2, this]
    · by_cases q3 : i = a
      · by_cases q4 : j = b
        · simp [q3, q4, hab]
        · simp [q3, q4, hab]
      · simp [q1, q3]
  refine ⟨fun i hi => ?_, fun i j hi hj hd => ?_⟩
  · rw [e, if_neg (by omega), if_neg (by omega)]
    exact h.d i hi
  · by_cases q : i = a ∧ j = b
    · obtain ⟨rfl, rfl⟩ := q
      exact ⟨t, t1, t2, by rw [e, if_neg (by omega), if_pos ⟨rfl, rfl⟩], by rw [e, if_pos ⟨rfl, rfl⟩]⟩
    · by_cases q2 : i = b ∧ j = a
      · obtain ⟨rfl, rfl⟩ := q2
        exact ⟨t, t1, t2, by rw [e, if_pos ⟨rfl, rfl⟩], by rw [e, if_neg (by omega), if_pos ⟨rfl, rfl⟩]⟩
      · rcases hd with hd | hd | hd
        · obtain ⟨t', h1, h2, h3, h4⟩ := h.f i j hi hj hd
          exact ⟨t', h1, h2, by rw [e, if_neg q2, if_neg q]; exact h3, by rw [e, if_neg (by omega), if_neg (by omega)]; exact h4⟩
        · exact absurd hd q
        · exact absurd hd q2
theorem fill_imp {D1 D2 : Nat → Nat → Prop} (h : Fill n S R D1) (k : ∀ i j, i < n → j < n → D2 i j → D1 i j) : Fill n S R D2 := ⟨h.d, fun i j hi hj hd => h.f i j hi hj (k i j hi hj hd)⟩
theorem fill_made (h : Fill n S R fun i j => i ≠ j) (hS : ∀ i, i < n → 1 ≤ S i ∧ S i ≤ 4) : Made n R S := ⟨fun i hi => by have := hS i hi; omega, h.d, fun i j hi hj hne => by
  obtain ⟨t, t1, _, e1, e2⟩ := h.f i j hi hj hne
  exact ⟨t, by omega, e1, e2⟩⟩
theorem fill_small (h : Fill n S R fun i j => i ≠ j) (hS : ∀ i, i < n → 1 ≤ S i ∧ S i ≤ 4) : ∀ i j, i < n → j < n → 0 ≤ R i j ∧ R i j < 1024 := fun i j hi hj => by
  by_cases q : i = j
  · rw [q, h.d j hj]; omega
  · obtain ⟨t, t1, t2, e1, _⟩ := h.f i j hi hj q
    have := hS i hi
    rw [e1]
    have h1 : 0 ≤ t * S i := Int.mul_nonneg (by omega) (by omega)
    have h2 : t * S i ≤ 2 * 4 := Int.mul_le_mul (by omega) (by omega) (by omega) (by omega)
    omega
theorem fill_pos (h : Fill n S R fun i j => i ≠ j) (hS : ∀ i, i < n → 1 ≤ S i ∧ S i ≤ 4) : ∀ i j, i < n → j < n → i ≠ j → 0 < R i j := fun i j hi hj q => by
  obtain ⟨t, t1, t2, e1, _⟩ := h.f i j hi hj q
  have := hS i hi
  rw [e1]
  exact Int.mul_pos (by omega) (by omega)
end
end VL

set_option Elab.async false
set_option linter.all false
set_option maxRecDepth 100000
set_option maxHeartbeats 4000000
namespace VL
open PySem PySem.Spec PyProof.Rows L2
section
variable {P : Program} {w : World} {K : PySem.W.Frag} {mg : Str → Option Value} {base : Heap} {n : Nat} {R : Nat → Nat → Int} {S : Nat → Int}
theorem law_true (T : Tx P w K mg base) (ns : List Int) (h : ns.length ≤ 63) : m_law T [.scr ns] = .ok (.bl true) := by
  unfold m_law
  refine runP_ok ?_
  have ez : sizeLine = 16777216 := sizeLine_eq
  have e0 : rho0 19 [D.scr ns] = [some (.scr ns), none, none, none, none, none, none, none, none, none, none, none, none, none, none, none, none, none, none] := rfl
  rw [e0]
  unfold f_law
  obtain ⟨dd, ed, hD⟩ := draws_ok T h
  rw [ws_bind, ws_set, wi_up]
  simp only [↓w_call, ↓w_cons, ↓w_nil, ↓w_var, ↓List.getElem?_cons_zero, ↓wV_some]
  rw [ed, wR_ok]
  refine ⟨by simp, ?_⟩
  try simp only [List.set_cons_succ, List.set_cons_zero]
  -- size
  rw [ws_bind, ws_set]
  simp only [↓wi_op, ↓wi_cons, ↓wi_nil, ↓wi_up, ↓w_c, ↓wi_callIO, ↓wi_here, ↓List.getElem?_cons_succ, ↓List.getElem?_cons_zero, ↓wV_some, List.set_cons_succ, List.set_cons_zero]
  refine draw_w T hD (by omega) (by omega) fun v d1 v0 v4 hD1 => ?_
  rw [g_add]
  refine ⟨by simp, ?_⟩
  try simp only [List.set_cons_succ, List.set_cons_zero]
  obtain ⟨n, hn⟩ : ∃ n : Nat, 1 + v = (n : Int) := ⟨(1 + v).toNat, by omega⟩
  rw [hn]
  have hn1 : 1 ≤ n := by omega
  have hn4 : n ≤ 4 := by omega
  clear hn v0 v4 v e0
  -- strengths
  rw [ws_bind, ws_set, wi_lc, w_range]
  simp only [↓w_cons, ↓w_nil, ↓w_var, ↓List.getElem?_cons_succ, ↓List.getElem?_cons_zero, ↓wV_some]
  refine ⟨by omega, ?_⟩
  rw [Int.toNat_natCast, rng_map]
  refine ⟨by rw [rng_len, ez]; omega, ?_⟩
  refine wLcI_all (fun ρ => ∃ d, ρ = [some (.scr ns), some d, some (.int n), none, none, none, none, none, none, none, none, none, none, none, none, none, none, none, none] ∧ Dw ns d) (fun j y => ∃ s : Int, y = .int s ∧ 1 ≤ s ∧ s ≤ 4) ⟨d1, rfl, hD1⟩ ?_ ?_
  · rintro j hj ρ ⟨d, rfl, hd⟩
    rw [Int.zero_add, w_gN]
    refine ⟨by simp, ?_⟩
    try simp only [List.set_cons_succ, List.set_cons_zero]
    simp only [↓wi_op, ↓wi_cons, ↓wi_nil, ↓wi_up, ↓w_c, ↓wi_callIO, ↓wi_here, ↓List.getElem?_cons_succ, ↓List.getElem?_cons_zero, ↓wV_some, List.set_cons_succ, List.set_cons_zero]
    refine draw_w T hd (by omega) (by omega) fun v d' v0 v4 hd' => ?_
    rw [g_add]
    exact ⟨⟨_, rfl, by omega, by omega⟩, d', rfl, hd'⟩
  rintro r ρn ⟨d2, rfl, hD2⟩ hl hP
  obtain ⟨S, rfl, hS⟩ := vec_of (n := n) (r := r) (P := fun s => 1 ≤ s ∧ s ≤ 4) (by rw [hl, List.length_range]) fun i hi => by
    obtain ⟨y, hy⟩ : ∃ y, r[i]? = some y := ⟨_, List.getElem?_eq_getElem (by rw [hl, List.length_range]; exact hi)⟩
    obtain ⟨s, e, p⟩ := hP i i y (List.getElem?_range hi) hy
    exact ⟨s, by rw [hy, e], p⟩
  clear hl hP
  simp only [restR, List.getElem?_cons_succ, List.getElem?_cons_zero, List.set_cons_succ, List.set_cons_zero, Option.getD_some, Option.getD_none]
  refine ⟨by simp, ?_⟩
  -- rows
  rw [ws_bind, ws_set, wi_up, w_lc, w_range]
  simp only [↓w_cons, ↓w_nil, ↓w_var, ↓List.getElem?_cons_succ, ↓List.getElem?_cons_zero, ↓wV_some]
  refine ⟨by omega, ?_⟩
  rw [Int.toNat_natCast, rng_map]
  refine ⟨by rw [rng_len, ez]; omega, ?_⟩
  refine wLc_all (g := fun _ => .lst (vecL n fun _ => 0)) (fun x hx => ?_) ?_
  · rw [w_gN]
    refine ⟨by simp [wipeR], ?_⟩
    simp only [wipeR, List.set_cons_succ, List.set_cons_zero]
    simp only [↓ws_bind, ↓ws_if, ↓ws_set, ↓ws_sub, ↓ws_ret, ↓ws_drop, ↓ws_par, ↓ws_asg, ↓ws_nx, ↓ws_retN, ↓wi_up, ↓wi_upB, ↓wi_cons, ↓wi_nil, ↓wi_op, ↓wi_opB, ↓wi_opL, ↓wi_if, ↓wi_and, ↓wi_or, ↓wi_not, ↓wi_B, ↓wi_call, ↓wi_callIO, ↓wi_here, ↓wi_app, ↓wi_pop, ↓wi_lc, ↓wLst_some, ↓w_and, ↓w_or, ↓w_not, ↓w_if, ↓w_bl, ↓w_B, ↓wT_bl, ↓w_andV, ↓w_orV, ↓w_notV, ↓w_chain, ↓w_opB, ↓w_op, ↓w_opL, ↓w_cons, ↓w_nil, ↓w_var, ↓w_c, ↓w_call, ↓w_callB, ↓w_meth, ↓w_make, ↓w_items, ↓w_range, ↓w_zip, ↓w_disp1, ↓w_lc, ↓wV_some, ↓wp_ix, ↓wp_var, ↓wPx_lst, ↓w_gN, ↓w_gT2, ↓w_gSub, ↓g_add, ↓g_sub, ↓g_mul, ↓g_div, ↓g_mod, ↓g_neg, ↓g_pow18, ↓g_ge, ↓g_gt, ↓g_lt, ↓g_le, ↓g_eq, ↓g_ne, ↓g_ixL, ↓g_ixT, ↓g_lenL, ↓g_lenT, ↓g_lenK, ↓g_int, ↓g_intB, ↓g_abs, ↓g_tup, ↓g_lst, ↓g_listS, ↓g_listL, ↓g_listT, ↓g_tupL, ↓g_tupT, ↓g_is, ↓g_isNot, ↓g_isN, ↓g_isNotN, ↓g_max2, ↓g_min2, ↓g_mulL, ↓g_addL, ↓g_sumL, ↓g_sumT, ↓atI_lit, ↓atI_nat, ↓ixN_lit, ↓ixN_nat, ↓wO_some, ↓w_ite, ↓wR_ok, id, List.getElem?_cons_zero, List.getElem?_cons_succ, List.length_cons, List.length_nil, List.length_map, List.length_set, List.set_cons_zero, List.set_cons_succ, deq_i, dok_i, deq_b, dok_b, dok_n, true_and, and_true, ↓w_lc2, ↓ws_fld, ↓wIns_some, ↓ws_dput, ↓wDk_int, ↓g_dnotin, ↓g_oB, ↓g_isiTT, ↓g_isiII, ↓g_isiIB, ↓keyD_int]
    refine ⟨by rw [ez]; omega, ⟨by omega, by omega, by rw [Int.toNat_natCast, ez]; omega⟩, ?_⟩
    rw [Int.toNat_natCast, rep_vec]
  refine ⟨by simp, ?_⟩
  try simp only [List.set_cons_succ, List.set_cons_zero]
  rw [show D.lst ((List.range n).map fun _ => D.lst (vecL n fun _ => 0)) = matL n (fun _ _ => 0) from rfl]
  -- the double loop
  rw [ws_bind]
  refine ws_forR n (fun a ρ => ∃ d R o5 o6 o7, ρ = [some (.scr ns), some d, some (.int n), some (.lst (vecL n S)), some (matL n R), o5, o6, o7, none, none, none, none, none, none, none, none, none, none, none] ∧ Dw ns d ∧ Fill n S R fun i j => i ≠ j ∧ i < a ∧ j < a) ?_ ⟨d2, fun _ _ => 0, _, _, _, rfl, hD2, fun _ _ => rfl, fun i j _ _ hd => by omega⟩ ?_ ?_
  · simp only [↓ws_bind, ↓ws_if, ↓ws_set, ↓ws_sub, ↓ws_ret, ↓ws_drop, ↓ws_par, ↓ws_asg, ↓ws_nx, ↓ws_retN, ↓wi_up, ↓wi_upB, ↓wi_cons, ↓wi_nil, ↓wi_op, ↓wi_opB, ↓wi_opL, ↓wi_if, ↓wi_and, ↓wi_or, ↓wi_not, ↓wi_B, ↓wi_call, ↓wi_callIO, ↓wi_here, ↓wi_app, ↓wi_pop, ↓wi_lc, ↓wLst_some, ↓w_and, ↓w_or, ↓w_not, ↓w_if, ↓w_bl, ↓w_B, ↓wT_bl, ↓w_andV, ↓w_orV, ↓w_notV, ↓w_chain, ↓w_opB, ↓w_op, ↓w_opL, ↓w_cons, ↓w_nil, ↓w_var, ↓w_c, ↓w_call, ↓w_callB, ↓w_meth, ↓w_make, ↓w_items, ↓w_range, ↓w_zip, ↓w_disp1, ↓w_lc, ↓wV_some, ↓wp_ix, ↓wp_var, ↓wPx_lst, ↓w_gN, ↓w_gT2, ↓w_gSub, ↓g_add, ↓g_sub, ↓g_mul, ↓g_div, ↓g_mod, ↓g_neg, ↓g_pow18, ↓g_ge, ↓g_gt, ↓g_lt, ↓g_le, ↓g_eq, ↓g_ne, ↓g_ixL, ↓g_ixT, ↓g_lenL, ↓g_lenT, ↓g_lenK, ↓g_int, ↓g_intB, ↓g_abs, ↓g_tup, ↓g_lst, ↓g_listS, ↓g_listL, ↓g_listT, ↓g_tupL, ↓g_tupT, ↓g_is, ↓g_isNot, ↓g_isN, ↓g_isNotN, ↓g_max2, ↓g_min2, ↓g_mulL, ↓g_addL, ↓g_sumL, ↓g_sumT, ↓atI_lit, ↓atI_nat, ↓ixN_lit, ↓ixN_nat, ↓wO_some, ↓w_ite, ↓wR_ok, id, List.getElem?_cons_zero, List.getElem?_cons_succ, List.length_cons, List.length_nil, List.length_map, List.length_set, List.set_cons_zero, List.set_cons_succ, deq_i, dok_i, deq_b, dok_b, dok_n, true_and, and_true, ↓w_lc2, ↓ws_fld, ↓wIns_some, ↓ws_dput, ↓wDk_int, ↓g_dnotin, ↓g_oB, ↓g_isiTT, ↓g_isiII, ↓g_isiIB, ↓keyD_int]
    exact ⟨by omega, by rw [Int.toNat_natCast]⟩
  · rintro a ρ ha ⟨d, R, o5, o6, o7, rfl, hd, hR⟩
    rw [w_gN]
    refine ⟨by simp, ?_⟩
    try simp only [List.set_cons_succ, List.set_cons_zero]
    refine ws_forR a (fun b ρ => ∃ d R o6 o7, ρ = [some (.scr ns), some d, some (.int n), some (.lst (vecL n S)), some (matL n R), some (.int a), o6, o7, none, none, none, none, none, none, none, none, none, none, none] ∧ Dw ns d ∧ Fill n S R fun i j => i ≠ j ∧ ((i < a ∧ j < a) ∨ (i = a ∧ j < b) ∨ (j = a ∧ i < b))) ?_ ⟨d, R, _, _, rfl, hd, fill_imp hR fun i j _ _ hd => by omega⟩ ?_ ?_
    · simp only [↓ws_bind, ↓ws_if, ↓ws_set, ↓ws_sub, ↓ws_ret, ↓ws_drop, ↓ws_par, ↓ws_asg, ↓ws_nx, ↓ws_retN, ↓wi_up, ↓wi_upB, ↓wi_cons, ↓wi_nil, ↓wi_op, ↓wi_opB, ↓wi_opL, ↓wi_if, ↓wi_and, ↓wi_or, ↓wi_not, ↓wi_B, ↓wi_call, ↓wi_callIO, ↓wi_here, ↓wi_app, ↓wi_pop, ↓wi_lc, ↓wLst_some, ↓w_and, ↓w_or, ↓w_not, ↓w_if, ↓w_bl, ↓w_B, ↓wT_bl, ↓w_andV, ↓w_orV, ↓w_notV, ↓w_chain, ↓w_opB, ↓w_op, ↓w_opL, ↓w_cons, ↓w_nil, ↓w_var, ↓w_c, ↓w_call, ↓w_callB, ↓w_meth, ↓w_make, ↓w_items, ↓w_range, ↓w_zip, ↓w_disp1, ↓w_lc, ↓wV_some, ↓wp_ix, ↓wp_var, ↓wPx_lst, ↓w_gN, ↓w_gT2, ↓w_gSub, ↓g_add, ↓g_sub, ↓g_mul, ↓g_div, ↓g_mod, ↓g_neg, ↓g_pow18, ↓g_ge, ↓g_gt, ↓g_lt, ↓g_le, ↓g_eq, ↓g_ne, ↓g_ixL, ↓g_ixT, ↓g_lenL, ↓g_lenT, ↓g_lenK, ↓g_int, ↓g_intB, ↓g_abs, ↓g_tup, ↓g_lst, ↓g_listS, ↓g_listL, ↓g_listT, ↓g_tupL, ↓g_tupT, ↓g_is, ↓g_isNot, ↓g_isN, ↓g_isNotN, ↓g_max2, ↓g_min2, ↓g_mulL, ↓g_addL, ↓g_sumL, ↓g_sumT, ↓atI_lit, ↓atI_nat, ↓ixN_lit, ↓ixN_nat, ↓wO_some, ↓w_ite, ↓wR_ok, id, List.getElem?_cons_zero, List.getElem?_cons_succ, List.length_cons, List.length_nil, List.length_map, List.length_set, List.set_cons_zero, List.set_cons_succ, deq_i, dok_i, deq_b, dok_b, dok_n, true_and, and_true, ↓w_lc2, ↓ws_fld, ↓wIns_some, ↓ws_dput, ↓wDk_int, ↓g_dnotin, ↓g_oB, ↓g_isiTT, ↓g_isiII, ↓g_isiIB, ↓keyD_int]
      exact ⟨by omega, by rw [Int.toNat_natCast]⟩
    · rintro b ρ hb ⟨d, R, o6, o7, rfl, hd, hR⟩
      rw [w_gN]
      refine ⟨by simp, ?_⟩
      try simp only [List.set_cons_succ, List.set_cons_zero]
      rw [ws_bind, ws_set]
      simp only [↓wi_op, ↓wi_cons, ↓wi_nil, ↓wi_up, ↓w_c, ↓wi_callIO, ↓wi_here, ↓List.getElem?_cons_succ, ↓List.getElem?_cons_zero, ↓wV_some, List.set_cons_succ, List.set_cons_zero]
      refine draw_w T hd (by omega) (by omega) fun v d' v0 v4 hd' => ?_
      rw [g_add]
      refine ⟨by simp, ?_⟩
      try simp only [List.set_cons_succ, List.set_cons_zero]
      rw [ws_asg, wi_up]
      have hbn : b < n := by omega
      obtain ⟨sa1, sa2⟩ := hS a ha
      obtain ⟨sb1, sb2⟩ := hS b hbn
      have lv : (1 + v).natAbs.log2 < 20 := log_lt (by decide) (by omega)
      have la : (S a).natAbs.log2 < 20 := log_lt (by decide) (by omega)
      have lb : (S b).natAbs.log2 < 20 := log_lt (by decide) (by omega)
      simp only [↓w_op, ↓w_cons, ↓w_nil, ↓w_var, ↓List.getElem?_cons_succ, ↓List.getElem?_cons_zero, ↓wV_some, ↓vec_ix ha, ↓vec_ix hbn, ↓g_mul, ↓g_tup]
      refine ⟨by omega, by omega, by rw [ez]; simp, ?_⟩
      rw [w_gT2, w_gSub, matL_place ha hbn rfl (fun {Q} => by simp only [↓w_var, ↓List.getElem?_cons_succ, ↓List.getElem?_cons_zero, ↓wV_some]) (fun {Q} => by simp only [↓w_var, ↓List.getElem?_cons_succ, ↓List.getElem?_cons_zero, ↓wV_some])]
      dsimp only
      rw [upd_D ha]
      try simp only [List.set_cons_succ, List.set_cons_zero]
      rw [w_gSub, matL_place hbn ha rfl (fun {Q} => by simp only [↓w_var, ↓List.getElem?_cons_succ, ↓List.getElem?_cons_zero, ↓wV_some]) (fun {Q} => by simp only [↓w_var, ↓List.getElem?_cons_succ, ↓List.getElem?_cons_zero, ↓wV_some])]
      dsimp only
      rw [upd_D hbn]
      try simp only [List.set_cons_succ, List.set_cons_zero]
      exact ⟨d', _, _, _, rfl, hd', fill_imp (fill_upd (t := 1 + v) (by omega) ha hbn hR (by omega) (by omega)) fun i j _ _ hd => by omega⟩
    · rintro ρ ⟨d, R, o6, o7, rfl, hd, hR⟩
      exact ⟨d, R, _, _, _, rfl, hd, fill_imp hR fun i j _ _ hd => by omega⟩
  rintro ρ ⟨d3, R, o5, o6, o7, rfl, hD3, hR⟩
  have hR : Fill n S R fun i j => i ≠ j := fill_imp hR fun i j hi hj hd => ⟨hd, hi, hj⟩
  have hM := fill_made hR hS
  have hsm := fill_small hR hS
  have hps := fill_pos hR hS
  obtain ⟨dn, d0, ei, rfl, rfl⟩ := init_ok T (n := n) (R := R) (by omega) (by omega) (fun i j hi hj => (hsm i j hi hj).1) hM.d
  -- made
  dsimp only
  rw [ws_bind, ws_set, wi_up, w_make]
  simp only [↓w_op, ↓w_cons, ↓w_nil]
  rw [w_lc, w_items]
  simp only [↓w_var, ↓List.getElem?_cons_succ, ↓List.getElem?_cons_zero, ↓wV_some]
  unfold matL
  dsimp only
  refine ⟨by rw [rng_len, ez]; omega, ?_⟩
  refine wLc_all (g := fun i => .tup (vecL n (R i))) (fun x hx => ?_) ?_
  · rw [w_gN]
    refine ⟨by simp [wipeR], ?_⟩
    simp only [wipeR, List.set_cons_succ, List.set_cons_zero]
    simp only [↓ws_bind, ↓ws_if, ↓ws_set, ↓ws_sub, ↓ws_ret, ↓ws_drop, ↓ws_par, ↓ws_asg, ↓ws_nx, ↓ws_retN, ↓wi_up, ↓wi_upB, ↓wi_cons, ↓wi_nil, ↓wi_op, ↓wi_opB, ↓wi_opL, ↓wi_if, ↓wi_and, ↓wi_or, ↓wi_not, ↓wi_B, ↓wi_call, ↓wi_callIO, ↓wi_here, ↓wi_app, ↓wi_pop, ↓wi_lc, ↓wLst_some, ↓w_and, ↓w_or, ↓w_not, ↓w_if, ↓w_bl, ↓w_B, ↓wT_bl, ↓w_andV, ↓w_orV, ↓w_notV, ↓w_chain, ↓w_opB, ↓w_op, ↓w_opL, ↓w_cons, ↓w_nil, ↓w_var, ↓w_c, ↓w_call, ↓w_callB, ↓w_meth, ↓w_make, ↓w_items, ↓w_range, ↓w_zip, ↓w_disp1, ↓w_lc, ↓wV_some, ↓wp_ix, ↓wp_var, ↓wPx_lst, ↓w_gN, ↓w_gT2, ↓w_gSub, ↓g_add, ↓g_sub, ↓g_mul, ↓g_div, ↓g_mod, ↓g_neg, ↓g_pow18, ↓g_ge, ↓g_gt, ↓g_lt, ↓g_le, ↓g_eq, ↓g_ne, ↓g_ixL, ↓g_ixT, ↓g_lenL, ↓g_lenT, ↓g_lenK, ↓g_int, ↓g_intB, ↓g_abs, ↓g_tup, ↓g_lst, ↓g_listS, ↓g_listL, ↓g_listT, ↓g_tupL, ↓g_tupT, ↓g_is, ↓g_isNot, ↓g_isN, ↓g_isNotN, ↓g_max2, ↓g_min2, ↓g_mulL, ↓g_addL, ↓g_sumL, ↓g_sumT, ↓atI_lit, ↓atI_nat, ↓ixN_lit, ↓ixN_nat, ↓wO_some, ↓w_ite, ↓wR_ok, id, List.getElem?_cons_zero, List.getElem?_cons_succ, List.length_cons, List.length_nil, List.length_map, List.length_set, List.set_cons_zero, List.set_cons_succ, deq_i, dok_i, deq_b, dok_b, dok_n, true_and, and_true, ↓w_lc2, ↓ws_fld, ↓wIns_some, ↓ws_dput, ↓wDk_int, ↓g_dnotin, ↓g_oB, ↓g_isiTT, ↓g_isiII, ↓g_isiIB, ↓keyD_int]
  rw [g_tupL]
  refine ⟨_, ei, ?_⟩
  refine ⟨by simp, ?_⟩
  try simp only [List.set_cons_succ, List.set_cons_zero]
  -- are strengths
  have smS : Sm n R S := ⟨fun i j hi hj => (hsm i j hi hj).1, fun i j hi hj => (hsm i j hi hj).2, fun i hi => by have := hS i hi; omega, fun i hi => by have := hS i hi; omega⟩
  have sm3 : Sm n R (fun i => 3 * S i) := ⟨fun i j hi hj => (hsm i j hi hj).1, fun i j hi hj => (hsm i j hi hj).2, fun i hi => by have := hS i hi; show _ < _; omega, fun i hi => by have := hS i hi; show _ < _; omega⟩
  have eS : m_are_strengths T [cts T.C_Counts n R, .lst (vecL n S)] = .ok (.bl true) := by
    rw [are_ok T (by omega) smS, are_true hM hM.s0 fun a b _ _ => rfl]
  have e3 : m_are_strengths T [cts T.C_Counts n R, .lst (vecL n fun i => 3 * S i)] = .ok (.bl true) := by
    rw [are_ok T (by omega) sm3, are_true hM sm3.s0 fun a b _ _ => by grind]
  rw [ws_bind, ws_if, wi_upB]
  simp only [↓w_or, ↓w_opB, ↓w_call, ↓w_cons, ↓w_nil, ↓w_var, ↓w_c, ↓List.getElem?_cons_succ, ↓List.getElem?_cons_zero, ↓wV_some]
  rw [eS, wR_ok, g_isNot, if_neg (by decide)]
  rw [w_lc, w_items]
  simp only [↓w_var, ↓List.getElem?_cons_succ, ↓List.getElem?_cons_zero, ↓wV_some]
  refine ⟨by rw [vec_len, ez]; omega, ?_⟩
  unfold vecL
  refine wLc_all (g := fun i => .int (3 * S i)) (fun x hx => ?_) ?_
  · rw [w_gN]
    refine ⟨by simp [wipeR], ?_⟩
    simp only [wipeR, List.set_cons_succ, List.set_cons_zero]
    have hx := List.mem_range.mp hx
    have lx : (S x).natAbs.log2 < 20 := log_lt (by decide) (by have := hS x hx; omega)
    simp only [↓w_op, ↓w_c, ↓w_cons, ↓w_nil, ↓w_var, ↓List.getElem?_cons_succ, ↓List.getElem?_cons_zero, ↓wV_some, ↓g_mul]
    exact ⟨by have : (3 : Int).natAbs.log2 < 20 := log_lt (by decide) (by decide)
              omega, trivial⟩
  rw [show ((List.range n).map fun i => D.int (3 * S i)) = vecL n (fun i => 3 * S i) from rfl, e3, wR_ok, g_isNot, if_neg (by decide)]
  rw [show ((List.range n).map fun i => D.int (S i)) = vecL n S from rfl]
  rw [ws_nx]
  -- no strong lot
  dsimp only
  rw [ws_bind, ws_if, wi_upB]
  have eL := strong_ok T (n := n) (R := R) (by omega) hps
  have key : ∀ (Q : Bool → Prop) (E : Exn → Prop), Q false → (wB (fAnd (fOpB (fCons (eVar 2) (fCons (eC (.int 1)) (fun _ => .ok []))) gGt) (fOpB (fCons (fCall (fCons (eVar 8) (fun _ => .ok [])) (m_strong_lot T)) (fCons (eC .non) (fun _ => .ok []))) gIsNotN)) [some (.scr ns), some d3, some (.int n), some (.lst (vecL n S)), some (matL n R), o5, o6, o7, some (cts T.C_Counts n R), none, none, none, none, none, none, none, none, none, none] Q E) := by
    intro Q E q
    simp only [↓w_and, ↓w_opB, ↓w_call, ↓w_cons, ↓w_nil, ↓w_var, ↓w_c, ↓List.getElem?_cons_succ, ↓List.getElem?_cons_zero, ↓wV_some, ↓g_gt]
    split
    · rw [eL, wR_ok, g_isNotN]
      exact q
    · exact q
  refine key _ _ ?_
  clear key
  rw [if_neg (by decide), ws_nx]
  dsimp only
  -- others
  rw [ws_bind, ws_set, wi_lc, w_range]
  simp only [↓w_cons, ↓w_nil, ↓w_var, ↓List.getElem?_cons_succ, ↓List.getElem?_cons_zero, ↓wV_some]
  refine ⟨by omega, ?_⟩
  rw [Int.toNat_natCast, rng_map]
  refine ⟨by rw [rng_len, ez]; omega, ?_⟩
  refine wLcI_all (fun ρ => ∃ d, ρ = [some (.scr ns), some d, some (.int n), some (.lst (vecL n S)), some (matL n R), o5, o6, o7, some (cts T.C_Counts n R), none, none, none, none, none, none, none, none, none, none] ∧ Dw ns d) (fun j y => ∃ s : Int, y = .int s ∧ 1 ≤ s ∧ s ≤ 4) ⟨d3, rfl, hD3⟩ ?_ ?_
  · rintro j hj ρ ⟨d, rfl, hd⟩
    rw [Int.zero_add, w_gN]
    refine ⟨by simp, ?_⟩
    try simp only [List.set_cons_succ, List.set_cons_zero]
    simp only [↓wi_op, ↓wi_cons, ↓wi_nil, ↓wi_up, ↓w_c, ↓wi_callIO, ↓wi_here, ↓List.getElem?_cons_succ, ↓List.getElem?_cons_zero, ↓wV_some, List.set_cons_succ, List.set_cons_zero]
    refine draw_w T hd (by omega) (by omega) fun v d' v0 v4 hd' => ?_
    rw [g_add]
    exact ⟨⟨_, rfl, by omega, by omega⟩, d', rfl, hd'⟩
  rintro r ρn ⟨d4, rfl, hD4⟩ hl hP
  obtain ⟨O, rfl, hO⟩ := vec_of (n := n) (r := r) (P := fun s => 1 ≤ s ∧ s ≤ 4) (by rw [hl, List.length_range]) fun i hi => by
    obtain ⟨y, hy⟩ : ∃ y, r[i]? = some y := ⟨_, List.getElem?_eq_getElem (by rw [hl, List.length_range]; exact hi)⟩
    obtain ⟨s, e, p⟩ := hP i i y (List.getElem?_range hi) hy
    exact ⟨s, by rw [hy, e], p⟩
  clear hl hP
  simp only [restR, List.getElem?_cons_succ, List.getElem?_cons_zero, List.set_cons_succ, List.set_cons_zero, Option.getD_some, Option.getD_none]
  refine ⟨by simp, ?_⟩
  -- alike
  have o0 : ∀ i, i < n → 0 < O i := fun i hi => by have := hO i hi; omega
  have lS : ∀ i, i < n → (S i).natAbs.log2 < 20 := fun i hi => log_lt (by decide) (by have := hS i hi; omega)
  have lO : ∀ i, i < n → (O i).natAbs.log2 < 20 := fun i hi => log_lt (by decide) (by have := hO i hi; omega)
  have hn0 : 0 < n := by omega
  rw [ws_bind, ws_set, wi_up]
  simp only [↓w_op, ↓w_cons, ↓w_nil, ↓w_c]
  rw [w_lc, w_range]
  simp only [↓w_cons, ↓w_nil, ↓w_var, ↓List.getElem?_cons_succ, ↓List.getElem?_cons_zero, ↓wV_some]
  refine ⟨by omega, ?_⟩
  rw [Int.toNat_natCast, rng_map]
  refine ⟨by rw [rng_len, ez]; omega, ?_⟩
  refine wLc_xs (p := fun k => !decide (O k * S 0 = S k * O 0)) (g := fun k => .int k) (fun x hx => ?_) ?_
  · have hx := List.mem_range.mp hx
    rw [Int.zero_add, w_gN]
    refine ⟨by simp [wipeR], ?_⟩
    simp only [wipeR, List.set_cons_succ, List.set_cons_zero]
    have q1 := lS 0 hn0
    have q2 := lO 0 hn0
    have q3 := lS x hx
    have q4 := lO x hx
    have a0 : ∀ {T : Nat → Int} {Q : D → Prop}, wO (gIx [.lst (vecL n T), .int 0]) Q = Q (.int (T 0)) := fun {T Q} => vec_ix (i := 0) hn0
    simp only [↓w_opB, ↓w_op, ↓w_c, ↓w_cons, ↓w_nil, ↓w_var, ↓List.getElem?_cons_succ, ↓List.getElem?_cons_zero, ↓wV_some, ↓vec_ix hx, ↓a0, ↓g_mul, ↓g_ne, deq_i, dok_i, true_and, and_true]
    exact ⟨by omega, by omega, fun _ => trivial⟩
  rw [g_lenL, g_oB, g_eq]
  simp only [dok_i, deq_i, true_and, and_true]
  refine ⟨by simp, ?_⟩
  try simp only [List.set_cons_succ, List.set_cons_zero]
  have smO : Sm n R O := ⟨fun i j hi hj => (hsm i j hi hj).1, fun i j hi hj => (hsm i j hi hj).2, o0, fun i hi => by have := hO i hi; omega⟩
  have eO := are_ok T (by omega) smO
  have eal : decide (((List.map (fun k : Nat => D.int k) ((List.range n).filter fun k => !decide (O k * S 0 = S k * O 0))).length : Int) = 0) = areB n R O := by
    have := are_alike hM hn0 o0
    rw [List.length_map, Bool.eq_iff_iff, this, decide_eq_true_iff]
    rw [Int.natCast_eq_zero, List.length_eq_zero_iff, List.filter_eq_nil_iff]
    simp
  rw [eal]
  rw [ws_bind, ws_if, wi_upB]
  simp only [↓w_opB, ↓w_call, ↓w_cons, ↓w_nil, ↓w_var, ↓List.getElem?_cons_succ, ↓List.getElem?_cons_zero, ↓wV_some]
  rw [eO, wR_ok, g_ne]
  refine ⟨⟨dok_b, dok_b⟩, ?_⟩
  rw [deq_b, decide_eq_true rfl, if_neg (by decide), ws_nx]
  dsimp only
  -- drawn
  obtain ⟨_, d5, ec, hD5, R2, rfl, hR2⟩ := counts_ok T (n := n) hD4 (by omega)
  rw [ws_bind, ws_set]
  simp only [↓wi_cons, ↓wi_nil, ↓wi_up, ↓w_c, ↓w_var, ↓wi_callIO, ↓wi_here, ↓List.getElem?_cons_succ, ↓List.getElem?_cons_zero, ↓wV_some, List.set_cons_succ, List.set_cons_zero]
  rw [ec]
  refine ⟨by simp, ?_⟩
  try simp only [List.set_cons_succ, List.set_cons_zero]
  obtain ⟨dn, d0, ei2, rfl, rfl⟩ := init_ok T (n := n) (R := R2) (by omega) (by omega) (fun i j hi hj => (hR2 i j hi hj).1.1) (fun i hi => (hR2 i i hi hi).2 rfl)
  rw [ws_bind, ws_set, wi_up, w_make]
  simp only [↓w_cons, ↓w_nil, ↓w_var, ↓List.getElem?_cons_succ, ↓List.getElem?_cons_zero, ↓wV_some]
  refine ⟨_, ei2, ?_⟩
  refine ⟨by simp, ?_⟩
  try simp only [List.set_cons_succ, List.set_cons_zero]
  rw [ws_bind, ws_set, wi_up, w_c]
  refine ⟨by simp, ?_⟩
  try simp only [List.set_cons_succ, List.set_cons_zero]
  have sm2 : Sm n R2 O := ⟨fun i j hi hj => (hR2 i j hi hj).1.1, fun i j hi hj => (hR2 i j hi hj).1.2, o0, fun i hi => by have := hO i hi; omega⟩
  rw [ws_bind]
  refine ws_forR n (fun a ρ => ∃ o5 o6 o14, ρ = [some (.scr ns), some d5, some (.int n), some (.lst (vecL n S)), some (matL n R), o5, o6, o7, some (cts T.C_Counts n R), some (.lst (vecL n O)), some (.bl (areB n R O)), some (matT n R2), some (cts T.C_Counts n R2), some (.bl ((List.range a).all fun a => decide (due R2 O a n = (sumN n (R2 a), 1)))), o14, none, none, none, none]) ?_ ⟨_, _, _, rfl⟩ ?_ ?_
  · simp only [↓ws_bind, ↓ws_if, ↓ws_set, ↓ws_sub, ↓ws_ret, ↓ws_drop, ↓ws_par, ↓ws_asg, ↓ws_nx, ↓ws_retN, ↓wi_up, ↓wi_upB, ↓wi_cons, ↓wi_nil, ↓wi_op, ↓wi_opB, ↓wi_opL, ↓wi_if, ↓wi_and, ↓wi_or, ↓wi_not, ↓wi_B, ↓wi_call, ↓wi_callIO, ↓wi_here, ↓wi_app, ↓wi_pop, ↓wi_lc, ↓wLst_some, ↓w_and, ↓w_or, ↓w_not, ↓w_if, ↓w_bl, ↓w_B, ↓wT_bl, ↓w_andV, ↓w_orV, ↓w_notV, ↓w_chain, ↓w_opB, ↓w_op, ↓w_opL, ↓w_cons, ↓w_nil, ↓w_var, ↓w_c, ↓w_call, ↓w_callB, ↓w_meth, ↓w_make, ↓w_items, ↓w_range, ↓w_zip, ↓w_disp1, ↓w_lc, ↓wV_some, ↓wp_ix, ↓wp_var, ↓wPx_lst, ↓w_gN, ↓w_gT2, ↓w_gSub, ↓g_add, ↓g_sub, ↓g_mul, ↓g_div, ↓g_mod, ↓g_neg, ↓g_pow18, ↓g_ge, ↓g_gt, ↓g_lt, ↓g_le, ↓g_eq, ↓g_ne, ↓g_ixL, ↓g_ixT, ↓g_lenL, ↓g_lenT, ↓g_lenK, ↓g_int, ↓g_intB, ↓g_abs, ↓g_tup, ↓g_lst, ↓g_listS, ↓g_listL, ↓g_listT, ↓g_tupL, ↓g_tupT, ↓g_is, ↓g_isNot, ↓g_isN, ↓g_isNotN, ↓g_max2, ↓g_min2, ↓g_mulL, ↓g_addL, ↓g_sumL, ↓g_sumT, ↓atI_lit, ↓atI_nat, ↓ixN_lit, ↓ixN_nat, ↓wO_some, ↓w_ite, ↓wR_ok, id, List.getElem?_cons_zero, List.getElem?_cons_succ, List.length_cons, List.length_nil, List.length_map, List.length_set, List.set_cons_zero, List.set_cons_succ, deq_i, dok_i, deq_b, dok_b, dok_n, true_and, and_true, ↓w_lc2, ↓ws_fld, ↓wIns_some, ↓ws_dput, ↓wDk_int, ↓g_dnotin, ↓g_oB, ↓g_isiTT, ↓g_isiII, ↓g_isiIB, ↓keyD_int]
    exact ⟨by omega, by rw [Int.toNat_natCast]⟩
  · rintro a ρ ha ⟨o5, o6, o14, rfl⟩
    rw [w_gN]
    refine ⟨by simp, ?_⟩
    try simp only [List.set_cons_succ, List.set_cons_zero]
    rw [ws_bind, ws_set, wi_up]
    simp only [↓w_op, ↓w_c, ↓w_cons, ↓w_nil, ↓g_tup]
    refine ⟨by rw [ez]; simp, by simp, ?_⟩
    try simp only [List.set_cons_succ, List.set_cons_zero]
    rw [ws_bind]
    refine ws_forR n (fun b ρ => ∃ o6, ρ = [some (.scr ns), some d5, some (.int n), some (.lst (vecL n S)), some (matL n R), some (.int a), o6, o7, some (cts T.C_Counts n R), some (.lst (vecL n O)), some (.bl (areB n R O)), some (matT n R2), some (cts T.C_Counts n R2), some (.bl ((List.range a).all fun a => decide (due R2 O a n = (sumN n (R2 a), 1)))), some (pr (due R2 O a b)), none, none, none, none]) ?_ ⟨_, rfl⟩ ?_ ?_
    · simp only [↓ws_bind, ↓ws_if, ↓ws_set, ↓ws_sub, ↓ws_ret, ↓ws_drop, ↓ws_par, ↓ws_asg, ↓ws_nx, ↓ws_retN, ↓wi_up, ↓wi_upB, ↓wi_cons, ↓wi_nil, ↓wi_op, ↓wi_opB, ↓wi_opL, ↓wi_if, ↓wi_and, ↓wi_or, ↓wi_not, ↓wi_B, ↓wi_call, ↓wi_callIO, ↓wi_here, ↓wi_app, ↓wi_pop, ↓wi_lc, ↓wLst_some, ↓w_and, ↓w_or, ↓w_not, ↓w_if, ↓w_bl, ↓w_B, ↓wT_bl, ↓w_andV, ↓w_orV, ↓w_notV, ↓w_chain, ↓w_opB, ↓w_op, ↓w_opL, ↓w_cons, ↓w_nil, ↓w_var, ↓w_c, ↓w_call, ↓w_callB, ↓w_meth, ↓w_make, ↓w_items, ↓w_range, ↓w_zip, ↓w_disp1, ↓w_lc, ↓wV_some, ↓wp_ix, ↓wp_var, ↓wPx_lst, ↓w_gN, ↓w_gT2, ↓w_gSub, ↓g_add, ↓g_sub, ↓g_mul, ↓g_div, ↓g_mod, ↓g_neg, ↓g_pow18, ↓g_ge, ↓g_gt, ↓g_lt, ↓g_le, ↓g_eq, ↓g_ne, ↓g_ixL, ↓g_ixT, ↓g_lenL, ↓g_lenT, ↓g_lenK, ↓g_int, ↓g_intB, ↓g_abs, ↓g_tup, ↓g_lst, ↓g_listS, ↓g_listL, ↓g_listT, ↓g_tupL, ↓g_tupT, ↓g_is, ↓g_isNot, ↓g_isN, ↓g_isNotN, ↓g_max2, ↓g_min2, ↓g_mulL, ↓g_addL, ↓g_sumL, ↓g_sumT, ↓atI_lit, ↓atI_nat, ↓ixN_lit, ↓ixN_nat, ↓wO_some, ↓w_ite, ↓wR_ok, id, List.getElem?_cons_zero, List.getElem?_cons_succ, List.length_cons, List.length_nil, List.length_map, List.length_set, List.set_cons_zero, List.set_cons_succ, deq_i, dok_i, deq_b, dok_b, dok_n, true_and, and_true, ↓w_lc2, ↓ws_fld, ↓wIns_some, ↓ws_dput, ↓wDk_int, ↓g_dnotin, ↓g_oB, ↓g_isiTT, ↓g_isiII, ↓g_isiIB, ↓keyD_int]
      exact ⟨by omega, by rw [Int.toNat_natCast]⟩
    · rintro b ρ hb ⟨o6, rfl⟩
      rw [w_gN]
      refine ⟨by simp, ?_⟩
      try simp only [List.set_cons_succ, List.set_cons_zero]
      rw [ws_if, wi_upB]
      simp only [↓w_opB, ↓w_cons, ↓w_nil, ↓w_var, ↓List.getElem?_cons_succ, ↓List.getElem?_cons_zero, ↓wV_some, ↓g_ne, deq_i, dok_i, true_and, and_true]
      by_cases q : a = b
      · rw [decide_eq_true (by omega : (a : Int) = b), if_neg (by decide), ws_nx]
        subst q
        rw [due_same]
        exact ⟨_, rfl⟩
      · rw [decide_eq_false (by omega : ¬ (a : Int) = b), if_pos (by decide)]
        rw [ws_set, wi_up]
        obtain ⟨t1, t2, t3⟩ := term_bits sm2 ha hb
        have l1 : (R2 a b + R2 b a).natAbs.log2 < 20 := log_lt (by decide) (by have := (hR2 a b ha hb).1; have := (hR2 b a hb ha).1; omega)
        have l2 := lO a ha
        simp only [↓w_call, ↓w_op, ↓w_cons, ↓w_nil, ↓w_var, ↓List.getElem?_cons_succ, ↓List.getElem?_cons_zero, ↓wV_some, ↓mat_ix ha, ↓mat_ix hb, ↓row_ix ha, ↓row_ix hb, ↓vec_ix ha, ↓vec_ix hb, ↓g_add, ↓g_mul]
        refine ⟨by omega, ?_⟩
        rw [law_low_ok T t3 (pow_BB t1 (by decide)) (pow_BB t2 (by decide)), wR_ok]
        rw [law_plus_ok T (due_Bp sm2 ha (Nat.le_of_lt hb)) (low_Bp t3 t1 t2) (by omega), wR_ok]
        refine ⟨by simp, ?_⟩
        try simp only [List.set_cons_succ, List.set_cons_zero]
        rw [show fplus (due R2 O a b) (low ((R2 a b + R2 b a) * O a) (O a + O b)) = due R2 O a (b + 1) from (if_neg q).symm]
        exact ⟨_, rfl⟩
    · rintro ρ ⟨o6, rfl⟩
      dsimp only
      rw [ws_set, wi_up]
      simp only [↓w_andV, ↓w_B, ↓w_op, ↓w_c, ↓w_cons, ↓w_nil, ↓w_var, ↓List.getElem?_cons_succ, ↓List.getElem?_cons_zero, ↓wV_some, ↓mat_ix ha, ↓g_sumT, ↓g_tup, ↓wT_bl]
      have eq : (List.range (a + 1)).all (fun a => decide (due R2 O a n = (sumN n (R2 a), 1))) = ((List.range a).all (fun a => decide (due R2 O a n = (sumN n (R2 a), 1))) && decide (due R2 O a n = (sumN n (R2 a), 1))) := by
        rw [List.range_succ, List.all_append]; simp
      by_cases q : ((List.range a).all fun a => decide (due R2 O a n = (sumN n (R2 a), 1))) = true
      · rw [if_pos q]
        refine ⟨by rw [ez]; simp, ?_⟩
        rw [g_oB, show (D.tup [.int (sumN n (R2 a)), .int 1]) = pr (sumN n (R2 a), 1) from rfl, g_eq]
        refine ⟨⟨dok_pr, dok_pr⟩, by simp, ?_⟩
        try simp only [List.set_cons_succ, List.set_cons_zero]
        rw [q, Bool.true_and] at eq
        rw [deq_pr, ← eq]
        exact ⟨_, _, _, rfl⟩
      · rw [if_neg q]
        refine ⟨by simp, ?_⟩
        try simp only [List.set_cons_succ, List.set_cons_zero]
        rw [Bool.not_eq_true] at q
        rw [q, Bool.false_and] at eq
        rw [← eq]
        exact ⟨_, _, _, rfl⟩
  rintro ρ ⟨o5, o6, o14, rfl⟩
  dsimp only
  rw [ws_bind, ws_if, wi_upB]
  have eO2 := are_ok T (by omega) sm2
  simp only [↓w_opB, ↓w_call, ↓w_cons, ↓w_nil, ↓w_var, ↓List.getElem?_cons_succ, ↓List.getElem?_cons_zero, ↓wV_some]
  rw [eO2, wR_ok, g_ne]
  refine ⟨⟨dok_b, dok_b⟩, ?_⟩
  rw [deq_b, show areB n R2 O = ((List.range n).all fun a => decide (due R2 O a n = (sumN n (R2 a), 1))) from rfl, decide_eq_true rfl, if_neg (by decide), ws_nx]
  dsimp only
  -- ratings
  rw [ws_bind, ws_set, wi_up]
  simp only [↓w_call, ↓w_cons, ↓w_nil, ↓w_var, ↓List.getElem?_cons_succ, ↓List.getElem?_cons_zero, ↓wV_some]
  by_cases q : n = 2
  · subst q
    obtain ⟨x, y, eh, bx, by', hxy⟩ := half2 T hsm hM.d (hps 0 1 (by omega) (by omega) (by decide)) (hps 1 0 (by omega) (by omega) (by decide))
    rw [eh, wR_ok]
    refine ⟨by simp, ?_⟩
    try simp only [List.set_cons_succ, List.set_cons_zero]
    rw [ws_bind, ws_if, wi_upB]
    have q1 : x.1.natAbs.log2 < 300 := log_lt (by decide) bx.1
    have q2 : x.2.natAbs.log2 < 300 := log_lt (by decide) bx.2.1
    have q3 : y.1.natAbs.log2 < 300 := log_lt (by decide) by'.1
    have q4 : y.2.natAbs.log2 < 300 := log_lt (by decide) by'.2.1
    have e1 : R 1 0 < R 0 1 ↔ S 1 < S 0 := by
      obtain ⟨t, t1, h1, h2⟩ := hM.t 0 1 (by omega) (by omega) (by decide)
      rw [h1, h2]
      exact ⟨fun z => Int.lt_of_mul_lt_mul_left z (by omega), fun z => Int.mul_lt_mul_of_pos_left z t1⟩
    have a0 : ∀ {T : Nat → Int} {Q : D → Prop}, wO (gIx [.lst (vecL 2 T), .int 0]) Q = Q (.int (T 0)) := fun {T Q} => vec_ix (i := 0) (by decide)
    have a1 : ∀ {T : Nat → Int} {Q : D → Prop}, wO (gIx [.lst (vecL 2 T), .int 1]) Q = Q (.int (T 1)) := fun {T Q} => vec_ix (i := 1) (by decide)
    have b0 : ∀ {x y : D} {Q : D → Prop}, wO (gIx [.tup [x, y], .int 0]) Q = Q x := nrfl rfl
    have b1 : ∀ {x y : D} {Q : D → Prop}, wO (gIx [.tup [x, y], .int 1]) Q = Q y := nrfl rfl
    simp only [↓w_and, ↓w_opB, ↓w_op, ↓w_c, ↓w_cons, ↓w_nil, ↓w_var, ↓List.getElem?_cons_succ, ↓List.getElem?_cons_zero, ↓wV_some, ↓g_eq, deq_i, dok_i, true_and, and_true, ↓a0, ↓a1, ↓b0, ↓b1, ↓pr_ix0, ↓pr_ix1, ↓g_mul, ↓g_oB, ↓g_gt, ↓g_ne, dok_b, deq_b]
    rw [decide_eq_true (by omega : ((2 : Nat) : Int) = 2), if_pos (by decide)]
    refine ⟨by omega, by omega, ?_⟩
    rw [decide_eq_true (by rw [decide_eq_decide, hxy, e1] : decide (y.1 * x.2 < x.1 * y.2) = decide (S 1 < S 0)), if_neg (by decide), ws_nx]
    dsimp only
    rw [ws_ret, wi_up, w_c]
  · obtain ⟨r, eh⟩ := half_runs T (n := n) (R := R) hn4 hsm
    rw [eh, wR_ok]
    refine ⟨by simp, ?_⟩
    try simp only [List.set_cons_succ, List.set_cons_zero]
    rw [ws_bind, ws_if, wi_upB]
    simp only [↓w_and, ↓w_opB, ↓w_c, ↓w_cons, ↓w_nil, ↓w_var, ↓List.getElem?_cons_succ, ↓List.getElem?_cons_zero, ↓wV_some, ↓g_eq, deq_i, dok_i, true_and, and_true]
    rw [decide_eq_false (by omega : ¬ (n : Int) = 2), if_neg (by decide), if_neg (by decide), ws_nx]
    dsimp only
    rw [ws_ret, wi_up, w_c]
end
end VL

set_option Elab.async false
set_option linter.all false
set_option maxRecDepth 100000
set_option maxHeartbeats 4000000
namespace VL
open PySem PySem.Spec PyProof.Rows L2
section
variable {P : Program} {w : World} {K : PySem.W.Frag} {mg : Str → Option Value} {base : Heap}
def spLaw (K : PySem.W.Frag) : Sp := fun vs H Q _ => ∃ (a : Addr) (ns : List Int), vs = [.ref a] ∧ SqL K H a (ns.map V.int) ∧ ns.length ≤ 63 ∧ ∀ H', Q (.bl true) H'
theorem law_ok (T : Tx P w K mg base) : FnOk P w K mg base (L2.CX P w) 5 T.f_law T.d_law ["script"] (spLaw K) := (ok_law T).imp fun vs H Q E h => by
  obtain ⟨a, ns, rfl, hS, hl, q⟩ := h
  refine ⟨fun _ => True, [.scr ns], rfl, .cons (by unfold Rq; exact ⟨a, rfl, .of hS trivial⟩) .nil, fun _ _ => trivial, ?_⟩
  rw [law_true T ns hl]
  intro v H' Lt g o _ _
  rw [o.of_zero.2.bl]
  exact q _
theorem all_mk {l : PySem.W.OpenLaw} {w : World} {K : PySem.W.Frag} {h : Heap} {mg : Str → Option Value} {fa C_Counts f_is_integer f_lowest f_plus f_times f_Counts___init__ f_Counts_wins f_Counts_losses f_Counts_met f_solved f_by_half_wins f_strong_lot f_are_strengths f__law_draws f__law_draw f__law_low f__law_plus f__law_counts f_law : Addr} {t_MOST_SIDES : Tok} (X : K.In h) (G : h.Ns mainGlobals mg) (hfa : mg "law" = some (.ref fa))
    {od_is_integer an_is_integer : Option Addr} {sl_is_integer : Array (Option Value)} {oc_is_integer kV_is_integer dc_is_integer pm_is_integer cd_is_integer ct_is_integer : Value}
    {od_lowest an_lowest : Option Addr} {sl_lowest : Array (Option Value)} {oc_lowest kV_lowest dc_lowest pm_lowest cd_lowest ct_lowest : Value}
    {od_plus an_plus : Option Addr} {sl_plus : Array (Option Value)} {oc_plus kV_plus dc_plus pm_plus cd_plus ct_plus : Value}
    {od_times an_times : Option Addr} {sl_times : Array (Option Value)} {oc_times kV_times dc_times pm_times cd_times ct_times : Value}
    {od_Counts___init__ an_Counts___init__ : Option Addr} {sl_Counts___init__ : Array (Option Value)} {oc_Counts___init__ kV_Counts___init__ dc_Counts___init__ pm_Counts___init__ cd_Counts___init__ ct_Counts___init__ : Value}
    {od_Counts_wins an_Counts_wins : Option Addr} {sl_Counts_wins : Array (Option Value)} {oc_Counts_wins kV_Counts_wins dc_Counts_wins pm_Counts_wins cd_Counts_wins ct_Counts_wins : Value}
    {od_Counts_losses an_Counts_losses : Option Addr} {sl_Counts_losses : Array (Option Value)} {oc_Counts_losses kV_Counts_losses dc_Counts_losses pm_Counts_losses cd_Counts_losses ct_Counts_losses : Value}
    {od_Counts_met an_Counts_met : Option Addr} {sl_Counts_met : Array (Option Value)} {oc_Counts_met kV_Counts_met dc_Counts_met pm_Counts_met cd_Counts_met ct_Counts_met : Value}
    {od_solved an_solved : Option Addr} {sl_solved : Array (Option Value)} {oc_solved kV_solved dc_solved pm_solved cd_solved ct_solved : Value}
    {od_by_half_wins an_by_half_wins : Option Addr} {sl_by_half_wins : Array (Option Value)} {oc_by_half_wins kV_by_half_wins dc_by_half_wins pm_by_half_wins cd_by_half_wins ct_by_half_wins : Value}
    {od_strong_lot an_strong_lot : Option Addr} {sl_strong_lot : Array (Option Value)} {oc_strong_lot kV_strong_lot dc_strong_lot pm_strong_lot cd_strong_lot ct_strong_lot : Value}
    {od_are_strengths an_are_strengths : Option Addr} {sl_are_strengths : Array (Option Value)} {oc_are_strengths kV_are_strengths dc_are_strengths pm_are_strengths cd_are_strengths ct_are_strengths : Value}
    {od__law_draws an__law_draws : Option Addr} {sl__law_draws : Array (Option Value)} {oc__law_draws kV__law_draws dc__law_draws pm__law_draws cd__law_draws ct__law_draws : Value}
    {od__law_draw an__law_draw : Option Addr} {sl__law_draw : Array (Option Value)} {oc__law_draw kV__law_draw dc__law_draw pm__law_draw cd__law_draw ct__law_draw : Value}
    {od__law_low an__law_low : Option Addr} {sl__law_low : Array (Option Value)} {oc__law_low kV__law_low dc__law_low pm__law_low cd__law_low ct__law_low : Value}
    {od__law_plus an__law_plus : Option Addr} {sl__law_plus : Array (Option Value)} {oc__law_plus kV__law_plus dc__law_plus pm__law_plus cd__law_plus ct__law_plus : Value}
    {od__law_counts an__law_counts : Option Addr} {sl__law_counts : Array (Option Value)} {oc__law_counts kV__law_counts dc__law_counts pm__law_counts cd__law_counts ct__law_counts : Value}
    {od_law an_law : Option Addr} {sl_law : Array (Option Value)} {oc_law kV_law dc_law pm_law cd_law ct_law : Value}
    (aC_Counts : PySem.W.nsIn K mainGlobals "Counts" = some (some (.ref C_Counts)))
    (a_is_integer : PySem.W.nsIn K mainGlobals "is_integer" = some (some (.ref f_is_integer)))
    (l_is_integer : K.lookup f_is_integer = some ⟨oc_is_integer, od_is_integer, .func (PySem.W.fnOf "is_integer" "is_integer" (defArgs s_is_integer) (defBody s_is_integer) (defScope s_is_integer) .none kV_is_integer dc_is_integer pm_is_integer an_is_integer cd_is_integer ct_is_integer), sl_is_integer⟩)
    (c_is_integer : PySem.W.codeIn K cd_is_integer "is_integer" = true)
    (k_is_integer : PySem.W.keepIn K (.ref f_is_integer) = true)
    (a_lowest : PySem.W.nsIn K mainGlobals "lowest" = some (some (.ref f_lowest)))
    (l_lowest : K.lookup f_lowest = some ⟨oc_lowest, od_lowest, .func (PySem.W.fnOf "lowest" "lowest" (defArgs s_lowest) (defBody s_lowest) (defScope s_lowest) .none kV_lowest dc_lowest pm_lowest an_lowest cd_lowest ct_lowest), sl_lowest⟩)
    (c_lowest : PySem.W.codeIn K cd_lowest "lowest" = true)
    (k_lowest : PySem.W.keepIn K (.ref f_lowest) = true)
    (a_plus : PySem.W.nsIn K mainGlobals "plus" = some (some (.ref f_plus)))
    (l_plus : K.lookup f_plus = some ⟨oc_plus, od_plus, .func (PySem.W.fnOf "plus" "plus" (defArgs s_plus) (defBody s_plus) (defScope s_plus) .none kV_plus dc_plus pm_plus an_plus cd_plus ct_plus), sl_plus⟩)
    (c_plus : PySem.W.codeIn K cd_plus "plus" = true)
    (k_plus : PySem.W.keepIn K (.ref f_plus) = true)
    (a_times : PySem.W.nsIn K mainGlobals "times" = some (some (.ref f_times)))
    (l_times : K.lookup f_times = some ⟨oc_times, od_times, .func (PySem.W.fnOf "times" "times" (defArgs s_times) (defBody s_times) (defScope s_times) .none kV_times dc_times pm_times an_times cd_times ct_times), sl_times⟩)
    (c_times : PySem.W.codeIn K cd_times "times" = true)
    (k_times : PySem.W.keepIn K (.ref f_times) = true)
    (a_Counts___init__ : PySem.W.findIn K (.ref C_Counts) "__init__" = some (some (.ref f_Counts___init__)))
    (i_Counts___init__ : PySem.W.isFn K (.ref f_Counts___init__) = true)
    (l_Counts___init__ : K.lookup f_Counts___init__ = some ⟨oc_Counts___init__, od_Counts___init__, .func (PySem.W.fnOf "__init__" "Counts.__init__" (defArgs s_Counts___init__) (defBody s_Counts___init__) (defScope s_Counts___init__) .none kV_Counts___init__ dc_Counts___init__ pm_Counts___init__ an_Counts___init__ cd_Counts___init__ ct_Counts___init__), sl_Counts___init__⟩)
    (c_Counts___init__ : PySem.W.codeIn K cd_Counts___init__ "Counts.__init__" = true)
    (k_Counts___init__ : PySem.W.keepIn K (.ref f_Counts___init__) = true)
    (a_Counts_wins : PySem.W.findIn K (.ref C_Counts) "wins" = some (some (.ref f_Counts_wins)))
    (i_Counts_wins : PySem.W.isFn K (.ref f_Counts_wins) = true)
    (l_Counts_wins : K.lookup f_Counts_wins = some ⟨oc_Counts_wins, od_Counts_wins, .func (PySem.W.fnOf "wins" "Counts.wins" (defArgs s_Counts_wins) (defBody s_Counts_wins) (defScope s_Counts_wins) .none kV_Counts_wins dc_Counts_wins pm_Counts_wins an_Counts_wins cd_Counts_wins ct_Counts_wins), sl_Counts_wins⟩)
    (c_Counts_wins : PySem.W.codeIn K cd_Counts_wins "Counts.wins" = true)
    (k_Counts_wins : PySem.W.keepIn K (.ref f_Counts_wins) = true)
    (a_Counts_losses : PySem.W.findIn K (.ref C_Counts) "losses" = some (some (.ref f_Counts_losses)))
    (i_Counts_losses : PySem.W.isFn K (.ref f_Counts_losses) = true)
    (l_Counts_losses : K.lookup f_Counts_losses = some ⟨oc_Counts_losses, od_Counts_losses, .func (PySem.W.fnOf "losses" "Counts.losses" (defArgs s_Counts_losses) (defBody s_Counts_losses) (defScope s_Counts_losses) .none kV_Counts_losses dc_Counts_losses pm_Counts_losses an_Counts_losses cd_Counts_losses ct_Counts_losses), sl_Counts_losses⟩)
    (c_Counts_losses : PySem.W.codeIn K cd_Counts_losses "Counts.losses" = true)
    (k_Counts_losses : PySem.W.keepIn K (.ref f_Counts_losses) = true)
    (a_Counts_met : PySem.W.findIn K (.ref C_Counts) "met" = some (some (.ref f_Counts_met)))
    (i_Counts_met : PySem.W.isFn K (.ref f_Counts_met) = true)
    (l_Counts_met : K.lookup f_Counts_met = some ⟨oc_Counts_met, od_Counts_met, .func (PySem.W.fnOf "met" "Counts.met" (defArgs s_Counts_met) (defBody s_Counts_met) (defScope s_Counts_met) .none kV_Counts_met dc_Counts_met pm_Counts_met an_Counts_met cd_Counts_met ct_Counts_met), sl_Counts_met⟩)
    (c_Counts_met : PySem.W.codeIn K cd_Counts_met "Counts.met" = true)
    (k_Counts_met : PySem.W.keepIn K (.ref f_Counts_met) = true)
    (a_solved : PySem.W.nsIn K mainGlobals "solved" = some (some (.ref f_solved)))
    (l_solved : K.lookup f_solved = some ⟨oc_solved, od_solved, .func (PySem.W.fnOf "solved" "solved" (defArgs s_solved) (defBody s_solved) (defScope s_solved) .none kV_solved dc_solved pm_solved an_solved cd_solved ct_solved), sl_solved⟩)
    (c_solved : PySem.W.codeIn K cd_solved "solved" = true)
    (k_solved : PySem.W.keepIn K (.ref f_solved) = true)
    (a_by_half_wins : PySem.W.nsIn K mainGlobals "by_half_wins" = some (some (.ref f_by_half_wins)))
    (l_by_half_wins : K.lookup f_by_half_wins = some ⟨oc_by_half_wins, od_by_half_wins, .func (PySem.W.fnOf "by_half_wins" "by_half_wins" (defArgs s_by_half_wins) (defBody s_by_half_wins) (defScope s_by_half_wins) .none kV_by_half_wins dc_by_half_wins pm_by_half_wins an_by_half_wins cd_by_half_wins ct_by_half_wins), sl_by_half_wins⟩)
    (c_by_half_wins : PySem.W.codeIn K cd_by_half_wins "by_half_wins" = true)
    (k_by_half_wins : PySem.W.keepIn K (.ref f_by_half_wins) = true)
    (a_strong_lot : PySem.W.nsIn K mainGlobals "strong_lot" = some (some (.ref f_strong_lot)))
    (l_strong_lot : K.lookup f_strong_lot = some ⟨oc_strong_lot, od_strong_lot, .func (PySem.W.fnOf "strong_lot" "strong_lot" (defArgs s_strong_lot) (defBody s_strong_lot) (defScope s_strong_lot) .none kV_strong_lot dc_strong_lot pm_strong_lot an_strong_lot cd_strong_lot ct_strong_lot), sl_strong_lot⟩)
    (c_strong_lot : PySem.W.codeIn K cd_strong_lot "strong_lot" = true)
    (k_strong_lot : PySem.W.keepIn K (.ref f_strong_lot) = true)
    (a_are_strengths : PySem.W.nsIn K mainGlobals "are_strengths" = some (some (.ref f_are_strengths)))
    (l_are_strengths : K.lookup f_are_strengths = some ⟨oc_are_strengths, od_are_strengths, .func (PySem.W.fnOf "are_strengths" "are_strengths" (defArgs s_are_strengths) (defBody s_are_strengths) (defScope s_are_strengths) .none kV_are_strengths dc_are_strengths pm_are_strengths an_are_strengths cd_are_strengths ct_are_strengths), sl_are_strengths⟩)
    (c_are_strengths : PySem.W.codeIn K cd_are_strengths "are_strengths" = true)
    (k_are_strengths : PySem.W.keepIn K (.ref f_are_strengths) = true)
    (a__law_draws : PySem.W.nsIn K mainGlobals "_law_draws" = some (some (.ref f__law_draws)))
    (l__law_draws : K.lookup f__law_draws = some ⟨oc__law_draws, od__law_draws, .func (PySem.W.fnOf "_law_draws" "_law_draws" (defArgs s__law_draws) (defBody s__law_draws) (defScope s__law_draws) .none kV__law_draws dc__law_draws pm__law_draws an__law_draws cd__law_draws ct__law_draws), sl__law_draws⟩)
    (c__law_draws : PySem.W.codeIn K cd__law_draws "_law_draws" = true)
    (k__law_draws : PySem.W.keepIn K (.ref f__law_draws) = true)
    (a__law_draw : PySem.W.nsIn K mainGlobals "_law_draw" = some (some (.ref f__law_draw)))
    (l__law_draw : K.lookup f__law_draw = some ⟨oc__law_draw, od__law_draw, .func (PySem.W.fnOf "_law_draw" "_law_draw" (defArgs s__law_draw) (defBody s__law_draw) (defScope s__law_draw) .none kV__law_draw dc__law_draw pm__law_draw an__law_draw cd__law_draw ct__law_draw), sl__law_draw⟩)
    (c__law_draw : PySem.W.codeIn K cd__law_draw "_law_draw" = true)
    (k__law_draw : PySem.W.keepIn K (.ref f__law_draw) = true)
    (a__law_low : PySem.W.nsIn K mainGlobals "_law_low" = some (some (.ref f__law_low)))
    (l__law_low : K.lookup f__law_low = some ⟨oc__law_low, od__law_low, .func (PySem.W.fnOf "_law_low" "_law_low" (defArgs s__law_low) (defBody s__law_low) (defScope s__law_low) .none kV__law_low dc__law_low pm__law_low an__law_low cd__law_low ct__law_low), sl__law_low⟩)
    (c__law_low : PySem.W.codeIn K cd__law_low "_law_low" = true)
    (k__law_low : PySem.W.keepIn K (.ref f__law_low) = true)
    (a__law_plus : PySem.W.nsIn K mainGlobals "_law_plus" = some (some (.ref f__law_plus)))
    (l__law_plus : K.lookup f__law_plus = some ⟨oc__law_plus, od__law_plus, .func (PySem.W.fnOf "_law_plus" "_law_plus" (defArgs s__law_plus) (defBody s__law_plus) (defScope s__law_plus) .none kV__law_plus dc__law_plus pm__law_plus an__law_plus cd__law_plus ct__law_plus), sl__law_plus⟩)
    (c__law_plus : PySem.W.codeIn K cd__law_plus "_law_plus" = true)
    (k__law_plus : PySem.W.keepIn K (.ref f__law_plus) = true)
    (a__law_counts : PySem.W.nsIn K mainGlobals "_law_counts" = some (some (.ref f__law_counts)))
    (l__law_counts : K.lookup f__law_counts = some ⟨oc__law_counts, od__law_counts, .func (PySem.W.fnOf "_law_counts" "_law_counts" (defArgs s__law_counts) (defBody s__law_counts) (defScope s__law_counts) .none kV__law_counts dc__law_counts pm__law_counts an__law_counts cd__law_counts ct__law_counts), sl__law_counts⟩)
    (c__law_counts : PySem.W.codeIn K cd__law_counts "_law_counts" = true)
    (k__law_counts : PySem.W.keepIn K (.ref f__law_counts) = true)
    (a_law : PySem.W.nsIn K mainGlobals "law" = some (some (.ref f_law)))
    (l_law : K.lookup f_law = some ⟨oc_law, od_law, .func (PySem.W.fnOf "law" "law" (defArgs s_law) (defBody s_law) (defScope s_law) .none kV_law dc_law pm_law an_law cd_law ct_law), sl_law⟩)
    (c_law : PySem.W.codeIn K cd_law "law" = true)
    (k_law : PySem.W.keepIn K (.ref f_law) = true)
    (pg_Counts : PySem.W.plainGet K C_Counts Str.empty = true)
    (hd_Counts : PySem.W.hasDictIn K C_Counts = true)
    (po_Counts : PySem.W.plainOver K C_Counts = true)
    (sa_Counts : PySem.W.findIn K (.ref C_Counts) "__setattr__" = some (some (.builtin "object.__setattr__")))
    (mk_Counts : PySem.W.makesIn K C_Counts = true)
    (kc_Counts : PySem.W.keepIn K (.ref C_Counts) = true)
    (q_rows : PySem.W.findIn K (.ref C_Counts) "rows" = some none)
    (q_size : PySem.W.findIn K (.ref C_Counts) "size" = some none)
    (z_isinstance : PySem.W.nsIn K mainGlobals "isinstance" = some none)
    (z_bool : PySem.W.nsIn K mainGlobals "bool" = some none)
    (z_int : PySem.W.nsIn K mainGlobals "int" = some none)
    (z_abs : PySem.W.nsIn K mainGlobals "abs" = some none)
    (z_len : PySem.W.nsIn K mainGlobals "len" = some none)
    (z_MOST_SIDES : PySem.W.nsIn K mainGlobals "MOST_SIDES" = some (some (.int 12 t_MOST_SIDES)))
    (z_tuple : PySem.W.nsIn K mainGlobals "tuple" = some none)
    (z_all : PySem.W.nsIn K mainGlobals "all" = some none)
    (z_any : PySem.W.nsIn K mainGlobals "any" = some none)
    (z_range : PySem.W.nsIn K mainGlobals "range" = some none)
    (z_sum : PySem.W.nsIn K mainGlobals "sum" = some none)
    (z_zip : PySem.W.nsIn K mainGlobals "zip" = some none)
    (z_list : PySem.W.nsIn K mainGlobals "list" = some none)
    (z_max : PySem.W.nsIn K mainGlobals "max" = some none) :
    ∃ fd : FuncData, (∀ (s : Shared) (v : Value), BindsTo s fd ⟨[v], []⟩ [("script", v)]) ∧ ∀ base : Heap, K.In base → base.Ns mainGlobals mg → FnOk l.prog w K mg base (L2.CX l.prog w) 5 fa fd ["script"] (spLaw K) := by
  have e := hfa.symm.trans (PySem.W.mg_of X G a_law)
  cases e
  have F_is_integer := fun_mk (st := s_is_integer) l_is_integer c_is_integer k_is_integer
  have b_is_integer := F_is_integer.binds (ps := ["value"]) fun _ _ _ _ _ _ us hl => match us, hl with | [_], _ => rfl
  have F_lowest := fun_mk (st := s_lowest) l_lowest c_lowest k_lowest
  have b_lowest := F_lowest.binds (ps := ["top", "bottom"]) fun _ _ _ _ _ _ us hl => match us, hl with | [_, _], _ => rfl
  have F_plus := fun_mk (st := s_plus) l_plus c_plus k_plus
  have b_plus := F_plus.binds (ps := ["first", "other"]) fun _ _ _ _ _ _ us hl => match us, hl with | [_, _], _ => rfl
  have F_times := fun_mk (st := s_times) l_times c_times k_times
  have b_times := F_times.binds (ps := ["first", "other"]) fun _ _ _ _ _ _ us hl => match us, hl with | [_, _], _ => rfl
  have F_Counts___init__ := fun_mk (st := s_Counts___init__) l_Counts___init__ c_Counts___init__ k_Counts___init__
  have b_Counts___init__ := F_Counts___init__.binds (ps := ["self", "rows"]) fun _ _ _ _ _ _ us hl => match us, hl with | [_, _], _ => rfl
  have F_Counts_wins := fun_mk (st := s_Counts_wins) l_Counts_wins c_Counts_wins k_Counts_wins
  have b_Counts_wins := F_Counts_wins.binds (ps := ["self", "side"]) fun _ _ _ _ _ _ us hl => match us, hl with | [_, _], _ => rfl
  have F_Counts_losses := fun_mk (st := s_Counts_losses) l_Counts_losses c_Counts_losses k_Counts_losses
  have b_Counts_losses := F_Counts_losses.binds (ps := ["self", "side"]) fun _ _ _ _ _ _ us hl => match us, hl with | [_, _], _ => rfl
  have F_Counts_met := fun_mk (st := s_Counts_met) l_Counts_met c_Counts_met k_Counts_met
  have b_Counts_met := F_Counts_met.binds (ps := ["self", "one", "other"]) fun _ _ _ _ _ _ us hl => match us, hl with | [_, _, _], _ => rfl
  have F_solved := fun_mk (st := s_solved) l_solved c_solved k_solved
  have b_solved := F_solved.binds (ps := ["rows", "goal"]) fun _ _ _ _ _ _ us hl => match us, hl with | [_, _], _ => rfl
  have F_by_half_wins := fun_mk (st := s_by_half_wins) l_by_half_wins c_by_half_wins k_by_half_wins
  have b_by_half_wins := F_by_half_wins.binds (ps := ["counts"]) fun _ _ _ _ _ _ us hl => match us, hl with | [_], _ => rfl
  have F_strong_lot := fun_mk (st := s_strong_lot) l_strong_lot c_strong_lot k_strong_lot
  have b_strong_lot := F_strong_lot.binds (ps := ["counts"]) fun _ _ _ _ _ _ us hl => match us, hl with | [_], _ => rfl
  have F_are_strengths := fun_mk (st := s_are_strengths) l_are_strengths c_are_strengths k_are_strengths
  have b_are_strengths := F_are_strengths.binds (ps := ["counts", "strengths"]) fun _ _ _ _ _ _ us hl => match us, hl with | [_, _], _ => rfl
  have F__law_draws := fun_mk (st := s__law_draws) l__law_draws c__law_draws k__law_draws
  have b__law_draws := F__law_draws.binds (ps := ["script"]) fun _ _ _ _ _ _ us hl => match us, hl with | [_], _ => rfl
  have F__law_draw := fun_mk (st := s__law_draw) l__law_draw c__law_draw k__law_draw
  have b__law_draw := F__law_draw.binds (ps := ["draws", "limit"]) fun _ _ _ _ _ _ us hl => match us, hl with | [_, _], _ => rfl
  have F__law_low := fun_mk (st := s__law_low) l__law_low c__law_low k__law_low
  have b__law_low := F__law_low.binds (ps := ["top", "bottom"]) fun _ _ _ _ _ _ us hl => match us, hl with | [_, _], _ => rfl
  have F__law_plus := fun_mk (st := s__law_plus) l__law_plus c__law_plus k__law_plus
  have b__law_plus := F__law_plus.binds (ps := ["one", "two"]) fun _ _ _ _ _ _ us hl => match us, hl with | [_, _], _ => rfl
  have F__law_counts := fun_mk (st := s__law_counts) l__law_counts c__law_counts k__law_counts
  have b__law_counts := F__law_counts.binds (ps := ["draws", "size", "most"]) fun _ _ _ _ _ _ us hl => match us, hl with | [_, _, _], _ => rfl
  have F_law := fun_mk (st := s_law) l_law c_law k_law
  have b_law := F_law.binds (ps := ["script"]) fun _ _ _ _ _ _ us hl => match us, hl with | [_], _ => rfl
  have c_Counts : Cls K C_Counts := ⟨pg_Counts, hd_Counts, po_Counts, sa_Counts⟩
  exact ⟨PySem.W.fnOf "law" "law" (defArgs s_law) (defBody s_law) (defScope s_law) .none kV_law dc_law pm_law an_law cd_law ct_law, fun s v => .of_eq rfl, fun base _ _ =>
    law_ok (P := l.prog) (w := w) (K := K) (mg := mg) (base := base) { f_is_integer := f_is_integer, d_is_integer := _, F_is_integer := F_is_integer, b_is_integer := b_is_integer, n_is_integer := PySem.W.mg_of X G a_is_integer, f_lowest := f_lowest, d_lowest := _, F_lowest := F_lowest, b_lowest := b_lowest, n_lowest := PySem.W.mg_of X G a_lowest, f_plus := f_plus, d_plus := _, F_plus := F_plus, b_plus := b_plus, n_plus := PySem.W.mg_of X G a_plus, f_times := f_times, d_times := _, F_times := F_times, b_times := b_times, n_times := PySem.W.mg_of X G a_times, f_Counts___init__ := f_Counts___init__, d_Counts___init__ := _, F_Counts___init__ := F_Counts___init__, b_Counts___init__ := b_Counts___init__, f_Counts_wins := f_Counts_wins, d_Counts_wins := _, F_Counts_wins := F_Counts_wins, b_Counts_wins := b_Counts_wins, h_Counts_wins := ⟨a_Counts_wins, i_Counts_wins, k_Counts_wins⟩, f_Counts_losses := f_Counts_losses, d_Counts_losses := _, F_Counts_losses := F_Counts_losses, b_Counts_losses := b_Counts_losses, h_Counts_losses := ⟨a_Counts_losses, i_Counts_losses, k_Counts_losses⟩, f_Counts_met := f_Counts_met, d_Counts_met := _, F_Counts_met := F_Counts_met, b_Counts_met := b_Counts_met, h_Counts_met := ⟨a_Counts_met, i_Counts_met, k_Counts_met⟩, f_solved := f_solved, d_solved := _, F_solved := F_solved, b_solved := b_solved, n_solved := PySem.W.mg_of X G a_solved, f_by_half_wins := f_by_half_wins, d_by_half_wins := _, F_by_half_wins := F_by_half_wins, b_by_half_wins := b_by_half_wins, n_by_half_wins := PySem.W.mg_of X G a_by_half_wins, f_strong_lot := f_strong_lot, d_strong_lot := _, F_strong_lot := F_strong_lot, b_strong_lot := b_strong_lot, n_strong_lot := PySem.W.mg_of X G a_strong_lot, f_are_strengths := f_are_strengths, d_are_strengths := _, F_are_strengths := F_are_strengths, b_are_strengths := b_are_strengths, n_are_strengths := PySem.W.mg_of X G a_are_strengths, f__law_draws := f__law_draws, d__law_draws := _, F__law_draws := F__law_draws, b__law_draws := b__law_draws, n__law_draws := PySem.W.mg_of X G a__law_draws, f__law_draw := f__law_draw, d__law_draw := _, F__law_draw := F__law_draw, b__law_draw := b__law_draw, n__law_draw := PySem.W.mg_of X G a__law_draw, f__law_low := f__law_low, d__law_low := _, F__law_low := F__law_low, b__law_low := b__law_low, n__law_low := PySem.W.mg_of X G a__law_low, f__law_plus := f__law_plus, d__law_plus := _, F__law_plus := F__law_plus, b__law_plus := b__law_plus, n__law_plus := PySem.W.mg_of X G a__law_plus, f__law_counts := f__law_counts, d__law_counts := _, F__law_counts := F__law_counts, b__law_counts := b__law_counts, n__law_counts := PySem.W.mg_of X G a__law_counts, f_law := _, d_law := _, F_law := F_law, b_law := b_law, n_law := PySem.W.mg_of X G a_law, C_Counts := C_Counts, c_Counts := c_Counts, n_Counts := PySem.W.mg_of X G aC_Counts, k_Counts := ⟨mk_Counts, a_Counts___init__, i_Counts___init__, kc_Counts⟩, q_rows := q_rows, a_rows := fun C hC => by rw [List.mem_singleton.mp hC]; exact ⟨c_Counts, q_rows⟩, q_size := q_size, a_size := fun C hC => by rw [List.mem_singleton.mp hC]; exact ⟨c_Counts, q_size⟩, n_isinstance := PySem.W.mg_none_of X G z_isinstance, n_bool := PySem.W.mg_none_of X G z_bool, n_int := PySem.W.mg_none_of X G z_int, n_abs := PySem.W.mg_none_of X G z_abs, n_len := PySem.W.mg_none_of X G z_len, t_MOST_SIDES := _, n_MOST_SIDES := PySem.W.mg_of X G z_MOST_SIDES, n_tuple := PySem.W.mg_none_of X G z_tuple, n_all := PySem.W.mg_none_of X G z_all, n_any := PySem.W.mg_none_of X G z_any, n_range := PySem.W.mg_none_of X G z_range, n_sum := PySem.W.mg_none_of X G z_sum, n_zip := PySem.W.mg_none_of X G z_zip, n_list := PySem.W.mg_none_of X G z_list, n_max := PySem.W.mg_none_of X G z_max }⟩
theorem walk {l : PySem.W.OpenLaw} {q : Program} {loose : List Str} {XP : (Str → Option Value) → Heap → Prop} {YP : World → Heap → Prop} {d : DefRec} {K : Params → PySem.W.Frag} (hn : l.most = some 63) (hdf : d.params.defaults = [])
    (hY : ∀ (w : World) (h : Heap), YP w h → (K w.params).In h)
    (F : ∀ (w : World) (mg : Str → Option Value) (fa : Addr) (h : Heap), (K w.params).In h → h.Ns mainGlobals mg → mg d.name = some (.ref fa) →
      ∃ fd : FuncData, (∀ (s : Shared) (u : Value), BindsTo s fd ⟨[u], []⟩ [("script", u)]) ∧ ∀ base : Heap, (K w.params).In base → base.Ns mainGlobals mg → FnOk l.prog w (K w.params) mg base (L2.CX l.prog w) 5 fa fd ["script"] (spLaw (K w.params))) :
    PySem.W.WalkO q loose XP YP l.row.toRowW d [] (fun f vs => PySem.call f vs) :=
  L2.walk_of (n := 63) (k := 5) (x := "script") (CX := fun w => L2.CX l.prog w) (sp := fun w => spLaw (K w.params)) hn (by decide) hdf ⟨rfl, by decide, by decide⟩ hY F (fun _ _ a ns hl _ hS => ⟨a, ns, rfl, hS, hl, fun _ => rfl⟩) fun _ _ _ _ _ z => by
    obtain ⟨_, _, _, _, _, _, _, _, _, _, _, _, z⟩ := z
    exact z.elim
end
end VL

open PySem PySem.W PyProof.Rows in
set_option maxRecDepth 100000 in
set_option maxHeartbeats 0 in
theorem PySem.Challenge.cw_whobeatwhom_k65_whole_strengths_holds : PySem.Challenge.rw_whobeatwhom_k65_whole_strengths.Holds := by
  w_on; o_law; k_head; (case hw => w_witness2)
  k_fill
  refine VL.walk (l := PySem.Challenge.rw_whobeatwhom_k65_whole_strengths) rfl rfl (fun w h Y => PySem.W.kIn_of Y) ?F
  case F =>
    intro w mg fa h KX G hmg
    refine' VL.all_mk KX G hmg ?aC_Counts ?a_is_integer ?l_is_integer ?c_is_integer ?k_is_integer ?a_lowest ?l_lowest ?c_lowest ?k_lowest ?a_plus ?l_plus ?c_plus ?k_plus ?a_times ?l_times ?c_times ?k_times ?a_Counts___init__ ?i_Counts___init__ ?l_Counts___init__ ?c_Counts___init__ ?k_Counts___init__ ?a_Counts_wins ?i_Counts_wins ?l_Counts_wins ?c_Counts_wins ?k_Counts_wins ?a_Counts_losses ?i_Counts_losses ?l_Counts_losses ?c_Counts_losses ?k_Counts_losses ?a_Counts_met ?i_Counts_met ?l_Counts_met ?c_Counts_met ?k_Counts_met ?a_solved ?l_solved ?c_solved ?k_solved ?a_by_half_wins ?l_by_half_wins ?c_by_half_wins ?k_by_half_wins ?a_strong_lot ?l_strong_lot ?c_strong_lot ?k_strong_lot ?a_are_strengths ?l_are_strengths ?c_are_strengths ?k_are_strengths ?a__law_draws ?l__law_draws ?c__law_draws ?k__law_draws ?a__law_draw ?l__law_draw ?c__law_draw ?k__law_draw ?a__law_low ?l__law_low ?c__law_low ?k__law_low ?a__law_plus ?l__law_plus ?c__law_plus ?k__law_plus ?a__law_counts ?l__law_counts ?c__law_counts ?k__law_counts ?a_law ?l_law ?c_law ?k_law ?pg_Counts ?hd_Counts ?po_Counts ?sa_Counts ?mk_Counts ?kc_Counts ?q_rows ?q_size ?z_isinstance ?z_bool ?z_int ?z_abs ?z_len ?z_MOST_SIDES ?z_tuple ?z_all ?z_any ?z_range ?z_sum ?z_zip ?z_list ?z_max
    (case aC_Counts => k_is)
    (case a_is_integer => k_is)
    (case l_is_integer => k_is)
    (case c_is_integer => k_is)
    (case k_is_integer => k_is)
    (case a_lowest => k_is)
    (case l_lowest => k_is)
    (case c_lowest => k_is)
    (case k_lowest => k_is)
    (case a_plus => k_is)
    (case l_plus => k_is)
    (case c_plus => k_is)
    (case k_plus => k_is)
    (case a_times => k_is)
    (case l_times => k_is)
    (case c_times => k_is)
    (case k_times => k_is)
    (case a_Counts___init__ => k_is)
    (case i_Counts___init__ => k_is)
    (case l_Counts___init__ => k_is)
    (case c_Counts___init__ => k_is)
    (case k_Counts___init__ => k_is)
    (case a_Counts_wins => k_is)
    (case i_Counts_wins => k_is)
    (case l_Counts_wins => k_is)
    (case c_Counts_wins => k_is)
    (case k_Counts_wins => k_is)
    (case a_Counts_losses => k_is)
    (case i_Counts_losses => k_is)
    (case l_Counts_losses => k_is)
    (case c_Counts_losses => k_is)
    (case k_Counts_losses => k_is)
    (case a_Counts_met => k_is)
    (case i_Counts_met => k_is)
    (case l_Counts_met => k_is)
    (case c_Counts_met => k_is)
    (case k_Counts_met => k_is)
    (case a_solved => k_is)
    (case l_solved => k_is)
    (case c_solved => k_is)
    (case k_solved => k_is)
    (case a_by_half_wins => k_is)
    (case l_by_half_wins => k_is)
    (case c_by_half_wins => k_is)
    (case k_by_half_wins => k_is)
    (case a_strong_lot => k_is)
    (case l_strong_lot => k_is)
    (case c_strong_lot => k_is)
    (case k_strong_lot => k_is)
    (case a_are_strengths => k_is)
    (case l_are_strengths => k_is)
    (case c_are_strengths => k_is)
    (case k_are_strengths => k_is)
    (case a__law_draws => k_is)
    (case l__law_draws => k_is)
    (case c__law_draws => k_is)
    (case k__law_draws => k_is)
    (case a__law_draw => k_is)
    (case l__law_draw => k_is)
    (case c__law_draw => k_is)
    (case k__law_draw => k_is)
    (case a__law_low => k_is)
    (case l__law_low => k_is)
    (case c__law_low => k_is)
    (case k__law_low => k_is)
    (case a__law_plus => k_is)
    (case l__law_plus => k_is)
    (case c__law_plus => k_is)
    (case k__law_plus => k_is)
    (case a__law_counts => k_is)
    (case l__law_counts => k_is)
    (case c__law_counts => k_is)
    (case k__law_counts => k_is)
    (case a_law => k_is)
    (case l_law => k_is)
    (case c_law => k_is)
    (case k_law => k_is)
    (case pg_Counts => k_is)
    (case hd_Counts => k_is)
    (case po_Counts => k_is)
    (case sa_Counts => k_is)
    (case mk_Counts => k_is)
    (case kc_Counts => k_is)
    (case q_rows => k_is)
    (case q_size => k_is)
    (case z_isinstance => k_is)
    (case z_bool => k_is)
    (case z_int => k_is)
    (case z_abs => k_is)
    (case z_len => k_is)
    (case z_MOST_SIDES => k_is)
    (case z_tuple => k_is)
    (case z_all => k_is)
    (case z_any => k_is)
    (case z_range => k_is)
    (case z_sum => k_is)
    (case z_zip => k_is)
    (case z_list => k_is)
    (case z_max => k_is)
