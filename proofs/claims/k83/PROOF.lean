import PyProof.Rows.All
import Wide.All
import OpenK.AllK
import Wide.FinOn
import HandS.ForMost
import HandS.ForExc
import HandS.CallSlots
import HandS.Property
import HandS.OwnEq
import HandS.Small
import HandS.RevRange
import HandS.Zip
import HandS.Style
import HandS.Text
import HandS.Deep
import HandS.Wide
import HandS.TupMul
import HandS.TupAny
import HandS.IsInst
import KE.DataMinMax
import HandS.More
import KE.KOpsOwn
import HandS.Codes
import HandS.SlotsOwn
import HandS.Defaults
import HandS.HeadHook1
import HandS.HeadHook2
import HandS.HeadHook3
import HandS.HeadEnd
import HandS.Ends
import HandS.Conv
import HandS.Head0
import HandS.Head1
import HandS.Head2
import KE.KStateDown
import PySem.Challenge.RW_sumslips_k83_whole_rows_added_in_two_goe
set_option Elab.async false
set_option linter.all false
set_option maxRecDepth 100000
set_option maxHeartbeats 0
namespace Ev
open PySem PySem.Spec PyProof.Rows L2

/-- data -/
inductive D where
  | non | bl (b : Bool) | int (i : Int) | str (x : Str)
  | tup (xs : List D) | lst (xs : List D) | scr (ns : List Int) | dic (ks vs : List D) | obj (c : Str) (ns : List Str) (ds : List D)

/-- a slot: nothing, frozen data, data that this slot alone holds -/
inductive Cell where
  | n | f (d : D) | o (d : D)
abbrev Sl := List Cell
/-- what an evaluation gives -/
inductive R (α : Type) where
  | ok (a : α) (st : Sl) | exc (c : Str) (x : Option D) (st : Sl) | bad
inductive Fl where
  | nx | bk | ct | rt (d : D)
abbrev E := Sl → R D
abbrev S := Sl → R Fl
@[simp] def R.bind {α β : Type} : R α → (α → Sl → R β) → R β
  | .ok a st, k => k a st
  | .exc c x st, _ => .exc c x st
  | .bad, _ => .bad

/-- the classes: where they stand, which are there -/
structure Ca where
  a : Str → Addr
  ok : Str → List Str → Prop

/-- fields of objects that hold own lists -/
def owf (f : Str) : Bool := f == ("history" : Str)

def keyD : Key → D
  | .inl i => .int i
  | .inr x => .str x

section
variable (K : PySem.W.Frag) (ca : Ca)
/-- a list, a tuple that is frozen -/
def FrL (F : Addr → Prop) (H : Hp) (a : Addr) (xs : List V) : Prop := F a ∧ H a = some (.lst xs)
def FrT (F : Addr → Prop) (H : Hp) (a : Addr) (xs : List V) : Prop := (F a ∧ Rd H a (.tup xs)) ∨
    ∃ (o : Obj) (its : Array Value) (n : Nat), K.lookup a = some o ∧ o.cls = .type "tuple" ∧ o.data = .seq its n ∧ its.size ≤ sizeLine ∧ Vals xs its.toList
/-- the script -/
def FrS (F : Addr → Prop) (H : Hp) (a : Addr) (xs : List V) : Prop := (F a ∧ Rd H a (.lst xs)) ∨
    ∃ (o : Obj) (its : Array Value) (n : Nat), K.lookup a = some o ∧ o.cls = .type "list" ∧ o.dict = none ∧ o.data = .seq its n ∧ its.size ≤ sizeLine ∧ Vals xs its.toList
def RepK (vs : List V) : List D → List (Key × V) → Prop := fun ks kvs => ks = kvs.map (fun p => keyD p.1) ∧ vs = kvs.map (·.2)

mutual
/-- v holds the frozen data d -/
def Rep (F : Addr → Prop) (H : Hp) : D → V → Prop
  | .non, v => v = .non
  | .bl b, v => v = .bl b
  | .int i, v => v = .int i
  | .str x, v => v = .str x
  | .tup ds, v => ∃ a vs, v = .ref a ∧ FrT K F H a vs ∧ Reps F H ds vs
  | .lst ds, v => ∃ a vs, v = .ref a ∧ FrL F H a vs ∧ Reps F H ds vs
  | .scr ns, v => ∃ a, v = .ref a ∧ FrS K F H a (ns.map V.int)
  | .dic ks ds, v => ∃ a kvs vs, v = .ref a ∧ F a ∧ Rd H a (.dK kvs) ∧ RepK vs ks kvs ∧ Reps F H ds vs
  | .obj c ns ds, v => ∃ a dx gs vs, v = .ref a ∧ ca.ok c ns ∧ F a ∧ F dx ∧ H a = some (.ins (ca.a c) dx gs) ∧ H dx = some (.own a) ∧ gs.map (·.1) = ns ∧ gs.map (·.2) = vs ∧ Reps F H ds vs
def Reps (F : Addr → Prop) (H : Hp) : List D → List V → Prop
  | [], vs => vs = []
  | d :: ds, vs => ∃ v r, vs = v :: r ∧ Rep F H d v ∧ Reps F H ds r
end
/-- .. a field's: frozen, or its own list -/
def RepI (F : Addr → Prop) (H : Hp) (own : Bool) (d : D) (v : V) (A : List Addr) : Prop :=
  match own with
  | false => A = [] ∧ Rep K ca F H d v
  | true => ∃ a ds vs, d = .lst ds ∧ v = .ref a ∧ A = [a] ∧ ¬ F a ∧ H a = some (.lst vs) ∧ Reps K ca F H ds vs
def RepIs (F : Addr → Prop) (H : Hp) : List Str → List D → List V → List Addr → Prop
  | [], ds, vs, A => ds = [] ∧ vs = [] ∧ A = []
  | n :: ns, ds, vs, A => ∃ d dr v vr B C, ds = d :: dr ∧ vs = v :: vr ∧ A = B ++ C ∧ RepI K ca F H (owf n) d v B ∧ RepIs F H ns dr vr C
/-- v holds the data d, which no other holds: at the addresses A -/
def Own (F : Addr → Prop) (H : Hp) : D → V → List Addr → Prop
  | .lst ds, v, A => ∃ a vs, v = .ref a ∧ A = [a] ∧ ¬ F a ∧ H a = some (.lst vs) ∧ Reps K ca F H ds vs
  | .dic ks ds, v, A => ∃ a kvs vs, v = .ref a ∧ A = [a] ∧ ¬ F a ∧ H a = some (.dK kvs) ∧ RepK vs ks kvs ∧ Reps K ca F H ds vs
  | .obj c ns ds, v, A => ∃ a dx gs B, v = .ref a ∧ ca.ok c ns ∧ A = a :: dx :: B ∧ ¬ F a ∧ ¬ F dx ∧ H a = some (.ins (ca.a c) dx gs) ∧ H dx = some (.own a) ∧ gs.map (·.1) = ns ∧ RepIs K ca F H ns ds (gs.map (·.2)) B
  | _, _, _ => False
def RepC (F : Addr → Prop) (H : Hp) : Cell → Option V → List Addr → Prop
  | .n, _, A => A = []
  | .f d, x, A => A = [] ∧ ∃ v, x = some v ∧ Rep K ca F H d v
  | .o d, x, A => ∃ v, x = some v ∧ Own K ca F H d v A
/-- the slots -/
def RepS (F : Addr → Prop) (H : Hp) : Sl → L2.St → List Addr → Prop
  | [], σ, A => σ = [] ∧ A = []
  | c :: cs, σ, A => ∃ x r B C, σ = x :: r ∧ A = B ++ C ∧ RepC K ca F H c x B ∧ RepS F H cs r C
end

/-- all of it: A the own addresses -/
structure Rl (K : PySem.W.Frag) (ca : Ca) (F : Addr → Prop) (H : Hp) (st : Sl) (σ : L2.St) (A : List Addr) : Prop where
  rep : ∃ B, RepS K ca F H st σ B ∧ B.Perm A
  nd : A.Nodup
  fd : ∀ a, F a → ∃ o, H a = some o
  nf : ∀ a ∈ A, ¬ F a ∧ ∃ o, H a = some o

/-- what a run does to the heap: what is not its own stays; nothing else is frozen, or becomes its own, but what was its own or is new -/
structure Step (F : Addr → Prop) (H : Hp) (A : List Addr) (F' : Addr → Prop) (H' : Hp) (A' : List Addr) : Prop where
  fm : ∀ a, F a → F' a
  keep : ∀ a o, H a = some o → a ∉ A → H' a = some o
  dom : ∀ a o, H a = some o → ∃ o', H' a = some o'
  fnew : ∀ a, F' a → F a ∨ H a = none ∨ a ∈ A
  anew : ∀ a ∈ A', a ∈ A ∨ H a = none

theorem Step.refl {F : Addr → Prop} {H : Hp} {A : List Addr} : Step F H A F H A := ⟨fun _ h => h, fun _ _ h _ => h, fun _ o h => ⟨o, h⟩, fun _ h => .inl h, fun _ h => .inl h⟩
theorem Step.trans {F F' F'' : Addr → Prop} {H H' H'' : Hp} {A A' A'' : List Addr} (h : Step F H A F' H' A') (g : Step F' H' A' F'' H'' A'') : Step F H A F'' H'' A'' where
  fm := fun a q => g.fm a (h.fm a q)
  keep := fun a o q n => g.keep a o (h.keep a o q n) fun m => (h.anew a m).elim n fun z => by rw [q] at z; cases z
  dom := fun a o q => let ⟨o', q'⟩ := h.dom a o q; g.dom a o' q'
  fnew := fun a q => by
    rcases g.fnew a q with q | q | q
    · exact h.fnew a q
    · cases e : H a with
      | none => exact .inr (.inl rfl)
      | some o => obtain ⟨o', q'⟩ := h.dom a o e; rw [q] at q'; cases q'
    · rcases h.anew a q with q | q
      · exact .inr (.inr q)
      · exact .inr (.inl q)
  anew := fun a q => by
    rcases g.anew a q with q | q
    · exact h.anew a q
    · cases e : H a with
      | none => exact .inr rfl
      | some o => obtain ⟨o', q'⟩ := h.dom a o e; rw [q] at q'; cases q'

section
variable {K : PySem.W.Frag} {ca : Ca} {F F' : Addr → Prop} {H H' : Hp} {A A' : List Addr}

/-- frozen data stays where all frozen addresses stay -/
theorem FrL.mono {a : Addr} {xs : List V} (h : FrL F H a xs) (f : ∀ a, F a → F' a) (k : ∀ a o, F a → H a = some o → H' a = some o) : FrL F' H' a xs := ⟨f a h.1, k a _ h.1 h.2⟩
theorem FrT.mono {a : Addr} {xs : List V} (h : FrT K F H a xs) (f : ∀ a, F a → F' a) (k : ∀ a o, F a → H a = some o → H' a = some o) : FrT K F' H' a xs := by
  rcases h with ⟨h, r⟩ | h
  · refine .inl ⟨f a h, ?_⟩
    rcases r with r | ⟨o, r⟩
    · exact .inl (k a _ h r)
    · exact .inr ⟨o, k a _ h r⟩
  · exact .inr h
theorem FrS.mono {a : Addr} {xs : List V} (h : FrS K F H a xs) (f : ∀ a, F a → F' a) (k : ∀ a o, F a → H a = some o → H' a = some o) : FrS K F' H' a xs := by
  rcases h with ⟨h, r⟩ | h
  · refine .inl ⟨f a h, ?_⟩
    rcases r with r | ⟨o, r⟩
    · exact .inl (k a _ h r)
    · exact .inr ⟨o, k a _ h r⟩
  · exact .inr h
theorem FrS.sq {a : Addr} {xs : List V} (h : FrS K F H a xs) : SqL K H a xs := h.elim (fun z => .inl z.2) .inr
theorem FrL.sq {a : Addr} {xs : List V} (h : FrL F H a xs) : SqL K H a xs := .of h.2
theorem FrT.sq {a : Addr} {xs : List V} (h : FrT K F H a xs) : SqT K H a xs := h.elim (fun z => .inl z.2) .inr

mutual
theorem Rep.mono (f : ∀ a, F a → F' a) (k : ∀ a o, F a → H a = some o → H' a = some o) : ∀ (d : D) (v : V), Rep K ca F H d v → Rep K ca F' H' d v
  | .non, v, h => by unfold Rep at h ⊢; exact h
  | .bl b, v, h => by unfold Rep at h ⊢; exact h
  | .int i, v, h => by unfold Rep at h ⊢; exact h
  | .str x, v, h => by unfold Rep at h ⊢; exact h
  | .tup ds, v, h => by
    unfold Rep at h ⊢
    obtain ⟨a, vs, e, q, r⟩ := h
    exact ⟨a, vs, e, q.mono f k, Reps.mono f k ds vs r⟩
  | .lst ds, v, h => by
    unfold Rep at h ⊢
    obtain ⟨a, vs, e, q, r⟩ := h
    exact ⟨a, vs, e, q.mono f k, Reps.mono f k ds vs r⟩
  | .scr ns, v, h => by
    unfold Rep at h ⊢
    obtain ⟨a, e, q⟩ := h
    exact ⟨a, e, q.mono f k⟩
  | .dic ks ds, v, h => by
    unfold Rep at h ⊢
    obtain ⟨a, kvs, vs, e, fa, q, rk, r⟩ := h
    refine ⟨a, kvs, vs, e, f a fa, ?_, rk, Reps.mono f k ds vs r⟩
    rcases q with q | ⟨o, q⟩
    · exact .inl (k a _ fa q)
    · exact .inr ⟨o, k a _ fa q⟩
  | .obj c ns ds, v, h => by
    unfold Rep at h ⊢
    obtain ⟨a, dx, gs, vs, e, kc, fa, fd, q1, q2, e1, e2, r⟩ := h
    exact ⟨a, dx, gs, vs, e, kc, f a fa, f dx fd, k a _ fa q1, k dx _ fd q2, e1, e2, Reps.mono f k ds vs r⟩
theorem Reps.mono (f : ∀ a, F a → F' a) (k : ∀ a o, F a → H a = some o → H' a = some o) : ∀ (ds : List D) (vs : List V), Reps K ca F H ds vs → Reps K ca F' H' ds vs
  | [], vs, h => by unfold Reps at h ⊢; exact h
  | d :: ds, vs, h => by
    unfold Reps at h ⊢
    obtain ⟨v, r, e, q, z⟩ := h
    exact ⟨v, r, e, Rep.mono f k d v q, Reps.mono f k ds r z⟩
end
theorem Reps.length : ∀ {ds : List D} {vs : List V}, Reps K ca F H ds vs → vs.length = ds.length
  | [], vs, h => by unfold Reps at h; rw [h]; rfl
  | d :: ds, vs, h => by
    unfold Reps at h
    obtain ⟨v, r, e, q, z⟩ := h
    rw [e, List.length_cons, List.length_cons, z.length]
theorem Reps.nil : Reps K ca F H [] [] := by unfold Reps; rfl
theorem Reps.cons {d : D} {v : V} {ds : List D} {vs : List V} (h : Rep K ca F H d v) (t : Reps K ca F H ds vs) : Reps K ca F H (d :: ds) (v :: vs) := by
  unfold Reps; exact ⟨v, vs, rfl, h, t⟩
theorem Reps.get : ∀ {ds : List D} {vs : List V} {i : Nat} {d : D}, Reps K ca F H ds vs → ds[i]? = some d → ∃ v, vs[i]? = some v ∧ Rep K ca F H d v
  | [], vs, i, d, h, e => by simp at e
  | d0 :: ds, vs, 0, d, h, e => by
    unfold Reps at h
    obtain ⟨v, r, e1, q, z⟩ := h
    subst e1
    simp only [List.getElem?_cons_zero, Option.some.injEq] at e
    subst e
    exact ⟨v, rfl, q⟩
  | d0 :: ds, vs, i + 1, d, h, e => by
    unfold Reps at h
    obtain ⟨v, r, e1, q, z⟩ := h
    subst e1
    simp only [List.getElem?_cons_succ] at e ⊢
    exact z.get e
theorem Reps.append : ∀ {ds es : List D} {vs ws : List V}, Reps K ca F H ds vs → Reps K ca F H es ws → Reps K ca F H (ds ++ es) (vs ++ ws)
  | [], es, vs, ws, h, g => by unfold Reps at h; subst h; exact g
  | d :: ds, es, vs, ws, h, g => by
    unfold Reps at h
    obtain ⟨v, r, e1, q, z⟩ := h
    subst e1
    exact .cons q (z.append g)
theorem Reps.take : ∀ {ds : List D} {vs : List V} (n : Nat), Reps K ca F H ds vs → Reps K ca F H (ds.take n) (vs.take n)
  | [], vs, n, h => by unfold Reps at h; subst h; rw [List.take_nil, List.take_nil]; exact .nil
  | d :: ds, vs, 0, h => by rw [List.take_zero, List.take_zero]; exact .nil
  | d :: ds, vs, n + 1, h => by
    unfold Reps at h
    obtain ⟨v, r, e1, q, z⟩ := h
    subst e1
    exact .cons q (z.take n)
theorem Reps.drop : ∀ {ds : List D} {vs : List V} (n : Nat), Reps K ca F H ds vs → Reps K ca F H (ds.drop n) (vs.drop n)
  | [], vs, n, h => by unfold Reps at h; subst h; rw [List.drop_nil, List.drop_nil]; exact .nil
  | d :: ds, vs, 0, h => h
  | d :: ds, vs, n + 1, h => by
    unfold Reps at h
    obtain ⟨v, r, e1, q, z⟩ := h
    subst e1
    exact z.drop n
theorem Reps.set : ∀ {ds : List D} {vs : List V} {d : D} {v : V} (i : Nat), Reps K ca F H ds vs → Rep K ca F H d v → Reps K ca F H (ds.set i d) (vs.set i v)
  | [], vs, d, v, i, h, g => by unfold Reps at h; subst h; exact .nil
  | d0 :: ds, vs, d, v, 0, h, g => by
    unfold Reps at h
    obtain ⟨v', r, e1, q, z⟩ := h
    subst e1
    exact .cons g z
  | d0 :: ds, vs, d, v, i + 1, h, g => by
    unfold Reps at h
    obtain ⟨v', r, e1, q, z⟩ := h
    subst e1
    exact .cons q (z.set i g)
end
end Ev
namespace Ev
open PySem PySem.Spec PyProof.Rows L2
section
variable {K : PySem.W.Frag} {ca : Ca} {F F' : Addr → Prop} {H H' : Hp} {A A' B : List Addr}

theorem RepI.stay {own : Bool} {d : D} {v : V} (h : RepI K ca F H own d v B) (f : ∀ a, F a → F' a) (k : ∀ a o, F a → H a = some o → H' a = some o)
    (kb : ∀ a ∈ B, ∀ o, H a = some o → H' a = some o) (nb : ∀ a ∈ B, ¬ F' a) : RepI K ca F' H' own d v B := by
  cases own with
  | false => exact ⟨h.1, Rep.mono f k d v h.2⟩
  | true =>
    obtain ⟨a, ds, vs, e1, e2, e3, n, q, r⟩ := h
    subst e3
    exact ⟨a, ds, vs, e1, e2, rfl, nb a (by simp), kb a (by simp) _ q, Reps.mono f k ds vs r⟩
theorem RepIs.stay : ∀ {ns : List Str} {ds : List D} {vs : List V} {B : List Addr}, RepIs K ca F H ns ds vs B → (∀ a, F a → F' a) → (∀ a o, F a → H a = some o → H' a = some o) →
    (∀ a ∈ B, ∀ o, H a = some o → H' a = some o) → (∀ a ∈ B, ¬ F' a) → RepIs K ca F' H' ns ds vs B
  | [], _, _, _, h, _, _, _, _ => h
  | n :: ns, ds, vs, B, h, f, k, kb, nb => by
    obtain ⟨d, dr, v, vr, B1, C, rfl, rfl, rfl, h1, h2⟩ := h
    exact ⟨d, dr, v, vr, B1, C, rfl, rfl, rfl, h1.stay f k (fun a m => kb a (List.mem_append_left _ m)) fun a m => nb a (List.mem_append_left _ m),
      h2.stay f k (fun a m => kb a (List.mem_append_right _ m)) fun a m => nb a (List.mem_append_right _ m)⟩
theorem Own.stay : ∀ {d : D} {v : V} {B : List Addr}, Own K ca F H d v B → (∀ a, F a → F' a) → (∀ a o, F a → H a = some o → H' a = some o) →
    (∀ a ∈ B, ∀ o, H a = some o → H' a = some o) → (∀ a ∈ B, ¬ F' a) → Own K ca F' H' d v B
  | .lst ds, v, B, h, f, k, kb, nb => by
    obtain ⟨a, vs, e1, e2, n, q, r⟩ := h
    subst e2
    exact ⟨a, vs, e1, rfl, nb a (by simp), kb a (by simp) _ q, Reps.mono f k ds vs r⟩
  | .dic ks ds, v, B, h, f, k, kb, nb => by
    obtain ⟨a, kvs, vs, e1, e2, n, q, rk, r⟩ := h
    subst e2
    exact ⟨a, kvs, vs, e1, rfl, nb a (by simp), kb a (by simp) _ q, rk, Reps.mono f k ds vs r⟩
  | .obj c ns ds, v, B, h, f, k, kb, nb => by
    obtain ⟨a, dx, gs, C, e1, kc, e2, n1, n2, q1, q2, e3, r⟩ := h
    subst e2
    exact ⟨a, dx, gs, C, e1, kc, rfl, nb a (by simp), nb dx (by simp), kb a (by simp) _ q1, kb dx (by simp) _ q2, e3,
      r.stay f k (fun b m => kb b (by simp [m])) fun b m => nb b (by simp [m])⟩
  | .non, _, _, h, _, _, _, _ => h
  | .bl _, _, _, h, _, _, _, _ => h
  | .int _, _, _, h, _, _, _, _ => h
  | .str _, _, _, h, _, _, _, _ => h
  | .tup _, _, _, h, _, _, _, _ => h
  | .scr _, _, _, h, _, _, _, _ => h
theorem RepI.nf {own : Bool} {d : D} {v : V} (h : RepI K ca F H own d v B) : ∀ a ∈ B, ¬ F a ∧ ∃ o, H a = some o := by
  cases own with
  | false => rw [h.1]; intro a m; cases m
  | true =>
    obtain ⟨a, ds, vs, e1, e2, e3, n, q, r⟩ := h
    subst e3
    intro b m
    have e : b = a := by simpa using m
    rw [e]; exact ⟨n, _, q⟩
theorem RepIs.nf : ∀ {ns : List Str} {ds : List D} {vs : List V} {B : List Addr}, RepIs K ca F H ns ds vs B → ∀ a ∈ B, ¬ F a ∧ ∃ o, H a = some o
  | [], _, _, _, h, a, m => by rw [h.2.2] at m; cases m
  | n :: ns, ds, vs, B, h, a, m => by
    obtain ⟨d, dr, v, vr, B1, C, rfl, rfl, rfl, h1, h2⟩ := h
    rcases List.mem_append.mp m with m | m
    · exact h1.nf a m
    · exact h2.nf a m
theorem Own.nf : ∀ {d : D} {v : V} {B : List Addr}, Own K ca F H d v B → ∀ a ∈ B, ¬ F a ∧ ∃ o, H a = some o
  | .lst ds, v, B, h, b, m => by
    obtain ⟨a, vs, e1, e2, n, q, r⟩ := h
    subst e2
    have e : b = a := by simpa using m
    rw [e]; exact ⟨n, _, q⟩
  | .dic ks ds, v, B, h, b, m => by
    obtain ⟨a, kvs, vs, e1, e2, n, q, r⟩ := h
    subst e2
    have e : b = a := by simpa using m
    rw [e]; exact ⟨n, _, q⟩
  | .obj c ns ds, v, B, h, b, m => by
    obtain ⟨a, dx, gs, C, e1, kc, e2, n1, n2, q1, q2, e3, r⟩ := h
    subst e2
    rcases List.mem_cons.mp m with m | m
    · rw [m]; exact ⟨n1, _, q1⟩
    · rcases List.mem_cons.mp m with m | m
      · rw [m]; exact ⟨n2, _, q2⟩
      · exact r.nf b m
  | .non, _, _, h, _, _ => False.elim h
  | .bl _, _, _, h, _, _ => False.elim h
  | .int _, _, _, h, _, _ => False.elim h
  | .str _, _, _, h, _, _ => False.elim h
  | .tup _, _, _, h, _, _ => False.elim h
  | .scr _, _, _, h, _, _ => False.elim h
theorem RepC.stay {c : Cell} {x : Option V} (h : RepC K ca F H c x B) (f : ∀ a, F a → F' a) (k : ∀ a o, F a → H a = some o → H' a = some o)
    (kb : ∀ a ∈ B, ∀ o, H a = some o → H' a = some o) (nb : ∀ a ∈ B, ¬ F' a) : RepC K ca F' H' c x B := by
  cases c with
  | n => exact h
  | f d => obtain ⟨e, v, e2, r⟩ := h; exact ⟨e, v, e2, Rep.mono f k d v r⟩
  | o d => obtain ⟨v, e, r⟩ := h; exact ⟨v, e, r.stay f k kb nb⟩
theorem RepC.nf {c : Cell} {x : Option V} (h : RepC K ca F H c x B) : ∀ a ∈ B, ¬ F a ∧ ∃ o, H a = some o := by
  cases c with
  | n => rw [show B = [] from h]; intro a m; cases m
  | f d => rw [h.1]; intro a m; cases m
  | o d => obtain ⟨v, e, r⟩ := h; exact r.nf
theorem RepS.stay : ∀ {st : Sl} {σ : L2.St} {B : List Addr}, RepS K ca F H st σ B → (∀ a, F a → F' a) → (∀ a o, F a → H a = some o → H' a = some o) →
    (∀ a ∈ B, ∀ o, H a = some o → H' a = some o) → (∀ a ∈ B, ¬ F' a) → RepS K ca F' H' st σ B
  | [], _, _, h, _, _, _, _ => h
  | c :: cs, σ, B, h, f, k, kb, nb => by
    obtain ⟨x, r, B1, C, rfl, rfl, h1, h2⟩ := h
    exact ⟨x, r, B1, C, rfl, rfl, h1.stay f k (fun a m => kb a (List.mem_append_left _ m)) fun a m => nb a (List.mem_append_left _ m),
      h2.stay f k (fun a m => kb a (List.mem_append_right _ m)) fun a m => nb a (List.mem_append_right _ m)⟩
theorem RepS.length : ∀ {st : Sl} {σ : L2.St} {B : List Addr}, RepS K ca F H st σ B → σ.length = st.length
  | [], _, _, h => by rw [h.1]; rfl
  | c :: cs, σ, B, h => by
    obtain ⟨x, r, B1, C, rfl, rfl, h1, h2⟩ := h
    rw [List.length_cons, List.length_cons, h2.length]
/-- a slot taken out -/
theorem RepS.take : ∀ {st : Sl} {σ : L2.St} {B : List Addr} {i : Nat} {c : Cell}, RepS K ca F H st σ B → st[i]? = some c →
    ∃ x B1 C, σ[i]? = some x ∧ RepC K ca F H c x B1 ∧ RepS K ca F H (st.set i .n) σ C ∧ B.Perm (B1 ++ C)
  | [], _, _, _, _, _, e => by simp at e
  | c0 :: cs, σ, B, 0, c, h, e => by
    obtain ⟨x, r, B1, C, rfl, rfl, h1, h2⟩ := h
    simp only [List.getElem?_cons_zero, Option.some.injEq] at e
    subst e
    exact ⟨x, B1, C, rfl, h1, ⟨x, r, [], C, rfl, rfl, rfl, h2⟩, .refl _⟩
  | c0 :: cs, σ, B, i + 1, c, h, e => by
    obtain ⟨x, r, B1, C, rfl, rfl, h1, h2⟩ := h
    simp only [List.getElem?_cons_succ] at e
    obtain ⟨y, B2, C2, e2, q1, q2, p⟩ := h2.take e
    refine ⟨y, B2, B1 ++ C2, by simpa using e2, q1, ⟨x, r, B1, C2, rfl, rfl, h1, q2⟩, ?_⟩
    refine (p.append_left B1).trans ?_
    rw [← List.append_assoc, ← List.append_assoc]
    exact List.perm_append_comm.append_right C2
/-- .. and put back -/
theorem RepS.put : ∀ {st : Sl} {σ : L2.St} {C : List Addr} {i : Nat} {c c0 : Cell} {x : Option V} {B1 : List Addr}, RepS K ca F H st σ C → st[i]? = some .n → σ[i]? = some x → RepC K ca F H c x B1 →
    ∃ B, RepS K ca F H (st.set i c) σ B ∧ B.Perm (B1 ++ C)
  | [], _, _, _, _, _, _, _, _, e, _, _ => by simp at e
  | c0 :: cs, σ, C, 0, c, _, x, B1, h, e, es, g => by
    obtain ⟨y, r, B2, C2, rfl, rfl, h1, h2⟩ := h
    simp only [List.getElem?_cons_zero, Option.some.injEq] at e es
    subst e es
    rw [show B2 = [] from h1]
    exact ⟨B1 ++ C2, ⟨y, r, B1, C2, rfl, rfl, g, h2⟩, .refl _⟩
  | c1 :: cs, σ, C, i + 1, c, c0, x, B1, h, e, es, g => by
    obtain ⟨y, r, B2, C2, rfl, rfl, h1, h2⟩ := h
    simp only [List.getElem?_cons_succ] at e es
    obtain ⟨B3, q, p⟩ := h2.put (c0 := c0) e es g
    refine ⟨B2 ++ B3, ⟨y, r, B2, B3, rfl, rfl, h1, q⟩, ?_⟩
    refine (p.append_left B2).trans ?_
    rw [← List.append_assoc, ← List.append_assoc]
    exact List.perm_append_comm.append_right C2
/-- a slot stored -/
theorem RepS.asg : ∀ {st : Sl} {σ : L2.St} {B : List Addr} {i : Nat} {c : Cell} {v : V} {B1 : List Addr}, RepS K ca F H st σ B → i < st.length → RepC K ca F H c (some v) B1 →
    ∃ B2 C, RepS K ca F H (st.set i c) (σ.set i (some v)) B2 ∧ B2.Perm (B1 ++ C) ∧ C.Sublist B
  | [], _, _, _, _, _, _, _, l, _ => by simp at l
  | c0 :: cs, σ, B, 0, c, v, B1, h, l, g => by
    obtain ⟨x, r, B2, C, rfl, rfl, h1, h2⟩ := h
    exact ⟨B1 ++ C, C, ⟨some v, r, B1, C, rfl, rfl, g, h2⟩, .refl _, List.sublist_append_right _ _⟩
  | c0 :: cs, σ, B, i + 1, c, v, B1, h, l, g => by
    obtain ⟨x, r, B2, C, rfl, rfl, h1, h2⟩ := h
    obtain ⟨B3, C3, q, p, s⟩ := h2.asg (by simpa using l) g
    refine ⟨B2 ++ B3, B2 ++ C3, ⟨x, r.set i (some v), B2, B3, rfl, rfl, h1, q⟩, ?_, s.append_left B2⟩
    refine (p.append_left B2).trans ?_
    rw [← List.append_assoc, ← List.append_assoc]
    exact List.perm_append_comm.append_right C3

theorem Rl.perm {st : Sl} {σ : L2.St} (h : Rl K ca F H st σ A) (p : A.Perm A') : Rl K ca F H st σ A' :=
  ⟨let ⟨B, q, e⟩ := h.rep; ⟨B, q, e.trans p⟩, p.nodup_iff.mp h.nd, h.fd, fun a m => h.nf a (p.mem_iff.mpr m)⟩
theorem Rl.len {st : Sl} {σ : L2.St} (h : Rl K ca F H st σ A) : σ.length = st.length := let ⟨_, q, _⟩ := h.rep; q.length
/-- new objects -/
theorem Rl.ext {st : Sl} {σ : L2.St} (h : Rl K ca F H st σ A) (k : ∀ a o, H a = some o → H' a = some o) : Rl K ca F H' st σ A :=
  ⟨let ⟨B, q, e⟩ := h.rep; ⟨B, q.stay (fun _ z => z) (fun a o _ => k a o) (fun a _ o => k a o) (fun a m => (h.nf a (e.mem_iff.mp m)).1), e⟩, h.nd,
    fun a q => let ⟨o, e⟩ := h.fd a q; ⟨o, k a o e⟩, fun a m => ⟨(h.nf a m).1, let ⟨o, e⟩ := (h.nf a m).2; ⟨o, k a o e⟩⟩⟩
theorem Rl.take {st : Sl} {σ : L2.St} {i : Nat} {c : Cell} (h : Rl K ca F H st σ A) (e : st[i]? = some c) :
    ∃ x B C, σ[i]? = some x ∧ RepC K ca F H c x B ∧ Rl K ca F H (st.set i .n) σ C ∧ A.Perm (B ++ C) := by
  obtain ⟨A0, q, p⟩ := h.rep
  obtain ⟨x, B, C, e1, r, s, p2⟩ := q.take e
  have pp : A.Perm (B ++ C) := p.symm.trans p2
  have nd : (B ++ C).Nodup := pp.nodup_iff.mp h.nd
  exact ⟨x, B, C, e1, r, ⟨⟨C, s, .refl _⟩, (List.nodup_append.mp nd).2.1, h.fd, fun a m => h.nf a (pp.mem_iff.mpr (List.mem_append_right _ m))⟩, pp⟩
theorem Rl.put {st : Sl} {σ : L2.St} {i : Nat} {c : Cell} {x : Option V} (h : Rl K ca F H st σ A) (e : st[i]? = some .n) (es : σ[i]? = some x) (r : RepC K ca F H c x B) (nd : (B ++ A).Nodup) :
    Rl K ca F H (st.set i c) σ (B ++ A) := by
  obtain ⟨A0, q, p⟩ := h.rep
  obtain ⟨B2, s, p2⟩ := q.put (c0 := .n) e es r
  refine ⟨⟨B2, s, p2.trans (p.append_left B)⟩, nd, h.fd, fun a m => ?_⟩
  rcases List.mem_append.mp m with m | m
  · exact r.nf a m
  · exact h.nf a m
theorem Rl.asg {st : Sl} {σ : L2.St} {i : Nat} {c : Cell} {v : V} (h : Rl K ca F H st σ A) (l : i < st.length) (r : RepC K ca F H c (some v) B) (nd : (B ++ A).Nodup) :
    ∃ C, (∀ a ∈ C, a ∈ A) ∧ Rl K ca F H (st.set i c) (σ.set i (some v)) (B ++ C) := by
  obtain ⟨A0, q, p⟩ := h.rep
  obtain ⟨B2, C, s, p2, su⟩ := q.asg l r
  have sub : ∀ a ∈ C, a ∈ A := fun a m => p.mem_iff.mp (su.subset m)
  have ndC : C.Nodup := (p.nodup_iff.mpr h.nd).sublist su
  obtain ⟨n1, n2, n3⟩ := List.nodup_append.mp nd
  refine ⟨C, sub, ⟨B2, s, p2⟩, List.nodup_append.mpr ⟨n1, ndC, fun a ma b mb => n3 a ma b (sub b mb)⟩, h.fd, fun a m => ?_⟩
  rcases List.mem_append.mp m with m | m
  · exact r.nf a m
  · exact h.nf a (sub a m)

/-- what was pending stays -/
theorem Step.kf {st : Sl} {σ : L2.St} (s : Step F H A F' H' A') (h : Rl K ca F H st σ A) : ∀ a o, F a → H a = some o → H' a = some o := fun a o f e => s.keep a o e fun m => (h.nf a m).1 f
theorem Step.nb {C : List Addr} (s : Step F H A F' H' A') (nf : ∀ a ∈ C, ¬ F a ∧ ∃ o, H a = some o) (d : ∀ a ∈ C, a ∉ A) : ∀ a ∈ C, ¬ F' a := fun a m q => by
  rcases s.fnew a q with z | z | z
  · exact (nf a m).1 z
  · obtain ⟨o, e⟩ := (nf a m).2; rw [e] at z; cases z
  · exact d a m z
theorem Own.step {st : Sl} {σ : L2.St} {d : D} {v : V} (o : Own K ca F H d v B) (s : Step F H A F' H' A') (h : Rl K ca F H st σ A) (dj : ∀ a ∈ B, a ∉ A) : Own K ca F' H' d v B :=
  o.stay s.fm (s.kf h) (fun a m ob e => s.keep a ob e (dj a m)) (s.nb o.nf dj)
theorem RepC.step {st : Sl} {σ : L2.St} {c : Cell} {x : Option V} (o : RepC K ca F H c x B) (s : Step F H A F' H' A') (h : Rl K ca F H st σ A) (dj : ∀ a ∈ B, a ∉ A) : RepC K ca F' H' c x B :=
  o.stay s.fm (s.kf h) (fun a m ob e => s.keep a ob e (dj a m)) (s.nb o.nf dj)
theorem Rep.step {st : Sl} {σ : L2.St} {d : D} {v : V} (o : Rep K ca F H d v) (s : Step F H A F' H' A') (h : Rl K ca F H st σ A) : Rep K ca F' H' d v := Rep.mono s.fm (s.kf h) d v o
theorem Reps.step {st : Sl} {σ : L2.St} {d : List D} {v : List V} (o : Reps K ca F H d v) (s : Step F H A F' H' A') (h : Rl K ca F H st σ A) : Reps K ca F' H' d v := Reps.mono s.fm (s.kf h) d v o
/-- slots that did not run stay: what another part does -/
theorem Rl.step {st st2 : Sl} {σ σ2 : L2.St} {C : List Addr} (h : Rl K ca F H st σ C) (s : Step F H A F' H' A') (g : Rl K ca F H st2 σ2 A) (dj : ∀ a ∈ C, a ∉ A) (fd : ∀ a, F' a → ∃ o, H' a = some o) : Rl K ca F' H' st σ C := by
  obtain ⟨B, q, e⟩ := h.rep
  have nb := s.nb h.nf dj
  refine ⟨⟨B, q.stay s.fm (s.kf g) (fun a m ob z => s.keep a ob z (dj a (e.mem_iff.mp m))) (fun a m => nb a (e.mem_iff.mp m)), e⟩, h.nd, fd, fun a m => ⟨nb a m, ?_⟩⟩
  obtain ⟨o, z⟩ := (h.nf a m).2
  exact ⟨o, s.keep a o z (dj a m)⟩

/-- what may be frozen: no object with lists of its own -/
def fzOk : D → Bool
  | .lst _ => true
  | .dic _ _ => true
  | .obj _ ns _ => ns.all fun f => !owf f
  | _ => false
theorem RepIs.fz : ∀ {ns : List Str} {ds : List D} {vs : List V} {B : List Addr}, RepIs K ca F H ns ds vs B → (ns.all fun f => !owf f) = true → B = [] ∧ Reps K ca F H ds vs
  | [], _, _, _, h, _ => by
    obtain ⟨rfl, rfl, rfl⟩ := h
    exact ⟨rfl, .nil⟩
  | n :: ns, ds, vs, B, h, g => by
    obtain ⟨d, dr, v, vr, B1, C, rfl, rfl, rfl, h1, h2⟩ := h
    rw [List.all_cons, Bool.and_eq_true] at g
    obtain ⟨rfl, r2⟩ := h2.fz g.2
    have e : owf n = false := by simpa using g.1
    rw [e] at h1
    obtain ⟨rfl, r1⟩ := h1
    exact ⟨rfl, .cons r1 r2⟩
theorem Own.fz {d : D} {v : V} (h : Own K ca F H d v B) (g : fzOk d = true) : Rep K ca (fun a => F a ∨ a ∈ B) H d v := by
  cases d with
  | lst ds =>
    obtain ⟨a, vs, e1, e2, n, q, r⟩ := h
    subst e2
    unfold Rep
    exact ⟨a, vs, e1, ⟨.inr (by simp), q⟩, Reps.mono (fun _ => .inl) (fun _ _ _ z => z) _ _ r⟩
  | dic ks ds =>
    obtain ⟨a, kvs, vs, e1, e2, n, q, rk, r⟩ := h
    subst e2
    unfold Rep
    exact ⟨a, kvs, vs, e1, .inr (by simp), .inl q, rk, Reps.mono (fun _ => .inl) (fun _ _ _ z => z) _ _ r⟩
  | obj c ns ds =>
    obtain ⟨a, dx, gs, C, e1, kc, e2, n1, n2, q1, q2, e3, r⟩ := h
    obtain ⟨e0, r0⟩ := r.fz g
    subst e0
    subst e2
    unfold Rep
    exact ⟨a, dx, gs, _, e1, kc, .inr (by simp), .inr (by simp), q1, q2, e3, rfl, Reps.mono (fun _ => .inl) (fun _ _ _ z => z) _ _ r0⟩
  | non => exact h.elim
  | bl _ => exact h.elim
  | int _ => exact h.elim
  | str _ => exact h.elim
  | tup _ => exact h.elim
  | scr _ => exact h.elim
theorem Rl.fz {st : Sl} {σ : L2.St} (h : Rl K ca F H st σ A) (nb : ∀ a ∈ B, ∃ o, H a = some o) (dj : ∀ a ∈ B, a ∉ A) : Rl K ca (fun a => F a ∨ a ∈ B) H st σ A := by
  have nA : ∀ a ∈ A, ¬ (F a ∨ a ∈ B) := fun a m z => z.elim (h.nf a m).1 fun q => dj a q m
  obtain ⟨B2, q, e⟩ := h.rep
  refine ⟨⟨B2, q.stay (fun _ => .inl) (fun _ _ _ z => z) (fun _ _ _ z => z) (fun a m => nA a (e.mem_iff.mp m)), e⟩, h.nd, fun a m => m.elim (h.fd a) (nb a), fun a m => ⟨nA a m, (h.nf a m).2⟩⟩
end
end Ev
namespace Ev
open PySem PySem.Spec PyProof.Rows L2

/-- an exception of the class c; x: its index -/
def ExcIs (K : PySem.W.Frag) (ca : Ca) (F : Addr → Prop) (H : Hp) (c : Str) (x : Option D) (cls : Value) (oe : Option Addr) : Prop :=
  cls = .ref (ca.a c) ∧ ∀ d, x = some d → ∃ a v, oe = some a ∧ H a = some (.xd [("index", v)]) ∧ Rep K ca F H d v

section
variable (K : PySem.W.Frag) (ca : Ca) (W : WX)
/-- what is wanted where an exception comes -/
def XcW (F : Addr → Prop) (H : Hp) (A : List Addr) (σ : L2.St) (c : Str) (x : Option D) (st' : Sl) : Prop :=
  ∀ cls oe F' H' A', Rl K ca F' H' st' σ A' → ExcIs K ca F' H' c x cls oe → Step F H A F' H' A' → W cls oe σ H'
/-- an expression that gives frozen data -/
def tE (m : E) : TE := fun σ H Q => ∃ F st A, Rl K ca F H st σ A ∧ match m st with
  | .ok d st' => ∀ v F' H' A', Rl K ca F' H' st' σ A' → Rep K ca F' H' d v → Step F H A F' H' A' → Q v H'
  | .exc c x st' => XcW K ca W F H A σ c x st'
  | .bad => False
/-- .. that gives data that nothing else holds -/
def tO (m : E) : TE := fun σ H Q => ∃ F st A, Rl K ca F H st σ A ∧ match m st with
  | .ok d st' => ∀ v F' H' A' B, Rl K ca F' H' st' σ A' → Own K ca F' H' d v B → (B ++ A').Nodup → Step F H A F' H' (B ++ A') → Q v H'
  | .exc c x st' => XcW K ca W F H A σ c x st'
  | .bad => False
end
theorem PE.imp {X : Cx} {e : Expr} {t t' : TE} (h : PE X e t) (i : ∀ σ H Q, t' σ H Q → t σ H Q) : PE X e t' := ⟨fun pins s σ H Q I q => h.run pins s σ H Q I (i σ H Q q)⟩
theorem PT.imp {X : Cx} {e : Expr} {t t' : TT} (h : PT X e t) (i : ∀ σ H Q, t' σ H Q → t σ H Q) : PT X e t' := ⟨fun pins s σ H Q I q => h.run pins s σ H Q I (i σ H Q q)⟩
theorem PA.imp {X : Cx} {e : List Expr} {t t' : TA} (h : PA X e t) (i : ∀ σ H Q, t' σ H Q → t σ H Q) : PA X e t' := ⟨fun pos pins s σ H Q I q => h.run pos pins s σ H Q I (i σ H Q q)⟩
theorem PS.imp {X : Cx} {e : Stmt} {t t' : TS} (h : PS X e t) (i : ∀ D σ H, t' D σ H → t D σ H) : PS X e t' := ⟨fun pins s σ H D I q => h.run pins s σ H D I (i D σ H q)⟩
theorem PSs.imp {X : Cx} {e : List Stmt} {t t' : TS} (h : PSs X e t) (i : ∀ D σ H, t' D σ H → t D σ H) : PSs X e t' := ⟨fun pins s σ H D I q => h.run pins s σ H D I (i D σ H q)⟩
theorem PG.imp {X : Cx} {e : Expr} {t t' : TG} (h : PG X e t) (i : ∀ v σ H Q, t' v σ H Q → t v σ H Q) : PG X e t' := ⟨fun pins s σ H v u Q I r q => h.run pins s σ H v u Q I r (i v σ H Q q)⟩
theorem PI.imp {X : Cx} {tg e : Expr} {t t' : TI} (h : PI X tg e t) (i : ∀ σ H R, t' σ H R → t σ H R) : PI X tg e t' := ⟨fun pins s σ H R I q => h.run pins s σ H R I (i σ H R q)⟩

def lookF : List Str → List D → Str → Option D
  | n :: ns, d :: ds, f => if f == n then some d else lookF ns ds f
  | _, _, _ => none
def rd (i : Nat) (st : Sl) : Option D := match st[i]? with
  | some (.f d) => some d
  | some (.o d) => some d
  | _ => none
def rdF (i : Nat) (f : Str) (st : Sl) : Option D := match rd i st with
  | some (.obj _ ns ds) => lookF ns ds f
  | _ => none
section
variable (K : PySem.W.Frag) (ca : Ca)
/-- v is to be read as d just now -/
def VwL (F : Addr → Prop) (H : Hp) (d : D) (v : V) : Prop := Rep K ca F H d v ∨ ∃ a ds vs, d = .lst ds ∧ v = .ref a ∧ H a = some (.lst vs) ∧ Reps K ca F H ds vs
def Vws (F : Addr → Prop) (H : Hp) : List Str → List D → List V → Prop
  | [], ds, vs => ds = [] ∧ vs = []
  | n :: ns, ds, vs => ∃ d dr v vr, ds = d :: dr ∧ vs = v :: vr ∧ VwL K ca F H d v ∧ (owf n = false → Rep K ca F H d v) ∧ Vws F H ns dr vr
def Vw (F : Addr → Prop) (H : Hp) : D → V → Prop
  | .lst ds, v => ∃ a vs, v = .ref a ∧ H a = some (.lst vs) ∧ Reps K ca F H ds vs
  | .dic ks ds, v => ∃ a kvs vs, v = .ref a ∧ Rd H a (.dK kvs) ∧ RepK vs ks kvs ∧ Reps K ca F H ds vs
  | .obj c ns ds, v => ∃ a dx gs, v = .ref a ∧ ca.ok c ns ∧ H a = some (.ins (ca.a c) dx gs) ∧ H dx = some (.own a) ∧ gs.map (·.1) = ns ∧ Vws K ca F H ns ds (gs.map (·.2))
  | .non, v => v = .non
  | .bl b, v => v = .bl b
  | .int i, v => v = .int i
  | .str x, v => v = .str x
  | .tup ds, v => Rep K ca F H (.tup ds) v
  | .scr ns, v => Rep K ca F H (.scr ns) v
end
section
variable {K : PySem.W.Frag} {ca : Ca} {F F' : Addr → Prop} {H H' : Hp} {A A' B : List Addr}
theorem Vws.of : ∀ {ns : List Str} {ds : List D} {vs : List V}, Reps K ca F H ds vs → vs.length = ns.length → Vws K ca F H ns ds vs
  | [], ds, vs, h, l => by
    have e : vs = [] := List.eq_nil_of_length_eq_zero l
    subst e
    cases ds with
    | nil => exact ⟨rfl, rfl⟩
    | cons d dr =>
      unfold Reps at h
      obtain ⟨v, r, e, _⟩ := h
      cases e
  | n :: ns, ds, vs, h, l => by
    cases ds with
    | nil => unfold Reps at h; subst h; cases l
    | cons d dr =>
      unfold Reps at h
      obtain ⟨v, r, e, q, z⟩ := h
      subst e
      exact ⟨d, dr, v, r, rfl, rfl, .inl q, fun _ => q, Vws.of z (by simpa using l)⟩
theorem Vws.own : ∀ {ns : List Str} {ds : List D} {vs : List V} {B : List Addr}, RepIs K ca F H ns ds vs B → Vws K ca F H ns ds vs
  | [], ds, vs, B, h => ⟨h.1, h.2.1⟩
  | n :: ns, ds, vs, B, h => by
    obtain ⟨d, dr, v, vr, B1, C, rfl, rfl, rfl, h1, h2⟩ := h
    refine ⟨d, dr, v, vr, rfl, rfl, ?_, fun e => ?_, Vws.own h2⟩
    · cases e : owf n with
      | false => rw [e] at h1; exact .inl h1.2
      | true =>
        rw [e] at h1
        obtain ⟨a, es, vs, e1, e2, _, _, q, r⟩ := h1
        exact .inr ⟨a, es, vs, e1, e2, q, r⟩
    · rw [e] at h1; exact h1.2
theorem Rep.vw {d : D} {v : V} (h : Rep K ca F H d v) : Vw K ca F H d v := by
  cases d with
  | non => unfold Rep at h; exact h
  | bl b => unfold Rep at h; exact h
  | int i => unfold Rep at h; exact h
  | str x => unfold Rep at h; exact h
  | tup ds => exact h
  | scr ns => exact h
  | lst ds => unfold Rep at h; obtain ⟨a, vs, e, q, r⟩ := h; exact ⟨a, vs, e, q.2, r⟩
  | dic ks ds => unfold Rep at h; obtain ⟨a, kvs, vs, e, _, q, rk, r⟩ := h; exact ⟨a, kvs, vs, e, q, rk, r⟩
  | obj c ns ds =>
    unfold Rep at h
    obtain ⟨a, dx, gs, vs, e, kc, _, _, q1, q2, e1, e2, r⟩ := h
    refine ⟨a, dx, gs, e, kc, q1, q2, e1, ?_⟩
    rw [e2]
    refine Vws.of r ?_
    rw [← e2, ← e1]; simp
theorem Own.vw {d : D} {v : V} (h : Own K ca F H d v B) : Vw K ca F H d v := by
  cases d with
  | lst ds => obtain ⟨a, vs, e, _, _, q, r⟩ := h; exact ⟨a, vs, e, q, r⟩
  | dic ks ds => obtain ⟨a, kvs, vs, e, _, _, q, rk, r⟩ := h; exact ⟨a, kvs, vs, e, .inl q, rk, r⟩
  | obj c ns ds => obtain ⟨a, dx, gs, C, e, kc, _, _, _, q1, q2, e1, r⟩ := h; exact ⟨a, dx, gs, e, kc, q1, q2, e1, Vws.own r⟩
  | non => exact h.elim
  | bl _ => exact h.elim
  | int _ => exact h.elim
  | str _ => exact h.elim
  | tup _ => exact h.elim
  | scr _ => exact h.elim
theorem VwL.vw {d : D} {v : V} (h : VwL K ca F H d v) : Vw K ca F H d v := by
  rcases h with h | ⟨a, ds, vs, rfl, e, q, r⟩
  · exact h.vw
  · exact ⟨a, vs, e, q, r⟩
theorem Rl.rd {st : Sl} {σ : L2.St} {i : Nat} {d : D} (h : Rl K ca F H st σ A) (e : rd i st = some d) : ∃ v, σ[i]? = some (some v) ∧ Vw K ca F H d v := by
  unfold Ev.rd at e
  cases q : st[i]? with
  | none => rw [q] at e; cases e
  | some c =>
    rw [q] at e
    obtain ⟨x, B, C, e1, r, _, _⟩ := h.take q
    cases c with
    | n => cases e
    | f d' =>
      cases e
      obtain ⟨_, v, rfl, r⟩ := r
      exact ⟨v, e1, r.vw⟩
    | o d' =>
      cases e
      obtain ⟨v, rfl, r⟩ := r
      exact ⟨v, e1, r.vw⟩
theorem Vws.look : ∀ {ns : List Str} {ds : List D} {gs : List (Str × V)} {f : Str} {d : D}, Vws K ca F H ns ds (gs.map (·.2)) → gs.map (·.1) = ns → lookF ns ds f = some d →
    ∃ v, gs.lookup f = some v ∧ VwL K ca F H d v ∧ (owf f = false → Rep K ca F H d v) ∧ f ∈ ns
  | [], ds, gs, f, d, h, e, l => by cases ds <;> cases l
  | n :: ns, ds, gs, f, d, h, e, l => by
    obtain ⟨d0, dr, v, vr, rfl, e2, h1, h2, h3⟩ := h
    cases gs with
    | nil => cases e2
    | cons g gs =>
      simp only [List.map_cons, List.cons.injEq] at e e2
      obtain ⟨e, er⟩ := e
      obtain ⟨e2, e2r⟩ := e2
      obtain ⟨g1, g2⟩ := g
      simp only at e e2
      subst e e2
      unfold lookF at l
      rw [List.lookup_cons]
      cases q : f == g1 with
      | true =>
        rw [q] at l
        cases l
        have ef : f = g1 := eq_of_beq q
        exact ⟨g2, rfl, h1, fun z => h2 (ef ▸ z), by rw [ef]; exact List.mem_cons_self⟩
      | false =>
        rw [q] at l
        subst e2r
        obtain ⟨v, a1, a2, a3, a4⟩ := Vws.look h3 er l
        exact ⟨v, a1, a2, a3, List.mem_cons_of_mem _ a4⟩
end

inductive Opd where
  | e (m : E) | v (i : Nat) | h (i : Nat) (f : Str)
/-- what an operand comes to: read at the end -/
def evO : Opd → Sl → R (Sl → Option D)
  | .e m, st => (m st).bind fun d st => .ok (fun _ => some d) st
  | .v i, st => match rd i st with
    | some _ => .ok (rd i) st
    | none => .bad
  | .h i f, st => .ok (rdF i f) st
def evOs : List Opd → Sl → R (List (Sl → Option D))
  | [], st => .ok [] st
  | p :: ps, st => (evO p st).bind fun r st => (evOs ps st).bind fun rs st => .ok (r :: rs) st
def rdAll : List (Sl → Option D) → Sl → Option (List D)
  | [], _ => some []
  | r :: rs, st => match r st, rdAll rs st with
    | some d, some ds => some (d :: ds)
    | _, _ => none
/-- an operation on operands -/
def eOp (g : List D → Option D) (ps : List Opd) : E := fun st => (evOs ps st).bind fun rs st => match rdAll rs st with
  | some ds => (match g ds with
    | some d => .ok d st
    | none => .bad)
  | none => .bad
/-- no operand that runs -/
def quiet : List Opd → Bool
  | [] => true
  | .e _ :: _ => false
  | _ :: ps => quiet ps
/-- an own field is read at the end alone -/
def opdsOk : List Opd → Bool
  | [] => true
  | .h _ _ :: ps => quiet ps
  | _ :: ps => opdsOk ps
theorem opdsOk_of_quiet : ∀ {ps : List Opd}, quiet ps = true → opdsOk ps = true
  | [], _ => rfl
  | .v _ :: ps, h => opdsOk_of_quiet (ps := ps) h
  | .h _ _ :: ps, h => h
section
variable (K : PySem.W.Frag) (ca : Ca) (W : WX)
def tP : Opd → TE
  | .e m => tE K ca W m
  | .v i => tVar i
  | .h i f => tFld K (tVar i) f
def tPs : List Opd → TA
  | [] => tNil
  | p :: ps => tCons (tP K ca W p) (tPs ps)
def VwA (F : Addr → Prop) (H : Hp) : List D → List V → Prop
  | [], vs => vs = []
  | d :: ds, vs => ∃ v r, vs = v :: r ∧ Vw K ca F H d v ∧ VwA F H ds r
end
/-- the facts of the classes -/
structure Cf (K : PySem.W.Frag) (ca : Ca) : Prop where
  cl : ∀ c ns, ca.ok c ns → Cls K (ca.a c)
  na : ∀ c ns, ca.ok c ns → ∀ f ∈ ns, NoAttr K (ca.a c) f
theorem owf_eq {f : Str} (h : owf f = true) : f = "history" := eq_of_beq h
section
variable {K : PySem.W.Frag} {ca : Ca} {W : WX} {F : Addr → Prop} {H : Hp} {A : List Addr} {σ : L2.St}
theorem evOs_v {i : Nat} {ps : List Opd} {st : Sl} {d : D} (h : rd i st = some d) : evOs (.v i :: ps) st = (evOs ps st).bind fun rs st => .ok (rd i :: rs) st := by
  show (R.bind (match rd i st with | some _ => R.ok (rd i) st | none => .bad) _) = _
  rw [h]; rfl
theorem evOs_v0 {i : Nat} {ps : List Opd} {st : Sl} (h : rd i st = none) : evOs (.v i :: ps) st = .bad := by
  show (R.bind (match rd i st with | some _ => R.ok (rd i) st | none => .bad) _) = _
  rw [h]; rfl
theorem evOs_h {i : Nat} {f : Str} {ps : List Opd} {st : Sl} : evOs (.h i f :: ps) st = (evOs ps st).bind fun rs st => .ok (rdF i f :: rs) st := rfl
theorem evOs_e {m : E} {ps : List Opd} {st : Sl} : evOs (.e m :: ps) st = (m st).bind fun d st => (evOs ps st).bind fun rs st => .ok ((fun _ => some d) :: rs) st := by
  show ((m st).bind fun d st => R.ok (fun _ => some d) st).bind _ = _
  cases m st <;> rfl
/-- a value by a reader -/
theorem rdAll_cons {r : Sl → Option D} {rs : List (Sl → Option D)} {st : Sl} {ds : List D} (h : rdAll (r :: rs) st = some ds) : ∃ d dr, ds = d :: dr ∧ r st = some d ∧ rdAll rs st = some dr := by
  unfold rdAll at h
  cases e1 : r st with
  | none => rw [e1] at h; cases h
  | some d =>
    cases e2 : rdAll rs st with
    | none => rw [e1, e2] at h; cases h
    | some dr => rw [e1, e2] at h; cases h; exact ⟨d, dr, rfl, rfl, rfl⟩
theorem vw_field (cf : Cf K ca) {i : Nat} {f : Str} {st : Sl} {d : D} (h : Rl K ca F H st σ A) (ho : owf f = true) (e : rdF i f st = some d) :
    ∃ x, Vw K ca F H d x ∧ ∀ Q : VK, Q x H → tFld K (tVar i) f σ H Q := by
  unfold rdF at e
  cases q : rd i st with
  | none => rw [q] at e; cases e
  | some d0 =>
    rw [q] at e
    cases d0 <;> try cases e
    rename_i c ns ds
    obtain ⟨v, e1, a, dx, gs, rfl, kc, q1, q2, e2, vw⟩ := h.rd q
    obtain ⟨x, l, w, _, fm⟩ := vw.look e2 e
    exact ⟨x, w.vw, fun Q hq => ⟨_, e1, a, ca.a c, dx, gs, x, rfl, q1, cf.cl c ns kc, cf.na c ns kc f fm, l, hq⟩⟩
/-- all own fields that are read -/
def opdsF : List Opd → Bool
  | [] => true
  | .h _ f :: ps => owf f && opdsF ps
  | _ :: ps => opdsF ps
/-- quiet operands: nothing runs -/
theorem evOs_quiet : ∀ {ps : List Opd} {st : Sl}, quiet ps = true → (∃ rs, evOs ps st = .ok rs st) ∨ evOs ps st = .bad
  | [], st, _ => .inl ⟨[], rfl⟩
  | .v i :: ps, st, q => by
    cases r : rd i st with
    | none => exact .inr (evOs_v0 r)
    | some d =>
      rw [evOs_v r]
      rcases evOs_quiet (ps := ps) (st := st) q with ⟨rs, e⟩ | e
      · rw [e]; exact .inl ⟨_, rfl⟩
      · rw [e]; exact .inr rfl
  | .h i f :: ps, st, q => by
    rw [evOs_h]
    rcases evOs_quiet (ps := ps) (st := st) q with ⟨rs, e⟩ | e
    · rw [e]; exact .inl ⟨_, rfl⟩
    · rw [e]; exact .inr rfl
theorem opds_quiet (cf : Cf K ca) : ∀ {ps : List Opd} {st : Sl} {Q : List V → Hp → Prop}, quiet ps = true → opdsF ps = true → Rl K ca F H st σ A →
    (match evOs ps st with
      | .ok rs st' => ∃ ds, rdAll rs st' = some ds ∧ ∀ xs, VwA K ca F H ds xs → Q xs H
      | _ => False) → tPs K ca W ps σ H Q ∧ ∀ rs st', evOs ps st = .ok rs st' → st' = st
  | [], st, Q, _, _, h, q => by
    obtain ⟨ds, g, q⟩ := q
    cases g
    exact ⟨q [] rfl, fun _ _ e => by cases e; rfl⟩
  | .v i :: ps, st, Q, qu, of, h, q => by
    cases r : rd i st with
    | none => rw [evOs_v0 r] at q; exact q.elim
    | some d0 =>
      rw [evOs_v r] at q ⊢
      obtain ⟨v, e1, w⟩ := h.rd r
      cases z : evOs ps st with
      | bad => rw [z] at q; exact q.elim
      | exc c x s => rw [z] at q; exact q.elim
      | ok rs st1 =>
        rw [z] at q
        obtain ⟨ds, g, q⟩ := q
        obtain ⟨d, dr, rfl, g1, g2⟩ := rdAll_cons g
        have ih := opds_quiet cf (ps := ps) (st := st) (Q := fun xs H' => Q (v :: xs) H') qu of h (by
          rw [z]
          have e0 : st1 = st := (opds_quiet cf (ps := ps) (st := st) (Q := fun _ _ => True) qu of h (by rw [z]; exact ⟨dr, g2, fun _ _ => trivial⟩)).2 _ _ z
          rw [e0, r] at g1
          cases g1
          exact ⟨dr, g2, fun xs hx => q _ ⟨v, xs, rfl, w, hx⟩⟩)
        refine ⟨⟨v, e1, ih.1⟩, fun rs' st' e => ?_⟩
        cases e
        exact ih.2 _ _ z
  | .h i f :: ps, st, Q, qu, of, h, q => by
    obtain ⟨ho, of⟩ := Bool.and_eq_true_iff.mp (show (owf f && opdsF ps) = true from of)
    rw [evOs_h] at q ⊢
    cases z : evOs ps st with
    | bad => rw [z] at q; exact q.elim
    | exc c x s => rw [z] at q; exact q.elim
    | ok rs st1 =>
      rw [z] at q
      obtain ⟨ds, g, q⟩ := q
      obtain ⟨d, dr, rfl, g1, g2⟩ := rdAll_cons g
      have e0 : st1 = st := (opds_quiet cf (ps := ps) (st := st) (Q := fun _ _ => True) qu of h (by rw [z]; exact ⟨dr, g2, fun _ _ => trivial⟩)).2 _ _ z
      subst e0
      obtain ⟨x, w, k⟩ := vw_field cf h ho g1
      have ih := opds_quiet cf (ps := ps) (st := st1) (Q := fun xs H' => Q (x :: xs) H') qu of h (by
        rw [z]
        exact ⟨dr, g2, fun xs hx => q _ ⟨x, xs, rfl, w, hx⟩⟩)
      refine ⟨k (fun v H1 => tPs K ca W ps σ H1 fun xs H2 => Q (v :: xs) H2) ih.1, fun rs' st' e => ?_⟩
      cases e
      rfl
/-- the operands' readings -/
theorem opds_run (cf : Cf K ca) : ∀ {ps : List Opd} {F : Addr → Prop} {H : Hp} {A : List Addr} {st : Sl} {Q : List V → Hp → Prop}, opdsOk ps = true → opdsF ps = true → Rl K ca F H st σ A →
    (match evOs ps st with
      | .ok rs st' => ∃ ds, rdAll rs st' = some ds ∧ ∀ xs F' H' A', Rl K ca F' H' st' σ A' → VwA K ca F' H' ds xs → Step F H A F' H' A' → Q xs H'
      | .exc c x st' => XcW K ca W F H A σ c x st'
      | .bad => False) → tPs K ca W ps σ H Q
  | [], F, H, A, st, Q, _, _, h, q => by
    obtain ⟨ds, g, q⟩ := q
    cases g
    exact q [] F H A h rfl .refl
  | .v i :: ps, F, H, A, st, Q, ok, of, h, q => by
    cases r : rd i st with
    | none => rw [evOs_v0 r] at q; exact q.elim
    | some d0 =>
      rw [evOs_v r] at q
      obtain ⟨v, e1, w⟩ := h.rd r
      refine ⟨v, e1, opds_run cf (ps := ps) ok of h ?_⟩
      cases z : evOs ps st with
      | bad => rw [z] at q; exact q
      | exc c x s => rw [z] at q; exact q
      | ok rs st1 =>
        rw [z] at q
        obtain ⟨ds, g, q⟩ := q
        obtain ⟨d, dr, rfl, g1, g2⟩ := rdAll_cons g
        refine ⟨dr, g2, fun xs F' H' A' h' hx s => q _ F' H' A' h' ⟨v, xs, rfl, ?_, hx⟩ s⟩
        obtain ⟨v', e1', w'⟩ := h'.rd g1
        rw [e1] at e1'
        cases e1'
        exact w'
  | .h i f :: ps, F, H, A, st, Q, ok, of, h, q => by
    refine (opds_quiet cf (ps := .h i f :: ps) (st := st) (Q := Q) ok of h ?_).1
    rcases evOs_quiet (ps := .h i f :: ps) (st := st) ok with ⟨rs, z⟩ | z
    · rw [z] at q
      rw [z]
      obtain ⟨ds, g, q⟩ := q
      exact ⟨ds, g, fun xs hx => q xs F H A h hx .refl⟩
    · rw [z] at q; exact q.elim
  | .e m :: ps, F, H, A, st, Q, ok, of, h, q => by
    rw [evOs_e] at q
    refine ⟨F, st, A, h, ?_⟩
    cases z : m st with
    | bad => rw [z] at q; exact q
    | exc c x s => rw [z] at q; exact q
    | ok d st1 =>
      rw [z] at q
      intro v F1 H1 A1 h1 rep s1
      refine opds_run cf (ps := ps) ok of h1 ?_
      have q' : (match (evOs ps st1).bind fun rs st => R.ok ((fun _ => some d) :: rs) st with
        | .ok rs st' => ∃ ds, rdAll rs st' = some ds ∧ ∀ xs F' H' A', Rl K ca F' H' st' σ A' → VwA K ca F' H' ds xs → Step F H A F' H' A' → Q xs H'
        | .exc c x st' => XcW K ca W F H A σ c x st'
        | .bad => False) := q
      cases z2 : evOs ps st1 with
      | bad => rw [z2] at q'; exact q'
      | exc c x s => rw [z2] at q'; exact fun cls oe F' H' A' r xi s => q' cls oe F' H' A' r xi (s1.trans s)
      | ok rs st2 =>
        rw [z2] at q'
        obtain ⟨ds, g, q'⟩ := q'
        obtain ⟨d1, dr, rfl, g1, g2⟩ := rdAll_cons g
        cases g1
        exact ⟨dr, g2, fun xs F' H' A' h' hx s => q' _ F' H' A' h' ⟨v, xs, rfl, (rep.step s h1).vw, hx⟩ (s1.trans s)⟩

/-- new objects: frozen ones -/
structure Al (F : Addr → Prop) (H : Hp) (F' : Addr → Prop) (H' : Hp) : Prop where
  fm : ∀ a, F a → F' a
  keep : ∀ a o, H a = some o → H' a = some o
  fnew : ∀ a, F' a → F a ∨ (H a = none ∧ ∃ o, H' a = some o)
theorem Al.refl {F : Addr → Prop} {H : Hp} : Al F H F H := ⟨fun _ h => h, fun _ _ h => h, fun _ h => .inl h⟩
theorem Al.step {F' : Addr → Prop} {H' : Hp} (h : Al F H F' H') : Step F H A F' H' A := ⟨h.fm, fun a o e _ => h.keep a o e, fun a o e => ⟨o, h.keep a o e⟩, fun a m => (h.fnew a m).elim .inl fun z => .inr (.inl z.1), fun _ m => .inl m⟩
theorem Al.rl {F' : Addr → Prop} {H' : Hp} {st : Sl} (h : Al F H F' H') (r : Rl K ca F H st σ A) : Rl K ca F' H' st σ A := by
  have nA : ∀ a ∈ A, ¬ F' a := fun a m q => by
    rcases h.fnew a q with z | ⟨z, _⟩
    · exact (r.nf a m).1 z
    · obtain ⟨o, e⟩ := (r.nf a m).2; rw [e] at z; cases z
  obtain ⟨B2, q, e⟩ := r.rep
  refine ⟨⟨B2, q.stay h.fm (fun a o _ => h.keep a o) (fun a _ o => h.keep a o) (fun a m => nA a (e.mem_iff.mp m)), e⟩, r.nd, fun a m => ?_, fun a m => ⟨nA a m, let ⟨o, e⟩ := (r.nf a m).2; ⟨o, h.keep a o e⟩⟩⟩
  rcases h.fnew a m with z | ⟨_, z⟩
  · obtain ⟨o, e⟩ := r.fd a z; exact ⟨o, h.keep a o e⟩
  · exact z
/-- one new object, frozen -/
theorem Al.new {p : Addr} {o : HO} (n : H p = none) : Al F H (fun a => F a ∨ a = p) (upd H p o) := by
  refine ⟨fun _ => .inl, fun a u e => ?_, fun a m => ?_⟩
  · rw [upd_ne (ne_of_none e n)]; exact e
  · rcases m with m | rfl
    · exact .inl m
    · exact .inr ⟨n, o, upd_same⟩
/-- .. or an own one -/
theorem Step.newO {p : Addr} {o : HO} (n : H p = none) : Step F H A F (upd H p o) (p :: A) where
  fm := fun _ h => h
  keep := fun a u e _ => by rw [upd_ne (ne_of_none e n)]; exact e
  dom := fun a u e => ⟨u, by rw [upd_ne (ne_of_none e n)]; exact e⟩
  fnew := fun _ h => .inl h
  anew := fun a m => by
    rcases List.mem_cons.mp m with m | m
    · exact .inr (m ▸ n)
    · exact .inl m
theorem Rl.newO {p : Addr} {o : HO} {st : Sl} (r : Rl K ca F H st σ A) (n : H p = none) : Rl K ca F (upd H p o) st σ A := r.ext fun a u e => by rw [upd_ne (ne_of_none e n)]; exact e

/-- an operation by values: what it asks, what it gives (frozen) -/
def OpOk (K : PySem.W.Frag) (ca : Ca) (g : List D → Option D) (r : List V → Hp → VK → Prop) : Prop :=
  ∀ (F : Addr → Prop) (H : Hp) (ds : List D) (d : D) (xs : List V) (Q : VK), VwA K ca F H ds xs → g ds = some d →
    (∀ v F' H', Al F H F' H' → Rep K ca F' H' d v → Q v H') → r xs H Q
/-- .. gives a new list -/
def OpNew (K : PySem.W.Frag) (ca : Ca) (g : List D → Option (List D)) (r : List V → Hp → VK → Prop) : Prop :=
  ∀ (F : Addr → Prop) (H : Hp) (ds es : List D) (xs : List V) (Q : VK), VwA K ca F H ds xs → g ds = some es →
    (∀ p vs, H p = none → Reps K ca F H es vs → Q (.ref p) (upd H p (.lst vs))) → r xs H Q
theorem OpNew.ok {g : List D → Option (List D)} {r : List V → Hp → VK → Prop} (h : OpNew K ca g r) : OpOk K ca (fun ds => (g ds).map .lst) r := by
  intro F H ds d xs Q vw e q
  have e : (g ds).map D.lst = some d := e
  cases z : g ds with
  | none => rw [z] at e; cases e
  | some es =>
    rw [z] at e
    cases e
    refine h F H ds es xs Q vw z fun p vs n r => q _ _ _ (Al.new (F := F) n) ?_
    unfold Rep
    exact ⟨p, vs, rfl, ⟨.inr rfl, upd_same⟩, Reps.mono (fun _ => .inl) (fun a o _ e => by rw [upd_ne (ne_of_none e n)]; exact e) _ _ r⟩
theorem OpOk.or {g g' : List D → Option D} {r r' : List V → Hp → VK → Prop} (h : OpOk K ca g r) (h' : OpOk K ca g' r') : OpOk K ca (fun ds => (g ds).orElse fun _ => g' ds) (fun xs H Q => r xs H Q ∨ r' xs H Q) := by
  intro F H ds d xs Q vw e q
  cases z : g ds with
  | some d' => simp only [z, Option.orElse] at e; exact .inl (h F H ds d xs Q vw (z.trans e) q)
  | none => simp only [z, Option.orElse] at e; exact .inr (h' F H ds d xs Q vw e q)
theorem OpNew.or {g g' : List D → Option (List D)} {r r' : List V → Hp → VK → Prop} (h : OpNew K ca g r) (h' : OpNew K ca g' r') : OpNew K ca (fun ds => (g ds).orElse fun _ => g' ds) (fun xs H Q => r xs H Q ∨ r' xs H Q) := by
  intro F H ds d xs Q vw e q
  cases z : g ds with
  | some d' => simp only [z, Option.orElse] at e; exact .inl (h F H ds d xs Q vw (z.trans e) q)
  | none => simp only [z, Option.orElse] at e; exact .inr (h' F H ds d xs Q vw e q)

/-- the operation's reading -/
theorem eOp_run (cf : Cf K ca) {ps : List Opd} {g : List D → Option D} {r : List V → Hp → VK → Prop} (ho : OpOk K ca g r) (ok : opdsOk ps = true) (of : opdsF ps = true) {H : Hp} {Q : VK} (h : tE K ca W (eOp g ps) σ H Q) :
    tPs K ca W ps σ H fun xs H1 => r xs H1 Q := by
  obtain ⟨F, st, A, rl, h⟩ := h
  refine opds_run cf ok of rl ?_
  unfold eOp at h
  cases z : evOs ps st with
  | bad => rw [z] at h; exact h
  | exc c x s => rw [z] at h; exact h
  | ok rs st1 =>
    rw [z] at h
    simp only [R.bind] at h
    cases z2 : rdAll rs st1 with
    | none => simp only [z2] at h
    | some ds =>
      cases z3 : g ds with
      | none => simp only [z2, z3] at h
      | some d =>
        simp only [z2, z3] at h
        exact ⟨ds, z2, fun xs F' H' A' rl' vw s => ho F' H' ds d xs Q vw z3 fun v F2 H2 al rep => h v F2 H2 A' (al.rl rl') rep (s.trans al.step)⟩
/-- the own list that an operation makes -/
theorem eOp_runO (cf : Cf K ca) {ps : List Opd} {g : List D → Option (List D)} {r : List V → Hp → VK → Prop} (ho : OpNew K ca g r) (ok : opdsOk ps = true) (of : opdsF ps = true) {H : Hp} {Q : VK} (h : tO K ca W (eOp (fun ds => (g ds).map .lst) ps) σ H Q) :
    tPs K ca W ps σ H fun xs H1 => r xs H1 Q := by
  obtain ⟨F, st, A, rl, h⟩ := h
  refine opds_run cf ok of rl ?_
  unfold eOp at h
  cases z : evOs ps st with
  | bad => rw [z] at h; exact h
  | exc c x s => rw [z] at h; exact h
  | ok rs st1 =>
    rw [z] at h
    simp only [R.bind] at h
    cases z2 : rdAll rs st1 with
    | none => simp only [z2] at h
    | some ds =>
      cases z3 : g ds with
      | none => simp only [z2, z3, Option.map_none] at h
      | some es =>
        simp only [z2, z3, Option.map_some] at h
        refine ⟨ds, z2, fun xs F' H' A' rl' vw s => ho F' H' ds es xs Q vw z3 fun p vs n rep => ?_⟩
        have np : ¬ F' p := fun q => by obtain ⟨o, e⟩ := rl'.fd p q; rw [n] at e; cases e
        have npA : p ∉ A' := fun m => by obtain ⟨o, e⟩ := (rl'.nf p m).2; rw [n] at e; cases e
        refine h (.ref p) F' (upd H' p (.lst vs)) A' [p] (rl'.newO n) ⟨p, vs, rfl, rfl, np, upd_same, Reps.mono (fun _ z => z) (fun a o _ e => by rw [upd_ne (ne_of_none e n)]; exact e) _ _ rep⟩ ?_ (s.trans (Step.newO n))
        exact List.nodup_cons.mpr ⟨npA, rl'.nd⟩
end
end Ev
namespace Ev
open PySem PySem.Spec PyProof.Rows L2
/-- a reading of two values, of one, as of a list -/
def r2L (r : R2) : List V → Hp → VK → Prop := fun xs H Q => match xs with
  | [x, y] => r x y H Q
  | _ => False
def r1L (r : V → Hp → VK → Prop) : List V → Hp → VK → Prop := fun xs H Q => match xs with
  | [x] => r x H Q
  | _ => False
def rMt (r : V → List V → Hp → VK → Prop) : List V → Hp → VK → Prop := fun xs H Q => match xs with
  | x :: ys => r x ys H Q
  | _ => False
abbrev B' := Sl → R Bool
/-- truth -/
def tru : D → Option Bool
  | .non => some false
  | .bl b => some b
  | .int i => some (i != 0)
  | .lst xs => some (!xs.isEmpty)
  | .tup xs => some (!xs.isEmpty)
  | _ => none
def mT (m : E) : B' := fun st => (m st).bind fun d st => match d with
  | .bl b => .ok b st
  | _ => .bad
def mTru (p : Opd) : B' := fun st => (evO p st).bind fun r st => match r st with
  | some d => (match tru d with
    | some b => .ok b st
    | none => .bad)
  | none => .bad
def mNot (m : B') : B' := fun st => (m st).bind fun b st => .ok (!b) st
def mAnd (m n : B') : B' := fun st => (m st).bind fun b st => match b with
  | true => n st
  | false => .ok false st
def mOr (m n : B') : B' := fun st => (m st).bind fun b st => match b with
  | true => .ok true st
  | false => n st
def eC (d : D) : E := fun st => .ok d st
def eV (i : Nat) : E := fun st => match st[i]? with
  | some (.f d) => .ok d st
  | _ => .bad
/-- a slot's own data frozen -/
def eFz (i : Nat) : E := fun st => match st[i]? with
  | some (.f d) => .ok d st
  | some (.o d) => (match fzOk d with
    | true => .ok d (st.set i (.f d))
    | false => .bad)
  | _ => .bad
def eIf (c : B') (a b : E) : E := fun st => (c st).bind fun k st => match k with
  | true => a st
  | false => b st
def eAnd (a b : E) : E := fun st => (a st).bind fun d st => match d with
  | .bl true => b st
  | .bl false => .ok (.bl false) st
  | _ => .bad
def eOr (a b : E) : E := fun st => (a st).bind fun d st => match d with
  | .bl true => .ok (.bl true) st
  | .bl false => b st
  | _ => .bad
def eNot (a : E) : E := fun st => (a st).bind fun d st => match d with
  | .bl b => .ok (.bl (!b)) st
  | _ => .bad
/-- a op1 b op2 c -/
def eCh (g g' : List D → Option D) (p q r : Opd) : E := fun st => (evO p st).bind fun x st => (evO q st).bind fun y st => match x st, y st with
  | some a, some b => (match g [a, b] with
    | some (.bl true) => (evO r st).bind fun z st => (match y st, z st with
      | some b, some c => (match g' [b, c] with
        | some d => .ok d st
        | none => .bad)
      | _, _ => .bad)
    | some (.bl false) => .ok (.bl false) st
    | _ => .bad)
  | _, _ => .bad
section
variable (K : PySem.W.Frag) (ca : Ca) (W : WX)
def tT (m : B') : TT := fun σ H Q => ∃ F st A, Rl K ca F H st σ A ∧ match m st with
  | .ok b st' => ∀ F' H' A', Rl K ca F' H' st' σ A' → Step F H A F' H' A' → Q b H'
  | .exc c x st' => XcW K ca W F H A σ c x st'
  | .bad => False
end
section
variable {X : Cx} {ca : Ca} {W : WX} {e a b c : Expr} {pos : Pos}
theorem se_v {i : Nat} (h : PE X e (tVar i)) : PE X e (tE X.K ca W (eV i)) := PE.imp h fun σ H Q ⟨F, st, A, rl, q⟩ => by
  unfold eV at q
  cases z : st[i]? with
  | none => rw [z] at q; exact q.elim
  | some k =>
    rw [z] at q
    cases k with
    | n => exact q.elim
    | o d => exact q.elim
    | f d =>
      obtain ⟨x, B, C, e1, ⟨_, v, rfl, r⟩, _, _⟩ := rl.take z
      exact ⟨v, e1, q v F H A rl r .refl⟩
theorem se_fz {i : Nat} (h : PE X e (tVar i)) : PE X e (tE X.K ca W (eFz i)) := PE.imp h fun σ H Q ⟨F, st, A, rl, q⟩ => by
  unfold eFz at q
  cases z : st[i]? with
  | none => rw [z] at q; exact q.elim
  | some k =>
    rw [z] at q
    cases k with
    | n => exact q.elim
    | f d =>
      obtain ⟨x, B, C, e1, ⟨_, v, rfl, r⟩, _, _⟩ := rl.take z
      exact ⟨v, e1, q v F H A rl r .refl⟩
    | o d =>
      obtain ⟨x, B, C, e1, ⟨v, rfl, r⟩, rl2, p⟩ := rl.take z
      cases g : fzOk d with
      | false => simp only [g] at q
      | true =>
        simp only [g] at q
        have nd : (B ++ C).Nodup := p.nodup_iff.mp rl.nd
        have dj : ∀ a ∈ B, a ∉ C := fun a m m' => (List.nodup_append.mp nd).2.2 a m a m' rfl
        have rl3 := rl2.fz (B := B) (fun a m => (r.nf a m).2) dj
        have hi : i < st.length := (List.getElem?_eq_some_iff.mp z).1
        have rl4 := rl3.put (i := i) (c := .f d) (x := some v) (B := []) (by simp [hi]) e1 ⟨rfl, v, rfl, r.fz g⟩ (by simpa using rl3.nd)
        rw [List.set_set] at rl4
        refine ⟨v, e1, q v _ H C rl4 (r.fz g) ⟨fun _ => .inl, fun a o e _ => e, fun a o e => ⟨o, e⟩, fun a m => ?_, fun a m => .inl (p.mem_iff.mpr (List.mem_append_right _ m))⟩⟩
        rcases m with m | m
        · exact .inl m
        · exact .inr (.inr (p.mem_iff.mpr (List.mem_append_left _ m)))
theorem se_c {v : V} {d : D} (h : PE X e (tC v)) (r : ∀ F H, Rep X.K ca F H d v) : PE X e (tE X.K ca W (eC d)) := PE.imp h fun σ H Q ⟨F, st, A, rl, q⟩ => q v F H A rl (r F H) .refl
theorem se_int {i : Int} {j : Nat} : PE X (.Constant (.int i) j pos) (tE X.K ca W (eC (.int i))) := se_c pe_int fun _ _ => by unfold Rep; rfl
theorem se_bl {b : Bool} {j : Nat} : PE X (.Constant (.bool b) j pos) (tE X.K ca W (eC (.bl b))) := se_c pe_bl fun _ _ => by unfold Rep; rfl
theorem se_non {j : Nat} : PE X (.Constant .none j pos) (tE X.K ca W (eC .non)) := se_c pe_non fun _ _ => by unfold Rep; rfl
theorem se_str {x : Str} {j : Nat} : PE X (.Constant (.str x) j pos) (tE X.K ca W (eC (.str x))) := se_c pe_str fun _ _ => by unfold Rep; rfl
theorem se_glob {x : Str} {v : V} {d : D} {u : Value} (hg : Gl X x) (hm : X.mg x = some u) (r : RelV v u) (rep : ∀ F H, Rep X.K ca F H d v) (hd : (x == ("__debug__" : Str)) = false := by decide) :
    PE X (.Name x pos) (tE X.K ca W (eC d)) := se_c (pe_glob hg hm r hd) rep
/-- operands -/
theorem po_v {i : Nat} (h : PE X e (tVar i)) : PE X e (tP X.K ca W (.v i)) := h
theorem po_e {m : E} (h : PE X e (tE X.K ca W m)) : PE X e (tP X.K ca W (.e m)) := h
theorem po_h {i : Nat} {f : Str} (h : PE X e (tVar i)) (hb : attributeBase e f X.env (eval e X.env) = eval e X.env := by rfl) : PE X (.Attribute e f pos) (tP X.K ca W (.h i f)) := pe_fld h hb

variable (cf : Cf X.K ca) {p q r : Opd} {ps : List Opd} {g g' : List D → Option D} {gn : List D → Option (List D)}
include cf in
theorem se_bin {op : Operator} {ρ : R2} (ho : OpR X (binaryOp op) ρ) (hk : OpOk X.K ca g (r2L ρ)) (ha : PE X a (tP X.K ca W p)) (hb : PE X b (tP X.K ca W q)) (ok : opdsOk [p, q] = true := by rfl) (of : opdsF [p, q] = true := by rfl) :
    PE X (.BinOp a op b pos) (tE X.K ca W (eOp g [p, q])) := PE.imp (pe_op ho ha hb) fun σ H Q h => eOp_run cf hk ok of h
include cf in
theorem so_bin {op : Operator} {ρ : R2} (ho : OpR X (binaryOp op) ρ) (hk : OpNew X.K ca gn (r2L ρ)) (ha : PE X a (tP X.K ca W p)) (hb : PE X b (tP X.K ca W q)) (ok : opdsOk [p, q] = true := by rfl) (of : opdsF [p, q] = true := by rfl) :
    PE X (.BinOp a op b pos) (tO X.K ca W (eOp (fun ds => (gn ds).map .lst) [p, q])) := PE.imp (pe_op ho ha hb) fun σ H Q h => eOp_runO cf hk ok of h
include cf in
theorem se_un {op : UnaryOp} {ρ : V → Hp → VK → Prop} (ho : UnR X (unaryOp op) ρ) (hk : OpOk X.K ca g (r1L ρ)) (ha : PE X a (tP X.K ca W p)) (ok : opdsOk [p] = true := by rfl) (of : opdsF [p] = true := by rfl) :
    PE X (.UnaryOp op a pos) (tE X.K ca W (eOp g [p])) := PE.imp (pe_un ho ha) fun σ H Q h => eOp_run cf hk ok of h
include cf in
theorem se_cmp {op : CmpOp} {ρ : R2} (ho : OpR X (compareOp op) ρ) (hk : OpOk X.K ca g (r2L ρ)) (ha : PE X a (tP X.K ca W p)) (hb : PE X b (tP X.K ca W q)) (hm : behindInMarks op b = false) (ok : opdsOk [p, q] = true := by rfl) (of : opdsF [p, q] = true := by rfl) :
    PE X (.Compare a [op] [b] pos) (tE X.K ca W (eOp g [p, q])) := PE.imp (pe_cmpR ho ha hb hm) fun σ H Q h => eOp_run cf hk ok of h
theorem tT_tE {K : PySem.W.Frag} {m : E} {σ : L2.St} {H : Hp} {Q : Bool → Hp → Prop} (h : tT K ca W (mT m) σ H Q) : tE K ca W m σ H fun x H' => ∃ k, x = .bl k ∧ Q k H' := by
  obtain ⟨F, st, A, rl, q⟩ := h
  refine ⟨F, st, A, rl, ?_⟩
  unfold mT at q
  cases z : m st with
  | bad => rw [z] at q; exact q
  | exc c x s => rw [z] at q; exact q
  | ok d st1 =>
    rw [z] at q
    cases d with
    | bl k =>
      intro v F' H' A' rl' rep s
      unfold Rep at rep
      exact ⟨k, rep, q F' H' A' rl' s⟩
    | _ => exact q.elim
include cf in
theorem st_cmp {op : CmpOp} {ρ : R2} (ho : OpR X (compareOp op) ρ) (hk : OpOk X.K ca g (r2L ρ)) (ha : PE X a (tP X.K ca W p)) (hb : PE X b (tP X.K ca W q)) (hm : behindInMarks op b = false) (ok : opdsOk [p, q] = true := by rfl) (of : opdsF [p, q] = true := by rfl) :
    PT X (.Compare a [op] [b] pos) (tT X.K ca W (mT (eOp g [p, q]))) := PT.imp (pt_cmpR ho ha hb hm) fun σ H Q h => eOp_run cf hk ok of (tT_tE h)
/-- a value's truth -/
theorem tru_ok {K : PySem.W.Frag} {F : Addr → Prop} {H : Hp} {d : D} {v : V} {k : Bool} (w : Vw K ca F H d v) (e : tru d = some k) : TruV K v H k := by
  cases d with
  | non => cases e; rw [show v = .non from w]; rfl
  | bl k' => cases e; rw [show v = .bl _ from w]; rfl
  | int i => cases e; rw [show v = .int i from w]; rfl
  | str x => cases e
  | lst ds =>
    obtain ⟨a, vs, rfl, q, r⟩ := w
    cases e
    refine .inl ⟨vs, .of q, ?_⟩
    have l := r.length
    cases ds <;> cases vs <;> first | rfl | cases l
  | tup ds =>
    have w : Rep K ca F H (.tup ds) v := w
    unfold Rep at w
    obtain ⟨a, vs, rfl, q, r⟩ := w
    cases e
    refine .inr (.inl ⟨vs, q.sq, ?_⟩)
    have l := r.length
    cases ds <;> cases vs <;> first | rfl | cases l
  | scr ns => cases e
  | dic ks ds => cases e
  | obj c ns ds => cases e
include cf in
theorem st_tru (ha : PE X a (tP X.K ca W p)) (he : ∀ whole, isTrue a X.env whole = (do let v ← whole; standAt a.pos; holding [v] (truthy v)) := by intro _; rfl) (of : opdsF [p] = true := by rfl) : PT X a (tT X.K ca W (mTru p)) := by
  refine PT.imp (pt_truth ha he) fun σ H Q ⟨F, st, A, rl, h⟩ => ?_
  have := opds_run (W := W) cf (ps := [p]) (F := F) (H := H) (A := A) (st := st) (σ := σ) (Q := fun xs H' => match xs with | [x] => ∃ k, TruV X.K x H' k ∧ Q k H' | _ => False) (by cases p <;> rfl) of rl (by
    unfold mTru at h
    show match ((evO p st).bind fun r st => (R.ok ([] : List (Sl → Option D)) st).bind fun rs st => R.ok (r :: rs) st) with
      | .ok rs st' => _
      | .exc c x st' => _
      | .bad => _
    cases z : evO p st with
    | bad => rw [z] at h; exact h
    | exc c x s => rw [z] at h; exact h
    | ok r st1 =>
      rw [z] at h
      simp only [R.bind] at h ⊢
      cases z2 : r st1 with
      | none => simp only [z2] at h
      | some d =>
        cases z3 : tru d with
        | none => simp only [z2, z3] at h
        | some k =>
          simp only [z2, z3] at h
          refine ⟨[d], by unfold rdAll; rw [z2]; rfl, fun xs F' H' A' rl' vw s => ?_⟩
          obtain ⟨v, r, rfl, w, e⟩ := vw
          cases e
          exact ⟨k, tru_ok w z3, h F' H' A' rl' s⟩)
  exact this
theorem st_not {m : B'} (h : PT X a (tT X.K ca W m)) : PT X (.UnaryOp .Not a pos) (tT X.K ca W (mNot m)) := PT.imp (pt_not h) fun σ H Q ⟨F, st, A, rl, q⟩ => by
  refine ⟨F, st, A, rl, ?_⟩
  unfold mNot at q
  cases z : m st with
  | bad => rw [z] at q; exact q
  | exc c x s => rw [z] at q; exact q
  | ok d st1 => rw [z] at q; exact q
theorem tT_bind {K : PySem.W.Frag} {m : B'} {n : Bool → B'} {σ : L2.St} {H : Hp} {Q : Bool → Hp → Prop} (h : tT K ca W (fun st => (m st).bind fun b st => n b st) σ H Q) : tT K ca W m σ H fun b H1 => tT K ca W (n b) σ H1 Q := by
  obtain ⟨F, st, A, rl, q⟩ := h
  refine ⟨F, st, A, rl, ?_⟩
  cases z : m st with
  | bad => simp only [z, R.bind] at q
  | exc c x s => simp only [z, R.bind] at q; exact q
  | ok d st1 =>
    simp only [z, R.bind] at q
    intro F1 H1 A1 rl1 s1
    refine ⟨F1, st1, A1, rl1, ?_⟩
    cases z2 : n d st1 with
    | bad => rw [z2] at q; exact q
    | exc c x s => rw [z2] at q; exact fun cls oe F' H' A' r x s => q cls oe F' H' A' r x (s1.trans s)
    | ok b st2 => rw [z2] at q; exact fun F' H' A' r s => q F' H' A' r (s1.trans s)
theorem tT_ok {K : PySem.W.Frag} {b : Bool} {σ : L2.St} {H : Hp} {Q : Bool → Hp → Prop} (h : tT K ca W (fun st => .ok b st) σ H Q) : Q b H := by
  obtain ⟨F, st, A, rl, q⟩ := h
  exact q F H A rl .refl
theorem st_and1 {m : B'} (h : PT X a (tT X.K ca W m)) : PW X (.BoolOp .And [a] pos) (tT X.K ca W m) := pw_and1 h
theorem st_or1 {m : B'} (h : PT X a (tT X.K ca W m)) : PW X (.BoolOp .Or [a] pos) (tT X.K ca W m) := pw_or1 h
theorem PW.imp {e : Expr} {t t' : TT} (h : PW X e t) (i : ∀ σ H Q, t' σ H Q → t σ H Q) : PW X e t' := ⟨fun w pins s σ H Q I q => h.run w pins s σ H Q I (i σ H Q q)⟩
theorem st_and {m n : B'} {es : List Expr} (h : PT X a (tT X.K ca W m)) (h2 : PW X (.BoolOp .And (b :: es) pos) (tT X.K ca W n)) : PW X (.BoolOp .And (a :: b :: es) pos) (tT X.K ca W (mAnd m n)) :=
  PW.imp (pw_and h h2) fun σ H Q q => by
    obtain ⟨F, st, A, rl, q'⟩ := tT_bind (n := fun b st => match b with | true => n st | false => .ok false st) q
    refine ⟨F, st, A, rl, ?_⟩
    cases z : m st with
    | bad => rw [z] at q'; exact q'
    | exc c x s => rw [z] at q'; exact q'
    | ok d st1 =>
      rw [z] at q'
      intro F' H' A' r s
      have := q' F' H' A' r s
      cases d with
      | true => exact this
      | false => exact tT_ok this
theorem st_or {m n : B'} {es : List Expr} (h : PT X a (tT X.K ca W m)) (h2 : PW X (.BoolOp .Or (b :: es) pos) (tT X.K ca W n)) : PW X (.BoolOp .Or (a :: b :: es) pos) (tT X.K ca W (mOr m n)) :=
  PW.imp (pw_or h h2) fun σ H Q q => by
    obtain ⟨F, st, A, rl, q'⟩ := tT_bind (n := fun b st => match b with | true => .ok true st | false => n st) q
    refine ⟨F, st, A, rl, ?_⟩
    cases z : m st with
    | bad => rw [z] at q'; exact q'
    | exc c x s => rw [z] at q'; exact q'
    | ok d st1 =>
      rw [z] at q'
      intro F' H' A' r s
      have := q' F' H' A' r s
      cases d with
      | false => exact this
      | true => exact tT_ok this
/-- an expression, then another by its value -/
theorem tE_bind {K : PySem.W.Frag} {m : E} {n : D → E} {σ : L2.St} {H : Hp} {Q : VK} {P : VK} (h : tE K ca W (fun st => (m st).bind fun d st => n d st) σ H Q)
    (k : ∀ d v F H st A, Rl K ca F H st σ A → Rep K ca F H d v → (match n d st with
      | .ok d st' => ∀ v F' H' A', Rl K ca F' H' st' σ A' → Rep K ca F' H' d v → Step F H A F' H' A' → Q v H'
      | .exc c x st' => XcW K ca W F H A σ c x st'
      | .bad => False) → P v H) : tE K ca W m σ H P := by
  obtain ⟨F, st, A, rl, q⟩ := h
  refine ⟨F, st, A, rl, ?_⟩
  cases z : m st with
  | bad => simp only [z, R.bind] at q
  | exc c x s => simp only [z, R.bind] at q; exact q
  | ok d st1 =>
    simp only [z, R.bind] at q
    intro v F1 H1 A1 rl1 rep s1
    refine k d v F1 H1 st1 A1 rl1 rep ?_
    cases z2 : n d st1 with
    | bad => rw [z2] at q; exact q
    | exc c x s => rw [z2] at q; exact fun cls oe F' H' A' r x s => q cls oe F' H' A' r x (s1.trans s)
    | ok b st2 => rw [z2] at q; exact fun v F' H' A' r rp s => q v F' H' A' r rp (s1.trans s)
theorem se_one {m : E} {op : BoolOp} (h : PE X a (tE X.K ca W m)) : PE X (.BoolOp op [a] pos) (tE X.K ca W m) := pe_one h
theorem se_and {m n : E} {es : List Expr} (h : PE X a (tE X.K ca W m)) (h2 : PE X (.BoolOp .And (b :: es) pos) (tE X.K ca W n)) : PE X (.BoolOp .And (a :: b :: es) pos) (tE X.K ca W (eAnd m n)) :=
  PE.imp (pe_and h h2) fun σ H Q q => by
    refine tE_bind (n := fun d st => match d with | .bl true => n st | .bl false => .ok (.bl false) st | _ => .bad) q fun d v F H st A rl rep q => ?_
    cases d with
    | bl b =>
      unfold Rep at rep
      subst rep
      refine ⟨b, rfl, ?_⟩
      cases b with
      | true => exact ⟨F, st, A, rl, q⟩
      | false => exact q _ F H A rl (by unfold Rep; rfl) .refl
    | _ => exact q.elim
theorem se_or {m n : E} {es : List Expr} (h : PE X a (tE X.K ca W m)) (h2 : PE X (.BoolOp .Or (b :: es) pos) (tE X.K ca W n)) : PE X (.BoolOp .Or (a :: b :: es) pos) (tE X.K ca W (eOr m n)) :=
  PE.imp (pe_or h h2) fun σ H Q q => by
    refine tE_bind (n := fun d st => match d with | .bl true => .ok (.bl true) st | .bl false => n st | _ => .bad) q fun d v F H st A rl rep q => ?_
    cases d with
    | bl b =>
      unfold Rep at rep
      subst rep
      refine ⟨b, rfl, ?_⟩
      cases b with
      | false => exact ⟨F, st, A, rl, q⟩
      | true => exact q _ F H A rl (by unfold Rep; rfl) .refl
    | _ => exact q.elim
theorem se_not {m : E} (h : PE X a (tE X.K ca W m)) : PE X (.UnaryOp .Not a pos) (tE X.K ca W (eNot m)) :=
  PE.imp (pe_not h) fun σ H Q q => by
    refine tE_bind (n := fun d st => match d with | .bl b => .ok (.bl (!b)) st | _ => .bad) q fun d v F H st A rl rep q => ?_
    cases d with
    | bl b =>
      unfold Rep at rep
      subst rep
      exact ⟨b, rfl, q _ F H A rl (by unfold Rep; rfl) .refl⟩
    | _ => exact q.elim
theorem se_if {k : B'} {m n : E} (hc : PT X c (tT X.K ca W k)) (ha : PE X a (tE X.K ca W m)) (hb : PE X b (tE X.K ca W n)) : PE X (.IfExp c a b pos) (tE X.K ca W (eIf k m n)) :=
  PE.imp (pe_ifExp hc ha hb) fun σ H Q ⟨F, st, A, rl, q⟩ => by
    refine ⟨F, st, A, rl, ?_⟩
    unfold eIf at q
    cases z : k st with
    | bad => rw [z] at q; exact q
    | exc c x s => rw [z] at q; exact q
    | ok b st1 =>
      rw [z] at q
      simp only [R.bind] at q
      intro F1 H1 A1 rl1 s1
      have fin : ∀ n : E, (match n st1 with
          | .ok d st' => ∀ v F' H' A', Rl X.K ca F' H' st' σ A' → Rep X.K ca F' H' d v → Step F H A F' H' A' → Q v H'
          | .exc c x st' => XcW X.K ca W F H A σ c x st'
          | .bad => False) → tE X.K ca W n σ H1 Q := fun n q => by
        refine ⟨F1, st1, A1, rl1, ?_⟩
        cases z2 : n st1 with
        | bad => rw [z2] at q; exact q
        | exc c x s => rw [z2] at q; exact fun cls oe F' H' A' r x s => q cls oe F' H' A' r x (s1.trans s)
        | ok b st2 => rw [z2] at q; exact fun v F' H' A' r rp s => q v F' H' A' r rp (s1.trans s)
      cases b with
      | true => exact fin m q
      | false => exact fin n q
end
end Ev
namespace Ev
open PySem PySem.Spec PyProof.Rows L2
def evAll : List E → Sl → R (List D)
  | [], st => .ok [] st
  | m :: ms, st => (m st).bind fun d st => (evAll ms st).bind fun ds st => .ok (d :: ds) st
def eTup (ms : List E) : E := fun st => (evAll ms st).bind fun ds st => .ok (.tup ds) st
def eLst (ms : List E) : E := fun st => (evAll ms st).bind fun ds st => .ok (.lst ds) st
section
variable (K : PySem.W.Frag) (ca : Ca) (W : WX)
def tA (ms : List E) : TA := fun σ H Q => ∃ F st A, Rl K ca F H st σ A ∧ match evAll ms st with
  | .ok ds st' => ∀ vs F' H' A', Rl K ca F' H' st' σ A' → Reps K ca F' H' ds vs → Step F H A F' H' A' → Q vs H'
  | .exc c x st' => XcW K ca W F H A σ c x st'
  | .bad => False
end
theorem Reps.inv {K : PySem.W.Frag} {ca : Ca} {F : Addr → Prop} {H : Hp} {d : D} {ds : List D} {vs : List V} (h : Reps K ca F H (d :: ds) vs) : ∃ v r, vs = v :: r ∧ Rep K ca F H d v ∧ Reps K ca F H ds r := by
  unfold Reps at h; exact h
section
variable {X : Cx} {ca : Ca} {W : WX} {e : Expr} {es : List Expr} {pos : Pos} {m : E} {ms : List E}
theorem sa_nil : PA X [] (tA X.K ca W []) := PA.imp pa_nil fun σ H Q ⟨F, st, A, rl, q⟩ => q [] F H A rl .nil .refl
theorem sa_cons (h : PE X e (tE X.K ca W m)) (t : PA X es (tA X.K ca W ms)) (hs : starEach (e :: es) X.env = (false, eval e X.env) :: starEach es X.env := by rfl) : PA X (e :: es) (tA X.K ca W (m :: ms)) :=
  PA.imp (pa_cons h t hs) fun σ H Q ⟨F, st, A, rl, q⟩ => by
    refine ⟨F, st, A, rl, ?_⟩
    unfold evAll at q
    cases z : m st with
    | bad => rw [z] at q; exact q
    | exc c x s => rw [z] at q; exact q
    | ok d st1 =>
      rw [z] at q
      simp only [R.bind] at q
      intro v F1 H1 A1 rl1 rep s1
      refine ⟨F1, st1, A1, rl1, ?_⟩
      cases z2 : evAll ms st1 with
      | bad => simp only [z2, R.bind] at q
      | exc c x s => simp only [z2, R.bind] at q; exact fun cls oe F' H' A' r x s => q cls oe F' H' A' r x (s1.trans s)
      | ok ds st2 => simp only [z2, R.bind] at q; exact fun vs F' H' A' r rp s => q (v :: vs) F' H' A' r (.cons (rep.step s rl1) rp) (s1.trans s)
theorem evAll_len : ∀ {ms : List E} {st st' : Sl} {ds : List D}, evAll ms st = .ok ds st' → ds.length = ms.length
  | [], st, st', ds, h => by cases h; rfl
  | m :: ms, st, st', ds, h => by
    unfold evAll at h
    cases z : m st with
    | bad => rw [z] at h; cases h
    | exc c x s => rw [z] at h; cases h
    | ok d st1 =>
      rw [z] at h
      simp only [R.bind] at h
      cases z2 : evAll ms st1 with
      | bad => simp only [z2, R.bind] at h; cases h
      | exc c x s => simp only [z2, R.bind] at h; cases h
      | ok ds2 st2 =>
        simp only [z2, R.bind] at h
        cases h
        rw [List.length_cons, List.length_cons, evAll_len z2]
theorem fz_new {K : PySem.W.Frag} {F : Addr → Prop} {H : Hp} {ds : List D} {vs : List V} {p : Addr} {o : HO} (n : H p = none) (r : Reps K ca F H ds vs) : Reps K ca (fun a => F a ∨ a = p) (upd H p o) ds vs :=
  Reps.mono (fun _ => .inl) (fun a o _ e => by rw [upd_ne (ne_of_none e n)]; exact e) _ _ r
theorem se_tup (h : PA X es (tA X.K ca W ms)) (hl : ms.length ≤ 1000 := by decide) {k : Nat} : PE X (.Tuple es k pos) (tE X.K ca W (eTup ms)) := PE.imp (pe_tup h) fun σ H Q ⟨F, st, A, rl, q⟩ => by
  refine ⟨F, st, A, rl, ?_⟩
  unfold eTup at q
  cases z : evAll ms st with
  | bad => rw [z] at q; exact q
  | exc c x s => rw [z] at q; exact q
  | ok ds st1 =>
    rw [z] at q
    simp only [R.bind] at q
    intro vs F1 H1 A1 rl1 rep s1
    refine ⟨by rw [rep.length, evAll_len z]; exact Nat.le_of_lt (small1000 hl), fun p n => ?_⟩
    have al : Al F1 H1 (fun a => F1 a ∨ a = p) (upd H1 p (.tup vs)) := Al.new n
    refine q (.ref p) _ _ A1 (al.rl rl1) ?_ (s1.trans al.step)
    unfold Rep
    exact ⟨p, vs, rfl, .inl ⟨.inr rfl, .inl upd_same⟩, fz_new n rep⟩
theorem se_lst (h : PA X es (tA X.K ca W ms)) (hl : ms.length ≤ 1000 := by decide) : PE X (.List es pos) (tE X.K ca W (eLst ms)) := PE.imp (pe_lst h) fun σ H Q ⟨F, st, A, rl, q⟩ => by
  refine ⟨F, st, A, rl, ?_⟩
  unfold eLst at q
  cases z : evAll ms st with
  | bad => rw [z] at q; exact q
  | exc c x s => rw [z] at q; exact q
  | ok ds st1 =>
    rw [z] at q
    simp only [R.bind] at q
    intro vs F1 H1 A1 rl1 rep s1
    refine ⟨by rw [rep.length, evAll_len z]; exact Nat.le_of_lt (small1000 hl), fun p n => ?_⟩
    have al : Al F1 H1 (fun a => F1 a ∨ a = p) (upd H1 p (.lst vs)) := Al.new n
    refine q (.ref p) _ _ A1 (al.rl rl1) ?_ (s1.trans al.step)
    unfold Rep
    exact ⟨p, vs, rfl, ⟨.inr rfl, upd_same⟩, fz_new n rep⟩
/-- what is new is nobody's -/
theorem Rl.fresh {K : PySem.W.Frag} {F : Addr → Prop} {H : Hp} {st : Sl} {σ : L2.St} {A : List Addr} {p : Addr} (rl : Rl K ca F H st σ A) (n : H p = none) : ¬ F p ∧ p ∉ A :=
  by
  refine ⟨fun q => ?_, fun m => ?_⟩
  · obtain ⟨o, e⟩ := rl.fd p q
    rw [n] at e; cases e
  · obtain ⟨o, e⟩ := (rl.nf p m).2
    rw [n] at e; cases e
theorem so_lst (h : PA X es (tA X.K ca W ms)) (hl : ms.length ≤ 1000 := by decide) : PE X (.List es pos) (tO X.K ca W (eLst ms)) := PE.imp (pe_lst h) fun σ H Q ⟨F, st, A, rl, q⟩ => by
  refine ⟨F, st, A, rl, ?_⟩
  unfold eLst at q
  cases z : evAll ms st with
  | bad => rw [z] at q; exact q
  | exc c x s => rw [z] at q; exact q
  | ok ds st1 =>
    rw [z] at q
    simp only [R.bind] at q
    intro vs F1 H1 A1 rl1 rep s1
    refine ⟨by rw [rep.length, evAll_len z]; exact Nat.le_of_lt (small1000 hl), fun p n => ?_⟩
    obtain ⟨n1, n2⟩ := rl1.fresh n
    exact q (.ref p) F1 _ A1 [p] (rl1.newO n) ⟨p, vs, rfl, rfl, n1, upd_same, Reps.mono (fun _ z => z) (fun a o _ e => by rw [upd_ne (ne_of_none e n)]; exact e) _ _ rep⟩ (List.nodup_cons.mpr ⟨n2, rl1.nd⟩) (s1.trans (Step.newO n))
/-- own data frozen at once -/
def eFr (m : E) : E := fun st => (m st).bind fun d st => match fzOk d with
  | true => .ok d st
  | false => .bad
theorem se_fr (h : PE X e (tO X.K ca W m)) : PE X e (tE X.K ca W (eFr m)) := PE.imp h fun σ H Q ⟨F, st, A, rl, q⟩ => by
  refine ⟨F, st, A, rl, ?_⟩
  unfold eFr at q
  cases z : m st with
  | bad => rw [z] at q; exact q
  | exc c x s => rw [z] at q; exact q
  | ok d st1 =>
    rw [z] at q
    simp only [R.bind] at q
    cases g : fzOk d with
    | false => simp only [g] at q
    | true =>
      simp only [g] at q
      intro v F1 H1 A1 B rl1 ow nd s1
      have dj : ∀ a ∈ B, a ∉ A1 := fun a m m' => (List.nodup_append.mp nd).2.2 a m a m' rfl
      refine q v _ H1 A1 (rl1.fz (B := B) (fun a m => (ow.nf a m).2) dj) (ow.fz g) ⟨fun a m => .inl (s1.fm a m), s1.keep, s1.dom, fun a m => ?_, fun a m => s1.anew a (List.mem_append_right _ m)⟩
      rcases m with m | m
      · exact s1.fnew a m
      · rcases s1.anew a (List.mem_append_left _ m) with z | z
        · exact .inr (.inr z)
        · exact .inr (.inl z)
end

inductive Arg where
  | e (m : E) | mu (i : Nat) | t (m : E)
inductive AV where
  | d (d : D) | sl (i : Nat) | o (d : D)
def evArg : Arg → Sl → R AV
  | .e m, st => (m st).bind fun d st => .ok (.d d) st
  | .mu i, st => match st[i]? with
    | some (.f _) => .ok (.sl i) st
    | some (.o _) => .ok (.sl i) st
    | _ => .bad
  | .t m, st => (m st).bind fun d st => .ok (.o d) st
def evArgs : List Arg → Sl → R (List AV)
  | [], st => .ok [] st
  | p :: ps, st => (evArg p st).bind fun a st => (evArgs ps st).bind fun as st => .ok (a :: as) st
/-- the slots that are handed over are taken out -/
def takeAll : List AV → Sl → Option (List Cell × Sl)
  | [], st => some ([], st)
  | .d d :: as, st => (takeAll as st).map fun p => (.f d :: p.1, p.2)
  | .o d :: as, st => (takeAll as st).map fun p => (.o d :: p.1, p.2)
  | .sl i :: as, st => match st[i]? with
    | some .n => none
    | none => none
    | some c => (takeAll as (st.set i .n)).map fun p => (c :: p.1, p.2)
def putAll : List AV → List Cell → Sl → Sl
  | .sl i :: as, c :: cs, st => putAll as cs (st.set i c)
  | _ :: as, _ :: cs, st => putAll as cs st
  | _, _, st => st
inductive Out where
  | ok (d : D) (cs : List Cell) | exc (c : Str) (x : Option D) (cs : List Cell) | bad
abbrev MF := List Cell → Out
/-- a call of a def that means mf -/
def eCall (mf : MF) (ps : List Arg) : E := fun st => (evArgs ps st).bind fun as st => match takeAll as st with
  | some (cs, st) => (match mf cs with
    | .ok d cs => .ok d (putAll as cs st)
    | .exc c x cs => .exc c x (putAll as cs st)
    | .bad => .bad)
  | none => .bad
section
variable (K : PySem.W.Frag) (ca : Ca) (W : WX)
/-- a def's promise: it means mf; the answer frozen -/
def spE (mf : MF) : Sp := fun vs H Q E => ∃ F cs A, Rl K ca F H cs (vs.map some) A ∧ match mf cs with
  | .ok d cs' => ∀ v F' H' A', Rl K ca F' H' cs' (vs.map some) A' → Rep K ca F' H' d v → Step F H A F' H' A' → Q v H'
  | .exc c x cs' => ∀ cls oe F' H' A', Rl K ca F' H' cs' (vs.map some) A' → ExcIs K ca F' H' c x cls oe → Step F H A F' H' A' → E cls oe H'
  | .bad => False
/-- .. the answer new -/
def spO (mf : MF) : Sp := fun vs H Q E => ∃ F cs A, Rl K ca F H cs (vs.map some) A ∧ match mf cs with
  | .ok d cs' => ∀ v F' H' A' B, Rl K ca F' H' cs' (vs.map some) A' → Own K ca F' H' d v B → (B ++ A').Nodup → Step F H A F' H' (B ++ A') → Q v H'
  | .exc c x cs' => ∀ cls oe F' H' A', Rl K ca F' H' cs' (vs.map some) A' → ExcIs K ca F' H' c x cls oe → Step F H A F' H' A' → E cls oe H'
  | .bad => False
/-- an argument's value -/
def RepV (F : Addr → Prop) (H : Hp) (σ : L2.St) : AV → V → List Addr → Prop
  | .d d, v, B => B = [] ∧ Rep K ca F H d v
  | .o d, v, B => Own K ca F H d v B
  | .sl i, v, B => B = [] ∧ σ[i]? = some (some v)
def RepVs (F : Addr → Prop) (H : Hp) (σ : L2.St) : List AV → List V → List Addr → Prop
  | [], vs, B => vs = [] ∧ B = []
  | a :: as, vs, B => ∃ v r B1 B2, vs = v :: r ∧ B = B1 ++ B2 ∧ RepV K ca F H σ a v B1 ∧ RepVs F H σ as r B2
def tG : Arg → TE
  | .e m => tE K ca W m
  | .mu i => tVar i
  | .t m => tO K ca W m
def tGs : List Arg → TA
  | [] => tNil
  | p :: ps => tCons (tG K ca W p) (tGs ps)
end
section
variable {K : PySem.W.Frag} {ca : Ca} {W : WX} {F F' : Addr → Prop} {H H' : Hp} {A A' : List Addr} {σ : L2.St}
theorem RepV.step {a : AV} {v : V} {B : List Addr} {st : Sl} (h : RepV K ca F H σ a v B) (s : Step F H A F' H' A') (rl : Rl K ca F H st σ A) (dj : ∀ x ∈ B, x ∉ A) : RepV K ca F' H' σ a v B := by
  cases a with
  | d d => exact ⟨h.1, h.2.step s rl⟩
  | o d => exact Own.step h s rl dj
  | sl i => exact h
theorem RepV.nf {a : AV} {v : V} {B : List Addr} (h : RepV K ca F H σ a v B) : ∀ x ∈ B, ¬ F x ∧ ∃ o, H x = some o := by
  cases a with
  | d d => rw [h.1]; intro x m; cases m
  | o d => exact Own.nf h
  | sl i => rw [h.1]; intro x m; cases m
/-- the arguments' readings; P: own data that is pending -/
theorem args_run : ∀ {ps : List Arg} {F : Addr → Prop} {H : Hp} {A : List Addr} {st : Sl} {Q : List V → Hp → Prop}, Rl K ca F H st σ A →
    (match evArgs ps st with
      | .ok as st' => ∀ vs F' H' A' B, Rl K ca F' H' st' σ A' → RepVs K ca F' H' σ as vs B → (B ++ A').Nodup → Step F H A F' H' (B ++ A') → Q vs H'
      | .exc c x st' => XcW K ca W F H A σ c x st'
      | .bad => False) → tGs K ca W ps σ H Q
  | [], F, H, A, st, Q, h, q => q [] F H A [] h ⟨rfl, rfl⟩ h.nd .refl
  | p :: ps, F, H, A, st, Q, h, q => by
    have goo : ∀ (a : AV) (st1 : Sl) (v : V) (F1 : Addr → Prop) (H1 : Hp) (A1 B1 : List Addr), evArg p st = .ok a st1 → Rl K ca F1 H1 st1 σ A1 → RepV K ca F1 H1 σ a v B1 → (B1 ++ A1).Nodup → Step F H A F1 H1 (B1 ++ A1) →
        tGs K ca W ps σ H1 fun vs H' => Q (v :: vs) H' := fun a st1 v F1 H1 A1 B1 e rl1 rv nd s1 => by
      refine args_run rl1 ?_
      unfold evArgs at q
      rw [e] at q
      simp only [R.bind] at q
      have dj : ∀ x ∈ B1, x ∉ A1 := fun x m m' => (List.nodup_append.mp nd).2.2 x m x m' rfl
      -- pending own data through the rest
      have pend : ∀ {F2 : Addr → Prop} {H2 : Hp} {A2 : List Addr}, Step F1 H1 A1 F2 H2 A2 → Step F H A F2 H2 (B1 ++ A2) := fun {F2 H2 A2} s => by
        refine ⟨fun x m => s.fm x (s1.fm x m), fun x o e n => s.keep x o (s1.keep x o e n) fun m => ?_, fun x o e => ?_, fun x m => ?_, fun x m => ?_⟩
        · rcases s1.anew x (List.mem_append_right _ m) with z | z
          · exact n z
          · rw [e] at z; cases z
        · obtain ⟨o', e'⟩ := s1.dom x o e; exact s.dom x o' e'
        · rcases s.fnew x m with z | z | z
          · exact s1.fnew x z
          · cases e0 : H x with
            | none => exact .inr (.inl rfl)
            | some o => obtain ⟨o', e'⟩ := s1.dom x o e0; rw [z] at e'; cases e'
          · rcases s1.anew x (List.mem_append_right _ z) with z | z
            · exact .inr (.inr z)
            · exact .inr (.inl z)
        · rcases List.mem_append.mp m with m | m
          · exact s1.anew x (List.mem_append_left _ m)
          · rcases s.anew x m with z | z
            · exact s1.anew x (List.mem_append_right _ z)
            · cases e0 : H x with
              | none => exact .inr rfl
              | some o => obtain ⟨o', e'⟩ := s1.dom x o e0; rw [z] at e'; cases e'
      cases z2 : evArgs ps st1 with
      | bad => simp only [z2, R.bind] at q
      | exc c x s =>
        simp only [z2, R.bind] at q
        intro cls oe F' H' A' r x s
        have s2 := pend s
        exact q cls oe F' H' A' r x ⟨s2.fm, s2.keep, s2.dom, s2.fnew, fun y m => s2.anew y (List.mem_append_right _ m)⟩
      | ok as st2 =>
        simp only [z2, R.bind] at q
        intro vs F' H' A' B rl2 rvs nd2 s2
        have rv2 := rv.step s2 rl1 dj
        have nf2 := rv2.nf
        have djB : ∀ x ∈ B1, x ∉ B ++ A' := fun x m m' => by
          rcases s2.anew x m' with z | z
          · exact dj x m z
          · obtain ⟨o, e⟩ := (rv.nf x m).2; rw [e] at z; cases z
        have nd3 : (B1 ++ (B ++ A')).Nodup := List.nodup_append.mpr ⟨(List.nodup_append.mp nd).1, nd2, fun x m y m' e => djB x m (e ▸ m')⟩
        exact q (v :: vs) F' H' A' (B1 ++ B) rl2 ⟨v, vs, B1, B, rfl, rfl, rv2, rvs⟩ (by rw [List.append_assoc]; exact nd3) (by rw [List.append_assoc]; exact pend s2)
    cases p with
    | e m =>
      refine ⟨F, st, A, h, ?_⟩
      cases z : m st with
      | bad => simp only [evArgs, evArg, z, R.bind] at q
      | exc c x s => simp only [evArgs, evArg, z, R.bind] at q; exact q
      | ok d st1 =>
        intro v F1 H1 A1 rl1 rep s1
        exact goo (.d d) st1 v F1 H1 A1 [] (by simp only [evArg, z, R.bind]) rl1 ⟨rfl, rep⟩ rl1.nd s1
    | t m =>
      refine ⟨F, st, A, h, ?_⟩
      cases z : m st with
      | bad => simp only [evArgs, evArg, z, R.bind] at q
      | exc c x s => simp only [evArgs, evArg, z, R.bind] at q; exact q
      | ok d st1 =>
        intro v F1 H1 A1 B rl1 ow nd s1
        exact goo (.o d) st1 v F1 H1 A1 B (by simp only [evArg, z, R.bind]) rl1 ow nd s1
    | mu i =>
      cases z : st[i]? with
      | none => simp only [evArgs, evArg, z, R.bind] at q
      | some c =>
        obtain ⟨x, B, C, e1, r, _, _⟩ := h.take z
        cases c with
        | n => simp only [evArgs, evArg, z, R.bind] at q
        | f d =>
          obtain ⟨_, v, rfl, _⟩ := r
          exact ⟨v, e1, goo (.sl i) st v F H A [] (by simp only [evArg, z]) h ⟨rfl, e1⟩ h.nd .refl⟩
        | o d =>
          obtain ⟨v, rfl, _⟩ := r
          exact ⟨v, e1, goo (.sl i) st v F H A [] (by simp only [evArg, z]) h ⟨rfl, e1⟩ h.nd .refl⟩
/-- the slots handed over: what the callee gets, what stays -/
theorem take_all : ∀ {as : List AV} {st st' : Sl} {cs : List Cell} {vs : List V} {A B : List Addr}, Rl K ca F H st σ A → RepVs K ca F H σ as vs B → (B ++ A).Nodup → takeAll as st = some (cs, st') →
    ∃ C A', Rl K ca F H st' σ A' ∧ RepS K ca F H cs (vs.map some) C ∧ (B ++ A).Perm (C ++ A')
  | [], st, st', cs, vs, A, B, rl, rv, nd, e => by
    obtain ⟨rfl, rfl⟩ := rv
    cases e
    exact ⟨[], A, rl, ⟨rfl, rfl⟩, .refl _⟩
  | .d d :: as, st, st', cs, vs, A, B, rl, rv, nd, e => by
    obtain ⟨v, r, B1, B2, rfl, rfl, ⟨rfl, rep⟩, rvs⟩ := rv
    obtain ⟨⟨cs', st2⟩, e1, e2⟩ := Option.map_eq_some_iff.mp e
    cases e2
    obtain ⟨C, A', rl', rs, p⟩ := take_all rl rvs nd e1
    exact ⟨C, A', rl', ⟨some v, _, [], C, rfl, rfl, ⟨rfl, v, rfl, rep⟩, rs⟩, p⟩
  | .o d :: as, st, st', cs, vs, A, B, rl, rv, nd, e => by
    obtain ⟨v, r, B1, B2, rfl, rfl, ow, rvs⟩ := rv
    obtain ⟨⟨cs', st2⟩, e1, e2⟩ := Option.map_eq_some_iff.mp e
    cases e2
    rw [List.append_assoc] at nd ⊢
    obtain ⟨C, A', rl', rs, p⟩ := take_all rl rvs (List.nodup_append.mp nd).2.1 e1
    exact ⟨B1 ++ C, A', rl', ⟨some v, _, B1, C, rfl, rfl, ⟨v, rfl, ow⟩, rs⟩, by rw [List.append_assoc]; exact p.append_left B1⟩
  | .sl i :: as, st, st', cs, vs, A, B, rl, rv, nd, e => by
    obtain ⟨v, r, B1, B2, rfl, rfl, ⟨rfl, ev⟩, rvs⟩ := rv
    have e : (match st[i]? with
      | some .n => none
      | none => none
      | some c => (takeAll as (st.set i .n)).map fun p => (c :: p.1, p.2)) = some (cs, st') := e
    cases z : st[i]? with
    | none => simp only [z] at e; cases e
    | some c =>
      have e : (takeAll as (st.set i .n)).map (fun p => (c :: p.1, p.2)) = some (cs, st') := by
        cases c with
        | n => simp only [z] at e; cases e
        | f d => simp only [z] at e; exact e
        | o d => simp only [z] at e; exact e
      obtain ⟨⟨cs', st2⟩, e1, e2⟩ := Option.map_eq_some_iff.mp e
      cases e2
      obtain ⟨x, B3, C3, ex, rc, rl3, p3⟩ := rl.take z
      rw [ev] at ex
      cases ex
      have p4 : ([] ++ B2 ++ A).Perm (B3 ++ (B2 ++ C3)) := by
        rw [List.nil_append]
        refine (p3.append_left B2).trans ?_
        rw [← List.append_assoc, ← List.append_assoc]
        exact List.perm_append_comm.append_right C3
      have nd4 := p4.nodup_iff.mp nd
      obtain ⟨C, A', rl', rs, p⟩ := take_all rl3 rvs (List.nodup_append.mp nd4).2.1 e1
      exact ⟨B3 ++ C, A', rl', ⟨some v, _, B3, C, rfl, rfl, rc, rs⟩, p4.trans (by rw [List.append_assoc]; exact p.append_left B3)⟩

def slOf : List AV → List Nat
  | [] => []
  | .sl i :: as => i :: slOf as
  | _ :: as => slOf as
theorem takeAll_sl : ∀ {as : List AV} {st st' : Sl} {cs : List Cell}, takeAll as st = some (cs, st') →
    (∀ i, st[i]? = some .n → st'[i]? = some .n ∧ i ∉ slOf as) ∧ (∀ i ∈ slOf as, st'[i]? = some .n) ∧ (slOf as).Nodup
  | [], st, st', cs, e => by cases e; exact ⟨fun i h => ⟨h, by simp [slOf]⟩, fun i m => by simp [slOf] at m, by simp [slOf]⟩
  | .d d :: as, st, st', cs, e => by
    obtain ⟨⟨cs', st2⟩, e1, e2⟩ := Option.map_eq_some_iff.mp e
    cases e2
    exact takeAll_sl (as := as) e1
  | .o d :: as, st, st', cs, e => by
    obtain ⟨⟨cs', st2⟩, e1, e2⟩ := Option.map_eq_some_iff.mp e
    cases e2
    exact takeAll_sl (as := as) e1
  | .sl i :: as, st, st', cs, e => by
    have e : (match st[i]? with
      | some .n => none
      | none => none
      | some c => (takeAll as (st.set i .n)).map fun p => (c :: p.1, p.2)) = some (cs, st') := e
    cases z : st[i]? with
    | none => simp only [z] at e; cases e
    | some c =>
      have hc : c ≠ .n := fun q => by subst q; simp only [z] at e; cases e
      have e : (takeAll as (st.set i .n)).map (fun p => (c :: p.1, p.2)) = some (cs, st') := by
        cases c with
        | n => exact absurd rfl hc
        | f d => simp only [z] at e; exact e
        | o d => simp only [z] at e; exact e
      obtain ⟨⟨cs', st2⟩, e1, e2⟩ := Option.map_eq_some_iff.mp e
      cases e2
      obtain ⟨h1, h2, h3⟩ := takeAll_sl (as := as) e1
      have hi : i < st.length := (List.getElem?_eq_some_iff.mp z).1
      have hs : (st.set i .n)[i]? = some Cell.n := by simp [hi]
      refine ⟨fun j hj => ?_, fun j m => ?_, ?_⟩
      · have ne : i ≠ j := fun q => by subst q; rw [z] at hj; cases hj; exact hc rfl
        obtain ⟨a, b⟩ := h1 j (by rw [List.getElem?_set_ne ne]; exact hj)
        exact ⟨a, by simp only [slOf, List.mem_cons, not_or]; exact ⟨fun q => ne q.symm, b⟩⟩
      · simp only [slOf, List.mem_cons] at m
        rcases m with rfl | m
        · exact (h1 j hs).1
        · exact h2 j m
      · exact List.nodup_cons.mpr ⟨(h1 i hs).2, h3⟩
theorem RepVs.sl : ∀ {as : List AV} {vs : List V} {B : List Addr}, RepVs K ca F H σ as vs B → vs.length = as.length
  | [], vs, B, h => by rw [h.1]; rfl
  | a :: as, vs, B, h => by
    obtain ⟨v, r, B1, B2, rfl, rfl, _, h⟩ := h
    rw [List.length_cons, List.length_cons, RepVs.sl h]
theorem RepVs_nf : ∀ {as : List AV} {vs : List V} {B : List Addr}, RepVs K ca F H σ as vs B → ∀ x ∈ B, ¬ F x ∧ ∃ o, H x = some o
  | [], vs, B, h, x, m => by rw [h.2] at m; cases m
  | a :: as, vs, B, h, x, m => by
    obtain ⟨v, r, B1, B2, rfl, rfl, h1, h2⟩ := h
    rcases List.mem_append.mp m with m | m
    · exact h1.nf x m
    · exact RepVs_nf h2 x m
theorem put_all : ∀ {as : List AV} {st : Sl} {cs : List Cell} {vs : List V} {A A' B : List Addr} {F0 : Addr → Prop} {H0 : Hp}, Rl K ca F H st σ A → RepVs K ca F0 H0 σ as vs B → RepS K ca F H cs (vs.map some) A' → (A' ++ A).Nodup →
    (∀ i ∈ slOf as, st[i]? = some .n) → (slOf as).Nodup → ∃ A3, Rl K ca F H (putAll as cs st) σ A3 ∧ ∀ x ∈ A3, x ∈ A' ++ A
  | [], st, cs, vs, A, A', B, F0, H0, rl, rv, rs, nd, hn, hd => ⟨A, by cases cs <;> exact rl, fun x m => List.mem_append_right _ m⟩
  | a :: as, st, cs, vs, A, A', B, F0, H0, rl, rv, rs, nd, hn, hd => by
    obtain ⟨v, r, B1, B2, rfl, rfl, rv1, rvs⟩ := rv
    cases cs with
    | nil => obtain ⟨e, _⟩ := rs; cases e
    | cons c cs =>
      obtain ⟨x, σr, C1, C2, e1, rfl, rc, rs⟩ := rs
      rw [List.map_cons] at e1
      cases e1
      cases a with
      | d d =>
        have nd2 : (C2 ++ A).Nodup := by rw [List.append_assoc] at nd; exact (List.nodup_append.mp nd).2.1
        obtain ⟨A3, h1, h2⟩ := put_all rl rvs rs nd2 hn hd
        exact ⟨A3, h1, fun x m => by rw [List.append_assoc]; exact List.mem_append_right _ (h2 x m)⟩
      | o d =>
        have nd2 : (C2 ++ A).Nodup := by rw [List.append_assoc] at nd; exact (List.nodup_append.mp nd).2.1
        obtain ⟨A3, h1, h2⟩ := put_all rl rvs rs nd2 hn hd
        exact ⟨A3, h1, fun x m => by rw [List.append_assoc]; exact List.mem_append_right _ (h2 x m)⟩
      | sl i =>
        obtain ⟨_, ev⟩ := rv1
        have p : (C1 ++ C2 ++ A).Perm (C2 ++ (C1 ++ A)) := by
          rw [← List.append_assoc]
          exact List.perm_append_comm.append_right A
        have nd3 := p.nodup_iff.mp nd
        have rl2 := rl.put (hn i (by simp [slOf])) ev rc (List.nodup_append.mp nd3).2.1
        have hd2 := List.nodup_cons.mp (show (i :: slOf as).Nodup from hd)
        obtain ⟨A3, h1, h2⟩ := put_all rl2 rvs rs nd3 (fun j m => by
          have ne : i ≠ j := fun q => hd2.1 (q ▸ m)
          rw [List.getElem?_set_ne ne]
          exact hn j (by simp [slOf, m])) hd2.2
        exact ⟨A3, h1, fun x m => p.mem_iff.mpr (h2 x m)⟩
/-- a call, from the arguments to what comes back -/
theorem call_step {as : List AV} {st : Sl} {vs : List V} {B : List Addr} (rl : Rl K ca F H st σ A) (rvs : RepVs K ca F H σ as vs B) (nd : (B ++ A).Nodup) {cs : List Cell} {st2 : Sl} (e : takeAll as st = some (cs, st2)) :
    ∃ C, Rl K ca F H cs (vs.map some) C ∧ ∀ {cs' : List Cell} {F' : Addr → Prop} {H' : Hp} {A' : List Addr}, Rl K ca F' H' cs' (vs.map some) A' → Step F H C F' H' A' →
      ∃ A3, Rl K ca F' H' (putAll as cs' st2) σ A3 ∧ Step F H (B ++ A) F' H' A3 ∧ ∀ D : List Addr, (D ++ A').Nodup → Step F H C F' H' (D ++ A') → (D ++ A3).Nodup ∧ Step F H (B ++ A) F' H' (D ++ A3) := by
  obtain ⟨C, A2, rl2, rs, p⟩ := take_all rl rvs nd e
  have ndp := p.nodup_iff.mp nd
  obtain ⟨n1, n2, n3⟩ := List.nodup_append.mp ndp
  have nfc : ∀ x ∈ C, ¬ F x ∧ ∃ o, H x = some o := fun x m => by
    rcases List.mem_append.mp (p.mem_iff.mpr (List.mem_append_left A2 m)) with z | z
    · exact (RepVs_nf rvs) x z
    · exact rl.nf x z
  have rlc : Rl K ca F H cs (vs.map some) C := ⟨⟨C, rs, .refl _⟩, n1, rl.fd, nfc⟩
  · refine ⟨C, rlc, fun {cs' F' H' A'} rl' s => ?_⟩
    have dj : ∀ x ∈ A2, x ∉ C := fun x m m' => n3 x m' x m rfl
    have rl3 := rl2.step s rlc dj rl'.fd
    obtain ⟨A0, rs', p'⟩ := rl'.rep
    -- the callee's own and the rest are apart
    have apart : ∀ {D : List Addr}, (∀ x ∈ D, x ∈ C ∨ H x = none) → ∀ x ∈ D, x ∉ A2 := fun {D} h x m m' => by
      rcases h x m with z | z
      · exact dj x m' z
      · obtain ⟨o, e⟩ := (rl2.nf x m').2; rw [e] at z; cases z
    have nd' : (A0 ++ A2).Nodup := List.nodup_append.mpr ⟨p'.nodup_iff.mpr rl'.nd, rl2.nd, fun x m y m' e => apart (D := A') s.anew x (p'.mem_iff.mp m) (e ▸ m')⟩
    obtain ⟨h1, h2, h3⟩ := takeAll_sl e
    obtain ⟨A3, rl4, sub⟩ := put_all rl3 rvs rs' nd' h2 h3
    have sub' : ∀ x ∈ A3, x ∈ A' ∨ x ∈ A2 := fun x m => (List.mem_append.mp (sub x m)).imp (fun z => p'.mem_iff.mp z) fun z => z
    have st0 : ∀ {D : List Addr}, (∀ x ∈ D, x ∈ C ∨ H x = none) → Step F H (B ++ A) F' H' (D ++ A3) := fun {D} hD => by
      refine ⟨s.fm, fun x o ex n => s.keep x o ex fun m => n (p.mem_iff.mpr (List.mem_append_left _ m)), s.dom, fun x m => ?_, fun x m => ?_⟩
      · rcases s.fnew x m with z | z | z
        · exact .inl z
        · exact .inr (.inl z)
        · exact .inr (.inr (p.mem_iff.mpr (List.mem_append_left _ z)))
      · have fin : x ∈ C ∨ H x = none → x ∈ B ++ A ∨ H x = none := fun z => z.imp (fun z => p.mem_iff.mpr (List.mem_append_left _ z)) fun z => z
        rcases List.mem_append.mp m with m | m
        · exact fin (hD x m)
        · rcases sub' x m with z | z
          · exact fin (s.anew x z)
          · exact .inl (p.mem_iff.mpr (List.mem_append_right _ z))
    refine ⟨A3, rl4, st0 (D := []) (fun x m => by cases m), fun D ndD sD => ?_⟩
    have hD : ∀ x ∈ D, x ∈ C ∨ H x = none := fun x m => sD.anew x (List.mem_append_left _ m)
    refine ⟨List.nodup_append.mpr ⟨(List.nodup_append.mp ndD).1, rl4.nd, fun x m y m' ex => ?_⟩, st0 hD⟩
    subst ex
    rcases sub' x m' with z | z
    · exact (List.nodup_append.mp ndD).2.2 x m x z rfl
    · exact apart hD x m z
end
end Ev
namespace Ev
open PySem PySem.Spec PyProof.Rows L2
def callTail (mf : MF) (as : List AV) : E := fun st => match takeAll as st with
  | some (cs, st) => (match mf cs with
    | .ok d cs => .ok d (putAll as cs st)
    | .exc c x cs => .exc c x (putAll as cs st)
    | .bad => .bad)
  | none => .bad
theorem eCall_eq (mf : MF) (ps : List Arg) (st : Sl) : eCall mf ps st = (evArgs ps st).bind fun as st => callTail mf as st := rfl
/-- no exception -/
def noX (mf : MF) : MF := fun cs => match mf cs with
  | .exc _ _ _ => .bad
  | o => o
def clsAV (c : Str) (a : AV) (st : Sl) : Bool := match a with
  | .d (.obj c' _ _) => c' == c
  | .o (.obj c' _ _) => c' == c
  | .sl i => (match rd i st with
    | some (.obj c' _ _) => c' == c
    | _ => false)
  | _ => false
/-- o.m(..), o of the class c -/
def eMeth (c : Str) (mf : MF) (p : Arg) (ps : List Arg) : E := fun st => (evArg p st).bind fun a st => match clsAV c a st with
  | true => (evArgs ps st).bind fun as st => callTail mf (a :: as) st
  | false => .bad
/-- C(..) -/
def eMake (c : Str) (mf : MF) (ps : List Arg) : E := fun st => (evArgs ps st).bind fun as st => match takeAll as st with
  | some (cs, st) => (match mf (.o (.obj c [] []) :: cs) with
    | .ok .non (.o d :: cs) => .ok d (putAll as cs st)
    | .exc c x (_ :: cs) => .exc c x (putAll as cs st)
    | _ => .bad)
  | none => .bad
section
variable {K : PySem.W.Frag} {ca : Ca} {W : WX} {F F1 : Addr → Prop} {H H1 : Hp} {A A1 : List Addr} {σ : L2.St}
/-- what is wanted behind a result -/
def WantE (K : PySem.W.Frag) (ca : Ca) (W : WX) (F : Addr → Prop) (H : Hp) (A : List Addr) (σ : L2.St) (Q : VK) : R D → Prop
  | .ok d st' => ∀ v F' H' A', Rl K ca F' H' st' σ A' → Rep K ca F' H' d v → Step F H A F' H' A' → Q v H'
  | .exc c x st' => XcW K ca W F H A σ c x st'
  | .bad => False
def WantO (K : PySem.W.Frag) (ca : Ca) (W : WX) (F : Addr → Prop) (H : Hp) (A : List Addr) (σ : L2.St) (Q : VK) : R D → Prop
  | .ok d st' => ∀ v F' H' A' B, Rl K ca F' H' st' σ A' → Own K ca F' H' d v B → (B ++ A').Nodup → Step F H A F' H' (B ++ A') → Q v H'
  | .exc c x st' => XcW K ca W F H A σ c x st'
  | .bad => False
theorem tE_iff {m : E} {Q : VK} : tE K ca W m σ H Q ↔ ∃ F st A, Rl K ca F H st σ A ∧ WantE K ca W F H A σ Q (m st) := by
  constructor
  · rintro ⟨F, st, A, rl, q⟩
    refine ⟨F, st, A, rl, ?_⟩
    cases z : m st <;> (rw [z] at q; exact q)
  · rintro ⟨F, st, A, rl, q⟩
    refine ⟨F, st, A, rl, ?_⟩
    cases z : m st <;> (rw [z] at q; exact q)
theorem tO_iff {m : E} {Q : VK} : tO K ca W m σ H Q ↔ ∃ F st A, Rl K ca F H st σ A ∧ WantO K ca W F H A σ Q (m st) := by
  constructor
  · rintro ⟨F, st, A, rl, q⟩
    refine ⟨F, st, A, rl, ?_⟩
    cases z : m st <;> (rw [z] at q; exact q)
  · rintro ⟨F, st, A, rl, q⟩
    refine ⟨F, st, A, rl, ?_⟩
    cases z : m st <;> (rw [z] at q; exact q)
theorem WantE.step {Q : VK} {r : R D} (h : WantE K ca W F H A σ Q r) (s : Step F H A F1 H1 A1) : WantE K ca W F1 H1 A1 σ Q r := by
  cases r with
  | ok d st => exact fun v F' H' A' r rp s2 => h v F' H' A' r rp (s.trans s2)
  | exc c x st => exact fun cls oe F' H' A' r x s2 => h cls oe F' H' A' r x (s.trans s2)
  | bad => exact h
theorem WantO.step {Q : VK} {r : R D} (h : WantO K ca W F H A σ Q r) (s : Step F H A F1 H1 A1) : WantO K ca W F1 H1 A1 σ Q r := by
  cases r with
  | ok d st => exact fun v F' H' A' B r rp nd s2 => h v F' H' A' B r rp nd (s.trans s2)
  | exc c x st => exact fun cls oe F' H' A' r x s2 => h cls oe F' H' A' r x (s.trans s2)
  | bad => exact h
theorem tailE {mf : MF} {as : List AV} {st : Sl} {vs : List V} {B : List Addr} {Q : VK} (rl : Rl K ca F1 H1 st σ A1) (rvs : RepVs K ca F1 H1 σ as vs B) (nd : (B ++ A1).Nodup) (s1 : Step F H A F1 H1 (B ++ A1))
    (q : WantE K ca W F H A σ Q (callTail mf as st)) : spE K ca mf vs H1 Q (WE W σ) := by
  unfold callTail at q
  cases z : takeAll as st with
  | none => simp only [z] at q; exact q.elim
  | some p =>
    obtain ⟨cs, st2⟩ := p
    obtain ⟨C, rlc, fin⟩ := call_step rl rvs nd z
    refine ⟨F1, cs, C, rlc, ?_⟩
    simp only [z] at q
    cases z2 : mf cs with
    | bad => simp only [z2] at q; exact q.elim
    | ok d cs' =>
      simp only [z2] at q
      intro v F' H' A' rl' rep s
      obtain ⟨A3, r3, s3, _⟩ := fin rl' s
      exact q v F' H' A3 r3 rep (s1.trans s3)
    | exc c x cs' =>
      simp only [z2] at q
      intro cls oe F' H' A' rl' xi s
      obtain ⟨A3, r3, s3, _⟩ := fin rl' s
      exact q cls oe F' H' A3 r3 xi (s1.trans s3)
theorem tailO {mf : MF} {as : List AV} {st : Sl} {vs : List V} {B : List Addr} {Q : VK} (rl : Rl K ca F1 H1 st σ A1) (rvs : RepVs K ca F1 H1 σ as vs B) (nd : (B ++ A1).Nodup) (s1 : Step F H A F1 H1 (B ++ A1))
    (q : WantO K ca W F H A σ Q (callTail mf as st)) : spO K ca mf vs H1 Q (WE W σ) := by
  unfold callTail at q
  cases z : takeAll as st with
  | none => simp only [z] at q; exact q.elim
  | some p =>
    obtain ⟨cs, st2⟩ := p
    obtain ⟨C, rlc, fin⟩ := call_step rl rvs nd z
    refine ⟨F1, cs, C, rlc, ?_⟩
    simp only [z] at q
    cases z2 : mf cs with
    | bad => simp only [z2] at q; exact q.elim
    | ok d cs' =>
      simp only [z2] at q
      intro v F' H' A' D rl' ow nd' s
      have s0 : Step F1 H1 C F' H' A' := ⟨s.fm, s.keep, s.dom, s.fnew, fun x m => s.anew x (List.mem_append_right _ m)⟩
      obtain ⟨A3, r3, _, s3⟩ := fin rl' s0
      obtain ⟨nd3, s4⟩ := s3 D nd' s
      exact q v F' H' A3 D r3 ow nd3 (s1.trans s4)
    | exc c x cs' =>
      simp only [z2] at q
      intro cls oe F' H' A' rl' xi s
      obtain ⟨A3, r3, s3, _⟩ := fin rl' s
      exact q cls oe F' H' A3 r3 xi (s1.trans s3)
/-- the arguments, then P of what they are -/
theorem args_then {st₀ : Sl} {ps : List Arg} {Q : List V → Hp → Prop} {k : List AV → Sl → R D} {Want : R D → Prop} (rl : Rl K ca F H st₀ σ A)
    (q : Want ((evArgs ps st₀).bind fun as st => k as st)) (hb : ¬ Want .bad) (hx : ∀ c x st, Want (.exc c x st) → XcW K ca W F H A σ c x st)
    (ok : ∀ as st vs F1 H1 A1 B, Rl K ca F1 H1 st σ A1 → RepVs K ca F1 H1 σ as vs B → (B ++ A1).Nodup → Step F H A F1 H1 (B ++ A1) → Want (k as st) → Q vs H1) : tGs K ca W ps σ H Q := by
  refine args_run rl ?_
  cases z : evArgs ps st₀ with
  | bad => rw [z] at q; exact hb q
  | exc c x s => rw [z] at q; exact hx c x s q
  | ok as st => rw [z] at q; exact fun vs F1 H1 A1 B r rv nd s => ok as st vs F1 H1 A1 B r rv nd s q
theorem callE {mf : MF} {ps : List Arg} {Q : VK} (h : tE K ca W (eCall mf ps) σ H Q) : tGs K ca W ps σ H fun vs H1 => spE K ca mf vs H1 Q (WE W σ) := by
  obtain ⟨F, st, A, rl, q⟩ := tE_iff.mp h
  exact args_then (Want := WantE K ca W F H A σ Q) rl q (fun z => z) (fun _ _ _ z => z) fun as st vs F1 H1 A1 B r rv nd s z => tailE r rv nd s z
theorem callO {mf : MF} {ps : List Arg} {Q : VK} (h : tO K ca W (eCall mf ps) σ H Q) : tGs K ca W ps σ H fun vs H1 => spO K ca mf vs H1 Q (WE W σ) := by
  obtain ⟨F, st, A, rl, q⟩ := tO_iff.mp h
  exact args_then (Want := WantO K ca W F H A σ Q) rl q (fun z => z) (fun _ _ _ z => z) fun as st vs F1 H1 A1 B r rv nd s z => tailO r rv nd s z
/-- no exception: whatever is wanted of it -/
theorem spE_noX {mf : MF} {vs : List V} {Q : VK} {E E' : XK} (h : spE K ca (noX mf) vs H Q E) : spE K ca mf vs H Q E' := by
  obtain ⟨F, cs, A, rl, q⟩ := h
  refine ⟨F, cs, A, rl, ?_⟩
  unfold noX at q
  cases z : mf cs with
  | bad => simp only [z] at q
  | ok d cs' => simp only [z] at q; exact q
  | exc c x cs' => simp only [z] at q
theorem spO_noX {mf : MF} {vs : List V} {Q : VK} {E E' : XK} (h : spO K ca (noX mf) vs H Q E) : spO K ca mf vs H Q E' := by
  obtain ⟨F, cs, A, rl, q⟩ := h
  refine ⟨F, cs, A, rl, ?_⟩
  unfold noX at q
  cases z : mf cs with
  | bad => simp only [z] at q
  | ok d cs' => simp only [z] at q; exact q
  | exc c x cs' => simp only [z] at q
/-- the receiver is of that class -/
theorem cls_at {c : Str} {a : AV} {v : V} {B : List Addr} {st : Sl} (rl : Rl K ca F H st σ A) (rv : RepV K ca F H σ a v B) (h : clsAV c a st = true) : ∃ x dx gs ns, v = .ref x ∧ ca.ok c ns ∧ H x = some (.ins (ca.a c) dx gs) ∧ gs.map (·.1) = ns := by
  have fin : ∀ {c' : Str} {ns : List Str} {ds : List D}, c' == c → Vw K ca F H (.obj c' ns ds) v → ∃ x dx gs ns, v = .ref x ∧ ca.ok c ns ∧ H x = some (.ins (ca.a c) dx gs) ∧ gs.map (·.1) = ns := fun {c' ns ds} e w => by
    have e : c' = c := eq_of_beq e
    subst e
    obtain ⟨x, dx, gs, e, ok, q, _, e2, _⟩ := w
    exact ⟨x, dx, gs, ns, e, ok, q, e2⟩
  cases a with
  | d d =>
    cases d with
    | obj c' ns ds => exact fin h rv.2.vw
    | _ => cases h
  | o d =>
    cases d with
    | obj c' ns ds => exact fin h (Own.vw rv)
    | _ => cases h
  | sl i =>
    have h : (match rd i st with
      | some (.obj c' _ _) => c' == c
      | _ => false) = true := h
    cases z : rd i st with
    | none => rw [z] at h; cases h
    | some d =>
      rw [z] at h
      obtain ⟨v', e1, w⟩ := rl.rd z
      rw [rv.2] at e1
      cases e1
      cases d with
      | obj c' ns ds => exact fin h w
      | _ => cases h
/-- one argument, then more -/
theorem arg_then {p : Arg} {Q : VK} {k : AV → Sl → R D} {Want : R D → Prop} {st₀ : Sl} (rl : Rl K ca F H st₀ σ A)
    (q : Want ((evArg p st₀).bind fun a st => k a st)) (hb : ¬ Want .bad) (hx : ∀ c x st, Want (.exc c x st) → XcW K ca W F H A σ c x st)
    (ok : ∀ a st v F1 H1 A1 B, Rl K ca F1 H1 st σ A1 → RepV K ca F1 H1 σ a v B → (B ++ A1).Nodup → Step F H A F1 H1 (B ++ A1) → Want (k a st) → Q v H1) : tG K ca W p σ H Q := by
  cases p with
  | e m =>
    refine ⟨F, st₀, A, rl, ?_⟩
    cases z : m st₀ with
    | bad => simp only [evArg, z, R.bind] at q; exact hb q
    | exc c x s => simp only [evArg, z, R.bind] at q; exact hx c x s q
    | ok d st => simp only [evArg, z, R.bind] at q; exact fun v F1 H1 A1 r rep s => ok (.d d) st v F1 H1 A1 [] r ⟨rfl, rep⟩ r.nd s q
  | t m =>
    refine ⟨F, st₀, A, rl, ?_⟩
    cases z : m st₀ with
    | bad => simp only [evArg, z, R.bind] at q; exact hb q
    | exc c x s => simp only [evArg, z, R.bind] at q; exact hx c x s q
    | ok d st => simp only [evArg, z, R.bind] at q; exact fun v F1 H1 A1 B r ow nd s => ok (.o d) st v F1 H1 A1 B r ow nd s q
  | mu i =>
    cases z : st₀[i]? with
    | none => simp only [evArg, z, R.bind] at q; exact (hb q).elim
    | some c =>
      obtain ⟨x, B, C, e1, r, _, _⟩ := rl.take z
      cases c with
      | n => simp only [evArg, z, R.bind] at q; exact (hb q).elim
      | f d =>
        obtain ⟨_, v, rfl, _⟩ := r
        simp only [evArg, z, R.bind] at q
        exact ⟨v, e1, ok (.sl i) st₀ v F H A [] rl ⟨rfl, e1⟩ rl.nd .refl q⟩
      | o d =>
        obtain ⟨v, rfl, _⟩ := r
        simp only [evArg, z, R.bind] at q
        exact ⟨v, e1, ok (.sl i) st₀ v F H A [] rl ⟨rfl, e1⟩ rl.nd .refl q⟩
/-- pending own data B1 (of a value v) beside the rest -/
theorem pend_step {F2 : Addr → Prop} {H2 : Hp} {A2 B1 : List Addr} (s1 : Step F H A F1 H1 (B1 ++ A1)) (s : Step F1 H1 A1 F2 H2 A2) : Step F H A F2 H2 (B1 ++ A2) := by
  refine ⟨fun x m => s.fm x (s1.fm x m), fun x o e n => s.keep x o (s1.keep x o e n) fun m => ?_, fun x o e => ?_, fun x m => ?_, fun x m => ?_⟩
  · rcases s1.anew x (List.mem_append_right _ m) with z | z
    · exact n z
    · rw [e] at z; cases z
  · obtain ⟨o', e'⟩ := s1.dom x o e; exact s.dom x o' e'
  · rcases s.fnew x m with z | z | z
    · exact s1.fnew x z
    · cases e0 : H x with
      | none => exact .inr (.inl rfl)
      | some o => obtain ⟨o', e'⟩ := s1.dom x o e0; rw [z] at e'; cases e'
    · rcases s1.anew x (List.mem_append_right _ z) with z | z
      · exact .inr (.inr z)
      · exact .inr (.inl z)
  · rcases List.mem_append.mp m with m | m
    · exact s1.anew x (List.mem_append_left _ m)
    · rcases s.anew x m with z | z
      · exact s1.anew x (List.mem_append_right _ z)
      · cases e0 : H x with
        | none => exact .inr rfl
        | some o => obtain ⟨o', e'⟩ := s1.dom x o e0; rw [z] at e'; cases e'
/-- the receiver, the arguments, then the method's promise Sp -/
theorem meth_then {c : Str} {mf : MF} {p : Arg} {ps : List Arg} {Want : R D → Prop} {st₀ : Sl} {S : List V → Hp → Prop} {m : Str} (hm : ∀ ns, ca.ok c ns → m ∉ ns) (rl : Rl K ca F H st₀ σ A)
    (q : Want (eMeth c mf p ps st₀)) (hb : ¬ Want .bad) (hx : ∀ c x st, Want (.exc c x st) → XcW K ca W F H A σ c x st)
    (ok : ∀ as st vs F1 H1 A1 B, Rl K ca F1 H1 st σ A1 → RepVs K ca F1 H1 σ as vs B → (B ++ A1).Nodup → Step F H A F1 H1 (B ++ A1) → Want (callTail mf as st) → S vs H1) :
    tG K ca W p σ H fun x H1 => ∃ a dx fs, x = .ref a ∧ H1 a = some (.ins (ca.a c) dx fs) ∧ fs.lookup m = none ∧ tGs K ca W ps σ H1 fun vs H2 => S (x :: vs) H2 := by
  refine arg_then (k := fun a st => match clsAV c a st with
    | true => (evArgs ps st).bind fun as st => callTail mf (a :: as) st
    | false => .bad) rl q hb hx fun a st v F1 H1 A1 B1 rl1 rv nd s1 q => ?_
  cases z : clsAV c a st with
  | false => simp only [z] at q; exact (hb q).elim
  | true =>
    simp only [z] at q
    obtain ⟨x, dx, gs, ns, e, okc, eh, en⟩ := cls_at rl1 rv z
    refine ⟨x, dx, gs, e, eh, ?_, ?_⟩
    · have hn := hm ns okc
      rw [← en] at hn
      clear en eh okc
      induction gs with
      | nil => rfl
      | cons g gs ih =>
        rw [List.map_cons, List.mem_cons, not_or] at hn
        obtain ⟨g1, g2⟩ := g
        rw [List.lookup_cons]
        have : (m == g1) = false := by simpa using hn.1
        rw [this]
        exact ih hn.2
    · refine args_run rl1 ?_
      have dj : ∀ x ∈ B1, x ∉ A1 := fun x m m' => (List.nodup_append.mp nd).2.2 x m x m' rfl
      cases z2 : evArgs ps st with
      | bad => simp only [z2, R.bind] at q; exact hb q
      | exc c x s =>
        simp only [z2, R.bind] at q
        intro cls oe F' H' A' r xi s2
        have s3 := pend_step s1 s2
        exact hx c x s q cls oe F' H' A' r xi ⟨s3.fm, s3.keep, s3.dom, s3.fnew, fun y m => s3.anew y (List.mem_append_right _ m)⟩
      | ok as st2 =>
        simp only [z2, R.bind] at q
        intro vs F' H' A' B rl2 rvs nd2 s2
        have rv2 := rv.step s2 rl1 dj
        have djB : ∀ x ∈ B1, x ∉ B ++ A' := fun x m m' => by
          rcases s2.anew x m' with z | z
          · exact dj x m z
          · obtain ⟨o, e⟩ := (rv.nf x m).2; rw [e] at z; cases z
        have nd3 : (B1 ++ (B ++ A')).Nodup := List.nodup_append.mpr ⟨(List.nodup_append.mp nd).1, nd2, fun x m y m' e => djB x m (e ▸ m')⟩
        exact ok (a :: as) st2 (v :: vs) F' H' A' (B1 ++ B) rl2 ⟨v, vs, B1, B, rfl, rfl, rv2, rvs⟩ (by rw [List.append_assoc]; exact nd3) (by rw [List.append_assoc]; exact pend_step s1 s2) q
/-- a new instance, then __init__'s promise -/
theorem make_then {c : Str} {mf : MF} {ps : List Arg} {Q : VK} (h : tO K ca W (eMake c mf ps) σ H Q) (okc : ca.ok c []) :
    tGs K ca W ps σ H fun vs H1 => ∀ x dx, H1 x = none → H1 dx = none → dx ≠ x → spE K ca mf (.ref x :: vs) (upd (upd H1 dx (.own x)) x (.ins (ca.a c) dx [])) (fun v H2 => v = .non ∧ Q (.ref x) H2) (WE W σ) := by
  obtain ⟨F, st₀, A, rl, q⟩ := tO_iff.mp h
  refine args_then (Want := WantO K ca W F H A σ Q) rl q (fun z => z) (fun _ _ _ z => z) fun as st vs F1 H1 A1 B rl1 rvs nd s1 q => ?_
  intro x dx nx ndx ne
  cases z : takeAll as st with
  | none => simp only [z] at q; exact q.elim
  | some p =>
    obtain ⟨cs, st2⟩ := p
    simp only [z] at q
    obtain ⟨C, rlc, fin⟩ := call_step rl1 rvs nd z
    have hx := rlc.fresh nx
    have hdx := rlc.fresh ndx
    have ext : ∀ a o, H1 a = some o → (upd (upd H1 dx (.own x)) x (.ins (ca.a c) dx [])) a = some o := fun a o e => by
      rw [upd_ne (ne_of_none e nx), upd_ne (ne_of_none e ndx)]; exact e
    have rl2 := rlc.ext ext
    have ow : Own K ca F1 (upd (upd H1 dx (.own x)) x (.ins (ca.a c) dx [])) (.obj c [] []) (.ref x) [x, dx] :=
      ⟨x, dx, [], [], rfl, okc, rfl, hx.1, hdx.1, upd_same, by rw [upd_ne ne, upd_same], rfl, rfl, rfl, rfl⟩
    have nd2 : ([x, dx] ++ C).Nodup := by
      refine List.nodup_cons.mpr ⟨?_, List.nodup_cons.mpr ⟨?_, rlc.nd⟩⟩
      · intro m
        rcases List.mem_cons.mp m with m | m
        · exact ne m.symm
        · exact hx.2 m
      · exact hdx.2
    have rlS : Rl K ca F1 (upd (upd H1 dx (.own x)) x (.ins (ca.a c) dx [])) (.o (.obj c [] []) :: cs) ((V.ref x :: vs).map some) ([x, dx] ++ C) := by
      obtain ⟨C0, rs, pp⟩ := rl2.rep
      refine ⟨⟨[x, dx] ++ C0, ⟨some (.ref x), _, [x, dx], C0, rfl, rfl, ⟨_, rfl, ow⟩, rs⟩, pp.append_left _⟩, nd2, rl2.fd, fun y m => ?_⟩
      rcases List.mem_append.mp m with m | m
      · exact ow.nf y m
      · exact rl2.nf y m
    have sN : Step F1 H1 C F1 (upd (upd H1 dx (.own x)) x (.ins (ca.a c) dx [])) ([x, dx] ++ C) := by
      refine ⟨fun _ z => z, fun a o e _ => ext a o e, fun a o e => ⟨o, ext a o e⟩, fun _ z => .inl z, fun y m => ?_⟩
      rcases List.mem_append.mp m with m | m
      · rcases List.mem_cons.mp m with m | m
        · exact .inr (m ▸ nx)
        · rw [List.mem_singleton] at m
          exact .inr (m ▸ ndx)
      · exact .inl m
    refine ⟨F1, _, _, rlS, ?_⟩
    cases z2 : mf (.o (.obj c [] []) :: cs) with
    | bad => simp only [z2] at q; exact q.elim
    | exc cc xx cs' =>
      simp only [z2] at q
      cases cs' with
      | nil => exact q.elim
      | cons c0 cs' =>
        intro cls oe F' H' A' rl' xi s
        obtain ⟨A0, ⟨y, r, B', C', e1, rfl, rc, rs⟩, pp⟩ := rl'.rep
        rw [List.map_cons] at e1
        cases e1
        have ndp := pp.nodup_iff.mpr rl'.nd
        have rl3 : Rl K ca F' H' cs' (vs.map some) C' := ⟨⟨C', rs, .refl _⟩, (List.nodup_append.mp ndp).2.1, rl'.fd, fun y m => rl'.nf y (pp.mem_iff.mp (List.mem_append_right _ m))⟩
        have s3 : Step F1 H1 C F' H' C' := by
          have t := sN.trans s
          exact ⟨t.fm, t.keep, t.dom, t.fnew, fun y m => t.anew y (pp.mem_iff.mp (List.mem_append_right _ m))⟩
        obtain ⟨A3, r3, s4, _⟩ := fin rl3 s3
        exact q cls oe F' H' A3 r3 xi (s1.trans s4)
    | ok d0 cs' =>
      simp only [z2] at q
      cases d0 with
      | non =>
        cases cs' with
        | nil => exact q.elim
        | cons c0 cs' =>
          cases c0 with
          | n => exact q.elim
          | f d => exact q.elim
          | o d =>
            intro v F' H' A' rl' rep s
            unfold Rep at rep
            refine ⟨rep, ?_⟩
            obtain ⟨A0, ⟨y, r, B', C', e1, rfl, ⟨v', e2, ow'⟩, rs⟩, pp⟩ := rl'.rep
            rw [List.map_cons] at e1
            cases e1
            cases e2
            have ndp := pp.nodup_iff.mpr rl'.nd
            have rl3 : Rl K ca F' H' cs' (vs.map some) C' := ⟨⟨C', rs, .refl _⟩, (List.nodup_append.mp ndp).2.1, rl'.fd, fun y m => rl'.nf y (pp.mem_iff.mp (List.mem_append_right _ m))⟩
            have t := sN.trans s
            have s3 : Step F1 H1 C F' H' (B' ++ C') := ⟨t.fm, t.keep, t.dom, t.fnew, fun y m => t.anew y (pp.mem_iff.mp m)⟩
            have s3' : Step F1 H1 C F' H' C' := ⟨t.fm, t.keep, t.dom, t.fnew, fun y m => t.anew y (pp.mem_iff.mp (List.mem_append_right _ m))⟩
            obtain ⟨A3, r3, _, f3⟩ := fin rl3 s3'
            obtain ⟨nd3, s4⟩ := f3 B' ndp s3
            exact q (.ref x) F' H' A3 B' r3 ow' nd3 (s1.trans s4)
      | _ => exact q.elim
end
section
variable {X : Cx} {ca : Ca} {W : WX} {k : Nat} {f : Addr} {fd : FuncData} {pn : List Str} {x m : Str} {p pos apos : Pos} {e o : Expr} {es : List Expr} {mf : MF} {ps : List Arg} {g : Arg} {c : Str}
theorem tCallS_run {sp : Sp} {t : TA} {E : L2.St → XK} {σ : L2.St} {H : Hp} {Q : VK} (h : t σ H fun vs H1 => sp vs H1 Q (E σ)) : tCallS sp E t σ H Q := h
theorem se_call (F : FnOk X.prog X.w X.K X.mg X.base (L2.CX X.prog X.w) k f fd pn (spE X.K ca mf)) (hr : Room k X.A) (hg : Gl X x) (hm : X.mg x = some (.ref f)) (hk : PySem.W.keepIn X.K (.ref f) = true) (hb : Binds X.K fd pn []) (tk : Takes X W)
    (ha : PA X (e :: es) (tGs X.K ca W ps)) (hdb : (x == ("__debug__" : Str)) = false := by decide) (he : starEach (e :: es) X.env = (false, eval e X.env) :: starEach es X.env := by rfl) (hpl : (backTo pos (starEach es X.env)).any (·.1) = false := by rfl) :
    PE X (.Call (.Name x p) (e :: es) [] pos) (tE X.K ca W (eCall mf ps)) := PE.imp (pe_callS (E := WE W) F hr hg hm hk hb (fun σ => passAt tk σ) ha hdb he hpl) fun σ H Q h => callE h
theorem so_call (F : FnOk X.prog X.w X.K X.mg X.base (L2.CX X.prog X.w) k f fd pn (spO X.K ca mf)) (hr : Room k X.A) (hg : Gl X x) (hm : X.mg x = some (.ref f)) (hk : PySem.W.keepIn X.K (.ref f) = true) (hb : Binds X.K fd pn []) (tk : Takes X W)
    (ha : PA X (e :: es) (tGs X.K ca W ps)) (hdb : (x == ("__debug__" : Str)) = false := by decide) (he : starEach (e :: es) X.env = (false, eval e X.env) :: starEach es X.env := by rfl) (hpl : (backTo pos (starEach es X.env)).any (·.1) = false := by rfl) :
    PE X (.Call (.Name x p) (e :: es) [] pos) (tO X.K ca W (eCall mf ps)) := PE.imp (pe_callS (E := WE W) F hr hg hm hk hb (fun σ => passAt tk σ) ha hdb he hpl) fun σ H Q h => callO h
theorem pe_call0S {sp : Sp} {E : L2.St → XK} (F : FnOk X.prog X.w X.K X.mg X.base (L2.CX X.prog X.w) k f fd pn sp) (hr : Room k X.A) (hg : Gl X x) (hm : X.mg x = some (.ref f)) (hk : PySem.W.keepIn X.K (.ref f) = true) (hb : Binds X.K fd pn []) (hx : ∀ σ, PassesAt (L2.CX X.prog X.w) X σ (E σ))
    (hdb : (x == ("__debug__" : Str)) = false := by decide) : PE X (.Call (.Name x p) [] [] pos) (tCallS sp E tNil) := by
  refine ⟨fun pins s σ H Q I h => ?_⟩
  refine wpAny_Call_Name_kw (ld_glob I hg hm ?_ hdb)
  exact PySem.W.callWith_K0 I.kIn hk (run_fnS (us := []) F hr hb (hx σ) I .nil h)
theorem se_call0 (F : FnOk X.prog X.w X.K X.mg X.base (L2.CX X.prog X.w) k f fd pn (spE X.K ca mf)) (hr : Room k X.A) (hg : Gl X x) (hm : X.mg x = some (.ref f)) (hk : PySem.W.keepIn X.K (.ref f) = true) (hb : Binds X.K fd pn []) (tk : Takes X W)
    (hdb : (x == ("__debug__" : Str)) = false := by decide) : PE X (.Call (.Name x p) [] [] pos) (tE X.K ca W (eCall mf [])) := PE.imp (pe_call0S (E := WE W) F hr hg hm hk hb (fun σ => passAt tk σ) hdb) fun σ H Q h => callE h
def tMethS (C : Addr) (m : Str) (sp : Sp) (dvs : List V) (E : L2.St → XK) (ta : TE) (t : TA) : TE := fun σ H Q => ta σ H fun x H1 => ∃ a dx fs, x = .ref a ∧ H1 a = some (.ins C dx fs) ∧ fs.lookup m = none ∧
  t σ H1 fun vs H2 => sp (x :: (vs ++ dvs)) H2 Q (E σ)
theorem pe_methS {C : Addr} {sp : Sp} {dvs : List V} {ds : List Value} {E : L2.St → XK} {ta : TE} {t : TA} {pl : Sem Bool} (he : PE X o ta) (c : Cls X.K C) (hm : Meth X.K C m f) (F : FnOk X.prog X.w X.K X.mg X.base (L2.CX X.prog X.w) k f fd pn sp) (hr : Room k X.A) (hb : Binds X.K fd pn ds) (hd : Vals dvs ds) (hx : ∀ σ, PassesAt (L2.CX X.prog X.w) X σ (E σ)) (ha : PA X (e :: es) t)
    (hst : starEach (e :: es) X.env = (false, eval e X.env) :: starEach es X.env := by rfl) (hpl : (backTo pos (starEach es X.env)).any (·.1) = false := by rfl)
    (ht : eval (.Call (.Attribute o m apos) (e :: es) [] pos) X.env = (do
      let ov ← eval o X.env
      standAt apos.atName
      let (f, first) ← holding [ov] (getMethod ov m pl)
      callWith pos f first (backTo pos (starEach (e :: es) X.env)) (backToKw pos (keywordEach [] X.env))) := by rfl) :
    PE X (.Call (.Attribute o m apos) (e :: es) [] pos) (tMethS C m sp dvs E ta t) := by
  refine ⟨fun pins s σ H Q I h => ?_⟩
  refine PySem.W.methodCall_KW (pl := pl) (thn (he.run pins s σ H _ I h) fun u s1 ⟨x, H1, I1, rx, a, dx, fs, ex, ea, l, q⟩ => ?_) ht
  subst ex
  obtain rfl : u = Value.ref a := rx
  refine getmeth_ok I1 ea c hm l ?_
  refine PySem.W.callWith_K (first := [.ref a]) (h₀ := X.base) I.ok.mod.kin hm.kp (thn (ha.run pos pins s1 σ H1 _ I1 q) fun us s2 ⟨vs, H2, I2, r, q2⟩ => ⟨I2.kIn, ?_⟩) hst hpl
  exact run_fnSD (us := .ref a :: us) (vs := .ref a :: vs) F hr hb hd (hx σ) I2 (.cons rfl r) q2
theorem pe_meth0S {C : Addr} {sp : Sp} {dvs : List V} {ds : List Value} {E : L2.St → XK} {ta : TE} {pl : Sem Bool} (he : PE X o ta) (c : Cls X.K C) (hm : Meth X.K C m f) (F : FnOk X.prog X.w X.K X.mg X.base (L2.CX X.prog X.w) k f fd pn sp) (hr : Room k X.A) (hb : Binds X.K fd pn ds) (hd : Vals dvs ds) (hx : ∀ σ, PassesAt (L2.CX X.prog X.w) X σ (E σ))
    (ht : eval (.Call (.Attribute o m apos) [] [] pos) X.env = (do
      let ov ← eval o X.env
      standAt apos.atName
      let (f, first) ← holding [ov] (getMethod ov m pl)
      callWith pos f first (backTo pos (starEach [] X.env)) (backToKw pos (keywordEach [] X.env))) := by rfl) :
    PE X (.Call (.Attribute o m apos) [] [] pos) (tMethS C m sp dvs E ta tNil) := by
  refine ⟨fun pins s σ H Q I h => ?_⟩
  refine PySem.W.methodCall_KW (pl := pl) (thn (he.run pins s σ H _ I h) fun u s1 ⟨x, H1, I1, rx, a, dx, fs, ex, ea, l, q⟩ => ?_) ht
  subst ex
  obtain rfl : u = Value.ref a := rx
  refine getmeth_ok I1 ea c hm l ?_
  exact PySem.W.callWith_K0 (first := [.ref a]) I1.kIn hm.kp (run_fnSD (us := [.ref a]) (vs := [.ref a]) F hr hb hd (hx σ) I1 (.cons rfl .nil) q)
variable (cf : Cf X.K ca)
theorem se_meth {pl : Sem Bool} (cl : Cls X.K (ca.a c)) (hn : ∀ ns, ca.ok c ns → m ∉ ns) (he : PE X o (tG X.K ca W g)) (hm : Meth X.K (ca.a c) m f) (F : FnOk X.prog X.w X.K X.mg X.base (L2.CX X.prog X.w) k f fd pn (spE X.K ca mf)) (hr : Room k X.A) (hb : Binds X.K fd pn []) (tk : Takes X W) (ha : PA X (e :: es) (tGs X.K ca W ps))
    (hst : starEach (e :: es) X.env = (false, eval e X.env) :: starEach es X.env := by rfl) (hpl : (backTo pos (starEach es X.env)).any (·.1) = false := by rfl)
    (ht : eval (.Call (.Attribute o m apos) (e :: es) [] pos) X.env = (do
      let ov ← eval o X.env
      standAt apos.atName
      let (f, first) ← holding [ov] (getMethod ov m pl)
      callWith pos f first (backTo pos (starEach (e :: es) X.env)) (backToKw pos (keywordEach [] X.env))) := by rfl) :
    PE X (.Call (.Attribute o m apos) (e :: es) [] pos) (tE X.K ca W (eMeth c mf g ps)) := PE.imp (pe_methS (dvs := []) (E := WE W) he cl hm F hr hb .nil (fun σ => passAt tk σ) ha hst hpl ht) fun σ H Q h => by
  obtain ⟨F, st, A, rl, q⟩ := tE_iff.mp h
  exact meth_then (Want := WantE X.K ca W F H A σ Q) (S := fun vs H1 => spE X.K ca mf (vs ++ []) H1 Q (WE W σ)) hn rl q (fun z => z) (fun _ _ _ z => z) fun as st vs F1 H1 A1 B r rv nd s z => by rw [List.append_nil]; exact tailE r rv nd s z
theorem se_meth0 {pl : Sem Bool} (cl : Cls X.K (ca.a c)) (hn : ∀ ns, ca.ok c ns → m ∉ ns) (he : PE X o (tG X.K ca W g)) (hm : Meth X.K (ca.a c) m f) (F : FnOk X.prog X.w X.K X.mg X.base (L2.CX X.prog X.w) k f fd pn (spE X.K ca mf)) (hr : Room k X.A) (hb : Binds X.K fd pn []) (tk : Takes X W)
    (ht : eval (.Call (.Attribute o m apos) [] [] pos) X.env = (do
      let ov ← eval o X.env
      standAt apos.atName
      let (f, first) ← holding [ov] (getMethod ov m pl)
      callWith pos f first (backTo pos (starEach [] X.env)) (backToKw pos (keywordEach [] X.env))) := by rfl) :
    PE X (.Call (.Attribute o m apos) [] [] pos) (tE X.K ca W (eMeth c mf g [])) := PE.imp (pe_meth0S (dvs := []) (E := WE W) he cl hm F hr hb .nil (fun σ => passAt tk σ) ht) fun σ H Q h => by
  obtain ⟨F, st, A, rl, q⟩ := tE_iff.mp h
  exact meth_then (Want := WantE X.K ca W F H A σ Q) (S := fun vs H1 => spE X.K ca mf (vs ++ []) H1 Q (WE W σ)) hn rl q (fun z => z) (fun _ _ _ z => z) fun as st vs F1 H1 A1 B r rv nd s z => by rw [List.append_nil]; exact tailE r rv nd s z
theorem tE_mono {K : PySem.W.Frag} {mm : E} {σ : L2.St} {H : Hp} {Q Q' : VK} (h : tE K ca W mm σ H Q) (i : ∀ v H, Q v H → Q' v H) : tE K ca W mm σ H Q' := by
  obtain ⟨F, st, A, rl, q⟩ := h
  refine ⟨F, st, A, rl, ?_⟩
  cases z : mm st with
  | bad => rw [z] at q; exact q
  | exc c x s => rw [z] at q; exact q
  | ok d s => rw [z] at q; exact fun v F' H' A' r rp s => i _ _ (q v F' H' A' r rp s)
theorem tO_mono {K : PySem.W.Frag} {mm : E} {σ : L2.St} {H : Hp} {Q Q' : VK} (h : tO K ca W mm σ H Q) (i : ∀ v H, Q v H → Q' v H) : tO K ca W mm σ H Q' := by
  obtain ⟨F, st, A, rl, q⟩ := h
  refine ⟨F, st, A, rl, ?_⟩
  cases z : mm st with
  | bad => rw [z] at q; exact q
  | exc c x s => rw [z] at q; exact q
  | ok d s => rw [z] at q; exact fun v F' H' A' B r rp nd s => i _ _ (q v F' H' A' B r rp nd s)
theorem tG_mono {K : PySem.W.Frag} {g : Arg} {σ : L2.St} {H : Hp} {Q Q' : VK} (h : tG K ca W g σ H Q) (i : ∀ v H, Q v H → Q' v H) : tG K ca W g σ H Q' := by
  cases g with
  | e mm => exact tE_mono h i
  | t mm => exact tO_mono h i
  | mu j => obtain ⟨v, e, q⟩ := h; exact ⟨v, e, i _ _ q⟩
/-- o.f, a property -/
def eProp (c : Str) (mf : MF) (p : Arg) : E := eMeth c (noX mf) p []
theorem se_prop {pp gg : Addr} (cl : Cls X.K (ca.a c)) (hn : ∀ ns, ca.ok c ns → m ∉ ns) (he : PE X o (tG X.K ca W g)) (hp : PropOf X.K (ca.a c) m pp gg) (F : FnOk X.prog X.w X.K X.mg X.base (L2.CX X.prog X.w) k gg fd pn (spE X.K ca mf)) (hr : Room (k + 1) X.A) (hb : Binds X.K fd pn [])
    (hab : attributeBase o m X.env (eval o X.env) = eval o X.env := by rfl) : PE X (.Attribute o m pos) (tE X.K ca W (eProp c mf g)) :=
  PE.imp (pe_prop (dvs := []) (E := E0) he cl hp F hr hb .nil passL hab) fun σ H Q h => by
  obtain ⟨F, st, A, rl, q⟩ := tE_iff.mp h
  refine tG_mono (meth_then (Want := WantE X.K ca W F H A σ Q) (S := fun vs H1 => spE X.K ca (noX mf) vs H1 Q (WE W σ)) hn rl q (fun z => z) (fun _ _ _ z => z) fun as st vs F1 H1 A1 B r rv nd s z => tailE r rv nd s z) fun v H1 ⟨a, dx, fs, e, h1, _, q⟩ => ?_
  subst e
  exact ⟨a, dx, fs, rfl, h1, spE_noX q⟩
/-- C(..) -/
def tMakeS (C : Addr) (sp : Sp) (E : L2.St → XK) (t : TA) : TE := fun σ H Q => t σ H fun vs H1 => ∀ x dx, H1 x = none → H1 dx = none → dx ≠ x →
  sp (.ref x :: vs) (upd (upd H1 dx (.own x)) x (.ins C dx [])) (fun v H2 => v = .non ∧ Q (.ref x) H2) (E σ)
theorem run_makeS {C : Addr} {sp : Sp} {E : L2.St → XK} {pins : List (Addr × Obj)} {σ : L2.St} {H : Hp} {s : Shared} {Q : VK} {us : List Value} {vs : List V} (M : Mk X.K C f) (F : FnOk X.prog X.w X.K X.mg X.base (L2.CX X.prog X.w) k f fd pn sp) (hr : Room (k + 1) X.A) (hb : Binds X.K fd pn [])
    (hx : PassesAt (L2.CX X.prog X.w) X σ (E σ)) (I : Inv X pins σ H s) (r : Vals vs us)
    (h : ∀ x dx, H x = none → H dx = none → dx ≠ x → sp (.ref x :: vs) (upd (upd H dx (.own x)) x (.ins C dx [])) (fun v H2 => v = .non ∧ Q (.ref x) H2) (E σ)) :
    wpAny (model X.prog X.w) X.A (call (.ref C) us) (EP X pins σ Q) X.xe s := by
  have hq := h (s.heap.objs.size + 1) s.heap.objs.size (I.hok.fresh (Nat.le_succ _)) (I.hok.fresh (Nat.le_refl _)) (Nat.ne_of_lt (Nat.lt_succ_self _))
  have I2 := Inv.made (C := C) I
  have r2 : Vals (V.ref (s.heap.objs.size + 1) :: vs) (Value.ref (s.heap.objs.size + 1) :: us) := .cons rfl r
  have hl : (Value.ref (s.heap.objs.size + 1) :: us ++ []).length = pn.length := by
    have e := r2.length
    rw [F.len _ _ _ _ hq] at e
    rw [List.append_nil]
    exact e.symm
  have b := hb _ (Value.ref (s.heap.objs.size + 1) :: us) I2.kIn hl
  rw [List.append_nil] at b
  refine wpAny_call (make_map (f := f) I.kIn M.makes M.init (beq_iff_eq.mp M.fn) (codeAny_mono (F.run _ X.stack _ _ ⟨Value.ref (s.heap.objs.size + 1) :: us, []⟩ (Value.ref (s.heap.objs.size + 1) :: us) _ _ (E σ) (hr.make C us [])
    (I2.env0.make C us []) b r2 hq) fun r s' hq' => ?_))
  cases r with
  | error e => exact hx pins _ _ e s' I2 hq'
  | ok fl =>
    cases fl with
    | ret u =>
      obtain ⟨v, H', I3, rv, ev, q3⟩ := I2.after hq'
      subst ev
      exact ⟨rv, ⟨V.ref (s.heap.objs.size + 1), H', I3, rfl, q3⟩⟩
    | next => exact False.elim hq'
    | brk => exact False.elim hq'
    | cont => exact False.elim hq'
theorem pe_makeS {C : Addr} {sp : Sp} {E : L2.St → XK} {t : TA} (M : Mk X.K C f) (F : FnOk X.prog X.w X.K X.mg X.base (L2.CX X.prog X.w) k f fd pn sp) (hr : Room (k + 1) X.A) (hg : Gl X x) (hm : X.mg x = some (.ref C)) (hb : Binds X.K fd pn []) (hx : ∀ σ, PassesAt (L2.CX X.prog X.w) X σ (E σ))
    (ha : PA X (e :: es) t) (hdb : (x == ("__debug__" : Str)) = false := by decide) (he : starEach (e :: es) X.env = (false, eval e X.env) :: starEach es X.env := by rfl) (hpl : (backTo pos (starEach es X.env)).any (·.1) = false := by rfl) :
    PE X (.Call (.Name x p) (e :: es) [] pos) (tMakeS C sp E t) := by
  refine ⟨fun pins s σ H Q I h => ?_⟩
  refine wpAny_Call_Name_kw (ld_glob I hg hm ?_ hdb)
  refine PySem.W.callWith_K (h₀ := X.base) I.ok.mod.kin M.kp (thn (ha.run pos pins s σ H _ I h) fun us s1 ⟨vs, H1, I1, r, q⟩ => ⟨I1.kIn, ?_⟩) he hpl
  exact run_makeS M F hr hb (hx σ) I1 r q
theorem so_make (okc : ca.ok c []) (M : Mk X.K (ca.a c) f) (F : FnOk X.prog X.w X.K X.mg X.base (L2.CX X.prog X.w) k f fd pn (spE X.K ca mf)) (hr : Room (k + 1) X.A) (hg : Gl X x) (hm : X.mg x = some (.ref (ca.a c))) (hb : Binds X.K fd pn []) (tk : Takes X W)
    (ha : PA X (e :: es) (tGs X.K ca W ps)) (hdb : (x == ("__debug__" : Str)) = false := by decide) (he : starEach (e :: es) X.env = (false, eval e X.env) :: starEach es X.env := by rfl) (hpl : (backTo pos (starEach es X.env)).any (·.1) = false := by rfl) :
    PE X (.Call (.Name x p) (e :: es) [] pos) (tO X.K ca W (eMake c mf ps)) := PE.imp (pe_makeS (E := WE W) M F hr hg hm hb (fun σ => passAt tk σ) ha hdb he hpl) fun σ H Q h => make_then h okc
def eFld (f : Str) (p : Opd) : E := eOp (fun ds => match ds with
  | [.obj _ ns ds] => (match owf f with
    | false => lookF ns ds f
    | true => none)
  | _ => none) [p]
include cf in
theorem se_fld {fl : Str} {pd : Opd} (he : PE X o (tP X.K ca W pd)) (hb : attributeBase o fl X.env (eval o X.env) = eval o X.env := by rfl) (ok : opdsOk [pd] = true := by rfl) (of : opdsF [pd] = true := by rfl) :
    PE X (.Attribute o fl pos) (tE X.K ca W (eFld fl pd)) := PE.imp (pe_fld he hb) fun σ H Q h =>
  eOp_run (r := fun xs H Q => match xs with | [x] => ∃ a C dx fs v, x = .ref a ∧ H a = some (.ins C dx fs) ∧ Cls X.K C ∧ NoAttr X.K C fl ∧ fs.lookup fl = some v ∧ Q v H | _ => False) cf (fun F H ds d xs Q vw e q => by
    cases ds with
    | nil => cases e
    | cons d0 ds =>
      cases ds with
      | cons d1 ds => cases d0 <;> cases e
      | nil =>
        obtain ⟨v, r, rfl, w, e2⟩ := vw
        cases e2
        cases d0 with
        | obj c ns ds =>
          obtain ⟨a, dx, gs, rfl, okc, h1, _, e1, vws⟩ := w
          have e : (match owf fl with | false => lookF ns ds fl | true => none) = some d := e
          cases z : owf fl with
          | true => rw [z] at e; cases e
          | false =>
            rw [z] at e
            obtain ⟨x, l, _, rp, fm⟩ := vws.look e1 e
            exact ⟨a, _, dx, gs, x, rfl, h1, cf.cl c ns okc, cf.na c ns okc fl fm, l, q x F H .refl (rp z)⟩
        | _ => cases e) ok of h
end
end Ev
namespace Ev
open PySem PySem.Spec PyProof.Rows L2
/-- the slots at P are as they were -/
def Pin (P : List Nat) (σ σ' : L2.St) : Prop := σ'.length = σ.length ∧ ∀ i ∈ P, σ'[i]? = σ[i]?
theorem Pin.refl {P : List Nat} {σ : L2.St} : Pin P σ σ := ⟨rfl, fun _ _ => rfl⟩
theorem Pin.trans {P : List Nat} {σ σ' σ'' : L2.St} (h : Pin P σ σ') (g : Pin P σ' σ'') : Pin P σ σ'' := ⟨g.1.trans h.1, fun i m => (g.2 i m).trans (h.2 i m)⟩
theorem Pin.set {P : List Nat} {σ : L2.St} {i : Nat} {x : Option V} (h : P.contains i = false) : Pin P σ (σ.set i x) := ⟨by rw [List.length_set], fun j m => by
  have ne : i ≠ j := fun e => by subst e; rw [List.contains_iff_mem.mpr m] at h; cases h
  rw [List.getElem?_set_ne ne]⟩
section
variable (K : PySem.W.Frag) (ca : Ca) (P : List Nat) (ro : Bool) (W : WX)
def WantS (F : Addr → Prop) (H : Hp) (A : List Addr) (σ : L2.St) (Z : Ends) : R Fl → Prop
  | .ok .nx st' => ∀ σ' F' H' A', Rl K ca F' H' st' σ' A' → Step F H A F' H' A' → Pin P σ σ' → Z.nx σ' H'
  | .ok .bk st' => ∀ σ' F' H' A', Rl K ca F' H' st' σ' A' → Step F H A F' H' A' → Pin P σ σ' → Z.bk σ' H'
  | .ok .ct st' => ∀ σ' F' H' A', Rl K ca F' H' st' σ' A' → Step F H A F' H' A' → Pin P σ σ' → Z.ct σ' H'
  | .ok (.rt d) st' => (match ro with
    | false => ∀ v σ' F' H' A', Rl K ca F' H' st' σ' A' → Rep K ca F' H' d v → Step F H A F' H' A' → Pin P σ σ' → Z.rt v H'
    | true => ∀ v σ' F' H' A' B, Rl K ca F' H' st' σ' A' → Own K ca F' H' d v B → (B ++ A').Nodup → Step F H A F' H' (B ++ A') → Pin P σ σ' → Z.rt v H')
  | .exc c x st' => ∀ cls oe σ' F' H' A', Rl K ca F' H' st' σ' A' → ExcIs K ca F' H' c x cls oe → Step F H A F' H' A' → Pin P σ σ' → W cls oe σ' H'
  | .bad => False
def tS (s : S) : TS := fun Z σ H => ∃ F st A, Rl K ca F H st σ A ∧ WantS K ca P ro W F H A σ Z (s st)
end
def sNil : S := fun st => .ok .nx st
def sSeq (a b : S) : S := fun st => (a st).bind fun f st => match f with
  | .nx => b st
  | f => .ok f st
def sDrop (m : E) : S := fun st => (m st).bind fun _ st => .ok .nx st
def sRet (m : E) : S := fun st => (m st).bind fun d st => .ok (.rt d) st
def sRetN : S := fun st => .ok (.rt .non) st
def sBreak : S := fun st => .ok .bk st
def sCont : S := fun st => .ok .ct st
def sIf (c : B') (a b : S) : S := fun st => (c st).bind fun k st => match k with
  | true => a st
  | false => b st
/-- a slot stored -/
def setC (i : Nat) (c : Cell) (st : Sl) : R Fl := match st[i]? with
  | some _ => .ok .nx (st.set i c)
  | none => .bad
def sSet (i : Nat) (m : E) : S := fun st => (m st).bind fun d st => setC i (.f d) st
def sSetO (i : Nat) (m : E) : S := fun st => (m st).bind fun d st => setC i (.o d) st
section
variable {K : PySem.W.Frag} {ca : Ca} {P : List Nat} {ro : Bool} {W : WX} {F F1 : Addr → Prop} {H H1 : Hp} {A A1 : List Addr} {σ σ1 : L2.St} {Z : Ends}
theorem WantS.step {r : R Fl} (h : WantS K ca P ro W F H A σ Z r) (s : Step F H A F1 H1 A1) (p : Pin P σ σ1) : WantS K ca P ro W F1 H1 A1 σ1 Z r := by
  cases r with
  | bad => exact h
  | exc c x st => exact fun cls oe σ' F' H' A' r xi s2 p2 => h cls oe σ' F' H' A' r xi (s.trans s2) (p.trans p2)
  | ok f st =>
    cases f with
    | nx => exact fun σ' F' H' A' r s2 p2 => h σ' F' H' A' r (s.trans s2) (p.trans p2)
    | bk => exact fun σ' F' H' A' r s2 p2 => h σ' F' H' A' r (s.trans s2) (p.trans p2)
    | ct => exact fun σ' F' H' A' r s2 p2 => h σ' F' H' A' r (s.trans s2) (p.trans p2)
    | rt d =>
      cases ro with
      | false => exact fun v σ' F' H' A' r rp s2 p2 => h v σ' F' H' A' r rp (s.trans s2) (p.trans p2)
      | true => exact fun v σ' F' H' A' B r rp nd s2 p2 => h v σ' F' H' A' B r rp nd (s.trans s2) (p.trans p2)
theorem WantS.nx {st : Sl} (h : WantS K ca P ro W F H A σ Z (.ok .nx st)) (rl : Rl K ca F H st σ A) : Z.nx σ H := h σ F H A rl .refl .refl
/-- an expression ahead of a statement's rest -/
theorem tS_e {m : E} {k : D → S} {Q : VK} (h : ∃ F st A, Rl K ca F H st σ A ∧ WantS K ca P ro W F H A σ Z ((m st).bind fun d st => k d st))
    (q : ∀ d v F H st A, Rl K ca F H st σ A → Rep K ca F H d v → WantS K ca P ro W F H A σ Z (k d st) → Q v H) : tE K ca W m σ H Q := by
  obtain ⟨F, st, A, rl, h⟩ := h
  refine ⟨F, st, A, rl, ?_⟩
  cases z : m st with
  | bad => rw [z] at h; exact h
  | exc c x s => rw [z] at h; exact fun cls oe F' H' A' r xi s2 => h cls oe σ F' H' A' r xi s2 .refl
  | ok d st1 =>
    rw [z] at h
    exact fun v F' H' A' r rp s2 => q d v F' H' st1 A' r rp (h.step s2 .refl)
theorem tS_o {m : E} {k : D → S} {Q : VK} (h : ∃ F st A, Rl K ca F H st σ A ∧ WantS K ca P ro W F H A σ Z ((m st).bind fun d st => k d st))
    (q : ∀ d v F H st A B F0 H0 A0, Rl K ca F H st σ A → Own K ca F H d v B → (B ++ A).Nodup → Step F0 H0 A0 F H (B ++ A) → WantS K ca P ro W F0 H0 A0 σ Z (k d st) → Q v H) : tO K ca W m σ H Q := by
  obtain ⟨F, st, A, rl, h⟩ := h
  refine ⟨F, st, A, rl, ?_⟩
  cases z : m st with
  | bad => rw [z] at h; exact h
  | exc c x s => rw [z] at h; exact fun cls oe F' H' A' r xi s2 => h cls oe σ F' H' A' r xi s2 .refl
  | ok d st1 =>
    rw [z] at h
    exact fun v F' H' A' B r rp nd s2 => q d v F' H' st1 A' B F H A r rp nd s2 h
theorem tS_t {m : B'} {k : Bool → S} {Q : Bool → Hp → Prop} (h : ∃ F st A, Rl K ca F H st σ A ∧ WantS K ca P ro W F H A σ Z ((m st).bind fun d st => k d st))
    (q : ∀ b F H st A, Rl K ca F H st σ A → WantS K ca P ro W F H A σ Z (k b st) → Q b H) : tT K ca W m σ H Q := by
  obtain ⟨F, st, A, rl, h⟩ := h
  refine ⟨F, st, A, rl, ?_⟩
  cases z : m st with
  | bad => rw [z] at h; exact h
  | exc c x s => rw [z] at h; exact fun cls oe F' H' A' r xi s2 => h cls oe σ F' H' A' r xi s2 .refl
  | ok d st1 =>
    rw [z] at h
    exact fun F' H' A' r s2 => q d F' H' st1 A' r (h.step s2 .refl)
/-- a slot stored: frozen data -/
theorem setC_f {i : Nat} {d : D} {v : V} {st : Sl} (rl : Rl K ca F H st σ A) (rp : Rep K ca F H d v) (h : WantS K ca P ro W F H A σ Z (setC i (.f d) st)) (hp : P.contains i = false) : Z.nx (σ.set i (some v)) H := by
  unfold setC at h
  cases z : st[i]? with
  | none => rw [z] at h; exact h.elim
  | some c =>
    rw [z] at h
    obtain ⟨C, sub, r⟩ := rl.asg (i := i) (c := .f d) (v := v) (B := []) (List.getElem?_eq_some_iff.mp z).1 ⟨rfl, v, rfl, rp⟩ rl.nd
    exact h _ F H C r ⟨fun _ z => z, fun _ _ e _ => e, fun _ o e => ⟨o, e⟩, fun _ z => .inl z, fun a m => .inl (sub a m)⟩ (Pin.set hp)
theorem setC_o {i : Nat} {d : D} {v : V} {st : Sl} {B : List Addr} {F0 : Addr → Prop} {H0 : Hp} {A0 : List Addr} (rl : Rl K ca F H st σ A) (ow : Own K ca F H d v B) (nd : (B ++ A).Nodup) (s : Step F0 H0 A0 F H (B ++ A))
    (h : WantS K ca P ro W F0 H0 A0 σ Z (setC i (.o d) st)) (hp : P.contains i = false) : Z.nx (σ.set i (some v)) H := by
  unfold setC at h
  cases z : st[i]? with
  | none => rw [z] at h; exact h.elim
  | some c =>
    rw [z] at h
    obtain ⟨C, sub, r⟩ := rl.asg (i := i) (c := .o d) (v := v) (B := B) (List.getElem?_eq_some_iff.mp z).1 ⟨v, rfl, ow⟩ nd
    refine h _ F H (B ++ C) r ⟨s.fm, s.keep, s.dom, s.fnew, fun a m => ?_⟩ (Pin.set hp)
    rcases List.mem_append.mp m with m | m
    · exact s.anew a (List.mem_append_left _ m)
    · exact s.anew a (List.mem_append_right _ (sub a m))
end
section
variable {X : Cx} {ca : Ca} {P : List Nat} {ro : Bool} {W : WX} {e c : Expr} {st st' : Stmt} {rest : List Stmt} {as bs : List Stmt} {pos pos' : Pos} {m : E} {a b : S}
theorem ss_nil : PSs X [] (tS X.K ca P ro W sNil) := PSs.imp pss_nil fun Z σ H ⟨F, st, A, rl, h⟩ => h.nx rl
theorem ss_one (h : PS X st (tS X.K ca P ro W a)) : PSs X [st] (tS X.K ca P ro W a) := pss_one h
theorem ss_cons (h : PS X st (tS X.K ca P ro W a)) (h2 : PSs X rest (tS X.K ca P ro W b)) : PSs X (st :: rest) (tS X.K ca P ro W (sSeq a b)) := PSs.imp (pss_cons h h2) fun Z σ H ⟨F, st, A, rl, h⟩ => by
  refine ⟨F, st, A, rl, ?_⟩
  unfold sSeq at h
  cases z : a st with
  | bad => rw [z] at h; exact h
  | exc c x s => rw [z] at h; exact h
  | ok f st1 =>
    rw [z] at h
    cases f with
    | nx => exact fun σ' F' H' A' r s p => ⟨F', st1, A', r, WantS.step (r := b st1) h s p⟩
    | bk => exact h
    | ct => exact h
    | rt d => exact h
theorem ss_pass : PS X (.Pass pos) (tS X.K ca P ro W sNil) := PS.imp ps_pass fun Z σ H ⟨F, st, A, rl, h⟩ => h.nx rl
theorem ss_doc {x : Str} {j : Nat} : PS X (.Expr (.Constant (.str x) j pos) pos') (tS X.K ca P ro W sNil) := PS.imp ps_doc fun Z σ H ⟨F, st, A, rl, h⟩ => h.nx rl
theorem ss_break : PS X (.Break pos) (tS X.K ca P ro W sBreak) := PS.imp ps_break fun Z σ H ⟨F, st, A, rl, h⟩ => h σ F H A rl .refl .refl
theorem ss_cont : PS X (.Continue pos) (tS X.K ca P ro W sCont) := PS.imp ps_continue fun Z σ H ⟨F, st, A, rl, h⟩ => h σ F H A rl .refl .refl
theorem ss_drop (h : PE X e (tE X.K ca W m)) (hs : swapsWith e none pos.line X.env = pure false := by rfl) : PS X (.Expr e pos) (tS X.K ca P ro W (sDrop m)) := PS.imp (ps_expr h hs) fun Z σ H h =>
  tS_e (k := fun _ st => .ok .nx st) h fun d v F H st A r rp h => h.nx r
theorem ss_ret (h : PE X e (tE X.K ca W m)) : PS X (.Return (some e) pos) (tS X.K ca P false W (sRet m)) := PS.imp (ps_ret h) fun Z σ H h =>
  tS_e (k := fun d st => .ok (.rt d) st) h fun d v F H st A r rp h => h v σ F H A r rp .refl .refl
theorem ss_retO (h : PE X e (tO X.K ca W m)) : PS X (.Return (some e) pos) (tS X.K ca P true W (sRet m)) := PS.imp (ps_ret h) fun Z σ H h =>
  tS_o (k := fun d st => .ok (.rt d) st) h fun d v F H st A B F0 H0 A0 r ow nd s h => h v σ F H A B r ow nd s .refl
theorem ss_retN : PS X (.Return none pos) (tS X.K ca P false W sRetN) := PS.imp ps_retN fun Z σ H ⟨F, st, A, rl, h⟩ => h .non σ F H A rl (by unfold Rep; rfl) .refl .refl
theorem ss_if {k : B'} (hc : PT X c (tT X.K ca W k)) (ha : PSs X as (tS X.K ca P ro W a)) (hb : PSs X bs (tS X.K ca P ro W b)) : PS X (.If c as bs pos) (tS X.K ca P ro W (sIf k a b)) := PS.imp (ps_if hc ha hb) fun Z σ H h =>
  tS_t (k := fun k st => match k with | true => a st | false => b st) h fun k F H st A r h => by
    cases k with
    | true => exact ⟨F, st, A, r, h⟩
    | false => exact ⟨F, st, A, r, h⟩
theorem ss_set {i : Nat} {x : Str} (hN : X.N.Nodup) (hi : X.N[i]? = some x) (hx : Loc X.env.scope x) (h : PE X e (tE X.K ca W m)) (hp : P.contains i = false := by rfl) (hs : swapsWith e (some (.Name x pos')) pos.line X.env = pure false := by rfl)
    (hf : X.fn x = true ∨ X.env.scope.names.lookup x = some .local := by first | exact .inl rfl | exact .inr rfl | assumption) : PS X (.Assign [.Name x pos'] e pos) (tS X.K ca P ro W (sSet i m)) :=
  PS.imp (ps_set hN hi hx h hs hf) fun Z σ H h => tS_e (k := fun d st => setC i (.f d) st) h fun d v F H st A r rp h => setC_f r rp h hp
theorem ss_setO {i : Nat} {x : Str} (hN : X.N.Nodup) (hi : X.N[i]? = some x) (hx : Loc X.env.scope x) (h : PE X e (tO X.K ca W m)) (hp : P.contains i = false := by rfl) (hs : swapsWith e (some (.Name x pos')) pos.line X.env = pure false := by rfl)
    (hf : X.fn x = true ∨ X.env.scope.names.lookup x = some .local := by first | exact .inl rfl | exact .inr rfl | assumption) : PS X (.Assign [.Name x pos'] e pos) (tS X.K ca P ro W (sSetO i m)) :=
  PS.imp (ps_set hN hi hx h hs hf) fun Z σ H h => tS_o (k := fun d st => setC i (.o d) st) h fun d v F H st A B F0 H0 A0 r ow nd s h => setC_o r ow nd s h hp
end
end Ev
namespace Ev
open PySem PySem.Spec PyProof.Rows L2
abbrev Tg := D → Sl → Option Sl
def tgN (i : Nat) : Tg := fun d st => match st[i]? with
  | some _ => some (st.set i (.f d))
  | none => none
def tgs : List Tg → List D → Sl → Option Sl
  | [], [], st => some st
  | g :: gs, d :: ds, st => (g d st).bind fun st => tgs gs ds st
  | _, _, _ => none
def tgT (gs : List Tg) : Tg := fun d st => match d with
  | .tup ds => tgs gs ds st
  | .lst ds => tgs gs ds st
  | _ => none
/-- o.f of the object of slot i -/
def putN (f : Str) : List Str → List Str
  | [] => [f]
  | n :: ns => if n = f then n :: ns else n :: putN f ns
def putD (f : Str) (d : D) : List Str → List D → List D
  | n :: ns, e :: ds => if n = f then d :: ds else e :: putD f d ns ds
  | [], ds => ds ++ [d]
  | _ :: _, [] => []
def setFld (i : Nat) (f : Str) (d : D) (st : Sl) : Option Sl := match st[i]? with
  | some (.o (.obj c ns ds)) => (match decide (ns.length < 1000), owf f with
    | true, false => some (st.set i (.o (.obj c (putN f ns) (putD f d ns ds))))
    | _, _ => none)
  | _ => none
def tgF (i : Nat) (f : Str) : Tg := fun d st => setFld i f d st
section
variable (K : PySem.W.Frag) (ca : Ca) (P : List Nat)
/-- a target's reading: by what it makes of the slots -/
def tT' (g : Tg) : TG := fun v σ H Q => ∃ F st A d st', Rl K ca F H st σ A ∧ Rep K ca F H d v ∧ g d st = some st' ∧ ∀ σ' F' H' A', Rl K ca F' H' st' σ' A' → Step F H A F' H' A' → Pin P σ σ' → Q σ' H'
def tTs' (gs : List Tg) : TGs := fun vs σ H Q => ∃ F st A ds st', Rl K ca F H st σ A ∧ Reps K ca F H ds vs ∧ tgs gs ds st = some st' ∧ ∀ σ' F' H' A', Rl K ca F' H' st' σ' A' → Step F H A F' H' A' → Pin P σ σ' → Q σ' H'
end
theorem Step.sub {F : Addr → Prop} {H : Hp} {A C : List Addr} (sub : ∀ a ∈ C, a ∈ A) : Step F H A F H C := ⟨fun _ z => z, fun _ _ e _ => e, fun _ o e => ⟨o, e⟩, fun _ z => .inl z, fun a m => .inl (sub a m)⟩
theorem PGs.imp {X : Cx} {e : List Expr} {t t' : TGs} (h : PGs X e t) (i : ∀ v σ H Q, t' v σ H Q → t v σ H Q) : PGs X e t' := ⟨fun pins s σ H v u Q I r q => h.run pins s σ H v u Q I r (i v σ H Q q)⟩
theorem PG.or {X : Cx} {e : Expr} {t t' : TG} (h : PG X e t) (h' : PG X e t') : PG X e (fun v σ H Q => t v σ H Q ∨ t' v σ H Q) := ⟨fun pins s σ H v u Q I r q => q.elim (fun q => h.run pins s σ H v u Q I r q) fun q => h'.run pins s σ H v u Q I r q⟩
/-- a field stored: the object's own part -/
theorem RepIs.put {K : PySem.W.Frag} {ca : Ca} {F : Addr → Prop} {H : Hp} {f : Str} {d : D} {v : V} (hf : owf f = false) (rp : Rep K ca F H d v) : ∀ {ns : List Str} {ds : List D} {gs : List (Str × V)} {B : List Addr}, gs.map (·.1) = ns → RepIs K ca F H ns ds (gs.map (·.2)) B →
    (putF f v gs).map (·.1) = putN f ns ∧ RepIs K ca F H (putN f ns) (putD f d ns ds) ((putF f v gs).map (·.2)) B
  | [], ds, gs, B, e, h => by
    cases gs with
    | cons g gs => cases e
    | nil =>
      obtain ⟨rfl, _, rfl⟩ := h
      exact ⟨rfl, d, [], v, [], [], [], rfl, rfl, rfl, by rw [hf]; exact ⟨rfl, rp⟩, rfl, rfl, rfl⟩
  | n :: ns, ds, gs, B, e, h => by
    cases gs with
    | nil => cases e
    | cons g gs =>
      obtain ⟨g1, g2⟩ := g
      simp only [List.map_cons, List.cons.injEq] at e
      obtain ⟨rfl, e⟩ := e
      obtain ⟨d0, dr, v0, vr, B1, C, rfl, e2, rfl, h1, h2⟩ := h
      simp only [List.map_cons, List.cons.injEq] at e2
      obtain ⟨rfl, rfl⟩ := e2
      unfold putF putN putD
      by_cases q : g1 = f
      · rw [if_pos q, if_pos q, if_pos q]
        subst q
        rw [hf] at h1
        obtain ⟨rfl, _⟩ := h1
        exact ⟨by rw [List.map_cons, e], d, dr, v, _, [], C, rfl, rfl, rfl, by rw [hf]; exact ⟨rfl, rp⟩, h2⟩
      · rw [if_neg q, if_neg q, if_neg q]
        obtain ⟨e3, h3⟩ := RepIs.put hf rp e h2
        exact ⟨by rw [List.map_cons, e3], d0, _, g2, _, B1, C, rfl, rfl, rfl, h1, h3⟩
/-- a slot's own object changed in place -/
theorem Rl.mutate {K : PySem.W.Frag} {ca : Ca} {F : Addr → Prop} {H H' : Hp} {st : Sl} {σ : L2.St} {A : List Addr} {i : Nat} {d d' : D} {v : V} (rl : Rl K ca F H st σ A) (z : st[i]? = some (.o d)) (ev : σ[i]? = some (some v))
    (h : ∀ B, B.Nodup → Own K ca F H d v B → (∀ x o, x ∉ B → H x = some o → H' x = some o) → (∀ x o, H x = some o → ∃ o', H' x = some o') → Own K ca F H' d' v B)
    (k : ∀ B, Own K ca F H d v B → (∀ x o, x ∉ B → H x = some o → H' x = some o) ∧ (∀ x o, H x = some o → ∃ o', H' x = some o')) : Rl K ca F H' (st.set i (.o d')) σ A ∧ Step F H A F H' A := by
  obtain ⟨x, B, C, e1, ⟨v', e2, ow⟩, rl2, p⟩ := rl.take z
  rw [ev] at e1
  cases e1
  cases e2
  obtain ⟨k1, k2⟩ := k B ow
  have nd := p.nodup_iff.mp rl.nd
  have dj : ∀ x ∈ C, x ∉ B := fun x m m' => (List.nodup_append.mp nd).2.2 x m' x m rfl
  have hi : i < st.length := (List.getElem?_eq_some_iff.mp z).1
  have kF : ∀ a o, F a → H a = some o → H' a = some o := fun a o f e => k1 a o (fun m => (ow.nf a m).1 f) e
  have rl3 : Rl K ca F H' (st.set i .n) σ C := by
    obtain ⟨B2, q, e⟩ := rl2.rep
    refine ⟨⟨B2, q.stay (fun _ z => z) kF (fun a m o e' => k1 a o (dj a (e.mem_iff.mp m)) e') (fun a m => (rl2.nf a (e.mem_iff.mp m)).1), e⟩, rl2.nd, fun a m => ?_, fun a m => ⟨(rl2.nf a m).1, ?_⟩⟩
    · obtain ⟨o, e⟩ := rl2.fd a m; exact k2 a o e
    · obtain ⟨o, e⟩ := (rl2.nf a m).2; exact k2 a o e
  have rl4 := rl3.put (c := .o d') (x := some v) (B := B) (by simp [hi]) ev ⟨v, rfl, h B (List.nodup_append.mp nd).1 ow k1 k2⟩ nd
  rw [List.set_set] at rl4
  refine ⟨rl4.perm p.symm, ⟨fun _ z => z, fun a o e n => k1 a o (fun m => n (p.mem_iff.mpr (List.mem_append_left _ m))) e, k2, fun _ z => .inl z, fun a m => .inl m⟩⟩
theorem upd_mut {H : Hp} {a : Addr} {o u : HO} (h : H a = some u) : (∀ x w, x ≠ a → H x = some w → upd H a o x = some w) ∧ ∀ x w, H x = some w → ∃ w', upd H a o x = some w' :=
  ⟨fun x w n e => by rw [upd_ne n]; exact e, fun x w e => by
    by_cases q : x = a
    · subst q; exact ⟨o, upd_same⟩
    · exact ⟨w, by rw [upd_ne q]; exact e⟩⟩
section
variable {X : Cx} {ca : Ca} {P : List Nat} {ro : Bool} {W : WX} {e o : Expr} {es : List Expr} {pos pos' : Pos} {m : E} {g : Tg} {gs : List Tg} {i : Nat} {x f : Str}
theorem sg_name (hN : X.N.Nodup) (hi : X.N[i]? = some x) (hx : Loc X.env.scope x) (hp : P.contains i = false := by rfl) (hf : X.fn x = true ∨ X.env.scope.names.lookup x = some .local := by first | exact .inl rfl | exact .inr rfl | assumption) : PG X (.Name x pos) (tT' X.K ca P (tgN i)) :=
  PG.imp (pg_name hN hi hx hf) fun v σ H Q ⟨F, st, A, d, st', rl, rp, e, q⟩ => by
    unfold tgN at e
    cases z : st[i]? with
    | none => rw [z] at e; cases e
    | some c =>
      rw [z] at e
      cases e
      obtain ⟨C, sub, r⟩ := rl.asg (i := i) (c := .f d) (v := v) (B := []) (List.getElem?_eq_some_iff.mp z).1 ⟨rfl, v, rfl, rp⟩ rl.nd
      exact q _ F H C r (Step.sub sub) (Pin.set hp)
theorem sgs_nil : PGs X [] (tTs' X.K ca P []) := PGs.imp pgs_nil fun vs σ H Q ⟨F, st, A, ds, st', rl, rp, e, q⟩ => by
  cases ds with
  | cons d ds => cases e
  | nil =>
    cases e
    unfold Reps at rp
    exact ⟨rp, q σ F H A rl .refl .refl⟩
theorem sgs_cons (h : PG X e (tT' X.K ca P g)) (t : PGs X es (tTs' X.K ca P gs)) (hs : (assignEach (e :: es) X.env).map (·.2) = assign e X.env :: (assignEach es X.env).map (·.2) := by rfl) : PGs X (e :: es) (tTs' X.K ca P (g :: gs)) :=
  PGs.imp (pgs_cons h t hs) fun vs σ H Q ⟨F, st, A, ds, st', rl, rp, e, q⟩ => by
    cases ds with
    | nil => cases e
    | cons d ds =>
      obtain ⟨v, r, rfl, r1, r2⟩ := rp.inv
      obtain ⟨st1, e1, e2⟩ := Option.bind_eq_some_iff.mp (show (g d st).bind (fun st => tgs gs ds st) = some st' from e)
      exact ⟨v, r, rfl, F, st, A, d, st1, rl, r1, e1, fun σ1 F1 H1 A1 rl1 s1 p1 => ⟨F1, st1, A1, ds, st', rl1, r2.step s1 rl, e2, fun σ' F' H' A' rl' s p => q σ' F' H' A' rl' (s1.trans s) (p1.trans p)⟩⟩
theorem sg_tup (hc : X.calm = true) {k : Nat} (h : PGs X es (tTs' X.K ca P gs)) (hn : (assignEach es X.env).length = gs.length := by rfl) (hst : (assignEach es X.env).findIdx? (·.1) = none := by rfl) : PG X (.Tuple es k pos) (tT' X.K ca P (tgT gs)) :=
  PG.imp (PG.or (pg_tup hc h hn hst) (pg_lst hc h hn hst)) fun v σ H Q ⟨F, st, A, d, st', rl, rp, e, q⟩ => by
    have len : ∀ {gs : List Tg} {ds : List D} {st st' : Sl}, tgs gs ds st = some st' → ds.length = gs.length := by
      intro gs
      induction gs with
      | nil => intro ds st st' e; cases ds with | nil => rfl | cons _ _ => cases e
      | cons g gs ih =>
        intro ds st st' e
        cases ds with
        | nil => cases e
        | cons d ds =>
          obtain ⟨st1, _, e2⟩ := Option.bind_eq_some_iff.mp (show (g d st).bind (fun st => tgs gs ds st) = some st' from e)
          rw [List.length_cons, List.length_cons, ih e2]
    cases d with
    | tup ds =>
      unfold Rep at rp
      obtain ⟨a, vs, rfl, h1, r⟩ := rp
      exact .inl ⟨a, vs, rfl, h1.sq, by rw [r.length]; exact len e, F, st, A, ds, st', rl, r, e, q⟩
    | lst ds =>
      unfold Rep at rp
      obtain ⟨a, vs, rfl, h1, r⟩ := rp
      exact .inr ⟨a, vs, rfl, h1.sq, by rw [r.length]; exact len e, F, st, A, ds, st', rl, r, e, q⟩
    | _ => cases e
/-- target = e, e frozen -/
def sAsg (m : E) (g : Tg) : S := fun st => (m st).bind fun d st => match g d st with
  | some st => .ok .nx st
  | none => .bad
theorem ss_asg {tg : Expr} (he : PE X e (tE X.K ca W m)) (hg : PG X tg (tT' X.K ca P g)) (hs : swapsWithSole [tg] e pos.line X.env = pure false := by rfl) (hw : swappedStores [tg] e X.env = pure none := by rfl)
    (h1 : (assignEach [tg] X.env).map (·.2) = [assign tg X.env] := by rfl) : PS X (.Assign [tg] e pos) (tS X.K ca P ro W (sAsg m g)) := PS.imp (ps_asg he hg hs hw h1) fun Z σ H h =>
  tS_e (k := fun d st => match g d st with | some st => .ok .nx st | none => .bad) h fun d v F H st A r rp h => by
    cases z : g d st with
    | none => simp only [z] at h; exact h.elim
    | some st' =>
      simp only [z] at h
      exact ⟨F, st, A, d, st', r, rp, z, fun σ' F' H' A' rl' s p => h σ' F' H' A' rl' s p⟩
variable (cf : Cf X.K ca) (hok : ∀ c ns, ca.ok c ns → ca.ok c (putN f ns))
include cf hok in
/-- what a store to a field does -/
theorem fld_step {F : Addr → Prop} {H : Hp} {st st' : Sl} {σ : L2.St} {A : List Addr} {d : D} {v : V} (rl : Rl X.K ca F H st σ A) (rp : Rep X.K ca F H d v) (e : setFld i f d st = some st') :
    ∃ a dx gs c, σ[i]? = some (some (.ref a)) ∧ H a = some (.ins (ca.a c) dx gs) ∧ Cls X.K (ca.a c) ∧ NoAttr X.K (ca.a c) f ∧ gs.length < 1000 ∧ Rl X.K ca F (upd H a (.ins (ca.a c) dx (putF f v gs))) st' σ A ∧ Step F H A F (upd H a (.ins (ca.a c) dx (putF f v gs))) A := by
  unfold setFld at e
  cases z : st[i]? with
  | none => rw [z] at e; cases e
  | some c0 =>
    rw [z] at e
    cases c0 with
    | n => cases e
    | f _ => cases e
    | o d0 =>
      cases d0 with
      | obj c ns ds =>
        cases zl : decide (ns.length < 1000) with
        | false => simp only [zl] at e; cases e
        | true =>
          cases zo : owf f with
          | true => simp only [zl, zo] at e; cases e
          | false =>
            simp only [zl, zo] at e
            cases e
            obtain ⟨x, B, C, e1, ⟨v0, rfl, ow⟩, _, _⟩ := rl.take z
            obtain ⟨a, dx, gs, B0, rfl, okc, e2, n1, n2, h1, h2, e3, r⟩ := id ow
            have hf : f ∈ putN f ns := by
              clear zl ow e3 r okc z
              induction ns with
              | nil => exact List.mem_cons_self
              | cons n ns ih =>
                unfold putN
                by_cases q : n = f
                · rw [if_pos q, q]; exact List.mem_cons_self
                · rw [if_neg q]; exact List.mem_cons_of_mem _ ih
            have hl : gs.length < 1000 := by
              have : gs.length = ns.length := by rw [← e3, List.length_map]
              rw [this]
              exact of_decide_eq_true zl
            obtain ⟨u1, u2⟩ := upd_mut (o := .ins (ca.a c) dx (putF f v gs)) h1
            have key := rl.mutate (H' := upd H a (.ins (ca.a c) dx (putF f v gs))) (d' := .obj c (putN f ns) (putD f d ns ds)) z e1 (fun B' nda ow' k1 k2 => by
              obtain ⟨a', dx', gs', B0', e4, okc', rfl, n1', n2', h1', h2', e3', r'⟩ := ow'
              cases e4
              rw [h1] at h1'
              cases h1'
              have rp' : Rep X.K ca F (upd H a (.ins (ca.a c) dx (putF f v gs))) d v := Rep.mono (fun _ z => z) (fun b o fb eb => by
                have ne : b ≠ a := fun q => n1 (q ▸ fb)
                exact u1 b o ne eb) d v rp
              have r2 : RepIs X.K ca F (upd H a (.ins (ca.a c) dx (putF f v gs))) ns ds (gs.map (·.2)) B0' := r'.stay (fun _ z => z) (fun b o fb eb => u1 b o (fun q => n1 (q ▸ fb)) eb) (fun b mb o eb => u1 b o (fun q => (List.nodup_cons.mp nda).1 (q ▸ List.mem_cons_of_mem _ mb)) eb) (fun b mb => (r'.nf b mb).1)
              obtain ⟨e7, r3⟩ := RepIs.put zo rp' e3 r2
              exact ⟨a, dx, _, B0', rfl, hok c ns okc, rfl, n1', n2', upd_same, by rw [upd_ne (ne_of h2 h1 (fun q => by cases q))]; exact h2, e7, r3⟩) (fun B' ow' => by
              obtain ⟨a', dx', gs', B0', e4, okc', rfl, n1', n2', h1', h2', e3', r'⟩ := ow'
              cases e4
              exact ⟨fun y w ny ey => u1 y w (fun q => ny (q ▸ List.mem_cons_self)) ey, u2⟩)
            exact ⟨a, dx, gs, c, e1, h1, cf.cl c ns okc, cf.na c _ (hok c ns okc) f hf, hl, key.1, key.2⟩
      | _ => cases e
include cf hok in
theorem ss_fld (ho : PE X o (tVar i)) (hv : PE X e (tE X.K ca W m)) (hs : swapsWith e (some (.Attribute o f pos')) pos.line X.env = pure false := by rfl) : PS X (.Assign [.Attribute o f pos'] e pos) (tS X.K ca P ro W (sAsg m (tgF i f))) :=
  PS.imp (ps_fld ho hv hs) fun Z σ H h => tS_e (k := fun d st => match tgF i f d st with | some st => .ok .nx st | none => .bad) h fun d v F H st A r rp h => by
    cases z : tgF i f d st with
    | none => simp only [z] at h; exact h.elim
    | some st' =>
      simp only [z] at h
      obtain ⟨a, dx, gs, c, e1, h1, cl, na, l, rl2, s⟩ := fld_step cf hok r rp z
      exact ⟨_, e1, a, _, dx, gs, rfl, h1, cl, na, l, h σ F _ A rl2 s .refl⟩
/-- a field as a target -/
theorem pg_fldR {ta : TE} (ha : PE X o ta) : PG X (.Attribute o f pos) (fun v σ H Q => ta σ H fun x H2 => ∃ a C dx fs, x = .ref a ∧ H2 a = some (.ins C dx fs) ∧ Cls X.K C ∧ NoAttr X.K C f ∧ fs.length < 1000 ∧ Q σ (upd H2 a (.ins C dx (putF f v fs)))) := by
  refine ⟨fun pins s σ H v u Q I r h => ?_⟩
  show wpAny _ _ (do
    let ov ← holding [u] (eval o X.env)
    standAt pos.atName
    holding [u, ov] (setAttr ov f u)
    release [u, ov] []) _ _ _
  refine wpAny_bind (wpAny_holding (thn (ha.run pins s σ H _ I h) fun ov s1 ⟨x, H1, I1, rx, a, C, dx, fs, ex, ea, c, n, l, q⟩ => ?_))
  subst ex
  obtain rfl : ov = Value.ref a := rx
  refine wpAny_bind (wpAny_standAt (wpAny_bind (wpAny_holding (setattr_ok I1 ea c n l r fun s3 I3 => ?_))))
  exact wpAny_release ⟨σ, _, I3, q⟩
include cf hok in
theorem sg_fld (ho : PE X o (tVar i)) : PG X (.Attribute o f pos) (tT' X.K ca P (tgF i f)) := PG.imp (pg_fldR ho) fun v σ H Q ⟨F, st, A, d, st', rl, rp, e, q⟩ => by
  obtain ⟨a, dx, gs, c, e1, h1, cl, na, l, rl2, s⟩ := fld_step cf hok rl rp e
  exact ⟨_, e1, a, _, dx, gs, rfl, h1, cl, na, l, q σ F _ A rl2 s .refl⟩
/-- o.f += j -/
def sInc (i : Nat) (f : Str) (j : Int) : S := fun st => match rd i st with
  | some (.obj _ ns ds) => (match lookF ns ds f with
    | some (.int k) => (match setFld i f (.int (k + j)) st with
      | some st => .ok .nx st
      | none => .bad)
    | _ => .bad)
  | _ => .bad
include cf hok in
theorem ss_inc {j : Int} {n : Nat} {p2 : Pos} (ho : PE X o (tVar i)) : PS X (.AugAssign (.Attribute o f pos') .Add (.Constant (.int j) n p2) pos) (tS X.K ca P ro W (sInc i f j)) :=
  PS.imp (ps_fldaug ho pe_int in_add) fun Z σ H ⟨F, st, A, rl, h⟩ => by
    unfold sInc at h
    cases z : rd i st with
    | none => rw [z] at h; exact h.elim
    | some d0 =>
      rw [z] at h
      cases d0 with
      | obj c0 ns ds =>
        cases z2 : lookF ns ds f with
        | none => simp only [z2] at h; exact h.elim
        | some d =>
          simp only [z2] at h
          cases d with
          | int k =>
            cases z3 : setFld i f (.int (k + j)) st with
            | none => simp only [z3] at h; exact h.elim
            | some st' =>
              simp only [z3] at h
              obtain ⟨a, dx, gs, c, e1, h1, cl, na, l, rl2, s⟩ := fld_step (v := .int (k + j)) cf hok rl (by unfold Rep; rfl) z3
              obtain ⟨v, e2, w⟩ := rl.rd z
              rw [e1] at e2
              cases e2
              obtain ⟨a', dx', gs', e3, okc, h1', _, e4, vws⟩ := w
              cases e3
              rw [h1] at h1'
              injection h1' with h1'
              injection h1' with q1 q2 q3
              subst q2 q3
              obtain ⟨x, lk, vw, _, _⟩ := vws.look e4 z2
              have ex : x = .int k := by
                rcases vw with r | ⟨_, _, _, e, _⟩
                · unfold Rep at r; exact r
                · cases e
              subst ex
              exact ⟨_, e1, a, _, dx, gs, .int k, rfl, h1, cl, na, lk, k, j, rfl, rfl, dx, gs, h1, l, h σ F _ A rl2 s .refl⟩
          | _ => exact h.elim
      | _ => exact h.elim
end
end Ev
namespace Ev
open PySem PySem.Spec PyProof.Rows L2
/-- x.m(..), x a list of the slot i: what it gives, what it leaves -/
def eMut (g : List D → List D → Option (D × List D)) (i : Nat) (ms : List E) : E := fun st => match st[i]? with
  | some (.o (.lst _)) => (evAll ms st).bind fun as st => (match st[i]? with
    | some (.o (.lst ds)) => (match g ds as with
      | some (d, ds') => .ok d (st.set i (.o (.lst ds')))
      | none => .bad)
    | _ => .bad)
  | _ => .bad
def MutOk (K : PySem.W.Frag) (ca : Ca) (g : List D → List D → Option (D × List D)) (r : V → List V → Hp → VK → Prop) : Prop :=
  ∀ (F : Addr → Prop) (H : Hp) (a : Addr) (vs : List V) (ds as : List D) (xs : List V) (d : D) (ds' : List D) (Q : VK), H a = some (.lst vs) → Reps K ca F H ds vs → Reps K ca F H as xs → g ds as = some (d, ds') →
    (∀ v vs', Rep K ca F H d v → Reps K ca F H ds' vs' → Q v (upd H a (.lst vs'))) → r (.ref a) xs H Q
section
variable {K : PySem.W.Frag} {ca : Ca} {W : WX} {F : Addr → Prop} {H : Hp} {A : List Addr} {σ : L2.St} {st : Sl} {i : Nat}
/-- a list of the slot i becomes another -/
theorem lst_step {ds ds' : List D} {vs vs' : List V} {a : Addr} (rl : Rl K ca F H st σ A) (z : st[i]? = some (.o (.lst ds))) (ev : σ[i]? = some (some (.ref a))) (ha : H a = some (.lst vs)) (r : Reps K ca F H ds' vs') :
    Rl K ca F (upd H a (.lst vs')) (st.set i (.o (.lst ds'))) σ A ∧ Step F H A F (upd H a (.lst vs')) A ∧ ∀ d v, Rep K ca F H d v → Rep K ca F (upd H a (.lst vs')) d v := by
  obtain ⟨u1, u2⟩ := upd_mut (o := .lst vs') ha
  have na : ¬ F a := by
    obtain ⟨x, B, C, e1, ⟨v0, rfl, ow⟩, _, _⟩ := rl.take z
    rw [ev] at e1
    cases e1
    obtain ⟨a', vs0, e, rfl, n, _⟩ := ow
    cases e
    exact n
  have kp : ∀ b o, F b → H b = some o → upd H a (.lst vs') b = some o := fun b o fb eb => u1 b o (fun q => na (q ▸ fb)) eb
  have key := rl.mutate (H' := upd H a (.lst vs')) (d' := .lst ds') z ev (fun B _ ow k1 k2 => by
    obtain ⟨a', vs0, e, rfl, n, h0, _⟩ := ow
    cases e
    exact ⟨a, vs', rfl, rfl, n, upd_same, Reps.mono (fun _ z => z) kp _ _ r⟩) (fun B ow => by
    obtain ⟨a', vs0, e, rfl, n, h0, _⟩ := ow
    cases e
    exact ⟨fun y w ny ey => u1 y w (fun q => ny (q ▸ List.mem_cons_self)) ey, u2⟩)
  exact ⟨key.1, key.2, fun d v rp => Rep.mono (fun _ z => z) kp d v rp⟩
theorem own_lst (rl : Rl K ca F H st σ A) {ds : List D} (z : st[i]? = some (.o (.lst ds))) : ∃ a vs, σ[i]? = some (some (.ref a)) ∧ H a = some (.lst vs) ∧ Reps K ca F H ds vs := by
  obtain ⟨x, B, C, e1, ⟨v0, rfl, a, vs, rfl, _, _, h, r⟩, _, _⟩ := rl.take z
  exact ⟨a, vs, e1, h, r⟩
theorem mut_run {g : List D → List D → Option (D × List D)} {r : V → List V → Hp → VK → Prop} {ms : List E} {Q : VK} (hk : MutOk K ca g r) (h : tE K ca W (eMut g i ms) σ H Q) :
    tVar i σ H fun x H1 => tyV K "list" x H1 ∧ tA K ca W ms σ H1 fun xs H2 => r x xs H2 Q := by
  obtain ⟨F, st, A, rl, q⟩ := tE_iff.mp h
  unfold eMut at q
  cases z : st[i]? with
  | none => rw [z] at q; exact q.elim
  | some c =>
    rw [z] at q
    cases c with
    | n => exact q.elim
    | f _ => exact q.elim
    | o d =>
      cases d with
      | lst ds0 =>
        obtain ⟨a, vs, e1, ha, r0⟩ := own_lst rl z
        refine ⟨.ref a, e1, .inl ⟨rfl, vs, .of ha⟩, F, st, A, rl, ?_⟩
        cases z2 : evAll ms st with
        | bad => simp only [z2, R.bind] at q; exact q
        | exc c x s => simp only [z2, R.bind] at q; exact q
        | ok as st1 =>
          simp only [z2, R.bind] at q
          intro xs F1 H1 A1 rl1 rx s1
          cases z3 : st1[i]? with
          | none => rw [z3] at q; exact q.elim
          | some c =>
            rw [z3] at q
            cases c with
            | n => exact q.elim
            | f _ => exact q.elim
            | o d =>
              cases d with
              | lst ds =>
                obtain ⟨a', vs1, e1', ha1, r1⟩ := own_lst rl1 z3
                rw [e1] at e1'
                cases e1'
                cases z4 : g ds as with
                | none => simp only [z4] at q; exact q.elim
                | some p =>
                  obtain ⟨d, ds'⟩ := p
                  simp only [z4] at q
                  refine hk F1 H1 a vs1 ds as xs d ds' Q ha1 r1 rx z4 fun v vs' rv rv' => ?_
                  obtain ⟨k1, k2, k3⟩ := lst_step rl1 z3 e1 ha1 rv'
                  exact q v F1 _ A1 k1 (k3 d v rv) (s1.trans k2)
              | _ => exact q.elim
      | _ => exact q.elim
end
/-- the methods -/
def gAppend : List D → List D → Option (D × List D) := fun ds as => match as with
  | [d] => if ds.length < sizeLine then some (.non, ds ++ [d]) else none
  | _ => none
def gExtend : List D → List D → Option (D × List D) := fun ds as => match as with
  | [.lst es] => if ds.length + es.length ≤ sizeLine then some (.non, ds ++ es) else none
  | _ => none
def gPop : List D → List D → Option (D × List D) := fun ds as => match as, ds[ds.length - 1]? with
  | [], some d => some (d, ds.dropLast)
  | _, _ => none
def gPopAt : List D → List D → Option (D × List D) := fun ds as => match as with
  | [.int i] => if 0 ≤ i ∧ i < 2 ^ 62 then (match ds[i.toNat]? with
    | some d => some (d, ds.eraseIdx i.toNat)
    | none => none) else none
  | _ => none
section
variable {K : PySem.W.Frag} {ca : Ca} {F : Addr → Prop} {H : Hp}
theorem non_rep : Rep K ca F H .non .non := by unfold Rep; rfl
theorem Reps.eraseIdx : ∀ {ds : List D} {vs : List V} (i : Nat), Reps K ca F H ds vs → Reps K ca F H (ds.eraseIdx i) (vs.eraseIdx i)
  | [], vs, i, h => by unfold Reps at h; subst h; exact .nil
  | d :: ds, vs, 0, h => by obtain ⟨v, r, rfl, _, h⟩ := h.inv; exact h
  | d :: ds, vs, i + 1, h => by obtain ⟨v, r, rfl, h1, h⟩ := h.inv; exact .cons h1 (h.eraseIdx i)
theorem Reps.dropLast : ∀ {ds : List D} {vs : List V}, Reps K ca F H ds vs → Reps K ca F H ds.dropLast vs.dropLast := fun {ds vs} h => by
  rw [List.dropLast_eq_take, List.dropLast_eq_take, h.length]; exact h.take _
theorem mo_append : MutOk K ca gAppend rAppend := fun F H a vs ds as xs d ds' Q ha r rx e q => by
  unfold gAppend at e
  split at e
  · rename_i d0
    split at e
    · rename_i l
      cases e
      obtain ⟨v, r1, rfl, h1, h2⟩ := rx.inv
      unfold Reps at h2
      subst h2
      exact ⟨a, vs, v, rfl, rfl, ha, by rw [r.length]; exact l, q .non _ non_rep (r.append (.cons h1 .nil))⟩
    · cases e
  · cases e
theorem mo_extend : MutOk K ca gExtend rExtend := fun F H a vs ds as xs d ds' Q ha r rx e q => by
  unfold gExtend at e
  split at e
  · rename_i es
    split at e
    · rename_i l
      cases e
      obtain ⟨v, r1, rfl, h1, h2⟩ := rx.inv
      unfold Reps at h2
      subst h2
      unfold Rep at h1
      obtain ⟨b, ws, rfl, ⟨_, hb⟩, rs⟩ := h1
      exact ⟨a, b, vs, ws, rfl, rfl, ha, hb, by rw [r.length, rs.length]; exact l, q .non _ non_rep (r.append rs)⟩
    · cases e
  · cases e
theorem mo_pop : MutOk K ca gPop rPop := fun F H a vs ds as xs d ds' Q ha r rx e q => by
  unfold gPop at e
  split at e
  · rename_i d0 z
    cases e
    unfold Reps at rx
    subst rx
    obtain ⟨v, hv, rv⟩ := r.get z
    exact ⟨a, vs, v, rfl, rfl, ha, by rw [r.length]; exact hv, q v _ rv r.dropLast⟩
  · cases e
theorem mo_popAt : MutOk K ca gPopAt rPopAt := fun F H a vs ds as xs d ds' Q ha r rx e q => by
  unfold gPopAt at e
  split at e
  · rename_i i
    split at e
    · rename_i l
      split at e
      · rename_i d0 z
        cases e
        obtain ⟨v, r1, rfl, h1, h2⟩ := rx.inv
        unfold Reps at h2
        subst h2
        unfold Rep at h1
        subst h1
        obtain ⟨w, hw, rw'⟩ := r.get z
        have hlt : i.toNat < vs.length := (List.getElem?_eq_some_iff.mp hw).1
        refine ⟨a, vs, i, i.toNat, w, rfl, rfl, ha, by omega, by omega, ?_, hw, q w _ rw' (r.eraseIdx _)⟩
        have hj : ¬ i < 0 := by omega
        have hb : (decide (0 ≤ i) && decide (i < (vs.length : Int))) = true := by
          rw [Bool.and_eq_true]; exact ⟨decide_eq_true l.1, decide_eq_true (by omega)⟩
        show (if (decide (0 ≤ (if i < 0 then i + (vs.length : Int) else i)) && decide ((if i < 0 then i + (vs.length : Int) else i) < (vs.length : Int))) = true then some (if i < 0 then i + (vs.length : Int) else i).toNat else none) = some i.toNat
        rw [if_neg hj, if_pos hb]
      · cases e
    · cases e
  · cases e
end
section
variable {X : Cx} {ca : Ca} {P : List Nat} {ro : Bool} {W : WX} {e o ix : Expr} {es : List Expr} {pos apos cpos : Pos} {m mk : E} {ms : List E} {i : Nat} {name : Str} {id : String} {g : List D → List D → Option (D × List D)} {r : V → List V → Hp → VK → Prop}
theorem se_mut0 (slot : Slot "list" name id) (hty : typeOf (.builtin id) = pure (.type "method_descriptor")) (hm : MtR X id r) (hk : MutOk X.K ca g r) (ho : PE X o (tVar i))
    (hbase : attributeBase o name X.env (eval o X.env) = eval o X.env := by rfl) (hline : (apos.endLine == cpos.line) = true := by rfl) : PE X (.Call (.Attribute o name apos) [] [] cpos) (tE X.K ca W (eMut g i [])) :=
  PE.imp (pe_bm0 PySem.F.plainAttrs_list slot hty hm ho hbase hline) fun σ H Q h => by
    obtain ⟨v, e, ty, F, st, A, rl, q⟩ := mut_run hk h
    exact ⟨v, e, ty, q [] F H A rl .nil .refl⟩
theorem se_mut (slot : Slot "list" name id) (hty : typeOf (.builtin id) = pure (.type "method_descriptor")) (hm : MtR X id r) (hk : MutOk X.K ca g r) (ho : PE X o (tVar i)) (ha : PA X (e :: es) (tA X.K ca W ms))
    (hbase : attributeBase o name X.env (eval o X.env) = eval o X.env := by rfl)
    (hfew : ((backTo cpos (starEach (e :: es) X.env)).all (fun x => !x.1) && (backToKw cpos (keywordEach [] X.env)).all (fun x => x.1.isSome)
      && decide ((e :: es).length + ([] : List Keyword).length + (if ([] : List Keyword).isEmpty then 0 else 1) < 30)) = true := by rfl)
    (hline : (apos.endLine == cpos.line) = true := by rfl) (hs : starEach (e :: es) X.env = (false, eval e X.env) :: starEach es X.env := by rfl) (hplain : (backTo cpos (starEach es X.env)).any (·.1) = false := by rfl) :
    PE X (.Call (.Attribute o name apos) (e :: es) [] cpos) (tE X.K ca W (eMut g i ms)) := PE.imp (pe_bm PySem.F.plainAttrs_list slot hty hm ho ha hbase hfew hline hs hplain) fun σ H Q h => mut_run hk h
/-- x[k] = e, x a list of the slot i -/
def sItem (i : Nat) (m mk : E) : S := fun st => (m st).bind fun d st => match st[i]? with
  | some (.o (.lst _)) => (mk st).bind fun k st => (match st[i]?, k with
    | some (.o (.lst ds)), .int j => if 0 ≤ j ∧ j < ds.length then .ok .nx (st.set i (.o (.lst (ds.set j.toNat d)))) else .bad
    | _, _ => .bad)
  | _ => .bad
theorem ss_item {p2 : Pos} (hv : PE X e (tE X.K ca W m)) (ho : PE X o (tVar i)) (hi : PE X ix (tE X.K ca W mk))
    (ha : ∀ v, assign (.Subscript o ix pos) X.env v = (do
      let ov ← holding [v] (eval o X.env)
      let iv ← holding [v, ov] (eval ix X.env)
      standAt pos
      holding [v, ov, iv] (setItem ov iv v)
      release [v, ov, iv] []) := by intro _; rfl)
    (hs : swapsWithSole [.Subscript o ix pos] e p2.line X.env = pure false := by rfl) (hw : swappedStores [.Subscript o ix pos] e X.env = pure none := by rfl)
    (h1 : (assignEach [.Subscript o ix pos] X.env).map (·.2) = [assign (.Subscript o ix pos) X.env] := by rfl) :
    PS X (.Assign [.Subscript o ix pos] e p2) (tS X.K ca P ro W (sItem i m mk)) := PS.imp (ps_asg hv (pg_sub ho hi set_list ha) hs hw h1) fun Z σ H h => by
  refine tS_e (k := fun d st => match st[i]? with
  | some (.o (.lst _)) => (mk st).bind fun k st => (match st[i]?, k with
    | some (.o (.lst ds)), .int j => if 0 ≤ j ∧ j < ds.length then .ok .nx (st.set i (.o (.lst (ds.set j.toNat d)))) else .bad
    | _, _ => .bad)
  | _ => .bad) h fun d v F0 H0 st0 A0 rl0 rd h => ?_
  cases z : st0[i]? with
  | none => rw [z] at h; exact h.elim
  | some c =>
    cases c with
    | n => rw [z] at h; exact h.elim
    | f _ => rw [z] at h; exact h.elim
    | o d0 =>
      cases d0 with
      | lst ds0 =>
        obtain ⟨a, vs, e1, ha, r0⟩ := own_lst rl0 z
        simp only [z] at h
        refine ⟨.ref a, e1, F0, st0, A0, rl0, ?_⟩
        cases z1 : mk st0 with
        | bad => simp only [z1, R.bind] at h; exact h
        | exc c x s => simp only [z1, R.bind] at h; exact fun cls oe F' H' A' r xi s2 => h cls oe σ F' H' A' r xi s2 .refl
        | ok k st1 =>
          simp only [z1, R.bind] at h
          intro w F1 H1 A1 rl1 rw1 s1
          cases z2 : st1[i]? with
          | none => rw [z2] at h; exact h.elim
          | some c =>
            cases c with
            | n => rw [z2] at h; exact h.elim
            | f _ => rw [z2] at h; exact h.elim
            | o d1 =>
              cases d1 with
              | lst ds =>
                obtain ⟨a', vs1, e1', ha1, r1⟩ := own_lst rl1 z2
                rw [e1] at e1'
                cases e1'
                cases k with
                | int j =>
                  unfold Rep at rw1
                  subst rw1
                  simp only [z2] at h
                  by_cases hj : 0 ≤ j ∧ j < ds.length
                  · rw [if_pos hj] at h
                    obtain ⟨k1, k2, _⟩ := lst_step rl1 z2 e1 ha1 (r1.set j.toNat (rd.step s1 rl0))
                    refine ⟨a, vs1, j, j.toNat, rfl, rfl, ha1, ?_, h σ F1 _ A1 k1 (s1.trans k2) .refl⟩
                    unfold ixN
                    rw [if_pos hj.1, if_pos (by rw [r1.length]; exact hj.2)]
                  · rw [if_neg hj] at h; exact h.elim
                | _ => simp only [z2] at h; exact h.elim
              | _ => rw [z2] at h; exact h.elim
      | _ => rw [z] at h; exact h.elim
end
end Ev
namespace Ev
open PySem PySem.Spec PyProof.Rows L2
/-- the iterator J yields the items, where what is frozen in F0, H0 (and the addresses at B) stays -/
def ItOk (K : PySem.W.Frag) (ca : Ca) (J : It) (F0 : Addr → Prop) (H0 : Hp) (B : List Addr) (items : List D) : Prop :=
  ∀ (F : Addr → Prop) (H : Hp), (∀ a, F0 a → F a) → (∀ a o, F0 a ∨ a ∈ B → H0 a = some o → H a = some o) → ∀ i : Nat,
    (items.length ≤ i → J.stop i H) ∧ ∀ d, items[i]? = some d → J.go i H ∧ ∀ x H', J.yld i H x H' → ∃ F', Al F H F' H' ∧ Rep K ca F' H' d x
abbrev IE := Sl → R (List D)
section
variable (K : PySem.W.Frag) (ca : Ca) (W : WX)
def tI (it : IE) : TI := fun σ H Rr => ∃ F st A, Rl K ca F H st σ A ∧ match it st with
  | .ok items st' => ∀ J F' H' A', Rl K ca F' H' st' σ A' → ItOk K ca J F' H' [] items → Step F H A F' H' A' → Rr J H'
  | .exc c x st' => XcW K ca W F H A σ c x st'
  | .bad => False
end
theorem PI.or {X : Cx} {tg e : Expr} {t t' : TI} (h : PI X tg e t) (h' : PI X tg e t') : PI X tg e (fun σ H Rr => t σ H Rr ∨ t' σ H Rr) := ⟨fun pins s σ H Rr I q => q.elim (fun q => h.run pins s σ H Rr I q) fun q => h'.run pins s σ H Rr I q⟩
def itE (m : E) : IE := fun st => (m st).bind fun d st => match d with
  | .lst ds => .ok ds st
  | .tup ds => .ok ds st
  | .scr ns => .ok (ns.map .int) st
  | .str x => .ok (x.cps.toList.map fun c => .str ⟨#[c]⟩) st
  | _ => .bad
def rangeD (lo : Int) (n : Nat) : List D := (List.range n).map fun i : Nat => .int (lo + (i : Int))
def inR (j : Int) : Bool := decide (-(2 ^ 62) ≤ j) && decide (j < 2 ^ 62)
def itR1 (m : E) : IE := fun st => (m st).bind fun d st => match d with
  | .int j => (match inR j with
    | true => .ok (rangeD 0 j.toNat) st
    | false => .bad)
  | _ => .bad
def kR2 (d e : D) : IE := fun st => match d, e with
  | .int i, .int j => (match inR i && inR j with
    | true => .ok (rangeD i (j - i).toNat) st
    | false => .bad)
  | _, _ => .bad
def itR2 (m n : E) : IE := fun st => (m st).bind fun d st => (n st).bind fun e st => kR2 d e st
def enumD (ds : List D) : List D := ds.mapIdx fun i d => .tup [.int (i : Nat), d]
def itEn (m : E) : IE := fun st => (m st).bind fun d st => match d with
  | .lst ds => .ok (enumD ds) st
  | _ => .bad
def kZip (d e : D) : IE := fun st => match d, e with
  | .lst ds, .lst es => .ok (List.zipWith (fun a b => .tup [a, b]) ds es) st
  | .tup ds, .tup es => .ok (List.zipWith (fun a b => .tup [a, b]) ds es) st
  | _, _ => .bad
def itZip (m n : E) : IE := fun st => (evAll [m, n] st).bind fun ds st => match ds with
  | [d, e] => kZip d e st
  | _ => .bad
def itRv1 (m : E) : IE := fun st => (m st).bind fun d st => match d with
  | .int j => (match inR j with
    | true => .ok (rangeD 0 j.toNat).reverse st
    | false => .bad)
  | _ => .bad
section
variable {K : PySem.W.Frag} {ca : Ca} {F : Addr → Prop} {H : Hp} {B : List Addr}
theorem Reps.geti {ds : List D} {vs : List V} {i : Nat} {d : D} {v : V} (h : Reps K ca F H ds vs) (e : ds[i]? = some d) (e2 : vs[i]? = some v) : Rep K ca F H d v := by
  obtain ⟨v', e', r⟩ := h.get e
  rw [e2] at e'
  cases e'
  exact r
theorem itl_ok {a : Addr} {ds : List D} {vs : List V} (ha : H a = some (.lst vs)) (fa : F a ∨ a ∈ B) (r : Reps K ca F H ds vs) : ItOk K ca (Itl K a) F H B ds := fun F1 H1 f k i => by
  have h1 : SqL K H1 a vs := .of (k a _ fa ha)
  have r1 : Reps K ca F1 H1 ds vs := Reps.mono f (fun a o fa e => k a o (.inl fa) e) _ _ r
  refine ⟨fun l => ⟨vs, h1, by rw [r.length]; exact l⟩, fun d e => ?_⟩
  obtain ⟨v, e2, _⟩ := r1.get e
  refine ⟨⟨vs, v, h1, e2⟩, fun x H' ⟨eh, q⟩ => ?_⟩
  subst eh
  exact ⟨F1, .refl, r1.geti e (q vs h1)⟩
theorem FrT.up {F1 : Addr → Prop} {H1 : Hp} {a : Addr} {vs : List V} (h : FrT K F H a vs) (f : ∀ a, F a → F1 a) (k : ∀ a o, F a ∨ a ∈ B → H a = some o → H1 a = some o) : SqT K H1 a vs := (h.mono f fun a o fa e => k a o (.inl fa) e).sq
theorem itt_ok {a : Addr} {ds : List D} {vs : List V} (ha : FrT K F H a vs) (r : Reps K ca F H ds vs) : ItOk K ca (Itt K a) F H B ds := fun F1 H1 f k i => by
  have h1 : SqT K H1 a vs := ha.up f k
  have r1 : Reps K ca F1 H1 ds vs := Reps.mono f (fun a o fa e => k a o (.inl fa) e) _ _ r
  refine ⟨fun l => ⟨vs, h1, by rw [r.length]; exact l⟩, fun d e => ?_⟩
  obtain ⟨v, e2, _⟩ := r1.get e
  refine ⟨⟨vs, v, h1, e2⟩, fun x H' ⟨eh, q⟩ => ?_⟩
  subst eh
  exact ⟨F1, .refl, r1.geti e (q vs h1)⟩
theorem its_ok {a : Addr} {ns : List Int} (ha : FrS K F H a (ns.map V.int)) : ItOk K ca (Itl K a) F H B (ns.map .int) := fun F1 H1 f k i => by
  have h1 : SqL K H1 a (ns.map V.int) := (ha.mono f fun a o fa e => k a o (.inl fa) e).sq
  refine ⟨fun l => ⟨_, h1, by rw [List.length_map] at l ⊢; exact l⟩, fun d e => ?_⟩
  rw [List.getElem?_map] at e
  cases z : ns[i]? with
  | none => rw [z] at e; cases e
  | some n =>
    rw [z] at e
    cases e
    have e2 : (ns.map V.int)[i]? = some (.int n) := by rw [List.getElem?_map, z]; rfl
    refine ⟨⟨_, _, h1, e2⟩, fun x H' ⟨eh, q⟩ => ?_⟩
    subst eh
    have := q _ h1
    rw [e2] at this
    cases this
    exact ⟨F1, .refl, by unfold Rep; rfl⟩
theorem itx_ok {x : Str} : ItOk K ca (Its x) F H B (x.cps.toList.map fun c => .str ⟨#[c]⟩) := fun F1 H1 f k i => by
  refine ⟨fun l => (by simpa using l : x.cps.size ≤ i), fun d e => ?_⟩
  rw [List.getElem?_map, Array.getElem?_toList] at e
  cases z : x.cps[i]? with
  | none => rw [z] at e; cases e
  | some c =>
    rw [z] at e
    cases e
    refine ⟨(Array.getElem?_eq_some_iff.mp z).1, fun y H' ⟨eh, c', ec, q⟩ => ?_⟩
    subst eh
    rw [z] at ec
    cases ec
    exact ⟨F1, .refl, by unfold Rep; exact q⟩
theorem rangeD_get {lo : Int} {n i : Nat} : (rangeD lo n)[i]? = if i < n then some (.int (lo + (i : Int))) else none := by
  unfold rangeD
  rw [List.getElem?_map]
  by_cases h : i < n
  · rw [if_pos h, List.getElem?_range h]; rfl
  · rw [if_neg h, List.getElem?_eq_none (by simpa using h)]; rfl
theorem rangeD_len {lo : Int} {n : Nat} : (rangeD lo n).length = n := by simp [rangeD]
theorem itr_ok {lo : Int} {n : Nat} : ItOk K ca (Itr lo n) F H B (rangeD lo n) := fun F1 H1 f k i => by
  refine ⟨fun l => by rw [rangeD_len] at l; exact l, fun d e => ?_⟩
  rw [rangeD_get] at e
  by_cases h : i < n
  · rw [if_pos h] at e
    cases e
    exact ⟨h, fun x H' ⟨eh, q⟩ => by subst eh q; exact ⟨F1, .refl, by unfold Rep; rfl⟩⟩
  · rw [if_neg h] at e; cases e
theorem itc_ok {n : Nat} : ItOk K ca (Itc (0 + ((n : Nat) : Int) - 1) (-1) n) F H B (rangeD 0 n).reverse := fun F1 H1 f k i => by
  refine ⟨fun l => by rw [List.length_reverse, rangeD_len] at l; exact l, fun d e => ?_⟩
  by_cases h : i < n
  · rw [List.getElem?_reverse (by rw [rangeD_len]; exact h), rangeD_len, rangeD_get, if_pos (by omega)] at e
    cases e
    refine ⟨h, fun x H' ⟨eh, q⟩ => ?_⟩
    subst eh q
    refine ⟨F1, .refl, ?_⟩
    unfold Rep
    congr 1
    omega
  · rw [List.getElem?_eq_none (by rw [List.length_reverse, rangeD_len]; omega)] at e; cases e
theorem pair_new {F1 : Addr → Prop} {H1 : Hp} {T : Addr} {d e : D} {x y : V} (n : H1 T = none) (r : Rep K ca F1 H1 d x) (r2 : Rep K ca F1 H1 e y) : ∃ F', Al F1 H1 F' (upd H1 T (.tup [x, y])) ∧ Rep K ca F' (upd H1 T (.tup [x, y])) (.tup [d, e]) (.ref T) := by
  refine ⟨_, Al.new (o := .tup [x, y]) n, ?_⟩
  unfold Rep
  exact ⟨T, _, rfl, .inl ⟨.inr rfl, .inl upd_same⟩, fz_new n (.cons r (.cons r2 .nil))⟩
theorem ite_ok {a : Addr} {ds : List D} {vs : List V} (ha : H a = some (.lst vs)) (fa : F a ∨ a ∈ B) (r : Reps K ca F H ds vs) : ItOk K ca (Ite K a) F H B (enumD ds) := fun F1 H1 f k i => by
  have h1 : SqL K H1 a vs := .of (k a _ fa ha)
  have r1 : Reps K ca F1 H1 ds vs := Reps.mono f (fun a o fa e => k a o (.inl fa) e) _ _ r
  refine ⟨fun l => ⟨vs, h1, by rw [r.length]; simpa [enumD] using l⟩, fun d e => ?_⟩
  unfold enumD at e
  rw [List.getElem?_mapIdx] at e
  cases z : ds[i]? with
  | none => rw [z] at e; cases e
  | some d0 =>
    rw [z] at e
    cases e
    obtain ⟨v, e2, _⟩ := r1.get z
    refine ⟨⟨vs, v, h1, e2⟩, fun x H' ⟨T, x0, ex, nT, eh, q⟩ => ?_⟩
    subst ex eh
    exact pair_new nT (by unfold Rep; rfl) (r1.geti z (q vs h1))
theorem itz_ok {a b : Addr} {ds es : List D} {vs ws : List V} (ha : FrL F H a vs) (hb : FrL F H b ws) (r : Reps K ca F H ds vs) (r2 : Reps K ca F H es ws) : ItOk K ca (Itz K a b) F H B (List.zipWith (fun a b => .tup [a, b]) ds es) := fun F1 H1 f k i => by
  have h1 : SqL K H1 a vs := .of (k a _ (.inl ha.1) ha.2)
  have h2 : SqL K H1 b ws := .of (k b _ (.inl hb.1) hb.2)
  have q1 : Reps K ca F1 H1 ds vs := Reps.mono f (fun a o fa e => k a o (.inl fa) e) _ _ r
  have q2 : Reps K ca F1 H1 es ws := Reps.mono f (fun a o fa e => k a o (.inl fa) e) _ _ r2
  refine ⟨fun l => ⟨vs, ws, h1, h2, ?_⟩, fun d e => ?_⟩
  · rw [List.length_zipWith] at l
    rw [r.length, r2.length]
    omega
  · rw [List.getElem?_zipWith] at e
    cases z : ds[i]? with
    | none => rw [z] at e; cases e
    | some d0 =>
      cases z2 : es[i]? with
      | none => rw [z, z2] at e; cases e
      | some e0 =>
        rw [z, z2] at e
        cases e
        obtain ⟨v, ev, _⟩ := q1.get z
        obtain ⟨w, ew, _⟩ := q2.get z2
        refine ⟨⟨vs, ws, v, w, h1, h2, ev, ew⟩, fun x H' ⟨T, x0, y0, ex, nT, eh, p1, p2⟩ => ?_⟩
        subst ex eh
        exact pair_new nT (q1.geti z (p1 vs h1)) (q2.geti z2 (p2 ws h2))
theorem itzT_ok {a b : Addr} {ds es : List D} {vs ws : List V} (ha : FrT K F H a vs) (hb : FrT K F H b ws) (r : Reps K ca F H ds vs) (r2 : Reps K ca F H es ws) : ItOk K ca (RZ.ItzT K a b) F H B (List.zipWith (fun a b => .tup [a, b]) ds es) := fun F1 H1 f k i => by
  have h1 : SqT K H1 a vs := ha.up f k
  have h2 : SqT K H1 b ws := hb.up f k
  have q1 : Reps K ca F1 H1 ds vs := Reps.mono f (fun a o fa e => k a o (.inl fa) e) _ _ r
  have q2 : Reps K ca F1 H1 es ws := Reps.mono f (fun a o fa e => k a o (.inl fa) e) _ _ r2
  refine ⟨fun l => ⟨vs, ws, h1, h2, ?_⟩, fun d e => ?_⟩
  · rw [List.length_zipWith] at l
    rw [r.length, r2.length]
    omega
  · rw [List.getElem?_zipWith] at e
    cases z : ds[i]? with
    | none => rw [z] at e; cases e
    | some d0 =>
      cases z2 : es[i]? with
      | none => rw [z, z2] at e; cases e
      | some e0 =>
        rw [z, z2] at e
        cases e
        obtain ⟨v, ev, _⟩ := q1.get z
        obtain ⟨w, ew, _⟩ := q2.get z2
        refine ⟨⟨vs, ws, v, w, h1, h2, ev, ew⟩, fun x H' ⟨T, x0, y0, ex, nT, eh, p1, p2⟩ => ?_⟩
        subst ex eh
        exact pair_new nT (q1.geti z (p1 vs h1)) (q2.geti z2 (p2 ws h2))
end
section
variable {X : Cx} {ca : Ca} {P : List Nat} {ro : Bool} {W : WX} {tg e e2 : Expr} {p pos tpos : Pos} {m n : E} {elts : List Expr} {kk : Nat}
/-- one value, then an iterator -/
theorem tI_e {k : D → IE} {σ : L2.St} {H : Hp} {Rr : It → Hp → Prop} {Q : VK} (h : tI X.K ca W (fun st => (m st).bind fun d st => k d st) σ H Rr)
    (q : ∀ d v F H st A, Rl X.K ca F H st σ A → Rep X.K ca F H d v → tI X.K ca W (k d) σ H Rr → (match k d st with
      | .ok items st' => ∀ J F' H' A', Rl X.K ca F' H' st' σ A' → ItOk X.K ca J F' H' [] items → Step F H A F' H' A' → Rr J H'
      | .exc c x st' => XcW X.K ca W F H A σ c x st'
      | .bad => False) → Q v H) : tE X.K ca W m σ H Q := by
  obtain ⟨F, st, A, rl, h⟩ := h
  refine ⟨F, st, A, rl, ?_⟩
  cases z : m st with
  | bad => simp only [z, R.bind] at h
  | exc c x s => simp only [z, R.bind] at h; exact h
  | ok d st1 =>
    simp only [z, R.bind] at h
    intro v F' H' A' r rp s
    have h' : (match k d st1 with
      | .ok items st' => ∀ J F2 H2 A2, Rl X.K ca F2 H2 st' σ A2 → ItOk X.K ca J F2 H2 [] items → Step F' H' A' F2 H2 A2 → Rr J H2
      | .exc c x st' => XcW X.K ca W F' H' A' σ c x st'
      | .bad => False) := by
      cases z2 : k d st1 with
      | bad => rw [z2] at h; exact h
      | exc c x s2 => rw [z2] at h; exact fun cls oe F2 H2 A2 r2 xi s3 => h cls oe F2 H2 A2 r2 xi (s.trans s3)
      | ok items st2 => rw [z2] at h; exact fun J F2 H2 A2 r2 io s3 => h J F2 H2 A2 r2 io (s.trans s3)
    exact q d v F' H' st1 A' r rp ⟨F', st1, A', r, h'⟩ h'
theorem si_e (h : PE X e (tE X.K ca W m)) : PI X tg e (tI X.K ca W (itE m)) := PI.imp (PI.or (PI.or (pi_list h) (pi_tup h)) (pi_str h)) fun σ H Rr q => by
  by_cases hx : ∃ F st A, Rl X.K ca F H st σ A ∧ ∃ x st', m st = .ok (.str x) st' ∧ ∀ J F' H' A', Rl X.K ca F' H' st' σ A' → ItOk X.K ca J F' H' [] (x.cps.toList.map fun c => .str ⟨#[c]⟩) → Step F H A F' H' A' → Rr J H'
  · obtain ⟨F, st, A, rl, x, st', z, q⟩ := hx
    refine .inr ⟨F, st, A, rl, ?_⟩
    rw [z]
    intro v F' H' A' r rp s
    unfold Rep at rp
    exact ⟨x, rp, q _ F' H' A' r itx_ok s⟩
  refine .inl ?_
  by_cases ht : ∃ F st A, Rl X.K ca F H st σ A ∧ ∃ ds st', m st = .ok (.tup ds) st' ∧ ∀ J F' H' A', Rl X.K ca F' H' st' σ A' → ItOk X.K ca J F' H' [] ds → Step F H A F' H' A' → Rr J H'
  · obtain ⟨F, st, A, rl, ds, st', z, q⟩ := ht
    refine .inr ⟨F, st, A, rl, ?_⟩
    rw [z]
    intro v F' H' A' r rp s
    unfold Rep at rp
    obtain ⟨a, vs, rfl, hq, rs⟩ := rp
    exact ⟨a, rfl, ⟨vs, hq.sq⟩, q _ F' H' A' r (itt_ok hq rs) s⟩
  · obtain ⟨F, st, A, rl, q⟩ := q
    refine .inl ⟨F, st, A, rl, ?_⟩
    unfold itE at q
    cases z : m st with
    | bad => simp only [z, R.bind] at q
    | exc c x s => simp only [z, R.bind] at q; exact q
    | ok d st1 =>
      simp only [z, R.bind] at q
      cases d with
      | lst ds =>
        intro v F' H' A' r rp s
        unfold Rep at rp
        obtain ⟨a, vs, rfl, hq, rs⟩ := rp
        exact ⟨a, rfl, ⟨vs, hq.sq⟩, q _ F' H' A' r (itl_ok hq.2 (.inl hq.1) rs) s⟩
      | scr ns =>
        intro v F' H' A' r rp s
        unfold Rep at rp
        obtain ⟨a, rfl, hq⟩ := rp
        exact ⟨a, rfl, ⟨_, hq.sq⟩, q _ F' H' A' r (its_ok hq) s⟩
      | tup ds => exact (ht ⟨F, st, A, rl, ds, st1, z, q⟩).elim
      | str x => exact (hx ⟨F, st, A, rl, x, st1, z, q⟩).elim
      | _ => exact q.elim
theorem pa1 (h : PE X e (tE X.K ca W m)) (hs : starEach [e] X.env = [(false, eval e X.env)] := by rfl) : PA X [e] (tCons (tE X.K ca W m) tNil) := pa_cons h pa_nil hs
theorem si_range1 (hg : Gl X "range") (hm : X.mg "range" = none) (h : PE X e (tE X.K ca W m)) (hs : starEach [e] X.env = [(false, eval e X.env)] := by rfl) : PI X tg (.Call (.Name "range" p) [e] [] pos) (tI X.K ca W (itR1 m)) :=
  PI.imp (pi_range1 hg hm (pa1 h hs) hs) fun σ H Rr q => tI_e (k := fun d st => match d with
    | .int j => (match inR j with
      | true => .ok (rangeD 0 j.toNat) st
      | false => .bad)
    | _ => .bad) q fun d v F H st A rl rp _ q => by
    cases d with
    | int j =>
      unfold Rep at rp
      subst rp
      cases z : inR j with
      | false => simp only [z] at q
      | true =>
        simp only [z] at q
        obtain ⟨z1, z2⟩ := Bool.and_eq_true_iff.mp z
        exact ⟨j, rfl, of_decide_eq_true z1, of_decide_eq_true z2, q _ F H A rl itr_ok .refl⟩
    | _ => exact q.elim
theorem si_range2 (hg : Gl X "range") (hm : X.mg "range" = none) (h : PE X e (tE X.K ca W m)) (h2 : PE X e2 (tE X.K ca W n)) (hs : starEach [e, e2] X.env = [(false, eval e X.env), (false, eval e2 X.env)] := by rfl) (hs2 : starEach [e2] X.env = [(false, eval e2 X.env)] := by rfl) :
    PI X tg (.Call (.Name "range" p) [e, e2] [] pos) (tI X.K ca W (itR2 m n)) :=
  PI.imp (pi_range2 hg hm (pa_cons h (pa_cons h2 pa_nil hs2) (by rw [hs, hs2])) hs hs2) fun σ H Rr q => tI_e (k := fun d st => (n st).bind fun e st => kR2 d e st) q fun d v F H st A rl rp q _ =>
    tI_e (k := fun e st => kR2 d e st) q fun d2 v2 F2 H2 st2 A2 rl2 rp2 _ q => by
    cases d with
    | int i =>
      cases d2 with
      | int j =>
        unfold Rep at rp rp2
        subst rp rp2
        simp only [kR2] at q
        cases z : inR i && inR j with
        | false => simp only [z] at q
        | true =>
          simp only [z] at q
          obtain ⟨z0, z3⟩ := Bool.and_eq_true_iff.mp z
          obtain ⟨z1, z2⟩ := Bool.and_eq_true_iff.mp z0
          obtain ⟨z4, z5⟩ := Bool.and_eq_true_iff.mp z3
          exact ⟨i, j, rfl, ⟨of_decide_eq_true z1, of_decide_eq_true z2, of_decide_eq_true z4, of_decide_eq_true z5⟩, q _ F2 H2 A2 rl2 itr_ok .refl⟩
      | _ => exact q.elim
    | _ => exact q.elim
theorem si_enum (hg : Gl X "enumerate") (hm : X.mg "enumerate" = none) (h : PE X e (tE X.K ca W m)) (hs : starEach [e] X.env = [(false, eval e X.env)] := by rfl) : PI X (.Tuple elts kk tpos) (.Call (.Name "enumerate" p) [e] [] pos) (tI X.K ca W (itEn m)) :=
  PI.imp (pi_enum hg hm (pa1 h hs) hs) fun σ H Rr q => tI_e (k := fun d st => match d with
    | .lst ds => .ok (enumD ds) st
    | _ => .bad) q fun d v F H st A rl rp _ q => by
    cases d with
    | lst ds =>
      unfold Rep at rp
      obtain ⟨a, vs, rfl, hq, rs⟩ := rp
      exact ⟨a, vs, rfl, hq.sq, q _ F H A rl (ite_ok hq.2 (.inl hq.1) rs) .refl⟩
    | _ => exact q.elim
theorem si_zip (hg : Gl X "zip") (hm : X.mg "zip" = none) (h : PA X [e, e2] (tA X.K ca W [m, n])) (hs : starEach [e, e2] X.env = (false, eval e X.env) :: starEach [e2] X.env := by rfl) (hpl : (backTo pos (starEach [e2] X.env)).any (·.1) = false := by rfl) :
    PI X (.Tuple elts kk tpos) (.Call (.Name "zip" p) [e, e2] [] pos) (tI X.K ca W (itZip m n)) :=
  PI.imp (RZ.pi_zipA hg hm h hs hpl) fun σ H Rr ⟨F, st, A, rl, q⟩ => by
    refine ⟨F, st, A, rl, ?_⟩
    unfold itZip at q
    cases z : evAll [m, n] st with
    | bad => simp only [z, R.bind] at q
    | exc c x s => simp only [z, R.bind] at q; exact q
    | ok ds st1 =>
      simp only [z, R.bind] at q
      intro vs F1 H1 A1 rl1 rs s1
      cases ds with
      | nil => exact q.elim
      | cons d ds =>
        cases ds with
        | nil => exact q.elim
        | cons d2 ds =>
          cases ds with
          | cons _ _ => exact q.elim
          | nil =>
            obtain ⟨v, r, rfl, r1, rs⟩ := rs.inv
            obtain ⟨v2, r, rfl, r2, rs⟩ := rs.inv
            unfold Reps at rs
            subst rs
            simp only [kZip] at q
            cases d with
            | lst ds =>
              cases d2 with
              | lst es =>
                unfold Rep at r1 r2
                obtain ⟨a, vs, rfl, ha, ra⟩ := r1
                obtain ⟨b, ws, rfl, hb, rb⟩ := r2
                exact ⟨a, b, vs, ws, rfl, .inl ⟨ha.sq, hb.sq, q _ F1 H1 A1 rl1 (itz_ok ha hb ra rb) s1⟩⟩
              | _ => exact q.elim
            | tup ds =>
              cases d2 with
              | tup es =>
                unfold Rep at r1 r2
                obtain ⟨a, vs, rfl, ha, ra⟩ := r1
                obtain ⟨b, ws, rfl, hb, rb⟩ := r2
                exact ⟨a, b, vs, ws, rfl, .inr ⟨ha.sq, hb.sq, q _ F1 H1 A1 rl1 (itzT_ok ha hb ra rb) s1⟩⟩
              | _ => exact q.elim
            | _ => exact q.elim
/-- the loop over the items -/
def forL (g : Tg) (body : S) : List D → S
  | [], st => .ok .nx st
  | d :: ds, st => match g d st with
    | none => .bad
    | some st1 => (match body st1 with
      | .ok .nx st2 => forL g body ds st2
      | .ok .ct st2 => forL g body ds st2
      | .ok .bk st2 => .ok .nx st2
      | .ok (.rt d) st2 => .ok (.rt d) st2
      | .exc c x st2 => .exc c x st2
      | .bad => .bad)
def sFor (it : IE) (g : Tg) (body : S) : S := fun st => (it st).bind fun items st => forL g body items st
theorem drop_get {α : Type} {l : List α} {i : Nat} {d : α} {ds : List α} (h : l.drop i = d :: ds) : l[i]? = some d ∧ l.drop (i + 1) = ds := by
  refine ⟨?_, ?_⟩
  · have := congrArg (fun z => z[0]?) h
    simpa using this
  · rw [← List.drop_drop, h]; rfl
theorem ss_for {body : List Stmt} {it : IE} {g : Tg} {b : S} (hp : PassesOwn (model X.prog X.w) X.A X.env X.xe) (hc : X.calm = true) (hi : PI X tg e (tI X.K ca W it)) (hg : PG X tg (tT' X.K ca P g)) (hb : PSs X body (tS X.K ca P ro W b))
    (hs : ∀ x, foldedSetIterable e X.env x = pure x := by intro _; rfl) : PS X (.For tg e body [] pos) (tS X.K ca P ro W (sFor it g b)) :=
  PS.imp (ps_for hp hc hi hg hb hs) fun Z σ H ⟨F, st, A, rl, q⟩ => by
    refine ⟨F, st, A, rl, ?_⟩
    unfold sFor at q
    cases z : it st with
    | bad => simp only [z, R.bind] at q; exact q
    | exc c x s => simp only [z, R.bind] at q; exact fun cls oe F' H' A' r xi s => q cls oe σ F' H' A' r xi s .refl
    | ok items st1 =>
      simp only [z, R.bind] at q
      intro J F1 H1 A1 rl1 io s1
      refine ⟨fun i m σ' H' => ∃ F' st' A' ds, Rl X.K ca F' H' st' σ' A' ∧ Step F1 H1 A1 F' H' A' ∧ Pin P σ σ' ∧ items.drop i = ds ∧ m = ds.length ∧ WantS X.K ca P ro W F' H' A' σ' Z (forL g b ds st'),
        ⟨_, F1, st1, A1, items, rl1, .refl, .refl, rfl, rfl, WantS.step q s1 .refl⟩, ?_⟩
      rintro i m σ' H' ⟨F', st', A', ds, rl', s', p', hd, rfl, hw⟩
      have io' := io F' H' s'.fm (fun a o fa e => s'.kf rl1 a o (fa.elim id fun z => by cases z) e) i
      cases ds with
      | nil =>
        refine .inl ⟨io'.1 ?_, hw.nx rl'⟩
        exact List.drop_eq_nil_iff.mp hd
      | cons d ds =>
        obtain ⟨hi1, hi2⟩ := drop_get hd
        obtain ⟨go, yl⟩ := io'.2 d hi1
        refine .inr ⟨go, fun σ2 H2 => ∃ F2 st2 A2, Rl X.K ca F2 H2 st2 σ2 A2 ∧ Step F1 H1 A1 F2 H2 A2 ∧ Pin P σ σ2 ∧ WantS X.K ca P ro W F2 H2 A2 σ2 Z (forL g b ds st2), fun σ2 H2 ⟨F2, st2, A2, r2, s2, p2, w2⟩ => ⟨ds.length, Nat.lt_succ_self _, F2, st2, A2, ds, r2, s2, p2, hi2, rfl, w2⟩, fun x Hy hy => ?_⟩
        obtain ⟨Fy, al, rp⟩ := yl x Hy hy
        have rly := al.rl rl'
        have hw : WantS X.K ca P ro W F' H' A' σ' Z (match g d st' with
          | none => .bad
          | some st1 => (match b st1 with
            | .ok .nx st2 => forL g b ds st2
            | .ok .ct st2 => forL g b ds st2
            | .ok .bk st2 => .ok .nx st2
            | .ok (.rt d) st2 => .ok (.rt d) st2
            | .exc c x st2 => .exc c x st2
            | .bad => .bad)) := hw
        cases zg : g d st' with
        | none => rw [zg] at hw; exact hw.elim
        | some st3 =>
          simp only [zg] at hw
          refine ⟨Fy, st', A', d, st3, rly, rp, zg, fun σ3 F3 H3 A3 rl3 s3 p3 => ⟨F3, st3, A3, rl3, ?_⟩⟩
          have s03 : Step F' H' A' F3 H3 A3 := al.step.trans s3
          have s13 : Step F1 H1 A1 F3 H3 A3 := s'.trans s03
          have hw3 := WantS.step hw s03 p3
          cases zb : b st3 with
          | bad => rw [zb] at hw3; exact hw3
          | exc c x s => rw [zb] at hw3; exact hw3
          | ok f s =>
            rw [zb] at hw3
            cases f with
            | nx => exact fun σ4 F4 H4 A4 r4 s4 p4 => ⟨F4, s, A4, r4, s13.trans s4, (p'.trans p3).trans p4, WantS.step hw3 s4 p4⟩
            | ct => exact fun σ4 F4 H4 A4 r4 s4 p4 => ⟨F4, s, A4, r4, s13.trans s4, (p'.trans p3).trans p4, WantS.step hw3 s4 p4⟩
            | bk => exact hw3
            | rt d => exact hw3
def whL (c : B') (body : S) : Nat → S
  | 0, _ => .bad
  | n + 1, st => (c st).bind fun k st1 => match k with
    | false => .ok .nx st1
    | true => (match body st1 with
      | .ok .nx st2 => whL c body n st2
      | .ok .ct st2 => whL c body n st2
      | .ok .bk st2 => .ok .nx st2
      | .ok (.rt d) st2 => .ok (.rt d) st2
      | .exc c x st2 => .exc c x st2
      | .bad => .bad)
theorem ss_while {c : Expr} {body : List Stmt} {k : B'} {b : S} {n : Nat} (hp : PassesOwn (model X.prog X.w) X.A X.env X.xe) (hc : PT X c (tT X.K ca W k)) (hb : PSs X body (tS X.K ca P ro W b)) : PS X (.While c body [] pos) (tS X.K ca P ro W (whL k b n)) :=
  PS.imp (ps_while hp hc hb) fun Z σ H ⟨F, st, A, rl, q⟩ => by
    refine ⟨fun m σ' H' => ∃ F' st' A', Rl X.K ca F' H' st' σ' A' ∧ Step F H A F' H' A' ∧ Pin P σ σ' ∧ WantS X.K ca P ro W F' H' A' σ' Z (whL k b m st'), ⟨n, F, st, A, rl, .refl, .refl, q⟩, ?_⟩
    rintro m σ' H' ⟨F', st', A', rl', s', p', hw⟩
    cases m with
    | zero => exact hw.elim
    | succ m =>
      refine ⟨F', st', A', rl', ?_⟩
      unfold whL at hw
      cases zc : k st' with
      | bad => rw [zc] at hw; exact hw
      | exc c x s => rw [zc] at hw; exact fun cls oe F2 H2 A2 r xi s2 => hw cls oe σ' F2 H2 A2 r xi s2 .refl
      | ok kb st1 =>
        rw [zc] at hw
        simp only [R.bind] at hw
        intro F1 H1 A1 rl1 s1
        have s01 := s'.trans s1
        have hw1 := WantS.step hw s1 .refl
        cases kb with
        | false => exact WantS.nx hw1 rl1
        | true =>
          refine ⟨fun σ2 H2 => ∃ F2 st2 A2, Rl X.K ca F2 H2 st2 σ2 A2 ∧ Step F H A F2 H2 A2 ∧ Pin P σ σ2 ∧ WantS X.K ca P ro W F2 H2 A2 σ2 Z (whL k b m st2), fun σ2 H2 ⟨F2, st2, A2, r2, s2, p2, w2⟩ => ⟨m, Nat.lt_succ_self _, F2, st2, A2, r2, s2, p2, w2⟩, F1, st1, A1, rl1, ?_⟩
          simp only at hw1
          cases zb : b st1 with
          | bad => rw [zb] at hw1; exact hw1
          | exc c x s => rw [zb] at hw1; exact hw1
          | ok f s =>
            rw [zb] at hw1
            cases f with
            | nx => exact fun σ4 F4 H4 A4 r4 s4 p4 => ⟨F4, s, A4, r4, s01.trans s4, p'.trans p4, WantS.step hw1 s4 p4⟩
            | ct => exact fun σ4 F4 H4 A4 r4 s4 p4 => ⟨F4, s, A4, r4, s01.trans s4, p'.trans p4, WantS.step hw1 s4 p4⟩
            | bk => exact hw1
            | rt d => exact hw1
end
end Ev
namespace Ev
open PySem PySem.Spec PyProof.Rows L2
/-- the slots of the block's own names forgotten -/
def wipeS : List Nat → Sl → Sl
  | [], st => st
  | v :: vs, st => (wipeS vs st).set v .n
/-- .. and put back -/
def backS (st0 : Sl) : List Nat → Sl → Sl
  | [], st => st
  | v :: vs, st => match st0[v]? with
    | some c => (backS st0 vs st).set v c
    | none => backS st0 vs st
/-- no own data there -/
def frozenAt (st : Sl) (vs : List Nat) : Bool := vs.all fun v => match st[v]? with
  | some (.o _) => false
  | none => false
  | _ => true
def lcL (vs : List Nat) (g : Tg) (c : B') (el : E) : List D → Sl → R (List D)
  | [], st => .ok [] st
  | d :: ds, st => match g d st with
    | none => .bad
    | some st1 => (match c st1 with
      | .ok true st2 => (match el st2 with
        | .ok x st3 => (lcL vs g c el ds (wipeS vs st3)).bind fun xs st => .ok (x :: xs) st
        | _ => .bad)
      | .ok false st2 => lcL vs g c el ds (wipeS vs st2)
      | _ => .bad)
def eLc (vs : List Nat) (it : IE) (g : Tg) (c : B') (el : E) : E := fun st => (it st).bind fun items st => match frozenAt st vs && decide (st.length ≤ 64) with
  | true => (lcL vs g c el items (wipeS vs st)).bind fun xs st' => if xs.length < sizeLine then .ok (.lst xs) (backS st vs st') else .bad
  | false => .bad
def mYes : B' := fun st => .ok true st
section
variable {K : PySem.W.Frag} {ca : Ca} {F F' : Addr → Prop} {H H' : Hp} {A A' : List Addr}
theorem wipeS_get : ∀ {vs : List Nat} {st : Sl} {j : Nat}, (wipeS vs st)[j]? = if j ∈ vs then (st[j]?).map (fun _ => Cell.n) else st[j]?
  | [], st, j => by simp [wipeS]
  | v :: vs, st, j => by
    unfold wipeS
    have ih := wipeS_get (vs := vs) (st := st) (j := j)
    by_cases e : v = j
    · subst e
      rw [if_pos List.mem_cons_self]
      by_cases l : v < (wipeS vs st).length
      · rw [List.getElem?_set_self l]
        have l2 : v < st.length := by
          have : ∀ vs : List Nat, (wipeS vs st).length = st.length := fun vs => by
            induction vs with
            | nil => rfl
            | cons w ws ih => unfold wipeS; rw [List.length_set, ih]
          rw [this] at l; exact l
        rw [List.getElem?_eq_getElem l2]; rfl
      · rw [List.getElem?_eq_none (by rw [List.length_set]; omega)]
        have : ∀ vs : List Nat, (wipeS vs st).length = st.length := fun vs => by
          induction vs with
          | nil => rfl
          | cons w ws ih => unfold wipeS; rw [List.length_set, ih]
        rw [this] at l
        rw [List.getElem?_eq_none (by omega)]; rfl
    · rw [List.getElem?_set_ne e, ih]
      by_cases m : j ∈ vs
      · rw [if_pos m, if_pos (List.mem_cons_of_mem _ m)]
      · rw [if_neg m, if_neg (by simp only [List.mem_cons, not_or]; exact ⟨fun q => e q.symm, m⟩)]
theorem wipeS_idem {vs : List Nat} {st : Sl} : wipeS vs st = wipeS vs (wipeS vs st) := by
  refine List.ext_getElem? fun j => ?_
  rw [wipeS_get (st := wipeS vs st), wipeS_get (st := st)]
  by_cases m : j ∈ vs
  · simp only [if_pos m]; cases st[j]? <;> rfl
  · simp only [if_neg m]
theorem wipeS_len {vs : List Nat} {st : Sl} : (wipeS vs st).length = st.length := by
  induction vs with
  | nil => rfl
  | cons w ws ih => unfold wipeS; rw [List.length_set, ih]
/-- slots whose own content is the same, where they hold any -/
theorem RepS.eqs : ∀ {st : Sl} {σ σ' : L2.St} {B : List Addr}, RepS K ca F H st σ B → σ'.length = σ.length → (∀ i, i < st.length → st[i]? ≠ some Cell.n → σ'[i]? = σ[i]?) → RepS K ca F H st σ' B
  | [], σ, σ', B, h, l, e => by
    obtain ⟨rfl, rfl⟩ := h
    exact ⟨List.eq_nil_of_length_eq_zero l, rfl⟩
  | c :: cs, σ, σ', B, h, l, e => by
    obtain ⟨x, r, B1, C, rfl, rfl, h1, h2⟩ := h
    cases σ' with
    | nil => cases l
    | cons y r' =>
      refine ⟨y, r', B1, C, rfl, rfl, ?_, h2.eqs (by simpa using l) fun i hl hi => by simpa using e (i + 1) (by simpa using hl) (by simpa using hi)⟩
      cases c with
      | n => exact h1
      | f d => have := e 0 (by simp) (by simp); simp at this; rw [this]; exact h1
      | o d => have := e 0 (by simp) (by simp); simp at this; rw [this]; exact h1
theorem Rl.eqs {st : Sl} {σ σ' : L2.St} (h : Rl K ca F H st σ A) (l : σ'.length = σ.length) (e : ∀ i, i < st.length → st[i]? ≠ some Cell.n → σ'[i]? = σ[i]?) : Rl K ca F H st σ' A :=
  ⟨let ⟨B, q, p⟩ := h.rep; ⟨B, q.eqs l e, p⟩, h.nd, h.fd, h.nf⟩
/-- a slot without own data cleared -/
theorem Rl.clr {st : Sl} {σ : L2.St} {i : Nat} (h : Rl K ca F H st σ A) : ∃ A', (∀ a ∈ A', a ∈ A) ∧ Rl K ca F H (st.set i .n) σ A' := by
  cases z : st[i]? with
  | none =>
    rw [List.set_eq_of_length_le (by exact List.getElem?_eq_none_iff.mp z)]
    exact ⟨A, fun _ m => m, h⟩
  | some c =>
    obtain ⟨x, B, C, _, _, r, p⟩ := h.take z
    exact ⟨C, fun a m => p.mem_iff.mpr (List.mem_append_right _ m), r⟩
theorem Rl.wiped {st : Sl} {σ : L2.St} (h : Rl K ca F H st σ A) : ∀ {vs : List Nat}, ∃ A', (∀ a ∈ A', a ∈ A) ∧ Rl K ca F H (wipeS vs st) (wipe σ vs) A'
  | [] => ⟨A, fun _ m => m, h⟩
  | v :: vs => by
    obtain ⟨A1, s1, r1⟩ := Rl.wiped h (vs := vs)
    obtain ⟨A2, s2, r2⟩ := r1.clr (i := v)
    refine ⟨A2, fun a m => s1 a (s2 a m), ?_⟩
    unfold wipe wipeS
    refine r2.eqs (by rw [List.length_set]) fun j hl hj => ?_
    by_cases e : v = j
    · subst e
      exfalso
      exact hj (List.getElem?_set_self (by simpa using hl))
    · rw [List.getElem?_set_ne e]
theorem wipe_get : ∀ {vs : List Nat} {σ : L2.St} {j : Nat}, (wipe σ vs)[j]? = if j ∈ vs then (σ[j]?).map (fun _ => none) else σ[j]?
  | [], σ, j => by simp [wipe]
  | v :: vs, σ, j => by
    unfold wipe
    have ih := wipe_get (vs := vs) (σ := σ) (j := j)
    by_cases e : v = j
    · subst e
      rw [if_pos List.mem_cons_self]
      by_cases l : v < (wipe σ vs).length
      · rw [List.getElem?_set_self l]
        rw [wipe_length] at l
        rw [List.getElem?_eq_getElem l]; rfl
      · rw [List.getElem?_eq_none (by rw [List.length_set]; omega)]
        rw [wipe_length] at l
        rw [List.getElem?_eq_none (by omega)]; rfl
    · rw [List.getElem?_set_ne e, ih]
      by_cases m : j ∈ vs
      · rw [if_pos m, if_pos (List.mem_cons_of_mem _ m)]
      · rw [if_neg m, if_neg (by simp only [List.mem_cons, not_or]; exact ⟨fun q => e q.symm, m⟩)]
/-- the other slots are pinned while a block's target is stored -/
def cmpP (vs : List Nat) : List Nat := (List.range 64).filter fun j => !vs.contains j
theorem cmpP_mem {vs : List Nat} {j : Nat} (h : j < 64) (n : j ∉ vs) : j ∈ cmpP vs := by
  unfold cmpP
  rw [List.mem_filter]
  exact ⟨List.mem_range.mpr h, by simpa using n⟩
theorem wipe_pin {vs : List Nat} {σ σ2 : L2.St} (l : σ.length ≤ 64) (p : Pin (cmpP vs) (wipe σ vs) σ2) : wipe σ2 vs = wipe σ vs := by
  refine List.ext_getElem? fun j => ?_
  have l2 : σ2.length = σ.length := by rw [p.1, wipe_length]
  rw [wipe_get, wipe_get]
  by_cases m : j ∈ vs
  · rw [if_pos m, if_pos m]
    by_cases h : j < σ.length
    · rw [List.getElem?_eq_getElem h, List.getElem?_eq_getElem (by omega)]; rfl
    · rw [List.getElem?_eq_none (by omega), List.getElem?_eq_none (by omega)]
  · rw [if_neg m, if_neg m]
    by_cases h : j < 64
    · rw [p.2 j (cmpP_mem h m), wipe_get, if_neg m]
    · rw [List.getElem?_eq_none (by omega), List.getElem?_eq_none (by omega)]
/-- the block's own names again as they were -/
theorem Rl.backs {st0 st : Sl} {σ : L2.St} {vs : List Nat} {F0 : Addr → Prop} {H0 : Hp} {A0 : List Addr} (r0 : Rl K ca F0 H0 st0 σ A0) (fz : frozenAt st0 vs = true) (f : ∀ a, F0 a → F a) (k : ∀ a o, F0 a → H0 a = some o → H a = some o)
    (r : Rl K ca F H (wipeS vs st) (wipe σ vs) A) : Rl K ca F H (backS st0 vs (wipeS vs st)) σ A := by
  have start : Rl K ca F H (wipeS vs st) σ A := r.eqs (by rw [wipe_length]) fun i hi hn => by
    rw [wipe_get]
    by_cases m : i ∈ vs
    · exfalso
      rw [wipeS_get, if_pos m] at hn
      rw [wipeS_len] at hi
      exact hn (by rw [List.getElem?_eq_getElem hi]; rfl)
    · rw [if_neg m]
  -- one after another
  have go : ∀ ws : List Nat, (∀ v ∈ ws, v ∈ vs) → Rl K ca F H (backS st0 ws (wipeS vs st)) σ A ∧ ∀ v ∈ vs, ∀ c, (backS st0 ws (wipeS vs st))[v]? = some c → c = .n ∨ st0[v]? = some c := by
    intro ws
    induction ws with
    | nil =>
      refine fun _ => ⟨start, fun v m c e => .inl ?_⟩
      have e : (wipeS vs st)[v]? = some c := e
      rw [wipeS_get, if_pos m] at e
      cases z : st[v]? with
      | none => rw [z] at e; cases e
      | some c0 => rw [z] at e; cases e; rfl
    | cons v ws ih =>
      intro hv
      obtain ⟨r1, q1⟩ := ih fun w m => hv w (List.mem_cons_of_mem _ m)
      have mv := hv v List.mem_cons_self
      have fv := List.all_eq_true.mp fz v mv
      unfold backS
      cases z : st0[v]? with
      | none => exact ⟨r1, q1⟩
      | some c =>
        simp only [z] at fv ⊢
        obtain ⟨x, B, C, ex, rc, _, _⟩ := r0.take z
        have key : Rl K ca F H ((backS st0 ws (wipeS vs st)).set v c) σ A := by
          cases zz : (backS st0 ws (wipeS vs st))[v]? with
          | none => rw [List.set_eq_of_length_le (List.getElem?_eq_none_iff.mp zz)]; exact r1
          | some c1 =>
            -- what stands there has no own data
            have nod : ∃ x1, σ[v]? = some x1 ∧ Rl K ca F H ((backS st0 ws (wipeS vs st)).set v .n) σ A := by
              obtain ⟨x1, B1, C1, e1, rc1, r2, p2⟩ := r1.take zz
              have hB : B1 = [] := by
                rcases q1 v mv c1 zz with rfl | e2
                · exact rc1
                · rw [z] at e2
                  cases e2
                  cases c with
                  | n => exact rc1
                  | f d => exact rc1.1
                  | o d => cases fv
              subst hB
              exact ⟨x1, e1, r2.perm p2.symm⟩
            obtain ⟨x1, e1, r2⟩ := nod
            have hl : v < (backS st0 ws (wipeS vs st)).length := (List.getElem?_eq_some_iff.mp zz).1
            rw [ex] at e1
            cases e1
            have r3 := r2.put (c := c) (x := x) (B := []) (by rw [List.getElem?_set_self hl]) ex (by
              cases c with
              | n => rfl
              | o d => cases fv
              | f d => obtain ⟨_, w, e2, rp⟩ := rc; exact ⟨rfl, w, e2, Rep.mono f k _ _ rp⟩) (by simpa using r2.nd)
            rw [List.set_set] at r3
            exact r3
        refine ⟨key, fun w m c2 e2 => ?_⟩
        by_cases e : v = w
        · subst e
          by_cases hl : v < (backS st0 ws (wipeS vs st)).length
          · rw [List.getElem?_set_self hl] at e2
            cases e2
            exact .inr z
          · rw [List.getElem?_eq_none (by rw [List.length_set]; omega)] at e2; cases e2
        · rw [List.getElem?_set_ne e] at e2
          exact q1 w m c2 e2
  exact (go vs fun _ m => m).1
/-- the heap with the new list beside: what was stays -/
theorem Rl.beside {st : Sl} {σ : L2.St} {p : Addr} {o : HO} (r : Rl K ca F H st σ A) (nf : ¬ F p) (na : p ∉ A) : Rl K ca F (upd H p o) st σ A := by
  obtain ⟨B, q, e⟩ := r.rep
  have kp : ∀ (a : Addr) (u : HO), a ≠ p → H a = some u → upd H p o a = some u := fun a u n e => by rw [upd_ne n]; exact e
  refine ⟨⟨B, q.stay (fun _ z => z) (fun a u fa ea => kp a u (fun z => nf (z ▸ fa)) ea) (fun a m u ea => kp a u (fun z => na (z ▸ e.mem_iff.mp m)) ea) (fun a m => (r.nf a (e.mem_iff.mp m)).1), e⟩, r.nd, fun a fa => ?_, fun a m => ⟨(r.nf a m).1, ?_⟩⟩
  · obtain ⟨u, ea⟩ := r.fd a fa
    exact ⟨u, kp a u (fun z => nf (z ▸ fa)) ea⟩
  · obtain ⟨u, ea⟩ := (r.nf a m).2
    exact ⟨u, kp a u (fun z => na (z ▸ m)) ea⟩
theorem Reps.beside {ds : List D} {vs : List V} {p : Addr} {o : HO} (r : Reps K ca F H ds vs) (nf : ¬ F p) : Reps K ca F (upd H p o) ds vs := Reps.mono (fun _ z => z) (fun a u fa ea => by
  have n : a ≠ p := fun z => nf (by rw [← z]; exact fa)
  rw [upd_ne n]; exact ea) _ _ r
/-- the block's turns -/
theorem lc_turns {W0 : WX} {J : It} {vs : List Nat} {g : Tg} {c : B'} {el : E} {σ : L2.St} {D0 : Addr} {Qd : Hp → Prop} {items : List D} {F1 : Addr → Prop} {H1 : Hp} {A1 : List Addr} {st1 : Sl} (Bp : List Addr) (hBp : ∀ b ∈ Bp, b ∉ A1)
    (lσ : σ.length ≤ 64) (rl1 : Rl K ca F1 H1 st1 (wipe σ vs) A1) (hw1 : st1 = wipeS vs st1) (n1 : ¬ F1 D0) (n2 : D0 ∉ A1) (n3 : H1 D0 = none) (io : ∀ F H, (∀ a, F1 a → F a) → (∀ a o, F1 a ∨ a ∈ Bp → H1 a = some o → H a = some o) → ∀ i : Nat,
      (items.length ≤ i → J.stop i H) ∧ ∀ d, items[i]? = some d → J.go i H ∧ ∀ x H', J.yld i H x H' → ∃ F', Al F H F' H' ∧ Rep K ca F' H' d x)
    {xs : List D} {stE : Sl} (he : lcL vs g c el items st1 = .ok xs stE) (hl : xs.length < sizeLine)
    (fin : ∀ F H A acc, Rl K ca F H stE (wipe σ vs) A → stE = wipeS vs stE → ¬ F D0 → D0 ∉ A → H D0 = some (.lst acc) → Reps K ca F H xs acc → Step F1 H1 A1 F H (D0 :: A) → Qd H) :
    ∃ W : Nat → Nat → Hp → Prop, (∃ m, W 0 m (upd H1 D0 (.lst []))) ∧ ∀ i m H, W i m H →
      (J.stop i H ∧ Qd H) ∨ (J.go i H ∧ ∃ Nx : Hp → Prop, (∀ H', Nx H' → ∃ m', m' < m ∧ W (i + 1) m' H') ∧ ∀ x H', J.yld i H x H' → tT' K ca (cmpP vs) g x (wipe σ vs) H' fun σ2 H2 => wipe σ2 vs = wipe σ vs ∧ tT K ca W0 c σ2 H2 fun b H3 =>
        if b = true then tE K ca W0 el σ2 H3 fun y H4 => ∃ acc, H4 D0 = some (.lst acc) ∧ acc.length < sizeLine ∧ Nx (upd H4 D0 (.lst (acc ++ [y]))) else Nx H3) := by
  -- the state: what is made so far, what is left
  let St : List D → Hp → Prop := fun ds H => ∃ F A st acc done rest, Rl K ca F H st (wipe σ vs) A ∧ st = wipeS vs st ∧ ¬ F D0 ∧ D0 ∉ A ∧ H D0 = some (.lst acc) ∧ Reps K ca F H done acc ∧ Step F1 H1 A1 F H (D0 :: A) ∧ lcL vs g c el ds st = .ok rest stE ∧ done ++ rest = xs
  refine ⟨fun i m H => ∃ ds, items.drop i = ds ∧ m = ds.length ∧ St ds H, ⟨_, items, rfl, rfl, F1, A1, st1, [], [], xs, rl1.newO n3, hw1, n1, n2, upd_same, .nil, Step.newO n3, he, rfl⟩, ?_⟩
  rintro i m H ⟨ds, hd, rfl, F, A, st, acc, done, rest, rl, hw, nF, nA, hD, rp, s, hr, hx⟩
  have ioH := io F H s.fm (fun a o fa e => by
    refine s.keep a o e fun m => ?_
    rcases fa with fa | fa
    · exact (rl1.nf a m).1 fa
    · exact hBp a fa m) i
  cases ds with
  | nil =>
    have hr : R.ok [] st = R.ok rest stE := hr
    cases hr
    rw [List.append_nil] at hx
    subst hx
    exact .inl ⟨ioH.1 (List.drop_eq_nil_iff.mp hd), fin F H A acc rl hw nF nA hD rp s⟩
  | cons d ds =>
    obtain ⟨hi1, hi2⟩ := drop_get hd
    obtain ⟨go, yl⟩ := ioH.2 d hi1
    refine .inr ⟨go, fun H' => St ds H', fun H' q => ⟨ds.length, Nat.lt_succ_self _, ds, hi2, rfl, q⟩, fun x Hy hy => ?_⟩
    obtain ⟨Fy, al, rpx⟩ := yl x Hy hy
    have rly := al.rl rl
    have nFy : ¬ Fy D0 := fun q => by
      rcases al.fnew D0 q with z | ⟨z, _⟩
      · exact nF z
      · rw [hD] at z; cases z
    have hr : (match g d st with
      | none => R.bad
      | some st1 => (match c st1 with
        | .ok true st2 => (match el st2 with
          | .ok x st3 => (lcL vs g c el ds (wipeS vs st3)).bind fun xs st => .ok (x :: xs) st
          | _ => .bad)
        | .ok false st2 => lcL vs g c el ds (wipeS vs st2)
        | _ => .bad)) = .ok rest stE := hr
    cases zg : g d st with
    | none => rw [zg] at hr; cases hr
    | some st2 =>
      simp only [zg] at hr
      refine ⟨Fy, st, A, d, st2, rly, rpx, zg, fun σ2 F2 H2 A2 rl2 s2 p2 => ⟨wipe_pin lσ p2, F2, st2, A2, rl2, ?_⟩⟩
      have hwp := wipe_pin lσ p2
      have lσ2 : σ2.length = σ.length := by rw [p2.1, wipe_length]
      cases zc : c st2 with
      | bad => simp only [zc] at hr; cases hr
      | exc _ _ _ => simp only [zc] at hr; cases hr
      | ok b st3 =>
        intro F3 H3 A3 rl3 s3
        have s03 : Step F H A F3 H3 A3 := al.step.trans (s2.trans s3)
        have hD3 : H3 D0 = some (.lst acc) := s03.keep D0 _ hD nA
        have nF3 : ¬ F3 D0 := fun q => by
          rcases s03.fnew D0 q with z | z | z
          · exact nF z
          · rw [hD] at z; cases z
          · exact nA z
        have nA3 : D0 ∉ A3 := fun q => by
          rcases s03.anew D0 q with z | z
          · exact nA z
          · rw [hD] at z; cases z
        have rp3 := rp.step s03 rl
        cases b with
        | false =>
          simp only [zc] at hr
          show if false = true then _ else _
          rw [if_neg Bool.false_ne_true]
          obtain ⟨A4, sub, rl4⟩ := rl3.wiped (vs := vs)
          rw [hwp] at rl4
          refine ⟨F3, A4, wipeS vs st3, acc, done, rest, rl4, ?_, nF3, fun m => nA3 (sub _ m), hD3, rp3, ?_, hr, hx⟩
          · exact wipeS_idem
          · have t := pend_step (B1 := [D0]) s s03
            exact ⟨t.fm, t.keep, t.dom, t.fnew, fun y m => by
              rcases List.mem_cons.mp m with m | m
              · exact t.anew y (m ▸ List.mem_cons_self)
              · exact t.anew y (List.mem_cons_of_mem _ (sub y m))⟩
        | true =>
          simp only [zc] at hr
          show if true = true then _ else _
          rw [if_pos rfl]
          cases ze : el st3 with
          | bad => simp only [ze] at hr; cases hr
          | exc _ _ _ => simp only [ze] at hr; cases hr
          | ok y st4 =>
            simp only [ze] at hr
            refine ⟨F3, st3, A3, rl3, ?_⟩
            rw [ze]
            intro v F4 H4 A4 rl4 rp4 s4
            have s04 : Step F H A F4 H4 A4 := s03.trans s4
            have hD4 : H4 D0 = some (.lst acc) := s4.keep D0 _ hD3 nA3
            have nF4 : ¬ F4 D0 := fun q => by
              rcases s4.fnew D0 q with z | z | z
              · exact nF3 z
              · rw [hD3] at z; cases z
              · exact nA3 z
            have nA4 : D0 ∉ A4 := fun q => by
              rcases s4.anew D0 q with z | z
              · exact nA3 z
              · rw [hD3] at z; cases z
            cases zr : lcL vs g c el ds (wipeS vs st4) with
            | bad => simp only [zr, R.bind] at hr; cases hr
            | exc _ _ _ => simp only [zr, R.bind] at hr; cases hr
            | ok r2 st5 =>
              simp only [zr, R.bind] at hr
              cases hr
              have la : acc.length < sizeLine := by
                have e1 := rp.length
                have e2 := congrArg List.length hx
                rw [List.length_append, List.length_cons] at e2
                omega
              obtain ⟨A5, sub, rl5⟩ := rl4.wiped (vs := vs)
              rw [hwp] at rl5
              have rp5 := (rp3.step s4 rl3).append (.cons rp4 .nil)
              have nA5 : D0 ∉ A5 := fun m => nA4 (sub _ m)
              refine ⟨acc, hD4, la, F4, A5, wipeS vs st4, acc ++ [v], done ++ [y], r2, rl5.beside nF4 nA5, ?_, nF4, nA5, upd_same, rp5.beside nF4, ?_, zr, by rw [List.append_assoc]; exact hx⟩
              · exact wipeS_idem
              · have t := pend_step (B1 := [D0]) s s04
                refine ⟨t.fm, fun a o e n => ?_, fun a o e => ?_, t.fnew, fun y m => ?_⟩
                · have na : a ≠ D0 := fun z => by rw [z, n3] at e; cases e
                  rw [upd_ne na]
                  exact t.keep a o e n
                · have na : a ≠ D0 := fun z => by rw [z, n3] at e; cases e
                  rw [upd_ne na]
                  exact t.dom a o e
                · rcases List.mem_cons.mp m with m | m
                  · exact t.anew y (m ▸ List.mem_cons_self)
                  · exact t.anew y (List.mem_cons_of_mem _ (sub y m))
end
section
variable {X : Cx} {ca : Ca} {P : List Nat} {ro : Bool} {W : WX} {elt tg iter : Expr} {ifs : List Expr} {scope : Scope} {own : List (Str × Nat)} {pos pos' : Pos} {it : IE} {g : Tg} {c : B'} {el : E}
abbrev W0 : WX := fun _ _ _ _ => False
theorem lc_run {σ : L2.St} {H : Hp} {Q : VK} {vs : List Nat} (h : tO X.K ca W (eLc vs it g c el) σ H Q) : tLc (tI X.K ca W it) (tT' X.K ca (cmpP vs) g) (tT X.K ca W0 c) (tE X.K ca W0 el) vs σ H Q := by
  obtain ⟨F, st, A, rl, q⟩ := tO_iff.mp h
  refine ⟨F, st, A, rl, ?_⟩
  unfold eLc at q
  cases z : it st with
  | bad => rw [z] at q; exact q
  | exc c x s => rw [z] at q; exact q
  | ok items st1 =>
    rw [z] at q
    simp only [R.bind] at q
    intro J F1 H1 A1 rl1 io s1 D0 n3
    cases zf : frozenAt st1 vs && decide (st1.length ≤ 64) with
    | false => simp only [zf] at q; exact q.elim
    | true =>
      simp only [zf] at q
      obtain ⟨z1, z2⟩ := Bool.and_eq_true_iff.mp zf
      cases zl : lcL vs g c el items (wipeS vs st1) with
      | bad => simp only [zl] at q; exact q.elim
      | exc cx x s =>
        exfalso
        -- no exception comes out of the block
        have : ∀ (ds : List D) (st : Sl) c' x s, lcL vs g c el ds st ≠ .exc c' x s := by
          intro ds
          induction ds with
          | nil => intro st c' x s e; cases e
          | cons d ds ih =>
            intro st c' x s e
            unfold lcL at e
            split at e
            · cases e
            · split at e
              · split at e
                · rename_i st3 _
                  cases zz : lcL vs g c el ds (wipeS vs st3) with
                  | bad => rw [zz] at e; cases e
                  | exc _ _ _ => exact ih _ _ _ _ zz
                  | ok _ _ => rw [zz] at e; cases e
                · cases e
              · exact ih _ _ _ _ e
              · cases e
        exact this _ _ _ _ _ zl
      | ok xs stE =>
        simp only [zl] at q
        by_cases hl : xs.length < sizeLine
        · rw [if_pos hl] at q
          have lσ : σ.length ≤ 64 := by rw [rl1.len]; exact of_decide_eq_true z2
          obtain ⟨A2, sub, rl2⟩ := rl1.wiped (vs := vs)
          obtain ⟨n1, n2⟩ := rl1.fresh n3
          refine lc_turns [] (fun b m => by cases m) lσ rl2 ?_ n1 (fun m => n2 (sub _ m)) n3 io zl hl fun F3 H3 A3 acc rl3 hw nF nA hD rp s => ?_
          · exact wipeS_idem
          · rw [hw] at rl3
            have kF : ∀ a o, F1 a → H1 a = some o → H3 a = some o := fun a o fa e => s.keep a o e fun m => (rl2.nf a m).1 fa
            have r4 := Rl.backs rl1 z1 s.fm kF rl3
            rw [← hw] at r4
            have s2 : Step F1 H1 A1 F3 H3 ([D0] ++ A3) := (Step.sub sub).trans s
            exact q (.ref D0) F3 H3 A3 [D0] r4 ⟨D0, acc, rfl, rfl, nF, hD, rp⟩ (List.nodup_cons.mpr ⟨nA, rl3.nd⟩) (s1.trans s2)
        · rw [if_neg hl] at q; exact q.elim
theorem so_lc (hc : X.calm = true) (hN : X.N.Nodup) (hi : PI X tg iter (tI X.K ca W it)) (ok : BlkOk X.N X.env.scope scope own)
    (hg : ∀ (s : Shared) (H : Hp) (C : Addr) (cl : List (Str × Addr)) (fp : List Addr), PG (X.blk s H scope (compEnvC scope cl C X.env) fp) tg (tT' X.K ca (cmpP (own.map (·.2))) g))
    (ht : ∀ (s : Shared) (H : Hp) (C : Addr) (cl : List (Str × Addr)) (fp : List Addr), PTs (X.blk s H scope (compEnvC scope cl C X.env) fp) ifs (tT X.K ca W0 c))
    (he : ∀ (s : Shared) (H : Hp) (C : Addr) (cl : List (Str × Addr)) (fp : List Addr), PE (X.blk s H scope (compEnvC scope cl C X.env) fp) elt (tE X.K ca W0 el)) (hs : ∀ x, foldedSetIterable iter X.env x = pure x := by intro _; rfl) :
    PE X (.ListComp elt [⟨tg, iter, ifs, 0⟩] scope pos) (tO X.K ca W (eLc (own.map (·.2)) it g c el)) := PE.imp (pe_lc hc hN hi ok hg ht he hs) fun σ H Q h => lc_run h
theorem tYes_run {K : PySem.W.Frag} {σ : L2.St} {H : Hp} {Q : Bool → Hp → Prop} (h : tT K ca W mYes σ H Q) : tYes σ H Q := tT_ok h
theorem sts_nil : PTs X [] (tT X.K ca W mYes) := ⟨fun pins s σ H Q I h => (pts_nil (X := X)).run pins s σ H Q I (tYes_run h)⟩
theorem sts_one {cc : Expr} (h : PT X cc (tT X.K ca W c)) : PTs X [cc] (tT X.K ca W c) := pts_one h
/-- y = [..] on one line -/
theorem ss_setLc {i : Nat} {y : Str} {py spos : Pos} (frz : Bool) (hc : X.calm = true) (hN : X.N.Nodup) (hy : X.N[i]? = some y) (hyl : X.env.scope.names.lookup y = some .local)
    (hsw : swapsWith (.ListComp elt [⟨tg, iter, ifs, 0⟩] scope pos) (some (.Name y py)) spos.line X.env = pure true) (hi : PI X tg iter (tI X.K ca W it)) (ok : BlkOk X.N X.env.scope scope own)
    (hg : ∀ (s : Shared) (H : Hp) (C : Addr) (cl : List (Str × Addr)) (fp : List Addr), PG (X.blk s H scope (compEnvC scope cl C X.env) fp) tg (tT' X.K ca (cmpP (own.map (·.2))) g))
    (ht : ∀ (s : Shared) (H : Hp) (C : Addr) (cl : List (Str × Addr)) (fp : List Addr), PTs (X.blk s H scope (compEnvC scope cl C X.env) fp) ifs (tT X.K ca W0 c))
    (he : ∀ (s : Shared) (H : Hp) (C : Addr) (cl : List (Str × Addr)) (fp : List Addr), PE (X.blk s H scope (compEnvC scope cl C X.env) fp) elt (tE X.K ca W0 el)) (hp : P.contains i = false := by rfl) (hs : ∀ x, foldedSetIterable iter X.env x = pure x := by intro _; rfl) :
    PS X (.Assign [.Name y py] (.ListComp elt [⟨tg, iter, ifs, 0⟩] scope pos) spos) (tS X.K ca P ro W (match frz with | true => sSet i (eFr (eLc (own.map (·.2)) it g c el)) | false => sSetO i (eLc (own.map (·.2)) it g c el))) :=
  PS.imp (ps_setLc hc hN hy hyl hsw hi ok hg ht he hs) fun Z σ H h => by
    cases frz with
    | false => exact lc_run (tS_o (k := fun d st => setC i (.o d) st) h fun d v F H st A B F0 H0 A0 r ow nd s h => setC_o r ow nd s h hp)
    | true =>
      have h1 : tE X.K ca W (eFr (eLc (own.map (·.2)) it g c el)) σ H fun v H1 => gName i v σ H1 Z.nx := tS_e (k := fun d st => setC i (.f d) st) h fun d v F H st A r rp h => setC_f r rp h hp
      refine lc_run (tO_iff.mpr ?_)
      obtain ⟨F, st, A, rl, q⟩ := tE_iff.mp h1
      refine ⟨F, st, A, rl, ?_⟩
      unfold eFr at q
      cases zz : eLc (own.map (·.2)) it g c el st with
      | bad => rw [zz] at q; exact q
      | exc c x s => rw [zz] at q; exact q
      | ok d s1 =>
        rw [zz] at q
        simp only [R.bind] at q
        cases gz : fzOk d with
        | false => simp only [gz] at q; exact q.elim
        | true =>
          simp only [gz] at q
          intro v F1 H1 A1 B rl1 ow nd s1
          have dj : ∀ a ∈ B, a ∉ A1 := fun a m m' => (List.nodup_append.mp nd).2.2 a m a m' rfl
          refine q v _ H1 A1 (rl1.fz (B := B) (fun a m => (ow.nf a m).2) dj) (ow.fz gz) ⟨fun a m => .inl (s1.fm a m), s1.keep, s1.dom, fun a m => ?_, fun a m => s1.anew a (List.mem_append_right _ m)⟩
          rcases m with m | m
          · exact s1.fnew a m
          · rcases s1.anew a (List.mem_append_left _ m) with z | z
            · exact .inr (.inr z)
            · exact .inr (.inl z)
end
end Ev
namespace Ev
open PySem PySem.Spec PyProof.Rows L2
def setAll : List Nat → List AV → Sl → Option Sl
  | [], [], st => some st
  | i :: is, .d d :: as, st => (match st[i]? with
    | some _ => setAll is as (st.set i (.f d))
    | none => none)
  | i :: is, .o d :: as, st => (match st[i]? with
    | some _ => setAll is as (st.set i (.o d))
    | none => none)
  | _, _, _ => none
def sPar (is : List Nat) (ps : List Arg) : S := fun st => (evArgs ps st).bind fun as st => match setAll is as st with
  | some st => .ok .nx st
  | none => .bad
def setV : List Nat → List V → L2.St → L2.St
  | i :: is, v :: vs, σ => setV is vs (σ.set i (some v))
  | _, _, σ => σ
section
variable {K : PySem.W.Frag} {ca : Ca} {P : List Nat} {ro : Bool} {W : WX} {F F1 : Addr → Prop} {H H1 : Hp} {A A1 : List Addr} {σ : L2.St}
theorem setAll_run : ∀ {is : List Nat} {as : List AV} {st st' : Sl} {σ σ0 : L2.St} {vs : List V} {A B : List Addr} {F0 : Addr → Prop} {H0 : Hp}, Rl K ca F H st σ A → RepVs K ca F H σ0 as vs B → (B ++ A).Nodup → setAll is as st = some st' → (∀ i ∈ is, P.contains i = false) →
    ∃ A', Rl K ca F H st' (setV is vs σ) A' ∧ (∀ a ∈ A', a ∈ B ++ A) ∧ Pin P σ (setV is vs σ)
  | [], as, st, st', σ, σ0, vs, A, B, F0, H0, rl, rv, nd, e, hp => by
    cases as with
    | cons a as => cases a <;> cases e
    | nil =>
      cases e
      exact ⟨A, by cases vs <;> exact rl, fun a m => List.mem_append_right _ m, by cases vs <;> exact .refl⟩
  | i :: is, as, st, st', σ, σ0, vs, A, B, F0, H0, rl, rv, nd, e, hp => by
    cases as with
    | nil => cases e
    | cons a as =>
      obtain ⟨v, r, B1, B2, rfl, rfl, rv1, rvs⟩ := rv
      cases a with
      | sl j => cases e
      | d d =>
        obtain ⟨rfl, rp⟩ := rv1
        cases z : st[i]? with
        | none => simp only [setAll, z] at e; cases e
        | some c =>
          simp only [setAll, z] at e
          obtain ⟨C, sub, r2⟩ := rl.asg (i := i) (c := .f d) (v := v) (B := []) (List.getElem?_eq_some_iff.mp z).1 ⟨rfl, v, rfl, rp⟩ rl.nd
          have nd2 : (B2 ++ C).Nodup := List.nodup_append.mpr ⟨(List.nodup_append.mp nd).1, r2.nd, fun x m y m' => (List.nodup_append.mp nd).2.2 x m y (sub y m')⟩
          obtain ⟨A', r3, s3, p3⟩ := setAll_run (F0 := F0) (H0 := H0) r2 rvs nd2 e fun j m => hp j (List.mem_cons_of_mem _ m)
          refine ⟨A', r3, fun x m => ?_, (Pin.set (hp i List.mem_cons_self)).trans p3⟩
          rcases List.mem_append.mp (s3 x m) with q | q
          · exact List.mem_append_left _ q
          · exact List.mem_append_right _ (sub x q)
      | o d =>
        cases z : st[i]? with
        | none => simp only [setAll, z] at e; cases e
        | some c =>
          simp only [setAll, z] at e
          rw [List.append_assoc] at nd
          have p : (B1 ++ (B2 ++ A)).Perm (B2 ++ (B1 ++ A)) := by
            rw [← List.append_assoc, ← List.append_assoc]
            exact List.perm_append_comm.append_right A
          have ndp := p.nodup_iff.mp nd
          obtain ⟨C, sub, r2⟩ := rl.asg (i := i) (c := .o d) (v := v) (B := B1) (List.getElem?_eq_some_iff.mp z).1 ⟨v, rfl, rv1⟩ (List.nodup_append.mp ndp).2.1
          have sub2 : ∀ x ∈ B1 ++ C, x ∈ B1 ++ A := fun x m => (List.mem_append.mp m).elim (fun q => List.mem_append_left _ q) fun q => List.mem_append_right _ (sub x q)
          have nd2 : (B2 ++ (B1 ++ C)).Nodup := List.nodup_append.mpr ⟨(List.nodup_append.mp ndp).1, r2.nd, fun x m y m' => (List.nodup_append.mp ndp).2.2 x m y (sub2 y m')⟩
          obtain ⟨A', r3, s3, p3⟩ := setAll_run (F0 := F0) (H0 := H0) r2 rvs nd2 e fun j m => hp j (List.mem_cons_of_mem _ m)
          refine ⟨A', r3, fun x m => ?_, (Pin.set (hp i List.mem_cons_self)).trans p3⟩
          rw [List.append_assoc]
          rcases List.mem_append.mp (s3 x m) with q | q
          · exact List.mem_append_right _ (List.mem_append_left _ q)
          · rcases List.mem_append.mp (sub2 x q) with q | q
            · exact List.mem_append_left _ q
            · exact List.mem_append_right _ (List.mem_append_right _ q)
/-- arguments ahead of a statement's rest -/
theorem par_run {is : List Nat} {ps : List Arg} {Z : Ends} {H : Hp} {Q : List V → Hp → Prop} (hp : ∀ i ∈ is, P.contains i = false) (h : tS K ca P ro W (sPar is ps) Z σ H)
    (q : ∀ vs H', vs.length = is.length → Z.nx (setV is vs σ) H' → (∀ p o, H' p = none → Z.nx (setV is vs σ) (upd H' p o)) → Q vs H') : tGs K ca W ps σ H Q := by
  obtain ⟨F, st, A, rl, h⟩ := h
  refine args_run rl ?_
  unfold sPar at h
  cases z : evArgs ps st with
  | bad => rw [z] at h; exact h
  | exc c x s => rw [z] at h; exact fun cls oe F' H' A' r xi s => h cls oe σ F' H' A' r xi s .refl
  | ok as st1 =>
    rw [z] at h
    simp only [R.bind] at h
    intro vs F1 H1 A1 B rl1 rvs nd s1
    cases z2 : setAll is as st1 with
    | none => simp only [z2] at h; exact h.elim
    | some st2 =>
      simp only [z2] at h
      obtain ⟨A', r2, sub, p2⟩ := setAll_run (F0 := F1) (H0 := H1) rl1 rvs nd z2 hp
      have sN := s1.trans (Step.sub sub)
      refine q vs H1 ?_ (h _ F1 H1 A' r2 sN p2) fun p o n => h _ F1 _ A' (r2.newO n) (sN.trans ⟨fun _ z => z, fun a u e _ => by rw [upd_ne (ne_of_none e n)]; exact e, fun a u e => ⟨u, by rw [upd_ne (ne_of_none e n)]; exact e⟩, fun _ z => .inl z, fun _ z => .inl z⟩) p2
      have len : ∀ {is : List Nat} {as : List AV} {st st' : Sl}, setAll is as st = some st' → as.length = is.length := by
        intro is
        induction is with
        | nil => intro as st st' e; cases as with | nil => rfl | cons a as => cases a <;> cases e
        | cons i is ih =>
          intro as st st' e
          cases as with
          | nil => cases e
          | cons a as =>
            cases a with
            | sl j => cases e
            | d d =>
              cases zz : st[i]? with
              | none => simp only [setAll, zz] at e; cases e
              | some c => simp only [setAll, zz] at e; rw [List.length_cons, List.length_cons, ih e]
            | o d =>
              cases zz : st[i]? with
              | none => simp only [setAll, zz] at e; cases e
              | some c => simp only [setAll, zz] at e; rw [List.length_cons, List.length_cons, ih e]
      rw [RepVs.sl rvs, len z2]
end
section
variable {X : Cx} {ca : Ca} {P : List Nat} {ro : Bool} {W : WX} {a b c : Expr} {es ts : List Expr} {ps : List Arg} {i j l : Nat} {x y z : Str} {px py pz pt pos : Pos} {kt k2 : Nat} {pt2 : Pos} {is : List Nat}
theorem ss_par2 (hc : X.calm = true) (hN : X.N.Nodup) (hi : X.N[i]? = some x) (hj : X.N[j]? = some y) (hij : i ≠ j) (hx : X.env.scope.names.lookup x = some .local) (hy : X.env.scope.names.lookup y = some .local) (ha : PA X [a, b] (tGs X.K ca W ps))
    (hw : swappedStores [.Tuple [.Name x px, .Name y py] kt pt] (.Tuple [a, b] k2 pt2) X.env = pure (some [x, y])) (hp : [i, j].all (fun i => !P.contains i) = true := by rfl)
    (hs : swapsWithSole [.Tuple [.Name x px, .Name y py] kt pt] (.Tuple [a, b] k2 pt2) pos.line X.env = pure false := by rfl) :
    PS X (.Assign [.Tuple [.Name x px, .Name y py] kt pt] (.Tuple [a, b] k2 pt2) pos) (tS X.K ca P ro W (sPar [i, j] ps)) :=
  PS.imp (ps_par hc hN hi hj hij hx hy ha hw hs) fun Z σ H h => par_run (fun i m => by simpa using List.all_eq_true.mp hp i m) h fun vs H' l q _ => by
    match vs, l with
    | [v, w], _ => exact ⟨v, w, rfl, q⟩
theorem ss_par3 (hc : X.calm = true) (hN : X.N.Nodup) (hi : X.N[i]? = some x) (hj : X.N[j]? = some y) (hl : X.N[l]? = some z) (hij : i ≠ j) (hil : i ≠ l) (hjl : j ≠ l) (hx : X.env.scope.names.lookup x = some .local) (hy : X.env.scope.names.lookup y = some .local) (hz : X.env.scope.names.lookup z = some .local)
    (ha : PA X [a, b, c] (tGs X.K ca W ps)) (hw : swappedStores [.Tuple [.Name x px, .Name y py, .Name z pz] kt pt] (.Tuple [a, b, c] k2 pt2) X.env = pure (some [x, y, z])) (hp : [i, j, l].all (fun i => !P.contains i) = true := by rfl)
    (hs : swapsWithSole [.Tuple [.Name x px, .Name y py, .Name z pz] kt pt] (.Tuple [a, b, c] k2 pt2) pos.line X.env = pure false := by rfl) :
    PS X (.Assign [.Tuple [.Name x px, .Name y py, .Name z pz] kt pt] (.Tuple [a, b, c] k2 pt2) pos) (tS X.K ca P ro W (sPar [i, j, l] ps)) :=
  PS.imp (ps_par3 hc hN hi hj hl hij hil hjl hx hy hz ha hw hs) fun Z σ H h => par_run (fun i m => by simpa using List.all_eq_true.mp hp i m) h fun vs H' l q _ => by
    match vs, l with
    | [v, w, u], _ => exact ⟨v, w, u, rfl, q⟩
/-- names one after another -/
def gNames : List Nat → TGs
  | [] => gNil
  | i :: is => gCons (gName i) (gNames is)
theorem gNames_run : ∀ {is : List Nat} {vs : List V} {σ : L2.St} {H : Hp} {Q : L2.St → Hp → Prop}, vs.length = is.length → Q (setV is vs σ) H → gNames is vs σ H Q
  | [], vs, σ, H, Q, l, q => by
    have : vs = [] := List.eq_nil_of_length_eq_zero l
    subst this
    exact ⟨rfl, q⟩
  | i :: is, vs, σ, H, Q, l, q => by
    cases vs with
    | nil => cases l
    | cons v vs => exact ⟨v, vs, rfl, gNames_run (by simpa using l) q⟩
/-- .. where the tuple is laid -/
theorem ss_parT (hc : X.calm = true) (hg : PGs X ts (gNames is)) (ha : PA X es (tGs X.K ca W ps)) (hle : is.length ≤ 1000 := by decide) (hn : (assignEach ts X.env).length = is.length := by rfl) (hst : (assignEach ts X.env).findIdx? (·.1) = none := by rfl) (hp : is.all (fun i => !P.contains i) = true := by rfl)
    (hs : swapsWithSole [.Tuple ts kt pt] (.Tuple es k2 pt2) pos.line X.env = pure false := by rfl) (hw : swappedStores [.Tuple ts kt pt] (.Tuple es k2 pt2) X.env = pure none := by rfl)
    (h1 : (assignEach [.Tuple ts kt pt] X.env).map (·.2) = [assign (.Tuple ts kt pt) X.env] := by rfl) : PS X (.Assign [.Tuple ts kt pt] (.Tuple es k2 pt2) pos) (tS X.K ca P ro W (sPar is ps)) :=
  PS.imp (ps_asg (pe_tup ha) (pg_tup hc hg hn hst) hs hw h1) fun Z σ H h => par_run (fun i m => by simpa using List.all_eq_true.mp hp i m) h fun vs H' l _ q =>
    ⟨by rw [l]; exact Nat.le_of_lt (small1000 hle), fun p n => ⟨p, vs, rfl, .of upd_same, l, gNames_run l (q p _ n)⟩⟩
end
def keepF (P : List Nat) : Nat → Sl → Sl
  | _, [] => []
  | i, c :: cs => (match P.contains i with
    | true => c
    | false => .n) :: keepF P (i + 1) cs
/-- the slots N, the parameters np of them, those at P may be changed by the def -/
def runF (N np : Nat) (P : List Nat) (b : S) : MF := fun cs => match decide (cs.length = np) with
  | true => (match b (cs ++ List.replicate (N - np) .n) with
    | .ok (.rt d) st => .ok d (keepF P 0 (st.take np))
    | .ok .nx st => .ok .non (keepF P 0 (st.take np))
    | .exc c x st => .exc c x (keepF P 0 (st.take np))
    | _ => .bad)
  | false => .bad
section
variable {K : PySem.W.Frag} {ca : Ca} {F : Addr → Prop} {H : Hp} {A : List Addr}
theorem RepS.keep {P : List Nat} : ∀ {st : Sl} {σ : L2.St} {B : List Addr} (i : Nat), RepS K ca F H st σ B → ∃ B', RepS K ca F H (keepF P i st) σ B' ∧ B'.Sublist B
  | [], σ, B, i, h => ⟨B, h, .refl _⟩
  | c :: cs, σ, B, i, h => by
    obtain ⟨x, r, B1, C, rfl, rfl, h1, h2⟩ := h
    obtain ⟨C', h3, s⟩ := RepS.keep (P := P) (i + 1) h2
    unfold keepF
    cases P.contains i with
    | true => exact ⟨B1 ++ C', ⟨x, r, B1, C', rfl, rfl, h1, h3⟩, s.append_left B1⟩
    | false => exact ⟨C', ⟨x, r, [], C', rfl, rfl, rfl, h3⟩, s.trans (List.sublist_append_right _ _)⟩
theorem RepS.takeN : ∀ {st : Sl} {σ : L2.St} {B : List Addr} (n : Nat), RepS K ca F H st σ B → ∃ B', RepS K ca F H (st.take n) (σ.take n) B' ∧ B'.Sublist B
  | st, σ, B, 0, h => ⟨[], by rw [List.take_zero, List.take_zero]; exact ⟨rfl, rfl⟩, List.nil_sublist _⟩
  | [], σ, B, n + 1, h => by
    obtain ⟨rfl, rfl⟩ := h
    exact ⟨[], ⟨rfl, rfl⟩, .refl _⟩
  | c :: cs, σ, B, n + 1, h => by
    obtain ⟨x, r, B1, C, rfl, rfl, h1, h2⟩ := h
    obtain ⟨C', h3, s⟩ := RepS.takeN n h2
    exact ⟨B1 ++ C', ⟨x, r.take n, B1, C', rfl, rfl, h1, h3⟩, s.append_left B1⟩
theorem keepF_get {P : List Nat} : ∀ {st : Sl} {i j : Nat}, (keepF P i st)[j]? = (st[j]?).map fun c => match P.contains (i + j) with | true => c | false => Cell.n
  | [], i, j => by simp [keepF]
  | c :: cs, i, 0 => by simp [keepF]
  | c :: cs, i, j + 1 => by
    unfold keepF
    rw [List.getElem?_cons_succ, List.getElem?_cons_succ, keepF_get]
    congr 1
    funext c
    rw [show i + 1 + j = i + (j + 1) by omega]
theorem RepS.ext : ∀ {st : Sl} {σ : L2.St} {B : List Addr} (n : Nat), RepS K ca F H st σ B → RepS K ca F H (st ++ List.replicate n .n) (σ ++ List.replicate n none) B
  | [], σ, B, n, h => by
    obtain ⟨rfl, rfl⟩ := h
    rw [List.nil_append, List.nil_append]
    induction n with
    | zero => exact ⟨rfl, rfl⟩
    | succ n ih => exact ⟨none, _, [], [], rfl, rfl, rfl, ih⟩
  | c :: cs, σ, B, n, h => by
    obtain ⟨x, r, B1, C, rfl, rfl, h1, h2⟩ := h
    exact ⟨x, _, B1, C, rfl, rfl, h1, h2.ext n⟩
/-- what the caller gets back of the slots -/
theorem Rl.keep {P : List Nat} {st : Sl} {σ σ0 : L2.St} {vs : List V} (h : Rl K ca F H st σ A) (p : Pin P σ0 σ) (e : ∀ i, i < vs.length → σ0[i]? = some ((vs[i]?))) (l : vs.length ≤ σ0.length) :
    ∃ A', (∀ a ∈ A', a ∈ A) ∧ Rl K ca F H (keepF P 0 (st.take vs.length)) (vs.map some) A' := by
  obtain ⟨B, q, pm⟩ := h.rep
  obtain ⟨B1, q1, s1⟩ := q.takeN vs.length
  obtain ⟨B2, q2, s2⟩ := RepS.keep (P := P) 0 q1
  have sub : B2.Sublist B := s2.trans s1
  have lσ : σ.length = σ0.length := p.1
  have q3 : RepS K ca F H (keepF P 0 (st.take vs.length)) (vs.map some) B2 := q2.eqs (by rw [List.length_map, List.length_take]; omega) fun i hi hn => by
    rw [keepF_get] at hn
    cases z : (st.take vs.length)[i]? with
    | none => rw [← q2.length, List.length_take] at hi; rw [List.getElem?_eq_none_iff, List.length_take] at z; have := q.length; omega
    | some c =>
      rw [z] at hn
      simp only [Option.map_some, Nat.zero_add] at hn
      cases zp : P.contains i with
      | false => rw [zp] at hn; exact absurd rfl hn
      | true =>
        have hv : i < vs.length := by rw [← q2.length, List.length_take] at hi; omega
        rw [List.getElem?_take, if_pos hv, p.2 i (List.contains_iff_mem.mp zp), e i hv, List.getElem?_map]
        rw [List.getElem?_eq_getElem hv]; rfl
  refine ⟨B2, fun a m => pm.mem_iff.mp (sub.subset m), ⟨B2, q3, .refl _⟩, (pm.nodup_iff.mpr h.nd).sublist sub, h.fd, fun a m => h.nf a (pm.mem_iff.mp (sub.subset m))⟩
end
section
variable {Pr : Program} {w : World} {K : PySem.W.Frag} {mg : Str → Option Value} {base : Heap} {ca : Ca} {P : List Nat} {b : S} {x qual : Str} {st : Stmt} {f : Addr} {fd : FuncData} {N ps : List Str} {k : Nat}
theorem start_get {vs : List V} {i : Nat} (h : i < vs.length) : (L2.start N vs)[i]? = some vs[i]? := by
  unfold L2.start
  rw [List.getElem?_append_left (by rw [List.length_map]; exact h), List.getElem?_map, List.getElem?_eq_getElem h]; rfl
theorem fnE (F : Fun K x qual st f fd) (S : FnScope N ps (defScope st))
    (body : ∀ (cdv : Value) (A : Around) (outer : List Env) (s : Shared) (H : Hp) (E : XK), Room k (A.deeper (envOfC qual (defScope st) s.heap.objs.size f cdv)) →
      PSs (cxOf (L2.CX Pr w) Pr w K mg base N qual (defScope st) f cdv A outer s H E) (defBody st) (tS K ca P false (fun cls d _ H => E cls d H) b)) :
    FnOk Pr w K mg base (L2.CX Pr w) (k + 1) f fd ps (spE K ca (runF N.length ps.length P b)) := by
  have len : ∀ vs H Q E, spE K ca (runF N.length ps.length P b) vs H Q E → vs.length = ps.length := fun vs H Q E h => by
    obtain ⟨F, cs, A, rl, q⟩ := h
    unfold runF at q
    cases z : decide (cs.length = ps.length) with
    | false => simp only [z] at q
    | true =>
      have l := rl.len
      rw [List.length_map] at l
      rw [l]
      exact of_decide_eq_true z
  refine F.okX S len fun cdv A outer s H vs Q E hr h => ⟨_, body cdv A outer s H E hr, ?_⟩
  have hl := len vs H Q E h
  obtain ⟨F, cs, A, rl, q⟩ := h
  unfold runF at q
  cases z : decide (cs.length = ps.length) with
  | false => simp only [z] at q
  | true =>
    simp only [z] at q
    obtain ⟨B, rs, pm⟩ := rl.rep
    have rl0 : Rl K ca F H (cs ++ List.replicate (N.length - ps.length) .n) (L2.start N vs) A := by
      unfold L2.start
      rw [hl]
      exact ⟨⟨B, rs.ext _, pm⟩, rl.nd, rl.fd, rl.nf⟩
    have lv : vs.length ≤ (L2.start N vs).length := by unfold L2.start; rw [List.length_append, List.length_map]; omega
    refine ⟨F, _, A, rl0, ?_⟩
    have kp : ∀ {st' σ' F' H' A'}, Rl K ca F' H' st' σ' A' → Pin P (L2.start N vs) σ' → ∃ A'', (∀ a ∈ A'', a ∈ A') ∧ Rl K ca F' H' (keepF P 0 (st'.take ps.length)) (vs.map some) A'' := fun rl' p => by
      rw [← hl]
      exact rl'.keep p (fun i h => start_get h) lv
    cases zb : b (cs ++ List.replicate (N.length - ps.length) .n) with
    | bad => simp only [zb] at q
    | exc c x st' =>
      simp only [zb] at q
      intro cls oe σ' F' H' A' rl' xi s p
      obtain ⟨A'', sub, rl2⟩ := kp rl' p
      exact q cls oe F' H' A'' rl2 xi (s.trans (Step.sub sub))
    | ok fl st' =>
      cases fl with
      | bk => simp only [zb] at q
      | ct => simp only [zb] at q
      | nx =>
        simp only [zb] at q
        intro σ' F' H' A' rl' s p
        obtain ⟨A'', sub, rl2⟩ := kp rl' p
        exact q .non F' H' A'' rl2 non_rep (s.trans (Step.sub sub))
      | rt d =>
        simp only [zb] at q
        intro v σ' F' H' A' rl' rp s p
        obtain ⟨A'', sub, rl2⟩ := kp rl' p
        exact q v F' H' A'' rl2 rp (s.trans (Step.sub sub))
/-- a def whose answer is new -/
def runO (N np : Nat) (P : List Nat) (b : S) : MF := fun cs => match decide (cs.length = np) with
  | true => (match b (cs ++ List.replicate (N - np) .n) with
    | .ok (.rt d) st => .ok d (keepF P 0 (st.take np))
    | .exc c x st => .exc c x (keepF P 0 (st.take np))
    | _ => .bad)
  | false => .bad
theorem fnO (F : Fun K x qual st f fd) (S : FnScope N ps (defScope st))
    (body : ∀ (cdv : Value) (A : Around) (outer : List Env) (s : Shared) (H : Hp) (E : XK), Room k (A.deeper (envOfC qual (defScope st) s.heap.objs.size f cdv)) →
      PSs (cxOf (L2.CX Pr w) Pr w K mg base N qual (defScope st) f cdv A outer s H E) (defBody st) (tS K ca P true (fun cls d _ H => E cls d H) b)) :
    FnOk Pr w K mg base (L2.CX Pr w) (k + 1) f fd ps (spO K ca (runO N.length ps.length P b)) := by
  have len : ∀ vs H Q E, spO K ca (runO N.length ps.length P b) vs H Q E → vs.length = ps.length := fun vs H Q E h => by
    obtain ⟨F, cs, A, rl, q⟩ := h
    unfold runO at q
    cases z : decide (cs.length = ps.length) with
    | false => simp only [z] at q
    | true =>
      have l := rl.len
      rw [List.length_map] at l
      rw [l]
      exact of_decide_eq_true z
  refine F.okX S len fun cdv A outer s H vs Q E hr h => ⟨_, body cdv A outer s H E hr, ?_⟩
  have hl := len vs H Q E h
  obtain ⟨F, cs, A, rl, q⟩ := h
  unfold runO at q
  cases z : decide (cs.length = ps.length) with
  | false => simp only [z] at q
  | true =>
    simp only [z] at q
    obtain ⟨B, rs, pm⟩ := rl.rep
    have rl0 : Rl K ca F H (cs ++ List.replicate (N.length - ps.length) .n) (L2.start N vs) A := by
      unfold L2.start
      rw [hl]
      exact ⟨⟨B, rs.ext _, pm⟩, rl.nd, rl.fd, rl.nf⟩
    have lv : vs.length ≤ (L2.start N vs).length := by unfold L2.start; rw [List.length_append, List.length_map]; omega
    refine ⟨F, _, A, rl0, ?_⟩
    have kp : ∀ {st' σ' F' H' A'}, Rl K ca F' H' st' σ' A' → Pin P (L2.start N vs) σ' → ∃ A'', (∀ a ∈ A'', a ∈ A') ∧ Rl K ca F' H' (keepF P 0 (st'.take ps.length)) (vs.map some) A'' := fun rl' p => by
      rw [← hl]
      exact rl'.keep p (fun i h => start_get h) lv
    cases zb : b (cs ++ List.replicate (N.length - ps.length) .n) with
    | bad => simp only [zb] at q
    | exc c x st' =>
      simp only [zb] at q
      intro cls oe σ' F' H' A' rl' xi s p
      obtain ⟨A'', sub, rl2⟩ := kp rl' p
      exact q cls oe F' H' A'' rl2 xi (s.trans (Step.sub sub))
    | ok fl st' =>
      cases fl with
      | bk => simp only [zb] at q
      | ct => simp only [zb] at q
      | nx => simp only [zb] at q
      | rt d =>
        simp only [zb] at q
        intro v σ' F' H' A' D rl' ow nd s p
        obtain ⟨A'', sub, rl2⟩ := kp rl' p
        have sub2 : ∀ a ∈ D ++ A'', a ∈ D ++ A' := fun a m => (List.mem_append.mp m).elim (fun q => List.mem_append_left _ q) fun q => List.mem_append_right _ (sub a q)
        exact q v F' H' A'' D rl2 ow (List.nodup_append.mpr ⟨(List.nodup_append.mp nd).1, rl2.nd, fun x m y m' => (List.nodup_append.mp nd).2.2 x m y (sub y m')⟩) (s.trans (Step.sub sub2))
end
def sNever : S := fun _ => .bad
theorem ss_never {X : Cx} {ca : Ca} {P : List Nat} {ro : Bool} {W : WX} {st : Stmt} : PS X st (tS X.K ca P ro W sNever) := PS.imp ps_never fun Z σ H ⟨F, st, A, rl, h⟩ => h
def sRaise (c : Str) : S := fun st => .exc c none st
end Ev
namespace Ev
open PySem PySem.Spec PyProof.Rows L2
section
variable {K : PySem.W.Frag} {ca : Ca} {F : Addr → Prop} {H : Hp}
theorem VwA.inv1 {d : D} {xs : List V} (h : VwA K ca F H [d] xs) : ∃ x, xs = [x] ∧ Vw K ca F H d x := by
  obtain ⟨v, r, rfl, w, e⟩ := h
  cases e
  exact ⟨v, rfl, w⟩
theorem VwA.inv2 {d e : D} {xs : List V} (h : VwA K ca F H [d, e] xs) : ∃ x y, xs = [x, y] ∧ Vw K ca F H d x ∧ Vw K ca F H e y := by
  obtain ⟨v, r, rfl, w, e⟩ := h
  obtain ⟨y, rfl, w2⟩ := VwA.inv1 e
  exact ⟨v, y, rfl, w, w2⟩
theorem rep_int {i : Int} : Rep K ca F H (.int i) (.int i) := by unfold Rep; rfl
theorem rep_bl {i : Bool} : Rep K ca F H (.bl i) (.bl i) := by unfold Rep; rfl
theorem rep_str {i : Str} : Rep K ca F H (.str i) (.str i) := by unfold Rep; rfl
theorem rep_tup {ds : List D} {v : V} (h : Rep K ca F H (.tup ds) v) : ∃ a vs, v = .ref a ∧ FrT K F H a vs ∧ Reps K ca F H ds vs := by unfold Rep at h; exact h
theorem new_tup {p : Addr} {ds : List D} {vs : List V} {Q : VK} (q : ∀ v F' H', Al F H F' H' → Rep K ca F' H' (.tup ds) v → Q v H') (r : Reps K ca F H ds vs) (n : H p = none) : Q (.ref p) (upd H p (.tup vs)) := by
  refine q _ _ _ (Al.new (F := F) n) ?_
  unfold Rep
  exact ⟨p, vs, rfl, .inl ⟨.inr rfl, .inl upd_same⟩, fz_new n r⟩
theorem new_lst {p : Addr} {ds : List D} {vs : List V} {Q : VK} (q : ∀ v F' H', Al F H F' H' → Rep K ca F' H' (.lst ds) v → Q v H') (r : Reps K ca F H ds vs) (n : H p = none) : Q (.ref p) (upd H p (.lst vs)) := by
  refine q _ _ _ (Al.new (F := F) n) ?_
  unfold Rep
  exact ⟨p, vs, rfl, ⟨.inr rfl, upd_same⟩, fz_new n r⟩
/-- lists, and the script -/
def lstOf : D → Option (List D)
  | .lst ds => some ds
  | .scr ns => some (ns.map .int)
  | _ => none
theorem Reps.ints : ∀ {ns : List Int}, Reps K ca F H (ns.map .int) (ns.map V.int)
  | [] => .nil
  | n :: ns => .cons rep_int Reps.ints
theorem Vw.sq {d : D} {v : V} {ds : List D} (h : Vw K ca F H d v) (e : lstOf d = some ds) : ∃ a vs, v = .ref a ∧ SqL K H a vs ∧ Reps K ca F H ds vs := by
  cases d with
  | lst es =>
    cases e
    obtain ⟨a, vs, rfl, q, r⟩ := h
    exact ⟨a, vs, rfl, .of q, r⟩
  | scr ns =>
    cases e
    have h : Rep K ca F H (.scr ns) v := h
    unfold Rep at h
    obtain ⟨a, rfl, q⟩ := h
    exact ⟨a, _, rfl, q.sq, .ints⟩
  | _ => cases e
end
def gII (f : Int → Int → D) : List D → Option D
  | [.int i, .int j] => some (f i j)
  | _ => none
def gIC (c : Int → Int → Bool) (f : Int → Int → D) : List D → Option D
  | [.int i, .int j] => if c i j then some (f i j) else none
  | _ => none
section
variable {K : PySem.W.Frag} {ca : Ca}
theorem ok_II {f : Int → Int → Int} : OpOk K ca (gII fun i j => .int (f i j)) (r2L (rI0 fun i j => .int (f i j))) := fun F H ds d xs Q vw e q => by
  unfold gII at e
  split at e
  · rename_i i j
    cases e
    obtain ⟨x, y, rfl, h1, h2⟩ := vw.inv2
    exact ⟨i, j, h1, h2, q _ F H .refl rep_int⟩
  · cases e
theorem ok_IB {f : Int → Int → Bool} : OpOk K ca (gII fun i j => .bl (f i j)) (r2L (rI0 fun i j => .bl (f i j))) := fun F H ds d xs Q vw e q => by
  unfold gII at e
  split at e
  · rename_i i j
    cases e
    obtain ⟨x, y, rfl, h1, h2⟩ := vw.inv2
    exact ⟨i, j, h1, h2, q _ F H .refl rep_bl⟩
  · cases e
theorem ok_IC {c : Int → Int → Bool} {C : Int → Int → Prop} {f : Int → Int → Int} (h : ∀ i j, c i j = true → C i j) : OpOk K ca (gIC c fun i j => .int (f i j)) (r2L (rI C fun i j => .int (f i j))) := fun F H ds d xs Q vw e q => by
  unfold gIC at e
  split at e
  · rename_i i j
    split at e
    · rename_i hc
      cases e
      obtain ⟨x, y, rfl, h1, h2⟩ := vw.inv2
      exact ⟨i, j, h1, h2, h i j hc, q _ F H .refl rep_int⟩
    · cases e
  · cases e
end
def cMul (i j : Int) : Bool := decide ((-(2 ^ 64) < i ∧ i < 2 ^ 64) ∨ (-(2 ^ 64) < j ∧ j < 2 ^ 64)) || decide (i.natAbs.log2 + j.natAbs.log2 < 1000000)
def cDiv (_ j : Int) : Bool := decide (0 < j) && decide (j.natAbs.log2 < 9000)
def cMod (_ j : Int) : Bool := decide (0 < j)
def cPow (i j : Int) : Bool := decide (0 ≤ j) && decide ((i.natAbs.log2 + 1 : Nat) * j ≤ (2 : Int) ^ 27)
def CPowW (i j : Int) : Prop := 0 ≤ j ∧ (Builtin.Int.intBits i : Int) * j ≤ 2 ^ 27
theorem op_powW {X : Cx} : OpR X (binaryOp .Pow) (rI CPowW fun i j => .int (i ^ j.toNat)) := opI fun _ _ _ _ _ _ _ hc q => pow_int hc.1 hc.2 q
theorem cPow_ok (i j : Int) (h : cPow i j = true) : CPowW i j := by
  unfold cPow at h
  obtain ⟨h1, h2⟩ := Bool.and_eq_true_iff.mp h
  have h1 := of_decide_eq_true h1
  have h2 := of_decide_eq_true h2
  refine ⟨h1, Int.le_trans (Int.mul_le_mul_of_nonneg_right ?_ h1) h2⟩
  unfold Builtin.Int.intBits
  split <;> omega
def gAddS : List D → Option D
  | [.str x, .str y] => if x.length + y.length ≤ sizeLine then some (.str (x ++ y)) else none
  | _ => none
def gCat : List D → Option (List D)
  | [.lst x, .lst y] => if x.length + y.length ≤ sizeLine then some (x ++ y) else none
  | _ => none
def gCatT : List D → Option D
  | [.tup x, .tup y] => if x.length + y.length ≤ sizeLine then some (.tup (x ++ y)) else none
  | _ => none
def gRep : List D → Option (List D)
  | [.lst x, .int k] => if -(2 ^ 63) ≤ k ∧ k < 2 ^ 63 ∧ x.length * k.toNat ≤ sizeLine then some (List.replicate k.toNat x).flatten else none
  | _ => none
def gRepT : List D → Option D
  | [.tup x, .int k] => if x ≠ [] ∧ 2 ≤ k ∧ k ≤ 1000 ∧ x.length ≤ 1000 then some (.tup (List.replicate k.toNat x).flatten) else none
  | _ => none
section
variable {K : PySem.W.Frag} {ca : Ca}
def rAddS : R2 := fun x y H Q => ∃ i j, x = .str i ∧ y = .str j ∧ i.length + j.length ≤ sizeLine ∧ Q (.str (i ++ j)) H
theorem ok_addS : OpOk K ca gAddS (r2L rAddS) := fun F H ds d xs Q vw e q => by
  unfold gAddS at e
  split at e
  · rename_i i j
    split at e
    · rename_i hc
      cases e
      obtain ⟨x, y, rfl, h1, h2⟩ := vw.inv2
      exact ⟨i, j, h1, h2, hc, q _ F H .refl rep_str⟩
    · cases e
  · cases e
theorem new_cat : OpNew K ca gCat (r2L rCat) := fun F H ds es xs Q vw e q => by
  unfold gCat at e
  split at e
  · rename_i ds es
    split at e
    · rename_i hc
      cases e
      obtain ⟨x, y, rfl, ⟨a, vs, rfl, h1, r1⟩, b, ws, rfl, h2, r2⟩ := vw.inv2
      exact ⟨a, b, vs, ws, rfl, rfl, h1, h2, by rw [r1.length, r2.length]; exact hc, fun p n => q p _ n (r1.append r2)⟩
    · cases e
  · cases e
theorem ok_catT : OpOk K ca gCatT (r2L (rCatA K)) := fun F H ds d xs Q vw e q => by
  unfold gCatT at e
  split at e
  · rename_i ds es
    split at e
    · rename_i hc
      cases e
      obtain ⟨x, y, rfl, w1, w2⟩ := vw.inv2
      obtain ⟨a, vs, rfl, h1, r1⟩ := rep_tup w1
      obtain ⟨b, ws, rfl, h2, r2⟩ := rep_tup w2
      refine ⟨a, b, vs, ws, rfl, rfl, h1.sq, h2.sq, by rw [r1.length, r2.length]; exact hc, fun e => ?_, fun _ e => ?_, fun _ _ p n => new_tup q (r1.append r2) n⟩
      · subst e
        have : ds = [] := List.eq_nil_of_length_eq_zero r1.length.symm
        subst this
        exact q _ F H .refl w2
      · subst e
        have : es = [] := List.eq_nil_of_length_eq_zero r2.length.symm
        subst this
        rw [List.append_nil] at q
        exact q _ F H .refl w1
    · cases e
  · cases e
theorem Reps.rep {F : Addr → Prop} {H : Hp} {ds : List D} {vs : List V} (h : Reps K ca F H ds vs) : ∀ n : Nat, Reps K ca F H (List.replicate n ds).flatten (List.replicate n vs).flatten
  | 0 => .nil
  | n + 1 => by rw [List.replicate_succ, List.replicate_succ, List.flatten_cons, List.flatten_cons]; exact h.append (h.rep n)
theorem new_rep : OpNew K ca gRep (r2L rRep) := fun F H ds es xs Q vw e q => by
  unfold gRep at e
  split at e
  · rename_i ds k
    split at e
    · rename_i hc
      cases e
      obtain ⟨x, y, rfl, ⟨a, vs, rfl, h1, r1⟩, h2⟩ := vw.inv2
      exact ⟨a, k, vs, rfl, h2, h1, hc.1, hc.2.1, by rw [r1.length]; exact hc.2.2, fun p n => q p _ n (r1.rep _)⟩
    · cases e
  · cases e
theorem ok_repT : OpOk K ca gRepT (r2L (rRepT K)) := fun F H ds d xs Q vw e q => by
  unfold gRepT at e
  split at e
  · rename_i ds k
    split at e
    · rename_i hc
      cases e
      obtain ⟨x, y, rfl, w1, w2⟩ := vw.inv2
      obtain ⟨a, vs, rfl, h1, r1⟩ := rep_tup w1
      refine ⟨a, k, vs, rfl, w2, h1.sq, fun e => hc.1 (List.eq_nil_of_length_eq_zero (by rw [← r1.length, e]; rfl)), hc.2.1, hc.2.2.1, by rw [r1.length]; exact hc.2.2.2, fun p n => new_tup q (r1.rep _) n⟩
    · cases e
  · cases e
end
mutual
def toP : D → Option PyData
  | .non => some .none
  | .bl b => some (.bool b)
  | .int i => some (.int i)
  | .str x => some (.str x)
  | .tup ds => (toPs ds).map .tuple
  | .lst ds => (toPs ds).map .list
  | .scr ns => some (.list (ns.map .int))
  | .dic _ _ => none
  | .obj _ _ _ => none
def toPs : List D → Option (List PyData)
  | [] => some []
  | d :: ds => match toP d, toPs ds with
    | some p, some ps => some (p :: ps)
    | _, _ => none
end
def gEq : List D → Option D
  | [x, y] => match toP x, toP y with
    | some d, some e => if SeqAt.shaped d && SeqAt.shaped e then some (.bl (PyData.eqv d e)) else none
    | _, _ => none
  | _ => none
def gNe : List D → Option D
  | [x, y] => match toP x, toP y with
    | some d, some e => if SeqAt.shaped d && SeqAt.shaped e then some (.bl (!PyData.eqv d e)) else none
    | _, _ => none
  | _ => none
def gInD (neg : Bool) : List D → Option D
  | [x, y] => match toP x, toP y with
    | some d, some (.list ds) => if SeqAt.shaped d && SeqAt.shaped (.list ds) then some (.bl (neg != ds.any fun z => PyData.eqv z d)) else none
    | _, _ => none
  | _ => none
section
variable {K : PySem.W.Frag} {ca : Ca} {F : Addr → Prop} {H : Hp}
theorem dp_ints : ∀ {ns : List Int}, DpAll K H (ns.map V.int) (ns.map PyData.int)
  | [] => .nil
  | n :: ns => .cons (.int n) dp_ints
mutual
theorem Rep.dp : ∀ {d : D} {v : V} {p : PyData}, Rep K ca F H d v → toP d = some p → Dp K H v p
  | .non, v, p, h, e => by unfold Rep at h; subst h; unfold toP at e; cases e; exact .non
  | .bl b, v, p, h, e => by unfold Rep at h; subst h; unfold toP at e; cases e; exact .bl b
  | .int b, v, p, h, e => by unfold Rep at h; subst h; unfold toP at e; cases e; exact .int b
  | .str b, v, p, h, e => by unfold Rep at h; subst h; unfold toP at e; cases e; exact .str b
  | .tup ds, v, p, h, e => by
    unfold Rep at h
    obtain ⟨a, vs, rfl, q, r⟩ := h
    unfold toP at e
    cases z : toPs ds with
    | none => rw [z] at e; cases e
    | some ps => rw [z] at e; cases e; exact .tup q.sq (Reps.dp r z)
  | .lst ds, v, p, h, e => by
    unfold Rep at h
    obtain ⟨a, vs, rfl, q, r⟩ := h
    unfold toP at e
    cases z : toPs ds with
    | none => rw [z] at e; cases e
    | some ps => rw [z] at e; cases e; exact .lst q.sq (Reps.dp r z)
  | .scr ns, v, p, h, e => by
    unfold Rep at h
    obtain ⟨a, rfl, q⟩ := h
    unfold toP at e
    cases e
    exact .lst q.sq dp_ints
  | .dic _ _, v, p, h, e => by unfold toP at e; cases e
  | .obj _ _ _, v, p, h, e => by unfold toP at e; cases e
theorem Reps.dp : ∀ {ds : List D} {vs : List V} {ps : List PyData}, Reps K ca F H ds vs → toPs ds = some ps → DpAll K H vs ps
  | [], vs, ps, h, e => by unfold Reps at h; subst h; unfold toPs at e; cases e; exact .nil
  | d :: ds, vs, ps, h, e => by
    unfold Reps at h
    obtain ⟨v, r, rfl, h1, h2⟩ := h
    unfold toPs at e
    cases z1 : toP d with
    | none => rw [z1] at e; cases e
    | some p =>
      cases z2 : toPs ds with
      | none => rw [z1, z2] at e; cases e
      | some qs => rw [z1, z2] at e; cases e; exact .cons (Rep.dp h1 z1) (Reps.dp h2 z2)
end
theorem Vw.dp {d : D} {v : V} {p : PyData} (h : Vw K ca F H d v) (e : toP d = some p) : Dp K H v p := by
  cases d with
  | lst ds =>
    obtain ⟨a, vs, rfl, q, r⟩ := h
    unfold toP at e
    cases z : toPs ds with
    | none => rw [z] at e; cases e
    | some ps => rw [z] at e; cases e; exact .lst (.of q) (Reps.dp r z)
  | dic ks ds => unfold toP at e; cases e
  | obj c ns ds => unfold toP at e; cases e
  | non => exact Rep.dp (ca := ca) (F := F) (by unfold Rep; exact h) e
  | bl b => exact Rep.dp (ca := ca) (F := F) (by unfold Rep; exact h) e
  | int b => exact Rep.dp (ca := ca) (F := F) (by unfold Rep; exact h) e
  | str b => exact Rep.dp (ca := ca) (F := F) (by unfold Rep; exact h) e
  | tup b => exact Rep.dp (ca := ca) (F := F) h e
  | scr b => exact Rep.dp (ca := ca) (F := F) h e
theorem ok_eq : OpOk K ca gEq (r2L (rEqD K)) := fun F H ds d xs Q vw e q => by
  unfold gEq at e
  split at e
  · rename_i x y
    split at e
    · rename_i p r hp hr
      split at e
      · rename_i hc
        cases e
        obtain ⟨hc1, hc2⟩ := Bool.and_eq_true_iff.mp hc
        obtain ⟨v, w, rfl, h1, h2⟩ := vw.inv2
        exact ⟨p, r, h1.dp hp, h2.dp hr, hc1, hc2, q _ F H .refl rep_bl⟩
      · cases e
    · cases e
  · cases e
theorem ok_ne : OpOk K ca gNe (r2L (rNeD K)) := fun F H ds d xs Q vw e q => by
  unfold gNe at e
  split at e
  · rename_i x y
    split at e
    · rename_i p r hp hr
      split at e
      · rename_i hc
        cases e
        obtain ⟨hc1, hc2⟩ := Bool.and_eq_true_iff.mp hc
        obtain ⟨v, w, rfl, h1, h2⟩ := vw.inv2
        exact ⟨p, r, h1.dp hp, h2.dp hr, hc1, hc2, q _ F H .refl rep_bl⟩
      · cases e
    · cases e
  · cases e
theorem ok_inD : OpOk K ca (gInD false) (r2L (rInD K)) := fun F H ds d xs Q vw e q => by
  unfold gInD at e
  split at e
  · rename_i x y
    split at e
    · rename_i p r hp hr
      split at e
      · rename_i hc
        cases e
        obtain ⟨hc1, hc2⟩ := Bool.and_eq_true_iff.mp hc
        obtain ⟨v, w, rfl, h1, h2⟩ := vw.inv2
        exact ⟨p, r, h1.dp hp, h2.dp hr, hc1, hc2, q _ F H .refl (by unfold Rep; simp)⟩
      · cases e
    · cases e
  · cases e
theorem ok_notInD : OpOk K ca (gInD true) (r2L (rNotInD K)) := fun F H ds d xs Q vw e q => by
  unfold gInD at e
  split at e
  · rename_i x y
    split at e
    · rename_i p r hp hr
      split at e
      · rename_i hc
        cases e
        obtain ⟨hc1, hc2⟩ := Bool.and_eq_true_iff.mp hc
        obtain ⟨v, w, rfl, h1, h2⟩ := vw.inv2
        exact ⟨p, r, h1.dp hp, h2.dp hr, hc1, hc2, q _ F H .refl (by unfold Rep; simp)⟩
      · cases e
    · cases e
  · cases e
end
def flatD : D → Bool
  | .non => true
  | .bl _ => true
  | .int _ => true
  | .str _ => true
  | _ => false
def flV : D → V
  | .bl b => .bl b
  | .int b => .int b
  | .str b => .str b
  | _ => .non
def gInT (neg : Bool) : List D → Option D
  | [x, .tup ys] => if flatD x && ys.all flatD then some (.bl (neg != inV (flV x) (ys.map flV))) else none
  | _ => none
def gInS (neg : Bool) : List D → Option D
  | [.str x, .str y] => if x.cps.size = 1 then some (.bl (neg != decide (x.cps.getD 0 0 ∈ y.cps.toList))) else none
  | _ => none
section
variable {K : PySem.W.Frag} {ca : Ca} {F : Addr → Prop} {H : Hp}
theorem fl_vw {d : D} {v : V} (h : Vw K ca F H d v) (e : flatD d = true) : v = flV d ∧ flatV v = true := by
  cases d with
  | non => rw [show v = .non from h]; exact ⟨rfl, rfl⟩
  | bl b => rw [show v = .bl b from h]; exact ⟨rfl, rfl⟩
  | int b => rw [show v = .int b from h]; exact ⟨rfl, rfl⟩
  | str b => rw [show v = .str b from h]; exact ⟨rfl, rfl⟩
  | _ => cases e
theorem fl_reps : ∀ {ds : List D} {vs : List V}, Reps K ca F H ds vs → ds.all flatD = true → vs = ds.map flV ∧ vs.all flatV = true
  | [], vs, h, _ => by unfold Reps at h; subst h; exact ⟨rfl, rfl⟩
  | d :: ds, vs, h, e => by
    unfold Reps at h
    obtain ⟨v, r, rfl, h1, h2⟩ := h
    rw [List.all_cons, Bool.and_eq_true] at e
    obtain ⟨rfl, q1⟩ := fl_vw h1.vw e.1
    obtain ⟨rfl, q2⟩ := fl_reps h2 e.2
    exact ⟨rfl, by rw [List.all_cons, q1, q2]; rfl⟩
theorem ok_inT {neg : Bool} : OpOk K ca (gInT neg) (r2L (rIn K neg)) := fun F H ds d xs Q vw e q => by
  unfold gInT at e
  split at e
  · rename_i x ys
    split at e
    · rename_i hc
      cases e
      obtain ⟨hc1, hc2⟩ := Bool.and_eq_true_iff.mp hc
      obtain ⟨v, w, rfl, h1, h2⟩ := vw.inv2
      obtain ⟨a, vs, rfl, ht, r⟩ := rep_tup h2
      obtain ⟨rfl, f1⟩ := fl_vw h1 hc1
      obtain ⟨rfl, f2⟩ := fl_reps r hc2
      refine ⟨a, _, rfl, .inr ht.sq, f1, f2, q _ F H .refl ?_⟩
      unfold Rep
      cases neg <;> simp
    · cases e
  · cases e
def rInS2 (neg : Bool) : R2 := fun x y H Q => ∃ (c : Nat) (z : Str), x = .str ⟨#[c]⟩ ∧ y = .str z ∧ Q (.bl (if neg then !decide (c ∈ z.cps.toList) else decide (c ∈ z.cps.toList))) H
theorem one_sign {x : Str} (h : x.cps.size = 1) : x = ⟨#[x.cps.getD 0 0]⟩ := by
  obtain ⟨c⟩ := x
  obtain ⟨l⟩ := c
  match l, h with
  | [c], _ => rfl
theorem ok_inS {neg : Bool} : OpOk K ca (gInS neg) (r2L (rInS2 neg)) := fun F H ds d xs Q vw e q => by
  unfold gInS at e
  split at e
  · rename_i x y
    split at e
    · rename_i hc
      cases e
      obtain ⟨v, w, rfl, h1, h2⟩ := vw.inv2
      refine ⟨x.cps.getD 0 0, y, by rw [show v = .str x from h1, ← one_sign hc], h2, q _ F H .refl ?_⟩
      unfold Rep
      cases neg <;> simp
    · cases e
  · cases e
end
end Ev
namespace Ev
open PySem PySem.Spec PyProof.Rows L2
def gAdd : List D → Option D
  | [.int i, .int j] => some (.int (i + j))
  | [.str x, .str y] => if x.length + y.length ≤ sizeLine then some (.str (x ++ y)) else none
  | [.tup x, .tup y] => if x.length + y.length ≤ sizeLine then some (.tup (x ++ y)) else none
  | [.lst x, .lst y] => if x.length + y.length ≤ sizeLine then some (.lst (x ++ y)) else none
  | _ => none
def gMul : List D → Option D
  | [.int i, .int j] => if cMul i j then some (.int (i * j)) else none
  | [.tup x, .int k] => if x ≠ [] ∧ 2 ≤ k ∧ k ≤ 1000 ∧ x.length ≤ 1000 then some (.tup (List.replicate k.toNat x).flatten) else none
  | [.lst x, .int k] => if -(2 ^ 63) ≤ k ∧ k < 2 ^ 63 ∧ x.length * k.toNat ≤ sizeLine then some (.lst (List.replicate k.toNat x).flatten) else none
  | _ => none
def gIn (neg : Bool) : List D → Option D
  | [x, .tup ys] => gInT neg [x, .tup ys]
  | [.str x, .str y] => gInS neg [.str x, .str y]
  | [x, .lst ys] => gInD neg [x, .lst ys]
  | _ => none
def gIx : List D → Option D
  | [.tup ds, .int i] => atI ds i
  | [.str z, .int i] => if z.length ≤ sizeLine then (atI z.cps.toList i).map fun c => .str ⟨#[c]⟩ else none
  | [.lst ds, .int i] => atI ds i
  | [.scr ds, .int i] => (atI ds i).map .int
  | _ => none
section
variable {K : PySem.W.Frag} {ca : Ca} {F : Addr → Prop} {H : Hp}
theorem OpOk.congr {g g' : List D → Option D} {r r' : List V → Hp → VK → Prop} (h : OpOk K ca g r) (e : ∀ ds d, g' ds = some d → g ds = some d) (i : ∀ xs H Q, r xs H Q → r' xs H Q) : OpOk K ca g' r' := fun F H ds d xs Q vw e' q => i _ _ _ (h F H ds d xs Q vw (e _ _ e') q)
def rAdd (K : PySem.W.Frag) : R2 := fun x y H Q => rI0 (fun i j => .int (i + j)) x y H Q ∨ rAddS x y H Q ∨ rCatA K x y H Q ∨ rCat x y H Q
theorem op_addA {X : Cx} : OpR X (binaryOp .Add) (rAdd X.K) := op_add.or (op_add_str.or (op_catA.or op_cat))
theorem ok_add : OpOk K ca gAdd (r2L (rAdd K)) := fun F H ds d xs Q vw e q => by
  have h := vw
  unfold gAdd at e
  split at e
  · obtain ⟨x, y, rfl, _⟩ := vw.inv2
    exact .inl (ok_II (f := fun i j => i + j) F H _ d [x, y] Q vw e q)
  · obtain ⟨x, y, rfl, _⟩ := vw.inv2
    exact .inr (.inl (ok_addS F H _ d [x, y] Q vw e q))
  · obtain ⟨x, y, rfl, _⟩ := vw.inv2
    exact .inr (.inr (.inl (ok_catT F H _ d [x, y] Q vw e q)))
  · obtain ⟨x, y, rfl, _⟩ := vw.inv2
    refine .inr (.inr (.inr (new_cat.ok F H _ d [x, y] Q vw ?_ q)))
    unfold gCat
    split at e
    · rename_i hc
      cases e
      simp only [hc, if_true, Option.map_some]
    · cases e
  · cases e
def CMulZ (i j : Int) : Prop := CMul i j ∨ CMulW i j
theorem op_mulZ {X : Cx} : OpR X (binaryOp .Mult) (rI CMulZ fun i j => .int (i * j)) := opI fun i j _ _ _ _ _ hc q => mul_int q (hc.elim (fun h => h.ok) fun h => h.ok)
theorem cMul_ok (i j : Int) (h : cMul i j = true) : CMulZ i j := by
  unfold cMul at h
  unfold CMulZ CMul CMulW
  rcases Bool.or_eq_true_iff.mp h with h | h
  · exact .inl (of_decide_eq_true h)
  · exact .inr (of_decide_eq_true h)
def rMul (K : PySem.W.Frag) : R2 := fun x y H Q => rI CMulZ (fun i j => .int (i * j)) x y H Q ∨ rRepT K x y H Q ∨ rRep x y H Q
theorem op_mulA {X : Cx} : OpR X (binaryOp .Mult) (rMul X.K) := op_mulZ.or (op_repT.or op_rep)
theorem ok_mul : OpOk K ca gMul (r2L (rMul K)) := fun F H ds d xs Q vw e q => by
  unfold gMul at e
  split at e
  · obtain ⟨x, y, rfl, _⟩ := vw.inv2
    exact .inl (ok_IC (c := cMul) (C := CMulZ) (f := fun i j => i * j) cMul_ok F H _ d [x, y] Q vw e q)
  · obtain ⟨x, y, rfl, _⟩ := vw.inv2
    exact .inr (.inl (ok_repT F H _ d [x, y] Q vw e q))
  · obtain ⟨x, y, rfl, _⟩ := vw.inv2
    refine .inr (.inr (new_rep.ok F H _ d [x, y] Q vw ?_ q))
    unfold gRep
    split at e
    · rename_i hc
      cases e
      simp only [hc, and_self, if_true, Option.map_some]
    · cases e
  · cases e
def rIn3 (K : PySem.W.Frag) : R2 := fun x y H Q => rIn K false x y H Q ∨ rInS2 false x y H Q ∨ rInD K x y H Q
def rNotIn3 (K : PySem.W.Frag) : R2 := fun x y H Q => rIn K true x y H Q ∨ rInS2 true x y H Q ∨ rNotInD K x y H Q
theorem op_in3 {X : Cx} (hu : X.A.units + 65 < cLine) : OpR X (compareOp .In) (rIn3 X.K) := op_in_seq.or (OpR.or op_in_sign (op_inD hu))
theorem op_notIn3 {X : Cx} (hu : X.A.units + 65 < cLine) : OpR X (compareOp .NotIn) (rNotIn3 X.K) := op_notIn_seq.or (OpR.or op_notIn_sign (op_notInD hu))
theorem ok_in3 : OpOk K ca (gIn false) (r2L (rIn3 K)) := fun F H ds d xs Q vw e q => by
  unfold gIn at e
  split at e
  · obtain ⟨x, y, rfl, _⟩ := vw.inv2
    exact .inl (ok_inT F H _ d [x, y] Q vw e q)
  · obtain ⟨x, y, rfl, _⟩ := vw.inv2
    exact .inr (.inl (ok_inS F H _ d [x, y] Q vw e q))
  · obtain ⟨x, y, rfl, _⟩ := vw.inv2
    exact .inr (.inr (ok_inD F H _ d [x, y] Q vw e q))
  · cases e
theorem ok_notIn3 : OpOk K ca (gIn true) (r2L (rNotIn3 K)) := fun F H ds d xs Q vw e q => by
  unfold gIn at e
  split at e
  · obtain ⟨x, y, rfl, _⟩ := vw.inv2
    exact .inl (ok_inT F H _ d [x, y] Q vw e q)
  · obtain ⟨x, y, rfl, _⟩ := vw.inv2
    exact .inr (.inl (ok_inS F H _ d [x, y] Q vw e q))
  · obtain ⟨x, y, rfl, _⟩ := vw.inv2
    exact .inr (.inr (ok_notInD F H _ d [x, y] Q vw e q))
  · cases e
theorem Reps.atI {ds : List D} {vs : List V} {i : Int} {d : D} (h : Reps K ca F H ds vs) (e : L2.atI ds i = some d) : ∃ v, L2.atI vs i = some v ∧ Rep K ca F H d v := by
  unfold L2.atI at e ⊢
  rw [h.length]
  cases z : ixN ds.length i with
  | none => rw [z] at e; cases e
  | some j => rw [z] at e; exact h.get e
theorem ok_ix : OpOk K ca gIx (r2L (rIx K)) := fun F H ds d xs Q vw e q => by
  unfold gIx at e
  split at e
  · obtain ⟨x, y, rfl, w1, w2⟩ := vw.inv2
    obtain ⟨a, vs, rfl, ht, r⟩ := rep_tup w1
    obtain ⟨v, e2, rv⟩ := r.atI e
    exact .inr (.inl ⟨a, vs, _, v, rfl, w2, ht.sq, e2, q v F H .refl rv⟩)
  · rename_i z i
    obtain ⟨x, y, rfl, w1, w2⟩ := vw.inv2
    split at e
    · rename_i hz
      cases z2 : L2.atI z.cps.toList i with
      | none => rw [z2] at e; cases e
      | some c =>
        rw [z2] at e
        cases e
        exact .inr (.inr ⟨z, i, c, w1, w2, hz, z2, q _ F H .refl rep_str⟩)
    · cases e
  · obtain ⟨x, y, rfl, w1, w2⟩ := vw.inv2
    obtain ⟨a, vs, rfl, h, r⟩ := w1
    obtain ⟨v, e2, rv⟩ := r.atI e
    exact .inl ⟨a, vs, _, v, rfl, w2, .of h, e2, q v F H .refl rv⟩
  · rename_i ns i
    obtain ⟨x, y, rfl, w1, w2⟩ := vw.inv2
    obtain ⟨a, vs, rfl, h, r⟩ := w1.sq rfl
    have e2 : L2.atI (ns.map D.int) i = some d := by
      unfold L2.atI at e ⊢
      rw [List.length_map]
      cases z : ixN ns.length i with
      | none => rw [z] at e; cases e
      | some j => rw [z] at e; simp only [Option.bind_some] at e ⊢; rw [List.getElem?_map]; exact e
    obtain ⟨v, e2, rv⟩ := r.atI e2
    exact .inl ⟨a, vs, _, v, rfl, w2, h, e2, q v F H .refl rv⟩
  · cases e
/-- is None -/
def isNon : D → Bool
  | .non => true
  | _ => false
def gIs (neg : Bool) : List D → Option D
  | [x, .non] => some (.bl (neg != isNon x))
  | _ => none
theorem vw_non {d : D} {v : V} (h : Vw K ca F H d v) : decide (v = .non) = isNon d := by
  cases d with
  | non => rw [show v = .non from h]; rfl
  | bl b => rw [show v = .bl b from h]; rfl
  | int b => rw [show v = .int b from h]; rfl
  | str b => rw [show v = .str b from h]; rfl
  | tup b => obtain ⟨a, vs, rfl, _⟩ := rep_tup h; rfl
  | scr b => obtain ⟨a, vs, rfl, _⟩ := Vw.sq (d := .scr b) h rfl; rfl
  | lst b => obtain ⟨a, vs, rfl, _⟩ := h; rfl
  | dic b c => obtain ⟨a, vs, _, rfl, _⟩ := h; rfl
  | obj b c ds => obtain ⟨a, vs, _, rfl, _⟩ := h; rfl
def rIs (neg : Bool) : R2 := fun x y H Q => y = .non ∧ Q (.bl (neg != decide (x = .non))) H
theorem op_is {X : Cx} : OpR X (compareOp .Is) (rIs false) := fun pins s σ H x y v u Q I rx ry ⟨h1, h2⟩ => op_isN pins s σ H x y v u Q I rx ry ⟨h1, by simpa using h2⟩
theorem op_isnot {X : Cx} : OpR X (compareOp .IsNot) (rIs true) := fun pins s σ H x y v u Q I rx ry ⟨h1, h2⟩ => op_notN pins s σ H x y v u Q I rx ry ⟨h1, by simpa using h2⟩
theorem ok_is {neg : Bool} : OpOk K ca (gIs neg) (r2L (rIs neg)) := fun F H ds d xs Q vw e q => by
  unfold gIs at e
  split at e
  · cases e
    obtain ⟨x, y, rfl, w1, w2⟩ := vw.inv2
    exact ⟨w2, q _ F H .refl (by rw [vw_non w1]; exact rep_bl)⟩
  · cases e
/-- -x -/
def gNeg : List D → Option D
  | [.int i] => some (.int (-i))
  | _ => none
theorem ok_neg : OpOk K ca gNeg (r1L (rU fun i => .int (-i))) := fun F H ds d xs Q vw e q => by
  unfold gNeg at e
  split at e
  · cases e
    obtain ⟨x, rfl, w1⟩ := vw.inv1
    exact ⟨_, w1, q _ F H .refl rep_int⟩
  · cases e
end
def eChn (g g' : List D → Option D) (a b c : E) : E := fun st => (a st).bind fun x st => (b st).bind fun y st => match g [x, y] with
  | some (.bl true) => (c st).bind fun z st => (match g' [y, z] with
    | some d => .ok d st
    | none => .bad)
  | some (.bl false) => .ok (.bl false) st
  | _ => .bad
section
variable {X : Cx} {ca : Ca} {W : WX} {a b c : Expr} {pos : Pos} {m n k : E} {g g' : List D → Option D} {r r' : R2} {σ : L2.St} {H : Hp} {Q : VK}
/-- an expression, then the rest -/
theorem tE_then {K : PySem.W.Frag} {n : D → E} {P : VK} (h : tE K ca W (fun st => (m st).bind fun d st => n d st) σ H Q)
    (k : ∀ d v F H st A, Rl K ca F H st σ A → Rep K ca F H d v → (∀ {F1 H1 st1 A1}, Rl K ca F1 H1 st1 σ A1 → Step F H A F1 H1 A1 → True) → tE K ca W (n d) σ H Q → P v H) : tE K ca W m σ H P :=
  tE_bind h fun d v F H st A rl rep q => k d v F H st A rl rep (fun _ _ => trivial) ⟨F, st, A, rl, q⟩
theorem chain_run {K : PySem.W.Frag} (hk : OpOk K ca g (r2L r)) (hk' : OpOk K ca g' (r2L r')) (h : tE K ca W (eChn g g' m n k) σ H Q) : tChain r r' (tE K ca W m) (tE K ca W n) (tE K ca W k) σ H Q := by
  refine tE_bind (n := fun x st => (n st).bind fun y st => match g [x, y] with
    | some (.bl true) => (k st).bind fun z st => (match g' [y, z] with
      | some d => .ok d st
      | none => .bad)
    | some (.bl false) => .ok (.bl false) st
    | _ => .bad) h fun x v F1 H1 st1 A1 rl1 rp1 q1 => ?_
  -- b
  refine ⟨F1, st1, A1, rl1, ?_⟩
  cases z2 : n st1 with
  | bad => simp only [z2, R.bind] at q1
  | exc cc xx s => simp only [z2, R.bind] at q1; exact q1
  | ok y st2 =>
    simp only [z2, R.bind] at q1
    intro u F2 H2 A2 rl2 rp2 s2
    have v2 : VwA K ca F2 H2 [x, y] [v, u] := ⟨v, [u], rfl, (rp1.step s2 rl1).vw, u, [], rfl, rp2.vw, rfl⟩
    cases z3 : g [x, y] with
    | none => simp only [z3] at q1
    | some d =>
      cases d with
      | bl kk =>
        cases kk with
        | false =>
          simp only [z3] at q1
          refine hk F2 H2 [x, y] _ [v, u] _ v2 z3 fun w F3 H3 al rw3 => ?_
          unfold Rep at rw3
          exact ⟨false, rw3, q1 _ F3 H3 A2 (al.rl rl2) rep_bl (s2.trans al.step)⟩
        | true =>
          simp only [z3] at q1
          refine hk F2 H2 [x, y] _ [v, u] _ v2 z3 fun w F3 H3 al rw3 => ?_
          unfold Rep at rw3
          refine ⟨true, rw3, ?_⟩
          have rl3 := al.rl rl2
          refine ⟨F3, st2, A2, rl3, ?_⟩
          cases z4 : k st2 with
          | bad => simp only [z4, R.bind] at q1
          | exc cc xx s => simp only [z4, R.bind] at q1; exact fun cls oe F' H' A' r x s => q1 cls oe F' H' A' r x ((s2.trans al.step).trans s)
          | ok z st3 =>
            simp only [z4, R.bind] at q1
            intro t F4 H4 A4 rl4 rp4 s4
            have v4 : VwA K ca F4 H4 [y, z] [u, t] := ⟨u, [t], rfl, ((rp2.step (A := A2) al.step rl2).step s4 rl3).vw, t, [], rfl, rp4.vw, rfl⟩
            cases z5 : g' [y, z] with
            | none => simp only [z5] at q1
            | some d =>
              simp only [z5] at q1
              exact hk' F4 H4 [y, z] d [u, t] Q v4 z5 fun w F5 H5 al5 rp5 => q1 w F5 H5 A4 (al5.rl rl4) rp5 (((s2.trans al.step).trans s4).trans al5.step)
      | _ => simp only [z3] at q1
theorem se_chain {op op' : CmpOp} (ho : OpR X (compareOp op) r) (hk : OpOk X.K ca g (r2L r)) (ho' : OpR X (compareOp op') r') (hk' : OpOk X.K ca g' (r2L r')) (ha : PE X a (tE X.K ca W m)) (hb : PE X b (tE X.K ca W n)) (hc : PE X c (tE X.K ca W k))
    (hm : lastMarks [op, op'] [b, c] = false := by with_unfolding_all rfl) : PE X (.Compare a [op, op'] [b, c] pos) (tE X.K ca W (eChn g g' m n k)) := PE.imp (pe_chain ho ho' ha hb hc hm) fun σ H Q h => chain_run hk hk' h
theorem st_chain {op op' : CmpOp} (ho : OpR X (compareOp op) r) (hk : OpOk X.K ca g (r2L r)) (ho' : OpR X (compareOp op') r') (hk' : OpOk X.K ca g' (r2L r')) (ha : PE X a (tE X.K ca W m)) (hb : PE X b (tE X.K ca W n)) (hc : PE X c (tE X.K ca W k))
    (hm : lastMarks [op, op'] [b, c] = false := by with_unfolding_all rfl) : PT X (.Compare a [op, op'] [b, c] pos) (tT X.K ca W (mT (eChn g g' m n k))) := PT.imp (pt_chain ho ho' ha hb hc hm) fun σ H Q h => chain_run hk hk' (tT_tE h)
end
end Ev
namespace Ev
open PySem PySem.Spec PyProof.Rows L2
def gLen : List D → Option D
  | [.lst ds] => some (.int ds.length)
  | [.tup ds] => some (.int ds.length)
  | [.scr ds] => some (.int ds.length)
  | [.str x] => if x.length ≤ sizeLine then some (.int x.length) else none
  | _ => none
def intsD : List D → Option (List Int)
  | [] => some []
  | .int i :: ds => (intsD ds).map (i :: ·)
  | _ => none
def boolsD : List D → Option (List Bool)
  | [] => some []
  | .bl i :: ds => (boolsD ds).map (i :: ·)
  | _ => none
def strsD : List D → Option (List Str)
  | [] => some []
  | .str i :: ds => (strsD ds).map (i :: ·)
  | _ => none
def gSum : List D → Option D
  | [.lst ds] => (intsD ds).map fun ns => .int ns.sum
  | [.tup ds] => (intsD ds).map fun ns => .int ns.sum
  | _ => none
def gAll : List D → Option D
  | [.lst ds] => (boolsD ds).map fun bs => .bl (bs.all id)
  | _ => none
def gAny : List D → Option D
  | [.lst ds] => (boolsD ds).map fun bs => .bl (bs.any id)
  | _ => none
def gList : List D → Option (List D)
  | [.lst ds] => some ds
  | [.tup ds] => some ds
  | [.scr ds] => some (ds.map .int)
  | _ => none
def gTuple : List D → Option D
  | [.lst ds] => some (.tup ds)
  | [.tup ds] => some (.tup ds)
  | _ => none
def gAbs : List D → Option D
  | [.int i] => some (.int (if i < 0 then -i else i))
  | _ => none
def gInt1 : List D → Option D
  | [.int i] => some (.int i)
  | [.bl b] => some (.int (if b then 1 else 0))
  | [.str x] => (match PySem.intText? x with
    | some n => if x.length ≤ 640 then some (.int n) else none
    | none => none)
  | _ => none
def gStr1 : List D → Option D
  | [.int i] => if i.natAbs.log2 < 1920 then some (.str (toString i)) else none
  | _ => none
/-- types -/
def tyD : D → Option String
  | .non => some "NoneType"
  | .bl _ => some "bool"
  | .int _ => some "int"
  | .str _ => some "str"
  | .tup _ => some "tuple"
  | .lst _ => some "list"
  | .scr _ => some "list"
  | .dic _ _ => some "dict"
  | .obj _ _ _ => none
def isTy (T : String) (a : String) : Bool := a == T || (a == "bool" && T == "int")
def gIsi (T : String) : List D → Option D
  | [x] => (tyD x).map fun a => .bl (isTy T a)
  | _ => none
section
variable {K : PySem.W.Frag} {ca : Ca} {F : Addr → Prop} {H : Hp}
theorem line_le {n : Nat} (h : n ≤ sizeLine) : n ≤ sizeLine := h
theorem ok_len : OpOk K ca gLen (fun xs H Q => ∃ x n, xs = [x] ∧ LenV K x H n ∧ Q (.int n) H) := fun F H ds d xs Q vw e q => by
  unfold gLen at e
  split at e
  · cases e
    obtain ⟨x, rfl, a, vs, rfl, h, r⟩ := vw.inv1
    exact ⟨_, _, rfl, .inl ⟨vs, .of h, r.length.symm⟩, q _ F H .refl rep_int⟩
  · cases e
    obtain ⟨x, rfl, w⟩ := vw.inv1
    obtain ⟨a, vs, rfl, h, r⟩ := rep_tup w
    exact ⟨_, _, rfl, .inr ⟨vs, h.sq, r.length.symm⟩, q _ F H .refl rep_int⟩
  · rename_i ns
    cases e
    obtain ⟨x, rfl, w⟩ := vw.inv1
    obtain ⟨a, vs, rfl, h, r⟩ := w.sq rfl
    exact ⟨_, ns.length, rfl, .inl ⟨vs, h, by rw [r.length, List.length_map]⟩, q _ F H .refl rep_int⟩
  · split at e
    · rename_i hc
      cases e
      obtain ⟨x, rfl, w⟩ := vw.inv1
      rw [show x = _ from w]
      exact ⟨_, _, rfl, ⟨hc, rfl⟩, q _ F H .refl rep_int⟩
    · cases e
  · cases e
theorem reps_ints : ∀ {ds : List D} {vs : List V} {ns : List Int}, Reps K ca F H ds vs → intsD ds = some ns → vs = ns.map V.int
  | [], vs, ns, h, e => by unfold Reps at h; cases e; exact h
  | d :: ds, vs, ns, h, e => by
    obtain ⟨v, r, rfl, h1, h2⟩ := h.inv
    cases d <;> try (unfold intsD at e; cases e)
    rename_i i
    unfold intsD at e
    cases z : intsD ds with
    | none => rw [z] at e; cases e
    | some ms =>
      rw [z] at e
      cases e
      unfold Rep at h1
      rw [h1, reps_ints h2 z]; rfl
theorem reps_bools : ∀ {ds : List D} {vs : List V} {ns : List Bool}, Reps K ca F H ds vs → boolsD ds = some ns → vs = ns.map V.bl
  | [], vs, ns, h, e => by unfold Reps at h; cases e; exact h
  | d :: ds, vs, ns, h, e => by
    obtain ⟨v, r, rfl, h1, h2⟩ := h.inv
    cases d <;> try (unfold boolsD at e; cases e)
    rename_i i
    unfold boolsD at e
    cases z : boolsD ds with
    | none => rw [z] at e; cases e
    | some ms =>
      rw [z] at e
      cases e
      unfold Rep at h1
      rw [h1, reps_bools h2 z]; rfl
theorem reps_strs : ∀ {ds : List D} {vs : List V} {ns : List Str}, Reps K ca F H ds vs → strsD ds = some ns → vs = ns.map V.str
  | [], vs, ns, h, e => by unfold Reps at h; cases e; exact h
  | d :: ds, vs, ns, h, e => by
    obtain ⟨v, r, rfl, h1, h2⟩ := h.inv
    cases d <;> try (unfold strsD at e; cases e)
    rename_i i
    unfold strsD at e
    cases z : strsD ds with
    | none => rw [z] at e; cases e
    | some ms =>
      rw [z] at e
      cases e
      unfold Rep at h1
      rw [h1, reps_strs h2 z]; rfl
/-- sum of a tuple of ints -/
def rSumT (K : PySem.W.Frag) : List V → Hp → VK → Prop := fun vs H Q => ∃ (a : Addr) (ns : List Int), vs = [V.ref a] ∧ SqT K H a (ns.map V.int) ∧ Q (.int ns.sum) H
theorem cr_sumT {X : Cx} (hc : X.calm = true) : CallR X (.builtin "sum") (rSumT X.K) := by
  intro pins s σ H vs us Q I r h
  obtain ⟨a, ns, rfl, hs, q⟩ := h
  obtain ⟨its, rv, hl, _⟩ := I.tuple hs
  rw [Vals.ref1 r]
  have hi := rv.ints
  obtain ⟨xs, e⟩ := hi.allInts.items
  have hn : numsOf (intItems xs).toList = ns := by rw [← e]; exact hi.numsOf
  rw [nums_intItems] at hn
  rw [e] at hl
  refine call_sum_walkAnyS (PySem.W.iter_tupleW (A := X.A.in1) (I.ok.hd hc) hl fun s₂ e2 W st hfp hw hk => ?_)
  refine ⟨_, _, _, _, _, _, _, numAt xs, rfl, W, st, hfp, (fun _ _ => intItems_at), fun s' t' m => ?_⟩
  obtain ⟨h', tk, rfl, hk'⟩ := PySem.W.moved_old e2 rfl m
  refine ⟨.int _, H, I.kept hk', ⟨_, rfl⟩, ?_⟩
  have e3 : preSum (numAt xs) (intItems xs).size = ns.sum := by
    rw [show (intItems xs).size = xs.size by simp [intItems], preSum_eq, List.take_of_length_le (by simp), hn]
  rw [e3]; exact q
def rSum2 (K : PySem.W.Frag) : List V → Hp → VK → Prop := fun xs H Q => rSum K xs H Q ∨ rSumT K xs H Q
theorem cr_sum2 {X : Cx} (hc : X.calm = true) : CallR X (.builtin "sum") (rSum2 X.K) := (cr_sum hc).or (cr_sumT hc)
theorem ok_sum : OpOk K ca gSum (rSum2 K) := fun F H ds d xs Q vw e q => by
  unfold gSum at e
  split at e
  · rename_i ds
    obtain ⟨x, rfl, a, vs, rfl, h, r⟩ := vw.inv1
    cases z : intsD ds with
    | none => rw [z] at e; cases e
    | some ns =>
      rw [z] at e
      cases e
      exact .inl ⟨a, ns, rfl, by rw [← reps_ints r z]; exact .of h, q _ F H .refl rep_int⟩
  · rename_i ds
    obtain ⟨x, rfl, w⟩ := vw.inv1
    obtain ⟨a, vs, rfl, h, r⟩ := rep_tup w
    cases z : intsD ds with
    | none => rw [z] at e; cases e
    | some ns =>
      rw [z] at e
      cases e
      exact .inr ⟨a, ns, rfl, by rw [← reps_ints r z]; exact h.sq, q _ F H .refl rep_int⟩
  · cases e
theorem ok_all : OpOk K ca gAll (rAll K) := fun F H ds d xs Q vw e q => by
  unfold gAll at e
  split at e
  · rename_i ds
    obtain ⟨x, rfl, a, vs, rfl, h, r⟩ := vw.inv1
    cases z : boolsD ds with
    | none => rw [z] at e; cases e
    | some ns =>
      rw [z] at e
      cases e
      exact ⟨a, ns, rfl, by rw [← reps_bools r z]; exact .of h, q _ F H .refl rep_bl⟩
  · cases e
theorem ok_any : OpOk K ca gAny (rAny K) := fun F H ds d xs Q vw e q => by
  unfold gAny at e
  split at e
  · rename_i ds
    obtain ⟨x, rfl, a, vs, rfl, h, r⟩ := vw.inv1
    cases z : boolsD ds with
    | none => rw [z] at e; cases e
    | some ns =>
      rw [z] at e
      cases e
      exact ⟨a, ns, rfl, by rw [← reps_bools r z]; exact .of h, q _ F H .refl rep_bl⟩
  · cases e
def rListOf (K : PySem.W.Frag) : List V → Hp → VK → Prop := fun xs H Q => ∃ p ys, xs = [.ref p] ∧ (SqL K H p ys ∨ SqT K H p ys) ∧ ∀ l, H l = none → Q (.ref l) (upd H l (.lst ys))
theorem new_list : OpNew K ca gList (rListOf K) := fun F H ds es xs Q vw e q => by
  unfold gList at e
  split at e
  · cases e
    obtain ⟨x, rfl, a, vs, rfl, h, r⟩ := vw.inv1
    exact ⟨a, vs, rfl, .inl (.of h), fun l n => q l vs n r⟩
  · cases e
    obtain ⟨x, rfl, w⟩ := vw.inv1
    obtain ⟨a, vs, rfl, h, r⟩ := rep_tup w
    exact ⟨a, vs, rfl, .inr h.sq, fun l n => q l vs n r⟩
  · cases e
    obtain ⟨x, rfl, w⟩ := vw.inv1
    obtain ⟨a, vs, rfl, h, r⟩ := w.sq rfl
    exact ⟨a, vs, rfl, .inl h, fun l n => q l vs n r⟩
  · cases e
def rTupOf (K : PySem.W.Frag) : List V → Hp → VK → Prop := fun xs H Q => ∃ p ys, xs = [.ref p] ∧ ((SqL K H p ys ∧ ∀ l, H l = none → Q (.ref l) (upd H l (.tup ys))) ∨ (SqT K H p ys ∧ Q (.ref p) H))
theorem ok_tuple : OpOk K ca gTuple (rTupOf K) := fun F H ds d xs Q vw e q => by
  unfold gTuple at e
  split at e
  · cases e
    obtain ⟨x, rfl, a, vs, rfl, h, r⟩ := vw.inv1
    exact ⟨a, vs, rfl, .inl ⟨.of h, fun l n => new_tup q r n⟩⟩
  · cases e
    obtain ⟨x, rfl, w⟩ := vw.inv1
    obtain ⟨a, vs, rfl, h, r⟩ := rep_tup w
    exact ⟨a, vs, rfl, .inr ⟨h.sq, q _ F H .refl w⟩⟩
  · cases e
theorem ok_abs : OpOk K ca gAbs (fun xs H Q => ∃ i, xs = [.int i] ∧ Q (.int (if i < 0 then -i else i)) H) := fun F H ds d xs Q vw e q => by
  unfold gAbs at e
  split at e
  · cases e
    obtain ⟨x, rfl, w⟩ := vw.inv1
    exact ⟨_, by rw [show x = _ from w], q _ F H .refl rep_int⟩
  · cases e
theorem ok_max2 : OpOk K ca (gII fun i j => .int (if j > i then j else i)) (fun xs H Q => ∃ i j, xs = [.int i, .int j] ∧ Q (.int (if j > i then j else i)) H) := fun F H ds d xs Q vw e q => by
  unfold gII at e
  split at e
  · cases e
    obtain ⟨x, y, rfl, w, w2⟩ := vw.inv2
    exact ⟨_, _, by rw [show x = _ from w, show y = _ from w2], q _ F H .refl rep_int⟩
  · cases e
theorem ok_min2 : OpOk K ca (gII fun i j => .int (if j < i then j else i)) (fun xs H Q => ∃ i j, xs = [.int i, .int j] ∧ Q (.int (if j < i then j else i)) H) := fun F H ds d xs Q vw e q => by
  unfold gII at e
  split at e
  · cases e
    obtain ⟨x, y, rfl, w, w2⟩ := vw.inv2
    exact ⟨_, _, by rw [show x = _ from w, show y = _ from w2], q _ F H .refl rep_int⟩
  · cases e
def rInt1 : List V → Hp → VK → Prop := fun xs H Q => ((∃ i, xs = [.int i] ∧ Q (.int i) H) ∨ ∃ k, xs = [.bl k] ∧ Q (.int (if k then 1 else 0)) H) ∨ ∃ a n, xs = [.str a] ∧ PySem.intText? a = some n ∧ a.length ≤ 640 ∧ Q (.int n) H
theorem cr_int1 {X : Cx} : CallR X (.type "int") rInt1 := call_int1.or call_int_str
theorem ok_int1 : OpOk K ca gInt1 rInt1 := fun F H ds d xs Q vw e q => by
  unfold gInt1 at e
  split at e
  · cases e
    obtain ⟨x, rfl, w⟩ := vw.inv1
    exact .inl (.inl ⟨_, by rw [show x = _ from w], q _ F H .refl rep_int⟩)
  · cases e
    obtain ⟨x, rfl, w⟩ := vw.inv1
    exact .inl (.inr ⟨_, by rw [show x = _ from w], q _ F H .refl rep_int⟩)
  · split at e
    · rename_i n hn
      split at e
      · rename_i hl
        cases e
        obtain ⟨x, rfl, w⟩ := vw.inv1
        exact .inr ⟨_, n, by rw [show x = _ from w], hn, hl, q _ F H .refl rep_int⟩
      · cases e
    · cases e
  · cases e
theorem ok_str1 : OpOk K ca gStr1 (fun xs H Q => ∃ i, xs = [.int i] ∧ i.natAbs.log2 < 1920 ∧ Q (.str (toString i)) H) := fun F H ds d xs Q vw e q => by
  unfold gStr1 at e
  split at e
  · split at e
    · rename_i hc
      cases e
      obtain ⟨x, rfl, w⟩ := vw.inv1
      exact ⟨_, by rw [show x = _ from w], hc, q _ F H .refl rep_str⟩
    · cases e
  · cases e
theorem vw_ty {d : D} {v : V} {a : String} (h : Vw K ca F H d v) (e : tyD d = some a) : TyX K H v (.type a) := by
  cases d with
  | non => cases e; rw [show v = .non from h]; exact .base .non
  | bl b => cases e; rw [show v = .bl b from h]; exact .base (.bl b)
  | int b => cases e; rw [show v = .int b from h]; exact .base (.int b)
  | str b => cases e; rw [show v = .str b from h]; exact .base (.str b)
  | tup b =>
    cases e
    obtain ⟨a, vs, rfl, q, _⟩ := rep_tup h
    rcases q with ⟨_, q | ⟨o, q⟩⟩ | ⟨o, its, n, q, c, _⟩
    · exact .base (.tup q)
    · exact .fTuple q
    · exact .kTuple q c
  | scr b =>
    cases e
    obtain ⟨a, vs, rfl, q, _⟩ := h.sq rfl
    rcases q with (q | ⟨o, q⟩) | ⟨o, its, n, q, c, _⟩
    · exact .base (.lst q)
    · exact .base (.frz q)
    · exact .kList q c
  | lst b => cases e; obtain ⟨a, vs, rfl, q, _⟩ := h; exact .base (.lst q)
  | dic b c =>
    cases e
    obtain ⟨a, vs, _, rfl, q, _⟩ := h
    rcases q with q | ⟨o, q⟩
    · exact .base (.dK q)
    · exact .fDict q
  | obj b c ds => cases e
/-- the built-in types that are asked for -/
def isTs : List String := ["int", "bool", "tuple", "str", "list"]
theorem kit_all : (isTs.all fun T => (["NoneType", "bool", "int", "str", "tuple", "list", "dict"] : List String).all fun a => kitB a T == some (isTy T a)) = true := by decide +kernel
theorem kit_T {T a : String} {d : D} (hT : isTs.contains T = true) (e : tyD d = some a) : PySem.W.kitOne K (.type a) (.type T) = some (isTy T a) := by
  refine kit_ty ?_
  have h1 := List.all_eq_true.mp kit_all T (List.contains_iff_mem.mp hT)
  have h2 := List.all_eq_true.mp h1 a (by cases d <;> cases e <;> decide)
  exact eq_of_beq h2
theorem ok_isi {T : String} (hT : isTs.contains T = true) : OpOk K ca (gIsi T) (fun xs H Q => rIsi K (xs ++ [.ty T]) H Q) := fun F H ds d xs Q vw e q => by
  unfold gIsi at e
  split at e
  · rename_i d0
    cases z : tyD d0 with
    | none => rw [z] at e; cases e
    | some a =>
      rw [z] at e
      cases e
      obtain ⟨x, rfl, w⟩ := vw.inv1
      exact ⟨x, .ty T, _, _, _, rfl, .ty T, vw_ty w z, kit_T hT z, q _ F H .refl rep_bl⟩
  · cases e
end
section
variable {X : Cx} {ca : Ca} {W : WX} {e o : Expr} {es : List Expr} {pos p : Pos} {m : E} {ps : List Opd} {pd : Opd} {x : Str} {id T : String} {g : List D → Option D} {gn : List D → Option (List D)} {r : List V → Hp → VK → Prop}
theorem sp_nil : PA X [] (tPs X.K ca W []) := pa_nil
theorem sp_cons (h : PE X e (tP X.K ca W pd)) (t : PA X es (tPs X.K ca W ps)) (hs : starEach (e :: es) X.env = (false, eval e X.env) :: starEach es X.env := by rfl) : PA X (e :: es) (tPs X.K ca W (pd :: ps)) := pa_cons h t hs
variable (cf : Cf X.K ca)
include cf
theorem se_callB (hc : CallR X (.builtin id) r) (hk : OpOk X.K ca g r) (hg : Gl X x) (hm : X.mg x = none) (hv : bootBuiltins x = some (.builtin id)) (ha : PA X (e :: es) (tPs X.K ca W ps)) (ok : opdsOk ps = true := by rfl) (of : opdsF ps = true := by rfl) (hn : x ≠ "__name__" := by decide) (hdb : (x == ("__debug__" : Str)) = false := by decide)
    (he : starEach (e :: es) X.env = (false, eval e X.env) :: starEach es X.env := by rfl) (hpl : (backTo pos (starEach es X.env)).any (·.1) = false := by rfl) : PE X (.Call (.Name x p) (e :: es) [] pos) (tE X.K ca W (eOp g ps)) :=
  PE.imp (pe_callB hc hg hm hv ha hn hdb he hpl) fun σ H Q h => eOp_run cf hk ok of h
theorem so_callB (hc : CallR X (.builtin id) r) (hk : OpNew X.K ca gn r) (hg : Gl X x) (hm : X.mg x = none) (hv : bootBuiltins x = some (.builtin id)) (ha : PA X (e :: es) (tPs X.K ca W ps)) (ok : opdsOk ps = true := by rfl) (of : opdsF ps = true := by rfl) (hn : x ≠ "__name__" := by decide) (hdb : (x == ("__debug__" : Str)) = false := by decide)
    (he : starEach (e :: es) X.env = (false, eval e X.env) :: starEach es X.env := by rfl) (hpl : (backTo pos (starEach es X.env)).any (·.1) = false := by rfl) : PE X (.Call (.Name x p) (e :: es) [] pos) (tO X.K ca W (eOp (fun ds => (gn ds).map .lst) ps)) :=
  PE.imp (pe_callB hc hg hm hv ha hn hdb he hpl) fun σ H Q h => eOp_runO cf hk ok of h
theorem se_callT (hc : CallR X (.type T) r) (hk : OpOk X.K ca g r) (hg : Gl X x) (hm : X.mg x = none) (hv : bootBuiltins x = some (.type T)) (ha : PA X (e :: es) (tPs X.K ca W ps)) (ok : opdsOk ps = true := by rfl) (of : opdsF ps = true := by rfl) (hn : x ≠ "__name__" := by decide) (hdb : (x == ("__debug__" : Str)) = false := by decide)
    (he : starEach (e :: es) X.env = (false, eval e X.env) :: starEach es X.env := by rfl) (hpl : (backTo pos (starEach es X.env)).any (·.1) = false := by rfl) : PE X (.Call (.Name x p) (e :: es) [] pos) (tE X.K ca W (eOp g ps)) :=
  PE.imp (pe_callTy hc hg hm hv ha hn hdb he hpl) fun σ H Q h => eOp_run cf hk ok of h
theorem so_callT (hc : CallR X (.type T) r) (hk : OpNew X.K ca gn r) (hg : Gl X x) (hm : X.mg x = none) (hv : bootBuiltins x = some (.type T)) (ha : PA X (e :: es) (tPs X.K ca W ps)) (ok : opdsOk ps = true := by rfl) (of : opdsF ps = true := by rfl) (hn : x ≠ "__name__" := by decide) (hdb : (x == ("__debug__" : Str)) = false := by decide)
    (he : starEach (e :: es) X.env = (false, eval e X.env) :: starEach es X.env := by rfl) (hpl : (backTo pos (starEach es X.env)).any (·.1) = false := by rfl) : PE X (.Call (.Name x p) (e :: es) [] pos) (tO X.K ca W (eOp (fun ds => (gn ds).map .lst) ps)) :=
  PE.imp (pe_callTy hc hg hm hv ha hn hdb he hpl) fun σ H Q h => eOp_runO cf hk ok of h
theorem tPs_snoc {K : PySem.W.Frag} {v : V} : ∀ {ps : List Opd} {σ : L2.St} {H : Hp} {Q : List V → Hp → Prop}, tPs K ca W ps σ H (fun xs H => Q (xs ++ [v]) H) → True := fun _ => trivial
/-- isinstance(e, T), T a built-in type -/
theorem se_isi {y : Str} {py : Pos} (hT : isTs.contains T = true) (hg : Gl X "isinstance") (hm : X.mg "isinstance" = none) (hgT : Gl X y) (hmT : X.mg y = none) (hvT : bootBuiltins y = some (.type T)) (hv : bootBuiltins "isinstance" = some (.builtin "isinstance")) (h : PE X e (tP X.K ca W pd))
    (ok : opdsOk [pd] = true := by rfl) (of : opdsF [pd] = true := by rfl) (hn : y ≠ "__name__" := by decide) (hd : (y == ("__debug__" : Str)) = false := by decide)
    (he : starEach [e, .Name y py] X.env = (false, eval e X.env) :: starEach [.Name y py] X.env := by rfl) (hs : starEach [.Name y py] X.env = [(false, eval (.Name y py) X.env)] := by rfl) (hpl : (backTo pos (starEach [.Name y py] X.env)).any (·.1) = false := by rfl) :
    PE X (.Call (.Name "isinstance" p) [e, .Name y py] [] pos) (tE X.K ca W (eOp (gIsi T) [pd])) :=
  PE.imp (pe_callB call_isi hg hm hv (pa_cons h (pa_cons (pe_bltn (v := .ty T) hgT hmT hvT rfl hn hd) pa_nil hs) he) (by decide) (by decide) he hpl) fun σ H Q h => eOp_run cf (ok_isi hT) ok of h
theorem se_ix {a b : Expr} {pd qd : Opd} (ha : PE X a (tP X.K ca W pd)) (hb : PE X b (tP X.K ca W qd)) (hs : PlainIx b := by intro _ _; rfl) (ok : opdsOk [pd, qd] = true := by rfl) (of : opdsF [pd, qd] = true := by rfl) :
    PE X (.Subscript a b pos) (tE X.K ca W (eOp gIx [pd, qd])) := PE.imp (pe_ix ix_seq ha hb hs) fun σ H Q h => eOp_run cf ok_ix ok of h
end
def gJoin : List D → Option D
  | [.str a, .lst ds] => (match strsD ds with
    | some ys => if (ys.map (·.length)).sum + ys.length * a.length ≤ 16777216 then some (.str (Txt.join a ys)) else none
    | none => none)
  | _ => none
def gFind : List D → Option D
  | [.str a, .str b] => some (.int (Txt.find a b))
  | _ => none
def gSplit : List D → Option (List D)
  | [.str a, .str b] => if (b.length == 0) = false ∧ a.length + 2 ≤ sizeLine then some ((Txt.split a b).map .str) else none
  | _ => none
def isStrD : D → Bool
  | .str _ => true
  | _ => false
/-- e.m(..), e a text -/
def eBs (g : List D → Option D) (m : E) (ms : List E) : E := fun st => (m st).bind fun d st => match isStrD d with
  | true => (evAll ms st).bind fun ds st => (match g (d :: ds) with
    | some d => .ok d st
    | none => .bad)
  | false => .bad
section
variable {K : PySem.W.Frag} {ca : Ca} {F : Addr → Prop} {H : Hp}
theorem Reps.vwA : ∀ {ds : List D} {vs : List V}, Reps K ca F H ds vs → VwA K ca F H ds vs
  | [], vs, h => by unfold Reps at h; exact h
  | d :: ds, vs, h => by
    obtain ⟨v, r, rfl, h1, h2⟩ := h.inv
    exact ⟨v, r, rfl, h1.vw, h2.vwA⟩
def rJoin2 (K : PySem.W.Frag) : V → List V → Hp → VK → Prop := fun x xs H Q => ∃ a p, ∃ ys : List Str, x = .str a ∧ xs = [.ref p] ∧ (SqL K H p (ys.map V.str) ∨ SqT K H p (ys.map V.str)) ∧ (ys.map (·.length)).sum + ys.length * a.length ≤ 16777216 ∧ Q (.str (Txt.join a ys)) H
theorem ok_join : OpOk K ca gJoin (rMt (rJoin2 K)) := fun F H ds d xs Q vw e q => by
  unfold gJoin at e
  split at e
  · rename_i a ds
    split at e
    · rename_i ys hy
      split at e
      · rename_i hc
        cases e
        obtain ⟨x, y, rfl, w1, b, vs, rfl, h, r⟩ := vw.inv2
        exact ⟨a, b, ys, w1, rfl, .inl (by rw [← reps_strs r hy]; exact .of h), hc, q _ F H .refl rep_str⟩
      · cases e
    · cases e
  · cases e
def rFind2 : V → List V → Hp → VK → Prop := fun x xs H Q => ∃ a b, x = .str a ∧ xs = [.str b] ∧ Q (.int (Txt.find a b)) H
theorem ok_find : OpOk K ca gFind (rMt rFind2) := fun F H ds d xs Q vw e q => by
  unfold gFind at e
  split at e
  · cases e
    obtain ⟨x, y, rfl, w1, w2⟩ := vw.inv2
    exact ⟨_, _, w1, by rw [show y = _ from w2], q _ F H .refl rep_int⟩
  · cases e
def rSplit2 : V → List V → Hp → VK → Prop := fun x xs H Q => ∃ a b, x = .str a ∧ xs = [.str b] ∧ (b.length == 0) = false ∧ a.length + 2 ≤ sizeLine ∧ rNewStrs (Txt.split a b) H Q
theorem reps_of_strs : ∀ {ys : List Str}, Reps K ca F H (ys.map .str) (ys.map V.str)
  | [] => .nil
  | y :: ys => .cons rep_str reps_of_strs
theorem new_split : OpNew K ca gSplit (rMt rSplit2) := fun F H ds es xs Q vw e q => by
  unfold gSplit at e
  split at e
  · rename_i a b
    split at e
    · rename_i hc
      cases e
      obtain ⟨x, y, rfl, w1, w2⟩ := vw.inv2
      exact ⟨a, b, w1, by rw [show y = _ from w2], hc.1, hc.2, fun p n => q p _ n reps_of_strs⟩
    · cases e
  · cases e
end
section
variable {X : Cx} {ca : Ca} {W : WX} {e o : Expr} {es : List Expr} {apos cpos : Pos} {m : E} {ms : List E} {name : Str} {id : String} {g : List D → Option D} {r : V → List V → Hp → VK → Prop}
theorem se_bs (slot : Slot "str" name id) (hty : typeOf (.builtin id) = pure (.type "method_descriptor")) (hm : MtR X id r) (hk : OpOk X.K ca g (rMt r)) (ho : PE X o (tE X.K ca W m)) (ha : PA X (e :: es) (tA X.K ca W ms))
    (hbase : attributeBase o name X.env (eval o X.env) = eval o X.env := by rfl)
    (hfew : ((backTo cpos (starEach (e :: es) X.env)).all (fun x => !x.1) && (backToKw cpos (keywordEach [] X.env)).all (fun x => x.1.isSome)
      && decide ((e :: es).length + ([] : List Keyword).length + (if ([] : List Keyword).isEmpty then 0 else 1) < 30)) = true := by rfl)
    (hline : (apos.endLine == cpos.line) = true := by rfl) (hs : starEach (e :: es) X.env = (false, eval e X.env) :: starEach es X.env := by rfl) (hplain : (backTo cpos (starEach es X.env)).any (·.1) = false := by rfl) :
    PE X (.Call (.Attribute o name apos) (e :: es) [] cpos) (tE X.K ca W (eBs g m ms)) := PE.imp (pe_bm PySem.F.plainAttrs_str slot hty hm ho ha hbase hfew hline hs hplain) fun σ H Q h => by
  refine tE_bind (n := fun d st => match isStrD d with
    | true => (evAll ms st).bind fun ds st => (match g (d :: ds) with
      | some d => .ok d st
      | none => .bad)
    | false => .bad) h fun d v F H st A rl rp q => ?_
  cases d with
  | str x =>
    have rp' := rp
    unfold Rep at rp
    subst rp
    refine ⟨rfl, F, st, A, rl, ?_⟩
    simp only [isStrD] at q
    cases z : evAll ms st with
    | bad => simp only [z, R.bind] at q
    | exc c x s => simp only [z, R.bind] at q; exact q
    | ok ds st1 =>
      simp only [z, R.bind] at q
      intro vs F1 H1 A1 rl1 rs s1
      cases z2 : g (D.str x :: ds) with
      | none => simp only [z2] at q
      | some d =>
        simp only [z2] at q
        exact hk F1 H1 (D.str x :: ds) d (V.str x :: vs) Q ⟨_, _, rfl, (rp'.step s1 rl).vw, rs.vwA⟩ z2 fun w F2 H2 al rw2 => q w F2 H2 A1 (al.rl rl1) rw2 (s1.trans al.step)
  | _ => exact q.elim
end
end Ev
namespace PySem.W
open PySem PySem.Calls PyProof.Rows Builtin
section
variable {prog : Program} {w : World} {M : Model} {A : Around} {E : Value → Shared → Prop} {s : Shared} {K : Frag} {x C D L f : Addr} {h₀ : Heap} {m : Str → Option Value} {ox : Obj} {od : Option Obj} {nm : String}
theorem evx_fillsNone {h : Heap} {cd : ClassData} (X : K.In h) (hc : clsIn K D = some cd) (hm : cd.mro = [.ref D, .type "object"]) (h1 : findIn K (.ref D) (PySem.dunder nm) = some none) (h2 : findIn K (.ref D) (dunderR nm) = some none)
    (g1 : findIn K (.type "object") (PySem.dunder nm) = some none) (g2 : findIn K (.type "object") (dunderR nm) = some none) : Looks M h (fillsNumberSlot (.ref D) nm) false := by
  intro A Q E s k q
  unfold fillsNumberSlot
  refine wpAny_bind ((looks_clsIn X hc).andThen (f := fun cd => pure cd.mro) .now A _ E s k ?_)
  rw [hm, List.anyM_cons]
  refine wpAny_bind ?_
  show wpAny M A (List.anyM _ [PySem.dunder nm, dunderR nm]) _ _ _
  rw [List.anyM_cons]
  refine wpAny_bind (wpAny_bind (looks_findIn X h1 A _ E s k ?_))
  dsimp only
  refine wpAny_pure ?_
  rw [if_neg Bool.false_ne_true, List.anyM_cons]
  refine wpAny_bind (wpAny_bind (looks_findIn X h2 A _ E s k ?_))
  dsimp only
  refine wpAny_pure ?_
  rw [if_neg Bool.false_ne_true, List.anyM_nil]
  refine wpAny_pure ?_
  rw [if_neg Bool.false_ne_true, List.anyM_cons]
  refine wpAny_bind ?_
  refine wpAny_bind (looks_findIn X g1 A _ E s k ?_)
  refine wpAny_bind (looks_findIn X g2 A _ E s k ?_)
  refine wpAny_pure ?_
  show wpAny M A (if (false = true) then _ else _) _ _ _
  rw [if_neg Bool.false_ne_true, List.anyM_nil]
  exact wpAny_pure q
/-- a - b, b of another class of the text, which knows nothing of it -/
theorem evx_binD {op : Operator} {b : Value} {cD : ClassData} {Q : Value → Shared → Prop} (F : Fr h₀ L s.heap m) (X₀ : K.In h₀) (I : InstAt s.heap x ox C od) (hb : Looks (model prog w) s.heap (typeOf b) (.ref D)) (ne : C ≠ D) (hc : selfFirst K C = true)
    (hs : findIn K (.ref C) (PySem.dunder op.info.2) = some (some (.ref f))) (hf : isFn K (.ref f) = true) (hD : clsIn K D = some cD) (hm : cD.mro = [.ref D, .type "object"])
    (h1 : findIn K (.ref D) (PySem.dunder op.info.2) = some none) (h2 : findIn K (.ref D) (dunderR op.info.2) = some none) (g1 : findIn K (.type "object") (PySem.dunder op.info.2) = some none) (g2 : findIn K (.type "object") (dunderR op.info.2) = some none)
    (h : wpAny (model prog w) A (call (.ref f) [.ref x, b]) (CmpBack Q) E s) : wpAny (model prog w) A (binaryOp op (.ref x) b) Q E s := by
  have X := X₀.keeps F.keep
  obtain ⟨cd, rest, hcd, hmr⟩ := ksp_first hc
  rcases hi : op.info with ⟨sym, nm'⟩
  rw [hi] at hs h1 h2 g1 g2
  dsimp only at hs h1 h2 g1 g2
  have one := ksp_try X I hs hf h
  obtain ⟨hh, g, d, tt, os⟩ := s
  have L1 : Looks (model prog w) hh (typeOf (.ref x)) (.ref C) := I.type
  have L2 : Looks (model prog w) hh (typeOf b) (.ref D) := hb
  have L3 : Looks (model prog w) hh (fillsNumberSlot (.ref C) nm') true := fills_K X hcd hmr hs
  have L4 : Looks (model prog w) hh (fillsNumberSlot (.ref D) nm') false := evx_fillsNone X hD hm h1 h2 g1 g2
  have hne : (Value.ref C == Value.ref D) = false := Bool.eq_false_iff.mpr fun q => by cases beq_iff_eq.mp q; exact ne rfl
  simp only [binaryOp, hi]
  refine wpAny_holding (wpAny_bind ?_)
  unfold binaryOp1
  refine wpAny_bind (L1.at (wpAny_bind (L2.at (wpAny_bind (L3.at ?_)))))
  simp only [hne, Bool.false_eq_true, if_false]
  refine wpAny_bind (L4.at ?_)
  ksp_lk
  refine wpAny_mono one (fun r s' hr' => ?_) fun _ _ e => e
  obtain ⟨v, rfl, hq⟩ := hr'
  ksp_lk
  exact hq
theorem evx_neSlot : Slot "enumerate" "__ne__" "object.__ne__" := PySem.F.slot_enumerate_ne
/-- a != b by the class's own == -/
theorem evx_ne {b : Value} {Q : Value → Shared → Prop} (hu : A.units + 2 < cLine) (X : K.In s.heap) (I : InstAt s.heap x ox C od) (hb : Looks (model prog w) s.heap (typeOf b) (.ref C)) (he : findIn K (.ref C) "__eq__" = some (some (.ref f))) (hf : isFn K (.ref f) = true)
    (hne : findIn K (.ref C) "__ne__" = some (some (.builtin "object.__ne__"))) (hob : subIn K (.ref C) (.type "object") = some true)
    (h : wpAny (model prog w) A.in1 (call (.ref f) [.ref x, b]) (fun v s' => ∃ k, v = .bool k ∧ Q (.bool (!k)) s') E s) : wpAny (model prog w) A (richCompare .NotEq (.ref x) b) Q E s := by
  have call1 : wpAny (model prog w) A (call (.builtin "object.__ne__") [.ref x, b]) (fun v s' => ∃ k, v = .bool k ∧ Q (.bool k) s') E s := by
    refine wpAny_call (codeAny_call_builtin evx_neSlot.plain PySem.F.cmpEntry_ne (check_slot PySem.F.cmpKind_ne PySem.F.cmpSplit_ne (I.type.andThen (looks_subIn X hob)) (PySem.F.cmpArgs_ne _ _) ?_))
    unfold Builtin.«object.__ne__»
    refine wpAny_bind (m := slotArgs "__ne__" 1 _) (wpAny_pure ?_)
    refine wpAny_bind (wpAny_cRoomFor (by show A.units + 1 < cLine; omega) ?_)
    refine wpAny_bind (m := callSpecialIfBound? (.ref x) (Str.ofString "__eq__") [b]) (ifBound_K X I he hf (wpAny_mono h (fun r s' hr => ?_) fun _ _ y => y))
    obtain ⟨k, rfl, hq⟩ := hr
    refine wpAny_bind (m := truthy (.bool _)) (wpAny_truthy_bool ?_)
    exact wpAny_pure ⟨_, rfl, hq⟩
  have one : wpAny (model prog w) A (tryCompare (.ref x) (cmpInfo .NotEq).2.1 b) (fun r s' => ∃ v, r = some v ∧ Q v s') E s := by
    unfold tryCompare
    refine wpAny_bind (m := callSpecialIfBound? (.ref x) _ [b]) ?_
    simp only [callSpecialIfBound?, bindSpecialIfBound?]
    refine wpAny_holding (wpAny_bind (wpAny_bind (wpAny_bind (I.type.here ((looks_findIn X hne).here ?_)))))
    refine wpAny_bind (wpAny_askSetting (wpAny_ite ?_))
    have fin : ∀ P : Option Value → Shared → Prop, (∀ k s', Q (.bool k) s' → P (some (.bool k)) s') → wpAny (model prog w) A (call (.builtin "object.__ne__") ([.ref x] ++ [b]) >>= fun v => pure (some v)) P E s := fun P hP =>
      wpAny_bind (wpAny_mono call1 (fun v s' hv => by
        obtain ⟨k, rfl, hq⟩ := hv
        exact wpAny_pure (hP k s' hq)) fun _ _ h' => h')
    rw [evx_neSlot.bind]
    split
    · refine wpAny_bind (wpAny_pure (wpAny_pure ?_))
      exact fin _ fun k s' hq => wpAny_pure ⟨_, rfl, hq⟩
    · refine wpAny_tryCatch (wpAny_bind (wpAny_pure (wpAny_pure ?_)))
      exact fin _ fun k s' hq => wpAny_pure ⟨_, rfl, hq⟩
  unfold richCompare
  simp only [oneThing_ref]
  refine wpAny_holding (wpAny_bind (wpAny_cRoomFor (by omega) ?_))
  refine wpAny_bind (I.type.here (wpAny_bind (hb.here ?_)))
  rw [show (Value.ref C != Value.ref C) = false from by simp]
  refine wpAny_bind (wpAny_pure ?_)
  simp only [Bool.false_eq_true, if_false]
  refine wpAny_bind (wpAny_mono one (fun r s' z => ?_) fun _ _ e => e)
  obtain ⟨v, rfl, hq⟩ := z
  exact wpAny_pure hq
end
end PySem.W
namespace Ev
open PySem PySem.Spec PyProof.Rows L2
def eOpF (g : List D → Option D) (ms : List E) : E := fun st => (evAll ms st).bind fun ds st => match g ds with
  | some d => .ok d st
  | none => .bad
def OpOkF (K : PySem.W.Frag) (ca : Ca) (g : List D → Option D) (r : List V → Hp → VK → Prop) : Prop :=
  ∀ (F : Addr → Prop) (H : Hp) (ds : List D) (d : D) (xs : List V) (Q : VK), (∀ a, F a → ∃ o, H a = some o) → Reps K ca F H ds xs → g ds = some d →
    (∀ v F' H', Al F H F' H' → Rep K ca F' H' d v → Q v H') → r xs H Q
def isO (c : Str) : D → Bool
  | .obj c' _ _ => c' == c
  | _ => false
def gDun (tag : List D → Bool) (mf : MF) : List D → Option D := fun ds => match tag ds with
  | true => (match mf (ds.map .f) with
    | .ok d _ => some d
    | _ => none)
  | false => none
section
variable {K : PySem.W.Frag} {ca : Ca} {W : WX} {F : Addr → Prop} {H : Hp} {σ : L2.St} {Q : VK} {m n : E} {g : List D → Option D} {r : List V → Hp → VK → Prop}
theorem eOpF1_run (ho : OpOkF K ca g r) (h : tE K ca W (eOpF g [m]) σ H Q) : tE K ca W m σ H fun x H1 => r [x] H1 Q := by
  obtain ⟨F, st, A, rl, h⟩ := h
  refine ⟨F, st, A, rl, ?_⟩
  unfold eOpF evAll evAll at h
  cases z : m st with
  | bad => simp only [z, R.bind] at h
  | exc c x s => simp only [z, R.bind] at h; exact h
  | ok d st1 =>
    simp only [z, R.bind] at h
    intro v F1 H1 A1 rl1 rp s1
    cases z3 : g [d] with
    | none => simp only [z3] at h
    | some e =>
      simp only [z3] at h
      exact ho F1 H1 [d] e [v] Q rl1.fd (.cons rp .nil) z3 fun w F2 H2 al rw2 => h w F2 H2 A1 (al.rl rl1) rw2 (s1.trans al.step)
theorem eOpF2_run (ho : OpOkF K ca g r) (h : tE K ca W (eOpF g [m, n]) σ H Q) : tE K ca W m σ H fun x H1 => tE K ca W n σ H1 fun y H2 => r [x, y] H2 Q := by
  have h : tE K ca W (fun st => (m st).bind fun d st => (n st).bind fun e st => match g [d, e] with
    | some d => .ok d st
    | none => .bad) σ H Q := by
    obtain ⟨F, st, A, rl, h⟩ := h
    refine ⟨F, st, A, rl, ?_⟩
    unfold eOpF evAll evAll evAll at h
    cases z : m st with
    | bad => simp only [z, R.bind] at h
    | exc c x s => simp only [z, R.bind] at h ⊢; exact h
    | ok d st1 =>
      simp only [z, R.bind] at h ⊢
      cases z2 : n st1 with
      | bad => simp only [z2] at h
      | exc c x s => simp only [z2] at h ⊢; exact h
      | ok e st2 => simp only [z2] at h ⊢; exact h
  refine tE_bind (n := fun d st => (n st).bind fun e st => match g [d, e] with
    | some d => .ok d st
    | none => .bad) h fun d v F H st A rl rp q => ?_
  refine ⟨F, st, A, rl, ?_⟩
  cases z2 : n st with
  | bad => simp only [z2, R.bind] at q
  | exc c x s => simp only [z2, R.bind] at q; exact q
  | ok e st2 =>
    simp only [z2, R.bind] at q
    intro u F1 H1 A1 rl1 rp1 s1
    cases z3 : g [d, e] with
    | none => simp only [z3] at q
    | some k =>
      simp only [z3] at q
      exact ho F1 H1 [d, e] k [v, u] Q rl1.fd (.cons (rp.step s1 rl) (.cons rp1 .nil)) z3 fun w F2 H2 al rw2 => q w F2 H2 A1 (al.rl rl1) rw2 (s1.trans al.step)
theorem repS_f : ∀ {ds : List D} {vs : List V}, Reps K ca F H ds vs → RepS K ca F H (ds.map .f) (vs.map some) []
  | [], vs, h => by unfold Reps at h; subst h; exact ⟨rfl, rfl⟩
  | d :: ds, vs, h => by
    obtain ⟨v, r, rfl, h1, h2⟩ := h.inv
    exact ⟨some v, r.map some, [], [], rfl, rfl, ⟨rfl, v, rfl, h1⟩, repS_f h2⟩
theorem rl_f {ds : List D} {vs : List V} (fd : ∀ a, F a → ∃ o, H a = some o) (h : Reps K ca F H ds vs) : Rl K ca F H (ds.map .f) (vs.map some) [] := ⟨⟨[], repS_f h, .refl _⟩, .nil, fd, fun _ m => by cases m⟩
theorem Step.al {F' : Addr → Prop} {H' : Hp} {A' : List Addr} (s : Step F H [] F' H' A') (fd : ∀ a, F' a → ∃ o, H' a = some o) : Al F H F' H' := ⟨s.fm, fun a o e => s.keep a o e (by simp), fun a m => by
  rcases s.fnew a m with z | z | z
  · exact .inl z
  · exact .inr ⟨z, fd a m⟩
  · cases z⟩
/-- a def's promise, called with frozen data -/
theorem spF {mf : MF} {ds : List D} {xs : List V} {d : D} {E : XK} (fd : ∀ a, F a → ∃ o, H a = some o) (rp : Reps K ca F H ds xs) (e : (match mf (ds.map .f) with | .ok d _ => some d | _ => none) = some d) (q : ∀ v F' H', Al F H F' H' → Rep K ca F' H' d v → Q v H') : spE K ca mf xs H Q E := by
  refine ⟨F, _, [], rl_f fd rp, ?_⟩
  cases z : mf (ds.map .f) with
  | bad => rw [z] at e; cases e
  | exc c x s => rw [z] at e; cases e
  | ok d' cs' =>
    rw [z] at e
    cases e
    intro v F' H' A' rl rp s
    exact q v F' H' (s.al rl.fd) rp
theorem gDun_inv {tag : List D → Bool} {mf : MF} {ds : List D} {d : D} (h : gDun tag mf ds = some d) : tag ds = true ∧ (match mf (ds.map .f) with | .ok d _ => some d | _ => none) = some d := by
  unfold gDun at h
  cases z : tag ds with
  | false => rw [z] at h; cases h
  | true => rw [z] at h; exact ⟨rfl, h⟩
theorem isO_inv {c : Str} {d : D} {v : V} (h : isO c d = true) (r : Rep K ca F H d v) : ∃ a dx fs ns, v = .ref a ∧ ca.ok c ns ∧ H a = some (.ins (ca.a c) dx fs) := by
  cases d with
  | obj c' ns ds =>
    cases eq_of_beq (show (c' == c) = true from h)
    unfold Rep at r
    obtain ⟨a, dx, gs, vs, rfl, kc, _, _, q1, _⟩ := r
    exact ⟨a, dx, gs, ns, rfl, kc, q1⟩
  | _ => cases h
end
section
variable {X : Cx} {C C2 f : Addr} {k : Nat} {sp : Sp}
theorem fresh_inst {pins : List (Addr × Obj)} {σ : L2.St} {H : Hp} {s : Shared} {a dx : Addr} {fs : List (Str × V)} (I : Inv X pins σ H s) (e : H a = some (.ins C dx fs)) : ∃ ox od, PySem.W.InstAt s.heap a ox C (some od) := by
  obtain ⟨mA, O, _⟩ := ins_get I.hok e
  obtain ⟨od, J, _⟩ := O.look
  exact ⟨_, od, J⟩
/-- len(x) -/
def rLenO (C : Addr) (sp : Sp) : List V → Hp → VK → Prop := fun xs H Q => ∃ a dx fs, xs = [.ref a] ∧ H a = some (.ins C dx fs) ∧ sp [.ref a] H (fun z H' => ∃ n : Nat, z = .int n ∧ n < 2 ^ 63 ∧ Q z H') E0
theorem cr_lenO (hs : PySem.W.findIn X.K (.ref C) "__len__" = some (some (.ref f))) (hf : PySem.W.isFn X.K (.ref f) = true) (Fn : FnR X.prog X.w X.K X.mg X.base (L2.CX X.prog X.w) k f sp) (hr : Room (k + 1) X.A) : CallR X (.builtin "len") (rLenO C sp) := by
  intro pins s σ H xs us Q I r h
  obtain ⟨a, dx, fs, rfl, e, q⟩ := h
  rw [Vals.ref1 r]
  obtain ⟨ox, od, J⟩ := fresh_inst I e
  obtain ⟨m, hF⟩ := I.fr
  refine PySem.W.len_K hF I.ok.mod.kin J hs hf ?_
  refine wpAny_mono (wpAny_call (SlX.run_at (us := [.ref a]) (ws := [.ref a]) Fn hr.in1 I.env0.in1 passL I (.cons rfl .nil) q)) (fun w s' z => ?_) fun _ _ x => x
  obtain ⟨z', H', I', rz, n, ez, hn, qz⟩ := z
  subst ez
  obtain ⟨t, rfl⟩ := (show ∃ t, w = Value.int n t from rz)
  exact ⟨⟨by omega, by exact_mod_cast hn⟩, .int n, H', I'.tok _, ⟨_, rfl⟩, qz⟩
/-- a - b, a == b .. of the same class -/
def rBinO (C C2 : Addr) (sp : Sp) : R2 := fun x y H Q => ∃ a b dx fs dy gs, x = .ref a ∧ y = .ref b ∧ H a = some (.ins C dx fs) ∧ H b = some (.ins C2 dy gs) ∧ sp [x, y] H Q E0
theorem op_binO {op : Operator} (hc : PySem.W.selfFirst X.K C = true) (hs : PySem.W.findIn X.K (.ref C) (PySem.dunder op.info.2) = some (some (.ref f))) (hf : PySem.W.isFn X.K (.ref f) = true) (Fn : FnR X.prog X.w X.K X.mg X.base (L2.CX X.prog X.w) k f sp) (hr : Room k X.A) :
    OpR X (binaryOp op) (rBinO C C sp) := by
  intro pins s σ H x y v u Q I rx ry h
  obtain ⟨a, b, dx, fs, dy, gs, rfl, rfl, e, e2, q⟩ := h
  cases (show v = Value.ref a from rx)
  cases (show u = Value.ref b from ry)
  obtain ⟨ox, od, J⟩ := fresh_inst I e
  obtain ⟨ox2, od2, J2⟩ := fresh_inst I e2
  obtain ⟨m, hF⟩ := I.fr
  refine PySem.W.binop_K hF I.ok.mod.kin J J2.type hc hs hf ?_
  refine wpAny_mono (wpAny_call (run_fnR (us := [.ref a, .ref b]) (vs := [.ref a, .ref b]) Fn hr passL I (.cons rfl (.cons rfl .nil)) q)) (fun w s' z => ?_) fun _ _ x => x
  obtain ⟨z', H', I', rz, qz⟩ := z
  exact SlX.cmpback rz ⟨z', H', I', rz, qz⟩
theorem op_binD {op : Operator} {cD : ClassData} (ne : C ≠ C2) (hc : PySem.W.selfFirst X.K C = true) (hs : PySem.W.findIn X.K (.ref C) (PySem.dunder op.info.2) = some (some (.ref f))) (hf : PySem.W.isFn X.K (.ref f) = true) (hD : PySem.W.clsIn X.K C2 = some cD) (hm : cD.mro = [.ref C2, .type "object"])
    (h1 : PySem.W.findIn X.K (.ref C2) (PySem.dunder op.info.2) = some none) (h2 : PySem.W.findIn X.K (.ref C2) (dunderR op.info.2) = some none) (g1 : PySem.W.findIn X.K (.type "object") (PySem.dunder op.info.2) = some none) (g2 : PySem.W.findIn X.K (.type "object") (dunderR op.info.2) = some none)
    (Fn : FnR X.prog X.w X.K X.mg X.base (L2.CX X.prog X.w) k f sp) (hr : Room k X.A) : OpR X (binaryOp op) (rBinO C C2 sp) := by
  intro pins s σ H x y v u Q I rx ry h
  obtain ⟨a, b, dx, fs, dy, gs, rfl, rfl, e, e2, q⟩ := h
  cases (show v = Value.ref a from rx)
  cases (show u = Value.ref b from ry)
  obtain ⟨ox, od, J⟩ := fresh_inst I e
  obtain ⟨ox2, od2, J2⟩ := fresh_inst I e2
  obtain ⟨m, hF⟩ := I.fr
  refine PySem.W.evx_binD hF I.ok.mod.kin J J2.type ne hc hs hf hD hm h1 h2 g1 g2 ?_
  refine wpAny_mono (wpAny_call (run_fnR (us := [.ref a, .ref b]) (vs := [.ref a, .ref b]) Fn hr passL I (.cons rfl (.cons rfl .nil)) q)) (fun w s' z => ?_) fun _ _ x => x
  obtain ⟨z', H', I', rz, qz⟩ := z
  exact SlX.cmpback rz ⟨z', H', I', rz, qz⟩
theorem op_cmpO {op : CmpOp} (hop : ∀ a b, compareOp op a b = richCompare op a b) (hs : PySem.W.findIn X.K (.ref C) (cmpInfo op).2.1 = some (some (.ref f))) (hf : PySem.W.isFn X.K (.ref f) = true) (Fn : FnR X.prog X.w X.K X.mg X.base (L2.CX X.prog X.w) k f sp) (hr : Room k X.A) :
    OpR X (compareOp op) (rBinO C C sp) := by
  intro pins s σ H x y v u Q I rx ry h
  obtain ⟨a, b, dx, fs, dy, gs, rfl, rfl, e, e2, q⟩ := h
  cases (show v = Value.ref a from rx)
  cases (show u = Value.ref b from ry)
  obtain ⟨ox, od, J⟩ := fresh_inst I e
  obtain ⟨ox2, od2, J2⟩ := fresh_inst I e2
  obtain ⟨m, hF⟩ := I.fr
  rw [hop]
  refine PySem.W.cmp_K (op := op) (tb := .ref C) hr.units0 hF I.ok.mod.kin J J2.type (by unfold PySem.W.notFirst; simp) hs hf ?_
  refine wpAny_mono (wpAny_call (run_fnR (us := [.ref a, .ref b]) (vs := [.ref a, .ref b]) Fn hr passL I (.cons rfl (.cons rfl .nil)) q)) (fun w s' z => ?_) fun _ _ x => x
  obtain ⟨z', H', I', rz, qz⟩ := z
  exact SlX.cmpback rz ⟨z', H', I', rz, qz⟩
/-- a != b by == -/
def rNeO (C : Addr) (sp : Sp) : R2 := fun x y H Q => ∃ a b dx fs dy gs, x = .ref a ∧ y = .ref b ∧ H a = some (.ins C dx fs) ∧ H b = some (.ins C dy gs) ∧ sp [x, y] H (fun z H' => ∃ t, z = .bl t ∧ Q (.bl (!t)) H') E0
theorem op_neO (hs : PySem.W.findIn X.K (.ref C) "__eq__" = some (some (.ref f))) (hf : PySem.W.isFn X.K (.ref f) = true) (hne : PySem.W.findIn X.K (.ref C) "__ne__" = some (some (.builtin "object.__ne__"))) (hob : PySem.W.subIn X.K (.ref C) (.type "object") = some true)
    (Fn : FnR X.prog X.w X.K X.mg X.base (L2.CX X.prog X.w) k f sp) (hr : Room (k + 1) X.A) : OpR X (compareOp .NotEq) (rNeO C sp) := by
  intro pins s σ H x y v u Q I rx ry h
  obtain ⟨a, b, dx, fs, dy, gs, rfl, rfl, e, e2, q⟩ := h
  cases (show v = Value.ref a from rx)
  cases (show u = Value.ref b from ry)
  obtain ⟨ox, od, J⟩ := fresh_inst I e
  obtain ⟨ox2, od2, J2⟩ := fresh_inst I e2
  show wpAny _ _ (richCompare .NotEq _ _) _ _ _
  refine PySem.W.evx_ne (by have := hr.un; omega) I.kIn J J2.type hs hf hne hob ?_
  refine wpAny_mono (wpAny_call (SlX.run_at (us := [.ref a, .ref b]) (ws := [.ref a, .ref b]) Fn hr.in1 I.env0.in1 passL I (.cons rfl (.cons rfl .nil)) q)) (fun w s' z => ?_) fun _ _ x => x
  obtain ⟨z', H', I', rz, t, ez, qz⟩ := z
  subst ez
  cases (show w = Value.bool t from rz)
  exact ⟨t, rfl, .bl (!t), H', I', rfl, qz⟩
/-- x in k -/
def rInO (C : Addr) (sp : Sp) (neg : Bool) : R2 := fun x y H Q => ∃ b dy gs, y = .ref b ∧ H b = some (.ins C dy gs) ∧ sp [y, x] H (fun z H' => ∃ t, z = .bl t ∧ Q (.bl (neg != t)) H') E0
theorem op_inO (hs : PySem.W.findIn X.K (.ref C) "__contains__" = some (some (.ref f))) (hf : PySem.W.isFn X.K (.ref f) = true) (Fn : FnR X.prog X.w X.K X.mg X.base (L2.CX X.prog X.w) k f sp) (hr : Room k X.A) : OpR X (compareOp .In) (rInO C sp false) := by
  intro pins s σ H x y v u Q I rx ry h
  obtain ⟨b, dy, gs, rfl, e, q⟩ := h
  cases (show u = Value.ref b from ry)
  obtain ⟨ox, od, J⟩ := fresh_inst I e
  obtain ⟨m, hF⟩ := I.fr
  refine PySem.W.in_K hF I.ok.mod.kin J hs hf ?_
  refine wpAny_mono (wpAny_call (run_fnR (us := [.ref b, v]) (vs := [.ref b, x]) Fn hr passL I (.cons rfl (.cons rx .nil)) q)) (fun w s' z => ?_) fun _ _ x => x
  obtain ⟨z', H', I', rz, t, ez, qz⟩ := z
  subst ez
  cases (show w = Value.bool t from rz)
  exact wpAny_truthy_bool ⟨.bl t, H', I', rfl, by simpa using qz⟩
theorem op_notInO (hs : PySem.W.findIn X.K (.ref C) "__contains__" = some (some (.ref f))) (hf : PySem.W.isFn X.K (.ref f) = true) (Fn : FnR X.prog X.w X.K X.mg X.base (L2.CX X.prog X.w) k f sp) (hr : Room k X.A) : OpR X (compareOp .NotIn) (rInO C sp true) := by
  intro pins s σ H x y v u Q I rx ry h
  obtain ⟨b, dy, gs, rfl, e, q⟩ := h
  cases (show u = Value.ref b from ry)
  obtain ⟨ox, od, J⟩ := fresh_inst I e
  obtain ⟨m, hF⟩ := I.fr
  refine PySem.W.notIn_K hF I.ok.mod.kin J hs hf ?_
  refine wpAny_mono (wpAny_call (run_fnR (us := [.ref b, v]) (vs := [.ref b, x]) Fn hr passL I (.cons rfl (.cons rx .nil)) q)) (fun w s' z => ?_) fun _ _ x => x
  obtain ⟨z', H', I', rz, t, ez, qz⟩ := z
  subst ez
  cases (show w = Value.bool t from rz)
  exact wpAny_truthy_bool ⟨.bl (!t), H', I', rfl, by simpa using qz⟩
end
def gLenO (c : Str) (mf : MF) : List D → Option D := fun ds => match gDun (fun ds => match ds with | [d] => isO c d | _ => false) mf ds with
  | some (.int n) => if 0 ≤ n ∧ n < 2 ^ 63 then some (.int n) else none
  | _ => none
def tag2 (c c2 : Str) : List D → Bool
  | [d, e] => isO c d && isO c2 e
  | _ => false
def gNeO (c : Str) (mf : MF) : List D → Option D := fun ds => match gDun (tag2 c c) mf ds with
  | some (.bl t) => some (.bl (!t))
  | _ => none
def gInO (c : Str) (mf : MF) (neg : Bool) : List D → Option D
  | [d, e] => (match isO c e, mf [.f e, .f d] with
    | true, .ok (.bl t) _ => some (.bl (neg != t))
    | _, _ => none)
  | _ => none
section
variable {K : PySem.W.Frag} {ca : Ca} {c c2 : Str} {mf : MF}
theorem okf_lenO : OpOkF K ca (gLenO c mf) (rLenO (ca.a c) (spE K ca mf)) := fun F H ds d xs Q fd rp e q => by
  unfold gLenO at e
  split at e
  · rename_i n z
    split at e
    · rename_i hn
      cases e
      obtain ⟨t, z2⟩ := gDun_inv z
      match ds, t with
      | [d], t =>
        obtain ⟨v, r, rfl, r1, r2⟩ := rp.inv
        unfold Reps at r2
        subst r2
        obtain ⟨a, dx, fs, ns, rfl, kc, e⟩ := isO_inv t r1
        refine ⟨a, dx, fs, rfl, e, spF fd (.cons r1 .nil) z2 fun v F' H' al rv => ?_⟩
        have := rv
        unfold Rep at this
        subst this
        exact ⟨n.toNat, by rw [Int.toNat_of_nonneg hn.1], by omega, q _ F' H' al rv⟩
    · cases e
  · cases e
theorem okf_bin : OpOkF K ca (gDun (tag2 c c2) mf) (r2L (rBinO (ca.a c) (ca.a c2) (spE K ca mf))) := fun F H ds d xs Q fd rp e q => by
  obtain ⟨t, z2⟩ := gDun_inv e
  match ds, t with
  | [d, e], t =>
    obtain ⟨t1, t2⟩ := Bool.and_eq_true_iff.mp (show (isO c d && isO c2 e) = true from t)
    obtain ⟨v, r, rfl, r1, rq⟩ := rp.inv
    obtain ⟨u, r, rfl, r2, r3⟩ := rq.inv
    unfold Reps at r3
    subst r3
    obtain ⟨a, dx, fs, ns, rfl, kc, e1⟩ := isO_inv t1 r1
    obtain ⟨b, dy, gs, ns2, rfl, kc2, e2⟩ := isO_inv t2 r2
    exact ⟨a, b, dx, fs, dy, gs, rfl, rfl, e1, e2, spF fd (.cons r1 (.cons r2 .nil)) z2 q⟩
theorem okf_ne : OpOkF K ca (gNeO c mf) (r2L (rNeO (ca.a c) (spE K ca mf))) := fun F H ds d xs Q fd rp e q => by
  unfold gNeO at e
  split at e
  · rename_i t0 z
    cases e
    obtain ⟨t, z2⟩ := gDun_inv z
    match ds, t with
    | [d, e], t =>
      obtain ⟨t1, t2⟩ := Bool.and_eq_true_iff.mp (show (isO c d && isO c e) = true from t)
      obtain ⟨v, r, rfl, r1, rq⟩ := rp.inv
      obtain ⟨u, r, rfl, r2, r3⟩ := rq.inv
      unfold Reps at r3
      subst r3
      obtain ⟨a, dx, fs, ns, rfl, kc, e1⟩ := isO_inv t1 r1
      obtain ⟨b, dy, gs, ns2, rfl, kc2, e2⟩ := isO_inv t2 r2
      refine ⟨a, b, dx, fs, dy, gs, rfl, rfl, e1, e2, spF fd (.cons r1 (.cons r2 .nil)) z2 fun v F' H' al rv => ?_⟩
      unfold Rep at rv
      exact ⟨t0, rv, q _ F' H' al rep_bl⟩
  · cases e
theorem okf_in {neg : Bool} : OpOkF K ca (gInO c mf neg) (r2L (rInO (ca.a c) (spE K ca mf) neg)) := fun F H ds d xs Q fd rp e q => by
  unfold gInO at e
  split at e
  · rename_i d1 d2
    split at e
    · rename_i t0 cs z1 z2
      cases e
      obtain ⟨v, r, rfl, r1, rq⟩ := rp.inv
      obtain ⟨u, r, rfl, r2, r3⟩ := rq.inv
      unfold Reps at r3
      subst r3
      obtain ⟨b, dy, gs, ns2, rfl, kc2, e2⟩ := isO_inv z1 r2
      refine ⟨b, dy, gs, rfl, e2, spF (ds := [d2, d1]) (d := .bl t0) fd (.cons r2 (.cons r1 .nil)) (by show (match mf [.f d2, .f d1] with | .ok d _ => some d | _ => none) = _; rw [z2]) fun v F' H' al rv => ?_⟩
      unfold Rep at rv
      exact ⟨t0, rv, q _ F' H' al rep_bl⟩
    · cases e
  · cases e
end
section
variable {X : Cx} {ca : Ca} {W : WX} {a b e : Expr} {pos p : Pos} {m n : E} {g : List D → Option D} {r : List V → Hp → VK → Prop} {ρ : R2} {x : Str} {id : String}
theorem se_binF {op : Operator} (ho : OpR X (binaryOp op) ρ) (hk : OpOkF X.K ca g (r2L ρ)) (ha : PE X a (tE X.K ca W m)) (hb : PE X b (tE X.K ca W n)) : PE X (.BinOp a op b pos) (tE X.K ca W (eOpF g [m, n])) := PE.imp (pe_op ho ha hb) fun σ H Q h => eOpF2_run hk h
theorem se_cmpF {op : CmpOp} (ho : OpR X (compareOp op) ρ) (hk : OpOkF X.K ca g (r2L ρ)) (ha : PE X a (tE X.K ca W m)) (hb : PE X b (tE X.K ca W n)) (hm : behindInMarks op b = false) : PE X (.Compare a [op] [b] pos) (tE X.K ca W (eOpF g [m, n])) := PE.imp (pe_cmpR ho ha hb hm) fun σ H Q h => eOpF2_run hk h
theorem st_cmpF {op : CmpOp} (ho : OpR X (compareOp op) ρ) (hk : OpOkF X.K ca g (r2L ρ)) (ha : PE X a (tE X.K ca W m)) (hb : PE X b (tE X.K ca W n)) (hm : behindInMarks op b = false) : PT X (.Compare a [op] [b] pos) (tT X.K ca W (mT (eOpF g [m, n]))) := PT.imp (pt_cmpR ho ha hb hm) fun σ H Q h => eOpF2_run hk (tT_tE h)
theorem se_callBF (hc : CallR X (.builtin id) r) (hk : OpOkF X.K ca g r) (hg : Gl X x) (hm : X.mg x = none) (hv : bootBuiltins x = some (.builtin id)) (ha : PE X e (tE X.K ca W m)) (hn : x ≠ "__name__" := by decide) (hdb : (x == ("__debug__" : Str)) = false := by decide)
    (he : starEach [e] X.env = (false, eval e X.env) :: starEach [] X.env := by rfl) (hpl : (backTo pos (starEach [] X.env)).any (·.1) = false := by rfl) : PE X (.Call (.Name x p) [e] [] pos) (tE X.K ca W (eOpF g [m])) :=
  PE.imp (pe_callB hc hg hm hv (pa_cons ha pa_nil he) hn hdb he hpl) fun σ H Q h => eOpF1_run hk h
/-- isinstance(e, C), C the own class of it -/
def gIsC (c : Str) : List D → Option D
  | [d] => if isO c d then some (.bl true) else none
  | _ => none
theorem se_isC {c y : Str} {py : Pos} (ic : C8.InsC X.K (ca.a c)) (hg : Gl X "isinstance") (hm : X.mg "isinstance" = none) (hgC : Gl X y) (hmC : X.mg y = some (.ref (ca.a c))) (hv : bootBuiltins "isinstance" = some (.builtin "isinstance")) (ha : PE X e (tE X.K ca W m)) (hd : (y == ("__debug__" : Str)) = false := by decide)
    (he : starEach [e, .Name y py] X.env = (false, eval e X.env) :: starEach [.Name y py] X.env := by rfl) (hs : starEach [.Name y py] X.env = [(false, eval (.Name y py) X.env)] := by rfl) (hpl : (backTo pos (starEach [.Name y py] X.env)).any (·.1) = false := by rfl) :
    PE X (.Call (.Name "isinstance" p) [e, .Name y py] [] pos) (tE X.K ca W (eOpF (gIsC c) [m])) :=
  PE.imp (pe_callB (C8.call_isC ic) hg hm hv (pa_cons ha (pa_cons (pe_glob (v := .ref (ca.a c)) hgC hmC rfl hd) pa_nil hs) he) (by decide) (by decide) he hpl) fun σ H Q h =>
    eOpF1_run (r := fun xs H Q => ∃ a dx fs, xs ++ [V.ref (ca.a c)] = [.ref a, .ref (ca.a c)] ∧ H a = some (.ins (ca.a c) dx fs) ∧ Q (.bl true) H) (fun F H ds d xs Q fd rp e q => by
      unfold gIsC at e
      split at e
      · split at e
        · rename_i t
          cases e
          obtain ⟨v, r, rfl, r1, r2⟩ := rp.inv
          unfold Reps at r2
          subst r2
          obtain ⟨a, dx, fs, ns, rfl, kc, e⟩ := isO_inv t r1
          exact ⟨a, dx, fs, rfl, e, q _ F H .refl rep_bl⟩
        · cases e
      · cases e) h
def eNever : E := fun _ => .bad
def mNever : B' := fun _ => .bad
theorem se_never (h : PE X e (fun _ _ _ => False)) : PE X e (tE X.K ca W eNever) := PE.imp h fun σ H Q ⟨F, st, A, rl, h⟩ => h
theorem pe_false : PE X e (fun _ _ _ => False) := ⟨fun _ _ _ _ _ _ h => h.elim⟩
theorem pt_false : PT X e (fun _ _ _ => False) := ⟨fun _ _ _ _ _ _ h => h.elim⟩
theorem st_never : PT X e (tT X.K ca W mNever) := PT.imp pt_false fun σ H Q ⟨F, st, A, rl, h⟩ => h
end
def evI : Option E → Sl → R (Option Int)
  | none, st => .ok none st
  | some m, st => (m st).bind fun d st => match d with
    | .int i => .ok (some i) st
    | _ => .bad
def eSl (g : D → Option Int → Option Int → Option D) (m : E) (lo hi : Option E) : E := fun st => (m st).bind fun d st => (evI lo st).bind fun l st => (evI hi st).bind fun h st => match g d l h with
  | some d => .ok d st
  | none => .bad
def cutD {α : Type} (xs : List α) (lo hi : Option Int) : List α := (xs.drop (HT.sIx xs.length 0 lo)).take (HT.sIx xs.length xs.length hi - HT.sIx xs.length 0 lo)
def gSl (d : D) (lo hi : Option Int) : Option D := match d with
  | .lst ds => some (.lst (cutD ds lo hi))
  | .scr ns => some (.lst (cutD (ns.map .int) lo hi))
  | .tup ds => some (.tup (cutD ds lo hi))
  | .str z => if z.length ≤ sizeLine then some (.str (Txt.slice z lo hi)) else none
  | _ => none
section
variable (K : PySem.W.Frag) (ca : Ca) (W : WX)
def tLo : Option E → TO
  | none => tNoPart
  | some m => tPart (tE K ca W m)
end
section
variable {K : PySem.W.Frag} {ca : Ca} {W : WX} {F : Addr → Prop} {H : Hp} {σ : L2.St} {A : List Addr} {st : Sl}
theorem tLo_run {lo : Option E} {P : Option Int → Hp → Prop} (rl : Rl K ca F H st σ A) (h : match evI lo st with
      | .ok l st' => ∀ F' H' A', Rl K ca F' H' st' σ A' → Step F H A F' H' A' → P l H'
      | .exc c x st' => XcW K ca W F H A σ c x st'
      | .bad => False) : tLo K ca W lo σ H P := by
  cases lo with
  | none => exact h F H A rl .refl
  | some m =>
    refine ⟨F, st, A, rl, ?_⟩
    unfold evI at h
    cases z : m st with
    | bad => simp only [z, R.bind] at h
    | exc c x s => simp only [z, R.bind] at h; exact h
    | ok d st1 =>
      simp only [z, R.bind] at h
      cases d with
      | int i =>
        intro v F' H' A' rl' rp s
        unfold Rep at rp
        exact ⟨i, rp, h F' H' A' rl' s⟩
      | _ => exact h.elim
theorem cutD_reps {ds : List D} {vs : List V} (h : Reps K ca F H ds vs) (lo hi : Option Int) : Reps K ca F H (cutD ds lo hi) (cutV vs lo hi) := by
  unfold cutD cutV
  rw [h.length]
  exact (h.drop _).take _
def rSl3 (K : PySem.W.Frag) : V → Option Int → Option Int → Hp → VK → Prop := fun x lo hi H Q => rSlL K x lo hi H Q ∨ rSlA K x lo hi H Q ∨ C8.rSlX x lo hi H Q
theorem sl_3 {X : Cx} : SlR X (rSl3 X.K) := sl_list.or (sl_tupA.or C8.sl_txt)
theorem ok_sl {d d' : D} {x : V} {lo hi : Option Int} {Q : VK} (w : Vw K ca F H d x) (e : gSl d lo hi = some d') (q : ∀ v F' H', Al F H F' H' → Rep K ca F' H' d' v → Q v H') : rSl3 K x lo hi H Q := by
  cases d with
  | lst ds =>
    cases e
    obtain ⟨a, vs, rfl, h, r⟩ := w
    exact .inl ⟨a, vs, rfl, .of h, fun p n => new_lst q (cutD_reps r lo hi) n⟩
  | scr ns =>
    cases e
    obtain ⟨a, vs, rfl, h, r⟩ := w.sq rfl
    exact .inl ⟨a, vs, rfl, h, fun p n => new_lst q (cutD_reps r lo hi) n⟩
  | tup ds =>
    cases e
    obtain ⟨a, vs, rfl, h, r⟩ := rep_tup w
    refine .inr (.inl ⟨a, vs, rfl, h.sq, fun hh => ?_, fun _ p n => new_tup q (cutD_reps r lo hi) n⟩)
    have e2 : cutD ds lo hi = ds := by
      unfold cutD
      rw [← r.length, hh.1, hh.2, List.drop_zero, Nat.sub_zero, List.take_of_length_le (by rw [r.length]; exact Nat.le_refl _)]
    rw [e2] at q
    exact q _ F H .refl w
  | str z =>
    unfold gSl at e
    simp only at e
    split at e
    · rename_i hz
      cases e
      exact .inr (.inr ⟨z, w, hz, q _ F H .refl rep_str⟩)
    · cases e
  | _ => cases e
end
section
variable {X : Cx} {ca : Ca} {W : WX} {e : Expr} {lo hi : Option Expr} {pos p2 : Pos} {m : E} {l h : Option E}
theorem pl_none : PO X none (tLo X.K ca W none) := po_none
theorem pl_some {b : Expr} {n : E} (h : PE X b (tE X.K ca W n)) : PO X (some b) (tLo X.K ca W (some n)) := po_some h
theorem se_sl (he : PE X e (tE X.K ca W m)) (hl : PO X lo (tLo X.K ca W l)) (hu : PO X hi (tLo X.K ca W h)) : PE X (.Subscript e (.Slice lo hi none p2) pos) (tE X.K ca W (eSl gSl m l h)) :=
  PE.imp (pe_slice sl_3 he hl hu) fun σ H Q q => by
    refine tE_bind (n := fun d st => (evI l st).bind fun l st => (evI h st).bind fun h st => match gSl d l h with
      | some d => .ok d st
      | none => .bad) q fun d v F H st A rl rp q => ?_
    refine tLo_run rl ?_
    cases z : evI l st with
    | bad => simp only [z, R.bind] at q
    | exc c x s => simp only [z, R.bind] at q; exact q
    | ok l' st1 =>
      simp only [z, R.bind] at q
      intro F1 H1 A1 rl1 s1
      refine tLo_run rl1 ?_
      cases z2 : evI h st1 with
      | bad => simp only [z2] at q
      | exc c x s => simp only [z2] at q; exact fun cls oe F' H' A' r x s => q cls oe F' H' A' r x (s1.trans s)
      | ok h' st2 =>
        simp only [z2] at q
        intro F2 H2 A2 rl2 s2
        cases z3 : gSl d l' h' with
        | none => simp only [z3] at q
        | some k =>
          simp only [z3] at q
          exact ok_sl (((rp.step s1 rl).step s2 rl1).vw) z3 fun w F3 H3 al rw3 => q w F3 H3 A2 (al.rl rl2) rw3 ((s1.trans s2).trans al.step)
/-- xs[::-1] -/
def gRev : List D → Option D
  | [.lst ds] => some (.lst ds.reverse)
  | [.scr ds] => some (.lst (ds.map .int).reverse)
  | _ => none
theorem Reps.reverse {K : PySem.W.Frag} {F : Addr → Prop} {H : Hp} : ∀ {ds : List D} {vs : List V}, Reps K ca F H ds vs → Reps K ca F H ds.reverse vs.reverse
  | [], vs, h => by unfold Reps at h; subst h; exact .nil
  | d :: ds, vs, h => by
    obtain ⟨v, r, rfl, h1, h2⟩ := h.inv
    rw [List.reverse_cons, List.reverse_cons]
    exact h2.reverse.append (.cons h1 .nil)
variable (cf : Cf X.K ca) {pd : Opd}
include cf in
theorem se_rev {k : Nat} {p1 p3 : Pos} (he : PE X e (tP X.K ca W pd)) (ok : opdsOk [pd] = true := by rfl) (of : opdsF [pd] = true := by rfl) :
    PE X (.Subscript e (.Slice none none (some (.UnaryOp .USub (.Constant (.int 1) k p1) p2)) p3) pos) (tE X.K ca W (eOp gRev [pd])) := PE.imp (pe_revL he) fun σ H Q h =>
  eOp_run (r := fun xs H Q => match xs with
    | [x] => ∃ a ys, x = .ref a ∧ SqL X.K H a ys ∧ ∀ p, H p = none → Q (.ref p) (upd H p (.lst ys.reverse))
    | _ => False) cf (fun F H ds d xs Q vw e q => by
    unfold gRev at e
    split at e
    · cases e
      obtain ⟨x, rfl, a, vs, rfl, h, r⟩ := vw.inv1
      exact ⟨a, vs, rfl, .of h, fun p n => new_lst q r.reverse n⟩
    · cases e
      obtain ⟨x, rfl, w⟩ := vw.inv1
      obtain ⟨a, vs, rfl, h, r⟩ := w.sq rfl
      exact ⟨a, vs, rfl, h, fun p n => new_lst q r.reverse n⟩
    · cases e) ok of h
end
end Ev
namespace Ev
open PySem PySem.Spec PyProof.Rows L2
section
variable {K : PySem.W.Frag} {ca : Ca} {F : Addr → Prop} {H : Hp}
theorem RepI.stay0 {H' : Hp} {own : Bool} {d : D} {v : V} {B : List Addr} {a : Addr} (h : RepI K ca F H own d v B) (na : ¬ F a) (nb : a ∉ B) (k : ∀ b o, b ≠ a → H b = some o → H' b = some o) : RepI K ca F H' own d v B :=
  h.stay (fun _ z => z) (fun b o fb eb => k b o (fun q => na (q ▸ fb)) eb) (fun b m o eb => k b o (fun q => nb (q ▸ m)) eb) fun b m => (h.nf b m).1
theorem RepIs.stay0 {H' : Hp} {ns : List Str} {ds : List D} {vs : List V} {B : List Addr} {a : Addr} (h : RepIs K ca F H ns ds vs B) (na : ¬ F a) (nb : a ∉ B) (k : ∀ b o, b ≠ a → H b = some o → H' b = some o) : RepIs K ca F H' ns ds vs B :=
  h.stay (fun _ z => z) (fun b o fb eb => k b o (fun q => na (q ▸ fb)) eb) (fun b m o eb => k b o (fun q => nb (q ▸ m)) eb) fun b m => (h.nf b m).1
/-- the list of the field f, and what is there when it becomes another -/
theorem RepIs.mutF {f : Str} (hf : owf f = true) : ∀ {ns : List Str} {ds : List D} {gs : List (Str × V)} {B : List Addr} {d : D}, gs.map (·.1) = ns → RepIs K ca F H ns ds (gs.map (·.2)) B → B.Nodup → lookF ns ds f = some d →
    ∃ a es vs, d = .lst es ∧ a ∈ B ∧ gs.lookup f = some (.ref a) ∧ ¬ F a ∧ H a = some (.lst vs) ∧ Reps K ca F H es vs ∧
      ∀ (H' : Hp) es' vs', (∀ b o, b ≠ a → H b = some o → H' b = some o) → H' a = some (.lst vs') → Reps K ca F H' es' vs' → RepIs K ca F H' ns (putD f (.lst es') ns ds) (gs.map (·.2)) B
  | [], ds, gs, B, d, e, h, nd, l => by cases ds <;> cases l
  | n :: ns, ds, gs, B, d, e, h, nd, l => by
    cases gs with
    | nil => cases e
    | cons g gs =>
      obtain ⟨g1, g2⟩ := g
      simp only [List.map_cons, List.cons.injEq] at e
      obtain ⟨rfl, e⟩ := e
      obtain ⟨d0, dr, v0, vr, B1, C, rfl, e2, rfl, h1, h2⟩ := h
      simp only [List.map_cons, List.cons.injEq] at e2
      obtain ⟨rfl, rfl⟩ := e2
      obtain ⟨nd1, nd2, nd3⟩ := List.nodup_append.mp nd
      unfold lookF at l
      unfold putD
      by_cases q : g1 = f
      · subst q
        rw [beq_self_eq_true, if_pos rfl] at l
        cases l
        rw [hf] at h1
        obtain ⟨a, es, vs, rfl, rfl, rfl, n, ha, r⟩ := h1
        refine ⟨a, es, vs, rfl, by simp, by simp [List.lookup_cons], n, ha, r, fun H' es' vs' k ha' r' => ?_⟩
        rw [if_pos rfl]
        exact ⟨_, dr, _, _, [a], C, rfl, rfl, rfl, by rw [hf]; exact ⟨a, es', vs', rfl, rfl, rfl, n, ha', r'⟩, h2.stay0 n (fun m => nd3 a (by simp) a m rfl) k⟩
      · have qb : (f == g1) = false := by simpa using fun z => q z.symm
        rw [qb] at l
        obtain ⟨a, es, vs, rfl, ma, lk, n, ha, r, z⟩ := RepIs.mutF hf e h2 nd2 (by simpa using l)
        refine ⟨a, es, vs, rfl, by simp [ma], by rw [List.lookup_cons, qb]; exact lk, n, ha, r, fun H' es' vs' k ha' r' => ?_⟩
        rw [if_neg q]
        exact ⟨d0, _, g2, _, B1, C, rfl, rfl, rfl, h1.stay0 n (fun m => nd3 a m a ma rfl) k, z H' es' vs' k ha' r'⟩
/-- a new list stored in the field f -/
theorem RepIs.putO {f : Str} {a : Addr} {es : List D} {vs : List V} (hf : owf f = true) (n : ¬ F a) (ha : H a = some (.lst vs)) (r : Reps K ca F H es vs) : ∀ {ns : List Str} {ds : List D} {gs : List (Str × V)} {B : List Addr}, gs.map (·.1) = ns → RepIs K ca F H ns ds (gs.map (·.2)) B → B.Nodup → a ∉ B →
    (putF f (.ref a) gs).map (·.1) = putN f ns ∧ ∃ B', B'.Nodup ∧ (∀ b ∈ B', b = a ∨ b ∈ B) ∧ RepIs K ca F H (putN f ns) (putD f (.lst es) ns ds) ((putF f (.ref a) gs).map (·.2)) B'
  | [], ds, gs, B, e, h, nd, nm => by
    cases gs with
    | cons g gs => cases e
    | nil =>
      obtain ⟨rfl, _, rfl⟩ := h
      exact ⟨rfl, [a], by simp, fun b m => .inl (by simpa using m), .lst es, [], .ref a, [], [a], [], rfl, rfl, rfl, by rw [hf]; exact ⟨a, es, vs, rfl, rfl, rfl, n, ha, r⟩, rfl, rfl, rfl⟩
  | n0 :: ns, ds, gs, B, e, h, nd, nm => by
    cases gs with
    | nil => cases e
    | cons g gs =>
      obtain ⟨g1, g2⟩ := g
      simp only [List.map_cons, List.cons.injEq] at e
      obtain ⟨rfl, e⟩ := e
      obtain ⟨d0, dr, v0, vr, B1, C, rfl, e2, rfl, h1, h2⟩ := h
      simp only [List.map_cons, List.cons.injEq] at e2
      obtain ⟨rfl, rfl⟩ := e2
      obtain ⟨nd1, nd2, nd3⟩ := List.nodup_append.mp nd
      unfold putF putN putD
      by_cases q : g1 = f
      · rw [if_pos q, if_pos q, if_pos q]
        subst q
        refine ⟨by rw [List.map_cons, e], a :: C, List.nodup_cons.mpr ⟨fun m => nm (by simp [m]), nd2⟩, fun b m => ?_, .lst es, dr, .ref a, _, [a], C, rfl, rfl, rfl, by rw [hf]; exact ⟨a, es, vs, rfl, rfl, rfl, n, ha, r⟩, h2⟩
        rcases List.mem_cons.mp m with m | m
        · exact .inl m
        · exact .inr (by simp [m])
      · rw [if_neg q, if_neg q, if_neg q]
        obtain ⟨e3, B', b1, b2, h3⟩ := RepIs.putO hf n ha r e h2 nd2 (fun m => nm (by simp [m]))
        refine ⟨by rw [List.map_cons, e3], B1 ++ B', List.nodup_append.mpr ⟨nd1, b1, fun x m y m' e => ?_⟩, fun b m => ?_, d0, _, g2, _, B1, B', rfl, rfl, rfl, h1, h3⟩
        · subst e
          rcases b2 x m' with rfl | z
          · exact nm (by simp [m])
          · exact nd3 x m x z rfl
        · rcases List.mem_append.mp m with m | m
          · exact .inr (by simp [m])
          · rcases b2 b m with z | z
            · exact .inl z
            · exact .inr (by simp [z])
end
/-- o.f.append(..), o of the slot i, which the arguments do not touch -/
def eMutF (g : List D → List D → Option (D × List D)) (i : Nat) (f : Str) (ms : List E) : E := fun st => match st[i]? with
  | some (.o (.obj c ns ds)) => (match lookF ns ds f with
    | some (.lst es) => (match evAll ms (st.set i .n) with
      | .ok as st1 => (match st1[i]?, g es as with
        | some .n, some (d, es') => .ok d (st1.set i (.o (.obj c ns (putD f (.lst es') ns ds))))
        | _, _ => .bad)
      | _ => .bad)
    | _ => .bad)
  | _ => .bad
theorem putN_mem {f : Str} : ∀ {ns : List Str}, f ∈ putN f ns
  | [] => List.mem_cons_self
  | n :: ns => by
    unfold putN
    by_cases q : n = f
    · rw [if_pos q, q]; exact List.mem_cons_self
    · rw [if_neg q]; exact List.mem_cons_of_mem _ putN_mem
theorem lookF_mem {f : Str} {d : D} : ∀ {ns : List Str} {ds : List D}, lookF ns ds f = some d → f ∈ ns
  | [], ds, h => by cases ds <;> cases h
  | n :: ns, [], h => by cases h
  | n :: ns, d0 :: ds, h => by
    unfold lookF at h
    cases q : f == n with
    | true => rw [eq_of_beq q]; exact List.mem_cons_self
    | false => rw [q] at h; exact List.mem_cons_of_mem _ (lookF_mem (by simpa using h))
section
variable {K : PySem.W.Frag} {ca : Ca} {F : Addr → Prop} {H : Hp} {A : List Addr} {σ : L2.St} {st : Sl} {i : Nat} {f : Str}
theorem fld_at (cf : Cf K ca) (hf : owf f = true) (rl : Rl K ca F H st σ A) {c : Str} {ns : List Str} {ds : List D} {d : D} (z : st[i]? = some (.o (.obj c ns ds))) (zl : lookF ns ds f = some d) :
    ∃ o dx gs a es vs, σ[i]? = some (some (.ref o)) ∧ H o = some (.ins (ca.a c) dx gs) ∧ Cls K (ca.a c) ∧ NoAttr K (ca.a c) f ∧ gs.lookup f = some (.ref a) ∧ d = .lst es ∧ ¬ F a ∧ H a = some (.lst vs) ∧ Reps K ca F H es vs ∧ a ∈ A := by
  obtain ⟨x, B, C, e1, ⟨v, rfl, o, dx, gs, B0, rfl, kc, rfl, n1, n2, h1, h2, e3, r⟩, _, p⟩ := rl.take z
  have nd := (List.nodup_append.mp (p.nodup_iff.mp rl.nd)).1
  obtain ⟨a, es, vs, rfl, ma, lk, na, ha, rr, _⟩ := RepIs.mutF hf e3 r (List.nodup_cons.mp (List.nodup_cons.mp nd).2).2 zl
  exact ⟨o, dx, gs, a, es, vs, e1, h1, cf.cl c ns kc, cf.na c ns kc f (lookF_mem zl), lk, rfl, na, ha, rr, p.mem_iff.mpr (by simp [ma])⟩
theorem fldlst_step (hf : owf f = true) {c : Str} {ns : List Str} {ds : List D} {es' : List D} {d : D} {vs' : List V} {o a : Addr} {dx : Addr} {gs : List (Str × V)} (rl : Rl K ca F H st σ A) (z : st[i]? = some (.o (.obj c ns ds))) (zl : lookF ns ds f = some d) (ev : σ[i]? = some (some (.ref o))) (ho : H o = some (.ins (ca.a c) dx gs)) (lk : gs.lookup f = some (.ref a)) (r : Reps K ca F H es' vs') :
    Rl K ca F (upd H a (.lst vs')) (st.set i (.o (.obj c ns (putD f (.lst es') ns ds)))) σ A ∧ Step F H A F (upd H a (.lst vs')) A ∧ ∀ d v, Rep K ca F H d v → Rep K ca F (upd H a (.lst vs')) d v := by
  have hL : ∃ vs, H a = some (.lst vs) ∧ ¬ F a := by
    obtain ⟨x, B, C, e1, ⟨v, rfl, o', dx', gs', B0, rfl, kc, rfl, n1, n2, h1, h2, e3, rr⟩, _, p⟩ := rl.take z
    rw [ev] at e1
    cases e1
    rw [ho] at h1
    cases h1
    have nd := (List.nodup_append.mp (p.nodup_iff.mp rl.nd)).1
    obtain ⟨a', es, vs, _, ma, lk', na, ha, _, _⟩ := RepIs.mutF hf e3 rr (List.nodup_cons.mp (List.nodup_cons.mp nd).2).2 zl
    rw [lk] at lk'
    cases lk'
    exact ⟨vs, ha, na⟩
  obtain ⟨vs, ha, na⟩ := hL
  obtain ⟨u1, u2⟩ := upd_mut (o := .lst vs') ha
  have kp : ∀ b o, F b → H b = some o → upd H a (.lst vs') b = some o := fun b o fb eb => u1 b o (fun q => na (q ▸ fb)) eb
  have key := rl.mutate (H' := upd H a (.lst vs')) (d' := .obj c ns (putD f (.lst es') ns ds)) z ev (fun B ndB ow k1 k2 => by
    obtain ⟨o', dx', gs', B0, e, kc, rfl, n1, n2, h1, h2, e3, rr⟩ := ow
    cases e
    rw [ho] at h1
    cases h1
    have nd2 := List.nodup_cons.mp ndB
    have nd3 := List.nodup_cons.mp nd2.2
    obtain ⟨a', es, ws, _, ma, lk', na', ha', _, zz⟩ := RepIs.mutF hf e3 rr nd3.2 zl
    rw [lk] at lk'
    cases lk'
    refine ⟨o, dx, gs, B0, rfl, kc, rfl, n1, n2, u1 o _ (fun q => ?_) ho, u1 dx _ (fun q => ?_) h2, e3, zz _ es' vs' u1 upd_same (Reps.mono (fun _ z => z) kp _ _ r)⟩
    · subst q; exact nd2.1 (by simp [ma])
    · subst q; exact nd3.1 ma) (fun B ow => by
    obtain ⟨o', dx', gs', B0, e, kc, rfl, n1, n2, h1, h2, e3, rr⟩ := ow
    cases e
    rw [ho] at h1
    cases h1
    refine ⟨fun y w ny ey => u1 y w (fun q => ny ?_) ey, u2⟩
    subst q
    -- the list is one of the object's own
    have : ∀ {ns : List Str} {ds : List D} {gs : List (Str × V)} {B0 : List Addr}, gs.map (·.1) = ns → RepIs K ca F H ns ds (gs.map (·.2)) B0 → gs.lookup f = some (.ref y) → y ∈ B0 := by
      intro ns
      induction ns with
      | nil => intro ds gs B0 e h l; cases gs <;> cases e; cases l
      | cons n ns ih =>
        intro ds gs B0 e h l
        cases gs with
        | nil => cases e
        | cons g gs =>
          obtain ⟨g1, g2⟩ := g
          simp only [List.map_cons, List.cons.injEq] at e
          obtain ⟨rfl, e⟩ := e
          obtain ⟨d0, dr, v0, vr, B1, C, rfl, e2, rfl, h1, h2⟩ := h
          simp only [List.map_cons, List.cons.injEq] at e2
          obtain ⟨rfl, rfl⟩ := e2
          rw [List.lookup_cons] at l
          cases q : f == g1 with
          | true =>
            rw [q] at l
            cases l
            rw [← eq_of_beq q, hf] at h1
            obtain ⟨a', _, _, _, e, rfl, _⟩ := h1
            cases e
            simp
          | false =>
            rw [q] at l
            exact List.mem_append_right _ (ih e h2 l)
    exact List.mem_cons_of_mem _ (List.mem_cons_of_mem _ (this e3 rr lk)))
  exact ⟨key.1, key.2, fun d v rp => Rep.mono (fun _ z => z) kp d v rp⟩
/-- a slot's own data set aside while something runs -/
theorem aside {W : WX} {d : D} (rl : Rl K ca F H st σ A) (z : st[i]? = some (.o d)) : ∃ v B C, σ[i]? = some (some v) ∧ Own K ca F H d v B ∧ Rl K ca F H (st.set i .n) σ C ∧ (∀ b ∈ B, b ∉ C) ∧ B.Nodup ∧
    ∀ {F1 H1 st1 A1}, Rl K ca F1 H1 st1 σ A1 → Step F H C F1 H1 A1 → st1[i]? = some .n → Own K ca F1 H1 d v B ∧ Rl K ca F1 H1 (st1.set i (.o d)) σ (B ++ A1) ∧ Step F H A F1 H1 (B ++ A1) := by
  obtain ⟨x, B, C, e1, ⟨v, rfl, ow⟩, rl2, p⟩ := rl.take z
  have nd := p.nodup_iff.mp rl.nd
  have dj : ∀ b ∈ B, b ∉ C := fun b m m' => (List.nodup_append.mp nd).2.2 b m b m' rfl
  refine ⟨v, B, C, e1, ow, rl2, dj, (List.nodup_append.mp nd).1, fun {F1 H1 st1 A1} rl1 s e => ?_⟩
  have ow1 := ow.step s rl2 dj
  have djA : ∀ b ∈ B, b ∉ A1 := fun b m m' => by
    rcases s.anew b m' with z | z
    · exact dj b m z
    · obtain ⟨o, e⟩ := (ow.nf b m).2; rw [e] at z; cases z
  have nd1 : (B ++ A1).Nodup := List.nodup_append.mpr ⟨(List.nodup_append.mp nd).1, rl1.nd, fun x m y m' e => djA x m (e ▸ m')⟩
  refine ⟨ow1, rl1.put e e1 ⟨v, rfl, ow1⟩ nd1, ?_⟩
  exact pend_step (Step.sub fun a m => p.mem_iff.mpr m) s
theorem mutF_run {W : WX} {g : List D → List D → Option (D × List D)} {r : V → List V → Hp → VK → Prop} {ms : List E} {Q : VK} (cf : Cf K ca) (hf : owf f = true) (hk : MutOk K ca g r) (h : tE K ca W (eMutF g i f ms) σ H Q) :
    tFld K (tVar i) f σ H fun x H1 => tyV K "list" x H1 ∧ tA K ca W ms σ H1 fun xs H2 => r x xs H2 Q := by
  obtain ⟨F, st, A, rl, q⟩ := tE_iff.mp h
  unfold eMutF at q
  split at q
  · rename_i c ns ds z2
    split at q
    · rename_i es0 zl
      obtain ⟨o, dx, gs, a, es, vs, e1, h1, cl, na, lk, ees, nF, ha, rr, mA⟩ := fld_at cf hf rl z2 zl
      cases ees
      refine ⟨.ref o, e1, o, ca.a c, dx, gs, .ref a, rfl, h1, cl, na, lk, .inl ⟨rfl, vs, .of ha⟩, ?_⟩
      obtain ⟨v, B, C, e2, ow, rl2, dj, ndB0, back⟩ := aside (W := W) rl z2
      rw [e1] at e2
      cases e2
      refine ⟨F, st.set i .n, C, rl2, ?_⟩
      cases z3 : evAll ms (st.set i .n) with
      | bad => simp only [z3] at q; exact q
      | exc c x s => simp only [z3] at q; exact q.elim
      | ok as st1 =>
        simp only [z3] at q
        intro xs F1 H1 A1 rl1 rx s1
        split at q
        · rename_i d es' y1 y2
          obtain ⟨ow1, rl3, s3⟩ := back rl1 s1 y1
          have hi : i < st1.length := (List.getElem?_eq_some_iff.mp y1).1
          have y3 : (st1.set i (.o (.obj c ns ds)))[i]? = some (.o (.obj c ns ds)) := by simp [hi]
          obtain ⟨o', dx', gs', B0, e, kc, eB, n1, n2, h1', h2', e3, rr'⟩ := id ow1
          cases e
          -- the object's fields are as before
          obtain ⟨o2, dx2, gs2, B2, e, _, eB2, m1, m2, g1, g2, e32, rr2⟩ := id ow
          cases e
          have hk1 : H1 o = some (.ins (ca.a c) dx gs) := s1.keep o _ h1 (fun m => dj o (by rw [eB2]; simp) m)
          have ha1 : H1 a = some (.lst vs) := s1.keep a _ ha (fun m => by
            have ndB := (List.nodup_append.mp (rl3.nd)).1
            rw [h1] at g1
            cases g1
            have nd2 := List.nodup_cons.mp (List.nodup_cons.mp (eB2 ▸ ndB)).2
            obtain ⟨a', _, _, _, ma, lk', _⟩ := RepIs.mutF hf e32 rr2 nd2.2 zl
            rw [lk] at lk'
            cases lk'
            exact dj a (by rw [eB2]; simp [ma]) m)
          have re1 := rr.step s1 rl2
          refine hk F1 H1 a vs es0 as xs d es' Q ha1 re1 rx y2 fun w vs' rw1 rws' => ?_
          obtain ⟨k1, k2, k3⟩ := fldlst_step hf rl3 y3 zl e1 hk1 lk rws'
          rw [List.set_set] at k1
          exact q w F1 _ _ k1 (k3 d w rw1) (s3.trans k2)
        · exact q.elim
    · exact q.elim
  · exact q.elim
end
section
variable {X : Cx} {ca : Ca} {P : List Nat} {ro : Bool} {W : WX} {e o ix : Expr} {es : List Expr} {pos apos cpos opos pos' : Pos} {m mk : E} {ms : List E} {i : Nat} {f name : Str} {id : String} {g : List D → List D → Option (D × List D)} {r : V → List V → Hp → VK → Prop}
variable (cf : Cf X.K ca)
include cf
theorem se_mutF (hf : owf f = true) (slot : Slot "list" name id) (hty : typeOf (.builtin id) = pure (.type "method_descriptor")) (hm : MtR X id r) (hk : MutOk X.K ca g r) (ho : PE X o (tVar i)) (ha : PA X (e :: es) (tA X.K ca W ms)) (hb : attributeBase o f X.env (eval o X.env) = eval o X.env := by rfl)
    (hbase : attributeBase (.Attribute o f opos) name X.env (eval (.Attribute o f opos) X.env) = eval (.Attribute o f opos) X.env := by rfl)
    (hfew : ((backTo cpos (starEach (e :: es) X.env)).all (fun x => !x.1) && (backToKw cpos (keywordEach [] X.env)).all (fun x => x.1.isSome)
      && decide ((e :: es).length + ([] : List Keyword).length + (if ([] : List Keyword).isEmpty then 0 else 1) < 30)) = true := by rfl)
    (hline : (apos.endLine == cpos.line) = true := by rfl) (hs : starEach (e :: es) X.env = (false, eval e X.env) :: starEach es X.env := by rfl) (hplain : (backTo cpos (starEach es X.env)).any (·.1) = false := by rfl) :
    PE X (.Call (.Attribute (.Attribute o f opos) name apos) (e :: es) [] cpos) (tE X.K ca W (eMutF g i f ms)) := PE.imp (pe_bm PySem.F.plainAttrs_list slot hty hm (pe_fld ho hb) ha hbase hfew hline hs hplain) fun σ H Q h => mutF_run cf hf hk h
/-- o.f[k], a number k -/
def eIxH (i : Nat) (f : Str) (k : Int) : E := fun st => match st[i]?, owf f with
  | some (.o (.obj c ns ds)), true => (match lookF ns ds f with
    | some (.lst es) => (match L2.atI es k with
      | some d => .ok d st
      | none => .bad)
    | _ => .bad)
  | _, _ => .bad
theorem se_ixH {k : Int} (ho : PE X o (tVar i)) (hx : PE X ix (tC (.int k))) (hb : attributeBase o f X.env (eval o X.env) = eval o X.env := by rfl) (hs : PlainIx ix := by intro _ _; rfl) : PE X (.Subscript (.Attribute o f opos) ix pos) (tE X.K ca W (eIxH i f k)) :=
  PE.imp (pe_ix ix_list (pe_fld ho hb) hx hs) fun σ H Q h => by
    obtain ⟨F, st, A, rl, q⟩ := tE_iff.mp h
    unfold eIxH at q
    split at q
    · rename_i c ns ds z ho
      split at q
      · rename_i es zl
        split at q
        · rename_i d za
          obtain ⟨o, dx, gs, a, es', vs, e1, h1, cl, na, lk, ees, nF, ha, rr, mA⟩ := fld_at cf ho rl z zl
          cases ees
          obtain ⟨v, zv, rv⟩ := rr.atI za
          exact ⟨.ref o, e1, o, ca.a c, dx, gs, .ref a, rfl, h1, cl, na, lk, a, vs, k, v, rfl, rfl, .of ha, zv, q v F H A rl rv .refl⟩
        · exact q.elim
      · exact q.elim
    · exact q.elim
/-- o.f = e, a new list of the object's own -/
def setFldO (i : Nat) (f : Str) (d : D) (st : Sl) : Option Sl := match st[i]?, d with
  | some (.o (.obj c ns ds)), .lst _ => (match decide (ns.length < 1000), owf f with
    | true, true => some (st.set i (.o (.obj c (putN f ns) (putD f d ns ds))))
    | _, _ => none)
  | _, _ => none
def sAsgO (m : E) (i : Nat) (f : Str) : S := fun st => (m st).bind fun d st => match setFldO i f d st with
  | some st => .ok .nx st
  | none => .bad
theorem ss_fldO (hok : ∀ c ns, ca.ok c ns → ca.ok c (putN f ns)) (ho : PE X o (tVar i)) (hv : PE X e (tO X.K ca W m)) (hs : swapsWith e (some (.Attribute o f pos')) pos.line X.env = pure false := by rfl) : PS X (.Assign [.Attribute o f pos'] e pos) (tS X.K ca P ro W (sAsgO m i f)) :=
  PS.imp (ps_fld ho hv hs) fun Z σ H h => tS_o (k := fun d st => match setFldO i f d st with | some st => .ok .nx st | none => .bad) h fun d v F H st A B F0 H0 A0 rl ow nd s h => by
    cases z : setFldO i f d st with
    | none => simp only [z] at h; exact h.elim
    | some st' =>
      simp only [z] at h
      unfold setFldO at z
      split at z
      · rename_i c ns ds es z1
        split at z
        · rename_i zl zo
          cases z
          obtain ⟨la, vs, rfl, rfl, nF, hla, rr⟩ := ow
          obtain ⟨x, B, C, e1, ⟨v0, rfl, oo⟩, rl2, p⟩ := rl.take z1
          obtain ⟨a, dx, gs, B0, rfl, okc, rfl, n1, n2, h1, h2, e3, r⟩ := id oo
          have hl : gs.length < 1000 := by
            have : gs.length = ns.length := by rw [← e3, List.length_map]
            rw [this]
            exact of_decide_eq_true zl
          have ndA := p.nodup_iff.mp rl.nd
          have nlA : la ∉ A := (List.nodup_cons.mp nd).1
          have nl : ∀ b, b ∈ a :: dx :: B0 ++ C → b ≠ la := fun b m q => nlA (q ▸ p.mem_iff.mpr m)
          have nd2 := List.nodup_cons.mp (List.nodup_append.mp ndA).1
          have nd3 := List.nodup_cons.mp nd2.2
          have kp : ∀ b o, b ≠ a → H b = some o → upd H a (.ins (ca.a c) dx (putF f (.ref la) gs)) b = some o := fun b o n e => by rw [upd_ne n]; exact e
          have r1 := r.stay0 (H' := upd H a (.ins (ca.a c) dx (putF f (.ref la) gs))) n1 (fun m => nd2.1 (by simp [m])) kp
          have nla : la ≠ a := fun q => nl a (by simp) q.symm
          have rr1 : Reps X.K ca F (upd H a (.ins (ca.a c) dx (putF f (.ref la) gs))) es vs := Reps.mono (fun _ z => z) (fun b o fb eb => kp b o (fun q => n1 (q ▸ fb)) eb) _ _ rr
          obtain ⟨e7, B', b1, b2, r2⟩ := RepIs.putO zo nF (kp la _ nla hla) rr1 e3 r1 nd3.2 (fun m => nl la (by simp [m]) rfl)
          have sub : ∀ b ∈ a :: dx :: B', b = la ∨ b ∈ a :: dx :: B0 := fun b m => by
            rcases List.mem_cons.mp m with rfl | m
            · exact .inr (by simp)
            · rcases List.mem_cons.mp m with rfl | m
              · exact .inr (by simp)
              · rcases b2 b m with z | z
                · exact .inl z
                · exact .inr (by simp [z])
          have ndB' : (a :: dx :: B').Nodup := List.nodup_cons.mpr ⟨fun m => by
            rcases List.mem_cons.mp m with z | m
            · exact nd2.1 (by simp [z])
            · rcases b2 a m with z | z
              · exact nla z.symm
              · exact nd2.1 (by simp [z]), List.nodup_cons.mpr ⟨fun m => by
            rcases b2 dx m with z | z
            · exact nl dx (by simp) z
            · exact nd3.1 z, b1⟩⟩
          have djC : ∀ b ∈ a :: dx :: B', b ∉ C := fun b m m' => by
            rcases sub b m with rfl | z
            · exact nl b (List.mem_append_right _ m') rfl
            · exact (List.nodup_append.mp ndA).2.2 b z b m' rfl
          have nd' : ((a :: dx :: B') ++ C).Nodup := List.nodup_append.mpr ⟨ndB', rl2.nd, fun x m y m' e => djC x m (e ▸ m')⟩
          have naC : a ∉ C := djC a (by simp)
          have rl3 := rl2.beside (p := a) (o := .ins (ca.a c) dx (putF f (.ref la) gs)) n1 naC
          have hi : i < st.length := (List.getElem?_eq_some_iff.mp z1).1
          have hdx : dx ≠ a := fun q => nd2.1 (by simp [q])
          have rl4 := rl3.put (i := i) (c := .o (.obj c (putN f ns) (putD f (.lst es) ns ds))) (x := some (.ref a)) (B := a :: dx :: B') (by simp [hi]) e1 ⟨.ref a, rfl, a, dx, _, B', rfl, hok c ns okc, rfl, n1, n2, upd_same, kp dx _ hdx h2, e7, r2⟩ nd'
          rw [List.set_set] at rl4
          refine ⟨.ref a, e1, a, ca.a c, dx, gs, rfl, h1, cf.cl c ns okc, cf.na c _ (hok c ns okc) f putN_mem, hl, ?_⟩
          refine h σ F _ _ rl4 (s.trans ⟨fun _ z => z, fun b o e n => kp b o (fun q => n (by rw [q]; simp [p.mem_iff])) e, fun b o e => ?_, fun _ z => .inl z, fun b m => ?_⟩) .refl
          · by_cases q : b = a
            · subst q; exact ⟨_, upd_same⟩
            · exact ⟨o, kp b o q e⟩
          · rcases List.mem_append.mp m with m | m
            · rcases sub b m with rfl | z
              · exact .inl (by simp)
              · exact .inl (List.mem_cons_of_mem _ (p.mem_iff.mpr (List.mem_append_left _ z)))
            · exact .inl (List.mem_cons_of_mem _ (p.mem_iff.mpr (List.mem_append_right _ m)))
        · cases z
      · cases z
end
end Ev
namespace Ev
open PySem PySem.Spec PyProof.Rows L2
def mfD (mf : MF) (dcs : List Cell) : MF := fun cs => match mf (cs ++ dcs) with
  | .ok d cs' => .ok d (cs'.take cs.length)
  | .exc c x cs' => .exc c x (cs'.take cs.length)
  | .bad => .bad
section
variable {K : PySem.W.Frag} {ca : Ca} {F : Addr → Prop} {H : Hp}
theorem RepS.append : ∀ {st st2 : Sl} {σ σ2 : L2.St} {B B2 : List Addr}, RepS K ca F H st σ B → RepS K ca F H st2 σ2 B2 → RepS K ca F H (st ++ st2) (σ ++ σ2) (B ++ B2)
  | [], st2, σ, σ2, B, B2, h, g => by obtain ⟨rfl, rfl⟩ := h; exact g
  | c :: cs, st2, σ, σ2, B, B2, h, g => by
    obtain ⟨x, r, B1, C, rfl, rfl, h1, h2⟩ := h
    exact ⟨x, r ++ σ2, B1, C ++ B2, rfl, by rw [List.append_assoc], h1, h2.append g⟩
theorem spE_dflt {mf : MF} {dcs : List Cell} {dvs vs : List V} {Q : VK} {E : XK} (hd : ∀ F H, RepS K ca F H dcs (dvs.map some) []) (h : spE K ca (mfD mf dcs) vs H Q E) : spE K ca mf (vs ++ dvs) H Q E := by
  obtain ⟨F, cs, A, rl, q⟩ := h
  obtain ⟨B, rs, p⟩ := rl.rep
  have hl : vs.length = cs.length := by have := rl.len; rwa [List.length_map] at this
  refine ⟨F, cs ++ dcs, A, ⟨⟨B, by rw [List.map_append]; have := rs.append (hd F H); rwa [List.append_nil] at this, p⟩, rl.nd, rl.fd, rl.nf⟩, ?_⟩
  have cut : ∀ {cs' F' H' A'}, Rl K ca F' H' cs' ((vs ++ dvs).map some) A' → ∃ A'', (∀ a ∈ A'', a ∈ A') ∧ Rl K ca F' H' (cs'.take cs.length) (vs.map some) A'' := fun {cs' F' H' A'} r => by
    obtain ⟨B1, rs1, p1⟩ := r.rep
    obtain ⟨B2, rs2, s2⟩ := rs1.takeN cs.length
    have ec : ((vs ++ dvs).map some).take cs.length = vs.map some := by
      rw [List.map_append, List.take_append_of_le_length (by rw [List.length_map]; omega), List.take_of_length_le (by rw [List.length_map]; omega)]
    rw [ec] at rs2
    have sub : ∀ a ∈ B2, a ∈ A' := fun a m => p1.mem_iff.mp (s2.subset m)
    exact ⟨B2, sub, ⟨B2, rs2, .refl _⟩, (p1.nodup_iff.mpr r.nd).sublist s2, r.fd, fun a m => r.nf a (sub a m)⟩
  unfold mfD at q
  cases z : mf (cs ++ dcs) with
  | bad => rw [z] at q; exact q
  | exc c x cs' =>
    rw [z] at q
    intro cls oe F' H' A' r xi s
    obtain ⟨A'', sub, r2⟩ := cut r
    exact q cls oe F' H' A'' r2 xi (s.trans (Step.sub sub))
  | ok d cs' =>
    rw [z] at q
    intro v F' H' A' r rp s
    obtain ⟨A'', sub, r2⟩ := cut r
    exact q v F' H' A'' r2 rp (s.trans (Step.sub sub))
theorem dflt_non : ∀ F H, RepS K ca F H [.f .non] ([V.non].map some) [] := fun F H => ⟨some .non, [], [], [], rfl, rfl, ⟨rfl, .non, rfl, non_rep⟩, rfl, rfl⟩
theorem dflt_int {i : Int} : ∀ F H, RepS K ca F H [.f (.int i)] ([V.int i].map some) [] := fun F H => ⟨some (.int i), [], [], [], rfl, rfl, ⟨rfl, .int i, rfl, rep_int⟩, rfl, rfl⟩
end
section
variable {X : Cx} {ca : Ca} {W : WX} {k : Nat} {f : Addr} {fd : FuncData} {pn : List Str} {mf : MF} {c m : Str} {g : Arg} {ps : List Arg} {o e : Expr} {es : List Expr} {pos apos : Pos} {dcs : List Cell} {dvs : List V} {ds : List Value}
theorem se_methD {pl : Sem Bool} (hdc : ∀ F H, RepS X.K ca F H dcs (dvs.map some) []) (cl : Cls X.K (ca.a c)) (hn : ∀ ns, ca.ok c ns → m ∉ ns) (he : PE X o (tG X.K ca W g)) (hm : Meth X.K (ca.a c) m f) (F : FnOk X.prog X.w X.K X.mg X.base (L2.CX X.prog X.w) k f fd pn (spE X.K ca mf)) (hr : Room k X.A) (hb : Binds X.K fd pn ds) (hd : Vals dvs ds) (tk : Takes X W) (ha : PA X (e :: es) (tGs X.K ca W ps))
    (hst : starEach (e :: es) X.env = (false, eval e X.env) :: starEach es X.env := by rfl) (hpl : (backTo pos (starEach es X.env)).any (·.1) = false := by rfl)
    (ht : eval (.Call (.Attribute o m apos) (e :: es) [] pos) X.env = (do
      let ov ← eval o X.env
      standAt apos.atName
      let (f, first) ← holding [ov] (getMethod ov m pl)
      callWith pos f first (backTo pos (starEach (e :: es) X.env)) (backToKw pos (keywordEach [] X.env))) := by rfl) :
    PE X (.Call (.Attribute o m apos) (e :: es) [] pos) (tE X.K ca W (eMeth c (mfD mf dcs) g ps)) := PE.imp (pe_methS (dvs := dvs) (E := WE W) he cl hm F hr hb hd (fun σ => passAt tk σ) ha hst hpl ht) fun σ H Q h => by
  obtain ⟨F, st, A, rl, q⟩ := tE_iff.mp h
  exact meth_then (Want := WantE X.K ca W F H A σ Q) (S := fun vs H1 => spE X.K ca mf (vs ++ dvs) H1 Q (WE W σ)) hn rl q (fun z => z) (fun _ _ _ z => z) fun as st vs F1 H1 A1 B r rv nd s z => spE_dflt hdc (tailE r rv nd s z)
end
def evH (en : Bool) (es : List D) : List D := match en with
  | true => enumD es
  | false => es
def eLcH (vs : List Nat) (en : Bool) (i : Nat) (f : Str) (g : Tg) (c : B') (el : E) : E := fun st => match st[i]?, owf f with
  | some (.o (.obj cn ns ds)), true => (match lookF ns ds f with
    | some (.lst es) => (match frozenAt (st.set i .n) vs && decide (st.length ≤ 64) with
      | true => (match lcL vs g c el (evH en es) (wipeS vs (st.set i .n)) with
        | .ok xs st' => if xs.length < sizeLine then (match (backS (st.set i .n) vs st')[i]? with
          | some .n => .ok (.lst xs) ((backS (st.set i .n) vs st').set i (.o (.obj cn ns ds)))
          | _ => .bad) else .bad
        | _ => .bad)
      | false => .bad)
    | _ => .bad)
  | _, _ => .bad
section
variable {K : PySem.W.Frag} {ca : Ca} {F : Addr → Prop} {H : Hp} {A : List Addr} {σ : L2.St} {st : Sl} {i : Nat} {f : Str} {W : WX}
/-- the list's walk, or its enumerate's -/
def itH (K : PySem.W.Frag) (la : Addr) : Bool → It
  | true => Ite K la
  | false => Itl K la
/-- the block's turns over the list at la -/
theorem lcH_run (cf : Cf K ca) {vs : List Nat} {en : Bool} {g : Tg} {c : B'} {el : E} {Q : VK} (h : tO K ca W (eLcH vs en i f g c el) σ H Q) :
    ∃ o C dx gs la ys, σ[i]? = some (some (.ref o)) ∧ H o = some (.ins C dx gs) ∧ Cls K C ∧ NoAttr K C f ∧ gs.lookup f = some (.ref la) ∧ SqL K H la ys ∧
      ∀ J, J = itH K la en → tLc (fun _ H0 Rr => Rr J H0) (tT' K ca (cmpP vs) g) (tT K ca W0 c) (tE K ca W0 el) vs σ H Q := by
  obtain ⟨F, st, A, rl, q⟩ := tO_iff.mp h
  unfold eLcH at q
  split at q
  · rename_i cn ns ds z2 ho
    split at q
    · rename_i es zl
      obtain ⟨o, dx, gs, la, es', ys, e1, h1, cl, na, lk, ees, nF, ha, rr, mA⟩ := fld_at cf ho rl z2 zl
      cases ees
      refine ⟨o, ca.a cn, dx, gs, la, ys, e1, h1, cl, na, lk, .of ha, fun J hJ D0 n3 => ?_⟩
      obtain ⟨v, B, C, e2, ow, rl2, dj, ndB, back⟩ := aside (W := W) rl z2
      rw [e1] at e2
      cases e2
      have mB : la ∈ B := by
        obtain ⟨o2, dx2, gs2, B2, e, _, eB2, m1, m2, g1, g2, e32, rr2⟩ := id ow
        cases e
        rw [h1] at g1
        cases g1
        obtain ⟨a', _, _, _, ma, lk', _⟩ := RepIs.mutF ho e32 rr2 (List.nodup_cons.mp (List.nodup_cons.mp (eB2 ▸ ndB)).2).2 zl
        rw [lk] at lk'
        cases lk'
        rw [eB2]
        simp [ma]
      cases zf : frozenAt (st.set i .n) vs && decide (st.length ≤ 64) with
      | false => simp only [zf] at q; exact q.elim
      | true =>
        simp only [zf] at q
        obtain ⟨z1, z3⟩ := Bool.and_eq_true_iff.mp zf
        cases zl2 : lcL vs g c el (evH en es) (wipeS vs (st.set i .n)) with
        | bad => simp only [zl2] at q; exact q.elim
        | exc cx x s => simp only [zl2] at q; exact q.elim
        | ok xs stE =>
          simp only [zl2] at q
          by_cases hl : xs.length < sizeLine
          · rw [if_pos hl] at q
            have lσ : σ.length ≤ 64 := by rw [rl.len]; exact of_decide_eq_true z3
            obtain ⟨A2, sub, rl3⟩ := rl2.wiped (vs := vs)
            obtain ⟨n1, n2⟩ := rl.fresh n3
            obtain ⟨_, n4⟩ := rl2.fresh n3
            have io : ItOk K ca J F H [la] (evH en es) := by
              subst hJ
              cases en with
              | true => exact ite_ok ha (.inr (by simp)) rr
              | false => exact itl_ok ha (.inr (by simp)) rr
            refine lc_turns [la] (fun b m => by rw [List.mem_singleton.mp m]; exact fun m' => dj la mB (sub _ m')) lσ rl3 ?_ n1 (fun m => n4 (sub _ m)) n3 io zl2 hl fun F3 H3 A3 acc rl4 hw nF nA hD rp s => ?_
            · exact wipeS_idem
            · rw [hw] at rl4
              have kF : ∀ a o, F a → H a = some o → H3 a = some o := fun a o fa e => s.keep a o e fun m => (rl3.nf a m).1 fa
              have r4 := Rl.backs rl2 z1 s.fm kF rl4
              rw [← hw] at r4
              have s2 : Step F H C F3 H3 (D0 :: A3) := (Step.sub sub).trans s
              have s3 : Step F H C F3 H3 A3 := s2.trans (Step.sub fun a m => List.mem_cons_of_mem _ m)
              cases ze : (backS (st.set i .n) vs stE)[i]? with
              | none => rw [ze] at q; exact q.elim
              | some ce =>
                rw [ze] at q
                cases ce with
                | n =>
                  obtain ⟨ow1, rl5, s5⟩ := back r4 s3 ze
                  have nB : D0 ∉ B := fun m => by obtain ⟨o, e⟩ := (ow.nf D0 m).2; rw [n3] at e; cases e
                  refine q (.ref D0) F3 H3 (B ++ A3) [D0] rl5 ⟨D0, acc, rfl, rfl, nF, hD, rp⟩ (List.nodup_cons.mpr ⟨fun m => ?_, rl5.nd⟩) ⟨s5.fm, s5.keep, s5.dom, s5.fnew, fun a m => ?_⟩
                  · rcases List.mem_append.mp (show D0 ∈ B ++ A3 from m) with m | m
                    · exact nB m
                    · exact nA m
                  · rcases List.mem_cons.mp m with m | m
                    · exact .inr (m ▸ n3)
                    · exact s5.anew a m
                | f _ => exact q.elim
                | o _ => exact q.elim
          · rw [if_neg hl] at q; exact q.elim
    · exact q.elim
  · exact q.elim
end
section
variable {X : Cx} {ca : Ca} {W : WX} {elt tg o iter : Expr} {ifs : List Expr} {scope : Scope} {own : List (Str × Nat)} {pos opos p ipos tpos : Pos} {g : Tg} {c : B'} {el : E} {i : Nat} {f : Str} {elts : List Expr} {kk : Nat}
variable (cf : Cf X.K ca)
include cf
theorem so_lcH (hc : X.calm = true) (hN : X.N.Nodup) (ho : PE X o (tVar i)) (ok : BlkOk X.N X.env.scope scope own)
    (hg : ∀ (s : Shared) (H : Hp) (C : Addr) (cl : List (Str × Addr)) (fp : List Addr), PG (X.blk s H scope (compEnvC scope cl C X.env) fp) tg (tT' X.K ca (cmpP (own.map (·.2))) g))
    (ht : ∀ (s : Shared) (H : Hp) (C : Addr) (cl : List (Str × Addr)) (fp : List Addr), PTs (X.blk s H scope (compEnvC scope cl C X.env) fp) ifs (tT X.K ca W0 c))
    (he : ∀ (s : Shared) (H : Hp) (C : Addr) (cl : List (Str × Addr)) (fp : List Addr), PE (X.blk s H scope (compEnvC scope cl C X.env) fp) elt (tE X.K ca W0 el)) (hb : attributeBase o f X.env (eval o X.env) = eval o X.env := by rfl) (hs : ∀ x, foldedSetIterable (.Attribute o f opos) X.env x = pure x := by intro _; rfl) :
    PE X (.ListComp elt [⟨tg, .Attribute o f opos, ifs, 0⟩] scope pos) (tO X.K ca W (eLcH (own.map (·.2)) false i f g c el)) :=
  PE.imp (pe_lc hc hN (pi_list (pe_fld ho hb)) ok hg ht he hs) fun σ H Q h => by
    obtain ⟨ob, C, dx, gs, la, ys, e1, h1, cl, na, lk, sq, k⟩ := lcH_run cf h
    exact ⟨.ref ob, e1, ob, C, dx, gs, .ref la, rfl, h1, cl, na, lk, la, rfl, ⟨ys, sq⟩, k _ rfl⟩
theorem so_lcHe (hc : X.calm = true) (hN : X.N.Nodup) (hge : Gl X "enumerate") (hme : X.mg "enumerate" = none) (ho : PE X o (tVar i)) (ok : BlkOk X.N X.env.scope scope own)
    (hg : ∀ (s : Shared) (H : Hp) (C : Addr) (cl : List (Str × Addr)) (fp : List Addr), PG (X.blk s H scope (compEnvC scope cl C X.env) fp) (.Tuple elts kk tpos) (tT' X.K ca (cmpP (own.map (·.2))) g))
    (ht : ∀ (s : Shared) (H : Hp) (C : Addr) (cl : List (Str × Addr)) (fp : List Addr), PTs (X.blk s H scope (compEnvC scope cl C X.env) fp) ifs (tT X.K ca W0 c))
    (he : ∀ (s : Shared) (H : Hp) (C : Addr) (cl : List (Str × Addr)) (fp : List Addr), PE (X.blk s H scope (compEnvC scope cl C X.env) fp) elt (tE X.K ca W0 el)) (hb : attributeBase o f X.env (eval o X.env) = eval o X.env := by rfl)
    (hse : starEach [.Attribute o f opos] X.env = [(false, eval (.Attribute o f opos) X.env)] := by rfl) (hs : ∀ x, foldedSetIterable (.Call (.Name "enumerate" p) [.Attribute o f opos] [] ipos) X.env x = pure x := by intro _; rfl) :
    PE X (.ListComp elt [⟨.Tuple elts kk tpos, .Call (.Name "enumerate" p) [.Attribute o f opos] [] ipos, ifs, 0⟩] scope pos) (tO X.K ca W (eLcH (own.map (·.2)) true i f g c el)) :=
  PE.imp (pe_lc hc hN (pi_enum hge hme (pa_cons (pe_fld ho hb) pa_nil hse) hse) ok hg ht he hs) fun σ H Q h => by
    obtain ⟨ob, C, dx, gs, la, ys, e1, h1, cl, na, lk, sq, k⟩ := lcH_run cf h
    exact ⟨.ref ob, e1, ob, C, dx, gs, .ref la, rfl, h1, cl, na, lk, la, ys, rfl, sq, k _ rfl⟩
end
end Ev
namespace Ev
open PySem PySem.Spec PyProof.Rows L2
section
variable {Pr : Program} {w : World} {K : PySem.W.Frag} {mg : Str → Option Value} {base : Heap} {ca : Ca} {P : List Nat} {b : S} {x qual : Str} {st : Stmt} {f : Addr} {fd : FuncData} {N ps : List Str} {k : Nat} {dvs : List V} {kws : List (Str × V)}
theorem fnED (F : FunD K x qual (defArgs st) (defBody st) (defScope st) dvs kws f fd) (S : FnScope N ps (defScope st))
    (body : ∀ (cdv : Value) (A : Around) (outer : List Env) (s : Shared) (H : Hp) (E : XK), Room k (A.deeper (envOfC qual (defScope st) s.heap.objs.size f cdv)) →
      PSs (cxOf (L2.CX Pr w) Pr w K mg base N qual (defScope st) f cdv A outer s H E) (defBody st) (tS K ca P false (fun cls d _ H => E cls d H) b)) :
    FnOk Pr w K mg base (L2.CX Pr w) (k + 1) f fd ps (spE K ca (runF N.length ps.length P b)) := by
  have len : ∀ vs H Q E, spE K ca (runF N.length ps.length P b) vs H Q E → vs.length = ps.length := fun vs H Q E h => by
    obtain ⟨F, cs, A, rl, q⟩ := h
    unfold runF at q
    cases z : decide (cs.length = ps.length) with
    | false => simp only [z] at q
    | true =>
      have l := rl.len
      rw [List.length_map] at l
      rw [l]
      exact of_decide_eq_true z
  refine F.ok S len fun cdv A outer s H vs Q E hr h => ⟨_, body cdv A outer s H E hr, ?_⟩
  have hl := len vs H Q E h
  obtain ⟨F, cs, A, rl, q⟩ := h
  unfold runF at q
  cases z : decide (cs.length = ps.length) with
  | false => simp only [z] at q
  | true =>
    simp only [z] at q
    obtain ⟨B, rs, pm⟩ := rl.rep
    have rl0 : Rl K ca F H (cs ++ List.replicate (N.length - ps.length) .n) (L2.start N vs) A := by
      unfold L2.start
      rw [hl]
      exact ⟨⟨B, rs.ext _, pm⟩, rl.nd, rl.fd, rl.nf⟩
    have lv : vs.length ≤ (L2.start N vs).length := by unfold L2.start; rw [List.length_append, List.length_map]; omega
    refine ⟨F, _, A, rl0, ?_⟩
    have kp : ∀ {st' σ' F' H' A'}, Rl K ca F' H' st' σ' A' → Pin P (L2.start N vs) σ' → ∃ A'', (∀ a ∈ A'', a ∈ A') ∧ Rl K ca F' H' (keepF P 0 (st'.take ps.length)) (vs.map some) A'' := fun rl' p => by
      rw [← hl]
      exact rl'.keep p (fun i h => start_get h) lv
    cases zb : b (cs ++ List.replicate (N.length - ps.length) .n) with
    | bad => simp only [zb] at q
    | exc c x st' =>
      simp only [zb] at q
      intro cls oe σ' F' H' A' rl' xi s p
      obtain ⟨A'', sub, rl2⟩ := kp rl' p
      exact q cls oe F' H' A'' rl2 xi (s.trans (Step.sub sub))
    | ok fl st' =>
      cases fl with
      | bk => simp only [zb] at q
      | ct => simp only [zb] at q
      | nx =>
        simp only [zb] at q
        intro σ' F' H' A' rl' s p
        obtain ⟨A'', sub, rl2⟩ := kp rl' p
        exact q .non F' H' A'' rl2 non_rep (s.trans (Step.sub sub))
      | rt d =>
        simp only [zb] at q
        intro v σ' F' H' A' rl' rp s p
        obtain ⟨A'', sub, rl2⟩ := kp rl' p
        exact q v F' H' A'' rl2 rp (s.trans (Step.sub sub))
theorem fnOD (F : FunD K x qual (defArgs st) (defBody st) (defScope st) dvs kws f fd) (S : FnScope N ps (defScope st))
    (body : ∀ (cdv : Value) (A : Around) (outer : List Env) (s : Shared) (H : Hp) (E : XK), Room k (A.deeper (envOfC qual (defScope st) s.heap.objs.size f cdv)) →
      PSs (cxOf (L2.CX Pr w) Pr w K mg base N qual (defScope st) f cdv A outer s H E) (defBody st) (tS K ca P true (fun cls d _ H => E cls d H) b)) :
    FnOk Pr w K mg base (L2.CX Pr w) (k + 1) f fd ps (spO K ca (runO N.length ps.length P b)) := by
  have len : ∀ vs H Q E, spO K ca (runO N.length ps.length P b) vs H Q E → vs.length = ps.length := fun vs H Q E h => by
    obtain ⟨F, cs, A, rl, q⟩ := h
    unfold runO at q
    cases z : decide (cs.length = ps.length) with
    | false => simp only [z] at q
    | true =>
      have l := rl.len
      rw [List.length_map] at l
      rw [l]
      exact of_decide_eq_true z
  refine F.ok S len fun cdv A outer s H vs Q E hr h => ⟨_, body cdv A outer s H E hr, ?_⟩
  have hl := len vs H Q E h
  obtain ⟨F, cs, A, rl, q⟩ := h
  unfold runO at q
  cases z : decide (cs.length = ps.length) with
  | false => simp only [z] at q
  | true =>
    simp only [z] at q
    obtain ⟨B, rs, pm⟩ := rl.rep
    have rl0 : Rl K ca F H (cs ++ List.replicate (N.length - ps.length) .n) (L2.start N vs) A := by
      unfold L2.start
      rw [hl]
      exact ⟨⟨B, rs.ext _, pm⟩, rl.nd, rl.fd, rl.nf⟩
    have lv : vs.length ≤ (L2.start N vs).length := by unfold L2.start; rw [List.length_append, List.length_map]; omega
    refine ⟨F, _, A, rl0, ?_⟩
    have kp : ∀ {st' σ' F' H' A'}, Rl K ca F' H' st' σ' A' → Pin P (L2.start N vs) σ' → ∃ A'', (∀ a ∈ A'', a ∈ A') ∧ Rl K ca F' H' (keepF P 0 (st'.take ps.length)) (vs.map some) A'' := fun rl' p => by
      rw [← hl]
      exact rl'.keep p (fun i h => start_get h) lv
    cases zb : b (cs ++ List.replicate (N.length - ps.length) .n) with
    | bad => simp only [zb] at q
    | exc c x st' =>
      simp only [zb] at q
      intro cls oe σ' F' H' A' rl' xi s p
      obtain ⟨A'', sub, rl2⟩ := kp rl' p
      exact q cls oe F' H' A'' rl2 xi (s.trans (Step.sub sub))
    | ok fl st' =>
      cases fl with
      | bk => simp only [zb] at q
      | ct => simp only [zb] at q
      | nx => simp only [zb] at q
      | rt d =>
        simp only [zb] at q
        intro v σ' F' H' A' D rl' ow nd s p
        obtain ⟨A'', sub, rl2⟩ := kp rl' p
        have sub2 : ∀ a ∈ D ++ A'', a ∈ D ++ A' := fun a m => (List.mem_append.mp m).elim (fun q => List.mem_append_left _ q) fun q => List.mem_append_right _ (sub a q)
        exact q v F' H' A'' D rl2 ow (List.nodup_append.mpr ⟨(List.nodup_append.mp nd).1, rl2.nd, fun x m y m' => (List.nodup_append.mp nd).2.2 x m y (sub y m')⟩) (s.trans (Step.sub sub2))
end
structure DefZ where
  adr : PySem.W.Frag → Addr
  name : Str
  qual : Str
  st : Stmt
  kwd : List (Str × He.Dv) := []
def fnZ (K : PySem.W.Frag) (a : Addr) : He.FnW := match K.lookup a with
  | some ⟨_, _, .func fd, _⟩ => some (fd.name, fd.qualname, fd.params, fd.body, fd.scope, fd.globals, fd.closure, fd.builtins)
  | _ => none
def DefZ.val (d : DefZ) : He.FnW := some (d.name, d.qual, defArgs d.st, .stmts (defBody d.st), defScope d.st, mainGlobals, [], builtinsNs)
def DefZ.kws (K : PySem.W.Frag) (d : DefZ) : List (Str × V) := d.kwd.map fun q => (q.1, q.2.v K)
def DefZ.ok (K : PySem.W.Frag) (d : DefZ) : Bool := PySem.W.keepIn K (.ref (d.adr K)) && (match K.lookup (d.adr K) with
  | some ⟨_, _, .func fd, _⟩ => PySem.W.codeIn K fd.code d.qual && (He.dflB K fd.defaults [] && He.kwdB K fd.kwdefaults (d.kws K))
  | _ => false)
theorem DefZ.funD {K : PySem.W.Frag} {d : DefZ} (e : fnZ K (d.adr K) = d.val) (c : d.ok K = true) : ∃ fd, FunD K d.name d.qual (defArgs d.st) (defBody d.st) (defScope d.st) [] (d.kws K) (d.adr K) fd := by
  obtain ⟨kp, c2⟩ := He.ba c
  unfold fnZ at e
  cases q : K.lookup (d.adr K) with
  | none => rw [q] at c2; cases c2
  | some o =>
    obtain ⟨oc, od, dt, osl⟩ := o
    rw [q] at c2 e
    cases dt with
    | func fd =>
      obtain ⟨n1, n2, n3, n4, n5, n6, n7, n8, n9, n10, n11, n12, n13, n14, n15⟩ := fd
      have e2 : (some (n1, n2, n3, n4, n5, n6, n7, n15) : He.FnW) = some (d.name, d.qual, defArgs d.st, .stmts (defBody d.st), defScope d.st, mainGlobals, [], builtinsNs) := e
      simp only [Option.some.injEq, Prod.mk.injEq] at e2
      obtain ⟨h1, h2, h3, h4, h5, h6, h7, h8⟩ := e2
      subst h1 h2 h3 h4 h5 h6 h7 h8
      have c3 : (PySem.W.codeIn K n13 d.qual && (He.dflB K n8 [] && He.kwdB K n9 (d.kws K))) = true := c2
      obtain ⟨k1, k2⟩ := He.ba c3
      obtain ⟨k3, k4⟩ := He.ba k2
      exact ⟨_, ⟨oc, od, n8, n9, n10, n11, n12, n13, n14, osl, rfl, q, k1, He.dflB_ok k3, He.kwdB_ok k4⟩, kp⟩
    | _ => cases c2
/-- a property's getter -/
def pgA (K : PySem.W.Frag) (C m : Str) : Addr := match PySem.W.recIn K (He.ma K (He.ga K C) m) "property" with
  | some (.ref g :: _) => g
  | _ => 0
inductive Zf where
  | fa (f : He.Fa)
  | prop (x m : Str)
  | ne (x : Str)
  | obj (x : Str)
  | first (x : Str)
  | ins (x : Str)
  | bare (x : Str)
  | nofind (x m : Str)
  | noobj (m : Str)
  | differ (x y : Str)
  | tup (x : Str) (vs : List He.Dv)
  | cf (cs fs : List Str)
def Zf.ok (K : PySem.W.Frag) : Zf → Bool
  | .fa f => f.ok K
  | .prop x m => He.eqO (PySem.W.findIn K (.ref (He.ga K x)) m) (some (some (.ref (He.ma K (He.ga K x) m)))) && (He.eqO (PySem.W.specialIn K (.ref (He.ma K (He.ga K x) m)) "__get__") (some (some (.builtin "property.__get__"))) && (decide (PySem.W.takesIn K (.ref (He.ma K (He.ga K x) m)) = some true) &&
      (match PySem.W.recIn K (He.ma K (He.ga K x) m) "property" with
        | some (.ref _ :: _) => true
        | _ => false)))
  | .ne x => He.eqO (PySem.W.findIn K (.ref (He.ga K x)) "__ne__") (some (some (.builtin "object.__ne__")))
  | .obj x => decide (PySem.W.subIn K (.ref (He.ga K x)) (.type "object") = some true)
  | .first x => PySem.W.selfFirst K (He.ga K x)
  | .ins x => He.eqO (PySem.W.findIn K (.ref (He.ga K x)) "__class__") (some (some (.builtin "object.__class__"))) && (He.eqO (PySem.W.specialIn K (.builtin "object.__class__") "__get__") (some (some (.builtin "getset_descriptor.__get__"))) && (decide (PySem.W.takesIn K (.builtin "object.__class__") = some true) &&
      (decide (PySem.W.mroIn K (He.ga K x) (.type "object") = some true) && decide (PySem.W.kitOne K (.ref (He.ga K x)) (.ref (He.ga K x)) = some true))))
  | .bare x => (match PySem.W.clsIn K (He.ga K x) with
    | some cd => decide (cd.mro = [.ref (He.ga K x), .type "object"])
    | none => false)
  | .nofind x m => He.eqO (PySem.W.findIn K (.ref (He.ga K x)) m) (some none)
  | .noobj m => He.eqO (PySem.W.findIn K (.type "object") m) (some none)
  | .differ x y => !decide (He.ga K x = He.ga K y)
  | .tup x vs => He.tupB K x vs
  | .cf cs fs => cs.all fun c => (He.Fa.cls c).ok K && fs.all fun f => (He.Fa.noat c f).ok K
theorem prop_ok {K : PySem.W.Frag} {x m : Str} (h : (Zf.prop x m).ok K = true) : PropOf K (He.ga K x) m (He.ma K (He.ga K x) m) (pgA K x m) := by
  have h : (He.eqO (PySem.W.findIn K (.ref (He.ga K x)) m) (some (some (.ref (He.ma K (He.ga K x) m)))) && (He.eqO (PySem.W.specialIn K (.ref (He.ma K (He.ga K x) m)) "__get__") (some (some (.builtin "property.__get__"))) && (decide (PySem.W.takesIn K (.ref (He.ma K (He.ga K x) m)) = some true) &&
      (match PySem.W.recIn K (He.ma K (He.ga K x) m) "property" with
        | some (.ref _ :: _) => true
        | _ => false)))) = true := h
  obtain ⟨h1, h⟩ := He.ba h
  obtain ⟨h2, h⟩ := He.ba h
  obtain ⟨h3, h4⟩ := He.ba h
  refine ⟨He.eqO_ok h1, He.eqO_ok h2, of_decide_eq_true h3, ?_⟩
  unfold pgA
  cases z : PySem.W.recIn K (He.ma K (He.ga K x) m) "property" with
  | none => rw [z] at h4; cases h4
  | some l =>
    rw [z] at h4
    cases l with
    | nil => cases h4
    | cons v l =>
      cases v with
      | ref g => exact ⟨l, rfl⟩
      | _ => cases h4
theorem ins_ok {K : PySem.W.Frag} {x : Str} (h : (Zf.ins x).ok K = true) (c : Cls K (He.ga K x)) : C8.InsC K (He.ga K x) := by
  have h : (He.eqO (PySem.W.findIn K (.ref (He.ga K x)) "__class__") (some (some (.builtin "object.__class__"))) && (He.eqO (PySem.W.specialIn K (.builtin "object.__class__") "__get__") (some (some (.builtin "getset_descriptor.__get__"))) && (decide (PySem.W.takesIn K (.builtin "object.__class__") = some true) &&
      (decide (PySem.W.mroIn K (He.ga K x) (.type "object") = some true) && decide (PySem.W.kitOne K (.ref (He.ga K x)) (.ref (He.ga K x)) = some true))))) = true := h
  obtain ⟨h1, h⟩ := He.ba h
  obtain ⟨h2, h⟩ := He.ba h
  obtain ⟨h3, h⟩ := He.ba h
  obtain ⟨h4, h5⟩ := He.ba h
  exact ⟨c, He.eqO_ok h1, He.eqO_ok h2, of_decide_eq_true h3, of_decide_eq_true h4, of_decide_eq_true h5⟩
theorem bare_ok {K : PySem.W.Frag} {x : Str} (h : (Zf.bare x).ok K = true) : ∃ cd, PySem.W.clsIn K (He.ga K x) = some cd ∧ cd.mro = [.ref (He.ga K x), .type "object"] := by
  have h2 : (match PySem.W.clsIn K (He.ga K x) with
    | some cd => decide (cd.mro = [.ref (He.ga K x), .type "object"])
    | none => false) = true := h
  cases z : PySem.W.clsIn K (He.ga K x) with
  | none => rw [z] at h2; cases h2
  | some cd => rw [z] at h2; exact ⟨cd, rfl, of_decide_eq_true h2⟩
abbrev AlZ : Type := Bool × List He.FnW
def obsZ (fa : List Zf) (fn : List DefZ) (K : PySem.W.Frag) : AlZ := ((fa.all fun f => f.ok K) && fn.all fun d => d.ok K, fn.map fun d => fnZ K (d.adr K))
def valZ (fn : List DefZ) : AlZ := (true, fn.map DefZ.val)
def SaysZ (fa : List Zf) (fn : List DefZ) (K : PySem.W.Frag) : Prop := obsZ fa fn K = valZ fn
def obsZG (n : Nat) (fa : List Zf) (fn : List DefZ) (g : Addr → Option Obj) : AlZ := obsZ fa fn (He.frG g (He.asD g n))
def hookZ (n : Nat) (fa : List Zf) (fn : List DefZ) : PySem.W.Hook where
  α := AlZ
  obs := fun s => obsZG n fa fn s.heap.get?
  val := fun _ => valZ fn
  says := fun _ h => ∃ K : PySem.W.Frag, K.In h ∧ SaysZ fa fn K
  of := fun _ _ e => ⟨_, He.frG_in, e⟩
  keeps := fun _ _ _ ⟨K, hK, c⟩ k => ⟨K, PySem.W.Frag.In.keeps hK k, c⟩
theorem obsZG_eq {n : Nat} {fa : List Zf} {fn : List DefZ} {g : Addr → Option Obj} {s : Shared} (h : ∀ a, g a = s.heap.get? a) : obsZG n fa fn g = (hookZ n fa fn).obs s := by
  have e : g = s.heap.get? := funext h
  rw [e] <;> rfl
section
variable {fa : List Zf} {fn : List DefZ} {K : PySem.W.Frag}
theorem SaysZ.fact (c : SaysZ fa fn K) (i : Nat) {f : Zf} (h : fa[i]? = some f := by rfl) : f.ok K = true := by
  have c1 := (He.ba (show ((fa.all fun f => f.ok K) && fn.all fun d => d.ok K) = true from congrArg (fun z : AlZ => z.1) c)).1
  exact List.all_eq_true.mp c1 f (List.mem_of_getElem? h)
theorem SaysZ.def_ (c : SaysZ fa fn K) (i : Nat) {d : DefZ} (h : fn[i]? = some d := by rfl) : ∃ fd, FunD K d.name d.qual (defArgs d.st) (defBody d.st) (defScope d.st) [] (d.kws K) (d.adr K) fd := by
  have c2 := (He.ba (show ((fa.all fun f => f.ok K) && fn.all fun d => d.ok K) = true from congrArg (fun z : AlZ => z.1) c)).2
  have e : fn.map (fun d => fnZ K (d.adr K)) = fn.map DefZ.val := congrArg (fun z : AlZ => z.2) c
  have e2 : (fn.map fun d => fnZ K (d.adr K))[i]? = (fn.map DefZ.val)[i]? := by rw [e]
  rw [List.getElem?_map, List.getElem?_map, h] at e2
  exact DefZ.funD (Option.some.inj e2) (List.all_eq_true.mp c2 d (List.mem_of_getElem? h))
end
/-- the classes: what they may hold -/
def caOf (K : PySem.W.Frag) (cs fs : List Str) : Ca := ⟨fun c => He.ga K c, fun c ns => c ∈ cs ∧ ∀ f ∈ ns, f ∈ fs⟩
theorem caOf_fld {K : PySem.W.Frag} {cs fs : List Str} {f : Str} (h : f ∈ fs) : ∀ c ns, (caOf K cs fs).ok c ns → (caOf K cs fs).ok c (putN f ns) := fun c ns ⟨h1, h2⟩ => ⟨h1, fun g m => by
  have : ∀ {ns : List Str}, g ∈ putN f ns → g = f ∨ g ∈ ns := by
    intro ns
    induction ns with
    | nil => intro m; exact .inl (by simpa [putN] using m)
    | cons n ns ih =>
      intro m
      unfold putN at m
      by_cases q : n = f
      · rw [if_pos q] at m; exact .inr m
      · rw [if_neg q] at m
        rcases List.mem_cons.mp m with m | m
        · exact .inr (m ▸ List.mem_cons_self)
        · exact (ih m).imp id (List.mem_cons_of_mem _)
  rcases this m with rfl | m
  · exact h
  · exact h2 g m⟩
theorem caOf_no {K : PySem.W.Frag} {cs fs : List Str} {c m : Str} (h : m ∉ fs) : ∀ ns, (caOf K cs fs).ok c ns → m ∉ ns := fun ns ⟨_, h2⟩ q => h (h2 m q)
theorem caOf_new {K : PySem.W.Frag} {cs fs : List Str} {c : Str} (h : c ∈ cs) : (caOf K cs fs).ok c [] := ⟨h, fun f m => by cases m⟩
theorem walk_ofEw {l : PySem.W.OpenLaw} {n k : Nat} {q : Program} {loose : List Str} {XP : (Str → Option Value) → Heap → Prop} {YP : World → Heap → Prop} {d : DefRec} {CX : World → CXT} {x : Str}
    (hn : l.most = some n) (hn2 : n ≤ sizeLine) (hdf : d.params.defaults = []) (hr : Room k callerA)
    (F : ∀ (w : World) (mg : Str → Option Value) (fa : Addr) (h : Heap), YP w h → h.Ns mainGlobals mg → mg d.name = some (.ref fa) →
      ∃ (K : PySem.W.Frag) (fd : FuncData) (sp : Sp), K.In h ∧ (∀ (s : Shared) (u : Value), BindsTo s fd ⟨[u], []⟩ [(x, u)]) ∧
        (∀ (H : Hp) (a : Addr) (ns : List Int), ns.length ≤ n → Only H → SqL K H a (ns.map V.int) → sp [.ref a] H (fun v _ => v = .bl true) fun _ _ _ => False) ∧
        ∀ base : Heap, K.In base → base.Ns mainGlobals mg → FnOk l.prog w K mg base (CX w) k fa fd [x] sp)
    (hCX : ∀ (w : World) (H : Hp) (s : Shared) (e : Value) (s' : Shared), CX w [] H s (fun _ _ _ => False) e s' → False) :
    PySem.W.WalkO q loose XP YP l.row.toRowW d [] (fun f vs => PySem.call f vs) := by
  refine Att.attach_call hn hdf fun w s₀ s₁ mg mb fa o pm cd doc a vs ns G Y ho hd hcd hmg hobj hints hlen hg => ?_
  obtain ⟨K, fd, sp, KX, hb, hsp, hF⟩ := F w mg fa _ Y G.T.g hmg
  exact law_call KX G.T.g G.T.b G.T.builtins G.T.nolimit hg hobj hints (Nat.le_trans hlen hn2) hr hF hb (fun H hO hS => hsp H a ns hlen hO hS) fun H e s' => hCX w H s₁ e s'
theorem noCX {P : Program} {w : World} {outer : List Env} {H : Hp} {s : Shared} {e : Value} {s' : Shared} (h : L2.CX P w outer H s (fun _ _ _ => False) e s') : False := by
  obtain ⟨_, _, _, _, _, _, _, _, _, _, _, _, hE⟩ := h
  exact hE
end Ev
namespace Ev
open PySem PySem.Spec PyProof.Rows L2
theorem takes0 {X : Cx} : Takes X W0 := fun _ _ ⟨_, _, _, _, _, _, _, _, _, _, _, _, _, _, _, _, w⟩ => w.elim
/-- Gl by a Bool -/
def blkB (N : List Str) (sc scope : Scope) (own : List (Str × Nat)) : Bool :=
  (scope.kind == .function) && ((scope.names.all fun y => scope.names.lookup y.1 == some y.2) && ((own.all fun p => N[p.2]? == some p.1) &&
    ((scope.names.all fun y => !(y.2 == .free) || (sc.names.lookup y.1 == some .cell || sc.names.lookup y.1 == some .free)) && (scope.names.all fun y => !(y.2 == .local || y.2 == .cell) || ((own.map (·.1)).contains y.1 || !(N.contains y.1))))))
theorem blk_of {N : List Str} {sc scope : Scope} {own : List (Str × Nat)} (h : blkB N sc scope own = true) : BlkOk N sc scope own := by
  unfold blkB at h
  obtain ⟨h1, h⟩ := Bool.and_eq_true_iff.mp h
  obtain ⟨h2, h⟩ := Bool.and_eq_true_iff.mp h
  obtain ⟨h3, h⟩ := Bool.and_eq_true_iff.mp h
  obtain ⟨h4, h5⟩ := Bool.and_eq_true_iff.mp h
  refine ⟨?_, fun y m => ?_, fun p m => ?_, fun y m e => ?_, fun y m e => ?_⟩
  · exact eq_of_beq h1
  · exact eq_of_beq (List.all_eq_true.mp h2 y m)
  · exact eq_of_beq (List.all_eq_true.mp h3 p m)
  · have := List.all_eq_true.mp h4 y m
    rw [e] at this
    simpa using this
  · have := List.all_eq_true.mp h5 y m
    have e2 : (y.2 == .local || y.2 == .cell) = true := by
      rcases e with e | e <;> rw [e] <;> rfl
    rw [e2] at this
    simp only [Bool.not_true, Bool.false_or, Bool.or_eq_true, List.contains_iff_mem, Bool.not_eq_true'] at this
    rcases this with t | t
    · exact .inl t
    · exact .inr fun q => by rw [List.contains_iff_mem.mpr q] at t; cases t
section
variable (Pr : Program) (w : World) (K : PySem.W.Frag) (mg : Str → Option Value) (base : Heap) (ca : Ca)
/-- a def of the module -/
structure Cal (k : Nat) (x : Str) (ps : List Str) (mf : MF) : Prop where
  ok : ∃ fd, FnOk Pr w K mg base (L2.CX Pr w) k (He.ga K x) fd ps (spE K ca mf) ∧ Binds K fd ps []
  gl : mg x = some (.ref (He.ga K x))
  kp : PySem.W.keepIn K (.ref (He.ga K x)) = true
/-- a method -/
structure Met (k : Nat) (c m : Str) (ps : List Str) (mf : MF) : Prop where
  ok : ∃ fd, FnOk Pr w K mg base (L2.CX Pr w) k (He.ma K (ca.a c) m) fd ps (spE K ca mf) ∧ Binds K fd ps []
  me : Meth K (ca.a c) m (He.ma K (ca.a c) m)
  cl : Cls K (ca.a c)
  no : ∀ ns, ca.ok c ns → m ∉ ns
/-- a property -/
structure Prp (k : Nat) (c m : Str) (ps : List Str) (mf : MF) : Prop where
  ok : ∃ pp gg fd, FnOk Pr w K mg base (L2.CX Pr w) k gg fd ps (spE K ca mf) ∧ Binds K fd ps [] ∧ PropOf K (ca.a c) m pp gg
  cl : Cls K (ca.a c)
  no : ∀ ns, ca.ok c ns → m ∉ ns
/-- a class, made -/
structure Mak (k : Nat) (c : Str) (ps : List Str) (mf : MF) : Prop where
  ok : ∃ fd, FnOk Pr w K mg base (L2.CX Pr w) k (He.ma K (ca.a c) "__init__") fd ps (spE K ca mf) ∧ Binds K fd ps []
  mkk : Mk K (ca.a c) (He.ma K (ca.a c) "__init__")
  gl : mg c = some (.ref (ca.a c))
  new : ca.ok c []
end
section
variable {X : Cx} {ca : Ca} {W : WX} {k kk : Nat} {x c m : Str} {mf : MF} {pn : List Str} {p pos apos : Pos} {e o : Expr} {es : List Expr} {g : Arg} {ps : List Arg}
theorem zc_call (h : Cal X.prog X.w X.K X.mg X.base ca k x pn mf) (hr : Room kk X.A) (tk : Takes X W) (ha : PA X (e :: es) (tGs X.K ca W ps)) (hk : k ≤ kk := by decide) (hg : Gl X x := by rfl) (hdb : (x == ("__debug__" : Str)) = false := by decide) (he : starEach (e :: es) X.env = (false, eval e X.env) :: starEach es X.env := by rfl) (hpl : (backTo pos (starEach es X.env)).any (·.1) = false := by rfl) :
    PE X (.Call (.Name x p) (e :: es) [] pos) (tE X.K ca W (eCall mf ps)) := by
  obtain ⟨fd, F, b⟩ := h.ok
  exact se_call F (hr.mono hk) hg h.gl h.kp b tk ha hdb he hpl
theorem zc_call0 (h : Cal X.prog X.w X.K X.mg X.base ca k x pn mf) (hr : Room kk X.A) (tk : Takes X W) (hk : k ≤ kk := by decide) (hg : Gl X x := by rfl) (hdb : (x == ("__debug__" : Str)) = false := by decide) : PE X (.Call (.Name x p) [] [] pos) (tE X.K ca W (eCall mf [])) := by
  obtain ⟨fd, F, b⟩ := h.ok
  exact se_call0 F (hr.mono hk) hg h.gl h.kp b tk hdb
theorem zc_meth {pl : Sem Bool} (h : Met X.prog X.w X.K X.mg X.base ca k c m pn mf) (hr : Room kk X.A) (tk : Takes X W) (he : PE X o (tG X.K ca W g)) (ha : PA X (e :: es) (tGs X.K ca W ps)) (hk : k ≤ kk := by decide)
    (hst : starEach (e :: es) X.env = (false, eval e X.env) :: starEach es X.env := by rfl) (hpl : (backTo pos (starEach es X.env)).any (·.1) = false := by rfl)
    (ht : eval (.Call (.Attribute o m apos) (e :: es) [] pos) X.env = (do
      let ov ← eval o X.env
      standAt apos.atName
      let (f, first) ← holding [ov] (getMethod ov m pl)
      callWith pos f first (backTo pos (starEach (e :: es) X.env)) (backToKw pos (keywordEach [] X.env))) := by rfl) :
    PE X (.Call (.Attribute o m apos) (e :: es) [] pos) (tE X.K ca W (eMeth c mf g ps)) := by
  obtain ⟨fd, F, b⟩ := h.ok
  exact se_meth h.cl h.no he h.me F (hr.mono hk) b tk ha hst hpl ht
theorem zc_meth0 {pl : Sem Bool} (h : Met X.prog X.w X.K X.mg X.base ca k c m pn mf) (hr : Room kk X.A) (tk : Takes X W) (he : PE X o (tG X.K ca W g)) (hk : k ≤ kk := by decide)
    (ht : eval (.Call (.Attribute o m apos) [] [] pos) X.env = (do
      let ov ← eval o X.env
      standAt apos.atName
      let (f, first) ← holding [ov] (getMethod ov m pl)
      callWith pos f first (backTo pos (starEach [] X.env)) (backToKw pos (keywordEach [] X.env))) := by rfl) :
    PE X (.Call (.Attribute o m apos) [] [] pos) (tE X.K ca W (eMeth c mf g [])) := by
  obtain ⟨fd, F, b⟩ := h.ok
  exact se_meth0 h.cl h.no he h.me F (hr.mono hk) b tk ht
theorem zc_prop (h : Prp X.prog X.w X.K X.mg X.base ca k c m pn mf) (hr : Room kk X.A) (he : PE X o (tG X.K ca W g)) (hk : k + 1 ≤ kk := by decide) (hab : attributeBase o m X.env (eval o X.env) = eval o X.env := by rfl) : PE X (.Attribute o m pos) (tE X.K ca W (eProp c mf g)) := by
  obtain ⟨pp, gg, fd, F, b, hp⟩ := h.ok
  exact se_prop h.cl h.no he hp F (hr.mono hk) b hab
theorem zc_make (h : Mak X.prog X.w X.K X.mg X.base ca k c pn mf) (hr : Room kk X.A) (tk : Takes X W) (ha : PA X (e :: es) (tGs X.K ca W ps)) (hk : k + 1 ≤ kk := by decide) (hg : Gl X c := by rfl) (hdb : (c == ("__debug__" : Str)) = false := by decide) (he : starEach (e :: es) X.env = (false, eval e X.env) :: starEach es X.env := by rfl) (hpl : (backTo pos (starEach es X.env)).any (·.1) = false := by rfl) :
    PE X (.Call (.Name c p) (e :: es) [] pos) (tO X.K ca W (eMake c mf ps)) := by
  obtain ⟨fd, F, b⟩ := h.ok
  exact so_make h.new h.mkk F (hr.mono hk) hg h.gl b tk ha hdb he hpl
/-- arguments -/
theorem sg_nil : PA X [] (tGs X.K ca W []) := pa_nil
theorem sg_cons (h : PE X e (tG X.K ca W g)) (t : PA X es (tGs X.K ca W ps)) (hs : starEach (e :: es) X.env = (false, eval e X.env) :: starEach es X.env := by rfl) : PA X (e :: es) (tGs X.K ca W (g :: ps)) := pa_cons h t hs
theorem ag_e {m : E} (h : PE X e (tE X.K ca W m)) : PE X e (tG X.K ca W (.e m)) := h
theorem ag_t {m : E} (h : PE X e (tO X.K ca W m)) : PE X e (tG X.K ca W (.t m)) := h
theorem ag_mu {i : Nat} (h : PE X e (tVar i)) : PE X e (tG X.K ca W (.mu i)) := h
theorem Met.raw {Pr : Program} {w : World} {K : PySem.W.Frag} {mg : Str → Option Value} {base : Heap} (h : Met Pr w K mg base ca k c m pn mf) : FnR Pr w K mg base (L2.CX Pr w) k (He.ma K (ca.a c) m) (spE K ca mf) := by
  obtain ⟨fd, F, b⟩ := h.ok
  have := F.raw b .nil
  simpa only [List.append_nil] using this
variable {mm nn : E} {a b : Expr}
theorem zc_len (h : Met X.prog X.w X.K X.mg X.base ca k c "__len__" pn mf) (hr : Room kk X.A) (hm : X.mg "len" = none) (ha : PE X e (tE X.K ca W mm)) (hk : k + 1 ≤ kk := by decide) (hg : Gl X "len" := by rfl)
    (he : starEach [e] X.env = (false, eval e X.env) :: starEach [] X.env := by rfl) (hpl : (backTo pos (starEach [] X.env)).any (·.1) = false := by rfl) : PE X (.Call (.Name "len" p) [e] [] pos) (tE X.K ca W (eOpF (gLenO c mf) [mm])) :=
  se_callBF (cr_lenO h.me.at_ h.me.fn h.raw (hr.mono hk)) okf_lenO hg hm boot_len ha (by decide) (by decide) he hpl
theorem zc_eq (h : Met X.prog X.w X.K X.mg X.base ca k c "__eq__" pn mf) (hr : Room kk X.A) (ha : PE X a (tE X.K ca W mm)) (hb : PE X b (tE X.K ca W nn)) (hk : k ≤ kk := by decide) (hm : behindInMarks .Eq b = false := by rfl) : PE X (.Compare a [.Eq] [b] pos) (tE X.K ca W (eOpF (gDun (tag2 c c) mf) [mm, nn])) :=
  se_cmpF (op_cmpO (fun _ _ => rfl) h.me.at_ h.me.fn h.raw (hr.mono hk)) okf_bin ha hb hm
theorem zt_eq (h : Met X.prog X.w X.K X.mg X.base ca k c "__eq__" pn mf) (hr : Room kk X.A) (ha : PE X a (tE X.K ca W mm)) (hb : PE X b (tE X.K ca W nn)) (hk : k ≤ kk := by decide) (hm : behindInMarks .Eq b = false := by rfl) : PT X (.Compare a [.Eq] [b] pos) (tT X.K ca W (mT (eOpF (gDun (tag2 c c) mf) [mm, nn]))) :=
  st_cmpF (op_cmpO (fun _ _ => rfl) h.me.at_ h.me.fn h.raw (hr.mono hk)) okf_bin ha hb hm
/-- what != by == leans on -/
structure NeC (K : PySem.W.Frag) (C : Addr) : Prop where
  ne : PySem.W.findIn K (.ref C) "__ne__" = some (some (.builtin "object.__ne__"))
  ob : PySem.W.subIn K (.ref C) (.type "object") = some true
theorem zc_ne (h : Met X.prog X.w X.K X.mg X.base ca k c "__eq__" pn mf) (n : NeC X.K (ca.a c)) (hr : Room kk X.A) (ha : PE X a (tE X.K ca W mm)) (hb : PE X b (tE X.K ca W nn)) (hk : k + 1 ≤ kk := by decide) (hm : behindInMarks .NotEq b = false := by rfl) : PE X (.Compare a [.NotEq] [b] pos) (tE X.K ca W (eOpF (gNeO c mf) [mm, nn])) :=
  se_cmpF (op_neO h.me.at_ h.me.fn n.ne n.ob h.raw (hr.mono hk)) okf_ne ha hb hm
theorem zt_ne (h : Met X.prog X.w X.K X.mg X.base ca k c "__eq__" pn mf) (n : NeC X.K (ca.a c)) (hr : Room kk X.A) (ha : PE X a (tE X.K ca W mm)) (hb : PE X b (tE X.K ca W nn)) (hk : k + 1 ≤ kk := by decide) (hm : behindInMarks .NotEq b = false := by rfl) : PT X (.Compare a [.NotEq] [b] pos) (tT X.K ca W (mT (eOpF (gNeO c mf) [mm, nn]))) :=
  st_cmpF (op_neO h.me.at_ h.me.fn n.ne n.ob h.raw (hr.mono hk)) okf_ne ha hb hm
theorem zc_in (h : Met X.prog X.w X.K X.mg X.base ca k c "__contains__" pn mf) (hr : Room kk X.A) (ha : PE X a (tE X.K ca W mm)) (hb : PE X b (tE X.K ca W nn)) (hk : k ≤ kk := by decide) (hm : behindInMarks .In b = false := by rfl) : PE X (.Compare a [.In] [b] pos) (tE X.K ca W (eOpF (gInO c mf false) [mm, nn])) :=
  se_cmpF (op_inO h.me.at_ h.me.fn h.raw (hr.mono hk)) okf_in ha hb hm
theorem zc_notIn (h : Met X.prog X.w X.K X.mg X.base ca k c "__contains__" pn mf) (hr : Room kk X.A) (ha : PE X a (tE X.K ca W mm)) (hb : PE X b (tE X.K ca W nn)) (hk : k ≤ kk := by decide) (hm : behindInMarks .NotIn b = false := by rfl) : PE X (.Compare a [.NotIn] [b] pos) (tE X.K ca W (eOpF (gInO c mf true) [mm, nn])) :=
  se_cmpF (op_notInO h.me.at_ h.me.fn h.raw (hr.mono hk)) okf_in ha hb hm
/-- a op b of one class; of two classes -/
theorem zc_bin {op : Operator} {d : Str} (h : Met X.prog X.w X.K X.mg X.base ca k c d pn mf) (fs : PySem.W.selfFirst X.K (ca.a c) = true) (hr : Room kk X.A) (ha : PE X a (tE X.K ca W mm)) (hb : PE X b (tE X.K ca W nn)) (hd : d = PySem.dunder op.info.2 := by rfl) (hk : k ≤ kk := by decide) :
    PE X (.BinOp a op b pos) (tE X.K ca W (eOpF (gDun (tag2 c c) mf) [mm, nn])) := by
  subst hd
  exact se_binF (op_binO fs h.me.at_ h.me.fn h.raw (hr.mono hk)) okf_bin ha hb
structure BinD (K : PySem.W.Frag) (C D : Addr) (d r : Str) : Prop where
  fs : PySem.W.selfFirst K C = true
  ne : C ≠ D
  mro : ∃ cd, PySem.W.clsIn K D = some cd ∧ cd.mro = [.ref D, .type "object"]
  h1 : PySem.W.findIn K (.ref D) d = some none
  h2 : PySem.W.findIn K (.ref D) r = some none
  g1 : PySem.W.findIn K (.type "object") d = some none
  g2 : PySem.W.findIn K (.type "object") r = some none
theorem zc_binD {op : Operator} {d r c2 : Str} (h : Met X.prog X.w X.K X.mg X.base ca k c d pn mf) (z : BinD X.K (ca.a c) (ca.a c2) d r) (hr : Room kk X.A) (ha : PE X a (tE X.K ca W mm)) (hb : PE X b (tE X.K ca W nn)) (hd : d = PySem.dunder op.info.2 := by rfl) (hd2 : r = dunderR op.info.2 := by rfl) (hk : k ≤ kk := by decide) :
    PE X (.BinOp a op b pos) (tE X.K ca W (eOpF (gDun (tag2 c c2) mf) [mm, nn])) := by
  subst hd hd2
  obtain ⟨cd, hD, hm⟩ := z.mro
  exact se_binF (op_binD z.ne z.fs h.me.at_ h.me.fn hD hm z.h1 z.h2 z.g1 z.g2 h.raw (hr.mono hk)) okf_bin ha hb
end
end Ev
namespace Ev
open PySem PySem.Spec PyProof.Rows L2
def gSub : List D → Option D := gII fun i j => .int (i - j)
def gFdiv : List D → Option D := gIC cDiv fun i j => .int (i / j)
def gMod : List D → Option D := gIC cMod fun i j => .int (i % j)
def gPow : List D → Option D := gIC cPow fun i j => .int (i ^ j.toNat)
def gLt : List D → Option D := gII fun i j => .bl (decide (i < j))
def gLe : List D → Option D := gII fun i j => .bl (decide (i ≤ j))
def gGt : List D → Option D := gII fun i j => .bl (decide (j < i))
def gGe : List D → Option D := gII fun i j => .bl (decide (j ≤ i))
def gMax : List D → Option D := gII fun i j => .int (if j > i then j else i)
def gMin : List D → Option D := gII fun i j => .int (if j < i then j else i)
def gListF : List D → Option D := fun ds => (gList ds).map .lst
def gSplitF : List D → Option D := fun ds => (gSplit ds).map .lst
section
variable {X : Cx} {ca : Ca} {W : WX} {a b e : Expr} {es : List Expr} {pos p apos : Pos} {q r : Opd} {ps : List Opd} {kk : Nat} {m : E} {ms : List E}
variable (cf : Cf X.K ca)
include cf
theorem zb_add (ha : PE X a (tP X.K ca W q)) (hb : PE X b (tP X.K ca W r)) (ok : opdsOk [q, r] = true := by rfl) (of : opdsF [q, r] = true := by rfl) : PE X (.BinOp a .Add b pos) (tE X.K ca W (eOp gAdd [q, r])) := se_bin cf op_addA ok_add ha hb ok of
theorem zb_sub (ha : PE X a (tP X.K ca W q)) (hb : PE X b (tP X.K ca W r)) (ok : opdsOk [q, r] = true := by rfl) (of : opdsF [q, r] = true := by rfl) : PE X (.BinOp a .Sub b pos) (tE X.K ca W (eOp gSub [q, r])) := se_bin cf op_sub ok_II ha hb ok of
theorem zb_mul (ha : PE X a (tP X.K ca W q)) (hb : PE X b (tP X.K ca W r)) (ok : opdsOk [q, r] = true := by rfl) (of : opdsF [q, r] = true := by rfl) : PE X (.BinOp a .Mult b pos) (tE X.K ca W (eOp gMul [q, r])) := se_bin cf op_mulA ok_mul ha hb ok of
theorem zb_fdiv (ha : PE X a (tP X.K ca W q)) (hb : PE X b (tP X.K ca W r)) (ok : opdsOk [q, r] = true := by rfl) (of : opdsF [q, r] = true := by rfl) : PE X (.BinOp a .FloorDiv b pos) (tE X.K ca W (eOp gFdiv [q, r])) :=
  se_bin cf op_fdivW (ok_IC fun i j h => by unfold cDiv at h; obtain ⟨h1, h2⟩ := Bool.and_eq_true_iff.mp h; exact ⟨of_decide_eq_true h1, of_decide_eq_true h2⟩) ha hb ok of
theorem zb_mod (ha : PE X a (tP X.K ca W q)) (hb : PE X b (tP X.K ca W r)) (ok : opdsOk [q, r] = true := by rfl) (of : opdsF [q, r] = true := by rfl) : PE X (.BinOp a .Mod b pos) (tE X.K ca W (eOp gMod [q, r])) :=
  se_bin cf op_mod (ok_IC fun i j h => of_decide_eq_true h) ha hb ok of
theorem zb_pow (ha : PE X a (tP X.K ca W q)) (hb : PE X b (tP X.K ca W r)) (ok : opdsOk [q, r] = true := by rfl) (of : opdsF [q, r] = true := by rfl) : PE X (.BinOp a .Pow b pos) (tE X.K ca W (eOp gPow [q, r])) := se_bin cf op_powW (ok_IC cPow_ok) ha hb ok of
theorem zo_cat (ha : PE X a (tP X.K ca W q)) (hb : PE X b (tP X.K ca W r)) (ok : opdsOk [q, r] = true := by rfl) (of : opdsF [q, r] = true := by rfl) : PE X (.BinOp a .Add b pos) (tO X.K ca W (eOp (fun ds => (gCat ds).map .lst) [q, r])) := so_bin cf op_cat new_cat ha hb ok of
theorem zo_rep (ha : PE X a (tP X.K ca W q)) (hb : PE X b (tP X.K ca W r)) (ok : opdsOk [q, r] = true := by rfl) (of : opdsF [q, r] = true := by rfl) : PE X (.BinOp a .Mult b pos) (tO X.K ca W (eOp (fun ds => (gRep ds).map .lst) [q, r])) := so_bin cf op_rep new_rep ha hb ok of
theorem zb_neg (ha : PE X a (tP X.K ca W q)) (ok : opdsOk [q] = true := by rfl) (of : opdsF [q] = true := by rfl) : PE X (.UnaryOp .USub a pos) (tE X.K ca W (eOp gNeg [q])) := se_un cf un_neg ok_neg ha ok of
theorem zb_lt (ha : PE X a (tP X.K ca W q)) (hb : PE X b (tP X.K ca W r)) (ok : opdsOk [q, r] = true := by rfl) (of : opdsF [q, r] = true := by rfl) (hm : behindInMarks .Lt b = false := by rfl) : PE X (.Compare a [.Lt] [b] pos) (tE X.K ca W (eOp gLt [q, r])) := se_cmp cf op_lt ok_IB ha hb hm ok of
theorem zb_le (ha : PE X a (tP X.K ca W q)) (hb : PE X b (tP X.K ca W r)) (ok : opdsOk [q, r] = true := by rfl) (of : opdsF [q, r] = true := by rfl) (hm : behindInMarks .LtE b = false := by rfl) : PE X (.Compare a [.LtE] [b] pos) (tE X.K ca W (eOp gLe [q, r])) := se_cmp cf op_le ok_IB ha hb hm ok of
theorem zb_gt (ha : PE X a (tP X.K ca W q)) (hb : PE X b (tP X.K ca W r)) (ok : opdsOk [q, r] = true := by rfl) (of : opdsF [q, r] = true := by rfl) (hm : behindInMarks .Gt b = false := by rfl) : PE X (.Compare a [.Gt] [b] pos) (tE X.K ca W (eOp gGt [q, r])) := se_cmp cf op_gt ok_IB ha hb hm ok of
theorem zb_ge (ha : PE X a (tP X.K ca W q)) (hb : PE X b (tP X.K ca W r)) (ok : opdsOk [q, r] = true := by rfl) (of : opdsF [q, r] = true := by rfl) (hm : behindInMarks .GtE b = false := by rfl) : PE X (.Compare a [.GtE] [b] pos) (tE X.K ca W (eOp gGe [q, r])) := se_cmp cf op_ge ok_IB ha hb hm ok of
theorem zb_is (ha : PE X a (tP X.K ca W q)) (hb : PE X b (tP X.K ca W r)) (ok : opdsOk [q, r] = true := by rfl) (of : opdsF [q, r] = true := by rfl) (hm : behindInMarks .Is b = false := by rfl) : PE X (.Compare a [.Is] [b] pos) (tE X.K ca W (eOp (gIs false) [q, r])) := se_cmp cf op_is ok_is ha hb hm ok of
theorem zb_isn (ha : PE X a (tP X.K ca W q)) (hb : PE X b (tP X.K ca W r)) (ok : opdsOk [q, r] = true := by rfl) (of : opdsF [q, r] = true := by rfl) (hm : behindInMarks .IsNot b = false := by rfl) : PE X (.Compare a [.IsNot] [b] pos) (tE X.K ca W (eOp (gIs true) [q, r])) := se_cmp cf op_isnot ok_is ha hb hm ok of
theorem zb_eq (hr : Room kk X.A) (ha : PE X a (tP X.K ca W q)) (hb : PE X b (tP X.K ca W r)) (ok : opdsOk [q, r] = true := by rfl) (of : opdsF [q, r] = true := by rfl) (hm : behindInMarks .Eq b = false := by rfl) : PE X (.Compare a [.Eq] [b] pos) (tE X.K ca W (eOp gEq [q, r])) := se_cmp cf (op_eqD hr.units) ok_eq ha hb hm ok of
theorem zb_ne (hr : Room kk X.A) (ha : PE X a (tP X.K ca W q)) (hb : PE X b (tP X.K ca W r)) (ok : opdsOk [q, r] = true := by rfl) (of : opdsF [q, r] = true := by rfl) (hm : behindInMarks .NotEq b = false := by rfl) : PE X (.Compare a [.NotEq] [b] pos) (tE X.K ca W (eOp gNe [q, r])) := se_cmp cf (op_neD hr.units) ok_ne ha hb hm ok of
theorem zb_in (hr : Room kk X.A) (ha : PE X a (tP X.K ca W q)) (hb : PE X b (tP X.K ca W r)) (ok : opdsOk [q, r] = true := by rfl) (of : opdsF [q, r] = true := by rfl) (hm : behindInMarks .In b = false := by rfl) : PE X (.Compare a [.In] [b] pos) (tE X.K ca W (eOp (gIn false) [q, r])) := se_cmp cf (op_in3 (by have := hr.un; omega)) ok_in3 ha hb hm ok of
theorem zb_notIn (hr : Room kk X.A) (ha : PE X a (tP X.K ca W q)) (hb : PE X b (tP X.K ca W r)) (ok : opdsOk [q, r] = true := by rfl) (of : opdsF [q, r] = true := by rfl) (hm : behindInMarks .NotIn b = false := by rfl) : PE X (.Compare a [.NotIn] [b] pos) (tE X.K ca W (eOp (gIn true) [q, r])) := se_cmp cf (op_notIn3 (by have := hr.un; omega)) ok_notIn3 ha hb hm ok of
theorem zt_lt (ha : PE X a (tP X.K ca W q)) (hb : PE X b (tP X.K ca W r)) (ok : opdsOk [q, r] = true := by rfl) (of : opdsF [q, r] = true := by rfl) (hm : behindInMarks .Lt b = false := by rfl) : PT X (.Compare a [.Lt] [b] pos) (tT X.K ca W (mT (eOp gLt [q, r]))) := st_cmp cf op_lt ok_IB ha hb hm ok of
theorem zt_le (ha : PE X a (tP X.K ca W q)) (hb : PE X b (tP X.K ca W r)) (ok : opdsOk [q, r] = true := by rfl) (of : opdsF [q, r] = true := by rfl) (hm : behindInMarks .LtE b = false := by rfl) : PT X (.Compare a [.LtE] [b] pos) (tT X.K ca W (mT (eOp gLe [q, r]))) := st_cmp cf op_le ok_IB ha hb hm ok of
theorem zt_gt (ha : PE X a (tP X.K ca W q)) (hb : PE X b (tP X.K ca W r)) (ok : opdsOk [q, r] = true := by rfl) (of : opdsF [q, r] = true := by rfl) (hm : behindInMarks .Gt b = false := by rfl) : PT X (.Compare a [.Gt] [b] pos) (tT X.K ca W (mT (eOp gGt [q, r]))) := st_cmp cf op_gt ok_IB ha hb hm ok of
theorem zt_ge (ha : PE X a (tP X.K ca W q)) (hb : PE X b (tP X.K ca W r)) (ok : opdsOk [q, r] = true := by rfl) (of : opdsF [q, r] = true := by rfl) (hm : behindInMarks .GtE b = false := by rfl) : PT X (.Compare a [.GtE] [b] pos) (tT X.K ca W (mT (eOp gGe [q, r]))) := st_cmp cf op_ge ok_IB ha hb hm ok of
theorem zt_is (ha : PE X a (tP X.K ca W q)) (hb : PE X b (tP X.K ca W r)) (ok : opdsOk [q, r] = true := by rfl) (of : opdsF [q, r] = true := by rfl) (hm : behindInMarks .Is b = false := by rfl) : PT X (.Compare a [.Is] [b] pos) (tT X.K ca W (mT (eOp (gIs false) [q, r]))) := st_cmp cf op_is ok_is ha hb hm ok of
theorem zt_isn (ha : PE X a (tP X.K ca W q)) (hb : PE X b (tP X.K ca W r)) (ok : opdsOk [q, r] = true := by rfl) (of : opdsF [q, r] = true := by rfl) (hm : behindInMarks .IsNot b = false := by rfl) : PT X (.Compare a [.IsNot] [b] pos) (tT X.K ca W (mT (eOp (gIs true) [q, r]))) := st_cmp cf op_isnot ok_is ha hb hm ok of
theorem zt_eqD (hr : Room kk X.A) (ha : PE X a (tP X.K ca W q)) (hb : PE X b (tP X.K ca W r)) (ok : opdsOk [q, r] = true := by rfl) (of : opdsF [q, r] = true := by rfl) (hm : behindInMarks .Eq b = false := by rfl) : PT X (.Compare a [.Eq] [b] pos) (tT X.K ca W (mT (eOp gEq [q, r]))) := st_cmp cf (op_eqD hr.units) ok_eq ha hb hm ok of
theorem zt_neD (hr : Room kk X.A) (ha : PE X a (tP X.K ca W q)) (hb : PE X b (tP X.K ca W r)) (ok : opdsOk [q, r] = true := by rfl) (of : opdsF [q, r] = true := by rfl) (hm : behindInMarks .NotEq b = false := by rfl) : PT X (.Compare a [.NotEq] [b] pos) (tT X.K ca W (mT (eOp gNe [q, r]))) := st_cmp cf (op_neD hr.units) ok_ne ha hb hm ok of
theorem zt_inD (hr : Room kk X.A) (ha : PE X a (tP X.K ca W q)) (hb : PE X b (tP X.K ca W r)) (ok : opdsOk [q, r] = true := by rfl) (of : opdsF [q, r] = true := by rfl) (hm : behindInMarks .In b = false := by rfl) : PT X (.Compare a [.In] [b] pos) (tT X.K ca W (mT (eOp (gIn false) [q, r]))) := st_cmp cf (op_in3 (by have := hr.un; omega)) ok_in3 ha hb hm ok of
theorem zt_notInD (hr : Room kk X.A) (ha : PE X a (tP X.K ca W q)) (hb : PE X b (tP X.K ca W r)) (ok : opdsOk [q, r] = true := by rfl) (of : opdsF [q, r] = true := by rfl) (hm : behindInMarks .NotIn b = false := by rfl) : PT X (.Compare a [.NotIn] [b] pos) (tT X.K ca W (mT (eOp (gIn true) [q, r]))) := st_cmp cf (op_notIn3 (by have := hr.un; omega)) ok_notIn3 ha hb hm ok of
theorem zf_len (hm : X.mg "len" = none) (ha : PA X (e :: es) (tPs X.K ca W ps)) (hg : Gl X "len" := by rfl) (ok : opdsOk ps = true := by rfl) (of : opdsF ps = true := by rfl) (he : starEach (e :: es) X.env = (false, eval e X.env) :: starEach es X.env := by rfl) (hpl : (backTo pos (starEach es X.env)).any (·.1) = false := by rfl) : PE X (.Call (.Name "len" p) (e :: es) [] pos) (tE X.K ca W (eOp gLen ps)) :=
  se_callB cf call_len ok_len hg hm boot_len ha ok of (by decide) (by decide) he hpl
theorem zf_sum (hc : X.calm = true) (hm : X.mg "sum" = none) (ha : PA X (e :: es) (tPs X.K ca W ps)) (hg : Gl X "sum" := by rfl) (ok : opdsOk ps = true := by rfl) (of : opdsF ps = true := by rfl) (he : starEach (e :: es) X.env = (false, eval e X.env) :: starEach es X.env := by rfl) (hpl : (backTo pos (starEach es X.env)).any (·.1) = false := by rfl) : PE X (.Call (.Name "sum" p) (e :: es) [] pos) (tE X.K ca W (eOp gSum ps)) :=
  se_callB cf (cr_sum2 hc) ok_sum hg hm (by decide +kernel) ha ok of (by decide) (by decide) he hpl
theorem zf_all (hc : X.calm = true) (hm : X.mg "all" = none) (ha : PA X (e :: es) (tPs X.K ca W ps)) (hg : Gl X "all" := by rfl) (ok : opdsOk ps = true := by rfl) (of : opdsF ps = true := by rfl) (he : starEach (e :: es) X.env = (false, eval e X.env) :: starEach es X.env := by rfl) (hpl : (backTo pos (starEach es X.env)).any (·.1) = false := by rfl) : PE X (.Call (.Name "all" p) (e :: es) [] pos) (tE X.K ca W (eOp gAll ps)) :=
  se_callB cf (cr_all hc) ok_all hg hm (by decide +kernel) ha ok of (by decide) (by decide) he hpl
theorem zf_any (hc : X.calm = true) (hm : X.mg "any" = none) (ha : PA X (e :: es) (tPs X.K ca W ps)) (hg : Gl X "any" := by rfl) (ok : opdsOk ps = true := by rfl) (of : opdsF ps = true := by rfl) (he : starEach (e :: es) X.env = (false, eval e X.env) :: starEach es X.env := by rfl) (hpl : (backTo pos (starEach es X.env)).any (·.1) = false := by rfl) : PE X (.Call (.Name "any" p) (e :: es) [] pos) (tE X.K ca W (eOp gAny ps)) :=
  se_callB cf (cr_any hc) ok_any hg hm (by decide +kernel) ha ok of (by decide) (by decide) he hpl
theorem zf_abs (hm : X.mg "abs" = none) (ha : PA X (e :: es) (tPs X.K ca W ps)) (hg : Gl X "abs" := by rfl) (ok : opdsOk ps = true := by rfl) (of : opdsF ps = true := by rfl) (he : starEach (e :: es) X.env = (false, eval e X.env) :: starEach es X.env := by rfl) (hpl : (backTo pos (starEach es X.env)).any (·.1) = false := by rfl) : PE X (.Call (.Name "abs" p) (e :: es) [] pos) (tE X.K ca W (eOp gAbs ps)) :=
  se_callB cf call_abs ok_abs hg hm (by decide +kernel) ha ok of (by decide) (by decide) he hpl
theorem zf_max (hc : X.calm = true) (hm : X.mg "max" = none) (ha : PA X (e :: es) (tPs X.K ca W ps)) (hg : Gl X "max" := by rfl) (ok : opdsOk ps = true := by rfl) (of : opdsF ps = true := by rfl) (he : starEach (e :: es) X.env = (false, eval e X.env) :: starEach es X.env := by rfl) (hpl : (backTo pos (starEach es X.env)).any (·.1) = false := by rfl) : PE X (.Call (.Name "max" p) (e :: es) [] pos) (tE X.K ca W (eOp gMax ps)) :=
  se_callB cf (call_max2 hc) ok_max2 hg hm (by decide +kernel) ha ok of (by decide) (by decide) he hpl
theorem zf_min (hc : X.calm = true) (hm : X.mg "min" = none) (ha : PA X (e :: es) (tPs X.K ca W ps)) (hg : Gl X "min" := by rfl) (ok : opdsOk ps = true := by rfl) (of : opdsF ps = true := by rfl) (he : starEach (e :: es) X.env = (false, eval e X.env) :: starEach es X.env := by rfl) (hpl : (backTo pos (starEach es X.env)).any (·.1) = false := by rfl) : PE X (.Call (.Name "min" p) (e :: es) [] pos) (tE X.K ca W (eOp gMin ps)) :=
  se_callB cf (call_min2 hc) ok_min2 hg hm (by decide +kernel) ha ok of (by decide) (by decide) he hpl
theorem zf_int (hm : X.mg "int" = none) (ha : PA X (e :: es) (tPs X.K ca W ps)) (hg : Gl X "int" := by rfl) (ok : opdsOk ps = true := by rfl) (of : opdsF ps = true := by rfl) (he : starEach (e :: es) X.env = (false, eval e X.env) :: starEach es X.env := by rfl) (hpl : (backTo pos (starEach es X.env)).any (·.1) = false := by rfl) : PE X (.Call (.Name "int" p) (e :: es) [] pos) (tE X.K ca W (eOp gInt1 ps)) :=
  se_callT cf cr_int1 ok_int1 hg hm (by decide +kernel) ha ok of (by decide) (by decide) he hpl
theorem zf_str (hm : X.mg "str" = none) (ha : PA X (e :: es) (tPs X.K ca W ps)) (hg : Gl X "str" := by rfl) (ok : opdsOk ps = true := by rfl) (of : opdsF ps = true := by rfl) (he : starEach (e :: es) X.env = (false, eval e X.env) :: starEach es X.env := by rfl) (hpl : (backTo pos (starEach es X.env)).any (·.1) = false := by rfl) : PE X (.Call (.Name "str" p) (e :: es) [] pos) (tE X.K ca W (eOp gStr1 ps)) :=
  se_callT cf call_str_int ok_str1 hg hm (by decide +kernel) ha ok of (by decide) (by decide) he hpl
theorem zf_tuple (hm : X.mg "tuple" = none) (ha : PA X (e :: es) (tPs X.K ca W ps)) (hg : Gl X "tuple" := by rfl) (ok : opdsOk ps = true := by rfl) (of : opdsF ps = true := by rfl) (he : starEach (e :: es) X.env = (false, eval e X.env) :: starEach es X.env := by rfl) (hpl : (backTo pos (starEach es X.env)).any (·.1) = false := by rfl) : PE X (.Call (.Name "tuple" p) (e :: es) [] pos) (tE X.K ca W (eOp gTuple ps)) :=
  se_callT cf call_tuple_of ok_tuple hg hm (by decide +kernel) ha ok of (by decide) (by decide) he hpl
theorem zf_list (hm : X.mg "list" = none) (ha : PA X (e :: es) (tPs X.K ca W ps)) (hg : Gl X "list" := by rfl) (ok : opdsOk ps = true := by rfl) (of : opdsF ps = true := by rfl) (he : starEach (e :: es) X.env = (false, eval e X.env) :: starEach es X.env := by rfl) (hpl : (backTo pos (starEach es X.env)).any (·.1) = false := by rfl) : PE X (.Call (.Name "list" p) (e :: es) [] pos) (tE X.K ca W (eOp gListF ps)) :=
  se_callT cf call_list_of new_list.ok hg hm (by decide +kernel) ha ok of (by decide) (by decide) he hpl
theorem zo_list (hm : X.mg "list" = none) (ha : PA X (e :: es) (tPs X.K ca W ps)) (hg : Gl X "list" := by rfl) (ok : opdsOk ps = true := by rfl) (of : opdsF ps = true := by rfl) (he : starEach (e :: es) X.env = (false, eval e X.env) :: starEach es X.env := by rfl) (hpl : (backTo pos (starEach es X.env)).any (·.1) = false := by rfl) : PE X (.Call (.Name "list" p) (e :: es) [] pos) (tO X.K ca W (eOp gListF ps)) :=
  so_callT cf call_list_of new_list hg hm (by decide +kernel) ha ok of (by decide) (by decide) he hpl
end
section
variable {X : Cx} {ca : Ca} {W : WX} {e o : Expr} {es : List Expr} {pos p apos cpos : Pos} {m : E} {ms : List E} {x : Str} {v : V} {d : D}
theorem zc_glob (h : ∃ u, X.mg x = some u ∧ RelV v u) (rep : ∀ F H, Rep X.K ca F H d v) (hg : Gl X x := by rfl) (hd : (x == ("__debug__" : Str)) = false := by decide) : PE X (.Name x pos) (tE X.K ca W (eC d)) := by
  obtain ⟨u, hm, r⟩ := h
  exact se_glob hg hm r rep hd
/-- a module's tuple of texts -/
theorem rep_tupK {K : PySem.W.Frag} {ca : Ca} {x : Str} {zs : List Str} (h : He.tupB K x (zs.map He.Dv.str) = true) : ∀ F H, Rep K ca F H (.tup (zs.map .str)) (.ref (He.ga K x)) := fun F H => by
  unfold Rep
  refine ⟨_, zs.map V.str, rfl, ?_, reps_of_strs⟩
  unfold He.tupB at h
  cases q : K.lookup (He.ga K x) with
  | none => rw [q] at h; cases h
  | some o =>
    obtain ⟨oc, od, dt, osl⟩ := o
    rw [q] at h
    cases oc with
    | type c =>
      cases dt with
      | seq its n =>
        obtain ⟨h1, h2⟩ := He.ba (show (decide (c = "tuple") && (decide (its.size ≤ sizeLine) && He.relAll ((zs.map He.Dv.str).map (He.Dv.v K)) its.toList)) = true from h)
        obtain ⟨h3, h4⟩ := He.ba h2
        refine .inr ⟨_, its, n, q, congrArg Value.type (of_decide_eq_true h1), rfl, of_decide_eq_true h3, ?_⟩
        have := He.relAll_ok h4
        rw [List.map_map] at this
        exact this
      | _ => cases h
    | _ => cases dt <;> cases h
theorem zm_join (ho : PE X o (tE X.K ca W m)) (ha : PA X (e :: es) (tA X.K ca W ms)) (hbase : attributeBase o "join" X.env (eval o X.env) = eval o X.env := by rfl)
    (hfew : ((backTo cpos (starEach (e :: es) X.env)).all (fun x => !x.1) && (backToKw cpos (keywordEach [] X.env)).all (fun x => x.1.isSome)
      && decide ((e :: es).length + ([] : List Keyword).length + (if ([] : List Keyword).isEmpty then 0 else 1) < 30)) = true := by rfl)
    (hline : (apos.endLine == cpos.line) = true := by rfl) (hs : starEach (e :: es) X.env = (false, eval e X.env) :: starEach es X.env := by rfl) (hplain : (backTo cpos (starEach es X.env)).any (·.1) = false := by rfl) :
    PE X (.Call (.Attribute o "join" apos) (e :: es) [] cpos) (tE X.K ca W (eBs gJoin m ms)) := se_bs PySem.F.slot_str_join PySem.F.type_str_join mt_join ok_join ho ha hbase hfew hline hs hplain
theorem zm_find (ho : PE X o (tE X.K ca W m)) (ha : PA X (e :: es) (tA X.K ca W ms)) (hbase : attributeBase o "find" X.env (eval o X.env) = eval o X.env := by rfl)
    (hfew : ((backTo cpos (starEach (e :: es) X.env)).all (fun x => !x.1) && (backToKw cpos (keywordEach [] X.env)).all (fun x => x.1.isSome)
      && decide ((e :: es).length + ([] : List Keyword).length + (if ([] : List Keyword).isEmpty then 0 else 1) < 30)) = true := by rfl)
    (hline : (apos.endLine == cpos.line) = true := by rfl) (hs : starEach (e :: es) X.env = (false, eval e X.env) :: starEach es X.env := by rfl) (hplain : (backTo cpos (starEach es X.env)).any (·.1) = false := by rfl) :
    PE X (.Call (.Attribute o "find" apos) (e :: es) [] cpos) (tE X.K ca W (eBs gFind m ms)) := se_bs PySem.F.slot_str_find PySem.F.type_str_find mt_find ok_find ho ha hbase hfew hline hs hplain
theorem zm_split (ho : PE X o (tE X.K ca W m)) (ha : PA X (e :: es) (tA X.K ca W ms)) (hbase : attributeBase o "split" X.env (eval o X.env) = eval o X.env := by rfl)
    (hfew : ((backTo cpos (starEach (e :: es) X.env)).all (fun x => !x.1) && (backToKw cpos (keywordEach [] X.env)).all (fun x => x.1.isSome)
      && decide ((e :: es).length + ([] : List Keyword).length + (if ([] : List Keyword).isEmpty then 0 else 1) < 30)) = true := by rfl)
    (hline : (apos.endLine == cpos.line) = true := by rfl) (hs : starEach (e :: es) X.env = (false, eval e X.env) :: starEach es X.env := by rfl) (hplain : (backTo cpos (starEach es X.env)).any (·.1) = false := by rfl) :
    PE X (.Call (.Attribute o "split" apos) (e :: es) [] cpos) (tE X.K ca W (eBs gSplitF m ms)) := se_bs PySem.F.slot_str_split PySem.F.type_str_split mt_split new_split.ok ho ha hbase hfew hline hs hplain
end
section
variable {X : Cx} {ca : Ca} {W : WX} {e o : Expr} {es : List Expr} {apos cpos : Pos} {ms : List E} {i : Nat}
theorem zm_append (ho : PE X o (tVar i)) (ha : PA X (e :: es) (tA X.K ca W ms)) (hbase : attributeBase o "append" X.env (eval o X.env) = eval o X.env := by rfl)
    (hfew : ((backTo cpos (starEach (e :: es) X.env)).all (fun x => !x.1) && (backToKw cpos (keywordEach [] X.env)).all (fun x => x.1.isSome)
      && decide ((e :: es).length + ([] : List Keyword).length + (if ([] : List Keyword).isEmpty then 0 else 1) < 30)) = true := by rfl)
    (hline : (apos.endLine == cpos.line) = true := by rfl) (hs : starEach (e :: es) X.env = (false, eval e X.env) :: starEach es X.env := by rfl) (hplain : (backTo cpos (starEach es X.env)).any (·.1) = false := by rfl) :
    PE X (.Call (.Attribute o "append" apos) (e :: es) [] cpos) (tE X.K ca W (eMut gAppend i ms)) := se_mut PySem.F.slot_list_append PySem.F.type_list_append mt_append mo_append ho ha hbase hfew hline hs hplain
theorem zm_extend (ho : PE X o (tVar i)) (ha : PA X (e :: es) (tA X.K ca W ms)) (hbase : attributeBase o "extend" X.env (eval o X.env) = eval o X.env := by rfl)
    (hfew : ((backTo cpos (starEach (e :: es) X.env)).all (fun x => !x.1) && (backToKw cpos (keywordEach [] X.env)).all (fun x => x.1.isSome)
      && decide ((e :: es).length + ([] : List Keyword).length + (if ([] : List Keyword).isEmpty then 0 else 1) < 30)) = true := by rfl)
    (hline : (apos.endLine == cpos.line) = true := by rfl) (hs : starEach (e :: es) X.env = (false, eval e X.env) :: starEach es X.env := by rfl) (hplain : (backTo cpos (starEach es X.env)).any (·.1) = false := by rfl) :
    PE X (.Call (.Attribute o "extend" apos) (e :: es) [] cpos) (tE X.K ca W (eMut gExtend i ms)) := se_mut PySem.F.slot_list_extend PySem.F.type_list_extend mt_extend mo_extend ho ha hbase hfew hline hs hplain
theorem zm_popAt (ho : PE X o (tVar i)) (ha : PA X (e :: es) (tA X.K ca W ms)) (hbase : attributeBase o "pop" X.env (eval o X.env) = eval o X.env := by rfl)
    (hfew : ((backTo cpos (starEach (e :: es) X.env)).all (fun x => !x.1) && (backToKw cpos (keywordEach [] X.env)).all (fun x => x.1.isSome)
      && decide ((e :: es).length + ([] : List Keyword).length + (if ([] : List Keyword).isEmpty then 0 else 1) < 30)) = true := by rfl)
    (hline : (apos.endLine == cpos.line) = true := by rfl) (hs : starEach (e :: es) X.env = (false, eval e X.env) :: starEach es X.env := by rfl) (hplain : (backTo cpos (starEach es X.env)).any (·.1) = false := by rfl) :
    PE X (.Call (.Attribute o "pop" apos) (e :: es) [] cpos) (tE X.K ca W (eMut gPopAt i ms)) := se_mut PySem.F.slot_list_pop PySem.F.type_list_pop mt_popAt mo_popAt ho ha hbase hfew hline hs hplain
theorem zm_pop (ho : PE X o (tVar i)) (hbase : attributeBase o "pop" X.env (eval o X.env) = eval o X.env := by rfl) (hline : (apos.endLine == cpos.line) = true := by rfl) :
    PE X (.Call (.Attribute o "pop" apos) [] [] cpos) (tE X.K ca W (eMut gPop i [])) := se_mut0 PySem.F.slot_list_pop PySem.F.type_list_pop mt_pop mo_pop ho hbase hline
variable {f : Str} {opos : Pos} (cf : Cf X.K ca)
include cf
theorem zm_appendF (hf : owf f = true) (ho : PE X o (tVar i)) (ha : PA X (e :: es) (tA X.K ca W ms)) (hb : attributeBase o f X.env (eval o X.env) = eval o X.env := by rfl)
    (hbase : attributeBase (.Attribute o f opos) "append" X.env (eval (.Attribute o f opos) X.env) = eval (.Attribute o f opos) X.env := by rfl)
    (hfew : ((backTo cpos (starEach (e :: es) X.env)).all (fun x => !x.1) && (backToKw cpos (keywordEach [] X.env)).all (fun x => x.1.isSome)
      && decide ((e :: es).length + ([] : List Keyword).length + (if ([] : List Keyword).isEmpty then 0 else 1) < 30)) = true := by rfl)
    (hline : (apos.endLine == cpos.line) = true := by rfl) (hs : starEach (e :: es) X.env = (false, eval e X.env) :: starEach es X.env := by rfl) (hplain : (backTo cpos (starEach es X.env)).any (·.1) = false := by rfl) :
    PE X (.Call (.Attribute (.Attribute o f opos) "append" apos) (e :: es) [] cpos) (tE X.K ca W (eMutF gAppend i f ms)) := se_mutF cf hf PySem.F.slot_list_append PySem.F.type_list_append mt_append mo_append ho ha hb hbase hfew hline hs hplain
end
section
variable {X : Cx} {ca : Ca} {W : WX} {a b c e : Expr} {pos : Pos} {m : B'}
theorem st_and' {n : B'} {es : List Expr} (h : PT X a (tT X.K ca W m)) (h2 : PW X (.BoolOp .And (b :: es) pos) (tT X.K ca W n)) : PW X (.BoolOp .And (a :: b :: es) pos) (tT X.K ca W (mAnd m n)) := st_and h h2
/-- the running body's exceptions -/
theorem tkX {Pr : Program} {w : World} {K : PySem.W.Frag} {mg : Str → Option Value} {base : Heap} {N : List Str} {q : Str} {sc : Scope} {f : Addr} {cd : Value} {A : Around} {outer : List Env} {s : Shared} {H : Hp} {E : XK} :
    Takes (cxOf (L2.CX Pr w) Pr w K mg base N q sc f cd A outer s H E) (fun cls d _ H => E cls d H) := takes_of rfl rfl rfl rfl
theorem psX {Pr : Program} {w : World} {K : PySem.W.Frag} {mg : Str → Option Value} {base : Heap} {N : List Str} {q : Str} {sc : Scope} {f : Addr} {cd : Value} {A : Around} {outer : List Env} {s : Shared} {H : Hp} {E : XK} :
    PassesOwn (model (cxOf (L2.CX Pr w) Pr w K mg base N q sc f cd A outer s H E).prog (cxOf (L2.CX Pr w) Pr w K mg base N q sc f cd A outer s H E).w) (cxOf (L2.CX Pr w) Pr w K mg base N q sc f cd A outer s H E).A (cxOf (L2.CX Pr w) Pr w K mg base N q sc f cd A outer s H E).env (cxOf (L2.CX Pr w) Pr w K mg base N q sc f cd A outer s H E).xe := passes_of rfl
end
end Ev
namespace Ev
open PySem PySem.Spec PyProof.Rows L2
def lcL2 (vs vs1 : List Nat) (g : Tg) (c : B') (it1 : IE) (g1 : Tg) (c1 : B') (el : E) : List D → Sl → R (List D)
  | [], st => .ok [] st
  | d :: ds, st => match g d st with
    | none => .bad
    | some st1 => (match c st1 with
      | .ok true st2 => (match it1 st2 with
        | .ok items st3 => (match lcL vs1 g1 c1 el items (wipeS vs1 st3) with
          | .ok xs st4 => (lcL2 vs vs1 g c it1 g1 c1 el ds (wipeS vs st4)).bind fun ys st => .ok (xs ++ ys) st
          | _ => .bad)
        | _ => .bad)
      | .ok false st2 => lcL2 vs vs1 g c it1 g1 c1 el ds (wipeS vs st2)
      | _ => .bad)
def eLc2 (vs vs1 : List Nat) (it : IE) (g : Tg) (c : B') (it1 : IE) (g1 : Tg) (c1 : B') (el : E) : E := fun st => (it st).bind fun items st => match frozenAt st vs && decide (st.length ≤ 64) with
  | true => (match lcL2 vs vs1 g c it1 g1 c1 el items (wipeS vs st) with
    | .ok xs st' => if xs.length < sizeLine then .ok (.lst xs) (backS st vs st') else .bad
    | _ => .bad)
  | false => .bad
theorem wipe_wipe {σ : L2.St} {vs vs1 : List Nat} (h : ∀ i ∈ vs1, i ∈ vs) : wipe (wipe σ vs1) vs = wipe σ vs := by
  refine List.ext_getElem? fun j => ?_
  rw [wipe_get, wipe_get, wipe_get]
  by_cases m : j ∈ vs
  · rw [if_pos m, if_pos m]
    by_cases m1 : j ∈ vs1
    · rw [if_pos m1]; cases σ[j]? <;> rfl
    · rw [if_neg m1]
  · rw [if_neg m, if_neg m, if_neg fun q => m (h j q)]
section
variable {K : PySem.W.Frag} {ca : Ca} {F F' : Addr → Prop} {H H' : Hp} {A A' : List Addr}
/-- the turns of a loop that fills the list at D0, which holds done0 already -/
theorem lc_turnsG {J : It} {vs : List Nat} {g : Tg} {c : B'} {el : E} {σ : L2.St} {D0 : Addr} {Nd : Hp → Prop} {items : List D} {F1 : Addr → Prop} {H1 : Hp} {A1 : List Addr} {st1 : Sl} {done0 : List D} {acc0 : List V}
    (lσ : σ.length ≤ 64) (rl1 : Rl K ca F1 H1 st1 (wipe σ vs) A1) (hw1 : st1 = wipeS vs st1) (n1 : ¬ F1 D0) (n2 : D0 ∉ A1) (n3 : H1 D0 = some (.lst acc0)) (rp0 : Reps K ca F1 H1 done0 acc0) (io : ItOk K ca J F1 H1 [] items)
    {xs : List D} {stE : Sl} (he : lcL vs g c el items st1 = .ok xs stE) (hl : (done0 ++ xs).length < sizeLine)
    (fin : ∀ F H A acc, Rl K ca F H stE (wipe σ vs) A → stE = wipeS vs stE → ¬ F D0 → D0 ∉ A → H D0 = some (.lst acc) → Reps K ca F H (done0 ++ xs) acc → Step F1 H1 (D0 :: A1) F H (D0 :: A) → Nd H) :
    ∃ W : Nat → Nat → Hp → Prop, (∃ m, W 0 m H1) ∧ ∀ i m H, W i m H →
      (J.stop i H ∧ Nd H) ∨ (J.go i H ∧ ∃ Nx : Hp → Prop, (∀ H', Nx H' → ∃ m', m' < m ∧ W (i + 1) m' H') ∧ ∀ x H', J.yld i H x H' → tT' K ca (cmpP vs) g x (wipe σ vs) H' fun σ2 H2 => wipe σ2 vs = wipe σ vs ∧ tT K ca W0 c σ2 H2 fun b H3 =>
        if b = true then tE K ca W0 el σ2 H3 fun y H4 => ∃ acc, H4 D0 = some (.lst acc) ∧ acc.length < sizeLine ∧ Nx (upd H4 D0 (.lst (acc ++ [y]))) else Nx H3) := by
  let St : List D → Hp → Prop := fun ds H => ∃ F A st acc done rest, Rl K ca F H st (wipe σ vs) A ∧ st = wipeS vs st ∧ ¬ F D0 ∧ D0 ∉ A ∧ H D0 = some (.lst acc) ∧ Reps K ca F H done acc ∧ Step F1 H1 (D0 :: A1) F H (D0 :: A) ∧ lcL vs g c el ds st = .ok rest stE ∧ done ++ rest = done0 ++ xs
  refine ⟨fun i m H => ∃ ds, items.drop i = ds ∧ m = ds.length ∧ St ds H, ⟨_, items, rfl, rfl, F1, A1, st1, acc0, done0, xs, rl1, hw1, n1, n2, n3, rp0, .refl, he, rfl⟩, ?_⟩
  rintro i m H ⟨ds, hd, rfl, F, A, st, acc, done, rest, rl, hw, nF, nA, hD, rp, s, hr, hx⟩
  have ioH := io F H s.fm (fun a o fa e => by
    refine s.keep a o e fun m => ?_
    rcases fa with fa | fa
    · rcases List.mem_cons.mp m with m | m
      · exact n1 (m ▸ fa)
      · exact (rl1.nf a m).1 fa
    · cases fa) i
  cases ds with
  | nil =>
    have hr : R.ok [] st = R.ok rest stE := hr
    cases hr
    rw [List.append_nil] at hx
    subst hx
    exact .inl ⟨ioH.1 (List.drop_eq_nil_iff.mp hd), fin F H A acc rl hw nF nA hD rp s⟩
  | cons d ds =>
    obtain ⟨hi1, hi2⟩ := drop_get hd
    obtain ⟨go, yl⟩ := ioH.2 d hi1
    refine .inr ⟨go, fun H' => St ds H', fun H' q => ⟨ds.length, Nat.lt_succ_self _, ds, hi2, rfl, q⟩, fun x Hy hy => ?_⟩
    obtain ⟨Fy, al, rpx⟩ := yl x Hy hy
    have rly := al.rl rl
    have hr : (match g d st with
      | none => R.bad
      | some st1 => (match c st1 with
        | .ok true st2 => (match el st2 with
          | .ok x st3 => (lcL vs g c el ds (wipeS vs st3)).bind fun xs st => .ok (x :: xs) st
          | _ => .bad)
        | .ok false st2 => lcL vs g c el ds (wipeS vs st2)
        | _ => .bad)) = .ok rest stE := hr
    cases zg : g d st with
    | none => rw [zg] at hr; cases hr
    | some st2 =>
      simp only [zg] at hr
      refine ⟨Fy, st, A, d, st2, rly, rpx, zg, fun σ2 F2 H2 A2 rl2 s2 p2 => ⟨wipe_pin lσ p2, F2, st2, A2, rl2, ?_⟩⟩
      have hwp := wipe_pin lσ p2
      cases zc : c st2 with
      | bad => simp only [zc] at hr; cases hr
      | exc _ _ _ => simp only [zc] at hr; cases hr
      | ok b st3 =>
        intro F3 H3 A3 rl3 s3
        have s03 : Step F H A F3 H3 A3 := al.step.trans (s2.trans s3)
        have hD3 : H3 D0 = some (.lst acc) := s03.keep D0 _ hD nA
        have nF3 : ¬ F3 D0 := fun q => by
          rcases s03.fnew D0 q with z | z | z
          · exact nF z
          · rw [hD] at z; cases z
          · exact nA z
        have nA3 : D0 ∉ A3 := fun q => by
          rcases s03.anew D0 q with z | z
          · exact nA z
          · rw [hD] at z; cases z
        have rp3 := rp.step s03 rl
        cases b with
        | false =>
          simp only [zc] at hr
          show if false = true then _ else _
          rw [if_neg Bool.false_ne_true]
          obtain ⟨A4, sub, rl4⟩ := rl3.wiped (vs := vs)
          rw [hwp] at rl4
          refine ⟨F3, A4, wipeS vs st3, acc, done, rest, rl4, wipeS_idem, nF3, fun m => nA3 (sub _ m), hD3, rp3, ?_, hr, hx⟩
          have t := pend_step (B1 := [D0]) s s03
          exact ⟨t.fm, t.keep, t.dom, t.fnew, fun y m => by
            rcases List.mem_cons.mp m with m | m
            · exact t.anew y (m ▸ List.mem_cons_self)
            · exact t.anew y (List.mem_cons_of_mem _ (sub y m))⟩
        | true =>
          simp only [zc] at hr
          show if true = true then _ else _
          rw [if_pos rfl]
          cases ze : el st3 with
          | bad => simp only [ze] at hr; cases hr
          | exc _ _ _ => simp only [ze] at hr; cases hr
          | ok y st4 =>
            simp only [ze] at hr
            refine ⟨F3, st3, A3, rl3, ?_⟩
            rw [ze]
            intro v F4 H4 A4 rl4 rp4 s4
            have s04 : Step F H A F4 H4 A4 := s03.trans s4
            have hD4 : H4 D0 = some (.lst acc) := s4.keep D0 _ hD3 nA3
            have nF4 : ¬ F4 D0 := fun q => by
              rcases s4.fnew D0 q with z | z | z
              · exact nF3 z
              · rw [hD3] at z; cases z
              · exact nA3 z
            have nA4 : D0 ∉ A4 := fun q => by
              rcases s4.anew D0 q with z | z
              · exact nA3 z
              · rw [hD3] at z; cases z
            cases zr : lcL vs g c el ds (wipeS vs st4) with
            | bad => simp only [zr, R.bind] at hr; cases hr
            | exc _ _ _ => simp only [zr, R.bind] at hr; cases hr
            | ok r2 st5 =>
              simp only [zr, R.bind] at hr
              cases hr
              have la : acc.length < sizeLine := by
                have e1 := rp.length
                have e2 := congrArg List.length hx
                rw [List.length_append, List.length_cons] at e2
                omega
              obtain ⟨A5, sub, rl5⟩ := rl4.wiped (vs := vs)
              rw [hwp] at rl5
              have rp5 := (rp3.step s4 rl3).append (.cons rp4 .nil)
              have nA5 : D0 ∉ A5 := fun m => nA4 (sub _ m)
              refine ⟨acc, hD4, la, F4, A5, wipeS vs st4, acc ++ [v], done ++ [y], r2, rl5.beside nF4 nA5, wipeS_idem, nF4, nA5, upd_same, rp5.beside nF4, ?_, zr, by rw [List.append_assoc]; exact hx⟩
              have t := pend_step (B1 := [D0]) s s04
              refine ⟨t.fm, fun a o e n => ?_, fun a o e => ?_, t.fnew, fun y m => ?_⟩
              · have na : a ≠ D0 := fun z => n (by rw [z]; exact List.mem_cons_self)
                rw [upd_ne na]
                exact t.keep a o e n
              · by_cases na : a = D0
                · subst na; exact ⟨_, upd_same⟩
                · rw [upd_ne na]; exact t.dom a o e
              · rcases List.mem_cons.mp m with m | m
                · exact t.anew y (m ▸ List.mem_cons_self)
                · exact t.anew y (List.mem_cons_of_mem _ (sub y m))
/-- the outer loop's turns -/
theorem lc2_turns {J : It} {vs vs1 : List Nat} {g : Tg} {c : B'} {it1 : IE} {g1 : Tg} {c1 : B'} {el : E} {σ : L2.St} {D0 : Addr} {Qd : Hp → Prop} {items : List D} {F1 : Addr → Prop} {H1 : Hp} {A1 : List Addr} {st1 : Sl} (hv : ∀ i ∈ vs1, i ∈ vs)
    (lσ : σ.length ≤ 64) (rl1 : Rl K ca F1 H1 st1 (wipe σ vs) A1) (hw1 : st1 = wipeS vs st1) (n1 : ¬ F1 D0) (n2 : D0 ∉ A1) (n3 : H1 D0 = none) (io : ItOk K ca J F1 H1 [] items)
    {xs : List D} {stE : Sl} (he : lcL2 vs vs1 g c it1 g1 c1 el items st1 = .ok xs stE) (hl : xs.length < sizeLine)
    (fin : ∀ F H A acc, Rl K ca F H stE (wipe σ vs) A → stE = wipeS vs stE → ¬ F D0 → D0 ∉ A → H D0 = some (.lst acc) → Reps K ca F H xs acc → Step F1 H1 A1 F H (D0 :: A) → Qd H) :
    ∃ W : Nat → Nat → Hp → Prop, (∃ m, W 0 m (upd H1 D0 (.lst []))) ∧ ∀ i m H, W i m H →
      (J.stop i H ∧ Qd H) ∨ (J.go i H ∧ ∃ Nx : Hp → Prop, (∀ H', Nx H' → ∃ m', m' < m ∧ W (i + 1) m' H') ∧ ∀ x H', J.yld i H x H' → tT' K ca (cmpP vs) g x (wipe σ vs) H' fun σ2 H2 => wipe σ2 vs = wipe σ vs ∧ tT K ca W0 c σ2 H2 fun b H3 =>
        if b = true then tI K ca W0 it1 σ2 H3 fun J1 H4 => ∃ W1 : Nat → Nat → Hp → Prop, (∃ m, W1 0 m H4) ∧ ∀ j k H, W1 j k H →
          (J1.stop j H ∧ Nx H) ∨ (J1.go j H ∧ ∃ Nx1 : Hp → Prop, (∀ H', Nx1 H' → ∃ k', k' < k ∧ W1 (j + 1) k' H') ∧ ∀ x H', J1.yld j H x H' → tT' K ca (cmpP vs1) g1 x (wipe σ2 vs1) H' fun σ3 H5 => wipe σ3 vs1 = wipe σ2 vs1 ∧ tT K ca W0 c1 σ3 H5 fun b H6 =>
            if b = true then tE K ca W0 el σ3 H6 fun y H7 => ∃ acc, H7 D0 = some (.lst acc) ∧ acc.length < sizeLine ∧ Nx1 (upd H7 D0 (.lst (acc ++ [y]))) else Nx1 H6)
        else Nx H3) := by
  let St : List D → Hp → Prop := fun ds H => ∃ F A st acc done rest, Rl K ca F H st (wipe σ vs) A ∧ st = wipeS vs st ∧ ¬ F D0 ∧ D0 ∉ A ∧ H D0 = some (.lst acc) ∧ Reps K ca F H done acc ∧ Step F1 H1 A1 F H (D0 :: A) ∧ lcL2 vs vs1 g c it1 g1 c1 el ds st = .ok rest stE ∧ done ++ rest = xs
  refine ⟨fun i m H => ∃ ds, items.drop i = ds ∧ m = ds.length ∧ St ds H, ⟨_, items, rfl, rfl, F1, A1, st1, [], [], xs, rl1.newO n3, hw1, n1, n2, upd_same, .nil, Step.newO n3, he, rfl⟩, ?_⟩
  rintro i m H ⟨ds, hd, rfl, F, A, st, acc, done, rest, rl, hw, nF, nA, hD, rp, s, hr, hx⟩
  have ioH := io F H s.fm (fun a o fa e => by
    refine s.keep a o e fun m => ?_
    rcases fa with fa | fa
    · exact (rl1.nf a m).1 fa
    · cases fa) i
  cases ds with
  | nil =>
    have hr : R.ok [] st = R.ok rest stE := hr
    cases hr
    rw [List.append_nil] at hx
    subst hx
    exact .inl ⟨ioH.1 (List.drop_eq_nil_iff.mp hd), fin F H A acc rl hw nF nA hD rp s⟩
  | cons d ds =>
    obtain ⟨hi1, hi2⟩ := drop_get hd
    obtain ⟨go, yl⟩ := ioH.2 d hi1
    refine .inr ⟨go, fun H' => St ds H', fun H' q => ⟨ds.length, Nat.lt_succ_self _, ds, hi2, rfl, q⟩, fun x Hy hy => ?_⟩
    obtain ⟨Fy, al, rpx⟩ := yl x Hy hy
    have rly := al.rl rl
    unfold lcL2 at hr
    cases zg : g d st with
    | none => rw [zg] at hr; cases hr
    | some st2 =>
      simp only [zg] at hr
      refine ⟨Fy, st, A, d, st2, rly, rpx, zg, fun σ2 F2 H2 A2 rl2 s2 p2 => ⟨wipe_pin lσ p2, F2, st2, A2, rl2, ?_⟩⟩
      have hwp := wipe_pin lσ p2
      have lσ2 : σ2.length ≤ 64 := by rw [p2.1, wipe_length]; exact lσ
      cases zc : c st2 with
      | bad => simp only [zc] at hr; cases hr
      | exc _ _ _ => simp only [zc] at hr; cases hr
      | ok b st3 =>
        intro F3 H3 A3 rl3 s3
        have s03 : Step F H A F3 H3 A3 := al.step.trans (s2.trans s3)
        have hD3 : H3 D0 = some (.lst acc) := s03.keep D0 _ hD nA
        have nF3 : ¬ F3 D0 := fun q => by
          rcases s03.fnew D0 q with z | z | z
          · exact nF z
          · rw [hD] at z; cases z
          · exact nA z
        have nA3 : D0 ∉ A3 := fun q => by
          rcases s03.anew D0 q with z | z
          · exact nA z
          · rw [hD] at z; cases z
        have rp3 := rp.step s03 rl
        cases b with
        | false =>
          simp only [zc] at hr
          show if false = true then _ else _
          rw [if_neg Bool.false_ne_true]
          obtain ⟨A4, sub, rl4⟩ := rl3.wiped (vs := vs)
          rw [hwp] at rl4
          refine ⟨F3, A4, wipeS vs st3, acc, done, rest, rl4, wipeS_idem, nF3, fun m => nA3 (sub _ m), hD3, rp3, ?_, hr, hx⟩
          have t := pend_step (B1 := [D0]) s s03
          exact ⟨t.fm, t.keep, t.dom, t.fnew, fun y m => by
            rcases List.mem_cons.mp m with m | m
            · exact t.anew y (m ▸ List.mem_cons_self)
            · exact t.anew y (List.mem_cons_of_mem _ (sub y m))⟩
        | true =>
          simp only [zc] at hr
          show if true = true then _ else _
          rw [if_pos rfl]
          refine ⟨F3, st3, A3, rl3, ?_⟩
          cases zi : it1 st3 with
          | bad => simp only [zi] at hr; cases hr
          | exc _ _ _ => simp only [zi] at hr; cases hr
          | ok items1 st4 =>
            simp only [zi] at hr
            intro J1 F4 H4 A4 rl4 io1 s4
            have s04 : Step F H A F4 H4 A4 := s03.trans s4
            have hD4 : H4 D0 = some (.lst acc) := s4.keep D0 _ hD3 nA3
            have nF4 : ¬ F4 D0 := fun q => by
              rcases s4.fnew D0 q with z | z | z
              · exact nF3 z
              · rw [hD3] at z; cases z
              · exact nA3 z
            have nA4 : D0 ∉ A4 := fun q => by
              rcases s4.anew D0 q with z | z
              · exact nA3 z
              · rw [hD3] at z; cases z
            have rp4 := rp3.step s4 rl3
            cases zl : lcL vs1 g1 c1 el items1 (wipeS vs1 st4) with
            | bad => simp only [zl] at hr; cases hr
            | exc _ _ _ => simp only [zl] at hr; cases hr
            | ok xs1 st5 =>
              simp only [zl] at hr
              cases zr : lcL2 vs vs1 g c it1 g1 c1 el ds (wipeS vs st5) with
              | bad => simp only [zr, R.bind] at hr; cases hr
              | exc _ _ _ => simp only [zr, R.bind] at hr; cases hr
              | ok ys st6 =>
                simp only [zr, R.bind] at hr
                cases hr
                obtain ⟨A5, sub, rl5⟩ := rl4.wiped (vs := vs1)
                refine lc_turnsG lσ2 rl5 wipeS_idem nF4 (fun m => nA4 (sub _ m)) hD4 rp4 io1 zl (by
                  have e2 := congrArg List.length hx
                  rw [List.length_append, List.length_append] at e2
                  rw [List.length_append]
                  omega) fun F6 H6 A6 acc6 rl6 hw6 nF6 nA6 hD6 rp6 s6 => ?_
                obtain ⟨A7, sub7, rl7⟩ := rl6.wiped (vs := vs)
                rw [wipe_wipe hv, hwp] at rl7
                refine ⟨F6, A7, wipeS vs st5, acc6, done ++ xs1, ys, rl7, wipeS_idem, nF6, fun m => nA6 (sub7 _ m), hD6, rp6, ?_, zr, by rw [List.append_assoc]; exact hx⟩
                have t := pend_step (B1 := [D0]) s s04
                -- the inner loop's own step
                have s5 : Step F4 H4 (D0 :: A4) F6 H6 (D0 :: A7) := by
                  have q : Step F4 H4 (D0 :: A4) F4 H4 (D0 :: A5) := Step.sub fun a m => by
                    rcases List.mem_cons.mp m with m | m
                    · exact m ▸ List.mem_cons_self
                    · exact List.mem_cons_of_mem _ (sub a m)
                  exact (q.trans s6).trans (Step.sub fun a m => by
                    rcases List.mem_cons.mp m with m | m
                    · exact m ▸ List.mem_cons_self
                    · exact List.mem_cons_of_mem _ (sub7 a m))
                exact Step.trans t s5
end
section
variable {X : Cx} {ca : Ca} {W : WX} {elt tg iter tg1 iter1 : Expr} {ifs ifs1 : List Expr} {scope : Scope} {own : List (Str × Nat)} {vs1 : List Nat} {pos : Pos} {it it1 : IE} {g g1 : Tg} {c c1 : B'} {el : E}
theorem lc2_run {σ : L2.St} {H : Hp} {Q : VK} {vs : List Nat} (hv : ∀ i ∈ vs1, i ∈ vs) (h : tO X.K ca W (eLc2 vs vs1 it g c it1 g1 c1 el) σ H Q) : tLc2 (tI X.K ca W it) (tT' X.K ca (cmpP vs) g) (tT X.K ca W0 c) (tI X.K ca W0 it1) (tT' X.K ca (cmpP vs1) g1) (tT X.K ca W0 c1) (tE X.K ca W0 el) vs vs1 σ H Q := by
  obtain ⟨F, st, A, rl, q⟩ := tO_iff.mp h
  refine ⟨F, st, A, rl, ?_⟩
  unfold eLc2 at q
  cases z : it st with
  | bad => rw [z] at q; exact q
  | exc c x s => rw [z] at q; exact q
  | ok items st1 =>
    rw [z] at q
    simp only [R.bind] at q
    intro J F1 H1 A1 rl1 io s1 D0 n3
    cases zf : frozenAt st1 vs && decide (st1.length ≤ 64) with
    | false => simp only [zf] at q; exact q.elim
    | true =>
      simp only [zf] at q
      obtain ⟨z1, z2⟩ := Bool.and_eq_true_iff.mp zf
      cases zl : lcL2 vs vs1 g c it1 g1 c1 el items (wipeS vs st1) with
      | bad => simp only [zl] at q; exact q.elim
      | exc cx x s => simp only [zl] at q; exact q.elim
      | ok xs stE =>
        simp only [zl] at q
        by_cases hl : xs.length < sizeLine
        · rw [if_pos hl] at q
          have lσ : σ.length ≤ 64 := by rw [rl1.len]; exact of_decide_eq_true z2
          obtain ⟨A2, sub, rl2⟩ := rl1.wiped (vs := vs)
          obtain ⟨n1, n2⟩ := rl1.fresh n3
          refine lc2_turns hv lσ rl2 wipeS_idem n1 (fun m => n2 (sub _ m)) n3 io zl hl fun F3 H3 A3 acc rl3 hw nF nA hD rp s => ?_
          rw [hw] at rl3
          have kF : ∀ a o, F1 a → H1 a = some o → H3 a = some o := fun a o fa e => s.keep a o e fun m => (rl2.nf a m).1 fa
          have r4 := Rl.backs rl1 z1 s.fm kF rl3
          rw [← hw] at r4
          have s2 : Step F1 H1 A1 F3 H3 ([D0] ++ A3) := (Step.sub sub).trans s
          exact q (.ref D0) F3 H3 A3 [D0] r4 ⟨D0, acc, rfl, rfl, nF, hD, rp⟩ (List.nodup_cons.mpr ⟨nA, rl3.nd⟩) (s1.trans s2)
        · rw [if_neg hl] at q; exact q.elim
theorem so_lc2 (hc : X.calm = true) (hN : X.N.Nodup) (hi : PI X tg iter (tI X.K ca W it)) (ok : BlkOk X.N X.env.scope scope own) (hv : ∀ i ∈ vs1, i ∈ own.map (·.2))
    (hg : ∀ (s : Shared) (H : Hp) (C : Addr) (cl : List (Str × Addr)) (fp : List Addr), PG (X.blk s H scope (compEnvC scope cl C X.env) fp) tg (tT' X.K ca (cmpP (own.map (·.2))) g))
    (ht : ∀ (s : Shared) (H : Hp) (C : Addr) (cl : List (Str × Addr)) (fp : List Addr), PTs (X.blk s H scope (compEnvC scope cl C X.env) fp) ifs (tT X.K ca W0 c))
    (hi1 : ∀ (s : Shared) (H : Hp) (C : Addr) (cl : List (Str × Addr)) (fp : List Addr), PI (X.blk s H scope (compEnvC scope cl C X.env) fp) tg1 iter1 (tI X.K ca W0 it1))
    (hg1 : ∀ (s : Shared) (H : Hp) (C : Addr) (cl : List (Str × Addr)) (fp : List Addr), PG (X.blk s H scope (compEnvC scope cl C X.env) fp) tg1 (tT' X.K ca (cmpP vs1) g1))
    (ht1 : ∀ (s : Shared) (H : Hp) (C : Addr) (cl : List (Str × Addr)) (fp : List Addr), PTs (X.blk s H scope (compEnvC scope cl C X.env) fp) ifs1 (tT X.K ca W0 c1))
    (he : ∀ (s : Shared) (H : Hp) (C : Addr) (cl : List (Str × Addr)) (fp : List Addr), PE (X.blk s H scope (compEnvC scope cl C X.env) fp) elt (tE X.K ca W0 el)) (hs : ∀ x, foldedSetIterable iter X.env x = pure x := by intro _; rfl) (hs1 : ∀ env x, foldedSetIterable iter1 env x = pure x := by intro _ _; rfl) :
    PE X (.ListComp elt [⟨tg, iter, ifs, 0⟩, ⟨tg1, iter1, ifs1, 0⟩] scope pos) (tO X.K ca W (eLc2 (own.map (·.2)) vs1 it g c it1 g1 c1 el)) := PE.imp (pe_lc2 hc hN hi ok hv hg ht hi1 hg1 ht1 he hs hs1) fun σ H Q h => lc2_run hv h
end
end Ev
namespace Ev
open PySem PySem.Spec PyProof.Rows L2
theorem neg1 {X : Cx} {j : Nat} {p1 p2 : Pos} : PE X (.UnaryOp .USub (.Constant (.int 1) j p1) p2) (tC (.int (-1))) := PE.imp (pe_un un_neg pe_int) fun σ H Q h => ⟨1, rfl, h⟩
section
variable (Pr : Program) (w : World) (K : PySem.W.Frag) (mg : Str → Option Value) (base : Heap) (ca : Ca)
/-- a method whose last parameter has the default None -/
structure MetD (k : Nat) (c m : Str) (ps : List Str) (mf : MF) : Prop where
  ok : ∃ fd ds, FnOk Pr w K mg base (L2.CX Pr w) k (He.ma K (ca.a c) m) fd ps (spE K ca mf) ∧ Vals [V.non] ds ∧ Binds K fd ps ds
  me : Meth K (ca.a c) m (He.ma K (ca.a c) m)
  cl : Cls K (ca.a c)
  no : ∀ ns, ca.ok c ns → m ∉ ns
end
section
variable {X : Cx} {ca : Ca} {W : WX} {k kk : Nat} {c m : Str} {mf : MF} {pn : List Str} {p pos apos : Pos} {e o : Expr} {es : List Expr} {g : Arg} {ps : List Arg}
theorem zc_methD {pl : Sem Bool} (h : MetD X.prog X.w X.K X.mg X.base ca k c m pn mf) (hr : Room kk X.A) (tk : Takes X W) (he : PE X o (tG X.K ca W g)) (ha : PA X (e :: es) (tGs X.K ca W ps)) (hk : k ≤ kk := by decide)
    (hst : starEach (e :: es) X.env = (false, eval e X.env) :: starEach es X.env := by rfl) (hpl : (backTo pos (starEach es X.env)).any (·.1) = false := by rfl)
    (ht : eval (.Call (.Attribute o m apos) (e :: es) [] pos) X.env = (do
      let ov ← eval o X.env
      standAt apos.atName
      let (f, first) ← holding [ov] (getMethod ov m pl)
      callWith pos f first (backTo pos (starEach (e :: es) X.env)) (backToKw pos (keywordEach [] X.env))) := by rfl) :
    PE X (.Call (.Attribute o m apos) (e :: es) [] pos) (tE X.K ca W (eMeth c (mfD mf [.f .non]) g ps)) := by
  obtain ⟨fd, ds, F, r, b⟩ := h.ok
  exact se_methD dflt_non h.cl h.no he h.me F (hr.mono hk) b r tk ha hst hpl ht
end
section
variable (Pr : Program) (w : World) (K : PySem.W.Frag) (mg : Str → Option Value) (base : Heap) (ca : Ca)
/-- a def whose answer is new -/
structure CalO (k : Nat) (x : Str) (ps : List Str) (mf : MF) : Prop where
  ok : ∃ fd, FnOk Pr w K mg base (L2.CX Pr w) k (He.ga K x) fd ps (spO K ca mf) ∧ Binds K fd ps []
  gl : mg x = some (.ref (He.ga K x))
  kp : PySem.W.keepIn K (.ref (He.ga K x)) = true
end
section
variable {X : Cx} {ca : Ca} {W : WX} {k kk : Nat} {x : Str} {mf : MF} {pn : List Str} {p pos : Pos} {e : Expr} {es : List Expr} {ps : List Arg}
theorem zo_call (h : CalO X.prog X.w X.K X.mg X.base ca k x pn mf) (hr : Room kk X.A) (tk : Takes X W) (ha : PA X (e :: es) (tGs X.K ca W ps)) (hk : k ≤ kk := by decide) (hg : Gl X x := by rfl) (hdb : (x == ("__debug__" : Str)) = false := by decide) (he : starEach (e :: es) X.env = (false, eval e X.env) :: starEach es X.env := by rfl) (hpl : (backTo pos (starEach es X.env)).any (·.1) = false := by rfl) :
    PE X (.Call (.Name x p) (e :: es) [] pos) (tO X.K ca W (eCall mf ps)) := by
  obtain ⟨fd, F, b⟩ := h.ok
  exact so_call F (hr.mono hk) hg h.gl h.kp b tk ha hdb he hpl
end
/-- all classes, all fields -/
def cfB (K : PySem.W.Frag) (cs fs : List Str) : Bool := cs.all fun c => (He.Fa.cls c).ok K && fs.all fun f => (He.Fa.noat c f).ok K
theorem cf_of {K : PySem.W.Frag} {cs fs : List Str} (h : cfB K cs fs = true) : Cf K (caOf K cs fs) := by
  refine ⟨fun c ns m => ?_, fun c ns m f mf => ?_⟩
  · exact He.cls_ok (He.ba (List.all_eq_true.mp h c m.1)).1
  · exact He.noat_ok (List.all_eq_true.mp (He.ba (List.all_eq_true.mp h c m.1)).2 f (m.2 f mf))
theorem differ_ok {K : PySem.W.Frag} {x y : Str} (h : (Zf.differ x y).ok K = true) : He.ga K x ≠ He.ga K y := by
  have h2 : (!decide (He.ga K x = He.ga K y)) = true := h
  simpa using h2
theorem cf_cls {K : PySem.W.Frag} {cs fs : List Str} (h : cfB K cs fs = true) {c : Str} (m : c ∈ cs) : Cls K (He.ga K c) := He.cls_ok (He.ba (List.all_eq_true.mp h c m)).1
end Ev
namespace Ev
open PySem PySem.Spec PyProof.Rows L2
theorem start_law {K : PySem.W.Frag} {ca : Ca} {mf : MF} {ns : List Int} {H : Hp} {a : Addr} {E : XK} (p : ∃ cs', mf [.f (.scr ns)] = .ok (.bl true) cs') (hS : SqL K H a (ns.map V.int)) : spE K ca mf [.ref a] H (fun v _ => v = .bl true) E := by
  obtain ⟨cs', e⟩ := p
  have rep : Rep K ca (fun b => b = a ∧ ∃ o, H b = some o) H (.scr ns) (.ref a) := by
    unfold Rep
    refine ⟨a, rfl, ?_⟩
    rcases hS with h | h
    · refine .inl ⟨⟨rfl, ?_⟩, h⟩
      rcases h with h | ⟨o, h⟩
      · exact ⟨_, h⟩
      · exact ⟨_, h⟩
    · exact .inr h
  refine spF (ds := [.scr ns]) (d := .bl true) (fun b h => h.2) (.cons rep .nil) ?_ fun v F' H' al rv => ?_
  · show (match mf [.f (.scr ns)] with | .ok d _ => some d | _ => none) = _
    rw [e]
  · unfold Rep at rv; exact rv
def eLr (m : E) : E := fun st => (m st).bind fun d st => match d with
  | .int j => (match inR j && decide (j ≤ 2 ^ 24) with
    | true => .ok (.lst (rangeD 0 j.toNat)) st
    | false => .bad)
  | _ => .bad
section
variable {X : Cx} {ca : Ca} {W : WX} {e tg : Expr} {p pos p2 pos2 : Pos} {m : E}
theorem reps_range {K : PySem.W.Frag} {F : Addr → Prop} {H : Hp} {ca : Ca} (f : Nat → Int) : ∀ l : List Nat, Reps K ca F H (l.map fun i => .int (f i)) (l.map fun i => V.int (f i))
  | [] => .nil
  | i :: l => .cons rep_int (reps_range f l)
theorem so_lr (hc : X.calm = true) (hgl : Gl X "list") (hml : X.mg "list" = none) (hg : Gl X "range") (hm : X.mg "range" = none) (h : PE X e (tE X.K ca W m)) (na : starEach [e] X.env = (false, eval e X.env) :: starEach [] X.env := by rfl)
    (na2 : starEach [.Call (.Name "range" p) [e] [] pos] X.env = (false, eval (.Call (.Name "range" p) [e] [] pos) X.env) :: starEach [] X.env := by rfl) : PE X (.Call (.Name "list" p2) [.Call (.Name "range" p) [e] [] pos] [] pos2) (tO X.K ca W (eLr m)) :=
  PE.imp (pe_listRg hc hgl hml (prg_1 hg hm h na) na2) fun σ H Q h => by
    obtain ⟨F, st, A, rl, q⟩ := tO_iff.mp h
    refine ⟨F, st, A, rl, ?_⟩
    unfold eLr at q
    cases z : m st with
    | bad => rw [z] at q; exact q
    | exc c x s => rw [z] at q; exact q
    | ok d st1 =>
      rw [z] at q
      simp only [R.bind] at q
      intro v F1 H1 A1 rl1 rp s1
      cases d with
      | int j =>
        unfold Rep at rp
        subst rp
        cases zr : inR j && decide (j ≤ 2 ^ 24) with
        | false => simp only [zr] at q; exact q.elim
        | true =>
          simp only [zr] at q
          obtain ⟨z1, z2⟩ := Bool.and_eq_true_iff.mp zr
          obtain ⟨z3, z4⟩ := Bool.and_eq_true_iff.mp z1
          have z2 := of_decide_eq_true z2
          refine ⟨j, rfl, ⟨by decide, by decide, of_decide_eq_true z3, of_decide_eq_true z4, by omega⟩, fun p n => ?_⟩
          obtain ⟨n1, n2⟩ := rl1.fresh n
          refine q (.ref p) F1 _ A1 [p] (rl1.newO n) ⟨p, _, rfl, rfl, n1, upd_same, ?_⟩ (List.nodup_cons.mpr ⟨n2, rl1.nd⟩) (s1.trans (Step.newO n))
          unfold rangeD rgV
          rw [Int.sub_zero]
          exact reps_range _ _
      | _ => exact q.elim
theorem si_rev (hgr : Gl X "reversed") (hmr : X.mg "reversed" = none) (hg : Gl X "range") (hm : X.mg "range" = none) (h : PE X e (tE X.K ca W m)) (na : starEach [e] X.env = (false, eval e X.env) :: starEach [] X.env := by rfl)
    (na2 : starEach [.Call (.Name "range" p) [e] [] pos] X.env = (false, eval (.Call (.Name "range" p) [e] [] pos) X.env) :: starEach [] X.env := by rfl) : PI X tg (.Call (.Name "reversed" p2) [.Call (.Name "range" p) [e] [] pos] [] pos2) (tI X.K ca W (itRv1 m)) :=
  PI.imp (pi_revR hgr hmr (prg_1 hg hm h na) na2) fun σ H Rr q => tI_e (k := fun d st => match d with
    | .int j => (match inR j with
      | true => .ok (rangeD 0 j.toNat).reverse st
      | false => .bad)
    | _ => .bad) q fun d v F H st A rl rp _ q => by
    cases d with
    | int j =>
      unfold Rep at rp
      subst rp
      cases z : inR j with
      | false => simp only [z] at q
      | true =>
        simp only [z] at q
        obtain ⟨z1, z2⟩ := Bool.and_eq_true_iff.mp z
        refine ⟨j, rfl, by decide, by decide, of_decide_eq_true z1, of_decide_eq_true z2, ?_⟩
        rw [Int.sub_zero]
        exact q _ F H A rl itc_ok .refl
    | _ => exact q.elim
end
end Ev
namespace Ev
open PySem PySem.Spec PyProof.Rows L2
def obsLG (as : List Addr) (fa : List Zf) (fn : List DefZ) (g : Addr → Option Obj) : AlZ := obsZ fa fn (He.frG g as)
def hookL (as : List Addr) (fa : List Zf) (fn : List DefZ) : PySem.W.Hook where
  α := AlZ
  obs := fun s => obsLG as fa fn s.heap.get?
  val := fun _ => valZ fn
  says := fun _ h => ∃ K : PySem.W.Frag, K.In h ∧ SaysZ fa fn K
  of := fun _ _ e => ⟨_, He.frG_in, e⟩
  keeps := fun _ _ _ ⟨K, hK, c⟩ k => ⟨K, PySem.W.Frag.In.keeps hK k, c⟩
theorem obsLG_eq {as : List Addr} {fa : List Zf} {fn : List DefZ} {g : Addr → Option Obj} {s : Shared} (h : ∀ a, g a = s.heap.get? a) : obsLG as fa fn g = (hookL as fa fn).obs s := by
  have e : g = s.heap.get? := funext h
  rw [e] <;> rfl
theorem map3 {α A B C : Type} {o : Option α} {f : α → A} {g : α → B} {h : α → C} {a : A} {b : B} {c : C} (h1 : o.map f = some a) (h2 : o.map g = some b) (h3 : o.map h = some c) : o.map (fun s => (f s, g s, h s)) = some (a, b, c) := by
  cases o with
  | none => cases h1
  | some s =>
    rw [Option.map_some] at h1 h2 h3 ⊢
    rw [Option.some.inj h1, Option.some.inj h2, Option.some.inj h3]
end Ev
namespace K83
open PySem PySem.Spec PyProof.Rows L2 Ev
def b_p_is_integer : S :=
  (sRet (eAnd (eOp (gIsi "int") [(.v 0)]) (eNot (eOp (gIsi "bool") [(.v 0)]))))
def f_p_is_integer : MF := runF 1 1 [] b_p_is_integer
def b_p_is_column : S :=
  (sSeq (sIf (mOr (mNot (mTru (.e (eOp (gIsi "tuple") [(.v 0)])))) (mT (eOp gNe [(.e (eOp gLen [(.v 0)])), (.v 2)]))) (sRet (eC (.bl false))) sNil)
  (sRet (eOp gAll [(.e (eFr (eLc [3] (itE (eV 0)) (tgN 3) mYes (eAnd (eCall f_p_is_integer [(.e (eV 3))]) (eChn gLe gLt (eC (.int 0)) (eV 3) (eV 1))))))])))
def f_p_is_column : MF := runF 4 3 [] b_p_is_column
def b_m_Sheet_zinitz : S :=
  (sSeq (sIf (mOr (mNot (mTru (.e (eCall f_p_is_integer [(.e (eV 1))])))) (mNot (mT (eChn gLe gLe (eC (.int 2)) (eV 1) (eC (.int 12)))))) sNever sNil)
  (sSeq (sIf (mOr (mNot (mTru (.e (eCall f_p_is_integer [(.e (eV 2))])))) (mNot (mT (eChn gLe gLe (eC (.int 1)) (eV 2) (eC (.int 4)))))) sNever sNil)
  (sSeq (sIf (mOr (mNot (mTru (.e (eOp (gIsi "list") [(.v 3)])))) (mNot (mTru (.e (eOp gAll [(.e (eFr (eLc [4] (itE (eV 3)) (tgN 4) mYes (eCall f_p_is_column [(.e (eV 4)), (.e (eV 1)), (.e (eV 2))]))))]))))) sNever sNil)
  (sSeq (sAsg (eV 1) (tgF 0 "held_base"))
  (sSeq (sAsg (eV 2) (tgF 0 "held_rows"))
  (sSeq (sAsg (eOp gListF [(.v 3)]) (tgF 0 "held_columns"))
  (sAsg (eOp gLen [(.v 3)]) (tgF 0 "size"))))))))
def f_m_Sheet_zinitz : MF := runF 5 4 [0] b_m_Sheet_zinitz
def b_p__law_bag : S :=
  (sSeq (sSet 2 (eIf (mT (eOp gLt [(.v 1), (.e (eOp gLen [(.v 0)]))])) (eOp gIx [(.v 0), (.v 1)]) (eC (.int 0))))
  (sSeq (sSet 3 (eOp gAdd [(.e (eOp gMul [(.e (eC (.int 2))), (.e (eOp gAbs [(.v 2)]))])), (.e (eOp gInt1 [(.e (eOp gLt [(.v 2), (.e (eC (.int 0)))]))]))]))
  (sRet (eLst [(eOp gMax [(.e (eC (.int 0))), (.e (eOp gSub [(.v 2), (.e (eOp gPow [(.e (eC (.int 10))), (.e (eC (.int 18)))]))]))]), (eOp gAdd [(.e (eOp gMul [(.e (eOp gMod [(.e (eOp gInt1 [(.v 3)])), (.e (eOp gAdd [(.e (eOp gPow [(.e (eC (.int 10))), (.e (eC (.int 39)))])), (.e (eC (.int 3)))]))])), (.e (eC (.int 64)))])), (.e (eOp gMod [(.e (eOp gInt1 [(.v 1)])), (.e (eC (.int 64)))]))]), (eC (.int 0))]))))
def f_p__law_bag : MF := runO 4 2 [] b_p__law_bag
def b_p_all_deeds : S :=
  (sSeq (sSet 2 (eLst [(eTup [(eC (.str "forget"))]), (eTup [(eC (.str "again"))])]))
  (sSeq (sSet 2 (eOp gAdd [(.v 2), (.e (eFr (eLc [3] (itR2 (eC (.int 1)) (eV 0)) (tgN 3) mYes (eTup [(eC (.str "off")), (eV 3)]))))]))
  (sSeq (sSet 2 (eOp gAdd [(.v 2), (.e (eFr (eLc2 [4, 3] [3] (itR1 (eV 1)) (tgN 4) mYes (itR2 (eC (.int 1)) (eV 0)) (tgN 3) mYes (eTup [(eC (.str "read")), (eV 4), (eV 3)]))))]))
  (sSeq (sSet 2 (eOp gAdd [(.v 2), (.e (eFr (eLc [4] (itR1 (eV 1)) (tgN 4) mYes (eTup [(eC (.str "copy")), (eV 4)]))))]))
  (sRet (eOp gAdd [(.v 2), (.e (eLst [(eTup [(eC (.str "swap"))]), (eTup [(eC (.str "out"))]), (eTup [(eC (.str "twice"))])]))]))))))
def f_p_all_deeds : MF := runF 5 2 [] b_p_all_deeds
def b_p_is_deed : S :=
  (sSeq (sIf (mOr (mNot (mTru (.e (eOp (gIsi "tuple") [(.v 0)])))) (mOr (mT (eOp gEq [(.e (eOp gLen [(.v 0)])), (.e (eC (.int 0)))])) (mNot (mTru (.e (eOp (gIsi "str") [(.e (eOp gIx [(.v 0), (.e (eC (.int 0)))]))])))))) (sRet (eC (.bl false))) sNil)
  (sSeq (sIf (mNot (mTru (.e (eOp gAll [(.e (eFr (eLc [4] (itE (eSl gSl (eV 0) (some (eC (.int 1))) none)) (tgN 4) mYes (eCall f_p_is_integer [(.e (eV 4))]))))])))) (sRet (eC (.bl false))) sNil)
  (sSeq (sSet 3 (eOp gIx [(.v 0), (.e (eC (.int 0)))]))
  (sSeq (sIf (mT (eOp (gIn false) [(.v 3), (.e (eC (.tup ((["forget", "again", "swap", "out", "twice"] : List PySem.Str).map .str))))])) (sRet (eOp gEq [(.e (eOp gLen [(.v 0)])), (.e (eC (.int 1)))])) sNil)
  (sSeq (sIf (mT (eOp gEq [(.v 3), (.e (eC (.str "off")))])) (sRet (eAnd (eOp gEq [(.e (eOp gLen [(.v 0)])), (.e (eC (.int 2)))]) (eChn gLe gLt (eC (.int 1)) (eOp gIx [(.v 0), (.e (eC (.int 1)))]) (eV 1)))) sNil)
  (sSeq (sIf (mT (eOp gEq [(.v 3), (.e (eC (.str "copy")))])) (sRet (eAnd (eOp gEq [(.e (eOp gLen [(.v 0)])), (.e (eC (.int 2)))]) (eChn gLe gLt (eC (.int 0)) (eOp gIx [(.v 0), (.e (eC (.int 1)))]) (eV 2)))) sNil)
  (sRet (eAnd (eOp gEq [(.v 3), (.e (eC (.str "read")))]) (eAnd (eOp gEq [(.e (eOp gLen [(.v 0)])), (.e (eC (.int 3)))]) (eAnd (eChn gLe gLt (eC (.int 0)) (eOp gIx [(.v 0), (.e (eC (.int 1)))]) (eV 2)) (eChn gLe gLt (eC (.int 1)) (eOp gIx [(.v 0), (.e (eC (.int 2)))]) (eV 1))))))))))))
def f_p_is_deed : MF := runF 5 3 [] b_p_is_deed
def b_p_number_of_columns : S :=
  (sSeq (sSet 2 (eC (.int 1)))
  (sSeq (sFor (itR1 (eV 1)) (tgN 3) (sSet 2 (eOp gMul [(.v 2), (.v 0)])))
  (sRet (eV 2))))
def f_p_number_of_columns : MF := runF 4 2 [] b_p_number_of_columns
def b_m_Kind_zinitz : S :=
  (sSeq (sIf (mOr (mNot (mTru (.e (eCall f_p_is_integer [(.e (eV 1))])))) (mNot (mT (eChn gLe gLe (eC (.int 2)) (eV 1) (eC (.int 12)))))) sNever sNil)
  (sSeq (sIf (mOr (mNot (mTru (.e (eCall f_p_is_integer [(.e (eV 2))])))) (mNot (mT (eChn gLe gLe (eC (.int 1)) (eV 2) (eC (.int 4)))))) sNever sNil)
  (sSeq (sIf (mT (eOp gGt [(.e (eCall f_p_number_of_columns [(.e (eV 1)), (.e (eV 2))])), (.e (eC (.int 1000)))])) sNever sNil)
  (sSeq (sIf (mOr (mNot (mTru (.e (eOp (gIsi "list") [(.v 3)])))) (mNot (mTru (.e (eOp gAll [(.e (eFr (eLc [6] (itE (eV 3)) (tgN 6) mYes (eCall f_p_is_deed [(.e (eV 6)), (.e (eV 1)), (.e (eV 2))]))))]))))) sNever sNil)
  (sSeq (sSet 5 (eFr (eLc [6] (itE (eCall f_p_all_deeds [(.e (eV 1)), (.e (eV 2))])) (tgN 6) (mT (eOp (gIn false) [(.v 6), (.v 3)])) (eV 6))))
  (sSeq (sIf (mOr (mT (eOp gNe [(.e (eOp gLen [(.v 5)])), (.e (eOp gLen [(.v 3)]))])) (mNot (mT (eChn gLe gLe (eC (.int 1)) (eOp gLen [(.v 5)]) (eC (.int 8)))))) sNever sNil)
  (sSeq (sIf (mOr (mNot (mTru (.e (eCall f_p_is_integer [(.e (eV 4))])))) (mNot (mT (eChn gLe gLe (eC (.int 1)) (eV 4) (eC (.int 3)))))) sNever sNil)
  (sSeq (sAsg (eV 1) (tgF 0 "held_base"))
  (sSeq (sAsg (eV 2) (tgF 0 "held_rows"))
  (sSeq (sAsg (eV 5) (tgF 0 "held_deeds"))
  (sAsg (eV 4) (tgF 0 "held_most"))))))))))))
def f_m_Kind_zinitz : MF := runF 7 5 [0] b_m_Kind_zinitz
def b_p_check_lot : S :=
  (sSeq (sIf (mNot (mTru (.e (eOp (gIsi "list") [(.v 0)])))) sNever sNil)
  (sFor (itR1 (eOp gLen [(.v 0)])) (tgN 1) (sSeq (sSet 2 (eOp gIx [(.v 0), (.v 1)]))
  (sSeq (sIf (mOr (mNot (mTru (.e (eOp (gIsi "int") [(.v 2)])))) (mOr (mTru (.e (eOp (gIsi "bool") [(.v 2)]))) (mT (eOp gLt [(.v 2), (.e (eC (.int 2)))])))) sNever sNil)
  (sIf (mT (eOp (gIn false) [(.v 2), (.e (eSl gSl (eV 0) none (some (eV 1))))])) sNever sNil)))))
def f_p_check_lot : MF := runF 3 1 [] b_p_check_lot
def b_m_Ledger_zinitz : S :=
  (sSeq (sDrop (eCall f_p_check_lot [(.e (eV 2))]))
  (sSeq (sAsg (eV 1) (tgF 0 "own_kind"))
  (sSeq (sAsg (eOp gListF [(.v 2)]) (tgF 0 "own_lot"))
  (sAsgO (eLst []) 0 "history"))))
def f_m_Ledger_zinitz : MF := runF 3 3 [0] b_m_Ledger_zinitz
def b_m_Kind_base : S :=
  (sRet (eFld "held_base" (.v 0)))
def f_m_Kind_base : MF := runF 1 1 [] b_m_Kind_base
def b_m_Kind_rows : S :=
  (sRet (eFld "held_rows" (.v 0)))
def f_m_Kind_rows : MF := runF 1 1 [] b_m_Kind_rows
def b_m_Kind_most : S :=
  (sRet (eFld "held_most" (.v 0)))
def f_m_Kind_most : MF := runF 1 1 [] b_m_Kind_most
def b_p_beginning : S :=
  (sSeq (sDrop (eCall f_p_check_lot [(.e (eV 1))]))
  (sRet (eTup [(eProp "Kind" f_m_Kind_most (.e (eV 0))), (eC .non), (eC .non), (eC (.int 0)), (eC (.int 0)), (eC (.int 0)), (eOp gTuple [(.e (eFr (eLc [2] (itE (eV 1)) (tgN 2) mYes (eTup [(eC (.int 0)), (eC (.int 1)), (eC (.int 1))]))))])])))
def f_p_beginning : MF := runF 3 2 [] b_p_beginning
def b_m_Ledger_standing : S :=
  (sSeq (sIf (mT (eOp gEq [(.e (eOp gLen [(.h 0 "history")])), (.e (eC (.int 0)))])) (sRet (eCall f_p_beginning [(.e (eFld "own_kind" (.v 0))), (.e (eFld "own_lot" (.v 0)))])) sNil)
  (sRet (eOp gIx [(.e (eIxH 0 "history" (-1))), (.e (eC (.int 2)))])))
def f_m_Ledger_standing : MF := runF 1 1 [0] b_m_Ledger_standing
def b_m_Kind_deeds : S :=
  (sRet (eOp gListF [(.e (eFld "held_deeds" (.v 0)))]))
def f_m_Kind_deeds : MF := runF 1 1 [] b_m_Kind_deeds
def b_p_copy_rows : S :=
  (sRet (eFr (eLc [1] (itE (eProp "Kind" f_m_Kind_deeds (.e (eV 0)))) (tgN 1) (mT (eOp gEq [(.e (eOp gIx [(.v 1), (.e (eC (.int 0)))])), (.e (eC (.str "copy")))])) (eOp gIx [(.v 1), (.e (eC (.int 1)))]))))
def f_p_copy_rows : MF := runF 2 1 [] b_p_copy_rows
def b_p_done_rightly : S :=
  (sSeq (sPar [6, 5] [(.e (eOp gIx [(.v 1), (.e (eC (.int 1)))])), (.e (eOp gIx [(.v 1), (.e (eC (.int 3)))]))])
  (sSeq (sSet 3 (eOp gSum [(.v 2)]))
  (sSeq (sSet 4 (eOp gMod [(.e (eOp gAdd [(.v 3), (.v 5)])), (.v 0)]))
  (sSeq (sSet 5 (eOp gFdiv [(.e (eOp gAdd [(.v 3), (.v 5)])), (.v 0)]))
  (sSeq (sIf (mT (eOp (gIs false) [(.v 6), (.e (eC .non))])) (sRet (eTup [(eV 3), (eC (.int 1)), (eV 5), (eC .non)])) sNil)
  (sRet (eTup [(eOp gAdd [(.e (eOp gMul [(.e (eOp gSub [(.v 4), (.v 6)])), (.e (eOp gSub [(.e (eC (.int 1))), (.v 0)]))])), (.e (eOp gMul [(.v 3), (.v 0)]))]), (eC (.int 2)), (eV 5), (eC .non)])))))))
def f_p_done_rightly : MF := runF 7 3 [] b_p_done_rightly
def b_p_power : S :=
  (sSeq (sSet 2 (eC (.int 1)))
  (sSeq (sFor (itR1 (eV 1)) (tgN 3) (sSet 2 (eOp gMul [(.v 2), (.v 0)])))
  (sRet (eV 2))))
def f_p_power : MF := runF 4 2 [] b_p_power
def b_p_near_behind : S :=
  (sSeq (sIf (mT (eOp (gIs false) [(.v 2), (.e (eC .non))])) (sRet (eC .non)) sNil)
  (sSeq (sSet 6 (eIf (mT (eOp gGt [(.v 1), (.e (eC (.int 0)))])) (eV 1) (eC (.int 0))))
  (sSeq (sSet 7 (eIf (mT (eOp gLt [(.v 1), (.e (eC (.int 0)))])) (eOp gSub [(.e (eC (.int 0))), (.v 1)]) (eC (.int 0))))
  (sSeq (sSet 2 (eOp gSub [(.e (eOp gAdd [(.v 2), (.e (eOp gMul [(.v 3), (.e (eCall f_p_power [(.e (eV 0)), (.e (eV 6))]))]))])), (.e (eOp gMul [(.v 4), (.e (eCall f_p_power [(.e (eV 0)), (.e (eV 7))]))]))]))
  (sSeq (sSet 8 (eOp gAdd [(.v 7), (.e (eC (.int 1)))]))
  (sSeq (sIf (mT (eOp gLt [(.e (eOp gAdd [(.v 6), (.v 5)])), (.v 8)])) (sSet 8 (eOp gAdd [(.v 6), (.v 5)])) sNil)
  (sSeq (sSet 9 (eCall f_p_power [(.e (eV 0)), (.e (eV 8))]))
  (sSeq (sIf (mT (eOp gNe [(.e (eOp gMod [(.v 2), (.v 9)])), (.e (eC (.int 0)))])) (sRet (eC .non)) sNil)
  (sRet (eOp gFdiv [(.v 2), (.v 9)]))))))))))
def f_p_near_behind : MF := runF 10 6 [] b_p_near_behind
def b_p_next_standing : S :=
  (sSeq (sAsg (eV 3) (tgT [(tgN 11), (tgN 12), (tgN 10), (tgN 13), (tgN 14), (tgN 7), (tgN 15)]))
  (sSeq (sIf (mT (eOp (gIs false) [(.v 5), (.e (eC .non))])) (sSet 16 (eCall f_p_done_rightly [(.e (eV 0)), (.e (eV 3)), (.e (eV 4))])) (sSeq (sSet 16 eNever)
  (sSet 11 (eOp gSub [(.v 11), (.e (eC (.int 1)))]))))
  (sSeq (sIf (mT (eOp (gIs false) [(.v 16), (.e (eC .non))])) (sRet (eC .non)) sNil)
  (sSeq (sAsg (eV 16) (tgT [(tgN 17), (tgN 18), (tgN 13), (tgN 12)]))
  (sSeq (sSet 6 (eOp gSum [(.v 4)]))
  (sSeq (sSet 7 (eCall f_p_near_behind [(.e (eV 0)), (.e (eV 14)), (.e (eV 7)), (.e (eV 17)), (.e (eV 6)), (.e (eV 18))]))
  (sSeq (sSetO 8 (eLst []))
  (sSeq (sFor (itR1 (eOp gLen [(.v 2)])) (tgN 9) (sSeq (sSet 19 (eOp gIx [(.v 2), (.v 9)]))
  (sSeq (sAsg (eOp gIx [(.v 15), (.v 9)]) (tgT [(tgN 20), (tgN 21), (tgN 22)]))
  (sSeq (sSet 20 (eOp gMod [(.e (eOp gSub [(.e (eOp gAdd [(.v 20), (.e (eOp gMul [(.v 17), (.v 22)]))])), (.e (eOp gMul [(.v 6), (.v 21)]))])), (.v 19)]))
  (sDrop (eMut gAppend 8 [(eTup [(eV 20), (eOp gMod [(.e (eOp gMul [(.v 21), (.v 0)])), (.v 19)]), (eOp gMod [(.e (eOp gMul [(.v 22), (.e (eCall f_p_power [(.e (eV 0)), (.e (eV 18))]))])), (.v 19)])])]))))))
  (sSeq (sSet 10 (eOp gTuple [(.e (eFr (eLc [23] (itE (eV 1)) (tgN 23) mYes (eOp gIx [(.v 4), (.v 23)]))))]))
  (sRet (eTup [(eV 11), (eV 12), (eV 10), (eV 13), (eOp gSub [(.e (eOp gAdd [(.v 14), (.v 18)])), (.e (eC (.int 1)))]), (eV 7), (eOp gTuple [(.v 8)])])))))))))))
def f_p_next_standing : MF := runF 24 6 [] b_p_next_standing
def b_m_Ledger_put : S :=
  (sSeq (sSet 3 (eFld "own_kind" (.v 0)))
  (sSeq (sIf (mNot (mTru (.e (eCall f_p_is_column [(.e (eV 1)), (.e (eProp "Kind" f_m_Kind_base (.e (eV 3)))), (.e (eProp "Kind" f_m_Kind_rows (.e (eV 3))))])))) sNever sNil)
  (sSeq (sIf (mAnd (mT (eOp (gIs true) [(.v 2), (.e (eC .non))])) mNever) sNever sNil)
  (sSeq (sSet 4 (eCall f_p_next_standing [(.e (eProp "Kind" f_m_Kind_base (.e (eV 3)))), (.e (eCall f_p_copy_rows [(.e (eV 3))])), (.e (eFld "own_lot" (.v 0))), (.e (eProp "Ledger" f_m_Ledger_standing (.mu 0))), (.e (eV 1)), (.e (eV 2))]))
  (sSeq (sIf (mT (eOp (gIs false) [(.v 4), (.e (eC .non))])) sNever sNil)
  (sDrop (eMutF gAppend 0 "history" [(eTup [(eV 1), (eV 2), (eV 4)])])))))))
def f_m_Ledger_put : MF := runF 5 3 [0] b_m_Ledger_put
def b_m_Ledger_sheet : S :=
  (sRet (eFr (eMake "Sheet" f_m_Sheet_zinitz [(.e (eProp "Kind" f_m_Kind_base (.e (eFld "own_kind" (.v 0))))), (.e (eProp "Kind" f_m_Kind_rows (.e (eFld "own_kind" (.v 0))))), (.e (eFr (eLcH [1] false 0 "history" (tgN 1) mYes (eOp gIx [(.v 1), (.e (eC (.int 0)))]))))])))
def f_m_Ledger_sheet : MF := runF 2 1 [0] b_m_Ledger_sheet
def b_m_Ledger_slips : S :=
  (sRet (eFr (eLcH [1, 2] true 0 "history" (tgT [(tgN 1), (tgN 2)]) (mT (eOp (gIs true) [(.e (eOp gIx [(.v 2), (.e (eC (.int 1)))])), (.e (eC .non))])) (eTup [(eV 1), (eOp gIx [(.v 2), (.e (eC (.int 1)))])]))))
def f_m_Ledger_slips : MF := runF 3 1 [0] b_m_Ledger_slips
def b_m_Ledger_waits : S :=
  (sRet (eOp (gIs true) [(.e (eOp gIx [(.e (eProp "Ledger" f_m_Ledger_standing (.mu 0))), (.e (eC (.int 1)))])), (.e (eC .non))]))
def f_m_Ledger_waits : MF := runF 1 1 [0] b_m_Ledger_waits
def b_m_Sheet_base : S :=
  (sRet (eFld "held_base" (.v 0)))
def f_m_Sheet_base : MF := runF 1 1 [] b_m_Sheet_base
def b_m_Sheet_columns : S :=
  (sRet (eOp gListF [(.e (eFld "held_columns" (.v 0)))]))
def f_m_Sheet_columns : MF := runF 1 1 [] b_m_Sheet_columns
def b_m_Adding_zinitz : S :=
  (sSeq (sAsg (eProp "Sheet" f_m_Sheet_base (.e (eV 1))) (tgF 0 "system"))
  (sSeq (sAsg (eProp "Sheet" f_m_Sheet_columns (.e (eV 1))) (tgF 0 "given"))
  (sSeq (sAsg (eC (.int 0)) (tgF 0 "at"))
  (sSeq (sAsg (eLst []) (tgF 0 "written"))
  (sSeq (sAsg (eC (.int 0)) (tgF 0 "carry"))
  (sAsg (eC .non) (tgF 0 "waiting")))))))
def f_m_Adding_zinitz : MF := runF 2 2 [0] b_m_Adding_zinitz
def b_p_taken : S :=
  (sSeq (sIf (mOr (mT (eOp (gIs false) [(.v 3), (.e (eC .non))])) (mT (eOp (gIn true) [(.e (eOp gIx [(.v 3), (.e (eC (.int 0)))])), (.e (eTup [(eC (.str "read")), (eC (.str "copy"))]))]))) (sRet (eV 1)) sNil)
  (sSeq (sSetO 4 (eOp gListF [(.v 1)]))
  (sSeq (sSet 5 (eOp gIx [(.v 3), (.e (eC (.int 1)))]))
  (sSeq (sIf (mT (eOp gEq [(.e (eOp gIx [(.v 3), (.e (eC (.int 0)))])), (.e (eC (.str "read")))])) (sItem 4 (eOp gMod [(.e (eOp gAdd [(.e (eOp gIx [(.v 4), (.v 5)])), (.e (eOp gIx [(.v 3), (.e (eC (.int 2)))]))])), (.v 0)]) (eV 5)) (sItem 4 (eOp gIx [(.v 2), (.v 5)]) (eV 5)))
  (sRet (eOp gTuple [(.v 4)]))))))
def f_p_taken : MF := runF 6 4 [] b_p_taken
def b_p_done : S :=
  (sSeq (sSet 5 (eC .non))
  (sSeq (sIf (mT (eOp (gIs true) [(.v 4), (.e (eC .non))])) (sSet 5 (eOp gIx [(.v 4), (.e (eC (.int 0)))])) sNil)
  (sSeq (sIf (mT (eOp gEq [(.v 5), (.e (eC (.str "out")))])) (sRet (eTup [(eLst []), (eV 3)])) sNil)
  (sSeq (sIf (mAnd (mT (eOp gEq [(.v 5), (.e (eC (.str "copy")))])) (mT (eOp (gIs false) [(.v 2), (.e (eC .non))]))) (sRet (eC .non)) sNil)
  (sSeq (sSet 6 (eOp gAdd [(.e (eOp gSum [(.e (eCall f_p_taken [(.e (eV 0)), (.e (eV 1)), (.e (eV 2)), (.e (eV 4))]))])), (.v 3)]))
  (sSeq (sSet 7 (eOp gMod [(.v 6), (.v 0)]))
  (sSeq (sSet 8 (eOp gFdiv [(.v 6), (.v 0)]))
  (sSeq (sIf (mT (eOp gEq [(.v 5), (.e (eC (.str "forget")))])) (sSeq (sIf (mT (eOp gEq [(.v 8), (.e (eC (.int 0)))])) (sRet (eC .non)) sNil)
  (sRet (eTup [(eLst [(eV 7)]), (eC (.int 0))]))) sNil)
  (sSeq (sIf (mT (eOp gEq [(.v 5), (.e (eC (.str "again")))])) (sRet (eTup [(eLst [(eV 7)]), (eOp gAdd [(.v 8), (.e (eC (.int 1)))])])) sNil)
  (sSeq (sIf (mT (eOp gEq [(.v 5), (.e (eC (.str "off")))])) (sRet (eTup [(eLst [(eOp gMod [(.e (eOp gAdd [(.v 7), (.e (eOp gIx [(.v 4), (.e (eC (.int 1)))]))])), (.v 0)])]), (eV 8)])) sNil)
  (sSeq (sIf (mT (eOp gEq [(.v 5), (.e (eC (.str "twice")))])) (sSeq (sSet 6 (eOp gAdd [(.e (eOp gSum [(.v 1)])), (.v 8)]))
  (sRet (eTup [(eLst [(eV 7), (eOp gMod [(.v 6), (.v 0)])]), (eOp gFdiv [(.v 6), (.v 0)])]))) sNil)
  (sRet (eTup [(eLst [(eV 7)]), (eV 8)])))))))))))))
def f_p_done : MF := runF 9 5 [] b_p_done
def b_m_Adding_do : S :=
  (sSeq (sSet 2 (eC .non))
  (sSeq (sIf (mT (eOp gGt [(.e (eFld "at" (.v 0))), (.e (eC (.int 0)))])) (sSet 2 (eOp gIx [(.e (eFld "given" (.v 0))), (.e (eOp gSub [(.e (eFld "at" (.v 0))), (.e (eC (.int 1)))]))])) sNil)
  (sSeq (sIf (mAnd (mT (eOp gEq [(.v 1), (.e (eTup [(eC (.str "swap"))]))])) (mT (eOp gEq [(.e (eOp gAdd [(.e (eFld "at" (.v 0))), (.e (eC (.int 1)))])), (.e (eOp gLen [(.e (eFld "given" (.v 0)))]))]))) (sRet (eC (.bl false))) sNil)
  (sSeq (sSet 3 (eCall f_p_done [(.e (eFld "system" (.v 0))), (.e (eOp gIx [(.e (eFld "given" (.v 0))), (.e (eFld "at" (.v 0)))])), (.e (eV 2)), (.e (eFld "carry" (.v 0))), (.e (eV 1))]))
  (sSeq (sIf (mT (eOp (gIs false) [(.v 3), (.e (eC .non))])) (sRet (eC (.bl false))) sNil)
  (sSeq (sAsg (eV 3) (tgT [(tgN 4), (tgF 0 "carry")]))
  (sSeq (sInc 0 "at" 1)
  (sSeq (sIf (mT (eOp (gIs true) [(.e (eFld "waiting" (.v 0))), (.e (eC .non))])) (sSeq (sSet 4 (eOp gAdd [(.v 4), (.e (eLst [(eFld "waiting" (.v 0))]))]))
  (sAsg (eC .non) (tgF 0 "waiting"))) (sIf (mT (eOp gEq [(.v 1), (.e (eTup [(eC (.str "swap"))]))])) (sSeq (sAsg (eOp gIx [(.v 4), (.e (eC (.int 0)))]) (tgF 0 "waiting"))
  (sSet 4 (eLst []))) sNil))
  (sSeq (sAsg (eOp gAdd [(.e (eFld "written" (.v 0))), (.v 4)]) (tgF 0 "written"))
  (sRet (eC (.bl true))))))))))))
def f_m_Adding_do : MF := runF 5 2 [0] b_m_Adding_do
def b_m_Adding_do_until : S :=
  (whL (mT (eOp gLt [(.e (eFld "at" (.v 0))), (.v 1)])) (sDrop (eMeth "Adding" f_m_Adding_do (.mu 0) [(.e (eC .non))])) 4096)
def f_m_Adding_do_until : MF := runF 2 2 [0] b_m_Adding_do_until
def b_m_Adding_free : S :=
  (sSeq (sIf (mT (eOp (gIs false) [(.e (eFld "waiting" (.v 0))), (.e (eC .non))])) (sRet (eFld "at" (.v 0))) sNil)
  (sRet (eOp gAdd [(.e (eFld "at" (.v 0))), (.e (eC (.int 1)))])))
def f_m_Adding_free : MF := runF 1 1 [0] b_m_Adding_free
def b_m_Written_zinitz : S :=
  (sSeq (sAsg (eV 1) (tgF 0 "held_base"))
  (sSeq (sAsg (eOp gListF [(.v 2)]) (tgF 0 "held_figures"))
  (sAsg (eV 3) (tgF 0 "held_last"))))
def f_m_Written_zinitz : MF := runF 4 4 [0] b_m_Written_zinitz
def b_m_Adding_result : S :=
  (sSeq (sDrop (eMeth "Adding" f_m_Adding_do_until (.mu 0) [(.e (eOp gLen [(.e (eFld "given" (.v 0)))]))]))
  (sRet (eFr (eMake "Written" f_m_Written_zinitz [(.e (eFld "system" (.v 0))), (.e (eFld "written" (.v 0))), (.e (eFld "carry" (.v 0)))]))))
def f_m_Adding_result : MF := runF 1 1 [0] b_m_Adding_result
def b_m_Sheet_zlenz : S :=
  (sRet (eOp gLen [(.e (eFld "held_columns" (.v 0)))]))
def f_m_Sheet_zlenz : MF := runF 1 1 [] b_m_Sheet_zlenz
def b_m_Sheet_rows : S :=
  (sRet (eFld "held_rows" (.v 0)))
def f_m_Sheet_rows : MF := runF 1 1 [] b_m_Sheet_rows
def b_p_is_slip : S :=
  (sSeq (sIf (mOr (mNot (mTru (.e (eOp (gIsi "tuple") [(.v 0)])))) (mOr (mT (eOp gNe [(.e (eOp gLen [(.v 0)])), (.e (eC (.int 2)))])) (mNot (mTru (.e (eCall f_p_is_integer [(.e (eOp gIx [(.v 0), (.e (eC (.int 0)))]))])))))) (sRet (eC (.bl false))) sNil)
  (sRet (eAnd (eChn gLe gLt (eV 2) (eOp gIx [(.v 0), (.e (eC (.int 0)))]) (eOpF (gLenO "Sheet" f_m_Sheet_zlenz) [(eV 1)])) (eCall f_p_is_deed [(.e (eOp gIx [(.v 0), (.e (eC (.int 1)))])), (.e (eProp "Sheet" f_m_Sheet_base (.e (eV 1)))), (.e (eProp "Sheet" f_m_Sheet_rows (.e (eV 1))))]))))
def f_p_is_slip : MF := runF 3 3 [] b_p_is_slip
def b_p_add_with : S :=
  (sSeq (sSetO 2 (eMake "Adding" f_m_Adding_zinitz [(.e (eV 0))]))
  (sSeq (sFor (itEn (eV 1)) (tgT [(tgN 3), (tgN 4)]) (sSeq (sIf (mNot (mTru (.e (eCall f_p_is_slip [(.e (eV 4)), (.e (eV 0)), (.e (eMeth "Adding" f_m_Adding_free (.mu 2) []))])))) sNever sNil)
  (sSeq (sDrop (eMeth "Adding" f_m_Adding_do_until (.mu 2) [(.e (eOp gIx [(.v 4), (.e (eC (.int 0)))]))]))
  (sIf (mNot (mTru (.e (eMeth "Adding" f_m_Adding_do (.mu 2) [(.e (eOp gIx [(.v 4), (.e (eC (.int 1)))]))])))) sNever sNil))))
  (sRet (eMeth "Adding" f_m_Adding_result (.mu 2) []))))
def f_p_add_with : MF := runF 5 2 [] b_p_add_with
def b_m_Ledger_result : S :=
  (sSeq (sIf (mTru (.e (eProp "Ledger" f_m_Ledger_waits (.mu 0)))) sNever sNil)
  (sRet (eCall f_p_add_with [(.e (eProp "Ledger" f_m_Ledger_sheet (.mu 0))), (.e (eProp "Ledger" f_m_Ledger_slips (.mu 0)))])))
def f_m_Ledger_result : MF := runF 1 1 [0] b_m_Ledger_result
def b_m_Sheet_place : S :=
  (sRet (eTup [(eFld "held_base" (.v 0)), (eFld "held_rows" (.v 0)), (eFld "size" (.v 0)), (eFld "held_columns" (.v 0))]))
def f_m_Sheet_place : MF := runF 1 1 [] b_m_Sheet_place
def b_m_Sheet_zeqz : S :=
  (sSeq (sIf (mNot (mTru (.e (eOpF (gIsC "Sheet") [(eV 1)])))) (sRet (eC (.bl false))) sNil)
  (sRet (eOp gEq [(.e (eMeth "Sheet" f_m_Sheet_place (.e (eV 0)) [])), (.e (eMeth "Sheet" f_m_Sheet_place (.e (eV 1)) []))])))
def f_m_Sheet_zeqz : MF := runF 2 2 [] b_m_Sheet_zeqz
def b_m_Written_zeqz : S :=
  (sSeq (sIf (mNot (mTru (.e (eOpF (gIsC "Written") [(eV 1)])))) (sRet (eC (.bl false))) sNil)
  (sRet (eOp gEq [(.e (eTup [(eFld "held_base" (.v 0)), (eFld "held_figures" (.v 0)), (eFld "held_last" (.v 0))])), (.e (eTup [(eFld "held_base" (.v 1)), (eFld "held_figures" (.v 1)), (eFld "held_last" (.v 1))]))])))
def f_m_Written_zeqz : MF := runF 2 2 [] b_m_Written_zeqz
def b_p__law_ledger_right : S :=
  (sSeq (sSet 2 (eC (.int 1)))
  (sSeq (sFor (itR1 (eProp "Sheet" f_m_Sheet_rows (.e (eV 0)))) (tgN 3) (sSet 2 (eOp gMul [(.v 2), (.e (eProp "Sheet" f_m_Sheet_base (.e (eV 0))))])))
  (sSeq (sIf (mT (eOp gGt [(.v 2), (.e (eC (.int 1000)))])) (sRet (eC (.bl true))) sNil)
  (sSeq (sSetO 4 (eMake "Ledger" f_m_Ledger_zinitz [(.e (eFr (eMake "Kind" f_m_Kind_zinitz [(.e (eProp "Sheet" f_m_Sheet_base (.e (eV 0)))), (.e (eProp "Sheet" f_m_Sheet_rows (.e (eV 0)))), (.e (eLst [(eTup [(eC (.str "out"))])])), (.e (eC (.int 1)))]))), (.e (eLst []))]))
  (sSeq (sFor (itE (eProp "Sheet" f_m_Sheet_columns (.e (eV 0)))) (tgN 5) (sDrop (eMeth "Ledger" (mfD f_m_Ledger_put [.f .non]) (.mu 4) [(.e (eV 5))])))
  (sRet (eAnd (eOpF (gDun (tag2 "Written" "Written") f_m_Written_zeqz) [(eMeth "Ledger" f_m_Ledger_result (.mu 4) []), (eV 1)]) (eAnd (eOp gEq [(.e (eProp "Ledger" f_m_Ledger_slips (.mu 4))), (.e (eLst []))]) (eOpF (gDun (tag2 "Sheet" "Sheet") f_m_Sheet_zeqz) [(eProp "Ledger" f_m_Ledger_sheet (.mu 4)), (eV 0)])))))))))
def f_p__law_ledger_right : MF := runF 6 2 [] b_p__law_ledger_right
def b_m_Sheet_value : S :=
  (sSeq (sSet 1 (eC (.int 0)))
  (sSeq (sFor (itE (eOp gRev [(.e (eFld "held_columns" (.v 0)))])) (tgN 2) (sSet 1 (eOp gAdd [(.e (eOp gMul [(.v 1), (.e (eFld "held_base" (.v 0)))])), (.e (eOp gSum [(.v 2)]))])))
  (sRet (eV 1))))
def f_m_Sheet_value : MF := runF 3 1 [] b_m_Sheet_value
def b_m_Written_figures : S :=
  (sRet (eOp gListF [(.e (eFld "held_figures" (.v 0)))]))
def f_m_Written_figures : MF := runF 1 1 [] b_m_Written_figures
def b_m_Written_last : S :=
  (sRet (eFld "held_last" (.v 0)))
def f_m_Written_last : MF := runF 1 1 [] b_m_Written_last
def b_m_Written_value : S :=
  (sSeq (sSet 1 (eFld "held_last" (.v 0)))
  (sSeq (sFor (itE (eOp gRev [(.e (eFld "held_figures" (.v 0)))])) (tgN 2) (sSet 1 (eOp gAdd [(.e (eOp gMul [(.v 1), (.e (eFld "held_base" (.v 0)))])), (.v 2)])))
  (sRet (eV 1))))
def f_m_Written_value : MF := runF 3 1 [] b_m_Written_value
def b_p_add_right : S :=
  (sRet (eMeth "Adding" f_m_Adding_result (.t (eMake "Adding" f_m_Adding_zinitz [(.e (eV 0))])) []))
def f_p_add_right : MF := runF 1 1 [] b_p_add_right
def b_p__law_is_sum : S :=
  (sSeq (sPar [5, 6] [(.e (eCall f_p_add_right [(.e (eV 2))])), (.e (eOpF (gLenO "Sheet" f_m_Sheet_zlenz) [(eV 0)]))])
  (sSeq (sIf (mOr (mT (eOp gNe [(.e (eProp "Sheet" f_m_Sheet_value (.e (eV 2)))), (.e (eProp "Sheet" f_m_Sheet_value (.e (eV 0))))])) (mOr (mT (eOp gNe [(.e (eSl gSl (eProp "Written" f_m_Written_figures (.e (eV 5))) none (some (eV 6)))), (.e (eProp "Written" f_m_Written_figures (.e (eV 1))))])) (mT (eOp gNe [(.e (eProp "Written" f_m_Written_value (.e (eV 5)))), (.e (eProp "Written" f_m_Written_value (.e (eV 1))))])))) (sRet (eC (.bl false))) sNil)
  (sSeq (sSet 3 (eProp "Written" f_m_Written_last (.e (eV 5))))
  (sSeq (sFor (itE (eOp gRev [(.e (eSl gSl (eProp "Written" f_m_Written_figures (.e (eV 5))) (some (eV 6)) none))])) (tgN 4) (sSet 3 (eOp gAdd [(.e (eOp gMul [(.v 3), (.e (eProp "Sheet" f_m_Sheet_base (.e (eV 0))))])), (.v 4)])))
  (sRet (eOp gEq [(.v 3), (.e (eProp "Written" f_m_Written_last (.e (eV 1))))]))))))
def f_p__law_is_sum : MF := runF 7 3 [] b_p__law_is_sum
def b_p__law_lot : S :=
  (sRet (eFr (eMake "Sheet" f_m_Sheet_zinitz [(.e (eProp "Sheet" f_m_Sheet_base (.e (eV 0)))), (.e (eOp gLen [(.v 1)])), (.e (eFr (eLc [2] (itE (eProp "Sheet" f_m_Sheet_columns (.e (eV 0)))) (tgN 2) mYes (eOp gTuple [(.e (eFr (eLc [3] (itE (eV 1)) (tgN 3) mYes (eOp gIx [(.v 2), (.v 3)]))))]))))])))
def f_p__law_lot : MF := runF 4 2 [] b_p__law_lot
def b_p__law_take : S :=
  (sSeq (sIf (mT (eOp gGt [(.e (eOp gIx [(.v 0), (.e (eC (.int 0)))])), (.e (eC (.int 0)))])) (sSeq (sSet 3 (eOp gMod [(.e (eOp gInt1 [(.e (eOp gIx [(.v 0), (.e (eC (.int 0)))]))])), (.v 1)]))
  (sSeq (sItem 0 (eOp gFdiv [(.e (eOp gIx [(.v 0), (.e (eC (.int 0)))])), (.v 1)]) (eC (.int 0)))
  (sRet (eV 3)))) sNil)
  (sSeq (sItem 0 (eOp gAdd [(.e (eOp gIx [(.v 0), (.e (eC (.int 2)))])), (.e (eC (.int 1)))]) (eC (.int 2)))
  (sSeq (sSet 2 (eOp gMod [(.e (eOp gInt1 [(.e (eOp gAdd [(.e (eOp gPow [(.e (eOp gAdd [(.e (eOp gIx [(.v 0), (.e (eC (.int 1)))])), (.e (eOp gMul [(.e (eC (.int 7368787))), (.e (eOp gIx [(.v 0), (.e (eC (.int 2)))]))]))])), (.e (eC (.int 2)))])), (.e (eOp gMul [(.e (eC (.int 1299709))), (.e (eOp gIx [(.v 0), (.e (eC (.int 2)))]))]))]))])), (.e (eOp gAdd [(.e (eOp gPow [(.e (eC (.int 10))), (.e (eC (.int 40)))])), (.e (eC (.int 121)))]))]))
  (sSeq (sSet 2 (eOp gMod [(.e (eOp gInt1 [(.e (eOp gAdd [(.e (eOp gPow [(.v 2), (.e (eC (.int 3)))])), (.e (eOp gIx [(.v 0), (.e (eC (.int 1)))]))]))])), (.e (eOp gAdd [(.e (eOp gPow [(.e (eC (.int 10))), (.e (eC (.int 38)))])), (.e (eC (.int 133)))]))]))
  (sRet (eOp gMod [(.e (eOp gInt1 [(.e (eOp gFdiv [(.v 2), (.e (eC (.int 9973)))]))])), (.v 1)]))))))
def f_p__law_take : MF := runF 4 2 [0] b_p__law_take
def b_p__law_mixed : S :=
  (sSeq (sPar [3, 4] [(.t (eOp gListF [(.v 1)])), (.t (eLst []))])
  (sSeq (sFor (itR1 (eOp gLen [(.v 1)])) (tgN 2) (sDrop (eMut gAppend 4 [(eMut gPopAt 3 [(eCall f_p__law_take [(.mu 0), (.e (eOp gLen [(.v 3)]))])])])))
  (sRet (eFz 4))))
def f_p__law_mixed : MF := runF 5 2 [0] b_p__law_mixed
def b_m_Written_base : S :=
  (sRet (eFld "held_base" (.v 0)))
def f_m_Written_base : MF := runF 1 1 [] b_m_Written_base
def b_p__law_digits : S :=
  (sSeq (sSetO 3 (eLst []))
  (sSeq (sFor (itR1 (eV 2)) (tgN 4) (sSeq (sDrop (eMut gAppend 3 [(eOp gMod [(.e (eOp gInt1 [(.v 0)])), (.v 1)])]))
  (sSet 0 (eOp gFdiv [(.v 0), (.v 1)]))))
  (sRet (eFz 3))))
def f_p__law_digits : MF := runF 5 3 [] b_p__law_digits
def b_p__law_row : S :=
  (sRet (eOp gAdd [(.e (eProp "Written" f_m_Written_figures (.e (eV 0)))), (.e (eCall f_p__law_digits [(.e (eProp "Written" f_m_Written_last (.e (eV 0)))), (.e (eProp "Written" f_m_Written_base (.e (eV 0)))), (.e (eOp gSub [(.v 1), (.e (eOp gLen [(.e (eProp "Written" f_m_Written_figures (.e (eV 0))))]))]))]))]))
def f_p__law_row : MF := runF 2 2 [] b_p__law_row
def b_p__law_sheet : S :=
  (sRet (eFr (eMake "Sheet" f_m_Sheet_zinitz [(.e (eV 0)), (.e (eOp gLen [(.v 1)])), (.e (eFr (eLc [2] (itR1 (eOp gLen [(.e (eOp gIx [(.v 1), (.e (eC (.int 0)))]))])) (tgN 2) mYes (eOp gTuple [(.e (eFr (eLc [3] (itE (eV 1)) (tgN 3) mYes (eOp gIx [(.v 3), (.v 2)]))))]))))])))
def f_p__law_sheet : MF := runF 4 2 [] b_p__law_sheet
def b_p_is_number : S :=
  (sSeq (sIf (mOr (mT (eOp gEq [(.v 0), (.e (eC (.str "")))])) (mAnd (mT (eOp gGt [(.e (eOp gLen [(.v 0)])), (.e (eC (.int 1)))])) (mT (eOp gEq [(.e (eOp gIx [(.v 0), (.e (eC (.int 0)))])), (.e (eC (.str "0")))])))) (sRet (eC (.bl false))) sNil)
  (sRet (eOp gAll [(.e (eFr (eLc [1] (itE (eV 0)) (tgN 1) mYes (eOp (gIn false) [(.v 1), (.e (eC (.str "0123456789")))]))))])))
def f_p_is_number : MF := runF 2 1 [] b_p_is_number
def b_p_read_sheet : S :=
  (sSeq (sIf (mNot (mTru (.e (eOp (gIsi "str") [(.v 0)])))) sNever sNil)
  (sSeq (sSet 1 (eBs gSplitF (eV 0) [(eC (.str " "))]))
  (sSeq (sSet 2 (eSl gSl (eV 1) (some (eC (.int 1))) none))
  (sSeq (sSet 3 (eSl gSl (eOp gIx [(.v 1), (.e (eC (.int 0)))]) none (some (eOp gNeg [(.e (eC (.int 1)))]))))
  (sSeq (sIf (mOr (mT (eOp gNe [(.e (eSl gSl (eOp gIx [(.v 1), (.e (eC (.int 0)))]) (some (eOp gNeg [(.e (eC (.int 1)))])) none)), (.e (eC (.str ":")))])) (mOr (mNot (mTru (.e (eCall f_p_is_number [(.e (eV 3))])))) (mOr (mT (eOp gGt [(.e (eOp gLen [(.v 3)])), (.e (eC (.int 2)))])) (mNot (mT (eChn gLe gLe (eC (.int 1)) (eOp gLen [(.v 2)]) (eC (.int 4)))))))) sNever sNil)
  (sSeq (sSet 4 (eOp gInt1 [(.v 3)]))
  (sSeq (sIf (mNot (mT (eChn gLe gLe (eC (.int 2)) (eV 4) (eC (.int 12))))) sNever sNil)
  (sSeq (sIf (mTru (.e (eOp gAll [(.e (eFr (eLc [6] (itE (eV 2)) (tgN 6) mYes (eOp gEq [(.v 6), (.e (eC (.str "-")))]))))]))) (sRet (eFr (eMake "Sheet" f_m_Sheet_zinitz [(.e (eV 4)), (.e (eOp gLen [(.v 2)])), (.e (eLst []))]))) sNil)
  (sSeq (sSet 5 (eOp gLen [(.e (eOp gIx [(.v 2), (.e (eC (.int 0)))]))]))
  (sSeq (sFor (itE (eV 2)) (tgN 6) (sIf (mOr (mT (eOp gEq [(.v 6), (.e (eC (.str "")))])) (mOr (mT (eOp gNe [(.e (eOp gLen [(.v 6)])), (.v 5)])) (mNot (mTru (.e (eOp gAll [(.e (eFr (eLc [9] (itE (eV 6)) (tgN 9) mYes (eOp (gIn false) [(.v 9), (.e (eSl gSl (eC (.str "0123456789ab")) none (some (eV 4))))]))))])))))) sNever sNil))
  (sSeq (sSet 7 (eFr (eLc [8] (itR1 (eV 5)) (tgN 8) mYes (eOp gTuple [(.e (eFr (eLc [6] (itE (eV 2)) (tgN 6) mYes (eBs gFind (eC (.str "0123456789ab")) [(eOp gIx [(.v 6), (.v 8)])]))))]))))
  (sRet (eFr (eMake "Sheet" f_m_Sheet_zinitz [(.e (eV 4)), (.e (eOp gLen [(.v 2)])), (.e (eOp gRev [(.v 7)]))]))))))))))))))
def f_p_read_sheet : MF := runF 10 1 [] b_p_read_sheet
def b_p_show_figures : S :=
  (sSeq (sIf (mT (eOp gEq [(.e (eOp gLen [(.v 0)])), (.e (eC (.int 0)))])) (sRet (eC (.str "-"))) sNil)
  (sRet (eBs gJoin (eC (.str "")) [(eFr (eLc [1] (itE (eV 0)) (tgN 1) mYes (eOp gIx [(.e (eC (.str "0123456789ab"))), (.v 1)])))])))
def f_p_show_figures : MF := runF 2 1 [] b_p_show_figures
def b_p_show_sheet : S :=
  (sSeq (sSet 1 (eOp gRev [(.e (eProp "Sheet" f_m_Sheet_columns (.e (eV 0))))]))
  (sSeq (sSetO 2 (eLst [(eOp gAdd [(.e (eOp gStr1 [(.e (eProp "Sheet" f_m_Sheet_base (.e (eV 0))))])), (.e (eC (.str ":")))])]))
  (sSeq (sFor (itR1 (eProp "Sheet" f_m_Sheet_rows (.e (eV 0)))) (tgN 3) (sDrop (eMut gAppend 2 [(eCall f_p_show_figures [(.e (eFr (eLc [4] (itE (eV 1)) (tgN 4) mYes (eOp gIx [(.v 4), (.v 3)]))))])])))
  (sRet (eBs gJoin (eC (.str " ")) [(eFz 2)])))))
def f_p_show_sheet : MF := runF 5 1 [] b_p_show_sheet
def b_p__law_lots_right : S :=
  (sSeq (sPar [6, 7] [(.e (eOp gAdd [(.e (eOpF (gLenO "Sheet" f_m_Sheet_zlenz) [(eV 1)])), (.e (eC (.int 3)))])), (.e (eFr (eLr (eProp "Sheet" f_m_Sheet_rows (.e (eV 1))))))])
  (sSeq (sFor (itR1 (eC (.int 2))) (tgN 3) (sSeq (sSet 8 (eCall f_p__law_mixed [(.mu 0), (.e (eV 7))]))
  (sSeq (sSet 9 (eOp gAdd [(.e (eC (.int 1))), (.e (eCall f_p__law_take [(.mu 0), (.e (eOp gSub [(.e (eProp "Sheet" f_m_Sheet_rows (.e (eV 1)))), (.e (eC (.int 1)))]))]))]))
  (sSeq (sSet 10 (eFr (eLc [13] (itE (eLst [(eSl gSl (eV 8) none (some (eV 9))), (eSl gSl (eV 8) (some (eV 9)) none)])) (tgN 13) mYes (eCall f_p__law_row [(.e (eCall f_p_add_right [(.e (eCall f_p__law_lot [(.e (eV 1)), (.e (eV 13))]))])), (.e (eV 6))]))))
  (sSeq (sSet 11 (eCall f_p__law_sheet [(.e (eProp "Sheet" f_m_Sheet_base (.e (eV 1)))), (.e (eV 10))]))
  (sSeq (sIf (mOr (mNot (mTru (.e (eCall f_p__law_is_sum [(.e (eV 1)), (.e (eV 2)), (.e (eV 11))])))) (mT (eOpF (gNeO "Sheet" f_m_Sheet_zeqz) [(eCall f_p_read_sheet [(.e (eCall f_p_show_sheet [(.e (eV 11))]))]), (eV 11)]))) (sRet (eC (.bl false))) sNil)
  (sIf (mT (eOpF (gNeO "Written" f_m_Written_zeqz) [(eCall f_p_add_right [(.e (eCall f_p__law_lot [(.e (eV 1)), (.e (eV 8))]))]), (eV 2)])) (sRet (eC (.bl false))) sNil)))))))
  (sSeq (sSet 4 (eCall f_p__law_row [(.e (eCall f_p_add_right [(.e (eCall f_p__law_lot [(.e (eV 1)), (.e (eLst [(eC (.int 0))]))]))])), (.e (eV 6))]))
  (sSeq (sFor (itE (eSl gSl (eV 7) (some (eC (.int 1))) none)) (tgN 5) (sSeq (sSet 12 (eOp gAdd [(.e (eFr (eLc [14] (itE (eProp "Sheet" f_m_Sheet_columns (.e (eV 1)))) (tgN 14) mYes (eOp gIx [(.v 14), (.v 5)])))), (.e (eLst [(eC (.int 0)), (eC (.int 0)), (eC (.int 0))]))]))
  (sSet 4 (eCall f_p__law_row [(.e (eCall f_p_add_right [(.e (eCall f_p__law_sheet [(.e (eProp "Sheet" f_m_Sheet_base (.e (eV 1)))), (.e (eLst [(eV 4), (eV 12)]))]))])), (.e (eV 6))]))))
  (sRet (eCall f_p__law_is_sum [(.e (eV 1)), (.e (eV 2)), (.e (eCall f_p__law_sheet [(.e (eProp "Sheet" f_m_Sheet_base (.e (eV 1)))), (.e (eLst [(eV 4)]))]))]))))))
def f_p__law_lots_right : MF := runF 15 3 [0] b_p__law_lots_right
def b_m_Written_zsubz : S :=
  (sRet (eOp gSub [(.e (eProp "Written" f_m_Written_value (.e (eV 0)))), (.e (eProp "Sheet" f_m_Sheet_value (.e (eV 1))))]))
def f_m_Written_zsubz : MF := runF 2 2 [] b_m_Written_zsubz
def b_p__law_slip_right : S :=
  (sSeq (sIf (mT (eOp gLt [(.e (eOpF (gLenO "Sheet" f_m_Sheet_zlenz) [(eV 1)])), (.e (eC (.int 2)))])) (sRet (eC (.bl true))) sNil)
  (sSeq (sSet 3 (eCall f_p__law_sheet [(.e (eProp "Sheet" f_m_Sheet_base (.e (eV 1)))), (.e (eLst [(eCall f_p__law_row [(.e (eV 2)), (.e (eOp gAdd [(.e (eOpF (gLenO "Sheet" f_m_Sheet_zlenz) [(eV 1)])), (.e (eC (.int 3)))]))])]))]))
  (sSeq (sPar [6, 7] [(.e (eCall f_p__law_take [(.mu 0), (.e (eOp gSub [(.e (eOpF (gLenO "Sheet" f_m_Sheet_zlenz) [(eV 1)])), (.e (eC (.int 1)))]))])), (.e (eC (.int 1)))])
  (sSeq (sFor (itR1 (eV 6)) (tgN 4) (sSet 7 (eOp gMul [(.v 7), (.e (eProp "Sheet" f_m_Sheet_base (.e (eV 1))))])))
  (sSeq (sFor (itE (eLst [(eTup [(eC (.str "off")), (eOp gAdd [(.e (eC (.int 1))), (.e (eCall f_p__law_take [(.mu 0), (.e (eOp gSub [(.e (eProp "Sheet" f_m_Sheet_base (.e (eV 1)))), (.e (eC (.int 1)))]))]))])]), (eTup [(eC (.str "swap"))])])) (tgN 5) (sIf (mT (eOp gNe [(.e (eOpF (gDun (tag2 "Written" "Sheet") f_m_Written_zsubz) [(eCall f_p_add_with [(.e (eV 3)), (.e (eLst [(eTup [(eV 6), (eV 5)])]))]), (eV 3)])), (.e (eOpF (gDun (tag2 "Written" "Sheet") f_m_Written_zsubz) [(eCall f_p_add_with [(.e (eV 1)), (.e (eLst [(eTup [(eV 6), (eV 5)])]))]), (eV 1)]))])) (sRet (eC (.bl false))) sNil))
  (sRet (eOp gEq [(.e (eOpF (gDun (tag2 "Written" "Sheet") f_m_Written_zsubz) [(eCall f_p_add_with [(.e (eV 3)), (.e (eLst [(eTup [(eV 6), (eTup [(eC (.str "again"))])])]))]), (eV 3)])), (.e (eOp gMul [(.v 7), (.e (eProp "Sheet" f_m_Sheet_base (.e (eV 1))))]))])))))))
def f_p__law_slip_right : MF := runF 8 3 [0] b_p__law_slip_right
def b_p__law_zeros_right : S :=
  (sSeq (sIf (mT (eOp gEq [(.e (eProp "Sheet" f_m_Sheet_rows (.e (eV 0)))), (.e (eC (.int 4)))])) (sRet (eC (.bl true))) sNil)
  (sRet (eOpF (gDun (tag2 "Written" "Written") f_m_Written_zeqz) [(eCall f_p_add_right [(.e (eFr (eMake "Sheet" f_m_Sheet_zinitz [(.e (eProp "Sheet" f_m_Sheet_base (.e (eV 0)))), (.e (eOp gAdd [(.e (eProp "Sheet" f_m_Sheet_rows (.e (eV 0)))), (.e (eC (.int 1)))])), (.e (eFr (eLc [2] (itE (eProp "Sheet" f_m_Sheet_columns (.e (eV 0)))) (tgN 2) mYes (eOp gAdd [(.v 2), (.e (eTup [(eC (.int 0))]))]))))])))]), (eV 1)])))
def f_p__law_zeros_right : MF := runF 3 2 [] b_p__law_zeros_right
def b_p__law_right : S :=
  (sSeq (sSetO 2 (eCall f_p__law_bag [(.e (eV 0)), (.e (eV 1))]))
  (sSeq (sPar [7, 8] [(.e (eOp gAdd [(.e (eC (.int 2))), (.e (eCall f_p__law_take [(.mu 2), (.e (eC (.int 11)))]))])), (.e (eOp gAdd [(.e (eC (.int 2))), (.e (eCall f_p__law_take [(.mu 2), (.e (eC (.int 3)))]))]))])
  (sSeq (sSetO 3 (eLst []))
  (sSeq (sFor (itR1 (eCall f_p__law_take [(.mu 2), (.e (eOp gIx [(.e (eLst [(eC (.int 11)), (eC (.int 41))])), (.e (eOp gInt1 [(.e (eOp gEq [(.v 1), (.e (eC (.int 0)))]))]))]))])) (tgN 4) (sSeq (sSet 9 (eOp gTuple [(.e (eFr (eLc [10] (itR1 (eV 8)) (tgN 10) mYes (eCall f_p__law_take [(.mu 2), (.e (eV 7))]))))]))
  (sDrop (eMut gAppend 3 [(eOp gIx [(.e (eLst [(eV 9), (eOp gTuple [(.e (eOp gMul [(.e (eLst [(eOp gSub [(.v 7), (.e (eC (.int 1)))])])), (.v 8)]))])])), (.e (eCall f_p__law_take [(.mu 2), (.e (eC (.int 2)))]))])]))))
  (sSeq (sSet 5 (eFr (eMake "Sheet" f_m_Sheet_zinitz [(.e (eV 7)), (.e (eV 8)), (.e (eFz 3))])))
  (sSeq (sSet 6 (eCall f_p_add_right [(.e (eV 5))]))
  (sSeq (sIf (mOr (mNot (mTru (.e (eCall f_p__law_lots_right [(.mu 2), (.e (eV 5)), (.e (eV 6))])))) (mNot (mTru (.e (eCall f_p__law_zeros_right [(.e (eV 5)), (.e (eV 6))]))))) (sRet (eC (.bl false))) sNil)
  (sRet (eAnd (eCall f_p__law_slip_right [(.mu 2), (.e (eV 5)), (.e (eV 6))]) (eCall f_p__law_ledger_right [(.e (eV 5)), (.e (eV 6))]))))))))))
def f_p__law_right : MF := runF 11 2 [] b_p__law_right
def b_p_law : S :=
  (sSeq (sFor (itR1 (eOp gMax [(.e (eC (.int 1))), (.e (eOp gMin [(.e (eC (.int 6))), (.e (eOp gLen [(.v 0)]))]))])) (tgN 1) (sIf (mNot (mTru (.e (eCall f_p__law_right [(.e (eV 0)), (.e (eV 1))])))) (sRet (eC (.bl false))) sNil))
  (sRet (eC (.bl true))))
def f_p_law : MF := runF 2 1 [] b_p_law
end K83
namespace K83
open PySem PySem.Spec PyProof.Rows L2 Ev
abbrev cs : List PySem.Str := ["Adding", "Kind", "Ledger", "Sheet", "Written"]
abbrev fs : List PySem.Str := ["at", "carry", "given", "held_base", "held_columns", "held_deeds", "held_figures", "held_last", "held_most", "held_rows", "history", "own_kind", "own_lot", "size", "system", "waiting", "written"]
abbrev ca (K : PySem.W.Frag) : Ca := caOf K cs fs
structure Gf (K : PySem.W.Frag) (mg : PySem.Str → Option Value) : Prop where
  fr_abs : mg "abs" = none
  fr_all : mg "all" = none
  fr_bool : mg "bool" = none
  fr_enumerate : mg "enumerate" = none
  fr_int : mg "int" = none
  fr_isinstance : mg "isinstance" = none
  fr_len : mg "len" = none
  fr_list : mg "list" = none
  fr_max : mg "max" = none
  fr_min : mg "min" = none
  fr_range : mg "range" = none
  fr_str : mg "str" = none
  fr_sum : mg "sum" = none
  fr_tuple : mg "tuple" = none
  co_DIGITS : ∃ u, mg "DIGITS" = some u ∧ RelV (.str "0123456789") u
  cr_DIGITS : ∀ F H, Rep K (ca K) F H (.str "0123456789") (.str "0123456789")
  co_FIGURES : ∃ u, mg "FIGURES" = some u ∧ RelV (.str "0123456789ab") u
  cr_FIGURES : ∀ F H, Rep K (ca K) F H (.str "0123456789ab") (.str "0123456789ab")
  co_MOST_COLUMNS : ∃ u, mg "MOST_COLUMNS" = some u ∧ RelV (.int 1000) u
  cr_MOST_COLUMNS : ∀ F H, Rep K (ca K) F H (.int 1000) (.int 1000)
  co_MOST_DEEDS : ∃ u, mg "MOST_DEEDS" = some u ∧ RelV (.int 8) u
  cr_MOST_DEEDS : ∀ F H, Rep K (ca K) F H (.int 8) (.int 8)
  co_PLAIN : ∃ u, mg "PLAIN" = some u ∧ RelV (.ref (He.ga K "PLAIN")) u
  cr_PLAIN : ∀ F H, Rep K (ca K) F H (.tup ((["forget", "again", "swap", "out", "twice"] : List PySem.Str).map .str)) (.ref (He.ga K "PLAIN"))

def top (i : Nat) : Stmt := PySem.Challenge.pw_sumslips_k83_whole_rows_added_in_two_goe.main.body.getD i (.Pass ⟨0, 0, 0, 0⟩)
def sub (i j : Nat) : Stmt := match top i with
  | .ClassDef _ _ _ b _ _ _ _ _ _ _ => b.getD j (.Pass ⟨0, 0, 0, 0⟩)
  | _ => .Pass ⟨0, 0, 0, 0⟩
theorem sc_p_is_integer : FnScope ["value"] ["value"] (defScope (top 13)) := ⟨rfl, rfl, rfl, by decide +kernel, rfl, by decide +kernel, by decide +kernel⟩
theorem ok_p_is_integer {Pr : Program} {w : World} {K : PySem.W.Frag} {mg : PySem.Str → Option Value} {base : Heap} {a : Addr} {fd : FuncData} (cf : Cf K (ca K)) (z : Gf K mg)
    (F : FunD K "is_integer" "is_integer" (defArgs (top 13)) (defBody (top 13)) (defScope (top 13)) [] [] a fd) : FnOk Pr w K mg base (L2.CX Pr w) 1 a fd ["value"] (spE K (ca K) f_p_is_integer) :=
  have sc := sc_p_is_integer
  fnED (N := ["value"]) (P := []) (b := b_p_is_integer) F sc fun cdv A outer s H E hr =>
  (ss_one (ss_ret (se_and (se_isi cf (T := "int") (by decide +kernel) (by rfl) z.fr_isinstance (by rfl) z.fr_int (by decide +kernel) boot_isinstance (po_v (pv 0))) (se_one (se_not (se_isi cf (T := "bool") (by decide +kernel) (by rfl) z.fr_isinstance (by rfl) z.fr_bool (by decide +kernel) boot_isinstance (po_v (pv 0))))))))
theorem sc_p_is_column : FnScope ["value", "base", "rows", "figure"] ["value", "base", "rows"] (defScope (top 14)) := ⟨rfl, rfl, rfl, by decide +kernel, rfl, by decide +kernel, by decide +kernel⟩
theorem ok_p_is_column {Pr : Program} {w : World} {K : PySem.W.Frag} {mg : PySem.Str → Option Value} {base : Heap} {a : Addr} {fd : FuncData} (cf : Cf K (ca K)) (z : Gf K mg) (hcal_is_integer : Cal Pr w K mg base (ca K) 1 "is_integer" ["value"] f_p_is_integer)
    (F : FunD K "is_column" "is_column" (defArgs (top 14)) (defBody (top 14)) (defScope (top 14)) [] [] a fd) : FnOk Pr w K mg base (L2.CX Pr w) 2 a fd ["value", "base", "rows"] (spE K (ca K) f_p_is_column) :=
  have sc := sc_p_is_column
  fnED (N := ["value", "base", "rows", "figure"]) (P := []) (b := b_p_is_column) F sc fun cdv A outer s H E hr =>
  (ss_cons (ss_if (st_or (st_not (st_tru cf (po_e (se_isi cf (T := "tuple") (by decide +kernel) (by rfl) z.fr_isinstance (by rfl) z.fr_tuple (by decide +kernel) boot_isinstance (po_v (pv 0)))))) (st_or1 (zt_neD cf hr (po_e (zf_len cf z.fr_len (sp_cons (po_v (pv 0)) sp_nil))) (po_v (pv 2))))).pt (ss_one (ss_ret se_bl)) ss_nil)
  (ss_one (ss_ret (zf_all cf (by rfl) z.fr_all (sp_cons (po_e (se_fr (so_lc (by rfl) sc.nd (si_e (se_v (pv 0))) (own := [("figure", 3)]) (blk_of (by rfl)) (fun _ _ _ _ _ => (sg_name sc.nd (by rfl) (by first | exact Or.inl rfl | exact Or.inr rfl))) (fun _ _ _ _ _ => sts_nil) (fun _ _ _ _ _ => (se_and (zc_call hcal_is_integer hr Ev.takes0 (sg_cons (ag_e (se_v (pv 3))) sg_nil)) (se_one (se_chain op_le ok_IB op_lt ok_IB se_int (se_v (pv 3)) (se_v (pv 1))))))))) sp_nil)))))
theorem sc_m_Sheet_zinitz : FnScope ["self", "base", "rows", "columns", "column"] ["self", "base", "rows", "columns"] (defScope (sub 15 0)) := ⟨rfl, rfl, rfl, by decide +kernel, rfl, by decide +kernel, by decide +kernel⟩
theorem ok_m_Sheet_zinitz {Pr : Program} {w : World} {K : PySem.W.Frag} {mg : PySem.Str → Option Value} {base : Heap} {a : Addr} {fd : FuncData} (cf : Cf K (ca K)) (z : Gf K mg) (hcal_is_column : Cal Pr w K mg base (ca K) 2 "is_column" ["value", "base", "rows"] f_p_is_column) (hcal_is_integer : Cal Pr w K mg base (ca K) 1 "is_integer" ["value"] f_p_is_integer)
    (F : FunD K "__init__" "Sheet.__init__" (defArgs (sub 15 0)) (defBody (sub 15 0)) (defScope (sub 15 0)) [] [] a fd) : FnOk Pr w K mg base (L2.CX Pr w) 3 a fd ["self", "base", "rows", "columns"] (spE K (ca K) f_m_Sheet_zinitz) :=
  have sc := sc_m_Sheet_zinitz
  fnED (N := ["self", "base", "rows", "columns", "column"]) (P := [0]) (b := b_m_Sheet_zinitz) F sc fun cdv A outer s H E hr =>
  (ss_cons (ss_if (st_or (st_not (st_tru cf (po_e (zc_call hcal_is_integer hr tkX (sg_cons (ag_e (se_v (pv 1))) sg_nil))))) (st_or1 (st_not (st_chain op_le ok_IB op_le ok_IB se_int (se_v (pv 1)) se_int)))).pt (ss_one ss_never) ss_nil)
  (ss_cons (ss_if (st_or (st_not (st_tru cf (po_e (zc_call hcal_is_integer hr tkX (sg_cons (ag_e (se_v (pv 2))) sg_nil))))) (st_or1 (st_not (st_chain op_le ok_IB op_le ok_IB se_int (se_v (pv 2)) se_int)))).pt (ss_one ss_never) ss_nil)
  (ss_cons (ss_if (st_or (st_not (st_tru cf (po_e (se_isi cf (T := "list") (by decide +kernel) (by rfl) z.fr_isinstance (by rfl) z.fr_list (by decide +kernel) boot_isinstance (po_v (pv 3)))))) (st_or1 (st_not (st_tru cf (po_e (zf_all cf (by rfl) z.fr_all (sp_cons (po_e (se_fr (so_lc (by rfl) sc.nd (si_e (se_v (pv 3))) (own := [("column", 4)]) (blk_of (by rfl)) (fun _ _ _ _ _ => (sg_name sc.nd (by rfl) (by first | exact Or.inl rfl | exact Or.inr rfl))) (fun _ _ _ _ _ => sts_nil) (fun _ _ _ _ _ => (zc_call hcal_is_column hr Ev.takes0 (sg_cons (ag_e (se_v (pv 4))) (sg_cons (ag_e (se_v (pv 1))) (sg_cons (ag_e (se_v (pv 2))) sg_nil)))))))) sp_nil))))))).pt (ss_one ss_never) ss_nil)
  (ss_cons (ss_fld cf (caOf_fld (by decide +kernel)) (pv 0) (se_v (pv 1)))
  (ss_cons (ss_fld cf (caOf_fld (by decide +kernel)) (pv 0) (se_v (pv 2)))
  (ss_cons (ss_fld cf (caOf_fld (by decide +kernel)) (pv 0) (zf_list cf z.fr_list (sp_cons (po_v (pv 3)) sp_nil)))
  (ss_one (ss_fld cf (caOf_fld (by decide +kernel)) (pv 0) (zf_len cf z.fr_len (sp_cons (po_v (pv 3)) sp_nil))))))))))
theorem sc_p__law_bag : FnScope ["script", "k", "cell", "whole"] ["script", "k"] (defScope (top 54)) := ⟨rfl, rfl, rfl, by decide +kernel, rfl, by decide +kernel, by decide +kernel⟩
theorem ok_p__law_bag {Pr : Program} {w : World} {K : PySem.W.Frag} {mg : PySem.Str → Option Value} {base : Heap} {a : Addr} {fd : FuncData} (cf : Cf K (ca K)) (z : Gf K mg)
    (F : FunD K "_law_bag" "_law_bag" (defArgs (top 54)) (defBody (top 54)) (defScope (top 54)) [] [] a fd) : FnOk Pr w K mg base (L2.CX Pr w) 1 a fd ["script", "k"] (spO K (ca K) f_p__law_bag) :=
  have sc := sc_p__law_bag
  fnOD (N := ["script", "k", "cell", "whole"]) (P := []) (b := b_p__law_bag) F sc fun cdv A outer s H E hr =>
  (ss_cons (ss_set sc.nd (by rfl) (by first | exact Or.inl rfl | exact Or.inr rfl) (se_if (zt_lt cf (po_v (pv 1)) (po_e (zf_len cf z.fr_len (sp_cons (po_v (pv 0)) sp_nil)))) (se_ix cf (po_v (pv 0)) (po_v (pv 1))) se_int))
  (ss_cons (ss_set sc.nd (by rfl) (by first | exact Or.inl rfl | exact Or.inr rfl) (zb_add cf (po_e (zb_mul cf (po_e se_int) (po_e (zf_abs cf z.fr_abs (sp_cons (po_v (pv 2)) sp_nil))))) (po_e (zf_int cf z.fr_int (sp_cons (po_e (zb_lt cf (po_v (pv 2)) (po_e se_int))) sp_nil)))))
  (ss_one (ss_retO (so_lst (sa_cons (zf_max cf (by rfl) z.fr_max (sp_cons (po_e se_int) (sp_cons (po_e (zb_sub cf (po_v (pv 2)) (po_e (zb_pow cf (po_e se_int) (po_e se_int))))) sp_nil))) (sa_cons (zb_add cf (po_e (zb_mul cf (po_e (zb_mod cf (po_e (zf_int cf z.fr_int (sp_cons (po_v (pv 3)) sp_nil))) (po_e (zb_add cf (po_e (zb_pow cf (po_e se_int) (po_e se_int))) (po_e se_int))))) (po_e se_int))) (po_e (zb_mod cf (po_e (zf_int cf z.fr_int (sp_cons (po_v (pv 1)) sp_nil))) (po_e se_int)))) (sa_cons se_int sa_nil))))))))
theorem sc_p_all_deeds : FnScope ["base", "rows", "deeds", "d", "j"] ["base", "rows"] (defScope (top 18)) := ⟨rfl, rfl, rfl, by decide +kernel, rfl, by decide +kernel, by decide +kernel⟩
theorem ok_p_all_deeds {Pr : Program} {w : World} {K : PySem.W.Frag} {mg : PySem.Str → Option Value} {base : Heap} {a : Addr} {fd : FuncData} (cf : Cf K (ca K)) (z : Gf K mg)
    (F : FunD K "all_deeds" "all_deeds" (defArgs (top 18)) (defBody (top 18)) (defScope (top 18)) [] [] a fd) : FnOk Pr w K mg base (L2.CX Pr w) 1 a fd ["base", "rows"] (spE K (ca K) f_p_all_deeds) :=
  have sc := sc_p_all_deeds
  fnED (N := ["base", "rows", "deeds", "d", "j"]) (P := []) (b := b_p_all_deeds) F sc fun cdv A outer s H E hr =>
  (ss_cons (ss_set sc.nd (by rfl) (by first | exact Or.inl rfl | exact Or.inr rfl) (se_lst (sa_cons (se_tup (sa_cons se_str sa_nil)) (sa_cons (se_tup (sa_cons se_str sa_nil)) sa_nil))))
  (ss_cons (ss_set sc.nd (by rfl) (by first | exact Or.inl rfl | exact Or.inr rfl) (zb_add cf (po_v (pv 2)) (po_e (se_fr (so_lc (by rfl) sc.nd (si_range2 (by rfl) z.fr_range se_int (se_v (pv 0))) (own := [("d", 3)]) (blk_of (by rfl)) (fun _ _ _ _ _ => (sg_name sc.nd (by rfl) (by first | exact Or.inl rfl | exact Or.inr rfl))) (fun _ _ _ _ _ => sts_nil) (fun _ _ _ _ _ => (se_tup (sa_cons se_str (sa_cons (se_v (pv 3)) sa_nil)))))))))
  (ss_cons (ss_set sc.nd (by rfl) (by first | exact Or.inl rfl | exact Or.inr rfl) (zb_add cf (po_v (pv 2)) (po_e (se_fr (so_lc2 (by rfl) sc.nd (si_range1 (by rfl) z.fr_range (se_v (pv 1))) (own := [("j", 4), ("d", 3)]) (vs1 := [3]) (blk_of (by rfl)) (by decide) (fun _ _ _ _ _ => (sg_name sc.nd (by rfl) (by first | exact Or.inl rfl | exact Or.inr rfl))) (fun _ _ _ _ _ => sts_nil) (fun _ _ _ _ _ => (si_range2 (by rfl) z.fr_range se_int (se_v (pv 0)))) (fun _ _ _ _ _ => (sg_name sc.nd (by rfl) (by first | exact Or.inl rfl | exact Or.inr rfl))) (fun _ _ _ _ _ => sts_nil) (fun _ _ _ _ _ => (se_tup (sa_cons se_str (sa_cons (se_v (pv 4)) (sa_cons (se_v (pv 3)) sa_nil))))))))))
  (ss_cons (ss_set sc.nd (by rfl) (by first | exact Or.inl rfl | exact Or.inr rfl) (zb_add cf (po_v (pv 2)) (po_e (se_fr (so_lc (by rfl) sc.nd (si_range1 (by rfl) z.fr_range (se_v (pv 1))) (own := [("j", 4)]) (blk_of (by rfl)) (fun _ _ _ _ _ => (sg_name sc.nd (by rfl) (by first | exact Or.inl rfl | exact Or.inr rfl))) (fun _ _ _ _ _ => sts_nil) (fun _ _ _ _ _ => (se_tup (sa_cons se_str (sa_cons (se_v (pv 4)) sa_nil)))))))))
  (ss_one (ss_ret (zb_add cf (po_v (pv 2)) (po_e (se_lst (sa_cons (se_tup (sa_cons se_str sa_nil)) (sa_cons (se_tup (sa_cons se_str sa_nil)) (sa_cons (se_tup (sa_cons se_str sa_nil)) sa_nil))))))))))))
theorem sc_p_is_deed : FnScope ["value", "base", "rows", "word", "part"] ["value", "base", "rows"] (defScope (top 19)) := ⟨rfl, rfl, rfl, by decide +kernel, rfl, by decide +kernel, by decide +kernel⟩
theorem ok_p_is_deed {Pr : Program} {w : World} {K : PySem.W.Frag} {mg : PySem.Str → Option Value} {base : Heap} {a : Addr} {fd : FuncData} (cf : Cf K (ca K)) (z : Gf K mg) (hcal_is_integer : Cal Pr w K mg base (ca K) 1 "is_integer" ["value"] f_p_is_integer)
    (F : FunD K "is_deed" "is_deed" (defArgs (top 19)) (defBody (top 19)) (defScope (top 19)) [] [] a fd) : FnOk Pr w K mg base (L2.CX Pr w) 2 a fd ["value", "base", "rows"] (spE K (ca K) f_p_is_deed) :=
  have sc := sc_p_is_deed
  fnED (N := ["value", "base", "rows", "word", "part"]) (P := []) (b := b_p_is_deed) F sc fun cdv A outer s H E hr =>
  (ss_cons (ss_if (st_or (st_not (st_tru cf (po_e (se_isi cf (T := "tuple") (by decide +kernel) (by rfl) z.fr_isinstance (by rfl) z.fr_tuple (by decide +kernel) boot_isinstance (po_v (pv 0)))))) (st_or (zt_eqD cf hr (po_e (zf_len cf z.fr_len (sp_cons (po_v (pv 0)) sp_nil))) (po_e se_int)) (st_or1 (st_not (st_tru cf (po_e (se_isi cf (T := "str") (by decide +kernel) (by rfl) z.fr_isinstance (by rfl) z.fr_str (by decide +kernel) boot_isinstance (po_e (se_ix cf (po_v (pv 0)) (po_e se_int)))))))))).pt (ss_one (ss_ret se_bl)) ss_nil)
  (ss_cons (ss_if (st_not (st_tru cf (po_e (zf_all cf (by rfl) z.fr_all (sp_cons (po_e (se_fr (so_lc (by rfl) sc.nd (si_e (se_sl (se_v (pv 0)) (pl_some se_int) pl_none)) (own := [("part", 4)]) (blk_of (by rfl)) (fun _ _ _ _ _ => (sg_name sc.nd (by rfl) (by first | exact Or.inl rfl | exact Or.inr rfl))) (fun _ _ _ _ _ => sts_nil) (fun _ _ _ _ _ => (zc_call hcal_is_integer hr Ev.takes0 (sg_cons (ag_e (se_v (pv 4))) sg_nil)))))) sp_nil))))) (ss_one (ss_ret se_bl)) ss_nil)
  (ss_cons (ss_set sc.nd (by rfl) (by first | exact Or.inl rfl | exact Or.inr rfl) (se_ix cf (po_v (pv 0)) (po_e se_int)))
  (ss_cons (ss_if (zt_inD cf hr (po_v (pv 3)) (po_e (zc_glob z.co_PLAIN z.cr_PLAIN))) (ss_one (ss_ret (zb_eq cf hr (po_e (zf_len cf z.fr_len (sp_cons (po_v (pv 0)) sp_nil))) (po_e se_int)))) ss_nil)
  (ss_cons (ss_if (zt_eqD cf hr (po_v (pv 3)) (po_e se_str)) (ss_one (ss_ret (se_and (zb_eq cf hr (po_e (zf_len cf z.fr_len (sp_cons (po_v (pv 0)) sp_nil))) (po_e se_int)) (se_one (se_chain op_le ok_IB op_lt ok_IB se_int (se_ix cf (po_v (pv 0)) (po_e se_int)) (se_v (pv 1))))))) ss_nil)
  (ss_cons (ss_if (zt_eqD cf hr (po_v (pv 3)) (po_e se_str)) (ss_one (ss_ret (se_and (zb_eq cf hr (po_e (zf_len cf z.fr_len (sp_cons (po_v (pv 0)) sp_nil))) (po_e se_int)) (se_one (se_chain op_le ok_IB op_lt ok_IB se_int (se_ix cf (po_v (pv 0)) (po_e se_int)) (se_v (pv 2))))))) ss_nil)
  (ss_one (ss_ret (se_and (zb_eq cf hr (po_v (pv 3)) (po_e se_str)) (se_and (zb_eq cf hr (po_e (zf_len cf z.fr_len (sp_cons (po_v (pv 0)) sp_nil))) (po_e se_int)) (se_and (se_chain op_le ok_IB op_lt ok_IB se_int (se_ix cf (po_v (pv 0)) (po_e se_int)) (se_v (pv 2))) (se_one (se_chain op_le ok_IB op_lt ok_IB se_int (se_ix cf (po_v (pv 0)) (po_e se_int)) (se_v (pv 1)))))))))))))))
theorem sc_p_number_of_columns : FnScope ["base", "rows", "many", "j"] ["base", "rows"] (defScope (top 31)) := ⟨rfl, rfl, rfl, by decide +kernel, rfl, by decide +kernel, by decide +kernel⟩
theorem ok_p_number_of_columns {Pr : Program} {w : World} {K : PySem.W.Frag} {mg : PySem.Str → Option Value} {base : Heap} {a : Addr} {fd : FuncData} (cf : Cf K (ca K)) (z : Gf K mg)
    (F : FunD K "number_of_columns" "number_of_columns" (defArgs (top 31)) (defBody (top 31)) (defScope (top 31)) [] [] a fd) : FnOk Pr w K mg base (L2.CX Pr w) 1 a fd ["base", "rows"] (spE K (ca K) f_p_number_of_columns) :=
  have sc := sc_p_number_of_columns
  fnED (N := ["base", "rows", "many", "j"]) (P := []) (b := b_p_number_of_columns) F sc fun cdv A outer s H E hr =>
  (ss_cons (ss_set sc.nd (by rfl) (by first | exact Or.inl rfl | exact Or.inr rfl) se_int)
  (ss_cons (ss_for psX (by rfl) (si_range1 (by rfl) z.fr_range (se_v (pv 1))) (sg_name sc.nd (by rfl) (by first | exact Or.inl rfl | exact Or.inr rfl)) (ss_one (ss_set sc.nd (by rfl) (by first | exact Or.inl rfl | exact Or.inr rfl) (zb_mul cf (po_v (pv 2)) (po_v (pv 0))))))
  (ss_one (ss_ret (se_v (pv 2))))))
theorem sc_m_Kind_zinitz : FnScope ["self", "base", "rows", "deeds", "most", "held", "deed"] ["self", "base", "rows", "deeds", "most"] (defScope (sub 32 0)) := ⟨rfl, rfl, rfl, by decide +kernel, rfl, by decide +kernel, by decide +kernel⟩
theorem ok_m_Kind_zinitz {Pr : Program} {w : World} {K : PySem.W.Frag} {mg : PySem.Str → Option Value} {base : Heap} {a : Addr} {fd : FuncData} (cf : Cf K (ca K)) (z : Gf K mg) (hcal_all_deeds : Cal Pr w K mg base (ca K) 1 "all_deeds" ["base", "rows"] f_p_all_deeds) (hcal_is_deed : Cal Pr w K mg base (ca K) 2 "is_deed" ["value", "base", "rows"] f_p_is_deed) (hcal_is_integer : Cal Pr w K mg base (ca K) 1 "is_integer" ["value"] f_p_is_integer) (hcal_number_of_columns : Cal Pr w K mg base (ca K) 1 "number_of_columns" ["base", "rows"] f_p_number_of_columns)
    (F : FunD K "__init__" "Kind.__init__" (defArgs (sub 32 0)) (defBody (sub 32 0)) (defScope (sub 32 0)) [] [] a fd) : FnOk Pr w K mg base (L2.CX Pr w) 3 a fd ["self", "base", "rows", "deeds", "most"] (spE K (ca K) f_m_Kind_zinitz) :=
  have sc := sc_m_Kind_zinitz
  fnED (N := ["self", "base", "rows", "deeds", "most", "held", "deed"]) (P := [0]) (b := b_m_Kind_zinitz) F sc fun cdv A outer s H E hr =>
  (ss_cons (ss_if (st_or (st_not (st_tru cf (po_e (zc_call hcal_is_integer hr tkX (sg_cons (ag_e (se_v (pv 1))) sg_nil))))) (st_or1 (st_not (st_chain op_le ok_IB op_le ok_IB se_int (se_v (pv 1)) se_int)))).pt (ss_one ss_never) ss_nil)
  (ss_cons (ss_if (st_or (st_not (st_tru cf (po_e (zc_call hcal_is_integer hr tkX (sg_cons (ag_e (se_v (pv 2))) sg_nil))))) (st_or1 (st_not (st_chain op_le ok_IB op_le ok_IB se_int (se_v (pv 2)) se_int)))).pt (ss_one ss_never) ss_nil)
  (ss_cons (ss_if (zt_gt cf (po_e (zc_call hcal_number_of_columns hr tkX (sg_cons (ag_e (se_v (pv 1))) (sg_cons (ag_e (se_v (pv 2))) sg_nil)))) (po_e (zc_glob z.co_MOST_COLUMNS z.cr_MOST_COLUMNS))) (ss_one ss_never) ss_nil)
  (ss_cons (ss_if (st_or (st_not (st_tru cf (po_e (se_isi cf (T := "list") (by decide +kernel) (by rfl) z.fr_isinstance (by rfl) z.fr_list (by decide +kernel) boot_isinstance (po_v (pv 3)))))) (st_or1 (st_not (st_tru cf (po_e (zf_all cf (by rfl) z.fr_all (sp_cons (po_e (se_fr (so_lc (by rfl) sc.nd (si_e (se_v (pv 3))) (own := [("deed", 6)]) (blk_of (by rfl)) (fun _ _ _ _ _ => (sg_name sc.nd (by rfl) (by first | exact Or.inl rfl | exact Or.inr rfl))) (fun _ _ _ _ _ => sts_nil) (fun _ _ _ _ _ => (zc_call hcal_is_deed hr Ev.takes0 (sg_cons (ag_e (se_v (pv 6))) (sg_cons (ag_e (se_v (pv 1))) (sg_cons (ag_e (se_v (pv 2))) sg_nil)))))))) sp_nil))))))).pt (ss_one ss_never) ss_nil)
  (ss_cons (by first | exact ss_set sc.nd (by rfl) (by first | exact Or.inl rfl | exact Or.inr rfl) (se_fr (so_lc (by rfl) sc.nd (si_e (zc_call hcal_all_deeds hr tkX (sg_cons (ag_e (se_v (pv 1))) (sg_cons (ag_e (se_v (pv 2))) sg_nil)))) (own := [("deed", 6)]) (blk_of (by rfl)) (fun _ _ _ _ _ => (sg_name sc.nd (by rfl) (by first | exact Or.inl rfl | exact Or.inr rfl))) (fun _ _ _ _ _ => (sts_one (zt_inD cf hr (po_v (pv 6)) (po_v (pv 3))))) (fun _ _ _ _ _ => (se_v (pv 6))))) | exact ss_setLc true (by rfl) sc.nd (by rfl) (by rfl) (by rfl) (si_e (zc_call hcal_all_deeds hr tkX (sg_cons (ag_e (se_v (pv 1))) (sg_cons (ag_e (se_v (pv 2))) sg_nil)))) (own := [("deed", 6)]) (blk_of (by rfl)) (fun _ _ _ _ _ => (sg_name sc.nd (by rfl) (by first | exact Or.inl rfl | exact Or.inr rfl))) (fun _ _ _ _ _ => (sts_one (zt_inD cf hr (po_v (pv 6)) (po_v (pv 3))))) (fun _ _ _ _ _ => (se_v (pv 6))))
  (ss_cons (ss_if (st_or (zt_neD cf hr (po_e (zf_len cf z.fr_len (sp_cons (po_v (pv 5)) sp_nil))) (po_e (zf_len cf z.fr_len (sp_cons (po_v (pv 3)) sp_nil)))) (st_or1 (st_not (st_chain op_le ok_IB op_le ok_IB se_int (zf_len cf z.fr_len (sp_cons (po_v (pv 5)) sp_nil)) (zc_glob z.co_MOST_DEEDS z.cr_MOST_DEEDS))))).pt (ss_one ss_never) ss_nil)
  (ss_cons (ss_if (st_or (st_not (st_tru cf (po_e (zc_call hcal_is_integer hr tkX (sg_cons (ag_e (se_v (pv 4))) sg_nil))))) (st_or1 (st_not (st_chain op_le ok_IB op_le ok_IB se_int (se_v (pv 4)) se_int)))).pt (ss_one ss_never) ss_nil)
  (ss_cons (ss_fld cf (caOf_fld (by decide +kernel)) (pv 0) (se_v (pv 1)))
  (ss_cons (ss_fld cf (caOf_fld (by decide +kernel)) (pv 0) (se_v (pv 2)))
  (ss_cons (ss_fld cf (caOf_fld (by decide +kernel)) (pv 0) (se_v (pv 5)))
  (ss_one (ss_fld cf (caOf_fld (by decide +kernel)) (pv 0) (se_v (pv 4))))))))))))))
theorem sc_p_check_lot : FnScope ["lot", "place", "divisor"] ["lot"] (defScope (top 34)) := ⟨rfl, rfl, rfl, by decide +kernel, rfl, by decide +kernel, by decide +kernel⟩
theorem ok_p_check_lot {Pr : Program} {w : World} {K : PySem.W.Frag} {mg : PySem.Str → Option Value} {base : Heap} {a : Addr} {fd : FuncData} (cf : Cf K (ca K)) (z : Gf K mg)
    (F : FunD K "check_lot" "check_lot" (defArgs (top 34)) (defBody (top 34)) (defScope (top 34)) [] [] a fd) : FnOk Pr w K mg base (L2.CX Pr w) 1 a fd ["lot"] (spE K (ca K) f_p_check_lot) :=
  have sc := sc_p_check_lot
  fnED (N := ["lot", "place", "divisor"]) (P := []) (b := b_p_check_lot) F sc fun cdv A outer s H E hr =>
  (ss_cons (ss_if (st_not (st_tru cf (po_e (se_isi cf (T := "list") (by decide +kernel) (by rfl) z.fr_isinstance (by rfl) z.fr_list (by decide +kernel) boot_isinstance (po_v (pv 0)))))) (ss_one ss_never) ss_nil)
  (ss_one (ss_for psX (by rfl) (si_range1 (by rfl) z.fr_range (zf_len cf z.fr_len (sp_cons (po_v (pv 0)) sp_nil))) (sg_name sc.nd (by rfl) (by first | exact Or.inl rfl | exact Or.inr rfl)) (ss_cons (ss_set sc.nd (by rfl) (by first | exact Or.inl rfl | exact Or.inr rfl) (se_ix cf (po_v (pv 0)) (po_v (pv 1))))
  (ss_cons (ss_if (st_or (st_not (st_tru cf (po_e (se_isi cf (T := "int") (by decide +kernel) (by rfl) z.fr_isinstance (by rfl) z.fr_int (by decide +kernel) boot_isinstance (po_v (pv 2)))))) (st_or (st_tru cf (po_e (se_isi cf (T := "bool") (by decide +kernel) (by rfl) z.fr_isinstance (by rfl) z.fr_bool (by decide +kernel) boot_isinstance (po_v (pv 2))))) (st_or1 (zt_lt cf (po_v (pv 2)) (po_e se_int))))).pt (ss_one ss_never) ss_nil)
  (ss_one (ss_if (zt_inD cf hr (po_v (pv 2)) (po_e (se_sl (se_v (pv 0)) pl_none (pl_some (se_v (pv 1)))))) (ss_one ss_never) ss_nil)))))))
theorem sc_m_Ledger_zinitz : FnScope ["self", "kind", "lot"] ["self", "kind", "lot"] (defScope (sub 45 0)) := ⟨rfl, rfl, rfl, by decide +kernel, rfl, by decide +kernel, by decide +kernel⟩
theorem ok_m_Ledger_zinitz {Pr : Program} {w : World} {K : PySem.W.Frag} {mg : PySem.Str → Option Value} {base : Heap} {a : Addr} {fd : FuncData} (cf : Cf K (ca K)) (z : Gf K mg) (hcal_check_lot : Cal Pr w K mg base (ca K) 1 "check_lot" ["lot"] f_p_check_lot)
    (F : FunD K "__init__" "Ledger.__init__" (defArgs (sub 45 0)) (defBody (sub 45 0)) (defScope (sub 45 0)) [] [] a fd) : FnOk Pr w K mg base (L2.CX Pr w) 2 a fd ["self", "kind", "lot"] (spE K (ca K) f_m_Ledger_zinitz) :=
  have sc := sc_m_Ledger_zinitz
  fnED (N := ["self", "kind", "lot"]) (P := [0]) (b := b_m_Ledger_zinitz) F sc fun cdv A outer s H E hr =>
  (ss_cons (ss_drop (zc_call hcal_check_lot hr tkX (sg_cons (ag_e (se_v (pv 2))) sg_nil)))
  (ss_cons (ss_fld cf (caOf_fld (by decide +kernel)) (pv 0) (se_v (pv 1)))
  (ss_cons (ss_fld cf (caOf_fld (by decide +kernel)) (pv 0) (zf_list cf z.fr_list (sp_cons (po_v (pv 2)) sp_nil)))
  (ss_one (ss_fldO cf (caOf_fld (by decide +kernel)) (pv 0) (so_lst sa_nil))))))
theorem sc_m_Kind_base : FnScope ["self"] ["self"] (defScope (sub 32 1)) := ⟨rfl, rfl, rfl, by decide +kernel, rfl, by decide +kernel, by decide +kernel⟩
theorem ok_m_Kind_base {Pr : Program} {w : World} {K : PySem.W.Frag} {mg : PySem.Str → Option Value} {base : Heap} {a : Addr} {fd : FuncData} (cf : Cf K (ca K)) (z : Gf K mg)
    (F : FunD K "base" "Kind.base" (defArgs (sub 32 1)) (defBody (sub 32 1)) (defScope (sub 32 1)) [] [] a fd) : FnOk Pr w K mg base (L2.CX Pr w) 1 a fd ["self"] (spE K (ca K) f_m_Kind_base) :=
  have sc := sc_m_Kind_base
  fnED (N := ["self"]) (P := []) (b := b_m_Kind_base) F sc fun cdv A outer s H E hr =>
  (ss_one (ss_ret (se_fld cf (po_v (pv 0)))))
theorem sc_m_Kind_rows : FnScope ["self"] ["self"] (defScope (sub 32 2)) := ⟨rfl, rfl, rfl, by decide +kernel, rfl, by decide +kernel, by decide +kernel⟩
theorem ok_m_Kind_rows {Pr : Program} {w : World} {K : PySem.W.Frag} {mg : PySem.Str → Option Value} {base : Heap} {a : Addr} {fd : FuncData} (cf : Cf K (ca K)) (z : Gf K mg)
    (F : FunD K "rows" "Kind.rows" (defArgs (sub 32 2)) (defBody (sub 32 2)) (defScope (sub 32 2)) [] [] a fd) : FnOk Pr w K mg base (L2.CX Pr w) 1 a fd ["self"] (spE K (ca K) f_m_Kind_rows) :=
  have sc := sc_m_Kind_rows
  fnED (N := ["self"]) (P := []) (b := b_m_Kind_rows) F sc fun cdv A outer s H E hr =>
  (ss_one (ss_ret (se_fld cf (po_v (pv 0)))))
theorem sc_m_Kind_most : FnScope ["self"] ["self"] (defScope (sub 32 4)) := ⟨rfl, rfl, rfl, by decide +kernel, rfl, by decide +kernel, by decide +kernel⟩
theorem ok_m_Kind_most {Pr : Program} {w : World} {K : PySem.W.Frag} {mg : PySem.Str → Option Value} {base : Heap} {a : Addr} {fd : FuncData} (cf : Cf K (ca K)) (z : Gf K mg)
    (F : FunD K "most" "Kind.most" (defArgs (sub 32 4)) (defBody (sub 32 4)) (defScope (sub 32 4)) [] [] a fd) : FnOk Pr w K mg base (L2.CX Pr w) 1 a fd ["self"] (spE K (ca K) f_m_Kind_most) :=
  have sc := sc_m_Kind_most
  fnED (N := ["self"]) (P := []) (b := b_m_Kind_most) F sc fun cdv A outer s H E hr =>
  (ss_one (ss_ret (se_fld cf (po_v (pv 0)))))
theorem sc_p_beginning : FnScope ["kind", "lot", "divisor"] ["kind", "lot"] (defScope (top 37)) := ⟨rfl, rfl, rfl, by decide +kernel, rfl, by decide +kernel, by decide +kernel⟩
theorem ok_p_beginning {Pr : Program} {w : World} {K : PySem.W.Frag} {mg : PySem.Str → Option Value} {base : Heap} {a : Addr} {fd : FuncData} (cf : Cf K (ca K)) (z : Gf K mg) (hcal_check_lot : Cal Pr w K mg base (ca K) 1 "check_lot" ["lot"] f_p_check_lot) (hprp_Kind_most : Prp Pr w K mg base (ca K) 1 "Kind" "most" ["self"] f_m_Kind_most)
    (F : FunD K "beginning" "beginning" (defArgs (top 37)) (defBody (top 37)) (defScope (top 37)) [] [] a fd) : FnOk Pr w K mg base (L2.CX Pr w) 3 a fd ["kind", "lot"] (spE K (ca K) f_p_beginning) :=
  have sc := sc_p_beginning
  fnED (N := ["kind", "lot", "divisor"]) (P := []) (b := b_p_beginning) F sc fun cdv A outer s H E hr =>
  (ss_cons (ss_drop (zc_call hcal_check_lot hr tkX (sg_cons (ag_e (se_v (pv 1))) sg_nil)))
  (ss_one (ss_ret (se_tup (sa_cons (zc_prop hprp_Kind_most hr (ag_e (se_v (pv 0)))) (sa_cons se_non (sa_cons se_non (sa_cons se_int (sa_cons se_int (sa_cons se_int (sa_cons (zf_tuple cf z.fr_tuple (sp_cons (po_e (se_fr (so_lc (by rfl) sc.nd (si_e (se_v (pv 1))) (own := [("divisor", 2)]) (blk_of (by rfl)) (fun _ _ _ _ _ => (sg_name sc.nd (by rfl) (by first | exact Or.inl rfl | exact Or.inr rfl))) (fun _ _ _ _ _ => sts_nil) (fun _ _ _ _ _ => (se_tup (sa_cons se_int (sa_cons se_int (sa_cons se_int sa_nil)))))))) sp_nil)) sa_nil)))))))))))
theorem sc_m_Ledger_standing : FnScope ["self"] ["self"] (defScope (sub 45 3)) := ⟨rfl, rfl, rfl, by decide +kernel, rfl, by decide +kernel, by decide +kernel⟩
theorem ok_m_Ledger_standing {Pr : Program} {w : World} {K : PySem.W.Frag} {mg : PySem.Str → Option Value} {base : Heap} {a : Addr} {fd : FuncData} (cf : Cf K (ca K)) (z : Gf K mg) (hcal_beginning : Cal Pr w K mg base (ca K) 3 "beginning" ["kind", "lot"] f_p_beginning)
    (F : FunD K "standing" "Ledger.standing" (defArgs (sub 45 3)) (defBody (sub 45 3)) (defScope (sub 45 3)) [] [] a fd) : FnOk Pr w K mg base (L2.CX Pr w) 4 a fd ["self"] (spE K (ca K) f_m_Ledger_standing) :=
  have sc := sc_m_Ledger_standing
  fnED (N := ["self"]) (P := [0]) (b := b_m_Ledger_standing) F sc fun cdv A outer s H E hr =>
  (ss_cons (ss_if (zt_eqD cf hr (po_e (zf_len cf z.fr_len (sp_cons (po_h (pv 0)) sp_nil))) (po_e se_int)) (ss_one (ss_ret (zc_call hcal_beginning hr tkX (sg_cons (ag_e (se_fld cf (po_v (pv 0)))) (sg_cons (ag_e (se_fld cf (po_v (pv 0)))) sg_nil))))) ss_nil)
  (ss_one (ss_ret (se_ix cf (po_e (se_ixH cf (pv 0) neg1)) (po_e se_int)))))
theorem sc_m_Kind_deeds : FnScope ["self"] ["self"] (defScope (sub 32 3)) := ⟨rfl, rfl, rfl, by decide +kernel, rfl, by decide +kernel, by decide +kernel⟩
theorem ok_m_Kind_deeds {Pr : Program} {w : World} {K : PySem.W.Frag} {mg : PySem.Str → Option Value} {base : Heap} {a : Addr} {fd : FuncData} (cf : Cf K (ca K)) (z : Gf K mg)
    (F : FunD K "deeds" "Kind.deeds" (defArgs (sub 32 3)) (defBody (sub 32 3)) (defScope (sub 32 3)) [] [] a fd) : FnOk Pr w K mg base (L2.CX Pr w) 1 a fd ["self"] (spE K (ca K) f_m_Kind_deeds) :=
  have sc := sc_m_Kind_deeds
  fnED (N := ["self"]) (P := []) (b := b_m_Kind_deeds) F sc fun cdv A outer s H E hr =>
  (ss_one (ss_ret (zf_list cf z.fr_list (sp_cons (po_e (se_fld cf (po_v (pv 0)))) sp_nil))))
theorem sc_p_copy_rows : FnScope ["kind", "deed"] ["kind"] (defScope (top 35)) := ⟨rfl, rfl, rfl, by decide +kernel, rfl, by decide +kernel, by decide +kernel⟩
theorem ok_p_copy_rows {Pr : Program} {w : World} {K : PySem.W.Frag} {mg : PySem.Str → Option Value} {base : Heap} {a : Addr} {fd : FuncData} (cf : Cf K (ca K)) (z : Gf K mg) (hprp_Kind_deeds : Prp Pr w K mg base (ca K) 1 "Kind" "deeds" ["self"] f_m_Kind_deeds)
    (F : FunD K "copy_rows" "copy_rows" (defArgs (top 35)) (defBody (top 35)) (defScope (top 35)) [] [] a fd) : FnOk Pr w K mg base (L2.CX Pr w) 3 a fd ["kind"] (spE K (ca K) f_p_copy_rows) :=
  have sc := sc_p_copy_rows
  fnED (N := ["kind", "deed"]) (P := []) (b := b_p_copy_rows) F sc fun cdv A outer s H E hr =>
  (ss_one (ss_ret (se_fr (so_lc (by rfl) sc.nd (si_e (zc_prop hprp_Kind_deeds hr (ag_e (se_v (pv 0))))) (own := [("deed", 1)]) (blk_of (by rfl)) (fun _ _ _ _ _ => (sg_name sc.nd (by rfl) (by first | exact Or.inl rfl | exact Or.inr rfl))) (fun _ _ _ _ _ => (sts_one (zt_eqD cf hr (po_e (se_ix cf (po_v (pv 1)) (po_e se_int))) (po_e se_str)))) (fun _ _ _ _ _ => (se_ix cf (po_v (pv 1)) (po_e se_int)))))))
theorem sc_p_done_rightly : FnScope ["base", "standing", "column", "total", "figure", "carry", "waiting"] ["base", "standing", "column"] (defScope (top 40)) := ⟨rfl, rfl, rfl, by decide +kernel, rfl, by decide +kernel, by decide +kernel⟩
theorem ok_p_done_rightly {Pr : Program} {w : World} {K : PySem.W.Frag} {mg : PySem.Str → Option Value} {base : Heap} {a : Addr} {fd : FuncData} (cf : Cf K (ca K)) (z : Gf K mg)
    (F : FunD K "done_rightly" "done_rightly" (defArgs (top 40)) (defBody (top 40)) (defScope (top 40)) [] [] a fd) : FnOk Pr w K mg base (L2.CX Pr w) 1 a fd ["base", "standing", "column"] (spE K (ca K) f_p_done_rightly) :=
  have sc := sc_p_done_rightly
  fnED (N := ["base", "standing", "column", "total", "figure", "carry", "waiting"]) (P := []) (b := b_p_done_rightly) F sc fun cdv A outer s H E hr =>
  (ss_cons (by first | exact ss_par2 (by rfl) sc.nd (by rfl) (by rfl) (by decide) (by rfl) (by rfl) (sg_cons (ag_e (se_ix cf (po_v (pv 1)) (po_e se_int))) (sg_cons (ag_e (se_ix cf (po_v (pv 1)) (po_e se_int))) sg_nil)) (by rfl) | exact ss_parT (by rfl) (is := [6, 5]) (pgs_cons (pg_name sc.nd (by rfl) (by first | exact Or.inl rfl | exact Or.inr rfl) (by first | exact .inl rfl | exact .inr rfl)) (pgs_cons (pg_name sc.nd (by rfl) (by first | exact Or.inl rfl | exact Or.inr rfl) (by first | exact .inl rfl | exact .inr rfl)) pgs_nil)) (sg_cons (ag_e (se_ix cf (po_v (pv 1)) (po_e se_int))) (sg_cons (ag_e (se_ix cf (po_v (pv 1)) (po_e se_int))) sg_nil)))
  (ss_cons (ss_set sc.nd (by rfl) (by first | exact Or.inl rfl | exact Or.inr rfl) (zf_sum cf (by rfl) z.fr_sum (sp_cons (po_v (pv 2)) sp_nil)))
  (ss_cons (ss_set sc.nd (by rfl) (by first | exact Or.inl rfl | exact Or.inr rfl) (zb_mod cf (po_e (zb_add cf (po_v (pv 3)) (po_v (pv 5)))) (po_v (pv 0))))
  (ss_cons (ss_set sc.nd (by rfl) (by first | exact Or.inl rfl | exact Or.inr rfl) (zb_fdiv cf (po_e (zb_add cf (po_v (pv 3)) (po_v (pv 5)))) (po_v (pv 0))))
  (ss_cons (ss_if (zt_is cf (po_v (pv 6)) (po_e se_non)) (ss_one (ss_ret (se_tup (sa_cons (se_v (pv 3)) (sa_cons se_int (sa_cons (se_v (pv 5)) (sa_cons se_non sa_nil))))))) ss_nil)
  (ss_one (ss_ret (se_tup (sa_cons (zb_add cf (po_e (zb_mul cf (po_e (zb_sub cf (po_v (pv 4)) (po_v (pv 6)))) (po_e (zb_sub cf (po_e se_int) (po_v (pv 0)))))) (po_e (zb_mul cf (po_v (pv 3)) (po_v (pv 0))))) (sa_cons se_int (sa_cons (se_v (pv 5)) (sa_cons se_non sa_nil))))))))))))
theorem sc_p_power : FnScope ["base", "count", "result", "turn"] ["base", "count"] (defScope (top 36)) := ⟨rfl, rfl, rfl, by decide +kernel, rfl, by decide +kernel, by decide +kernel⟩
theorem ok_p_power {Pr : Program} {w : World} {K : PySem.W.Frag} {mg : PySem.Str → Option Value} {base : Heap} {a : Addr} {fd : FuncData} (cf : Cf K (ca K)) (z : Gf K mg)
    (F : FunD K "power" "power" (defArgs (top 36)) (defBody (top 36)) (defScope (top 36)) [] [] a fd) : FnOk Pr w K mg base (L2.CX Pr w) 1 a fd ["base", "count"] (spE K (ca K) f_p_power) :=
  have sc := sc_p_power
  fnED (N := ["base", "count", "result", "turn"]) (P := []) (b := b_p_power) F sc fun cdv A outer s H E hr =>
  (ss_cons (ss_set sc.nd (by rfl) (by first | exact Or.inl rfl | exact Or.inr rfl) se_int)
  (ss_cons (ss_for psX (by rfl) (si_range1 (by rfl) z.fr_range (se_v (pv 1))) (sg_name sc.nd (by rfl) (by first | exact Or.inl rfl | exact Or.inr rfl)) (ss_one (ss_set sc.nd (by rfl) (by first | exact Or.inl rfl | exact Or.inr rfl) (zb_mul cf (po_v (pv 2)) (po_v (pv 0))))))
  (ss_one (ss_ret (se_v (pv 2))))))
theorem sc_p_near_behind : FnScope ["base", "gap", "near", "factor", "total", "count", "above", "below", "steps", "divisor"] ["base", "gap", "near", "factor", "total", "count"] (defScope (top 42)) := ⟨rfl, rfl, rfl, by decide +kernel, rfl, by decide +kernel, by decide +kernel⟩
theorem ok_p_near_behind {Pr : Program} {w : World} {K : PySem.W.Frag} {mg : PySem.Str → Option Value} {base : Heap} {a : Addr} {fd : FuncData} (cf : Cf K (ca K)) (z : Gf K mg) (hcal_power : Cal Pr w K mg base (ca K) 1 "power" ["base", "count"] f_p_power)
    (F : FunD K "near_behind" "near_behind" (defArgs (top 42)) (defBody (top 42)) (defScope (top 42)) [] [] a fd) : FnOk Pr w K mg base (L2.CX Pr w) 2 a fd ["base", "gap", "near", "factor", "total", "count"] (spE K (ca K) f_p_near_behind) :=
  have sc := sc_p_near_behind
  fnED (N := ["base", "gap", "near", "factor", "total", "count", "above", "below", "steps", "divisor"]) (P := []) (b := b_p_near_behind) F sc fun cdv A outer s H E hr =>
  (ss_cons (ss_if (zt_is cf (po_v (pv 2)) (po_e se_non)) (ss_one (ss_ret se_non)) ss_nil)
  (ss_cons (ss_set sc.nd (by rfl) (by first | exact Or.inl rfl | exact Or.inr rfl) (se_if (zt_gt cf (po_v (pv 1)) (po_e se_int)) (se_v (pv 1)) se_int))
  (ss_cons (ss_set sc.nd (by rfl) (by first | exact Or.inl rfl | exact Or.inr rfl) (se_if (zt_lt cf (po_v (pv 1)) (po_e se_int)) (zb_sub cf (po_e se_int) (po_v (pv 1))) se_int))
  (ss_cons (ss_set sc.nd (by rfl) (by first | exact Or.inl rfl | exact Or.inr rfl) (zb_sub cf (po_e (zb_add cf (po_v (pv 2)) (po_e (zb_mul cf (po_v (pv 3)) (po_e (zc_call hcal_power hr tkX (sg_cons (ag_e (se_v (pv 0))) (sg_cons (ag_e (se_v (pv 6))) sg_nil)))))))) (po_e (zb_mul cf (po_v (pv 4)) (po_e (zc_call hcal_power hr tkX (sg_cons (ag_e (se_v (pv 0))) (sg_cons (ag_e (se_v (pv 7))) sg_nil))))))))
  (ss_cons (ss_set sc.nd (by rfl) (by first | exact Or.inl rfl | exact Or.inr rfl) (zb_add cf (po_v (pv 7)) (po_e se_int)))
  (ss_cons (ss_if (zt_lt cf (po_e (zb_add cf (po_v (pv 6)) (po_v (pv 5)))) (po_v (pv 8))) (ss_one (ss_set sc.nd (by rfl) (by first | exact Or.inl rfl | exact Or.inr rfl) (zb_add cf (po_v (pv 6)) (po_v (pv 5))))) ss_nil)
  (ss_cons (ss_set sc.nd (by rfl) (by first | exact Or.inl rfl | exact Or.inr rfl) (zc_call hcal_power hr tkX (sg_cons (ag_e (se_v (pv 0))) (sg_cons (ag_e (se_v (pv 8))) sg_nil))))
  (ss_cons (ss_if (zt_neD cf hr (po_e (zb_mod cf (po_v (pv 2)) (po_v (pv 9)))) (po_e se_int)) (ss_one (ss_ret se_non)) ss_nil)
  (ss_one (ss_ret (zb_fdiv cf (po_v (pv 2)) (po_v (pv 9)))))))))))))
theorem sc_p_next_standing : FnScope ["base", "copies", "lot", "standing", "column", "deed", "total", "near", "behind_rests", "place", "before", "left", "waiting", "carry", "gap", "rests", "outcome", "factor", "count", "divisor", "rest", "scale", "written", "row"] ["base", "copies", "lot", "standing", "column", "deed"] (defScope (top 43)) := ⟨rfl, rfl, rfl, by decide +kernel, rfl, by decide +kernel, by decide +kernel⟩
theorem ok_p_next_standing {Pr : Program} {w : World} {K : PySem.W.Frag} {mg : PySem.Str → Option Value} {base : Heap} {a : Addr} {fd : FuncData} (cf : Cf K (ca K)) (z : Gf K mg) (hcal_done_rightly : Cal Pr w K mg base (ca K) 1 "done_rightly" ["base", "standing", "column"] f_p_done_rightly) (hcal_near_behind : Cal Pr w K mg base (ca K) 2 "near_behind" ["base", "gap", "near", "factor", "total", "count"] f_p_near_behind) (hcal_power : Cal Pr w K mg base (ca K) 1 "power" ["base", "count"] f_p_power)
    (F : FunD K "next_standing" "next_standing" (defArgs (top 43)) (defBody (top 43)) (defScope (top 43)) [] [] a fd) : FnOk Pr w K mg base (L2.CX Pr w) 3 a fd ["base", "copies", "lot", "standing", "column", "deed"] (spE K (ca K) f_p_next_standing) :=
  have sc := sc_p_next_standing
  fnED (N := ["base", "copies", "lot", "standing", "column", "deed", "total", "near", "behind_rests", "place", "before", "left", "waiting", "carry", "gap", "rests", "outcome", "factor", "count", "divisor", "rest", "scale", "written", "row"]) (P := []) (b := b_p_next_standing) F sc fun cdv A outer s H E hr =>
  (ss_cons (ss_asg (se_v (pv 3)) (sg_tup (by rfl) (sgs_cons (sg_name sc.nd (by rfl) (by first | exact Or.inl rfl | exact Or.inr rfl)) (sgs_cons (sg_name sc.nd (by rfl) (by first | exact Or.inl rfl | exact Or.inr rfl)) (sgs_cons (sg_name sc.nd (by rfl) (by first | exact Or.inl rfl | exact Or.inr rfl)) (sgs_cons (sg_name sc.nd (by rfl) (by first | exact Or.inl rfl | exact Or.inr rfl)) (sgs_cons (sg_name sc.nd (by rfl) (by first | exact Or.inl rfl | exact Or.inr rfl)) (sgs_cons (sg_name sc.nd (by rfl) (by first | exact Or.inl rfl | exact Or.inr rfl)) (sgs_cons (sg_name sc.nd (by rfl) (by first | exact Or.inl rfl | exact Or.inr rfl)) sgs_nil)))))))))
  (ss_cons (ss_if (zt_is cf (po_v (pv 5)) (po_e se_non)) (ss_one (ss_set sc.nd (by rfl) (by first | exact Or.inl rfl | exact Or.inr rfl) (zc_call hcal_done_rightly hr tkX (sg_cons (ag_e (se_v (pv 0))) (sg_cons (ag_e (se_v (pv 3))) (sg_cons (ag_e (se_v (pv 4))) sg_nil)))))) (ss_cons (ss_set sc.nd (by rfl) (by first | exact Or.inl rfl | exact Or.inr rfl) (se_never pe_false))
  (ss_one (ss_set sc.nd (by rfl) (by first | exact Or.inl rfl | exact Or.inr rfl) (zb_sub cf (po_v (pv 11)) (po_e se_int))))))
  (ss_cons (ss_if (zt_is cf (po_v (pv 16)) (po_e se_non)) (ss_one (ss_ret se_non)) ss_nil)
  (ss_cons (ss_asg (se_v (pv 16)) (sg_tup (by rfl) (sgs_cons (sg_name sc.nd (by rfl) (by first | exact Or.inl rfl | exact Or.inr rfl)) (sgs_cons (sg_name sc.nd (by rfl) (by first | exact Or.inl rfl | exact Or.inr rfl)) (sgs_cons (sg_name sc.nd (by rfl) (by first | exact Or.inl rfl | exact Or.inr rfl)) (sgs_cons (sg_name sc.nd (by rfl) (by first | exact Or.inl rfl | exact Or.inr rfl)) sgs_nil))))))
  (ss_cons (ss_set sc.nd (by rfl) (by first | exact Or.inl rfl | exact Or.inr rfl) (zf_sum cf (by rfl) z.fr_sum (sp_cons (po_v (pv 4)) sp_nil)))
  (ss_cons (ss_set sc.nd (by rfl) (by first | exact Or.inl rfl | exact Or.inr rfl) (zc_call hcal_near_behind hr tkX (sg_cons (ag_e (se_v (pv 0))) (sg_cons (ag_e (se_v (pv 14))) (sg_cons (ag_e (se_v (pv 7))) (sg_cons (ag_e (se_v (pv 17))) (sg_cons (ag_e (se_v (pv 6))) (sg_cons (ag_e (se_v (pv 18))) sg_nil))))))))
  (ss_cons (ss_setO sc.nd (by rfl) (by first | exact Or.inl rfl | exact Or.inr rfl) (so_lst sa_nil))
  (ss_cons (ss_for psX (by rfl) (si_range1 (by rfl) z.fr_range (zf_len cf z.fr_len (sp_cons (po_v (pv 2)) sp_nil))) (sg_name sc.nd (by rfl) (by first | exact Or.inl rfl | exact Or.inr rfl)) (ss_cons (ss_set sc.nd (by rfl) (by first | exact Or.inl rfl | exact Or.inr rfl) (se_ix cf (po_v (pv 2)) (po_v (pv 9))))
  (ss_cons (ss_asg (se_ix cf (po_v (pv 15)) (po_v (pv 9))) (sg_tup (by rfl) (sgs_cons (sg_name sc.nd (by rfl) (by first | exact Or.inl rfl | exact Or.inr rfl)) (sgs_cons (sg_name sc.nd (by rfl) (by first | exact Or.inl rfl | exact Or.inr rfl)) (sgs_cons (sg_name sc.nd (by rfl) (by first | exact Or.inl rfl | exact Or.inr rfl)) sgs_nil)))))
  (ss_cons (ss_set sc.nd (by rfl) (by first | exact Or.inl rfl | exact Or.inr rfl) (zb_mod cf (po_e (zb_sub cf (po_e (zb_add cf (po_v (pv 20)) (po_e (zb_mul cf (po_v (pv 17)) (po_v (pv 22)))))) (po_e (zb_mul cf (po_v (pv 6)) (po_v (pv 21)))))) (po_v (pv 19))))
  (ss_one (ss_drop (zm_append (pv 8) (sa_cons (se_tup (sa_cons (se_v (pv 20)) (sa_cons (zb_mod cf (po_e (zb_mul cf (po_v (pv 21)) (po_v (pv 0)))) (po_v (pv 19))) (sa_cons (zb_mod cf (po_e (zb_mul cf (po_v (pv 22)) (po_e (zc_call hcal_power hr tkX (sg_cons (ag_e (se_v (pv 0))) (sg_cons (ag_e (se_v (pv 18))) sg_nil)))))) (po_v (pv 19))) sa_nil)))) sa_nil))))))))
  (ss_cons (ss_set sc.nd (by rfl) (by first | exact Or.inl rfl | exact Or.inr rfl) (zf_tuple cf z.fr_tuple (sp_cons (po_e (se_fr (so_lc (by rfl) sc.nd (si_e (se_v (pv 1))) (own := [("row", 23)]) (blk_of (by rfl)) (fun _ _ _ _ _ => (sg_name sc.nd (by rfl) (by first | exact Or.inl rfl | exact Or.inr rfl))) (fun _ _ _ _ _ => sts_nil) (fun _ _ _ _ _ => (se_ix cf (po_v (pv 4)) (po_v (pv 23))))))) sp_nil)))
  (ss_one (ss_ret (se_tup (sa_cons (se_v (pv 11)) (sa_cons (se_v (pv 12)) (sa_cons (se_v (pv 10)) (sa_cons (se_v (pv 13)) (sa_cons (zb_sub cf (po_e (zb_add cf (po_v (pv 14)) (po_v (pv 18)))) (po_e se_int)) (sa_cons (se_v (pv 7)) (sa_cons (zf_tuple cf z.fr_tuple (sp_cons (po_v (pv 8)) sp_nil)) sa_nil)))))))))))))))))))
theorem sc_m_Ledger_put : FnScope ["self", "column", "deed", "kind", "result"] ["self", "column", "deed"] (defScope (sub 45 6)) := ⟨rfl, rfl, rfl, by decide +kernel, rfl, by decide +kernel, by decide +kernel⟩
theorem ok_m_Ledger_put {Pr : Program} {w : World} {K : PySem.W.Frag} {mg : PySem.Str → Option Value} {base : Heap} {a : Addr} {fd : FuncData} (cf : Cf K (ca K)) (z : Gf K mg) (hcal_copy_rows : Cal Pr w K mg base (ca K) 3 "copy_rows" ["kind"] f_p_copy_rows) (hcal_is_column : Cal Pr w K mg base (ca K) 2 "is_column" ["value", "base", "rows"] f_p_is_column) (hcal_next_standing : Cal Pr w K mg base (ca K) 3 "next_standing" ["base", "copies", "lot", "standing", "column", "deed"] f_p_next_standing) (hprp_Kind_base : Prp Pr w K mg base (ca K) 1 "Kind" "base" ["self"] f_m_Kind_base) (hprp_Kind_rows : Prp Pr w K mg base (ca K) 1 "Kind" "rows" ["self"] f_m_Kind_rows) (hprp_Ledger_standing : Prp Pr w K mg base (ca K) 4 "Ledger" "standing" ["self"] f_m_Ledger_standing)
    (F : FunD K "put" "Ledger.put" (defArgs (sub 45 6)) (defBody (sub 45 6)) (defScope (sub 45 6)) [] [("deed", V.non)] a fd) : FnOk Pr w K mg base (L2.CX Pr w) 6 a fd ["self", "column", "deed"] (spE K (ca K) f_m_Ledger_put) :=
  have sc := sc_m_Ledger_put
  fnED (N := ["self", "column", "deed", "kind", "result"]) (P := [0]) (b := b_m_Ledger_put) F sc fun cdv A outer s H E hr =>
  (ss_cons (ss_set sc.nd (by rfl) (by first | exact Or.inl rfl | exact Or.inr rfl) (se_fld cf (po_v (pv 0))))
  (ss_cons (ss_if (st_not (st_tru cf (po_e (zc_call hcal_is_column hr tkX (sg_cons (ag_e (se_v (pv 1))) (sg_cons (ag_e (zc_prop hprp_Kind_base hr (ag_e (se_v (pv 3))))) (sg_cons (ag_e (zc_prop hprp_Kind_rows hr (ag_e (se_v (pv 3))))) sg_nil))))))) (ss_one ss_never) ss_nil)
  (ss_cons (ss_if (st_and (zt_isn cf (po_v (pv 2)) (po_e se_non)) (st_and1 st_never)).pt (ss_one ss_never) ss_nil)
  (ss_cons (ss_set sc.nd (by rfl) (by first | exact Or.inl rfl | exact Or.inr rfl) (zc_call hcal_next_standing hr tkX (sg_cons (ag_e (zc_prop hprp_Kind_base hr (ag_e (se_v (pv 3))))) (sg_cons (ag_e (zc_call hcal_copy_rows hr tkX (sg_cons (ag_e (se_v (pv 3))) sg_nil))) (sg_cons (ag_e (se_fld cf (po_v (pv 0)))) (sg_cons (ag_e (zc_prop hprp_Ledger_standing hr (ag_mu (pv 0)))) (sg_cons (ag_e (se_v (pv 1))) (sg_cons (ag_e (se_v (pv 2))) sg_nil))))))))
  (ss_cons (ss_if (zt_is cf (po_v (pv 4)) (po_e se_non)) (ss_one ss_never) ss_nil)
  (ss_one (ss_drop (zm_appendF cf (by rfl) (pv 0) (sa_cons (se_tup (sa_cons (se_v (pv 1)) (sa_cons (se_v (pv 2)) (sa_cons (se_v (pv 4)) sa_nil)))) sa_nil)))))))))
theorem sc_m_Ledger_sheet : FnScope ["self", "entry"] ["self"] (defScope (sub 45 1)) := ⟨rfl, rfl, rfl, by decide +kernel, rfl, by decide +kernel, by decide +kernel⟩
theorem ok_m_Ledger_sheet {Pr : Program} {w : World} {K : PySem.W.Frag} {mg : PySem.Str → Option Value} {base : Heap} {a : Addr} {fd : FuncData} (cf : Cf K (ca K)) (z : Gf K mg) (hmak_Sheet : Mak Pr w K mg base (ca K) 3 "Sheet" ["self", "base", "rows", "columns"] f_m_Sheet_zinitz) (hprp_Kind_base : Prp Pr w K mg base (ca K) 1 "Kind" "base" ["self"] f_m_Kind_base) (hprp_Kind_rows : Prp Pr w K mg base (ca K) 1 "Kind" "rows" ["self"] f_m_Kind_rows)
    (F : FunD K "sheet" "Ledger.sheet" (defArgs (sub 45 1)) (defBody (sub 45 1)) (defScope (sub 45 1)) [] [] a fd) : FnOk Pr w K mg base (L2.CX Pr w) 5 a fd ["self"] (spE K (ca K) f_m_Ledger_sheet) :=
  have sc := sc_m_Ledger_sheet
  fnED (N := ["self", "entry"]) (P := [0]) (b := b_m_Ledger_sheet) F sc fun cdv A outer s H E hr =>
  (ss_one (ss_ret (se_fr (zc_make hmak_Sheet hr tkX (sg_cons (ag_e (zc_prop hprp_Kind_base hr (ag_e (se_fld cf (po_v (pv 0)))))) (sg_cons (ag_e (zc_prop hprp_Kind_rows hr (ag_e (se_fld cf (po_v (pv 0)))))) (sg_cons (ag_e (se_fr (so_lcH cf (by rfl) sc.nd (pv 0) (own := [("entry", 1)]) (blk_of (by rfl)) (fun _ _ _ _ _ => (sg_name sc.nd (by rfl) (by first | exact Or.inl rfl | exact Or.inr rfl))) (fun _ _ _ _ _ => sts_nil) (fun _ _ _ _ _ => (se_ix cf (po_v (pv 1)) (po_e se_int)))))) sg_nil)))))))
theorem sc_m_Ledger_slips : FnScope ["self", "at", "entry"] ["self"] (defScope (sub 45 2)) := ⟨rfl, rfl, rfl, by decide +kernel, rfl, by decide +kernel, by decide +kernel⟩
theorem ok_m_Ledger_slips {Pr : Program} {w : World} {K : PySem.W.Frag} {mg : PySem.Str → Option Value} {base : Heap} {a : Addr} {fd : FuncData} (cf : Cf K (ca K)) (z : Gf K mg)
    (F : FunD K "slips" "Ledger.slips" (defArgs (sub 45 2)) (defBody (sub 45 2)) (defScope (sub 45 2)) [] [] a fd) : FnOk Pr w K mg base (L2.CX Pr w) 1 a fd ["self"] (spE K (ca K) f_m_Ledger_slips) :=
  have sc := sc_m_Ledger_slips
  fnED (N := ["self", "at", "entry"]) (P := [0]) (b := b_m_Ledger_slips) F sc fun cdv A outer s H E hr =>
  (ss_one (ss_ret (se_fr (so_lcHe cf (by rfl) sc.nd (by rfl) z.fr_enumerate (pv 0) (own := [("at", 1), ("entry", 2)]) (blk_of (by rfl)) (fun _ _ _ _ _ => (sg_tup (by rfl) (sgs_cons (sg_name sc.nd (by rfl) (by first | exact Or.inl rfl | exact Or.inr rfl)) (sgs_cons (sg_name sc.nd (by rfl) (by first | exact Or.inl rfl | exact Or.inr rfl)) sgs_nil)))) (fun _ _ _ _ _ => (sts_one (zt_isn cf (po_e (se_ix cf (po_v (pv 2)) (po_e se_int))) (po_e se_non)))) (fun _ _ _ _ _ => (se_tup (sa_cons (se_v (pv 1)) (sa_cons (se_ix cf (po_v (pv 2)) (po_e se_int)) sa_nil))))))))
theorem sc_m_Ledger_waits : FnScope ["self"] ["self"] (defScope (sub 45 4)) := ⟨rfl, rfl, rfl, by decide +kernel, rfl, by decide +kernel, by decide +kernel⟩
theorem ok_m_Ledger_waits {Pr : Program} {w : World} {K : PySem.W.Frag} {mg : PySem.Str → Option Value} {base : Heap} {a : Addr} {fd : FuncData} (cf : Cf K (ca K)) (z : Gf K mg) (hprp_Ledger_standing : Prp Pr w K mg base (ca K) 4 "Ledger" "standing" ["self"] f_m_Ledger_standing)
    (F : FunD K "waits" "Ledger.waits" (defArgs (sub 45 4)) (defBody (sub 45 4)) (defScope (sub 45 4)) [] [] a fd) : FnOk Pr w K mg base (L2.CX Pr w) 6 a fd ["self"] (spE K (ca K) f_m_Ledger_waits) :=
  have sc := sc_m_Ledger_waits
  fnED (N := ["self"]) (P := [0]) (b := b_m_Ledger_waits) F sc fun cdv A outer s H E hr =>
  (ss_one (ss_ret (zb_isn cf (po_e (se_ix cf (po_e (zc_prop hprp_Ledger_standing hr (ag_mu (pv 0)))) (po_e se_int))) (po_e se_non))))
theorem sc_m_Sheet_base : FnScope ["self"] ["self"] (defScope (sub 15 1)) := ⟨rfl, rfl, rfl, by decide +kernel, rfl, by decide +kernel, by decide +kernel⟩
theorem ok_m_Sheet_base {Pr : Program} {w : World} {K : PySem.W.Frag} {mg : PySem.Str → Option Value} {base : Heap} {a : Addr} {fd : FuncData} (cf : Cf K (ca K)) (z : Gf K mg)
    (F : FunD K "base" "Sheet.base" (defArgs (sub 15 1)) (defBody (sub 15 1)) (defScope (sub 15 1)) [] [] a fd) : FnOk Pr w K mg base (L2.CX Pr w) 1 a fd ["self"] (spE K (ca K) f_m_Sheet_base) :=
  have sc := sc_m_Sheet_base
  fnED (N := ["self"]) (P := []) (b := b_m_Sheet_base) F sc fun cdv A outer s H E hr =>
  (ss_one (ss_ret (se_fld cf (po_v (pv 0)))))
theorem sc_m_Sheet_columns : FnScope ["self"] ["self"] (defScope (sub 15 3)) := ⟨rfl, rfl, rfl, by decide +kernel, rfl, by decide +kernel, by decide +kernel⟩
theorem ok_m_Sheet_columns {Pr : Program} {w : World} {K : PySem.W.Frag} {mg : PySem.Str → Option Value} {base : Heap} {a : Addr} {fd : FuncData} (cf : Cf K (ca K)) (z : Gf K mg)
    (F : FunD K "columns" "Sheet.columns" (defArgs (sub 15 3)) (defBody (sub 15 3)) (defScope (sub 15 3)) [] [] a fd) : FnOk Pr w K mg base (L2.CX Pr w) 1 a fd ["self"] (spE K (ca K) f_m_Sheet_columns) :=
  have sc := sc_m_Sheet_columns
  fnED (N := ["self"]) (P := []) (b := b_m_Sheet_columns) F sc fun cdv A outer s H E hr =>
  (ss_one (ss_ret (zf_list cf z.fr_list (sp_cons (po_e (se_fld cf (po_v (pv 0)))) sp_nil))))
theorem sc_m_Adding_zinitz : FnScope ["self", "sheet"] ["self", "sheet"] (defScope (sub 24 0)) := ⟨rfl, rfl, rfl, by decide +kernel, rfl, by decide +kernel, by decide +kernel⟩
theorem ok_m_Adding_zinitz {Pr : Program} {w : World} {K : PySem.W.Frag} {mg : PySem.Str → Option Value} {base : Heap} {a : Addr} {fd : FuncData} (cf : Cf K (ca K)) (z : Gf K mg) (hprp_Sheet_base : Prp Pr w K mg base (ca K) 1 "Sheet" "base" ["self"] f_m_Sheet_base) (hprp_Sheet_columns : Prp Pr w K mg base (ca K) 1 "Sheet" "columns" ["self"] f_m_Sheet_columns)
    (F : FunD K "__init__" "Adding.__init__" (defArgs (sub 24 0)) (defBody (sub 24 0)) (defScope (sub 24 0)) [] [] a fd) : FnOk Pr w K mg base (L2.CX Pr w) 3 a fd ["self", "sheet"] (spE K (ca K) f_m_Adding_zinitz) :=
  have sc := sc_m_Adding_zinitz
  fnED (N := ["self", "sheet"]) (P := [0]) (b := b_m_Adding_zinitz) F sc fun cdv A outer s H E hr =>
  (ss_cons (ss_fld cf (caOf_fld (by decide +kernel)) (pv 0) (zc_prop hprp_Sheet_base hr (ag_e (se_v (pv 1)))))
  (ss_cons (ss_fld cf (caOf_fld (by decide +kernel)) (pv 0) (zc_prop hprp_Sheet_columns hr (ag_e (se_v (pv 1)))))
  (ss_cons (ss_fld cf (caOf_fld (by decide +kernel)) (pv 0) se_int)
  (ss_cons (ss_fld cf (caOf_fld (by decide +kernel)) (pv 0) (se_lst sa_nil))
  (ss_cons (ss_fld cf (caOf_fld (by decide +kernel)) (pv 0) se_int)
  (ss_one (ss_fld cf (caOf_fld (by decide +kernel)) (pv 0) se_non)))))))
theorem sc_p_taken : FnScope ["base", "column", "before", "deed", "figures", "j"] ["base", "column", "before", "deed"] (defScope (top 20)) := ⟨rfl, rfl, rfl, by decide +kernel, rfl, by decide +kernel, by decide +kernel⟩
theorem ok_p_taken {Pr : Program} {w : World} {K : PySem.W.Frag} {mg : PySem.Str → Option Value} {base : Heap} {a : Addr} {fd : FuncData} (cf : Cf K (ca K)) (z : Gf K mg)
    (F : FunD K "taken" "taken" (defArgs (top 20)) (defBody (top 20)) (defScope (top 20)) [] [] a fd) : FnOk Pr w K mg base (L2.CX Pr w) 1 a fd ["base", "column", "before", "deed"] (spE K (ca K) f_p_taken) :=
  have sc := sc_p_taken
  fnED (N := ["base", "column", "before", "deed", "figures", "j"]) (P := []) (b := b_p_taken) F sc fun cdv A outer s H E hr =>
  (ss_cons (ss_if (st_or (zt_is cf (po_v (pv 3)) (po_e se_non)) (st_or1 (zt_notInD cf hr (po_e (se_ix cf (po_v (pv 3)) (po_e se_int))) (po_e (se_tup (sa_cons se_str (sa_cons se_str sa_nil))))))).pt (ss_one (ss_ret (se_v (pv 1)))) ss_nil)
  (ss_cons (ss_setO sc.nd (by rfl) (by first | exact Or.inl rfl | exact Or.inr rfl) (zo_list cf z.fr_list (sp_cons (po_v (pv 1)) sp_nil)))
  (ss_cons (ss_set sc.nd (by rfl) (by first | exact Or.inl rfl | exact Or.inr rfl) (se_ix cf (po_v (pv 3)) (po_e se_int)))
  (ss_cons (ss_if (zt_eqD cf hr (po_e (se_ix cf (po_v (pv 3)) (po_e se_int))) (po_e se_str)) (ss_one (ss_item (zb_mod cf (po_e (zb_add cf (po_e (se_ix cf (po_v (pv 4)) (po_v (pv 5)))) (po_e (se_ix cf (po_v (pv 3)) (po_e se_int))))) (po_v (pv 0))) (pv 4) (se_v (pv 5)))) (ss_one (ss_item (se_ix cf (po_v (pv 2)) (po_v (pv 5))) (pv 4) (se_v (pv 5)))))
  (ss_one (ss_ret (zf_tuple cf z.fr_tuple (sp_cons (po_v (pv 4)) sp_nil))))))))
theorem sc_p_done : FnScope ["base", "column", "before", "carry", "deed", "word", "total", "figure", "new_carry"] ["base", "column", "before", "carry", "deed"] (defScope (top 21)) := ⟨rfl, rfl, rfl, by decide +kernel, rfl, by decide +kernel, by decide +kernel⟩
theorem ok_p_done {Pr : Program} {w : World} {K : PySem.W.Frag} {mg : PySem.Str → Option Value} {base : Heap} {a : Addr} {fd : FuncData} (cf : Cf K (ca K)) (z : Gf K mg) (hcal_taken : Cal Pr w K mg base (ca K) 1 "taken" ["base", "column", "before", "deed"] f_p_taken)
    (F : FunD K "done" "done" (defArgs (top 21)) (defBody (top 21)) (defScope (top 21)) [] [] a fd) : FnOk Pr w K mg base (L2.CX Pr w) 2 a fd ["base", "column", "before", "carry", "deed"] (spE K (ca K) f_p_done) :=
  have sc := sc_p_done
  fnED (N := ["base", "column", "before", "carry", "deed", "word", "total", "figure", "new_carry"]) (P := []) (b := b_p_done) F sc fun cdv A outer s H E hr =>
  (ss_cons (ss_set sc.nd (by rfl) (by first | exact Or.inl rfl | exact Or.inr rfl) se_non)
  (ss_cons (ss_if (zt_isn cf (po_v (pv 4)) (po_e se_non)) (ss_one (ss_set sc.nd (by rfl) (by first | exact Or.inl rfl | exact Or.inr rfl) (se_ix cf (po_v (pv 4)) (po_e se_int)))) ss_nil)
  (ss_cons (ss_if (zt_eqD cf hr (po_v (pv 5)) (po_e se_str)) (ss_one (ss_ret (se_tup (sa_cons (se_lst sa_nil) (sa_cons (se_v (pv 3)) sa_nil))))) ss_nil)
  (ss_cons (ss_if (st_and (zt_eqD cf hr (po_v (pv 5)) (po_e se_str)) (st_and1 (zt_is cf (po_v (pv 2)) (po_e se_non)))).pt (ss_one (ss_ret se_non)) ss_nil)
  (ss_cons (ss_set sc.nd (by rfl) (by first | exact Or.inl rfl | exact Or.inr rfl) (zb_add cf (po_e (zf_sum cf (by rfl) z.fr_sum (sp_cons (po_e (zc_call hcal_taken hr tkX (sg_cons (ag_e (se_v (pv 0))) (sg_cons (ag_e (se_v (pv 1))) (sg_cons (ag_e (se_v (pv 2))) (sg_cons (ag_e (se_v (pv 4))) sg_nil)))))) sp_nil))) (po_v (pv 3))))
  (ss_cons (ss_set sc.nd (by rfl) (by first | exact Or.inl rfl | exact Or.inr rfl) (zb_mod cf (po_v (pv 6)) (po_v (pv 0))))
  (ss_cons (ss_set sc.nd (by rfl) (by first | exact Or.inl rfl | exact Or.inr rfl) (zb_fdiv cf (po_v (pv 6)) (po_v (pv 0))))
  (ss_cons (ss_if (zt_eqD cf hr (po_v (pv 5)) (po_e se_str)) (ss_cons (ss_if (zt_eqD cf hr (po_v (pv 8)) (po_e se_int)) (ss_one (ss_ret se_non)) ss_nil)
  (ss_one (ss_ret (se_tup (sa_cons (se_lst (sa_cons (se_v (pv 7)) sa_nil)) (sa_cons se_int sa_nil)))))) ss_nil)
  (ss_cons (ss_if (zt_eqD cf hr (po_v (pv 5)) (po_e se_str)) (ss_one (ss_ret (se_tup (sa_cons (se_lst (sa_cons (se_v (pv 7)) sa_nil)) (sa_cons (zb_add cf (po_v (pv 8)) (po_e se_int)) sa_nil))))) ss_nil)
  (ss_cons (ss_if (zt_eqD cf hr (po_v (pv 5)) (po_e se_str)) (ss_one (ss_ret (se_tup (sa_cons (se_lst (sa_cons (zb_mod cf (po_e (zb_add cf (po_v (pv 7)) (po_e (se_ix cf (po_v (pv 4)) (po_e se_int))))) (po_v (pv 0))) sa_nil)) (sa_cons (se_v (pv 8)) sa_nil))))) ss_nil)
  (ss_cons (ss_if (zt_eqD cf hr (po_v (pv 5)) (po_e se_str)) (ss_cons (ss_set sc.nd (by rfl) (by first | exact Or.inl rfl | exact Or.inr rfl) (zb_add cf (po_e (zf_sum cf (by rfl) z.fr_sum (sp_cons (po_v (pv 1)) sp_nil))) (po_v (pv 8))))
  (ss_one (ss_ret (se_tup (sa_cons (se_lst (sa_cons (se_v (pv 7)) (sa_cons (zb_mod cf (po_v (pv 6)) (po_v (pv 0))) sa_nil))) (sa_cons (zb_fdiv cf (po_v (pv 6)) (po_v (pv 0))) sa_nil)))))) ss_nil)
  (ss_one (ss_ret (se_tup (sa_cons (se_lst (sa_cons (se_v (pv 7)) sa_nil)) (sa_cons (se_v (pv 8)) sa_nil))))))))))))))))
theorem sc_m_Adding_do : FnScope ["self", "deed", "before", "found", "figures"] ["self", "deed"] (defScope (sub 24 2)) := ⟨rfl, rfl, rfl, by decide +kernel, rfl, by decide +kernel, by decide +kernel⟩
theorem ok_m_Adding_do {Pr : Program} {w : World} {K : PySem.W.Frag} {mg : PySem.Str → Option Value} {base : Heap} {a : Addr} {fd : FuncData} (cf : Cf K (ca K)) (z : Gf K mg) (hcal_done : Cal Pr w K mg base (ca K) 2 "done" ["base", "column", "before", "carry", "deed"] f_p_done)
    (F : FunD K "do" "Adding.do" (defArgs (sub 24 2)) (defBody (sub 24 2)) (defScope (sub 24 2)) [] [] a fd) : FnOk Pr w K mg base (L2.CX Pr w) 3 a fd ["self", "deed"] (spE K (ca K) f_m_Adding_do) :=
  have sc := sc_m_Adding_do
  fnED (N := ["self", "deed", "before", "found", "figures"]) (P := [0]) (b := b_m_Adding_do) F sc fun cdv A outer s H E hr =>
  (ss_cons (ss_set sc.nd (by rfl) (by first | exact Or.inl rfl | exact Or.inr rfl) se_non)
  (ss_cons (ss_if (zt_gt cf (po_e (se_fld cf (po_v (pv 0)))) (po_e se_int)) (ss_one (ss_set sc.nd (by rfl) (by first | exact Or.inl rfl | exact Or.inr rfl) (se_ix cf (po_e (se_fld cf (po_v (pv 0)))) (po_e (zb_sub cf (po_e (se_fld cf (po_v (pv 0)))) (po_e se_int)))))) ss_nil)
  (ss_cons (ss_if (st_and (zt_eqD cf hr (po_v (pv 1)) (po_e (se_tup (sa_cons se_str sa_nil)))) (st_and1 (zt_eqD cf hr (po_e (zb_add cf (po_e (se_fld cf (po_v (pv 0)))) (po_e se_int))) (po_e (zf_len cf z.fr_len (sp_cons (po_e (se_fld cf (po_v (pv 0)))) sp_nil)))))).pt (ss_one (ss_ret se_bl)) ss_nil)
  (ss_cons (ss_set sc.nd (by rfl) (by first | exact Or.inl rfl | exact Or.inr rfl) (zc_call hcal_done hr tkX (sg_cons (ag_e (se_fld cf (po_v (pv 0)))) (sg_cons (ag_e (se_ix cf (po_e (se_fld cf (po_v (pv 0)))) (po_e (se_fld cf (po_v (pv 0)))))) (sg_cons (ag_e (se_v (pv 2))) (sg_cons (ag_e (se_fld cf (po_v (pv 0)))) (sg_cons (ag_e (se_v (pv 1))) sg_nil)))))))
  (ss_cons (ss_if (zt_is cf (po_v (pv 3)) (po_e se_non)) (ss_one (ss_ret se_bl)) ss_nil)
  (ss_cons (ss_asg (se_v (pv 3)) (sg_tup (by rfl) (sgs_cons (sg_name sc.nd (by rfl) (by first | exact Or.inl rfl | exact Or.inr rfl)) (sgs_cons (sg_fld cf (caOf_fld (by decide +kernel)) (pv 0)) sgs_nil))))
  (ss_cons (ss_inc cf (caOf_fld (by decide +kernel)) (pv 0))
  (ss_cons (ss_if (zt_isn cf (po_e (se_fld cf (po_v (pv 0)))) (po_e se_non)) (ss_cons (ss_set sc.nd (by rfl) (by first | exact Or.inl rfl | exact Or.inr rfl) (zb_add cf (po_v (pv 4)) (po_e (se_lst (sa_cons (se_fld cf (po_v (pv 0))) sa_nil)))))
  (ss_one (ss_fld cf (caOf_fld (by decide +kernel)) (pv 0) se_non))) (ss_one (ss_if (zt_eqD cf hr (po_v (pv 1)) (po_e (se_tup (sa_cons se_str sa_nil)))) (ss_cons (ss_fld cf (caOf_fld (by decide +kernel)) (pv 0) (se_ix cf (po_v (pv 4)) (po_e se_int)))
  (ss_one (ss_set sc.nd (by rfl) (by first | exact Or.inl rfl | exact Or.inr rfl) (se_lst sa_nil)))) ss_nil)))
  (ss_cons (ss_fld cf (caOf_fld (by decide +kernel)) (pv 0) (zb_add cf (po_e (se_fld cf (po_v (pv 0)))) (po_v (pv 4))))
  (ss_one (ss_ret se_bl)))))))))))
theorem sc_m_Adding_do_until : FnScope ["self", "column"] ["self", "column"] (defScope (sub 24 3)) := ⟨rfl, rfl, rfl, by decide +kernel, rfl, by decide +kernel, by decide +kernel⟩
theorem ok_m_Adding_do_until {Pr : Program} {w : World} {K : PySem.W.Frag} {mg : PySem.Str → Option Value} {base : Heap} {a : Addr} {fd : FuncData} (cf : Cf K (ca K)) (z : Gf K mg) (hmet_Adding_do : Met Pr w K mg base (ca K) 3 "Adding" "do" ["self", "deed"] f_m_Adding_do)
    (F : FunD K "do_until" "Adding.do_until" (defArgs (sub 24 3)) (defBody (sub 24 3)) (defScope (sub 24 3)) [] [] a fd) : FnOk Pr w K mg base (L2.CX Pr w) 4 a fd ["self", "column"] (spE K (ca K) f_m_Adding_do_until) :=
  have sc := sc_m_Adding_do_until
  fnED (N := ["self", "column"]) (P := [0]) (b := b_m_Adding_do_until) F sc fun cdv A outer s H E hr =>
  (ss_one (ss_while psX (zt_lt cf (po_e (se_fld cf (po_v (pv 0)))) (po_v (pv 1))) (ss_one (ss_drop (zc_meth hmet_Adding_do hr tkX (ag_mu (pv 0)) (sg_cons (ag_e se_non) sg_nil))))))
theorem sc_m_Adding_free : FnScope ["self"] ["self"] (defScope (sub 24 1)) := ⟨rfl, rfl, rfl, by decide +kernel, rfl, by decide +kernel, by decide +kernel⟩
theorem ok_m_Adding_free {Pr : Program} {w : World} {K : PySem.W.Frag} {mg : PySem.Str → Option Value} {base : Heap} {a : Addr} {fd : FuncData} (cf : Cf K (ca K)) (z : Gf K mg)
    (F : FunD K "free" "Adding.free" (defArgs (sub 24 1)) (defBody (sub 24 1)) (defScope (sub 24 1)) [] [] a fd) : FnOk Pr w K mg base (L2.CX Pr w) 1 a fd ["self"] (spE K (ca K) f_m_Adding_free) :=
  have sc := sc_m_Adding_free
  fnED (N := ["self"]) (P := [0]) (b := b_m_Adding_free) F sc fun cdv A outer s H E hr =>
  (ss_cons (ss_if (zt_is cf (po_e (se_fld cf (po_v (pv 0)))) (po_e se_non)) (ss_one (ss_ret (se_fld cf (po_v (pv 0))))) ss_nil)
  (ss_one (ss_ret (zb_add cf (po_e (se_fld cf (po_v (pv 0)))) (po_e se_int)))))
theorem sc_m_Written_zinitz : FnScope ["self", "base", "figures", "last"] ["self", "base", "figures", "last"] (defScope (sub 23 0)) := ⟨rfl, rfl, rfl, by decide +kernel, rfl, by decide +kernel, by decide +kernel⟩
theorem ok_m_Written_zinitz {Pr : Program} {w : World} {K : PySem.W.Frag} {mg : PySem.Str → Option Value} {base : Heap} {a : Addr} {fd : FuncData} (cf : Cf K (ca K)) (z : Gf K mg)
    (F : FunD K "__init__" "Written.__init__" (defArgs (sub 23 0)) (defBody (sub 23 0)) (defScope (sub 23 0)) [] [] a fd) : FnOk Pr w K mg base (L2.CX Pr w) 1 a fd ["self", "base", "figures", "last"] (spE K (ca K) f_m_Written_zinitz) :=
  have sc := sc_m_Written_zinitz
  fnED (N := ["self", "base", "figures", "last"]) (P := [0]) (b := b_m_Written_zinitz) F sc fun cdv A outer s H E hr =>
  (ss_cons (ss_fld cf (caOf_fld (by decide +kernel)) (pv 0) (se_v (pv 1)))
  (ss_cons (ss_fld cf (caOf_fld (by decide +kernel)) (pv 0) (zf_list cf z.fr_list (sp_cons (po_v (pv 2)) sp_nil)))
  (ss_one (ss_fld cf (caOf_fld (by decide +kernel)) (pv 0) (se_v (pv 3))))))
theorem sc_m_Adding_result : FnScope ["self"] ["self"] (defScope (sub 24 4)) := ⟨rfl, rfl, rfl, by decide +kernel, rfl, by decide +kernel, by decide +kernel⟩
theorem ok_m_Adding_result {Pr : Program} {w : World} {K : PySem.W.Frag} {mg : PySem.Str → Option Value} {base : Heap} {a : Addr} {fd : FuncData} (cf : Cf K (ca K)) (z : Gf K mg) (hmak_Written : Mak Pr w K mg base (ca K) 1 "Written" ["self", "base", "figures", "last"] f_m_Written_zinitz) (hmet_Adding_do_until : Met Pr w K mg base (ca K) 4 "Adding" "do_until" ["self", "column"] f_m_Adding_do_until)
    (F : FunD K "result" "Adding.result" (defArgs (sub 24 4)) (defBody (sub 24 4)) (defScope (sub 24 4)) [] [] a fd) : FnOk Pr w K mg base (L2.CX Pr w) 5 a fd ["self"] (spE K (ca K) f_m_Adding_result) :=
  have sc := sc_m_Adding_result
  fnED (N := ["self"]) (P := [0]) (b := b_m_Adding_result) F sc fun cdv A outer s H E hr =>
  (ss_cons (ss_drop (zc_meth hmet_Adding_do_until hr tkX (ag_mu (pv 0)) (sg_cons (ag_e (zf_len cf z.fr_len (sp_cons (po_e (se_fld cf (po_v (pv 0)))) sp_nil))) sg_nil)))
  (ss_one (ss_ret (se_fr (zc_make hmak_Written hr tkX (sg_cons (ag_e (se_fld cf (po_v (pv 0)))) (sg_cons (ag_e (se_fld cf (po_v (pv 0)))) (sg_cons (ag_e (se_fld cf (po_v (pv 0)))) sg_nil))))))))
theorem sc_m_Sheet_zlenz : FnScope ["self"] ["self"] (defScope (sub 15 5)) := ⟨rfl, rfl, rfl, by decide +kernel, rfl, by decide +kernel, by decide +kernel⟩
theorem ok_m_Sheet_zlenz {Pr : Program} {w : World} {K : PySem.W.Frag} {mg : PySem.Str → Option Value} {base : Heap} {a : Addr} {fd : FuncData} (cf : Cf K (ca K)) (z : Gf K mg)
    (F : FunD K "__len__" "Sheet.__len__" (defArgs (sub 15 5)) (defBody (sub 15 5)) (defScope (sub 15 5)) [] [] a fd) : FnOk Pr w K mg base (L2.CX Pr w) 1 a fd ["self"] (spE K (ca K) f_m_Sheet_zlenz) :=
  have sc := sc_m_Sheet_zlenz
  fnED (N := ["self"]) (P := []) (b := b_m_Sheet_zlenz) F sc fun cdv A outer s H E hr =>
  (ss_one (ss_ret (zf_len cf z.fr_len (sp_cons (po_e (se_fld cf (po_v (pv 0)))) sp_nil))))
theorem sc_m_Sheet_rows : FnScope ["self"] ["self"] (defScope (sub 15 2)) := ⟨rfl, rfl, rfl, by decide +kernel, rfl, by decide +kernel, by decide +kernel⟩
theorem ok_m_Sheet_rows {Pr : Program} {w : World} {K : PySem.W.Frag} {mg : PySem.Str → Option Value} {base : Heap} {a : Addr} {fd : FuncData} (cf : Cf K (ca K)) (z : Gf K mg)
    (F : FunD K "rows" "Sheet.rows" (defArgs (sub 15 2)) (defBody (sub 15 2)) (defScope (sub 15 2)) [] [] a fd) : FnOk Pr w K mg base (L2.CX Pr w) 1 a fd ["self"] (spE K (ca K) f_m_Sheet_rows) :=
  have sc := sc_m_Sheet_rows
  fnED (N := ["self"]) (P := []) (b := b_m_Sheet_rows) F sc fun cdv A outer s H E hr =>
  (ss_one (ss_ret (se_fld cf (po_v (pv 0)))))
theorem sc_p_is_slip : FnScope ["value", "sheet", "low"] ["value", "sheet", "low"] (defScope (top 25)) := ⟨rfl, rfl, rfl, by decide +kernel, rfl, by decide +kernel, by decide +kernel⟩
theorem ok_p_is_slip {Pr : Program} {w : World} {K : PySem.W.Frag} {mg : PySem.Str → Option Value} {base : Heap} {a : Addr} {fd : FuncData} (cf : Cf K (ca K)) (z : Gf K mg) (hcal_is_deed : Cal Pr w K mg base (ca K) 2 "is_deed" ["value", "base", "rows"] f_p_is_deed) (hcal_is_integer : Cal Pr w K mg base (ca K) 1 "is_integer" ["value"] f_p_is_integer) (hmet_Sheet_zlenz : Met Pr w K mg base (ca K) 1 "Sheet" "__len__" ["self"] f_m_Sheet_zlenz) (hprp_Sheet_base : Prp Pr w K mg base (ca K) 1 "Sheet" "base" ["self"] f_m_Sheet_base) (hprp_Sheet_rows : Prp Pr w K mg base (ca K) 1 "Sheet" "rows" ["self"] f_m_Sheet_rows)
    (F : FunD K "is_slip" "is_slip" (defArgs (top 25)) (defBody (top 25)) (defScope (top 25)) [] [] a fd) : FnOk Pr w K mg base (L2.CX Pr w) 3 a fd ["value", "sheet", "low"] (spE K (ca K) f_p_is_slip) :=
  have sc := sc_p_is_slip
  fnED (N := ["value", "sheet", "low"]) (P := []) (b := b_p_is_slip) F sc fun cdv A outer s H E hr =>
  (ss_cons (ss_if (st_or (st_not (st_tru cf (po_e (se_isi cf (T := "tuple") (by decide +kernel) (by rfl) z.fr_isinstance (by rfl) z.fr_tuple (by decide +kernel) boot_isinstance (po_v (pv 0)))))) (st_or (zt_neD cf hr (po_e (zf_len cf z.fr_len (sp_cons (po_v (pv 0)) sp_nil))) (po_e se_int)) (st_or1 (st_not (st_tru cf (po_e (zc_call hcal_is_integer hr tkX (sg_cons (ag_e (se_ix cf (po_v (pv 0)) (po_e se_int))) sg_nil)))))))).pt (ss_one (ss_ret se_bl)) ss_nil)
  (ss_one (ss_ret (se_and (se_chain op_le ok_IB op_lt ok_IB (se_v (pv 2)) (se_ix cf (po_v (pv 0)) (po_e se_int)) (zc_len hmet_Sheet_zlenz hr z.fr_len (se_v (pv 1)))) (se_one (zc_call hcal_is_deed hr tkX (sg_cons (ag_e (se_ix cf (po_v (pv 0)) (po_e se_int))) (sg_cons (ag_e (zc_prop hprp_Sheet_base hr (ag_e (se_v (pv 1))))) (sg_cons (ag_e (zc_prop hprp_Sheet_rows hr (ag_e (se_v (pv 1))))) sg_nil)))))))))
theorem sc_p_add_with : FnScope ["sheet", "slips", "adding", "index", "item"] ["sheet", "slips"] (defScope (top 27)) := ⟨rfl, rfl, rfl, by decide +kernel, rfl, by decide +kernel, by decide +kernel⟩
theorem ok_p_add_with {Pr : Program} {w : World} {K : PySem.W.Frag} {mg : PySem.Str → Option Value} {base : Heap} {a : Addr} {fd : FuncData} (cf : Cf K (ca K)) (z : Gf K mg) (hcal_is_slip : Cal Pr w K mg base (ca K) 3 "is_slip" ["value", "sheet", "low"] f_p_is_slip) (hmak_Adding : Mak Pr w K mg base (ca K) 3 "Adding" ["self", "sheet"] f_m_Adding_zinitz) (hmet_Adding_do : Met Pr w K mg base (ca K) 3 "Adding" "do" ["self", "deed"] f_m_Adding_do) (hmet_Adding_do_until : Met Pr w K mg base (ca K) 4 "Adding" "do_until" ["self", "column"] f_m_Adding_do_until) (hmet_Adding_free : Met Pr w K mg base (ca K) 1 "Adding" "free" ["self"] f_m_Adding_free) (hmet_Adding_result : Met Pr w K mg base (ca K) 5 "Adding" "result" ["self"] f_m_Adding_result)
    (F : FunD K "add_with" "add_with" (defArgs (top 27)) (defBody (top 27)) (defScope (top 27)) [] [] a fd) : FnOk Pr w K mg base (L2.CX Pr w) 6 a fd ["sheet", "slips"] (spE K (ca K) f_p_add_with) :=
  have sc := sc_p_add_with
  fnED (N := ["sheet", "slips", "adding", "index", "item"]) (P := []) (b := b_p_add_with) F sc fun cdv A outer s H E hr =>
  (ss_cons (ss_setO sc.nd (by rfl) (by first | exact Or.inl rfl | exact Or.inr rfl) (zc_make hmak_Adding hr tkX (sg_cons (ag_e (se_v (pv 0))) sg_nil)))
  (ss_cons (ss_for psX (by rfl) (si_enum (by rfl) z.fr_enumerate (se_v (pv 1))) (sg_tup (by rfl) (sgs_cons (sg_name sc.nd (by rfl) (by first | exact Or.inl rfl | exact Or.inr rfl)) (sgs_cons (sg_name sc.nd (by rfl) (by first | exact Or.inl rfl | exact Or.inr rfl)) sgs_nil))) (ss_cons (ss_if (st_not (st_tru cf (po_e (zc_call hcal_is_slip hr tkX (sg_cons (ag_e (se_v (pv 4))) (sg_cons (ag_e (se_v (pv 0))) (sg_cons (ag_e (zc_meth0 hmet_Adding_free hr tkX (ag_mu (pv 2)))) sg_nil))))))) (ss_one ss_never) ss_nil)
  (ss_cons (ss_drop (zc_meth hmet_Adding_do_until hr tkX (ag_mu (pv 2)) (sg_cons (ag_e (se_ix cf (po_v (pv 4)) (po_e se_int))) sg_nil)))
  (ss_one (ss_if (st_not (st_tru cf (po_e (zc_meth hmet_Adding_do hr tkX (ag_mu (pv 2)) (sg_cons (ag_e (se_ix cf (po_v (pv 4)) (po_e se_int))) sg_nil))))) (ss_one ss_never) ss_nil)))))
  (ss_one (ss_ret (zc_meth0 hmet_Adding_result hr tkX (ag_mu (pv 2)))))))
theorem sc_m_Ledger_result : FnScope ["self"] ["self"] (defScope (sub 45 8)) := ⟨rfl, rfl, rfl, by decide +kernel, rfl, by decide +kernel, by decide +kernel⟩
theorem ok_m_Ledger_result {Pr : Program} {w : World} {K : PySem.W.Frag} {mg : PySem.Str → Option Value} {base : Heap} {a : Addr} {fd : FuncData} (cf : Cf K (ca K)) (z : Gf K mg) (hcal_add_with : Cal Pr w K mg base (ca K) 6 "add_with" ["sheet", "slips"] f_p_add_with) (hprp_Ledger_sheet : Prp Pr w K mg base (ca K) 5 "Ledger" "sheet" ["self"] f_m_Ledger_sheet) (hprp_Ledger_slips : Prp Pr w K mg base (ca K) 1 "Ledger" "slips" ["self"] f_m_Ledger_slips) (hprp_Ledger_waits : Prp Pr w K mg base (ca K) 6 "Ledger" "waits" ["self"] f_m_Ledger_waits)
    (F : FunD K "result" "Ledger.result" (defArgs (sub 45 8)) (defBody (sub 45 8)) (defScope (sub 45 8)) [] [] a fd) : FnOk Pr w K mg base (L2.CX Pr w) 8 a fd ["self"] (spE K (ca K) f_m_Ledger_result) :=
  have sc := sc_m_Ledger_result
  fnED (N := ["self"]) (P := [0]) (b := b_m_Ledger_result) F sc fun cdv A outer s H E hr =>
  (ss_cons (ss_if (st_tru cf (po_e (zc_prop hprp_Ledger_waits hr (ag_mu (pv 0))))) (ss_one ss_never) ss_nil)
  (ss_one (ss_ret (zc_call hcal_add_with hr tkX (sg_cons (ag_e (zc_prop hprp_Ledger_sheet hr (ag_mu (pv 0)))) (sg_cons (ag_e (zc_prop hprp_Ledger_slips hr (ag_mu (pv 0)))) sg_nil))))))
theorem sc_m_Sheet_place : FnScope ["self"] ["self"] (defScope (sub 15 11)) := ⟨rfl, rfl, rfl, by decide +kernel, rfl, by decide +kernel, by decide +kernel⟩
theorem ok_m_Sheet_place {Pr : Program} {w : World} {K : PySem.W.Frag} {mg : PySem.Str → Option Value} {base : Heap} {a : Addr} {fd : FuncData} (cf : Cf K (ca K)) (z : Gf K mg)
    (F : FunD K "place" "Sheet.place" (defArgs (sub 15 11)) (defBody (sub 15 11)) (defScope (sub 15 11)) [] [] a fd) : FnOk Pr w K mg base (L2.CX Pr w) 1 a fd ["self"] (spE K (ca K) f_m_Sheet_place) :=
  have sc := sc_m_Sheet_place
  fnED (N := ["self"]) (P := []) (b := b_m_Sheet_place) F sc fun cdv A outer s H E hr =>
  (ss_one (ss_ret (se_tup (sa_cons (se_fld cf (po_v (pv 0))) (sa_cons (se_fld cf (po_v (pv 0))) (sa_cons (se_fld cf (po_v (pv 0))) (sa_cons (se_fld cf (po_v (pv 0))) sa_nil)))))))
theorem sc_m_Sheet_zeqz : FnScope ["self", "other"] ["self", "other"] (defScope (sub 15 12)) := ⟨rfl, rfl, rfl, by decide +kernel, rfl, by decide +kernel, by decide +kernel⟩
theorem ok_m_Sheet_zeqz {Pr : Program} {w : World} {K : PySem.W.Frag} {mg : PySem.Str → Option Value} {base : Heap} {a : Addr} {fd : FuncData} (cf : Cf K (ca K)) (z : Gf K mg) (hgl_Sheet : mg "Sheet" = some (.ref (He.ga K "Sheet"))) (hins_Sheet : C8.InsC K (He.ga K "Sheet")) (hmet_Sheet_place : Met Pr w K mg base (ca K) 1 "Sheet" "place" ["self"] f_m_Sheet_place)
    (F : FunD K "__eq__" "Sheet.__eq__" (defArgs (sub 15 12)) (defBody (sub 15 12)) (defScope (sub 15 12)) [] [] a fd) : FnOk Pr w K mg base (L2.CX Pr w) 2 a fd ["self", "other"] (spE K (ca K) f_m_Sheet_zeqz) :=
  have sc := sc_m_Sheet_zeqz
  fnED (N := ["self", "other"]) (P := []) (b := b_m_Sheet_zeqz) F sc fun cdv A outer s H E hr =>
  (ss_cons (ss_if (st_not (st_tru cf (po_e (se_isC hins_Sheet (by rfl) z.fr_isinstance (by rfl) hgl_Sheet boot_isinstance (se_v (pv 1)))))) (ss_one (ss_ret se_bl)) ss_nil)
  (ss_one (ss_ret (zb_eq cf hr (po_e (zc_meth0 hmet_Sheet_place hr tkX (ag_e (se_v (pv 0))))) (po_e (zc_meth0 hmet_Sheet_place hr tkX (ag_e (se_v (pv 1)))))))))
theorem sc_m_Written_zeqz : FnScope ["self", "other"] ["self", "other"] (defScope (sub 23 7)) := ⟨rfl, rfl, rfl, by decide +kernel, rfl, by decide +kernel, by decide +kernel⟩
theorem ok_m_Written_zeqz {Pr : Program} {w : World} {K : PySem.W.Frag} {mg : PySem.Str → Option Value} {base : Heap} {a : Addr} {fd : FuncData} (cf : Cf K (ca K)) (z : Gf K mg) (hgl_Written : mg "Written" = some (.ref (He.ga K "Written"))) (hins_Written : C8.InsC K (He.ga K "Written"))
    (F : FunD K "__eq__" "Written.__eq__" (defArgs (sub 23 7)) (defBody (sub 23 7)) (defScope (sub 23 7)) [] [] a fd) : FnOk Pr w K mg base (L2.CX Pr w) 1 a fd ["self", "other"] (spE K (ca K) f_m_Written_zeqz) :=
  have sc := sc_m_Written_zeqz
  fnED (N := ["self", "other"]) (P := []) (b := b_m_Written_zeqz) F sc fun cdv A outer s H E hr =>
  (ss_cons (ss_if (st_not (st_tru cf (po_e (se_isC hins_Written (by rfl) z.fr_isinstance (by rfl) hgl_Written boot_isinstance (se_v (pv 1)))))) (ss_one (ss_ret se_bl)) ss_nil)
  (ss_one (ss_ret (zb_eq cf hr (po_e (se_tup (sa_cons (se_fld cf (po_v (pv 0))) (sa_cons (se_fld cf (po_v (pv 0))) (sa_cons (se_fld cf (po_v (pv 0))) sa_nil))))) (po_e (se_tup (sa_cons (se_fld cf (po_v (pv 1))) (sa_cons (se_fld cf (po_v (pv 1))) (sa_cons (se_fld cf (po_v (pv 1))) sa_nil)))))))))
theorem sc_p__law_ledger_right : FnScope ["sheet", "right", "many", "row", "ledger", "column"] ["sheet", "right"] (defScope (top 65)) := ⟨rfl, rfl, rfl, by decide +kernel, rfl, by decide +kernel, by decide +kernel⟩
theorem ok_p__law_ledger_right {Pr : Program} {w : World} {K : PySem.W.Frag} {mg : PySem.Str → Option Value} {base : Heap} {a : Addr} {fd : FuncData} (cf : Cf K (ca K)) (z : Gf K mg) (hmak_Kind : Mak Pr w K mg base (ca K) 3 "Kind" ["self", "base", "rows", "deeds", "most"] f_m_Kind_zinitz) (hmak_Ledger : Mak Pr w K mg base (ca K) 2 "Ledger" ["self", "kind", "lot"] f_m_Ledger_zinitz) (hmet_Ledger_result : Met Pr w K mg base (ca K) 8 "Ledger" "result" ["self"] f_m_Ledger_result) (hmet_Sheet_zeqz : Met Pr w K mg base (ca K) 2 "Sheet" "__eq__" ["self", "other"] f_m_Sheet_zeqz) (hmet_Written_zeqz : Met Pr w K mg base (ca K) 1 "Written" "__eq__" ["self", "other"] f_m_Written_zeqz) (hmetd_Ledger_put : MetD Pr w K mg base (ca K) 6 "Ledger" "put" ["self", "column", "deed"] f_m_Ledger_put) (hprp_Ledger_sheet : Prp Pr w K mg base (ca K) 5 "Ledger" "sheet" ["self"] f_m_Ledger_sheet) (hprp_Ledger_slips : Prp Pr w K mg base (ca K) 1 "Ledger" "slips" ["self"] f_m_Ledger_slips) (hprp_Sheet_base : Prp Pr w K mg base (ca K) 1 "Sheet" "base" ["self"] f_m_Sheet_base) (hprp_Sheet_columns : Prp Pr w K mg base (ca K) 1 "Sheet" "columns" ["self"] f_m_Sheet_columns) (hprp_Sheet_rows : Prp Pr w K mg base (ca K) 1 "Sheet" "rows" ["self"] f_m_Sheet_rows)
    (F : FunD K "_law_ledger_right" "_law_ledger_right" (defArgs (top 65)) (defBody (top 65)) (defScope (top 65)) [] [] a fd) : FnOk Pr w K mg base (L2.CX Pr w) 9 a fd ["sheet", "right"] (spE K (ca K) f_p__law_ledger_right) :=
  have sc := sc_p__law_ledger_right
  fnED (N := ["sheet", "right", "many", "row", "ledger", "column"]) (P := []) (b := b_p__law_ledger_right) F sc fun cdv A outer s H E hr =>
  (ss_cons (ss_set sc.nd (by rfl) (by first | exact Or.inl rfl | exact Or.inr rfl) se_int)
  (ss_cons (ss_for psX (by rfl) (si_range1 (by rfl) z.fr_range (zc_prop hprp_Sheet_rows hr (ag_e (se_v (pv 0))))) (sg_name sc.nd (by rfl) (by first | exact Or.inl rfl | exact Or.inr rfl)) (ss_one (ss_set sc.nd (by rfl) (by first | exact Or.inl rfl | exact Or.inr rfl) (zb_mul cf (po_v (pv 2)) (po_e (zc_prop hprp_Sheet_base hr (ag_e (se_v (pv 0)))))))))
  (ss_cons (ss_if (zt_gt cf (po_v (pv 2)) (po_e se_int)) (ss_one (ss_ret se_bl)) ss_nil)
  (ss_cons (ss_setO sc.nd (by rfl) (by first | exact Or.inl rfl | exact Or.inr rfl) (zc_make hmak_Ledger hr tkX (sg_cons (ag_e (se_fr (zc_make hmak_Kind hr tkX (sg_cons (ag_e (zc_prop hprp_Sheet_base hr (ag_e (se_v (pv 0))))) (sg_cons (ag_e (zc_prop hprp_Sheet_rows hr (ag_e (se_v (pv 0))))) (sg_cons (ag_e (se_lst (sa_cons (se_tup (sa_cons se_str sa_nil)) sa_nil))) (sg_cons (ag_e se_int) sg_nil))))))) (sg_cons (ag_e (se_lst sa_nil)) sg_nil))))
  (ss_cons (ss_for psX (by rfl) (si_e (zc_prop hprp_Sheet_columns hr (ag_e (se_v (pv 0))))) (sg_name sc.nd (by rfl) (by first | exact Or.inl rfl | exact Or.inr rfl)) (ss_one (ss_drop (zc_methD hmetd_Ledger_put hr tkX (ag_mu (pv 4)) (sg_cons (ag_e (se_v (pv 5))) sg_nil)))))
  (ss_one (ss_ret (se_and (zc_eq hmet_Written_zeqz hr (zc_meth0 hmet_Ledger_result hr tkX (ag_mu (pv 4))) (se_v (pv 1))) (se_and (zb_eq cf hr (po_e (zc_prop hprp_Ledger_slips hr (ag_mu (pv 4)))) (po_e (se_lst sa_nil))) (se_one (zc_eq hmet_Sheet_zeqz hr (zc_prop hprp_Ledger_sheet hr (ag_mu (pv 4))) (se_v (pv 0)))))))))))))
theorem sc_m_Sheet_value : FnScope ["self", "total", "column"] ["self"] (defScope (sub 15 4)) := ⟨rfl, rfl, rfl, by decide +kernel, rfl, by decide +kernel, by decide +kernel⟩
theorem ok_m_Sheet_value {Pr : Program} {w : World} {K : PySem.W.Frag} {mg : PySem.Str → Option Value} {base : Heap} {a : Addr} {fd : FuncData} (cf : Cf K (ca K)) (z : Gf K mg)
    (F : FunD K "value" "Sheet.value" (defArgs (sub 15 4)) (defBody (sub 15 4)) (defScope (sub 15 4)) [] [] a fd) : FnOk Pr w K mg base (L2.CX Pr w) 1 a fd ["self"] (spE K (ca K) f_m_Sheet_value) :=
  have sc := sc_m_Sheet_value
  fnED (N := ["self", "total", "column"]) (P := []) (b := b_m_Sheet_value) F sc fun cdv A outer s H E hr =>
  (ss_cons (ss_set sc.nd (by rfl) (by first | exact Or.inl rfl | exact Or.inr rfl) se_int)
  (ss_cons (ss_for psX (by rfl) (si_e (se_rev cf (po_e (se_fld cf (po_v (pv 0)))))) (sg_name sc.nd (by rfl) (by first | exact Or.inl rfl | exact Or.inr rfl)) (ss_one (ss_set sc.nd (by rfl) (by first | exact Or.inl rfl | exact Or.inr rfl) (zb_add cf (po_e (zb_mul cf (po_v (pv 1)) (po_e (se_fld cf (po_v (pv 0)))))) (po_e (zf_sum cf (by rfl) z.fr_sum (sp_cons (po_v (pv 2)) sp_nil)))))))
  (ss_one (ss_ret (se_v (pv 1))))))
theorem sc_m_Written_figures : FnScope ["self"] ["self"] (defScope (sub 23 2)) := ⟨rfl, rfl, rfl, by decide +kernel, rfl, by decide +kernel, by decide +kernel⟩
theorem ok_m_Written_figures {Pr : Program} {w : World} {K : PySem.W.Frag} {mg : PySem.Str → Option Value} {base : Heap} {a : Addr} {fd : FuncData} (cf : Cf K (ca K)) (z : Gf K mg)
    (F : FunD K "figures" "Written.figures" (defArgs (sub 23 2)) (defBody (sub 23 2)) (defScope (sub 23 2)) [] [] a fd) : FnOk Pr w K mg base (L2.CX Pr w) 1 a fd ["self"] (spE K (ca K) f_m_Written_figures) :=
  have sc := sc_m_Written_figures
  fnED (N := ["self"]) (P := []) (b := b_m_Written_figures) F sc fun cdv A outer s H E hr =>
  (ss_one (ss_ret (zf_list cf z.fr_list (sp_cons (po_e (se_fld cf (po_v (pv 0)))) sp_nil))))
theorem sc_m_Written_last : FnScope ["self"] ["self"] (defScope (sub 23 3)) := ⟨rfl, rfl, rfl, by decide +kernel, rfl, by decide +kernel, by decide +kernel⟩
theorem ok_m_Written_last {Pr : Program} {w : World} {K : PySem.W.Frag} {mg : PySem.Str → Option Value} {base : Heap} {a : Addr} {fd : FuncData} (cf : Cf K (ca K)) (z : Gf K mg)
    (F : FunD K "last" "Written.last" (defArgs (sub 23 3)) (defBody (sub 23 3)) (defScope (sub 23 3)) [] [] a fd) : FnOk Pr w K mg base (L2.CX Pr w) 1 a fd ["self"] (spE K (ca K) f_m_Written_last) :=
  have sc := sc_m_Written_last
  fnED (N := ["self"]) (P := []) (b := b_m_Written_last) F sc fun cdv A outer s H E hr =>
  (ss_one (ss_ret (se_fld cf (po_v (pv 0)))))
theorem sc_m_Written_value : FnScope ["self", "total", "figure"] ["self"] (defScope (sub 23 4)) := ⟨rfl, rfl, rfl, by decide +kernel, rfl, by decide +kernel, by decide +kernel⟩
theorem ok_m_Written_value {Pr : Program} {w : World} {K : PySem.W.Frag} {mg : PySem.Str → Option Value} {base : Heap} {a : Addr} {fd : FuncData} (cf : Cf K (ca K)) (z : Gf K mg)
    (F : FunD K "value" "Written.value" (defArgs (sub 23 4)) (defBody (sub 23 4)) (defScope (sub 23 4)) [] [] a fd) : FnOk Pr w K mg base (L2.CX Pr w) 1 a fd ["self"] (spE K (ca K) f_m_Written_value) :=
  have sc := sc_m_Written_value
  fnED (N := ["self", "total", "figure"]) (P := []) (b := b_m_Written_value) F sc fun cdv A outer s H E hr =>
  (ss_cons (ss_set sc.nd (by rfl) (by first | exact Or.inl rfl | exact Or.inr rfl) (se_fld cf (po_v (pv 0))))
  (ss_cons (ss_for psX (by rfl) (si_e (se_rev cf (po_e (se_fld cf (po_v (pv 0)))))) (sg_name sc.nd (by rfl) (by first | exact Or.inl rfl | exact Or.inr rfl)) (ss_one (ss_set sc.nd (by rfl) (by first | exact Or.inl rfl | exact Or.inr rfl) (zb_add cf (po_e (zb_mul cf (po_v (pv 1)) (po_e (se_fld cf (po_v (pv 0)))))) (po_v (pv 2))))))
  (ss_one (ss_ret (se_v (pv 1))))))
theorem sc_p_add_right : FnScope ["sheet"] ["sheet"] (defScope (top 26)) := ⟨rfl, rfl, rfl, by decide +kernel, rfl, by decide +kernel, by decide +kernel⟩
theorem ok_p_add_right {Pr : Program} {w : World} {K : PySem.W.Frag} {mg : PySem.Str → Option Value} {base : Heap} {a : Addr} {fd : FuncData} (cf : Cf K (ca K)) (z : Gf K mg) (hmak_Adding : Mak Pr w K mg base (ca K) 3 "Adding" ["self", "sheet"] f_m_Adding_zinitz) (hmet_Adding_result : Met Pr w K mg base (ca K) 5 "Adding" "result" ["self"] f_m_Adding_result)
    (F : FunD K "add_right" "add_right" (defArgs (top 26)) (defBody (top 26)) (defScope (top 26)) [] [] a fd) : FnOk Pr w K mg base (L2.CX Pr w) 6 a fd ["sheet"] (spE K (ca K) f_p_add_right) :=
  have sc := sc_p_add_right
  fnED (N := ["sheet"]) (P := []) (b := b_p_add_right) F sc fun cdv A outer s H E hr =>
  (ss_one (ss_ret (zc_meth0 hmet_Adding_result hr tkX (ag_t (zc_make hmak_Adding hr tkX (sg_cons (ag_e (se_v (pv 0))) sg_nil))))))
theorem sc_p__law_is_sum : FnScope ["sheet", "right", "other", "rest", "figure", "written", "size"] ["sheet", "right", "other"] (defScope (top 61)) := ⟨rfl, rfl, rfl, by decide +kernel, rfl, by decide +kernel, by decide +kernel⟩
theorem ok_p__law_is_sum {Pr : Program} {w : World} {K : PySem.W.Frag} {mg : PySem.Str → Option Value} {base : Heap} {a : Addr} {fd : FuncData} (cf : Cf K (ca K)) (z : Gf K mg) (hcal_add_right : Cal Pr w K mg base (ca K) 6 "add_right" ["sheet"] f_p_add_right) (hmet_Sheet_zlenz : Met Pr w K mg base (ca K) 1 "Sheet" "__len__" ["self"] f_m_Sheet_zlenz) (hprp_Sheet_base : Prp Pr w K mg base (ca K) 1 "Sheet" "base" ["self"] f_m_Sheet_base) (hprp_Sheet_value : Prp Pr w K mg base (ca K) 1 "Sheet" "value" ["self"] f_m_Sheet_value) (hprp_Written_figures : Prp Pr w K mg base (ca K) 1 "Written" "figures" ["self"] f_m_Written_figures) (hprp_Written_last : Prp Pr w K mg base (ca K) 1 "Written" "last" ["self"] f_m_Written_last) (hprp_Written_value : Prp Pr w K mg base (ca K) 1 "Written" "value" ["self"] f_m_Written_value)
    (F : FunD K "_law_is_sum" "_law_is_sum" (defArgs (top 61)) (defBody (top 61)) (defScope (top 61)) [] [] a fd) : FnOk Pr w K mg base (L2.CX Pr w) 7 a fd ["sheet", "right", "other"] (spE K (ca K) f_p__law_is_sum) :=
  have sc := sc_p__law_is_sum
  fnED (N := ["sheet", "right", "other", "rest", "figure", "written", "size"]) (P := []) (b := b_p__law_is_sum) F sc fun cdv A outer s H E hr =>
  (ss_cons (by first | exact ss_par2 (by rfl) sc.nd (by rfl) (by rfl) (by decide) (by rfl) (by rfl) (sg_cons (ag_e (zc_call hcal_add_right hr tkX (sg_cons (ag_e (se_v (pv 2))) sg_nil))) (sg_cons (ag_e (zc_len hmet_Sheet_zlenz hr z.fr_len (se_v (pv 0)))) sg_nil)) (by rfl) | exact ss_parT (by rfl) (is := [5, 6]) (pgs_cons (pg_name sc.nd (by rfl) (by first | exact Or.inl rfl | exact Or.inr rfl) (by first | exact .inl rfl | exact .inr rfl)) (pgs_cons (pg_name sc.nd (by rfl) (by first | exact Or.inl rfl | exact Or.inr rfl) (by first | exact .inl rfl | exact .inr rfl)) pgs_nil)) (sg_cons (ag_e (zc_call hcal_add_right hr tkX (sg_cons (ag_e (se_v (pv 2))) sg_nil))) (sg_cons (ag_e (zc_len hmet_Sheet_zlenz hr z.fr_len (se_v (pv 0)))) sg_nil)))
  (ss_cons (ss_if (st_or (zt_neD cf hr (po_e (zc_prop hprp_Sheet_value hr (ag_e (se_v (pv 2))))) (po_e (zc_prop hprp_Sheet_value hr (ag_e (se_v (pv 0)))))) (st_or (zt_neD cf hr (po_e (se_sl (zc_prop hprp_Written_figures hr (ag_e (se_v (pv 5)))) pl_none (pl_some (se_v (pv 6))))) (po_e (zc_prop hprp_Written_figures hr (ag_e (se_v (pv 1)))))) (st_or1 (zt_neD cf hr (po_e (zc_prop hprp_Written_value hr (ag_e (se_v (pv 5))))) (po_e (zc_prop hprp_Written_value hr (ag_e (se_v (pv 1))))))))).pt (ss_one (ss_ret se_bl)) ss_nil)
  (ss_cons (ss_set sc.nd (by rfl) (by first | exact Or.inl rfl | exact Or.inr rfl) (zc_prop hprp_Written_last hr (ag_e (se_v (pv 5)))))
  (ss_cons (ss_for psX (by rfl) (si_e (se_rev cf (po_e (se_sl (zc_prop hprp_Written_figures hr (ag_e (se_v (pv 5)))) (pl_some (se_v (pv 6))) pl_none)))) (sg_name sc.nd (by rfl) (by first | exact Or.inl rfl | exact Or.inr rfl)) (ss_one (ss_set sc.nd (by rfl) (by first | exact Or.inl rfl | exact Or.inr rfl) (zb_add cf (po_e (zb_mul cf (po_v (pv 3)) (po_e (zc_prop hprp_Sheet_base hr (ag_e (se_v (pv 0))))))) (po_v (pv 4))))))
  (ss_one (ss_ret (zb_eq cf hr (po_v (pv 3)) (po_e (zc_prop hprp_Written_last hr (ag_e (se_v (pv 1))))))))))))
theorem sc_p__law_lot : FnScope ["sheet", "rows", "column", "row"] ["sheet", "rows"] (defScope (top 59)) := ⟨rfl, rfl, rfl, by decide +kernel, rfl, by decide +kernel, by decide +kernel⟩
theorem ok_p__law_lot {Pr : Program} {w : World} {K : PySem.W.Frag} {mg : PySem.Str → Option Value} {base : Heap} {a : Addr} {fd : FuncData} (cf : Cf K (ca K)) (z : Gf K mg) (hmak_Sheet : Mak Pr w K mg base (ca K) 3 "Sheet" ["self", "base", "rows", "columns"] f_m_Sheet_zinitz) (hprp_Sheet_base : Prp Pr w K mg base (ca K) 1 "Sheet" "base" ["self"] f_m_Sheet_base) (hprp_Sheet_columns : Prp Pr w K mg base (ca K) 1 "Sheet" "columns" ["self"] f_m_Sheet_columns)
    (F : FunD K "_law_lot" "_law_lot" (defArgs (top 59)) (defBody (top 59)) (defScope (top 59)) [] [] a fd) : FnOk Pr w K mg base (L2.CX Pr w) 5 a fd ["sheet", "rows"] (spE K (ca K) f_p__law_lot) :=
  have sc := sc_p__law_lot
  fnED (N := ["sheet", "rows", "column", "row"]) (P := []) (b := b_p__law_lot) F sc fun cdv A outer s H E hr =>
  (ss_one (ss_ret (se_fr (zc_make hmak_Sheet hr tkX (sg_cons (ag_e (zc_prop hprp_Sheet_base hr (ag_e (se_v (pv 0))))) (sg_cons (ag_e (zf_len cf z.fr_len (sp_cons (po_v (pv 1)) sp_nil))) (sg_cons (ag_e (se_fr (so_lc (by rfl) sc.nd (si_e (zc_prop hprp_Sheet_columns hr (ag_e (se_v (pv 0))))) (own := [("column", 2)]) (blk_of (by rfl)) (fun _ _ _ _ _ => (sg_name sc.nd (by rfl) (by first | exact Or.inl rfl | exact Or.inr rfl))) (fun _ _ _ _ _ => sts_nil) (fun _ _ _ _ _ => (zf_tuple cf z.fr_tuple (sp_cons (po_e (se_fr (so_lc (by rfl) sc.nd (si_e (se_v (pv 1))) (own := [("row", 3)]) (blk_of (by rfl)) (fun _ _ _ _ _ => (sg_name sc.nd (by rfl) (by first | exact Or.inl rfl | exact Or.inr rfl))) (fun _ _ _ _ _ => sts_nil) (fun _ _ _ _ _ => (se_ix cf (po_v (pv 2)) (po_v (pv 3))))))) sp_nil)))))) sg_nil)))))))
theorem sc_p__law_take : FnScope ["bag", "many", "mixed", "found"] ["bag", "many"] (defScope (top 55)) := ⟨rfl, rfl, rfl, by decide +kernel, rfl, by decide +kernel, by decide +kernel⟩
theorem ok_p__law_take {Pr : Program} {w : World} {K : PySem.W.Frag} {mg : PySem.Str → Option Value} {base : Heap} {a : Addr} {fd : FuncData} (cf : Cf K (ca K)) (z : Gf K mg)
    (F : FunD K "_law_take" "_law_take" (defArgs (top 55)) (defBody (top 55)) (defScope (top 55)) [] [] a fd) : FnOk Pr w K mg base (L2.CX Pr w) 1 a fd ["bag", "many"] (spE K (ca K) f_p__law_take) :=
  have sc := sc_p__law_take
  fnED (N := ["bag", "many", "mixed", "found"]) (P := [0]) (b := b_p__law_take) F sc fun cdv A outer s H E hr =>
  (ss_cons (ss_if (zt_gt cf (po_e (se_ix cf (po_v (pv 0)) (po_e se_int))) (po_e se_int)) (ss_cons (ss_set sc.nd (by rfl) (by first | exact Or.inl rfl | exact Or.inr rfl) (zb_mod cf (po_e (zf_int cf z.fr_int (sp_cons (po_e (se_ix cf (po_v (pv 0)) (po_e se_int))) sp_nil))) (po_v (pv 1))))
  (ss_cons (ss_item (zb_fdiv cf (po_e (se_ix cf (po_v (pv 0)) (po_e se_int))) (po_v (pv 1))) (pv 0) se_int)
  (ss_one (ss_ret (se_v (pv 3)))))) ss_nil)
  (ss_cons (ss_item (zb_add cf (po_e (se_ix cf (po_v (pv 0)) (po_e se_int))) (po_e se_int)) (pv 0) se_int)
  (ss_cons (ss_set sc.nd (by rfl) (by first | exact Or.inl rfl | exact Or.inr rfl) (zb_mod cf (po_e (zf_int cf z.fr_int (sp_cons (po_e (zb_add cf (po_e (zb_pow cf (po_e (zb_add cf (po_e (se_ix cf (po_v (pv 0)) (po_e se_int))) (po_e (zb_mul cf (po_e se_int) (po_e (se_ix cf (po_v (pv 0)) (po_e se_int))))))) (po_e se_int))) (po_e (zb_mul cf (po_e se_int) (po_e (se_ix cf (po_v (pv 0)) (po_e se_int))))))) sp_nil))) (po_e (zb_add cf (po_e (zb_pow cf (po_e se_int) (po_e se_int))) (po_e se_int)))))
  (ss_cons (ss_set sc.nd (by rfl) (by first | exact Or.inl rfl | exact Or.inr rfl) (zb_mod cf (po_e (zf_int cf z.fr_int (sp_cons (po_e (zb_add cf (po_e (zb_pow cf (po_v (pv 2)) (po_e se_int))) (po_e (se_ix cf (po_v (pv 0)) (po_e se_int))))) sp_nil))) (po_e (zb_add cf (po_e (zb_pow cf (po_e se_int) (po_e se_int))) (po_e se_int)))))
  (ss_one (ss_ret (zb_mod cf (po_e (zf_int cf z.fr_int (sp_cons (po_e (zb_fdiv cf (po_v (pv 2)) (po_e se_int))) sp_nil))) (po_v (pv 1)))))))))
theorem sc_p__law_mixed : FnScope ["bag", "items", "lap", "left", "found"] ["bag", "items"] (defScope (top 56)) := ⟨rfl, rfl, rfl, by decide +kernel, rfl, by decide +kernel, by decide +kernel⟩
theorem ok_p__law_mixed {Pr : Program} {w : World} {K : PySem.W.Frag} {mg : PySem.Str → Option Value} {base : Heap} {a : Addr} {fd : FuncData} (cf : Cf K (ca K)) (z : Gf K mg) (hcal__law_take : Cal Pr w K mg base (ca K) 1 "_law_take" ["bag", "many"] f_p__law_take)
    (F : FunD K "_law_mixed" "_law_mixed" (defArgs (top 56)) (defBody (top 56)) (defScope (top 56)) [] [] a fd) : FnOk Pr w K mg base (L2.CX Pr w) 2 a fd ["bag", "items"] (spE K (ca K) f_p__law_mixed) :=
  have sc := sc_p__law_mixed
  fnED (N := ["bag", "items", "lap", "left", "found"]) (P := [0]) (b := b_p__law_mixed) F sc fun cdv A outer s H E hr =>
  (ss_cons (by first | exact ss_par2 (by rfl) sc.nd (by rfl) (by rfl) (by decide) (by rfl) (by rfl) (sg_cons (ag_t (zo_list cf z.fr_list (sp_cons (po_v (pv 1)) sp_nil))) (sg_cons (ag_t (so_lst sa_nil)) sg_nil)) (by rfl) | exact ss_parT (by rfl) (is := [3, 4]) (pgs_cons (pg_name sc.nd (by rfl) (by first | exact Or.inl rfl | exact Or.inr rfl) (by first | exact .inl rfl | exact .inr rfl)) (pgs_cons (pg_name sc.nd (by rfl) (by first | exact Or.inl rfl | exact Or.inr rfl) (by first | exact .inl rfl | exact .inr rfl)) pgs_nil)) (sg_cons (ag_t (zo_list cf z.fr_list (sp_cons (po_v (pv 1)) sp_nil))) (sg_cons (ag_t (so_lst sa_nil)) sg_nil)))
  (ss_cons (ss_for psX (by rfl) (si_range1 (by rfl) z.fr_range (zf_len cf z.fr_len (sp_cons (po_v (pv 1)) sp_nil))) (sg_name sc.nd (by rfl) (by first | exact Or.inl rfl | exact Or.inr rfl)) (ss_one (ss_drop (zm_append (pv 4) (sa_cons (zm_popAt (pv 3) (sa_cons (zc_call hcal__law_take hr tkX (sg_cons (ag_mu (pv 0)) (sg_cons (ag_e (zf_len cf z.fr_len (sp_cons (po_v (pv 3)) sp_nil))) sg_nil))) sa_nil)) sa_nil)))))
  (ss_one (ss_ret (se_fz (pv 4))))))
theorem sc_m_Written_base : FnScope ["self"] ["self"] (defScope (sub 23 1)) := ⟨rfl, rfl, rfl, by decide +kernel, rfl, by decide +kernel, by decide +kernel⟩
theorem ok_m_Written_base {Pr : Program} {w : World} {K : PySem.W.Frag} {mg : PySem.Str → Option Value} {base : Heap} {a : Addr} {fd : FuncData} (cf : Cf K (ca K)) (z : Gf K mg)
    (F : FunD K "base" "Written.base" (defArgs (sub 23 1)) (defBody (sub 23 1)) (defScope (sub 23 1)) [] [] a fd) : FnOk Pr w K mg base (L2.CX Pr w) 1 a fd ["self"] (spE K (ca K) f_m_Written_base) :=
  have sc := sc_m_Written_base
  fnED (N := ["self"]) (P := []) (b := b_m_Written_base) F sc fun cdv A outer s H E hr =>
  (ss_one (ss_ret (se_fld cf (po_v (pv 0)))))
theorem sc_p__law_digits : FnScope ["number", "base", "many", "found", "place"] ["number", "base", "many"] (defScope (top 57)) := ⟨rfl, rfl, rfl, by decide +kernel, rfl, by decide +kernel, by decide +kernel⟩
theorem ok_p__law_digits {Pr : Program} {w : World} {K : PySem.W.Frag} {mg : PySem.Str → Option Value} {base : Heap} {a : Addr} {fd : FuncData} (cf : Cf K (ca K)) (z : Gf K mg)
    (F : FunD K "_law_digits" "_law_digits" (defArgs (top 57)) (defBody (top 57)) (defScope (top 57)) [] [] a fd) : FnOk Pr w K mg base (L2.CX Pr w) 1 a fd ["number", "base", "many"] (spE K (ca K) f_p__law_digits) :=
  have sc := sc_p__law_digits
  fnED (N := ["number", "base", "many", "found", "place"]) (P := []) (b := b_p__law_digits) F sc fun cdv A outer s H E hr =>
  (ss_cons (ss_setO sc.nd (by rfl) (by first | exact Or.inl rfl | exact Or.inr rfl) (so_lst sa_nil))
  (ss_cons (ss_for psX (by rfl) (si_range1 (by rfl) z.fr_range (se_v (pv 2))) (sg_name sc.nd (by rfl) (by first | exact Or.inl rfl | exact Or.inr rfl)) (ss_cons (ss_drop (zm_append (pv 3) (sa_cons (zb_mod cf (po_e (zf_int cf z.fr_int (sp_cons (po_v (pv 0)) sp_nil))) (po_v (pv 1))) sa_nil)))
  (ss_one (ss_set sc.nd (by rfl) (by first | exact Or.inl rfl | exact Or.inr rfl) (zb_fdiv cf (po_v (pv 0)) (po_v (pv 1)))))))
  (ss_one (ss_ret (se_fz (pv 3))))))
theorem sc_p__law_row : FnScope ["written", "long"] ["written", "long"] (defScope (top 58)) := ⟨rfl, rfl, rfl, by decide +kernel, rfl, by decide +kernel, by decide +kernel⟩
theorem ok_p__law_row {Pr : Program} {w : World} {K : PySem.W.Frag} {mg : PySem.Str → Option Value} {base : Heap} {a : Addr} {fd : FuncData} (cf : Cf K (ca K)) (z : Gf K mg) (hcal__law_digits : Cal Pr w K mg base (ca K) 1 "_law_digits" ["number", "base", "many"] f_p__law_digits) (hprp_Written_base : Prp Pr w K mg base (ca K) 1 "Written" "base" ["self"] f_m_Written_base) (hprp_Written_figures : Prp Pr w K mg base (ca K) 1 "Written" "figures" ["self"] f_m_Written_figures) (hprp_Written_last : Prp Pr w K mg base (ca K) 1 "Written" "last" ["self"] f_m_Written_last)
    (F : FunD K "_law_row" "_law_row" (defArgs (top 58)) (defBody (top 58)) (defScope (top 58)) [] [] a fd) : FnOk Pr w K mg base (L2.CX Pr w) 3 a fd ["written", "long"] (spE K (ca K) f_p__law_row) :=
  have sc := sc_p__law_row
  fnED (N := ["written", "long"]) (P := []) (b := b_p__law_row) F sc fun cdv A outer s H E hr =>
  (ss_one (ss_ret (zb_add cf (po_e (zc_prop hprp_Written_figures hr (ag_e (se_v (pv 0))))) (po_e (zc_call hcal__law_digits hr tkX (sg_cons (ag_e (zc_prop hprp_Written_last hr (ag_e (se_v (pv 0))))) (sg_cons (ag_e (zc_prop hprp_Written_base hr (ag_e (se_v (pv 0))))) (sg_cons (ag_e (zb_sub cf (po_v (pv 1)) (po_e (zf_len cf z.fr_len (sp_cons (po_e (zc_prop hprp_Written_figures hr (ag_e (se_v (pv 0))))) sp_nil))))) sg_nil))))))))
theorem sc_p__law_sheet : FnScope ["base", "rows", "at", "row"] ["base", "rows"] (defScope (top 60)) := ⟨rfl, rfl, rfl, by decide +kernel, rfl, by decide +kernel, by decide +kernel⟩
theorem ok_p__law_sheet {Pr : Program} {w : World} {K : PySem.W.Frag} {mg : PySem.Str → Option Value} {base : Heap} {a : Addr} {fd : FuncData} (cf : Cf K (ca K)) (z : Gf K mg) (hmak_Sheet : Mak Pr w K mg base (ca K) 3 "Sheet" ["self", "base", "rows", "columns"] f_m_Sheet_zinitz)
    (F : FunD K "_law_sheet" "_law_sheet" (defArgs (top 60)) (defBody (top 60)) (defScope (top 60)) [] [] a fd) : FnOk Pr w K mg base (L2.CX Pr w) 5 a fd ["base", "rows"] (spE K (ca K) f_p__law_sheet) :=
  have sc := sc_p__law_sheet
  fnED (N := ["base", "rows", "at", "row"]) (P := []) (b := b_p__law_sheet) F sc fun cdv A outer s H E hr =>
  (ss_one (ss_ret (se_fr (zc_make hmak_Sheet hr tkX (sg_cons (ag_e (se_v (pv 0))) (sg_cons (ag_e (zf_len cf z.fr_len (sp_cons (po_v (pv 1)) sp_nil))) (sg_cons (ag_e (se_fr (so_lc (by rfl) sc.nd (si_range1 (by rfl) z.fr_range (zf_len cf z.fr_len (sp_cons (po_e (se_ix cf (po_v (pv 1)) (po_e se_int))) sp_nil))) (own := [("at", 2)]) (blk_of (by rfl)) (fun _ _ _ _ _ => (sg_name sc.nd (by rfl) (by first | exact Or.inl rfl | exact Or.inr rfl))) (fun _ _ _ _ _ => sts_nil) (fun _ _ _ _ _ => (zf_tuple cf z.fr_tuple (sp_cons (po_e (se_fr (so_lc (by rfl) sc.nd (si_e (se_v (pv 1))) (own := [("row", 3)]) (blk_of (by rfl)) (fun _ _ _ _ _ => (sg_name sc.nd (by rfl) (by first | exact Or.inl rfl | exact Or.inr rfl))) (fun _ _ _ _ _ => sts_nil) (fun _ _ _ _ _ => (se_ix cf (po_v (pv 3)) (po_v (pv 2))))))) sp_nil)))))) sg_nil)))))))
theorem sc_p_is_number : FnScope ["word", "char"] ["word"] (defScope (top 51)) := ⟨rfl, rfl, rfl, by decide +kernel, rfl, by decide +kernel, by decide +kernel⟩
theorem ok_p_is_number {Pr : Program} {w : World} {K : PySem.W.Frag} {mg : PySem.Str → Option Value} {base : Heap} {a : Addr} {fd : FuncData} (cf : Cf K (ca K)) (z : Gf K mg)
    (F : FunD K "is_number" "is_number" (defArgs (top 51)) (defBody (top 51)) (defScope (top 51)) [] [] a fd) : FnOk Pr w K mg base (L2.CX Pr w) 1 a fd ["word"] (spE K (ca K) f_p_is_number) :=
  have sc := sc_p_is_number
  fnED (N := ["word", "char"]) (P := []) (b := b_p_is_number) F sc fun cdv A outer s H E hr =>
  (ss_cons (ss_if (st_or (zt_eqD cf hr (po_v (pv 0)) (po_e se_str)) (st_or1 (st_and (zt_gt cf (po_e (zf_len cf z.fr_len (sp_cons (po_v (pv 0)) sp_nil))) (po_e se_int)) (st_and1 (zt_eqD cf hr (po_e (se_ix cf (po_v (pv 0)) (po_e se_int))) (po_e se_str)))).pt)).pt (ss_one (ss_ret se_bl)) ss_nil)
  (ss_one (ss_ret (zf_all cf (by rfl) z.fr_all (sp_cons (po_e (se_fr (so_lc (by rfl) sc.nd (si_e (se_v (pv 0))) (own := [("char", 1)]) (blk_of (by rfl)) (fun _ _ _ _ _ => (sg_name sc.nd (by rfl) (by first | exact Or.inl rfl | exact Or.inr rfl))) (fun _ _ _ _ _ => sts_nil) (fun _ _ _ _ _ => (zb_in cf hr (po_v (pv 1)) (po_e (zc_glob z.co_DIGITS z.cr_DIGITS))))))) sp_nil)))))
theorem sc_p_read_sheet : FnScope ["text", "words", "rows", "digits", "base", "size", "row", "columns", "at", "char"] ["text"] (defScope (top 52)) := ⟨rfl, rfl, rfl, by decide +kernel, rfl, by decide +kernel, by decide +kernel⟩
theorem ok_p_read_sheet {Pr : Program} {w : World} {K : PySem.W.Frag} {mg : PySem.Str → Option Value} {base : Heap} {a : Addr} {fd : FuncData} (cf : Cf K (ca K)) (z : Gf K mg) (hcal_is_number : Cal Pr w K mg base (ca K) 1 "is_number" ["word"] f_p_is_number) (hmak_Sheet : Mak Pr w K mg base (ca K) 3 "Sheet" ["self", "base", "rows", "columns"] f_m_Sheet_zinitz)
    (F : FunD K "read_sheet" "read_sheet" (defArgs (top 52)) (defBody (top 52)) (defScope (top 52)) [] [] a fd) : FnOk Pr w K mg base (L2.CX Pr w) 5 a fd ["text"] (spE K (ca K) f_p_read_sheet) :=
  have sc := sc_p_read_sheet
  fnED (N := ["text", "words", "rows", "digits", "base", "size", "row", "columns", "at", "char"]) (P := []) (b := b_p_read_sheet) F sc fun cdv A outer s H E hr =>
  (ss_cons (ss_if (st_not (st_tru cf (po_e (se_isi cf (T := "str") (by decide +kernel) (by rfl) z.fr_isinstance (by rfl) z.fr_str (by decide +kernel) boot_isinstance (po_v (pv 0)))))) (ss_one ss_never) ss_nil)
  (ss_cons (ss_set sc.nd (by rfl) (by first | exact Or.inl rfl | exact Or.inr rfl) (zm_split (se_v (pv 0)) (sa_cons se_str sa_nil)))
  (ss_cons (ss_set sc.nd (by rfl) (by first | exact Or.inl rfl | exact Or.inr rfl) (se_sl (se_v (pv 1)) (pl_some se_int) pl_none))
  (ss_cons (ss_set sc.nd (by rfl) (by first | exact Or.inl rfl | exact Or.inr rfl) (se_sl (se_ix cf (po_v (pv 1)) (po_e se_int)) pl_none (pl_some (zb_neg cf (po_e se_int)))))
  (ss_cons (ss_if (st_or (zt_neD cf hr (po_e (se_sl (se_ix cf (po_v (pv 1)) (po_e se_int)) (pl_some (zb_neg cf (po_e se_int))) pl_none)) (po_e se_str)) (st_or (st_not (st_tru cf (po_e (zc_call hcal_is_number hr tkX (sg_cons (ag_e (se_v (pv 3))) sg_nil))))) (st_or (zt_gt cf (po_e (zf_len cf z.fr_len (sp_cons (po_v (pv 3)) sp_nil))) (po_e se_int)) (st_or1 (st_not (st_chain op_le ok_IB op_le ok_IB se_int (zf_len cf z.fr_len (sp_cons (po_v (pv 2)) sp_nil)) se_int)))))).pt (ss_one ss_never) ss_nil)
  (ss_cons (ss_set sc.nd (by rfl) (by first | exact Or.inl rfl | exact Or.inr rfl) (zf_int cf z.fr_int (sp_cons (po_v (pv 3)) sp_nil)))
  (ss_cons (ss_if (st_not (st_chain op_le ok_IB op_le ok_IB se_int (se_v (pv 4)) se_int)) (ss_one ss_never) ss_nil)
  (ss_cons (ss_if (st_tru cf (po_e (zf_all cf (by rfl) z.fr_all (sp_cons (po_e (se_fr (so_lc (by rfl) sc.nd (si_e (se_v (pv 2))) (own := [("row", 6)]) (blk_of (by rfl)) (fun _ _ _ _ _ => (sg_name sc.nd (by rfl) (by first | exact Or.inl rfl | exact Or.inr rfl))) (fun _ _ _ _ _ => sts_nil) (fun _ _ _ _ _ => (zb_eq cf hr (po_v (pv 6)) (po_e se_str)))))) sp_nil)))) (ss_one (ss_ret (se_fr (zc_make hmak_Sheet hr tkX (sg_cons (ag_e (se_v (pv 4))) (sg_cons (ag_e (zf_len cf z.fr_len (sp_cons (po_v (pv 2)) sp_nil))) (sg_cons (ag_e (se_lst sa_nil)) sg_nil))))))) ss_nil)
  (ss_cons (ss_set sc.nd (by rfl) (by first | exact Or.inl rfl | exact Or.inr rfl) (zf_len cf z.fr_len (sp_cons (po_e (se_ix cf (po_v (pv 2)) (po_e se_int))) sp_nil)))
  (ss_cons (ss_for psX (by rfl) (si_e (se_v (pv 2))) (sg_name sc.nd (by rfl) (by first | exact Or.inl rfl | exact Or.inr rfl)) (ss_one (ss_if (st_or (zt_eqD cf hr (po_v (pv 6)) (po_e se_str)) (st_or (zt_neD cf hr (po_e (zf_len cf z.fr_len (sp_cons (po_v (pv 6)) sp_nil))) (po_v (pv 5))) (st_or1 (st_not (st_tru cf (po_e (zf_all cf (by rfl) z.fr_all (sp_cons (po_e (se_fr (so_lc (by rfl) sc.nd (si_e (se_v (pv 6))) (own := [("char", 9)]) (blk_of (by rfl)) (fun _ _ _ _ _ => (sg_name sc.nd (by rfl) (by first | exact Or.inl rfl | exact Or.inr rfl))) (fun _ _ _ _ _ => sts_nil) (fun _ _ _ _ _ => (zb_in cf hr (po_v (pv 9)) (po_e (se_sl (zc_glob z.co_FIGURES z.cr_FIGURES) pl_none (pl_some (se_v (pv 4)))))))))) sp_nil)))))))).pt (ss_one ss_never) ss_nil)))
  (ss_cons (by first | exact ss_set sc.nd (by rfl) (by first | exact Or.inl rfl | exact Or.inr rfl) (se_fr (so_lc (by rfl) sc.nd (si_range1 (by rfl) z.fr_range (se_v (pv 5))) (own := [("at", 8)]) (blk_of (by rfl)) (fun _ _ _ _ _ => (sg_name sc.nd (by rfl) (by first | exact Or.inl rfl | exact Or.inr rfl))) (fun _ _ _ _ _ => sts_nil) (fun _ _ _ _ _ => (zf_tuple cf z.fr_tuple (sp_cons (po_e (se_fr (so_lc (by rfl) sc.nd (si_e (se_v (pv 2))) (own := [("row", 6)]) (blk_of (by rfl)) (fun _ _ _ _ _ => (sg_name sc.nd (by rfl) (by first | exact Or.inl rfl | exact Or.inr rfl))) (fun _ _ _ _ _ => sts_nil) (fun _ _ _ _ _ => (zm_find (zc_glob z.co_FIGURES z.cr_FIGURES) (sa_cons (se_ix cf (po_v (pv 6)) (po_v (pv 8))) sa_nil)))))) sp_nil))))) | exact ss_setLc true (by rfl) sc.nd (by rfl) (by rfl) (by rfl) (si_range1 (by rfl) z.fr_range (se_v (pv 5))) (own := [("at", 8)]) (blk_of (by rfl)) (fun _ _ _ _ _ => (sg_name sc.nd (by rfl) (by first | exact Or.inl rfl | exact Or.inr rfl))) (fun _ _ _ _ _ => sts_nil) (fun _ _ _ _ _ => (zf_tuple cf z.fr_tuple (sp_cons (po_e (se_fr (so_lc (by rfl) sc.nd (si_e (se_v (pv 2))) (own := [("row", 6)]) (blk_of (by rfl)) (fun _ _ _ _ _ => (sg_name sc.nd (by rfl) (by first | exact Or.inl rfl | exact Or.inr rfl))) (fun _ _ _ _ _ => sts_nil) (fun _ _ _ _ _ => (zm_find (zc_glob z.co_FIGURES z.cr_FIGURES) (sa_cons (se_ix cf (po_v (pv 6)) (po_v (pv 8))) sa_nil)))))) sp_nil))))
  (ss_one (ss_ret (se_fr (zc_make hmak_Sheet hr tkX (sg_cons (ag_e (se_v (pv 4))) (sg_cons (ag_e (zf_len cf z.fr_len (sp_cons (po_v (pv 2)) sp_nil))) (sg_cons (ag_e (se_rev cf (po_v (pv 7)))) sg_nil))))))))))))))))))
theorem sc_p_show_figures : FnScope ["figures", "figure"] ["figures"] (defScope (top 49)) := ⟨rfl, rfl, rfl, by decide +kernel, rfl, by decide +kernel, by decide +kernel⟩
theorem ok_p_show_figures {Pr : Program} {w : World} {K : PySem.W.Frag} {mg : PySem.Str → Option Value} {base : Heap} {a : Addr} {fd : FuncData} (cf : Cf K (ca K)) (z : Gf K mg)
    (F : FunD K "show_figures" "show_figures" (defArgs (top 49)) (defBody (top 49)) (defScope (top 49)) [] [] a fd) : FnOk Pr w K mg base (L2.CX Pr w) 1 a fd ["figures"] (spE K (ca K) f_p_show_figures) :=
  have sc := sc_p_show_figures
  fnED (N := ["figures", "figure"]) (P := []) (b := b_p_show_figures) F sc fun cdv A outer s H E hr =>
  (ss_cons (ss_if (zt_eqD cf hr (po_e (zf_len cf z.fr_len (sp_cons (po_v (pv 0)) sp_nil))) (po_e se_int)) (ss_one (ss_ret se_str)) ss_nil)
  (ss_one (ss_ret (zm_join se_str (sa_cons (se_fr (so_lc (by rfl) sc.nd (si_e (se_v (pv 0))) (own := [("figure", 1)]) (blk_of (by rfl)) (fun _ _ _ _ _ => (sg_name sc.nd (by rfl) (by first | exact Or.inl rfl | exact Or.inr rfl))) (fun _ _ _ _ _ => sts_nil) (fun _ _ _ _ _ => (se_ix cf (po_e (zc_glob z.co_FIGURES z.cr_FIGURES)) (po_v (pv 1)))))) sa_nil)))))
theorem sc_p_show_sheet : FnScope ["sheet", "columns", "parts", "j", "column"] ["sheet"] (defScope (top 50)) := ⟨rfl, rfl, rfl, by decide +kernel, rfl, by decide +kernel, by decide +kernel⟩
theorem ok_p_show_sheet {Pr : Program} {w : World} {K : PySem.W.Frag} {mg : PySem.Str → Option Value} {base : Heap} {a : Addr} {fd : FuncData} (cf : Cf K (ca K)) (z : Gf K mg) (hcal_show_figures : Cal Pr w K mg base (ca K) 1 "show_figures" ["figures"] f_p_show_figures) (hprp_Sheet_base : Prp Pr w K mg base (ca K) 1 "Sheet" "base" ["self"] f_m_Sheet_base) (hprp_Sheet_columns : Prp Pr w K mg base (ca K) 1 "Sheet" "columns" ["self"] f_m_Sheet_columns) (hprp_Sheet_rows : Prp Pr w K mg base (ca K) 1 "Sheet" "rows" ["self"] f_m_Sheet_rows)
    (F : FunD K "show_sheet" "show_sheet" (defArgs (top 50)) (defBody (top 50)) (defScope (top 50)) [] [] a fd) : FnOk Pr w K mg base (L2.CX Pr w) 3 a fd ["sheet"] (spE K (ca K) f_p_show_sheet) :=
  have sc := sc_p_show_sheet
  fnED (N := ["sheet", "columns", "parts", "j", "column"]) (P := []) (b := b_p_show_sheet) F sc fun cdv A outer s H E hr =>
  (ss_cons (ss_set sc.nd (by rfl) (by first | exact Or.inl rfl | exact Or.inr rfl) (se_rev cf (po_e (zc_prop hprp_Sheet_columns hr (ag_e (se_v (pv 0)))))))
  (ss_cons (ss_setO sc.nd (by rfl) (by first | exact Or.inl rfl | exact Or.inr rfl) (so_lst (sa_cons (zb_add cf (po_e (zf_str cf z.fr_str (sp_cons (po_e (zc_prop hprp_Sheet_base hr (ag_e (se_v (pv 0))))) sp_nil))) (po_e se_str)) sa_nil)))
  (ss_cons (ss_for psX (by rfl) (si_range1 (by rfl) z.fr_range (zc_prop hprp_Sheet_rows hr (ag_e (se_v (pv 0))))) (sg_name sc.nd (by rfl) (by first | exact Or.inl rfl | exact Or.inr rfl)) (ss_one (ss_drop (zm_append (pv 2) (sa_cons (zc_call hcal_show_figures hr tkX (sg_cons (ag_e (se_fr (so_lc (by rfl) sc.nd (si_e (se_v (pv 1))) (own := [("column", 4)]) (blk_of (by rfl)) (fun _ _ _ _ _ => (sg_name sc.nd (by rfl) (by first | exact Or.inl rfl | exact Or.inr rfl))) (fun _ _ _ _ _ => sts_nil) (fun _ _ _ _ _ => (se_ix cf (po_v (pv 4)) (po_v (pv 3))))))) sg_nil)) sa_nil)))))
  (ss_one (ss_ret (zm_join se_str (sa_cons (se_fz (pv 2)) sa_nil)))))))
theorem sc_p__law_lots_right : FnScope ["bag", "sheet", "right", "lap", "here", "row", "long", "rows", "order", "many", "lots", "other", "more", "some", "column"] ["bag", "sheet", "right"] (defScope (top 62)) := ⟨rfl, rfl, rfl, by decide +kernel, rfl, by decide +kernel, by decide +kernel⟩
theorem ok_p__law_lots_right {Pr : Program} {w : World} {K : PySem.W.Frag} {mg : PySem.Str → Option Value} {base : Heap} {a : Addr} {fd : FuncData} (cf : Cf K (ca K)) (z : Gf K mg) (hcal__law_is_sum : Cal Pr w K mg base (ca K) 7 "_law_is_sum" ["sheet", "right", "other"] f_p__law_is_sum) (hcal__law_lot : Cal Pr w K mg base (ca K) 5 "_law_lot" ["sheet", "rows"] f_p__law_lot) (hcal__law_mixed : Cal Pr w K mg base (ca K) 2 "_law_mixed" ["bag", "items"] f_p__law_mixed) (hcal__law_row : Cal Pr w K mg base (ca K) 3 "_law_row" ["written", "long"] f_p__law_row) (hcal__law_sheet : Cal Pr w K mg base (ca K) 5 "_law_sheet" ["base", "rows"] f_p__law_sheet) (hcal__law_take : Cal Pr w K mg base (ca K) 1 "_law_take" ["bag", "many"] f_p__law_take) (hcal_add_right : Cal Pr w K mg base (ca K) 6 "add_right" ["sheet"] f_p_add_right) (hcal_read_sheet : Cal Pr w K mg base (ca K) 5 "read_sheet" ["text"] f_p_read_sheet) (hcal_show_sheet : Cal Pr w K mg base (ca K) 3 "show_sheet" ["sheet"] f_p_show_sheet) (hmet_Sheet_zeqz : Met Pr w K mg base (ca K) 2 "Sheet" "__eq__" ["self", "other"] f_m_Sheet_zeqz) (hmet_Sheet_zlenz : Met Pr w K mg base (ca K) 1 "Sheet" "__len__" ["self"] f_m_Sheet_zlenz) (hmet_Written_zeqz : Met Pr w K mg base (ca K) 1 "Written" "__eq__" ["self", "other"] f_m_Written_zeqz) (hne_Sheet : NeC K (He.ga K "Sheet")) (hne_Written : NeC K (He.ga K "Written")) (hprp_Sheet_base : Prp Pr w K mg base (ca K) 1 "Sheet" "base" ["self"] f_m_Sheet_base) (hprp_Sheet_columns : Prp Pr w K mg base (ca K) 1 "Sheet" "columns" ["self"] f_m_Sheet_columns) (hprp_Sheet_rows : Prp Pr w K mg base (ca K) 1 "Sheet" "rows" ["self"] f_m_Sheet_rows)
    (F : FunD K "_law_lots_right" "_law_lots_right" (defArgs (top 62)) (defBody (top 62)) (defScope (top 62)) [] [] a fd) : FnOk Pr w K mg base (L2.CX Pr w) 8 a fd ["bag", "sheet", "right"] (spE K (ca K) f_p__law_lots_right) :=
  have sc := sc_p__law_lots_right
  fnED (N := ["bag", "sheet", "right", "lap", "here", "row", "long", "rows", "order", "many", "lots", "other", "more", "some", "column"]) (P := [0]) (b := b_p__law_lots_right) F sc fun cdv A outer s H E hr =>
  (ss_cons (by first | exact ss_par2 (by rfl) sc.nd (by rfl) (by rfl) (by decide) (by rfl) (by rfl) (sg_cons (ag_e (zb_add cf (po_e (zc_len hmet_Sheet_zlenz hr z.fr_len (se_v (pv 1)))) (po_e se_int))) (sg_cons (ag_e (se_fr (so_lr (by rfl) (by rfl) z.fr_list (by rfl) z.fr_range (zc_prop hprp_Sheet_rows hr (ag_e (se_v (pv 1))))))) sg_nil)) (by rfl) | exact ss_parT (by rfl) (is := [6, 7]) (pgs_cons (pg_name sc.nd (by rfl) (by first | exact Or.inl rfl | exact Or.inr rfl) (by first | exact .inl rfl | exact .inr rfl)) (pgs_cons (pg_name sc.nd (by rfl) (by first | exact Or.inl rfl | exact Or.inr rfl) (by first | exact .inl rfl | exact .inr rfl)) pgs_nil)) (sg_cons (ag_e (zb_add cf (po_e (zc_len hmet_Sheet_zlenz hr z.fr_len (se_v (pv 1)))) (po_e se_int))) (sg_cons (ag_e (se_fr (so_lr (by rfl) (by rfl) z.fr_list (by rfl) z.fr_range (zc_prop hprp_Sheet_rows hr (ag_e (se_v (pv 1))))))) sg_nil)))
  (ss_cons (ss_for psX (by rfl) (si_range1 (by rfl) z.fr_range se_int) (sg_name sc.nd (by rfl) (by first | exact Or.inl rfl | exact Or.inr rfl)) (ss_cons (ss_set sc.nd (by rfl) (by first | exact Or.inl rfl | exact Or.inr rfl) (zc_call hcal__law_mixed hr tkX (sg_cons (ag_mu (pv 0)) (sg_cons (ag_e (se_v (pv 7))) sg_nil))))
  (ss_cons (ss_set sc.nd (by rfl) (by first | exact Or.inl rfl | exact Or.inr rfl) (zb_add cf (po_e se_int) (po_e (zc_call hcal__law_take hr tkX (sg_cons (ag_mu (pv 0)) (sg_cons (ag_e (zb_sub cf (po_e (zc_prop hprp_Sheet_rows hr (ag_e (se_v (pv 1))))) (po_e se_int))) sg_nil))))))
  (ss_cons (by first | exact ss_set sc.nd (by rfl) (by first | exact Or.inl rfl | exact Or.inr rfl) (se_fr (so_lc (by rfl) sc.nd (si_e (se_lst (sa_cons (se_sl (se_v (pv 8)) pl_none (pl_some (se_v (pv 9)))) (sa_cons (se_sl (se_v (pv 8)) (pl_some (se_v (pv 9))) pl_none) sa_nil)))) (own := [("some", 13)]) (blk_of (by rfl)) (fun _ _ _ _ _ => (sg_name sc.nd (by rfl) (by first | exact Or.inl rfl | exact Or.inr rfl))) (fun _ _ _ _ _ => sts_nil) (fun _ _ _ _ _ => (zc_call hcal__law_row hr Ev.takes0 (sg_cons (ag_e (zc_call hcal_add_right hr Ev.takes0 (sg_cons (ag_e (zc_call hcal__law_lot hr Ev.takes0 (sg_cons (ag_e (se_v (pv 1))) (sg_cons (ag_e (se_v (pv 13))) sg_nil)))) sg_nil))) (sg_cons (ag_e (se_v (pv 6))) sg_nil)))))) | exact ss_setLc true (by rfl) sc.nd (by rfl) (by rfl) (by rfl) (si_e (se_lst (sa_cons (se_sl (se_v (pv 8)) pl_none (pl_some (se_v (pv 9)))) (sa_cons (se_sl (se_v (pv 8)) (pl_some (se_v (pv 9))) pl_none) sa_nil)))) (own := [("some", 13)]) (blk_of (by rfl)) (fun _ _ _ _ _ => (sg_name sc.nd (by rfl) (by first | exact Or.inl rfl | exact Or.inr rfl))) (fun _ _ _ _ _ => sts_nil) (fun _ _ _ _ _ => (zc_call hcal__law_row hr Ev.takes0 (sg_cons (ag_e (zc_call hcal_add_right hr Ev.takes0 (sg_cons (ag_e (zc_call hcal__law_lot hr Ev.takes0 (sg_cons (ag_e (se_v (pv 1))) (sg_cons (ag_e (se_v (pv 13))) sg_nil)))) sg_nil))) (sg_cons (ag_e (se_v (pv 6))) sg_nil)))))
  (ss_cons (ss_set sc.nd (by rfl) (by first | exact Or.inl rfl | exact Or.inr rfl) (zc_call hcal__law_sheet hr tkX (sg_cons (ag_e (zc_prop hprp_Sheet_base hr (ag_e (se_v (pv 1))))) (sg_cons (ag_e (se_v (pv 10))) sg_nil))))
  (ss_cons (ss_if (st_or (st_not (st_tru cf (po_e (zc_call hcal__law_is_sum hr tkX (sg_cons (ag_e (se_v (pv 1))) (sg_cons (ag_e (se_v (pv 2))) (sg_cons (ag_e (se_v (pv 11))) sg_nil))))))) (st_or1 (zt_ne hmet_Sheet_zeqz hne_Sheet hr (zc_call hcal_read_sheet hr tkX (sg_cons (ag_e (zc_call hcal_show_sheet hr tkX (sg_cons (ag_e (se_v (pv 11))) sg_nil))) sg_nil)) (se_v (pv 11))))).pt (ss_one (ss_ret se_bl)) ss_nil)
  (ss_one (ss_if (zt_ne hmet_Written_zeqz hne_Written hr (zc_call hcal_add_right hr tkX (sg_cons (ag_e (zc_call hcal__law_lot hr tkX (sg_cons (ag_e (se_v (pv 1))) (sg_cons (ag_e (se_v (pv 8))) sg_nil)))) sg_nil)) (se_v (pv 2))) (ss_one (ss_ret se_bl)) ss_nil))))))))
  (ss_cons (ss_set sc.nd (by rfl) (by first | exact Or.inl rfl | exact Or.inr rfl) (zc_call hcal__law_row hr tkX (sg_cons (ag_e (zc_call hcal_add_right hr tkX (sg_cons (ag_e (zc_call hcal__law_lot hr tkX (sg_cons (ag_e (se_v (pv 1))) (sg_cons (ag_e (se_lst (sa_cons se_int sa_nil))) sg_nil)))) sg_nil))) (sg_cons (ag_e (se_v (pv 6))) sg_nil))))
  (ss_cons (ss_for psX (by rfl) (si_e (se_sl (se_v (pv 7)) (pl_some se_int) pl_none)) (sg_name sc.nd (by rfl) (by first | exact Or.inl rfl | exact Or.inr rfl)) (ss_cons (ss_set sc.nd (by rfl) (by first | exact Or.inl rfl | exact Or.inr rfl) (zb_add cf (po_e (se_fr (so_lc (by rfl) sc.nd (si_e (zc_prop hprp_Sheet_columns hr (ag_e (se_v (pv 1))))) (own := [("column", 14)]) (blk_of (by rfl)) (fun _ _ _ _ _ => (sg_name sc.nd (by rfl) (by first | exact Or.inl rfl | exact Or.inr rfl))) (fun _ _ _ _ _ => sts_nil) (fun _ _ _ _ _ => (se_ix cf (po_v (pv 14)) (po_v (pv 5))))))) (po_e (se_lst (sa_cons se_int (sa_cons se_int (sa_cons se_int sa_nil)))))))
  (ss_one (ss_set sc.nd (by rfl) (by first | exact Or.inl rfl | exact Or.inr rfl) (zc_call hcal__law_row hr tkX (sg_cons (ag_e (zc_call hcal_add_right hr tkX (sg_cons (ag_e (zc_call hcal__law_sheet hr tkX (sg_cons (ag_e (zc_prop hprp_Sheet_base hr (ag_e (se_v (pv 1))))) (sg_cons (ag_e (se_lst (sa_cons (se_v (pv 4)) (sa_cons (se_v (pv 12)) sa_nil)))) sg_nil)))) sg_nil))) (sg_cons (ag_e (se_v (pv 6))) sg_nil)))))))
  (ss_one (ss_ret (zc_call hcal__law_is_sum hr tkX (sg_cons (ag_e (se_v (pv 1))) (sg_cons (ag_e (se_v (pv 2))) (sg_cons (ag_e (zc_call hcal__law_sheet hr tkX (sg_cons (ag_e (zc_prop hprp_Sheet_base hr (ag_e (se_v (pv 1))))) (sg_cons (ag_e (se_lst (sa_cons (se_v (pv 4)) sa_nil))) sg_nil)))) sg_nil))))))))))
theorem sc_m_Written_zsubz : FnScope ["self", "other"] ["self", "other"] (defScope (sub 23 6)) := ⟨rfl, rfl, rfl, by decide +kernel, rfl, by decide +kernel, by decide +kernel⟩
theorem ok_m_Written_zsubz {Pr : Program} {w : World} {K : PySem.W.Frag} {mg : PySem.Str → Option Value} {base : Heap} {a : Addr} {fd : FuncData} (cf : Cf K (ca K)) (z : Gf K mg) (hprp_Sheet_value : Prp Pr w K mg base (ca K) 1 "Sheet" "value" ["self"] f_m_Sheet_value) (hprp_Written_value : Prp Pr w K mg base (ca K) 1 "Written" "value" ["self"] f_m_Written_value)
    (F : FunD K "__sub__" "Written.__sub__" (defArgs (sub 23 6)) (defBody (sub 23 6)) (defScope (sub 23 6)) [] [] a fd) : FnOk Pr w K mg base (L2.CX Pr w) 3 a fd ["self", "other"] (spE K (ca K) f_m_Written_zsubz) :=
  have sc := sc_m_Written_zsubz
  fnED (N := ["self", "other"]) (P := []) (b := b_m_Written_zsubz) F sc fun cdv A outer s H E hr =>
  (ss_one (ss_ret (zb_sub cf (po_e (zc_prop hprp_Written_value hr (ag_e (se_v (pv 0))))) (po_e (zc_prop hprp_Sheet_value hr (ag_e (se_v (pv 1))))))))
theorem sc_p__law_slip_right : FnScope ["bag", "sheet", "right", "other", "step", "act", "at", "power_v"] ["bag", "sheet", "right"] (defScope (top 64)) := ⟨rfl, rfl, rfl, by decide +kernel, rfl, by decide +kernel, by decide +kernel⟩
theorem ok_p__law_slip_right {Pr : Program} {w : World} {K : PySem.W.Frag} {mg : PySem.Str → Option Value} {base : Heap} {a : Addr} {fd : FuncData} (cf : Cf K (ca K)) (z : Gf K mg) (hbd_Written_Sheet_zsubz : BinD K (He.ga K "Written") (He.ga K "Sheet") "__sub__" "__rsub__") (hcal__law_row : Cal Pr w K mg base (ca K) 3 "_law_row" ["written", "long"] f_p__law_row) (hcal__law_sheet : Cal Pr w K mg base (ca K) 5 "_law_sheet" ["base", "rows"] f_p__law_sheet) (hcal__law_take : Cal Pr w K mg base (ca K) 1 "_law_take" ["bag", "many"] f_p__law_take) (hcal_add_with : Cal Pr w K mg base (ca K) 6 "add_with" ["sheet", "slips"] f_p_add_with) (hmet_Sheet_zlenz : Met Pr w K mg base (ca K) 1 "Sheet" "__len__" ["self"] f_m_Sheet_zlenz) (hmet_Written_zsubz : Met Pr w K mg base (ca K) 3 "Written" "__sub__" ["self", "other"] f_m_Written_zsubz) (hprp_Sheet_base : Prp Pr w K mg base (ca K) 1 "Sheet" "base" ["self"] f_m_Sheet_base)
    (F : FunD K "_law_slip_right" "_law_slip_right" (defArgs (top 64)) (defBody (top 64)) (defScope (top 64)) [] [] a fd) : FnOk Pr w K mg base (L2.CX Pr w) 7 a fd ["bag", "sheet", "right"] (spE K (ca K) f_p__law_slip_right) :=
  have sc := sc_p__law_slip_right
  fnED (N := ["bag", "sheet", "right", "other", "step", "act", "at", "power_v"]) (P := [0]) (b := b_p__law_slip_right) F sc fun cdv A outer s H E hr =>
  (ss_cons (ss_if (zt_lt cf (po_e (zc_len hmet_Sheet_zlenz hr z.fr_len (se_v (pv 1)))) (po_e se_int)) (ss_one (ss_ret se_bl)) ss_nil)
  (ss_cons (ss_set sc.nd (by rfl) (by first | exact Or.inl rfl | exact Or.inr rfl) (zc_call hcal__law_sheet hr tkX (sg_cons (ag_e (zc_prop hprp_Sheet_base hr (ag_e (se_v (pv 1))))) (sg_cons (ag_e (se_lst (sa_cons (zc_call hcal__law_row hr tkX (sg_cons (ag_e (se_v (pv 2))) (sg_cons (ag_e (zb_add cf (po_e (zc_len hmet_Sheet_zlenz hr z.fr_len (se_v (pv 1)))) (po_e se_int))) sg_nil))) sa_nil))) sg_nil))))
  (ss_cons (by first | exact ss_par2 (by rfl) sc.nd (by rfl) (by rfl) (by decide) (by rfl) (by rfl) (sg_cons (ag_e (zc_call hcal__law_take hr tkX (sg_cons (ag_mu (pv 0)) (sg_cons (ag_e (zb_sub cf (po_e (zc_len hmet_Sheet_zlenz hr z.fr_len (se_v (pv 1)))) (po_e se_int))) sg_nil)))) (sg_cons (ag_e se_int) sg_nil)) (by rfl) | exact ss_parT (by rfl) (is := [6, 7]) (pgs_cons (pg_name sc.nd (by rfl) (by first | exact Or.inl rfl | exact Or.inr rfl) (by first | exact .inl rfl | exact .inr rfl)) (pgs_cons (pg_name sc.nd (by rfl) (by first | exact Or.inl rfl | exact Or.inr rfl) (by first | exact .inl rfl | exact .inr rfl)) pgs_nil)) (sg_cons (ag_e (zc_call hcal__law_take hr tkX (sg_cons (ag_mu (pv 0)) (sg_cons (ag_e (zb_sub cf (po_e (zc_len hmet_Sheet_zlenz hr z.fr_len (se_v (pv 1)))) (po_e se_int))) sg_nil)))) (sg_cons (ag_e se_int) sg_nil)))
  (ss_cons (ss_for psX (by rfl) (si_range1 (by rfl) z.fr_range (se_v (pv 6))) (sg_name sc.nd (by rfl) (by first | exact Or.inl rfl | exact Or.inr rfl)) (ss_one (ss_set sc.nd (by rfl) (by first | exact Or.inl rfl | exact Or.inr rfl) (zb_mul cf (po_v (pv 7)) (po_e (zc_prop hprp_Sheet_base hr (ag_e (se_v (pv 1)))))))))
  (ss_cons (ss_for psX (by rfl) (si_e (se_lst (sa_cons (se_tup (sa_cons se_str (sa_cons (zb_add cf (po_e se_int) (po_e (zc_call hcal__law_take hr tkX (sg_cons (ag_mu (pv 0)) (sg_cons (ag_e (zb_sub cf (po_e (zc_prop hprp_Sheet_base hr (ag_e (se_v (pv 1))))) (po_e se_int))) sg_nil))))) sa_nil))) (sa_cons (se_tup (sa_cons se_str sa_nil)) sa_nil)))) (sg_name sc.nd (by rfl) (by first | exact Or.inl rfl | exact Or.inr rfl)) (ss_one (ss_if (zt_neD cf hr (po_e (zc_binD hmet_Written_zsubz hbd_Written_Sheet_zsubz hr (zc_call hcal_add_with hr tkX (sg_cons (ag_e (se_v (pv 3))) (sg_cons (ag_e (se_lst (sa_cons (se_tup (sa_cons (se_v (pv 6)) (sa_cons (se_v (pv 5)) sa_nil))) sa_nil))) sg_nil))) (se_v (pv 3)))) (po_e (zc_binD hmet_Written_zsubz hbd_Written_Sheet_zsubz hr (zc_call hcal_add_with hr tkX (sg_cons (ag_e (se_v (pv 1))) (sg_cons (ag_e (se_lst (sa_cons (se_tup (sa_cons (se_v (pv 6)) (sa_cons (se_v (pv 5)) sa_nil))) sa_nil))) sg_nil))) (se_v (pv 1))))) (ss_one (ss_ret se_bl)) ss_nil)))
  (ss_one (ss_ret (zb_eq cf hr (po_e (zc_binD hmet_Written_zsubz hbd_Written_Sheet_zsubz hr (zc_call hcal_add_with hr tkX (sg_cons (ag_e (se_v (pv 3))) (sg_cons (ag_e (se_lst (sa_cons (se_tup (sa_cons (se_v (pv 6)) (sa_cons (se_tup (sa_cons se_str sa_nil)) sa_nil))) sa_nil))) sg_nil))) (se_v (pv 3)))) (po_e (zb_mul cf (po_v (pv 7)) (po_e (zc_prop hprp_Sheet_base hr (ag_e (se_v (pv 1)))))))))))))))
theorem sc_p__law_zeros_right : FnScope ["sheet", "right", "column"] ["sheet", "right"] (defScope (top 63)) := ⟨rfl, rfl, rfl, by decide +kernel, rfl, by decide +kernel, by decide +kernel⟩
theorem ok_p__law_zeros_right {Pr : Program} {w : World} {K : PySem.W.Frag} {mg : PySem.Str → Option Value} {base : Heap} {a : Addr} {fd : FuncData} (cf : Cf K (ca K)) (z : Gf K mg) (hcal_add_right : Cal Pr w K mg base (ca K) 6 "add_right" ["sheet"] f_p_add_right) (hmak_Sheet : Mak Pr w K mg base (ca K) 3 "Sheet" ["self", "base", "rows", "columns"] f_m_Sheet_zinitz) (hmet_Written_zeqz : Met Pr w K mg base (ca K) 1 "Written" "__eq__" ["self", "other"] f_m_Written_zeqz) (hprp_Sheet_base : Prp Pr w K mg base (ca K) 1 "Sheet" "base" ["self"] f_m_Sheet_base) (hprp_Sheet_columns : Prp Pr w K mg base (ca K) 1 "Sheet" "columns" ["self"] f_m_Sheet_columns) (hprp_Sheet_rows : Prp Pr w K mg base (ca K) 1 "Sheet" "rows" ["self"] f_m_Sheet_rows)
    (F : FunD K "_law_zeros_right" "_law_zeros_right" (defArgs (top 63)) (defBody (top 63)) (defScope (top 63)) [] [] a fd) : FnOk Pr w K mg base (L2.CX Pr w) 7 a fd ["sheet", "right"] (spE K (ca K) f_p__law_zeros_right) :=
  have sc := sc_p__law_zeros_right
  fnED (N := ["sheet", "right", "column"]) (P := []) (b := b_p__law_zeros_right) F sc fun cdv A outer s H E hr =>
  (ss_cons (ss_if (zt_eqD cf hr (po_e (zc_prop hprp_Sheet_rows hr (ag_e (se_v (pv 0))))) (po_e se_int)) (ss_one (ss_ret se_bl)) ss_nil)
  (ss_one (ss_ret (zc_eq hmet_Written_zeqz hr (zc_call hcal_add_right hr tkX (sg_cons (ag_e (se_fr (zc_make hmak_Sheet hr tkX (sg_cons (ag_e (zc_prop hprp_Sheet_base hr (ag_e (se_v (pv 0))))) (sg_cons (ag_e (zb_add cf (po_e (zc_prop hprp_Sheet_rows hr (ag_e (se_v (pv 0))))) (po_e se_int))) (sg_cons (ag_e (se_fr (so_lc (by rfl) sc.nd (si_e (zc_prop hprp_Sheet_columns hr (ag_e (se_v (pv 0))))) (own := [("column", 2)]) (blk_of (by rfl)) (fun _ _ _ _ _ => (sg_name sc.nd (by rfl) (by first | exact Or.inl rfl | exact Or.inr rfl))) (fun _ _ _ _ _ => sts_nil) (fun _ _ _ _ _ => (zb_add cf (po_v (pv 2)) (po_e (se_tup (sa_cons se_int sa_nil)))))))) sg_nil)))))) sg_nil)) (se_v (pv 1))))))
theorem sc_p__law_right : FnScope ["script", "k", "bag", "columns", "column", "sheet", "right", "base", "rows", "some", "row"] ["script", "k"] (defScope (top 66)) := ⟨rfl, rfl, rfl, by decide +kernel, rfl, by decide +kernel, by decide +kernel⟩
theorem ok_p__law_right {Pr : Program} {w : World} {K : PySem.W.Frag} {mg : PySem.Str → Option Value} {base : Heap} {a : Addr} {fd : FuncData} (cf : Cf K (ca K)) (z : Gf K mg) (hcal__law_ledger_right : Cal Pr w K mg base (ca K) 9 "_law_ledger_right" ["sheet", "right"] f_p__law_ledger_right) (hcal__law_lots_right : Cal Pr w K mg base (ca K) 8 "_law_lots_right" ["bag", "sheet", "right"] f_p__law_lots_right) (hcal__law_slip_right : Cal Pr w K mg base (ca K) 7 "_law_slip_right" ["bag", "sheet", "right"] f_p__law_slip_right) (hcal__law_take : Cal Pr w K mg base (ca K) 1 "_law_take" ["bag", "many"] f_p__law_take) (hcal__law_zeros_right : Cal Pr w K mg base (ca K) 7 "_law_zeros_right" ["sheet", "right"] f_p__law_zeros_right) (hcal_add_right : Cal Pr w K mg base (ca K) 6 "add_right" ["sheet"] f_p_add_right) (hcalo__law_bag : CalO Pr w K mg base (ca K) 1 "_law_bag" ["script", "k"] f_p__law_bag) (hmak_Sheet : Mak Pr w K mg base (ca K) 3 "Sheet" ["self", "base", "rows", "columns"] f_m_Sheet_zinitz)
    (F : FunD K "_law_right" "_law_right" (defArgs (top 66)) (defBody (top 66)) (defScope (top 66)) [] [] a fd) : FnOk Pr w K mg base (L2.CX Pr w) 10 a fd ["script", "k"] (spE K (ca K) f_p__law_right) :=
  have sc := sc_p__law_right
  fnED (N := ["script", "k", "bag", "columns", "column", "sheet", "right", "base", "rows", "some", "row"]) (P := []) (b := b_p__law_right) F sc fun cdv A outer s H E hr =>
  (ss_cons (ss_setO sc.nd (by rfl) (by first | exact Or.inl rfl | exact Or.inr rfl) (zo_call hcalo__law_bag hr tkX (sg_cons (ag_e (se_v (pv 0))) (sg_cons (ag_e (se_v (pv 1))) sg_nil))))
  (ss_cons (by first | exact ss_par2 (by rfl) sc.nd (by rfl) (by rfl) (by decide) (by rfl) (by rfl) (sg_cons (ag_e (zb_add cf (po_e se_int) (po_e (zc_call hcal__law_take hr tkX (sg_cons (ag_mu (pv 2)) (sg_cons (ag_e se_int) sg_nil)))))) (sg_cons (ag_e (zb_add cf (po_e se_int) (po_e (zc_call hcal__law_take hr tkX (sg_cons (ag_mu (pv 2)) (sg_cons (ag_e se_int) sg_nil)))))) sg_nil)) (by rfl) | exact ss_parT (by rfl) (is := [7, 8]) (pgs_cons (pg_name sc.nd (by rfl) (by first | exact Or.inl rfl | exact Or.inr rfl) (by first | exact .inl rfl | exact .inr rfl)) (pgs_cons (pg_name sc.nd (by rfl) (by first | exact Or.inl rfl | exact Or.inr rfl) (by first | exact .inl rfl | exact .inr rfl)) pgs_nil)) (sg_cons (ag_e (zb_add cf (po_e se_int) (po_e (zc_call hcal__law_take hr tkX (sg_cons (ag_mu (pv 2)) (sg_cons (ag_e se_int) sg_nil)))))) (sg_cons (ag_e (zb_add cf (po_e se_int) (po_e (zc_call hcal__law_take hr tkX (sg_cons (ag_mu (pv 2)) (sg_cons (ag_e se_int) sg_nil)))))) sg_nil)))
  (ss_cons (ss_setO sc.nd (by rfl) (by first | exact Or.inl rfl | exact Or.inr rfl) (so_lst sa_nil))
  (ss_cons (ss_for psX (by rfl) (si_range1 (by rfl) z.fr_range (zc_call hcal__law_take hr tkX (sg_cons (ag_mu (pv 2)) (sg_cons (ag_e (se_ix cf (po_e (se_lst (sa_cons se_int (sa_cons se_int sa_nil)))) (po_e (zf_int cf z.fr_int (sp_cons (po_e (zb_eq cf hr (po_v (pv 1)) (po_e se_int))) sp_nil))))) sg_nil)))) (sg_name sc.nd (by rfl) (by first | exact Or.inl rfl | exact Or.inr rfl)) (ss_cons (ss_set sc.nd (by rfl) (by first | exact Or.inl rfl | exact Or.inr rfl) (zf_tuple cf z.fr_tuple (sp_cons (po_e (se_fr (so_lc (by rfl) sc.nd (si_range1 (by rfl) z.fr_range (se_v (pv 8))) (own := [("row", 10)]) (blk_of (by rfl)) (fun _ _ _ _ _ => (sg_name sc.nd (by rfl) (by first | exact Or.inl rfl | exact Or.inr rfl))) (fun _ _ _ _ _ => sts_nil) (fun _ _ _ _ _ => (zc_call hcal__law_take hr Ev.takes0 (sg_cons (ag_mu (pv 2)) (sg_cons (ag_e (se_v (pv 7))) sg_nil))))))) sp_nil)))
  (ss_one (ss_drop (zm_append (pv 3) (sa_cons (se_ix cf (po_e (se_lst (sa_cons (se_v (pv 9)) (sa_cons (zf_tuple cf z.fr_tuple (sp_cons (po_e (zb_mul cf (po_e (se_lst (sa_cons (zb_sub cf (po_v (pv 7)) (po_e se_int)) sa_nil))) (po_v (pv 8)))) sp_nil)) sa_nil)))) (po_e (zc_call hcal__law_take hr tkX (sg_cons (ag_mu (pv 2)) (sg_cons (ag_e se_int) sg_nil))))) sa_nil))))))
  (ss_cons (ss_set sc.nd (by rfl) (by first | exact Or.inl rfl | exact Or.inr rfl) (se_fr (zc_make hmak_Sheet hr tkX (sg_cons (ag_e (se_v (pv 7))) (sg_cons (ag_e (se_v (pv 8))) (sg_cons (ag_e (se_fz (pv 3))) sg_nil))))))
  (ss_cons (ss_set sc.nd (by rfl) (by first | exact Or.inl rfl | exact Or.inr rfl) (zc_call hcal_add_right hr tkX (sg_cons (ag_e (se_v (pv 5))) sg_nil)))
  (ss_cons (ss_if (st_or (st_not (st_tru cf (po_e (zc_call hcal__law_lots_right hr tkX (sg_cons (ag_mu (pv 2)) (sg_cons (ag_e (se_v (pv 5))) (sg_cons (ag_e (se_v (pv 6))) sg_nil))))))) (st_or1 (st_not (st_tru cf (po_e (zc_call hcal__law_zeros_right hr tkX (sg_cons (ag_e (se_v (pv 5))) (sg_cons (ag_e (se_v (pv 6))) sg_nil)))))))).pt (ss_one (ss_ret se_bl)) ss_nil)
  (ss_one (ss_ret (se_and (zc_call hcal__law_slip_right hr tkX (sg_cons (ag_mu (pv 2)) (sg_cons (ag_e (se_v (pv 5))) (sg_cons (ag_e (se_v (pv 6))) sg_nil)))) (se_one (zc_call hcal__law_ledger_right hr tkX (sg_cons (ag_e (se_v (pv 5))) (sg_cons (ag_e (se_v (pv 6))) sg_nil))))))))))))))
theorem sc_p_law : FnScope ["script", "k"] ["script"] (defScope (top 67)) := ⟨rfl, rfl, rfl, by decide +kernel, rfl, by decide +kernel, by decide +kernel⟩
theorem ok_p_law {Pr : Program} {w : World} {K : PySem.W.Frag} {mg : PySem.Str → Option Value} {base : Heap} {a : Addr} {fd : FuncData} (cf : Cf K (ca K)) (z : Gf K mg) (hcal__law_right : Cal Pr w K mg base (ca K) 10 "_law_right" ["script", "k"] f_p__law_right)
    (F : FunD K "law" "law" (defArgs (top 67)) (defBody (top 67)) (defScope (top 67)) [] [] a fd) : FnOk Pr w K mg base (L2.CX Pr w) 11 a fd ["script"] (spE K (ca K) f_p_law) :=
  have sc := sc_p_law
  fnED (N := ["script", "k"]) (P := []) (b := b_p_law) F sc fun cdv A outer s H E hr =>
  (ss_cons (ss_for psX (by rfl) (si_range1 (by rfl) z.fr_range (zf_max cf (by rfl) z.fr_max (sp_cons (po_e se_int) (sp_cons (po_e (zf_min cf (by rfl) z.fr_min (sp_cons (po_e se_int) (sp_cons (po_e (zf_len cf z.fr_len (sp_cons (po_v (pv 0)) sp_nil))) sp_nil)))) sp_nil)))) (sg_name sc.nd (by rfl) (by first | exact Or.inl rfl | exact Or.inr rfl)) (ss_one (ss_if (st_not (st_tru cf (po_e (zc_call hcal__law_right hr tkX (sg_cons (ag_e (se_v (pv 0))) (sg_cons (ag_e (se_v (pv 1))) sg_nil)))))) (ss_one (ss_ret se_bl)) ss_nil)))
  (ss_one (ss_ret se_bl)))
end K83
namespace K83
open PySem PySem.Spec PyProof.Rows L2 Ev
def fa : List Zf := [.cf cs fs,
  .fa (.free "abs"),
  .fa (.free "all"),
  .fa (.free "bool"),
  .fa (.free "enumerate"),
  .fa (.free "int"),
  .fa (.free "isinstance"),
  .fa (.free "len"),
  .fa (.free "list"),
  .fa (.free "max"),
  .fa (.free "min"),
  .fa (.free "range"),
  .fa (.free "str"),
  .fa (.free "sum"),
  .fa (.free "tuple"),
  .fa (.str "DIGITS" "0123456789"),
  .fa (.str "FIGURES" "0123456789ab"),
  .fa (.int "MOST_COLUMNS" 1000),
  .fa (.int "MOST_DEEDS" 8),
  .fa (.glo "PLAIN"),
  .tup "PLAIN" ((["forget", "again", "swap", "out", "twice"] : List PySem.Str).map He.Dv.str),
  .fa (.glo "is_integer"),
  .fa (.glo "is_column"),
  .fa (.mkr "Sheet"),
  .fa (.glo "Sheet"),
  .fa (.glo "_law_bag"),
  .fa (.glo "all_deeds"),
  .fa (.glo "is_deed"),
  .fa (.glo "number_of_columns"),
  .fa (.mkr "Kind"),
  .fa (.glo "Kind"),
  .fa (.glo "check_lot"),
  .fa (.mkr "Ledger"),
  .fa (.glo "Ledger"),
  .prop "Kind" "base",
  .prop "Kind" "rows",
  .prop "Kind" "most",
  .fa (.glo "beginning"),
  .prop "Ledger" "standing",
  .prop "Kind" "deeds",
  .fa (.glo "copy_rows"),
  .fa (.glo "done_rightly"),
  .fa (.glo "power"),
  .fa (.glo "near_behind"),
  .fa (.glo "next_standing"),
  .fa (.meth "Ledger" "put"),
  .prop "Ledger" "sheet",
  .prop "Ledger" "slips",
  .prop "Ledger" "waits",
  .prop "Sheet" "base",
  .prop "Sheet" "columns",
  .fa (.mkr "Adding"),
  .fa (.glo "Adding"),
  .fa (.glo "taken"),
  .fa (.glo "done"),
  .fa (.meth "Adding" "do"),
  .fa (.meth "Adding" "do_until"),
  .fa (.meth "Adding" "free"),
  .fa (.mkr "Written"),
  .fa (.glo "Written"),
  .fa (.meth "Adding" "result"),
  .fa (.meth "Sheet" "__len__"),
  .prop "Sheet" "rows",
  .fa (.glo "is_slip"),
  .fa (.glo "add_with"),
  .fa (.meth "Ledger" "result"),
  .fa (.meth "Sheet" "place"),
  .ins "Sheet",
  .fa (.meth "Sheet" "__eq__"),
  .ins "Written",
  .fa (.meth "Written" "__eq__"),
  .fa (.glo "_law_ledger_right"),
  .prop "Sheet" "value",
  .prop "Written" "figures",
  .prop "Written" "last",
  .prop "Written" "value",
  .fa (.glo "add_right"),
  .fa (.glo "_law_is_sum"),
  .fa (.glo "_law_lot"),
  .fa (.glo "_law_take"),
  .fa (.glo "_law_mixed"),
  .prop "Written" "base",
  .fa (.glo "_law_digits"),
  .fa (.glo "_law_row"),
  .fa (.glo "_law_sheet"),
  .fa (.glo "is_number"),
  .fa (.glo "read_sheet"),
  .fa (.glo "show_figures"),
  .fa (.glo "show_sheet"),
  .ne "Sheet",
  .obj "Sheet",
  .ne "Written",
  .obj "Written",
  .fa (.glo "_law_lots_right"),
  .fa (.meth "Written" "__sub__"),
  .first "Written",
  .differ "Written" "Sheet",
  .bare "Sheet",
  .nofind "Sheet" "__sub__",
  .nofind "Sheet" "__rsub__",
  .noobj "__sub__",
  .noobj "__rsub__",
  .fa (.glo "_law_slip_right"),
  .fa (.glo "_law_zeros_right"),
  .fa (.glo "_law_right"),
  .fa (.glo "law")]
def fn : List DefZ := [⟨fun K => (He.ga K "is_integer"), "is_integer", "is_integer", (top 13), []⟩,
  ⟨fun K => (He.ga K "is_column"), "is_column", "is_column", (top 14), []⟩,
  ⟨fun K => (He.ma K (He.ga K "Sheet") "__init__"), "__init__", "Sheet.__init__", (sub 15 0), []⟩,
  ⟨fun K => (He.ga K "_law_bag"), "_law_bag", "_law_bag", (top 54), []⟩,
  ⟨fun K => (He.ga K "all_deeds"), "all_deeds", "all_deeds", (top 18), []⟩,
  ⟨fun K => (He.ga K "is_deed"), "is_deed", "is_deed", (top 19), []⟩,
  ⟨fun K => (He.ga K "number_of_columns"), "number_of_columns", "number_of_columns", (top 31), []⟩,
  ⟨fun K => (He.ma K (He.ga K "Kind") "__init__"), "__init__", "Kind.__init__", (sub 32 0), []⟩,
  ⟨fun K => (He.ga K "check_lot"), "check_lot", "check_lot", (top 34), []⟩,
  ⟨fun K => (He.ma K (He.ga K "Ledger") "__init__"), "__init__", "Ledger.__init__", (sub 45 0), []⟩,
  ⟨fun K => (pgA K "Kind" "base"), "base", "Kind.base", (sub 32 1), []⟩,
  ⟨fun K => (pgA K "Kind" "rows"), "rows", "Kind.rows", (sub 32 2), []⟩,
  ⟨fun K => (pgA K "Kind" "most"), "most", "Kind.most", (sub 32 4), []⟩,
  ⟨fun K => (He.ga K "beginning"), "beginning", "beginning", (top 37), []⟩,
  ⟨fun K => (pgA K "Ledger" "standing"), "standing", "Ledger.standing", (sub 45 3), []⟩,
  ⟨fun K => (pgA K "Kind" "deeds"), "deeds", "Kind.deeds", (sub 32 3), []⟩,
  ⟨fun K => (He.ga K "copy_rows"), "copy_rows", "copy_rows", (top 35), []⟩,
  ⟨fun K => (He.ga K "done_rightly"), "done_rightly", "done_rightly", (top 40), []⟩,
  ⟨fun K => (He.ga K "power"), "power", "power", (top 36), []⟩,
  ⟨fun K => (He.ga K "near_behind"), "near_behind", "near_behind", (top 42), []⟩,
  ⟨fun K => (He.ga K "next_standing"), "next_standing", "next_standing", (top 43), []⟩,
  ⟨fun K => (He.ma K (He.ga K "Ledger") "put"), "put", "Ledger.put", (sub 45 6), [("deed", .non)]⟩,
  ⟨fun K => (pgA K "Ledger" "sheet"), "sheet", "Ledger.sheet", (sub 45 1), []⟩,
  ⟨fun K => (pgA K "Ledger" "slips"), "slips", "Ledger.slips", (sub 45 2), []⟩,
  ⟨fun K => (pgA K "Ledger" "waits"), "waits", "Ledger.waits", (sub 45 4), []⟩,
  ⟨fun K => (pgA K "Sheet" "base"), "base", "Sheet.base", (sub 15 1), []⟩,
  ⟨fun K => (pgA K "Sheet" "columns"), "columns", "Sheet.columns", (sub 15 3), []⟩,
  ⟨fun K => (He.ma K (He.ga K "Adding") "__init__"), "__init__", "Adding.__init__", (sub 24 0), []⟩,
  ⟨fun K => (He.ga K "taken"), "taken", "taken", (top 20), []⟩,
  ⟨fun K => (He.ga K "done"), "done", "done", (top 21), []⟩,
  ⟨fun K => (He.ma K (He.ga K "Adding") "do"), "do", "Adding.do", (sub 24 2), []⟩,
  ⟨fun K => (He.ma K (He.ga K "Adding") "do_until"), "do_until", "Adding.do_until", (sub 24 3), []⟩,
  ⟨fun K => (He.ma K (He.ga K "Adding") "free"), "free", "Adding.free", (sub 24 1), []⟩,
  ⟨fun K => (He.ma K (He.ga K "Written") "__init__"), "__init__", "Written.__init__", (sub 23 0), []⟩,
  ⟨fun K => (He.ma K (He.ga K "Adding") "result"), "result", "Adding.result", (sub 24 4), []⟩,
  ⟨fun K => (He.ma K (He.ga K "Sheet") "__len__"), "__len__", "Sheet.__len__", (sub 15 5), []⟩,
  ⟨fun K => (pgA K "Sheet" "rows"), "rows", "Sheet.rows", (sub 15 2), []⟩,
  ⟨fun K => (He.ga K "is_slip"), "is_slip", "is_slip", (top 25), []⟩,
  ⟨fun K => (He.ga K "add_with"), "add_with", "add_with", (top 27), []⟩,
  ⟨fun K => (He.ma K (He.ga K "Ledger") "result"), "result", "Ledger.result", (sub 45 8), []⟩,
  ⟨fun K => (He.ma K (He.ga K "Sheet") "place"), "place", "Sheet.place", (sub 15 11), []⟩,
  ⟨fun K => (He.ma K (He.ga K "Sheet") "__eq__"), "__eq__", "Sheet.__eq__", (sub 15 12), []⟩,
  ⟨fun K => (He.ma K (He.ga K "Written") "__eq__"), "__eq__", "Written.__eq__", (sub 23 7), []⟩,
  ⟨fun K => (He.ga K "_law_ledger_right"), "_law_ledger_right", "_law_ledger_right", (top 65), []⟩,
  ⟨fun K => (pgA K "Sheet" "value"), "value", "Sheet.value", (sub 15 4), []⟩,
  ⟨fun K => (pgA K "Written" "figures"), "figures", "Written.figures", (sub 23 2), []⟩,
  ⟨fun K => (pgA K "Written" "last"), "last", "Written.last", (sub 23 3), []⟩,
  ⟨fun K => (pgA K "Written" "value"), "value", "Written.value", (sub 23 4), []⟩,
  ⟨fun K => (He.ga K "add_right"), "add_right", "add_right", (top 26), []⟩,
  ⟨fun K => (He.ga K "_law_is_sum"), "_law_is_sum", "_law_is_sum", (top 61), []⟩,
  ⟨fun K => (He.ga K "_law_lot"), "_law_lot", "_law_lot", (top 59), []⟩,
  ⟨fun K => (He.ga K "_law_take"), "_law_take", "_law_take", (top 55), []⟩,
  ⟨fun K => (He.ga K "_law_mixed"), "_law_mixed", "_law_mixed", (top 56), []⟩,
  ⟨fun K => (pgA K "Written" "base"), "base", "Written.base", (sub 23 1), []⟩,
  ⟨fun K => (He.ga K "_law_digits"), "_law_digits", "_law_digits", (top 57), []⟩,
  ⟨fun K => (He.ga K "_law_row"), "_law_row", "_law_row", (top 58), []⟩,
  ⟨fun K => (He.ga K "_law_sheet"), "_law_sheet", "_law_sheet", (top 60), []⟩,
  ⟨fun K => (He.ga K "is_number"), "is_number", "is_number", (top 51), []⟩,
  ⟨fun K => (He.ga K "read_sheet"), "read_sheet", "read_sheet", (top 52), []⟩,
  ⟨fun K => (He.ga K "show_figures"), "show_figures", "show_figures", (top 49), []⟩,
  ⟨fun K => (He.ga K "show_sheet"), "show_sheet", "show_sheet", (top 50), []⟩,
  ⟨fun K => (He.ga K "_law_lots_right"), "_law_lots_right", "_law_lots_right", (top 62), []⟩,
  ⟨fun K => (He.ma K (He.ga K "Written") "__sub__"), "__sub__", "Written.__sub__", (sub 23 6), []⟩,
  ⟨fun K => (He.ga K "_law_slip_right"), "_law_slip_right", "_law_slip_right", (top 64), []⟩,
  ⟨fun K => (He.ga K "_law_zeros_right"), "_law_zeros_right", "_law_zeros_right", (top 63), []⟩,
  ⟨fun K => (He.ga K "_law_right"), "_law_right", "_law_right", (top 66), []⟩,
  ⟨fun K => (He.ga K "law"), "law", "law", (top 67), []⟩]
theorem facts {Pr : Program} {w : World} {K : PySem.W.Frag} {h : Heap} {mg : PySem.Str → Option Value} (KX : K.In h) (G : h.Ns mainGlobals mg) (c : SaysZ fa fn K) : mg "law" = some (.ref (He.ga K "law")) ∧
    ∃ fd : FuncData, Binds K fd ["script"] [] ∧ (∀ (s : Shared) (v : Value), BindsTo s fd ⟨[v], []⟩ [("script", v)]) ∧ ∀ base : Heap, FnOk Pr w K mg base (L2.CX Pr w) 11 (He.ga K "law") fd ["script"] (spE K (ca K) f_p_law) := by
  obtain ⟨fdL, FL⟩ := c.def_ 66 (d := ⟨fun K => (He.ga K "law"), "law", "law", (top 67), []⟩)
  refine ⟨He.glo_ok (x := "law") KX G (c.fact 105 (f := .fa (.glo "law"))), fdL, FL.bindsN (ps := ["script"]) fun _ _ _ _ _ _ us hl => match us, hl with | [_], _ => rfl, fun s v => FL.bindsA (ps := ["script"]) (fun _ _ _ _ _ _ us hl => match us, hl with | [_], _ => rfl) s [v] rfl, fun base => ?_⟩
  have hcf : cfB K cs fs = true := c.fact 0 (f := .cf cs fs)
  have cf : Cf K (ca K) := cf_of hcf
  have z : Gf K mg := { fr_abs := He.free_ok KX G (c.fact 1 (f := .fa (.free "abs"))), fr_all := He.free_ok KX G (c.fact 2 (f := .fa (.free "all"))), fr_bool := He.free_ok KX G (c.fact 3 (f := .fa (.free "bool"))), fr_enumerate := He.free_ok KX G (c.fact 4 (f := .fa (.free "enumerate"))), fr_int := He.free_ok KX G (c.fact 5 (f := .fa (.free "int"))), fr_isinstance := He.free_ok KX G (c.fact 6 (f := .fa (.free "isinstance"))), fr_len := He.free_ok KX G (c.fact 7 (f := .fa (.free "len"))), fr_list := He.free_ok KX G (c.fact 8 (f := .fa (.free "list"))), fr_max := He.free_ok KX G (c.fact 9 (f := .fa (.free "max"))), fr_min := He.free_ok KX G (c.fact 10 (f := .fa (.free "min"))), fr_range := He.free_ok KX G (c.fact 11 (f := .fa (.free "range"))), fr_str := He.free_ok KX G (c.fact 12 (f := .fa (.free "str"))), fr_sum := He.free_ok KX G (c.fact 13 (f := .fa (.free "sum"))), fr_tuple := He.free_ok KX G (c.fact 14 (f := .fa (.free "tuple"))), co_DIGITS := (let ⟨t, e⟩ := He.str_ok (x := "DIGITS") (z := "0123456789") KX G (c.fact 15 (f := .fa (.str "DIGITS" "0123456789"))); ⟨_, e, t, rfl⟩), cr_DIGITS := fun _ _ => rep_str, co_FIGURES := (let ⟨t, e⟩ := He.str_ok (x := "FIGURES") (z := "0123456789ab") KX G (c.fact 16 (f := .fa (.str "FIGURES" "0123456789ab"))); ⟨_, e, t, rfl⟩), cr_FIGURES := fun _ _ => rep_str, co_MOST_COLUMNS := (let ⟨t, e⟩ := He.int_ok (x := "MOST_COLUMNS") (i := 1000) KX G (c.fact 17 (f := .fa (.int "MOST_COLUMNS" 1000))); ⟨_, e, t, rfl⟩), cr_MOST_COLUMNS := fun _ _ => rep_int, co_MOST_DEEDS := (let ⟨t, e⟩ := He.int_ok (x := "MOST_DEEDS") (i := 8) KX G (c.fact 18 (f := .fa (.int "MOST_DEEDS" 8))); ⟨_, e, t, rfl⟩), cr_MOST_DEEDS := fun _ _ => rep_int, co_PLAIN := ⟨_, He.glo_ok (x := "PLAIN") KX G (c.fact 19 (f := .fa (.glo "PLAIN"))), rfl⟩, cr_PLAIN := rep_tupK (c.fact 20 (f := .tup "PLAIN" _)) }
  obtain ⟨fd0, F0⟩ := c.def_ 0 (d := ⟨fun K => (He.ga K "is_integer"), "is_integer", "is_integer", (top 13), []⟩)
  have o0 := ok_p_is_integer (Pr := Pr) (w := w) (base := base) cf z F0
  have b0 : Binds K fd0 ["value"] [] := F0.bindsN (ps := ["value"]) fun _ _ _ _ _ _ us hl => match us, hl with | [_], _ => rfl
  have hcal_is_integer : Cal Pr w K mg base (ca K) 1 "is_integer" ["value"] f_p_is_integer := ⟨⟨fd0, o0, b0⟩, He.glo_ok (x := "is_integer") KX G (c.fact 21 (f := .fa (.glo "is_integer"))), F0.kp⟩
  obtain ⟨fd1, F1⟩ := c.def_ 1 (d := ⟨fun K => (He.ga K "is_column"), "is_column", "is_column", (top 14), []⟩)
  have o1 := ok_p_is_column (Pr := Pr) (w := w) (base := base) cf z hcal_is_integer F1
  have b1 : Binds K fd1 ["value", "base", "rows"] [] := F1.bindsN (ps := ["value", "base", "rows"]) fun _ _ _ _ _ _ us hl => match us, hl with | [_, _, _], _ => rfl
  have hcal_is_column : Cal Pr w K mg base (ca K) 2 "is_column" ["value", "base", "rows"] f_p_is_column := ⟨⟨fd1, o1, b1⟩, He.glo_ok (x := "is_column") KX G (c.fact 22 (f := .fa (.glo "is_column"))), F1.kp⟩
  obtain ⟨fd2, F2⟩ := c.def_ 2 (d := ⟨fun K => (He.ma K (He.ga K "Sheet") "__init__"), "__init__", "Sheet.__init__", (sub 15 0), []⟩)
  have o2 := ok_m_Sheet_zinitz (Pr := Pr) (w := w) (base := base) cf z hcal_is_column hcal_is_integer F2
  have b2 : Binds K fd2 ["self", "base", "rows", "columns"] [] := F2.bindsN (ps := ["self", "base", "rows", "columns"]) fun _ _ _ _ _ _ us hl => match us, hl with | [_, _, _, _], _ => rfl
  have hmak_Sheet : Mak Pr w K mg base (ca K) 3 "Sheet" ["self", "base", "rows", "columns"] f_m_Sheet_zinitz := ⟨⟨fd2, o2, b2⟩, He.mkr_ok (x := "Sheet") (c.fact 23 (f := .fa (.mkr "Sheet"))), He.glo_ok (x := "Sheet") KX G (c.fact 24 (f := .fa (.glo "Sheet"))), caOf_new (by decide +kernel)⟩
  obtain ⟨fd3, F3⟩ := c.def_ 3 (d := ⟨fun K => (He.ga K "_law_bag"), "_law_bag", "_law_bag", (top 54), []⟩)
  have o3 := ok_p__law_bag (Pr := Pr) (w := w) (base := base) cf z F3
  have b3 : Binds K fd3 ["script", "k"] [] := F3.bindsN (ps := ["script", "k"]) fun _ _ _ _ _ _ us hl => match us, hl with | [_, _], _ => rfl
  have hcalo__law_bag : CalO Pr w K mg base (ca K) 1 "_law_bag" ["script", "k"] f_p__law_bag := ⟨⟨fd3, o3, b3⟩, He.glo_ok (x := "_law_bag") KX G (c.fact 25 (f := .fa (.glo "_law_bag"))), F3.kp⟩
  obtain ⟨fd4, F4⟩ := c.def_ 4 (d := ⟨fun K => (He.ga K "all_deeds"), "all_deeds", "all_deeds", (top 18), []⟩)
  have o4 := ok_p_all_deeds (Pr := Pr) (w := w) (base := base) cf z F4
  have b4 : Binds K fd4 ["base", "rows"] [] := F4.bindsN (ps := ["base", "rows"]) fun _ _ _ _ _ _ us hl => match us, hl with | [_, _], _ => rfl
  have hcal_all_deeds : Cal Pr w K mg base (ca K) 1 "all_deeds" ["base", "rows"] f_p_all_deeds := ⟨⟨fd4, o4, b4⟩, He.glo_ok (x := "all_deeds") KX G (c.fact 26 (f := .fa (.glo "all_deeds"))), F4.kp⟩
  obtain ⟨fd5, F5⟩ := c.def_ 5 (d := ⟨fun K => (He.ga K "is_deed"), "is_deed", "is_deed", (top 19), []⟩)
  have o5 := ok_p_is_deed (Pr := Pr) (w := w) (base := base) cf z hcal_is_integer F5
  have b5 : Binds K fd5 ["value", "base", "rows"] [] := F5.bindsN (ps := ["value", "base", "rows"]) fun _ _ _ _ _ _ us hl => match us, hl with | [_, _, _], _ => rfl
  have hcal_is_deed : Cal Pr w K mg base (ca K) 2 "is_deed" ["value", "base", "rows"] f_p_is_deed := ⟨⟨fd5, o5, b5⟩, He.glo_ok (x := "is_deed") KX G (c.fact 27 (f := .fa (.glo "is_deed"))), F5.kp⟩
  obtain ⟨fd6, F6⟩ := c.def_ 6 (d := ⟨fun K => (He.ga K "number_of_columns"), "number_of_columns", "number_of_columns", (top 31), []⟩)
  have o6 := ok_p_number_of_columns (Pr := Pr) (w := w) (base := base) cf z F6
  have b6 : Binds K fd6 ["base", "rows"] [] := F6.bindsN (ps := ["base", "rows"]) fun _ _ _ _ _ _ us hl => match us, hl with | [_, _], _ => rfl
  have hcal_number_of_columns : Cal Pr w K mg base (ca K) 1 "number_of_columns" ["base", "rows"] f_p_number_of_columns := ⟨⟨fd6, o6, b6⟩, He.glo_ok (x := "number_of_columns") KX G (c.fact 28 (f := .fa (.glo "number_of_columns"))), F6.kp⟩
  obtain ⟨fd7, F7⟩ := c.def_ 7 (d := ⟨fun K => (He.ma K (He.ga K "Kind") "__init__"), "__init__", "Kind.__init__", (sub 32 0), []⟩)
  have o7 := ok_m_Kind_zinitz (Pr := Pr) (w := w) (base := base) cf z hcal_all_deeds hcal_is_deed hcal_is_integer hcal_number_of_columns F7
  have b7 : Binds K fd7 ["self", "base", "rows", "deeds", "most"] [] := F7.bindsN (ps := ["self", "base", "rows", "deeds", "most"]) fun _ _ _ _ _ _ us hl => match us, hl with | [_, _, _, _, _], _ => rfl
  have hmak_Kind : Mak Pr w K mg base (ca K) 3 "Kind" ["self", "base", "rows", "deeds", "most"] f_m_Kind_zinitz := ⟨⟨fd7, o7, b7⟩, He.mkr_ok (x := "Kind") (c.fact 29 (f := .fa (.mkr "Kind"))), He.glo_ok (x := "Kind") KX G (c.fact 30 (f := .fa (.glo "Kind"))), caOf_new (by decide +kernel)⟩
  obtain ⟨fd8, F8⟩ := c.def_ 8 (d := ⟨fun K => (He.ga K "check_lot"), "check_lot", "check_lot", (top 34), []⟩)
  have o8 := ok_p_check_lot (Pr := Pr) (w := w) (base := base) cf z F8
  have b8 : Binds K fd8 ["lot"] [] := F8.bindsN (ps := ["lot"]) fun _ _ _ _ _ _ us hl => match us, hl with | [_], _ => rfl
  have hcal_check_lot : Cal Pr w K mg base (ca K) 1 "check_lot" ["lot"] f_p_check_lot := ⟨⟨fd8, o8, b8⟩, He.glo_ok (x := "check_lot") KX G (c.fact 31 (f := .fa (.glo "check_lot"))), F8.kp⟩
  obtain ⟨fd9, F9⟩ := c.def_ 9 (d := ⟨fun K => (He.ma K (He.ga K "Ledger") "__init__"), "__init__", "Ledger.__init__", (sub 45 0), []⟩)
  have o9 := ok_m_Ledger_zinitz (Pr := Pr) (w := w) (base := base) cf z hcal_check_lot F9
  have b9 : Binds K fd9 ["self", "kind", "lot"] [] := F9.bindsN (ps := ["self", "kind", "lot"]) fun _ _ _ _ _ _ us hl => match us, hl with | [_, _, _], _ => rfl
  have hmak_Ledger : Mak Pr w K mg base (ca K) 2 "Ledger" ["self", "kind", "lot"] f_m_Ledger_zinitz := ⟨⟨fd9, o9, b9⟩, He.mkr_ok (x := "Ledger") (c.fact 32 (f := .fa (.mkr "Ledger"))), He.glo_ok (x := "Ledger") KX G (c.fact 33 (f := .fa (.glo "Ledger"))), caOf_new (by decide +kernel)⟩
  obtain ⟨fd10, F10⟩ := c.def_ 10 (d := ⟨fun K => (pgA K "Kind" "base"), "base", "Kind.base", (sub 32 1), []⟩)
  have o10 := ok_m_Kind_base (Pr := Pr) (w := w) (base := base) cf z F10
  have b10 : Binds K fd10 ["self"] [] := F10.bindsN (ps := ["self"]) fun _ _ _ _ _ _ us hl => match us, hl with | [_], _ => rfl
  have hprp_Kind_base : Prp Pr w K mg base (ca K) 1 "Kind" "base" ["self"] f_m_Kind_base := ⟨⟨_, _, fd10, o10, b10, prop_ok (c.fact 34 (f := .prop "Kind" "base"))⟩, cf_cls hcf (by decide +kernel), caOf_no (by decide +kernel)⟩
  obtain ⟨fd11, F11⟩ := c.def_ 11 (d := ⟨fun K => (pgA K "Kind" "rows"), "rows", "Kind.rows", (sub 32 2), []⟩)
  have o11 := ok_m_Kind_rows (Pr := Pr) (w := w) (base := base) cf z F11
  have b11 : Binds K fd11 ["self"] [] := F11.bindsN (ps := ["self"]) fun _ _ _ _ _ _ us hl => match us, hl with | [_], _ => rfl
  have hprp_Kind_rows : Prp Pr w K mg base (ca K) 1 "Kind" "rows" ["self"] f_m_Kind_rows := ⟨⟨_, _, fd11, o11, b11, prop_ok (c.fact 35 (f := .prop "Kind" "rows"))⟩, cf_cls hcf (by decide +kernel), caOf_no (by decide +kernel)⟩
  obtain ⟨fd12, F12⟩ := c.def_ 12 (d := ⟨fun K => (pgA K "Kind" "most"), "most", "Kind.most", (sub 32 4), []⟩)
  have o12 := ok_m_Kind_most (Pr := Pr) (w := w) (base := base) cf z F12
  have b12 : Binds K fd12 ["self"] [] := F12.bindsN (ps := ["self"]) fun _ _ _ _ _ _ us hl => match us, hl with | [_], _ => rfl
  have hprp_Kind_most : Prp Pr w K mg base (ca K) 1 "Kind" "most" ["self"] f_m_Kind_most := ⟨⟨_, _, fd12, o12, b12, prop_ok (c.fact 36 (f := .prop "Kind" "most"))⟩, cf_cls hcf (by decide +kernel), caOf_no (by decide +kernel)⟩
  obtain ⟨fd13, F13⟩ := c.def_ 13 (d := ⟨fun K => (He.ga K "beginning"), "beginning", "beginning", (top 37), []⟩)
  have o13 := ok_p_beginning (Pr := Pr) (w := w) (base := base) cf z hcal_check_lot hprp_Kind_most F13
  have b13 : Binds K fd13 ["kind", "lot"] [] := F13.bindsN (ps := ["kind", "lot"]) fun _ _ _ _ _ _ us hl => match us, hl with | [_, _], _ => rfl
  have hcal_beginning : Cal Pr w K mg base (ca K) 3 "beginning" ["kind", "lot"] f_p_beginning := ⟨⟨fd13, o13, b13⟩, He.glo_ok (x := "beginning") KX G (c.fact 37 (f := .fa (.glo "beginning"))), F13.kp⟩
  obtain ⟨fd14, F14⟩ := c.def_ 14 (d := ⟨fun K => (pgA K "Ledger" "standing"), "standing", "Ledger.standing", (sub 45 3), []⟩)
  have o14 := ok_m_Ledger_standing (Pr := Pr) (w := w) (base := base) cf z hcal_beginning F14
  have b14 : Binds K fd14 ["self"] [] := F14.bindsN (ps := ["self"]) fun _ _ _ _ _ _ us hl => match us, hl with | [_], _ => rfl
  have hprp_Ledger_standing : Prp Pr w K mg base (ca K) 4 "Ledger" "standing" ["self"] f_m_Ledger_standing := ⟨⟨_, _, fd14, o14, b14, prop_ok (c.fact 38 (f := .prop "Ledger" "standing"))⟩, cf_cls hcf (by decide +kernel), caOf_no (by decide +kernel)⟩
  obtain ⟨fd15, F15⟩ := c.def_ 15 (d := ⟨fun K => (pgA K "Kind" "deeds"), "deeds", "Kind.deeds", (sub 32 3), []⟩)
  have o15 := ok_m_Kind_deeds (Pr := Pr) (w := w) (base := base) cf z F15
  have b15 : Binds K fd15 ["self"] [] := F15.bindsN (ps := ["self"]) fun _ _ _ _ _ _ us hl => match us, hl with | [_], _ => rfl
  have hprp_Kind_deeds : Prp Pr w K mg base (ca K) 1 "Kind" "deeds" ["self"] f_m_Kind_deeds := ⟨⟨_, _, fd15, o15, b15, prop_ok (c.fact 39 (f := .prop "Kind" "deeds"))⟩, cf_cls hcf (by decide +kernel), caOf_no (by decide +kernel)⟩
  obtain ⟨fd16, F16⟩ := c.def_ 16 (d := ⟨fun K => (He.ga K "copy_rows"), "copy_rows", "copy_rows", (top 35), []⟩)
  have o16 := ok_p_copy_rows (Pr := Pr) (w := w) (base := base) cf z hprp_Kind_deeds F16
  have b16 : Binds K fd16 ["kind"] [] := F16.bindsN (ps := ["kind"]) fun _ _ _ _ _ _ us hl => match us, hl with | [_], _ => rfl
  have hcal_copy_rows : Cal Pr w K mg base (ca K) 3 "copy_rows" ["kind"] f_p_copy_rows := ⟨⟨fd16, o16, b16⟩, He.glo_ok (x := "copy_rows") KX G (c.fact 40 (f := .fa (.glo "copy_rows"))), F16.kp⟩
  obtain ⟨fd17, F17⟩ := c.def_ 17 (d := ⟨fun K => (He.ga K "done_rightly"), "done_rightly", "done_rightly", (top 40), []⟩)
  have o17 := ok_p_done_rightly (Pr := Pr) (w := w) (base := base) cf z F17
  have b17 : Binds K fd17 ["base", "standing", "column"] [] := F17.bindsN (ps := ["base", "standing", "column"]) fun _ _ _ _ _ _ us hl => match us, hl with | [_, _, _], _ => rfl
  have hcal_done_rightly : Cal Pr w K mg base (ca K) 1 "done_rightly" ["base", "standing", "column"] f_p_done_rightly := ⟨⟨fd17, o17, b17⟩, He.glo_ok (x := "done_rightly") KX G (c.fact 41 (f := .fa (.glo "done_rightly"))), F17.kp⟩
  obtain ⟨fd18, F18⟩ := c.def_ 18 (d := ⟨fun K => (He.ga K "power"), "power", "power", (top 36), []⟩)
  have o18 := ok_p_power (Pr := Pr) (w := w) (base := base) cf z F18
  have b18 : Binds K fd18 ["base", "count"] [] := F18.bindsN (ps := ["base", "count"]) fun _ _ _ _ _ _ us hl => match us, hl with | [_, _], _ => rfl
  have hcal_power : Cal Pr w K mg base (ca K) 1 "power" ["base", "count"] f_p_power := ⟨⟨fd18, o18, b18⟩, He.glo_ok (x := "power") KX G (c.fact 42 (f := .fa (.glo "power"))), F18.kp⟩
  obtain ⟨fd19, F19⟩ := c.def_ 19 (d := ⟨fun K => (He.ga K "near_behind"), "near_behind", "near_behind", (top 42), []⟩)
  have o19 := ok_p_near_behind (Pr := Pr) (w := w) (base := base) cf z hcal_power F19
  have b19 : Binds K fd19 ["base", "gap", "near", "factor", "total", "count"] [] := F19.bindsN (ps := ["base", "gap", "near", "factor", "total", "count"]) fun _ _ _ _ _ _ us hl => match us, hl with | [_, _, _, _, _, _], _ => rfl
  have hcal_near_behind : Cal Pr w K mg base (ca K) 2 "near_behind" ["base", "gap", "near", "factor", "total", "count"] f_p_near_behind := ⟨⟨fd19, o19, b19⟩, He.glo_ok (x := "near_behind") KX G (c.fact 43 (f := .fa (.glo "near_behind"))), F19.kp⟩
  obtain ⟨fd20, F20⟩ := c.def_ 20 (d := ⟨fun K => (He.ga K "next_standing"), "next_standing", "next_standing", (top 43), []⟩)
  have o20 := ok_p_next_standing (Pr := Pr) (w := w) (base := base) cf z hcal_done_rightly hcal_near_behind hcal_power F20
  have b20 : Binds K fd20 ["base", "copies", "lot", "standing", "column", "deed"] [] := F20.bindsN (ps := ["base", "copies", "lot", "standing", "column", "deed"]) fun _ _ _ _ _ _ us hl => match us, hl with | [_, _, _, _, _, _], _ => rfl
  have hcal_next_standing : Cal Pr w K mg base (ca K) 3 "next_standing" ["base", "copies", "lot", "standing", "column", "deed"] f_p_next_standing := ⟨⟨fd20, o20, b20⟩, He.glo_ok (x := "next_standing") KX G (c.fact 44 (f := .fa (.glo "next_standing"))), F20.kp⟩
  obtain ⟨fd21, F21⟩ := c.def_ 21 (d := ⟨fun K => (He.ma K (He.ga K "Ledger") "put"), "put", "Ledger.put", (sub 45 6), [("deed", .non)]⟩)
  have o21 := ok_m_Ledger_put (Pr := Pr) (w := w) (base := base) cf z hcal_copy_rows hcal_is_column hcal_next_standing hprp_Kind_base hprp_Kind_rows hprp_Ledger_standing F21
  obtain ⟨ds21, dr21, b21⟩ := FunD.binds0 (ps := ["self", "column", "deed"]) F21 2 (List.cons_ne_nil _ _) (by rfl) (fun D doc pm an cdv ct us ks hl hk => match us, ks, hl, hk with | [_, _], [_], _, _ => ⟨_, _, _, _, _, _, rfl, rfl, rfl⟩)
  have hmetd_Ledger_put : MetD Pr w K mg base (ca K) 6 "Ledger" "put" ["self", "column", "deed"] f_m_Ledger_put := ⟨⟨fd21, ds21, o21, dr21, b21⟩, He.meth_ok (c.fact 45 (f := .fa (.meth "Ledger" "put"))), cf_cls hcf (by decide +kernel), caOf_no (by decide +kernel)⟩
  obtain ⟨fd22, F22⟩ := c.def_ 22 (d := ⟨fun K => (pgA K "Ledger" "sheet"), "sheet", "Ledger.sheet", (sub 45 1), []⟩)
  have o22 := ok_m_Ledger_sheet (Pr := Pr) (w := w) (base := base) cf z hmak_Sheet hprp_Kind_base hprp_Kind_rows F22
  have b22 : Binds K fd22 ["self"] [] := F22.bindsN (ps := ["self"]) fun _ _ _ _ _ _ us hl => match us, hl with | [_], _ => rfl
  have hprp_Ledger_sheet : Prp Pr w K mg base (ca K) 5 "Ledger" "sheet" ["self"] f_m_Ledger_sheet := ⟨⟨_, _, fd22, o22, b22, prop_ok (c.fact 46 (f := .prop "Ledger" "sheet"))⟩, cf_cls hcf (by decide +kernel), caOf_no (by decide +kernel)⟩
  obtain ⟨fd23, F23⟩ := c.def_ 23 (d := ⟨fun K => (pgA K "Ledger" "slips"), "slips", "Ledger.slips", (sub 45 2), []⟩)
  have o23 := ok_m_Ledger_slips (Pr := Pr) (w := w) (base := base) cf z F23
  have b23 : Binds K fd23 ["self"] [] := F23.bindsN (ps := ["self"]) fun _ _ _ _ _ _ us hl => match us, hl with | [_], _ => rfl
  have hprp_Ledger_slips : Prp Pr w K mg base (ca K) 1 "Ledger" "slips" ["self"] f_m_Ledger_slips := ⟨⟨_, _, fd23, o23, b23, prop_ok (c.fact 47 (f := .prop "Ledger" "slips"))⟩, cf_cls hcf (by decide +kernel), caOf_no (by decide +kernel)⟩
  obtain ⟨fd24, F24⟩ := c.def_ 24 (d := ⟨fun K => (pgA K "Ledger" "waits"), "waits", "Ledger.waits", (sub 45 4), []⟩)
  have o24 := ok_m_Ledger_waits (Pr := Pr) (w := w) (base := base) cf z hprp_Ledger_standing F24
  have b24 : Binds K fd24 ["self"] [] := F24.bindsN (ps := ["self"]) fun _ _ _ _ _ _ us hl => match us, hl with | [_], _ => rfl
  have hprp_Ledger_waits : Prp Pr w K mg base (ca K) 6 "Ledger" "waits" ["self"] f_m_Ledger_waits := ⟨⟨_, _, fd24, o24, b24, prop_ok (c.fact 48 (f := .prop "Ledger" "waits"))⟩, cf_cls hcf (by decide +kernel), caOf_no (by decide +kernel)⟩
  obtain ⟨fd25, F25⟩ := c.def_ 25 (d := ⟨fun K => (pgA K "Sheet" "base"), "base", "Sheet.base", (sub 15 1), []⟩)
  have o25 := ok_m_Sheet_base (Pr := Pr) (w := w) (base := base) cf z F25
  have b25 : Binds K fd25 ["self"] [] := F25.bindsN (ps := ["self"]) fun _ _ _ _ _ _ us hl => match us, hl with | [_], _ => rfl
  have hprp_Sheet_base : Prp Pr w K mg base (ca K) 1 "Sheet" "base" ["self"] f_m_Sheet_base := ⟨⟨_, _, fd25, o25, b25, prop_ok (c.fact 49 (f := .prop "Sheet" "base"))⟩, cf_cls hcf (by decide +kernel), caOf_no (by decide +kernel)⟩
  obtain ⟨fd26, F26⟩ := c.def_ 26 (d := ⟨fun K => (pgA K "Sheet" "columns"), "columns", "Sheet.columns", (sub 15 3), []⟩)
  have o26 := ok_m_Sheet_columns (Pr := Pr) (w := w) (base := base) cf z F26
  have b26 : Binds K fd26 ["self"] [] := F26.bindsN (ps := ["self"]) fun _ _ _ _ _ _ us hl => match us, hl with | [_], _ => rfl
  have hprp_Sheet_columns : Prp Pr w K mg base (ca K) 1 "Sheet" "columns" ["self"] f_m_Sheet_columns := ⟨⟨_, _, fd26, o26, b26, prop_ok (c.fact 50 (f := .prop "Sheet" "columns"))⟩, cf_cls hcf (by decide +kernel), caOf_no (by decide +kernel)⟩
  obtain ⟨fd27, F27⟩ := c.def_ 27 (d := ⟨fun K => (He.ma K (He.ga K "Adding") "__init__"), "__init__", "Adding.__init__", (sub 24 0), []⟩)
  have o27 := ok_m_Adding_zinitz (Pr := Pr) (w := w) (base := base) cf z hprp_Sheet_base hprp_Sheet_columns F27
  have b27 : Binds K fd27 ["self", "sheet"] [] := F27.bindsN (ps := ["self", "sheet"]) fun _ _ _ _ _ _ us hl => match us, hl with | [_, _], _ => rfl
  have hmak_Adding : Mak Pr w K mg base (ca K) 3 "Adding" ["self", "sheet"] f_m_Adding_zinitz := ⟨⟨fd27, o27, b27⟩, He.mkr_ok (x := "Adding") (c.fact 51 (f := .fa (.mkr "Adding"))), He.glo_ok (x := "Adding") KX G (c.fact 52 (f := .fa (.glo "Adding"))), caOf_new (by decide +kernel)⟩
  obtain ⟨fd28, F28⟩ := c.def_ 28 (d := ⟨fun K => (He.ga K "taken"), "taken", "taken", (top 20), []⟩)
  have o28 := ok_p_taken (Pr := Pr) (w := w) (base := base) cf z F28
  have b28 : Binds K fd28 ["base", "column", "before", "deed"] [] := F28.bindsN (ps := ["base", "column", "before", "deed"]) fun _ _ _ _ _ _ us hl => match us, hl with | [_, _, _, _], _ => rfl
  have hcal_taken : Cal Pr w K mg base (ca K) 1 "taken" ["base", "column", "before", "deed"] f_p_taken := ⟨⟨fd28, o28, b28⟩, He.glo_ok (x := "taken") KX G (c.fact 53 (f := .fa (.glo "taken"))), F28.kp⟩
  obtain ⟨fd29, F29⟩ := c.def_ 29 (d := ⟨fun K => (He.ga K "done"), "done", "done", (top 21), []⟩)
  have o29 := ok_p_done (Pr := Pr) (w := w) (base := base) cf z hcal_taken F29
  have b29 : Binds K fd29 ["base", "column", "before", "carry", "deed"] [] := F29.bindsN (ps := ["base", "column", "before", "carry", "deed"]) fun _ _ _ _ _ _ us hl => match us, hl with | [_, _, _, _, _], _ => rfl
  have hcal_done : Cal Pr w K mg base (ca K) 2 "done" ["base", "column", "before", "carry", "deed"] f_p_done := ⟨⟨fd29, o29, b29⟩, He.glo_ok (x := "done") KX G (c.fact 54 (f := .fa (.glo "done"))), F29.kp⟩
  obtain ⟨fd30, F30⟩ := c.def_ 30 (d := ⟨fun K => (He.ma K (He.ga K "Adding") "do"), "do", "Adding.do", (sub 24 2), []⟩)
  have o30 := ok_m_Adding_do (Pr := Pr) (w := w) (base := base) cf z hcal_done F30
  have b30 : Binds K fd30 ["self", "deed"] [] := F30.bindsN (ps := ["self", "deed"]) fun _ _ _ _ _ _ us hl => match us, hl with | [_, _], _ => rfl
  have hmet_Adding_do : Met Pr w K mg base (ca K) 3 "Adding" "do" ["self", "deed"] f_m_Adding_do := ⟨⟨fd30, o30, b30⟩, He.meth_ok (c.fact 55 (f := .fa (.meth "Adding" "do"))), cf_cls hcf (by decide +kernel), caOf_no (by decide +kernel)⟩
  obtain ⟨fd31, F31⟩ := c.def_ 31 (d := ⟨fun K => (He.ma K (He.ga K "Adding") "do_until"), "do_until", "Adding.do_until", (sub 24 3), []⟩)
  have o31 := ok_m_Adding_do_until (Pr := Pr) (w := w) (base := base) cf z hmet_Adding_do F31
  have b31 : Binds K fd31 ["self", "column"] [] := F31.bindsN (ps := ["self", "column"]) fun _ _ _ _ _ _ us hl => match us, hl with | [_, _], _ => rfl
  have hmet_Adding_do_until : Met Pr w K mg base (ca K) 4 "Adding" "do_until" ["self", "column"] f_m_Adding_do_until := ⟨⟨fd31, o31, b31⟩, He.meth_ok (c.fact 56 (f := .fa (.meth "Adding" "do_until"))), cf_cls hcf (by decide +kernel), caOf_no (by decide +kernel)⟩
  obtain ⟨fd32, F32⟩ := c.def_ 32 (d := ⟨fun K => (He.ma K (He.ga K "Adding") "free"), "free", "Adding.free", (sub 24 1), []⟩)
  have o32 := ok_m_Adding_free (Pr := Pr) (w := w) (base := base) cf z F32
  have b32 : Binds K fd32 ["self"] [] := F32.bindsN (ps := ["self"]) fun _ _ _ _ _ _ us hl => match us, hl with | [_], _ => rfl
  have hmet_Adding_free : Met Pr w K mg base (ca K) 1 "Adding" "free" ["self"] f_m_Adding_free := ⟨⟨fd32, o32, b32⟩, He.meth_ok (c.fact 57 (f := .fa (.meth "Adding" "free"))), cf_cls hcf (by decide +kernel), caOf_no (by decide +kernel)⟩
  obtain ⟨fd33, F33⟩ := c.def_ 33 (d := ⟨fun K => (He.ma K (He.ga K "Written") "__init__"), "__init__", "Written.__init__", (sub 23 0), []⟩)
  have o33 := ok_m_Written_zinitz (Pr := Pr) (w := w) (base := base) cf z F33
  have b33 : Binds K fd33 ["self", "base", "figures", "last"] [] := F33.bindsN (ps := ["self", "base", "figures", "last"]) fun _ _ _ _ _ _ us hl => match us, hl with | [_, _, _, _], _ => rfl
  have hmak_Written : Mak Pr w K mg base (ca K) 1 "Written" ["self", "base", "figures", "last"] f_m_Written_zinitz := ⟨⟨fd33, o33, b33⟩, He.mkr_ok (x := "Written") (c.fact 58 (f := .fa (.mkr "Written"))), He.glo_ok (x := "Written") KX G (c.fact 59 (f := .fa (.glo "Written"))), caOf_new (by decide +kernel)⟩
  obtain ⟨fd34, F34⟩ := c.def_ 34 (d := ⟨fun K => (He.ma K (He.ga K "Adding") "result"), "result", "Adding.result", (sub 24 4), []⟩)
  have o34 := ok_m_Adding_result (Pr := Pr) (w := w) (base := base) cf z hmak_Written hmet_Adding_do_until F34
  have b34 : Binds K fd34 ["self"] [] := F34.bindsN (ps := ["self"]) fun _ _ _ _ _ _ us hl => match us, hl with | [_], _ => rfl
  have hmet_Adding_result : Met Pr w K mg base (ca K) 5 "Adding" "result" ["self"] f_m_Adding_result := ⟨⟨fd34, o34, b34⟩, He.meth_ok (c.fact 60 (f := .fa (.meth "Adding" "result"))), cf_cls hcf (by decide +kernel), caOf_no (by decide +kernel)⟩
  obtain ⟨fd35, F35⟩ := c.def_ 35 (d := ⟨fun K => (He.ma K (He.ga K "Sheet") "__len__"), "__len__", "Sheet.__len__", (sub 15 5), []⟩)
  have o35 := ok_m_Sheet_zlenz (Pr := Pr) (w := w) (base := base) cf z F35
  have b35 : Binds K fd35 ["self"] [] := F35.bindsN (ps := ["self"]) fun _ _ _ _ _ _ us hl => match us, hl with | [_], _ => rfl
  have hmet_Sheet_zlenz : Met Pr w K mg base (ca K) 1 "Sheet" "__len__" ["self"] f_m_Sheet_zlenz := ⟨⟨fd35, o35, b35⟩, He.meth_ok (c.fact 61 (f := .fa (.meth "Sheet" "__len__"))), cf_cls hcf (by decide +kernel), caOf_no (by decide +kernel)⟩
  obtain ⟨fd36, F36⟩ := c.def_ 36 (d := ⟨fun K => (pgA K "Sheet" "rows"), "rows", "Sheet.rows", (sub 15 2), []⟩)
  have o36 := ok_m_Sheet_rows (Pr := Pr) (w := w) (base := base) cf z F36
  have b36 : Binds K fd36 ["self"] [] := F36.bindsN (ps := ["self"]) fun _ _ _ _ _ _ us hl => match us, hl with | [_], _ => rfl
  have hprp_Sheet_rows : Prp Pr w K mg base (ca K) 1 "Sheet" "rows" ["self"] f_m_Sheet_rows := ⟨⟨_, _, fd36, o36, b36, prop_ok (c.fact 62 (f := .prop "Sheet" "rows"))⟩, cf_cls hcf (by decide +kernel), caOf_no (by decide +kernel)⟩
  obtain ⟨fd37, F37⟩ := c.def_ 37 (d := ⟨fun K => (He.ga K "is_slip"), "is_slip", "is_slip", (top 25), []⟩)
  have o37 := ok_p_is_slip (Pr := Pr) (w := w) (base := base) cf z hcal_is_deed hcal_is_integer hmet_Sheet_zlenz hprp_Sheet_base hprp_Sheet_rows F37
  have b37 : Binds K fd37 ["value", "sheet", "low"] [] := F37.bindsN (ps := ["value", "sheet", "low"]) fun _ _ _ _ _ _ us hl => match us, hl with | [_, _, _], _ => rfl
  have hcal_is_slip : Cal Pr w K mg base (ca K) 3 "is_slip" ["value", "sheet", "low"] f_p_is_slip := ⟨⟨fd37, o37, b37⟩, He.glo_ok (x := "is_slip") KX G (c.fact 63 (f := .fa (.glo "is_slip"))), F37.kp⟩
  obtain ⟨fd38, F38⟩ := c.def_ 38 (d := ⟨fun K => (He.ga K "add_with"), "add_with", "add_with", (top 27), []⟩)
  have o38 := ok_p_add_with (Pr := Pr) (w := w) (base := base) cf z hcal_is_slip hmak_Adding hmet_Adding_do hmet_Adding_do_until hmet_Adding_free hmet_Adding_result F38
  have b38 : Binds K fd38 ["sheet", "slips"] [] := F38.bindsN (ps := ["sheet", "slips"]) fun _ _ _ _ _ _ us hl => match us, hl with | [_, _], _ => rfl
  have hcal_add_with : Cal Pr w K mg base (ca K) 6 "add_with" ["sheet", "slips"] f_p_add_with := ⟨⟨fd38, o38, b38⟩, He.glo_ok (x := "add_with") KX G (c.fact 64 (f := .fa (.glo "add_with"))), F38.kp⟩
  obtain ⟨fd39, F39⟩ := c.def_ 39 (d := ⟨fun K => (He.ma K (He.ga K "Ledger") "result"), "result", "Ledger.result", (sub 45 8), []⟩)
  have o39 := ok_m_Ledger_result (Pr := Pr) (w := w) (base := base) cf z hcal_add_with hprp_Ledger_sheet hprp_Ledger_slips hprp_Ledger_waits F39
  have b39 : Binds K fd39 ["self"] [] := F39.bindsN (ps := ["self"]) fun _ _ _ _ _ _ us hl => match us, hl with | [_], _ => rfl
  have hmet_Ledger_result : Met Pr w K mg base (ca K) 8 "Ledger" "result" ["self"] f_m_Ledger_result := ⟨⟨fd39, o39, b39⟩, He.meth_ok (c.fact 65 (f := .fa (.meth "Ledger" "result"))), cf_cls hcf (by decide +kernel), caOf_no (by decide +kernel)⟩
  obtain ⟨fd40, F40⟩ := c.def_ 40 (d := ⟨fun K => (He.ma K (He.ga K "Sheet") "place"), "place", "Sheet.place", (sub 15 11), []⟩)
  have o40 := ok_m_Sheet_place (Pr := Pr) (w := w) (base := base) cf z F40
  have b40 : Binds K fd40 ["self"] [] := F40.bindsN (ps := ["self"]) fun _ _ _ _ _ _ us hl => match us, hl with | [_], _ => rfl
  have hmet_Sheet_place : Met Pr w K mg base (ca K) 1 "Sheet" "place" ["self"] f_m_Sheet_place := ⟨⟨fd40, o40, b40⟩, He.meth_ok (c.fact 66 (f := .fa (.meth "Sheet" "place"))), cf_cls hcf (by decide +kernel), caOf_no (by decide +kernel)⟩
  have hgl_Sheet : mg "Sheet" = some (.ref (He.ga K "Sheet")) := He.glo_ok (x := "Sheet") KX G (c.fact 24 (f := .fa (.glo "Sheet")))
  have hins_Sheet : C8.InsC K (He.ga K "Sheet") := ins_ok (c.fact 67 (f := .ins "Sheet")) (cf_cls hcf (by decide +kernel))
  obtain ⟨fd41, F41⟩ := c.def_ 41 (d := ⟨fun K => (He.ma K (He.ga K "Sheet") "__eq__"), "__eq__", "Sheet.__eq__", (sub 15 12), []⟩)
  have o41 := ok_m_Sheet_zeqz (Pr := Pr) (w := w) (base := base) cf z hgl_Sheet hins_Sheet hmet_Sheet_place F41
  have b41 : Binds K fd41 ["self", "other"] [] := F41.bindsN (ps := ["self", "other"]) fun _ _ _ _ _ _ us hl => match us, hl with | [_, _], _ => rfl
  have hmet_Sheet_zeqz : Met Pr w K mg base (ca K) 2 "Sheet" "__eq__" ["self", "other"] f_m_Sheet_zeqz := ⟨⟨fd41, o41, b41⟩, He.meth_ok (c.fact 68 (f := .fa (.meth "Sheet" "__eq__"))), cf_cls hcf (by decide +kernel), caOf_no (by decide +kernel)⟩
  have hgl_Written : mg "Written" = some (.ref (He.ga K "Written")) := He.glo_ok (x := "Written") KX G (c.fact 59 (f := .fa (.glo "Written")))
  have hins_Written : C8.InsC K (He.ga K "Written") := ins_ok (c.fact 69 (f := .ins "Written")) (cf_cls hcf (by decide +kernel))
  obtain ⟨fd42, F42⟩ := c.def_ 42 (d := ⟨fun K => (He.ma K (He.ga K "Written") "__eq__"), "__eq__", "Written.__eq__", (sub 23 7), []⟩)
  have o42 := ok_m_Written_zeqz (Pr := Pr) (w := w) (base := base) cf z hgl_Written hins_Written F42
  have b42 : Binds K fd42 ["self", "other"] [] := F42.bindsN (ps := ["self", "other"]) fun _ _ _ _ _ _ us hl => match us, hl with | [_, _], _ => rfl
  have hmet_Written_zeqz : Met Pr w K mg base (ca K) 1 "Written" "__eq__" ["self", "other"] f_m_Written_zeqz := ⟨⟨fd42, o42, b42⟩, He.meth_ok (c.fact 70 (f := .fa (.meth "Written" "__eq__"))), cf_cls hcf (by decide +kernel), caOf_no (by decide +kernel)⟩
  obtain ⟨fd43, F43⟩ := c.def_ 43 (d := ⟨fun K => (He.ga K "_law_ledger_right"), "_law_ledger_right", "_law_ledger_right", (top 65), []⟩)
  have o43 := ok_p__law_ledger_right (Pr := Pr) (w := w) (base := base) cf z hmak_Kind hmak_Ledger hmet_Ledger_result hmet_Sheet_zeqz hmet_Written_zeqz hmetd_Ledger_put hprp_Ledger_sheet hprp_Ledger_slips hprp_Sheet_base hprp_Sheet_columns hprp_Sheet_rows F43
  have b43 : Binds K fd43 ["sheet", "right"] [] := F43.bindsN (ps := ["sheet", "right"]) fun _ _ _ _ _ _ us hl => match us, hl with | [_, _], _ => rfl
  have hcal__law_ledger_right : Cal Pr w K mg base (ca K) 9 "_law_ledger_right" ["sheet", "right"] f_p__law_ledger_right := ⟨⟨fd43, o43, b43⟩, He.glo_ok (x := "_law_ledger_right") KX G (c.fact 71 (f := .fa (.glo "_law_ledger_right"))), F43.kp⟩
  obtain ⟨fd44, F44⟩ := c.def_ 44 (d := ⟨fun K => (pgA K "Sheet" "value"), "value", "Sheet.value", (sub 15 4), []⟩)
  have o44 := ok_m_Sheet_value (Pr := Pr) (w := w) (base := base) cf z F44
  have b44 : Binds K fd44 ["self"] [] := F44.bindsN (ps := ["self"]) fun _ _ _ _ _ _ us hl => match us, hl with | [_], _ => rfl
  have hprp_Sheet_value : Prp Pr w K mg base (ca K) 1 "Sheet" "value" ["self"] f_m_Sheet_value := ⟨⟨_, _, fd44, o44, b44, prop_ok (c.fact 72 (f := .prop "Sheet" "value"))⟩, cf_cls hcf (by decide +kernel), caOf_no (by decide +kernel)⟩
  obtain ⟨fd45, F45⟩ := c.def_ 45 (d := ⟨fun K => (pgA K "Written" "figures"), "figures", "Written.figures", (sub 23 2), []⟩)
  have o45 := ok_m_Written_figures (Pr := Pr) (w := w) (base := base) cf z F45
  have b45 : Binds K fd45 ["self"] [] := F45.bindsN (ps := ["self"]) fun _ _ _ _ _ _ us hl => match us, hl with | [_], _ => rfl
  have hprp_Written_figures : Prp Pr w K mg base (ca K) 1 "Written" "figures" ["self"] f_m_Written_figures := ⟨⟨_, _, fd45, o45, b45, prop_ok (c.fact 73 (f := .prop "Written" "figures"))⟩, cf_cls hcf (by decide +kernel), caOf_no (by decide +kernel)⟩
  obtain ⟨fd46, F46⟩ := c.def_ 46 (d := ⟨fun K => (pgA K "Written" "last"), "last", "Written.last", (sub 23 3), []⟩)
  have o46 := ok_m_Written_last (Pr := Pr) (w := w) (base := base) cf z F46
  have b46 : Binds K fd46 ["self"] [] := F46.bindsN (ps := ["self"]) fun _ _ _ _ _ _ us hl => match us, hl with | [_], _ => rfl
  have hprp_Written_last : Prp Pr w K mg base (ca K) 1 "Written" "last" ["self"] f_m_Written_last := ⟨⟨_, _, fd46, o46, b46, prop_ok (c.fact 74 (f := .prop "Written" "last"))⟩, cf_cls hcf (by decide +kernel), caOf_no (by decide +kernel)⟩
  obtain ⟨fd47, F47⟩ := c.def_ 47 (d := ⟨fun K => (pgA K "Written" "value"), "value", "Written.value", (sub 23 4), []⟩)
  have o47 := ok_m_Written_value (Pr := Pr) (w := w) (base := base) cf z F47
  have b47 : Binds K fd47 ["self"] [] := F47.bindsN (ps := ["self"]) fun _ _ _ _ _ _ us hl => match us, hl with | [_], _ => rfl
  have hprp_Written_value : Prp Pr w K mg base (ca K) 1 "Written" "value" ["self"] f_m_Written_value := ⟨⟨_, _, fd47, o47, b47, prop_ok (c.fact 75 (f := .prop "Written" "value"))⟩, cf_cls hcf (by decide +kernel), caOf_no (by decide +kernel)⟩
  obtain ⟨fd48, F48⟩ := c.def_ 48 (d := ⟨fun K => (He.ga K "add_right"), "add_right", "add_right", (top 26), []⟩)
  have o48 := ok_p_add_right (Pr := Pr) (w := w) (base := base) cf z hmak_Adding hmet_Adding_result F48
  have b48 : Binds K fd48 ["sheet"] [] := F48.bindsN (ps := ["sheet"]) fun _ _ _ _ _ _ us hl => match us, hl with | [_], _ => rfl
  have hcal_add_right : Cal Pr w K mg base (ca K) 6 "add_right" ["sheet"] f_p_add_right := ⟨⟨fd48, o48, b48⟩, He.glo_ok (x := "add_right") KX G (c.fact 76 (f := .fa (.glo "add_right"))), F48.kp⟩
  obtain ⟨fd49, F49⟩ := c.def_ 49 (d := ⟨fun K => (He.ga K "_law_is_sum"), "_law_is_sum", "_law_is_sum", (top 61), []⟩)
  have o49 := ok_p__law_is_sum (Pr := Pr) (w := w) (base := base) cf z hcal_add_right hmet_Sheet_zlenz hprp_Sheet_base hprp_Sheet_value hprp_Written_figures hprp_Written_last hprp_Written_value F49
  have b49 : Binds K fd49 ["sheet", "right", "other"] [] := F49.bindsN (ps := ["sheet", "right", "other"]) fun _ _ _ _ _ _ us hl => match us, hl with | [_, _, _], _ => rfl
  have hcal__law_is_sum : Cal Pr w K mg base (ca K) 7 "_law_is_sum" ["sheet", "right", "other"] f_p__law_is_sum := ⟨⟨fd49, o49, b49⟩, He.glo_ok (x := "_law_is_sum") KX G (c.fact 77 (f := .fa (.glo "_law_is_sum"))), F49.kp⟩
  obtain ⟨fd50, F50⟩ := c.def_ 50 (d := ⟨fun K => (He.ga K "_law_lot"), "_law_lot", "_law_lot", (top 59), []⟩)
  have o50 := ok_p__law_lot (Pr := Pr) (w := w) (base := base) cf z hmak_Sheet hprp_Sheet_base hprp_Sheet_columns F50
  have b50 : Binds K fd50 ["sheet", "rows"] [] := F50.bindsN (ps := ["sheet", "rows"]) fun _ _ _ _ _ _ us hl => match us, hl with | [_, _], _ => rfl
  have hcal__law_lot : Cal Pr w K mg base (ca K) 5 "_law_lot" ["sheet", "rows"] f_p__law_lot := ⟨⟨fd50, o50, b50⟩, He.glo_ok (x := "_law_lot") KX G (c.fact 78 (f := .fa (.glo "_law_lot"))), F50.kp⟩
  obtain ⟨fd51, F51⟩ := c.def_ 51 (d := ⟨fun K => (He.ga K "_law_take"), "_law_take", "_law_take", (top 55), []⟩)
  have o51 := ok_p__law_take (Pr := Pr) (w := w) (base := base) cf z F51
  have b51 : Binds K fd51 ["bag", "many"] [] := F51.bindsN (ps := ["bag", "many"]) fun _ _ _ _ _ _ us hl => match us, hl with | [_, _], _ => rfl
  have hcal__law_take : Cal Pr w K mg base (ca K) 1 "_law_take" ["bag", "many"] f_p__law_take := ⟨⟨fd51, o51, b51⟩, He.glo_ok (x := "_law_take") KX G (c.fact 79 (f := .fa (.glo "_law_take"))), F51.kp⟩
  obtain ⟨fd52, F52⟩ := c.def_ 52 (d := ⟨fun K => (He.ga K "_law_mixed"), "_law_mixed", "_law_mixed", (top 56), []⟩)
  have o52 := ok_p__law_mixed (Pr := Pr) (w := w) (base := base) cf z hcal__law_take F52
  have b52 : Binds K fd52 ["bag", "items"] [] := F52.bindsN (ps := ["bag", "items"]) fun _ _ _ _ _ _ us hl => match us, hl with | [_, _], _ => rfl
  have hcal__law_mixed : Cal Pr w K mg base (ca K) 2 "_law_mixed" ["bag", "items"] f_p__law_mixed := ⟨⟨fd52, o52, b52⟩, He.glo_ok (x := "_law_mixed") KX G (c.fact 80 (f := .fa (.glo "_law_mixed"))), F52.kp⟩
  obtain ⟨fd53, F53⟩ := c.def_ 53 (d := ⟨fun K => (pgA K "Written" "base"), "base", "Written.base", (sub 23 1), []⟩)
  have o53 := ok_m_Written_base (Pr := Pr) (w := w) (base := base) cf z F53
  have b53 : Binds K fd53 ["self"] [] := F53.bindsN (ps := ["self"]) fun _ _ _ _ _ _ us hl => match us, hl with | [_], _ => rfl
  have hprp_Written_base : Prp Pr w K mg base (ca K) 1 "Written" "base" ["self"] f_m_Written_base := ⟨⟨_, _, fd53, o53, b53, prop_ok (c.fact 81 (f := .prop "Written" "base"))⟩, cf_cls hcf (by decide +kernel), caOf_no (by decide +kernel)⟩
  obtain ⟨fd54, F54⟩ := c.def_ 54 (d := ⟨fun K => (He.ga K "_law_digits"), "_law_digits", "_law_digits", (top 57), []⟩)
  have o54 := ok_p__law_digits (Pr := Pr) (w := w) (base := base) cf z F54
  have b54 : Binds K fd54 ["number", "base", "many"] [] := F54.bindsN (ps := ["number", "base", "many"]) fun _ _ _ _ _ _ us hl => match us, hl with | [_, _, _], _ => rfl
  have hcal__law_digits : Cal Pr w K mg base (ca K) 1 "_law_digits" ["number", "base", "many"] f_p__law_digits := ⟨⟨fd54, o54, b54⟩, He.glo_ok (x := "_law_digits") KX G (c.fact 82 (f := .fa (.glo "_law_digits"))), F54.kp⟩
  obtain ⟨fd55, F55⟩ := c.def_ 55 (d := ⟨fun K => (He.ga K "_law_row"), "_law_row", "_law_row", (top 58), []⟩)
  have o55 := ok_p__law_row (Pr := Pr) (w := w) (base := base) cf z hcal__law_digits hprp_Written_base hprp_Written_figures hprp_Written_last F55
  have b55 : Binds K fd55 ["written", "long"] [] := F55.bindsN (ps := ["written", "long"]) fun _ _ _ _ _ _ us hl => match us, hl with | [_, _], _ => rfl
  have hcal__law_row : Cal Pr w K mg base (ca K) 3 "_law_row" ["written", "long"] f_p__law_row := ⟨⟨fd55, o55, b55⟩, He.glo_ok (x := "_law_row") KX G (c.fact 83 (f := .fa (.glo "_law_row"))), F55.kp⟩
  obtain ⟨fd56, F56⟩ := c.def_ 56 (d := ⟨fun K => (He.ga K "_law_sheet"), "_law_sheet", "_law_sheet", (top 60), []⟩)
  have o56 := ok_p__law_sheet (Pr := Pr) (w := w) (base := base) cf z hmak_Sheet F56
  have b56 : Binds K fd56 ["base", "rows"] [] := F56.bindsN (ps := ["base", "rows"]) fun _ _ _ _ _ _ us hl => match us, hl with | [_, _], _ => rfl
  have hcal__law_sheet : Cal Pr w K mg base (ca K) 5 "_law_sheet" ["base", "rows"] f_p__law_sheet := ⟨⟨fd56, o56, b56⟩, He.glo_ok (x := "_law_sheet") KX G (c.fact 84 (f := .fa (.glo "_law_sheet"))), F56.kp⟩
  obtain ⟨fd57, F57⟩ := c.def_ 57 (d := ⟨fun K => (He.ga K "is_number"), "is_number", "is_number", (top 51), []⟩)
  have o57 := ok_p_is_number (Pr := Pr) (w := w) (base := base) cf z F57
  have b57 : Binds K fd57 ["word"] [] := F57.bindsN (ps := ["word"]) fun _ _ _ _ _ _ us hl => match us, hl with | [_], _ => rfl
  have hcal_is_number : Cal Pr w K mg base (ca K) 1 "is_number" ["word"] f_p_is_number := ⟨⟨fd57, o57, b57⟩, He.glo_ok (x := "is_number") KX G (c.fact 85 (f := .fa (.glo "is_number"))), F57.kp⟩
  obtain ⟨fd58, F58⟩ := c.def_ 58 (d := ⟨fun K => (He.ga K "read_sheet"), "read_sheet", "read_sheet", (top 52), []⟩)
  have o58 := ok_p_read_sheet (Pr := Pr) (w := w) (base := base) cf z hcal_is_number hmak_Sheet F58
  have b58 : Binds K fd58 ["text"] [] := F58.bindsN (ps := ["text"]) fun _ _ _ _ _ _ us hl => match us, hl with | [_], _ => rfl
  have hcal_read_sheet : Cal Pr w K mg base (ca K) 5 "read_sheet" ["text"] f_p_read_sheet := ⟨⟨fd58, o58, b58⟩, He.glo_ok (x := "read_sheet") KX G (c.fact 86 (f := .fa (.glo "read_sheet"))), F58.kp⟩
  obtain ⟨fd59, F59⟩ := c.def_ 59 (d := ⟨fun K => (He.ga K "show_figures"), "show_figures", "show_figures", (top 49), []⟩)
  have o59 := ok_p_show_figures (Pr := Pr) (w := w) (base := base) cf z F59
  have b59 : Binds K fd59 ["figures"] [] := F59.bindsN (ps := ["figures"]) fun _ _ _ _ _ _ us hl => match us, hl with | [_], _ => rfl
  have hcal_show_figures : Cal Pr w K mg base (ca K) 1 "show_figures" ["figures"] f_p_show_figures := ⟨⟨fd59, o59, b59⟩, He.glo_ok (x := "show_figures") KX G (c.fact 87 (f := .fa (.glo "show_figures"))), F59.kp⟩
  obtain ⟨fd60, F60⟩ := c.def_ 60 (d := ⟨fun K => (He.ga K "show_sheet"), "show_sheet", "show_sheet", (top 50), []⟩)
  have o60 := ok_p_show_sheet (Pr := Pr) (w := w) (base := base) cf z hcal_show_figures hprp_Sheet_base hprp_Sheet_columns hprp_Sheet_rows F60
  have b60 : Binds K fd60 ["sheet"] [] := F60.bindsN (ps := ["sheet"]) fun _ _ _ _ _ _ us hl => match us, hl with | [_], _ => rfl
  have hcal_show_sheet : Cal Pr w K mg base (ca K) 3 "show_sheet" ["sheet"] f_p_show_sheet := ⟨⟨fd60, o60, b60⟩, He.glo_ok (x := "show_sheet") KX G (c.fact 88 (f := .fa (.glo "show_sheet"))), F60.kp⟩
  have hne_Sheet : NeC K (He.ga K "Sheet") := ⟨He.eqO_ok (c.fact 89 (f := .ne "Sheet")), of_decide_eq_true (c.fact 90 (f := .obj "Sheet"))⟩
  have hne_Written : NeC K (He.ga K "Written") := ⟨He.eqO_ok (c.fact 91 (f := .ne "Written")), of_decide_eq_true (c.fact 92 (f := .obj "Written"))⟩
  obtain ⟨fd61, F61⟩ := c.def_ 61 (d := ⟨fun K => (He.ga K "_law_lots_right"), "_law_lots_right", "_law_lots_right", (top 62), []⟩)
  have o61 := ok_p__law_lots_right (Pr := Pr) (w := w) (base := base) cf z hcal__law_is_sum hcal__law_lot hcal__law_mixed hcal__law_row hcal__law_sheet hcal__law_take hcal_add_right hcal_read_sheet hcal_show_sheet hmet_Sheet_zeqz hmet_Sheet_zlenz hmet_Written_zeqz hne_Sheet hne_Written hprp_Sheet_base hprp_Sheet_columns hprp_Sheet_rows F61
  have b61 : Binds K fd61 ["bag", "sheet", "right"] [] := F61.bindsN (ps := ["bag", "sheet", "right"]) fun _ _ _ _ _ _ us hl => match us, hl with | [_, _, _], _ => rfl
  have hcal__law_lots_right : Cal Pr w K mg base (ca K) 8 "_law_lots_right" ["bag", "sheet", "right"] f_p__law_lots_right := ⟨⟨fd61, o61, b61⟩, He.glo_ok (x := "_law_lots_right") KX G (c.fact 93 (f := .fa (.glo "_law_lots_right"))), F61.kp⟩
  obtain ⟨fd62, F62⟩ := c.def_ 62 (d := ⟨fun K => (He.ma K (He.ga K "Written") "__sub__"), "__sub__", "Written.__sub__", (sub 23 6), []⟩)
  have o62 := ok_m_Written_zsubz (Pr := Pr) (w := w) (base := base) cf z hprp_Sheet_value hprp_Written_value F62
  have b62 : Binds K fd62 ["self", "other"] [] := F62.bindsN (ps := ["self", "other"]) fun _ _ _ _ _ _ us hl => match us, hl with | [_, _], _ => rfl
  have hmet_Written_zsubz : Met Pr w K mg base (ca K) 3 "Written" "__sub__" ["self", "other"] f_m_Written_zsubz := ⟨⟨fd62, o62, b62⟩, He.meth_ok (c.fact 94 (f := .fa (.meth "Written" "__sub__"))), cf_cls hcf (by decide +kernel), caOf_no (by decide +kernel)⟩
  have hbd_Written_Sheet_zsubz : BinD K (He.ga K "Written") (He.ga K "Sheet") "__sub__" "__rsub__" := ⟨c.fact 95 (f := .first "Written"), differ_ok (c.fact 96 (f := .differ "Written" "Sheet")), bare_ok (c.fact 97 (f := .bare "Sheet")), He.eqO_ok (c.fact 98 (f := .nofind "Sheet" "__sub__")), He.eqO_ok (c.fact 99 (f := .nofind "Sheet" "__rsub__")), He.eqO_ok (c.fact 100 (f := .noobj "__sub__")), He.eqO_ok (c.fact 101 (f := .noobj "__rsub__"))⟩
  obtain ⟨fd63, F63⟩ := c.def_ 63 (d := ⟨fun K => (He.ga K "_law_slip_right"), "_law_slip_right", "_law_slip_right", (top 64), []⟩)
  have o63 := ok_p__law_slip_right (Pr := Pr) (w := w) (base := base) cf z hbd_Written_Sheet_zsubz hcal__law_row hcal__law_sheet hcal__law_take hcal_add_with hmet_Sheet_zlenz hmet_Written_zsubz hprp_Sheet_base F63
  have b63 : Binds K fd63 ["bag", "sheet", "right"] [] := F63.bindsN (ps := ["bag", "sheet", "right"]) fun _ _ _ _ _ _ us hl => match us, hl with | [_, _, _], _ => rfl
  have hcal__law_slip_right : Cal Pr w K mg base (ca K) 7 "_law_slip_right" ["bag", "sheet", "right"] f_p__law_slip_right := ⟨⟨fd63, o63, b63⟩, He.glo_ok (x := "_law_slip_right") KX G (c.fact 102 (f := .fa (.glo "_law_slip_right"))), F63.kp⟩
  obtain ⟨fd64, F64⟩ := c.def_ 64 (d := ⟨fun K => (He.ga K "_law_zeros_right"), "_law_zeros_right", "_law_zeros_right", (top 63), []⟩)
  have o64 := ok_p__law_zeros_right (Pr := Pr) (w := w) (base := base) cf z hcal_add_right hmak_Sheet hmet_Written_zeqz hprp_Sheet_base hprp_Sheet_columns hprp_Sheet_rows F64
  have b64 : Binds K fd64 ["sheet", "right"] [] := F64.bindsN (ps := ["sheet", "right"]) fun _ _ _ _ _ _ us hl => match us, hl with | [_, _], _ => rfl
  have hcal__law_zeros_right : Cal Pr w K mg base (ca K) 7 "_law_zeros_right" ["sheet", "right"] f_p__law_zeros_right := ⟨⟨fd64, o64, b64⟩, He.glo_ok (x := "_law_zeros_right") KX G (c.fact 103 (f := .fa (.glo "_law_zeros_right"))), F64.kp⟩
  obtain ⟨fd65, F65⟩ := c.def_ 65 (d := ⟨fun K => (He.ga K "_law_right"), "_law_right", "_law_right", (top 66), []⟩)
  have o65 := ok_p__law_right (Pr := Pr) (w := w) (base := base) cf z hcal__law_ledger_right hcal__law_lots_right hcal__law_slip_right hcal__law_take hcal__law_zeros_right hcal_add_right hcalo__law_bag hmak_Sheet F65
  have b65 : Binds K fd65 ["script", "k"] [] := F65.bindsN (ps := ["script", "k"]) fun _ _ _ _ _ _ us hl => match us, hl with | [_, _], _ => rfl
  have hcal__law_right : Cal Pr w K mg base (ca K) 10 "_law_right" ["script", "k"] f_p__law_right := ⟨⟨fd65, o65, b65⟩, He.glo_ok (x := "_law_right") KX G (c.fact 104 (f := .fa (.glo "_law_right"))), F65.kp⟩
  exact ok_p_law (Pr := Pr) (w := w) (base := base) cf z hcal__law_right FL
end K83
namespace K83
open PySem PySem.Spec PyProof.Rows L2 Ev
def names0 : List PySem.Str := ["_wall", "SlipError", "InvalidSheet", "InvalidColumn", "InvalidKind", "InvalidLot", "NotAlike", "NotPossible", "Waits", "InvalidText", "InvalidSlips", "is_integer", "is_column", "Sheet", "PLAIN", "all_deeds", "is_deed", "taken", "done", "Written", "Adding", "is_slip", "add_right", "add_with", "MOST_DEEDS", "MOST_COLUMNS", "number_of_columns", "Kind"]
def names1 : List PySem.Str := ["check_lot", "copy_rows", "power", "beginning", "is_possible", "taken_sum", "done_rightly", "done_with", "near_behind", "next_standing", "Ledger", "FIGURES", "DIGITS", "show_figures", "show_sheet", "is_number", "read_sheet", "_law_bag", "_law_take", "_law_mixed", "_law_digits", "_law_row", "_law_lot", "_law_sheet", "_law_is_sum", "_law_lots_right", "_law_zeros_right", "_law_slip_right"]
def names2 : List PySem.Str := ["_law_ledger_right", "_law_right"]
abbrev names : List PySem.Str := names0 ++ names1 ++ names2
abbrev RW : PySem.W.OpenRow := PySem.W.OpenLaw.row PySem.Challenge.rw_sumslips_k83_whole_rows_added_in_two_goe
def asL : List Addr := [3, 156, 161, 292, 297, 302, 307, 314, 321, 391, 440, 451, 458, 465, 472, 557, 568, 573, 580, 585, 606, 620, 625, 707, 716, 721, 726, 731, 738, 745, 752, 759, 766, 771, 776, 783, 788, 793, 800, 807, 812, 819, 155, 160, 291, 301, 306, 313, 320, 390, 439, 450, 457, 464, 471, 556, 567, 572, 579, 584, 605, 619, 624, 706, 715, 720, 725, 730, 737, 744, 751, 758, 765, 770, 775, 782, 787, 792, 799, 806, 811, 818, 173, 181, 189, 197, 205, 212, 254, 261, 335, 343, 351, 359, 367, 381, 388, 409, 416, 423, 430, 437, 484, 492, 500, 508, 516, 639, 645, 651, 659, 667, 682, 697, 172, 180, 188, 196, 204, 211, 253, 260, 334, 342, 350, 358, 366, 380, 387, 408, 415, 422, 429, 436, 483, 491, 499, 507, 515, 638, 644, 650, 658, 666, 681, 675, 696, 179, 187, 195, 203, 341, 349, 357, 365, 490, 498, 506, 514, 643, 649, 657, 665]
abbrev hk : PySem.W.Hook := hookL asL fa fn
def ob (s : PySem.W.SharedT) : AlZ := obsLG asL fa fn (HandSHeadRun.getT s)
theorem ob_eq (s : PySem.W.SharedT) : ob s = hk.obs s.abs := obsLG_eq (HandSHeadRun.getT_eq s)
theorem hrunA (w : World) (os : OsState) : (HandSHeadRun.endF (HandSHeadRun.stepQ (HandSHeadRun.denQ HandSHeadRun.tabQ) RW.prog w) 15000 RW.prog w os).map (fun s => HandSHeadRun.looksF RW.prog (PySem.W.boot_heap w.params) s.abs) = some true := by kernel_rfl
theorem hrunB (w : World) (os : OsState) : (HandSHeadRun.endF (HandSHeadRun.stepQ (HandSHeadRun.denQ HandSHeadRun.tabQ) RW.prog w) 15000 RW.prog w os).map (fun s => HandSHeadRun.seenQ (PySem.W.view RW.prog [67]) names (PySem.importedModules RW.prog.main.body) (fun s => PySem.W.xlAt (PySem.W.view RW.prog [67]) [] s && PySem.W.recOk RW.toRowW.records s) s.abs) = some (PySem.W.openGood (PySem.W.view RW.prog [67]) names) := by kernel_rfl
theorem hrunC (w : World) (os : OsState) : (HandSHeadRun.endF (HandSHeadRun.stepQ (HandSHeadRun.denQ HandSHeadRun.tabQ) RW.prog w) 15000 RW.prog w os).map ob = some (hk.val w) := by kernel_rfl
theorem run (w : World) : HandSHeadRun.RunEq RW (PySem.W.view RW.prog [67]) hk ob 15000 names w := fun os => map3 (hrunA w os) (hrunB w os) (hrunC w os)
theorem holds_of (pure : ∀ ns : List Int, ns.length ≤ 63 → ∃ cs', K83.f_p_law [.f (.scr ns)] = .ok (.bl true) cs') : PySem.Challenge.rw_sumslips_k83_whole_rows_added_in_two_goe.Holds := by
  w_on; o_law
  refine HandSHeadRun.head_any (r := PySem.W.OpenLaw.row PySem.Challenge.rw_sumslips_k83_whole_rows_added_in_two_goe) (q := PySem.W.view (PySem.W.OpenLaw.row PySem.Challenge.rw_sumslips_k83_whole_rows_added_in_two_goe).prog [67]) (H := hk) (ob := ob) (M := 15000) (loose := names) (d := HandSHeadRun.topDef (PySem.W.OpenLaw.row PySem.Challenge.rw_sumslips_k83_whole_rows_added_in_two_goe).prog 67) (kwd := []) ob_eq
    (by kernel_rfl) (fun s => by kernel_rfl) run (by kernel_rfl) (by kernel_rfl) (by kernel_rfl) (by rfl) (by first | assumption | decide +kernel) (by decide +kernel) ⟨rfl, rfl, rfl, rfl, rfl, by decide +kernel⟩ ?hw ?hc
  case hw => w_witness2
  case hc =>
    refine walk_ofEw (l := PySem.Challenge.rw_sumslips_k83_whole_rows_added_in_two_goe) (n := 63) (k := 11) (x := "script") (CX := fun w => L2.CX (PySem.Challenge.rw_sumslips_k83_whole_rows_added_in_two_goe).prog w) rfl (by decide) (by kernel_rfl) ⟨rfl, by decide, by decide⟩ ?F (fun w H s e s' h => noCX h)
    intro w mg fa0 h Y G hmg0
    obtain ⟨K, KX, c⟩ := Y
    have hmg : mg ("law" : PySem.Str) = some (.ref fa0) := by
      have e : (HandSHeadRun.topDef (PySem.W.OpenLaw.row PySem.Challenge.rw_sumslips_k83_whole_rows_added_in_two_goe).prog 67).name = ("law" : PySem.Str) := by kernel_rfl
      rw [← e]
      exact hmg0
    obtain ⟨hL, fd, hb, hb1, hF⟩ := facts (Pr := (PySem.Challenge.rw_sumslips_k83_whole_rows_added_in_two_goe).prog) (w := w) KX G c
    have ea := hmg.symm.trans hL
    cases ea
    exact ⟨K, fd, _, KX, hb1, fun H a ns hl hO hS => start_law (pure ns hl) hS, fun base _ _ => hF base⟩
end K83
namespace Ev
open PySem PySem.Spec PyProof.Rows L2
def kSeq (b : S) (f : Fl) (st : Sl) : R Fl := match f with
  | .nx => b st
  | f => .ok f st
@[simp] theorem sSeq_eq {a b : S} {st : Sl} : sSeq a b st = (a st).bind (kSeq b) := rfl
@[simp] theorem kSeq_nx {b : S} {st : Sl} : kSeq b .nx st = b st := rfl
@[simp] theorem kSeq_rt {b : S} {d : D} {st : Sl} : kSeq b (.rt d) st = .ok (.rt d) st := rfl
@[simp] theorem kSeq_bk {b : S} {st : Sl} : kSeq b .bk st = .ok .bk st := rfl
@[simp] theorem kSeq_ct {b : S} {st : Sl} : kSeq b .ct st = .ok .ct st := rfl
def kIf (a b : S) (k : Bool) (st : Sl) : R Fl := match k with
  | true => a st
  | false => b st
@[simp] theorem sIf_eq {c : B'} {a b : S} {st : Sl} : sIf c a b st = (c st).bind (kIf a b) := rfl
@[simp] theorem kIf_t {a b : S} {st : Sl} : kIf a b true st = a st := rfl
@[simp] theorem kIf_f {a b : S} {st : Sl} : kIf a b false st = b st := rfl
@[simp] theorem sNil_eq {st : Sl} : sNil st = .ok .nx st := rfl
@[simp] theorem sRetN_eq {st : Sl} : sRetN st = .ok (.rt .non) st := rfl
def kDrop (_ : D) (st : Sl) : R Fl := .ok .nx st
@[simp] theorem sDrop_eq {m : E} {st : Sl} : sDrop m st = (m st).bind kDrop := rfl
@[simp] theorem kDrop_eq {d : D} {st : Sl} : kDrop d st = .ok .nx st := rfl
def kRet (d : D) (st : Sl) : R Fl := .ok (.rt d) st
@[simp] theorem sRet_eq {m : E} {st : Sl} : sRet m st = (m st).bind kRet := rfl
@[simp] theorem kRet_eq {d : D} {st : Sl} : kRet d st = .ok (.rt d) st := rfl
def kSet (i : Nat) (d : D) (st : Sl) : R Fl := setC i (.f d) st
@[simp] theorem sSet_eq {i : Nat} {m : E} {st : Sl} : sSet i m st = (m st).bind (kSet i) := rfl
def kSetO (i : Nat) (d : D) (st : Sl) : R Fl := setC i (.o d) st
@[simp] theorem sSetO_eq {i : Nat} {m : E} {st : Sl} : sSetO i m st = (m st).bind (kSetO i) := rfl
/-- a slot stored, in a list that is written out -/
def setL (i : Nat) (c : Cell) (st : Sl) : Option Sl := match i, st with
  | 0, _ :: xs => some (c :: xs)
  | i + 1, x :: xs => (setL i c xs).map (x :: ·)
  | _, [] => none
def kSt : Option Sl → R Fl
  | some st => .ok .nx st
  | none => .bad
@[simp] theorem kSt_some {st : Sl} : kSt (some st) = .ok .nx st := rfl
theorem setL_eq : ∀ {i : Nat} {c : Cell} {st : Sl}, setL i c st = (st[i]?).map fun _ => st.set i c
  | 0, c, [] => rfl
  | 0, c, x :: xs => rfl
  | i + 1, c, [] => rfl
  | i + 1, c, x :: xs => by
    unfold setL
    rw [setL_eq, List.getElem?_cons_succ]
    cases xs[i]? <;> rfl
@[simp] theorem setL_0 {c x : Cell} {xs : Sl} : setL 0 c (x :: xs) = some (c :: xs) := rfl
@[simp] theorem setL_s {i : Nat} {c x : Cell} {xs : Sl} : setL (i + 1) c (x :: xs) = (setL i c xs).map (x :: ·) := rfl
theorem setC_eq {i : Nat} {c : Cell} {st : Sl} : setC i c st = kSt (setL i c st) := by
  unfold setC
  rw [setL_eq]
  cases st[i]? <;> rfl
@[simp] theorem kSet_eq {i : Nat} {d : D} {st : Sl} : kSet i d st = kSt (setL i (.f d) st) := setC_eq
@[simp] theorem kSetO_eq {i : Nat} {d : D} {st : Sl} : kSetO i d st = kSt (setL i (.o d) st) := setC_eq
@[simp] theorem eC_eq {d : D} {st : Sl} : eC d st = .ok d st := rfl
def kV (st : Sl) : Option Cell → R D
  | some (.f d) => .ok d st
  | _ => .bad
@[simp] theorem eV_eq {i : Nat} {st : Sl} : eV i st = kV st st[i]? := by unfold eV kV; cases st[i]? with | none => rfl | some c => cases c <;> rfl
@[simp] theorem kV_f {d : D} {st : Sl} : kV st (some (.f d)) = .ok d st := rfl
def kFz (i : Nat) (st : Sl) : Option Cell → R D
  | some (.f d) => .ok d st
  | some (.o d) => (match fzOk d, setL i (.f d) st with
    | true, some st => .ok d st
    | _, _ => .bad)
  | _ => .bad
@[simp] theorem eFz_eq {i : Nat} {st : Sl} : eFz i st = kFz i st st[i]? := by
  unfold eFz kFz
  cases z : st[i]? with
  | none => rfl
  | some c =>
    cases c with
    | n => rfl
    | f d => rfl
    | o d =>
      simp only [setL_eq, z, Option.map_some]
      cases fzOk d <;> rfl
@[simp] theorem kFz_f {i : Nat} {d : D} {st : Sl} : kFz i st (some (.f d)) = .ok d st := rfl
theorem kFz_o {i : Nat} {d : D} {st : Sl} : kFz i st (some (.o d)) = (match fzOk d, setL i (.f d) st with
    | true, some st => .ok d st
    | _, _ => .bad) := rfl
@[simp] theorem fz_lst {ds : List D} : fzOk (.lst ds) = true := rfl
def kOpt (st : Sl) : Option Sl → D → R D := fun o d => match o with
  | some st => .ok d st
  | none => .bad
@[simp] theorem kOpt_some {st st' : Sl} {d : D} : kOpt st (some st') d = .ok d st' := rfl
@[simp] theorem kFz_lst {i : Nat} {ds : List D} {st : Sl} : kFz i st (some (.o (.lst ds))) = kOpt st (setL i (.f (.lst ds)) st) (.lst ds) := by
  rw [kFz_o]; simp only [fz_lst]; cases setL i (.f (.lst ds)) st <;> rfl
def rdC : Option Cell → Option D
  | some (.f d) => some d
  | some (.o d) => some d
  | _ => none
@[simp] theorem rd_eq {i : Nat} {st : Sl} : rd i st = rdC st[i]? := by unfold rd rdC; cases st[i]? with | none => rfl | some c => cases c <;> rfl
@[simp] theorem rdC_f {d : D} : rdC (some (.f d)) = some d := rfl
@[simp] theorem rdC_o {d : D} : rdC (some (.o d)) = some d := rfl
/-- one value, two -/
def kO1 (g : List D → Option D) (a : Option D) (st : Sl) : R D := match a with
  | some a => (match g [a] with
    | some d => .ok d st
    | none => .bad)
  | none => .bad
def kRes (st : Sl) : Option D → R D
  | some d => .ok d st
  | none => .bad
@[simp] theorem kRes_some {st : Sl} {d : D} : kRes st (some d) = .ok d st := rfl
def kE1 (g : List D → Option D) (d : D) (st : Sl) : R D := kRes st (g [d])
@[simp] theorem kE1_eq {g : List D → Option D} {d : D} {st : Sl} : kE1 g d st = kRes st (g [d]) := rfl
@[simp] theorem eOp_e {g : List D → Option D} {m : E} {st : Sl} : eOp g [.e m] st = (m st).bind (kE1 g) := by
  unfold eOp
  rw [evOs_e]
  cases m st with
  | ok d st1 => show (match g [d] with | some d => R.ok d st1 | none => .bad) = kRes st1 (g [d]); cases g [d] <;> rfl
  | exc c x s => rfl
  | bad => rfl
def kV1 (g : List D → Option D) (st : Sl) : Option D → R D
  | some d => kRes st (g [d])
  | none => .bad
@[simp] theorem kV1_some {g : List D → Option D} {d : D} {st : Sl} : kV1 g st (some d) = kRes st (g [d]) := rfl
@[simp] theorem eOp_v {g : List D → Option D} {i : Nat} {st : Sl} : eOp g [.v i] st = kV1 g st (rd i st) := by
  cases z : rd i st with
  | none =>
    unfold eOp
    rw [evOs_v0 z]; rfl
  | some d =>
    unfold eOp
    rw [evOs_v z]
    show (match rdAll [rd i] st with | some ds => (match g ds with | some d => R.ok d st | none => .bad) | none => .bad) = kRes st (g [d])
    unfold rdAll
    rw [z]
    show (match g [d] with | some d => R.ok d st | none => .bad) = kRes st (g [d])
    cases g [d] <;> rfl
@[simp] theorem eOp_h {g : List D → Option D} {i : Nat} {f : Str} {st : Sl} : eOp g [.h i f] st = kV1 g st (rdF i f st) := by
  unfold eOp
  rw [evOs_h]
  show (match rdAll [rdF i f] st with | some ds => (match g ds with | some d => R.ok d st | none => .bad) | none => .bad) = _
  unfold rdAll
  cases rdF i f st with
  | none => rfl
  | some d => show (match g [d] with | some d => R.ok d st | none => .bad) = kRes st (g [d]); cases g [d] <;> rfl
/-- a, then b -/
def kEb (g : List D → Option D) (a b : D) (st : Sl) : R D := kRes st (g [a, b])
def kEa (g : List D → Option D) (n : E) (a : D) (st : Sl) : R D := (n st).bind (kEb g a)
@[simp] theorem kEb_eq {g : List D → Option D} {a b : D} {st : Sl} : kEb g a b st = kRes st (g [a, b]) := rfl
@[simp] theorem kEa_eq {g : List D → Option D} {n : E} {a : D} {st : Sl} : kEa g n a st = (n st).bind (kEb g a) := rfl
theorem resK {g : List D → Option D} {ds : List D} {st : Sl} : (match g ds with | some d => R.ok d st | none => .bad) = kRes st (g ds) := by cases g ds <;> rfl
@[simp] theorem eOp_ee {g : List D → Option D} {m n : E} {st : Sl} : eOp g [.e m, .e n] st = (m st).bind (kEa g n) := by
  unfold eOp
  rw [evOs_e]
  cases m st with
  | ok d st1 =>
    simp only [R.bind, evOs_e]
    show _ = (n st1).bind _
    cases n st1 with
    | ok e st2 => exact resK
    | exc c x s => rfl
    | bad => rfl
  | exc c x s => rfl
  | bad => rfl
def kVb (g : List D → Option D) (st : Sl) (a : D) : Option D → R D
  | some b => kRes st (g [a, b])
  | none => .bad
@[simp] theorem kVb_some {g : List D → Option D} {a b : D} {st : Sl} : kVb g st a (some b) = kRes st (g [a, b]) := rfl
def kEv (g : List D → Option D) (i : Nat) (a : D) (st : Sl) : R D := kVb g st a (rd i st)
@[simp] theorem kEv_eq {g : List D → Option D} {i : Nat} {a : D} {st : Sl} : kEv g i a st = kVb g st a (rd i st) := rfl
@[simp] theorem eOp_ev {g : List D → Option D} {m : E} {i : Nat} {st : Sl} : eOp g [.e m, .v i] st = (m st).bind (kEv g i) := by
  unfold eOp
  rw [evOs_e]
  cases m st with
  | ok d st1 =>
    cases z : rd i st1 with
    | none =>
      simp only [R.bind, evOs_v0 z]
      show _ = kVb g st1 d (rd i st1)
      rw [z]; rfl
    | some b =>
      simp only [R.bind, evOs_v z]
      show _ = kVb g st1 d (rd i st1)
      simp only [rdAll, z, evOs, R.bind]
      exact resK
  | exc c x s => rfl
  | bad => rfl
/-- v, then b: the first is read at the end -/
def kVeb (g : List D → Option D) (i : Nat) (b : D) (st : Sl) : R D := match rd i st with
  | some a => kRes st (g [a, b])
  | none => .bad
def kV2 (g : List D → Option D) (b : D) (st : Sl) : Option D → R D
  | some a => kRes st (g [a, b])
  | none => .bad
@[simp] theorem kV2_some {g : List D → Option D} {a b : D} {st : Sl} : kV2 g b st (some a) = kRes st (g [a, b]) := rfl
@[simp] theorem kVeb_eq {g : List D → Option D} {i : Nat} {b : D} {st : Sl} : kVeb g i b st = kV2 g b st (rd i st) := by unfold kVeb kV2; cases rd i st <;> rfl
def kIsV (o : Option D) (r : R D) : R D := match o with
  | some _ => r
  | none => .bad
@[simp] theorem kIsV_some {d : D} {r : R D} : kIsV (some d) r = r := rfl
@[simp] theorem eOp_ve {g : List D → Option D} {i : Nat} {n : E} {st : Sl} : eOp g [.v i, .e n] st = kIsV (rd i st) ((n st).bind (kVeb g i)) := by
  cases z : rd i st with
  | none => unfold eOp; rw [evOs_v0 z]; rfl
  | some d =>
    unfold eOp
    rw [evOs_v z, evOs_e]
    cases n st with
    | ok e st2 =>
      simp only [R.bind, evOs, rdAll]
      show _ = kVeb g i e st2
      unfold kVeb
      cases rd i st2 with
      | none => rfl
      | some a => exact resK
    | exc c x s => rfl
    | bad => rfl
def kVV (g : List D → Option D) (st : Sl) : Option D → Option D → R D
  | some a, some b => kRes st (g [a, b])
  | _, _ => .bad
@[simp] theorem kVV_some {g : List D → Option D} {a b : D} {st : Sl} : kVV g st (some a) (some b) = kRes st (g [a, b]) := rfl
@[simp] theorem eOp_vv {g : List D → Option D} {i j : Nat} {st : Sl} : eOp g [.v i, .v j] st = kVV g st (rd i st) (rd j st) := by
  cases z : rd i st with
  | none => unfold eOp; rw [evOs_v0 z]; rfl
  | some d =>
    cases z2 : rd j st with
    | none =>
      unfold eOp
      rw [evOs_v z, evOs_v0 z2]; rfl
    | some e =>
      unfold eOp
      rw [evOs_v z, evOs_v z2]
      simp only [R.bind, evOs, rdAll, z, z2]
      exact resK
def kT (d : D) (st : Sl) : R Bool := match d with
  | .bl b => .ok b st
  | _ => .bad
@[simp] theorem mT_eq {m : E} {st : Sl} : mT m st = (m st).bind kT := rfl
@[simp] theorem kT_eq {b : Bool} {st : Sl} : kT (.bl b) st = .ok b st := rfl
def kTr (st : Sl) : Option Bool → R Bool
  | some b => .ok b st
  | none => .bad
@[simp] theorem kTr_some {b : Bool} {st : Sl} : kTr st (some b) = .ok b st := rfl
def kTru (d : D) (st : Sl) : R Bool := kTr st (tru d)
@[simp] theorem kTru_eq {d : D} {st : Sl} : kTru d st = kTr st (tru d) := rfl
@[simp] theorem mTru_e {m : E} {st : Sl} : mTru (.e m) st = (m st).bind kTru := by
  show ((m st).bind fun d st => R.ok (fun _ => some d) st).bind _ = _
  cases m st with
  | ok d st1 => show (match tru d with | some b => R.ok b st1 | none => .bad) = kTr st1 (tru d); cases tru d <;> rfl
  | exc c x s => rfl
  | bad => rfl
def kTo (st : Sl) : Option D → R Bool
  | some d => kTr st (tru d)
  | none => .bad
@[simp] theorem kTo_some {d : D} {st : Sl} : kTo st (some d) = kTr st (tru d) := rfl
@[simp] theorem mTru_v {i : Nat} {st : Sl} : mTru (.v i) st = kTo st (rd i st) := by
  have e : evO (.v i) st = (match rd i st with | some _ => .ok (rd i) st | none => .bad) := rfl
  show (evO (.v i) st).bind _ = _
  rw [e]
  cases z : rd i st with
  | none => rfl
  | some d =>
    show (match rd i st with | some d => (match tru d with | some b => R.ok b st | none => .bad) | none => .bad) = kTr st (tru d)
    rw [z]
    show (match tru d with | some b => R.ok b st | none => .bad) = kTr st (tru d)
    cases tru d <;> rfl
@[simp] theorem tru_bl {b : Bool} : tru (.bl b) = some b := rfl
def kNot (b : Bool) (st : Sl) : R Bool := .ok (!b) st
@[simp] theorem mNot_eq {m : B'} {st : Sl} : mNot m st = (m st).bind kNot := rfl
@[simp] theorem kNot_eq {b : Bool} {st : Sl} : kNot b st = .ok (!b) st := rfl
def kAnd (n : B') (b : Bool) (st : Sl) : R Bool := match b with
  | true => n st
  | false => .ok false st
@[simp] theorem mAnd_eq {m n : B'} {st : Sl} : mAnd m n st = (m st).bind (kAnd n) := rfl
@[simp] theorem kAnd_t {n : B'} {st : Sl} : kAnd n true st = n st := rfl
@[simp] theorem kAnd_f {n : B'} {st : Sl} : kAnd n false st = .ok false st := rfl
def kOr (n : B') (b : Bool) (st : Sl) : R Bool := match b with
  | true => .ok true st
  | false => n st
@[simp] theorem mOr_eq {m n : B'} {st : Sl} : mOr m n st = (m st).bind (kOr n) := rfl
@[simp] theorem kOr_t {n : B'} {st : Sl} : kOr n true st = .ok true st := rfl
@[simp] theorem kOr_f {n : B'} {st : Sl} : kOr n false st = n st := rfl
def kIfE (a b : E) (k : Bool) (st : Sl) : R D := match k with
  | true => a st
  | false => b st
@[simp] theorem eIf_eq {c : B'} {a b : E} {st : Sl} : eIf c a b st = (c st).bind (kIfE a b) := rfl
@[simp] theorem kIfE_t {a b : E} {st : Sl} : kIfE a b true st = a st := rfl
@[simp] theorem kIfE_f {a b : E} {st : Sl} : kIfE a b false st = b st := rfl
def kAndE (b : E) (d : D) (st : Sl) : R D := match d with
  | .bl true => b st
  | .bl false => .ok (.bl false) st
  | _ => .bad
@[simp] theorem eAnd_eq {a b : E} {st : Sl} : eAnd a b st = (a st).bind (kAndE b) := rfl
@[simp] theorem kAndE_t {b : E} {st : Sl} : kAndE b (.bl true) st = b st := rfl
@[simp] theorem kAndE_f {b : E} {st : Sl} : kAndE b (.bl false) st = .ok (.bl false) st := rfl
def kNotE (d : D) (st : Sl) : R D := match d with
  | .bl b => .ok (.bl (!b)) st
  | _ => .bad
@[simp] theorem eNot_eq {a : E} {st : Sl} : eNot a st = (a st).bind kNotE := rfl
@[simp] theorem kNotE_eq {b : Bool} {st : Sl} : kNotE (.bl b) st = .ok (.bl (!b)) st := rfl
def kCh3 (g' : List D → Option D) (y z : D) (st : Sl) : R D := kRes st (g' [y, z])
@[simp] theorem kCh3_eq {g' : List D → Option D} {y z : D} {st : Sl} : kCh3 g' y z st = kRes st (g' [y, z]) := rfl
def kChR (g' : List D → Option D) (c : E) (y : D) (st : Sl) : Option D → R D
  | some (.bl true) => (c st).bind (kCh3 g' y)
  | some (.bl false) => .ok (.bl false) st
  | _ => .bad
@[simp] theorem kChR_t {g' : List D → Option D} {c : E} {y : D} {st : Sl} : kChR g' c y st (some (.bl true)) = (c st).bind (kCh3 g' y) := rfl
@[simp] theorem kChR_f {g' : List D → Option D} {c : E} {y : D} {st : Sl} : kChR g' c y st (some (.bl false)) = .ok (.bl false) st := rfl
def kCh2 (g g' : List D → Option D) (c : E) (x y : D) (st : Sl) : R D := kChR g' c y st (g [x, y])
@[simp] theorem kCh2_eq {g g' : List D → Option D} {c : E} {x y : D} {st : Sl} : kCh2 g g' c x y st = kChR g' c y st (g [x, y]) := rfl
def kCh1 (g g' : List D → Option D) (b c : E) (x : D) (st : Sl) : R D := (b st).bind (kCh2 g g' c x)
@[simp] theorem kCh1_eq {g g' : List D → Option D} {b c : E} {x : D} {st : Sl} : kCh1 g g' b c x st = (b st).bind (kCh2 g g' c x) := rfl
@[simp] theorem eChn_eq {g g' : List D → Option D} {a b c : E} {st : Sl} : eChn g g' a b c st = (a st).bind (kCh1 g g' b c) := by
  unfold eChn
  cases a st with
  | exc c x s => rfl
  | bad => rfl
  | ok x st1 =>
    simp only [R.bind]
    show _ = (b st1).bind _
    cases b st1 with
    | exc c x s => rfl
    | bad => rfl
    | ok y st2 =>
      simp only [R.bind]
      show _ = kChR g' c y st2 (g [x, y])
      cases g [x, y] with
      | none => rfl
      | some d =>
        cases d with
        | bl k =>
          cases k with
          | false => rfl
          | true =>
            show (c st2).bind _ = (c st2).bind _
            cases c st2 with
            | exc c x s => rfl
            | bad => rfl
            | ok z st3 => show (match g' [y, z] with | some d => R.ok d st3 | none => .bad) = kRes st3 (g' [y, z]); cases g' [y, z] <;> rfl
        | _ => rfl
def kAl2 (d : D) (ds : List D) (st : Sl) : R (List D) := .ok (d :: ds) st
def kAl1 (ms : List E) (d : D) (st : Sl) : R (List D) := (evAll ms st).bind (kAl2 d)
@[simp] theorem kAl2_eq {d : D} {ds : List D} {st : Sl} : kAl2 d ds st = .ok (d :: ds) st := rfl
@[simp] theorem kAl1_eq {ms : List E} {d : D} {st : Sl} : kAl1 ms d st = (evAll ms st).bind (kAl2 d) := rfl
@[simp] theorem evAll_nil {st : Sl} : evAll [] st = .ok [] st := rfl
@[simp] theorem evAll_cons {m : E} {ms : List E} {st : Sl} : evAll (m :: ms) st = (m st).bind (kAl1 ms) := rfl
def kTup (ds : List D) (st : Sl) : R D := .ok (.tup ds) st
def kLst (ds : List D) (st : Sl) : R D := .ok (.lst ds) st
@[simp] theorem eTup_eq {ms : List E} {st : Sl} : eTup ms st = (evAll ms st).bind kTup := rfl
@[simp] theorem eLst_eq {ms : List E} {st : Sl} : eLst ms st = (evAll ms st).bind kLst := rfl
@[simp] theorem kTup_eq {ds : List D} {st : Sl} : kTup ds st = .ok (.tup ds) st := rfl
@[simp] theorem kLst_eq {ds : List D} {st : Sl} : kLst ds st = .ok (.lst ds) st := rfl
def kFr (d : D) (st : Sl) : R D := match fzOk d with
  | true => .ok d st
  | false => .bad
@[simp] theorem eFr_eq {m : E} {st : Sl} : eFr m st = (m st).bind kFr := rfl
@[simp] theorem kFr_lst {ds : List D} {st : Sl} : kFr (.lst ds) st = .ok (.lst ds) st := rfl
def kAe (d : D) (st : Sl) : R AV := .ok (.d d) st
def kAt (d : D) (st : Sl) : R AV := .ok (.o d) st
@[simp] theorem kAe_eq {d : D} {st : Sl} : kAe d st = .ok (.d d) st := rfl
@[simp] theorem kAt_eq {d : D} {st : Sl} : kAt d st = .ok (.o d) st := rfl
@[simp] theorem evArg_e {m : E} {st : Sl} : evArg (.e m) st = (m st).bind kAe := rfl
@[simp] theorem evArg_t {m : E} {st : Sl} : evArg (.t m) st = (m st).bind kAt := rfl
def kAm (i : Nat) (st : Sl) : Option Cell → R AV
  | some (.f _) => .ok (.sl i) st
  | some (.o _) => .ok (.sl i) st
  | _ => .bad
@[simp] theorem evArg_mu {i : Nat} {st : Sl} : evArg (.mu i) st = kAm i st st[i]? := by
  show (match st[i]? with | some (Cell.f _) => R.ok (AV.sl i) st | some (Cell.o _) => .ok (.sl i) st | _ => .bad) = _
  unfold kAm; cases st[i]? with | none => rfl | some c => cases c <;> rfl
@[simp] theorem kAm_f {i : Nat} {d : D} {st : Sl} : kAm i st (some (.f d)) = .ok (.sl i) st := rfl
@[simp] theorem kAm_o {i : Nat} {d : D} {st : Sl} : kAm i st (some (.o d)) = .ok (.sl i) st := rfl
def kAs2 (a : AV) (as : List AV) (st : Sl) : R (List AV) := .ok (a :: as) st
def kAs1 (ps : List Arg) (a : AV) (st : Sl) : R (List AV) := (evArgs ps st).bind (kAs2 a)
@[simp] theorem kAs2_eq {a : AV} {as : List AV} {st : Sl} : kAs2 a as st = .ok (a :: as) st := rfl
@[simp] theorem kAs1_eq {ps : List Arg} {a : AV} {st : Sl} : kAs1 ps a st = (evArgs ps st).bind (kAs2 a) := rfl
@[simp] theorem evArgs_nil {st : Sl} : evArgs [] st = .ok [] st := rfl
@[simp] theorem evArgs_cons {p : Arg} {ps : List Arg} {st : Sl} : evArgs (p :: ps) st = (evArg p st).bind (kAs1 ps) := rfl
/-- frozen arguments -/
def fzs : List AV → Option (List Cell)
  | [] => some []
  | .d d :: as => (fzs as).map (.f d :: ·)
  | _ => none
def kOut (as : List AV) (st : Sl) : Out → R D
  | .ok d cs => .ok d (putAll as cs st)
  | .exc c x cs => .exc c x (putAll as cs st)
  | .bad => .bad
@[simp] theorem kOut_ok {as : List AV} {st : Sl} {d : D} {cs : List Cell} : kOut as st (.ok d cs) = .ok d (putAll as cs st) := rfl
def kTake (mf : MF) (as : List AV) : Option (List Cell × Sl) → R D
  | some (cs, st) => kOut as st (mf cs)
  | none => .bad
@[simp] theorem kTake_some {mf : MF} {as : List AV} {cs : List Cell} {st : Sl} : kTake mf as (some (cs, st)) = kOut as st (mf cs) := rfl
@[simp] theorem callTail_eq {mf : MF} {as : List AV} {st : Sl} : callTail mf as st = kTake mf as (takeAll as st) := by
  show (match takeAll as st with
  | some (cs, st) => (match mf cs with
    | .ok d cs => R.ok d (putAll as cs st)
    | .exc c x cs => .exc c x (putAll as cs st)
    | .bad => .bad)
  | none => .bad) = _
  cases takeAll as st with
  | none => rfl
  | some p =>
    obtain ⟨cs, st⟩ := p
    show (match mf cs with
    | .ok d cs => R.ok d (putAll as cs st)
    | .exc c x cs => .exc c x (putAll as cs st)
    | .bad => .bad) = kOut as st (mf cs)
    cases mf cs <;> rfl
@[simp] theorem takeAll_nil {st : Sl} : takeAll [] st = some ([], st) := rfl
@[simp] theorem takeAll_d {d : D} {as : List AV} {st : Sl} : takeAll (.d d :: as) st = (takeAll as st).map fun p => (.f d :: p.1, p.2) := rfl
@[simp] theorem takeAll_o {d : D} {as : List AV} {st : Sl} : takeAll (.o d :: as) st = (takeAll as st).map fun p => (.o d :: p.1, p.2) := rfl
def kSl (i : Nat) (as : List AV) (st : Sl) : Option Cell → Option (List Cell × Sl)
  | some .n => none
  | none => none
  | some c => (match setL i .n st with
    | some st => (takeAll as st).map fun p => (c :: p.1, p.2)
    | none => none)
@[simp] theorem takeAll_slK {i : Nat} {as : List AV} {st : Sl} : takeAll (.sl i :: as) st = kSl i as st st[i]? := by
  show (match st[i]? with
    | some .n => none
    | none => none
    | some c => (takeAll as (st.set i .n)).map fun (p : List Cell × Sl) => (c :: p.1, p.2)) = kSl i as st st[i]?
  unfold kSl
  simp only [setL_eq]
  cases z : st[i]? with
  | none => rfl
  | some c => cases c <;> rfl
def kSl2 (c : Cell) (as : List AV) : Option Sl → Option (List Cell × Sl)
  | some st => (takeAll as st).map fun p => (c :: p.1, p.2)
  | none => none
@[simp] theorem kSl2_some {c : Cell} {as : List AV} {st : Sl} : kSl2 c as (some st) = (takeAll as st).map fun p => (c :: p.1, p.2) := rfl
@[simp] theorem kSl_f {i : Nat} {as : List AV} {st : Sl} {d : D} : kSl i as st (some (.f d)) = kSl2 (.f d) as (setL i .n st) := by
  show (match setL i .n st with
    | some st => (takeAll as st).map fun (p : List Cell × Sl) => (Cell.f d :: p.1, p.2)
    | none => none) = kSl2 (.f d) as (setL i .n st)
  cases setL i .n st <;> rfl
@[simp] theorem kSl_o {i : Nat} {as : List AV} {st : Sl} {d : D} : kSl i as st (some (.o d)) = kSl2 (.o d) as (setL i .n st) := by
  show (match setL i .n st with
    | some st => (takeAll as st).map fun (p : List Cell × Sl) => (Cell.o d :: p.1, p.2)
    | none => none) = kSl2 (.o d) as (setL i .n st)
  cases setL i .n st <;> rfl
@[simp] theorem putAll_nil {cs : List Cell} {st : Sl} : putAll [] cs st = st := by cases cs <;> rfl
@[simp] theorem putAll_d {d : D} {as : List AV} {c : Cell} {cs : List Cell} {st : Sl} : putAll (.d d :: as) (c :: cs) st = putAll as cs st := rfl
@[simp] theorem putAll_o {d : D} {as : List AV} {c : Cell} {cs : List Cell} {st : Sl} : putAll (.o d :: as) (c :: cs) st = putAll as cs st := rfl
@[simp] theorem putAll_0 {as : List AV} {st : Sl} : putAll as [] st = st := by cases as with | nil => rfl | cons a as => cases a <;> rfl
@[simp] theorem putAll_sl {i : Nat} {as : List AV} {c : Cell} {cs : List Cell} {st : Sl} : putAll (.sl i :: as) (c :: cs) st = putAll as cs (st.set i c) := rfl
@[simp] theorem eCall_k {mf : MF} {ps : List Arg} {st : Sl} : eCall mf ps st = (evArgs ps st).bind (callTail mf) := rfl
def kCl (b : Bool) (r : R D) : R D := match b with
  | true => r
  | false => .bad
@[simp] theorem kCl_t {r : R D} : kCl true r = r := rfl
def kMt2 (mf : MF) (a : AV) (as : List AV) (st : Sl) : R D := callTail mf (a :: as) st
@[simp] theorem kMt2_eq {mf : MF} {a : AV} {as : List AV} {st : Sl} : kMt2 mf a as st = callTail mf (a :: as) st := rfl
def kMt (c : Str) (mf : MF) (ps : List Arg) (a : AV) (st : Sl) : R D := kCl (clsAV c a st) ((evArgs ps st).bind (kMt2 mf a))
@[simp] theorem kMt_eq {c : Str} {mf : MF} {ps : List Arg} {a : AV} {st : Sl} : kMt c mf ps a st = kCl (clsAV c a st) ((evArgs ps st).bind (kMt2 mf a)) := rfl
@[simp] theorem eMeth_eq {c : Str} {mf : MF} {p : Arg} {ps : List Arg} {st : Sl} : eMeth c mf p ps st = (evArg p st).bind (kMt c mf ps) := by
  unfold eMeth
  cases evArg p st with
  | ok a st1 => simp only [R.bind]; show _ = kCl (clsAV c a st1) _; cases clsAV c a st1 <;> rfl
  | exc c x s => rfl
  | bad => rfl
@[simp] theorem clsAV_d {c c' : Str} {ns : List Str} {ds : List D} {st : Sl} : clsAV c (.d (.obj c' ns ds)) st = (c' == c) := rfl
@[simp] theorem clsAV_o {c c' : Str} {ns : List Str} {ds : List D} {st : Sl} : clsAV c (.o (.obj c' ns ds)) st = (c' == c) := rfl
def kClO (c : Str) : Option D → Bool
  | some (.obj c' _ _) => c' == c
  | _ => false
@[simp] theorem clsAV_sl {c : Str} {i : Nat} {st : Sl} : clsAV c (.sl i) st = kClO c (rd i st) := by
  show (match rd i st with | some (D.obj c' _ _) => c' == c | _ => false) = _
  unfold kClO; cases rd i st with | none => rfl | some d => cases d <;> rfl
@[simp] theorem kClO_eq {c c' : Str} {ns : List Str} {ds : List D} : kClO c (some (.obj c' ns ds)) = (c' == c) := rfl
@[simp] theorem eProp_eq {c : Str} {mf : MF} {p : Arg} {st : Sl} : eProp c mf p st = eMeth c (noX mf) p [] st := rfl
def kNoX : Out → Out
  | .exc _ _ _ => .bad
  | o => o
@[simp] theorem noX_eq {mf : MF} {cs : List Cell} : noX mf cs = kNoX (mf cs) := rfl
@[simp] theorem kNoX_ok {d : D} {cs : List Cell} : kNoX (.ok d cs) = .ok d cs := rfl
def kMk (as : List AV) (st : Sl) : Out → R D
  | .ok .non (.o d :: cs) => .ok d (putAll as cs st)
  | .exc c x (_ :: cs) => .exc c x (putAll as cs st)
  | _ => .bad
@[simp] theorem kMk_ok {as : List AV} {st : Sl} {d : D} {cs : List Cell} : kMk as st (.ok .non (.o d :: cs)) = .ok d (putAll as cs st) := rfl
def kMkT (c : Str) (mf : MF) (as : List AV) : Option (List Cell × Sl) → R D
  | some (cs, st) => kMk as st (mf (.o (.obj c [] []) :: cs))
  | none => .bad
@[simp] theorem kMkT_some {c : Str} {mf : MF} {as : List AV} {cs : List Cell} {st : Sl} : kMkT c mf as (some (cs, st)) = kMk as st (mf (.o (.obj c [] []) :: cs)) := rfl
def kMake (c : Str) (mf : MF) (as : List AV) (st : Sl) : R D := kMkT c mf as (takeAll as st)
@[simp] theorem kMake_eq {c : Str} {mf : MF} {as : List AV} {st : Sl} : kMake c mf as st = kMkT c mf as (takeAll as st) := rfl
@[simp] theorem eMake_eq {c : Str} {mf : MF} {ps : List Arg} {st : Sl} : eMake c mf ps st = (evArgs ps st).bind (kMake c mf) := by
  unfold eMake
  cases evArgs ps st with
  | exc c x s => rfl
  | bad => rfl
  | ok as st1 =>
    simp only [R.bind]
    show _ = kMkT c mf as (takeAll as st1)
    cases takeAll as st1 with
    | none => rfl
    | some p =>
      obtain ⟨cs, st2⟩ := p
      show _ = kMk as st2 (mf (.o (.obj c [] []) :: cs))
      unfold kMk
      rfl
def gFld (f : Str) : List D → Option D
  | [.obj _ ns ds] => (match owf f with
    | false => lookF ns ds f
    | true => none)
  | _ => none
@[simp] theorem eFld_eq {f : Str} {p : Opd} {st : Sl} : eFld f p st = eOp (gFld f) [p] st := by
  have e : (fun ds : List D => match ds with
    | [.obj _ ns ds] => (match owf f with
      | false => lookF ns ds f
      | true => none)
    | _ => none) = gFld f := by
    funext ds
    match ds with
    | [.obj _ ns ds] => rfl
    | [] => rfl
    | [.non] => rfl
    | [.bl _] => rfl
    | [.int _] => rfl
    | [.str _] => rfl
    | [.tup _] => rfl
    | [.lst _] => rfl
    | [.scr _] => rfl
    | [.dic _ _] => rfl
    | _ :: _ :: _ => rfl
  exact congrArg (fun g => eOp g [p] st) e
def kAsg (g : Tg) (d : D) (st : Sl) : R Fl := kSt (g d st)
@[simp] theorem sAsg_eq {m : E} {g : Tg} {st : Sl} : sAsg m g st = (m st).bind (kAsg g) := by
  unfold sAsg
  cases m st with
  | ok d st1 => simp only [R.bind]; show _ = kSt (g d st1); cases g d st1 <;> rfl
  | exc c x s => rfl
  | bad => rfl
@[simp] theorem kAsg_eq {g : Tg} {d : D} {st : Sl} : kAsg g d st = kSt (g d st) := rfl
@[simp] theorem tgN_eq {i : Nat} {d : D} {st : Sl} : tgN i d st = setL i (.f d) st := by
  unfold tgN
  rw [setL_eq]
  cases st[i]? <;> rfl
@[simp] theorem tgT_tup {gs : List Tg} {ds : List D} {st : Sl} : tgT gs (.tup ds) st = tgs gs ds st := rfl
@[simp] theorem tgT_lst {gs : List Tg} {ds : List D} {st : Sl} : tgT gs (.lst ds) st = tgs gs ds st := rfl
@[simp] theorem tgs_nil {st : Sl} : tgs [] [] st = some st := rfl
@[simp] theorem tgs_cons {g : Tg} {gs : List Tg} {d : D} {ds : List D} {st : Sl} : tgs (g :: gs) (d :: ds) st = (g d st).bind (tgs gs ds) := rfl
@[simp] theorem tgF_eq {i : Nat} {f : Str} {d : D} {st : Sl} : tgF i f d st = setFld i f d st := rfl
end Ev
namespace Ev
open PySem PySem.Spec PyProof.Rows L2
@[simp] theorem R.bind_ok {α β : Type} {a : α} {st : Sl} {k : α → Sl → R β} : (R.ok a st).bind k = k a st := rfl
def kIE (d : D) (st : Sl) : R (List D) := match d with
  | .lst ds => .ok ds st
  | .tup ds => .ok ds st
  | .scr ns => .ok (ns.map .int) st
  | .str x => .ok (x.cps.toList.map fun c => .str ⟨#[c]⟩) st
  | _ => .bad
@[simp] theorem itE_eq {m : E} {st : Sl} : itE m st = (m st).bind kIE := rfl
@[simp] theorem kIE_lst {ds : List D} {st : Sl} : kIE (.lst ds) st = .ok ds st := rfl
@[simp] theorem kIE_tup {ds : List D} {st : Sl} : kIE (.tup ds) st = .ok ds st := rfl
@[simp] theorem kIE_scr {ds : List Int} {st : Sl} : kIE (.scr ds) st = .ok (ds.map .int) st := rfl
def kI1 (d : D) (st : Sl) : R (List D) := match d with
  | .int j => (match inR j with
    | true => .ok (rangeD 0 j.toNat) st
    | false => .bad)
  | _ => .bad
@[simp] theorem itR1_eq {m : E} {st : Sl} : itR1 m st = (m st).bind kI1 := rfl
theorem kI1_int {j : Int} {st : Sl} (h : inR j = true) : kI1 (.int j) st = .ok (rangeD 0 j.toNat) st := by unfold kI1; simp only [h]
theorem inR_of {j : Int} (h : -(2 ^ 62) ≤ j) (h2 : j < 2 ^ 62) : inR j = true := by unfold inR; rw [decide_eq_true h, decide_eq_true h2]; rfl
theorem kI1_nat {n : Nat} {st : Sl} (h : n < 2 ^ 62) : kI1 (.int n) st = .ok (rangeD 0 n) st := kI1_int (inR_of (by omega) (by omega))
@[simp] theorem kIE_str {x : Str} {st : Sl} : kIE (.str x) st = .ok (x.cps.toList.map fun c => .str ⟨#[c]⟩) st := rfl
def tgR : Option Sl → R Unit
  | some st => .ok () st
  | none => .bad
@[simp] theorem tgR_some {st : Sl} : tgR (some st) = .ok () st := rfl
def kLw (vs : List Nat) (x : D) (st : Sl) : R (Option D) := .ok (some x) (wipeS vs st)
def kLe (vs : List Nat) (el : E) (b : Bool) (st : Sl) : R (Option D) := match b with
  | true => (el st).bind (kLw vs)
  | false => .ok none (wipeS vs st)
def kLc (vs : List Nat) (c : B') (el : E) (_ : Unit) (st : Sl) : R (Option D) := (c st).bind (kLe vs el)
def lc1 (vs : List Nat) (g : Tg) (c : B') (el : E) (d : D) (st : Sl) : R (Option D) := (tgR (g d st)).bind (kLc vs c el)
@[simp] theorem lc1_eq {vs : List Nat} {g : Tg} {c : B'} {el : E} {d : D} {st : Sl} : lc1 vs g c el d st = (tgR (g d st)).bind (kLc vs c el) := rfl
@[simp] theorem kLc_eq {vs : List Nat} {c : B'} {el : E} {u : Unit} {st : Sl} : kLc vs c el u st = (c st).bind (kLe vs el) := rfl
@[simp] theorem kLe_t {vs : List Nat} {el : E} {st : Sl} : kLe vs el true st = (el st).bind (kLw vs) := rfl
@[simp] theorem kLe_f {vs : List Nat} {el : E} {st : Sl} : kLe vs el false st = .ok none (wipeS vs st) := rfl
@[simp] theorem kLw_eq {vs : List Nat} {x : D} {st : Sl} : kLw vs x st = .ok (some x) (wipeS vs st) := rfl
@[simp] theorem mYes_eq {st : Sl} : mYes st = .ok true st := rfl
@[simp] theorem wipe_nil {st : Sl} : wipeS [] st = st := rfl
@[simp] theorem wipe_cons {v : Nat} {vs : List Nat} {st : Sl} : wipeS (v :: vs) st = (wipeS vs st).set v .n := rfl
theorem lcL_some {vs : List Nat} {g : Tg} {c : B'} {el : E} {d x : D} {ds : List D} {st st' : Sl} (h : lc1 vs g c el d st = .ok (some x) st') :
    lcL vs g c el (d :: ds) st = (lcL vs g c el ds st').bind fun xs st => .ok (x :: xs) st := by
  unfold lc1 at h
  rw [lcL]
  cases z : g d st with
  | none => simp [z, tgR, R.bind] at h
  | some st1 =>
    simp only [z, tgR, R.bind, kLc] at h ⊢
    cases z2 : c st1 with
    | bad => simp [z2, R.bind] at h
    | exc a b s => simp [z2, R.bind] at h
    | ok b st2 =>
      simp only [z2, R.bind, kLe] at h ⊢
      cases b with
      | false => simp at h
      | true =>
        simp only at h ⊢
        cases z3 : el st2 with
        | bad => simp [z3, R.bind] at h
        | exc a b s => simp [z3, R.bind] at h
        | ok y st3 =>
          simp only [z3, R.bind, kLw] at h ⊢
          injection h with h1 h2
          cases h1
          rw [h2]
theorem lcL_none {vs : List Nat} {g : Tg} {c : B'} {el : E} {d : D} {ds : List D} {st st' : Sl} (h : lc1 vs g c el d st = .ok none st') :
    lcL vs g c el (d :: ds) st = lcL vs g c el ds st' := by
  unfold lc1 at h
  rw [lcL]
  cases z : g d st with
  | none => simp [z, tgR, R.bind] at h
  | some st1 =>
    simp only [z, tgR, R.bind, kLc] at h ⊢
    cases z2 : c st1 with
    | bad => simp [z2, R.bind] at h
    | exc a b s => simp [z2, R.bind] at h
    | ok b st2 =>
      simp only [z2, R.bind, kLe] at h ⊢
      cases b with
      | false => simp only [R.ok.injEq] at h ⊢; rw [h.2]
      | true =>
        simp only at h
        cases z3 : el st2 with
        | bad => simp [z3, R.bind] at h
        | exc a b s => simp [z3, R.bind] at h
        | ok y st3 => simp [z3, R.bind, kLw] at h
/-- each element gives f of it, or nothing -/
theorem lcL_fm {vs : List Nat} {g : Tg} {c : B'} {el : E} {st : Sl} (f : D → Option D) : ∀ {ds : List D}, (∀ d ∈ ds, lc1 vs g c el d st = .ok (f d) st) → lcL vs g c el ds st = .ok (ds.filterMap f) st
  | [], _ => rfl
  | d :: ds, h => by
    have h1 := h d List.mem_cons_self
    have ih := lcL_fm f fun e m => h e (List.mem_cons_of_mem _ m)
    cases z : f d with
    | none => rw [z] at h1; rw [lcL_none h1, ih, List.filterMap_cons, z]
    | some x => rw [z] at h1; rw [lcL_some h1, ih, List.filterMap_cons, z]; rfl
theorem lcL_map {vs : List Nat} {g : Tg} {c : B'} {el : E} {st : Sl} (f : D → D) {ds : List D} (h : ∀ d ∈ ds, lc1 vs g c el d st = .ok (some (f d)) st) : lcL vs g c el ds st = .ok (ds.map f) st := by
  rw [lcL_fm (fun d => some (f d)) h, List.filterMap_eq_map']
/-- the elements may change the slots: one run through -/
inductive LcR (vs : List Nat) (g : Tg) (c : B') (el : E) : List D → Sl → List D → Sl → Prop
  | nil {st : Sl} : LcR vs g c el [] st [] st
  | cons {d x : D} {ds xs : List D} {st st1 st2 : Sl} : lc1 vs g c el d st = .ok (some x) st1 → LcR vs g c el ds st1 xs st2 → LcR vs g c el (d :: ds) st (x :: xs) st2
theorem LcR.run {vs : List Nat} {g : Tg} {c : B'} {el : E} {ds xs : List D} {st st' : Sl} (h : LcR vs g c el ds st xs st') : lcL vs g c el ds st = .ok xs st' := by
  induction h with
  | nil => rfl
  | cons h _ ih => rw [lcL_some h, ih]; rfl
def kLcB (vs : List Nat) (st0 : Sl) (xs : List D) (st : Sl) : R D := if xs.length < sizeLine then .ok (.lst xs) (backS st0 vs st) else .bad
theorem kLcB_eq {vs : List Nat} {st0 st : Sl} {xs : List D} (h : xs.length < sizeLine) : kLcB vs st0 xs st = .ok (.lst xs) (backS st0 vs st) := if_pos h
def kLcF (vs : List Nat) (g : Tg) (c : B') (el : E) (items : List D) (st : Sl) : Bool → R D
  | true => (lcL vs g c el items (wipeS vs st)).bind (kLcB vs st)
  | false => .bad
@[simp] theorem kLcF_t {vs : List Nat} {g : Tg} {c : B'} {el : E} {items : List D} {st : Sl} : kLcF vs g c el items st true = (lcL vs g c el items (wipeS vs st)).bind (kLcB vs st) := rfl
def kLcI (vs : List Nat) (g : Tg) (c : B') (el : E) (items : List D) (st : Sl) : R D := kLcF vs g c el items st (frozenAt st vs && decide (st.length ≤ 64))
@[simp] theorem kLcI_eq {vs : List Nat} {g : Tg} {c : B'} {el : E} {items : List D} {st : Sl} : kLcI vs g c el items st = kLcF vs g c el items st (frozenAt st vs && decide (st.length ≤ 64)) := rfl
@[simp] theorem eLc_eq {vs : List Nat} {it : IE} {g : Tg} {c : B'} {el : E} {st : Sl} : eLc vs it g c el st = (it st).bind (kLcI vs g c el) := by
  unfold eLc
  cases it st with
  | bad => rfl
  | exc a b s => rfl
  | ok items st1 =>
    show (match frozenAt st1 vs && decide (st1.length ≤ 64) with
      | true => (lcL vs g c el items (wipeS vs st1)).bind fun xs st' => if xs.length < sizeLine then R.ok (.lst xs) (backS st1 vs st') else .bad
      | false => .bad) = kLcF vs g c el items st1 (frozenAt st1 vs && decide (st1.length ≤ 64))
    cases frozenAt st1 vs && decide (st1.length ≤ 64) <;> rfl
@[simp] theorem frozen_nil {st : Sl} : frozenAt st [] = true := rfl
def frC : Option Cell → Bool
  | some (.o _) => false
  | none => false
  | _ => true
@[simp] theorem frC_n : frC (some .n) = true := rfl
@[simp] theorem frC_f {d : D} : frC (some (.f d)) = true := rfl
@[simp] theorem frozen_cons {v : Nat} {vs : List Nat} {st : Sl} : frozenAt st (v :: vs) = (frC st[v]? && frozenAt st vs) := by
  unfold frozenAt frC
  rw [List.all_cons]
  all_goals (cases st[v]? with | none => rfl | some c => cases c <;> rfl)
@[simp] theorem back_nil {st0 st : Sl} : backS st0 [] st = st := rfl
def bkC (v : Nat) (st : Sl) : Option Cell → Sl
  | some c => st.set v c
  | none => st
@[simp] theorem bkC_some {v : Nat} {st : Sl} {c : Cell} : bkC v st (some c) = st.set v c := rfl
@[simp] theorem back_cons {v : Nat} {vs : List Nat} {st0 st : Sl} : backS st0 (v :: vs) st = bkC v (backS st0 vs st) st0[v]? := by
  unfold bkC
  rw [backS]
  all_goals (cases st0[v]? <;> rfl)
def kFo (_ : Unit) (b : S) (st : Sl) : R Fl := b st
def kFo1 (b : S) (_ : Unit) (st : Sl) : R Fl := b st
@[simp] theorem kFo1_eq {b : S} {u : Unit} {st : Sl} : kFo1 b u st = b st := rfl
def fo1 (g : Tg) (b : S) (d : D) (st : Sl) : R Fl := (tgR (g d st)).bind (kFo1 b)
@[simp] theorem fo1_eq {g : Tg} {b : S} {d : D} {st : Sl} : fo1 g b d st = (tgR (g d st)).bind (kFo1 b) := rfl
theorem forL_nx {g : Tg} {b : S} {d : D} {ds : List D} {st st' : Sl} (h : fo1 g b d st = .ok .nx st') : forL g b (d :: ds) st = forL g b ds st' := by
  unfold fo1 at h
  rw [forL]
  cases z : g d st with
  | none => simp [z, tgR, R.bind] at h
  | some st1 =>
    simp only [z, tgR, R.bind, kFo1] at h ⊢
    simp only [h]
theorem forL_rt {g : Tg} {b : S} {d x : D} {ds : List D} {st st' : Sl} (h : fo1 g b d st = .ok (.rt x) st') : forL g b (d :: ds) st = .ok (.rt x) st' := by
  unfold fo1 at h
  rw [forL]
  cases z : g d st with
  | none => simp [z, tgR, R.bind] at h
  | some st1 =>
    simp only [z, tgR, R.bind, kFo1] at h ⊢
    simp only [h]
/-- a loop that runs through: what holds of the slots before each go -/
theorem forL_ind {α : Type} {g : Tg} {b : S} (I : α → Sl → Prop) (step : α → D → α) : ∀ {ds : List D} {a : α} {st : Sl}, (∀ a d st, d ∈ ds → I a st → ∃ st', fo1 g b d st = .ok .nx st' ∧ I (step a d) st') → I a st → ∃ st', forL g b ds st = .ok .nx st' ∧ I (ds.foldl step a) st'
  | [], a, st, _, i => ⟨st, rfl, i⟩
  | d :: ds, a, st, h, i => by
    obtain ⟨st1, e, i1⟩ := h a d st List.mem_cons_self i
    obtain ⟨st2, e2, i2⟩ := forL_ind I step (fun a d st m => h a d st (List.mem_cons_of_mem _ m)) i1
    exact ⟨st2, (forL_nx e).trans e2, i2⟩
@[simp] theorem sFor_eq {it : IE} {g : Tg} {b : S} {st : Sl} : sFor it g b st = (it st).bind (forL g b) := rfl
@[simp] theorem forL_nil {g : Tg} {b : S} {st : Sl} : forL g b [] st = .ok .nx st := rfl
def kRunF (P : List Nat) (np : Nat) : R Fl → Out
  | .ok (.rt d) st => .ok d (keepF P 0 (st.take np))
  | .ok .nx st => .ok .non (keepF P 0 (st.take np))
  | .exc c x st => .exc c x (keepF P 0 (st.take np))
  | _ => .bad
@[simp] theorem kRunF_rt {P : List Nat} {np : Nat} {d : D} {st : Sl} : kRunF P np (.ok (.rt d) st) = .ok d (keepF P 0 (st.take np)) := rfl
@[simp] theorem kRunF_nx {P : List Nat} {np : Nat} {st : Sl} : kRunF P np (.ok .nx st) = .ok .non (keepF P 0 (st.take np)) := rfl
theorem runF_eq {N np : Nat} {P : List Nat} {b : S} {cs : List Cell} (h : cs.length = np) : runF N np P b cs = kRunF P np (b (cs ++ List.replicate (N - np) .n)) := by
  unfold runF kRunF
  have e : decide (cs.length = np) = true := decide_eq_true h
  simp only [e]
  all_goals (rcases b (cs ++ List.replicate (N - np) .n) with ⟨f, st⟩ | ⟨c, x, st⟩ | _ <;> first | rfl | (cases f <;> rfl))
@[simp] theorem keepF_nil {P : List Nat} {i : Nat} : keepF P i [] = [] := rfl
def kpC (b : Bool) (c : Cell) : Cell := match b with
  | true => c
  | false => .n
@[simp] theorem kpC_t {c : Cell} : kpC true c = c := rfl
@[simp] theorem kpC_f {c : Cell} : kpC false c = .n := rfl
@[simp] theorem keepF_cons {P : List Nat} {i : Nat} {c : Cell} {cs : List Cell} : keepF P i (c :: cs) = kpC (P.contains i) c :: keepF P (i + 1) cs := rfl
def kSf (i : Nat) (f : Str) (d : D) (st : Sl) : Option Cell → Option Sl
  | some (.o (.obj c ns ds)) => (match decide (ns.length < 1000), owf f with
    | true, false => setL i (.o (.obj c (putN f ns) (putD f d ns ds))) st
    | _, _ => none)
  | _ => none
theorem setFld_eq {i : Nat} {f : Str} {d : D} {st : Sl} : setFld i f d st = kSf i f d st st[i]? := by
  unfold setFld kSf
  cases z : st[i]? with
  | none => rfl
  | some c =>
    cases c with
    | n => rfl
    | f d => rfl
    | o d =>
      cases d with
      | obj c ns ds => simp only [setL_eq, z, Option.map_some] <;> cases decide (ns.length < 1000) <;> cases owf f <;> rfl
      | _ => rfl
end Ev
namespace Ev
open PySem PySem.Spec PyProof.Rows L2
@[simp] theorem gSub_int {i j : Int} : gSub [.int i, .int j] = some (.int (i - j)) := rfl
@[simp] theorem gLt_int {i j : Int} : gLt [.int i, .int j] = some (.bl (decide (i < j))) := rfl
@[simp] theorem gLe_int {i j : Int} : gLe [.int i, .int j] = some (.bl (decide (i ≤ j))) := rfl
@[simp] theorem gGt_int {i j : Int} : gGt [.int i, .int j] = some (.bl (decide (j < i))) := rfl
@[simp] theorem gGe_int {i j : Int} : gGe [.int i, .int j] = some (.bl (decide (j ≤ i))) := rfl
@[simp] theorem gMax_int {i j : Int} : gMax [.int i, .int j] = some (.int (if j > i then j else i)) := rfl
@[simp] theorem gMin_int {i j : Int} : gMin [.int i, .int j] = some (.int (if j < i then j else i)) := rfl
@[simp] theorem gAdd_int {i j : Int} : gAdd [.int i, .int j] = some (.int (i + j)) := rfl
theorem gAdd_lst {x y : List D} (h : x.length + y.length ≤ sizeLine) : gAdd [.lst x, .lst y] = some (.lst (x ++ y)) := if_pos h
theorem gAdd_tup {x y : List D} (h : x.length + y.length ≤ sizeLine) : gAdd [.tup x, .tup y] = some (.tup (x ++ y)) := if_pos h
theorem gAdd_str {x y : Str} (h : x.length + y.length ≤ sizeLine) : gAdd [.str x, .str y] = some (.str (x ++ y)) := if_pos h
theorem cDiv_of {i j : Int} (h : 0 < j) (h2 : j.natAbs.log2 < 9000) : cDiv i j = true := by unfold cDiv; rw [decide_eq_true h, decide_eq_true h2]; rfl
theorem gFdiv_int {i j : Int} (h : 0 < j) (h2 : j.natAbs.log2 < 9000) : gFdiv [.int i, .int j] = some (.int (i / j)) := if_pos (cDiv_of h h2)
theorem log_le {j : Int} (h : 0 < j) (h2 : j < 2 ^ 60) : j.natAbs.log2 < 9000 := by
  have : j.natAbs.log2 < 60 := (Nat.log2_lt (by omega)).mpr (by omega)
  omega
theorem gFdiv_small {i j : Int} (h : 0 < j) (h2 : j < 2 ^ 60) : gFdiv [.int i, .int j] = some (.int (i / j)) := gFdiv_int h (log_le h h2)
theorem gMod_int {i j : Int} (h : 0 < j) : gMod [.int i, .int j] = some (.int (i % j)) := if_pos (decide_eq_true h)
theorem cMul_of {i j : Int} (h : (-(2 ^ 64) < i ∧ i < 2 ^ 64) ∨ (-(2 ^ 64) < j ∧ j < 2 ^ 64)) : cMul i j = true := by unfold cMul; rw [decide_eq_true h]; rfl
theorem gMul_int {i j : Int} (h : (-(2 ^ 64) < i ∧ i < 2 ^ 64) ∨ (-(2 ^ 64) < j ∧ j < 2 ^ 64)) : gMul [.int i, .int j] = some (.int (i * j)) := if_pos (cMul_of h)
@[simp] theorem gLen_lst {ds : List D} : gLen [.lst ds] = some (.int ds.length) := rfl
@[simp] theorem gLen_tup {ds : List D} : gLen [.tup ds] = some (.int ds.length) := rfl
@[simp] theorem gLen_scr {ds : List Int} : gLen [.scr ds] = some (.int ds.length) := rfl
@[simp] theorem gListF_lst {ds : List D} : gListF [.lst ds] = some (.lst ds) := rfl
@[simp] theorem gListF_tup {ds : List D} : gListF [.tup ds] = some (.lst ds) := rfl
@[simp] theorem gTuple_lst {ds : List D} : gTuple [.lst ds] = some (.tup ds) := rfl
@[simp] theorem gTuple_tup {ds : List D} : gTuple [.tup ds] = some (.tup ds) := rfl
@[simp] theorem gRev_lst {ds : List D} : gRev [.lst ds] = some (.lst ds.reverse) := rfl
@[simp] theorem gAbs_int {i : Int} : gAbs [.int i] = some (.int (if i < 0 then -i else i)) := rfl
@[simp] theorem gInt1_int {i : Int} : gInt1 [.int i] = some (.int i) := rfl
@[simp] theorem gInt1_bl {b : Bool} : gInt1 [.bl b] = some (.int (if b then 1 else 0)) := rfl
@[simp] theorem gNeg_int {i : Int} : gNeg [.int i] = some (.int (-i)) := rfl
theorem intsD_map : ∀ {ns : List Int}, intsD (ns.map .int) = some ns
  | [] => rfl
  | n :: ns => by rw [List.map_cons, intsD, intsD_map]; rfl
@[simp] theorem gSum_tup {ns : List Int} : gSum [.tup (ns.map .int)] = some (.int ns.sum) := by
  show (intsD (ns.map .int)).map _ = _
  rw [intsD_map]; rfl
@[simp] theorem gSum_lst {ns : List Int} : gSum [.lst (ns.map .int)] = some (.int ns.sum) := by
  show (intsD (ns.map .int)).map _ = _
  rw [intsD_map]; rfl
theorem boolsD_map {α : Type} {f : α → Bool} : ∀ {ns : List α}, boolsD (ns.map fun a => .bl (f a)) = some (ns.map f)
  | [] => rfl
  | n :: ns => by rw [List.map_cons, boolsD, boolsD_map]; rfl
theorem gAll_map {α : Type} {f : α → Bool} {ns : List α} : gAll [.lst (ns.map fun a => .bl (f a))] = some (.bl (ns.all f)) := by
  show (boolsD (ns.map fun a => .bl (f a))).map _ = _
  rw [boolsD_map]
  simp [List.all_map, Function.comp_def]
theorem gAll_true {α : Type} {ns : List α} : gAll [.lst (ns.map fun _ => .bl true)] = some (.bl true) := by
  rw [gAll_map (f := fun _ => true)]; simp
@[simp] theorem gIsi_int {i : Int} {T : String} : gIsi T [.int i] = some (.bl (isTy T "int")) := rfl
@[simp] theorem gIsi_str {x : Str} {T : String} : gIsi T [.str x] = some (.bl (isTy T "str")) := rfl
@[simp] theorem gIsi_lst {x : List D} {T : String} : gIsi T [.lst x] = some (.bl (isTy T "list")) := rfl
@[simp] theorem gIsi_tup {x : List D} {T : String} : gIsi T [.tup x] = some (.bl (isTy T "tuple")) := rfl
@[simp] theorem ty1 : isTy "int" "int" = true := by decide
@[simp] theorem ty2 : isTy "bool" "int" = false := by decide
@[simp] theorem ty3 : isTy "list" "list" = true := by decide
@[simp] theorem ty4 : isTy "tuple" "tuple" = true := by decide
@[simp] theorem ty5 : isTy "str" "str" = true := by decide
@[simp] theorem ty6 : isTy "tuple" "list" = false := by decide
@[simp] theorem gIs_non {b : Bool} : gIs b [.non, .non] = some (.bl (b != true)) := rfl
@[simp] theorem gIs_int {b : Bool} {i : Int} : gIs b [.int i, .non] = some (.bl (b != false)) := rfl
@[simp] theorem gIs_tup {b : Bool} {i : List D} : gIs b [.tup i, .non] = some (.bl (b != false)) := rfl
@[simp] theorem gIs_str {b : Bool} {i : Str} : gIs b [.str i, .non] = some (.bl (b != false)) := rfl
@[simp] theorem gIx_tup {ds : List D} {i : Int} : gIx [.tup ds, .int i] = L2.atI ds i := rfl
@[simp] theorem gIx_lst {ds : List D} {i : Int} : gIx [.lst ds, .int i] = L2.atI ds i := rfl
@[simp] theorem gIx_scr {ds : List Int} {i : Int} : gIx [.scr ds, .int i] = (L2.atI ds i).map .int := rfl
@[simp] theorem gEq_int {i j : Int} : gEq [.int i, .int j] = some (.bl (i == j)) := by
  show (if SeqAt.shaped (.int i) && SeqAt.shaped (.int j) then some (D.bl (PyData.eqv (.int i) (.int j))) else none) = _
  simp [SeqAt.shaped, PyData.canLay0, PyData.depth, PyData.eqv]
@[simp] theorem gNe_int {i j : Int} : gNe [.int i, .int j] = some (.bl (!(i == j))) := by
  show (if SeqAt.shaped (.int i) && SeqAt.shaped (.int j) then some (D.bl (!PyData.eqv (.int i) (.int j))) else none) = _
  simp [SeqAt.shaped, PyData.canLay0, PyData.depth, PyData.eqv]
theorem gEq_str {i j : Str} (h : PyData.strOk i = true) (h2 : PyData.strOk j = true) : gEq [.str i, .str j] = some (.bl (i == j)) := by
  show (if SeqAt.shaped (.str i) && SeqAt.shaped (.str j) then some (D.bl (PyData.eqv (.str i) (.str j))) else none) = _
  simp [SeqAt.shaped, PyData.canLay0, PyData.depth, PyData.eqv, h, h2]
theorem gEq_nons {j : Str} (h2 : PyData.strOk j = true) : gEq [.non, .str j] = some (.bl false) := by
  show (if SeqAt.shaped .none && SeqAt.shaped (.str j) then some (D.bl (PyData.eqv .none (.str j))) else none) = _
  simp [SeqAt.shaped, PyData.canLay0, PyData.depth, PyData.eqv, h2]
theorem toPs_ints : ∀ {ns : List Int}, toPs (ns.map .int) = some (ns.map .int)
  | [] => rfl
  | n :: ns => by rw [List.map_cons, toPs, toPs_ints]; rfl
theorem lay_ints : ∀ {ns : List Int}, PyData.canLayAll0 (ns.map .int) = true
  | [] => rfl
  | n :: ns => by rw [List.map_cons, PyData.canLayAll0, lay_ints]; rfl
theorem depth_ints : ∀ {ns : List Int}, PyData.depthAll (ns.map .int) = 0
  | [] => rfl
  | n :: ns => by rw [List.map_cons, PyData.depthAll, depth_ints]; rfl
theorem eqv_ints : ∀ {ns ms : List Int}, PyData.eqvAll (ns.map .int) (ms.map .int) = (ns == ms)
  | [], [] => rfl
  | [], m :: ms => rfl
  | n :: ns, [] => rfl
  | n :: ns, m :: ms => by rw [List.map_cons, List.map_cons, PyData.eqvAll, eqv_ints]; rfl
theorem gNe_ints {ns ms : List Int} : gNe [.lst (ns.map .int), .lst (ms.map .int)] = some (.bl (!(ns == ms))) := by
  unfold gNe
  simp only [toP, toPs_ints, Option.map_some]
  simp [SeqAt.shaped, PyData.canLay0, PyData.depth, PyData.eqv, lay_ints, depth_ints, eqv_ints]
theorem gEq_ints {ns ms : List Int} : gEq [.lst (ns.map .int), .lst (ms.map .int)] = some (.bl (ns == ms)) := by
  unfold gEq
  simp only [toP, toPs_ints, Option.map_some]
  simp [SeqAt.shaped, PyData.canLay0, PyData.depth, PyData.eqv, lay_ints, depth_ints, eqv_ints]
end Ev
namespace K83
open PySem PySem.Spec PyProof.Rows L2 Ev
@[simp] theorem sf_sh0 {c : Str} {d : D} {st : Sl} : setFld 0 "held_base" d (.o (.obj c [] []) :: st) = some (.o (.obj c ["held_base"] [d]) :: st) := rfl
@[simp] theorem sf_sh1 {c : Str} {a0 d : D} {st : Sl} : setFld 0 "held_rows" d (.o (.obj c ["held_base"] [a0]) :: st) = some (.o (.obj c ["held_base", "held_rows"] [a0, d]) :: st) := rfl
@[simp] theorem sf_sh2 {c : Str} {a0 a1 d : D} {st : Sl} : setFld 0 "held_columns" d (.o (.obj c ["held_base", "held_rows"] [a0, a1]) :: st) = some (.o (.obj c ["held_base", "held_rows", "held_columns"] [a0, a1, d]) :: st) := rfl
@[simp] theorem sf_sh3 {c : Str} {a0 a1 a2 d : D} {st : Sl} : setFld 0 "size" d (.o (.obj c ["held_base", "held_rows", "held_columns"] [a0, a1, a2]) :: st) = some (.o (.obj c ["held_base", "held_rows", "held_columns", "size"] [a0, a1, a2, d]) :: st) := rfl
@[simp] theorem gf_sh0 {c : Str} {a0 a1 a2 a3 : D} : gFld "held_base" [.obj c ["held_base", "held_rows", "held_columns", "size"] [a0, a1, a2, a3]] = some a0 := rfl
@[simp] theorem gf_sh1 {c : Str} {a0 a1 a2 a3 : D} : gFld "held_rows" [.obj c ["held_base", "held_rows", "held_columns", "size"] [a0, a1, a2, a3]] = some a1 := rfl
@[simp] theorem gf_sh2 {c : Str} {a0 a1 a2 a3 : D} : gFld "held_columns" [.obj c ["held_base", "held_rows", "held_columns", "size"] [a0, a1, a2, a3]] = some a2 := rfl
@[simp] theorem gf_sh3 {c : Str} {a0 a1 a2 a3 : D} : gFld "size" [.obj c ["held_base", "held_rows", "held_columns", "size"] [a0, a1, a2, a3]] = some a3 := rfl

@[simp] theorem sf_wr0 {c : Str} {d : D} {st : Sl} : setFld 0 "held_base" d (.o (.obj c [] []) :: st) = some (.o (.obj c ["held_base"] [d]) :: st) := rfl
@[simp] theorem sf_wr1 {c : Str} {a0 d : D} {st : Sl} : setFld 0 "held_figures" d (.o (.obj c ["held_base"] [a0]) :: st) = some (.o (.obj c ["held_base", "held_figures"] [a0, d]) :: st) := rfl
@[simp] theorem sf_wr2 {c : Str} {a0 a1 d : D} {st : Sl} : setFld 0 "held_last" d (.o (.obj c ["held_base", "held_figures"] [a0, a1]) :: st) = some (.o (.obj c ["held_base", "held_figures", "held_last"] [a0, a1, d]) :: st) := rfl
@[simp] theorem gf_wr0 {c : Str} {a0 a1 a2 : D} : gFld "held_base" [.obj c ["held_base", "held_figures", "held_last"] [a0, a1, a2]] = some a0 := rfl
@[simp] theorem gf_wr1 {c : Str} {a0 a1 a2 : D} : gFld "held_figures" [.obj c ["held_base", "held_figures", "held_last"] [a0, a1, a2]] = some a1 := rfl
@[simp] theorem gf_wr2 {c : Str} {a0 a1 a2 : D} : gFld "held_last" [.obj c ["held_base", "held_figures", "held_last"] [a0, a1, a2]] = some a2 := rfl

@[simp] theorem sf_ad0 {c : Str} {d : D} {st : Sl} : setFld 0 "system" d (.o (.obj c [] []) :: st) = some (.o (.obj c ["system"] [d]) :: st) := rfl
@[simp] theorem sf_ad1 {c : Str} {a0 d : D} {st : Sl} : setFld 0 "given" d (.o (.obj c ["system"] [a0]) :: st) = some (.o (.obj c ["system", "given"] [a0, d]) :: st) := rfl
@[simp] theorem sf_ad2 {c : Str} {a0 a1 d : D} {st : Sl} : setFld 0 "at" d (.o (.obj c ["system", "given"] [a0, a1]) :: st) = some (.o (.obj c ["system", "given", "at"] [a0, a1, d]) :: st) := rfl
@[simp] theorem sf_ad3 {c : Str} {a0 a1 a2 d : D} {st : Sl} : setFld 0 "written" d (.o (.obj c ["system", "given", "at"] [a0, a1, a2]) :: st) = some (.o (.obj c ["system", "given", "at", "written"] [a0, a1, a2, d]) :: st) := rfl
@[simp] theorem sf_ad4 {c : Str} {a0 a1 a2 a3 d : D} {st : Sl} : setFld 0 "carry" d (.o (.obj c ["system", "given", "at", "written"] [a0, a1, a2, a3]) :: st) = some (.o (.obj c ["system", "given", "at", "written", "carry"] [a0, a1, a2, a3, d]) :: st) := rfl
@[simp] theorem sf_ad5 {c : Str} {a0 a1 a2 a3 a4 d : D} {st : Sl} : setFld 0 "waiting" d (.o (.obj c ["system", "given", "at", "written", "carry"] [a0, a1, a2, a3, a4]) :: st) = some (.o (.obj c ["system", "given", "at", "written", "carry", "waiting"] [a0, a1, a2, a3, a4, d]) :: st) := rfl
@[simp] theorem su_ad0 {c : Str} {a0 a1 a2 a3 a4 a5 d : D} {st : Sl} : setFld 0 "system" d (.o (.obj c ["system", "given", "at", "written", "carry", "waiting"] [a0, a1, a2, a3, a4, a5]) :: st) = some (.o (.obj c ["system", "given", "at", "written", "carry", "waiting"] [d, a1, a2, a3, a4, a5]) :: st) := rfl
@[simp] theorem gf_ad0 {c : Str} {a0 a1 a2 a3 a4 a5 : D} : gFld "system" [.obj c ["system", "given", "at", "written", "carry", "waiting"] [a0, a1, a2, a3, a4, a5]] = some a0 := rfl
@[simp] theorem su_ad1 {c : Str} {a0 a1 a2 a3 a4 a5 d : D} {st : Sl} : setFld 0 "given" d (.o (.obj c ["system", "given", "at", "written", "carry", "waiting"] [a0, a1, a2, a3, a4, a5]) :: st) = some (.o (.obj c ["system", "given", "at", "written", "carry", "waiting"] [a0, d, a2, a3, a4, a5]) :: st) := rfl
@[simp] theorem gf_ad1 {c : Str} {a0 a1 a2 a3 a4 a5 : D} : gFld "given" [.obj c ["system", "given", "at", "written", "carry", "waiting"] [a0, a1, a2, a3, a4, a5]] = some a1 := rfl
@[simp] theorem su_ad2 {c : Str} {a0 a1 a2 a3 a4 a5 d : D} {st : Sl} : setFld 0 "at" d (.o (.obj c ["system", "given", "at", "written", "carry", "waiting"] [a0, a1, a2, a3, a4, a5]) :: st) = some (.o (.obj c ["system", "given", "at", "written", "carry", "waiting"] [a0, a1, d, a3, a4, a5]) :: st) := rfl
@[simp] theorem gf_ad2 {c : Str} {a0 a1 a2 a3 a4 a5 : D} : gFld "at" [.obj c ["system", "given", "at", "written", "carry", "waiting"] [a0, a1, a2, a3, a4, a5]] = some a2 := rfl
@[simp] theorem su_ad3 {c : Str} {a0 a1 a2 a3 a4 a5 d : D} {st : Sl} : setFld 0 "written" d (.o (.obj c ["system", "given", "at", "written", "carry", "waiting"] [a0, a1, a2, a3, a4, a5]) :: st) = some (.o (.obj c ["system", "given", "at", "written", "carry", "waiting"] [a0, a1, a2, d, a4, a5]) :: st) := rfl
@[simp] theorem gf_ad3 {c : Str} {a0 a1 a2 a3 a4 a5 : D} : gFld "written" [.obj c ["system", "given", "at", "written", "carry", "waiting"] [a0, a1, a2, a3, a4, a5]] = some a3 := rfl
@[simp] theorem su_ad4 {c : Str} {a0 a1 a2 a3 a4 a5 d : D} {st : Sl} : setFld 0 "carry" d (.o (.obj c ["system", "given", "at", "written", "carry", "waiting"] [a0, a1, a2, a3, a4, a5]) :: st) = some (.o (.obj c ["system", "given", "at", "written", "carry", "waiting"] [a0, a1, a2, a3, d, a5]) :: st) := rfl
@[simp] theorem gf_ad4 {c : Str} {a0 a1 a2 a3 a4 a5 : D} : gFld "carry" [.obj c ["system", "given", "at", "written", "carry", "waiting"] [a0, a1, a2, a3, a4, a5]] = some a4 := rfl
@[simp] theorem su_ad5 {c : Str} {a0 a1 a2 a3 a4 a5 d : D} {st : Sl} : setFld 0 "waiting" d (.o (.obj c ["system", "given", "at", "written", "carry", "waiting"] [a0, a1, a2, a3, a4, a5]) :: st) = some (.o (.obj c ["system", "given", "at", "written", "carry", "waiting"] [a0, a1, a2, a3, a4, d]) :: st) := rfl
@[simp] theorem gf_ad5 {c : Str} {a0 a1 a2 a3 a4 a5 : D} : gFld "waiting" [.obj c ["system", "given", "at", "written", "carry", "waiting"] [a0, a1, a2, a3, a4, a5]] = some a5 := rfl

theorem so_out : PyData.strOk "out" = true := by decide +kernel
theorem so_copy : PyData.strOk "copy" = true := by decide +kernel
theorem so_forget : PyData.strOk "forget" = true := by decide +kernel
theorem so_again : PyData.strOk "again" = true := by decide +kernel
theorem so_off : PyData.strOk "off" = true := by decide +kernel
theorem so_swap : PyData.strOk "swap" = true := by decide +kernel
theorem so_twice : PyData.strOk "twice" = true := by decide +kernel
theorem so_read : PyData.strOk "read" = true := by decide +kernel
@[simp] theorem eq_off_out : gEq [.str "off", .str "out"] = some (.bl false) := by rw [gEq_str so_off so_out]; rfl
@[simp] theorem eq_off_copy : gEq [.str "off", .str "copy"] = some (.bl false) := by rw [gEq_str so_off so_copy]; rfl
@[simp] theorem eq_off_forget : gEq [.str "off", .str "forget"] = some (.bl false) := by rw [gEq_str so_off so_forget]; rfl
@[simp] theorem eq_off_again : gEq [.str "off", .str "again"] = some (.bl false) := by rw [gEq_str so_off so_again]; rfl
@[simp] theorem eq_off_off : gEq [.str "off", .str "off"] = some (.bl true) := by rw [gEq_str so_off so_off]; rfl
@[simp] theorem eq_off_swap : gEq [.str "off", .str "swap"] = some (.bl false) := by rw [gEq_str so_off so_swap]; rfl
@[simp] theorem eq_off_twice : gEq [.str "off", .str "twice"] = some (.bl false) := by rw [gEq_str so_off so_twice]; rfl
@[simp] theorem eq_off_read : gEq [.str "off", .str "read"] = some (.bl false) := by rw [gEq_str so_off so_read]; rfl
@[simp] theorem eq_swap_out : gEq [.str "swap", .str "out"] = some (.bl false) := by rw [gEq_str so_swap so_out]; rfl
@[simp] theorem eq_swap_copy : gEq [.str "swap", .str "copy"] = some (.bl false) := by rw [gEq_str so_swap so_copy]; rfl
@[simp] theorem eq_swap_forget : gEq [.str "swap", .str "forget"] = some (.bl false) := by rw [gEq_str so_swap so_forget]; rfl
@[simp] theorem eq_swap_again : gEq [.str "swap", .str "again"] = some (.bl false) := by rw [gEq_str so_swap so_again]; rfl
@[simp] theorem eq_swap_off : gEq [.str "swap", .str "off"] = some (.bl false) := by rw [gEq_str so_swap so_off]; rfl
@[simp] theorem eq_swap_swap : gEq [.str "swap", .str "swap"] = some (.bl true) := by rw [gEq_str so_swap so_swap]; rfl
@[simp] theorem eq_swap_twice : gEq [.str "swap", .str "twice"] = some (.bl false) := by rw [gEq_str so_swap so_twice]; rfl
@[simp] theorem eq_swap_read : gEq [.str "swap", .str "read"] = some (.bl false) := by rw [gEq_str so_swap so_read]; rfl
@[simp] theorem eq_again_out : gEq [.str "again", .str "out"] = some (.bl false) := by rw [gEq_str so_again so_out]; rfl
@[simp] theorem eq_again_copy : gEq [.str "again", .str "copy"] = some (.bl false) := by rw [gEq_str so_again so_copy]; rfl
@[simp] theorem eq_again_forget : gEq [.str "again", .str "forget"] = some (.bl false) := by rw [gEq_str so_again so_forget]; rfl
@[simp] theorem eq_again_again : gEq [.str "again", .str "again"] = some (.bl true) := by rw [gEq_str so_again so_again]; rfl
@[simp] theorem eq_again_off : gEq [.str "again", .str "off"] = some (.bl false) := by rw [gEq_str so_again so_off]; rfl
@[simp] theorem eq_again_swap : gEq [.str "again", .str "swap"] = some (.bl false) := by rw [gEq_str so_again so_swap]; rfl
@[simp] theorem eq_again_twice : gEq [.str "again", .str "twice"] = some (.bl false) := by rw [gEq_str so_again so_twice]; rfl
@[simp] theorem eq_again_read : gEq [.str "again", .str "read"] = some (.bl false) := by rw [gEq_str so_again so_read]; rfl
@[simp] theorem eq_non_out : gEq [.non, .str "out"] = some (.bl false) := gEq_nons so_out
@[simp] theorem eq_non_copy : gEq [.non, .str "copy"] = some (.bl false) := gEq_nons so_copy
@[simp] theorem eq_non_forget : gEq [.non, .str "forget"] = some (.bl false) := gEq_nons so_forget
@[simp] theorem eq_non_again : gEq [.non, .str "again"] = some (.bl false) := gEq_nons so_again
@[simp] theorem eq_non_off : gEq [.non, .str "off"] = some (.bl false) := gEq_nons so_off
@[simp] theorem eq_non_swap : gEq [.non, .str "swap"] = some (.bl false) := gEq_nons so_swap
@[simp] theorem eq_non_twice : gEq [.non, .str "twice"] = some (.bl false) := gEq_nons so_twice
@[simp] theorem eq_non_read : gEq [.non, .str "read"] = some (.bl false) := gEq_nons so_read
@[simp] theorem inRc_off : gIn true [.str "off", .tup [.str "read", .str "copy"]] = some (.bl true) := rfl
@[simp] theorem inRc_swap : gIn true [.str "swap", .tup [.str "read", .str "copy"]] = some (.bl true) := rfl
@[simp] theorem inRc_again : gIn true [.str "again", .tup [.str "read", .str "copy"]] = some (.bl true) := rfl
end K83
namespace K83
open PySem PySem.Spec PyProof.Rows L2 Ev
@[simp] theorem isInt_int {i : Int} : f_p_is_integer [.f (.int i)] = .ok (.bl true) [.n] := by
  rw [f_p_is_integer, runF_eq (by rfl)]
  simp [b_p_is_integer]
/-- a column -/
def col (c : List Int) : D := .tup (c.map .int)
def ColOk (b r : Nat) (c : List Int) : Prop := c.length = r ∧ ∀ d ∈ c, 0 ≤ d ∧ d < (b : Int)
theorem isCol {b r : Nat} {c : List Int} (h : ColOk b r c) (hr : r < 1000) : f_p_is_column [.f (.tup (c.map .int)), .f (.int b), .f (.int r)] = .ok (.bl true) [.n, .n, .n] := by
  rw [f_p_is_column, runF_eq (by rfl)]
  have e : lcL [3] (tgN 3) mYes (eAnd (eCall f_p_is_integer [(.e (eV 3))]) (eChn gLe gLt (eC (.int 0)) (eV 3) (eV 1))) (c.map .int) [.f (.tup (c.map .int)), .f (.int b), .f (.int r), .n] = .ok ((c.map D.int).map fun _ => .bl true) [.f (.tup (c.map .int)), .f (.int b), .f (.int r), .n] := by
    refine lcL_map _ fun d m => ?_
    obtain ⟨i, mi, rfl⟩ := List.mem_map.mp m
    simp -implicitDefEqProofs [-R.bind, h.2 i mi]
  have l : ((c.map D.int).map fun _ => D.bl true).length < sizeLine := by simp [h.1]; exact Nat.lt_trans hr (by decide)
  have g : gAll [.lst ((c.map D.int).map fun _ => .bl true)] = some (.bl true) := gAll_true
  simp -implicitDefEqProofs [-R.bind, -List.map_map, b_p_is_column, h.1, e, kLcB_eq l, g]
def dcol (c : List Int) : D := .tup (c.map .int)
def dSheet (b r : Nat) (cs : List (List Int)) : D := .obj "Sheet" ["held_base", "held_rows", "held_columns", "size"] [.int b, .int r, .lst (cs.map dcol), .int cs.length]
/-- a valid sheet -/
structure ShOk (b r : Nat) (cs : List (List Int)) : Prop where
  b2 : 2 ≤ b
  b12 : b ≤ 12
  r1 : 1 ≤ r
  r4 : r ≤ 4
  len : cs.length < 1000
  cols : ∀ c ∈ cs, ColOk b r c
theorem sheet_init {b r : Nat} {cs : List (List Int)} (h : ShOk b r cs) : f_m_Sheet_zinitz [.o (.obj "Sheet" [] []), .f (.int b), .f (.int r), .f (.lst (cs.map dcol))] = .ok .non [.o (dSheet b r cs), .n, .n, .n] := by
  rw [f_m_Sheet_zinitz, runF_eq (by rfl)]
  obtain ⟨b2, b12, r1, r4, len, hc⟩ := h
  have e : lcL [4] (tgN 4) mYes (eCall f_p_is_column [(.e (eV 4)), (.e (eV 1)), (.e (eV 2))]) (cs.map dcol) [.o (.obj "Sheet" [] []), .f (.int b), .f (.int r), .f (.lst (cs.map dcol)), .n] = .ok ((cs.map dcol).map fun _ => .bl true) [.o (.obj "Sheet" [] []), .f (.int b), .f (.int r), .f (.lst (cs.map dcol)), .n] := by
    refine lcL_map _ fun d m => ?_
    obtain ⟨c, mi, rfl⟩ := List.mem_map.mp m
    have := isCol (hc c mi) (by omega)
    simp -implicitDefEqProofs [-R.bind, dcol, this]
  have l : ((cs.map dcol).map fun _ => D.bl true).length < sizeLine := by simp; exact Nat.lt_trans len (by decide)
  have g : gAll [.lst ((cs.map dcol).map fun _ => .bl true)] = some (.bl true) := gAll_true
  have b2' : (2 : Int) ≤ b := by omega
  have b12' : (b : Int) ≤ 12 := by omega
  have r1' : (1 : Int) ≤ r := by omega
  have r4' : (r : Int) ≤ 4 := by omega
  simp -implicitDefEqProofs [-R.bind, -List.map_map, b_m_Sheet_zinitz, b2', b12', r1', r4', e, kLcB_eq l, g]
  simp [dSheet]
section
variable {b r : Nat} {cs : List (List Int)}
@[simp] theorem sh_base : f_m_Sheet_base [.f (dSheet b r cs)] = .ok (.int b) [.n] := by
  rw [f_m_Sheet_base, runF_eq (by rfl)]; simp -implicitDefEqProofs [-R.bind, b_m_Sheet_base, dSheet]
@[simp] theorem sh_rows : f_m_Sheet_rows [.f (dSheet b r cs)] = .ok (.int r) [.n] := by
  rw [f_m_Sheet_rows, runF_eq (by rfl)]; simp -implicitDefEqProofs [-R.bind, b_m_Sheet_rows, dSheet]
@[simp] theorem sh_columns : f_m_Sheet_columns [.f (dSheet b r cs)] = .ok (.lst (cs.map dcol)) [.n] := by
  rw [f_m_Sheet_columns, runF_eq (by rfl)]; simp -implicitDefEqProofs [-R.bind, b_m_Sheet_columns, dSheet]
@[simp] theorem sh_len : f_m_Sheet_zlenz [.f (dSheet b r cs)] = .ok (.int cs.length) [.n] := by
  rw [f_m_Sheet_zlenz, runF_eq (by rfl)]; simp -implicitDefEqProofs [-R.bind, b_m_Sheet_zlenz, dSheet]
@[simp] theorem sh_cls {st : Sl} {c : Str} : clsAV c (.d (dSheet b r cs)) st = ("Sheet" == c) := rfl
/-- Horner's value -/
def valF (b : Int) (ds : List Int) (last : Int) : Int := ds.foldr (fun d v => v * b + d) last
def valS (b : Int) (cs : List (List Int)) : Int := valF b (cs.map List.sum) 0
end
def dOpt : Option Int → D
  | some i => .int i
  | none => .non
structure Ad where
  at_ : Nat
  w : List Int
  carry : Int
  wait : Option Int
def dAdd (b : Nat) (cs : List (List Int)) (a : Ad) : D := .obj "Adding" ["system", "given", "at", "written", "carry", "waiting"] [.int b, .lst (cs.map dcol), .int a.at_, .lst (a.w.map .int), .int a.carry, dOpt a.wait]
theorem add_init {b r : Nat} {cs : List (List Int)} : f_m_Adding_zinitz [.o (.obj "Adding" [] []), .f (dSheet b r cs)] = .ok .non [.o (dAdd b cs ⟨0, [], 0, none⟩), .n] := by
  rw [f_m_Adding_zinitz, runF_eq (by rfl)]
  simp -implicitDefEqProofs [-R.bind, b_m_Adding_zinitz]
  rfl
/-- what a column gives -/
inductive Deed where
  | non | off (k : Int) | swap | again
def Deed.d : Deed → D
  | .non => .non
  | .off k => .tup [.str "off", .int k]
  | .swap => .tup [.str "swap"]
  | .again => .tup [.str "again"]
theorem atI_0 {α : Type} {x : α} {xs : List α} : L2.atI (x :: xs) 0 = some x := by simp [L2.atI, L2.ixN]
theorem atI_1 {α : Type} {x y : α} {xs : List α} : L2.atI (x :: y :: xs) 1 = some y := by
  unfold L2.atI L2.ixN
  rw [if_pos (by decide), if_pos (by simp only [List.length_cons]; omega)]
  rfl
theorem taken_same {b : Int} {c : List Int} {bf : D} {de : Deed} : f_p_taken [.f (.int b), .f (dcol c), .f bf, .f de.d] = .ok (dcol c) [.n, .n, .n, .n] := by
  rw [f_p_taken, runF_eq (by rfl)]
  cases de <;> simp -implicitDefEqProofs [-R.bind, b_p_taken, Deed.d, atI_0]
def Deed.fig (b : Int) (s : Int) : Deed → Int
  | .off k => (s % b + k) % b
  | _ => s % b
def Deed.car (b : Int) (s : Int) : Deed → Int
  | .again => s / b + 1
  | _ => s / b
theorem done_de {b : Int} {c : List Int} {bf : D} {de : Deed} {y : Int} (hb : 0 < b) (hb2 : b ≤ 12) : f_p_done [.f (.int b), .f (dcol c), .f bf, .f (.int y), .f de.d] = .ok (.tup [.lst [.int (de.fig b (c.sum + y))], .int (de.car b (c.sum + y))]) [.n, .n, .n, .n, .n] := by
  rw [f_p_done, runF_eq (by rfl)]
  have t := taken_same (b := b) (c := c) (bf := bf) (de := de)
  have m : ∀ i : Int, gMod [.int i, .int b] = some (.int (i % b)) := fun i => gMod_int hb
  have f : ∀ i : Int, gFdiv [.int i, .int b] = some (.int (i / b)) := fun i => gFdiv_small hb (by omega)
  cases de <;> simp -implicitDefEqProofs [-R.bind, b_p_done, Deed.d, Deed.fig, Deed.car, atI_0, atI_1, dcol] at t ⊢ <;> simp -implicitDefEqProofs [-R.bind, t, m, f, atI_0, atI_1]
end K83
namespace K83
open PySem PySem.Spec PyProof.Rows L2 Ev
theorem atI_nat {α : Type} {xs : List α} {n : Nat} : L2.atI xs (n : Int) = xs[n]? := by
  unfold L2.atI L2.ixN
  rw [if_pos (by omega)]
  by_cases h : n < xs.length
  · rw [if_pos (by omega)]; simp
  · rw [if_neg (by omega)]; simp; omega
@[simp] theorem inc_ad {c : Str} {a0 a1 a3 a4 a5 : D} {k j : Int} {st : Sl} : sInc 0 "at" j (.o (.obj c ["system", "given", "at", "written", "carry", "waiting"] [a0, a1, .int k, a3, a4, a5]) :: st) = .ok .nx (.o (.obj c ["system", "given", "at", "written", "carry", "waiting"] [a0, a1, .int (k + j), a3, a4, a5]) :: st) := rfl
@[simp] theorem swq_non : gEq [Deed.non.d, .tup [.str "swap"]] = some (.bl false) := by
  simp [gEq, Deed.d, toP, toPs, SeqAt.shaped, PyData.canLay0, PyData.canLayAll0, PyData.depth, PyData.depthAll, PyData.eqv, so_swap]
@[simp] theorem swq_swap : gEq [Deed.swap.d, .tup [.str "swap"]] = some (.bl true) := by
  simp [gEq, Deed.d, toP, toPs, SeqAt.shaped, PyData.canLay0, PyData.canLayAll0, PyData.depth, PyData.depthAll, PyData.eqv, PyData.eqvAll, so_swap]
@[simp] theorem swq_again : gEq [Deed.again.d, .tup [.str "swap"]] = some (.bl false) := by
  have e : ((("again" : Str)) == ("swap" : Str)) = false := rfl
  simp [gEq, Deed.d, toP, toPs, SeqAt.shaped, PyData.canLay0, PyData.canLayAll0, PyData.depth, PyData.depthAll, PyData.eqv, PyData.eqvAll, so_swap, so_again, e]
@[simp] theorem swq_off {k : Int} : gEq [(Deed.off k).d, .tup [.str "swap"]] = some (.bl false) := by
  have e : ((("off" : Str)) == ("swap" : Str)) = false := rfl
  simp [gEq, Deed.d, toP, toPs, SeqAt.shaped, PyData.canLay0, PyData.canLayAll0, PyData.depth, PyData.depthAll, PyData.eqv, PyData.eqvAll, so_swap, so_off, e]
def stepA (b : Int) (c : List Int) (de : Deed) (a : Ad) : Ad :=
  match a.wait, de with
  | some x, de => ⟨a.at_ + 1, a.w ++ [de.fig b (c.sum + a.carry), x], de.car b (c.sum + a.carry), none⟩
  | none, .swap => ⟨a.at_ + 1, a.w, Deed.swap.car b (c.sum + a.carry), some (Deed.swap.fig b (c.sum + a.carry))⟩
  | none, de => ⟨a.at_ + 1, a.w ++ [de.fig b (c.sum + a.carry)], de.car b (c.sum + a.carry), none⟩
theorem do_de {b r : Nat} {cs : List (List Int)} {c : List Int} {a : Ad} {de : Deed} (h : ShOk b r cs) (hc : cs[a.at_]? = some c) (hw : a.w.length < 5000) (hs : de = .swap → a.at_ + 1 ≠ cs.length) :
    f_m_Adding_do [.o (dAdd b cs a), .f de.d] = .ok (.bl true) [.o (dAdd b cs (stepA b c de a)), .n] := by
  rw [f_m_Adding_do, runF_eq (by rfl)]
  have hb : 0 < (b : Int) := by have := h.b2; omega
  have hb2 : (b : Int) ≤ 12 := by have := h.b12; omega
  have hl : a.at_ < cs.length := by
    rcases Nat.lt_or_ge a.at_ cs.length with q | q
    · exact q
    · rw [List.getElem?_eq_none q] at hc; cases hc
  obtain ⟨n, w, y, wt⟩ := a
  simp only at hc hw hs hl
  have dn : ∀ bf, f_p_done [.f (.int b), .f (dcol c), .f bf, .f (.int y), .f de.d] = _ := fun bf => done_de (bf := bf) hb hb2
  have ix : L2.atI (cs.map dcol) (n : Int) = some (dcol c) := by rw [atI_nat, List.getElem?_map, hc]; rfl
  have sz : (5002 : Nat) ≤ sizeLine := by decide
  have g1 : ∀ x : D, gAdd [.lst (w.map .int), .lst [x]] = some (.lst (w.map .int ++ [x])) := fun x => gAdd_lst (by simp; omega)
  have g2 : ∀ x z : D, gAdd [.lst [x], .lst [z]] = some (.lst [x, z]) := fun x z => gAdd_lst (by simp; omega)
  have g3 : ∀ x z : D, gAdd [.lst (w.map .int), .lst [x, z]] = some (.lst (w.map .int ++ [x, z])) := fun x z => gAdd_lst (by simp; omega)
  have g0 : gAdd [.lst (w.map .int), .lst []] = some (.lst (w.map .int ++ [])) := gAdd_lst (by simp; omega)
  cases n with
  | zero =>
    have ix0 : L2.atI (cs.map dcol) 0 = some (dcol c) := ix
    have l1 : de = .swap → ((1 : Int) == cs.length) = false := fun e => beq_eq_false_iff_ne.mpr fun z => hs e (by omega)
    cases de <;> cases wt <;> first
      | simp -implicitDefEqProofs [-R.bind, b_m_Adding_do, dAdd, dOpt, ix0, dn, g0, g1, g2, g3, stepA, atI_0, l1 rfl]
      | simp -implicitDefEqProofs [-R.bind, b_m_Adding_do, dAdd, dOpt, ix0, dn, g0, g1, g2, g3, stepA, atI_0]
  | succ m =>
    have ixs : L2.atI (cs.map dcol) ((m : Int) + 1) = some (dcol c) := ix
    obtain ⟨c', hc'⟩ : ∃ c', cs[m]? = some c' := ⟨cs[m]'(by omega), by simp⟩
    have ixm : L2.atI (cs.map dcol) (m : Int) = some (dcol c') := by rw [atI_nat, List.getElem?_map, hc']; rfl
    have pos : (0 : Int) < (m : Int) + 1 := by omega
    have l1 : de = .swap → ((m : Int) + 1 + 1 == cs.length) = false := fun e => beq_eq_false_iff_ne.mpr fun z => hs e (by omega)
    cases de <;> cases wt <;> first
      | simp -implicitDefEqProofs [-R.bind, b_m_Adding_do, dAdd, dOpt, ixs, ixm, pos, dn, g0, g1, g2, g3, stepA, atI_0, l1 rfl]
      | simp -implicitDefEqProofs [-R.bind, b_m_Adding_do, dAdd, dOpt, ixs, ixm, pos, dn, g0, g1, g2, g3, stepA, atI_0]
end K83
namespace K83
open PySem PySem.Spec PyProof.Rows L2 Ev
theorem wh_stop {c : B'} {b : S} {n : Nat} {st st1 : Sl} (h : c st = .ok false st1) : whL c b (n + 1) st = .ok .nx st1 := by
  rw [whL, h]; rfl
theorem wh_go {c : B'} {b : S} {n : Nat} {st st1 st2 : Sl} (h : c st = .ok true st1) (h2 : b st1 = .ok .nx st2) : whL c b (n + 1) st = whL c b n st2 := by
  rw [whL, h, R.bind_ok]
  simp only [h2]
section
variable {b r : Nat} {cs : List (List Int)} {a : Ad}
@[simp] theorem ga_sys : gFld "system" [dAdd b cs a] = some (.int b) := rfl
@[simp] theorem ga_giv : gFld "given" [dAdd b cs a] = some (.lst (cs.map dcol)) := rfl
@[simp] theorem ga_at : gFld "at" [dAdd b cs a] = some (.int a.at_) := rfl
@[simp] theorem ga_wri : gFld "written" [dAdd b cs a] = some (.lst (a.w.map .int)) := rfl
@[simp] theorem ga_car : gFld "carry" [dAdd b cs a] = some (.int a.carry) := rfl
@[simp] theorem ga_wai : gFld "waiting" [dAdd b cs a] = some (dOpt a.wait) := rfl
@[simp] theorem kc_add {c : Str} : kClO c (some (dAdd b cs a)) = ("Adding" == c) := rfl
@[simp] theorem ca_add {c : Str} {st : Sl} : clsAV c (.o (dAdd b cs a)) st = ("Adding" == c) := rfl
end
def Ad.Ok (a : Ad) : Prop := a.w.length + (match a.wait with | some _ => 1 | none => 0) = a.at_
theorem stepA_at {b : Int} {c : List Int} {de : Deed} {a : Ad} : (stepA b c de a).at_ = a.at_ + 1 := by
  obtain ⟨n, w, y, wt⟩ := a
  cases wt <;> cases de <;> rfl
theorem stepA_ok {b : Int} {c : List Int} {de : Deed} {a : Ad} (h : a.Ok) : (stepA b c de a).Ok := by
  obtain ⟨n, w, y, wt⟩ := a
  unfold Ad.Ok at h ⊢
  cases wt <;> cases de <;> simp [stepA] at h ⊢ <;> omega
def runA (b : Int) (cs : List (List Int)) (a : Ad) (t : Nat) : Ad := ((cs.drop a.at_).take (t - a.at_)).foldl (fun a c => stepA b c .non a) a
theorem until_wh {b r : Nat} {cs : List (List Int)} {t : Nat} (h : ShOk b r cs) (ht : t ≤ cs.length) : ∀ (k n : Nat) (a : Ad), a.Ok → t - a.at_ = k → k < n →
    whL (mT (eOp gLt [(.e (eFld "at" (.v 0))), (.v 1)])) (sDrop (eMeth "Adding" f_m_Adding_do (.mu 0) [(.e (eC .non))])) n [.o (dAdd b cs a), .f (.int t)] = .ok .nx [.o (dAdd b cs (runA b cs a t)), .f (.int t)]
  | 0, n + 1, a, ok, e, _ => by
    have l : ¬ ((a.at_ : Int) < t) := by omega
    rw [wh_stop (st1 := [.o (dAdd b cs a), .f (.int t)]) (by simp -implicitDefEqProofs [-R.bind]; omega)]
    unfold runA
    rw [e]; rfl
  | k + 1, n + 1, a, ok, e, l => by
    have l1 : a.at_ < cs.length := by omega
    have hc : cs[a.at_]? = some (cs[a.at_]'l1) := by simp
    have hw : a.w.length < 5000 := by have := h.len; unfold Ad.Ok at ok; cases z : a.wait <;> rw [z] at ok <;> simp at ok <;> omega
    have d := do_de (de := .non) h hc hw (fun e => nomatch e)
    have d' : f_m_Adding_do [.o (dAdd b cs a), .f .non] = .ok (.bl true) [.o (dAdd b cs (stepA b (cs[a.at_]'l1) .non a)), .n] := d
    have lt : (a.at_ : Int) < t := by omega
    rw [wh_go (st1 := [.o (dAdd b cs a), .f (.int t)]) (st2 := [.o (dAdd b cs (stepA b (cs[a.at_]'l1) .non a)), .f (.int t)]) (by simp -implicitDefEqProofs [-R.bind]; omega) (by simp -implicitDefEqProofs [-R.bind, d'])]
    rw [until_wh h ht k n _ (stepA_ok ok) (by rw [stepA_at]; omega) (by omega)]
    have : runA b cs a t = runA b cs (stepA b (cs[a.at_]'l1) .non a) t := by
      unfold runA
      rw [stepA_at, List.drop_eq_getElem_cons l1, show t - a.at_ = (t - (a.at_ + 1)) + 1 from by omega, List.take_succ_cons, List.foldl_cons]
    rw [this]
theorem do_until {b r : Nat} {cs : List (List Int)} {t : Nat} {a : Ad} (h : ShOk b r cs) (ht : t ≤ cs.length) (ok : a.Ok) : f_m_Adding_do_until [.o (dAdd b cs a), .f (.int t)] = .ok .non [.o (dAdd b cs (runA b cs a t)), .n] := by
  rw [f_m_Adding_do_until, runF_eq (by rfl)]
  have := h.len
  have e := until_wh h ht (t - a.at_) 4096 a ok rfl (by omega)
  show kRunF [0] 2 (whL _ _ 4096 [.o (dAdd b cs a), .f (.int t)]) = _
  rw [e]; rfl
def dWr (b : Nat) (w : List Int) (l : Int) : D := .obj "Written" ["held_base", "held_figures", "held_last"] [.int b, .lst (w.map .int), .int l]
theorem wr_init {b : Nat} {w : List Int} {l : Int} : f_m_Written_zinitz [.o (.obj "Written" [] []), .f (.int b), .f (.lst (w.map .int)), .f (.int l)] = .ok .non [.o (dWr b w l), .n, .n, .n] := by
  rw [f_m_Written_zinitz, runF_eq (by rfl)]
  simp -implicitDefEqProofs [-R.bind, b_m_Written_zinitz]
  rfl
theorem fr_wr {b : Nat} {w : List Int} {l : Int} {st : Sl} : kFr (dWr b w l) st = .ok (dWr b w l) st := by
  unfold kFr
  have : fzOk (dWr b w l) = true := rfl
  simp only [this]
def endA (b : Int) (cs : List (List Int)) (a : Ad) : Ad := runA b cs a cs.length
theorem ad_result {b r : Nat} {cs : List (List Int)} {a : Ad} (h : ShOk b r cs) (ok : a.Ok) : f_m_Adding_result [.o (dAdd b cs a)] = .ok (dWr b (endA b cs a).w (endA b cs a).carry) [.o (dAdd b cs (endA b cs a))] := by
  rw [f_m_Adding_result, runF_eq (by rfl)]
  have d := do_until h (Nat.le_refl _) ok
  simp -implicitDefEqProofs [-R.bind, b_m_Adding_result, d, wr_init, fr_wr, endA]
def A0 : Ad := ⟨0, [], 0, none⟩
theorem A0_ok : A0.Ok := rfl
theorem add_right {b r : Nat} {cs : List (List Int)} (h : ShOk b r cs) : f_p_add_right [.f (dSheet b r cs)] = .ok (dWr b (endA b cs A0).w (endA b cs A0).carry) [.n] := by
  rw [f_p_add_right, runF_eq (by rfl)]
  have e := add_init (b := b) (r := r) (cs := cs)
  have d := ad_result h A0_ok
  unfold A0 at d ⊢
  simp -implicitDefEqProofs [-R.bind, b_p_add_right, e, d]
end K83
namespace Ev
open PySem PySem.Spec PyProof.Rows L2
def kIt3 (i : Nat) (d k : D) (st : Sl) : Option Cell → R Fl
  | some (.o (.lst ds)) => (match k with
    | .int j => if 0 ≤ j ∧ j < ds.length then .ok .nx (st.set i (.o (.lst (ds.set j.toNat d)))) else .bad
    | _ => .bad)
  | _ => .bad
def kIt2 (i : Nat) (d : D) (k : D) (st : Sl) : R Fl := kIt3 i d k st st[i]?
@[simp] theorem kIt2_eq {i : Nat} {d k : D} {st : Sl} : kIt2 i d k st = kIt3 i d k st st[i]? := rfl
theorem kIt3_lst {i : Nat} {d : D} {j : Nat} {ds : List D} {st : Sl} (h : j < ds.length) : kIt3 i d (.int j) st (some (.o (.lst ds))) = .ok .nx (st.set i (.o (.lst (ds.set j d)))) := by
  show (if 0 ≤ (j : Int) ∧ (j : Int) < ds.length then R.ok Fl.nx (st.set i (.o (.lst (ds.set (j : Int).toNat d)))) else .bad) = _
  rw [if_pos ⟨by omega, by omega⟩]; rfl
@[simp] theorem kIt3_30 {i : Nat} {d a b c : D} {st : Sl} : kIt3 i d (.int 0) st (some (.o (.lst [a, b, c]))) = .ok .nx (st.set i (.o (.lst [d, b, c]))) := rfl
@[simp] theorem kIt3_32 {i : Nat} {d a b c : D} {st : Sl} : kIt3 i d (.int 2) st (some (.o (.lst [a, b, c]))) = .ok .nx (st.set i (.o (.lst [a, b, d]))) := rfl
def kIt1 (i : Nat) (mk : E) (d : D) (st : Sl) : Option Cell → R Fl
  | some (.o (.lst _)) => (mk st).bind (kIt2 i d)
  | _ => .bad
@[simp] theorem kIt1_lst {i : Nat} {mk : E} {d : D} {ds : List D} {st : Sl} : kIt1 i mk d st (some (.o (.lst ds))) = (mk st).bind (kIt2 i d) := rfl
def kIt0 (i : Nat) (mk : E) (d : D) (st : Sl) : R Fl := kIt1 i mk d st st[i]?
@[simp] theorem kIt0_eq {i : Nat} {mk : E} {d : D} {st : Sl} : kIt0 i mk d st = kIt1 i mk d st st[i]? := rfl
@[simp] theorem sItem_eq {i : Nat} {m mk : E} {st : Sl} : sItem i m mk st = (m st).bind (kIt0 i mk) := by
  unfold sItem
  cases m st with
  | bad => rfl
  | exc a b s => rfl
  | ok d st1 =>
    show (match st1[i]? with
      | some (.o (.lst _)) => (mk st1).bind fun k st => (match st[i]?, k with
        | some (.o (.lst ds)), .int j => if 0 ≤ j ∧ j < ds.length then R.ok Fl.nx (st.set i (.o (.lst (ds.set j.toNat d)))) else .bad
        | _, _ => .bad)
      | _ => .bad) = kIt1 i mk d st1 st1[i]?
    unfold kIt1
    cases st1[i]? with
    | none => rfl
    | some c =>
      cases c with
      | n => rfl
      | f e => rfl
      | o e =>
        cases e with
        | lst ds =>
          show (mk st1).bind _ = (mk st1).bind _
          cases mk st1 with
          | bad => rfl
          | exc a b s => rfl
          | ok k st2 =>
            show (match st2[i]?, k with
              | some (.o (.lst ds)), .int j => if 0 ≤ j ∧ j < ds.length then R.ok Fl.nx (st2.set i (.o (.lst (ds.set j.toNat d)))) else .bad
              | _, _ => .bad) = kIt3 i d k st2 st2[i]?
            unfold kIt3
            cases st2[i]? with
            | none => rfl
            | some c2 =>
              cases c2 with
              | n => rfl
              | f e => rfl
              | o e => cases e <;> cases k <;> rfl
        | _ => rfl
def kMuR (i : Nat) (st : Sl) : Option (D × List D) → R D
  | some (d, ds) => .ok d (st.set i (.o (.lst ds)))
  | none => .bad
@[simp] theorem kMuR_some {i : Nat} {st : Sl} {d : D} {ds : List D} : kMuR i st (some (d, ds)) = .ok d (st.set i (.o (.lst ds))) := rfl
def kMu2 (g : List D → List D → Option (D × List D)) (i : Nat) (as : List D) (st : Sl) : Option Cell → R D
  | some (.o (.lst ds)) => kMuR i st (g ds as)
  | _ => .bad
@[simp] theorem kMu2_lst {g : List D → List D → Option (D × List D)} {i : Nat} {as ds : List D} {st : Sl} : kMu2 g i as st (some (.o (.lst ds))) = kMuR i st (g ds as) := rfl
def kMu1 (g : List D → List D → Option (D × List D)) (i : Nat) (as : List D) (st : Sl) : R D := kMu2 g i as st st[i]?
@[simp] theorem kMu1_eq {g : List D → List D → Option (D × List D)} {i : Nat} {as : List D} {st : Sl} : kMu1 g i as st = kMu2 g i as st st[i]? := rfl
def kMu0 (g : List D → List D → Option (D × List D)) (i : Nat) (ms : List E) (st : Sl) : Option Cell → R D
  | some (.o (.lst _)) => (evAll ms st).bind (kMu1 g i)
  | _ => .bad
@[simp] theorem kMu0_lst {g : List D → List D → Option (D × List D)} {i : Nat} {ms : List E} {ds : List D} {st : Sl} : kMu0 g i ms st (some (.o (.lst ds))) = (evAll ms st).bind (kMu1 g i) := rfl
@[simp] theorem eMut_eq {g : List D → List D → Option (D × List D)} {i : Nat} {ms : List E} {st : Sl} : eMut g i ms st = kMu0 g i ms st st[i]? := by
  unfold eMut kMu0
  cases st[i]? with
  | none => rfl
  | some c =>
    cases c with
    | n => rfl
    | f e => rfl
    | o e =>
      cases e with
      | lst ds =>
        show (evAll ms st).bind _ = (evAll ms st).bind _
        cases evAll ms st with
        | bad => rfl
        | exc a b s => rfl
        | ok as st1 =>
          show (match st1[i]? with
            | some (.o (.lst ds)) => (match g ds as with
              | some (d, ds') => R.ok d (st1.set i (.o (.lst ds')))
              | none => .bad)
            | _ => .bad) = kMu2 g i as st1 st1[i]?
          unfold kMu2
          cases st1[i]? with
          | none => rfl
          | some c =>
            cases c with
            | n => rfl
            | f e => rfl
            | o e =>
              cases e with
              | lst ds => show (match g ds as with | some (d, ds') => R.ok d (st1.set i (.o (.lst ds'))) | none => .bad) = kMuR i st1 (g ds as); cases g ds as <;> rfl
              | _ => rfl
      | _ => rfl
def kSp (is : List Nat) (as : List AV) (st : Sl) : R Fl := kSt (setAll is as st)
@[simp] theorem sPar_eq {is : List Nat} {ps : List Arg} {st : Sl} : sPar is ps st = (evArgs ps st).bind (kSp is) := by
  unfold sPar
  cases evArgs ps st with
  | bad => rfl
  | exc a b s => rfl
  | ok as st1 => show (match setAll is as st1 with | some st => R.ok Fl.nx st | none => .bad) = kSt (setAll is as st1); cases setAll is as st1 <;> rfl
@[simp] theorem kSp_eq {is : List Nat} {as : List AV} {st : Sl} : kSp is as st = kSt (setAll is as st) := rfl
@[simp] theorem setAll_nil {st : Sl} : setAll [] [] st = some st := rfl
@[simp] theorem setAll_d {i : Nat} {is : List Nat} {d : D} {as : List AV} {st : Sl} : setAll (i :: is) (.d d :: as) st = (setL i (.f d) st).bind (setAll is as) := by
  rw [setAll, setL_eq]
  cases st[i]? <;> rfl
@[simp] theorem setAll_o {i : Nat} {is : List Nat} {d : D} {as : List AV} {st : Sl} : setAll (i :: is) (.o d :: as) st = (setL i (.o d) st).bind (setAll is as) := by
  rw [setAll, setL_eq]
  cases st[i]? <;> rfl
end Ev
namespace K83
open PySem PySem.Spec PyProof.Rows L2 Ev
structure Bag where
  x : Int
  s : Int
  k : Int
def Bag.d (g : Bag) : D := .lst [.int g.x, .int g.s, .int g.k]
structure BagOk (N : Nat) (g : Bag) : Prop where
  x0 : 0 ≤ g.x
  s0 : 0 ≤ g.s
  s1 : g.s < 10 ^ 42
  k0 : 0 ≤ g.k
  k1 : g.k ≤ N
theorem BagOk.mono {N M : Nat} {g : Bag} (h : BagOk N g) (l : N ≤ M) : BagOk M g := ⟨h.x0, h.s0, h.s1, h.k0, by have := h.k1; omega⟩
theorem gPow_of {i j : Int} {n : Nat} (h0 : 0 ≤ i) (h1 : i < 2 ^ n) (hn : n ≤ 10000) (hj : 0 ≤ j) (hj2 : j ≤ 100) : gPow [.int i, .int j] = some (.int (i ^ j.toNat)) := by
  refine if_pos ?_
  unfold cPow
  rw [decide_eq_true hj]
  refine (Bool.true_and _).trans (decide_eq_true ?_)
  have l : i.natAbs.log2 ≤ n := by
    by_cases z : i.natAbs = 0
    · rw [z]; simp
    · have : i.natAbs < 2 ^ n := by
        have e : ((2 ^ n : Nat) : Int) = 2 ^ n := by simp
        omega
      exact Nat.le_of_lt ((Nat.log2_lt z).mpr this)
  have a1 : ((i.natAbs.log2 + 1 : Nat) : Int) ≤ 10001 := by omega
  have a2 : ((i.natAbs.log2 + 1 : Nat) : Int) * j ≤ 10001 * 100 := Int.mul_le_mul a1 hj2 hj (by decide)
  exact Int.le_trans a2 (by decide)
theorem p40x : ∃ c : Int, gPow [.int 10, .int 40] = some (.int c) ∧ 0 < c ∧ c < 2 ^ 150 := ⟨10 ^ 40, gPow_of (n := 4) (by decide) (by decide) (by decide) (by decide) (by decide), by decide, by decide⟩
theorem p38x : ∃ c : Int, gPow [.int 10, .int 38] = some (.int c) ∧ 0 < c ∧ c < 2 ^ 150 := ⟨10 ^ 38, gPow_of (n := 4) (by decide) (by decide) (by decide) (by decide) (by decide), by decide, by decide⟩
theorem take_ok {N : Nat} {g : Bag} {many : Int} (h : BagOk N g) (hN : N < 2 ^ 40) (m1 : 1 ≤ many) (m2 : many < 2 ^ 40) :
    ∃ r g', 0 ≤ r ∧ r < many ∧ BagOk (N + 1) g' ∧ f_p__law_take [.o g.d, .f (.int many)] = .ok (.int r) [.o g'.d, .n] := by
  obtain ⟨x, s, k⟩ := g
  obtain ⟨x0, s0, s1, k0, k1⟩ := h
  simp only at x0 s0 s1 k0 k1
  have mm : ∀ i : Int, gMod [.int i, .int many] = some (.int (i % many)) := fun i => gMod_int (by omega)
  have mf : ∀ i : Int, gFdiv [.int i, .int many] = some (.int (i / many)) := fun i => gFdiv_small (by omega) (by omega)
  have at2 : L2.atI [D.int x, .int s, .int k] 2 = some (.int k) := rfl
  have at1 : L2.atI [D.int x, .int s, .int k] 1 = some (.int s) := rfl
  by_cases hx : 0 < x
  · refine ⟨x % many, ⟨x / many, s, k⟩, Int.emod_nonneg _ (by omega), Int.emod_lt_of_pos _ (by omega), ⟨Int.ediv_nonneg x0 (by omega), s0, s1, k0, by show k ≤ _; omega⟩, ?_⟩
    rw [f_p__law_take, runF_eq (by rfl)]
    simp -implicitDefEqProofs [-R.bind, b_p__law_take, Bag.d, atI_0, hx, mm, mf]
  · have at2' : L2.atI [D.int x, .int s, .int (k + 1)] 2 = some (.int (k + 1)) := rfl
    have at1' : L2.atI [D.int x, .int s, .int (k + 1)] 1 = some (.int s) := rfl
    have e1 : gMul [.int 7368787, .int (k + 1)] = some (.int (7368787 * (k + 1))) := gMul_int (.inl (by decide))
    have e2 : gMul [.int 1299709, .int (k + 1)] = some (.int (1299709 * (k + 1))) := gMul_int (.inl (by decide))
    have p2 : gPow [.int (s + 7368787 * (k + 1)), .int 2] = some (.int ((s + 7368787 * (k + 1)) ^ 2)) := gPow_of (n := 200) (by omega) (by omega) (by decide) (by decide) (by decide)
    obtain ⟨c40, p40, c40a, c40b⟩ := p40x
    obtain ⟨c38, p38, c38a, c38b⟩ := p38x
    generalize hv : (s + 7368787 * (k + 1)) ^ 2 = v2 at p2
    generalize hu : s + 7368787 * (k + 1) = u at p2
    generalize hv3 : 1299709 * (k + 1) = v3 at e2
    have m40 : gMod [.int (v2 + v3), .int (c40 + 121)] = some (.int ((v2 + v3) % (c40 + 121))) := gMod_int (by omega)
    have v0 : 0 ≤ (v2 + v3) % (c40 + 121) := Int.emod_nonneg _ (by omega)
    have v1 : (v2 + v3) % (c40 + 121) < c40 + 121 := Int.emod_lt_of_pos _ (by omega)
    generalize hw : (v2 + v3) % (c40 + 121) = w at m40 v0 v1
    have p3 : gPow [.int w, .int 3] = some (.int (w ^ 3)) := gPow_of (n := 200) v0 (by omega) (by decide) (by decide) (by decide)
    generalize w ^ 3 = w3 at p3
    have m38 : gMod [.int (w3 + s), .int (c38 + 133)] = some (.int ((w3 + s) % (c38 + 133))) := gMod_int (by omega)
    have f99 : gFdiv [.int ((w3 + s) % (c38 + 133)), .int 9973] = some (.int ((w3 + s) % (c38 + 133) / 9973)) := gFdiv_small (by decide) (by decide)
    generalize (w3 + s) % (c38 + 133) / 9973 = z at f99
    refine ⟨z % many, ⟨x, s, k + 1⟩, Int.emod_nonneg _ (by omega), Int.emod_lt_of_pos _ (by omega), ⟨x0, s0, s1, Int.add_nonneg k0 (by decide), by show k + 1 ≤ _; omega⟩, ?_⟩
    rw [f_p__law_take, runF_eq (by rfl)]
    simp -implicitDefEqProofs [-R.bind, -Int.reducePow, b_p__law_take, Bag.d, atI_0, hx, at1, at2, at1', at2', e1, e2, hu, hv3, p2, p40, p38, m40, p3, m38, f99, mm]
end K83
namespace K83
open PySem PySem.Spec PyProof.Rows L2 Ev
section
variable {b : Nat} {w : List Int} {l : Int}
@[simp] theorem wr_figures : f_m_Written_figures [.f (dWr b w l)] = .ok (.lst (w.map .int)) [.n] := by
  rw [f_m_Written_figures, runF_eq (by rfl)]; simp -implicitDefEqProofs [-R.bind, b_m_Written_figures, dWr]
@[simp] theorem wr_last : f_m_Written_last [.f (dWr b w l)] = .ok (.int l) [.n] := by
  rw [f_m_Written_last, runF_eq (by rfl)]; simp -implicitDefEqProofs [-R.bind, b_m_Written_last, dWr]
@[simp] theorem wr_base : f_m_Written_base [.f (dWr b w l)] = .ok (.int b) [.n] := by
  rw [f_m_Written_base, runF_eq (by rfl)]; simp -implicitDefEqProofs [-R.bind, b_m_Written_base, dWr]
@[simp] theorem wr_cls {st : Sl} {c : Str} : clsAV c (.d (dWr b w l)) st = ("Written" == c) := rfl
@[simp] theorem gw_base : gFld "held_base" [dWr b w l] = some (.int b) := rfl
@[simp] theorem gw_figs : gFld "held_figures" [dWr b w l] = some (.lst (w.map .int)) := rfl
@[simp] theorem gw_last : gFld "held_last" [dWr b w l] = some (.int l) := rfl
end
theorem foldl_horner (b : Int) (last : Int) (ds : List Int) : (ds.reverse.map D.int).foldl (fun (v : Int) d => match d with | .int i => v * b + i | _ => v) last = valF b ds last := by
  rw [List.foldl_map, List.foldl_reverse]
  rfl
theorem gMul_b {b : Nat} (h : b ≤ 12) {i : Int} : gMul [.int i, .int b] = some (.int (i * b)) := gMul_int (.inr ⟨by omega, by omega⟩)
theorem wr_value {b : Nat} {w : List Int} {l : Int} (h : b ≤ 12) : f_m_Written_value [.f (dWr b w l)] = .ok (.int (valF b w l)) [.n] := by
  rw [f_m_Written_value, runF_eq (by rfl)]
  obtain ⟨st', e, c, hst⟩ := forL_ind (g := tgN 2) (b := sSet 1 (eOp gAdd [(.e (eOp gMul [(.v 1), (.e (eFld "held_base" (.v 0)))])), (.v 2)]))
    (fun (v : Int) st => ∃ c, st = [.f (dWr b w l), .f (.int v), c]) (fun v d => match d with | .int i => v * b + i | _ => v) (ds := w.reverse.map D.int) (a := l) (st := [.f (dWr b w l), .f (.int l), .n])
    (fun v d st m ⟨c, hst⟩ => by
      obtain ⟨i, mi, rfl⟩ := List.mem_map.mp m
      subst hst
      refine ⟨[.f (dWr b w l), .f (.int (v * b + i)), .f (.int i)], ?_, _, rfl⟩
      simp -implicitDefEqProofs [-R.bind, gMul_b h]) ⟨_, rfl⟩
  rw [foldl_horner] at hst
  subst hst
  simp only [List.map_reverse] at e
  simp -implicitDefEqProofs [-R.bind, b_m_Written_value, e]
theorem sh_value {b r : Nat} {cs : List (List Int)} (h : b ≤ 12) : f_m_Sheet_value [.f (dSheet b r cs)] = .ok (.int (valS b cs)) [.n] := by
  rw [f_m_Sheet_value, runF_eq (by rfl)]
  have gb : gFld "held_base" [dSheet b r cs] = some (.int b) := rfl
  have gc : gFld "held_columns" [dSheet b r cs] = some (.lst (cs.map dcol)) := rfl
  have key : ∀ (ds : List (List Int)) (v : Int) (c : Cell), ∃ c', forL (tgN 2) (sSet 1 (eOp gAdd [(.e (eOp gMul [(.v 1), (.e (eFld "held_base" (.v 0)))])), (.e (eOp gSum [(.v 2)]))])) (ds.map dcol) [.f (dSheet b r cs), .f (.int v), c] =
      .ok .nx [.f (dSheet b r cs), .f (.int (ds.foldl (fun v c => v * b + c.sum) v)), c'] := by
    intro ds
    induction ds with
    | nil => intro v c; exact ⟨c, rfl⟩
    | cons d ds ih =>
      intro v c
      obtain ⟨c', e⟩ := ih (v * b + d.sum) (.f (dcol d))
      refine ⟨c', ?_⟩
      rw [List.map_cons, forL_nx (st' := [.f (dSheet b r cs), .f (.int (v * b + d.sum)), .f (dcol d)]) (by simp -implicitDefEqProofs [-R.bind, gb, gMul_b h, dcol]), e]
      rfl
  obtain ⟨c', e⟩ := key cs.reverse 0 .n
  have ev : cs.reverse.foldl (fun (v : Int) c => v * b + c.sum) 0 = valS b cs := by
    unfold valS valF
    rw [List.foldl_reverse, List.foldr_map]
  rw [ev, List.map_reverse] at e
  simp -implicitDefEqProofs [-R.bind, b_m_Sheet_value, gc, e]
end K83
namespace K83
open PySem PySem.Spec PyProof.Rows L2 Ev
theorem szl {n : Nat} (h : n < 10000) : n < sizeLine := Nat.lt_trans h (by decide)
theorem gAppend_of {ds : List D} {d : D} (h : ds.length < 10000) : gAppend ds [d] = some (.non, ds ++ [d]) := if_pos (szl h)
def digs (b v : Int) : Nat → List Int
  | 0 => []
  | n + 1 => v % b :: digs b (v / b) n
@[simp] theorem digs_len {b v : Int} {n : Nat} : (digs b v n).length = n := by
  induction n generalizing v with
  | zero => rfl
  | succ n ih => rw [digs, List.length_cons, ih]
theorem rangeD_len {a : Int} {n : Nat} : (rangeD a n).length = n := by simp [rangeD]
theorem digits_ok {b : Nat} {v : Int} {n : Nat} (hb : 2 ≤ b) (hb2 : b ≤ 12) (hn : n < 5000) : f_p__law_digits [.f (.int v), .f (.int b), .f (.int n)] = .ok (.lst ((digs b v n).map .int)) [.n, .n, .n] := by
  rw [f_p__law_digits, runF_eq (by rfl)]
  have m : ∀ i : Int, gMod [.int i, .int b] = some (.int (i % b)) := fun i => gMod_int (by omega)
  have f : ∀ i : Int, gFdiv [.int i, .int b] = some (.int (i / b)) := fun i => gFdiv_small (by omega) (by omega)
  have key : ∀ (ds : List D) (v : Int) (acc : List Int) (c : Cell), acc.length + ds.length < 10000 → ∃ v' c', forL (tgN 4) (sSeq (sDrop (eMut gAppend 3 [(eOp gMod [(.e (eOp gInt1 [(.v 0)])), (.v 1)])])) (sSet 0 (eOp gFdiv [(.v 0), (.v 1)]))) ds [.f (.int v), .f (.int b), .f (.int n), .o (.lst (acc.map .int)), c] =
      .ok .nx [.f (.int v'), .f (.int b), .f (.int n), .o (.lst ((acc ++ digs b v ds.length).map .int)), c'] := by
    intro ds
    induction ds with
    | nil => intro v acc c _; exact ⟨v, c, by simp [digs]⟩
    | cons d ds ih =>
      intro v acc c hl
      simp only [List.length_cons] at hl
      obtain ⟨v', c', e⟩ := ih (v / b) (acc ++ [v % b]) (.f d) (by simp; omega)
      refine ⟨v', c', ?_⟩
      have ga : gAppend (acc.map .int) [.int (v % b)] = some (.non, acc.map .int ++ [.int (v % b)]) := gAppend_of (by simp; omega)
      rw [forL_nx (st' := [.f (.int (v / b)), .f (.int b), .f (.int n), .o (.lst ((acc ++ [v % b]).map .int)), .f d]) (by simp -implicitDefEqProofs [-R.bind, m, f, ga]), e]
      simp [digs]
  obtain ⟨v', c', e⟩ := key (rangeD 0 n) v [] .n (by rw [rangeD_len]; simp; omega)
  rw [rangeD_len, List.nil_append] at e
  have k1 : ∀ st : Sl, kI1 (.int n) st = .ok (rangeD 0 n) st := fun st => kI1_nat (by omega)
  simp only [List.map_nil] at e
  simp -implicitDefEqProofs [-R.bind, b_p__law_digits, k1, e]
def rowOf (b : Int) (w : List Int) (l : Int) (n : Nat) : List Int := w ++ digs b l (n - w.length)
theorem row_ok {b : Nat} {w : List Int} {l : Int} {n : Nat} (hb : 2 ≤ b) (hb2 : b ≤ 12) (hn : n < 5000) (hw : w.length ≤ n) : f_p__law_row [.f (dWr b w l), .f (.int n)] = .ok (.lst ((rowOf b w l n).map .int)) [.n, .n] := by
  rw [f_p__law_row, runF_eq (by rfl)]
  have d := digits_ok (v := l) (n := n - w.length) hb hb2 (by omega)
  have e : ((n - w.length : Nat) : Int) = (n : Int) - (w.length : Int) := by omega
  rw [e] at d
  have g : gAdd [.lst (w.map .int), .lst ((digs b l (n - w.length)).map .int)] = some (.lst (w.map .int ++ (digs b l (n - w.length)).map .int)) := gAdd_lst (by simp; exact Nat.le_of_lt (szl (by omega)))
  simp -implicitDefEqProofs [-R.bind, b_p__law_row, d, g, rowOf]
def nD (j : Nat) : D := .int j
theorem fr_sh {b r : Nat} {cs : List (List Int)} {st : Sl} : kFr (dSheet b r cs) st = .ok (dSheet b r cs) st := by
  unfold kFr
  have : fzOk (dSheet b r cs) = true := rfl
  simp only [this]
def pick (js : List Nat) (c : List Int) : List Int := js.map fun j => c.getD j 0
theorem lot_ok {b r : Nat} {cs : List (List Int)} {js : List Nat} (h : ShOk b r cs) (hj : ∀ j ∈ js, j < r) (h1 : 1 ≤ js.length) (h4 : js.length ≤ 4) :
    ShOk b js.length (cs.map (pick js)) ∧ f_p__law_lot [.f (dSheet b r cs), .f (.lst (js.map nD))] = .ok (dSheet b js.length (cs.map (pick js))) [.n, .n] := by
  have ok : ShOk b js.length (cs.map (pick js)) := by
    refine ⟨h.b2, h.b12, h1, h4, by simpa using h.len, fun c m => ?_⟩
    obtain ⟨c0, m0, rfl⟩ := List.mem_map.mp m
    obtain ⟨l0, d0⟩ := h.cols c0 m0
    refine ⟨by simp [pick], fun d m => ?_⟩
    obtain ⟨j, mj, rfl⟩ := List.mem_map.mp m
    have jl : j < c0.length := by rw [l0]; exact hj j mj
    have e : c0.getD j 0 = c0[j] := by simp [jl]
    rw [e]
    exact d0 _ (List.getElem_mem jl)
  refine ⟨ok, ?_⟩
  rw [f_p__law_lot, runF_eq (by rfl)]
  have ini := sheet_init ok
  have inner : ∀ c ∈ cs, lcL [3] (tgN 3) mYes (eOp gIx [(.v 2), (.v 3)]) (js.map nD) [.f (dSheet b r cs), .f (.lst (js.map nD)), .f (dcol c), .n] = .ok ((js.map nD).map fun d => match d with | .int i => .int (c.getD i.toNat 0) | _ => .non) [.f (dSheet b r cs), .f (.lst (js.map nD)), .f (dcol c), .n] := fun c mc => by
    refine lcL_map _ fun d m => ?_
    obtain ⟨j, mj, rfl⟩ := List.mem_map.mp m
    have jl : j < c.length := by rw [(h.cols c mc).1]; exact hj j mj
    have ix : L2.atI (c.map D.int) (j : Int) = some (.int (c.getD j 0)) := by rw [atI_nat, List.getElem?_map, List.getElem?_eq_getElem jl]; simp [jl]
    simp -implicitDefEqProofs [-R.bind, dcol, nD] at ix ⊢; simp -implicitDefEqProofs [-R.bind, ix]
  have e2 : ∀ c, ((js.map nD).map fun d => match d with | .int i => D.int (c.getD i.toNat 0) | _ => .non) = (pick js c).map .int := fun c => by simp [pick, Function.comp_def, nD]
  have l3 : ∀ c, ((pick js c).map D.int).length < sizeLine := fun c => by simp [pick]; exact szl (by omega)
  have outer : lcL [2] (tgN 2) mYes (eOp gTuple [(.e (eFr (eLc [3] (itE (eV 1)) (tgN 3) mYes (eOp gIx [(.v 2), (.v 3)]))))]) (cs.map dcol) [.f (dSheet b r cs), .f (.lst (js.map nD)), .n, .n] = .ok ((cs.map dcol).map fun d => match d with | .tup ds => dcol (pick js (ds.map fun d => match d with | .int i => i | _ => 0)) | _ => .non) [.f (dSheet b r cs), .f (.lst (js.map nD)), .n, .n] := by
    refine lcL_map _ fun d m => ?_
    obtain ⟨c, mc, rfl⟩ := List.mem_map.mp m
    have i := inner c mc
    rw [e2] at i
    have ec : (c.map D.int).map (fun d => match d with | .int i => i | _ => 0) = c := by simp [Function.comp_def]
    simp only [dcol] at i ⊢
    simp -implicitDefEqProofs [-R.bind, -List.map_map, i, kLcB_eq (l3 c), ec]
  have e3 : ((cs.map dcol).map fun d => match d with | .tup ds => dcol (pick js (ds.map fun d => match d with | .int i => i | _ => 0)) | _ => .non) = (cs.map (pick js)).map dcol := by
    rw [List.map_map, List.map_map]
    refine List.map_congr_left fun c _ => ?_
    simp [dcol, Function.comp_def]
  rw [e3] at outer
  have l4 : ((cs.map (pick js)).map dcol).length < sizeLine := by simp; exact szl (by have := h.len; omega)
  simp -implicitDefEqProofs [-R.bind, -List.map_map, b_p__law_lot, outer, kLcB_eq l4, ini, fr_sh]
end K83
namespace K83
open PySem PySem.Spec PyProof.Rows L2 Ev
theorem erase_map {α β : Type} {f : α → β} : ∀ {l : List α} {k : Nat}, (l.map f).eraseIdx k = (l.eraseIdx k).map f
  | [], _ => rfl
  | _ :: _, 0 => rfl
  | x :: l, k + 1 => by simp [List.eraseIdx, erase_map]
theorem perm_erase {α : Type} : ∀ {l : List α} {k : Nat} {x : α}, l[k]? = some x → (x :: l.eraseIdx k).Perm l
  | [], k, x, h => by simp at h
  | y :: l, 0, x, h => by simp at h; subst h; exact .refl _
  | y :: l, k + 1, x, h => by
    have h' : l[k]? = some x := by simpa using h
    exact (List.Perm.swap y x _).trans ((perm_erase h').cons y)
theorem gPopAt_of {ds : List D} {d : D} {k : Nat} (h : ds[k]? = some d) (hl : k < 2 ^ 62) : gPopAt ds [.int k] = some (d, ds.eraseIdx k) := by
  unfold gPopAt
  simp only
  rw [if_pos ⟨by omega, by omega⟩, Int.toNat_natCast, h]
theorem mix_loop {xs : D} : ∀ (ds : List D) (pool out : List Nat) (g : Bag) (N : Nat) (c : Cell), pool.length = ds.length → out.length + pool.length < 5000 → BagOk N g → N + ds.length < 2 ^ 40 →
    ∃ (g' : Bag) (out' : List Nat) (c' : Cell), forL (tgN 2) (sDrop (eMut gAppend 4 [(eMut gPopAt 3 [(eCall f_p__law_take [(.mu 0), (.e (eOp gLen [(.v 3)]))])])])) ds [.o g.d, .f xs, c, .o (.lst (pool.map nD)), .o (.lst (out.map nD))] =
      .ok .nx [.o g'.d, .f xs, c', .o (.lst []), .o (.lst (out'.map nD))] ∧ BagOk (N + ds.length) g' ∧ out'.Perm (out ++ pool)
  | [], pool, out, g, N, c, hl, _, hg, _ => by
    have : pool = [] := List.eq_nil_of_length_eq_zero hl
    subst this
    exact ⟨g, out, c, rfl, hg, by simp⟩
  | d :: ds, pool, out, g, N, c, hl, hs, hg, hN => by
    simp only [List.length_cons] at hl hN
    obtain ⟨r, g1, r0, r1, hg1, e⟩ := take_ok (many := pool.length) hg (by omega) (by omega) (by omega)
    obtain ⟨k, rfl⟩ : ∃ k : Nat, r = k := ⟨r.toNat, by omega⟩
    have kl : k < pool.length := by omega
    obtain ⟨x, hx⟩ : ∃ x, pool[k]? = some x := ⟨pool[k], by simp [kl]⟩
    have px := perm_erase hx
    have len := px.length_eq
    simp only [List.length_cons] at len
    obtain ⟨g', out', c', e2, hg2, pm⟩ := mix_loop (xs := xs) ds (pool.eraseIdx k) (out ++ [x]) g1 (N + 1) (.f d) (by omega) (by simp; omega) hg1 (by omega)
    refine ⟨g', out', c', ?_, by rw [List.length_cons, show N + (ds.length + 1) = N + 1 + ds.length from by omega]; exact hg2, pm.trans ?_⟩
    · have gp : gPopAt (pool.map nD) [.int k] = some (nD x, (pool.eraseIdx k).map nD) := by
        rw [gPopAt_of (d := nD x) (by rw [List.getElem?_map, hx]; rfl) (by omega), erase_map]
      have ga : gAppend (out.map nD) [nD x] = some (.non, out.map nD ++ [nD x]) := gAppend_of (by simp; omega)
      rw [forL_nx (st' := [.o g1.d, .f xs, .f d, .o (.lst ((pool.eraseIdx k).map nD)), .o (.lst ((out ++ [x]).map nD))]) ?_, e2]
      simp -implicitDefEqProofs [-R.bind, e, gp, ga]
    · rw [List.append_assoc]
      exact List.Perm.append_left _ px
theorem mixed_ok {js : List Nat} {g : Bag} {N : Nat} (hs : js.length < 4000) (hg : BagOk N g) (hN : N + js.length < 2 ^ 40) :
    ∃ (g' : Bag) (js' : List Nat), BagOk (N + js.length) g' ∧ js'.Perm js ∧ f_p__law_mixed [.o g.d, .f (.lst (js.map nD))] = .ok (.lst (js'.map nD)) [.o g'.d, .n] := by
  have len : (rangeD 0 js.length).length = js.length := rangeD_len
  obtain ⟨g', js', c', e, hg', pm⟩ := mix_loop (xs := .lst (js.map nD)) (rangeD 0 js.length) js [] g N .n len.symm (by simp; omega) hg (by rw [len]; exact hN)
  rw [len] at hg'
  refine ⟨g', js', hg', by simpa using pm, ?_⟩
  rw [f_p__law_mixed, runF_eq (by rfl)]
  have k1 : ∀ st : Sl, kI1 (.int js.length) st = .ok (rangeD 0 js.length) st := fun st => kI1_nat (by omega)
  simp only [List.map_nil] at e
  simp -implicitDefEqProofs [-R.bind, b_p__law_mixed, k1, e]
end K83
namespace K83
open PySem PySem.Spec PyProof.Rows L2 Ev
def dRow (w : List Int) : D := .lst (w.map .int)
def colAt (rows : List (List Int)) (i : Nat) : List Int := rows.map fun w => w.getD i 0
def colsOf (rows : List (List Int)) (n : Nat) : List (List Int) := (List.range n).map (colAt rows)
theorem rangeD_nD {n : Nat} : rangeD 0 n = (List.range n).map nD := by
  unfold rangeD nD
  simp
theorem sheet_of_rows {b n : Nat} {rows : List (List Int)} (b2 : 2 ≤ b) (b12 : b ≤ 12) (h1 : 1 ≤ rows.length) (h4 : rows.length ≤ 4) (hn : n < 1000) (hr : ∀ w ∈ rows, w.length = n ∧ ∀ d ∈ w, 0 ≤ d ∧ d < (b : Int)) :
    ShOk b rows.length (colsOf rows n) ∧ f_p__law_sheet [.f (.int b), .f (.lst (rows.map dRow))] = .ok (dSheet b rows.length (colsOf rows n)) [.n, .n] := by
  have ok : ShOk b rows.length (colsOf rows n) := by
    refine ⟨b2, b12, h1, h4, by simpa [colsOf] using hn, fun c m => ?_⟩
    obtain ⟨i, mi, rfl⟩ := List.mem_map.mp m
    have il : i < n := List.mem_range.mp mi
    refine ⟨by simp [colAt], fun d m => ?_⟩
    obtain ⟨w, mw, rfl⟩ := List.mem_map.mp m
    obtain ⟨wl, wd⟩ := hr w mw
    have e : w.getD i 0 = w[i]'(by omega) := by simp [wl, il]
    rw [e]
    exact wd _ (List.getElem_mem _)
  refine ⟨ok, ?_⟩
  rw [f_p__law_sheet, runF_eq (by rfl)]
  have ini := sheet_init ok
  obtain ⟨w0, rest, er⟩ : ∃ w0 rest, rows = w0 :: rest := by
    cases rows with
    | nil => simp at h1
    | cons w r => exact ⟨w, r, rfl⟩
  have i0 : L2.atI (rows.map dRow) 0 = some (dRow w0) := by rw [er]; exact atI_0
  have l0 : (w0.map D.int).length = n := by rw [List.length_map]; exact (hr w0 (by rw [er]; exact List.mem_cons_self)).1
  have gl : gLen [dRow w0] = some (.int n) := by unfold dRow; rw [gLen_lst, l0]
  have k1 : ∀ st : Sl, kI1 (.int n) st = .ok (rangeD 0 n) st := fun st => kI1_nat (by omega)
  have inner : ∀ i, i < n → lcL [3] (tgN 3) mYes (eOp gIx [(.v 3), (.v 2)]) (rows.map dRow) [.f (.int b), .f (.lst (rows.map dRow)), .f (nD i), .n] = .ok ((rows.map dRow).map fun d => match d with | .lst ds => (match ds[i]? with | some d => d | none => .non) | _ => .non) [.f (.int b), .f (.lst (rows.map dRow)), .f (nD i), .n] := fun i il => by
    refine lcL_map _ fun d m => ?_
    obtain ⟨w, mw, rfl⟩ := List.mem_map.mp m
    have wl : i < w.length := by rw [(hr w mw).1]; exact il
    have ix : L2.atI (w.map D.int) (i : Int) = some (.int w[i]) := by rw [atI_nat, List.getElem?_map, List.getElem?_eq_getElem wl]; rfl
    have e2 : (w.map D.int)[i]? = some (.int w[i]) := by rw [List.getElem?_map, List.getElem?_eq_getElem wl]; rfl
    simp -implicitDefEqProofs [-R.bind, -List.getElem?_map, nD, dRow, ix, e2]
  have e2 : ∀ i, i < n → ((rows.map dRow).map fun d => match d with | .lst ds => (match ds[i]? with | some d => d | none => .non) | _ => D.non) = (colAt rows i).map .int := fun i il => by
    unfold colAt
    rw [List.map_map, List.map_map]
    refine List.map_congr_left fun w mw => ?_
    have wl : i < w.length := by rw [(hr w mw).1]; exact il
    simp [dRow, wl]
  have l3 : ∀ i, ((colAt rows i).map D.int).length < sizeLine := fun c => by simp [colAt]; exact szl (by omega)
  have outer : lcL [2] (tgN 2) mYes (eOp gTuple [(.e (eFr (eLc [3] (itE (eV 1)) (tgN 3) mYes (eOp gIx [(.v 3), (.v 2)]))))]) ((List.range n).map nD) [.f (.int b), .f (.lst (rows.map dRow)), .n, .n] = .ok (((List.range n).map nD).map fun d => match d with | .int i => dcol (colAt rows i.toNat) | _ => .non) [.f (.int b), .f (.lst (rows.map dRow)), .n, .n] := by
    refine lcL_map _ fun d m => ?_
    obtain ⟨i, mi, rfl⟩ := List.mem_map.mp m
    have il : i < n := List.mem_range.mp mi
    have inn := inner i il
    rw [e2 i il] at inn
    simp -implicitDefEqProofs [-R.bind, -List.map_map, inn, kLcB_eq (l3 i)]
    simp [nD, dcol]
  have e3 : (((List.range n).map nD).map fun d => match d with | .int i => dcol (colAt rows i.toNat) | _ => D.non) = (colsOf rows n).map dcol := by
    unfold colsOf
    rw [List.map_map, List.map_map]
    refine List.map_congr_left fun i _ => ?_
    simp [nD]
  rw [e3] at outer
  have l4 : ((colsOf rows n).map dcol).length < sizeLine := by simp [colsOf]; exact szl (by omega)
  simp -implicitDefEqProofs [-R.bind, -List.map_map, b_p__law_sheet, i0, gl, k1, rangeD_nD, outer, kLcB_eq l4, ini, fr_sh]
end K83
namespace K83
open PySem PySem.Spec PyProof.Rows L2 Ev
theorem valS_cons {b : Int} {c : List Int} {cs : List (List Int)} : valS b (c :: cs) = valS b cs * b + c.sum := rfl
theorem valF_cons {b l : Int} {d : Int} {ds : List Int} : valF b (d :: ds) l = valF b ds l * b + d := rfl
/-- adding rightly from a carry -/
theorem fold_right {b : Int} (hb : 0 < b) : ∀ (cs : List (List Int)) (n : Nat) (w : List Int) (y : Int),
    cs.foldl (fun a c => stepA b c .non a) ⟨n, w, y, none⟩ = ⟨n + cs.length, w ++ digs b (valS b cs + y) cs.length, (valS b cs + y) / b ^ cs.length, none⟩
  | [], n, w, y => by simp [digs, valS, valF]
  | c :: cs, n, w, y => by
    rw [List.foldl_cons]
    show cs.foldl _ (Ad.mk (n + 1) (w ++ [(c.sum + y) % b]) ((c.sum + y) / b) none) = _
    rw [fold_right hb cs]
    have e1 : (valS b (c :: cs) + y) % b = (c.sum + y) % b := by
      rw [valS_cons, Int.add_assoc, Int.add_comm, Int.add_mul_emod_self_right]
    have e2 : (valS b (c :: cs) + y) / b = valS b cs + (c.sum + y) / b := by
      rw [valS_cons, Int.add_assoc, Int.add_comm, Int.add_mul_ediv_right _ _ (by omega), Int.add_comm]
    have e3 : (valS b (c :: cs) + y) / b ^ (cs.length + 1) = (valS b cs + (c.sum + y) / b) / b ^ cs.length := by
      rw [Int.pow_succ, Int.mul_comm, ← Int.ediv_ediv_of_nonneg (by omega), e2]
    simp only [List.length_cons, digs, e1, e2, e3]
    congr 1
    · omega
    · simp
theorem endA_right {b : Int} (hb : 0 < b) {cs : List (List Int)} : endA b cs A0 = ⟨cs.length, digs b (valS b cs) cs.length, valS b cs / b ^ cs.length, none⟩ := by
  unfold endA runA A0
  simp only [List.drop_zero, Nat.sub_zero, List.take_length]
  rw [fold_right hb]
  simp
theorem add_right' {b r : Nat} {cs : List (List Int)} (h : ShOk b r cs) : f_p_add_right [.f (dSheet b r cs)] = .ok (dWr b (digs b (valS b cs) cs.length) (valS b cs / b ^ cs.length)) [.n] := by
  rw [add_right h, endA_right (by have := h.b2; omega)]
theorem digs_add {b : Int} (hb : 0 < b) : ∀ (n m : Nat) (v : Int), digs b v (n + m) = digs b v n ++ digs b (v / b ^ n) m
  | 0, m, v => by simp [digs]
  | n + 1, m, v => by
    rw [show n + 1 + m = (n + m) + 1 from by omega, digs, digs_add hb n m, digs, Int.pow_succ, Int.mul_comm, ← Int.ediv_ediv_of_nonneg (by omega)]
    rfl
theorem digs_val {b : Int} (hb : 0 < b) : ∀ (n : Nat) (v l : Int), valF b (digs b v n) l = v % b ^ n + l * b ^ n
  | 0, v, l => by simp [digs, valF, Int.emod_one]
  | n + 1, v, l => by
    rw [digs, valF_cons, digs_val hb n]
    have h1 : v % b ^ (n + 1) = v / b % b ^ n * b + v % b := by
      have a1 := Int.emod_add_mul_ediv v b
      have a2 := Int.emod_add_mul_ediv (v / b) (b ^ n)
      have p : 0 < b ^ n := Int.pow_pos hb
      have r1 := Int.emod_nonneg v (show b ≠ 0 by omega)
      have r2 := Int.emod_lt_of_pos v hb
      have r3 := Int.emod_nonneg (v / b) (show b ^ n ≠ 0 by omega)
      have r4 := Int.emod_lt_of_pos (v / b) p
      have e : v = (v / b % b ^ n * b + v % b) + b ^ (n + 1) * (v / b / b ^ n) := by
        generalize v / b / b ^ n = q at *
        generalize v / b % b ^ n = t at *
        rw [← a2] at a1
        rw [Int.pow_succ]
        have : b * (t + b ^ n * q) = t * b + b ^ n * b * q := by
          rw [Int.mul_add, Int.mul_comm b t, ← Int.mul_assoc, Int.mul_comm b (b ^ n)]
        omega
      have lt : v / b % b ^ n * b + v % b < b ^ (n + 1) := by
        rw [Int.pow_succ]
        have : (v / b % b ^ n + 1) * b ≤ b ^ n * b := Int.mul_le_mul_of_nonneg_right (by omega) (by omega)
        rw [Int.add_mul, Int.one_mul] at this
        omega
      have ge : 0 ≤ v / b % b ^ n * b + v % b := Int.add_nonneg (Int.mul_nonneg r3 (by omega)) r1
      conv => lhs; rw [e]
      rw [Int.add_mul_emod_self_left, Int.emod_eq_of_lt ge lt]
    rw [h1, Int.pow_succ, Int.add_mul, Int.mul_assoc]
    omega
theorem digs_dig {b : Int} (hb : 0 < b) : ∀ {n : Nat} {v d : Int}, d ∈ digs b v n → 0 ≤ d ∧ d < b
  | n + 1, v, d, m => by
    rw [digs] at m
    rcases List.mem_cons.mp m with e | m
    · subst e; exact ⟨Int.emod_nonneg _ (by omega), Int.emod_lt_of_pos _ hb⟩
    · exact digs_dig hb m
theorem row_digs {b : Int} (hb : 0 < b) {v : Int} {n m : Nat} (h : n ≤ m) : rowOf b (digs b v n) (v / b ^ n) m = digs b v m := by
  unfold rowOf
  rw [digs_len, ← digs_add hb, Nat.add_sub_cancel' h]
end K83
namespace K83
open PySem PySem.Spec PyProof.Rows L2 Ev
theorem valF_add {α : Type} {b : Int} {f g : α → Int} : ∀ (l : List α), valF b (l.map fun i => f i + g i) 0 = valF b (l.map f) 0 + valF b (l.map g) 0
  | [] => rfl
  | x :: l => by
    rw [List.map_cons, List.map_cons, List.map_cons, valF_cons, valF_cons, valF_cons, valF_add l, Int.add_mul]
    omega
theorem valF_zero {α : Type} {b : Int} : ∀ (l : List α), valF b (l.map fun _ => 0) 0 = 0
  | [] => rfl
  | x :: l => by rw [List.map_cons, valF_cons, valF_zero l]; simp
theorem range_getD {w : List Int} {n : Nat} (h : w.length = n) : (List.range n).map (fun i => w.getD i 0) = w := by
  subst h
  apply List.ext_getElem
  · simp
  · intro i h1 h2
    simp [h2]
theorem valS_cols {b : Int} {n : Nat} : ∀ {rows : List (List Int)}, (∀ w ∈ rows, w.length = n) → valS b (colsOf rows n) = (rows.map fun w => valF b w 0).sum
  | [], _ => by
    unfold valS colsOf
    rw [List.map_map]
    exact valF_zero _
  | w :: rows, h => by
    have ih := valS_cols (b := b) (rows := rows) fun v m => h v (List.mem_cons_of_mem _ m)
    rw [List.map_cons, List.sum_cons, ← ih]
    unfold valS colsOf
    rw [List.map_map, List.map_map]
    have e : (List.sum ∘ colAt (w :: rows)) = fun i => w.getD i 0 + (List.sum ∘ colAt rows) i := by
      funext i; simp [colAt]
    rw [e, valF_add, range_getD (h w List.mem_cons_self)]
theorem sum_bound {b : Int} : ∀ {c : List Int}, (∀ d ∈ c, 0 ≤ d ∧ d < b) → 0 ≤ c.sum ∧ c.sum ≤ c.length * (b - 1)
  | [], _ => by simp
  | d :: c, h => by
    obtain ⟨h1, h2⟩ := sum_bound (b := b) fun e m => h e (List.mem_cons_of_mem _ m)
    obtain ⟨h3, h4⟩ := h d List.mem_cons_self
    rw [List.sum_cons, List.length_cons, Int.natCast_add, Int.add_mul]
    simp
    omega
theorem val_bound {b : Nat} {r : Nat} (hb : 1 ≤ b) : ∀ {cs : List (List Int)}, (∀ c ∈ cs, ColOk b r c) → 0 ≤ valS b cs ∧ valS b cs ≤ r * ((b : Int) ^ cs.length - 1)
  | [], _ => by simp [valS, valF]
  | c :: cs, h => by
    obtain ⟨h1, h2⟩ := val_bound hb fun e m => h e (List.mem_cons_of_mem _ m)
    obtain ⟨l, hd⟩ := h c List.mem_cons_self
    obtain ⟨s1, s2⟩ := sum_bound hd
    rw [l] at s2
    rw [valS_cons, List.length_cons, Int.pow_succ]
    refine ⟨Int.add_nonneg (Int.mul_nonneg h1 (by omega)) s1, ?_⟩
    have m := Int.mul_le_mul_of_nonneg_right h2 (show (0 : Int) ≤ b by omega)
    have e : (r : Int) * ((b : Int) ^ cs.length * b - 1) = r * ((b : Int) ^ cs.length - 1) * b + r * (b - 1) := by
      rw [Int.mul_sub, Int.mul_sub, Int.mul_sub, Int.sub_mul, Int.mul_assoc, Int.mul_one]; omega
    omega
/-- four rows' sum has at most two figures more -/
theorem val_lt {b r : Nat} {cs : List (List Int)} (h : ShOk b r cs) {m : Nat} (hm : cs.length + 2 ≤ m) : 0 ≤ valS b cs ∧ valS b cs < (b : Int) ^ m := by
  have hb := h.b2
  obtain ⟨h1, h2⟩ := val_bound (r := r) (by omega : 1 ≤ b) h.cols
  refine ⟨h1, ?_⟩
  obtain ⟨k, rfl⟩ : ∃ k, m = cs.length + 2 + k := ⟨m - (cs.length + 2), by omega⟩
  have p : (0 : Int) < (b : Int) ^ cs.length := Int.pow_pos (by omega)
  have q : (4 : Int) ≤ (b : Int) ^ 2 := by
    have : (2 : Int) * 2 ≤ (b : Int) * b := Int.mul_le_mul (by omega) (by omega) (by omega) (by omega)
    rw [Int.pow_succ, Int.pow_succ, Int.pow_zero, Int.one_mul]; omega
  have k1 : (1 : Int) ≤ (b : Int) ^ k := by have : (0 : Int) < (b : Int) ^ k := Int.pow_pos (by omega); omega
  have a1 : (b : Int) ^ cs.length * 4 ≤ (b : Int) ^ cs.length * (b : Int) ^ 2 := Int.mul_le_mul_of_nonneg_left q (by omega)
  have a2 : (b : Int) ^ cs.length * (b : Int) ^ 2 * 1 ≤ (b : Int) ^ cs.length * (b : Int) ^ 2 * (b : Int) ^ k := Int.mul_le_mul_of_nonneg_left k1 (Int.mul_nonneg (by omega) (by omega))
  have a3 : (r : Int) * ((b : Int) ^ cs.length - 1) ≤ 4 * ((b : Int) ^ cs.length - 1) := Int.mul_le_mul_of_nonneg_right (by have := h.r4; omega) (by omega)
  rw [Int.pow_add, Int.pow_add]
  omega
/-- what a sum's figures are worth -/
theorem digs_all {b : Int} (hb : 0 < b) {v : Int} {n : Nat} : valF b (digs b v n) (v / b ^ n) = v := by
  rw [digs_val hb]
  have := Int.emod_add_mul_ediv v (b ^ n)
  rw [Int.mul_comm] at this
  exact this
theorem digs_small {b : Int} (hb : 0 < b) {v : Int} {n : Nat} (h0 : 0 ≤ v) (h1 : v < b ^ n) : valF b (digs b v n) 0 = v := by
  rw [digs_val hb, Int.emod_eq_of_lt h0 h1]; simp
end K83
namespace Ev
open PySem PySem.Spec PyProof.Rows L2
def kI (d : D) (st : Sl) : R (Option Int) := match d with
  | .int i => .ok (some i) st
  | _ => .bad
@[simp] theorem kI_int {i : Int} {st : Sl} : kI (.int i) st = .ok (some i) st := rfl
@[simp] theorem evI_none {st : Sl} : evI none st = .ok none st := rfl
@[simp] theorem evI_some {m : E} {st : Sl} : evI (some m) st = (m st).bind kI := rfl
def kSc3 (g : D → Option Int → Option Int → Option D) (d : D) (l h : Option Int) (st : Sl) : R D := kRes st (g d l h)
@[simp] theorem kSc3_eq {g : D → Option Int → Option Int → Option D} {d : D} {l h : Option Int} {st : Sl} : kSc3 g d l h st = kRes st (g d l h) := rfl
def kSc2 (g : D → Option Int → Option Int → Option D) (hi : Option E) (d : D) (l : Option Int) (st : Sl) : R D := (evI hi st).bind (kSc3 g d l)
@[simp] theorem kSc2_eq {g : D → Option Int → Option Int → Option D} {hi : Option E} {d : D} {l : Option Int} {st : Sl} : kSc2 g hi d l st = (evI hi st).bind (kSc3 g d l) := rfl
def kSc1 (g : D → Option Int → Option Int → Option D) (lo hi : Option E) (d : D) (st : Sl) : R D := (evI lo st).bind (kSc2 g hi d)
@[simp] theorem kSc1_eq {g : D → Option Int → Option Int → Option D} {lo hi : Option E} {d : D} {st : Sl} : kSc1 g lo hi d st = (evI lo st).bind (kSc2 g hi d) := rfl
@[simp] theorem eSl_eq {g : D → Option Int → Option Int → Option D} {m : E} {lo hi : Option E} {st : Sl} : eSl g m lo hi st = (m st).bind (kSc1 g lo hi) := by
  unfold eSl
  cases m st with
  | bad => rfl
  | exc a b s => rfl
  | ok d st1 =>
    show (evI lo st1).bind _ = (evI lo st1).bind _
    cases evI lo st1 with
    | bad => rfl
    | exc a b s => rfl
    | ok l st2 =>
      show (evI hi st2).bind _ = (evI hi st2).bind _
      cases evI hi st2 with
      | bad => rfl
      | exc a b s => rfl
      | ok h st3 => show (match g d l h with | some d => R.ok d st3 | none => .bad) = kRes st3 (g d l h); cases g d l h <;> rfl
theorem gSl_take {ds : List D} {n : Nat} : gSl (.lst ds) none (some (n : Int)) = some (.lst (ds.take n)) := by
  show some (D.lst (cutD ds none (some (n : Int)))) = _
  unfold cutD
  rw [HT.sIx_none, HT.sIx_nat]
  simp [Nat.min_comm]
theorem gSl_drop {ds : List D} {n : Nat} : gSl (.lst ds) (some (n : Int)) none = some (.lst (ds.drop n)) := by
  show some (D.lst (cutD ds (some (n : Int)) none)) = _
  unfold cutD
  rw [HT.sIx_none, HT.sIx_nat]
  rcases Nat.le_total n ds.length with h | h
  · rw [Nat.min_eq_left h, List.take_of_length_le (by simp)]
  · rw [Nat.min_eq_right h, List.drop_eq_nil_of_le h, List.drop_eq_nil_of_le (Nat.le_refl _)]; simp
def kOF (g : List D → Option D) (ds : List D) (st : Sl) : R D := kRes st (g ds)
@[simp] theorem kOF_eq {g : List D → Option D} {ds : List D} {st : Sl} : kOF g ds st = kRes st (g ds) := rfl
@[simp] theorem eOpF_eq {g : List D → Option D} {ms : List E} {st : Sl} : eOpF g ms st = (evAll ms st).bind (kOF g) := by
  unfold eOpF
  cases evAll ms st with
  | bad => rfl
  | exc a b s => rfl
  | ok ds st1 => show (match g ds with | some d => R.ok d st1 | none => .bad) = kRes st1 (g ds); cases g ds <;> rfl
theorem gDun_of {tag : List D → Bool} {mf : MF} {ds : List D} {d : D} {cs : List Cell} (h : tag ds = true) (h2 : mf (ds.map .f) = .ok d cs) : gDun tag mf ds = some d := by
  unfold gDun
  simp only [h, h2]
theorem gLenO_of {c : Str} {mf : MF} {d : D} {n : Nat} {cs : List Cell} (h : isO c d = true) (h2 : mf [.f d] = .ok (.int n) cs) (hn : n < 2 ^ 60) : gLenO c mf [d] = some (.int n) := by
  unfold gLenO
  rw [gDun_of (d := .int n) (cs := cs) h h2]
  simp only
  rw [if_pos ⟨by omega, by omega⟩]
end Ev
namespace K83
open PySem PySem.Spec PyProof.Rows L2 Ev
theorem isO_sh {b r : Nat} {cs : List (List Int)} : isO "Sheet" (dSheet b r cs) = true := by
  show (("Sheet" : Str) == "Sheet") = true
  simp
theorem len_sh {b r : Nat} {cs : List (List Int)} (h : cs.length < 1000) : gLenO "Sheet" f_m_Sheet_zlenz [dSheet b r cs] = some (.int cs.length) := gLenO_of isO_sh sh_len (by omega)
theorem is_sum_ok {b r r2 n : Nat} {cs cs2 : List (List Int)} (h : ShOk b r cs) (h2 : ShOk b r2 cs2) (hl : cs2.length = cs.length + 3) (hv : valS b cs2 = valS b cs) :
    f_p__law_is_sum [.f (dSheet b r cs), .f (dWr b (digs b (valS b cs) cs.length) (valS b cs / (b : Int) ^ cs.length)), .f (dSheet b r2 cs2)] = .ok (.bl true) [.n, .n, .n] := by
  have hb : 0 < (b : Int) := by have := h.b2; omega
  have hb2 := h.b12
  rw [f_p__law_is_sum, runF_eq (by rfl)]
  have ar := add_right' h2
  rw [hv, hl] at ar
  generalize hV : valS b cs = V at *
  have v1 := sh_value (b := b) (r := r) (cs := cs) hb2
  have v2 := sh_value (b := b) (r := r2) (cs := cs2) hb2
  rw [hV] at v1
  rw [hv] at v2
  have w1 : f_m_Written_value [.f (dWr b (digs b V cs.length) (V / (b : Int) ^ cs.length))] = .ok (.int V) [.n] := by rw [wr_value hb2, digs_all hb]
  have w2 : f_m_Written_value [.f (dWr b (digs b V (cs.length + 3)) (V / (b : Int) ^ (cs.length + 3)))] = .ok (.int V) [.n] := by rw [wr_value hb2, digs_all hb]
  have ln := len_sh (b := b) (r := r) h.len
  have dd : digs b V (cs.length + 3) = digs b V cs.length ++ digs b (V / (b : Int) ^ cs.length) 3 := digs_add hb _ _ _
  have t1 : gSl (.lst ((digs b V (cs.length + 3)).map .int)) none (some (cs.length : Int)) = some (.lst ((digs b V cs.length).map .int)) := by
    rw [gSl_take, ← List.map_take, dd, List.take_left' digs_len]
  have t2 : gSl (.lst ((digs b V (cs.length + 3)).map .int)) (some (cs.length : Int)) none = some (.lst ((digs b (V / (b : Int) ^ cs.length) 3).map .int)) := by
    rw [gSl_drop, ← List.map_drop, dd, List.drop_left' digs_len]
  have ne : gNe [.lst ((digs b V cs.length).map .int), .lst ((digs b V cs.length).map .int)] = some (.bl false) := by rw [gNe_ints]; simp
  have pw : (V / (b : Int) ^ (cs.length + 3)) = V / (b : Int) ^ cs.length / (b : Int) ^ 3 := by rw [Int.pow_add, Int.ediv_ediv_of_nonneg (Int.le_of_lt (Int.pow_pos hb))]
  have key : ∀ (ds : List Int) (v : Int) (A B C X Y Z : Cell), X = .f (dWr b (digs b V (cs.length + 3)) (V / (b : Int) ^ (cs.length + 3))) → A = .f (dSheet b r cs) → ∃ c', forL (tgN 4) (sSet 3 (eOp gAdd [(.e (eOp gMul [(.v 3), (.e (eProp "Sheet" f_m_Sheet_base (.e (eV 0))))])), (.v 4)])) (ds.map .int) [A, B, C, .f (.int v), Z, X, Y] =
      .ok .nx [A, B, C, .f (.int (ds.foldl (fun v d => v * b + d) v)), c', X, Y] := by
    intro ds
    induction ds with
    | nil => intro v A B C X Y Z _ _; exact ⟨Z, rfl⟩
    | cons d ds ih =>
      intro v A B C X Y Z hX hA
      obtain ⟨c', e⟩ := ih (v * b + d) A B C X Y (.f (.int d)) hX hA
      refine ⟨c', ?_⟩
      rw [List.map_cons, forL_nx (st' := [A, B, C, .f (.int (v * b + d)), .f (.int d), X, Y]) (by subst hA; simp -implicitDefEqProofs [-R.bind, gMul_b hb2]), e]
      rfl
  obtain ⟨c', e⟩ := key (digs b (V / (b : Int) ^ cs.length) 3).reverse (V / (b : Int) ^ (cs.length + 3)) (.f (dSheet b r cs)) (.f (dWr b (digs b V cs.length) (V / (b : Int) ^ cs.length))) (.f (dSheet b r2 cs2)) _ (.f (.int cs.length)) .n rfl rfl
  rw [List.foldl_reverse, List.map_reverse] at e
  have ev : (digs b (V / (b : Int) ^ cs.length) 3).foldr (fun d v => v * (b : Int) + d) (V / (b : Int) ^ (cs.length + 3)) = V / (b : Int) ^ cs.length := by
    rw [pw]; exact digs_all hb
  rw [ev] at e
  simp -implicitDefEqProofs [-R.bind, -List.map_take, -List.map_drop, b_p__law_is_sum, ar, ln, v1, v2, w1, w2, t1, t2, ne, e]
end K83
namespace K83
open PySem PySem.Spec PyProof.Rows L2 Ev
/-- what the row j is worth -/
def rowV (b : Int) (cs : List (List Int)) (j : Nat) : Int := valF b (cs.map fun c => c.getD j 0) 0
theorem valS_pick {b : Int} {cs : List (List Int)} : ∀ {js : List Nat}, valS b (cs.map (pick js)) = (js.map (rowV b cs)).sum
  | [] => by
    unfold valS
    rw [List.map_map]
    exact valF_zero _
  | j :: js => by
    rw [List.map_cons, List.sum_cons, ← valS_pick (js := js)]
    unfold valS rowV
    rw [List.map_map, List.map_map]
    have e : (List.sum ∘ pick (j :: js)) = fun c => c.getD j 0 + (List.sum ∘ pick js) c := by
      funext c; simp [pick]
    rw [e, valF_add]
theorem pick_range {b r : Nat} {cs : List (List Int)} (h : ∀ c ∈ cs, ColOk b r c) : cs.map (pick (List.range r)) = cs := by
  conv => rhs; rw [← List.map_id cs]
  refine List.map_congr_left fun c m => ?_
  exact range_getD (h c m).1
theorem valS_rows {b r : Nat} {cs : List (List Int)} (h : ∀ c ∈ cs, ColOk b r c) : valS b cs = ((List.range r).map (rowV b cs)).sum := by
  rw [← valS_pick, pick_range h]
theorem perm_sum {l m : List Int} (p : l.Perm m) : l.sum = m.sum := by
  induction p with
  | nil => rfl
  | cons x _ ih => rw [List.sum_cons, List.sum_cons, ih]
  | swap x y l => simp only [List.sum_cons]; omega
  | trans _ _ h1 h2 => exact h1.trans h2
/-- all rows, in any order -/
theorem valS_perm {b r : Nat} {cs : List (List Int)} {js : List Nat} (h : ∀ c ∈ cs, ColOk b r c) (p : js.Perm (List.range r)) : valS b (cs.map (pick js)) = valS b cs := by
  rw [valS_pick, valS_rows h]
  exact perm_sum (p.map _)
/-- a lot's written row -/
theorem lot_row {b r : Nat} {cs : List (List Int)} {js : List Nat} (h : ShOk b r cs) (hj : ∀ j ∈ js, j < r) (h1 : 1 ≤ js.length) (h4 : js.length ≤ 4) {v : Int} (hv : v = valS b (cs.map (pick js))) :
    f_p__law_lot [.f (dSheet b r cs), .f (.lst (js.map nD))] = .ok (dSheet b js.length (cs.map (pick js))) [.n, .n] ∧
    f_p_add_right [.f (dSheet b js.length (cs.map (pick js)))] = .ok (dWr b (digs b v cs.length) (v / (b : Int) ^ cs.length)) [.n] ∧
    f_p__law_row [.f (dWr b (digs b v cs.length) (v / (b : Int) ^ cs.length)), .f (.int ((cs.length + 3 : Nat) : Int))] = .ok (dRow (digs b v (cs.length + 3))) [.n, .n] ∧
    valF b (digs b v (cs.length + 3)) 0 = v := by
  obtain ⟨ok, e⟩ := lot_ok h hj h1 h4
  have hb : 0 < (b : Int) := by have := h.b2; omega
  have a := add_right' ok
  rw [List.length_map, ← hv] at a
  have len := h.len
  have ro := row_ok (b := b) (w := digs b v cs.length) (l := v / (b : Int) ^ cs.length) (n := cs.length + 3) h.b2 h.b12 (by omega) (by rw [digs_len]; omega)
  rw [row_digs hb (by omega)] at ro
  obtain ⟨v0, v1⟩ := val_lt ok (m := cs.length + 3) (by rw [List.length_map]; omega)
  rw [← hv] at v0 v1
  exact ⟨e, a, ro, digs_small hb v0 v1⟩
/-- the sheet of two lots' rows -/
theorem two_rows {b r : Nat} {cs : List (List Int)} {js1 js2 : List Nat} (h : ShOk b r cs) (p : (js1 ++ js2).Perm (List.range r)) {v1 v2 : Int} (e1 : v1 = valS b (cs.map (pick js1))) (e2 : v2 = valS b (cs.map (pick js2)))
    (f1 : valF b (digs b v1 (cs.length + 3)) 0 = v1) (f2 : valF b (digs b v2 (cs.length + 3)) 0 = v2) (hl : cs.length < 900) :
    ShOk b 2 (colsOf [digs b v1 (cs.length + 3), digs b v2 (cs.length + 3)] (cs.length + 3)) ∧ valS b (colsOf [digs b v1 (cs.length + 3), digs b v2 (cs.length + 3)] (cs.length + 3)) = valS b cs ∧
    f_p__law_sheet [.f (.int b), .f (.lst [dRow (digs b v1 (cs.length + 3)), dRow (digs b v2 (cs.length + 3))])] = .ok (dSheet b 2 (colsOf [digs b v1 (cs.length + 3), digs b v2 (cs.length + 3)] (cs.length + 3))) [.n, .n] := by
  have hb : 0 < (b : Int) := by have := h.b2; omega
  have hr : ∀ w ∈ [digs b v1 (cs.length + 3), digs b v2 (cs.length + 3)], w.length = cs.length + 3 ∧ ∀ d ∈ w, 0 ≤ d ∧ d < (b : Int) := fun w m => by
    simp only [List.mem_cons, List.not_mem_nil, or_false] at m
    rcases m with rfl | rfl <;> exact ⟨digs_len, fun d m => digs_dig hb m⟩
  obtain ⟨ok, e⟩ := sheet_of_rows (n := cs.length + 3) h.b2 h.b12 (rows := [digs b v1 (cs.length + 3), digs b v2 (cs.length + 3)]) (by simp) (by simp) (by omega) hr
  refine ⟨ok, ?_, e⟩
  rw [valS_cols fun w m => (hr w m).1]
  have : (List.map (fun w => valF (↑b) w 0) [digs (↑b) v1 (cs.length + 3), digs (↑b) v2 (cs.length + 3)]).sum = v1 + v2 := by
    simp [f1, f2]
  rw [this, e1, e2, valS_pick, valS_pick, ← List.sum_append, ← List.map_append, ← valS_pick]
  exact valS_perm h.cols p
end K83
namespace K83
open PySem PySem.Spec PyProof.Rows L2 Ev
theorem isO_wr {b : Nat} {w : List Int} {l : Int} : isO "Written" (dWr b w l) = true := by
  show (("Written" : Str) == "Written") = true
  simp
theorem gEq_wr {b l : Int} {w : List Int} : gEq [.tup [.int b, .lst (w.map .int), .int l], .tup [.int b, .lst (w.map .int), .int l]] = some (.bl true) := by
  unfold gEq
  simp only [toP, toPs, toPs_ints, Option.map_some]
  simp [SeqAt.shaped, PyData.canLay0, PyData.canLayAll0, PyData.depth, PyData.depthAll, PyData.eqv, PyData.eqvAll, lay_ints, depth_ints, eqv_ints]
theorem wr_eq {b : Nat} {w : List Int} {l : Int} : f_m_Written_zeqz [.f (dWr b w l), .f (dWr b w l)] = .ok (.bl true) [.n, .n] := by
  rw [f_m_Written_zeqz, runF_eq (by rfl)]
  have c : gIsC "Written" [dWr b w l] = some (.bl true) := by
    unfold gIsC
    simp only [isO_wr, if_true]
  simp -implicitDefEqProofs [-R.bind, b_m_Written_zeqz, c, gEq_wr]
theorem gEqW {b : Nat} {w : List Int} {l : Int} : gDun (tag2 "Written" "Written") f_m_Written_zeqz [dWr b w l, dWr b w l] = some (.bl true) :=
  gDun_of (by show (isO "Written" (dWr b w l) && isO "Written" (dWr b w l)) = true; rw [isO_wr]; rfl) wr_eq
theorem gNeW {b : Nat} {w : List Int} {l : Int} : gNeO "Written" f_m_Written_zeqz [dWr b w l, dWr b w l] = some (.bl false) := by
  unfold gNeO
  rw [show gDun (tag2 "Written" "Written") f_m_Written_zeqz [dWr b w l, dWr b w l] = some (.bl true) from gEqW]
  rfl
/-- written less the sheet -/
theorem sub_ok {b b2 r : Nat} {w : List Int} {l : Int} {cs : List (List Int)} (h : b ≤ 12) (h2 : b2 ≤ 12) : f_m_Written_zsubz [.f (dWr b w l), .f (dSheet b2 r cs)] = .ok (.int (valF b w l - valS b2 cs)) [.n, .n] := by
  rw [f_m_Written_zsubz, runF_eq (by rfl)]
  have e1 := wr_value (b := b) (w := w) (l := l) h
  have e2 := sh_value (b := b2) (r := r) (cs := cs) h2
  simp -implicitDefEqProofs [-R.bind, b_m_Written_zsubz, e1, e2]
theorem gSubW {b b2 r : Nat} {w : List Int} {l : Int} {cs : List (List Int)} (h : b ≤ 12) (h2 : b2 ≤ 12) : gDun (tag2 "Written" "Sheet") f_m_Written_zsubz [dWr b w l, dSheet b2 r cs] = some (.int (valF b w l - valS b2 cs)) :=
  gDun_of (by show (isO "Written" (dWr b w l) && isO "Sheet" (dSheet b2 r cs)) = true; rw [isO_wr, isO_sh]; rfl) (sub_ok h h2)
theorem valS_zero {b : Int} {cs : List (List Int)} : valS b (cs.map fun c => c ++ [0]) = valS b cs := by
  unfold valS
  rw [List.map_map]
  congr 1
  refine List.map_congr_left fun c _ => ?_
  simp
/-- a row of zeros more -/
theorem zeros_ok {b r : Nat} {cs : List (List Int)} (h : ShOk b r cs) : f_p__law_zeros_right [.f (dSheet b r cs), .f (dWr b (digs b (valS b cs) cs.length) (valS b cs / (b : Int) ^ cs.length))] = .ok (.bl true) [.n, .n] := by
  rw [f_p__law_zeros_right, runF_eq (by rfl)]
  have r4 := h.r4
  by_cases e4 : r = 4
  · subst e4
    simp -implicitDefEqProofs [-R.bind, b_p__law_zeros_right]
  · have ok : ShOk b (r + 1) (cs.map fun c => c ++ [0]) := by
      refine ⟨h.b2, h.b12, by omega, by omega, by simpa using h.len, fun c m => ?_⟩
      obtain ⟨c0, m0, rfl⟩ := List.mem_map.mp m
      obtain ⟨l0, d0⟩ := h.cols c0 m0
      refine ⟨by simp [l0], fun d m => ?_⟩
      rcases List.mem_append.mp m with m | m
      · exact d0 d m
      · simp at m; subst m; have := h.b2; omega
    have ini := sheet_init ok
    have ar := add_right' ok
    rw [valS_zero, List.length_map] at ar
    have ne : ((r : Int) == 4) = false := beq_eq_false_iff_ne.mpr (by omega)
    have e : lcL [2] (tgN 2) mYes (eOp gAdd [(.v 2), (.e (eTup [(eC (.int 0))]))]) (cs.map dcol) [.f (dSheet b r cs), .f (dWr b (digs b (valS b cs) cs.length) (valS b cs / (b : Int) ^ cs.length)), .n] = .ok ((cs.map dcol).map fun d => match d with | .tup ds => .tup (ds ++ [.int 0]) | _ => .non) [.f (dSheet b r cs), .f (dWr b (digs b (valS b cs) cs.length) (valS b cs / (b : Int) ^ cs.length)), .n] := by
      refine lcL_map _ fun d m => ?_
      obtain ⟨c, mc, rfl⟩ := List.mem_map.mp m
      have g : gAdd [.tup (c.map .int), .tup [.int 0]] = some (.tup (c.map .int ++ [.int 0])) := gAdd_tup (by simp; rw [(h.cols c mc).1]; exact Nat.le_of_lt (szl (by omega)))
      simp -implicitDefEqProofs [-R.bind, dcol, g]
    have e3 : ((cs.map dcol).map fun d => match d with | .tup ds => D.tup (ds ++ [.int 0]) | _ => .non) = (cs.map fun c => c ++ [0]).map dcol := by
      rw [List.map_map, List.map_map]
      refine List.map_congr_left fun c _ => ?_
      simp [dcol]
    rw [e3] at e
    have l4 : ((cs.map fun c => c ++ [0]).map dcol).length < sizeLine := by simp; exact szl (by have := h.len; omega)
    have rc : ((r + 1 : Nat) : Int) = (r : Int) + 1 := by omega
    rw [rc] at ini
    simp -implicitDefEqProofs [-R.bind, -List.map_map, b_p__law_zeros_right, ne, e, kLcB_eq l4, ini, fr_sh, ar, gEqW]
end K83
namespace K83
open PySem PySem.Spec PyProof.Rows L2 Ev
def kEn (d : D) (st : Sl) : R (List D) := match d with
  | .lst ds => .ok (enumD ds) st
  | _ => .bad
@[simp] theorem itEn_eq {m : E} {st : Sl} : itEn m st = (m st).bind kEn := rfl
@[simp] theorem kEn_lst {ds : List D} {st : Sl} : kEn (.lst ds) st = .ok (enumD ds) st := rfl
def Deed.Ok (b : Nat) : Deed → Prop
  | .non => False
  | .off k => 1 ≤ k ∧ k < b
  | _ => True
theorem gSl_tup1 {x : D} {xs : List D} : gSl (.tup (x :: xs)) (some 1) none = some (.tup xs) := by
  show some (D.tup (Ev.cutD (x :: xs) (some ((1 : Nat) : Int)) none)) = _
  unfold Ev.cutD
  rw [HT.sIx_none, HT.sIx_nat]
  have : min 1 (x :: xs).length = 1 := by simp
  rw [this, List.drop_succ_cons, List.drop_zero, List.take_of_length_le (by simp)]
theorem inP_off : gIn false [.str "off", .tup ((["forget", "again", "swap", "out", "twice"] : List PySem.Str).map .str)] = some (.bl false) := rfl
theorem inP_swap : gIn false [.str "swap", .tup ((["forget", "again", "swap", "out", "twice"] : List PySem.Str).map .str)] = some (.bl true) := rfl
theorem inP_again : gIn false [.str "again", .tup ((["forget", "again", "swap", "out", "twice"] : List PySem.Str).map .str)] = some (.bl true) := rfl
theorem deed_ok {b r : Nat} {de : Deed} (h : de.Ok b) : f_p_is_deed [.f de.d, .f (.int b), .f (.int r)] = .ok (.bl true) [.n, .n, .n] := by
  rw [f_p_is_deed, runF_eq (by rfl)]
  have a0 : ∀ st : Sl, lcL [4] (tgN 4) mYes (eCall f_p_is_integer [(.e (eV 4))]) [] st = .ok [] st := fun _ => rfl
  have sz : (0 : Nat) < sizeLine := by decide
  have sz1 : (1 : Nat) < sizeLine := by decide
  have g0 : gAll [.lst []] = some (.bl true) := rfl
  have g1 : gAll [.lst [.bl true]] = some (.bl true) := rfl
  have k0 : ∀ (vs : List Nat) (st0 st : Sl), kLcB vs st0 [] st = .ok (.lst []) (backS st0 vs st) := fun vs st0 st => kLcB_eq sz
  have k1 : ∀ (vs : List Nat) (st0 st : Sl) (x : D), kLcB vs st0 [x] st = .ok (.lst [x]) (backS st0 vs st) := fun vs st0 st x => kLcB_eq sz1
  have w1 := inP_off
  have w2 := inP_swap
  have w3 := inP_again
  simp only [List.map_cons, List.map_nil] at w1 w2 w3
  cases de with
  | non => exact h.elim
  | off k =>
    have hk := h
    obtain ⟨h1, h2⟩ := hk
    have a1 : lcL [4] (tgN 4) mYes (eCall f_p_is_integer [(.e (eV 4))]) [.int k] [.f (Deed.off k).d, .f (.int b), .f (.int r), .n, .n] = .ok [.bl true] [.f (Deed.off k).d, .f (.int b), .f (.int r), .n, .n] := by
      have := lcL_map (vs := [4]) (g := tgN 4) (c := mYes) (el := eCall f_p_is_integer [(.e (eV 4))]) (st := [.f (Deed.off k).d, .f (.int b), .f (.int r), .n, .n]) (fun _ => .bl true) (ds := [.int k]) (fun d m => by
        simp only [List.mem_cons, List.not_mem_nil, or_false] at m
        subst m
        simp -implicitDefEqProofs [-R.bind])
      exact this
    simp only [Deed.d] at a1 ⊢
    simp -implicitDefEqProofs [-R.bind, b_p_is_deed, gSl_tup1, a1, k1, g1, w1, atI_0, atI_1, h1, h2]
  | swap => simp -implicitDefEqProofs [-R.bind, b_p_is_deed, Deed.d, gSl_tup1, a0, k0, g0, w2, atI_0]
  | again => simp -implicitDefEqProofs [-R.bind, b_p_is_deed, Deed.d, gSl_tup1, a0, k0, g0, w3, atI_0]
theorem slip_ok {b r t : Nat} {cs : List (List Int)} {de : Deed} (h : ShOk b r cs) (hd : de.Ok b) (ht : t < cs.length) : f_p_is_slip [.f (.tup [.int t, de.d]), .f (dSheet b r cs), .f (.int 0)] = .ok (.bl true) [.n, .n, .n] := by
  rw [f_p_is_slip, runF_eq (by rfl)]
  have d := deed_ok (r := r) hd
  have ln := len_sh (b := b) (r := r) h.len
  have t0 : (0 : Int) ≤ t := by omega
  simp -implicitDefEqProofs [-R.bind, b_p_is_slip, atI_0, atI_1, ln, d, ht]
theorem free_ok {b : Nat} {cs : List (List Int)} : f_m_Adding_free [.o (dAdd b cs A0)] = .ok (.int 0) [.o (dAdd b cs A0)] := by
  rw [f_m_Adding_free, runF_eq (by rfl)]
  simp -implicitDefEqProofs [-R.bind, b_m_Adding_free, A0, dOpt]
theorem runA_ok {b : Int} {cs : List (List Int)} {t : Nat} : ∀ {l : List (List Int)} {a : Ad}, a.Ok → (l.foldl (fun a c => stepA b c .non a) a).Ok
  | [], a, h => h
  | c :: l, a, h => runA_ok (cs := cs) (t := t) (l := l) (stepA_ok h)
end K83
namespace K83
open PySem PySem.Spec PyProof.Rows L2 Ev
theorem runA_at {b : Int} {cs : List (List Int)} {a : Ad} {t : Nat} (ht : t ≤ cs.length) (ha : a.at_ ≤ t) : (runA b cs a t).at_ = t := by
  have key : ∀ (l : List (List Int)) (a : Ad), (l.foldl (fun a c => stepA b c .non a) a).at_ = a.at_ + l.length := by
    intro l
    induction l with
    | nil => intro a; rfl
    | cons c l ih => intro a; rw [List.foldl_cons, ih, stepA_at, List.length_cons]; omega
  unfold runA
  rw [key]
  simp; omega
/-- the state behind the slip, and behind all -/
def slipA (b : Int) (cs : List (List Int)) (t : Nat) (c : List Int) (de : Deed) : Ad := endA b cs (stepA b c de (runA b cs A0 t))
theorem add_with_ok {b r t : Nat} {cs : List (List Int)} {c : List Int} {de : Deed} (h : ShOk b r cs) (hd : de.Ok b) (ht : t + 1 < cs.length) (hc : cs[t]? = some c) :
    f_p_add_with [.f (dSheet b r cs), .f (.lst [.tup [.int t, de.d]])] = .ok (dWr b (slipA b cs t c de).w (slipA b cs t c de).carry) [.n, .n] := by
  rw [f_p_add_with, runF_eq (by rfl)]
  have s := slip_ok (t := t) h hd (by omega)
  have ini : f_m_Adding_zinitz [.o (.obj "Adding" [] []), .f (dSheet b r cs)] = .ok .non [.o (dAdd b cs A0), .n] := add_init
  have fr := free_ok (b := b) (cs := cs)
  have ok1 : (runA b cs A0 t).Ok := runA_ok (b := (b : Int)) (cs := cs) (t := t) A0_ok
  have un := do_until (t := t) h (by omega) A0_ok
  have at1 : (runA b cs A0 t).at_ = t := runA_at (by omega) (Nat.zero_le _)
  have hw : (runA b cs A0 t).w.length < 5000 := by
    have := h.len
    unfold Ad.Ok at ok1
    rw [at1] at ok1
    cases z : (runA b cs A0 t).wait <;> rw [z] at ok1 <;> simp at ok1 <;> omega
  have d := do_de (c := c) (de := de) h (a := runA b cs A0 t) (by rw [at1]; exact hc) hw (fun _ => by rw [at1]; omega)
  have re := ad_result h (stepA_ok (b := (b : Int)) (c := c) (de := de) ok1)
  have en : enumD [.tup [.int t, de.d]] = [.tup [.int 0, .tup [.int t, de.d]]] := rfl
  have loop : forL (tgT [(tgN 3), (tgN 4)]) (sSeq (sIf (mNot (mTru (.e (eCall f_p_is_slip [(.e (eV 4)), (.e (eV 0)), (.e (eMeth "Adding" f_m_Adding_free (.mu 2) []))])))) sNever sNil)
      (sSeq (sDrop (eMeth "Adding" f_m_Adding_do_until (.mu 2) [(.e (eOp gIx [(.v 4), (.e (eC (.int 0)))]))]))
      (sIf (mNot (mTru (.e (eMeth "Adding" f_m_Adding_do (.mu 2) [(.e (eOp gIx [(.v 4), (.e (eC (.int 1)))]))])))) sNever sNil))) [.tup [.int 0, .tup [.int t, de.d]]]
      [.f (dSheet b r cs), .f (.lst [.tup [.int t, de.d]]), .o (dAdd b cs A0), .n, .n] = .ok .nx [.f (dSheet b r cs), .f (.lst [.tup [.int t, de.d]]), .o (dAdd b cs (stepA b c de (runA b cs A0 t))), .f (.int 0), .f (.tup [.int t, de.d])] := by
    rw [forL_nx (st' := [.f (dSheet b r cs), .f (.lst [.tup [.int t, de.d]]), .o (dAdd b cs (stepA b c de (runA b cs A0 t))), .f (.int 0), .f (.tup [.int t, de.d])])]
    · rfl
    · simp -implicitDefEqProofs [-R.bind, fr, s, un, d, atI_0, atI_1]
  simp -implicitDefEqProofs [-R.bind, b_p_add_with, ini, en, loop, re, slipA]
end K83
namespace K83
open PySem PySem.Spec PyProof.Rows L2 Ev
theorem valF_app {b l : Int} : ∀ {x y : List Int}, valF b (x ++ y) l = valF b x (valF b y l)
  | [], y => rfl
  | d :: x, y => by rw [List.cons_append, valF_cons, valF_cons, valF_app]
theorem valS_app {b : Int} {rest : List (List Int)} : ∀ {pre : List (List Int)}, valS b (pre ++ rest) = valS b pre + valS b rest * b ^ pre.length
  | [] => by simp [valS, valF]
  | c :: pre => by
    rw [List.cons_append, valS_cons, valS_cons, valS_app, List.length_cons, Int.pow_succ, Int.add_mul, Int.mul_assoc]
    omega
theorem runA_pre {b : Int} (hb : 0 < b) {pre rest : List (List Int)} : runA b (pre ++ rest) A0 pre.length = ⟨pre.length, digs b (valS b pre) pre.length, valS b pre / b ^ pre.length, none⟩ := by
  unfold runA A0
  simp only [List.drop_zero, Nat.sub_zero, List.take_left']
  rw [fold_right hb]
  simp
/-- the column's sum with what is carried to it -/
def sAt (b : Int) (pre : List (List Int)) (c : List Int) : Int := c.sum + valS b pre / b ^ pre.length
theorem slipA_plain {b : Int} (hb : 0 < b) {pre post : List (List Int)} {c : List Int} {de : Deed} (hs : de ≠ .swap) :
    slipA b (pre ++ c :: post) pre.length c de = ⟨(pre ++ c :: post).length, digs b (valS b pre) pre.length ++ [de.fig b (sAt b pre c)] ++ digs b (valS b post + de.car b (sAt b pre c)) post.length, (valS b post + de.car b (sAt b pre c)) / b ^ post.length, none⟩ := by
  unfold slipA
  rw [runA_pre hb]
  have st : stepA b c de ⟨pre.length, digs b (valS b pre) pre.length, valS b pre / b ^ pre.length, none⟩ = ⟨pre.length + 1, digs b (valS b pre) pre.length ++ [de.fig b (sAt b pre c)], de.car b (sAt b pre c), none⟩ := by
    cases de <;> first | rfl | exact absurd rfl hs
  rw [st]
  unfold endA runA
  simp only
  have dr : (pre ++ c :: post).drop (pre.length + 1) = post := by
    rw [show pre ++ c :: post = (pre ++ [c]) ++ post from by simp, List.drop_left' (by simp)]
  rw [dr, List.take_of_length_le (by simp; omega), fold_right hb]
  congr 1
  simp; omega
theorem slip_val {b : Int} (hb : 0 < b) {pre post : List (List Int)} {c : List Int} {de : Deed} (hs : de ≠ .swap) :
    valF b (slipA b (pre ++ c :: post) pre.length c de).w (slipA b (pre ++ c :: post) pre.length c de).carry - valS b (pre ++ c :: post) = (de.fig b (sAt b pre c) - sAt b pre c % b + (de.car b (sAt b pre c) - sAt b pre c / b) * b) * b ^ pre.length := by
  rw [slipA_plain hb hs]
  simp only
  rw [List.append_assoc, valF_app, digs_val hb, List.singleton_append, valF_cons, digs_all hb, valS_app, valS_cons]
  have a1 := Int.emod_add_mul_ediv (valS b pre) (b ^ pre.length)
  have a2 := Int.emod_add_mul_ediv (sAt b pre c) b
  have es : sAt b pre c = c.sum + valS b pre / b ^ pre.length := rfl
  generalize de.fig b (sAt b pre c) = f
  generalize de.car b (sAt b pre c) = k
  generalize sAt b pre c % b = s1 at *
  generalize sAt b pre c / b = s2 at *
  generalize sAt b pre c = s at *
  generalize valS b pre % b ^ pre.length = p1 at *
  generalize valS b pre / b ^ pre.length = p2 at *
  generalize b ^ pre.length = B at *
  have c1 : c.sum = s1 + b * s2 - p2 := by omega
  rw [c1, ← a1]
  simp only [Int.add_mul, Int.sub_mul, Int.mul_add, Int.mul_sub, Int.mul_assoc, Int.mul_comm, Int.mul_left_comm]
  omega
end K83
namespace K83
open PySem PySem.Spec PyProof.Rows L2 Ev
theorem val_at {b : Int} (hb : 0 < b) {pre post : List (List Int)} {c : List Int} : valS b (pre ++ c :: post) / b ^ pre.length = valS b post * b + sAt b pre c := by
  have p : 0 < b ^ pre.length := Int.pow_pos hb
  rw [valS_app, valS_cons, Int.add_mul_ediv_right _ _ (by omega)]
  unfold sAt
  omega
theorem fig_at {b : Int} (hb : 0 < b) {pre post : List (List Int)} {c : List Int} : valS b (pre ++ c :: post) / b ^ pre.length % b = sAt b pre c % b := by
  rw [val_at hb, Int.add_comm, Int.add_mul_emod_self_right]
/-- a figure off by k, by the sheet's value alone -/
theorem off_val {b k : Int} (hb : 0 < b) {pre post : List (List Int)} {c : List Int} :
    valF b (slipA b (pre ++ c :: post) pre.length c (.off k)).w (slipA b (pre ++ c :: post) pre.length c (.off k)).carry - valS b (pre ++ c :: post) = ((valS b (pre ++ c :: post) / b ^ pre.length % b + k) % b - valS b (pre ++ c :: post) / b ^ pre.length % b) * b ^ pre.length := by
  rw [slip_val (de := .off k) hb (by intro e; cases e), fig_at hb]
  simp [Deed.fig, Deed.car]
/-- a carry too many -/
theorem again_val {b : Int} (hb : 0 < b) {pre post : List (List Int)} {c : List Int} :
    valF b (slipA b (pre ++ c :: post) pre.length c .again).w (slipA b (pre ++ c :: post) pre.length c .again).carry - valS b (pre ++ c :: post) = b ^ pre.length * b := by
  rw [slip_val (de := .again) hb (by intro e; cases e)]
  simp only [Deed.fig, Deed.car]
  rw [show sAt b pre c % b - sAt b pre c % b + (sAt b pre c / b + 1 - sAt b pre c / b) * b = b from by rw [Int.sub_self, Int.zero_add, show sAt b pre c / b + 1 - sAt b pre c / b = 1 from by omega, Int.one_mul], Int.mul_comm]
end K83
namespace K83
open PySem PySem.Spec PyProof.Rows L2 Ev
theorem slipA_swap {b : Int} (hb : 0 < b) {pre post : List (List Int)} {c e : List Int} :
    slipA b (pre ++ c :: e :: post) pre.length c .swap = ⟨(pre ++ c :: e :: post).length, digs b (valS b pre) pre.length ++ [(e.sum + sAt b pre c / b) % b, sAt b pre c % b] ++ digs b (valS b post + (e.sum + sAt b pre c / b) / b) post.length, (valS b post + (e.sum + sAt b pre c / b) / b) / b ^ post.length, none⟩ := by
  unfold slipA
  rw [runA_pre hb]
  have st : stepA b c .swap ⟨pre.length, digs b (valS b pre) pre.length, valS b pre / b ^ pre.length, none⟩ = ⟨pre.length + 1, digs b (valS b pre) pre.length, sAt b pre c / b, some (sAt b pre c % b)⟩ := rfl
  rw [st]
  unfold endA runA
  simp only
  have dr : (pre ++ c :: e :: post).drop (pre.length + 1) = e :: post := by
    rw [show pre ++ c :: e :: post = (pre ++ [c]) ++ (e :: post) from by simp, List.drop_left' (by simp)]
  rw [dr, List.take_of_length_le (by simp; omega), List.foldl_cons]
  have st2 : stepA b e .non ⟨pre.length + 1, digs b (valS b pre) pre.length, sAt b pre c / b, some (sAt b pre c % b)⟩ = ⟨pre.length + 1 + 1, digs b (valS b pre) pre.length ++ [(e.sum + sAt b pre c / b) % b, sAt b pre c % b], (e.sum + sAt b pre c / b) / b, none⟩ := rfl
  rw [st2, fold_right hb]
  congr 1
  simp; omega
end K83
namespace K83
open PySem PySem.Spec PyProof.Rows L2 Ev
theorem swap_val {b : Int} (hb : 0 < b) {pre post : List (List Int)} {c e : List Int} :
    valF b (slipA b (pre ++ c :: e :: post) pre.length c .swap).w (slipA b (pre ++ c :: e :: post) pre.length c .swap).carry - valS b (pre ++ c :: e :: post) = (((e.sum + sAt b pre c / b) % b - sAt b pre c % b) + (sAt b pre c % b - (e.sum + sAt b pre c / b) % b) * b) * b ^ pre.length := by
  rw [slipA_swap hb]
  simp only
  rw [List.append_assoc, valF_app, digs_val hb, List.cons_append, List.cons_append, List.nil_append, valF_cons, valF_cons, digs_all hb, valS_app, valS_cons, valS_cons]
  have a1 := Int.emod_add_mul_ediv (valS b pre) (b ^ pre.length)
  have a2 := Int.emod_add_mul_ediv (sAt b pre c) b
  have a3 := Int.emod_add_mul_ediv (e.sum + sAt b pre c / b) b
  have es : sAt b pre c = c.sum + valS b pre / b ^ pre.length := rfl
  generalize (e.sum + sAt b pre c / b) % b = t1 at *
  generalize (e.sum + sAt b pre c / b) / b = t2 at *
  generalize sAt b pre c % b = s1 at *
  generalize sAt b pre c / b = s2 at *
  generalize sAt b pre c = s at *
  generalize valS b pre % b ^ pre.length = p1 at *
  generalize valS b pre / b ^ pre.length = p2 at *
  generalize b ^ pre.length = B at *
  have c1 : c.sum = s1 + b * s2 - p2 := by omega
  have c2 : e.sum = t1 + b * t2 - s2 := by omega
  rw [c1, c2, ← a1]
  simp only [Int.add_mul, Int.sub_mul, Int.mul_add, Int.mul_sub, Int.mul_assoc, Int.mul_comm, Int.mul_left_comm]
  omega
end K83
namespace K83
open PySem PySem.Spec PyProof.Rows L2 Ev
theorem fig_next {b : Int} (hb : 0 < b) {pre post : List (List Int)} {c e : List Int} : valS b (pre ++ c :: e :: post) / b ^ (pre.length + 1) % b = (e.sum + sAt b pre c / b) % b := by
  rw [Int.pow_succ, ← Int.ediv_ediv_of_nonneg (Int.le_of_lt (Int.pow_pos hb)), val_at hb, valS_cons, Int.add_comm, Int.add_mul_ediv_right _ _ (by omega), Int.add_comm, Int.add_assoc, Int.add_comm, Int.add_mul_emod_self_right]
/-- a swap, by the sheet's value alone -/
theorem swap_val' {b : Int} (hb : 0 < b) {pre post : List (List Int)} {c e : List Int} {V : Int} (hV : V = valS b (pre ++ c :: e :: post)) :
    valF b (slipA b (pre ++ c :: e :: post) pre.length c .swap).w (slipA b (pre ++ c :: e :: post) pre.length c .swap).carry - V = ((V / b ^ (pre.length + 1) % b - V / b ^ pre.length % b) + (V / b ^ pre.length % b - V / b ^ (pre.length + 1) % b) * b) * b ^ pre.length := by
  rw [hV, swap_val hb, fig_next hb, fig_at hb]
end K83
namespace K83
open PySem PySem.Spec PyProof.Rows L2 Ev
def slipD (b V : Int) (t : Nat) : Deed → Int
  | .non => 0
  | .off k => ((V / b ^ t % b + k) % b - V / b ^ t % b) * b ^ t
  | .swap => ((V / b ^ (t + 1) % b - V / b ^ t % b) + (V / b ^ t % b - V / b ^ (t + 1) % b) * b) * b ^ t
  | .again => b ^ t * b
theorem slip_diff {b : Int} (hb : 0 < b) {cs : List (List Int)} {t : Nat} {c : List Int} {de : Deed} (hc : cs[t]? = some c) (ht : t + 1 < cs.length) (hd : de ≠ .non) :
    valF b (slipA b cs t c de).w (slipA b cs t c de).carry - valS b cs = slipD b (valS b cs) t de := by
  obtain ⟨pre, e, post, rfl, rfl⟩ : ∃ pre e post, cs = pre ++ c :: e :: post ∧ t = pre.length := by
    refine ⟨cs.take t, cs[t + 1], cs.drop (t + 2), ?_, by simp; omega⟩
    have h1 : cs[t]'(by omega) = c := by
      rw [List.getElem?_eq_getElem (by omega)] at hc
      exact Option.some.inj hc
    rw [← h1, ← List.drop_eq_getElem_cons ht, ← List.drop_eq_getElem_cons (by omega), List.take_append_drop]
  cases de with
  | non => exact absurd rfl hd
  | off k => exact off_val hb
  | swap => exact swap_val' hb rfl
  | again => exact again_val hb
end K83
namespace K83
open PySem PySem.Spec PyProof.Rows L2 Ev
theorem with_sub {b r t : Nat} {cs : List (List Int)} {de : Deed} (h : ShOk b r cs) (hd : de.Ok b) (ht : t + 1 < cs.length) (hn : de ≠ .non) :
    ∃ w l, f_p_add_with [.f (dSheet b r cs), .f (.lst [.tup [.int t, de.d]])] = .ok (dWr b w l) [.n, .n] ∧ gDun (tag2 "Written" "Sheet") f_m_Written_zsubz [dWr b w l, dSheet b r cs] = some (.int (slipD b (valS b cs) t de)) := by
  have hc : cs[t]? = some (cs[t]'(by omega)) := by simp
  have hb : 0 < (b : Int) := by have := h.b2; omega
  refine ⟨_, _, add_with_ok h hd ht hc, ?_⟩
  rw [gSubW h.b12 h.b12, slip_diff hb hc ht hn]
/-- the sum as a sheet of one row -/
theorem one_row {b r : Nat} {cs : List (List Int)} (h : ShOk b r cs) (hl : cs.length < 900) :
    f_p__law_row [.f (dWr b (digs b (valS b cs) cs.length) (valS b cs / (b : Int) ^ cs.length)), .f (.int ((cs.length : Int) + 3))] = .ok (dRow (digs b (valS b cs) (cs.length + 3))) [.n, .n] ∧
    ShOk b 1 (colsOf [digs b (valS b cs) (cs.length + 3)] (cs.length + 3)) ∧ valS b (colsOf [digs b (valS b cs) (cs.length + 3)] (cs.length + 3)) = valS b cs ∧
    f_p__law_sheet [.f (.int b), .f (.lst [dRow (digs b (valS b cs) (cs.length + 3))])] = .ok (dSheet b 1 (colsOf [digs b (valS b cs) (cs.length + 3)] (cs.length + 3))) [.n, .n] := by
  have hb : 0 < (b : Int) := by have := h.b2; omega
  have ro := row_ok (b := b) (w := digs b (valS b cs) cs.length) (l := valS b cs / (b : Int) ^ cs.length) (n := cs.length + 3) h.b2 h.b12 (by omega) (by rw [digs_len]; omega)
  rw [row_digs hb (by omega)] at ro
  obtain ⟨v0, v1⟩ := val_lt h (m := cs.length + 3) (by omega)
  have hr : ∀ w ∈ [digs b (valS b cs) (cs.length + 3)], w.length = cs.length + 3 ∧ ∀ d ∈ w, 0 ≤ d ∧ d < (b : Int) := fun w m => by
    simp only [List.mem_cons, List.not_mem_nil, or_false] at m
    subst m
    exact ⟨digs_len, fun d m => digs_dig hb m⟩
  obtain ⟨ok, e⟩ := sheet_of_rows (n := cs.length + 3) h.b2 h.b12 (rows := [digs b (valS b cs) (cs.length + 3)]) (by simp) (by simp) (by omega) hr
  refine ⟨ro, ok, ?_, e⟩
  rw [valS_cols fun w m => (hr w m).1]
  simp [digs_small hb v0 v1]
theorem slip_right_ok {b r N : Nat} {cs : List (List Int)} {g : Bag} (h : ShOk b r cs) (hl : cs.length < 900) (hg : BagOk N g) (hN : N + 2 < 2 ^ 40) :
    ∃ g', BagOk (N + 2) g' ∧ f_p__law_slip_right [.o g.d, .f (dSheet b r cs), .f (dWr b (digs b (valS b cs) cs.length) (valS b cs / (b : Int) ^ cs.length))] = .ok (.bl true) [.o g'.d, .n, .n] := by
  have ln := len_sh (b := b) (r := r) h.len
  rw [f_p__law_slip_right, runF_eq (by rfl)]
  by_cases hn : cs.length < 2
  · refine ⟨g, hg.mono (by omega), ?_⟩
    have hn' : (cs.length : Int) < 2 := by omega
    simp -implicitDefEqProofs [-R.bind, b_p__law_slip_right, ln, hn']
  have hn' : ¬ ((cs.length : Int) < 2) := by omega
  have hb2 := h.b2
  have hb12 := h.b12
  have hb : 0 < (b : Int) := by omega
  obtain ⟨ro, ok2, v2, e2⟩ := one_row h hl
  obtain ⟨t', g1, t0, t1, hg1, et⟩ := take_ok (many := (cs.length : Int) - 1) hg (by omega) (by omega) (by omega)
  obtain ⟨t, rfl⟩ : ∃ t : Nat, t' = t := ⟨t'.toNat, by omega⟩
  obtain ⟨k, g2, k0, k1, hg2, ek⟩ := take_ok (many := (b : Int) - 1) hg1 (by omega) (by omega) (by omega)
  refine ⟨g2, hg2, ?_⟩
  have l2 : (colsOf [digs b (valS b cs) (cs.length + 3)] (cs.length + 3)).length = cs.length + 3 := by simp [colsOf]
  have dk : (Deed.off (1 + k)).Ok b := ⟨by omega, by omega⟩
  obtain ⟨w1, l1, a1, s1⟩ := with_sub (t := t) ok2 dk (by rw [l2]; omega) (by intro e; cases e)
  obtain ⟨w2, l2', a2, s2⟩ := with_sub (t := t) h dk (by omega) (by intro e; cases e)
  obtain ⟨w3, l3, a3, s3⟩ := with_sub (t := t) (de := .swap) ok2 trivial (by rw [l2]; omega) (by intro e; cases e)
  obtain ⟨w4, l4, a4, s4⟩ := with_sub (t := t) (de := .swap) h trivial (by omega) (by intro e; cases e)
  obtain ⟨w5, l5, a5, s5⟩ := with_sub (t := t) (de := .again) ok2 trivial (by rw [l2]; omega) (by intro e; cases e)
  rw [v2] at s1 s3 s5
  generalize colsOf [digs b (valS b cs) (cs.length + 3)] (cs.length + 3) = cs2 at *
  generalize dRow (digs b (valS b cs) (cs.length + 3)) = row at *
  generalize dWr b (digs b (valS b cs) cs.length) (valS b cs / (b : Int) ^ cs.length) = right at *
  simp only [Deed.d] at a1 a2 a3 a4 a5
  have k1 : ∀ st : Sl, kI1 (.int t) st = .ok (rangeD 0 t) st := fun st => kI1_nat (by omega)
  have pw : ∀ (ds : List D) (p : Int) (c : Cell), ∃ c', forL (tgN 4) (sSet 7 (eOp gMul [(.v 7), (.e (eProp "Sheet" f_m_Sheet_base (.e (eV 1))))])) ds [.o g1.d, .f (dSheet b r cs), .f right, .f (dSheet b 1 cs2), c, .n, .f (.int t), .f (.int p)] =
      .ok .nx [.o g1.d, .f (dSheet b r cs), .f right, .f (dSheet b 1 cs2), c', .n, .f (.int t), .f (.int (p * (b : Int) ^ ds.length))] := by
    intro ds
    induction ds with
    | nil => intro p c; exact ⟨c, by simp⟩
    | cons d ds ih =>
      intro p c
      obtain ⟨c', e⟩ := ih (p * b) (.f d)
      refine ⟨c', ?_⟩
      rw [forL_nx (st' := [.o g1.d, .f (dSheet b r cs), .f right, .f (dSheet b 1 cs2), .f d, .n, .f (.int t), .f (.int (p * b))]) (by simp -implicitDefEqProofs [-R.bind, gMul_b hb12]), e, List.length_cons, Int.pow_succ, Int.mul_comm ((b : Int) ^ ds.length), Int.mul_assoc]
  obtain ⟨c', ep⟩ := pw (rangeD 0 t) 1 .n
  rw [rangeD_len, Int.one_mul] at ep
  have loop : forL (tgN 5) (sIf (mT (eOp gNe [(.e (eOpF (gDun (tag2 "Written" "Sheet") f_m_Written_zsubz) [(eCall f_p_add_with [(.e (eV 3)), (.e (eLst [(eTup [(eV 6), (eV 5)])]))]), (eV 3)])), (.e (eOpF (gDun (tag2 "Written" "Sheet") f_m_Written_zsubz) [(eCall f_p_add_with [(.e (eV 1)), (.e (eLst [(eTup [(eV 6), (eV 5)])]))]), (eV 1)]))])) (sRet (eC (.bl false))) sNil)
      [.tup [.str "off", .int (1 + k)], .tup [.str "swap"]] [.o g2.d, .f (dSheet b r cs), .f right, .f (dSheet b 1 cs2), c', .n, .f (.int t), .f (.int ((b : Int) ^ t))] =
      .ok .nx [.o g2.d, .f (dSheet b r cs), .f right, .f (dSheet b 1 cs2), c', .f (.tup [.str "swap"]), .f (.int t), .f (.int ((b : Int) ^ t))] := by
    rw [forL_nx (st' := [.o g2.d, .f (dSheet b r cs), .f right, .f (dSheet b 1 cs2), c', .f (.tup [.str "off", .int (1 + k)]), .f (.int t), .f (.int ((b : Int) ^ t))]) (by simp -implicitDefEqProofs [-R.bind, a1, a2, s1, s2]),
      forL_nx (st' := [.o g2.d, .f (dSheet b r cs), .f right, .f (dSheet b 1 cs2), c', .f (.tup [.str "swap"]), .f (.int t), .f (.int ((b : Int) ^ t))]) (by simp -implicitDefEqProofs [-R.bind, a3, a4, s3, s4])]
    rfl
  have s5' : slipD b (valS b cs) t .again = (b : Int) ^ t * b := rfl
  rw [s5'] at s5
  simp -implicitDefEqProofs [-R.bind, b_p__law_slip_right, ln, hn', ro, e2, et, k1, ep, ek, loop, a5, s5, gMul_b hb12]
end K83
namespace K83
open PySem PySem.Spec PyProof.Rows L2 Ev
open TL
def FIG : Str := "0123456789ab"
def code (d : Int) : Nat := if d < 10 then 48 + d.toNat else 87 + d.toNat
def chS (d : Int) : Str := ⟨#[code d]⟩
def txt (ds : List Int) : Str := ⟨(ds.map code).toArray⟩
theorem fig_ix : ∀ d : Fin 12, gIx [.str FIG, .int (d.val : Int)] = some (.str (chS d.val)) := by
  intro d
  have : ∀ d : Fin 12, (if FIG.length ≤ sizeLine then (atI FIG.cps.toList (d.val : Int)).map fun c => (⟨#[c]⟩ : Str) else none) = some (chS d.val) := by decide +kernel
  have h := this d
  show (if FIG.length ≤ sizeLine then (atI FIG.cps.toList (d.val : Int)).map fun c => D.str ⟨#[c]⟩ else none) = _
  split at h
  · rename_i hl
    rw [if_pos hl]
    cases z : atI FIG.cps.toList (d.val : Int) with
    | none => rw [z] at h; cases h
    | some c => rw [z] at h; simp at h; rw [← h]; rfl
  · cases h
theorem fig_find : ∀ d : Fin 12, gFind [.str FIG, .str (chS d.val)] = some (.int (d.val : Int)) := by
  intro d
  have : ∀ d : Fin 12, Txt.find FIG (chS d.val) = (d.val : Int) := by decide +kernel
  show some (D.int (Txt.find FIG (chS d.val))) = _
  rw [this]
theorem fig_in : ∀ b : Fin 13, ∀ d : Fin 12, d.val < b.val → gIn false [.str (chS d.val), .str (Txt.slice FIG none (some (b.val : Int)))] = some (.bl true) := by
  intro b d h
  have : ∀ b : Fin 13, ∀ d : Fin 12, d.val < b.val → (chS d.val).cps.getD 0 0 ∈ (Txt.slice FIG none (some (b.val : Int))).cps.toList := by decide +kernel
  have h2 := this b d h
  show (if (chS d.val).cps.size = 1 then some (D.bl (false != decide ((chS d.val).cps.getD 0 0 ∈ (Txt.slice FIG none (some (b.val : Int))).cps.toList))) else none) = _
  rw [decide_eq_true h2]
  rfl
theorem fin_of {d : Int} {n : Nat} (h0 : 0 ≤ d) (h1 : d < n) : ∃ f : Fin n, (f.val : Int) = d := ⟨⟨d.toNat, by omega⟩, by show (d.toNat : Int) = d; omega⟩
theorem fig_ix' {d : Int} (h0 : 0 ≤ d) (h1 : d < 12) : gIx [.str FIG, .int d] = some (.str (chS d)) := by
  obtain ⟨f, rfl⟩ := fin_of (n := 12) h0 h1
  exact fig_ix f
theorem fig_find' {d : Int} (h0 : 0 ≤ d) (h1 : d < 12) : gFind [.str FIG, .str (chS d)] = some (.int d) := by
  obtain ⟨f, rfl⟩ := fin_of (n := 12) h0 h1
  exact fig_find f
theorem fig_in' {b : Nat} {d : Int} (hb : b ≤ 12) (h0 : 0 ≤ d) (h1 : d < b) : gIn false [.str (chS d), .str (Txt.slice FIG none (some (b : Int)))] = some (.bl true) := by
  obtain ⟨f, rfl⟩ := fin_of (n := 12) h0 (by omega)
  exact fig_in ⟨b, by omega⟩ f (show f.val < b by omega)
theorem strsD_map {α : Type} {f : α → Str} : ∀ {l : List α}, strsD (l.map fun a => .str (f a)) = some (l.map f)
  | [] => rfl
  | a :: l => by rw [List.map_cons, strsD, strsD_map]; rfl
theorem joinL_nil : ∀ l : List (List Nat), joinL [] l = l.flatten
  | [] => rfl
  | [p] => by simp [joinL]
  | p :: q :: r => by
    show p ++ ([] ++ joinL [] (q :: r)) = _
    rw [joinL_nil (q :: r)]; rfl
theorem join_chs (ds : List Int) : Txt.join (Str.ofString "") (ds.map chS) = txt ds := by
  refine ext_tl ?_
  rw [join_eq, tl_join]
  have e : tl (Str.ofString "") = [] := by decide +kernel
  rw [e, joinL_nil]
  show ((ds.map chS).map tl).flatten = ds.map code
  rw [List.map_map]
  induction ds with
  | nil => rfl
  | cons d ds ih => rw [List.map_cons, List.flatten_cons, ih]; rfl
@[simp] theorem txt_len (ds : List Int) : (txt ds).length = ds.length := by simp [txt, Str.length]
theorem gJoin_chs {ds : List Int} (h : ds.length < 10000) : gJoin [.str (Str.ofString ""), .lst (ds.map fun d => .str (chS d))] = some (.str (txt ds)) := by
  show (match strsD (ds.map fun d => D.str (chS d)) with
    | some (ys : List Str) => if (ys.map Str.length).sum + ys.length * (Str.ofString "").length ≤ 16777216 then some (D.str (Txt.join (Str.ofString "") ys)) else none
    | none => none) = _
  rw [strsD_map]
  have e : ∀ l : List Int, ((l.map chS).map (fun x : Str => x.length)).sum = l.length := by
    intro l
    induction l with
    | nil => rfl
    | cons d l ih => rw [List.map_cons, List.map_cons, List.sum_cons, ih]; simp [chS, Str.length]; omega
  have e2 : (Str.ofString "").length = 0 := by decide +kernel
  simp only [e, e2, join_chs]
  rw [if_pos (by simp; omega)]
/-- a row's text -/
def rowT (ds : List Int) : Str := match ds with
  | [] => "-"
  | ds => txt ds
theorem rowT_cons {d : Int} {ds : List Int} : rowT (d :: ds) = txt (d :: ds) := rfl
def kBs2 (g : List D → Option D) (d : D) (ds : List D) (st : Sl) : R D := kRes st (g (d :: ds))
@[simp] theorem kBs2_eq {g : List D → Option D} {d : D} {ds : List D} {st : Sl} : kBs2 g d ds st = kRes st (g (d :: ds)) := rfl
def kBs1 (g : List D → Option D) (ms : List E) (d : D) (st : Sl) : R D := match d with
  | .str x => (evAll ms st).bind (kBs2 g (.str x))
  | _ => .bad
@[simp] theorem kBs1_str {g : List D → Option D} {ms : List E} {x : Str} {st : Sl} : kBs1 g ms (.str x) st = (evAll ms st).bind (kBs2 g (.str x)) := rfl
@[simp] theorem eBs_eq {g : List D → Option D} {m : E} {ms : List E} {st : Sl} : eBs g m ms st = (m st).bind (kBs1 g ms) := by
  unfold eBs
  cases m st with
  | bad => rfl
  | exc a b s => rfl
  | ok d st1 =>
    cases d with
    | str x =>
      show (evAll ms st1).bind _ = (evAll ms st1).bind _
      cases evAll ms st1 with
      | bad => rfl
      | exc a b s => rfl
      | ok ds st2 => show (match g (D.str x :: ds) with | some d => R.ok d st2 | none => .bad) = kRes st2 (g (D.str x :: ds)); cases g (D.str x :: ds) <;> rfl
    | _ => rfl
theorem figs_ok {ds : List Int} (h : ∀ d ∈ ds, 0 ≤ d ∧ d < 12) (hl : ds.length < 5000) : f_p_show_figures [.f (.lst (ds.map .int))] = .ok (.str (rowT ds)) [.n] := by
  rw [f_p_show_figures, runF_eq (by rfl)]
  cases ds with
  | nil => simp -implicitDefEqProofs [-R.bind, b_p_show_figures, rowT]
  | cons d ds =>
    rw [rowT_cons]
    generalize hds : d :: ds = es at *
    have ne : ((es.length : Int) == 0) = false := beq_eq_false_iff_ne.mpr (by rw [← hds]; simp; omega)
    have e : lcL [1] (tgN 1) mYes (eOp gIx [(.e (eC (.str "0123456789ab"))), (.v 1)]) (es.map .int) [.f (.lst (es.map .int)), .n] = .ok ((es.map D.int).map fun d => match d with | .int i => .str (chS i) | _ => .non) [.f (.lst (es.map .int)), .n] := by
      refine lcL_map _ fun d m => ?_
      obtain ⟨i, mi, rfl⟩ := List.mem_map.mp m
      have ix := fig_ix' (h i mi).1 (h i mi).2
      unfold FIG at ix
      simp -implicitDefEqProofs [-R.bind, ix]
    rw [List.map_map] at e
    have l : (es.map ((fun d => match d with | .int i => D.str (chS i) | _ => .non) ∘ D.int)).length < sizeLine := by rw [List.length_map]; exact szl (by omega)
    have j := gJoin_chs (ds := es) (by omega)
    have ce : es.map ((fun d => match d with | .int i => D.str (chS i) | _ => .non) ∘ D.int) = es.map fun d => .str (chS d) := List.map_congr_left fun _ _ => rfl
    rw [ce] at e l
    simp -implicitDefEqProofs [-R.bind, -List.map_map, b_p_show_figures, ne, e, kLcB_eq l, j]
end K83
namespace K83
open PySem PySem.Spec PyProof.Rows L2 Ev
open TL
def baseT (b : Nat) : Str := Str.ofString (toString (b : Int)) ++ Str.ofString ":"
def digT (b : Nat) : Str := Str.ofString (toString (b : Int))
def rowsT (r : Nat) (cs : List (List Int)) : List Str := (List.range r).map fun j => rowT (cs.reverse.map fun c => c.getD j 0)
def sheetT (b r : Nat) (cs : List (List Int)) : Str := Txt.join (Str.ofString " ") (baseT b :: rowsT r cs)
theorem b_cases {b : Nat} (h : 2 ≤ b) (h2 : b ≤ 12) : b = 2 ∨ b = 3 ∨ b = 4 ∨ b = 5 ∨ b = 6 ∨ b = 7 ∨ b = 8 ∨ b = 9 ∨ b = 10 ∨ b = 11 ∨ b = 12 := by omega
theorem str_b {b : Nat} (h : 2 ≤ b) (h2 : b ≤ 12) : gStr1 [.int b] = some (.str (digT b)) := by
  refine if_pos ?_
  have := log_le (j := (b : Int)) (by omega) (by omega)
  have e : (b : Int).natAbs.log2 < 60 := by
    refine (Nat.log2_lt (by omega)).mpr ?_
    simp; omega
  omega
theorem digT_facts {b : Nat} (h : 2 ≤ b) (h2 : b ≤ 12) : (digT b).length ≤ 2 ∧ tl (baseT b) = tl (digT b) ++ [58] ∧ 32 ∉ tl (baseT b) ∧ Txt.slice (baseT b) none (some (-1)) = digT b ∧ Txt.slice (baseT b) (some (-1)) none = Str.ofString ":" ∧ PySem.intText? (digT b) = some (b : Int) := by
  rcases b_cases h h2 with rfl | rfl | rfl | rfl | rfl | rfl | rfl | rfl | rfl | rfl | rfl <;> decide +kernel
theorem strOk_of {x : Str} (h : ∀ c ∈ tl x, c < 1114112) : PyData.strOk x = true := by
  unfold PyData.strOk
  rw [← Array.all_toList, List.all_eq_true]
  exact fun c m => decide_eq_true (h c m)
theorem atI_lt {α : Type} {xs : List α} {n : Nat} (h : n < xs.length) : L2.atI xs (n : Int) = some xs[n] := by rw [atI_nat, List.getElem?_eq_getElem h]
theorem gIx_str0 {x : Str} {c : Nat} {cs : List Nat} (h : tl x = c :: cs) (hl : x.length ≤ sizeLine) : gIx [.str x, .int 0] = some (.str ⟨#[c]⟩) := by
  show (if x.length ≤ sizeLine then (atI (tl x) 0).map fun c => D.str ⟨#[c]⟩ else none) = _
  rw [if_pos hl, h, atI_0]; rfl
theorem dig_in : ∀ c : Fin 58, 48 ≤ c.val → gIn false [.str ⟨#[c.val]⟩, .str (Str.ofString "0123456789")] = some (.bl true) := by
  intro c h
  have : ∀ c : Fin 58, 48 ≤ c.val → c.val ∈ (Str.ofString "0123456789").cps.toList := by decide +kernel
  show (if (1 : Nat) = 1 then some (D.bl (false != decide (c.val ∈ (Str.ofString "0123456789").cps.toList))) else none) = _
  rw [decide_eq_true (this c h)]
  rfl
/-- a text of digits is a number -/
theorem num_ok {x : Str} {c : Nat} {cs : List Nat} (h : tl x = c :: cs) (h0 : cs = [] ∨ c ≠ 48) (hd : ∀ e ∈ tl x, 48 ≤ e ∧ e ≤ 57) (hl : cs.length < 1000) : f_p_is_number [.f (.str x)] = .ok (.bl true) [.n] := by
  rw [f_p_is_number, runF_eq (by rfl)]
  have xl : x.length = cs.length + 1 := by rw [len_tl, h, List.length_cons]
  have ok : PyData.strOk x = true := strOk_of fun e m => by have := hd e m; omega
  have q0 : gEq [.str x, .str (Str.ofString "")] = some (.bl false) := by
    rw [gEq_str ok (by decide +kernel)]
    have : (x == Str.ofString "") = false := beq_eq_false_iff_ne.mpr fun e => by
      rw [e] at xl
      have : (Str.ofString "").length = 0 := by decide +kernel
      omega
    rw [this]
  have sl : x.length ≤ sizeLine := by rw [xl]; exact Nat.le_of_lt (szl (by omega))
  have gl : gLen [.str x] = some (.int ((cs.length : Int) + 1)) := by
    show (if x.length ≤ sizeLine then some (D.int x.length) else none) = _
    rw [if_pos sl, xl]; simp
  have ix := gIx_str0 h sl
  have ok1 : PyData.strOk ⟨#[c]⟩ = true := strOk_of fun e m => by
    have : e = c := by simpa using m
    have := hd c (by rw [h]; exact List.mem_cons_self)
    omega
  have q1 : gEq [.str ⟨#[c]⟩, .str (Str.ofString "0")] = some (.bl (decide (c = 48))) := by
    rw [gEq_str ok1 (by decide +kernel)]
    have : (Str.ofString "0") = ⟨#[48]⟩ := by decide +kernel
    rw [this]
    by_cases z : c = 48
    · subst z; simp
    · rw [decide_eq_false z, beq_eq_false_iff_ne.mpr]
      intro e; cases e; exact z rfl
  have e : lcL [1] (tgN 1) mYes (eOp (gIn false) [(.v 1), (.e (eC (.str "0123456789")))]) (x.cps.toList.map fun c => .str ⟨#[c]⟩) [.f (.str x), .n] = .ok ((x.cps.toList.map fun c => D.str ⟨#[c]⟩).map fun _ => .bl true) [.f (.str x), .n] := by
    refine lcL_map _ fun d m => ?_
    obtain ⟨i, mi, rfl⟩ := List.mem_map.mp m
    have := hd i mi
    have g := dig_in ⟨i, by omega⟩ (by show 48 ≤ i; omega)
    simp -implicitDefEqProofs [-R.bind, g]
  have l : ((x.cps.toList.map fun c => D.str ⟨#[c]⟩).map fun _ => D.bl true).length < sizeLine := by
    rw [List.length_map, List.length_map, show x.cps.toList.length = cs.length + 1 from by rw [← xl, len_tl]]; exact szl (by omega)
  have g : gAll [.lst ((x.cps.toList.map fun c => D.str ⟨#[c]⟩).map fun _ => .bl true)] = some (.bl true) := gAll_true
  cases cs with
  | nil => simp -implicitDefEqProofs [-R.bind, -List.map_map, b_p_is_number, q0, gl, e, kLcB_eq l, g]
  | cons c1 cs =>
    have h1 : c ≠ 48 := h0.elim (fun e => nomatch e) id
    have p : (1 : Int) < ((c1 :: cs).length : Int) + 1 := by simp; omega
    generalize hz : ((c1 :: cs).length : Int) + 1 = z at gl p
    simp -implicitDefEqProofs [-R.bind, -List.map_map, b_p_is_number, q0, gl, p, ix, q1, h1, e, kLcB_eq l, g]
theorem digT_num {b : Nat} (h : 2 ≤ b) (h2 : b ≤ 12) : ∃ c cs, tl (digT b) = c :: cs ∧ (cs = [] ∨ c ≠ 48) ∧ (∀ e ∈ tl (digT b), 48 ≤ e ∧ e ≤ 57) ∧ cs.length < 1000 := by
  have key : tl (digT b) ≠ [] ∧ ((tl (digT b)).tail = [] ∨ (tl (digT b)).headD 0 ≠ 48) ∧ (∀ e ∈ tl (digT b), 48 ≤ e ∧ e ≤ 57) ∧ (tl (digT b)).tail.length < 1000 := by
    rcases b_cases h h2 with rfl | rfl | rfl | rfl | rfl | rfl | rfl | rfl | rfl | rfl | rfl <;> decide +kernel
  obtain ⟨k1, k2, k3, k4⟩ := key
  cases e : tl (digT b) with
  | nil => exact absurd e k1
  | cons c cs => rw [e] at k2 k3 k4; exact ⟨c, cs, rfl, k2, k3, k4⟩
theorem num_b {b : Nat} (h : 2 ≤ b) (h2 : b ≤ 12) : f_p_is_number [.f (.str (digT b))] = .ok (.bl true) [.n] := by
  obtain ⟨c, cs, e1, e2, e3, e4⟩ := digT_num h h2
  exact num_ok e1 e2 e3 e4
end K83
namespace K83
open PySem PySem.Spec PyProof.Rows L2 Ev
open TL
def rowAt (cs : List (List Int)) (j : Nat) : List Int := cs.reverse.map fun c => c.getD j 0
theorem rowAt_ok {b r : Nat} {cs : List (List Int)} (h : ShOk b r cs) {j : Nat} (hj : j < r) : ∀ d ∈ rowAt cs j, 0 ≤ d ∧ d < (b : Int) := fun d m => by
  obtain ⟨c, mc, rfl⟩ := List.mem_map.mp m
  obtain ⟨l0, d0⟩ := h.cols c (List.mem_reverse.mp mc)
  have jl : j < c.length := by rw [l0]; exact hj
  have e : c.getD j 0 = c[j] := by simp [jl]
  rw [e]
  exact d0 _ (List.getElem_mem jl)
@[simp] theorem rowAt_len {cs : List (List Int)} {j : Nat} : (rowAt cs j).length = cs.length := by simp [rowAt]
theorem rowT_len {ds : List Int} : (rowT ds).length = ds.length ∨ (ds = [] ∧ (rowT ds).length = 1) := by
  cases ds with
  | nil => exact .inr ⟨rfl, by decide +kernel⟩
  | cons d ds => exact .inl (txt_len _)
theorem joinL_len (S : List Nat) : ∀ l : List (List Nat), (joinL S l).length ≤ (l.map fun p => p.length).sum + l.length * S.length
  | [] => by simp [joinL]
  | [p] => by simp [joinL]
  | p :: q :: r => by
    have ih := joinL_len S (q :: r)
    show (p ++ (S ++ joinL S (q :: r))).length ≤ _
    rw [List.length_append, List.length_append, List.map_cons, List.sum_cons, List.length_cons, Nat.add_mul, Nat.one_mul]
    omega
theorem join_len {y : Str} {parts : List Str} : (Txt.join y parts).length ≤ (parts.map fun p => p.length).sum + parts.length * y.length := by
  rw [join_eq, len_tl, tl_join]
  refine Nat.le_trans (joinL_len _ _) ?_
  rw [List.map_map, List.length_map, len_tl y]
  exact Nat.le_of_eq (congrArg (fun l => List.sum l + _) (List.map_congr_left fun p _ => (len_tl p).symm))
theorem sum_le {α : Type} {f : α → Nat} {N : Nat} : ∀ {l : List α}, (∀ a ∈ l, f a ≤ N) → (l.map f).sum ≤ l.length * N
  | [], _ => by simp
  | a :: l, h => by
    have h1 := h a List.mem_cons_self
    have h2 := sum_le fun b m => h b (List.mem_cons_of_mem a m)
    rw [List.map_cons, List.sum_cons, List.length_cons, Nat.add_mul]
    omega
theorem gJoin_of {y : Str} {parts : List Str} (h : (parts.map fun p => p.length).sum + parts.length * y.length ≤ 16777216) : gJoin [.str y, .lst (parts.map .str)] = some (.str (Txt.join y parts)) := by
  show (match strsD (parts.map D.str) with
    | some (ys : List Str) => if (ys.map Str.length).sum + ys.length * y.length ≤ 16777216 then some (D.str (Txt.join y ys)) else none
    | none => none) = _
  have e := strsD_map (f := fun x : Str => x) (l := parts)
  rw [List.map_id'] at e
  rw [e]
  exact if_pos h
section
variable {b r : Nat} {cs : List (List Int)}
theorem parts_le (h : ShOk b r cs) : ((baseT b :: rowsT r cs).map fun p => p.length).sum + (baseT b :: rowsT r cs).length * (Str.ofString " ").length ≤ 10000 := by
  have e1 : (Str.ofString " ").length = 1 := by decide +kernel
  have hl := (digT_facts h.b2 h.b12).1
  have e2 : (baseT b).length ≤ 3 := by
    rw [len_tl, (digT_facts h.b2 h.b12).2.1, List.length_append, ← len_tl]
    simp; omega
  have e3 := sum_le (f := fun p : Str => p.length) (N := 1000) (l := rowsT r cs) fun p m => by
    obtain ⟨j, mj, rfl⟩ := List.mem_map.mp m
    have := h.len
    rcases rowT_len (ds := cs.reverse.map fun c => c.getD j 0) with e | ⟨_, e⟩
    · show (rowT _).length ≤ _
      rw [e]; simp; omega
    · show (rowT _).length ≤ _
      rw [e]; omega
  have e4 : (rowsT r cs).length = r := by simp [rowsT]
  have := h.r4
  rw [e4] at e3
  rw [List.map_cons, List.sum_cons, List.length_cons, e1, e4]
  omega
theorem show_ok (h : ShOk b r cs) : f_p_show_sheet [.f (dSheet b r cs)] = .ok (.str (sheetT b r cs)) [.n] := by
  rw [f_p_show_sheet, runF_eq (by rfl)]
  have sb := str_b h.b2 h.b12
  have g0 : gAdd [.str (digT b), .str (Str.ofString ":")] = some (.str (baseT b)) := gAdd_str (by
    have := (digT_facts h.b2 h.b12).1
    have e1 : (Str.ofString ":").length = 1 := by decide +kernel
    rw [e1]; exact Nat.le_of_lt (szl (by omega)))
  have inner : ∀ j, j < r → ∀ (A B C : Cell), lcL [4] (tgN 4) mYes (eOp gIx [(.v 4), (.v 3)]) (cs.map dcol).reverse [A, B, C, .f (nD j), .n] = .ok ((rowAt cs j).map .int) [A, B, C, .f (nD j), .n] := fun j hj A B C => by
    have := lcL_map (vs := [4]) (g := tgN 4) (c := mYes) (el := eOp gIx [(.v 4), (.v 3)]) (st := [A, B, C, .f (nD j), .n]) (fun d => match d with | .tup ds => (match ds[j]? with | some d => d | none => .non) | _ => .non) (ds := (cs.map dcol).reverse) fun d m => by
      obtain ⟨c, mc, rfl⟩ := List.mem_map.mp (List.mem_reverse.mp m)
      have jl : j < c.length := by rw [(h.cols c mc).1]; exact hj
      have ix : L2.atI (c.map D.int) (j : Int) = some (.int c[j]) := by rw [atI_nat, List.getElem?_map, List.getElem?_eq_getElem jl]; rfl
      simp -implicitDefEqProofs [-R.bind, dcol, nD] at ix ⊢
      simp -implicitDefEqProofs [-R.bind, ix, jl]
    rw [this]
    congr 1
    unfold rowAt
    rw [← List.map_reverse, List.map_map, List.map_map]
    refine List.map_congr_left fun c mc => ?_
    have jl : j < c.length := by rw [(h.cols c (List.mem_reverse.mp mc)).1]; exact hj
    simp [dcol, jl]
  have l3 : ∀ j, ((rowAt cs j).map D.int).length < sizeLine := fun j => by rw [List.length_map, rowAt_len]; exact szl (by have := h.len; omega)
  have loop : ∀ (js : List Nat) (acc : List Str) (c : Cell), (∀ j ∈ js, j < r) → acc.length + js.length < 100 → ∃ c', forL (tgN 3) (sDrop (eMut gAppend 2 [(eCall f_p_show_figures [(.e (eFr (eLc [4] (itE (eV 1)) (tgN 4) mYes (eOp gIx [(.v 4), (.v 3)]))))])])) (js.map nD)
      [.f (dSheet b r cs), .f (.lst (cs.map dcol).reverse), .o (.lst (acc.map .str)), c, .n] = .ok .nx [.f (dSheet b r cs), .f (.lst (cs.map dcol).reverse), .o (.lst ((acc ++ js.map fun j => rowT (rowAt cs j)).map .str)), c', .n] := by
    intro js
    induction js with
    | nil => intro acc c _ _; exact ⟨c, by simp⟩
    | cons j js ih =>
      intro acc c hj hl
      simp only [List.length_cons] at hl
      obtain ⟨c', e⟩ := ih (acc ++ [rowT (rowAt cs j)]) (.f (nD j)) (fun i m => hj i (List.mem_cons_of_mem _ m)) (by simp; omega)
      refine ⟨c', ?_⟩
      have jr := hj j List.mem_cons_self
      have inn := inner j jr
      have fg := figs_ok (ds := rowAt cs j) (fun d m => by have := rowAt_ok h jr d m; have := h.b12; omega) (by rw [rowAt_len]; have := h.len; omega)
      have ga : gAppend (acc.map .str) [.str (rowT (rowAt cs j))] = some (.non, acc.map .str ++ [.str (rowT (rowAt cs j))]) := gAppend_of (by simp; omega)
      rw [List.map_cons, forL_nx (st' := [.f (dSheet b r cs), .f (.lst (cs.map dcol).reverse), .o (.lst ((acc ++ [rowT (rowAt cs j)]).map .str)), .f (nD j), .n]) (by simp -implicitDefEqProofs [-R.bind, inn, kLcB_eq (l3 j), fg, ga]), e]
      simp
  obtain ⟨c', e⟩ := loop (List.range r) [baseT b] .n (fun j m => List.mem_range.mp m) (by simp; have := h.r4; omega)
  have k1 : ∀ st : Sl, kI1 (.int r) st = .ok ((List.range r).map nD) st := fun st => by rw [kI1_nat (by have := h.r4; omega), rangeD_nD]
  have gj := gJoin_of (y := Str.ofString " ") (parts := baseT b :: rowsT r cs) (Nat.le_trans (parts_le h) (by decide))
  have e2 : [baseT b] ++ (List.range r).map (fun j => rowT (rowAt cs j)) = baseT b :: rowsT r cs := rfl
  rw [e2] at e
  simp only [List.map_cons, List.map_nil] at e gj
  simp -implicitDefEqProofs [-R.bind, b_p_show_sheet, sb, g0, k1, e, gj, sheetT]
end
end K83
namespace Ev
open PySem PySem.Spec PyProof.Rows L2
theorem lcL_fmA {α : Type} {vs : List Nat} {g : Tg} {c : B'} {el : E} {st : Sl} (F : α → D) (G : α → Option D) : ∀ {l : List α}, (∀ a ∈ l, lc1 vs g c el (F a) st = .ok (G a) st) → lcL vs g c el (l.map F) st = .ok (l.filterMap G) st
  | [], _ => rfl
  | a :: l, h => by
    have h1 := h a List.mem_cons_self
    have ih := lcL_fmA F G fun e m => h e (List.mem_cons_of_mem _ m)
    rw [List.map_cons]
    cases z : G a with
    | none => rw [z] at h1; rw [lcL_none h1, ih, List.filterMap_cons, z]
    | some x => rw [z] at h1; rw [lcL_some h1, ih, List.filterMap_cons, z]; rfl
theorem lcL_mapA {α : Type} {vs : List Nat} {g : Tg} {c : B'} {el : E} {st : Sl} (F G : α → D) {l : List α} (h : ∀ a ∈ l, lc1 vs g c el (F a) st = .ok (some (G a)) st) : lcL vs g c el (l.map F) st = .ok (l.map G) st := by
  rw [lcL_fmA F (fun a => some (G a)) h, List.filterMap_eq_map']
/-- some elements, as they are -/
theorem lcL_filA {α : Type} {vs : List Nat} {g : Tg} {c : B'} {el : E} {st : Sl} (F : α → D) (p : α → Bool) {l : List α} (h : ∀ a ∈ l, lc1 vs g c el (F a) st = .ok (if p a then some (F a) else none) st) : lcL vs g c el (l.map F) st = .ok ((l.filter p).map F) st := by
  rw [lcL_fmA F (fun a => if p a then some (F a) else none) h]
  congr 1
  induction l with
  | nil => rfl
  | cons a l ih =>
    rw [List.filterMap_cons, List.filter_cons, ih fun b m => h b (List.mem_cons_of_mem _ m)]
    cases p a <;> simp
theorem gNe_str {i j : Str} (h : PyData.strOk i = true) (h2 : PyData.strOk j = true) : gNe [.str i, .str j] = some (.bl (!(i == j))) := by
  show (if SeqAt.shaped (.str i) && SeqAt.shaped (.str j) then some (D.bl (!PyData.eqv (.str i) (.str j))) else none) = _
  simp [SeqAt.shaped, PyData.canLay0, PyData.depth, PyData.eqv, h, h2]
theorem gSl_lst1 {x : D} {xs : List D} : gSl (.lst (x :: xs)) (some 1) none = some (.lst xs) := by
  have := gSl_drop (ds := x :: xs) (n := 1)
  simpa using this
theorem gAll_mapA {α : Type} {f : α → Bool} {ns : List α} {F : α → D} (h : ∀ a ∈ ns, F a = .bl (f a)) : gAll [.lst (ns.map F)] = some (.bl (ns.all f)) := by
  rw [List.map_congr_left h]; exact gAll_map
theorem gLen_str {x : Str} (h : x.length ≤ sizeLine) : gLen [.str x] = some (.int x.length) := if_pos h
theorem gSl_str {x : Str} {lo hi : Option Int} (h : x.length ≤ sizeLine) : gSl (.str x) lo hi = some (.str (Txt.slice x lo hi)) := if_pos h
def kLr (d : D) (st : Sl) : R D := match d with
  | .int j => (match inR j && decide (j ≤ 2 ^ 24) with
    | true => .ok (.lst (rangeD 0 j.toNat)) st
    | false => .bad)
  | _ => .bad
@[simp] theorem eLr_eq {m : E} {st : Sl} : eLr m st = (m st).bind kLr := rfl
theorem kLr_int {j : Int} {st : Sl} (h : (inR j && decide (j ≤ 2 ^ 24)) = true) : kLr (.int j) st = .ok (.lst (rangeD 0 j.toNat)) st := by unfold kLr; simp only [h]
theorem le24 {j : Int} (h0 : 0 ≤ j) (h : j ≤ 1000) : (inR j && decide (j ≤ 2 ^ 24)) = true := by
  rw [inR_of (by omega) (by omega), decide_eq_true (by omega)]; rfl
theorem kLr_nat {n : Nat} {st : Sl} (h : n ≤ 1000) : kLr (.int n) st = .ok (.lst (rangeD 0 n)) st := kLr_int (le24 (by omega) (by omega))
end Ev
namespace K83
open PySem PySem.Spec PyProof.Rows L2 Ev
open TL
theorem code_ge (d : Int) : 48 ≤ code d := by unfold code; split <;> omega
theorem code_lt {d : Int} (h : d < 12) : code d < 128 := by unfold code; split <;> omega
theorem txt_tl (ds : List Int) : tl (txt ds) = ds.map code := rfl
theorem rowT_free {ds : List Int} : 32 ∉ tl (rowT ds) := by
  cases ds with
  | nil => decide +kernel
  | cons d ds =>
    rw [rowT_cons, txt_tl]
    intro m
    obtain ⟨e, _, he⟩ := List.mem_map.mp m
    have := code_ge e
    omega
theorem rowT_strOk {ds : List Int} (h : ∀ d ∈ ds, d < 12) : PyData.strOk (rowT ds) = true := by
  cases ds with
  | nil => decide +kernel
  | cons d ds =>
    rw [rowT_cons]
    refine strOk_of fun c m => ?_
    rw [txt_tl] at m
    obtain ⟨e, me, rfl⟩ := List.mem_map.mp m
    have := code_lt (h e me)
    omega
theorem dash_row {ds : List Int} (h : ∀ d ∈ ds, d < 12) : gEq [.str (rowT ds), .str (Str.ofString "-")] = some (.bl (decide (ds = []))) := by
  rw [gEq_str (rowT_strOk h) (by decide +kernel)]
  cases ds with
  | nil =>
    have : (rowT [] == Str.ofString "-") = true := by decide +kernel
    rw [this]; rfl
  | cons d ds =>
    have : (rowT (d :: ds) == Str.ofString "-") = false := beq_eq_false_iff_ne.mpr fun e => by
      have e2 := congrArg tl e
      rw [rowT_cons, txt_tl, List.map_cons, show tl (Str.ofString "-") = [45] from by decide +kernel] at e2
      have := code_ge d
      injection e2 with e3 _
      omega
    rw [this]; rfl
theorem empty_row {d : Int} {ds : List Int} (h : ∀ e ∈ d :: ds, e < 12) : gEq [.str (txt (d :: ds)), .str (Str.ofString "")] = some (.bl false) := by
  have e : txt (d :: ds) = rowT (d :: ds) := rfl
  rw [e, gEq_str (rowT_strOk h) (by decide +kernel)]
  have : (rowT (d :: ds) == Str.ofString "") = false := beq_eq_false_iff_ne.mpr fun e => by
    have e2 := congrArg tl e
    rw [rowT_cons, txt_tl, List.map_cons, show tl (Str.ofString "") = [] from by decide +kernel] at e2
    cases e2
  rw [this]
theorem txt_at {ds : List Int} {i : Nat} (hi : i < ds.length) (hl : ds.length < 10000) : gIx [.str (txt ds), .int (i : Int)] = some (.str (chS (ds.getD i 0))) := by
  show (if (txt ds).length ≤ sizeLine then (atI (tl (txt ds)) (i : Int)).map fun c => D.str ⟨#[c]⟩ else none) = _
  rw [if_pos (by rw [txt_len]; exact Nat.le_of_lt (szl hl)), txt_tl, atI_nat, List.getElem?_map, List.getElem?_eq_getElem hi]
  have e : ds.getD i 0 = ds[i] := by simp [hi]
  rw [e]; rfl
section
variable {b r : Nat} {cs : List (List Int)}
theorem split_sheet (h : ShOk b r cs) : gSplitF [.str (sheetT b r cs), .str (Str.ofString " ")] = some (.lst ((baseT b :: rowsT r cs).map .str)) := by
  have e1 : tl (Str.ofString " ") = 32 :: [] := by decide +kernel
  have s := split_join (y := Str.ofString " ") e1 (by decide +kernel) (parts := baseT b :: rowsT r cs) (by simp) fun p m => by
    rcases List.mem_cons.mp m with rfl | m
    · exact (digT_facts h.b2 h.b12).2.2.1
    · obtain ⟨j, mj, rfl⟩ := List.mem_map.mp m
      exact rowT_free
  have l := Nat.le_trans (join_len (y := Str.ofString " ") (parts := baseT b :: rowsT r cs)) (parts_le h)
  show ((if ((Str.ofString " ").length == 0) = false ∧ (sheetT b r cs).length + 2 ≤ sizeLine then some ((Txt.split (sheetT b r cs) (Str.ofString " ")).map D.str) else none).map D.lst) = _
  rw [if_pos ⟨by decide +kernel, Nat.le_trans (Nat.add_le_add_right l 2) (by decide)⟩]
  unfold sheetT
  rw [s]; rfl
theorem read_ok (h : ShOk b r cs) : f_p_read_sheet [.f (.str (sheetT b r cs))] = .ok (dSheet b r cs) [.n] := by
  rw [f_p_read_sheet, runF_eq (by rfl)]
  obtain ⟨f1, f2, f3, f4, f5, f6⟩ := digT_facts h.b2 h.b12
  have sp := split_sheet h
  have r1 := h.r1
  have r4 := h.r4
  have len := h.len
  have b2 := h.b2
  have b12 := h.b12
  have sz2 : ∀ {n : Nat}, n < 10000 → n ≤ sizeLine := fun hn => Nat.le_of_lt (szl hn)
  have bl : (baseT b).length ≤ 3 := by rw [len_tl, f2, List.length_append, ← len_tl]; simp; omega
  have s1 : gSl (.str (baseT b)) none (some (-1)) = some (.str (digT b)) := by rw [gSl_str (sz2 (by omega)), f4]
  have s2 : gSl (.str (baseT b)) (some (-1)) none = some (.str (Str.ofString ":")) := by rw [gSl_str (sz2 (by omega)), f5]
  have ne1 : gNe [.str (Str.ofString ":"), .str (Str.ofString ":")] = some (.bl false) := by rw [gNe_str (by decide +kernel) (by decide +kernel)]; simp
  have nb := num_b h.b2 h.b12
  have gl : gLen [.str (digT b)] = some (.int (digT b).length) := gLen_str (sz2 (by omega))
  have g2 : ¬ ((2 : Int) < (digT b).length) := by omega
  have gi : gInt1 [.str (digT b)] = some (.int b) := by
    show (match PySem.intText? (digT b) with | some n => if (digT b).length ≤ 640 then some (D.int n) else none | none => none) = _
    rw [f6]; exact if_pos (by omega)
  have rl : ((rowsT r cs).map D.str).length = r := by simp [rowsT]
  have hr : ∀ j, j < r → ∀ d ∈ rowAt cs j, d < 12 := fun j hj d m => by have := rowAt_ok h hj d m; omega
  have rt : (rowsT r cs).map D.str = (List.range r).map fun j => D.str (rowT (rowAt cs j)) := by simp [rowsT, rowAt]
  have sl := gSl_lst1 (x := .str (baseT b)) (xs := (rowsT r cs).map D.str)
  have b2' : (2 : Int) ≤ b := by omega
  have b12' : (b : Int) ≤ 12 := by omega
  have r1' : (1 : Int) ≤ r := by omega
  have r4' : (r : Int) ≤ 4 := by omega
  have eD : ∀ (A B C X Y : Cell), lcL [6] (tgN 6) mYes (eOp gEq [(.v 6), (.e (eC (.str "-")))]) ((rowsT r cs).map D.str) [A, B, C, X, Y, .n, .n, .n, .n, .n] = .ok ((List.range r).map fun j => .bl (decide (rowAt cs j = []))) [A, B, C, X, Y, .n, .n, .n, .n, .n] := fun A B C X Y => by
    rw [rt]
    refine lcL_mapA _ _ fun j m => ?_
    have q := dash_row (hr j (List.mem_range.mp m))
    simp -implicitDefEqProofs [-R.bind, q]
  have lD : ((List.range r).map fun j => D.bl (decide (rowAt cs j = []))).length < sizeLine := by simp; exact szl (by omega)
  have gD : gAll [.lst ((List.range r).map fun j => .bl (decide (rowAt cs j = [])))] = some (.bl ((List.range r).all fun j => decide (rowAt cs j = []))) := gAll_map
  have ini := sheet_init h
  simp only [List.map_cons] at sp
  rw [rt] at rl sl sp eD
  generalize hR : ((List.range r).map fun j => D.str (rowT (rowAt cs j))) = R at *
  cases hcs : cs with
  | nil =>
    have a : ((List.range r).all fun j => decide (rowAt cs j = [])) = true := by rw [hcs]; simp [rowAt]
    rw [a] at gD
    rw [← hcs]
    rw [hcs] at ini
    simp only [List.map_nil] at ini
    simp -implicitDefEqProofs [-R.bind, b_p_read_sheet, sp, atI_0, sl, s1, s2, ne1, nb, gl, g2, rl, gi, b2', b12', r1', r4', eD, kLcB_eq lD, gD, ini, fr_sh]
    rw [hcs]
  | cons c0 cs0 =>
    rw [← hcs]
    have nz : ∀ j, rowAt cs j ≠ [] := fun j e => by have := congrArg List.length e; rw [rowAt_len, hcs] at this; cases this
    have a : ((List.range r).all fun j => decide (rowAt cs j = [])) = false := by
      rw [List.all_eq_false]
      exact ⟨0, List.mem_range.mpr (by omega), by rw [decide_eq_false (nz 0)]; exact Bool.false_ne_true⟩
    rw [a] at gD
    have tx : ∀ j, rowT (rowAt cs j) = txt (rowAt cs j) := fun j => by
      cases e : rowAt cs j with
      | nil => exact absurd e (nz j)
      | cons d ds => rfl
    have tl0 : ∀ j, gLen [.str (txt (rowAt cs j))] = some (.int cs.length) := fun j => by rw [gLen_str (by rw [txt_len, rowAt_len]; exact sz2 (by omega)), txt_len, rowAt_len]
    have i0 : L2.atI R 0 = some (.str (txt (rowAt cs 0))) := by
      rw [← hR]
      obtain ⟨k, rfl⟩ : ∃ k, r = k + 1 := ⟨r - 1, by omega⟩
      rw [List.range_succ_eq_map, List.map_cons, atI_0, tx]
    have chars : ∀ j, j < r → ∀ (A B C X Y Z W : Cell), lcL [9] (tgN 9) mYes (eOp (gIn false) [(.v 9), (.e (eSl gSl (eC (.str "0123456789ab")) none (some (eV 4))))]) ((tl (txt (rowAt cs j))).map fun c => .str ⟨#[c]⟩) [A, B, C, X, .f (.int b), Y, .f (.str (txt (rowAt cs j))), Z, W, .n] = .ok ((rowAt cs j).map fun _ => .bl true) [A, B, C, X, .f (.int b), Y, .f (.str (txt (rowAt cs j))), Z, W, .n] := fun j hj A B C X Y Z W => by
      rw [txt_tl, List.map_map]
      refine lcL_mapA _ _ fun d m => ?_
      have fi := fig_in' h.b12 (rowAt_ok h hj d m).1 (rowAt_ok h hj d m).2
      have gs : gSl (.str (Str.ofString "0123456789ab")) none (some (b : Int)) = some (.str (Txt.slice FIG none (some (b : Int)))) := gSl_str (by decide +kernel)
      have fi' : gIn false [.str ⟨#[code d]⟩, .str (Txt.slice FIG none (some (b : Int)))] = some (.bl true) := fi
      simp -implicitDefEqProofs [-R.bind, gs, fi']
    have lC : ∀ j, ((rowAt cs j).map fun _ => D.bl true).length < sizeLine := fun j => by rw [List.length_map, rowAt_len]; exact szl (by omega)
    have loop : ∀ (js : List Nat) (A B C X Z W V : Cell), frC (some V) = true → (∀ j ∈ js, j < r) → ∃ c', frC (some c') = true ∧ forL (tgN 6) (sIf (mOr (mT (eOp gEq [(.v 6), (.e (eC (.str "")))])) (mOr (mT (eOp gNe [(.e (eOp gLen [(.v 6)])), (.v 5)])) (mNot (mTru (.e (eOp gAll [(.e (eFr (eLc [9] (itE (eV 6)) (tgN 9) mYes (eOp (gIn false) [(.v 9), (.e (eSl gSl (eC (.str "0123456789ab")) none (some (eV 4))))]))))])))))) sNever sNil)
        (js.map fun j => D.str (rowT (rowAt cs j))) [A, B, C, X, .f (.int b), .f (.int cs.length), V, .n, .n, .n] = .ok .nx [A, B, C, X, .f (.int b), .f (.int cs.length), c', .n, .n, .n] := by
      intro js
      induction js with
      | nil => intro A B C X Z W V hV _; exact ⟨V, hV, rfl⟩
      | cons j js ih =>
        intro A B C X Z W V hV hj
        obtain ⟨c', hc, e⟩ := ih A B C X Z W (.f (.str (txt (rowAt cs j)))) rfl (fun i m => hj i (List.mem_cons_of_mem _ m))
        refine ⟨c', hc, ?_⟩
        have jr := hj j List.mem_cons_self
        have er : gEq [.str (txt (rowAt cs j)), .str (Str.ofString "")] = some (.bl false) := by
          have := hr j jr
          cases z : rowAt cs j with
          | nil => exact absurd z (nz j)
          | cons d ds => rw [z] at this; exact empty_row this
        have ch := chars j jr
        have ga : gAll [.lst ((rowAt cs j).map fun _ => .bl true)] = some (.bl true) := gAll_true
        rw [List.map_cons, tx, forL_nx (st' := [A, B, C, X, .f (.int b), .f (.int cs.length), .f (.str (txt (rowAt cs j))), .n, .n, .n]) (by simp -implicitDefEqProofs [-R.bind, er, tl0, ch, kLcB_eq (lC j), ga]), e]
    obtain ⟨c', hc, lp⟩ := loop (List.range r) (.f (.str (sheetT b r cs))) (.f (.lst (.str (baseT b) :: R))) (.f (.lst R)) (.f (.str (digT b))) .n .n .n rfl (fun j m => List.mem_range.mp m)
    rw [hR] at lp
    have inner : ∀ i, i < cs.length → ∀ (A B X Y Z V W : Cell), lcL [6] (tgN 6) mYes (eBs gFind (eC (.str "0123456789ab")) [(eOp gIx [(.v 6), (.v 8)])]) R [A, B, X, Y, Z, V, .n, W, .f (nD i), .n] = .ok ((List.range r).map fun j => .int ((rowAt cs j).getD i 0)) [A, B, X, Y, Z, V, .n, W, .f (nD i), .n] := fun i hi A B X Y Z V W => by
      rw [← hR]
      refine lcL_mapA _ _ fun j m => ?_
      have jr := List.mem_range.mp m
      have il : i < (rowAt cs j).length := by rw [rowAt_len]; exact hi
      have ix := txt_at il (by rw [rowAt_len]; omega)
      have ok := rowAt_ok h jr ((rowAt cs j).getD i 0) (by rw [show (rowAt cs j).getD i 0 = (rowAt cs j)[i] by rw [List.getD_eq_getElem?_getD, List.getElem?_eq_getElem il]; rfl]; exact List.getElem_mem il)
      have ff := fig_find' ok.1 (by omega)
      unfold FIG at ff
      rw [tx]
      simp -implicitDefEqProofs [-R.bind, -List.getD_eq_getElem?_getD, nD, ix, ff]
    have lI : ∀ i, ((List.range r).map fun j => D.int ((rowAt cs j).getD i 0)).length < sizeLine := fun i => by simp; exact szl (by omega)
    have colE : ∀ i, i < cs.length → D.tup ((List.range r).map fun j => D.int ((rowAt cs j).getD i 0)) = dcol (cs.reverse.getD i []) := fun i hi => by
      unfold dcol
      have ir : i < cs.reverse.length := by simpa using hi
      have e1 : cs.reverse.getD i [] = cs.reverse[i] := by simp [hi]
      have cl : (cs.reverse[i]).length = r := (h.cols _ (List.mem_reverse.mp (List.getElem_mem ir))).1
      rw [e1]
      have : ∀ j, (rowAt cs j).getD i 0 = (cs.reverse[i]).getD j 0 := fun j => by
        unfold rowAt
        rw [List.getD_eq_getElem?_getD, List.getElem?_map, List.getElem?_eq_getElem ir]; rfl
      simp only [this]
      have e2 := range_getD cl
      conv => rhs; rw [← e2]
      rw [List.map_map]; rfl
    have outer : ∀ (A B Y Z V W : Cell), lcL [8] (tgN 8) mYes (eOp gTuple [(.e (eFr (eLc [6] (itE (eV 2)) (tgN 6) mYes (eBs gFind (eC (.str "0123456789ab")) [(eOp gIx [(.v 6), (.v 8)])]))))]) ((List.range cs.length).map nD) [A, B, .f (.lst R), Y, Z, V, c', W, .n, .n] = .ok ((List.range cs.length).map fun i => dcol (cs.reverse.getD i [])) [A, B, .f (.lst R), Y, Z, V, c', W, .n, .n] := by
      intro A B Y Z V W
      refine lcL_mapA _ _ fun i m => ?_
      have il := List.mem_range.mp m
      have inn := inner i il
      have ce := colE i il
      have hc' := hc
      simp -implicitDefEqProofs [-R.bind, -List.map_map, -List.getD_eq_getElem?_getD, hc', inn, kLcB_eq (lI i), ce]
    have e3 : ((List.range cs.length).map fun i => dcol (cs.reverse.getD i [])) = (cs.map dcol).reverse := by
      rw [← List.map_reverse]
      have e4 : (List.range cs.length).map (fun i => cs.reverse.getD i []) = cs.reverse := by
        apply List.ext_getElem
        · simp
        · intro i h1 h2
          simp at h1
          simp [h1]
      conv => rhs; rw [← e4]
      rw [List.map_map]; rfl
    rw [e3] at outer
    have k1 : ∀ st : Sl, kI1 (.int cs.length) st = .ok ((List.range cs.length).map nD) st := fun st => by rw [kI1_nat (by omega), rangeD_nD]
    have l4 : (cs.map dcol).reverse.length < sizeLine := by simp; exact szl (by omega)
    have g0 := tl0 0
    simp -implicitDefEqProofs [-R.bind, b_p_read_sheet, sp, atI_0, sl, s1, s2, ne1, nb, gl, g2, rl, gi, b2', b12', r1', r4', eD, kLcB_eq lD, gD, i0, g0, lp, k1, outer, kLcB_eq l4, ini, fr_sh]
end
end K83
namespace Ev
open PySem PySem.Spec PyProof.Rows L2
/-- data that == takes: its form, its depth -/
structure PD (d : D) (p : PyData) (n : Nat) : Prop where
  to : toP d = some p
  lay : p.canLay0 = true
  dep : p.depth ≤ n
theorem PD.mono {d : D} {p : PyData} {n m : Nat} (h : PD d p n) (l : n ≤ m) : PD d p m := ⟨h.to, h.lay, Nat.le_trans h.dep l⟩
structure PDs (ds : List D) (ps : List PyData) (n : Nat) : Prop where
  to : toPs ds = some ps
  lay : PyData.canLayAll0 ps = true
  dep : PyData.depthAll ps ≤ n
theorem PDs.nil {n : Nat} : PDs [] [] n := ⟨rfl, rfl, Nat.zero_le _⟩
theorem PDs.cons {d : D} {p : PyData} {ds : List D} {ps : List PyData} {n : Nat} (h : PD d p n) (t : PDs ds ps n) : PDs (d :: ds) (p :: ps) n := by
  refine ⟨?_, ?_, ?_⟩
  · rw [toPs, h.to, t.to]
  · rw [PyData.canLayAll0, h.lay, t.lay]; rfl
  · rw [PyData.depthAll]; exact Nat.max_le.mpr ⟨h.dep, t.dep⟩
theorem PDs.map {α : Type} {F : α → D} {P : α → PyData} {n : Nat} : ∀ {l : List α}, (∀ a ∈ l, PD (F a) (P a) n) → PDs (l.map F) (l.map P) n
  | [], _ => .nil
  | a :: l, h => .cons (h a List.mem_cons_self) (PDs.map fun b m => h b (List.mem_cons_of_mem _ m))
theorem PD.int {i : Int} {n : Nat} : PD (.int i) (.int i) n := ⟨rfl, rfl, Nat.zero_le _⟩
theorem PD.non {n : Nat} : PD .non .none n := ⟨rfl, rfl, Nat.zero_le _⟩
theorem PD.bl {b : Bool} {n : Nat} : PD (.bl b) (.bool b) n := ⟨rfl, rfl, Nat.zero_le _⟩
theorem PD.str {x : Str} {n : Nat} (h : PyData.strOk x = true) : PD (.str x) (.str x) n := ⟨rfl, h, Nat.zero_le _⟩
theorem PD.tup {ds : List D} {ps : List PyData} {n : Nat} (h : PDs ds ps n) : PD (.tup ds) (.tuple ps) (n + 1) := ⟨by rw [toP, h.to]; rfl, h.lay, by show PyData.depthAll ps + 1 ≤ _; have := h.dep; omega⟩
theorem PD.lst {ds : List D} {ps : List PyData} {n : Nat} (h : PDs ds ps n) : PD (.lst ds) (.list ps) (n + 1) := ⟨by rw [toP, h.to]; rfl, h.lay, by show PyData.depthAll ps + 1 ≤ _; have := h.dep; omega⟩
theorem PDs.ints {ns : List Int} {n : Nat} : PDs (ns.map .int) (ns.map .int) n := .map fun _ _ => .int
theorem gEq_PD {d e : D} {p q : PyData} {n m : Nat} (h : PD d p n) (g : PD e q m) (hn : n ≤ 64) (hm : m ≤ 64) : gEq [d, e] = some (.bl (PyData.eqv p q)) := by
  show (match toP d, toP e with
    | some d, some e => if SeqAt.shaped d && SeqAt.shaped e then some (D.bl (PyData.eqv d e)) else none
    | _, _ => none) = _
  rw [h.to, g.to]
  have s1 : SeqAt.shaped p = true := by unfold SeqAt.shaped; rw [h.lay, decide_eq_true (Nat.le_trans h.dep hn)]; rfl
  have s2 : SeqAt.shaped q = true := by unfold SeqAt.shaped; rw [g.lay, decide_eq_true (Nat.le_trans g.dep hm)]; rfl
  simp only [s1, s2]; rfl
theorem gNe_PD {d e : D} {p q : PyData} {n m : Nat} (h : PD d p n) (g : PD e q m) (hn : n ≤ 64) (hm : m ≤ 64) : gNe [d, e] = some (.bl (!PyData.eqv p q)) := by
  show (match toP d, toP e with
    | some d, some e => if SeqAt.shaped d && SeqAt.shaped e then some (D.bl (!PyData.eqv d e)) else none
    | _, _ => none) = _
  rw [h.to, g.to]
  have s1 : SeqAt.shaped p = true := by unfold SeqAt.shaped; rw [h.lay, decide_eq_true (Nat.le_trans h.dep hn)]; rfl
  have s2 : SeqAt.shaped q = true := by unfold SeqAt.shaped; rw [g.lay, decide_eq_true (Nat.le_trans g.dep hm)]; rfl
  simp only [s1, s2]; rfl
theorem gIn_PD {neg : Bool} {d : D} {p : PyData} {es : List D} {qs : List PyData} {n m : Nat} (h : PD d p n) (g : PDs es qs m) (hn : n ≤ 64) (hm : m < 64) : gIn neg [d, .lst es] = some (.bl (neg != qs.any fun z => PyData.eqv z p)) := by
  have e : gIn neg [d, .lst es] = gInD neg [d, .lst es] := by cases d <;> rfl
  rw [e]
  show (match toP d, toP (.lst es) with
    | some d, some (.list ds) => if SeqAt.shaped d && SeqAt.shaped (.list ds) then some (D.bl (neg != ds.any fun z => PyData.eqv z d)) else none
    | _, _ => none) = _
  have gl := PD.lst g
  rw [h.to, gl.to]
  have s1 : SeqAt.shaped p = true := by unfold SeqAt.shaped; rw [h.lay, decide_eq_true (Nat.le_trans h.dep hn)]; rfl
  have s2 : SeqAt.shaped (.list qs) = true := by unfold SeqAt.shaped; rw [gl.lay, decide_eq_true (Nat.le_trans gl.dep (by omega))]; rfl
  simp only [s1, s2]; rfl
mutual
theorem eqv_self : ∀ p : PyData, p.canLay0 = true → PyData.eqv p p = true
  | .none, _ => rfl
  | .bool b, _ => by simp [PyData.eqv]
  | .int i, _ => by simp [PyData.eqv]
  | .str x, _ => by simp [PyData.eqv]
  | .list xs, h => by rw [PyData.eqv]; exact eqvAll_self xs h
  | .tuple xs, h => by rw [PyData.eqv]; exact eqvAll_self xs h
  | .dict _, h => by cases h
theorem eqvAll_self : ∀ ps : List PyData, PyData.canLayAll0 ps = true → PyData.eqvAll ps ps = true
  | [], _ => rfl
  | p :: ps, h => by
    rw [PyData.canLayAll0, Bool.and_eq_true] at h
    rw [PyData.eqvAll, eqv_self p h.1, eqvAll_self ps h.2]; rfl
end
theorem gEq_self {d : D} {p : PyData} {n : Nat} (h : PD d p n) (hn : n ≤ 64) : gEq [d, d] = some (.bl true) := by
  rw [gEq_PD h h hn hn, eqv_self p h.lay]
theorem gNe_self {d : D} {p : PyData} {n : Nat} (h : PD d p n) (hn : n ≤ 64) : gNe [d, d] = some (.bl false) := by
  rw [gNe_PD h h hn hn, eqv_self p h.lay]; rfl
end Ev
namespace K83
open PySem PySem.Spec PyProof.Rows L2 Ev
section
variable {b r : Nat} {cs : List (List Int)}
@[simp] theorem place_ok : f_m_Sheet_place [.f (dSheet b r cs)] = .ok (.tup [.int b, .int r, .int cs.length, .lst (cs.map dcol)]) [.n] := by
  rw [f_m_Sheet_place, runF_eq (by rfl)]; simp -implicitDefEqProofs [-R.bind, b_m_Sheet_place, dSheet]
theorem place_PD : PD (.tup [.int b, .int r, .int cs.length, .lst (cs.map dcol)]) (.tuple [.int b, .int r, .int cs.length, .list (cs.map fun c => .tuple (c.map .int))]) 4 :=
  .tup (.cons .int (.cons .int (.cons .int (.cons (.lst (.map fun _ _ => .tup .ints)) .nil))))
theorem gIsC_sh : gIsC "Sheet" [dSheet b r cs] = some (.bl true) := by
  unfold gIsC
  simp only [isO_sh, if_true]
theorem sh_eq : f_m_Sheet_zeqz [.f (dSheet b r cs), .f (dSheet b r cs)] = .ok (.bl true) [.n, .n] := by
  rw [f_m_Sheet_zeqz, runF_eq (by rfl)]
  have c := gIsC_sh (b := b) (r := r) (cs := cs)
  have e := gEq_self (place_PD (b := b) (r := r) (cs := cs)) (by decide)
  simp -implicitDefEqProofs [-R.bind, b_m_Sheet_zeqz, c, e]
theorem gEqS : gDun (tag2 "Sheet" "Sheet") f_m_Sheet_zeqz [dSheet b r cs, dSheet b r cs] = some (.bl true) :=
  gDun_of (by show (isO "Sheet" (dSheet b r cs) && isO "Sheet" (dSheet b r cs)) = true; rw [isO_sh]; rfl) sh_eq
theorem gNeS : gNeO "Sheet" f_m_Sheet_zeqz [dSheet b r cs, dSheet b r cs] = some (.bl false) := by
  unfold gNeO
  rw [show gDun (tag2 "Sheet" "Sheet") f_m_Sheet_zeqz [dSheet b r cs, dSheet b r cs] = some (.bl true) from gEqS]
  rfl
end
abbrev lapBody : S := (sSeq (sSet 8 (eCall f_p__law_mixed [(.mu 0), (.e (eV 7))]))
  (sSeq (sSet 9 (eOp gAdd [(.e (eC (.int 1))), (.e (eCall f_p__law_take [(.mu 0), (.e (eOp gSub [(.e (eProp "Sheet" f_m_Sheet_rows (.e (eV 1)))), (.e (eC (.int 1)))]))]))]))
  (sSeq (sSet 10 (eFr (eLc [13] (itE (eLst [(eSl gSl (eV 8) none (some (eV 9))), (eSl gSl (eV 8) (some (eV 9)) none)])) (tgN 13) mYes (eCall f_p__law_row [(.e (eCall f_p_add_right [(.e (eCall f_p__law_lot [(.e (eV 1)), (.e (eV 13))]))])), (.e (eV 6))]))))
  (sSeq (sSet 11 (eCall f_p__law_sheet [(.e (eProp "Sheet" f_m_Sheet_base (.e (eV 1)))), (.e (eV 10))]))
  (sSeq (sIf (mOr (mNot (mTru (.e (eCall f_p__law_is_sum [(.e (eV 1)), (.e (eV 2)), (.e (eV 11))])))) (mT (eOpF (gNeO "Sheet" f_m_Sheet_zeqz) [(eCall f_p_read_sheet [(.e (eCall f_p_show_sheet [(.e (eV 11))]))]), (eV 11)]))) (sRet (eC (.bl false))) sNil)
  (sIf (mT (eOpF (gNeO "Written" f_m_Written_zeqz) [(eCall f_p_add_right [(.e (eCall f_p__law_lot [(.e (eV 1)), (.e (eV 8))]))]), (eV 2)])) (sRet (eC (.bl false))) sNil))))))
def rightD (b : Nat) (cs : List (List Int)) : D := dWr b (digs b (valS b cs) cs.length) (valS b cs / (b : Int) ^ cs.length)
theorem lap_ok {b r N : Nat} {cs : List (List Int)} {g : Bag} (h : ShOk b r cs) (hr : 2 ≤ r) (hl : cs.length < 900) (hg : BagOk N g) (hN : N + 100 < 2 ^ 40) (d : D) (c3 c8 c9 c10 c11 : Cell) :
    ∃ g' c3' c8' c9' c10' c11', BagOk (N + 5) g' ∧ fo1 (tgN 3) lapBody d [.o g.d, .f (dSheet b r cs), .f (rightD b cs), c3, .n, .n, .f (.int ((cs.length : Int) + 3)), .f (.lst ((List.range r).map nD)), c8, c9, c10, c11, .n, .n, .n] =
      .ok .nx [.o g'.d, .f (dSheet b r cs), .f (rightD b cs), c3', .n, .n, .f (.int ((cs.length : Int) + 3)), .f (.lst ((List.range r).map nD)), c8', c9', c10', c11', .n, .n, .n] := by
  have r4 := h.r4
  have b12 := h.b12
  obtain ⟨g1, js, hg1, pm, em⟩ := mixed_ok (js := List.range r) (by simp; omega) hg (by simp; omega)
  rw [List.length_range] at hg1
  have jl : js.length = r := by rw [pm.length_eq, List.length_range]
  have jr : ∀ j ∈ js, j < r := fun j m => List.mem_range.mp (pm.mem_iff.mp m)
  obtain ⟨m, g2, m0, m1, hg2, et⟩ := take_ok (many := (r : Int) - 1) hg1 (by omega) (by omega) (by omega)
  obtain ⟨k, hk⟩ : ∃ k : Nat, (k : Int) = 1 + m := ⟨(1 + m).toNat, by omega⟩
  have k1 : 1 ≤ k := by omega
  have k2 : k < r := by omega
  refine ⟨g2, .f d, .f (.lst (js.map nD)), .f (.int k), .f (.lst [dRow (digs b (valS b (cs.map (pick (js.take k)))) (cs.length + 3)), dRow (digs b (valS b (cs.map (pick (js.drop k)))) (cs.length + 3))]),
    .f (dSheet b 2 (colsOf [digs b (valS b (cs.map (pick (js.take k)))) (cs.length + 3), digs b (valS b (cs.map (pick (js.drop k)))) (cs.length + 3)] (cs.length + 3))), hg2.mono (by omega), ?_⟩
  have tj : ∀ j ∈ js.take k, j < r := fun j mm => jr j (List.mem_of_mem_take mm)
  have dj : ∀ j ∈ js.drop k, j < r := fun j mm => jr j (List.mem_of_mem_drop mm)
  have tl1 : (js.take k).length = k := by simp; omega
  have dl1 : (js.drop k).length = r - k := by simp; omega
  obtain ⟨p1, p2, p3, p4⟩ := lot_row h tj (by omega) (by omega) rfl
  obtain ⟨q1, q2, q3, q4⟩ := lot_row h dj (by omega) (by omega) rfl
  obtain ⟨ok2, v2, e2⟩ := two_rows (js1 := js.take k) (js2 := js.drop k) h (by rw [List.take_append_drop]; exact pm) rfl rfl p4 q4 hl
  have is := is_sum_ok (n := 0) h ok2 (by simp [colsOf]) v2
  have sh := show_ok ok2
  have rd := read_ok ok2
  have ne := gNeS (b := b) (r := 2) (cs := colsOf [digs b (valS b (cs.map (pick (js.take k)))) (cs.length + 3), digs b (valS b (cs.map (pick (js.drop k)))) (cs.length + 3)] (cs.length + 3))
  obtain ⟨o1, o2⟩ := lot_ok h jr (by omega) (by omega)
  have o3 := add_right' o1
  rw [List.length_map, valS_perm h.cols pm] at o3
  have nw := gNeW (b := b) (w := digs b (valS b cs) cs.length) (l := valS b cs / (b : Int) ^ cs.length)
  have s1 : gSl (.lst (js.map nD)) none (some (1 + m)) = some (.lst ((js.take k).map nD)) := by rw [← hk, gSl_take, List.map_take]
  have s2 : gSl (.lst (js.map nD)) (some (1 + m)) none = some (.lst ((js.drop k).map nD)) := by rw [← hk, gSl_drop, List.map_drop]
  have cast : (((cs.length + 3 : Nat)) : Int) = (cs.length : Int) + 3 := by omega
  rw [cast] at p3 q3
  rw [tl1] at p1 p2
  rw [dl1] at q1 q2
  rw [jl] at o2 o3
  generalize (dRow (digs b (valS b (cs.map (pick (js.take k)))) (cs.length + 3))) = row1 at *
  generalize (dRow (digs b (valS b (cs.map (pick (js.drop k)))) (cs.length + 3))) = row2 at *
  generalize colsOf [digs b (valS b (cs.map (pick (js.take k)))) (cs.length + 3), digs b (valS b (cs.map (pick (js.drop k)))) (cs.length + 3)] (cs.length + 3) = cs2 at *
  generalize (js.take k).map nD = T1 at *
  generalize (js.drop k).map nD = T2 at *
  have comp : ∀ (A B C X Y Z W V U T : Cell), lcL [13] (tgN 13) mYes (eCall f_p__law_row [(.e (eCall f_p_add_right [(.e (eCall f_p__law_lot [(.e (eV 1)), (.e (eV 13))]))])), (.e (eV 6))]) [.lst T1, .lst T2]
      [A, .f (dSheet b r cs), B, C, X, Y, .f (.int ((cs.length : Int) + 3)), Z, W, V, U, T, .n, .n, .n] = .ok [row1, row2] [A, .f (dSheet b r cs), B, C, X, Y, .f (.int ((cs.length : Int) + 3)), Z, W, V, U, T, .n, .n, .n] := fun A B C X Y Z W V U T => by
    rw [lcL_some (x := row1) (st' := [A, .f (dSheet b r cs), B, C, X, Y, .f (.int ((cs.length : Int) + 3)), Z, W, V, U, T, .n, .n, .n]) (by simp -implicitDefEqProofs [-R.bind, p1, p2, p3]),
      lcL_some (x := row2) (st' := [A, .f (dSheet b r cs), B, C, X, Y, .f (.int ((cs.length : Int) + 3)), Z, W, V, U, T, .n, .n, .n]) (by simp -implicitDefEqProofs [-R.bind, q1, q2, q3])]
    rfl
  have l2 : ([row1, row2] : List D).length < sizeLine := by simp; exact szl (by omega)
  unfold rightD
  rw [hk]
  simp -implicitDefEqProofs [-R.bind, em, et, s1, s2, comp, kLcB_eq l2, e2, is, sh, rd, ne, o2, o3, nw]
end K83
namespace K83
open PySem PySem.Spec PyProof.Rows L2 Ev
abbrev rowBody : S := (sSeq (sSet 12 (eOp gAdd [(.e (eFr (eLc [14] (itE (eProp "Sheet" f_m_Sheet_columns (.e (eV 1)))) (tgN 14) mYes (eOp gIx [(.v 14), (.v 5)])))), (.e (eLst [(eC (.int 0)), (eC (.int 0)), (eC (.int 0))]))]))
  (sSet 4 (eCall f_p__law_row [(.e (eCall f_p_add_right [(.e (eCall f_p__law_sheet [(.e (eProp "Sheet" f_m_Sheet_base (.e (eV 1)))), (.e (eLst [(eV 4), (eV 12)]))]))])), (.e (eV 6))])))
/-- the sum of the rows below j -/
def upTo (b : Int) (cs : List (List Int)) (j : Nat) : Int := valS b (cs.map (pick (List.range j)))
theorem upTo_succ {b : Int} {cs : List (List Int)} {j : Nat} : upTo b cs (j + 1) = upTo b cs j + rowV b cs j := by
  unfold upTo
  rw [valS_pick, valS_pick, List.range_succ, List.map_append, List.sum_append]
  simp
theorem upTo_all {b r : Nat} {cs : List (List Int)} (h : ShOk b r cs) : upTo b cs r = valS b cs := by
  unfold upTo
  rw [pick_range h.cols]
def hereD (b : Nat) (cs : List (List Int)) (j : Nat) : D := dRow (digs b (upTo b cs j) (cs.length + 3))
section
variable {b r : Nat} {cs : List (List Int)}
theorem upTo_ok (h : ShOk b r cs) {j : Nat} (h1 : 1 ≤ j) (hj : j ≤ r) : ShOk b j (cs.map (pick (List.range j))) ∧ f_p__law_lot [.f (dSheet b r cs), .f (.lst ((List.range j).map nD))] = .ok (dSheet b j (cs.map (pick (List.range j)))) [.n, .n] := by
  have := h.r4
  have e := lot_ok (js := List.range j) h (fun i m => by have := List.mem_range.mp m; omega) (by simp; omega) (by simp; omega)
  rw [List.length_range] at e
  exact e
def moreL (cs : List (List Int)) (j : Nat) : List Int := cs.map (fun c => c.getD j 0) ++ [0, 0, 0]
theorem rowV_app (cs : List (List Int)) (j : Nat) : valF b (moreL cs j) 0 = rowV b cs j := by
  unfold moreL
  rw [valF_app]
  have : valF (b : Int) [0, 0, 0] 0 = 0 := by simp [valF]
  rw [this]; rfl
theorem row_ok1 (h : ShOk b r cs) (hl : cs.length < 900) {j : Nat} (h1 : 1 ≤ j) (hj : j < r) (A B X Y Z W V U T c5 c12 : Cell) :
    fo1 (tgN 5) rowBody (nD j) [A, .f (dSheet b r cs), B, X, .f (hereD b cs j), c5, .f (.int ((cs.length : Int) + 3)), Y, Z, W, V, U, c12, .n, .n] =
      .ok .nx [A, .f (dSheet b r cs), B, X, .f (hereD b cs (j + 1)), .f (nD j), .f (.int ((cs.length : Int) + 3)), Y, Z, W, V, U, .f (.lst ((moreL cs j).map .int)), .n, .n] := by
  have r4 := h.r4
  have hb : 0 < (b : Int) := by have := h.b2; omega
  obtain ⟨u1, _⟩ := upTo_ok h h1 (by omega)
  obtain ⟨u2, _⟩ := upTo_ok h (j := j + 1) (by omega) (by omega)
  obtain ⟨v0, v1⟩ := val_lt u1 (m := cs.length + 3) (by rw [List.length_map]; omega)
  have e1 : lcL [14] (tgN 14) mYes (eOp gIx [(.v 14), (.v 5)]) (cs.map dcol) [A, .f (dSheet b r cs), B, X, .f (hereD b cs j), .f (nD j), .f (.int ((cs.length : Int) + 3)), Y, Z, W, V, U, c12, .n, .n] = .ok (cs.map fun c => .int (c.getD j 0)) [A, .f (dSheet b r cs), B, X, .f (hereD b cs j), .f (nD j), .f (.int ((cs.length : Int) + 3)), Y, Z, W, V, U, c12, .n, .n] := by
    refine lcL_mapA _ _ fun c mc => ?_
    have jl : j < c.length := by rw [(h.cols c mc).1]; exact hj
    have ix : L2.atI (c.map D.int) (j : Int) = some (.int (c.getD j 0)) := by rw [atI_nat, List.getElem?_map, List.getElem?_eq_getElem jl]; simp [jl]
    simp -implicitDefEqProofs [-R.bind, -List.getD_eq_getElem?_getD, dcol, nD, ix]
  have l1 : (cs.map fun c => D.int (c.getD j 0)).length < sizeLine := by simp; exact szl (by omega)
  have g1 : gAdd [.lst (cs.map fun c => D.int (c.getD j 0)), .lst [.int 0, .int 0, .int 0]] = some (.lst ((moreL cs j).map .int)) := by
    rw [gAdd_lst (by simp; exact Nat.le_of_lt (szl (by omega)))]
    simp [moreL]
  have hr : ∀ w ∈ [digs b (upTo b cs j) (cs.length + 3), moreL cs j], w.length = cs.length + 3 ∧ ∀ d ∈ w, 0 ≤ d ∧ d < (b : Int) := fun w m => by
    simp only [List.mem_cons, List.not_mem_nil, or_false] at m
    rcases m with rfl | rfl
    · exact ⟨digs_len, fun d m => digs_dig hb m⟩
    · refine ⟨by simp [moreL], fun d m => ?_⟩
      rcases List.mem_append.mp m with m | m
      · obtain ⟨c, mc, rfl⟩ := List.mem_map.mp m
        obtain ⟨l0, d0⟩ := h.cols c mc
        have jl : j < c.length := by rw [l0]; exact hj
        rw [show c.getD j 0 = c[j] by simp [jl]]
        exact d0 _ (List.getElem_mem jl)
      · simp at m; subst m; omega
  obtain ⟨ok, es⟩ := sheet_of_rows (n := cs.length + 3) h.b2 h.b12 (rows := [digs b (upTo b cs j) (cs.length + 3), moreL cs j]) (by simp) (by simp) (by omega) hr
  have vs : valS b (colsOf [digs b (upTo b cs j) (cs.length + 3), moreL cs j] (cs.length + 3)) = upTo b cs (j + 1) := by
    rw [valS_cols fun w m => (hr w m).1, upTo_succ]
    have := digs_small hb v0 v1
    have e : valF (b : Int) (digs b (upTo b cs j) (cs.length + 3)) 0 = upTo b cs j := this
    simp only [List.map_cons, List.map_nil, List.sum_cons, List.sum_nil, e, rowV_app]
    omega
  have ar := add_right' ok
  rw [vs, show (colsOf [digs b (upTo b cs j) (cs.length + 3), moreL cs j] (cs.length + 3)).length = cs.length + 3 by simp [colsOf]] at ar
  have ro := row_ok (b := b) (w := digs b (upTo b cs (j + 1)) (cs.length + 3)) (l := upTo b cs (j + 1) / (b : Int) ^ (cs.length + 3)) (n := cs.length + 3) h.b2 h.b12 (by omega) (by rw [digs_len]; omega)
  rw [row_digs hb (by omega), show ((cs.length + 3 : Nat) : Int) = (cs.length : Int) + 3 by omega] at ro
  have es' : f_p__law_sheet [.f (.int b), .f (.lst [hereD b cs j, .lst ((moreL cs j).map .int)])] = .ok (dSheet b 2 (colsOf [digs b (upTo b cs j) (cs.length + 3), moreL cs j] (cs.length + 3))) [.n, .n] := es
  have ar' : f_p_add_right [.f (dSheet b 2 (colsOf [digs b (upTo b cs j) (cs.length + 3), moreL cs j] (cs.length + 3)))] = _ := ar
  have ro' : f_p__law_row [.f (dWr b (digs b (upTo b cs (j + 1)) (cs.length + 3)) (upTo b cs (j + 1) / (b : Int) ^ (cs.length + 3))), .f (.int ((cs.length : Int) + 3))] = .ok (hereD b cs (j + 1)) [.n, .n] := ro
  generalize colsOf [digs b (upTo b cs j) (cs.length + 3), moreL cs j] (cs.length + 3) = cs2 at *
  generalize (moreL cs j).map D.int = more at *
  simp -implicitDefEqProofs [-R.bind, -List.getD_eq_getElem?_getD, e1, kLcB_eq l1, g1, es', ar', ro']
theorem rows_loop (h : ShOk b r cs) (hl : cs.length < 900) (A B X Y Z W V U : Cell) : ∀ (m j : Nat) (c5 c12 : Cell), 1 ≤ j → j + m = r →
    ∃ c5' c12', forL (tgN 5) rowBody ((List.range' j m).map nD) [A, .f (dSheet b r cs), B, X, .f (hereD b cs j), c5, .f (.int ((cs.length : Int) + 3)), Y, Z, W, V, U, c12, .n, .n] =
      .ok .nx [A, .f (dSheet b r cs), B, X, .f (hereD b cs r), c5', .f (.int ((cs.length : Int) + 3)), Y, Z, W, V, U, c12', .n, .n]
  | 0, j, c5, c12, h1, hj => ⟨c5, c12, by rw [← hj]; rfl⟩
  | m + 1, j, c5, c12, h1, hj => by
    obtain ⟨c5', c12', e⟩ := rows_loop h hl A B X Y Z W V U m (j + 1) (.f (nD j)) (.f (.lst ((moreL cs j).map .int))) (by omega) (by omega)
    refine ⟨c5', c12', ?_⟩
    rw [List.range'_succ, List.map_cons, forL_nx (row_ok1 h hl h1 (by omega) A B X Y Z W V U .n c5 c12), e]
theorem lots_ok {N : Nat} {g : Bag} (h : ShOk b r cs) (hr : 2 ≤ r) (hl : cs.length < 900) (hg : BagOk N g) (hN : N + 1000 < 2 ^ 40) :
    ∃ g', BagOk (N + 10) g' ∧ f_p__law_lots_right [.o g.d, .f (dSheet b r cs), .f (rightD b cs)] = .ok (.bl true) [.o g'.d, .n, .n] := by
  rw [f_p__law_lots_right, runF_eq (by rfl)]
  have r4 := h.r4
  have hb : 0 < (b : Int) := by have := h.b2; omega
  have ln := len_sh (b := b) (r := r) h.len
  obtain ⟨g1, c3, c8, c9, c10, c11, hg1, e1⟩ := lap_ok h hr hl hg (by omega) (.int 0) .n .n .n .n .n
  obtain ⟨g2, c3', c8', c9', c10', c11', hg2, e2⟩ := lap_ok h hr hl hg1 (by omega) (.int 1) c3 c8 c9 c10 c11
  refine ⟨g2, hg2.mono (by omega), ?_⟩
  have laps : forL (tgN 3) lapBody [.int 0, .int 1] [.o g.d, .f (dSheet b r cs), .f (rightD b cs), .n, .n, .n, .f (.int ((cs.length : Int) + 3)), .f (.lst ((List.range r).map nD)), .n, .n, .n, .n, .n, .n, .n] =
      .ok .nx [.o g2.d, .f (dSheet b r cs), .f (rightD b cs), c3', .n, .n, .f (.int ((cs.length : Int) + 3)), .f (.lst ((List.range r).map nD)), c8', c9', c10', c11', .n, .n, .n] := by
    rw [forL_nx e1, forL_nx e2]; rfl
  have kr : ∀ st : Sl, kI1 (.int 2) st = .ok [.int 0, .int 1] st := fun st => kI1_nat (n := 2) (by decide)
  obtain ⟨u1, l1⟩ := upTo_ok h (j := 1) (by omega) (by omega)
  have l1' : f_p__law_lot [.f (dSheet b r cs), .f (.lst [.int 0])] = .ok (dSheet b 1 (cs.map (pick (List.range 1)))) [.n, .n] := l1
  have a1 := add_right' u1
  rw [List.length_map] at a1
  have ro := row_ok (b := b) (w := digs b (upTo b cs 1) cs.length) (l := upTo b cs 1 / (b : Int) ^ cs.length) (n := cs.length + 3) h.b2 h.b12 (by omega) (by rw [digs_len]; omega)
  rw [row_digs hb (by omega), show ((cs.length + 3 : Nat) : Int) = (cs.length : Int) + 3 by omega] at ro
  have ro' : f_p__law_row [.f (dWr b (digs b (valS b (cs.map (pick (List.range 1)))) cs.length) (valS b (cs.map (pick (List.range 1))) / (b : Int) ^ cs.length)), .f (.int ((cs.length : Int) + 3))] = .ok (hereD b cs 1) [.n, .n] := ro
  obtain ⟨c5', c12', lp⟩ := rows_loop h hl (.o g2.d) (.f (rightD b cs)) c3' (.f (.lst ((List.range r).map nD))) c8' c9' c10' c11' (r - 1) 1 .n .n (by omega) (by omega)
  have sl : gSl (.lst ((List.range r).map nD)) (some 1) none = some (.lst ((List.range' 1 (r - 1)).map nD)) := by
    obtain ⟨k, rfl⟩ : ∃ k, r = k + 1 := ⟨r - 1, by omega⟩
    rw [List.range_eq_range', List.range'_succ, List.map_cons, gSl_lst1]
    simp
  obtain ⟨s1, s2, s3, s4⟩ := one_row h hl
  have s4' : f_p__law_sheet [.f (.int b), .f (.lst [hereD b cs r])] = .ok (dSheet b 1 (colsOf [digs b (valS b cs) (cs.length + 3)] (cs.length + 3))) [.n, .n] := by
    unfold hereD
    rw [upTo_all h]; exact s4
  have is := is_sum_ok (n := 0) h s2 (by simp [colsOf]) s3
  have is' : f_p__law_is_sum [.f (dSheet b r cs), .f (rightD b cs), .f (dSheet b 1 (colsOf [digs b (valS b cs) (cs.length + 3)] (cs.length + 3)))] = .ok (.bl true) [.n, .n, .n] := is
  have kl : ∀ st : Sl, kLr (.int r) st = .ok (.lst ((List.range r).map nD)) st := fun st => by rw [kLr_nat (by omega), rangeD_nD]
  generalize rightD b cs = rt at *
  generalize colsOf [digs b (valS b cs) (cs.length + 3)] (cs.length + 3) = cs2 at *
  generalize cs.map (pick (List.range 1)) = cs3 at *
  simp -implicitDefEqProofs [-R.bind, b_p__law_lots_right, ln, kl, kr, laps, l1', a1, ro', sl, lp, s4', is']
end
end K83
namespace Ev
open PySem PySem.Spec PyProof.Rows L2
def kC2w (vs : List Nat) (xs : List D) (st : Sl) : R (List D) := .ok xs (wipeS vs st)
def kC2i (vs vs1 : List Nat) (g1 : Tg) (c1 : B') (el : E) (items : List D) (st : Sl) : R (List D) := (lcL vs1 g1 c1 el items (wipeS vs1 st)).bind (kC2w vs)
def kC2b (vs vs1 : List Nat) (it1 : IE) (g1 : Tg) (c1 : B') (el : E) (b : Bool) (st : Sl) : R (List D) := match b with
  | true => (it1 st).bind (kC2i vs vs1 g1 c1 el)
  | false => .ok [] (wipeS vs st)
def kC2 (vs vs1 : List Nat) (c : B') (it1 : IE) (g1 : Tg) (c1 : B') (el : E) (_ : Unit) (st : Sl) : R (List D) := (c st).bind (kC2b vs vs1 it1 g1 c1 el)
def lc2 (vs vs1 : List Nat) (g : Tg) (c : B') (it1 : IE) (g1 : Tg) (c1 : B') (el : E) (d : D) (st : Sl) : R (List D) := (tgR (g d st)).bind (kC2 vs vs1 c it1 g1 c1 el)
section
variable {vs vs1 : List Nat} {g g1 : Tg} {c c1 : B'} {it it1 : IE} {el : E} {st : Sl}
@[simp] theorem kC2w_eq {xs : List D} : kC2w vs xs st = .ok xs (wipeS vs st) := rfl
@[simp] theorem kC2i_eq {items : List D} : kC2i vs vs1 g1 c1 el items st = (lcL vs1 g1 c1 el items (wipeS vs1 st)).bind (kC2w vs) := rfl
@[simp] theorem kC2b_t : kC2b vs vs1 it1 g1 c1 el true st = (it1 st).bind (kC2i vs vs1 g1 c1 el) := rfl
@[simp] theorem kC2b_f : kC2b vs vs1 it1 g1 c1 el false st = .ok [] (wipeS vs st) := rfl
@[simp] theorem kC2_eq {u : Unit} : kC2 vs vs1 c it1 g1 c1 el u st = (c st).bind (kC2b vs vs1 it1 g1 c1 el) := rfl
@[simp] theorem lc2_eq {d : D} : lc2 vs vs1 g c it1 g1 c1 el d st = (tgR (g d st)).bind (kC2 vs vs1 c it1 g1 c1 el) := rfl
theorem lcL2_of {d : D} {ds xs : List D} {st' : Sl} (h : lc2 vs vs1 g c it1 g1 c1 el d st = .ok xs st') : lcL2 vs vs1 g c it1 g1 c1 el (d :: ds) st = (lcL2 vs vs1 g c it1 g1 c1 el ds st').bind fun ys st => .ok (xs ++ ys) st := by
  unfold lc2 at h
  rw [lcL2]
  cases z : g d st with
  | none => simp [z, tgR, R.bind] at h
  | some st1 =>
    simp only [z, tgR, R.bind, kC2] at h ⊢
    cases z2 : c st1 with
    | bad => simp [z2, R.bind] at h
    | exc a b s => simp [z2, R.bind] at h
    | ok b st2 =>
      simp only [z2, R.bind, kC2b] at h ⊢
      cases b with
      | false =>
        simp only [R.ok.injEq] at h ⊢
        obtain ⟨rfl, rfl⟩ := h
        cases lcL2 vs vs1 g c it1 g1 c1 el ds (wipeS vs st2) <;> rfl
      | true =>
        simp only at h ⊢
        cases z3 : it1 st2 with
        | bad => simp [z3, R.bind] at h
        | exc a b s => simp [z3, R.bind] at h
        | ok items st3 =>
          simp only [z3, R.bind, kC2i] at h ⊢
          cases z4 : lcL vs1 g1 c1 el items (wipeS vs1 st3) with
          | bad => simp [z4, R.bind] at h
          | exc a b s => simp [z4, R.bind] at h
          | ok ys st4 =>
            simp only [z4, R.bind, kC2w, R.ok.injEq] at h ⊢
            obtain ⟨rfl, rfl⟩ := h
            rfl
theorem lcL2_flat {α : Type} (F : α → D) (G : α → List D) : ∀ {l : List α}, (∀ a ∈ l, lc2 vs vs1 g c it1 g1 c1 el (F a) st = .ok (G a) st) → lcL2 vs vs1 g c it1 g1 c1 el (l.map F) st = .ok (l.flatMap G) st
  | [], _ => rfl
  | a :: l, h => by
    rw [List.map_cons, lcL2_of (h a List.mem_cons_self), lcL2_flat F G fun b m => h b (List.mem_cons_of_mem _ m)]
    rfl
def kOkB (k : List D → Sl → R D) : R (List D) → R D
  | .ok xs st => k xs st
  | _ => .bad
@[simp] theorem kOkB_ok {k : List D → Sl → R D} {xs : List D} : kOkB k (.ok xs st) = k xs st := rfl
def kLc2F (vs vs1 : List Nat) (g : Tg) (c : B') (it1 : IE) (g1 : Tg) (c1 : B') (el : E) (items : List D) (st : Sl) : Bool → R D
  | true => kOkB (kLcB vs st) (lcL2 vs vs1 g c it1 g1 c1 el items (wipeS vs st))
  | false => .bad
@[simp] theorem kLc2F_t {items : List D} : kLc2F vs vs1 g c it1 g1 c1 el items st true = kOkB (kLcB vs st) (lcL2 vs vs1 g c it1 g1 c1 el items (wipeS vs st)) := rfl
def kLc2I (vs vs1 : List Nat) (g : Tg) (c : B') (it1 : IE) (g1 : Tg) (c1 : B') (el : E) (items : List D) (st : Sl) : R D := kLc2F vs vs1 g c it1 g1 c1 el items st (frozenAt st vs && decide (st.length ≤ 64))
@[simp] theorem kLc2I_eq {items : List D} : kLc2I vs vs1 g c it1 g1 c1 el items st = kLc2F vs vs1 g c it1 g1 c1 el items st (frozenAt st vs && decide (st.length ≤ 64)) := rfl
@[simp] theorem eLc2_eq : eLc2 vs vs1 it g c it1 g1 c1 el st = (it st).bind (kLc2I vs vs1 g c it1 g1 c1 el) := by
  unfold eLc2
  cases it st with
  | bad => rfl
  | exc a b s => rfl
  | ok items st1 =>
    show (match frozenAt st1 vs && decide (st1.length ≤ 64) with
      | true => (match lcL2 vs vs1 g c it1 g1 c1 el items (wipeS vs st1) with
        | .ok xs st' => if xs.length < sizeLine then R.ok (.lst xs) (backS st1 vs st') else .bad
        | _ => .bad)
      | false => .bad) = kLc2F vs vs1 g c it1 g1 c1 el items st1 (frozenAt st1 vs && decide (st1.length ≤ 64))
    cases frozenAt st1 vs && decide (st1.length ≤ 64) with
    | false => rfl
    | true =>
      show _ = kOkB (kLcB vs st1) (lcL2 vs vs1 g c it1 g1 c1 el items (wipeS vs st1))
      cases lcL2 vs vs1 g c it1 g1 c1 el items (wipeS vs st1) <;> rfl
end
def kR2b (d e : D) (st : Sl) : R (List D) := kR2 d e st
def kR2a (n : E) (d : D) (st : Sl) : R (List D) := (n st).bind (kR2b d)
@[simp] theorem kR2a_eq {n : E} {d : D} {st : Sl} : kR2a n d st = (n st).bind (kR2b d) := rfl
@[simp] theorem itR2_eq {m n : E} {st : Sl} : itR2 m n st = (m st).bind (kR2a n) := rfl
theorem kR2b_int {i j : Int} {st : Sl} (h : -(2 ^ 62) ≤ i ∧ i < 2 ^ 62) (h2 : -(2 ^ 62) ≤ j ∧ j < 2 ^ 62) : kR2b (.int i) (.int j) st = .ok (rangeD i (j - i).toNat) st := by
  show (match inR i && inR j with
    | true => R.ok (rangeD i (j - i).toNat) st
    | false => .bad) = _
  rw [inR_of h.1 h.2, inR_of h2.1 h2.2]; rfl
theorem eMutF_of {g : List D → List D → Option (D × List D)} {i : Nat} {f c : Str} {ns : List Str} {ds es es' as : List D} {ms : List E} {st st1 : Sl} {d : D} (h : st[i]? = some (.o (.obj c ns ds))) (h2 : lookF ns ds f = some (.lst es)) (h3 : evAll ms (st.set i .n) = .ok as st1) (h4 : st1[i]? = some .n) (h5 : g es as = some (d, es')) :
    eMutF g i f ms st = .ok d (st1.set i (.o (.obj c ns (putD f (.lst es') ns ds)))) := by
  unfold eMutF
  simp only [h, h2, h3, h4, h5]
theorem eIxH_of {i : Nat} {f c : Str} {ns : List Str} {ds es : List D} {st : Sl} {d : D} {k : Int} (h : st[i]? = some (.o (.obj c ns ds))) (ho : owf f = true) (h2 : lookF ns ds f = some (.lst es)) (h3 : L2.atI es k = some d) : eIxH i f k st = .ok d st := by
  unfold eIxH
  simp only [h, ho, h2, h3]
theorem eLcH_of {vs : List Nat} {en : Bool} {i : Nat} {f cn : Str} {g : Tg} {c : B'} {el : E} {ns : List Str} {ds es xs : List D} {st st' : Sl} (h : st[i]? = some (.o (.obj cn ns ds))) (ho : owf f = true) (h2 : lookF ns ds f = some (.lst es)) (hf : frozenAt (st.set i .n) vs = true) (hl : st.length ≤ 64)
    (h3 : lcL vs g c el (evH en es) (wipeS vs (st.set i .n)) = .ok xs st') (hx : xs.length < sizeLine) (h4 : (backS (st.set i .n) vs st')[i]? = some .n) : eLcH vs en i f g c el st = .ok (.lst xs) ((backS (st.set i .n) vs st').set i (.o (.obj cn ns ds))) := by
  unfold eLcH
  simp only [h, ho, h2]
  have e : (frozenAt (st.set i .n) vs && decide (st.length ≤ 64)) = true := by rw [hf, decide_eq_true hl]; rfl
  simp only [e, h3, if_pos hx, h4]
def kSfO (i : Nat) (f : Str) (d : D) (st : Sl) : Option Cell → Option Sl
  | some (.o (.obj c ns ds)) => (match d with
    | .lst _ => (match decide (ns.length < 1000), owf f with
      | true, true => some (st.set i (.o (.obj c (putN f ns) (putD f d ns ds))))
      | _, _ => none)
    | _ => none)
  | _ => none
def kAsO (i : Nat) (f : Str) (d : D) (st : Sl) : R Fl := kSt (setFldO i f d st)
@[simp] theorem kAsO_eq {i : Nat} {f : Str} {d : D} {st : Sl} : kAsO i f d st = kSt (setFldO i f d st) := rfl
@[simp] theorem sAsgO_eq {m : E} {i : Nat} {f : Str} {st : Sl} : sAsgO m i f st = (m st).bind (kAsO i f) := by
  unfold sAsgO
  cases m st with
  | bad => rfl
  | exc a b s => rfl
  | ok d st1 => show (match setFldO i f d st1 with | some st => R.ok Fl.nx st | none => .bad) = kSt (setFldO i f d st1); cases setFldO i f d st1 <;> rfl
def kMfD (n : Nat) : Out → Out
  | .ok d cs => .ok d (cs.take n)
  | .exc c x cs => .exc c x (cs.take n)
  | .bad => .bad
@[simp] theorem kMfD_ok {n : Nat} {d : D} {cs : List Cell} : kMfD n (.ok d cs) = .ok d (cs.take n) := rfl
@[simp] theorem mfD_eq {mf : MF} {dcs cs : List Cell} : mfD mf dcs cs = kMfD cs.length (mf (cs ++ dcs)) := by
  unfold mfD kMfD
  cases mf (cs ++ dcs) <;> rfl
end Ev
namespace K83
open PySem PySem.Spec PyProof.Rows L2 Ev
inductive Dg where
  | forget | again | off (d : Nat) | read (j d : Nat) | copy (j : Nat) | swap | out | twice
  deriving DecidableEq
def Dg.w : Dg → Str
  | .forget => "forget" | .again => "again" | .off _ => "off" | .read _ _ => "read" | .copy _ => "copy" | .swap => "swap" | .out => "out" | .twice => "twice"
def Dg.a : Dg → List Int
  | .off d => [d] | .read j d => [j, d] | .copy j => [j] | _ => []
def Dg.d (x : Dg) : D := .tup (.str x.w :: x.a.map .int)
def Dg.p (x : Dg) : PyData := .tuple (.str x.w :: x.a.map .int)
def Dg.Ok (b r : Nat) : Dg → Prop
  | .off d => 1 ≤ d ∧ d < b | .read j d => j < r ∧ 1 ≤ d ∧ d < b | .copy j => j < r | _ => True
theorem Dg.w_ok (x : Dg) : PyData.strOk x.w = true := by cases x <;> (simp only [Dg.w]; decide +kernel)
theorem Dg.pd (x : Dg) : PD x.d x.p 1 := .tup (.cons (.str x.w_ok) .ints)
theorem Dg.eqv (x y : Dg) : PyData.eqv x.p y.p = decide (x = y) := by
  unfold Dg.p
  rw [PyData.eqv, PyData.eqvAll, PyData.eqv, eqv_ints]
  have key : (x.w == y.w && x.a == y.a) = true ↔ x = y := by
    rw [Bool.and_eq_true, beq_iff_eq, beq_iff_eq]
    refine ⟨fun ⟨h1, h2⟩ => ?_, fun h => by rw [h]; exact ⟨rfl, rfl⟩⟩
    cases x <;> cases y <;> first
      | rfl
      | (exfalso; revert h1; simp only [Dg.w]; decide +kernel)
      | (simp [Dg.a] at h2; simp; omega)
  by_cases h : x = y
  · rw [decide_eq_true h]; exact key.mpr h
  · rw [decide_eq_false h]
    cases z : (x.w == y.w && x.a == y.a) with
    | false => rfl
    | true => exact absurd (key.mp z) h
theorem gEq_dg (x y : Dg) : gEq [x.d, y.d] = some (.bl (decide (x = y))) := by rw [gEq_PD x.pd y.pd (by decide) (by decide), Dg.eqv]
theorem gIn_dg (x : Dg) (ys : List Dg) (neg : Bool) : gIn neg [x.d, .lst (ys.map Dg.d)] = some (.bl (neg != decide (x ∈ ys))) := by
  rw [gIn_PD x.pd (PDs.map (P := Dg.p) (n := 1) fun y _ => y.pd) (by decide) (by decide)]
  congr 3
  rw [List.any_map]
  induction ys with
  | nil => simp
  | cons y ys ih =>
    rw [List.any_cons, ih]
    show (PyData.eqv y.p x.p || decide (x ∈ ys)) = _
    rw [Dg.eqv]
    by_cases h : y = x
    · subst h; simp
    · have h' : x ≠ y := fun e => h e.symm
      simp [h, h']
theorem inPl (x : Dg) : gIn false [.str x.w, .tup ((["forget", "again", "swap", "out", "twice"] : List PySem.Str).map .str)] = some (.bl (x.a == [] )) := by
  cases x <;> rfl
theorem isd_ok {b r : Nat} {x : Dg} (h : x.Ok b r) : f_p_is_deed [.f x.d, .f (.int b), .f (.int r)] = .ok (.bl true) [.n, .n, .n] := by
  rw [f_p_is_deed, runF_eq (by rfl)]
  have sz : x.a.length < sizeLine := by cases x <;> simp [Dg.a] <;> exact szl (by omega)
  have g : gAll [.lst (x.a.map fun _ => .bl true)] = some (.bl true) := gAll_true
  have e : lcL [4] (tgN 4) mYes (eCall f_p_is_integer [(.e (eV 4))]) (x.a.map .int) [.f x.d, .f (.int b), .f (.int r), .n, .n] = .ok (x.a.map fun _ => .bl true) [.f x.d, .f (.int b), .f (.int r), .n, .n] := by
    refine lcL_mapA _ _ fun i m => ?_
    simp -implicitDefEqProofs [-R.bind]
  have l : (x.a.map fun _ => D.bl true).length < sizeLine := by rw [List.length_map]; exact sz
  have p := inPl x
  simp only [List.map_cons, List.map_nil] at p
  have k : ∀ (vs : List Nat) (st0 st : Sl), kLcB vs st0 (x.a.map fun _ => .bl true) st = .ok (.lst (x.a.map fun _ => .bl true)) (backS st0 vs st) := fun vs st0 st => kLcB_eq l
  have q1 : gEq [.str x.w, .str "off"] = some (.bl (match x with | .off _ => true | _ => false)) := by rw [gEq_str x.w_ok (by decide +kernel)]; cases x <;> rfl
  have q2 : gEq [.str x.w, .str "copy"] = some (.bl (match x with | .copy _ => true | _ => false)) := by rw [gEq_str x.w_ok (by decide +kernel)]; cases x <;> rfl
  have q3 : gEq [.str x.w, .str "read"] = some (.bl (match x with | .read _ _ => true | _ => false)) := by rw [gEq_str x.w_ok (by decide +kernel)]; cases x <;> rfl
  have a2 : ∀ a c d : D, L2.atI [a, c, d] 2 = some d := fun a c d => rfl
  unfold Dg.d at e ⊢
  cases x with
  | off d =>
    obtain ⟨h1, h2⟩ := h
    have h1' : (1 : Int) ≤ d := by omega
    simp -implicitDefEqProofs [-R.bind, Dg.a] at e k g p q1 q2 q3 ⊢
    simp -implicitDefEqProofs [-R.bind, b_p_is_deed, atI_0, atI_1, gSl_tup1, e, k, g, p, q1, q2, q3, h1', h2]
  | read j d =>
    obtain ⟨h0, h1, h2⟩ := h
    have h1' : (1 : Int) ≤ d := by omega
    have h0' : (0 : Int) ≤ j := by omega
    simp -implicitDefEqProofs [-R.bind, Dg.a] at e k g p q1 q2 q3 ⊢
    simp -implicitDefEqProofs [-R.bind, b_p_is_deed, atI_0, atI_1, a2, gSl_tup1, e, k, g, p, q1, q2, q3, h0, h0', h1', h2]
  | copy j =>
    have h0 : j < r := h
    have h0' : (0 : Int) ≤ j := by omega
    simp -implicitDefEqProofs [-R.bind, Dg.a] at e k g p q1 q2 q3 ⊢
    simp -implicitDefEqProofs [-R.bind, b_p_is_deed, atI_0, atI_1, gSl_tup1, e, k, g, p, q1, q2, q3, h0, h0']
  | _ =>
    simp -implicitDefEqProofs [-R.bind, Dg.a] at e k g p q1 q2 q3 ⊢
    simp -implicitDefEqProofs [-R.bind, b_p_is_deed, atI_0, atI_1, gSl_tup1, e, k, g, p, q1, q2, q3]
end K83
namespace K83
open PySem PySem.Spec PyProof.Rows L2 Ev
def offs (b : Nat) : List Nat := (List.range (b - 1)).map (1 + ·)
def allG (b r : Nat) : List Dg := [.forget, .again] ++ (offs b).map .off ++ ((List.range r).flatMap fun j => (offs b).map (.read j)) ++ (List.range r).map .copy ++ [.swap, .out, .twice]
theorem mem_offs {b d : Nat} : d ∈ offs b ↔ 1 ≤ d ∧ d < b := by
  unfold offs
  rw [List.mem_map]
  constructor
  · rintro ⟨i, m, rfl⟩
    have := List.mem_range.mp m
    omega
  · rintro ⟨h1, h2⟩
    exact ⟨d - 1, List.mem_range.mpr (by omega), by omega⟩
theorem mem_allG {b r : Nat} {x : Dg} : x ∈ allG b r ↔ x.Ok b r := by
  unfold allG
  simp only [List.mem_append, List.mem_map, List.mem_flatMap, List.mem_range, mem_offs, List.mem_cons, List.not_mem_nil, or_false]
  cases x <;> simp [Dg.Ok]
theorem offs_nodup {b : Nat} : (offs b).Nodup := by
  unfold offs List.Nodup
  rw [List.pairwise_map]
  exact List.nodup_range.imp fun h e => h (by omega)
theorem allG_nodup {b r : Nat} : (allG b r).Nodup := by
  unfold allG List.Nodup
  simp only [List.pairwise_append, List.pairwise_map, List.pairwise_flatMap, List.mem_append, List.mem_map, List.mem_flatMap, List.mem_range, List.mem_cons, List.not_mem_nil, or_false]
  have o := offs_nodup (b := b)
  have rn : (List.range r).Nodup := List.nodup_range
  refine ⟨⟨⟨⟨by decide, o.imp fun h e => h (by injection e), ?_⟩, ⟨fun j _ => o.imp fun h e => h (by injection e), rn.imp fun h x hx y hy e => ?_⟩, ?_⟩, rn.imp fun h e => h (by injection e), ?_⟩, by decide, ?_⟩
  · rintro a (rfl | rfl) c ⟨d, _, rfl⟩ <;> intro e <;> cases e
  · obtain ⟨_, _, rfl⟩ := hx
    obtain ⟨_, _, rfl⟩ := hy
    injection e with e1 _
    exact h e1
  · rintro a ((rfl | rfl) | ⟨d, _, rfl⟩) c ⟨j, _, d, _, rfl⟩ <;> intro e <;> cases e
  · rintro a (((rfl | rfl) | ⟨d, _, rfl⟩) | ⟨j, _, d, _, rfl⟩) c ⟨j, _, rfl⟩ <;> intro e <;> cases e
  · rintro a ((((rfl | rfl) | ⟨d, _, rfl⟩) | ⟨j, _, d, _, rfl⟩) | ⟨j, _, rfl⟩) c (rfl | rfl | rfl) <;> intro e <;> cases e
def held (b r : Nat) (ks : List Dg) : List Dg := (allG b r).filter fun x => decide (x ∈ ks)
theorem held_perm {b r : Nat} {ks : List Dg} (nd : ks.Nodup) (h : ∀ x ∈ ks, x.Ok b r) : (held b r ks).Perm ks := by
  refine (List.perm_ext_iff_of_nodup (allG_nodup.filter _) nd).mpr fun x => ?_
  rw [List.mem_filter, mem_allG]
  simp only [decide_eq_true_eq]
  exact ⟨fun z => z.2, fun z => ⟨h x z, z⟩⟩
def all1 (b : Nat) : List Dg := [.forget, .again] ++ (offs b).map .off
def all2 (b r : Nat) : List Dg := all1 b ++ ((List.range r).flatMap fun j => (offs b).map (.read j))
def all3 (b r : Nat) : List Dg := all2 b r ++ (List.range r).map .copy
theorem all_deeds {b r : Nat} (b2 : 2 ≤ b) (b12 : b ≤ 12) (r4 : r ≤ 4) : f_p_all_deeds [.f (.int b), .f (.int r)] = .ok (.lst ((allG b r).map Dg.d)) [.n, .n] := by
  rw [f_p_all_deeds, runF_eq (by rfl)]
  have bt : ((b : Int) - 1).toNat = b - 1 := by omega
  have k2 : ∀ st : Sl, kR2b (.int 1) (.int b) st = .ok ((List.range (b - 1)).map fun i : Nat => .int (1 + (i : Int))) st := fun st => by
    rw [kR2b_int (by omega) (by omega), bt]; rfl
  have k1 : ∀ st : Sl, kI1 (.int r) st = .ok ((List.range r).map nD) st := fun st => by rw [kI1_nat (by omega), rangeD_nD]
  have e1 : ∀ (A B C X : Cell), lcL [3] (tgN 3) mYes (eTup [(eC (.str "off")), (eV 3)]) ((List.range (b - 1)).map fun i : Nat => .int (1 + (i : Int))) [A, B, C, .n, X] = .ok (((offs b).map .off).map Dg.d) [A, B, C, .n, X] := fun A B C X => by
    rw [lcL_mapA _ (fun i : Nat => (Dg.off (1 + i)).d) fun i m => by simp -implicitDefEqProofs [-R.bind, Dg.d, Dg.w, Dg.a]]
    congr 1
    unfold offs
    rw [List.map_map, List.map_map]; rfl
  have e3 : ∀ (A B C X : Cell), lcL [4] (tgN 4) mYes (eTup [(eC (.str "copy")), (eV 4)]) ((List.range r).map nD) [A, B, C, X, .n] = .ok (((List.range r).map .copy).map Dg.d) [A, B, C, X, .n] := fun A B C X => by
    rw [lcL_mapA _ (fun i : Nat => (Dg.copy i).d) fun i m => by simp -implicitDefEqProofs [-R.bind, Dg.d, Dg.w, Dg.a, nD]]
    congr 1
    rw [List.map_map]; rfl
  have e2i : ∀ (A C : Cell) (j : Nat), lcL [3] (tgN 3) mYes (eTup [(eC (.str "read")), (eV 4), (eV 3)]) ((List.range (b - 1)).map fun i : Nat => .int (1 + (i : Int))) [.f (.int b), A, C, .n, .f (nD j)] = .ok (((offs b).map (.read j)).map Dg.d) [.f (.int b), A, C, .n, .f (nD j)] := fun A C j => by
    rw [lcL_mapA _ (fun i : Nat => (Dg.read j (1 + i)).d) fun i m => by simp -implicitDefEqProofs [-R.bind, Dg.d, Dg.w, Dg.a, nD]]
    congr 1
    unfold offs
    rw [List.map_map, List.map_map]; rfl
  have e2 : ∀ (A C : Cell), lcL2 [4, 3] [3] (tgN 4) mYes (itR2 (eC (.int 1)) (eV 0)) (tgN 3) mYes (eTup [(eC (.str "read")), (eV 4), (eV 3)]) ((List.range r).map nD) [.f (.int b), A, C, .n, .n] = .ok (((List.range r).flatMap fun j => (offs b).map (.read j)).map Dg.d) [.f (.int b), A, C, .n, .n] := fun A C => by
    rw [lcL2_flat _ (fun j => ((offs b).map (.read j)).map Dg.d) fun j m => by simp -implicitDefEqProofs [-R.bind, -List.map_map, k2, e2i]]
    rw [List.map_flatMap]
  have ol : (offs b).length ≤ 11 := by unfold offs; simp; omega
  have fl : ((List.range r).flatMap fun j => (offs b).map (Dg.read j)).length ≤ 44 := by
    rw [List.length_flatMap]
    have := sum_le (f := fun j => ((offs b).map (Dg.read j)).length) (N := 11) (l := List.range r) fun j m => by rw [List.length_map]; exact ol
    rw [List.length_range] at this
    exact Nat.le_trans this (by omega)
  have l1 : (((offs b).map Dg.off).map Dg.d).length < sizeLine := by simp; exact szl (by omega)
  have l2 : (((List.range r).flatMap fun j => (offs b).map (Dg.read j)).map Dg.d).length < sizeLine := by rw [List.length_map]; exact szl (by omega)
  have l3 : (((List.range r).map Dg.copy).map Dg.d).length < sizeLine := by simp; exact szl (by omega)
  have m1 : (all1 b).length = 2 + (offs b).length := by simp [all1]; omega
  have m2 : (all2 b r).length = (all1 b).length + ((List.range r).flatMap fun j => (offs b).map (Dg.read j)).length := by unfold all2; rw [List.length_append]
  have m3 : (all3 b r).length = (all2 b r).length + r := by simp [all3]
  have g1 : gAdd [.lst [.tup [.str "forget"], .tup [.str "again"]], .lst (((offs b).map Dg.off).map Dg.d)] = some (.lst ((all1 b).map Dg.d)) := by
    rw [gAdd_lst (by rw [List.length_map, List.length_map]; exact Nat.le_of_lt (szl (by simp only [List.length_cons, List.length_nil]; omega)))]
    unfold all1
    rw [List.map_append]; rfl
  have g2 : gAdd [.lst ((all1 b).map Dg.d), .lst (((List.range r).flatMap fun j => (offs b).map (Dg.read j)).map Dg.d)] = some (.lst ((all2 b r).map Dg.d)) := by
    rw [gAdd_lst (by rw [List.length_map, List.length_map]; exact Nat.le_of_lt (szl (by omega)))]
    rw [← List.map_append]; rfl
  have g3 : gAdd [.lst ((all2 b r).map Dg.d), .lst (((List.range r).map Dg.copy).map Dg.d)] = some (.lst ((all3 b r).map Dg.d)) := by
    rw [gAdd_lst (by rw [List.length_map, List.length_map, List.length_map, List.length_range]; exact Nat.le_of_lt (szl (by omega)))]
    rw [← List.map_append]; rfl
  have g4 : gAdd [.lst ((all3 b r).map Dg.d), .lst [.tup [.str "swap"], .tup [.str "out"], .tup [.str "twice"]]] = some (.lst ((allG b r).map Dg.d)) := by
    rw [gAdd_lst (by rw [List.length_map]; exact Nat.le_of_lt (szl (by simp only [List.length_cons, List.length_nil]; omega)))]
    have : allG b r = all3 b r ++ [.swap, .out, .twice] := rfl
    rw [this, List.map_append]; rfl
  generalize (((offs b).map Dg.off).map Dg.d) = y1 at *
  generalize (((List.range r).flatMap fun j => (offs b).map (Dg.read j)).map Dg.d) = y2 at *
  generalize (((List.range r).map Dg.copy).map Dg.d) = y3 at *
  simp -implicitDefEqProofs [-R.bind, b_p_all_deeds, k2, k1, e1, kLcB_eq l1, g1, e2, kLcB_eq l2, g2, e3, kLcB_eq l3, g3, g4]
end K83
namespace K83
open PySem PySem.Spec PyProof.Rows L2 Ev
theorem ncols {b r : Nat} (b12 : b ≤ 12) (r4 : r ≤ 4) : f_p_number_of_columns [.f (.int b), .f (.int r)] = .ok (.int ((b : Int) ^ r)) [.n, .n] := by
  rw [f_p_number_of_columns, runF_eq (by rfl)]
  have pw : ∀ (ds : List D) (p : Int) (A c : Cell), ∃ c', forL (tgN 3) (sSet 2 (eOp gMul [(.v 2), (.v 0)])) ds [.f (.int b), A, .f (.int p), c] = .ok .nx [.f (.int b), A, .f (.int (p * (b : Int) ^ ds.length)), c'] := by
    intro ds
    induction ds with
    | nil => intro p A c; exact ⟨c, by simp⟩
    | cons d ds ih =>
      intro p A c
      obtain ⟨c', e⟩ := ih (p * b) A (.f d)
      refine ⟨c', ?_⟩
      rw [forL_nx (st' := [.f (.int b), A, .f (.int (p * b)), .f d]) (by simp -implicitDefEqProofs [-R.bind, gMul_b b12]), e, List.length_cons, Int.pow_succ, Int.mul_comm ((b : Int) ^ ds.length), Int.mul_assoc]
  obtain ⟨c', e⟩ := pw (rangeD 0 r) 1 (.f (.int r)) .n
  rw [rangeD_len, Int.one_mul] at e
  have k1 : ∀ st : Sl, kI1 (.int r) st = .ok (rangeD 0 r) st := fun st => kI1_nat (by omega)
  simp -implicitDefEqProofs [-R.bind, b_p_number_of_columns, k1, e]
def dKind (b r : Nat) (hs : List Dg) (m : Nat) : D := .obj "Kind" ["held_base", "held_rows", "held_deeds", "held_most"] [.int b, .int r, .lst (hs.map Dg.d), .int m]
@[simp] theorem sf_ki0 {c : Str} {d : D} {st : Sl} : setFld 0 "held_base" d (.o (.obj c [] []) :: st) = some (.o (.obj c ["held_base"] [d]) :: st) := rfl
@[simp] theorem sf_ki2 {c : Str} {a0 a1 d : D} {st : Sl} : setFld 0 "held_deeds" d (.o (.obj c ["held_base", "held_rows"] [a0, a1]) :: st) = some (.o (.obj c ["held_base", "held_rows", "held_deeds"] [a0, a1, d]) :: st) := rfl
@[simp] theorem sf_ki3 {c : Str} {a0 a1 a2 d : D} {st : Sl} : setFld 0 "held_most" d (.o (.obj c ["held_base", "held_rows", "held_deeds"] [a0, a1, a2]) :: st) = some (.o (.obj c ["held_base", "held_rows", "held_deeds", "held_most"] [a0, a1, a2, d]) :: st) := rfl
structure KiOk (b r : Nat) (ks : List Dg) (m : Nat) : Prop where
  b2 : 2 ≤ b
  b12 : b ≤ 12
  r1 : 1 ≤ r
  r4 : r ≤ 4
  few : (b : Int) ^ r ≤ 1000
  nd : ks.Nodup
  ok : ∀ x ∈ ks, x.Ok b r
  k1 : 1 ≤ ks.length
  k8 : ks.length ≤ 8
  m1 : 1 ≤ m
  m3 : m ≤ 3
theorem kind_init {b r m : Nat} {ks : List Dg} (h : KiOk b r ks m) : f_m_Kind_zinitz [.o (.obj "Kind" [] []), .f (.int b), .f (.int r), .f (.lst (ks.map Dg.d)), .f (.int m)] = .ok .non [.o (dKind b r (held b r ks) m), .n, .n, .n, .n] := by
  rw [f_m_Kind_zinitz, runF_eq (by rfl)]
  obtain ⟨b2, b12, r1, r4, few, nd, ok, k1, k8, m1, m3⟩ := h
  have nc := ncols b12 r4
  have few' : ¬ ((1000 : Int) < (b : Int) ^ r) := by omega
  have b2' : (2 : Int) ≤ b := by omega
  have b12' : (b : Int) ≤ 12 := by omega
  have r1' : (1 : Int) ≤ r := by omega
  have r4' : (r : Int) ≤ 4 := by omega
  have m1' : (1 : Int) ≤ m := by omega
  have m3' : (m : Int) ≤ 3 := by omega
  have e : ∀ (A C X Y : Cell), lcL [6] (tgN 6) mYes (eCall f_p_is_deed [(.e (eV 6)), (.e (eV 1)), (.e (eV 2))]) (ks.map Dg.d) [A, .f (.int b), .f (.int r), X, Y, C, .n] = .ok (ks.map fun _ => .bl true) [A, .f (.int b), .f (.int r), X, Y, C, .n] := fun A C X Y => by
    refine lcL_mapA _ _ fun x mx => ?_
    have d := isd_ok (ok x mx)
    simp -implicitDefEqProofs [-R.bind, d]
  have l : (ks.map fun _ => D.bl true).length < sizeLine := by simp; exact szl (by omega)
  have g : gAll [.lst (ks.map fun _ => .bl true)] = some (.bl true) := gAll_true
  have ad := all_deeds b2 b12 r4
  have f : ∀ (A B C X : Cell), lcL [6] (tgN 6) (mT (eOp (gIn false) [(.v 6), (.v 3)])) (eV 6) ((allG b r).map Dg.d) [A, B, C, .f (.lst (ks.map Dg.d)), X, .n, .n] = .ok ((held b r ks).map Dg.d) [A, B, C, .f (.lst (ks.map Dg.d)), X, .n, .n] := fun A B C X => by
    refine lcL_filA _ _ fun x mx => ?_
    have gi := gIn_dg x ks false
    cases z : decide (x ∈ ks) with
    | true => rw [z] at gi; simp -implicitDefEqProofs [-R.bind, gi]
    | false => rw [z] at gi; simp -implicitDefEqProofs [-R.bind, gi]
  have hl : (held b r ks).length = ks.length := (held_perm nd ok).length_eq
  have l2 : ((held b r ks).map Dg.d).length < sizeLine := by rw [List.length_map, hl]; exact szl (by omega)
  have h1 : (1 : Int) ≤ ks.length := by omega
  have h8 : (ks.length : Int) ≤ 8 := by omega
  simp -implicitDefEqProofs [-R.bind, -List.map_const', -List.map_const, b_m_Kind_zinitz, nc, few', b2', b12', r1', r4', m1', m3', e, kLcB_eq l, g, ad, f, kLcB_eq l2, hl, h1, h8]
  rfl
section
variable {b r m : Nat} {hs : List Dg}
@[simp] theorem gk_base : gFld "held_base" [dKind b r hs m] = some (.int b) := rfl
@[simp] theorem gk_rows : gFld "held_rows" [dKind b r hs m] = some (.int r) := rfl
@[simp] theorem gk_deeds : gFld "held_deeds" [dKind b r hs m] = some (.lst (hs.map Dg.d)) := rfl
@[simp] theorem gk_most : gFld "held_most" [dKind b r hs m] = some (.int m) := rfl
@[simp] theorem ki_cls {st : Sl} {c : Str} : clsAV c (.d (dKind b r hs m)) st = ("Kind" == c) := rfl
theorem fr_ki {st : Sl} : kFr (dKind b r hs m) st = .ok (dKind b r hs m) st := by
  unfold kFr
  have : fzOk (dKind b r hs m) = true := rfl
  simp only [this]
@[simp] theorem ki_base : f_m_Kind_base [.f (dKind b r hs m)] = .ok (.int b) [.n] := by
  rw [f_m_Kind_base, runF_eq (by rfl)]; simp -implicitDefEqProofs [-R.bind, b_m_Kind_base]
@[simp] theorem ki_rows : f_m_Kind_rows [.f (dKind b r hs m)] = .ok (.int r) [.n] := by
  rw [f_m_Kind_rows, runF_eq (by rfl)]; simp -implicitDefEqProofs [-R.bind, b_m_Kind_rows]
@[simp] theorem ki_most : f_m_Kind_most [.f (dKind b r hs m)] = .ok (.int m) [.n] := by
  rw [f_m_Kind_most, runF_eq (by rfl)]; simp -implicitDefEqProofs [-R.bind, b_m_Kind_most]
@[simp] theorem ki_deeds : f_m_Kind_deeds [.f (dKind b r hs m)] = .ok (.lst (hs.map Dg.d)) [.n] := by
  rw [f_m_Kind_deeds, runF_eq (by rfl)]; simp -implicitDefEqProofs [-R.bind, b_m_Kind_deeds]
end
end K83
namespace K83
open PySem PySem.Spec PyProof.Rows L2 Ev
def dS (bf : D) (y : Int) : D := .tup [.int 1, .non, bf, .int y, .int 0, .int 0, .tup []]
theorem power_ok {b n : Nat} (b12 : b ≤ 12) (hn : n < 10000) : f_p_power [.f (.int b), .f (.int n)] = .ok (.int ((b : Int) ^ n)) [.n, .n] := by
  rw [f_p_power, runF_eq (by rfl)]
  have pw : ∀ (ds : List D) (p : Int) (A c : Cell), ∃ c', forL (tgN 3) (sSet 2 (eOp gMul [(.v 2), (.v 0)])) ds [.f (.int b), A, .f (.int p), c] = .ok .nx [.f (.int b), A, .f (.int (p * (b : Int) ^ ds.length)), c'] := by
    intro ds
    induction ds with
    | nil => intro p A c; exact ⟨c, by simp⟩
    | cons d ds ih =>
      intro p A c
      obtain ⟨c', e⟩ := ih (p * b) A (.f d)
      refine ⟨c', ?_⟩
      rw [forL_nx (st' := [.f (.int b), A, .f (.int (p * b)), .f d]) (by simp -implicitDefEqProofs [-R.bind, gMul_b b12]), e, List.length_cons, Int.pow_succ, Int.mul_comm ((b : Int) ^ ds.length), Int.mul_assoc]
  obtain ⟨c', e⟩ := pw (rangeD 0 n) 1 (.f (.int n)) .n
  rw [rangeD_len, Int.one_mul] at e
  have k1 : ∀ st : Sl, kI1 (.int n) st = .ok (rangeD 0 n) st := fun st => kI1_nat (by omega)
  simp -implicitDefEqProofs [-R.bind, b_p_power, k1, e]
theorem gMul_1 {i : Int} : gMul [.int i, .int 1] = some (.int i) := by rw [gMul_int (.inr ⟨by decide, by decide⟩), Int.mul_one]
theorem near_ok {b : Nat} {t : Int} (b2 : 2 ≤ b) (b12 : b ≤ 12) : f_p_near_behind [.f (.int b), .f (.int 0), .f (.int 0), .f (.int t), .f (.int t), .f (.int 1)] = .ok (.int 0) [.n, .n, .n, .n, .n, .n] := by
  rw [f_p_near_behind, runF_eq (by rfl)]
  have p0 := power_ok (b := b) (n := 0) b12 (by decide)
  have p1 := power_ok (b := b) (n := 1) b12 (by decide)
  have m : gMod [.int 0, .int b] = some (.int 0) := by rw [gMod_int (by omega)]; simp
  have f : gFdiv [.int 0, .int b] = some (.int 0) := by rw [gFdiv_small (by omega) (by omega)]; simp
  simp only [Int.pow_zero, Int.pow_succ, Int.one_mul] at p0 p1
  have e0 : ((0 : Nat) : Int) = 0 := rfl
  have e1 : ((1 : Nat) : Int) = 1 := rfl
  rw [e0] at p0
  rw [e1] at p1
  simp -implicitDefEqProofs [-R.bind, b_p_near_behind, p0, p1, gMul_1, m, f]
theorem rightly_ok {b : Nat} {bf : D} {y : Int} {c : List Int} (b2 : 2 ≤ b) (b12 : b ≤ 12) : f_p_done_rightly [.f (.int b), .f (dS bf y), .f (dcol c)] = .ok (.tup [.int c.sum, .int 1, .int ((c.sum + y) / b), .non]) [.n, .n, .n] := by
  rw [f_p_done_rightly, runF_eq (by rfl)]
  have m : ∀ i : Int, gMod [.int i, .int b] = some (.int (i % b)) := fun i => gMod_int (by omega)
  have f : ∀ i : Int, gFdiv [.int i, .int b] = some (.int (i / b)) := fun i => gFdiv_small (by omega) (by omega)
  have i1 : gIx [dS bf y, .int 1] = some .non := rfl
  have i3 : gIx [dS bf y, .int 3] = some (.int y) := rfl
  have s : gSum [dcol c] = some (.int c.sum) := gSum_tup
  simp -implicitDefEqProofs [-R.bind, b_p_done_rightly, i1, i3, s, m, f]
theorem next_ok {b : Nat} {bf : D} {y : Int} {c : List Int} (b2 : 2 ≤ b) (b12 : b ≤ 12) : f_p_next_standing [.f (.int b), .f (.lst []), .f (.lst []), .f (dS bf y), .f (dcol c), .f .non] = .ok (dS (.tup []) ((c.sum + y) / b)) [.n, .n, .n, .n, .n, .n] := by
  rw [f_p_next_standing, runF_eq (by rfl)]
  have r := rightly_ok (bf := bf) (y := y) (c := c) b2 b12
  have n := near_ok (t := c.sum) b2 b12
  have s : gSum [dcol c] = some (.int c.sum) := gSum_tup
  have k0 : ∀ st : Sl, kI1 (.int 0) st = .ok [] st := fun st => kI1_nat (n := 0) (by decide)
  have k : ∀ (vs : List Nat) (st0 st : Sl), kLcB vs st0 [] st = .ok (.lst []) (backS st0 vs st) := fun vs st0 st => kLcB_eq (szl (by decide))
  have l0 : ∀ st : Sl, lcL [23] (tgN 23) mYes (eOp gIx [(.v 4), (.v 23)]) [] st = .ok [] st := fun st => rfl
  unfold dS at r ⊢
  simp -implicitDefEqProofs [-R.bind, b_p_next_standing, r, n, s, k0, l0, k]
def hE (c : List Int) (y : Int) : D := .tup [dcol c, .non, dS (.tup []) y]
def hist (b : Int) : Int → List (List Int) → List D
  | _, [] => []
  | y, c :: cs => hE c ((c.sum + y) / b) :: hist b ((c.sum + y) / b) cs
def carL (b : Int) : Int → List (List Int) → Int
  | y, [] => y
  | y, c :: cs => carL b ((c.sum + y) / b) cs
theorem carL_app {b : Int} {c : List Int} : ∀ {cs : List (List Int)} {y : Int}, carL b y (cs ++ [c]) = (c.sum + carL b y cs) / b
  | [], y => rfl
  | d :: cs, y => by rw [List.cons_append, carL, carL_app, carL]
theorem hist_app {b : Int} {c : List Int} : ∀ {cs : List (List Int)} {y : Int}, hist b y (cs ++ [c]) = hist b y cs ++ [hE c ((c.sum + carL b y cs) / b)]
  | [], y => rfl
  | d :: cs, y => by rw [List.cons_append, hist, hist_app, hist, carL]; rfl
@[simp] theorem hist_len {b : Int} : ∀ {cs : List (List Int)} {y : Int}, (hist b y cs).length = cs.length
  | [], y => rfl
  | d :: cs, y => by rw [hist, List.length_cons, hist_len, List.length_cons]
theorem hist_col {b : Int} {f : D → D} (hf : ∀ c y, f (hE c y) = dcol c) : ∀ {cs : List (List Int)} {y : Int}, (hist b y cs).map f = cs.map dcol
  | [], y => rfl
  | d :: cs, y => by rw [hist, List.map_cons, hf, hist_col hf, List.map_cons]
theorem hist_mem {b : Int} : ∀ {cs : List (List Int)} {y : Int} {d : D}, d ∈ hist b y cs → ∃ c z, d = hE c z
  | c :: cs, y, d, m => by
    rw [hist] at m
    rcases List.mem_cons.mp m with rfl | m
    · exact ⟨_, _, rfl⟩
    · exact hist_mem m
def dLed (b r : Nat) (hs : List D) : D := .obj "Ledger" ["own_kind", "own_lot", "history"] [dKind b r [.out] 1, .lst [], .lst hs]
section
variable {b r : Nat} {hs : List D}
@[simp] theorem gl_kind : gFld "own_kind" [dLed b r hs] = some (dKind b r [.out] 1) := rfl
@[simp] theorem gl_lot : gFld "own_lot" [dLed b r hs] = some (.lst []) := rfl
@[simp] theorem rdF_led {st : Sl} : rdF 0 "history" (.o (dLed b r hs) :: st) = some (.lst hs) := rfl
@[simp] theorem kc_led {c : Str} : kClO c (some (dLed b r hs)) = ("Ledger" == c) := rfl
@[simp] theorem ca_led {c : Str} {st : Sl} : clsAV c (.o (dLed b r hs)) st = ("Ledger" == c) := rfl
theorem lot0 : f_p_check_lot [.f (.lst [])] = .ok .non [.n] := by
  rw [f_p_check_lot, runF_eq (by rfl)]
  have k0 : ∀ st : Sl, kI1 (.int 0) st = .ok [] st := fun st => kI1_nat (n := 0) (by decide)
  simp -implicitDefEqProofs [-R.bind, b_p_check_lot, k0]
@[simp] theorem sf_le0 {c : Str} {d : D} {st : Sl} : setFld 0 "own_kind" d (.o (.obj c [] []) :: st) = some (.o (.obj c ["own_kind"] [d]) :: st) := rfl
@[simp] theorem sf_le1 {c : Str} {a0 d : D} {st : Sl} : setFld 0 "own_lot" d (.o (.obj c ["own_kind"] [a0]) :: st) = some (.o (.obj c ["own_kind", "own_lot"] [a0, d]) :: st) := rfl
@[simp] theorem sf_le2 {c : Str} {a0 a1 : D} {ds : List D} {st : Sl} : setFldO 0 "history" (.lst ds) (.o (.obj c ["own_kind", "own_lot"] [a0, a1]) :: st) = some (.o (.obj c ["own_kind", "own_lot", "history"] [a0, a1, .lst ds]) :: st) := rfl
theorem led_init : f_m_Ledger_zinitz [.o (.obj "Ledger" [] []), .f (dKind b r [.out] 1), .f (.lst [])] = .ok .non [.o (dLed b r []), .n, .n] := by
  rw [f_m_Ledger_zinitz, runF_eq (by rfl)]
  simp -implicitDefEqProofs [-R.bind, b_m_Ledger_zinitz, lot0]
  rfl
theorem begin_ok : f_p_beginning [.f (dKind b r [.out] 1), .f (.lst [])] = .ok (dS .non 0) [.n, .n] := by
  rw [f_p_beginning, runF_eq (by rfl)]
  have k : ∀ (vs : List Nat) (st0 st : Sl), kLcB vs st0 [] st = .ok (.lst []) (backS st0 vs st) := fun vs st0 st => kLcB_eq (szl (by decide))
  have l0 : ∀ st : Sl, lcL [2] (tgN 2) mYes (eTup [(eC (.int 0)), (eC (.int 1)), (eC (.int 1))]) [] st = .ok [] st := fun st => rfl
  simp -implicitDefEqProofs [-R.bind, b_p_beginning, lot0, l0, k, dS]
def bfD (cs : List (List Int)) : D := match cs with
  | [] => .non
  | _ => .tup []
theorem atI_last {α : Type} {xs : List α} {x : α} : L2.atI (xs ++ [x]) (-1) = some x := by
  unfold L2.atI L2.ixN
  rw [if_neg (by decide)]
  have : ((xs ++ [x]).length : Int) = xs.length + 1 := by simp
  rw [this, if_pos (by omega)]
  have e : (-1 + ((xs.length : Int) + 1)).toNat = xs.length := by omega
  simp [e]
theorem led_standing {cs : List (List Int)} : f_m_Ledger_standing [.o (dLed b r (hist b 0 cs))] = .ok (dS (bfD cs) (carL b 0 cs)) [.o (dLed b r (hist b 0 cs))] := by
  rw [f_m_Ledger_standing, runF_eq (by rfl)]
  rcases List.eq_nil_or_concat cs with rfl | ⟨pre, c, rfl⟩
  · have bg := begin_ok (b := b) (r := r)
    simp -implicitDefEqProofs [-R.bind, b_m_Ledger_standing, hist, bg, carL, bfD]
  · have e : eIxH 0 "history" (-1) [.o (dLed b r (hist b 0 (pre ++ [c])))] = .ok (hE c (carL b 0 (pre ++ [c]))) [.o (dLed b r (hist b 0 (pre ++ [c])))] := by
      refine eIxH_of (f := "history") (c := "Ledger") (ns := ["own_kind", "own_lot", "history"]) rfl rfl rfl ?_
      rw [hist_app, atI_last, carL_app]
    have i2 : gIx [hE c (carL b 0 (pre ++ [c])), .int 2] = some (dS (.tup []) (carL b 0 (pre ++ [c]))) := rfl
    have bfe : bfD (pre ++ [c]) = .tup [] := by cases pre <;> rfl
    have ne : ((pre.length : Int) + 1 == 0) = false := beq_eq_false_iff_ne.mpr (by omega)
    rw [List.concat_eq_append] at *
    have nl : (((hist b 0 (pre ++ [c])).length : Int) == 0) = false := by rw [hist_len]; simp; omega
    rw [bfe]
    generalize hist b 0 (pre ++ [c]) = hh at *
    generalize carL b 0 (pre ++ [c]) = yy at *
    simp -implicitDefEqProofs [-R.bind, b_m_Ledger_standing, nl, e, i2]
end
end K83
namespace K83
open PySem PySem.Spec PyProof.Rows L2 Ev
section
variable {b r : Nat} {cs : List (List Int)}
theorem out_copy : gEq [.str "out", .str "copy"] = some (.bl false) := by rw [gEq_str (by decide +kernel) (by decide +kernel)]; rfl
theorem copies0 : f_p_copy_rows [.f (dKind b r [.out] 1)] = .ok (.lst []) [.n] := by
  rw [f_p_copy_rows, runF_eq (by rfl)]
  have e : ∀ (A : Cell), lcL [1] (tgN 1) (mT (eOp gEq [(.e (eOp gIx [(.v 1), (.e (eC (.int 0)))])), (.e (eC (.str "copy")))])) (eOp gIx [(.v 1), (.e (eC (.int 1)))]) [Dg.out.d] [A, .n] = .ok [] [A, .n] := fun A => by
    have h : Dg.out.d = .tup [.str "out"] := rfl
    rw [lcL_none (st' := [A, .n]) (by rw [h]; simp -implicitDefEqProofs [-R.bind, atI_0, out_copy])]
    rfl
  have k : ∀ (vs : List Nat) (st0 st : Sl), kLcB vs st0 [] st = .ok (.lst []) (backS st0 vs st) := fun vs st0 st => kLcB_eq (szl (by decide))
  simp -implicitDefEqProofs [-R.bind, b_p_copy_rows, e, k]
theorem put_ok {c : List Int} (h : ShOk b r (cs ++ [c])) : f_m_Ledger_put [.o (dLed b r (hist b 0 cs)), .f (dcol c), .f .non] = .ok .non [.o (dLed b r (hist b 0 (cs ++ [c]))), .n, .n] := by
  rw [f_m_Ledger_put, runF_eq (by rfl)]
  have ic := isCol (h.cols c (by simp)) (by have := h.r4; omega)
  have ic' : f_p_is_column [.f (dcol c), .f (.int b), .f (.int r)] = .ok (.bl true) [.n, .n, .n] := ic
  have sd := led_standing (b := b) (r := r) (cs := cs)
  have nx := next_ok (bf := bfD cs) (y := carL b 0 cs) (c := c) h.b2 h.b12
  have cp := copies0 (b := b) (r := r)
  have len := h.len
  rw [List.length_append, List.length_singleton] at len
  have isn : gIs false [dS (.tup []) ((c.sum + carL b 0 cs) / b), .non] = some (.bl false) := rfl
  have mu : ∀ (X : Cell), eMutF gAppend 0 "history" [(eTup [(eV 1), (eV 2), (eV 4)])] [.o (dLed b r (hist b 0 cs)), .f (dcol c), .f .non, X, .f (dS (.tup []) ((c.sum + carL b 0 cs) / b))] = .ok .non [.o (dLed b r (hist b 0 (cs ++ [c]))), .f (dcol c), .f .non, X, .f (dS (.tup []) ((c.sum + carL b 0 cs) / b))] := fun X => by
    rw [eMutF_of (f := "history") (c := "Ledger") (ns := ["own_kind", "own_lot", "history"]) (ds := [dKind b r [.out] 1, .lst [], .lst (hist b 0 cs)]) (es := hist b 0 cs) (es' := hist b 0 cs ++ [hE c ((c.sum + carL b 0 cs) / b)]) (as := [hE c ((c.sum + carL b 0 cs) / b)]) (st1 := [.n, .f (dcol c), .f .non, X, .f (dS (.tup []) ((c.sum + carL b 0 cs) / b))]) (d := .non) rfl rfl (by simp -implicitDefEqProofs [-R.bind, hE]) rfl (gAppend_of (by rw [hist_len]; omega)), hist_app]
    rfl
  simp -implicitDefEqProofs [-R.bind, b_m_Ledger_put, ic', sd, nx, cp, isn, mu]
theorem led_sheet (h : ShOk b r cs) : f_m_Ledger_sheet [.o (dLed b r (hist b 0 cs))] = .ok (dSheet b r cs) [.o (dLed b r (hist b 0 cs))] := by
  rw [f_m_Ledger_sheet, runF_eq (by rfl)]
  have len := h.len
  have ini := sheet_init h
  have e : eLcH [1] false 0 "history" (tgN 1) mYes (eOp gIx [(.v 1), (.e (eC (.int 0)))]) [.o (dLed b r (hist b 0 cs)), .n] = .ok (.lst (cs.map dcol)) [.o (dLed b r (hist b 0 cs)), .n] := by
    rw [eLcH_of (f := "history") (cn := "Ledger") (ns := ["own_kind", "own_lot", "history"]) (ds := [dKind b r [.out] 1, .lst [], .lst (hist b 0 cs)]) (es := hist b 0 cs) (xs := cs.map dcol) (st' := [.n, .n]) rfl rfl rfl rfl (by simp) ?_ (by simp; exact szl (by omega)) rfl]
    · rfl
    · show lcL [1] (tgN 1) mYes (eOp gIx [(.v 1), (.e (eC (.int 0)))]) (hist b 0 cs) [.n, .n] = _
      rw [lcL_map (fun d => match d with | .tup (c :: _) => c | _ => .non) fun d m => ?_, hist_col fun c y => rfl]
      obtain ⟨c, z, rfl⟩ := hist_mem m
      simp -implicitDefEqProofs [-R.bind, hE, atI_0]
  simp -implicitDefEqProofs [-R.bind, b_m_Ledger_sheet, e, ini, fr_sh, fr_ki]
theorem led_slips (hl : cs.length < 1000) : f_m_Ledger_slips [.o (dLed b r (hist b 0 cs))] = .ok (.lst []) [.o (dLed b r (hist b 0 cs))] := by
  rw [f_m_Ledger_slips, runF_eq (by rfl)]
  have e : eLcH [1, 2] true 0 "history" (tgT [(tgN 1), (tgN 2)]) (mT (eOp (gIs true) [(.e (eOp gIx [(.v 2), (.e (eC (.int 1)))])), (.e (eC .non))])) (eTup [(eV 1), (eOp gIx [(.v 2), (.e (eC (.int 1)))])]) [.o (dLed b r (hist b 0 cs)), .n, .n] = .ok (.lst []) [.o (dLed b r (hist b 0 cs)), .n, .n] := by
    rw [eLcH_of (f := "history") (cn := "Ledger") (ns := ["own_kind", "own_lot", "history"]) (ds := [dKind b r [.out] 1, .lst [], .lst (hist b 0 cs)]) (es := hist b 0 cs) (xs := []) (st' := [.n, .n, .n]) rfl rfl rfl rfl (by simp) ?_ (szl (by decide)) rfl]
    · rfl
    · show lcL [1, 2] (tgT [(tgN 1), (tgN 2)]) _ _ (enumD (hist b 0 cs)) [.n, .n, .n] = _
      rw [lcL_fm (fun _ => none) fun d m => ?_]
      · simp
      · unfold enumD at m
        rw [List.mem_mapIdx] at m
        obtain ⟨i, hi, rfl⟩ := m
        obtain ⟨c, z, e⟩ := hist_mem (List.getElem_mem hi)
        rw [e]
        simp -implicitDefEqProofs [-R.bind, hE, atI_1]
  simp -implicitDefEqProofs [-R.bind, b_m_Ledger_slips, e]
theorem led_waits : f_m_Ledger_waits [.o (dLed b r (hist b 0 cs))] = .ok (.bl false) [.o (dLed b r (hist b 0 cs))] := by
  rw [f_m_Ledger_waits, runF_eq (by rfl)]
  have sd := led_standing (b := b) (r := r) (cs := cs)
  have i1 : ∀ bf y, gIx [dS bf y, .int 1] = some .non := fun _ _ => rfl
  simp -implicitDefEqProofs [-R.bind, b_m_Ledger_waits, sd, i1]
theorem add_with0 (h : ShOk b r cs) : f_p_add_with [.f (dSheet b r cs), .f (.lst [])] = .ok (rightD b cs) [.n, .n] := by
  rw [f_p_add_with, runF_eq (by rfl)]
  have e := add_init (b := b) (r := r) (cs := cs)
  have d := ad_result h A0_ok
  rw [endA_right (by have := h.b2; omega)] at d
  unfold A0 at d
  simp -implicitDefEqProofs [-R.bind, b_p_add_with, e, d, rightD, enumD]
theorem led_result (h : ShOk b r cs) : f_m_Ledger_result [.o (dLed b r (hist b 0 cs))] = .ok (rightD b cs) [.o (dLed b r (hist b 0 cs))] := by
  rw [f_m_Ledger_result, runF_eq (by rfl)]
  have w := led_waits (b := b) (r := r) (cs := cs)
  have s := led_sheet h
  have sl := led_slips (b := b) (r := r) h.len
  have a := add_with0 h
  simp -implicitDefEqProofs [-R.bind, b_m_Ledger_result, w, s, sl, a]
end
end K83
namespace K83
open PySem PySem.Spec PyProof.Rows L2 Ev
section
variable {b r : Nat} {cs : List (List Int)}
theorem ShOk.sub {pre post : List (List Int)} (h : ShOk b r (pre ++ post)) : ShOk b r pre := ⟨h.b2, h.b12, h.r1, h.r4, by have := h.len; rw [List.length_append] at this; omega, fun c m => h.cols c (List.mem_append_left _ m)⟩
theorem puts_ok (A B X Y : Cell) : ∀ (post pre : List (List Int)) (c5 : Cell), ShOk b r (pre ++ post) → ∃ c5', forL (tgN 5) (sDrop (eMeth "Ledger" (mfD f_m_Ledger_put [.f .non]) (.mu 4) [(.e (eV 5))])) (post.map dcol) [A, B, X, Y, .o (dLed b r (hist b 0 pre)), c5] =
    .ok .nx [A, B, X, Y, .o (dLed b r (hist b 0 (pre ++ post))), c5']
  | [], pre, c5, h => ⟨c5, by simp⟩
  | c :: post, pre, c5, h => by
    have h' : ShOk b r ((pre ++ [c]) ++ post) := by rw [List.append_assoc]; exact h
    obtain ⟨c5', e⟩ := puts_ok A B X Y post (pre ++ [c]) (.f (dcol c)) h'
    refine ⟨c5', ?_⟩
    have p := put_ok h'.sub
    rw [List.map_cons, forL_nx (st' := [A, B, X, Y, .o (dLed b r (hist b 0 (pre ++ [c]))), .f (dcol c)]) (by simp -implicitDefEqProofs [-R.bind, p]), e, List.append_assoc]
    rfl
theorem ledger_ok (h : ShOk b r cs) : f_p__law_ledger_right [.f (dSheet b r cs), .f (rightD b cs)] = .ok (.bl true) [.n, .n] := by
  rw [f_p__law_ledger_right, runF_eq (by rfl)]
  have b2 := h.b2
  have b12 := h.b12
  have r1 := h.r1
  have r4 := h.r4
  have pw : ∀ (ds : List D) (p : Int) (A c X Y : Cell), ∃ c', forL (tgN 3) (sSet 2 (eOp gMul [(.v 2), (.e (eProp "Sheet" f_m_Sheet_base (.e (eV 0))))])) ds [.f (dSheet b r cs), A, .f (.int p), c, X, Y] = .ok .nx [.f (dSheet b r cs), A, .f (.int (p * (b : Int) ^ ds.length)), c', X, Y] := by
    intro ds
    induction ds with
    | nil => intro p A c X Y; exact ⟨c, by simp⟩
    | cons d ds ih =>
      intro p A c X Y
      obtain ⟨c', e⟩ := ih (p * b) A (.f d) X Y
      refine ⟨c', ?_⟩
      rw [forL_nx (st' := [.f (dSheet b r cs), A, .f (.int (p * b)), .f d, X, Y]) (by simp -implicitDefEqProofs [-R.bind, gMul_b b12]), e, List.length_cons, Int.pow_succ, Int.mul_comm ((b : Int) ^ ds.length), Int.mul_assoc]
  obtain ⟨c3, e⟩ := pw (rangeD 0 r) 1 (.f (rightD b cs)) .n .n .n
  rw [rangeD_len, Int.one_mul] at e
  have k1 : ∀ st : Sl, kI1 (.int r) st = .ok (rangeD 0 r) st := fun st => kI1_nat (by omega)
  by_cases few : (1000 : Int) < (b : Int) ^ r
  · simp -implicitDefEqProofs [-R.bind, b_p__law_ledger_right, k1, e, few]
  have ko : KiOk b r [.out] 1 := ⟨b2, b12, r1, r4, by omega, by simp, fun x m => by simp at m; subst m; trivial, by simp, by simp, by decide, by decide⟩
  have ki := kind_init ko
  have hd : held b r [.out] = [.out] := List.perm_singleton.mp (held_perm ko.nd ko.ok)
  rw [hd] at ki
  have ki' : f_m_Kind_zinitz [.o (.obj "Kind" [] []), .f (.int b), .f (.int r), .f (.lst [.tup [.str "out"]]), .f (.int 1)] = .ok .non [.o (dKind b r [.out] 1), .n, .n, .n, .n] := ki
  have li := led_init (b := b) (r := r)
  obtain ⟨c5, pu⟩ := puts_ok (.f (dSheet b r cs)) (.f (rightD b cs)) (.f (.int ((b : Int) ^ r))) c3 cs [] .n h
  have re := led_result h
  have sl := led_slips (b := b) (r := r) h.len
  have sh := led_sheet h
  have ew : gDun (tag2 "Written" "Written") f_m_Written_zeqz [rightD b cs, rightD b cs] = some (.bl true) := gEqW
  have es := gEqS (b := b) (r := r) (cs := cs)
  have el : gEq [.lst [], .lst []] = some (.bl true) := rfl
  have h0 : hist (b : Int) 0 [] = [] := rfl
  rw [h0, List.nil_append] at pu
  simp -implicitDefEqProofs [-R.bind, b_p__law_ledger_right, k1, e, few, ki', fr_ki, li, pu, re, ew, sl, el, sh, es]
end
end K83
namespace K83
open PySem PySem.Spec PyProof.Rows L2 Ev
def kRunO (P : List Nat) (np : Nat) : R Fl → Out
  | .ok (.rt d) st => .ok d (keepF P 0 (st.take np))
  | .exc c x st => .exc c x (keepF P 0 (st.take np))
  | _ => .bad
@[simp] theorem kRunO_rt {P : List Nat} {np : Nat} {d : D} {st : Sl} : kRunO P np (.ok (.rt d) st) = .ok d (keepF P 0 (st.take np)) := rfl
theorem runO_eq {N np : Nat} {P : List Nat} {b : S} {cs : List Cell} (h : cs.length = np) : runO N np P b cs = kRunO P np (b (cs ++ List.replicate (N - np) .n)) := by
  unfold runO kRunO
  have e : decide (cs.length = np) = true := decide_eq_true h
  simp only [e]
  all_goals (rcases b (cs ++ List.replicate (N - np) .n) with ⟨f, st⟩ | ⟨c, x, st⟩ | _ <;> first | rfl | (cases f <;> rfl))
theorem p39x : ∃ c : Int, gPow [.int 10, .int 39] = some (.int c) ∧ 0 < c ∧ (c + 3) * 64 + 64 ≤ 10 ^ 42 := ⟨10 ^ 39, gPow_of (n := 4) (by decide) (by decide) (by decide) (by decide) (by decide), by decide, by decide⟩
theorem p18x : ∃ c : Int, gPow [.int 10, .int 18] = some (.int c) := ⟨10 ^ 18, gPow_of (n := 4) (by decide) (by decide) (by decide) (by decide) (by decide)⟩
theorem bag_ok {ns : List Int} {k : Nat} (hk : k < 1000) : ∃ g, BagOk 0 g ∧ f_p__law_bag [.f (.scr ns), .f (.int k)] = .ok g.d [.n, .n] := by
  obtain ⟨c39, p39, c0, c1⟩ := p39x
  obtain ⟨c18, p18⟩ := p18x
  have cell : ∃ c : Int, ∀ (A B : Cell), eIf (mT (eOp gLt [(.v 1), (.e (eOp gLen [(.v 0)]))])) (eOp gIx [(.v 0), (.v 1)]) (eC (.int 0)) [.f (.scr ns), .f (.int k), A, B] = .ok (.int c) [.f (.scr ns), .f (.int k), A, B] := by
    by_cases h : k < ns.length
    · refine ⟨ns[k], fun A B => ?_⟩
      have h' : (k : Int) < ns.length := by omega
      have ix : L2.atI ns (k : Int) = some ns[k] := atI_lt h
      simp -implicitDefEqProofs [-R.bind, h', ix]
    · refine ⟨0, fun A B => ?_⟩
      have h' : ¬ ((k : Int) < ns.length) := by omega
      simp -implicitDefEqProofs [-R.bind, h']
  obtain ⟨c, ec⟩ := cell
  have m2 : ∀ i : Int, gMul [.int 2, .int i] = some (.int (2 * i)) := fun i => gMul_int (.inl (by decide))
  have m64 : ∀ i : Int, gMul [.int i, .int 64] = some (.int (i * 64)) := fun i => gMul_int (.inr (by decide))
  have mm : ∀ i : Int, gMod [.int i, .int (c39 + 3)] = some (.int (i % (c39 + 3))) := fun i => gMod_int (by omega)
  have mk : ∀ i : Int, gMod [.int i, .int 64] = some (.int (i % 64)) := fun i => gMod_int (by decide)
  generalize hw : (2 * (if c < 0 then -c else c) + (if c < 0 then 1 else 0) : Int) = w
  have w0 : 0 ≤ w % (c39 + 3) := Int.emod_nonneg _ (by omega)
  have w1 : w % (c39 + 3) < c39 + 3 := Int.emod_lt_of_pos _ (by omega)
  refine ⟨⟨if c - c18 > 0 then c - c18 else 0, w % (c39 + 3) * 64 + (k : Int) % 64, 0⟩, ⟨?_, ?_, ?_, by show (0 : Int) ≤ 0; decide, by show (0 : Int) ≤ ((0 : Nat) : Int); decide⟩, ?_⟩
  · show 0 ≤ (if c - c18 > 0 then c - c18 else 0)
    split <;> omega
  · show 0 ≤ w % (c39 + 3) * 64 + (k : Int) % 64
    omega
  · show w % (c39 + 3) * 64 + (k : Int) % 64 < 10 ^ 42
    have : (w % (c39 + 3) + 1) * 64 ≤ (c39 + 3) * 64 := Int.mul_le_mul_of_nonneg_right (by omega) (by decide)
    omega
  · rw [f_p__law_bag, runO_eq (by rfl)]
    simp -implicitDefEqProofs [-R.bind, b_p__law_bag, -eIf_eq, ec, m2, m64, mm, mk, p39, p18, Bag.d]
    rw [hw]
theorem draws {b : Nat} (b2 : 2 ≤ b) (b12 : b ≤ 12) (A K X Y Z W V U T : Cell) : ∀ (ds : List D) (g : Bag) (N : Nat), BagOk N g → N + ds.length < 2 ^ 40 →
    ∃ (g' : Bag) (c : List Int), BagOk (N + ds.length) g' ∧ c.length = ds.length ∧ (∀ d ∈ c, 0 ≤ d ∧ d < (b : Int)) ∧
      lcL [10] (tgN 10) mYes (eCall f_p__law_take [(.mu 2), (.e (eV 7))]) ds [A, K, .o g.d, X, Y, Z, W, .f (.int b), V, U, .n] = .ok (c.map .int) [A, K, .o g'.d, X, Y, Z, W, .f (.int b), V, U, .n]
  | [], g, N, hg, _ => ⟨g, [], hg, rfl, fun d m => (List.not_mem_nil m).elim, rfl⟩
  | d :: ds, g, N, hg, hN => by
    simp only [List.length_cons] at hN
    obtain ⟨r, g1, r0, r1, hg1, e⟩ := take_ok (many := b) hg (by omega) (by omega) (by omega)
    obtain ⟨g', c, hg', cl, cd, e2⟩ := draws b2 b12 A K X Y Z W V U T ds g1 (N + 1) hg1 (by omega)
    refine ⟨g', r :: c, ?_, by simp [cl], ?_, ?_⟩
    · rw [List.length_cons, show N + (ds.length + 1) = N + 1 + ds.length from by omega]; exact hg'
    · intro x m
      rcases List.mem_cons.mp m with rfl | m
      · exact ⟨r0, r1⟩
      · exact cd x m
    · rw [lcL_some (x := .int r) (st' := [A, K, .o g1.d, X, Y, Z, W, .f (.int b), V, U, .n]) (by simp -implicitDefEqProofs [-R.bind, e]), e2]
      rfl
theorem reps_int {x : Int} {r : Nat} (h : r ≤ 4) : gMul [.lst [.int x], .int r] = some (.lst ((List.replicate r x).map .int)) := by
  have : (if -(2 ^ 63) ≤ (r : Int) ∧ (r : Int) < 2 ^ 63 ∧ ([D.int x] : List D).length * (r : Int).toNat ≤ sizeLine then some (D.lst (List.replicate (r : Int).toNat [D.int x]).flatten) else none) = some (D.lst ((List.replicate r x).map .int)) := by
    rw [if_pos ⟨by omega, by omega, Nat.le_of_lt (szl (by simp; omega))⟩]
    simp
  exact this
abbrev colBody : S := (sSeq (sSet 9 (eOp gTuple [(.e (eFr (eLc [10] (itR1 (eV 8)) (tgN 10) mYes (eCall f_p__law_take [(.mu 2), (.e (eV 7))]))))]))
  (sDrop (eMut gAppend 3 [(eOp gIx [(.e (eLst [(eV 9), (eOp gTuple [(.e (eOp gMul [(.e (eLst [(eOp gSub [(.v 7), (.e (eC (.int 1)))])])), (.v 8)]))])])), (.e (eCall f_p__law_take [(.mu 2), (.e (eC (.int 2)))]))])])))
theorem cols_ok {b r : Nat} (b2 : 2 ≤ b) (b12 : b ≤ 12) (r1 : 1 ≤ r) (r4 : r ≤ 4) (A K : Cell) : ∀ (ds : List D) (cs : List (List Int)) (g : Bag) (N : Nat) (c4 c9 : Cell), BagOk N g → (∀ c ∈ cs, ColOk b r c) → N + 10 * ds.length < 2 ^ 39 → cs.length + ds.length < 900 →
    ∃ (g' : Bag) (cs' : List (List Int)) (c4' c9' : Cell), BagOk (N + 10 * ds.length) g' ∧ cs'.length = cs.length + ds.length ∧ (∀ c ∈ cs', ColOk b r c) ∧
      forL (tgN 4) colBody ds [A, K, .o g.d, .o (.lst (cs.map dcol)), c4, .n, .n, .f (.int b), .f (.int r), c9, .n] = .ok .nx [A, K, .o g'.d, .o (.lst (cs'.map dcol)), c4', .n, .n, .f (.int b), .f (.int r), c9', .n]
  | [], cs, g, N, c4, c9, hg, hc, _, _ => ⟨g, cs, c4, c9, hg, rfl, hc, rfl⟩
  | d :: ds, cs, g, N, c4, c9, hg, hc, hN, hl => by
    simp only [List.length_cons] at hN hl
    have rl : (rangeD 0 r).length = r := rangeD_len
    obtain ⟨g1, c, hg1, cl, cd, e1⟩ := draws b2 b12 A K (.o (.lst (cs.map dcol))) (.f d) .n .n (.f (.int r)) c9 .n (rangeD 0 r) g N hg (by omega)
    rw [rl] at hg1 cl
    obtain ⟨m, g2, m0, m1, hg2, e2⟩ := take_ok (many := 2) hg1 (by omega) (by omega) (by omega)
    obtain ⟨c', ok', e3⟩ : ∃ c' : List Int, ColOk b r c' ∧ L2.atI [dcol c, dcol (List.replicate r ((b : Int) - 1))] m = some (dcol c') := by
      by_cases z : m = 0
      · subst z
        exact ⟨c, ⟨cl, cd⟩, rfl⟩
      · obtain rfl : m = 1 := by omega
        refine ⟨List.replicate r ((b : Int) - 1), ⟨by simp, fun d m => ?_⟩, rfl⟩
        have := List.eq_of_mem_replicate m
        omega
    obtain ⟨g', cs', c4', c9', hg', l', ok, e⟩ := cols_ok b2 b12 r1 r4 A K ds (cs ++ [c']) g2 (N + 10) (.f d) (.f (dcol c)) (hg2.mono (by omega)) (fun x m => by
      rcases List.mem_append.mp m with m | m
      · exact hc x m
      · simp at m; subst m; exact ok') (by omega) (by simp; omega)
    refine ⟨g', cs', c4', c9', ?_, by rw [l']; simp; omega, ok, ?_⟩
    · rw [List.length_cons, show N + 10 * (ds.length + 1) = N + 10 + 10 * ds.length from by omega]; exact hg'
    · have k1 : ∀ st : Sl, kI1 (.int r) st = .ok (rangeD 0 r) st := fun st => kI1_nat (by omega)
      have lc : (c.map D.int).length < sizeLine := by rw [List.length_map, cl]; exact szl (by omega)
      have rp := reps_int (x := (b : Int) - 1) r4
      have ga : gAppend (cs.map dcol) [dcol c'] = some (.non, cs.map dcol ++ [dcol c']) := gAppend_of (by simp; omega)
      have e3' : L2.atI [dcol c, D.tup ((List.replicate r ((b : Int) - 1)).map .int)] m = some (dcol c') := e3
      have dc : D.tup (c.map .int) = dcol c := rfl
      rw [forL_nx (st' := [A, K, .o g2.d, .o (.lst ((cs ++ [c']).map dcol)), .f d, .n, .n, .f (.int b), .f (.int r), .f (dcol c), .n]) ?_, e]
      simp -implicitDefEqProofs [-R.bind, -List.map_replicate, k1, e1, kLcB_eq lc, rp, e2, e3', ga, dc]
theorem right_ok {ns : List Int} {k : Nat} (hk : k < 1000) : f_p__law_right [.f (.scr ns), .f (.int k)] = .ok (.bl true) [.n, .n] := by
  obtain ⟨g, hg, eb⟩ := bag_ok (ns := ns) hk
  obtain ⟨x, g1, x0, x1, hg1, e1⟩ := take_ok (many := 11) hg (by decide) (by decide) (by decide)
  obtain ⟨y, g2, y0, y1, hg2, e2⟩ := take_ok (many := 3) hg1 (by decide) (by decide) (by decide)
  obtain ⟨b, hb⟩ : ∃ b : Nat, (b : Int) = 2 + x := ⟨(2 + x).toNat, by omega⟩
  obtain ⟨r, hr⟩ : ∃ r : Nat, (r : Int) = 2 + y := ⟨(2 + y).toNat, by omega⟩
  have b2 : 2 ≤ b := by omega
  have b12 : b ≤ 12 := by omega
  have r2 : 2 ≤ r := by omega
  have r4 : r ≤ 4 := by omega
  obtain ⟨many, hm1, hm2, em⟩ : ∃ many : Int, 1 ≤ many ∧ many ≤ 41 ∧ L2.atI [D.int 11, .int 41] (if k = 0 then 1 else 0) = some (.int many) := by
    by_cases z : k = 0
    · subst z; exact ⟨41, by decide, by decide, rfl⟩
    · rw [if_neg z]
      exact ⟨11, by decide, by decide, rfl⟩
  obtain ⟨z, g3, z0, z1, hg3, e3⟩ := take_ok (many := many) hg2 (by decide) (by omega) (by omega)
  obtain ⟨n, rfl⟩ : ∃ n : Nat, z = n := ⟨z.toNat, by omega⟩
  have nl : (rangeD 0 n).length = n := rangeD_len
  obtain ⟨g4, cs, c4, c9, hg4, cl, ok, e4⟩ := cols_ok b2 b12 (by omega : 1 ≤ r) r4 (.f (.scr ns)) (.f (.int k)) (rangeD 0 n) [] g3 3 .n .n hg3 (fun c m => (List.not_mem_nil m).elim) (by omega) (by simp; omega)
  rw [nl, List.length_nil, Nat.zero_add] at cl
  rw [nl] at hg4
  have h : ShOk b r cs := ⟨b2, b12, by omega, r4, by omega, ok⟩
  obtain ⟨g5, hg5, e5⟩ := lots_ok h r2 (by omega) hg4 (by omega)
  obtain ⟨g6, hg6, e6⟩ := slip_right_ok h (by omega) hg5 (by omega)
  have ini := sheet_init h
  have ar : f_p_add_right [.f (dSheet b r cs)] = .ok (rightD b cs) [.n] := add_right' h
  have zr : f_p__law_zeros_right [.f (dSheet b r cs), .f (rightD b cs)] = .ok (.bl true) [.n, .n] := zeros_ok h
  have sr : f_p__law_slip_right [.o g5.d, .f (dSheet b r cs), .f (rightD b cs)] = .ok (.bl true) [.o g6.d, .n, .n] := e6
  have lr := ledger_ok h
  have k1 : ∀ st : Sl, kI1 (.int n) st = .ok (rangeD 0 n) st := fun st => kI1_nat (by omega)
  have fzb : ∀ st : Sl, kFz 3 (.o (.lst (cs.map dcol)) :: st) (some (.o (.lst (cs.map dcol)))) = kFz 3 (.o (.lst (cs.map dcol)) :: st) (some (.o (.lst (cs.map dcol)))) := fun _ => rfl
  simp only [List.map_nil] at e4
  rw [f_p__law_right, runF_eq (by rfl)]
  simp -implicitDefEqProofs [-R.bind, b_p__law_right, eb, e1, e2, ← hb, ← hr, em, e3, k1, e4, ini, fr_sh, ar, e5, zr, sr, lr]
theorem law_pure (ns : List Int) : ∃ cs', f_p_law [.f (.scr ns)] = .ok (.bl true) cs' := by
  refine ⟨[.n], ?_⟩
  rw [f_p_law, runF_eq (by rfl)]
  have key : ∀ (n lo : Nat) (c : Cell), lo + n < 1000 → ∃ c', forL (tgN 1) (sIf (mNot (mTru (.e (eCall f_p__law_right [(.e (eV 0)), (.e (eV 1))])))) (sRet (eC (.bl false))) sNil) ((List.range' lo n).map nD) [.f (.scr ns), c] = .ok .nx [.f (.scr ns), c'] := by
    intro n
    induction n with
    | zero => intro lo c _; exact ⟨c, rfl⟩
    | succ n ih =>
      intro lo c hl
      obtain ⟨c', e⟩ := ih (lo + 1) (.f (nD lo)) (by omega)
      refine ⟨c', ?_⟩
      have ro := right_ok (ns := ns) (k := lo) (by omega)
      have ro' : f_p__law_right [.f (.scr ns), .f (nD lo)] = .ok (.bl true) [.n, .n] := ro
      rw [List.range'_succ, List.map_cons, forL_nx (st' := [.f (.scr ns), .f (nD lo)]) (by simp -implicitDefEqProofs [-R.bind, ro']), e]
  generalize hm : (if (if (ns.length : Int) < 6 then (ns.length : Int) else 6) > 1 then (if (ns.length : Int) < 6 then (ns.length : Int) else 6) else 1 : Int) = m
  have m1 : 1 ≤ m := by rw [← hm]; split <;> omega
  have m6 : m ≤ 6 := by rw [← hm]; split <;> split <;> omega
  obtain ⟨n, rfl⟩ : ∃ n : Nat, m = n := ⟨m.toNat, by omega⟩
  obtain ⟨c', e⟩ := key n 0 .n (by omega)
  have k1 : ∀ st : Sl, kI1 (.int n) st = .ok ((List.range' 0 n).map nD) st := fun st => by rw [kI1_nat (by omega), rangeD_nD, List.range_eq_range']
  have hm' := hm
  simp only [gt_iff_lt] at hm'
  simp -implicitDefEqProofs [-R.bind, b_p_law, hm', k1, e]
end K83
theorem PySem.Challenge.cw_sumslips_k83_whole_rows_added_in_two_goe_holds : PySem.Challenge.rw_sumslips_k83_whole_rows_added_in_two_goe.Holds := by
  exact K83.holds_of fun ns _ => K83.law_pure ns
