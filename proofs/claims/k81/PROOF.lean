import PyProof.Rows.All
import Wide.All
import OpenK.AllK
import Wide.FinOn
import HandS.ForMost
import HandS.ForExc
import HandS.CallSlots
import HandS.Property
import HandS.OwnEq
import HandS.Small
import HandS.RevRange
import HandS.Zip
import HandS.Style
import HandS.Text
import HandS.Deep
import HandS.Wide
import HandS.TupMul
import HandS.TupAny
import HandS.IsInst
import KE.DataMinMax
import HandS.More
import KE.KOpsOwn
import HandS.Codes
import HandS.SlotsOwn
import HandS.Defaults
import HandS.Exc
import KE.KTryMore
import HandS.HeadHook1
import HandS.HeadHook2
import HandS.HeadHook3
import HandS.HeadEnd
import HandS.Ends
import HandS.Conv
import HandS.Head0
import HandS.Head1
import HandS.Head2
import KE.KStateDown
import HandS.TryOnly
import HandS.ExcInit
import HandS.WordsExc
import HandS.Star
import PySem.Challenge.RW_sumslips_k81_whole_slips_as_other_result
set_option Elab.async false
set_option linter.all false
set_option maxRecDepth 100000
set_option maxHeartbeats 0
namespace Ev
open PySem PySem.Spec PyProof.Rows L2

/-- data -/
inductive D where
  | non | bl (b : Bool) | int (i : Int) | str (x : Str)
  | tup (xs : List D) | lst (xs : List D) | scr (ns : List Int) | dic (ks vs : List D) | obj (c : Str) (ns : List Str) (ds : List D)

/-- a slot: nothing, frozen data, data that this slot alone holds -/
inductive Cell where
  | n | f (d : D) | o (d : D)
abbrev Sl := List Cell
/-- what an evaluation gives -/
inductive R (α : Type) where
  | ok (a : α) (st : Sl) | exc (c : Str) (x : Option D) (st : Sl) | bad
inductive Fl where
  | nx | bk | ct | rt (d : D)
abbrev E := Sl → R D
abbrev S := Sl → R Fl
@[simp] def R.bind {α β : Type} : R α → (α → Sl → R β) → R β
  | .ok a st, k => k a st
  | .exc c x st, _ => .exc c x st
  | .bad, _ => .bad

/-- the classes: where they stand, which are there -/
structure Ca where
  a : Str → Addr
  ok : Str → List Str → Prop

/-- fields of objects that hold own lists -/
def owf (f : Str) : Bool := f == ("history" : Str)

def keyD : Key → D
  | .inl i => .int i
  | .inr x => .str x

section
variable (K : PySem.W.Frag) (ca : Ca)
/-- a list, a tuple that is frozen -/
def FrL (F : Addr → Prop) (H : Hp) (a : Addr) (xs : List V) : Prop := F a ∧ H a = some (.lst xs)
def FrT (F : Addr → Prop) (H : Hp) (a : Addr) (xs : List V) : Prop := (F a ∧ Rd H a (.tup xs)) ∨
    ∃ (o : Obj) (its : Array Value) (n : Nat), K.lookup a = some o ∧ o.cls = .type "tuple" ∧ o.data = .seq its n ∧ its.size ≤ sizeLine ∧ Vals xs its.toList
/-- the script -/
def FrS (F : Addr → Prop) (H : Hp) (a : Addr) (xs : List V) : Prop := (F a ∧ Rd H a (.lst xs)) ∨
    ∃ (o : Obj) (its : Array Value) (n : Nat), K.lookup a = some o ∧ o.cls = .type "list" ∧ o.dict = none ∧ o.data = .seq its n ∧ its.size ≤ sizeLine ∧ Vals xs its.toList
def RepK (vs : List V) : List D → List (Key × V) → Prop := fun ks kvs => ks = kvs.map (fun p => keyD p.1) ∧ vs = kvs.map (·.2)

mutual
/-- v holds the frozen data d -/
def Rep (F : Addr → Prop) (H : Hp) : D → V → Prop
  | .non, v => v = .non
  | .bl b, v => v = .bl b
  | .int i, v => v = .int i
  | .str x, v => v = .str x
  | .tup ds, v => ∃ a vs, v = .ref a ∧ FrT K F H a vs ∧ Reps F H ds vs
  | .lst ds, v => ∃ a vs, v = .ref a ∧ FrL F H a vs ∧ Reps F H ds vs
  | .scr ns, v => ∃ a, v = .ref a ∧ FrS K F H a (ns.map V.int)
  | .dic ks ds, v => ∃ a kvs vs, v = .ref a ∧ F a ∧ Rd H a (.dK kvs) ∧ RepK vs ks kvs ∧ Reps F H ds vs
  | .obj c ns ds, v => ∃ a dx gs vs, v = .ref a ∧ ca.ok c ns ∧ F a ∧ F dx ∧ H a = some (.ins (ca.a c) dx gs) ∧ H dx = some (.own a) ∧ gs.map (·.1) = ns ∧ gs.map (·.2) = vs ∧ Reps F H ds vs
def Reps (F : Addr → Prop) (H : Hp) : List D → List V → Prop
  | [], vs => vs = []
  | d :: ds, vs => ∃ v r, vs = v :: r ∧ Rep F H d v ∧ Reps F H ds r
end
/-- .. a field's: frozen, or its own list -/
def RepI (F : Addr → Prop) (H : Hp) (own : Bool) (d : D) (v : V) (A : List Addr) : Prop :=
  match own with
  | false => A = [] ∧ Rep K ca F H d v
  | true => ∃ a ds vs, d = .lst ds ∧ v = .ref a ∧ A = [a] ∧ ¬ F a ∧ H a = some (.lst vs) ∧ Reps K ca F H ds vs
def RepIs (F : Addr → Prop) (H : Hp) : List Str → List D → List V → List Addr → Prop
  | [], ds, vs, A => ds = [] ∧ vs = [] ∧ A = []
  | n :: ns, ds, vs, A => ∃ d dr v vr B C, ds = d :: dr ∧ vs = v :: vr ∧ A = B ++ C ∧ RepI K ca F H (owf n) d v B ∧ RepIs F H ns dr vr C
/-- v holds the data d, which no other holds: at the addresses A -/
def Own (F : Addr → Prop) (H : Hp) : D → V → List Addr → Prop
  | .lst ds, v, A => ∃ a vs, v = .ref a ∧ A = [a] ∧ ¬ F a ∧ H a = some (.lst vs) ∧ Reps K ca F H ds vs
  | .dic ks ds, v, A => ∃ a kvs vs, v = .ref a ∧ A = [a] ∧ ¬ F a ∧ H a = some (.dK kvs) ∧ RepK vs ks kvs ∧ Reps K ca F H ds vs
  | .obj c ns ds, v, A => ∃ a dx gs B, v = .ref a ∧ ca.ok c ns ∧ A = a :: dx :: B ∧ ¬ F a ∧ ¬ F dx ∧ H a = some (.ins (ca.a c) dx gs) ∧ H dx = some (.own a) ∧ gs.map (·.1) = ns ∧ RepIs K ca F H ns ds (gs.map (·.2)) B
  | _, _, _ => False
def RepC (F : Addr → Prop) (H : Hp) : Cell → Option V → List Addr → Prop
  | .n, _, A => A = []
  | .f d, x, A => A = [] ∧ ∃ v, x = some v ∧ Rep K ca F H d v
  | .o d, x, A => ∃ v, x = some v ∧ Own K ca F H d v A
/-- the slots -/
def RepS (F : Addr → Prop) (H : Hp) : Sl → L2.St → List Addr → Prop
  | [], σ, A => σ = [] ∧ A = []
  | c :: cs, σ, A => ∃ x r B C, σ = x :: r ∧ A = B ++ C ∧ RepC K ca F H c x B ∧ RepS F H cs r C
end

/-- all of it: A the own addresses -/
structure Rl (K : PySem.W.Frag) (ca : Ca) (F : Addr → Prop) (H : Hp) (st : Sl) (σ : L2.St) (A : List Addr) : Prop where
  rep : ∃ B, RepS K ca F H st σ B ∧ B.Perm A
  nd : A.Nodup
  fd : ∀ a, F a → ∃ o, H a = some o
  nf : ∀ a ∈ A, ¬ F a ∧ ∃ o, H a = some o

/-- what a run does to the heap: what is not its own stays; nothing else is frozen, or becomes its own, but what was its own or is new -/
structure Step (F : Addr → Prop) (H : Hp) (A : List Addr) (F' : Addr → Prop) (H' : Hp) (A' : List Addr) : Prop where
  fm : ∀ a, F a → F' a
  keep : ∀ a o, H a = some o → a ∉ A → H' a = some o
  dom : ∀ a o, H a = some o → ∃ o', H' a = some o'
  fnew : ∀ a, F' a → F a ∨ H a = none ∨ a ∈ A
  anew : ∀ a ∈ A', a ∈ A ∨ H a = none

theorem Step.refl {F : Addr → Prop} {H : Hp} {A : List Addr} : Step F H A F H A := ⟨fun _ h => h, fun _ _ h _ => h, fun _ o h => ⟨o, h⟩, fun _ h => .inl h, fun _ h => .inl h⟩
theorem Step.trans {F F' F'' : Addr → Prop} {H H' H'' : Hp} {A A' A'' : List Addr} (h : Step F H A F' H' A') (g : Step F' H' A' F'' H'' A'') : Step F H A F'' H'' A'' where
  fm := fun a q => g.fm a (h.fm a q)
  keep := fun a o q n => g.keep a o (h.keep a o q n) fun m => (h.anew a m).elim n fun z => by rw [q] at z; cases z
  dom := fun a o q => let ⟨o', q'⟩ := h.dom a o q; g.dom a o' q'
  fnew := fun a q => by
    rcases g.fnew a q with q | q | q
    · exact h.fnew a q
    · cases e : H a with
      | none => exact .inr (.inl rfl)
      | some o => obtain ⟨o', q'⟩ := h.dom a o e; rw [q] at q'; cases q'
    · rcases h.anew a q with q | q
      · exact .inr (.inr q)
      · exact .inr (.inl q)
  anew := fun a q => by
    rcases g.anew a q with q | q
    · exact h.anew a q
    · cases e : H a with
      | none => exact .inr rfl
      | some o => obtain ⟨o', q'⟩ := h.dom a o e; rw [q] at q'; cases q'

section
variable {K : PySem.W.Frag} {ca : Ca} {F F' : Addr → Prop} {H H' : Hp} {A A' : List Addr}

/-- frozen data stays where all frozen addresses stay -/
theorem FrL.mono {a : Addr} {xs : List V} (h : FrL F H a xs) (f : ∀ a, F a → F' a) (k : ∀ a o, F a → H a = some o → H' a = some o) : FrL F' H' a xs := ⟨f a h.1, k a _ h.1 h.2⟩
theorem FrT.mono {a : Addr} {xs : List V} (h : FrT K F H a xs) (f : ∀ a, F a → F' a) (k : ∀ a o, F a → H a = some o → H' a = some o) : FrT K F' H' a xs := by
  rcases h with ⟨h, r⟩ | h
  · refine .inl ⟨f a h, ?_⟩
    rcases r with r | ⟨o, r⟩
    · exact .inl (k a _ h r)
    · exact .inr ⟨o, k a _ h r⟩
  · exact .inr h
theorem FrS.mono {a : Addr} {xs : List V} (h : FrS K F H a xs) (f : ∀ a, F a → F' a) (k : ∀ a o, F a → H a = some o → H' a = some o) : FrS K F' H' a xs := by
  rcases h with ⟨h, r⟩ | h
  · refine .inl ⟨f a h, ?_⟩
    rcases r with r | ⟨o, r⟩
    · exact .inl (k a _ h r)
    · exact .inr ⟨o, k a _ h r⟩
  · exact .inr h
theorem FrS.sq {a : Addr} {xs : List V} (h : FrS K F H a xs) : SqL K H a xs := h.elim (fun z => .inl z.2) .inr
theorem FrL.sq {a : Addr} {xs : List V} (h : FrL F H a xs) : SqL K H a xs := .of h.2
theorem FrT.sq {a : Addr} {xs : List V} (h : FrT K F H a xs) : SqT K H a xs := h.elim (fun z => .inl z.2) .inr

mutual
theorem Rep.mono (f : ∀ a, F a → F' a) (k : ∀ a o, F a → H a = some o → H' a = some o) : ∀ (d : D) (v : V), Rep K ca F H d v → Rep K ca F' H' d v
  | .non, v, h => by unfold Rep at h ⊢; exact h
  | .bl b, v, h => by unfold Rep at h ⊢; exact h
  | .int i, v, h => by unfold Rep at h ⊢; exact h
  | .str x, v, h => by unfold Rep at h ⊢; exact h
  | .tup ds, v, h => by
    unfold Rep at h ⊢
    obtain ⟨a, vs, e, q, r⟩ := h
    exact ⟨a, vs, e, q.mono f k, Reps.mono f k ds vs r⟩
  | .lst ds, v, h => by
    unfold Rep at h ⊢
    obtain ⟨a, vs, e, q, r⟩ := h
    exact ⟨a, vs, e, q.mono f k, Reps.mono f k ds vs r⟩
  | .scr ns, v, h => by
    unfold Rep at h ⊢
    obtain ⟨a, e, q⟩ := h
    exact ⟨a, e, q.mono f k⟩
  | .dic ks ds, v, h => by
    unfold Rep at h ⊢
    obtain ⟨a, kvs, vs, e, fa, q, rk, r⟩ := h
    refine ⟨a, kvs, vs, e, f a fa, ?_, rk, Reps.mono f k ds vs r⟩
    rcases q with q | ⟨o, q⟩
    · exact .inl (k a _ fa q)
    · exact .inr ⟨o, k a _ fa q⟩
  | .obj c ns ds, v, h => by
    unfold Rep at h ⊢
    obtain ⟨a, dx, gs, vs, e, kc, fa, fd, q1, q2, e1, e2, r⟩ := h
    exact ⟨a, dx, gs, vs, e, kc, f a fa, f dx fd, k a _ fa q1, k dx _ fd q2, e1, e2, Reps.mono f k ds vs r⟩
theorem Reps.mono (f : ∀ a, F a → F' a) (k : ∀ a o, F a → H a = some o → H' a = some o) : ∀ (ds : List D) (vs : List V), Reps K ca F H ds vs → Reps K ca F' H' ds vs
  | [], vs, h => by unfold Reps at h ⊢; exact h
  | d :: ds, vs, h => by
    unfold Reps at h ⊢
    obtain ⟨v, r, e, q, z⟩ := h
    exact ⟨v, r, e, Rep.mono f k d v q, Reps.mono f k ds r z⟩
end
theorem Reps.length : ∀ {ds : List D} {vs : List V}, Reps K ca F H ds vs → vs.length = ds.length
  | [], vs, h => by unfold Reps at h; rw [h]; rfl
  | d :: ds, vs, h => by
    unfold Reps at h
    obtain ⟨v, r, e, q, z⟩ := h
    rw [e, List.length_cons, List.length_cons, z.length]
theorem Reps.nil : Reps K ca F H [] [] := by unfold Reps; rfl
theorem Reps.cons {d : D} {v : V} {ds : List D} {vs : List V} (h : Rep K ca F H d v) (t : Reps K ca F H ds vs) : Reps K ca F H (d :: ds) (v :: vs) := by
  unfold Reps; exact ⟨v, vs, rfl, h, t⟩
theorem Reps.get : ∀ {ds : List D} {vs : List V} {i : Nat} {d : D}, Reps K ca F H ds vs → ds[i]? = some d → ∃ v, vs[i]? = some v ∧ Rep K ca F H d v
  | [], vs, i, d, h, e => by simp at e
  | d0 :: ds, vs, 0, d, h, e => by
    unfold Reps at h
    obtain ⟨v, r, e1, q, z⟩ := h
    subst e1
    simp only [List.getElem?_cons_zero, Option.some.injEq] at e
    subst e
    exact ⟨v, rfl, q⟩
  | d0 :: ds, vs, i + 1, d, h, e => by
    unfold Reps at h
    obtain ⟨v, r, e1, q, z⟩ := h
    subst e1
    simp only [List.getElem?_cons_succ] at e ⊢
    exact z.get e
theorem Reps.append : ∀ {ds es : List D} {vs ws : List V}, Reps K ca F H ds vs → Reps K ca F H es ws → Reps K ca F H (ds ++ es) (vs ++ ws)
  | [], es, vs, ws, h, g => by unfold Reps at h; subst h; exact g
  | d :: ds, es, vs, ws, h, g => by
    unfold Reps at h
    obtain ⟨v, r, e1, q, z⟩ := h
    subst e1
    exact .cons q (z.append g)
theorem Reps.take : ∀ {ds : List D} {vs : List V} (n : Nat), Reps K ca F H ds vs → Reps K ca F H (ds.take n) (vs.take n)
  | [], vs, n, h => by unfold Reps at h; subst h; rw [List.take_nil, List.take_nil]; exact .nil
  | d :: ds, vs, 0, h => by rw [List.take_zero, List.take_zero]; exact .nil
  | d :: ds, vs, n + 1, h => by
    unfold Reps at h
    obtain ⟨v, r, e1, q, z⟩ := h
    subst e1
    exact .cons q (z.take n)
theorem Reps.drop : ∀ {ds : List D} {vs : List V} (n : Nat), Reps K ca F H ds vs → Reps K ca F H (ds.drop n) (vs.drop n)
  | [], vs, n, h => by unfold Reps at h; subst h; rw [List.drop_nil, List.drop_nil]; exact .nil
  | d :: ds, vs, 0, h => h
  | d :: ds, vs, n + 1, h => by
    unfold Reps at h
    obtain ⟨v, r, e1, q, z⟩ := h
    subst e1
    exact z.drop n
theorem Reps.set : ∀ {ds : List D} {vs : List V} {d : D} {v : V} (i : Nat), Reps K ca F H ds vs → Rep K ca F H d v → Reps K ca F H (ds.set i d) (vs.set i v)
  | [], vs, d, v, i, h, g => by unfold Reps at h; subst h; exact .nil
  | d0 :: ds, vs, d, v, 0, h, g => by
    unfold Reps at h
    obtain ⟨v', r, e1, q, z⟩ := h
    subst e1
    exact .cons g z
  | d0 :: ds, vs, d, v, i + 1, h, g => by
    unfold Reps at h
    obtain ⟨v', r, e1, q, z⟩ := h
    subst e1
    exact .cons q (z.set i g)
end
end Ev
namespace Ev
open PySem PySem.Spec PyProof.Rows L2
section
variable {K : PySem.W.Frag} {ca : Ca} {F F' : Addr → Prop} {H H' : Hp} {A A' B : List Addr}

theorem RepI.stay {own : Bool} {d : D} {v : V} (h : RepI K ca F H own d v B) (f : ∀ a, F a → F' a) (k : ∀ a o, F a → H a = some o → H' a = some o)
    (kb : ∀ a ∈ B, ∀ o, H a = some o → H' a = some o) (nb : ∀ a ∈ B, ¬ F' a) : RepI K ca F' H' own d v B := by
  cases own with
  | false => exact ⟨h.1, Rep.mono f k d v h.2⟩
  | true =>
    obtain ⟨a, ds, vs, e1, e2, e3, n, q, r⟩ := h
    subst e3
    exact ⟨a, ds, vs, e1, e2, rfl, nb a (by simp), kb a (by simp) _ q, Reps.mono f k ds vs r⟩
theorem RepIs.stay : ∀ {ns : List Str} {ds : List D} {vs : List V} {B : List Addr}, RepIs K ca F H ns ds vs B → (∀ a, F a → F' a) → (∀ a o, F a → H a = some o → H' a = some o) →
    (∀ a ∈ B, ∀ o, H a = some o → H' a = some o) → (∀ a ∈ B, ¬ F' a) → RepIs K ca F' H' ns ds vs B
  | [], _, _, _, h, _, _, _, _ => h
  | n :: ns, ds, vs, B, h, f, k, kb, nb => by
    obtain ⟨d, dr, v, vr, B1, C, rfl, rfl, rfl, h1, h2⟩ := h
    exact ⟨d, dr, v, vr, B1, C, rfl, rfl, rfl, h1.stay f k (fun a m => kb a (List.mem_append_left _ m)) fun a m => nb a (List.mem_append_left _ m),
      h2.stay f k (fun a m => kb a (List.mem_append_right _ m)) fun a m => nb a (List.mem_append_right _ m)⟩
theorem Own.stay : ∀ {d : D} {v : V} {B : List Addr}, Own K ca F H d v B → (∀ a, F a → F' a) → (∀ a o, F a → H a = some o → H' a = some o) →
    (∀ a ∈ B, ∀ o, H a = some o → H' a = some o) → (∀ a ∈ B, ¬ F' a) → Own K ca F' H' d v B
  | .lst ds, v, B, h, f, k, kb, nb => by
    obtain ⟨a, vs, e1, e2, n, q, r⟩ := h
    subst e2
    exact ⟨a, vs, e1, rfl, nb a (by simp), kb a (by simp) _ q, Reps.mono f k ds vs r⟩
  | .dic ks ds, v, B, h, f, k, kb, nb => by
    obtain ⟨a, kvs, vs, e1, e2, n, q, rk, r⟩ := h
    subst e2
    exact ⟨a, kvs, vs, e1, rfl, nb a (by simp), kb a (by simp) _ q, rk, Reps.mono f k ds vs r⟩
  | .obj c ns ds, v, B, h, f, k, kb, nb => by
    obtain ⟨a, dx, gs, C, e1, kc, e2, n1, n2, q1, q2, e3, r⟩ := h
    subst e2
    exact ⟨a, dx, gs, C, e1, kc, rfl, nb a (by simp), nb dx (by simp), kb a (by simp) _ q1, kb dx (by simp) _ q2, e3,
      r.stay f k (fun b m => kb b (by simp [m])) fun b m => nb b (by simp [m])⟩
  | .non, _, _, h, _, _, _, _ => h
  | .bl _, _, _, h, _, _, _, _ => h
  | .int _, _, _, h, _, _, _, _ => h
  | .str _, _, _, h, _, _, _, _ => h
  | .tup _, _, _, h, _, _, _, _ => h
  | .scr _, _, _, h, _, _, _, _ => h
theorem RepI.nf {own : Bool} {d : D} {v : V} (h : RepI K ca F H own d v B) : ∀ a ∈ B, ¬ F a ∧ ∃ o, H a = some o := by
  cases own with
  | false => rw [h.1]; intro a m; cases m
  | true =>
    obtain ⟨a, ds, vs, e1, e2, e3, n, q, r⟩ := h
    subst e3
    intro b m
    have e : b = a := by simpa using m
    rw [e]; exact ⟨n, _, q⟩
theorem RepIs.nf : ∀ {ns : List Str} {ds : List D} {vs : List V} {B : List Addr}, RepIs K ca F H ns ds vs B → ∀ a ∈ B, ¬ F a ∧ ∃ o, H a = some o
  | [], _, _, _, h, a, m => by rw [h.2.2] at m; cases m
  | n :: ns, ds, vs, B, h, a, m => by
    obtain ⟨d, dr, v, vr, B1, C, rfl, rfl, rfl, h1, h2⟩ := h
    rcases List.mem_append.mp m with m | m
    · exact h1.nf a m
    · exact h2.nf a m
theorem Own.nf : ∀ {d : D} {v : V} {B : List Addr}, Own K ca F H d v B → ∀ a ∈ B, ¬ F a ∧ ∃ o, H a = some o
  | .lst ds, v, B, h, b, m => by
    obtain ⟨a, vs, e1, e2, n, q, r⟩ := h
    subst e2
    have e : b = a := by simpa using m
    rw [e]; exact ⟨n, _, q⟩
  | .dic ks ds, v, B, h, b, m => by
    obtain ⟨a, kvs, vs, e1, e2, n, q, r⟩ := h
    subst e2
    have e : b = a := by simpa using m
    rw [e]; exact ⟨n, _, q⟩
  | .obj c ns ds, v, B, h, b, m => by
    obtain ⟨a, dx, gs, C, e1, kc, e2, n1, n2, q1, q2, e3, r⟩ := h
    subst e2
    rcases List.mem_cons.mp m with m | m
    · rw [m]; exact ⟨n1, _, q1⟩
    · rcases List.mem_cons.mp m with m | m
      · rw [m]; exact ⟨n2, _, q2⟩
      · exact r.nf b m
  | .non, _, _, h, _, _ => False.elim h
  | .bl _, _, _, h, _, _ => False.elim h
  | .int _, _, _, h, _, _ => False.elim h
  | .str _, _, _, h, _, _ => False.elim h
  | .tup _, _, _, h, _, _ => False.elim h
  | .scr _, _, _, h, _, _ => False.elim h
theorem RepC.stay {c : Cell} {x : Option V} (h : RepC K ca F H c x B) (f : ∀ a, F a → F' a) (k : ∀ a o, F a → H a = some o → H' a = some o)
    (kb : ∀ a ∈ B, ∀ o, H a = some o → H' a = some o) (nb : ∀ a ∈ B, ¬ F' a) : RepC K ca F' H' c x B := by
  cases c with
  | n => exact h
  | f d => obtain ⟨e, v, e2, r⟩ := h; exact ⟨e, v, e2, Rep.mono f k d v r⟩
  | o d => obtain ⟨v, e, r⟩ := h; exact ⟨v, e, r.stay f k kb nb⟩
theorem RepC.nf {c : Cell} {x : Option V} (h : RepC K ca F H c x B) : ∀ a ∈ B, ¬ F a ∧ ∃ o, H a = some o := by
  cases c with
  | n => rw [show B = [] from h]; intro a m; cases m
  | f d => rw [h.1]; intro a m; cases m
  | o d => obtain ⟨v, e, r⟩ := h; exact r.nf
theorem RepS.stay : ∀ {st : Sl} {σ : L2.St} {B : List Addr}, RepS K ca F H st σ B → (∀ a, F a → F' a) → (∀ a o, F a → H a = some o → H' a = some o) →
    (∀ a ∈ B, ∀ o, H a = some o → H' a = some o) → (∀ a ∈ B, ¬ F' a) → RepS K ca F' H' st σ B
  | [], _, _, h, _, _, _, _ => h
  | c :: cs, σ, B, h, f, k, kb, nb => by
    obtain ⟨x, r, B1, C, rfl, rfl, h1, h2⟩ := h
    exact ⟨x, r, B1, C, rfl, rfl, h1.stay f k (fun a m => kb a (List.mem_append_left _ m)) fun a m => nb a (List.mem_append_left _ m),
      h2.stay f k (fun a m => kb a (List.mem_append_right _ m)) fun a m => nb a (List.mem_append_right _ m)⟩
theorem RepS.length : ∀ {st : Sl} {σ : L2.St} {B : List Addr}, RepS K ca F H st σ B → σ.length = st.length
  | [], _, _, h => by rw [h.1]; rfl
  | c :: cs, σ, B, h => by
    obtain ⟨x, r, B1, C, rfl, rfl, h1, h2⟩ := h
    rw [List.length_cons, List.length_cons, h2.length]
/-- a slot taken out -/
theorem RepS.take : ∀ {st : Sl} {σ : L2.St} {B : List Addr} {i : Nat} {c : Cell}, RepS K ca F H st σ B → st[i]? = some c →
    ∃ x B1 C, σ[i]? = some x ∧ RepC K ca F H c x B1 ∧ RepS K ca F H (st.set i .n) σ C ∧ B.Perm (B1 ++ C)
  | [], _, _, _, _, _, e => by simp at e
  | c0 :: cs, σ, B, 0, c, h, e => by
    obtain ⟨x, r, B1, C, rfl, rfl, h1, h2⟩ := h
    simp only [List.getElem?_cons_zero, Option.some.injEq] at e
    subst e
    exact ⟨x, B1, C, rfl, h1, ⟨x, r, [], C, rfl, rfl, rfl, h2⟩, .refl _⟩
  | c0 :: cs, σ, B, i + 1, c, h, e => by
    obtain ⟨x, r, B1, C, rfl, rfl, h1, h2⟩ := h
    simp only [List.getElem?_cons_succ] at e
    obtain ⟨y, B2, C2, e2, q1, q2, p⟩ := h2.take e
    refine ⟨y, B2, B1 ++ C2, by simpa using e2, q1, ⟨x, r, B1, C2, rfl, rfl, h1, q2⟩, ?_⟩
    refine (p.append_left B1).trans ?_
    rw [← List.append_assoc, ← List.append_assoc]
    exact List.perm_append_comm.append_right C2
/-- .. and put back -/
theorem RepS.put : ∀ {st : Sl} {σ : L2.St} {C : List Addr} {i : Nat} {c c0 : Cell} {x : Option V} {B1 : List Addr}, RepS K ca F H st σ C → st[i]? = some .n → σ[i]? = some x → RepC K ca F H c x B1 →
    ∃ B, RepS K ca F H (st.set i c) σ B ∧ B.Perm (B1 ++ C)
  | [], _, _, _, _, _, _, _, _, e, _, _ => by simp at e
  | c0 :: cs, σ, C, 0, c, _, x, B1, h, e, es, g => by
    obtain ⟨y, r, B2, C2, rfl, rfl, h1, h2⟩ := h
    simp only [List.getElem?_cons_zero, Option.some.injEq] at e es
    subst e es
    rw [show B2 = [] from h1]
    exact ⟨B1 ++ C2, ⟨y, r, B1, C2, rfl, rfl, g, h2⟩, .refl _⟩
  | c1 :: cs, σ, C, i + 1, c, c0, x, B1, h, e, es, g => by
    obtain ⟨y, r, B2, C2, rfl, rfl, h1, h2⟩ := h
    simp only [List.getElem?_cons_succ] at e es
    obtain ⟨B3, q, p⟩ := h2.put (c0 := c0) e es g
    refine ⟨B2 ++ B3, ⟨y, r, B2, B3, rfl, rfl, h1, q⟩, ?_⟩
    refine (p.append_left B2).trans ?_
    rw [← List.append_assoc, ← List.append_assoc]
    exact List.perm_append_comm.append_right C2
/-- a slot stored -/
theorem RepS.asg : ∀ {st : Sl} {σ : L2.St} {B : List Addr} {i : Nat} {c : Cell} {v : V} {B1 : List Addr}, RepS K ca F H st σ B → i < st.length → RepC K ca F H c (some v) B1 →
    ∃ B2 C, RepS K ca F H (st.set i c) (σ.set i (some v)) B2 ∧ B2.Perm (B1 ++ C) ∧ C.Sublist B
  | [], _, _, _, _, _, _, _, l, _ => by simp at l
  | c0 :: cs, σ, B, 0, c, v, B1, h, l, g => by
    obtain ⟨x, r, B2, C, rfl, rfl, h1, h2⟩ := h
    exact ⟨B1 ++ C, C, ⟨some v, r, B1, C, rfl, rfl, g, h2⟩, .refl _, List.sublist_append_right _ _⟩
  | c0 :: cs, σ, B, i + 1, c, v, B1, h, l, g => by
    obtain ⟨x, r, B2, C, rfl, rfl, h1, h2⟩ := h
    obtain ⟨B3, C3, q, p, s⟩ := h2.asg (by simpa using l) g
    refine ⟨B2 ++ B3, B2 ++ C3, ⟨x, r.set i (some v), B2, B3, rfl, rfl, h1, q⟩, ?_, s.append_left B2⟩
    refine (p.append_left B2).trans ?_
    rw [← List.append_assoc, ← List.append_assoc]
    exact List.perm_append_comm.append_right C3

theorem Rl.perm {st : Sl} {σ : L2.St} (h : Rl K ca F H st σ A) (p : A.Perm A') : Rl K ca F H st σ A' :=
  ⟨let ⟨B, q, e⟩ := h.rep; ⟨B, q, e.trans p⟩, p.nodup_iff.mp h.nd, h.fd, fun a m => h.nf a (p.mem_iff.mpr m)⟩
theorem Rl.len {st : Sl} {σ : L2.St} (h : Rl K ca F H st σ A) : σ.length = st.length := let ⟨_, q, _⟩ := h.rep; q.length
/-- new objects -/
theorem Rl.ext {st : Sl} {σ : L2.St} (h : Rl K ca F H st σ A) (k : ∀ a o, H a = some o → H' a = some o) : Rl K ca F H' st σ A :=
  ⟨let ⟨B, q, e⟩ := h.rep; ⟨B, q.stay (fun _ z => z) (fun a o _ => k a o) (fun a _ o => k a o) (fun a m => (h.nf a (e.mem_iff.mp m)).1), e⟩, h.nd,
    fun a q => let ⟨o, e⟩ := h.fd a q; ⟨o, k a o e⟩, fun a m => ⟨(h.nf a m).1, let ⟨o, e⟩ := (h.nf a m).2; ⟨o, k a o e⟩⟩⟩
theorem Rl.take {st : Sl} {σ : L2.St} {i : Nat} {c : Cell} (h : Rl K ca F H st σ A) (e : st[i]? = some c) :
    ∃ x B C, σ[i]? = some x ∧ RepC K ca F H c x B ∧ Rl K ca F H (st.set i .n) σ C ∧ A.Perm (B ++ C) := by
  obtain ⟨A0, q, p⟩ := h.rep
  obtain ⟨x, B, C, e1, r, s, p2⟩ := q.take e
  have pp : A.Perm (B ++ C) := p.symm.trans p2
  have nd : (B ++ C).Nodup := pp.nodup_iff.mp h.nd
  exact ⟨x, B, C, e1, r, ⟨⟨C, s, .refl _⟩, (List.nodup_append.mp nd).2.1, h.fd, fun a m => h.nf a (pp.mem_iff.mpr (List.mem_append_right _ m))⟩, pp⟩
theorem Rl.put {st : Sl} {σ : L2.St} {i : Nat} {c : Cell} {x : Option V} (h : Rl K ca F H st σ A) (e : st[i]? = some .n) (es : σ[i]? = some x) (r : RepC K ca F H c x B) (nd : (B ++ A).Nodup) :
    Rl K ca F H (st.set i c) σ (B ++ A) := by
  obtain ⟨A0, q, p⟩ := h.rep
  obtain ⟨B2, s, p2⟩ := q.put (c0 := .n) e es r
  refine ⟨⟨B2, s, p2.trans (p.append_left B)⟩, nd, h.fd, fun a m => ?_⟩
  rcases List.mem_append.mp m with m | m
  · exact r.nf a m
  · exact h.nf a m
theorem Rl.asg {st : Sl} {σ : L2.St} {i : Nat} {c : Cell} {v : V} (h : Rl K ca F H st σ A) (l : i < st.length) (r : RepC K ca F H c (some v) B) (nd : (B ++ A).Nodup) :
    ∃ C, (∀ a ∈ C, a ∈ A) ∧ Rl K ca F H (st.set i c) (σ.set i (some v)) (B ++ C) := by
  obtain ⟨A0, q, p⟩ := h.rep
  obtain ⟨B2, C, s, p2, su⟩ := q.asg l r
  have sub : ∀ a ∈ C, a ∈ A := fun a m => p.mem_iff.mp (su.subset m)
  have ndC : C.Nodup := (p.nodup_iff.mpr h.nd).sublist su
  obtain ⟨n1, n2, n3⟩ := List.nodup_append.mp nd
  refine ⟨C, sub, ⟨B2, s, p2⟩, List.nodup_append.mpr ⟨n1, ndC, fun a ma b mb => n3 a ma b (sub b mb)⟩, h.fd, fun a m => ?_⟩
  rcases List.mem_append.mp m with m | m
  · exact r.nf a m
  · exact h.nf a (sub a m)

/-- what was pending stays -/
theorem Step.kf {st : Sl} {σ : L2.St} (s : Step F H A F' H' A') (h : Rl K ca F H st σ A) : ∀ a o, F a → H a = some o → H' a = some o := fun a o f e => s.keep a o e fun m => (h.nf a m).1 f
theorem Step.nb {C : List Addr} (s : Step F H A F' H' A') (nf : ∀ a ∈ C, ¬ F a ∧ ∃ o, H a = some o) (d : ∀ a ∈ C, a ∉ A) : ∀ a ∈ C, ¬ F' a := fun a m q => by
  rcases s.fnew a q with z | z | z
  · exact (nf a m).1 z
  · obtain ⟨o, e⟩ := (nf a m).2; rw [e] at z; cases z
  · exact d a m z
theorem Own.step {st : Sl} {σ : L2.St} {d : D} {v : V} (o : Own K ca F H d v B) (s : Step F H A F' H' A') (h : Rl K ca F H st σ A) (dj : ∀ a ∈ B, a ∉ A) : Own K ca F' H' d v B :=
  o.stay s.fm (s.kf h) (fun a m ob e => s.keep a ob e (dj a m)) (s.nb o.nf dj)
theorem RepC.step {st : Sl} {σ : L2.St} {c : Cell} {x : Option V} (o : RepC K ca F H c x B) (s : Step F H A F' H' A') (h : Rl K ca F H st σ A) (dj : ∀ a ∈ B, a ∉ A) : RepC K ca F' H' c x B :=
  o.stay s.fm (s.kf h) (fun a m ob e => s.keep a ob e (dj a m)) (s.nb o.nf dj)
theorem Rep.step {st : Sl} {σ : L2.St} {d : D} {v : V} (o : Rep K ca F H d v) (s : Step F H A F' H' A') (h : Rl K ca F H st σ A) : Rep K ca F' H' d v := Rep.mono s.fm (s.kf h) d v o
theorem Reps.step {st : Sl} {σ : L2.St} {d : List D} {v : List V} (o : Reps K ca F H d v) (s : Step F H A F' H' A') (h : Rl K ca F H st σ A) : Reps K ca F' H' d v := Reps.mono s.fm (s.kf h) d v o
/-- slots that did not run stay: what another part does -/
theorem Rl.step {st st2 : Sl} {σ σ2 : L2.St} {C : List Addr} (h : Rl K ca F H st σ C) (s : Step F H A F' H' A') (g : Rl K ca F H st2 σ2 A) (dj : ∀ a ∈ C, a ∉ A) (fd : ∀ a, F' a → ∃ o, H' a = some o) : Rl K ca F' H' st σ C := by
  obtain ⟨B, q, e⟩ := h.rep
  have nb := s.nb h.nf dj
  refine ⟨⟨B, q.stay s.fm (s.kf g) (fun a m ob z => s.keep a ob z (dj a (e.mem_iff.mp m))) (fun a m => nb a (e.mem_iff.mp m)), e⟩, h.nd, fd, fun a m => ⟨nb a m, ?_⟩⟩
  obtain ⟨o, z⟩ := (h.nf a m).2
  exact ⟨o, s.keep a o z (dj a m)⟩

/-- what may be frozen: no object with lists of its own -/
def fzOk : D → Bool
  | .lst _ => true
  | .dic _ _ => true
  | .obj _ ns _ => ns.all fun f => !owf f
  | _ => false
theorem RepIs.fz : ∀ {ns : List Str} {ds : List D} {vs : List V} {B : List Addr}, RepIs K ca F H ns ds vs B → (ns.all fun f => !owf f) = true → B = [] ∧ Reps K ca F H ds vs
  | [], _, _, _, h, _ => by
    obtain ⟨rfl, rfl, rfl⟩ := h
    exact ⟨rfl, .nil⟩
  | n :: ns, ds, vs, B, h, g => by
    obtain ⟨d, dr, v, vr, B1, C, rfl, rfl, rfl, h1, h2⟩ := h
    rw [List.all_cons, Bool.and_eq_true] at g
    obtain ⟨rfl, r2⟩ := h2.fz g.2
    have e : owf n = false := by simpa using g.1
    rw [e] at h1
    obtain ⟨rfl, r1⟩ := h1
    exact ⟨rfl, .cons r1 r2⟩
theorem Own.fz {d : D} {v : V} (h : Own K ca F H d v B) (g : fzOk d = true) : Rep K ca (fun a => F a ∨ a ∈ B) H d v := by
  cases d with
  | lst ds =>
    obtain ⟨a, vs, e1, e2, n, q, r⟩ := h
    subst e2
    unfold Rep
    exact ⟨a, vs, e1, ⟨.inr (by simp), q⟩, Reps.mono (fun _ => .inl) (fun _ _ _ z => z) _ _ r⟩
  | dic ks ds =>
    obtain ⟨a, kvs, vs, e1, e2, n, q, rk, r⟩ := h
    subst e2
    unfold Rep
    exact ⟨a, kvs, vs, e1, .inr (by simp), .inl q, rk, Reps.mono (fun _ => .inl) (fun _ _ _ z => z) _ _ r⟩
  | obj c ns ds =>
    obtain ⟨a, dx, gs, C, e1, kc, e2, n1, n2, q1, q2, e3, r⟩ := h
    obtain ⟨e0, r0⟩ := r.fz g
    subst e0
    subst e2
    unfold Rep
    exact ⟨a, dx, gs, _, e1, kc, .inr (by simp), .inr (by simp), q1, q2, e3, rfl, Reps.mono (fun _ => .inl) (fun _ _ _ z => z) _ _ r0⟩
  | non => exact h.elim
  | bl _ => exact h.elim
  | int _ => exact h.elim
  | str _ => exact h.elim
  | tup _ => exact h.elim
  | scr _ => exact h.elim
theorem Rl.fz {st : Sl} {σ : L2.St} (h : Rl K ca F H st σ A) (nb : ∀ a ∈ B, ∃ o, H a = some o) (dj : ∀ a ∈ B, a ∉ A) : Rl K ca (fun a => F a ∨ a ∈ B) H st σ A := by
  have nA : ∀ a ∈ A, ¬ (F a ∨ a ∈ B) := fun a m z => z.elim (h.nf a m).1 fun q => dj a q m
  obtain ⟨B2, q, e⟩ := h.rep
  refine ⟨⟨B2, q.stay (fun _ => .inl) (fun _ _ _ z => z) (fun _ _ _ z => z) (fun a m => nA a (e.mem_iff.mp m)), e⟩, h.nd, fun a m => m.elim (h.fd a) (nb a), fun a m => ⟨nA a m, (h.nf a m).2⟩⟩
end
end Ev
namespace Ev
open PySem PySem.Spec PyProof.Rows L2

/-- an exception of the class c; x: its index -/
def ExcIs (K : PySem.W.Frag) (ca : Ca) (F : Addr → Prop) (H : Hp) (c : Str) (x : Option D) (cls : Value) (oe : Option Addr) : Prop :=
  cls = .ref (ca.a c) ∧ ∀ d, x = some d → ∃ a v, oe = some a ∧ H a = some (.xd [("index", v)]) ∧ Rep K ca F H d v

section
variable (K : PySem.W.Frag) (ca : Ca) (W : WX)
/-- what is wanted where an exception comes -/
def XcW (F : Addr → Prop) (H : Hp) (A : List Addr) (σ : L2.St) (c : Str) (x : Option D) (st' : Sl) : Prop :=
  ∀ cls oe F' H' A', Rl K ca F' H' st' σ A' → ExcIs K ca F' H' c x cls oe → Step F H A F' H' A' → W cls oe σ H'
/-- an expression that gives frozen data -/
def tE (m : E) : TE := fun σ H Q => ∃ F st A, Rl K ca F H st σ A ∧ match m st with
  | .ok d st' => ∀ v F' H' A', Rl K ca F' H' st' σ A' → Rep K ca F' H' d v → Step F H A F' H' A' → Q v H'
  | .exc c x st' => XcW K ca W F H A σ c x st'
  | .bad => False
/-- .. that gives data that nothing else holds -/
def tO (m : E) : TE := fun σ H Q => ∃ F st A, Rl K ca F H st σ A ∧ match m st with
  | .ok d st' => ∀ v F' H' A' B, Rl K ca F' H' st' σ A' → Own K ca F' H' d v B → (B ++ A').Nodup → Step F H A F' H' (B ++ A') → Q v H'
  | .exc c x st' => XcW K ca W F H A σ c x st'
  | .bad => False
end
theorem PE.imp {X : Cx} {e : Expr} {t t' : TE} (h : PE X e t) (i : ∀ σ H Q, t' σ H Q → t σ H Q) : PE X e t' := ⟨fun pins s σ H Q I q => h.run pins s σ H Q I (i σ H Q q)⟩
theorem PT.imp {X : Cx} {e : Expr} {t t' : TT} (h : PT X e t) (i : ∀ σ H Q, t' σ H Q → t σ H Q) : PT X e t' := ⟨fun pins s σ H Q I q => h.run pins s σ H Q I (i σ H Q q)⟩
theorem PA.imp {X : Cx} {e : List Expr} {t t' : TA} (h : PA X e t) (i : ∀ σ H Q, t' σ H Q → t σ H Q) : PA X e t' := ⟨fun pos pins s σ H Q I q => h.run pos pins s σ H Q I (i σ H Q q)⟩
theorem PS.imp {X : Cx} {e : Stmt} {t t' : TS} (h : PS X e t) (i : ∀ D σ H, t' D σ H → t D σ H) : PS X e t' := ⟨fun pins s σ H D I q => h.run pins s σ H D I (i D σ H q)⟩
theorem PSs.imp {X : Cx} {e : List Stmt} {t t' : TS} (h : PSs X e t) (i : ∀ D σ H, t' D σ H → t D σ H) : PSs X e t' := ⟨fun pins s σ H D I q => h.run pins s σ H D I (i D σ H q)⟩
theorem PG.imp {X : Cx} {e : Expr} {t t' : TG} (h : PG X e t) (i : ∀ v σ H Q, t' v σ H Q → t v σ H Q) : PG X e t' := ⟨fun pins s σ H v u Q I r q => h.run pins s σ H v u Q I r (i v σ H Q q)⟩
theorem PI.imp {X : Cx} {tg e : Expr} {t t' : TI} (h : PI X tg e t) (i : ∀ σ H R, t' σ H R → t σ H R) : PI X tg e t' := ⟨fun pins s σ H R I q => h.run pins s σ H R I (i σ H R q)⟩

def lookF : List Str → List D → Str → Option D
  | n :: ns, d :: ds, f => if f == n then some d else lookF ns ds f
  | _, _, _ => none
def rd (i : Nat) (st : Sl) : Option D := match st[i]? with
  | some (.f d) => some d
  | some (.o d) => some d
  | _ => none
def rdF (i : Nat) (f : Str) (st : Sl) : Option D := match rd i st with
  | some (.obj _ ns ds) => lookF ns ds f
  | _ => none
section
variable (K : PySem.W.Frag) (ca : Ca)
/-- v is to be read as d just now -/
def VwL (F : Addr → Prop) (H : Hp) (d : D) (v : V) : Prop := Rep K ca F H d v ∨ ∃ a ds vs, d = .lst ds ∧ v = .ref a ∧ H a = some (.lst vs) ∧ Reps K ca F H ds vs
def Vws (F : Addr → Prop) (H : Hp) : List Str → List D → List V → Prop
  | [], ds, vs => ds = [] ∧ vs = []
  | n :: ns, ds, vs => ∃ d dr v vr, ds = d :: dr ∧ vs = v :: vr ∧ VwL K ca F H d v ∧ (owf n = false → Rep K ca F H d v) ∧ Vws F H ns dr vr
def Vw (F : Addr → Prop) (H : Hp) : D → V → Prop
  | .lst ds, v => ∃ a vs, v = .ref a ∧ H a = some (.lst vs) ∧ Reps K ca F H ds vs
  | .dic ks ds, v => ∃ a kvs vs, v = .ref a ∧ Rd H a (.dK kvs) ∧ RepK vs ks kvs ∧ Reps K ca F H ds vs
  | .obj c ns ds, v => ∃ a dx gs, v = .ref a ∧ ca.ok c ns ∧ H a = some (.ins (ca.a c) dx gs) ∧ H dx = some (.own a) ∧ gs.map (·.1) = ns ∧ Vws K ca F H ns ds (gs.map (·.2))
  | .non, v => v = .non
  | .bl b, v => v = .bl b
  | .int i, v => v = .int i
  | .str x, v => v = .str x
  | .tup ds, v => Rep K ca F H (.tup ds) v
  | .scr ns, v => Rep K ca F H (.scr ns) v
end
section
variable {K : PySem.W.Frag} {ca : Ca} {F F' : Addr → Prop} {H H' : Hp} {A A' B : List Addr}
theorem Vws.of : ∀ {ns : List Str} {ds : List D} {vs : List V}, Reps K ca F H ds vs → vs.length = ns.length → Vws K ca F H ns ds vs
  | [], ds, vs, h, l => by
    have e : vs = [] := List.eq_nil_of_length_eq_zero l
    subst e
    cases ds with
    | nil => exact ⟨rfl, rfl⟩
    | cons d dr =>
      unfold Reps at h
      obtain ⟨v, r, e, _⟩ := h
      cases e
  | n :: ns, ds, vs, h, l => by
    cases ds with
    | nil => unfold Reps at h; subst h; cases l
    | cons d dr =>
      unfold Reps at h
      obtain ⟨v, r, e, q, z⟩ := h
      subst e
      exact ⟨d, dr, v, r, rfl, rfl, .inl q, fun _ => q, Vws.of z (by simpa using l)⟩
theorem Vws.own : ∀ {ns : List Str} {ds : List D} {vs : List V} {B : List Addr}, RepIs K ca F H ns ds vs B → Vws K ca F H ns ds vs
  | [], ds, vs, B, h => ⟨h.1, h.2.1⟩
  | n :: ns, ds, vs, B, h => by
    obtain ⟨d, dr, v, vr, B1, C, rfl, rfl, rfl, h1, h2⟩ := h
    refine ⟨d, dr, v, vr, rfl, rfl, ?_, fun e => ?_, Vws.own h2⟩
    · cases e : owf n with
      | false => rw [e] at h1; exact .inl h1.2
      | true =>
        rw [e] at h1
        obtain ⟨a, es, vs, e1, e2, _, _, q, r⟩ := h1
        exact .inr ⟨a, es, vs, e1, e2, q, r⟩
    · rw [e] at h1; exact h1.2
theorem Rep.vw {d : D} {v : V} (h : Rep K ca F H d v) : Vw K ca F H d v := by
  cases d with
  | non => unfold Rep at h; exact h
  | bl b => unfold Rep at h; exact h
  | int i => unfold Rep at h; exact h
  | str x => unfold Rep at h; exact h
  | tup ds => exact h
  | scr ns => exact h
  | lst ds => unfold Rep at h; obtain ⟨a, vs, e, q, r⟩ := h; exact ⟨a, vs, e, q.2, r⟩
  | dic ks ds => unfold Rep at h; obtain ⟨a, kvs, vs, e, _, q, rk, r⟩ := h; exact ⟨a, kvs, vs, e, q, rk, r⟩
  | obj c ns ds =>
    unfold Rep at h
    obtain ⟨a, dx, gs, vs, e, kc, _, _, q1, q2, e1, e2, r⟩ := h
    refine ⟨a, dx, gs, e, kc, q1, q2, e1, ?_⟩
    rw [e2]
    refine Vws.of r ?_
    rw [← e2, ← e1]; simp
theorem Own.vw {d : D} {v : V} (h : Own K ca F H d v B) : Vw K ca F H d v := by
  cases d with
  | lst ds => obtain ⟨a, vs, e, _, _, q, r⟩ := h; exact ⟨a, vs, e, q, r⟩
  | dic ks ds => obtain ⟨a, kvs, vs, e, _, _, q, rk, r⟩ := h; exact ⟨a, kvs, vs, e, .inl q, rk, r⟩
  | obj c ns ds => obtain ⟨a, dx, gs, C, e, kc, _, _, _, q1, q2, e1, r⟩ := h; exact ⟨a, dx, gs, e, kc, q1, q2, e1, Vws.own r⟩
  | non => exact h.elim
  | bl _ => exact h.elim
  | int _ => exact h.elim
  | str _ => exact h.elim
  | tup _ => exact h.elim
  | scr _ => exact h.elim
theorem VwL.vw {d : D} {v : V} (h : VwL K ca F H d v) : Vw K ca F H d v := by
  rcases h with h | ⟨a, ds, vs, rfl, e, q, r⟩
  · exact h.vw
  · exact ⟨a, vs, e, q, r⟩
theorem Rl.rd {st : Sl} {σ : L2.St} {i : Nat} {d : D} (h : Rl K ca F H st σ A) (e : rd i st = some d) : ∃ v, σ[i]? = some (some v) ∧ Vw K ca F H d v := by
  unfold Ev.rd at e
  cases q : st[i]? with
  | none => rw [q] at e; cases e
  | some c =>
    rw [q] at e
    obtain ⟨x, B, C, e1, r, _, _⟩ := h.take q
    cases c with
    | n => cases e
    | f d' =>
      cases e
      obtain ⟨_, v, rfl, r⟩ := r
      exact ⟨v, e1, r.vw⟩
    | o d' =>
      cases e
      obtain ⟨v, rfl, r⟩ := r
      exact ⟨v, e1, r.vw⟩
theorem Vws.look : ∀ {ns : List Str} {ds : List D} {gs : List (Str × V)} {f : Str} {d : D}, Vws K ca F H ns ds (gs.map (·.2)) → gs.map (·.1) = ns → lookF ns ds f = some d →
    ∃ v, gs.lookup f = some v ∧ VwL K ca F H d v ∧ (owf f = false → Rep K ca F H d v) ∧ f ∈ ns
  | [], ds, gs, f, d, h, e, l => by cases ds <;> cases l
  | n :: ns, ds, gs, f, d, h, e, l => by
    obtain ⟨d0, dr, v, vr, rfl, e2, h1, h2, h3⟩ := h
    cases gs with
    | nil => cases e2
    | cons g gs =>
      simp only [List.map_cons, List.cons.injEq] at e e2
      obtain ⟨e, er⟩ := e
      obtain ⟨e2, e2r⟩ := e2
      obtain ⟨g1, g2⟩ := g
      simp only at e e2
      subst e e2
      unfold lookF at l
      rw [List.lookup_cons]
      cases q : f == g1 with
      | true =>
        rw [q] at l
        cases l
        have ef : f = g1 := eq_of_beq q
        exact ⟨g2, rfl, h1, fun z => h2 (ef ▸ z), by rw [ef]; exact List.mem_cons_self⟩
      | false =>
        rw [q] at l
        subst e2r
        obtain ⟨v, a1, a2, a3, a4⟩ := Vws.look h3 er l
        exact ⟨v, a1, a2, a3, List.mem_cons_of_mem _ a4⟩
end

inductive Opd where
  | e (m : E) | v (i : Nat) | h (i : Nat) (f : Str)
/-- what an operand comes to: read at the end -/
def evO : Opd → Sl → R (Sl → Option D)
  | .e m, st => (m st).bind fun d st => .ok (fun _ => some d) st
  | .v i, st => match rd i st with
    | some _ => .ok (rd i) st
    | none => .bad
  | .h i f, st => .ok (rdF i f) st
def evOs : List Opd → Sl → R (List (Sl → Option D))
  | [], st => .ok [] st
  | p :: ps, st => (evO p st).bind fun r st => (evOs ps st).bind fun rs st => .ok (r :: rs) st
def rdAll : List (Sl → Option D) → Sl → Option (List D)
  | [], _ => some []
  | r :: rs, st => match r st, rdAll rs st with
    | some d, some ds => some (d :: ds)
    | _, _ => none
/-- an operation on operands -/
def eOp (g : List D → Option D) (ps : List Opd) : E := fun st => (evOs ps st).bind fun rs st => match rdAll rs st with
  | some ds => (match g ds with
    | some d => .ok d st
    | none => .bad)
  | none => .bad
/-- no operand that runs -/
def quiet : List Opd → Bool
  | [] => true
  | .e _ :: _ => false
  | _ :: ps => quiet ps
/-- an own field is read at the end alone -/
def opdsOk : List Opd → Bool
  | [] => true
  | .h _ _ :: ps => quiet ps
  | _ :: ps => opdsOk ps
theorem opdsOk_of_quiet : ∀ {ps : List Opd}, quiet ps = true → opdsOk ps = true
  | [], _ => rfl
  | .v _ :: ps, h => opdsOk_of_quiet (ps := ps) h
  | .h _ _ :: ps, h => h
section
variable (K : PySem.W.Frag) (ca : Ca) (W : WX)
def tP : Opd → TE
  | .e m => tE K ca W m
  | .v i => tVar i
  | .h i f => tFld K (tVar i) f
def tPs : List Opd → TA
  | [] => tNil
  | p :: ps => tCons (tP K ca W p) (tPs ps)
def VwA (F : Addr → Prop) (H : Hp) : List D → List V → Prop
  | [], vs => vs = []
  | d :: ds, vs => ∃ v r, vs = v :: r ∧ Vw K ca F H d v ∧ VwA F H ds r
end
/-- the facts of the classes -/
structure Cf (K : PySem.W.Frag) (ca : Ca) : Prop where
  cl : ∀ c ns, ca.ok c ns → Cls K (ca.a c)
  na : ∀ c ns, ca.ok c ns → ∀ f ∈ ns, NoAttr K (ca.a c) f
theorem owf_eq {f : Str} (h : owf f = true) : f = "history" := eq_of_beq h
section
variable {K : PySem.W.Frag} {ca : Ca} {W : WX} {F : Addr → Prop} {H : Hp} {A : List Addr} {σ : L2.St}
theorem evOs_v {i : Nat} {ps : List Opd} {st : Sl} {d : D} (h : rd i st = some d) : evOs (.v i :: ps) st = (evOs ps st).bind fun rs st => .ok (rd i :: rs) st := by
  show (R.bind (match rd i st with | some _ => R.ok (rd i) st | none => .bad) _) = _
  rw [h]; rfl
theorem evOs_v0 {i : Nat} {ps : List Opd} {st : Sl} (h : rd i st = none) : evOs (.v i :: ps) st = .bad := by
  show (R.bind (match rd i st with | some _ => R.ok (rd i) st | none => .bad) _) = _
  rw [h]; rfl
theorem evOs_h {i : Nat} {f : Str} {ps : List Opd} {st : Sl} : evOs (.h i f :: ps) st = (evOs ps st).bind fun rs st => .ok (rdF i f :: rs) st := rfl
theorem evOs_e {m : E} {ps : List Opd} {st : Sl} : evOs (.e m :: ps) st = (m st).bind fun d st => (evOs ps st).bind fun rs st => .ok ((fun _ => some d) :: rs) st := by
  show ((m st).bind fun d st => R.ok (fun _ => some d) st).bind _ = _
  cases m st <;> rfl
/-- a value by a reader -/
theorem rdAll_cons {r : Sl → Option D} {rs : List (Sl → Option D)} {st : Sl} {ds : List D} (h : rdAll (r :: rs) st = some ds) : ∃ d dr, ds = d :: dr ∧ r st = some d ∧ rdAll rs st = some dr := by
  unfold rdAll at h
  cases e1 : r st with
  | none => rw [e1] at h; cases h
  | some d =>
    cases e2 : rdAll rs st with
    | none => rw [e1, e2] at h; cases h
    | some dr => rw [e1, e2] at h; cases h; exact ⟨d, dr, rfl, rfl, rfl⟩
theorem vw_field (cf : Cf K ca) {i : Nat} {f : Str} {st : Sl} {d : D} (h : Rl K ca F H st σ A) (ho : owf f = true) (e : rdF i f st = some d) :
    ∃ x, Vw K ca F H d x ∧ ∀ Q : VK, Q x H → tFld K (tVar i) f σ H Q := by
  unfold rdF at e
  cases q : rd i st with
  | none => rw [q] at e; cases e
  | some d0 =>
    rw [q] at e
    cases d0 <;> try cases e
    rename_i c ns ds
    obtain ⟨v, e1, a, dx, gs, rfl, kc, q1, q2, e2, vw⟩ := h.rd q
    obtain ⟨x, l, w, _, fm⟩ := vw.look e2 e
    exact ⟨x, w.vw, fun Q hq => ⟨_, e1, a, ca.a c, dx, gs, x, rfl, q1, cf.cl c ns kc, cf.na c ns kc f fm, l, hq⟩⟩
/-- all own fields that are read -/
def opdsF : List Opd → Bool
  | [] => true
  | .h _ f :: ps => owf f && opdsF ps
  | _ :: ps => opdsF ps
/-- quiet operands: nothing runs -/
theorem evOs_quiet : ∀ {ps : List Opd} {st : Sl}, quiet ps = true → (∃ rs, evOs ps st = .ok rs st) ∨ evOs ps st = .bad
  | [], st, _ => .inl ⟨[], rfl⟩
  | .v i :: ps, st, q => by
    cases r : rd i st with
    | none => exact .inr (evOs_v0 r)
    | some d =>
      rw [evOs_v r]
      rcases evOs_quiet (ps := ps) (st := st) q with ⟨rs, e⟩ | e
      · rw [e]; exact .inl ⟨_, rfl⟩
      · rw [e]; exact .inr rfl
  | .h i f :: ps, st, q => by
    rw [evOs_h]
    rcases evOs_quiet (ps := ps) (st := st) q with ⟨rs, e⟩ | e
    · rw [e]; exact .inl ⟨_, rfl⟩
    · rw [e]; exact .inr rfl
theorem opds_quiet (cf : Cf K ca) : ∀ {ps : List Opd} {st : Sl} {Q : List V → Hp → Prop}, quiet ps = true → opdsF ps = true → Rl K ca F H st σ A →
    (match evOs ps st with
      | .ok rs st' => ∃ ds, rdAll rs st' = some ds ∧ ∀ xs, VwA K ca F H ds xs → Q xs H
      | _ => False) → tPs K ca W ps σ H Q ∧ ∀ rs st', evOs ps st = .ok rs st' → st' = st
  | [], st, Q, _, _, h, q => by
    obtain ⟨ds, g, q⟩ := q
    cases g
    exact ⟨q [] rfl, fun _ _ e => by cases e; rfl⟩
  | .v i :: ps, st, Q, qu, of, h, q => by
    cases r : rd i st with
    | none => rw [evOs_v0 r] at q; exact q.elim
    | some d0 =>
      rw [evOs_v r] at q ⊢
      obtain ⟨v, e1, w⟩ := h.rd r
      cases z : evOs ps st with
      | bad => rw [z] at q; exact q.elim
      | exc c x s => rw [z] at q; exact q.elim
      | ok rs st1 =>
        rw [z] at q
        obtain ⟨ds, g, q⟩ := q
        obtain ⟨d, dr, rfl, g1, g2⟩ := rdAll_cons g
        have ih := opds_quiet cf (ps := ps) (st := st) (Q := fun xs H' => Q (v :: xs) H') qu of h (by
          rw [z]
          have e0 : st1 = st := (opds_quiet cf (ps := ps) (st := st) (Q := fun _ _ => True) qu of h (by rw [z]; exact ⟨dr, g2, fun _ _ => trivial⟩)).2 _ _ z
          rw [e0, r] at g1
          cases g1
          exact ⟨dr, g2, fun xs hx => q _ ⟨v, xs, rfl, w, hx⟩⟩)
        refine ⟨⟨v, e1, ih.1⟩, fun rs' st' e => ?_⟩
        cases e
        exact ih.2 _ _ z
  | .h i f :: ps, st, Q, qu, of, h, q => by
    obtain ⟨ho, of⟩ := Bool.and_eq_true_iff.mp (show (owf f && opdsF ps) = true from of)
    rw [evOs_h] at q ⊢
    cases z : evOs ps st with
    | bad => rw [z] at q; exact q.elim
    | exc c x s => rw [z] at q; exact q.elim
    | ok rs st1 =>
      rw [z] at q
      obtain ⟨ds, g, q⟩ := q
      obtain ⟨d, dr, rfl, g1, g2⟩ := rdAll_cons g
      have e0 : st1 = st := (opds_quiet cf (ps := ps) (st := st) (Q := fun _ _ => True) qu of h (by rw [z]; exact ⟨dr, g2, fun _ _ => trivial⟩)).2 _ _ z
      subst e0
      obtain ⟨x, w, k⟩ := vw_field cf h ho g1
      have ih := opds_quiet cf (ps := ps) (st := st1) (Q := fun xs H' => Q (x :: xs) H') qu of h (by
        rw [z]
        exact ⟨dr, g2, fun xs hx => q _ ⟨x, xs, rfl, w, hx⟩⟩)
      refine ⟨k (fun v H1 => tPs K ca W ps σ H1 fun xs H2 => Q (v :: xs) H2) ih.1, fun rs' st' e => ?_⟩
      cases e
      rfl
/-- the operands' readings -/
theorem opds_run (cf : Cf K ca) : ∀ {ps : List Opd} {F : Addr → Prop} {H : Hp} {A : List Addr} {st : Sl} {Q : List V → Hp → Prop}, opdsOk ps = true → opdsF ps = true → Rl K ca F H st σ A →
    (match evOs ps st with
      | .ok rs st' => ∃ ds, rdAll rs st' = some ds ∧ ∀ xs F' H' A', Rl K ca F' H' st' σ A' → VwA K ca F' H' ds xs → Step F H A F' H' A' → Q xs H'
      | .exc c x st' => XcW K ca W F H A σ c x st'
      | .bad => False) → tPs K ca W ps σ H Q
  | [], F, H, A, st, Q, _, _, h, q => by
    obtain ⟨ds, g, q⟩ := q
    cases g
    exact q [] F H A h rfl .refl
  | .v i :: ps, F, H, A, st, Q, ok, of, h, q => by
    cases r : rd i st with
    | none => rw [evOs_v0 r] at q; exact q.elim
    | some d0 =>
      rw [evOs_v r] at q
      obtain ⟨v, e1, w⟩ := h.rd r
      refine ⟨v, e1, opds_run cf (ps := ps) ok of h ?_⟩
      cases z : evOs ps st with
      | bad => rw [z] at q; exact q
      | exc c x s => rw [z] at q; exact q
      | ok rs st1 =>
        rw [z] at q
        obtain ⟨ds, g, q⟩ := q
        obtain ⟨d, dr, rfl, g1, g2⟩ := rdAll_cons g
        refine ⟨dr, g2, fun xs F' H' A' h' hx s => q _ F' H' A' h' ⟨v, xs, rfl, ?_, hx⟩ s⟩
        obtain ⟨v', e1', w'⟩ := h'.rd g1
        rw [e1] at e1'
        cases e1'
        exact w'
  | .h i f :: ps, F, H, A, st, Q, ok, of, h, q => by
    refine (opds_quiet cf (ps := .h i f :: ps) (st := st) (Q := Q) ok of h ?_).1
    rcases evOs_quiet (ps := .h i f :: ps) (st := st) ok with ⟨rs, z⟩ | z
    · rw [z] at q
      rw [z]
      obtain ⟨ds, g, q⟩ := q
      exact ⟨ds, g, fun xs hx => q xs F H A h hx .refl⟩
    · rw [z] at q; exact q.elim
  | .e m :: ps, F, H, A, st, Q, ok, of, h, q => by
    rw [evOs_e] at q
    refine ⟨F, st, A, h, ?_⟩
    cases z : m st with
    | bad => rw [z] at q; exact q
    | exc c x s => rw [z] at q; exact q
    | ok d st1 =>
      rw [z] at q
      intro v F1 H1 A1 h1 rep s1
      refine opds_run cf (ps := ps) ok of h1 ?_
      have q' : (match (evOs ps st1).bind fun rs st => R.ok ((fun _ => some d) :: rs) st with
        | .ok rs st' => ∃ ds, rdAll rs st' = some ds ∧ ∀ xs F' H' A', Rl K ca F' H' st' σ A' → VwA K ca F' H' ds xs → Step F H A F' H' A' → Q xs H'
        | .exc c x st' => XcW K ca W F H A σ c x st'
        | .bad => False) := q
      cases z2 : evOs ps st1 with
      | bad => rw [z2] at q'; exact q'
      | exc c x s => rw [z2] at q'; exact fun cls oe F' H' A' r xi s => q' cls oe F' H' A' r xi (s1.trans s)
      | ok rs st2 =>
        rw [z2] at q'
        obtain ⟨ds, g, q'⟩ := q'
        obtain ⟨d1, dr, rfl, g1, g2⟩ := rdAll_cons g
        cases g1
        exact ⟨dr, g2, fun xs F' H' A' h' hx s => q' _ F' H' A' h' ⟨v, xs, rfl, (rep.step s h1).vw, hx⟩ (s1.trans s)⟩

/-- new objects: frozen ones -/
structure Al (F : Addr → Prop) (H : Hp) (F' : Addr → Prop) (H' : Hp) : Prop where
  fm : ∀ a, F a → F' a
  keep : ∀ a o, H a = some o → H' a = some o
  fnew : ∀ a, F' a → F a ∨ (H a = none ∧ ∃ o, H' a = some o)
theorem Al.refl {F : Addr → Prop} {H : Hp} : Al F H F H := ⟨fun _ h => h, fun _ _ h => h, fun _ h => .inl h⟩
theorem Al.step {F' : Addr → Prop} {H' : Hp} (h : Al F H F' H') : Step F H A F' H' A := ⟨h.fm, fun a o e _ => h.keep a o e, fun a o e => ⟨o, h.keep a o e⟩, fun a m => (h.fnew a m).elim .inl fun z => .inr (.inl z.1), fun _ m => .inl m⟩
theorem Al.rl {F' : Addr → Prop} {H' : Hp} {st : Sl} (h : Al F H F' H') (r : Rl K ca F H st σ A) : Rl K ca F' H' st σ A := by
  have nA : ∀ a ∈ A, ¬ F' a := fun a m q => by
    rcases h.fnew a q with z | ⟨z, _⟩
    · exact (r.nf a m).1 z
    · obtain ⟨o, e⟩ := (r.nf a m).2; rw [e] at z; cases z
  obtain ⟨B2, q, e⟩ := r.rep
  refine ⟨⟨B2, q.stay h.fm (fun a o _ => h.keep a o) (fun a _ o => h.keep a o) (fun a m => nA a (e.mem_iff.mp m)), e⟩, r.nd, fun a m => ?_, fun a m => ⟨nA a m, let ⟨o, e⟩ := (r.nf a m).2; ⟨o, h.keep a o e⟩⟩⟩
  rcases h.fnew a m with z | ⟨_, z⟩
  · obtain ⟨o, e⟩ := r.fd a z; exact ⟨o, h.keep a o e⟩
  · exact z
/-- one new object, frozen -/
theorem Al.new {p : Addr} {o : HO} (n : H p = none) : Al F H (fun a => F a ∨ a = p) (upd H p o) := by
  refine ⟨fun _ => .inl, fun a u e => ?_, fun a m => ?_⟩
  · rw [upd_ne (ne_of_none e n)]; exact e
  · rcases m with m | rfl
    · exact .inl m
    · exact .inr ⟨n, o, upd_same⟩
/-- .. or an own one -/
theorem Step.newO {p : Addr} {o : HO} (n : H p = none) : Step F H A F (upd H p o) (p :: A) where
  fm := fun _ h => h
  keep := fun a u e _ => by rw [upd_ne (ne_of_none e n)]; exact e
  dom := fun a u e => ⟨u, by rw [upd_ne (ne_of_none e n)]; exact e⟩
  fnew := fun _ h => .inl h
  anew := fun a m => by
    rcases List.mem_cons.mp m with m | m
    · exact .inr (m ▸ n)
    · exact .inl m
theorem Rl.newO {p : Addr} {o : HO} {st : Sl} (r : Rl K ca F H st σ A) (n : H p = none) : Rl K ca F (upd H p o) st σ A := r.ext fun a u e => by rw [upd_ne (ne_of_none e n)]; exact e

/-- an operation by values: what it asks, what it gives (frozen) -/
def OpOk (K : PySem.W.Frag) (ca : Ca) (g : List D → Option D) (r : List V → Hp → VK → Prop) : Prop :=
  ∀ (F : Addr → Prop) (H : Hp) (ds : List D) (d : D) (xs : List V) (Q : VK), VwA K ca F H ds xs → g ds = some d →
    (∀ v F' H', Al F H F' H' → Rep K ca F' H' d v → Q v H') → r xs H Q
/-- .. gives a new list -/
def OpNew (K : PySem.W.Frag) (ca : Ca) (g : List D → Option (List D)) (r : List V → Hp → VK → Prop) : Prop :=
  ∀ (F : Addr → Prop) (H : Hp) (ds es : List D) (xs : List V) (Q : VK), VwA K ca F H ds xs → g ds = some es →
    (∀ p vs, H p = none → Reps K ca F H es vs → Q (.ref p) (upd H p (.lst vs))) → r xs H Q
theorem OpNew.ok {g : List D → Option (List D)} {r : List V → Hp → VK → Prop} (h : OpNew K ca g r) : OpOk K ca (fun ds => (g ds).map .lst) r := by
  intro F H ds d xs Q vw e q
  have e : (g ds).map D.lst = some d := e
  cases z : g ds with
  | none => rw [z] at e; cases e
  | some es =>
    rw [z] at e
    cases e
    refine h F H ds es xs Q vw z fun p vs n r => q _ _ _ (Al.new (F := F) n) ?_
    unfold Rep
    exact ⟨p, vs, rfl, ⟨.inr rfl, upd_same⟩, Reps.mono (fun _ => .inl) (fun a o _ e => by rw [upd_ne (ne_of_none e n)]; exact e) _ _ r⟩
theorem OpOk.or {g g' : List D → Option D} {r r' : List V → Hp → VK → Prop} (h : OpOk K ca g r) (h' : OpOk K ca g' r') : OpOk K ca (fun ds => (g ds).orElse fun _ => g' ds) (fun xs H Q => r xs H Q ∨ r' xs H Q) := by
  intro F H ds d xs Q vw e q
  cases z : g ds with
  | some d' => simp only [z, Option.orElse] at e; exact .inl (h F H ds d xs Q vw (z.trans e) q)
  | none => simp only [z, Option.orElse] at e; exact .inr (h' F H ds d xs Q vw e q)
theorem OpNew.or {g g' : List D → Option (List D)} {r r' : List V → Hp → VK → Prop} (h : OpNew K ca g r) (h' : OpNew K ca g' r') : OpNew K ca (fun ds => (g ds).orElse fun _ => g' ds) (fun xs H Q => r xs H Q ∨ r' xs H Q) := by
  intro F H ds d xs Q vw e q
  cases z : g ds with
  | some d' => simp only [z, Option.orElse] at e; exact .inl (h F H ds d xs Q vw (z.trans e) q)
  | none => simp only [z, Option.orElse] at e; exact .inr (h' F H ds d xs Q vw e q)

/-- the operation's reading -/
theorem eOp_run (cf : Cf K ca) {ps : List Opd} {g : List D → Option D} {r : List V → Hp → VK → Prop} (ho : OpOk K ca g r) (ok : opdsOk ps = true) (of : opdsF ps = true) {H : Hp} {Q : VK} (h : tE K ca W (eOp g ps) σ H Q) :
    tPs K ca W ps σ H fun xs H1 => r xs H1 Q := by
  obtain ⟨F, st, A, rl, h⟩ := h
  refine opds_run cf ok of rl ?_
  unfold eOp at h
  cases z : evOs ps st with
  | bad => rw [z] at h; exact h
  | exc c x s => rw [z] at h; exact h
  | ok rs st1 =>
    rw [z] at h
    simp only [R.bind] at h
    cases z2 : rdAll rs st1 with
    | none => simp only [z2] at h
    | some ds =>
      cases z3 : g ds with
      | none => simp only [z2, z3] at h
      | some d =>
        simp only [z2, z3] at h
        exact ⟨ds, z2, fun xs F' H' A' rl' vw s => ho F' H' ds d xs Q vw z3 fun v F2 H2 al rep => h v F2 H2 A' (al.rl rl') rep (s.trans al.step)⟩
/-- the own list that an operation makes -/
theorem eOp_runO (cf : Cf K ca) {ps : List Opd} {g : List D → Option (List D)} {r : List V → Hp → VK → Prop} (ho : OpNew K ca g r) (ok : opdsOk ps = true) (of : opdsF ps = true) {H : Hp} {Q : VK} (h : tO K ca W (eOp (fun ds => (g ds).map .lst) ps) σ H Q) :
    tPs K ca W ps σ H fun xs H1 => r xs H1 Q := by
  obtain ⟨F, st, A, rl, h⟩ := h
  refine opds_run cf ok of rl ?_
  unfold eOp at h
  cases z : evOs ps st with
  | bad => rw [z] at h; exact h
  | exc c x s => rw [z] at h; exact h
  | ok rs st1 =>
    rw [z] at h
    simp only [R.bind] at h
    cases z2 : rdAll rs st1 with
    | none => simp only [z2] at h
    | some ds =>
      cases z3 : g ds with
      | none => simp only [z2, z3, Option.map_none] at h
      | some es =>
        simp only [z2, z3, Option.map_some] at h
        refine ⟨ds, z2, fun xs F' H' A' rl' vw s => ho F' H' ds es xs Q vw z3 fun p vs n rep => ?_⟩
        have np : ¬ F' p := fun q => by obtain ⟨o, e⟩ := rl'.fd p q; rw [n] at e; cases e
        have npA : p ∉ A' := fun m => by obtain ⟨o, e⟩ := (rl'.nf p m).2; rw [n] at e; cases e
        refine h (.ref p) F' (upd H' p (.lst vs)) A' [p] (rl'.newO n) ⟨p, vs, rfl, rfl, np, upd_same, Reps.mono (fun _ z => z) (fun a o _ e => by rw [upd_ne (ne_of_none e n)]; exact e) _ _ rep⟩ ?_ (s.trans (Step.newO n))
        exact List.nodup_cons.mpr ⟨npA, rl'.nd⟩
end
end Ev
namespace Ev
open PySem PySem.Spec PyProof.Rows L2
/-- a reading of two values, of one, as of a list -/
def r2L (r : R2) : List V → Hp → VK → Prop := fun xs H Q => match xs with
  | [x, y] => r x y H Q
  | _ => False
def r1L (r : V → Hp → VK → Prop) : List V → Hp → VK → Prop := fun xs H Q => match xs with
  | [x] => r x H Q
  | _ => False
def rMt (r : V → List V → Hp → VK → Prop) : List V → Hp → VK → Prop := fun xs H Q => match xs with
  | x :: ys => r x ys H Q
  | _ => False
abbrev B' := Sl → R Bool
/-- truth -/
def tru : D → Option Bool
  | .non => some false
  | .bl b => some b
  | .int i => some (i != 0)
  | .lst xs => some (!xs.isEmpty)
  | .tup xs => some (!xs.isEmpty)
  | _ => none
def mT (m : E) : B' := fun st => (m st).bind fun d st => match d with
  | .bl b => .ok b st
  | _ => .bad
def mTru (p : Opd) : B' := fun st => (evO p st).bind fun r st => match r st with
  | some d => (match tru d with
    | some b => .ok b st
    | none => .bad)
  | none => .bad
def mNot (m : B') : B' := fun st => (m st).bind fun b st => .ok (!b) st
def mAnd (m n : B') : B' := fun st => (m st).bind fun b st => match b with
  | true => n st
  | false => .ok false st
def mOr (m n : B') : B' := fun st => (m st).bind fun b st => match b with
  | true => .ok true st
  | false => n st
def eC (d : D) : E := fun st => .ok d st
def eV (i : Nat) : E := fun st => match st[i]? with
  | some (.f d) => .ok d st
  | _ => .bad
/-- a slot's own data frozen -/
def eFz (i : Nat) : E := fun st => match st[i]? with
  | some (.f d) => .ok d st
  | some (.o d) => (match fzOk d with
    | true => .ok d (st.set i (.f d))
    | false => .bad)
  | _ => .bad
def eIf (c : B') (a b : E) : E := fun st => (c st).bind fun k st => match k with
  | true => a st
  | false => b st
def eAnd (a b : E) : E := fun st => (a st).bind fun d st => match d with
  | .bl true => b st
  | .bl false => .ok (.bl false) st
  | _ => .bad
def eOr (a b : E) : E := fun st => (a st).bind fun d st => match d with
  | .bl true => .ok (.bl true) st
  | .bl false => b st
  | _ => .bad
def eNot (a : E) : E := fun st => (a st).bind fun d st => match d with
  | .bl b => .ok (.bl (!b)) st
  | _ => .bad
/-- a op1 b op2 c -/
def eCh (g g' : List D → Option D) (p q r : Opd) : E := fun st => (evO p st).bind fun x st => (evO q st).bind fun y st => match x st, y st with
  | some a, some b => (match g [a, b] with
    | some (.bl true) => (evO r st).bind fun z st => (match y st, z st with
      | some b, some c => (match g' [b, c] with
        | some d => .ok d st
        | none => .bad)
      | _, _ => .bad)
    | some (.bl false) => .ok (.bl false) st
    | _ => .bad)
  | _, _ => .bad
section
variable (K : PySem.W.Frag) (ca : Ca) (W : WX)
def tT (m : B') : TT := fun σ H Q => ∃ F st A, Rl K ca F H st σ A ∧ match m st with
  | .ok b st' => ∀ F' H' A', Rl K ca F' H' st' σ A' → Step F H A F' H' A' → Q b H'
  | .exc c x st' => XcW K ca W F H A σ c x st'
  | .bad => False
end
section
variable {X : Cx} {ca : Ca} {W : WX} {e a b c : Expr} {pos : Pos}
theorem se_v {i : Nat} (h : PE X e (tVar i)) : PE X e (tE X.K ca W (eV i)) := PE.imp h fun σ H Q ⟨F, st, A, rl, q⟩ => by
  unfold eV at q
  cases z : st[i]? with
  | none => rw [z] at q; exact q.elim
  | some k =>
    rw [z] at q
    cases k with
    | n => exact q.elim
    | o d => exact q.elim
    | f d =>
      obtain ⟨x, B, C, e1, ⟨_, v, rfl, r⟩, _, _⟩ := rl.take z
      exact ⟨v, e1, q v F H A rl r .refl⟩
theorem se_fz {i : Nat} (h : PE X e (tVar i)) : PE X e (tE X.K ca W (eFz i)) := PE.imp h fun σ H Q ⟨F, st, A, rl, q⟩ => by
  unfold eFz at q
  cases z : st[i]? with
  | none => rw [z] at q; exact q.elim
  | some k =>
    rw [z] at q
    cases k with
    | n => exact q.elim
    | f d =>
      obtain ⟨x, B, C, e1, ⟨_, v, rfl, r⟩, _, _⟩ := rl.take z
      exact ⟨v, e1, q v F H A rl r .refl⟩
    | o d =>
      obtain ⟨x, B, C, e1, ⟨v, rfl, r⟩, rl2, p⟩ := rl.take z
      cases g : fzOk d with
      | false => simp only [g] at q
      | true =>
        simp only [g] at q
        have nd : (B ++ C).Nodup := p.nodup_iff.mp rl.nd
        have dj : ∀ a ∈ B, a ∉ C := fun a m m' => (List.nodup_append.mp nd).2.2 a m a m' rfl
        have rl3 := rl2.fz (B := B) (fun a m => (r.nf a m).2) dj
        have hi : i < st.length := (List.getElem?_eq_some_iff.mp z).1
        have rl4 := rl3.put (i := i) (c := .f d) (x := some v) (B := []) (by simp [hi]) e1 ⟨rfl, v, rfl, r.fz g⟩ (by simpa using rl3.nd)
        rw [List.set_set] at rl4
        refine ⟨v, e1, q v _ H C rl4 (r.fz g) ⟨fun _ => .inl, fun a o e _ => e, fun a o e => ⟨o, e⟩, fun a m => ?_, fun a m => .inl (p.mem_iff.mpr (List.mem_append_right _ m))⟩⟩
        rcases m with m | m
        · exact .inl m
        · exact .inr (.inr (p.mem_iff.mpr (List.mem_append_left _ m)))
theorem se_c {v : V} {d : D} (h : PE X e (tC v)) (r : ∀ F H, Rep X.K ca F H d v) : PE X e (tE X.K ca W (eC d)) := PE.imp h fun σ H Q ⟨F, st, A, rl, q⟩ => q v F H A rl (r F H) .refl
theorem se_int {i : Int} {j : Nat} : PE X (.Constant (.int i) j pos) (tE X.K ca W (eC (.int i))) := se_c pe_int fun _ _ => by unfold Rep; rfl
theorem se_bl {b : Bool} {j : Nat} : PE X (.Constant (.bool b) j pos) (tE X.K ca W (eC (.bl b))) := se_c pe_bl fun _ _ => by unfold Rep; rfl
theorem se_non {j : Nat} : PE X (.Constant .none j pos) (tE X.K ca W (eC .non)) := se_c pe_non fun _ _ => by unfold Rep; rfl
theorem se_str {x : Str} {j : Nat} : PE X (.Constant (.str x) j pos) (tE X.K ca W (eC (.str x))) := se_c pe_str fun _ _ => by unfold Rep; rfl
theorem se_glob {x : Str} {v : V} {d : D} {u : Value} (hg : Gl X x) (hm : X.mg x = some u) (r : RelV v u) (rep : ∀ F H, Rep X.K ca F H d v) (hd : (x == ("__debug__" : Str)) = false := by decide) :
    PE X (.Name x pos) (tE X.K ca W (eC d)) := se_c (pe_glob hg hm r hd) rep
/-- operands -/
theorem po_v {i : Nat} (h : PE X e (tVar i)) : PE X e (tP X.K ca W (.v i)) := h
theorem po_e {m : E} (h : PE X e (tE X.K ca W m)) : PE X e (tP X.K ca W (.e m)) := h
theorem po_h {i : Nat} {f : Str} (h : PE X e (tVar i)) (hb : attributeBase e f X.env (eval e X.env) = eval e X.env := by rfl) : PE X (.Attribute e f pos) (tP X.K ca W (.h i f)) := pe_fld h hb

variable (cf : Cf X.K ca) {p q r : Opd} {ps : List Opd} {g g' : List D → Option D} {gn : List D → Option (List D)}
include cf in
theorem se_bin {op : Operator} {ρ : R2} (ho : OpR X (binaryOp op) ρ) (hk : OpOk X.K ca g (r2L ρ)) (ha : PE X a (tP X.K ca W p)) (hb : PE X b (tP X.K ca W q)) (ok : opdsOk [p, q] = true := by rfl) (of : opdsF [p, q] = true := by rfl) :
    PE X (.BinOp a op b pos) (tE X.K ca W (eOp g [p, q])) := PE.imp (pe_op ho ha hb) fun σ H Q h => eOp_run cf hk ok of h
include cf in
theorem so_bin {op : Operator} {ρ : R2} (ho : OpR X (binaryOp op) ρ) (hk : OpNew X.K ca gn (r2L ρ)) (ha : PE X a (tP X.K ca W p)) (hb : PE X b (tP X.K ca W q)) (ok : opdsOk [p, q] = true := by rfl) (of : opdsF [p, q] = true := by rfl) :
    PE X (.BinOp a op b pos) (tO X.K ca W (eOp (fun ds => (gn ds).map .lst) [p, q])) := PE.imp (pe_op ho ha hb) fun σ H Q h => eOp_runO cf hk ok of h
include cf in
theorem se_un {op : UnaryOp} {ρ : V → Hp → VK → Prop} (ho : UnR X (unaryOp op) ρ) (hk : OpOk X.K ca g (r1L ρ)) (ha : PE X a (tP X.K ca W p)) (ok : opdsOk [p] = true := by rfl) (of : opdsF [p] = true := by rfl) :
    PE X (.UnaryOp op a pos) (tE X.K ca W (eOp g [p])) := PE.imp (pe_un ho ha) fun σ H Q h => eOp_run cf hk ok of h
include cf in
theorem se_cmp {op : CmpOp} {ρ : R2} (ho : OpR X (compareOp op) ρ) (hk : OpOk X.K ca g (r2L ρ)) (ha : PE X a (tP X.K ca W p)) (hb : PE X b (tP X.K ca W q)) (hm : behindInMarks op b = false) (ok : opdsOk [p, q] = true := by rfl) (of : opdsF [p, q] = true := by rfl) :
    PE X (.Compare a [op] [b] pos) (tE X.K ca W (eOp g [p, q])) := PE.imp (pe_cmpR ho ha hb hm) fun σ H Q h => eOp_run cf hk ok of h
theorem tT_tE {K : PySem.W.Frag} {m : E} {σ : L2.St} {H : Hp} {Q : Bool → Hp → Prop} (h : tT K ca W (mT m) σ H Q) : tE K ca W m σ H fun x H' => ∃ k, x = .bl k ∧ Q k H' := by
  obtain ⟨F, st, A, rl, q⟩ := h
  refine ⟨F, st, A, rl, ?_⟩
  unfold mT at q
  cases z : m st with
  | bad => rw [z] at q; exact q
  | exc c x s => rw [z] at q; exact q
  | ok d st1 =>
    rw [z] at q
    cases d with
    | bl k =>
      intro v F' H' A' rl' rep s
      unfold Rep at rep
      exact ⟨k, rep, q F' H' A' rl' s⟩
    | _ => exact q.elim
include cf in
theorem st_cmp {op : CmpOp} {ρ : R2} (ho : OpR X (compareOp op) ρ) (hk : OpOk X.K ca g (r2L ρ)) (ha : PE X a (tP X.K ca W p)) (hb : PE X b (tP X.K ca W q)) (hm : behindInMarks op b = false) (ok : opdsOk [p, q] = true := by rfl) (of : opdsF [p, q] = true := by rfl) :
    PT X (.Compare a [op] [b] pos) (tT X.K ca W (mT (eOp g [p, q]))) := PT.imp (pt_cmpR ho ha hb hm) fun σ H Q h => eOp_run cf hk ok of (tT_tE h)
/-- a value's truth -/
theorem tru_ok {K : PySem.W.Frag} {F : Addr → Prop} {H : Hp} {d : D} {v : V} {k : Bool} (w : Vw K ca F H d v) (e : tru d = some k) : TruV K v H k := by
  cases d with
  | non => cases e; rw [show v = .non from w]; rfl
  | bl k' => cases e; rw [show v = .bl _ from w]; rfl
  | int i => cases e; rw [show v = .int i from w]; rfl
  | str x => cases e
  | lst ds =>
    obtain ⟨a, vs, rfl, q, r⟩ := w
    cases e
    refine .inl ⟨vs, .of q, ?_⟩
    have l := r.length
    cases ds <;> cases vs <;> first | rfl | cases l
  | tup ds =>
    have w : Rep K ca F H (.tup ds) v := w
    unfold Rep at w
    obtain ⟨a, vs, rfl, q, r⟩ := w
    cases e
    refine .inr (.inl ⟨vs, q.sq, ?_⟩)
    have l := r.length
    cases ds <;> cases vs <;> first | rfl | cases l
  | scr ns => cases e
  | dic ks ds => cases e
  | obj c ns ds => cases e
include cf in
theorem st_tru (ha : PE X a (tP X.K ca W p)) (he : ∀ whole, isTrue a X.env whole = (do let v ← whole; standAt a.pos; holding [v] (truthy v)) := by intro _; rfl) (of : opdsF [p] = true := by rfl) : PT X a (tT X.K ca W (mTru p)) := by
  refine PT.imp (pt_truth ha he) fun σ H Q ⟨F, st, A, rl, h⟩ => ?_
  have := opds_run (W := W) cf (ps := [p]) (F := F) (H := H) (A := A) (st := st) (σ := σ) (Q := fun xs H' => match xs with | [x] => ∃ k, TruV X.K x H' k ∧ Q k H' | _ => False) (by cases p <;> rfl) of rl (by
    unfold mTru at h
    show match ((evO p st).bind fun r st => (R.ok ([] : List (Sl → Option D)) st).bind fun rs st => R.ok (r :: rs) st) with
      | .ok rs st' => _
      | .exc c x st' => _
      | .bad => _
    cases z : evO p st with
    | bad => rw [z] at h; exact h
    | exc c x s => rw [z] at h; exact h
    | ok r st1 =>
      rw [z] at h
      simp only [R.bind] at h ⊢
      cases z2 : r st1 with
      | none => simp only [z2] at h
      | some d =>
        cases z3 : tru d with
        | none => simp only [z2, z3] at h
        | some k =>
          simp only [z2, z3] at h
          refine ⟨[d], by unfold rdAll; rw [z2]; rfl, fun xs F' H' A' rl' vw s => ?_⟩
          obtain ⟨v, r, rfl, w, e⟩ := vw
          cases e
          exact ⟨k, tru_ok w z3, h F' H' A' rl' s⟩)
  exact this
theorem st_not {m : B'} (h : PT X a (tT X.K ca W m)) : PT X (.UnaryOp .Not a pos) (tT X.K ca W (mNot m)) := PT.imp (pt_not h) fun σ H Q ⟨F, st, A, rl, q⟩ => by
  refine ⟨F, st, A, rl, ?_⟩
  unfold mNot at q
  cases z : m st with
  | bad => rw [z] at q; exact q
  | exc c x s => rw [z] at q; exact q
  | ok d st1 => rw [z] at q; exact q
theorem tT_bind {K : PySem.W.Frag} {m : B'} {n : Bool → B'} {σ : L2.St} {H : Hp} {Q : Bool → Hp → Prop} (h : tT K ca W (fun st => (m st).bind fun b st => n b st) σ H Q) : tT K ca W m σ H fun b H1 => tT K ca W (n b) σ H1 Q := by
  obtain ⟨F, st, A, rl, q⟩ := h
  refine ⟨F, st, A, rl, ?_⟩
  cases z : m st with
  | bad => simp only [z, R.bind] at q
  | exc c x s => simp only [z, R.bind] at q; exact q
  | ok d st1 =>
    simp only [z, R.bind] at q
    intro F1 H1 A1 rl1 s1
    refine ⟨F1, st1, A1, rl1, ?_⟩
    cases z2 : n d st1 with
    | bad => rw [z2] at q; exact q
    | exc c x s => rw [z2] at q; exact fun cls oe F' H' A' r x s => q cls oe F' H' A' r x (s1.trans s)
    | ok b st2 => rw [z2] at q; exact fun F' H' A' r s => q F' H' A' r (s1.trans s)
theorem tT_ok {K : PySem.W.Frag} {b : Bool} {σ : L2.St} {H : Hp} {Q : Bool → Hp → Prop} (h : tT K ca W (fun st => .ok b st) σ H Q) : Q b H := by
  obtain ⟨F, st, A, rl, q⟩ := h
  exact q F H A rl .refl
theorem st_and1 {m : B'} (h : PT X a (tT X.K ca W m)) : PW X (.BoolOp .And [a] pos) (tT X.K ca W m) := pw_and1 h
theorem st_or1 {m : B'} (h : PT X a (tT X.K ca W m)) : PW X (.BoolOp .Or [a] pos) (tT X.K ca W m) := pw_or1 h
theorem PW.imp {e : Expr} {t t' : TT} (h : PW X e t) (i : ∀ σ H Q, t' σ H Q → t σ H Q) : PW X e t' := ⟨fun w pins s σ H Q I q => h.run w pins s σ H Q I (i σ H Q q)⟩
theorem st_and {m n : B'} {es : List Expr} (h : PT X a (tT X.K ca W m)) (h2 : PW X (.BoolOp .And (b :: es) pos) (tT X.K ca W n)) : PW X (.BoolOp .And (a :: b :: es) pos) (tT X.K ca W (mAnd m n)) :=
  PW.imp (pw_and h h2) fun σ H Q q => by
    obtain ⟨F, st, A, rl, q'⟩ := tT_bind (n := fun b st => match b with | true => n st | false => .ok false st) q
    refine ⟨F, st, A, rl, ?_⟩
    cases z : m st with
    | bad => rw [z] at q'; exact q'
    | exc c x s => rw [z] at q'; exact q'
    | ok d st1 =>
      rw [z] at q'
      intro F' H' A' r s
      have := q' F' H' A' r s
      cases d with
      | true => exact this
      | false => exact tT_ok this
theorem st_or {m n : B'} {es : List Expr} (h : PT X a (tT X.K ca W m)) (h2 : PW X (.BoolOp .Or (b :: es) pos) (tT X.K ca W n)) : PW X (.BoolOp .Or (a :: b :: es) pos) (tT X.K ca W (mOr m n)) :=
  PW.imp (pw_or h h2) fun σ H Q q => by
    obtain ⟨F, st, A, rl, q'⟩ := tT_bind (n := fun b st => match b with | true => .ok true st | false => n st) q
    refine ⟨F, st, A, rl, ?_⟩
    cases z : m st with
    | bad => rw [z] at q'; exact q'
    | exc c x s => rw [z] at q'; exact q'
    | ok d st1 =>
      rw [z] at q'
      intro F' H' A' r s
      have := q' F' H' A' r s
      cases d with
      | false => exact this
      | true => exact tT_ok this
/-- an expression, then another by its value -/
theorem tE_bind {K : PySem.W.Frag} {m : E} {n : D → E} {σ : L2.St} {H : Hp} {Q : VK} {P : VK} (h : tE K ca W (fun st => (m st).bind fun d st => n d st) σ H Q)
    (k : ∀ d v F H st A, Rl K ca F H st σ A → Rep K ca F H d v → (match n d st with
      | .ok d st' => ∀ v F' H' A', Rl K ca F' H' st' σ A' → Rep K ca F' H' d v → Step F H A F' H' A' → Q v H'
      | .exc c x st' => XcW K ca W F H A σ c x st'
      | .bad => False) → P v H) : tE K ca W m σ H P := by
  obtain ⟨F, st, A, rl, q⟩ := h
  refine ⟨F, st, A, rl, ?_⟩
  cases z : m st with
  | bad => simp only [z, R.bind] at q
  | exc c x s => simp only [z, R.bind] at q; exact q
  | ok d st1 =>
    simp only [z, R.bind] at q
    intro v F1 H1 A1 rl1 rep s1
    refine k d v F1 H1 st1 A1 rl1 rep ?_
    cases z2 : n d st1 with
    | bad => rw [z2] at q; exact q
    | exc c x s => rw [z2] at q; exact fun cls oe F' H' A' r x s => q cls oe F' H' A' r x (s1.trans s)
    | ok b st2 => rw [z2] at q; exact fun v F' H' A' r rp s => q v F' H' A' r rp (s1.trans s)
theorem se_one {m : E} {op : BoolOp} (h : PE X a (tE X.K ca W m)) : PE X (.BoolOp op [a] pos) (tE X.K ca W m) := pe_one h
theorem se_and {m n : E} {es : List Expr} (h : PE X a (tE X.K ca W m)) (h2 : PE X (.BoolOp .And (b :: es) pos) (tE X.K ca W n)) : PE X (.BoolOp .And (a :: b :: es) pos) (tE X.K ca W (eAnd m n)) :=
  PE.imp (pe_and h h2) fun σ H Q q => by
    refine tE_bind (n := fun d st => match d with | .bl true => n st | .bl false => .ok (.bl false) st | _ => .bad) q fun d v F H st A rl rep q => ?_
    cases d with
    | bl b =>
      unfold Rep at rep
      subst rep
      refine ⟨b, rfl, ?_⟩
      cases b with
      | true => exact ⟨F, st, A, rl, q⟩
      | false => exact q _ F H A rl (by unfold Rep; rfl) .refl
    | _ => exact q.elim
theorem se_or {m n : E} {es : List Expr} (h : PE X a (tE X.K ca W m)) (h2 : PE X (.BoolOp .Or (b :: es) pos) (tE X.K ca W n)) : PE X (.BoolOp .Or (a :: b :: es) pos) (tE X.K ca W (eOr m n)) :=
  PE.imp (pe_or h h2) fun σ H Q q => by
    refine tE_bind (n := fun d st => match d with | .bl true => .ok (.bl true) st | .bl false => n st | _ => .bad) q fun d v F H st A rl rep q => ?_
    cases d with
    | bl b =>
      unfold Rep at rep
      subst rep
      refine ⟨b, rfl, ?_⟩
      cases b with
      | false => exact ⟨F, st, A, rl, q⟩
      | true => exact q _ F H A rl (by unfold Rep; rfl) .refl
    | _ => exact q.elim
theorem se_not {m : E} (h : PE X a (tE X.K ca W m)) : PE X (.UnaryOp .Not a pos) (tE X.K ca W (eNot m)) :=
  PE.imp (pe_not h) fun σ H Q q => by
    refine tE_bind (n := fun d st => match d with | .bl b => .ok (.bl (!b)) st | _ => .bad) q fun d v F H st A rl rep q => ?_
    cases d with
    | bl b =>
      unfold Rep at rep
      subst rep
      exact ⟨b, rfl, q _ F H A rl (by unfold Rep; rfl) .refl⟩
    | _ => exact q.elim
theorem se_if {k : B'} {m n : E} (hc : PT X c (tT X.K ca W k)) (ha : PE X a (tE X.K ca W m)) (hb : PE X b (tE X.K ca W n)) : PE X (.IfExp c a b pos) (tE X.K ca W (eIf k m n)) :=
  PE.imp (pe_ifExp hc ha hb) fun σ H Q ⟨F, st, A, rl, q⟩ => by
    refine ⟨F, st, A, rl, ?_⟩
    unfold eIf at q
    cases z : k st with
    | bad => rw [z] at q; exact q
    | exc c x s => rw [z] at q; exact q
    | ok b st1 =>
      rw [z] at q
      simp only [R.bind] at q
      intro F1 H1 A1 rl1 s1
      have fin : ∀ n : E, (match n st1 with
          | .ok d st' => ∀ v F' H' A', Rl X.K ca F' H' st' σ A' → Rep X.K ca F' H' d v → Step F H A F' H' A' → Q v H'
          | .exc c x st' => XcW X.K ca W F H A σ c x st'
          | .bad => False) → tE X.K ca W n σ H1 Q := fun n q => by
        refine ⟨F1, st1, A1, rl1, ?_⟩
        cases z2 : n st1 with
        | bad => rw [z2] at q; exact q
        | exc c x s => rw [z2] at q; exact fun cls oe F' H' A' r x s => q cls oe F' H' A' r x (s1.trans s)
        | ok b st2 => rw [z2] at q; exact fun v F' H' A' r rp s => q v F' H' A' r rp (s1.trans s)
      cases b with
      | true => exact fin m q
      | false => exact fin n q
end
end Ev
namespace Ev
open PySem PySem.Spec PyProof.Rows L2
def evAll : List E → Sl → R (List D)
  | [], st => .ok [] st
  | m :: ms, st => (m st).bind fun d st => (evAll ms st).bind fun ds st => .ok (d :: ds) st
def eTup (ms : List E) : E := fun st => (evAll ms st).bind fun ds st => .ok (.tup ds) st
def eLst (ms : List E) : E := fun st => (evAll ms st).bind fun ds st => .ok (.lst ds) st
section
variable (K : PySem.W.Frag) (ca : Ca) (W : WX)
def tA (ms : List E) : TA := fun σ H Q => ∃ F st A, Rl K ca F H st σ A ∧ match evAll ms st with
  | .ok ds st' => ∀ vs F' H' A', Rl K ca F' H' st' σ A' → Reps K ca F' H' ds vs → Step F H A F' H' A' → Q vs H'
  | .exc c x st' => XcW K ca W F H A σ c x st'
  | .bad => False
end
theorem Reps.inv {K : PySem.W.Frag} {ca : Ca} {F : Addr → Prop} {H : Hp} {d : D} {ds : List D} {vs : List V} (h : Reps K ca F H (d :: ds) vs) : ∃ v r, vs = v :: r ∧ Rep K ca F H d v ∧ Reps K ca F H ds r := by
  unfold Reps at h; exact h
section
variable {X : Cx} {ca : Ca} {W : WX} {e : Expr} {es : List Expr} {pos : Pos} {m : E} {ms : List E}
theorem sa_nil : PA X [] (tA X.K ca W []) := PA.imp pa_nil fun σ H Q ⟨F, st, A, rl, q⟩ => q [] F H A rl .nil .refl
theorem sa_cons (h : PE X e (tE X.K ca W m)) (t : PA X es (tA X.K ca W ms)) (hs : starEach (e :: es) X.env = (false, eval e X.env) :: starEach es X.env := by rfl) : PA X (e :: es) (tA X.K ca W (m :: ms)) :=
  PA.imp (pa_cons h t hs) fun σ H Q ⟨F, st, A, rl, q⟩ => by
    refine ⟨F, st, A, rl, ?_⟩
    unfold evAll at q
    cases z : m st with
    | bad => rw [z] at q; exact q
    | exc c x s => rw [z] at q; exact q
    | ok d st1 =>
      rw [z] at q
      simp only [R.bind] at q
      intro v F1 H1 A1 rl1 rep s1
      refine ⟨F1, st1, A1, rl1, ?_⟩
      cases z2 : evAll ms st1 with
      | bad => simp only [z2, R.bind] at q
      | exc c x s => simp only [z2, R.bind] at q; exact fun cls oe F' H' A' r x s => q cls oe F' H' A' r x (s1.trans s)
      | ok ds st2 => simp only [z2, R.bind] at q; exact fun vs F' H' A' r rp s => q (v :: vs) F' H' A' r (.cons (rep.step s rl1) rp) (s1.trans s)
theorem evAll_len : ∀ {ms : List E} {st st' : Sl} {ds : List D}, evAll ms st = .ok ds st' → ds.length = ms.length
  | [], st, st', ds, h => by cases h; rfl
  | m :: ms, st, st', ds, h => by
    unfold evAll at h
    cases z : m st with
    | bad => rw [z] at h; cases h
    | exc c x s => rw [z] at h; cases h
    | ok d st1 =>
      rw [z] at h
      simp only [R.bind] at h
      cases z2 : evAll ms st1 with
      | bad => simp only [z2, R.bind] at h; cases h
      | exc c x s => simp only [z2, R.bind] at h; cases h
      | ok ds2 st2 =>
        simp only [z2, R.bind] at h
        cases h
        rw [List.length_cons, List.length_cons, evAll_len z2]
theorem fz_new {K : PySem.W.Frag} {F : Addr → Prop} {H : Hp} {ds : List D} {vs : List V} {p : Addr} {o : HO} (n : H p = none) (r : Reps K ca F H ds vs) : Reps K ca (fun a => F a ∨ a = p) (upd H p o) ds vs :=
  Reps.mono (fun _ => .inl) (fun a o _ e => by rw [upd_ne (ne_of_none e n)]; exact e) _ _ r
theorem se_tup (h : PA X es (tA X.K ca W ms)) (hl : ms.length ≤ 1000 := by decide) {k : Nat} : PE X (.Tuple es k pos) (tE X.K ca W (eTup ms)) := PE.imp (pe_tup h) fun σ H Q ⟨F, st, A, rl, q⟩ => by
  refine ⟨F, st, A, rl, ?_⟩
  unfold eTup at q
  cases z : evAll ms st with
  | bad => rw [z] at q; exact q
  | exc c x s => rw [z] at q; exact q
  | ok ds st1 =>
    rw [z] at q
    simp only [R.bind] at q
    intro vs F1 H1 A1 rl1 rep s1
    refine ⟨by rw [rep.length, evAll_len z]; exact Nat.le_of_lt (small1000 hl), fun p n => ?_⟩
    have al : Al F1 H1 (fun a => F1 a ∨ a = p) (upd H1 p (.tup vs)) := Al.new n
    refine q (.ref p) _ _ A1 (al.rl rl1) ?_ (s1.trans al.step)
    unfold Rep
    exact ⟨p, vs, rfl, .inl ⟨.inr rfl, .inl upd_same⟩, fz_new n rep⟩
theorem se_lst (h : PA X es (tA X.K ca W ms)) (hl : ms.length ≤ 1000 := by decide) : PE X (.List es pos) (tE X.K ca W (eLst ms)) := PE.imp (pe_lst h) fun σ H Q ⟨F, st, A, rl, q⟩ => by
  refine ⟨F, st, A, rl, ?_⟩
  unfold eLst at q
  cases z : evAll ms st with
  | bad => rw [z] at q; exact q
  | exc c x s => rw [z] at q; exact q
  | ok ds st1 =>
    rw [z] at q
    simp only [R.bind] at q
    intro vs F1 H1 A1 rl1 rep s1
    refine ⟨by rw [rep.length, evAll_len z]; exact Nat.le_of_lt (small1000 hl), fun p n => ?_⟩
    have al : Al F1 H1 (fun a => F1 a ∨ a = p) (upd H1 p (.lst vs)) := Al.new n
    refine q (.ref p) _ _ A1 (al.rl rl1) ?_ (s1.trans al.step)
    unfold Rep
    exact ⟨p, vs, rfl, ⟨.inr rfl, upd_same⟩, fz_new n rep⟩
/-- what is new is nobody's -/
theorem Rl.fresh {K : PySem.W.Frag} {F : Addr → Prop} {H : Hp} {st : Sl} {σ : L2.St} {A : List Addr} {p : Addr} (rl : Rl K ca F H st σ A) (n : H p = none) : ¬ F p ∧ p ∉ A :=
  by
  refine ⟨fun q => ?_, fun m => ?_⟩
  · obtain ⟨o, e⟩ := rl.fd p q
    rw [n] at e; cases e
  · obtain ⟨o, e⟩ := (rl.nf p m).2
    rw [n] at e; cases e
theorem so_lst (h : PA X es (tA X.K ca W ms)) (hl : ms.length ≤ 1000 := by decide) : PE X (.List es pos) (tO X.K ca W (eLst ms)) := PE.imp (pe_lst h) fun σ H Q ⟨F, st, A, rl, q⟩ => by
  refine ⟨F, st, A, rl, ?_⟩
  unfold eLst at q
  cases z : evAll ms st with
  | bad => rw [z] at q; exact q
  | exc c x s => rw [z] at q; exact q
  | ok ds st1 =>
    rw [z] at q
    simp only [R.bind] at q
    intro vs F1 H1 A1 rl1 rep s1
    refine ⟨by rw [rep.length, evAll_len z]; exact Nat.le_of_lt (small1000 hl), fun p n => ?_⟩
    obtain ⟨n1, n2⟩ := rl1.fresh n
    exact q (.ref p) F1 _ A1 [p] (rl1.newO n) ⟨p, vs, rfl, rfl, n1, upd_same, Reps.mono (fun _ z => z) (fun a o _ e => by rw [upd_ne (ne_of_none e n)]; exact e) _ _ rep⟩ (List.nodup_cons.mpr ⟨n2, rl1.nd⟩) (s1.trans (Step.newO n))
/-- own data frozen at once -/
def eFr (m : E) : E := fun st => (m st).bind fun d st => match fzOk d with
  | true => .ok d st
  | false => .bad
theorem se_fr (h : PE X e (tO X.K ca W m)) : PE X e (tE X.K ca W (eFr m)) := PE.imp h fun σ H Q ⟨F, st, A, rl, q⟩ => by
  refine ⟨F, st, A, rl, ?_⟩
  unfold eFr at q
  cases z : m st with
  | bad => rw [z] at q; exact q
  | exc c x s => rw [z] at q; exact q
  | ok d st1 =>
    rw [z] at q
    simp only [R.bind] at q
    cases g : fzOk d with
    | false => simp only [g] at q
    | true =>
      simp only [g] at q
      intro v F1 H1 A1 B rl1 ow nd s1
      have dj : ∀ a ∈ B, a ∉ A1 := fun a m m' => (List.nodup_append.mp nd).2.2 a m a m' rfl
      refine q v _ H1 A1 (rl1.fz (B := B) (fun a m => (ow.nf a m).2) dj) (ow.fz g) ⟨fun a m => .inl (s1.fm a m), s1.keep, s1.dom, fun a m => ?_, fun a m => s1.anew a (List.mem_append_right _ m)⟩
      rcases m with m | m
      · exact s1.fnew a m
      · rcases s1.anew a (List.mem_append_left _ m) with z | z
        · exact .inr (.inr z)
        · exact .inr (.inl z)
end

inductive Arg where
  | e (m : E) | mu (i : Nat) | t (m : E)
inductive AV where
  | d (d : D) | sl (i : Nat) | o (d : D)
def evArg : Arg → Sl → R AV
  | .e m, st => (m st).bind fun d st => .ok (.d d) st
  | .mu i, st => match st[i]? with
    | some (.f _) => .ok (.sl i) st
    | some (.o _) => .ok (.sl i) st
    | _ => .bad
  | .t m, st => (m st).bind fun d st => .ok (.o d) st
def evArgs : List Arg → Sl → R (List AV)
  | [], st => .ok [] st
  | p :: ps, st => (evArg p st).bind fun a st => (evArgs ps st).bind fun as st => .ok (a :: as) st
/-- the slots that are handed over are taken out -/
def takeAll : List AV → Sl → Option (List Cell × Sl)
  | [], st => some ([], st)
  | .d d :: as, st => (takeAll as st).map fun p => (.f d :: p.1, p.2)
  | .o d :: as, st => (takeAll as st).map fun p => (.o d :: p.1, p.2)
  | .sl i :: as, st => match st[i]? with
    | some .n => none
    | none => none
    | some c => (takeAll as (st.set i .n)).map fun p => (c :: p.1, p.2)
def putAll : List AV → List Cell → Sl → Sl
  | .sl i :: as, c :: cs, st => putAll as cs (st.set i c)
  | _ :: as, _ :: cs, st => putAll as cs st
  | _, _, st => st
inductive Out where
  | ok (d : D) (cs : List Cell) | exc (c : Str) (x : Option D) (cs : List Cell) | bad
abbrev MF := List Cell → Out
/-- a call of a def that means mf -/
def eCall (mf : MF) (ps : List Arg) : E := fun st => (evArgs ps st).bind fun as st => match takeAll as st with
  | some (cs, st) => (match mf cs with
    | .ok d cs => .ok d (putAll as cs st)
    | .exc c x cs => .exc c x (putAll as cs st)
    | .bad => .bad)
  | none => .bad
section
variable (K : PySem.W.Frag) (ca : Ca) (W : WX)
/-- a def's promise: it means mf; the answer frozen -/
def spE (mf : MF) : Sp := fun vs H Q E => ∃ F cs A, Rl K ca F H cs (vs.map some) A ∧ match mf cs with
  | .ok d cs' => ∀ v F' H' A', Rl K ca F' H' cs' (vs.map some) A' → Rep K ca F' H' d v → Step F H A F' H' A' → Q v H'
  | .exc c x cs' => ∀ cls oe F' H' A', Rl K ca F' H' cs' (vs.map some) A' → ExcIs K ca F' H' c x cls oe → Step F H A F' H' A' → E cls oe H'
  | .bad => False
/-- .. the answer new -/
def spO (mf : MF) : Sp := fun vs H Q E => ∃ F cs A, Rl K ca F H cs (vs.map some) A ∧ match mf cs with
  | .ok d cs' => ∀ v F' H' A' B, Rl K ca F' H' cs' (vs.map some) A' → Own K ca F' H' d v B → (B ++ A').Nodup → Step F H A F' H' (B ++ A') → Q v H'
  | .exc c x cs' => ∀ cls oe F' H' A', Rl K ca F' H' cs' (vs.map some) A' → ExcIs K ca F' H' c x cls oe → Step F H A F' H' A' → E cls oe H'
  | .bad => False
/-- an argument's value -/
def RepV (F : Addr → Prop) (H : Hp) (σ : L2.St) : AV → V → List Addr → Prop
  | .d d, v, B => B = [] ∧ Rep K ca F H d v
  | .o d, v, B => Own K ca F H d v B
  | .sl i, v, B => B = [] ∧ σ[i]? = some (some v)
def RepVs (F : Addr → Prop) (H : Hp) (σ : L2.St) : List AV → List V → List Addr → Prop
  | [], vs, B => vs = [] ∧ B = []
  | a :: as, vs, B => ∃ v r B1 B2, vs = v :: r ∧ B = B1 ++ B2 ∧ RepV K ca F H σ a v B1 ∧ RepVs F H σ as r B2
def tG : Arg → TE
  | .e m => tE K ca W m
  | .mu i => tVar i
  | .t m => tO K ca W m
def tGs : List Arg → TA
  | [] => tNil
  | p :: ps => tCons (tG K ca W p) (tGs ps)
end
section
variable {K : PySem.W.Frag} {ca : Ca} {W : WX} {F F' : Addr → Prop} {H H' : Hp} {A A' : List Addr} {σ : L2.St}
theorem RepV.step {a : AV} {v : V} {B : List Addr} {st : Sl} (h : RepV K ca F H σ a v B) (s : Step F H A F' H' A') (rl : Rl K ca F H st σ A) (dj : ∀ x ∈ B, x ∉ A) : RepV K ca F' H' σ a v B := by
  cases a with
  | d d => exact ⟨h.1, h.2.step s rl⟩
  | o d => exact Own.step h s rl dj
  | sl i => exact h
theorem RepV.nf {a : AV} {v : V} {B : List Addr} (h : RepV K ca F H σ a v B) : ∀ x ∈ B, ¬ F x ∧ ∃ o, H x = some o := by
  cases a with
  | d d => rw [h.1]; intro x m; cases m
  | o d => exact Own.nf h
  | sl i => rw [h.1]; intro x m; cases m
/-- the arguments' readings; P: own data that is pending -/
theorem args_run : ∀ {ps : List Arg} {F : Addr → Prop} {H : Hp} {A : List Addr} {st : Sl} {Q : List V → Hp → Prop}, Rl K ca F H st σ A →
    (match evArgs ps st with
      | .ok as st' => ∀ vs F' H' A' B, Rl K ca F' H' st' σ A' → RepVs K ca F' H' σ as vs B → (B ++ A').Nodup → Step F H A F' H' (B ++ A') → Q vs H'
      | .exc c x st' => XcW K ca W F H A σ c x st'
      | .bad => False) → tGs K ca W ps σ H Q
  | [], F, H, A, st, Q, h, q => q [] F H A [] h ⟨rfl, rfl⟩ h.nd .refl
  | p :: ps, F, H, A, st, Q, h, q => by
    have goo : ∀ (a : AV) (st1 : Sl) (v : V) (F1 : Addr → Prop) (H1 : Hp) (A1 B1 : List Addr), evArg p st = .ok a st1 → Rl K ca F1 H1 st1 σ A1 → RepV K ca F1 H1 σ a v B1 → (B1 ++ A1).Nodup → Step F H A F1 H1 (B1 ++ A1) →
        tGs K ca W ps σ H1 fun vs H' => Q (v :: vs) H' := fun a st1 v F1 H1 A1 B1 e rl1 rv nd s1 => by
      refine args_run rl1 ?_
      unfold evArgs at q
      rw [e] at q
      simp only [R.bind] at q
      have dj : ∀ x ∈ B1, x ∉ A1 := fun x m m' => (List.nodup_append.mp nd).2.2 x m x m' rfl
      -- pending own data through the rest
      have pend : ∀ {F2 : Addr → Prop} {H2 : Hp} {A2 : List Addr}, Step F1 H1 A1 F2 H2 A2 → Step F H A F2 H2 (B1 ++ A2) := fun {F2 H2 A2} s => by
        refine ⟨fun x m => s.fm x (s1.fm x m), fun x o e n => s.keep x o (s1.keep x o e n) fun m => ?_, fun x o e => ?_, fun x m => ?_, fun x m => ?_⟩
        · rcases s1.anew x (List.mem_append_right _ m) with z | z
          · exact n z
          · rw [e] at z; cases z
        · obtain ⟨o', e'⟩ := s1.dom x o e; exact s.dom x o' e'
        · rcases s.fnew x m with z | z | z
          · exact s1.fnew x z
          · cases e0 : H x with
            | none => exact .inr (.inl rfl)
            | some o => obtain ⟨o', e'⟩ := s1.dom x o e0; rw [z] at e'; cases e'
          · rcases s1.anew x (List.mem_append_right _ z) with z | z
            · exact .inr (.inr z)
            · exact .inr (.inl z)
        · rcases List.mem_append.mp m with m | m
          · exact s1.anew x (List.mem_append_left _ m)
          · rcases s.anew x m with z | z
            · exact s1.anew x (List.mem_append_right _ z)
            · cases e0 : H x with
              | none => exact .inr rfl
              | some o => obtain ⟨o', e'⟩ := s1.dom x o e0; rw [z] at e'; cases e'
      cases z2 : evArgs ps st1 with
      | bad => simp only [z2, R.bind] at q
      | exc c x s =>
        simp only [z2, R.bind] at q
        intro cls oe F' H' A' r x s
        have s2 := pend s
        exact q cls oe F' H' A' r x ⟨s2.fm, s2.keep, s2.dom, s2.fnew, fun y m => s2.anew y (List.mem_append_right _ m)⟩
      | ok as st2 =>
        simp only [z2, R.bind] at q
        intro vs F' H' A' B rl2 rvs nd2 s2
        have rv2 := rv.step s2 rl1 dj
        have nf2 := rv2.nf
        have djB : ∀ x ∈ B1, x ∉ B ++ A' := fun x m m' => by
          rcases s2.anew x m' with z | z
          · exact dj x m z
          · obtain ⟨o, e⟩ := (rv.nf x m).2; rw [e] at z; cases z
        have nd3 : (B1 ++ (B ++ A')).Nodup := List.nodup_append.mpr ⟨(List.nodup_append.mp nd).1, nd2, fun x m y m' e => djB x m (e ▸ m')⟩
        exact q (v :: vs) F' H' A' (B1 ++ B) rl2 ⟨v, vs, B1, B, rfl, rfl, rv2, rvs⟩ (by rw [List.append_assoc]; exact nd3) (by rw [List.append_assoc]; exact pend s2)
    cases p with
    | e m =>
      refine ⟨F, st, A, h, ?_⟩
      cases z : m st with
      | bad => simp only [evArgs, evArg, z, R.bind] at q
      | exc c x s => simp only [evArgs, evArg, z, R.bind] at q; exact q
      | ok d st1 =>
        intro v F1 H1 A1 rl1 rep s1
        exact goo (.d d) st1 v F1 H1 A1 [] (by simp only [evArg, z, R.bind]) rl1 ⟨rfl, rep⟩ rl1.nd s1
    | t m =>
      refine ⟨F, st, A, h, ?_⟩
      cases z : m st with
      | bad => simp only [evArgs, evArg, z, R.bind] at q
      | exc c x s => simp only [evArgs, evArg, z, R.bind] at q; exact q
      | ok d st1 =>
        intro v F1 H1 A1 B rl1 ow nd s1
        exact goo (.o d) st1 v F1 H1 A1 B (by simp only [evArg, z, R.bind]) rl1 ow nd s1
    | mu i =>
      cases z : st[i]? with
      | none => simp only [evArgs, evArg, z, R.bind] at q
      | some c =>
        obtain ⟨x, B, C, e1, r, _, _⟩ := h.take z
        cases c with
        | n => simp only [evArgs, evArg, z, R.bind] at q
        | f d =>
          obtain ⟨_, v, rfl, _⟩ := r
          exact ⟨v, e1, goo (.sl i) st v F H A [] (by simp only [evArg, z]) h ⟨rfl, e1⟩ h.nd .refl⟩
        | o d =>
          obtain ⟨v, rfl, _⟩ := r
          exact ⟨v, e1, goo (.sl i) st v F H A [] (by simp only [evArg, z]) h ⟨rfl, e1⟩ h.nd .refl⟩
/-- the slots handed over: what the callee gets, what stays -/
theorem take_all : ∀ {as : List AV} {st st' : Sl} {cs : List Cell} {vs : List V} {A B : List Addr}, Rl K ca F H st σ A → RepVs K ca F H σ as vs B → (B ++ A).Nodup → takeAll as st = some (cs, st') →
    ∃ C A', Rl K ca F H st' σ A' ∧ RepS K ca F H cs (vs.map some) C ∧ (B ++ A).Perm (C ++ A')
  | [], st, st', cs, vs, A, B, rl, rv, nd, e => by
    obtain ⟨rfl, rfl⟩ := rv
    cases e
    exact ⟨[], A, rl, ⟨rfl, rfl⟩, .refl _⟩
  | .d d :: as, st, st', cs, vs, A, B, rl, rv, nd, e => by
    obtain ⟨v, r, B1, B2, rfl, rfl, ⟨rfl, rep⟩, rvs⟩ := rv
    obtain ⟨⟨cs', st2⟩, e1, e2⟩ := Option.map_eq_some_iff.mp e
    cases e2
    obtain ⟨C, A', rl', rs, p⟩ := take_all rl rvs nd e1
    exact ⟨C, A', rl', ⟨some v, _, [], C, rfl, rfl, ⟨rfl, v, rfl, rep⟩, rs⟩, p⟩
  | .o d :: as, st, st', cs, vs, A, B, rl, rv, nd, e => by
    obtain ⟨v, r, B1, B2, rfl, rfl, ow, rvs⟩ := rv
    obtain ⟨⟨cs', st2⟩, e1, e2⟩ := Option.map_eq_some_iff.mp e
    cases e2
    rw [List.append_assoc] at nd ⊢
    obtain ⟨C, A', rl', rs, p⟩ := take_all rl rvs (List.nodup_append.mp nd).2.1 e1
    exact ⟨B1 ++ C, A', rl', ⟨some v, _, B1, C, rfl, rfl, ⟨v, rfl, ow⟩, rs⟩, by rw [List.append_assoc]; exact p.append_left B1⟩
  | .sl i :: as, st, st', cs, vs, A, B, rl, rv, nd, e => by
    obtain ⟨v, r, B1, B2, rfl, rfl, ⟨rfl, ev⟩, rvs⟩ := rv
    have e : (match st[i]? with
      | some .n => none
      | none => none
      | some c => (takeAll as (st.set i .n)).map fun p => (c :: p.1, p.2)) = some (cs, st') := e
    cases z : st[i]? with
    | none => simp only [z] at e; cases e
    | some c =>
      have e : (takeAll as (st.set i .n)).map (fun p => (c :: p.1, p.2)) = some (cs, st') := by
        cases c with
        | n => simp only [z] at e; cases e
        | f d => simp only [z] at e; exact e
        | o d => simp only [z] at e; exact e
      obtain ⟨⟨cs', st2⟩, e1, e2⟩ := Option.map_eq_some_iff.mp e
      cases e2
      obtain ⟨x, B3, C3, ex, rc, rl3, p3⟩ := rl.take z
      rw [ev] at ex
      cases ex
      have p4 : ([] ++ B2 ++ A).Perm (B3 ++ (B2 ++ C3)) := by
        rw [List.nil_append]
        refine (p3.append_left B2).trans ?_
        rw [← List.append_assoc, ← List.append_assoc]
        exact List.perm_append_comm.append_right C3
      have nd4 := p4.nodup_iff.mp nd
      obtain ⟨C, A', rl', rs, p⟩ := take_all rl3 rvs (List.nodup_append.mp nd4).2.1 e1
      exact ⟨B3 ++ C, A', rl', ⟨some v, _, B3, C, rfl, rfl, rc, rs⟩, p4.trans (by rw [List.append_assoc]; exact p.append_left B3)⟩

def slOf : List AV → List Nat
  | [] => []
  | .sl i :: as => i :: slOf as
  | _ :: as => slOf as
theorem takeAll_sl : ∀ {as : List AV} {st st' : Sl} {cs : List Cell}, takeAll as st = some (cs, st') →
    (∀ i, st[i]? = some .n → st'[i]? = some .n ∧ i ∉ slOf as) ∧ (∀ i ∈ slOf as, st'[i]? = some .n) ∧ (slOf as).Nodup
  | [], st, st', cs, e => by cases e; exact ⟨fun i h => ⟨h, by simp [slOf]⟩, fun i m => by simp [slOf] at m, by simp [slOf]⟩
  | .d d :: as, st, st', cs, e => by
    obtain ⟨⟨cs', st2⟩, e1, e2⟩ := Option.map_eq_some_iff.mp e
    cases e2
    exact takeAll_sl (as := as) e1
  | .o d :: as, st, st', cs, e => by
    obtain ⟨⟨cs', st2⟩, e1, e2⟩ := Option.map_eq_some_iff.mp e
    cases e2
    exact takeAll_sl (as := as) e1
  | .sl i :: as, st, st', cs, e => by
    have e : (match st[i]? with
      | some .n => none
      | none => none
      | some c => (takeAll as (st.set i .n)).map fun p => (c :: p.1, p.2)) = some (cs, st') := e
    cases z : st[i]? with
    | none => simp only [z] at e; cases e
    | some c =>
      have hc : c ≠ .n := fun q => by subst q; simp only [z] at e; cases e
      have e : (takeAll as (st.set i .n)).map (fun p => (c :: p.1, p.2)) = some (cs, st') := by
        cases c with
        | n => exact absurd rfl hc
        | f d => simp only [z] at e; exact e
        | o d => simp only [z] at e; exact e
      obtain ⟨⟨cs', st2⟩, e1, e2⟩ := Option.map_eq_some_iff.mp e
      cases e2
      obtain ⟨h1, h2, h3⟩ := takeAll_sl (as := as) e1
      have hi : i < st.length := (List.getElem?_eq_some_iff.mp z).1
      have hs : (st.set i .n)[i]? = some Cell.n := by simp [hi]
      refine ⟨fun j hj => ?_, fun j m => ?_, ?_⟩
      · have ne : i ≠ j := fun q => by subst q; rw [z] at hj; cases hj; exact hc rfl
        obtain ⟨a, b⟩ := h1 j (by rw [List.getElem?_set_ne ne]; exact hj)
        exact ⟨a, by simp only [slOf, List.mem_cons, not_or]; exact ⟨fun q => ne q.symm, b⟩⟩
      · simp only [slOf, List.mem_cons] at m
        rcases m with rfl | m
        · exact (h1 j hs).1
        · exact h2 j m
      · exact List.nodup_cons.mpr ⟨(h1 i hs).2, h3⟩
theorem RepVs.sl : ∀ {as : List AV} {vs : List V} {B : List Addr}, RepVs K ca F H σ as vs B → vs.length = as.length
  | [], vs, B, h => by rw [h.1]; rfl
  | a :: as, vs, B, h => by
    obtain ⟨v, r, B1, B2, rfl, rfl, _, h⟩ := h
    rw [List.length_cons, List.length_cons, RepVs.sl h]
theorem RepVs_nf : ∀ {as : List AV} {vs : List V} {B : List Addr}, RepVs K ca F H σ as vs B → ∀ x ∈ B, ¬ F x ∧ ∃ o, H x = some o
  | [], vs, B, h, x, m => by rw [h.2] at m; cases m
  | a :: as, vs, B, h, x, m => by
    obtain ⟨v, r, B1, B2, rfl, rfl, h1, h2⟩ := h
    rcases List.mem_append.mp m with m | m
    · exact h1.nf x m
    · exact RepVs_nf h2 x m
theorem put_all : ∀ {as : List AV} {st : Sl} {cs : List Cell} {vs : List V} {A A' B : List Addr} {F0 : Addr → Prop} {H0 : Hp}, Rl K ca F H st σ A → RepVs K ca F0 H0 σ as vs B → RepS K ca F H cs (vs.map some) A' → (A' ++ A).Nodup →
    (∀ i ∈ slOf as, st[i]? = some .n) → (slOf as).Nodup → ∃ A3, Rl K ca F H (putAll as cs st) σ A3 ∧ ∀ x ∈ A3, x ∈ A' ++ A
  | [], st, cs, vs, A, A', B, F0, H0, rl, rv, rs, nd, hn, hd => ⟨A, by cases cs <;> exact rl, fun x m => List.mem_append_right _ m⟩
  | a :: as, st, cs, vs, A, A', B, F0, H0, rl, rv, rs, nd, hn, hd => by
    obtain ⟨v, r, B1, B2, rfl, rfl, rv1, rvs⟩ := rv
    cases cs with
    | nil => obtain ⟨e, _⟩ := rs; cases e
    | cons c cs =>
      obtain ⟨x, σr, C1, C2, e1, rfl, rc, rs⟩ := rs
      rw [List.map_cons] at e1
      cases e1
      cases a with
      | d d =>
        have nd2 : (C2 ++ A).Nodup := by rw [List.append_assoc] at nd; exact (List.nodup_append.mp nd).2.1
        obtain ⟨A3, h1, h2⟩ := put_all rl rvs rs nd2 hn hd
        exact ⟨A3, h1, fun x m => by rw [List.append_assoc]; exact List.mem_append_right _ (h2 x m)⟩
      | o d =>
        have nd2 : (C2 ++ A).Nodup := by rw [List.append_assoc] at nd; exact (List.nodup_append.mp nd).2.1
        obtain ⟨A3, h1, h2⟩ := put_all rl rvs rs nd2 hn hd
        exact ⟨A3, h1, fun x m => by rw [List.append_assoc]; exact List.mem_append_right _ (h2 x m)⟩
      | sl i =>
        obtain ⟨_, ev⟩ := rv1
        have p : (C1 ++ C2 ++ A).Perm (C2 ++ (C1 ++ A)) := by
          rw [← List.append_assoc]
          exact List.perm_append_comm.append_right A
        have nd3 := p.nodup_iff.mp nd
        have rl2 := rl.put (hn i (by simp [slOf])) ev rc (List.nodup_append.mp nd3).2.1
        have hd2 := List.nodup_cons.mp (show (i :: slOf as).Nodup from hd)
        obtain ⟨A3, h1, h2⟩ := put_all rl2 rvs rs nd3 (fun j m => by
          have ne : i ≠ j := fun q => hd2.1 (q ▸ m)
          rw [List.getElem?_set_ne ne]
          exact hn j (by simp [slOf, m])) hd2.2
        exact ⟨A3, h1, fun x m => p.mem_iff.mpr (h2 x m)⟩
/-- a call, from the arguments to what comes back -/
theorem call_step {as : List AV} {st : Sl} {vs : List V} {B : List Addr} (rl : Rl K ca F H st σ A) (rvs : RepVs K ca F H σ as vs B) (nd : (B ++ A).Nodup) {cs : List Cell} {st2 : Sl} (e : takeAll as st = some (cs, st2)) :
    ∃ C, Rl K ca F H cs (vs.map some) C ∧ ∀ {cs' : List Cell} {F' : Addr → Prop} {H' : Hp} {A' : List Addr}, Rl K ca F' H' cs' (vs.map some) A' → Step F H C F' H' A' →
      ∃ A3, Rl K ca F' H' (putAll as cs' st2) σ A3 ∧ Step F H (B ++ A) F' H' A3 ∧ ∀ D : List Addr, (D ++ A').Nodup → Step F H C F' H' (D ++ A') → (D ++ A3).Nodup ∧ Step F H (B ++ A) F' H' (D ++ A3) := by
  obtain ⟨C, A2, rl2, rs, p⟩ := take_all rl rvs nd e
  have ndp := p.nodup_iff.mp nd
  obtain ⟨n1, n2, n3⟩ := List.nodup_append.mp ndp
  have nfc : ∀ x ∈ C, ¬ F x ∧ ∃ o, H x = some o := fun x m => by
    rcases List.mem_append.mp (p.mem_iff.mpr (List.mem_append_left A2 m)) with z | z
    · exact (RepVs_nf rvs) x z
    · exact rl.nf x z
  have rlc : Rl K ca F H cs (vs.map some) C := ⟨⟨C, rs, .refl _⟩, n1, rl.fd, nfc⟩
  · refine ⟨C, rlc, fun {cs' F' H' A'} rl' s => ?_⟩
    have dj : ∀ x ∈ A2, x ∉ C := fun x m m' => n3 x m' x m rfl
    have rl3 := rl2.step s rlc dj rl'.fd
    obtain ⟨A0, rs', p'⟩ := rl'.rep
    -- the callee's own and the rest are apart
    have apart : ∀ {D : List Addr}, (∀ x ∈ D, x ∈ C ∨ H x = none) → ∀ x ∈ D, x ∉ A2 := fun {D} h x m m' => by
      rcases h x m with z | z
      · exact dj x m' z
      · obtain ⟨o, e⟩ := (rl2.nf x m').2; rw [e] at z; cases z
    have nd' : (A0 ++ A2).Nodup := List.nodup_append.mpr ⟨p'.nodup_iff.mpr rl'.nd, rl2.nd, fun x m y m' e => apart (D := A') s.anew x (p'.mem_iff.mp m) (e ▸ m')⟩
    obtain ⟨h1, h2, h3⟩ := takeAll_sl e
    obtain ⟨A3, rl4, sub⟩ := put_all rl3 rvs rs' nd' h2 h3
    have sub' : ∀ x ∈ A3, x ∈ A' ∨ x ∈ A2 := fun x m => (List.mem_append.mp (sub x m)).imp (fun z => p'.mem_iff.mp z) fun z => z
    have st0 : ∀ {D : List Addr}, (∀ x ∈ D, x ∈ C ∨ H x = none) → Step F H (B ++ A) F' H' (D ++ A3) := fun {D} hD => by
      refine ⟨s.fm, fun x o ex n => s.keep x o ex fun m => n (p.mem_iff.mpr (List.mem_append_left _ m)), s.dom, fun x m => ?_, fun x m => ?_⟩
      · rcases s.fnew x m with z | z | z
        · exact .inl z
        · exact .inr (.inl z)
        · exact .inr (.inr (p.mem_iff.mpr (List.mem_append_left _ z)))
      · have fin : x ∈ C ∨ H x = none → x ∈ B ++ A ∨ H x = none := fun z => z.imp (fun z => p.mem_iff.mpr (List.mem_append_left _ z)) fun z => z
        rcases List.mem_append.mp m with m | m
        · exact fin (hD x m)
        · rcases sub' x m with z | z
          · exact fin (s.anew x z)
          · exact .inl (p.mem_iff.mpr (List.mem_append_right _ z))
    refine ⟨A3, rl4, st0 (D := []) (fun x m => by cases m), fun D ndD sD => ?_⟩
    have hD : ∀ x ∈ D, x ∈ C ∨ H x = none := fun x m => sD.anew x (List.mem_append_left _ m)
    refine ⟨List.nodup_append.mpr ⟨(List.nodup_append.mp ndD).1, rl4.nd, fun x m y m' ex => ?_⟩, st0 hD⟩
    subst ex
    rcases sub' x m' with z | z
    · exact (List.nodup_append.mp ndD).2.2 x m x z rfl
    · exact apart hD x m z
end
end Ev
namespace Ev
open PySem PySem.Spec PyProof.Rows L2
def callTail (mf : MF) (as : List AV) : E := fun st => match takeAll as st with
  | some (cs, st) => (match mf cs with
    | .ok d cs => .ok d (putAll as cs st)
    | .exc c x cs => .exc c x (putAll as cs st)
    | .bad => .bad)
  | none => .bad
theorem eCall_eq (mf : MF) (ps : List Arg) (st : Sl) : eCall mf ps st = (evArgs ps st).bind fun as st => callTail mf as st := rfl
/-- no exception -/
def noX (mf : MF) : MF := fun cs => match mf cs with
  | .exc _ _ _ => .bad
  | o => o
def clsAV (c : Str) (a : AV) (st : Sl) : Bool := match a with
  | .d (.obj c' _ _) => c' == c
  | .o (.obj c' _ _) => c' == c
  | .sl i => (match rd i st with
    | some (.obj c' _ _) => c' == c
    | _ => false)
  | _ => false
/-- o.m(..), o of the class c -/
def eMeth (c : Str) (mf : MF) (p : Arg) (ps : List Arg) : E := fun st => (evArg p st).bind fun a st => match clsAV c a st with
  | true => (evArgs ps st).bind fun as st => callTail mf (a :: as) st
  | false => .bad
/-- C(..) -/
def eMake (c : Str) (mf : MF) (ps : List Arg) : E := fun st => (evArgs ps st).bind fun as st => match takeAll as st with
  | some (cs, st) => (match mf (.o (.obj c [] []) :: cs) with
    | .ok .non (.o d :: cs) => .ok d (putAll as cs st)
    | .exc c x (_ :: cs) => .exc c x (putAll as cs st)
    | _ => .bad)
  | none => .bad
section
variable {K : PySem.W.Frag} {ca : Ca} {W : WX} {F F1 : Addr → Prop} {H H1 : Hp} {A A1 : List Addr} {σ : L2.St}
/-- what is wanted behind a result -/
def WantE (K : PySem.W.Frag) (ca : Ca) (W : WX) (F : Addr → Prop) (H : Hp) (A : List Addr) (σ : L2.St) (Q : VK) : R D → Prop
  | .ok d st' => ∀ v F' H' A', Rl K ca F' H' st' σ A' → Rep K ca F' H' d v → Step F H A F' H' A' → Q v H'
  | .exc c x st' => XcW K ca W F H A σ c x st'
  | .bad => False
def WantO (K : PySem.W.Frag) (ca : Ca) (W : WX) (F : Addr → Prop) (H : Hp) (A : List Addr) (σ : L2.St) (Q : VK) : R D → Prop
  | .ok d st' => ∀ v F' H' A' B, Rl K ca F' H' st' σ A' → Own K ca F' H' d v B → (B ++ A').Nodup → Step F H A F' H' (B ++ A') → Q v H'
  | .exc c x st' => XcW K ca W F H A σ c x st'
  | .bad => False
theorem tE_iff {m : E} {Q : VK} : tE K ca W m σ H Q ↔ ∃ F st A, Rl K ca F H st σ A ∧ WantE K ca W F H A σ Q (m st) := by
  constructor
  · rintro ⟨F, st, A, rl, q⟩
    refine ⟨F, st, A, rl, ?_⟩
    cases z : m st <;> (rw [z] at q; exact q)
  · rintro ⟨F, st, A, rl, q⟩
    refine ⟨F, st, A, rl, ?_⟩
    cases z : m st <;> (rw [z] at q; exact q)
theorem tO_iff {m : E} {Q : VK} : tO K ca W m σ H Q ↔ ∃ F st A, Rl K ca F H st σ A ∧ WantO K ca W F H A σ Q (m st) := by
  constructor
  · rintro ⟨F, st, A, rl, q⟩
    refine ⟨F, st, A, rl, ?_⟩
    cases z : m st <;> (rw [z] at q; exact q)
  · rintro ⟨F, st, A, rl, q⟩
    refine ⟨F, st, A, rl, ?_⟩
    cases z : m st <;> (rw [z] at q; exact q)
theorem WantE.step {Q : VK} {r : R D} (h : WantE K ca W F H A σ Q r) (s : Step F H A F1 H1 A1) : WantE K ca W F1 H1 A1 σ Q r := by
  cases r with
  | ok d st => exact fun v F' H' A' r rp s2 => h v F' H' A' r rp (s.trans s2)
  | exc c x st => exact fun cls oe F' H' A' r x s2 => h cls oe F' H' A' r x (s.trans s2)
  | bad => exact h
theorem WantO.step {Q : VK} {r : R D} (h : WantO K ca W F H A σ Q r) (s : Step F H A F1 H1 A1) : WantO K ca W F1 H1 A1 σ Q r := by
  cases r with
  | ok d st => exact fun v F' H' A' B r rp nd s2 => h v F' H' A' B r rp nd (s.trans s2)
  | exc c x st => exact fun cls oe F' H' A' r x s2 => h cls oe F' H' A' r x (s.trans s2)
  | bad => exact h
theorem tailE {mf : MF} {as : List AV} {st : Sl} {vs : List V} {B : List Addr} {Q : VK} (rl : Rl K ca F1 H1 st σ A1) (rvs : RepVs K ca F1 H1 σ as vs B) (nd : (B ++ A1).Nodup) (s1 : Step F H A F1 H1 (B ++ A1))
    (q : WantE K ca W F H A σ Q (callTail mf as st)) : spE K ca mf vs H1 Q (WE W σ) := by
  unfold callTail at q
  cases z : takeAll as st with
  | none => simp only [z] at q; exact q.elim
  | some p =>
    obtain ⟨cs, st2⟩ := p
    obtain ⟨C, rlc, fin⟩ := call_step rl rvs nd z
    refine ⟨F1, cs, C, rlc, ?_⟩
    simp only [z] at q
    cases z2 : mf cs with
    | bad => simp only [z2] at q; exact q.elim
    | ok d cs' =>
      simp only [z2] at q
      intro v F' H' A' rl' rep s
      obtain ⟨A3, r3, s3, _⟩ := fin rl' s
      exact q v F' H' A3 r3 rep (s1.trans s3)
    | exc c x cs' =>
      simp only [z2] at q
      intro cls oe F' H' A' rl' xi s
      obtain ⟨A3, r3, s3, _⟩ := fin rl' s
      exact q cls oe F' H' A3 r3 xi (s1.trans s3)
theorem tailO {mf : MF} {as : List AV} {st : Sl} {vs : List V} {B : List Addr} {Q : VK} (rl : Rl K ca F1 H1 st σ A1) (rvs : RepVs K ca F1 H1 σ as vs B) (nd : (B ++ A1).Nodup) (s1 : Step F H A F1 H1 (B ++ A1))
    (q : WantO K ca W F H A σ Q (callTail mf as st)) : spO K ca mf vs H1 Q (WE W σ) := by
  unfold callTail at q
  cases z : takeAll as st with
  | none => simp only [z] at q; exact q.elim
  | some p =>
    obtain ⟨cs, st2⟩ := p
    obtain ⟨C, rlc, fin⟩ := call_step rl rvs nd z
    refine ⟨F1, cs, C, rlc, ?_⟩
    simp only [z] at q
    cases z2 : mf cs with
    | bad => simp only [z2] at q; exact q.elim
    | ok d cs' =>
      simp only [z2] at q
      intro v F' H' A' D rl' ow nd' s
      have s0 : Step F1 H1 C F' H' A' := ⟨s.fm, s.keep, s.dom, s.fnew, fun x m => s.anew x (List.mem_append_right _ m)⟩
      obtain ⟨A3, r3, _, s3⟩ := fin rl' s0
      obtain ⟨nd3, s4⟩ := s3 D nd' s
      exact q v F' H' A3 D r3 ow nd3 (s1.trans s4)
    | exc c x cs' =>
      simp only [z2] at q
      intro cls oe F' H' A' rl' xi s
      obtain ⟨A3, r3, s3, _⟩ := fin rl' s
      exact q cls oe F' H' A3 r3 xi (s1.trans s3)
/-- the arguments, then P of what they are -/
theorem args_then {st₀ : Sl} {ps : List Arg} {Q : List V → Hp → Prop} {k : List AV → Sl → R D} {Want : R D → Prop} (rl : Rl K ca F H st₀ σ A)
    (q : Want ((evArgs ps st₀).bind fun as st => k as st)) (hb : ¬ Want .bad) (hx : ∀ c x st, Want (.exc c x st) → XcW K ca W F H A σ c x st)
    (ok : ∀ as st vs F1 H1 A1 B, Rl K ca F1 H1 st σ A1 → RepVs K ca F1 H1 σ as vs B → (B ++ A1).Nodup → Step F H A F1 H1 (B ++ A1) → Want (k as st) → Q vs H1) : tGs K ca W ps σ H Q := by
  refine args_run rl ?_
  cases z : evArgs ps st₀ with
  | bad => rw [z] at q; exact hb q
  | exc c x s => rw [z] at q; exact hx c x s q
  | ok as st => rw [z] at q; exact fun vs F1 H1 A1 B r rv nd s => ok as st vs F1 H1 A1 B r rv nd s q
theorem callE {mf : MF} {ps : List Arg} {Q : VK} (h : tE K ca W (eCall mf ps) σ H Q) : tGs K ca W ps σ H fun vs H1 => spE K ca mf vs H1 Q (WE W σ) := by
  obtain ⟨F, st, A, rl, q⟩ := tE_iff.mp h
  exact args_then (Want := WantE K ca W F H A σ Q) rl q (fun z => z) (fun _ _ _ z => z) fun as st vs F1 H1 A1 B r rv nd s z => tailE r rv nd s z
theorem callO {mf : MF} {ps : List Arg} {Q : VK} (h : tO K ca W (eCall mf ps) σ H Q) : tGs K ca W ps σ H fun vs H1 => spO K ca mf vs H1 Q (WE W σ) := by
  obtain ⟨F, st, A, rl, q⟩ := tO_iff.mp h
  exact args_then (Want := WantO K ca W F H A σ Q) rl q (fun z => z) (fun _ _ _ z => z) fun as st vs F1 H1 A1 B r rv nd s z => tailO r rv nd s z
/-- no exception: whatever is wanted of it -/
theorem spE_noX {mf : MF} {vs : List V} {Q : VK} {E E' : XK} (h : spE K ca (noX mf) vs H Q E) : spE K ca mf vs H Q E' := by
  obtain ⟨F, cs, A, rl, q⟩ := h
  refine ⟨F, cs, A, rl, ?_⟩
  unfold noX at q
  cases z : mf cs with
  | bad => simp only [z] at q
  | ok d cs' => simp only [z] at q; exact q
  | exc c x cs' => simp only [z] at q
theorem spO_noX {mf : MF} {vs : List V} {Q : VK} {E E' : XK} (h : spO K ca (noX mf) vs H Q E) : spO K ca mf vs H Q E' := by
  obtain ⟨F, cs, A, rl, q⟩ := h
  refine ⟨F, cs, A, rl, ?_⟩
  unfold noX at q
  cases z : mf cs with
  | bad => simp only [z] at q
  | ok d cs' => simp only [z] at q; exact q
  | exc c x cs' => simp only [z] at q
/-- the receiver is of that class -/
theorem cls_at {c : Str} {a : AV} {v : V} {B : List Addr} {st : Sl} (rl : Rl K ca F H st σ A) (rv : RepV K ca F H σ a v B) (h : clsAV c a st = true) : ∃ x dx gs ns, v = .ref x ∧ ca.ok c ns ∧ H x = some (.ins (ca.a c) dx gs) ∧ gs.map (·.1) = ns := by
  have fin : ∀ {c' : Str} {ns : List Str} {ds : List D}, c' == c → Vw K ca F H (.obj c' ns ds) v → ∃ x dx gs ns, v = .ref x ∧ ca.ok c ns ∧ H x = some (.ins (ca.a c) dx gs) ∧ gs.map (·.1) = ns := fun {c' ns ds} e w => by
    have e : c' = c := eq_of_beq e
    subst e
    obtain ⟨x, dx, gs, e, ok, q, _, e2, _⟩ := w
    exact ⟨x, dx, gs, ns, e, ok, q, e2⟩
  cases a with
  | d d =>
    cases d with
    | obj c' ns ds => exact fin h rv.2.vw
    | _ => cases h
  | o d =>
    cases d with
    | obj c' ns ds => exact fin h (Own.vw rv)
    | _ => cases h
  | sl i =>
    have h : (match rd i st with
      | some (.obj c' _ _) => c' == c
      | _ => false) = true := h
    cases z : rd i st with
    | none => rw [z] at h; cases h
    | some d =>
      rw [z] at h
      obtain ⟨v', e1, w⟩ := rl.rd z
      rw [rv.2] at e1
      cases e1
      cases d with
      | obj c' ns ds => exact fin h w
      | _ => cases h
/-- one argument, then more -/
theorem arg_then {p : Arg} {Q : VK} {k : AV → Sl → R D} {Want : R D → Prop} {st₀ : Sl} (rl : Rl K ca F H st₀ σ A)
    (q : Want ((evArg p st₀).bind fun a st => k a st)) (hb : ¬ Want .bad) (hx : ∀ c x st, Want (.exc c x st) → XcW K ca W F H A σ c x st)
    (ok : ∀ a st v F1 H1 A1 B, Rl K ca F1 H1 st σ A1 → RepV K ca F1 H1 σ a v B → (B ++ A1).Nodup → Step F H A F1 H1 (B ++ A1) → Want (k a st) → Q v H1) : tG K ca W p σ H Q := by
  cases p with
  | e m =>
    refine ⟨F, st₀, A, rl, ?_⟩
    cases z : m st₀ with
    | bad => simp only [evArg, z, R.bind] at q; exact hb q
    | exc c x s => simp only [evArg, z, R.bind] at q; exact hx c x s q
    | ok d st => simp only [evArg, z, R.bind] at q; exact fun v F1 H1 A1 r rep s => ok (.d d) st v F1 H1 A1 [] r ⟨rfl, rep⟩ r.nd s q
  | t m =>
    refine ⟨F, st₀, A, rl, ?_⟩
    cases z : m st₀ with
    | bad => simp only [evArg, z, R.bind] at q; exact hb q
    | exc c x s => simp only [evArg, z, R.bind] at q; exact hx c x s q
    | ok d st => simp only [evArg, z, R.bind] at q; exact fun v F1 H1 A1 B r ow nd s => ok (.o d) st v F1 H1 A1 B r ow nd s q
  | mu i =>
    cases z : st₀[i]? with
    | none => simp only [evArg, z, R.bind] at q; exact (hb q).elim
    | some c =>
      obtain ⟨x, B, C, e1, r, _, _⟩ := rl.take z
      cases c with
      | n => simp only [evArg, z, R.bind] at q; exact (hb q).elim
      | f d =>
        obtain ⟨_, v, rfl, _⟩ := r
        simp only [evArg, z, R.bind] at q
        exact ⟨v, e1, ok (.sl i) st₀ v F H A [] rl ⟨rfl, e1⟩ rl.nd .refl q⟩
      | o d =>
        obtain ⟨v, rfl, _⟩ := r
        simp only [evArg, z, R.bind] at q
        exact ⟨v, e1, ok (.sl i) st₀ v F H A [] rl ⟨rfl, e1⟩ rl.nd .refl q⟩
/-- pending own data B1 (of a value v) beside the rest -/
theorem pend_step {F2 : Addr → Prop} {H2 : Hp} {A2 B1 : List Addr} (s1 : Step F H A F1 H1 (B1 ++ A1)) (s : Step F1 H1 A1 F2 H2 A2) : Step F H A F2 H2 (B1 ++ A2) := by
  refine ⟨fun x m => s.fm x (s1.fm x m), fun x o e n => s.keep x o (s1.keep x o e n) fun m => ?_, fun x o e => ?_, fun x m => ?_, fun x m => ?_⟩
  · rcases s1.anew x (List.mem_append_right _ m) with z | z
    · exact n z
    · rw [e] at z; cases z
  · obtain ⟨o', e'⟩ := s1.dom x o e; exact s.dom x o' e'
  · rcases s.fnew x m with z | z | z
    · exact s1.fnew x z
    · cases e0 : H x with
      | none => exact .inr (.inl rfl)
      | some o => obtain ⟨o', e'⟩ := s1.dom x o e0; rw [z] at e'; cases e'
    · rcases s1.anew x (List.mem_append_right _ z) with z | z
      · exact .inr (.inr z)
      · exact .inr (.inl z)
  · rcases List.mem_append.mp m with m | m
    · exact s1.anew x (List.mem_append_left _ m)
    · rcases s.anew x m with z | z
      · exact s1.anew x (List.mem_append_right _ z)
      · cases e0 : H x with
        | none => exact .inr rfl
        | some o => obtain ⟨o', e'⟩ := s1.dom x o e0; rw [z] at e'; cases e'
/-- the receiver, the arguments, then the method's promise Sp -/
theorem meth_then {c : Str} {mf : MF} {p : Arg} {ps : List Arg} {Want : R D → Prop} {st₀ : Sl} {S : List V → Hp → Prop} {m : Str} (hm : ∀ ns, ca.ok c ns → m ∉ ns) (rl : Rl K ca F H st₀ σ A)
    (q : Want (eMeth c mf p ps st₀)) (hb : ¬ Want .bad) (hx : ∀ c x st, Want (.exc c x st) → XcW K ca W F H A σ c x st)
    (ok : ∀ as st vs F1 H1 A1 B, Rl K ca F1 H1 st σ A1 → RepVs K ca F1 H1 σ as vs B → (B ++ A1).Nodup → Step F H A F1 H1 (B ++ A1) → Want (callTail mf as st) → S vs H1) :
    tG K ca W p σ H fun x H1 => ∃ a dx fs, x = .ref a ∧ H1 a = some (.ins (ca.a c) dx fs) ∧ fs.lookup m = none ∧ tGs K ca W ps σ H1 fun vs H2 => S (x :: vs) H2 := by
  refine arg_then (k := fun a st => match clsAV c a st with
    | true => (evArgs ps st).bind fun as st => callTail mf (a :: as) st
    | false => .bad) rl q hb hx fun a st v F1 H1 A1 B1 rl1 rv nd s1 q => ?_
  cases z : clsAV c a st with
  | false => simp only [z] at q; exact (hb q).elim
  | true =>
    simp only [z] at q
    obtain ⟨x, dx, gs, ns, e, okc, eh, en⟩ := cls_at rl1 rv z
    refine ⟨x, dx, gs, e, eh, ?_, ?_⟩
    · have hn := hm ns okc
      rw [← en] at hn
      clear en eh okc
      induction gs with
      | nil => rfl
      | cons g gs ih =>
        rw [List.map_cons, List.mem_cons, not_or] at hn
        obtain ⟨g1, g2⟩ := g
        rw [List.lookup_cons]
        have : (m == g1) = false := by simpa using hn.1
        rw [this]
        exact ih hn.2
    · refine args_run rl1 ?_
      have dj : ∀ x ∈ B1, x ∉ A1 := fun x m m' => (List.nodup_append.mp nd).2.2 x m x m' rfl
      cases z2 : evArgs ps st with
      | bad => simp only [z2, R.bind] at q; exact hb q
      | exc c x s =>
        simp only [z2, R.bind] at q
        intro cls oe F' H' A' r xi s2
        have s3 := pend_step s1 s2
        exact hx c x s q cls oe F' H' A' r xi ⟨s3.fm, s3.keep, s3.dom, s3.fnew, fun y m => s3.anew y (List.mem_append_right _ m)⟩
      | ok as st2 =>
        simp only [z2, R.bind] at q
        intro vs F' H' A' B rl2 rvs nd2 s2
        have rv2 := rv.step s2 rl1 dj
        have djB : ∀ x ∈ B1, x ∉ B ++ A' := fun x m m' => by
          rcases s2.anew x m' with z | z
          · exact dj x m z
          · obtain ⟨o, e⟩ := (rv.nf x m).2; rw [e] at z; cases z
        have nd3 : (B1 ++ (B ++ A')).Nodup := List.nodup_append.mpr ⟨(List.nodup_append.mp nd).1, nd2, fun x m y m' e => djB x m (e ▸ m')⟩
        exact ok (a :: as) st2 (v :: vs) F' H' A' (B1 ++ B) rl2 ⟨v, vs, B1, B, rfl, rfl, rv2, rvs⟩ (by rw [List.append_assoc]; exact nd3) (by rw [List.append_assoc]; exact pend_step s1 s2) q
/-- a new instance, then __init__'s promise -/
theorem make_then {c : Str} {mf : MF} {ps : List Arg} {Q : VK} (h : tO K ca W (eMake c mf ps) σ H Q) (okc : ca.ok c []) :
    tGs K ca W ps σ H fun vs H1 => ∀ x dx, H1 x = none → H1 dx = none → dx ≠ x → spE K ca mf (.ref x :: vs) (upd (upd H1 dx (.own x)) x (.ins (ca.a c) dx [])) (fun v H2 => v = .non ∧ Q (.ref x) H2) (WE W σ) := by
  obtain ⟨F, st₀, A, rl, q⟩ := tO_iff.mp h
  refine args_then (Want := WantO K ca W F H A σ Q) rl q (fun z => z) (fun _ _ _ z => z) fun as st vs F1 H1 A1 B rl1 rvs nd s1 q => ?_
  intro x dx nx ndx ne
  cases z : takeAll as st with
  | none => simp only [z] at q; exact q.elim
  | some p =>
    obtain ⟨cs, st2⟩ := p
    simp only [z] at q
    obtain ⟨C, rlc, fin⟩ := call_step rl1 rvs nd z
    have hx := rlc.fresh nx
    have hdx := rlc.fresh ndx
    have ext : ∀ a o, H1 a = some o → (upd (upd H1 dx (.own x)) x (.ins (ca.a c) dx [])) a = some o := fun a o e => by
      rw [upd_ne (ne_of_none e nx), upd_ne (ne_of_none e ndx)]; exact e
    have rl2 := rlc.ext ext
    have ow : Own K ca F1 (upd (upd H1 dx (.own x)) x (.ins (ca.a c) dx [])) (.obj c [] []) (.ref x) [x, dx] :=
      ⟨x, dx, [], [], rfl, okc, rfl, hx.1, hdx.1, upd_same, by rw [upd_ne ne, upd_same], rfl, rfl, rfl, rfl⟩
    have nd2 : ([x, dx] ++ C).Nodup := by
      refine List.nodup_cons.mpr ⟨?_, List.nodup_cons.mpr ⟨?_, rlc.nd⟩⟩
      · intro m
        rcases List.mem_cons.mp m with m | m
        · exact ne m.symm
        · exact hx.2 m
      · exact hdx.2
    have rlS : Rl K ca F1 (upd (upd H1 dx (.own x)) x (.ins (ca.a c) dx [])) (.o (.obj c [] []) :: cs) ((V.ref x :: vs).map some) ([x, dx] ++ C) := by
      obtain ⟨C0, rs, pp⟩ := rl2.rep
      refine ⟨⟨[x, dx] ++ C0, ⟨some (.ref x), _, [x, dx], C0, rfl, rfl, ⟨_, rfl, ow⟩, rs⟩, pp.append_left _⟩, nd2, rl2.fd, fun y m => ?_⟩
      rcases List.mem_append.mp m with m | m
      · exact ow.nf y m
      · exact rl2.nf y m
    have sN : Step F1 H1 C F1 (upd (upd H1 dx (.own x)) x (.ins (ca.a c) dx [])) ([x, dx] ++ C) := by
      refine ⟨fun _ z => z, fun a o e _ => ext a o e, fun a o e => ⟨o, ext a o e⟩, fun _ z => .inl z, fun y m => ?_⟩
      rcases List.mem_append.mp m with m | m
      · rcases List.mem_cons.mp m with m | m
        · exact .inr (m ▸ nx)
        · rw [List.mem_singleton] at m
          exact .inr (m ▸ ndx)
      · exact .inl m
    refine ⟨F1, _, _, rlS, ?_⟩
    cases z2 : mf (.o (.obj c [] []) :: cs) with
    | bad => simp only [z2] at q; exact q.elim
    | exc cc xx cs' =>
      simp only [z2] at q
      cases cs' with
      | nil => exact q.elim
      | cons c0 cs' =>
        intro cls oe F' H' A' rl' xi s
        obtain ⟨A0, ⟨y, r, B', C', e1, rfl, rc, rs⟩, pp⟩ := rl'.rep
        rw [List.map_cons] at e1
        cases e1
        have ndp := pp.nodup_iff.mpr rl'.nd
        have rl3 : Rl K ca F' H' cs' (vs.map some) C' := ⟨⟨C', rs, .refl _⟩, (List.nodup_append.mp ndp).2.1, rl'.fd, fun y m => rl'.nf y (pp.mem_iff.mp (List.mem_append_right _ m))⟩
        have s3 : Step F1 H1 C F' H' C' := by
          have t := sN.trans s
          exact ⟨t.fm, t.keep, t.dom, t.fnew, fun y m => t.anew y (pp.mem_iff.mp (List.mem_append_right _ m))⟩
        obtain ⟨A3, r3, s4, _⟩ := fin rl3 s3
        exact q cls oe F' H' A3 r3 xi (s1.trans s4)
    | ok d0 cs' =>
      simp only [z2] at q
      cases d0 with
      | non =>
        cases cs' with
        | nil => exact q.elim
        | cons c0 cs' =>
          cases c0 with
          | n => exact q.elim
          | f d => exact q.elim
          | o d =>
            intro v F' H' A' rl' rep s
            unfold Rep at rep
            refine ⟨rep, ?_⟩
            obtain ⟨A0, ⟨y, r, B', C', e1, rfl, ⟨v', e2, ow'⟩, rs⟩, pp⟩ := rl'.rep
            rw [List.map_cons] at e1
            cases e1
            cases e2
            have ndp := pp.nodup_iff.mpr rl'.nd
            have rl3 : Rl K ca F' H' cs' (vs.map some) C' := ⟨⟨C', rs, .refl _⟩, (List.nodup_append.mp ndp).2.1, rl'.fd, fun y m => rl'.nf y (pp.mem_iff.mp (List.mem_append_right _ m))⟩
            have t := sN.trans s
            have s3 : Step F1 H1 C F' H' (B' ++ C') := ⟨t.fm, t.keep, t.dom, t.fnew, fun y m => t.anew y (pp.mem_iff.mp m)⟩
            have s3' : Step F1 H1 C F' H' C' := ⟨t.fm, t.keep, t.dom, t.fnew, fun y m => t.anew y (pp.mem_iff.mp (List.mem_append_right _ m))⟩
            obtain ⟨A3, r3, _, f3⟩ := fin rl3 s3'
            obtain ⟨nd3, s4⟩ := f3 B' ndp s3
            exact q (.ref x) F' H' A3 B' r3 ow' nd3 (s1.trans s4)
      | _ => exact q.elim
end
section
variable {X : Cx} {ca : Ca} {W : WX} {k : Nat} {f : Addr} {fd : FuncData} {pn : List Str} {x m : Str} {p pos apos : Pos} {e o : Expr} {es : List Expr} {mf : MF} {ps : List Arg} {g : Arg} {c : Str}
theorem tCallS_run {sp : Sp} {t : TA} {E : L2.St → XK} {σ : L2.St} {H : Hp} {Q : VK} (h : t σ H fun vs H1 => sp vs H1 Q (E σ)) : tCallS sp E t σ H Q := h
theorem se_call (F : FnOk X.prog X.w X.K X.mg X.base (L2.CX X.prog X.w) k f fd pn (spE X.K ca mf)) (hr : Room k X.A) (hg : Gl X x) (hm : X.mg x = some (.ref f)) (hk : PySem.W.keepIn X.K (.ref f) = true) (hb : Binds X.K fd pn []) (tk : Takes X W)
    (ha : PA X (e :: es) (tGs X.K ca W ps)) (hdb : (x == ("__debug__" : Str)) = false := by decide) (he : starEach (e :: es) X.env = (false, eval e X.env) :: starEach es X.env := by rfl) (hpl : (backTo pos (starEach es X.env)).any (·.1) = false := by rfl) :
    PE X (.Call (.Name x p) (e :: es) [] pos) (tE X.K ca W (eCall mf ps)) := PE.imp (pe_callS (E := WE W) F hr hg hm hk hb (fun σ => passAt tk σ) ha hdb he hpl) fun σ H Q h => callE h
theorem so_call (F : FnOk X.prog X.w X.K X.mg X.base (L2.CX X.prog X.w) k f fd pn (spO X.K ca mf)) (hr : Room k X.A) (hg : Gl X x) (hm : X.mg x = some (.ref f)) (hk : PySem.W.keepIn X.K (.ref f) = true) (hb : Binds X.K fd pn []) (tk : Takes X W)
    (ha : PA X (e :: es) (tGs X.K ca W ps)) (hdb : (x == ("__debug__" : Str)) = false := by decide) (he : starEach (e :: es) X.env = (false, eval e X.env) :: starEach es X.env := by rfl) (hpl : (backTo pos (starEach es X.env)).any (·.1) = false := by rfl) :
    PE X (.Call (.Name x p) (e :: es) [] pos) (tO X.K ca W (eCall mf ps)) := PE.imp (pe_callS (E := WE W) F hr hg hm hk hb (fun σ => passAt tk σ) ha hdb he hpl) fun σ H Q h => callO h
theorem pe_call0S {sp : Sp} {E : L2.St → XK} (F : FnOk X.prog X.w X.K X.mg X.base (L2.CX X.prog X.w) k f fd pn sp) (hr : Room k X.A) (hg : Gl X x) (hm : X.mg x = some (.ref f)) (hk : PySem.W.keepIn X.K (.ref f) = true) (hb : Binds X.K fd pn []) (hx : ∀ σ, PassesAt (L2.CX X.prog X.w) X σ (E σ))
    (hdb : (x == ("__debug__" : Str)) = false := by decide) : PE X (.Call (.Name x p) [] [] pos) (tCallS sp E tNil) := by
  refine ⟨fun pins s σ H Q I h => ?_⟩
  refine wpAny_Call_Name_kw (ld_glob I hg hm ?_ hdb)
  exact PySem.W.callWith_K0 I.kIn hk (run_fnS (us := []) F hr hb (hx σ) I .nil h)
theorem se_call0 (F : FnOk X.prog X.w X.K X.mg X.base (L2.CX X.prog X.w) k f fd pn (spE X.K ca mf)) (hr : Room k X.A) (hg : Gl X x) (hm : X.mg x = some (.ref f)) (hk : PySem.W.keepIn X.K (.ref f) = true) (hb : Binds X.K fd pn []) (tk : Takes X W)
    (hdb : (x == ("__debug__" : Str)) = false := by decide) : PE X (.Call (.Name x p) [] [] pos) (tE X.K ca W (eCall mf [])) := PE.imp (pe_call0S (E := WE W) F hr hg hm hk hb (fun σ => passAt tk σ) hdb) fun σ H Q h => callE h
def tMethS (C : Addr) (m : Str) (sp : Sp) (dvs : List V) (E : L2.St → XK) (ta : TE) (t : TA) : TE := fun σ H Q => ta σ H fun x H1 => ∃ a dx fs, x = .ref a ∧ H1 a = some (.ins C dx fs) ∧ fs.lookup m = none ∧
  t σ H1 fun vs H2 => sp (x :: (vs ++ dvs)) H2 Q (E σ)
theorem pe_methS {C : Addr} {sp : Sp} {dvs : List V} {ds : List Value} {E : L2.St → XK} {ta : TE} {t : TA} {pl : Sem Bool} (he : PE X o ta) (c : Cls X.K C) (hm : Meth X.K C m f) (F : FnOk X.prog X.w X.K X.mg X.base (L2.CX X.prog X.w) k f fd pn sp) (hr : Room k X.A) (hb : Binds X.K fd pn ds) (hd : Vals dvs ds) (hx : ∀ σ, PassesAt (L2.CX X.prog X.w) X σ (E σ)) (ha : PA X (e :: es) t)
    (hst : starEach (e :: es) X.env = (false, eval e X.env) :: starEach es X.env := by rfl) (hpl : (backTo pos (starEach es X.env)).any (·.1) = false := by rfl)
    (ht : eval (.Call (.Attribute o m apos) (e :: es) [] pos) X.env = (do
      let ov ← eval o X.env
      standAt apos.atName
      let (f, first) ← holding [ov] (getMethod ov m pl)
      callWith pos f first (backTo pos (starEach (e :: es) X.env)) (backToKw pos (keywordEach [] X.env))) := by rfl) :
    PE X (.Call (.Attribute o m apos) (e :: es) [] pos) (tMethS C m sp dvs E ta t) := by
  refine ⟨fun pins s σ H Q I h => ?_⟩
  refine PySem.W.methodCall_KW (pl := pl) (thn (he.run pins s σ H _ I h) fun u s1 ⟨x, H1, I1, rx, a, dx, fs, ex, ea, l, q⟩ => ?_) ht
  subst ex
  obtain rfl : u = Value.ref a := rx
  refine getmeth_ok I1 ea c hm l ?_
  refine PySem.W.callWith_K (first := [.ref a]) (h₀ := X.base) I.ok.mod.kin hm.kp (thn (ha.run pos pins s1 σ H1 _ I1 q) fun us s2 ⟨vs, H2, I2, r, q2⟩ => ⟨I2.kIn, ?_⟩) hst hpl
  exact run_fnSD (us := .ref a :: us) (vs := .ref a :: vs) F hr hb hd (hx σ) I2 (.cons rfl r) q2
theorem pe_meth0S {C : Addr} {sp : Sp} {dvs : List V} {ds : List Value} {E : L2.St → XK} {ta : TE} {pl : Sem Bool} (he : PE X o ta) (c : Cls X.K C) (hm : Meth X.K C m f) (F : FnOk X.prog X.w X.K X.mg X.base (L2.CX X.prog X.w) k f fd pn sp) (hr : Room k X.A) (hb : Binds X.K fd pn ds) (hd : Vals dvs ds) (hx : ∀ σ, PassesAt (L2.CX X.prog X.w) X σ (E σ))
    (ht : eval (.Call (.Attribute o m apos) [] [] pos) X.env = (do
      let ov ← eval o X.env
      standAt apos.atName
      let (f, first) ← holding [ov] (getMethod ov m pl)
      callWith pos f first (backTo pos (starEach [] X.env)) (backToKw pos (keywordEach [] X.env))) := by rfl) :
    PE X (.Call (.Attribute o m apos) [] [] pos) (tMethS C m sp dvs E ta tNil) := by
  refine ⟨fun pins s σ H Q I h => ?_⟩
  refine PySem.W.methodCall_KW (pl := pl) (thn (he.run pins s σ H _ I h) fun u s1 ⟨x, H1, I1, rx, a, dx, fs, ex, ea, l, q⟩ => ?_) ht
  subst ex
  obtain rfl : u = Value.ref a := rx
  refine getmeth_ok I1 ea c hm l ?_
  exact PySem.W.callWith_K0 (first := [.ref a]) I1.kIn hm.kp (run_fnSD (us := [.ref a]) (vs := [.ref a]) F hr hb hd (hx σ) I1 (.cons rfl .nil) q)
variable (cf : Cf X.K ca)
theorem se_meth {pl : Sem Bool} (cl : Cls X.K (ca.a c)) (hn : ∀ ns, ca.ok c ns → m ∉ ns) (he : PE X o (tG X.K ca W g)) (hm : Meth X.K (ca.a c) m f) (F : FnOk X.prog X.w X.K X.mg X.base (L2.CX X.prog X.w) k f fd pn (spE X.K ca mf)) (hr : Room k X.A) (hb : Binds X.K fd pn []) (tk : Takes X W) (ha : PA X (e :: es) (tGs X.K ca W ps))
    (hst : starEach (e :: es) X.env = (false, eval e X.env) :: starEach es X.env := by rfl) (hpl : (backTo pos (starEach es X.env)).any (·.1) = false := by rfl)
    (ht : eval (.Call (.Attribute o m apos) (e :: es) [] pos) X.env = (do
      let ov ← eval o X.env
      standAt apos.atName
      let (f, first) ← holding [ov] (getMethod ov m pl)
      callWith pos f first (backTo pos (starEach (e :: es) X.env)) (backToKw pos (keywordEach [] X.env))) := by rfl) :
    PE X (.Call (.Attribute o m apos) (e :: es) [] pos) (tE X.K ca W (eMeth c mf g ps)) := PE.imp (pe_methS (dvs := []) (E := WE W) he cl hm F hr hb .nil (fun σ => passAt tk σ) ha hst hpl ht) fun σ H Q h => by
  obtain ⟨F, st, A, rl, q⟩ := tE_iff.mp h
  exact meth_then (Want := WantE X.K ca W F H A σ Q) (S := fun vs H1 => spE X.K ca mf (vs ++ []) H1 Q (WE W σ)) hn rl q (fun z => z) (fun _ _ _ z => z) fun as st vs F1 H1 A1 B r rv nd s z => by rw [List.append_nil]; exact tailE r rv nd s z
theorem se_meth0 {pl : Sem Bool} (cl : Cls X.K (ca.a c)) (hn : ∀ ns, ca.ok c ns → m ∉ ns) (he : PE X o (tG X.K ca W g)) (hm : Meth X.K (ca.a c) m f) (F : FnOk X.prog X.w X.K X.mg X.base (L2.CX X.prog X.w) k f fd pn (spE X.K ca mf)) (hr : Room k X.A) (hb : Binds X.K fd pn []) (tk : Takes X W)
    (ht : eval (.Call (.Attribute o m apos) [] [] pos) X.env = (do
      let ov ← eval o X.env
      standAt apos.atName
      let (f, first) ← holding [ov] (getMethod ov m pl)
      callWith pos f first (backTo pos (starEach [] X.env)) (backToKw pos (keywordEach [] X.env))) := by rfl) :
    PE X (.Call (.Attribute o m apos) [] [] pos) (tE X.K ca W (eMeth c mf g [])) := PE.imp (pe_meth0S (dvs := []) (E := WE W) he cl hm F hr hb .nil (fun σ => passAt tk σ) ht) fun σ H Q h => by
  obtain ⟨F, st, A, rl, q⟩ := tE_iff.mp h
  exact meth_then (Want := WantE X.K ca W F H A σ Q) (S := fun vs H1 => spE X.K ca mf (vs ++ []) H1 Q (WE W σ)) hn rl q (fun z => z) (fun _ _ _ z => z) fun as st vs F1 H1 A1 B r rv nd s z => by rw [List.append_nil]; exact tailE r rv nd s z
theorem tE_mono {K : PySem.W.Frag} {mm : E} {σ : L2.St} {H : Hp} {Q Q' : VK} (h : tE K ca W mm σ H Q) (i : ∀ v H, Q v H → Q' v H) : tE K ca W mm σ H Q' := by
  obtain ⟨F, st, A, rl, q⟩ := h
  refine ⟨F, st, A, rl, ?_⟩
  cases z : mm st with
  | bad => rw [z] at q; exact q
  | exc c x s => rw [z] at q; exact q
  | ok d s => rw [z] at q; exact fun v F' H' A' r rp s => i _ _ (q v F' H' A' r rp s)
theorem tO_mono {K : PySem.W.Frag} {mm : E} {σ : L2.St} {H : Hp} {Q Q' : VK} (h : tO K ca W mm σ H Q) (i : ∀ v H, Q v H → Q' v H) : tO K ca W mm σ H Q' := by
  obtain ⟨F, st, A, rl, q⟩ := h
  refine ⟨F, st, A, rl, ?_⟩
  cases z : mm st with
  | bad => rw [z] at q; exact q
  | exc c x s => rw [z] at q; exact q
  | ok d s => rw [z] at q; exact fun v F' H' A' B r rp nd s => i _ _ (q v F' H' A' B r rp nd s)
theorem tG_mono {K : PySem.W.Frag} {g : Arg} {σ : L2.St} {H : Hp} {Q Q' : VK} (h : tG K ca W g σ H Q) (i : ∀ v H, Q v H → Q' v H) : tG K ca W g σ H Q' := by
  cases g with
  | e mm => exact tE_mono h i
  | t mm => exact tO_mono h i
  | mu j => obtain ⟨v, e, q⟩ := h; exact ⟨v, e, i _ _ q⟩
/-- o.f, a property -/
def eProp (c : Str) (mf : MF) (p : Arg) : E := eMeth c (noX mf) p []
theorem se_prop {pp gg : Addr} (cl : Cls X.K (ca.a c)) (hn : ∀ ns, ca.ok c ns → m ∉ ns) (he : PE X o (tG X.K ca W g)) (hp : PropOf X.K (ca.a c) m pp gg) (F : FnOk X.prog X.w X.K X.mg X.base (L2.CX X.prog X.w) k gg fd pn (spE X.K ca mf)) (hr : Room (k + 1) X.A) (hb : Binds X.K fd pn [])
    (hab : attributeBase o m X.env (eval o X.env) = eval o X.env := by rfl) : PE X (.Attribute o m pos) (tE X.K ca W (eProp c mf g)) :=
  PE.imp (pe_prop (dvs := []) (E := E0) he cl hp F hr hb .nil passL hab) fun σ H Q h => by
  obtain ⟨F, st, A, rl, q⟩ := tE_iff.mp h
  refine tG_mono (meth_then (Want := WantE X.K ca W F H A σ Q) (S := fun vs H1 => spE X.K ca (noX mf) vs H1 Q (WE W σ)) hn rl q (fun z => z) (fun _ _ _ z => z) fun as st vs F1 H1 A1 B r rv nd s z => tailE r rv nd s z) fun v H1 ⟨a, dx, fs, e, h1, _, q⟩ => ?_
  subst e
  exact ⟨a, dx, fs, rfl, h1, spE_noX q⟩
/-- C(..) -/
def tMakeS (C : Addr) (sp : Sp) (E : L2.St → XK) (t : TA) : TE := fun σ H Q => t σ H fun vs H1 => ∀ x dx, H1 x = none → H1 dx = none → dx ≠ x →
  sp (.ref x :: vs) (upd (upd H1 dx (.own x)) x (.ins C dx [])) (fun v H2 => v = .non ∧ Q (.ref x) H2) (E σ)
theorem run_makeS {C : Addr} {sp : Sp} {E : L2.St → XK} {pins : List (Addr × Obj)} {σ : L2.St} {H : Hp} {s : Shared} {Q : VK} {us : List Value} {vs : List V} (M : Mk X.K C f) (F : FnOk X.prog X.w X.K X.mg X.base (L2.CX X.prog X.w) k f fd pn sp) (hr : Room (k + 1) X.A) (hb : Binds X.K fd pn [])
    (hx : PassesAt (L2.CX X.prog X.w) X σ (E σ)) (I : Inv X pins σ H s) (r : Vals vs us)
    (h : ∀ x dx, H x = none → H dx = none → dx ≠ x → sp (.ref x :: vs) (upd (upd H dx (.own x)) x (.ins C dx [])) (fun v H2 => v = .non ∧ Q (.ref x) H2) (E σ)) :
    wpAny (model X.prog X.w) X.A (call (.ref C) us) (EP X pins σ Q) X.xe s := by
  have hq := h (s.heap.objs.size + 1) s.heap.objs.size (I.hok.fresh (Nat.le_succ _)) (I.hok.fresh (Nat.le_refl _)) (Nat.ne_of_lt (Nat.lt_succ_self _))
  have I2 := Inv.made (C := C) I
  have r2 : Vals (V.ref (s.heap.objs.size + 1) :: vs) (Value.ref (s.heap.objs.size + 1) :: us) := .cons rfl r
  have hl : (Value.ref (s.heap.objs.size + 1) :: us ++ []).length = pn.length := by
    have e := r2.length
    rw [F.len _ _ _ _ hq] at e
    rw [List.append_nil]
    exact e.symm
  have b := hb _ (Value.ref (s.heap.objs.size + 1) :: us) I2.kIn hl
  rw [List.append_nil] at b
  refine wpAny_call (make_map (f := f) I.kIn M.makes M.init (beq_iff_eq.mp M.fn) (codeAny_mono (F.run _ X.stack _ _ ⟨Value.ref (s.heap.objs.size + 1) :: us, []⟩ (Value.ref (s.heap.objs.size + 1) :: us) _ _ (E σ) (hr.make C us [])
    (I2.env0.make C us []) b r2 hq) fun r s' hq' => ?_))
  cases r with
  | error e => exact hx pins _ _ e s' I2 hq'
  | ok fl =>
    cases fl with
    | ret u =>
      obtain ⟨v, H', I3, rv, ev, q3⟩ := I2.after hq'
      subst ev
      exact ⟨rv, ⟨V.ref (s.heap.objs.size + 1), H', I3, rfl, q3⟩⟩
    | next => exact False.elim hq'
    | brk => exact False.elim hq'
    | cont => exact False.elim hq'
theorem pe_makeS {C : Addr} {sp : Sp} {E : L2.St → XK} {t : TA} (M : Mk X.K C f) (F : FnOk X.prog X.w X.K X.mg X.base (L2.CX X.prog X.w) k f fd pn sp) (hr : Room (k + 1) X.A) (hg : Gl X x) (hm : X.mg x = some (.ref C)) (hb : Binds X.K fd pn []) (hx : ∀ σ, PassesAt (L2.CX X.prog X.w) X σ (E σ))
    (ha : PA X (e :: es) t) (hdb : (x == ("__debug__" : Str)) = false := by decide) (he : starEach (e :: es) X.env = (false, eval e X.env) :: starEach es X.env := by rfl) (hpl : (backTo pos (starEach es X.env)).any (·.1) = false := by rfl) :
    PE X (.Call (.Name x p) (e :: es) [] pos) (tMakeS C sp E t) := by
  refine ⟨fun pins s σ H Q I h => ?_⟩
  refine wpAny_Call_Name_kw (ld_glob I hg hm ?_ hdb)
  refine PySem.W.callWith_K (h₀ := X.base) I.ok.mod.kin M.kp (thn (ha.run pos pins s σ H _ I h) fun us s1 ⟨vs, H1, I1, r, q⟩ => ⟨I1.kIn, ?_⟩) he hpl
  exact run_makeS M F hr hb (hx σ) I1 r q
theorem so_make (okc : ca.ok c []) (M : Mk X.K (ca.a c) f) (F : FnOk X.prog X.w X.K X.mg X.base (L2.CX X.prog X.w) k f fd pn (spE X.K ca mf)) (hr : Room (k + 1) X.A) (hg : Gl X x) (hm : X.mg x = some (.ref (ca.a c))) (hb : Binds X.K fd pn []) (tk : Takes X W)
    (ha : PA X (e :: es) (tGs X.K ca W ps)) (hdb : (x == ("__debug__" : Str)) = false := by decide) (he : starEach (e :: es) X.env = (false, eval e X.env) :: starEach es X.env := by rfl) (hpl : (backTo pos (starEach es X.env)).any (·.1) = false := by rfl) :
    PE X (.Call (.Name x p) (e :: es) [] pos) (tO X.K ca W (eMake c mf ps)) := PE.imp (pe_makeS (E := WE W) M F hr hg hm hb (fun σ => passAt tk σ) ha hdb he hpl) fun σ H Q h => make_then h okc
def eFld (f : Str) (p : Opd) : E := eOp (fun ds => match ds with
  | [.obj _ ns ds] => (match owf f with
    | false => lookF ns ds f
    | true => none)
  | _ => none) [p]
include cf in
theorem se_fld {fl : Str} {pd : Opd} (he : PE X o (tP X.K ca W pd)) (hb : attributeBase o fl X.env (eval o X.env) = eval o X.env := by rfl) (ok : opdsOk [pd] = true := by rfl) (of : opdsF [pd] = true := by rfl) :
    PE X (.Attribute o fl pos) (tE X.K ca W (eFld fl pd)) := PE.imp (pe_fld he hb) fun σ H Q h =>
  eOp_run (r := fun xs H Q => match xs with | [x] => ∃ a C dx fs v, x = .ref a ∧ H a = some (.ins C dx fs) ∧ Cls X.K C ∧ NoAttr X.K C fl ∧ fs.lookup fl = some v ∧ Q v H | _ => False) cf (fun F H ds d xs Q vw e q => by
    cases ds with
    | nil => cases e
    | cons d0 ds =>
      cases ds with
      | cons d1 ds => cases d0 <;> cases e
      | nil =>
        obtain ⟨v, r, rfl, w, e2⟩ := vw
        cases e2
        cases d0 with
        | obj c ns ds =>
          obtain ⟨a, dx, gs, rfl, okc, h1, _, e1, vws⟩ := w
          have e : (match owf fl with | false => lookF ns ds fl | true => none) = some d := e
          cases z : owf fl with
          | true => rw [z] at e; cases e
          | false =>
            rw [z] at e
            obtain ⟨x, l, _, rp, fm⟩ := vws.look e1 e
            exact ⟨a, _, dx, gs, x, rfl, h1, cf.cl c ns okc, cf.na c ns okc fl fm, l, q x F H .refl (rp z)⟩
        | _ => cases e) ok of h
end
end Ev
namespace Ev
open PySem PySem.Spec PyProof.Rows L2
/-- the slots at P are as they were -/
def Pin (P : List Nat) (σ σ' : L2.St) : Prop := σ'.length = σ.length ∧ ∀ i ∈ P, σ'[i]? = σ[i]?
theorem Pin.refl {P : List Nat} {σ : L2.St} : Pin P σ σ := ⟨rfl, fun _ _ => rfl⟩
theorem Pin.trans {P : List Nat} {σ σ' σ'' : L2.St} (h : Pin P σ σ') (g : Pin P σ' σ'') : Pin P σ σ'' := ⟨g.1.trans h.1, fun i m => (g.2 i m).trans (h.2 i m)⟩
theorem Pin.set {P : List Nat} {σ : L2.St} {i : Nat} {x : Option V} (h : P.contains i = false) : Pin P σ (σ.set i x) := ⟨by rw [List.length_set], fun j m => by
  have ne : i ≠ j := fun e => by subst e; rw [List.contains_iff_mem.mpr m] at h; cases h
  rw [List.getElem?_set_ne ne]⟩
section
variable (K : PySem.W.Frag) (ca : Ca) (P : List Nat) (ro : Bool) (W : WX)
def WantS (F : Addr → Prop) (H : Hp) (A : List Addr) (σ : L2.St) (Z : Ends) : R Fl → Prop
  | .ok .nx st' => ∀ σ' F' H' A', Rl K ca F' H' st' σ' A' → Step F H A F' H' A' → Pin P σ σ' → Z.nx σ' H'
  | .ok .bk st' => ∀ σ' F' H' A', Rl K ca F' H' st' σ' A' → Step F H A F' H' A' → Pin P σ σ' → Z.bk σ' H'
  | .ok .ct st' => ∀ σ' F' H' A', Rl K ca F' H' st' σ' A' → Step F H A F' H' A' → Pin P σ σ' → Z.ct σ' H'
  | .ok (.rt d) st' => (match ro with
    | false => ∀ v σ' F' H' A', Rl K ca F' H' st' σ' A' → Rep K ca F' H' d v → Step F H A F' H' A' → Pin P σ σ' → Z.rt v H'
    | true => ∀ v σ' F' H' A' B, Rl K ca F' H' st' σ' A' → Own K ca F' H' d v B → (B ++ A').Nodup → Step F H A F' H' (B ++ A') → Pin P σ σ' → Z.rt v H')
  | .exc c x st' => ∀ cls oe σ' F' H' A', Rl K ca F' H' st' σ' A' → ExcIs K ca F' H' c x cls oe → Step F H A F' H' A' → Pin P σ σ' → W cls oe σ' H'
  | .bad => False
def tS (s : S) : TS := fun Z σ H => ∃ F st A, Rl K ca F H st σ A ∧ WantS K ca P ro W F H A σ Z (s st)
end
def sNil : S := fun st => .ok .nx st
def sSeq (a b : S) : S := fun st => (a st).bind fun f st => match f with
  | .nx => b st
  | f => .ok f st
def sDrop (m : E) : S := fun st => (m st).bind fun _ st => .ok .nx st
def sRet (m : E) : S := fun st => (m st).bind fun d st => .ok (.rt d) st
def sRetN : S := fun st => .ok (.rt .non) st
def sBreak : S := fun st => .ok .bk st
def sCont : S := fun st => .ok .ct st
def sIf (c : B') (a b : S) : S := fun st => (c st).bind fun k st => match k with
  | true => a st
  | false => b st
/-- a slot stored -/
def setC (i : Nat) (c : Cell) (st : Sl) : R Fl := match st[i]? with
  | some _ => .ok .nx (st.set i c)
  | none => .bad
def sSet (i : Nat) (m : E) : S := fun st => (m st).bind fun d st => setC i (.f d) st
def sSetO (i : Nat) (m : E) : S := fun st => (m st).bind fun d st => setC i (.o d) st
section
variable {K : PySem.W.Frag} {ca : Ca} {P : List Nat} {ro : Bool} {W : WX} {F F1 : Addr → Prop} {H H1 : Hp} {A A1 : List Addr} {σ σ1 : L2.St} {Z : Ends}
theorem WantS.step {r : R Fl} (h : WantS K ca P ro W F H A σ Z r) (s : Step F H A F1 H1 A1) (p : Pin P σ σ1) : WantS K ca P ro W F1 H1 A1 σ1 Z r := by
  cases r with
  | bad => exact h
  | exc c x st => exact fun cls oe σ' F' H' A' r xi s2 p2 => h cls oe σ' F' H' A' r xi (s.trans s2) (p.trans p2)
  | ok f st =>
    cases f with
    | nx => exact fun σ' F' H' A' r s2 p2 => h σ' F' H' A' r (s.trans s2) (p.trans p2)
    | bk => exact fun σ' F' H' A' r s2 p2 => h σ' F' H' A' r (s.trans s2) (p.trans p2)
    | ct => exact fun σ' F' H' A' r s2 p2 => h σ' F' H' A' r (s.trans s2) (p.trans p2)
    | rt d =>
      cases ro with
      | false => exact fun v σ' F' H' A' r rp s2 p2 => h v σ' F' H' A' r rp (s.trans s2) (p.trans p2)
      | true => exact fun v σ' F' H' A' B r rp nd s2 p2 => h v σ' F' H' A' B r rp nd (s.trans s2) (p.trans p2)
theorem WantS.nx {st : Sl} (h : WantS K ca P ro W F H A σ Z (.ok .nx st)) (rl : Rl K ca F H st σ A) : Z.nx σ H := h σ F H A rl .refl .refl
/-- an expression ahead of a statement's rest -/
theorem tS_e {m : E} {k : D → S} {Q : VK} (h : ∃ F st A, Rl K ca F H st σ A ∧ WantS K ca P ro W F H A σ Z ((m st).bind fun d st => k d st))
    (q : ∀ d v F H st A, Rl K ca F H st σ A → Rep K ca F H d v → WantS K ca P ro W F H A σ Z (k d st) → Q v H) : tE K ca W m σ H Q := by
  obtain ⟨F, st, A, rl, h⟩ := h
  refine ⟨F, st, A, rl, ?_⟩
  cases z : m st with
  | bad => rw [z] at h; exact h
  | exc c x s => rw [z] at h; exact fun cls oe F' H' A' r xi s2 => h cls oe σ F' H' A' r xi s2 .refl
  | ok d st1 =>
    rw [z] at h
    exact fun v F' H' A' r rp s2 => q d v F' H' st1 A' r rp (h.step s2 .refl)
theorem tS_o {m : E} {k : D → S} {Q : VK} (h : ∃ F st A, Rl K ca F H st σ A ∧ WantS K ca P ro W F H A σ Z ((m st).bind fun d st => k d st))
    (q : ∀ d v F H st A B F0 H0 A0, Rl K ca F H st σ A → Own K ca F H d v B → (B ++ A).Nodup → Step F0 H0 A0 F H (B ++ A) → WantS K ca P ro W F0 H0 A0 σ Z (k d st) → Q v H) : tO K ca W m σ H Q := by
  obtain ⟨F, st, A, rl, h⟩ := h
  refine ⟨F, st, A, rl, ?_⟩
  cases z : m st with
  | bad => rw [z] at h; exact h
  | exc c x s => rw [z] at h; exact fun cls oe F' H' A' r xi s2 => h cls oe σ F' H' A' r xi s2 .refl
  | ok d st1 =>
    rw [z] at h
    exact fun v F' H' A' B r rp nd s2 => q d v F' H' st1 A' B F H A r rp nd s2 h
theorem tS_t {m : B'} {k : Bool → S} {Q : Bool → Hp → Prop} (h : ∃ F st A, Rl K ca F H st σ A ∧ WantS K ca P ro W F H A σ Z ((m st).bind fun d st => k d st))
    (q : ∀ b F H st A, Rl K ca F H st σ A → WantS K ca P ro W F H A σ Z (k b st) → Q b H) : tT K ca W m σ H Q := by
  obtain ⟨F, st, A, rl, h⟩ := h
  refine ⟨F, st, A, rl, ?_⟩
  cases z : m st with
  | bad => rw [z] at h; exact h
  | exc c x s => rw [z] at h; exact fun cls oe F' H' A' r xi s2 => h cls oe σ F' H' A' r xi s2 .refl
  | ok d st1 =>
    rw [z] at h
    exact fun F' H' A' r s2 => q d F' H' st1 A' r (h.step s2 .refl)
/-- a slot stored: frozen data -/
theorem setC_f {i : Nat} {d : D} {v : V} {st : Sl} (rl : Rl K ca F H st σ A) (rp : Rep K ca F H d v) (h : WantS K ca P ro W F H A σ Z (setC i (.f d) st)) (hp : P.contains i = false) : Z.nx (σ.set i (some v)) H := by
  unfold setC at h
  cases z : st[i]? with
  | none => rw [z] at h; exact h.elim
  | some c =>
    rw [z] at h
    obtain ⟨C, sub, r⟩ := rl.asg (i := i) (c := .f d) (v := v) (B := []) (List.getElem?_eq_some_iff.mp z).1 ⟨rfl, v, rfl, rp⟩ rl.nd
    exact h _ F H C r ⟨fun _ z => z, fun _ _ e _ => e, fun _ o e => ⟨o, e⟩, fun _ z => .inl z, fun a m => .inl (sub a m)⟩ (Pin.set hp)
theorem setC_o {i : Nat} {d : D} {v : V} {st : Sl} {B : List Addr} {F0 : Addr → Prop} {H0 : Hp} {A0 : List Addr} (rl : Rl K ca F H st σ A) (ow : Own K ca F H d v B) (nd : (B ++ A).Nodup) (s : Step F0 H0 A0 F H (B ++ A))
    (h : WantS K ca P ro W F0 H0 A0 σ Z (setC i (.o d) st)) (hp : P.contains i = false) : Z.nx (σ.set i (some v)) H := by
  unfold setC at h
  cases z : st[i]? with
  | none => rw [z] at h; exact h.elim
  | some c =>
    rw [z] at h
    obtain ⟨C, sub, r⟩ := rl.asg (i := i) (c := .o d) (v := v) (B := B) (List.getElem?_eq_some_iff.mp z).1 ⟨v, rfl, ow⟩ nd
    refine h _ F H (B ++ C) r ⟨s.fm, s.keep, s.dom, s.fnew, fun a m => ?_⟩ (Pin.set hp)
    rcases List.mem_append.mp m with m | m
    · exact s.anew a (List.mem_append_left _ m)
    · exact s.anew a (List.mem_append_right _ (sub a m))
end
section
variable {X : Cx} {ca : Ca} {P : List Nat} {ro : Bool} {W : WX} {e c : Expr} {st st' : Stmt} {rest : List Stmt} {as bs : List Stmt} {pos pos' : Pos} {m : E} {a b : S}
theorem ss_nil : PSs X [] (tS X.K ca P ro W sNil) := PSs.imp pss_nil fun Z σ H ⟨F, st, A, rl, h⟩ => h.nx rl
theorem ss_one (h : PS X st (tS X.K ca P ro W a)) : PSs X [st] (tS X.K ca P ro W a) := pss_one h
theorem ss_cons (h : PS X st (tS X.K ca P ro W a)) (h2 : PSs X rest (tS X.K ca P ro W b)) : PSs X (st :: rest) (tS X.K ca P ro W (sSeq a b)) := PSs.imp (pss_cons h h2) fun Z σ H ⟨F, st, A, rl, h⟩ => by
  refine ⟨F, st, A, rl, ?_⟩
  unfold sSeq at h
  cases z : a st with
  | bad => rw [z] at h; exact h
  | exc c x s => rw [z] at h; exact h
  | ok f st1 =>
    rw [z] at h
    cases f with
    | nx => exact fun σ' F' H' A' r s p => ⟨F', st1, A', r, WantS.step (r := b st1) h s p⟩
    | bk => exact h
    | ct => exact h
    | rt d => exact h
theorem ss_pass : PS X (.Pass pos) (tS X.K ca P ro W sNil) := PS.imp ps_pass fun Z σ H ⟨F, st, A, rl, h⟩ => h.nx rl
theorem ss_doc {x : Str} {j : Nat} : PS X (.Expr (.Constant (.str x) j pos) pos') (tS X.K ca P ro W sNil) := PS.imp ps_doc fun Z σ H ⟨F, st, A, rl, h⟩ => h.nx rl
theorem ss_break : PS X (.Break pos) (tS X.K ca P ro W sBreak) := PS.imp ps_break fun Z σ H ⟨F, st, A, rl, h⟩ => h σ F H A rl .refl .refl
theorem ss_cont : PS X (.Continue pos) (tS X.K ca P ro W sCont) := PS.imp ps_continue fun Z σ H ⟨F, st, A, rl, h⟩ => h σ F H A rl .refl .refl
theorem ss_drop (h : PE X e (tE X.K ca W m)) (hs : swapsWith e none pos.line X.env = pure false := by rfl) : PS X (.Expr e pos) (tS X.K ca P ro W (sDrop m)) := PS.imp (ps_expr h hs) fun Z σ H h =>
  tS_e (k := fun _ st => .ok .nx st) h fun d v F H st A r rp h => h.nx r
theorem ss_ret (h : PE X e (tE X.K ca W m)) : PS X (.Return (some e) pos) (tS X.K ca P false W (sRet m)) := PS.imp (ps_ret h) fun Z σ H h =>
  tS_e (k := fun d st => .ok (.rt d) st) h fun d v F H st A r rp h => h v σ F H A r rp .refl .refl
theorem ss_retO (h : PE X e (tO X.K ca W m)) : PS X (.Return (some e) pos) (tS X.K ca P true W (sRet m)) := PS.imp (ps_ret h) fun Z σ H h =>
  tS_o (k := fun d st => .ok (.rt d) st) h fun d v F H st A B F0 H0 A0 r ow nd s h => h v σ F H A B r ow nd s .refl
theorem ss_retN : PS X (.Return none pos) (tS X.K ca P false W sRetN) := PS.imp ps_retN fun Z σ H ⟨F, st, A, rl, h⟩ => h .non σ F H A rl (by unfold Rep; rfl) .refl .refl
theorem ss_if {k : B'} (hc : PT X c (tT X.K ca W k)) (ha : PSs X as (tS X.K ca P ro W a)) (hb : PSs X bs (tS X.K ca P ro W b)) : PS X (.If c as bs pos) (tS X.K ca P ro W (sIf k a b)) := PS.imp (ps_if hc ha hb) fun Z σ H h =>
  tS_t (k := fun k st => match k with | true => a st | false => b st) h fun k F H st A r h => by
    cases k with
    | true => exact ⟨F, st, A, r, h⟩
    | false => exact ⟨F, st, A, r, h⟩
theorem ss_set {i : Nat} {x : Str} (hN : X.N.Nodup) (hi : X.N[i]? = some x) (hx : Loc X.env.scope x) (h : PE X e (tE X.K ca W m)) (hp : P.contains i = false := by rfl) (hs : swapsWith e (some (.Name x pos')) pos.line X.env = pure false := by rfl)
    (hf : X.fn x = true ∨ X.env.scope.names.lookup x = some .local := by first | exact .inl rfl | exact .inr rfl | assumption) : PS X (.Assign [.Name x pos'] e pos) (tS X.K ca P ro W (sSet i m)) :=
  PS.imp (ps_set hN hi hx h hs hf) fun Z σ H h => tS_e (k := fun d st => setC i (.f d) st) h fun d v F H st A r rp h => setC_f r rp h hp
theorem ss_setO {i : Nat} {x : Str} (hN : X.N.Nodup) (hi : X.N[i]? = some x) (hx : Loc X.env.scope x) (h : PE X e (tO X.K ca W m)) (hp : P.contains i = false := by rfl) (hs : swapsWith e (some (.Name x pos')) pos.line X.env = pure false := by rfl)
    (hf : X.fn x = true ∨ X.env.scope.names.lookup x = some .local := by first | exact .inl rfl | exact .inr rfl | assumption) : PS X (.Assign [.Name x pos'] e pos) (tS X.K ca P ro W (sSetO i m)) :=
  PS.imp (ps_set hN hi hx h hs hf) fun Z σ H h => tS_o (k := fun d st => setC i (.o d) st) h fun d v F H st A B F0 H0 A0 r ow nd s h => setC_o r ow nd s h hp
end
end Ev
namespace Ev
open PySem PySem.Spec PyProof.Rows L2
abbrev Tg := D → Sl → Option Sl
def tgN (i : Nat) : Tg := fun d st => match st[i]? with
  | some _ => some (st.set i (.f d))
  | none => none
def tgs : List Tg → List D → Sl → Option Sl
  | [], [], st => some st
  | g :: gs, d :: ds, st => (g d st).bind fun st => tgs gs ds st
  | _, _, _ => none
def tgT (gs : List Tg) : Tg := fun d st => match d with
  | .tup ds => tgs gs ds st
  | .lst ds => tgs gs ds st
  | _ => none
/-- o.f of the object of slot i -/
def putN (f : Str) : List Str → List Str
  | [] => [f]
  | n :: ns => if n = f then n :: ns else n :: putN f ns
def putD (f : Str) (d : D) : List Str → List D → List D
  | n :: ns, e :: ds => if n = f then d :: ds else e :: putD f d ns ds
  | [], ds => ds ++ [d]
  | _ :: _, [] => []
def setFld (i : Nat) (f : Str) (d : D) (st : Sl) : Option Sl := match st[i]? with
  | some (.o (.obj c ns ds)) => (match decide (ns.length < 1000), owf f with
    | true, false => some (st.set i (.o (.obj c (putN f ns) (putD f d ns ds))))
    | _, _ => none)
  | _ => none
def tgF (i : Nat) (f : Str) : Tg := fun d st => setFld i f d st
section
variable (K : PySem.W.Frag) (ca : Ca) (P : List Nat)
/-- a target's reading: by what it makes of the slots -/
def tT' (g : Tg) : TG := fun v σ H Q => ∃ F st A d st', Rl K ca F H st σ A ∧ Rep K ca F H d v ∧ g d st = some st' ∧ ∀ σ' F' H' A', Rl K ca F' H' st' σ' A' → Step F H A F' H' A' → Pin P σ σ' → Q σ' H'
def tTs' (gs : List Tg) : TGs := fun vs σ H Q => ∃ F st A ds st', Rl K ca F H st σ A ∧ Reps K ca F H ds vs ∧ tgs gs ds st = some st' ∧ ∀ σ' F' H' A', Rl K ca F' H' st' σ' A' → Step F H A F' H' A' → Pin P σ σ' → Q σ' H'
end
theorem Step.sub {F : Addr → Prop} {H : Hp} {A C : List Addr} (sub : ∀ a ∈ C, a ∈ A) : Step F H A F H C := ⟨fun _ z => z, fun _ _ e _ => e, fun _ o e => ⟨o, e⟩, fun _ z => .inl z, fun a m => .inl (sub a m)⟩
theorem PGs.imp {X : Cx} {e : List Expr} {t t' : TGs} (h : PGs X e t) (i : ∀ v σ H Q, t' v σ H Q → t v σ H Q) : PGs X e t' := ⟨fun pins s σ H v u Q I r q => h.run pins s σ H v u Q I r (i v σ H Q q)⟩
theorem PG.or {X : Cx} {e : Expr} {t t' : TG} (h : PG X e t) (h' : PG X e t') : PG X e (fun v σ H Q => t v σ H Q ∨ t' v σ H Q) := ⟨fun pins s σ H v u Q I r q => q.elim (fun q => h.run pins s σ H v u Q I r q) fun q => h'.run pins s σ H v u Q I r q⟩
/-- a field stored: the object's own part -/
theorem RepIs.put {K : PySem.W.Frag} {ca : Ca} {F : Addr → Prop} {H : Hp} {f : Str} {d : D} {v : V} (hf : owf f = false) (rp : Rep K ca F H d v) : ∀ {ns : List Str} {ds : List D} {gs : List (Str × V)} {B : List Addr}, gs.map (·.1) = ns → RepIs K ca F H ns ds (gs.map (·.2)) B →
    (putF f v gs).map (·.1) = putN f ns ∧ RepIs K ca F H (putN f ns) (putD f d ns ds) ((putF f v gs).map (·.2)) B
  | [], ds, gs, B, e, h => by
    cases gs with
    | cons g gs => cases e
    | nil =>
      obtain ⟨rfl, _, rfl⟩ := h
      exact ⟨rfl, d, [], v, [], [], [], rfl, rfl, rfl, by rw [hf]; exact ⟨rfl, rp⟩, rfl, rfl, rfl⟩
  | n :: ns, ds, gs, B, e, h => by
    cases gs with
    | nil => cases e
    | cons g gs =>
      obtain ⟨g1, g2⟩ := g
      simp only [List.map_cons, List.cons.injEq] at e
      obtain ⟨rfl, e⟩ := e
      obtain ⟨d0, dr, v0, vr, B1, C, rfl, e2, rfl, h1, h2⟩ := h
      simp only [List.map_cons, List.cons.injEq] at e2
      obtain ⟨rfl, rfl⟩ := e2
      unfold putF putN putD
      by_cases q : g1 = f
      · rw [if_pos q, if_pos q, if_pos q]
        subst q
        rw [hf] at h1
        obtain ⟨rfl, _⟩ := h1
        exact ⟨by rw [List.map_cons, e], d, dr, v, _, [], C, rfl, rfl, rfl, by rw [hf]; exact ⟨rfl, rp⟩, h2⟩
      · rw [if_neg q, if_neg q, if_neg q]
        obtain ⟨e3, h3⟩ := RepIs.put hf rp e h2
        exact ⟨by rw [List.map_cons, e3], d0, _, g2, _, B1, C, rfl, rfl, rfl, h1, h3⟩
/-- a slot's own object changed in place -/
theorem Rl.mutate {K : PySem.W.Frag} {ca : Ca} {F : Addr → Prop} {H H' : Hp} {st : Sl} {σ : L2.St} {A : List Addr} {i : Nat} {d d' : D} {v : V} (rl : Rl K ca F H st σ A) (z : st[i]? = some (.o d)) (ev : σ[i]? = some (some v))
    (h : ∀ B, B.Nodup → Own K ca F H d v B → (∀ x o, x ∉ B → H x = some o → H' x = some o) → (∀ x o, H x = some o → ∃ o', H' x = some o') → Own K ca F H' d' v B)
    (k : ∀ B, Own K ca F H d v B → (∀ x o, x ∉ B → H x = some o → H' x = some o) ∧ (∀ x o, H x = some o → ∃ o', H' x = some o')) : Rl K ca F H' (st.set i (.o d')) σ A ∧ Step F H A F H' A := by
  obtain ⟨x, B, C, e1, ⟨v', e2, ow⟩, rl2, p⟩ := rl.take z
  rw [ev] at e1
  cases e1
  cases e2
  obtain ⟨k1, k2⟩ := k B ow
  have nd := p.nodup_iff.mp rl.nd
  have dj : ∀ x ∈ C, x ∉ B := fun x m m' => (List.nodup_append.mp nd).2.2 x m' x m rfl
  have hi : i < st.length := (List.getElem?_eq_some_iff.mp z).1
  have kF : ∀ a o, F a → H a = some o → H' a = some o := fun a o f e => k1 a o (fun m => (ow.nf a m).1 f) e
  have rl3 : Rl K ca F H' (st.set i .n) σ C := by
    obtain ⟨B2, q, e⟩ := rl2.rep
    refine ⟨⟨B2, q.stay (fun _ z => z) kF (fun a m o e' => k1 a o (dj a (e.mem_iff.mp m)) e') (fun a m => (rl2.nf a (e.mem_iff.mp m)).1), e⟩, rl2.nd, fun a m => ?_, fun a m => ⟨(rl2.nf a m).1, ?_⟩⟩
    · obtain ⟨o, e⟩ := rl2.fd a m; exact k2 a o e
    · obtain ⟨o, e⟩ := (rl2.nf a m).2; exact k2 a o e
  have rl4 := rl3.put (c := .o d') (x := some v) (B := B) (by simp [hi]) ev ⟨v, rfl, h B (List.nodup_append.mp nd).1 ow k1 k2⟩ nd
  rw [List.set_set] at rl4
  refine ⟨rl4.perm p.symm, ⟨fun _ z => z, fun a o e n => k1 a o (fun m => n (p.mem_iff.mpr (List.mem_append_left _ m))) e, k2, fun _ z => .inl z, fun a m => .inl m⟩⟩
theorem upd_mut {H : Hp} {a : Addr} {o u : HO} (h : H a = some u) : (∀ x w, x ≠ a → H x = some w → upd H a o x = some w) ∧ ∀ x w, H x = some w → ∃ w', upd H a o x = some w' :=
  ⟨fun x w n e => by rw [upd_ne n]; exact e, fun x w e => by
    by_cases q : x = a
    · subst q; exact ⟨o, upd_same⟩
    · exact ⟨w, by rw [upd_ne q]; exact e⟩⟩
section
variable {X : Cx} {ca : Ca} {P : List Nat} {ro : Bool} {W : WX} {e o : Expr} {es : List Expr} {pos pos' : Pos} {m : E} {g : Tg} {gs : List Tg} {i : Nat} {x f : Str}
theorem sg_name (hN : X.N.Nodup) (hi : X.N[i]? = some x) (hx : Loc X.env.scope x) (hp : P.contains i = false := by rfl) (hf : X.fn x = true ∨ X.env.scope.names.lookup x = some .local := by first | exact .inl rfl | exact .inr rfl | assumption) : PG X (.Name x pos) (tT' X.K ca P (tgN i)) :=
  PG.imp (pg_name hN hi hx hf) fun v σ H Q ⟨F, st, A, d, st', rl, rp, e, q⟩ => by
    unfold tgN at e
    cases z : st[i]? with
    | none => rw [z] at e; cases e
    | some c =>
      rw [z] at e
      cases e
      obtain ⟨C, sub, r⟩ := rl.asg (i := i) (c := .f d) (v := v) (B := []) (List.getElem?_eq_some_iff.mp z).1 ⟨rfl, v, rfl, rp⟩ rl.nd
      exact q _ F H C r (Step.sub sub) (Pin.set hp)
theorem sgs_nil : PGs X [] (tTs' X.K ca P []) := PGs.imp pgs_nil fun vs σ H Q ⟨F, st, A, ds, st', rl, rp, e, q⟩ => by
  cases ds with
  | cons d ds => cases e
  | nil =>
    cases e
    unfold Reps at rp
    exact ⟨rp, q σ F H A rl .refl .refl⟩
theorem sgs_cons (h : PG X e (tT' X.K ca P g)) (t : PGs X es (tTs' X.K ca P gs)) (hs : (assignEach (e :: es) X.env).map (·.2) = assign e X.env :: (assignEach es X.env).map (·.2) := by rfl) : PGs X (e :: es) (tTs' X.K ca P (g :: gs)) :=
  PGs.imp (pgs_cons h t hs) fun vs σ H Q ⟨F, st, A, ds, st', rl, rp, e, q⟩ => by
    cases ds with
    | nil => cases e
    | cons d ds =>
      obtain ⟨v, r, rfl, r1, r2⟩ := rp.inv
      obtain ⟨st1, e1, e2⟩ := Option.bind_eq_some_iff.mp (show (g d st).bind (fun st => tgs gs ds st) = some st' from e)
      exact ⟨v, r, rfl, F, st, A, d, st1, rl, r1, e1, fun σ1 F1 H1 A1 rl1 s1 p1 => ⟨F1, st1, A1, ds, st', rl1, r2.step s1 rl, e2, fun σ' F' H' A' rl' s p => q σ' F' H' A' rl' (s1.trans s) (p1.trans p)⟩⟩
theorem sg_tup (hc : X.calm = true) {k : Nat} (h : PGs X es (tTs' X.K ca P gs)) (hn : (assignEach es X.env).length = gs.length := by rfl) (hst : (assignEach es X.env).findIdx? (·.1) = none := by rfl) : PG X (.Tuple es k pos) (tT' X.K ca P (tgT gs)) :=
  PG.imp (PG.or (pg_tup hc h hn hst) (pg_lst hc h hn hst)) fun v σ H Q ⟨F, st, A, d, st', rl, rp, e, q⟩ => by
    have len : ∀ {gs : List Tg} {ds : List D} {st st' : Sl}, tgs gs ds st = some st' → ds.length = gs.length := by
      intro gs
      induction gs with
      | nil => intro ds st st' e; cases ds with | nil => rfl | cons _ _ => cases e
      | cons g gs ih =>
        intro ds st st' e
        cases ds with
        | nil => cases e
        | cons d ds =>
          obtain ⟨st1, _, e2⟩ := Option.bind_eq_some_iff.mp (show (g d st).bind (fun st => tgs gs ds st) = some st' from e)
          rw [List.length_cons, List.length_cons, ih e2]
    cases d with
    | tup ds =>
      unfold Rep at rp
      obtain ⟨a, vs, rfl, h1, r⟩ := rp
      exact .inl ⟨a, vs, rfl, h1.sq, by rw [r.length]; exact len e, F, st, A, ds, st', rl, r, e, q⟩
    | lst ds =>
      unfold Rep at rp
      obtain ⟨a, vs, rfl, h1, r⟩ := rp
      exact .inr ⟨a, vs, rfl, h1.sq, by rw [r.length]; exact len e, F, st, A, ds, st', rl, r, e, q⟩
    | _ => cases e
/-- target = e, e frozen -/
def sAsg (m : E) (g : Tg) : S := fun st => (m st).bind fun d st => match g d st with
  | some st => .ok .nx st
  | none => .bad
theorem ss_asg {tg : Expr} (he : PE X e (tE X.K ca W m)) (hg : PG X tg (tT' X.K ca P g)) (hs : swapsWithSole [tg] e pos.line X.env = pure false := by rfl) (hw : swappedStores [tg] e X.env = pure none := by rfl)
    (h1 : (assignEach [tg] X.env).map (·.2) = [assign tg X.env] := by rfl) : PS X (.Assign [tg] e pos) (tS X.K ca P ro W (sAsg m g)) := PS.imp (ps_asg he hg hs hw h1) fun Z σ H h =>
  tS_e (k := fun d st => match g d st with | some st => .ok .nx st | none => .bad) h fun d v F H st A r rp h => by
    cases z : g d st with
    | none => simp only [z] at h; exact h.elim
    | some st' =>
      simp only [z] at h
      exact ⟨F, st, A, d, st', r, rp, z, fun σ' F' H' A' rl' s p => h σ' F' H' A' rl' s p⟩
variable (cf : Cf X.K ca) (hok : ∀ c ns, ca.ok c ns → ca.ok c (putN f ns))
include cf hok in
/-- what a store to a field does -/
theorem fld_step {F : Addr → Prop} {H : Hp} {st st' : Sl} {σ : L2.St} {A : List Addr} {d : D} {v : V} (rl : Rl X.K ca F H st σ A) (rp : Rep X.K ca F H d v) (e : setFld i f d st = some st') :
    ∃ a dx gs c, σ[i]? = some (some (.ref a)) ∧ H a = some (.ins (ca.a c) dx gs) ∧ Cls X.K (ca.a c) ∧ NoAttr X.K (ca.a c) f ∧ gs.length < 1000 ∧ Rl X.K ca F (upd H a (.ins (ca.a c) dx (putF f v gs))) st' σ A ∧ Step F H A F (upd H a (.ins (ca.a c) dx (putF f v gs))) A := by
  unfold setFld at e
  cases z : st[i]? with
  | none => rw [z] at e; cases e
  | some c0 =>
    rw [z] at e
    cases c0 with
    | n => cases e
    | f _ => cases e
    | o d0 =>
      cases d0 with
      | obj c ns ds =>
        cases zl : decide (ns.length < 1000) with
        | false => simp only [zl] at e; cases e
        | true =>
          cases zo : owf f with
          | true => simp only [zl, zo] at e; cases e
          | false =>
            simp only [zl, zo] at e
            cases e
            obtain ⟨x, B, C, e1, ⟨v0, rfl, ow⟩, _, _⟩ := rl.take z
            obtain ⟨a, dx, gs, B0, rfl, okc, e2, n1, n2, h1, h2, e3, r⟩ := id ow
            have hf : f ∈ putN f ns := by
              clear zl ow e3 r okc z
              induction ns with
              | nil => exact List.mem_cons_self
              | cons n ns ih =>
                unfold putN
                by_cases q : n = f
                · rw [if_pos q, q]; exact List.mem_cons_self
                · rw [if_neg q]; exact List.mem_cons_of_mem _ ih
            have hl : gs.length < 1000 := by
              have : gs.length = ns.length := by rw [← e3, List.length_map]
              rw [this]
              exact of_decide_eq_true zl
            obtain ⟨u1, u2⟩ := upd_mut (o := .ins (ca.a c) dx (putF f v gs)) h1
            have key := rl.mutate (H' := upd H a (.ins (ca.a c) dx (putF f v gs))) (d' := .obj c (putN f ns) (putD f d ns ds)) z e1 (fun B' nda ow' k1 k2 => by
              obtain ⟨a', dx', gs', B0', e4, okc', rfl, n1', n2', h1', h2', e3', r'⟩ := ow'
              cases e4
              rw [h1] at h1'
              cases h1'
              have rp' : Rep X.K ca F (upd H a (.ins (ca.a c) dx (putF f v gs))) d v := Rep.mono (fun _ z => z) (fun b o fb eb => by
                have ne : b ≠ a := fun q => n1 (q ▸ fb)
                exact u1 b o ne eb) d v rp
              have r2 : RepIs X.K ca F (upd H a (.ins (ca.a c) dx (putF f v gs))) ns ds (gs.map (·.2)) B0' := r'.stay (fun _ z => z) (fun b o fb eb => u1 b o (fun q => n1 (q ▸ fb)) eb) (fun b mb o eb => u1 b o (fun q => (List.nodup_cons.mp nda).1 (q ▸ List.mem_cons_of_mem _ mb)) eb) (fun b mb => (r'.nf b mb).1)
              obtain ⟨e7, r3⟩ := RepIs.put zo rp' e3 r2
              exact ⟨a, dx, _, B0', rfl, hok c ns okc, rfl, n1', n2', upd_same, by rw [upd_ne (ne_of h2 h1 (fun q => by cases q))]; exact h2, e7, r3⟩) (fun B' ow' => by
              obtain ⟨a', dx', gs', B0', e4, okc', rfl, n1', n2', h1', h2', e3', r'⟩ := ow'
              cases e4
              exact ⟨fun y w ny ey => u1 y w (fun q => ny (q ▸ List.mem_cons_self)) ey, u2⟩)
            exact ⟨a, dx, gs, c, e1, h1, cf.cl c ns okc, cf.na c _ (hok c ns okc) f hf, hl, key.1, key.2⟩
      | _ => cases e
include cf hok in
theorem ss_fld (ho : PE X o (tVar i)) (hv : PE X e (tE X.K ca W m)) (hs : swapsWith e (some (.Attribute o f pos')) pos.line X.env = pure false := by rfl) : PS X (.Assign [.Attribute o f pos'] e pos) (tS X.K ca P ro W (sAsg m (tgF i f))) :=
  PS.imp (ps_fld ho hv hs) fun Z σ H h => tS_e (k := fun d st => match tgF i f d st with | some st => .ok .nx st | none => .bad) h fun d v F H st A r rp h => by
    cases z : tgF i f d st with
    | none => simp only [z] at h; exact h.elim
    | some st' =>
      simp only [z] at h
      obtain ⟨a, dx, gs, c, e1, h1, cl, na, l, rl2, s⟩ := fld_step cf hok r rp z
      exact ⟨_, e1, a, _, dx, gs, rfl, h1, cl, na, l, h σ F _ A rl2 s .refl⟩
/-- a field as a target -/
theorem pg_fldR {ta : TE} (ha : PE X o ta) : PG X (.Attribute o f pos) (fun v σ H Q => ta σ H fun x H2 => ∃ a C dx fs, x = .ref a ∧ H2 a = some (.ins C dx fs) ∧ Cls X.K C ∧ NoAttr X.K C f ∧ fs.length < 1000 ∧ Q σ (upd H2 a (.ins C dx (putF f v fs)))) := by
  refine ⟨fun pins s σ H v u Q I r h => ?_⟩
  show wpAny _ _ (do
    let ov ← holding [u] (eval o X.env)
    standAt pos.atName
    holding [u, ov] (setAttr ov f u)
    release [u, ov] []) _ _ _
  refine wpAny_bind (wpAny_holding (thn (ha.run pins s σ H _ I h) fun ov s1 ⟨x, H1, I1, rx, a, C, dx, fs, ex, ea, c, n, l, q⟩ => ?_))
  subst ex
  obtain rfl : ov = Value.ref a := rx
  refine wpAny_bind (wpAny_standAt (wpAny_bind (wpAny_holding (setattr_ok I1 ea c n l r fun s3 I3 => ?_))))
  exact wpAny_release ⟨σ, _, I3, q⟩
include cf hok in
theorem sg_fld (ho : PE X o (tVar i)) : PG X (.Attribute o f pos) (tT' X.K ca P (tgF i f)) := PG.imp (pg_fldR ho) fun v σ H Q ⟨F, st, A, d, st', rl, rp, e, q⟩ => by
  obtain ⟨a, dx, gs, c, e1, h1, cl, na, l, rl2, s⟩ := fld_step cf hok rl rp e
  exact ⟨_, e1, a, _, dx, gs, rfl, h1, cl, na, l, q σ F _ A rl2 s .refl⟩
/-- o.f += j -/
def sInc (i : Nat) (f : Str) (j : Int) : S := fun st => match rd i st with
  | some (.obj _ ns ds) => (match lookF ns ds f with
    | some (.int k) => (match setFld i f (.int (k + j)) st with
      | some st => .ok .nx st
      | none => .bad)
    | _ => .bad)
  | _ => .bad
include cf hok in
theorem ss_inc {j : Int} {n : Nat} {p2 : Pos} (ho : PE X o (tVar i)) : PS X (.AugAssign (.Attribute o f pos') .Add (.Constant (.int j) n p2) pos) (tS X.K ca P ro W (sInc i f j)) :=
  PS.imp (ps_fldaug ho pe_int in_add) fun Z σ H ⟨F, st, A, rl, h⟩ => by
    unfold sInc at h
    cases z : rd i st with
    | none => rw [z] at h; exact h.elim
    | some d0 =>
      rw [z] at h
      cases d0 with
      | obj c0 ns ds =>
        cases z2 : lookF ns ds f with
        | none => simp only [z2] at h; exact h.elim
        | some d =>
          simp only [z2] at h
          cases d with
          | int k =>
            cases z3 : setFld i f (.int (k + j)) st with
            | none => simp only [z3] at h; exact h.elim
            | some st' =>
              simp only [z3] at h
              obtain ⟨a, dx, gs, c, e1, h1, cl, na, l, rl2, s⟩ := fld_step (v := .int (k + j)) cf hok rl (by unfold Rep; rfl) z3
              obtain ⟨v, e2, w⟩ := rl.rd z
              rw [e1] at e2
              cases e2
              obtain ⟨a', dx', gs', e3, okc, h1', _, e4, vws⟩ := w
              cases e3
              rw [h1] at h1'
              injection h1' with h1'
              injection h1' with q1 q2 q3
              subst q2 q3
              obtain ⟨x, lk, vw, _, _⟩ := vws.look e4 z2
              have ex : x = .int k := by
                rcases vw with r | ⟨_, _, _, e, _⟩
                · unfold Rep at r; exact r
                · cases e
              subst ex
              exact ⟨_, e1, a, _, dx, gs, .int k, rfl, h1, cl, na, lk, k, j, rfl, rfl, dx, gs, h1, l, h σ F _ A rl2 s .refl⟩
          | _ => exact h.elim
      | _ => exact h.elim
end
end Ev
namespace Ev
open PySem PySem.Spec PyProof.Rows L2
/-- x.m(..), x a list of the slot i: what it gives, what it leaves -/
def eMut (g : List D → List D → Option (D × List D)) (i : Nat) (ms : List E) : E := fun st => match st[i]? with
  | some (.o (.lst _)) => (evAll ms st).bind fun as st => (match st[i]? with
    | some (.o (.lst ds)) => (match g ds as with
      | some (d, ds') => .ok d (st.set i (.o (.lst ds')))
      | none => .bad)
    | _ => .bad)
  | _ => .bad
def MutOk (K : PySem.W.Frag) (ca : Ca) (g : List D → List D → Option (D × List D)) (r : V → List V → Hp → VK → Prop) : Prop :=
  ∀ (F : Addr → Prop) (H : Hp) (a : Addr) (vs : List V) (ds as : List D) (xs : List V) (d : D) (ds' : List D) (Q : VK), H a = some (.lst vs) → Reps K ca F H ds vs → Reps K ca F H as xs → g ds as = some (d, ds') →
    (∀ v vs', Rep K ca F H d v → Reps K ca F H ds' vs' → Q v (upd H a (.lst vs'))) → r (.ref a) xs H Q
section
variable {K : PySem.W.Frag} {ca : Ca} {W : WX} {F : Addr → Prop} {H : Hp} {A : List Addr} {σ : L2.St} {st : Sl} {i : Nat}
/-- a list of the slot i becomes another -/
theorem lst_step {ds ds' : List D} {vs vs' : List V} {a : Addr} (rl : Rl K ca F H st σ A) (z : st[i]? = some (.o (.lst ds))) (ev : σ[i]? = some (some (.ref a))) (ha : H a = some (.lst vs)) (r : Reps K ca F H ds' vs') :
    Rl K ca F (upd H a (.lst vs')) (st.set i (.o (.lst ds'))) σ A ∧ Step F H A F (upd H a (.lst vs')) A ∧ ∀ d v, Rep K ca F H d v → Rep K ca F (upd H a (.lst vs')) d v := by
  obtain ⟨u1, u2⟩ := upd_mut (o := .lst vs') ha
  have na : ¬ F a := by
    obtain ⟨x, B, C, e1, ⟨v0, rfl, ow⟩, _, _⟩ := rl.take z
    rw [ev] at e1
    cases e1
    obtain ⟨a', vs0, e, rfl, n, _⟩ := ow
    cases e
    exact n
  have kp : ∀ b o, F b → H b = some o → upd H a (.lst vs') b = some o := fun b o fb eb => u1 b o (fun q => na (q ▸ fb)) eb
  have key := rl.mutate (H' := upd H a (.lst vs')) (d' := .lst ds') z ev (fun B _ ow k1 k2 => by
    obtain ⟨a', vs0, e, rfl, n, h0, _⟩ := ow
    cases e
    exact ⟨a, vs', rfl, rfl, n, upd_same, Reps.mono (fun _ z => z) kp _ _ r⟩) (fun B ow => by
    obtain ⟨a', vs0, e, rfl, n, h0, _⟩ := ow
    cases e
    exact ⟨fun y w ny ey => u1 y w (fun q => ny (q ▸ List.mem_cons_self)) ey, u2⟩)
  exact ⟨key.1, key.2, fun d v rp => Rep.mono (fun _ z => z) kp d v rp⟩
theorem own_lst (rl : Rl K ca F H st σ A) {ds : List D} (z : st[i]? = some (.o (.lst ds))) : ∃ a vs, σ[i]? = some (some (.ref a)) ∧ H a = some (.lst vs) ∧ Reps K ca F H ds vs := by
  obtain ⟨x, B, C, e1, ⟨v0, rfl, a, vs, rfl, _, _, h, r⟩, _, _⟩ := rl.take z
  exact ⟨a, vs, e1, h, r⟩
theorem mut_run {g : List D → List D → Option (D × List D)} {r : V → List V → Hp → VK → Prop} {ms : List E} {Q : VK} (hk : MutOk K ca g r) (h : tE K ca W (eMut g i ms) σ H Q) :
    tVar i σ H fun x H1 => tyV K "list" x H1 ∧ tA K ca W ms σ H1 fun xs H2 => r x xs H2 Q := by
  obtain ⟨F, st, A, rl, q⟩ := tE_iff.mp h
  unfold eMut at q
  cases z : st[i]? with
  | none => rw [z] at q; exact q.elim
  | some c =>
    rw [z] at q
    cases c with
    | n => exact q.elim
    | f _ => exact q.elim
    | o d =>
      cases d with
      | lst ds0 =>
        obtain ⟨a, vs, e1, ha, r0⟩ := own_lst rl z
        refine ⟨.ref a, e1, .inl ⟨rfl, vs, .of ha⟩, F, st, A, rl, ?_⟩
        cases z2 : evAll ms st with
        | bad => simp only [z2, R.bind] at q; exact q
        | exc c x s => simp only [z2, R.bind] at q; exact q
        | ok as st1 =>
          simp only [z2, R.bind] at q
          intro xs F1 H1 A1 rl1 rx s1
          cases z3 : st1[i]? with
          | none => rw [z3] at q; exact q.elim
          | some c =>
            rw [z3] at q
            cases c with
            | n => exact q.elim
            | f _ => exact q.elim
            | o d =>
              cases d with
              | lst ds =>
                obtain ⟨a', vs1, e1', ha1, r1⟩ := own_lst rl1 z3
                rw [e1] at e1'
                cases e1'
                cases z4 : g ds as with
                | none => simp only [z4] at q; exact q.elim
                | some p =>
                  obtain ⟨d, ds'⟩ := p
                  simp only [z4] at q
                  refine hk F1 H1 a vs1 ds as xs d ds' Q ha1 r1 rx z4 fun v vs' rv rv' => ?_
                  obtain ⟨k1, k2, k3⟩ := lst_step rl1 z3 e1 ha1 rv'
                  exact q v F1 _ A1 k1 (k3 d v rv) (s1.trans k2)
              | _ => exact q.elim
      | _ => exact q.elim
end
/-- the methods -/
def gAppend : List D → List D → Option (D × List D) := fun ds as => match as with
  | [d] => if ds.length < sizeLine then some (.non, ds ++ [d]) else none
  | _ => none
def gExtend : List D → List D → Option (D × List D) := fun ds as => match as with
  | [.lst es] => if ds.length + es.length ≤ sizeLine then some (.non, ds ++ es) else none
  | _ => none
def gPop : List D → List D → Option (D × List D) := fun ds as => match as, ds[ds.length - 1]? with
  | [], some d => some (d, ds.dropLast)
  | _, _ => none
def gPopAt : List D → List D → Option (D × List D) := fun ds as => match as with
  | [.int i] => if 0 ≤ i ∧ i < 2 ^ 62 then (match ds[i.toNat]? with
    | some d => some (d, ds.eraseIdx i.toNat)
    | none => none) else none
  | _ => none
section
variable {K : PySem.W.Frag} {ca : Ca} {F : Addr → Prop} {H : Hp}
theorem non_rep : Rep K ca F H .non .non := by unfold Rep; rfl
theorem Reps.eraseIdx : ∀ {ds : List D} {vs : List V} (i : Nat), Reps K ca F H ds vs → Reps K ca F H (ds.eraseIdx i) (vs.eraseIdx i)
  | [], vs, i, h => by unfold Reps at h; subst h; exact .nil
  | d :: ds, vs, 0, h => by obtain ⟨v, r, rfl, _, h⟩ := h.inv; exact h
  | d :: ds, vs, i + 1, h => by obtain ⟨v, r, rfl, h1, h⟩ := h.inv; exact .cons h1 (h.eraseIdx i)
theorem Reps.dropLast : ∀ {ds : List D} {vs : List V}, Reps K ca F H ds vs → Reps K ca F H ds.dropLast vs.dropLast := fun {ds vs} h => by
  rw [List.dropLast_eq_take, List.dropLast_eq_take, h.length]; exact h.take _
theorem mo_append : MutOk K ca gAppend rAppend := fun F H a vs ds as xs d ds' Q ha r rx e q => by
  unfold gAppend at e
  split at e
  · rename_i d0
    split at e
    · rename_i l
      cases e
      obtain ⟨v, r1, rfl, h1, h2⟩ := rx.inv
      unfold Reps at h2
      subst h2
      exact ⟨a, vs, v, rfl, rfl, ha, by rw [r.length]; exact l, q .non _ non_rep (r.append (.cons h1 .nil))⟩
    · cases e
  · cases e
theorem mo_extend : MutOk K ca gExtend rExtend := fun F H a vs ds as xs d ds' Q ha r rx e q => by
  unfold gExtend at e
  split at e
  · rename_i es
    split at e
    · rename_i l
      cases e
      obtain ⟨v, r1, rfl, h1, h2⟩ := rx.inv
      unfold Reps at h2
      subst h2
      unfold Rep at h1
      obtain ⟨b, ws, rfl, ⟨_, hb⟩, rs⟩ := h1
      exact ⟨a, b, vs, ws, rfl, rfl, ha, hb, by rw [r.length, rs.length]; exact l, q .non _ non_rep (r.append rs)⟩
    · cases e
  · cases e
theorem mo_pop : MutOk K ca gPop rPop := fun F H a vs ds as xs d ds' Q ha r rx e q => by
  unfold gPop at e
  split at e
  · rename_i d0 z
    cases e
    unfold Reps at rx
    subst rx
    obtain ⟨v, hv, rv⟩ := r.get z
    exact ⟨a, vs, v, rfl, rfl, ha, by rw [r.length]; exact hv, q v _ rv r.dropLast⟩
  · cases e
theorem mo_popAt : MutOk K ca gPopAt rPopAt := fun F H a vs ds as xs d ds' Q ha r rx e q => by
  unfold gPopAt at e
  split at e
  · rename_i i
    split at e
    · rename_i l
      split at e
      · rename_i d0 z
        cases e
        obtain ⟨v, r1, rfl, h1, h2⟩ := rx.inv
        unfold Reps at h2
        subst h2
        unfold Rep at h1
        subst h1
        obtain ⟨w, hw, rw'⟩ := r.get z
        have hlt : i.toNat < vs.length := (List.getElem?_eq_some_iff.mp hw).1
        refine ⟨a, vs, i, i.toNat, w, rfl, rfl, ha, by omega, by omega, ?_, hw, q w _ rw' (r.eraseIdx _)⟩
        have hj : ¬ i < 0 := by omega
        have hb : (decide (0 ≤ i) && decide (i < (vs.length : Int))) = true := by
          rw [Bool.and_eq_true]; exact ⟨decide_eq_true l.1, decide_eq_true (by omega)⟩
        show (if (decide (0 ≤ (if i < 0 then i + (vs.length : Int) else i)) && decide ((if i < 0 then i + (vs.length : Int) else i) < (vs.length : Int))) = true then some (if i < 0 then i + (vs.length : Int) else i).toNat else none) = some i.toNat
        rw [if_neg hj, if_pos hb]
      · cases e
    · cases e
  · cases e
end
section
variable {X : Cx} {ca : Ca} {P : List Nat} {ro : Bool} {W : WX} {e o ix : Expr} {es : List Expr} {pos apos cpos : Pos} {m mk : E} {ms : List E} {i : Nat} {name : Str} {id : String} {g : List D → List D → Option (D × List D)} {r : V → List V → Hp → VK → Prop}
theorem se_mut0 (slot : Slot "list" name id) (hty : typeOf (.builtin id) = pure (.type "method_descriptor")) (hm : MtR X id r) (hk : MutOk X.K ca g r) (ho : PE X o (tVar i))
    (hbase : attributeBase o name X.env (eval o X.env) = eval o X.env := by rfl) (hline : (apos.endLine == cpos.line) = true := by rfl) : PE X (.Call (.Attribute o name apos) [] [] cpos) (tE X.K ca W (eMut g i [])) :=
  PE.imp (pe_bm0 PySem.F.plainAttrs_list slot hty hm ho hbase hline) fun σ H Q h => by
    obtain ⟨v, e, ty, F, st, A, rl, q⟩ := mut_run hk h
    exact ⟨v, e, ty, q [] F H A rl .nil .refl⟩
theorem se_mut (slot : Slot "list" name id) (hty : typeOf (.builtin id) = pure (.type "method_descriptor")) (hm : MtR X id r) (hk : MutOk X.K ca g r) (ho : PE X o (tVar i)) (ha : PA X (e :: es) (tA X.K ca W ms))
    (hbase : attributeBase o name X.env (eval o X.env) = eval o X.env := by rfl)
    (hfew : ((backTo cpos (starEach (e :: es) X.env)).all (fun x => !x.1) && (backToKw cpos (keywordEach [] X.env)).all (fun x => x.1.isSome)
      && decide ((e :: es).length + ([] : List Keyword).length + (if ([] : List Keyword).isEmpty then 0 else 1) < 30)) = true := by rfl)
    (hline : (apos.endLine == cpos.line) = true := by rfl) (hs : starEach (e :: es) X.env = (false, eval e X.env) :: starEach es X.env := by rfl) (hplain : (backTo cpos (starEach es X.env)).any (·.1) = false := by rfl) :
    PE X (.Call (.Attribute o name apos) (e :: es) [] cpos) (tE X.K ca W (eMut g i ms)) := PE.imp (pe_bm PySem.F.plainAttrs_list slot hty hm ho ha hbase hfew hline hs hplain) fun σ H Q h => mut_run hk h
/-- x[k] = e, x a list of the slot i -/
def sItem (i : Nat) (m mk : E) : S := fun st => (m st).bind fun d st => match st[i]? with
  | some (.o (.lst _)) => (mk st).bind fun k st => (match st[i]?, k with
    | some (.o (.lst ds)), .int j => if 0 ≤ j ∧ j < ds.length then .ok .nx (st.set i (.o (.lst (ds.set j.toNat d)))) else .bad
    | _, _ => .bad)
  | _ => .bad
theorem ss_item {p2 : Pos} (hv : PE X e (tE X.K ca W m)) (ho : PE X o (tVar i)) (hi : PE X ix (tE X.K ca W mk))
    (ha : ∀ v, assign (.Subscript o ix pos) X.env v = (do
      let ov ← holding [v] (eval o X.env)
      let iv ← holding [v, ov] (eval ix X.env)
      standAt pos
      holding [v, ov, iv] (setItem ov iv v)
      release [v, ov, iv] []) := by intro _; rfl)
    (hs : swapsWithSole [.Subscript o ix pos] e p2.line X.env = pure false := by rfl) (hw : swappedStores [.Subscript o ix pos] e X.env = pure none := by rfl)
    (h1 : (assignEach [.Subscript o ix pos] X.env).map (·.2) = [assign (.Subscript o ix pos) X.env] := by rfl) :
    PS X (.Assign [.Subscript o ix pos] e p2) (tS X.K ca P ro W (sItem i m mk)) := PS.imp (ps_asg hv (pg_sub ho hi set_list ha) hs hw h1) fun Z σ H h => by
  refine tS_e (k := fun d st => match st[i]? with
  | some (.o (.lst _)) => (mk st).bind fun k st => (match st[i]?, k with
    | some (.o (.lst ds)), .int j => if 0 ≤ j ∧ j < ds.length then .ok .nx (st.set i (.o (.lst (ds.set j.toNat d)))) else .bad
    | _, _ => .bad)
  | _ => .bad) h fun d v F0 H0 st0 A0 rl0 rd h => ?_
  cases z : st0[i]? with
  | none => rw [z] at h; exact h.elim
  | some c =>
    cases c with
    | n => rw [z] at h; exact h.elim
    | f _ => rw [z] at h; exact h.elim
    | o d0 =>
      cases d0 with
      | lst ds0 =>
        obtain ⟨a, vs, e1, ha, r0⟩ := own_lst rl0 z
        simp only [z] at h
        refine ⟨.ref a, e1, F0, st0, A0, rl0, ?_⟩
        cases z1 : mk st0 with
        | bad => simp only [z1, R.bind] at h; exact h
        | exc c x s => simp only [z1, R.bind] at h; exact fun cls oe F' H' A' r xi s2 => h cls oe σ F' H' A' r xi s2 .refl
        | ok k st1 =>
          simp only [z1, R.bind] at h
          intro w F1 H1 A1 rl1 rw1 s1
          cases z2 : st1[i]? with
          | none => rw [z2] at h; exact h.elim
          | some c =>
            cases c with
            | n => rw [z2] at h; exact h.elim
            | f _ => rw [z2] at h; exact h.elim
            | o d1 =>
              cases d1 with
              | lst ds =>
                obtain ⟨a', vs1, e1', ha1, r1⟩ := own_lst rl1 z2
                rw [e1] at e1'
                cases e1'
                cases k with
                | int j =>
                  unfold Rep at rw1
                  subst rw1
                  simp only [z2] at h
                  by_cases hj : 0 ≤ j ∧ j < ds.length
                  · rw [if_pos hj] at h
                    obtain ⟨k1, k2, _⟩ := lst_step rl1 z2 e1 ha1 (r1.set j.toNat (rd.step s1 rl0))
                    refine ⟨a, vs1, j, j.toNat, rfl, rfl, ha1, ?_, h σ F1 _ A1 k1 (s1.trans k2) .refl⟩
                    unfold ixN
                    rw [if_pos hj.1, if_pos (by rw [r1.length]; exact hj.2)]
                  · rw [if_neg hj] at h; exact h.elim
                | _ => simp only [z2] at h; exact h.elim
              | _ => rw [z2] at h; exact h.elim
      | _ => rw [z] at h; exact h.elim
end
end Ev
namespace Ev
open PySem PySem.Spec PyProof.Rows L2
/-- the iterator J yields the items, where what is frozen in F0, H0 (and the addresses at B) stays -/
def ItOk (K : PySem.W.Frag) (ca : Ca) (J : It) (F0 : Addr → Prop) (H0 : Hp) (B : List Addr) (items : List D) : Prop :=
  ∀ (F : Addr → Prop) (H : Hp), (∀ a, F0 a → F a) → (∀ a o, F0 a ∨ a ∈ B → H0 a = some o → H a = some o) → ∀ i : Nat,
    (items.length ≤ i → J.stop i H) ∧ ∀ d, items[i]? = some d → J.go i H ∧ ∀ x H', J.yld i H x H' → ∃ F', Al F H F' H' ∧ Rep K ca F' H' d x
abbrev IE := Sl → R (List D)
section
variable (K : PySem.W.Frag) (ca : Ca) (W : WX)
def tI (it : IE) : TI := fun σ H Rr => ∃ F st A, Rl K ca F H st σ A ∧ match it st with
  | .ok items st' => ∀ J F' H' A', Rl K ca F' H' st' σ A' → ItOk K ca J F' H' [] items → Step F H A F' H' A' → Rr J H'
  | .exc c x st' => XcW K ca W F H A σ c x st'
  | .bad => False
end
theorem PI.or {X : Cx} {tg e : Expr} {t t' : TI} (h : PI X tg e t) (h' : PI X tg e t') : PI X tg e (fun σ H Rr => t σ H Rr ∨ t' σ H Rr) := ⟨fun pins s σ H Rr I q => q.elim (fun q => h.run pins s σ H Rr I q) fun q => h'.run pins s σ H Rr I q⟩
def itE (m : E) : IE := fun st => (m st).bind fun d st => match d with
  | .lst ds => .ok ds st
  | .tup ds => .ok ds st
  | .scr ns => .ok (ns.map .int) st
  | .str x => .ok (x.cps.toList.map fun c => .str ⟨#[c]⟩) st
  | _ => .bad
def rangeD (lo : Int) (n : Nat) : List D := (List.range n).map fun i : Nat => .int (lo + (i : Int))
def inR (j : Int) : Bool := decide (-(2 ^ 62) ≤ j) && decide (j < 2 ^ 62)
def itR1 (m : E) : IE := fun st => (m st).bind fun d st => match d with
  | .int j => (match inR j with
    | true => .ok (rangeD 0 j.toNat) st
    | false => .bad)
  | _ => .bad
def kR2 (d e : D) : IE := fun st => match d, e with
  | .int i, .int j => (match inR i && inR j with
    | true => .ok (rangeD i (j - i).toNat) st
    | false => .bad)
  | _, _ => .bad
def itR2 (m n : E) : IE := fun st => (m st).bind fun d st => (n st).bind fun e st => kR2 d e st
def enumD (ds : List D) : List D := ds.mapIdx fun i d => .tup [.int (i : Nat), d]
def itEn (m : E) : IE := fun st => (m st).bind fun d st => match d with
  | .lst ds => .ok (enumD ds) st
  | _ => .bad
def kZip (d e : D) : IE := fun st => match d, e with
  | .lst ds, .lst es => .ok (List.zipWith (fun a b => .tup [a, b]) ds es) st
  | .tup ds, .tup es => .ok (List.zipWith (fun a b => .tup [a, b]) ds es) st
  | _, _ => .bad
def itZip (m n : E) : IE := fun st => (evAll [m, n] st).bind fun ds st => match ds with
  | [d, e] => kZip d e st
  | _ => .bad
def itRv1 (m : E) : IE := fun st => (m st).bind fun d st => match d with
  | .int j => (match inR j with
    | true => .ok (rangeD 0 j.toNat).reverse st
    | false => .bad)
  | _ => .bad
section
variable {K : PySem.W.Frag} {ca : Ca} {F : Addr → Prop} {H : Hp} {B : List Addr}
theorem Reps.geti {ds : List D} {vs : List V} {i : Nat} {d : D} {v : V} (h : Reps K ca F H ds vs) (e : ds[i]? = some d) (e2 : vs[i]? = some v) : Rep K ca F H d v := by
  obtain ⟨v', e', r⟩ := h.get e
  rw [e2] at e'
  cases e'
  exact r
theorem itl_ok {a : Addr} {ds : List D} {vs : List V} (ha : H a = some (.lst vs)) (fa : F a ∨ a ∈ B) (r : Reps K ca F H ds vs) : ItOk K ca (Itl K a) F H B ds := fun F1 H1 f k i => by
  have h1 : SqL K H1 a vs := .of (k a _ fa ha)
  have r1 : Reps K ca F1 H1 ds vs := Reps.mono f (fun a o fa e => k a o (.inl fa) e) _ _ r
  refine ⟨fun l => ⟨vs, h1, by rw [r.length]; exact l⟩, fun d e => ?_⟩
  obtain ⟨v, e2, _⟩ := r1.get e
  refine ⟨⟨vs, v, h1, e2⟩, fun x H' ⟨eh, q⟩ => ?_⟩
  subst eh
  exact ⟨F1, .refl, r1.geti e (q vs h1)⟩
theorem FrT.up {F1 : Addr → Prop} {H1 : Hp} {a : Addr} {vs : List V} (h : FrT K F H a vs) (f : ∀ a, F a → F1 a) (k : ∀ a o, F a ∨ a ∈ B → H a = some o → H1 a = some o) : SqT K H1 a vs := (h.mono f fun a o fa e => k a o (.inl fa) e).sq
theorem itt_ok {a : Addr} {ds : List D} {vs : List V} (ha : FrT K F H a vs) (r : Reps K ca F H ds vs) : ItOk K ca (Itt K a) F H B ds := fun F1 H1 f k i => by
  have h1 : SqT K H1 a vs := ha.up f k
  have r1 : Reps K ca F1 H1 ds vs := Reps.mono f (fun a o fa e => k a o (.inl fa) e) _ _ r
  refine ⟨fun l => ⟨vs, h1, by rw [r.length]; exact l⟩, fun d e => ?_⟩
  obtain ⟨v, e2, _⟩ := r1.get e
  refine ⟨⟨vs, v, h1, e2⟩, fun x H' ⟨eh, q⟩ => ?_⟩
  subst eh
  exact ⟨F1, .refl, r1.geti e (q vs h1)⟩
theorem its_ok {a : Addr} {ns : List Int} (ha : FrS K F H a (ns.map V.int)) : ItOk K ca (Itl K a) F H B (ns.map .int) := fun F1 H1 f k i => by
  have h1 : SqL K H1 a (ns.map V.int) := (ha.mono f fun a o fa e => k a o (.inl fa) e).sq
  refine ⟨fun l => ⟨_, h1, by rw [List.length_map] at l ⊢; exact l⟩, fun d e => ?_⟩
  rw [List.getElem?_map] at e
  cases z : ns[i]? with
  | none => rw [z] at e; cases e
  | some n =>
    rw [z] at e
    cases e
    have e2 : (ns.map V.int)[i]? = some (.int n) := by rw [List.getElem?_map, z]; rfl
    refine ⟨⟨_, _, h1, e2⟩, fun x H' ⟨eh, q⟩ => ?_⟩
    subst eh
    have := q _ h1
    rw [e2] at this
    cases this
    exact ⟨F1, .refl, by unfold Rep; rfl⟩
theorem itx_ok {x : Str} : ItOk K ca (Its x) F H B (x.cps.toList.map fun c => .str ⟨#[c]⟩) := fun F1 H1 f k i => by
  refine ⟨fun l => (by simpa using l : x.cps.size ≤ i), fun d e => ?_⟩
  rw [List.getElem?_map, Array.getElem?_toList] at e
  cases z : x.cps[i]? with
  | none => rw [z] at e; cases e
  | some c =>
    rw [z] at e
    cases e
    refine ⟨(Array.getElem?_eq_some_iff.mp z).1, fun y H' ⟨eh, c', ec, q⟩ => ?_⟩
    subst eh
    rw [z] at ec
    cases ec
    exact ⟨F1, .refl, by unfold Rep; exact q⟩
theorem rangeD_get {lo : Int} {n i : Nat} : (rangeD lo n)[i]? = if i < n then some (.int (lo + (i : Int))) else none := by
  unfold rangeD
  rw [List.getElem?_map]
  by_cases h : i < n
  · rw [if_pos h, List.getElem?_range h]; rfl
  · rw [if_neg h, List.getElem?_eq_none (by simpa using h)]; rfl
theorem rangeD_len {lo : Int} {n : Nat} : (rangeD lo n).length = n := by simp [rangeD]
theorem itr_ok {lo : Int} {n : Nat} : ItOk K ca (Itr lo n) F H B (rangeD lo n) := fun F1 H1 f k i => by
  refine ⟨fun l => by rw [rangeD_len] at l; exact l, fun d e => ?_⟩
  rw [rangeD_get] at e
  by_cases h : i < n
  · rw [if_pos h] at e
    cases e
    exact ⟨h, fun x H' ⟨eh, q⟩ => by subst eh q; exact ⟨F1, .refl, by unfold Rep; rfl⟩⟩
  · rw [if_neg h] at e; cases e
theorem itc_ok {n : Nat} : ItOk K ca (Itc (0 + ((n : Nat) : Int) - 1) (-1) n) F H B (rangeD 0 n).reverse := fun F1 H1 f k i => by
  refine ⟨fun l => by rw [List.length_reverse, rangeD_len] at l; exact l, fun d e => ?_⟩
  by_cases h : i < n
  · rw [List.getElem?_reverse (by rw [rangeD_len]; exact h), rangeD_len, rangeD_get, if_pos (by omega)] at e
    cases e
    refine ⟨h, fun x H' ⟨eh, q⟩ => ?_⟩
    subst eh q
    refine ⟨F1, .refl, ?_⟩
    unfold Rep
    congr 1
    omega
  · rw [List.getElem?_eq_none (by rw [List.length_reverse, rangeD_len]; omega)] at e; cases e
theorem pair_new {F1 : Addr → Prop} {H1 : Hp} {T : Addr} {d e : D} {x y : V} (n : H1 T = none) (r : Rep K ca F1 H1 d x) (r2 : Rep K ca F1 H1 e y) : ∃ F', Al F1 H1 F' (upd H1 T (.tup [x, y])) ∧ Rep K ca F' (upd H1 T (.tup [x, y])) (.tup [d, e]) (.ref T) := by
  refine ⟨_, Al.new (o := .tup [x, y]) n, ?_⟩
  unfold Rep
  exact ⟨T, _, rfl, .inl ⟨.inr rfl, .inl upd_same⟩, fz_new n (.cons r (.cons r2 .nil))⟩
theorem ite_ok {a : Addr} {ds : List D} {vs : List V} (ha : H a = some (.lst vs)) (fa : F a ∨ a ∈ B) (r : Reps K ca F H ds vs) : ItOk K ca (Ite K a) F H B (enumD ds) := fun F1 H1 f k i => by
  have h1 : SqL K H1 a vs := .of (k a _ fa ha)
  have r1 : Reps K ca F1 H1 ds vs := Reps.mono f (fun a o fa e => k a o (.inl fa) e) _ _ r
  refine ⟨fun l => ⟨vs, h1, by rw [r.length]; simpa [enumD] using l⟩, fun d e => ?_⟩
  unfold enumD at e
  rw [List.getElem?_mapIdx] at e
  cases z : ds[i]? with
  | none => rw [z] at e; cases e
  | some d0 =>
    rw [z] at e
    cases e
    obtain ⟨v, e2, _⟩ := r1.get z
    refine ⟨⟨vs, v, h1, e2⟩, fun x H' ⟨T, x0, ex, nT, eh, q⟩ => ?_⟩
    subst ex eh
    exact pair_new nT (by unfold Rep; rfl) (r1.geti z (q vs h1))
theorem itz_ok {a b : Addr} {ds es : List D} {vs ws : List V} (ha : FrL F H a vs) (hb : FrL F H b ws) (r : Reps K ca F H ds vs) (r2 : Reps K ca F H es ws) : ItOk K ca (Itz K a b) F H B (List.zipWith (fun a b => .tup [a, b]) ds es) := fun F1 H1 f k i => by
  have h1 : SqL K H1 a vs := .of (k a _ (.inl ha.1) ha.2)
  have h2 : SqL K H1 b ws := .of (k b _ (.inl hb.1) hb.2)
  have q1 : Reps K ca F1 H1 ds vs := Reps.mono f (fun a o fa e => k a o (.inl fa) e) _ _ r
  have q2 : Reps K ca F1 H1 es ws := Reps.mono f (fun a o fa e => k a o (.inl fa) e) _ _ r2
  refine ⟨fun l => ⟨vs, ws, h1, h2, ?_⟩, fun d e => ?_⟩
  · rw [List.length_zipWith] at l
    rw [r.length, r2.length]
    omega
  · rw [List.getElem?_zipWith] at e
    cases z : ds[i]? with
    | none => rw [z] at e; cases e
    | some d0 =>
      cases z2 : es[i]? with
      | none => rw [z, z2] at e; cases e
      | some e0 =>
        rw [z, z2] at e
        cases e
        obtain ⟨v, ev, _⟩ := q1.get z
        obtain ⟨w, ew, _⟩ := q2.get z2
        refine ⟨⟨vs, ws, v, w, h1, h2, ev, ew⟩, fun x H' ⟨T, x0, y0, ex, nT, eh, p1, p2⟩ => ?_⟩
        subst ex eh
        exact pair_new nT (q1.geti z (p1 vs h1)) (q2.geti z2 (p2 ws h2))
theorem itzT_ok {a b : Addr} {ds es : List D} {vs ws : List V} (ha : FrT K F H a vs) (hb : FrT K F H b ws) (r : Reps K ca F H ds vs) (r2 : Reps K ca F H es ws) : ItOk K ca (RZ.ItzT K a b) F H B (List.zipWith (fun a b => .tup [a, b]) ds es) := fun F1 H1 f k i => by
  have h1 : SqT K H1 a vs := ha.up f k
  have h2 : SqT K H1 b ws := hb.up f k
  have q1 : Reps K ca F1 H1 ds vs := Reps.mono f (fun a o fa e => k a o (.inl fa) e) _ _ r
  have q2 : Reps K ca F1 H1 es ws := Reps.mono f (fun a o fa e => k a o (.inl fa) e) _ _ r2
  refine ⟨fun l => ⟨vs, ws, h1, h2, ?_⟩, fun d e => ?_⟩
  · rw [List.length_zipWith] at l
    rw [r.length, r2.length]
    omega
  · rw [List.getElem?_zipWith] at e
    cases z : ds[i]? with
    | none => rw [z] at e; cases e
    | some d0 =>
      cases z2 : es[i]? with
      | none => rw [z, z2] at e; cases e
      | some e0 =>
        rw [z, z2] at e
        cases e
        obtain ⟨v, ev, _⟩ := q1.get z
        obtain ⟨w, ew, _⟩ := q2.get z2
        refine ⟨⟨vs, ws, v, w, h1, h2, ev, ew⟩, fun x H' ⟨T, x0, y0, ex, nT, eh, p1, p2⟩ => ?_⟩
        subst ex eh
        exact pair_new nT (q1.geti z (p1 vs h1)) (q2.geti z2 (p2 ws h2))
end
section
variable {X : Cx} {ca : Ca} {P : List Nat} {ro : Bool} {W : WX} {tg e e2 : Expr} {p pos tpos : Pos} {m n : E} {elts : List Expr} {kk : Nat}
/-- one value, then an iterator -/
theorem tI_e {k : D → IE} {σ : L2.St} {H : Hp} {Rr : It → Hp → Prop} {Q : VK} (h : tI X.K ca W (fun st => (m st).bind fun d st => k d st) σ H Rr)
    (q : ∀ d v F H st A, Rl X.K ca F H st σ A → Rep X.K ca F H d v → tI X.K ca W (k d) σ H Rr → (match k d st with
      | .ok items st' => ∀ J F' H' A', Rl X.K ca F' H' st' σ A' → ItOk X.K ca J F' H' [] items → Step F H A F' H' A' → Rr J H'
      | .exc c x st' => XcW X.K ca W F H A σ c x st'
      | .bad => False) → Q v H) : tE X.K ca W m σ H Q := by
  obtain ⟨F, st, A, rl, h⟩ := h
  refine ⟨F, st, A, rl, ?_⟩
  cases z : m st with
  | bad => simp only [z, R.bind] at h
  | exc c x s => simp only [z, R.bind] at h; exact h
  | ok d st1 =>
    simp only [z, R.bind] at h
    intro v F' H' A' r rp s
    have h' : (match k d st1 with
      | .ok items st' => ∀ J F2 H2 A2, Rl X.K ca F2 H2 st' σ A2 → ItOk X.K ca J F2 H2 [] items → Step F' H' A' F2 H2 A2 → Rr J H2
      | .exc c x st' => XcW X.K ca W F' H' A' σ c x st'
      | .bad => False) := by
      cases z2 : k d st1 with
      | bad => rw [z2] at h; exact h
      | exc c x s2 => rw [z2] at h; exact fun cls oe F2 H2 A2 r2 xi s3 => h cls oe F2 H2 A2 r2 xi (s.trans s3)
      | ok items st2 => rw [z2] at h; exact fun J F2 H2 A2 r2 io s3 => h J F2 H2 A2 r2 io (s.trans s3)
    exact q d v F' H' st1 A' r rp ⟨F', st1, A', r, h'⟩ h'
theorem si_e (h : PE X e (tE X.K ca W m)) : PI X tg e (tI X.K ca W (itE m)) := PI.imp (PI.or (PI.or (pi_list h) (pi_tup h)) (pi_str h)) fun σ H Rr q => by
  by_cases hx : ∃ F st A, Rl X.K ca F H st σ A ∧ ∃ x st', m st = .ok (.str x) st' ∧ ∀ J F' H' A', Rl X.K ca F' H' st' σ A' → ItOk X.K ca J F' H' [] (x.cps.toList.map fun c => .str ⟨#[c]⟩) → Step F H A F' H' A' → Rr J H'
  · obtain ⟨F, st, A, rl, x, st', z, q⟩ := hx
    refine .inr ⟨F, st, A, rl, ?_⟩
    rw [z]
    intro v F' H' A' r rp s
    unfold Rep at rp
    exact ⟨x, rp, q _ F' H' A' r itx_ok s⟩
  refine .inl ?_
  by_cases ht : ∃ F st A, Rl X.K ca F H st σ A ∧ ∃ ds st', m st = .ok (.tup ds) st' ∧ ∀ J F' H' A', Rl X.K ca F' H' st' σ A' → ItOk X.K ca J F' H' [] ds → Step F H A F' H' A' → Rr J H'
  · obtain ⟨F, st, A, rl, ds, st', z, q⟩ := ht
    refine .inr ⟨F, st, A, rl, ?_⟩
    rw [z]
    intro v F' H' A' r rp s
    unfold Rep at rp
    obtain ⟨a, vs, rfl, hq, rs⟩ := rp
    exact ⟨a, rfl, ⟨vs, hq.sq⟩, q _ F' H' A' r (itt_ok hq rs) s⟩
  · obtain ⟨F, st, A, rl, q⟩ := q
    refine .inl ⟨F, st, A, rl, ?_⟩
    unfold itE at q
    cases z : m st with
    | bad => simp only [z, R.bind] at q
    | exc c x s => simp only [z, R.bind] at q; exact q
    | ok d st1 =>
      simp only [z, R.bind] at q
      cases d with
      | lst ds =>
        intro v F' H' A' r rp s
        unfold Rep at rp
        obtain ⟨a, vs, rfl, hq, rs⟩ := rp
        exact ⟨a, rfl, ⟨vs, hq.sq⟩, q _ F' H' A' r (itl_ok hq.2 (.inl hq.1) rs) s⟩
      | scr ns =>
        intro v F' H' A' r rp s
        unfold Rep at rp
        obtain ⟨a, rfl, hq⟩ := rp
        exact ⟨a, rfl, ⟨_, hq.sq⟩, q _ F' H' A' r (its_ok hq) s⟩
      | tup ds => exact (ht ⟨F, st, A, rl, ds, st1, z, q⟩).elim
      | str x => exact (hx ⟨F, st, A, rl, x, st1, z, q⟩).elim
      | _ => exact q.elim
theorem pa1 (h : PE X e (tE X.K ca W m)) (hs : starEach [e] X.env = [(false, eval e X.env)] := by rfl) : PA X [e] (tCons (tE X.K ca W m) tNil) := pa_cons h pa_nil hs
theorem si_range1 (hg : Gl X "range") (hm : X.mg "range" = none) (h : PE X e (tE X.K ca W m)) (hs : starEach [e] X.env = [(false, eval e X.env)] := by rfl) : PI X tg (.Call (.Name "range" p) [e] [] pos) (tI X.K ca W (itR1 m)) :=
  PI.imp (pi_range1 hg hm (pa1 h hs) hs) fun σ H Rr q => tI_e (k := fun d st => match d with
    | .int j => (match inR j with
      | true => .ok (rangeD 0 j.toNat) st
      | false => .bad)
    | _ => .bad) q fun d v F H st A rl rp _ q => by
    cases d with
    | int j =>
      unfold Rep at rp
      subst rp
      cases z : inR j with
      | false => simp only [z] at q
      | true =>
        simp only [z] at q
        obtain ⟨z1, z2⟩ := Bool.and_eq_true_iff.mp z
        exact ⟨j, rfl, of_decide_eq_true z1, of_decide_eq_true z2, q _ F H A rl itr_ok .refl⟩
    | _ => exact q.elim
theorem si_range2 (hg : Gl X "range") (hm : X.mg "range" = none) (h : PE X e (tE X.K ca W m)) (h2 : PE X e2 (tE X.K ca W n)) (hs : starEach [e, e2] X.env = [(false, eval e X.env), (false, eval e2 X.env)] := by rfl) (hs2 : starEach [e2] X.env = [(false, eval e2 X.env)] := by rfl) :
    PI X tg (.Call (.Name "range" p) [e, e2] [] pos) (tI X.K ca W (itR2 m n)) :=
  PI.imp (pi_range2 hg hm (pa_cons h (pa_cons h2 pa_nil hs2) (by rw [hs, hs2])) hs hs2) fun σ H Rr q => tI_e (k := fun d st => (n st).bind fun e st => kR2 d e st) q fun d v F H st A rl rp q _ =>
    tI_e (k := fun e st => kR2 d e st) q fun d2 v2 F2 H2 st2 A2 rl2 rp2 _ q => by
    cases d with
    | int i =>
      cases d2 with
      | int j =>
        unfold Rep at rp rp2
        subst rp rp2
        simp only [kR2] at q
        cases z : inR i && inR j with
        | false => simp only [z] at q
        | true =>
          simp only [z] at q
          obtain ⟨z0, z3⟩ := Bool.and_eq_true_iff.mp z
          obtain ⟨z1, z2⟩ := Bool.and_eq_true_iff.mp z0
          obtain ⟨z4, z5⟩ := Bool.and_eq_true_iff.mp z3
          exact ⟨i, j, rfl, ⟨of_decide_eq_true z1, of_decide_eq_true z2, of_decide_eq_true z4, of_decide_eq_true z5⟩, q _ F2 H2 A2 rl2 itr_ok .refl⟩
      | _ => exact q.elim
    | _ => exact q.elim
theorem si_enum (hg : Gl X "enumerate") (hm : X.mg "enumerate" = none) (h : PE X e (tE X.K ca W m)) (hs : starEach [e] X.env = [(false, eval e X.env)] := by rfl) : PI X (.Tuple elts kk tpos) (.Call (.Name "enumerate" p) [e] [] pos) (tI X.K ca W (itEn m)) :=
  PI.imp (pi_enum hg hm (pa1 h hs) hs) fun σ H Rr q => tI_e (k := fun d st => match d with
    | .lst ds => .ok (enumD ds) st
    | _ => .bad) q fun d v F H st A rl rp _ q => by
    cases d with
    | lst ds =>
      unfold Rep at rp
      obtain ⟨a, vs, rfl, hq, rs⟩ := rp
      exact ⟨a, vs, rfl, hq.sq, q _ F H A rl (ite_ok hq.2 (.inl hq.1) rs) .refl⟩
    | _ => exact q.elim
theorem si_zip (hg : Gl X "zip") (hm : X.mg "zip" = none) (h : PA X [e, e2] (tA X.K ca W [m, n])) (hs : starEach [e, e2] X.env = (false, eval e X.env) :: starEach [e2] X.env := by rfl) (hpl : (backTo pos (starEach [e2] X.env)).any (·.1) = false := by rfl) :
    PI X (.Tuple elts kk tpos) (.Call (.Name "zip" p) [e, e2] [] pos) (tI X.K ca W (itZip m n)) :=
  PI.imp (RZ.pi_zipA hg hm h hs hpl) fun σ H Rr ⟨F, st, A, rl, q⟩ => by
    refine ⟨F, st, A, rl, ?_⟩
    unfold itZip at q
    cases z : evAll [m, n] st with
    | bad => simp only [z, R.bind] at q
    | exc c x s => simp only [z, R.bind] at q; exact q
    | ok ds st1 =>
      simp only [z, R.bind] at q
      intro vs F1 H1 A1 rl1 rs s1
      cases ds with
      | nil => exact q.elim
      | cons d ds =>
        cases ds with
        | nil => exact q.elim
        | cons d2 ds =>
          cases ds with
          | cons _ _ => exact q.elim
          | nil =>
            obtain ⟨v, r, rfl, r1, rs⟩ := rs.inv
            obtain ⟨v2, r, rfl, r2, rs⟩ := rs.inv
            unfold Reps at rs
            subst rs
            simp only [kZip] at q
            cases d with
            | lst ds =>
              cases d2 with
              | lst es =>
                unfold Rep at r1 r2
                obtain ⟨a, vs, rfl, ha, ra⟩ := r1
                obtain ⟨b, ws, rfl, hb, rb⟩ := r2
                exact ⟨a, b, vs, ws, rfl, .inl ⟨ha.sq, hb.sq, q _ F1 H1 A1 rl1 (itz_ok ha hb ra rb) s1⟩⟩
              | _ => exact q.elim
            | tup ds =>
              cases d2 with
              | tup es =>
                unfold Rep at r1 r2
                obtain ⟨a, vs, rfl, ha, ra⟩ := r1
                obtain ⟨b, ws, rfl, hb, rb⟩ := r2
                exact ⟨a, b, vs, ws, rfl, .inr ⟨ha.sq, hb.sq, q _ F1 H1 A1 rl1 (itzT_ok ha hb ra rb) s1⟩⟩
              | _ => exact q.elim
            | _ => exact q.elim
/-- the loop over the items -/
def forL (g : Tg) (body : S) : List D → S
  | [], st => .ok .nx st
  | d :: ds, st => match g d st with
    | none => .bad
    | some st1 => (match body st1 with
      | .ok .nx st2 => forL g body ds st2
      | .ok .ct st2 => forL g body ds st2
      | .ok .bk st2 => .ok .nx st2
      | .ok (.rt d) st2 => .ok (.rt d) st2
      | .exc c x st2 => .exc c x st2
      | .bad => .bad)
def sFor (it : IE) (g : Tg) (body : S) : S := fun st => (it st).bind fun items st => forL g body items st
theorem drop_get {α : Type} {l : List α} {i : Nat} {d : α} {ds : List α} (h : l.drop i = d :: ds) : l[i]? = some d ∧ l.drop (i + 1) = ds := by
  refine ⟨?_, ?_⟩
  · have := congrArg (fun z => z[0]?) h
    simpa using this
  · rw [← List.drop_drop, h]; rfl
theorem ss_for {body : List Stmt} {it : IE} {g : Tg} {b : S} (hp : PassesOwn (model X.prog X.w) X.A X.env X.xe) (hc : X.calm = true) (hi : PI X tg e (tI X.K ca W it)) (hg : PG X tg (tT' X.K ca P g)) (hb : PSs X body (tS X.K ca P ro W b))
    (hs : ∀ x, foldedSetIterable e X.env x = pure x := by intro _; rfl) : PS X (.For tg e body [] pos) (tS X.K ca P ro W (sFor it g b)) :=
  PS.imp (ps_for hp hc hi hg hb hs) fun Z σ H ⟨F, st, A, rl, q⟩ => by
    refine ⟨F, st, A, rl, ?_⟩
    unfold sFor at q
    cases z : it st with
    | bad => simp only [z, R.bind] at q; exact q
    | exc c x s => simp only [z, R.bind] at q; exact fun cls oe F' H' A' r xi s => q cls oe σ F' H' A' r xi s .refl
    | ok items st1 =>
      simp only [z, R.bind] at q
      intro J F1 H1 A1 rl1 io s1
      refine ⟨fun i m σ' H' => ∃ F' st' A' ds, Rl X.K ca F' H' st' σ' A' ∧ Step F1 H1 A1 F' H' A' ∧ Pin P σ σ' ∧ items.drop i = ds ∧ m = ds.length ∧ WantS X.K ca P ro W F' H' A' σ' Z (forL g b ds st'),
        ⟨_, F1, st1, A1, items, rl1, .refl, .refl, rfl, rfl, WantS.step q s1 .refl⟩, ?_⟩
      rintro i m σ' H' ⟨F', st', A', ds, rl', s', p', hd, rfl, hw⟩
      have io' := io F' H' s'.fm (fun a o fa e => s'.kf rl1 a o (fa.elim id fun z => by cases z) e) i
      cases ds with
      | nil =>
        refine .inl ⟨io'.1 ?_, hw.nx rl'⟩
        exact List.drop_eq_nil_iff.mp hd
      | cons d ds =>
        obtain ⟨hi1, hi2⟩ := drop_get hd
        obtain ⟨go, yl⟩ := io'.2 d hi1
        refine .inr ⟨go, fun σ2 H2 => ∃ F2 st2 A2, Rl X.K ca F2 H2 st2 σ2 A2 ∧ Step F1 H1 A1 F2 H2 A2 ∧ Pin P σ σ2 ∧ WantS X.K ca P ro W F2 H2 A2 σ2 Z (forL g b ds st2), fun σ2 H2 ⟨F2, st2, A2, r2, s2, p2, w2⟩ => ⟨ds.length, Nat.lt_succ_self _, F2, st2, A2, ds, r2, s2, p2, hi2, rfl, w2⟩, fun x Hy hy => ?_⟩
        obtain ⟨Fy, al, rp⟩ := yl x Hy hy
        have rly := al.rl rl'
        have hw : WantS X.K ca P ro W F' H' A' σ' Z (match g d st' with
          | none => .bad
          | some st1 => (match b st1 with
            | .ok .nx st2 => forL g b ds st2
            | .ok .ct st2 => forL g b ds st2
            | .ok .bk st2 => .ok .nx st2
            | .ok (.rt d) st2 => .ok (.rt d) st2
            | .exc c x st2 => .exc c x st2
            | .bad => .bad)) := hw
        cases zg : g d st' with
        | none => rw [zg] at hw; exact hw.elim
        | some st3 =>
          simp only [zg] at hw
          refine ⟨Fy, st', A', d, st3, rly, rp, zg, fun σ3 F3 H3 A3 rl3 s3 p3 => ⟨F3, st3, A3, rl3, ?_⟩⟩
          have s03 : Step F' H' A' F3 H3 A3 := al.step.trans s3
          have s13 : Step F1 H1 A1 F3 H3 A3 := s'.trans s03
          have hw3 := WantS.step hw s03 p3
          cases zb : b st3 with
          | bad => rw [zb] at hw3; exact hw3
          | exc c x s => rw [zb] at hw3; exact hw3
          | ok f s =>
            rw [zb] at hw3
            cases f with
            | nx => exact fun σ4 F4 H4 A4 r4 s4 p4 => ⟨F4, s, A4, r4, s13.trans s4, (p'.trans p3).trans p4, WantS.step hw3 s4 p4⟩
            | ct => exact fun σ4 F4 H4 A4 r4 s4 p4 => ⟨F4, s, A4, r4, s13.trans s4, (p'.trans p3).trans p4, WantS.step hw3 s4 p4⟩
            | bk => exact hw3
            | rt d => exact hw3
def whL (c : B') (body : S) : Nat → S
  | 0, _ => .bad
  | n + 1, st => (c st).bind fun k st1 => match k with
    | false => .ok .nx st1
    | true => (match body st1 with
      | .ok .nx st2 => whL c body n st2
      | .ok .ct st2 => whL c body n st2
      | .ok .bk st2 => .ok .nx st2
      | .ok (.rt d) st2 => .ok (.rt d) st2
      | .exc c x st2 => .exc c x st2
      | .bad => .bad)
theorem ss_while {c : Expr} {body : List Stmt} {k : B'} {b : S} {n : Nat} (hp : PassesOwn (model X.prog X.w) X.A X.env X.xe) (hc : PT X c (tT X.K ca W k)) (hb : PSs X body (tS X.K ca P ro W b)) : PS X (.While c body [] pos) (tS X.K ca P ro W (whL k b n)) :=
  PS.imp (ps_while hp hc hb) fun Z σ H ⟨F, st, A, rl, q⟩ => by
    refine ⟨fun m σ' H' => ∃ F' st' A', Rl X.K ca F' H' st' σ' A' ∧ Step F H A F' H' A' ∧ Pin P σ σ' ∧ WantS X.K ca P ro W F' H' A' σ' Z (whL k b m st'), ⟨n, F, st, A, rl, .refl, .refl, q⟩, ?_⟩
    rintro m σ' H' ⟨F', st', A', rl', s', p', hw⟩
    cases m with
    | zero => exact hw.elim
    | succ m =>
      refine ⟨F', st', A', rl', ?_⟩
      unfold whL at hw
      cases zc : k st' with
      | bad => rw [zc] at hw; exact hw
      | exc c x s => rw [zc] at hw; exact fun cls oe F2 H2 A2 r xi s2 => hw cls oe σ' F2 H2 A2 r xi s2 .refl
      | ok kb st1 =>
        rw [zc] at hw
        simp only [R.bind] at hw
        intro F1 H1 A1 rl1 s1
        have s01 := s'.trans s1
        have hw1 := WantS.step hw s1 .refl
        cases kb with
        | false => exact WantS.nx hw1 rl1
        | true =>
          refine ⟨fun σ2 H2 => ∃ F2 st2 A2, Rl X.K ca F2 H2 st2 σ2 A2 ∧ Step F H A F2 H2 A2 ∧ Pin P σ σ2 ∧ WantS X.K ca P ro W F2 H2 A2 σ2 Z (whL k b m st2), fun σ2 H2 ⟨F2, st2, A2, r2, s2, p2, w2⟩ => ⟨m, Nat.lt_succ_self _, F2, st2, A2, r2, s2, p2, w2⟩, F1, st1, A1, rl1, ?_⟩
          simp only at hw1
          cases zb : b st1 with
          | bad => rw [zb] at hw1; exact hw1
          | exc c x s => rw [zb] at hw1; exact hw1
          | ok f s =>
            rw [zb] at hw1
            cases f with
            | nx => exact fun σ4 F4 H4 A4 r4 s4 p4 => ⟨F4, s, A4, r4, s01.trans s4, p'.trans p4, WantS.step hw1 s4 p4⟩
            | ct => exact fun σ4 F4 H4 A4 r4 s4 p4 => ⟨F4, s, A4, r4, s01.trans s4, p'.trans p4, WantS.step hw1 s4 p4⟩
            | bk => exact hw1
            | rt d => exact hw1
end
end Ev
namespace Ev
open PySem PySem.Spec PyProof.Rows L2
/-- the slots of the block's own names forgotten -/
def wipeS : List Nat → Sl → Sl
  | [], st => st
  | v :: vs, st => (wipeS vs st).set v .n
/-- .. and put back -/
def backS (st0 : Sl) : List Nat → Sl → Sl
  | [], st => st
  | v :: vs, st => match st0[v]? with
    | some c => (backS st0 vs st).set v c
    | none => backS st0 vs st
/-- no own data there -/
def frozenAt (st : Sl) (vs : List Nat) : Bool := vs.all fun v => match st[v]? with
  | some (.o _) => false
  | none => false
  | _ => true
def lcL (vs : List Nat) (g : Tg) (c : B') (el : E) : List D → Sl → R (List D)
  | [], st => .ok [] st
  | d :: ds, st => match g d st with
    | none => .bad
    | some st1 => (match c st1 with
      | .ok true st2 => (match el st2 with
        | .ok x st3 => (lcL vs g c el ds (wipeS vs st3)).bind fun xs st => .ok (x :: xs) st
        | _ => .bad)
      | .ok false st2 => lcL vs g c el ds (wipeS vs st2)
      | _ => .bad)
def eLc (vs : List Nat) (it : IE) (g : Tg) (c : B') (el : E) : E := fun st => (it st).bind fun items st => match frozenAt st vs && decide (st.length ≤ 64) with
  | true => (lcL vs g c el items (wipeS vs st)).bind fun xs st' => if xs.length < sizeLine then .ok (.lst xs) (backS st vs st') else .bad
  | false => .bad
def mYes : B' := fun st => .ok true st
section
variable {K : PySem.W.Frag} {ca : Ca} {F F' : Addr → Prop} {H H' : Hp} {A A' : List Addr}
theorem wipeS_get : ∀ {vs : List Nat} {st : Sl} {j : Nat}, (wipeS vs st)[j]? = if j ∈ vs then (st[j]?).map (fun _ => Cell.n) else st[j]?
  | [], st, j => by simp [wipeS]
  | v :: vs, st, j => by
    unfold wipeS
    have ih := wipeS_get (vs := vs) (st := st) (j := j)
    by_cases e : v = j
    · subst e
      rw [if_pos List.mem_cons_self]
      by_cases l : v < (wipeS vs st).length
      · rw [List.getElem?_set_self l]
        have l2 : v < st.length := by
          have : ∀ vs : List Nat, (wipeS vs st).length = st.length := fun vs => by
            induction vs with
            | nil => rfl
            | cons w ws ih => unfold wipeS; rw [List.length_set, ih]
          rw [this] at l; exact l
        rw [List.getElem?_eq_getElem l2]; rfl
      · rw [List.getElem?_eq_none (by rw [List.length_set]; omega)]
        have : ∀ vs : List Nat, (wipeS vs st).length = st.length := fun vs => by
          induction vs with
          | nil => rfl
          | cons w ws ih => unfold wipeS; rw [List.length_set, ih]
        rw [this] at l
        rw [List.getElem?_eq_none (by omega)]; rfl
    · rw [List.getElem?_set_ne e, ih]
      by_cases m : j ∈ vs
      · rw [if_pos m, if_pos (List.mem_cons_of_mem _ m)]
      · rw [if_neg m, if_neg (by simp only [List.mem_cons, not_or]; exact ⟨fun q => e q.symm, m⟩)]
theorem wipeS_idem {vs : List Nat} {st : Sl} : wipeS vs st = wipeS vs (wipeS vs st) := by
  refine List.ext_getElem? fun j => ?_
  rw [wipeS_get (st := wipeS vs st), wipeS_get (st := st)]
  by_cases m : j ∈ vs
  · simp only [if_pos m]; cases st[j]? <;> rfl
  · simp only [if_neg m]
theorem wipeS_len {vs : List Nat} {st : Sl} : (wipeS vs st).length = st.length := by
  induction vs with
  | nil => rfl
  | cons w ws ih => unfold wipeS; rw [List.length_set, ih]
/-- slots whose own content is the same, where they hold any -/
theorem RepS.eqs : ∀ {st : Sl} {σ σ' : L2.St} {B : List Addr}, RepS K ca F H st σ B → σ'.length = σ.length → (∀ i, i < st.length → st[i]? ≠ some Cell.n → σ'[i]? = σ[i]?) → RepS K ca F H st σ' B
  | [], σ, σ', B, h, l, e => by
    obtain ⟨rfl, rfl⟩ := h
    exact ⟨List.eq_nil_of_length_eq_zero l, rfl⟩
  | c :: cs, σ, σ', B, h, l, e => by
    obtain ⟨x, r, B1, C, rfl, rfl, h1, h2⟩ := h
    cases σ' with
    | nil => cases l
    | cons y r' =>
      refine ⟨y, r', B1, C, rfl, rfl, ?_, h2.eqs (by simpa using l) fun i hl hi => by simpa using e (i + 1) (by simpa using hl) (by simpa using hi)⟩
      cases c with
      | n => exact h1
      | f d => have := e 0 (by simp) (by simp); simp at this; rw [this]; exact h1
      | o d => have := e 0 (by simp) (by simp); simp at this; rw [this]; exact h1
theorem Rl.eqs {st : Sl} {σ σ' : L2.St} (h : Rl K ca F H st σ A) (l : σ'.length = σ.length) (e : ∀ i, i < st.length → st[i]? ≠ some Cell.n → σ'[i]? = σ[i]?) : Rl K ca F H st σ' A :=
  ⟨let ⟨B, q, p⟩ := h.rep; ⟨B, q.eqs l e, p⟩, h.nd, h.fd, h.nf⟩
/-- a slot without own data cleared -/
theorem Rl.clr {st : Sl} {σ : L2.St} {i : Nat} (h : Rl K ca F H st σ A) : ∃ A', (∀ a ∈ A', a ∈ A) ∧ Rl K ca F H (st.set i .n) σ A' := by
  cases z : st[i]? with
  | none =>
    rw [List.set_eq_of_length_le (by exact List.getElem?_eq_none_iff.mp z)]
    exact ⟨A, fun _ m => m, h⟩
  | some c =>
    obtain ⟨x, B, C, _, _, r, p⟩ := h.take z
    exact ⟨C, fun a m => p.mem_iff.mpr (List.mem_append_right _ m), r⟩
theorem Rl.wiped {st : Sl} {σ : L2.St} (h : Rl K ca F H st σ A) : ∀ {vs : List Nat}, ∃ A', (∀ a ∈ A', a ∈ A) ∧ Rl K ca F H (wipeS vs st) (wipe σ vs) A'
  | [] => ⟨A, fun _ m => m, h⟩
  | v :: vs => by
    obtain ⟨A1, s1, r1⟩ := Rl.wiped h (vs := vs)
    obtain ⟨A2, s2, r2⟩ := r1.clr (i := v)
    refine ⟨A2, fun a m => s1 a (s2 a m), ?_⟩
    unfold wipe wipeS
    refine r2.eqs (by rw [List.length_set]) fun j hl hj => ?_
    by_cases e : v = j
    · subst e
      exfalso
      exact hj (List.getElem?_set_self (by simpa using hl))
    · rw [List.getElem?_set_ne e]
theorem wipe_get : ∀ {vs : List Nat} {σ : L2.St} {j : Nat}, (wipe σ vs)[j]? = if j ∈ vs then (σ[j]?).map (fun _ => none) else σ[j]?
  | [], σ, j => by simp [wipe]
  | v :: vs, σ, j => by
    unfold wipe
    have ih := wipe_get (vs := vs) (σ := σ) (j := j)
    by_cases e : v = j
    · subst e
      rw [if_pos List.mem_cons_self]
      by_cases l : v < (wipe σ vs).length
      · rw [List.getElem?_set_self l]
        rw [wipe_length] at l
        rw [List.getElem?_eq_getElem l]; rfl
      · rw [List.getElem?_eq_none (by rw [List.length_set]; omega)]
        rw [wipe_length] at l
        rw [List.getElem?_eq_none (by omega)]; rfl
    · rw [List.getElem?_set_ne e, ih]
      by_cases m : j ∈ vs
      · rw [if_pos m, if_pos (List.mem_cons_of_mem _ m)]
      · rw [if_neg m, if_neg (by simp only [List.mem_cons, not_or]; exact ⟨fun q => e q.symm, m⟩)]
/-- the other slots are pinned while a block's target is stored -/
def cmpP (vs : List Nat) : List Nat := (List.range 64).filter fun j => !vs.contains j
theorem cmpP_mem {vs : List Nat} {j : Nat} (h : j < 64) (n : j ∉ vs) : j ∈ cmpP vs := by
  unfold cmpP
  rw [List.mem_filter]
  exact ⟨List.mem_range.mpr h, by simpa using n⟩
theorem wipe_pin {vs : List Nat} {σ σ2 : L2.St} (l : σ.length ≤ 64) (p : Pin (cmpP vs) (wipe σ vs) σ2) : wipe σ2 vs = wipe σ vs := by
  refine List.ext_getElem? fun j => ?_
  have l2 : σ2.length = σ.length := by rw [p.1, wipe_length]
  rw [wipe_get, wipe_get]
  by_cases m : j ∈ vs
  · rw [if_pos m, if_pos m]
    by_cases h : j < σ.length
    · rw [List.getElem?_eq_getElem h, List.getElem?_eq_getElem (by omega)]; rfl
    · rw [List.getElem?_eq_none (by omega), List.getElem?_eq_none (by omega)]
  · rw [if_neg m, if_neg m]
    by_cases h : j < 64
    · rw [p.2 j (cmpP_mem h m), wipe_get, if_neg m]
    · rw [List.getElem?_eq_none (by omega), List.getElem?_eq_none (by omega)]
/-- the block's own names again as they were -/
theorem Rl.backs {st0 st : Sl} {σ : L2.St} {vs : List Nat} {F0 : Addr → Prop} {H0 : Hp} {A0 : List Addr} (r0 : Rl K ca F0 H0 st0 σ A0) (fz : frozenAt st0 vs = true) (f : ∀ a, F0 a → F a) (k : ∀ a o, F0 a → H0 a = some o → H a = some o)
    (r : Rl K ca F H (wipeS vs st) (wipe σ vs) A) : Rl K ca F H (backS st0 vs (wipeS vs st)) σ A := by
  have start : Rl K ca F H (wipeS vs st) σ A := r.eqs (by rw [wipe_length]) fun i hi hn => by
    rw [wipe_get]
    by_cases m : i ∈ vs
    · exfalso
      rw [wipeS_get, if_pos m] at hn
      rw [wipeS_len] at hi
      exact hn (by rw [List.getElem?_eq_getElem hi]; rfl)
    · rw [if_neg m]
  -- one after another
  have go : ∀ ws : List Nat, (∀ v ∈ ws, v ∈ vs) → Rl K ca F H (backS st0 ws (wipeS vs st)) σ A ∧ ∀ v ∈ vs, ∀ c, (backS st0 ws (wipeS vs st))[v]? = some c → c = .n ∨ st0[v]? = some c := by
    intro ws
    induction ws with
    | nil =>
      refine fun _ => ⟨start, fun v m c e => .inl ?_⟩
      have e : (wipeS vs st)[v]? = some c := e
      rw [wipeS_get, if_pos m] at e
      cases z : st[v]? with
      | none => rw [z] at e; cases e
      | some c0 => rw [z] at e; cases e; rfl
    | cons v ws ih =>
      intro hv
      obtain ⟨r1, q1⟩ := ih fun w m => hv w (List.mem_cons_of_mem _ m)
      have mv := hv v List.mem_cons_self
      have fv := List.all_eq_true.mp fz v mv
      unfold backS
      cases z : st0[v]? with
      | none => exact ⟨r1, q1⟩
      | some c =>
        simp only [z] at fv ⊢
        obtain ⟨x, B, C, ex, rc, _, _⟩ := r0.take z
        have key : Rl K ca F H ((backS st0 ws (wipeS vs st)).set v c) σ A := by
          cases zz : (backS st0 ws (wipeS vs st))[v]? with
          | none => rw [List.set_eq_of_length_le (List.getElem?_eq_none_iff.mp zz)]; exact r1
          | some c1 =>
            -- what stands there has no own data
            have nod : ∃ x1, σ[v]? = some x1 ∧ Rl K ca F H ((backS st0 ws (wipeS vs st)).set v .n) σ A := by
              obtain ⟨x1, B1, C1, e1, rc1, r2, p2⟩ := r1.take zz
              have hB : B1 = [] := by
                rcases q1 v mv c1 zz with rfl | e2
                · exact rc1
                · rw [z] at e2
                  cases e2
                  cases c with
                  | n => exact rc1
                  | f d => exact rc1.1
                  | o d => cases fv
              subst hB
              exact ⟨x1, e1, r2.perm p2.symm⟩
            obtain ⟨x1, e1, r2⟩ := nod
            have hl : v < (backS st0 ws (wipeS vs st)).length := (List.getElem?_eq_some_iff.mp zz).1
            rw [ex] at e1
            cases e1
            have r3 := r2.put (c := c) (x := x) (B := []) (by rw [List.getElem?_set_self hl]) ex (by
              cases c with
              | n => rfl
              | o d => cases fv
              | f d => obtain ⟨_, w, e2, rp⟩ := rc; exact ⟨rfl, w, e2, Rep.mono f k _ _ rp⟩) (by simpa using r2.nd)
            rw [List.set_set] at r3
            exact r3
        refine ⟨key, fun w m c2 e2 => ?_⟩
        by_cases e : v = w
        · subst e
          by_cases hl : v < (backS st0 ws (wipeS vs st)).length
          · rw [List.getElem?_set_self hl] at e2
            cases e2
            exact .inr z
          · rw [List.getElem?_eq_none (by rw [List.length_set]; omega)] at e2; cases e2
        · rw [List.getElem?_set_ne e] at e2
          exact q1 w m c2 e2
  exact (go vs fun _ m => m).1
/-- the heap with the new list beside: what was stays -/
theorem Rl.beside {st : Sl} {σ : L2.St} {p : Addr} {o : HO} (r : Rl K ca F H st σ A) (nf : ¬ F p) (na : p ∉ A) : Rl K ca F (upd H p o) st σ A := by
  obtain ⟨B, q, e⟩ := r.rep
  have kp : ∀ (a : Addr) (u : HO), a ≠ p → H a = some u → upd H p o a = some u := fun a u n e => by rw [upd_ne n]; exact e
  refine ⟨⟨B, q.stay (fun _ z => z) (fun a u fa ea => kp a u (fun z => nf (z ▸ fa)) ea) (fun a m u ea => kp a u (fun z => na (z ▸ e.mem_iff.mp m)) ea) (fun a m => (r.nf a (e.mem_iff.mp m)).1), e⟩, r.nd, fun a fa => ?_, fun a m => ⟨(r.nf a m).1, ?_⟩⟩
  · obtain ⟨u, ea⟩ := r.fd a fa
    exact ⟨u, kp a u (fun z => nf (z ▸ fa)) ea⟩
  · obtain ⟨u, ea⟩ := (r.nf a m).2
    exact ⟨u, kp a u (fun z => na (z ▸ m)) ea⟩
theorem Reps.beside {ds : List D} {vs : List V} {p : Addr} {o : HO} (r : Reps K ca F H ds vs) (nf : ¬ F p) : Reps K ca F (upd H p o) ds vs := Reps.mono (fun _ z => z) (fun a u fa ea => by
  have n : a ≠ p := fun z => nf (by rw [← z]; exact fa)
  rw [upd_ne n]; exact ea) _ _ r
/-- the block's turns -/
theorem lc_turns {W0 : WX} {J : It} {vs : List Nat} {g : Tg} {c : B'} {el : E} {σ : L2.St} {D0 : Addr} {Qd : Hp → Prop} {items : List D} {F1 : Addr → Prop} {H1 : Hp} {A1 : List Addr} {st1 : Sl} (Bp : List Addr) (hBp : ∀ b ∈ Bp, b ∉ A1)
    (lσ : σ.length ≤ 64) (rl1 : Rl K ca F1 H1 st1 (wipe σ vs) A1) (hw1 : st1 = wipeS vs st1) (n1 : ¬ F1 D0) (n2 : D0 ∉ A1) (n3 : H1 D0 = none) (io : ∀ F H, (∀ a, F1 a → F a) → (∀ a o, F1 a ∨ a ∈ Bp → H1 a = some o → H a = some o) → ∀ i : Nat,
      (items.length ≤ i → J.stop i H) ∧ ∀ d, items[i]? = some d → J.go i H ∧ ∀ x H', J.yld i H x H' → ∃ F', Al F H F' H' ∧ Rep K ca F' H' d x)
    {xs : List D} {stE : Sl} (he : lcL vs g c el items st1 = .ok xs stE) (hl : xs.length < sizeLine)
    (fin : ∀ F H A acc, Rl K ca F H stE (wipe σ vs) A → stE = wipeS vs stE → ¬ F D0 → D0 ∉ A → H D0 = some (.lst acc) → Reps K ca F H xs acc → Step F1 H1 A1 F H (D0 :: A) → Qd H) :
    ∃ W : Nat → Nat → Hp → Prop, (∃ m, W 0 m (upd H1 D0 (.lst []))) ∧ ∀ i m H, W i m H →
      (J.stop i H ∧ Qd H) ∨ (J.go i H ∧ ∃ Nx : Hp → Prop, (∀ H', Nx H' → ∃ m', m' < m ∧ W (i + 1) m' H') ∧ ∀ x H', J.yld i H x H' → tT' K ca (cmpP vs) g x (wipe σ vs) H' fun σ2 H2 => wipe σ2 vs = wipe σ vs ∧ tT K ca W0 c σ2 H2 fun b H3 =>
        if b = true then tE K ca W0 el σ2 H3 fun y H4 => ∃ acc, H4 D0 = some (.lst acc) ∧ acc.length < sizeLine ∧ Nx (upd H4 D0 (.lst (acc ++ [y]))) else Nx H3) := by
  -- the state: what is made so far, what is left
  let St : List D → Hp → Prop := fun ds H => ∃ F A st acc done rest, Rl K ca F H st (wipe σ vs) A ∧ st = wipeS vs st ∧ ¬ F D0 ∧ D0 ∉ A ∧ H D0 = some (.lst acc) ∧ Reps K ca F H done acc ∧ Step F1 H1 A1 F H (D0 :: A) ∧ lcL vs g c el ds st = .ok rest stE ∧ done ++ rest = xs
  refine ⟨fun i m H => ∃ ds, items.drop i = ds ∧ m = ds.length ∧ St ds H, ⟨_, items, rfl, rfl, F1, A1, st1, [], [], xs, rl1.newO n3, hw1, n1, n2, upd_same, .nil, Step.newO n3, he, rfl⟩, ?_⟩
  rintro i m H ⟨ds, hd, rfl, F, A, st, acc, done, rest, rl, hw, nF, nA, hD, rp, s, hr, hx⟩
  have ioH := io F H s.fm (fun a o fa e => by
    refine s.keep a o e fun m => ?_
    rcases fa with fa | fa
    · exact (rl1.nf a m).1 fa
    · exact hBp a fa m) i
  cases ds with
  | nil =>
    have hr : R.ok [] st = R.ok rest stE := hr
    cases hr
    rw [List.append_nil] at hx
    subst hx
    exact .inl ⟨ioH.1 (List.drop_eq_nil_iff.mp hd), fin F H A acc rl hw nF nA hD rp s⟩
  | cons d ds =>
    obtain ⟨hi1, hi2⟩ := drop_get hd
    obtain ⟨go, yl⟩ := ioH.2 d hi1
    refine .inr ⟨go, fun H' => St ds H', fun H' q => ⟨ds.length, Nat.lt_succ_self _, ds, hi2, rfl, q⟩, fun x Hy hy => ?_⟩
    obtain ⟨Fy, al, rpx⟩ := yl x Hy hy
    have rly := al.rl rl
    have nFy : ¬ Fy D0 := fun q => by
      rcases al.fnew D0 q with z | ⟨z, _⟩
      · exact nF z
      · rw [hD] at z; cases z
    have hr : (match g d st with
      | none => R.bad
      | some st1 => (match c st1 with
        | .ok true st2 => (match el st2 with
          | .ok x st3 => (lcL vs g c el ds (wipeS vs st3)).bind fun xs st => .ok (x :: xs) st
          | _ => .bad)
        | .ok false st2 => lcL vs g c el ds (wipeS vs st2)
        | _ => .bad)) = .ok rest stE := hr
    cases zg : g d st with
    | none => rw [zg] at hr; cases hr
    | some st2 =>
      simp only [zg] at hr
      refine ⟨Fy, st, A, d, st2, rly, rpx, zg, fun σ2 F2 H2 A2 rl2 s2 p2 => ⟨wipe_pin lσ p2, F2, st2, A2, rl2, ?_⟩⟩
      have hwp := wipe_pin lσ p2
      have lσ2 : σ2.length = σ.length := by rw [p2.1, wipe_length]
      cases zc : c st2 with
      | bad => simp only [zc] at hr; cases hr
      | exc _ _ _ => simp only [zc] at hr; cases hr
      | ok b st3 =>
        intro F3 H3 A3 rl3 s3
        have s03 : Step F H A F3 H3 A3 := al.step.trans (s2.trans s3)
        have hD3 : H3 D0 = some (.lst acc) := s03.keep D0 _ hD nA
        have nF3 : ¬ F3 D0 := fun q => by
          rcases s03.fnew D0 q with z | z | z
          · exact nF z
          · rw [hD] at z; cases z
          · exact nA z
        have nA3 : D0 ∉ A3 := fun q => by
          rcases s03.anew D0 q with z | z
          · exact nA z
          · rw [hD] at z; cases z
        have rp3 := rp.step s03 rl
        cases b with
        | false =>
          simp only [zc] at hr
          show if false = true then _ else _
          rw [if_neg Bool.false_ne_true]
          obtain ⟨A4, sub, rl4⟩ := rl3.wiped (vs := vs)
          rw [hwp] at rl4
          refine ⟨F3, A4, wipeS vs st3, acc, done, rest, rl4, ?_, nF3, fun m => nA3 (sub _ m), hD3, rp3, ?_, hr, hx⟩
          · exact wipeS_idem
          · have t := pend_step (B1 := [D0]) s s03
            exact ⟨t.fm, t.keep, t.dom, t.fnew, fun y m => by
              rcases List.mem_cons.mp m with m | m
              · exact t.anew y (m ▸ List.mem_cons_self)
              · exact t.anew y (List.mem_cons_of_mem _ (sub y m))⟩
        | true =>
          simp only [zc] at hr
          show if true = true then _ else _
          rw [if_pos rfl]
          cases ze : el st3 with
          | bad => simp only [ze] at hr; cases hr
          | exc _ _ _ => simp only [ze] at hr; cases hr
          | ok y st4 =>
            simp only [ze] at hr
            refine ⟨F3, st3, A3, rl3, ?_⟩
            rw [ze]
            intro v F4 H4 A4 rl4 rp4 s4
            have s04 : Step F H A F4 H4 A4 := s03.trans s4
            have hD4 : H4 D0 = some (.lst acc) := s4.keep D0 _ hD3 nA3
            have nF4 : ¬ F4 D0 := fun q => by
              rcases s4.fnew D0 q with z | z | z
              · exact nF3 z
              · rw [hD3] at z; cases z
              · exact nA3 z
            have nA4 : D0 ∉ A4 := fun q => by
              rcases s4.anew D0 q with z | z
              · exact nA3 z
              · rw [hD3] at z; cases z
            cases zr : lcL vs g c el ds (wipeS vs st4) with
            | bad => simp only [zr, R.bind] at hr; cases hr
            | exc _ _ _ => simp only [zr, R.bind] at hr; cases hr
            | ok r2 st5 =>
              simp only [zr, R.bind] at hr
              cases hr
              have la : acc.length < sizeLine := by
                have e1 := rp.length
                have e2 := congrArg List.length hx
                rw [List.length_append, List.length_cons] at e2
                omega
              obtain ⟨A5, sub, rl5⟩ := rl4.wiped (vs := vs)
              rw [hwp] at rl5
              have rp5 := (rp3.step s4 rl3).append (.cons rp4 .nil)
              have nA5 : D0 ∉ A5 := fun m => nA4 (sub _ m)
              refine ⟨acc, hD4, la, F4, A5, wipeS vs st4, acc ++ [v], done ++ [y], r2, rl5.beside nF4 nA5, ?_, nF4, nA5, upd_same, rp5.beside nF4, ?_, zr, by rw [List.append_assoc]; exact hx⟩
              · exact wipeS_idem
              · have t := pend_step (B1 := [D0]) s s04
                refine ⟨t.fm, fun a o e n => ?_, fun a o e => ?_, t.fnew, fun y m => ?_⟩
                · have na : a ≠ D0 := fun z => by rw [z, n3] at e; cases e
                  rw [upd_ne na]
                  exact t.keep a o e n
                · have na : a ≠ D0 := fun z => by rw [z, n3] at e; cases e
                  rw [upd_ne na]
                  exact t.dom a o e
                · rcases List.mem_cons.mp m with m | m
                  · exact t.anew y (m ▸ List.mem_cons_self)
                  · exact t.anew y (List.mem_cons_of_mem _ (sub y m))
end
section
variable {X : Cx} {ca : Ca} {P : List Nat} {ro : Bool} {W : WX} {elt tg iter : Expr} {ifs : List Expr} {scope : Scope} {own : List (Str × Nat)} {pos pos' : Pos} {it : IE} {g : Tg} {c : B'} {el : E}
abbrev W0 : WX := fun _ _ _ _ => False
theorem lc_run {σ : L2.St} {H : Hp} {Q : VK} {vs : List Nat} (h : tO X.K ca W (eLc vs it g c el) σ H Q) : tLc (tI X.K ca W it) (tT' X.K ca (cmpP vs) g) (tT X.K ca W0 c) (tE X.K ca W0 el) vs σ H Q := by
  obtain ⟨F, st, A, rl, q⟩ := tO_iff.mp h
  refine ⟨F, st, A, rl, ?_⟩
  unfold eLc at q
  cases z : it st with
  | bad => rw [z] at q; exact q
  | exc c x s => rw [z] at q; exact q
  | ok items st1 =>
    rw [z] at q
    simp only [R.bind] at q
    intro J F1 H1 A1 rl1 io s1 D0 n3
    cases zf : frozenAt st1 vs && decide (st1.length ≤ 64) with
    | false => simp only [zf] at q; exact q.elim
    | true =>
      simp only [zf] at q
      obtain ⟨z1, z2⟩ := Bool.and_eq_true_iff.mp zf
      cases zl : lcL vs g c el items (wipeS vs st1) with
      | bad => simp only [zl] at q; exact q.elim
      | exc cx x s =>
        exfalso
        -- no exception comes out of the block
        have : ∀ (ds : List D) (st : Sl) c' x s, lcL vs g c el ds st ≠ .exc c' x s := by
          intro ds
          induction ds with
          | nil => intro st c' x s e; cases e
          | cons d ds ih =>
            intro st c' x s e
            unfold lcL at e
            split at e
            · cases e
            · split at e
              · split at e
                · rename_i st3 _
                  cases zz : lcL vs g c el ds (wipeS vs st3) with
                  | bad => rw [zz] at e; cases e
                  | exc _ _ _ => exact ih _ _ _ _ zz
                  | ok _ _ => rw [zz] at e; cases e
                · cases e
              · exact ih _ _ _ _ e
              · cases e
        exact this _ _ _ _ _ zl
      | ok xs stE =>
        simp only [zl] at q
        by_cases hl : xs.length < sizeLine
        · rw [if_pos hl] at q
          have lσ : σ.length ≤ 64 := by rw [rl1.len]; exact of_decide_eq_true z2
          obtain ⟨A2, sub, rl2⟩ := rl1.wiped (vs := vs)
          obtain ⟨n1, n2⟩ := rl1.fresh n3
          refine lc_turns [] (fun b m => by cases m) lσ rl2 ?_ n1 (fun m => n2 (sub _ m)) n3 io zl hl fun F3 H3 A3 acc rl3 hw nF nA hD rp s => ?_
          · exact wipeS_idem
          · rw [hw] at rl3
            have kF : ∀ a o, F1 a → H1 a = some o → H3 a = some o := fun a o fa e => s.keep a o e fun m => (rl2.nf a m).1 fa
            have r4 := Rl.backs rl1 z1 s.fm kF rl3
            rw [← hw] at r4
            have s2 : Step F1 H1 A1 F3 H3 ([D0] ++ A3) := (Step.sub sub).trans s
            exact q (.ref D0) F3 H3 A3 [D0] r4 ⟨D0, acc, rfl, rfl, nF, hD, rp⟩ (List.nodup_cons.mpr ⟨nA, rl3.nd⟩) (s1.trans s2)
        · rw [if_neg hl] at q; exact q.elim
theorem so_lc (hc : X.calm = true) (hN : X.N.Nodup) (hi : PI X tg iter (tI X.K ca W it)) (ok : BlkOk X.N X.env.scope scope own)
    (hg : ∀ (s : Shared) (H : Hp) (C : Addr) (cl : List (Str × Addr)) (fp : List Addr), PG (X.blk s H scope (compEnvC scope cl C X.env) fp) tg (tT' X.K ca (cmpP (own.map (·.2))) g))
    (ht : ∀ (s : Shared) (H : Hp) (C : Addr) (cl : List (Str × Addr)) (fp : List Addr), PTs (X.blk s H scope (compEnvC scope cl C X.env) fp) ifs (tT X.K ca W0 c))
    (he : ∀ (s : Shared) (H : Hp) (C : Addr) (cl : List (Str × Addr)) (fp : List Addr), PE (X.blk s H scope (compEnvC scope cl C X.env) fp) elt (tE X.K ca W0 el)) (hs : ∀ x, foldedSetIterable iter X.env x = pure x := by intro _; rfl) :
    PE X (.ListComp elt [⟨tg, iter, ifs, 0⟩] scope pos) (tO X.K ca W (eLc (own.map (·.2)) it g c el)) := PE.imp (pe_lc hc hN hi ok hg ht he hs) fun σ H Q h => lc_run h
theorem tYes_run {K : PySem.W.Frag} {σ : L2.St} {H : Hp} {Q : Bool → Hp → Prop} (h : tT K ca W mYes σ H Q) : tYes σ H Q := tT_ok h
theorem sts_nil : PTs X [] (tT X.K ca W mYes) := ⟨fun pins s σ H Q I h => (pts_nil (X := X)).run pins s σ H Q I (tYes_run h)⟩
theorem sts_one {cc : Expr} (h : PT X cc (tT X.K ca W c)) : PTs X [cc] (tT X.K ca W c) := pts_one h
/-- y = [..] on one line -/
theorem ss_setLc {i : Nat} {y : Str} {py spos : Pos} (frz : Bool) (hc : X.calm = true) (hN : X.N.Nodup) (hy : X.N[i]? = some y) (hyl : X.env.scope.names.lookup y = some .local)
    (hsw : swapsWith (.ListComp elt [⟨tg, iter, ifs, 0⟩] scope pos) (some (.Name y py)) spos.line X.env = pure true) (hi : PI X tg iter (tI X.K ca W it)) (ok : BlkOk X.N X.env.scope scope own)
    (hg : ∀ (s : Shared) (H : Hp) (C : Addr) (cl : List (Str × Addr)) (fp : List Addr), PG (X.blk s H scope (compEnvC scope cl C X.env) fp) tg (tT' X.K ca (cmpP (own.map (·.2))) g))
    (ht : ∀ (s : Shared) (H : Hp) (C : Addr) (cl : List (Str × Addr)) (fp : List Addr), PTs (X.blk s H scope (compEnvC scope cl C X.env) fp) ifs (tT X.K ca W0 c))
    (he : ∀ (s : Shared) (H : Hp) (C : Addr) (cl : List (Str × Addr)) (fp : List Addr), PE (X.blk s H scope (compEnvC scope cl C X.env) fp) elt (tE X.K ca W0 el)) (hp : P.contains i = false := by rfl) (hs : ∀ x, foldedSetIterable iter X.env x = pure x := by intro _; rfl) :
    PS X (.Assign [.Name y py] (.ListComp elt [⟨tg, iter, ifs, 0⟩] scope pos) spos) (tS X.K ca P ro W (match frz with | true => sSet i (eFr (eLc (own.map (·.2)) it g c el)) | false => sSetO i (eLc (own.map (·.2)) it g c el))) :=
  PS.imp (ps_setLc hc hN hy hyl hsw hi ok hg ht he hs) fun Z σ H h => by
    cases frz with
    | false => exact lc_run (tS_o (k := fun d st => setC i (.o d) st) h fun d v F H st A B F0 H0 A0 r ow nd s h => setC_o r ow nd s h hp)
    | true =>
      have h1 : tE X.K ca W (eFr (eLc (own.map (·.2)) it g c el)) σ H fun v H1 => gName i v σ H1 Z.nx := tS_e (k := fun d st => setC i (.f d) st) h fun d v F H st A r rp h => setC_f r rp h hp
      refine lc_run (tO_iff.mpr ?_)
      obtain ⟨F, st, A, rl, q⟩ := tE_iff.mp h1
      refine ⟨F, st, A, rl, ?_⟩
      unfold eFr at q
      cases zz : eLc (own.map (·.2)) it g c el st with
      | bad => rw [zz] at q; exact q
      | exc c x s => rw [zz] at q; exact q
      | ok d s1 =>
        rw [zz] at q
        simp only [R.bind] at q
        cases gz : fzOk d with
        | false => simp only [gz] at q; exact q.elim
        | true =>
          simp only [gz] at q
          intro v F1 H1 A1 B rl1 ow nd s1
          have dj : ∀ a ∈ B, a ∉ A1 := fun a m m' => (List.nodup_append.mp nd).2.2 a m a m' rfl
          refine q v _ H1 A1 (rl1.fz (B := B) (fun a m => (ow.nf a m).2) dj) (ow.fz gz) ⟨fun a m => .inl (s1.fm a m), s1.keep, s1.dom, fun a m => ?_, fun a m => s1.anew a (List.mem_append_right _ m)⟩
          rcases m with m | m
          · exact s1.fnew a m
          · rcases s1.anew a (List.mem_append_left _ m) with z | z
            · exact .inr (.inr z)
            · exact .inr (.inl z)
end
end Ev
namespace Ev
open PySem PySem.Spec PyProof.Rows L2
def setAll : List Nat → List AV → Sl → Option Sl
  | [], [], st => some st
  | i :: is, .d d :: as, st => (match st[i]? with
    | some _ => setAll is as (st.set i (.f d))
    | none => none)
  | i :: is, .o d :: as, st => (match st[i]? with
    | some _ => setAll is as (st.set i (.o d))
    | none => none)
  | _, _, _ => none
def sPar (is : List Nat) (ps : List Arg) : S := fun st => (evArgs ps st).bind fun as st => match setAll is as st with
  | some st => .ok .nx st
  | none => .bad
def setV : List Nat → List V → L2.St → L2.St
  | i :: is, v :: vs, σ => setV is vs (σ.set i (some v))
  | _, _, σ => σ
section
variable {K : PySem.W.Frag} {ca : Ca} {P : List Nat} {ro : Bool} {W : WX} {F F1 : Addr → Prop} {H H1 : Hp} {A A1 : List Addr} {σ : L2.St}
theorem setAll_run : ∀ {is : List Nat} {as : List AV} {st st' : Sl} {σ σ0 : L2.St} {vs : List V} {A B : List Addr} {F0 : Addr → Prop} {H0 : Hp}, Rl K ca F H st σ A → RepVs K ca F H σ0 as vs B → (B ++ A).Nodup → setAll is as st = some st' → (∀ i ∈ is, P.contains i = false) →
    ∃ A', Rl K ca F H st' (setV is vs σ) A' ∧ (∀ a ∈ A', a ∈ B ++ A) ∧ Pin P σ (setV is vs σ)
  | [], as, st, st', σ, σ0, vs, A, B, F0, H0, rl, rv, nd, e, hp => by
    cases as with
    | cons a as => cases a <;> cases e
    | nil =>
      cases e
      exact ⟨A, by cases vs <;> exact rl, fun a m => List.mem_append_right _ m, by cases vs <;> exact .refl⟩
  | i :: is, as, st, st', σ, σ0, vs, A, B, F0, H0, rl, rv, nd, e, hp => by
    cases as with
    | nil => cases e
    | cons a as =>
      obtain ⟨v, r, B1, B2, rfl, rfl, rv1, rvs⟩ := rv
      cases a with
      | sl j => cases e
      | d d =>
        obtain ⟨rfl, rp⟩ := rv1
        cases z : st[i]? with
        | none => simp only [setAll, z] at e; cases e
        | some c =>
          simp only [setAll, z] at e
          obtain ⟨C, sub, r2⟩ := rl.asg (i := i) (c := .f d) (v := v) (B := []) (List.getElem?_eq_some_iff.mp z).1 ⟨rfl, v, rfl, rp⟩ rl.nd
          have nd2 : (B2 ++ C).Nodup := List.nodup_append.mpr ⟨(List.nodup_append.mp nd).1, r2.nd, fun x m y m' => (List.nodup_append.mp nd).2.2 x m y (sub y m')⟩
          obtain ⟨A', r3, s3, p3⟩ := setAll_run (F0 := F0) (H0 := H0) r2 rvs nd2 e fun j m => hp j (List.mem_cons_of_mem _ m)
          refine ⟨A', r3, fun x m => ?_, (Pin.set (hp i List.mem_cons_self)).trans p3⟩
          rcases List.mem_append.mp (s3 x m) with q | q
          · exact List.mem_append_left _ q
          · exact List.mem_append_right _ (sub x q)
      | o d =>
        cases z : st[i]? with
        | none => simp only [setAll, z] at e; cases e
        | some c =>
          simp only [setAll, z] at e
          rw [List.append_assoc] at nd
          have p : (B1 ++ (B2 ++ A)).Perm (B2 ++ (B1 ++ A)) := by
            rw [← List.append_assoc, ← List.append_assoc]
            exact List.perm_append_comm.append_right A
          have ndp := p.nodup_iff.mp nd
          obtain ⟨C, sub, r2⟩ := rl.asg (i := i) (c := .o d) (v := v) (B := B1) (List.getElem?_eq_some_iff.mp z).1 ⟨v, rfl, rv1⟩ (List.nodup_append.mp ndp).2.1
          have sub2 : ∀ x ∈ B1 ++ C, x ∈ B1 ++ A := fun x m => (List.mem_append.mp m).elim (fun q => List.mem_append_left _ q) fun q => List.mem_append_right _ (sub x q)
          have nd2 : (B2 ++ (B1 ++ C)).Nodup := List.nodup_append.mpr ⟨(List.nodup_append.mp ndp).1, r2.nd, fun x m y m' => (List.nodup_append.mp ndp).2.2 x m y (sub2 y m')⟩
          obtain ⟨A', r3, s3, p3⟩ := setAll_run (F0 := F0) (H0 := H0) r2 rvs nd2 e fun j m => hp j (List.mem_cons_of_mem _ m)
          refine ⟨A', r3, fun x m => ?_, (Pin.set (hp i List.mem_cons_self)).trans p3⟩
          rw [List.append_assoc]
          rcases List.mem_append.mp (s3 x m) with q | q
          · exact List.mem_append_right _ (List.mem_append_left _ q)
          · rcases List.mem_append.mp (sub2 x q) with q | q
            · exact List.mem_append_left _ q
            · exact List.mem_append_right _ (List.mem_append_right _ q)
/-- arguments ahead of a statement's rest -/
theorem par_run {is : List Nat} {ps : List Arg} {Z : Ends} {H : Hp} {Q : List V → Hp → Prop} (hp : ∀ i ∈ is, P.contains i = false) (h : tS K ca P ro W (sPar is ps) Z σ H)
    (q : ∀ vs H', vs.length = is.length → Z.nx (setV is vs σ) H' → (∀ p o, H' p = none → Z.nx (setV is vs σ) (upd H' p o)) → Q vs H') : tGs K ca W ps σ H Q := by
  obtain ⟨F, st, A, rl, h⟩ := h
  refine args_run rl ?_
  unfold sPar at h
  cases z : evArgs ps st with
  | bad => rw [z] at h; exact h
  | exc c x s => rw [z] at h; exact fun cls oe F' H' A' r xi s => h cls oe σ F' H' A' r xi s .refl
  | ok as st1 =>
    rw [z] at h
    simp only [R.bind] at h
    intro vs F1 H1 A1 B rl1 rvs nd s1
    cases z2 : setAll is as st1 with
    | none => simp only [z2] at h; exact h.elim
    | some st2 =>
      simp only [z2] at h
      obtain ⟨A', r2, sub, p2⟩ := setAll_run (F0 := F1) (H0 := H1) rl1 rvs nd z2 hp
      have sN := s1.trans (Step.sub sub)
      refine q vs H1 ?_ (h _ F1 H1 A' r2 sN p2) fun p o n => h _ F1 _ A' (r2.newO n) (sN.trans ⟨fun _ z => z, fun a u e _ => by rw [upd_ne (ne_of_none e n)]; exact e, fun a u e => ⟨u, by rw [upd_ne (ne_of_none e n)]; exact e⟩, fun _ z => .inl z, fun _ z => .inl z⟩) p2
      have len : ∀ {is : List Nat} {as : List AV} {st st' : Sl}, setAll is as st = some st' → as.length = is.length := by
        intro is
        induction is with
        | nil => intro as st st' e; cases as with | nil => rfl | cons a as => cases a <;> cases e
        | cons i is ih =>
          intro as st st' e
          cases as with
          | nil => cases e
          | cons a as =>
            cases a with
            | sl j => cases e
            | d d =>
              cases zz : st[i]? with
              | none => simp only [setAll, zz] at e; cases e
              | some c => simp only [setAll, zz] at e; rw [List.length_cons, List.length_cons, ih e]
            | o d =>
              cases zz : st[i]? with
              | none => simp only [setAll, zz] at e; cases e
              | some c => simp only [setAll, zz] at e; rw [List.length_cons, List.length_cons, ih e]
      rw [RepVs.sl rvs, len z2]
end
section
variable {X : Cx} {ca : Ca} {P : List Nat} {ro : Bool} {W : WX} {a b c : Expr} {es ts : List Expr} {ps : List Arg} {i j l : Nat} {x y z : Str} {px py pz pt pos : Pos} {kt k2 : Nat} {pt2 : Pos} {is : List Nat}
theorem ss_par2 (hc : X.calm = true) (hN : X.N.Nodup) (hi : X.N[i]? = some x) (hj : X.N[j]? = some y) (hij : i ≠ j) (hx : X.env.scope.names.lookup x = some .local) (hy : X.env.scope.names.lookup y = some .local) (ha : PA X [a, b] (tGs X.K ca W ps))
    (hw : swappedStores [.Tuple [.Name x px, .Name y py] kt pt] (.Tuple [a, b] k2 pt2) X.env = pure (some [x, y])) (hp : [i, j].all (fun i => !P.contains i) = true := by rfl)
    (hs : swapsWithSole [.Tuple [.Name x px, .Name y py] kt pt] (.Tuple [a, b] k2 pt2) pos.line X.env = pure false := by rfl) :
    PS X (.Assign [.Tuple [.Name x px, .Name y py] kt pt] (.Tuple [a, b] k2 pt2) pos) (tS X.K ca P ro W (sPar [i, j] ps)) :=
  PS.imp (ps_par hc hN hi hj hij hx hy ha hw hs) fun Z σ H h => par_run (fun i m => by simpa using List.all_eq_true.mp hp i m) h fun vs H' l q _ => by
    match vs, l with
    | [v, w], _ => exact ⟨v, w, rfl, q⟩
theorem ss_par3 (hc : X.calm = true) (hN : X.N.Nodup) (hi : X.N[i]? = some x) (hj : X.N[j]? = some y) (hl : X.N[l]? = some z) (hij : i ≠ j) (hil : i ≠ l) (hjl : j ≠ l) (hx : X.env.scope.names.lookup x = some .local) (hy : X.env.scope.names.lookup y = some .local) (hz : X.env.scope.names.lookup z = some .local)
    (ha : PA X [a, b, c] (tGs X.K ca W ps)) (hw : swappedStores [.Tuple [.Name x px, .Name y py, .Name z pz] kt pt] (.Tuple [a, b, c] k2 pt2) X.env = pure (some [x, y, z])) (hp : [i, j, l].all (fun i => !P.contains i) = true := by rfl)
    (hs : swapsWithSole [.Tuple [.Name x px, .Name y py, .Name z pz] kt pt] (.Tuple [a, b, c] k2 pt2) pos.line X.env = pure false := by rfl) :
    PS X (.Assign [.Tuple [.Name x px, .Name y py, .Name z pz] kt pt] (.Tuple [a, b, c] k2 pt2) pos) (tS X.K ca P ro W (sPar [i, j, l] ps)) :=
  PS.imp (ps_par3 hc hN hi hj hl hij hil hjl hx hy hz ha hw hs) fun Z σ H h => par_run (fun i m => by simpa using List.all_eq_true.mp hp i m) h fun vs H' l q _ => by
    match vs, l with
    | [v, w, u], _ => exact ⟨v, w, u, rfl, q⟩
/-- names one after another -/
def gNames : List Nat → TGs
  | [] => gNil
  | i :: is => gCons (gName i) (gNames is)
theorem gNames_run : ∀ {is : List Nat} {vs : List V} {σ : L2.St} {H : Hp} {Q : L2.St → Hp → Prop}, vs.length = is.length → Q (setV is vs σ) H → gNames is vs σ H Q
  | [], vs, σ, H, Q, l, q => by
    have : vs = [] := List.eq_nil_of_length_eq_zero l
    subst this
    exact ⟨rfl, q⟩
  | i :: is, vs, σ, H, Q, l, q => by
    cases vs with
    | nil => cases l
    | cons v vs => exact ⟨v, vs, rfl, gNames_run (by simpa using l) q⟩
/-- .. where the tuple is laid -/
theorem ss_parT (hc : X.calm = true) (hg : PGs X ts (gNames is)) (ha : PA X es (tGs X.K ca W ps)) (hle : is.length ≤ 1000 := by decide) (hn : (assignEach ts X.env).length = is.length := by rfl) (hst : (assignEach ts X.env).findIdx? (·.1) = none := by rfl) (hp : is.all (fun i => !P.contains i) = true := by rfl)
    (hs : swapsWithSole [.Tuple ts kt pt] (.Tuple es k2 pt2) pos.line X.env = pure false := by rfl) (hw : swappedStores [.Tuple ts kt pt] (.Tuple es k2 pt2) X.env = pure none := by rfl)
    (h1 : (assignEach [.Tuple ts kt pt] X.env).map (·.2) = [assign (.Tuple ts kt pt) X.env] := by rfl) : PS X (.Assign [.Tuple ts kt pt] (.Tuple es k2 pt2) pos) (tS X.K ca P ro W (sPar is ps)) :=
  PS.imp (ps_asg (pe_tup ha) (pg_tup hc hg hn hst) hs hw h1) fun Z σ H h => par_run (fun i m => by simpa using List.all_eq_true.mp hp i m) h fun vs H' l _ q =>
    ⟨by rw [l]; exact Nat.le_of_lt (small1000 hle), fun p n => ⟨p, vs, rfl, .of upd_same, l, gNames_run l (q p _ n)⟩⟩
end
def keepF (P : List Nat) : Nat → Sl → Sl
  | _, [] => []
  | i, c :: cs => (match P.contains i with
    | true => c
    | false => .n) :: keepF P (i + 1) cs
/-- the slots N, the parameters np of them, those at P may be changed by the def -/
def runF (N np : Nat) (P : List Nat) (b : S) : MF := fun cs => match decide (cs.length = np) with
  | true => (match b (cs ++ List.replicate (N - np) .n) with
    | .ok (.rt d) st => .ok d (keepF P 0 (st.take np))
    | .ok .nx st => .ok .non (keepF P 0 (st.take np))
    | .exc c x st => .exc c x (keepF P 0 (st.take np))
    | _ => .bad)
  | false => .bad
section
variable {K : PySem.W.Frag} {ca : Ca} {F : Addr → Prop} {H : Hp} {A : List Addr}
theorem RepS.keep {P : List Nat} : ∀ {st : Sl} {σ : L2.St} {B : List Addr} (i : Nat), RepS K ca F H st σ B → ∃ B', RepS K ca F H (keepF P i st) σ B' ∧ B'.Sublist B
  | [], σ, B, i, h => ⟨B, h, .refl _⟩
  | c :: cs, σ, B, i, h => by
    obtain ⟨x, r, B1, C, rfl, rfl, h1, h2⟩ := h
    obtain ⟨C', h3, s⟩ := RepS.keep (P := P) (i + 1) h2
    unfold keepF
    cases P.contains i with
    | true => exact ⟨B1 ++ C', ⟨x, r, B1, C', rfl, rfl, h1, h3⟩, s.append_left B1⟩
    | false => exact ⟨C', ⟨x, r, [], C', rfl, rfl, rfl, h3⟩, s.trans (List.sublist_append_right _ _)⟩
theorem RepS.takeN : ∀ {st : Sl} {σ : L2.St} {B : List Addr} (n : Nat), RepS K ca F H st σ B → ∃ B', RepS K ca F H (st.take n) (σ.take n) B' ∧ B'.Sublist B
  | st, σ, B, 0, h => ⟨[], by rw [List.take_zero, List.take_zero]; exact ⟨rfl, rfl⟩, List.nil_sublist _⟩
  | [], σ, B, n + 1, h => by
    obtain ⟨rfl, rfl⟩ := h
    exact ⟨[], ⟨rfl, rfl⟩, .refl _⟩
  | c :: cs, σ, B, n + 1, h => by
    obtain ⟨x, r, B1, C, rfl, rfl, h1, h2⟩ := h
    obtain ⟨C', h3, s⟩ := RepS.takeN n h2
    exact ⟨B1 ++ C', ⟨x, r.take n, B1, C', rfl, rfl, h1, h3⟩, s.append_left B1⟩
theorem keepF_get {P : List Nat} : ∀ {st : Sl} {i j : Nat}, (keepF P i st)[j]? = (st[j]?).map fun c => match P.contains (i + j) with | true => c | false => Cell.n
  | [], i, j => by simp [keepF]
  | c :: cs, i, 0 => by simp [keepF]
  | c :: cs, i, j + 1 => by
    unfold keepF
    rw [List.getElem?_cons_succ, List.getElem?_cons_succ, keepF_get]
    congr 1
    funext c
    rw [show i + 1 + j = i + (j + 1) by omega]
theorem RepS.ext : ∀ {st : Sl} {σ : L2.St} {B : List Addr} (n : Nat), RepS K ca F H st σ B → RepS K ca F H (st ++ List.replicate n .n) (σ ++ List.replicate n none) B
  | [], σ, B, n, h => by
    obtain ⟨rfl, rfl⟩ := h
    rw [List.nil_append, List.nil_append]
    induction n with
    | zero => exact ⟨rfl, rfl⟩
    | succ n ih => exact ⟨none, _, [], [], rfl, rfl, rfl, ih⟩
  | c :: cs, σ, B, n, h => by
    obtain ⟨x, r, B1, C, rfl, rfl, h1, h2⟩ := h
    exact ⟨x, _, B1, C, rfl, rfl, h1, h2.ext n⟩
/-- what the caller gets back of the slots -/
theorem Rl.keep {P : List Nat} {st : Sl} {σ σ0 : L2.St} {vs : List V} (h : Rl K ca F H st σ A) (p : Pin P σ0 σ) (e : ∀ i, i < vs.length → σ0[i]? = some ((vs[i]?))) (l : vs.length ≤ σ0.length) :
    ∃ A', (∀ a ∈ A', a ∈ A) ∧ Rl K ca F H (keepF P 0 (st.take vs.length)) (vs.map some) A' := by
  obtain ⟨B, q, pm⟩ := h.rep
  obtain ⟨B1, q1, s1⟩ := q.takeN vs.length
  obtain ⟨B2, q2, s2⟩ := RepS.keep (P := P) 0 q1
  have sub : B2.Sublist B := s2.trans s1
  have lσ : σ.length = σ0.length := p.1
  have q3 : RepS K ca F H (keepF P 0 (st.take vs.length)) (vs.map some) B2 := q2.eqs (by rw [List.length_map, List.length_take]; omega) fun i hi hn => by
    rw [keepF_get] at hn
    cases z : (st.take vs.length)[i]? with
    | none => rw [← q2.length, List.length_take] at hi; rw [List.getElem?_eq_none_iff, List.length_take] at z; have := q.length; omega
    | some c =>
      rw [z] at hn
      simp only [Option.map_some, Nat.zero_add] at hn
      cases zp : P.contains i with
      | false => rw [zp] at hn; exact absurd rfl hn
      | true =>
        have hv : i < vs.length := by rw [← q2.length, List.length_take] at hi; omega
        rw [List.getElem?_take, if_pos hv, p.2 i (List.contains_iff_mem.mp zp), e i hv, List.getElem?_map]
        rw [List.getElem?_eq_getElem hv]; rfl
  refine ⟨B2, fun a m => pm.mem_iff.mp (sub.subset m), ⟨B2, q3, .refl _⟩, (pm.nodup_iff.mpr h.nd).sublist sub, h.fd, fun a m => h.nf a (pm.mem_iff.mp (sub.subset m))⟩
end
section
variable {Pr : Program} {w : World} {K : PySem.W.Frag} {mg : Str → Option Value} {base : Heap} {ca : Ca} {P : List Nat} {b : S} {x qual : Str} {st : Stmt} {f : Addr} {fd : FuncData} {N ps : List Str} {k : Nat}
theorem start_get {vs : List V} {i : Nat} (h : i < vs.length) : (L2.start N vs)[i]? = some vs[i]? := by
  unfold L2.start
  rw [List.getElem?_append_left (by rw [List.length_map]; exact h), List.getElem?_map, List.getElem?_eq_getElem h]; rfl
theorem fnE (F : Fun K x qual st f fd) (S : FnScope N ps (defScope st))
    (body : ∀ (cdv : Value) (A : Around) (outer : List Env) (s : Shared) (H : Hp) (E : XK), Room k (A.deeper (envOfC qual (defScope st) s.heap.objs.size f cdv)) →
      PSs (cxOf (L2.CX Pr w) Pr w K mg base N qual (defScope st) f cdv A outer s H E) (defBody st) (tS K ca P false (fun cls d _ H => E cls d H) b)) :
    FnOk Pr w K mg base (L2.CX Pr w) (k + 1) f fd ps (spE K ca (runF N.length ps.length P b)) := by
  have len : ∀ vs H Q E, spE K ca (runF N.length ps.length P b) vs H Q E → vs.length = ps.length := fun vs H Q E h => by
    obtain ⟨F, cs, A, rl, q⟩ := h
    unfold runF at q
    cases z : decide (cs.length = ps.length) with
    | false => simp only [z] at q
    | true =>
      have l := rl.len
      rw [List.length_map] at l
      rw [l]
      exact of_decide_eq_true z
  refine F.okX S len fun cdv A outer s H vs Q E hr h => ⟨_, body cdv A outer s H E hr, ?_⟩
  have hl := len vs H Q E h
  obtain ⟨F, cs, A, rl, q⟩ := h
  unfold runF at q
  cases z : decide (cs.length = ps.length) with
  | false => simp only [z] at q
  | true =>
    simp only [z] at q
    obtain ⟨B, rs, pm⟩ := rl.rep
    have rl0 : Rl K ca F H (cs ++ List.replicate (N.length - ps.length) .n) (L2.start N vs) A := by
      unfold L2.start
      rw [hl]
      exact ⟨⟨B, rs.ext _, pm⟩, rl.nd, rl.fd, rl.nf⟩
    have lv : vs.length ≤ (L2.start N vs).length := by unfold L2.start; rw [List.length_append, List.length_map]; omega
    refine ⟨F, _, A, rl0, ?_⟩
    have kp : ∀ {st' σ' F' H' A'}, Rl K ca F' H' st' σ' A' → Pin P (L2.start N vs) σ' → ∃ A'', (∀ a ∈ A'', a ∈ A') ∧ Rl K ca F' H' (keepF P 0 (st'.take ps.length)) (vs.map some) A'' := fun rl' p => by
      rw [← hl]
      exact rl'.keep p (fun i h => start_get h) lv
    cases zb : b (cs ++ List.replicate (N.length - ps.length) .n) with
    | bad => simp only [zb] at q
    | exc c x st' =>
      simp only [zb] at q
      intro cls oe σ' F' H' A' rl' xi s p
      obtain ⟨A'', sub, rl2⟩ := kp rl' p
      exact q cls oe F' H' A'' rl2 xi (s.trans (Step.sub sub))
    | ok fl st' =>
      cases fl with
      | bk => simp only [zb] at q
      | ct => simp only [zb] at q
      | nx =>
        simp only [zb] at q
        intro σ' F' H' A' rl' s p
        obtain ⟨A'', sub, rl2⟩ := kp rl' p
        exact q .non F' H' A'' rl2 non_rep (s.trans (Step.sub sub))
      | rt d =>
        simp only [zb] at q
        intro v σ' F' H' A' rl' rp s p
        obtain ⟨A'', sub, rl2⟩ := kp rl' p
        exact q v F' H' A'' rl2 rp (s.trans (Step.sub sub))
/-- a def whose answer is new -/
def runO (N np : Nat) (P : List Nat) (b : S) : MF := fun cs => match decide (cs.length = np) with
  | true => (match b (cs ++ List.replicate (N - np) .n) with
    | .ok (.rt d) st => .ok d (keepF P 0 (st.take np))
    | .exc c x st => .exc c x (keepF P 0 (st.take np))
    | _ => .bad)
  | false => .bad
theorem fnO (F : Fun K x qual st f fd) (S : FnScope N ps (defScope st))
    (body : ∀ (cdv : Value) (A : Around) (outer : List Env) (s : Shared) (H : Hp) (E : XK), Room k (A.deeper (envOfC qual (defScope st) s.heap.objs.size f cdv)) →
      PSs (cxOf (L2.CX Pr w) Pr w K mg base N qual (defScope st) f cdv A outer s H E) (defBody st) (tS K ca P true (fun cls d _ H => E cls d H) b)) :
    FnOk Pr w K mg base (L2.CX Pr w) (k + 1) f fd ps (spO K ca (runO N.length ps.length P b)) := by
  have len : ∀ vs H Q E, spO K ca (runO N.length ps.length P b) vs H Q E → vs.length = ps.length := fun vs H Q E h => by
    obtain ⟨F, cs, A, rl, q⟩ := h
    unfold runO at q
    cases z : decide (cs.length = ps.length) with
    | false => simp only [z] at q
    | true =>
      have l := rl.len
      rw [List.length_map] at l
      rw [l]
      exact of_decide_eq_true z
  refine F.okX S len fun cdv A outer s H vs Q E hr h => ⟨_, body cdv A outer s H E hr, ?_⟩
  have hl := len vs H Q E h
  obtain ⟨F, cs, A, rl, q⟩ := h
  unfold runO at q
  cases z : decide (cs.length = ps.length) with
  | false => simp only [z] at q
  | true =>
    simp only [z] at q
    obtain ⟨B, rs, pm⟩ := rl.rep
    have rl0 : Rl K ca F H (cs ++ List.replicate (N.length - ps.length) .n) (L2.start N vs) A := by
      unfold L2.start
      rw [hl]
      exact ⟨⟨B, rs.ext _, pm⟩, rl.nd, rl.fd, rl.nf⟩
    have lv : vs.length ≤ (L2.start N vs).length := by unfold L2.start; rw [List.length_append, List.length_map]; omega
    refine ⟨F, _, A, rl0, ?_⟩
    have kp : ∀ {st' σ' F' H' A'}, Rl K ca F' H' st' σ' A' → Pin P (L2.start N vs) σ' → ∃ A'', (∀ a ∈ A'', a ∈ A') ∧ Rl K ca F' H' (keepF P 0 (st'.take ps.length)) (vs.map some) A'' := fun rl' p => by
      rw [← hl]
      exact rl'.keep p (fun i h => start_get h) lv
    cases zb : b (cs ++ List.replicate (N.length - ps.length) .n) with
    | bad => simp only [zb] at q
    | exc c x st' =>
      simp only [zb] at q
      intro cls oe σ' F' H' A' rl' xi s p
      obtain ⟨A'', sub, rl2⟩ := kp rl' p
      exact q cls oe F' H' A'' rl2 xi (s.trans (Step.sub sub))
    | ok fl st' =>
      cases fl with
      | bk => simp only [zb] at q
      | ct => simp only [zb] at q
      | nx => simp only [zb] at q
      | rt d =>
        simp only [zb] at q
        intro v σ' F' H' A' D rl' ow nd s p
        obtain ⟨A'', sub, rl2⟩ := kp rl' p
        have sub2 : ∀ a ∈ D ++ A'', a ∈ D ++ A' := fun a m => (List.mem_append.mp m).elim (fun q => List.mem_append_left _ q) fun q => List.mem_append_right _ (sub a q)
        exact q v F' H' A'' D rl2 ow (List.nodup_append.mpr ⟨(List.nodup_append.mp nd).1, rl2.nd, fun x m y m' => (List.nodup_append.mp nd).2.2 x m y (sub y m')⟩) (s.trans (Step.sub sub2))
end
def sNever : S := fun _ => .bad
theorem ss_never {X : Cx} {ca : Ca} {P : List Nat} {ro : Bool} {W : WX} {st : Stmt} : PS X st (tS X.K ca P ro W sNever) := PS.imp ps_never fun Z σ H ⟨F, st, A, rl, h⟩ => h
def sRaise (c : Str) : S := fun st => .exc c none st
end Ev
namespace Ev
open PySem PySem.Spec PyProof.Rows L2
section
variable {K : PySem.W.Frag} {ca : Ca} {F : Addr → Prop} {H : Hp}
theorem VwA.inv1 {d : D} {xs : List V} (h : VwA K ca F H [d] xs) : ∃ x, xs = [x] ∧ Vw K ca F H d x := by
  obtain ⟨v, r, rfl, w, e⟩ := h
  cases e
  exact ⟨v, rfl, w⟩
theorem VwA.inv2 {d e : D} {xs : List V} (h : VwA K ca F H [d, e] xs) : ∃ x y, xs = [x, y] ∧ Vw K ca F H d x ∧ Vw K ca F H e y := by
  obtain ⟨v, r, rfl, w, e⟩ := h
  obtain ⟨y, rfl, w2⟩ := VwA.inv1 e
  exact ⟨v, y, rfl, w, w2⟩
theorem rep_int {i : Int} : Rep K ca F H (.int i) (.int i) := by unfold Rep; rfl
theorem rep_bl {i : Bool} : Rep K ca F H (.bl i) (.bl i) := by unfold Rep; rfl
theorem rep_str {i : Str} : Rep K ca F H (.str i) (.str i) := by unfold Rep; rfl
theorem rep_tup {ds : List D} {v : V} (h : Rep K ca F H (.tup ds) v) : ∃ a vs, v = .ref a ∧ FrT K F H a vs ∧ Reps K ca F H ds vs := by unfold Rep at h; exact h
theorem new_tup {p : Addr} {ds : List D} {vs : List V} {Q : VK} (q : ∀ v F' H', Al F H F' H' → Rep K ca F' H' (.tup ds) v → Q v H') (r : Reps K ca F H ds vs) (n : H p = none) : Q (.ref p) (upd H p (.tup vs)) := by
  refine q _ _ _ (Al.new (F := F) n) ?_
  unfold Rep
  exact ⟨p, vs, rfl, .inl ⟨.inr rfl, .inl upd_same⟩, fz_new n r⟩
theorem new_lst {p : Addr} {ds : List D} {vs : List V} {Q : VK} (q : ∀ v F' H', Al F H F' H' → Rep K ca F' H' (.lst ds) v → Q v H') (r : Reps K ca F H ds vs) (n : H p = none) : Q (.ref p) (upd H p (.lst vs)) := by
  refine q _ _ _ (Al.new (F := F) n) ?_
  unfold Rep
  exact ⟨p, vs, rfl, ⟨.inr rfl, upd_same⟩, fz_new n r⟩
/-- lists, and the script -/
def lstOf : D → Option (List D)
  | .lst ds => some ds
  | .scr ns => some (ns.map .int)
  | _ => none
theorem Reps.ints : ∀ {ns : List Int}, Reps K ca F H (ns.map .int) (ns.map V.int)
  | [] => .nil
  | n :: ns => .cons rep_int Reps.ints
theorem Vw.sq {d : D} {v : V} {ds : List D} (h : Vw K ca F H d v) (e : lstOf d = some ds) : ∃ a vs, v = .ref a ∧ SqL K H a vs ∧ Reps K ca F H ds vs := by
  cases d with
  | lst es =>
    cases e
    obtain ⟨a, vs, rfl, q, r⟩ := h
    exact ⟨a, vs, rfl, .of q, r⟩
  | scr ns =>
    cases e
    have h : Rep K ca F H (.scr ns) v := h
    unfold Rep at h
    obtain ⟨a, rfl, q⟩ := h
    exact ⟨a, _, rfl, q.sq, .ints⟩
  | _ => cases e
end
def gII (f : Int → Int → D) : List D → Option D
  | [.int i, .int j] => some (f i j)
  | _ => none
def gIC (c : Int → Int → Bool) (f : Int → Int → D) : List D → Option D
  | [.int i, .int j] => if c i j then some (f i j) else none
  | _ => none
section
variable {K : PySem.W.Frag} {ca : Ca}
theorem ok_II {f : Int → Int → Int} : OpOk K ca (gII fun i j => .int (f i j)) (r2L (rI0 fun i j => .int (f i j))) := fun F H ds d xs Q vw e q => by
  unfold gII at e
  split at e
  · rename_i i j
    cases e
    obtain ⟨x, y, rfl, h1, h2⟩ := vw.inv2
    exact ⟨i, j, h1, h2, q _ F H .refl rep_int⟩
  · cases e
theorem ok_IB {f : Int → Int → Bool} : OpOk K ca (gII fun i j => .bl (f i j)) (r2L (rI0 fun i j => .bl (f i j))) := fun F H ds d xs Q vw e q => by
  unfold gII at e
  split at e
  · rename_i i j
    cases e
    obtain ⟨x, y, rfl, h1, h2⟩ := vw.inv2
    exact ⟨i, j, h1, h2, q _ F H .refl rep_bl⟩
  · cases e
theorem ok_IC {c : Int → Int → Bool} {C : Int → Int → Prop} {f : Int → Int → Int} (h : ∀ i j, c i j = true → C i j) : OpOk K ca (gIC c fun i j => .int (f i j)) (r2L (rI C fun i j => .int (f i j))) := fun F H ds d xs Q vw e q => by
  unfold gIC at e
  split at e
  · rename_i i j
    split at e
    · rename_i hc
      cases e
      obtain ⟨x, y, rfl, h1, h2⟩ := vw.inv2
      exact ⟨i, j, h1, h2, h i j hc, q _ F H .refl rep_int⟩
    · cases e
  · cases e
end
def cMul (i j : Int) : Bool := decide ((-(2 ^ 64) < i ∧ i < 2 ^ 64) ∨ (-(2 ^ 64) < j ∧ j < 2 ^ 64)) || decide (i.natAbs.log2 + j.natAbs.log2 < 1000000)
def cDiv (_ j : Int) : Bool := decide (0 < j) && decide (j.natAbs.log2 < 9000)
def cMod (_ j : Int) : Bool := decide (0 < j)
def cPow (i j : Int) : Bool := decide (0 ≤ j) && decide ((i.natAbs.log2 + 1 : Nat) * j ≤ (2 : Int) ^ 27)
def CPowW (i j : Int) : Prop := 0 ≤ j ∧ (Builtin.Int.intBits i : Int) * j ≤ 2 ^ 27
theorem op_powW {X : Cx} : OpR X (binaryOp .Pow) (rI CPowW fun i j => .int (i ^ j.toNat)) := opI fun _ _ _ _ _ _ _ hc q => pow_int hc.1 hc.2 q
theorem cPow_ok (i j : Int) (h : cPow i j = true) : CPowW i j := by
  unfold cPow at h
  obtain ⟨h1, h2⟩ := Bool.and_eq_true_iff.mp h
  have h1 := of_decide_eq_true h1
  have h2 := of_decide_eq_true h2
  refine ⟨h1, Int.le_trans (Int.mul_le_mul_of_nonneg_right ?_ h1) h2⟩
  unfold Builtin.Int.intBits
  split <;> omega
def gAddS : List D → Option D
  | [.str x, .str y] => if x.length + y.length ≤ sizeLine then some (.str (x ++ y)) else none
  | _ => none
def gCat : List D → Option (List D)
  | [.lst x, .lst y] => if x.length + y.length ≤ sizeLine then some (x ++ y) else none
  | _ => none
def gCatT : List D → Option D
  | [.tup x, .tup y] => if x.length + y.length ≤ sizeLine then some (.tup (x ++ y)) else none
  | _ => none
def gRep : List D → Option (List D)
  | [.lst x, .int k] => if -(2 ^ 63) ≤ k ∧ k < 2 ^ 63 ∧ x.length * k.toNat ≤ sizeLine then some (List.replicate k.toNat x).flatten else none
  | _ => none
def gRepT : List D → Option D
  | [.tup x, .int k] => if x ≠ [] ∧ 2 ≤ k ∧ k ≤ 1000 ∧ x.length ≤ 1000 then some (.tup (List.replicate k.toNat x).flatten) else none
  | _ => none
section
variable {K : PySem.W.Frag} {ca : Ca}
def rAddS : R2 := fun x y H Q => ∃ i j, x = .str i ∧ y = .str j ∧ i.length + j.length ≤ sizeLine ∧ Q (.str (i ++ j)) H
theorem ok_addS : OpOk K ca gAddS (r2L rAddS) := fun F H ds d xs Q vw e q => by
  unfold gAddS at e
  split at e
  · rename_i i j
    split at e
    · rename_i hc
      cases e
      obtain ⟨x, y, rfl, h1, h2⟩ := vw.inv2
      exact ⟨i, j, h1, h2, hc, q _ F H .refl rep_str⟩
    · cases e
  · cases e
theorem new_cat : OpNew K ca gCat (r2L rCat) := fun F H ds es xs Q vw e q => by
  unfold gCat at e
  split at e
  · rename_i ds es
    split at e
    · rename_i hc
      cases e
      obtain ⟨x, y, rfl, ⟨a, vs, rfl, h1, r1⟩, b, ws, rfl, h2, r2⟩ := vw.inv2
      exact ⟨a, b, vs, ws, rfl, rfl, h1, h2, by rw [r1.length, r2.length]; exact hc, fun p n => q p _ n (r1.append r2)⟩
    · cases e
  · cases e
theorem ok_catT : OpOk K ca gCatT (r2L (rCatA K)) := fun F H ds d xs Q vw e q => by
  unfold gCatT at e
  split at e
  · rename_i ds es
    split at e
    · rename_i hc
      cases e
      obtain ⟨x, y, rfl, w1, w2⟩ := vw.inv2
      obtain ⟨a, vs, rfl, h1, r1⟩ := rep_tup w1
      obtain ⟨b, ws, rfl, h2, r2⟩ := rep_tup w2
      refine ⟨a, b, vs, ws, rfl, rfl, h1.sq, h2.sq, by rw [r1.length, r2.length]; exact hc, fun e => ?_, fun _ e => ?_, fun _ _ p n => new_tup q (r1.append r2) n⟩
      · subst e
        have : ds = [] := List.eq_nil_of_length_eq_zero r1.length.symm
        subst this
        exact q _ F H .refl w2
      · subst e
        have : es = [] := List.eq_nil_of_length_eq_zero r2.length.symm
        subst this
        rw [List.append_nil] at q
        exact q _ F H .refl w1
    · cases e
  · cases e
theorem Reps.rep {F : Addr → Prop} {H : Hp} {ds : List D} {vs : List V} (h : Reps K ca F H ds vs) : ∀ n : Nat, Reps K ca F H (List.replicate n ds).flatten (List.replicate n vs).flatten
  | 0 => .nil
  | n + 1 => by rw [List.replicate_succ, List.replicate_succ, List.flatten_cons, List.flatten_cons]; exact h.append (h.rep n)
theorem new_rep : OpNew K ca gRep (r2L rRep) := fun F H ds es xs Q vw e q => by
  unfold gRep at e
  split at e
  · rename_i ds k
    split at e
    · rename_i hc
      cases e
      obtain ⟨x, y, rfl, ⟨a, vs, rfl, h1, r1⟩, h2⟩ := vw.inv2
      exact ⟨a, k, vs, rfl, h2, h1, hc.1, hc.2.1, by rw [r1.length]; exact hc.2.2, fun p n => q p _ n (r1.rep _)⟩
    · cases e
  · cases e
theorem ok_repT : OpOk K ca gRepT (r2L (rRepT K)) := fun F H ds d xs Q vw e q => by
  unfold gRepT at e
  split at e
  · rename_i ds k
    split at e
    · rename_i hc
      cases e
      obtain ⟨x, y, rfl, w1, w2⟩ := vw.inv2
      obtain ⟨a, vs, rfl, h1, r1⟩ := rep_tup w1
      refine ⟨a, k, vs, rfl, w2, h1.sq, fun e => hc.1 (List.eq_nil_of_length_eq_zero (by rw [← r1.length, e]; rfl)), hc.2.1, hc.2.2.1, by rw [r1.length]; exact hc.2.2.2, fun p n => new_tup q (r1.rep _) n⟩
    · cases e
  · cases e
end
mutual
def toP : D → Option PyData
  | .non => some .none
  | .bl b => some (.bool b)
  | .int i => some (.int i)
  | .str x => some (.str x)
  | .tup ds => (toPs ds).map .tuple
  | .lst ds => (toPs ds).map .list
  | .scr ns => some (.list (ns.map .int))
  | .dic _ _ => none
  | .obj _ _ _ => none
def toPs : List D → Option (List PyData)
  | [] => some []
  | d :: ds => match toP d, toPs ds with
    | some p, some ps => some (p :: ps)
    | _, _ => none
end
def gEq : List D → Option D
  | [x, y] => match toP x, toP y with
    | some d, some e => if SeqAt.shaped d && SeqAt.shaped e then some (.bl (PyData.eqv d e)) else none
    | _, _ => none
  | _ => none
def gNe : List D → Option D
  | [x, y] => match toP x, toP y with
    | some d, some e => if SeqAt.shaped d && SeqAt.shaped e then some (.bl (!PyData.eqv d e)) else none
    | _, _ => none
  | _ => none
def gInD (neg : Bool) : List D → Option D
  | [x, y] => match toP x, toP y with
    | some d, some (.list ds) => if SeqAt.shaped d && SeqAt.shaped (.list ds) then some (.bl (neg != ds.any fun z => PyData.eqv z d)) else none
    | _, _ => none
  | _ => none
section
variable {K : PySem.W.Frag} {ca : Ca} {F : Addr → Prop} {H : Hp}
theorem dp_ints : ∀ {ns : List Int}, DpAll K H (ns.map V.int) (ns.map PyData.int)
  | [] => .nil
  | n :: ns => .cons (.int n) dp_ints
mutual
theorem Rep.dp : ∀ {d : D} {v : V} {p : PyData}, Rep K ca F H d v → toP d = some p → Dp K H v p
  | .non, v, p, h, e => by unfold Rep at h; subst h; unfold toP at e; cases e; exact .non
  | .bl b, v, p, h, e => by unfold Rep at h; subst h; unfold toP at e; cases e; exact .bl b
  | .int b, v, p, h, e => by unfold Rep at h; subst h; unfold toP at e; cases e; exact .int b
  | .str b, v, p, h, e => by unfold Rep at h; subst h; unfold toP at e; cases e; exact .str b
  | .tup ds, v, p, h, e => by
    unfold Rep at h
    obtain ⟨a, vs, rfl, q, r⟩ := h
    unfold toP at e
    cases z : toPs ds with
    | none => rw [z] at e; cases e
    | some ps => rw [z] at e; cases e; exact .tup q.sq (Reps.dp r z)
  | .lst ds, v, p, h, e => by
    unfold Rep at h
    obtain ⟨a, vs, rfl, q, r⟩ := h
    unfold toP at e
    cases z : toPs ds with
    | none => rw [z] at e; cases e
    | some ps => rw [z] at e; cases e; exact .lst q.sq (Reps.dp r z)
  | .scr ns, v, p, h, e => by
    unfold Rep at h
    obtain ⟨a, rfl, q⟩ := h
    unfold toP at e
    cases e
    exact .lst q.sq dp_ints
  | .dic _ _, v, p, h, e => by unfold toP at e; cases e
  | .obj _ _ _, v, p, h, e => by unfold toP at e; cases e
theorem Reps.dp : ∀ {ds : List D} {vs : List V} {ps : List PyData}, Reps K ca F H ds vs → toPs ds = some ps → DpAll K H vs ps
  | [], vs, ps, h, e => by unfold Reps at h; subst h; unfold toPs at e; cases e; exact .nil
  | d :: ds, vs, ps, h, e => by
    unfold Reps at h
    obtain ⟨v, r, rfl, h1, h2⟩ := h
    unfold toPs at e
    cases z1 : toP d with
    | none => rw [z1] at e; cases e
    | some p =>
      cases z2 : toPs ds with
      | none => rw [z1, z2] at e; cases e
      | some qs => rw [z1, z2] at e; cases e; exact .cons (Rep.dp h1 z1) (Reps.dp h2 z2)
end
theorem Vw.dp {d : D} {v : V} {p : PyData} (h : Vw K ca F H d v) (e : toP d = some p) : Dp K H v p := by
  cases d with
  | lst ds =>
    obtain ⟨a, vs, rfl, q, r⟩ := h
    unfold toP at e
    cases z : toPs ds with
    | none => rw [z] at e; cases e
    | some ps => rw [z] at e; cases e; exact .lst (.of q) (Reps.dp r z)
  | dic ks ds => unfold toP at e; cases e
  | obj c ns ds => unfold toP at e; cases e
  | non => exact Rep.dp (ca := ca) (F := F) (by unfold Rep; exact h) e
  | bl b => exact Rep.dp (ca := ca) (F := F) (by unfold Rep; exact h) e
  | int b => exact Rep.dp (ca := ca) (F := F) (by unfold Rep; exact h) e
  | str b => exact Rep.dp (ca := ca) (F := F) (by unfold Rep; exact h) e
  | tup b => exact Rep.dp (ca := ca) (F := F) h e
  | scr b => exact Rep.dp (ca := ca) (F := F) h e
theorem ok_eq : OpOk K ca gEq (r2L (rEqD K)) := fun F H ds d xs Q vw e q => by
  unfold gEq at e
  split at e
  · rename_i x y
    split at e
    · rename_i p r hp hr
      split at e
      · rename_i hc
        cases e
        obtain ⟨hc1, hc2⟩ := Bool.and_eq_true_iff.mp hc
        obtain ⟨v, w, rfl, h1, h2⟩ := vw.inv2
        exact ⟨p, r, h1.dp hp, h2.dp hr, hc1, hc2, q _ F H .refl rep_bl⟩
      · cases e
    · cases e
  · cases e
theorem ok_ne : OpOk K ca gNe (r2L (rNeD K)) := fun F H ds d xs Q vw e q => by
  unfold gNe at e
  split at e
  · rename_i x y
    split at e
    · rename_i p r hp hr
      split at e
      · rename_i hc
        cases e
        obtain ⟨hc1, hc2⟩ := Bool.and_eq_true_iff.mp hc
        obtain ⟨v, w, rfl, h1, h2⟩ := vw.inv2
        exact ⟨p, r, h1.dp hp, h2.dp hr, hc1, hc2, q _ F H .refl rep_bl⟩
      · cases e
    · cases e
  · cases e
theorem ok_inD : OpOk K ca (gInD false) (r2L (rInD K)) := fun F H ds d xs Q vw e q => by
  unfold gInD at e
  split at e
  · rename_i x y
    split at e
    · rename_i p r hp hr
      split at e
      · rename_i hc
        cases e
        obtain ⟨hc1, hc2⟩ := Bool.and_eq_true_iff.mp hc
        obtain ⟨v, w, rfl, h1, h2⟩ := vw.inv2
        exact ⟨p, r, h1.dp hp, h2.dp hr, hc1, hc2, q _ F H .refl (by unfold Rep; simp)⟩
      · cases e
    · cases e
  · cases e
theorem ok_notInD : OpOk K ca (gInD true) (r2L (rNotInD K)) := fun F H ds d xs Q vw e q => by
  unfold gInD at e
  split at e
  · rename_i x y
    split at e
    · rename_i p r hp hr
      split at e
      · rename_i hc
        cases e
        obtain ⟨hc1, hc2⟩ := Bool.and_eq_true_iff.mp hc
        obtain ⟨v, w, rfl, h1, h2⟩ := vw.inv2
        exact ⟨p, r, h1.dp hp, h2.dp hr, hc1, hc2, q _ F H .refl (by unfold Rep; simp)⟩
      · cases e
    · cases e
  · cases e
end
def flatD : D → Bool
  | .non => true
  | .bl _ => true
  | .int _ => true
  | .str _ => true
  | _ => false
def flV : D → V
  | .bl b => .bl b
  | .int b => .int b
  | .str b => .str b
  | _ => .non
def gInT (neg : Bool) : List D → Option D
  | [x, .tup ys] => if flatD x && ys.all flatD then some (.bl (neg != inV (flV x) (ys.map flV))) else none
  | _ => none
def gInS (neg : Bool) : List D → Option D
  | [.str x, .str y] => if x.cps.size = 1 then some (.bl (neg != decide (x.cps.getD 0 0 ∈ y.cps.toList))) else none
  | _ => none
section
variable {K : PySem.W.Frag} {ca : Ca} {F : Addr → Prop} {H : Hp}
theorem fl_vw {d : D} {v : V} (h : Vw K ca F H d v) (e : flatD d = true) : v = flV d ∧ flatV v = true := by
  cases d with
  | non => rw [show v = .non from h]; exact ⟨rfl, rfl⟩
  | bl b => rw [show v = .bl b from h]; exact ⟨rfl, rfl⟩
  | int b => rw [show v = .int b from h]; exact ⟨rfl, rfl⟩
  | str b => rw [show v = .str b from h]; exact ⟨rfl, rfl⟩
  | _ => cases e
theorem fl_reps : ∀ {ds : List D} {vs : List V}, Reps K ca F H ds vs → ds.all flatD = true → vs = ds.map flV ∧ vs.all flatV = true
  | [], vs, h, _ => by unfold Reps at h; subst h; exact ⟨rfl, rfl⟩
  | d :: ds, vs, h, e => by
    unfold Reps at h
    obtain ⟨v, r, rfl, h1, h2⟩ := h
    rw [List.all_cons, Bool.and_eq_true] at e
    obtain ⟨rfl, q1⟩ := fl_vw h1.vw e.1
    obtain ⟨rfl, q2⟩ := fl_reps h2 e.2
    exact ⟨rfl, by rw [List.all_cons, q1, q2]; rfl⟩
theorem ok_inT {neg : Bool} : OpOk K ca (gInT neg) (r2L (rIn K neg)) := fun F H ds d xs Q vw e q => by
  unfold gInT at e
  split at e
  · rename_i x ys
    split at e
    · rename_i hc
      cases e
      obtain ⟨hc1, hc2⟩ := Bool.and_eq_true_iff.mp hc
      obtain ⟨v, w, rfl, h1, h2⟩ := vw.inv2
      obtain ⟨a, vs, rfl, ht, r⟩ := rep_tup h2
      obtain ⟨rfl, f1⟩ := fl_vw h1 hc1
      obtain ⟨rfl, f2⟩ := fl_reps r hc2
      refine ⟨a, _, rfl, .inr ht.sq, f1, f2, q _ F H .refl ?_⟩
      unfold Rep
      cases neg <;> simp
    · cases e
  · cases e
def rInS2 (neg : Bool) : R2 := fun x y H Q => ∃ (c : Nat) (z : Str), x = .str ⟨#[c]⟩ ∧ y = .str z ∧ Q (.bl (if neg then !decide (c ∈ z.cps.toList) else decide (c ∈ z.cps.toList))) H
theorem one_sign {x : Str} (h : x.cps.size = 1) : x = ⟨#[x.cps.getD 0 0]⟩ := by
  obtain ⟨c⟩ := x
  obtain ⟨l⟩ := c
  match l, h with
  | [c], _ => rfl
theorem ok_inS {neg : Bool} : OpOk K ca (gInS neg) (r2L (rInS2 neg)) := fun F H ds d xs Q vw e q => by
  unfold gInS at e
  split at e
  · rename_i x y
    split at e
    · rename_i hc
      cases e
      obtain ⟨v, w, rfl, h1, h2⟩ := vw.inv2
      refine ⟨x.cps.getD 0 0, y, by rw [show v = .str x from h1, ← one_sign hc], h2, q _ F H .refl ?_⟩
      unfold Rep
      cases neg <;> simp
    · cases e
  · cases e
end
end Ev
namespace Ev
open PySem PySem.Spec PyProof.Rows L2
def gAdd : List D → Option D
  | [.int i, .int j] => some (.int (i + j))
  | [.str x, .str y] => if x.length + y.length ≤ sizeLine then some (.str (x ++ y)) else none
  | [.tup x, .tup y] => if x.length + y.length ≤ sizeLine then some (.tup (x ++ y)) else none
  | [.lst x, .lst y] => if x.length + y.length ≤ sizeLine then some (.lst (x ++ y)) else none
  | _ => none
def gMul : List D → Option D
  | [.int i, .int j] => if cMul i j then some (.int (i * j)) else none
  | [.tup x, .int k] => if x ≠ [] ∧ 2 ≤ k ∧ k ≤ 1000 ∧ x.length ≤ 1000 then some (.tup (List.replicate k.toNat x).flatten) else none
  | [.lst x, .int k] => if -(2 ^ 63) ≤ k ∧ k < 2 ^ 63 ∧ x.length * k.toNat ≤ sizeLine then some (.lst (List.replicate k.toNat x).flatten) else none
  | _ => none
def gIn (neg : Bool) : List D → Option D
  | [x, .tup ys] => gInT neg [x, .tup ys]
  | [.str x, .str y] => gInS neg [.str x, .str y]
  | [x, .lst ys] => gInD neg [x, .lst ys]
  | _ => none
def gIx : List D → Option D
  | [.tup ds, .int i] => atI ds i
  | [.str z, .int i] => if z.length ≤ sizeLine then (atI z.cps.toList i).map fun c => .str ⟨#[c]⟩ else none
  | [.lst ds, .int i] => atI ds i
  | [.scr ds, .int i] => (atI ds i).map .int
  | _ => none
section
variable {K : PySem.W.Frag} {ca : Ca} {F : Addr → Prop} {H : Hp}
theorem OpOk.congr {g g' : List D → Option D} {r r' : List V → Hp → VK → Prop} (h : OpOk K ca g r) (e : ∀ ds d, g' ds = some d → g ds = some d) (i : ∀ xs H Q, r xs H Q → r' xs H Q) : OpOk K ca g' r' := fun F H ds d xs Q vw e' q => i _ _ _ (h F H ds d xs Q vw (e _ _ e') q)
def rAdd (K : PySem.W.Frag) : R2 := fun x y H Q => rI0 (fun i j => .int (i + j)) x y H Q ∨ rAddS x y H Q ∨ rCatA K x y H Q ∨ rCat x y H Q
theorem op_addA {X : Cx} : OpR X (binaryOp .Add) (rAdd X.K) := op_add.or (op_add_str.or (op_catA.or op_cat))
theorem ok_add : OpOk K ca gAdd (r2L (rAdd K)) := fun F H ds d xs Q vw e q => by
  have h := vw
  unfold gAdd at e
  split at e
  · obtain ⟨x, y, rfl, _⟩ := vw.inv2
    exact .inl (ok_II (f := fun i j => i + j) F H _ d [x, y] Q vw e q)
  · obtain ⟨x, y, rfl, _⟩ := vw.inv2
    exact .inr (.inl (ok_addS F H _ d [x, y] Q vw e q))
  · obtain ⟨x, y, rfl, _⟩ := vw.inv2
    exact .inr (.inr (.inl (ok_catT F H _ d [x, y] Q vw e q)))
  · obtain ⟨x, y, rfl, _⟩ := vw.inv2
    refine .inr (.inr (.inr (new_cat.ok F H _ d [x, y] Q vw ?_ q)))
    unfold gCat
    split at e
    · rename_i hc
      cases e
      simp only [hc, if_true, Option.map_some]
    · cases e
  · cases e
def CMulZ (i j : Int) : Prop := CMul i j ∨ CMulW i j
theorem op_mulZ {X : Cx} : OpR X (binaryOp .Mult) (rI CMulZ fun i j => .int (i * j)) := opI fun i j _ _ _ _ _ hc q => mul_int q (hc.elim (fun h => h.ok) fun h => h.ok)
theorem cMul_ok (i j : Int) (h : cMul i j = true) : CMulZ i j := by
  unfold cMul at h
  unfold CMulZ CMul CMulW
  rcases Bool.or_eq_true_iff.mp h with h | h
  · exact .inl (of_decide_eq_true h)
  · exact .inr (of_decide_eq_true h)
def rMul (K : PySem.W.Frag) : R2 := fun x y H Q => rI CMulZ (fun i j => .int (i * j)) x y H Q ∨ rRepT K x y H Q ∨ rRep x y H Q
theorem op_mulA {X : Cx} : OpR X (binaryOp .Mult) (rMul X.K) := op_mulZ.or (op_repT.or op_rep)
theorem ok_mul : OpOk K ca gMul (r2L (rMul K)) := fun F H ds d xs Q vw e q => by
  unfold gMul at e
  split at e
  · obtain ⟨x, y, rfl, _⟩ := vw.inv2
    exact .inl (ok_IC (c := cMul) (C := CMulZ) (f := fun i j => i * j) cMul_ok F H _ d [x, y] Q vw e q)
  · obtain ⟨x, y, rfl, _⟩ := vw.inv2
    exact .inr (.inl (ok_repT F H _ d [x, y] Q vw e q))
  · obtain ⟨x, y, rfl, _⟩ := vw.inv2
    refine .inr (.inr (new_rep.ok F H _ d [x, y] Q vw ?_ q))
    unfold gRep
    split at e
    · rename_i hc
      cases e
      simp only [hc, and_self, if_true, Option.map_some]
    · cases e
  · cases e
def rIn3 (K : PySem.W.Frag) : R2 := fun x y H Q => rIn K false x y H Q ∨ rInS2 false x y H Q ∨ rInD K x y H Q
def rNotIn3 (K : PySem.W.Frag) : R2 := fun x y H Q => rIn K true x y H Q ∨ rInS2 true x y H Q ∨ rNotInD K x y H Q
theorem op_in3 {X : Cx} (hu : X.A.units + 65 < cLine) : OpR X (compareOp .In) (rIn3 X.K) := op_in_seq.or (OpR.or op_in_sign (op_inD hu))
theorem op_notIn3 {X : Cx} (hu : X.A.units + 65 < cLine) : OpR X (compareOp .NotIn) (rNotIn3 X.K) := op_notIn_seq.or (OpR.or op_notIn_sign (op_notInD hu))
theorem ok_in3 : OpOk K ca (gIn false) (r2L (rIn3 K)) := fun F H ds d xs Q vw e q => by
  unfold gIn at e
  split at e
  · obtain ⟨x, y, rfl, _⟩ := vw.inv2
    exact .inl (ok_inT F H _ d [x, y] Q vw e q)
  · obtain ⟨x, y, rfl, _⟩ := vw.inv2
    exact .inr (.inl (ok_inS F H _ d [x, y] Q vw e q))
  · obtain ⟨x, y, rfl, _⟩ := vw.inv2
    exact .inr (.inr (ok_inD F H _ d [x, y] Q vw e q))
  · cases e
theorem ok_notIn3 : OpOk K ca (gIn true) (r2L (rNotIn3 K)) := fun F H ds d xs Q vw e q => by
  unfold gIn at e
  split at e
  · obtain ⟨x, y, rfl, _⟩ := vw.inv2
    exact .inl (ok_inT F H _ d [x, y] Q vw e q)
  · obtain ⟨x, y, rfl, _⟩ := vw.inv2
    exact .inr (.inl (ok_inS F H _ d [x, y] Q vw e q))
  · obtain ⟨x, y, rfl, _⟩ := vw.inv2
    exact .inr (.inr (ok_notInD F H _ d [x, y] Q vw e q))
  · cases e
theorem Reps.atI {ds : List D} {vs : List V} {i : Int} {d : D} (h : Reps K ca F H ds vs) (e : L2.atI ds i = some d) : ∃ v, L2.atI vs i = some v ∧ Rep K ca F H d v := by
  unfold L2.atI at e ⊢
  rw [h.length]
  cases z : ixN ds.length i with
  | none => rw [z] at e; cases e
  | some j => rw [z] at e; exact h.get e
theorem ok_ix : OpOk K ca gIx (r2L (rIx K)) := fun F H ds d xs Q vw e q => by
  unfold gIx at e
  split at e
  · obtain ⟨x, y, rfl, w1, w2⟩ := vw.inv2
    obtain ⟨a, vs, rfl, ht, r⟩ := rep_tup w1
    obtain ⟨v, e2, rv⟩ := r.atI e
    exact .inr (.inl ⟨a, vs, _, v, rfl, w2, ht.sq, e2, q v F H .refl rv⟩)
  · rename_i z i
    obtain ⟨x, y, rfl, w1, w2⟩ := vw.inv2
    split at e
    · rename_i hz
      cases z2 : L2.atI z.cps.toList i with
      | none => rw [z2] at e; cases e
      | some c =>
        rw [z2] at e
        cases e
        exact .inr (.inr ⟨z, i, c, w1, w2, hz, z2, q _ F H .refl rep_str⟩)
    · cases e
  · obtain ⟨x, y, rfl, w1, w2⟩ := vw.inv2
    obtain ⟨a, vs, rfl, h, r⟩ := w1
    obtain ⟨v, e2, rv⟩ := r.atI e
    exact .inl ⟨a, vs, _, v, rfl, w2, .of h, e2, q v F H .refl rv⟩
  · rename_i ns i
    obtain ⟨x, y, rfl, w1, w2⟩ := vw.inv2
    obtain ⟨a, vs, rfl, h, r⟩ := w1.sq rfl
    have e2 : L2.atI (ns.map D.int) i = some d := by
      unfold L2.atI at e ⊢
      rw [List.length_map]
      cases z : ixN ns.length i with
      | none => rw [z] at e; cases e
      | some j => rw [z] at e; simp only [Option.bind_some] at e ⊢; rw [List.getElem?_map]; exact e
    obtain ⟨v, e2, rv⟩ := r.atI e2
    exact .inl ⟨a, vs, _, v, rfl, w2, h, e2, q v F H .refl rv⟩
  · cases e
/-- is None -/
def isNon : D → Bool
  | .non => true
  | _ => false
def gIs (neg : Bool) : List D → Option D
  | [x, .non] => some (.bl (neg != isNon x))
  | _ => none
theorem vw_non {d : D} {v : V} (h : Vw K ca F H d v) : decide (v = .non) = isNon d := by
  cases d with
  | non => rw [show v = .non from h]; rfl
  | bl b => rw [show v = .bl b from h]; rfl
  | int b => rw [show v = .int b from h]; rfl
  | str b => rw [show v = .str b from h]; rfl
  | tup b => obtain ⟨a, vs, rfl, _⟩ := rep_tup h; rfl
  | scr b => obtain ⟨a, vs, rfl, _⟩ := Vw.sq (d := .scr b) h rfl; rfl
  | lst b => obtain ⟨a, vs, rfl, _⟩ := h; rfl
  | dic b c => obtain ⟨a, vs, _, rfl, _⟩ := h; rfl
  | obj b c ds => obtain ⟨a, vs, _, rfl, _⟩ := h; rfl
def rIs (neg : Bool) : R2 := fun x y H Q => y = .non ∧ Q (.bl (neg != decide (x = .non))) H
theorem op_is {X : Cx} : OpR X (compareOp .Is) (rIs false) := fun pins s σ H x y v u Q I rx ry ⟨h1, h2⟩ => op_isN pins s σ H x y v u Q I rx ry ⟨h1, by simpa using h2⟩
theorem op_isnot {X : Cx} : OpR X (compareOp .IsNot) (rIs true) := fun pins s σ H x y v u Q I rx ry ⟨h1, h2⟩ => op_notN pins s σ H x y v u Q I rx ry ⟨h1, by simpa using h2⟩
theorem ok_is {neg : Bool} : OpOk K ca (gIs neg) (r2L (rIs neg)) := fun F H ds d xs Q vw e q => by
  unfold gIs at e
  split at e
  · cases e
    obtain ⟨x, y, rfl, w1, w2⟩ := vw.inv2
    exact ⟨w2, q _ F H .refl (by rw [vw_non w1]; exact rep_bl)⟩
  · cases e
/-- -x -/
def gNeg : List D → Option D
  | [.int i] => some (.int (-i))
  | _ => none
theorem ok_neg : OpOk K ca gNeg (r1L (rU fun i => .int (-i))) := fun F H ds d xs Q vw e q => by
  unfold gNeg at e
  split at e
  · cases e
    obtain ⟨x, rfl, w1⟩ := vw.inv1
    exact ⟨_, w1, q _ F H .refl rep_int⟩
  · cases e
end
def eChn (g g' : List D → Option D) (a b c : E) : E := fun st => (a st).bind fun x st => (b st).bind fun y st => match g [x, y] with
  | some (.bl true) => (c st).bind fun z st => (match g' [y, z] with
    | some d => .ok d st
    | none => .bad)
  | some (.bl false) => .ok (.bl false) st
  | _ => .bad
section
variable {X : Cx} {ca : Ca} {W : WX} {a b c : Expr} {pos : Pos} {m n k : E} {g g' : List D → Option D} {r r' : R2} {σ : L2.St} {H : Hp} {Q : VK}
/-- an expression, then the rest -/
theorem tE_then {K : PySem.W.Frag} {n : D → E} {P : VK} (h : tE K ca W (fun st => (m st).bind fun d st => n d st) σ H Q)
    (k : ∀ d v F H st A, Rl K ca F H st σ A → Rep K ca F H d v → (∀ {F1 H1 st1 A1}, Rl K ca F1 H1 st1 σ A1 → Step F H A F1 H1 A1 → True) → tE K ca W (n d) σ H Q → P v H) : tE K ca W m σ H P :=
  tE_bind h fun d v F H st A rl rep q => k d v F H st A rl rep (fun _ _ => trivial) ⟨F, st, A, rl, q⟩
theorem chain_run {K : PySem.W.Frag} (hk : OpOk K ca g (r2L r)) (hk' : OpOk K ca g' (r2L r')) (h : tE K ca W (eChn g g' m n k) σ H Q) : tChain r r' (tE K ca W m) (tE K ca W n) (tE K ca W k) σ H Q := by
  refine tE_bind (n := fun x st => (n st).bind fun y st => match g [x, y] with
    | some (.bl true) => (k st).bind fun z st => (match g' [y, z] with
      | some d => .ok d st
      | none => .bad)
    | some (.bl false) => .ok (.bl false) st
    | _ => .bad) h fun x v F1 H1 st1 A1 rl1 rp1 q1 => ?_
  -- b
  refine ⟨F1, st1, A1, rl1, ?_⟩
  cases z2 : n st1 with
  | bad => simp only [z2, R.bind] at q1
  | exc cc xx s => simp only [z2, R.bind] at q1; exact q1
  | ok y st2 =>
    simp only [z2, R.bind] at q1
    intro u F2 H2 A2 rl2 rp2 s2
    have v2 : VwA K ca F2 H2 [x, y] [v, u] := ⟨v, [u], rfl, (rp1.step s2 rl1).vw, u, [], rfl, rp2.vw, rfl⟩
    cases z3 : g [x, y] with
    | none => simp only [z3] at q1
    | some d =>
      cases d with
      | bl kk =>
        cases kk with
        | false =>
          simp only [z3] at q1
          refine hk F2 H2 [x, y] _ [v, u] _ v2 z3 fun w F3 H3 al rw3 => ?_
          unfold Rep at rw3
          exact ⟨false, rw3, q1 _ F3 H3 A2 (al.rl rl2) rep_bl (s2.trans al.step)⟩
        | true =>
          simp only [z3] at q1
          refine hk F2 H2 [x, y] _ [v, u] _ v2 z3 fun w F3 H3 al rw3 => ?_
          unfold Rep at rw3
          refine ⟨true, rw3, ?_⟩
          have rl3 := al.rl rl2
          refine ⟨F3, st2, A2, rl3, ?_⟩
          cases z4 : k st2 with
          | bad => simp only [z4, R.bind] at q1
          | exc cc xx s => simp only [z4, R.bind] at q1; exact fun cls oe F' H' A' r x s => q1 cls oe F' H' A' r x ((s2.trans al.step).trans s)
          | ok z st3 =>
            simp only [z4, R.bind] at q1
            intro t F4 H4 A4 rl4 rp4 s4
            have v4 : VwA K ca F4 H4 [y, z] [u, t] := ⟨u, [t], rfl, ((rp2.step (A := A2) al.step rl2).step s4 rl3).vw, t, [], rfl, rp4.vw, rfl⟩
            cases z5 : g' [y, z] with
            | none => simp only [z5] at q1
            | some d =>
              simp only [z5] at q1
              exact hk' F4 H4 [y, z] d [u, t] Q v4 z5 fun w F5 H5 al5 rp5 => q1 w F5 H5 A4 (al5.rl rl4) rp5 (((s2.trans al.step).trans s4).trans al5.step)
      | _ => simp only [z3] at q1
theorem se_chain {op op' : CmpOp} (ho : OpR X (compareOp op) r) (hk : OpOk X.K ca g (r2L r)) (ho' : OpR X (compareOp op') r') (hk' : OpOk X.K ca g' (r2L r')) (ha : PE X a (tE X.K ca W m)) (hb : PE X b (tE X.K ca W n)) (hc : PE X c (tE X.K ca W k))
    (hm : lastMarks [op, op'] [b, c] = false := by with_unfolding_all rfl) : PE X (.Compare a [op, op'] [b, c] pos) (tE X.K ca W (eChn g g' m n k)) := PE.imp (pe_chain ho ho' ha hb hc hm) fun σ H Q h => chain_run hk hk' h
theorem st_chain {op op' : CmpOp} (ho : OpR X (compareOp op) r) (hk : OpOk X.K ca g (r2L r)) (ho' : OpR X (compareOp op') r') (hk' : OpOk X.K ca g' (r2L r')) (ha : PE X a (tE X.K ca W m)) (hb : PE X b (tE X.K ca W n)) (hc : PE X c (tE X.K ca W k))
    (hm : lastMarks [op, op'] [b, c] = false := by with_unfolding_all rfl) : PT X (.Compare a [op, op'] [b, c] pos) (tT X.K ca W (mT (eChn g g' m n k))) := PT.imp (pt_chain ho ho' ha hb hc hm) fun σ H Q h => chain_run hk hk' (tT_tE h)
end
end Ev
namespace Ev
open PySem PySem.Spec PyProof.Rows L2
def gLen : List D → Option D
  | [.lst ds] => some (.int ds.length)
  | [.tup ds] => some (.int ds.length)
  | [.scr ds] => some (.int ds.length)
  | [.str x] => if x.length ≤ sizeLine then some (.int x.length) else none
  | _ => none
def intsD : List D → Option (List Int)
  | [] => some []
  | .int i :: ds => (intsD ds).map (i :: ·)
  | _ => none
def boolsD : List D → Option (List Bool)
  | [] => some []
  | .bl i :: ds => (boolsD ds).map (i :: ·)
  | _ => none
def strsD : List D → Option (List Str)
  | [] => some []
  | .str i :: ds => (strsD ds).map (i :: ·)
  | _ => none
def gSum : List D → Option D
  | [.lst ds] => (intsD ds).map fun ns => .int ns.sum
  | [.tup ds] => (intsD ds).map fun ns => .int ns.sum
  | _ => none
def gAll : List D → Option D
  | [.lst ds] => (boolsD ds).map fun bs => .bl (bs.all id)
  | _ => none
def gAny : List D → Option D
  | [.lst ds] => (boolsD ds).map fun bs => .bl (bs.any id)
  | _ => none
def gList : List D → Option (List D)
  | [.lst ds] => some ds
  | [.tup ds] => some ds
  | [.scr ds] => some (ds.map .int)
  | _ => none
def gTuple : List D → Option D
  | [.lst ds] => some (.tup ds)
  | [.tup ds] => some (.tup ds)
  | _ => none
def gAbs : List D → Option D
  | [.int i] => some (.int (if i < 0 then -i else i))
  | _ => none
def gInt1 : List D → Option D
  | [.int i] => some (.int i)
  | [.bl b] => some (.int (if b then 1 else 0))
  | [.str x] => (match PySem.intText? x with
    | some n => if x.length ≤ 640 then some (.int n) else none
    | none => none)
  | _ => none
def gStr1 : List D → Option D
  | [.int i] => if i.natAbs.log2 < 1920 then some (.str (toString i)) else none
  | _ => none
/-- types -/
def tyD : D → Option String
  | .non => some "NoneType"
  | .bl _ => some "bool"
  | .int _ => some "int"
  | .str _ => some "str"
  | .tup _ => some "tuple"
  | .lst _ => some "list"
  | .scr _ => some "list"
  | .dic _ _ => some "dict"
  | .obj _ _ _ => none
def isTy (T : String) (a : String) : Bool := a == T || (a == "bool" && T == "int")
def gIsi (T : String) : List D → Option D
  | [x] => (tyD x).map fun a => .bl (isTy T a)
  | _ => none
section
variable {K : PySem.W.Frag} {ca : Ca} {F : Addr → Prop} {H : Hp}
theorem line_le {n : Nat} (h : n ≤ sizeLine) : n ≤ sizeLine := h
theorem ok_len : OpOk K ca gLen (fun xs H Q => ∃ x n, xs = [x] ∧ LenV K x H n ∧ Q (.int n) H) := fun F H ds d xs Q vw e q => by
  unfold gLen at e
  split at e
  · cases e
    obtain ⟨x, rfl, a, vs, rfl, h, r⟩ := vw.inv1
    exact ⟨_, _, rfl, .inl ⟨vs, .of h, r.length.symm⟩, q _ F H .refl rep_int⟩
  · cases e
    obtain ⟨x, rfl, w⟩ := vw.inv1
    obtain ⟨a, vs, rfl, h, r⟩ := rep_tup w
    exact ⟨_, _, rfl, .inr ⟨vs, h.sq, r.length.symm⟩, q _ F H .refl rep_int⟩
  · rename_i ns
    cases e
    obtain ⟨x, rfl, w⟩ := vw.inv1
    obtain ⟨a, vs, rfl, h, r⟩ := w.sq rfl
    exact ⟨_, ns.length, rfl, .inl ⟨vs, h, by rw [r.length, List.length_map]⟩, q _ F H .refl rep_int⟩
  · split at e
    · rename_i hc
      cases e
      obtain ⟨x, rfl, w⟩ := vw.inv1
      rw [show x = _ from w]
      exact ⟨_, _, rfl, ⟨hc, rfl⟩, q _ F H .refl rep_int⟩
    · cases e
  · cases e
theorem reps_ints : ∀ {ds : List D} {vs : List V} {ns : List Int}, Reps K ca F H ds vs → intsD ds = some ns → vs = ns.map V.int
  | [], vs, ns, h, e => by unfold Reps at h; cases e; exact h
  | d :: ds, vs, ns, h, e => by
    obtain ⟨v, r, rfl, h1, h2⟩ := h.inv
    cases d <;> try (unfold intsD at e; cases e)
    rename_i i
    unfold intsD at e
    cases z : intsD ds with
    | none => rw [z] at e; cases e
    | some ms =>
      rw [z] at e
      cases e
      unfold Rep at h1
      rw [h1, reps_ints h2 z]; rfl
theorem reps_bools : ∀ {ds : List D} {vs : List V} {ns : List Bool}, Reps K ca F H ds vs → boolsD ds = some ns → vs = ns.map V.bl
  | [], vs, ns, h, e => by unfold Reps at h; cases e; exact h
  | d :: ds, vs, ns, h, e => by
    obtain ⟨v, r, rfl, h1, h2⟩ := h.inv
    cases d <;> try (unfold boolsD at e; cases e)
    rename_i i
    unfold boolsD at e
    cases z : boolsD ds with
    | none => rw [z] at e; cases e
    | some ms =>
      rw [z] at e
      cases e
      unfold Rep at h1
      rw [h1, reps_bools h2 z]; rfl
theorem reps_strs : ∀ {ds : List D} {vs : List V} {ns : List Str}, Reps K ca F H ds vs → strsD ds = some ns → vs = ns.map V.str
  | [], vs, ns, h, e => by unfold Reps at h; cases e; exact h
  | d :: ds, vs, ns, h, e => by
    obtain ⟨v, r, rfl, h1, h2⟩ := h.inv
    cases d <;> try (unfold strsD at e; cases e)
    rename_i i
    unfold strsD at e
    cases z : strsD ds with
    | none => rw [z] at e; cases e
    | some ms =>
      rw [z] at e
      cases e
      unfold Rep at h1
      rw [h1, reps_strs h2 z]; rfl
/-- sum of a tuple of ints -/
def rSumT (K : PySem.W.Frag) : List V → Hp → VK → Prop := fun vs H Q => ∃ (a : Addr) (ns : List Int), vs = [V.ref a] ∧ SqT K H a (ns.map V.int) ∧ Q (.int ns.sum) H
theorem cr_sumT {X : Cx} (hc : X.calm = true) : CallR X (.builtin "sum") (rSumT X.K) := by
  intro pins s σ H vs us Q I r h
  obtain ⟨a, ns, rfl, hs, q⟩ := h
  obtain ⟨its, rv, hl, _⟩ := I.tuple hs
  rw [Vals.ref1 r]
  have hi := rv.ints
  obtain ⟨xs, e⟩ := hi.allInts.items
  have hn : numsOf (intItems xs).toList = ns := by rw [← e]; exact hi.numsOf
  rw [nums_intItems] at hn
  rw [e] at hl
  refine call_sum_walkAnyS (PySem.W.iter_tupleW (A := X.A.in1) (I.ok.hd hc) hl fun s₂ e2 W st hfp hw hk => ?_)
  refine ⟨_, _, _, _, _, _, _, numAt xs, rfl, W, st, hfp, (fun _ _ => intItems_at), fun s' t' m => ?_⟩
  obtain ⟨h', tk, rfl, hk'⟩ := PySem.W.moved_old e2 rfl m
  refine ⟨.int _, H, I.kept hk', ⟨_, rfl⟩, ?_⟩
  have e3 : preSum (numAt xs) (intItems xs).size = ns.sum := by
    rw [show (intItems xs).size = xs.size by simp [intItems], preSum_eq, List.take_of_length_le (by simp), hn]
  rw [e3]; exact q
def rSum2 (K : PySem.W.Frag) : List V → Hp → VK → Prop := fun xs H Q => rSum K xs H Q ∨ rSumT K xs H Q
theorem cr_sum2 {X : Cx} (hc : X.calm = true) : CallR X (.builtin "sum") (rSum2 X.K) := (cr_sum hc).or (cr_sumT hc)
theorem ok_sum : OpOk K ca gSum (rSum2 K) := fun F H ds d xs Q vw e q => by
  unfold gSum at e
  split at e
  · rename_i ds
    obtain ⟨x, rfl, a, vs, rfl, h, r⟩ := vw.inv1
    cases z : intsD ds with
    | none => rw [z] at e; cases e
    | some ns =>
      rw [z] at e
      cases e
      exact .inl ⟨a, ns, rfl, by rw [← reps_ints r z]; exact .of h, q _ F H .refl rep_int⟩
  · rename_i ds
    obtain ⟨x, rfl, w⟩ := vw.inv1
    obtain ⟨a, vs, rfl, h, r⟩ := rep_tup w
    cases z : intsD ds with
    | none => rw [z] at e; cases e
    | some ns =>
      rw [z] at e
      cases e
      exact .inr ⟨a, ns, rfl, by rw [← reps_ints r z]; exact h.sq, q _ F H .refl rep_int⟩
  · cases e
theorem ok_all : OpOk K ca gAll (rAll K) := fun F H ds d xs Q vw e q => by
  unfold gAll at e
  split at e
  · rename_i ds
    obtain ⟨x, rfl, a, vs, rfl, h, r⟩ := vw.inv1
    cases z : boolsD ds with
    | none => rw [z] at e; cases e
    | some ns =>
      rw [z] at e
      cases e
      exact ⟨a, ns, rfl, by rw [← reps_bools r z]; exact .of h, q _ F H .refl rep_bl⟩
  · cases e
theorem ok_any : OpOk K ca gAny (rAny K) := fun F H ds d xs Q vw e q => by
  unfold gAny at e
  split at e
  · rename_i ds
    obtain ⟨x, rfl, a, vs, rfl, h, r⟩ := vw.inv1
    cases z : boolsD ds with
    | none => rw [z] at e; cases e
    | some ns =>
      rw [z] at e
      cases e
      exact ⟨a, ns, rfl, by rw [← reps_bools r z]; exact .of h, q _ F H .refl rep_bl⟩
  · cases e
def rListOf (K : PySem.W.Frag) : List V → Hp → VK → Prop := fun xs H Q => ∃ p ys, xs = [.ref p] ∧ (SqL K H p ys ∨ SqT K H p ys) ∧ ∀ l, H l = none → Q (.ref l) (upd H l (.lst ys))
theorem new_list : OpNew K ca gList (rListOf K) := fun F H ds es xs Q vw e q => by
  unfold gList at e
  split at e
  · cases e
    obtain ⟨x, rfl, a, vs, rfl, h, r⟩ := vw.inv1
    exact ⟨a, vs, rfl, .inl (.of h), fun l n => q l vs n r⟩
  · cases e
    obtain ⟨x, rfl, w⟩ := vw.inv1
    obtain ⟨a, vs, rfl, h, r⟩ := rep_tup w
    exact ⟨a, vs, rfl, .inr h.sq, fun l n => q l vs n r⟩
  · cases e
    obtain ⟨x, rfl, w⟩ := vw.inv1
    obtain ⟨a, vs, rfl, h, r⟩ := w.sq rfl
    exact ⟨a, vs, rfl, .inl h, fun l n => q l vs n r⟩
  · cases e
def rTupOf (K : PySem.W.Frag) : List V → Hp → VK → Prop := fun xs H Q => ∃ p ys, xs = [.ref p] ∧ ((SqL K H p ys ∧ ∀ l, H l = none → Q (.ref l) (upd H l (.tup ys))) ∨ (SqT K H p ys ∧ Q (.ref p) H))
theorem ok_tuple : OpOk K ca gTuple (rTupOf K) := fun F H ds d xs Q vw e q => by
  unfold gTuple at e
  split at e
  · cases e
    obtain ⟨x, rfl, a, vs, rfl, h, r⟩ := vw.inv1
    exact ⟨a, vs, rfl, .inl ⟨.of h, fun l n => new_tup q r n⟩⟩
  · cases e
    obtain ⟨x, rfl, w⟩ := vw.inv1
    obtain ⟨a, vs, rfl, h, r⟩ := rep_tup w
    exact ⟨a, vs, rfl, .inr ⟨h.sq, q _ F H .refl w⟩⟩
  · cases e
theorem ok_abs : OpOk K ca gAbs (fun xs H Q => ∃ i, xs = [.int i] ∧ Q (.int (if i < 0 then -i else i)) H) := fun F H ds d xs Q vw e q => by
  unfold gAbs at e
  split at e
  · cases e
    obtain ⟨x, rfl, w⟩ := vw.inv1
    exact ⟨_, by rw [show x = _ from w], q _ F H .refl rep_int⟩
  · cases e
theorem ok_max2 : OpOk K ca (gII fun i j => .int (if j > i then j else i)) (fun xs H Q => ∃ i j, xs = [.int i, .int j] ∧ Q (.int (if j > i then j else i)) H) := fun F H ds d xs Q vw e q => by
  unfold gII at e
  split at e
  · cases e
    obtain ⟨x, y, rfl, w, w2⟩ := vw.inv2
    exact ⟨_, _, by rw [show x = _ from w, show y = _ from w2], q _ F H .refl rep_int⟩
  · cases e
theorem ok_min2 : OpOk K ca (gII fun i j => .int (if j < i then j else i)) (fun xs H Q => ∃ i j, xs = [.int i, .int j] ∧ Q (.int (if j < i then j else i)) H) := fun F H ds d xs Q vw e q => by
  unfold gII at e
  split at e
  · cases e
    obtain ⟨x, y, rfl, w, w2⟩ := vw.inv2
    exact ⟨_, _, by rw [show x = _ from w, show y = _ from w2], q _ F H .refl rep_int⟩
  · cases e
def rInt1 : List V → Hp → VK → Prop := fun xs H Q => ((∃ i, xs = [.int i] ∧ Q (.int i) H) ∨ ∃ k, xs = [.bl k] ∧ Q (.int (if k then 1 else 0)) H) ∨ ∃ a n, xs = [.str a] ∧ PySem.intText? a = some n ∧ a.length ≤ 640 ∧ Q (.int n) H
theorem cr_int1 {X : Cx} : CallR X (.type "int") rInt1 := call_int1.or call_int_str
theorem ok_int1 : OpOk K ca gInt1 rInt1 := fun F H ds d xs Q vw e q => by
  unfold gInt1 at e
  split at e
  · cases e
    obtain ⟨x, rfl, w⟩ := vw.inv1
    exact .inl (.inl ⟨_, by rw [show x = _ from w], q _ F H .refl rep_int⟩)
  · cases e
    obtain ⟨x, rfl, w⟩ := vw.inv1
    exact .inl (.inr ⟨_, by rw [show x = _ from w], q _ F H .refl rep_int⟩)
  · split at e
    · rename_i n hn
      split at e
      · rename_i hl
        cases e
        obtain ⟨x, rfl, w⟩ := vw.inv1
        exact .inr ⟨_, n, by rw [show x = _ from w], hn, hl, q _ F H .refl rep_int⟩
      · cases e
    · cases e
  · cases e
theorem ok_str1 : OpOk K ca gStr1 (fun xs H Q => ∃ i, xs = [.int i] ∧ i.natAbs.log2 < 1920 ∧ Q (.str (toString i)) H) := fun F H ds d xs Q vw e q => by
  unfold gStr1 at e
  split at e
  · split at e
    · rename_i hc
      cases e
      obtain ⟨x, rfl, w⟩ := vw.inv1
      exact ⟨_, by rw [show x = _ from w], hc, q _ F H .refl rep_str⟩
    · cases e
  · cases e
theorem vw_ty {d : D} {v : V} {a : String} (h : Vw K ca F H d v) (e : tyD d = some a) : TyX K H v (.type a) := by
  cases d with
  | non => cases e; rw [show v = .non from h]; exact .base .non
  | bl b => cases e; rw [show v = .bl b from h]; exact .base (.bl b)
  | int b => cases e; rw [show v = .int b from h]; exact .base (.int b)
  | str b => cases e; rw [show v = .str b from h]; exact .base (.str b)
  | tup b =>
    cases e
    obtain ⟨a, vs, rfl, q, _⟩ := rep_tup h
    rcases q with ⟨_, q | ⟨o, q⟩⟩ | ⟨o, its, n, q, c, _⟩
    · exact .base (.tup q)
    · exact .fTuple q
    · exact .kTuple q c
  | scr b =>
    cases e
    obtain ⟨a, vs, rfl, q, _⟩ := h.sq rfl
    rcases q with (q | ⟨o, q⟩) | ⟨o, its, n, q, c, _⟩
    · exact .base (.lst q)
    · exact .base (.frz q)
    · exact .kList q c
  | lst b => cases e; obtain ⟨a, vs, rfl, q, _⟩ := h; exact .base (.lst q)
  | dic b c =>
    cases e
    obtain ⟨a, vs, _, rfl, q, _⟩ := h
    rcases q with q | ⟨o, q⟩
    · exact .base (.dK q)
    · exact .fDict q
  | obj b c ds => cases e
/-- the built-in types that are asked for -/
def isTs : List String := ["int", "bool", "tuple", "str", "list"]
theorem kit_all : (isTs.all fun T => (["NoneType", "bool", "int", "str", "tuple", "list", "dict"] : List String).all fun a => kitB a T == some (isTy T a)) = true := by decide +kernel
theorem kit_T {T a : String} {d : D} (hT : isTs.contains T = true) (e : tyD d = some a) : PySem.W.kitOne K (.type a) (.type T) = some (isTy T a) := by
  refine kit_ty ?_
  have h1 := List.all_eq_true.mp kit_all T (List.contains_iff_mem.mp hT)
  have h2 := List.all_eq_true.mp h1 a (by cases d <;> cases e <;> decide)
  exact eq_of_beq h2
theorem ok_isi {T : String} (hT : isTs.contains T = true) : OpOk K ca (gIsi T) (fun xs H Q => rIsi K (xs ++ [.ty T]) H Q) := fun F H ds d xs Q vw e q => by
  unfold gIsi at e
  split at e
  · rename_i d0
    cases z : tyD d0 with
    | none => rw [z] at e; cases e
    | some a =>
      rw [z] at e
      cases e
      obtain ⟨x, rfl, w⟩ := vw.inv1
      exact ⟨x, .ty T, _, _, _, rfl, .ty T, vw_ty w z, kit_T hT z, q _ F H .refl rep_bl⟩
  · cases e
end
section
variable {X : Cx} {ca : Ca} {W : WX} {e o : Expr} {es : List Expr} {pos p : Pos} {m : E} {ps : List Opd} {pd : Opd} {x : Str} {id T : String} {g : List D → Option D} {gn : List D → Option (List D)} {r : List V → Hp → VK → Prop}
theorem sp_nil : PA X [] (tPs X.K ca W []) := pa_nil
theorem sp_cons (h : PE X e (tP X.K ca W pd)) (t : PA X es (tPs X.K ca W ps)) (hs : starEach (e :: es) X.env = (false, eval e X.env) :: starEach es X.env := by rfl) : PA X (e :: es) (tPs X.K ca W (pd :: ps)) := pa_cons h t hs
variable (cf : Cf X.K ca)
include cf
theorem se_callB (hc : CallR X (.builtin id) r) (hk : OpOk X.K ca g r) (hg : Gl X x) (hm : X.mg x = none) (hv : bootBuiltins x = some (.builtin id)) (ha : PA X (e :: es) (tPs X.K ca W ps)) (ok : opdsOk ps = true := by rfl) (of : opdsF ps = true := by rfl) (hn : x ≠ "__name__" := by decide) (hdb : (x == ("__debug__" : Str)) = false := by decide)
    (he : starEach (e :: es) X.env = (false, eval e X.env) :: starEach es X.env := by rfl) (hpl : (backTo pos (starEach es X.env)).any (·.1) = false := by rfl) : PE X (.Call (.Name x p) (e :: es) [] pos) (tE X.K ca W (eOp g ps)) :=
  PE.imp (pe_callB hc hg hm hv ha hn hdb he hpl) fun σ H Q h => eOp_run cf hk ok of h
theorem so_callB (hc : CallR X (.builtin id) r) (hk : OpNew X.K ca gn r) (hg : Gl X x) (hm : X.mg x = none) (hv : bootBuiltins x = some (.builtin id)) (ha : PA X (e :: es) (tPs X.K ca W ps)) (ok : opdsOk ps = true := by rfl) (of : opdsF ps = true := by rfl) (hn : x ≠ "__name__" := by decide) (hdb : (x == ("__debug__" : Str)) = false := by decide)
    (he : starEach (e :: es) X.env = (false, eval e X.env) :: starEach es X.env := by rfl) (hpl : (backTo pos (starEach es X.env)).any (·.1) = false := by rfl) : PE X (.Call (.Name x p) (e :: es) [] pos) (tO X.K ca W (eOp (fun ds => (gn ds).map .lst) ps)) :=
  PE.imp (pe_callB hc hg hm hv ha hn hdb he hpl) fun σ H Q h => eOp_runO cf hk ok of h
theorem se_callT (hc : CallR X (.type T) r) (hk : OpOk X.K ca g r) (hg : Gl X x) (hm : X.mg x = none) (hv : bootBuiltins x = some (.type T)) (ha : PA X (e :: es) (tPs X.K ca W ps)) (ok : opdsOk ps = true := by rfl) (of : opdsF ps = true := by rfl) (hn : x ≠ "__name__" := by decide) (hdb : (x == ("__debug__" : Str)) = false := by decide)
    (he : starEach (e :: es) X.env = (false, eval e X.env) :: starEach es X.env := by rfl) (hpl : (backTo pos (starEach es X.env)).any (·.1) = false := by rfl) : PE X (.Call (.Name x p) (e :: es) [] pos) (tE X.K ca W (eOp g ps)) :=
  PE.imp (pe_callTy hc hg hm hv ha hn hdb he hpl) fun σ H Q h => eOp_run cf hk ok of h
theorem so_callT (hc : CallR X (.type T) r) (hk : OpNew X.K ca gn r) (hg : Gl X x) (hm : X.mg x = none) (hv : bootBuiltins x = some (.type T)) (ha : PA X (e :: es) (tPs X.K ca W ps)) (ok : opdsOk ps = true := by rfl) (of : opdsF ps = true := by rfl) (hn : x ≠ "__name__" := by decide) (hdb : (x == ("__debug__" : Str)) = false := by decide)
    (he : starEach (e :: es) X.env = (false, eval e X.env) :: starEach es X.env := by rfl) (hpl : (backTo pos (starEach es X.env)).any (·.1) = false := by rfl) : PE X (.Call (.Name x p) (e :: es) [] pos) (tO X.K ca W (eOp (fun ds => (gn ds).map .lst) ps)) :=
  PE.imp (pe_callTy hc hg hm hv ha hn hdb he hpl) fun σ H Q h => eOp_runO cf hk ok of h
theorem tPs_snoc {K : PySem.W.Frag} {v : V} : ∀ {ps : List Opd} {σ : L2.St} {H : Hp} {Q : List V → Hp → Prop}, tPs K ca W ps σ H (fun xs H => Q (xs ++ [v]) H) → True := fun _ => trivial
/-- isinstance(e, T), T a built-in type -/
theorem se_isi {y : Str} {py : Pos} (hT : isTs.contains T = true) (hg : Gl X "isinstance") (hm : X.mg "isinstance" = none) (hgT : Gl X y) (hmT : X.mg y = none) (hvT : bootBuiltins y = some (.type T)) (hv : bootBuiltins "isinstance" = some (.builtin "isinstance")) (h : PE X e (tP X.K ca W pd))
    (ok : opdsOk [pd] = true := by rfl) (of : opdsF [pd] = true := by rfl) (hn : y ≠ "__name__" := by decide) (hd : (y == ("__debug__" : Str)) = false := by decide)
    (he : starEach [e, .Name y py] X.env = (false, eval e X.env) :: starEach [.Name y py] X.env := by rfl) (hs : starEach [.Name y py] X.env = [(false, eval (.Name y py) X.env)] := by rfl) (hpl : (backTo pos (starEach [.Name y py] X.env)).any (·.1) = false := by rfl) :
    PE X (.Call (.Name "isinstance" p) [e, .Name y py] [] pos) (tE X.K ca W (eOp (gIsi T) [pd])) :=
  PE.imp (pe_callB call_isi hg hm hv (pa_cons h (pa_cons (pe_bltn (v := .ty T) hgT hmT hvT rfl hn hd) pa_nil hs) he) (by decide) (by decide) he hpl) fun σ H Q h => eOp_run cf (ok_isi hT) ok of h
theorem se_ix {a b : Expr} {pd qd : Opd} (ha : PE X a (tP X.K ca W pd)) (hb : PE X b (tP X.K ca W qd)) (hs : PlainIx b := by intro _ _; rfl) (ok : opdsOk [pd, qd] = true := by rfl) (of : opdsF [pd, qd] = true := by rfl) :
    PE X (.Subscript a b pos) (tE X.K ca W (eOp gIx [pd, qd])) := PE.imp (pe_ix ix_seq ha hb hs) fun σ H Q h => eOp_run cf ok_ix ok of h
end
def gJoin : List D → Option D
  | [.str a, .lst ds] => (match strsD ds with
    | some ys => if (ys.map (·.length)).sum + ys.length * a.length ≤ 16777216 then some (.str (Txt.join a ys)) else none
    | none => none)
  | _ => none
def gFind : List D → Option D
  | [.str a, .str b] => some (.int (Txt.find a b))
  | _ => none
def gSplit : List D → Option (List D)
  | [.str a, .str b] => if (b.length == 0) = false ∧ a.length + 2 ≤ sizeLine then some ((Txt.split a b).map .str) else none
  | _ => none
def isStrD : D → Bool
  | .str _ => true
  | _ => false
/-- e.m(..), e a text -/
def eBs (g : List D → Option D) (m : E) (ms : List E) : E := fun st => (m st).bind fun d st => match isStrD d with
  | true => (evAll ms st).bind fun ds st => (match g (d :: ds) with
    | some d => .ok d st
    | none => .bad)
  | false => .bad
section
variable {K : PySem.W.Frag} {ca : Ca} {F : Addr → Prop} {H : Hp}
theorem Reps.vwA : ∀ {ds : List D} {vs : List V}, Reps K ca F H ds vs → VwA K ca F H ds vs
  | [], vs, h => by unfold Reps at h; exact h
  | d :: ds, vs, h => by
    obtain ⟨v, r, rfl, h1, h2⟩ := h.inv
    exact ⟨v, r, rfl, h1.vw, h2.vwA⟩
def rJoin2 (K : PySem.W.Frag) : V → List V → Hp → VK → Prop := fun x xs H Q => ∃ a p, ∃ ys : List Str, x = .str a ∧ xs = [.ref p] ∧ (SqL K H p (ys.map V.str) ∨ SqT K H p (ys.map V.str)) ∧ (ys.map (·.length)).sum + ys.length * a.length ≤ 16777216 ∧ Q (.str (Txt.join a ys)) H
theorem ok_join : OpOk K ca gJoin (rMt (rJoin2 K)) := fun F H ds d xs Q vw e q => by
  unfold gJoin at e
  split at e
  · rename_i a ds
    split at e
    · rename_i ys hy
      split at e
      · rename_i hc
        cases e
        obtain ⟨x, y, rfl, w1, b, vs, rfl, h, r⟩ := vw.inv2
        exact ⟨a, b, ys, w1, rfl, .inl (by rw [← reps_strs r hy]; exact .of h), hc, q _ F H .refl rep_str⟩
      · cases e
    · cases e
  · cases e
def rFind2 : V → List V → Hp → VK → Prop := fun x xs H Q => ∃ a b, x = .str a ∧ xs = [.str b] ∧ Q (.int (Txt.find a b)) H
theorem ok_find : OpOk K ca gFind (rMt rFind2) := fun F H ds d xs Q vw e q => by
  unfold gFind at e
  split at e
  · cases e
    obtain ⟨x, y, rfl, w1, w2⟩ := vw.inv2
    exact ⟨_, _, w1, by rw [show y = _ from w2], q _ F H .refl rep_int⟩
  · cases e
def rSplit2 : V → List V → Hp → VK → Prop := fun x xs H Q => ∃ a b, x = .str a ∧ xs = [.str b] ∧ (b.length == 0) = false ∧ a.length + 2 ≤ sizeLine ∧ rNewStrs (Txt.split a b) H Q
theorem reps_of_strs : ∀ {ys : List Str}, Reps K ca F H (ys.map .str) (ys.map V.str)
  | [] => .nil
  | y :: ys => .cons rep_str reps_of_strs
theorem new_split : OpNew K ca gSplit (rMt rSplit2) := fun F H ds es xs Q vw e q => by
  unfold gSplit at e
  split at e
  · rename_i a b
    split at e
    · rename_i hc
      cases e
      obtain ⟨x, y, rfl, w1, w2⟩ := vw.inv2
      exact ⟨a, b, w1, by rw [show y = _ from w2], hc.1, hc.2, fun p n => q p _ n reps_of_strs⟩
    · cases e
  · cases e
end
section
variable {X : Cx} {ca : Ca} {W : WX} {e o : Expr} {es : List Expr} {apos cpos : Pos} {m : E} {ms : List E} {name : Str} {id : String} {g : List D → Option D} {r : V → List V → Hp → VK → Prop}
theorem se_bs (slot : Slot "str" name id) (hty : typeOf (.builtin id) = pure (.type "method_descriptor")) (hm : MtR X id r) (hk : OpOk X.K ca g (rMt r)) (ho : PE X o (tE X.K ca W m)) (ha : PA X (e :: es) (tA X.K ca W ms))
    (hbase : attributeBase o name X.env (eval o X.env) = eval o X.env := by rfl)
    (hfew : ((backTo cpos (starEach (e :: es) X.env)).all (fun x => !x.1) && (backToKw cpos (keywordEach [] X.env)).all (fun x => x.1.isSome)
      && decide ((e :: es).length + ([] : List Keyword).length + (if ([] : List Keyword).isEmpty then 0 else 1) < 30)) = true := by rfl)
    (hline : (apos.endLine == cpos.line) = true := by rfl) (hs : starEach (e :: es) X.env = (false, eval e X.env) :: starEach es X.env := by rfl) (hplain : (backTo cpos (starEach es X.env)).any (·.1) = false := by rfl) :
    PE X (.Call (.Attribute o name apos) (e :: es) [] cpos) (tE X.K ca W (eBs g m ms)) := PE.imp (pe_bm PySem.F.plainAttrs_str slot hty hm ho ha hbase hfew hline hs hplain) fun σ H Q h => by
  refine tE_bind (n := fun d st => match isStrD d with
    | true => (evAll ms st).bind fun ds st => (match g (d :: ds) with
      | some d => .ok d st
      | none => .bad)
    | false => .bad) h fun d v F H st A rl rp q => ?_
  cases d with
  | str x =>
    have rp' := rp
    unfold Rep at rp
    subst rp
    refine ⟨rfl, F, st, A, rl, ?_⟩
    simp only [isStrD] at q
    cases z : evAll ms st with
    | bad => simp only [z, R.bind] at q
    | exc c x s => simp only [z, R.bind] at q; exact q
    | ok ds st1 =>
      simp only [z, R.bind] at q
      intro vs F1 H1 A1 rl1 rs s1
      cases z2 : g (D.str x :: ds) with
      | none => simp only [z2] at q
      | some d =>
        simp only [z2] at q
        exact hk F1 H1 (D.str x :: ds) d (V.str x :: vs) Q ⟨_, _, rfl, (rp'.step s1 rl).vw, rs.vwA⟩ z2 fun w F2 H2 al rw2 => q w F2 H2 A1 (al.rl rl1) rw2 (s1.trans al.step)
  | _ => exact q.elim
end
end Ev
namespace PySem.W
open PySem PySem.Calls PyProof.Rows Builtin
section
variable {prog : Program} {w : World} {M : Model} {A : Around} {E : Value → Shared → Prop} {s : Shared} {K : Frag} {x C D L f : Addr} {h₀ : Heap} {m : Str → Option Value} {ox : Obj} {od : Option Obj} {nm : String}
theorem evx_fillsNone {h : Heap} {cd : ClassData} (X : K.In h) (hc : clsIn K D = some cd) (hm : cd.mro = [.ref D, .type "object"]) (h1 : findIn K (.ref D) (PySem.dunder nm) = some none) (h2 : findIn K (.ref D) (dunderR nm) = some none)
    (g1 : findIn K (.type "object") (PySem.dunder nm) = some none) (g2 : findIn K (.type "object") (dunderR nm) = some none) : Looks M h (fillsNumberSlot (.ref D) nm) false := by
  intro A Q E s k q
  unfold fillsNumberSlot
  refine wpAny_bind ((looks_clsIn X hc).andThen (f := fun cd => pure cd.mro) .now A _ E s k ?_)
  rw [hm, List.anyM_cons]
  refine wpAny_bind ?_
  show wpAny M A (List.anyM _ [PySem.dunder nm, dunderR nm]) _ _ _
  rw [List.anyM_cons]
  refine wpAny_bind (wpAny_bind (looks_findIn X h1 A _ E s k ?_))
  dsimp only
  refine wpAny_pure ?_
  rw [if_neg Bool.false_ne_true, List.anyM_cons]
  refine wpAny_bind (wpAny_bind (looks_findIn X h2 A _ E s k ?_))
  dsimp only
  refine wpAny_pure ?_
  rw [if_neg Bool.false_ne_true, List.anyM_nil]
  refine wpAny_pure ?_
  rw [if_neg Bool.false_ne_true, List.anyM_cons]
  refine wpAny_bind ?_
  refine wpAny_bind (looks_findIn X g1 A _ E s k ?_)
  refine wpAny_bind (looks_findIn X g2 A _ E s k ?_)
  refine wpAny_pure ?_
  show wpAny M A (if (false = true) then _ else _) _ _ _
  rw [if_neg Bool.false_ne_true, List.anyM_nil]
  exact wpAny_pure q
/-- a - b, b of another class of the text, which knows nothing of it -/
theorem evx_binD {op : Operator} {b : Value} {cD : ClassData} {Q : Value → Shared → Prop} (F : Fr h₀ L s.heap m) (X₀ : K.In h₀) (I : InstAt s.heap x ox C od) (hb : Looks (model prog w) s.heap (typeOf b) (.ref D)) (ne : C ≠ D) (hc : selfFirst K C = true)
    (hs : findIn K (.ref C) (PySem.dunder op.info.2) = some (some (.ref f))) (hf : isFn K (.ref f) = true) (hD : clsIn K D = some cD) (hm : cD.mro = [.ref D, .type "object"])
    (h1 : findIn K (.ref D) (PySem.dunder op.info.2) = some none) (h2 : findIn K (.ref D) (dunderR op.info.2) = some none) (g1 : findIn K (.type "object") (PySem.dunder op.info.2) = some none) (g2 : findIn K (.type "object") (dunderR op.info.2) = some none)
    (h : wpAny (model prog w) A (call (.ref f) [.ref x, b]) (CmpBack Q) E s) : wpAny (model prog w) A (binaryOp op (.ref x) b) Q E s := by
  have X := X₀.keeps F.keep
  obtain ⟨cd, rest, hcd, hmr⟩ := ksp_first hc
  rcases hi : op.info with ⟨sym, nm'⟩
  rw [hi] at hs h1 h2 g1 g2
  dsimp only at hs h1 h2 g1 g2
  have one := ksp_try X I hs hf h
  obtain ⟨hh, g, d, tt, os⟩ := s
  have L1 : Looks (model prog w) hh (typeOf (.ref x)) (.ref C) := I.type
  have L2 : Looks (model prog w) hh (typeOf b) (.ref D) := hb
  have L3 : Looks (model prog w) hh (fillsNumberSlot (.ref C) nm') true := fills_K X hcd hmr hs
  have L4 : Looks (model prog w) hh (fillsNumberSlot (.ref D) nm') false := evx_fillsNone X hD hm h1 h2 g1 g2
  have hne : (Value.ref C == Value.ref D) = false := Bool.eq_false_iff.mpr fun q => by cases beq_iff_eq.mp q; exact ne rfl
  simp only [binaryOp, hi]
  refine wpAny_holding (wpAny_bind ?_)
  unfold binaryOp1
  refine wpAny_bind (L1.at (wpAny_bind (L2.at (wpAny_bind (L3.at ?_)))))
  simp only [hne, Bool.false_eq_true, if_false]
  refine wpAny_bind (L4.at ?_)
  ksp_lk
  refine wpAny_mono one (fun r s' hr' => ?_) fun _ _ e => e
  obtain ⟨v, rfl, hq⟩ := hr'
  ksp_lk
  exact hq
theorem evx_neSlot : Slot "enumerate" "__ne__" "object.__ne__" := PySem.F.slot_enumerate_ne
/-- a != b by the class's own == -/
theorem evx_ne {b : Value} {Q : Value → Shared → Prop} (hu : A.units + 2 < cLine) (X : K.In s.heap) (I : InstAt s.heap x ox C od) (hb : Looks (model prog w) s.heap (typeOf b) (.ref C)) (he : findIn K (.ref C) "__eq__" = some (some (.ref f))) (hf : isFn K (.ref f) = true)
    (hne : findIn K (.ref C) "__ne__" = some (some (.builtin "object.__ne__"))) (hob : subIn K (.ref C) (.type "object") = some true)
    (h : wpAny (model prog w) A.in1 (call (.ref f) [.ref x, b]) (fun v s' => ∃ k, v = .bool k ∧ Q (.bool (!k)) s') E s) : wpAny (model prog w) A (richCompare .NotEq (.ref x) b) Q E s := by
  have call1 : wpAny (model prog w) A (call (.builtin "object.__ne__") [.ref x, b]) (fun v s' => ∃ k, v = .bool k ∧ Q (.bool k) s') E s := by
    refine wpAny_call (codeAny_call_builtin evx_neSlot.plain PySem.F.cmpEntry_ne (check_slot PySem.F.cmpKind_ne PySem.F.cmpSplit_ne (I.type.andThen (looks_subIn X hob)) (PySem.F.cmpArgs_ne _ _) ?_))
    unfold Builtin.«object.__ne__»
    refine wpAny_bind (m := slotArgs "__ne__" 1 _) (wpAny_pure ?_)
    refine wpAny_bind (wpAny_cRoomFor (by show A.units + 1 < cLine; omega) ?_)
    refine wpAny_bind (m := callSpecialIfBound? (.ref x) (Str.ofString "__eq__") [b]) (ifBound_K X I he hf (wpAny_mono h (fun r s' hr => ?_) fun _ _ y => y))
    obtain ⟨k, rfl, hq⟩ := hr
    refine wpAny_bind (m := truthy (.bool _)) (wpAny_truthy_bool ?_)
    exact wpAny_pure ⟨_, rfl, hq⟩
  have one : wpAny (model prog w) A (tryCompare (.ref x) (cmpInfo .NotEq).2.1 b) (fun r s' => ∃ v, r = some v ∧ Q v s') E s := by
    unfold tryCompare
    refine wpAny_bind (m := callSpecialIfBound? (.ref x) _ [b]) ?_
    simp only [callSpecialIfBound?, bindSpecialIfBound?]
    refine wpAny_holding (wpAny_bind (wpAny_bind (wpAny_bind (I.type.here ((looks_findIn X hne).here ?_)))))
    refine wpAny_bind (wpAny_askSetting (wpAny_ite ?_))
    have fin : ∀ P : Option Value → Shared → Prop, (∀ k s', Q (.bool k) s' → P (some (.bool k)) s') → wpAny (model prog w) A (call (.builtin "object.__ne__") ([.ref x] ++ [b]) >>= fun v => pure (some v)) P E s := fun P hP =>
      wpAny_bind (wpAny_mono call1 (fun v s' hv => by
        obtain ⟨k, rfl, hq⟩ := hv
        exact wpAny_pure (hP k s' hq)) fun _ _ h' => h')
    rw [evx_neSlot.bind]
    split
    · refine wpAny_bind (wpAny_pure (wpAny_pure ?_))
      exact fin _ fun k s' hq => wpAny_pure ⟨_, rfl, hq⟩
    · refine wpAny_tryCatch (wpAny_bind (wpAny_pure (wpAny_pure ?_)))
      exact fin _ fun k s' hq => wpAny_pure ⟨_, rfl, hq⟩
  unfold richCompare
  simp only [oneThing_ref]
  refine wpAny_holding (wpAny_bind (wpAny_cRoomFor (by omega) ?_))
  refine wpAny_bind (I.type.here (wpAny_bind (hb.here ?_)))
  rw [show (Value.ref C != Value.ref C) = false from by simp]
  refine wpAny_bind (wpAny_pure ?_)
  simp only [Bool.false_eq_true, if_false]
  refine wpAny_bind (wpAny_mono one (fun r s' z => ?_) fun _ _ e => e)
  obtain ⟨v, rfl, hq⟩ := z
  exact wpAny_pure hq
end
end PySem.W
namespace Ev
open PySem PySem.Spec PyProof.Rows L2
def eOpF (g : List D → Option D) (ms : List E) : E := fun st => (evAll ms st).bind fun ds st => match g ds with
  | some d => .ok d st
  | none => .bad
def OpOkF (K : PySem.W.Frag) (ca : Ca) (g : List D → Option D) (r : List V → Hp → VK → Prop) : Prop :=
  ∀ (F : Addr → Prop) (H : Hp) (ds : List D) (d : D) (xs : List V) (Q : VK), (∀ a, F a → ∃ o, H a = some o) → Reps K ca F H ds xs → g ds = some d →
    (∀ v F' H', Al F H F' H' → Rep K ca F' H' d v → Q v H') → r xs H Q
def isO (c : Str) : D → Bool
  | .obj c' _ _ => c' == c
  | _ => false
def gDun (tag : List D → Bool) (mf : MF) : List D → Option D := fun ds => match tag ds with
  | true => (match mf (ds.map .f) with
    | .ok d _ => some d
    | _ => none)
  | false => none
section
variable {K : PySem.W.Frag} {ca : Ca} {W : WX} {F : Addr → Prop} {H : Hp} {σ : L2.St} {Q : VK} {m n : E} {g : List D → Option D} {r : List V → Hp → VK → Prop}
theorem eOpF1_run (ho : OpOkF K ca g r) (h : tE K ca W (eOpF g [m]) σ H Q) : tE K ca W m σ H fun x H1 => r [x] H1 Q := by
  obtain ⟨F, st, A, rl, h⟩ := h
  refine ⟨F, st, A, rl, ?_⟩
  unfold eOpF evAll evAll at h
  cases z : m st with
  | bad => simp only [z, R.bind] at h
  | exc c x s => simp only [z, R.bind] at h; exact h
  | ok d st1 =>
    simp only [z, R.bind] at h
    intro v F1 H1 A1 rl1 rp s1
    cases z3 : g [d] with
    | none => simp only [z3] at h
    | some e =>
      simp only [z3] at h
      exact ho F1 H1 [d] e [v] Q rl1.fd (.cons rp .nil) z3 fun w F2 H2 al rw2 => h w F2 H2 A1 (al.rl rl1) rw2 (s1.trans al.step)
theorem eOpF2_run (ho : OpOkF K ca g r) (h : tE K ca W (eOpF g [m, n]) σ H Q) : tE K ca W m σ H fun x H1 => tE K ca W n σ H1 fun y H2 => r [x, y] H2 Q := by
  have h : tE K ca W (fun st => (m st).bind fun d st => (n st).bind fun e st => match g [d, e] with
    | some d => .ok d st
    | none => .bad) σ H Q := by
    obtain ⟨F, st, A, rl, h⟩ := h
    refine ⟨F, st, A, rl, ?_⟩
    unfold eOpF evAll evAll evAll at h
    cases z : m st with
    | bad => simp only [z, R.bind] at h
    | exc c x s => simp only [z, R.bind] at h ⊢; exact h
    | ok d st1 =>
      simp only [z, R.bind] at h ⊢
      cases z2 : n st1 with
      | bad => simp only [z2] at h
      | exc c x s => simp only [z2] at h ⊢; exact h
      | ok e st2 => simp only [z2] at h ⊢; exact h
  refine tE_bind (n := fun d st => (n st).bind fun e st => match g [d, e] with
    | some d => .ok d st
    | none => .bad) h fun d v F H st A rl rp q => ?_
  refine ⟨F, st, A, rl, ?_⟩
  cases z2 : n st with
  | bad => simp only [z2, R.bind] at q
  | exc c x s => simp only [z2, R.bind] at q; exact q
  | ok e st2 =>
    simp only [z2, R.bind] at q
    intro u F1 H1 A1 rl1 rp1 s1
    cases z3 : g [d, e] with
    | none => simp only [z3] at q
    | some k =>
      simp only [z3] at q
      exact ho F1 H1 [d, e] k [v, u] Q rl1.fd (.cons (rp.step s1 rl) (.cons rp1 .nil)) z3 fun w F2 H2 al rw2 => q w F2 H2 A1 (al.rl rl1) rw2 (s1.trans al.step)
theorem repS_f : ∀ {ds : List D} {vs : List V}, Reps K ca F H ds vs → RepS K ca F H (ds.map .f) (vs.map some) []
  | [], vs, h => by unfold Reps at h; subst h; exact ⟨rfl, rfl⟩
  | d :: ds, vs, h => by
    obtain ⟨v, r, rfl, h1, h2⟩ := h.inv
    exact ⟨some v, r.map some, [], [], rfl, rfl, ⟨rfl, v, rfl, h1⟩, repS_f h2⟩
theorem rl_f {ds : List D} {vs : List V} (fd : ∀ a, F a → ∃ o, H a = some o) (h : Reps K ca F H ds vs) : Rl K ca F H (ds.map .f) (vs.map some) [] := ⟨⟨[], repS_f h, .refl _⟩, .nil, fd, fun _ m => by cases m⟩
theorem Step.al {F' : Addr → Prop} {H' : Hp} {A' : List Addr} (s : Step F H [] F' H' A') (fd : ∀ a, F' a → ∃ o, H' a = some o) : Al F H F' H' := ⟨s.fm, fun a o e => s.keep a o e (by simp), fun a m => by
  rcases s.fnew a m with z | z | z
  · exact .inl z
  · exact .inr ⟨z, fd a m⟩
  · cases z⟩
/-- a def's promise, called with frozen data -/
theorem spF {mf : MF} {ds : List D} {xs : List V} {d : D} {E : XK} (fd : ∀ a, F a → ∃ o, H a = some o) (rp : Reps K ca F H ds xs) (e : (match mf (ds.map .f) with | .ok d _ => some d | _ => none) = some d) (q : ∀ v F' H', Al F H F' H' → Rep K ca F' H' d v → Q v H') : spE K ca mf xs H Q E := by
  refine ⟨F, _, [], rl_f fd rp, ?_⟩
  cases z : mf (ds.map .f) with
  | bad => rw [z] at e; cases e
  | exc c x s => rw [z] at e; cases e
  | ok d' cs' =>
    rw [z] at e
    cases e
    intro v F' H' A' rl rp s
    exact q v F' H' (s.al rl.fd) rp
theorem gDun_inv {tag : List D → Bool} {mf : MF} {ds : List D} {d : D} (h : gDun tag mf ds = some d) : tag ds = true ∧ (match mf (ds.map .f) with | .ok d _ => some d | _ => none) = some d := by
  unfold gDun at h
  cases z : tag ds with
  | false => rw [z] at h; cases h
  | true => rw [z] at h; exact ⟨rfl, h⟩
theorem isO_inv {c : Str} {d : D} {v : V} (h : isO c d = true) (r : Rep K ca F H d v) : ∃ a dx fs ns, v = .ref a ∧ ca.ok c ns ∧ H a = some (.ins (ca.a c) dx fs) := by
  cases d with
  | obj c' ns ds =>
    cases eq_of_beq (show (c' == c) = true from h)
    unfold Rep at r
    obtain ⟨a, dx, gs, vs, rfl, kc, _, _, q1, _⟩ := r
    exact ⟨a, dx, gs, ns, rfl, kc, q1⟩
  | _ => cases h
end
section
variable {X : Cx} {C C2 f : Addr} {k : Nat} {sp : Sp}
theorem fresh_inst {pins : List (Addr × Obj)} {σ : L2.St} {H : Hp} {s : Shared} {a dx : Addr} {fs : List (Str × V)} (I : Inv X pins σ H s) (e : H a = some (.ins C dx fs)) : ∃ ox od, PySem.W.InstAt s.heap a ox C (some od) := by
  obtain ⟨mA, O, _⟩ := ins_get I.hok e
  obtain ⟨od, J, _⟩ := O.look
  exact ⟨_, od, J⟩
/-- len(x) -/
def rLenO (C : Addr) (sp : Sp) : List V → Hp → VK → Prop := fun xs H Q => ∃ a dx fs, xs = [.ref a] ∧ H a = some (.ins C dx fs) ∧ sp [.ref a] H (fun z H' => ∃ n : Nat, z = .int n ∧ n < 2 ^ 63 ∧ Q z H') E0
theorem cr_lenO (hs : PySem.W.findIn X.K (.ref C) "__len__" = some (some (.ref f))) (hf : PySem.W.isFn X.K (.ref f) = true) (Fn : FnR X.prog X.w X.K X.mg X.base (L2.CX X.prog X.w) k f sp) (hr : Room (k + 1) X.A) : CallR X (.builtin "len") (rLenO C sp) := by
  intro pins s σ H xs us Q I r h
  obtain ⟨a, dx, fs, rfl, e, q⟩ := h
  rw [Vals.ref1 r]
  obtain ⟨ox, od, J⟩ := fresh_inst I e
  obtain ⟨m, hF⟩ := I.fr
  refine PySem.W.len_K hF I.ok.mod.kin J hs hf ?_
  refine wpAny_mono (wpAny_call (SlX.run_at (us := [.ref a]) (ws := [.ref a]) Fn hr.in1 I.env0.in1 passL I (.cons rfl .nil) q)) (fun w s' z => ?_) fun _ _ x => x
  obtain ⟨z', H', I', rz, n, ez, hn, qz⟩ := z
  subst ez
  obtain ⟨t, rfl⟩ := (show ∃ t, w = Value.int n t from rz)
  exact ⟨⟨by omega, by exact_mod_cast hn⟩, .int n, H', I'.tok _, ⟨_, rfl⟩, qz⟩
/-- a - b, a == b .. of the same class -/
def rBinO (C C2 : Addr) (sp : Sp) : R2 := fun x y H Q => ∃ a b dx fs dy gs, x = .ref a ∧ y = .ref b ∧ H a = some (.ins C dx fs) ∧ H b = some (.ins C2 dy gs) ∧ sp [x, y] H Q E0
theorem op_binO {op : Operator} (hc : PySem.W.selfFirst X.K C = true) (hs : PySem.W.findIn X.K (.ref C) (PySem.dunder op.info.2) = some (some (.ref f))) (hf : PySem.W.isFn X.K (.ref f) = true) (Fn : FnR X.prog X.w X.K X.mg X.base (L2.CX X.prog X.w) k f sp) (hr : Room k X.A) :
    OpR X (binaryOp op) (rBinO C C sp) := by
  intro pins s σ H x y v u Q I rx ry h
  obtain ⟨a, b, dx, fs, dy, gs, rfl, rfl, e, e2, q⟩ := h
  cases (show v = Value.ref a from rx)
  cases (show u = Value.ref b from ry)
  obtain ⟨ox, od, J⟩ := fresh_inst I e
  obtain ⟨ox2, od2, J2⟩ := fresh_inst I e2
  obtain ⟨m, hF⟩ := I.fr
  refine PySem.W.binop_K hF I.ok.mod.kin J J2.type hc hs hf ?_
  refine wpAny_mono (wpAny_call (run_fnR (us := [.ref a, .ref b]) (vs := [.ref a, .ref b]) Fn hr passL I (.cons rfl (.cons rfl .nil)) q)) (fun w s' z => ?_) fun _ _ x => x
  obtain ⟨z', H', I', rz, qz⟩ := z
  exact SlX.cmpback rz ⟨z', H', I', rz, qz⟩
theorem op_binD {op : Operator} {cD : ClassData} (ne : C ≠ C2) (hc : PySem.W.selfFirst X.K C = true) (hs : PySem.W.findIn X.K (.ref C) (PySem.dunder op.info.2) = some (some (.ref f))) (hf : PySem.W.isFn X.K (.ref f) = true) (hD : PySem.W.clsIn X.K C2 = some cD) (hm : cD.mro = [.ref C2, .type "object"])
    (h1 : PySem.W.findIn X.K (.ref C2) (PySem.dunder op.info.2) = some none) (h2 : PySem.W.findIn X.K (.ref C2) (dunderR op.info.2) = some none) (g1 : PySem.W.findIn X.K (.type "object") (PySem.dunder op.info.2) = some none) (g2 : PySem.W.findIn X.K (.type "object") (dunderR op.info.2) = some none)
    (Fn : FnR X.prog X.w X.K X.mg X.base (L2.CX X.prog X.w) k f sp) (hr : Room k X.A) : OpR X (binaryOp op) (rBinO C C2 sp) := by
  intro pins s σ H x y v u Q I rx ry h
  obtain ⟨a, b, dx, fs, dy, gs, rfl, rfl, e, e2, q⟩ := h
  cases (show v = Value.ref a from rx)
  cases (show u = Value.ref b from ry)
  obtain ⟨ox, od, J⟩ := fresh_inst I e
  obtain ⟨ox2, od2, J2⟩ := fresh_inst I e2
  obtain ⟨m, hF⟩ := I.fr
  refine PySem.W.evx_binD hF I.ok.mod.kin J J2.type ne hc hs hf hD hm h1 h2 g1 g2 ?_
  refine wpAny_mono (wpAny_call (run_fnR (us := [.ref a, .ref b]) (vs := [.ref a, .ref b]) Fn hr passL I (.cons rfl (.cons rfl .nil)) q)) (fun w s' z => ?_) fun _ _ x => x
  obtain ⟨z', H', I', rz, qz⟩ := z
  exact SlX.cmpback rz ⟨z', H', I', rz, qz⟩
theorem op_cmpO {op : CmpOp} (hop : ∀ a b, compareOp op a b = richCompare op a b) (hs : PySem.W.findIn X.K (.ref C) (cmpInfo op).2.1 = some (some (.ref f))) (hf : PySem.W.isFn X.K (.ref f) = true) (Fn : FnR X.prog X.w X.K X.mg X.base (L2.CX X.prog X.w) k f sp) (hr : Room k X.A) :
    OpR X (compareOp op) (rBinO C C sp) := by
  intro pins s σ H x y v u Q I rx ry h
  obtain ⟨a, b, dx, fs, dy, gs, rfl, rfl, e, e2, q⟩ := h
  cases (show v = Value.ref a from rx)
  cases (show u = Value.ref b from ry)
  obtain ⟨ox, od, J⟩ := fresh_inst I e
  obtain ⟨ox2, od2, J2⟩ := fresh_inst I e2
  obtain ⟨m, hF⟩ := I.fr
  rw [hop]
  refine PySem.W.cmp_K (op := op) (tb := .ref C) hr.units0 hF I.ok.mod.kin J J2.type (by unfold PySem.W.notFirst; simp) hs hf ?_
  refine wpAny_mono (wpAny_call (run_fnR (us := [.ref a, .ref b]) (vs := [.ref a, .ref b]) Fn hr passL I (.cons rfl (.cons rfl .nil)) q)) (fun w s' z => ?_) fun _ _ x => x
  obtain ⟨z', H', I', rz, qz⟩ := z
  exact SlX.cmpback rz ⟨z', H', I', rz, qz⟩
/-- a != b by == -/
def rNeO (C : Addr) (sp : Sp) : R2 := fun x y H Q => ∃ a b dx fs dy gs, x = .ref a ∧ y = .ref b ∧ H a = some (.ins C dx fs) ∧ H b = some (.ins C dy gs) ∧ sp [x, y] H (fun z H' => ∃ t, z = .bl t ∧ Q (.bl (!t)) H') E0
theorem op_neO (hs : PySem.W.findIn X.K (.ref C) "__eq__" = some (some (.ref f))) (hf : PySem.W.isFn X.K (.ref f) = true) (hne : PySem.W.findIn X.K (.ref C) "__ne__" = some (some (.builtin "object.__ne__"))) (hob : PySem.W.subIn X.K (.ref C) (.type "object") = some true)
    (Fn : FnR X.prog X.w X.K X.mg X.base (L2.CX X.prog X.w) k f sp) (hr : Room (k + 1) X.A) : OpR X (compareOp .NotEq) (rNeO C sp) := by
  intro pins s σ H x y v u Q I rx ry h
  obtain ⟨a, b, dx, fs, dy, gs, rfl, rfl, e, e2, q⟩ := h
  cases (show v = Value.ref a from rx)
  cases (show u = Value.ref b from ry)
  obtain ⟨ox, od, J⟩ := fresh_inst I e
  obtain ⟨ox2, od2, J2⟩ := fresh_inst I e2
  show wpAny _ _ (richCompare .NotEq _ _) _ _ _
  refine PySem.W.evx_ne (by have := hr.un; omega) I.kIn J J2.type hs hf hne hob ?_
  refine wpAny_mono (wpAny_call (SlX.run_at (us := [.ref a, .ref b]) (ws := [.ref a, .ref b]) Fn hr.in1 I.env0.in1 passL I (.cons rfl (.cons rfl .nil)) q)) (fun w s' z => ?_) fun _ _ x => x
  obtain ⟨z', H', I', rz, t, ez, qz⟩ := z
  subst ez
  cases (show w = Value.bool t from rz)
  exact ⟨t, rfl, .bl (!t), H', I', rfl, qz⟩
/-- x in k -/
def rInO (C : Addr) (sp : Sp) (neg : Bool) : R2 := fun x y H Q => ∃ b dy gs, y = .ref b ∧ H b = some (.ins C dy gs) ∧ sp [y, x] H (fun z H' => ∃ t, z = .bl t ∧ Q (.bl (neg != t)) H') E0
theorem op_inO (hs : PySem.W.findIn X.K (.ref C) "__contains__" = some (some (.ref f))) (hf : PySem.W.isFn X.K (.ref f) = true) (Fn : FnR X.prog X.w X.K X.mg X.base (L2.CX X.prog X.w) k f sp) (hr : Room k X.A) : OpR X (compareOp .In) (rInO C sp false) := by
  intro pins s σ H x y v u Q I rx ry h
  obtain ⟨b, dy, gs, rfl, e, q⟩ := h
  cases (show u = Value.ref b from ry)
  obtain ⟨ox, od, J⟩ := fresh_inst I e
  obtain ⟨m, hF⟩ := I.fr
  refine PySem.W.in_K hF I.ok.mod.kin J hs hf ?_
  refine wpAny_mono (wpAny_call (run_fnR (us := [.ref b, v]) (vs := [.ref b, x]) Fn hr passL I (.cons rfl (.cons rx .nil)) q)) (fun w s' z => ?_) fun _ _ x => x
  obtain ⟨z', H', I', rz, t, ez, qz⟩ := z
  subst ez
  cases (show w = Value.bool t from rz)
  exact wpAny_truthy_bool ⟨.bl t, H', I', rfl, by simpa using qz⟩
theorem op_notInO (hs : PySem.W.findIn X.K (.ref C) "__contains__" = some (some (.ref f))) (hf : PySem.W.isFn X.K (.ref f) = true) (Fn : FnR X.prog X.w X.K X.mg X.base (L2.CX X.prog X.w) k f sp) (hr : Room k X.A) : OpR X (compareOp .NotIn) (rInO C sp true) := by
  intro pins s σ H x y v u Q I rx ry h
  obtain ⟨b, dy, gs, rfl, e, q⟩ := h
  cases (show u = Value.ref b from ry)
  obtain ⟨ox, od, J⟩ := fresh_inst I e
  obtain ⟨m, hF⟩ := I.fr
  refine PySem.W.notIn_K hF I.ok.mod.kin J hs hf ?_
  refine wpAny_mono (wpAny_call (run_fnR (us := [.ref b, v]) (vs := [.ref b, x]) Fn hr passL I (.cons rfl (.cons rx .nil)) q)) (fun w s' z => ?_) fun _ _ x => x
  obtain ⟨z', H', I', rz, t, ez, qz⟩ := z
  subst ez
  cases (show w = Value.bool t from rz)
  exact wpAny_truthy_bool ⟨.bl (!t), H', I', rfl, by simpa using qz⟩
end
def gLenO (c : Str) (mf : MF) : List D → Option D := fun ds => match gDun (fun ds => match ds with | [d] => isO c d | _ => false) mf ds with
  | some (.int n) => if 0 ≤ n ∧ n < 2 ^ 63 then some (.int n) else none
  | _ => none
def tag2 (c c2 : Str) : List D → Bool
  | [d, e] => isO c d && isO c2 e
  | _ => false
def gNeO (c : Str) (mf : MF) : List D → Option D := fun ds => match gDun (tag2 c c) mf ds with
  | some (.bl t) => some (.bl (!t))
  | _ => none
def gInO (c : Str) (mf : MF) (neg : Bool) : List D → Option D
  | [d, e] => (match isO c e, mf [.f e, .f d] with
    | true, .ok (.bl t) _ => some (.bl (neg != t))
    | _, _ => none)
  | _ => none
section
variable {K : PySem.W.Frag} {ca : Ca} {c c2 : Str} {mf : MF}
theorem okf_lenO : OpOkF K ca (gLenO c mf) (rLenO (ca.a c) (spE K ca mf)) := fun F H ds d xs Q fd rp e q => by
  unfold gLenO at e
  split at e
  · rename_i n z
    split at e
    · rename_i hn
      cases e
      obtain ⟨t, z2⟩ := gDun_inv z
      match ds, t with
      | [d], t =>
        obtain ⟨v, r, rfl, r1, r2⟩ := rp.inv
        unfold Reps at r2
        subst r2
        obtain ⟨a, dx, fs, ns, rfl, kc, e⟩ := isO_inv t r1
        refine ⟨a, dx, fs, rfl, e, spF fd (.cons r1 .nil) z2 fun v F' H' al rv => ?_⟩
        have := rv
        unfold Rep at this
        subst this
        exact ⟨n.toNat, by rw [Int.toNat_of_nonneg hn.1], by omega, q _ F' H' al rv⟩
    · cases e
  · cases e
theorem okf_bin : OpOkF K ca (gDun (tag2 c c2) mf) (r2L (rBinO (ca.a c) (ca.a c2) (spE K ca mf))) := fun F H ds d xs Q fd rp e q => by
  obtain ⟨t, z2⟩ := gDun_inv e
  match ds, t with
  | [d, e], t =>
    obtain ⟨t1, t2⟩ := Bool.and_eq_true_iff.mp (show (isO c d && isO c2 e) = true from t)
    obtain ⟨v, r, rfl, r1, rq⟩ := rp.inv
    obtain ⟨u, r, rfl, r2, r3⟩ := rq.inv
    unfold Reps at r3
    subst r3
    obtain ⟨a, dx, fs, ns, rfl, kc, e1⟩ := isO_inv t1 r1
    obtain ⟨b, dy, gs, ns2, rfl, kc2, e2⟩ := isO_inv t2 r2
    exact ⟨a, b, dx, fs, dy, gs, rfl, rfl, e1, e2, spF fd (.cons r1 (.cons r2 .nil)) z2 q⟩
theorem okf_ne : OpOkF K ca (gNeO c mf) (r2L (rNeO (ca.a c) (spE K ca mf))) := fun F H ds d xs Q fd rp e q => by
  unfold gNeO at e
  split at e
  · rename_i t0 z
    cases e
    obtain ⟨t, z2⟩ := gDun_inv z
    match ds, t with
    | [d, e], t =>
      obtain ⟨t1, t2⟩ := Bool.and_eq_true_iff.mp (show (isO c d && isO c e) = true from t)
      obtain ⟨v, r, rfl, r1, rq⟩ := rp.inv
      obtain ⟨u, r, rfl, r2, r3⟩ := rq.inv
      unfold Reps at r3
      subst r3
      obtain ⟨a, dx, fs, ns, rfl, kc, e1⟩ := isO_inv t1 r1
      obtain ⟨b, dy, gs, ns2, rfl, kc2, e2⟩ := isO_inv t2 r2
      refine ⟨a, b, dx, fs, dy, gs, rfl, rfl, e1, e2, spF fd (.cons r1 (.cons r2 .nil)) z2 fun v F' H' al rv => ?_⟩
      unfold Rep at rv
      exact ⟨t0, rv, q _ F' H' al rep_bl⟩
  · cases e
theorem okf_in {neg : Bool} : OpOkF K ca (gInO c mf neg) (r2L (rInO (ca.a c) (spE K ca mf) neg)) := fun F H ds d xs Q fd rp e q => by
  unfold gInO at e
  split at e
  · rename_i d1 d2
    split at e
    · rename_i t0 cs z1 z2
      cases e
      obtain ⟨v, r, rfl, r1, rq⟩ := rp.inv
      obtain ⟨u, r, rfl, r2, r3⟩ := rq.inv
      unfold Reps at r3
      subst r3
      obtain ⟨b, dy, gs, ns2, rfl, kc2, e2⟩ := isO_inv z1 r2
      refine ⟨b, dy, gs, rfl, e2, spF (ds := [d2, d1]) (d := .bl t0) fd (.cons r2 (.cons r1 .nil)) (by show (match mf [.f d2, .f d1] with | .ok d _ => some d | _ => none) = _; rw [z2]) fun v F' H' al rv => ?_⟩
      unfold Rep at rv
      exact ⟨t0, rv, q _ F' H' al rep_bl⟩
    · cases e
  · cases e
end
section
variable {X : Cx} {ca : Ca} {W : WX} {a b e : Expr} {pos p : Pos} {m n : E} {g : List D → Option D} {r : List V → Hp → VK → Prop} {ρ : R2} {x : Str} {id : String}
theorem se_binF {op : Operator} (ho : OpR X (binaryOp op) ρ) (hk : OpOkF X.K ca g (r2L ρ)) (ha : PE X a (tE X.K ca W m)) (hb : PE X b (tE X.K ca W n)) : PE X (.BinOp a op b pos) (tE X.K ca W (eOpF g [m, n])) := PE.imp (pe_op ho ha hb) fun σ H Q h => eOpF2_run hk h
theorem se_cmpF {op : CmpOp} (ho : OpR X (compareOp op) ρ) (hk : OpOkF X.K ca g (r2L ρ)) (ha : PE X a (tE X.K ca W m)) (hb : PE X b (tE X.K ca W n)) (hm : behindInMarks op b = false) : PE X (.Compare a [op] [b] pos) (tE X.K ca W (eOpF g [m, n])) := PE.imp (pe_cmpR ho ha hb hm) fun σ H Q h => eOpF2_run hk h
theorem st_cmpF {op : CmpOp} (ho : OpR X (compareOp op) ρ) (hk : OpOkF X.K ca g (r2L ρ)) (ha : PE X a (tE X.K ca W m)) (hb : PE X b (tE X.K ca W n)) (hm : behindInMarks op b = false) : PT X (.Compare a [op] [b] pos) (tT X.K ca W (mT (eOpF g [m, n]))) := PT.imp (pt_cmpR ho ha hb hm) fun σ H Q h => eOpF2_run hk (tT_tE h)
theorem se_callBF (hc : CallR X (.builtin id) r) (hk : OpOkF X.K ca g r) (hg : Gl X x) (hm : X.mg x = none) (hv : bootBuiltins x = some (.builtin id)) (ha : PE X e (tE X.K ca W m)) (hn : x ≠ "__name__" := by decide) (hdb : (x == ("__debug__" : Str)) = false := by decide)
    (he : starEach [e] X.env = (false, eval e X.env) :: starEach [] X.env := by rfl) (hpl : (backTo pos (starEach [] X.env)).any (·.1) = false := by rfl) : PE X (.Call (.Name x p) [e] [] pos) (tE X.K ca W (eOpF g [m])) :=
  PE.imp (pe_callB hc hg hm hv (pa_cons ha pa_nil he) hn hdb he hpl) fun σ H Q h => eOpF1_run hk h
/-- isinstance(e, C), C the own class of it -/
def gIsC (c : Str) : List D → Option D
  | [d] => if isO c d then some (.bl true) else none
  | _ => none
theorem se_isC {c y : Str} {py : Pos} (ic : C8.InsC X.K (ca.a c)) (hg : Gl X "isinstance") (hm : X.mg "isinstance" = none) (hgC : Gl X y) (hmC : X.mg y = some (.ref (ca.a c))) (hv : bootBuiltins "isinstance" = some (.builtin "isinstance")) (ha : PE X e (tE X.K ca W m)) (hd : (y == ("__debug__" : Str)) = false := by decide)
    (he : starEach [e, .Name y py] X.env = (false, eval e X.env) :: starEach [.Name y py] X.env := by rfl) (hs : starEach [.Name y py] X.env = [(false, eval (.Name y py) X.env)] := by rfl) (hpl : (backTo pos (starEach [.Name y py] X.env)).any (·.1) = false := by rfl) :
    PE X (.Call (.Name "isinstance" p) [e, .Name y py] [] pos) (tE X.K ca W (eOpF (gIsC c) [m])) :=
  PE.imp (pe_callB (C8.call_isC ic) hg hm hv (pa_cons ha (pa_cons (pe_glob (v := .ref (ca.a c)) hgC hmC rfl hd) pa_nil hs) he) (by decide) (by decide) he hpl) fun σ H Q h =>
    eOpF1_run (r := fun xs H Q => ∃ a dx fs, xs ++ [V.ref (ca.a c)] = [.ref a, .ref (ca.a c)] ∧ H a = some (.ins (ca.a c) dx fs) ∧ Q (.bl true) H) (fun F H ds d xs Q fd rp e q => by
      unfold gIsC at e
      split at e
      · split at e
        · rename_i t
          cases e
          obtain ⟨v, r, rfl, r1, r2⟩ := rp.inv
          unfold Reps at r2
          subst r2
          obtain ⟨a, dx, fs, ns, rfl, kc, e⟩ := isO_inv t r1
          exact ⟨a, dx, fs, rfl, e, q _ F H .refl rep_bl⟩
        · cases e
      · cases e) h
def eNever : E := fun _ => .bad
def mNever : B' := fun _ => .bad
theorem se_never (h : PE X e (fun _ _ _ => False)) : PE X e (tE X.K ca W eNever) := PE.imp h fun σ H Q ⟨F, st, A, rl, h⟩ => h
theorem pe_false : PE X e (fun _ _ _ => False) := ⟨fun _ _ _ _ _ _ h => h.elim⟩
theorem pt_false : PT X e (fun _ _ _ => False) := ⟨fun _ _ _ _ _ _ h => h.elim⟩
theorem st_never : PT X e (tT X.K ca W mNever) := PT.imp pt_false fun σ H Q ⟨F, st, A, rl, h⟩ => h
end
def evI : Option E → Sl → R (Option Int)
  | none, st => .ok none st
  | some m, st => (m st).bind fun d st => match d with
    | .int i => .ok (some i) st
    | _ => .bad
def eSl (g : D → Option Int → Option Int → Option D) (m : E) (lo hi : Option E) : E := fun st => (m st).bind fun d st => (evI lo st).bind fun l st => (evI hi st).bind fun h st => match g d l h with
  | some d => .ok d st
  | none => .bad
def cutD {α : Type} (xs : List α) (lo hi : Option Int) : List α := (xs.drop (HT.sIx xs.length 0 lo)).take (HT.sIx xs.length xs.length hi - HT.sIx xs.length 0 lo)
def gSl (d : D) (lo hi : Option Int) : Option D := match d with
  | .lst ds => some (.lst (cutD ds lo hi))
  | .scr ns => some (.lst (cutD (ns.map .int) lo hi))
  | .tup ds => some (.tup (cutD ds lo hi))
  | .str z => if z.length ≤ sizeLine then some (.str (Txt.slice z lo hi)) else none
  | _ => none
section
variable (K : PySem.W.Frag) (ca : Ca) (W : WX)
def tLo : Option E → TO
  | none => tNoPart
  | some m => tPart (tE K ca W m)
end
section
variable {K : PySem.W.Frag} {ca : Ca} {W : WX} {F : Addr → Prop} {H : Hp} {σ : L2.St} {A : List Addr} {st : Sl}
theorem tLo_run {lo : Option E} {P : Option Int → Hp → Prop} (rl : Rl K ca F H st σ A) (h : match evI lo st with
      | .ok l st' => ∀ F' H' A', Rl K ca F' H' st' σ A' → Step F H A F' H' A' → P l H'
      | .exc c x st' => XcW K ca W F H A σ c x st'
      | .bad => False) : tLo K ca W lo σ H P := by
  cases lo with
  | none => exact h F H A rl .refl
  | some m =>
    refine ⟨F, st, A, rl, ?_⟩
    unfold evI at h
    cases z : m st with
    | bad => simp only [z, R.bind] at h
    | exc c x s => simp only [z, R.bind] at h; exact h
    | ok d st1 =>
      simp only [z, R.bind] at h
      cases d with
      | int i =>
        intro v F' H' A' rl' rp s
        unfold Rep at rp
        exact ⟨i, rp, h F' H' A' rl' s⟩
      | _ => exact h.elim
theorem cutD_reps {ds : List D} {vs : List V} (h : Reps K ca F H ds vs) (lo hi : Option Int) : Reps K ca F H (cutD ds lo hi) (cutV vs lo hi) := by
  unfold cutD cutV
  rw [h.length]
  exact (h.drop _).take _
def rSl3 (K : PySem.W.Frag) : V → Option Int → Option Int → Hp → VK → Prop := fun x lo hi H Q => rSlL K x lo hi H Q ∨ rSlA K x lo hi H Q ∨ C8.rSlX x lo hi H Q
theorem sl_3 {X : Cx} : SlR X (rSl3 X.K) := sl_list.or (sl_tupA.or C8.sl_txt)
theorem ok_sl {d d' : D} {x : V} {lo hi : Option Int} {Q : VK} (w : Vw K ca F H d x) (e : gSl d lo hi = some d') (q : ∀ v F' H', Al F H F' H' → Rep K ca F' H' d' v → Q v H') : rSl3 K x lo hi H Q := by
  cases d with
  | lst ds =>
    cases e
    obtain ⟨a, vs, rfl, h, r⟩ := w
    exact .inl ⟨a, vs, rfl, .of h, fun p n => new_lst q (cutD_reps r lo hi) n⟩
  | scr ns =>
    cases e
    obtain ⟨a, vs, rfl, h, r⟩ := w.sq rfl
    exact .inl ⟨a, vs, rfl, h, fun p n => new_lst q (cutD_reps r lo hi) n⟩
  | tup ds =>
    cases e
    obtain ⟨a, vs, rfl, h, r⟩ := rep_tup w
    refine .inr (.inl ⟨a, vs, rfl, h.sq, fun hh => ?_, fun _ p n => new_tup q (cutD_reps r lo hi) n⟩)
    have e2 : cutD ds lo hi = ds := by
      unfold cutD
      rw [← r.length, hh.1, hh.2, List.drop_zero, Nat.sub_zero, List.take_of_length_le (by rw [r.length]; exact Nat.le_refl _)]
    rw [e2] at q
    exact q _ F H .refl w
  | str z =>
    unfold gSl at e
    simp only at e
    split at e
    · rename_i hz
      cases e
      exact .inr (.inr ⟨z, w, hz, q _ F H .refl rep_str⟩)
    · cases e
  | _ => cases e
end
section
variable {X : Cx} {ca : Ca} {W : WX} {e : Expr} {lo hi : Option Expr} {pos p2 : Pos} {m : E} {l h : Option E}
theorem pl_none : PO X none (tLo X.K ca W none) := po_none
theorem pl_some {b : Expr} {n : E} (h : PE X b (tE X.K ca W n)) : PO X (some b) (tLo X.K ca W (some n)) := po_some h
theorem se_sl (he : PE X e (tE X.K ca W m)) (hl : PO X lo (tLo X.K ca W l)) (hu : PO X hi (tLo X.K ca W h)) : PE X (.Subscript e (.Slice lo hi none p2) pos) (tE X.K ca W (eSl gSl m l h)) :=
  PE.imp (pe_slice sl_3 he hl hu) fun σ H Q q => by
    refine tE_bind (n := fun d st => (evI l st).bind fun l st => (evI h st).bind fun h st => match gSl d l h with
      | some d => .ok d st
      | none => .bad) q fun d v F H st A rl rp q => ?_
    refine tLo_run rl ?_
    cases z : evI l st with
    | bad => simp only [z, R.bind] at q
    | exc c x s => simp only [z, R.bind] at q; exact q
    | ok l' st1 =>
      simp only [z, R.bind] at q
      intro F1 H1 A1 rl1 s1
      refine tLo_run rl1 ?_
      cases z2 : evI h st1 with
      | bad => simp only [z2] at q
      | exc c x s => simp only [z2] at q; exact fun cls oe F' H' A' r x s => q cls oe F' H' A' r x (s1.trans s)
      | ok h' st2 =>
        simp only [z2] at q
        intro F2 H2 A2 rl2 s2
        cases z3 : gSl d l' h' with
        | none => simp only [z3] at q
        | some k =>
          simp only [z3] at q
          exact ok_sl (((rp.step s1 rl).step s2 rl1).vw) z3 fun w F3 H3 al rw3 => q w F3 H3 A2 (al.rl rl2) rw3 ((s1.trans s2).trans al.step)
/-- xs[::-1] -/
def gRev : List D → Option D
  | [.lst ds] => some (.lst ds.reverse)
  | [.scr ds] => some (.lst (ds.map .int).reverse)
  | _ => none
theorem Reps.reverse {K : PySem.W.Frag} {F : Addr → Prop} {H : Hp} : ∀ {ds : List D} {vs : List V}, Reps K ca F H ds vs → Reps K ca F H ds.reverse vs.reverse
  | [], vs, h => by unfold Reps at h; subst h; exact .nil
  | d :: ds, vs, h => by
    obtain ⟨v, r, rfl, h1, h2⟩ := h.inv
    rw [List.reverse_cons, List.reverse_cons]
    exact h2.reverse.append (.cons h1 .nil)
variable (cf : Cf X.K ca) {pd : Opd}
include cf in
theorem se_rev {k : Nat} {p1 p3 : Pos} (he : PE X e (tP X.K ca W pd)) (ok : opdsOk [pd] = true := by rfl) (of : opdsF [pd] = true := by rfl) :
    PE X (.Subscript e (.Slice none none (some (.UnaryOp .USub (.Constant (.int 1) k p1) p2)) p3) pos) (tE X.K ca W (eOp gRev [pd])) := PE.imp (pe_revL he) fun σ H Q h =>
  eOp_run (r := fun xs H Q => match xs with
    | [x] => ∃ a ys, x = .ref a ∧ SqL X.K H a ys ∧ ∀ p, H p = none → Q (.ref p) (upd H p (.lst ys.reverse))
    | _ => False) cf (fun F H ds d xs Q vw e q => by
    unfold gRev at e
    split at e
    · cases e
      obtain ⟨x, rfl, a, vs, rfl, h, r⟩ := vw.inv1
      exact ⟨a, vs, rfl, .of h, fun p n => new_lst q r.reverse n⟩
    · cases e
      obtain ⟨x, rfl, w⟩ := vw.inv1
      obtain ⟨a, vs, rfl, h, r⟩ := w.sq rfl
      exact ⟨a, vs, rfl, h, fun p n => new_lst q r.reverse n⟩
    · cases e) ok of h
end
end Ev
namespace Ev
open PySem PySem.Spec PyProof.Rows L2
section
variable {K : PySem.W.Frag} {ca : Ca} {F : Addr → Prop} {H : Hp}
theorem RepI.stay0 {H' : Hp} {own : Bool} {d : D} {v : V} {B : List Addr} {a : Addr} (h : RepI K ca F H own d v B) (na : ¬ F a) (nb : a ∉ B) (k : ∀ b o, b ≠ a → H b = some o → H' b = some o) : RepI K ca F H' own d v B :=
  h.stay (fun _ z => z) (fun b o fb eb => k b o (fun q => na (q ▸ fb)) eb) (fun b m o eb => k b o (fun q => nb (q ▸ m)) eb) fun b m => (h.nf b m).1
theorem RepIs.stay0 {H' : Hp} {ns : List Str} {ds : List D} {vs : List V} {B : List Addr} {a : Addr} (h : RepIs K ca F H ns ds vs B) (na : ¬ F a) (nb : a ∉ B) (k : ∀ b o, b ≠ a → H b = some o → H' b = some o) : RepIs K ca F H' ns ds vs B :=
  h.stay (fun _ z => z) (fun b o fb eb => k b o (fun q => na (q ▸ fb)) eb) (fun b m o eb => k b o (fun q => nb (q ▸ m)) eb) fun b m => (h.nf b m).1
/-- the list of the field f, and what is there when it becomes another -/
theorem RepIs.mutF {f : Str} (hf : owf f = true) : ∀ {ns : List Str} {ds : List D} {gs : List (Str × V)} {B : List Addr} {d : D}, gs.map (·.1) = ns → RepIs K ca F H ns ds (gs.map (·.2)) B → B.Nodup → lookF ns ds f = some d →
    ∃ a es vs, d = .lst es ∧ a ∈ B ∧ gs.lookup f = some (.ref a) ∧ ¬ F a ∧ H a = some (.lst vs) ∧ Reps K ca F H es vs ∧
      ∀ (H' : Hp) es' vs', (∀ b o, b ≠ a → H b = some o → H' b = some o) → H' a = some (.lst vs') → Reps K ca F H' es' vs' → RepIs K ca F H' ns (putD f (.lst es') ns ds) (gs.map (·.2)) B
  | [], ds, gs, B, d, e, h, nd, l => by cases ds <;> cases l
  | n :: ns, ds, gs, B, d, e, h, nd, l => by
    cases gs with
    | nil => cases e
    | cons g gs =>
      obtain ⟨g1, g2⟩ := g
      simp only [List.map_cons, List.cons.injEq] at e
      obtain ⟨rfl, e⟩ := e
      obtain ⟨d0, dr, v0, vr, B1, C, rfl, e2, rfl, h1, h2⟩ := h
      simp only [List.map_cons, List.cons.injEq] at e2
      obtain ⟨rfl, rfl⟩ := e2
      obtain ⟨nd1, nd2, nd3⟩ := List.nodup_append.mp nd
      unfold lookF at l
      unfold putD
      by_cases q : g1 = f
      · subst q
        rw [beq_self_eq_true, if_pos rfl] at l
        cases l
        rw [hf] at h1
        obtain ⟨a, es, vs, rfl, rfl, rfl, n, ha, r⟩ := h1
        refine ⟨a, es, vs, rfl, by simp, by simp [List.lookup_cons], n, ha, r, fun H' es' vs' k ha' r' => ?_⟩
        rw [if_pos rfl]
        exact ⟨_, dr, _, _, [a], C, rfl, rfl, rfl, by rw [hf]; exact ⟨a, es', vs', rfl, rfl, rfl, n, ha', r'⟩, h2.stay0 n (fun m => nd3 a (by simp) a m rfl) k⟩
      · have qb : (f == g1) = false := by simpa using fun z => q z.symm
        rw [qb] at l
        obtain ⟨a, es, vs, rfl, ma, lk, n, ha, r, z⟩ := RepIs.mutF hf e h2 nd2 (by simpa using l)
        refine ⟨a, es, vs, rfl, by simp [ma], by rw [List.lookup_cons, qb]; exact lk, n, ha, r, fun H' es' vs' k ha' r' => ?_⟩
        rw [if_neg q]
        exact ⟨d0, _, g2, _, B1, C, rfl, rfl, rfl, h1.stay0 n (fun m => nd3 a m a ma rfl) k, z H' es' vs' k ha' r'⟩
/-- a new list stored in the field f -/
theorem RepIs.putO {f : Str} {a : Addr} {es : List D} {vs : List V} (hf : owf f = true) (n : ¬ F a) (ha : H a = some (.lst vs)) (r : Reps K ca F H es vs) : ∀ {ns : List Str} {ds : List D} {gs : List (Str × V)} {B : List Addr}, gs.map (·.1) = ns → RepIs K ca F H ns ds (gs.map (·.2)) B → B.Nodup → a ∉ B →
    (putF f (.ref a) gs).map (·.1) = putN f ns ∧ ∃ B', B'.Nodup ∧ (∀ b ∈ B', b = a ∨ b ∈ B) ∧ RepIs K ca F H (putN f ns) (putD f (.lst es) ns ds) ((putF f (.ref a) gs).map (·.2)) B'
  | [], ds, gs, B, e, h, nd, nm => by
    cases gs with
    | cons g gs => cases e
    | nil =>
      obtain ⟨rfl, _, rfl⟩ := h
      exact ⟨rfl, [a], by simp, fun b m => .inl (by simpa using m), .lst es, [], .ref a, [], [a], [], rfl, rfl, rfl, by rw [hf]; exact ⟨a, es, vs, rfl, rfl, rfl, n, ha, r⟩, rfl, rfl, rfl⟩
  | n0 :: ns, ds, gs, B, e, h, nd, nm => by
    cases gs with
    | nil => cases e
    | cons g gs =>
      obtain ⟨g1, g2⟩ := g
      simp only [List.map_cons, List.cons.injEq] at e
      obtain ⟨rfl, e⟩ := e
      obtain ⟨d0, dr, v0, vr, B1, C, rfl, e2, rfl, h1, h2⟩ := h
      simp only [List.map_cons, List.cons.injEq] at e2
      obtain ⟨rfl, rfl⟩ := e2
      obtain ⟨nd1, nd2, nd3⟩ := List.nodup_append.mp nd
      unfold putF putN putD
      by_cases q : g1 = f
      · rw [if_pos q, if_pos q, if_pos q]
        subst q
        refine ⟨by rw [List.map_cons, e], a :: C, List.nodup_cons.mpr ⟨fun m => nm (by simp [m]), nd2⟩, fun b m => ?_, .lst es, dr, .ref a, _, [a], C, rfl, rfl, rfl, by rw [hf]; exact ⟨a, es, vs, rfl, rfl, rfl, n, ha, r⟩, h2⟩
        rcases List.mem_cons.mp m with m | m
        · exact .inl m
        · exact .inr (by simp [m])
      · rw [if_neg q, if_neg q, if_neg q]
        obtain ⟨e3, B', b1, b2, h3⟩ := RepIs.putO hf n ha r e h2 nd2 (fun m => nm (by simp [m]))
        refine ⟨by rw [List.map_cons, e3], B1 ++ B', List.nodup_append.mpr ⟨nd1, b1, fun x m y m' e => ?_⟩, fun b m => ?_, d0, _, g2, _, B1, B', rfl, rfl, rfl, h1, h3⟩
        · subst e
          rcases b2 x m' with rfl | z
          · exact nm (by simp [m])
          · exact nd3 x m x z rfl
        · rcases List.mem_append.mp m with m | m
          · exact .inr (by simp [m])
          · rcases b2 b m with z | z
            · exact .inl z
            · exact .inr (by simp [z])
end
/-- o.f.append(..), o of the slot i, which the arguments do not touch -/
def eMutF (g : List D → List D → Option (D × List D)) (i : Nat) (f : Str) (ms : List E) : E := fun st => match st[i]? with
  | some (.o (.obj c ns ds)) => (match lookF ns ds f with
    | some (.lst es) => (match evAll ms (st.set i .n) with
      | .ok as st1 => (match st1[i]?, g es as with
        | some .n, some (d, es') => .ok d (st1.set i (.o (.obj c ns (putD f (.lst es') ns ds))))
        | _, _ => .bad)
      | _ => .bad)
    | _ => .bad)
  | _ => .bad
theorem putN_mem {f : Str} : ∀ {ns : List Str}, f ∈ putN f ns
  | [] => List.mem_cons_self
  | n :: ns => by
    unfold putN
    by_cases q : n = f
    · rw [if_pos q, q]; exact List.mem_cons_self
    · rw [if_neg q]; exact List.mem_cons_of_mem _ putN_mem
theorem lookF_mem {f : Str} {d : D} : ∀ {ns : List Str} {ds : List D}, lookF ns ds f = some d → f ∈ ns
  | [], ds, h => by cases ds <;> cases h
  | n :: ns, [], h => by cases h
  | n :: ns, d0 :: ds, h => by
    unfold lookF at h
    cases q : f == n with
    | true => rw [eq_of_beq q]; exact List.mem_cons_self
    | false => rw [q] at h; exact List.mem_cons_of_mem _ (lookF_mem (by simpa using h))
section
variable {K : PySem.W.Frag} {ca : Ca} {F : Addr → Prop} {H : Hp} {A : List Addr} {σ : L2.St} {st : Sl} {i : Nat} {f : Str}
theorem fld_at (cf : Cf K ca) (hf : owf f = true) (rl : Rl K ca F H st σ A) {c : Str} {ns : List Str} {ds : List D} {d : D} (z : st[i]? = some (.o (.obj c ns ds))) (zl : lookF ns ds f = some d) :
    ∃ o dx gs a es vs, σ[i]? = some (some (.ref o)) ∧ H o = some (.ins (ca.a c) dx gs) ∧ Cls K (ca.a c) ∧ NoAttr K (ca.a c) f ∧ gs.lookup f = some (.ref a) ∧ d = .lst es ∧ ¬ F a ∧ H a = some (.lst vs) ∧ Reps K ca F H es vs ∧ a ∈ A := by
  obtain ⟨x, B, C, e1, ⟨v, rfl, o, dx, gs, B0, rfl, kc, rfl, n1, n2, h1, h2, e3, r⟩, _, p⟩ := rl.take z
  have nd := (List.nodup_append.mp (p.nodup_iff.mp rl.nd)).1
  obtain ⟨a, es, vs, rfl, ma, lk, na, ha, rr, _⟩ := RepIs.mutF hf e3 r (List.nodup_cons.mp (List.nodup_cons.mp nd).2).2 zl
  exact ⟨o, dx, gs, a, es, vs, e1, h1, cf.cl c ns kc, cf.na c ns kc f (lookF_mem zl), lk, rfl, na, ha, rr, p.mem_iff.mpr (by simp [ma])⟩
theorem fldlst_step (hf : owf f = true) {c : Str} {ns : List Str} {ds : List D} {es' : List D} {d : D} {vs' : List V} {o a : Addr} {dx : Addr} {gs : List (Str × V)} (rl : Rl K ca F H st σ A) (z : st[i]? = some (.o (.obj c ns ds))) (zl : lookF ns ds f = some d) (ev : σ[i]? = some (some (.ref o))) (ho : H o = some (.ins (ca.a c) dx gs)) (lk : gs.lookup f = some (.ref a)) (r : Reps K ca F H es' vs') :
    Rl K ca F (upd H a (.lst vs')) (st.set i (.o (.obj c ns (putD f (.lst es') ns ds)))) σ A ∧ Step F H A F (upd H a (.lst vs')) A ∧ ∀ d v, Rep K ca F H d v → Rep K ca F (upd H a (.lst vs')) d v := by
  have hL : ∃ vs, H a = some (.lst vs) ∧ ¬ F a := by
    obtain ⟨x, B, C, e1, ⟨v, rfl, o', dx', gs', B0, rfl, kc, rfl, n1, n2, h1, h2, e3, rr⟩, _, p⟩ := rl.take z
    rw [ev] at e1
    cases e1
    rw [ho] at h1
    cases h1
    have nd := (List.nodup_append.mp (p.nodup_iff.mp rl.nd)).1
    obtain ⟨a', es, vs, _, ma, lk', na, ha, _, _⟩ := RepIs.mutF hf e3 rr (List.nodup_cons.mp (List.nodup_cons.mp nd).2).2 zl
    rw [lk] at lk'
    cases lk'
    exact ⟨vs, ha, na⟩
  obtain ⟨vs, ha, na⟩ := hL
  obtain ⟨u1, u2⟩ := upd_mut (o := .lst vs') ha
  have kp : ∀ b o, F b → H b = some o → upd H a (.lst vs') b = some o := fun b o fb eb => u1 b o (fun q => na (q ▸ fb)) eb
  have key := rl.mutate (H' := upd H a (.lst vs')) (d' := .obj c ns (putD f (.lst es') ns ds)) z ev (fun B ndB ow k1 k2 => by
    obtain ⟨o', dx', gs', B0, e, kc, rfl, n1, n2, h1, h2, e3, rr⟩ := ow
    cases e
    rw [ho] at h1
    cases h1
    have nd2 := List.nodup_cons.mp ndB
    have nd3 := List.nodup_cons.mp nd2.2
    obtain ⟨a', es, ws, _, ma, lk', na', ha', _, zz⟩ := RepIs.mutF hf e3 rr nd3.2 zl
    rw [lk] at lk'
    cases lk'
    refine ⟨o, dx, gs, B0, rfl, kc, rfl, n1, n2, u1 o _ (fun q => ?_) ho, u1 dx _ (fun q => ?_) h2, e3, zz _ es' vs' u1 upd_same (Reps.mono (fun _ z => z) kp _ _ r)⟩
    · subst q; exact nd2.1 (by simp [ma])
    · subst q; exact nd3.1 ma) (fun B ow => by
    obtain ⟨o', dx', gs', B0, e, kc, rfl, n1, n2, h1, h2, e3, rr⟩ := ow
    cases e
    rw [ho] at h1
    cases h1
    refine ⟨fun y w ny ey => u1 y w (fun q => ny ?_) ey, u2⟩
    subst q
    -- the list is one of the object's own
    have : ∀ {ns : List Str} {ds : List D} {gs : List (Str × V)} {B0 : List Addr}, gs.map (·.1) = ns → RepIs K ca F H ns ds (gs.map (·.2)) B0 → gs.lookup f = some (.ref y) → y ∈ B0 := by
      intro ns
      induction ns with
      | nil => intro ds gs B0 e h l; cases gs <;> cases e; cases l
      | cons n ns ih =>
        intro ds gs B0 e h l
        cases gs with
        | nil => cases e
        | cons g gs =>
          obtain ⟨g1, g2⟩ := g
          simp only [List.map_cons, List.cons.injEq] at e
          obtain ⟨rfl, e⟩ := e
          obtain ⟨d0, dr, v0, vr, B1, C, rfl, e2, rfl, h1, h2⟩ := h
          simp only [List.map_cons, List.cons.injEq] at e2
          obtain ⟨rfl, rfl⟩ := e2
          rw [List.lookup_cons] at l
          cases q : f == g1 with
          | true =>
            rw [q] at l
            cases l
            rw [← eq_of_beq q, hf] at h1
            obtain ⟨a', _, _, _, e, rfl, _⟩ := h1
            cases e
            simp
          | false =>
            rw [q] at l
            exact List.mem_append_right _ (ih e h2 l)
    exact List.mem_cons_of_mem _ (List.mem_cons_of_mem _ (this e3 rr lk)))
  exact ⟨key.1, key.2, fun d v rp => Rep.mono (fun _ z => z) kp d v rp⟩
/-- a slot's own data set aside while something runs -/
theorem aside {W : WX} {d : D} (rl : Rl K ca F H st σ A) (z : st[i]? = some (.o d)) : ∃ v B C, σ[i]? = some (some v) ∧ Own K ca F H d v B ∧ Rl K ca F H (st.set i .n) σ C ∧ (∀ b ∈ B, b ∉ C) ∧ B.Nodup ∧
    ∀ {F1 H1 st1 A1}, Rl K ca F1 H1 st1 σ A1 → Step F H C F1 H1 A1 → st1[i]? = some .n → Own K ca F1 H1 d v B ∧ Rl K ca F1 H1 (st1.set i (.o d)) σ (B ++ A1) ∧ Step F H A F1 H1 (B ++ A1) := by
  obtain ⟨x, B, C, e1, ⟨v, rfl, ow⟩, rl2, p⟩ := rl.take z
  have nd := p.nodup_iff.mp rl.nd
  have dj : ∀ b ∈ B, b ∉ C := fun b m m' => (List.nodup_append.mp nd).2.2 b m b m' rfl
  refine ⟨v, B, C, e1, ow, rl2, dj, (List.nodup_append.mp nd).1, fun {F1 H1 st1 A1} rl1 s e => ?_⟩
  have ow1 := ow.step s rl2 dj
  have djA : ∀ b ∈ B, b ∉ A1 := fun b m m' => by
    rcases s.anew b m' with z | z
    · exact dj b m z
    · obtain ⟨o, e⟩ := (ow.nf b m).2; rw [e] at z; cases z
  have nd1 : (B ++ A1).Nodup := List.nodup_append.mpr ⟨(List.nodup_append.mp nd).1, rl1.nd, fun x m y m' e => djA x m (e ▸ m')⟩
  refine ⟨ow1, rl1.put e e1 ⟨v, rfl, ow1⟩ nd1, ?_⟩
  exact pend_step (Step.sub fun a m => p.mem_iff.mpr m) s
theorem mutF_run {W : WX} {g : List D → List D → Option (D × List D)} {r : V → List V → Hp → VK → Prop} {ms : List E} {Q : VK} (cf : Cf K ca) (hf : owf f = true) (hk : MutOk K ca g r) (h : tE K ca W (eMutF g i f ms) σ H Q) :
    tFld K (tVar i) f σ H fun x H1 => tyV K "list" x H1 ∧ tA K ca W ms σ H1 fun xs H2 => r x xs H2 Q := by
  obtain ⟨F, st, A, rl, q⟩ := tE_iff.mp h
  unfold eMutF at q
  split at q
  · rename_i c ns ds z2
    split at q
    · rename_i es0 zl
      obtain ⟨o, dx, gs, a, es, vs, e1, h1, cl, na, lk, ees, nF, ha, rr, mA⟩ := fld_at cf hf rl z2 zl
      cases ees
      refine ⟨.ref o, e1, o, ca.a c, dx, gs, .ref a, rfl, h1, cl, na, lk, .inl ⟨rfl, vs, .of ha⟩, ?_⟩
      obtain ⟨v, B, C, e2, ow, rl2, dj, ndB0, back⟩ := aside (W := W) rl z2
      rw [e1] at e2
      cases e2
      refine ⟨F, st.set i .n, C, rl2, ?_⟩
      cases z3 : evAll ms (st.set i .n) with
      | bad => simp only [z3] at q; exact q
      | exc c x s => simp only [z3] at q; exact q.elim
      | ok as st1 =>
        simp only [z3] at q
        intro xs F1 H1 A1 rl1 rx s1
        split at q
        · rename_i d es' y1 y2
          obtain ⟨ow1, rl3, s3⟩ := back rl1 s1 y1
          have hi : i < st1.length := (List.getElem?_eq_some_iff.mp y1).1
          have y3 : (st1.set i (.o (.obj c ns ds)))[i]? = some (.o (.obj c ns ds)) := by simp [hi]
          obtain ⟨o', dx', gs', B0, e, kc, eB, n1, n2, h1', h2', e3, rr'⟩ := id ow1
          cases e
          -- the object's fields are as before
          obtain ⟨o2, dx2, gs2, B2, e, _, eB2, m1, m2, g1, g2, e32, rr2⟩ := id ow
          cases e
          have hk1 : H1 o = some (.ins (ca.a c) dx gs) := s1.keep o _ h1 (fun m => dj o (by rw [eB2]; simp) m)
          have ha1 : H1 a = some (.lst vs) := s1.keep a _ ha (fun m => by
            have ndB := (List.nodup_append.mp (rl3.nd)).1
            rw [h1] at g1
            cases g1
            have nd2 := List.nodup_cons.mp (List.nodup_cons.mp (eB2 ▸ ndB)).2
            obtain ⟨a', _, _, _, ma, lk', _⟩ := RepIs.mutF hf e32 rr2 nd2.2 zl
            rw [lk] at lk'
            cases lk'
            exact dj a (by rw [eB2]; simp [ma]) m)
          have re1 := rr.step s1 rl2
          refine hk F1 H1 a vs es0 as xs d es' Q ha1 re1 rx y2 fun w vs' rw1 rws' => ?_
          obtain ⟨k1, k2, k3⟩ := fldlst_step hf rl3 y3 zl e1 hk1 lk rws'
          rw [List.set_set] at k1
          exact q w F1 _ _ k1 (k3 d w rw1) (s3.trans k2)
        · exact q.elim
    · exact q.elim
  · exact q.elim
end
section
variable {X : Cx} {ca : Ca} {P : List Nat} {ro : Bool} {W : WX} {e o ix : Expr} {es : List Expr} {pos apos cpos opos pos' : Pos} {m mk : E} {ms : List E} {i : Nat} {f name : Str} {id : String} {g : List D → List D → Option (D × List D)} {r : V → List V → Hp → VK → Prop}
variable (cf : Cf X.K ca)
include cf
theorem se_mutF (hf : owf f = true) (slot : Slot "list" name id) (hty : typeOf (.builtin id) = pure (.type "method_descriptor")) (hm : MtR X id r) (hk : MutOk X.K ca g r) (ho : PE X o (tVar i)) (ha : PA X (e :: es) (tA X.K ca W ms)) (hb : attributeBase o f X.env (eval o X.env) = eval o X.env := by rfl)
    (hbase : attributeBase (.Attribute o f opos) name X.env (eval (.Attribute o f opos) X.env) = eval (.Attribute o f opos) X.env := by rfl)
    (hfew : ((backTo cpos (starEach (e :: es) X.env)).all (fun x => !x.1) && (backToKw cpos (keywordEach [] X.env)).all (fun x => x.1.isSome)
      && decide ((e :: es).length + ([] : List Keyword).length + (if ([] : List Keyword).isEmpty then 0 else 1) < 30)) = true := by rfl)
    (hline : (apos.endLine == cpos.line) = true := by rfl) (hs : starEach (e :: es) X.env = (false, eval e X.env) :: starEach es X.env := by rfl) (hplain : (backTo cpos (starEach es X.env)).any (·.1) = false := by rfl) :
    PE X (.Call (.Attribute (.Attribute o f opos) name apos) (e :: es) [] cpos) (tE X.K ca W (eMutF g i f ms)) := PE.imp (pe_bm PySem.F.plainAttrs_list slot hty hm (pe_fld ho hb) ha hbase hfew hline hs hplain) fun σ H Q h => mutF_run cf hf hk h
/-- o.f[k], a number k -/
def eIxH (i : Nat) (f : Str) (k : Int) : E := fun st => match st[i]?, owf f with
  | some (.o (.obj c ns ds)), true => (match lookF ns ds f with
    | some (.lst es) => (match L2.atI es k with
      | some d => .ok d st
      | none => .bad)
    | _ => .bad)
  | _, _ => .bad
theorem se_ixH {k : Int} (ho : PE X o (tVar i)) (hx : PE X ix (tC (.int k))) (hb : attributeBase o f X.env (eval o X.env) = eval o X.env := by rfl) (hs : PlainIx ix := by intro _ _; rfl) : PE X (.Subscript (.Attribute o f opos) ix pos) (tE X.K ca W (eIxH i f k)) :=
  PE.imp (pe_ix ix_list (pe_fld ho hb) hx hs) fun σ H Q h => by
    obtain ⟨F, st, A, rl, q⟩ := tE_iff.mp h
    unfold eIxH at q
    split at q
    · rename_i c ns ds z ho
      split at q
      · rename_i es zl
        split at q
        · rename_i d za
          obtain ⟨o, dx, gs, a, es', vs, e1, h1, cl, na, lk, ees, nF, ha, rr, mA⟩ := fld_at cf ho rl z zl
          cases ees
          obtain ⟨v, zv, rv⟩ := rr.atI za
          exact ⟨.ref o, e1, o, ca.a c, dx, gs, .ref a, rfl, h1, cl, na, lk, a, vs, k, v, rfl, rfl, .of ha, zv, q v F H A rl rv .refl⟩
        · exact q.elim
      · exact q.elim
    · exact q.elim
/-- o.f = e, a new list of the object's own -/
def setFldO (i : Nat) (f : Str) (d : D) (st : Sl) : Option Sl := match st[i]?, d with
  | some (.o (.obj c ns ds)), .lst _ => (match decide (ns.length < 1000), owf f with
    | true, true => some (st.set i (.o (.obj c (putN f ns) (putD f d ns ds))))
    | _, _ => none)
  | _, _ => none
def sAsgO (m : E) (i : Nat) (f : Str) : S := fun st => (m st).bind fun d st => match setFldO i f d st with
  | some st => .ok .nx st
  | none => .bad
theorem ss_fldO (hok : ∀ c ns, ca.ok c ns → ca.ok c (putN f ns)) (ho : PE X o (tVar i)) (hv : PE X e (tO X.K ca W m)) (hs : swapsWith e (some (.Attribute o f pos')) pos.line X.env = pure false := by rfl) : PS X (.Assign [.Attribute o f pos'] e pos) (tS X.K ca P ro W (sAsgO m i f)) :=
  PS.imp (ps_fld ho hv hs) fun Z σ H h => tS_o (k := fun d st => match setFldO i f d st with | some st => .ok .nx st | none => .bad) h fun d v F H st A B F0 H0 A0 rl ow nd s h => by
    cases z : setFldO i f d st with
    | none => simp only [z] at h; exact h.elim
    | some st' =>
      simp only [z] at h
      unfold setFldO at z
      split at z
      · rename_i c ns ds es z1
        split at z
        · rename_i zl zo
          cases z
          obtain ⟨la, vs, rfl, rfl, nF, hla, rr⟩ := ow
          obtain ⟨x, B, C, e1, ⟨v0, rfl, oo⟩, rl2, p⟩ := rl.take z1
          obtain ⟨a, dx, gs, B0, rfl, okc, rfl, n1, n2, h1, h2, e3, r⟩ := id oo
          have hl : gs.length < 1000 := by
            have : gs.length = ns.length := by rw [← e3, List.length_map]
            rw [this]
            exact of_decide_eq_true zl
          have ndA := p.nodup_iff.mp rl.nd
          have nlA : la ∉ A := (List.nodup_cons.mp nd).1
          have nl : ∀ b, b ∈ a :: dx :: B0 ++ C → b ≠ la := fun b m q => nlA (q ▸ p.mem_iff.mpr m)
          have nd2 := List.nodup_cons.mp (List.nodup_append.mp ndA).1
          have nd3 := List.nodup_cons.mp nd2.2
          have kp : ∀ b o, b ≠ a → H b = some o → upd H a (.ins (ca.a c) dx (putF f (.ref la) gs)) b = some o := fun b o n e => by rw [upd_ne n]; exact e
          have r1 := r.stay0 (H' := upd H a (.ins (ca.a c) dx (putF f (.ref la) gs))) n1 (fun m => nd2.1 (by simp [m])) kp
          have nla : la ≠ a := fun q => nl a (by simp) q.symm
          have rr1 : Reps X.K ca F (upd H a (.ins (ca.a c) dx (putF f (.ref la) gs))) es vs := Reps.mono (fun _ z => z) (fun b o fb eb => kp b o (fun q => n1 (q ▸ fb)) eb) _ _ rr
          obtain ⟨e7, B', b1, b2, r2⟩ := RepIs.putO zo nF (kp la _ nla hla) rr1 e3 r1 nd3.2 (fun m => nl la (by simp [m]) rfl)
          have sub : ∀ b ∈ a :: dx :: B', b = la ∨ b ∈ a :: dx :: B0 := fun b m => by
            rcases List.mem_cons.mp m with rfl | m
            · exact .inr (by simp)
            · rcases List.mem_cons.mp m with rfl | m
              · exact .inr (by simp)
              · rcases b2 b m with z | z
                · exact .inl z
                · exact .inr (by simp [z])
          have ndB' : (a :: dx :: B').Nodup := List.nodup_cons.mpr ⟨fun m => by
            rcases List.mem_cons.mp m with z | m
            · exact nd2.1 (by simp [z])
            · rcases b2 a m with z | z
              · exact nla z.symm
              · exact nd2.1 (by simp [z]), List.nodup_cons.mpr ⟨fun m => by
            rcases b2 dx m with z | z
            · exact nl dx (by simp) z
            · exact nd3.1 z, b1⟩⟩
          have djC : ∀ b ∈ a :: dx :: B', b ∉ C := fun b m m' => by
            rcases sub b m with rfl | z
            · exact nl b (List.mem_append_right _ m') rfl
            · exact (List.nodup_append.mp ndA).2.2 b z b m' rfl
          have nd' : ((a :: dx :: B') ++ C).Nodup := List.nodup_append.mpr ⟨ndB', rl2.nd, fun x m y m' e => djC x m (e ▸ m')⟩
          have naC : a ∉ C := djC a (by simp)
          have rl3 := rl2.beside (p := a) (o := .ins (ca.a c) dx (putF f (.ref la) gs)) n1 naC
          have hi : i < st.length := (List.getElem?_eq_some_iff.mp z1).1
          have hdx : dx ≠ a := fun q => nd2.1 (by simp [q])
          have rl4 := rl3.put (i := i) (c := .o (.obj c (putN f ns) (putD f (.lst es) ns ds))) (x := some (.ref a)) (B := a :: dx :: B') (by simp [hi]) e1 ⟨.ref a, rfl, a, dx, _, B', rfl, hok c ns okc, rfl, n1, n2, upd_same, kp dx _ hdx h2, e7, r2⟩ nd'
          rw [List.set_set] at rl4
          refine ⟨.ref a, e1, a, ca.a c, dx, gs, rfl, h1, cf.cl c ns okc, cf.na c _ (hok c ns okc) f putN_mem, hl, ?_⟩
          refine h σ F _ _ rl4 (s.trans ⟨fun _ z => z, fun b o e n => kp b o (fun q => n (by rw [q]; simp [p.mem_iff])) e, fun b o e => ?_, fun _ z => .inl z, fun b m => ?_⟩) .refl
          · by_cases q : b = a
            · subst q; exact ⟨_, upd_same⟩
            · exact ⟨o, kp b o q e⟩
          · rcases List.mem_append.mp m with m | m
            · rcases sub b m with rfl | z
              · exact .inl (by simp)
              · exact .inl (List.mem_cons_of_mem _ (p.mem_iff.mpr (List.mem_append_left _ z)))
            · exact .inl (List.mem_cons_of_mem _ (p.mem_iff.mpr (List.mem_append_right _ m)))
        · cases z
      · cases z
end
end Ev
namespace Ev
open PySem PySem.Spec PyProof.Rows L2
def mfD (mf : MF) (dcs : List Cell) : MF := fun cs => match mf (cs ++ dcs) with
  | .ok d cs' => .ok d (cs'.take cs.length)
  | .exc c x cs' => .exc c x (cs'.take cs.length)
  | .bad => .bad
section
variable {K : PySem.W.Frag} {ca : Ca} {F : Addr → Prop} {H : Hp}
theorem RepS.append : ∀ {st st2 : Sl} {σ σ2 : L2.St} {B B2 : List Addr}, RepS K ca F H st σ B → RepS K ca F H st2 σ2 B2 → RepS K ca F H (st ++ st2) (σ ++ σ2) (B ++ B2)
  | [], st2, σ, σ2, B, B2, h, g => by obtain ⟨rfl, rfl⟩ := h; exact g
  | c :: cs, st2, σ, σ2, B, B2, h, g => by
    obtain ⟨x, r, B1, C, rfl, rfl, h1, h2⟩ := h
    exact ⟨x, r ++ σ2, B1, C ++ B2, rfl, by rw [List.append_assoc], h1, h2.append g⟩
theorem spE_dflt {mf : MF} {dcs : List Cell} {dvs vs : List V} {Q : VK} {E : XK} (hd : ∀ F H, RepS K ca F H dcs (dvs.map some) []) (h : spE K ca (mfD mf dcs) vs H Q E) : spE K ca mf (vs ++ dvs) H Q E := by
  obtain ⟨F, cs, A, rl, q⟩ := h
  obtain ⟨B, rs, p⟩ := rl.rep
  have hl : vs.length = cs.length := by have := rl.len; rwa [List.length_map] at this
  refine ⟨F, cs ++ dcs, A, ⟨⟨B, by rw [List.map_append]; have := rs.append (hd F H); rwa [List.append_nil] at this, p⟩, rl.nd, rl.fd, rl.nf⟩, ?_⟩
  have cut : ∀ {cs' F' H' A'}, Rl K ca F' H' cs' ((vs ++ dvs).map some) A' → ∃ A'', (∀ a ∈ A'', a ∈ A') ∧ Rl K ca F' H' (cs'.take cs.length) (vs.map some) A'' := fun {cs' F' H' A'} r => by
    obtain ⟨B1, rs1, p1⟩ := r.rep
    obtain ⟨B2, rs2, s2⟩ := rs1.takeN cs.length
    have ec : ((vs ++ dvs).map some).take cs.length = vs.map some := by
      rw [List.map_append, List.take_append_of_le_length (by rw [List.length_map]; omega), List.take_of_length_le (by rw [List.length_map]; omega)]
    rw [ec] at rs2
    have sub : ∀ a ∈ B2, a ∈ A' := fun a m => p1.mem_iff.mp (s2.subset m)
    exact ⟨B2, sub, ⟨B2, rs2, .refl _⟩, (p1.nodup_iff.mpr r.nd).sublist s2, r.fd, fun a m => r.nf a (sub a m)⟩
  unfold mfD at q
  cases z : mf (cs ++ dcs) with
  | bad => rw [z] at q; exact q
  | exc c x cs' =>
    rw [z] at q
    intro cls oe F' H' A' r xi s
    obtain ⟨A'', sub, r2⟩ := cut r
    exact q cls oe F' H' A'' r2 xi (s.trans (Step.sub sub))
  | ok d cs' =>
    rw [z] at q
    intro v F' H' A' r rp s
    obtain ⟨A'', sub, r2⟩ := cut r
    exact q v F' H' A'' r2 rp (s.trans (Step.sub sub))
theorem dflt_non : ∀ F H, RepS K ca F H [.f .non] ([V.non].map some) [] := fun F H => ⟨some .non, [], [], [], rfl, rfl, ⟨rfl, .non, rfl, non_rep⟩, rfl, rfl⟩
theorem dflt_int {i : Int} : ∀ F H, RepS K ca F H [.f (.int i)] ([V.int i].map some) [] := fun F H => ⟨some (.int i), [], [], [], rfl, rfl, ⟨rfl, .int i, rfl, rep_int⟩, rfl, rfl⟩
end
section
variable {X : Cx} {ca : Ca} {W : WX} {k : Nat} {f : Addr} {fd : FuncData} {pn : List Str} {mf : MF} {c m : Str} {g : Arg} {ps : List Arg} {o e : Expr} {es : List Expr} {pos apos : Pos} {dcs : List Cell} {dvs : List V} {ds : List Value}
theorem se_methD {pl : Sem Bool} (hdc : ∀ F H, RepS X.K ca F H dcs (dvs.map some) []) (cl : Cls X.K (ca.a c)) (hn : ∀ ns, ca.ok c ns → m ∉ ns) (he : PE X o (tG X.K ca W g)) (hm : Meth X.K (ca.a c) m f) (F : FnOk X.prog X.w X.K X.mg X.base (L2.CX X.prog X.w) k f fd pn (spE X.K ca mf)) (hr : Room k X.A) (hb : Binds X.K fd pn ds) (hd : Vals dvs ds) (tk : Takes X W) (ha : PA X (e :: es) (tGs X.K ca W ps))
    (hst : starEach (e :: es) X.env = (false, eval e X.env) :: starEach es X.env := by rfl) (hpl : (backTo pos (starEach es X.env)).any (·.1) = false := by rfl)
    (ht : eval (.Call (.Attribute o m apos) (e :: es) [] pos) X.env = (do
      let ov ← eval o X.env
      standAt apos.atName
      let (f, first) ← holding [ov] (getMethod ov m pl)
      callWith pos f first (backTo pos (starEach (e :: es) X.env)) (backToKw pos (keywordEach [] X.env))) := by rfl) :
    PE X (.Call (.Attribute o m apos) (e :: es) [] pos) (tE X.K ca W (eMeth c (mfD mf dcs) g ps)) := PE.imp (pe_methS (dvs := dvs) (E := WE W) he cl hm F hr hb hd (fun σ => passAt tk σ) ha hst hpl ht) fun σ H Q h => by
  obtain ⟨F, st, A, rl, q⟩ := tE_iff.mp h
  exact meth_then (Want := WantE X.K ca W F H A σ Q) (S := fun vs H1 => spE X.K ca mf (vs ++ dvs) H1 Q (WE W σ)) hn rl q (fun z => z) (fun _ _ _ z => z) fun as st vs F1 H1 A1 B r rv nd s z => spE_dflt hdc (tailE r rv nd s z)
end
def evH (en : Bool) (es : List D) : List D := match en with
  | true => enumD es
  | false => es
def eLcH (vs : List Nat) (en : Bool) (i : Nat) (f : Str) (g : Tg) (c : B') (el : E) : E := fun st => match st[i]?, owf f with
  | some (.o (.obj cn ns ds)), true => (match lookF ns ds f with
    | some (.lst es) => (match frozenAt (st.set i .n) vs && decide (st.length ≤ 64) with
      | true => (match lcL vs g c el (evH en es) (wipeS vs (st.set i .n)) with
        | .ok xs st' => if xs.length < sizeLine then (match (backS (st.set i .n) vs st')[i]? with
          | some .n => .ok (.lst xs) ((backS (st.set i .n) vs st').set i (.o (.obj cn ns ds)))
          | _ => .bad) else .bad
        | _ => .bad)
      | false => .bad)
    | _ => .bad)
  | _, _ => .bad
section
variable {K : PySem.W.Frag} {ca : Ca} {F : Addr → Prop} {H : Hp} {A : List Addr} {σ : L2.St} {st : Sl} {i : Nat} {f : Str} {W : WX}
/-- the list's walk, or its enumerate's -/
def itH (K : PySem.W.Frag) (la : Addr) : Bool → It
  | true => Ite K la
  | false => Itl K la
/-- the block's turns over the list at la -/
theorem lcH_run (cf : Cf K ca) {vs : List Nat} {en : Bool} {g : Tg} {c : B'} {el : E} {Q : VK} (h : tO K ca W (eLcH vs en i f g c el) σ H Q) :
    ∃ o C dx gs la ys, σ[i]? = some (some (.ref o)) ∧ H o = some (.ins C dx gs) ∧ Cls K C ∧ NoAttr K C f ∧ gs.lookup f = some (.ref la) ∧ SqL K H la ys ∧
      ∀ J, J = itH K la en → tLc (fun _ H0 Rr => Rr J H0) (tT' K ca (cmpP vs) g) (tT K ca W0 c) (tE K ca W0 el) vs σ H Q := by
  obtain ⟨F, st, A, rl, q⟩ := tO_iff.mp h
  unfold eLcH at q
  split at q
  · rename_i cn ns ds z2 ho
    split at q
    · rename_i es zl
      obtain ⟨o, dx, gs, la, es', ys, e1, h1, cl, na, lk, ees, nF, ha, rr, mA⟩ := fld_at cf ho rl z2 zl
      cases ees
      refine ⟨o, ca.a cn, dx, gs, la, ys, e1, h1, cl, na, lk, .of ha, fun J hJ D0 n3 => ?_⟩
      obtain ⟨v, B, C, e2, ow, rl2, dj, ndB, back⟩ := aside (W := W) rl z2
      rw [e1] at e2
      cases e2
      have mB : la ∈ B := by
        obtain ⟨o2, dx2, gs2, B2, e, _, eB2, m1, m2, g1, g2, e32, rr2⟩ := id ow
        cases e
        rw [h1] at g1
        cases g1
        obtain ⟨a', _, _, _, ma, lk', _⟩ := RepIs.mutF ho e32 rr2 (List.nodup_cons.mp (List.nodup_cons.mp (eB2 ▸ ndB)).2).2 zl
        rw [lk] at lk'
        cases lk'
        rw [eB2]
        simp [ma]
      cases zf : frozenAt (st.set i .n) vs && decide (st.length ≤ 64) with
      | false => simp only [zf] at q; exact q.elim
      | true =>
        simp only [zf] at q
        obtain ⟨z1, z3⟩ := Bool.and_eq_true_iff.mp zf
        cases zl2 : lcL vs g c el (evH en es) (wipeS vs (st.set i .n)) with
        | bad => simp only [zl2] at q; exact q.elim
        | exc cx x s => simp only [zl2] at q; exact q.elim
        | ok xs stE =>
          simp only [zl2] at q
          by_cases hl : xs.length < sizeLine
          · rw [if_pos hl] at q
            have lσ : σ.length ≤ 64 := by rw [rl.len]; exact of_decide_eq_true z3
            obtain ⟨A2, sub, rl3⟩ := rl2.wiped (vs := vs)
            obtain ⟨n1, n2⟩ := rl.fresh n3
            obtain ⟨_, n4⟩ := rl2.fresh n3
            have io : ItOk K ca J F H [la] (evH en es) := by
              subst hJ
              cases en with
              | true => exact ite_ok ha (.inr (by simp)) rr
              | false => exact itl_ok ha (.inr (by simp)) rr
            refine lc_turns [la] (fun b m => by rw [List.mem_singleton.mp m]; exact fun m' => dj la mB (sub _ m')) lσ rl3 ?_ n1 (fun m => n4 (sub _ m)) n3 io zl2 hl fun F3 H3 A3 acc rl4 hw nF nA hD rp s => ?_
            · exact wipeS_idem
            · rw [hw] at rl4
              have kF : ∀ a o, F a → H a = some o → H3 a = some o := fun a o fa e => s.keep a o e fun m => (rl3.nf a m).1 fa
              have r4 := Rl.backs rl2 z1 s.fm kF rl4
              rw [← hw] at r4
              have s2 : Step F H C F3 H3 (D0 :: A3) := (Step.sub sub).trans s
              have s3 : Step F H C F3 H3 A3 := s2.trans (Step.sub fun a m => List.mem_cons_of_mem _ m)
              cases ze : (backS (st.set i .n) vs stE)[i]? with
              | none => rw [ze] at q; exact q.elim
              | some ce =>
                rw [ze] at q
                cases ce with
                | n =>
                  obtain ⟨ow1, rl5, s5⟩ := back r4 s3 ze
                  have nB : D0 ∉ B := fun m => by obtain ⟨o, e⟩ := (ow.nf D0 m).2; rw [n3] at e; cases e
                  refine q (.ref D0) F3 H3 (B ++ A3) [D0] rl5 ⟨D0, acc, rfl, rfl, nF, hD, rp⟩ (List.nodup_cons.mpr ⟨fun m => ?_, rl5.nd⟩) ⟨s5.fm, s5.keep, s5.dom, s5.fnew, fun a m => ?_⟩
                  · rcases List.mem_append.mp (show D0 ∈ B ++ A3 from m) with m | m
                    · exact nB m
                    · exact nA m
                  · rcases List.mem_cons.mp m with m | m
                    · exact .inr (m ▸ n3)
                    · exact s5.anew a m
                | f _ => exact q.elim
                | o _ => exact q.elim
          · rw [if_neg hl] at q; exact q.elim
    · exact q.elim
  · exact q.elim
end
section
variable {X : Cx} {ca : Ca} {W : WX} {elt tg o iter : Expr} {ifs : List Expr} {scope : Scope} {own : List (Str × Nat)} {pos opos p ipos tpos : Pos} {g : Tg} {c : B'} {el : E} {i : Nat} {f : Str} {elts : List Expr} {kk : Nat}
variable (cf : Cf X.K ca)
include cf
theorem so_lcH (hc : X.calm = true) (hN : X.N.Nodup) (ho : PE X o (tVar i)) (ok : BlkOk X.N X.env.scope scope own)
    (hg : ∀ (s : Shared) (H : Hp) (C : Addr) (cl : List (Str × Addr)) (fp : List Addr), PG (X.blk s H scope (compEnvC scope cl C X.env) fp) tg (tT' X.K ca (cmpP (own.map (·.2))) g))
    (ht : ∀ (s : Shared) (H : Hp) (C : Addr) (cl : List (Str × Addr)) (fp : List Addr), PTs (X.blk s H scope (compEnvC scope cl C X.env) fp) ifs (tT X.K ca W0 c))
    (he : ∀ (s : Shared) (H : Hp) (C : Addr) (cl : List (Str × Addr)) (fp : List Addr), PE (X.blk s H scope (compEnvC scope cl C X.env) fp) elt (tE X.K ca W0 el)) (hb : attributeBase o f X.env (eval o X.env) = eval o X.env := by rfl) (hs : ∀ x, foldedSetIterable (.Attribute o f opos) X.env x = pure x := by intro _; rfl) :
    PE X (.ListComp elt [⟨tg, .Attribute o f opos, ifs, 0⟩] scope pos) (tO X.K ca W (eLcH (own.map (·.2)) false i f g c el)) :=
  PE.imp (pe_lc hc hN (pi_list (pe_fld ho hb)) ok hg ht he hs) fun σ H Q h => by
    obtain ⟨ob, C, dx, gs, la, ys, e1, h1, cl, na, lk, sq, k⟩ := lcH_run cf h
    exact ⟨.ref ob, e1, ob, C, dx, gs, .ref la, rfl, h1, cl, na, lk, la, rfl, ⟨ys, sq⟩, k _ rfl⟩
theorem so_lcHe (hc : X.calm = true) (hN : X.N.Nodup) (hge : Gl X "enumerate") (hme : X.mg "enumerate" = none) (ho : PE X o (tVar i)) (ok : BlkOk X.N X.env.scope scope own)
    (hg : ∀ (s : Shared) (H : Hp) (C : Addr) (cl : List (Str × Addr)) (fp : List Addr), PG (X.blk s H scope (compEnvC scope cl C X.env) fp) (.Tuple elts kk tpos) (tT' X.K ca (cmpP (own.map (·.2))) g))
    (ht : ∀ (s : Shared) (H : Hp) (C : Addr) (cl : List (Str × Addr)) (fp : List Addr), PTs (X.blk s H scope (compEnvC scope cl C X.env) fp) ifs (tT X.K ca W0 c))
    (he : ∀ (s : Shared) (H : Hp) (C : Addr) (cl : List (Str × Addr)) (fp : List Addr), PE (X.blk s H scope (compEnvC scope cl C X.env) fp) elt (tE X.K ca W0 el)) (hb : attributeBase o f X.env (eval o X.env) = eval o X.env := by rfl)
    (hse : starEach [.Attribute o f opos] X.env = [(false, eval (.Attribute o f opos) X.env)] := by rfl) (hs : ∀ x, foldedSetIterable (.Call (.Name "enumerate" p) [.Attribute o f opos] [] ipos) X.env x = pure x := by intro _; rfl) :
    PE X (.ListComp elt [⟨.Tuple elts kk tpos, .Call (.Name "enumerate" p) [.Attribute o f opos] [] ipos, ifs, 0⟩] scope pos) (tO X.K ca W (eLcH (own.map (·.2)) true i f g c el)) :=
  PE.imp (pe_lc hc hN (pi_enum hge hme (pa_cons (pe_fld ho hb) pa_nil hse) hse) ok hg ht he hs) fun σ H Q h => by
    obtain ⟨ob, C, dx, gs, la, ys, e1, h1, cl, na, lk, sq, k⟩ := lcH_run cf h
    exact ⟨.ref ob, e1, ob, C, dx, gs, .ref la, rfl, h1, cl, na, lk, la, ys, rfl, sq, k _ rfl⟩
end
end Ev
namespace Ev
open PySem PySem.Spec PyProof.Rows L2
section
variable {Pr : Program} {w : World} {K : PySem.W.Frag} {mg : Str → Option Value} {base : Heap} {ca : Ca} {P : List Nat} {b : S} {x qual : Str} {st : Stmt} {f : Addr} {fd : FuncData} {N ps : List Str} {k : Nat} {dvs : List V} {kws : List (Str × V)}
theorem fnED (F : FunD K x qual (defArgs st) (defBody st) (defScope st) dvs kws f fd) (S : FnScope N ps (defScope st))
    (body : ∀ (cdv : Value) (A : Around) (outer : List Env) (s : Shared) (H : Hp) (E : XK), Room k (A.deeper (envOfC qual (defScope st) s.heap.objs.size f cdv)) →
      PSs (cxOf (L2.CX Pr w) Pr w K mg base N qual (defScope st) f cdv A outer s H E) (defBody st) (tS K ca P false (fun cls d _ H => E cls d H) b)) :
    FnOk Pr w K mg base (L2.CX Pr w) (k + 1) f fd ps (spE K ca (runF N.length ps.length P b)) := by
  have len : ∀ vs H Q E, spE K ca (runF N.length ps.length P b) vs H Q E → vs.length = ps.length := fun vs H Q E h => by
    obtain ⟨F, cs, A, rl, q⟩ := h
    unfold runF at q
    cases z : decide (cs.length = ps.length) with
    | false => simp only [z] at q
    | true =>
      have l := rl.len
      rw [List.length_map] at l
      rw [l]
      exact of_decide_eq_true z
  refine F.ok S len fun cdv A outer s H vs Q E hr h => ⟨_, body cdv A outer s H E hr, ?_⟩
  have hl := len vs H Q E h
  obtain ⟨F, cs, A, rl, q⟩ := h
  unfold runF at q
  cases z : decide (cs.length = ps.length) with
  | false => simp only [z] at q
  | true =>
    simp only [z] at q
    obtain ⟨B, rs, pm⟩ := rl.rep
    have rl0 : Rl K ca F H (cs ++ List.replicate (N.length - ps.length) .n) (L2.start N vs) A := by
      unfold L2.start
      rw [hl]
      exact ⟨⟨B, rs.ext _, pm⟩, rl.nd, rl.fd, rl.nf⟩
    have lv : vs.length ≤ (L2.start N vs).length := by unfold L2.start; rw [List.length_append, List.length_map]; omega
    refine ⟨F, _, A, rl0, ?_⟩
    have kp : ∀ {st' σ' F' H' A'}, Rl K ca F' H' st' σ' A' → Pin P (L2.start N vs) σ' → ∃ A'', (∀ a ∈ A'', a ∈ A') ∧ Rl K ca F' H' (keepF P 0 (st'.take ps.length)) (vs.map some) A'' := fun rl' p => by
      rw [← hl]
      exact rl'.keep p (fun i h => start_get h) lv
    cases zb : b (cs ++ List.replicate (N.length - ps.length) .n) with
    | bad => simp only [zb] at q
    | exc c x st' =>
      simp only [zb] at q
      intro cls oe σ' F' H' A' rl' xi s p
      obtain ⟨A'', sub, rl2⟩ := kp rl' p
      exact q cls oe F' H' A'' rl2 xi (s.trans (Step.sub sub))
    | ok fl st' =>
      cases fl with
      | bk => simp only [zb] at q
      | ct => simp only [zb] at q
      | nx =>
        simp only [zb] at q
        intro σ' F' H' A' rl' s p
        obtain ⟨A'', sub, rl2⟩ := kp rl' p
        exact q .non F' H' A'' rl2 non_rep (s.trans (Step.sub sub))
      | rt d =>
        simp only [zb] at q
        intro v σ' F' H' A' rl' rp s p
        obtain ⟨A'', sub, rl2⟩ := kp rl' p
        exact q v F' H' A'' rl2 rp (s.trans (Step.sub sub))
theorem fnOD (F : FunD K x qual (defArgs st) (defBody st) (defScope st) dvs kws f fd) (S : FnScope N ps (defScope st))
    (body : ∀ (cdv : Value) (A : Around) (outer : List Env) (s : Shared) (H : Hp) (E : XK), Room k (A.deeper (envOfC qual (defScope st) s.heap.objs.size f cdv)) →
      PSs (cxOf (L2.CX Pr w) Pr w K mg base N qual (defScope st) f cdv A outer s H E) (defBody st) (tS K ca P true (fun cls d _ H => E cls d H) b)) :
    FnOk Pr w K mg base (L2.CX Pr w) (k + 1) f fd ps (spO K ca (runO N.length ps.length P b)) := by
  have len : ∀ vs H Q E, spO K ca (runO N.length ps.length P b) vs H Q E → vs.length = ps.length := fun vs H Q E h => by
    obtain ⟨F, cs, A, rl, q⟩ := h
    unfold runO at q
    cases z : decide (cs.length = ps.length) with
    | false => simp only [z] at q
    | true =>
      have l := rl.len
      rw [List.length_map] at l
      rw [l]
      exact of_decide_eq_true z
  refine F.ok S len fun cdv A outer s H vs Q E hr h => ⟨_, body cdv A outer s H E hr, ?_⟩
  have hl := len vs H Q E h
  obtain ⟨F, cs, A, rl, q⟩ := h
  unfold runO at q
  cases z : decide (cs.length = ps.length) with
  | false => simp only [z] at q
  | true =>
    simp only [z] at q
    obtain ⟨B, rs, pm⟩ := rl.rep
    have rl0 : Rl K ca F H (cs ++ List.replicate (N.length - ps.length) .n) (L2.start N vs) A := by
      unfold L2.start
      rw [hl]
      exact ⟨⟨B, rs.ext _, pm⟩, rl.nd, rl.fd, rl.nf⟩
    have lv : vs.length ≤ (L2.start N vs).length := by unfold L2.start; rw [List.length_append, List.length_map]; omega
    refine ⟨F, _, A, rl0, ?_⟩
    have kp : ∀ {st' σ' F' H' A'}, Rl K ca F' H' st' σ' A' → Pin P (L2.start N vs) σ' → ∃ A'', (∀ a ∈ A'', a ∈ A') ∧ Rl K ca F' H' (keepF P 0 (st'.take ps.length)) (vs.map some) A'' := fun rl' p => by
      rw [← hl]
      exact rl'.keep p (fun i h => start_get h) lv
    cases zb : b (cs ++ List.replicate (N.length - ps.length) .n) with
    | bad => simp only [zb] at q
    | exc c x st' =>
      simp only [zb] at q
      intro cls oe σ' F' H' A' rl' xi s p
      obtain ⟨A'', sub, rl2⟩ := kp rl' p
      exact q cls oe F' H' A'' rl2 xi (s.trans (Step.sub sub))
    | ok fl st' =>
      cases fl with
      | bk => simp only [zb] at q
      | ct => simp only [zb] at q
      | nx => simp only [zb] at q
      | rt d =>
        simp only [zb] at q
        intro v σ' F' H' A' D rl' ow nd s p
        obtain ⟨A'', sub, rl2⟩ := kp rl' p
        have sub2 : ∀ a ∈ D ++ A'', a ∈ D ++ A' := fun a m => (List.mem_append.mp m).elim (fun q => List.mem_append_left _ q) fun q => List.mem_append_right _ (sub a q)
        exact q v F' H' A'' D rl2 ow (List.nodup_append.mpr ⟨(List.nodup_append.mp nd).1, rl2.nd, fun x m y m' => (List.nodup_append.mp nd).2.2 x m y (sub y m')⟩) (s.trans (Step.sub sub2))
end
structure DefZ where
  adr : PySem.W.Frag → Addr
  name : Str
  qual : Str
  st : Stmt
  kwd : List (Str × He.Dv) := []
def fnZ (K : PySem.W.Frag) (a : Addr) : He.FnW := match K.lookup a with
  | some ⟨_, _, .func fd, _⟩ => some (fd.name, fd.qualname, fd.params, fd.body, fd.scope, fd.globals, fd.closure, fd.builtins)
  | _ => none
def DefZ.val (d : DefZ) : He.FnW := some (d.name, d.qual, defArgs d.st, .stmts (defBody d.st), defScope d.st, mainGlobals, [], builtinsNs)
def DefZ.kws (K : PySem.W.Frag) (d : DefZ) : List (Str × V) := d.kwd.map fun q => (q.1, q.2.v K)
def DefZ.ok (K : PySem.W.Frag) (d : DefZ) : Bool := PySem.W.keepIn K (.ref (d.adr K)) && (match K.lookup (d.adr K) with
  | some ⟨_, _, .func fd, _⟩ => PySem.W.codeIn K fd.code d.qual && (He.dflB K fd.defaults [] && He.kwdB K fd.kwdefaults (d.kws K))
  | _ => false)
theorem DefZ.funD {K : PySem.W.Frag} {d : DefZ} (e : fnZ K (d.adr K) = d.val) (c : d.ok K = true) : ∃ fd, FunD K d.name d.qual (defArgs d.st) (defBody d.st) (defScope d.st) [] (d.kws K) (d.adr K) fd := by
  obtain ⟨kp, c2⟩ := He.ba c
  unfold fnZ at e
  cases q : K.lookup (d.adr K) with
  | none => rw [q] at c2; cases c2
  | some o =>
    obtain ⟨oc, od, dt, osl⟩ := o
    rw [q] at c2 e
    cases dt with
    | func fd =>
      obtain ⟨n1, n2, n3, n4, n5, n6, n7, n8, n9, n10, n11, n12, n13, n14, n15⟩ := fd
      have e2 : (some (n1, n2, n3, n4, n5, n6, n7, n15) : He.FnW) = some (d.name, d.qual, defArgs d.st, .stmts (defBody d.st), defScope d.st, mainGlobals, [], builtinsNs) := e
      simp only [Option.some.injEq, Prod.mk.injEq] at e2
      obtain ⟨h1, h2, h3, h4, h5, h6, h7, h8⟩ := e2
      subst h1 h2 h3 h4 h5 h6 h7 h8
      have c3 : (PySem.W.codeIn K n13 d.qual && (He.dflB K n8 [] && He.kwdB K n9 (d.kws K))) = true := c2
      obtain ⟨k1, k2⟩ := He.ba c3
      obtain ⟨k3, k4⟩ := He.ba k2
      exact ⟨_, ⟨oc, od, n8, n9, n10, n11, n12, n13, n14, osl, rfl, q, k1, He.dflB_ok k3, He.kwdB_ok k4⟩, kp⟩
    | _ => cases c2
/-- a property's getter -/
def pgA (K : PySem.W.Frag) (C m : Str) : Addr := match PySem.W.recIn K (He.ma K (He.ga K C) m) "property" with
  | some (.ref g :: _) => g
  | _ => 0
inductive Zf where
  | fa (f : He.Fa)
  | prop (x m : Str)
  | ne (x : Str)
  | obj (x : Str)
  | first (x : Str)
  | ins (x : Str)
  | bare (x : Str)
  | nofind (x m : Str)
  | noobj (m : Str)
  | differ (x y : Str)
  | tup (x : Str) (vs : List He.Dv)
  | cf (cs fs : List Str)
  | oex (x : Str)
/-- an exception's class with an __init__ that stores index -/
def oexB (K : PySem.W.Frag) (C : Addr) : Bool := match K.lookup C with
  | some ⟨.type T, _, .cls ⟨_, _, .ref C' :: bm, _, _, hd, _, _, _, _, hdel⟩, sl⟩ => (match sl.toList with
    | [_, _, _, _, some (.builtin n), _] => T == "type" && (C' == C && (n == "ValueError.__new__" && (hd && (!hdel && PySem.HandSPX.refsVE bm))))
    | _ => false)
  | _ => false
def Zf.ok (K : PySem.W.Frag) : Zf → Bool
  | .fa f => f.ok K
  | .prop x m => He.eqO (PySem.W.findIn K (.ref (He.ga K x)) m) (some (some (.ref (He.ma K (He.ga K x) m)))) && (He.eqO (PySem.W.specialIn K (.ref (He.ma K (He.ga K x) m)) "__get__") (some (some (.builtin "property.__get__"))) && (decide (PySem.W.takesIn K (.ref (He.ma K (He.ga K x) m)) = some true) &&
      (match PySem.W.recIn K (He.ma K (He.ga K x) m) "property" with
        | some (.ref _ :: _) => true
        | _ => false)))
  | .ne x => He.eqO (PySem.W.findIn K (.ref (He.ga K x)) "__ne__") (some (some (.builtin "object.__ne__")))
  | .obj x => decide (PySem.W.subIn K (.ref (He.ga K x)) (.type "object") = some true)
  | .first x => PySem.W.selfFirst K (He.ga K x)
  | .ins x => He.eqO (PySem.W.findIn K (.ref (He.ga K x)) "__class__") (some (some (.builtin "object.__class__"))) && (He.eqO (PySem.W.specialIn K (.builtin "object.__class__") "__get__") (some (some (.builtin "getset_descriptor.__get__"))) && (decide (PySem.W.takesIn K (.builtin "object.__class__") = some true) &&
      (decide (PySem.W.mroIn K (He.ga K x) (.type "object") = some true) && decide (PySem.W.kitOne K (.ref (He.ga K x)) (.ref (He.ga K x)) = some true))))
  | .bare x => (match PySem.W.clsIn K (He.ga K x) with
    | some cd => decide (cd.mro = [.ref (He.ga K x), .type "object"])
    | none => false)
  | .nofind x m => He.eqO (PySem.W.findIn K (.ref (He.ga K x)) m) (some none)
  | .noobj m => He.eqO (PySem.W.findIn K (.type "object") m) (some none)
  | .differ x y => !decide (He.ga K x = He.ga K y)
  | .tup x vs => He.tupB K x vs
  | .cf cs fs => cs.all fun c => (He.Fa.cls c).ok K && fs.all fun f => (He.Fa.noat c f).ok K
  | .oex x => oexB K (He.ga K x) && (He.eqO (PySem.W.findIn K (.ref (He.ga K x)) "__setattr__") (some (some (.builtin "object.__setattr__"))) && (decide (PySem.W.subIn K (.ref (He.ga K x)) (.type "BaseException") = some true) && (decide (PySem.W.typeIn K (.ref (He.ga K x)) = some (.type "type")) &&
      (PySem.W.keepIn K (.ref (He.ga K x)) && (He.eqO (PySem.W.findIn K (.ref (He.ga K x)) "index") (some none) && (He.eqO (PySem.W.findIn K (.ref (He.ga K x)) "__init__") (some (some (.ref (He.ma K (He.ga K x) "__init__")))) &&
      (decide (PySem.W.typeIn K (.ref (He.ma K (He.ga K x) "__init__")) = some (.type "function")) && decide (PySem.W.exmOne K (.ref (He.ga K x)) (.ref (He.ga K x)) = some true))))))))
theorem prop_ok {K : PySem.W.Frag} {x m : Str} (h : (Zf.prop x m).ok K = true) : PropOf K (He.ga K x) m (He.ma K (He.ga K x) m) (pgA K x m) := by
  have h : (He.eqO (PySem.W.findIn K (.ref (He.ga K x)) m) (some (some (.ref (He.ma K (He.ga K x) m)))) && (He.eqO (PySem.W.specialIn K (.ref (He.ma K (He.ga K x) m)) "__get__") (some (some (.builtin "property.__get__"))) && (decide (PySem.W.takesIn K (.ref (He.ma K (He.ga K x) m)) = some true) &&
      (match PySem.W.recIn K (He.ma K (He.ga K x) m) "property" with
        | some (.ref _ :: _) => true
        | _ => false)))) = true := h
  obtain ⟨h1, h⟩ := He.ba h
  obtain ⟨h2, h⟩ := He.ba h
  obtain ⟨h3, h4⟩ := He.ba h
  refine ⟨He.eqO_ok h1, He.eqO_ok h2, of_decide_eq_true h3, ?_⟩
  unfold pgA
  cases z : PySem.W.recIn K (He.ma K (He.ga K x) m) "property" with
  | none => rw [z] at h4; cases h4
  | some l =>
    rw [z] at h4
    cases l with
    | nil => cases h4
    | cons v l =>
      cases v with
      | ref g => exact ⟨l, rfl⟩
      | _ => cases h4
theorem ins_ok {K : PySem.W.Frag} {x : Str} (h : (Zf.ins x).ok K = true) (c : Cls K (He.ga K x)) : C8.InsC K (He.ga K x) := by
  have h : (He.eqO (PySem.W.findIn K (.ref (He.ga K x)) "__class__") (some (some (.builtin "object.__class__"))) && (He.eqO (PySem.W.specialIn K (.builtin "object.__class__") "__get__") (some (some (.builtin "getset_descriptor.__get__"))) && (decide (PySem.W.takesIn K (.builtin "object.__class__") = some true) &&
      (decide (PySem.W.mroIn K (He.ga K x) (.type "object") = some true) && decide (PySem.W.kitOne K (.ref (He.ga K x)) (.ref (He.ga K x)) = some true))))) = true := h
  obtain ⟨h1, h⟩ := He.ba h
  obtain ⟨h2, h⟩ := He.ba h
  obtain ⟨h3, h⟩ := He.ba h
  obtain ⟨h4, h5⟩ := He.ba h
  exact ⟨c, He.eqO_ok h1, He.eqO_ok h2, of_decide_eq_true h3, of_decide_eq_true h4, of_decide_eq_true h5⟩
theorem bare_ok {K : PySem.W.Frag} {x : Str} (h : (Zf.bare x).ok K = true) : ∃ cd, PySem.W.clsIn K (He.ga K x) = some cd ∧ cd.mro = [.ref (He.ga K x), .type "object"] := by
  have h2 : (match PySem.W.clsIn K (He.ga K x) with
    | some cd => decide (cd.mro = [.ref (He.ga K x), .type "object"])
    | none => false) = true := h
  cases z : PySem.W.clsIn K (He.ga K x) with
  | none => rw [z] at h2; cases h2
  | some cd => rw [z] at h2; exact ⟨cd, rfl, of_decide_eq_true h2⟩
abbrev AlZ : Type := Bool × List He.FnW
def obsZ (fa : List Zf) (fn : List DefZ) (K : PySem.W.Frag) : AlZ := ((fa.all fun f => f.ok K) && fn.all fun d => d.ok K, fn.map fun d => fnZ K (d.adr K))
def valZ (fn : List DefZ) : AlZ := (true, fn.map DefZ.val)
def SaysZ (fa : List Zf) (fn : List DefZ) (K : PySem.W.Frag) : Prop := obsZ fa fn K = valZ fn
def obsZG (n : Nat) (fa : List Zf) (fn : List DefZ) (g : Addr → Option Obj) : AlZ := obsZ fa fn (He.frG g (He.asD g n))
def hookZ (n : Nat) (fa : List Zf) (fn : List DefZ) : PySem.W.Hook where
  α := AlZ
  obs := fun s => obsZG n fa fn s.heap.get?
  val := fun _ => valZ fn
  says := fun _ h => ∃ K : PySem.W.Frag, K.In h ∧ SaysZ fa fn K
  of := fun _ _ e => ⟨_, He.frG_in, e⟩
  keeps := fun _ _ _ ⟨K, hK, c⟩ k => ⟨K, PySem.W.Frag.In.keeps hK k, c⟩
theorem obsZG_eq {n : Nat} {fa : List Zf} {fn : List DefZ} {g : Addr → Option Obj} {s : Shared} (h : ∀ a, g a = s.heap.get? a) : obsZG n fa fn g = (hookZ n fa fn).obs s := by
  have e : g = s.heap.get? := funext h
  rw [e] <;> rfl
section
variable {fa : List Zf} {fn : List DefZ} {K : PySem.W.Frag}
theorem SaysZ.fact (c : SaysZ fa fn K) (i : Nat) {f : Zf} (h : fa[i]? = some f := by rfl) : f.ok K = true := by
  have c1 := (He.ba (show ((fa.all fun f => f.ok K) && fn.all fun d => d.ok K) = true from congrArg (fun z : AlZ => z.1) c)).1
  exact List.all_eq_true.mp c1 f (List.mem_of_getElem? h)
theorem SaysZ.def_ (c : SaysZ fa fn K) (i : Nat) {d : DefZ} (h : fn[i]? = some d := by rfl) : ∃ fd, FunD K d.name d.qual (defArgs d.st) (defBody d.st) (defScope d.st) [] (d.kws K) (d.adr K) fd := by
  have c2 := (He.ba (show ((fa.all fun f => f.ok K) && fn.all fun d => d.ok K) = true from congrArg (fun z : AlZ => z.1) c)).2
  have e : fn.map (fun d => fnZ K (d.adr K)) = fn.map DefZ.val := congrArg (fun z : AlZ => z.2) c
  have e2 : (fn.map fun d => fnZ K (d.adr K))[i]? = (fn.map DefZ.val)[i]? := by rw [e]
  rw [List.getElem?_map, List.getElem?_map, h] at e2
  exact DefZ.funD (Option.some.inj e2) (List.all_eq_true.mp c2 d (List.mem_of_getElem? h))
end
/-- the classes: what they may hold -/
def caOf (K : PySem.W.Frag) (cs fs : List Str) : Ca := ⟨fun c => He.ga K c, fun c ns => c ∈ cs ∧ ∀ f ∈ ns, f ∈ fs⟩
theorem caOf_fld {K : PySem.W.Frag} {cs fs : List Str} {f : Str} (h : f ∈ fs) : ∀ c ns, (caOf K cs fs).ok c ns → (caOf K cs fs).ok c (putN f ns) := fun c ns ⟨h1, h2⟩ => ⟨h1, fun g m => by
  have : ∀ {ns : List Str}, g ∈ putN f ns → g = f ∨ g ∈ ns := by
    intro ns
    induction ns with
    | nil => intro m; exact .inl (by simpa [putN] using m)
    | cons n ns ih =>
      intro m
      unfold putN at m
      by_cases q : n = f
      · rw [if_pos q] at m; exact .inr m
      · rw [if_neg q] at m
        rcases List.mem_cons.mp m with m | m
        · exact .inr (m ▸ List.mem_cons_self)
        · exact (ih m).imp id (List.mem_cons_of_mem _)
  rcases this m with rfl | m
  · exact h
  · exact h2 g m⟩
theorem caOf_no {K : PySem.W.Frag} {cs fs : List Str} {c m : Str} (h : m ∉ fs) : ∀ ns, (caOf K cs fs).ok c ns → m ∉ ns := fun ns ⟨_, h2⟩ q => h (h2 m q)
theorem caOf_new {K : PySem.W.Frag} {cs fs : List Str} {c : Str} (h : c ∈ cs) : (caOf K cs fs).ok c [] := ⟨h, fun f m => by cases m⟩
theorem walk_ofEw {l : PySem.W.OpenLaw} {n k : Nat} {q : Program} {loose : List Str} {XP : (Str → Option Value) → Heap → Prop} {YP : World → Heap → Prop} {d : DefRec} {CX : World → CXT} {x : Str}
    (hn : l.most = some n) (hn2 : n ≤ sizeLine) (hdf : d.params.defaults = []) (hr : Room k callerA)
    (F : ∀ (w : World) (mg : Str → Option Value) (fa : Addr) (h : Heap), YP w h → h.Ns mainGlobals mg → mg d.name = some (.ref fa) →
      ∃ (K : PySem.W.Frag) (fd : FuncData) (sp : Sp), K.In h ∧ (∀ (s : Shared) (u : Value), BindsTo s fd ⟨[u], []⟩ [(x, u)]) ∧
        (∀ (H : Hp) (a : Addr) (ns : List Int), ns.length ≤ n → Only H → SqL K H a (ns.map V.int) → sp [.ref a] H (fun v _ => v = .bl true) fun _ _ _ => False) ∧
        ∀ base : Heap, K.In base → base.Ns mainGlobals mg → FnOk l.prog w K mg base (CX w) k fa fd [x] sp)
    (hCX : ∀ (w : World) (H : Hp) (s : Shared) (e : Value) (s' : Shared), CX w [] H s (fun _ _ _ => False) e s' → False) :
    PySem.W.WalkO q loose XP YP l.row.toRowW d [] (fun f vs => PySem.call f vs) := by
  refine Att.attach_call hn hdf fun w s₀ s₁ mg mb fa o pm cd doc a vs ns G Y ho hd hcd hmg hobj hints hlen hg => ?_
  obtain ⟨K, fd, sp, KX, hb, hsp, hF⟩ := F w mg fa _ Y G.T.g hmg
  exact law_call KX G.T.g G.T.b G.T.builtins G.T.nolimit hg hobj hints (Nat.le_trans hlen hn2) hr hF hb (fun H hO hS => hsp H a ns hlen hO hS) fun H e s' => hCX w H s₁ e s'
theorem noCX {P : Program} {w : World} {outer : List Env} {H : Hp} {s : Shared} {e : Value} {s' : Shared} (h : L2.CX P w outer H s (fun _ _ _ => False) e s') : False := by
  obtain ⟨_, _, _, _, _, _, _, _, _, _, _, _, hE⟩ := h
  exact hE
end Ev
namespace Ev
open PySem PySem.Spec PyProof.Rows L2
theorem takes0 {X : Cx} : Takes X W0 := fun _ _ ⟨_, _, _, _, _, _, _, _, _, _, _, _, _, _, _, _, w⟩ => w.elim
/-- Gl by a Bool -/
def blkB (N : List Str) (sc scope : Scope) (own : List (Str × Nat)) : Bool :=
  (scope.kind == .function) && ((scope.names.all fun y => scope.names.lookup y.1 == some y.2) && ((own.all fun p => N[p.2]? == some p.1) &&
    ((scope.names.all fun y => !(y.2 == .free) || (sc.names.lookup y.1 == some .cell || sc.names.lookup y.1 == some .free)) && (scope.names.all fun y => !(y.2 == .local || y.2 == .cell) || ((own.map (·.1)).contains y.1 || !(N.contains y.1))))))
theorem blk_of {N : List Str} {sc scope : Scope} {own : List (Str × Nat)} (h : blkB N sc scope own = true) : BlkOk N sc scope own := by
  unfold blkB at h
  obtain ⟨h1, h⟩ := Bool.and_eq_true_iff.mp h
  obtain ⟨h2, h⟩ := Bool.and_eq_true_iff.mp h
  obtain ⟨h3, h⟩ := Bool.and_eq_true_iff.mp h
  obtain ⟨h4, h5⟩ := Bool.and_eq_true_iff.mp h
  refine ⟨?_, fun y m => ?_, fun p m => ?_, fun y m e => ?_, fun y m e => ?_⟩
  · exact eq_of_beq h1
  · exact eq_of_beq (List.all_eq_true.mp h2 y m)
  · exact eq_of_beq (List.all_eq_true.mp h3 p m)
  · have := List.all_eq_true.mp h4 y m
    rw [e] at this
    simpa using this
  · have := List.all_eq_true.mp h5 y m
    have e2 : (y.2 == .local || y.2 == .cell) = true := by
      rcases e with e | e <;> rw [e] <;> rfl
    rw [e2] at this
    simp only [Bool.not_true, Bool.false_or, Bool.or_eq_true, List.contains_iff_mem, Bool.not_eq_true'] at this
    rcases this with t | t
    · exact .inl t
    · exact .inr fun q => by rw [List.contains_iff_mem.mpr q] at t; cases t
section
variable (Pr : Program) (w : World) (K : PySem.W.Frag) (mg : Str → Option Value) (base : Heap) (ca : Ca)
/-- a def of the module -/
structure Cal (k : Nat) (x : Str) (ps : List Str) (mf : MF) : Prop where
  ok : ∃ fd, FnOk Pr w K mg base (L2.CX Pr w) k (He.ga K x) fd ps (spE K ca mf) ∧ Binds K fd ps []
  gl : mg x = some (.ref (He.ga K x))
  kp : PySem.W.keepIn K (.ref (He.ga K x)) = true
/-- a method -/
structure Met (k : Nat) (c m : Str) (ps : List Str) (mf : MF) : Prop where
  ok : ∃ fd, FnOk Pr w K mg base (L2.CX Pr w) k (He.ma K (ca.a c) m) fd ps (spE K ca mf) ∧ Binds K fd ps []
  me : Meth K (ca.a c) m (He.ma K (ca.a c) m)
  cl : Cls K (ca.a c)
  no : ∀ ns, ca.ok c ns → m ∉ ns
/-- a property -/
structure Prp (k : Nat) (c m : Str) (ps : List Str) (mf : MF) : Prop where
  ok : ∃ pp gg fd, FnOk Pr w K mg base (L2.CX Pr w) k gg fd ps (spE K ca mf) ∧ Binds K fd ps [] ∧ PropOf K (ca.a c) m pp gg
  cl : Cls K (ca.a c)
  no : ∀ ns, ca.ok c ns → m ∉ ns
/-- a class, made -/
structure Mak (k : Nat) (c : Str) (ps : List Str) (mf : MF) : Prop where
  ok : ∃ fd, FnOk Pr w K mg base (L2.CX Pr w) k (He.ma K (ca.a c) "__init__") fd ps (spE K ca mf) ∧ Binds K fd ps []
  mkk : Mk K (ca.a c) (He.ma K (ca.a c) "__init__")
  gl : mg c = some (.ref (ca.a c))
  new : ca.ok c []
end
section
variable {X : Cx} {ca : Ca} {W : WX} {k kk : Nat} {x c m : Str} {mf : MF} {pn : List Str} {p pos apos : Pos} {e o : Expr} {es : List Expr} {g : Arg} {ps : List Arg}
theorem zc_call (h : Cal X.prog X.w X.K X.mg X.base ca k x pn mf) (hr : Room kk X.A) (tk : Takes X W) (ha : PA X (e :: es) (tGs X.K ca W ps)) (hk : k ≤ kk := by decide) (hg : Gl X x := by rfl) (hdb : (x == ("__debug__" : Str)) = false := by decide) (he : starEach (e :: es) X.env = (false, eval e X.env) :: starEach es X.env := by rfl) (hpl : (backTo pos (starEach es X.env)).any (·.1) = false := by rfl) :
    PE X (.Call (.Name x p) (e :: es) [] pos) (tE X.K ca W (eCall mf ps)) := by
  obtain ⟨fd, F, b⟩ := h.ok
  exact se_call F (hr.mono hk) hg h.gl h.kp b tk ha hdb he hpl
theorem zc_call0 (h : Cal X.prog X.w X.K X.mg X.base ca k x pn mf) (hr : Room kk X.A) (tk : Takes X W) (hk : k ≤ kk := by decide) (hg : Gl X x := by rfl) (hdb : (x == ("__debug__" : Str)) = false := by decide) : PE X (.Call (.Name x p) [] [] pos) (tE X.K ca W (eCall mf [])) := by
  obtain ⟨fd, F, b⟩ := h.ok
  exact se_call0 F (hr.mono hk) hg h.gl h.kp b tk hdb
theorem zc_meth {pl : Sem Bool} (h : Met X.prog X.w X.K X.mg X.base ca k c m pn mf) (hr : Room kk X.A) (tk : Takes X W) (he : PE X o (tG X.K ca W g)) (ha : PA X (e :: es) (tGs X.K ca W ps)) (hk : k ≤ kk := by decide)
    (hst : starEach (e :: es) X.env = (false, eval e X.env) :: starEach es X.env := by rfl) (hpl : (backTo pos (starEach es X.env)).any (·.1) = false := by rfl)
    (ht : eval (.Call (.Attribute o m apos) (e :: es) [] pos) X.env = (do
      let ov ← eval o X.env
      standAt apos.atName
      let (f, first) ← holding [ov] (getMethod ov m pl)
      callWith pos f first (backTo pos (starEach (e :: es) X.env)) (backToKw pos (keywordEach [] X.env))) := by rfl) :
    PE X (.Call (.Attribute o m apos) (e :: es) [] pos) (tE X.K ca W (eMeth c mf g ps)) := by
  obtain ⟨fd, F, b⟩ := h.ok
  exact se_meth h.cl h.no he h.me F (hr.mono hk) b tk ha hst hpl ht
theorem zc_meth0 {pl : Sem Bool} (h : Met X.prog X.w X.K X.mg X.base ca k c m pn mf) (hr : Room kk X.A) (tk : Takes X W) (he : PE X o (tG X.K ca W g)) (hk : k ≤ kk := by decide)
    (ht : eval (.Call (.Attribute o m apos) [] [] pos) X.env = (do
      let ov ← eval o X.env
      standAt apos.atName
      let (f, first) ← holding [ov] (getMethod ov m pl)
      callWith pos f first (backTo pos (starEach [] X.env)) (backToKw pos (keywordEach [] X.env))) := by rfl) :
    PE X (.Call (.Attribute o m apos) [] [] pos) (tE X.K ca W (eMeth c mf g [])) := by
  obtain ⟨fd, F, b⟩ := h.ok
  exact se_meth0 h.cl h.no he h.me F (hr.mono hk) b tk ht
theorem zc_prop (h : Prp X.prog X.w X.K X.mg X.base ca k c m pn mf) (hr : Room kk X.A) (he : PE X o (tG X.K ca W g)) (hk : k + 1 ≤ kk := by decide) (hab : attributeBase o m X.env (eval o X.env) = eval o X.env := by rfl) : PE X (.Attribute o m pos) (tE X.K ca W (eProp c mf g)) := by
  obtain ⟨pp, gg, fd, F, b, hp⟩ := h.ok
  exact se_prop h.cl h.no he hp F (hr.mono hk) b hab
theorem zc_make (h : Mak X.prog X.w X.K X.mg X.base ca k c pn mf) (hr : Room kk X.A) (tk : Takes X W) (ha : PA X (e :: es) (tGs X.K ca W ps)) (hk : k + 1 ≤ kk := by decide) (hg : Gl X c := by rfl) (hdb : (c == ("__debug__" : Str)) = false := by decide) (he : starEach (e :: es) X.env = (false, eval e X.env) :: starEach es X.env := by rfl) (hpl : (backTo pos (starEach es X.env)).any (·.1) = false := by rfl) :
    PE X (.Call (.Name c p) (e :: es) [] pos) (tO X.K ca W (eMake c mf ps)) := by
  obtain ⟨fd, F, b⟩ := h.ok
  exact so_make h.new h.mkk F (hr.mono hk) hg h.gl b tk ha hdb he hpl
/-- arguments -/
theorem sg_nil : PA X [] (tGs X.K ca W []) := pa_nil
theorem sg_cons (h : PE X e (tG X.K ca W g)) (t : PA X es (tGs X.K ca W ps)) (hs : starEach (e :: es) X.env = (false, eval e X.env) :: starEach es X.env := by rfl) : PA X (e :: es) (tGs X.K ca W (g :: ps)) := pa_cons h t hs
theorem ag_e {m : E} (h : PE X e (tE X.K ca W m)) : PE X e (tG X.K ca W (.e m)) := h
theorem ag_t {m : E} (h : PE X e (tO X.K ca W m)) : PE X e (tG X.K ca W (.t m)) := h
theorem ag_mu {i : Nat} (h : PE X e (tVar i)) : PE X e (tG X.K ca W (.mu i)) := h
theorem Met.raw {Pr : Program} {w : World} {K : PySem.W.Frag} {mg : Str → Option Value} {base : Heap} (h : Met Pr w K mg base ca k c m pn mf) : FnR Pr w K mg base (L2.CX Pr w) k (He.ma K (ca.a c) m) (spE K ca mf) := by
  obtain ⟨fd, F, b⟩ := h.ok
  have := F.raw b .nil
  simpa only [List.append_nil] using this
variable {mm nn : E} {a b : Expr}
theorem zc_len (h : Met X.prog X.w X.K X.mg X.base ca k c "__len__" pn mf) (hr : Room kk X.A) (hm : X.mg "len" = none) (ha : PE X e (tE X.K ca W mm)) (hk : k + 1 ≤ kk := by decide) (hg : Gl X "len" := by rfl)
    (he : starEach [e] X.env = (false, eval e X.env) :: starEach [] X.env := by rfl) (hpl : (backTo pos (starEach [] X.env)).any (·.1) = false := by rfl) : PE X (.Call (.Name "len" p) [e] [] pos) (tE X.K ca W (eOpF (gLenO c mf) [mm])) :=
  se_callBF (cr_lenO h.me.at_ h.me.fn h.raw (hr.mono hk)) okf_lenO hg hm boot_len ha (by decide) (by decide) he hpl
theorem zc_eq (h : Met X.prog X.w X.K X.mg X.base ca k c "__eq__" pn mf) (hr : Room kk X.A) (ha : PE X a (tE X.K ca W mm)) (hb : PE X b (tE X.K ca W nn)) (hk : k ≤ kk := by decide) (hm : behindInMarks .Eq b = false := by rfl) : PE X (.Compare a [.Eq] [b] pos) (tE X.K ca W (eOpF (gDun (tag2 c c) mf) [mm, nn])) :=
  se_cmpF (op_cmpO (fun _ _ => rfl) h.me.at_ h.me.fn h.raw (hr.mono hk)) okf_bin ha hb hm
theorem zt_eq (h : Met X.prog X.w X.K X.mg X.base ca k c "__eq__" pn mf) (hr : Room kk X.A) (ha : PE X a (tE X.K ca W mm)) (hb : PE X b (tE X.K ca W nn)) (hk : k ≤ kk := by decide) (hm : behindInMarks .Eq b = false := by rfl) : PT X (.Compare a [.Eq] [b] pos) (tT X.K ca W (mT (eOpF (gDun (tag2 c c) mf) [mm, nn]))) :=
  st_cmpF (op_cmpO (fun _ _ => rfl) h.me.at_ h.me.fn h.raw (hr.mono hk)) okf_bin ha hb hm
/-- what != by == leans on -/
structure NeC (K : PySem.W.Frag) (C : Addr) : Prop where
  ne : PySem.W.findIn K (.ref C) "__ne__" = some (some (.builtin "object.__ne__"))
  ob : PySem.W.subIn K (.ref C) (.type "object") = some true
theorem zc_ne (h : Met X.prog X.w X.K X.mg X.base ca k c "__eq__" pn mf) (n : NeC X.K (ca.a c)) (hr : Room kk X.A) (ha : PE X a (tE X.K ca W mm)) (hb : PE X b (tE X.K ca W nn)) (hk : k + 1 ≤ kk := by decide) (hm : behindInMarks .NotEq b = false := by rfl) : PE X (.Compare a [.NotEq] [b] pos) (tE X.K ca W (eOpF (gNeO c mf) [mm, nn])) :=
  se_cmpF (op_neO h.me.at_ h.me.fn n.ne n.ob h.raw (hr.mono hk)) okf_ne ha hb hm
theorem zt_ne (h : Met X.prog X.w X.K X.mg X.base ca k c "__eq__" pn mf) (n : NeC X.K (ca.a c)) (hr : Room kk X.A) (ha : PE X a (tE X.K ca W mm)) (hb : PE X b (tE X.K ca W nn)) (hk : k + 1 ≤ kk := by decide) (hm : behindInMarks .NotEq b = false := by rfl) : PT X (.Compare a [.NotEq] [b] pos) (tT X.K ca W (mT (eOpF (gNeO c mf) [mm, nn]))) :=
  st_cmpF (op_neO h.me.at_ h.me.fn n.ne n.ob h.raw (hr.mono hk)) okf_ne ha hb hm
theorem zc_in (h : Met X.prog X.w X.K X.mg X.base ca k c "__contains__" pn mf) (hr : Room kk X.A) (ha : PE X a (tE X.K ca W mm)) (hb : PE X b (tE X.K ca W nn)) (hk : k ≤ kk := by decide) (hm : behindInMarks .In b = false := by rfl) : PE X (.Compare a [.In] [b] pos) (tE X.K ca W (eOpF (gInO c mf false) [mm, nn])) :=
  se_cmpF (op_inO h.me.at_ h.me.fn h.raw (hr.mono hk)) okf_in ha hb hm
theorem zc_notIn (h : Met X.prog X.w X.K X.mg X.base ca k c "__contains__" pn mf) (hr : Room kk X.A) (ha : PE X a (tE X.K ca W mm)) (hb : PE X b (tE X.K ca W nn)) (hk : k ≤ kk := by decide) (hm : behindInMarks .NotIn b = false := by rfl) : PE X (.Compare a [.NotIn] [b] pos) (tE X.K ca W (eOpF (gInO c mf true) [mm, nn])) :=
  se_cmpF (op_notInO h.me.at_ h.me.fn h.raw (hr.mono hk)) okf_in ha hb hm
/-- a op b of one class; of two classes -/
theorem zc_bin {op : Operator} {d : Str} (h : Met X.prog X.w X.K X.mg X.base ca k c d pn mf) (fs : PySem.W.selfFirst X.K (ca.a c) = true) (hr : Room kk X.A) (ha : PE X a (tE X.K ca W mm)) (hb : PE X b (tE X.K ca W nn)) (hd : d = PySem.dunder op.info.2 := by rfl) (hk : k ≤ kk := by decide) :
    PE X (.BinOp a op b pos) (tE X.K ca W (eOpF (gDun (tag2 c c) mf) [mm, nn])) := by
  subst hd
  exact se_binF (op_binO fs h.me.at_ h.me.fn h.raw (hr.mono hk)) okf_bin ha hb
structure BinD (K : PySem.W.Frag) (C D : Addr) (d r : Str) : Prop where
  fs : PySem.W.selfFirst K C = true
  ne : C ≠ D
  mro : ∃ cd, PySem.W.clsIn K D = some cd ∧ cd.mro = [.ref D, .type "object"]
  h1 : PySem.W.findIn K (.ref D) d = some none
  h2 : PySem.W.findIn K (.ref D) r = some none
  g1 : PySem.W.findIn K (.type "object") d = some none
  g2 : PySem.W.findIn K (.type "object") r = some none
theorem zc_binD {op : Operator} {d r c2 : Str} (h : Met X.prog X.w X.K X.mg X.base ca k c d pn mf) (z : BinD X.K (ca.a c) (ca.a c2) d r) (hr : Room kk X.A) (ha : PE X a (tE X.K ca W mm)) (hb : PE X b (tE X.K ca W nn)) (hd : d = PySem.dunder op.info.2 := by rfl) (hd2 : r = dunderR op.info.2 := by rfl) (hk : k ≤ kk := by decide) :
    PE X (.BinOp a op b pos) (tE X.K ca W (eOpF (gDun (tag2 c c2) mf) [mm, nn])) := by
  subst hd hd2
  obtain ⟨cd, hD, hm⟩ := z.mro
  exact se_binF (op_binD z.ne z.fs h.me.at_ h.me.fn hD hm z.h1 z.h2 z.g1 z.g2 h.raw (hr.mono hk)) okf_bin ha hb
end
end Ev
namespace Ev
open PySem PySem.Spec PyProof.Rows L2
def gSub : List D → Option D := gII fun i j => .int (i - j)
def gFdiv : List D → Option D := gIC cDiv fun i j => .int (i / j)
def gMod : List D → Option D := gIC cMod fun i j => .int (i % j)
def gPow : List D → Option D := gIC cPow fun i j => .int (i ^ j.toNat)
def gLt : List D → Option D := gII fun i j => .bl (decide (i < j))
def gLe : List D → Option D := gII fun i j => .bl (decide (i ≤ j))
def gGt : List D → Option D := gII fun i j => .bl (decide (j < i))
def gGe : List D → Option D := gII fun i j => .bl (decide (j ≤ i))
def gMax : List D → Option D := gII fun i j => .int (if j > i then j else i)
def gMin : List D → Option D := gII fun i j => .int (if j < i then j else i)
def gListF : List D → Option D := fun ds => (gList ds).map .lst
def gSplitF : List D → Option D := fun ds => (gSplit ds).map .lst
section
variable {X : Cx} {ca : Ca} {W : WX} {a b e : Expr} {es : List Expr} {pos p apos : Pos} {q r : Opd} {ps : List Opd} {kk : Nat} {m : E} {ms : List E}
variable (cf : Cf X.K ca)
include cf
theorem zb_add (ha : PE X a (tP X.K ca W q)) (hb : PE X b (tP X.K ca W r)) (ok : opdsOk [q, r] = true := by rfl) (of : opdsF [q, r] = true := by rfl) : PE X (.BinOp a .Add b pos) (tE X.K ca W (eOp gAdd [q, r])) := se_bin cf op_addA ok_add ha hb ok of
theorem zb_sub (ha : PE X a (tP X.K ca W q)) (hb : PE X b (tP X.K ca W r)) (ok : opdsOk [q, r] = true := by rfl) (of : opdsF [q, r] = true := by rfl) : PE X (.BinOp a .Sub b pos) (tE X.K ca W (eOp gSub [q, r])) := se_bin cf op_sub ok_II ha hb ok of
theorem zb_mul (ha : PE X a (tP X.K ca W q)) (hb : PE X b (tP X.K ca W r)) (ok : opdsOk [q, r] = true := by rfl) (of : opdsF [q, r] = true := by rfl) : PE X (.BinOp a .Mult b pos) (tE X.K ca W (eOp gMul [q, r])) := se_bin cf op_mulA ok_mul ha hb ok of
theorem zb_fdiv (ha : PE X a (tP X.K ca W q)) (hb : PE X b (tP X.K ca W r)) (ok : opdsOk [q, r] = true := by rfl) (of : opdsF [q, r] = true := by rfl) : PE X (.BinOp a .FloorDiv b pos) (tE X.K ca W (eOp gFdiv [q, r])) :=
  se_bin cf op_fdivW (ok_IC fun i j h => by unfold cDiv at h; obtain ⟨h1, h2⟩ := Bool.and_eq_true_iff.mp h; exact ⟨of_decide_eq_true h1, of_decide_eq_true h2⟩) ha hb ok of
theorem zb_mod (ha : PE X a (tP X.K ca W q)) (hb : PE X b (tP X.K ca W r)) (ok : opdsOk [q, r] = true := by rfl) (of : opdsF [q, r] = true := by rfl) : PE X (.BinOp a .Mod b pos) (tE X.K ca W (eOp gMod [q, r])) :=
  se_bin cf op_mod (ok_IC fun i j h => of_decide_eq_true h) ha hb ok of
theorem zb_pow (ha : PE X a (tP X.K ca W q)) (hb : PE X b (tP X.K ca W r)) (ok : opdsOk [q, r] = true := by rfl) (of : opdsF [q, r] = true := by rfl) : PE X (.BinOp a .Pow b pos) (tE X.K ca W (eOp gPow [q, r])) := se_bin cf op_powW (ok_IC cPow_ok) ha hb ok of
theorem zo_cat (ha : PE X a (tP X.K ca W q)) (hb : PE X b (tP X.K ca W r)) (ok : opdsOk [q, r] = true := by rfl) (of : opdsF [q, r] = true := by rfl) : PE X (.BinOp a .Add b pos) (tO X.K ca W (eOp (fun ds => (gCat ds).map .lst) [q, r])) := so_bin cf op_cat new_cat ha hb ok of
theorem zo_rep (ha : PE X a (tP X.K ca W q)) (hb : PE X b (tP X.K ca W r)) (ok : opdsOk [q, r] = true := by rfl) (of : opdsF [q, r] = true := by rfl) : PE X (.BinOp a .Mult b pos) (tO X.K ca W (eOp (fun ds => (gRep ds).map .lst) [q, r])) := so_bin cf op_rep new_rep ha hb ok of
theorem zb_neg (ha : PE X a (tP X.K ca W q)) (ok : opdsOk [q] = true := by rfl) (of : opdsF [q] = true := by rfl) : PE X (.UnaryOp .USub a pos) (tE X.K ca W (eOp gNeg [q])) := se_un cf un_neg ok_neg ha ok of
theorem zb_lt (ha : PE X a (tP X.K ca W q)) (hb : PE X b (tP X.K ca W r)) (ok : opdsOk [q, r] = true := by rfl) (of : opdsF [q, r] = true := by rfl) (hm : behindInMarks .Lt b = false := by rfl) : PE X (.Compare a [.Lt] [b] pos) (tE X.K ca W (eOp gLt [q, r])) := se_cmp cf op_lt ok_IB ha hb hm ok of
theorem zb_le (ha : PE X a (tP X.K ca W q)) (hb : PE X b (tP X.K ca W r)) (ok : opdsOk [q, r] = true := by rfl) (of : opdsF [q, r] = true := by rfl) (hm : behindInMarks .LtE b = false := by rfl) : PE X (.Compare a [.LtE] [b] pos) (tE X.K ca W (eOp gLe [q, r])) := se_cmp cf op_le ok_IB ha hb hm ok of
theorem zb_gt (ha : PE X a (tP X.K ca W q)) (hb : PE X b (tP X.K ca W r)) (ok : opdsOk [q, r] = true := by rfl) (of : opdsF [q, r] = true := by rfl) (hm : behindInMarks .Gt b = false := by rfl) : PE X (.Compare a [.Gt] [b] pos) (tE X.K ca W (eOp gGt [q, r])) := se_cmp cf op_gt ok_IB ha hb hm ok of
theorem zb_ge (ha : PE X a (tP X.K ca W q)) (hb : PE X b (tP X.K ca W r)) (ok : opdsOk [q, r] = true := by rfl) (of : opdsF [q, r] = true := by rfl) (hm : behindInMarks .GtE b = false := by rfl) : PE X (.Compare a [.GtE] [b] pos) (tE X.K ca W (eOp gGe [q, r])) := se_cmp cf op_ge ok_IB ha hb hm ok of
theorem zb_is (ha : PE X a (tP X.K ca W q)) (hb : PE X b (tP X.K ca W r)) (ok : opdsOk [q, r] = true := by rfl) (of : opdsF [q, r] = true := by rfl) (hm : behindInMarks .Is b = false := by rfl) : PE X (.Compare a [.Is] [b] pos) (tE X.K ca W (eOp (gIs false) [q, r])) := se_cmp cf op_is ok_is ha hb hm ok of
theorem zb_isn (ha : PE X a (tP X.K ca W q)) (hb : PE X b (tP X.K ca W r)) (ok : opdsOk [q, r] = true := by rfl) (of : opdsF [q, r] = true := by rfl) (hm : behindInMarks .IsNot b = false := by rfl) : PE X (.Compare a [.IsNot] [b] pos) (tE X.K ca W (eOp (gIs true) [q, r])) := se_cmp cf op_isnot ok_is ha hb hm ok of
theorem zb_eq (hr : Room kk X.A) (ha : PE X a (tP X.K ca W q)) (hb : PE X b (tP X.K ca W r)) (ok : opdsOk [q, r] = true := by rfl) (of : opdsF [q, r] = true := by rfl) (hm : behindInMarks .Eq b = false := by rfl) : PE X (.Compare a [.Eq] [b] pos) (tE X.K ca W (eOp gEq [q, r])) := se_cmp cf (op_eqD hr.units) ok_eq ha hb hm ok of
theorem zb_ne (hr : Room kk X.A) (ha : PE X a (tP X.K ca W q)) (hb : PE X b (tP X.K ca W r)) (ok : opdsOk [q, r] = true := by rfl) (of : opdsF [q, r] = true := by rfl) (hm : behindInMarks .NotEq b = false := by rfl) : PE X (.Compare a [.NotEq] [b] pos) (tE X.K ca W (eOp gNe [q, r])) := se_cmp cf (op_neD hr.units) ok_ne ha hb hm ok of
theorem zb_in (hr : Room kk X.A) (ha : PE X a (tP X.K ca W q)) (hb : PE X b (tP X.K ca W r)) (ok : opdsOk [q, r] = true := by rfl) (of : opdsF [q, r] = true := by rfl) (hm : behindInMarks .In b = false := by rfl) : PE X (.Compare a [.In] [b] pos) (tE X.K ca W (eOp (gIn false) [q, r])) := se_cmp cf (op_in3 (by have := hr.un; omega)) ok_in3 ha hb hm ok of
theorem zb_notIn (hr : Room kk X.A) (ha : PE X a (tP X.K ca W q)) (hb : PE X b (tP X.K ca W r)) (ok : opdsOk [q, r] = true := by rfl) (of : opdsF [q, r] = true := by rfl) (hm : behindInMarks .NotIn b = false := by rfl) : PE X (.Compare a [.NotIn] [b] pos) (tE X.K ca W (eOp (gIn true) [q, r])) := se_cmp cf (op_notIn3 (by have := hr.un; omega)) ok_notIn3 ha hb hm ok of
theorem zt_lt (ha : PE X a (tP X.K ca W q)) (hb : PE X b (tP X.K ca W r)) (ok : opdsOk [q, r] = true := by rfl) (of : opdsF [q, r] = true := by rfl) (hm : behindInMarks .Lt b = false := by rfl) : PT X (.Compare a [.Lt] [b] pos) (tT X.K ca W (mT (eOp gLt [q, r]))) := st_cmp cf op_lt ok_IB ha hb hm ok of
theorem zt_le (ha : PE X a (tP X.K ca W q)) (hb : PE X b (tP X.K ca W r)) (ok : opdsOk [q, r] = true := by rfl) (of : opdsF [q, r] = true := by rfl) (hm : behindInMarks .LtE b = false := by rfl) : PT X (.Compare a [.LtE] [b] pos) (tT X.K ca W (mT (eOp gLe [q, r]))) := st_cmp cf op_le ok_IB ha hb hm ok of
theorem zt_gt (ha : PE X a (tP X.K ca W q)) (hb : PE X b (tP X.K ca W r)) (ok : opdsOk [q, r] = true := by rfl) (of : opdsF [q, r] = true := by rfl) (hm : behindInMarks .Gt b = false := by rfl) : PT X (.Compare a [.Gt] [b] pos) (tT X.K ca W (mT (eOp gGt [q, r]))) := st_cmp cf op_gt ok_IB ha hb hm ok of
theorem zt_ge (ha : PE X a (tP X.K ca W q)) (hb : PE X b (tP X.K ca W r)) (ok : opdsOk [q, r] = true := by rfl) (of : opdsF [q, r] = true := by rfl) (hm : behindInMarks .GtE b = false := by rfl) : PT X (.Compare a [.GtE] [b] pos) (tT X.K ca W (mT (eOp gGe [q, r]))) := st_cmp cf op_ge ok_IB ha hb hm ok of
theorem zt_is (ha : PE X a (tP X.K ca W q)) (hb : PE X b (tP X.K ca W r)) (ok : opdsOk [q, r] = true := by rfl) (of : opdsF [q, r] = true := by rfl) (hm : behindInMarks .Is b = false := by rfl) : PT X (.Compare a [.Is] [b] pos) (tT X.K ca W (mT (eOp (gIs false) [q, r]))) := st_cmp cf op_is ok_is ha hb hm ok of
theorem zt_isn (ha : PE X a (tP X.K ca W q)) (hb : PE X b (tP X.K ca W r)) (ok : opdsOk [q, r] = true := by rfl) (of : opdsF [q, r] = true := by rfl) (hm : behindInMarks .IsNot b = false := by rfl) : PT X (.Compare a [.IsNot] [b] pos) (tT X.K ca W (mT (eOp (gIs true) [q, r]))) := st_cmp cf op_isnot ok_is ha hb hm ok of
theorem zt_eqD (hr : Room kk X.A) (ha : PE X a (tP X.K ca W q)) (hb : PE X b (tP X.K ca W r)) (ok : opdsOk [q, r] = true := by rfl) (of : opdsF [q, r] = true := by rfl) (hm : behindInMarks .Eq b = false := by rfl) : PT X (.Compare a [.Eq] [b] pos) (tT X.K ca W (mT (eOp gEq [q, r]))) := st_cmp cf (op_eqD hr.units) ok_eq ha hb hm ok of
theorem zt_neD (hr : Room kk X.A) (ha : PE X a (tP X.K ca W q)) (hb : PE X b (tP X.K ca W r)) (ok : opdsOk [q, r] = true := by rfl) (of : opdsF [q, r] = true := by rfl) (hm : behindInMarks .NotEq b = false := by rfl) : PT X (.Compare a [.NotEq] [b] pos) (tT X.K ca W (mT (eOp gNe [q, r]))) := st_cmp cf (op_neD hr.units) ok_ne ha hb hm ok of
theorem zt_inD (hr : Room kk X.A) (ha : PE X a (tP X.K ca W q)) (hb : PE X b (tP X.K ca W r)) (ok : opdsOk [q, r] = true := by rfl) (of : opdsF [q, r] = true := by rfl) (hm : behindInMarks .In b = false := by rfl) : PT X (.Compare a [.In] [b] pos) (tT X.K ca W (mT (eOp (gIn false) [q, r]))) := st_cmp cf (op_in3 (by have := hr.un; omega)) ok_in3 ha hb hm ok of
theorem zt_notInD (hr : Room kk X.A) (ha : PE X a (tP X.K ca W q)) (hb : PE X b (tP X.K ca W r)) (ok : opdsOk [q, r] = true := by rfl) (of : opdsF [q, r] = true := by rfl) (hm : behindInMarks .NotIn b = false := by rfl) : PT X (.Compare a [.NotIn] [b] pos) (tT X.K ca W (mT (eOp (gIn true) [q, r]))) := st_cmp cf (op_notIn3 (by have := hr.un; omega)) ok_notIn3 ha hb hm ok of
theorem zf_len (hm : X.mg "len" = none) (ha : PA X (e :: es) (tPs X.K ca W ps)) (hg : Gl X "len" := by rfl) (ok : opdsOk ps = true := by rfl) (of : opdsF ps = true := by rfl) (he : starEach (e :: es) X.env = (false, eval e X.env) :: starEach es X.env := by rfl) (hpl : (backTo pos (starEach es X.env)).any (·.1) = false := by rfl) : PE X (.Call (.Name "len" p) (e :: es) [] pos) (tE X.K ca W (eOp gLen ps)) :=
  se_callB cf call_len ok_len hg hm boot_len ha ok of (by decide) (by decide) he hpl
theorem zf_sum (hc : X.calm = true) (hm : X.mg "sum" = none) (ha : PA X (e :: es) (tPs X.K ca W ps)) (hg : Gl X "sum" := by rfl) (ok : opdsOk ps = true := by rfl) (of : opdsF ps = true := by rfl) (he : starEach (e :: es) X.env = (false, eval e X.env) :: starEach es X.env := by rfl) (hpl : (backTo pos (starEach es X.env)).any (·.1) = false := by rfl) : PE X (.Call (.Name "sum" p) (e :: es) [] pos) (tE X.K ca W (eOp gSum ps)) :=
  se_callB cf (cr_sum2 hc) ok_sum hg hm (by decide +kernel) ha ok of (by decide) (by decide) he hpl
theorem zf_all (hc : X.calm = true) (hm : X.mg "all" = none) (ha : PA X (e :: es) (tPs X.K ca W ps)) (hg : Gl X "all" := by rfl) (ok : opdsOk ps = true := by rfl) (of : opdsF ps = true := by rfl) (he : starEach (e :: es) X.env = (false, eval e X.env) :: starEach es X.env := by rfl) (hpl : (backTo pos (starEach es X.env)).any (·.1) = false := by rfl) : PE X (.Call (.Name "all" p) (e :: es) [] pos) (tE X.K ca W (eOp gAll ps)) :=
  se_callB cf (cr_all hc) ok_all hg hm (by decide +kernel) ha ok of (by decide) (by decide) he hpl
theorem zf_any (hc : X.calm = true) (hm : X.mg "any" = none) (ha : PA X (e :: es) (tPs X.K ca W ps)) (hg : Gl X "any" := by rfl) (ok : opdsOk ps = true := by rfl) (of : opdsF ps = true := by rfl) (he : starEach (e :: es) X.env = (false, eval e X.env) :: starEach es X.env := by rfl) (hpl : (backTo pos (starEach es X.env)).any (·.1) = false := by rfl) : PE X (.Call (.Name "any" p) (e :: es) [] pos) (tE X.K ca W (eOp gAny ps)) :=
  se_callB cf (cr_any hc) ok_any hg hm (by decide +kernel) ha ok of (by decide) (by decide) he hpl
theorem zf_abs (hm : X.mg "abs" = none) (ha : PA X (e :: es) (tPs X.K ca W ps)) (hg : Gl X "abs" := by rfl) (ok : opdsOk ps = true := by rfl) (of : opdsF ps = true := by rfl) (he : starEach (e :: es) X.env = (false, eval e X.env) :: starEach es X.env := by rfl) (hpl : (backTo pos (starEach es X.env)).any (·.1) = false := by rfl) : PE X (.Call (.Name "abs" p) (e :: es) [] pos) (tE X.K ca W (eOp gAbs ps)) :=
  se_callB cf call_abs ok_abs hg hm (by decide +kernel) ha ok of (by decide) (by decide) he hpl
theorem zf_max (hc : X.calm = true) (hm : X.mg "max" = none) (ha : PA X (e :: es) (tPs X.K ca W ps)) (hg : Gl X "max" := by rfl) (ok : opdsOk ps = true := by rfl) (of : opdsF ps = true := by rfl) (he : starEach (e :: es) X.env = (false, eval e X.env) :: starEach es X.env := by rfl) (hpl : (backTo pos (starEach es X.env)).any (·.1) = false := by rfl) : PE X (.Call (.Name "max" p) (e :: es) [] pos) (tE X.K ca W (eOp gMax ps)) :=
  se_callB cf (call_max2 hc) ok_max2 hg hm (by decide +kernel) ha ok of (by decide) (by decide) he hpl
theorem zf_min (hc : X.calm = true) (hm : X.mg "min" = none) (ha : PA X (e :: es) (tPs X.K ca W ps)) (hg : Gl X "min" := by rfl) (ok : opdsOk ps = true := by rfl) (of : opdsF ps = true := by rfl) (he : starEach (e :: es) X.env = (false, eval e X.env) :: starEach es X.env := by rfl) (hpl : (backTo pos (starEach es X.env)).any (·.1) = false := by rfl) : PE X (.Call (.Name "min" p) (e :: es) [] pos) (tE X.K ca W (eOp gMin ps)) :=
  se_callB cf (call_min2 hc) ok_min2 hg hm (by decide +kernel) ha ok of (by decide) (by decide) he hpl
theorem zf_int (hm : X.mg "int" = none) (ha : PA X (e :: es) (tPs X.K ca W ps)) (hg : Gl X "int" := by rfl) (ok : opdsOk ps = true := by rfl) (of : opdsF ps = true := by rfl) (he : starEach (e :: es) X.env = (false, eval e X.env) :: starEach es X.env := by rfl) (hpl : (backTo pos (starEach es X.env)).any (·.1) = false := by rfl) : PE X (.Call (.Name "int" p) (e :: es) [] pos) (tE X.K ca W (eOp gInt1 ps)) :=
  se_callT cf cr_int1 ok_int1 hg hm (by decide +kernel) ha ok of (by decide) (by decide) he hpl
theorem zf_str (hm : X.mg "str" = none) (ha : PA X (e :: es) (tPs X.K ca W ps)) (hg : Gl X "str" := by rfl) (ok : opdsOk ps = true := by rfl) (of : opdsF ps = true := by rfl) (he : starEach (e :: es) X.env = (false, eval e X.env) :: starEach es X.env := by rfl) (hpl : (backTo pos (starEach es X.env)).any (·.1) = false := by rfl) : PE X (.Call (.Name "str" p) (e :: es) [] pos) (tE X.K ca W (eOp gStr1 ps)) :=
  se_callT cf call_str_int ok_str1 hg hm (by decide +kernel) ha ok of (by decide) (by decide) he hpl
theorem zf_tuple (hm : X.mg "tuple" = none) (ha : PA X (e :: es) (tPs X.K ca W ps)) (hg : Gl X "tuple" := by rfl) (ok : opdsOk ps = true := by rfl) (of : opdsF ps = true := by rfl) (he : starEach (e :: es) X.env = (false, eval e X.env) :: starEach es X.env := by rfl) (hpl : (backTo pos (starEach es X.env)).any (·.1) = false := by rfl) : PE X (.Call (.Name "tuple" p) (e :: es) [] pos) (tE X.K ca W (eOp gTuple ps)) :=
  se_callT cf call_tuple_of ok_tuple hg hm (by decide +kernel) ha ok of (by decide) (by decide) he hpl
theorem zf_list (hm : X.mg "list" = none) (ha : PA X (e :: es) (tPs X.K ca W ps)) (hg : Gl X "list" := by rfl) (ok : opdsOk ps = true := by rfl) (of : opdsF ps = true := by rfl) (he : starEach (e :: es) X.env = (false, eval e X.env) :: starEach es X.env := by rfl) (hpl : (backTo pos (starEach es X.env)).any (·.1) = false := by rfl) : PE X (.Call (.Name "list" p) (e :: es) [] pos) (tE X.K ca W (eOp gListF ps)) :=
  se_callT cf call_list_of new_list.ok hg hm (by decide +kernel) ha ok of (by decide) (by decide) he hpl
theorem zo_list (hm : X.mg "list" = none) (ha : PA X (e :: es) (tPs X.K ca W ps)) (hg : Gl X "list" := by rfl) (ok : opdsOk ps = true := by rfl) (of : opdsF ps = true := by rfl) (he : starEach (e :: es) X.env = (false, eval e X.env) :: starEach es X.env := by rfl) (hpl : (backTo pos (starEach es X.env)).any (·.1) = false := by rfl) : PE X (.Call (.Name "list" p) (e :: es) [] pos) (tO X.K ca W (eOp gListF ps)) :=
  so_callT cf call_list_of new_list hg hm (by decide +kernel) ha ok of (by decide) (by decide) he hpl
end
section
variable {X : Cx} {ca : Ca} {W : WX} {e o : Expr} {es : List Expr} {pos p apos cpos : Pos} {m : E} {ms : List E} {x : Str} {v : V} {d : D}
theorem zc_glob (h : ∃ u, X.mg x = some u ∧ RelV v u) (rep : ∀ F H, Rep X.K ca F H d v) (hg : Gl X x := by rfl) (hd : (x == ("__debug__" : Str)) = false := by decide) : PE X (.Name x pos) (tE X.K ca W (eC d)) := by
  obtain ⟨u, hm, r⟩ := h
  exact se_glob hg hm r rep hd
/-- a module's tuple of texts -/
theorem rep_tupK {K : PySem.W.Frag} {ca : Ca} {x : Str} {zs : List Str} (h : He.tupB K x (zs.map He.Dv.str) = true) : ∀ F H, Rep K ca F H (.tup (zs.map .str)) (.ref (He.ga K x)) := fun F H => by
  unfold Rep
  refine ⟨_, zs.map V.str, rfl, ?_, reps_of_strs⟩
  unfold He.tupB at h
  cases q : K.lookup (He.ga K x) with
  | none => rw [q] at h; cases h
  | some o =>
    obtain ⟨oc, od, dt, osl⟩ := o
    rw [q] at h
    cases oc with
    | type c =>
      cases dt with
      | seq its n =>
        obtain ⟨h1, h2⟩ := He.ba (show (decide (c = "tuple") && (decide (its.size ≤ sizeLine) && He.relAll ((zs.map He.Dv.str).map (He.Dv.v K)) its.toList)) = true from h)
        obtain ⟨h3, h4⟩ := He.ba h2
        refine .inr ⟨_, its, n, q, congrArg Value.type (of_decide_eq_true h1), rfl, of_decide_eq_true h3, ?_⟩
        have := He.relAll_ok h4
        rw [List.map_map] at this
        exact this
      | _ => cases h
    | _ => cases dt <;> cases h
theorem zm_join (ho : PE X o (tE X.K ca W m)) (ha : PA X (e :: es) (tA X.K ca W ms)) (hbase : attributeBase o "join" X.env (eval o X.env) = eval o X.env := by rfl)
    (hfew : ((backTo cpos (starEach (e :: es) X.env)).all (fun x => !x.1) && (backToKw cpos (keywordEach [] X.env)).all (fun x => x.1.isSome)
      && decide ((e :: es).length + ([] : List Keyword).length + (if ([] : List Keyword).isEmpty then 0 else 1) < 30)) = true := by rfl)
    (hline : (apos.endLine == cpos.line) = true := by rfl) (hs : starEach (e :: es) X.env = (false, eval e X.env) :: starEach es X.env := by rfl) (hplain : (backTo cpos (starEach es X.env)).any (·.1) = false := by rfl) :
    PE X (.Call (.Attribute o "join" apos) (e :: es) [] cpos) (tE X.K ca W (eBs gJoin m ms)) := se_bs PySem.F.slot_str_join PySem.F.type_str_join mt_join ok_join ho ha hbase hfew hline hs hplain
theorem zm_find (ho : PE X o (tE X.K ca W m)) (ha : PA X (e :: es) (tA X.K ca W ms)) (hbase : attributeBase o "find" X.env (eval o X.env) = eval o X.env := by rfl)
    (hfew : ((backTo cpos (starEach (e :: es) X.env)).all (fun x => !x.1) && (backToKw cpos (keywordEach [] X.env)).all (fun x => x.1.isSome)
      && decide ((e :: es).length + ([] : List Keyword).length + (if ([] : List Keyword).isEmpty then 0 else 1) < 30)) = true := by rfl)
    (hline : (apos.endLine == cpos.line) = true := by rfl) (hs : starEach (e :: es) X.env = (false, eval e X.env) :: starEach es X.env := by rfl) (hplain : (backTo cpos (starEach es X.env)).any (·.1) = false := by rfl) :
    PE X (.Call (.Attribute o "find" apos) (e :: es) [] cpos) (tE X.K ca W (eBs gFind m ms)) := se_bs PySem.F.slot_str_find PySem.F.type_str_find mt_find ok_find ho ha hbase hfew hline hs hplain
theorem zm_split (ho : PE X o (tE X.K ca W m)) (ha : PA X (e :: es) (tA X.K ca W ms)) (hbase : attributeBase o "split" X.env (eval o X.env) = eval o X.env := by rfl)
    (hfew : ((backTo cpos (starEach (e :: es) X.env)).all (fun x => !x.1) && (backToKw cpos (keywordEach [] X.env)).all (fun x => x.1.isSome)
      && decide ((e :: es).length + ([] : List Keyword).length + (if ([] : List Keyword).isEmpty then 0 else 1) < 30)) = true := by rfl)
    (hline : (apos.endLine == cpos.line) = true := by rfl) (hs : starEach (e :: es) X.env = (false, eval e X.env) :: starEach es X.env := by rfl) (hplain : (backTo cpos (starEach es X.env)).any (·.1) = false := by rfl) :
    PE X (.Call (.Attribute o "split" apos) (e :: es) [] cpos) (tE X.K ca W (eBs gSplitF m ms)) := se_bs PySem.F.slot_str_split PySem.F.type_str_split mt_split new_split.ok ho ha hbase hfew hline hs hplain
end
section
variable {X : Cx} {ca : Ca} {W : WX} {e o : Expr} {es : List Expr} {apos cpos : Pos} {ms : List E} {i : Nat}
theorem zm_append (ho : PE X o (tVar i)) (ha : PA X (e :: es) (tA X.K ca W ms)) (hbase : attributeBase o "append" X.env (eval o X.env) = eval o X.env := by rfl)
    (hfew : ((backTo cpos (starEach (e :: es) X.env)).all (fun x => !x.1) && (backToKw cpos (keywordEach [] X.env)).all (fun x => x.1.isSome)
      && decide ((e :: es).length + ([] : List Keyword).length + (if ([] : List Keyword).isEmpty then 0 else 1) < 30)) = true := by rfl)
    (hline : (apos.endLine == cpos.line) = true := by rfl) (hs : starEach (e :: es) X.env = (false, eval e X.env) :: starEach es X.env := by rfl) (hplain : (backTo cpos (starEach es X.env)).any (·.1) = false := by rfl) :
    PE X (.Call (.Attribute o "append" apos) (e :: es) [] cpos) (tE X.K ca W (eMut gAppend i ms)) := se_mut PySem.F.slot_list_append PySem.F.type_list_append mt_append mo_append ho ha hbase hfew hline hs hplain
theorem zm_extend (ho : PE X o (tVar i)) (ha : PA X (e :: es) (tA X.K ca W ms)) (hbase : attributeBase o "extend" X.env (eval o X.env) = eval o X.env := by rfl)
    (hfew : ((backTo cpos (starEach (e :: es) X.env)).all (fun x => !x.1) && (backToKw cpos (keywordEach [] X.env)).all (fun x => x.1.isSome)
      && decide ((e :: es).length + ([] : List Keyword).length + (if ([] : List Keyword).isEmpty then 0 else 1) < 30)) = true := by rfl)
    (hline : (apos.endLine == cpos.line) = true := by rfl) (hs : starEach (e :: es) X.env = (false, eval e X.env) :: starEach es X.env := by rfl) (hplain : (backTo cpos (starEach es X.env)).any (·.1) = false := by rfl) :
    PE X (.Call (.Attribute o "extend" apos) (e :: es) [] cpos) (tE X.K ca W (eMut gExtend i ms)) := se_mut PySem.F.slot_list_extend PySem.F.type_list_extend mt_extend mo_extend ho ha hbase hfew hline hs hplain
theorem zm_popAt (ho : PE X o (tVar i)) (ha : PA X (e :: es) (tA X.K ca W ms)) (hbase : attributeBase o "pop" X.env (eval o X.env) = eval o X.env := by rfl)
    (hfew : ((backTo cpos (starEach (e :: es) X.env)).all (fun x => !x.1) && (backToKw cpos (keywordEach [] X.env)).all (fun x => x.1.isSome)
      && decide ((e :: es).length + ([] : List Keyword).length + (if ([] : List Keyword).isEmpty then 0 else 1) < 30)) = true := by rfl)
    (hline : (apos.endLine == cpos.line) = true := by rfl) (hs : starEach (e :: es) X.env = (false, eval e X.env) :: starEach es X.env := by rfl) (hplain : (backTo cpos (starEach es X.env)).any (·.1) = false := by rfl) :
    PE X (.Call (.Attribute o "pop" apos) (e :: es) [] cpos) (tE X.K ca W (eMut gPopAt i ms)) := se_mut PySem.F.slot_list_pop PySem.F.type_list_pop mt_popAt mo_popAt ho ha hbase hfew hline hs hplain
theorem zm_pop (ho : PE X o (tVar i)) (hbase : attributeBase o "pop" X.env (eval o X.env) = eval o X.env := by rfl) (hline : (apos.endLine == cpos.line) = true := by rfl) :
    PE X (.Call (.Attribute o "pop" apos) [] [] cpos) (tE X.K ca W (eMut gPop i [])) := se_mut0 PySem.F.slot_list_pop PySem.F.type_list_pop mt_pop mo_pop ho hbase hline
variable {f : Str} {opos : Pos} (cf : Cf X.K ca)
include cf
theorem zm_appendF (hf : owf f = true) (ho : PE X o (tVar i)) (ha : PA X (e :: es) (tA X.K ca W ms)) (hb : attributeBase o f X.env (eval o X.env) = eval o X.env := by rfl)
    (hbase : attributeBase (.Attribute o f opos) "append" X.env (eval (.Attribute o f opos) X.env) = eval (.Attribute o f opos) X.env := by rfl)
    (hfew : ((backTo cpos (starEach (e :: es) X.env)).all (fun x => !x.1) && (backToKw cpos (keywordEach [] X.env)).all (fun x => x.1.isSome)
      && decide ((e :: es).length + ([] : List Keyword).length + (if ([] : List Keyword).isEmpty then 0 else 1) < 30)) = true := by rfl)
    (hline : (apos.endLine == cpos.line) = true := by rfl) (hs : starEach (e :: es) X.env = (false, eval e X.env) :: starEach es X.env := by rfl) (hplain : (backTo cpos (starEach es X.env)).any (·.1) = false := by rfl) :
    PE X (.Call (.Attribute (.Attribute o f opos) "append" apos) (e :: es) [] cpos) (tE X.K ca W (eMutF gAppend i f ms)) := se_mutF cf hf PySem.F.slot_list_append PySem.F.type_list_append mt_append mo_append ho ha hb hbase hfew hline hs hplain
end
section
variable {X : Cx} {ca : Ca} {W : WX} {a b c e : Expr} {pos : Pos} {m : B'}
theorem st_and' {n : B'} {es : List Expr} (h : PT X a (tT X.K ca W m)) (h2 : PW X (.BoolOp .And (b :: es) pos) (tT X.K ca W n)) : PW X (.BoolOp .And (a :: b :: es) pos) (tT X.K ca W (mAnd m n)) := st_and h h2
/-- the running body's exceptions -/
theorem tkX {Pr : Program} {w : World} {K : PySem.W.Frag} {mg : Str → Option Value} {base : Heap} {N : List Str} {q : Str} {sc : Scope} {f : Addr} {cd : Value} {A : Around} {outer : List Env} {s : Shared} {H : Hp} {E : XK} :
    Takes (cxOf (L2.CX Pr w) Pr w K mg base N q sc f cd A outer s H E) (fun cls d _ H => E cls d H) := takes_of rfl rfl rfl rfl
theorem psX {Pr : Program} {w : World} {K : PySem.W.Frag} {mg : Str → Option Value} {base : Heap} {N : List Str} {q : Str} {sc : Scope} {f : Addr} {cd : Value} {A : Around} {outer : List Env} {s : Shared} {H : Hp} {E : XK} :
    PassesOwn (model (cxOf (L2.CX Pr w) Pr w K mg base N q sc f cd A outer s H E).prog (cxOf (L2.CX Pr w) Pr w K mg base N q sc f cd A outer s H E).w) (cxOf (L2.CX Pr w) Pr w K mg base N q sc f cd A outer s H E).A (cxOf (L2.CX Pr w) Pr w K mg base N q sc f cd A outer s H E).env (cxOf (L2.CX Pr w) Pr w K mg base N q sc f cd A outer s H E).xe := passes_of rfl
end
end Ev
namespace Ev
open PySem PySem.Spec PyProof.Rows L2
def lcL2 (vs vs1 : List Nat) (g : Tg) (c : B') (it1 : IE) (g1 : Tg) (c1 : B') (el : E) : List D → Sl → R (List D)
  | [], st => .ok [] st
  | d :: ds, st => match g d st with
    | none => .bad
    | some st1 => (match c st1 with
      | .ok true st2 => (match it1 st2 with
        | .ok items st3 => (match lcL vs1 g1 c1 el items (wipeS vs1 st3) with
          | .ok xs st4 => (lcL2 vs vs1 g c it1 g1 c1 el ds (wipeS vs st4)).bind fun ys st => .ok (xs ++ ys) st
          | _ => .bad)
        | _ => .bad)
      | .ok false st2 => lcL2 vs vs1 g c it1 g1 c1 el ds (wipeS vs st2)
      | _ => .bad)
def eLc2 (vs vs1 : List Nat) (it : IE) (g : Tg) (c : B') (it1 : IE) (g1 : Tg) (c1 : B') (el : E) : E := fun st => (it st).bind fun items st => match frozenAt st vs && decide (st.length ≤ 64) with
  | true => (match lcL2 vs vs1 g c it1 g1 c1 el items (wipeS vs st) with
    | .ok xs st' => if xs.length < sizeLine then .ok (.lst xs) (backS st vs st') else .bad
    | _ => .bad)
  | false => .bad
theorem wipe_wipe {σ : L2.St} {vs vs1 : List Nat} (h : ∀ i ∈ vs1, i ∈ vs) : wipe (wipe σ vs1) vs = wipe σ vs := by
  refine List.ext_getElem? fun j => ?_
  rw [wipe_get, wipe_get, wipe_get]
  by_cases m : j ∈ vs
  · rw [if_pos m, if_pos m]
    by_cases m1 : j ∈ vs1
    · rw [if_pos m1]; cases σ[j]? <;> rfl
    · rw [if_neg m1]
  · rw [if_neg m, if_neg m, if_neg fun q => m (h j q)]
section
variable {K : PySem.W.Frag} {ca : Ca} {F F' : Addr → Prop} {H H' : Hp} {A A' : List Addr}
/-- the turns of a loop that fills the list at D0, which holds done0 already -/
theorem lc_turnsG {J : It} {vs : List Nat} {g : Tg} {c : B'} {el : E} {σ : L2.St} {D0 : Addr} {Nd : Hp → Prop} {items : List D} {F1 : Addr → Prop} {H1 : Hp} {A1 : List Addr} {st1 : Sl} {done0 : List D} {acc0 : List V}
    (lσ : σ.length ≤ 64) (rl1 : Rl K ca F1 H1 st1 (wipe σ vs) A1) (hw1 : st1 = wipeS vs st1) (n1 : ¬ F1 D0) (n2 : D0 ∉ A1) (n3 : H1 D0 = some (.lst acc0)) (rp0 : Reps K ca F1 H1 done0 acc0) (io : ItOk K ca J F1 H1 [] items)
    {xs : List D} {stE : Sl} (he : lcL vs g c el items st1 = .ok xs stE) (hl : (done0 ++ xs).length < sizeLine)
    (fin : ∀ F H A acc, Rl K ca F H stE (wipe σ vs) A → stE = wipeS vs stE → ¬ F D0 → D0 ∉ A → H D0 = some (.lst acc) → Reps K ca F H (done0 ++ xs) acc → Step F1 H1 (D0 :: A1) F H (D0 :: A) → Nd H) :
    ∃ W : Nat → Nat → Hp → Prop, (∃ m, W 0 m H1) ∧ ∀ i m H, W i m H →
      (J.stop i H ∧ Nd H) ∨ (J.go i H ∧ ∃ Nx : Hp → Prop, (∀ H', Nx H' → ∃ m', m' < m ∧ W (i + 1) m' H') ∧ ∀ x H', J.yld i H x H' → tT' K ca (cmpP vs) g x (wipe σ vs) H' fun σ2 H2 => wipe σ2 vs = wipe σ vs ∧ tT K ca W0 c σ2 H2 fun b H3 =>
        if b = true then tE K ca W0 el σ2 H3 fun y H4 => ∃ acc, H4 D0 = some (.lst acc) ∧ acc.length < sizeLine ∧ Nx (upd H4 D0 (.lst (acc ++ [y]))) else Nx H3) := by
  let St : List D → Hp → Prop := fun ds H => ∃ F A st acc done rest, Rl K ca F H st (wipe σ vs) A ∧ st = wipeS vs st ∧ ¬ F D0 ∧ D0 ∉ A ∧ H D0 = some (.lst acc) ∧ Reps K ca F H done acc ∧ Step F1 H1 (D0 :: A1) F H (D0 :: A) ∧ lcL vs g c el ds st = .ok rest stE ∧ done ++ rest = done0 ++ xs
  refine ⟨fun i m H => ∃ ds, items.drop i = ds ∧ m = ds.length ∧ St ds H, ⟨_, items, rfl, rfl, F1, A1, st1, acc0, done0, xs, rl1, hw1, n1, n2, n3, rp0, .refl, he, rfl⟩, ?_⟩
  rintro i m H ⟨ds, hd, rfl, F, A, st, acc, done, rest, rl, hw, nF, nA, hD, rp, s, hr, hx⟩
  have ioH := io F H s.fm (fun a o fa e => by
    refine s.keep a o e fun m => ?_
    rcases fa with fa | fa
    · rcases List.mem_cons.mp m with m | m
      · exact n1 (m ▸ fa)
      · exact (rl1.nf a m).1 fa
    · cases fa) i
  cases ds with
  | nil =>
    have hr : R.ok [] st = R.ok rest stE := hr
    cases hr
    rw [List.append_nil] at hx
    subst hx
    exact .inl ⟨ioH.1 (List.drop_eq_nil_iff.mp hd), fin F H A acc rl hw nF nA hD rp s⟩
  | cons d ds =>
    obtain ⟨hi1, hi2⟩ := drop_get hd
    obtain ⟨go, yl⟩ := ioH.2 d hi1
    refine .inr ⟨go, fun H' => St ds H', fun H' q => ⟨ds.length, Nat.lt_succ_self _, ds, hi2, rfl, q⟩, fun x Hy hy => ?_⟩
    obtain ⟨Fy, al, rpx⟩ := yl x Hy hy
    have rly := al.rl rl
    have hr : (match g d st with
      | none => R.bad
      | some st1 => (match c st1 with
        | .ok true st2 => (match el st2 with
          | .ok x st3 => (lcL vs g c el ds (wipeS vs st3)).bind fun xs st => .ok (x :: xs) st
          | _ => .bad)
        | .ok false st2 => lcL vs g c el ds (wipeS vs st2)
        | _ => .bad)) = .ok rest stE := hr
    cases zg : g d st with
    | none => rw [zg] at hr; cases hr
    | some st2 =>
      simp only [zg] at hr
      refine ⟨Fy, st, A, d, st2, rly, rpx, zg, fun σ2 F2 H2 A2 rl2 s2 p2 => ⟨wipe_pin lσ p2, F2, st2, A2, rl2, ?_⟩⟩
      have hwp := wipe_pin lσ p2
      cases zc : c st2 with
      | bad => simp only [zc] at hr; cases hr
      | exc _ _ _ => simp only [zc] at hr; cases hr
      | ok b st3 =>
        intro F3 H3 A3 rl3 s3
        have s03 : Step F H A F3 H3 A3 := al.step.trans (s2.trans s3)
        have hD3 : H3 D0 = some (.lst acc) := s03.keep D0 _ hD nA
        have nF3 : ¬ F3 D0 := fun q => by
          rcases s03.fnew D0 q with z | z | z
          · exact nF z
          · rw [hD] at z; cases z
          · exact nA z
        have nA3 : D0 ∉ A3 := fun q => by
          rcases s03.anew D0 q with z | z
          · exact nA z
          · rw [hD] at z; cases z
        have rp3 := rp.step s03 rl
        cases b with
        | false =>
          simp only [zc] at hr
          show if false = true then _ else _
          rw [if_neg Bool.false_ne_true]
          obtain ⟨A4, sub, rl4⟩ := rl3.wiped (vs := vs)
          rw [hwp] at rl4
          refine ⟨F3, A4, wipeS vs st3, acc, done, rest, rl4, wipeS_idem, nF3, fun m => nA3 (sub _ m), hD3, rp3, ?_, hr, hx⟩
          have t := pend_step (B1 := [D0]) s s03
          exact ⟨t.fm, t.keep, t.dom, t.fnew, fun y m => by
            rcases List.mem_cons.mp m with m | m
            · exact t.anew y (m ▸ List.mem_cons_self)
            · exact t.anew y (List.mem_cons_of_mem _ (sub y m))⟩
        | true =>
          simp only [zc] at hr
          show if true = true then _ else _
          rw [if_pos rfl]
          cases ze : el st3 with
          | bad => simp only [ze] at hr; cases hr
          | exc _ _ _ => simp only [ze] at hr; cases hr
          | ok y st4 =>
            simp only [ze] at hr
            refine ⟨F3, st3, A3, rl3, ?_⟩
            rw [ze]
            intro v F4 H4 A4 rl4 rp4 s4
            have s04 : Step F H A F4 H4 A4 := s03.trans s4
            have hD4 : H4 D0 = some (.lst acc) := s4.keep D0 _ hD3 nA3
            have nF4 : ¬ F4 D0 := fun q => by
              rcases s4.fnew D0 q with z | z | z
              · exact nF3 z
              · rw [hD3] at z; cases z
              · exact nA3 z
            have nA4 : D0 ∉ A4 := fun q => by
              rcases s4.anew D0 q with z | z
              · exact nA3 z
              · rw [hD3] at z; cases z
            cases zr : lcL vs g c el ds (wipeS vs st4) with
            | bad => simp only [zr, R.bind] at hr; cases hr
            | exc _ _ _ => simp only [zr, R.bind] at hr; cases hr
            | ok r2 st5 =>
              simp only [zr, R.bind] at hr
              cases hr
              have la : acc.length < sizeLine := by
                have e1 := rp.length
                have e2 := congrArg List.length hx
                rw [List.length_append, List.length_cons] at e2
                omega
              obtain ⟨A5, sub, rl5⟩ := rl4.wiped (vs := vs)
              rw [hwp] at rl5
              have rp5 := (rp3.step s4 rl3).append (.cons rp4 .nil)
              have nA5 : D0 ∉ A5 := fun m => nA4 (sub _ m)
              refine ⟨acc, hD4, la, F4, A5, wipeS vs st4, acc ++ [v], done ++ [y], r2, rl5.beside nF4 nA5, wipeS_idem, nF4, nA5, upd_same, rp5.beside nF4, ?_, zr, by rw [List.append_assoc]; exact hx⟩
              have t := pend_step (B1 := [D0]) s s04
              refine ⟨t.fm, fun a o e n => ?_, fun a o e => ?_, t.fnew, fun y m => ?_⟩
              · have na : a ≠ D0 := fun z => n (by rw [z]; exact List.mem_cons_self)
                rw [upd_ne na]
                exact t.keep a o e n
              · by_cases na : a = D0
                · subst na; exact ⟨_, upd_same⟩
                · rw [upd_ne na]; exact t.dom a o e
              · rcases List.mem_cons.mp m with m | m
                · exact t.anew y (m ▸ List.mem_cons_self)
                · exact t.anew y (List.mem_cons_of_mem _ (sub y m))
/-- the outer loop's turns -/
theorem lc2_turns {J : It} {vs vs1 : List Nat} {g : Tg} {c : B'} {it1 : IE} {g1 : Tg} {c1 : B'} {el : E} {σ : L2.St} {D0 : Addr} {Qd : Hp → Prop} {items : List D} {F1 : Addr → Prop} {H1 : Hp} {A1 : List Addr} {st1 : Sl} (hv : ∀ i ∈ vs1, i ∈ vs)
    (lσ : σ.length ≤ 64) (rl1 : Rl K ca F1 H1 st1 (wipe σ vs) A1) (hw1 : st1 = wipeS vs st1) (n1 : ¬ F1 D0) (n2 : D0 ∉ A1) (n3 : H1 D0 = none) (io : ItOk K ca J F1 H1 [] items)
    {xs : List D} {stE : Sl} (he : lcL2 vs vs1 g c it1 g1 c1 el items st1 = .ok xs stE) (hl : xs.length < sizeLine)
    (fin : ∀ F H A acc, Rl K ca F H stE (wipe σ vs) A → stE = wipeS vs stE → ¬ F D0 → D0 ∉ A → H D0 = some (.lst acc) → Reps K ca F H xs acc → Step F1 H1 A1 F H (D0 :: A) → Qd H) :
    ∃ W : Nat → Nat → Hp → Prop, (∃ m, W 0 m (upd H1 D0 (.lst []))) ∧ ∀ i m H, W i m H →
      (J.stop i H ∧ Qd H) ∨ (J.go i H ∧ ∃ Nx : Hp → Prop, (∀ H', Nx H' → ∃ m', m' < m ∧ W (i + 1) m' H') ∧ ∀ x H', J.yld i H x H' → tT' K ca (cmpP vs) g x (wipe σ vs) H' fun σ2 H2 => wipe σ2 vs = wipe σ vs ∧ tT K ca W0 c σ2 H2 fun b H3 =>
        if b = true then tI K ca W0 it1 σ2 H3 fun J1 H4 => ∃ W1 : Nat → Nat → Hp → Prop, (∃ m, W1 0 m H4) ∧ ∀ j k H, W1 j k H →
          (J1.stop j H ∧ Nx H) ∨ (J1.go j H ∧ ∃ Nx1 : Hp → Prop, (∀ H', Nx1 H' → ∃ k', k' < k ∧ W1 (j + 1) k' H') ∧ ∀ x H', J1.yld j H x H' → tT' K ca (cmpP vs1) g1 x (wipe σ2 vs1) H' fun σ3 H5 => wipe σ3 vs1 = wipe σ2 vs1 ∧ tT K ca W0 c1 σ3 H5 fun b H6 =>
            if b = true then tE K ca W0 el σ3 H6 fun y H7 => ∃ acc, H7 D0 = some (.lst acc) ∧ acc.length < sizeLine ∧ Nx1 (upd H7 D0 (.lst (acc ++ [y]))) else Nx1 H6)
        else Nx H3) := by
  let St : List D → Hp → Prop := fun ds H => ∃ F A st acc done rest, Rl K ca F H st (wipe σ vs) A ∧ st = wipeS vs st ∧ ¬ F D0 ∧ D0 ∉ A ∧ H D0 = some (.lst acc) ∧ Reps K ca F H done acc ∧ Step F1 H1 A1 F H (D0 :: A) ∧ lcL2 vs vs1 g c it1 g1 c1 el ds st = .ok rest stE ∧ done ++ rest = xs
  refine ⟨fun i m H => ∃ ds, items.drop i = ds ∧ m = ds.length ∧ St ds H, ⟨_, items, rfl, rfl, F1, A1, st1, [], [], xs, rl1.newO n3, hw1, n1, n2, upd_same, .nil, Step.newO n3, he, rfl⟩, ?_⟩
  rintro i m H ⟨ds, hd, rfl, F, A, st, acc, done, rest, rl, hw, nF, nA, hD, rp, s, hr, hx⟩
  have ioH := io F H s.fm (fun a o fa e => by
    refine s.keep a o e fun m => ?_
    rcases fa with fa | fa
    · exact (rl1.nf a m).1 fa
    · cases fa) i
  cases ds with
  | nil =>
    have hr : R.ok [] st = R.ok rest stE := hr
    cases hr
    rw [List.append_nil] at hx
    subst hx
    exact .inl ⟨ioH.1 (List.drop_eq_nil_iff.mp hd), fin F H A acc rl hw nF nA hD rp s⟩
  | cons d ds =>
    obtain ⟨hi1, hi2⟩ := drop_get hd
    obtain ⟨go, yl⟩ := ioH.2 d hi1
    refine .inr ⟨go, fun H' => St ds H', fun H' q => ⟨ds.length, Nat.lt_succ_self _, ds, hi2, rfl, q⟩, fun x Hy hy => ?_⟩
    obtain ⟨Fy, al, rpx⟩ := yl x Hy hy
    have rly := al.rl rl
    unfold lcL2 at hr
    cases zg : g d st with
    | none => rw [zg] at hr; cases hr
    | some st2 =>
      simp only [zg] at hr
      refine ⟨Fy, st, A, d, st2, rly, rpx, zg, fun σ2 F2 H2 A2 rl2 s2 p2 => ⟨wipe_pin lσ p2, F2, st2, A2, rl2, ?_⟩⟩
      have hwp := wipe_pin lσ p2
      have lσ2 : σ2.length ≤ 64 := by rw [p2.1, wipe_length]; exact lσ
      cases zc : c st2 with
      | bad => simp only [zc] at hr; cases hr
      | exc _ _ _ => simp only [zc] at hr; cases hr
      | ok b st3 =>
        intro F3 H3 A3 rl3 s3
        have s03 : Step F H A F3 H3 A3 := al.step.trans (s2.trans s3)
        have hD3 : H3 D0 = some (.lst acc) := s03.keep D0 _ hD nA
        have nF3 : ¬ F3 D0 := fun q => by
          rcases s03.fnew D0 q with z | z | z
          · exact nF z
          · rw [hD] at z; cases z
          · exact nA z
        have nA3 : D0 ∉ A3 := fun q => by
          rcases s03.anew D0 q with z | z
          · exact nA z
          · rw [hD] at z; cases z
        have rp3 := rp.step s03 rl
        cases b with
        | false =>
          simp only [zc] at hr
          show if false = true then _ else _
          rw [if_neg Bool.false_ne_true]
          obtain ⟨A4, sub, rl4⟩ := rl3.wiped (vs := vs)
          rw [hwp] at rl4
          refine ⟨F3, A4, wipeS vs st3, acc, done, rest, rl4, wipeS_idem, nF3, fun m => nA3 (sub _ m), hD3, rp3, ?_, hr, hx⟩
          have t := pend_step (B1 := [D0]) s s03
          exact ⟨t.fm, t.keep, t.dom, t.fnew, fun y m => by
            rcases List.mem_cons.mp m with m | m
            · exact t.anew y (m ▸ List.mem_cons_self)
            · exact t.anew y (List.mem_cons_of_mem _ (sub y m))⟩
        | true =>
          simp only [zc] at hr
          show if true = true then _ else _
          rw [if_pos rfl]
          refine ⟨F3, st3, A3, rl3, ?_⟩
          cases zi : it1 st3 with
          | bad => simp only [zi] at hr; cases hr
          | exc _ _ _ => simp only [zi] at hr; cases hr
          | ok items1 st4 =>
            simp only [zi] at hr
            intro J1 F4 H4 A4 rl4 io1 s4
            have s04 : Step F H A F4 H4 A4 := s03.trans s4
            have hD4 : H4 D0 = some (.lst acc) := s4.keep D0 _ hD3 nA3
            have nF4 : ¬ F4 D0 := fun q => by
              rcases s4.fnew D0 q with z | z | z
              · exact nF3 z
              · rw [hD3] at z; cases z
              · exact nA3 z
            have nA4 : D0 ∉ A4 := fun q => by
              rcases s4.anew D0 q with z | z
              · exact nA3 z
              · rw [hD3] at z; cases z
            have rp4 := rp3.step s4 rl3
            cases zl : lcL vs1 g1 c1 el items1 (wipeS vs1 st4) with
            | bad => simp only [zl] at hr; cases hr
            | exc _ _ _ => simp only [zl] at hr; cases hr
            | ok xs1 st5 =>
              simp only [zl] at hr
              cases zr : lcL2 vs vs1 g c it1 g1 c1 el ds (wipeS vs st5) with
              | bad => simp only [zr, R.bind] at hr; cases hr
              | exc _ _ _ => simp only [zr, R.bind] at hr; cases hr
              | ok ys st6 =>
                simp only [zr, R.bind] at hr
                cases hr
                obtain ⟨A5, sub, rl5⟩ := rl4.wiped (vs := vs1)
                refine lc_turnsG lσ2 rl5 wipeS_idem nF4 (fun m => nA4 (sub _ m)) hD4 rp4 io1 zl (by
                  have e2 := congrArg List.length hx
                  rw [List.length_append, List.length_append] at e2
                  rw [List.length_append]
                  omega) fun F6 H6 A6 acc6 rl6 hw6 nF6 nA6 hD6 rp6 s6 => ?_
                obtain ⟨A7, sub7, rl7⟩ := rl6.wiped (vs := vs)
                rw [wipe_wipe hv, hwp] at rl7
                refine ⟨F6, A7, wipeS vs st5, acc6, done ++ xs1, ys, rl7, wipeS_idem, nF6, fun m => nA6 (sub7 _ m), hD6, rp6, ?_, zr, by rw [List.append_assoc]; exact hx⟩
                have t := pend_step (B1 := [D0]) s s04
                -- the inner loop's own step
                have s5 : Step F4 H4 (D0 :: A4) F6 H6 (D0 :: A7) := by
                  have q : Step F4 H4 (D0 :: A4) F4 H4 (D0 :: A5) := Step.sub fun a m => by
                    rcases List.mem_cons.mp m with m | m
                    · exact m ▸ List.mem_cons_self
                    · exact List.mem_cons_of_mem _ (sub a m)
                  exact (q.trans s6).trans (Step.sub fun a m => by
                    rcases List.mem_cons.mp m with m | m
                    · exact m ▸ List.mem_cons_self
                    · exact List.mem_cons_of_mem _ (sub7 a m))
                exact Step.trans t s5
end
section
variable {X : Cx} {ca : Ca} {W : WX} {elt tg iter tg1 iter1 : Expr} {ifs ifs1 : List Expr} {scope : Scope} {own : List (Str × Nat)} {vs1 : List Nat} {pos : Pos} {it it1 : IE} {g g1 : Tg} {c c1 : B'} {el : E}
theorem lc2_run {σ : L2.St} {H : Hp} {Q : VK} {vs : List Nat} (hv : ∀ i ∈ vs1, i ∈ vs) (h : tO X.K ca W (eLc2 vs vs1 it g c it1 g1 c1 el) σ H Q) : tLc2 (tI X.K ca W it) (tT' X.K ca (cmpP vs) g) (tT X.K ca W0 c) (tI X.K ca W0 it1) (tT' X.K ca (cmpP vs1) g1) (tT X.K ca W0 c1) (tE X.K ca W0 el) vs vs1 σ H Q := by
  obtain ⟨F, st, A, rl, q⟩ := tO_iff.mp h
  refine ⟨F, st, A, rl, ?_⟩
  unfold eLc2 at q
  cases z : it st with
  | bad => rw [z] at q; exact q
  | exc c x s => rw [z] at q; exact q
  | ok items st1 =>
    rw [z] at q
    simp only [R.bind] at q
    intro J F1 H1 A1 rl1 io s1 D0 n3
    cases zf : frozenAt st1 vs && decide (st1.length ≤ 64) with
    | false => simp only [zf] at q; exact q.elim
    | true =>
      simp only [zf] at q
      obtain ⟨z1, z2⟩ := Bool.and_eq_true_iff.mp zf
      cases zl : lcL2 vs vs1 g c it1 g1 c1 el items (wipeS vs st1) with
      | bad => simp only [zl] at q; exact q.elim
      | exc cx x s => simp only [zl] at q; exact q.elim
      | ok xs stE =>
        simp only [zl] at q
        by_cases hl : xs.length < sizeLine
        · rw [if_pos hl] at q
          have lσ : σ.length ≤ 64 := by rw [rl1.len]; exact of_decide_eq_true z2
          obtain ⟨A2, sub, rl2⟩ := rl1.wiped (vs := vs)
          obtain ⟨n1, n2⟩ := rl1.fresh n3
          refine lc2_turns hv lσ rl2 wipeS_idem n1 (fun m => n2 (sub _ m)) n3 io zl hl fun F3 H3 A3 acc rl3 hw nF nA hD rp s => ?_
          rw [hw] at rl3
          have kF : ∀ a o, F1 a → H1 a = some o → H3 a = some o := fun a o fa e => s.keep a o e fun m => (rl2.nf a m).1 fa
          have r4 := Rl.backs rl1 z1 s.fm kF rl3
          rw [← hw] at r4
          have s2 : Step F1 H1 A1 F3 H3 ([D0] ++ A3) := (Step.sub sub).trans s
          exact q (.ref D0) F3 H3 A3 [D0] r4 ⟨D0, acc, rfl, rfl, nF, hD, rp⟩ (List.nodup_cons.mpr ⟨nA, rl3.nd⟩) (s1.trans s2)
        · rw [if_neg hl] at q; exact q.elim
theorem so_lc2 (hc : X.calm = true) (hN : X.N.Nodup) (hi : PI X tg iter (tI X.K ca W it)) (ok : BlkOk X.N X.env.scope scope own) (hv : ∀ i ∈ vs1, i ∈ own.map (·.2))
    (hg : ∀ (s : Shared) (H : Hp) (C : Addr) (cl : List (Str × Addr)) (fp : List Addr), PG (X.blk s H scope (compEnvC scope cl C X.env) fp) tg (tT' X.K ca (cmpP (own.map (·.2))) g))
    (ht : ∀ (s : Shared) (H : Hp) (C : Addr) (cl : List (Str × Addr)) (fp : List Addr), PTs (X.blk s H scope (compEnvC scope cl C X.env) fp) ifs (tT X.K ca W0 c))
    (hi1 : ∀ (s : Shared) (H : Hp) (C : Addr) (cl : List (Str × Addr)) (fp : List Addr), PI (X.blk s H scope (compEnvC scope cl C X.env) fp) tg1 iter1 (tI X.K ca W0 it1))
    (hg1 : ∀ (s : Shared) (H : Hp) (C : Addr) (cl : List (Str × Addr)) (fp : List Addr), PG (X.blk s H scope (compEnvC scope cl C X.env) fp) tg1 (tT' X.K ca (cmpP vs1) g1))
    (ht1 : ∀ (s : Shared) (H : Hp) (C : Addr) (cl : List (Str × Addr)) (fp : List Addr), PTs (X.blk s H scope (compEnvC scope cl C X.env) fp) ifs1 (tT X.K ca W0 c1))
    (he : ∀ (s : Shared) (H : Hp) (C : Addr) (cl : List (Str × Addr)) (fp : List Addr), PE (X.blk s H scope (compEnvC scope cl C X.env) fp) elt (tE X.K ca W0 el)) (hs : ∀ x, foldedSetIterable iter X.env x = pure x := by intro _; rfl) (hs1 : ∀ env x, foldedSetIterable iter1 env x = pure x := by intro _ _; rfl) :
    PE X (.ListComp elt [⟨tg, iter, ifs, 0⟩, ⟨tg1, iter1, ifs1, 0⟩] scope pos) (tO X.K ca W (eLc2 (own.map (·.2)) vs1 it g c it1 g1 c1 el)) := PE.imp (pe_lc2 hc hN hi ok hv hg ht hi1 hg1 ht1 he hs hs1) fun σ H Q h => lc2_run hv h
end
end Ev
namespace Ev
open PySem PySem.Spec PyProof.Rows L2
theorem neg1 {X : Cx} {j : Nat} {p1 p2 : Pos} : PE X (.UnaryOp .USub (.Constant (.int 1) j p1) p2) (tC (.int (-1))) := PE.imp (pe_un un_neg pe_int) fun σ H Q h => ⟨1, rfl, h⟩
section
variable (Pr : Program) (w : World) (K : PySem.W.Frag) (mg : Str → Option Value) (base : Heap) (ca : Ca)
/-- a method whose last parameter has the default None -/
structure MetD (k : Nat) (c m : Str) (ps : List Str) (mf : MF) : Prop where
  ok : ∃ fd ds, FnOk Pr w K mg base (L2.CX Pr w) k (He.ma K (ca.a c) m) fd ps (spE K ca mf) ∧ Vals [V.non] ds ∧ Binds K fd ps ds
  me : Meth K (ca.a c) m (He.ma K (ca.a c) m)
  cl : Cls K (ca.a c)
  no : ∀ ns, ca.ok c ns → m ∉ ns
end
section
variable {X : Cx} {ca : Ca} {W : WX} {k kk : Nat} {c m : Str} {mf : MF} {pn : List Str} {p pos apos : Pos} {e o : Expr} {es : List Expr} {g : Arg} {ps : List Arg}
theorem zc_methD {pl : Sem Bool} (h : MetD X.prog X.w X.K X.mg X.base ca k c m pn mf) (hr : Room kk X.A) (tk : Takes X W) (he : PE X o (tG X.K ca W g)) (ha : PA X (e :: es) (tGs X.K ca W ps)) (hk : k ≤ kk := by decide)
    (hst : starEach (e :: es) X.env = (false, eval e X.env) :: starEach es X.env := by rfl) (hpl : (backTo pos (starEach es X.env)).any (·.1) = false := by rfl)
    (ht : eval (.Call (.Attribute o m apos) (e :: es) [] pos) X.env = (do
      let ov ← eval o X.env
      standAt apos.atName
      let (f, first) ← holding [ov] (getMethod ov m pl)
      callWith pos f first (backTo pos (starEach (e :: es) X.env)) (backToKw pos (keywordEach [] X.env))) := by rfl) :
    PE X (.Call (.Attribute o m apos) (e :: es) [] pos) (tE X.K ca W (eMeth c (mfD mf [.f .non]) g ps)) := by
  obtain ⟨fd, ds, F, r, b⟩ := h.ok
  exact se_methD dflt_non h.cl h.no he h.me F (hr.mono hk) b r tk ha hst hpl ht
end
section
variable (Pr : Program) (w : World) (K : PySem.W.Frag) (mg : Str → Option Value) (base : Heap) (ca : Ca)
/-- a def whose answer is new -/
structure CalO (k : Nat) (x : Str) (ps : List Str) (mf : MF) : Prop where
  ok : ∃ fd, FnOk Pr w K mg base (L2.CX Pr w) k (He.ga K x) fd ps (spO K ca mf) ∧ Binds K fd ps []
  gl : mg x = some (.ref (He.ga K x))
  kp : PySem.W.keepIn K (.ref (He.ga K x)) = true
end
section
variable {X : Cx} {ca : Ca} {W : WX} {k kk : Nat} {x : Str} {mf : MF} {pn : List Str} {p pos : Pos} {e : Expr} {es : List Expr} {ps : List Arg}
theorem zo_call (h : CalO X.prog X.w X.K X.mg X.base ca k x pn mf) (hr : Room kk X.A) (tk : Takes X W) (ha : PA X (e :: es) (tGs X.K ca W ps)) (hk : k ≤ kk := by decide) (hg : Gl X x := by rfl) (hdb : (x == ("__debug__" : Str)) = false := by decide) (he : starEach (e :: es) X.env = (false, eval e X.env) :: starEach es X.env := by rfl) (hpl : (backTo pos (starEach es X.env)).any (·.1) = false := by rfl) :
    PE X (.Call (.Name x p) (e :: es) [] pos) (tO X.K ca W (eCall mf ps)) := by
  obtain ⟨fd, F, b⟩ := h.ok
  exact so_call F (hr.mono hk) hg h.gl h.kp b tk ha hdb he hpl
end
/-- all classes, all fields -/
def cfB (K : PySem.W.Frag) (cs fs : List Str) : Bool := cs.all fun c => (He.Fa.cls c).ok K && fs.all fun f => (He.Fa.noat c f).ok K
theorem cf_of {K : PySem.W.Frag} {cs fs : List Str} (h : cfB K cs fs = true) : Cf K (caOf K cs fs) := by
  refine ⟨fun c ns m => ?_, fun c ns m f mf => ?_⟩
  · exact He.cls_ok (He.ba (List.all_eq_true.mp h c m.1)).1
  · exact He.noat_ok (List.all_eq_true.mp (He.ba (List.all_eq_true.mp h c m.1)).2 f (m.2 f mf))
theorem differ_ok {K : PySem.W.Frag} {x y : Str} (h : (Zf.differ x y).ok K = true) : He.ga K x ≠ He.ga K y := by
  have h2 : (!decide (He.ga K x = He.ga K y)) = true := h
  simpa using h2
theorem cf_cls {K : PySem.W.Frag} {cs fs : List Str} (h : cfB K cs fs = true) {c : Str} (m : c ∈ cs) : Cls K (He.ga K c) := He.cls_ok (He.ba (List.all_eq_true.mp h c m)).1
end Ev
namespace Ev
open PySem PySem.Spec PyProof.Rows L2
theorem start_law {K : PySem.W.Frag} {ca : Ca} {mf : MF} {ns : List Int} {H : Hp} {a : Addr} {E : XK} (p : ∃ cs', mf [.f (.scr ns)] = .ok (.bl true) cs') (hS : SqL K H a (ns.map V.int)) : spE K ca mf [.ref a] H (fun v _ => v = .bl true) E := by
  obtain ⟨cs', e⟩ := p
  have rep : Rep K ca (fun b => b = a ∧ ∃ o, H b = some o) H (.scr ns) (.ref a) := by
    unfold Rep
    refine ⟨a, rfl, ?_⟩
    rcases hS with h | h
    · refine .inl ⟨⟨rfl, ?_⟩, h⟩
      rcases h with h | ⟨o, h⟩
      · exact ⟨_, h⟩
      · exact ⟨_, h⟩
    · exact .inr h
  refine spF (ds := [.scr ns]) (d := .bl true) (fun b h => h.2) (.cons rep .nil) ?_ fun v F' H' al rv => ?_
  · show (match mf [.f (.scr ns)] with | .ok d _ => some d | _ => none) = _
    rw [e]
  · unfold Rep at rv; exact rv
def eLr (m : E) : E := fun st => (m st).bind fun d st => match d with
  | .int j => (match inR j && decide (j ≤ 2 ^ 24) with
    | true => .ok (.lst (rangeD 0 j.toNat)) st
    | false => .bad)
  | _ => .bad
section
variable {X : Cx} {ca : Ca} {W : WX} {e tg : Expr} {p pos p2 pos2 : Pos} {m : E}
theorem reps_range {K : PySem.W.Frag} {F : Addr → Prop} {H : Hp} {ca : Ca} (f : Nat → Int) : ∀ l : List Nat, Reps K ca F H (l.map fun i => .int (f i)) (l.map fun i => V.int (f i))
  | [] => .nil
  | i :: l => .cons rep_int (reps_range f l)
theorem so_lr (hc : X.calm = true) (hgl : Gl X "list") (hml : X.mg "list" = none) (hg : Gl X "range") (hm : X.mg "range" = none) (h : PE X e (tE X.K ca W m)) (na : starEach [e] X.env = (false, eval e X.env) :: starEach [] X.env := by rfl)
    (na2 : starEach [.Call (.Name "range" p) [e] [] pos] X.env = (false, eval (.Call (.Name "range" p) [e] [] pos) X.env) :: starEach [] X.env := by rfl) : PE X (.Call (.Name "list" p2) [.Call (.Name "range" p) [e] [] pos] [] pos2) (tO X.K ca W (eLr m)) :=
  PE.imp (pe_listRg hc hgl hml (prg_1 hg hm h na) na2) fun σ H Q h => by
    obtain ⟨F, st, A, rl, q⟩ := tO_iff.mp h
    refine ⟨F, st, A, rl, ?_⟩
    unfold eLr at q
    cases z : m st with
    | bad => rw [z] at q; exact q
    | exc c x s => rw [z] at q; exact q
    | ok d st1 =>
      rw [z] at q
      simp only [R.bind] at q
      intro v F1 H1 A1 rl1 rp s1
      cases d with
      | int j =>
        unfold Rep at rp
        subst rp
        cases zr : inR j && decide (j ≤ 2 ^ 24) with
        | false => simp only [zr] at q; exact q.elim
        | true =>
          simp only [zr] at q
          obtain ⟨z1, z2⟩ := Bool.and_eq_true_iff.mp zr
          obtain ⟨z3, z4⟩ := Bool.and_eq_true_iff.mp z1
          have z2 := of_decide_eq_true z2
          refine ⟨j, rfl, ⟨by decide, by decide, of_decide_eq_true z3, of_decide_eq_true z4, by omega⟩, fun p n => ?_⟩
          obtain ⟨n1, n2⟩ := rl1.fresh n
          refine q (.ref p) F1 _ A1 [p] (rl1.newO n) ⟨p, _, rfl, rfl, n1, upd_same, ?_⟩ (List.nodup_cons.mpr ⟨n2, rl1.nd⟩) (s1.trans (Step.newO n))
          unfold rangeD rgV
          rw [Int.sub_zero]
          exact reps_range _ _
      | _ => exact q.elim
theorem si_rev (hgr : Gl X "reversed") (hmr : X.mg "reversed" = none) (hg : Gl X "range") (hm : X.mg "range" = none) (h : PE X e (tE X.K ca W m)) (na : starEach [e] X.env = (false, eval e X.env) :: starEach [] X.env := by rfl)
    (na2 : starEach [.Call (.Name "range" p) [e] [] pos] X.env = (false, eval (.Call (.Name "range" p) [e] [] pos) X.env) :: starEach [] X.env := by rfl) : PI X tg (.Call (.Name "reversed" p2) [.Call (.Name "range" p) [e] [] pos] [] pos2) (tI X.K ca W (itRv1 m)) :=
  PI.imp (pi_revR hgr hmr (prg_1 hg hm h na) na2) fun σ H Rr q => tI_e (k := fun d st => match d with
    | .int j => (match inR j with
      | true => .ok (rangeD 0 j.toNat).reverse st
      | false => .bad)
    | _ => .bad) q fun d v F H st A rl rp _ q => by
    cases d with
    | int j =>
      unfold Rep at rp
      subst rp
      cases z : inR j with
      | false => simp only [z] at q
      | true =>
        simp only [z] at q
        obtain ⟨z1, z2⟩ := Bool.and_eq_true_iff.mp z
        refine ⟨j, rfl, by decide, by decide, of_decide_eq_true z1, of_decide_eq_true z2, ?_⟩
        rw [Int.sub_zero]
        exact q _ F H A rl itc_ok .refl
    | _ => exact q.elim
end
end Ev
namespace Ev
open PySem PySem.Spec PyProof.Rows L2
def obsLG (as : List Addr) (fa : List Zf) (fn : List DefZ) (g : Addr → Option Obj) : AlZ := obsZ fa fn (He.frG g as)
def hookL (as : List Addr) (fa : List Zf) (fn : List DefZ) : PySem.W.Hook where
  α := AlZ
  obs := fun s => obsLG as fa fn s.heap.get?
  val := fun _ => valZ fn
  says := fun _ h => ∃ K : PySem.W.Frag, K.In h ∧ SaysZ fa fn K
  of := fun _ _ e => ⟨_, He.frG_in, e⟩
  keeps := fun _ _ _ ⟨K, hK, c⟩ k => ⟨K, PySem.W.Frag.In.keeps hK k, c⟩
theorem obsLG_eq {as : List Addr} {fa : List Zf} {fn : List DefZ} {g : Addr → Option Obj} {s : Shared} (h : ∀ a, g a = s.heap.get? a) : obsLG as fa fn g = (hookL as fa fn).obs s := by
  have e : g = s.heap.get? := funext h
  rw [e] <;> rfl
theorem map3 {α A B C : Type} {o : Option α} {f : α → A} {g : α → B} {h : α → C} {a : A} {b : B} {c : C} (h1 : o.map f = some a) (h2 : o.map g = some b) (h3 : o.map h = some c) : o.map (fun s => (f s, g s, h s)) = some (a, b, c) := by
  cases o with
  | none => cases h1
  | some s =>
    rw [Option.map_some] at h1 h2 h3 ⊢
    rw [Option.some.inj h1, Option.some.inj h2, Option.some.inj h3]
end Ev
namespace Ev
open PySem PySem.Spec PyProof.Rows L2
def sTry (body : S) (c : Str) (h : S) : S := fun st => match body st with
  | .exc c' x st' => (match c' == c with
    | true => h st'
    | false => .bad)
  | r => r
section
variable {X : Cx} {ca : Ca} {P : List Nat} {ro : Bool} {W : WX} {b h : S} {x c : Str} {body suite : List Stmt} {b₀ : Stmt} {np pos pos' : Pos}
theorem ss_try (hs : X.stack = X.env :: X.outer) (hf : X.env.frame = some X.env.locals) (hc : Names X x (.ref (ca.a c))) (tk : Takes X W) (hex : PySem.W.exmOne X.K (.ref (ca.a c)) (.ref (ca.a c)) = some true)
    (hb : ∀ (W' : WX) (pn : List (Addr × Obj)) (xe : Value → Shared → Prop), Takes (X.tr pn xe) W' → PassesOwn (model X.prog X.w) X.A X.env xe → PSs (X.tr pn xe) body (tS X.K ca P ro W' b))
    (hsu : ∀ (a : Addr) (oe : Obj) (cls : Value) (d : Option Addr) (pn : List (Addr × Obj)), Zc cls d oe → (∃ vs, oe.data = .fields vs) → PSs (X.suite a ((a, oe) :: pn)) (b₀ :: suite) (tS X.K ca P ro W h)) :
    PS X (.Try body [.ExceptHandler (some (.Name x np)) none (b₀ :: suite) pos'] [] [] pos) (tS X.K ca P ro W (sTry b c h)) :=
  PS.imp (ps_try_only (tb := fun W' => tS X.K ca P ro W' b) (ts := fun _ _ _ => tS X.K ca P ro W h) hs hf hc tk hb hsu) fun D σ H ⟨F, st, A, rl, q⟩ => by
    refine ⟨F, st, A, rl, ?_⟩
    unfold sTry at q
    cases z : b st with
    | bad => rw [z] at q; exact q
    | ok f st' =>
      rw [z] at q
      cases f with
      | nx => exact q
      | bk => exact q
      | ct => exact q
      | rt d => cases ro <;> exact q
    | exc c' y st' =>
      rw [z] at q
      simp only at q
      cases e : c' == c with
      | false => rw [e] at q; exact q.elim
      | true =>
        rw [e] at q
        have ec : c' = c := by simpa using e
        subst ec
        intro cls oe σ' F' H' A' r xi s p
        obtain ⟨rfl, _⟩ := xi
        exact ⟨true, hex, fun _ a na => ⟨F', st', A', r, q.step s p⟩, fun e => nomatch e⟩
end
end Ev
namespace Ev
open PySem PySem.Spec PyProof.Rows L2
/-- C(index): what its own __init__ keeps -/
def spIx (K : PySem.W.Frag) (f : Str) : L2.Sp := fun vs H Q E => ∃ (a C : Addr) (v : V), vs = [.ref a, v] ∧ OexC K C ∧ PySem.W.findIn K (.ref C) f = some none ∧ H a = some (exo a C none) ∧
  ∀ dx, H dx = none → dx ≠ a → Q .non (upd (upd H dx (exd dx [(f, v)])) a (exo a C (some dx)))
section
variable {Pr : Program} {w : World} {K : PySem.W.Frag} {mg : Str → Option Value} {base : Heap} {x qual f : Str} {st : Stmt} {fI : Addr} {fd : FuncData} {N ps : List Str} {k : Nat}
theorem fnIx (F : FunD K x qual (defArgs st) (defBody st) (defScope st) [] [] fI fd) (S : FnScope N ps (defScope st)) (h2 : ps.length = 2)
    (body : ∀ (cdv : Value) (A : Around) (outer : List Env) (s : Shared) (H : Hp) (E : XK), Room k (A.deeper (envOfC qual (defScope st) s.heap.objs.size fI cdv)) →
      PSs (cxOf (L2.CX Pr w) Pr w K mg base N qual (defScope st) fI cdv A outer s H E) (defBody st) (tOst K f (tVar 0) (tVar 1))) :
    FnOk Pr w K mg base (L2.CX Pr w) (k + 1) fI fd ps (spIx K f) := by
  refine F.ok S (fun vs H Q E h => ?_) fun cdv A outer s H vs Q E hr h => ⟨_, body cdv A outer s H E hr, ?_⟩
  · obtain ⟨a, C, v, rfl, _⟩ := h
    exact h2.symm
  · obtain ⟨a, C, v, rfl, T, hno, ha, q⟩ := h
    refine ⟨v, by unfold L2.start; rfl, .ref a, by unfold L2.start; rfl, a, C, rfl, T, hno, .inl ⟨ha, fun dx n ne => q dx n ne⟩⟩
end
/-- raise C(m) -/
def sRaiseX (c : Str) (m : E) : S := fun st => (m st).bind fun d st => .exc c (some d) st
section
variable {X : Cx} {ca : Ca} {P : List Nat} {ro : Bool} {W : WX} {m : E} {e : Expr} {x c : Str} {p pos pos2 : Pos} {fI : Addr} {fd : FuncData} {k : Nat}
theorem ss_raiseX (hc : X.calm = true) (tk : Takes X W) (T : OexC X.K (ca.a c)) (hno : PySem.W.findIn X.K (.ref (ca.a c)) "index" = some none) (iC : PySem.W.findIn X.K (.ref (ca.a c)) "__init__" = some (some (.ref fI))) (tI : PySem.W.typeIn X.K (.ref fI) = some (.type "function"))
    (F1 : FnOk X.prog X.w X.K X.mg X.base (L2.CX X.prog X.w) k fI fd ["self", "index"] (spIx X.K "index")) (hr : Room (k + 1) X.A) (hb : Binds X.K fd ["self", "index"] []) (hx : Passes (L2.CX X.prog X.w) X (fun _ _ _ => False)) (hg : Gl X x) (hm : X.mg x = some (.ref (ca.a c))) (he : PE X e (tE X.K ca W m))
    (hdb : (x == ("__debug__" : Str)) = false := by decide) (hs : starEach [e] X.env = (false, eval e X.env) :: starEach [] X.env := by rfl) (hpl : (backTo pos (starEach [] X.env)).any (·.1) = false := by rfl) :
    PS X (.Raise (some (.Call (.Name x p) [e] [] pos)) none pos2) (tS X.K ca P ro W (sRaiseX c m)) :=
  PS.imp (ps_raise hc tk (pmk_oex T iC tI F1 hr hb .nil hx hg hm (pa_cons he pa_nil hs) hdb hs hpl)) fun Z σ H ⟨F, st, A, rl, q⟩ => by
    refine ⟨F, st, A, rl, ?_⟩
    unfold sRaiseX at q
    cases z : m st with
    | bad => rw [z] at q; exact q
    | exc c' y s' =>
      rw [z] at q
      exact fun cls oe F' H' A' r xi s => q cls oe σ F' H' A' r xi s .refl
    | ok d st1 =>
      rw [z] at q
      simp only [R.bind] at q
      intro v F' H' A' r rp s
      refine ⟨by simp, fun a na => ⟨a, ca.a c, v, rfl, T, hno, upd_same, fun dx n ne => ⟨rfl, dx, [("index", v)], upd_same, ?_, ?_, ?_⟩⟩⟩
      · rw [upd_ne ne]; exact upd_same
      · rw [upd_ne ne] at n; exact n
      · have hd : H' dx = none := by rw [upd_ne ne] at n; exact n
        have eh : upd (del (upd (upd (upd H' a (exo a (ca.a c) none)) dx (exd dx [("index", v)])) a (exo a (ca.a c) (some dx))) a) dx (.xd [("index", v)]) = upd H' dx (.xd [("index", v)]) := by
          funext b
          by_cases hb : b = dx
          · subst hb; rw [upd_same, upd_same]
          · rw [upd_ne hb, upd_ne hb]
            by_cases ha : b = a
            · subst ha; rw [del_same, na]
            · rw [del_ne ha, upd_ne ha, upd_ne hb, upd_ne ha]
        rw [eh]
        have r2 : Rl X.K ca F' (upd H' dx (.xd [("index", v)])) st1 σ A' := r.newO hd
        refine q (.ref (ca.a c)) (some dx) σ F' (upd H' dx (.xd [("index", v)])) A' r2 ⟨rfl, fun d' ed => ?_⟩ (s.trans ((Step.newO hd).trans (Step.sub fun b mb => List.mem_cons_of_mem _ mb))) .refl
        cases ed
        exact ⟨dx, v, rfl, upd_same, Rep.mono (fun _ h => h) (fun b o _ e => by rw [upd_ne (ne_of_none e hd)]; exact e) _ _ rp⟩
end
end Ev
namespace Ev
open PySem PySem.Spec PyProof.Rows L2
theorem oexB_ok {K : PySem.W.Frag} {C : Addr} (h : oexB K C = true) : ∃ nm q N bs bm sn sub ab col dd k0 k1 k2 k3 k5, K.lookup C = some (excClassObj nm q C N bs bm true sn sub ab col dd k0 k1 k2 k3 k5 "ValueError.__new__") ∧ PySem.HandSPX.refsVE bm = true := by
  unfold oexB at h
  split at h
  · rename_i T dd nm bs C' bm N q hd sn sub ab col hdel sl hk
    split at h
    · rename_i k0 k1 k2 k3 n k5 hs
      obtain ⟨h1, h⟩ := He.ba h
      obtain ⟨h2, h⟩ := He.ba h
      obtain ⟨h3, h⟩ := He.ba h
      obtain ⟨h4, h⟩ := He.ba h
      obtain ⟨h5, h6⟩ := He.ba h
      have e1 : T = "type" := by simpa using h1
      have e2 : C' = C := by simpa using h2
      have e3 : n = "ValueError.__new__" := by simpa using h3
      have e5 : hdel = false := by simpa using h5
      have e4 : hd = true := h4
      have es : sl = #[k0, k1, k2, k3, some (.builtin n), k5] := by
        apply Array.ext'
        simpa using hs
      subst e1 e2 e3 e4 e5 es
      exact ⟨nm, q, N, bs, bm, sn, sub, ab, col, dd, k0, k1, k2, k3, k5, hk, h6⟩
    · cases h
  · cases h
structure OexAll (K : PySem.W.Frag) (C : Addr) : Prop where
  T : OexC K C
  no : PySem.W.findIn K (.ref C) "index" = some none
  iC : PySem.W.findIn K (.ref C) "__init__" = some (some (.ref (He.ma K C "__init__")))
  tI : PySem.W.typeIn K (.ref (He.ma K C "__init__")) = some (.type "function")
  ex : PySem.W.exmOne K (.ref C) (.ref C) = some true
theorem oex_ok {K : PySem.W.Frag} {x : Str} (h : (Zf.oex x).ok K = true) : OexAll K (He.ga K x) := by
  have h : (oexB K (He.ga K x) && (He.eqO (PySem.W.findIn K (.ref (He.ga K x)) "__setattr__") (some (some (.builtin "object.__setattr__"))) && (decide (PySem.W.subIn K (.ref (He.ga K x)) (.type "BaseException") = some true) && (decide (PySem.W.typeIn K (.ref (He.ga K x)) = some (.type "type")) &&
      (PySem.W.keepIn K (.ref (He.ga K x)) && (He.eqO (PySem.W.findIn K (.ref (He.ga K x)) "index") (some none) && (He.eqO (PySem.W.findIn K (.ref (He.ga K x)) "__init__") (some (some (.ref (He.ma K (He.ga K x) "__init__")))) &&
      (decide (PySem.W.typeIn K (.ref (He.ma K (He.ga K x) "__init__")) = some (.type "function")) && decide (PySem.W.exmOne K (.ref (He.ga K x)) (.ref (He.ga K x)) = some true))))))))) = true := h
  obtain ⟨h1, h⟩ := He.ba h
  obtain ⟨h2, h⟩ := He.ba h
  obtain ⟨h3, h⟩ := He.ba h
  obtain ⟨h4, h⟩ := He.ba h
  obtain ⟨h5, h⟩ := He.ba h
  obtain ⟨h6, h⟩ := He.ba h
  obtain ⟨h7, h⟩ := He.ba h
  obtain ⟨h8, h9⟩ := He.ba h
  exact ⟨⟨oexB_ok h1, He.eqO_ok h2, of_decide_eq_true h3, of_decide_eq_true h4, h5⟩, He.eqO_ok h6, He.eqO_ok h7, of_decide_eq_true h8, of_decide_eq_true h9⟩
/-- raise c(..) -/
structure Rai (Pr : Program) (w : World) (K : PySem.W.Frag) (mg : Str → Option Value) (base : Heap) (ca : Ca) (k : Nat) (c : Str) : Prop where
  all : OexAll K (ca.a c)
  gl : mg c = some (.ref (ca.a c))
  ok : ∃ fd, FnOk Pr w K mg base (L2.CX Pr w) k (He.ma K (ca.a c) "__init__") fd ["self", "index"] (spIx K "index") ∧ Binds K fd ["self", "index"] []
section
variable {X : Cx} {ca : Ca} {P : List Nat} {ro : Bool} {W : WX} {m : E} {e : Expr} {c : Str} {p pos pos2 : Pos} {k kk : Nat}
theorem zr_raise (h : Rai X.prog X.w X.K X.mg X.base ca k c) (hr : Room kk X.A) (tk : Takes X W) (he : PE X e (tE X.K ca W m)) (hk : k + 1 ≤ kk := by decide) (hc : X.calm = true := by rfl) (hg : Gl X c := by rfl)
    (hdb : (c == ("__debug__" : Str)) = false := by decide) (hs : starEach [e] X.env = (false, eval e X.env) :: starEach [] X.env := by rfl) (hpl : (backTo pos (starEach [] X.env)).any (·.1) = false := by rfl) :
    PS X (.Raise (some (.Call (.Name c p) [e] [] pos)) none pos2) (tS X.K ca P ro W (sRaiseX c m)) := by
  obtain ⟨fd, F, b⟩ := h.ok
  exact ss_raiseX hc tk h.all.T h.all.no h.all.iC h.all.tI F (hr.mono hk) b (fun _ _ _ _ e s' I cx => tk e s' (XE.of_call I (fun _ _ _ z => z.elim) cx)) hg h.gl he hdb hs hpl
variable {b h : S} {body suite : List Stmt} {b₀ : Stmt} {np pos' : Pos}
theorem zr_try (r : Rai X.prog X.w X.K X.mg X.base ca k c) (tk : Takes X W)
    (hb : ∀ (W' : WX) (pn : List (Addr × Obj)) (xe : Value → Shared → Prop), Takes (X.tr pn xe) W' → PassesOwn (model X.prog X.w) X.A X.env xe → PSs (X.tr pn xe) body (tS X.K ca P ro W' b))
    (hsu : ∀ (a : Addr) (oe : Obj) (cls : Value) (d : Option Addr) (pn : List (Addr × Obj)), Zc cls d oe → (∃ vs, oe.data = .fields vs) → PSs (X.suite a ((a, oe) :: pn)) (b₀ :: suite) (tS X.K ca P ro W h))
    (hs : X.stack = X.env :: X.outer := by rfl) (hf : X.env.frame = some X.env.locals := by rfl) (hg : Gl X c := by rfl) (hdb : (c == ("__debug__" : Str)) = false := by decide) :
    PS X (.Try body [.ExceptHandler (some (.Name c np)) none (b₀ :: suite) pos'] [] [] pos) (tS X.K ca P ro W (sTry b c h)) :=
  ss_try hs hf ⟨hg, hdb, .inl r.gl⟩ tk r.all.ex hb hsu
end
end Ev
namespace Ev
open PySem PySem.Spec PyProof.Rows L2
inductive Itm where
  | one (m : E) | star (m : E)
def kStar (d : D) (r : R (List D)) : R (List D) := match d with
  | .lst xs => r.bind fun ds st => .ok (xs ++ ds) st
  | .tup xs => r.bind fun ds st => .ok (xs ++ ds) st
  | _ => .bad
def evIt : List Itm → Sl → R (List D)
  | [], st => .ok [] st
  | .one m :: is, st => (m st).bind fun d st => (evIt is st).bind fun ds st => .ok (d :: ds) st
  | .star m :: is, st => (m st).bind fun d st => kStar d (evIt is st)
def eLstI (is : List Itm) : E := fun st => (evIt is st).bind fun ds st => if ds.length ≤ 1000 then .ok (.lst ds) st else .bad
section
variable (K : PySem.W.Frag) (ca : Ca) (W : WX)
def tAI (is : List Itm) : TA := fun σ H Q => ∃ F st A, Rl K ca F H st σ A ∧ match evIt is st with
  | .ok ds st' => ∀ vs F' H' A', Rl K ca F' H' st' σ A' → Reps K ca F' H' ds vs → Step F H A F' H' A' → Q vs H'
  | .exc c x st' => XcW K ca W F H A σ c x st'
  | .bad => False
end
section
variable {X : Cx} {ca : Ca} {W : WX} {e : Expr} {es : List Expr} {p pos : Pos} {m : E} {is : List Itm}
theorem sai_nil : PA X [] (tAI X.K ca W []) := PA.imp pa_nil fun σ H Q ⟨F, st, A, rl, q⟩ => q [] F H A rl .nil .refl
theorem sai_one (h : PE X e (tE X.K ca W m)) (t : PA X es (tAI X.K ca W is)) (hs : starEach (e :: es) X.env = (false, eval e X.env) :: starEach es X.env := by rfl) : PA X (e :: es) (tAI X.K ca W (.one m :: is)) :=
  PA.imp (pa_cons h t hs) fun σ H Q ⟨F, st, A, rl, q⟩ => by
    refine ⟨F, st, A, rl, ?_⟩
    unfold evIt at q
    cases z : m st with
    | bad => rw [z] at q; exact q
    | exc c x s => rw [z] at q; exact q
    | ok d st1 =>
      rw [z] at q
      simp only [R.bind] at q
      intro v F1 H1 A1 rl1 rep s1
      refine ⟨F1, st1, A1, rl1, ?_⟩
      cases z2 : evIt is st1 with
      | bad => rw [z2] at q; exact q
      | exc c x s => rw [z2] at q; exact fun cls oe F' H' A' r xi s2 => q cls oe F' H' A' r xi (s1.trans s2)
      | ok ds st2 =>
        rw [z2] at q
        simp only at q
        intro vs F2 H2 A2 rl2 rp2 s2
        exact q (v :: vs) F2 H2 A2 rl2 (.cons (rep.step s2 rl1) rp2) (s1.trans s2)
theorem sai_star (h : PE X e (tE X.K ca W m)) (t : PA X es (tAI X.K ca W is)) (hs : starEach (.Starred e p :: es) X.env = (true, eval e X.env) :: starEach es X.env := by rfl) : PA X (.Starred e p :: es) (tAI X.K ca W (.star m :: is)) :=
  PA.imp (StX.pa_star h t hs) fun σ H Q ⟨F, st, A, rl, q⟩ => by
    refine ⟨F, st, A, rl, ?_⟩
    unfold evIt at q
    cases z : m st with
    | bad => rw [z] at q; exact q
    | exc c x s => rw [z] at q; exact q
    | ok d st1 =>
      rw [z] at q
      simp only [R.bind] at q
      intro v F1 H1 A1 rl1 rep s1
      have fin : ∀ (xs : List D) (ws : List V), Reps X.K ca F1 H1 xs ws → (match (evIt is st1).bind fun ds st => R.ok (xs ++ ds) st with
          | .ok ds st' => ∀ vs F' H' A', Rl X.K ca F' H' st' σ A' → Reps X.K ca F' H' ds vs → Step F H A F' H' A' → Q vs H'
          | .exc c x st' => XcW X.K ca W F H A σ c x st'
          | .bad => False) → tAI X.K ca W is σ H1 fun ys H2 => Q (ws ++ ys) H2 := fun xs ws rw' q => by
        refine ⟨F1, st1, A1, rl1, ?_⟩
        cases z2 : evIt is st1 with
        | bad => rw [z2] at q; exact q
        | exc c x s => rw [z2] at q; exact fun cls oe F' H' A' r xi s2 => q cls oe F' H' A' r xi (s1.trans s2)
        | ok ds st2 =>
          rw [z2] at q
          simp only [R.bind] at q
          intro vs F2 H2 A2 rl2 rp2 s2
          exact q (ws ++ vs) F2 H2 A2 rl2 (.append (Reps.mono s2.fm (s2.kf rl1) _ _ rw') rp2) (s1.trans s2)
      cases d with
      | lst xs =>
        unfold Rep at rep
        obtain ⟨a, ws, rfl, hq, rs⟩ := rep
        exact ⟨a, ws, rfl, .inr hq.sq, fin xs ws rs q⟩
      | tup xs =>
        unfold Rep at rep
        obtain ⟨a, ws, rfl, hq, rs⟩ := rep
        exact ⟨a, ws, rfl, .inl hq.sq, fin xs ws rs q⟩
      | _ => exact q.elim
theorem so_lstI (h : PA X es (tAI X.K ca W is)) : PE X (.List es pos) (tO X.K ca W (eLstI is)) := PE.imp (pe_lst h) fun σ H Q ⟨F, st, A, rl, q⟩ => by
  refine ⟨F, st, A, rl, ?_⟩
  unfold eLstI at q
  cases z : evIt is st with
  | bad => rw [z] at q; exact q
  | exc c x s => rw [z] at q; exact q
  | ok ds st1 =>
    rw [z] at q
    simp only [R.bind] at q
    intro vs F1 H1 A1 rl1 rep s1
    by_cases hl : ds.length ≤ 1000
    · rw [if_pos hl] at q
      refine ⟨by rw [rep.length]; exact Nat.le_of_lt (small1000 hl), fun p n => ?_⟩
      obtain ⟨n1, n2⟩ := rl1.fresh n
      exact q (.ref p) F1 _ A1 [p] (rl1.newO n) ⟨p, vs, rfl, rfl, n1, upd_same, Reps.mono (fun _ z => z) (fun a o _ e => by rw [upd_ne (ne_of_none e n)]; exact e) _ _ rep⟩ (List.nodup_cons.mpr ⟨n2, rl1.nd⟩) (s1.trans (Step.newO n))
    · rw [if_neg hl] at q; exact q.elim
end
def gRevL : List D → Option (List D)
  | [.lst ds] => some ds.reverse
  | [.scr ds] => some (ds.map .int).reverse
  | _ => none
def gRevF : List D → Option D := fun ds => (gRevL ds).map .lst
section
variable {X : Cx} {ca : Ca} {W : WX} (cf : Cf X.K ca) {pd : Opd} {e : Expr} {p2 pos : Pos}
include cf in
theorem so_rev {k : Nat} {p1 p3 : Pos} (he : PE X e (tP X.K ca W pd)) (ok : opdsOk [pd] = true := by rfl) (of : opdsF [pd] = true := by rfl) :
    PE X (.Subscript e (.Slice none none (some (.UnaryOp .USub (.Constant (.int 1) k p1) p2)) p3) pos) (tO X.K ca W (eOp gRevF [pd])) := PE.imp (pe_revL he) fun σ H Q h =>
  eOp_runO (g := gRevL) (r := fun xs H Q => match xs with
    | [x] => ∃ a ys, x = .ref a ∧ SqL X.K H a ys ∧ ∀ p, H p = none → Q (.ref p) (upd H p (.lst ys.reverse))
    | _ => False) cf (fun F H ds es xs Q vw e q => by
    unfold gRevL at e
    split at e
    · cases e
      obtain ⟨x, rfl, a, vs, rfl, h, r⟩ := vw.inv1
      exact ⟨a, vs, rfl, .of h, fun p n => q p _ n r.reverse⟩
    · cases e
      obtain ⟨x, rfl, w⟩ := vw.inv1
      obtain ⟨a, vs, rfl, h, r⟩ := w.sq rfl
      exact ⟨a, vs, rfl, h, fun p n => q p _ n r.reverse⟩
    · cases e) ok of h
end
end Ev
namespace K81
open PySem PySem.Spec PyProof.Rows L2 Ev
def b_p_is_integer : S :=
  (sRet (eAnd (eOp (gIsi "int") [(.v 0)]) (eNot (eOp (gIsi "bool") [(.v 0)]))))
def f_p_is_integer : MF := runF 1 1 [] b_p_is_integer
def b_p_is_column : S :=
  (sSeq (sIf (mOr (mNot (mTru (.e (eOp (gIsi "tuple") [(.v 0)])))) (mT (eOp gNe [(.e (eOp gLen [(.v 0)])), (.v 2)]))) (sRet (eC (.bl false))) sNil)
  (sRet (eOp gAll [(.e (eFr (eLc [3] (itE (eV 0)) (tgN 3) mYes (eAnd (eCall f_p_is_integer [(.e (eV 3))]) (eChn gLe gLt (eC (.int 0)) (eV 3) (eV 1))))))])))
def f_p_is_column : MF := runF 4 3 [] b_p_is_column
def b_m_Sheet_zinitz : S :=
  (sSeq (sIf (mOr (mNot (mTru (.e (eCall f_p_is_integer [(.e (eV 1))])))) (mNot (mT (eChn gLe gLe (eC (.int 2)) (eV 1) (eC (.int 12)))))) sNever sNil)
  (sSeq (sIf (mOr (mNot (mTru (.e (eCall f_p_is_integer [(.e (eV 2))])))) (mNot (mT (eChn gLe gLe (eC (.int 1)) (eV 2) (eC (.int 4)))))) sNever sNil)
  (sSeq (sIf (mOr (mNot (mTru (.e (eOp (gIsi "list") [(.v 3)])))) (mNot (mTru (.e (eOp gAll [(.e (eFr (eLc [4] (itE (eV 3)) (tgN 4) mYes (eCall f_p_is_column [(.e (eV 4)), (.e (eV 1)), (.e (eV 2))]))))]))))) sNever sNil)
  (sSeq (sAsg (eV 1) (tgF 0 "held_base"))
  (sSeq (sAsg (eV 2) (tgF 0 "held_rows"))
  (sSeq (sAsg (eOp gListF [(.v 3)]) (tgF 0 "held_columns"))
  (sAsg (eOp gLen [(.v 3)]) (tgF 0 "size"))))))))
def f_m_Sheet_zinitz : MF := runF 5 4 [0] b_m_Sheet_zinitz
def b_m_Written_zeqz : S :=
  (sSeq (sIf (mNot (mTru (.e (eOpF (gIsC "Written") [(eV 1)])))) (sRet (eC (.bl false))) sNil)
  (sRet (eOp gEq [(.e (eTup [(eFld "held_base" (.v 0)), (eFld "held_figures" (.v 0)), (eFld "held_last" (.v 0))])), (.e (eTup [(eFld "held_base" (.v 1)), (eFld "held_figures" (.v 1)), (eFld "held_last" (.v 1))]))])))
def f_m_Written_zeqz : MF := runF 2 2 [] b_m_Written_zeqz
def b_m_Written_zinitz : S :=
  (sSeq (sAsg (eV 1) (tgF 0 "held_base"))
  (sSeq (sAsg (eOp gListF [(.v 2)]) (tgF 0 "held_figures"))
  (sAsg (eV 3) (tgF 0 "held_last"))))
def f_m_Written_zinitz : MF := runF 4 4 [0] b_m_Written_zinitz
def b_m_Sheet_value : S :=
  (sSeq (sSet 1 (eC (.int 0)))
  (sSeq (sFor (itE (eOp gRev [(.e (eFld "held_columns" (.v 0)))])) (tgN 2) (sSet 1 (eOp gAdd [(.e (eOp gMul [(.v 1), (.e (eFld "held_base" (.v 0)))])), (.e (eOp gSum [(.v 2)]))])))
  (sRet (eV 1))))
def f_m_Sheet_value : MF := runF 3 1 [] b_m_Sheet_value
def b_m_Written_value : S :=
  (sSeq (sSet 1 (eFld "held_last" (.v 0)))
  (sSeq (sFor (itE (eOp gRev [(.e (eFld "held_figures" (.v 0)))])) (tgN 2) (sSet 1 (eOp gAdd [(.e (eOp gMul [(.v 1), (.e (eFld "held_base" (.v 0)))])), (.v 2)])))
  (sRet (eV 1))))
def f_m_Written_value : MF := runF 3 1 [] b_m_Written_value
def b_m_Written_zsubz : S :=
  (sRet (eOp gSub [(.e (eProp "Written" f_m_Written_value (.e (eV 0)))), (.e (eProp "Sheet" f_m_Sheet_value (.e (eV 1))))]))
def f_m_Written_zsubz : MF := runF 2 2 [] b_m_Written_zsubz
def b_m_Written_last : S :=
  (sRet (eFld "held_last" (.v 0)))
def f_m_Written_last : MF := runF 1 1 [] b_m_Written_last
def b_p__law_bag : S :=
  (sSeq (sSet 2 (eIf (mT (eOp gLt [(.v 1), (.e (eOp gLen [(.v 0)]))])) (eOp gIx [(.v 0), (.v 1)]) (eC (.int 0))))
  (sSeq (sSet 3 (eOp gAdd [(.e (eOp gMul [(.e (eC (.int 2))), (.e (eOp gAbs [(.v 2)]))])), (.e (eOp gInt1 [(.e (eOp gLt [(.v 2), (.e (eC (.int 0)))]))]))]))
  (sRet (eLst [(eOp gMax [(.e (eC (.int 0))), (.e (eOp gSub [(.v 2), (.e (eOp gPow [(.e (eC (.int 10))), (.e (eC (.int 18)))]))]))]), (eOp gAdd [(.e (eOp gMul [(.e (eOp gMod [(.e (eOp gInt1 [(.v 3)])), (.e (eOp gAdd [(.e (eOp gPow [(.e (eC (.int 10))), (.e (eC (.int 39)))])), (.e (eC (.int 3)))]))])), (.e (eC (.int 64)))])), (.e (eOp gMod [(.e (eOp gInt1 [(.v 1)])), (.e (eC (.int 64)))]))]), (eC (.int 0))]))))
def f_p__law_bag : MF := runO 4 2 [] b_p__law_bag
def b_m_Sheet_zlenz : S :=
  (sRet (eOp gLen [(.e (eFld "held_columns" (.v 0)))]))
def f_m_Sheet_zlenz : MF := runF 1 1 [] b_m_Sheet_zlenz
def b_m_Sheet_base : S :=
  (sRet (eFld "held_base" (.v 0)))
def f_m_Sheet_base : MF := runF 1 1 [] b_m_Sheet_base
def b_m_Sheet_cut : S :=
  (sRet (eFr (eMake "Sheet" f_m_Sheet_zinitz [(.e (eFld "held_base" (.v 0))), (.e (eFld "held_rows" (.v 0))), (.e (eSl gSl (eFld "held_columns" (.v 0)) (some (eV 1)) (some (eV 2))))])))
def f_m_Sheet_cut : MF := runF 3 3 [] b_m_Sheet_cut
def b_m_Written_figures : S :=
  (sRet (eOp gListF [(.e (eFld "held_figures" (.v 0)))]))
def f_m_Written_figures : MF := runF 1 1 [] b_m_Written_figures
def b_p__law_power : S :=
  (sSeq (sSet 2 (eC (.int 1)))
  (sSeq (sFor (itR1 (eV 1)) (tgN 3) (sSet 2 (eOp gMul [(.v 2), (.v 0)])))
  (sRet (eV 2))))
def f_p__law_power : MF := runF 4 2 [] b_p__law_power
def b_m_Sheet_columns : S :=
  (sRet (eOp gListF [(.e (eFld "held_columns" (.v 0)))]))
def f_m_Sheet_columns : MF := runF 1 1 [] b_m_Sheet_columns
def b_m_Sheet_rows : S :=
  (sRet (eFld "held_rows" (.v 0)))
def f_m_Sheet_rows : MF := runF 1 1 [] b_m_Sheet_rows
def b_p__law_with_carry : S :=
  (sSeq (sSet 2 (eOp gAdd [(.e (eLst [(eOp gAdd [(.e (eOp gIx [(.e (eProp "Sheet" f_m_Sheet_columns (.e (eV 0)))), (.e (eC (.int 0)))])), (.e (eTup [(eV 1)]))])])), (.e (eFr (eLc [3] (itE (eSl gSl (eProp "Sheet" f_m_Sheet_columns (.e (eV 0))) (some (eC (.int 1))) none)) (tgN 3) mYes (eOp gAdd [(.v 3), (.e (eTup [(eC (.int 0))]))]))))]))
  (sRet (eFr (eMake "Sheet" f_m_Sheet_zinitz [(.e (eProp "Sheet" f_m_Sheet_base (.e (eV 0)))), (.e (eOp gAdd [(.e (eProp "Sheet" f_m_Sheet_rows (.e (eV 0)))), (.e (eC (.int 1)))])), (.e (eV 2))]))))
def f_p__law_with_carry : MF := runF 4 2 [] b_p__law_with_carry
def b_m_Adding_zinitz : S :=
  (sSeq (sAsg (eProp "Sheet" f_m_Sheet_base (.e (eV 1))) (tgF 0 "system"))
  (sSeq (sAsg (eProp "Sheet" f_m_Sheet_columns (.e (eV 1))) (tgF 0 "given"))
  (sSeq (sAsg (eC (.int 0)) (tgF 0 "at"))
  (sSeq (sAsg (eLst []) (tgF 0 "written"))
  (sSeq (sAsg (eC (.int 0)) (tgF 0 "carry"))
  (sAsg (eC .non) (tgF 0 "waiting")))))))
def f_m_Adding_zinitz : MF := runF 2 2 [0] b_m_Adding_zinitz
def b_p_taken : S :=
  (sSeq (sIf (mOr (mT (eOp (gIs false) [(.v 3), (.e (eC .non))])) (mT (eOp (gIn true) [(.e (eOp gIx [(.v 3), (.e (eC (.int 0)))])), (.e (eTup [(eC (.str "read")), (eC (.str "copy"))]))]))) (sRet (eV 1)) sNil)
  (sSeq (sSetO 4 (eOp gListF [(.v 1)]))
  (sSeq (sSet 5 (eOp gIx [(.v 3), (.e (eC (.int 1)))]))
  (sSeq (sIf (mT (eOp gEq [(.e (eOp gIx [(.v 3), (.e (eC (.int 0)))])), (.e (eC (.str "read")))])) (sItem 4 (eOp gMod [(.e (eOp gAdd [(.e (eOp gIx [(.v 4), (.v 5)])), (.e (eOp gIx [(.v 3), (.e (eC (.int 2)))]))])), (.v 0)]) (eV 5)) (sItem 4 (eOp gIx [(.v 2), (.v 5)]) (eV 5)))
  (sRet (eOp gTuple [(.v 4)]))))))
def f_p_taken : MF := runF 6 4 [] b_p_taken
def b_p_done : S :=
  (sSeq (sSet 5 (eC .non))
  (sSeq (sIf (mT (eOp (gIs true) [(.v 4), (.e (eC .non))])) (sSet 5 (eOp gIx [(.v 4), (.e (eC (.int 0)))])) sNil)
  (sSeq (sIf (mT (eOp gEq [(.v 5), (.e (eC (.str "out")))])) (sRet (eTup [(eLst []), (eV 3)])) sNil)
  (sSeq (sIf (mAnd (mT (eOp gEq [(.v 5), (.e (eC (.str "copy")))])) (mT (eOp (gIs false) [(.v 2), (.e (eC .non))]))) (sRet (eC .non)) sNil)
  (sSeq (sSet 6 (eOp gAdd [(.e (eOp gSum [(.e (eCall f_p_taken [(.e (eV 0)), (.e (eV 1)), (.e (eV 2)), (.e (eV 4))]))])), (.v 3)]))
  (sSeq (sSet 7 (eOp gMod [(.v 6), (.v 0)]))
  (sSeq (sSet 8 (eOp gFdiv [(.v 6), (.v 0)]))
  (sSeq (sIf (mT (eOp gEq [(.v 5), (.e (eC (.str "forget")))])) (sSeq (sIf (mT (eOp gEq [(.v 8), (.e (eC (.int 0)))])) (sRet (eC .non)) sNil)
  (sRet (eTup [(eLst [(eV 7)]), (eC (.int 0))]))) sNil)
  (sSeq (sIf (mT (eOp gEq [(.v 5), (.e (eC (.str "again")))])) (sRet (eTup [(eLst [(eV 7)]), (eOp gAdd [(.v 8), (.e (eC (.int 1)))])])) sNil)
  (sSeq (sIf (mT (eOp gEq [(.v 5), (.e (eC (.str "off")))])) (sRet (eTup [(eLst [(eOp gMod [(.e (eOp gAdd [(.v 7), (.e (eOp gIx [(.v 4), (.e (eC (.int 1)))]))])), (.v 0)])]), (eV 8)])) sNil)
  (sSeq (sIf (mT (eOp gEq [(.v 5), (.e (eC (.str "twice")))])) (sSeq (sSet 6 (eOp gAdd [(.e (eOp gSum [(.v 1)])), (.v 8)]))
  (sRet (eTup [(eLst [(eV 7), (eOp gMod [(.v 6), (.v 0)])]), (eOp gFdiv [(.v 6), (.v 0)])]))) sNil)
  (sRet (eTup [(eLst [(eV 7)]), (eV 8)])))))))))))))
def f_p_done : MF := runF 9 5 [] b_p_done
def b_m_Adding_do : S :=
  (sSeq (sSet 2 (eC .non))
  (sSeq (sIf (mT (eOp gGt [(.e (eFld "at" (.v 0))), (.e (eC (.int 0)))])) (sSet 2 (eOp gIx [(.e (eFld "given" (.v 0))), (.e (eOp gSub [(.e (eFld "at" (.v 0))), (.e (eC (.int 1)))]))])) sNil)
  (sSeq (sIf (mAnd (mT (eOp gEq [(.v 1), (.e (eTup [(eC (.str "swap"))]))])) (mT (eOp gEq [(.e (eOp gAdd [(.e (eFld "at" (.v 0))), (.e (eC (.int 1)))])), (.e (eOp gLen [(.e (eFld "given" (.v 0)))]))]))) (sRet (eC (.bl false))) sNil)
  (sSeq (sSet 3 (eCall f_p_done [(.e (eFld "system" (.v 0))), (.e (eOp gIx [(.e (eFld "given" (.v 0))), (.e (eFld "at" (.v 0)))])), (.e (eV 2)), (.e (eFld "carry" (.v 0))), (.e (eV 1))]))
  (sSeq (sIf (mT (eOp (gIs false) [(.v 3), (.e (eC .non))])) (sRet (eC (.bl false))) sNil)
  (sSeq (sAsg (eV 3) (tgT [(tgN 4), (tgF 0 "carry")]))
  (sSeq (sInc 0 "at" 1)
  (sSeq (sIf (mT (eOp (gIs true) [(.e (eFld "waiting" (.v 0))), (.e (eC .non))])) (sSeq (sSet 4 (eOp gAdd [(.v 4), (.e (eLst [(eFld "waiting" (.v 0))]))]))
  (sAsg (eC .non) (tgF 0 "waiting"))) (sIf (mT (eOp gEq [(.v 1), (.e (eTup [(eC (.str "swap"))]))])) (sSeq (sAsg (eOp gIx [(.v 4), (.e (eC (.int 0)))]) (tgF 0 "waiting"))
  (sSet 4 (eLst []))) sNil))
  (sSeq (sAsg (eOp gAdd [(.e (eFld "written" (.v 0))), (.v 4)]) (tgF 0 "written"))
  (sRet (eC (.bl true))))))))))))
def f_m_Adding_do : MF := runF 5 2 [0] b_m_Adding_do
def b_m_Adding_do_until : S :=
  (whL (mT (eOp gLt [(.e (eFld "at" (.v 0))), (.v 1)])) (sDrop (eMeth "Adding" f_m_Adding_do (.mu 0) [(.e (eC .non))])) 16384)
def f_m_Adding_do_until : MF := runF 2 2 [0] b_m_Adding_do_until
def b_m_Adding_free : S :=
  (sSeq (sIf (mT (eOp (gIs false) [(.e (eFld "waiting" (.v 0))), (.e (eC .non))])) (sRet (eFld "at" (.v 0))) sNil)
  (sRet (eOp gAdd [(.e (eFld "at" (.v 0))), (.e (eC (.int 1)))])))
def f_m_Adding_free : MF := runF 1 1 [0] b_m_Adding_free
def b_m_Adding_result : S :=
  (sSeq (sDrop (eMeth "Adding" f_m_Adding_do_until (.mu 0) [(.e (eOp gLen [(.e (eFld "given" (.v 0)))]))]))
  (sRet (eFr (eMake "Written" f_m_Written_zinitz [(.e (eFld "system" (.v 0))), (.e (eFld "written" (.v 0))), (.e (eFld "carry" (.v 0)))]))))
def f_m_Adding_result : MF := runF 1 1 [0] b_m_Adding_result
def b_p_is_deed : S :=
  (sSeq (sIf (mOr (mNot (mTru (.e (eOp (gIsi "tuple") [(.v 0)])))) (mOr (mT (eOp gEq [(.e (eOp gLen [(.v 0)])), (.e (eC (.int 0)))])) (mNot (mTru (.e (eOp (gIsi "str") [(.e (eOp gIx [(.v 0), (.e (eC (.int 0)))]))])))))) (sRet (eC (.bl false))) sNil)
  (sSeq (sIf (mNot (mTru (.e (eOp gAll [(.e (eFr (eLc [4] (itE (eSl gSl (eV 0) (some (eC (.int 1))) none)) (tgN 4) mYes (eCall f_p_is_integer [(.e (eV 4))]))))])))) (sRet (eC (.bl false))) sNil)
  (sSeq (sSet 3 (eOp gIx [(.v 0), (.e (eC (.int 0)))]))
  (sSeq (sIf (mT (eOp (gIn false) [(.v 3), (.e (eC (.tup ((["forget", "again", "swap", "out", "twice"] : List PySem.Str).map .str))))])) (sRet (eOp gEq [(.e (eOp gLen [(.v 0)])), (.e (eC (.int 1)))])) sNil)
  (sSeq (sIf (mT (eOp gEq [(.v 3), (.e (eC (.str "off")))])) (sRet (eAnd (eOp gEq [(.e (eOp gLen [(.v 0)])), (.e (eC (.int 2)))]) (eChn gLe gLt (eC (.int 1)) (eOp gIx [(.v 0), (.e (eC (.int 1)))]) (eV 1)))) sNil)
  (sSeq (sIf (mT (eOp gEq [(.v 3), (.e (eC (.str "copy")))])) (sRet (eAnd (eOp gEq [(.e (eOp gLen [(.v 0)])), (.e (eC (.int 2)))]) (eChn gLe gLt (eC (.int 0)) (eOp gIx [(.v 0), (.e (eC (.int 1)))]) (eV 2)))) sNil)
  (sRet (eAnd (eOp gEq [(.v 3), (.e (eC (.str "read")))]) (eAnd (eOp gEq [(.e (eOp gLen [(.v 0)])), (.e (eC (.int 3)))]) (eAnd (eChn gLe gLt (eC (.int 0)) (eOp gIx [(.v 0), (.e (eC (.int 1)))]) (eV 2)) (eChn gLe gLt (eC (.int 1)) (eOp gIx [(.v 0), (.e (eC (.int 2)))]) (eV 1))))))))))))
def f_p_is_deed : MF := runF 5 3 [] b_p_is_deed
def b_p_is_slip : S :=
  (sSeq (sIf (mOr (mNot (mTru (.e (eOp (gIsi "tuple") [(.v 0)])))) (mOr (mT (eOp gNe [(.e (eOp gLen [(.v 0)])), (.e (eC (.int 2)))])) (mNot (mTru (.e (eCall f_p_is_integer [(.e (eOp gIx [(.v 0), (.e (eC (.int 0)))]))])))))) (sRet (eC (.bl false))) sNil)
  (sRet (eAnd (eChn gLe gLt (eV 2) (eOp gIx [(.v 0), (.e (eC (.int 0)))]) (eOpF (gLenO "Sheet" f_m_Sheet_zlenz) [(eV 1)])) (eCall f_p_is_deed [(.e (eOp gIx [(.v 0), (.e (eC (.int 1)))])), (.e (eProp "Sheet" f_m_Sheet_base (.e (eV 1)))), (.e (eProp "Sheet" f_m_Sheet_rows (.e (eV 1))))]))))
def f_p_is_slip : MF := runF 3 3 [] b_p_is_slip
def b_p_add_with : S :=
  (sSeq (sSetO 2 (eMake "Adding" f_m_Adding_zinitz [(.e (eV 0))]))
  (sSeq (sFor (itEn (eV 1)) (tgT [(tgN 3), (tgN 4)]) (sSeq (sIf (mNot (mTru (.e (eCall f_p_is_slip [(.e (eV 4)), (.e (eV 0)), (.e (eMeth "Adding" f_m_Adding_free (.mu 2) []))])))) (sRaiseX "InvalidSlips" (eV 3)) sNil)
  (sSeq (sDrop (eMeth "Adding" f_m_Adding_do_until (.mu 2) [(.e (eOp gIx [(.v 4), (.e (eC (.int 0)))]))]))
  (sIf (mNot (mTru (.e (eMeth "Adding" f_m_Adding_do (.mu 2) [(.e (eOp gIx [(.v 4), (.e (eC (.int 1)))]))])))) (sRaiseX "InvalidSlips" (eV 3)) sNil))))
  (sRet (eMeth "Adding" f_m_Adding_result (.mu 2) []))))
def f_p_add_with : MF := runF 5 2 [] b_p_add_with
def b_p__law_written : S :=
  (sSeq (sSet 2 (eC .non))
  (sSeq (sTry (sSet 2 (eCall f_p_add_with [(.e (eV 0)), (.e (eV 1))])) "InvalidSlips" (sSet 2 (eC .non)))
  (sRet (eV 2))))
def f_p__law_written : MF := runF 3 2 [] b_p__law_written
def b_p_add_right : S :=
  (sRet (eMeth "Adding" f_m_Adding_result (.t (eMake "Adding" f_m_Adding_zinitz [(.e (eV 0))])) []))
def f_p_add_right : MF := runF 1 1 [] b_p_add_right
def b_p__law_carry_right : S :=
  (sSeq (sPar [4, 5, 6] [(.e (eCall f_p_add_right [(.e (eMeth "Sheet" f_m_Sheet_cut (.e (eV 0)) [(.e (eC (.int 0))), (.e (eOp gAdd [(.v 1), (.e (eC (.int 1)))]))]))])), (.e (eMeth "Sheet" f_m_Sheet_cut (.e (eV 0)) [(.e (eOp gAdd [(.v 1), (.e (eC (.int 1)))])), (.e (eOpF (gLenO "Sheet" f_m_Sheet_zlenz) [(eV 0)]))])), (.e (eCall f_p__law_power [(.e (eProp "Sheet" f_m_Sheet_base (.e (eV 0)))), (.e (eOp gAdd [(.v 1), (.e (eC (.int 1)))]))]))])
  (sSeq (sPar [2, 7] [(.e (eCall f_p__law_written [(.e (eV 0)), (.e (eLst [(eTup [(eV 1), (eTup [(eC (.str "forget"))])])]))])), (.e (eProp "Sheet" f_m_Sheet_base (.e (eV 0))))])
  (sSeq (sIf (mT (eOp gNe [(.e (eOp (gIs false) [(.v 2), (.e (eC .non))])), (.e (eOp gEq [(.e (eProp "Written" f_m_Written_last (.e (eV 4)))), (.e (eC (.int 0)))]))])) (sRet (eC (.bl false))) sNil)
  (sSeq (sIf (mT (eOp (gIs true) [(.v 2), (.e (eC .non))])) (sSeq (sSet 3 (eCall f_p_add_right [(.e (eV 5))]))
  (sIf (mOr (mT (eOpF (gNeO "Written" f_m_Written_zeqz) [(eV 2), (eFr (eMake "Written" f_m_Written_zinitz [(.e (eV 7)), (.e (eOp gAdd [(.e (eProp "Written" f_m_Written_figures (.e (eV 4)))), (.e (eProp "Written" f_m_Written_figures (.e (eV 3))))])), (.e (eProp "Written" f_m_Written_last (.e (eV 3))))]))])) (mT (eOp gNe [(.e (eOpF (gDun (tag2 "Written" "Sheet") f_m_Written_zsubz) [(eV 2), (eV 0)])), (.e (eOp gSub [(.e (eC (.int 0))), (.e (eOp gMul [(.e (eProp "Written" f_m_Written_last (.e (eV 4)))), (.v 6)]))]))]))) (sRet (eC (.bl false))) sNil)) sNil)
  (sSeq (sSet 2 (eCall f_p_add_with [(.e (eV 0)), (.e (eLst [(eTup [(eV 1), (eTup [(eC (.str "again"))])])]))]))
  (sSeq (sIf (mT (eOp gNe [(.e (eOpF (gDun (tag2 "Written" "Sheet") f_m_Written_zsubz) [(eV 2), (eV 0)])), (.v 6)])) (sRet (eC (.bl false))) sNil)
  (sSeq (sIf (mT (eOp gEq [(.e (eOpF (gLenO "Sheet" f_m_Sheet_zlenz) [(eV 5)])), (.e (eC (.int 0)))])) (sRet (eOpF (gDun (tag2 "Written" "Written") f_m_Written_zeqz) [(eV 2), (eFr (eMake "Written" f_m_Written_zinitz [(.e (eV 7)), (.e (eProp "Written" f_m_Written_figures (.e (eV 4)))), (.e (eOp gAdd [(.e (eProp "Written" f_m_Written_last (.e (eV 4)))), (.e (eC (.int 1)))]))]))])) sNil)
  (sSeq (sIf (mT (eOp gGe [(.e (eOp gAdd [(.e (eProp "Written" f_m_Written_last (.e (eV 4)))), (.e (eC (.int 1)))])), (.v 7)])) (sRet (eC (.bl true))) sNil)
  (sSeq (sSet 3 (eCall f_p_add_right [(.e (eCall f_p__law_with_carry [(.e (eV 5)), (.e (eOp gAdd [(.e (eProp "Written" f_m_Written_last (.e (eV 4)))), (.e (eC (.int 1)))]))]))]))
  (sRet (eOpF (gDun (tag2 "Written" "Written") f_m_Written_zeqz) [(eV 2), (eFr (eMake "Written" f_m_Written_zinitz [(.e (eV 7)), (.e (eOp gAdd [(.e (eProp "Written" f_m_Written_figures (.e (eV 4)))), (.e (eProp "Written" f_m_Written_figures (.e (eV 3))))])), (.e (eProp "Written" f_m_Written_last (.e (eV 3))))]))])))))))))))
def f_p__law_carry_right : MF := runF 8 2 [] b_p__law_carry_right
def b_p__law_take : S :=
  (sSeq (sIf (mT (eOp gGt [(.e (eOp gIx [(.v 0), (.e (eC (.int 0)))])), (.e (eC (.int 0)))])) (sSeq (sSet 3 (eOp gMod [(.e (eOp gInt1 [(.e (eOp gIx [(.v 0), (.e (eC (.int 0)))]))])), (.v 1)]))
  (sSeq (sItem 0 (eOp gFdiv [(.e (eOp gIx [(.v 0), (.e (eC (.int 0)))])), (.v 1)]) (eC (.int 0)))
  (sRet (eV 3)))) sNil)
  (sSeq (sItem 0 (eOp gAdd [(.e (eOp gIx [(.v 0), (.e (eC (.int 2)))])), (.e (eC (.int 1)))]) (eC (.int 2)))
  (sSeq (sSet 2 (eOp gMod [(.e (eOp gInt1 [(.e (eOp gAdd [(.e (eOp gPow [(.e (eOp gAdd [(.e (eOp gIx [(.v 0), (.e (eC (.int 1)))])), (.e (eOp gMul [(.e (eC (.int 7368787))), (.e (eOp gIx [(.v 0), (.e (eC (.int 2)))]))]))])), (.e (eC (.int 2)))])), (.e (eOp gMul [(.e (eC (.int 1299709))), (.e (eOp gIx [(.v 0), (.e (eC (.int 2)))]))]))]))])), (.e (eOp gAdd [(.e (eOp gPow [(.e (eC (.int 10))), (.e (eC (.int 40)))])), (.e (eC (.int 121)))]))]))
  (sSeq (sSet 2 (eOp gMod [(.e (eOp gInt1 [(.e (eOp gAdd [(.e (eOp gPow [(.v 2), (.e (eC (.int 3)))])), (.e (eOp gIx [(.v 0), (.e (eC (.int 1)))]))]))])), (.e (eOp gAdd [(.e (eOp gPow [(.e (eC (.int 10))), (.e (eC (.int 38)))])), (.e (eC (.int 133)))]))]))
  (sRet (eOp gMod [(.e (eOp gInt1 [(.e (eOp gFdiv [(.v 2), (.e (eC (.int 9973)))]))])), (.v 1)]))))))
def f_p__law_take : MF := runF 4 2 [0] b_p__law_take
def b_p__law_column : S :=
  (sRet (eOp gTuple [(.e (eFr (eLc [3] (itR1 (eV 2)) (tgN 3) mYes (eCall f_p__law_take [(.mu 0), (.e (eV 1))]))))]))
def f_p__law_column : MF := runF 4 3 [0] b_p__law_column
def b_p__law_marked : S :=
  (sSeq (sPar [4, 5, 6, 7] [(.t (eLst [])), (.e (eOp gListF [(.e (eProp "Written" f_m_Written_figures (.e (eV 2))))])), (.e (eC (.int 0))), (.e (eC (.int 0)))])
  (sSeq (sFor (itR1 (eOpF (gLenO "Sheet" f_m_Sheet_zlenz) [(eV 1)])) (tgN 3) (sIf (mT (eOp gLt [(.v 7), (.e (eOpF (gLenO "Sheet" f_m_Sheet_zlenz) [(eV 1)]))])) (sSeq (sPar [8, 9] [(.e (eCall f_p__law_take [(.mu 0), (.e (eC (.int 4)))])), (.e (eCall f_p__law_power [(.e (eProp "Sheet" f_m_Sheet_base (.e (eV 1)))), (.e (eV 7))]))])
  (sSeq (sIf (mT (eOp gEq [(.v 8), (.e (eC (.int 0)))])) (sSeq (sSet 10 (eTup [(eC (.str "off")), (eOp gAdd [(.e (eC (.int 1))), (.e (eCall f_p__law_take [(.mu 0), (.e (eOp gSub [(.e (eProp "Sheet" f_m_Sheet_base (.e (eV 1)))), (.e (eC (.int 1)))]))]))])]))
  (sSeq (sSet 11 (eOp gMod [(.e (eOp gInt1 [(.e (eOp gAdd [(.e (eOp gIx [(.v 5), (.v 7)])), (.e (eOp gIx [(.v 10), (.e (eC (.int 1)))]))]))])), (.e (eProp "Sheet" f_m_Sheet_base (.e (eV 1))))]))
  (sSeq (sPar [6, 5] [(.e (eOp gAdd [(.v 6), (.e (eOp gMul [(.e (eOp gSub [(.v 11), (.e (eOp gIx [(.v 5), (.v 7)]))])), (.v 9)]))])), (.e (eOp gAdd [(.e (eOp gAdd [(.e (eSl gSl (eV 5) none (some (eV 7)))), (.e (eLst [(eV 11)]))])), (.e (eSl gSl (eV 5) (some (eOp gAdd [(.v 7), (.e (eC (.int 1)))])) none))]))])
  (sDrop (eMut gAppend 4 [(eTup [(eV 7), (eV 10)])]))))) sNil)
  (sSeq (sIf (mAnd (mT (eOp gEq [(.v 8), (.e (eC (.int 1)))])) (mT (eOp gLt [(.e (eOp gAdd [(.v 7), (.e (eC (.int 1)))])), (.e (eOpF (gLenO "Sheet" f_m_Sheet_zlenz) [(eV 1)]))]))) (sSeq (sPar [12, 13] [(.e (eOp gIx [(.v 5), (.v 7)])), (.e (eOp gIx [(.v 5), (.e (eOp gAdd [(.v 7), (.e (eC (.int 1)))]))]))])
  (sSeq (sPar [6, 5] [(.e (eOp gAdd [(.v 6), (.e (eOp gMul [(.e (eOp gMul [(.e (eOp gSub [(.v 12), (.v 13)])), (.e (eOp gSub [(.e (eProp "Sheet" f_m_Sheet_base (.e (eV 1)))), (.e (eC (.int 1)))]))])), (.v 9)]))])), (.e (eOp gAdd [(.e (eOp gAdd [(.e (eSl gSl (eV 5) none (some (eV 7)))), (.e (eLst [(eV 13), (eV 12)]))])), (.e (eSl gSl (eV 5) (some (eOp gAdd [(.v 7), (.e (eC (.int 2)))])) none))]))])
  (sSeq (sDrop (eMut gAppend 4 [(eTup [(eV 7), (eTup [(eC (.str "swap"))])])]))
  (sSet 7 (eOp gAdd [(.v 7), (.e (eC (.int 1)))]))))) sNil)
  (sSet 7 (eOp gAdd [(.v 7), (.e (eC (.int 1)))]))))) sNil))
  (sRet (eLst [(eFz 4), (eV 5), (eV 6)]))))
def f_p__law_marked : MF := runF 14 3 [0] b_p__law_marked
def b_p__law_mixed : S :=
  (sSeq (sPar [3, 4] [(.t (eOp gListF [(.v 1)])), (.t (eLst []))])
  (sSeq (sFor (itR1 (eOp gLen [(.v 1)])) (tgN 2) (sDrop (eMut gAppend 4 [(eMut gPopAt 3 [(eCall f_p__law_take [(.mu 0), (.e (eOp gLen [(.v 3)]))])])])))
  (sRet (eFz 4))))
def f_p__law_mixed : MF := runF 5 2 [0] b_p__law_mixed
def b_p_all_deeds : S :=
  (sSeq (sSet 2 (eLst [(eTup [(eC (.str "forget"))]), (eTup [(eC (.str "again"))])]))
  (sSeq (sSet 2 (eOp gAdd [(.v 2), (.e (eFr (eLc [3] (itR2 (eC (.int 1)) (eV 0)) (tgN 3) mYes (eTup [(eC (.str "off")), (eV 3)]))))]))
  (sSeq (sSet 2 (eOp gAdd [(.v 2), (.e (eFr (eLc2 [4, 3] [3] (itR1 (eV 1)) (tgN 4) mYes (itR2 (eC (.int 1)) (eV 0)) (tgN 3) mYes (eTup [(eC (.str "read")), (eV 4), (eV 3)]))))]))
  (sSeq (sSet 2 (eOp gAdd [(.v 2), (.e (eFr (eLc [4] (itR1 (eV 1)) (tgN 4) mYes (eTup [(eC (.str "copy")), (eV 4)]))))]))
  (sRet (eOp gAdd [(.v 2), (.e (eLst [(eTup [(eC (.str "swap"))]), (eTup [(eC (.str "out"))]), (eTup [(eC (.str "twice"))])]))]))))))
def f_p_all_deeds : MF := runF 5 2 [] b_p_all_deeds
def b_p_number_of_columns : S :=
  (sSeq (sSet 2 (eC (.int 1)))
  (sSeq (sFor (itR1 (eV 1)) (tgN 3) (sSet 2 (eOp gMul [(.v 2), (.v 0)])))
  (sRet (eV 2))))
def f_p_number_of_columns : MF := runF 4 2 [] b_p_number_of_columns
def b_m_Kind_zinitz : S :=
  (sSeq (sIf (mOr (mNot (mTru (.e (eCall f_p_is_integer [(.e (eV 1))])))) (mNot (mT (eChn gLe gLe (eC (.int 2)) (eV 1) (eC (.int 12)))))) sNever sNil)
  (sSeq (sIf (mOr (mNot (mTru (.e (eCall f_p_is_integer [(.e (eV 2))])))) (mNot (mT (eChn gLe gLe (eC (.int 1)) (eV 2) (eC (.int 4)))))) sNever sNil)
  (sSeq (sIf (mT (eOp gGt [(.e (eCall f_p_number_of_columns [(.e (eV 1)), (.e (eV 2))])), (.e (eC (.int 1000)))])) sNever sNil)
  (sSeq (sIf (mOr (mNot (mTru (.e (eOp (gIsi "list") [(.v 3)])))) (mNot (mTru (.e (eOp gAll [(.e (eFr (eLc [6] (itE (eV 3)) (tgN 6) mYes (eCall f_p_is_deed [(.e (eV 6)), (.e (eV 1)), (.e (eV 2))]))))]))))) sNever sNil)
  (sSeq (sSet 5 (eFr (eLc [6] (itE (eCall f_p_all_deeds [(.e (eV 1)), (.e (eV 2))])) (tgN 6) (mT (eOp (gIn false) [(.v 6), (.v 3)])) (eV 6))))
  (sSeq (sIf (mOr (mT (eOp gNe [(.e (eOp gLen [(.v 5)])), (.e (eOp gLen [(.v 3)]))])) (mNot (mT (eChn gLe gLe (eC (.int 1)) (eOp gLen [(.v 5)]) (eC (.int 8)))))) sNever sNil)
  (sSeq (sIf (mOr (mNot (mTru (.e (eCall f_p_is_integer [(.e (eV 4))])))) (mNot (mT (eChn gLe gLe (eC (.int 1)) (eV 4) (eC (.int 3)))))) sNever sNil)
  (sSeq (sAsg (eV 1) (tgF 0 "held_base"))
  (sSeq (sAsg (eV 2) (tgF 0 "held_rows"))
  (sSeq (sAsg (eV 5) (tgF 0 "held_deeds"))
  (sAsg (eV 4) (tgF 0 "held_most"))))))))))))
def f_m_Kind_zinitz : MF := runF 7 5 [0] b_m_Kind_zinitz
def b_m_Written_rest : S :=
  (sRet (eOp gMod [(.e (eProp "Written" f_m_Written_value (.e (eV 0)))), (.v 1)]))
def f_m_Written_rest : MF := runF 2 2 [] b_m_Written_rest
def b_p__law_lot : S :=
  (sSeq (sSetO 3 (eLst []))
  (sSeq (sFor (itR1 (eCall f_p__law_take [(.mu 0), (.e (eOp gAdd [(.v 1), (.e (eC (.int 1)))]))])) (tgN 4) (sSeq (sSet 5 (eOp gAdd [(.e (eC (.int 2))), (.e (eCall f_p__law_take [(.mu 0), (.e (eOp gSub [(.v 2), (.e (eC (.int 1)))]))]))]))
  (sIf (mT (eOp (gIn true) [(.v 5), (.v 3)])) (sDrop (eMut gAppend 3 [(eV 5)])) sNil)))
  (sRet (eFz 3))))
def f_p__law_lot : MF := runF 6 3 [0] b_p__law_lot
def b_m_Kind_deeds : S :=
  (sRet (eOp gListF [(.e (eFld "held_deeds" (.v 0)))]))
def f_m_Kind_deeds : MF := runF 1 1 [] b_m_Kind_deeds
def b_m_Kind_most : S :=
  (sRet (eFld "held_most" (.v 0)))
def f_m_Kind_most : MF := runF 1 1 [] b_m_Kind_most
def b_p_further_slips : S :=
  (sSeq (sIf (mT (eOp gEq [(.e (eOp gLen [(.v 2)])), (.e (eProp "Kind" f_m_Kind_most (.e (eV 0))))])) (sRet (eLst [])) sNil)
  (sSeq (sSet 3 (eC (.int 0)))
  (sSeq (sIf (mTru (.v 2)) (sSet 3 (eOp gAdd [(.e (eOp gIx [(.e (eOp gIx [(.v 2), (.e (eOp gNeg [(.e (eC (.int 1)))]))])), (.e (eC (.int 0)))])), (.e (eC (.int 1)))])) sNil)
  (sRet (eFr (eLc2 [4, 5] [5] (itR2 (eV 3) (eOpF (gLenO "Sheet" f_m_Sheet_zlenz) [(eV 1)])) (tgN 4) mYes (itE (eProp "Kind" f_m_Kind_deeds (.e (eV 0)))) (tgN 5) mYes (eFr (eLstI [.star (eV 2), .one (eTup [(eV 4), (eV 5)])]))))))))
def f_p_further_slips : MF := runF 6 3 [] b_p_further_slips
def b_p_outcome : S :=
  (sTry (sRet (eCall f_p_add_with [(.e (eV 0)), (.e (eV 1))])) "InvalidSlips" (sRet (eC .non)))
def f_p_outcome : MF := runF 2 2 [] b_p_outcome
def b_p_all_outcomes : S :=
  (sSeq (sSetO 2 (eLst []))
  (sSeq (sSetO 3 (eOp gRevF [(.e (eCall f_p_further_slips [(.e (eV 0)), (.e (eV 1)), (.e (eLst []))]))]))
  (sSeq (whL (mTru (.v 3)) (sSeq (sSet 4 (eMut gPop 3 []))
  (sSeq (sSet 5 (eCall f_p_outcome [(.e (eV 1)), (.e (eV 4))]))
  (sIf (mT (eOp (gIs true) [(.v 5), (.e (eC .non))])) (sSeq (sDrop (eMut gAppend 2 [(eTup [(eV 4), (eV 5)])]))
  (sDrop (eMut gExtend 3 [(eOp gRev [(.e (eCall f_p_further_slips [(.e (eV 0)), (.e (eV 1)), (.e (eV 4))]))])]))) sNil))) 16384)
  (sRet (eFz 2)))))
def f_p_all_outcomes : MF := runF 6 2 [] b_p_all_outcomes
def b_m_Kind_base : S :=
  (sRet (eFld "held_base" (.v 0)))
def f_m_Kind_base : MF := runF 1 1 [] b_m_Kind_base
def b_m_Kind_rows : S :=
  (sRet (eFld "held_rows" (.v 0)))
def f_m_Kind_rows : MF := runF 1 1 [] b_m_Kind_rows
def b_p_check_alike : S :=
  (sIf (mOr (mT (eOp gNe [(.e (eProp "Kind" f_m_Kind_base (.e (eV 0)))), (.e (eProp "Sheet" f_m_Sheet_base (.e (eV 1))))])) (mT (eOp gNe [(.e (eProp "Kind" f_m_Kind_rows (.e (eV 0)))), (.e (eProp "Sheet" f_m_Sheet_rows (.e (eV 1))))]))) sNever sNil)
def f_p_check_alike : MF := runF 2 2 [] b_p_check_alike
def b_p_check_lot : S :=
  (sSeq (sIf (mNot (mTru (.e (eOp (gIsi "list") [(.v 0)])))) sNever sNil)
  (sFor (itR1 (eOp gLen [(.v 0)])) (tgN 1) (sSeq (sSet 2 (eOp gIx [(.v 0), (.v 1)]))
  (sSeq (sIf (mOr (mNot (mTru (.e (eOp (gIsi "int") [(.v 2)])))) (mOr (mTru (.e (eOp (gIsi "bool") [(.v 2)]))) (mT (eOp gLt [(.v 2), (.e (eC (.int 2)))])))) sNever sNil)
  (sIf (mT (eOp (gIn false) [(.v 2), (.e (eSl gSl (eV 0) none (some (eV 1))))])) sNever sNil)))))
def f_p_check_lot : MF := runF 3 1 [] b_p_check_lot
def b_p_slips_shown : S :=
  (sSeq (sDrop (eCall f_p_check_lot [(.e (eV 2))]))
  (sSeq (sDrop (eCall f_p_check_alike [(.e (eV 0)), (.e (eV 1))]))
  (sSeq (sSet 4 (eOp gListF [(.v 3)]))
  (sRet (eFr (eLc [5, 6] (itE (eCall f_p_all_outcomes [(.e (eV 0)), (.e (eV 1))])) (tgT [(tgN 5), (tgN 6)]) (mT (eOp gEq [(.e (eFr (eLc [7] (itE (eV 2)) (tgN 7) mYes (eMeth "Written" f_m_Written_rest (.e (eV 6)) [(.e (eV 7))])))), (.v 4)])) (eV 5)))))))
def f_p_slips_shown : MF := runF 8 4 [] b_p_slips_shown
def b_p__law_shown_right : S :=
  (sSeq (sIf (mOr (mT (eOp gGt [(.e (eOpF (gLenO "Sheet" f_m_Sheet_zlenz) [(eV 1)])), (.e (eC (.int 8)))])) (mOr (mT (eOp gNe [(.e (eOp gLen [(.v 2)])), (.e (eC (.int 1)))])) (mT (eOp gGt [(.e (eCall f_p__law_power [(.e (eProp "Sheet" f_m_Sheet_base (.e (eV 1)))), (.e (eProp "Sheet" f_m_Sheet_rows (.e (eV 1))))])), (.e (eC (.int 1000)))])))) (sRet (eC (.bl true))) sNil)
  (sSeq (sSet 4 (eCall f_p__law_lot [(.mu 0), (.e (eC (.int 2))), (.e (eC (.int 40)))]))
  (sSeq (sSet 5 (eFr (eMake "Kind" f_m_Kind_zinitz [(.e (eProp "Sheet" f_m_Sheet_base (.e (eV 1)))), (.e (eProp "Sheet" f_m_Sheet_rows (.e (eV 1)))), (.e (eLst [(eOp gIx [(.e (eOp gIx [(.v 2), (.e (eC (.int 0)))])), (.e (eC (.int 1)))])])), (.e (eC (.int 1)))])))
  (sRet (eOp (gIn false) [(.v 2), (.e (eCall f_p_slips_shown [(.e (eV 5)), (.e (eV 1)), (.e (eOp gListF [(.v 4)])), (.e (eFr (eLc [6] (itE (eV 4)) (tgN 6) mYes (eMeth "Written" f_m_Written_rest (.e (eV 3)) [(.e (eV 6))]))))]))])))))
def f_p__law_shown_right : MF := runF 7 4 [0] b_p__law_shown_right
def b_p__law_right : S :=
  (sSeq (sSetO 2 (eCall f_p__law_bag [(.e (eV 0)), (.e (eV 1))]))
  (sSeq (sPar [8, 9] [(.e (eOp gAdd [(.e (eC (.int 2))), (.e (eCall f_p__law_take [(.mu 2), (.e (eC (.int 11)))]))])), (.e (eOp gAdd [(.e (eC (.int 1))), (.e (eCall f_p__law_take [(.mu 2), (.e (eC (.int 3)))]))]))])
  (sSeq (sPar [10, 11] [(.e (eOp gAdd [(.e (eC (.int 1))), (.e (eCall f_p__law_take [(.mu 2), (.e (eOp gIx [(.e (eLst [(eC (.int 10)), (eC (.int 40))])), (.e (eOp gInt1 [(.e (eOp gEq [(.v 1), (.e (eC (.int 0)))]))]))]))]))])), (.t (eLst []))])
  (sSeq (sFor (itR1 (eV 10)) (tgN 3) (sDrop (eMut gAppend 11 [(eOp gIx [(.e (eLst [(eCall f_p__law_column [(.mu 2), (.e (eV 8)), (.e (eV 9))]), (eOp gTuple [(.e (eOp gMul [(.e (eLst [(eOp gSub [(.v 8), (.e (eC (.int 1)))])])), (.v 9)]))])])), (.e (eCall f_p__law_take [(.mu 2), (.e (eC (.int 2)))]))])])))
  (sSeq (sSet 4 (eFr (eMake "Sheet" f_m_Sheet_zinitz [(.e (eV 8)), (.e (eV 9)), (.e (eFz 11))])))
  (sSeq (sSet 5 (eCall f_p_add_right [(.e (eV 4))]))
  (sSeq (sFor (itR1 (eC (.int 2))) (tgN 6) (sSeq (sAsg (eCall f_p__law_marked [(.mu 2), (.e (eV 4)), (.e (eV 5))]) (tgT [(tgN 15), (tgN 16), (tgN 17)]))
  (sSeq (sSet 12 (eCall f_p_add_with [(.e (eV 4)), (.e (eOp gListF [(.v 15)]))]))
  (sSeq (sIf (mOr (mT (eOpF (gNeO "Written" f_m_Written_zeqz) [(eV 12), (eFr (eMake "Written" f_m_Written_zinitz [(.e (eV 8)), (.e (eV 16)), (.e (eProp "Written" f_m_Written_last (.e (eV 5))))]))])) (mT (eOp gNe [(.e (eOpF (gDun (tag2 "Written" "Sheet") f_m_Written_zsubz) [(eV 12), (eV 4)])), (.v 17)]))) (sRet (eC (.bl false))) sNil)
  (sSeq (sSet 13 (eSl gSl (eV 15) none (some (eC (.int 1)))))
  (sSeq (sIf (mNot (mTru (.e (eCall f_p__law_shown_right [(.mu 2), (.e (eV 4)), (.e (eV 13)), (.e (eCall f_p_add_with [(.e (eV 4)), (.e (eOp gListF [(.v 13)]))]))])))) (sRet (eC (.bl false))) sNil)
  (sSeq (sSet 14 (eOp gSum [(.e (eFr (eLc [18] (itE (eV 15)) (tgN 18) mYes (eOpF (gDun (tag2 "Written" "Sheet") f_m_Written_zsubz) [(eCall f_p_add_with [(.e (eV 4)), (.e (eLst [(eV 18)]))]), (eV 4)]))))]))
  (sIf (mT (eOp gNe [(.v 14), (.v 17)])) (sRet (eC (.bl false))) sNil))))))))
  (sSeq (sFor (itE (eSl gSl (eCall f_p__law_mixed [(.mu 2), (.e (eFr (eLr (eV 10))))]) none (some (eC (.int 8))))) (tgN 7) (sIf (mNot (mTru (.e (eCall f_p__law_carry_right [(.e (eV 4)), (.e (eV 7))])))) (sRet (eC (.bl false))) sNil))
  (sRet (eC (.bl true)))))))))))
def f_p__law_right : MF := runF 19 2 [] b_p__law_right
def b_p_law : S :=
  (sSeq (sFor (itR1 (eOp gMax [(.e (eC (.int 1))), (.e (eOp gMin [(.e (eC (.int 6))), (.e (eOp gLen [(.v 0)]))]))])) (tgN 1) (sIf (mNot (mTru (.e (eCall f_p__law_right [(.e (eV 0)), (.e (eV 1))])))) (sRet (eC (.bl false))) sNil))
  (sRet (eC (.bl true))))
def f_p_law : MF := runF 2 1 [] b_p_law
end K81
namespace K81
open PySem PySem.Spec PyProof.Rows L2 Ev
abbrev cs : List PySem.Str := ["Adding", "Kind", "Sheet", "Written"]
abbrev fs : List PySem.Str := ["at", "carry", "given", "held_base", "held_columns", "held_deeds", "held_figures", "held_last", "held_most", "held_rows", "size", "system", "waiting", "written"]
abbrev ca (K : PySem.W.Frag) : Ca := caOf K cs fs
structure Gf (K : PySem.W.Frag) (mg : PySem.Str → Option Value) : Prop where
  fr_abs : mg "abs" = none
  fr_all : mg "all" = none
  fr_bool : mg "bool" = none
  fr_enumerate : mg "enumerate" = none
  fr_int : mg "int" = none
  fr_isinstance : mg "isinstance" = none
  fr_len : mg "len" = none
  fr_list : mg "list" = none
  fr_max : mg "max" = none
  fr_min : mg "min" = none
  fr_range : mg "range" = none
  fr_str : mg "str" = none
  fr_sum : mg "sum" = none
  fr_tuple : mg "tuple" = none
  co_MOST_COLUMNS : ∃ u, mg "MOST_COLUMNS" = some u ∧ RelV (.int 1000) u
  cr_MOST_COLUMNS : ∀ F H, Rep K (ca K) F H (.int 1000) (.int 1000)
  co_MOST_DEEDS : ∃ u, mg "MOST_DEEDS" = some u ∧ RelV (.int 8) u
  cr_MOST_DEEDS : ∀ F H, Rep K (ca K) F H (.int 8) (.int 8)
  co_PLAIN : ∃ u, mg "PLAIN" = some u ∧ RelV (.ref (He.ga K "PLAIN")) u
  cr_PLAIN : ∀ F H, Rep K (ca K) F H (.tup ((["forget", "again", "swap", "out", "twice"] : List PySem.Str).map .str)) (.ref (He.ga K "PLAIN"))

def top (i : Nat) : Stmt := PySem.Challenge.pw_sumslips_k81_whole_slips_as_other_result.main.body.getD i (.Pass ⟨0, 0, 0, 0⟩)
def sub (i j : Nat) : Stmt := match top i with
  | .ClassDef _ _ _ b _ _ _ _ _ _ _ => b.getD j (.Pass ⟨0, 0, 0, 0⟩)
  | _ => .Pass ⟨0, 0, 0, 0⟩
theorem sc_p_is_integer : FnScope ["value"] ["value"] (defScope (top 10)) := ⟨rfl, rfl, rfl, by decide +kernel, rfl, by decide +kernel, by decide +kernel⟩
theorem ok_p_is_integer {Pr : Program} {w : World} {K : PySem.W.Frag} {mg : PySem.Str → Option Value} {base : Heap} {a : Addr} {fd : FuncData} (cf : Cf K (ca K)) (z : Gf K mg)
    (F : FunD K "is_integer" "is_integer" (defArgs (top 10)) (defBody (top 10)) (defScope (top 10)) [] [] a fd) : FnOk Pr w K mg base (L2.CX Pr w) 1 a fd ["value"] (spE K (ca K) f_p_is_integer) :=
  have sc := sc_p_is_integer
  fnED (N := ["value"]) (P := []) (b := b_p_is_integer) F sc fun cdv A outer s H E hr =>
  (ss_one (ss_ret (se_and (se_isi cf (T := "int") (by decide +kernel) (by rfl) z.fr_isinstance (by rfl) z.fr_int (by decide +kernel) boot_isinstance (po_v (pv 0))) (se_one (se_not (se_isi cf (T := "bool") (by decide +kernel) (by rfl) z.fr_isinstance (by rfl) z.fr_bool (by decide +kernel) boot_isinstance (po_v (pv 0))))))))
theorem sc_p_is_column : FnScope ["value", "base", "rows", "figure"] ["value", "base", "rows"] (defScope (top 11)) := ⟨rfl, rfl, rfl, by decide +kernel, rfl, by decide +kernel, by decide +kernel⟩
theorem ok_p_is_column {Pr : Program} {w : World} {K : PySem.W.Frag} {mg : PySem.Str → Option Value} {base : Heap} {a : Addr} {fd : FuncData} (cf : Cf K (ca K)) (z : Gf K mg) (hcal_is_integer : Cal Pr w K mg base (ca K) 1 "is_integer" ["value"] f_p_is_integer)
    (F : FunD K "is_column" "is_column" (defArgs (top 11)) (defBody (top 11)) (defScope (top 11)) [] [] a fd) : FnOk Pr w K mg base (L2.CX Pr w) 2 a fd ["value", "base", "rows"] (spE K (ca K) f_p_is_column) :=
  have sc := sc_p_is_column
  fnED (N := ["value", "base", "rows", "figure"]) (P := []) (b := b_p_is_column) F sc fun cdv A outer s H E hr =>
  (ss_cons (ss_if (st_or (st_not (st_tru cf (po_e (se_isi cf (T := "tuple") (by decide +kernel) (by rfl) z.fr_isinstance (by rfl) z.fr_tuple (by decide +kernel) boot_isinstance (po_v (pv 0)))))) (st_or1 (zt_neD cf hr (po_e (zf_len cf z.fr_len (sp_cons (po_v (pv 0)) sp_nil))) (po_v (pv 2))))).pt (ss_one (ss_ret se_bl)) ss_nil)
  (ss_one (ss_ret (zf_all cf (by rfl) z.fr_all (sp_cons (po_e (se_fr (so_lc (by rfl) sc.nd (si_e (se_v (pv 0))) (own := [("figure", 3)]) (blk_of (by rfl)) (fun _ _ _ _ _ => (sg_name sc.nd (by rfl) (by first | exact Or.inl rfl | exact Or.inr rfl))) (fun _ _ _ _ _ => sts_nil) (fun _ _ _ _ _ => (se_and (zc_call hcal_is_integer hr Ev.takes0 (sg_cons (ag_e (se_v (pv 3))) sg_nil)) (se_one (se_chain op_le ok_IB op_lt ok_IB se_int (se_v (pv 3)) (se_v (pv 1))))))))) sp_nil)))))
theorem sc_m_Sheet_zinitz : FnScope ["self", "base", "rows", "columns", "column"] ["self", "base", "rows", "columns"] (defScope (sub 12 0)) := ⟨rfl, rfl, rfl, by decide +kernel, rfl, by decide +kernel, by decide +kernel⟩
theorem ok_m_Sheet_zinitz {Pr : Program} {w : World} {K : PySem.W.Frag} {mg : PySem.Str → Option Value} {base : Heap} {a : Addr} {fd : FuncData} (cf : Cf K (ca K)) (z : Gf K mg) (hcal_is_column : Cal Pr w K mg base (ca K) 2 "is_column" ["value", "base", "rows"] f_p_is_column) (hcal_is_integer : Cal Pr w K mg base (ca K) 1 "is_integer" ["value"] f_p_is_integer)
    (F : FunD K "__init__" "Sheet.__init__" (defArgs (sub 12 0)) (defBody (sub 12 0)) (defScope (sub 12 0)) [] [] a fd) : FnOk Pr w K mg base (L2.CX Pr w) 3 a fd ["self", "base", "rows", "columns"] (spE K (ca K) f_m_Sheet_zinitz) :=
  have sc := sc_m_Sheet_zinitz
  fnED (N := ["self", "base", "rows", "columns", "column"]) (P := [0]) (b := b_m_Sheet_zinitz) F sc fun cdv A outer s H E hr =>
  (ss_cons (ss_if (st_or (st_not (st_tru cf (po_e (zc_call hcal_is_integer hr tkX (sg_cons (ag_e (se_v (pv 1))) sg_nil))))) (st_or1 (st_not (st_chain op_le ok_IB op_le ok_IB se_int (se_v (pv 1)) se_int)))).pt (ss_one ss_never) ss_nil)
  (ss_cons (ss_if (st_or (st_not (st_tru cf (po_e (zc_call hcal_is_integer hr tkX (sg_cons (ag_e (se_v (pv 2))) sg_nil))))) (st_or1 (st_not (st_chain op_le ok_IB op_le ok_IB se_int (se_v (pv 2)) se_int)))).pt (ss_one ss_never) ss_nil)
  (ss_cons (ss_if (st_or (st_not (st_tru cf (po_e (se_isi cf (T := "list") (by decide +kernel) (by rfl) z.fr_isinstance (by rfl) z.fr_list (by decide +kernel) boot_isinstance (po_v (pv 3)))))) (st_or1 (st_not (st_tru cf (po_e (zf_all cf (by rfl) z.fr_all (sp_cons (po_e (se_fr (so_lc (by rfl) sc.nd (si_e (se_v (pv 3))) (own := [("column", 4)]) (blk_of (by rfl)) (fun _ _ _ _ _ => (sg_name sc.nd (by rfl) (by first | exact Or.inl rfl | exact Or.inr rfl))) (fun _ _ _ _ _ => sts_nil) (fun _ _ _ _ _ => (zc_call hcal_is_column hr Ev.takes0 (sg_cons (ag_e (se_v (pv 4))) (sg_cons (ag_e (se_v (pv 1))) (sg_cons (ag_e (se_v (pv 2))) sg_nil)))))))) sp_nil))))))).pt (ss_one ss_never) ss_nil)
  (ss_cons (ss_fld cf (caOf_fld (by decide +kernel)) (pv 0) (se_v (pv 1)))
  (ss_cons (ss_fld cf (caOf_fld (by decide +kernel)) (pv 0) (se_v (pv 2)))
  (ss_cons (ss_fld cf (caOf_fld (by decide +kernel)) (pv 0) (zf_list cf z.fr_list (sp_cons (po_v (pv 3)) sp_nil)))
  (ss_one (ss_fld cf (caOf_fld (by decide +kernel)) (pv 0) (zf_len cf z.fr_len (sp_cons (po_v (pv 3)) sp_nil))))))))))
theorem sc_m_Written_zeqz : FnScope ["self", "other"] ["self", "other"] (defScope (sub 20 7)) := ⟨rfl, rfl, rfl, by decide +kernel, rfl, by decide +kernel, by decide +kernel⟩
theorem ok_m_Written_zeqz {Pr : Program} {w : World} {K : PySem.W.Frag} {mg : PySem.Str → Option Value} {base : Heap} {a : Addr} {fd : FuncData} (cf : Cf K (ca K)) (z : Gf K mg) (hgl_Written : mg "Written" = some (.ref (He.ga K "Written"))) (hins_Written : C8.InsC K (He.ga K "Written"))
    (F : FunD K "__eq__" "Written.__eq__" (defArgs (sub 20 7)) (defBody (sub 20 7)) (defScope (sub 20 7)) [] [] a fd) : FnOk Pr w K mg base (L2.CX Pr w) 1 a fd ["self", "other"] (spE K (ca K) f_m_Written_zeqz) :=
  have sc := sc_m_Written_zeqz
  fnED (N := ["self", "other"]) (P := []) (b := b_m_Written_zeqz) F sc fun cdv A outer s H E hr =>
  (ss_cons (ss_if (st_not (st_tru cf (po_e (se_isC hins_Written (by rfl) z.fr_isinstance (by rfl) hgl_Written boot_isinstance (se_v (pv 1)))))) (ss_one (ss_ret se_bl)) ss_nil)
  (ss_one (ss_ret (zb_eq cf hr (po_e (se_tup (sa_cons (se_fld cf (po_v (pv 0))) (sa_cons (se_fld cf (po_v (pv 0))) (sa_cons (se_fld cf (po_v (pv 0))) sa_nil))))) (po_e (se_tup (sa_cons (se_fld cf (po_v (pv 1))) (sa_cons (se_fld cf (po_v (pv 1))) (sa_cons (se_fld cf (po_v (pv 1))) sa_nil)))))))))
theorem sc_m_Written_zinitz : FnScope ["self", "base", "figures", "last"] ["self", "base", "figures", "last"] (defScope (sub 20 0)) := ⟨rfl, rfl, rfl, by decide +kernel, rfl, by decide +kernel, by decide +kernel⟩
theorem ok_m_Written_zinitz {Pr : Program} {w : World} {K : PySem.W.Frag} {mg : PySem.Str → Option Value} {base : Heap} {a : Addr} {fd : FuncData} (cf : Cf K (ca K)) (z : Gf K mg)
    (F : FunD K "__init__" "Written.__init__" (defArgs (sub 20 0)) (defBody (sub 20 0)) (defScope (sub 20 0)) [] [] a fd) : FnOk Pr w K mg base (L2.CX Pr w) 1 a fd ["self", "base", "figures", "last"] (spE K (ca K) f_m_Written_zinitz) :=
  have sc := sc_m_Written_zinitz
  fnED (N := ["self", "base", "figures", "last"]) (P := [0]) (b := b_m_Written_zinitz) F sc fun cdv A outer s H E hr =>
  (ss_cons (ss_fld cf (caOf_fld (by decide +kernel)) (pv 0) (se_v (pv 1)))
  (ss_cons (ss_fld cf (caOf_fld (by decide +kernel)) (pv 0) (zf_list cf z.fr_list (sp_cons (po_v (pv 2)) sp_nil)))
  (ss_one (ss_fld cf (caOf_fld (by decide +kernel)) (pv 0) (se_v (pv 3))))))
theorem sc_m_Sheet_value : FnScope ["self", "total", "column"] ["self"] (defScope (sub 12 4)) := ⟨rfl, rfl, rfl, by decide +kernel, rfl, by decide +kernel, by decide +kernel⟩
theorem ok_m_Sheet_value {Pr : Program} {w : World} {K : PySem.W.Frag} {mg : PySem.Str → Option Value} {base : Heap} {a : Addr} {fd : FuncData} (cf : Cf K (ca K)) (z : Gf K mg)
    (F : FunD K "value" "Sheet.value" (defArgs (sub 12 4)) (defBody (sub 12 4)) (defScope (sub 12 4)) [] [] a fd) : FnOk Pr w K mg base (L2.CX Pr w) 1 a fd ["self"] (spE K (ca K) f_m_Sheet_value) :=
  have sc := sc_m_Sheet_value
  fnED (N := ["self", "total", "column"]) (P := []) (b := b_m_Sheet_value) F sc fun cdv A outer s H E hr =>
  (ss_cons (ss_set sc.nd (by rfl) (by first | exact Or.inl rfl | exact Or.inr rfl) se_int)
  (ss_cons (ss_for psX (by rfl) (si_e (se_rev cf (po_e (se_fld cf (po_v (pv 0)))))) (sg_name sc.nd (by rfl) (by first | exact Or.inl rfl | exact Or.inr rfl)) (ss_one (ss_set sc.nd (by rfl) (by first | exact Or.inl rfl | exact Or.inr rfl) (zb_add cf (po_e (zb_mul cf (po_v (pv 1)) (po_e (se_fld cf (po_v (pv 0)))))) (po_e (zf_sum cf (by rfl) z.fr_sum (sp_cons (po_v (pv 2)) sp_nil)))))))
  (ss_one (ss_ret (se_v (pv 1))))))
theorem sc_m_Written_value : FnScope ["self", "total", "figure"] ["self"] (defScope (sub 20 4)) := ⟨rfl, rfl, rfl, by decide +kernel, rfl, by decide +kernel, by decide +kernel⟩
theorem ok_m_Written_value {Pr : Program} {w : World} {K : PySem.W.Frag} {mg : PySem.Str → Option Value} {base : Heap} {a : Addr} {fd : FuncData} (cf : Cf K (ca K)) (z : Gf K mg)
    (F : FunD K "value" "Written.value" (defArgs (sub 20 4)) (defBody (sub 20 4)) (defScope (sub 20 4)) [] [] a fd) : FnOk Pr w K mg base (L2.CX Pr w) 1 a fd ["self"] (spE K (ca K) f_m_Written_value) :=
  have sc := sc_m_Written_value
  fnED (N := ["self", "total", "figure"]) (P := []) (b := b_m_Written_value) F sc fun cdv A outer s H E hr =>
  (ss_cons (ss_set sc.nd (by rfl) (by first | exact Or.inl rfl | exact Or.inr rfl) (se_fld cf (po_v (pv 0))))
  (ss_cons (ss_for psX (by rfl) (si_e (se_rev cf (po_e (se_fld cf (po_v (pv 0)))))) (sg_name sc.nd (by rfl) (by first | exact Or.inl rfl | exact Or.inr rfl)) (ss_one (ss_set sc.nd (by rfl) (by first | exact Or.inl rfl | exact Or.inr rfl) (zb_add cf (po_e (zb_mul cf (po_v (pv 1)) (po_e (se_fld cf (po_v (pv 0)))))) (po_v (pv 2))))))
  (ss_one (ss_ret (se_v (pv 1))))))
theorem sc_m_Written_zsubz : FnScope ["self", "other"] ["self", "other"] (defScope (sub 20 6)) := ⟨rfl, rfl, rfl, by decide +kernel, rfl, by decide +kernel, by decide +kernel⟩
theorem ok_m_Written_zsubz {Pr : Program} {w : World} {K : PySem.W.Frag} {mg : PySem.Str → Option Value} {base : Heap} {a : Addr} {fd : FuncData} (cf : Cf K (ca K)) (z : Gf K mg) (hprp_Sheet_value : Prp Pr w K mg base (ca K) 1 "Sheet" "value" ["self"] f_m_Sheet_value) (hprp_Written_value : Prp Pr w K mg base (ca K) 1 "Written" "value" ["self"] f_m_Written_value)
    (F : FunD K "__sub__" "Written.__sub__" (defArgs (sub 20 6)) (defBody (sub 20 6)) (defScope (sub 20 6)) [] [] a fd) : FnOk Pr w K mg base (L2.CX Pr w) 3 a fd ["self", "other"] (spE K (ca K) f_m_Written_zsubz) :=
  have sc := sc_m_Written_zsubz
  fnED (N := ["self", "other"]) (P := []) (b := b_m_Written_zsubz) F sc fun cdv A outer s H E hr =>
  (ss_one (ss_ret (zb_sub cf (po_e (zc_prop hprp_Written_value hr (ag_e (se_v (pv 0))))) (po_e (zc_prop hprp_Sheet_value hr (ag_e (se_v (pv 1))))))))
theorem sc_m_Written_last : FnScope ["self"] ["self"] (defScope (sub 20 3)) := ⟨rfl, rfl, rfl, by decide +kernel, rfl, by decide +kernel, by decide +kernel⟩
theorem ok_m_Written_last {Pr : Program} {w : World} {K : PySem.W.Frag} {mg : PySem.Str → Option Value} {base : Heap} {a : Addr} {fd : FuncData} (cf : Cf K (ca K)) (z : Gf K mg)
    (F : FunD K "last" "Written.last" (defArgs (sub 20 3)) (defBody (sub 20 3)) (defScope (sub 20 3)) [] [] a fd) : FnOk Pr w K mg base (L2.CX Pr w) 1 a fd ["self"] (spE K (ca K) f_m_Written_last) :=
  have sc := sc_m_Written_last
  fnED (N := ["self"]) (P := []) (b := b_m_Written_last) F sc fun cdv A outer s H E hr =>
  (ss_one (ss_ret (se_fld cf (po_v (pv 0)))))
theorem sc_p__law_bag : FnScope ["script", "k", "cell", "whole"] ["script", "k"] (defScope (top 39)) := ⟨rfl, rfl, rfl, by decide +kernel, rfl, by decide +kernel, by decide +kernel⟩
theorem ok_p__law_bag {Pr : Program} {w : World} {K : PySem.W.Frag} {mg : PySem.Str → Option Value} {base : Heap} {a : Addr} {fd : FuncData} (cf : Cf K (ca K)) (z : Gf K mg)
    (F : FunD K "_law_bag" "_law_bag" (defArgs (top 39)) (defBody (top 39)) (defScope (top 39)) [] [] a fd) : FnOk Pr w K mg base (L2.CX Pr w) 1 a fd ["script", "k"] (spO K (ca K) f_p__law_bag) :=
  have sc := sc_p__law_bag
  fnOD (N := ["script", "k", "cell", "whole"]) (P := []) (b := b_p__law_bag) F sc fun cdv A outer s H E hr =>
  (ss_cons (ss_set sc.nd (by rfl) (by first | exact Or.inl rfl | exact Or.inr rfl) (se_if (zt_lt cf (po_v (pv 1)) (po_e (zf_len cf z.fr_len (sp_cons (po_v (pv 0)) sp_nil)))) (se_ix cf (po_v (pv 0)) (po_v (pv 1))) se_int))
  (ss_cons (ss_set sc.nd (by rfl) (by first | exact Or.inl rfl | exact Or.inr rfl) (zb_add cf (po_e (zb_mul cf (po_e se_int) (po_e (zf_abs cf z.fr_abs (sp_cons (po_v (pv 2)) sp_nil))))) (po_e (zf_int cf z.fr_int (sp_cons (po_e (zb_lt cf (po_v (pv 2)) (po_e se_int))) sp_nil)))))
  (ss_one (ss_retO (so_lst (sa_cons (zf_max cf (by rfl) z.fr_max (sp_cons (po_e se_int) (sp_cons (po_e (zb_sub cf (po_v (pv 2)) (po_e (zb_pow cf (po_e se_int) (po_e se_int))))) sp_nil))) (sa_cons (zb_add cf (po_e (zb_mul cf (po_e (zb_mod cf (po_e (zf_int cf z.fr_int (sp_cons (po_v (pv 3)) sp_nil))) (po_e (zb_add cf (po_e (zb_pow cf (po_e se_int) (po_e se_int))) (po_e se_int))))) (po_e se_int))) (po_e (zb_mod cf (po_e (zf_int cf z.fr_int (sp_cons (po_v (pv 1)) sp_nil))) (po_e se_int)))) (sa_cons se_int sa_nil))))))))
theorem sc_m_Sheet_zlenz : FnScope ["self"] ["self"] (defScope (sub 12 5)) := ⟨rfl, rfl, rfl, by decide +kernel, rfl, by decide +kernel, by decide +kernel⟩
theorem ok_m_Sheet_zlenz {Pr : Program} {w : World} {K : PySem.W.Frag} {mg : PySem.Str → Option Value} {base : Heap} {a : Addr} {fd : FuncData} (cf : Cf K (ca K)) (z : Gf K mg)
    (F : FunD K "__len__" "Sheet.__len__" (defArgs (sub 12 5)) (defBody (sub 12 5)) (defScope (sub 12 5)) [] [] a fd) : FnOk Pr w K mg base (L2.CX Pr w) 1 a fd ["self"] (spE K (ca K) f_m_Sheet_zlenz) :=
  have sc := sc_m_Sheet_zlenz
  fnED (N := ["self"]) (P := []) (b := b_m_Sheet_zlenz) F sc fun cdv A outer s H E hr =>
  (ss_one (ss_ret (zf_len cf z.fr_len (sp_cons (po_e (se_fld cf (po_v (pv 0)))) sp_nil))))
theorem sc_m_Sheet_base : FnScope ["self"] ["self"] (defScope (sub 12 1)) := ⟨rfl, rfl, rfl, by decide +kernel, rfl, by decide +kernel, by decide +kernel⟩
theorem ok_m_Sheet_base {Pr : Program} {w : World} {K : PySem.W.Frag} {mg : PySem.Str → Option Value} {base : Heap} {a : Addr} {fd : FuncData} (cf : Cf K (ca K)) (z : Gf K mg)
    (F : FunD K "base" "Sheet.base" (defArgs (sub 12 1)) (defBody (sub 12 1)) (defScope (sub 12 1)) [] [] a fd) : FnOk Pr w K mg base (L2.CX Pr w) 1 a fd ["self"] (spE K (ca K) f_m_Sheet_base) :=
  have sc := sc_m_Sheet_base
  fnED (N := ["self"]) (P := []) (b := b_m_Sheet_base) F sc fun cdv A outer s H E hr =>
  (ss_one (ss_ret (se_fld cf (po_v (pv 0)))))
theorem sc_m_Sheet_cut : FnScope ["self", "low", "high"] ["self", "low", "high"] (defScope (sub 12 9)) := ⟨rfl, rfl, rfl, by decide +kernel, rfl, by decide +kernel, by decide +kernel⟩
theorem ok_m_Sheet_cut {Pr : Program} {w : World} {K : PySem.W.Frag} {mg : PySem.Str → Option Value} {base : Heap} {a : Addr} {fd : FuncData} (cf : Cf K (ca K)) (z : Gf K mg) (hmak_Sheet : Mak Pr w K mg base (ca K) 3 "Sheet" ["self", "base", "rows", "columns"] f_m_Sheet_zinitz)
    (F : FunD K "cut" "Sheet.cut" (defArgs (sub 12 9)) (defBody (sub 12 9)) (defScope (sub 12 9)) [] [] a fd) : FnOk Pr w K mg base (L2.CX Pr w) 5 a fd ["self", "low", "high"] (spE K (ca K) f_m_Sheet_cut) :=
  have sc := sc_m_Sheet_cut
  fnED (N := ["self", "low", "high"]) (P := []) (b := b_m_Sheet_cut) F sc fun cdv A outer s H E hr =>
  (ss_one (ss_ret (se_fr (zc_make hmak_Sheet hr tkX (sg_cons (ag_e (se_fld cf (po_v (pv 0)))) (sg_cons (ag_e (se_fld cf (po_v (pv 0)))) (sg_cons (ag_e (se_sl (se_fld cf (po_v (pv 0))) (pl_some (se_v (pv 1))) (pl_some (se_v (pv 2))))) sg_nil)))))))
theorem sc_m_Written_figures : FnScope ["self"] ["self"] (defScope (sub 20 2)) := ⟨rfl, rfl, rfl, by decide +kernel, rfl, by decide +kernel, by decide +kernel⟩
theorem ok_m_Written_figures {Pr : Program} {w : World} {K : PySem.W.Frag} {mg : PySem.Str → Option Value} {base : Heap} {a : Addr} {fd : FuncData} (cf : Cf K (ca K)) (z : Gf K mg)
    (F : FunD K "figures" "Written.figures" (defArgs (sub 20 2)) (defBody (sub 20 2)) (defScope (sub 20 2)) [] [] a fd) : FnOk Pr w K mg base (L2.CX Pr w) 1 a fd ["self"] (spE K (ca K) f_m_Written_figures) :=
  have sc := sc_m_Written_figures
  fnED (N := ["self"]) (P := []) (b := b_m_Written_figures) F sc fun cdv A outer s H E hr =>
  (ss_one (ss_ret (zf_list cf z.fr_list (sp_cons (po_e (se_fld cf (po_v (pv 0)))) sp_nil))))
theorem sc_p__law_power : FnScope ["base", "many", "found", "turn"] ["base", "many"] (defScope (top 42)) := ⟨rfl, rfl, rfl, by decide +kernel, rfl, by decide +kernel, by decide +kernel⟩
theorem ok_p__law_power {Pr : Program} {w : World} {K : PySem.W.Frag} {mg : PySem.Str → Option Value} {base : Heap} {a : Addr} {fd : FuncData} (cf : Cf K (ca K)) (z : Gf K mg)
    (F : FunD K "_law_power" "_law_power" (defArgs (top 42)) (defBody (top 42)) (defScope (top 42)) [] [] a fd) : FnOk Pr w K mg base (L2.CX Pr w) 1 a fd ["base", "many"] (spE K (ca K) f_p__law_power) :=
  have sc := sc_p__law_power
  fnED (N := ["base", "many", "found", "turn"]) (P := []) (b := b_p__law_power) F sc fun cdv A outer s H E hr =>
  (ss_cons (ss_set sc.nd (by rfl) (by first | exact Or.inl rfl | exact Or.inr rfl) se_int)
  (ss_cons (ss_for psX (by rfl) (si_range1 (by rfl) z.fr_range (se_v (pv 1))) (sg_name sc.nd (by rfl) (by first | exact Or.inl rfl | exact Or.inr rfl)) (ss_one (ss_set sc.nd (by rfl) (by first | exact Or.inl rfl | exact Or.inr rfl) (zb_mul cf (po_v (pv 2)) (po_v (pv 0))))))
  (ss_one (ss_ret (se_v (pv 2))))))
theorem sc_m_Sheet_columns : FnScope ["self"] ["self"] (defScope (sub 12 3)) := ⟨rfl, rfl, rfl, by decide +kernel, rfl, by decide +kernel, by decide +kernel⟩
theorem ok_m_Sheet_columns {Pr : Program} {w : World} {K : PySem.W.Frag} {mg : PySem.Str → Option Value} {base : Heap} {a : Addr} {fd : FuncData} (cf : Cf K (ca K)) (z : Gf K mg)
    (F : FunD K "columns" "Sheet.columns" (defArgs (sub 12 3)) (defBody (sub 12 3)) (defScope (sub 12 3)) [] [] a fd) : FnOk Pr w K mg base (L2.CX Pr w) 1 a fd ["self"] (spE K (ca K) f_m_Sheet_columns) :=
  have sc := sc_m_Sheet_columns
  fnED (N := ["self"]) (P := []) (b := b_m_Sheet_columns) F sc fun cdv A outer s H E hr =>
  (ss_one (ss_ret (zf_list cf z.fr_list (sp_cons (po_e (se_fld cf (po_v (pv 0)))) sp_nil))))
theorem sc_m_Sheet_rows : FnScope ["self"] ["self"] (defScope (sub 12 2)) := ⟨rfl, rfl, rfl, by decide +kernel, rfl, by decide +kernel, by decide +kernel⟩
theorem ok_m_Sheet_rows {Pr : Program} {w : World} {K : PySem.W.Frag} {mg : PySem.Str → Option Value} {base : Heap} {a : Addr} {fd : FuncData} (cf : Cf K (ca K)) (z : Gf K mg)
    (F : FunD K "rows" "Sheet.rows" (defArgs (sub 12 2)) (defBody (sub 12 2)) (defScope (sub 12 2)) [] [] a fd) : FnOk Pr w K mg base (L2.CX Pr w) 1 a fd ["self"] (spE K (ca K) f_m_Sheet_rows) :=
  have sc := sc_m_Sheet_rows
  fnED (N := ["self"]) (P := []) (b := b_m_Sheet_rows) F sc fun cdv A outer s H E hr =>
  (ss_one (ss_ret (se_fld cf (po_v (pv 0)))))
theorem sc_p__law_with_carry : FnScope ["sheet", "carry", "columns", "column"] ["sheet", "carry"] (defScope (top 50)) := ⟨rfl, rfl, rfl, by decide +kernel, rfl, by decide +kernel, by decide +kernel⟩
theorem ok_p__law_with_carry {Pr : Program} {w : World} {K : PySem.W.Frag} {mg : PySem.Str → Option Value} {base : Heap} {a : Addr} {fd : FuncData} (cf : Cf K (ca K)) (z : Gf K mg) (hmak_Sheet : Mak Pr w K mg base (ca K) 3 "Sheet" ["self", "base", "rows", "columns"] f_m_Sheet_zinitz) (hprp_Sheet_base : Prp Pr w K mg base (ca K) 1 "Sheet" "base" ["self"] f_m_Sheet_base) (hprp_Sheet_columns : Prp Pr w K mg base (ca K) 1 "Sheet" "columns" ["self"] f_m_Sheet_columns) (hprp_Sheet_rows : Prp Pr w K mg base (ca K) 1 "Sheet" "rows" ["self"] f_m_Sheet_rows)
    (F : FunD K "_law_with_carry" "_law_with_carry" (defArgs (top 50)) (defBody (top 50)) (defScope (top 50)) [] [] a fd) : FnOk Pr w K mg base (L2.CX Pr w) 5 a fd ["sheet", "carry"] (spE K (ca K) f_p__law_with_carry) :=
  have sc := sc_p__law_with_carry
  fnED (N := ["sheet", "carry", "columns", "column"]) (P := []) (b := b_p__law_with_carry) F sc fun cdv A outer s H E hr =>
  (ss_cons (ss_set sc.nd (by rfl) (by first | exact Or.inl rfl | exact Or.inr rfl) (zb_add cf (po_e (se_lst (sa_cons (zb_add cf (po_e (se_ix cf (po_e (zc_prop hprp_Sheet_columns hr (ag_e (se_v (pv 0))))) (po_e se_int))) (po_e (se_tup (sa_cons (se_v (pv 1)) sa_nil)))) sa_nil))) (po_e (se_fr (so_lc (by rfl) sc.nd (si_e (se_sl (zc_prop hprp_Sheet_columns hr (ag_e (se_v (pv 0)))) (pl_some se_int) pl_none)) (own := [("column", 3)]) (blk_of (by rfl)) (fun _ _ _ _ _ => (sg_name sc.nd (by rfl) (by first | exact Or.inl rfl | exact Or.inr rfl))) (fun _ _ _ _ _ => sts_nil) (fun _ _ _ _ _ => (zb_add cf (po_v (pv 3)) (po_e (se_tup (sa_cons se_int sa_nil))))))))))
  (ss_one (ss_ret (se_fr (zc_make hmak_Sheet hr tkX (sg_cons (ag_e (zc_prop hprp_Sheet_base hr (ag_e (se_v (pv 0))))) (sg_cons (ag_e (zb_add cf (po_e (zc_prop hprp_Sheet_rows hr (ag_e (se_v (pv 0))))) (po_e se_int))) (sg_cons (ag_e (se_v (pv 2))) sg_nil))))))))
theorem sc_m_Adding_zinitz : FnScope ["self", "sheet"] ["self", "sheet"] (defScope (sub 21 0)) := ⟨rfl, rfl, rfl, by decide +kernel, rfl, by decide +kernel, by decide +kernel⟩
theorem ok_m_Adding_zinitz {Pr : Program} {w : World} {K : PySem.W.Frag} {mg : PySem.Str → Option Value} {base : Heap} {a : Addr} {fd : FuncData} (cf : Cf K (ca K)) (z : Gf K mg) (hprp_Sheet_base : Prp Pr w K mg base (ca K) 1 "Sheet" "base" ["self"] f_m_Sheet_base) (hprp_Sheet_columns : Prp Pr w K mg base (ca K) 1 "Sheet" "columns" ["self"] f_m_Sheet_columns)
    (F : FunD K "__init__" "Adding.__init__" (defArgs (sub 21 0)) (defBody (sub 21 0)) (defScope (sub 21 0)) [] [] a fd) : FnOk Pr w K mg base (L2.CX Pr w) 3 a fd ["self", "sheet"] (spE K (ca K) f_m_Adding_zinitz) :=
  have sc := sc_m_Adding_zinitz
  fnED (N := ["self", "sheet"]) (P := [0]) (b := b_m_Adding_zinitz) F sc fun cdv A outer s H E hr =>
  (ss_cons (ss_fld cf (caOf_fld (by decide +kernel)) (pv 0) (zc_prop hprp_Sheet_base hr (ag_e (se_v (pv 1)))))
  (ss_cons (ss_fld cf (caOf_fld (by decide +kernel)) (pv 0) (zc_prop hprp_Sheet_columns hr (ag_e (se_v (pv 1)))))
  (ss_cons (ss_fld cf (caOf_fld (by decide +kernel)) (pv 0) se_int)
  (ss_cons (ss_fld cf (caOf_fld (by decide +kernel)) (pv 0) (se_lst sa_nil))
  (ss_cons (ss_fld cf (caOf_fld (by decide +kernel)) (pv 0) se_int)
  (ss_one (ss_fld cf (caOf_fld (by decide +kernel)) (pv 0) se_non)))))))
theorem sc_p_taken : FnScope ["base", "column", "before", "deed", "figures", "j"] ["base", "column", "before", "deed"] (defScope (top 17)) := ⟨rfl, rfl, rfl, by decide +kernel, rfl, by decide +kernel, by decide +kernel⟩
theorem ok_p_taken {Pr : Program} {w : World} {K : PySem.W.Frag} {mg : PySem.Str → Option Value} {base : Heap} {a : Addr} {fd : FuncData} (cf : Cf K (ca K)) (z : Gf K mg)
    (F : FunD K "taken" "taken" (defArgs (top 17)) (defBody (top 17)) (defScope (top 17)) [] [] a fd) : FnOk Pr w K mg base (L2.CX Pr w) 1 a fd ["base", "column", "before", "deed"] (spE K (ca K) f_p_taken) :=
  have sc := sc_p_taken
  fnED (N := ["base", "column", "before", "deed", "figures", "j"]) (P := []) (b := b_p_taken) F sc fun cdv A outer s H E hr =>
  (ss_cons (ss_if (st_or (zt_is cf (po_v (pv 3)) (po_e se_non)) (st_or1 (zt_notInD cf hr (po_e (se_ix cf (po_v (pv 3)) (po_e se_int))) (po_e (se_tup (sa_cons se_str (sa_cons se_str sa_nil))))))).pt (ss_one (ss_ret (se_v (pv 1)))) ss_nil)
  (ss_cons (ss_setO sc.nd (by rfl) (by first | exact Or.inl rfl | exact Or.inr rfl) (zo_list cf z.fr_list (sp_cons (po_v (pv 1)) sp_nil)))
  (ss_cons (ss_set sc.nd (by rfl) (by first | exact Or.inl rfl | exact Or.inr rfl) (se_ix cf (po_v (pv 3)) (po_e se_int)))
  (ss_cons (ss_if (zt_eqD cf hr (po_e (se_ix cf (po_v (pv 3)) (po_e se_int))) (po_e se_str)) (ss_one (ss_item (zb_mod cf (po_e (zb_add cf (po_e (se_ix cf (po_v (pv 4)) (po_v (pv 5)))) (po_e (se_ix cf (po_v (pv 3)) (po_e se_int))))) (po_v (pv 0))) (pv 4) (se_v (pv 5)))) (ss_one (ss_item (se_ix cf (po_v (pv 2)) (po_v (pv 5))) (pv 4) (se_v (pv 5)))))
  (ss_one (ss_ret (zf_tuple cf z.fr_tuple (sp_cons (po_v (pv 4)) sp_nil))))))))
theorem sc_p_done : FnScope ["base", "column", "before", "carry", "deed", "word", "total", "figure", "new_carry"] ["base", "column", "before", "carry", "deed"] (defScope (top 18)) := ⟨rfl, rfl, rfl, by decide +kernel, rfl, by decide +kernel, by decide +kernel⟩
theorem ok_p_done {Pr : Program} {w : World} {K : PySem.W.Frag} {mg : PySem.Str → Option Value} {base : Heap} {a : Addr} {fd : FuncData} (cf : Cf K (ca K)) (z : Gf K mg) (hcal_taken : Cal Pr w K mg base (ca K) 1 "taken" ["base", "column", "before", "deed"] f_p_taken)
    (F : FunD K "done" "done" (defArgs (top 18)) (defBody (top 18)) (defScope (top 18)) [] [] a fd) : FnOk Pr w K mg base (L2.CX Pr w) 2 a fd ["base", "column", "before", "carry", "deed"] (spE K (ca K) f_p_done) :=
  have sc := sc_p_done
  fnED (N := ["base", "column", "before", "carry", "deed", "word", "total", "figure", "new_carry"]) (P := []) (b := b_p_done) F sc fun cdv A outer s H E hr =>
  (ss_cons (ss_set sc.nd (by rfl) (by first | exact Or.inl rfl | exact Or.inr rfl) se_non)
  (ss_cons (ss_if (zt_isn cf (po_v (pv 4)) (po_e se_non)) (ss_one (ss_set sc.nd (by rfl) (by first | exact Or.inl rfl | exact Or.inr rfl) (se_ix cf (po_v (pv 4)) (po_e se_int)))) ss_nil)
  (ss_cons (ss_if (zt_eqD cf hr (po_v (pv 5)) (po_e se_str)) (ss_one (ss_ret (se_tup (sa_cons (se_lst sa_nil) (sa_cons (se_v (pv 3)) sa_nil))))) ss_nil)
  (ss_cons (ss_if (st_and (zt_eqD cf hr (po_v (pv 5)) (po_e se_str)) (st_and1 (zt_is cf (po_v (pv 2)) (po_e se_non)))).pt (ss_one (ss_ret se_non)) ss_nil)
  (ss_cons (ss_set sc.nd (by rfl) (by first | exact Or.inl rfl | exact Or.inr rfl) (zb_add cf (po_e (zf_sum cf (by rfl) z.fr_sum (sp_cons (po_e (zc_call hcal_taken hr tkX (sg_cons (ag_e (se_v (pv 0))) (sg_cons (ag_e (se_v (pv 1))) (sg_cons (ag_e (se_v (pv 2))) (sg_cons (ag_e (se_v (pv 4))) sg_nil)))))) sp_nil))) (po_v (pv 3))))
  (ss_cons (ss_set sc.nd (by rfl) (by first | exact Or.inl rfl | exact Or.inr rfl) (zb_mod cf (po_v (pv 6)) (po_v (pv 0))))
  (ss_cons (ss_set sc.nd (by rfl) (by first | exact Or.inl rfl | exact Or.inr rfl) (zb_fdiv cf (po_v (pv 6)) (po_v (pv 0))))
  (ss_cons (ss_if (zt_eqD cf hr (po_v (pv 5)) (po_e se_str)) (ss_cons (ss_if (zt_eqD cf hr (po_v (pv 8)) (po_e se_int)) (ss_one (ss_ret se_non)) ss_nil)
  (ss_one (ss_ret (se_tup (sa_cons (se_lst (sa_cons (se_v (pv 7)) sa_nil)) (sa_cons se_int sa_nil)))))) ss_nil)
  (ss_cons (ss_if (zt_eqD cf hr (po_v (pv 5)) (po_e se_str)) (ss_one (ss_ret (se_tup (sa_cons (se_lst (sa_cons (se_v (pv 7)) sa_nil)) (sa_cons (zb_add cf (po_v (pv 8)) (po_e se_int)) sa_nil))))) ss_nil)
  (ss_cons (ss_if (zt_eqD cf hr (po_v (pv 5)) (po_e se_str)) (ss_one (ss_ret (se_tup (sa_cons (se_lst (sa_cons (zb_mod cf (po_e (zb_add cf (po_v (pv 7)) (po_e (se_ix cf (po_v (pv 4)) (po_e se_int))))) (po_v (pv 0))) sa_nil)) (sa_cons (se_v (pv 8)) sa_nil))))) ss_nil)
  (ss_cons (ss_if (zt_eqD cf hr (po_v (pv 5)) (po_e se_str)) (ss_cons (ss_set sc.nd (by rfl) (by first | exact Or.inl rfl | exact Or.inr rfl) (zb_add cf (po_e (zf_sum cf (by rfl) z.fr_sum (sp_cons (po_v (pv 1)) sp_nil))) (po_v (pv 8))))
  (ss_one (ss_ret (se_tup (sa_cons (se_lst (sa_cons (se_v (pv 7)) (sa_cons (zb_mod cf (po_v (pv 6)) (po_v (pv 0))) sa_nil))) (sa_cons (zb_fdiv cf (po_v (pv 6)) (po_v (pv 0))) sa_nil)))))) ss_nil)
  (ss_one (ss_ret (se_tup (sa_cons (se_lst (sa_cons (se_v (pv 7)) sa_nil)) (sa_cons (se_v (pv 8)) sa_nil))))))))))))))))
theorem sc_m_Adding_do : FnScope ["self", "deed", "before", "found", "figures"] ["self", "deed"] (defScope (sub 21 2)) := ⟨rfl, rfl, rfl, by decide +kernel, rfl, by decide +kernel, by decide +kernel⟩
theorem ok_m_Adding_do {Pr : Program} {w : World} {K : PySem.W.Frag} {mg : PySem.Str → Option Value} {base : Heap} {a : Addr} {fd : FuncData} (cf : Cf K (ca K)) (z : Gf K mg) (hcal_done : Cal Pr w K mg base (ca K) 2 "done" ["base", "column", "before", "carry", "deed"] f_p_done)
    (F : FunD K "do" "Adding.do" (defArgs (sub 21 2)) (defBody (sub 21 2)) (defScope (sub 21 2)) [] [] a fd) : FnOk Pr w K mg base (L2.CX Pr w) 3 a fd ["self", "deed"] (spE K (ca K) f_m_Adding_do) :=
  have sc := sc_m_Adding_do
  fnED (N := ["self", "deed", "before", "found", "figures"]) (P := [0]) (b := b_m_Adding_do) F sc fun cdv A outer s H E hr =>
  (ss_cons (ss_set sc.nd (by rfl) (by first | exact Or.inl rfl | exact Or.inr rfl) se_non)
  (ss_cons (ss_if (zt_gt cf (po_e (se_fld cf (po_v (pv 0)))) (po_e se_int)) (ss_one (ss_set sc.nd (by rfl) (by first | exact Or.inl rfl | exact Or.inr rfl) (se_ix cf (po_e (se_fld cf (po_v (pv 0)))) (po_e (zb_sub cf (po_e (se_fld cf (po_v (pv 0)))) (po_e se_int)))))) ss_nil)
  (ss_cons (ss_if (st_and (zt_eqD cf hr (po_v (pv 1)) (po_e (se_tup (sa_cons se_str sa_nil)))) (st_and1 (zt_eqD cf hr (po_e (zb_add cf (po_e (se_fld cf (po_v (pv 0)))) (po_e se_int))) (po_e (zf_len cf z.fr_len (sp_cons (po_e (se_fld cf (po_v (pv 0)))) sp_nil)))))).pt (ss_one (ss_ret se_bl)) ss_nil)
  (ss_cons (ss_set sc.nd (by rfl) (by first | exact Or.inl rfl | exact Or.inr rfl) (zc_call hcal_done hr tkX (sg_cons (ag_e (se_fld cf (po_v (pv 0)))) (sg_cons (ag_e (se_ix cf (po_e (se_fld cf (po_v (pv 0)))) (po_e (se_fld cf (po_v (pv 0)))))) (sg_cons (ag_e (se_v (pv 2))) (sg_cons (ag_e (se_fld cf (po_v (pv 0)))) (sg_cons (ag_e (se_v (pv 1))) sg_nil)))))))
  (ss_cons (ss_if (zt_is cf (po_v (pv 3)) (po_e se_non)) (ss_one (ss_ret se_bl)) ss_nil)
  (ss_cons (ss_asg (se_v (pv 3)) (sg_tup (by rfl) (sgs_cons (sg_name sc.nd (by rfl) (by first | exact Or.inl rfl | exact Or.inr rfl)) (sgs_cons (sg_fld cf (caOf_fld (by decide +kernel)) (pv 0)) sgs_nil))))
  (ss_cons (ss_inc cf (caOf_fld (by decide +kernel)) (pv 0))
  (ss_cons (ss_if (zt_isn cf (po_e (se_fld cf (po_v (pv 0)))) (po_e se_non)) (ss_cons (ss_set sc.nd (by rfl) (by first | exact Or.inl rfl | exact Or.inr rfl) (zb_add cf (po_v (pv 4)) (po_e (se_lst (sa_cons (se_fld cf (po_v (pv 0))) sa_nil)))))
  (ss_one (ss_fld cf (caOf_fld (by decide +kernel)) (pv 0) se_non))) (ss_one (ss_if (zt_eqD cf hr (po_v (pv 1)) (po_e (se_tup (sa_cons se_str sa_nil)))) (ss_cons (ss_fld cf (caOf_fld (by decide +kernel)) (pv 0) (se_ix cf (po_v (pv 4)) (po_e se_int)))
  (ss_one (ss_set sc.nd (by rfl) (by first | exact Or.inl rfl | exact Or.inr rfl) (se_lst sa_nil)))) ss_nil)))
  (ss_cons (ss_fld cf (caOf_fld (by decide +kernel)) (pv 0) (zb_add cf (po_e (se_fld cf (po_v (pv 0)))) (po_v (pv 4))))
  (ss_one (ss_ret se_bl)))))))))))
theorem sc_m_Adding_do_until : FnScope ["self", "column"] ["self", "column"] (defScope (sub 21 3)) := ⟨rfl, rfl, rfl, by decide +kernel, rfl, by decide +kernel, by decide +kernel⟩
theorem ok_m_Adding_do_until {Pr : Program} {w : World} {K : PySem.W.Frag} {mg : PySem.Str → Option Value} {base : Heap} {a : Addr} {fd : FuncData} (cf : Cf K (ca K)) (z : Gf K mg) (hmet_Adding_do : Met Pr w K mg base (ca K) 3 "Adding" "do" ["self", "deed"] f_m_Adding_do)
    (F : FunD K "do_until" "Adding.do_until" (defArgs (sub 21 3)) (defBody (sub 21 3)) (defScope (sub 21 3)) [] [] a fd) : FnOk Pr w K mg base (L2.CX Pr w) 4 a fd ["self", "column"] (spE K (ca K) f_m_Adding_do_until) :=
  have sc := sc_m_Adding_do_until
  fnED (N := ["self", "column"]) (P := [0]) (b := b_m_Adding_do_until) F sc fun cdv A outer s H E hr =>
  (ss_one (ss_while psX (zt_lt cf (po_e (se_fld cf (po_v (pv 0)))) (po_v (pv 1))) (ss_one (ss_drop (zc_meth hmet_Adding_do hr tkX (ag_mu (pv 0)) (sg_cons (ag_e se_non) sg_nil))))))
theorem sc_m_Adding_free : FnScope ["self"] ["self"] (defScope (sub 21 1)) := ⟨rfl, rfl, rfl, by decide +kernel, rfl, by decide +kernel, by decide +kernel⟩
theorem ok_m_Adding_free {Pr : Program} {w : World} {K : PySem.W.Frag} {mg : PySem.Str → Option Value} {base : Heap} {a : Addr} {fd : FuncData} (cf : Cf K (ca K)) (z : Gf K mg)
    (F : FunD K "free" "Adding.free" (defArgs (sub 21 1)) (defBody (sub 21 1)) (defScope (sub 21 1)) [] [] a fd) : FnOk Pr w K mg base (L2.CX Pr w) 1 a fd ["self"] (spE K (ca K) f_m_Adding_free) :=
  have sc := sc_m_Adding_free
  fnED (N := ["self"]) (P := [0]) (b := b_m_Adding_free) F sc fun cdv A outer s H E hr =>
  (ss_cons (ss_if (zt_is cf (po_e (se_fld cf (po_v (pv 0)))) (po_e se_non)) (ss_one (ss_ret (se_fld cf (po_v (pv 0))))) ss_nil)
  (ss_one (ss_ret (zb_add cf (po_e (se_fld cf (po_v (pv 0)))) (po_e se_int)))))
theorem sc_m_Adding_result : FnScope ["self"] ["self"] (defScope (sub 21 4)) := ⟨rfl, rfl, rfl, by decide +kernel, rfl, by decide +kernel, by decide +kernel⟩
theorem ok_m_Adding_result {Pr : Program} {w : World} {K : PySem.W.Frag} {mg : PySem.Str → Option Value} {base : Heap} {a : Addr} {fd : FuncData} (cf : Cf K (ca K)) (z : Gf K mg) (hmak_Written : Mak Pr w K mg base (ca K) 1 "Written" ["self", "base", "figures", "last"] f_m_Written_zinitz) (hmet_Adding_do_until : Met Pr w K mg base (ca K) 4 "Adding" "do_until" ["self", "column"] f_m_Adding_do_until)
    (F : FunD K "result" "Adding.result" (defArgs (sub 21 4)) (defBody (sub 21 4)) (defScope (sub 21 4)) [] [] a fd) : FnOk Pr w K mg base (L2.CX Pr w) 5 a fd ["self"] (spE K (ca K) f_m_Adding_result) :=
  have sc := sc_m_Adding_result
  fnED (N := ["self"]) (P := [0]) (b := b_m_Adding_result) F sc fun cdv A outer s H E hr =>
  (ss_cons (ss_drop (zc_meth hmet_Adding_do_until hr tkX (ag_mu (pv 0)) (sg_cons (ag_e (zf_len cf z.fr_len (sp_cons (po_e (se_fld cf (po_v (pv 0)))) sp_nil))) sg_nil)))
  (ss_one (ss_ret (se_fr (zc_make hmak_Written hr tkX (sg_cons (ag_e (se_fld cf (po_v (pv 0)))) (sg_cons (ag_e (se_fld cf (po_v (pv 0)))) (sg_cons (ag_e (se_fld cf (po_v (pv 0)))) sg_nil))))))))
theorem sc_p_is_deed : FnScope ["value", "base", "rows", "word", "part"] ["value", "base", "rows"] (defScope (top 16)) := ⟨rfl, rfl, rfl, by decide +kernel, rfl, by decide +kernel, by decide +kernel⟩
theorem ok_p_is_deed {Pr : Program} {w : World} {K : PySem.W.Frag} {mg : PySem.Str → Option Value} {base : Heap} {a : Addr} {fd : FuncData} (cf : Cf K (ca K)) (z : Gf K mg) (hcal_is_integer : Cal Pr w K mg base (ca K) 1 "is_integer" ["value"] f_p_is_integer)
    (F : FunD K "is_deed" "is_deed" (defArgs (top 16)) (defBody (top 16)) (defScope (top 16)) [] [] a fd) : FnOk Pr w K mg base (L2.CX Pr w) 2 a fd ["value", "base", "rows"] (spE K (ca K) f_p_is_deed) :=
  have sc := sc_p_is_deed
  fnED (N := ["value", "base", "rows", "word", "part"]) (P := []) (b := b_p_is_deed) F sc fun cdv A outer s H E hr =>
  (ss_cons (ss_if (st_or (st_not (st_tru cf (po_e (se_isi cf (T := "tuple") (by decide +kernel) (by rfl) z.fr_isinstance (by rfl) z.fr_tuple (by decide +kernel) boot_isinstance (po_v (pv 0)))))) (st_or (zt_eqD cf hr (po_e (zf_len cf z.fr_len (sp_cons (po_v (pv 0)) sp_nil))) (po_e se_int)) (st_or1 (st_not (st_tru cf (po_e (se_isi cf (T := "str") (by decide +kernel) (by rfl) z.fr_isinstance (by rfl) z.fr_str (by decide +kernel) boot_isinstance (po_e (se_ix cf (po_v (pv 0)) (po_e se_int)))))))))).pt (ss_one (ss_ret se_bl)) ss_nil)
  (ss_cons (ss_if (st_not (st_tru cf (po_e (zf_all cf (by rfl) z.fr_all (sp_cons (po_e (se_fr (so_lc (by rfl) sc.nd (si_e (se_sl (se_v (pv 0)) (pl_some se_int) pl_none)) (own := [("part", 4)]) (blk_of (by rfl)) (fun _ _ _ _ _ => (sg_name sc.nd (by rfl) (by first | exact Or.inl rfl | exact Or.inr rfl))) (fun _ _ _ _ _ => sts_nil) (fun _ _ _ _ _ => (zc_call hcal_is_integer hr Ev.takes0 (sg_cons (ag_e (se_v (pv 4))) sg_nil)))))) sp_nil))))) (ss_one (ss_ret se_bl)) ss_nil)
  (ss_cons (ss_set sc.nd (by rfl) (by first | exact Or.inl rfl | exact Or.inr rfl) (se_ix cf (po_v (pv 0)) (po_e se_int)))
  (ss_cons (ss_if (zt_inD cf hr (po_v (pv 3)) (po_e (zc_glob z.co_PLAIN z.cr_PLAIN))) (ss_one (ss_ret (zb_eq cf hr (po_e (zf_len cf z.fr_len (sp_cons (po_v (pv 0)) sp_nil))) (po_e se_int)))) ss_nil)
  (ss_cons (ss_if (zt_eqD cf hr (po_v (pv 3)) (po_e se_str)) (ss_one (ss_ret (se_and (zb_eq cf hr (po_e (zf_len cf z.fr_len (sp_cons (po_v (pv 0)) sp_nil))) (po_e se_int)) (se_one (se_chain op_le ok_IB op_lt ok_IB se_int (se_ix cf (po_v (pv 0)) (po_e se_int)) (se_v (pv 1))))))) ss_nil)
  (ss_cons (ss_if (zt_eqD cf hr (po_v (pv 3)) (po_e se_str)) (ss_one (ss_ret (se_and (zb_eq cf hr (po_e (zf_len cf z.fr_len (sp_cons (po_v (pv 0)) sp_nil))) (po_e se_int)) (se_one (se_chain op_le ok_IB op_lt ok_IB se_int (se_ix cf (po_v (pv 0)) (po_e se_int)) (se_v (pv 2))))))) ss_nil)
  (ss_one (ss_ret (se_and (zb_eq cf hr (po_v (pv 3)) (po_e se_str)) (se_and (zb_eq cf hr (po_e (zf_len cf z.fr_len (sp_cons (po_v (pv 0)) sp_nil))) (po_e se_int)) (se_and (se_chain op_le ok_IB op_lt ok_IB se_int (se_ix cf (po_v (pv 0)) (po_e se_int)) (se_v (pv 2))) (se_one (se_chain op_le ok_IB op_lt ok_IB se_int (se_ix cf (po_v (pv 0)) (po_e se_int)) (se_v (pv 1)))))))))))))))
theorem sc_p_is_slip : FnScope ["value", "sheet", "low"] ["value", "sheet", "low"] (defScope (top 22)) := ⟨rfl, rfl, rfl, by decide +kernel, rfl, by decide +kernel, by decide +kernel⟩
theorem ok_p_is_slip {Pr : Program} {w : World} {K : PySem.W.Frag} {mg : PySem.Str → Option Value} {base : Heap} {a : Addr} {fd : FuncData} (cf : Cf K (ca K)) (z : Gf K mg) (hcal_is_deed : Cal Pr w K mg base (ca K) 2 "is_deed" ["value", "base", "rows"] f_p_is_deed) (hcal_is_integer : Cal Pr w K mg base (ca K) 1 "is_integer" ["value"] f_p_is_integer) (hmet_Sheet_zlenz : Met Pr w K mg base (ca K) 1 "Sheet" "__len__" ["self"] f_m_Sheet_zlenz) (hprp_Sheet_base : Prp Pr w K mg base (ca K) 1 "Sheet" "base" ["self"] f_m_Sheet_base) (hprp_Sheet_rows : Prp Pr w K mg base (ca K) 1 "Sheet" "rows" ["self"] f_m_Sheet_rows)
    (F : FunD K "is_slip" "is_slip" (defArgs (top 22)) (defBody (top 22)) (defScope (top 22)) [] [] a fd) : FnOk Pr w K mg base (L2.CX Pr w) 3 a fd ["value", "sheet", "low"] (spE K (ca K) f_p_is_slip) :=
  have sc := sc_p_is_slip
  fnED (N := ["value", "sheet", "low"]) (P := []) (b := b_p_is_slip) F sc fun cdv A outer s H E hr =>
  (ss_cons (ss_if (st_or (st_not (st_tru cf (po_e (se_isi cf (T := "tuple") (by decide +kernel) (by rfl) z.fr_isinstance (by rfl) z.fr_tuple (by decide +kernel) boot_isinstance (po_v (pv 0)))))) (st_or (zt_neD cf hr (po_e (zf_len cf z.fr_len (sp_cons (po_v (pv 0)) sp_nil))) (po_e se_int)) (st_or1 (st_not (st_tru cf (po_e (zc_call hcal_is_integer hr tkX (sg_cons (ag_e (se_ix cf (po_v (pv 0)) (po_e se_int))) sg_nil)))))))).pt (ss_one (ss_ret se_bl)) ss_nil)
  (ss_one (ss_ret (se_and (se_chain op_le ok_IB op_lt ok_IB (se_v (pv 2)) (se_ix cf (po_v (pv 0)) (po_e se_int)) (zc_len hmet_Sheet_zlenz hr z.fr_len (se_v (pv 1)))) (se_one (zc_call hcal_is_deed hr tkX (sg_cons (ag_e (se_ix cf (po_v (pv 0)) (po_e se_int))) (sg_cons (ag_e (zc_prop hprp_Sheet_base hr (ag_e (se_v (pv 1))))) (sg_cons (ag_e (zc_prop hprp_Sheet_rows hr (ag_e (se_v (pv 1))))) sg_nil)))))))))
theorem sc_p_add_with : FnScope ["sheet", "slips", "adding", "index", "item"] ["sheet", "slips"] (defScope (top 24)) := ⟨rfl, rfl, rfl, by decide +kernel, rfl, by decide +kernel, by decide +kernel⟩
theorem ok_p_add_with {Pr : Program} {w : World} {K : PySem.W.Frag} {mg : PySem.Str → Option Value} {base : Heap} {a : Addr} {fd : FuncData} (cf : Cf K (ca K)) (z : Gf K mg) (hcal_is_slip : Cal Pr w K mg base (ca K) 3 "is_slip" ["value", "sheet", "low"] f_p_is_slip) (hmak_Adding : Mak Pr w K mg base (ca K) 3 "Adding" ["self", "sheet"] f_m_Adding_zinitz) (hmet_Adding_do : Met Pr w K mg base (ca K) 3 "Adding" "do" ["self", "deed"] f_m_Adding_do) (hmet_Adding_do_until : Met Pr w K mg base (ca K) 4 "Adding" "do_until" ["self", "column"] f_m_Adding_do_until) (hmet_Adding_free : Met Pr w K mg base (ca K) 1 "Adding" "free" ["self"] f_m_Adding_free) (hmet_Adding_result : Met Pr w K mg base (ca K) 5 "Adding" "result" ["self"] f_m_Adding_result) (hrai_InvalidSlips : Rai Pr w K mg base (ca K) 1 "InvalidSlips")
    (F : FunD K "add_with" "add_with" (defArgs (top 24)) (defBody (top 24)) (defScope (top 24)) [] [] a fd) : FnOk Pr w K mg base (L2.CX Pr w) 6 a fd ["sheet", "slips"] (spE K (ca K) f_p_add_with) :=
  have sc := sc_p_add_with
  fnED (N := ["sheet", "slips", "adding", "index", "item"]) (P := []) (b := b_p_add_with) F sc fun cdv A outer s H E hr =>
  (ss_cons (ss_setO sc.nd (by rfl) (by first | exact Or.inl rfl | exact Or.inr rfl) (zc_make hmak_Adding hr tkX (sg_cons (ag_e (se_v (pv 0))) sg_nil)))
  (ss_cons (ss_for psX (by rfl) (si_enum (by rfl) z.fr_enumerate (se_v (pv 1))) (sg_tup (by rfl) (sgs_cons (sg_name sc.nd (by rfl) (by first | exact Or.inl rfl | exact Or.inr rfl)) (sgs_cons (sg_name sc.nd (by rfl) (by first | exact Or.inl rfl | exact Or.inr rfl)) sgs_nil))) (ss_cons (ss_if (st_not (st_tru cf (po_e (zc_call hcal_is_slip hr tkX (sg_cons (ag_e (se_v (pv 4))) (sg_cons (ag_e (se_v (pv 0))) (sg_cons (ag_e (zc_meth0 hmet_Adding_free hr tkX (ag_mu (pv 2)))) sg_nil))))))) (ss_one (zr_raise hrai_InvalidSlips hr tkX (se_v (pv 3)))) ss_nil)
  (ss_cons (ss_drop (zc_meth hmet_Adding_do_until hr tkX (ag_mu (pv 2)) (sg_cons (ag_e (se_ix cf (po_v (pv 4)) (po_e se_int))) sg_nil)))
  (ss_one (ss_if (st_not (st_tru cf (po_e (zc_meth hmet_Adding_do hr tkX (ag_mu (pv 2)) (sg_cons (ag_e (se_ix cf (po_v (pv 4)) (po_e se_int))) sg_nil))))) (ss_one (zr_raise hrai_InvalidSlips hr tkX (se_v (pv 3)))) ss_nil)))))
  (ss_one (ss_ret (zc_meth0 hmet_Adding_result hr tkX (ag_mu (pv 2)))))))
theorem sc_p__law_written : FnScope ["sheet", "slips", "found"] ["sheet", "slips"] (defScope (top 47)) := ⟨rfl, rfl, rfl, by decide +kernel, rfl, by decide +kernel, by decide +kernel⟩
theorem ok_p__law_written {Pr : Program} {w : World} {K : PySem.W.Frag} {mg : PySem.Str → Option Value} {base : Heap} {a : Addr} {fd : FuncData} (cf : Cf K (ca K)) (z : Gf K mg) (hcal_add_with : Cal Pr w K mg base (ca K) 6 "add_with" ["sheet", "slips"] f_p_add_with) (hrai_InvalidSlips : Rai Pr w K mg base (ca K) 1 "InvalidSlips")
    (F : FunD K "_law_written" "_law_written" (defArgs (top 47)) (defBody (top 47)) (defScope (top 47)) [] [] a fd) : FnOk Pr w K mg base (L2.CX Pr w) 7 a fd ["sheet", "slips"] (spE K (ca K) f_p__law_written) :=
  have sc := sc_p__law_written
  fnED (N := ["sheet", "slips", "found"]) (P := []) (b := b_p__law_written) F sc fun cdv A outer s H E hr =>
  (ss_cons (ss_set sc.nd (by rfl) (by first | exact Or.inl rfl | exact Or.inr rfl) se_non)
  (ss_cons (zr_try hrai_InvalidSlips tkX (fun W1 pn1 xe1 tk1 po1 => (ss_one (ss_set sc.nd (by rfl) (by first | exact Or.inl rfl | exact Or.inr rfl) (zc_call hcal_add_with hr tk1 (sg_cons (ag_e (se_v (pv 0))) (sg_cons (ag_e (se_v (pv 1))) sg_nil)))))) (fun a1 oe1 cls1 d1 pn1 z1 v1 => (ss_one (ss_set sc.nd (by rfl) (by first | exact Or.inl rfl | exact Or.inr rfl) se_non))))
  (ss_one (ss_ret (se_v (pv 2))))))
theorem sc_p_add_right : FnScope ["sheet"] ["sheet"] (defScope (top 23)) := ⟨rfl, rfl, rfl, by decide +kernel, rfl, by decide +kernel, by decide +kernel⟩
theorem ok_p_add_right {Pr : Program} {w : World} {K : PySem.W.Frag} {mg : PySem.Str → Option Value} {base : Heap} {a : Addr} {fd : FuncData} (cf : Cf K (ca K)) (z : Gf K mg) (hmak_Adding : Mak Pr w K mg base (ca K) 3 "Adding" ["self", "sheet"] f_m_Adding_zinitz) (hmet_Adding_result : Met Pr w K mg base (ca K) 5 "Adding" "result" ["self"] f_m_Adding_result)
    (F : FunD K "add_right" "add_right" (defArgs (top 23)) (defBody (top 23)) (defScope (top 23)) [] [] a fd) : FnOk Pr w K mg base (L2.CX Pr w) 6 a fd ["sheet"] (spE K (ca K) f_p_add_right) :=
  have sc := sc_p_add_right
  fnED (N := ["sheet"]) (P := []) (b := b_p_add_right) F sc fun cdv A outer s H E hr =>
  (ss_one (ss_ret (zc_meth0 hmet_Adding_result hr tkX (ag_t (zc_make hmak_Adding hr tkX (sg_cons (ag_e (se_v (pv 0))) sg_nil))))))
theorem sc_p__law_carry_right : FnScope ["sheet", "at", "told", "other", "first", "second", "power", "base"] ["sheet", "at"] (defScope (top 51)) := ⟨rfl, rfl, rfl, by decide +kernel, rfl, by decide +kernel, by decide +kernel⟩
theorem ok_p__law_carry_right {Pr : Program} {w : World} {K : PySem.W.Frag} {mg : PySem.Str → Option Value} {base : Heap} {a : Addr} {fd : FuncData} (cf : Cf K (ca K)) (z : Gf K mg) (hbd_Written_Sheet_zsubz : BinD K (He.ga K "Written") (He.ga K "Sheet") "__sub__" "__rsub__") (hcal__law_power : Cal Pr w K mg base (ca K) 1 "_law_power" ["base", "many"] f_p__law_power) (hcal__law_with_carry : Cal Pr w K mg base (ca K) 5 "_law_with_carry" ["sheet", "carry"] f_p__law_with_carry) (hcal__law_written : Cal Pr w K mg base (ca K) 7 "_law_written" ["sheet", "slips"] f_p__law_written) (hcal_add_right : Cal Pr w K mg base (ca K) 6 "add_right" ["sheet"] f_p_add_right) (hcal_add_with : Cal Pr w K mg base (ca K) 6 "add_with" ["sheet", "slips"] f_p_add_with) (hmak_Written : Mak Pr w K mg base (ca K) 1 "Written" ["self", "base", "figures", "last"] f_m_Written_zinitz) (hmet_Sheet_zlenz : Met Pr w K mg base (ca K) 1 "Sheet" "__len__" ["self"] f_m_Sheet_zlenz) (hmet_Sheet_cut : Met Pr w K mg base (ca K) 5 "Sheet" "cut" ["self", "low", "high"] f_m_Sheet_cut) (hmet_Written_zeqz : Met Pr w K mg base (ca K) 1 "Written" "__eq__" ["self", "other"] f_m_Written_zeqz) (hmet_Written_zsubz : Met Pr w K mg base (ca K) 3 "Written" "__sub__" ["self", "other"] f_m_Written_zsubz) (hne_Written : NeC K (He.ga K "Written")) (hprp_Sheet_base : Prp Pr w K mg base (ca K) 1 "Sheet" "base" ["self"] f_m_Sheet_base) (hprp_Written_figures : Prp Pr w K mg base (ca K) 1 "Written" "figures" ["self"] f_m_Written_figures) (hprp_Written_last : Prp Pr w K mg base (ca K) 1 "Written" "last" ["self"] f_m_Written_last)
    (F : FunD K "_law_carry_right" "_law_carry_right" (defArgs (top 51)) (defBody (top 51)) (defScope (top 51)) [] [] a fd) : FnOk Pr w K mg base (L2.CX Pr w) 8 a fd ["sheet", "at"] (spE K (ca K) f_p__law_carry_right) :=
  have sc := sc_p__law_carry_right
  fnED (N := ["sheet", "at", "told", "other", "first", "second", "power", "base"]) (P := []) (b := b_p__law_carry_right) F sc fun cdv A outer s H E hr =>
  (ss_cons (by first | exact ss_par3 (by rfl) sc.nd (by rfl) (by rfl) (by rfl) (by decide) (by decide) (by decide) (by rfl) (by rfl) (by rfl) (sg_cons (ag_e (zc_call hcal_add_right hr tkX (sg_cons (ag_e (zc_meth hmet_Sheet_cut hr tkX (ag_e (se_v (pv 0))) (sg_cons (ag_e se_int) (sg_cons (ag_e (zb_add cf (po_v (pv 1)) (po_e se_int))) sg_nil)))) sg_nil))) (sg_cons (ag_e (zc_meth hmet_Sheet_cut hr tkX (ag_e (se_v (pv 0))) (sg_cons (ag_e (zb_add cf (po_v (pv 1)) (po_e se_int))) (sg_cons (ag_e (zc_len hmet_Sheet_zlenz hr z.fr_len (se_v (pv 0)))) sg_nil)))) (sg_cons (ag_e (zc_call hcal__law_power hr tkX (sg_cons (ag_e (zc_prop hprp_Sheet_base hr (ag_e (se_v (pv 0))))) (sg_cons (ag_e (zb_add cf (po_v (pv 1)) (po_e se_int))) sg_nil)))) sg_nil))) (by rfl) | exact ss_parT (by rfl) (is := [4, 5, 6]) (pgs_cons (pg_name sc.nd (by rfl) (by first | exact Or.inl rfl | exact Or.inr rfl) (by first | exact .inl rfl | exact .inr rfl)) (pgs_cons (pg_name sc.nd (by rfl) (by first | exact Or.inl rfl | exact Or.inr rfl) (by first | exact .inl rfl | exact .inr rfl)) (pgs_cons (pg_name sc.nd (by rfl) (by first | exact Or.inl rfl | exact Or.inr rfl) (by first | exact .inl rfl | exact .inr rfl)) pgs_nil))) (sg_cons (ag_e (zc_call hcal_add_right hr tkX (sg_cons (ag_e (zc_meth hmet_Sheet_cut hr tkX (ag_e (se_v (pv 0))) (sg_cons (ag_e se_int) (sg_cons (ag_e (zb_add cf (po_v (pv 1)) (po_e se_int))) sg_nil)))) sg_nil))) (sg_cons (ag_e (zc_meth hmet_Sheet_cut hr tkX (ag_e (se_v (pv 0))) (sg_cons (ag_e (zb_add cf (po_v (pv 1)) (po_e se_int))) (sg_cons (ag_e (zc_len hmet_Sheet_zlenz hr z.fr_len (se_v (pv 0)))) sg_nil)))) (sg_cons (ag_e (zc_call hcal__law_power hr tkX (sg_cons (ag_e (zc_prop hprp_Sheet_base hr (ag_e (se_v (pv 0))))) (sg_cons (ag_e (zb_add cf (po_v (pv 1)) (po_e se_int))) sg_nil)))) sg_nil))))
  (ss_cons (by first | exact ss_par2 (by rfl) sc.nd (by rfl) (by rfl) (by decide) (by rfl) (by rfl) (sg_cons (ag_e (zc_call hcal__law_written hr tkX (sg_cons (ag_e (se_v (pv 0))) (sg_cons (ag_e (se_lst (sa_cons (se_tup (sa_cons (se_v (pv 1)) (sa_cons (se_tup (sa_cons se_str sa_nil)) sa_nil))) sa_nil))) sg_nil)))) (sg_cons (ag_e (zc_prop hprp_Sheet_base hr (ag_e (se_v (pv 0))))) sg_nil)) (by rfl) | exact ss_parT (by rfl) (is := [2, 7]) (pgs_cons (pg_name sc.nd (by rfl) (by first | exact Or.inl rfl | exact Or.inr rfl) (by first | exact .inl rfl | exact .inr rfl)) (pgs_cons (pg_name sc.nd (by rfl) (by first | exact Or.inl rfl | exact Or.inr rfl) (by first | exact .inl rfl | exact .inr rfl)) pgs_nil)) (sg_cons (ag_e (zc_call hcal__law_written hr tkX (sg_cons (ag_e (se_v (pv 0))) (sg_cons (ag_e (se_lst (sa_cons (se_tup (sa_cons (se_v (pv 1)) (sa_cons (se_tup (sa_cons se_str sa_nil)) sa_nil))) sa_nil))) sg_nil)))) (sg_cons (ag_e (zc_prop hprp_Sheet_base hr (ag_e (se_v (pv 0))))) sg_nil)))
  (ss_cons (ss_if (zt_neD cf hr (po_e (zb_is cf (po_v (pv 2)) (po_e se_non))) (po_e (zb_eq cf hr (po_e (zc_prop hprp_Written_last hr (ag_e (se_v (pv 4))))) (po_e se_int)))) (ss_one (ss_ret se_bl)) ss_nil)
  (ss_cons (ss_if (zt_isn cf (po_v (pv 2)) (po_e se_non)) (ss_cons (ss_set sc.nd (by rfl) (by first | exact Or.inl rfl | exact Or.inr rfl) (zc_call hcal_add_right hr tkX (sg_cons (ag_e (se_v (pv 5))) sg_nil)))
  (ss_one (ss_if (st_or (zt_ne hmet_Written_zeqz hne_Written hr (se_v (pv 2)) (se_fr (zc_make hmak_Written hr tkX (sg_cons (ag_e (se_v (pv 7))) (sg_cons (ag_e (zb_add cf (po_e (zc_prop hprp_Written_figures hr (ag_e (se_v (pv 4))))) (po_e (zc_prop hprp_Written_figures hr (ag_e (se_v (pv 3))))))) (sg_cons (ag_e (zc_prop hprp_Written_last hr (ag_e (se_v (pv 3))))) sg_nil)))))) (st_or1 (zt_neD cf hr (po_e (zc_binD hmet_Written_zsubz hbd_Written_Sheet_zsubz hr (se_v (pv 2)) (se_v (pv 0)))) (po_e (zb_sub cf (po_e se_int) (po_e (zb_mul cf (po_e (zc_prop hprp_Written_last hr (ag_e (se_v (pv 4))))) (po_v (pv 6))))))))).pt (ss_one (ss_ret se_bl)) ss_nil))) ss_nil)
  (ss_cons (ss_set sc.nd (by rfl) (by first | exact Or.inl rfl | exact Or.inr rfl) (zc_call hcal_add_with hr tkX (sg_cons (ag_e (se_v (pv 0))) (sg_cons (ag_e (se_lst (sa_cons (se_tup (sa_cons (se_v (pv 1)) (sa_cons (se_tup (sa_cons se_str sa_nil)) sa_nil))) sa_nil))) sg_nil))))
  (ss_cons (ss_if (zt_neD cf hr (po_e (zc_binD hmet_Written_zsubz hbd_Written_Sheet_zsubz hr (se_v (pv 2)) (se_v (pv 0)))) (po_v (pv 6))) (ss_one (ss_ret se_bl)) ss_nil)
  (ss_cons (ss_if (zt_eqD cf hr (po_e (zc_len hmet_Sheet_zlenz hr z.fr_len (se_v (pv 5)))) (po_e se_int)) (ss_one (ss_ret (zc_eq hmet_Written_zeqz hr (se_v (pv 2)) (se_fr (zc_make hmak_Written hr tkX (sg_cons (ag_e (se_v (pv 7))) (sg_cons (ag_e (zc_prop hprp_Written_figures hr (ag_e (se_v (pv 4))))) (sg_cons (ag_e (zb_add cf (po_e (zc_prop hprp_Written_last hr (ag_e (se_v (pv 4))))) (po_e se_int))) sg_nil)))))))) ss_nil)
  (ss_cons (ss_if (zt_ge cf (po_e (zb_add cf (po_e (zc_prop hprp_Written_last hr (ag_e (se_v (pv 4))))) (po_e se_int))) (po_v (pv 7))) (ss_one (ss_ret se_bl)) ss_nil)
  (ss_cons (ss_set sc.nd (by rfl) (by first | exact Or.inl rfl | exact Or.inr rfl) (zc_call hcal_add_right hr tkX (sg_cons (ag_e (zc_call hcal__law_with_carry hr tkX (sg_cons (ag_e (se_v (pv 5))) (sg_cons (ag_e (zb_add cf (po_e (zc_prop hprp_Written_last hr (ag_e (se_v (pv 4))))) (po_e se_int))) sg_nil)))) sg_nil)))
  (ss_one (ss_ret (zc_eq hmet_Written_zeqz hr (se_v (pv 2)) (se_fr (zc_make hmak_Written hr tkX (sg_cons (ag_e (se_v (pv 7))) (sg_cons (ag_e (zb_add cf (po_e (zc_prop hprp_Written_figures hr (ag_e (se_v (pv 4))))) (po_e (zc_prop hprp_Written_figures hr (ag_e (se_v (pv 3))))))) (sg_cons (ag_e (zc_prop hprp_Written_last hr (ag_e (se_v (pv 3))))) sg_nil)))))))))))))))))
theorem sc_p__law_take : FnScope ["bag", "many", "mixed", "found"] ["bag", "many"] (defScope (top 40)) := ⟨rfl, rfl, rfl, by decide +kernel, rfl, by decide +kernel, by decide +kernel⟩
theorem ok_p__law_take {Pr : Program} {w : World} {K : PySem.W.Frag} {mg : PySem.Str → Option Value} {base : Heap} {a : Addr} {fd : FuncData} (cf : Cf K (ca K)) (z : Gf K mg)
    (F : FunD K "_law_take" "_law_take" (defArgs (top 40)) (defBody (top 40)) (defScope (top 40)) [] [] a fd) : FnOk Pr w K mg base (L2.CX Pr w) 1 a fd ["bag", "many"] (spE K (ca K) f_p__law_take) :=
  have sc := sc_p__law_take
  fnED (N := ["bag", "many", "mixed", "found"]) (P := [0]) (b := b_p__law_take) F sc fun cdv A outer s H E hr =>
  (ss_cons (ss_if (zt_gt cf (po_e (se_ix cf (po_v (pv 0)) (po_e se_int))) (po_e se_int)) (ss_cons (ss_set sc.nd (by rfl) (by first | exact Or.inl rfl | exact Or.inr rfl) (zb_mod cf (po_e (zf_int cf z.fr_int (sp_cons (po_e (se_ix cf (po_v (pv 0)) (po_e se_int))) sp_nil))) (po_v (pv 1))))
  (ss_cons (ss_item (zb_fdiv cf (po_e (se_ix cf (po_v (pv 0)) (po_e se_int))) (po_v (pv 1))) (pv 0) se_int)
  (ss_one (ss_ret (se_v (pv 3)))))) ss_nil)
  (ss_cons (ss_item (zb_add cf (po_e (se_ix cf (po_v (pv 0)) (po_e se_int))) (po_e se_int)) (pv 0) se_int)
  (ss_cons (ss_set sc.nd (by rfl) (by first | exact Or.inl rfl | exact Or.inr rfl) (zb_mod cf (po_e (zf_int cf z.fr_int (sp_cons (po_e (zb_add cf (po_e (zb_pow cf (po_e (zb_add cf (po_e (se_ix cf (po_v (pv 0)) (po_e se_int))) (po_e (zb_mul cf (po_e se_int) (po_e (se_ix cf (po_v (pv 0)) (po_e se_int))))))) (po_e se_int))) (po_e (zb_mul cf (po_e se_int) (po_e (se_ix cf (po_v (pv 0)) (po_e se_int))))))) sp_nil))) (po_e (zb_add cf (po_e (zb_pow cf (po_e se_int) (po_e se_int))) (po_e se_int)))))
  (ss_cons (ss_set sc.nd (by rfl) (by first | exact Or.inl rfl | exact Or.inr rfl) (zb_mod cf (po_e (zf_int cf z.fr_int (sp_cons (po_e (zb_add cf (po_e (zb_pow cf (po_v (pv 2)) (po_e se_int))) (po_e (se_ix cf (po_v (pv 0)) (po_e se_int))))) sp_nil))) (po_e (zb_add cf (po_e (zb_pow cf (po_e se_int) (po_e se_int))) (po_e se_int)))))
  (ss_one (ss_ret (zb_mod cf (po_e (zf_int cf z.fr_int (sp_cons (po_e (zb_fdiv cf (po_v (pv 2)) (po_e se_int))) sp_nil))) (po_v (pv 1)))))))))
theorem sc_p__law_column : FnScope ["bag", "base", "rows", "row"] ["bag", "base", "rows"] (defScope (top 43)) := ⟨rfl, rfl, rfl, by decide +kernel, rfl, by decide +kernel, by decide +kernel⟩
theorem ok_p__law_column {Pr : Program} {w : World} {K : PySem.W.Frag} {mg : PySem.Str → Option Value} {base : Heap} {a : Addr} {fd : FuncData} (cf : Cf K (ca K)) (z : Gf K mg) (hcal__law_take : Cal Pr w K mg base (ca K) 1 "_law_take" ["bag", "many"] f_p__law_take)
    (F : FunD K "_law_column" "_law_column" (defArgs (top 43)) (defBody (top 43)) (defScope (top 43)) [] [] a fd) : FnOk Pr w K mg base (L2.CX Pr w) 2 a fd ["bag", "base", "rows"] (spE K (ca K) f_p__law_column) :=
  have sc := sc_p__law_column
  fnED (N := ["bag", "base", "rows", "row"]) (P := [0]) (b := b_p__law_column) F sc fun cdv A outer s H E hr =>
  (ss_one (ss_ret (zf_tuple cf z.fr_tuple (sp_cons (po_e (se_fr (so_lc (by rfl) sc.nd (si_range1 (by rfl) z.fr_range (se_v (pv 2))) (own := [("row", 3)]) (blk_of (by rfl)) (fun _ _ _ _ _ => (sg_name sc.nd (by rfl) (by first | exact Or.inl rfl | exact Or.inr rfl))) (fun _ _ _ _ _ => sts_nil) (fun _ _ _ _ _ => (zc_call hcal__law_take hr Ev.takes0 (sg_cons (ag_mu (pv 0)) (sg_cons (ag_e (se_v (pv 1))) sg_nil))))))) sp_nil))))
theorem sc_p__law_marked : FnScope ["bag", "sheet", "right", "lap", "slips", "figures", "gap", "at", "way", "power", "act", "figure", "one", "other"] ["bag", "sheet", "right"] (defScope (top 49)) := ⟨rfl, rfl, rfl, by decide +kernel, rfl, by decide +kernel, by decide +kernel⟩
theorem ok_p__law_marked {Pr : Program} {w : World} {K : PySem.W.Frag} {mg : PySem.Str → Option Value} {base : Heap} {a : Addr} {fd : FuncData} (cf : Cf K (ca K)) (z : Gf K mg) (hcal__law_power : Cal Pr w K mg base (ca K) 1 "_law_power" ["base", "many"] f_p__law_power) (hcal__law_take : Cal Pr w K mg base (ca K) 1 "_law_take" ["bag", "many"] f_p__law_take) (hmet_Sheet_zlenz : Met Pr w K mg base (ca K) 1 "Sheet" "__len__" ["self"] f_m_Sheet_zlenz) (hprp_Sheet_base : Prp Pr w K mg base (ca K) 1 "Sheet" "base" ["self"] f_m_Sheet_base) (hprp_Written_figures : Prp Pr w K mg base (ca K) 1 "Written" "figures" ["self"] f_m_Written_figures)
    (F : FunD K "_law_marked" "_law_marked" (defArgs (top 49)) (defBody (top 49)) (defScope (top 49)) [] [] a fd) : FnOk Pr w K mg base (L2.CX Pr w) 3 a fd ["bag", "sheet", "right"] (spE K (ca K) f_p__law_marked) :=
  have sc := sc_p__law_marked
  fnED (N := ["bag", "sheet", "right", "lap", "slips", "figures", "gap", "at", "way", "power", "act", "figure", "one", "other"]) (P := [0]) (b := b_p__law_marked) F sc fun cdv A outer s H E hr =>
  (ss_cons (ss_parT (by rfl) (is := [4, 5, 6, 7]) (pgs_cons (pg_name sc.nd (by rfl) (by first | exact Or.inl rfl | exact Or.inr rfl) (by first | exact .inl rfl | exact .inr rfl)) (pgs_cons (pg_name sc.nd (by rfl) (by first | exact Or.inl rfl | exact Or.inr rfl) (by first | exact .inl rfl | exact .inr rfl)) (pgs_cons (pg_name sc.nd (by rfl) (by first | exact Or.inl rfl | exact Or.inr rfl) (by first | exact .inl rfl | exact .inr rfl)) (pgs_cons (pg_name sc.nd (by rfl) (by first | exact Or.inl rfl | exact Or.inr rfl) (by first | exact .inl rfl | exact .inr rfl)) pgs_nil)))) (sg_cons (ag_t (so_lst sa_nil)) (sg_cons (ag_e (zf_list cf z.fr_list (sp_cons (po_e (zc_prop hprp_Written_figures hr (ag_e (se_v (pv 2))))) sp_nil))) (sg_cons (ag_e se_int) (sg_cons (ag_e se_int) sg_nil)))))
  (ss_cons (ss_for psX (by rfl) (si_range1 (by rfl) z.fr_range (zc_len hmet_Sheet_zlenz hr z.fr_len (se_v (pv 1)))) (sg_name sc.nd (by rfl) (by first | exact Or.inl rfl | exact Or.inr rfl)) (ss_one (ss_if (zt_lt cf (po_v (pv 7)) (po_e (zc_len hmet_Sheet_zlenz hr z.fr_len (se_v (pv 1))))) (ss_cons (by first | exact ss_par2 (by rfl) sc.nd (by rfl) (by rfl) (by decide) (by rfl) (by rfl) (sg_cons (ag_e (zc_call hcal__law_take hr tkX (sg_cons (ag_mu (pv 0)) (sg_cons (ag_e se_int) sg_nil)))) (sg_cons (ag_e (zc_call hcal__law_power hr tkX (sg_cons (ag_e (zc_prop hprp_Sheet_base hr (ag_e (se_v (pv 1))))) (sg_cons (ag_e (se_v (pv 7))) sg_nil)))) sg_nil)) (by rfl) | exact ss_parT (by rfl) (is := [8, 9]) (pgs_cons (pg_name sc.nd (by rfl) (by first | exact Or.inl rfl | exact Or.inr rfl) (by first | exact .inl rfl | exact .inr rfl)) (pgs_cons (pg_name sc.nd (by rfl) (by first | exact Or.inl rfl | exact Or.inr rfl) (by first | exact .inl rfl | exact .inr rfl)) pgs_nil)) (sg_cons (ag_e (zc_call hcal__law_take hr tkX (sg_cons (ag_mu (pv 0)) (sg_cons (ag_e se_int) sg_nil)))) (sg_cons (ag_e (zc_call hcal__law_power hr tkX (sg_cons (ag_e (zc_prop hprp_Sheet_base hr (ag_e (se_v (pv 1))))) (sg_cons (ag_e (se_v (pv 7))) sg_nil)))) sg_nil)))
  (ss_cons (ss_if (zt_eqD cf hr (po_v (pv 8)) (po_e se_int)) (ss_cons (ss_set sc.nd (by rfl) (by first | exact Or.inl rfl | exact Or.inr rfl) (se_tup (sa_cons se_str (sa_cons (zb_add cf (po_e se_int) (po_e (zc_call hcal__law_take hr tkX (sg_cons (ag_mu (pv 0)) (sg_cons (ag_e (zb_sub cf (po_e (zc_prop hprp_Sheet_base hr (ag_e (se_v (pv 1))))) (po_e se_int))) sg_nil))))) sa_nil))))
  (ss_cons (ss_set sc.nd (by rfl) (by first | exact Or.inl rfl | exact Or.inr rfl) (zb_mod cf (po_e (zf_int cf z.fr_int (sp_cons (po_e (zb_add cf (po_e (se_ix cf (po_v (pv 5)) (po_v (pv 7)))) (po_e (se_ix cf (po_v (pv 10)) (po_e se_int))))) sp_nil))) (po_e (zc_prop hprp_Sheet_base hr (ag_e (se_v (pv 1)))))))
  (ss_cons (by first | exact ss_par2 (by rfl) sc.nd (by rfl) (by rfl) (by decide) (by rfl) (by rfl) (sg_cons (ag_e (zb_add cf (po_v (pv 6)) (po_e (zb_mul cf (po_e (zb_sub cf (po_v (pv 11)) (po_e (se_ix cf (po_v (pv 5)) (po_v (pv 7)))))) (po_v (pv 9)))))) (sg_cons (ag_e (zb_add cf (po_e (zb_add cf (po_e (se_sl (se_v (pv 5)) pl_none (pl_some (se_v (pv 7))))) (po_e (se_lst (sa_cons (se_v (pv 11)) sa_nil))))) (po_e (se_sl (se_v (pv 5)) (pl_some (zb_add cf (po_v (pv 7)) (po_e se_int))) pl_none)))) sg_nil)) (by rfl) | exact ss_parT (by rfl) (is := [6, 5]) (pgs_cons (pg_name sc.nd (by rfl) (by first | exact Or.inl rfl | exact Or.inr rfl) (by first | exact .inl rfl | exact .inr rfl)) (pgs_cons (pg_name sc.nd (by rfl) (by first | exact Or.inl rfl | exact Or.inr rfl) (by first | exact .inl rfl | exact .inr rfl)) pgs_nil)) (sg_cons (ag_e (zb_add cf (po_v (pv 6)) (po_e (zb_mul cf (po_e (zb_sub cf (po_v (pv 11)) (po_e (se_ix cf (po_v (pv 5)) (po_v (pv 7)))))) (po_v (pv 9)))))) (sg_cons (ag_e (zb_add cf (po_e (zb_add cf (po_e (se_sl (se_v (pv 5)) pl_none (pl_some (se_v (pv 7))))) (po_e (se_lst (sa_cons (se_v (pv 11)) sa_nil))))) (po_e (se_sl (se_v (pv 5)) (pl_some (zb_add cf (po_v (pv 7)) (po_e se_int))) pl_none)))) sg_nil)))
  (ss_one (ss_drop (zm_append (pv 4) (sa_cons (se_tup (sa_cons (se_v (pv 7)) (sa_cons (se_v (pv 10)) sa_nil))) sa_nil))))))) ss_nil)
  (ss_cons (ss_if (st_and (zt_eqD cf hr (po_v (pv 8)) (po_e se_int)) (st_and1 (zt_lt cf (po_e (zb_add cf (po_v (pv 7)) (po_e se_int))) (po_e (zc_len hmet_Sheet_zlenz hr z.fr_len (se_v (pv 1))))))).pt (ss_cons (by first | exact ss_par2 (by rfl) sc.nd (by rfl) (by rfl) (by decide) (by rfl) (by rfl) (sg_cons (ag_e (se_ix cf (po_v (pv 5)) (po_v (pv 7)))) (sg_cons (ag_e (se_ix cf (po_v (pv 5)) (po_e (zb_add cf (po_v (pv 7)) (po_e se_int))))) sg_nil)) (by rfl) | exact ss_parT (by rfl) (is := [12, 13]) (pgs_cons (pg_name sc.nd (by rfl) (by first | exact Or.inl rfl | exact Or.inr rfl) (by first | exact .inl rfl | exact .inr rfl)) (pgs_cons (pg_name sc.nd (by rfl) (by first | exact Or.inl rfl | exact Or.inr rfl) (by first | exact .inl rfl | exact .inr rfl)) pgs_nil)) (sg_cons (ag_e (se_ix cf (po_v (pv 5)) (po_v (pv 7)))) (sg_cons (ag_e (se_ix cf (po_v (pv 5)) (po_e (zb_add cf (po_v (pv 7)) (po_e se_int))))) sg_nil)))
  (ss_cons (by first | exact ss_par2 (by rfl) sc.nd (by rfl) (by rfl) (by decide) (by rfl) (by rfl) (sg_cons (ag_e (zb_add cf (po_v (pv 6)) (po_e (zb_mul cf (po_e (zb_mul cf (po_e (zb_sub cf (po_v (pv 12)) (po_v (pv 13)))) (po_e (zb_sub cf (po_e (zc_prop hprp_Sheet_base hr (ag_e (se_v (pv 1))))) (po_e se_int))))) (po_v (pv 9)))))) (sg_cons (ag_e (zb_add cf (po_e (zb_add cf (po_e (se_sl (se_v (pv 5)) pl_none (pl_some (se_v (pv 7))))) (po_e (se_lst (sa_cons (se_v (pv 13)) (sa_cons (se_v (pv 12)) sa_nil)))))) (po_e (se_sl (se_v (pv 5)) (pl_some (zb_add cf (po_v (pv 7)) (po_e se_int))) pl_none)))) sg_nil)) (by rfl) | exact ss_parT (by rfl) (is := [6, 5]) (pgs_cons (pg_name sc.nd (by rfl) (by first | exact Or.inl rfl | exact Or.inr rfl) (by first | exact .inl rfl | exact .inr rfl)) (pgs_cons (pg_name sc.nd (by rfl) (by first | exact Or.inl rfl | exact Or.inr rfl) (by first | exact .inl rfl | exact .inr rfl)) pgs_nil)) (sg_cons (ag_e (zb_add cf (po_v (pv 6)) (po_e (zb_mul cf (po_e (zb_mul cf (po_e (zb_sub cf (po_v (pv 12)) (po_v (pv 13)))) (po_e (zb_sub cf (po_e (zc_prop hprp_Sheet_base hr (ag_e (se_v (pv 1))))) (po_e se_int))))) (po_v (pv 9)))))) (sg_cons (ag_e (zb_add cf (po_e (zb_add cf (po_e (se_sl (se_v (pv 5)) pl_none (pl_some (se_v (pv 7))))) (po_e (se_lst (sa_cons (se_v (pv 13)) (sa_cons (se_v (pv 12)) sa_nil)))))) (po_e (se_sl (se_v (pv 5)) (pl_some (zb_add cf (po_v (pv 7)) (po_e se_int))) pl_none)))) sg_nil)))
  (ss_cons (ss_drop (zm_append (pv 4) (sa_cons (se_tup (sa_cons (se_v (pv 7)) (sa_cons (se_tup (sa_cons se_str sa_nil)) sa_nil))) sa_nil)))
  (ss_one (ss_set sc.nd (by rfl) (by first | exact Or.inl rfl | exact Or.inr rfl) (zb_add cf (po_v (pv 7)) (po_e se_int))))))) ss_nil)
  (ss_one (ss_set sc.nd (by rfl) (by first | exact Or.inl rfl | exact Or.inr rfl) (zb_add cf (po_v (pv 7)) (po_e se_int))))))) ss_nil)))
  (ss_one (ss_ret (se_lst (sa_cons (se_fz (pv 4)) (sa_cons (se_v (pv 5)) (sa_cons (se_v (pv 6)) sa_nil))))))))
theorem sc_p__law_mixed : FnScope ["bag", "items", "lap", "left", "found"] ["bag", "items"] (defScope (top 41)) := ⟨rfl, rfl, rfl, by decide +kernel, rfl, by decide +kernel, by decide +kernel⟩
theorem ok_p__law_mixed {Pr : Program} {w : World} {K : PySem.W.Frag} {mg : PySem.Str → Option Value} {base : Heap} {a : Addr} {fd : FuncData} (cf : Cf K (ca K)) (z : Gf K mg) (hcal__law_take : Cal Pr w K mg base (ca K) 1 "_law_take" ["bag", "many"] f_p__law_take)
    (F : FunD K "_law_mixed" "_law_mixed" (defArgs (top 41)) (defBody (top 41)) (defScope (top 41)) [] [] a fd) : FnOk Pr w K mg base (L2.CX Pr w) 2 a fd ["bag", "items"] (spE K (ca K) f_p__law_mixed) :=
  have sc := sc_p__law_mixed
  fnED (N := ["bag", "items", "lap", "left", "found"]) (P := [0]) (b := b_p__law_mixed) F sc fun cdv A outer s H E hr =>
  (ss_cons (by first | exact ss_par2 (by rfl) sc.nd (by rfl) (by rfl) (by decide) (by rfl) (by rfl) (sg_cons (ag_t (zo_list cf z.fr_list (sp_cons (po_v (pv 1)) sp_nil))) (sg_cons (ag_t (so_lst sa_nil)) sg_nil)) (by rfl) | exact ss_parT (by rfl) (is := [3, 4]) (pgs_cons (pg_name sc.nd (by rfl) (by first | exact Or.inl rfl | exact Or.inr rfl) (by first | exact .inl rfl | exact .inr rfl)) (pgs_cons (pg_name sc.nd (by rfl) (by first | exact Or.inl rfl | exact Or.inr rfl) (by first | exact .inl rfl | exact .inr rfl)) pgs_nil)) (sg_cons (ag_t (zo_list cf z.fr_list (sp_cons (po_v (pv 1)) sp_nil))) (sg_cons (ag_t (so_lst sa_nil)) sg_nil)))
  (ss_cons (ss_for psX (by rfl) (si_range1 (by rfl) z.fr_range (zf_len cf z.fr_len (sp_cons (po_v (pv 1)) sp_nil))) (sg_name sc.nd (by rfl) (by first | exact Or.inl rfl | exact Or.inr rfl)) (ss_one (ss_drop (zm_append (pv 4) (sa_cons (zm_popAt (pv 3) (sa_cons (zc_call hcal__law_take hr tkX (sg_cons (ag_mu (pv 0)) (sg_cons (ag_e (zf_len cf z.fr_len (sp_cons (po_v (pv 3)) sp_nil))) sg_nil))) sa_nil)) sa_nil)))))
  (ss_one (ss_ret (se_fz (pv 4))))))
theorem sc_p_all_deeds : FnScope ["base", "rows", "deeds", "d", "j"] ["base", "rows"] (defScope (top 15)) := ⟨rfl, rfl, rfl, by decide +kernel, rfl, by decide +kernel, by decide +kernel⟩
theorem ok_p_all_deeds {Pr : Program} {w : World} {K : PySem.W.Frag} {mg : PySem.Str → Option Value} {base : Heap} {a : Addr} {fd : FuncData} (cf : Cf K (ca K)) (z : Gf K mg)
    (F : FunD K "all_deeds" "all_deeds" (defArgs (top 15)) (defBody (top 15)) (defScope (top 15)) [] [] a fd) : FnOk Pr w K mg base (L2.CX Pr w) 1 a fd ["base", "rows"] (spE K (ca K) f_p_all_deeds) :=
  have sc := sc_p_all_deeds
  fnED (N := ["base", "rows", "deeds", "d", "j"]) (P := []) (b := b_p_all_deeds) F sc fun cdv A outer s H E hr =>
  (ss_cons (ss_set sc.nd (by rfl) (by first | exact Or.inl rfl | exact Or.inr rfl) (se_lst (sa_cons (se_tup (sa_cons se_str sa_nil)) (sa_cons (se_tup (sa_cons se_str sa_nil)) sa_nil))))
  (ss_cons (ss_set sc.nd (by rfl) (by first | exact Or.inl rfl | exact Or.inr rfl) (zb_add cf (po_v (pv 2)) (po_e (se_fr (so_lc (by rfl) sc.nd (si_range2 (by rfl) z.fr_range se_int (se_v (pv 0))) (own := [("d", 3)]) (blk_of (by rfl)) (fun _ _ _ _ _ => (sg_name sc.nd (by rfl) (by first | exact Or.inl rfl | exact Or.inr rfl))) (fun _ _ _ _ _ => sts_nil) (fun _ _ _ _ _ => (se_tup (sa_cons se_str (sa_cons (se_v (pv 3)) sa_nil)))))))))
  (ss_cons (ss_set sc.nd (by rfl) (by first | exact Or.inl rfl | exact Or.inr rfl) (zb_add cf (po_v (pv 2)) (po_e (se_fr (so_lc2 (by rfl) sc.nd (si_range1 (by rfl) z.fr_range (se_v (pv 1))) (own := [("j", 4), ("d", 3)]) (vs1 := [3]) (blk_of (by rfl)) (by decide) (fun _ _ _ _ _ => (sg_name sc.nd (by rfl) (by first | exact Or.inl rfl | exact Or.inr rfl))) (fun _ _ _ _ _ => sts_nil) (fun _ _ _ _ _ => (si_range2 (by rfl) z.fr_range se_int (se_v (pv 0)))) (fun _ _ _ _ _ => (sg_name sc.nd (by rfl) (by first | exact Or.inl rfl | exact Or.inr rfl))) (fun _ _ _ _ _ => sts_nil) (fun _ _ _ _ _ => (se_tup (sa_cons se_str (sa_cons (se_v (pv 4)) (sa_cons (se_v (pv 3)) sa_nil))))))))))
  (ss_cons (ss_set sc.nd (by rfl) (by first | exact Or.inl rfl | exact Or.inr rfl) (zb_add cf (po_v (pv 2)) (po_e (se_fr (so_lc (by rfl) sc.nd (si_range1 (by rfl) z.fr_range (se_v (pv 1))) (own := [("j", 4)]) (blk_of (by rfl)) (fun _ _ _ _ _ => (sg_name sc.nd (by rfl) (by first | exact Or.inl rfl | exact Or.inr rfl))) (fun _ _ _ _ _ => sts_nil) (fun _ _ _ _ _ => (se_tup (sa_cons se_str (sa_cons (se_v (pv 4)) sa_nil)))))))))
  (ss_one (ss_ret (zb_add cf (po_v (pv 2)) (po_e (se_lst (sa_cons (se_tup (sa_cons se_str sa_nil)) (sa_cons (se_tup (sa_cons se_str sa_nil)) (sa_cons (se_tup (sa_cons se_str sa_nil)) sa_nil))))))))))))
theorem sc_p_number_of_columns : FnScope ["base", "rows", "many", "j"] ["base", "rows"] (defScope (top 36)) := ⟨rfl, rfl, rfl, by decide +kernel, rfl, by decide +kernel, by decide +kernel⟩
theorem ok_p_number_of_columns {Pr : Program} {w : World} {K : PySem.W.Frag} {mg : PySem.Str → Option Value} {base : Heap} {a : Addr} {fd : FuncData} (cf : Cf K (ca K)) (z : Gf K mg)
    (F : FunD K "number_of_columns" "number_of_columns" (defArgs (top 36)) (defBody (top 36)) (defScope (top 36)) [] [] a fd) : FnOk Pr w K mg base (L2.CX Pr w) 1 a fd ["base", "rows"] (spE K (ca K) f_p_number_of_columns) :=
  have sc := sc_p_number_of_columns
  fnED (N := ["base", "rows", "many", "j"]) (P := []) (b := b_p_number_of_columns) F sc fun cdv A outer s H E hr =>
  (ss_cons (ss_set sc.nd (by rfl) (by first | exact Or.inl rfl | exact Or.inr rfl) se_int)
  (ss_cons (ss_for psX (by rfl) (si_range1 (by rfl) z.fr_range (se_v (pv 1))) (sg_name sc.nd (by rfl) (by first | exact Or.inl rfl | exact Or.inr rfl)) (ss_one (ss_set sc.nd (by rfl) (by first | exact Or.inl rfl | exact Or.inr rfl) (zb_mul cf (po_v (pv 2)) (po_v (pv 0))))))
  (ss_one (ss_ret (se_v (pv 2))))))
theorem sc_m_Kind_zinitz : FnScope ["self", "base", "rows", "deeds", "most", "held", "deed"] ["self", "base", "rows", "deeds", "most"] (defScope (sub 37 0)) := ⟨rfl, rfl, rfl, by decide +kernel, rfl, by decide +kernel, by decide +kernel⟩
theorem ok_m_Kind_zinitz {Pr : Program} {w : World} {K : PySem.W.Frag} {mg : PySem.Str → Option Value} {base : Heap} {a : Addr} {fd : FuncData} (cf : Cf K (ca K)) (z : Gf K mg) (hcal_all_deeds : Cal Pr w K mg base (ca K) 1 "all_deeds" ["base", "rows"] f_p_all_deeds) (hcal_is_deed : Cal Pr w K mg base (ca K) 2 "is_deed" ["value", "base", "rows"] f_p_is_deed) (hcal_is_integer : Cal Pr w K mg base (ca K) 1 "is_integer" ["value"] f_p_is_integer) (hcal_number_of_columns : Cal Pr w K mg base (ca K) 1 "number_of_columns" ["base", "rows"] f_p_number_of_columns)
    (F : FunD K "__init__" "Kind.__init__" (defArgs (sub 37 0)) (defBody (sub 37 0)) (defScope (sub 37 0)) [] [] a fd) : FnOk Pr w K mg base (L2.CX Pr w) 3 a fd ["self", "base", "rows", "deeds", "most"] (spE K (ca K) f_m_Kind_zinitz) :=
  have sc := sc_m_Kind_zinitz
  fnED (N := ["self", "base", "rows", "deeds", "most", "held", "deed"]) (P := [0]) (b := b_m_Kind_zinitz) F sc fun cdv A outer s H E hr =>
  (ss_cons (ss_if (st_or (st_not (st_tru cf (po_e (zc_call hcal_is_integer hr tkX (sg_cons (ag_e (se_v (pv 1))) sg_nil))))) (st_or1 (st_not (st_chain op_le ok_IB op_le ok_IB se_int (se_v (pv 1)) se_int)))).pt (ss_one ss_never) ss_nil)
  (ss_cons (ss_if (st_or (st_not (st_tru cf (po_e (zc_call hcal_is_integer hr tkX (sg_cons (ag_e (se_v (pv 2))) sg_nil))))) (st_or1 (st_not (st_chain op_le ok_IB op_le ok_IB se_int (se_v (pv 2)) se_int)))).pt (ss_one ss_never) ss_nil)
  (ss_cons (ss_if (zt_gt cf (po_e (zc_call hcal_number_of_columns hr tkX (sg_cons (ag_e (se_v (pv 1))) (sg_cons (ag_e (se_v (pv 2))) sg_nil)))) (po_e (zc_glob z.co_MOST_COLUMNS z.cr_MOST_COLUMNS))) (ss_one ss_never) ss_nil)
  (ss_cons (ss_if (st_or (st_not (st_tru cf (po_e (se_isi cf (T := "list") (by decide +kernel) (by rfl) z.fr_isinstance (by rfl) z.fr_list (by decide +kernel) boot_isinstance (po_v (pv 3)))))) (st_or1 (st_not (st_tru cf (po_e (zf_all cf (by rfl) z.fr_all (sp_cons (po_e (se_fr (so_lc (by rfl) sc.nd (si_e (se_v (pv 3))) (own := [("deed", 6)]) (blk_of (by rfl)) (fun _ _ _ _ _ => (sg_name sc.nd (by rfl) (by first | exact Or.inl rfl | exact Or.inr rfl))) (fun _ _ _ _ _ => sts_nil) (fun _ _ _ _ _ => (zc_call hcal_is_deed hr Ev.takes0 (sg_cons (ag_e (se_v (pv 6))) (sg_cons (ag_e (se_v (pv 1))) (sg_cons (ag_e (se_v (pv 2))) sg_nil)))))))) sp_nil))))))).pt (ss_one ss_never) ss_nil)
  (ss_cons (by first | exact ss_set sc.nd (by rfl) (by first | exact Or.inl rfl | exact Or.inr rfl) (se_fr (so_lc (by rfl) sc.nd (si_e (zc_call hcal_all_deeds hr tkX (sg_cons (ag_e (se_v (pv 1))) (sg_cons (ag_e (se_v (pv 2))) sg_nil)))) (own := [("deed", 6)]) (blk_of (by rfl)) (fun _ _ _ _ _ => (sg_name sc.nd (by rfl) (by first | exact Or.inl rfl | exact Or.inr rfl))) (fun _ _ _ _ _ => (sts_one (zt_inD cf hr (po_v (pv 6)) (po_v (pv 3))))) (fun _ _ _ _ _ => (se_v (pv 6))))) | exact ss_setLc true (by rfl) sc.nd (by rfl) (by rfl) (by rfl) (si_e (zc_call hcal_all_deeds hr tkX (sg_cons (ag_e (se_v (pv 1))) (sg_cons (ag_e (se_v (pv 2))) sg_nil)))) (own := [("deed", 6)]) (blk_of (by rfl)) (fun _ _ _ _ _ => (sg_name sc.nd (by rfl) (by first | exact Or.inl rfl | exact Or.inr rfl))) (fun _ _ _ _ _ => (sts_one (zt_inD cf hr (po_v (pv 6)) (po_v (pv 3))))) (fun _ _ _ _ _ => (se_v (pv 6))))
  (ss_cons (ss_if (st_or (zt_neD cf hr (po_e (zf_len cf z.fr_len (sp_cons (po_v (pv 5)) sp_nil))) (po_e (zf_len cf z.fr_len (sp_cons (po_v (pv 3)) sp_nil)))) (st_or1 (st_not (st_chain op_le ok_IB op_le ok_IB se_int (zf_len cf z.fr_len (sp_cons (po_v (pv 5)) sp_nil)) (zc_glob z.co_MOST_DEEDS z.cr_MOST_DEEDS))))).pt (ss_one ss_never) ss_nil)
  (ss_cons (ss_if (st_or (st_not (st_tru cf (po_e (zc_call hcal_is_integer hr tkX (sg_cons (ag_e (se_v (pv 4))) sg_nil))))) (st_or1 (st_not (st_chain op_le ok_IB op_le ok_IB se_int (se_v (pv 4)) se_int)))).pt (ss_one ss_never) ss_nil)
  (ss_cons (ss_fld cf (caOf_fld (by decide +kernel)) (pv 0) (se_v (pv 1)))
  (ss_cons (ss_fld cf (caOf_fld (by decide +kernel)) (pv 0) (se_v (pv 2)))
  (ss_cons (ss_fld cf (caOf_fld (by decide +kernel)) (pv 0) (se_v (pv 5)))
  (ss_one (ss_fld cf (caOf_fld (by decide +kernel)) (pv 0) (se_v (pv 4))))))))))))))
theorem sc_m_Written_rest : FnScope ["self", "r"] ["self", "r"] (defScope (sub 20 5)) := ⟨rfl, rfl, rfl, by decide +kernel, rfl, by decide +kernel, by decide +kernel⟩
theorem ok_m_Written_rest {Pr : Program} {w : World} {K : PySem.W.Frag} {mg : PySem.Str → Option Value} {base : Heap} {a : Addr} {fd : FuncData} (cf : Cf K (ca K)) (z : Gf K mg) (hprp_Written_value : Prp Pr w K mg base (ca K) 1 "Written" "value" ["self"] f_m_Written_value)
    (F : FunD K "rest" "Written.rest" (defArgs (sub 20 5)) (defBody (sub 20 5)) (defScope (sub 20 5)) [] [] a fd) : FnOk Pr w K mg base (L2.CX Pr w) 3 a fd ["self", "r"] (spE K (ca K) f_m_Written_rest) :=
  have sc := sc_m_Written_rest
  fnED (N := ["self", "r"]) (P := []) (b := b_m_Written_rest) F sc fun cdv A outer s H E hr =>
  (ss_one (ss_ret (zb_mod cf (po_e (zc_prop hprp_Written_value hr (ag_e (se_v (pv 0))))) (po_v (pv 1)))))
theorem sc_p__law_lot : FnScope ["bag", "most", "greatest", "found", "turn", "divisor"] ["bag", "most", "greatest"] (defScope (top 46)) := ⟨rfl, rfl, rfl, by decide +kernel, rfl, by decide +kernel, by decide +kernel⟩
theorem ok_p__law_lot {Pr : Program} {w : World} {K : PySem.W.Frag} {mg : PySem.Str → Option Value} {base : Heap} {a : Addr} {fd : FuncData} (cf : Cf K (ca K)) (z : Gf K mg) (hcal__law_take : Cal Pr w K mg base (ca K) 1 "_law_take" ["bag", "many"] f_p__law_take)
    (F : FunD K "_law_lot" "_law_lot" (defArgs (top 46)) (defBody (top 46)) (defScope (top 46)) [] [] a fd) : FnOk Pr w K mg base (L2.CX Pr w) 2 a fd ["bag", "most", "greatest"] (spE K (ca K) f_p__law_lot) :=
  have sc := sc_p__law_lot
  fnED (N := ["bag", "most", "greatest", "found", "turn", "divisor"]) (P := [0]) (b := b_p__law_lot) F sc fun cdv A outer s H E hr =>
  (ss_cons (ss_setO sc.nd (by rfl) (by first | exact Or.inl rfl | exact Or.inr rfl) (so_lst sa_nil))
  (ss_cons (ss_for psX (by rfl) (si_range1 (by rfl) z.fr_range (zc_call hcal__law_take hr tkX (sg_cons (ag_mu (pv 0)) (sg_cons (ag_e (zb_add cf (po_v (pv 1)) (po_e se_int))) sg_nil)))) (sg_name sc.nd (by rfl) (by first | exact Or.inl rfl | exact Or.inr rfl)) (ss_cons (ss_set sc.nd (by rfl) (by first | exact Or.inl rfl | exact Or.inr rfl) (zb_add cf (po_e se_int) (po_e (zc_call hcal__law_take hr tkX (sg_cons (ag_mu (pv 0)) (sg_cons (ag_e (zb_sub cf (po_v (pv 2)) (po_e se_int))) sg_nil))))))
  (ss_one (ss_if (zt_notInD cf hr (po_v (pv 5)) (po_v (pv 3))) (ss_one (ss_drop (zm_append (pv 3) (sa_cons (se_v (pv 5)) sa_nil)))) ss_nil))))
  (ss_one (ss_ret (se_fz (pv 3))))))
theorem sc_m_Kind_deeds : FnScope ["self"] ["self"] (defScope (sub 37 3)) := ⟨rfl, rfl, rfl, by decide +kernel, rfl, by decide +kernel, by decide +kernel⟩
theorem ok_m_Kind_deeds {Pr : Program} {w : World} {K : PySem.W.Frag} {mg : PySem.Str → Option Value} {base : Heap} {a : Addr} {fd : FuncData} (cf : Cf K (ca K)) (z : Gf K mg)
    (F : FunD K "deeds" "Kind.deeds" (defArgs (sub 37 3)) (defBody (sub 37 3)) (defScope (sub 37 3)) [] [] a fd) : FnOk Pr w K mg base (L2.CX Pr w) 1 a fd ["self"] (spE K (ca K) f_m_Kind_deeds) :=
  have sc := sc_m_Kind_deeds
  fnED (N := ["self"]) (P := []) (b := b_m_Kind_deeds) F sc fun cdv A outer s H E hr =>
  (ss_one (ss_ret (zf_list cf z.fr_list (sp_cons (po_e (se_fld cf (po_v (pv 0)))) sp_nil))))
theorem sc_m_Kind_most : FnScope ["self"] ["self"] (defScope (sub 37 4)) := ⟨rfl, rfl, rfl, by decide +kernel, rfl, by decide +kernel, by decide +kernel⟩
theorem ok_m_Kind_most {Pr : Program} {w : World} {K : PySem.W.Frag} {mg : PySem.Str → Option Value} {base : Heap} {a : Addr} {fd : FuncData} (cf : Cf K (ca K)) (z : Gf K mg)
    (F : FunD K "most" "Kind.most" (defArgs (sub 37 4)) (defBody (sub 37 4)) (defScope (sub 37 4)) [] [] a fd) : FnOk Pr w K mg base (L2.CX Pr w) 1 a fd ["self"] (spE K (ca K) f_m_Kind_most) :=
  have sc := sc_m_Kind_most
  fnED (N := ["self"]) (P := []) (b := b_m_Kind_most) F sc fun cdv A outer s H E hr =>
  (ss_one (ss_ret (se_fld cf (po_v (pv 0)))))
theorem sc_p_further_slips : FnScope ["kind", "sheet", "slips", "first", "column", "deed"] ["kind", "sheet", "slips"] (defScope (top 30)) := ⟨rfl, rfl, rfl, by decide +kernel, rfl, by decide +kernel, by decide +kernel⟩
theorem ok_p_further_slips {Pr : Program} {w : World} {K : PySem.W.Frag} {mg : PySem.Str → Option Value} {base : Heap} {a : Addr} {fd : FuncData} (cf : Cf K (ca K)) (z : Gf K mg) (hmet_Sheet_zlenz : Met Pr w K mg base (ca K) 1 "Sheet" "__len__" ["self"] f_m_Sheet_zlenz) (hprp_Kind_deeds : Prp Pr w K mg base (ca K) 1 "Kind" "deeds" ["self"] f_m_Kind_deeds) (hprp_Kind_most : Prp Pr w K mg base (ca K) 1 "Kind" "most" ["self"] f_m_Kind_most)
    (F : FunD K "further_slips" "further_slips" (defArgs (top 30)) (defBody (top 30)) (defScope (top 30)) [] [] a fd) : FnOk Pr w K mg base (L2.CX Pr w) 3 a fd ["kind", "sheet", "slips"] (spE K (ca K) f_p_further_slips) :=
  have sc := sc_p_further_slips
  fnED (N := ["kind", "sheet", "slips", "first", "column", "deed"]) (P := []) (b := b_p_further_slips) F sc fun cdv A outer s H E hr =>
  (ss_cons (ss_if (zt_eqD cf hr (po_e (zf_len cf z.fr_len (sp_cons (po_v (pv 2)) sp_nil))) (po_e (zc_prop hprp_Kind_most hr (ag_e (se_v (pv 0)))))) (ss_one (ss_ret (se_lst sa_nil))) ss_nil)
  (ss_cons (ss_set sc.nd (by rfl) (by first | exact Or.inl rfl | exact Or.inr rfl) se_int)
  (ss_cons (ss_if (st_tru cf (po_v (pv 2))) (ss_one (ss_set sc.nd (by rfl) (by first | exact Or.inl rfl | exact Or.inr rfl) (zb_add cf (po_e (se_ix cf (po_e (se_ix cf (po_v (pv 2)) (po_e (zb_neg cf (po_e se_int))))) (po_e se_int))) (po_e se_int)))) ss_nil)
  (ss_one (ss_ret (se_fr (so_lc2 (by rfl) sc.nd (si_range2 (by rfl) z.fr_range (se_v (pv 3)) (zc_len hmet_Sheet_zlenz hr z.fr_len (se_v (pv 1)))) (own := [("column", 4), ("deed", 5)]) (vs1 := [5]) (blk_of (by rfl)) (by decide) (fun _ _ _ _ _ => (sg_name sc.nd (by rfl) (by first | exact Or.inl rfl | exact Or.inr rfl))) (fun _ _ _ _ _ => sts_nil) (fun _ _ _ _ _ => (si_e (zc_prop hprp_Kind_deeds hr (ag_e (se_v (pv 0)))))) (fun _ _ _ _ _ => (sg_name sc.nd (by rfl) (by first | exact Or.inl rfl | exact Or.inr rfl))) (fun _ _ _ _ _ => sts_nil) (fun _ _ _ _ _ => (se_fr (so_lstI (sai_star (se_v (pv 2)) (sai_one (se_tup (sa_cons (se_v (pv 4)) (sa_cons (se_v (pv 5)) sa_nil))) sai_nil))))))))))))
theorem sc_p_outcome : FnScope ["sheet", "slips"] ["sheet", "slips"] (defScope (top 29)) := ⟨rfl, rfl, rfl, by decide +kernel, rfl, by decide +kernel, by decide +kernel⟩
theorem ok_p_outcome {Pr : Program} {w : World} {K : PySem.W.Frag} {mg : PySem.Str → Option Value} {base : Heap} {a : Addr} {fd : FuncData} (cf : Cf K (ca K)) (z : Gf K mg) (hcal_add_with : Cal Pr w K mg base (ca K) 6 "add_with" ["sheet", "slips"] f_p_add_with) (hrai_InvalidSlips : Rai Pr w K mg base (ca K) 1 "InvalidSlips")
    (F : FunD K "outcome" "outcome" (defArgs (top 29)) (defBody (top 29)) (defScope (top 29)) [] [] a fd) : FnOk Pr w K mg base (L2.CX Pr w) 7 a fd ["sheet", "slips"] (spE K (ca K) f_p_outcome) :=
  have sc := sc_p_outcome
  fnED (N := ["sheet", "slips"]) (P := []) (b := b_p_outcome) F sc fun cdv A outer s H E hr =>
  (ss_one (zr_try hrai_InvalidSlips tkX (fun W1 pn1 xe1 tk1 po1 => (ss_one (ss_ret (zc_call hcal_add_with hr tk1 (sg_cons (ag_e (se_v (pv 0))) (sg_cons (ag_e (se_v (pv 1))) sg_nil)))))) (fun a1 oe1 cls1 d1 pn1 z1 v1 => (ss_one (ss_ret se_non)))))
theorem sc_p_all_outcomes : FnScope ["kind", "sheet", "found", "pile", "slips", "written"] ["kind", "sheet"] (defScope (top 31)) := ⟨rfl, rfl, rfl, by decide +kernel, rfl, by decide +kernel, by decide +kernel⟩
theorem ok_p_all_outcomes {Pr : Program} {w : World} {K : PySem.W.Frag} {mg : PySem.Str → Option Value} {base : Heap} {a : Addr} {fd : FuncData} (cf : Cf K (ca K)) (z : Gf K mg) (hcal_further_slips : Cal Pr w K mg base (ca K) 3 "further_slips" ["kind", "sheet", "slips"] f_p_further_slips) (hcal_outcome : Cal Pr w K mg base (ca K) 7 "outcome" ["sheet", "slips"] f_p_outcome)
    (F : FunD K "all_outcomes" "all_outcomes" (defArgs (top 31)) (defBody (top 31)) (defScope (top 31)) [] [] a fd) : FnOk Pr w K mg base (L2.CX Pr w) 8 a fd ["kind", "sheet"] (spE K (ca K) f_p_all_outcomes) :=
  have sc := sc_p_all_outcomes
  fnED (N := ["kind", "sheet", "found", "pile", "slips", "written"]) (P := []) (b := b_p_all_outcomes) F sc fun cdv A outer s H E hr =>
  (ss_cons (ss_setO sc.nd (by rfl) (by first | exact Or.inl rfl | exact Or.inr rfl) (so_lst sa_nil))
  (ss_cons (ss_setO sc.nd (by rfl) (by first | exact Or.inl rfl | exact Or.inr rfl) (so_rev cf (po_e (zc_call hcal_further_slips hr tkX (sg_cons (ag_e (se_v (pv 0))) (sg_cons (ag_e (se_v (pv 1))) (sg_cons (ag_e (se_lst sa_nil)) sg_nil)))))))
  (ss_cons (ss_while psX (st_tru cf (po_v (pv 3))) (ss_cons (ss_set sc.nd (by rfl) (by first | exact Or.inl rfl | exact Or.inr rfl) (zm_pop (pv 3)))
  (ss_cons (ss_set sc.nd (by rfl) (by first | exact Or.inl rfl | exact Or.inr rfl) (zc_call hcal_outcome hr tkX (sg_cons (ag_e (se_v (pv 1))) (sg_cons (ag_e (se_v (pv 4))) sg_nil))))
  (ss_one (ss_if (zt_isn cf (po_v (pv 5)) (po_e se_non)) (ss_cons (ss_drop (zm_append (pv 2) (sa_cons (se_tup (sa_cons (se_v (pv 4)) (sa_cons (se_v (pv 5)) sa_nil))) sa_nil)))
  (ss_one (ss_drop (zm_extend (pv 3) (sa_cons (se_rev cf (po_e (zc_call hcal_further_slips hr tkX (sg_cons (ag_e (se_v (pv 0))) (sg_cons (ag_e (se_v (pv 1))) (sg_cons (ag_e (se_v (pv 4))) sg_nil)))))) sa_nil))))) ss_nil)))))
  (ss_one (ss_ret (se_fz (pv 2)))))))
theorem sc_m_Kind_base : FnScope ["self"] ["self"] (defScope (sub 37 1)) := ⟨rfl, rfl, rfl, by decide +kernel, rfl, by decide +kernel, by decide +kernel⟩
theorem ok_m_Kind_base {Pr : Program} {w : World} {K : PySem.W.Frag} {mg : PySem.Str → Option Value} {base : Heap} {a : Addr} {fd : FuncData} (cf : Cf K (ca K)) (z : Gf K mg)
    (F : FunD K "base" "Kind.base" (defArgs (sub 37 1)) (defBody (sub 37 1)) (defScope (sub 37 1)) [] [] a fd) : FnOk Pr w K mg base (L2.CX Pr w) 1 a fd ["self"] (spE K (ca K) f_m_Kind_base) :=
  have sc := sc_m_Kind_base
  fnED (N := ["self"]) (P := []) (b := b_m_Kind_base) F sc fun cdv A outer s H E hr =>
  (ss_one (ss_ret (se_fld cf (po_v (pv 0)))))
theorem sc_m_Kind_rows : FnScope ["self"] ["self"] (defScope (sub 37 2)) := ⟨rfl, rfl, rfl, by decide +kernel, rfl, by decide +kernel, by decide +kernel⟩
theorem ok_m_Kind_rows {Pr : Program} {w : World} {K : PySem.W.Frag} {mg : PySem.Str → Option Value} {base : Heap} {a : Addr} {fd : FuncData} (cf : Cf K (ca K)) (z : Gf K mg)
    (F : FunD K "rows" "Kind.rows" (defArgs (sub 37 2)) (defBody (sub 37 2)) (defScope (sub 37 2)) [] [] a fd) : FnOk Pr w K mg base (L2.CX Pr w) 1 a fd ["self"] (spE K (ca K) f_m_Kind_rows) :=
  have sc := sc_m_Kind_rows
  fnED (N := ["self"]) (P := []) (b := b_m_Kind_rows) F sc fun cdv A outer s H E hr =>
  (ss_one (ss_ret (se_fld cf (po_v (pv 0)))))
theorem sc_p_check_alike : FnScope ["kind", "sheet"] ["kind", "sheet"] (defScope (top 28)) := ⟨rfl, rfl, rfl, by decide +kernel, rfl, by decide +kernel, by decide +kernel⟩
theorem ok_p_check_alike {Pr : Program} {w : World} {K : PySem.W.Frag} {mg : PySem.Str → Option Value} {base : Heap} {a : Addr} {fd : FuncData} (cf : Cf K (ca K)) (z : Gf K mg) (hprp_Kind_base : Prp Pr w K mg base (ca K) 1 "Kind" "base" ["self"] f_m_Kind_base) (hprp_Kind_rows : Prp Pr w K mg base (ca K) 1 "Kind" "rows" ["self"] f_m_Kind_rows) (hprp_Sheet_base : Prp Pr w K mg base (ca K) 1 "Sheet" "base" ["self"] f_m_Sheet_base) (hprp_Sheet_rows : Prp Pr w K mg base (ca K) 1 "Sheet" "rows" ["self"] f_m_Sheet_rows)
    (F : FunD K "check_alike" "check_alike" (defArgs (top 28)) (defBody (top 28)) (defScope (top 28)) [] [] a fd) : FnOk Pr w K mg base (L2.CX Pr w) 3 a fd ["kind", "sheet"] (spE K (ca K) f_p_check_alike) :=
  have sc := sc_p_check_alike
  fnED (N := ["kind", "sheet"]) (P := []) (b := b_p_check_alike) F sc fun cdv A outer s H E hr =>
  (ss_one (ss_if (st_or (zt_neD cf hr (po_e (zc_prop hprp_Kind_base hr (ag_e (se_v (pv 0))))) (po_e (zc_prop hprp_Sheet_base hr (ag_e (se_v (pv 1)))))) (st_or1 (zt_neD cf hr (po_e (zc_prop hprp_Kind_rows hr (ag_e (se_v (pv 0))))) (po_e (zc_prop hprp_Sheet_rows hr (ag_e (se_v (pv 1)))))))).pt (ss_one ss_never) ss_nil))
theorem sc_p_check_lot : FnScope ["lot", "place", "divisor"] ["lot"] (defScope (top 26)) := ⟨rfl, rfl, rfl, by decide +kernel, rfl, by decide +kernel, by decide +kernel⟩
theorem ok_p_check_lot {Pr : Program} {w : World} {K : PySem.W.Frag} {mg : PySem.Str → Option Value} {base : Heap} {a : Addr} {fd : FuncData} (cf : Cf K (ca K)) (z : Gf K mg)
    (F : FunD K "check_lot" "check_lot" (defArgs (top 26)) (defBody (top 26)) (defScope (top 26)) [] [] a fd) : FnOk Pr w K mg base (L2.CX Pr w) 1 a fd ["lot"] (spE K (ca K) f_p_check_lot) :=
  have sc := sc_p_check_lot
  fnED (N := ["lot", "place", "divisor"]) (P := []) (b := b_p_check_lot) F sc fun cdv A outer s H E hr =>
  (ss_cons (ss_if (st_not (st_tru cf (po_e (se_isi cf (T := "list") (by decide +kernel) (by rfl) z.fr_isinstance (by rfl) z.fr_list (by decide +kernel) boot_isinstance (po_v (pv 0)))))) (ss_one ss_never) ss_nil)
  (ss_one (ss_for psX (by rfl) (si_range1 (by rfl) z.fr_range (zf_len cf z.fr_len (sp_cons (po_v (pv 0)) sp_nil))) (sg_name sc.nd (by rfl) (by first | exact Or.inl rfl | exact Or.inr rfl)) (ss_cons (ss_set sc.nd (by rfl) (by first | exact Or.inl rfl | exact Or.inr rfl) (se_ix cf (po_v (pv 0)) (po_v (pv 1))))
  (ss_cons (ss_if (st_or (st_not (st_tru cf (po_e (se_isi cf (T := "int") (by decide +kernel) (by rfl) z.fr_isinstance (by rfl) z.fr_int (by decide +kernel) boot_isinstance (po_v (pv 2)))))) (st_or (st_tru cf (po_e (se_isi cf (T := "bool") (by decide +kernel) (by rfl) z.fr_isinstance (by rfl) z.fr_bool (by decide +kernel) boot_isinstance (po_v (pv 2))))) (st_or1 (zt_lt cf (po_v (pv 2)) (po_e se_int))))).pt (ss_one ss_never) ss_nil)
  (ss_one (ss_if (zt_inD cf hr (po_v (pv 2)) (po_e (se_sl (se_v (pv 0)) pl_none (pl_some (se_v (pv 1)))))) (ss_one ss_never) ss_nil)))))))
theorem sc_p_slips_shown : FnScope ["kind", "sheet", "lot", "shown", "rests", "slips", "result", "r"] ["kind", "sheet", "lot", "shown"] (defScope (top 32)) := ⟨rfl, rfl, rfl, by decide +kernel, rfl, by decide +kernel, by decide +kernel⟩
theorem ok_p_slips_shown {Pr : Program} {w : World} {K : PySem.W.Frag} {mg : PySem.Str → Option Value} {base : Heap} {a : Addr} {fd : FuncData} (cf : Cf K (ca K)) (z : Gf K mg) (hcal_all_outcomes : Cal Pr w K mg base (ca K) 8 "all_outcomes" ["kind", "sheet"] f_p_all_outcomes) (hcal_check_alike : Cal Pr w K mg base (ca K) 3 "check_alike" ["kind", "sheet"] f_p_check_alike) (hcal_check_lot : Cal Pr w K mg base (ca K) 1 "check_lot" ["lot"] f_p_check_lot) (hmet_Written_rest : Met Pr w K mg base (ca K) 3 "Written" "rest" ["self", "r"] f_m_Written_rest)
    (F : FunD K "slips_shown" "slips_shown" (defArgs (top 32)) (defBody (top 32)) (defScope (top 32)) [] [] a fd) : FnOk Pr w K mg base (L2.CX Pr w) 9 a fd ["kind", "sheet", "lot", "shown"] (spE K (ca K) f_p_slips_shown) :=
  have sc := sc_p_slips_shown
  fnED (N := ["kind", "sheet", "lot", "shown", "rests", "slips", "result", "r"]) (P := []) (b := b_p_slips_shown) F sc fun cdv A outer s H E hr =>
  (ss_cons (ss_drop (zc_call hcal_check_lot hr tkX (sg_cons (ag_e (se_v (pv 2))) sg_nil)))
  (ss_cons (ss_drop (zc_call hcal_check_alike hr tkX (sg_cons (ag_e (se_v (pv 0))) (sg_cons (ag_e (se_v (pv 1))) sg_nil))))
  (ss_cons (ss_set sc.nd (by rfl) (by first | exact Or.inl rfl | exact Or.inr rfl) (zf_list cf z.fr_list (sp_cons (po_v (pv 3)) sp_nil)))
  (ss_one (ss_ret (se_fr (so_lc (by rfl) sc.nd (si_e (zc_call hcal_all_outcomes hr tkX (sg_cons (ag_e (se_v (pv 0))) (sg_cons (ag_e (se_v (pv 1))) sg_nil)))) (own := [("slips", 5), ("result", 6)]) (blk_of (by rfl)) (fun _ _ _ _ _ => (sg_tup (by rfl) (sgs_cons (sg_name sc.nd (by rfl) (by first | exact Or.inl rfl | exact Or.inr rfl)) (sgs_cons (sg_name sc.nd (by rfl) (by first | exact Or.inl rfl | exact Or.inr rfl)) sgs_nil)))) (fun _ _ _ _ _ => (sts_one (zt_eqD cf hr (po_e (se_fr (so_lc (by rfl) sc.nd (si_e (se_v (pv 2))) (own := [("r", 7)]) (blk_of (by rfl)) (fun _ _ _ _ _ => (sg_name sc.nd (by rfl) (by first | exact Or.inl rfl | exact Or.inr rfl))) (fun _ _ _ _ _ => sts_nil) (fun _ _ _ _ _ => (zc_meth hmet_Written_rest hr Ev.takes0 (ag_e (se_v (pv 6))) (sg_cons (ag_e (se_v (pv 7))) sg_nil)))))) (po_v (pv 4))))) (fun _ _ _ _ _ => (se_v (pv 5))))))))))
theorem sc_p__law_shown_right : FnScope ["bag", "sheet", "slips", "written", "lot", "kind", "divisor"] ["bag", "sheet", "slips", "written"] (defScope (top 52)) := ⟨rfl, rfl, rfl, by decide +kernel, rfl, by decide +kernel, by decide +kernel⟩
theorem ok_p__law_shown_right {Pr : Program} {w : World} {K : PySem.W.Frag} {mg : PySem.Str → Option Value} {base : Heap} {a : Addr} {fd : FuncData} (cf : Cf K (ca K)) (z : Gf K mg) (hcal__law_lot : Cal Pr w K mg base (ca K) 2 "_law_lot" ["bag", "most", "greatest"] f_p__law_lot) (hcal__law_power : Cal Pr w K mg base (ca K) 1 "_law_power" ["base", "many"] f_p__law_power) (hcal_slips_shown : Cal Pr w K mg base (ca K) 9 "slips_shown" ["kind", "sheet", "lot", "shown"] f_p_slips_shown) (hmak_Kind : Mak Pr w K mg base (ca K) 3 "Kind" ["self", "base", "rows", "deeds", "most"] f_m_Kind_zinitz) (hmet_Sheet_zlenz : Met Pr w K mg base (ca K) 1 "Sheet" "__len__" ["self"] f_m_Sheet_zlenz) (hmet_Written_rest : Met Pr w K mg base (ca K) 3 "Written" "rest" ["self", "r"] f_m_Written_rest) (hprp_Sheet_base : Prp Pr w K mg base (ca K) 1 "Sheet" "base" ["self"] f_m_Sheet_base) (hprp_Sheet_rows : Prp Pr w K mg base (ca K) 1 "Sheet" "rows" ["self"] f_m_Sheet_rows)
    (F : FunD K "_law_shown_right" "_law_shown_right" (defArgs (top 52)) (defBody (top 52)) (defScope (top 52)) [] [] a fd) : FnOk Pr w K mg base (L2.CX Pr w) 10 a fd ["bag", "sheet", "slips", "written"] (spE K (ca K) f_p__law_shown_right) :=
  have sc := sc_p__law_shown_right
  fnED (N := ["bag", "sheet", "slips", "written", "lot", "kind", "divisor"]) (P := [0]) (b := b_p__law_shown_right) F sc fun cdv A outer s H E hr =>
  (ss_cons (ss_if (st_or (zt_gt cf (po_e (zc_len hmet_Sheet_zlenz hr z.fr_len (se_v (pv 1)))) (po_e se_int)) (st_or (zt_neD cf hr (po_e (zf_len cf z.fr_len (sp_cons (po_v (pv 2)) sp_nil))) (po_e se_int)) (st_or1 (zt_gt cf (po_e (zc_call hcal__law_power hr tkX (sg_cons (ag_e (zc_prop hprp_Sheet_base hr (ag_e (se_v (pv 1))))) (sg_cons (ag_e (zc_prop hprp_Sheet_rows hr (ag_e (se_v (pv 1))))) sg_nil)))) (po_e se_int))))).pt (ss_one (ss_ret se_bl)) ss_nil)
  (ss_cons (ss_set sc.nd (by rfl) (by first | exact Or.inl rfl | exact Or.inr rfl) (zc_call hcal__law_lot hr tkX (sg_cons (ag_mu (pv 0)) (sg_cons (ag_e se_int) (sg_cons (ag_e se_int) sg_nil)))))
  (ss_cons (ss_set sc.nd (by rfl) (by first | exact Or.inl rfl | exact Or.inr rfl) (se_fr (zc_make hmak_Kind hr tkX (sg_cons (ag_e (zc_prop hprp_Sheet_base hr (ag_e (se_v (pv 1))))) (sg_cons (ag_e (zc_prop hprp_Sheet_rows hr (ag_e (se_v (pv 1))))) (sg_cons (ag_e (se_lst (sa_cons (se_ix cf (po_e (se_ix cf (po_v (pv 2)) (po_e se_int))) (po_e se_int)) sa_nil))) (sg_cons (ag_e se_int) sg_nil)))))))
  (ss_one (ss_ret (zb_in cf hr (po_v (pv 2)) (po_e (zc_call hcal_slips_shown hr tkX (sg_cons (ag_e (se_v (pv 5))) (sg_cons (ag_e (se_v (pv 1))) (sg_cons (ag_e (zf_list cf z.fr_list (sp_cons (po_v (pv 4)) sp_nil))) (sg_cons (ag_e (se_fr (so_lc (by rfl) sc.nd (si_e (se_v (pv 4))) (own := [("divisor", 6)]) (blk_of (by rfl)) (fun _ _ _ _ _ => (sg_name sc.nd (by rfl) (by first | exact Or.inl rfl | exact Or.inr rfl))) (fun _ _ _ _ _ => sts_nil) (fun _ _ _ _ _ => (zc_meth hmet_Written_rest hr Ev.takes0 (ag_e (se_v (pv 3))) (sg_cons (ag_e (se_v (pv 6))) sg_nil)))))) sg_nil))))))))))))
theorem sc_p__law_right : FnScope ["script", "k", "bag", "column", "sheet", "right", "lap", "at", "base", "rows", "size", "columns", "written", "one", "total", "slips", "figures", "gap", "slip"] ["script", "k"] (defScope (top 53)) := ⟨rfl, rfl, rfl, by decide +kernel, rfl, by decide +kernel, by decide +kernel⟩
theorem ok_p__law_right {Pr : Program} {w : World} {K : PySem.W.Frag} {mg : PySem.Str → Option Value} {base : Heap} {a : Addr} {fd : FuncData} (cf : Cf K (ca K)) (z : Gf K mg) (hbd_Written_Sheet_zsubz : BinD K (He.ga K "Written") (He.ga K "Sheet") "__sub__" "__rsub__") (hcal__law_carry_right : Cal Pr w K mg base (ca K) 8 "_law_carry_right" ["sheet", "at"] f_p__law_carry_right) (hcal__law_column : Cal Pr w K mg base (ca K) 2 "_law_column" ["bag", "base", "rows"] f_p__law_column) (hcal__law_marked : Cal Pr w K mg base (ca K) 3 "_law_marked" ["bag", "sheet", "right"] f_p__law_marked) (hcal__law_mixed : Cal Pr w K mg base (ca K) 2 "_law_mixed" ["bag", "items"] f_p__law_mixed) (hcal__law_shown_right : Cal Pr w K mg base (ca K) 10 "_law_shown_right" ["bag", "sheet", "slips", "written"] f_p__law_shown_right) (hcal__law_take : Cal Pr w K mg base (ca K) 1 "_law_take" ["bag", "many"] f_p__law_take) (hcal_add_right : Cal Pr w K mg base (ca K) 6 "add_right" ["sheet"] f_p_add_right) (hcal_add_with : Cal Pr w K mg base (ca K) 6 "add_with" ["sheet", "slips"] f_p_add_with) (hcalo__law_bag : CalO Pr w K mg base (ca K) 1 "_law_bag" ["script", "k"] f_p__law_bag) (hmak_Sheet : Mak Pr w K mg base (ca K) 3 "Sheet" ["self", "base", "rows", "columns"] f_m_Sheet_zinitz) (hmak_Written : Mak Pr w K mg base (ca K) 1 "Written" ["self", "base", "figures", "last"] f_m_Written_zinitz) (hmet_Written_zeqz : Met Pr w K mg base (ca K) 1 "Written" "__eq__" ["self", "other"] f_m_Written_zeqz) (hmet_Written_zsubz : Met Pr w K mg base (ca K) 3 "Written" "__sub__" ["self", "other"] f_m_Written_zsubz) (hne_Written : NeC K (He.ga K "Written")) (hprp_Written_last : Prp Pr w K mg base (ca K) 1 "Written" "last" ["self"] f_m_Written_last)
    (F : FunD K "_law_right" "_law_right" (defArgs (top 53)) (defBody (top 53)) (defScope (top 53)) [] [] a fd) : FnOk Pr w K mg base (L2.CX Pr w) 11 a fd ["script", "k"] (spE K (ca K) f_p__law_right) :=
  have sc := sc_p__law_right
  fnED (N := ["script", "k", "bag", "column", "sheet", "right", "lap", "at", "base", "rows", "size", "columns", "written", "one", "total", "slips", "figures", "gap", "slip"]) (P := []) (b := b_p__law_right) F sc fun cdv A outer s H E hr =>
  (ss_cons (ss_setO sc.nd (by rfl) (by first | exact Or.inl rfl | exact Or.inr rfl) (zo_call hcalo__law_bag hr tkX (sg_cons (ag_e (se_v (pv 0))) (sg_cons (ag_e (se_v (pv 1))) sg_nil))))
  (ss_cons (by first | exact ss_par2 (by rfl) sc.nd (by rfl) (by rfl) (by decide) (by rfl) (by rfl) (sg_cons (ag_e (zb_add cf (po_e se_int) (po_e (zc_call hcal__law_take hr tkX (sg_cons (ag_mu (pv 2)) (sg_cons (ag_e se_int) sg_nil)))))) (sg_cons (ag_e (zb_add cf (po_e se_int) (po_e (zc_call hcal__law_take hr tkX (sg_cons (ag_mu (pv 2)) (sg_cons (ag_e se_int) sg_nil)))))) sg_nil)) (by rfl) | exact ss_parT (by rfl) (is := [8, 9]) (pgs_cons (pg_name sc.nd (by rfl) (by first | exact Or.inl rfl | exact Or.inr rfl) (by first | exact .inl rfl | exact .inr rfl)) (pgs_cons (pg_name sc.nd (by rfl) (by first | exact Or.inl rfl | exact Or.inr rfl) (by first | exact .inl rfl | exact .inr rfl)) pgs_nil)) (sg_cons (ag_e (zb_add cf (po_e se_int) (po_e (zc_call hcal__law_take hr tkX (sg_cons (ag_mu (pv 2)) (sg_cons (ag_e se_int) sg_nil)))))) (sg_cons (ag_e (zb_add cf (po_e se_int) (po_e (zc_call hcal__law_take hr tkX (sg_cons (ag_mu (pv 2)) (sg_cons (ag_e se_int) sg_nil)))))) sg_nil)))
  (ss_cons (by first | exact ss_par2 (by rfl) sc.nd (by rfl) (by rfl) (by decide) (by rfl) (by rfl) (sg_cons (ag_e (zb_add cf (po_e se_int) (po_e (zc_call hcal__law_take hr tkX (sg_cons (ag_mu (pv 2)) (sg_cons (ag_e (se_ix cf (po_e (se_lst (sa_cons se_int (sa_cons se_int sa_nil)))) (po_e (zf_int cf z.fr_int (sp_cons (po_e (zb_eq cf hr (po_v (pv 1)) (po_e se_int))) sp_nil))))) sg_nil)))))) (sg_cons (ag_t (so_lst sa_nil)) sg_nil)) (by rfl) | exact ss_parT (by rfl) (is := [10, 11]) (pgs_cons (pg_name sc.nd (by rfl) (by first | exact Or.inl rfl | exact Or.inr rfl) (by first | exact .inl rfl | exact .inr rfl)) (pgs_cons (pg_name sc.nd (by rfl) (by first | exact Or.inl rfl | exact Or.inr rfl) (by first | exact .inl rfl | exact .inr rfl)) pgs_nil)) (sg_cons (ag_e (zb_add cf (po_e se_int) (po_e (zc_call hcal__law_take hr tkX (sg_cons (ag_mu (pv 2)) (sg_cons (ag_e (se_ix cf (po_e (se_lst (sa_cons se_int (sa_cons se_int sa_nil)))) (po_e (zf_int cf z.fr_int (sp_cons (po_e (zb_eq cf hr (po_v (pv 1)) (po_e se_int))) sp_nil))))) sg_nil)))))) (sg_cons (ag_t (so_lst sa_nil)) sg_nil)))
  (ss_cons (ss_for psX (by rfl) (si_range1 (by rfl) z.fr_range (se_v (pv 10))) (sg_name sc.nd (by rfl) (by first | exact Or.inl rfl | exact Or.inr rfl)) (ss_one (ss_drop (zm_append (pv 11) (sa_cons (se_ix cf (po_e (se_lst (sa_cons (zc_call hcal__law_column hr tkX (sg_cons (ag_mu (pv 2)) (sg_cons (ag_e (se_v (pv 8))) (sg_cons (ag_e (se_v (pv 9))) sg_nil)))) (sa_cons (zf_tuple cf z.fr_tuple (sp_cons (po_e (zb_mul cf (po_e (se_lst (sa_cons (zb_sub cf (po_v (pv 8)) (po_e se_int)) sa_nil))) (po_v (pv 9)))) sp_nil)) sa_nil)))) (po_e (zc_call hcal__law_take hr tkX (sg_cons (ag_mu (pv 2)) (sg_cons (ag_e se_int) sg_nil))))) sa_nil)))))
  (ss_cons (ss_set sc.nd (by rfl) (by first | exact Or.inl rfl | exact Or.inr rfl) (se_fr (zc_make hmak_Sheet hr tkX (sg_cons (ag_e (se_v (pv 8))) (sg_cons (ag_e (se_v (pv 9))) (sg_cons (ag_e (se_fz (pv 11))) sg_nil))))))
  (ss_cons (ss_set sc.nd (by rfl) (by first | exact Or.inl rfl | exact Or.inr rfl) (zc_call hcal_add_right hr tkX (sg_cons (ag_e (se_v (pv 4))) sg_nil)))
  (ss_cons (ss_for psX (by rfl) (si_range1 (by rfl) z.fr_range se_int) (sg_name sc.nd (by rfl) (by first | exact Or.inl rfl | exact Or.inr rfl)) (ss_cons (ss_asg (zc_call hcal__law_marked hr tkX (sg_cons (ag_mu (pv 2)) (sg_cons (ag_e (se_v (pv 4))) (sg_cons (ag_e (se_v (pv 5))) sg_nil)))) (sg_tup (by rfl) (sgs_cons (sg_name sc.nd (by rfl) (by first | exact Or.inl rfl | exact Or.inr rfl)) (sgs_cons (sg_name sc.nd (by rfl) (by first | exact Or.inl rfl | exact Or.inr rfl)) (sgs_cons (sg_name sc.nd (by rfl) (by first | exact Or.inl rfl | exact Or.inr rfl)) sgs_nil)))))
  (ss_cons (ss_set sc.nd (by rfl) (by first | exact Or.inl rfl | exact Or.inr rfl) (zc_call hcal_add_with hr tkX (sg_cons (ag_e (se_v (pv 4))) (sg_cons (ag_e (zf_list cf z.fr_list (sp_cons (po_v (pv 15)) sp_nil))) sg_nil))))
  (ss_cons (ss_if (st_or (zt_ne hmet_Written_zeqz hne_Written hr (se_v (pv 12)) (se_fr (zc_make hmak_Written hr tkX (sg_cons (ag_e (se_v (pv 8))) (sg_cons (ag_e (se_v (pv 16))) (sg_cons (ag_e (zc_prop hprp_Written_last hr (ag_e (se_v (pv 5))))) sg_nil)))))) (st_or1 (zt_neD cf hr (po_e (zc_binD hmet_Written_zsubz hbd_Written_Sheet_zsubz hr (se_v (pv 12)) (se_v (pv 4)))) (po_v (pv 17))))).pt (ss_one (ss_ret se_bl)) ss_nil)
  (ss_cons (ss_set sc.nd (by rfl) (by first | exact Or.inl rfl | exact Or.inr rfl) (se_sl (se_v (pv 15)) pl_none (pl_some se_int)))
  (ss_cons (ss_if (st_not (st_tru cf (po_e (zc_call hcal__law_shown_right hr tkX (sg_cons (ag_mu (pv 2)) (sg_cons (ag_e (se_v (pv 4))) (sg_cons (ag_e (se_v (pv 13))) (sg_cons (ag_e (zc_call hcal_add_with hr tkX (sg_cons (ag_e (se_v (pv 4))) (sg_cons (ag_e (zf_list cf z.fr_list (sp_cons (po_v (pv 13)) sp_nil))) sg_nil)))) sg_nil)))))))) (ss_one (ss_ret se_bl)) ss_nil)
  (ss_cons (ss_set sc.nd (by rfl) (by first | exact Or.inl rfl | exact Or.inr rfl) (zf_sum cf (by rfl) z.fr_sum (sp_cons (po_e (se_fr (so_lc (by rfl) sc.nd (si_e (se_v (pv 15))) (own := [("slip", 18)]) (blk_of (by rfl)) (fun _ _ _ _ _ => (sg_name sc.nd (by rfl) (by first | exact Or.inl rfl | exact Or.inr rfl))) (fun _ _ _ _ _ => sts_nil) (fun _ _ _ _ _ => (zc_binD hmet_Written_zsubz hbd_Written_Sheet_zsubz hr (zc_call hcal_add_with hr Ev.takes0 (sg_cons (ag_e (se_v (pv 4))) (sg_cons (ag_e (se_lst (sa_cons (se_v (pv 18)) sa_nil))) sg_nil))) (se_v (pv 4))))))) sp_nil)))
  (ss_one (ss_if (zt_neD cf hr (po_v (pv 14)) (po_v (pv 17))) (ss_one (ss_ret se_bl)) ss_nil)))))))))
  (ss_cons (ss_for psX (by rfl) (si_e (se_sl (zc_call hcal__law_mixed hr tkX (sg_cons (ag_mu (pv 2)) (sg_cons (ag_e (se_fr (so_lr (by rfl) (by rfl) z.fr_list (by rfl) z.fr_range (se_v (pv 10))))) sg_nil))) pl_none (pl_some se_int))) (sg_name sc.nd (by rfl) (by first | exact Or.inl rfl | exact Or.inr rfl)) (ss_one (ss_if (st_not (st_tru cf (po_e (zc_call hcal__law_carry_right hr tkX (sg_cons (ag_e (se_v (pv 4))) (sg_cons (ag_e (se_v (pv 7))) sg_nil)))))) (ss_one (ss_ret se_bl)) ss_nil)))
  (ss_one (ss_ret se_bl))))))))))
theorem sc_p_law : FnScope ["script", "k"] ["script"] (defScope (top 54)) := ⟨rfl, rfl, rfl, by decide +kernel, rfl, by decide +kernel, by decide +kernel⟩
theorem ok_p_law {Pr : Program} {w : World} {K : PySem.W.Frag} {mg : PySem.Str → Option Value} {base : Heap} {a : Addr} {fd : FuncData} (cf : Cf K (ca K)) (z : Gf K mg) (hcal__law_right : Cal Pr w K mg base (ca K) 11 "_law_right" ["script", "k"] f_p__law_right)
    (F : FunD K "law" "law" (defArgs (top 54)) (defBody (top 54)) (defScope (top 54)) [] [] a fd) : FnOk Pr w K mg base (L2.CX Pr w) 12 a fd ["script"] (spE K (ca K) f_p_law) :=
  have sc := sc_p_law
  fnED (N := ["script", "k"]) (P := []) (b := b_p_law) F sc fun cdv A outer s H E hr =>
  (ss_cons (ss_for psX (by rfl) (si_range1 (by rfl) z.fr_range (zf_max cf (by rfl) z.fr_max (sp_cons (po_e se_int) (sp_cons (po_e (zf_min cf (by rfl) z.fr_min (sp_cons (po_e se_int) (sp_cons (po_e (zf_len cf z.fr_len (sp_cons (po_v (pv 0)) sp_nil))) sp_nil)))) sp_nil)))) (sg_name sc.nd (by rfl) (by first | exact Or.inl rfl | exact Or.inr rfl)) (ss_one (ss_if (st_not (st_tru cf (po_e (zc_call hcal__law_right hr tkX (sg_cons (ag_e (se_v (pv 0))) (sg_cons (ag_e (se_v (pv 1))) sg_nil)))))) (ss_one (ss_ret se_bl)) ss_nil)))
  (ss_one (ss_ret se_bl)))
theorem sc_rai_InvalidSlips : FnScope ["self", "index"] ["self", "index"] (defScope (sub 8 0)) := ⟨rfl, rfl, rfl, by decide +kernel, rfl, by decide +kernel, by decide +kernel⟩
theorem ok_rai_InvalidSlips {Pr : Program} {w : World} {K : PySem.W.Frag} {mg : PySem.Str → Option Value} {base : Heap} {a : Addr} {fd : FuncData}
    (F : FunD K "__init__" "InvalidSlips.__init__" (defArgs (sub 8 0)) (defBody (sub 8 0)) (defScope (sub 8 0)) [] [] a fd) : FnOk Pr w K mg base (L2.CX Pr w) 1 a fd ["self", "index"] (spIx K "index") :=
  have sc := sc_rai_InvalidSlips
  fnIx (N := ["self", "index"]) F sc rfl fun cdv A outer s H E hr => pss_one (ps_ost (pv 0) (pv 1))
end K81
namespace K81
open PySem PySem.Spec PyProof.Rows L2 Ev
def fa : List Zf := [.cf cs fs,
  .fa (.free "abs"),
  .fa (.free "all"),
  .fa (.free "bool"),
  .fa (.free "enumerate"),
  .fa (.free "int"),
  .fa (.free "isinstance"),
  .fa (.free "len"),
  .fa (.free "list"),
  .fa (.free "max"),
  .fa (.free "min"),
  .fa (.free "range"),
  .fa (.free "str"),
  .fa (.free "sum"),
  .fa (.free "tuple"),
  .fa (.int "MOST_COLUMNS" 1000),
  .fa (.int "MOST_DEEDS" 8),
  .fa (.glo "PLAIN"),
  .tup "PLAIN" ((["forget", "again", "swap", "out", "twice"] : List PySem.Str).map He.Dv.str),
  .fa (.glo "is_integer"),
  .fa (.glo "is_column"),
  .fa (.mkr "Sheet"),
  .fa (.glo "Sheet"),
  .fa (.glo "Written"),
  .ins "Written",
  .fa (.meth "Written" "__eq__"),
  .fa (.mkr "Written"),
  .prop "Sheet" "value",
  .prop "Written" "value",
  .fa (.meth "Written" "__sub__"),
  .prop "Written" "last",
  .fa (.glo "_law_bag"),
  .fa (.meth "Sheet" "__len__"),
  .prop "Sheet" "base",
  .fa (.meth "Sheet" "cut"),
  .prop "Written" "figures",
  .fa (.glo "_law_power"),
  .prop "Sheet" "columns",
  .prop "Sheet" "rows",
  .fa (.glo "_law_with_carry"),
  .fa (.mkr "Adding"),
  .fa (.glo "Adding"),
  .fa (.glo "taken"),
  .fa (.glo "done"),
  .fa (.meth "Adding" "do"),
  .fa (.meth "Adding" "do_until"),
  .fa (.meth "Adding" "free"),
  .fa (.meth "Adding" "result"),
  .fa (.glo "is_deed"),
  .fa (.glo "is_slip"),
  .oex "InvalidSlips",
  .fa (.glo "InvalidSlips"),
  .fa (.glo "add_with"),
  .fa (.glo "_law_written"),
  .fa (.glo "add_right"),
  .first "Written",
  .differ "Written" "Sheet",
  .bare "Sheet",
  .nofind "Sheet" "__sub__",
  .nofind "Sheet" "__rsub__",
  .noobj "__sub__",
  .noobj "__rsub__",
  .ne "Written",
  .obj "Written",
  .fa (.glo "_law_carry_right"),
  .fa (.glo "_law_take"),
  .fa (.glo "_law_column"),
  .fa (.glo "_law_marked"),
  .fa (.glo "_law_mixed"),
  .fa (.glo "all_deeds"),
  .fa (.glo "number_of_columns"),
  .fa (.mkr "Kind"),
  .fa (.glo "Kind"),
  .fa (.meth "Written" "rest"),
  .fa (.glo "_law_lot"),
  .prop "Kind" "deeds",
  .prop "Kind" "most",
  .fa (.glo "further_slips"),
  .fa (.glo "outcome"),
  .fa (.glo "all_outcomes"),
  .prop "Kind" "base",
  .prop "Kind" "rows",
  .fa (.glo "check_alike"),
  .fa (.glo "check_lot"),
  .fa (.glo "slips_shown"),
  .fa (.glo "_law_shown_right"),
  .fa (.glo "_law_right"),
  .fa (.glo "law")]
def fn : List DefZ := [⟨fun K => (He.ga K "is_integer"), "is_integer", "is_integer", (top 10), []⟩,
  ⟨fun K => (He.ga K "is_column"), "is_column", "is_column", (top 11), []⟩,
  ⟨fun K => (He.ma K (He.ga K "Sheet") "__init__"), "__init__", "Sheet.__init__", (sub 12 0), []⟩,
  ⟨fun K => (He.ma K (He.ga K "Written") "__eq__"), "__eq__", "Written.__eq__", (sub 20 7), []⟩,
  ⟨fun K => (He.ma K (He.ga K "Written") "__init__"), "__init__", "Written.__init__", (sub 20 0), []⟩,
  ⟨fun K => (pgA K "Sheet" "value"), "value", "Sheet.value", (sub 12 4), []⟩,
  ⟨fun K => (pgA K "Written" "value"), "value", "Written.value", (sub 20 4), []⟩,
  ⟨fun K => (He.ma K (He.ga K "Written") "__sub__"), "__sub__", "Written.__sub__", (sub 20 6), []⟩,
  ⟨fun K => (pgA K "Written" "last"), "last", "Written.last", (sub 20 3), []⟩,
  ⟨fun K => (He.ga K "_law_bag"), "_law_bag", "_law_bag", (top 39), []⟩,
  ⟨fun K => (He.ma K (He.ga K "Sheet") "__len__"), "__len__", "Sheet.__len__", (sub 12 5), []⟩,
  ⟨fun K => (pgA K "Sheet" "base"), "base", "Sheet.base", (sub 12 1), []⟩,
  ⟨fun K => (He.ma K (He.ga K "Sheet") "cut"), "cut", "Sheet.cut", (sub 12 9), []⟩,
  ⟨fun K => (pgA K "Written" "figures"), "figures", "Written.figures", (sub 20 2), []⟩,
  ⟨fun K => (He.ga K "_law_power"), "_law_power", "_law_power", (top 42), []⟩,
  ⟨fun K => (pgA K "Sheet" "columns"), "columns", "Sheet.columns", (sub 12 3), []⟩,
  ⟨fun K => (pgA K "Sheet" "rows"), "rows", "Sheet.rows", (sub 12 2), []⟩,
  ⟨fun K => (He.ga K "_law_with_carry"), "_law_with_carry", "_law_with_carry", (top 50), []⟩,
  ⟨fun K => (He.ma K (He.ga K "Adding") "__init__"), "__init__", "Adding.__init__", (sub 21 0), []⟩,
  ⟨fun K => (He.ga K "taken"), "taken", "taken", (top 17), []⟩,
  ⟨fun K => (He.ga K "done"), "done", "done", (top 18), []⟩,
  ⟨fun K => (He.ma K (He.ga K "Adding") "do"), "do", "Adding.do", (sub 21 2), []⟩,
  ⟨fun K => (He.ma K (He.ga K "Adding") "do_until"), "do_until", "Adding.do_until", (sub 21 3), []⟩,
  ⟨fun K => (He.ma K (He.ga K "Adding") "free"), "free", "Adding.free", (sub 21 1), []⟩,
  ⟨fun K => (He.ma K (He.ga K "Adding") "result"), "result", "Adding.result", (sub 21 4), []⟩,
  ⟨fun K => (He.ga K "is_deed"), "is_deed", "is_deed", (top 16), []⟩,
  ⟨fun K => (He.ga K "is_slip"), "is_slip", "is_slip", (top 22), []⟩,
  ⟨fun K => (He.ga K "add_with"), "add_with", "add_with", (top 24), []⟩,
  ⟨fun K => (He.ga K "_law_written"), "_law_written", "_law_written", (top 47), []⟩,
  ⟨fun K => (He.ga K "add_right"), "add_right", "add_right", (top 23), []⟩,
  ⟨fun K => (He.ga K "_law_carry_right"), "_law_carry_right", "_law_carry_right", (top 51), []⟩,
  ⟨fun K => (He.ga K "_law_take"), "_law_take", "_law_take", (top 40), []⟩,
  ⟨fun K => (He.ga K "_law_column"), "_law_column", "_law_column", (top 43), []⟩,
  ⟨fun K => (He.ga K "_law_marked"), "_law_marked", "_law_marked", (top 49), []⟩,
  ⟨fun K => (He.ga K "_law_mixed"), "_law_mixed", "_law_mixed", (top 41), []⟩,
  ⟨fun K => (He.ga K "all_deeds"), "all_deeds", "all_deeds", (top 15), []⟩,
  ⟨fun K => (He.ga K "number_of_columns"), "number_of_columns", "number_of_columns", (top 36), []⟩,
  ⟨fun K => (He.ma K (He.ga K "Kind") "__init__"), "__init__", "Kind.__init__", (sub 37 0), []⟩,
  ⟨fun K => (He.ma K (He.ga K "Written") "rest"), "rest", "Written.rest", (sub 20 5), []⟩,
  ⟨fun K => (He.ga K "_law_lot"), "_law_lot", "_law_lot", (top 46), []⟩,
  ⟨fun K => (pgA K "Kind" "deeds"), "deeds", "Kind.deeds", (sub 37 3), []⟩,
  ⟨fun K => (pgA K "Kind" "most"), "most", "Kind.most", (sub 37 4), []⟩,
  ⟨fun K => (He.ga K "further_slips"), "further_slips", "further_slips", (top 30), []⟩,
  ⟨fun K => (He.ga K "outcome"), "outcome", "outcome", (top 29), []⟩,
  ⟨fun K => (He.ga K "all_outcomes"), "all_outcomes", "all_outcomes", (top 31), []⟩,
  ⟨fun K => (pgA K "Kind" "base"), "base", "Kind.base", (sub 37 1), []⟩,
  ⟨fun K => (pgA K "Kind" "rows"), "rows", "Kind.rows", (sub 37 2), []⟩,
  ⟨fun K => (He.ga K "check_alike"), "check_alike", "check_alike", (top 28), []⟩,
  ⟨fun K => (He.ga K "check_lot"), "check_lot", "check_lot", (top 26), []⟩,
  ⟨fun K => (He.ga K "slips_shown"), "slips_shown", "slips_shown", (top 32), []⟩,
  ⟨fun K => (He.ga K "_law_shown_right"), "_law_shown_right", "_law_shown_right", (top 52), []⟩,
  ⟨fun K => (He.ga K "_law_right"), "_law_right", "_law_right", (top 53), []⟩,
  ⟨fun K => (He.ga K "law"), "law", "law", (top 54), []⟩,
  ⟨fun K => He.ma K (He.ga K "InvalidSlips") "__init__", "__init__", "InvalidSlips.__init__", (sub 8 0), []⟩]
theorem facts {Pr : Program} {w : World} {K : PySem.W.Frag} {h : Heap} {mg : PySem.Str → Option Value} (KX : K.In h) (G : h.Ns mainGlobals mg) (c : SaysZ fa fn K) : mg "law" = some (.ref (He.ga K "law")) ∧
    ∃ fd : FuncData, Binds K fd ["script"] [] ∧ (∀ (s : Shared) (v : Value), BindsTo s fd ⟨[v], []⟩ [("script", v)]) ∧ ∀ base : Heap, FnOk Pr w K mg base (L2.CX Pr w) 12 (He.ga K "law") fd ["script"] (spE K (ca K) f_p_law) := by
  obtain ⟨fdL, FL⟩ := c.def_ 52 (d := ⟨fun K => (He.ga K "law"), "law", "law", (top 54), []⟩)
  refine ⟨He.glo_ok (x := "law") KX G (c.fact 87 (f := .fa (.glo "law"))), fdL, FL.bindsN (ps := ["script"]) fun _ _ _ _ _ _ us hl => match us, hl with | [_], _ => rfl, fun s v => FL.bindsA (ps := ["script"]) (fun _ _ _ _ _ _ us hl => match us, hl with | [_], _ => rfl) s [v] rfl, fun base => ?_⟩
  have hcf : cfB K cs fs = true := c.fact 0 (f := .cf cs fs)
  have cf : Cf K (ca K) := cf_of hcf
  have z : Gf K mg := { fr_abs := He.free_ok KX G (c.fact 1 (f := .fa (.free "abs"))), fr_all := He.free_ok KX G (c.fact 2 (f := .fa (.free "all"))), fr_bool := He.free_ok KX G (c.fact 3 (f := .fa (.free "bool"))), fr_enumerate := He.free_ok KX G (c.fact 4 (f := .fa (.free "enumerate"))), fr_int := He.free_ok KX G (c.fact 5 (f := .fa (.free "int"))), fr_isinstance := He.free_ok KX G (c.fact 6 (f := .fa (.free "isinstance"))), fr_len := He.free_ok KX G (c.fact 7 (f := .fa (.free "len"))), fr_list := He.free_ok KX G (c.fact 8 (f := .fa (.free "list"))), fr_max := He.free_ok KX G (c.fact 9 (f := .fa (.free "max"))), fr_min := He.free_ok KX G (c.fact 10 (f := .fa (.free "min"))), fr_range := He.free_ok KX G (c.fact 11 (f := .fa (.free "range"))), fr_str := He.free_ok KX G (c.fact 12 (f := .fa (.free "str"))), fr_sum := He.free_ok KX G (c.fact 13 (f := .fa (.free "sum"))), fr_tuple := He.free_ok KX G (c.fact 14 (f := .fa (.free "tuple"))), co_MOST_COLUMNS := (let ⟨t, e⟩ := He.int_ok (x := "MOST_COLUMNS") (i := 1000) KX G (c.fact 15 (f := .fa (.int "MOST_COLUMNS" 1000))); ⟨_, e, t, rfl⟩), cr_MOST_COLUMNS := fun _ _ => rep_int, co_MOST_DEEDS := (let ⟨t, e⟩ := He.int_ok (x := "MOST_DEEDS") (i := 8) KX G (c.fact 16 (f := .fa (.int "MOST_DEEDS" 8))); ⟨_, e, t, rfl⟩), cr_MOST_DEEDS := fun _ _ => rep_int, co_PLAIN := ⟨_, He.glo_ok (x := "PLAIN") KX G (c.fact 17 (f := .fa (.glo "PLAIN"))), rfl⟩, cr_PLAIN := rep_tupK (c.fact 18 (f := .tup "PLAIN" _)) }
  obtain ⟨fd0, F0⟩ := c.def_ 0 (d := ⟨fun K => (He.ga K "is_integer"), "is_integer", "is_integer", (top 10), []⟩)
  have o0 := ok_p_is_integer (Pr := Pr) (w := w) (base := base) cf z F0
  have b0 : Binds K fd0 ["value"] [] := F0.bindsN (ps := ["value"]) fun _ _ _ _ _ _ us hl => match us, hl with | [_], _ => rfl
  have hcal_is_integer : Cal Pr w K mg base (ca K) 1 "is_integer" ["value"] f_p_is_integer := ⟨⟨fd0, o0, b0⟩, He.glo_ok (x := "is_integer") KX G (c.fact 19 (f := .fa (.glo "is_integer"))), F0.kp⟩
  obtain ⟨fd1, F1⟩ := c.def_ 1 (d := ⟨fun K => (He.ga K "is_column"), "is_column", "is_column", (top 11), []⟩)
  have o1 := ok_p_is_column (Pr := Pr) (w := w) (base := base) cf z hcal_is_integer F1
  have b1 : Binds K fd1 ["value", "base", "rows"] [] := F1.bindsN (ps := ["value", "base", "rows"]) fun _ _ _ _ _ _ us hl => match us, hl with | [_, _, _], _ => rfl
  have hcal_is_column : Cal Pr w K mg base (ca K) 2 "is_column" ["value", "base", "rows"] f_p_is_column := ⟨⟨fd1, o1, b1⟩, He.glo_ok (x := "is_column") KX G (c.fact 20 (f := .fa (.glo "is_column"))), F1.kp⟩
  obtain ⟨fd2, F2⟩ := c.def_ 2 (d := ⟨fun K => (He.ma K (He.ga K "Sheet") "__init__"), "__init__", "Sheet.__init__", (sub 12 0), []⟩)
  have o2 := ok_m_Sheet_zinitz (Pr := Pr) (w := w) (base := base) cf z hcal_is_column hcal_is_integer F2
  have b2 : Binds K fd2 ["self", "base", "rows", "columns"] [] := F2.bindsN (ps := ["self", "base", "rows", "columns"]) fun _ _ _ _ _ _ us hl => match us, hl with | [_, _, _, _], _ => rfl
  have hmak_Sheet : Mak Pr w K mg base (ca K) 3 "Sheet" ["self", "base", "rows", "columns"] f_m_Sheet_zinitz := ⟨⟨fd2, o2, b2⟩, He.mkr_ok (x := "Sheet") (c.fact 21 (f := .fa (.mkr "Sheet"))), He.glo_ok (x := "Sheet") KX G (c.fact 22 (f := .fa (.glo "Sheet"))), caOf_new (by decide +kernel)⟩
  have hgl_Written : mg "Written" = some (.ref (He.ga K "Written")) := He.glo_ok (x := "Written") KX G (c.fact 23 (f := .fa (.glo "Written")))
  have hins_Written : C8.InsC K (He.ga K "Written") := ins_ok (c.fact 24 (f := .ins "Written")) (cf_cls hcf (by decide +kernel))
  obtain ⟨fd3, F3⟩ := c.def_ 3 (d := ⟨fun K => (He.ma K (He.ga K "Written") "__eq__"), "__eq__", "Written.__eq__", (sub 20 7), []⟩)
  have o3 := ok_m_Written_zeqz (Pr := Pr) (w := w) (base := base) cf z hgl_Written hins_Written F3
  have b3 : Binds K fd3 ["self", "other"] [] := F3.bindsN (ps := ["self", "other"]) fun _ _ _ _ _ _ us hl => match us, hl with | [_, _], _ => rfl
  have hmet_Written_zeqz : Met Pr w K mg base (ca K) 1 "Written" "__eq__" ["self", "other"] f_m_Written_zeqz := ⟨⟨fd3, o3, b3⟩, He.meth_ok (c.fact 25 (f := .fa (.meth "Written" "__eq__"))), cf_cls hcf (by decide +kernel), caOf_no (by decide +kernel)⟩
  obtain ⟨fd4, F4⟩ := c.def_ 4 (d := ⟨fun K => (He.ma K (He.ga K "Written") "__init__"), "__init__", "Written.__init__", (sub 20 0), []⟩)
  have o4 := ok_m_Written_zinitz (Pr := Pr) (w := w) (base := base) cf z F4
  have b4 : Binds K fd4 ["self", "base", "figures", "last"] [] := F4.bindsN (ps := ["self", "base", "figures", "last"]) fun _ _ _ _ _ _ us hl => match us, hl with | [_, _, _, _], _ => rfl
  have hmak_Written : Mak Pr w K mg base (ca K) 1 "Written" ["self", "base", "figures", "last"] f_m_Written_zinitz := ⟨⟨fd4, o4, b4⟩, He.mkr_ok (x := "Written") (c.fact 26 (f := .fa (.mkr "Written"))), He.glo_ok (x := "Written") KX G (c.fact 23 (f := .fa (.glo "Written"))), caOf_new (by decide +kernel)⟩
  obtain ⟨fd5, F5⟩ := c.def_ 5 (d := ⟨fun K => (pgA K "Sheet" "value"), "value", "Sheet.value", (sub 12 4), []⟩)
  have o5 := ok_m_Sheet_value (Pr := Pr) (w := w) (base := base) cf z F5
  have b5 : Binds K fd5 ["self"] [] := F5.bindsN (ps := ["self"]) fun _ _ _ _ _ _ us hl => match us, hl with | [_], _ => rfl
  have hprp_Sheet_value : Prp Pr w K mg base (ca K) 1 "Sheet" "value" ["self"] f_m_Sheet_value := ⟨⟨_, _, fd5, o5, b5, prop_ok (c.fact 27 (f := .prop "Sheet" "value"))⟩, cf_cls hcf (by decide +kernel), caOf_no (by decide +kernel)⟩
  obtain ⟨fd6, F6⟩ := c.def_ 6 (d := ⟨fun K => (pgA K "Written" "value"), "value", "Written.value", (sub 20 4), []⟩)
  have o6 := ok_m_Written_value (Pr := Pr) (w := w) (base := base) cf z F6
  have b6 : Binds K fd6 ["self"] [] := F6.bindsN (ps := ["self"]) fun _ _ _ _ _ _ us hl => match us, hl with | [_], _ => rfl
  have hprp_Written_value : Prp Pr w K mg base (ca K) 1 "Written" "value" ["self"] f_m_Written_value := ⟨⟨_, _, fd6, o6, b6, prop_ok (c.fact 28 (f := .prop "Written" "value"))⟩, cf_cls hcf (by decide +kernel), caOf_no (by decide +kernel)⟩
  obtain ⟨fd7, F7⟩ := c.def_ 7 (d := ⟨fun K => (He.ma K (He.ga K "Written") "__sub__"), "__sub__", "Written.__sub__", (sub 20 6), []⟩)
  have o7 := ok_m_Written_zsubz (Pr := Pr) (w := w) (base := base) cf z hprp_Sheet_value hprp_Written_value F7
  have b7 : Binds K fd7 ["self", "other"] [] := F7.bindsN (ps := ["self", "other"]) fun _ _ _ _ _ _ us hl => match us, hl with | [_, _], _ => rfl
  have hmet_Written_zsubz : Met Pr w K mg base (ca K) 3 "Written" "__sub__" ["self", "other"] f_m_Written_zsubz := ⟨⟨fd7, o7, b7⟩, He.meth_ok (c.fact 29 (f := .fa (.meth "Written" "__sub__"))), cf_cls hcf (by decide +kernel), caOf_no (by decide +kernel)⟩
  obtain ⟨fd8, F8⟩ := c.def_ 8 (d := ⟨fun K => (pgA K "Written" "last"), "last", "Written.last", (sub 20 3), []⟩)
  have o8 := ok_m_Written_last (Pr := Pr) (w := w) (base := base) cf z F8
  have b8 : Binds K fd8 ["self"] [] := F8.bindsN (ps := ["self"]) fun _ _ _ _ _ _ us hl => match us, hl with | [_], _ => rfl
  have hprp_Written_last : Prp Pr w K mg base (ca K) 1 "Written" "last" ["self"] f_m_Written_last := ⟨⟨_, _, fd8, o8, b8, prop_ok (c.fact 30 (f := .prop "Written" "last"))⟩, cf_cls hcf (by decide +kernel), caOf_no (by decide +kernel)⟩
  obtain ⟨fd9, F9⟩ := c.def_ 9 (d := ⟨fun K => (He.ga K "_law_bag"), "_law_bag", "_law_bag", (top 39), []⟩)
  have o9 := ok_p__law_bag (Pr := Pr) (w := w) (base := base) cf z F9
  have b9 : Binds K fd9 ["script", "k"] [] := F9.bindsN (ps := ["script", "k"]) fun _ _ _ _ _ _ us hl => match us, hl with | [_, _], _ => rfl
  have hcalo__law_bag : CalO Pr w K mg base (ca K) 1 "_law_bag" ["script", "k"] f_p__law_bag := ⟨⟨fd9, o9, b9⟩, He.glo_ok (x := "_law_bag") KX G (c.fact 31 (f := .fa (.glo "_law_bag"))), F9.kp⟩
  obtain ⟨fd10, F10⟩ := c.def_ 10 (d := ⟨fun K => (He.ma K (He.ga K "Sheet") "__len__"), "__len__", "Sheet.__len__", (sub 12 5), []⟩)
  have o10 := ok_m_Sheet_zlenz (Pr := Pr) (w := w) (base := base) cf z F10
  have b10 : Binds K fd10 ["self"] [] := F10.bindsN (ps := ["self"]) fun _ _ _ _ _ _ us hl => match us, hl with | [_], _ => rfl
  have hmet_Sheet_zlenz : Met Pr w K mg base (ca K) 1 "Sheet" "__len__" ["self"] f_m_Sheet_zlenz := ⟨⟨fd10, o10, b10⟩, He.meth_ok (c.fact 32 (f := .fa (.meth "Sheet" "__len__"))), cf_cls hcf (by decide +kernel), caOf_no (by decide +kernel)⟩
  obtain ⟨fd11, F11⟩ := c.def_ 11 (d := ⟨fun K => (pgA K "Sheet" "base"), "base", "Sheet.base", (sub 12 1), []⟩)
  have o11 := ok_m_Sheet_base (Pr := Pr) (w := w) (base := base) cf z F11
  have b11 : Binds K fd11 ["self"] [] := F11.bindsN (ps := ["self"]) fun _ _ _ _ _ _ us hl => match us, hl with | [_], _ => rfl
  have hprp_Sheet_base : Prp Pr w K mg base (ca K) 1 "Sheet" "base" ["self"] f_m_Sheet_base := ⟨⟨_, _, fd11, o11, b11, prop_ok (c.fact 33 (f := .prop "Sheet" "base"))⟩, cf_cls hcf (by decide +kernel), caOf_no (by decide +kernel)⟩
  obtain ⟨fd12, F12⟩ := c.def_ 12 (d := ⟨fun K => (He.ma K (He.ga K "Sheet") "cut"), "cut", "Sheet.cut", (sub 12 9), []⟩)
  have o12 := ok_m_Sheet_cut (Pr := Pr) (w := w) (base := base) cf z hmak_Sheet F12
  have b12 : Binds K fd12 ["self", "low", "high"] [] := F12.bindsN (ps := ["self", "low", "high"]) fun _ _ _ _ _ _ us hl => match us, hl with | [_, _, _], _ => rfl
  have hmet_Sheet_cut : Met Pr w K mg base (ca K) 5 "Sheet" "cut" ["self", "low", "high"] f_m_Sheet_cut := ⟨⟨fd12, o12, b12⟩, He.meth_ok (c.fact 34 (f := .fa (.meth "Sheet" "cut"))), cf_cls hcf (by decide +kernel), caOf_no (by decide +kernel)⟩
  obtain ⟨fd13, F13⟩ := c.def_ 13 (d := ⟨fun K => (pgA K "Written" "figures"), "figures", "Written.figures", (sub 20 2), []⟩)
  have o13 := ok_m_Written_figures (Pr := Pr) (w := w) (base := base) cf z F13
  have b13 : Binds K fd13 ["self"] [] := F13.bindsN (ps := ["self"]) fun _ _ _ _ _ _ us hl => match us, hl with | [_], _ => rfl
  have hprp_Written_figures : Prp Pr w K mg base (ca K) 1 "Written" "figures" ["self"] f_m_Written_figures := ⟨⟨_, _, fd13, o13, b13, prop_ok (c.fact 35 (f := .prop "Written" "figures"))⟩, cf_cls hcf (by decide +kernel), caOf_no (by decide +kernel)⟩
  obtain ⟨fd14, F14⟩ := c.def_ 14 (d := ⟨fun K => (He.ga K "_law_power"), "_law_power", "_law_power", (top 42), []⟩)
  have o14 := ok_p__law_power (Pr := Pr) (w := w) (base := base) cf z F14
  have b14 : Binds K fd14 ["base", "many"] [] := F14.bindsN (ps := ["base", "many"]) fun _ _ _ _ _ _ us hl => match us, hl with | [_, _], _ => rfl
  have hcal__law_power : Cal Pr w K mg base (ca K) 1 "_law_power" ["base", "many"] f_p__law_power := ⟨⟨fd14, o14, b14⟩, He.glo_ok (x := "_law_power") KX G (c.fact 36 (f := .fa (.glo "_law_power"))), F14.kp⟩
  obtain ⟨fd15, F15⟩ := c.def_ 15 (d := ⟨fun K => (pgA K "Sheet" "columns"), "columns", "Sheet.columns", (sub 12 3), []⟩)
  have o15 := ok_m_Sheet_columns (Pr := Pr) (w := w) (base := base) cf z F15
  have b15 : Binds K fd15 ["self"] [] := F15.bindsN (ps := ["self"]) fun _ _ _ _ _ _ us hl => match us, hl with | [_], _ => rfl
  have hprp_Sheet_columns : Prp Pr w K mg base (ca K) 1 "Sheet" "columns" ["self"] f_m_Sheet_columns := ⟨⟨_, _, fd15, o15, b15, prop_ok (c.fact 37 (f := .prop "Sheet" "columns"))⟩, cf_cls hcf (by decide +kernel), caOf_no (by decide +kernel)⟩
  obtain ⟨fd16, F16⟩ := c.def_ 16 (d := ⟨fun K => (pgA K "Sheet" "rows"), "rows", "Sheet.rows", (sub 12 2), []⟩)
  have o16 := ok_m_Sheet_rows (Pr := Pr) (w := w) (base := base) cf z F16
  have b16 : Binds K fd16 ["self"] [] := F16.bindsN (ps := ["self"]) fun _ _ _ _ _ _ us hl => match us, hl with | [_], _ => rfl
  have hprp_Sheet_rows : Prp Pr w K mg base (ca K) 1 "Sheet" "rows" ["self"] f_m_Sheet_rows := ⟨⟨_, _, fd16, o16, b16, prop_ok (c.fact 38 (f := .prop "Sheet" "rows"))⟩, cf_cls hcf (by decide +kernel), caOf_no (by decide +kernel)⟩
  obtain ⟨fd17, F17⟩ := c.def_ 17 (d := ⟨fun K => (He.ga K "_law_with_carry"), "_law_with_carry", "_law_with_carry", (top 50), []⟩)
  have o17 := ok_p__law_with_carry (Pr := Pr) (w := w) (base := base) cf z hmak_Sheet hprp_Sheet_base hprp_Sheet_columns hprp_Sheet_rows F17
  have b17 : Binds K fd17 ["sheet", "carry"] [] := F17.bindsN (ps := ["sheet", "carry"]) fun _ _ _ _ _ _ us hl => match us, hl with | [_, _], _ => rfl
  have hcal__law_with_carry : Cal Pr w K mg base (ca K) 5 "_law_with_carry" ["sheet", "carry"] f_p__law_with_carry := ⟨⟨fd17, o17, b17⟩, He.glo_ok (x := "_law_with_carry") KX G (c.fact 39 (f := .fa (.glo "_law_with_carry"))), F17.kp⟩
  obtain ⟨fd18, F18⟩ := c.def_ 18 (d := ⟨fun K => (He.ma K (He.ga K "Adding") "__init__"), "__init__", "Adding.__init__", (sub 21 0), []⟩)
  have o18 := ok_m_Adding_zinitz (Pr := Pr) (w := w) (base := base) cf z hprp_Sheet_base hprp_Sheet_columns F18
  have b18 : Binds K fd18 ["self", "sheet"] [] := F18.bindsN (ps := ["self", "sheet"]) fun _ _ _ _ _ _ us hl => match us, hl with | [_, _], _ => rfl
  have hmak_Adding : Mak Pr w K mg base (ca K) 3 "Adding" ["self", "sheet"] f_m_Adding_zinitz := ⟨⟨fd18, o18, b18⟩, He.mkr_ok (x := "Adding") (c.fact 40 (f := .fa (.mkr "Adding"))), He.glo_ok (x := "Adding") KX G (c.fact 41 (f := .fa (.glo "Adding"))), caOf_new (by decide +kernel)⟩
  obtain ⟨fd19, F19⟩ := c.def_ 19 (d := ⟨fun K => (He.ga K "taken"), "taken", "taken", (top 17), []⟩)
  have o19 := ok_p_taken (Pr := Pr) (w := w) (base := base) cf z F19
  have b19 : Binds K fd19 ["base", "column", "before", "deed"] [] := F19.bindsN (ps := ["base", "column", "before", "deed"]) fun _ _ _ _ _ _ us hl => match us, hl with | [_, _, _, _], _ => rfl
  have hcal_taken : Cal Pr w K mg base (ca K) 1 "taken" ["base", "column", "before", "deed"] f_p_taken := ⟨⟨fd19, o19, b19⟩, He.glo_ok (x := "taken") KX G (c.fact 42 (f := .fa (.glo "taken"))), F19.kp⟩
  obtain ⟨fd20, F20⟩ := c.def_ 20 (d := ⟨fun K => (He.ga K "done"), "done", "done", (top 18), []⟩)
  have o20 := ok_p_done (Pr := Pr) (w := w) (base := base) cf z hcal_taken F20
  have b20 : Binds K fd20 ["base", "column", "before", "carry", "deed"] [] := F20.bindsN (ps := ["base", "column", "before", "carry", "deed"]) fun _ _ _ _ _ _ us hl => match us, hl with | [_, _, _, _, _], _ => rfl
  have hcal_done : Cal Pr w K mg base (ca K) 2 "done" ["base", "column", "before", "carry", "deed"] f_p_done := ⟨⟨fd20, o20, b20⟩, He.glo_ok (x := "done") KX G (c.fact 43 (f := .fa (.glo "done"))), F20.kp⟩
  obtain ⟨fd21, F21⟩ := c.def_ 21 (d := ⟨fun K => (He.ma K (He.ga K "Adding") "do"), "do", "Adding.do", (sub 21 2), []⟩)
  have o21 := ok_m_Adding_do (Pr := Pr) (w := w) (base := base) cf z hcal_done F21
  have b21 : Binds K fd21 ["self", "deed"] [] := F21.bindsN (ps := ["self", "deed"]) fun _ _ _ _ _ _ us hl => match us, hl with | [_, _], _ => rfl
  have hmet_Adding_do : Met Pr w K mg base (ca K) 3 "Adding" "do" ["self", "deed"] f_m_Adding_do := ⟨⟨fd21, o21, b21⟩, He.meth_ok (c.fact 44 (f := .fa (.meth "Adding" "do"))), cf_cls hcf (by decide +kernel), caOf_no (by decide +kernel)⟩
  obtain ⟨fd22, F22⟩ := c.def_ 22 (d := ⟨fun K => (He.ma K (He.ga K "Adding") "do_until"), "do_until", "Adding.do_until", (sub 21 3), []⟩)
  have o22 := ok_m_Adding_do_until (Pr := Pr) (w := w) (base := base) cf z hmet_Adding_do F22
  have b22 : Binds K fd22 ["self", "column"] [] := F22.bindsN (ps := ["self", "column"]) fun _ _ _ _ _ _ us hl => match us, hl with | [_, _], _ => rfl
  have hmet_Adding_do_until : Met Pr w K mg base (ca K) 4 "Adding" "do_until" ["self", "column"] f_m_Adding_do_until := ⟨⟨fd22, o22, b22⟩, He.meth_ok (c.fact 45 (f := .fa (.meth "Adding" "do_until"))), cf_cls hcf (by decide +kernel), caOf_no (by decide +kernel)⟩
  obtain ⟨fd23, F23⟩ := c.def_ 23 (d := ⟨fun K => (He.ma K (He.ga K "Adding") "free"), "free", "Adding.free", (sub 21 1), []⟩)
  have o23 := ok_m_Adding_free (Pr := Pr) (w := w) (base := base) cf z F23
  have b23 : Binds K fd23 ["self"] [] := F23.bindsN (ps := ["self"]) fun _ _ _ _ _ _ us hl => match us, hl with | [_], _ => rfl
  have hmet_Adding_free : Met Pr w K mg base (ca K) 1 "Adding" "free" ["self"] f_m_Adding_free := ⟨⟨fd23, o23, b23⟩, He.meth_ok (c.fact 46 (f := .fa (.meth "Adding" "free"))), cf_cls hcf (by decide +kernel), caOf_no (by decide +kernel)⟩
  obtain ⟨fd24, F24⟩ := c.def_ 24 (d := ⟨fun K => (He.ma K (He.ga K "Adding") "result"), "result", "Adding.result", (sub 21 4), []⟩)
  have o24 := ok_m_Adding_result (Pr := Pr) (w := w) (base := base) cf z hmak_Written hmet_Adding_do_until F24
  have b24 : Binds K fd24 ["self"] [] := F24.bindsN (ps := ["self"]) fun _ _ _ _ _ _ us hl => match us, hl with | [_], _ => rfl
  have hmet_Adding_result : Met Pr w K mg base (ca K) 5 "Adding" "result" ["self"] f_m_Adding_result := ⟨⟨fd24, o24, b24⟩, He.meth_ok (c.fact 47 (f := .fa (.meth "Adding" "result"))), cf_cls hcf (by decide +kernel), caOf_no (by decide +kernel)⟩
  obtain ⟨fd25, F25⟩ := c.def_ 25 (d := ⟨fun K => (He.ga K "is_deed"), "is_deed", "is_deed", (top 16), []⟩)
  have o25 := ok_p_is_deed (Pr := Pr) (w := w) (base := base) cf z hcal_is_integer F25
  have b25 : Binds K fd25 ["value", "base", "rows"] [] := F25.bindsN (ps := ["value", "base", "rows"]) fun _ _ _ _ _ _ us hl => match us, hl with | [_, _, _], _ => rfl
  have hcal_is_deed : Cal Pr w K mg base (ca K) 2 "is_deed" ["value", "base", "rows"] f_p_is_deed := ⟨⟨fd25, o25, b25⟩, He.glo_ok (x := "is_deed") KX G (c.fact 48 (f := .fa (.glo "is_deed"))), F25.kp⟩
  obtain ⟨fd26, F26⟩ := c.def_ 26 (d := ⟨fun K => (He.ga K "is_slip"), "is_slip", "is_slip", (top 22), []⟩)
  have o26 := ok_p_is_slip (Pr := Pr) (w := w) (base := base) cf z hcal_is_deed hcal_is_integer hmet_Sheet_zlenz hprp_Sheet_base hprp_Sheet_rows F26
  have b26 : Binds K fd26 ["value", "sheet", "low"] [] := F26.bindsN (ps := ["value", "sheet", "low"]) fun _ _ _ _ _ _ us hl => match us, hl with | [_, _, _], _ => rfl
  have hcal_is_slip : Cal Pr w K mg base (ca K) 3 "is_slip" ["value", "sheet", "low"] f_p_is_slip := ⟨⟨fd26, o26, b26⟩, He.glo_ok (x := "is_slip") KX G (c.fact 49 (f := .fa (.glo "is_slip"))), F26.kp⟩
  obtain ⟨fdr53, Fr53⟩ := c.def_ 53 (d := ⟨fun K => He.ma K (He.ga K "InvalidSlips") "__init__", "__init__", "InvalidSlips.__init__", (sub 8 0), []⟩)
  have br53 : Binds K fdr53 ["self", "index"] [] := Fr53.bindsN (ps := ["self", "index"]) fun _ _ _ _ _ _ us hl => match us, hl with | [_, _], _ => rfl
  have hrai_InvalidSlips : Rai Pr w K mg base (ca K) 1 "InvalidSlips" := ⟨oex_ok (c.fact 50 (f := .oex "InvalidSlips")), He.glo_ok (x := "InvalidSlips") KX G (c.fact 51 (f := .fa (.glo "InvalidSlips"))), ⟨fdr53, ok_rai_InvalidSlips (Pr := Pr) (w := w) (base := base) Fr53, br53⟩⟩
  obtain ⟨fd27, F27⟩ := c.def_ 27 (d := ⟨fun K => (He.ga K "add_with"), "add_with", "add_with", (top 24), []⟩)
  have o27 := ok_p_add_with (Pr := Pr) (w := w) (base := base) cf z hcal_is_slip hmak_Adding hmet_Adding_do hmet_Adding_do_until hmet_Adding_free hmet_Adding_result hrai_InvalidSlips F27
  have b27 : Binds K fd27 ["sheet", "slips"] [] := F27.bindsN (ps := ["sheet", "slips"]) fun _ _ _ _ _ _ us hl => match us, hl with | [_, _], _ => rfl
  have hcal_add_with : Cal Pr w K mg base (ca K) 6 "add_with" ["sheet", "slips"] f_p_add_with := ⟨⟨fd27, o27, b27⟩, He.glo_ok (x := "add_with") KX G (c.fact 52 (f := .fa (.glo "add_with"))), F27.kp⟩
  obtain ⟨fd28, F28⟩ := c.def_ 28 (d := ⟨fun K => (He.ga K "_law_written"), "_law_written", "_law_written", (top 47), []⟩)
  have o28 := ok_p__law_written (Pr := Pr) (w := w) (base := base) cf z hcal_add_with hrai_InvalidSlips F28
  have b28 : Binds K fd28 ["sheet", "slips"] [] := F28.bindsN (ps := ["sheet", "slips"]) fun _ _ _ _ _ _ us hl => match us, hl with | [_, _], _ => rfl
  have hcal__law_written : Cal Pr w K mg base (ca K) 7 "_law_written" ["sheet", "slips"] f_p__law_written := ⟨⟨fd28, o28, b28⟩, He.glo_ok (x := "_law_written") KX G (c.fact 53 (f := .fa (.glo "_law_written"))), F28.kp⟩
  obtain ⟨fd29, F29⟩ := c.def_ 29 (d := ⟨fun K => (He.ga K "add_right"), "add_right", "add_right", (top 23), []⟩)
  have o29 := ok_p_add_right (Pr := Pr) (w := w) (base := base) cf z hmak_Adding hmet_Adding_result F29
  have b29 : Binds K fd29 ["sheet"] [] := F29.bindsN (ps := ["sheet"]) fun _ _ _ _ _ _ us hl => match us, hl with | [_], _ => rfl
  have hcal_add_right : Cal Pr w K mg base (ca K) 6 "add_right" ["sheet"] f_p_add_right := ⟨⟨fd29, o29, b29⟩, He.glo_ok (x := "add_right") KX G (c.fact 54 (f := .fa (.glo "add_right"))), F29.kp⟩
  have hbd_Written_Sheet_zsubz : BinD K (He.ga K "Written") (He.ga K "Sheet") "__sub__" "__rsub__" := ⟨c.fact 55 (f := .first "Written"), differ_ok (c.fact 56 (f := .differ "Written" "Sheet")), bare_ok (c.fact 57 (f := .bare "Sheet")), He.eqO_ok (c.fact 58 (f := .nofind "Sheet" "__sub__")), He.eqO_ok (c.fact 59 (f := .nofind "Sheet" "__rsub__")), He.eqO_ok (c.fact 60 (f := .noobj "__sub__")), He.eqO_ok (c.fact 61 (f := .noobj "__rsub__"))⟩
  have hne_Written : NeC K (He.ga K "Written") := ⟨He.eqO_ok (c.fact 62 (f := .ne "Written")), of_decide_eq_true (c.fact 63 (f := .obj "Written"))⟩
  obtain ⟨fd30, F30⟩ := c.def_ 30 (d := ⟨fun K => (He.ga K "_law_carry_right"), "_law_carry_right", "_law_carry_right", (top 51), []⟩)
  have o30 := ok_p__law_carry_right (Pr := Pr) (w := w) (base := base) cf z hbd_Written_Sheet_zsubz hcal__law_power hcal__law_with_carry hcal__law_written hcal_add_right hcal_add_with hmak_Written hmet_Sheet_zlenz hmet_Sheet_cut hmet_Written_zeqz hmet_Written_zsubz hne_Written hprp_Sheet_base hprp_Written_figures hprp_Written_last F30
  have b30 : Binds K fd30 ["sheet", "at"] [] := F30.bindsN (ps := ["sheet", "at"]) fun _ _ _ _ _ _ us hl => match us, hl with | [_, _], _ => rfl
  have hcal__law_carry_right : Cal Pr w K mg base (ca K) 8 "_law_carry_right" ["sheet", "at"] f_p__law_carry_right := ⟨⟨fd30, o30, b30⟩, He.glo_ok (x := "_law_carry_right") KX G (c.fact 64 (f := .fa (.glo "_law_carry_right"))), F30.kp⟩
  obtain ⟨fd31, F31⟩ := c.def_ 31 (d := ⟨fun K => (He.ga K "_law_take"), "_law_take", "_law_take", (top 40), []⟩)
  have o31 := ok_p__law_take (Pr := Pr) (w := w) (base := base) cf z F31
  have b31 : Binds K fd31 ["bag", "many"] [] := F31.bindsN (ps := ["bag", "many"]) fun _ _ _ _ _ _ us hl => match us, hl with | [_, _], _ => rfl
  have hcal__law_take : Cal Pr w K mg base (ca K) 1 "_law_take" ["bag", "many"] f_p__law_take := ⟨⟨fd31, o31, b31⟩, He.glo_ok (x := "_law_take") KX G (c.fact 65 (f := .fa (.glo "_law_take"))), F31.kp⟩
  obtain ⟨fd32, F32⟩ := c.def_ 32 (d := ⟨fun K => (He.ga K "_law_column"), "_law_column", "_law_column", (top 43), []⟩)
  have o32 := ok_p__law_column (Pr := Pr) (w := w) (base := base) cf z hcal__law_take F32
  have b32 : Binds K fd32 ["bag", "base", "rows"] [] := F32.bindsN (ps := ["bag", "base", "rows"]) fun _ _ _ _ _ _ us hl => match us, hl with | [_, _, _], _ => rfl
  have hcal__law_column : Cal Pr w K mg base (ca K) 2 "_law_column" ["bag", "base", "rows"] f_p__law_column := ⟨⟨fd32, o32, b32⟩, He.glo_ok (x := "_law_column") KX G (c.fact 66 (f := .fa (.glo "_law_column"))), F32.kp⟩
  obtain ⟨fd33, F33⟩ := c.def_ 33 (d := ⟨fun K => (He.ga K "_law_marked"), "_law_marked", "_law_marked", (top 49), []⟩)
  have o33 := ok_p__law_marked (Pr := Pr) (w := w) (base := base) cf z hcal__law_power hcal__law_take hmet_Sheet_zlenz hprp_Sheet_base hprp_Written_figures F33
  have b33 : Binds K fd33 ["bag", "sheet", "right"] [] := F33.bindsN (ps := ["bag", "sheet", "right"]) fun _ _ _ _ _ _ us hl => match us, hl with | [_, _, _], _ => rfl
  have hcal__law_marked : Cal Pr w K mg base (ca K) 3 "_law_marked" ["bag", "sheet", "right"] f_p__law_marked := ⟨⟨fd33, o33, b33⟩, He.glo_ok (x := "_law_marked") KX G (c.fact 67 (f := .fa (.glo "_law_marked"))), F33.kp⟩
  obtain ⟨fd34, F34⟩ := c.def_ 34 (d := ⟨fun K => (He.ga K "_law_mixed"), "_law_mixed", "_law_mixed", (top 41), []⟩)
  have o34 := ok_p__law_mixed (Pr := Pr) (w := w) (base := base) cf z hcal__law_take F34
  have b34 : Binds K fd34 ["bag", "items"] [] := F34.bindsN (ps := ["bag", "items"]) fun _ _ _ _ _ _ us hl => match us, hl with | [_, _], _ => rfl
  have hcal__law_mixed : Cal Pr w K mg base (ca K) 2 "_law_mixed" ["bag", "items"] f_p__law_mixed := ⟨⟨fd34, o34, b34⟩, He.glo_ok (x := "_law_mixed") KX G (c.fact 68 (f := .fa (.glo "_law_mixed"))), F34.kp⟩
  obtain ⟨fd35, F35⟩ := c.def_ 35 (d := ⟨fun K => (He.ga K "all_deeds"), "all_deeds", "all_deeds", (top 15), []⟩)
  have o35 := ok_p_all_deeds (Pr := Pr) (w := w) (base := base) cf z F35
  have b35 : Binds K fd35 ["base", "rows"] [] := F35.bindsN (ps := ["base", "rows"]) fun _ _ _ _ _ _ us hl => match us, hl with | [_, _], _ => rfl
  have hcal_all_deeds : Cal Pr w K mg base (ca K) 1 "all_deeds" ["base", "rows"] f_p_all_deeds := ⟨⟨fd35, o35, b35⟩, He.glo_ok (x := "all_deeds") KX G (c.fact 69 (f := .fa (.glo "all_deeds"))), F35.kp⟩
  obtain ⟨fd36, F36⟩ := c.def_ 36 (d := ⟨fun K => (He.ga K "number_of_columns"), "number_of_columns", "number_of_columns", (top 36), []⟩)
  have o36 := ok_p_number_of_columns (Pr := Pr) (w := w) (base := base) cf z F36
  have b36 : Binds K fd36 ["base", "rows"] [] := F36.bindsN (ps := ["base", "rows"]) fun _ _ _ _ _ _ us hl => match us, hl with | [_, _], _ => rfl
  have hcal_number_of_columns : Cal Pr w K mg base (ca K) 1 "number_of_columns" ["base", "rows"] f_p_number_of_columns := ⟨⟨fd36, o36, b36⟩, He.glo_ok (x := "number_of_columns") KX G (c.fact 70 (f := .fa (.glo "number_of_columns"))), F36.kp⟩
  obtain ⟨fd37, F37⟩ := c.def_ 37 (d := ⟨fun K => (He.ma K (He.ga K "Kind") "__init__"), "__init__", "Kind.__init__", (sub 37 0), []⟩)
  have o37 := ok_m_Kind_zinitz (Pr := Pr) (w := w) (base := base) cf z hcal_all_deeds hcal_is_deed hcal_is_integer hcal_number_of_columns F37
  have b37 : Binds K fd37 ["self", "base", "rows", "deeds", "most"] [] := F37.bindsN (ps := ["self", "base", "rows", "deeds", "most"]) fun _ _ _ _ _ _ us hl => match us, hl with | [_, _, _, _, _], _ => rfl
  have hmak_Kind : Mak Pr w K mg base (ca K) 3 "Kind" ["self", "base", "rows", "deeds", "most"] f_m_Kind_zinitz := ⟨⟨fd37, o37, b37⟩, He.mkr_ok (x := "Kind") (c.fact 71 (f := .fa (.mkr "Kind"))), He.glo_ok (x := "Kind") KX G (c.fact 72 (f := .fa (.glo "Kind"))), caOf_new (by decide +kernel)⟩
  obtain ⟨fd38, F38⟩ := c.def_ 38 (d := ⟨fun K => (He.ma K (He.ga K "Written") "rest"), "rest", "Written.rest", (sub 20 5), []⟩)
  have o38 := ok_m_Written_rest (Pr := Pr) (w := w) (base := base) cf z hprp_Written_value F38
  have b38 : Binds K fd38 ["self", "r"] [] := F38.bindsN (ps := ["self", "r"]) fun _ _ _ _ _ _ us hl => match us, hl with | [_, _], _ => rfl
  have hmet_Written_rest : Met Pr w K mg base (ca K) 3 "Written" "rest" ["self", "r"] f_m_Written_rest := ⟨⟨fd38, o38, b38⟩, He.meth_ok (c.fact 73 (f := .fa (.meth "Written" "rest"))), cf_cls hcf (by decide +kernel), caOf_no (by decide +kernel)⟩
  obtain ⟨fd39, F39⟩ := c.def_ 39 (d := ⟨fun K => (He.ga K "_law_lot"), "_law_lot", "_law_lot", (top 46), []⟩)
  have o39 := ok_p__law_lot (Pr := Pr) (w := w) (base := base) cf z hcal__law_take F39
  have b39 : Binds K fd39 ["bag", "most", "greatest"] [] := F39.bindsN (ps := ["bag", "most", "greatest"]) fun _ _ _ _ _ _ us hl => match us, hl with | [_, _, _], _ => rfl
  have hcal__law_lot : Cal Pr w K mg base (ca K) 2 "_law_lot" ["bag", "most", "greatest"] f_p__law_lot := ⟨⟨fd39, o39, b39⟩, He.glo_ok (x := "_law_lot") KX G (c.fact 74 (f := .fa (.glo "_law_lot"))), F39.kp⟩
  obtain ⟨fd40, F40⟩ := c.def_ 40 (d := ⟨fun K => (pgA K "Kind" "deeds"), "deeds", "Kind.deeds", (sub 37 3), []⟩)
  have o40 := ok_m_Kind_deeds (Pr := Pr) (w := w) (base := base) cf z F40
  have b40 : Binds K fd40 ["self"] [] := F40.bindsN (ps := ["self"]) fun _ _ _ _ _ _ us hl => match us, hl with | [_], _ => rfl
  have hprp_Kind_deeds : Prp Pr w K mg base (ca K) 1 "Kind" "deeds" ["self"] f_m_Kind_deeds := ⟨⟨_, _, fd40, o40, b40, prop_ok (c.fact 75 (f := .prop "Kind" "deeds"))⟩, cf_cls hcf (by decide +kernel), caOf_no (by decide +kernel)⟩
  obtain ⟨fd41, F41⟩ := c.def_ 41 (d := ⟨fun K => (pgA K "Kind" "most"), "most", "Kind.most", (sub 37 4), []⟩)
  have o41 := ok_m_Kind_most (Pr := Pr) (w := w) (base := base) cf z F41
  have b41 : Binds K fd41 ["self"] [] := F41.bindsN (ps := ["self"]) fun _ _ _ _ _ _ us hl => match us, hl with | [_], _ => rfl
  have hprp_Kind_most : Prp Pr w K mg base (ca K) 1 "Kind" "most" ["self"] f_m_Kind_most := ⟨⟨_, _, fd41, o41, b41, prop_ok (c.fact 76 (f := .prop "Kind" "most"))⟩, cf_cls hcf (by decide +kernel), caOf_no (by decide +kernel)⟩
  obtain ⟨fd42, F42⟩ := c.def_ 42 (d := ⟨fun K => (He.ga K "further_slips"), "further_slips", "further_slips", (top 30), []⟩)
  have o42 := ok_p_further_slips (Pr := Pr) (w := w) (base := base) cf z hmet_Sheet_zlenz hprp_Kind_deeds hprp_Kind_most F42
  have b42 : Binds K fd42 ["kind", "sheet", "slips"] [] := F42.bindsN (ps := ["kind", "sheet", "slips"]) fun _ _ _ _ _ _ us hl => match us, hl with | [_, _, _], _ => rfl
  have hcal_further_slips : Cal Pr w K mg base (ca K) 3 "further_slips" ["kind", "sheet", "slips"] f_p_further_slips := ⟨⟨fd42, o42, b42⟩, He.glo_ok (x := "further_slips") KX G (c.fact 77 (f := .fa (.glo "further_slips"))), F42.kp⟩
  obtain ⟨fd43, F43⟩ := c.def_ 43 (d := ⟨fun K => (He.ga K "outcome"), "outcome", "outcome", (top 29), []⟩)
  have o43 := ok_p_outcome (Pr := Pr) (w := w) (base := base) cf z hcal_add_with hrai_InvalidSlips F43
  have b43 : Binds K fd43 ["sheet", "slips"] [] := F43.bindsN (ps := ["sheet", "slips"]) fun _ _ _ _ _ _ us hl => match us, hl with | [_, _], _ => rfl
  have hcal_outcome : Cal Pr w K mg base (ca K) 7 "outcome" ["sheet", "slips"] f_p_outcome := ⟨⟨fd43, o43, b43⟩, He.glo_ok (x := "outcome") KX G (c.fact 78 (f := .fa (.glo "outcome"))), F43.kp⟩
  obtain ⟨fd44, F44⟩ := c.def_ 44 (d := ⟨fun K => (He.ga K "all_outcomes"), "all_outcomes", "all_outcomes", (top 31), []⟩)
  have o44 := ok_p_all_outcomes (Pr := Pr) (w := w) (base := base) cf z hcal_further_slips hcal_outcome F44
  have b44 : Binds K fd44 ["kind", "sheet"] [] := F44.bindsN (ps := ["kind", "sheet"]) fun _ _ _ _ _ _ us hl => match us, hl with | [_, _], _ => rfl
  have hcal_all_outcomes : Cal Pr w K mg base (ca K) 8 "all_outcomes" ["kind", "sheet"] f_p_all_outcomes := ⟨⟨fd44, o44, b44⟩, He.glo_ok (x := "all_outcomes") KX G (c.fact 79 (f := .fa (.glo "all_outcomes"))), F44.kp⟩
  obtain ⟨fd45, F45⟩ := c.def_ 45 (d := ⟨fun K => (pgA K "Kind" "base"), "base", "Kind.base", (sub 37 1), []⟩)
  have o45 := ok_m_Kind_base (Pr := Pr) (w := w) (base := base) cf z F45
  have b45 : Binds K fd45 ["self"] [] := F45.bindsN (ps := ["self"]) fun _ _ _ _ _ _ us hl => match us, hl with | [_], _ => rfl
  have hprp_Kind_base : Prp Pr w K mg base (ca K) 1 "Kind" "base" ["self"] f_m_Kind_base := ⟨⟨_, _, fd45, o45, b45, prop_ok (c.fact 80 (f := .prop "Kind" "base"))⟩, cf_cls hcf (by decide +kernel), caOf_no (by decide +kernel)⟩
  obtain ⟨fd46, F46⟩ := c.def_ 46 (d := ⟨fun K => (pgA K "Kind" "rows"), "rows", "Kind.rows", (sub 37 2), []⟩)
  have o46 := ok_m_Kind_rows (Pr := Pr) (w := w) (base := base) cf z F46
  have b46 : Binds K fd46 ["self"] [] := F46.bindsN (ps := ["self"]) fun _ _ _ _ _ _ us hl => match us, hl with | [_], _ => rfl
  have hprp_Kind_rows : Prp Pr w K mg base (ca K) 1 "Kind" "rows" ["self"] f_m_Kind_rows := ⟨⟨_, _, fd46, o46, b46, prop_ok (c.fact 81 (f := .prop "Kind" "rows"))⟩, cf_cls hcf (by decide +kernel), caOf_no (by decide +kernel)⟩
  obtain ⟨fd47, F47⟩ := c.def_ 47 (d := ⟨fun K => (He.ga K "check_alike"), "check_alike", "check_alike", (top 28), []⟩)
  have o47 := ok_p_check_alike (Pr := Pr) (w := w) (base := base) cf z hprp_Kind_base hprp_Kind_rows hprp_Sheet_base hprp_Sheet_rows F47
  have b47 : Binds K fd47 ["kind", "sheet"] [] := F47.bindsN (ps := ["kind", "sheet"]) fun _ _ _ _ _ _ us hl => match us, hl with | [_, _], _ => rfl
  have hcal_check_alike : Cal Pr w K mg base (ca K) 3 "check_alike" ["kind", "sheet"] f_p_check_alike := ⟨⟨fd47, o47, b47⟩, He.glo_ok (x := "check_alike") KX G (c.fact 82 (f := .fa (.glo "check_alike"))), F47.kp⟩
  obtain ⟨fd48, F48⟩ := c.def_ 48 (d := ⟨fun K => (He.ga K "check_lot"), "check_lot", "check_lot", (top 26), []⟩)
  have o48 := ok_p_check_lot (Pr := Pr) (w := w) (base := base) cf z F48
  have b48 : Binds K fd48 ["lot"] [] := F48.bindsN (ps := ["lot"]) fun _ _ _ _ _ _ us hl => match us, hl with | [_], _ => rfl
  have hcal_check_lot : Cal Pr w K mg base (ca K) 1 "check_lot" ["lot"] f_p_check_lot := ⟨⟨fd48, o48, b48⟩, He.glo_ok (x := "check_lot") KX G (c.fact 83 (f := .fa (.glo "check_lot"))), F48.kp⟩
  obtain ⟨fd49, F49⟩ := c.def_ 49 (d := ⟨fun K => (He.ga K "slips_shown"), "slips_shown", "slips_shown", (top 32), []⟩)
  have o49 := ok_p_slips_shown (Pr := Pr) (w := w) (base := base) cf z hcal_all_outcomes hcal_check_alike hcal_check_lot hmet_Written_rest F49
  have b49 : Binds K fd49 ["kind", "sheet", "lot", "shown"] [] := F49.bindsN (ps := ["kind", "sheet", "lot", "shown"]) fun _ _ _ _ _ _ us hl => match us, hl with | [_, _, _, _], _ => rfl
  have hcal_slips_shown : Cal Pr w K mg base (ca K) 9 "slips_shown" ["kind", "sheet", "lot", "shown"] f_p_slips_shown := ⟨⟨fd49, o49, b49⟩, He.glo_ok (x := "slips_shown") KX G (c.fact 84 (f := .fa (.glo "slips_shown"))), F49.kp⟩
  obtain ⟨fd50, F50⟩ := c.def_ 50 (d := ⟨fun K => (He.ga K "_law_shown_right"), "_law_shown_right", "_law_shown_right", (top 52), []⟩)
  have o50 := ok_p__law_shown_right (Pr := Pr) (w := w) (base := base) cf z hcal__law_lot hcal__law_power hcal_slips_shown hmak_Kind hmet_Sheet_zlenz hmet_Written_rest hprp_Sheet_base hprp_Sheet_rows F50
  have b50 : Binds K fd50 ["bag", "sheet", "slips", "written"] [] := F50.bindsN (ps := ["bag", "sheet", "slips", "written"]) fun _ _ _ _ _ _ us hl => match us, hl with | [_, _, _, _], _ => rfl
  have hcal__law_shown_right : Cal Pr w K mg base (ca K) 10 "_law_shown_right" ["bag", "sheet", "slips", "written"] f_p__law_shown_right := ⟨⟨fd50, o50, b50⟩, He.glo_ok (x := "_law_shown_right") KX G (c.fact 85 (f := .fa (.glo "_law_shown_right"))), F50.kp⟩
  obtain ⟨fd51, F51⟩ := c.def_ 51 (d := ⟨fun K => (He.ga K "_law_right"), "_law_right", "_law_right", (top 53), []⟩)
  have o51 := ok_p__law_right (Pr := Pr) (w := w) (base := base) cf z hbd_Written_Sheet_zsubz hcal__law_carry_right hcal__law_column hcal__law_marked hcal__law_mixed hcal__law_shown_right hcal__law_take hcal_add_right hcal_add_with hcalo__law_bag hmak_Sheet hmak_Written hmet_Written_zeqz hmet_Written_zsubz hne_Written hprp_Written_last F51
  have b51 : Binds K fd51 ["script", "k"] [] := F51.bindsN (ps := ["script", "k"]) fun _ _ _ _ _ _ us hl => match us, hl with | [_, _], _ => rfl
  have hcal__law_right : Cal Pr w K mg base (ca K) 11 "_law_right" ["script", "k"] f_p__law_right := ⟨⟨fd51, o51, b51⟩, He.glo_ok (x := "_law_right") KX G (c.fact 86 (f := .fa (.glo "_law_right"))), F51.kp⟩
  exact ok_p_law (Pr := Pr) (w := w) (base := base) cf z hcal__law_right FL
end K81
namespace K81
open PySem PySem.Spec PyProof.Rows L2 Ev
def names0 : List PySem.Str := ["_wall", "SlipError", "InvalidSheet", "InvalidColumn", "InvalidKind", "InvalidLot", "NotAlike", "InvalidSlips", "is_integer", "is_column", "Sheet", "PLAIN", "all_deeds", "is_deed", "taken", "done", "Written", "Adding", "is_slip", "add_right", "add_with", "check_lot", "check_alike", "outcome", "further_slips", "all_outcomes", "slips_shown", "MOST_DEEDS"]
def names1 : List PySem.Str := ["MOST_COLUMNS", "number_of_columns", "Kind", "_law_bag", "_law_take", "_law_mixed", "_law_power", "_law_column", "_law_deed", "_law_deeds", "_law_lot", "_law_written", "_law_slips", "_law_marked", "_law_with_carry", "_law_carry_right", "_law_shown_right", "_law_right"]
abbrev names : List PySem.Str := names0 ++ names1
abbrev RW : PySem.W.OpenRow := PySem.W.OpenLaw.row PySem.Challenge.rw_sumslips_k81_whole_slips_as_other_result
def asL : List Addr := [3, 31, 111, 120, 125, 256, 261, 266, 271, 278, 285, 355, 404, 415, 422, 429, 436, 443, 450, 455, 462, 467, 474, 559, 570, 577, 584, 591, 596, 617, 624, 638, 643, 650, 655, 660, 667, 30, 110, 119, 124, 255, 265, 270, 277, 284, 354, 403, 414, 421, 428, 435, 442, 449, 454, 461, 466, 473, 558, 569, 576, 583, 590, 595, 616, 623, 637, 642, 649, 654, 659, 666, 108, 137, 145, 153, 161, 169, 176, 204, 299, 315, 323, 331, 338, 345, 352, 373, 380, 387, 394, 401, 486, 494, 502, 510, 518, 107, 136, 144, 152, 160, 168, 175, 203, 298, 314, 322, 330, 337, 344, 351, 372, 379, 386, 393, 400, 485, 493, 501, 509, 517, 143, 151, 159, 167, 313, 321, 329, 492, 500, 508, 516]
abbrev hk : PySem.W.Hook := hookL asL fa fn
def ob (s : PySem.W.SharedT) : AlZ := obsLG asL fa fn (HandSHeadRun.getT s)
theorem ob_eq (s : PySem.W.SharedT) : ob s = hk.obs s.abs := obsLG_eq (HandSHeadRun.getT_eq s)
theorem hrunA (w : World) (os : OsState) : (HandSHeadRun.endF (HandSHeadRun.stepQ (HandSHeadRun.denQ HandSHeadRun.tabQ) RW.prog w) 15000 RW.prog w os).map (fun s => HandSHeadRun.looksF RW.prog (PySem.W.boot_heap w.params) s.abs) = some true := by kernel_rfl
theorem hrunB (w : World) (os : OsState) : (HandSHeadRun.endF (HandSHeadRun.stepQ (HandSHeadRun.denQ HandSHeadRun.tabQ) RW.prog w) 15000 RW.prog w os).map (fun s => HandSHeadRun.seenQ (PySem.W.view RW.prog [54]) names (PySem.importedModules RW.prog.main.body) (fun s => PySem.W.xlAt (PySem.W.view RW.prog [54]) [] s && PySem.W.recOk RW.toRowW.records s) s.abs) = some (PySem.W.openGood (PySem.W.view RW.prog [54]) names) := by kernel_rfl
theorem hrunC (w : World) (os : OsState) : (HandSHeadRun.endF (HandSHeadRun.stepQ (HandSHeadRun.denQ HandSHeadRun.tabQ) RW.prog w) 15000 RW.prog w os).map ob = some (hk.val w) := by kernel_rfl
theorem run (w : World) : HandSHeadRun.RunEq RW (PySem.W.view RW.prog [54]) hk ob 15000 names w := fun os => map3 (hrunA w os) (hrunB w os) (hrunC w os)
theorem holds_of (pure : ∀ ns : List Int, ns.length ≤ 63 → ∃ cs', K81.f_p_law [.f (.scr ns)] = .ok (.bl true) cs') : PySem.Challenge.rw_sumslips_k81_whole_slips_as_other_result.Holds := by
  w_on; o_law
  refine HandSHeadRun.head_any (r := PySem.W.OpenLaw.row PySem.Challenge.rw_sumslips_k81_whole_slips_as_other_result) (q := PySem.W.view (PySem.W.OpenLaw.row PySem.Challenge.rw_sumslips_k81_whole_slips_as_other_result).prog [54]) (H := hk) (ob := ob) (M := 15000) (loose := names) (d := HandSHeadRun.topDef (PySem.W.OpenLaw.row PySem.Challenge.rw_sumslips_k81_whole_slips_as_other_result).prog 54) (kwd := []) ob_eq
    (by kernel_rfl) (fun s => by kernel_rfl) run (by kernel_rfl) (by kernel_rfl) (by kernel_rfl) (by rfl) (by first | assumption | decide +kernel) (by decide +kernel) ⟨rfl, rfl, rfl, rfl, rfl, by decide +kernel⟩ ?hw ?hc
  case hw => w_witness2
  case hc =>
    refine walk_ofEw (l := PySem.Challenge.rw_sumslips_k81_whole_slips_as_other_result) (n := 63) (k := 12) (x := "script") (CX := fun w => L2.CX (PySem.Challenge.rw_sumslips_k81_whole_slips_as_other_result).prog w) rfl (by decide) (by kernel_rfl) ⟨rfl, by decide, by decide⟩ ?F (fun w H s e s' h => noCX h)
    intro w mg fa0 h Y G hmg0
    obtain ⟨K, KX, c⟩ := Y
    have hmg : mg ("law" : PySem.Str) = some (.ref fa0) := by
      have e : (HandSHeadRun.topDef (PySem.W.OpenLaw.row PySem.Challenge.rw_sumslips_k81_whole_slips_as_other_result).prog 54).name = ("law" : PySem.Str) := by kernel_rfl
      rw [← e]
      exact hmg0
    obtain ⟨hL, fd, hb, hb1, hF⟩ := facts (Pr := (PySem.Challenge.rw_sumslips_k81_whole_slips_as_other_result).prog) (w := w) KX G c
    have ea := hmg.symm.trans hL
    cases ea
    exact ⟨K, fd, _, KX, hb1, fun H a ns hl hO hS => start_law (pure ns hl) hS, fun base _ _ => hF base⟩
end K81
namespace Ev
open PySem PySem.Spec PyProof.Rows L2
def kSeq (b : S) (f : Fl) (st : Sl) : R Fl := match f with
  | .nx => b st
  | f => .ok f st
@[simp] theorem sSeq_eq {a b : S} {st : Sl} : sSeq a b st = (a st).bind (kSeq b) := rfl
@[simp] theorem kSeq_nx {b : S} {st : Sl} : kSeq b .nx st = b st := rfl
@[simp] theorem kSeq_rt {b : S} {d : D} {st : Sl} : kSeq b (.rt d) st = .ok (.rt d) st := rfl
@[simp] theorem kSeq_bk {b : S} {st : Sl} : kSeq b .bk st = .ok .bk st := rfl
@[simp] theorem kSeq_ct {b : S} {st : Sl} : kSeq b .ct st = .ok .ct st := rfl
def kIf (a b : S) (k : Bool) (st : Sl) : R Fl := match k with
  | true => a st
  | false => b st
@[simp] theorem sIf_eq {c : B'} {a b : S} {st : Sl} : sIf c a b st = (c st).bind (kIf a b) := rfl
@[simp] theorem kIf_t {a b : S} {st : Sl} : kIf a b true st = a st := rfl
@[simp] theorem kIf_f {a b : S} {st : Sl} : kIf a b false st = b st := rfl
@[simp] theorem sNil_eq {st : Sl} : sNil st = .ok .nx st := rfl
@[simp] theorem sRetN_eq {st : Sl} : sRetN st = .ok (.rt .non) st := rfl
def kDrop (_ : D) (st : Sl) : R Fl := .ok .nx st
@[simp] theorem sDrop_eq {m : E} {st : Sl} : sDrop m st = (m st).bind kDrop := rfl
@[simp] theorem kDrop_eq {d : D} {st : Sl} : kDrop d st = .ok .nx st := rfl
def kRet (d : D) (st : Sl) : R Fl := .ok (.rt d) st
@[simp] theorem sRet_eq {m : E} {st : Sl} : sRet m st = (m st).bind kRet := rfl
@[simp] theorem kRet_eq {d : D} {st : Sl} : kRet d st = .ok (.rt d) st := rfl
def kSet (i : Nat) (d : D) (st : Sl) : R Fl := setC i (.f d) st
@[simp] theorem sSet_eq {i : Nat} {m : E} {st : Sl} : sSet i m st = (m st).bind (kSet i) := rfl
def kSetO (i : Nat) (d : D) (st : Sl) : R Fl := setC i (.o d) st
@[simp] theorem sSetO_eq {i : Nat} {m : E} {st : Sl} : sSetO i m st = (m st).bind (kSetO i) := rfl
/-- a slot stored, in a list that is written out -/
def setL (i : Nat) (c : Cell) (st : Sl) : Option Sl := match i, st with
  | 0, _ :: xs => some (c :: xs)
  | i + 1, x :: xs => (setL i c xs).map (x :: ·)
  | _, [] => none
def kSt : Option Sl → R Fl
  | some st => .ok .nx st
  | none => .bad
@[simp] theorem kSt_some {st : Sl} : kSt (some st) = .ok .nx st := rfl
theorem setL_eq : ∀ {i : Nat} {c : Cell} {st : Sl}, setL i c st = (st[i]?).map fun _ => st.set i c
  | 0, c, [] => rfl
  | 0, c, x :: xs => rfl
  | i + 1, c, [] => rfl
  | i + 1, c, x :: xs => by
    unfold setL
    rw [setL_eq, List.getElem?_cons_succ]
    cases xs[i]? <;> rfl
@[simp] theorem setL_0 {c x : Cell} {xs : Sl} : setL 0 c (x :: xs) = some (c :: xs) := rfl
@[simp] theorem setL_s {i : Nat} {c x : Cell} {xs : Sl} : setL (i + 1) c (x :: xs) = (setL i c xs).map (x :: ·) := rfl
theorem setC_eq {i : Nat} {c : Cell} {st : Sl} : setC i c st = kSt (setL i c st) := by
  unfold setC
  rw [setL_eq]
  cases st[i]? <;> rfl
@[simp] theorem kSet_eq {i : Nat} {d : D} {st : Sl} : kSet i d st = kSt (setL i (.f d) st) := setC_eq
@[simp] theorem kSetO_eq {i : Nat} {d : D} {st : Sl} : kSetO i d st = kSt (setL i (.o d) st) := setC_eq
@[simp] theorem eC_eq {d : D} {st : Sl} : eC d st = .ok d st := rfl
def kV (st : Sl) : Option Cell → R D
  | some (.f d) => .ok d st
  | _ => .bad
@[simp] theorem eV_eq {i : Nat} {st : Sl} : eV i st = kV st st[i]? := by unfold eV kV; cases st[i]? with | none => rfl | some c => cases c <;> rfl
@[simp] theorem kV_f {d : D} {st : Sl} : kV st (some (.f d)) = .ok d st := rfl
def kFz (i : Nat) (st : Sl) : Option Cell → R D
  | some (.f d) => .ok d st
  | some (.o d) => (match fzOk d, setL i (.f d) st with
    | true, some st => .ok d st
    | _, _ => .bad)
  | _ => .bad
@[simp] theorem eFz_eq {i : Nat} {st : Sl} : eFz i st = kFz i st st[i]? := by
  unfold eFz kFz
  cases z : st[i]? with
  | none => rfl
  | some c =>
    cases c with
    | n => rfl
    | f d => rfl
    | o d =>
      simp only [setL_eq, z, Option.map_some]
      cases fzOk d <;> rfl
@[simp] theorem kFz_f {i : Nat} {d : D} {st : Sl} : kFz i st (some (.f d)) = .ok d st := rfl
theorem kFz_o {i : Nat} {d : D} {st : Sl} : kFz i st (some (.o d)) = (match fzOk d, setL i (.f d) st with
    | true, some st => .ok d st
    | _, _ => .bad) := rfl
@[simp] theorem fz_lst {ds : List D} : fzOk (.lst ds) = true := rfl
def kOpt (st : Sl) : Option Sl → D → R D := fun o d => match o with
  | some st => .ok d st
  | none => .bad
@[simp] theorem kOpt_some {st st' : Sl} {d : D} : kOpt st (some st') d = .ok d st' := rfl
@[simp] theorem kFz_lst {i : Nat} {ds : List D} {st : Sl} : kFz i st (some (.o (.lst ds))) = kOpt st (setL i (.f (.lst ds)) st) (.lst ds) := by
  rw [kFz_o]; simp only [fz_lst]; cases setL i (.f (.lst ds)) st <;> rfl
def rdC : Option Cell → Option D
  | some (.f d) => some d
  | some (.o d) => some d
  | _ => none
@[simp] theorem rd_eq {i : Nat} {st : Sl} : rd i st = rdC st[i]? := by unfold rd rdC; cases st[i]? with | none => rfl | some c => cases c <;> rfl
@[simp] theorem rdC_f {d : D} : rdC (some (.f d)) = some d := rfl
@[simp] theorem rdC_o {d : D} : rdC (some (.o d)) = some d := rfl
/-- one value, two -/
def kO1 (g : List D → Option D) (a : Option D) (st : Sl) : R D := match a with
  | some a => (match g [a] with
    | some d => .ok d st
    | none => .bad)
  | none => .bad
def kRes (st : Sl) : Option D → R D
  | some d => .ok d st
  | none => .bad
@[simp] theorem kRes_some {st : Sl} {d : D} : kRes st (some d) = .ok d st := rfl
def kE1 (g : List D → Option D) (d : D) (st : Sl) : R D := kRes st (g [d])
@[simp] theorem kE1_eq {g : List D → Option D} {d : D} {st : Sl} : kE1 g d st = kRes st (g [d]) := rfl
@[simp] theorem eOp_e {g : List D → Option D} {m : E} {st : Sl} : eOp g [.e m] st = (m st).bind (kE1 g) := by
  unfold eOp
  rw [evOs_e]
  cases m st with
  | ok d st1 => show (match g [d] with | some d => R.ok d st1 | none => .bad) = kRes st1 (g [d]); cases g [d] <;> rfl
  | exc c x s => rfl
  | bad => rfl
def kV1 (g : List D → Option D) (st : Sl) : Option D → R D
  | some d => kRes st (g [d])
  | none => .bad
@[simp] theorem kV1_some {g : List D → Option D} {d : D} {st : Sl} : kV1 g st (some d) = kRes st (g [d]) := rfl
@[simp] theorem eOp_v {g : List D → Option D} {i : Nat} {st : Sl} : eOp g [.v i] st = kV1 g st (rd i st) := by
  cases z : rd i st with
  | none =>
    unfold eOp
    rw [evOs_v0 z]; rfl
  | some d =>
    unfold eOp
    rw [evOs_v z]
    show (match rdAll [rd i] st with | some ds => (match g ds with | some d => R.ok d st | none => .bad) | none => .bad) = kRes st (g [d])
    unfold rdAll
    rw [z]
    show (match g [d] with | some d => R.ok d st | none => .bad) = kRes st (g [d])
    cases g [d] <;> rfl
@[simp] theorem eOp_h {g : List D → Option D} {i : Nat} {f : Str} {st : Sl} : eOp g [.h i f] st = kV1 g st (rdF i f st) := by
  unfold eOp
  rw [evOs_h]
  show (match rdAll [rdF i f] st with | some ds => (match g ds with | some d => R.ok d st | none => .bad) | none => .bad) = _
  unfold rdAll
  cases rdF i f st with
  | none => rfl
  | some d => show (match g [d] with | some d => R.ok d st | none => .bad) = kRes st (g [d]); cases g [d] <;> rfl
/-- a, then b -/
def kEb (g : List D → Option D) (a b : D) (st : Sl) : R D := kRes st (g [a, b])
def kEa (g : List D → Option D) (n : E) (a : D) (st : Sl) : R D := (n st).bind (kEb g a)
@[simp] theorem kEb_eq {g : List D → Option D} {a b : D} {st : Sl} : kEb g a b st = kRes st (g [a, b]) := rfl
@[simp] theorem kEa_eq {g : List D → Option D} {n : E} {a : D} {st : Sl} : kEa g n a st = (n st).bind (kEb g a) := rfl
theorem resK {g : List D → Option D} {ds : List D} {st : Sl} : (match g ds with | some d => R.ok d st | none => .bad) = kRes st (g ds) := by cases g ds <;> rfl
@[simp] theorem eOp_ee {g : List D → Option D} {m n : E} {st : Sl} : eOp g [.e m, .e n] st = (m st).bind (kEa g n) := by
  unfold eOp
  rw [evOs_e]
  cases m st with
  | ok d st1 =>
    simp only [R.bind, evOs_e]
    show _ = (n st1).bind _
    cases n st1 with
    | ok e st2 => exact resK
    | exc c x s => rfl
    | bad => rfl
  | exc c x s => rfl
  | bad => rfl
def kVb (g : List D → Option D) (st : Sl) (a : D) : Option D → R D
  | some b => kRes st (g [a, b])
  | none => .bad
@[simp] theorem kVb_some {g : List D → Option D} {a b : D} {st : Sl} : kVb g st a (some b) = kRes st (g [a, b]) := rfl
def kEv (g : List D → Option D) (i : Nat) (a : D) (st : Sl) : R D := kVb g st a (rd i st)
@[simp] theorem kEv_eq {g : List D → Option D} {i : Nat} {a : D} {st : Sl} : kEv g i a st = kVb g st a (rd i st) := rfl
@[simp] theorem eOp_ev {g : List D → Option D} {m : E} {i : Nat} {st : Sl} : eOp g [.e m, .v i] st = (m st).bind (kEv g i) := by
  unfold eOp
  rw [evOs_e]
  cases m st with
  | ok d st1 =>
    cases z : rd i st1 with
    | none =>
      simp only [R.bind, evOs_v0 z]
      show _ = kVb g st1 d (rd i st1)
      rw [z]; rfl
    | some b =>
      simp only [R.bind, evOs_v z]
      show _ = kVb g st1 d (rd i st1)
      simp only [rdAll, z, evOs, R.bind]
      exact resK
  | exc c x s => rfl
  | bad => rfl
/-- v, then b: the first is read at the end -/
def kVeb (g : List D → Option D) (i : Nat) (b : D) (st : Sl) : R D := match rd i st with
  | some a => kRes st (g [a, b])
  | none => .bad
def kV2 (g : List D → Option D) (b : D) (st : Sl) : Option D → R D
  | some a => kRes st (g [a, b])
  | none => .bad
@[simp] theorem kV2_some {g : List D → Option D} {a b : D} {st : Sl} : kV2 g b st (some a) = kRes st (g [a, b]) := rfl
@[simp] theorem kVeb_eq {g : List D → Option D} {i : Nat} {b : D} {st : Sl} : kVeb g i b st = kV2 g b st (rd i st) := by unfold kVeb kV2; cases rd i st <;> rfl
def kIsV (o : Option D) (r : R D) : R D := match o with
  | some _ => r
  | none => .bad
@[simp] theorem kIsV_some {d : D} {r : R D} : kIsV (some d) r = r := rfl
@[simp] theorem eOp_ve {g : List D → Option D} {i : Nat} {n : E} {st : Sl} : eOp g [.v i, .e n] st = kIsV (rd i st) ((n st).bind (kVeb g i)) := by
  cases z : rd i st with
  | none => unfold eOp; rw [evOs_v0 z]; rfl
  | some d =>
    unfold eOp
    rw [evOs_v z, evOs_e]
    cases n st with
    | ok e st2 =>
      simp only [R.bind, evOs, rdAll]
      show _ = kVeb g i e st2
      unfold kVeb
      cases rd i st2 with
      | none => rfl
      | some a => exact resK
    | exc c x s => rfl
    | bad => rfl
def kVV (g : List D → Option D) (st : Sl) : Option D → Option D → R D
  | some a, some b => kRes st (g [a, b])
  | _, _ => .bad
@[simp] theorem kVV_some {g : List D → Option D} {a b : D} {st : Sl} : kVV g st (some a) (some b) = kRes st (g [a, b]) := rfl
@[simp] theorem eOp_vv {g : List D → Option D} {i j : Nat} {st : Sl} : eOp g [.v i, .v j] st = kVV g st (rd i st) (rd j st) := by
  cases z : rd i st with
  | none => unfold eOp; rw [evOs_v0 z]; rfl
  | some d =>
    cases z2 : rd j st with
    | none =>
      unfold eOp
      rw [evOs_v z, evOs_v0 z2]; rfl
    | some e =>
      unfold eOp
      rw [evOs_v z, evOs_v z2]
      simp only [R.bind, evOs, rdAll, z, z2]
      exact resK
def kT (d : D) (st : Sl) : R Bool := match d with
  | .bl b => .ok b st
  | _ => .bad
@[simp] theorem mT_eq {m : E} {st : Sl} : mT m st = (m st).bind kT := rfl
@[simp] theorem kT_eq {b : Bool} {st : Sl} : kT (.bl b) st = .ok b st := rfl
def kTr (st : Sl) : Option Bool → R Bool
  | some b => .ok b st
  | none => .bad
@[simp] theorem kTr_some {b : Bool} {st : Sl} : kTr st (some b) = .ok b st := rfl
def kTru (d : D) (st : Sl) : R Bool := kTr st (tru d)
@[simp] theorem kTru_eq {d : D} {st : Sl} : kTru d st = kTr st (tru d) := rfl
@[simp] theorem mTru_e {m : E} {st : Sl} : mTru (.e m) st = (m st).bind kTru := by
  show ((m st).bind fun d st => R.ok (fun _ => some d) st).bind _ = _
  cases m st with
  | ok d st1 => show (match tru d with | some b => R.ok b st1 | none => .bad) = kTr st1 (tru d); cases tru d <;> rfl
  | exc c x s => rfl
  | bad => rfl
def kTo (st : Sl) : Option D → R Bool
  | some d => kTr st (tru d)
  | none => .bad
@[simp] theorem kTo_some {d : D} {st : Sl} : kTo st (some d) = kTr st (tru d) := rfl
@[simp] theorem mTru_v {i : Nat} {st : Sl} : mTru (.v i) st = kTo st (rd i st) := by
  have e : evO (.v i) st = (match rd i st with | some _ => .ok (rd i) st | none => .bad) := rfl
  show (evO (.v i) st).bind _ = _
  rw [e]
  cases z : rd i st with
  | none => rfl
  | some d =>
    show (match rd i st with | some d => (match tru d with | some b => R.ok b st | none => .bad) | none => .bad) = kTr st (tru d)
    rw [z]
    show (match tru d with | some b => R.ok b st | none => .bad) = kTr st (tru d)
    cases tru d <;> rfl
@[simp] theorem tru_bl {b : Bool} : tru (.bl b) = some b := rfl
def kNot (b : Bool) (st : Sl) : R Bool := .ok (!b) st
@[simp] theorem mNot_eq {m : B'} {st : Sl} : mNot m st = (m st).bind kNot := rfl
@[simp] theorem kNot_eq {b : Bool} {st : Sl} : kNot b st = .ok (!b) st := rfl
def kAnd (n : B') (b : Bool) (st : Sl) : R Bool := match b with
  | true => n st
  | false => .ok false st
@[simp] theorem mAnd_eq {m n : B'} {st : Sl} : mAnd m n st = (m st).bind (kAnd n) := rfl
@[simp] theorem kAnd_t {n : B'} {st : Sl} : kAnd n true st = n st := rfl
@[simp] theorem kAnd_f {n : B'} {st : Sl} : kAnd n false st = .ok false st := rfl
def kOr (n : B') (b : Bool) (st : Sl) : R Bool := match b with
  | true => .ok true st
  | false => n st
@[simp] theorem mOr_eq {m n : B'} {st : Sl} : mOr m n st = (m st).bind (kOr n) := rfl
@[simp] theorem kOr_t {n : B'} {st : Sl} : kOr n true st = .ok true st := rfl
@[simp] theorem kOr_f {n : B'} {st : Sl} : kOr n false st = n st := rfl
def kIfE (a b : E) (k : Bool) (st : Sl) : R D := match k with
  | true => a st
  | false => b st
@[simp] theorem eIf_eq {c : B'} {a b : E} {st : Sl} : eIf c a b st = (c st).bind (kIfE a b) := rfl
@[simp] theorem kIfE_t {a b : E} {st : Sl} : kIfE a b true st = a st := rfl
@[simp] theorem kIfE_f {a b : E} {st : Sl} : kIfE a b false st = b st := rfl
def kAndE (b : E) (d : D) (st : Sl) : R D := match d with
  | .bl true => b st
  | .bl false => .ok (.bl false) st
  | _ => .bad
@[simp] theorem eAnd_eq {a b : E} {st : Sl} : eAnd a b st = (a st).bind (kAndE b) := rfl
@[simp] theorem kAndE_t {b : E} {st : Sl} : kAndE b (.bl true) st = b st := rfl
@[simp] theorem kAndE_f {b : E} {st : Sl} : kAndE b (.bl false) st = .ok (.bl false) st := rfl
def kNotE (d : D) (st : Sl) : R D := match d with
  | .bl b => .ok (.bl (!b)) st
  | _ => .bad
@[simp] theorem eNot_eq {a : E} {st : Sl} : eNot a st = (a st).bind kNotE := rfl
@[simp] theorem kNotE_eq {b : Bool} {st : Sl} : kNotE (.bl b) st = .ok (.bl (!b)) st := rfl
def kCh3 (g' : List D → Option D) (y z : D) (st : Sl) : R D := kRes st (g' [y, z])
@[simp] theorem kCh3_eq {g' : List D → Option D} {y z : D} {st : Sl} : kCh3 g' y z st = kRes st (g' [y, z]) := rfl
def kChR (g' : List D → Option D) (c : E) (y : D) (st : Sl) : Option D → R D
  | some (.bl true) => (c st).bind (kCh3 g' y)
  | some (.bl false) => .ok (.bl false) st
  | _ => .bad
@[simp] theorem kChR_t {g' : List D → Option D} {c : E} {y : D} {st : Sl} : kChR g' c y st (some (.bl true)) = (c st).bind (kCh3 g' y) := rfl
@[simp] theorem kChR_f {g' : List D → Option D} {c : E} {y : D} {st : Sl} : kChR g' c y st (some (.bl false)) = .ok (.bl false) st := rfl
def kCh2 (g g' : List D → Option D) (c : E) (x y : D) (st : Sl) : R D := kChR g' c y st (g [x, y])
@[simp] theorem kCh2_eq {g g' : List D → Option D} {c : E} {x y : D} {st : Sl} : kCh2 g g' c x y st = kChR g' c y st (g [x, y]) := rfl
def kCh1 (g g' : List D → Option D) (b c : E) (x : D) (st : Sl) : R D := (b st).bind (kCh2 g g' c x)
@[simp] theorem kCh1_eq {g g' : List D → Option D} {b c : E} {x : D} {st : Sl} : kCh1 g g' b c x st = (b st).bind (kCh2 g g' c x) := rfl
@[simp] theorem eChn_eq {g g' : List D → Option D} {a b c : E} {st : Sl} : eChn g g' a b c st = (a st).bind (kCh1 g g' b c) := by
  unfold eChn
  cases a st with
  | exc c x s => rfl
  | bad => rfl
  | ok x st1 =>
    simp only [R.bind]
    show _ = (b st1).bind _
    cases b st1 with
    | exc c x s => rfl
    | bad => rfl
    | ok y st2 =>
      simp only [R.bind]
      show _ = kChR g' c y st2 (g [x, y])
      cases g [x, y] with
      | none => rfl
      | some d =>
        cases d with
        | bl k =>
          cases k with
          | false => rfl
          | true =>
            show (c st2).bind _ = (c st2).bind _
            cases c st2 with
            | exc c x s => rfl
            | bad => rfl
            | ok z st3 => show (match g' [y, z] with | some d => R.ok d st3 | none => .bad) = kRes st3 (g' [y, z]); cases g' [y, z] <;> rfl
        | _ => rfl
def kAl2 (d : D) (ds : List D) (st : Sl) : R (List D) := .ok (d :: ds) st
def kAl1 (ms : List E) (d : D) (st : Sl) : R (List D) := (evAll ms st).bind (kAl2 d)
@[simp] theorem kAl2_eq {d : D} {ds : List D} {st : Sl} : kAl2 d ds st = .ok (d :: ds) st := rfl
@[simp] theorem kAl1_eq {ms : List E} {d : D} {st : Sl} : kAl1 ms d st = (evAll ms st).bind (kAl2 d) := rfl
@[simp] theorem evAll_nil {st : Sl} : evAll [] st = .ok [] st := rfl
@[simp] theorem evAll_cons {m : E} {ms : List E} {st : Sl} : evAll (m :: ms) st = (m st).bind (kAl1 ms) := rfl
def kTup (ds : List D) (st : Sl) : R D := .ok (.tup ds) st
def kLst (ds : List D) (st : Sl) : R D := .ok (.lst ds) st
@[simp] theorem eTup_eq {ms : List E} {st : Sl} : eTup ms st = (evAll ms st).bind kTup := rfl
@[simp] theorem eLst_eq {ms : List E} {st : Sl} : eLst ms st = (evAll ms st).bind kLst := rfl
@[simp] theorem kTup_eq {ds : List D} {st : Sl} : kTup ds st = .ok (.tup ds) st := rfl
@[simp] theorem kLst_eq {ds : List D} {st : Sl} : kLst ds st = .ok (.lst ds) st := rfl
def kFr (d : D) (st : Sl) : R D := match fzOk d with
  | true => .ok d st
  | false => .bad
@[simp] theorem eFr_eq {m : E} {st : Sl} : eFr m st = (m st).bind kFr := rfl
@[simp] theorem kFr_lst {ds : List D} {st : Sl} : kFr (.lst ds) st = .ok (.lst ds) st := rfl
def kAe (d : D) (st : Sl) : R AV := .ok (.d d) st
def kAt (d : D) (st : Sl) : R AV := .ok (.o d) st
@[simp] theorem kAe_eq {d : D} {st : Sl} : kAe d st = .ok (.d d) st := rfl
@[simp] theorem kAt_eq {d : D} {st : Sl} : kAt d st = .ok (.o d) st := rfl
@[simp] theorem evArg_e {m : E} {st : Sl} : evArg (.e m) st = (m st).bind kAe := rfl
@[simp] theorem evArg_t {m : E} {st : Sl} : evArg (.t m) st = (m st).bind kAt := rfl
def kAm (i : Nat) (st : Sl) : Option Cell → R AV
  | some (.f _) => .ok (.sl i) st
  | some (.o _) => .ok (.sl i) st
  | _ => .bad
@[simp] theorem evArg_mu {i : Nat} {st : Sl} : evArg (.mu i) st = kAm i st st[i]? := by
  show (match st[i]? with | some (Cell.f _) => R.ok (AV.sl i) st | some (Cell.o _) => .ok (.sl i) st | _ => .bad) = _
  unfold kAm; cases st[i]? with | none => rfl | some c => cases c <;> rfl
@[simp] theorem kAm_f {i : Nat} {d : D} {st : Sl} : kAm i st (some (.f d)) = .ok (.sl i) st := rfl
@[simp] theorem kAm_o {i : Nat} {d : D} {st : Sl} : kAm i st (some (.o d)) = .ok (.sl i) st := rfl
def kAs2 (a : AV) (as : List AV) (st : Sl) : R (List AV) := .ok (a :: as) st
def kAs1 (ps : List Arg) (a : AV) (st : Sl) : R (List AV) := (evArgs ps st).bind (kAs2 a)
@[simp] theorem kAs2_eq {a : AV} {as : List AV} {st : Sl} : kAs2 a as st = .ok (a :: as) st := rfl
@[simp] theorem kAs1_eq {ps : List Arg} {a : AV} {st : Sl} : kAs1 ps a st = (evArgs ps st).bind (kAs2 a) := rfl
@[simp] theorem evArgs_nil {st : Sl} : evArgs [] st = .ok [] st := rfl
@[simp] theorem evArgs_cons {p : Arg} {ps : List Arg} {st : Sl} : evArgs (p :: ps) st = (evArg p st).bind (kAs1 ps) := rfl
/-- frozen arguments -/
def fzs : List AV → Option (List Cell)
  | [] => some []
  | .d d :: as => (fzs as).map (.f d :: ·)
  | _ => none
def kOut (as : List AV) (st : Sl) : Out → R D
  | .ok d cs => .ok d (putAll as cs st)
  | .exc c x cs => .exc c x (putAll as cs st)
  | .bad => .bad
@[simp] theorem kOut_ok {as : List AV} {st : Sl} {d : D} {cs : List Cell} : kOut as st (.ok d cs) = .ok d (putAll as cs st) := rfl
def kTake (mf : MF) (as : List AV) : Option (List Cell × Sl) → R D
  | some (cs, st) => kOut as st (mf cs)
  | none => .bad
@[simp] theorem kTake_some {mf : MF} {as : List AV} {cs : List Cell} {st : Sl} : kTake mf as (some (cs, st)) = kOut as st (mf cs) := rfl
@[simp] theorem callTail_eq {mf : MF} {as : List AV} {st : Sl} : callTail mf as st = kTake mf as (takeAll as st) := by
  show (match takeAll as st with
  | some (cs, st) => (match mf cs with
    | .ok d cs => R.ok d (putAll as cs st)
    | .exc c x cs => .exc c x (putAll as cs st)
    | .bad => .bad)
  | none => .bad) = _
  cases takeAll as st with
  | none => rfl
  | some p =>
    obtain ⟨cs, st⟩ := p
    show (match mf cs with
    | .ok d cs => R.ok d (putAll as cs st)
    | .exc c x cs => .exc c x (putAll as cs st)
    | .bad => .bad) = kOut as st (mf cs)
    cases mf cs <;> rfl
@[simp] theorem takeAll_nil {st : Sl} : takeAll [] st = some ([], st) := rfl
@[simp] theorem takeAll_d {d : D} {as : List AV} {st : Sl} : takeAll (.d d :: as) st = (takeAll as st).map fun p => (.f d :: p.1, p.2) := rfl
@[simp] theorem takeAll_o {d : D} {as : List AV} {st : Sl} : takeAll (.o d :: as) st = (takeAll as st).map fun p => (.o d :: p.1, p.2) := rfl
def kSl (i : Nat) (as : List AV) (st : Sl) : Option Cell → Option (List Cell × Sl)
  | some .n => none
  | none => none
  | some c => (match setL i .n st with
    | some st => (takeAll as st).map fun p => (c :: p.1, p.2)
    | none => none)
@[simp] theorem takeAll_slK {i : Nat} {as : List AV} {st : Sl} : takeAll (.sl i :: as) st = kSl i as st st[i]? := by
  show (match st[i]? with
    | some .n => none
    | none => none
    | some c => (takeAll as (st.set i .n)).map fun (p : List Cell × Sl) => (c :: p.1, p.2)) = kSl i as st st[i]?
  unfold kSl
  simp only [setL_eq]
  cases z : st[i]? with
  | none => rfl
  | some c => cases c <;> rfl
def kSl2 (c : Cell) (as : List AV) : Option Sl → Option (List Cell × Sl)
  | some st => (takeAll as st).map fun p => (c :: p.1, p.2)
  | none => none
@[simp] theorem kSl2_some {c : Cell} {as : List AV} {st : Sl} : kSl2 c as (some st) = (takeAll as st).map fun p => (c :: p.1, p.2) := rfl
@[simp] theorem kSl_f {i : Nat} {as : List AV} {st : Sl} {d : D} : kSl i as st (some (.f d)) = kSl2 (.f d) as (setL i .n st) := by
  show (match setL i .n st with
    | some st => (takeAll as st).map fun (p : List Cell × Sl) => (Cell.f d :: p.1, p.2)
    | none => none) = kSl2 (.f d) as (setL i .n st)
  cases setL i .n st <;> rfl
@[simp] theorem kSl_o {i : Nat} {as : List AV} {st : Sl} {d : D} : kSl i as st (some (.o d)) = kSl2 (.o d) as (setL i .n st) := by
  show (match setL i .n st with
    | some st => (takeAll as st).map fun (p : List Cell × Sl) => (Cell.o d :: p.1, p.2)
    | none => none) = kSl2 (.o d) as (setL i .n st)
  cases setL i .n st <;> rfl
@[simp] theorem putAll_nil {cs : List Cell} {st : Sl} : putAll [] cs st = st := by cases cs <;> rfl
@[simp] theorem putAll_d {d : D} {as : List AV} {c : Cell} {cs : List Cell} {st : Sl} : putAll (.d d :: as) (c :: cs) st = putAll as cs st := rfl
@[simp] theorem putAll_o {d : D} {as : List AV} {c : Cell} {cs : List Cell} {st : Sl} : putAll (.o d :: as) (c :: cs) st = putAll as cs st := rfl
@[simp] theorem putAll_0 {as : List AV} {st : Sl} : putAll as [] st = st := by cases as with | nil => rfl | cons a as => cases a <;> rfl
@[simp] theorem putAll_sl {i : Nat} {as : List AV} {c : Cell} {cs : List Cell} {st : Sl} : putAll (.sl i :: as) (c :: cs) st = putAll as cs (st.set i c) := rfl
@[simp] theorem eCall_k {mf : MF} {ps : List Arg} {st : Sl} : eCall mf ps st = (evArgs ps st).bind (callTail mf) := rfl
def kCl (b : Bool) (r : R D) : R D := match b with
  | true => r
  | false => .bad
@[simp] theorem kCl_t {r : R D} : kCl true r = r := rfl
def kMt2 (mf : MF) (a : AV) (as : List AV) (st : Sl) : R D := callTail mf (a :: as) st
@[simp] theorem kMt2_eq {mf : MF} {a : AV} {as : List AV} {st : Sl} : kMt2 mf a as st = callTail mf (a :: as) st := rfl
def kMt (c : Str) (mf : MF) (ps : List Arg) (a : AV) (st : Sl) : R D := kCl (clsAV c a st) ((evArgs ps st).bind (kMt2 mf a))
@[simp] theorem kMt_eq {c : Str} {mf : MF} {ps : List Arg} {a : AV} {st : Sl} : kMt c mf ps a st = kCl (clsAV c a st) ((evArgs ps st).bind (kMt2 mf a)) := rfl
@[simp] theorem eMeth_eq {c : Str} {mf : MF} {p : Arg} {ps : List Arg} {st : Sl} : eMeth c mf p ps st = (evArg p st).bind (kMt c mf ps) := by
  unfold eMeth
  cases evArg p st with
  | ok a st1 => simp only [R.bind]; show _ = kCl (clsAV c a st1) _; cases clsAV c a st1 <;> rfl
  | exc c x s => rfl
  | bad => rfl
@[simp] theorem clsAV_d {c c' : Str} {ns : List Str} {ds : List D} {st : Sl} : clsAV c (.d (.obj c' ns ds)) st = (c' == c) := rfl
@[simp] theorem clsAV_o {c c' : Str} {ns : List Str} {ds : List D} {st : Sl} : clsAV c (.o (.obj c' ns ds)) st = (c' == c) := rfl
def kClO (c : Str) : Option D → Bool
  | some (.obj c' _ _) => c' == c
  | _ => false
@[simp] theorem clsAV_sl {c : Str} {i : Nat} {st : Sl} : clsAV c (.sl i) st = kClO c (rd i st) := by
  show (match rd i st with | some (D.obj c' _ _) => c' == c | _ => false) = _
  unfold kClO; cases rd i st with | none => rfl | some d => cases d <;> rfl
@[simp] theorem kClO_eq {c c' : Str} {ns : List Str} {ds : List D} : kClO c (some (.obj c' ns ds)) = (c' == c) := rfl
@[simp] theorem eProp_eq {c : Str} {mf : MF} {p : Arg} {st : Sl} : eProp c mf p st = eMeth c (noX mf) p [] st := rfl
def kNoX : Out → Out
  | .exc _ _ _ => .bad
  | o => o
@[simp] theorem noX_eq {mf : MF} {cs : List Cell} : noX mf cs = kNoX (mf cs) := rfl
@[simp] theorem kNoX_ok {d : D} {cs : List Cell} : kNoX (.ok d cs) = .ok d cs := rfl
def kMk (as : List AV) (st : Sl) : Out → R D
  | .ok .non (.o d :: cs) => .ok d (putAll as cs st)
  | .exc c x (_ :: cs) => .exc c x (putAll as cs st)
  | _ => .bad
@[simp] theorem kMk_ok {as : List AV} {st : Sl} {d : D} {cs : List Cell} : kMk as st (.ok .non (.o d :: cs)) = .ok d (putAll as cs st) := rfl
def kMkT (c : Str) (mf : MF) (as : List AV) : Option (List Cell × Sl) → R D
  | some (cs, st) => kMk as st (mf (.o (.obj c [] []) :: cs))
  | none => .bad
@[simp] theorem kMkT_some {c : Str} {mf : MF} {as : List AV} {cs : List Cell} {st : Sl} : kMkT c mf as (some (cs, st)) = kMk as st (mf (.o (.obj c [] []) :: cs)) := rfl
def kMake (c : Str) (mf : MF) (as : List AV) (st : Sl) : R D := kMkT c mf as (takeAll as st)
@[simp] theorem kMake_eq {c : Str} {mf : MF} {as : List AV} {st : Sl} : kMake c mf as st = kMkT c mf as (takeAll as st) := rfl
@[simp] theorem eMake_eq {c : Str} {mf : MF} {ps : List Arg} {st : Sl} : eMake c mf ps st = (evArgs ps st).bind (kMake c mf) := by
  unfold eMake
  cases evArgs ps st with
  | exc c x s => rfl
  | bad => rfl
  | ok as st1 =>
    simp only [R.bind]
    show _ = kMkT c mf as (takeAll as st1)
    cases takeAll as st1 with
    | none => rfl
    | some p =>
      obtain ⟨cs, st2⟩ := p
      show _ = kMk as st2 (mf (.o (.obj c [] []) :: cs))
      unfold kMk
      rfl
def gFld (f : Str) : List D → Option D
  | [.obj _ ns ds] => (match owf f with
    | false => lookF ns ds f
    | true => none)
  | _ => none
@[simp] theorem eFld_eq {f : Str} {p : Opd} {st : Sl} : eFld f p st = eOp (gFld f) [p] st := by
  have e : (fun ds : List D => match ds with
    | [.obj _ ns ds] => (match owf f with
      | false => lookF ns ds f
      | true => none)
    | _ => none) = gFld f := by
    funext ds
    match ds with
    | [.obj _ ns ds] => rfl
    | [] => rfl
    | [.non] => rfl
    | [.bl _] => rfl
    | [.int _] => rfl
    | [.str _] => rfl
    | [.tup _] => rfl
    | [.lst _] => rfl
    | [.scr _] => rfl
    | [.dic _ _] => rfl
    | _ :: _ :: _ => rfl
  exact congrArg (fun g => eOp g [p] st) e
def kAsg (g : Tg) (d : D) (st : Sl) : R Fl := kSt (g d st)
@[simp] theorem sAsg_eq {m : E} {g : Tg} {st : Sl} : sAsg m g st = (m st).bind (kAsg g) := by
  unfold sAsg
  cases m st with
  | ok d st1 => simp only [R.bind]; show _ = kSt (g d st1); cases g d st1 <;> rfl
  | exc c x s => rfl
  | bad => rfl
@[simp] theorem kAsg_eq {g : Tg} {d : D} {st : Sl} : kAsg g d st = kSt (g d st) := rfl
@[simp] theorem tgN_eq {i : Nat} {d : D} {st : Sl} : tgN i d st = setL i (.f d) st := by
  unfold tgN
  rw [setL_eq]
  cases st[i]? <;> rfl
@[simp] theorem tgT_tup {gs : List Tg} {ds : List D} {st : Sl} : tgT gs (.tup ds) st = tgs gs ds st := rfl
@[simp] theorem tgT_lst {gs : List Tg} {ds : List D} {st : Sl} : tgT gs (.lst ds) st = tgs gs ds st := rfl
@[simp] theorem tgs_nil {st : Sl} : tgs [] [] st = some st := rfl
@[simp] theorem tgs_cons {g : Tg} {gs : List Tg} {d : D} {ds : List D} {st : Sl} : tgs (g :: gs) (d :: ds) st = (g d st).bind (tgs gs ds) := rfl
@[simp] theorem tgF_eq {i : Nat} {f : Str} {d : D} {st : Sl} : tgF i f d st = setFld i f d st := rfl
end Ev
namespace Ev
open PySem PySem.Spec PyProof.Rows L2
@[simp] theorem R.bind_ok {α β : Type} {a : α} {st : Sl} {k : α → Sl → R β} : (R.ok a st).bind k = k a st := rfl
def kIE (d : D) (st : Sl) : R (List D) := match d with
  | .lst ds => .ok ds st
  | .tup ds => .ok ds st
  | .scr ns => .ok (ns.map .int) st
  | .str x => .ok (x.cps.toList.map fun c => .str ⟨#[c]⟩) st
  | _ => .bad
@[simp] theorem itE_eq {m : E} {st : Sl} : itE m st = (m st).bind kIE := rfl
@[simp] theorem kIE_lst {ds : List D} {st : Sl} : kIE (.lst ds) st = .ok ds st := rfl
@[simp] theorem kIE_tup {ds : List D} {st : Sl} : kIE (.tup ds) st = .ok ds st := rfl
@[simp] theorem kIE_scr {ds : List Int} {st : Sl} : kIE (.scr ds) st = .ok (ds.map .int) st := rfl
def kI1 (d : D) (st : Sl) : R (List D) := match d with
  | .int j => (match inR j with
    | true => .ok (rangeD 0 j.toNat) st
    | false => .bad)
  | _ => .bad
@[simp] theorem itR1_eq {m : E} {st : Sl} : itR1 m st = (m st).bind kI1 := rfl
theorem kI1_int {j : Int} {st : Sl} (h : inR j = true) : kI1 (.int j) st = .ok (rangeD 0 j.toNat) st := by unfold kI1; simp only [h]
theorem inR_of {j : Int} (h : -(2 ^ 62) ≤ j) (h2 : j < 2 ^ 62) : inR j = true := by unfold inR; rw [decide_eq_true h, decide_eq_true h2]; rfl
theorem kI1_nat {n : Nat} {st : Sl} (h : n < 2 ^ 62) : kI1 (.int n) st = .ok (rangeD 0 n) st := kI1_int (inR_of (by omega) (by omega))
@[simp] theorem kIE_str {x : Str} {st : Sl} : kIE (.str x) st = .ok (x.cps.toList.map fun c => .str ⟨#[c]⟩) st := rfl
def tgR : Option Sl → R Unit
  | some st => .ok () st
  | none => .bad
@[simp] theorem tgR_some {st : Sl} : tgR (some st) = .ok () st := rfl
def kLw (vs : List Nat) (x : D) (st : Sl) : R (Option D) := .ok (some x) (wipeS vs st)
def kLe (vs : List Nat) (el : E) (b : Bool) (st : Sl) : R (Option D) := match b with
  | true => (el st).bind (kLw vs)
  | false => .ok none (wipeS vs st)
def kLc (vs : List Nat) (c : B') (el : E) (_ : Unit) (st : Sl) : R (Option D) := (c st).bind (kLe vs el)
def lc1 (vs : List Nat) (g : Tg) (c : B') (el : E) (d : D) (st : Sl) : R (Option D) := (tgR (g d st)).bind (kLc vs c el)
@[simp] theorem lc1_eq {vs : List Nat} {g : Tg} {c : B'} {el : E} {d : D} {st : Sl} : lc1 vs g c el d st = (tgR (g d st)).bind (kLc vs c el) := rfl
@[simp] theorem kLc_eq {vs : List Nat} {c : B'} {el : E} {u : Unit} {st : Sl} : kLc vs c el u st = (c st).bind (kLe vs el) := rfl
@[simp] theorem kLe_t {vs : List Nat} {el : E} {st : Sl} : kLe vs el true st = (el st).bind (kLw vs) := rfl
@[simp] theorem kLe_f {vs : List Nat} {el : E} {st : Sl} : kLe vs el false st = .ok none (wipeS vs st) := rfl
@[simp] theorem kLw_eq {vs : List Nat} {x : D} {st : Sl} : kLw vs x st = .ok (some x) (wipeS vs st) := rfl
@[simp] theorem mYes_eq {st : Sl} : mYes st = .ok true st := rfl
@[simp] theorem wipe_nil {st : Sl} : wipeS [] st = st := rfl
@[simp] theorem wipe_cons {v : Nat} {vs : List Nat} {st : Sl} : wipeS (v :: vs) st = (wipeS vs st).set v .n := rfl
theorem lcL_some {vs : List Nat} {g : Tg} {c : B'} {el : E} {d x : D} {ds : List D} {st st' : Sl} (h : lc1 vs g c el d st = .ok (some x) st') :
    lcL vs g c el (d :: ds) st = (lcL vs g c el ds st').bind fun xs st => .ok (x :: xs) st := by
  unfold lc1 at h
  rw [lcL]
  cases z : g d st with
  | none => simp [z, tgR, R.bind] at h
  | some st1 =>
    simp only [z, tgR, R.bind, kLc] at h ⊢
    cases z2 : c st1 with
    | bad => simp [z2, R.bind] at h
    | exc a b s => simp [z2, R.bind] at h
    | ok b st2 =>
      simp only [z2, R.bind, kLe] at h ⊢
      cases b with
      | false => simp at h
      | true =>
        simp only at h ⊢
        cases z3 : el st2 with
        | bad => simp [z3, R.bind] at h
        | exc a b s => simp [z3, R.bind] at h
        | ok y st3 =>
          simp only [z3, R.bind, kLw] at h ⊢
          injection h with h1 h2
          cases h1
          rw [h2]
theorem lcL_none {vs : List Nat} {g : Tg} {c : B'} {el : E} {d : D} {ds : List D} {st st' : Sl} (h : lc1 vs g c el d st = .ok none st') :
    lcL vs g c el (d :: ds) st = lcL vs g c el ds st' := by
  unfold lc1 at h
  rw [lcL]
  cases z : g d st with
  | none => simp [z, tgR, R.bind] at h
  | some st1 =>
    simp only [z, tgR, R.bind, kLc] at h ⊢
    cases z2 : c st1 with
    | bad => simp [z2, R.bind] at h
    | exc a b s => simp [z2, R.bind] at h
    | ok b st2 =>
      simp only [z2, R.bind, kLe] at h ⊢
      cases b with
      | false => simp only [R.ok.injEq] at h ⊢; rw [h.2]
      | true =>
        simp only at h
        cases z3 : el st2 with
        | bad => simp [z3, R.bind] at h
        | exc a b s => simp [z3, R.bind] at h
        | ok y st3 => simp [z3, R.bind, kLw] at h
/-- each element gives f of it, or nothing -/
theorem lcL_fm {vs : List Nat} {g : Tg} {c : B'} {el : E} {st : Sl} (f : D → Option D) : ∀ {ds : List D}, (∀ d ∈ ds, lc1 vs g c el d st = .ok (f d) st) → lcL vs g c el ds st = .ok (ds.filterMap f) st
  | [], _ => rfl
  | d :: ds, h => by
    have h1 := h d List.mem_cons_self
    have ih := lcL_fm f fun e m => h e (List.mem_cons_of_mem _ m)
    cases z : f d with
    | none => rw [z] at h1; rw [lcL_none h1, ih, List.filterMap_cons, z]
    | some x => rw [z] at h1; rw [lcL_some h1, ih, List.filterMap_cons, z]; rfl
theorem lcL_map {vs : List Nat} {g : Tg} {c : B'} {el : E} {st : Sl} (f : D → D) {ds : List D} (h : ∀ d ∈ ds, lc1 vs g c el d st = .ok (some (f d)) st) : lcL vs g c el ds st = .ok (ds.map f) st := by
  rw [lcL_fm (fun d => some (f d)) h, List.filterMap_eq_map']
/-- the elements may change the slots: one run through -/
inductive LcR (vs : List Nat) (g : Tg) (c : B') (el : E) : List D → Sl → List D → Sl → Prop
  | nil {st : Sl} : LcR vs g c el [] st [] st
  | cons {d x : D} {ds xs : List D} {st st1 st2 : Sl} : lc1 vs g c el d st = .ok (some x) st1 → LcR vs g c el ds st1 xs st2 → LcR vs g c el (d :: ds) st (x :: xs) st2
theorem LcR.run {vs : List Nat} {g : Tg} {c : B'} {el : E} {ds xs : List D} {st st' : Sl} (h : LcR vs g c el ds st xs st') : lcL vs g c el ds st = .ok xs st' := by
  induction h with
  | nil => rfl
  | cons h _ ih => rw [lcL_some h, ih]; rfl
def kLcB (vs : List Nat) (st0 : Sl) (xs : List D) (st : Sl) : R D := if xs.length < sizeLine then .ok (.lst xs) (backS st0 vs st) else .bad
theorem kLcB_eq {vs : List Nat} {st0 st : Sl} {xs : List D} (h : xs.length < sizeLine) : kLcB vs st0 xs st = .ok (.lst xs) (backS st0 vs st) := if_pos h
def kLcF (vs : List Nat) (g : Tg) (c : B') (el : E) (items : List D) (st : Sl) : Bool → R D
  | true => (lcL vs g c el items (wipeS vs st)).bind (kLcB vs st)
  | false => .bad
@[simp] theorem kLcF_t {vs : List Nat} {g : Tg} {c : B'} {el : E} {items : List D} {st : Sl} : kLcF vs g c el items st true = (lcL vs g c el items (wipeS vs st)).bind (kLcB vs st) := rfl
def kLcI (vs : List Nat) (g : Tg) (c : B') (el : E) (items : List D) (st : Sl) : R D := kLcF vs g c el items st (frozenAt st vs && decide (st.length ≤ 64))
@[simp] theorem kLcI_eq {vs : List Nat} {g : Tg} {c : B'} {el : E} {items : List D} {st : Sl} : kLcI vs g c el items st = kLcF vs g c el items st (frozenAt st vs && decide (st.length ≤ 64)) := rfl
@[simp] theorem eLc_eq {vs : List Nat} {it : IE} {g : Tg} {c : B'} {el : E} {st : Sl} : eLc vs it g c el st = (it st).bind (kLcI vs g c el) := by
  unfold eLc
  cases it st with
  | bad => rfl
  | exc a b s => rfl
  | ok items st1 =>
    show (match frozenAt st1 vs && decide (st1.length ≤ 64) with
      | true => (lcL vs g c el items (wipeS vs st1)).bind fun xs st' => if xs.length < sizeLine then R.ok (.lst xs) (backS st1 vs st') else .bad
      | false => .bad) = kLcF vs g c el items st1 (frozenAt st1 vs && decide (st1.length ≤ 64))
    cases frozenAt st1 vs && decide (st1.length ≤ 64) <;> rfl
@[simp] theorem frozen_nil {st : Sl} : frozenAt st [] = true := rfl
def frC : Option Cell → Bool
  | some (.o _) => false
  | none => false
  | _ => true
@[simp] theorem frC_n : frC (some .n) = true := rfl
@[simp] theorem frC_f {d : D} : frC (some (.f d)) = true := rfl
@[simp] theorem frozen_cons {v : Nat} {vs : List Nat} {st : Sl} : frozenAt st (v :: vs) = (frC st[v]? && frozenAt st vs) := by
  unfold frozenAt frC
  rw [List.all_cons]
  all_goals (cases st[v]? with | none => rfl | some c => cases c <;> rfl)
@[simp] theorem back_nil {st0 st : Sl} : backS st0 [] st = st := rfl
def bkC (v : Nat) (st : Sl) : Option Cell → Sl
  | some c => st.set v c
  | none => st
@[simp] theorem bkC_some {v : Nat} {st : Sl} {c : Cell} : bkC v st (some c) = st.set v c := rfl
@[simp] theorem back_cons {v : Nat} {vs : List Nat} {st0 st : Sl} : backS st0 (v :: vs) st = bkC v (backS st0 vs st) st0[v]? := by
  unfold bkC
  rw [backS]
  all_goals (cases st0[v]? <;> rfl)
def kFo (_ : Unit) (b : S) (st : Sl) : R Fl := b st
def kFo1 (b : S) (_ : Unit) (st : Sl) : R Fl := b st
@[simp] theorem kFo1_eq {b : S} {u : Unit} {st : Sl} : kFo1 b u st = b st := rfl
def fo1 (g : Tg) (b : S) (d : D) (st : Sl) : R Fl := (tgR (g d st)).bind (kFo1 b)
@[simp] theorem fo1_eq {g : Tg} {b : S} {d : D} {st : Sl} : fo1 g b d st = (tgR (g d st)).bind (kFo1 b) := rfl
theorem forL_nx {g : Tg} {b : S} {d : D} {ds : List D} {st st' : Sl} (h : fo1 g b d st = .ok .nx st') : forL g b (d :: ds) st = forL g b ds st' := by
  unfold fo1 at h
  rw [forL]
  cases z : g d st with
  | none => simp [z, tgR, R.bind] at h
  | some st1 =>
    simp only [z, tgR, R.bind, kFo1] at h ⊢
    simp only [h]
theorem forL_rt {g : Tg} {b : S} {d x : D} {ds : List D} {st st' : Sl} (h : fo1 g b d st = .ok (.rt x) st') : forL g b (d :: ds) st = .ok (.rt x) st' := by
  unfold fo1 at h
  rw [forL]
  cases z : g d st with
  | none => simp [z, tgR, R.bind] at h
  | some st1 =>
    simp only [z, tgR, R.bind, kFo1] at h ⊢
    simp only [h]
/-- a loop that runs through: what holds of the slots before each go -/
theorem forL_ind {α : Type} {g : Tg} {b : S} (I : α → Sl → Prop) (step : α → D → α) : ∀ {ds : List D} {a : α} {st : Sl}, (∀ a d st, d ∈ ds → I a st → ∃ st', fo1 g b d st = .ok .nx st' ∧ I (step a d) st') → I a st → ∃ st', forL g b ds st = .ok .nx st' ∧ I (ds.foldl step a) st'
  | [], a, st, _, i => ⟨st, rfl, i⟩
  | d :: ds, a, st, h, i => by
    obtain ⟨st1, e, i1⟩ := h a d st List.mem_cons_self i
    obtain ⟨st2, e2, i2⟩ := forL_ind I step (fun a d st m => h a d st (List.mem_cons_of_mem _ m)) i1
    exact ⟨st2, (forL_nx e).trans e2, i2⟩
@[simp] theorem sFor_eq {it : IE} {g : Tg} {b : S} {st : Sl} : sFor it g b st = (it st).bind (forL g b) := rfl
@[simp] theorem forL_nil {g : Tg} {b : S} {st : Sl} : forL g b [] st = .ok .nx st := rfl
def kRunF (P : List Nat) (np : Nat) : R Fl → Out
  | .ok (.rt d) st => .ok d (keepF P 0 (st.take np))
  | .ok .nx st => .ok .non (keepF P 0 (st.take np))
  | .exc c x st => .exc c x (keepF P 0 (st.take np))
  | _ => .bad
@[simp] theorem kRunF_rt {P : List Nat} {np : Nat} {d : D} {st : Sl} : kRunF P np (.ok (.rt d) st) = .ok d (keepF P 0 (st.take np)) := rfl
@[simp] theorem kRunF_nx {P : List Nat} {np : Nat} {st : Sl} : kRunF P np (.ok .nx st) = .ok .non (keepF P 0 (st.take np)) := rfl
theorem runF_eq {N np : Nat} {P : List Nat} {b : S} {cs : List Cell} (h : cs.length = np) : runF N np P b cs = kRunF P np (b (cs ++ List.replicate (N - np) .n)) := by
  unfold runF kRunF
  have e : decide (cs.length = np) = true := decide_eq_true h
  simp only [e]
  all_goals (rcases b (cs ++ List.replicate (N - np) .n) with ⟨f, st⟩ | ⟨c, x, st⟩ | _ <;> first | rfl | (cases f <;> rfl))
@[simp] theorem keepF_nil {P : List Nat} {i : Nat} : keepF P i [] = [] := rfl
def kpC (b : Bool) (c : Cell) : Cell := match b with
  | true => c
  | false => .n
@[simp] theorem kpC_t {c : Cell} : kpC true c = c := rfl
@[simp] theorem kpC_f {c : Cell} : kpC false c = .n := rfl
@[simp] theorem keepF_cons {P : List Nat} {i : Nat} {c : Cell} {cs : List Cell} : keepF P i (c :: cs) = kpC (P.contains i) c :: keepF P (i + 1) cs := rfl
def kSf (i : Nat) (f : Str) (d : D) (st : Sl) : Option Cell → Option Sl
  | some (.o (.obj c ns ds)) => (match decide (ns.length < 1000), owf f with
    | true, false => setL i (.o (.obj c (putN f ns) (putD f d ns ds))) st
    | _, _ => none)
  | _ => none
theorem setFld_eq {i : Nat} {f : Str} {d : D} {st : Sl} : setFld i f d st = kSf i f d st st[i]? := by
  unfold setFld kSf
  cases z : st[i]? with
  | none => rfl
  | some c =>
    cases c with
    | n => rfl
    | f d => rfl
    | o d =>
      cases d with
      | obj c ns ds => simp only [setL_eq, z, Option.map_some] <;> cases decide (ns.length < 1000) <;> cases owf f <;> rfl
      | _ => rfl
end Ev
namespace Ev
open PySem PySem.Spec PyProof.Rows L2
@[simp] theorem gSub_int {i j : Int} : gSub [.int i, .int j] = some (.int (i - j)) := rfl
@[simp] theorem gLt_int {i j : Int} : gLt [.int i, .int j] = some (.bl (decide (i < j))) := rfl
@[simp] theorem gLe_int {i j : Int} : gLe [.int i, .int j] = some (.bl (decide (i ≤ j))) := rfl
@[simp] theorem gGt_int {i j : Int} : gGt [.int i, .int j] = some (.bl (decide (j < i))) := rfl
@[simp] theorem gGe_int {i j : Int} : gGe [.int i, .int j] = some (.bl (decide (j ≤ i))) := rfl
@[simp] theorem gMax_int {i j : Int} : gMax [.int i, .int j] = some (.int (if j > i then j else i)) := rfl
@[simp] theorem gMin_int {i j : Int} : gMin [.int i, .int j] = some (.int (if j < i then j else i)) := rfl
@[simp] theorem gAdd_int {i j : Int} : gAdd [.int i, .int j] = some (.int (i + j)) := rfl
theorem gAdd_lst {x y : List D} (h : x.length + y.length ≤ sizeLine) : gAdd [.lst x, .lst y] = some (.lst (x ++ y)) := if_pos h
theorem gAdd_tup {x y : List D} (h : x.length + y.length ≤ sizeLine) : gAdd [.tup x, .tup y] = some (.tup (x ++ y)) := if_pos h
theorem gAdd_str {x y : Str} (h : x.length + y.length ≤ sizeLine) : gAdd [.str x, .str y] = some (.str (x ++ y)) := if_pos h
theorem cDiv_of {i j : Int} (h : 0 < j) (h2 : j.natAbs.log2 < 9000) : cDiv i j = true := by unfold cDiv; rw [decide_eq_true h, decide_eq_true h2]; rfl
theorem gFdiv_int {i j : Int} (h : 0 < j) (h2 : j.natAbs.log2 < 9000) : gFdiv [.int i, .int j] = some (.int (i / j)) := if_pos (cDiv_of h h2)
theorem log_le {j : Int} (h : 0 < j) (h2 : j < 2 ^ 60) : j.natAbs.log2 < 9000 := by
  have : j.natAbs.log2 < 60 := (Nat.log2_lt (by omega)).mpr (by omega)
  omega
theorem gFdiv_small {i j : Int} (h : 0 < j) (h2 : j < 2 ^ 60) : gFdiv [.int i, .int j] = some (.int (i / j)) := gFdiv_int h (log_le h h2)
theorem gMod_int {i j : Int} (h : 0 < j) : gMod [.int i, .int j] = some (.int (i % j)) := if_pos (decide_eq_true h)
theorem cMul_of {i j : Int} (h : (-(2 ^ 64) < i ∧ i < 2 ^ 64) ∨ (-(2 ^ 64) < j ∧ j < 2 ^ 64)) : cMul i j = true := by unfold cMul; rw [decide_eq_true h]; rfl
theorem gMul_int {i j : Int} (h : (-(2 ^ 64) < i ∧ i < 2 ^ 64) ∨ (-(2 ^ 64) < j ∧ j < 2 ^ 64)) : gMul [.int i, .int j] = some (.int (i * j)) := if_pos (cMul_of h)
@[simp] theorem gLen_lst {ds : List D} : gLen [.lst ds] = some (.int ds.length) := rfl
@[simp] theorem gLen_tup {ds : List D} : gLen [.tup ds] = some (.int ds.length) := rfl
@[simp] theorem gLen_scr {ds : List Int} : gLen [.scr ds] = some (.int ds.length) := rfl
@[simp] theorem gListF_lst {ds : List D} : gListF [.lst ds] = some (.lst ds) := rfl
@[simp] theorem gListF_tup {ds : List D} : gListF [.tup ds] = some (.lst ds) := rfl
@[simp] theorem gTuple_lst {ds : List D} : gTuple [.lst ds] = some (.tup ds) := rfl
@[simp] theorem gTuple_tup {ds : List D} : gTuple [.tup ds] = some (.tup ds) := rfl
@[simp] theorem gRev_lst {ds : List D} : gRev [.lst ds] = some (.lst ds.reverse) := rfl
@[simp] theorem gAbs_int {i : Int} : gAbs [.int i] = some (.int (if i < 0 then -i else i)) := rfl
@[simp] theorem gInt1_int {i : Int} : gInt1 [.int i] = some (.int i) := rfl
@[simp] theorem gInt1_bl {b : Bool} : gInt1 [.bl b] = some (.int (if b then 1 else 0)) := rfl
@[simp] theorem gNeg_int {i : Int} : gNeg [.int i] = some (.int (-i)) := rfl
theorem intsD_map : ∀ {ns : List Int}, intsD (ns.map .int) = some ns
  | [] => rfl
  | n :: ns => by rw [List.map_cons, intsD, intsD_map]; rfl
@[simp] theorem gSum_tup {ns : List Int} : gSum [.tup (ns.map .int)] = some (.int ns.sum) := by
  show (intsD (ns.map .int)).map _ = _
  rw [intsD_map]; rfl
@[simp] theorem gSum_lst {ns : List Int} : gSum [.lst (ns.map .int)] = some (.int ns.sum) := by
  show (intsD (ns.map .int)).map _ = _
  rw [intsD_map]; rfl
theorem boolsD_map {α : Type} {f : α → Bool} : ∀ {ns : List α}, boolsD (ns.map fun a => .bl (f a)) = some (ns.map f)
  | [] => rfl
  | n :: ns => by rw [List.map_cons, boolsD, boolsD_map]; rfl
theorem gAll_map {α : Type} {f : α → Bool} {ns : List α} : gAll [.lst (ns.map fun a => .bl (f a))] = some (.bl (ns.all f)) := by
  show (boolsD (ns.map fun a => .bl (f a))).map _ = _
  rw [boolsD_map]
  simp [List.all_map, Function.comp_def]
theorem gAll_true {α : Type} {ns : List α} : gAll [.lst (ns.map fun _ => .bl true)] = some (.bl true) := by
  rw [gAll_map (f := fun _ => true)]; simp
@[simp] theorem gIsi_int {i : Int} {T : String} : gIsi T [.int i] = some (.bl (isTy T "int")) := rfl
@[simp] theorem gIsi_str {x : Str} {T : String} : gIsi T [.str x] = some (.bl (isTy T "str")) := rfl
@[simp] theorem gIsi_lst {x : List D} {T : String} : gIsi T [.lst x] = some (.bl (isTy T "list")) := rfl
@[simp] theorem gIsi_tup {x : List D} {T : String} : gIsi T [.tup x] = some (.bl (isTy T "tuple")) := rfl
@[simp] theorem ty1 : isTy "int" "int" = true := by decide
@[simp] theorem ty2 : isTy "bool" "int" = false := by decide
@[simp] theorem ty3 : isTy "list" "list" = true := by decide
@[simp] theorem ty4 : isTy "tuple" "tuple" = true := by decide
@[simp] theorem ty5 : isTy "str" "str" = true := by decide
@[simp] theorem ty6 : isTy "tuple" "list" = false := by decide
@[simp] theorem gIs_non {b : Bool} : gIs b [.non, .non] = some (.bl (b != true)) := rfl
@[simp] theorem gIs_int {b : Bool} {i : Int} : gIs b [.int i, .non] = some (.bl (b != false)) := rfl
@[simp] theorem gIs_tup {b : Bool} {i : List D} : gIs b [.tup i, .non] = some (.bl (b != false)) := rfl
@[simp] theorem gIs_str {b : Bool} {i : Str} : gIs b [.str i, .non] = some (.bl (b != false)) := rfl
@[simp] theorem gIx_tup {ds : List D} {i : Int} : gIx [.tup ds, .int i] = L2.atI ds i := rfl
@[simp] theorem gIx_lst {ds : List D} {i : Int} : gIx [.lst ds, .int i] = L2.atI ds i := rfl
@[simp] theorem gIx_scr {ds : List Int} {i : Int} : gIx [.scr ds, .int i] = (L2.atI ds i).map .int := rfl
@[simp] theorem gEq_int {i j : Int} : gEq [.int i, .int j] = some (.bl (i == j)) := by
  show (if SeqAt.shaped (.int i) && SeqAt.shaped (.int j) then some (D.bl (PyData.eqv (.int i) (.int j))) else none) = _
  simp [SeqAt.shaped, PyData.canLay0, PyData.depth, PyData.eqv]
@[simp] theorem gNe_int {i j : Int} : gNe [.int i, .int j] = some (.bl (!(i == j))) := by
  show (if SeqAt.shaped (.int i) && SeqAt.shaped (.int j) then some (D.bl (!PyData.eqv (.int i) (.int j))) else none) = _
  simp [SeqAt.shaped, PyData.canLay0, PyData.depth, PyData.eqv]
theorem gEq_str {i j : Str} (h : PyData.strOk i = true) (h2 : PyData.strOk j = true) : gEq [.str i, .str j] = some (.bl (i == j)) := by
  show (if SeqAt.shaped (.str i) && SeqAt.shaped (.str j) then some (D.bl (PyData.eqv (.str i) (.str j))) else none) = _
  simp [SeqAt.shaped, PyData.canLay0, PyData.depth, PyData.eqv, h, h2]
theorem gEq_nons {j : Str} (h2 : PyData.strOk j = true) : gEq [.non, .str j] = some (.bl false) := by
  show (if SeqAt.shaped .none && SeqAt.shaped (.str j) then some (D.bl (PyData.eqv .none (.str j))) else none) = _
  simp [SeqAt.shaped, PyData.canLay0, PyData.depth, PyData.eqv, h2]
theorem toPs_ints : ∀ {ns : List Int}, toPs (ns.map .int) = some (ns.map .int)
  | [] => rfl
  | n :: ns => by rw [List.map_cons, toPs, toPs_ints]; rfl
theorem lay_ints : ∀ {ns : List Int}, PyData.canLayAll0 (ns.map .int) = true
  | [] => rfl
  | n :: ns => by rw [List.map_cons, PyData.canLayAll0, lay_ints]; rfl
theorem depth_ints : ∀ {ns : List Int}, PyData.depthAll (ns.map .int) = 0
  | [] => rfl
  | n :: ns => by rw [List.map_cons, PyData.depthAll, depth_ints]; rfl
theorem eqv_ints : ∀ {ns ms : List Int}, PyData.eqvAll (ns.map .int) (ms.map .int) = (ns == ms)
  | [], [] => rfl
  | [], m :: ms => rfl
  | n :: ns, [] => rfl
  | n :: ns, m :: ms => by rw [List.map_cons, List.map_cons, PyData.eqvAll, eqv_ints]; rfl
theorem gNe_ints {ns ms : List Int} : gNe [.lst (ns.map .int), .lst (ms.map .int)] = some (.bl (!(ns == ms))) := by
  unfold gNe
  simp only [toP, toPs_ints, Option.map_some]
  simp [SeqAt.shaped, PyData.canLay0, PyData.depth, PyData.eqv, lay_ints, depth_ints, eqv_ints]
theorem gEq_ints {ns ms : List Int} : gEq [.lst (ns.map .int), .lst (ms.map .int)] = some (.bl (ns == ms)) := by
  unfold gEq
  simp only [toP, toPs_ints, Option.map_some]
  simp [SeqAt.shaped, PyData.canLay0, PyData.depth, PyData.eqv, lay_ints, depth_ints, eqv_ints]
end Ev
namespace Ev
open PySem PySem.Spec PyProof.Rows L2
def kIt3 (i : Nat) (d k : D) (st : Sl) : Option Cell → R Fl
  | some (.o (.lst ds)) => (match k with
    | .int j => if 0 ≤ j ∧ j < ds.length then .ok .nx (st.set i (.o (.lst (ds.set j.toNat d)))) else .bad
    | _ => .bad)
  | _ => .bad
def kIt2 (i : Nat) (d : D) (k : D) (st : Sl) : R Fl := kIt3 i d k st st[i]?
@[simp] theorem kIt2_eq {i : Nat} {d k : D} {st : Sl} : kIt2 i d k st = kIt3 i d k st st[i]? := rfl
theorem kIt3_lst {i : Nat} {d : D} {j : Nat} {ds : List D} {st : Sl} (h : j < ds.length) : kIt3 i d (.int j) st (some (.o (.lst ds))) = .ok .nx (st.set i (.o (.lst (ds.set j d)))) := by
  show (if 0 ≤ (j : Int) ∧ (j : Int) < ds.length then R.ok Fl.nx (st.set i (.o (.lst (ds.set (j : Int).toNat d)))) else .bad) = _
  rw [if_pos ⟨by omega, by omega⟩]; rfl
@[simp] theorem kIt3_30 {i : Nat} {d a b c : D} {st : Sl} : kIt3 i d (.int 0) st (some (.o (.lst [a, b, c]))) = .ok .nx (st.set i (.o (.lst [d, b, c]))) := rfl
@[simp] theorem kIt3_32 {i : Nat} {d a b c : D} {st : Sl} : kIt3 i d (.int 2) st (some (.o (.lst [a, b, c]))) = .ok .nx (st.set i (.o (.lst [a, b, d]))) := rfl
def kIt1 (i : Nat) (mk : E) (d : D) (st : Sl) : Option Cell → R Fl
  | some (.o (.lst _)) => (mk st).bind (kIt2 i d)
  | _ => .bad
@[simp] theorem kIt1_lst {i : Nat} {mk : E} {d : D} {ds : List D} {st : Sl} : kIt1 i mk d st (some (.o (.lst ds))) = (mk st).bind (kIt2 i d) := rfl
def kIt0 (i : Nat) (mk : E) (d : D) (st : Sl) : R Fl := kIt1 i mk d st st[i]?
@[simp] theorem kIt0_eq {i : Nat} {mk : E} {d : D} {st : Sl} : kIt0 i mk d st = kIt1 i mk d st st[i]? := rfl
@[simp] theorem sItem_eq {i : Nat} {m mk : E} {st : Sl} : sItem i m mk st = (m st).bind (kIt0 i mk) := by
  unfold sItem
  cases m st with
  | bad => rfl
  | exc a b s => rfl
  | ok d st1 =>
    show (match st1[i]? with
      | some (.o (.lst _)) => (mk st1).bind fun k st => (match st[i]?, k with
        | some (.o (.lst ds)), .int j => if 0 ≤ j ∧ j < ds.length then R.ok Fl.nx (st.set i (.o (.lst (ds.set j.toNat d)))) else .bad
        | _, _ => .bad)
      | _ => .bad) = kIt1 i mk d st1 st1[i]?
    unfold kIt1
    cases st1[i]? with
    | none => rfl
    | some c =>
      cases c with
      | n => rfl
      | f e => rfl
      | o e =>
        cases e with
        | lst ds =>
          show (mk st1).bind _ = (mk st1).bind _
          cases mk st1 with
          | bad => rfl
          | exc a b s => rfl
          | ok k st2 =>
            show (match st2[i]?, k with
              | some (.o (.lst ds)), .int j => if 0 ≤ j ∧ j < ds.length then R.ok Fl.nx (st2.set i (.o (.lst (ds.set j.toNat d)))) else .bad
              | _, _ => .bad) = kIt3 i d k st2 st2[i]?
            unfold kIt3
            cases st2[i]? with
            | none => rfl
            | some c2 =>
              cases c2 with
              | n => rfl
              | f e => rfl
              | o e => cases e <;> cases k <;> rfl
        | _ => rfl
def kMuR (i : Nat) (st : Sl) : Option (D × List D) → R D
  | some (d, ds) => .ok d (st.set i (.o (.lst ds)))
  | none => .bad
@[simp] theorem kMuR_some {i : Nat} {st : Sl} {d : D} {ds : List D} : kMuR i st (some (d, ds)) = .ok d (st.set i (.o (.lst ds))) := rfl
def kMu2 (g : List D → List D → Option (D × List D)) (i : Nat) (as : List D) (st : Sl) : Option Cell → R D
  | some (.o (.lst ds)) => kMuR i st (g ds as)
  | _ => .bad
@[simp] theorem kMu2_lst {g : List D → List D → Option (D × List D)} {i : Nat} {as ds : List D} {st : Sl} : kMu2 g i as st (some (.o (.lst ds))) = kMuR i st (g ds as) := rfl
def kMu1 (g : List D → List D → Option (D × List D)) (i : Nat) (as : List D) (st : Sl) : R D := kMu2 g i as st st[i]?
@[simp] theorem kMu1_eq {g : List D → List D → Option (D × List D)} {i : Nat} {as : List D} {st : Sl} : kMu1 g i as st = kMu2 g i as st st[i]? := rfl
def kMu0 (g : List D → List D → Option (D × List D)) (i : Nat) (ms : List E) (st : Sl) : Option Cell → R D
  | some (.o (.lst _)) => (evAll ms st).bind (kMu1 g i)
  | _ => .bad
@[simp] theorem kMu0_lst {g : List D → List D → Option (D × List D)} {i : Nat} {ms : List E} {ds : List D} {st : Sl} : kMu0 g i ms st (some (.o (.lst ds))) = (evAll ms st).bind (kMu1 g i) := rfl
@[simp] theorem eMut_eq {g : List D → List D → Option (D × List D)} {i : Nat} {ms : List E} {st : Sl} : eMut g i ms st = kMu0 g i ms st st[i]? := by
  unfold eMut kMu0
  cases st[i]? with
  | none => rfl
  | some c =>
    cases c with
    | n => rfl
    | f e => rfl
    | o e =>
      cases e with
      | lst ds =>
        show (evAll ms st).bind _ = (evAll ms st).bind _
        cases evAll ms st with
        | bad => rfl
        | exc a b s => rfl
        | ok as st1 =>
          show (match st1[i]? with
            | some (.o (.lst ds)) => (match g ds as with
              | some (d, ds') => R.ok d (st1.set i (.o (.lst ds')))
              | none => .bad)
            | _ => .bad) = kMu2 g i as st1 st1[i]?
          unfold kMu2
          cases st1[i]? with
          | none => rfl
          | some c =>
            cases c with
            | n => rfl
            | f e => rfl
            | o e =>
              cases e with
              | lst ds => show (match g ds as with | some (d, ds') => R.ok d (st1.set i (.o (.lst ds'))) | none => .bad) = kMuR i st1 (g ds as); cases g ds as <;> rfl
              | _ => rfl
      | _ => rfl
def kSp (is : List Nat) (as : List AV) (st : Sl) : R Fl := kSt (setAll is as st)
@[simp] theorem sPar_eq {is : List Nat} {ps : List Arg} {st : Sl} : sPar is ps st = (evArgs ps st).bind (kSp is) := by
  unfold sPar
  cases evArgs ps st with
  | bad => rfl
  | exc a b s => rfl
  | ok as st1 => show (match setAll is as st1 with | some st => R.ok Fl.nx st | none => .bad) = kSt (setAll is as st1); cases setAll is as st1 <;> rfl
@[simp] theorem kSp_eq {is : List Nat} {as : List AV} {st : Sl} : kSp is as st = kSt (setAll is as st) := rfl
@[simp] theorem setAll_nil {st : Sl} : setAll [] [] st = some st := rfl
@[simp] theorem setAll_d {i : Nat} {is : List Nat} {d : D} {as : List AV} {st : Sl} : setAll (i :: is) (.d d :: as) st = (setL i (.f d) st).bind (setAll is as) := by
  rw [setAll, setL_eq]
  cases st[i]? <;> rfl
@[simp] theorem setAll_o {i : Nat} {is : List Nat} {d : D} {as : List AV} {st : Sl} : setAll (i :: is) (.o d :: as) st = (setL i (.o d) st).bind (setAll is as) := by
  rw [setAll, setL_eq]
  cases st[i]? <;> rfl
end Ev
namespace Ev
open PySem PySem.Spec PyProof.Rows L2
def kI (d : D) (st : Sl) : R (Option Int) := match d with
  | .int i => .ok (some i) st
  | _ => .bad
@[simp] theorem kI_int {i : Int} {st : Sl} : kI (.int i) st = .ok (some i) st := rfl
@[simp] theorem evI_none {st : Sl} : evI none st = .ok none st := rfl
@[simp] theorem evI_some {m : E} {st : Sl} : evI (some m) st = (m st).bind kI := rfl
def kSc3 (g : D → Option Int → Option Int → Option D) (d : D) (l h : Option Int) (st : Sl) : R D := kRes st (g d l h)
@[simp] theorem kSc3_eq {g : D → Option Int → Option Int → Option D} {d : D} {l h : Option Int} {st : Sl} : kSc3 g d l h st = kRes st (g d l h) := rfl
def kSc2 (g : D → Option Int → Option Int → Option D) (hi : Option E) (d : D) (l : Option Int) (st : Sl) : R D := (evI hi st).bind (kSc3 g d l)
@[simp] theorem kSc2_eq {g : D → Option Int → Option Int → Option D} {hi : Option E} {d : D} {l : Option Int} {st : Sl} : kSc2 g hi d l st = (evI hi st).bind (kSc3 g d l) := rfl
def kSc1 (g : D → Option Int → Option Int → Option D) (lo hi : Option E) (d : D) (st : Sl) : R D := (evI lo st).bind (kSc2 g hi d)
@[simp] theorem kSc1_eq {g : D → Option Int → Option Int → Option D} {lo hi : Option E} {d : D} {st : Sl} : kSc1 g lo hi d st = (evI lo st).bind (kSc2 g hi d) := rfl
@[simp] theorem eSl_eq {g : D → Option Int → Option Int → Option D} {m : E} {lo hi : Option E} {st : Sl} : eSl g m lo hi st = (m st).bind (kSc1 g lo hi) := by
  unfold eSl
  cases m st with
  | bad => rfl
  | exc a b s => rfl
  | ok d st1 =>
    show (evI lo st1).bind _ = (evI lo st1).bind _
    cases evI lo st1 with
    | bad => rfl
    | exc a b s => rfl
    | ok l st2 =>
      show (evI hi st2).bind _ = (evI hi st2).bind _
      cases evI hi st2 with
      | bad => rfl
      | exc a b s => rfl
      | ok h st3 => show (match g d l h with | some d => R.ok d st3 | none => .bad) = kRes st3 (g d l h); cases g d l h <;> rfl
theorem gSl_take {ds : List D} {n : Nat} : gSl (.lst ds) none (some (n : Int)) = some (.lst (ds.take n)) := by
  show some (D.lst (cutD ds none (some (n : Int)))) = _
  unfold cutD
  rw [HT.sIx_none, HT.sIx_nat]
  simp [Nat.min_comm]
theorem gSl_drop {ds : List D} {n : Nat} : gSl (.lst ds) (some (n : Int)) none = some (.lst (ds.drop n)) := by
  show some (D.lst (cutD ds (some (n : Int)) none)) = _
  unfold cutD
  rw [HT.sIx_none, HT.sIx_nat]
  rcases Nat.le_total n ds.length with h | h
  · rw [Nat.min_eq_left h, List.take_of_length_le (by simp)]
  · rw [Nat.min_eq_right h, List.drop_eq_nil_of_le h, List.drop_eq_nil_of_le (Nat.le_refl _)]; simp
def kOF (g : List D → Option D) (ds : List D) (st : Sl) : R D := kRes st (g ds)
@[simp] theorem kOF_eq {g : List D → Option D} {ds : List D} {st : Sl} : kOF g ds st = kRes st (g ds) := rfl
@[simp] theorem eOpF_eq {g : List D → Option D} {ms : List E} {st : Sl} : eOpF g ms st = (evAll ms st).bind (kOF g) := by
  unfold eOpF
  cases evAll ms st with
  | bad => rfl
  | exc a b s => rfl
  | ok ds st1 => show (match g ds with | some d => R.ok d st1 | none => .bad) = kRes st1 (g ds); cases g ds <;> rfl
theorem gDun_of {tag : List D → Bool} {mf : MF} {ds : List D} {d : D} {cs : List Cell} (h : tag ds = true) (h2 : mf (ds.map .f) = .ok d cs) : gDun tag mf ds = some d := by
  unfold gDun
  simp only [h, h2]
theorem gLenO_of {c : Str} {mf : MF} {d : D} {n : Nat} {cs : List Cell} (h : isO c d = true) (h2 : mf [.f d] = .ok (.int n) cs) (hn : n < 2 ^ 60) : gLenO c mf [d] = some (.int n) := by
  unfold gLenO
  rw [gDun_of (d := .int n) (cs := cs) h h2]
  simp only
  rw [if_pos ⟨by omega, by omega⟩]
end Ev
namespace Ev
open PySem PySem.Spec PyProof.Rows L2
theorem lcL_fmA {α : Type} {vs : List Nat} {g : Tg} {c : B'} {el : E} {st : Sl} (F : α → D) (G : α → Option D) : ∀ {l : List α}, (∀ a ∈ l, lc1 vs g c el (F a) st = .ok (G a) st) → lcL vs g c el (l.map F) st = .ok (l.filterMap G) st
  | [], _ => rfl
  | a :: l, h => by
    have h1 := h a List.mem_cons_self
    have ih := lcL_fmA F G fun e m => h e (List.mem_cons_of_mem _ m)
    rw [List.map_cons]
    cases z : G a with
    | none => rw [z] at h1; rw [lcL_none h1, ih, List.filterMap_cons, z]
    | some x => rw [z] at h1; rw [lcL_some h1, ih, List.filterMap_cons, z]; rfl
theorem lcL_mapA {α : Type} {vs : List Nat} {g : Tg} {c : B'} {el : E} {st : Sl} (F G : α → D) {l : List α} (h : ∀ a ∈ l, lc1 vs g c el (F a) st = .ok (some (G a)) st) : lcL vs g c el (l.map F) st = .ok (l.map G) st := by
  rw [lcL_fmA F (fun a => some (G a)) h, List.filterMap_eq_map']
/-- some elements, as they are -/
theorem lcL_filA {α : Type} {vs : List Nat} {g : Tg} {c : B'} {el : E} {st : Sl} (F : α → D) (p : α → Bool) {l : List α} (h : ∀ a ∈ l, lc1 vs g c el (F a) st = .ok (if p a then some (F a) else none) st) : lcL vs g c el (l.map F) st = .ok ((l.filter p).map F) st := by
  rw [lcL_fmA F (fun a => if p a then some (F a) else none) h]
  congr 1
  induction l with
  | nil => rfl
  | cons a l ih =>
    rw [List.filterMap_cons, List.filter_cons, ih fun b m => h b (List.mem_cons_of_mem _ m)]
    cases p a <;> simp
theorem gNe_str {i j : Str} (h : PyData.strOk i = true) (h2 : PyData.strOk j = true) : gNe [.str i, .str j] = some (.bl (!(i == j))) := by
  show (if SeqAt.shaped (.str i) && SeqAt.shaped (.str j) then some (D.bl (!PyData.eqv (.str i) (.str j))) else none) = _
  simp [SeqAt.shaped, PyData.canLay0, PyData.depth, PyData.eqv, h, h2]
theorem gSl_lst1 {x : D} {xs : List D} : gSl (.lst (x :: xs)) (some 1) none = some (.lst xs) := by
  have := gSl_drop (ds := x :: xs) (n := 1)
  simpa using this
theorem gAll_mapA {α : Type} {f : α → Bool} {ns : List α} {F : α → D} (h : ∀ a ∈ ns, F a = .bl (f a)) : gAll [.lst (ns.map F)] = some (.bl (ns.all f)) := by
  rw [List.map_congr_left h]; exact gAll_map
theorem gLen_str {x : Str} (h : x.length ≤ sizeLine) : gLen [.str x] = some (.int x.length) := if_pos h
theorem gSl_str {x : Str} {lo hi : Option Int} (h : x.length ≤ sizeLine) : gSl (.str x) lo hi = some (.str (Txt.slice x lo hi)) := if_pos h
def kLr (d : D) (st : Sl) : R D := match d with
  | .int j => (match inR j && decide (j ≤ 2 ^ 24) with
    | true => .ok (.lst (rangeD 0 j.toNat)) st
    | false => .bad)
  | _ => .bad
@[simp] theorem eLr_eq {m : E} {st : Sl} : eLr m st = (m st).bind kLr := rfl
theorem kLr_int {j : Int} {st : Sl} (h : (inR j && decide (j ≤ 2 ^ 24)) = true) : kLr (.int j) st = .ok (.lst (rangeD 0 j.toNat)) st := by unfold kLr; simp only [h]
theorem le24 {j : Int} (h0 : 0 ≤ j) (h : j ≤ 1000) : (inR j && decide (j ≤ 2 ^ 24)) = true := by
  rw [inR_of (by omega) (by omega), decide_eq_true (by omega)]; rfl
theorem kLr_nat {n : Nat} {st : Sl} (h : n ≤ 1000) : kLr (.int n) st = .ok (.lst (rangeD 0 n)) st := kLr_int (le24 (by omega) (by omega))
end Ev
namespace Ev
open PySem PySem.Spec PyProof.Rows L2
/-- data that == takes: its form, its depth -/
structure PD (d : D) (p : PyData) (n : Nat) : Prop where
  to : toP d = some p
  lay : p.canLay0 = true
  dep : p.depth ≤ n
theorem PD.mono {d : D} {p : PyData} {n m : Nat} (h : PD d p n) (l : n ≤ m) : PD d p m := ⟨h.to, h.lay, Nat.le_trans h.dep l⟩
structure PDs (ds : List D) (ps : List PyData) (n : Nat) : Prop where
  to : toPs ds = some ps
  lay : PyData.canLayAll0 ps = true
  dep : PyData.depthAll ps ≤ n
theorem PDs.nil {n : Nat} : PDs [] [] n := ⟨rfl, rfl, Nat.zero_le _⟩
theorem PDs.cons {d : D} {p : PyData} {ds : List D} {ps : List PyData} {n : Nat} (h : PD d p n) (t : PDs ds ps n) : PDs (d :: ds) (p :: ps) n := by
  refine ⟨?_, ?_, ?_⟩
  · rw [toPs, h.to, t.to]
  · rw [PyData.canLayAll0, h.lay, t.lay]; rfl
  · rw [PyData.depthAll]; exact Nat.max_le.mpr ⟨h.dep, t.dep⟩
theorem PDs.map {α : Type} {F : α → D} {P : α → PyData} {n : Nat} : ∀ {l : List α}, (∀ a ∈ l, PD (F a) (P a) n) → PDs (l.map F) (l.map P) n
  | [], _ => .nil
  | a :: l, h => .cons (h a List.mem_cons_self) (PDs.map fun b m => h b (List.mem_cons_of_mem _ m))
theorem PD.int {i : Int} {n : Nat} : PD (.int i) (.int i) n := ⟨rfl, rfl, Nat.zero_le _⟩
theorem PD.non {n : Nat} : PD .non .none n := ⟨rfl, rfl, Nat.zero_le _⟩
theorem PD.bl {b : Bool} {n : Nat} : PD (.bl b) (.bool b) n := ⟨rfl, rfl, Nat.zero_le _⟩
theorem PD.str {x : Str} {n : Nat} (h : PyData.strOk x = true) : PD (.str x) (.str x) n := ⟨rfl, h, Nat.zero_le _⟩
theorem PD.tup {ds : List D} {ps : List PyData} {n : Nat} (h : PDs ds ps n) : PD (.tup ds) (.tuple ps) (n + 1) := ⟨by rw [toP, h.to]; rfl, h.lay, by show PyData.depthAll ps + 1 ≤ _; have := h.dep; omega⟩
theorem PD.lst {ds : List D} {ps : List PyData} {n : Nat} (h : PDs ds ps n) : PD (.lst ds) (.list ps) (n + 1) := ⟨by rw [toP, h.to]; rfl, h.lay, by show PyData.depthAll ps + 1 ≤ _; have := h.dep; omega⟩
theorem PDs.ints {ns : List Int} {n : Nat} : PDs (ns.map .int) (ns.map .int) n := .map fun _ _ => .int
theorem gEq_PD {d e : D} {p q : PyData} {n m : Nat} (h : PD d p n) (g : PD e q m) (hn : n ≤ 64) (hm : m ≤ 64) : gEq [d, e] = some (.bl (PyData.eqv p q)) := by
  show (match toP d, toP e with
    | some d, some e => if SeqAt.shaped d && SeqAt.shaped e then some (D.bl (PyData.eqv d e)) else none
    | _, _ => none) = _
  rw [h.to, g.to]
  have s1 : SeqAt.shaped p = true := by unfold SeqAt.shaped; rw [h.lay, decide_eq_true (Nat.le_trans h.dep hn)]; rfl
  have s2 : SeqAt.shaped q = true := by unfold SeqAt.shaped; rw [g.lay, decide_eq_true (Nat.le_trans g.dep hm)]; rfl
  simp only [s1, s2]; rfl
theorem gNe_PD {d e : D} {p q : PyData} {n m : Nat} (h : PD d p n) (g : PD e q m) (hn : n ≤ 64) (hm : m ≤ 64) : gNe [d, e] = some (.bl (!PyData.eqv p q)) := by
  show (match toP d, toP e with
    | some d, some e => if SeqAt.shaped d && SeqAt.shaped e then some (D.bl (!PyData.eqv d e)) else none
    | _, _ => none) = _
  rw [h.to, g.to]
  have s1 : SeqAt.shaped p = true := by unfold SeqAt.shaped; rw [h.lay, decide_eq_true (Nat.le_trans h.dep hn)]; rfl
  have s2 : SeqAt.shaped q = true := by unfold SeqAt.shaped; rw [g.lay, decide_eq_true (Nat.le_trans g.dep hm)]; rfl
  simp only [s1, s2]; rfl
theorem gIn_PD {neg : Bool} {d : D} {p : PyData} {es : List D} {qs : List PyData} {n m : Nat} (h : PD d p n) (g : PDs es qs m) (hn : n ≤ 64) (hm : m < 64) : gIn neg [d, .lst es] = some (.bl (neg != qs.any fun z => PyData.eqv z p)) := by
  have e : gIn neg [d, .lst es] = gInD neg [d, .lst es] := by cases d <;> rfl
  rw [e]
  show (match toP d, toP (.lst es) with
    | some d, some (.list ds) => if SeqAt.shaped d && SeqAt.shaped (.list ds) then some (D.bl (neg != ds.any fun z => PyData.eqv z d)) else none
    | _, _ => none) = _
  have gl := PD.lst g
  rw [h.to, gl.to]
  have s1 : SeqAt.shaped p = true := by unfold SeqAt.shaped; rw [h.lay, decide_eq_true (Nat.le_trans h.dep hn)]; rfl
  have s2 : SeqAt.shaped (.list qs) = true := by unfold SeqAt.shaped; rw [gl.lay, decide_eq_true (Nat.le_trans gl.dep (by omega))]; rfl
  simp only [s1, s2]; rfl
mutual
theorem eqv_self : ∀ p : PyData, p.canLay0 = true → PyData.eqv p p = true
  | .none, _ => rfl
  | .bool b, _ => by simp [PyData.eqv]
  | .int i, _ => by simp [PyData.eqv]
  | .str x, _ => by simp [PyData.eqv]
  | .list xs, h => by rw [PyData.eqv]; exact eqvAll_self xs h
  | .tuple xs, h => by rw [PyData.eqv]; exact eqvAll_self xs h
  | .dict _, h => by cases h
theorem eqvAll_self : ∀ ps : List PyData, PyData.canLayAll0 ps = true → PyData.eqvAll ps ps = true
  | [], _ => rfl
  | p :: ps, h => by
    rw [PyData.canLayAll0, Bool.and_eq_true] at h
    rw [PyData.eqvAll, eqv_self p h.1, eqvAll_self ps h.2]; rfl
end
theorem gEq_self {d : D} {p : PyData} {n : Nat} (h : PD d p n) (hn : n ≤ 64) : gEq [d, d] = some (.bl true) := by
  rw [gEq_PD h h hn hn, eqv_self p h.lay]
theorem gNe_self {d : D} {p : PyData} {n : Nat} (h : PD d p n) (hn : n ≤ 64) : gNe [d, d] = some (.bl false) := by
  rw [gNe_PD h h hn hn, eqv_self p h.lay]; rfl
end Ev
namespace Ev
open PySem PySem.Spec PyProof.Rows L2
def kC2w (vs : List Nat) (xs : List D) (st : Sl) : R (List D) := .ok xs (wipeS vs st)
def kC2i (vs vs1 : List Nat) (g1 : Tg) (c1 : B') (el : E) (items : List D) (st : Sl) : R (List D) := (lcL vs1 g1 c1 el items (wipeS vs1 st)).bind (kC2w vs)
def kC2b (vs vs1 : List Nat) (it1 : IE) (g1 : Tg) (c1 : B') (el : E) (b : Bool) (st : Sl) : R (List D) := match b with
  | true => (it1 st).bind (kC2i vs vs1 g1 c1 el)
  | false => .ok [] (wipeS vs st)
def kC2 (vs vs1 : List Nat) (c : B') (it1 : IE) (g1 : Tg) (c1 : B') (el : E) (_ : Unit) (st : Sl) : R (List D) := (c st).bind (kC2b vs vs1 it1 g1 c1 el)
def lc2 (vs vs1 : List Nat) (g : Tg) (c : B') (it1 : IE) (g1 : Tg) (c1 : B') (el : E) (d : D) (st : Sl) : R (List D) := (tgR (g d st)).bind (kC2 vs vs1 c it1 g1 c1 el)
section
variable {vs vs1 : List Nat} {g g1 : Tg} {c c1 : B'} {it it1 : IE} {el : E} {st : Sl}
@[simp] theorem kC2w_eq {xs : List D} : kC2w vs xs st = .ok xs (wipeS vs st) := rfl
@[simp] theorem kC2i_eq {items : List D} : kC2i vs vs1 g1 c1 el items st = (lcL vs1 g1 c1 el items (wipeS vs1 st)).bind (kC2w vs) := rfl
@[simp] theorem kC2b_t : kC2b vs vs1 it1 g1 c1 el true st = (it1 st).bind (kC2i vs vs1 g1 c1 el) := rfl
@[simp] theorem kC2b_f : kC2b vs vs1 it1 g1 c1 el false st = .ok [] (wipeS vs st) := rfl
@[simp] theorem kC2_eq {u : Unit} : kC2 vs vs1 c it1 g1 c1 el u st = (c st).bind (kC2b vs vs1 it1 g1 c1 el) := rfl
@[simp] theorem lc2_eq {d : D} : lc2 vs vs1 g c it1 g1 c1 el d st = (tgR (g d st)).bind (kC2 vs vs1 c it1 g1 c1 el) := rfl
theorem lcL2_of {d : D} {ds xs : List D} {st' : Sl} (h : lc2 vs vs1 g c it1 g1 c1 el d st = .ok xs st') : lcL2 vs vs1 g c it1 g1 c1 el (d :: ds) st = (lcL2 vs vs1 g c it1 g1 c1 el ds st').bind fun ys st => .ok (xs ++ ys) st := by
  unfold lc2 at h
  rw [lcL2]
  cases z : g d st with
  | none => simp [z, tgR, R.bind] at h
  | some st1 =>
    simp only [z, tgR, R.bind, kC2] at h ⊢
    cases z2 : c st1 with
    | bad => simp [z2, R.bind] at h
    | exc a b s => simp [z2, R.bind] at h
    | ok b st2 =>
      simp only [z2, R.bind, kC2b] at h ⊢
      cases b with
      | false =>
        simp only [R.ok.injEq] at h ⊢
        obtain ⟨rfl, rfl⟩ := h
        cases lcL2 vs vs1 g c it1 g1 c1 el ds (wipeS vs st2) <;> rfl
      | true =>
        simp only at h ⊢
        cases z3 : it1 st2 with
        | bad => simp [z3, R.bind] at h
        | exc a b s => simp [z3, R.bind] at h
        | ok items st3 =>
          simp only [z3, R.bind, kC2i] at h ⊢
          cases z4 : lcL vs1 g1 c1 el items (wipeS vs1 st3) with
          | bad => simp [z4, R.bind] at h
          | exc a b s => simp [z4, R.bind] at h
          | ok ys st4 =>
            simp only [z4, R.bind, kC2w, R.ok.injEq] at h ⊢
            obtain ⟨rfl, rfl⟩ := h
            rfl
theorem lcL2_flat {α : Type} (F : α → D) (G : α → List D) : ∀ {l : List α}, (∀ a ∈ l, lc2 vs vs1 g c it1 g1 c1 el (F a) st = .ok (G a) st) → lcL2 vs vs1 g c it1 g1 c1 el (l.map F) st = .ok (l.flatMap G) st
  | [], _ => rfl
  | a :: l, h => by
    rw [List.map_cons, lcL2_of (h a List.mem_cons_self), lcL2_flat F G fun b m => h b (List.mem_cons_of_mem _ m)]
    rfl
def kOkB (k : List D → Sl → R D) : R (List D) → R D
  | .ok xs st => k xs st
  | _ => .bad
@[simp] theorem kOkB_ok {k : List D → Sl → R D} {xs : List D} : kOkB k (.ok xs st) = k xs st := rfl
def kLc2F (vs vs1 : List Nat) (g : Tg) (c : B') (it1 : IE) (g1 : Tg) (c1 : B') (el : E) (items : List D) (st : Sl) : Bool → R D
  | true => kOkB (kLcB vs st) (lcL2 vs vs1 g c it1 g1 c1 el items (wipeS vs st))
  | false => .bad
@[simp] theorem kLc2F_t {items : List D} : kLc2F vs vs1 g c it1 g1 c1 el items st true = kOkB (kLcB vs st) (lcL2 vs vs1 g c it1 g1 c1 el items (wipeS vs st)) := rfl
def kLc2I (vs vs1 : List Nat) (g : Tg) (c : B') (it1 : IE) (g1 : Tg) (c1 : B') (el : E) (items : List D) (st : Sl) : R D := kLc2F vs vs1 g c it1 g1 c1 el items st (frozenAt st vs && decide (st.length ≤ 64))
@[simp] theorem kLc2I_eq {items : List D} : kLc2I vs vs1 g c it1 g1 c1 el items st = kLc2F vs vs1 g c it1 g1 c1 el items st (frozenAt st vs && decide (st.length ≤ 64)) := rfl
@[simp] theorem eLc2_eq : eLc2 vs vs1 it g c it1 g1 c1 el st = (it st).bind (kLc2I vs vs1 g c it1 g1 c1 el) := by
  unfold eLc2
  cases it st with
  | bad => rfl
  | exc a b s => rfl
  | ok items st1 =>
    show (match frozenAt st1 vs && decide (st1.length ≤ 64) with
      | true => (match lcL2 vs vs1 g c it1 g1 c1 el items (wipeS vs st1) with
        | .ok xs st' => if xs.length < sizeLine then R.ok (.lst xs) (backS st1 vs st') else .bad
        | _ => .bad)
      | false => .bad) = kLc2F vs vs1 g c it1 g1 c1 el items st1 (frozenAt st1 vs && decide (st1.length ≤ 64))
    cases frozenAt st1 vs && decide (st1.length ≤ 64) with
    | false => rfl
    | true =>
      show _ = kOkB (kLcB vs st1) (lcL2 vs vs1 g c it1 g1 c1 el items (wipeS vs st1))
      cases lcL2 vs vs1 g c it1 g1 c1 el items (wipeS vs st1) <;> rfl
end
def kR2b (d e : D) (st : Sl) : R (List D) := kR2 d e st
def kR2a (n : E) (d : D) (st : Sl) : R (List D) := (n st).bind (kR2b d)
@[simp] theorem kR2a_eq {n : E} {d : D} {st : Sl} : kR2a n d st = (n st).bind (kR2b d) := rfl
@[simp] theorem itR2_eq {m n : E} {st : Sl} : itR2 m n st = (m st).bind (kR2a n) := rfl
theorem kR2b_int {i j : Int} {st : Sl} (h : -(2 ^ 62) ≤ i ∧ i < 2 ^ 62) (h2 : -(2 ^ 62) ≤ j ∧ j < 2 ^ 62) : kR2b (.int i) (.int j) st = .ok (rangeD i (j - i).toNat) st := by
  show (match inR i && inR j with
    | true => R.ok (rangeD i (j - i).toNat) st
    | false => .bad) = _
  rw [inR_of h.1 h.2, inR_of h2.1 h2.2]; rfl
theorem eMutF_of {g : List D → List D → Option (D × List D)} {i : Nat} {f c : Str} {ns : List Str} {ds es es' as : List D} {ms : List E} {st st1 : Sl} {d : D} (h : st[i]? = some (.o (.obj c ns ds))) (h2 : lookF ns ds f = some (.lst es)) (h3 : evAll ms (st.set i .n) = .ok as st1) (h4 : st1[i]? = some .n) (h5 : g es as = some (d, es')) :
    eMutF g i f ms st = .ok d (st1.set i (.o (.obj c ns (putD f (.lst es') ns ds)))) := by
  unfold eMutF
  simp only [h, h2, h3, h4, h5]
theorem eIxH_of {i : Nat} {f c : Str} {ns : List Str} {ds es : List D} {st : Sl} {d : D} {k : Int} (h : st[i]? = some (.o (.obj c ns ds))) (ho : owf f = true) (h2 : lookF ns ds f = some (.lst es)) (h3 : L2.atI es k = some d) : eIxH i f k st = .ok d st := by
  unfold eIxH
  simp only [h, ho, h2, h3]
theorem eLcH_of {vs : List Nat} {en : Bool} {i : Nat} {f cn : Str} {g : Tg} {c : B'} {el : E} {ns : List Str} {ds es xs : List D} {st st' : Sl} (h : st[i]? = some (.o (.obj cn ns ds))) (ho : owf f = true) (h2 : lookF ns ds f = some (.lst es)) (hf : frozenAt (st.set i .n) vs = true) (hl : st.length ≤ 64)
    (h3 : lcL vs g c el (evH en es) (wipeS vs (st.set i .n)) = .ok xs st') (hx : xs.length < sizeLine) (h4 : (backS (st.set i .n) vs st')[i]? = some .n) : eLcH vs en i f g c el st = .ok (.lst xs) ((backS (st.set i .n) vs st').set i (.o (.obj cn ns ds))) := by
  unfold eLcH
  simp only [h, ho, h2]
  have e : (frozenAt (st.set i .n) vs && decide (st.length ≤ 64)) = true := by rw [hf, decide_eq_true hl]; rfl
  simp only [e, h3, if_pos hx, h4]
def kSfO (i : Nat) (f : Str) (d : D) (st : Sl) : Option Cell → Option Sl
  | some (.o (.obj c ns ds)) => (match d with
    | .lst _ => (match decide (ns.length < 1000), owf f with
      | true, true => some (st.set i (.o (.obj c (putN f ns) (putD f d ns ds))))
      | _, _ => none)
    | _ => none)
  | _ => none
def kAsO (i : Nat) (f : Str) (d : D) (st : Sl) : R Fl := kSt (setFldO i f d st)
@[simp] theorem kAsO_eq {i : Nat} {f : Str} {d : D} {st : Sl} : kAsO i f d st = kSt (setFldO i f d st) := rfl
@[simp] theorem sAsgO_eq {m : E} {i : Nat} {f : Str} {st : Sl} : sAsgO m i f st = (m st).bind (kAsO i f) := by
  unfold sAsgO
  cases m st with
  | bad => rfl
  | exc a b s => rfl
  | ok d st1 => show (match setFldO i f d st1 with | some st => R.ok Fl.nx st | none => .bad) = kSt (setFldO i f d st1); cases setFldO i f d st1 <;> rfl
def kMfD (n : Nat) : Out → Out
  | .ok d cs => .ok d (cs.take n)
  | .exc c x cs => .exc c x (cs.take n)
  | .bad => .bad
@[simp] theorem kMfD_ok {n : Nat} {d : D} {cs : List Cell} : kMfD n (.ok d cs) = .ok d (cs.take n) := rfl
@[simp] theorem mfD_eq {mf : MF} {dcs cs : List Cell} : mfD mf dcs cs = kMfD cs.length (mf (cs ++ dcs)) := by
  unfold mfD kMfD
  cases mf (cs ++ dcs) <;> rfl
end Ev
namespace Ev
open PySem PySem.Spec PyProof.Rows L2
@[simp] theorem R.bind_exc {α β : Type} {c : Str} {x : Option D} {st : Sl} {k : α → Sl → R β} : (R.exc c x st : R α).bind k = .exc c x st := rfl
@[simp] theorem kRunF_exc {P : List Nat} {np : Nat} {c : Str} {x : Option D} {st : Sl} : kRunF P np (.exc c x st) = .exc c x (keepF P 0 (st.take np)) := rfl
@[simp] theorem kOut_exc {as : List AV} {st : Sl} {c : Str} {x : Option D} {cs : List Cell} : kOut as st (.exc c x cs) = .exc c x (putAll as cs st) := rfl
def kRx (c : Str) (d : D) (st : Sl) : R Fl := .exc c (some d) st
@[simp] theorem kRx_eq {c : Str} {d : D} {st : Sl} : kRx c d st = .exc c (some d) st := rfl
@[simp] theorem sRaiseX_eq {c : Str} {m : E} {st : Sl} : sRaiseX c m st = (m st).bind (kRx c) := rfl
def kTry (c : Str) (h : S) : R Fl → R Fl
  | .exc c' x st' => (match c' == c with
    | true => h st'
    | false => .bad)
  | r => r
@[simp] theorem sTry_eq {b h : S} {c : Str} {st : Sl} : sTry b c h st = kTry c h (b st) := by
  unfold sTry kTry
  cases b st <;> rfl
@[simp] theorem kTry_ok {c : Str} {h : S} {f : Fl} {st : Sl} : kTry c h (.ok f st) = .ok f st := rfl
@[simp] theorem kTry_exc {c : Str} {h : S} {x : Option D} {st : Sl} : kTry c h (.exc c x st) = h st := by
  show (match c == c with | true => h st | false => .bad) = h st
  rw [beq_self_eq_true]
theorem forL_exc {g : Tg} {b : S} {d : D} {ds : List D} {st st' : Sl} {c : Str} {x : Option D} (h : fo1 g b d st = .exc c x st') : forL g b (d :: ds) st = .exc c x st' := by
  unfold fo1 at h
  rw [forL]
  cases z : g d st with
  | none => simp [z, tgR, R.bind] at h
  | some st1 =>
    simp only [z, tgR, R.bind, kFo1] at h ⊢
    simp only [h]
def kLi (ds : List D) (st : Sl) : R D := if ds.length ≤ 1000 then .ok (.lst ds) st else .bad
theorem kLi_eq {ds : List D} {st : Sl} (h : ds.length ≤ 1000) : kLi ds st = .ok (.lst ds) st := if_pos h
@[simp] theorem eLstI_eq {is : List Itm} {st : Sl} : eLstI is st = (evIt is st).bind kLi := rfl
def kI2 (d : D) (ds : List D) (st : Sl) : R (List D) := .ok (d :: ds) st
def kI2s (xs ds : List D) (st : Sl) : R (List D) := .ok (xs ++ ds) st
@[simp] theorem kI2_eq {d : D} {ds : List D} {st : Sl} : kI2 d ds st = .ok (d :: ds) st := rfl
@[simp] theorem kI2s_eq {xs ds : List D} {st : Sl} : kI2s xs ds st = .ok (xs ++ ds) st := rfl
def kIo (is : List Itm) (d : D) (st : Sl) : R (List D) := (evIt is st).bind (kI2 d)
def kIs (is : List Itm) (d : D) (st : Sl) : R (List D) := match d with
  | .lst xs => (evIt is st).bind (kI2s xs)
  | .tup xs => (evIt is st).bind (kI2s xs)
  | _ => .bad
@[simp] theorem kIo_eq {is : List Itm} {d : D} {st : Sl} : kIo is d st = (evIt is st).bind (kI2 d) := rfl
@[simp] theorem kIs_lst {is : List Itm} {xs : List D} {st : Sl} : kIs is (.lst xs) st = (evIt is st).bind (kI2s xs) := rfl
@[simp] theorem kIs_tup {is : List Itm} {xs : List D} {st : Sl} : kIs is (.tup xs) st = (evIt is st).bind (kI2s xs) := rfl
@[simp] theorem evIt_nil {st : Sl} : evIt [] st = .ok [] st := rfl
@[simp] theorem evIt_one {m : E} {is : List Itm} {st : Sl} : evIt (.one m :: is) st = (m st).bind (kIo is) := rfl
@[simp] theorem evIt_star {m : E} {is : List Itm} {st : Sl} : evIt (.star m :: is) st = (m st).bind (kIs is) := by
  exact congrArg (fun k => (m st).bind k) (funext fun d => funext fun st1 => by cases d <;> rfl)
end Ev
namespace K81
open PySem PySem.Spec PyProof.Rows L2 Ev
@[simp] theorem sf_sh0 {c : Str} {d : D} {st : Sl} : setFld 0 "held_base" d (.o (.obj c [] []) :: st) = some (.o (.obj c ["held_base"] [d]) :: st) := rfl
@[simp] theorem sf_sh1 {c : Str} {a0 d : D} {st : Sl} : setFld 0 "held_rows" d (.o (.obj c ["held_base"] [a0]) :: st) = some (.o (.obj c ["held_base", "held_rows"] [a0, d]) :: st) := rfl
@[simp] theorem sf_sh2 {c : Str} {a0 a1 d : D} {st : Sl} : setFld 0 "held_columns" d (.o (.obj c ["held_base", "held_rows"] [a0, a1]) :: st) = some (.o (.obj c ["held_base", "held_rows", "held_columns"] [a0, a1, d]) :: st) := rfl
@[simp] theorem sf_sh3 {c : Str} {a0 a1 a2 d : D} {st : Sl} : setFld 0 "size" d (.o (.obj c ["held_base", "held_rows", "held_columns"] [a0, a1, a2]) :: st) = some (.o (.obj c ["held_base", "held_rows", "held_columns", "size"] [a0, a1, a2, d]) :: st) := rfl
@[simp] theorem gf_sh0 {c : Str} {a0 a1 a2 a3 : D} : gFld "held_base" [.obj c ["held_base", "held_rows", "held_columns", "size"] [a0, a1, a2, a3]] = some a0 := rfl
@[simp] theorem gf_sh1 {c : Str} {a0 a1 a2 a3 : D} : gFld "held_rows" [.obj c ["held_base", "held_rows", "held_columns", "size"] [a0, a1, a2, a3]] = some a1 := rfl
@[simp] theorem gf_sh2 {c : Str} {a0 a1 a2 a3 : D} : gFld "held_columns" [.obj c ["held_base", "held_rows", "held_columns", "size"] [a0, a1, a2, a3]] = some a2 := rfl
@[simp] theorem gf_sh3 {c : Str} {a0 a1 a2 a3 : D} : gFld "size" [.obj c ["held_base", "held_rows", "held_columns", "size"] [a0, a1, a2, a3]] = some a3 := rfl

@[simp] theorem sf_wr0 {c : Str} {d : D} {st : Sl} : setFld 0 "held_base" d (.o (.obj c [] []) :: st) = some (.o (.obj c ["held_base"] [d]) :: st) := rfl
@[simp] theorem sf_wr1 {c : Str} {a0 d : D} {st : Sl} : setFld 0 "held_figures" d (.o (.obj c ["held_base"] [a0]) :: st) = some (.o (.obj c ["held_base", "held_figures"] [a0, d]) :: st) := rfl
@[simp] theorem sf_wr2 {c : Str} {a0 a1 d : D} {st : Sl} : setFld 0 "held_last" d (.o (.obj c ["held_base", "held_figures"] [a0, a1]) :: st) = some (.o (.obj c ["held_base", "held_figures", "held_last"] [a0, a1, d]) :: st) := rfl
@[simp] theorem gf_wr0 {c : Str} {a0 a1 a2 : D} : gFld "held_base" [.obj c ["held_base", "held_figures", "held_last"] [a0, a1, a2]] = some a0 := rfl
@[simp] theorem gf_wr1 {c : Str} {a0 a1 a2 : D} : gFld "held_figures" [.obj c ["held_base", "held_figures", "held_last"] [a0, a1, a2]] = some a1 := rfl
@[simp] theorem gf_wr2 {c : Str} {a0 a1 a2 : D} : gFld "held_last" [.obj c ["held_base", "held_figures", "held_last"] [a0, a1, a2]] = some a2 := rfl

@[simp] theorem sf_ad0 {c : Str} {d : D} {st : Sl} : setFld 0 "system" d (.o (.obj c [] []) :: st) = some (.o (.obj c ["system"] [d]) :: st) := rfl
@[simp] theorem sf_ad1 {c : Str} {a0 d : D} {st : Sl} : setFld 0 "given" d (.o (.obj c ["system"] [a0]) :: st) = some (.o (.obj c ["system", "given"] [a0, d]) :: st) := rfl
@[simp] theorem sf_ad2 {c : Str} {a0 a1 d : D} {st : Sl} : setFld 0 "at" d (.o (.obj c ["system", "given"] [a0, a1]) :: st) = some (.o (.obj c ["system", "given", "at"] [a0, a1, d]) :: st) := rfl
@[simp] theorem sf_ad3 {c : Str} {a0 a1 a2 d : D} {st : Sl} : setFld 0 "written" d (.o (.obj c ["system", "given", "at"] [a0, a1, a2]) :: st) = some (.o (.obj c ["system", "given", "at", "written"] [a0, a1, a2, d]) :: st) := rfl
@[simp] theorem sf_ad4 {c : Str} {a0 a1 a2 a3 d : D} {st : Sl} : setFld 0 "carry" d (.o (.obj c ["system", "given", "at", "written"] [a0, a1, a2, a3]) :: st) = some (.o (.obj c ["system", "given", "at", "written", "carry"] [a0, a1, a2, a3, d]) :: st) := rfl
@[simp] theorem sf_ad5 {c : Str} {a0 a1 a2 a3 a4 d : D} {st : Sl} : setFld 0 "waiting" d (.o (.obj c ["system", "given", "at", "written", "carry"] [a0, a1, a2, a3, a4]) :: st) = some (.o (.obj c ["system", "given", "at", "written", "carry", "waiting"] [a0, a1, a2, a3, a4, d]) :: st) := rfl
@[simp] theorem su_ad0 {c : Str} {a0 a1 a2 a3 a4 a5 d : D} {st : Sl} : setFld 0 "system" d (.o (.obj c ["system", "given", "at", "written", "carry", "waiting"] [a0, a1, a2, a3, a4, a5]) :: st) = some (.o (.obj c ["system", "given", "at", "written", "carry", "waiting"] [d, a1, a2, a3, a4, a5]) :: st) := rfl
@[simp] theorem gf_ad0 {c : Str} {a0 a1 a2 a3 a4 a5 : D} : gFld "system" [.obj c ["system", "given", "at", "written", "carry", "waiting"] [a0, a1, a2, a3, a4, a5]] = some a0 := rfl
@[simp] theorem su_ad1 {c : Str} {a0 a1 a2 a3 a4 a5 d : D} {st : Sl} : setFld 0 "given" d (.o (.obj c ["system", "given", "at", "written", "carry", "waiting"] [a0, a1, a2, a3, a4, a5]) :: st) = some (.o (.obj c ["system", "given", "at", "written", "carry", "waiting"] [a0, d, a2, a3, a4, a5]) :: st) := rfl
@[simp] theorem gf_ad1 {c : Str} {a0 a1 a2 a3 a4 a5 : D} : gFld "given" [.obj c ["system", "given", "at", "written", "carry", "waiting"] [a0, a1, a2, a3, a4, a5]] = some a1 := rfl
@[simp] theorem su_ad2 {c : Str} {a0 a1 a2 a3 a4 a5 d : D} {st : Sl} : setFld 0 "at" d (.o (.obj c ["system", "given", "at", "written", "carry", "waiting"] [a0, a1, a2, a3, a4, a5]) :: st) = some (.o (.obj c ["system", "given", "at", "written", "carry", "waiting"] [a0, a1, d, a3, a4, a5]) :: st) := rfl
@[simp] theorem gf_ad2 {c : Str} {a0 a1 a2 a3 a4 a5 : D} : gFld "at" [.obj c ["system", "given", "at", "written", "carry", "waiting"] [a0, a1, a2, a3, a4, a5]] = some a2 := rfl
@[simp] theorem su_ad3 {c : Str} {a0 a1 a2 a3 a4 a5 d : D} {st : Sl} : setFld 0 "written" d (.o (.obj c ["system", "given", "at", "written", "carry", "waiting"] [a0, a1, a2, a3, a4, a5]) :: st) = some (.o (.obj c ["system", "given", "at", "written", "carry", "waiting"] [a0, a1, a2, d, a4, a5]) :: st) := rfl
@[simp] theorem gf_ad3 {c : Str} {a0 a1 a2 a3 a4 a5 : D} : gFld "written" [.obj c ["system", "given", "at", "written", "carry", "waiting"] [a0, a1, a2, a3, a4, a5]] = some a3 := rfl
@[simp] theorem su_ad4 {c : Str} {a0 a1 a2 a3 a4 a5 d : D} {st : Sl} : setFld 0 "carry" d (.o (.obj c ["system", "given", "at", "written", "carry", "waiting"] [a0, a1, a2, a3, a4, a5]) :: st) = some (.o (.obj c ["system", "given", "at", "written", "carry", "waiting"] [a0, a1, a2, a3, d, a5]) :: st) := rfl
@[simp] theorem gf_ad4 {c : Str} {a0 a1 a2 a3 a4 a5 : D} : gFld "carry" [.obj c ["system", "given", "at", "written", "carry", "waiting"] [a0, a1, a2, a3, a4, a5]] = some a4 := rfl
@[simp] theorem su_ad5 {c : Str} {a0 a1 a2 a3 a4 a5 d : D} {st : Sl} : setFld 0 "waiting" d (.o (.obj c ["system", "given", "at", "written", "carry", "waiting"] [a0, a1, a2, a3, a4, a5]) :: st) = some (.o (.obj c ["system", "given", "at", "written", "carry", "waiting"] [a0, a1, a2, a3, a4, d]) :: st) := rfl
@[simp] theorem gf_ad5 {c : Str} {a0 a1 a2 a3 a4 a5 : D} : gFld "waiting" [.obj c ["system", "given", "at", "written", "carry", "waiting"] [a0, a1, a2, a3, a4, a5]] = some a5 := rfl

theorem so_out : PyData.strOk "out" = true := by decide +kernel
theorem so_copy : PyData.strOk "copy" = true := by decide +kernel
theorem so_forget : PyData.strOk "forget" = true := by decide +kernel
theorem so_again : PyData.strOk "again" = true := by decide +kernel
theorem so_off : PyData.strOk "off" = true := by decide +kernel
theorem so_swap : PyData.strOk "swap" = true := by decide +kernel
theorem so_twice : PyData.strOk "twice" = true := by decide +kernel
theorem so_read : PyData.strOk "read" = true := by decide +kernel
@[simp] theorem eq_out_out : gEq [.str "out", .str "out"] = some (.bl true) := by rw [gEq_str so_out so_out]; rfl
@[simp] theorem eq_out_copy : gEq [.str "out", .str "copy"] = some (.bl false) := by rw [gEq_str so_out so_copy]; rfl
@[simp] theorem eq_out_forget : gEq [.str "out", .str "forget"] = some (.bl false) := by rw [gEq_str so_out so_forget]; rfl
@[simp] theorem eq_out_again : gEq [.str "out", .str "again"] = some (.bl false) := by rw [gEq_str so_out so_again]; rfl
@[simp] theorem eq_out_off : gEq [.str "out", .str "off"] = some (.bl false) := by rw [gEq_str so_out so_off]; rfl
@[simp] theorem eq_out_swap : gEq [.str "out", .str "swap"] = some (.bl false) := by rw [gEq_str so_out so_swap]; rfl
@[simp] theorem eq_out_twice : gEq [.str "out", .str "twice"] = some (.bl false) := by rw [gEq_str so_out so_twice]; rfl
@[simp] theorem eq_out_read : gEq [.str "out", .str "read"] = some (.bl false) := by rw [gEq_str so_out so_read]; rfl
@[simp] theorem eq_copy_out : gEq [.str "copy", .str "out"] = some (.bl false) := by rw [gEq_str so_copy so_out]; rfl
@[simp] theorem eq_copy_copy : gEq [.str "copy", .str "copy"] = some (.bl true) := by rw [gEq_str so_copy so_copy]; rfl
@[simp] theorem eq_copy_forget : gEq [.str "copy", .str "forget"] = some (.bl false) := by rw [gEq_str so_copy so_forget]; rfl
@[simp] theorem eq_copy_again : gEq [.str "copy", .str "again"] = some (.bl false) := by rw [gEq_str so_copy so_again]; rfl
@[simp] theorem eq_copy_off : gEq [.str "copy", .str "off"] = some (.bl false) := by rw [gEq_str so_copy so_off]; rfl
@[simp] theorem eq_copy_swap : gEq [.str "copy", .str "swap"] = some (.bl false) := by rw [gEq_str so_copy so_swap]; rfl
@[simp] theorem eq_copy_twice : gEq [.str "copy", .str "twice"] = some (.bl false) := by rw [gEq_str so_copy so_twice]; rfl
@[simp] theorem eq_copy_read : gEq [.str "copy", .str "read"] = some (.bl false) := by rw [gEq_str so_copy so_read]; rfl
@[simp] theorem eq_forget_out : gEq [.str "forget", .str "out"] = some (.bl false) := by rw [gEq_str so_forget so_out]; rfl
@[simp] theorem eq_forget_copy : gEq [.str "forget", .str "copy"] = some (.bl false) := by rw [gEq_str so_forget so_copy]; rfl
@[simp] theorem eq_forget_forget : gEq [.str "forget", .str "forget"] = some (.bl true) := by rw [gEq_str so_forget so_forget]; rfl
@[simp] theorem eq_forget_again : gEq [.str "forget", .str "again"] = some (.bl false) := by rw [gEq_str so_forget so_again]; rfl
@[simp] theorem eq_forget_off : gEq [.str "forget", .str "off"] = some (.bl false) := by rw [gEq_str so_forget so_off]; rfl
@[simp] theorem eq_forget_swap : gEq [.str "forget", .str "swap"] = some (.bl false) := by rw [gEq_str so_forget so_swap]; rfl
@[simp] theorem eq_forget_twice : gEq [.str "forget", .str "twice"] = some (.bl false) := by rw [gEq_str so_forget so_twice]; rfl
@[simp] theorem eq_forget_read : gEq [.str "forget", .str "read"] = some (.bl false) := by rw [gEq_str so_forget so_read]; rfl
@[simp] theorem eq_again_out : gEq [.str "again", .str "out"] = some (.bl false) := by rw [gEq_str so_again so_out]; rfl
@[simp] theorem eq_again_copy : gEq [.str "again", .str "copy"] = some (.bl false) := by rw [gEq_str so_again so_copy]; rfl
@[simp] theorem eq_again_forget : gEq [.str "again", .str "forget"] = some (.bl false) := by rw [gEq_str so_again so_forget]; rfl
@[simp] theorem eq_again_again : gEq [.str "again", .str "again"] = some (.bl true) := by rw [gEq_str so_again so_again]; rfl
@[simp] theorem eq_again_off : gEq [.str "again", .str "off"] = some (.bl false) := by rw [gEq_str so_again so_off]; rfl
@[simp] theorem eq_again_swap : gEq [.str "again", .str "swap"] = some (.bl false) := by rw [gEq_str so_again so_swap]; rfl
@[simp] theorem eq_again_twice : gEq [.str "again", .str "twice"] = some (.bl false) := by rw [gEq_str so_again so_twice]; rfl
@[simp] theorem eq_again_read : gEq [.str "again", .str "read"] = some (.bl false) := by rw [gEq_str so_again so_read]; rfl
@[simp] theorem eq_off_out : gEq [.str "off", .str "out"] = some (.bl false) := by rw [gEq_str so_off so_out]; rfl
@[simp] theorem eq_off_copy : gEq [.str "off", .str "copy"] = some (.bl false) := by rw [gEq_str so_off so_copy]; rfl
@[simp] theorem eq_off_forget : gEq [.str "off", .str "forget"] = some (.bl false) := by rw [gEq_str so_off so_forget]; rfl
@[simp] theorem eq_off_again : gEq [.str "off", .str "again"] = some (.bl false) := by rw [gEq_str so_off so_again]; rfl
@[simp] theorem eq_off_off : gEq [.str "off", .str "off"] = some (.bl true) := by rw [gEq_str so_off so_off]; rfl
@[simp] theorem eq_off_swap : gEq [.str "off", .str "swap"] = some (.bl false) := by rw [gEq_str so_off so_swap]; rfl
@[simp] theorem eq_off_twice : gEq [.str "off", .str "twice"] = some (.bl false) := by rw [gEq_str so_off so_twice]; rfl
@[simp] theorem eq_off_read : gEq [.str "off", .str "read"] = some (.bl false) := by rw [gEq_str so_off so_read]; rfl
@[simp] theorem eq_swap_out : gEq [.str "swap", .str "out"] = some (.bl false) := by rw [gEq_str so_swap so_out]; rfl
@[simp] theorem eq_swap_copy : gEq [.str "swap", .str "copy"] = some (.bl false) := by rw [gEq_str so_swap so_copy]; rfl
@[simp] theorem eq_swap_forget : gEq [.str "swap", .str "forget"] = some (.bl false) := by rw [gEq_str so_swap so_forget]; rfl
@[simp] theorem eq_swap_again : gEq [.str "swap", .str "again"] = some (.bl false) := by rw [gEq_str so_swap so_again]; rfl
@[simp] theorem eq_swap_off : gEq [.str "swap", .str "off"] = some (.bl false) := by rw [gEq_str so_swap so_off]; rfl
@[simp] theorem eq_swap_swap : gEq [.str "swap", .str "swap"] = some (.bl true) := by rw [gEq_str so_swap so_swap]; rfl
@[simp] theorem eq_swap_twice : gEq [.str "swap", .str "twice"] = some (.bl false) := by rw [gEq_str so_swap so_twice]; rfl
@[simp] theorem eq_swap_read : gEq [.str "swap", .str "read"] = some (.bl false) := by rw [gEq_str so_swap so_read]; rfl
@[simp] theorem eq_twice_out : gEq [.str "twice", .str "out"] = some (.bl false) := by rw [gEq_str so_twice so_out]; rfl
@[simp] theorem eq_twice_copy : gEq [.str "twice", .str "copy"] = some (.bl false) := by rw [gEq_str so_twice so_copy]; rfl
@[simp] theorem eq_twice_forget : gEq [.str "twice", .str "forget"] = some (.bl false) := by rw [gEq_str so_twice so_forget]; rfl
@[simp] theorem eq_twice_again : gEq [.str "twice", .str "again"] = some (.bl false) := by rw [gEq_str so_twice so_again]; rfl
@[simp] theorem eq_twice_off : gEq [.str "twice", .str "off"] = some (.bl false) := by rw [gEq_str so_twice so_off]; rfl
@[simp] theorem eq_twice_swap : gEq [.str "twice", .str "swap"] = some (.bl false) := by rw [gEq_str so_twice so_swap]; rfl
@[simp] theorem eq_twice_twice : gEq [.str "twice", .str "twice"] = some (.bl true) := by rw [gEq_str so_twice so_twice]; rfl
@[simp] theorem eq_twice_read : gEq [.str "twice", .str "read"] = some (.bl false) := by rw [gEq_str so_twice so_read]; rfl
@[simp] theorem eq_read_out : gEq [.str "read", .str "out"] = some (.bl false) := by rw [gEq_str so_read so_out]; rfl
@[simp] theorem eq_read_copy : gEq [.str "read", .str "copy"] = some (.bl false) := by rw [gEq_str so_read so_copy]; rfl
@[simp] theorem eq_read_forget : gEq [.str "read", .str "forget"] = some (.bl false) := by rw [gEq_str so_read so_forget]; rfl
@[simp] theorem eq_read_again : gEq [.str "read", .str "again"] = some (.bl false) := by rw [gEq_str so_read so_again]; rfl
@[simp] theorem eq_read_off : gEq [.str "read", .str "off"] = some (.bl false) := by rw [gEq_str so_read so_off]; rfl
@[simp] theorem eq_read_swap : gEq [.str "read", .str "swap"] = some (.bl false) := by rw [gEq_str so_read so_swap]; rfl
@[simp] theorem eq_read_twice : gEq [.str "read", .str "twice"] = some (.bl false) := by rw [gEq_str so_read so_twice]; rfl
@[simp] theorem eq_read_read : gEq [.str "read", .str "read"] = some (.bl true) := by rw [gEq_str so_read so_read]; rfl
@[simp] theorem eq_non_out : gEq [.non, .str "out"] = some (.bl false) := gEq_nons so_out
@[simp] theorem eq_non_copy : gEq [.non, .str "copy"] = some (.bl false) := gEq_nons so_copy
@[simp] theorem eq_non_forget : gEq [.non, .str "forget"] = some (.bl false) := gEq_nons so_forget
@[simp] theorem eq_non_again : gEq [.non, .str "again"] = some (.bl false) := gEq_nons so_again
@[simp] theorem eq_non_off : gEq [.non, .str "off"] = some (.bl false) := gEq_nons so_off
@[simp] theorem eq_non_swap : gEq [.non, .str "swap"] = some (.bl false) := gEq_nons so_swap
@[simp] theorem eq_non_twice : gEq [.non, .str "twice"] = some (.bl false) := gEq_nons so_twice
@[simp] theorem eq_non_read : gEq [.non, .str "read"] = some (.bl false) := gEq_nons so_read
@[simp] theorem inRc_out : gIn true [.str "out", .tup [.str "read", .str "copy"]] = some (.bl true) := rfl
@[simp] theorem inRc_copy : gIn true [.str "copy", .tup [.str "read", .str "copy"]] = some (.bl false) := rfl
@[simp] theorem inRc_forget : gIn true [.str "forget", .tup [.str "read", .str "copy"]] = some (.bl true) := rfl
@[simp] theorem inRc_again : gIn true [.str "again", .tup [.str "read", .str "copy"]] = some (.bl true) := rfl
@[simp] theorem inRc_off : gIn true [.str "off", .tup [.str "read", .str "copy"]] = some (.bl true) := rfl
@[simp] theorem inRc_swap : gIn true [.str "swap", .tup [.str "read", .str "copy"]] = some (.bl true) := rfl
@[simp] theorem inRc_twice : gIn true [.str "twice", .tup [.str "read", .str "copy"]] = some (.bl true) := rfl
@[simp] theorem inRc_read : gIn true [.str "read", .tup [.str "read", .str "copy"]] = some (.bl false) := rfl
end K81
namespace K81
open PySem PySem.Spec PyProof.Rows L2 Ev
@[simp] theorem isInt_int {i : Int} : f_p_is_integer [.f (.int i)] = .ok (.bl true) [.n] := by
  rw [f_p_is_integer, runF_eq (by rfl)]
  simp [b_p_is_integer]
/-- a column -/
def col (c : List Int) : D := .tup (c.map .int)
def ColOk (b r : Nat) (c : List Int) : Prop := c.length = r ∧ ∀ d ∈ c, 0 ≤ d ∧ d < (b : Int)
theorem isCol {b r : Nat} {c : List Int} (h : ColOk b r c) (hr : r < 1000) : f_p_is_column [.f (.tup (c.map .int)), .f (.int b), .f (.int r)] = .ok (.bl true) [.n, .n, .n] := by
  rw [f_p_is_column, runF_eq (by rfl)]
  have e : lcL [3] (tgN 3) mYes (eAnd (eCall f_p_is_integer [(.e (eV 3))]) (eChn gLe gLt (eC (.int 0)) (eV 3) (eV 1))) (c.map .int) [.f (.tup (c.map .int)), .f (.int b), .f (.int r), .n] = .ok ((c.map D.int).map fun _ => .bl true) [.f (.tup (c.map .int)), .f (.int b), .f (.int r), .n] := by
    refine lcL_map _ fun d m => ?_
    obtain ⟨i, mi, rfl⟩ := List.mem_map.mp m
    simp -implicitDefEqProofs [-R.bind, h.2 i mi]
  have l : ((c.map D.int).map fun _ => D.bl true).length < sizeLine := by simp [h.1]; exact Nat.lt_trans hr (by decide)
  have g : gAll [.lst ((c.map D.int).map fun _ => .bl true)] = some (.bl true) := gAll_true
  simp -implicitDefEqProofs [-R.bind, -List.map_map, b_p_is_column, h.1, e, kLcB_eq l, g]
def dcol (c : List Int) : D := .tup (c.map .int)
def dSheet (b r : Nat) (cs : List (List Int)) : D := .obj "Sheet" ["held_base", "held_rows", "held_columns", "size"] [.int b, .int r, .lst (cs.map dcol), .int cs.length]
/-- a valid sheet -/
structure ShOk (b r : Nat) (cs : List (List Int)) : Prop where
  b2 : 2 ≤ b
  b12 : b ≤ 12
  r1 : 1 ≤ r
  r4 : r ≤ 4
  len : cs.length < 1000
  cols : ∀ c ∈ cs, ColOk b r c
theorem sheet_init {b r : Nat} {cs : List (List Int)} (h : ShOk b r cs) : f_m_Sheet_zinitz [.o (.obj "Sheet" [] []), .f (.int b), .f (.int r), .f (.lst (cs.map dcol))] = .ok .non [.o (dSheet b r cs), .n, .n, .n] := by
  rw [f_m_Sheet_zinitz, runF_eq (by rfl)]
  obtain ⟨b2, b12, r1, r4, len, hc⟩ := h
  have e : lcL [4] (tgN 4) mYes (eCall f_p_is_column [(.e (eV 4)), (.e (eV 1)), (.e (eV 2))]) (cs.map dcol) [.o (.obj "Sheet" [] []), .f (.int b), .f (.int r), .f (.lst (cs.map dcol)), .n] = .ok ((cs.map dcol).map fun _ => .bl true) [.o (.obj "Sheet" [] []), .f (.int b), .f (.int r), .f (.lst (cs.map dcol)), .n] := by
    refine lcL_map _ fun d m => ?_
    obtain ⟨c, mi, rfl⟩ := List.mem_map.mp m
    have := isCol (hc c mi) (by omega)
    simp -implicitDefEqProofs [-R.bind, dcol, this]
  have l : ((cs.map dcol).map fun _ => D.bl true).length < sizeLine := by simp; exact Nat.lt_trans len (by decide)
  have g : gAll [.lst ((cs.map dcol).map fun _ => .bl true)] = some (.bl true) := gAll_true
  have b2' : (2 : Int) ≤ b := by omega
  have b12' : (b : Int) ≤ 12 := by omega
  have r1' : (1 : Int) ≤ r := by omega
  have r4' : (r : Int) ≤ 4 := by omega
  simp -implicitDefEqProofs [-R.bind, -List.map_map, b_m_Sheet_zinitz, b2', b12', r1', r4', e, kLcB_eq l, g]
  simp [dSheet]
section
variable {b r : Nat} {cs : List (List Int)}
@[simp] theorem sh_base : f_m_Sheet_base [.f (dSheet b r cs)] = .ok (.int b) [.n] := by
  rw [f_m_Sheet_base, runF_eq (by rfl)]; simp -implicitDefEqProofs [-R.bind, b_m_Sheet_base, dSheet]
@[simp] theorem sh_rows : f_m_Sheet_rows [.f (dSheet b r cs)] = .ok (.int r) [.n] := by
  rw [f_m_Sheet_rows, runF_eq (by rfl)]; simp -implicitDefEqProofs [-R.bind, b_m_Sheet_rows, dSheet]
@[simp] theorem sh_columns : f_m_Sheet_columns [.f (dSheet b r cs)] = .ok (.lst (cs.map dcol)) [.n] := by
  rw [f_m_Sheet_columns, runF_eq (by rfl)]; simp -implicitDefEqProofs [-R.bind, b_m_Sheet_columns, dSheet]
@[simp] theorem sh_len : f_m_Sheet_zlenz [.f (dSheet b r cs)] = .ok (.int cs.length) [.n] := by
  rw [f_m_Sheet_zlenz, runF_eq (by rfl)]; simp -implicitDefEqProofs [-R.bind, b_m_Sheet_zlenz, dSheet]
@[simp] theorem sh_cls {st : Sl} {c : Str} : clsAV c (.d (dSheet b r cs)) st = ("Sheet" == c) := rfl
/-- Horner's value -/
def valF (b : Int) (ds : List Int) (last : Int) : Int := ds.foldr (fun d v => v * b + d) last
def valS (b : Int) (cs : List (List Int)) : Int := valF b (cs.map List.sum) 0
end
theorem atI_0 {α : Type} {x : α} {xs : List α} : L2.atI (x :: xs) 0 = some x := by simp [L2.atI, L2.ixN]
theorem atI_1 {α : Type} {x y : α} {xs : List α} : L2.atI (x :: y :: xs) 1 = some y := by
  unfold L2.atI L2.ixN
  rw [if_pos (by decide), if_pos (by simp only [List.length_cons]; omega)]
  rfl
theorem atI_2 {α : Type} {x y z : α} {xs : List α} : L2.atI (x :: y :: z :: xs) 2 = some z := by
  unfold L2.atI L2.ixN
  rw [if_pos (by decide), if_pos (by simp only [List.length_cons]; omega)]
  rfl
theorem atI_nat {α : Type} {xs : List α} {n : Nat} : L2.atI xs (n : Int) = xs[n]? := by
  unfold L2.atI L2.ixN
  rw [if_pos (by omega)]
  by_cases h : n < xs.length
  · rw [if_pos (by omega)]; simp
  · rw [if_neg (by omega)]; simp; omega
theorem szl {n : Nat} (h : n < 10000) : n < sizeLine := Nat.lt_trans h (by decide)
theorem gSl_tup1 {x : D} {xs : List D} : gSl (.tup (x :: xs)) (some 1) none = some (.tup xs) := by
  show some (D.tup (Ev.cutD (x :: xs) (some ((1 : Nat) : Int)) none)) = _
  unfold Ev.cutD
  rw [HT.sIx_none, HT.sIx_nat]
  have : min 1 (x :: xs).length = 1 := by simp
  rw [this, List.drop_succ_cons, List.drop_zero, List.take_of_length_le (by simp)]
end K81
namespace K81
open PySem PySem.Spec PyProof.Rows L2 Ev
inductive Dg where
  | forget | again | off (d : Nat) | read (j d : Nat) | copy (j : Nat) | swap | out | twice
  deriving DecidableEq
def Dg.w : Dg → Str
  | .forget => "forget" | .again => "again" | .off _ => "off" | .read _ _ => "read" | .copy _ => "copy" | .swap => "swap" | .out => "out" | .twice => "twice"
def Dg.a : Dg → List Int
  | .off d => [d] | .read j d => [j, d] | .copy j => [j] | _ => []
def Dg.d (x : Dg) : D := .tup (.str x.w :: x.a.map .int)
def Dg.p (x : Dg) : PyData := .tuple (.str x.w :: x.a.map .int)
def Dg.Ok (b r : Nat) : Dg → Prop
  | .off d => 1 ≤ d ∧ d < b | .read j d => j < r ∧ 1 ≤ d ∧ d < b | .copy j => j < r | _ => True
theorem Dg.w_ok (x : Dg) : PyData.strOk x.w = true := by cases x <;> (simp only [Dg.w]; decide +kernel)
theorem Dg.pd (x : Dg) : PD x.d x.p 1 := .tup (.cons (.str x.w_ok) .ints)
theorem Dg.eqv (x y : Dg) : PyData.eqv x.p y.p = decide (x = y) := by
  unfold Dg.p
  rw [PyData.eqv, PyData.eqvAll, PyData.eqv, eqv_ints]
  have key : (x.w == y.w && x.a == y.a) = true ↔ x = y := by
    rw [Bool.and_eq_true, beq_iff_eq, beq_iff_eq]
    refine ⟨fun ⟨h1, h2⟩ => ?_, fun h => by rw [h]; exact ⟨rfl, rfl⟩⟩
    cases x <;> cases y <;> first
      | rfl
      | (exfalso; revert h1; simp only [Dg.w]; decide +kernel)
      | (simp [Dg.a] at h2; simp; omega)
  by_cases h : x = y
  · rw [decide_eq_true h]; exact key.mpr h
  · rw [decide_eq_false h]
    cases z : (x.w == y.w && x.a == y.a) with
    | false => rfl
    | true => exact absurd (key.mp z) h
theorem gEq_dg (x y : Dg) : gEq [x.d, y.d] = some (.bl (decide (x = y))) := by rw [gEq_PD x.pd y.pd (by decide) (by decide), Dg.eqv]
theorem gIn_dg (x : Dg) (ys : List Dg) (neg : Bool) : gIn neg [x.d, .lst (ys.map Dg.d)] = some (.bl (neg != decide (x ∈ ys))) := by
  rw [gIn_PD x.pd (PDs.map (P := Dg.p) (n := 1) fun y _ => y.pd) (by decide) (by decide)]
  congr 3
  rw [List.any_map]
  induction ys with
  | nil => simp
  | cons y ys ih =>
    rw [List.any_cons, ih]
    show (PyData.eqv y.p x.p || decide (x ∈ ys)) = _
    rw [Dg.eqv]
    by_cases h : y = x
    · subst h; simp
    · have h' : x ≠ y := fun e => h e.symm
      simp [h, h']
theorem inPl (x : Dg) : gIn false [.str x.w, .tup ((["forget", "again", "swap", "out", "twice"] : List PySem.Str).map .str)] = some (.bl (x.a == [] )) := by
  cases x <;> rfl
theorem isd_ok {b r : Nat} {x : Dg} (h : x.Ok b r) : f_p_is_deed [.f x.d, .f (.int b), .f (.int r)] = .ok (.bl true) [.n, .n, .n] := by
  rw [f_p_is_deed, runF_eq (by rfl)]
  have sz : x.a.length < sizeLine := by cases x <;> simp [Dg.a] <;> exact szl (by omega)
  have g : gAll [.lst (x.a.map fun _ => .bl true)] = some (.bl true) := gAll_true
  have e : lcL [4] (tgN 4) mYes (eCall f_p_is_integer [(.e (eV 4))]) (x.a.map .int) [.f x.d, .f (.int b), .f (.int r), .n, .n] = .ok (x.a.map fun _ => .bl true) [.f x.d, .f (.int b), .f (.int r), .n, .n] := by
    refine lcL_mapA _ _ fun i m => ?_
    simp -implicitDefEqProofs [-R.bind]
  have l : (x.a.map fun _ => D.bl true).length < sizeLine := by rw [List.length_map]; exact sz
  have p := inPl x
  simp only [List.map_cons, List.map_nil] at p
  have k : ∀ (vs : List Nat) (st0 st : Sl), kLcB vs st0 (x.a.map fun _ => .bl true) st = .ok (.lst (x.a.map fun _ => .bl true)) (backS st0 vs st) := fun vs st0 st => kLcB_eq l
  have q1 : gEq [.str x.w, .str "off"] = some (.bl (match x with | .off _ => true | _ => false)) := by rw [gEq_str x.w_ok (by decide +kernel)]; cases x <;> rfl
  have q2 : gEq [.str x.w, .str "copy"] = some (.bl (match x with | .copy _ => true | _ => false)) := by rw [gEq_str x.w_ok (by decide +kernel)]; cases x <;> rfl
  have q3 : gEq [.str x.w, .str "read"] = some (.bl (match x with | .read _ _ => true | _ => false)) := by rw [gEq_str x.w_ok (by decide +kernel)]; cases x <;> rfl
  unfold Dg.d at e ⊢
  cases x with
  | off d =>
    obtain ⟨h1, h2⟩ := h
    have h1' : (1 : Int) ≤ d := by omega
    simp -implicitDefEqProofs [-R.bind, Dg.a] at e k g p q1 q2 q3 ⊢
    simp -implicitDefEqProofs [-R.bind, b_p_is_deed, atI_0, atI_1, gSl_tup1, e, k, g, p, q1, q2, q3, h1', h2]
  | read j d =>
    obtain ⟨h0, h1, h2⟩ := h
    have h1' : (1 : Int) ≤ d := by omega
    have h0' : (0 : Int) ≤ j := by omega
    simp -implicitDefEqProofs [-R.bind, Dg.a] at e k g p q1 q2 q3 ⊢
    simp -implicitDefEqProofs [-R.bind, b_p_is_deed, atI_0, atI_1, atI_2, gSl_tup1, e, k, g, p, q1, q2, q3, h0, h0', h1', h2]
  | copy j =>
    have h0 : j < r := h
    have h0' : (0 : Int) ≤ j := by omega
    simp -implicitDefEqProofs [-R.bind, Dg.a] at e k g p q1 q2 q3 ⊢
    simp -implicitDefEqProofs [-R.bind, b_p_is_deed, atI_0, atI_1, gSl_tup1, e, k, g, p, q1, q2, q3, h0, h0']
  | _ =>
    simp -implicitDefEqProofs [-R.bind, Dg.a] at e k g p q1 q2 q3 ⊢
    simp -implicitDefEqProofs [-R.bind, b_p_is_deed, atI_0, atI_1, gSl_tup1, e, k, g, p, q1, q2, q3]
end K81
namespace K81
open PySem PySem.Spec PyProof.Rows L2 Ev
def deD : Option Dg → D
  | none => .non
  | some x => x.d
def colD : Option (List Int) → D
  | none => .non
  | some c => dcol c
/-- the figures that a doing takes -/
def takG (b : Int) (c : List Int) (bf : Option (List Int)) : Option Dg → List Int
  | some (.read j d) => c.set j ((c.getD j 0 + d) % b)
  | some (.copy j) => c.set j ((bf.getD []).getD j 0)
  | _ => c
/-- what a column gives: the figures, the new carry -/
def doneG (b : Int) (c : List Int) (bf : Option (List Int)) (y : Int) (de : Option Dg) : Option (List Int × Int) :=
  let t := (takG b c bf de).sum + y
  match de with
  | some .out => some ([], y)
  | some .forget => if t / b = 0 then none else some ([t % b], 0)
  | some .again => some ([t % b], t / b + 1)
  | some (.off d) => some ([(t % b + d) % b], t / b)
  | some .twice => some ([t % b, (c.sum + t / b) % b], (c.sum + t / b) / b)
  | some (.copy _) => (match bf with
    | none => none
    | some _ => some ([t % b], t / b))
  | _ => some ([t % b], t / b)
def outG : Option (List Int × Int) → D
  | none => .non
  | some (fs, y) => .tup [.lst (fs.map .int), .int y]
theorem taken_ok {b r : Nat} {c : List Int} {bf : Option (List Int)} {de : Option Dg} (b2 : 2 ≤ b) (hc : c.length = r) (hbf : ∀ c', bf = some c' → c'.length = r) (hd : ∀ x, de = some x → x.Ok b r) (hcp : ∀ j, de = some (.copy j) → bf ≠ none) :
    f_p_taken [.f (.int b), .f (dcol c), .f (colD bf), .f (deD de)] = .ok (dcol (takG b c bf de)) [.n, .n, .n, .n] := by
  rw [f_p_taken, runF_eq (by rfl)]
  have m : ∀ i : Int, gMod [.int i, .int b] = some (.int (i % b)) := fun i => gMod_int (by omega)
  cases de with
  | none => simp -implicitDefEqProofs [-R.bind, b_p_taken, deD, takG]
  | some x =>
    cases x with
    | read j d =>
      have hj : j < c.length := by rw [hc]; exact (hd _ rfl).1
      have ix : L2.atI (c.map D.int) (j : Int) = some (.int (c.getD j 0)) := by rw [atI_nat, List.getElem?_map, List.getElem?_eq_getElem hj]; simp [hj]
      have k3 : ∀ (d : D) (st : Sl), kIt3 4 d (.int j) st (some (.o (.lst (c.map .int)))) = .ok .nx (st.set 4 (.o (.lst ((c.map D.int).set j d)))) := fun d st => kIt3_lst (by simpa using hj)
      have sm : ∀ v : Int, (c.map D.int).set j (.int v) = (c.set j v).map .int := fun v => by rw [List.map_set]
      simp -implicitDefEqProofs [-R.bind, -List.getD_eq_getElem?_getD, -List.map_set, b_p_taken, deD, takG, Dg.d, Dg.w, Dg.a, dcol, atI_0, atI_1, atI_2, ix, m, k3, sm]
    | copy j =>
      have hj : j < c.length := by rw [hc]; exact hd _ rfl
      cases bf with
      | none => exact absurd rfl (hcp j rfl)
      | some c' =>
        have hj' : j < c'.length := by rw [hbf c' rfl]; exact hd _ rfl
        have ix : L2.atI (c'.map D.int) (j : Int) = some (.int (c'.getD j 0)) := by rw [atI_nat, List.getElem?_map, List.getElem?_eq_getElem hj']; simp [hj']
        have k3 : ∀ (d : D) (st : Sl), kIt3 4 d (.int j) st (some (.o (.lst (c.map .int)))) = .ok .nx (st.set 4 (.o (.lst ((c.map D.int).set j d)))) := fun d st => kIt3_lst (by simpa using hj)
        have sm : ∀ v : Int, (c.map D.int).set j (.int v) = (c.set j v).map .int := fun v => by rw [List.map_set]
        simp -implicitDefEqProofs [-R.bind, -List.getD_eq_getElem?_getD, -List.map_set, b_p_taken, deD, takG, colD, Dg.d, Dg.w, Dg.a, dcol, atI_0, atI_1, atI_2, ix, k3, sm]
    | _ => simp -implicitDefEqProofs [-R.bind, b_p_taken, deD, takG, Dg.d, Dg.w, Dg.a, atI_0]
theorem done_ok {b r : Nat} {c : List Int} {bf : Option (List Int)} {y : Int} {de : Option Dg} (b2 : 2 ≤ b) (b12 : b ≤ 12) (hc : c.length = r) (hbf : ∀ c', bf = some c' → c'.length = r) (hd : ∀ x, de = some x → x.Ok b r) :
    f_p_done [.f (.int b), .f (dcol c), .f (colD bf), .f (.int y), .f (deD de)] = .ok (outG (doneG b c bf y de)) [.n, .n, .n, .n, .n] := by
  rw [f_p_done, runF_eq (by rfl)]
  have m : ∀ i : Int, gMod [.int i, .int b] = some (.int (i % b)) := fun i => gMod_int (by omega)
  have f : ∀ i : Int, gFdiv [.int i, .int b] = some (.int (i / b)) := fun i => gFdiv_small (by omega) (by omega)
  have sm : ∀ c : List Int, gSum [dcol c] = some (.int c.sum) := fun c => gSum_tup
  have tk := fun (h : ∀ j, de = some (.copy j) → bf ≠ none) => taken_ok (de := de) (bf := bf) b2 hc hbf hd h
  have in1 : ∀ c : List Int, gIs false [dcol c, .non] = some (.bl false) := fun c => rfl
  cases de with
  | none =>
    have t := tk (fun j e => by cases e)
    simp only [deD] at t ⊢
    simp -implicitDefEqProofs [-R.bind, b_p_done, doneG, outG, takG, t, sm, m, f]
  | some x =>
    cases x with
    | copy j =>
      cases bf with
      | none => simp -implicitDefEqProofs [-R.bind, b_p_done, deD, Dg.d, Dg.w, Dg.a, colD, doneG, outG, atI_0]
      | some c' =>
        have t := tk (fun j e => by simp)
        simp only [deD, Dg.d, Dg.w, Dg.a, colD, List.map_cons, List.map_nil] at t ⊢
        simp -implicitDefEqProofs [-R.bind, -List.getD_eq_getElem?_getD, b_p_done, doneG, outG, t, sm, m, f, in1, atI_0]
    | out => simp -implicitDefEqProofs [-R.bind, b_p_done, deD, Dg.d, Dg.w, Dg.a, doneG, outG, atI_0]
    | forget =>
      have t := tk (fun j e => by cases e)
      simp only [deD, Dg.d, Dg.w, Dg.a, List.map_cons, List.map_nil] at t ⊢
      by_cases z : ((takG b c bf (some .forget)).sum + y) / (b : Int) = 0
      · simp -implicitDefEqProofs [-R.bind, b_p_done, doneG, outG, t, sm, m, f, atI_0, z]
      · have zb : (((takG b c bf (some .forget)).sum + y) / (b : Int) == 0) = false := beq_eq_false_iff_ne.mpr z
        simp -implicitDefEqProofs [-R.bind, b_p_done, doneG, outG, t, sm, m, f, atI_0, z, zb]
    | _ =>
      have t := tk (fun j e => by cases e)
      simp only [deD, Dg.d, Dg.w, Dg.a, List.map_cons, List.map_nil] at t ⊢
      simp -implicitDefEqProofs [-R.bind, -List.getD_eq_getElem?_getD, b_p_done, doneG, outG, t, sm, m, f, atI_0, atI_1]
end K81
namespace K81
open PySem PySem.Spec PyProof.Rows L2 Ev
def dOpt : Option Int → D
  | some i => .int i
  | none => .non
structure Ad where
  at_ : Nat
  w : List Int
  carry : Int
  wait : Option Int
def dAdd (b : Nat) (cs : List (List Int)) (a : Ad) : D := .obj "Adding" ["system", "given", "at", "written", "carry", "waiting"] [.int b, .lst (cs.map dcol), .int a.at_, .lst (a.w.map .int), .int a.carry, dOpt a.wait]
theorem add_init {b r : Nat} {cs : List (List Int)} : f_m_Adding_zinitz [.o (.obj "Adding" [] []), .f (dSheet b r cs)] = .ok .non [.o (dAdd b cs ⟨0, [], 0, none⟩), .n] := by
  rw [f_m_Adding_zinitz, runF_eq (by rfl)]
  simp -implicitDefEqProofs [-R.bind, b_m_Adding_zinitz]
  rfl
@[simp] theorem inc_ad {c : Str} {a0 a1 a3 a4 a5 : D} {k j : Int} {st : Sl} : sInc 0 "at" j (.o (.obj c ["system", "given", "at", "written", "carry", "waiting"] [a0, a1, .int k, a3, a4, a5]) :: st) = .ok .nx (.o (.obj c ["system", "given", "at", "written", "carry", "waiting"] [a0, a1, .int (k + j), a3, a4, a5]) :: st) := rfl
theorem swq {de : Option Dg} : gEq [deD de, .tup [.str "swap"]] = some (.bl (decide (de = some .swap))) := by
  cases de with
  | none => exact (gEq_PD (PD.non (n := 0)) Dg.swap.pd (by decide) (by decide))
  | some x =>
    have := gEq_dg x .swap
    simp only [deD]
    rw [show D.tup [.str "swap"] = Dg.swap.d from rfl, this]
    simp
/-- the column before -/
def bfAt (cs : List (List Int)) (n : Nat) : Option (List Int) := match n with
  | 0 => none
  | n + 1 => cs[n]?
/-- what is written behind a doing, what waits -/
def putG (a : Ad) (de : Option Dg) (fs : List Int) (y : Int) : Ad :=
  match a.wait with
  | some x => ⟨a.at_ + 1, a.w ++ (fs ++ [x]), y, none⟩
  | none => if de = some .swap then ⟨a.at_ + 1, a.w, y, some (fs.headD 0)⟩ else ⟨a.at_ + 1, a.w ++ fs, y, none⟩
def stepG (b : Int) (cs : List (List Int)) (c : List Int) (a : Ad) (de : Option Dg) : Option Ad :=
  if de = some .swap ∧ a.at_ + 1 = cs.length then none
  else (doneG b c (bfAt cs a.at_) a.carry de).map fun p => putG a de p.1 p.2
theorem doneG_len {b : Int} {c : List Int} {bf : Option (List Int)} {y : Int} {de : Option Dg} {fs : List Int} {y' : Int} (h : doneG b c bf y de = some (fs, y')) : fs.length ≤ 2 ∧ (de = some .swap → ∃ x, fs = [x]) := by
  cases de with
  | none => simp [doneG] at h; obtain ⟨rfl, _⟩ := h; simp
  | some x =>
    cases x <;> simp [doneG] at h
    case forget => obtain ⟨_, rfl, _⟩ := h; simp
    case copy j => cases bf with
      | none => simp at h
      | some _ => simp at h; obtain ⟨rfl, _⟩ := h; simp
    all_goals (obtain ⟨rfl, _⟩ := h; simp)
theorem do_ok {b r : Nat} {cs : List (List Int)} {c : List Int} {a : Ad} {de : Option Dg} (h : ShOk b r cs) (hc : cs[a.at_]? = some c) (hw : a.w.length < 5000) (hd : ∀ x, de = some x → x.Ok b r) :
    f_m_Adding_do [.o (dAdd b cs a), .f (deD de)] = (match stepG b cs c a de with
      | some a' => .ok (.bl true) [.o (dAdd b cs a'), .n]
      | none => .ok (.bl false) [.o (dAdd b cs a), .n]) := by
  rw [f_m_Adding_do, runF_eq (by rfl)]
  have b2 := h.b2
  have b12 := h.b12
  have hl : a.at_ < cs.length := by
    rcases Nat.lt_or_ge a.at_ cs.length with q | q
    · exact q
    · rw [List.getElem?_eq_none q] at hc; cases hc
  have hcr : c.length = r := (h.cols c (List.mem_of_getElem? hc)).1
  obtain ⟨n, w, y, wt⟩ := a
  simp only at hc hw hl
  have hbf : ∀ c', bfAt cs n = some c' → c'.length = r := fun c' e => by
    cases n with
    | zero => cases e
    | succ m => exact (h.cols c' (List.mem_of_getElem? e)).1
  have dn := done_ok (y := y) (de := de) (bf := bfAt cs n) b2 b12 hcr hbf hd
  have ix : L2.atI (cs.map dcol) (n : Int) = some (dcol c) := by rw [atI_nat, List.getElem?_map, hc]; rfl
  have sq := swq (de := de)
  have gl : gLen [.lst (cs.map dcol)] = some (.int cs.length) := by rw [gLen_lst, List.length_map]
  obtain ⟨bfv, hbv, pre⟩ : ∃ bfv, bfv = colD (bfAt cs n) ∧ ((n = 0 ∧ bfv = .non) ∨ ∃ m : Nat, n = m + 1 ∧ L2.atI (cs.map dcol) (m : Int) = some bfv) := by
    cases n with
    | zero => exact ⟨.non, rfl, .inl ⟨rfl, rfl⟩⟩
    | succ m =>
      obtain ⟨c', hc'⟩ : ∃ c', cs[m]? = some c' := ⟨cs[m]'(by omega), by simp⟩
      exact ⟨dcol c', by simp [bfAt, hc', colD], .inr ⟨m, rfl, by rw [atI_nat, List.getElem?_map, hc']; rfl⟩⟩
  rw [← hbv] at dn
  have key : ∀ (R : Out), (∀ (p0 : Bool) (i0 : Int), R = R) → True := fun _ _ => trivial
  have sz : (5004 : Nat) ≤ sizeLine := by decide
  unfold stepG
  generalize hde : deD de = dd at dn sq ⊢
  by_cases hs : de = some .swap ∧ n + 1 = cs.length
  · rw [if_pos hs]
    obtain ⟨rfl, hn⟩ := hs
    have hn' : ((n : Int) + 1 == (cs.length : Int)) = true := by simp; omega
    rw [show decide (some Dg.swap = some Dg.swap) = true from rfl] at sq
    rcases pre with ⟨rfl, rfl⟩ | ⟨m, rfl, im⟩
    · have hn2 : ((1 : Int) == (cs.length : Int)) = true := hn'
      simp -implicitDefEqProofs [-R.bind, b_m_Adding_do, dAdd, sq, gl, hn2]
    · have hm : ((m + 1 : Nat) : Int) = (m : Int) + 1 := by omega
      rw [hm] at hn'
      have pos : (0 : Int) < (m : Int) + 1 := by omega
      simp -implicitDefEqProofs [-R.bind, b_m_Adding_do, dAdd, pos, im, sq, gl, hn']
  · rw [if_neg hs]
    have ln : decide (de = some .swap) = true → ((n : Int) + 1 == (cs.length : Int)) = false := fun e => beq_eq_false_iff_ne.mpr fun z => hs ⟨of_decide_eq_true e, by omega⟩
    cases hg : doneG b c (bfAt cs n) y de with
    | none =>
      rw [hg] at dn
      simp only [outG] at dn
      rcases pre with ⟨rfl, rfl⟩ | ⟨m, rfl, im⟩
      · have ix0 : L2.atI (cs.map dcol) 0 = some (dcol c) := ix
        cases hq : decide (de = some .swap) with
        | true =>
          rw [hq] at sq
          have hn2 : ((1 : Int) == (cs.length : Int)) = false := ln hq
          simp -implicitDefEqProofs [-R.bind, b_m_Adding_do, dAdd, sq, gl, hn2, ix0, dn]
        | false =>
          rw [hq] at sq
          simp -implicitDefEqProofs [-R.bind, b_m_Adding_do, dAdd, sq, ix0, dn]
      · have hm : ((m + 1 : Nat) : Int) = (m : Int) + 1 := by omega
        rw [hm] at ln ix
        have pos : (0 : Int) < (m : Int) + 1 := by omega
        cases hq : decide (de = some .swap) with
        | true =>
          rw [hq] at sq
          have hn2 := ln hq
          simp -implicitDefEqProofs [-R.bind, b_m_Adding_do, dAdd, pos, im, sq, gl, hn2, ix, dn]
        | false =>
          rw [hq] at sq
          simp -implicitDefEqProofs [-R.bind, b_m_Adding_do, dAdd, pos, im, sq, ix, dn]
    | some p =>
      obtain ⟨fs, y'⟩ := p
      obtain ⟨fl, fsw⟩ := doneG_len hg
      rw [hg] at dn
      simp only [outG] at dn
      have isn : ∀ xs : List D, gIs false [.tup xs, .non] = some (.bl false) := fun _ => rfl
      have g1 : ∀ x : D, gAdd [.lst (fs.map .int), .lst [x]] = some (.lst (fs.map .int ++ [x])) := fun x => gAdd_lst (by simp; omega)
      have g2 : ∀ x : D, gAdd [.lst (w.map .int), .lst (fs.map .int ++ [x])] = some (.lst (w.map .int ++ (fs.map .int ++ [x]))) := fun x => gAdd_lst (by simp; omega)
      have g3 : gAdd [.lst (w.map .int), .lst (fs.map .int)] = some (.lst (w.map .int ++ fs.map .int)) := gAdd_lst (by simp; omega)
      have g0 : gAdd [.lst (w.map .int), .lst []] = some (.lst (w.map .int)) := by rw [gAdd_lst (by simp; omega), List.append_nil]
      cases wt with
      | some x =>
        rcases pre with ⟨rfl, rfl⟩ | ⟨m, rfl, im⟩
        · have ix0 : L2.atI (cs.map dcol) 0 = some (dcol c) := ix
          cases hq : decide (de = some .swap) with
          | true =>
            rw [hq] at sq
            have hn2 : ((1 : Int) == (cs.length : Int)) = false := ln hq
            simp -implicitDefEqProofs [-R.bind, b_m_Adding_do, dAdd, dOpt, sq, gl, hn2, ix0, dn, isn, g1, g2, putG]
          | false =>
            rw [hq] at sq
            simp -implicitDefEqProofs [-R.bind, b_m_Adding_do, dAdd, dOpt, sq, ix0, dn, isn, g1, g2, putG]
        · have hm : ((m + 1 : Nat) : Int) = (m : Int) + 1 := by omega
          rw [hm] at ln ix
          have pos : (0 : Int) < (m : Int) + 1 := by omega
          cases hq : decide (de = some .swap) with
          | true =>
            rw [hq] at sq
            have hn2 := ln hq
            simp -implicitDefEqProofs [-R.bind, b_m_Adding_do, dAdd, dOpt, pos, im, sq, gl, hn2, ix, dn, isn, g1, g2, putG]
          | false =>
            rw [hq] at sq
            simp -implicitDefEqProofs [-R.bind, b_m_Adding_do, dAdd, dOpt, pos, im, sq, ix, dn, isn, g1, g2, putG]
      | none =>
        rcases pre with ⟨rfl, rfl⟩ | ⟨m, rfl, im⟩
        · have ix0 : L2.atI (cs.map dcol) 0 = some (dcol c) := ix
          cases hq : decide (de = some .swap) with
          | true =>
            rw [hq] at sq
            have hn2 : ((1 : Int) == (cs.length : Int)) = false := ln hq
            obtain ⟨x, rfl⟩ := fsw (of_decide_eq_true hq)
            have e := of_decide_eq_true hq
            simp -implicitDefEqProofs [-R.bind, b_m_Adding_do, dAdd, dOpt, sq, gl, hn2, ix0, dn, isn, g0, putG, atI_0, e]
          | false =>
            rw [hq] at sq
            have e := of_decide_eq_false hq
            simp -implicitDefEqProofs [-R.bind, b_m_Adding_do, dAdd, dOpt, sq, ix0, dn, isn, g3, putG, e]
        · have hm : ((m + 1 : Nat) : Int) = (m : Int) + 1 := by omega
          rw [hm] at ln ix
          have pos : (0 : Int) < (m : Int) + 1 := by omega
          cases hq : decide (de = some .swap) with
          | true =>
            rw [hq] at sq
            have hn2 := ln hq
            obtain ⟨x, rfl⟩ := fsw (of_decide_eq_true hq)
            have e := of_decide_eq_true hq
            simp -implicitDefEqProofs [-R.bind, b_m_Adding_do, dAdd, dOpt, pos, im, sq, gl, hn2, ix, dn, isn, g0, putG, atI_0, e]
          | false =>
            rw [hq] at sq
            have e := of_decide_eq_false hq
            simp -implicitDefEqProofs [-R.bind, b_m_Adding_do, dAdd, dOpt, pos, im, sq, ix, dn, isn, g3, putG, e]
end K81
namespace K81
open PySem PySem.Spec PyProof.Rows L2 Ev
theorem wh_stop {c : B'} {b : S} {n : Nat} {st st1 : Sl} (h : c st = .ok false st1) : whL c b (n + 1) st = .ok .nx st1 := by
  rw [whL, h]; rfl
theorem wh_go {c : B'} {b : S} {n : Nat} {st st1 st2 : Sl} (h : c st = .ok true st1) (h2 : b st1 = .ok .nx st2) : whL c b (n + 1) st = whL c b n st2 := by
  rw [whL, h, R.bind_ok]
  simp only [h2]
section
variable {b r : Nat} {cs : List (List Int)} {a : Ad}
@[simp] theorem ga_sys : gFld "system" [dAdd b cs a] = some (.int b) := rfl
@[simp] theorem ga_giv : gFld "given" [dAdd b cs a] = some (.lst (cs.map dcol)) := rfl
@[simp] theorem ga_at : gFld "at" [dAdd b cs a] = some (.int a.at_) := rfl
@[simp] theorem ga_wri : gFld "written" [dAdd b cs a] = some (.lst (a.w.map .int)) := rfl
@[simp] theorem ga_car : gFld "carry" [dAdd b cs a] = some (.int a.carry) := rfl
@[simp] theorem ga_wai : gFld "waiting" [dAdd b cs a] = some (dOpt a.wait) := rfl
@[simp] theorem kc_add {c : Str} : kClO c (some (dAdd b cs a)) = ("Adding" == c) := rfl
@[simp] theorem ca_add {c : Str} {st : Sl} : clsAV c (.o (dAdd b cs a)) st = ("Adding" == c) := rfl
end
/-- figures: at most two a column -/
def Ad.Ok (a : Ad) : Prop := a.w.length + (match a.wait with | some _ => 1 | none => 0) ≤ 2 * a.at_
def stepR (b : Int) (c : List Int) (a : Ad) : Ad := putG a none [(c.sum + a.carry) % b] ((c.sum + a.carry) / b)
theorem stepG_non {b : Int} {cs : List (List Int)} {c : List Int} {a : Ad} : stepG b cs c a none = some (stepR b c a) := by
  unfold stepG stepR
  rw [if_neg (fun h => nomatch h.1)]
  rfl
theorem putG_at {a : Ad} {de : Option Dg} {fs : List Int} {y : Int} : (putG a de fs y).at_ = a.at_ + 1 := by
  obtain ⟨n, w, y, wt⟩ := a
  cases wt with
  | some x => rfl
  | none => unfold putG; simp only; split <;> rfl
theorem putG_ok {a : Ad} {de : Option Dg} {fs : List Int} {y : Int} (h : a.Ok) (hf : fs.length ≤ 2) (hs : de = some .swap → ∃ x, fs = [x]) (hw : a.wait ≠ none → fs.length ≤ 1 ∨ True) : (putG a de fs y).w.length + (match (putG a de fs y).wait with | some _ => 1 | none => 0) ≤ 2 * a.at_ + 2 := by
  obtain ⟨n, w, y', wt⟩ := a
  unfold Ad.Ok at h
  cases wt with
  | some x => simp [putG] at h ⊢; omega
  | none =>
    unfold putG
    simp only at h ⊢
    split
    · simp at h ⊢; omega
    · simp at h ⊢; omega
theorem stepG_ok {b : Int} {cs : List (List Int)} {c : List Int} {a a' : Ad} {de : Option Dg} (h : a.Ok) (e : stepG b cs c a de = some a') : a'.Ok ∧ a'.at_ = a.at_ + 1 := by
  unfold stepG at e
  split at e
  · cases e
  · cases hg : doneG b c (bfAt cs a.at_) a.carry de with
    | none => rw [hg] at e; cases e
    | some p =>
      rw [hg] at e
      simp only [Option.map_some, Option.some.injEq] at e
      subst e
      obtain ⟨fs, y⟩ := p
      obtain ⟨fl, fw⟩ := doneG_len hg
      refine ⟨?_, putG_at⟩
      have := putG_ok (y := y) h fl fw (fun _ => .inr trivial)
      unfold Ad.Ok
      rw [putG_at]
      omega
theorem stepR_ok {b : Int} {c : List Int} {a : Ad} (h : a.Ok) : (stepR b c a).Ok ∧ (stepR b c a).at_ = a.at_ + 1 := stepG_ok (cs := []) h stepG_non
def runA (b : Int) (cs : List (List Int)) (a : Ad) (t : Nat) : Ad := ((cs.drop a.at_).take (t - a.at_)).foldl (fun a c => stepR b c a) a
theorem until_wh {b r : Nat} {cs : List (List Int)} {t : Nat} (h : ShOk b r cs) (ht : t ≤ cs.length) : ∀ (k n : Nat) (a : Ad), a.Ok → t - a.at_ = k → k < n →
    whL (mT (eOp gLt [(.e (eFld "at" (.v 0))), (.v 1)])) (sDrop (eMeth "Adding" f_m_Adding_do (.mu 0) [(.e (eC .non))])) n [.o (dAdd b cs a), .f (.int t)] = .ok .nx [.o (dAdd b cs (runA b cs a t)), .f (.int t)]
  | 0, n + 1, a, ok, e, _ => by
    have l : ¬ ((a.at_ : Int) < t) := by omega
    rw [wh_stop (st1 := [.o (dAdd b cs a), .f (.int t)]) (by simp -implicitDefEqProofs [-R.bind]; omega)]
    unfold runA
    rw [e]; rfl
  | k + 1, n + 1, a, ok, e, l => by
    have l1 : a.at_ < cs.length := by omega
    have hc : cs[a.at_]? = some (cs[a.at_]'l1) := by simp
    have hw : a.w.length < 5000 := by have := h.len; unfold Ad.Ok at ok; cases z : a.wait <;> rw [z] at ok <;> simp at ok <;> omega
    have d := do_ok (de := none) h hc hw (fun x e => nomatch e)
    rw [stepG_non] at d
    have d' : f_m_Adding_do [.o (dAdd b cs a), .f .non] = .ok (.bl true) [.o (dAdd b cs (stepR b (cs[a.at_]'l1) a)), .n] := d
    obtain ⟨o1, o2⟩ := stepR_ok (b := (b : Int)) (c := cs[a.at_]'l1) ok
    have lt : (a.at_ : Int) < t := by omega
    rw [wh_go (st1 := [.o (dAdd b cs a), .f (.int t)]) (st2 := [.o (dAdd b cs (stepR b (cs[a.at_]'l1) a)), .f (.int t)]) (by simp -implicitDefEqProofs [-R.bind]; omega) (by simp -implicitDefEqProofs [-R.bind, d'])]
    rw [until_wh h ht k n _ o1 (by rw [o2]; omega) (by omega)]
    have : runA b cs a t = runA b cs (stepR b (cs[a.at_]'l1) a) t := by
      unfold runA
      rw [o2, List.drop_eq_getElem_cons l1, show t - a.at_ = (t - (a.at_ + 1)) + 1 from by omega, List.take_succ_cons, List.foldl_cons]
    rw [this]
theorem do_until {b r : Nat} {cs : List (List Int)} {t : Nat} {a : Ad} (h : ShOk b r cs) (ht : t ≤ cs.length) (ok : a.Ok) : f_m_Adding_do_until [.o (dAdd b cs a), .f (.int t)] = .ok .non [.o (dAdd b cs (runA b cs a t)), .n] := by
  rw [f_m_Adding_do_until, runF_eq (by rfl)]
  have := h.len
  have e := until_wh h ht (t - a.at_) 16384 a ok rfl (by omega)
  show kRunF [0] 2 (whL _ _ 16384 [.o (dAdd b cs a), .f (.int t)]) = _
  rw [e]; rfl
theorem foldR_ok {b : Int} : ∀ {l : List (List Int)} {a : Ad}, a.Ok → (l.foldl (fun a c => stepR b c a) a).Ok ∧ (l.foldl (fun a c => stepR b c a) a).at_ = a.at_ + l.length
  | [], a, h => ⟨h, rfl⟩
  | c :: l, a, h => by
    obtain ⟨o1, o2⟩ := stepR_ok (b := b) (c := c) h
    obtain ⟨p1, p2⟩ := foldR_ok (l := l) o1
    exact ⟨p1, by rw [List.foldl_cons, p2, o2, List.length_cons]; omega⟩
theorem runA_ok {b : Int} {cs : List (List Int)} {a : Ad} {t : Nat} (h : a.Ok) (ht : t ≤ cs.length) (ha : a.at_ ≤ t) : (runA b cs a t).Ok ∧ (runA b cs a t).at_ = t := by
  obtain ⟨p1, p2⟩ := foldR_ok (b := b) (l := (cs.drop a.at_).take (t - a.at_)) h
  exact ⟨p1, by unfold runA; rw [p2]; simp; omega⟩
def dWr (b : Nat) (w : List Int) (l : Int) : D := .obj "Written" ["held_base", "held_figures", "held_last"] [.int b, .lst (w.map .int), .int l]
theorem wr_init {b : Nat} {w : List Int} {l : Int} : f_m_Written_zinitz [.o (.obj "Written" [] []), .f (.int b), .f (.lst (w.map .int)), .f (.int l)] = .ok .non [.o (dWr b w l), .n, .n, .n] := by
  rw [f_m_Written_zinitz, runF_eq (by rfl)]
  simp -implicitDefEqProofs [-R.bind, b_m_Written_zinitz]
  rfl
theorem fr_wr {b : Nat} {w : List Int} {l : Int} {st : Sl} : kFr (dWr b w l) st = .ok (dWr b w l) st := by
  unfold kFr
  have : fzOk (dWr b w l) = true := rfl
  simp only [this]
def endA (b : Int) (cs : List (List Int)) (a : Ad) : Ad := runA b cs a cs.length
theorem ad_result {b r : Nat} {cs : List (List Int)} {a : Ad} (h : ShOk b r cs) (ok : a.Ok) : f_m_Adding_result [.o (dAdd b cs a)] = .ok (dWr b (endA b cs a).w (endA b cs a).carry) [.o (dAdd b cs (endA b cs a))] := by
  rw [f_m_Adding_result, runF_eq (by rfl)]
  have d := do_until h (Nat.le_refl _) ok
  simp -implicitDefEqProofs [-R.bind, b_m_Adding_result, d, wr_init, fr_wr, endA]
def A0 : Ad := ⟨0, [], 0, none⟩
theorem A0_ok : A0.Ok := by simp [Ad.Ok, A0]
theorem add_right {b r : Nat} {cs : List (List Int)} (h : ShOk b r cs) : f_p_add_right [.f (dSheet b r cs)] = .ok (dWr b (endA b cs A0).w (endA b cs A0).carry) [.n] := by
  rw [f_p_add_right, runF_eq (by rfl)]
  have e := add_init (b := b) (r := r) (cs := cs)
  have d := ad_result h A0_ok
  unfold A0 at d ⊢
  simp -implicitDefEqProofs [-R.bind, b_p_add_right, e, d]
end K81
namespace K81
open PySem PySem.Spec PyProof.Rows L2 Ev
def kEn (d : D) (st : Sl) : R (List D) := match d with
  | .lst ds => .ok (enumD ds) st
  | _ => .bad
@[simp] theorem itEn_eq {m : E} {st : Sl} : itEn m st = (m st).bind kEn := rfl
@[simp] theorem kEn_lst {ds : List D} {st : Sl} : kEn (.lst ds) st = .ok (enumD ds) st := rfl
def slD (s : Nat × Dg) : D := .tup [.int s.1, s.2.d]
theorem isO_sh {b r : Nat} {cs : List (List Int)} : isO "Sheet" (dSheet b r cs) = true := by
  show (("Sheet" : Str) == "Sheet") = true
  simp
theorem len_sh {b r : Nat} {cs : List (List Int)} (h : cs.length < 1000) : gLenO "Sheet" f_m_Sheet_zlenz [dSheet b r cs] = some (.int cs.length) := gLenO_of isO_sh sh_len (by omega)
theorem slip_ok {b r t lo : Nat} {cs : List (List Int)} {x : Dg} (h : ShOk b r cs) (hd : x.Ok b r) : f_p_is_slip [.f (slD (t, x)), .f (dSheet b r cs), .f (.int lo)] = .ok (.bl (decide (lo ≤ t ∧ t < cs.length))) [.n, .n, .n] := by
  rw [f_p_is_slip, runF_eq (by rfl)]
  have d := isd_ok hd
  have ln := len_sh (b := b) (r := r) h.len
  unfold slD
  by_cases h1 : lo ≤ t
  · have h1' : (lo : Int) ≤ t := by omega
    by_cases h2 : t < cs.length
    · simp -implicitDefEqProofs [-R.bind, b_p_is_slip, atI_0, atI_1, ln, d, h1, h1', h2]
    · simp -implicitDefEqProofs [-R.bind, b_p_is_slip, atI_0, atI_1, ln, d, h1, h1', h2]
  · have h1' : ¬ ((lo : Int) ≤ t) := by omega
    simp -implicitDefEqProofs [-R.bind, b_p_is_slip, atI_0, atI_1, ln, d, h1, h1']
def freeA (a : Ad) : Nat := match a.wait with
  | none => a.at_
  | some _ => a.at_ + 1
theorem free_ok {b : Nat} {cs : List (List Int)} {a : Ad} : f_m_Adding_free [.o (dAdd b cs a)] = .ok (.int (freeA a)) [.o (dAdd b cs a)] := by
  rw [f_m_Adding_free, runF_eq (by rfl)]
  have i0 : gIs false [D.non, .non] = some (.bl true) := rfl
  have i1 : ∀ x, gIs false [D.int x, .non] = some (.bl false) := fun _ => rfl
  cases z : a.wait with
  | none => simp -implicitDefEqProofs [-R.bind, b_m_Adding_free, z, dOpt, freeA]
  | some x => simp -implicitDefEqProofs [-R.bind, b_m_Adding_free, z, dOpt, freeA]
/-- the slips done, none if one is refused -/
def goS (b : Int) (cs : List (List Int)) : Ad → List (Nat × Dg) → Option Ad
  | a, [] => some a
  | a, (t, x) :: l => if freeA a ≤ t ∧ t < cs.length then (stepG b cs (cs.getD t []) (runA b cs a t) (some x)).bind fun a' => goS b cs a' l else none
theorem at_le {a : Ad} {t : Nat} (h : freeA a ≤ t) : a.at_ ≤ t := by
  unfold freeA at h
  cases z : a.wait <;> rw [z] at h <;> simp at h <;> omega
abbrev slipBody : S := (sSeq (sIf (mNot (mTru (.e (eCall f_p_is_slip [(.e (eV 4)), (.e (eV 0)), (.e (eMeth "Adding" f_m_Adding_free (.mu 2) []))])))) (sRaiseX "InvalidSlips" (eV 3)) sNil)
  (sSeq (sDrop (eMeth "Adding" f_m_Adding_do_until (.mu 2) [(.e (eOp gIx [(.v 4), (.e (eC (.int 0)))]))]))
  (sIf (mNot (mTru (.e (eMeth "Adding" f_m_Adding_do (.mu 2) [(.e (eOp gIx [(.v 4), (.e (eC (.int 1)))]))])))) (sRaiseX "InvalidSlips" (eV 3)) sNil)))
theorem slips_loop {b r : Nat} {cs : List (List Int)} (h : ShOk b r cs) (S : D) : ∀ (l : List (Nat × Dg)) (i : Nat) (a : Ad) (c3 c4 : Cell), a.Ok → (∀ s ∈ l, s.2.Ok b r) →
    ∃ c3' c4' c5' x, forL (tgT [(tgN 3), (tgN 4)]) slipBody (l.mapIdx fun j s => .tup [.int ((i + j : Nat) : Int), slD s]) [.f (dSheet b r cs), .f S, .o (dAdd b cs a), c3, c4] = (match goS b cs a l with
      | some a' => .ok .nx [.f (dSheet b r cs), .f S, .o (dAdd b cs a'), c3', c4']
      | none => .exc "InvalidSlips" (some x) [.f (dSheet b r cs), .f S, c5', c3', c4']) ∧ ∀ a', goS b cs a l = some a' → a'.Ok
  | [], i, a, c3, c4, ok, _ => ⟨c3, c4, .n, .non, rfl, fun a' e => by cases e; exact ok⟩
  | (t, x) :: l, i, a, c3, c4, ok, hl => by
    have hx := hl (t, x) List.mem_cons_self
    have fr := free_ok (b := b) (cs := cs) (a := a)
    have sl := slip_ok (t := t) (lo := freeA a) h hx
    rw [List.mapIdx_cons]
    by_cases hc : freeA a ≤ t ∧ t < cs.length
    · rw [decide_eq_true hc] at sl
      have al := at_le hc.1
      have un := do_until (t := t) h (by omega) ok
      obtain ⟨ok1, at1⟩ := runA_ok (b := (b : Int)) (cs := cs) (t := t) ok (by omega) al
      have ce : cs[(runA (b : Int) cs a t).at_]? = some (cs.getD t []) := by rw [at1]; simp [hc.2]
      have hw : (runA (b : Int) cs a t).w.length < 5000 := by
        have := h.len
        unfold Ad.Ok at ok1
        rw [at1] at ok1
        cases z : (runA (b : Int) cs a t).wait <;> rw [z] at ok1 <;> simp at ok1 <;> omega
      have d := do_ok (de := some x) h ce hw (fun y e => by cases e; exact hx)
      cases hg : stepG (b : Int) cs (cs.getD t []) (runA b cs a t) (some x) with
      | none =>
        rw [hg] at d
        have d' : f_m_Adding_do [.o (dAdd b cs (runA b cs a t)), .f x.d] = .ok (.bl false) [.o (dAdd b cs (runA b cs a t)), .n] := d
        refine ⟨.f (.int ((i + 0 : Nat) : Int)), .f (slD (t, x)), .o (dAdd b cs (runA b cs a t)), .int ((i + 0 : Nat) : Int), ?_, ?_⟩
        · rw [forL_exc (c := "InvalidSlips") (x := some (.int ((i + 0 : Nat) : Int))) (st' := [.f (dSheet b r cs), .f S, .o (dAdd b cs (runA b cs a t)), .f (.int ((i + 0 : Nat) : Int)), .f (slD (t, x))])]
          · simp only [goS, if_pos hc, hg, Option.bind_none]
          · have i0 : gIx [slD (t, x), .int 0] = some (.int t) := by simp [slD, atI_0]
            have i1 : gIx [slD (t, x), .int 1] = some x.d := by simp [slD, atI_1]
            simp -implicitDefEqProofs [-R.bind, -gIx_tup, fr, sl, un, d', i0, i1]
        · intro a' e
          simp only [goS, if_pos hc, hg, Option.bind_none] at e
          cases e
      | some a1 =>
        rw [hg] at d
        have d' : f_m_Adding_do [.o (dAdd b cs (runA b cs a t)), .f x.d] = .ok (.bl true) [.o (dAdd b cs a1), .n] := d
        obtain ⟨c3', c4', c5', y, e, e2⟩ := slips_loop h S l (i + 1) a1 (.f (.int ((i + 0 : Nat) : Int))) (.f (slD (t, x))) (stepG_ok ok1 hg).1 fun s m => hl s (List.mem_cons_of_mem _ m)
        refine ⟨c3', c4', c5', y, ?_, ?_⟩
        · rw [forL_nx (st' := [.f (dSheet b r cs), .f S, .o (dAdd b cs a1), .f (.int ((i + 0 : Nat) : Int)), .f (slD (t, x))])]
          · have ei : (l.mapIdx fun j s => D.tup [.int ((i + (j + 1) : Nat) : Int), slD s]) = l.mapIdx fun j s => .tup [.int ((i + 1 + j : Nat) : Int), slD s] := by
              congr 1; funext j s; rw [show i + (j + 1) = i + 1 + j from by omega]
            rw [ei, e]
            simp only [goS, if_pos hc, hg, Option.bind_some]
          · have i0 : gIx [slD (t, x), .int 0] = some (.int t) := by simp [slD, atI_0]
            have i1 : gIx [slD (t, x), .int 1] = some x.d := by simp [slD, atI_1]
            simp -implicitDefEqProofs [-R.bind, -gIx_tup, fr, sl, un, d', i0, i1]
        · intro a' e'
          simp only [goS, if_pos hc, hg, Option.bind_some] at e'
          exact e2 a' e'
    · rw [decide_eq_false hc] at sl
      refine ⟨.f (.int ((i + 0 : Nat) : Int)), .f (slD (t, x)), .o (dAdd b cs a), .int ((i + 0 : Nat) : Int), ?_, ?_⟩
      · rw [forL_exc (c := "InvalidSlips") (x := some (.int ((i + 0 : Nat) : Int))) (st' := [.f (dSheet b r cs), .f S, .o (dAdd b cs a), .f (.int ((i + 0 : Nat) : Int)), .f (slD (t, x))])]
        · simp only [goS, if_neg hc]
        · simp -implicitDefEqProofs [-R.bind, fr, sl]
      · intro a' e
        simp only [goS, if_neg hc] at e
        cases e
/-- the result with slips: figures, last carry -/
def addW (b : Int) (cs : List (List Int)) (l : List (Nat × Dg)) : Option (List Int × Int) := (goS b cs A0 l).map fun a => ((endA b cs a).w, (endA b cs a).carry)
theorem add_with {b r : Nat} {cs : List (List Int)} {l : List (Nat × Dg)} (h : ShOk b r cs) (hl : ∀ s ∈ l, s.2.Ok b r) :
    ∃ x, f_p_add_with [.f (dSheet b r cs), .f (.lst (l.map slD))] = (match addW b cs l with
      | some p => .ok (dWr b p.1 p.2) [.n, .n]
      | none => .exc "InvalidSlips" (some x) [.n, .n]) := by
  have ini : f_m_Adding_zinitz [.o (.obj "Adding" [] []), .f (dSheet b r cs)] = .ok .non [.o (dAdd b cs A0), .n] := add_init
  obtain ⟨c3, c4, c5, x, e, e2⟩ := slips_loop h (.lst (l.map slD)) l 0 A0 .n .n A0_ok hl
  refine ⟨x, ?_⟩
  rw [f_p_add_with, runF_eq (by rfl)]
  have en : enumD (l.map slD) = l.mapIdx fun j s => .tup [.int ((0 + j : Nat) : Int), slD s] := by
    unfold enumD
    apply List.ext_getElem?
    intro i
    rw [List.getElem?_mapIdx, List.getElem?_mapIdx, List.getElem?_map]
    cases l[i]? <;> simp
  rw [← en] at e
  unfold addW
  cases hg : goS (b : Int) cs A0 l with
  | none =>
    rw [hg] at e
    simp only at e
    simp -implicitDefEqProofs [-R.bind, b_p_add_with, ini, e]
  | some a =>
    rw [hg] at e
    simp only at e
    have re := ad_result h (e2 a hg)
    simp -implicitDefEqProofs [-R.bind, b_p_add_with, ini, e, re]
end K81
namespace K81
open PySem PySem.Spec PyProof.Rows L2 Ev
section
variable {b : Nat} {w : List Int} {l : Int}
@[simp] theorem wr_figures : f_m_Written_figures [.f (dWr b w l)] = .ok (.lst (w.map .int)) [.n] := by
  rw [f_m_Written_figures, runF_eq (by rfl)]; simp -implicitDefEqProofs [-R.bind, b_m_Written_figures, dWr]
@[simp] theorem wr_last : f_m_Written_last [.f (dWr b w l)] = .ok (.int l) [.n] := by
  rw [f_m_Written_last, runF_eq (by rfl)]; simp -implicitDefEqProofs [-R.bind, b_m_Written_last, dWr]
@[simp] theorem wr_cls {st : Sl} {c : Str} : clsAV c (.d (dWr b w l)) st = ("Written" == c) := rfl
@[simp] theorem gw_base : gFld "held_base" [dWr b w l] = some (.int b) := rfl
@[simp] theorem gw_figs : gFld "held_figures" [dWr b w l] = some (.lst (w.map .int)) := rfl
@[simp] theorem gw_last : gFld "held_last" [dWr b w l] = some (.int l) := rfl
end
theorem foldl_horner (b : Int) (last : Int) (ds : List Int) : (ds.reverse.map D.int).foldl (fun (v : Int) d => match d with | .int i => v * b + i | _ => v) last = valF b ds last := by
  rw [List.foldl_map, List.foldl_reverse]
  rfl
theorem gMul_b {b : Nat} (h : b ≤ 12) {i : Int} : gMul [.int i, .int b] = some (.int (i * b)) := gMul_int (.inr ⟨by omega, by omega⟩)
theorem wr_value {b : Nat} {w : List Int} {l : Int} (h : b ≤ 12) : f_m_Written_value [.f (dWr b w l)] = .ok (.int (valF b w l)) [.n] := by
  rw [f_m_Written_value, runF_eq (by rfl)]
  obtain ⟨st', e, c, hst⟩ := forL_ind (g := tgN 2) (b := sSet 1 (eOp gAdd [(.e (eOp gMul [(.v 1), (.e (eFld "held_base" (.v 0)))])), (.v 2)]))
    (fun (v : Int) st => ∃ c, st = [.f (dWr b w l), .f (.int v), c]) (fun v d => match d with | .int i => v * b + i | _ => v) (ds := w.reverse.map D.int) (a := l) (st := [.f (dWr b w l), .f (.int l), .n])
    (fun v d st m ⟨c, hst⟩ => by
      obtain ⟨i, mi, rfl⟩ := List.mem_map.mp m
      subst hst
      refine ⟨[.f (dWr b w l), .f (.int (v * b + i)), .f (.int i)], ?_, _, rfl⟩
      simp -implicitDefEqProofs [-R.bind, gMul_b h]) ⟨_, rfl⟩
  rw [foldl_horner] at hst
  subst hst
  simp only [List.map_reverse] at e
  simp -implicitDefEqProofs [-R.bind, b_m_Written_value, e]
theorem sh_value {b r : Nat} {cs : List (List Int)} (h : b ≤ 12) : f_m_Sheet_value [.f (dSheet b r cs)] = .ok (.int (valS b cs)) [.n] := by
  rw [f_m_Sheet_value, runF_eq (by rfl)]
  have gb : gFld "held_base" [dSheet b r cs] = some (.int b) := rfl
  have gc : gFld "held_columns" [dSheet b r cs] = some (.lst (cs.map dcol)) := rfl
  have key : ∀ (ds : List (List Int)) (v : Int) (c : Cell), ∃ c', forL (tgN 2) (sSet 1 (eOp gAdd [(.e (eOp gMul [(.v 1), (.e (eFld "held_base" (.v 0)))])), (.e (eOp gSum [(.v 2)]))])) (ds.map dcol) [.f (dSheet b r cs), .f (.int v), c] =
      .ok .nx [.f (dSheet b r cs), .f (.int (ds.foldl (fun v c => v * b + c.sum) v)), c'] := by
    intro ds
    induction ds with
    | nil => intro v c; exact ⟨c, rfl⟩
    | cons d ds ih =>
      intro v c
      obtain ⟨c', e⟩ := ih (v * b + d.sum) (.f (dcol d))
      refine ⟨c', ?_⟩
      rw [List.map_cons, forL_nx (st' := [.f (dSheet b r cs), .f (.int (v * b + d.sum)), .f (dcol d)]) (by simp -implicitDefEqProofs [-R.bind, gb, gMul_b h, dcol]), e]
      rfl
  obtain ⟨c', e⟩ := key cs.reverse 0 .n
  have ev : cs.reverse.foldl (fun (v : Int) c => v * b + c.sum) 0 = valS b cs := by
    unfold valS valF
    rw [List.foldl_reverse, List.foldr_map]
  rw [ev, List.map_reverse] at e
  simp -implicitDefEqProofs [-R.bind, b_m_Sheet_value, gc, e]
theorem isO_wr {b : Nat} {w : List Int} {l : Int} : isO "Written" (dWr b w l) = true := by
  show (("Written" : Str) == "Written") = true
  simp
theorem wr_PD {b : Nat} {w : List Int} {l : Int} : PD (.tup [.int b, .lst (w.map .int), .int l]) (.tuple [.int b, .list (w.map .int), .int l]) 2 := .tup (.cons .int (.cons (.lst .ints) (.cons .int .nil)))
theorem gIsC_wr {b : Nat} {w : List Int} {l : Int} : gIsC "Written" [dWr b w l] = some (.bl true) := by
  unfold gIsC
  simp only [isO_wr, if_true]
theorem wr_eq {b b' : Nat} {w w' : List Int} {l l' : Int} : f_m_Written_zeqz [.f (dWr b w l), .f (dWr b' w' l')] = .ok (.bl (decide (b = b' ∧ w = w' ∧ l = l'))) [.n, .n] := by
  rw [f_m_Written_zeqz, runF_eq (by rfl)]
  have c := gIsC_wr (b := b') (w := w') (l := l')
  have e := gEq_PD (wr_PD (b := b) (w := w) (l := l)) (wr_PD (b := b') (w := w') (l := l')) (by decide) (by decide)
  have ev : PyData.eqv (.tuple [.int b, .list (w.map .int), .int l]) (.tuple [.int b', .list (w'.map .int), .int l']) = decide (b = b' ∧ w = w' ∧ l = l') := by
    simp only [PyData.eqv, PyData.eqvAll, eqv_ints, Bool.and_true]
    by_cases h1 : b = b'
    · by_cases h2 : w = w'
      · by_cases h3 : l = l'
        · simp [h1, h2, h3]
        · simp [h1, h2, h3]
      · simp [h1, h2]
    · have : ((b : Int) == (b' : Int)) = false := beq_eq_false_iff_ne.mpr (by omega)
      simp [h1, this]
  rw [ev] at e
  simp -implicitDefEqProofs [-R.bind, b_m_Written_zeqz, c, e]
theorem gEqW {b b' : Nat} {w w' : List Int} {l l' : Int} : gDun (tag2 "Written" "Written") f_m_Written_zeqz [dWr b w l, dWr b' w' l'] = some (.bl (decide (b = b' ∧ w = w' ∧ l = l'))) :=
  gDun_of (by show (isO "Written" (dWr b w l) && isO "Written" (dWr b' w' l')) = true; rw [isO_wr, isO_wr]; rfl) wr_eq
theorem gNeW {b b' : Nat} {w w' : List Int} {l l' : Int} : gNeO "Written" f_m_Written_zeqz [dWr b w l, dWr b' w' l'] = some (.bl (!decide (b = b' ∧ w = w' ∧ l = l'))) := by
  unfold gNeO
  rw [show gDun (tag2 "Written" "Written") f_m_Written_zeqz [dWr b w l, dWr b' w' l'] = _ from gEqW]
/-- written less the sheet -/
theorem sub_ok {b b2 r : Nat} {w : List Int} {l : Int} {cs : List (List Int)} (h : b ≤ 12) (h2 : b2 ≤ 12) : f_m_Written_zsubz [.f (dWr b w l), .f (dSheet b2 r cs)] = .ok (.int (valF b w l - valS b2 cs)) [.n, .n] := by
  rw [f_m_Written_zsubz, runF_eq (by rfl)]
  have e1 := wr_value (b := b) (w := w) (l := l) h
  have e2 := sh_value (b := b2) (r := r) (cs := cs) h2
  simp -implicitDefEqProofs [-R.bind, b_m_Written_zsubz, e1, e2]
theorem gSubW {b b2 r : Nat} {w : List Int} {l : Int} {cs : List (List Int)} (h : b ≤ 12) (h2 : b2 ≤ 12) : gDun (tag2 "Written" "Sheet") f_m_Written_zsubz [dWr b w l, dSheet b2 r cs] = some (.int (valF b w l - valS b2 cs)) :=
  gDun_of (by show (isO "Written" (dWr b w l) && isO "Sheet" (dSheet b2 r cs)) = true; rw [isO_wr, isO_sh]; rfl) (sub_ok h h2)
theorem rest_ok {b : Nat} {w : List Int} {l m : Int} (h : b ≤ 12) (hm : 0 < m) : f_m_Written_rest [.f (dWr b w l), .f (.int m)] = .ok (.int (valF b w l % m)) [.n, .n] := by
  rw [f_m_Written_rest, runF_eq (by rfl)]
  have e1 := wr_value (b := b) (w := w) (l := l) h
  simp -implicitDefEqProofs [-R.bind, b_m_Written_rest, e1, gMod_int hm]
theorem fr_sh {b r : Nat} {cs : List (List Int)} {st : Sl} : kFr (dSheet b r cs) st = .ok (dSheet b r cs) st := by
  unfold kFr
  have : fzOk (dSheet b r cs) = true := rfl
  simp only [this]
theorem gSl_lo_hi {ds : List D} {lo hi : Nat} (h1 : lo ≤ hi) (h2 : hi ≤ ds.length) : gSl (.lst ds) (some (lo : Int)) (some (hi : Int)) = some (.lst ((ds.drop lo).take (hi - lo))) := by
  show some (D.lst (Ev.cutD ds (some (lo : Int)) (some (hi : Int)))) = _
  unfold Ev.cutD
  rw [HT.sIx_nat, HT.sIx_nat, Nat.min_eq_left (Nat.le_trans h1 h2), Nat.min_eq_left h2]
theorem cut_ok {b r lo hi : Nat} {cs : List (List Int)} (h : ShOk b r cs) (h1 : lo ≤ hi) (h2 : hi ≤ cs.length) : ShOk b r ((cs.drop lo).take (hi - lo)) ∧ f_m_Sheet_cut [.f (dSheet b r cs), .f (.int lo), .f (.int hi)] = .ok (dSheet b r ((cs.drop lo).take (hi - lo))) [.n, .n, .n] := by
  have ok : ShOk b r ((cs.drop lo).take (hi - lo)) := ⟨h.b2, h.b12, h.r1, h.r4, by have := h.len; simp; omega, fun c m => h.cols c (List.mem_of_mem_drop (List.mem_of_mem_take m))⟩
  refine ⟨ok, ?_⟩
  rw [f_m_Sheet_cut, runF_eq (by rfl)]
  have ini := sheet_init ok
  have gb : gFld "held_base" [dSheet b r cs] = some (.int b) := rfl
  have gr : gFld "held_rows" [dSheet b r cs] = some (.int r) := rfl
  have gc : gFld "held_columns" [dSheet b r cs] = some (.lst (cs.map dcol)) := rfl
  have s := gSl_lo_hi (ds := cs.map dcol) h1 (by simpa using h2)
  rw [← List.map_drop, ← List.map_take] at s
  simp -implicitDefEqProofs [-R.bind, -List.map_drop, -List.map_take, b_m_Sheet_cut, gb, gr, gc, s, ini, fr_sh]
end K81
namespace K81
open PySem PySem.Spec PyProof.Rows L2 Ev
def nD (j : Nat) : D := .int j
theorem rangeD_nD {n : Nat} : rangeD 0 n = (List.range n).map nD := by
  unfold rangeD nD
  simp
theorem sum_le {α : Type} {f : α → Nat} {N : Nat} : ∀ {l : List α}, (∀ a ∈ l, f a ≤ N) → (l.map f).sum ≤ l.length * N
  | [], _ => by simp
  | a :: l, h => by
    have h1 := h a List.mem_cons_self
    have h2 := sum_le fun b m => h b (List.mem_cons_of_mem a m)
    rw [List.map_cons, List.sum_cons, List.length_cons, Nat.add_mul]
    omega
def offs (b : Nat) : List Nat := (List.range (b - 1)).map (1 + ·)
def allG (b r : Nat) : List Dg := [.forget, .again] ++ (offs b).map .off ++ ((List.range r).flatMap fun j => (offs b).map (.read j)) ++ (List.range r).map .copy ++ [.swap, .out, .twice]
theorem mem_offs {b d : Nat} : d ∈ offs b ↔ 1 ≤ d ∧ d < b := by
  unfold offs
  rw [List.mem_map]
  constructor
  · rintro ⟨i, m, rfl⟩
    have := List.mem_range.mp m
    omega
  · rintro ⟨h1, h2⟩
    exact ⟨d - 1, List.mem_range.mpr (by omega), by omega⟩
theorem mem_allG {b r : Nat} {x : Dg} : x ∈ allG b r ↔ x.Ok b r := by
  unfold allG
  simp only [List.mem_append, List.mem_map, List.mem_flatMap, List.mem_range, mem_offs, List.mem_cons, List.not_mem_nil, or_false]
  cases x <;> simp [Dg.Ok]
theorem offs_nodup {b : Nat} : (offs b).Nodup := by
  unfold offs List.Nodup
  rw [List.pairwise_map]
  exact List.nodup_range.imp fun h e => h (by omega)
theorem allG_nodup {b r : Nat} : (allG b r).Nodup := by
  unfold allG List.Nodup
  simp only [List.pairwise_append, List.pairwise_map, List.pairwise_flatMap, List.mem_append, List.mem_map, List.mem_flatMap, List.mem_range, List.mem_cons, List.not_mem_nil, or_false]
  have o := offs_nodup (b := b)
  have rn : (List.range r).Nodup := List.nodup_range
  refine ⟨⟨⟨⟨by decide, o.imp fun h e => h (by injection e), ?_⟩, ⟨fun j _ => o.imp fun h e => h (by injection e), rn.imp fun h x hx y hy e => ?_⟩, ?_⟩, rn.imp fun h e => h (by injection e), ?_⟩, by decide, ?_⟩
  · rintro a (rfl | rfl) c ⟨d, _, rfl⟩ <;> intro e <;> cases e
  · obtain ⟨_, _, rfl⟩ := hx
    obtain ⟨_, _, rfl⟩ := hy
    injection e with e1 _
    exact h e1
  · rintro a ((rfl | rfl) | ⟨d, _, rfl⟩) c ⟨j, _, d, _, rfl⟩ <;> intro e <;> cases e
  · rintro a (((rfl | rfl) | ⟨d, _, rfl⟩) | ⟨j, _, d, _, rfl⟩) c ⟨j, _, rfl⟩ <;> intro e <;> cases e
  · rintro a ((((rfl | rfl) | ⟨d, _, rfl⟩) | ⟨j, _, d, _, rfl⟩) | ⟨j, _, rfl⟩) c (rfl | rfl | rfl) <;> intro e <;> cases e
def held (b r : Nat) (ks : List Dg) : List Dg := (allG b r).filter fun x => decide (x ∈ ks)
theorem held_perm {b r : Nat} {ks : List Dg} (nd : ks.Nodup) (h : ∀ x ∈ ks, x.Ok b r) : (held b r ks).Perm ks := by
  refine (List.perm_ext_iff_of_nodup (allG_nodup.filter _) nd).mpr fun x => ?_
  rw [List.mem_filter, mem_allG]
  simp only [decide_eq_true_eq]
  exact ⟨fun z => z.2, fun z => ⟨h x z, z⟩⟩
def all1 (b : Nat) : List Dg := [.forget, .again] ++ (offs b).map .off
def all2 (b r : Nat) : List Dg := all1 b ++ ((List.range r).flatMap fun j => (offs b).map (.read j))
def all3 (b r : Nat) : List Dg := all2 b r ++ (List.range r).map .copy
theorem all_deeds {b r : Nat} (b2 : 2 ≤ b) (b12 : b ≤ 12) (r4 : r ≤ 4) : f_p_all_deeds [.f (.int b), .f (.int r)] = .ok (.lst ((allG b r).map Dg.d)) [.n, .n] := by
  rw [f_p_all_deeds, runF_eq (by rfl)]
  have bt : ((b : Int) - 1).toNat = b - 1 := by omega
  have k2 : ∀ st : Sl, kR2b (.int 1) (.int b) st = .ok ((List.range (b - 1)).map fun i : Nat => .int (1 + (i : Int))) st := fun st => by
    rw [kR2b_int (by omega) (by omega), bt]; rfl
  have k1 : ∀ st : Sl, kI1 (.int r) st = .ok ((List.range r).map nD) st := fun st => by rw [kI1_nat (by omega), rangeD_nD]
  have e1 : ∀ (A B C X : Cell), lcL [3] (tgN 3) mYes (eTup [(eC (.str "off")), (eV 3)]) ((List.range (b - 1)).map fun i : Nat => .int (1 + (i : Int))) [A, B, C, .n, X] = .ok (((offs b).map .off).map Dg.d) [A, B, C, .n, X] := fun A B C X => by
    rw [lcL_mapA _ (fun i : Nat => (Dg.off (1 + i)).d) fun i m => by simp -implicitDefEqProofs [-R.bind, Dg.d, Dg.w, Dg.a]]
    congr 1
    unfold offs
    rw [List.map_map, List.map_map]; rfl
  have e3 : ∀ (A B C X : Cell), lcL [4] (tgN 4) mYes (eTup [(eC (.str "copy")), (eV 4)]) ((List.range r).map nD) [A, B, C, X, .n] = .ok (((List.range r).map .copy).map Dg.d) [A, B, C, X, .n] := fun A B C X => by
    rw [lcL_mapA _ (fun i : Nat => (Dg.copy i).d) fun i m => by simp -implicitDefEqProofs [-R.bind, Dg.d, Dg.w, Dg.a, nD]]
    congr 1
    rw [List.map_map]; rfl
  have e2i : ∀ (A C : Cell) (j : Nat), lcL [3] (tgN 3) mYes (eTup [(eC (.str "read")), (eV 4), (eV 3)]) ((List.range (b - 1)).map fun i : Nat => .int (1 + (i : Int))) [.f (.int b), A, C, .n, .f (nD j)] = .ok (((offs b).map (.read j)).map Dg.d) [.f (.int b), A, C, .n, .f (nD j)] := fun A C j => by
    rw [lcL_mapA _ (fun i : Nat => (Dg.read j (1 + i)).d) fun i m => by simp -implicitDefEqProofs [-R.bind, Dg.d, Dg.w, Dg.a, nD]]
    congr 1
    unfold offs
    rw [List.map_map, List.map_map]; rfl
  have e2 : ∀ (A C : Cell), lcL2 [4, 3] [3] (tgN 4) mYes (itR2 (eC (.int 1)) (eV 0)) (tgN 3) mYes (eTup [(eC (.str "read")), (eV 4), (eV 3)]) ((List.range r).map nD) [.f (.int b), A, C, .n, .n] = .ok (((List.range r).flatMap fun j => (offs b).map (.read j)).map Dg.d) [.f (.int b), A, C, .n, .n] := fun A C => by
    rw [lcL2_flat _ (fun j => ((offs b).map (.read j)).map Dg.d) fun j m => by simp -implicitDefEqProofs [-R.bind, -List.map_map, k2, e2i]]
    rw [List.map_flatMap]
  have ol : (offs b).length ≤ 11 := by unfold offs; simp; omega
  have fl : ((List.range r).flatMap fun j => (offs b).map (Dg.read j)).length ≤ 44 := by
    rw [List.length_flatMap]
    have := sum_le (f := fun j => ((offs b).map (Dg.read j)).length) (N := 11) (l := List.range r) fun j m => by rw [List.length_map]; exact ol
    rw [List.length_range] at this
    exact Nat.le_trans this (by omega)
  have l1 : (((offs b).map Dg.off).map Dg.d).length < sizeLine := by simp; exact szl (by omega)
  have l2 : (((List.range r).flatMap fun j => (offs b).map (Dg.read j)).map Dg.d).length < sizeLine := by rw [List.length_map]; exact szl (by omega)
  have l3 : (((List.range r).map Dg.copy).map Dg.d).length < sizeLine := by simp; exact szl (by omega)
  have m1 : (all1 b).length = 2 + (offs b).length := by simp [all1]; omega
  have m2 : (all2 b r).length = (all1 b).length + ((List.range r).flatMap fun j => (offs b).map (Dg.read j)).length := by unfold all2; rw [List.length_append]
  have m3 : (all3 b r).length = (all2 b r).length + r := by simp [all3]
  have g1 : gAdd [.lst [.tup [.str "forget"], .tup [.str "again"]], .lst (((offs b).map Dg.off).map Dg.d)] = some (.lst ((all1 b).map Dg.d)) := by
    rw [gAdd_lst (by rw [List.length_map, List.length_map]; exact Nat.le_of_lt (szl (by simp only [List.length_cons, List.length_nil]; omega)))]
    unfold all1
    rw [List.map_append]; rfl
  have g2 : gAdd [.lst ((all1 b).map Dg.d), .lst (((List.range r).flatMap fun j => (offs b).map (Dg.read j)).map Dg.d)] = some (.lst ((all2 b r).map Dg.d)) := by
    rw [gAdd_lst (by rw [List.length_map, List.length_map]; exact Nat.le_of_lt (szl (by omega)))]
    rw [← List.map_append]; rfl
  have g3 : gAdd [.lst ((all2 b r).map Dg.d), .lst (((List.range r).map Dg.copy).map Dg.d)] = some (.lst ((all3 b r).map Dg.d)) := by
    rw [gAdd_lst (by rw [List.length_map, List.length_map, List.length_map, List.length_range]; exact Nat.le_of_lt (szl (by omega)))]
    rw [← List.map_append]; rfl
  have g4 : gAdd [.lst ((all3 b r).map Dg.d), .lst [.tup [.str "swap"], .tup [.str "out"], .tup [.str "twice"]]] = some (.lst ((allG b r).map Dg.d)) := by
    rw [gAdd_lst (by rw [List.length_map]; exact Nat.le_of_lt (szl (by simp only [List.length_cons, List.length_nil]; omega)))]
    have : allG b r = all3 b r ++ [.swap, .out, .twice] := rfl
    rw [this, List.map_append]; rfl
  generalize (((offs b).map Dg.off).map Dg.d) = y1 at *
  generalize (((List.range r).flatMap fun j => (offs b).map (Dg.read j)).map Dg.d) = y2 at *
  generalize (((List.range r).map Dg.copy).map Dg.d) = y3 at *
  simp -implicitDefEqProofs [-R.bind, b_p_all_deeds, k2, k1, e1, kLcB_eq l1, g1, e2, kLcB_eq l2, g2, e3, kLcB_eq l3, g3, g4]
end K81
namespace K81
open PySem PySem.Spec PyProof.Rows L2 Ev
def digs (b v : Int) : Nat → List Int
  | 0 => []
  | n + 1 => v % b :: digs b (v / b) n
@[simp] theorem digs_len {b v : Int} {n : Nat} : (digs b v n).length = n := by
  induction n generalizing v with
  | zero => rfl
  | succ n ih => rw [digs, List.length_cons, ih]
theorem valS_cons {b : Int} {c : List Int} {cs : List (List Int)} : valS b (c :: cs) = valS b cs * b + c.sum := rfl
theorem valF_cons {b l : Int} {d : Int} {ds : List Int} : valF b (d :: ds) l = valF b ds l * b + d := rfl
/-- adding rightly from a carry -/
theorem fold_right {b : Int} (hb : 0 < b) : ∀ (cs : List (List Int)) (n : Nat) (w : List Int) (y : Int),
    cs.foldl (fun a c => stepR b c a) ⟨n, w, y, none⟩ = ⟨n + cs.length, w ++ digs b (valS b cs + y) cs.length, (valS b cs + y) / b ^ cs.length, none⟩
  | [], n, w, y => by simp [digs, valS, valF]
  | c :: cs, n, w, y => by
    rw [List.foldl_cons]
    show cs.foldl _ (Ad.mk (n + 1) (w ++ [(c.sum + y) % b]) ((c.sum + y) / b) none) = _
    rw [fold_right hb cs]
    have e1 : (valS b (c :: cs) + y) % b = (c.sum + y) % b := by
      rw [valS_cons, Int.add_assoc, Int.add_comm, Int.add_mul_emod_self_right]
    have e2 : (valS b (c :: cs) + y) / b = valS b cs + (c.sum + y) / b := by
      rw [valS_cons, Int.add_assoc, Int.add_comm, Int.add_mul_ediv_right _ _ (by omega), Int.add_comm]
    have e3 : (valS b (c :: cs) + y) / b ^ (cs.length + 1) = (valS b cs + (c.sum + y) / b) / b ^ cs.length := by
      rw [Int.pow_succ, Int.mul_comm, ← Int.ediv_ediv_of_nonneg (by omega), e2]
    simp only [List.length_cons, digs, e1, e2, e3]
    congr 1
    · omega
    · simp
theorem endA_right {b : Int} (hb : 0 < b) {cs : List (List Int)} : endA b cs A0 = ⟨cs.length, digs b (valS b cs) cs.length, valS b cs / b ^ cs.length, none⟩ := by
  unfold endA runA A0
  simp only [List.drop_zero, Nat.sub_zero, List.take_length]
  rw [fold_right hb]
  simp
theorem add_right' {b r : Nat} {cs : List (List Int)} (h : ShOk b r cs) : f_p_add_right [.f (dSheet b r cs)] = .ok (dWr b (digs b (valS b cs) cs.length) (valS b cs / b ^ cs.length)) [.n] := by
  rw [add_right h, endA_right (by have := h.b2; omega)]
theorem digs_add {b : Int} (hb : 0 < b) : ∀ (n m : Nat) (v : Int), digs b v (n + m) = digs b v n ++ digs b (v / b ^ n) m
  | 0, m, v => by simp [digs]
  | n + 1, m, v => by
    rw [show n + 1 + m = (n + m) + 1 from by omega, digs, digs_add hb n m, digs, Int.pow_succ, Int.mul_comm, ← Int.ediv_ediv_of_nonneg (by omega)]
    rfl
theorem digs_val {b : Int} (hb : 0 < b) : ∀ (n : Nat) (v l : Int), valF b (digs b v n) l = v % b ^ n + l * b ^ n
  | 0, v, l => by simp [digs, valF, Int.emod_one]
  | n + 1, v, l => by
    rw [digs, valF_cons, digs_val hb n]
    have h1 : v % b ^ (n + 1) = v / b % b ^ n * b + v % b := by
      have a1 := Int.emod_add_mul_ediv v b
      have a2 := Int.emod_add_mul_ediv (v / b) (b ^ n)
      have p : 0 < b ^ n := Int.pow_pos hb
      have r1 := Int.emod_nonneg v (show b ≠ 0 by omega)
      have r2 := Int.emod_lt_of_pos v hb
      have r3 := Int.emod_nonneg (v / b) (show b ^ n ≠ 0 by omega)
      have r4 := Int.emod_lt_of_pos (v / b) p
      have e : v = (v / b % b ^ n * b + v % b) + b ^ (n + 1) * (v / b / b ^ n) := by
        generalize v / b / b ^ n = q at *
        generalize v / b % b ^ n = t at *
        rw [← a2] at a1
        rw [Int.pow_succ]
        have : b * (t + b ^ n * q) = t * b + b ^ n * b * q := by
          rw [Int.mul_add, Int.mul_comm b t, ← Int.mul_assoc, Int.mul_comm b (b ^ n)]
        omega
      have lt : v / b % b ^ n * b + v % b < b ^ (n + 1) := by
        rw [Int.pow_succ]
        have : (v / b % b ^ n + 1) * b ≤ b ^ n * b := Int.mul_le_mul_of_nonneg_right (by omega) (by omega)
        rw [Int.add_mul, Int.one_mul] at this
        omega
      have ge : 0 ≤ v / b % b ^ n * b + v % b := Int.add_nonneg (Int.mul_nonneg r3 (by omega)) r1
      conv => lhs; rw [e]
      rw [Int.add_mul_emod_self_left, Int.emod_eq_of_lt ge lt]
    rw [h1, Int.pow_succ, Int.add_mul, Int.mul_assoc]
    omega
theorem digs_dig {b : Int} (hb : 0 < b) : ∀ {n : Nat} {v d : Int}, d ∈ digs b v n → 0 ≤ d ∧ d < b
  | n + 1, v, d, m => by
    rw [digs] at m
    rcases List.mem_cons.mp m with e | m
    · subst e; exact ⟨Int.emod_nonneg _ (by omega), Int.emod_lt_of_pos _ hb⟩
    · exact digs_dig hb m
theorem valF_add {α : Type} {b : Int} {f g : α → Int} : ∀ (l : List α), valF b (l.map fun i => f i + g i) 0 = valF b (l.map f) 0 + valF b (l.map g) 0
  | [] => rfl
  | x :: l => by
    rw [List.map_cons, List.map_cons, List.map_cons, valF_cons, valF_cons, valF_cons, valF_add l, Int.add_mul]
    omega
theorem valF_zero {α : Type} {b : Int} : ∀ (l : List α), valF b (l.map fun _ => 0) 0 = 0
  | [] => rfl
  | x :: l => by rw [List.map_cons, valF_cons, valF_zero l]; simp
theorem range_getD {w : List Int} {n : Nat} (h : w.length = n) : (List.range n).map (fun i => w.getD i 0) = w := by
  subst h
  apply List.ext_getElem
  · simp
  · intro i h1 h2
    simp [h2]
theorem sum_bound {b : Int} : ∀ {c : List Int}, (∀ d ∈ c, 0 ≤ d ∧ d < b) → 0 ≤ c.sum ∧ c.sum ≤ c.length * (b - 1)
  | [], _ => by simp
  | d :: c, h => by
    obtain ⟨h1, h2⟩ := sum_bound (b := b) fun e m => h e (List.mem_cons_of_mem _ m)
    obtain ⟨h3, h4⟩ := h d List.mem_cons_self
    rw [List.sum_cons, List.length_cons, Int.natCast_add, Int.add_mul]
    simp
    omega
theorem val_bound {b : Nat} {r : Nat} (hb : 1 ≤ b) : ∀ {cs : List (List Int)}, (∀ c ∈ cs, ColOk b r c) → 0 ≤ valS b cs ∧ valS b cs ≤ r * ((b : Int) ^ cs.length - 1)
  | [], _ => by simp [valS, valF]
  | c :: cs, h => by
    obtain ⟨h1, h2⟩ := val_bound hb fun e m => h e (List.mem_cons_of_mem _ m)
    obtain ⟨l, hd⟩ := h c List.mem_cons_self
    obtain ⟨s1, s2⟩ := sum_bound hd
    rw [l] at s2
    rw [valS_cons, List.length_cons, Int.pow_succ]
    refine ⟨Int.add_nonneg (Int.mul_nonneg h1 (by omega)) s1, ?_⟩
    have m := Int.mul_le_mul_of_nonneg_right h2 (show (0 : Int) ≤ b by omega)
    have e : (r : Int) * ((b : Int) ^ cs.length * b - 1) = r * ((b : Int) ^ cs.length - 1) * b + r * (b - 1) := by
      rw [Int.mul_sub, Int.mul_sub, Int.mul_sub, Int.sub_mul, Int.mul_assoc, Int.mul_one]; omega
    omega
/-- four rows' sum has at most two figures more -/
theorem val_lt {b r : Nat} {cs : List (List Int)} (h : ShOk b r cs) {m : Nat} (hm : cs.length + 2 ≤ m) : 0 ≤ valS b cs ∧ valS b cs < (b : Int) ^ m := by
  have hb := h.b2
  obtain ⟨h1, h2⟩ := val_bound (r := r) (by omega : 1 ≤ b) h.cols
  refine ⟨h1, ?_⟩
  obtain ⟨k, rfl⟩ : ∃ k, m = cs.length + 2 + k := ⟨m - (cs.length + 2), by omega⟩
  have p : (0 : Int) < (b : Int) ^ cs.length := Int.pow_pos (by omega)
  have q : (4 : Int) ≤ (b : Int) ^ 2 := by
    have : (2 : Int) * 2 ≤ (b : Int) * b := Int.mul_le_mul (by omega) (by omega) (by omega) (by omega)
    rw [Int.pow_succ, Int.pow_succ, Int.pow_zero, Int.one_mul]; omega
  have k1 : (1 : Int) ≤ (b : Int) ^ k := by have : (0 : Int) < (b : Int) ^ k := Int.pow_pos (by omega); omega
  have a1 : (b : Int) ^ cs.length * 4 ≤ (b : Int) ^ cs.length * (b : Int) ^ 2 := Int.mul_le_mul_of_nonneg_left q (by omega)
  have a2 : (b : Int) ^ cs.length * (b : Int) ^ 2 * 1 ≤ (b : Int) ^ cs.length * (b : Int) ^ 2 * (b : Int) ^ k := Int.mul_le_mul_of_nonneg_left k1 (Int.mul_nonneg (by omega) (by omega))
  have a3 : (r : Int) * ((b : Int) ^ cs.length - 1) ≤ 4 * ((b : Int) ^ cs.length - 1) := Int.mul_le_mul_of_nonneg_right (by have := h.r4; omega) (by omega)
  rw [Int.pow_add, Int.pow_add]
  omega
/-- what a sum's figures are worth -/
theorem digs_all {b : Int} (hb : 0 < b) {v : Int} {n : Nat} : valF b (digs b v n) (v / b ^ n) = v := by
  rw [digs_val hb]
  have := Int.emod_add_mul_ediv v (b ^ n)
  rw [Int.mul_comm] at this
  exact this
theorem digs_small {b : Int} (hb : 0 < b) {v : Int} {n : Nat} (h0 : 0 ≤ v) (h1 : v < b ^ n) : valF b (digs b v n) 0 = v := by
  rw [digs_val hb, Int.emod_eq_of_lt h0 h1]; simp
theorem valF_app {b l : Int} : ∀ {x y : List Int}, valF b (x ++ y) l = valF b x (valF b y l)
  | [], y => rfl
  | d :: x, y => by rw [List.cons_append, valF_cons, valF_cons, valF_app]
theorem valS_app {b : Int} {rest : List (List Int)} : ∀ {pre : List (List Int)}, valS b (pre ++ rest) = valS b pre + valS b rest * b ^ pre.length
  | [] => by simp [valS, valF]
  | c :: pre => by
    rw [List.cons_append, valS_cons, valS_cons, valS_app, List.length_cons, Int.pow_succ, Int.add_mul, Int.mul_assoc]
    omega
theorem runA_pre {b : Int} (hb : 0 < b) {pre rest : List (List Int)} : runA b (pre ++ rest) A0 pre.length = ⟨pre.length, digs b (valS b pre) pre.length, valS b pre / b ^ pre.length, none⟩ := by
  unfold runA A0
  simp only [List.drop_zero, Nat.sub_zero, List.take_left']
  rw [fold_right hb]
  simp
end K81
namespace K81
open PySem PySem.Spec PyProof.Rows L2 Ev
/-- so many columns done, each with its deed -/
def colS (b : Int) (cs : List (List Int)) (de : Nat → Option Dg) : Nat → Ad → Option Ad
  | 0, a => some a
  | k + 1, a => (stepG b cs (cs.getD a.at_ []) a (de a.at_)).bind fun a' => colS b cs de k a'
/-- the deed at a column -/
def look : List (Nat × Dg) → Nat → Option Dg
  | [], _ => none
  | (t, x) :: l, i => if i = t then some x else look l i
/-- ascending columns from lo on, none behind a swap -/
def asc : Nat → List (Nat × Dg) → Prop
  | _, [] => True
  | lo, (t, x) :: l => lo ≤ t ∧ asc (if x = .swap then t + 2 else t + 1) l
theorem asc_mono : ∀ {l : List (Nat × Dg)} {lo lo' : Nat}, lo' ≤ lo → asc lo l → asc lo' l
  | [], _, _, _, _ => trivial
  | (t, x) :: l, lo, lo', h, ⟨h1, h2⟩ => ⟨by omega, h2⟩
theorem look_low : ∀ {l : List (Nat × Dg)} {lo i : Nat}, asc lo l → i < lo → look l i = none
  | [], _, _, _, _ => rfl
  | (t, x) :: l, lo, i, ⟨h1, h2⟩, hi => by
    unfold look
    rw [if_neg (by omega)]
    exact look_low h2 (by split <;> omega)
section
variable {b : Int} {cs : List (List Int)} {de : Nat → Option Dg}
theorem stepG_at {c : List Int} {a a' : Ad} {d : Option Dg} (e : stepG b cs c a d = some a') : a'.at_ = a.at_ + 1 := by
  unfold stepG at e
  split at e
  · cases e
  · cases hg : doneG b c (bfAt cs a.at_) a.carry d with
    | none => rw [hg] at e; cases e
    | some p => rw [hg] at e; simp only [Option.map_some, Option.some.injEq] at e; rw [← e, putG_at]
theorem colS_at : ∀ {k : Nat} {a a' : Ad}, colS b cs de k a = some a' → a'.at_ = a.at_ + k
  | 0, a, a', e => by cases e; rfl
  | k + 1, a, a', e => by
    unfold colS at e
    cases hg : stepG b cs (cs.getD a.at_ []) a (de a.at_) with
    | none => rw [hg] at e; cases e
    | some a1 =>
      rw [hg] at e
      have := colS_at (k := k) e
      rw [stepG_at hg] at this
      omega
theorem colS_add : ∀ {k m : Nat} {a : Ad}, colS b cs de (k + m) a = (colS b cs de k a).bind fun a' => colS b cs de m a'
  | 0, m, a => by rw [Nat.zero_add]; rfl
  | k + 1, m, a => by
    rw [show k + 1 + m = (k + m) + 1 from by omega]
    show (stepG b cs (cs.getD a.at_ []) a (de a.at_)).bind (fun a' => colS b cs de (k + m) a') = ((stepG b cs (cs.getD a.at_ []) a (de a.at_)).bind fun a' => colS b cs de k a').bind fun a' => colS b cs de m a'
    cases stepG b cs (cs.getD a.at_ []) a (de a.at_) with
    | none => rfl
    | some a1 => exact colS_add
/-- what the deeds are elsewhere does not matter -/
theorem colS_congr {de' : Nat → Option Dg} : ∀ {k : Nat} {a : Ad}, (∀ i, a.at_ ≤ i → i < a.at_ + k → de i = de' i) → colS b cs de k a = colS b cs de' k a
  | 0, a, _ => rfl
  | k + 1, a, h => by
    unfold colS
    rw [h a.at_ (by omega) (by omega)]
    cases hg : stepG b cs (cs.getD a.at_ []) a (de' a.at_) with
    | none => rfl
    | some a1 =>
      refine colS_congr fun i h1 h2 => h i ?_ ?_
      · have := stepG_at hg; omega
      · have := stepG_at hg; omega
theorem runA_col {t : Nat} {a : Ad} (ht : t ≤ cs.length) : ∀ (k : Nat) (a : Ad), t - a.at_ = k → colS b cs (fun _ => none) k a = some (runA b cs a t)
  | 0, a, h => by unfold runA; rw [h]; rfl
  | k + 1, a, h => by
    have hl : a.at_ < cs.length := by omega
    unfold colS
    rw [stepG_non]
    have e : cs.getD a.at_ [] = cs[a.at_] := by simp [hl]
    have o2 : (stepR b cs[a.at_] a).at_ = a.at_ + 1 := putG_at
    rw [e, Option.bind_some, runA_col (a := a) ht k (stepR b cs[a.at_] a) (by rw [o2]; omega)]
    congr 1
    unfold runA
    rw [o2, List.drop_eq_getElem_cons hl, show t - a.at_ = (t - (a.at_ + 1)) + 1 from by omega, List.take_succ_cons, List.foldl_cons]
theorem free_step {c : List Int} {a a' : Ad} {x : Dg} (e : stepG b cs c a (some x) = some a') (hw : a.wait = none) : freeA a' = (if x = .swap then a.at_ + 2 else a.at_ + 1) := by
  unfold stepG at e
  split at e
  · cases e
  · cases hg : doneG b c (bfAt cs a.at_) a.carry (some x) with
    | none => rw [hg] at e; cases e
    | some p =>
      rw [hg] at e
      simp only [Option.map_some, Option.some.injEq] at e
      subst e
      obtain ⟨n, w, y, wt⟩ := a
      simp only at hw
      subst hw
      unfold putG freeA
      simp only [Option.some.injEq]
      by_cases hx : x = .swap
      · simp [hx]
      · simp [hx]
theorem wait_run {t : Nat} {a : Ad} (h : freeA a ≤ t) (ht : t ≤ cs.length) : (runA b cs a t).wait = none := by
  have fold : ∀ (l : List (List Int)) (a : Ad), a.wait = none → (l.foldl (fun a c => stepR b c a) a).wait = none := by
    intro l
    induction l with
    | nil => intro a h; exact h
    | cons c l ih =>
      intro a h
      refine ih _ ?_
      obtain ⟨n, w, y, wt⟩ := a
      simp only at h
      subst h
      rfl
  cases hw : a.wait with
  | none => exact fold _ a hw
  | some x =>
    unfold freeA at h
    rw [hw] at h
    simp only at h
    unfold runA
    have hl : a.at_ < cs.length := by omega
    rw [List.drop_eq_getElem_cons hl, show t - a.at_ = (t - (a.at_ + 1)) + 1 from by omega, List.take_succ_cons, List.foldl_cons]
    refine fold _ _ ?_
    obtain ⟨n, w, y, wt⟩ := a
    simp only at hw
    subst hw
    rfl
/-- slips at ascending columns: the same, column by column -/
theorem goS_col : ∀ {l : List (Nat × Dg)} {a : Ad}, a.at_ ≤ cs.length → freeA a ≤ cs.length ∨ True → asc (freeA a) l → (∀ s ∈ l, s.1 < cs.length) → (goS b cs a l).map (endA b cs) = colS b cs (look l) (cs.length - a.at_) a
  | [], a, ha, _, _, _ => by
    unfold goS endA
    rw [Option.map_some, ← runA_col (a := a) (Nat.le_refl _) (cs.length - a.at_) a rfl]
    exact colS_congr fun i _ _ => rfl
  | (t, x) :: l, a, ha, _, ⟨h1, h2⟩, hl => by
    have ht := hl (t, x) List.mem_cons_self
    simp only at ht
    have al := at_le h1
    unfold goS
    rw [if_pos ⟨h1, ht⟩]
    have split : cs.length - a.at_ = (t - a.at_) + ((cs.length - (t + 1)) + 1) := by omega
    have e1 : colS b cs (look ((t, x) :: l)) (t - a.at_) a = some (runA b cs a t) := by
      rw [← runA_col (a := a) (by omega) (t - a.at_) a rfl]
      refine colS_congr fun i hi1 hi2 => ?_
      unfold look
      rw [if_neg (by omega)]
      exact look_low h2 (by split <;> omega)
    rw [split, colS_add, e1, Option.bind_some]
    have at1 : (runA b cs a t).at_ = t := by
      have := colS_at e1; omega
    rw [colS]
    rw [at1]
    have lk : look ((t, x) :: l) t = some x := by unfold look; rw [if_pos rfl]
    rw [lk]
    cases hg : stepG b cs (cs.getD t []) (runA b cs a t) (some x) with
    | none => rfl
    | some a1 =>
      rw [Option.bind_some, Option.bind_some]
      have a1t : a1.at_ = t + 1 := by rw [stepG_at hg, at1]
      have fr := free_step hg (wait_run h1 (by omega))
      rw [at1] at fr
      rw [goS_col (l := l) (a := a1) (by omega) (.inr trivial) (by rw [fr]; exact h2) fun s m => hl s (List.mem_cons_of_mem _ m), a1t]
      refine colS_congr fun i hi1 hi2 => ?_
      unfold look
      rw [if_neg (by omega)]
      cases l with
      | nil => rfl
      | cons p l => rfl
end
end K81
namespace K81
open PySem PySem.Spec PyProof.Rows L2 Ev
inductive Act where
  | keep | off (d : Nat) | swp
def actsFig (b : Int) : List Act → List Int → List Int
  | .keep :: l, f :: fs => f :: actsFig b l fs
  | .off d :: l, f :: fs => (f + d) % b :: actsFig b l fs
  | .swp :: l, f :: g :: fs => g :: f :: actsFig b l fs
  | _, fs => fs
def deAt : List Act → Nat → Option Dg
  | [], _ => none
  | .keep :: _, 0 => none
  | .keep :: l, i + 1 => deAt l i
  | .off d :: _, 0 => some (.off d)
  | .off _ :: l, i + 1 => deAt l i
  | .swp :: _, 0 => some .swap
  | .swp :: _, 1 => none
  | .swp :: l, i + 2 => deAt l i
def fits : List Act → Nat → Prop
  | [], _ => True
  | .swp :: l, n + 2 => fits l n
  | .swp :: _, _ => False
  | .keep :: l, n + 1 => fits l n
  | .off _ :: l, n + 1 => fits l n
  | _ :: _, 0 => False
theorem val_step {b : Int} (hb : 0 < b) {c : List Int} {rest : List (List Int)} {y : Int} : digs b (valS b (c :: rest) + y) (rest.length + 1) = (c.sum + y) % b :: digs b (valS b rest + (c.sum + y) / b) rest.length ∧ (valS b (c :: rest) + y) / b ^ (rest.length + 1) = (valS b rest + (c.sum + y) / b) / b ^ rest.length := by
  have e1 : (valS b (c :: rest) + y) % b = (c.sum + y) % b := by
    rw [valS_cons, Int.add_assoc, Int.add_comm, Int.add_mul_emod_self_right]
  have e2 : (valS b (c :: rest) + y) / b = valS b rest + (c.sum + y) / b := by
    rw [valS_cons, Int.add_assoc, Int.add_comm, Int.add_mul_ediv_right _ _ (by omega), Int.add_comm]
  refine ⟨by rw [digs, e1, e2], ?_⟩
  rw [Int.pow_succ, Int.mul_comm, ← Int.ediv_ediv_of_nonneg (by omega), e2]
theorem acts_col {b : Int} (hb : 0 < b) {cs : List (List Int)} {de : Nat → Option Dg} : ∀ (acts : List Act) (rest : List (List Int)) (i : Nat) (w : List Int) (y : Int), i ≤ cs.length → cs.drop i = rest → fits acts rest.length → (∀ j, de (i + j) = deAt acts j) →
    colS b cs de rest.length ⟨i, w, y, none⟩ = some ⟨i + rest.length, w ++ actsFig b acts (digs b (valS b rest + y) rest.length), (valS b rest + y) / b ^ rest.length, none⟩
  | [], rest, i, w, y, hi, hr, _, hd => by
    have e : colS b cs de rest.length ⟨i, w, y, none⟩ = colS b cs (fun _ => none) rest.length ⟨i, w, y, none⟩ := colS_congr fun j h1 _ => by
      have := hd (j - i)
      rw [show i + (j - i) = j from by simp only at h1; omega] at this
      exact this
    have hl : rest.length = cs.length - i := by rw [← hr, List.length_drop]
    rw [e, runA_col (t := cs.length) (a := ⟨i, w, y, none⟩) (Nat.le_refl _) rest.length _ hl.symm]
    unfold runA
    simp only
    rw [hr, List.take_of_length_le (by omega), fold_right hb]
    simp [actsFig]
  | .keep :: acts, c :: rest, i, w, y, hi, hr, hf, hd => by
    have hc : cs.getD i [] = c := by
      have h0 : cs[i]? = some c := by rw [← List.head?_drop, hr]; rfl
      simp [h0]
    have hr2 : cs.drop (i + 1) = rest := by rw [← List.tail_drop, hr]; rfl
    have il : i < cs.length := by
      rcases Nat.lt_or_ge i cs.length with q | q
      · exact q
      · rw [List.drop_eq_nil_of_le q] at hr; cases hr
    have d0 := hd 0
    rw [Nat.add_zero] at d0
    have d0' : de i = none := d0
    rw [List.length_cons, colS]
    simp only
    rw [d0', stepG_non, Option.bind_some, hc]
    obtain ⟨v1, v2⟩ := val_step hb (c := c) (rest := rest) (y := y)
    have st : stepR b c ⟨i, w, y, none⟩ = ⟨i + 1, w ++ [(c.sum + y) % b], (c.sum + y) / b, none⟩ := rfl
    rw [st, acts_col hb acts rest (i + 1) _ _ (by omega) hr2 hf (fun j => by rw [show i + 1 + j = i + (j + 1) from by omega, hd]; rfl), v1, v2, List.append_assoc, show i + 1 + rest.length = i + (rest.length + 1) from by omega]
    rfl
  | .off d :: acts, c :: rest, i, w, y, hi, hr, hf, hd => by
    have hc : cs.getD i [] = c := by
      have h0 : cs[i]? = some c := by rw [← List.head?_drop, hr]; rfl
      simp [h0]
    have hr2 : cs.drop (i + 1) = rest := by rw [← List.tail_drop, hr]; rfl
    have il : i < cs.length := by
      rcases Nat.lt_or_ge i cs.length with q | q
      · exact q
      · rw [List.drop_eq_nil_of_le q] at hr; cases hr
    have d0 := hd 0
    rw [Nat.add_zero] at d0
    have d0' : de i = some (.off d) := d0
    rw [List.length_cons, colS]
    simp only
    rw [d0', hc]
    obtain ⟨v1, v2⟩ := val_step hb (c := c) (rest := rest) (y := y)
    have st : stepG b cs c ⟨i, w, y, none⟩ (some (.off d)) = some ⟨i + 1, w ++ [((c.sum + y) % b + d) % b], (c.sum + y) / b, none⟩ := by
      unfold stepG
      rw [if_neg (fun h => nomatch h.1)]
      rfl
    rw [st, Option.bind_some, acts_col hb acts rest (i + 1) _ _ (by omega) hr2 hf (fun j => by rw [show i + 1 + j = i + (j + 1) from by omega, hd]; rfl), v1, v2, List.append_assoc, show i + 1 + rest.length = i + (rest.length + 1) from by omega]
    rfl
  | .swp :: acts, c :: c2 :: rest, i, w, y, hi, hr, hf, hd => by
    have hc : cs.getD i [] = c := by
      have h0 : cs[i]? = some c := by rw [← List.head?_drop, hr]; rfl
      simp [h0]
    have hr2 : cs.drop (i + 1) = c2 :: rest := by rw [← List.tail_drop, hr]; rfl
    have hc2 : cs.getD (i + 1) [] = c2 := by
      have h0 : cs[i + 1]? = some c2 := by rw [← List.head?_drop, hr2]; rfl
      simp [h0]
    have hr3 : cs.drop (i + 1 + 1) = rest := by rw [← List.tail_drop, hr2]; rfl
    have il : i + 1 < cs.length := by
      rcases Nat.lt_or_ge (i + 1) cs.length with q | q
      · exact q
      · rw [List.drop_eq_nil_of_le q] at hr2; cases hr2
    have d0 := hd 0
    rw [Nat.add_zero] at d0
    have d0' : de i = some .swap := d0
    have d1' : de (i + 1) = none := hd 1
    rw [List.length_cons, List.length_cons, colS]
    simp only
    rw [d0', hc]
    obtain ⟨v1, v2⟩ := val_step hb (c := c) (rest := c2 :: rest) (y := y)
    obtain ⟨v3, v4⟩ := val_step hb (c := c2) (rest := rest) (y := (c.sum + y) / b)
    rw [List.length_cons] at v1 v2
    have st : stepG b cs c ⟨i, w, y, none⟩ (some .swap) = some ⟨i + 1, w, (c.sum + y) / b, some ((c.sum + y) % b)⟩ := by
      unfold stepG
      rw [if_neg (fun h => by have := h.2; simp only at this; omega)]
      rfl
    have st2 : stepR b c2 ⟨i + 1, w, (c.sum + y) / b, some ((c.sum + y) % b)⟩ = ⟨i + 1 + 1, w ++ [(c2.sum + (c.sum + y) / b) % b, (c.sum + y) % b], (c2.sum + (c.sum + y) / b) / b, none⟩ := rfl
    rw [st, Option.bind_some, colS]
    simp only
    rw [d1', hc2, stepG_non, Option.bind_some, st2, acts_col hb acts rest (i + 1 + 1) _ _ (by omega) hr3 hf (fun j => by rw [show i + 1 + 1 + j = i + (j + 2) from by omega, hd]; rfl), v1, v2, v3, v4, List.append_assoc, show i + 1 + 1 + rest.length = i + (rest.length + 1 + 1) from by omega]
    rfl
/-- what the marks are worth: of the figures fs, at the power p -/
def actsGap (b : Int) : List Act → List Int → Int → Int
  | .keep :: l, _ :: fs, p => actsGap b l fs (p * b)
  | .off d :: l, f :: fs, p => ((f + d) % b - f) * p + actsGap b l fs (p * b)
  | .swp :: l, f :: g :: fs, p => (f - g) * (b - 1) * p + actsGap b l fs (p * b * b)
  | _, _, _ => 0
theorem acts_val {b L : Int} : ∀ (acts : List Act) (fs : List Int) (p : Int), (valF b (actsFig b acts fs) L - valF b fs L) * p = actsGap b acts fs p
  | [], fs, p => by simp [actsFig, actsGap]
  | .keep :: l, [], p => by simp [actsFig, actsGap]
  | .off _ :: l, [], p => by simp [actsFig, actsGap]
  | .swp :: l, [], p => by simp [actsFig, actsGap]
  | .swp :: l, [f], p => by simp [actsFig, actsGap]
  | .keep :: l, f :: fs, p => by
    rw [actsFig, actsGap, ← acts_val l fs (p * b), valF_cons, valF_cons]
    generalize valF b (actsFig b l fs) L = u
    generalize valF b fs L = v
    rw [show u * b + f - (v * b + f) = (u - v) * b by rw [Int.sub_mul]; omega, Int.mul_assoc, Int.mul_comm b p]
  | .off d :: l, f :: fs, p => by
    rw [actsFig, actsGap, ← acts_val l fs (p * b), valF_cons, valF_cons]
    generalize valF b (actsFig b l fs) L = u
    generalize valF b fs L = v
    generalize (f + (d : Int)) % b = g
    rw [show u * b + g - (v * b + f) = (u - v) * b + (g - f) by rw [Int.sub_mul]; omega, Int.add_mul, Int.mul_assoc, Int.mul_comm b p, Int.add_comm]
  | .swp :: l, f :: g :: fs, p => by
    rw [actsFig, actsGap, ← acts_val l fs (p * b * b), valF_cons, valF_cons, valF_cons, valF_cons]
    generalize valF b (actsFig b l fs) L = u
    generalize valF b fs L = v
    simp only [Int.add_mul, Int.sub_mul, Int.mul_sub, Int.mul_add, Int.mul_assoc, Int.mul_comm, Int.mul_left_comm, Int.mul_one]
    omega
/-- the slips of the marks -/
def actsSl : Nat → List Act → List (Nat × Dg)
  | _, [] => []
  | i, .keep :: l => actsSl (i + 1) l
  | i, .off d :: l => (i, .off d) :: actsSl (i + 1) l
  | i, .swp :: l => (i, .swap) :: actsSl (i + 2) l
theorem acts_asc : ∀ (acts : List Act) (i : Nat), asc i (actsSl i acts)
  | [], i => trivial
  | .keep :: l, i => asc_mono (by omega) (acts_asc l (i + 1))
  | .off d :: l, i => ⟨Nat.le_refl _, by rw [if_neg (by intro e; cases e)]; exact acts_asc l (i + 1)⟩
  | .swp :: l, i => ⟨Nat.le_refl _, by rw [if_pos rfl]; exact acts_asc l (i + 2)⟩
theorem acts_look : ∀ (acts : List Act) (i j : Nat), look (actsSl i acts) (i + j) = deAt acts j
  | [], i, j => rfl
  | .keep :: l, i, 0 => look_low (lo := i + 1) (acts_asc l (i + 1)) (by omega)
  | .keep :: l, i, j + 1 => by
    have := acts_look l (i + 1) j
    rw [show i + 1 + j = i + (j + 1) from by omega] at this
    exact this
  | .off d :: l, i, 0 => by unfold actsSl look; rw [if_pos (by omega)]; rfl
  | .off d :: l, i, j + 1 => by
    unfold actsSl look
    rw [if_neg (by omega)]
    have := acts_look l (i + 1) j
    rw [show i + 1 + j = i + (j + 1) from by omega] at this
    exact this
  | .swp :: l, i, 0 => by unfold actsSl look; rw [if_pos (by omega)]; rfl
  | .swp :: l, i, 1 => by
    unfold actsSl look
    rw [if_neg (by omega)]
    exact look_low (lo := i + 2) (acts_asc l (i + 2)) (by omega)
  | .swp :: l, i, j + 2 => by
    unfold actsSl look
    rw [if_neg (by omega)]
    have := acts_look l (i + 2) j
    rw [show i + 2 + j = i + (j + 2) from by omega] at this
    exact this
theorem acts_in : ∀ (acts : List Act) (i n : Nat), fits acts n → ∀ s ∈ actsSl i acts, s.1 < i + n
  | [], i, n, _, s, m => (List.not_mem_nil m).elim
  | .keep :: l, i, 0, h, s, m => h.elim
  | .off _ :: l, i, 0, h, s, m => h.elim
  | .swp :: l, i, 0, h, s, m => h.elim
  | .swp :: l, i, 1, h, s, m => h.elim
  | .keep :: l, i, n + 1, h, s, m => by have := acts_in l (i + 1) n h s m; omega
  | .off d :: l, i, n + 1, h, s, m => by
    rcases List.mem_cons.mp m with rfl | m
    · show i < _; omega
    · have := acts_in l (i + 1) n h s m; omega
  | .swp :: l, i, n + 2, h, s, m => by
    rcases List.mem_cons.mp m with rfl | m
    · show i < _; omega
    · have := acts_in l (i + 2) n h s m; omega
theorem marks_ok {b : Int} (hb : 0 < b) {cs : List (List Int)} {acts : List Act} (hf : fits acts cs.length) : addW b cs (actsSl 0 acts) = some (actsFig b acts (digs b (valS b cs) cs.length), valS b cs / b ^ cs.length) := by
  have e := goS_col (b := b) (cs := cs) (l := actsSl 0 acts) (a := A0) (Nat.zero_le _) (.inr trivial) (acts_asc acts 0) (fun s m => by have := acts_in acts 0 cs.length hf s m; omega)
  have c := acts_col hb (cs := cs) (de := look (actsSl 0 acts)) acts cs 0 [] 0 (Nat.zero_le _) rfl hf (fun j => acts_look acts 0 j)
  rw [show cs.length - A0.at_ = cs.length from rfl] at e
  rw [show (A0 : Ad) = ⟨0, [], 0, none⟩ from rfl, c] at e
  unfold addW
  have : (goS b cs A0 (actsSl 0 acts)).map (fun a => ((endA b cs a).w, (endA b cs a).carry)) = ((goS b cs A0 (actsSl 0 acts)).map (endA b cs)).map fun a => (a.w, a.carry) := by rw [Option.map_map]; rfl
  rw [this, show (A0 : Ad) = ⟨0, [], 0, none⟩ from rfl, e]
  simp
end K81
namespace K81
open PySem PySem.Spec PyProof.Rows L2 Ev
structure Bag where
  x : Int
  s : Int
  k : Int
def Bag.d (g : Bag) : D := .lst [.int g.x, .int g.s, .int g.k]
structure BagOk (N : Nat) (g : Bag) : Prop where
  x0 : 0 ≤ g.x
  s0 : 0 ≤ g.s
  s1 : g.s < 10 ^ 42
  k0 : 0 ≤ g.k
  k1 : g.k ≤ N
theorem BagOk.mono {N M : Nat} {g : Bag} (h : BagOk N g) (l : N ≤ M) : BagOk M g := ⟨h.x0, h.s0, h.s1, h.k0, by have := h.k1; omega⟩
theorem gPow_of {i j : Int} {n : Nat} (h0 : 0 ≤ i) (h1 : i < 2 ^ n) (hn : n ≤ 10000) (hj : 0 ≤ j) (hj2 : j ≤ 100) : gPow [.int i, .int j] = some (.int (i ^ j.toNat)) := by
  refine if_pos ?_
  unfold cPow
  rw [decide_eq_true hj]
  refine (Bool.true_and _).trans (decide_eq_true ?_)
  have l : i.natAbs.log2 ≤ n := by
    by_cases z : i.natAbs = 0
    · rw [z]; simp
    · have : i.natAbs < 2 ^ n := by
        have e : ((2 ^ n : Nat) : Int) = 2 ^ n := by simp
        omega
      exact Nat.le_of_lt ((Nat.log2_lt z).mpr this)
  have a1 : ((i.natAbs.log2 + 1 : Nat) : Int) ≤ 10001 := by omega
  have a2 : ((i.natAbs.log2 + 1 : Nat) : Int) * j ≤ 10001 * 100 := Int.mul_le_mul a1 hj2 hj (by decide)
  exact Int.le_trans a2 (by decide)
theorem p40x : ∃ c : Int, gPow [.int 10, .int 40] = some (.int c) ∧ 0 < c ∧ c < 2 ^ 150 := ⟨10 ^ 40, gPow_of (n := 4) (by decide) (by decide) (by decide) (by decide) (by decide), by decide, by decide⟩
theorem p38x : ∃ c : Int, gPow [.int 10, .int 38] = some (.int c) ∧ 0 < c ∧ c < 2 ^ 150 := ⟨10 ^ 38, gPow_of (n := 4) (by decide) (by decide) (by decide) (by decide) (by decide), by decide, by decide⟩
theorem take_ok {N : Nat} {g : Bag} {many : Int} (h : BagOk N g) (hN : N < 2 ^ 40) (m1 : 1 ≤ many) (m2 : many < 2 ^ 40) :
    ∃ r g', 0 ≤ r ∧ r < many ∧ BagOk (N + 1) g' ∧ f_p__law_take [.o g.d, .f (.int many)] = .ok (.int r) [.o g'.d, .n] := by
  obtain ⟨x, s, k⟩ := g
  obtain ⟨x0, s0, s1, k0, k1⟩ := h
  simp only at x0 s0 s1 k0 k1
  have mm : ∀ i : Int, gMod [.int i, .int many] = some (.int (i % many)) := fun i => gMod_int (by omega)
  have mf : ∀ i : Int, gFdiv [.int i, .int many] = some (.int (i / many)) := fun i => gFdiv_small (by omega) (by omega)
  have at2 : L2.atI [D.int x, .int s, .int k] 2 = some (.int k) := rfl
  have at1 : L2.atI [D.int x, .int s, .int k] 1 = some (.int s) := rfl
  by_cases hx : 0 < x
  · refine ⟨x % many, ⟨x / many, s, k⟩, Int.emod_nonneg _ (by omega), Int.emod_lt_of_pos _ (by omega), ⟨Int.ediv_nonneg x0 (by omega), s0, s1, k0, by show k ≤ _; omega⟩, ?_⟩
    rw [f_p__law_take, runF_eq (by rfl)]
    simp -implicitDefEqProofs [-R.bind, b_p__law_take, Bag.d, atI_0, hx, mm, mf]
  · have at2' : L2.atI [D.int x, .int s, .int (k + 1)] 2 = some (.int (k + 1)) := rfl
    have at1' : L2.atI [D.int x, .int s, .int (k + 1)] 1 = some (.int s) := rfl
    have e1 : gMul [.int 7368787, .int (k + 1)] = some (.int (7368787 * (k + 1))) := gMul_int (.inl (by decide))
    have e2 : gMul [.int 1299709, .int (k + 1)] = some (.int (1299709 * (k + 1))) := gMul_int (.inl (by decide))
    have p2 : gPow [.int (s + 7368787 * (k + 1)), .int 2] = some (.int ((s + 7368787 * (k + 1)) ^ 2)) := gPow_of (n := 200) (by omega) (by omega) (by decide) (by decide) (by decide)
    obtain ⟨c40, p40, c40a, c40b⟩ := p40x
    obtain ⟨c38, p38, c38a, c38b⟩ := p38x
    generalize hv : (s + 7368787 * (k + 1)) ^ 2 = v2 at p2
    generalize hu : s + 7368787 * (k + 1) = u at p2
    generalize hv3 : 1299709 * (k + 1) = v3 at e2
    have m40 : gMod [.int (v2 + v3), .int (c40 + 121)] = some (.int ((v2 + v3) % (c40 + 121))) := gMod_int (by omega)
    have v0 : 0 ≤ (v2 + v3) % (c40 + 121) := Int.emod_nonneg _ (by omega)
    have v1 : (v2 + v3) % (c40 + 121) < c40 + 121 := Int.emod_lt_of_pos _ (by omega)
    generalize hw : (v2 + v3) % (c40 + 121) = w at m40 v0 v1
    have p3 : gPow [.int w, .int 3] = some (.int (w ^ 3)) := gPow_of (n := 200) v0 (by omega) (by decide) (by decide) (by decide)
    generalize w ^ 3 = w3 at p3
    have m38 : gMod [.int (w3 + s), .int (c38 + 133)] = some (.int ((w3 + s) % (c38 + 133))) := gMod_int (by omega)
    have f99 : gFdiv [.int ((w3 + s) % (c38 + 133)), .int 9973] = some (.int ((w3 + s) % (c38 + 133) / 9973)) := gFdiv_small (by decide) (by decide)
    generalize (w3 + s) % (c38 + 133) / 9973 = z at f99
    refine ⟨z % many, ⟨x, s, k + 1⟩, Int.emod_nonneg _ (by omega), Int.emod_lt_of_pos _ (by omega), ⟨x0, s0, s1, Int.add_nonneg k0 (by decide), by show k + 1 ≤ _; omega⟩, ?_⟩
    rw [f_p__law_take, runF_eq (by rfl)]
    simp -implicitDefEqProofs [-R.bind, -Int.reducePow, b_p__law_take, Bag.d, atI_0, hx, at1, at2, at1', at2', e1, e2, hu, hv3, p2, p40, p38, m40, p3, m38, f99, mm]
theorem rangeD_len {a : Int} {n : Nat} : (rangeD a n).length = n := by simp [rangeD]
theorem gAppend_of {ds : List D} {d : D} (h : ds.length < 10000) : gAppend ds [d] = some (.non, ds ++ [d]) := if_pos (szl h)
theorem erase_map {α β : Type} {f : α → β} : ∀ {l : List α} {k : Nat}, (l.map f).eraseIdx k = (l.eraseIdx k).map f
  | [], _ => rfl
  | _ :: _, 0 => rfl
  | x :: l, k + 1 => by simp [List.eraseIdx, erase_map]
theorem perm_erase {α : Type} : ∀ {l : List α} {k : Nat} {x : α}, l[k]? = some x → (x :: l.eraseIdx k).Perm l
  | [], k, x, h => by simp at h
  | y :: l, 0, x, h => by simp at h; subst h; exact .refl _
  | y :: l, k + 1, x, h => by
    have h' : l[k]? = some x := by simpa using h
    exact (List.Perm.swap y x _).trans ((perm_erase h').cons y)
theorem gPopAt_of {ds : List D} {d : D} {k : Nat} (h : ds[k]? = some d) (hl : k < 2 ^ 62) : gPopAt ds [.int k] = some (d, ds.eraseIdx k) := by
  unfold gPopAt
  simp only
  rw [if_pos ⟨by omega, by omega⟩, Int.toNat_natCast, h]
theorem mix_loop {xs : D} : ∀ (ds : List D) (pool out : List Nat) (g : Bag) (N : Nat) (c : Cell), pool.length = ds.length → out.length + pool.length < 5000 → BagOk N g → N + ds.length < 2 ^ 40 →
    ∃ (g' : Bag) (out' : List Nat) (c' : Cell), forL (tgN 2) (sDrop (eMut gAppend 4 [(eMut gPopAt 3 [(eCall f_p__law_take [(.mu 0), (.e (eOp gLen [(.v 3)]))])])])) ds [.o g.d, .f xs, c, .o (.lst (pool.map nD)), .o (.lst (out.map nD))] =
      .ok .nx [.o g'.d, .f xs, c', .o (.lst []), .o (.lst (out'.map nD))] ∧ BagOk (N + ds.length) g' ∧ out'.Perm (out ++ pool)
  | [], pool, out, g, N, c, hl, _, hg, _ => by
    have : pool = [] := List.eq_nil_of_length_eq_zero hl
    subst this
    exact ⟨g, out, c, rfl, hg, by simp⟩
  | d :: ds, pool, out, g, N, c, hl, hs, hg, hN => by
    simp only [List.length_cons] at hl hN
    obtain ⟨r, g1, r0, r1, hg1, e⟩ := take_ok (many := pool.length) hg (by omega) (by omega) (by omega)
    obtain ⟨k, rfl⟩ : ∃ k : Nat, r = k := ⟨r.toNat, by omega⟩
    have kl : k < pool.length := by omega
    obtain ⟨x, hx⟩ : ∃ x, pool[k]? = some x := ⟨pool[k], by simp [kl]⟩
    have px := perm_erase hx
    have len := px.length_eq
    simp only [List.length_cons] at len
    obtain ⟨g', out', c', e2, hg2, pm⟩ := mix_loop (xs := xs) ds (pool.eraseIdx k) (out ++ [x]) g1 (N + 1) (.f d) (by omega) (by simp; omega) hg1 (by omega)
    refine ⟨g', out', c', ?_, by rw [List.length_cons, show N + (ds.length + 1) = N + 1 + ds.length from by omega]; exact hg2, pm.trans ?_⟩
    · have gp : gPopAt (pool.map nD) [.int k] = some (nD x, (pool.eraseIdx k).map nD) := by
        rw [gPopAt_of (d := nD x) (by rw [List.getElem?_map, hx]; rfl) (by omega), erase_map]
      have ga : gAppend (out.map nD) [nD x] = some (.non, out.map nD ++ [nD x]) := gAppend_of (by simp; omega)
      rw [forL_nx (st' := [.o g1.d, .f xs, .f d, .o (.lst ((pool.eraseIdx k).map nD)), .o (.lst ((out ++ [x]).map nD))]) ?_, e2]
      simp -implicitDefEqProofs [-R.bind, e, gp, ga]
    · rw [List.append_assoc]
      exact List.Perm.append_left _ px
theorem mixed_ok {js : List Nat} {g : Bag} {N : Nat} (hs : js.length < 4000) (hg : BagOk N g) (hN : N + js.length < 2 ^ 40) :
    ∃ (g' : Bag) (js' : List Nat), BagOk (N + js.length) g' ∧ js'.Perm js ∧ f_p__law_mixed [.o g.d, .f (.lst (js.map nD))] = .ok (.lst (js'.map nD)) [.o g'.d, .n] := by
  have len : (rangeD 0 js.length).length = js.length := rangeD_len
  obtain ⟨g', js', c', e, hg', pm⟩ := mix_loop (xs := .lst (js.map nD)) (rangeD 0 js.length) js [] g N .n len.symm (by simp; omega) hg (by rw [len]; exact hN)
  rw [len] at hg'
  refine ⟨g', js', hg', by simpa using pm, ?_⟩
  rw [f_p__law_mixed, runF_eq (by rfl)]
  have k1 : ∀ st : Sl, kI1 (.int js.length) st = .ok (rangeD 0 js.length) st := fun st => kI1_nat (by omega)
  simp only [List.map_nil] at e
  simp -implicitDefEqProofs [-R.bind, b_p__law_mixed, k1, e]
def kRunO (P : List Nat) (np : Nat) : R Fl → Out
  | .ok (.rt d) st => .ok d (keepF P 0 (st.take np))
  | .exc c x st => .exc c x (keepF P 0 (st.take np))
  | _ => .bad
@[simp] theorem kRunO_rt {P : List Nat} {np : Nat} {d : D} {st : Sl} : kRunO P np (.ok (.rt d) st) = .ok d (keepF P 0 (st.take np)) := rfl
theorem runO_eq {N np : Nat} {P : List Nat} {b : S} {cs : List Cell} (h : cs.length = np) : runO N np P b cs = kRunO P np (b (cs ++ List.replicate (N - np) .n)) := by
  unfold runO kRunO
  have e : decide (cs.length = np) = true := decide_eq_true h
  simp only [e]
  all_goals (rcases b (cs ++ List.replicate (N - np) .n) with ⟨f, st⟩ | ⟨c, x, st⟩ | _ <;> first | rfl | (cases f <;> rfl))
theorem p39x : ∃ c : Int, gPow [.int 10, .int 39] = some (.int c) ∧ 0 < c ∧ (c + 3) * 64 + 64 ≤ 10 ^ 42 := ⟨10 ^ 39, gPow_of (n := 4) (by decide) (by decide) (by decide) (by decide) (by decide), by decide, by decide⟩
theorem p18x : ∃ c : Int, gPow [.int 10, .int 18] = some (.int c) := ⟨10 ^ 18, gPow_of (n := 4) (by decide) (by decide) (by decide) (by decide) (by decide)⟩
theorem bag_ok {ns : List Int} {k : Nat} (hk : k < 1000) : ∃ g, BagOk 0 g ∧ f_p__law_bag [.f (.scr ns), .f (.int k)] = .ok g.d [.n, .n] := by
  obtain ⟨c39, p39, c0, c1⟩ := p39x
  obtain ⟨c18, p18⟩ := p18x
  have cell : ∃ c : Int, ∀ (A B : Cell), eIf (mT (eOp gLt [(.v 1), (.e (eOp gLen [(.v 0)]))])) (eOp gIx [(.v 0), (.v 1)]) (eC (.int 0)) [.f (.scr ns), .f (.int k), A, B] = .ok (.int c) [.f (.scr ns), .f (.int k), A, B] := by
    by_cases h : k < ns.length
    · refine ⟨ns[k], fun A B => ?_⟩
      have h' : (k : Int) < ns.length := by omega
      have ix : L2.atI ns (k : Int) = some ns[k] := by rw [atI_nat, List.getElem?_eq_getElem h]
      simp -implicitDefEqProofs [-R.bind, h', ix]
    · refine ⟨0, fun A B => ?_⟩
      have h' : ¬ ((k : Int) < ns.length) := by omega
      simp -implicitDefEqProofs [-R.bind, h']
  obtain ⟨c, ec⟩ := cell
  have m2 : ∀ i : Int, gMul [.int 2, .int i] = some (.int (2 * i)) := fun i => gMul_int (.inl (by decide))
  have m64 : ∀ i : Int, gMul [.int i, .int 64] = some (.int (i * 64)) := fun i => gMul_int (.inr (by decide))
  have mm : ∀ i : Int, gMod [.int i, .int (c39 + 3)] = some (.int (i % (c39 + 3))) := fun i => gMod_int (by omega)
  have mk : ∀ i : Int, gMod [.int i, .int 64] = some (.int (i % 64)) := fun i => gMod_int (by decide)
  generalize hw : (2 * (if c < 0 then -c else c) + (if c < 0 then 1 else 0) : Int) = w
  have w0 : 0 ≤ w % (c39 + 3) := Int.emod_nonneg _ (by omega)
  have w1 : w % (c39 + 3) < c39 + 3 := Int.emod_lt_of_pos _ (by omega)
  refine ⟨⟨if c - c18 > 0 then c - c18 else 0, w % (c39 + 3) * 64 + (k : Int) % 64, 0⟩, ⟨?_, ?_, ?_, by show (0 : Int) ≤ 0; decide, by show (0 : Int) ≤ ((0 : Nat) : Int); decide⟩, ?_⟩
  · show 0 ≤ (if c - c18 > 0 then c - c18 else 0)
    split <;> omega
  · show 0 ≤ w % (c39 + 3) * 64 + (k : Int) % 64
    omega
  · show w % (c39 + 3) * 64 + (k : Int) % 64 < 10 ^ 42
    have : (w % (c39 + 3) + 1) * 64 ≤ (c39 + 3) * 64 := Int.mul_le_mul_of_nonneg_right (by omega) (by decide)
    omega
  · rw [f_p__law_bag, runO_eq (by rfl)]
    simp -implicitDefEqProofs [-R.bind, b_p__law_bag, -eIf_eq, ec, m2, m64, mm, mk, p39, p18, Bag.d]
    rw [hw]
end K81
namespace K81
open PySem PySem.Spec PyProof.Rows L2 Ev
def asz : List Act → Nat
  | [] => 0
  | .swp :: l => asz l + 2
  | _ :: l => asz l + 1
theorem fits_of : ∀ {acts : List Act} {n : Nat}, asz acts ≤ n → fits acts n
  | [], _, _ => trivial
  | .keep :: l, 0, h => by simp [asz] at h
  | .off _ :: l, 0, h => by simp [asz] at h
  | .swp :: l, 0, h => by simp [asz] at h
  | .swp :: l, 1, h => by simp [asz] at h
  | .keep :: l, n + 1, h => fits_of (acts := l) (by simp [asz] at h; omega)
  | .off _ :: l, n + 1, h => fits_of (acts := l) (by simp [asz] at h; omega)
  | .swp :: l, n + 2, h => fits_of (acts := l) (by simp [asz] at h; omega)
theorem asz_app : ∀ {a c : List Act}, asz (a ++ c) = asz a + asz c
  | [], c => by simp [asz]
  | .keep :: l, c => by simp [asz, asz_app (a := l)]; omega
  | .off _ :: l, c => by simp [asz, asz_app (a := l)]; omega
  | .swp :: l, c => by simp [asz, asz_app (a := l)]; omega
theorem sl_app : ∀ {a c : List Act} {i : Nat}, actsSl i (a ++ c) = actsSl i a ++ actsSl (i + asz a) c
  | [], c, i => by simp [actsSl, asz]
  | .keep :: l, c, i => by simp [actsSl, asz, sl_app (a := l)]; congr 1; omega
  | .off _ :: l, c, i => by simp [actsSl, asz, sl_app (a := l)]; congr 1; omega
  | .swp :: l, c, i => by simp [actsSl, asz, sl_app (a := l)]; congr 1; omega
theorem fig_app {b : Int} : ∀ {a c : List Act} {pre rest : List Int}, pre.length = asz a → actsFig b (a ++ c) (pre ++ rest) = actsFig b a pre ++ actsFig b c rest ∧ (actsFig b a pre).length = pre.length
  | [], c, pre, rest, h => by
    have : pre = [] := List.eq_nil_of_length_eq_zero h
    subst this; simp [actsFig]
  | .keep :: l, c, [], rest, h => by simp [asz] at h
  | .off _ :: l, c, [], rest, h => by simp [asz] at h
  | .swp :: l, c, [], rest, h => by simp [asz] at h
  | .swp :: l, c, [f], rest, h => by simp [asz] at h
  | .keep :: l, c, f :: pre, rest, h => by
    obtain ⟨e1, e2⟩ := fig_app (b := b) (a := l) (c := c) (pre := pre) (rest := rest) (by simp [asz] at h; omega)
    simp [actsFig, e1, e2]
  | .off d :: l, c, f :: pre, rest, h => by
    obtain ⟨e1, e2⟩ := fig_app (b := b) (a := l) (c := c) (pre := pre) (rest := rest) (by simp [asz] at h; omega)
    simp [actsFig, e1, e2]
  | .swp :: l, c, f :: g :: pre, rest, h => by
    obtain ⟨e1, e2⟩ := fig_app (b := b) (a := l) (c := c) (pre := pre) (rest := rest) (by simp [asz] at h; omega)
    simp [actsFig, e1, e2]
theorem gap_app {b : Int} : ∀ {a c : List Act} {pre rest : List Int} {p : Int}, pre.length = asz a → actsGap b (a ++ c) (pre ++ rest) p = actsGap b a pre p + actsGap b c rest (p * b ^ asz a)
  | [], c, pre, rest, p, h => by
    have : pre = [] := List.eq_nil_of_length_eq_zero h
    subst this; simp [actsGap, asz]
  | .keep :: l, c, [], rest, p, h => by simp [asz] at h
  | .off _ :: l, c, [], rest, p, h => by simp [asz] at h
  | .swp :: l, c, [], rest, p, h => by simp [asz] at h
  | .swp :: l, c, [f], rest, p, h => by simp [asz] at h
  | .keep :: l, c, f :: pre, rest, p, h => by
    have e1 := gap_app (b := b) (a := l) (c := c) (pre := pre) (rest := rest) (p := p * b) (by simp [asz] at h; omega)
    simp only [List.cons_append, actsGap, asz, e1, Int.pow_succ]
    rw [Int.mul_assoc p b, Int.mul_comm b]
  | .off d :: l, c, f :: pre, rest, p, h => by
    have e1 := gap_app (b := b) (a := l) (c := c) (pre := pre) (rest := rest) (p := p * b) (by simp [asz] at h; omega)
    simp only [List.cons_append, actsGap, asz, e1, Int.pow_succ]
    rw [Int.mul_assoc p b, Int.mul_comm b, Int.add_assoc]
  | .swp :: l, c, f :: g :: pre, rest, p, h => by
    have e1 := gap_app (b := b) (a := l) (c := c) (pre := pre) (rest := rest) (p := p * b * b) (by simp [asz] at h; omega)
    simp only [List.cons_append, actsGap, asz, e1, Int.pow_succ]
    rw [show p * b * b * b ^ asz l = p * (b ^ asz l * b * b) by simp only [Int.mul_assoc, Int.mul_comm, Int.mul_left_comm], Int.add_assoc]
theorem law_power {b n : Nat} (b12 : b ≤ 12) (hn : n < 10000) : f_p__law_power [.f (.int b), .f (.int n)] = .ok (.int ((b : Int) ^ n)) [.n, .n] := by
  rw [f_p__law_power, runF_eq (by rfl)]
  have pw : ∀ (ds : List D) (p : Int) (A c : Cell), ∃ c', forL (tgN 3) (sSet 2 (eOp gMul [(.v 2), (.v 0)])) ds [.f (.int b), A, .f (.int p), c] = .ok .nx [.f (.int b), A, .f (.int (p * (b : Int) ^ ds.length)), c'] := by
    intro ds
    induction ds with
    | nil => intro p A c; exact ⟨c, by simp⟩
    | cons d ds ih =>
      intro p A c
      obtain ⟨c', e⟩ := ih (p * b) A (.f d)
      refine ⟨c', ?_⟩
      rw [forL_nx (st' := [.f (.int b), A, .f (.int (p * b)), .f d]) (by simp -implicitDefEqProofs [-R.bind, gMul_b b12]), e, List.length_cons, Int.pow_succ, Int.mul_comm ((b : Int) ^ ds.length), Int.mul_assoc]
  obtain ⟨c', e⟩ := pw (rangeD 0 n) 1 (.f (.int n)) .n
  rw [rangeD_len, Int.one_mul] at e
  have k1 : ∀ st : Sl, kI1 (.int n) st = .ok (rangeD 0 n) st := fun st => kI1_nat (by omega)
  simp -implicitDefEqProofs [-R.bind, b_p__law_power, k1, e]
end K81
namespace K81
open PySem PySem.Spec PyProof.Rows L2 Ev
abbrev markBody : S := (sIf (mT (eOp gLt [(.v 7), (.e (eOpF (gLenO "Sheet" f_m_Sheet_zlenz) [(eV 1)]))])) (sSeq (sPar [8, 9] [(.e (eCall f_p__law_take [(.mu 0), (.e (eC (.int 4)))])), (.e (eCall f_p__law_power [(.e (eProp "Sheet" f_m_Sheet_base (.e (eV 1)))), (.e (eV 7))]))])
  (sSeq (sIf (mT (eOp gEq [(.v 8), (.e (eC (.int 0)))])) (sSeq (sSet 10 (eTup [(eC (.str "off")), (eOp gAdd [(.e (eC (.int 1))), (.e (eCall f_p__law_take [(.mu 0), (.e (eOp gSub [(.e (eProp "Sheet" f_m_Sheet_base (.e (eV 1)))), (.e (eC (.int 1)))]))]))])]))
  (sSeq (sSet 11 (eOp gMod [(.e (eOp gInt1 [(.e (eOp gAdd [(.e (eOp gIx [(.v 5), (.v 7)])), (.e (eOp gIx [(.v 10), (.e (eC (.int 1)))]))]))])), (.e (eProp "Sheet" f_m_Sheet_base (.e (eV 1))))]))
  (sSeq (sPar [6, 5] [(.e (eOp gAdd [(.v 6), (.e (eOp gMul [(.e (eOp gSub [(.v 11), (.e (eOp gIx [(.v 5), (.v 7)]))])), (.v 9)]))])), (.e (eOp gAdd [(.e (eOp gAdd [(.e (eSl gSl (eV 5) none (some (eV 7)))), (.e (eLst [(eV 11)]))])), (.e (eSl gSl (eV 5) (some (eOp gAdd [(.v 7), (.e (eC (.int 1)))])) none))]))])
  (sDrop (eMut gAppend 4 [(eTup [(eV 7), (eV 10)])]))))) sNil)
  (sSeq (sIf (mAnd (mT (eOp gEq [(.v 8), (.e (eC (.int 1)))])) (mT (eOp gLt [(.e (eOp gAdd [(.v 7), (.e (eC (.int 1)))])), (.e (eOpF (gLenO "Sheet" f_m_Sheet_zlenz) [(eV 1)]))]))) (sSeq (sPar [12, 13] [(.e (eOp gIx [(.v 5), (.v 7)])), (.e (eOp gIx [(.v 5), (.e (eOp gAdd [(.v 7), (.e (eC (.int 1)))]))]))])
  (sSeq (sPar [6, 5] [(.e (eOp gAdd [(.v 6), (.e (eOp gMul [(.e (eOp gMul [(.e (eOp gSub [(.v 12), (.v 13)])), (.e (eOp gSub [(.e (eProp "Sheet" f_m_Sheet_base (.e (eV 1)))), (.e (eC (.int 1)))]))])), (.v 9)]))])), (.e (eOp gAdd [(.e (eOp gAdd [(.e (eSl gSl (eV 5) none (some (eV 7)))), (.e (eLst [(eV 13), (eV 12)]))])), (.e (eSl gSl (eV 5) (some (eOp gAdd [(.v 7), (.e (eC (.int 2)))])) none))]))])
  (sSeq (sDrop (eMut gAppend 4 [(eTup [(eV 7), (eTup [(eC (.str "swap"))])])]))
  (sSet 7 (eOp gAdd [(.v 7), (.e (eC (.int 1)))]))))) sNil)
  (sSet 7 (eOp gAdd [(.v 7), (.e (eC (.int 1)))]))))) sNil)
theorem gSl_take {ds : List D} {n : Nat} : gSl (.lst ds) none (some (n : Int)) = some (.lst (ds.take n)) := Ev.gSl_take
def stM (g : Bag) (S R : D) (sl : List (Nat × Dg)) (fs : List Int) (gap : Int) (at_ : Nat) (c3 c8 c9 c10 c11 c12 c13 : Cell) : Sl := [.o g.d, .f S, .f R, c3, .o (.lst (sl.map slD)), .f (.lst (fs.map .int)), .f (.int gap), .f (.int at_), c8, c9, c10, c11, c12, c13]
theorem okc {b r t : Nat} {x : Dg} {SL : List (Nat × Dg)} (h : ∀ s ∈ SL, s.2.Ok b r) (hx : x.Ok b r) : ∀ s ∈ SL ++ [(t, x)], s.2.Ok b r := fun s m => by
  rcases List.mem_append.mp m with m | m
  · exact h s m
  · rw [List.mem_singleton.mp m]; exact hx
/-- one lap: the marks go on -/
theorem mark_lap {b r N : Nat} {cs : List (List Int)} {R : D} {g : Bag} {acts : List Act} {V : Int} (h : ShOk b r cs) (hg : BagOk N g) (hN : N + 10 < 2 ^ 40) (ha : asz acts ≤ cs.length) (ho : ∀ s ∈ actsSl 0 acts, s.2.Ok b r) (d : D) (c3 c8 c9 c10 c11 c12 c13 : Cell) :
    ∃ g' acts' c8' c9' c10' c11' c12' c13', BagOk (N + 2) g' ∧ asz acts' ≤ cs.length ∧ (∀ s ∈ actsSl 0 acts', s.2.Ok b r) ∧
      fo1 (tgN 3) markBody d (stM g (dSheet b r cs) R (actsSl 0 acts) (actsFig b acts (digs b V cs.length)) (actsGap b acts (digs b V cs.length) 1) (asz acts) c3 c8 c9 c10 c11 c12 c13) =
        .ok .nx (stM g' (dSheet b r cs) R (actsSl 0 acts') (actsFig b acts' (digs b V cs.length)) (actsGap b acts' (digs b V cs.length) 1) (asz acts') (.f d) c8' c9' c10' c11' c12' c13') := by
  have b2 := h.b2
  have b12 := h.b12
  have len := h.len
  have ln := len_sh (b := b) (r := r) h.len
  by_cases hl : asz acts < cs.length
  case neg =>
    refine ⟨g, acts, c8, c9, c10, c11, c12, c13, hg.mono (by omega), ha, ho, ?_⟩
    have hl' : ¬ ((asz acts : Int) < cs.length) := by omega
    simp -implicitDefEqProofs [-R.bind, stM, ln, hl']
  have hl' : (asz acts : Int) < cs.length := by omega
  have pw := law_power (b := b) (n := asz acts) b12 (by omega)
  obtain ⟨way, g1, w0, w1, hg1, et⟩ := take_ok (many := 4) hg (by omega) (by decide) (by decide)
  -- the figures
  obtain ⟨pre, rest, hR, hp⟩ : ∃ pre rest, digs b V cs.length = pre ++ rest ∧ pre.length = asz acts := ⟨(digs b V cs.length).take (asz acts), (digs b V cs.length).drop (asz acts), (List.take_append_drop _ _).symm, by rw [List.length_take, digs_len]; omega⟩
  have hrest : rest.length = cs.length - asz acts := by
    have := congrArg List.length hR
    rw [digs_len, List.length_append, hp] at this
    omega
  rw [hR]
  have F0 := fig_app (b := (b : Int)) (a := acts) (c := []) (rest := rest) hp
  rw [List.append_nil] at F0
  have G0 := gap_app (b := (b : Int)) (a := acts) (c := []) (pre := pre) (rest := rest) (p := 1) hp
  rw [List.append_nil] at G0
  have e0 : actsFig (b : Int) [] rest = rest := rfl
  have e00 : actsGap (b : Int) [] rest (1 * (b : Int) ^ asz acts) = 0 := rfl
  rw [e0] at F0
  rw [e00, Int.add_zero] at G0
  obtain ⟨F1, F2⟩ := F0
  rw [F1, G0]
  generalize hP : actsFig (b : Int) acts pre = P at *
  generalize hG : actsGap (b : Int) acts pre 1 = G at *
  generalize hSl : actsSl 0 acts = SL at *
  have slen : SL.length ≤ asz acts := by
    have : ∀ (l : List Act) (i : Nat), (actsSl i l).length ≤ asz l := by
      intro l
      induction l with
      | nil => intro i; simp [actsSl]
      | cons x l ih => intro i; cases x <;> simp [actsSl, asz] <;> (have := ih (i + 1); have := ih (i + 2); omega)
    rw [← hSl]; exact this acts 0
  obtain ⟨f, post, rfl⟩ : ∃ f post, rest = f :: post := by
    cases rest with
    | nil => simp at hrest; omega
    | cons f post => exact ⟨f, post, rfl⟩
  simp only [List.length_cons] at hrest
  have hP2 : P.length = asz acts := by rw [F2, hp]
  have hb : 0 < (b : Int) := by omega
  have fr : ∀ x ∈ f :: post, 0 ≤ x ∧ x < (b : Int) := fun x m => digs_dig hb (by rw [hR]; exact List.mem_append_right _ m)
  obtain ⟨f0, f1⟩ := fr f List.mem_cons_self
  have ixf : L2.atI ((P ++ f :: post).map D.int) (asz acts : Int) = some (.int f) := by
    rw [atI_nat, List.getElem?_map, List.getElem?_append_right (by omega), hP2, Nat.sub_self]; rfl
  have tk : gSl (.lst ((P ++ f :: post).map .int)) none (some (asz acts : Int)) = some (.lst (P.map .int)) := by
    rw [Ev.gSl_take, ← List.map_take, List.take_left' hP2]
  have dr1 : gSl (.lst ((P ++ f :: post).map .int)) (some ((asz acts : Int) + 1)) none = some (.lst (post.map .int)) := by
    have := gSl_drop (ds := (P ++ f :: post).map D.int) (n := asz acts + 1)
    rw [← List.map_drop, show (P ++ f :: post).drop (asz acts + 1) = post by rw [show P ++ f :: post = (P ++ [f]) ++ post by simp, List.drop_left' (by simp [hP2])]] at this
    exact this
  have plen : post.length < 1000 := by omega
  have a1 : ∀ x : Int, gAdd [.lst (P.map .int), .lst [.int x]] = some (.lst ((P ++ [x]).map .int)) := fun x => by
    rw [gAdd_lst (by simp; exact Nat.le_of_lt (szl (by omega)))]; simp
  have a2 : ∀ x : Int, gAdd [.lst ((P ++ [x]).map .int), .lst (post.map .int)] = some (.lst ((P ++ x :: post).map .int)) := fun x => by
    rw [gAdd_lst (by simp; exact Nat.le_of_lt (szl (by omega)))]; simp
  have ga : ∀ s : Nat × Dg, gAppend (SL.map slD) [slD s] = some (.non, (SL ++ [s]).map slD) := fun s => by
    rw [gAppend_of (by simp; omega)]; simp
  generalize hfig : P ++ f :: post = figs at *
  by_cases w : way = 0
  · subst w
    obtain ⟨k, g2, k0, k1, hg2, ek⟩ := take_ok (many := (b : Int) - 1) hg1 (by omega) (by omega) (by omega)
    obtain ⟨dn, hdn⟩ : ∃ dn : Nat, (dn : Int) = 1 + k := ⟨(1 + k).toNat, by omega⟩
    have F3 := (fig_app (b := (b : Int)) (a := acts) (c := [.off dn]) (rest := f :: post) hp).1
    have G3 := gap_app (b := (b : Int)) (a := acts) (c := [.off dn]) (pre := pre) (rest := f :: post) (p := 1) hp
    have S3 := sl_app (a := acts) (c := [.off dn]) (i := 0)
    have z3 := asz_app (a := acts) (c := [.off dn])
    rw [hP, show actsFig (b : Int) [.off dn] (f :: post) = (f + dn) % b :: post from rfl] at F3
    rw [hG, show actsGap (b : Int) [.off dn] (f :: post) (1 * (b : Int) ^ asz acts) = ((f + dn) % b - f) * (1 * (b : Int) ^ asz acts) + 0 from rfl, Int.one_mul, Int.add_zero] at G3
    rw [hSl, Nat.zero_add, show actsSl (asz acts) [.off dn] = [(asz acts, Dg.off dn)] from rfl] at S3
    rw [show asz [.off dn] = 1 from rfl] at z3
    refine ⟨g2, acts ++ [.off dn], .f (.int 0), .f (.int ((b : Int) ^ asz acts)), .f (.tup [.str "off", .int dn]), .f (.int ((f + dn) % b)), c12, c13, hg2, by rw [z3]; omega, by rw [S3]; exact okc ho (show 1 ≤ dn ∧ dn < b by omega), ?_⟩
    rw [F3, G3, S3, z3]
    have fg0 : 0 ≤ (f + dn) % (b : Int) := Int.emod_nonneg _ (by omega)
    have fg1 : (f + dn) % (b : Int) < b := Int.emod_lt_of_pos _ hb
    have mm : gMod [.int (f + dn), .int b] = some (.int ((f + dn) % b)) := gMod_int hb
    have ml : gMul [.int ((f + dn) % b - f), .int ((b : Int) ^ asz acts)] = some (.int (((f + dn) % b - f) * (b : Int) ^ asz acts)) := gMul_int (.inl ⟨by omega, by omega⟩)
    have ga' : gAppend (SL.map slD) [.tup [.int (asz acts), .tup [.str "off", .int dn]]] = some (.non, (SL ++ [(asz acts, Dg.off dn)]).map slD) := ga (asz acts, Dg.off dn)
    unfold stM
    generalize (SL ++ [(asz acts, Dg.off dn)]).map slD = SL2 at *
    generalize hA : (P ++ (f + dn) % (b : Int) :: post).map D.int = FG2 at *
    have a2' := a2 ((f + dn) % b)
    rw [hA] at a2'
    simp -implicitDefEqProofs [-R.bind, -List.map_append, ln, hl', et, pw, ek, ← hdn, ixf, atI_1, mm, ml, tk, a1, dr1, a2', ga', Int.natCast_add]
  · have w0' : (way == 0) = false := beq_eq_false_iff_ne.mpr w
    by_cases ws : way = 1 ∧ asz acts + 1 < cs.length
    · obtain ⟨w1', hl2⟩ := ws
      subst w1'
      have hl2' : (asz acts : Int) + 1 < cs.length := by omega
      obtain ⟨g', post2, rfl⟩ : ∃ g' post2, post = g' :: post2 := by
        cases post with
        | nil => simp at hrest; omega
        | cons g' post2 => exact ⟨g', post2, rfl⟩
      obtain ⟨h0, h1⟩ := fr g' (by simp)
      have F3 := (fig_app (b := (b : Int)) (a := acts) (c := [.swp]) (rest := f :: g' :: post2) hp).1
      have G3 := gap_app (b := (b : Int)) (a := acts) (c := [.swp]) (pre := pre) (rest := f :: g' :: post2) (p := 1) hp
      have S3 := sl_app (a := acts) (c := [.swp]) (i := 0)
      have z3 := asz_app (a := acts) (c := [.swp])
      rw [hP, show actsFig (b : Int) [.swp] (f :: g' :: post2) = g' :: f :: post2 from rfl] at F3
      rw [hG, show actsGap (b : Int) [.swp] (f :: g' :: post2) (1 * (b : Int) ^ asz acts) = (f - g') * (b - 1) * (1 * (b : Int) ^ asz acts) + 0 from rfl, Int.one_mul, Int.add_zero] at G3
      rw [hSl, Nat.zero_add, show actsSl (asz acts) [.swp] = [(asz acts, Dg.swap)] from rfl] at S3
      rw [show asz [.swp] = 2 from rfl] at z3
      refine ⟨g1, acts ++ [.swp], .f (.int 1), .f (.int ((b : Int) ^ asz acts)), c10, c11, .f (.int f), .f (.int g'), hg1.mono (by omega), by rw [z3]; omega, by rw [S3]; exact okc ho trivial, ?_⟩
      rw [F3, G3, S3, z3]
      have ixg : L2.atI (figs.map D.int) ((asz acts : Int) + 1) = some (.int g') := by
        have := atI_nat (xs := figs.map D.int) (n := asz acts + 1)
        rw [List.getElem?_map, ← hfig, List.getElem?_append_right (by omega), hP2, show asz acts + 1 - asz acts = 1 by omega] at this
        rw [← hfig]; exact this
      have dr2 : gSl (.lst (figs.map .int)) (some ((asz acts : Int) + 2)) none = some (.lst (post2.map .int)) := by
        have := gSl_drop (ds := figs.map D.int) (n := asz acts + 2)
        rw [← List.map_drop, ← hfig, show (P ++ f :: g' :: post2).drop (asz acts + 2) = post2 by rw [show P ++ f :: g' :: post2 = (P ++ [f, g']) ++ post2 by simp, List.drop_left' (by simp [hP2])]] at this
        rw [← hfig]; exact this
      have b1 : gAdd [.lst (P.map .int), .lst [.int g', .int f]] = some (.lst ((P ++ [g', f]).map .int)) := by
        rw [gAdd_lst (by simp; exact Nat.le_of_lt (szl (by omega)))]; simp
      have b2' : gAdd [.lst ((P ++ [g', f]).map .int), .lst (post2.map .int)] = some (.lst ((P ++ g' :: f :: post2).map .int)) := by
        simp only [List.length_cons] at plen
        rw [gAdd_lst (by simp; exact Nat.le_of_lt (szl (by omega)))]; simp
      have m1 : gMul [.int (f - g'), .int ((b : Int) - 1)] = some (.int ((f - g') * (b - 1))) := gMul_int (.inl ⟨by omega, by omega⟩)
      have small : -1000 < (f - g') * ((b : Int) - 1) ∧ (f - g') * ((b : Int) - 1) < 1000 := by
        have q1 : (f - g') * ((b : Int) - 1) ≤ 12 * 12 := by
          rcases Int.le_total 0 (f - g') with q | q
          · exact Int.mul_le_mul (by omega) (by omega) (by omega) (by omega)
          · have : (f - g') * ((b : Int) - 1) ≤ 0 := Int.mul_nonpos_of_nonpos_of_nonneg q (by omega)
            omega
        have q2 : (g' - f) * ((b : Int) - 1) ≤ 12 * 12 := by
          rcases Int.le_total 0 (g' - f) with q | q
          · exact Int.mul_le_mul (by omega) (by omega) (by omega) (by omega)
          · have : (g' - f) * ((b : Int) - 1) ≤ 0 := Int.mul_nonpos_of_nonpos_of_nonneg q (by omega)
            omega
        have q3 : (g' - f) * ((b : Int) - 1) = -((f - g') * ((b : Int) - 1)) := by rw [← Int.neg_mul, show -(f - g') = g' - f by omega]
        omega
      have m2 : gMul [.int ((f - g') * ((b : Int) - 1)), .int ((b : Int) ^ asz acts)] = some (.int ((f - g') * (b - 1) * (b : Int) ^ asz acts)) := by
        generalize (f - g') * ((b : Int) - 1) = X at small ⊢
        exact gMul_int (.inl ⟨by omega, by omega⟩)
      have ga' : gAppend (SL.map slD) [.tup [.int (asz acts), .tup [.str "swap"]]] = some (.non, (SL ++ [(asz acts, Dg.swap)]).map slD) := ga (asz acts, Dg.swap)
      unfold stM
      generalize (SL ++ [(asz acts, Dg.swap)]).map slD = SL2 at *
      generalize (P ++ g' :: f :: post2).map D.int = FG2 at *
      simp -implicitDefEqProofs [-R.bind, -List.map_append, ln, hl', et, pw, hl2', ixf, ixg, m1, m2, tk, b1, dr2, b2', ga', Int.natCast_add]
      omega
    · have F3 := (fig_app (b := (b : Int)) (a := acts) (c := [.keep]) (rest := f :: post) hp).1
      have G3 := gap_app (b := (b : Int)) (a := acts) (c := [.keep]) (pre := pre) (rest := f :: post) (p := 1) hp
      have S3 := sl_app (a := acts) (c := [.keep]) (i := 0)
      have z3 := asz_app (a := acts) (c := [.keep])
      rw [hP, show actsFig (b : Int) [.keep] (f :: post) = f :: post from rfl, hfig] at F3
      rw [hG, show actsGap (b : Int) [.keep] (f :: post) (1 * (b : Int) ^ asz acts) = 0 from rfl, Int.add_zero] at G3
      rw [hSl, show actsSl (0 + asz acts) [.keep] = [] from rfl, List.append_nil] at S3
      rw [show asz [.keep] = 1 from rfl] at z3
      refine ⟨g1, acts ++ [.keep], .f (.int way), .f (.int ((b : Int) ^ asz acts)), c10, c11, c12, c13, hg1.mono (by omega), by rw [z3]; omega, by rw [S3]; exact ho, ?_⟩
      rw [F3, G3, S3, z3]
      unfold stM
      by_cases w1' : way = 1
      · subst w1'
        have hl2 : ¬ ((asz acts : Int) + 1 < cs.length) := fun z => ws ⟨rfl, by omega⟩
        simp -implicitDefEqProofs [-R.bind, ln, hl', et, pw, hl2, Int.natCast_add]
      · have w1b : (way == 1) = false := beq_eq_false_iff_ne.mpr w1'
        simp -implicitDefEqProofs [-R.bind, ln, hl', et, pw, w0', w1b, Int.natCast_add]
end K81
namespace K81
open PySem PySem.Spec PyProof.Rows L2 Ev
theorem mark_laps {b r : Nat} {cs : List (List Int)} {R : D} {V : Int} (h : ShOk b r cs) : ∀ (ds : List D) (N : Nat) (g : Bag) (acts : List Act) (c3 c8 c9 c10 c11 c12 c13 : Cell), BagOk N g → N + 2 * ds.length < 2 ^ 39 → asz acts ≤ cs.length → (∀ s ∈ actsSl 0 acts, s.2.Ok b r) →
    ∃ g' acts' c3' c8' c9' c10' c11' c12' c13', BagOk (N + 2 * ds.length) g' ∧ asz acts' ≤ cs.length ∧ (∀ s ∈ actsSl 0 acts', s.2.Ok b r) ∧
      forL (tgN 3) markBody ds (stM g (dSheet b r cs) R (actsSl 0 acts) (actsFig b acts (digs b V cs.length)) (actsGap b acts (digs b V cs.length) 1) (asz acts) c3 c8 c9 c10 c11 c12 c13) =
        .ok .nx (stM g' (dSheet b r cs) R (actsSl 0 acts') (actsFig b acts' (digs b V cs.length)) (actsGap b acts' (digs b V cs.length) 1) (asz acts') c3' c8' c9' c10' c11' c12' c13')
  | [], N, g, acts, c3, c8, c9, c10, c11, c12, c13, hg, _, ha, ho => ⟨g, acts, c3, c8, c9, c10, c11, c12, c13, hg, ha, ho, rfl⟩
  | d :: ds, N, g, acts, c3, c8, c9, c10, c11, c12, c13, hg, hN, ha, ho => by
    simp only [List.length_cons] at hN
    obtain ⟨g1, acts1, d8, d9, d10, d11, d12, d13, hg1, ha1, ho1, e1⟩ := mark_lap (R := R) (V := V) h hg (by omega) ha ho d c3 c8 c9 c10 c11 c12 c13
    obtain ⟨g2, acts2, f3, f8, f9, f10, f11, f12, f13, hg2, ha2, ho2, e2⟩ := mark_laps (R := R) (V := V) h ds (N + 2) g1 acts1 (.f d) d8 d9 d10 d11 d12 d13 hg1 (by omega) ha1 ho1
    refine ⟨g2, acts2, f3, f8, f9, f10, f11, f12, f13, ?_, ha2, ho2, (forL_nx e1).trans e2⟩
    rw [List.length_cons, show N + 2 * (ds.length + 1) = N + 2 + 2 * ds.length from by omega]; exact hg2
def rightD (b : Nat) (cs : List (List Int)) : D := dWr b (digs b (valS b cs) cs.length) (valS b cs / (b : Int) ^ cs.length)
theorem marked_ok {b r N : Nat} {cs : List (List Int)} {g : Bag} (h : ShOk b r cs) (hg : BagOk N g) (hN : N + 2000 < 2 ^ 39) :
    ∃ g' acts, BagOk (N + 2000) g' ∧ asz acts ≤ cs.length ∧ (∀ s ∈ actsSl 0 acts, s.2.Ok b r) ∧ f_p__law_marked [.o g.d, .f (dSheet b r cs), .f (rightD b cs)] = .ok (.lst [.lst ((actsSl 0 acts).map slD), .lst ((actsFig b acts (digs b (valS b cs) cs.length)).map .int), .int (actsGap b acts (digs b (valS b cs) cs.length) 1)]) [.o g'.d, .n, .n] := by
  have len := h.len
  have ln := len_sh (b := b) (r := r) h.len
  have rl : (rangeD 0 cs.length).length = cs.length := rangeD_len
  obtain ⟨g', acts, c3, c8, c9, c10, c11, c12, c13, hg', ha, ho, e⟩ := mark_laps (R := rightD b cs) (V := valS b cs) h (rangeD 0 cs.length) N g [] .n .n .n .n .n .n .n hg (by rw [rl]; omega) (Nat.zero_le _) (fun s m => (List.not_mem_nil m).elim)
  rw [rl] at hg'
  refine ⟨g', acts, hg'.mono (by omega), ha, ho, ?_⟩
  rw [f_p__law_marked, runF_eq (by rfl)]
  have k1 : ∀ st : Sl, kI1 (.int cs.length) st = .ok (rangeD 0 cs.length) st := fun st => kI1_nat (by omega)
  have wf : f_m_Written_figures [.f (rightD b cs)] = .ok (.lst ((digs b (valS b cs) cs.length).map .int)) [.n] := wr_figures
  have cl : ∀ (c : Str) (st : Sl), clsAV c (.d (rightD b cs)) st = ("Written" == c) := fun _ _ => rfl
  unfold stM at e
  rw [show actsSl 0 [] = [] from rfl, show actsFig (b : Int) [] (digs b (valS b cs) cs.length) = digs b (valS b cs) cs.length from rfl, show actsGap (b : Int) [] (digs b (valS b cs) cs.length) 1 = 0 from rfl, show asz [] = 0 from rfl] at e
  simp only [List.map_nil] at e
  have e' := e
  rw [show (((0 : Nat)) : Int) = 0 from rfl] at e'
  simp -implicitDefEqProofs [-R.bind, b_p__law_marked, ln, k1, wf, cl, e']
end K81
namespace K81
open PySem PySem.Spec PyProof.Rows L2 Ev
/-- the column's sum with what is carried to it -/
def sAt (b : Int) (pre : List (List Int)) (c : List Int) : Int := c.sum + valS b pre / b ^ pre.length
theorem pre_step {b : Int} (hb : 0 < b) {pre : List (List Int)} {c : List Int} : digs b (valS b (pre ++ [c])) (pre.length + 1) = digs b (valS b pre) pre.length ++ [sAt b pre c % b] ∧ valS b (pre ++ [c]) / b ^ (pre.length + 1) = sAt b pre c / b := by
  have f1 := fold_right hb (pre ++ [c]) 0 [] 0
  have f2 := fold_right hb pre 0 [] 0
  rw [List.foldl_append, f2] at f1
  simp only [List.foldl_cons, List.foldl_nil, Int.add_zero, List.nil_append, List.length_append, List.length_singleton, Nat.zero_add] at f1
  have st : stepR b c ⟨pre.length, digs b (valS b pre) pre.length, valS b pre / b ^ pre.length, none⟩ = ⟨pre.length + 1, digs b (valS b pre) pre.length ++ [sAt b pre c % b], sAt b pre c / b, none⟩ := rfl
  rw [st] at f1
  injection f1 with _ h2 h3 _
  exact ⟨h2.symm, h3.symm⟩
theorem one_slip {b : Int} (hb : 0 < b) {pre post : List (List Int)} {c : List Int} {x : Dg} : addW b (pre ++ c :: post) [(pre.length, x)] =
    (stepG b (pre ++ c :: post) c ⟨pre.length, digs b (valS b pre) pre.length, valS b pre / b ^ pre.length, none⟩ (some x)).map fun a => ((endA b (pre ++ c :: post) a).w, (endA b (pre ++ c :: post) a).carry) := by
  unfold addW goS
  rw [if_pos ⟨Nat.zero_le _, by simp⟩, runA_pre hb]
  have : (pre ++ c :: post).getD pre.length [] = c := by simp
  rw [this]
  cases stepG b (pre ++ c :: post) c ⟨pre.length, digs b (valS b pre) pre.length, valS b pre / b ^ pre.length, none⟩ (some x) with
  | none => rfl
  | some a => rfl
theorem end_plain {b : Int} (hb : 0 < b) {pre post : List (List Int)} {c : List Int} {w : List Int} {y : Int} : endA b (pre ++ c :: post) ⟨pre.length + 1, w, y, none⟩ = ⟨(pre ++ c :: post).length, w ++ digs b (valS b post + y) post.length, (valS b post + y) / b ^ post.length, none⟩ := by
  unfold endA runA
  simp only
  have dr : (pre ++ c :: post).drop (pre.length + 1) = post := by
    rw [show pre ++ c :: post = (pre ++ [c]) ++ post from by simp, List.drop_left' (by simp)]
  rw [dr, List.take_of_length_le (by simp; omega), fold_right hb]
  congr 1
  simp; omega
/-- a figure and a carry at a column: what they change -/
theorem tail_val {b : Int} (hb : 0 < b) {pre post : List (List Int)} {c : List Int} (f k : Int) :
    valF b (digs b (valS b pre) pre.length ++ [f] ++ digs b (valS b post + k) post.length) ((valS b post + k) / b ^ post.length) - valS b (pre ++ c :: post) = (f - sAt b pre c % b + (k - sAt b pre c / b) * b) * b ^ pre.length := by
  rw [List.append_assoc, valF_app, digs_val hb, List.singleton_append, valF_cons, digs_all hb, valS_app, valS_cons]
  have a1 := Int.emod_add_mul_ediv (valS b pre) (b ^ pre.length)
  have a2 := Int.emod_add_mul_ediv (sAt b pre c) b
  have es : sAt b pre c = c.sum + valS b pre / b ^ pre.length := rfl
  generalize sAt b pre c % b = s1 at *
  generalize sAt b pre c / b = s2 at *
  generalize sAt b pre c = s at *
  generalize valS b pre % b ^ pre.length = p1 at *
  generalize valS b pre / b ^ pre.length = p2 at *
  generalize b ^ pre.length = B at *
  have c1 : c.sum = s1 + b * s2 - p2 := by omega
  rw [c1, ← a1]
  simp only [Int.add_mul, Int.sub_mul, Int.mul_add, Int.mul_sub, Int.mul_assoc, Int.mul_comm, Int.mul_left_comm]
  omega
theorem forget_ok {b : Int} (hb : 0 < b) {pre post : List (List Int)} {c : List Int} : addW b (pre ++ c :: post) [(pre.length, .forget)] =
    if sAt b pre c / b = 0 then none else some (digs b (valS b pre) pre.length ++ [sAt b pre c % b] ++ digs b (valS b post) post.length, valS b post / b ^ post.length) := by
  rw [one_slip hb]
  have st : stepG b (pre ++ c :: post) c ⟨pre.length, digs b (valS b pre) pre.length, valS b pre / b ^ pre.length, none⟩ (some .forget) = if sAt b pre c / b = 0 then none else some ⟨pre.length + 1, digs b (valS b pre) pre.length ++ [sAt b pre c % b], 0, none⟩ := by
    unfold stepG
    rw [if_neg (fun h => nomatch h.1)]
    show (if sAt b pre c / b = 0 then none else some ([sAt b pre c % b], (0 : Int))).map _ = _
    by_cases z : sAt b pre c / b = 0
    · rw [if_pos z, if_pos z]; rfl
    · rw [if_neg z, if_neg z]; rfl
  rw [st]
  by_cases z : sAt b pre c / b = 0
  · rw [if_pos z, if_pos z]; rfl
  · rw [if_neg z, if_neg z, Option.map_some, end_plain hb, Int.add_zero]
theorem again_ok {b : Int} (hb : 0 < b) {pre post : List (List Int)} {c : List Int} : addW b (pre ++ c :: post) [(pre.length, .again)] =
    some (digs b (valS b pre) pre.length ++ [sAt b pre c % b] ++ digs b (valS b post + (sAt b pre c / b + 1)) post.length, (valS b post + (sAt b pre c / b + 1)) / b ^ post.length) := by
  rw [one_slip hb]
  have st : stepG b (pre ++ c :: post) c ⟨pre.length, digs b (valS b pre) pre.length, valS b pre / b ^ pre.length, none⟩ (some .again) = some ⟨pre.length + 1, digs b (valS b pre) pre.length ++ [sAt b pre c % b], sAt b pre c / b + 1, none⟩ := by
    unfold stepG
    rw [if_neg (fun h => nomatch h.1)]
    rfl
  rw [st, Option.map_some, end_plain hb]
theorem sAt_nonneg {b r : Nat} {pre : List (List Int)} {c : List Int} (hb : 2 ≤ b) (hp : ∀ x ∈ pre, ColOk b r x) (hc : ColOk b r c) : 0 ≤ sAt b pre c / (b : Int) := by
  have h1 := (val_bound (r := r) (by omega : 1 ≤ b) hp).1
  have h2 := (sum_bound hc.2).1
  exact Int.ediv_nonneg (Int.add_nonneg h2 (Int.ediv_nonneg h1 (Int.le_of_lt (Int.pow_pos (by omega))))) (by omega)
/-- a sheet with one row more, a carry at its first column -/
def withC (k : Int) : List (List Int) → List (List Int)
  | [] => []
  | c :: cs => (c ++ [k]) :: cs.map fun c => c ++ [0]
theorem withC_val {b k : Int} {c : List Int} {cs : List (List Int)} : valS b (withC k (c :: cs)) = valS b (c :: cs) + k := by
  show valS b ((c ++ [k]) :: cs.map fun c => c ++ [0]) = _
  have : valS b (cs.map fun c => c ++ [0]) = valS b cs := by
    unfold valS
    rw [List.map_map]
    congr 1
    refine List.map_congr_left fun c _ => ?_
    simp
  rw [valS_cons, valS_cons, this, List.sum_append]
  simp; omega
theorem withC_len {k : Int} : ∀ {cs : List (List Int)}, (withC k cs).length = cs.length
  | [] => rfl
  | c :: cs => by simp [withC]
theorem with_carry {b r : Nat} {c : List Int} {cs : List (List Int)} {k : Int} (h : ShOk b r (c :: cs)) (hr : r ≤ 3) (hk : 0 ≤ k) (hk2 : k < b) :
    ShOk b (r + 1) (withC k (c :: cs)) ∧ f_p__law_with_carry [.f (dSheet b r (c :: cs)), .f (.int k)] = .ok (dSheet b (r + 1) (withC k (c :: cs))) [.n, .n] := by
  have ok : ShOk b (r + 1) (withC k (c :: cs)) := by
    refine ⟨h.b2, h.b12, by omega, by omega, by rw [withC_len]; exact h.len, fun x m => ?_⟩
    rcases List.mem_cons.mp m with rfl | m
    · obtain ⟨l0, d0⟩ := h.cols c List.mem_cons_self
      refine ⟨by simp [l0], fun d m => ?_⟩
      rcases List.mem_append.mp m with m | m
      · exact d0 d m
      · simp at m; subst m; exact ⟨hk, hk2⟩
    · obtain ⟨x0, m0, rfl⟩ := List.mem_map.mp m
      obtain ⟨l0, d0⟩ := h.cols x0 (List.mem_cons_of_mem _ m0)
      refine ⟨by simp [l0], fun d m => ?_⟩
      rcases List.mem_append.mp m with m | m
      · exact d0 d m
      · simp at m; subst m; have := h.b2; omega
  refine ⟨ok, ?_⟩
  rw [f_p__law_with_carry, runF_eq (by rfl)]
  have ini := sheet_init ok
  have len := h.len
  simp only [List.length_cons] at len
  have rc : ((r + 1 : Nat) : Int) = (r : Int) + 1 := by omega
  rw [rc] at ini
  have cl : ∀ x ∈ c :: cs, x.length ≤ 4 := fun x m => by rw [(h.cols x m).1]; exact h.r4
  have g0 : gAdd [dcol c, .tup [.int k]] = some (dcol (c ++ [k])) := by
    unfold dcol
    rw [gAdd_tup (by have := cl c List.mem_cons_self; simp; exact Nat.le_of_lt (szl (by omega)))]; simp
  have e : ∀ (A B X : Cell), lcL [3] (tgN 3) mYes (eOp gAdd [(.v 3), (.e (eTup [(eC (.int 0))]))]) (cs.map dcol) [A, B, X, .n] = .ok ((cs.map fun c => c ++ [0]).map dcol) [A, B, X, .n] := fun A B X => by
    rw [lcL_mapA _ (fun x => dcol (x ++ [0])) fun x m => ?_, List.map_map]
    · rfl
    · have g : gAdd [dcol x, .tup [.int 0]] = some (dcol (x ++ [0])) := by
        unfold dcol
        rw [gAdd_tup (by have := cl x (List.mem_cons_of_mem _ m); simp; exact Nat.le_of_lt (szl (by omega)))]; simp
      simp -implicitDefEqProofs [-R.bind, g]
  have l1 : ((cs.map fun c => c ++ [0]).map dcol).length < sizeLine := by simp; exact szl (by omega)
  have ad : gAdd [.lst [dcol (c ++ [k])], .lst ((cs.map fun c => c ++ [0]).map dcol)] = some (.lst ((withC k (c :: cs)).map dcol)) := by
    rw [gAdd_lst (by simp; exact Nat.le_of_lt (szl (by omega)))]; rfl
  have sl := gSl_lst1 (x := dcol c) (xs := cs.map dcol)
  have shc : f_m_Sheet_columns [.f (dSheet b r (c :: cs))] = .ok (.lst (dcol c :: cs.map dcol)) [.n] := sh_columns
  generalize ((cs.map fun c => c ++ [0]).map dcol) = M at *
  simp -implicitDefEqProofs [-R.bind, -sh_columns, b_p__law_with_carry, shc, atI_0, g0, sl, e, kLcB_eq l1, ad, ini, fr_sh]
end K81
namespace K81
open PySem PySem.Spec PyProof.Rows L2 Ev
def wrO (b : Nat) : Option (List Int × Int) → D
  | some p => dWr b p.1 p.2
  | none => .non
theorem written_ok {b r : Nat} {cs : List (List Int)} {l : List (Nat × Dg)} (h : ShOk b r cs) (hl : ∀ s ∈ l, s.2.Ok b r) : f_p__law_written [.f (dSheet b r cs), .f (.lst (l.map slD))] = .ok (wrO b (addW b cs l)) [.n, .n] := by
  rw [f_p__law_written, runF_eq (by rfl)]
  obtain ⟨x, e⟩ := add_with h hl
  cases hg : addW (b : Int) cs l with
  | none =>
    rw [hg] at e
    simp only at e
    simp -implicitDefEqProofs [-R.bind, b_p__law_written, e, wrO]
  | some p =>
    rw [hg] at e
    simp only at e
    simp -implicitDefEqProofs [-R.bind, b_p__law_written, e, wrO]
theorem gNe_bl {a c : Bool} : gNe [.bl a, .bl c] = some (.bl (a != c)) := gNe_PD (PD.bl (n := 0)) (PD.bl (n := 0)) (by decide) (by decide)
theorem gIs_wr {b : Nat} {w : List Int} {l : Int} {t : Bool} : gIs t [dWr b w l, .non] = some (.bl (t != false)) := rfl
theorem add_rightD {b r : Nat} {cs : List (List Int)} (h : ShOk b r cs) : f_p_add_right [.f (dSheet b r cs)] = .ok (rightD b cs) [.n] := add_right' h
@[simp] theorem cls_wr {b : Nat} {cs : List (List Int)} {st : Sl} {c : Str} : clsAV c (.d (rightD b cs)) st = ("Written" == c) := rfl
theorem mk_wr {b : Nat} {w : List Int} {l : Int} {st : Sl} {as : List AV} : kMk as st (f_m_Written_zinitz [.o (.obj "Written" [] []), .f (.int b), .f (.lst (w.map .int)), .f (.int l)]) = .ok (dWr b w l) (putAll as [.n, .n, .n] st) := by rw [wr_init]; rfl
theorem carry_right_ok {b r : Nat} {pre post : List (List Int)} {c : List Int} (h : ShOk b r (pre ++ c :: post)) (hr : r ≤ 3) : f_p__law_carry_right [.f (dSheet b r (pre ++ c :: post)), .f (.int pre.length)] = .ok (.bl true) [.n, .n] := by
  have b2 := h.b2
  have b12 := h.b12
  have len := h.len
  have hb : 0 < (b : Int) := by omega
  have ll : (pre ++ c :: post).length = pre.length + (post.length + 1) := by simp
  obtain ⟨ok1, c1⟩ := cut_ok (lo := 0) (hi := pre.length + 1) h (by omega) (by omega)
  obtain ⟨ok2, c2⟩ := cut_ok (lo := pre.length + 1) (hi := (pre ++ c :: post).length) h (by omega) (by omega)
  have t1 : ((pre ++ c :: post).drop 0).take (pre.length + 1 - 0) = pre ++ [c] := by
    rw [List.drop_zero, Nat.sub_zero, show pre ++ c :: post = (pre ++ [c]) ++ post by simp, List.take_left' (by simp)]
  have t2 : ((pre ++ c :: post).drop (pre.length + 1)).take ((pre ++ c :: post).length - (pre.length + 1)) = post := by
    rw [show pre ++ c :: post = (pre ++ [c]) ++ post by simp, List.drop_left' (by simp), List.take_of_length_le (by simp; omega)]
  rw [t1] at ok1 c1
  rw [t2] at ok2 c2
  have a1 := add_rightD ok1
  have a2 := add_rightD ok2
  obtain ⟨p1, p2⟩ := pre_step hb (pre := pre) (c := c)
  have r1 : rightD b (pre ++ [c]) = dWr b (digs b (valS b pre) pre.length ++ [sAt b pre c % b]) (sAt b pre c / b) := by
    unfold rightD
    rw [List.length_append, List.length_singleton, p1, p2]
  rw [r1] at a1
  have r2 : rightD b post = dWr b (digs b (valS b post) post.length) (valS b post / (b : Int) ^ post.length) := rfl
  rw [r2] at a2
  have pw := law_power (b := b) (n := pre.length + 1) b12 (by omega)
  have fo := written_ok (l := [(pre.length, .forget)]) h (fun s m => by simp at m; subst m; trivial)
  rw [forget_ok hb] at fo
  obtain ⟨x, ag⟩ := add_with (l := [(pre.length, .again)]) h (fun s m => by simp at m; subst m; trivial)
  rw [again_ok hb] at ag
  simp only at ag
  have q0 : 0 ≤ sAt (b : Int) pre c / b := sAt_nonneg b2 (fun x m => h.cols x (List.mem_append_left _ m)) (h.cols c (by simp))
  have fo' : f_p__law_written [.f (dSheet b r (pre ++ c :: post)), .f (.lst [.tup [.int pre.length, .tup [.str "forget"]]])] = _ := fo
  have ag' : f_p_add_with [.f (dSheet b r (pre ++ c :: post)), .f (.lst [.tup [.int pre.length, .tup [.str "again"]]])] = _ := ag
  have ln1 := len_sh (b := b) (r := r) (cs := pre ++ c :: post) len
  have ln2 := len_sh (b := b) (r := r) (cs := post) (by omega)
  have pc : ((pre.length + 1 : Nat) : Int) = (pre.length : Int) + 1 := by omega
  rw [show ((0 : Nat) : Int) = 0 from rfl, pc] at c1
  rw [pc] at c2 pw
  have pe : (b : Int) ^ (pre.length + 1) = (b : Int) * (b : Int) ^ pre.length := by rw [Int.pow_succ, Int.mul_comm]
  -- the differences
  have v1 := tail_val hb (pre := pre) (post := post) (c := c) (sAt b pre c % b) 0
  have v2 := tail_val hb (pre := pre) (post := post) (c := c) (sAt b pre c % b) (sAt b pre c / b + 1)
  rw [Int.add_zero] at v1
  have s1 : gDun (tag2 "Written" "Sheet") f_m_Written_zsubz [dWr b (digs b (valS b pre) pre.length ++ [sAt b pre c % b] ++ digs b (valS b post) post.length) (valS b post / (b : Int) ^ post.length), dSheet b r (pre ++ c :: post)] = some (.int (0 - sAt b pre c / b * ((b : Int) ^ (pre.length + 1)))) := by
    rw [gSubW b12 b12, v1, pe]
    refine congrArg (fun z => some (D.int z)) ?_
    rw [Int.sub_self, Int.zero_add, Int.zero_sub, Int.neg_mul, Int.neg_mul, Int.zero_sub, Int.mul_assoc]
  have s2 : gDun (tag2 "Written" "Sheet") f_m_Written_zsubz [dWr b (digs b (valS b pre) pre.length ++ [sAt b pre c % b] ++ digs b (valS b post + (sAt b pre c / b + 1)) post.length) ((valS b post + (sAt b pre c / b + 1)) / (b : Int) ^ post.length), dSheet b r (pre ++ c :: post)] = some (.int ((b : Int) ^ (pre.length + 1))) := by
    rw [gSubW b12 b12, v2, pe]
    refine congrArg (fun z => some (D.int z)) ?_
    rw [Int.sub_self, Int.zero_add, show sAt (b : Int) pre c / b + 1 - sAt b pre c / b = 1 by omega, Int.one_mul]
  have q4 : sAt (b : Int) pre c / b < 5 := by
    have vb := (val_bound (r := r) (by omega : 1 ≤ b) ok1.cols).2
    rw [List.length_append, List.length_singleton] at vb
    have pp : (0 : Int) < (b : Int) ^ (pre.length + 1) := Int.pow_pos hb
    rw [← p2]
    refine Int.ediv_lt_of_lt_mul pp ?_
    have : (r : Int) * ((b : Int) ^ (pre.length + 1) - 1) ≤ 5 * ((b : Int) ^ (pre.length + 1) - 1) := Int.mul_le_mul_of_nonneg_right (by omega) (by omega)
    omega
  have dl : (digs (b : Int) (valS b pre) pre.length).length = pre.length := digs_len
  have gad : ∀ v : Int, gAdd [.lst ((digs b (valS b pre) pre.length ++ [sAt b pre c % b]).map .int), .lst ((digs b v post.length).map .int)] = some (.lst ((digs b (valS b pre) pre.length ++ [sAt b pre c % b] ++ digs b v post.length).map .int)) := fun v => by
    rw [gAdd_lst (by simp; exact Nat.le_of_lt (szl (by omega)))]; simp
  rw [f_p__law_carry_right, runF_eq (by rfl)]
  generalize hF : digs (b : Int) (valS b pre) pre.length ++ [sAt b pre c % b] = F1 at *
  generalize hq : sAt (b : Int) pre c / b = q at *
  generalize hcs : pre ++ c :: post = cs at *
  generalize hpn : (b : Int) ^ (pre.length + 1) = PW at *
  have ml : gMul [.int q, .int PW] = some (.int (q * PW)) := gMul_int (.inl ⟨by omega, by omega⟩)
  have g0 := gad (valS b post)
  have nw := gNeW (b := b) (b' := b) (w := F1 ++ digs b (valS b post) post.length) (w' := F1 ++ digs b (valS b post) post.length) (l := valS b post / (b : Int) ^ post.length) (l' := valS b post / (b : Int) ^ post.length)
  simp only [and_self, decide_true, Bool.not_true] at nw
  have wi := fun (w : List Int) (l : Int) => wr_init (b := b) (w := w) (l := l)
  have q1 := gNe_self (d := .int (0 - q * PW)) (PD.int (n := 0)) (by decide)
  have q2 := gNe_self (d := .int PW) (PD.int (n := 0)) (by decide)
  have n1 := gNe_bl (a := true) (c := true)
  have n2 := gNe_bl (a := false) (c := false)
  have e1 := gEqW (b := b) (b' := b) (w := F1 ++ digs b (valS b post + (q + 1)) post.length) (w' := F1 ++ digs b (valS b post + (q + 1)) post.length) (l := (valS b post + (q + 1)) / (b : Int) ^ post.length) (l' := (valS b post + (q + 1)) / (b : Int) ^ post.length)
  simp only [and_self, decide_true] at e1
  have wf : ∀ (w : List Int) (l : Int), f_m_Written_figures [.f (dWr b w l)] = .ok (.lst (w.map .int)) [.n] := fun w l => wr_figures
  have hz0 : q = 0 → (q == 0) = true := fun e => by rw [e]; rfl
  have hz1 : q ≠ 0 → (q == 0) = false := fun e => beq_eq_false_iff_ne.mpr e
  have i0 : gIs false [D.non, .non] = some (.bl true) := rfl
  have i1 : gIs true [D.non, .non] = some (.bl false) := rfl
  have j0 : ∀ (w : List Int) (l : Int), gIs false [dWr b w l, .non] = some (.bl false) := fun _ _ => rfl
  have j1 : ∀ (w : List Int) (l : Int), gIs true [dWr b w l, .non] = some (.bl true) := fun _ _ => rfl
  -- what stands behind the forgotten carry
  obtain ⟨T, ht⟩ : ∃ T : Bool, T = (q + 1 ≥ (b : Int)) := ⟨decide (q + 1 ≥ (b : Int)), by simp⟩
  cases hpost : post with
  | nil =>
    subst hpost
    have e2 := gEqW (b := b) (b' := b) (w := F1) (w' := F1) (l := q + 1) (l' := q + 1)
    simp only [and_self, decide_true] at e2
    simp only [valS, valF, digs, List.map_nil, List.foldr_nil, List.length_nil, List.append_nil, Int.pow_zero, Int.ediv_one, Int.zero_add] at *
    by_cases hz : q = 0
    · rw [if_pos hz] at fo'
      simp only [wrO] at fo'
      simp -implicitDefEqProofs [-R.bind, -gIs_non, -List.map_append, b_p__law_carry_right, ln1, ln2, c1, c2, a1, a2, pw, fo', ag', hz0 hz, n1, i0, i1, s2, q2, wf, wi, fr_wr, e2]
    · rw [if_neg hz] at fo'
      simp only [wrO] at fo'
      simp -implicitDefEqProofs [-R.bind, -gIs_non, -List.map_append, b_p__law_carry_right, ln1, ln2, c1, c2, a1, a2, pw, fo', ag', hz1 hz, n2, j0, j1, s1, s2, q1, q2, wf, wi, fr_wr, e2, g0, nw, ml]
  | cons c' post' =>
    have pl : ((post.length : Int) == 0) = false := beq_eq_false_iff_ne.mpr (by rw [hpost]; simp; omega)
    by_cases hT : (b : Int) ≤ q + 1
    · by_cases hz : q = 0
      · rw [if_pos hz] at fo'
        simp only [wrO] at fo'
        simp -implicitDefEqProofs [-R.bind, -gIs_non, -List.map_append, b_p__law_carry_right, ln1, ln2, c1, c2, a1, a2, pw, fo', ag', hz0 hz, n1, i0, i1, s2, q2, pl, hT]
      · rw [if_neg hz] at fo'
        simp only [wrO] at fo'
        simp -implicitDefEqProofs [-R.bind, -gIs_non, -List.map_append, b_p__law_carry_right, ln1, ln2, c1, c2, a1, a2, pw, fo', ag', hz1 hz, n2, j0, j1, s1, s2, q1, q2, wf, wi, fr_wr, g0, nw, ml, pl, hT]
    · have ok2' := ok2
      rw [hpost] at ok2'
      obtain ⟨ok3, wc⟩ := with_carry (k := q + 1) ok2' hr (by omega) (by omega)
      rw [← hpost] at ok3 wc
      have a3 := add_rightD ok3
      have r3 : rightD b (withC (q + 1) post) = dWr b (digs b (valS b post + (q + 1)) post.length) ((valS b post + (q + 1)) / (b : Int) ^ post.length) := by
        unfold rightD
        rw [withC_len, hpost, withC_val]
      rw [r3] at a3
      have g3 := gad (valS b post + (q + 1))
      by_cases hz : q = 0
      · rw [if_pos hz] at fo'
        simp only [wrO] at fo'
        simp -implicitDefEqProofs [-R.bind, -gIs_non, -List.map_append, b_p__law_carry_right, ln1, ln2, c1, c2, a1, a2, pw, fo', ag', hz0 hz, n1, i0, i1, s2, q2, wf, wi, fr_wr, pl, hT, wc, a3, g3, e1]
      · rw [if_neg hz] at fo'
        simp only [wrO] at fo'
        simp -implicitDefEqProofs [-R.bind, -gIs_non, -List.map_append, b_p__law_carry_right, ln1, ln2, c1, c2, a1, a2, pw, fo', ag', hz1 hz, n2, j0, j1, s1, s2, q1, q2, wf, wi, fr_wr, g0, nw, ml, pl, hT, wc, a3, g3, e1]
end K81
namespace K81
open PySem PySem.Spec PyProof.Rows L2 Ev
theorem ncols {b r : Nat} (b12 : b ≤ 12) (r4 : r ≤ 4) : f_p_number_of_columns [.f (.int b), .f (.int r)] = .ok (.int ((b : Int) ^ r)) [.n, .n] := by
  rw [f_p_number_of_columns, runF_eq (by rfl)]
  have pw : ∀ (ds : List D) (p : Int) (A c : Cell), ∃ c', forL (tgN 3) (sSet 2 (eOp gMul [(.v 2), (.v 0)])) ds [.f (.int b), A, .f (.int p), c] = .ok .nx [.f (.int b), A, .f (.int (p * (b : Int) ^ ds.length)), c'] := by
    intro ds
    induction ds with
    | nil => intro p A c; exact ⟨c, by simp⟩
    | cons d ds ih =>
      intro p A c
      obtain ⟨c', e⟩ := ih (p * b) A (.f d)
      refine ⟨c', ?_⟩
      rw [forL_nx (st' := [.f (.int b), A, .f (.int (p * b)), .f d]) (by simp -implicitDefEqProofs [-R.bind, gMul_b b12]), e, List.length_cons, Int.pow_succ, Int.mul_comm ((b : Int) ^ ds.length), Int.mul_assoc]
  obtain ⟨c', e⟩ := pw (rangeD 0 r) 1 (.f (.int r)) .n
  rw [rangeD_len, Int.one_mul] at e
  have k1 : ∀ st : Sl, kI1 (.int r) st = .ok (rangeD 0 r) st := fun st => kI1_nat (by omega)
  simp -implicitDefEqProofs [-R.bind, b_p_number_of_columns, k1, e]
def dKind (b r : Nat) (hs : List Dg) (m : Nat) : D := .obj "Kind" ["held_base", "held_rows", "held_deeds", "held_most"] [.int b, .int r, .lst (hs.map Dg.d), .int m]
@[simp] theorem sf_ki0 {c : Str} {d : D} {st : Sl} : setFld 0 "held_base" d (.o (.obj c [] []) :: st) = some (.o (.obj c ["held_base"] [d]) :: st) := rfl
@[simp] theorem sf_ki2 {c : Str} {a0 a1 d : D} {st : Sl} : setFld 0 "held_deeds" d (.o (.obj c ["held_base", "held_rows"] [a0, a1]) :: st) = some (.o (.obj c ["held_base", "held_rows", "held_deeds"] [a0, a1, d]) :: st) := rfl
@[simp] theorem sf_ki3 {c : Str} {a0 a1 a2 d : D} {st : Sl} : setFld 0 "held_most" d (.o (.obj c ["held_base", "held_rows", "held_deeds"] [a0, a1, a2]) :: st) = some (.o (.obj c ["held_base", "held_rows", "held_deeds", "held_most"] [a0, a1, a2, d]) :: st) := rfl
structure KiOk (b r : Nat) (ks : List Dg) (m : Nat) : Prop where
  b2 : 2 ≤ b
  b12 : b ≤ 12
  r1 : 1 ≤ r
  r4 : r ≤ 4
  few : (b : Int) ^ r ≤ 1000
  nd : ks.Nodup
  ok : ∀ x ∈ ks, x.Ok b r
  k1 : 1 ≤ ks.length
  k8 : ks.length ≤ 8
  m1 : 1 ≤ m
  m3 : m ≤ 3
theorem kind_init {b r m : Nat} {ks : List Dg} (h : KiOk b r ks m) : f_m_Kind_zinitz [.o (.obj "Kind" [] []), .f (.int b), .f (.int r), .f (.lst (ks.map Dg.d)), .f (.int m)] = .ok .non [.o (dKind b r (held b r ks) m), .n, .n, .n, .n] := by
  rw [f_m_Kind_zinitz, runF_eq (by rfl)]
  obtain ⟨b2, b12, r1, r4, few, nd, ok, k1, k8, m1, m3⟩ := h
  have nc := ncols b12 r4
  have few' : ¬ ((1000 : Int) < (b : Int) ^ r) := by omega
  have b2' : (2 : Int) ≤ b := by omega
  have b12' : (b : Int) ≤ 12 := by omega
  have r1' : (1 : Int) ≤ r := by omega
  have r4' : (r : Int) ≤ 4 := by omega
  have m1' : (1 : Int) ≤ m := by omega
  have m3' : (m : Int) ≤ 3 := by omega
  have e : ∀ (A C X Y : Cell), lcL [6] (tgN 6) mYes (eCall f_p_is_deed [(.e (eV 6)), (.e (eV 1)), (.e (eV 2))]) (ks.map Dg.d) [A, .f (.int b), .f (.int r), X, Y, C, .n] = .ok (ks.map fun _ => .bl true) [A, .f (.int b), .f (.int r), X, Y, C, .n] := fun A C X Y => by
    refine lcL_mapA _ _ fun x mx => ?_
    have d := isd_ok (ok x mx)
    simp -implicitDefEqProofs [-R.bind, d]
  have l : (ks.map fun _ => D.bl true).length < sizeLine := by simp; exact szl (by omega)
  have g : gAll [.lst (ks.map fun _ => .bl true)] = some (.bl true) := gAll_true
  have ad := all_deeds b2 b12 r4
  have f : ∀ (A B C X : Cell), lcL [6] (tgN 6) (mT (eOp (gIn false) [(.v 6), (.v 3)])) (eV 6) ((allG b r).map Dg.d) [A, B, C, .f (.lst (ks.map Dg.d)), X, .n, .n] = .ok ((held b r ks).map Dg.d) [A, B, C, .f (.lst (ks.map Dg.d)), X, .n, .n] := fun A B C X => by
    refine lcL_filA _ _ fun x mx => ?_
    have gi := gIn_dg x ks false
    cases z : decide (x ∈ ks) with
    | true => rw [z] at gi; simp -implicitDefEqProofs [-R.bind, gi]
    | false => rw [z] at gi; simp -implicitDefEqProofs [-R.bind, gi]
  have hl : (held b r ks).length = ks.length := (held_perm nd ok).length_eq
  have l2 : ((held b r ks).map Dg.d).length < sizeLine := by rw [List.length_map, hl]; exact szl (by omega)
  have h1 : (1 : Int) ≤ ks.length := by omega
  have h8 : (ks.length : Int) ≤ 8 := by omega
  simp -implicitDefEqProofs [-R.bind, -List.map_const, b_m_Kind_zinitz, nc, few', b2', b12', r1', r4', m1', m3', e, kLcB_eq l, g, ad, f, kLcB_eq l2, hl, h1, h8]
  rfl
section
variable {b r m : Nat} {hs : List Dg}
@[simp] theorem gk_base : gFld "held_base" [dKind b r hs m] = some (.int b) := rfl
@[simp] theorem gk_rows : gFld "held_rows" [dKind b r hs m] = some (.int r) := rfl
@[simp] theorem gk_deeds : gFld "held_deeds" [dKind b r hs m] = some (.lst (hs.map Dg.d)) := rfl
@[simp] theorem gk_most : gFld "held_most" [dKind b r hs m] = some (.int m) := rfl
@[simp] theorem ki_cls {st : Sl} {c : Str} : clsAV c (.d (dKind b r hs m)) st = ("Kind" == c) := rfl
theorem fr_ki {st : Sl} : kFr (dKind b r hs m) st = .ok (dKind b r hs m) st := by
  unfold kFr
  have : fzOk (dKind b r hs m) = true := rfl
  simp only [this]
@[simp] theorem ki_base : f_m_Kind_base [.f (dKind b r hs m)] = .ok (.int b) [.n] := by
  rw [f_m_Kind_base, runF_eq (by rfl)]; simp -implicitDefEqProofs [-R.bind, b_m_Kind_base]
@[simp] theorem ki_rows : f_m_Kind_rows [.f (dKind b r hs m)] = .ok (.int r) [.n] := by
  rw [f_m_Kind_rows, runF_eq (by rfl)]; simp -implicitDefEqProofs [-R.bind, b_m_Kind_rows]
@[simp] theorem ki_most : f_m_Kind_most [.f (dKind b r hs m)] = .ok (.int m) [.n] := by
  rw [f_m_Kind_most, runF_eq (by rfl)]; simp -implicitDefEqProofs [-R.bind, b_m_Kind_most]
@[simp] theorem ki_deeds : f_m_Kind_deeds [.f (dKind b r hs m)] = .ok (.lst (hs.map Dg.d)) [.n] := by
  rw [f_m_Kind_deeds, runF_eq (by rfl)]; simp -implicitDefEqProofs [-R.bind, b_m_Kind_deeds]
end
end K81
namespace K81
open PySem PySem.Spec PyProof.Rows L2 Ev
theorem gIn_ints (d : Int) (l : List Int) (neg : Bool) : gIn neg [.int d, .lst (l.map .int)] = some (.bl (neg != decide (d ∈ l))) := by
  rw [gIn_PD (PD.int (n := 0)) (PDs.ints (n := 0)) (by decide) (by decide)]
  congr 3
  rw [List.any_map]
  induction l with
  | nil => simp
  | cons y l ih =>
    rw [List.any_cons, ih]
    show ((y == d) || decide (d ∈ l)) = _
    by_cases h : y = d
    · subst h; simp
    · have h' : d ≠ y := fun e => h e.symm
      simp [h, h']
structure LotOk (l : List Int) : Prop where
  nd : l.Nodup
  ge : ∀ d ∈ l, 2 ≤ d ∧ d < 1000
  len : l.length ≤ 10
abbrev lotBody : S := (sSeq (sSet 5 (eOp gAdd [(.e (eC (.int 2))), (.e (eCall f_p__law_take [(.mu 0), (.e (eOp gSub [(.v 2), (.e (eC (.int 1)))]))]))]))
  (sIf (mT (eOp (gIn true) [(.v 5), (.v 3)])) (sDrop (eMut gAppend 3 [(eV 5)])) sNil))
theorem lot_loop {gr : Int} (h2 : 2 ≤ gr) (h3 : gr < 900) (A : Cell) : ∀ (ds : List D) (g : Bag) (N : Nat) (l : List Int) (c4 c5 : Cell), BagOk N g → N + ds.length < 2 ^ 39 → l.Nodup → (∀ d ∈ l, 2 ≤ d ∧ d < 1000) → l.length + ds.length ≤ 10 →
    ∃ (g' : Bag) (l' : List Int) (c4' c5' : Cell), BagOk (N + ds.length) g' ∧ LotOk l' ∧ forL (tgN 4) lotBody ds [.o g.d, A, .f (.int gr), .o (.lst (l.map .int)), c4, c5] = .ok .nx [.o g'.d, A, .f (.int gr), .o (.lst (l'.map .int)), c4', c5']
  | [], g, N, l, c4, c5, hg, _, nd, ge, hl => ⟨g, l, c4, c5, hg, ⟨nd, ge, by simpa using hl⟩, rfl⟩
  | d :: ds, g, N, l, c4, c5, hg, hN, nd, ge, hl => by
    simp only [List.length_cons] at hN hl
    obtain ⟨k, g1, k0, k1, hg1, ek⟩ := take_ok (many := gr - 1) hg (by omega) (by omega) (by omega)
    have gi := gIn_ints (2 + k) l true
    by_cases hm : 2 + k ∈ l
    · obtain ⟨g', l', c4', c5', hg', ok, e⟩ := lot_loop h2 h3 A ds g1 (N + 1) l (.f d) (.f (.int (2 + k))) hg1 (by omega) nd ge (by omega)
      refine ⟨g', l', c4', c5', by rw [List.length_cons, show N + (ds.length + 1) = N + 1 + ds.length by omega]; exact hg', ok, ?_⟩
      rw [decide_eq_true hm] at gi
      rw [forL_nx (st' := [.o g1.d, A, .f (.int gr), .o (.lst (l.map .int)), .f d, .f (.int (2 + k))]) (by simp -implicitDefEqProofs [-R.bind, ek, gi]), e]
    · obtain ⟨g', l', c4', c5', hg', ok, e⟩ := lot_loop h2 h3 A ds g1 (N + 1) (l ++ [2 + k]) (.f d) (.f (.int (2 + k))) hg1 (by omega) (by
        rw [List.nodup_append]
        refine ⟨nd, by simp, fun x mx y my e => ?_⟩
        simp at my; subst my; subst e; exact hm mx) (fun x m => by
        rcases List.mem_append.mp m with m | m
        · exact ge x m
        · simp at m; omega) (by simp; omega)
      refine ⟨g', l', c4', c5', by rw [List.length_cons, show N + (ds.length + 1) = N + 1 + ds.length by omega]; exact hg', ok, ?_⟩
      rw [decide_eq_false hm] at gi
      have ga : gAppend (l.map .int) [.int (2 + k)] = some (.non, (l ++ [2 + k]).map .int) := by rw [gAppend_of (by simp; omega)]; simp
      rw [forL_nx (st' := [.o g1.d, A, .f (.int gr), .o (.lst ((l ++ [2 + k]).map .int)), .f d, .f (.int (2 + k))]) (by simp -implicitDefEqProofs [-R.bind, -List.map_append, ek, gi, ga]), e]
theorem lot_ok {N : Nat} {g : Bag} {most : Nat} {gr : Int} (hg : BagOk N g) (hN : N + 100 < 2 ^ 39) (hm : most ≤ 9) (h2 : 2 ≤ gr) (h3 : gr < 900) :
    ∃ (g' : Bag) (l : List Int), BagOk (N + 100) g' ∧ LotOk l ∧ f_p__law_lot [.o g.d, .f (.int most), .f (.int gr)] = .ok (.lst (l.map .int)) [.o g'.d, .n, .n] := by
  obtain ⟨m, g1, m0, m1, hg1, em⟩ := take_ok (many := (most : Int) + 1) hg (by omega) (by omega) (by omega)
  obtain ⟨k, rfl⟩ : ∃ k : Nat, m = k := ⟨m.toNat, by omega⟩
  have rl : (rangeD 0 k).length = k := rangeD_len
  obtain ⟨g', l, c4, c5, hg', ok, e⟩ := lot_loop h2 h3 (.f (.int most)) (rangeD 0 k) g1 (N + 1) [] .n .n hg1 (by rw [rl]; omega) .nil (fun d m => (List.not_mem_nil m).elim) (by rw [rl]; simp; omega)
  rw [rl] at hg'
  refine ⟨g', l, hg'.mono (by omega), ok, ?_⟩
  rw [f_p__law_lot, runF_eq (by rfl)]
  have k1 : ∀ st : Sl, kI1 (.int k) st = .ok (rangeD 0 k) st := fun st => kI1_nat (by omega)
  simp only [List.map_nil] at e
  simp -implicitDefEqProofs [-R.bind, b_p__law_lot, em, k1, e]
theorem check_ok {l : List Int} (h : LotOk l) : f_p_check_lot [.f (.lst (l.map .int))] = .ok .non [.n] := by
  rw [f_p_check_lot, runF_eq (by rfl)]
  have len := h.len
  have key : ∀ (n i : Nat) (c1 c2 : Cell), i + n ≤ l.length → ∃ c1' c2', forL (tgN 1) (sSeq (sSet 2 (eOp gIx [(.v 0), (.v 1)]))
      (sSeq (sIf (mOr (mNot (mTru (.e (eOp (gIsi "int") [(.v 2)])))) (mOr (mTru (.e (eOp (gIsi "bool") [(.v 2)]))) (mT (eOp gLt [(.v 2), (.e (eC (.int 2)))])))) sNever sNil)
      (sIf (mT (eOp (gIn false) [(.v 2), (.e (eSl gSl (eV 0) none (some (eV 1))))])) sNever sNil))) ((List.range' i n).map nD) [.f (.lst (l.map .int)), c1, c2] = .ok .nx [.f (.lst (l.map .int)), c1', c2'] := by
    intro n
    induction n with
    | zero => intro i c1 c2 _; exact ⟨c1, c2, rfl⟩
    | succ n ih =>
      intro i c1 c2 hi
      have il : i < l.length := by omega
      obtain ⟨c1', c2', e⟩ := ih (i + 1) (.f (nD i)) (.f (.int l[i])) (by omega)
      refine ⟨c1', c2', ?_⟩
      have ix : L2.atI (l.map D.int) (i : Int) = some (.int l[i]) := by rw [atI_nat, List.getElem?_map, List.getElem?_eq_getElem il]; rfl
      have sl : gSl (.lst (l.map .int)) none (some (i : Int)) = some (.lst ((l.take i).map .int)) := by rw [Ev.gSl_take, List.map_take]
      have gi := gIn_ints l[i] (l.take i) false
      have nm : l[i] ∉ l.take i := fun m => by
        obtain ⟨j, hj, e⟩ := List.getElem_of_mem m
        rw [List.getElem_take] at e
        have hj' : j < i := by rw [List.length_take] at hj; omega
        exact List.pairwise_iff_getElem.mp h.nd j i (by omega) il hj' e
      rw [decide_eq_false nm] at gi
      have g2 := (h.ge l[i] (List.getElem_mem il)).1
      have g2' : ¬ (l[i] < 2) := by omega
      rw [List.range'_succ, List.map_cons, forL_nx (st' := [.f (.lst (l.map .int)), .f (nD i), .f (.int l[i])]) (by
        have nd : nD i = .int (i : Int) := rfl
        rw [nd]
        simp -implicitDefEqProofs [-R.bind, -List.map_take, ix, sl, gi, g2, g2']), e]
  obtain ⟨c1, c2, e⟩ := key l.length 0 .n .n (by omega)
  have k1 : ∀ st : Sl, kI1 (.int l.length) st = .ok ((List.range' 0 l.length).map nD) st := fun st => by rw [kI1_nat (by omega), rangeD_nD, List.range_eq_range']
  simp -implicitDefEqProofs [-R.bind, b_p_check_lot, k1, e]
end K81
namespace K81
open PySem PySem.Spec PyProof.Rows L2 Ev
theorem outcome_ok {b r : Nat} {cs : List (List Int)} {l : List (Nat × Dg)} (h : ShOk b r cs) (hl : ∀ s ∈ l, s.2.Ok b r) : f_p_outcome [.f (dSheet b r cs), .f (.lst (l.map slD))] = .ok (wrO b (addW b cs l)) [.n, .n] := by
  rw [f_p_outcome, runF_eq (by rfl)]
  obtain ⟨x, e⟩ := add_with h hl
  cases hg : addW (b : Int) cs l with
  | none =>
    rw [hg] at e
    simp only at e
    simp -implicitDefEqProofs [-R.bind, b_p_outcome, e, wrO]
  | some p =>
    rw [hg] at e
    simp only at e
    simp -implicitDefEqProofs [-R.bind, b_p_outcome, e, wrO]
def oneD (s : Nat × Dg) : D := .lst [slD s]
theorem further0 {b r : Nat} {cs : List (List Int)} {x : Dg} (h : ShOk b r cs) : f_p_further_slips [.f (dKind b r [x] 1), .f (dSheet b r cs), .f (.lst [])] = .ok (.lst ((List.range cs.length).map fun c => oneD (c, x))) [.n, .n, .n] := by
  rw [f_p_further_slips, runF_eq (by rfl)]
  have len := h.len
  have ln := len_sh (b := b) (r := r) h.len
  have t0 : tru (.lst []) = some false := rfl
  have k2 : ∀ st : Sl, kR2b (.int 0) (.int cs.length) st = .ok ((List.range cs.length).map nD) st := fun st => by
    rw [kR2b_int (by omega) (by omega), Int.sub_zero, Int.toNat_natCast, rangeD_nD]
  have inner : ∀ (A B X : Cell) (c : Nat), lcL [5] (tgN 5) mYes (eFr (eLstI [.star (eV 2), .one (eTup [(eV 4), (eV 5)])])) [x.d] [A, B, .f (.lst []), X, .f (nD c), .n] = .ok [oneD (c, x)] [A, B, .f (.lst []), X, .f (nD c), .n] := fun A B X c => by
    rw [lcL_some (x := oneD (c, x)) (st' := [A, B, .f (.lst []), X, .f (nD c), .n])]
    · rfl
    · have nd : nD c = .int (c : Int) := rfl
      rw [nd]
      simp -implicitDefEqProofs [-R.bind, kLi_eq, oneD, slD]
  have outer : ∀ (X : Cell), lcL2 [4, 5] [5] (tgN 4) mYes (itE (eProp "Kind" f_m_Kind_deeds (.e (eV 0)))) (tgN 5) mYes (eFr (eLstI [.star (eV 2), .one (eTup [(eV 4), (eV 5)])])) ((List.range cs.length).map nD) [.f (dKind b r [x] 1), .f (dSheet b r cs), .f (.lst []), X, .n, .n] = .ok ((List.range cs.length).map fun c => oneD (c, x)) [.f (dKind b r [x] 1), .f (dSheet b r cs), .f (.lst []), X, .n, .n] := fun X => by
    rw [lcL2_flat _ (fun c => [oneD (c, x)]) fun c m => by simp -implicitDefEqProofs [-R.bind, inner]]
    have fm : ∀ l : List Nat, (l.flatMap fun c => [oneD (c, x)]) = l.map fun c => oneD (c, x) := fun l => by
      induction l with
      | nil => rfl
      | cons a l ih => rw [List.flatMap_cons, ih, List.map_cons]; rfl
    rw [fm]
  have l1 : ((List.range cs.length).map fun c => oneD (c, x)).length < sizeLine := by simp; exact szl (by omega)
  simp -implicitDefEqProofs [-R.bind, b_p_further_slips, t0, ln, k2, outer, kLcB_eq l1]
theorem further1 {b r : Nat} {cs : List (List Int)} {x : Dg} {s : Nat × Dg} : f_p_further_slips [.f (dKind b r [x] 1), .f (dSheet b r cs), .f (oneD s)] = .ok (.lst []) [.n, .n, .n] := by
  rw [f_p_further_slips, runF_eq (by rfl)]
  have gl : gLen [oneD s] = some (.int 1) := rfl
  simp -implicitDefEqProofs [-R.bind, b_p_further_slips, gl]
/-- a list of slips and its result -/
def outD (b : Nat) (p : (Nat × Dg) × (List Int × Int)) : D := .tup [oneD p.1, dWr b p.2.1 p.2.2]
def outs (b : Int) (cs : List (List Int)) : List (Nat × Dg) → List ((Nat × Dg) × (List Int × Int))
  | [] => []
  | s :: l => match addW b cs [s] with
    | some p => (s, p) :: outs b cs l
    | none => outs b cs l
abbrev pileBody : S := (sSeq (sSet 4 (eMut gPop 3 []))
  (sSeq (sSet 5 (eCall f_p_outcome [(.e (eV 1)), (.e (eV 4))]))
  (sIf (mT (eOp (gIs true) [(.v 5), (.e (eC .non))])) (sSeq (sDrop (eMut gAppend 2 [(eTup [(eV 4), (eV 5)])]))
  (sDrop (eMut gExtend 3 [(eOp gRev [(.e (eCall f_p_further_slips [(.e (eV 0)), (.e (eV 1)), (.e (eV 4))]))])]))) sNil)))
theorem gPop_app {ds : List D} {d : D} : gPop (ds ++ [d]) [] = some (d, ds) := by
  unfold gPop
  simp
theorem pile_loop {b r : Nat} {cs : List (List Int)} {x : Dg} (h : ShOk b r cs) (hx : x.Ok b r) : ∀ (l : List (Nat × Dg)) (n : Nat) (found : List ((Nat × Dg) × (List Int × Int))) (c4 c5 : Cell), l.length < n → (∀ s ∈ l, s.2 = x) → found.length + l.length < 5000 →
    ∃ c4' c5', whL (mTru (.v 3)) pileBody n [.f (dKind b r [x] 1), .f (dSheet b r cs), .o (.lst (found.map (outD b))), .o (.lst (l.map oneD).reverse), c4, c5] = .ok .nx [.f (dKind b r [x] 1), .f (dSheet b r cs), .o (.lst ((found ++ outs b cs l).map (outD b))), .o (.lst []), c4', c5']
  | [], n + 1, found, c4, c5, _, _, _ => by
    have t0 : tru (.lst []) = some false := rfl
    refine ⟨c4, c5, ?_⟩
    rw [wh_stop (st1 := [.f (dKind b r [x] 1), .f (dSheet b r cs), .o (.lst (found.map (outD b))), .o (.lst []), c4, c5]) (by simp -implicitDefEqProofs [-R.bind, t0])]
    simp [outs]
  | s :: l, n + 1, found, c4, c5, hn, hs, hl => by
    simp only [List.length_cons] at hn hl
    have t1 : ∀ (ds : List D) (d : D), tru (.lst (ds ++ [d])) = some true := fun ds d => by cases ds <;> rfl
    have so : ∀ y ∈ [s], y.2.Ok b r := fun y m => by rw [List.mem_singleton.mp m, hs s List.mem_cons_self]; exact hx
    have oc := outcome_ok h so
    have oc' : f_p_outcome [.f (dSheet b r cs), .f (oneD s)] = .ok (wrO b (addW b cs [s])) [.n, .n] := oc
    have pp := gPop_app (ds := (l.map oneD).reverse) (d := oneD s)
    have fu := further1 (b := b) (r := r) (cs := cs) (x := x) (s := s)
    have i1 : ∀ (w : List Int) (l : Int), gIs true [dWr b w l, .non] = some (.bl true) := fun _ _ => rfl
    have i0 : gIs true [D.non, .non] = some (.bl false) := rfl
    rw [List.map_cons, List.reverse_cons]
    cases hg : addW (b : Int) cs [s] with
    | none =>
      rw [hg] at oc'
      obtain ⟨c4', c5', e⟩ := pile_loop h hx l n found (.f (oneD s)) (.f .non) (by omega) (fun y m => hs y (List.mem_cons_of_mem _ m)) (by omega)
      refine ⟨c4', c5', ?_⟩
      rw [wh_go (st1 := [.f (dKind b r [x] 1), .f (dSheet b r cs), .o (.lst (found.map (outD b))), .o (.lst ((l.map oneD).reverse ++ [oneD s])), c4, c5]) (st2 := [.f (dKind b r [x] 1), .f (dSheet b r cs), .o (.lst (found.map (outD b))), .o (.lst (l.map oneD).reverse), .f (oneD s), .f .non]) (by simp -implicitDefEqProofs [-R.bind, t1]) (by simp -implicitDefEqProofs [-R.bind, -gIs_non, pp, oc', wrO, i0]), e]
      simp only [outs, hg]
    | some p =>
      rw [hg] at oc'
      obtain ⟨c4', c5', e⟩ := pile_loop h hx l n (found ++ [(s, p)]) (.f (oneD s)) (.f (dWr b p.1 p.2)) (by omega) (fun y m => hs y (List.mem_cons_of_mem _ m)) (by simp; omega)
      refine ⟨c4', c5', ?_⟩
      have ga : gAppend (found.map (outD b)) [.tup [oneD s, dWr b p.1 p.2]] = some (.non, (found ++ [(s, p)]).map (outD b)) := by
        rw [gAppend_of (by simp; omega)]; simp [outD]
      have ge : gExtend (l.map oneD).reverse [.lst []] = some (.non, (l.map oneD).reverse) := by
        unfold gExtend
        simp; exact Nat.le_of_lt (szl (by omega))
      rw [wh_go (st1 := [.f (dKind b r [x] 1), .f (dSheet b r cs), .o (.lst (found.map (outD b))), .o (.lst ((l.map oneD).reverse ++ [oneD s])), c4, c5]) (st2 := [.f (dKind b r [x] 1), .f (dSheet b r cs), .o (.lst ((found ++ [(s, p)]).map (outD b))), .o (.lst (l.map oneD).reverse), .f (oneD s), .f (dWr b p.1 p.2)]) (by simp -implicitDefEqProofs [-R.bind, t1]) (by simp -implicitDefEqProofs [-R.bind, -gIs_non, -List.map_append, -List.map_reverse, pp, oc', wrO, i1, ga, fu, ge]), e]
      simp only [outs, hg, List.append_assoc]
      rfl
end K81
namespace K81
open PySem PySem.Spec PyProof.Rows L2 Ev
section
variable {b r : Nat} {cs : List (List Int)} {x : Dg}
def cands (cs : List (List Int)) (x : Dg) : List (Nat × Dg) := (List.range cs.length).map fun c => (c, x)
theorem all_outcomes_ok (h : ShOk b r cs) (hx : x.Ok b r) : f_p_all_outcomes [.f (dKind b r [x] 1), .f (dSheet b r cs)] = .ok (.lst ((outs b cs (cands cs x)).map (outD b))) [.n, .n] := by
  rw [f_p_all_outcomes, runF_eq (by rfl)]
  have len := h.len
  have fu := further0 (x := x) h
  have cl : (cands cs x).length = cs.length := by simp [cands]
  obtain ⟨c4, c5, e⟩ := pile_loop h hx (cands cs x) 16384 [] .n .n (by rw [cl]; omega) (fun s m => by obtain ⟨c, _, rfl⟩ := List.mem_map.mp m; rfl) (by rw [cl]; simp; omega)
  have ce : (List.range cs.length).map (fun c => oneD (c, x)) = (cands cs x).map oneD := by unfold cands; rw [List.map_map]; rfl
  rw [ce] at fu
  have rv : gRevF [.lst ((cands cs x).map oneD)] = some (.lst ((cands cs x).map oneD).reverse) := rfl
  simp only [List.map_nil, List.nil_append] at e
  generalize (cands cs x).map oneD = cd at *
  simp -implicitDefEqProofs [-R.bind, b_p_all_outcomes, fu, rv, e]
theorem alike_ok : f_p_check_alike [.f (dKind b r [x] 1), .f (dSheet b r cs)] = .ok .non [.n, .n] := by
  rw [f_p_check_alike, runF_eq (by rfl)]
  have e1 := gNe_self (d := .int (b : Int)) (PD.int (n := 0)) (by decide)
  have e2 := gNe_self (d := .int (r : Int)) (PD.int (n := 0)) (by decide)
  simp -implicitDefEqProofs [-R.bind, b_p_check_alike, e1, e2]
def restsOf (b : Int) (p : List Int × Int) (lot : List Int) : List Int := lot.map fun d => valF b p.1 p.2 % d
def shownL (b : Int) (cs : List (List Int)) (x : Dg) (lot rs : List Int) : List (Nat × Dg) := ((outs b cs (cands cs x)).filter fun q => restsOf b q.2 lot == rs).map (·.1)
theorem shown_ok {lot rs : List Int} (h : ShOk b r cs) (hx : x.Ok b r) (hl : LotOk lot) : f_p_slips_shown [.f (dKind b r [x] 1), .f (dSheet b r cs), .f (.lst (lot.map .int)), .f (.lst (rs.map .int))] = .ok (.lst ((shownL b cs x lot rs).map oneD)) [.n, .n, .n, .n] := by
  rw [f_p_slips_shown, runF_eq (by rfl)]
  have len := h.len
  have ck := check_ok hl
  have al := alike_ok (b := b) (r := r) (cs := cs) (x := x)
  have ao := all_outcomes_ok h hx
  have ll := hl.len
  have lo : (outs (b : Int) cs (cands cs x)).length ≤ cs.length := by
    have : ∀ l : List (Nat × Dg), (outs (b : Int) cs l).length ≤ l.length := by
      intro l
      induction l with
      | nil => exact Nat.le_refl _
      | cons s l ih => unfold outs; cases addW (b : Int) cs [s] <;> simp <;> omega
    exact Nat.le_trans (this _) (by simp [cands])
  have b12 := h.b12
  have inner : ∀ (p : List Int × Int) (z : Nat × Dg) (A B X : Cell), lcL [7] (tgN 7) mYes (eMeth "Written" f_m_Written_rest (.e (eV 6)) [(.e (eV 7))]) (lot.map .int) [A, B, .f (.lst (lot.map .int)), X, .f (.lst (rs.map .int)), .f (oneD z), .f (dWr b p.1 p.2), .n] = .ok ((restsOf b p lot).map .int) [A, B, .f (.lst (lot.map .int)), X, .f (.lst (rs.map .int)), .f (oneD z), .f (dWr b p.1 p.2), .n] := fun p z A B X => by
    rw [lcL_mapA _ (fun d => .int (valF b p.1 p.2 % d)) fun d m => ?_]
    · unfold restsOf; rw [List.map_map]; rfl
    · have re := rest_ok (b := b) (w := p.1) (l := p.2) (m := d) b12 (by have := (hl.ge d m).1; omega)
      simp -implicitDefEqProofs [-R.bind, re]
  have l7 : ∀ p, ((restsOf (b : Int) p lot).map D.int).length < sizeLine := fun p => by simp [restsOf]; exact szl (by omega)
  have outer : ∀ (A B X : Cell), lcL [5, 6] (tgT [(tgN 5), (tgN 6)]) (mT (eOp gEq [(.e (eFr (eLc [7] (itE (eV 2)) (tgN 7) mYes (eMeth "Written" f_m_Written_rest (.e (eV 6)) [(.e (eV 7))])))), (.v 4)])) (eV 5) ((outs b cs (cands cs x)).map (outD b)) [A, B, .f (.lst (lot.map .int)), X, .f (.lst (rs.map .int)), .n, .n, .n] = .ok ((shownL b cs x lot rs).map oneD) [A, B, .f (.lst (lot.map .int)), X, .f (.lst (rs.map .int)), .n, .n, .n] := fun A B X => by
    rw [lcL_fmA (outD b) (fun q => if restsOf (b : Int) q.2 lot == rs then some (oneD q.1) else none) fun q m => ?_]
    · have fm : ∀ l : List ((Nat × Dg) × (List Int × Int)), l.filterMap (fun q => if restsOf (b : Int) q.2 lot == rs then some (oneD q.1) else none) = (((l.filter fun q => restsOf (b : Int) q.2 lot == rs).map (·.1)).map oneD) := fun l => by
        induction l with
        | nil => rfl
        | cons q l ih =>
          rw [List.filterMap_cons, List.filter_cons, ih]
          cases restsOf (b : Int) q.2 lot == rs <;> rfl
      rw [fm]; rfl
    · have ge := gEq_ints (ns := restsOf (b : Int) q.2 lot) (ms := rs)
      have inn := inner q.2 q.1
      cases z : restsOf (b : Int) q.2 lot == rs with
      | true =>
        rw [z] at ge
        simp -implicitDefEqProofs [-R.bind, outD, inn, kLcB_eq (l7 q.2), ge]
      | false =>
        rw [z] at ge
        simp -implicitDefEqProofs [-R.bind, outD, inn, kLcB_eq (l7 q.2), ge]
  have l5 : ((shownL (b : Int) cs x lot rs).map oneD).length < sizeLine := by
    unfold shownL
    rw [List.length_map, List.length_map]
    exact szl (by have := List.length_filter_le (fun q => restsOf (b : Int) q.2 lot == rs) (outs (b : Int) cs (cands cs x)); omega)
  simp -implicitDefEqProofs [-R.bind, -List.map_map, b_p_slips_shown, ck, al, ao, outer, kLcB_eq l5]
theorem outs_mem {b : Int} {cs : List (List Int)} {s : Nat × Dg} {p : List Int × Int} (e : addW b cs [s] = some p) : ∀ {l : List (Nat × Dg)}, s ∈ l → (s, p) ∈ outs b cs l
  | y :: l, m => by
    unfold outs
    rcases List.mem_cons.mp m with rfl | m
    · rw [e]; exact List.mem_cons_self
    · cases addW b cs [y] with
      | none => exact outs_mem e m
      | some q => exact List.mem_cons_of_mem _ (outs_mem e m)
theorem shown_mem {lot : List Int} {t : Nat} {p : List Int × Int} (ht : t < cs.length) (e : addW b cs [(t, x)] = some p) : (t, x) ∈ shownL b cs x lot (restsOf b p lot) := by
  unfold shownL
  refine List.mem_map.mpr ⟨((t, x), p), List.mem_filter.mpr ⟨outs_mem e (List.mem_map.mpr ⟨t, List.mem_range.mpr ht, rfl⟩), by simp⟩, rfl⟩
def slP (s : Nat × Dg) : PyData := .tuple [.int s.1, s.2.p]
theorem one_PD (s : Nat × Dg) : PD (oneD s) (.list [slP s]) 3 := .lst (.cons (.tup (.cons .int (.cons (s.2.pd.mono (by decide)) .nil))) .nil)
theorem gIn_one {s : Nat × Dg} {l : List (Nat × Dg)} (m : s ∈ l) : gIn false [oneD s, .lst (l.map oneD)] = some (.bl true) := by
  rw [gIn_PD (one_PD s) (PDs.map (P := fun s => .list [slP s]) (n := 3) fun y _ => one_PD y) (by decide) (by decide)]
  have : ((l.map fun s => PyData.list [slP s]).any fun z => PyData.eqv z (.list [slP s])) = true := by
    rw [List.any_map, List.any_eq_true]
    exact ⟨s, m, eqv_self _ (one_PD s).lay⟩
  rw [this]; rfl
end
end K81
namespace K81
open PySem PySem.Spec PyProof.Rows L2 Ev
section
variable {b r N : Nat} {cs : List (List Int)} {g : Bag}
theorem shown_right_ok {sl : List (Nat × Dg)} {W : D} (h : ShOk b r cs) (hg : BagOk N g) (hN : N + 1000 < 2 ^ 39)
    (hs : sl = [] ∨ ∃ t x p, sl = [(t, x)] ∧ x.Ok b r ∧ t < cs.length ∧ addW b cs [(t, x)] = some p ∧ W = dWr b p.1 p.2) :
    ∃ g', BagOk (N + 100) g' ∧ f_p__law_shown_right [.o g.d, .f (dSheet b r cs), .f (.lst (sl.map slD)), .f W] = .ok (.bl true) [.o g'.d, .n, .n, .n] := by
  have b2 := h.b2
  have b12 := h.b12
  have r4 := h.r4
  have len := h.len
  have ln := len_sh (b := b) (r := r) h.len
  have pw := law_power (b := b) (n := r) b12 (by omega)
  by_cases h8 : 8 < cs.length
  · refine ⟨g, hg.mono (by omega), ?_⟩
    have h8' : (8 : Int) < cs.length := by omega
    rw [f_p__law_shown_right, runF_eq (by rfl)]
    simp -implicitDefEqProofs [-R.bind, b_p__law_shown_right, ln, h8']
  have h8' : ¬ ((8 : Int) < cs.length) := by omega
  rcases hs with rfl | ⟨t, x, p, rfl, hx, ht, ha, rfl⟩
  · refine ⟨g, hg.mono (by omega), ?_⟩
    have q : gNe [.int 0, .int 1] = some (.bl true) := by rw [gNe_int]; rfl
    rw [f_p__law_shown_right, runF_eq (by rfl)]
    simp -implicitDefEqProofs [-R.bind, b_p__law_shown_right, ln, h8', q]
  by_cases few : (1000 : Int) < (b : Int) ^ r
  · refine ⟨g, hg.mono (by omega), ?_⟩
    rw [f_p__law_shown_right, runF_eq (by rfl)]
    simp -implicitDefEqProofs [-R.bind, b_p__law_shown_right, ln, h8', pw, few]
  obtain ⟨g', lot, hg', hl, el⟩ := lot_ok (most := 2) (gr := 40) hg (by omega) (by decide) (by decide) (by decide)
  refine ⟨g', hg', ?_⟩
  have ko : KiOk b r [x] 1 := ⟨b2, b12, h.r1, r4, by omega, by simp, fun y m => by rw [List.mem_singleton.mp m]; exact hx, by simp, by simp, by decide, by decide⟩
  have ki := kind_init ko
  have hd : held b r [x] = [x] := List.perm_singleton.mp (held_perm ko.nd ko.ok)
  rw [hd] at ki
  have ki' : f_m_Kind_zinitz [.o (.obj "Kind" [] []), .f (.int b), .f (.int r), .f (.lst [x.d]), .f (.int 1)] = .ok .non [.o (dKind b r [x] 1), .n, .n, .n, .n] := ki
  have sh := shown_ok (lot := lot) (rs := restsOf b p lot) h hx hl
  have gi := gIn_one (shown_mem (lot := lot) ht ha)
  have i0 : gIx [.lst [slD (t, x)], .int 0] = some (slD (t, x)) := by simp [atI_0]
  have i1 : gIx [slD (t, x), .int 1] = some x.d := by simp [slD, atI_1]
  have gi' : gIn false [.lst [slD (t, x)], .lst ((shownL b cs x lot (restsOf b p lot)).map oneD)] = some (.bl true) := gi
  have ll := hl.len
  have inner : ∀ (A B X Y Z : Cell), lcL [6] (tgN 6) mYes (eMeth "Written" f_m_Written_rest (.e (eV 3)) [(.e (eV 6))]) (lot.map .int) [A, B, X, .f (dWr b p.1 p.2), Y, Z, .n] = .ok ((restsOf b p lot).map .int) [A, B, X, .f (dWr b p.1 p.2), Y, Z, .n] := fun A B X Y Z => by
    rw [lcL_mapA _ (fun d => .int (valF b p.1 p.2 % d)) fun d m => ?_]
    · unfold restsOf; rw [List.map_map]; rfl
    · have re := rest_ok (b := b) (w := p.1) (l := p.2) (m := d) b12 (by have := (hl.ge d m).1; omega)
      simp -implicitDefEqProofs [-R.bind, re]
  have l6 : ((restsOf (b : Int) p lot).map D.int).length < sizeLine := by simp [restsOf]; exact szl (by omega)
  have gl : gLen [.lst [slD (t, x)]] = some (.int 1) := rfl
  have el' : f_p__law_lot [.o g.d, .f (.int 2), .f (.int 40)] = .ok (.lst (lot.map .int)) [.o g'.d, .n, .n] := el
  rw [f_p__law_shown_right, runF_eq (by rfl)]
  simp only [List.map_cons, List.map_nil]
  generalize slD (t, x) = sd at *
  simp -implicitDefEqProofs [-R.bind, -gIx_lst, -gIx_tup, -gLen_lst, b_p__law_shown_right, ln, h8', gl, pw, few, el', i0, i1, ki', fr_ki, inner, kLcB_eq l6, sh, gi']
end
end K81
namespace K81
open PySem PySem.Spec PyProof.Rows L2 Ev
def dif (b : Int) (cs : List (List Int)) (s : Nat × Dg) : Int := match addW b cs [s] with
  | some p => valF b p.1 p.2 - valS b cs
  | none => 0
theorem keeps {t : Nat} : asz (List.replicate t Act.keep) = t ∧ ∀ i, actsSl i (List.replicate t Act.keep) = [] := by
  induction t with
  | zero => exact ⟨rfl, fun _ => rfl⟩
  | succ t ih => rw [List.replicate_succ]; exact ⟨by show asz (List.replicate t Act.keep) + 1 = t + 1; rw [ih.1], fun i => by rw [actsSl]; exact ih.2 (i + 1)⟩
theorem keep_gap {b : Int} : ∀ {t : Nat} {fs : List Int} {p : Int}, actsGap b (List.replicate t .keep) fs p = 0
  | 0, _, _ => rfl
  | t + 1, [], _ => rfl
  | t + 1, f :: fs, p => by rw [List.replicate_succ, actsGap, keep_gap]
theorem dif_at {b : Int} (hb : 0 < b) {cs : List (List Int)} {pre rest : List Int} {a : Act} {x : Dg} (hR : digs b (valS b cs) cs.length = pre ++ rest) (ha : asz [a] ≤ rest.length) (hx : actsSl pre.length [a] = [(pre.length, x)]) :
    addW b cs [(pre.length, x)] ≠ none ∧ dif b cs (pre.length, x) = actsGap b [a] rest (b ^ pre.length) := by
  obtain ⟨k1, k2⟩ := keeps (t := pre.length)
  have hl : pre.length + rest.length = cs.length := by
    have := congrArg List.length hR
    rw [digs_len, List.length_append] at this
    exact this.symm
  have m := marks_ok hb (cs := cs) (acts := List.replicate pre.length .keep ++ [a]) (fits_of (by rw [asz_app, k1]; omega))
  have sl : actsSl 0 (List.replicate pre.length .keep ++ [a]) = [(pre.length, x)] := by rw [sl_app, k1, k2, List.nil_append, Nat.zero_add, hx]
  rw [sl] at m
  refine ⟨by rw [m]; simp, ?_⟩
  unfold dif
  rw [m]
  simp only
  have v := acts_val (b := b) (L := valS b cs / b ^ cs.length) (List.replicate pre.length .keep ++ [a]) (digs b (valS b cs) cs.length) 1
  rw [digs_all hb, Int.mul_one] at v
  rw [v, hR, gap_app (by rw [k1]), keep_gap, Int.zero_add, k1, Int.one_mul]
theorem sum_gap {b : Int} (hb : 0 < b) {cs : List (List Int)} : ∀ (acts : List Act) (pre rest : List Int), digs b (valS b cs) cs.length = pre ++ rest → asz acts ≤ rest.length → ((actsSl pre.length acts).map (dif b cs)).sum = actsGap b acts rest (b ^ pre.length) ∧ ∀ s ∈ actsSl pre.length acts, addW b cs [s] ≠ none
  | [], pre, rest, _, _ => ⟨rfl, fun s m => (List.not_mem_nil m).elim⟩
  | .keep :: l, pre, [], _, h => by simp [asz] at h
  | .off _ :: l, pre, [], _, h => by simp [asz] at h
  | .swp :: l, pre, [], _, h => by simp [asz] at h
  | .swp :: l, pre, [f], _, h => by simp [asz] at h
  | .keep :: l, pre, f :: rest, hR, h => by
    have ih := sum_gap hb l (pre ++ [f]) rest (by rw [hR]; simp) (by simp [asz] at h; omega)
    rw [List.length_append, List.length_singleton, Int.pow_succ] at ih
    exact ih
  | .off d :: l, pre, f :: rest, hR, h => by
    have ih := sum_gap hb l (pre ++ [f]) rest (by rw [hR]; simp) (by simp [asz] at h; omega)
    rw [List.length_append, List.length_singleton, Int.pow_succ] at ih
    obtain ⟨d1, d2⟩ := dif_at hb (a := .off d) (x := .off d) hR (by simp [asz]) rfl
    refine ⟨?_, fun s m => ?_⟩
    · rw [actsSl, List.map_cons, List.sum_cons, ih.1, d2]
      simp [actsGap]
    · rcases List.mem_cons.mp m with rfl | m
      · exact d1
      · exact ih.2 s m
  | .swp :: l, pre, f :: g :: rest, hR, h => by
    have ih := sum_gap hb l (pre ++ [f, g]) rest (by rw [hR]; simp) (by simp [asz] at h; omega)
    rw [show (pre ++ [f, g]).length = pre.length + 2 by simp, Int.pow_succ, Int.pow_succ] at ih
    obtain ⟨d1, d2⟩ := dif_at hb (a := .swp) (x := .swap) hR (by simp [asz]) rfl
    refine ⟨?_, fun s m => ?_⟩
    · rw [actsSl, List.map_cons, List.sum_cons, ih.1, d2]
      simp [actsGap]
    · rcases List.mem_cons.mp m with rfl | m
      · exact d1
      · exact ih.2 s m
end K81
namespace K81
open PySem PySem.Spec PyProof.Rows L2 Ev
abbrev colBody : S := (sDrop (eMut gAppend 11 [(eOp gIx [(.e (eLst [(eCall f_p__law_column [(.mu 2), (.e (eV 8)), (.e (eV 9))]), (eOp gTuple [(.e (eOp gMul [(.e (eLst [(eOp gSub [(.v 8), (.e (eC (.int 1)))])])), (.v 9)]))])])), (.e (eCall f_p__law_take [(.mu 2), (.e (eC (.int 2)))]))])]))
abbrev lapBody : S := (sSeq (sAsg (eCall f_p__law_marked [(.mu 2), (.e (eV 4)), (.e (eV 5))]) (tgT [(tgN 15), (tgN 16), (tgN 17)]))
  (sSeq (sSet 12 (eCall f_p_add_with [(.e (eV 4)), (.e (eOp gListF [(.v 15)]))]))
  (sSeq (sIf (mOr (mT (eOpF (gNeO "Written" f_m_Written_zeqz) [(eV 12), (eFr (eMake "Written" f_m_Written_zinitz [(.e (eV 8)), (.e (eV 16)), (.e (eProp "Written" f_m_Written_last (.e (eV 5))))]))])) (mT (eOp gNe [(.e (eOpF (gDun (tag2 "Written" "Sheet") f_m_Written_zsubz) [(eV 12), (eV 4)])), (.v 17)]))) (sRet (eC (.bl false))) sNil)
  (sSeq (sSet 13 (eSl gSl (eV 15) none (some (eC (.int 1)))))
  (sSeq (sIf (mNot (mTru (.e (eCall f_p__law_shown_right [(.mu 2), (.e (eV 4)), (.e (eV 13)), (.e (eCall f_p_add_with [(.e (eV 4)), (.e (eOp gListF [(.v 13)]))]))])))) (sRet (eC (.bl false))) sNil)
  (sSeq (sSet 14 (eOp gSum [(.e (eFr (eLc [18] (itE (eV 15)) (tgN 18) mYes (eOpF (gDun (tag2 "Written" "Sheet") f_m_Written_zsubz) [(eCall f_p_add_with [(.e (eV 4)), (.e (eLst [(eV 18)]))]), (eV 4)]))))]))
  (sIf (mT (eOp gNe [(.v 14), (.v 17)])) (sRet (eC (.bl false))) sNil)))))))
abbrev carBody : S := (sIf (mNot (mTru (.e (eCall f_p__law_carry_right [(.e (eV 4)), (.e (eV 7))])))) (sRet (eC (.bl false))) sNil)
theorem draws {b : Nat} (b2 : 2 ≤ b) (b12 : b ≤ 12) (Y : Cell) : ∀ (ds : List D) (g : Bag) (N : Nat), BagOk N g → N + ds.length < 2 ^ 40 →
    ∃ (g' : Bag) (c : List Int), BagOk (N + ds.length) g' ∧ c.length = ds.length ∧ (∀ d ∈ c, 0 ≤ d ∧ d < (b : Int)) ∧
      lcL [3] (tgN 3) mYes (eCall f_p__law_take [(.mu 0), (.e (eV 1))]) ds [.o g.d, .f (.int b), Y, .n] = .ok (c.map .int) [.o g'.d, .f (.int b), Y, .n]
  | [], g, N, hg, _ => ⟨g, [], hg, rfl, fun d m => (List.not_mem_nil m).elim, rfl⟩
  | d :: ds, g, N, hg, hN => by
    simp only [List.length_cons] at hN
    obtain ⟨r, g1, r0, r1, hg1, e⟩ := take_ok (many := b) hg (by omega) (by omega) (by omega)
    obtain ⟨g', c, hg', cl, cd, e2⟩ := draws b2 b12 Y ds g1 (N + 1) hg1 (by omega)
    refine ⟨g', r :: c, ?_, by simp [cl], ?_, ?_⟩
    · rw [List.length_cons, show N + (ds.length + 1) = N + 1 + ds.length from by omega]; exact hg'
    · intro x m
      rcases List.mem_cons.mp m with rfl | m
      · exact ⟨r0, r1⟩
      · exact cd x m
    · rw [lcL_some (x := .int r) (st' := [.o g1.d, .f (.int b), Y, .n]) (by simp -implicitDefEqProofs [-R.bind, e]), e2]
      rfl
theorem column_ok {b r N : Nat} {g : Bag} (b2 : 2 ≤ b) (b12 : b ≤ 12) (r4 : r ≤ 4) (hg : BagOk N g) (hN : N + 100 < 2 ^ 39) : ∃ g' c, BagOk (N + 4) g' ∧ ColOk b r c ∧ f_p__law_column [.o g.d, .f (.int b), .f (.int r)] = .ok (dcol c) [.o g'.d, .n, .n] := by
  have rl : (rangeD 0 r).length = r := rangeD_len
  obtain ⟨g', c, hg', cl, cd, e⟩ := draws b2 b12 (.f (.int r)) (rangeD 0 r) g N hg (by omega)
  rw [rl] at hg' cl
  refine ⟨g', c, hg'.mono (by omega), ⟨cl, cd⟩, ?_⟩
  rw [f_p__law_column, runF_eq (by rfl)]
  have k1 : ∀ st : Sl, kI1 (.int r) st = .ok (rangeD 0 r) st := fun st => kI1_nat (by omega)
  have lc : (c.map D.int).length < sizeLine := by rw [List.length_map, cl]; exact szl (by omega)
  simp -implicitDefEqProofs [-R.bind, b_p__law_column, k1, e, kLcB_eq lc]
  rfl
theorem reps_int {x : Int} {r : Nat} (h : r ≤ 4) : gMul [.lst [.int x], .int r] = some (.lst ((List.replicate r x).map .int)) := by
  have : (if -(2 ^ 63) ≤ (r : Int) ∧ (r : Int) < 2 ^ 63 ∧ ([D.int x] : List D).length * (r : Int).toNat ≤ sizeLine then some (D.lst (List.replicate (r : Int).toNat [D.int x]).flatten) else none) = some (D.lst ((List.replicate r x).map .int)) := by
    rw [if_pos ⟨by omega, by omega, Nat.le_of_lt (szl (by simp; omega))⟩]
    simp
  exact this
theorem cols_ok {b r : Nat} (b2 : 2 ≤ b) (b12 : b ≤ 12) (r1 : 1 ≤ r) (r4 : r ≤ 4) (A K n : Cell) : ∀ (ds : List D) (cs : List (List Int)) (g : Bag) (N : Nat) (c3 : Cell), BagOk N g → (∀ c ∈ cs, ColOk b r c) → N + 10 * ds.length < 2 ^ 38 → cs.length + ds.length < 900 →
    ∃ (g' : Bag) (cs' : List (List Int)) (c3' : Cell), BagOk (N + 10 * ds.length) g' ∧ cs'.length = cs.length + ds.length ∧ (∀ c ∈ cs', ColOk b r c) ∧
      forL (tgN 3) colBody ds [A, K, .o g.d, c3, .n, .n, .n, .n, .f (.int b), .f (.int r), n, .o (.lst (cs.map dcol)), .n, .n, .n, .n, .n, .n, .n] = .ok .nx [A, K, .o g'.d, c3', .n, .n, .n, .n, .f (.int b), .f (.int r), n, .o (.lst (cs'.map dcol)), .n, .n, .n, .n, .n, .n, .n]
  | [], cs, g, N, c3, hg, hc, _, _ => ⟨g, cs, c3, hg, rfl, hc, rfl⟩
  | d :: ds, cs, g, N, c3, hg, hc, hN, hl => by
    simp only [List.length_cons] at hN hl
    obtain ⟨g1, c, hg1, ck, e1⟩ := column_ok b2 b12 r4 hg (by omega)
    obtain ⟨m, g2, m0, m1, hg2, e2⟩ := take_ok (many := 2) hg1 (by omega) (by omega) (by omega)
    obtain ⟨c', ok', e3⟩ : ∃ c' : List Int, ColOk b r c' ∧ L2.atI [dcol c, dcol (List.replicate r ((b : Int) - 1))] m = some (dcol c') := by
      by_cases z : m = 0
      · subst z
        exact ⟨c, ck, rfl⟩
      · obtain rfl : m = 1 := by omega
        refine ⟨List.replicate r ((b : Int) - 1), ⟨by simp, fun d m => ?_⟩, rfl⟩
        have := List.eq_of_mem_replicate m
        omega
    obtain ⟨g', cs', c3', hg', l', ok, e⟩ := cols_ok b2 b12 r1 r4 A K n ds (cs ++ [c']) g2 (N + 10) (.f d) (hg2.mono (by omega)) (fun x m => by
      rcases List.mem_append.mp m with m | m
      · exact hc x m
      · simp at m; subst m; exact ok') (by omega) (by simp; omega)
    refine ⟨g', cs', c3', ?_, by rw [l']; simp; omega, ok, ?_⟩
    · rw [List.length_cons, show N + 10 * (ds.length + 1) = N + 10 + 10 * ds.length from by omega]; exact hg'
    · have rp := reps_int (x := (b : Int) - 1) r4
      have ga : gAppend (cs.map dcol) [dcol c'] = some (.non, cs.map dcol ++ [dcol c']) := gAppend_of (by simp; omega)
      have e3' : L2.atI [dcol c, D.tup ((List.replicate r ((b : Int) - 1)).map .int)] m = some (dcol c') := e3
      rw [forL_nx (st' := [A, K, .o g2.d, .f d, .n, .n, .n, .n, .f (.int b), .f (.int r), n, .o (.lst ((cs ++ [c']).map dcol)), .n, .n, .n, .n, .n, .n, .n]) ?_, e]
      simp -implicitDefEqProofs [-R.bind, -List.map_replicate, e1, rp, e2, e3', ga]
end K81
namespace K81
open PySem PySem.Spec PyProof.Rows L2 Ev
theorem sl_len : ∀ (l : List Act) (i : Nat), (actsSl i l).length ≤ asz l := by
  intro l
  induction l with
  | nil => intro i; simp [actsSl]
  | cons x l ih => intro i; cases x <;> simp [actsSl, asz] <;> (have := ih (i + 1); have := ih (i + 2); omega)
theorem gSum_ints {ns : List Int} : gSum [.lst (ns.map .int)] = some (.int ns.sum) := by
  have : ∀ ns : List Int, intsD (ns.map .int) = some ns := by
    intro ns
    induction ns with
    | nil => rfl
    | cons n ns ih => show (intsD (ns.map .int)).map (n :: ·) = _; rw [ih]; rfl
  show (intsD (ns.map .int)).map (fun ns => D.int ns.sum) = _
  rw [this]; rfl
theorem lap_ok {b r N : Nat} {cs : List (List Int)} {g : Bag} (h : ShOk b r cs) (hg : BagOk N g) (hN : N + 10000 < 2 ^ 39) (A K c3 c7 n cc : Cell) (d : D) (c6 c12 c13 c14 c15 c16 c17 : Cell) :
    ∃ g' c12' c13' c14' c15' c16' c17', BagOk (N + 3000) g' ∧
      fo1 (tgN 6) lapBody d [A, K, .o g.d, c3, .f (dSheet b r cs), .f (rightD b cs), c6, c7, .f (.int b), .f (.int r), n, cc, c12, c13, c14, c15, c16, c17, .n] =
        .ok .nx [A, K, .o g'.d, c3, .f (dSheet b r cs), .f (rightD b cs), .f d, c7, .f (.int b), .f (.int r), n, cc, c12', c13', c14', c15', c16', c17', .n] := by
  have b2 := h.b2
  have b12 := h.b12
  have len := h.len
  have hb : 0 < (b : Int) := by omega
  obtain ⟨g1, acts, hg1, ha, ho, em⟩ := marked_ok h hg (by omega)
  have hf := fits_of ha
  obtain ⟨x, aw⟩ := add_with (l := actsSl 0 acts) h ho
  rw [marks_ok hb hf] at aw
  simp only at aw
  have sv : valF (b : Int) (actsFig b acts (digs b (valS b cs) cs.length)) (valS b cs / (b : Int) ^ cs.length) - valS b cs = actsGap b acts (digs b (valS b cs) cs.length) 1 := by
    have v := acts_val (b := b) (L := valS b cs / (b : Int) ^ cs.length) acts (digs b (valS b cs) cs.length) 1
    rw [digs_all hb, Int.mul_one] at v
    exact v
  obtain ⟨sg, sn⟩ := sum_gap hb (cs := cs) acts [] (digs b (valS b cs) cs.length) rfl (by rw [digs_len]; exact ha)
  rw [List.length_nil, Int.pow_zero] at sg
  rw [List.length_nil] at sn
  have sin := fun s m => acts_in acts 0 cs.length hf s m
  have sl := sl_len acts 0
  have fl : f_m_Written_last [.f (rightD b cs)] = .ok (.int (valS b cs / (b : Int) ^ cs.length)) [.n] := wr_last
  have wi := fun (w : List Int) (l : Int) => wr_init (b := b) (w := w) (l := l)
  generalize digs b (valS b cs) cs.length = R0 at *
  generalize valS b cs / (b : Int) ^ cs.length = L0 at *
  generalize actsFig (b : Int) acts R0 = FG at *
  generalize actsGap (b : Int) acts R0 1 = GP at *
  generalize actsSl 0 acts = SL at *
  have s1 := gSubW (b := b) (b2 := b) (r := r) (w := FG) (l := L0) (cs := cs) b12 b12
  rw [sv] at s1
  have nw := gNeW (b := b) (b' := b) (w := FG) (w' := FG) (l := L0) (l' := L0)
  simp only [and_self, decide_true, Bool.not_true] at nw
  have n1 := gNe_self (d := .int GP) (PD.int (n := 0)) (by decide)
  have tk : gSl (.lst (SL.map slD)) none (some 1) = some (.lst ((SL.take 1).map slD)) := by
    have := gSl_take (ds := SL.map slD) (n := 1)
    rw [← List.map_take] at this
    exact this
  obtain ⟨p, hp⟩ : ∃ p, addW (b : Int) cs (SL.take 1) = some p := by
    cases SL with
    | nil => exact ⟨_, rfl⟩
    | cons s SL =>
      cases z : addW (b : Int) cs [s] with
      | none => exact (sn s List.mem_cons_self z).elim
      | some p => exact ⟨p, z⟩
  obtain ⟨x1, aw1⟩ := add_with (l := SL.take 1) h fun s m => ho s (List.mem_of_mem_take m)
  rw [hp] at aw1
  simp only at aw1
  obtain ⟨g2, hg2, es⟩ := shown_right_ok (sl := SL.take 1) (W := dWr b p.1 p.2) h hg1 (by omega) (by
    cases SL with
    | nil => exact .inl rfl
    | cons s SL =>
      obtain ⟨t, x⟩ := s
      refine .inr ⟨t, x, p, rfl, ho _ List.mem_cons_self, ?_, hp, rfl⟩
      have := sin _ List.mem_cons_self
      simp only at this
      omega)
  have comp : ∀ (A K B c3 R c6 c7 b' r' n cc c12 c13 c14 c15 c16 c17 : Cell), lcL [18] (tgN 18) mYes (eOpF (gDun (tag2 "Written" "Sheet") f_m_Written_zsubz) [(eCall f_p_add_with [(.e (eV 4)), (.e (eLst [(eV 18)]))]), (eV 4)]) (SL.map slD) [A, K, B, c3, .f (dSheet b r cs), R, c6, c7, b', r', n, cc, c12, c13, c14, c15, c16, c17, .n] = .ok ((SL.map (dif b cs)).map .int) [A, K, B, c3, .f (dSheet b r cs), R, c6, c7, b', r', n, cc, c12, c13, c14, c15, c16, c17, .n] := by
    intro A K B c3 R c6 c7 b' r' n cc c12 c13 c14 c15 c16 c17
    rw [lcL_mapA slD (fun s => .int (dif b cs s)) fun s m => ?_, List.map_map]
    · rfl
    · obtain ⟨y, ay⟩ := add_with (l := [s]) h fun t m => by rw [List.mem_singleton.mp m]; exact ho s ‹_›
      cases z : addW (b : Int) cs [s] with
      | none => exact (sn s m z).elim
      | some q =>
        rw [z] at ay
        simp only [List.map_cons, List.map_nil] at ay
        have s2 := gSubW (b := b) (b2 := b) (r := r) (w := q.1) (l := q.2) (cs := cs) b12 b12
        have dq : dif b cs s = valF b q.1 q.2 - valS b cs := by unfold dif; rw [z]
        rw [← dq] at s2
        generalize slD s = sd at *
        simp -implicitDefEqProofs [-R.bind, ay, s2]
  have l1 : ((SL.map (dif b cs)).map D.int).length < sizeLine := by simp; exact szl (by omega)
  have su := gSum_ints (ns := SL.map (dif b cs))
  rw [sg] at su
  refine ⟨g2, .f (dWr b FG L0), .f (.lst ((SL.take 1).map slD)), .f (.int GP), .f (.lst (SL.map slD)), .f (.lst (FG.map .int)), .f (.int GP), hg2.mono (by omega), ?_⟩
  generalize (SL.map (dif b cs)).map D.int = SD at *
  have lf : gListF [.lst (SL.map slD)] = some (.lst (SL.map slD)) := rfl
  have lf1 : gListF [.lst ((SL.take 1).map slD)] = some (.lst ((SL.take 1).map slD)) := rfl
  generalize (SL.take 1).map slD = S1 at *
  generalize SL.map slD = SM at *
  simp -implicitDefEqProofs [-R.bind, em, aw, lf, wi, fr_wr, fl, nw, s1, n1, tk, lf1, aw1, es, comp, kLcB_eq l1, su]
end K81
namespace K81
open PySem PySem.Spec PyProof.Rows L2 Ev
theorem cars_ok {b r : Nat} {cs : List (List Int)} (h : ShOk b r cs) (hr : r ≤ 3) (A K B c3 R c6 b' r' n cc c12 c13 c14 c15 c16 c17 c18 : Cell) : ∀ (l : List Nat) (c7 : Cell), (∀ t ∈ l, t < cs.length) →
    ∃ c7', forL (tgN 7) carBody (l.map nD) [A, K, B, c3, .f (dSheet b r cs), R, c6, c7, b', r', n, cc, c12, c13, c14, c15, c16, c17, c18] = .ok .nx [A, K, B, c3, .f (dSheet b r cs), R, c6, c7', b', r', n, cc, c12, c13, c14, c15, c16, c17, c18]
  | [], c7, _ => ⟨c7, rfl⟩
  | t :: l, c7, hl => by
    have ht := hl t List.mem_cons_self
    obtain ⟨c7', e⟩ := cars_ok h hr A K B c3 R c6 b' r' n cc c12 c13 c14 c15 c16 c17 c18 l (.f (nD t)) fun s m => hl s (List.mem_cons_of_mem _ m)
    refine ⟨c7', ?_⟩
    have sp : cs = cs.take t ++ cs[t] :: cs.drop (t + 1) := by simp
    have cr : f_p__law_carry_right [.f (dSheet b r cs), .f (nD t)] = .ok (.bl true) [.n, .n] := by
      have hh := h
      rw [sp] at hh
      have c := carry_right_ok hh hr
      rw [← sp, List.length_take, Nat.min_eq_left (Nat.le_of_lt ht)] at c
      exact c
    rw [List.map_cons, forL_nx (st' := [A, K, B, c3, .f (dSheet b r cs), R, c6, .f (nD t), b', r', n, cc, c12, c13, c14, c15, c16, c17, c18]) (by simp -implicitDefEqProofs [-R.bind, cr]), e]
theorem laps_ok {b r : Nat} {cs : List (List Int)} (h : ShOk b r cs) (A K c3 c7 n cc : Cell) : ∀ (ds : List D) (N : Nat) (g : Bag) (c6 c12 c13 c14 c15 c16 c17 : Cell), BagOk N g → N + 3000 * ds.length + 10000 < 2 ^ 39 →
    ∃ g' c6' c12' c13' c14' c15' c16' c17', BagOk (N + 3000 * ds.length) g' ∧
      forL (tgN 6) lapBody ds [A, K, .o g.d, c3, .f (dSheet b r cs), .f (rightD b cs), c6, c7, .f (.int b), .f (.int r), n, cc, c12, c13, c14, c15, c16, c17, .n] =
        .ok .nx [A, K, .o g'.d, c3, .f (dSheet b r cs), .f (rightD b cs), c6', c7, .f (.int b), .f (.int r), n, cc, c12', c13', c14', c15', c16', c17', .n]
  | [], N, g, c6, c12, c13, c14, c15, c16, c17, hg, _ => ⟨g, c6, c12, c13, c14, c15, c16, c17, hg, rfl⟩
  | d :: ds, N, g, c6, c12, c13, c14, c15, c16, c17, hg, hN => by
    simp only [List.length_cons] at hN
    obtain ⟨g1, d12, d13, d14, d15, d16, d17, hg1, e1⟩ := lap_ok h hg (by omega) A K c3 c7 n cc d c6 c12 c13 c14 c15 c16 c17
    obtain ⟨g2, f6, f12, f13, f14, f15, f16, f17, hg2, e2⟩ := laps_ok h A K c3 c7 n cc ds (N + 3000) g1 (.f d) d12 d13 d14 d15 d16 d17 hg1 (by omega)
    refine ⟨g2, f6, f12, f13, f14, f15, f16, f17, ?_, (forL_nx e1).trans e2⟩
    rw [List.length_cons, show N + 3000 * (ds.length + 1) = N + 3000 + 3000 * ds.length from by omega]; exact hg2
theorem right_ok {ns : List Int} {k : Nat} (hk : k < 1000) : f_p__law_right [.f (.scr ns), .f (.int k)] = .ok (.bl true) [.n, .n] := by
  obtain ⟨g, hg, eb⟩ := bag_ok (ns := ns) hk
  obtain ⟨x, g1, x0, x1, hg1, e1⟩ := take_ok (many := 11) hg (by decide) (by decide) (by decide)
  obtain ⟨y, g2, y0, y1, hg2, e2⟩ := take_ok (many := 3) hg1 (by decide) (by decide) (by decide)
  obtain ⟨b, hb⟩ : ∃ b : Nat, (b : Int) = 2 + x := ⟨(2 + x).toNat, by omega⟩
  obtain ⟨r, hr⟩ : ∃ r : Nat, (r : Int) = 1 + y := ⟨(1 + y).toNat, by omega⟩
  have b2 : 2 ≤ b := by omega
  have b12 : b ≤ 12 := by omega
  have r1 : 1 ≤ r := by omega
  have r3 : r ≤ 3 := by omega
  obtain ⟨many, hm1, hm2, em⟩ : ∃ many : Int, 1 ≤ many ∧ many ≤ 40 ∧ L2.atI [D.int 10, .int 40] (if k = 0 then 1 else 0) = some (.int many) := by
    by_cases z : k = 0
    · subst z; exact ⟨40, by decide, by decide, rfl⟩
    · rw [if_neg z]
      exact ⟨10, by decide, by decide, rfl⟩
  obtain ⟨z, g3, z0, z1, hg3, e3⟩ := take_ok (many := many) hg2 (by decide) (by omega) (by omega)
  obtain ⟨n, hn⟩ : ∃ n : Nat, (n : Int) = 1 + z := ⟨(1 + z).toNat, by omega⟩
  have nl : (rangeD 0 n).length = n := rangeD_len
  obtain ⟨g4, cs, c3, hg4, cl, ok, e4⟩ := cols_ok b2 b12 r1 (by omega) (.f (.scr ns)) (.f (.int k)) (.f (.int n)) (rangeD 0 n) [] g3 3 .n hg3 (fun c m => (List.not_mem_nil m).elim) (by omega) (by simp; omega)
  rw [nl, List.length_nil, Nat.zero_add] at cl
  rw [nl] at hg4
  have h : ShOk b r cs := ⟨b2, b12, r1, by omega, by omega, ok⟩
  have ini := sheet_init h
  have ar : f_p_add_right [.f (dSheet b r cs)] = .ok (rightD b cs) [.n] := add_right' h
  have k1 : ∀ st : Sl, kI1 (.int n) st = .ok (rangeD 0 n) st := fun st => kI1_nat (by omega)
  have kl : ∀ st : Sl, kLr (.int n) st = .ok (.lst (rangeD 0 n)) st := fun st => kLr_nat (by omega)
  have k2 : ∀ st : Sl, kI1 (.int 2) st = .ok (rangeD 0 2) st := fun st => kI1_nat (n := 2) (by decide)
  simp only [List.map_nil] at e4
  rw [f_p__law_right, runF_eq (by rfl)]
  have lp := fun cc => laps_ok h (.f (.scr ns)) (.f (.int k)) c3 .n (.f (.int n)) cc (rangeD 0 2) (3 + 10 * n) g4 .n .n .n .n .n .n .n hg4 (by rw [rangeD_len]; omega)
  obtain ⟨g5, c6, c12, c13, c14, c15, c16, c17, hg5, e5⟩ := lp (.f (.lst (cs.map dcol)))
  rw [rangeD_len] at hg5
  obtain ⟨g6, js, hg6, pm, e6⟩ := mixed_ok (js := List.range n) (by simp; omega) hg5 (by simp; omega)
  rw [← rangeD_nD] at e6
  obtain ⟨c7, e7⟩ := cars_ok h r3 (.f (.scr ns)) (.f (.int k)) (.o g6.d) c3 (.f (rightD b cs)) c6 (.f (.int b)) (.f (.int r)) (.f (.int n)) (.f (.lst (cs.map dcol))) c12 c13 c14 c15 c16 c17 .n (js.take 8) .n fun t m => by
    have := pm.mem_iff.mp (List.mem_of_mem_take m)
    rw [List.mem_range] at this
    omega
  have tk : gSl (.lst (js.map nD)) none (some 8) = some (.lst ((js.take 8).map nD)) := by
    have := gSl_take (ds := js.map nD) (n := 8)
    rw [← List.map_take] at this
    exact this
  have jl : js.length = n := by rw [pm.length_eq, List.length_range]
  generalize (js.take 8).map nD = T8 at *
  simp -implicitDefEqProofs [-R.bind, b_p__law_right, eb, e1, e2, ← hb, ← hr, em, e3, ← hn, k1, k2, kl, e4, ini, fr_sh, ar, e5, e6, tk, e7]
theorem law_pure (ns : List Int) : ∃ cs', f_p_law [.f (.scr ns)] = .ok (.bl true) cs' := by
  refine ⟨[.n], ?_⟩
  rw [f_p_law, runF_eq (by rfl)]
  have key : ∀ (n lo : Nat) (c : Cell), lo + n < 1000 → ∃ c', forL (tgN 1) (sIf (mNot (mTru (.e (eCall f_p__law_right [(.e (eV 0)), (.e (eV 1))])))) (sRet (eC (.bl false))) sNil) ((List.range' lo n).map nD) [.f (.scr ns), c] = .ok .nx [.f (.scr ns), c'] := by
    intro n
    induction n with
    | zero => intro lo c _; exact ⟨c, rfl⟩
    | succ n ih =>
      intro lo c hl
      obtain ⟨c', e⟩ := ih (lo + 1) (.f (nD lo)) (by omega)
      refine ⟨c', ?_⟩
      have ro := right_ok (ns := ns) (k := lo) (by omega)
      have ro' : f_p__law_right [.f (.scr ns), .f (nD lo)] = .ok (.bl true) [.n, .n] := ro
      rw [List.range'_succ, List.map_cons, forL_nx (st' := [.f (.scr ns), .f (nD lo)]) (by simp -implicitDefEqProofs [-R.bind, ro']), e]
  generalize hm : (if (if (ns.length : Int) < 6 then (ns.length : Int) else 6) > 1 then (if (ns.length : Int) < 6 then (ns.length : Int) else 6) else 1 : Int) = m
  have m1 : 1 ≤ m := by rw [← hm]; split <;> omega
  have m6 : m ≤ 6 := by rw [← hm]; split <;> split <;> omega
  obtain ⟨n, rfl⟩ : ∃ n : Nat, m = n := ⟨m.toNat, by omega⟩
  obtain ⟨c', e⟩ := key n 0 .n (by omega)
  have k1 : ∀ st : Sl, kI1 (.int n) st = .ok ((List.range' 0 n).map nD) st := fun st => by rw [kI1_nat (by omega), rangeD_nD, List.range_eq_range']
  have hm' := hm
  simp only [gt_iff_lt] at hm'
  simp -implicitDefEqProofs [-R.bind, b_p_law, hm', k1, e]
end K81
theorem PySem.Challenge.cw_sumslips_k81_whole_slips_as_other_result_holds : PySem.Challenge.rw_sumslips_k81_whole_slips_as_other_result.Holds := by
  exact K81.holds_of fun ns _ => K81.law_pure ns
