import PyProof.Rows.All
import Wide.All
import OpenK.AllK
import Wide.FinOn
import KE.KStateDown
import HandS.ForMost
import HandS.ForExc
import HandS.Defaults
import HandS.Wide
import HandS.Iter
import HandS.More
import HandS.Head0
import HandS.Head1
import HandS.Head2
import HandS.HeadEnd
import HandS.HeadHook1
import HandS.HeadHook2
import HandS.Property
import HandS.ClsMeth
import HandS.IsInst
import HandS.Style
import HandS.Flow
import HandS.Conv
import HandS.CallLocal
import HandS.OwnEq
import HandS.ExcInit
import HandS.FStr
import HandS.Nested
import KE.KExcSuper
import HandS.ExcIs
import HandS.ExcField
import HandS.ExcOwn
import PyProof.InstNe
import PySem.Challenge.RW_doorplans_k79_joins_are_put_in
import HandS.Text
set_option Elab.async false
set_option linter.all false
set_option maxRecDepth 100000
set_option maxHeartbeats 0
section
/-! typed readings over the hand layer: data by type, an environment of slots, what a def owns -/
namespace Tyl
open PySem PySem.Spec PyProof.Rows L2
abbrev Fg := PySem.W.Frag
def Ex (G H : Hp) : Prop := ∀ a o, G a = some o → H a = some o
theorem Ex.refl (H : Hp) : Ex H H := fun _ _ h => h
theorem Ex.trans {G H J : Hp} (a : Ex G H) (b : Ex H J) : Ex G J := fun x o h => b x o (a x o h)
theorem Ex.new {G H : Hp} {p : Addr} {o : HO} (e : Ex G H) (h : G p = none) : Ex G (upd H p o) := fun a u ha => by
  rw [upd_ne (ne_of_none ha h)]
  exact e a u ha
theorem Ex.both {G H : Hp} {p : Addr} {o : HO} (e : Ex G H) : Ex (upd G p o) (upd H p o) := fun a u ha => by
  unfold upd at ha ⊢
  split
  · rename_i q
    rw [if_pos q] at ha
    exact ha
  · rename_i q
    rw [if_neg q] at ha
    exact e a u ha
theorem Ex.none {G H : Hp} (e : Ex G H) {p : Addr} (h : H p = Option.none) : G p = Option.none := by
  cases q : G p with
  | none => rfl
  | some o => rw [e p o q] at h; cases h

/-- data of a type, as a value with the immutable part of the heap -/
class Rp (α : Type) where
  rp : Fg → Hp → V → α → Prop
  mono : ∀ {K : Fg} {G G' : Hp} {v : V} {a : α}, Ex G G' → rp K G v a → rp K G' v a
def All2 {α β : Type} (R : α → β → Prop) : List α → List β → Prop
  | [], [] => True
  | a :: as, b :: bs => R a b ∧ All2 R as bs
  | _, _ => False
section
variable {α β : Type} {R S : α → β → Prop}
theorem All2.len : ∀ {as : List α} {bs : List β}, All2 R as bs → as.length = bs.length
  | [], [], _ => rfl
  | _ :: _, _ :: _, h => congrArg Nat.succ (All2.len h.2)
theorem All2.imp (f : ∀ a b, R a b → S a b) : ∀ {as : List α} {bs : List β}, All2 R as bs → All2 S as bs
  | [], [], _ => trivial
  | _ :: _, _ :: _, h => ⟨f _ _ h.1, All2.imp f h.2⟩
theorem All2.right : ∀ {as : List α} {bs : List β} {i : Nat} {b : β}, All2 R as bs → bs[i]? = some b → ∃ a, as[i]? = some a ∧ R a b
  | [], [], _, _, _, e => by simp at e
  | a :: _, _ :: _, 0, _, h, e => by simp at e; subst e; exact ⟨a, rfl, h.1⟩
  | _ :: as, _ :: bs, i + 1, b, h, e => by
    obtain ⟨a, h1, h2⟩ := All2.right (i := i) (b := b) h.2 (by simpa using e)
    exact ⟨a, by simpa using h1, h2⟩
theorem All2.left : ∀ {as : List α} {bs : List β} {i : Nat} {a : α}, All2 R as bs → as[i]? = some a → ∃ b, bs[i]? = some b ∧ R a b
  | [], [], _, _, _, e => by simp at e
  | _ :: _, b :: _, 0, _, h, e => by simp at e; subst e; exact ⟨b, rfl, h.1⟩
  | _ :: as, _ :: bs, i + 1, a, h, e => by
    obtain ⟨b, h1, h2⟩ := All2.left (i := i) (a := a) h.2 (by simpa using e)
    exact ⟨b, by simpa using h1, h2⟩
theorem All2.app : ∀ {as as' : List α} {bs bs' : List β}, All2 R as bs → All2 R as' bs' → All2 R (as ++ as') (bs ++ bs')
  | [], _, [], _, _, h => h
  | _ :: _, _, _ :: _, _, h, h' => ⟨h.1, All2.app h.2 h'⟩
theorem All2.rev : ∀ {as : List α} {bs : List β}, All2 R as bs → All2 R as.reverse bs.reverse
  | [], [], _ => trivial
  | a :: as, b :: bs, h => by
    rw [List.reverse_cons, List.reverse_cons]
    exact All2.app (All2.rev h.2) ⟨h.1, trivial⟩
theorem All2.take (n : Nat) : ∀ {as : List α} {bs : List β}, All2 R as bs → All2 R (as.take n) (bs.take n) := by
  induction n with
  | zero => intro as bs h; simp; trivial
  | succ n ih =>
    intro as bs h
    match as, bs, h with
    | [], [], _ => trivial
    | _ :: _, _ :: _, h => exact ⟨h.1, ih h.2⟩
theorem All2.drop (n : Nat) : ∀ {as : List α} {bs : List β}, All2 R as bs → All2 R (as.drop n) (bs.drop n) := by
  induction n with
  | zero => intro as bs h; exact h
  | succ n ih =>
    intro as bs h
    match as, bs, h with
    | [], [], _ => trivial
    | _ :: _, _ :: _, h => exact ih h.2
theorem All2.mapr {γ : Type} (f : γ → β) : ∀ {as : List α} {cs : List γ}, All2 (fun a c => R a (f c)) as cs → All2 R as (cs.map f)
  | [], [], _ => trivial
  | _ :: _, _ :: _, h => ⟨h.1, All2.mapr f h.2⟩
theorem All2.rep (n : Nat) {a : α} {b : β} (h : R a b) : All2 R (List.replicate n a) (List.replicate n b) := by
  induction n with
  | zero => trivial
  | succ n ih => exact ⟨h, ih⟩
theorem All2.eraseIdx : ∀ (i : Nat) {as : List α} {bs : List β}, All2 R as bs → All2 R (as.eraseIdx i) (bs.eraseIdx i)
  | _, [], [], _ => trivial
  | 0, _ :: _, _ :: _, h => h.2
  | i + 1, _ :: _, _ :: _, h => ⟨h.1, All2.eraseIdx i h.2⟩
end
instance : Rp Int := ⟨fun _ _ v a => v = .int a, fun _ h => h⟩
instance : Rp Bool := ⟨fun _ _ v a => v = .bl a, fun _ h => h⟩
instance : Rp Str := ⟨fun _ _ v a => v = .str a, fun _ h => h⟩
instance : Rp Unit := ⟨fun _ _ v _ => v = .non, fun _ h => h⟩
/-- a thing of which nothing is said -/
structure Any where
instance : Rp Any := ⟨fun _ _ _ _ => True, fun _ h => h⟩
instance rpList {α : Type} [Rp α] : Rp (List α) := ⟨fun K G v as => ∃ p xs, v = .ref p ∧ G p = some (.lst xs) ∧ All2 (Rp.rp K G) xs as,
  fun e ⟨p, xs, h1, h2, h3⟩ => ⟨p, xs, h1, e _ _ h2, h3.imp fun _ _ h => Rp.mono e h⟩⟩
instance rpPair {α β : Type} [Rp α] [Rp β] : Rp (α × β) := ⟨fun K G v a => ∃ p x y, v = .ref p ∧ G p = some (.tup [x, y]) ∧ Rp.rp K G x a.1 ∧ Rp.rp K G y a.2,
  fun e ⟨p, x, y, h1, h2, h3, h4⟩ => ⟨p, x, y, h1, e _ _ h2, Rp.mono e h3, Rp.mono e h4⟩⟩
/-- a tuple of three -/
structure T3 (α β γ : Type) where
  a : α
  b : β
  c : γ
instance rpT3 {α β γ : Type} [Rp α] [Rp β] [Rp γ] : Rp (T3 α β γ) := ⟨fun K G v t => ∃ p x y z, v = .ref p ∧ G p = some (.tup [x, y, z]) ∧ Rp.rp K G x t.a ∧ Rp.rp K G y t.b ∧ Rp.rp K G z t.c,
  fun e ⟨p, x, y, z, h1, h2, h3, h4, h5⟩ => ⟨p, x, y, z, h1, e _ _ h2, Rp.mono e h3, Rp.mono e h4, Rp.mono e h5⟩⟩

/-! ### what a slot holds -/
structure SD where
  P : Fg → Hp → Hp → V → List Addr → Prop
  mono : ∀ {K : Fg} {G H G' H' : Hp} {v : V} {f : List Addr}, Ex G G' → (∀ a ∈ f, H' a = H a) → P K G H v f → P K G' H' v f
  dom : ∀ {K : Fg} {G H : Hp} {v : V} {f : List Addr}, P K G H v f → ∀ a ∈ f, H a ≠ none
def sd {α : Type} [Rp α] (d : α) : SD where
  P := fun K G _ v f => Rp.rp K G v d ∧ f = []
  mono := fun e _ h => ⟨Rp.mono e h.1, h.2⟩
  dom := fun h a ha => by rw [h.2] at ha; cases ha
inductive Rows (K : Fg) (G H : Hp) : List SD → List V → List Addr → Prop
  | nil : Rows K G H [] [] []
  | cons {s : SD} {v : V} {f : List Addr} {ss : List SD} {vs : List V} {fs : List Addr} : s.P K G H v f → Rows K G H ss vs fs → Rows K G H (s :: ss) (v :: vs) (f ++ fs)
theorem Rows.mono {K : Fg} {G H G' H' : Hp} (e : Ex G G') : ∀ {ss : List SD} {vs : List V} {f : List Addr}, (∀ a ∈ f, H' a = H a) → Rows K G H ss vs f → Rows K G' H' ss vs f := by
  intro ss vs f k h
  induction h with
  | nil => exact .nil
  | cons h1 _ ih => exact .cons (SD.mono _ e (fun a ha => k a (List.mem_append_left _ ha)) h1) (ih fun a ha => k a (List.mem_append_right _ ha))
theorem Rows.dom {K : Fg} {G H : Hp} : ∀ {ss : List SD} {vs : List V} {f : List Addr}, Rows K G H ss vs f → ∀ a ∈ f, H a ≠ none := by
  intro ss vs f h
  induction h with
  | nil => intro a ha; cases ha
  | cons h1 _ ih =>
    intro a ha
    rcases List.mem_append.mp ha with q | q
    · exact SD.dom _ h1 a q
    · exact ih a q
theorem Rows.len {K : Fg} {G H : Hp} {ss : List SD} {vs : List V} {f : List Addr} (h : Rows K G H ss vs f) : ss.length = vs.length := by
  induction h with
  | nil => rfl
  | cons _ _ ih => exact congrArg Nat.succ ih
/-- data that owns nothing -/
def PR (K : Fg) (G : Hp) (v : V) (s : SD) : Prop := ∀ H, s.P K G H v []
theorem PR.mono {K : Fg} {G G' : Hp} (e : Ex G G') {v : V} {s : SD} (h : PR K G v s) : PR K G' v s := fun H => SD.mono s e (fun _ z => nomatch z) (h H)
/-- a list that the def may change -/
def own (ss : List SD) : SD where
  P := fun K G H v f => ∃ p xs, v = .ref p ∧ H p = some (.lst xs) ∧ All2 (PR K G) xs ss ∧ f = [p]
  mono := fun e k ⟨p, xs, h1, h2, h3, h4⟩ => ⟨p, xs, h1, by rw [k p (by rw [h4]; exact List.mem_cons_self)]; exact h2, h3.imp fun _ _ h => h.mono e, h4⟩
  dom := fun ⟨p, xs, h1, h2, h3, h4⟩ a ha => by
    rw [h4] at ha
    rw [List.mem_singleton.mp ha, h2]; exact fun z => nomatch z
def sds {α : Type} [Rp α] (l : List α) : List SD := l.map sd
theorem pr_sd {α : Type} [Rp α] {K : Fg} {G : Hp} {v : V} {d : α} (h : Rp.rp K G v d) : PR K G v (sd d) := fun _ => ⟨h, rfl⟩
theorem PR.rp {α : Type} [Rp α] {K : Fg} {G : Hp} {v : V} {d : α} (h : PR K G v (sd d)) : Rp.rp K G v d := (h G).1
theorem rows_sds {α : Type} [Rp α] {K : Fg} {G : Hp} : ∀ {l : List α} {xs : List V}, All2 (PR K G) xs (sds l) → All2 (Rp.rp K G) xs l
  | [], [], _ => trivial
  | a :: l, x :: xs, h => ⟨h.1.rp, rows_sds (l := l) h.2⟩
theorem rows_of {α : Type} [Rp α] {K : Fg} {G : Hp} : ∀ {l : List α} {xs : List V}, All2 (Rp.rp K G) xs l → All2 (PR K G) xs (sds l)
  | [], [], _ => trivial
  | a :: l, x :: xs, h => ⟨pr_sd h.1, rows_of h.2⟩

/-! ### the slots -/
abbrev En := List (Option SD)
inductive Get : En → Nat → SD → Prop
  | z {s : SD} {l : En} : Get (some s :: l) 0 s
  | s {x : Option SD} {l : En} {i : Nat} {s : SD} : Get l i s → Get (x :: l) (i + 1) s
theorem Get.to {l : En} {i : Nat} {s : SD} (h : Get l i s) : l[i]? = some (some s) := by
  induction h with
  | z => rfl
  | s _ ih => simpa using ih
inductive Put : En → Nat → Option SD → En → Prop
  | z {x s : Option SD} {l : En} : Put (x :: l) 0 s (s :: l)
  | s {x s : Option SD} {l l' : En} {i : Nat} : Put l i s l' → Put (x :: l) (i + 1) s (x :: l')
theorem Put.to {l l' : En} {i : Nat} {s : Option SD} (h : Put l i s l') : l' = l.set i s ∧ i < l.length := by
  induction h with
  | z => exact ⟨rfl, Nat.zero_lt_succ _⟩
  | s _ ih => exact ⟨by rw [ih.1]; rfl, Nat.succ_lt_succ ih.2⟩
inductive Env (K : Fg) (G H : Hp) : En → L2.St → List Addr → Prop
  | nil : Env K G H [] [] []
  | junk {o : Option V} {l : En} {σ : L2.St} {f : List Addr} : Env K G H l σ f → Env K G H (none :: l) (o :: σ) f
  | cons {s : SD} {v : V} {f : List Addr} {l : En} {σ : L2.St} {fs : List Addr} : s.P K G H v f → Env K G H l σ fs → Env K G H (some s :: l) (some v :: σ) (f ++ fs)
theorem Env.mono {K : Fg} {G H G' H' : Hp} (e : Ex G G') : ∀ {l : En} {σ : L2.St} {f : List Addr}, (∀ a ∈ f, H' a = H a) → Env K G H l σ f → Env K G' H' l σ f := by
  intro l σ f k h
  induction h with
  | nil => exact .nil
  | junk _ ih => exact .junk (ih k)
  | cons h1 _ ih => exact .cons (SD.mono _ e (fun a ha => k a (List.mem_append_left _ ha)) h1) (ih fun a ha => k a (List.mem_append_right _ ha))
theorem Env.dom {K : Fg} {G H : Hp} : ∀ {l : En} {σ : L2.St} {f : List Addr}, Env K G H l σ f → ∀ a ∈ f, H a ≠ none := by
  intro l σ f h
  induction h with
  | nil => intro a ha; cases ha
  | junk _ ih => exact ih
  | cons h1 _ ih =>
    intro a ha
    rcases List.mem_append.mp ha with q | q
    · exact SD.dom _ h1 a q
    · exact ih a q
theorem Env.len {K : Fg} {G H : Hp} {l : En} {σ : L2.St} {f : List Addr} (h : Env K G H l σ f) : l.length = σ.length := by
  induction h with
  | nil => rfl
  | junk _ ih => exact congrArg Nat.succ ih
  | cons _ _ ih => exact congrArg Nat.succ ih
theorem perm3 {a b c d : List Addr} (h : b.Perm (c ++ d)) : (a ++ b).Perm (c ++ (a ++ d)) := by
  refine (List.Perm.append_left a h).trans ?_
  rw [← List.append_assoc, ← List.append_assoc]
  exact List.Perm.append_right d List.perm_append_comm
theorem Env.split {K : Fg} {G H : Hp} {l : En} {σ : L2.St} {fp : List Addr} (h : Env K G H l σ fp) : ∀ {i : Nat}, i < l.length → ∃ f r, fp.Perm (f ++ r) ∧ (∀ s, l[i]? = some (some s) → ∃ v, σ[i]? = some (some v) ∧ s.P K G H v f) ∧
    (∀ G' H' s' v' f', Ex G G' → (∀ a ∈ r, H' a = H a) → SD.P s' K G' H' v' f' → ∃ fp', fp'.Perm (f' ++ r) ∧ Env K G' H' (l.set i (some s')) (σ.set i (some v')) fp') ∧
    (∀ G' H' o, Ex G G' → (∀ a ∈ r, H' a = H a) → ∃ fp', fp'.Perm r ∧ Env K G' H' (l.set i none) (σ.set i o) fp') := by
  induction h with
  | nil => intro i hi; exact absurd hi (Nat.not_lt_zero _)
  | @junk o l σ f h ih =>
    intro i hi
    cases i with
    | zero =>
      refine ⟨[], f, .refl _, (fun s e => by simp at e), fun G' H' s' v' f' e k p => ⟨f' ++ f, .refl _, .cons p (h.mono e k)⟩, fun G' H' o e k => ⟨f, .refl _, .junk (h.mono e k)⟩⟩
    | succ i =>
      obtain ⟨f0, r, p1, g1, u1, u2⟩ := ih (i := i) (Nat.lt_of_succ_lt_succ hi)
      refine ⟨f0, r, p1, (fun s e => by simpa using g1 s (by simpa using e)), fun G' H' s' v' f' e k p => ?_, fun G' H' o e k => ?_⟩
      · obtain ⟨fp', q1, q2⟩ := u1 G' H' s' v' f' e k p
        exact ⟨fp', q1, .junk q2⟩
      · obtain ⟨fp', q1, q2⟩ := u2 G' H' o e k
        exact ⟨fp', q1, .junk q2⟩
  | @cons s v f l σ fs h1 h ih =>
    intro i hi
    cases i with
    | zero =>
      refine ⟨f, fs, .refl _, (fun s e => by simp at e; subst e; exact ⟨v, rfl, h1⟩), fun G' H' s' v' f' e k p => ⟨f' ++ fs, .refl _, .cons p (h.mono e k)⟩, fun G' H' o e k => ⟨fs, .refl _, .junk (h.mono e k)⟩⟩
    | succ i =>
      obtain ⟨f0, r, p1, g1, u1, u2⟩ := ih (i := i) (Nat.lt_of_succ_lt_succ hi)
      refine ⟨f0, f ++ r, perm3 p1, (fun s e => by simpa using g1 s (by simpa using e)), fun G' H' s' v' f' e k p => ?_, fun G' H' o e k => ?_⟩
      · obtain ⟨fp', q1, q2⟩ := u1 G' H' s' v' f' e (fun a ha => k a (List.mem_append_right _ ha)) p
        exact ⟨f ++ fp', perm3 q1, .cons (SD.mono _ e (fun a ha => k a (List.mem_append_left _ ha)) h1) q2⟩
      · obtain ⟨fp', q1, q2⟩ := u2 G' H' o e (fun a ha => k a (List.mem_append_right _ ha))
        exact ⟨f ++ fp', List.Perm.append_left _ q1, .cons (SD.mono _ e (fun a ha => k a (List.mem_append_left _ ha)) h1) q2⟩

/-! ### the frame of a def: where it began -/
structure Base (ow : List Nat) where
  G : Hp
  H : Hp
  fp : List Addr
  fix : List V
/-- the slots of what the caller owns stay; each such object is a slot's own -/
structure Base.Fix {ow : List Nat} (B : Base ow) (σ : L2.St) : Prop where
  len : B.fix.length = ow.length
  at_ : ∀ (k i : Nat) (v : V), ow[k]? = some i → B.fix[k]? = some v → σ[i]? = some (some v)
  fl : ∀ a ∈ B.fp, V.ref a ∈ B.fix
structure Fr {ow : List Nat} (B : Base ow) (G H : Hp) (fp : List Addr) : Prop where
  ex : Ex G H
  g0 : Ex B.G G
  gn : ∀ a, B.H a ≠ none → B.G a = none → G a = none
  keep : ∀ a o, B.H a = some o → a ∉ B.fp → H a = some o
  dom : ∀ a, B.H a ≠ none → H a ≠ none
  nd : fp.Nodup
  un : ∀ a ∈ fp, G a = none ∧ H a ≠ none ∧ (B.H a = none ∨ a ∈ B.fp)
section
variable {ow : List Nat} {B : Base ow} {G H : Hp} {fp fp' f : List Addr}
theorem Fr.perm (h : Fr B G H fp) (p : fp'.Perm fp) : Fr B G H fp' := ⟨h.ex, h.g0, h.gn, h.keep, h.dom, (p.nodup_iff).mpr h.nd, fun a ha => h.un a (p.mem_iff.mp ha)⟩
theorem Fr.sub (h : Fr B G H (f ++ fp)) : Fr B G H fp := ⟨h.ex, h.g0, h.gn, h.keep, h.dom, (List.nodup_append.mp h.nd).2.1, fun a ha => h.un a (List.mem_append_right _ ha)⟩
theorem Fr.subl (h : Fr B G H (f ++ fp)) : Fr B G H f := ⟨h.ex, h.g0, h.gn, h.keep, h.dom, (List.nodup_append.mp h.nd).1, fun a ha => h.un a (List.mem_append_left _ ha)⟩
theorem Fr.bnone (h : Fr B G H fp) {p : Addr} (hp : H p = none) : B.H p = none := by
  cases e : B.H p with
  | none => rfl
  | some o => exact absurd hp (h.dom p (by rw [e]; exact fun z => nomatch z))
theorem Fr.newG (h : Fr B G H fp) {p : Addr} {o : HO} (hp : H p = none) : Fr B (upd G p o) (upd H p o) fp where
  ex := h.ex.both
  g0 := h.g0.new (h.g0.none (h.ex.none hp))
  gn := fun a ha hb => by
    have ne : a ≠ p := fun e => ha (by rw [e]; exact h.bnone hp)
    rw [upd_ne ne]
    exact h.gn a ha hb
  keep := fun a u ha hb => by
    have ne : a ≠ p := fun e => by rw [e, h.bnone hp] at ha; cases ha
    rw [upd_ne ne]
    exact h.keep a u ha hb
  dom := fun a ha => by
    have ne : a ≠ p := fun e => ha (by rw [e]; exact h.bnone hp)
    rw [upd_ne ne]
    exact h.dom a ha
  nd := h.nd
  un := fun a ha => by
    obtain ⟨u1, u2, u3⟩ := h.un a ha
    have ne : a ≠ p := fun e => u2 (by rw [e]; exact hp)
    rw [upd_ne ne, upd_ne ne]
    exact ⟨u1, u2, u3⟩
theorem Fr.newO (h : Fr B G H fp) {p : Addr} {o : HO} (hp : H p = none) : Fr B G (upd H p o) (p :: fp) where
  ex := h.ex.new (h.ex.none hp)
  g0 := h.g0
  gn := h.gn
  keep := fun a u ha hb => by
    have ne : a ≠ p := fun e => by rw [e, h.bnone hp] at ha; cases ha
    rw [upd_ne ne]
    exact h.keep a u ha hb
  dom := fun a ha => by
    have ne : a ≠ p := fun e => ha (by rw [e]; exact h.bnone hp)
    rw [upd_ne ne]
    exact h.dom a ha
  nd := List.nodup_cons.mpr ⟨fun hm => (h.un p hm).2.1 hp, h.nd⟩
  un := fun a ha => by
    rcases List.mem_cons.mp ha with e | ha
    · subst e
      rw [upd_same]
      exact ⟨h.ex.none hp, fun z => (nomatch z), .inl (h.bnone hp)⟩
    · obtain ⟨u1, u2, u3⟩ := h.un a ha
      have ne : a ≠ p := fun e => u2 (by rw [e]; exact hp)
      rw [upd_ne ne]
      exact ⟨u1, u2, u3⟩
theorem Fr.mut (h : Fr B G H fp) {p : Addr} {o : HO} (hp : p ∈ fp) : Fr B G (upd H p o) fp where
  ex := h.ex.new (h.un p hp).1
  g0 := h.g0
  gn := h.gn
  keep := fun a u ha hb => by
    have ne : a ≠ p := fun e => by
      rcases (h.un p hp).2.2 with q | q
      · rw [e, q] at ha; cases ha
      · exact hb (by rw [e]; exact q)
    rw [upd_ne ne]
    exact h.keep a u ha hb
  dom := fun a ha => by
    by_cases e : a = p
    · rw [e, upd_same]; exact fun z => nomatch z
    · rw [upd_ne e]; exact h.dom a ha
  nd := h.nd
  un := fun a ha => by
    obtain ⟨u1, u2, u3⟩ := h.un a ha
    refine ⟨u1, ?_, u3⟩
    by_cases e : a = p
    · rw [e, upd_same]; exact fun z => nomatch z
    · rw [upd_ne e]; exact u2
/-- what is owned becomes immutable -/
def frzG (G H : Hp) (f : List Addr) : Hp := fun a => if a ∈ f then H a else G a
theorem frzG_ex (h : Ex G H) (hf : ∀ a ∈ f, G a = none) : Ex G (frzG G H f) := fun a o e => by
  unfold frzG
  split
  · rename_i q; rw [hf a q] at e; cases e
  · exact e
theorem frzG_in {a : Addr} (h : a ∈ f) : frzG G H f a = H a := by unfold frzG; rw [if_pos h]
theorem Fr.frz (h : Fr B G H (f ++ fp)) (hn : ∀ a ∈ f, B.H a = none) : Fr B (frzG G H f) H fp where
  ex := fun a o e => by
    unfold frzG at e
    split at e
    · exact e
    · exact h.ex a o e
  g0 := h.g0.trans (frzG_ex h.ex fun a ha => (h.un a (List.mem_append_left _ ha)).1)
  gn := fun a ha hg => by
    unfold frzG
    split
    · rename_i q; exact absurd (hn a q) ha
    · exact h.gn a ha hg
  keep := h.keep
  dom := h.dom
  nd := (List.nodup_append.mp h.nd).2.1
  un := fun a ha => by
    obtain ⟨u1, u2, u3⟩ := h.un a (List.mem_append_right _ ha)
    refine ⟨?_, u2, u3⟩
    unfold frzG
    split
    · rename_i q
      exact absurd rfl ((List.nodup_append.mp h.nd).2.2 a q a ha)
    · exact u1
end
/-- what stands besides: m.g in the immutable part; m.h: objects laid aside -/
structure Mi where
  g : Hp
  h : List (Addr × HO)
structure MiOk (m : Mi) (G H : Hp) (fp : List Addr) : Prop where
  g : Ex m.g G
  h : ∀ q ∈ m.h, H q.1 = some q.2 ∧ G q.1 = none ∧ q.1 ∉ fp
section
variable {m : Mi} {G H : Hp} {fp fp' f : List Addr} {p : Addr} {o : HO}
theorem MiOk.sub (M : MiOk m G H fp) (h : ∀ a ∈ fp', a ∈ fp) : MiOk m G H fp' := ⟨M.g, fun q hq => let ⟨a, b, c⟩ := M.h q hq; ⟨a, b, fun z => c (h _ z)⟩⟩
theorem MiOk.newG (M : MiOk m G H fp) (e : Ex G H) (hp : H p = none) : MiOk m (upd G p o) (upd H p o) fp := by
  refine ⟨M.g.trans ((Ex.refl G).new (e.none hp)), fun q hq => ?_⟩
  obtain ⟨a, b, c⟩ := M.h q hq
  have ne : q.1 ≠ p := ne_of_none a hp
  rw [upd_ne ne, upd_ne ne]
  exact ⟨a, b, c⟩
theorem MiOk.newO (M : MiOk m G H fp) (hp : H p = none) : MiOk m G (upd H p o) (p :: fp) := by
  refine ⟨M.g, fun q hq => ?_⟩
  obtain ⟨a, b, c⟩ := M.h q hq
  have ne : q.1 ≠ p := ne_of_none a hp
  rw [upd_ne ne]
  exact ⟨a, b, fun z => (List.mem_cons.mp z).elim ne c⟩
theorem MiOk.mut (M : MiOk m G H fp) (hp : p ∈ fp) : MiOk m G (upd H p o) fp := by
  refine ⟨M.g, fun q hq => ?_⟩
  obtain ⟨a, b, c⟩ := M.h q hq
  have ne : q.1 ≠ p := fun z => c (by rw [z]; exact hp)
  rw [upd_ne ne]
  exact ⟨a, b, c⟩
theorem MiOk.frz (M : MiOk m G H (f ++ fp)) (e : Ex G H) (hn : ∀ a ∈ f, G a = none) : MiOk m (frzG G H f) H fp := by
  refine ⟨M.g.trans (frzG_ex e hn), fun q hq => ?_⟩
  obtain ⟨a, b, c⟩ := M.h q hq
  refine ⟨a, ?_, fun z => c (List.mem_append_right _ z)⟩
  unfold frzG
  rw [if_neg fun z => c (List.mem_append_left _ z)]
  exact b
end
def EnvOk {ow : List Nat} (K : Fg) (B : Base ow) (m : Mi) (l : En) (G : Hp) (σ : L2.St) (H : Hp) : Prop := ∃ fp, Fr B G H fp ∧ Env K G H l σ fp ∧ B.Fix σ ∧ MiOk m G H fp
def EnvR {ow : List Nat} (K : Fg) (B : Base ow) (m : Mi) (s : SD) (v : V) (l : En) (G : Hp) (σ : L2.St) (H : Hp) : Prop := ∃ f fp, Fr B G H (f ++ fp) ∧ s.P K G H v f ∧ Env K G H l σ fp ∧ B.Fix σ ∧ MiOk m G H (f ++ fp)

inductive OwnAll : List Nat → En → Prop
  | nil {l : En} : OwnAll [] l
  | cons {i : Nat} {is : List Nat} {l : En} {ss : List SD} : Get l i (own ss) → OwnAll is l → OwnAll (i :: is) l
theorem OwnAll.mem : ∀ {is : List Nat} {l : En}, OwnAll is l → ∀ i ∈ is, ∃ ss, l[i]? = some (some (own ss)) := by
  intro is l h
  induction h with
  | nil => intro i hi; cases hi
  | cons h1 _ ih =>
    intro i hi
    rcases List.mem_cons.mp hi with e | q
    · rw [e]; exact ⟨_, h1.to⟩
    · exact ih i q
/-- what lies beside the caller's own is new -/
theorem all_new {ow : List Nat} {K : Fg} {B : Base ow} {l : En} {G H : Hp} {σ : L2.St} {f fp : List Addr} (F : Fr B G H (f ++ fp)) (E : Env K G H l σ fp) (X : B.Fix σ) (o : ∀ i ∈ ow, ∃ ss, l[i]? = some (some (own ss))) : ∀ a ∈ f, B.H a = none := fun a ha => by
  rcases (F.un a (List.mem_append_left _ ha)).2.2 with q | q
  · exact q
  · obtain ⟨k, hk⟩ := List.mem_iff_getElem?.mp (X.fl a q)
    have hlt : k < ow.length := by rw [← X.len]; exact (List.getElem?_eq_some_iff.mp hk).1
    have hi : ow[k]? = some ow[k] := List.getElem?_eq_getElem hlt
    have hs := X.at_ k _ _ hi hk
    obtain ⟨ss, e⟩ := o ow[k] (List.getElem_mem hlt)
    obtain ⟨f0, r, p1, g1, _, _⟩ := E.split (i := ow[k]) ((List.getElem?_eq_some_iff.mp e).1)
    obtain ⟨v, e1, p, xs, e2, _, _, e3⟩ := g1 _ e
    rw [hs] at e1
    have ev : V.ref a = v := Option.some.inj (Option.some.inj e1)
    rw [← ev] at e2
    have ea : a = p := by injection e2
    have hm : a ∈ fp := p1.mem_iff.mpr (List.mem_append_left _ (by rw [e3, ea]; exact List.mem_cons_self))
    exact absurd rfl ((List.nodup_append.mp F.nd).2.2 a ha a hm)
end Tyl
end
section
namespace Tyl
open PySem PySem.Spec PyProof.Rows L2
section
variable {X : Cx} {ow : List Nat} {B : Base ow} {m : Mi}
/-! ### a part whose reading is chosen later -/
theorem _root_.L2.PE.imp {e : Expr} {t t' : TE} (h : PE X e t) (w : ∀ σ H Q, t' σ H Q → t σ H Q) : PE X e t' := ⟨fun pins s σ H Q I q => h.run pins s σ H Q I (w _ _ _ q)⟩
theorem _root_.L2.PT.imp {e : Expr} {t t' : TT} (h : PT X e t) (w : ∀ σ H Q, t' σ H Q → t σ H Q) : PT X e t' := ⟨fun pins s σ H Q I q => h.run pins s σ H Q I (w _ _ _ q)⟩
theorem _root_.L2.PW.imp {e : Expr} {t t' : TT} (h : PW X e t) (w : ∀ σ H Q, t' σ H Q → t σ H Q) : PW X e t' := ⟨fun wh pins s σ H Q I q => h.run wh pins s σ H Q I (w _ _ _ q)⟩
theorem _root_.L2.PA.imp {e : List Expr} {t t' : TA} (h : PA X e t) (w : ∀ σ H Q, t' σ H Q → t σ H Q) : PA X e t' := ⟨fun pos pins s σ H Q I q => h.run pos pins s σ H Q I (w _ _ _ q)⟩
theorem _root_.L2.PSs.imp {e : List Stmt} {t t' : TS} (h : PSs X e t) (w : ∀ D σ H, t' D σ H → t D σ H) : PSs X e t' := ⟨fun pins s σ H D I q => h.run pins s σ H D I (w _ _ _ q)⟩
theorem _root_.L2.PS.imp {e : Stmt} {t t' : TS} (h : PS X e t) (w : ∀ D σ H, t' D σ H → t D σ H) : PS X e t' := ⟨fun pins s σ H D I q => h.run pins s σ H D I (w _ _ _ q)⟩
def anyE (X : Cx) (e : Expr) : TE := fun σ H Q => ∃ t, PE X e t ∧ t σ H Q
def anyT (X : Cx) (e : Expr) : TT := fun σ H Q => ∃ t, PT X e t ∧ t σ H Q
def anyW (X : Cx) (e : Expr) : TT := fun σ H Q => ∃ t, PW X e t ∧ t σ H Q
def anyA (X : Cx) (e : List Expr) : TA := fun σ H Q => ∃ t, PA X e t ∧ t σ H Q
def anySs (X : Cx) (e : List Stmt) : TS := fun D σ H => ∃ t, PSs X e t ∧ t D σ H
theorem pe_any {e : Expr} : PE X e (anyE X e) := ⟨fun pins s σ H Q I ⟨_, h, q⟩ => h.run pins s σ H Q I q⟩
theorem pt_any {e : Expr} : PT X e (anyT X e) := ⟨fun pins s σ H Q I ⟨_, h, q⟩ => h.run pins s σ H Q I q⟩
theorem pw_any {e : Expr} : PW X e (anyW X e) := ⟨fun wh pins s σ H Q I ⟨_, h, q⟩ => h.run wh pins s σ H Q I q⟩
theorem pa_any {e : List Expr} : PA X e (anyA X e) := ⟨fun pos pins s σ H Q I ⟨_, h, q⟩ => h.run pos pins s σ H Q I q⟩
theorem pss_any {e : List Stmt} : PSs X e (anySs X e) := ⟨fun pins s σ H D I ⟨_, h, q⟩ => h.run pins s σ H D I q⟩

/-! ### the judgements -/
def tJG (K : Fg) (B : Base ow) (m : Mi) (l : En) (Φ : SD → En → Prop) : TE := fun σ H Q => ∃ G, EnvOk K B m l G σ H ∧ ∀ v G' H' s l', Ex G G' → EnvR K B m s v l' G' σ H' → Φ s l' → Q v H'
def tJE {α : Type} [Rp α] (K : Fg) (B : Base ow) (m : Mi) (l : En) (Φ : α → En → Prop) : TE := fun σ H Q => ∃ G, EnvOk K B m l G σ H ∧ ∀ v G' H' d l', Ex G G' → EnvOk K B m l' G' σ H' → Rp.rp K G' v d → Φ d l' → Q v H'
def tJT (K : Fg) (B : Base ow) (m : Mi) (l : En) (Φ : Bool → En → Prop) : TT := fun σ H Q => ∃ G, EnvOk K B m l G σ H ∧ ∀ G' H' b l', Ex G G' → EnvOk K B m l' G' σ H' → Φ b l' → Q b H'
/-- an argument: data, or a slot's own thing lent -/
inductive Arg where
  | val (s : SD)
  | slot (i : Nat)
def ArgR (K : Fg) (G : Hp) (σ : L2.St) : Arg → V → Prop
  | .val s, v => PR K G v s
  | .slot i, v => σ[i]? = some (some v)
theorem ArgR.mono {K : Fg} {G G' : Hp} {σ : L2.St} (e : Ex G G') : ∀ {a : Arg} {v : V}, ArgR K G σ a v → ArgR K G' σ a v
  | .val s, _, h => PR.mono e h
  | .slot _, _, h => h
def tJA (K : Fg) (B : Base ow) (m : Mi) (l : En) (Φ : List Arg → En → Prop) : TA := fun σ H Q => ∃ G, EnvOk K B m l G σ H ∧ ∀ vs G' H' as l', Ex G G' → EnvOk K B m l' G' σ H' → All2 (ArgR K G' σ) as vs → Φ as l' → Q vs H'
def tJS (K : Fg) (B : Base ow) (m : Mi) (l : En) (D0 : Ends) : TS := fun D σ H => (∃ G, EnvOk K B m l G σ H) ∧ (∀ σ H, D0.nx σ H → D.nx σ H) ∧ (∀ v H, D0.rt v H → D.rt v H) ∧ (∀ σ H, D0.bk σ H → D.bk σ H) ∧ (∀ σ H, D0.ct σ H → D.ct σ H)
/-- e from l: its outcome lies in Φ -/
def JG (X : Cx) (B : Base ow) (m : Mi) (e : Expr) (l : En) (Φ : SD → En → Prop) : Prop := PE X e (tJG X.K B m l Φ)
def JE {α : Type} [Rp α] (X : Cx) (B : Base ow) (m : Mi) (e : Expr) (l : En) (Φ : α → En → Prop) : Prop := PE X e (tJE X.K B m l Φ)
def JT (X : Cx) (B : Base ow) (m : Mi) (e : Expr) (l : En) (Φ : Bool → En → Prop) : Prop := PT X e (tJT X.K B m l Φ)
def JW (X : Cx) (B : Base ow) (m : Mi) (e : Expr) (l : En) (Φ : Bool → En → Prop) : Prop := PW X e (tJT X.K B m l Φ)
def JA (X : Cx) (B : Base ow) (m : Mi) (es : List Expr) (l : En) (Φ : List Arg → En → Prop) : Prop := PA X es (tJA X.K B m l Φ)
def JSs (X : Cx) (B : Base ow) (m : Mi) (ss : List Stmt) (l : En) (D : Ends) : Prop := PSs X ss (tJS X.K B m l D)

section
variable {α β γ : Type} [Rp α] [Rp β] [Rp γ] {e a b c : Expr} {es : List Expr} {l : En} {G H : Hp} {σ : L2.St} {pos : Pos}
theorem JE.any {Φ : α → En → Prop} {Q : VK} (h : JE X B m e l Φ) (E : EnvOk X.K B m l G σ H) (k : ∀ v G' H' d l', Ex G G' → EnvOk X.K B m l' G' σ H' → Rp.rp X.K G' v d → Φ d l' → Q v H') : anyE X e σ H Q := ⟨_, h, G, E, k⟩
theorem JG.any {Φ : SD → En → Prop} {Q : VK} (h : JG X B m e l Φ) (E : EnvOk X.K B m l G σ H) (k : ∀ v G' H' s l', Ex G G' → EnvR X.K B m s v l' G' σ H' → Φ s l' → Q v H') : anyE X e σ H Q := ⟨_, h, G, E, k⟩
theorem JT.any {Φ : Bool → En → Prop} {Q : Bool → Hp → Prop} (h : JT X B m e l Φ) (E : EnvOk X.K B m l G σ H) (k : ∀ G' H' b l', Ex G G' → EnvOk X.K B m l' G' σ H' → Φ b l' → Q b H') : anyT X e σ H Q := ⟨_, h, G, E, k⟩
theorem JW.any {Φ : Bool → En → Prop} {Q : Bool → Hp → Prop} (h : JW X B m e l Φ) (E : EnvOk X.K B m l G σ H) (k : ∀ G' H' b l', Ex G G' → EnvOk X.K B m l' G' σ H' → Φ b l' → Q b H') : anyW X e σ H Q := ⟨_, h, G, E, k⟩
theorem JA.any {Φ : List Arg → En → Prop} {Q : List V → Hp → Prop} (h : JA X B m es l Φ) (E : EnvOk X.K B m l G σ H) (k : ∀ vs G' H' as l', Ex G G' → EnvOk X.K B m l' G' σ H' → All2 (ArgR X.K G' σ) as vs → Φ as l' → Q vs H') : anyA X es σ H Q := ⟨_, h, G, E, k⟩

theorem EnvOk.get {K : Fg} {s : SD} {i : Nat} (E : EnvOk K B m l G σ H) (g : Get l i s) : ∃ v f, σ[i]? = some (some v) ∧ s.P K G H v f := by
  obtain ⟨fp, F, E, X, M⟩ := E
  have e := g.to
  obtain ⟨f, r, p, g1, _, _⟩ := E.split (i := i) (List.getElem?_eq_some_iff.mp e).1
  obtain ⟨v, e1, e2⟩ := g1 _ e
  exact ⟨v, f, e1, e2⟩
/-- the heap has grown by an immutable thing -/
theorem EnvOk.newG {K : Fg} {p : Addr} {o : HO} (E : EnvOk K B m l G σ H) (hp : H p = none) : EnvOk K B m l (upd G p o) σ (upd H p o) := by
  obtain ⟨fp, F, E, X, M⟩ := E
  refine ⟨fp, F.newG hp, E.mono ((Ex.refl G).new (F.ex.none hp)) (fun a ha => ?_), X, M.newG F.ex hp⟩
  exact upd_ne fun e => E.dom a ha (by rw [e]; exact hp)
theorem EnvOk.gnone {K : Fg} (E : EnvOk K B m l G σ H) {p : Addr} (hp : H p = Option.none) : G p = Option.none := by
  obtain ⟨fp, F, _⟩ := E
  exact F.ex.none hp
theorem EnvOk.ex {K : Fg} (E : EnvOk K B m l G σ H) : Ex G H := by
  obtain ⟨fp, F, _⟩ := E
  exact F.ex
theorem Base.Fix.set {σ : L2.St} (F : B.Fix σ) {i : Nat} (hi : i ∉ ow) (o : Option V) : B.Fix (σ.set i o) := by
  refine ⟨F.len, fun k j v h1 h2 => ?_, F.fl⟩
  have ne : i ≠ j := fun q => hi (by rw [q]; exact List.mem_of_getElem? h1)
  rw [List.getElem?_set_ne ne]
  exact F.at_ k j v h1 h2
/-- data into a slot -/
theorem EnvOk.put {K : Fg} {v : V} {d : α} {i : Nat} {l2 : En} (E : EnvOk K B m l G σ H) (r : Rp.rp K G v d) (p : Put l i (some (sd d)) l2) (hi : i ∉ ow) : EnvOk K B m l2 G (σ.set i (some v)) H := by
  obtain ⟨fp, F, E, X, M⟩ := E
  obtain ⟨e1, e2⟩ := p.to
  obtain ⟨f, r0, p1, _, u1, _⟩ := E.split (i := i) e2
  obtain ⟨fp', q1, q2⟩ := u1 G H (sd d) v [] (Ex.refl G) (fun _ _ => rfl) ⟨r, rfl⟩
  rw [e1]
  exact ⟨fp', ((F.perm p1.symm).sub).perm q1, q2, X.set hi _, M.sub fun a ha => p1.mem_iff.mpr (List.mem_append_right _ (q1.mem_iff.mp ha))⟩
/-- a new own thing into a slot -/
theorem EnvR.put {K : Fg} {s : SD} {v : V} {i : Nat} {l2 : En} (E : EnvR K B m s v l G σ H) (p : Put l i (some s) l2) (hi : i ∉ ow) : EnvOk K B m l2 G (σ.set i (some v)) H := by
  obtain ⟨fs, fp, F, hs, E, X, M⟩ := E
  obtain ⟨e1, e2⟩ := p.to
  obtain ⟨f, r0, p1, _, u1, _⟩ := E.split (i := i) e2
  obtain ⟨fp', q1, q2⟩ := u1 G H s v fs (Ex.refl G) (fun _ _ => rfl) hs
  rw [e1]
  have h1 : (fs ++ fp).Perm (f ++ (fs ++ r0)) := perm3 p1
  refine ⟨fp', ?_, q2, X.set hi _, M.sub fun a ha => h1.mem_iff.mpr (List.mem_append_right _ (q1.mem_iff.mp ha))⟩
  exact ((F.perm h1.symm).sub).perm q1
theorem EnvR.ok {K : Fg} {s : SD} {v : V} (E : EnvR K B m s v l G σ H) : EnvOk K B m l G σ H := by
  obtain ⟨fs, fp, F, hs, E, X, M⟩ := E
  exact ⟨fp, F.sub, E, X, M.sub fun a ha => List.mem_append_right _ ha⟩
theorem EnvOk.r {K : Fg} {v : V} {d : α} (E : EnvOk K B m l G σ H) (r : Rp.rp K G v d) : EnvR K B m (sd d) v l G σ H := by
  obtain ⟨fp, F, E, X, M⟩ := E
  exact ⟨[], fp, F, ⟨r, rfl⟩, E, X, M⟩

/-! ### names, constants -/
theorem je_var {Φ : α → En → Prop} {d : α} {i : Nat} {x : Str} (g : Get l i (sd d)) (h : Φ d l) (hN : X.N[i]? = some x := by rfl) (hv : Vis X.env.scope x := by first | exact Or.inl rfl | exact Or.inr (Or.inl rfl) | exact Or.inr (Or.inr rfl)) (hd : (x == ("__debug__" : Str)) = false := by decide)
    (hcd : (x == ("__classdict__" : Str)) = false := by decide) : JE X B m (.Name x pos) l Φ :=
  (pe_var (i := i) hN hv hd hcd).imp fun σ H Q ⟨G, E, k⟩ => by
    obtain ⟨v, f, e1, e2, _⟩ := E.get g
    exact ⟨v, e1, k v G H d l (Ex.refl G) E e2 h⟩
theorem je_int {i j} {Φ : Int → En → Prop} (h : Φ i l) : JE X B m (.Constant (.int i) j pos) l Φ := pe_int.imp fun σ H Q ⟨G, E, k⟩ => k _ G H i l (Ex.refl G) E rfl h
theorem je_bl {b j} {Φ : Bool → En → Prop} (h : Φ b l) : JE X B m (.Constant (.bool b) j pos) l Φ := pe_bl.imp fun σ H Q ⟨G, E, k⟩ => k _ G H b l (Ex.refl G) E rfl h
theorem je_str {x j} {Φ : Str → En → Prop} (h : Φ x l) : JE X B m (.Constant (.str x) j pos) l Φ := pe_str.imp fun σ H Q ⟨G, E, k⟩ => k _ G H x l (Ex.refl G) E rfl h
theorem je_non {j} {Φ : Unit → En → Prop} (h : Φ () l) : JE X B m (.Constant .none j pos) l Φ := pe_non.imp fun σ H Q ⟨G, E, k⟩ => k _ G H () l (Ex.refl G) E rfl h
/-- a module's whole number -/
theorem je_gint {i : Int} {x : Str} {t : Tok} {Φ : Int → En → Prop} (hm : X.mg x = some (.int i t)) (h : Φ i l) (hg : Gl X x := by rfl) (hd : (x == ("__debug__" : Str)) = false := by decide) : JE X B m (.Name x pos) l Φ :=
  (pe_glob (v := .int i) hg hm ⟨t, rfl⟩ hd).imp fun σ H Q ⟨G, E, k⟩ => k _ G H i l (Ex.refl G) E rfl h

/-! ### arithmetic -/
theorem je_iop {op : Operator} {C : Int → Int → Prop} {g : Int → Int → Int} (ho : OpR X (binaryOp op) (rI C fun i j => .int (g i j))) {Φ : Int → En → Prop}
    (h : JE X B m a l fun (x : Int) l1 => JE X B m b l1 fun (y : Int) l2 => C x y ∧ Φ (g x y) l2) : JE X B m (.BinOp a op b pos) l Φ :=
  (pe_op ho h pe_any).imp fun σ H Q ⟨G, E, k⟩ => ⟨G, E, fun v G1 H1 x l1 e1 E1 r1 hb => hb.any E1 fun u G2 H2 y l2 e2 E2 r2 ⟨hc, hφ⟩ =>
    ⟨x, y, r1, r2, hc, k _ G2 H2 _ l2 (e1.trans e2) E2 rfl hφ⟩⟩
theorem je_iop0 {op : Operator} {g : Int → Int → Int} (ho : OpR X (binaryOp op) (rI0 fun i j => .int (g i j))) {Φ : Int → En → Prop}
    (h : JE X B m a l fun (x : Int) l1 => JE X B m b l1 fun (y : Int) l2 => Φ (g x y) l2) : JE X B m (.BinOp a op b pos) l Φ :=
  (pe_op ho h pe_any).imp fun σ H Q ⟨G, E, k⟩ => ⟨G, E, fun v G1 H1 x l1 e1 E1 r1 hb => hb.any E1 fun u G2 H2 y l2 e2 E2 r2 hφ =>
    ⟨x, y, r1, r2, k _ G2 H2 _ l2 (e1.trans e2) E2 rfl hφ⟩⟩
theorem je_add {Φ : Int → En → Prop} (h : JE X B m a l fun (x : Int) l1 => JE X B m b l1 fun (y : Int) l2 => Φ (x + y) l2) : JE X B m (.BinOp a .Add b pos) l Φ := je_iop0 op_add h
theorem je_sub {Φ : Int → En → Prop} (h : JE X B m a l fun (x : Int) l1 => JE X B m b l1 fun (y : Int) l2 => Φ (x - y) l2) : JE X B m (.BinOp a .Sub b pos) l Φ := je_iop0 op_sub h
theorem je_mul {Φ : Int → En → Prop} (h : JE X B m a l fun (x : Int) l1 => JE X B m b l1 fun (y : Int) l2 => CMul x y ∧ Φ (x * y) l2) : JE X B m (.BinOp a .Mult b pos) l Φ := je_iop op_mul h
theorem je_mod {Φ : Int → En → Prop} (h : JE X B m a l fun (x : Int) l1 => JE X B m b l1 fun (y : Int) l2 => 0 < y ∧ Φ (x % y) l2) : JE X B m (.BinOp a .Mod b pos) l Φ := je_iop op_mod h
theorem je_fdiv {Φ : Int → En → Prop} (h : JE X B m a l fun (x : Int) l1 => JE X B m b l1 fun (y : Int) l2 => CDiv x y ∧ Φ (x / y) l2) : JE X B m (.BinOp a .FloorDiv b pos) l Φ := je_iop op_fdiv h
theorem je_pow {Φ : Int → En → Prop} (h : JE X B m a l fun (x : Int) l1 => JE X B m b l1 fun (y : Int) l2 => CPow x y ∧ Φ (x ^ y.toNat) l2) : JE X B m (.BinOp a .Pow b pos) l Φ := je_iop op_pow h
theorem je_shl {Φ : Int → En → Prop} (h : JE X B m a l fun (x : Int) l1 => JE X B m b l1 fun (y : Int) l2 => CPow x y ∧ Φ (x * 2 ^ y.toNat) l2) : JE X B m (.BinOp a .LShift b pos) l Φ := je_iop op_shl h
theorem je_shr {Φ : Int → En → Prop} (h : JE X B m a l fun (x : Int) l1 => JE X B m b l1 fun (y : Int) l2 => 0 ≤ y ∧ Φ (x / 2 ^ y.toNat) l2) : JE X B m (.BinOp a .RShift b pos) l Φ := je_iop op_shr h
theorem je_band {Φ : Int → En → Prop} (h : JE X B m a l fun (x : Int) l1 => JE X B m b l1 fun (y : Int) l2 => Φ (Builtin.bitAnd x y) l2) : JE X B m (.BinOp a .BitAnd b pos) l Φ := je_iop0 op_and h
theorem je_bor {Φ : Int → En → Prop} (h : JE X B m a l fun (x : Int) l1 => JE X B m b l1 fun (y : Int) l2 => Φ (Builtin.bitOr x y) l2) : JE X B m (.BinOp a .BitOr b pos) l Φ := je_iop0 op_or h
theorem je_un {op : UnaryOp} {g : Int → Int} (ho : UnR X (unaryOp op) (rU fun i => .int (g i))) {Φ : Int → En → Prop} (h : JE X B m a l fun (x : Int) l1 => Φ (g x) l1) : JE X B m (.UnaryOp op a pos) l Φ :=
  (pe_un ho h).imp fun σ H Q ⟨G, E, k⟩ => ⟨G, E, fun v G1 H1 x l1 e1 E1 r1 hφ => ⟨x, r1, k _ G1 H1 _ l1 e1 E1 rfl hφ⟩⟩
theorem je_neg {Φ : Int → En → Prop} (h : JE X B m a l fun (x : Int) l1 => Φ (-x) l1) : JE X B m (.UnaryOp .USub a pos) l Φ := je_un un_neg h
theorem je_inv {Φ : Int → En → Prop} (h : JE X B m a l fun (x : Int) l1 => Φ (Builtin.bitNot x) l1) : JE X B m (.UnaryOp .Invert a pos) l Φ := je_un un_inv h

/-! ### comparisons -/
theorem je_icmp {op : CmpOp} {g : Int → Int → Bool} (ho : OpR X (compareOp op) (rI0 fun i j => .bl (g i j))) (h1 : op ≠ .In) (h2 : op ≠ .NotIn) {Φ : Bool → En → Prop}
    (h : JE X B m a l fun (x : Int) l1 => JE X B m b l1 fun (y : Int) l2 => Φ (g x y) l2) : JE X B m (.Compare a [op] [b] pos) l Φ :=
  (pe_cmpR ho h pe_any (nomark b h1 h2)).imp fun σ H Q ⟨G, E, k⟩ => ⟨G, E, fun v G1 H1 x l1 e1 E1 r1 hb => hb.any E1 fun u G2 H2 y l2 e2 E2 r2 hφ =>
    ⟨x, y, r1, r2, k _ G2 H2 _ l2 (e1.trans e2) E2 rfl hφ⟩⟩
theorem je_lt {Φ : Bool → En → Prop} (h : JE X B m a l fun (x : Int) l1 => JE X B m b l1 fun (y : Int) l2 => Φ (decide (x < y)) l2) : JE X B m (.Compare a [.Lt] [b] pos) l Φ := je_icmp op_lt (by decide) (by decide) h
theorem je_le {Φ : Bool → En → Prop} (h : JE X B m a l fun (x : Int) l1 => JE X B m b l1 fun (y : Int) l2 => Φ (decide (x ≤ y)) l2) : JE X B m (.Compare a [.LtE] [b] pos) l Φ := je_icmp op_le (by decide) (by decide) h
theorem je_gt {Φ : Bool → En → Prop} (h : JE X B m a l fun (x : Int) l1 => JE X B m b l1 fun (y : Int) l2 => Φ (decide (y < x)) l2) : JE X B m (.Compare a [.Gt] [b] pos) l Φ := je_icmp op_gt (by decide) (by decide) h
theorem je_ge {Φ : Bool → En → Prop} (h : JE X B m a l fun (x : Int) l1 => JE X B m b l1 fun (y : Int) l2 => Φ (decide (y ≤ x)) l2) : JE X B m (.Compare a [.GtE] [b] pos) l Φ := je_icmp op_ge (by decide) (by decide) h
/-- == and != of flat data: each as a value of V -/
class Flat (α : Type) [Rp α] where
  v : α → V
  is : ∀ {K : Fg} {G : Hp} {x : V} {d : α}, Rp.rp K G x d → x = v d
  sc : ∀ a b, scal (v a) (v b) = true
  inj : ∀ a b, v a = v b → a = b
instance : Flat Int := ⟨V.int, fun h => h, fun _ _ => rfl, fun _ _ h => V.int.inj h⟩
instance : Flat Bool := ⟨V.bl, fun h => h, fun _ _ => rfl, fun _ _ h => V.bl.inj h⟩
instance : Flat Str := ⟨V.str, fun h => h, fun _ _ => rfl, fun _ _ h => V.str.inj h⟩
theorem flat_dec {α : Type} [Rp α] [F : Flat α] [DecidableEq α] (x y : α) : decide (F.v x = F.v y) = decide (x = y) := by
  by_cases h : x = y
  · subst h; rw [decide_eq_true rfl, decide_eq_true rfl]
  · rw [decide_eq_false h, decide_eq_false fun q => h (F.inj _ _ q)]
theorem je_eq [F : Flat α] [DecidableEq α] {Φ : Bool → En → Prop} (h : JE X B m a l fun (x : α) l1 => JE X B m b l1 fun (y : α) l2 => Φ (decide (x = y)) l2) : JE X B m (.Compare a [.Eq] [b] pos) l Φ :=
  (pe_cmpR op_eq h pe_any (nomark b)).imp fun σ H Q ⟨G, E, k⟩ => ⟨G, E, fun v G1 H1 x l1 e1 E1 r1 hb => hb.any E1 fun u G2 H2 y l2 e2 E2 r2 hφ => by
    rw [F.is r1, F.is r2]
    exact ⟨F.sc _ _, k _ G2 H2 _ l2 (e1.trans e2) E2 (by rw [flat_dec]; rfl) hφ⟩⟩
theorem je_ne [F : Flat α] [DecidableEq α] {Φ : Bool → En → Prop} (h : JE X B m a l fun (x : α) l1 => JE X B m b l1 fun (y : α) l2 => Φ (!decide (x = y)) l2) : JE X B m (.Compare a [.NotEq] [b] pos) l Φ :=
  (pe_cmpR op_ne h pe_any (nomark b)).imp fun σ H Q ⟨G, E, k⟩ => ⟨G, E, fun v G1 H1 x l1 e1 E1 r1 hb => hb.any E1 fun u G2 H2 y l2 e2 E2 r2 hφ => by
    rw [F.is r1, F.is r2]
    exact ⟨F.sc _ _, k _ G2 H2 _ l2 (e1.trans e2) E2 (by rw [flat_dec]; rfl) hφ⟩⟩
/-- a < b < c .. of whole numbers, as a test -/
theorem jt_chain {op op' : CmpOp} {g g' : Int → Int → Bool} (ho : OpR X (compareOp op) (rI0 fun i j => .bl (g i j))) (ho' : OpR X (compareOp op') (rI0 fun i j => .bl (g' i j))) {Φ : Bool → En → Prop}
    (h : JE X B m a l fun (x : Int) l1 => JE X B m b l1 fun (y : Int) l2 => (g x y = false → Φ false l2) ∧ (g x y = true → JE X B m c l2 fun (z : Int) l3 => Φ (g' y z) l3))
    (hp : ∀ {ta tb tc}, PE X a ta → PE X b tb → PE X c tc → PT X (.Compare a [op, op'] [b, c] pos) (tTest (tChain (rI0 fun i j => .bl (g i j)) (rI0 fun i j => .bl (g' i j)) ta tb tc))) : JT X B m (.Compare a [op, op'] [b, c] pos) l Φ :=
  (hp h pe_any pe_any).imp fun σ H Q ⟨G, E, k⟩ => ⟨G, E, fun v G1 H1 x l1 e1 E1 r1 hb => hb.any E1 fun u G2 H2 y l2 e2 E2 r2 ⟨hF, hT⟩ => by
    refine ⟨x, y, r1, r2, g x y, rfl, ?_⟩
    cases q : g x y with
    | true =>
      rw [if_pos rfl]
      refine (hT q).any E2 fun w G3 H3 z l3 e3 E3 r3 hφ => ?_
      exact ⟨y, z, r2, r3, _, rfl, k G3 H3 _ l3 ((e1.trans e2).trans e3) E3 hφ⟩
    | false =>
      rw [if_neg Bool.false_ne_true]
      exact ⟨_, rfl, k G2 H2 _ l2 (e1.trans e2) E2 (hF q)⟩⟩
/-- an expression that is a truth value, as a test -/
theorem jt_val {Φ : Bool → En → Prop} (h : JE X B m e l Φ) (he : ∀ whole, isTrue e X.env whole = (do let v ← whole; standAt e.pos; holding [v] (truthy v)) := by intro _; rfl) : JT X B m e l Φ :=
  (pt_val h he).imp fun σ H Q ⟨G, E, k⟩ => ⟨G, E, fun v G1 H1 x l1 e1 E1 r1 hφ => ⟨x, r1, k G1 H1 x l1 e1 E1 hφ⟩⟩
/-- one comparison, as a test -/
theorem jt_cmp {op : CmpOp} {r : R2} {Φ : Bool → En → Prop} (ho : OpR X (compareOp op) r) (h : JE X B m (.Compare a [op] [b] pos) l Φ)
    (he : ∀ whole, isTrue (.Compare a [op] [b] pos) X.env whole = (do let v ← whole; standAt (Expr.Compare a [op] [b] pos).pos; holding [v] (truthy v)) := by intro _; rfl) : JT X B m (.Compare a [op] [b] pos) l Φ := jt_val h he
theorem jt_not {Φ : Bool → En → Prop} (h : JT X B m a l fun b l1 => Φ (!b) l1) : JT X B m (.UnaryOp .Not a pos) l Φ :=
  (pt_not h).imp fun σ H Q ⟨G, E, k⟩ => ⟨G, E, fun G1 H1 b l1 e1 E1 hφ => k G1 H1 _ l1 e1 E1 hφ⟩
theorem jt_w {Φ : Bool → En → Prop} (h : JW X B m e l Φ) : JT X B m e l Φ := PW.pt h
theorem jw_and1 {Φ : Bool → En → Prop} (h : JT X B m a l Φ) : JW X B m (.BoolOp .And [a] pos) l Φ := pw_and1 h
theorem jw_or1 {Φ : Bool → En → Prop} (h : JT X B m a l Φ) : JW X B m (.BoolOp .Or [a] pos) l Φ := pw_or1 h
theorem jw_and {rest : List Expr} {Φ : Bool → En → Prop} (h : JT X B m a l fun x l1 => (x = false → Φ false l1) ∧ (x = true → JW X B m (.BoolOp .And (b :: rest) pos) l1 Φ)) : JW X B m (.BoolOp .And (a :: b :: rest) pos) l Φ :=
  (pw_and h pw_any).imp fun σ H Q ⟨G, E, k⟩ => ⟨G, E, fun G1 H1 x l1 e1 E1 ⟨hF, hT⟩ => by
    cases x with
    | true => rw [if_pos rfl]; exact (hT rfl).any E1 fun G2 H2 y l2 e2 E2 hφ => k G2 H2 y l2 (e1.trans e2) E2 hφ
    | false => rw [if_neg Bool.false_ne_true]; exact k G1 H1 _ l1 e1 E1 (hF rfl)⟩
theorem jw_or {rest : List Expr} {Φ : Bool → En → Prop} (h : JT X B m a l fun x l1 => (x = true → Φ true l1) ∧ (x = false → JW X B m (.BoolOp .Or (b :: rest) pos) l1 Φ)) : JW X B m (.BoolOp .Or (a :: b :: rest) pos) l Φ :=
  (pw_or h pw_any).imp fun σ H Q ⟨G, E, k⟩ => ⟨G, E, fun G1 H1 x l1 e1 E1 ⟨hT, hF⟩ => by
    cases x with
    | true => rw [if_pos rfl]; exact k G1 H1 _ l1 e1 E1 (hT rfl)
    | false => rw [if_neg Bool.false_ne_true]; exact (hF rfl).any E1 fun G2 H2 y l2 e2 E2 hφ => k G2 H2 y l2 (e1.trans e2) E2 hφ⟩
/-- and, or, not as values (truth values) -/
theorem je_one {op} {Φ : Bool → En → Prop} (h : JE X B m a l Φ) : JE X B m (.BoolOp op [a] pos) l Φ := pe_one h
theorem je_and {rest : List Expr} {Φ : Bool → En → Prop} (h : JE X B m a l fun (x : Bool) l1 => (x = false → Φ false l1) ∧ (x = true → JE X B m (.BoolOp .And (b :: rest) pos) l1 Φ)) : JE X B m (.BoolOp .And (a :: b :: rest) pos) l Φ :=
  (pe_and h pe_any).imp fun σ H Q ⟨G, E, k⟩ => ⟨G, E, fun v G1 H1 x l1 e1 E1 r1 ⟨hF, hT⟩ => ⟨x, r1, by
    cases x with
    | true => rw [if_pos rfl]; exact (hT rfl).any E1 fun v G2 H2 y l2 e2 E2 r2 hφ => k v G2 H2 y l2 (e1.trans e2) E2 r2 hφ
    | false => rw [if_neg Bool.false_ne_true]; exact k _ G1 H1 _ l1 e1 E1 rfl (hF rfl)⟩⟩
theorem je_or {rest : List Expr} {Φ : Bool → En → Prop} (h : JE X B m a l fun (x : Bool) l1 => (x = true → Φ true l1) ∧ (x = false → JE X B m (.BoolOp .Or (b :: rest) pos) l1 Φ)) : JE X B m (.BoolOp .Or (a :: b :: rest) pos) l Φ :=
  (pe_or h pe_any).imp fun σ H Q ⟨G, E, k⟩ => ⟨G, E, fun v G1 H1 x l1 e1 E1 r1 ⟨hT, hF⟩ => ⟨x, r1, by
    cases x with
    | true => rw [if_pos rfl]; exact k _ G1 H1 _ l1 e1 E1 rfl (hT rfl)
    | false => rw [if_neg Bool.false_ne_true]; exact (hF rfl).any E1 fun v G2 H2 y l2 e2 E2 r2 hφ => k v G2 H2 y l2 (e1.trans e2) E2 r2 hφ⟩⟩
theorem je_not {Φ : Bool → En → Prop} (h : JE X B m a l fun (x : Bool) l1 => Φ (!x) l1) : JE X B m (.UnaryOp .Not a pos) l Φ :=
  (pe_not h).imp fun σ H Q ⟨G, E, k⟩ => ⟨G, E, fun v G1 H1 x l1 e1 E1 r1 hφ => ⟨x, r1, k _ G1 H1 _ l1 e1 E1 rfl hφ⟩⟩
theorem je_if {t : Expr} {Φ : α → En → Prop} (h : JT X B m t l fun x l1 => (x = true → JE X B m a l1 Φ) ∧ (x = false → JE X B m b l1 Φ)) : JE X B m (.IfExp t a b pos) l Φ :=
  (pe_ifExp h pe_any pe_any).imp fun σ H Q ⟨G, E, k⟩ => ⟨G, E, fun G1 H1 x l1 e1 E1 ⟨hT, hF⟩ => by
    cases x with
    | true => rw [if_pos rfl]; exact (hT rfl).any E1 fun v G2 H2 y l2 e2 E2 r2 hφ => k v G2 H2 y l2 (e1.trans e2) E2 r2 hφ
    | false => rw [if_neg Bool.false_ne_true]; exact (hF rfl).any E1 fun v G2 H2 y l2 e2 E2 r2 hφ => k v G2 H2 y l2 (e1.trans e2) E2 r2 hφ⟩

/-! ### arguments, displays -/
theorem ja_nil {Φ : List Arg → En → Prop} (h : Φ [] l) : JA X B m [] l Φ := pa_nil.imp fun σ H Q ⟨G, E, k⟩ => k [] G H [] l (Ex.refl G) E trivial h
theorem ja_cons {Φ : List Arg → En → Prop} (h : JE X B m e l fun (d : α) l1 => JA X B m es l1 fun as l2 => Φ (.val (sd d) :: as) l2) (hs : starEach (e :: es) X.env = (false, eval e X.env) :: starEach es X.env := by rfl) : JA X B m (e :: es) l Φ :=
  (pa_cons h pa_any hs).imp fun σ H Q ⟨G, E, k⟩ => ⟨G, E, fun v G1 H1 d l1 e1 E1 r1 hb => hb.any E1 fun vs G2 H2 as l2 e2 E2 r2 hφ =>
    k _ G2 H2 (.val (sd d) :: as) l2 (e1.trans e2) E2 ⟨pr_sd (Rp.mono e2 r1), r2⟩ hφ⟩
theorem ja_slot {Φ : List Arg → En → Prop} {i : Nat} {x : Str} {s : SD} (g : Get l i s) (h : JA X B m es l fun as l2 => Φ (.slot i :: as) l2) (hN : X.N[i]? = some x := by rfl) (hv : Vis X.env.scope x := by first | exact Or.inl rfl | exact Or.inr (Or.inl rfl) | exact Or.inr (Or.inr rfl))
    (hd : (x == ("__debug__" : Str)) = false := by decide) (hcd : (x == ("__classdict__" : Str)) = false := by decide) (hs : starEach (.Name x pos :: es) X.env = (false, eval (.Name x pos) X.env) :: starEach es X.env := by rfl) : JA X B m (.Name x pos :: es) l Φ :=
  (pa_cons (pe_var (i := i) hN hv hd hcd) pa_any hs).imp fun σ H Q ⟨G, E, k⟩ => by
    obtain ⟨v, f, e1, _⟩ := E.get g
    exact ⟨v, e1, h.any E fun vs G2 H2 as l2 e2 E2 r2 hφ => k _ G2 H2 (.slot i :: as) l2 e2 E2 ⟨e1, r2⟩ hφ⟩
/-- data of arguments -/
def vals : List SD → List Arg := List.map .val
theorem je_pair {a b : Expr} {x1} {Φ : (α × β) → En → Prop} (h : JE X B m a l fun (x : α) l1 => JE X B m b l1 fun (y : β) l2 => Φ (x, y) l2)
    (hs : starEach [a, b] X.env = (false, eval a X.env) :: starEach [b] X.env := by rfl) (hs2 : starEach [b] X.env = (false, eval b X.env) :: starEach [] X.env := by rfl) : JE X B m (.Tuple [a, b] x1 pos) l Φ :=
  (pe_tup (pa_cons h (pa_cons pe_any pa_nil hs2) hs)).imp fun σ H Q ⟨G, E, k⟩ => ⟨G, E, fun v G1 H1 x l1 e1 E1 r1 hb => hb.any E1 fun u G2 H2 y l2 e2 E2 r2 hφ =>
    ⟨by show 2 ≤ sizeLine; decide, fun p hp => by
      have g2 := (Ex.refl G2).new (o := .tup [v, u]) (E2.gnone hp)
      exact k _ (upd G2 p (.tup [v, u])) _ (x, y) l2 ((e1.trans e2).trans g2) (E2.newG hp) ⟨p, v, u, rfl, upd_same, Rp.mono (e2.trans g2) r1, Rp.mono g2 r2⟩ hφ⟩⟩
theorem je_tup3 {a b c : Expr} {x1} {Φ : T3 α β γ → En → Prop} (h : JE X B m a l fun (x : α) l1 => JE X B m b l1 fun (y : β) l2 => JE X B m c l2 fun (z : γ) l3 => Φ ⟨x, y, z⟩ l3)
    (hs : starEach [a, b, c] X.env = (false, eval a X.env) :: starEach [b, c] X.env := by rfl) (hs2 : starEach [b, c] X.env = (false, eval b X.env) :: starEach [c] X.env := by rfl) (hs3 : starEach [c] X.env = (false, eval c X.env) :: starEach [] X.env := by rfl) : JE X B m (.Tuple [a, b, c] x1 pos) l Φ :=
  (pe_tup (pa_cons h (pa_cons pe_any (pa_cons pe_any pa_nil hs3) hs2) hs)).imp fun σ H Q ⟨G, E, k⟩ => ⟨G, E, fun v G1 H1 x l1 e1 E1 r1 hb => hb.any E1 fun u G2 H2 y l2 e2 E2 r2 hc => hc.any E2 fun w G3 H3 z l3 e3 E3 r3 hφ =>
    ⟨by show 3 ≤ sizeLine; decide, fun p hp => by
      have g3 := (Ex.refl G3).new (o := .tup [v, u, w]) (E3.gnone hp)
      exact k _ (upd G3 p (.tup [v, u, w])) _ ⟨x, y, z⟩ l3 (((e1.trans e2).trans e3).trans g3) (E3.newG hp) ⟨p, v, u, w, rfl, upd_same, Rp.mono ((e2.trans e3).trans g3) r1, Rp.mono (e3.trans g3) r2, Rp.mono g3 r3⟩ hφ⟩⟩
end
end
end Tyl
end
section
namespace Tyl
open PySem PySem.Spec PyProof.Rows L2
section
variable {X : Cx} {ow : List Nat} {B : Base ow} {m : Mi}
/-! ### forgetting slots -/
inductive Wk : En → En → Prop
  | nil : Wk [] []
  | keep {x : Option SD} {l l' : En} : Wk l l' → Wk (x :: l) (x :: l')
  | drop {x : Option SD} {l l' : En} : Wk l l' → Wk (x :: l) (none :: l')
theorem Wk.refl : ∀ l : En, Wk l l
  | [] => .nil
  | _ :: l => .keep (Wk.refl l)
theorem Env.wk {K : Fg} {G H : Hp} {l l' : En} (w : Wk l l') : ∀ {σ : L2.St} {fp : List Addr}, Env K G H l σ fp → ∃ r fp', fp.Perm (r ++ fp') ∧ Env K G H l' σ fp' := by
  induction w with
  | nil => intro σ fp h; exact ⟨[], fp, .refl _, h⟩
  | @keep x l l' w ih =>
    intro σ fp h
    cases h with
    | junk h =>
      obtain ⟨r, fp', p, h'⟩ := ih h
      exact ⟨r, fp', p, .junk h'⟩
    | @cons s v f _ σ fs h1 h =>
      obtain ⟨r, fp', p, h'⟩ := ih h
      exact ⟨r, f ++ fp', perm3 p, .cons h1 h'⟩
  | @drop x l l' w ih =>
    intro σ fp h
    cases h with
    | junk h =>
      obtain ⟨r, fp', p, h'⟩ := ih h
      exact ⟨r, fp', p, .junk h'⟩
    | @cons s v f _ σ fs h1 h =>
      obtain ⟨r, fp', p, h'⟩ := ih h
      refine ⟨f ++ r, fp', ?_, .junk h'⟩
      rw [List.append_assoc]
      exact List.Perm.append_left f p
section
variable {K : Fg} {l l' : En} {G H : Hp} {σ : L2.St}
theorem EnvOk.wk (E : EnvOk K B m l G σ H) (w : Wk l l') : EnvOk K B m l' G σ H := by
  obtain ⟨fp, F, E, X, M⟩ := E
  obtain ⟨r, fp', p, h⟩ := E.wk w
  exact ⟨fp', (F.perm p.symm).sub, h, X, M.sub fun a ha => p.mem_iff.mpr (List.mem_append_right _ ha)⟩
/-- an own list: where it stands; it may change -/
theorem EnvOk.mut {i : Nat} {ss : List SD} (E : EnvOk K B m l G σ H) (g : Get l i (own ss)) : ∃ p xs, σ[i]? = some (some (.ref p)) ∧ H p = some (.lst xs) ∧ G p = none ∧ All2 (PR K G) xs ss ∧
    ∀ xs' ss' l2, All2 (PR K G) xs' ss' → Put l i (some (own ss')) l2 → EnvOk K B m l2 G σ (upd H p (.lst xs')) := by
  obtain ⟨fp, F, E, X, M⟩ := E
  have e := g.to
  obtain ⟨f, r, p1, g1, u1, _⟩ := E.split (i := i) (List.getElem?_eq_some_iff.mp e).1
  obtain ⟨v, e1, p, xs, e2, e3, e4, e5⟩ := g1 _ e
  subst e2 e5
  have F1 := F.perm p1.symm
  refine ⟨p, xs, e1, e3, (F1.un p List.mem_cons_self).1, e4, fun xs' ss' l2 h' pt => ?_⟩
  obtain ⟨q1, q2⟩ := pt.to
  have nr : ∀ a ∈ r, a ≠ p := fun a ha z => (List.nodup_cons.mp F1.nd).1 (z ▸ ha)
  obtain ⟨fp', w1, w2⟩ := u1 G (upd H p (.lst xs')) (own ss') (.ref p) [p] (Ex.refl G) (fun a ha => upd_ne (nr a ha)) ⟨p, xs', rfl, upd_same, h', rfl⟩
  have sg : σ.set i (some (.ref p)) = σ := by
    obtain ⟨hlt, hv⟩ := List.getElem?_eq_some_iff.mp e1
    rw [← hv]
    exact List.set_getElem_self hlt
  rw [sg] at w2
  rw [q1]
  exact ⟨fp', (F1.mut List.mem_cons_self).perm w1, w2, X, (M.mut (p1.mem_iff.mpr List.mem_cons_self)).sub fun a ha => p1.mem_iff.mpr (w1.mem_iff.mp ha)⟩
/-- an own thing becomes data -/
def Fz {α : Type} [Rp α] (s : SD) (d : α) : Prop := ∀ (K : Fg) (G H : Hp) (v : V) (f : List Addr), (∀ a ∈ f, G a = none) → Ex G H → s.P K G H v f → Rp.rp K (frzG G H f) v d
theorem fz_own {α : Type} [Rp α] {l : List α} : Fz (own (sds l)) l := fun K G H v f hn e ⟨p, xs, h1, h2, h3, h4⟩ => by
  subst h1 h4
  exact ⟨p, xs, rfl, by rw [frzG_in List.mem_cons_self]; exact h2, (rows_sds h3).imp fun _ _ h => Rp.mono (frzG_ex e hn) h⟩
theorem fz_sd {α : Type} [Rp α] {d : α} : Fz (sd d) d := fun K G H v f hn e ⟨h1, h2⟩ => Rp.mono (frzG_ex e hn) h1
theorem EnvR.frz {α : Type} [Rp α] {s : SD} {v : V} {d : α} (E : EnvR K B m s v l G σ H) (o : OwnAll ow l) (z : Fz s d) : ∃ G', Ex G G' ∧ EnvOk K B m l G' σ H ∧ Rp.rp K G' v d := by
  obtain ⟨f, fp, F, hs, E, X, M⟩ := E
  have nw := all_new F E X o.mem
  have hn : ∀ a ∈ f, G a = none := fun a ha => (F.un a (List.mem_append_left _ ha)).1
  have ex := frzG_ex (H := H) F.ex hn
  exact ⟨frzG G H f, ex, ⟨fp, F.frz nw, E.mono ex fun _ _ => rfl, X, M.frz F.ex hn⟩, z K G H v f hn F.ex hs⟩
theorem Get.set_ne {i j : Nat} {s : SD} {x : Option SD} (h : l[j]? = some (some s)) (ne : i ≠ j) : (l.set i x)[j]? = some (some s) := by
  rw [List.getElem?_set_ne ne]; exact h
/-- an own slot becomes data -/
theorem EnvOk.frz {α : Type} [Rp α] {s : SD} {d : α} {i : Nat} {l2 : En} (E : EnvOk K B m l G σ H) (g : Get l i s) (z : Fz s d) (p : Put l i (some (sd d)) l2) (hi : i ∉ ow) (o : OwnAll ow l) : ∃ G', Ex G G' ∧ EnvOk K B m l2 G' σ H := by
  obtain ⟨fp, F, E, X, M⟩ := E
  have e := g.to
  obtain ⟨f, r, p1, g1, u1, u2⟩ := E.split (i := i) (List.getElem?_eq_some_iff.mp e).1
  obtain ⟨v, e1, hs⟩ := g1 _ e
  have F1 := F.perm p1.symm
  have hn : ∀ a ∈ f, G a = none := fun a ha => (F1.un a (List.mem_append_left _ ha)).1
  have ex := frzG_ex (H := H) F.ex hn
  have sg : ∀ x, σ[i]? = some x → σ.set i x = σ := fun x h => by
    obtain ⟨hlt, hv⟩ := List.getElem?_eq_some_iff.mp h
    rw [← hv]
    exact List.set_getElem_self hlt
  obtain ⟨fq, w3, w4⟩ := u2 G H (some v) (Ex.refl G) (fun _ _ => rfl)
  rw [sg _ e1] at w4
  have o' : ∀ j ∈ ow, ∃ ss, (l.set i none)[j]? = some (some (own ss)) := fun j hj => by
    obtain ⟨ss, h⟩ := o.mem j hj
    exact ⟨ss, Get.set_ne (x := none) h fun q => hi (by rw [q]; exact hj)⟩
  have F2 : Fr B G H (f ++ fq) := F1.perm (List.Perm.append_left f w3)
  have nw := all_new F2 w4 X o'
  obtain ⟨fp', w1, w2⟩ := u1 (frzG G H f) H (sd d) v [] ex (fun _ _ => rfl) ⟨z K G H v f hn F.ex hs, rfl⟩
  obtain ⟨q1, q2⟩ := p.to
  rw [sg _ e1] at w2
  rw [q1]
  exact ⟨frzG G H f, ex, fp', ((F1.frz nw).perm w1), w2, X, (MiOk.frz (f := f) (fp := r) (M.sub fun a ha => p1.mem_iff.mpr ha) F.ex hn).sub fun a ha => w1.mem_iff.mp ha⟩
end
end
end Tyl
end
section
namespace Tyl
open PySem PySem.Spec PyProof.Rows L2
section
variable {X : Cx} {ow : List Nat} {B : Base ow} {m : Mi}
/-! ### new lists -/
/-- a new list of ss at p, laid aside -/
structure NewL (K : Fg) (B : Base ow) (m : Mi) (l : En) (G : Hp) (σ : L2.St) (H : Hp) (p : Addr) (xs : List V) (ss : List SD) : Prop where
  env : EnvOk K B ⟨m.g, (p, .lst xs) :: m.h⟩ l G σ H
  all : All2 (PR K G) xs ss
  new : B.H p = none
  out : ∀ q ∈ m.h, q.1 ≠ p
theorem EnvOk.hid {K : Fg} {l : En} {G H : Hp} {σ : L2.St} {p : Addr} {o : HO} (E : EnvOk K B m l G σ H) (hp : H p = none) : EnvOk K B ⟨m.g, (p, o) :: m.h⟩ l G σ (upd H p o) ∧ B.H p = none ∧ ∀ q ∈ m.h, q.1 ≠ p := by
  obtain ⟨fp, F, E, Z, M⟩ := E
  have nf : ∀ a ∈ fp, a ≠ p := fun a ha e => E.dom a ha (by rw [e]; exact hp)
  refine ⟨⟨fp, Fr.sub (f := [p]) (F.newO hp), E.mono (Ex.refl _) fun a ha => upd_ne (nf a ha), Z, M.g, fun q hq => ?_⟩, F.bnone hp, fun q hq => ne_of_none (M.h q hq).1 hp⟩
  rcases List.mem_cons.mp hq with e | hq
  · subst e
    exact ⟨upd_same, F.ex.none hp, fun z => nf _ z rfl⟩
  · obtain ⟨a, b, c⟩ := M.h q hq
    exact ⟨by rw [upd_ne (ne_of_none a hp)]; exact a, b, c⟩
theorem EnvOk.newL {K : Fg} {l : En} {G H : Hp} {σ : L2.St} {p : Addr} {xs : List V} {ss : List SD} (E : EnvOk K B m l G σ H) (hp : H p = none) (h : All2 (PR K G) xs ss) : NewL K B m l G σ (upd H p (.lst xs)) p xs ss :=
  let ⟨a, b, c⟩ := E.hid hp
  ⟨a, h, b, c⟩
def tJN (K : Fg) (B : Base ow) (m : Mi) (l : En) (Φ : List SD → En → Prop) : TE := fun σ H Q => ∃ G, EnvOk K B m l G σ H ∧ ∀ xs ss G' H' l' p, Ex G G' → NewL K B m l' G' σ H' p xs ss → Φ ss l' → Q (.ref p) H'
/-- e makes a new list -/
def JN (X : Cx) (B : Base ow) (m : Mi) (e : Expr) (l : En) (Φ : List SD → En → Prop) : Prop := PE X e (tJN X.K B m l Φ)
section
variable {α β γ : Type} [Rp α] [Rp β] [Rp γ] {e a b c : Expr} {es : List Expr} {l : En} {G H : Hp} {σ : L2.St} {pos p1 p2 : Pos}
theorem jnI {e : Expr} {l : En} {Φ : List SD → En → Prop} {t : TE} (h : PE X e t) (w : ∀ σ H Q, (∃ G, EnvOk X.K B m l G σ H ∧ ∀ xs ss G' H' l', Ex G G' → EnvOk X.K B m l' G' σ H' → All2 (PR X.K G') xs ss → Φ ss l' → ∀ p, H' p = none → Q (.ref p) (upd H' p (.lst xs))) → t σ H Q) : JN X B m e l Φ :=
  h.imp fun σ H Q ⟨G, E, k⟩ => w σ H Q ⟨G, E, fun xs ss G' H' l' e1 E1 r1 hφ p hp => k xs ss G' _ l' p e1 (E1.newL hp r1) hφ⟩
theorem NewL.data {K : Fg} {p : Addr} {xs : List V} {L : List α} (h : NewL K B m l G σ H p xs (sds L)) : ∃ G', Ex G G' ∧ EnvOk K B m l G' σ H ∧ Rp.rp K G' (.ref p) L := by
  obtain ⟨⟨fp, F, E, Z, M⟩, r, nw, out⟩ := h
  obtain ⟨h1, h2, h3⟩ := M.h _ List.mem_cons_self
  have g := (Ex.refl G).new (o := HO.lst xs) h2
  refine ⟨upd G p (.lst xs), g, ⟨fp, ⟨fun a o ha => ?_, F.g0.trans g, fun a ha hb => ?_, F.keep, F.dom, F.nd, fun a ha => ?_⟩, E.mono g fun _ _ => rfl, Z, M.g.trans g, fun q hq => ?_⟩, ⟨p, xs, rfl, upd_same, (rows_sds r).imp fun _ _ h => Rp.mono g h⟩⟩
  · by_cases e : a = p
    · subst e
      rw [upd_same] at ha
      cases ha
      exact h1
    · rw [upd_ne e] at ha
      exact F.ex a o ha
  · have ne : a ≠ p := fun e => ha (by rw [e]; exact nw)
    rw [upd_ne ne]
    exact F.gn a ha hb
  · obtain ⟨u1, u2, u3⟩ := F.un a ha
    have ne : a ≠ p := fun e => h3 (by rw [← e]; exact ha)
    rw [upd_ne ne]
    exact ⟨u1, u2, u3⟩
  · obtain ⟨a, b, c⟩ := M.h q (List.mem_cons_of_mem _ hq)
    rw [upd_ne (out q hq)]
    exact ⟨a, b, c⟩
theorem je_new {Φ : List α → En → Prop} (h : JN X B m e l fun ss l1 => ∃ ds : List α, ss = sds ds ∧ Φ ds l1) : JE X B m e l Φ :=
  h.imp fun σ H Q ⟨G, E, k⟩ => ⟨G, E, fun xs ss G1 H1 l1 p e1 N ⟨ds, es, hφ⟩ => by
    subst es
    obtain ⟨G2, e2, E2, r2⟩ := N.data
    exact k _ G2 H1 ds l1 (e1.trans e2) E2 r2 hφ⟩
theorem jg_new {Φ : SD → En → Prop} (h : JN X B m e l fun ss l1 => Φ (own ss) l1) : JG X B m e l Φ :=
  h.imp fun σ H Q ⟨G, E, k⟩ => ⟨G, E, fun xs ss G1 H1 l1 p e1 N hφ => by
    obtain ⟨⟨fp, F, E2, Z, M⟩, r, nw, out⟩ := N
    obtain ⟨h1, h2, h3⟩ := M.h _ List.mem_cons_self
    refine k _ G1 H1 (own ss) l1 e1 ⟨[p], fp, ⟨F.ex, F.g0, F.gn, F.keep, F.dom, List.nodup_cons.mpr ⟨h3, F.nd⟩, fun a ha => ?_⟩, ⟨p, xs, rfl, h1, r, rfl⟩, E2, Z, M.g, fun q hq => ?_⟩ hφ
    · rcases List.mem_cons.mp ha with e | ha
      · subst e
        exact ⟨h2, by rw [h1]; exact (fun z => nomatch z), .inl nw⟩
      · exact F.un a ha
    · obtain ⟨a, b, c⟩ := M.h q (List.mem_cons_of_mem _ hq)
      exact ⟨a, b, fun z => (List.mem_cons.mp z).elim (out q hq) c⟩⟩
theorem jg_of {Φ : SD → En → Prop} (h : JE X B m e l fun (d : α) l1 => Φ (sd d) l1) : JG X B m e l Φ :=
  h.imp fun σ H Q ⟨G, E, k⟩ => ⟨G, E, fun v G1 H1 d l1 e1 E1 r1 hφ => k v G1 H1 (sd d) l1 e1 (E1.r r1) hφ⟩
theorem vals_pr {K : Fg} {G : Hp} {σ : L2.St} : ∀ {ss : List SD} {vs : List V}, All2 (ArgR K G σ) (vals ss) vs → All2 (PR K G) vs ss
  | [], [], _ => trivial
  | s :: ss, v :: vs, h => ⟨h.1, vals_pr (ss := ss) h.2⟩
theorem jn_lst {Φ : List SD → En → Prop} (h : JA X B m es l fun as l1 => ∃ ss, as = vals ss ∧ ss.length ≤ 10000000 ∧ Φ ss l1) : JN X B m (.List es pos) l Φ :=

  jnI (pe_lst h) fun σ H Q ⟨G, E, k⟩ => ⟨G, E, fun vs G1 H1 as l1 e1 E1 r1 ⟨ss, ea, hz, hφ⟩ => by
    subst ea
    have r2 := vals_pr r1
    exact ⟨Nat.le_trans (by rw [r2.len]; exact hz) (by decide), fun p hp => k vs ss G1 H1 l1 e1 E1 r2 hφ p hp⟩⟩
/-- list(xs) -/
theorem jn_copy {Φ : List SD → En → Prop} (hm : X.mg "list" = none) (h : JE X B m a l fun (L : List α) l1 => Φ (sds L) l1) (hg : Gl X "list" := by rfl)
    (he : starEach (a :: []) X.env = (false, eval a X.env) :: starEach [] X.env := by rfl) (hpl : (backTo pos (starEach [] X.env)).any (·.1) = false := by rfl) : JN X B m (.Call (.Name "list" p1) [a] [] pos) l Φ :=

  jnI (pe_callTy call_list_of hg hm (by decide +kernel) (pa_cons h pa_nil he) (by decide) (by decide) he hpl) fun σ H Q ⟨G, E, k⟩ => ⟨G, E, fun v G1 H1 L l1 e1 E1 r1 hφ => by
    obtain ⟨p, xs, rfl, hp, ha⟩ := r1
    exact ⟨p, xs, rfl, .inl (SqL.of (E1.ex _ _ hp)), fun q hq => k xs (sds L) G1 H1 l1 e1 E1 (rows_of ha) hφ q hq⟩⟩
theorem jn_copyO {Φ : List SD → En → Prop} {i : Nat} {x : Str} {ss : List SD} (hm : X.mg "list" = none) (g : Get l i (own ss)) (h : Φ ss l) (hg : Gl X "list" := by rfl) (hN : X.N[i]? = some x := by rfl) (hv : Vis X.env.scope x := by first | exact Or.inl rfl | exact Or.inr (Or.inl rfl) | exact Or.inr (Or.inr rfl))
    (hd : (x == ("__debug__" : Str)) = false := by decide) (hcd : (x == ("__classdict__" : Str)) = false := by decide)
    (he : starEach (.Name x p2 :: []) X.env = (false, eval (.Name x p2) X.env) :: starEach [] X.env := by rfl) (hpl : (backTo pos (starEach [] X.env)).any (·.1) = false := by rfl) : JN X B m (.Call (.Name "list" p1) [.Name x p2] [] pos) l Φ :=

  jnI (pe_callTy call_list_of hg hm (by decide +kernel) (pa_cons (pe_var (i := i) hN hv hd hcd) pa_nil he) (by decide) (by decide) he hpl) fun σ H Q ⟨G, E, k⟩ => by
    obtain ⟨p, xs, e1, e2, _, e3, _⟩ := E.mut g
    exact ⟨_, e1, p, xs, rfl, .inl (SqL.of e2), fun q hq => k xs ss G H l (Ex.refl G) E e3 h q hq⟩
theorem rep_all {R : V → α → Prop} {xs : List V} {L : List α} (h : All2 R xs L) : ∀ n, All2 R (List.replicate n xs).flatten (List.replicate n L).flatten
  | 0 => trivial
  | n + 1 => All2.app h (rep_all h n)
/-- [..] * n -/
theorem jn_rep {Φ : List SD → En → Prop} (h : JE X B m a l fun (L : List α) l1 => JE X B m b l1 fun (n : Int) l2 => (-(2 ^ 63) ≤ n ∧ n < 2 ^ 63 ∧ L.length * n.toNat ≤ 10000000) ∧ Φ (sds (List.replicate n.toNat L).flatten) l2) : JN X B m (.BinOp a .Mult b pos) l Φ :=

  jnI (pe_op op_rep h pe_any) fun σ H Q ⟨G, E, k⟩ => ⟨G, E, fun v G1 H1 L l1 e1 E1 r1 hb => hb.any E1 fun u G2 H2 n l2 e2 E2 r2 ⟨⟨z1, z2, z3⟩, hφ⟩ => by
    obtain ⟨p, xs, rfl, hp, ha⟩ := r1
    exact ⟨p, n, xs, rfl, r2, E2.ex _ _ (e2 _ _ hp), z1, z2, Nat.le_trans (by rw [ha.len]; exact z3) (by decide), fun q hq =>
      k _ _ G2 H2 l2 (e1.trans e2) E2 (rows_of (rep_all (ha.imp fun _ _ h => Rp.mono e2 h) n.toNat)) hφ q hq⟩⟩
/-- xs + ys -/
theorem jn_cat {Φ : List SD → En → Prop} (h : JE X B m a l fun (L : List α) l1 => JE X B m b l1 fun (M : List α) l2 => L.length + M.length ≤ 10000000 ∧ Φ (sds (L ++ M)) l2) : JN X B m (.BinOp a .Add b pos) l Φ :=

  jnI (pe_op op_cat h pe_any) fun σ H Q ⟨G, E, k⟩ => ⟨G, E, fun v G1 H1 L l1 e1 E1 r1 hb => hb.any E1 fun u G2 H2 M l2 e2 E2 r2 ⟨hz, hφ⟩ => by
    obtain ⟨p, xs, rfl, hp, ha⟩ := r1
    obtain ⟨q, ys, rfl, hq, hb⟩ := r2
    exact ⟨p, q, xs, ys, rfl, rfl, E2.ex _ _ (e2 _ _ hp), E2.ex _ _ hq, Nat.le_trans (by rw [ha.len, hb.len]; exact hz) (by decide), fun z hz =>
      k _ _ G2 H2 l2 (e1.trans e2) E2 (rows_of ((ha.imp fun _ _ h => Rp.mono e2 h).app hb)) hφ z hz⟩⟩

/-! ### items, lengths -/
theorem All2.atI {δ ε : Type} {R : δ → ε → Prop} {xs : List δ} {L : List ε} {i : Int} {d : ε} (h : All2 R xs L) (e : L2.atI L i = some d) : ∃ v, L2.atI xs i = some v ∧ R v d := by
  unfold L2.atI at e ⊢
  rw [h.len]
  cases q : ixN L.length i with
  | none => rw [q] at e; cases e
  | some j =>
    rw [q] at e
    obtain ⟨v, h1, h2⟩ := h.right (i := j) e
    exact ⟨v, h1, h2⟩
theorem je_ixL {Φ : α → En → Prop} (h : JE X B m a l fun (L : List α) l1 => JE X B m b l1 fun (i : Int) l2 => ∃ d, L2.atI L i = some d ∧ Φ d l2) (hs : PlainIx b := by exact fun _ _ => rfl) : JE X B m (.Subscript a b pos) l Φ :=
  (pe_ix ix_list h pe_any hs).imp fun σ H Q ⟨G, E, k⟩ => ⟨G, E, fun v G1 H1 L l1 e1 E1 r1 hb => hb.any E1 fun u G2 H2 i l2 e2 E2 r2 ⟨d, hd, hφ⟩ => by
    obtain ⟨p, xs, rfl, hp, ha⟩ := r1
    obtain ⟨w, h1, h2⟩ := ha.atI hd
    exact ⟨p, xs, i, w, rfl, r2, SqL.of (E2.ex _ _ (e2 _ _ hp)), h1, k w G2 H2 d l2 (e1.trans e2) E2 (Rp.mono e2 h2) hφ⟩⟩
theorem je_ixO {Φ : α → En → Prop} {i : Nat} {x : Str} {s0 : SD} (g : Get l i s0) (h : JE X B m b l fun (k : Int) l1 => ∃ ss d, Get l1 i (own ss) ∧ L2.atI ss k = some (sd d) ∧ Φ d l1) (hN : X.N[i]? = some x := by rfl) (hv : Vis X.env.scope x := by first | exact Or.inl rfl | exact Or.inr (Or.inl rfl) | exact Or.inr (Or.inr rfl))
    (hd : (x == ("__debug__" : Str)) = false := by decide) (hcd : (x == ("__classdict__" : Str)) = false := by decide) (hs : PlainIx b := by exact fun _ _ => rfl) : JE X B m (.Subscript (.Name x p1) b pos) l Φ :=
  (pe_ix ix_list (pe_var (i := i) hN hv hd hcd) h hs).imp fun σ H Q ⟨G, E, k⟩ => by
    obtain ⟨v, f, e0, _⟩ := E.get g
    refine ⟨v, e0, G, E, fun u G2 H2 n l2 e2 E2 r2 ⟨ss, d, g2, hd, hφ⟩ => ?_⟩
    obtain ⟨p, xs, e1, h1, _, h3, _⟩ := E2.mut g2
    rw [e0] at e1
    have ev : v = .ref p := Option.some.inj (Option.some.inj e1)
    obtain ⟨w, q1, q2⟩ := h3.atI hd
    exact ⟨p, xs, n, w, ev, r2, SqL.of h1, q1, k w G2 H2 d l2 e2 E2 q2.rp hφ⟩
theorem je_fst {Φ : α → En → Prop} {j} (h : JE X B m a l fun (x : α × β) l1 => Φ x.1 l1) : JE X B m (.Subscript a (.Constant (.int 0) j p1) pos) l Φ :=
  (pe_ix ix_tup h pe_int (fun _ _ => rfl)).imp fun σ H Q ⟨G, E, k⟩ => ⟨G, E, fun v G1 H1 x l1 e1 E1 r1 hφ => by
    obtain ⟨p, y, z, rfl, hp, h1, h2⟩ := r1
    exact ⟨p, [y, z], 0, y, rfl, rfl, SqT.of (E1.ex _ _ hp), rfl, k y G1 H1 _ l1 e1 E1 h1 hφ⟩⟩
theorem je_snd {Φ : β → En → Prop} {j} (h : JE X B m a l fun (x : α × β) l1 => Φ x.2 l1) : JE X B m (.Subscript a (.Constant (.int 1) j p1) pos) l Φ :=
  (pe_ix ix_tup h pe_int (fun _ _ => rfl)).imp fun σ H Q ⟨G, E, k⟩ => ⟨G, E, fun v G1 H1 x l1 e1 E1 r1 hφ => by
    obtain ⟨p, y, z, rfl, hp, h1, h2⟩ := r1
    exact ⟨p, [y, z], 1, z, rfl, rfl, SqT.of (E1.ex _ _ hp), rfl, k z G1 H1 _ l1 e1 E1 h2 hφ⟩⟩
theorem je_3a {Φ : α → En → Prop} {j} (h : JE X B m a l fun (x : T3 α β γ) l1 => Φ x.a l1) : JE X B m (.Subscript a (.Constant (.int 0) j p1) pos) l Φ :=
  (pe_ix ix_tup h pe_int (fun _ _ => rfl)).imp fun σ H Q ⟨G, E, k⟩ => ⟨G, E, fun v G1 H1 x l1 e1 E1 r1 hφ => by
    obtain ⟨p, y, z, w, rfl, hp, h1, h2, h3⟩ := r1
    exact ⟨p, [y, z, w], 0, y, rfl, rfl, SqT.of (E1.ex _ _ hp), rfl, k y G1 H1 _ l1 e1 E1 h1 hφ⟩⟩
theorem je_3b {Φ : β → En → Prop} {j} (h : JE X B m a l fun (x : T3 α β γ) l1 => Φ x.b l1) : JE X B m (.Subscript a (.Constant (.int 1) j p1) pos) l Φ :=
  (pe_ix ix_tup h pe_int (fun _ _ => rfl)).imp fun σ H Q ⟨G, E, k⟩ => ⟨G, E, fun v G1 H1 x l1 e1 E1 r1 hφ => by
    obtain ⟨p, y, z, w, rfl, hp, h1, h2, h3⟩ := r1
    exact ⟨p, [y, z, w], 1, z, rfl, rfl, SqT.of (E1.ex _ _ hp), rfl, k z G1 H1 _ l1 e1 E1 h2 hφ⟩⟩
theorem je_3c {Φ : γ → En → Prop} {j} (h : JE X B m a l fun (x : T3 α β γ) l1 => Φ x.c l1) : JE X B m (.Subscript a (.Constant (.int 2) j p1) pos) l Φ :=
  (pe_ix ix_tup h pe_int (fun _ _ => rfl)).imp fun σ H Q ⟨G, E, k⟩ => ⟨G, E, fun v G1 H1 x l1 e1 E1 r1 hφ => by
    obtain ⟨p, y, z, w, rfl, hp, h1, h2, h3⟩ := r1
    exact ⟨p, [y, z, w], 2, w, rfl, rfl, SqT.of (E1.ex _ _ hp), rfl, k w G1 H1 _ l1 e1 E1 h3 hφ⟩⟩
theorem je_len {Φ : Int → En → Prop} (hm : X.mg "len" = none) (h : JE X B m a l fun (L : List α) l1 => Φ (L.length : Int) l1) (hg : Gl X "len" := by rfl)
    (he : starEach (a :: []) X.env = (false, eval a X.env) :: starEach [] X.env := by rfl) (hpl : (backTo pos (starEach [] X.env)).any (·.1) = false := by rfl) : JE X B m (.Call (.Name "len" p1) [a] [] pos) l Φ :=
  (pe_callB call_len_seq hg hm PySem.boot_len (pa_cons h pa_nil he) (by decide) (by decide) he hpl).imp fun σ H Q ⟨G, E, k⟩ => ⟨G, E, fun v G1 H1 L l1 e1 E1 r1 hφ => by
    obtain ⟨p, xs, rfl, hp, ha⟩ := r1
    exact ⟨p, xs, rfl, .inl (SqL.of (E1.ex _ _ hp)), k _ G1 H1 _ l1 e1 E1 (by rw [ha.len]; rfl) hφ⟩⟩
theorem je_lenO {Φ : Int → En → Prop} {i : Nat} {x : Str} {ss : List SD} (hm : X.mg "len" = none) (g : Get l i (own ss)) (h : Φ (ss.length : Int) l) (hg : Gl X "len" := by rfl) (hN : X.N[i]? = some x := by rfl) (hv : Vis X.env.scope x := by first | exact Or.inl rfl | exact Or.inr (Or.inl rfl) | exact Or.inr (Or.inr rfl))
    (hd : (x == ("__debug__" : Str)) = false := by decide) (hcd : (x == ("__classdict__" : Str)) = false := by decide)
    (he : starEach (.Name x p2 :: []) X.env = (false, eval (.Name x p2) X.env) :: starEach [] X.env := by rfl) (hpl : (backTo pos (starEach [] X.env)).any (·.1) = false := by rfl) : JE X B m (.Call (.Name "len" p1) [.Name x p2] [] pos) l Φ :=
  (pe_callB call_len_seq hg hm PySem.boot_len (pa_cons (pe_var (i := i) hN hv hd hcd) pa_nil he) (by decide) (by decide) he hpl).imp fun σ H Q ⟨G, E, k⟩ => by
    obtain ⟨p, xs, e1, e2, _, e3, _⟩ := E.mut g
    exact ⟨_, e1, p, xs, rfl, .inl (SqL.of e2), k _ G H _ l (Ex.refl G) E (by rw [e3.len]; rfl) h⟩
theorem je_min {Φ : Int → En → Prop} (hm : X.mg "min" = none) (hc : X.calm = true) (h : JE X B m a l fun (x : Int) l1 => JE X B m b l1 fun (y : Int) l2 => Φ (if y < x then y else x) l2) (hg : Gl X "min" := by rfl)
    (he : starEach [a, b] X.env = (false, eval a X.env) :: starEach [b] X.env := by rfl) (he2 : starEach [b] X.env = (false, eval b X.env) :: starEach [] X.env := by rfl) (hpl : (backTo pos (starEach [b] X.env)).any (·.1) = false := by rfl) : JE X B m (.Call (.Name "min" p1) [a, b] [] pos) l Φ :=
  (pe_callB (call_min2 hc) hg hm (by decide +kernel) (pa_cons h (pa_cons pe_any pa_nil he2) he) (by decide) (by decide) he hpl).imp fun σ H Q ⟨G, E, k⟩ => ⟨G, E, fun v G1 H1 x l1 e1 E1 r1 hb => hb.any E1 fun u G2 H2 y l2 e2 E2 r2 hφ => by
    cases r1; cases r2
    exact ⟨x, y, rfl, k _ G2 H2 _ l2 (e1.trans e2) E2 rfl hφ⟩⟩
theorem je_max {Φ : Int → En → Prop} (hm : X.mg "max" = none) (hc : X.calm = true) (h : JE X B m a l fun (x : Int) l1 => JE X B m b l1 fun (y : Int) l2 => Φ (if y > x then y else x) l2) (hg : Gl X "max" := by rfl)
    (he : starEach [a, b] X.env = (false, eval a X.env) :: starEach [b] X.env := by rfl) (he2 : starEach [b] X.env = (false, eval b X.env) :: starEach [] X.env := by rfl) (hpl : (backTo pos (starEach [b] X.env)).any (·.1) = false := by rfl) : JE X B m (.Call (.Name "max" p1) [a, b] [] pos) l Φ :=
  (pe_callB (call_max2 hc) hg hm (by decide +kernel) (pa_cons h (pa_cons pe_any pa_nil he2) he) (by decide) (by decide) he hpl).imp fun σ H Q ⟨G, E, k⟩ => ⟨G, E, fun v G1 H1 x l1 e1 E1 r1 hb => hb.any E1 fun u G2 H2 y l2 e2 E2 r2 hφ => by
    cases r1; cases r2
    exact ⟨x, y, rfl, k _ G2 H2 _ l2 (e1.trans e2) E2 rfl hφ⟩⟩
theorem je_intI {Φ : Int → En → Prop} (hm : X.mg "int" = none) (h : JE X B m a l fun (x : Int) l1 => Φ x l1) (hg : Gl X "int" := by rfl)
    (he : starEach (a :: []) X.env = (false, eval a X.env) :: starEach [] X.env := by rfl) (hpl : (backTo pos (starEach [] X.env)).any (·.1) = false := by rfl) : JE X B m (.Call (.Name "int" p1) [a] [] pos) l Φ :=
  (pe_callTy call_int1 hg hm (by decide +kernel) (pa_cons h pa_nil he) (by decide) (by decide) he hpl).imp fun σ H Q ⟨G, E, k⟩ => ⟨G, E, fun v G1 H1 x l1 e1 E1 r1 hφ => by
    cases r1
    exact .inl ⟨x, rfl, k _ G1 H1 _ l1 e1 E1 rfl hφ⟩⟩
theorem je_intB {Φ : Int → En → Prop} (hm : X.mg "int" = none) (h : JE X B m a l fun (x : Bool) l1 => Φ (if x then 1 else 0) l1) (hg : Gl X "int" := by rfl)
    (he : starEach (a :: []) X.env = (false, eval a X.env) :: starEach [] X.env := by rfl) (hpl : (backTo pos (starEach [] X.env)).any (·.1) = false := by rfl) : JE X B m (.Call (.Name "int" p1) [a] [] pos) l Φ :=
  (pe_callTy call_int1 hg hm (by decide +kernel) (pa_cons h pa_nil he) (by decide) (by decide) he hpl).imp fun σ H Q ⟨G, E, k⟩ => ⟨G, E, fun v G1 H1 x l1 e1 E1 r1 hφ => by
    cases r1
    exact .inr ⟨x, rfl, k _ G1 H1 _ l1 e1 E1 rfl hφ⟩⟩
/-- xs.pop(k), xs an own list -/
theorem je_popAt {Φ : α → En → Prop} {i : Nat} {x : Str} {ss0 : List SD} (g : Get l i (own ss0)) (h : JE X B m b l fun (k : Int) l1 => ∃ (ss : List SD) (j : Nat) (d : α) (l2 : En), Get l1 i (own ss) ∧ k = (j : Int) ∧ j < 2 ^ 62 ∧ ss[j]? = some (sd d) ∧ Put l1 i (some (own (ss.eraseIdx j))) l2 ∧ Φ d l2)
    (hN : X.N[i]? = some x := by rfl) (hv : Vis X.env.scope x := by first | exact Or.inl rfl | exact Or.inr (Or.inl rfl) | exact Or.inr (Or.inr rfl)) (hd : (x == ("__debug__" : Str)) = false := by decide) (hcd : (x == ("__classdict__" : Str)) = false := by decide)
    (hbase : attributeBase (.Name x p1) "pop" X.env (eval (.Name x p1) X.env) = eval (.Name x p1) X.env := by rfl)
    (hfew : ((backTo pos (starEach (b :: []) X.env)).all (fun x => !x.1) && (backToKw pos (keywordEach [] X.env)).all (fun x => x.1.isSome)
      && decide ((b :: []).length + ([] : List Keyword).length + (if ([] : List Keyword).isEmpty then 0 else 1) < 30)) = true := by rfl)
    (hline : (p2.endLine == pos.line) = true := by rfl) (hs : starEach (b :: []) X.env = (false, eval b X.env) :: starEach [] X.env := by rfl) (hplain : (backTo pos (starEach [] X.env)).any (·.1) = false := by rfl) :
    JE X B m (.Call (.Attribute (.Name x p1) "pop" p2) [b] [] pos) l Φ :=
  (pe_bm PySem.F.plainAttrs_list PySem.F.slot_list_pop PySem.F.type_list_pop mt_popAt (pe_var (i := i) hN hv hd hcd) (pa_cons h pa_nil hs) hbase hfew hline hs hplain).imp fun σ H Q ⟨G, E, k⟩ => by
    obtain ⟨p, xs, e1, e2, _, e3, _⟩ := E.mut g
    refine ⟨_, e1, .inl ⟨rfl, _, SqL.of e2⟩, G, E, fun u G2 H2 n l1 q2 E2 r2 ⟨ss, j, d, l2, g2, hn, hj, hd, pt, hφ⟩ => ?_⟩
    obtain ⟨p', xs', e1', h1, _, h3, mu⟩ := E2.mut g2
    rw [e1] at e1'
    have ep : p = p' := by injection Option.some.inj (Option.some.inj e1')
    subst ep
    obtain ⟨w, q1, q3⟩ := h3.right (i := j) hd
    have hlt : j < xs'.length := (List.getElem?_eq_some_iff.mp q1).1
    cases r2
    refine ⟨p, xs', n, j, w, rfl, rfl, h1, ?_, ?_, ?_, q1, k w G2 _ d l2 q2 (mu _ _ _ (h3.eraseIdx j) pt) q3.rp hφ⟩
    · omega
    · omega
    · rw [hn]
      have : L2.ixN xs'.length (j : Int) = some j := by unfold L2.ixN; rw [if_pos (by omega), if_pos (by omega)]; simp
      exact (ixN_seq this).1
end
end
end Tyl
end
section
namespace Tyl
open PySem PySem.Spec PyProof.Rows L2
section
variable {X : Cx} {ow : List Nat} {B : Base ow} {m : Mi}
theorem _root_.L2.PG.imp {e : Expr} {t t' : TG} (h : PG X e t) (w : ∀ v σ H Q, t' v σ H Q → t v σ H Q) : PG X e t' := ⟨fun pins s σ H v u Q I r q => h.run pins s σ H v u Q I r (w _ _ _ _ q)⟩
/-! ### targets -/
/-- data into a target: R l d l' says how the slots change -/
def gT {α : Type} [Rp α] (K : Fg) (B : Base ow) (m : Mi) (R : En → α → En → Prop) : TG := fun v σ H Q => ∃ G l d l', EnvOk K B m l G σ H ∧ Rp.rp K G v d ∧ R l d l' ∧ ∀ σ', EnvOk K B m l' G σ' H → Q σ' H
def R1 {α : Type} [Rp α] (i : Nat) : En → α → En → Prop := fun l d l' => Put l i (some (sd d)) l'
def R2p {α β : Type} [Rp α] [Rp β] (i j : Nat) : En → α × β → En → Prop := fun l d l' => ∃ l1, Put l i (some (sd d.1)) l1 ∧ Put l1 j (some (sd d.2)) l'
def R3p {α β γ : Type} [Rp α] [Rp β] [Rp γ] (i j k : Nat) : En → T3 α β γ → En → Prop := fun l d l' => ∃ l1 l2, Put l i (some (sd d.a)) l1 ∧ Put l1 j (some (sd d.b)) l2 ∧ Put l2 k (some (sd d.c)) l'
section
variable {α β γ : Type} [Rp α] [Rp β] [Rp γ] {e a b c : Expr} {es : List Expr} {l : En} {G H : Hp} {σ : L2.St} {pos p1 p2 p3 p4 : Pos} {rest body els : List Stmt}
theorem tg_name {i : Nat} {x : Str} (hN : X.N.Nodup) (hw : i ∉ ow) (hi : X.N[i]? = some x := by rfl) (hx : Loc X.env.scope x := by first | exact Or.inl rfl | exact Or.inr rfl) (hf : X.fn x = true ∨ X.env.scope.names.lookup x = some .local := by first | exact .inl rfl | exact .inr rfl) :
    PG X (.Name x pos) (gT (α := α) X.K B m (R1 i)) :=
  (pg_name (i := i) hN hi hx hf).imp fun v σ H Q ⟨G, l, d, l', E, r, p, k⟩ => k _ (E.put r p hw)
theorem tg_pair {i j : Nat} {x y : Str} {k} (hc : X.calm = true) (hN : X.N.Nodup) (hw : i ∉ ow) (hw2 : j ∉ ow) (hi : X.N[i]? = some x := by rfl) (hj : X.N[j]? = some y := by rfl) (hx : Loc X.env.scope x := by first | exact Or.inl rfl | exact Or.inr rfl) (hy : Loc X.env.scope y := by first | exact Or.inl rfl | exact Or.inr rfl)
    (hf : X.fn x = true ∨ X.env.scope.names.lookup x = some .local := by first | exact .inl rfl | exact .inr rfl) (hf2 : X.fn y = true ∨ X.env.scope.names.lookup y = some .local := by first | exact .inl rfl | exact .inr rfl)
    (hs1 : (assignEach [Expr.Name x p1, .Name y p2] X.env).map (·.2) = assign (.Name x p1) X.env :: (assignEach [Expr.Name y p2] X.env).map (·.2) := by rfl) (hs2 : (assignEach [Expr.Name y p2] X.env).map (·.2) = assign (.Name y p2) X.env :: (assignEach [] X.env).map (·.2) := by rfl)
    (hn : (assignEach [Expr.Name x p1, .Name y p2] X.env).length = 2 := by rfl) (hst : (assignEach [Expr.Name x p1, .Name y p2] X.env).findIdx? (·.1) = none := by rfl) :
    PG X (.Tuple [.Name x p1, .Name y p2] k pos) (gT (α := α × β) X.K B m (R2p i j)) :=
  (pg_tup (n := 2) hc (pgs_cons (pg_name (i := i) hN hi hx hf) (pgs_cons (pg_name (i := j) hN hj hy hf2) pgs_nil hs2) hs1) hn hst).imp fun v σ H Q ⟨G, l, d, l', E, r, ⟨l1, h1, h2⟩, k⟩ => by
    obtain ⟨p, u, w, rfl, hp, r1, r2⟩ := r
    refine ⟨p, [u, w], rfl, SqT.of (E.ex _ _ hp), rfl, u, [w], rfl, w, [], rfl, rfl, ?_⟩
    exact k _ ((E.put r1 h1 hw).put r2 h2 hw2)
theorem tg_3 {i j q : Nat} {x y z : Str} {k} (hc : X.calm = true) (hN : X.N.Nodup) (hw : i ∉ ow) (hw2 : j ∉ ow) (hw3 : q ∉ ow) (hi : X.N[i]? = some x := by rfl) (hj : X.N[j]? = some y := by rfl) (hq : X.N[q]? = some z := by rfl) (hx : Loc X.env.scope x := by first | exact Or.inl rfl | exact Or.inr rfl) (hy : Loc X.env.scope y := by first | exact Or.inl rfl | exact Or.inr rfl) (hz : Loc X.env.scope z := by first | exact Or.inl rfl | exact Or.inr rfl)
    (hf : X.fn x = true ∨ X.env.scope.names.lookup x = some .local := by first | exact .inl rfl | exact .inr rfl) (hf2 : X.fn y = true ∨ X.env.scope.names.lookup y = some .local := by first | exact .inl rfl | exact .inr rfl) (hf3 : X.fn z = true ∨ X.env.scope.names.lookup z = some .local := by first | exact .inl rfl | exact .inr rfl)
    (hs1 : (assignEach [Expr.Name x p1, .Name y p2, .Name z p3] X.env).map (·.2) = assign (.Name x p1) X.env :: (assignEach [Expr.Name y p2, .Name z p3] X.env).map (·.2) := by rfl) (hs2 : (assignEach [Expr.Name y p2, .Name z p3] X.env).map (·.2) = assign (.Name y p2) X.env :: (assignEach [.Name z p3] X.env).map (·.2) := by rfl) (hs3 : (assignEach [Expr.Name z p3] X.env).map (·.2) = assign (.Name z p3) X.env :: (assignEach [] X.env).map (·.2) := by rfl)
    (hn : (assignEach [Expr.Name x p1, .Name y p2, .Name z p3] X.env).length = 3 := by rfl) (hst : (assignEach [Expr.Name x p1, .Name y p2, .Name z p3] X.env).findIdx? (·.1) = none := by rfl) :
    PG X (.Tuple [.Name x p1, .Name y p2, .Name z p3] k pos) (gT (α := T3 α β γ) X.K B m (R3p i j q)) :=
  (pg_tup (n := 3) hc (pgs_cons (pg_name (i := i) hN hi hx hf) (pgs_cons (pg_name (i := j) hN hj hy hf2) (pgs_cons (pg_name (i := q) hN hq hz hf3) pgs_nil hs3) hs2) hs1) hn hst).imp fun v σ H Q ⟨G, l, d, l', E, r, ⟨l1, l2, h1, h2, h3⟩, k⟩ => by
    obtain ⟨p, u, w, y, rfl, hp, r1, r2, r3⟩ := r
    refine ⟨p, [u, w, y], rfl, SqT.of (E.ex _ _ hp), rfl, u, [w, y], rfl, w, [y], rfl, y, [], rfl, rfl, ?_⟩
    exact k _ (((E.put r1 h1 hw).put r2 h2 hw2).put r3 h3 hw3)

/-! ### ends -/
/-- the loop's or join's wish -/
def NX {S : Type} (K : Fg) (B : Base ow) (m : Mi) (Γ : S → En) (J : S → Prop) : L2.St → Hp → Prop := fun σ H => ∃ s G, EnvOk K B m (Γ s) G σ H ∧ J s
/-- what a def gives back -/
def RT {R O : Type} [Rp R] (K : Fg) (B : Base ow) (outs : O → List SD) (post : R → O → Prop) : V → Hp → Prop := fun v H' => ∃ G' r o, (∃ fp', Fr B G' H' fp' ∧ ∃ l σ, Env K G' H' l σ fp' ∧ l = (outs o).map some ∧ σ = B.fix.map some) ∧ Rp.rp K G' v r ∧ post r o
inductive Outs : List Nat → En → List SD → Prop
  | nil {l : En} : Outs [] l []
  | cons {i : Nat} {is : List Nat} {l : En} {s : SD} {ss : List SD} : Get l i s → Outs is l ss → Outs (i :: is) l (s :: ss)
theorem pick {K : Fg} {G H : Hp} : ∀ {is : List Nat} {l : En} {ss : List SD}, Outs is l ss → ∀ {l0 : En} {σ : L2.St} {fp : List Addr} {vs : List V}, is.Nodup → (∀ i ∈ is, l0[i]? = l[i]?) → Env K G H l0 σ fp → vs.length = is.length →
    (∀ (k i : Nat) (v : V), is[k]? = some i → vs[k]? = some v → σ[i]? = some (some v)) → ∃ r fp', fp.Perm (r ++ fp') ∧ Env K G H (ss.map some) (vs.map some) fp' := by
  intro is l ss h
  induction h with
  | nil =>
    intro l0 σ fp vs _ _ E hl _
    match vs, hl with
    | [], _ => exact ⟨fp, [], by simp, .nil⟩
  | @cons i is l s ss g _ ih =>
    intro l0 σ fp vs nd hk E hl hv
    match vs, hl with
    | v :: vs, hl =>
      have nd' := List.nodup_cons.mp nd
      have e0 : l0[i]? = some (some s) := (hk i List.mem_cons_self).trans g.to
      obtain ⟨f, r, p1, g1, _, u2⟩ := E.split (i := i) (List.getElem?_eq_some_iff.mp e0).1
      obtain ⟨w, e1, hs⟩ := g1 _ e0
      have ew := hv 0 i v rfl rfl
      rw [e1] at ew
      have evw : w = v := Option.some.inj (Option.some.inj ew)
      subst evw
      have sg : σ.set i (some w) = σ := by
        obtain ⟨hlt, hv⟩ := List.getElem?_eq_some_iff.mp e1
        rw [← hv]
        exact List.set_getElem_self hlt
      obtain ⟨fq, w3, w4⟩ := u2 G H (some w) (Ex.refl G) (fun _ _ => rfl)
      rw [sg] at w4
      obtain ⟨r', fp', p2, E'⟩ := ih (l0 := l0.set i none) (σ := σ) (fp := fq) (vs := vs) nd'.2 (fun j hj => by
        rw [List.getElem?_set_ne (fun q => nd'.1 (by rw [q]; exact hj))]
        exact hk j (List.mem_cons_of_mem _ hj)) w4 (by simpa using hl) (fun k j v h1 h2 => hv (k + 1) j v (by simpa using h1) (by simpa using h2))
      refine ⟨r', f ++ fp', ?_, .cons hs E'⟩
      refine p1.trans ?_
      exact perm3 (w3.symm.trans p2)
theorem EnvOk.outs {K : Fg} {ss : List SD} (E : EnvOk K B m l G σ H) (o : Outs ow l ss) (nd : ow.Nodup) : ∃ fp', Fr B G H fp' ∧ ∃ l σ, Env K G H l σ fp' ∧ l = ss.map some ∧ σ = B.fix.map some := by
  obtain ⟨fp, F, E, X, M⟩ := E
  obtain ⟨r, fp', p, E'⟩ := pick o nd (fun _ _ => rfl) E X.len (fun k i v h1 h2 => X.at_ k i v h1 h2)
  exact ⟨fp', (F.perm p.symm).sub, _, _, E', rfl, rfl⟩

/-! ### statements -/
variable {nx : L2.St → Hp → Prop} {rt : VK} {bk ct : L2.St → Hp → Prop} {D : Ends} {st : Stmt}
/-- the rest behind a statement -/
theorem JSs.any {D' : Ends} {ss : List Stmt} (h : JSs X B m ss l D) (E : EnvOk X.K B m l G σ H) (q : (∀ σ H, D.nx σ H → D'.nx σ H) ∧ (∀ v H, D.rt v H → D'.rt v H) ∧ (∀ σ H, D.bk σ H → D'.bk σ H) ∧ (∀ σ H, D.ct σ H → D'.ct σ H)) : anySs X ss D' σ H := ⟨_, h, ⟨G, E⟩, q⟩
/-- another description of the slots -/
theorem js_wk {l' : En} {ss : List Stmt} (w : Wk l l') (h : JSs X B m ss l' D) : JSs X B m ss l D := PSs.imp h fun D' σ H ⟨⟨G, E⟩, q⟩ => ⟨⟨G, E.wk w⟩, q⟩
theorem js_frz {s : SD} {d : α} {i : Nat} {l2 : En} {ss : List Stmt} (g : Get l i s) (z : Fz s d) (p : Put l i (some (sd d)) l2) (o : OwnAll ow l) (h : JSs X B m ss l2 D) (hi : i ∉ ow := by decide) : JSs X B m ss l D := PSs.imp h fun D' σ H ⟨⟨G, E⟩, q⟩ => by
  obtain ⟨G', e, E'⟩ := E.frz g z p hi o
  exact ⟨⟨G', E'⟩, q⟩
theorem js_end {S : Type} {Γ : S → En} {J : S → Prop} (h : ∃ s, Wk l (Γ s) ∧ J s) : JSs X B m [] l ⟨NX X.K B m Γ J, rt, bk, ct⟩ :=
  PSs.imp pss_nil fun D' σ H ⟨⟨G, E⟩, q, _⟩ => by
    obtain ⟨s, w, j⟩ := h
    exact q σ H ⟨s, G, E.wk w, j⟩
theorem js_cont {S : Type} {Γ : S → En} {J : S → Prop} (h : ∃ s, Wk l (Γ s) ∧ J s) : JSs X B m (.Continue pos :: rest) l ⟨nx, rt, bk, NX X.K B m Γ J⟩ :=
  PSs.imp (pss_cons ps_continue (pss_any (e := rest))) fun D' σ H ⟨⟨G, E⟩, _, _, _, q⟩ => by
    obtain ⟨s, w, j⟩ := h
    exact q σ H ⟨s, G, E.wk w, j⟩
theorem js_break {S : Type} {Γ : S → En} {J : S → Prop} (h : ∃ s, Wk l (Γ s) ∧ J s) : JSs X B m (.Break pos :: rest) l ⟨nx, rt, NX X.K B m Γ J, ct⟩ :=
  PSs.imp (pss_cons ps_break (pss_any (e := rest))) fun D' σ H ⟨⟨G, E⟩, _, _, q, _⟩ => by
    obtain ⟨s, w, j⟩ := h
    exact q σ H ⟨s, G, E.wk w, j⟩
theorem js_ret {R O : Type} [Rp R] {outs : O → List SD} {post : R → O → Prop} (nd : ow.Nodup) (h : JE X B m e l fun (d : R) l1 => ∃ o, Outs ow l1 (outs o) ∧ post d o) : JSs X B m (.Return (some e) pos :: rest) l ⟨nx, RT X.K B outs post, bk, ct⟩ :=
  PSs.imp (pss_cons (ps_ret h) (pss_any (e := rest))) fun D' σ H ⟨⟨G, E⟩, _, q, _⟩ => ⟨G, E, fun v G1 H1 d l1 e1 E1 r1 ⟨o, ho, hp⟩ => q v H1 ⟨G1, d, o, E1.outs ho nd, r1, hp⟩⟩
theorem js_fall {R O : Type} [Rp R] {outs : O → List SD} {post : R → O → Prop} {d : R} (nd : ow.Nodup) (hr : ∀ K G, Rp.rp K G .non d) (h : ∃ o, Outs ow l (outs o) ∧ post d o) : JSs X B m [] l ⟨fun _ H => RT X.K B outs post .non H, rt, bk, ct⟩ :=
  PSs.imp pss_nil fun D' σ H ⟨⟨G, E⟩, q, _⟩ => by
    obtain ⟨o, ho, hp⟩ := h
    exact q σ H ⟨G, d, o, E.outs ho nd, hr _ _, hp⟩
theorem js_pass (h : JSs X B m rest l D) : JSs X B m (.Pass pos :: rest) l D :=
  PSs.imp (pss_cons ps_pass pss_any) fun D' σ H ⟨⟨G, E⟩, q⟩ => h.any E q
/-- x = e -/
theorem js_asg {i : Nat} {x : Str} (hN : X.N.Nodup) (h : JE X B m e l fun (d : α) l1 => ∃ l2, Put l1 i (some (sd d)) l2 ∧ JSs X B m rest l2 D) (hw : i ∉ ow := by decide) (hi : X.N[i]? = some x := by rfl) (hx : Loc X.env.scope x := by first | exact Or.inl rfl | exact Or.inr rfl)
    (hs : swapsWith e (some (.Name x p1)) pos.line X.env = pure false := by rfl) (hf : X.fn x = true ∨ X.env.scope.names.lookup x = some .local := by first | exact .inl rfl | exact .inr rfl) : JSs X B m (.Assign [.Name x p1] e pos :: rest) l D :=
  PSs.imp (pss_cons (ps_set (i := i) hN hi hx h hs hf) pss_any) fun D' σ H ⟨⟨G, E⟩, q⟩ => ⟨G, E, fun v G1 H1 d l1 e1 E1 r1 ⟨l2, p, hr⟩ => hr.any (E1.put r1 p hw) q⟩
/-- x = e, e new and own -/
theorem js_asgO {i : Nat} {x : Str} (hN : X.N.Nodup) (h : JG X B m e l fun s l1 => ∃ l2, Put l1 i (some s) l2 ∧ JSs X B m rest l2 D) (hw : i ∉ ow := by decide) (hi : X.N[i]? = some x := by rfl) (hx : Loc X.env.scope x := by first | exact Or.inl rfl | exact Or.inr rfl)
    (hs : swapsWith e (some (.Name x p1)) pos.line X.env = pure false := by rfl) (hf : X.fn x = true ∨ X.env.scope.names.lookup x = some .local := by first | exact .inl rfl | exact .inr rfl) : JSs X B m (.Assign [.Name x p1] e pos :: rest) l D :=
  PSs.imp (pss_cons (ps_set (i := i) hN hi hx h hs hf) pss_any) fun D' σ H ⟨⟨G, E⟩, q⟩ => ⟨G, E, fun v G1 H1 s l1 e1 E1 ⟨l2, p, hr⟩ => hr.any (E1.put p hw) q⟩
/-- target = e -/
theorem js_tgt {tg : Expr} {R : En → α → En → Prop} (hg : PG X tg (gT X.K B m R)) (h : JE X B m e l fun (d : α) l1 => ∃ l2, R l1 d l2 ∧ JSs X B m rest l2 D) (hs : swapsWithSole [tg] e pos.line X.env = pure false := by rfl) (hw : swappedStores [tg] e X.env = pure none := by rfl)
    (h1 : (assignEach [tg] X.env).map (·.2) = [assign tg X.env] := by rfl) : JSs X B m (.Assign [tg] e pos :: rest) l D :=
  PSs.imp (pss_cons (ps_asg h hg hs hw h1) pss_any) fun D' σ H ⟨⟨G, E⟩, q⟩ => ⟨G, E, fun v G1 H1 d l1 e1 E1 r1 ⟨l2, p, hr⟩ => ⟨G1, l1, d, l2, E1, r1, p, fun σ' E' => hr.any E' q⟩⟩
/-- x += e, x -= e .. of whole numbers -/
theorem js_aug {op : Operator} {f : Int → Int → Int} {i : Nat} {x : Str} {u : Int} (ho : PIp X op (ipI f)) (hN : X.N.Nodup) (g : Get l i (sd u)) (h : JE X B m e l fun (d : Int) l1 => ∃ l2, Put l1 i (some (sd (f u d))) l2 ∧ JSs X B m rest l2 D) (hw : i ∉ ow := by decide) (hi : X.N[i]? = some x := by rfl)
    (hx : Loc X.env.scope x := by first | exact Or.inl rfl | exact Or.inr rfl) (hf : X.fn x = true ∨ X.env.scope.names.lookup x = some .local := by first | exact .inl rfl | exact .inr rfl) : JSs X B m (.AugAssign (.Name x p1) op e pos :: rest) l D :=
  PSs.imp (pss_cons (ps_aug (i := i) hN hi hx h ho hf) pss_any) fun D' σ H ⟨⟨G, E⟩, q⟩ => by
    obtain ⟨v, f0, e1, e2, _⟩ := E.get g
    exact ⟨v, e1, G, E, fun w G1 H1 d l1 e1 E1 r1 ⟨l2, p, hr⟩ => ⟨u, d, e2, r1, hr.any (E1.put rfl p hw) q⟩⟩
/-- an expression whose value is dropped -/
theorem js_expr (h : JG X B m e l fun s l1 => JSs X B m rest l1 D) (hs : swapsWith e none pos.line X.env = pure false := by rfl) : JSs X B m (.Expr e pos :: rest) l D :=
  PSs.imp (pss_cons (ps_expr h hs) pss_any) fun D' σ H ⟨⟨G, E⟩, q⟩ => ⟨G, E, fun v G1 H1 s l1 e1 E1 hr => hr.any E1.ok q⟩
/-- xs.append(e) -/
theorem js_app {i : Nat} {x : Str} {ss0 : List SD} (g : Get l i (own ss0)) (h : JE X B m e l fun (d : α) l1 => ∃ ss l2, Get l1 i (own ss) ∧ ss.length < 10000000 ∧ Put l1 i (some (own (ss ++ [sd d]))) l2 ∧ JSs X B m rest l2 D)
    (hN : X.N[i]? = some x := by rfl) (hv : Vis X.env.scope x := by first | exact Or.inl rfl | exact Or.inr (Or.inl rfl) | exact Or.inr (Or.inr rfl)) (hd : (x == ("__debug__" : Str)) = false := by decide) (hcd : (x == ("__classdict__" : Str)) = false := by decide)
    (hbase : attributeBase (.Name x p1) "append" X.env (eval (.Name x p1) X.env) = eval (.Name x p1) X.env := by rfl)
    (hfew : ((backTo p3 (starEach (e :: []) X.env)).all (fun x => !x.1) && (backToKw p3 (keywordEach [] X.env)).all (fun x => x.1.isSome)
      && decide ((e :: []).length + ([] : List Keyword).length + (if ([] : List Keyword).isEmpty then 0 else 1) < 30)) = true := by rfl)
    (hline : (p2.endLine == p3.line) = true := by rfl) (hs : starEach (e :: []) X.env = (false, eval e X.env) :: starEach [] X.env := by rfl) (hplain : (backTo p3 (starEach [] X.env)).any (·.1) = false := by rfl)
    (hsw : swapsWith (.Call (.Attribute (.Name x p1) "append" p2) [e] [] p3) none pos.line X.env = pure false := by rfl) :
    JSs X B m (.Expr (.Call (.Attribute (.Name x p1) "append" p2) [e] [] p3) pos :: rest) l D :=
  PSs.imp (pss_cons (ps_expr (pe_bm PySem.F.plainAttrs_list PySem.F.slot_list_append PySem.F.type_list_append mt_append (pe_var (i := i) hN hv hd hcd) (pa_cons h pa_nil hs) hbase hfew hline hs hplain) hsw) pss_any) fun D' σ H ⟨⟨G, E⟩, q⟩ => by
    obtain ⟨p, xs, e1, e2, _, e3, _⟩ := E.mut g
    refine ⟨_, e1, .inl ⟨rfl, _, SqL.of e2⟩, G, E, fun u G2 H2 d l1 q2 E2 r2 ⟨ss, l2, g2, hz, pt, hr⟩ => ?_⟩
    obtain ⟨p', xs', e1', h1, _, h3, mu⟩ := E2.mut g2
    rw [e1] at e1'
    have ep : p = p' := by injection Option.some.inj (Option.some.inj e1')
    subst ep
    exact ⟨p, xs', u, rfl, rfl, h1, Nat.lt_of_lt_of_le (by rw [h3.len]; exact hz) (by decide), hr.any (mu _ _ _ (h3.app (bs' := [sd d]) ⟨pr_sd r2, trivial⟩) pt) q⟩
/-- xs[k] = e, xs own -/
theorem All2.set {δ ε : Type} {R : δ → ε → Prop} {x : δ} {y : ε} (h : R x y) : ∀ (j : Nat) {xs : List δ} {ys : List ε}, All2 R xs ys → All2 R (xs.set j x) (ys.set j y)
  | _, [], [], _ => trivial
  | 0, _ :: _, _ :: _, q => ⟨h, q.2⟩
  | j + 1, _ :: _, _ :: _, q => ⟨q.1, All2.set h j q.2⟩
theorem js_setL {i : Nat} {x : Str} {s0 : SD} (g : Get l i s0) (h : JE X B m e l fun (d : α) l1 => ∃ s1, Get l1 i s1 ∧ JE X B m b l1 fun (k : Int) l2 => ∃ ss j l3, Get l2 i (own ss) ∧ L2.ixN ss.length k = some j ∧ Put l2 i (some (own (ss.set j (sd d)))) l3 ∧ JSs X B m rest l3 D)
    (hN : X.N[i]? = some x := by rfl) (hv : Vis X.env.scope x := by first | exact Or.inl rfl | exact Or.inr (Or.inl rfl) | exact Or.inr (Or.inr rfl)) (hd : (x == ("__debug__" : Str)) = false := by decide) (hcd : (x == ("__classdict__" : Str)) = false := by decide)
    (ha : ∀ v, assign (.Subscript (.Name x p1) b p2) X.env v = (do
      let ov ← holding [v] (eval (.Name x p1) X.env)
      let iv ← holding [v, ov] (eval b X.env)
      standAt p2
      holding [v, ov, iv] (setItem ov iv v)
      release [v, ov, iv] []) := by intro _; rfl)
    (hs : swapsWithSole [.Subscript (.Name x p1) b p2] e pos.line X.env = pure false := by rfl) (hw : swappedStores [.Subscript (.Name x p1) b p2] e X.env = pure none := by rfl)
    (h1 : (assignEach [.Subscript (.Name x p1) b p2] X.env).map (·.2) = [assign (.Subscript (.Name x p1) b p2) X.env] := by rfl) : JSs X B m (.Assign [.Subscript (.Name x p1) b p2] e pos :: rest) l D :=
  PSs.imp (pss_cons (ps_asg h (pg_sub (pe_var (i := i) hN hv hd hcd) (pe_any (e := b)) set_list ha) hs hw h1) pss_any) fun D' σ H ⟨⟨G, E⟩, q⟩ => by
    refine ⟨G, E, fun v G1 H1 d l1 e1 E1 r1 ⟨s1, g1, hb⟩ => ?_⟩
    obtain ⟨w, f, ew, _⟩ := E1.get g1
    refine ⟨w, ew, hb.any E1 fun u G2 H2 k l2 e2 E2 r2 ⟨ss, j, l3, g2, hj, pt, hr⟩ => ?_⟩
    obtain ⟨p, xs, q1, q2, _, q3, mu⟩ := E2.mut g2
    rw [ew] at q1
    have ev : w = .ref p := Option.some.inj (Option.some.inj q1)
    exact ⟨p, xs, k, j, ev, r2, q2, by rw [q3.len]; exact hj, hr.any (mu _ _ _ (q3.set (pr_sd (Rp.mono e2 r1)) j) pt) q⟩
/-- xs[k] as what is read ahead of a store -/
def rGetL : V → V → Hp → VK → Prop := fun o i H Q => ∃ p xs k v, o = .ref p ∧ i = .int k ∧ H p = some (.lst xs) ∧ 0 ≤ k ∧ atI xs k = some v ∧ Q v H
theorem get_list : PGet X rGetL := by
  intro pins s σ H o i ov iv Q I ro ri h
  obtain ⟨p, xs, k, z, rfl, rfl, hp, h0, he, q⟩ := h
  cases ro
  obtain ⟨t, rfl⟩ := ri
  obtain ⟨its, r, pl, hz⟩ := I.list (SqL.of hp)
  obtain ⟨j, h1, h2, h3, h4, h5⟩ := atI_get he
  obtain ⟨w, ew, rw'⟩ := r.get h2
  have hl := r.length
  have hn := line63
  have fin : EP X pins σ Q w s := ⟨z, H, I, rw', q⟩
  have hj : k.toNat = j := by
    rw [seqIndex_of h0 h5] at h1
    exact Option.some.inj h1
  exact wpAny_getItem_list pl.isList h0 (by omega) (by rw [hj]; simpa using ew) fin
/-- xs[k] op= e of whole numbers, xs own -/
theorem js_augL {op : Operator} {f : Int → Int → Int} {i : Nat} {x : Str} {s0 : SD} (ho : PIp X op (ipI f)) (g : Get l i s0) (h : JE X B m b l fun (k : Int) l1 => ∃ (ss : List SD) (u : Int), Get l1 i (own ss) ∧ 0 ≤ k ∧ L2.atI ss k = some (sd u) ∧
      JE X B m e l1 fun (d : Int) l2 => ∃ ss j l3, Get l2 i (own ss) ∧ L2.ixN ss.length k = some j ∧ Put l2 i (some (own (ss.set j (sd (f u d))))) l3 ∧ JSs X B m rest l3 D)
    (hN : X.N[i]? = some x := by rfl) (hv : Vis X.env.scope x := by first | exact Or.inl rfl | exact Or.inr (Or.inl rfl) | exact Or.inr (Or.inr rfl)) (hd : (x == ("__debug__" : Str)) = false := by decide) (hcd : (x == ("__classdict__" : Str)) = false := by decide)
    (ha : ∀ ov iv new, augStore b ov iv new = (do holding [new, ov, iv] (setItem ov iv new); release [new, ov, iv] []; pure .next) := by intros; rfl) : JSs X B m (.AugAssign (.Subscript (.Name x p1) b p2) op e pos :: rest) l D :=
  PSs.imp (pss_cons (ps_augS (pe_var (i := i) hN hv hd hcd) h get_list (pe_any (e := e)) ho set_list ha) pss_any) fun D' σ H ⟨⟨G, E⟩, q⟩ => by
    obtain ⟨w, f0, ew, _⟩ := E.get g
    refine ⟨w, ew, G, E, fun v G1 H1 k l1 e1 E1 r1 ⟨ss, u, g1, hk, hu, hb⟩ => ?_⟩
    obtain ⟨p, xs, q1, q2, _, q3, _⟩ := E1.mut g1
    rw [ew] at q1
    have ev : w = .ref p := Option.some.inj (Option.some.inj q1)
    obtain ⟨y, y1, y2⟩ := q3.atI hu
    refine ⟨p, xs, k, y, ev, r1, q2, hk, y1, hb.any E1 fun z G2 H2 d l2 e2 E2 r2 ⟨ss, j, l3, g2, hj, pt, hr⟩ => ⟨u, d, y2.rp, r2, ?_⟩⟩
    obtain ⟨p', xs', q1', q2', _, q3', mu⟩ := E2.mut g2
    rw [ew] at q1'
    have ev' : w = .ref p' := Option.some.inj (Option.some.inj q1')
    exact ⟨p', xs', k, j, ev', r1, q2', by rw [q3'.len]; exact hj, hr.any (mu _ _ _ (q3'.set (pr_sd (d := f u d) rfl) j) pt) q⟩

/-! ### if -/
theorem tif (h : JT X B m c l fun b l1 => (b = true → JSs X B m body l1 D) ∧ (b = false → JSs X B m els l1 D)) {D' : Ends} (E : EnvOk X.K B m l G σ H) (q : (∀ σ H, D.nx σ H → D'.nx σ H) ∧ (∀ v H, D.rt v H → D'.rt v H) ∧ (∀ σ H, D.bk σ H → D'.bk σ H) ∧ (∀ σ H, D.ct σ H → D'.ct σ H)) :
    tIfS (tJT X.K B m l fun b l1 => (b = true → JSs X B m body l1 D) ∧ (b = false → JSs X B m els l1 D)) (anySs X body) (anySs X els) D' σ H :=
  ⟨G, E, fun G1 H1 b l1 e1 E1 ⟨hT, hF⟩ => by
    cases b with
    | true => exact iteT ((hT rfl).any E1 q)
    | false => exact iteF ((hF rfl).any E1 q)⟩
/-- the last statement of a block -/
theorem js_if1 (h : JT X B m c l fun b l1 => (b = true → JSs X B m body l1 D) ∧ (b = false → JSs X B m els l1 D)) : JSs X B m [.If c body els pos] l D :=
  PSs.imp (pss_one (ps_if h pss_any pss_any)) fun D' σ H ⟨⟨G, E⟩, q⟩ => tif h E q
/-- the body does not fall through -/
theorem js_ifR (h : JT X B m c l fun b l1 => (b = true → JSs X B m body l1 { D with nx := fun _ _ => False }) ∧ (b = false → JSs X B m rest l1 D)) : JSs X B m (.If c body [] pos :: rest) l D :=
  PSs.imp (pss_cons (ps_if h pss_any pss_nil) pss_any) fun D' σ H ⟨⟨G, E⟩, q1, q2⟩ => ⟨G, E, fun G1 H1 b l1 e1 E1 ⟨hT, hF⟩ => by
    cases b with
    | true => exact iteT ((hT rfl).any E1 ⟨fun _ _ z => z.elim, q2⟩)
    | false => exact iteF ((hF rfl).any E1 ⟨q1, q2⟩)⟩
/-- both ways meet behind -/
theorem js_ifJ (h : JT X B m c l fun b l1 => ∃ (S : Type) (Γ : S → En) (J : S → Prop), (b = true → JSs X B m body l1 { D with nx := NX X.K B m Γ J }) ∧ (b = false → JSs X B m els l1 { D with nx := NX X.K B m Γ J }) ∧ ∀ s, J s → JSs X B m rest (Γ s) D) : JSs X B m (.If c body els pos :: rest) l D :=
  PSs.imp (pss_cons (ps_if h pss_any pss_any) pss_any) fun D' σ H ⟨⟨G, E⟩, q1, q2⟩ => ⟨G, E, fun G1 H1 b l1 e1 E1 ⟨S, Γ, J, hT, hF, hR⟩ => by
    have nx : ∀ σ H, NX X.K B m Γ J σ H → anySs X rest D' σ H := fun σ H ⟨s, G, E, j⟩ => (hR s j).any E ⟨q1, q2⟩
    cases b with
    | true => exact iteT ((hT rfl).any E1 ⟨nx, q2⟩)
    | false => exact iteF ((hF rfl).any E1 ⟨nx, q2⟩)⟩

/-! ### for -/
/-- over data that is a list; no break -/
theorem js_forL {tg : Expr} {R : En → α → En → Prop} (hg : ∀ m, PG X tg (gT X.K B m R)) (hp : PassesOwn (model X.prog X.w) X.A X.env X.xe) (hc : X.calm = true)
    (h : JE X B m e l fun (L : List α) l1 => ∃ (S : Type) (Γ : S → En) (I : Nat → S → Prop), (∃ s0, Wk l1 (Γ s0) ∧ I 0 s0) ∧
      (∀ (m' : Mi) (i : Nat) (s : S) (x : α), L[i]? = some x → I i s → ∃ l2, R (Γ s) x l2 ∧ JSs X B m' body l2 ⟨NX X.K B m' Γ (I (i + 1)), D.rt, fun _ _ => False, NX X.K B m' Γ (I (i + 1))⟩) ∧ (∀ s, I L.length s → JSs X B m rest (Γ s) D))
    (hs : ∀ x, foldedSetIterable e X.env x = pure x := by intro _; rfl) : JSs X B m (.For tg e body [] pos :: rest) l D := by
  refine PSs.imp (pss_cons (ps_for (g := fun v σ H Q => ∃ m', gT X.K B m' R v σ H Q) hp hc (pi_list h) ⟨fun pins s σ H v u Q I r ⟨m', q⟩ => (hg m').run pins s σ H v u Q I r q⟩ (pss_any (e := body)) hs) (pss_any (e := rest))) fun D' σ H ⟨⟨G, E⟩, q1, q2, q3, q4⟩ => ?_
  refine ⟨G, E, fun v G1 H1 L l1 e1 E1 r1 ⟨S, Γ, I, ⟨s0, w0, i0⟩, turn, done⟩ => ?_⟩
  obtain ⟨p, xs, rfl, hp, ha⟩ := r1
  refine ⟨p, rfl, ⟨xs, SqL.of (E1.ex _ _ hp)⟩, ?_⟩
  refine for_list (K := X.K) (a := p) (xs := xs) (g := fun v σ H Q => ∃ m', gT X.K B m' R v σ H Q) (tb := anySs X body) (D := { D' with nx := anySs X rest D' }) (fun i σ H => ∃ s G2, Ex G1 G2 ∧ EnvOk X.K B ⟨G1, m.h⟩ (Γ s) G2 σ H ∧ I i s) ⟨s0, G1, Ex.refl _, ?_, i0⟩ (fun i σ H _ ⟨s, G2, e, E2, _⟩ => SqL.of (E2.ex _ _ (e _ _ hp))) (fun i x σ H hx ⟨s, G2, e, E2, ii⟩ => ?_) fun σ H ⟨s, G2, e, E2, ii⟩ => ?_
  · obtain ⟨fp, F, E, X, M⟩ := E1.wk w0
    exact ⟨fp, F, E, X, Ex.refl _, M.h⟩
  · obtain ⟨d, hd, rd⟩ := ha.left hx
    obtain ⟨l2, r2, hb⟩ := turn ⟨G1, m.h⟩ i s d hd ii
    refine ⟨⟨G1, m.h⟩, G2, Γ s, d, l2, E2, Rp.mono e rd, r2, fun σ' E' => hb.any E' ⟨fun σ H ⟨s, G, E, j⟩ => ?_, q2, fun _ _ z => z.elim, fun σ H ⟨s, G, E, j⟩ => ?_⟩⟩
    · obtain ⟨_, _, _, _, M⟩ := id E; exact ⟨s, G, M.g, E, j⟩
    · obtain ⟨_, _, _, _, M⟩ := id E; exact ⟨s, G, M.g, E, j⟩
  · rw [ha.len] at ii
    obtain ⟨fp, F, E, X, M⟩ := E2
    have M0 : Ex m.g G1 := by obtain ⟨_, _, _, _, z⟩ := E1; exact z.g
    exact (done s ii).any ⟨fp, F, E, X, M0.trans M.g, M.h⟩ ⟨q1, q2, q3, q4⟩
/-- over range(n) -/
theorem js_forR1 {i0 : Nat} {x : Str} (hN : X.N.Nodup) (hm : X.mg "range" = none) (hp : PassesOwn (model X.prog X.w) X.A X.env X.xe) (hc : X.calm = true)
    (h : JE X B m a l fun (n : Int) l1 => ∃ (S : Type) (Γ : S → En) (I : Nat → S → Prop), (-(2 ^ 62) ≤ n ∧ n < 2 ^ 62) ∧ (∃ s0, Wk l1 (Γ s0) ∧ I 0 s0) ∧
      (∀ (i : Nat) (s : S), (i : Int) < n → I i s → ∃ l2, Put (Γ s) i0 (some (sd (i : Int))) l2 ∧ JSs X B m body l2 ⟨NX X.K B m Γ (I (i + 1)), D.rt, fun _ _ => False, NX X.K B m Γ (I (i + 1))⟩) ∧ (∀ s, I n.toNat s → JSs X B m rest (Γ s) D))
    (hw : i0 ∉ ow := by decide) (hi : X.N[i0]? = some x := by rfl) (hx : Loc X.env.scope x := by first | exact Or.inl rfl | exact Or.inr rfl) (hf : X.fn x = true ∨ X.env.scope.names.lookup x = some .local := by first | exact .inl rfl | exact .inr rfl) (hg : Gl X "range" := by rfl)
    (hse : starEach (a :: []) X.env = (false, eval a X.env) :: starEach [] X.env := by rfl) (hs2 : starEach [a] X.env = [(false, eval a X.env)] := by rfl)
    (hs : ∀ x, foldedSetIterable (.Call (.Name "range" p1) [a] [] p2) X.env x = pure x := by intro _; rfl) : JSs X B m (.For (.Name x p3) (.Call (.Name "range" p1) [a] [] p2) body [] pos :: rest) l D := by
  refine PSs.imp (pss_cons (ps_for hp hc (pi_range1 hg hm (pa_cons h pa_nil hse) hs2) (pg_name (i := i0) hN hi hx hf) (pss_any (e := body)) hs) (pss_any (e := rest))) fun D' σ H ⟨⟨G, E⟩, q1, q2, q3, q4⟩ => ?_
  refine ⟨G, E, fun v G1 H1 n l1 e1 E1 r1 ⟨S, Γ, I, ⟨z1, z2⟩, ⟨s0, w0, ii0⟩, turn, done⟩ => ?_⟩
  refine ⟨n, by rw [show v = .int n from r1], z1, z2, ?_⟩
  refine for_range (lo := 0) (n := n.toNat) (g := gName i0) (tb := anySs X body) (D := { D' with nx := anySs X rest D' }) (fun i σ H => ∃ s G2, EnvOk X.K B m (Γ s) G2 σ H ∧ I i s) ⟨s0, G1, E1.wk w0, ii0⟩ (fun i σ H hx ⟨s, G2, E2, ii⟩ => ?_) fun σ H ⟨s, G2, E2, ii⟩ => (done s ii).any E2 ⟨q1, q2, q3, q4⟩
  obtain ⟨l2, r2, hb⟩ := turn i s (by omega) ii
  refine hb.any (G := G2) (E2.put (d := (i : Int)) (by show V.int (0 + (i : Int)) = _; rw [Int.zero_add]) r2 hw) ⟨fun σ H ⟨s, G, E, j⟩ => ⟨s, G, E, j⟩, q2, fun _ _ z => z.elim, fun σ H ⟨s, G, E, j⟩ => ⟨s, G, E, j⟩⟩
/-- over range(a, b) -/
theorem js_forR2 {i0 : Nat} {x : Str} (hN : X.N.Nodup) (hm : X.mg "range" = none) (hp : PassesOwn (model X.prog X.w) X.A X.env X.xe) (hc : X.calm = true)
    (h : JE X B m a l fun (lo : Int) l0 => JE X B m b l0 fun (n : Int) l1 => ∃ (S : Type) (Γ : S → En) (I : Nat → S → Prop), (-(2 ^ 62) ≤ lo ∧ lo < 2 ^ 62 ∧ -(2 ^ 62) ≤ n ∧ n < 2 ^ 62) ∧ (∃ s0, Wk l1 (Γ s0) ∧ I 0 s0) ∧
      (∀ (i : Nat) (s : S), lo + (i : Int) < n → I i s → ∃ l2, Put (Γ s) i0 (some (sd (lo + (i : Int)))) l2 ∧ JSs X B m body l2 ⟨NX X.K B m Γ (I (i + 1)), D.rt, fun _ _ => False, NX X.K B m Γ (I (i + 1))⟩) ∧ (∀ s, I (n - lo).toNat s → JSs X B m rest (Γ s) D))
    (hw : i0 ∉ ow := by decide) (hi : X.N[i0]? = some x := by rfl) (hx : Loc X.env.scope x := by first | exact Or.inl rfl | exact Or.inr rfl) (hf : X.fn x = true ∨ X.env.scope.names.lookup x = some .local := by first | exact .inl rfl | exact .inr rfl) (hg : Gl X "range" := by rfl)
    (hse : starEach (a :: [b]) X.env = (false, eval a X.env) :: starEach [b] X.env := by rfl) (hse2 : starEach (b :: []) X.env = (false, eval b X.env) :: starEach [] X.env := by rfl) (hs2 : starEach [a, b] X.env = [(false, eval a X.env), (false, eval b X.env)] := by rfl) (hs3 : starEach [b] X.env = [(false, eval b X.env)] := by rfl)
    (hs : ∀ x, foldedSetIterable (.Call (.Name "range" p1) [a, b] [] p2) X.env x = pure x := by intro _; rfl) : JSs X B m (.For (.Name x p3) (.Call (.Name "range" p1) [a, b] [] p2) body [] pos :: rest) l D := by
  refine PSs.imp (pss_cons (ps_for hp hc (pi_range2 hg hm (pa_cons h (pa_cons pe_any pa_nil hse2) hse) hs2 hs3) (pg_name (i := i0) hN hi hx hf) (pss_any (e := body)) hs) (pss_any (e := rest))) fun D' σ H ⟨⟨G, E⟩, q1, q2, q3, q4⟩ => ?_
  refine ⟨G, E, fun u G0 H0 lo l0 e0 E0 r0 hb => hb.any E0 fun v G1 H1 n l1 e1 E1 r1 ⟨S, Γ, I, z, ⟨s0, w0, ii0⟩, turn, done⟩ => ?_⟩
  refine ⟨lo, n, by rw [show v = .int n from r1, show u = .int lo from r0], z, ?_⟩
  refine for_range (lo := lo) (n := (n - lo).toNat) (g := gName i0) (tb := anySs X body) (D := { D' with nx := anySs X rest D' }) (fun i σ H => ∃ s G2, EnvOk X.K B m (Γ s) G2 σ H ∧ I i s) ⟨s0, G1, E1.wk w0, ii0⟩ (fun i σ H hx ⟨s, G2, E2, ii⟩ => ?_) fun σ H ⟨s, G2, E2, ii⟩ => (done s ii).any E2 ⟨q1, q2, q3, q4⟩
  obtain ⟨l2, r2, hb⟩ := turn i s (by omega) ii
  exact hb.any (G := G2) (E2.put (d := lo + (i : Int)) rfl r2 hw) ⟨fun σ H ⟨s, G, E, j⟩ => ⟨s, G, E, j⟩, q2, fun _ _ z => z.elim, fun σ H ⟨s, G, E, j⟩ => ⟨s, G, E, j⟩⟩
end
end
end Tyl
end
section
namespace Tyl
open PySem PySem.Spec PyProof.Rows L2
/-! ### promises by type -/
def fixOf : List Bool → List V → List V
  | true :: ms, v :: vs => v :: fixOf ms vs
  | false :: ms, _ :: vs => fixOf ms vs
  | _, _ => []
def ixOf : List Bool → Nat → List Nat
  | true :: ms, n => n :: ixOf ms (n + 1)
  | false :: ms, n => ixOf ms (n + 1)
  | [], _ => []
theorem fix_len : ∀ (ms : List Bool) (vs : List V) (n : Nat), ms.length = vs.length → (fixOf ms vs).length = (ixOf ms n).length
  | [], [], _, _ => rfl
  | true :: ms, v :: vs, n, h => congrArg Nat.succ (fix_len ms vs (n + 1) (Nat.succ.inj h))
  | false :: ms, v :: vs, n, h => fix_len ms vs (n + 1) (Nat.succ.inj h)
theorem fix_at : ∀ (ms : List Bool) (vs : List V) (n : Nat) (k i : Nat) (v : V), (ixOf ms n)[k]? = some i → (fixOf ms vs)[k]? = some v → ∃ j, i = n + j ∧ vs[j]? = some v
  | [], _, n, k, i, v, h, _ => by simp [ixOf] at h
  | true :: ms, [], n, k, i, v, _, h => by simp [fixOf] at h
  | false :: ms, [], n, k, i, v, _, h => by simp [fixOf] at h
  | true :: ms, u :: vs, n, 0, i, v, h1, h2 => by
    simp [ixOf] at h1
    simp [fixOf] at h2
    subst h1 h2
    exact ⟨0, rfl, rfl⟩
  | true :: ms, u :: vs, n, k + 1, i, v, h1, h2 => by
    obtain ⟨j, e, h⟩ := fix_at ms vs (n + 1) k i v (by simpa [ixOf] using h1) (by simpa [fixOf] using h2)
    exact ⟨j + 1, by omega, by simpa using h⟩
  | false :: ms, u :: vs, n, k, i, v, h1, h2 => by
    obtain ⟨j, e, h⟩ := fix_at ms vs (n + 1) k i v h1 h2
    exact ⟨j + 1, by omega, by simpa using h⟩
/-- arguments by their description; own ones are told by the mask; what is given back and what the own ones hold then: post -/
def spT {A R O : Type} [Rp R] (K : Fg) (mask : List Bool) (args : A → List SD) (pre : A → Prop) (outs : A → O → List SD) (post : A → R → O → Prop) : Sp := fun vs H Q _ => ∃ (a : A) (G : Hp) (fp : List Addr),
  Ex G H ∧ fp.Nodup ∧ (∀ x ∈ fp, G x = none) ∧ Rows K G H (args a) vs fp ∧ (∀ x ∈ fp, V.ref x ∈ fixOf mask vs) ∧ mask.length = vs.length ∧ pre a ∧
  ∀ v H', RT K (⟨G, H, fp, fixOf mask vs⟩ : Base (ixOf mask 0)) (outs a) (post a) v H' → Q v H'
theorem env_of_rows {K : Fg} {G H : Hp} {ss : List SD} {vs : List V} {fp : List Addr} (h : Rows K G H ss vs fp) (n : Nat) : Env K G H (ss.map some ++ List.replicate n none) (vs.map some ++ List.replicate n none) fp := by
  induction h with
  | nil =>
    induction n with
    | zero => exact .nil
    | succ n ih => exact .junk ih
  | cons h1 _ ih => exact .cons h1 ih
section
variable {P : Program} {w : World} {K : Fg} {mg : Str → Option Value} {base : Heap} {x qual : Str} {params : Arguments} {body : List Stmt} {scope : Scope} {f : Addr} {fd : FuncData} {CX : CXT} {N ps : List Str} {k : Nat}
/-- the rule of a def -/
theorem okT {A R O : Type} [Rp R] {mask : List Bool} {args : A → List SD} {pre : A → Prop} {outs : A → O → List SD} {post : A → R → O → Prop} {dvs : List V} {kws : List (Str × V)} (F : FunD K x qual params body scope dvs kws f fd) (S : FnScope N ps scope) (hlen : ∀ a, (args a).length = ps.length)
    (h : ∀ (cdv : Value) (A0 : Around) (outer : List PySem.Env) (s : Shared) (H : Hp) (E : XK) (a : A) (B : Base (ixOf mask 0)), Room k (A0.deeper (envOfC qual scope s.heap.objs.size f cdv)) → pre a →
      JSs (cxOf CX P w K mg base N qual scope f cdv A0 outer s H E) B ⟨B.G, []⟩ body ((args a).map some ++ List.replicate (N.length - ps.length) none) ⟨fun _ H => RT K B (outs a) (post a) .non H, RT K B (outs a) (post a), fun _ _ => False, fun _ _ => False⟩) :
    FnOk P w K mg base CX (k + 1) f fd ps (spT K mask args pre outs post) := by
  refine F.ok S (fun vs H Q E ⟨a, G, fp, _, _, _, hR, _⟩ => by rw [← hR.len]; exact hlen a) (fun cdv A0 outer s H vs Q E hr ⟨a, G, fp, ex, nd, un, hR, fl, hm, hp, hQ⟩ => ?_)
  refine ⟨_, h cdv A0 outer s H E a ⟨G, H, fp, fixOf mask vs⟩ hr hp, ⟨G, fp, ⟨ex, Ex.refl _, fun _ _ h => h, fun _ _ h _ => h, fun _ h => h, nd, fun x hx => ⟨un x hx, hR.dom x hx, .inr hx⟩⟩, ?_, ⟨?_, ?_, fl⟩, Ex.refl _, fun q hq => nomatch hq⟩, fun _ H q => hQ _ _ q, fun v H q => hQ _ _ q, fun _ _ z => z.elim, fun _ _ z => z.elim⟩
  · have e : vs.length = ps.length := by rw [← hR.len]; exact hlen a
    unfold L2.start
    rw [e]
    exact env_of_rows hR _
  · exact fix_len mask vs 0 hm
  · intro k i v h1 h2
    obtain ⟨j, e, hj⟩ := fix_at mask vs 0 k i v h1 h2
    have ej : i = j := by omega
    subst ej
    unfold L2.start
    obtain ⟨hlt, hv⟩ := List.getElem?_eq_some_iff.mp hj
    rw [List.getElem?_append_left (by simpa using hlt), List.getElem?_map, hj]
    rfl
end
section
variable {X : Cx} {ow : List Nat} {B : Base ow} {m : Mi}
/-! ### calls -/
def maskOf : List Arg → List Bool := List.map fun a => match a with
  | .val _ => false
  | .slot _ => true
def FlatS (s : SD) : Prop := ∀ (K : Fg) (G H : Hp) (v : V) (f : List Addr), s.P K G H v f → ∀ a ∈ f, v = .ref a
theorem flat_own {ss : List SD} : FlatS (own ss) := fun K G H v f ⟨p, xs, h1, _, _, h4⟩ a ha => by
  rw [h4] at ha
  rw [h1, List.mem_singleton.mp ha]
inductive Mat (l : En) : List Arg → List SD → List Nat → Prop
  | nil : Mat l [] [] []
  | val {s : SD} {as : List Arg} {ss : List SD} {is : List Nat} : Mat l as ss is → Mat l (.val s :: as) (s :: ss) is
  | slot {i : Nat} {s : SD} {as : List Arg} {ss : List SD} {is : List Nat} : Get l i s → FlatS s → Mat l as ss is → Mat l (.slot i :: as) (s :: ss) (i :: is)
inductive Puts : En → List Nat → List SD → En → Prop
  | nil {l : En} : Puts l [] [] l
  | cons {l l1 l2 : En} {i : Nat} {is : List Nat} {s : SD} {ss : List SD} : Put l i (some s) l1 → Puts l1 is ss l2 → Puts l (i :: is) (s :: ss) l2
def hole (l : En) : List Nat → En
  | [] => l
  | i :: is => hole (l.set i none) is
theorem hole_set {i : Nat} {x : Option SD} : ∀ {is : List Nat} {l : En}, i ∉ is → hole (l.set i x) is = (hole l is).set i x
  | [], _, _ => rfl
  | j :: js, l, h => by
    have ne : i ≠ j := fun q => h (by rw [q]; exact List.mem_cons_self)
    show hole ((l.set i x).set j none) js = (hole (l.set j none) js).set i x
    rw [List.set_comm _ _ ne]
    exact hole_set fun q => h (List.mem_cons_of_mem _ q)
theorem hole_len : ∀ (is : List Nat) (l : En), (hole l is).length = l.length
  | [], _ => rfl
  | i :: is, l => by
    show (hole (l.set i none) is).length = _
    rw [hole_len is, List.length_set]
theorem set_same {σ : L2.St} {i : Nat} {x : Option V} (h : σ[i]? = some x) : σ.set i x = σ := by
  obtain ⟨hlt, hv⟩ := List.getElem?_eq_some_iff.mp h
  rw [← hv]
  exact List.set_getElem_self hlt
section
variable {K : Fg} {G H : Hp} {σ : L2.St}
theorem mat_split {l : En} {as : List Arg} {ss : List SD} {is : List Nat} (h : Mat l as ss is) : ∀ {l0 : En} {fp : List Addr} {vs : List V}, is.Nodup → (∀ i ∈ is, l0[i]? = l[i]?) → Env K G H l0 σ fp → All2 (ArgR K G σ) as vs →
    ∃ fc r, fp.Perm (fc ++ r) ∧ Rows K G H ss vs fc ∧ Env K G H (hole l0 is) σ r ∧ (∀ x ∈ fc, V.ref x ∈ fixOf (maskOf as) vs) ∧ (∀ (k i : Nat) (v : V), is[k]? = some i → (fixOf (maskOf as) vs)[k]? = some v → σ[i]? = some (some v)) ∧ is.length = (fixOf (maskOf as) vs).length := by
  induction h with
  | nil =>
    intro l0 fp vs _ _ E hv
    match vs, hv with
    | [], _ => exact ⟨[], fp, .refl _, .nil, E, (fun x hx => nomatch hx), (fun k i v h _ => by simp at h), rfl⟩
  | @val s as ss is _ ih =>
    intro l0 fp vs nd hk E hv
    match vs, hv with
    | v :: vs, hv =>
      obtain ⟨fc, r, p, hR, E', q1, q2, q3⟩ := ih nd hk E hv.2
      exact ⟨fc, r, p, Rows.cons (f := []) (hv.1 H) hR, E', q1, q2, q3⟩
  | @slot i s as ss is g fl _ ih =>
    intro l0 fp vs nd hk E hv
    match vs, hv with
    | v :: vs, hv =>
      have nd' := List.nodup_cons.mp nd
      have e0 : l0[i]? = some (some s) := (hk i List.mem_cons_self).trans g.to
      obtain ⟨f, r0, p1, g1, _, u2⟩ := E.split (i := i) (List.getElem?_eq_some_iff.mp e0).1
      obtain ⟨w, e1, hs⟩ := g1 _ e0
      have ew : σ[i]? = some (some v) := hv.1
      rw [e1] at ew
      have evw : w = v := Option.some.inj (Option.some.inj ew)
      subst evw
      obtain ⟨fq, w3, w4⟩ := u2 G H (some w) (Ex.refl G) (fun _ _ => rfl)
      rw [set_same e1] at w4
      obtain ⟨fc, r, p2, hR, E', q1, q2, q3⟩ := ih (l0 := l0.set i none) nd'.2 (fun j hj => by
        rw [List.getElem?_set_ne (fun q => nd'.1 (by rw [q]; exact hj))]
        exact hk j (List.mem_cons_of_mem _ hj)) w4 hv.2
      refine ⟨f ++ fc, r, ?_, .cons hs hR, E', fun x hx => ?_, fun k j v h1 h2 => ?_, congrArg Nat.succ q3⟩
      · rw [List.append_assoc]
        exact p1.trans (List.Perm.append_left f (w3.symm.trans p2))
      · rcases List.mem_append.mp hx with hx | hx
        · have := fl _ _ _ _ _ hs x hx
          rw [← this]
          exact List.mem_cons_self
        · exact List.mem_cons_of_mem _ (q1 x hx)
      · cases k with
        | zero =>
          have a1 : i = j := by simpa using h1
          have a2 : w = v := by
            have : (fixOf (maskOf (.slot i :: as)) (w :: vs))[0]? = some w := rfl
            rw [this] at h2
            exact Option.some.inj h2
          rw [← a1, ← a2]
          exact e1
        | succ k => exact q2 k j v (by simpa using h1) (by simpa [fixOf, maskOf] using h2)
theorem fill {l l2 : En} {is : List Nat} {ss : List SD} (h : Puts l is ss l2) : ∀ {ws : List V} {fq r : List Addr}, is.Nodup → is.length = ws.length → (∀ (k i : Nat) (v : V), is[k]? = some i → ws[k]? = some v → σ[i]? = some (some v)) → Env K G H (hole l is) σ r →
    Env K G H (ss.map some) (ws.map some) fq → ∃ d fp', (fq ++ r).Perm (d ++ fp') ∧ Env K G H l2 σ fp' := by
  induction h with
  | nil =>
    intro ws fq r _ hl _ E E2
    match ws, hl with
    | [], _ =>
      cases E2
      exact ⟨[], r, .refl _, E⟩
  | @cons l l1 l2 i is s ss pt _ ih =>
    intro ws fq r nd hl hv E E2
    match ws, hl with
    | v :: ws, hl =>
      have nd' := List.nodup_cons.mp nd
      obtain ⟨q1, q2⟩ := pt.to
      cases E2 with
      | @cons _ _ f _ _ fs h1 E2 =>
        have E' : Env K G H ((hole l is).set i none) σ r := by rw [← hole_set nd'.1]; exact E
        obtain ⟨f0, r0, p1, _, u1, _⟩ := E'.split (i := i) (by rw [List.length_set, hole_len]; exact q2)
        obtain ⟨fp', w1, w2⟩ := u1 G H s v f (Ex.refl G) (fun _ _ => rfl) h1
        rw [set_same (hv 0 i v rfl rfl), List.set_set, ← hole_set nd'.1, ← q1] at w2
        obtain ⟨d, fp2, p2, E3⟩ := ih nd'.2 (by simpa using hl) (fun k j v h1 h2 => hv (k + 1) j v (by simpa using h1) (by simpa using h2)) w2 E2
        refine ⟨f0 ++ d, fp2, ?_, E3⟩
        -- (f ++ fs) ++ r ~ f0 ++ (d ++ fp2)
        have a1 : (f ++ fs ++ r).Perm (f ++ fs ++ (f0 ++ r0)) := List.Perm.append_left _ p1
        have a2 : (f ++ fs ++ (f0 ++ r0)).Perm (f0 ++ (fs ++ (f ++ r0))) := by
          refine (perm3 (.refl _)).trans (List.Perm.append_left f0 ?_)
          rw [← List.append_assoc]
          exact List.Perm.append_right r0 List.perm_append_comm
        have a3 : (f0 ++ (fs ++ (f ++ r0))).Perm (f0 ++ (d ++ fp2)) := List.Perm.append_left f0 ((List.Perm.append_left fs w1.symm).trans p2)
        rw [List.append_assoc f0 d fp2]
        exact (a1.trans a2).trans a3
/-- the frame of the caller behind a call -/
theorem Fr.call {ow' : List Nat} {G' H' : Hp} {fc fq r : List Addr} {ws : List V} (F : Fr B G H (fc ++ r)) (F' : Fr (⟨G, H, fc, ws⟩ : Base ow') G' H' fq) : Fr B G' H' (fq ++ r) where
  ex := F'.ex
  g0 := F.g0.trans F'.g0
  gn := fun a ha hb => F'.gn a (F.dom a ha) (F.gn a ha hb)
  keep := fun a o ha hb => F'.keep a o (F.keep a o ha hb) fun hm => by
    rcases (F.un a (List.mem_append_left _ hm)).2.2 with q | q
    · rw [q] at ha; cases ha
    · exact hb q
  dom := fun a ha => F'.dom a (F.dom a ha)
  nd := List.nodup_append.mpr ⟨F'.nd, (List.nodup_append.mp F.nd).2.1, fun a ha b hb e => by
    subst e
    rcases (F'.un a ha).2.2 with q | q
    · exact (F.un a (List.mem_append_right _ hb)).2.1 q
    · exact (List.nodup_append.mp F.nd).2.2 a q a hb rfl⟩
  un := fun a ha => by
    rcases List.mem_append.mp ha with ha | ha
    · obtain ⟨u1, u2, u3⟩ := F'.un a ha
      refine ⟨u1, u2, ?_⟩
      rcases u3 with q | q
      · left
        cases e : B.H a with
        | none => rfl
        | some o => exact absurd q (F.dom a (by rw [e]; exact fun z => nomatch z))
      · exact (F.un a (List.mem_append_left _ q)).2.2
    · obtain ⟨u1, u2, u3⟩ := F.un a (List.mem_append_right _ ha)
      exact ⟨F'.gn a u2 u1, F'.dom a u2, u3⟩
end
variable {α : Type} {e : Expr} {es : List Expr} {l : En} {pos p1 : Pos}
/-- what a call asks and gives -/
theorem call_sp {A R O : Type} [Rp R] {mask : List Bool} {args : A → List SD} {pre : A → Prop} {outs : A → O → List SD} {post : A → R → O → Prop} {G H : Hp} {σ : L2.St} {Q : VK} {E : XK} {as : List Arg} {vs : List V} {l1 : En} {a : A} {is : List Nat}
    (E1 : EnvOk X.K B m l1 G σ H) (hv : All2 (ArgR X.K G σ) as vs) (hM : Mat l1 as (args a) is) (nd : is.Nodup) (em : maskOf as = mask) (hp : pre a)
    (k : ∀ v G' H' r o, Ex G G' → Rp.rp X.K G' v r → post a r o → (∀ l2, Puts l1 is (outs a o) l2 → EnvOk X.K B m l2 G' σ H') → Q v H') : spT X.K mask args pre outs post vs H Q E := by
  obtain ⟨fp, F, E1, Z, M⟩ := E1
  obtain ⟨fc, r, p, hR, E2, q1, q2, q3⟩ := mat_split hM nd (fun _ _ => rfl) E1 hv
  have F1 := F.perm p.symm
  have F2 := F1.subl
  subst em
  refine ⟨a, G, fc, F.ex, F2.nd, fun x hx => (F2.un x hx).1, hR, q1, by unfold maskOf; rw [List.length_map]; exact hv.len, hp, fun v H' ⟨G', r', o, ⟨fq, F', l', σ', E', el, eσ⟩, rr, hpo⟩ => ?_⟩
  subst el eσ
  refine k v G' H' r' o F'.g0 rr hpo fun l2 hp2 => ?_
  have Fc := F1.call F'
  have E3 : Env X.K G' H' (hole l1 is) σ r := E2.mono F'.g0 fun a ha => by
    cases q : H a with
    | none => exact absurd q (F1.un a (List.mem_append_right _ ha)).2.1
    | some o => exact F'.keep a o q fun hm => (List.nodup_append.mp F1.nd).2.2 a hm a ha rfl
  obtain ⟨d, fp', pp, E4⟩ := fill hp2 nd q3 q2 E3 E'
  refine ⟨fp', (Fc.perm pp.symm).sub, E4, Z, M.g.trans F'.g0, fun q hq => ?_⟩
  obtain ⟨h1, h2, h3⟩ := M.h q hq
  have nc : q.1 ∉ fc := fun z => h3 (p.mem_iff.mpr (List.mem_append_left _ z))
  refine ⟨F'.keep _ _ h1 nc, F'.gn _ (fun z => by have z' : H q.1 = none := z; rw [h1] at z'; cases z') h2, fun z => ?_⟩
  have z1 : q.1 ∈ fq ++ r := pp.mem_iff.mpr (List.mem_append_right _ z)
  rcases List.mem_append.mp z1 with z2 | z2
  · rcases (F'.un _ z2).2.2 with w | w
    · have w' : H q.1 = none := w
      rw [h1] at w'; cases w'
    · exact nc w
  · exact h3 (p.mem_iff.mpr (List.mem_append_right _ z2))
theorem je_call {A R O : Type} [Rp R] {mask : List Bool} {args : A → List SD} {pre : A → Prop} {outs : A → O → List SD} {post : A → R → O → Prop} {CX : CXT} {k : Nat} {f : Addr} {fd : FuncData} {ps : List Str} {x : Str} {Φ : R → En → Prop}
    (F : FnOk X.prog X.w X.K X.mg X.base CX k f fd ps (spT X.K mask args pre outs post)) (hr : Room k X.A) (hm : X.mg x = some (.ref f)) (hk : PySem.W.keepIn X.K (.ref f) = true) (hb : Binds X.K fd ps []) (hx : Passes CX X E0)
    (h : JA X B m (e :: es) l fun as l1 => ∃ (a : A) (is : List Nat), Mat l1 as (args a) is ∧ is.Nodup ∧ maskOf as = mask ∧ pre a ∧ ∀ r o, post a r o → ∃ l2, Puts l1 is (outs a o) l2 ∧ Φ r l2)
    (hg : Gl X x := by rfl) (hdb : (x == ("__debug__" : Str)) = false := by decide) (he : starEach (e :: es) X.env = (false, eval e X.env) :: starEach es X.env := by rfl) (hpl : (backTo pos (starEach es X.env)).any (·.1) = false := by rfl) :
    JE X B m (.Call (.Name x p1) (e :: es) [] pos) l Φ :=
  (pe_call F hr hg hm hk hb .nil hx h hdb he hpl).imp fun σ H Q ⟨G, E, k⟩ => ⟨G, E, fun vs G1 H1 as l1 e1 E1 r1 ⟨a, is, hM, nd, em, hp, hΦ⟩ => by
    show spT X.K mask args pre outs post (vs ++ []) H1 Q E0
    rw [List.append_nil]
    refine call_sp E1 r1 hM nd em hp fun v G2 H2 r o e2 rr hpo hE => ?_
    obtain ⟨l2, hP, hφ⟩ := hΦ r o hpo
    exact k v G2 H2 r l2 (e1.trans e2) (hE l2 hP) rr hφ⟩
/-- a call of a def without own arguments -/
theorem mat_vals {l : En} : ∀ {ss : List SD}, Mat l (vals ss) ss []
  | [] => .nil
  | _ :: ss => .val (mat_vals (ss := ss))
end
end Tyl
end
section
namespace Tyl
open PySem PySem.Spec PyProof.Rows L2
section
variable {X : Cx} {ow : List Nat} {B : Base ow} {m : Mi}
/-! ### comprehensions: the block -/
abbrev Bk (X : Cx) (scope : Scope) (s : Shared) (H : Hp) (C : Addr) (cl : List (Str × Addr)) (fp : List Addr) : Cx := X.blk s H scope (compEnvC scope cl C X.env) fp
def JEb {α : Type} [Rp α] (X : Cx) (scope : Scope) (B : Base ow) (m : Mi) (e : Expr) (l : En) (Φ : α → En → Prop) : Prop := ∀ s H C cl fp, JE (Bk X scope s H C cl fp) B m e l Φ
def JTsb (X : Cx) (scope : Scope) (B : Base ow) (m : Mi) (ifs : List Expr) (l : En) (Φ : Bool → En → Prop) : Prop := ∀ s H C cl fp, PTs (Bk X scope s H C cl fp) ifs (tJT X.K B m l Φ)
def anyEb (X : Cx) (scope : Scope) (e : Expr) : TE := fun σ H Q => ∃ t, (∀ s H C cl fp, PE (Bk X scope s H C cl fp) e t) ∧ t σ H Q
def anyTsb (X : Cx) (scope : Scope) (ifs : List Expr) : TT := fun σ H Q => ∃ t, (∀ s H C cl fp, PTs (Bk X scope s H C cl fp) ifs t) ∧ t σ H Q
theorem pe_anyb {scope : Scope} {e : Expr} : ∀ s H C cl fp, PE (Bk X scope s H C cl fp) e (anyEb X scope e) := fun s H C cl fp => ⟨fun pins s' σ H' Q I ⟨_, h, q⟩ => (h s H C cl fp).run pins s' σ H' Q I q⟩
theorem pts_anyb {scope : Scope} {e : List Expr} : ∀ s H C cl fp, PTs (Bk X scope s H C cl fp) e (anyTsb X scope e) := fun s H C cl fp => ⟨fun pins s' σ H' Q I ⟨_, h, q⟩ => (h s H C cl fp).run pins s' σ H' Q I q⟩
theorem jts_nil {scope : Scope} {l : En} {Φ : Bool → En → Prop} (h : Φ true l) : JTsb X scope B m [] l Φ := fun s H C cl fp => ⟨fun pins s' σ H' Q I ⟨G, E, k⟩ => pts_nil.run pins s' σ H' Q I (k G H' true l (Ex.refl G) E h)⟩
theorem jts_one {scope : Scope} {c : Expr} {l : En} {Φ : Bool → En → Prop} (h : ∀ s H C cl fp, JT (Bk X scope s H C cl fp) B m c l Φ) : JTsb X scope B m [c] l Φ := fun s H C cl fp => pts_one (h s H C cl fp)
/-! ### slots of the block's own names -/
def Nn (l : En) (vs : List Nat) : Prop := ∀ j ∈ vs, l[j]? = some none
theorem Env.wipe1 {K : Fg} {G H : Hp} {l : En} {σ : L2.St} {fp : List Addr} (h : Env K G H l σ fp) : ∀ {j : Nat} {o : Option V}, l[j]? = some none → Env K G H l (σ.set j o) fp := by
  induction h with
  | nil => intro j o e; simp at e
  | junk h ih =>
    intro j o e
    cases j with
    | zero => exact .junk h
    | succ j => exact .junk (ih (by simpa using e))
  | cons h1 h ih =>
    intro j o e
    cases j with
    | zero => simp at e
    | succ j => exact .cons h1 (ih (by simpa using e))
theorem Env.wipe {K : Fg} {G H : Hp} {l : En} {σ : L2.St} {fp : List Addr} (h : Env K G H l σ fp) : ∀ {vs : List Nat}, Nn l vs → Env K G H l (L2.wipe σ vs) fp
  | [], _ => h
  | v :: vs, n => (Env.wipe h (vs := vs) fun j hj => n j (List.mem_cons_of_mem _ hj)).wipe1 (n v List.mem_cons_self)
theorem Env.get_none {K : Fg} {G H : Hp} {l : En} {σ σ' : L2.St} {fp : List Addr} (h : Env K G H l σ fp) : σ'.length = σ.length → (∀ j : Nat, l[j]? ≠ some none → σ'[j]? = σ[j]?) → Env K G H l σ' fp := by
  induction h generalizing σ' with
  | nil =>
    intro hl _
    match σ', hl with
    | [], _ => exact .nil
  | junk h ih =>
    intro hl he
    match σ', hl with
    | o :: σ', hl => exact .junk (ih (by simpa using hl) fun j hj => by simpa using he (j + 1) (by simpa using hj))
  | @cons s v f l σ fs h1 h ih =>
    intro hl he
    match σ', hl with
    | o :: σ', hl =>
      have e0 : o = some v := by simpa using he 0 (by simp)
      subst e0
      exact .cons h1 (ih (by simpa using hl) fun j hj => by simpa using he (j + 1) (by simpa using hj))
theorem wipe_at {σ : L2.St} {j : Nat} : ∀ {vs : List Nat}, j ∉ vs → (L2.wipe σ vs)[j]? = σ[j]?
  | [], _ => rfl
  | v :: vs, h => by
    show ((L2.wipe σ vs).set v none)[j]? = _
    rw [List.getElem?_set_ne (fun q => h (by rw [q]; exact List.mem_cons_self))]
    exact wipe_at fun q => h (List.mem_cons_of_mem _ q)
theorem Env.unwipe {K : Fg} {G H : Hp} {l : En} {σ σ2 : L2.St} {fp : List Addr} {vs : List Nat} (h : Env K G H l σ2 fp) (n : Nn l vs) (e : L2.wipe σ2 vs = L2.wipe σ vs) : Env K G H l σ fp := by
  refine h.get_none ?_ fun j hj => ?_
  · rw [← wipe_length σ vs, ← e, wipe_length]
  · have nj : j ∉ vs := fun q => hj (n j q)
    rw [← wipe_at (σ := σ) nj, ← e, wipe_at nj]
theorem wipe_set {σ : L2.St} {j : Nat} {x : Option V} : ∀ {vs : List Nat}, j ∈ vs → L2.wipe (σ.set j x) vs = L2.wipe σ vs
  | v :: vs, h => by
    show (L2.wipe (σ.set j x) vs).set v none = (L2.wipe σ vs).set v none
    by_cases hm : j ∈ vs
    · rw [wipe_set hm]
    · have e : j = v := by
        rcases List.mem_cons.mp h with q | q
        · exact q
        · exact absurd q hm
      subst e
      have c : ∀ (ws : List Nat), j ∉ ws → L2.wipe (σ.set j x) ws = (L2.wipe σ ws).set j x := by
        intro ws
        induction ws with
        | nil => intro _; rfl
        | cons w ws ih =>
          intro hw
          show (L2.wipe (σ.set j x) ws).set w none = ((L2.wipe σ ws).set w none).set j x
          rw [ih fun q => hw (List.mem_cons_of_mem _ q), List.set_comm _ _ (fun q => hw (by rw [q]; exact List.mem_cons_self))]
      rw [c vs hm, List.set_set]
theorem wipe_wipe {σ : L2.St} : ∀ {vs ws : List Nat}, (∀ v ∈ vs, v ∈ ws) → L2.wipe (L2.wipe σ vs) ws = L2.wipe σ ws
  | [], _, _ => rfl
  | v :: vs, ws, h => by
    show L2.wipe ((L2.wipe σ vs).set v none) ws = _
    rw [wipe_set (h v List.mem_cons_self)]
    exact wipe_wipe fun u hu => h u (List.mem_cons_of_mem _ hu)
theorem Base.Fix.wipe {σ : L2.St} (F : B.Fix σ) : ∀ {vs : List Nat}, (∀ v ∈ vs, v ∉ ow) → B.Fix (L2.wipe σ vs)
  | [], _ => F
  | v :: vs, h => (Base.Fix.wipe F (vs := vs) fun u hu => h u (List.mem_cons_of_mem _ hu)).set (h v List.mem_cons_self) none
section
variable {K : Fg} {l : En} {G H : Hp} {σ σ2 : L2.St} {vs : List Nat}
theorem EnvOk.wipe (E : EnvOk K B m l G σ H) (n : Nn l vs) (hv : ∀ v ∈ vs, v ∉ ow) : EnvOk K B m l G (L2.wipe σ vs) H :=
  let ⟨fp, F, E, Z, M⟩ := E
  ⟨fp, F, E.wipe n, Z.wipe hv, M⟩
theorem EnvOk.unwipe (E : EnvOk K B m l G σ2 H) (n : Nn l vs) (e : L2.wipe σ2 vs = L2.wipe σ vs) (Z : B.Fix σ) : EnvOk K B m l G σ H :=
  let ⟨fp, F, E, _, M⟩ := E
  ⟨fp, F, E.unwipe n e, Z, M⟩
/-- a thing laid aside is written -/
theorem EnvOk.hidW {g : Hp} {h : List (Addr × HO)} {p : Addr} {o u : HO} (E : EnvOk K B ⟨g, (p, o) :: h⟩ l G σ H) (nb : B.H p = none) (out : ∀ q ∈ h, q.1 ≠ p) : EnvOk K B ⟨g, (p, u) :: h⟩ l G σ (upd H p u) := by
  obtain ⟨fp, F, E, Z, M⟩ := E
  obtain ⟨h1, h2, h3⟩ := M.h _ List.mem_cons_self
  have nf : ∀ a ∈ fp, a ≠ p := fun a ha e => h3 (by rw [← e]; exact ha)
  refine ⟨fp, ⟨F.ex.new h2, F.g0, F.gn, fun a o ha hb => ?_, fun a ha => ?_, F.nd, fun a ha => ?_⟩, E.mono (Ex.refl _) fun a ha => upd_ne (nf a ha), Z, M.g, fun q hq => ?_⟩
  · have ne : a ≠ p := fun e => by rw [e, nb] at ha; cases ha
    rw [upd_ne ne]
    exact F.keep a o ha hb
  · have ne : a ≠ p := fun e => ha (by rw [e]; exact nb)
    rw [upd_ne ne]
    exact F.dom a ha
  · obtain ⟨u1, u2, u3⟩ := F.un a ha
    rw [upd_ne (nf a ha)]
    exact ⟨u1, u2, u3⟩
  · rcases List.mem_cons.mp hq with e | hq
    · subst e
      exact ⟨upd_same, h2, h3⟩
    · obtain ⟨a, b, c⟩ := M.h q (List.mem_cons_of_mem _ hq)
      exact ⟨by rw [upd_ne (out q hq)]; exact a, b, c⟩
end
/-! ### targets in a block -/
def gTw {α : Type} [Rp α] (K : Fg) (B : Base ow) (m : Mi) (R : En → α → En → Prop) (vs : List Nat) : TG := fun v σ H Q => ∃ G l d l', EnvOk K B m l G σ H ∧ Rp.rp K G v d ∧ R l d l' ∧ ∀ σ', EnvOk K B m l' G σ' H → L2.wipe σ' vs = L2.wipe σ vs → Q σ' H
section
variable {α β γ : Type} [Rp α] [Rp β] [Rp γ] {pos p1 p2 p3 : Pos} {vs : List Nat}
theorem tw_name {i : Nat} {x : Str} (hN : X.N.Nodup) (hw : i ∉ ow) (hv : i ∈ vs) (hi : X.N[i]? = some x := by rfl) (hx : Loc X.env.scope x := by first | exact Or.inl rfl | exact Or.inr rfl) (hf : X.fn x = true ∨ X.env.scope.names.lookup x = some .local := by first | exact .inl rfl | exact .inr rfl) :
    PG X (.Name x pos) (gTw (α := α) X.K B m (R1 i) vs) :=
  (pg_name (i := i) hN hi hx hf).imp fun v σ H Q ⟨G, l, d, l', E, r, p, k⟩ => k _ (E.put r p hw) (wipe_set hv)
theorem tw_pair {i j : Nat} {x y : Str} {k} (hc : X.calm = true) (hN : X.N.Nodup) (hw : i ∉ ow) (hw2 : j ∉ ow) (hv : i ∈ vs) (hv2 : j ∈ vs) (hi : X.N[i]? = some x := by rfl) (hj : X.N[j]? = some y := by rfl) (hx : Loc X.env.scope x := by first | exact Or.inl rfl | exact Or.inr rfl) (hy : Loc X.env.scope y := by first | exact Or.inl rfl | exact Or.inr rfl)
    (hf : X.fn x = true ∨ X.env.scope.names.lookup x = some .local := by first | exact .inl rfl | exact .inr rfl) (hf2 : X.fn y = true ∨ X.env.scope.names.lookup y = some .local := by first | exact .inl rfl | exact .inr rfl)
    (hs1 : (assignEach [Expr.Name x p1, .Name y p2] X.env).map (·.2) = assign (.Name x p1) X.env :: (assignEach [Expr.Name y p2] X.env).map (·.2) := by rfl) (hs2 : (assignEach [Expr.Name y p2] X.env).map (·.2) = assign (.Name y p2) X.env :: (assignEach [] X.env).map (·.2) := by rfl)
    (hn : (assignEach [Expr.Name x p1, .Name y p2] X.env).length = 2 := by rfl) (hst : (assignEach [Expr.Name x p1, .Name y p2] X.env).findIdx? (·.1) = none := by rfl) :
    PG X (.Tuple [.Name x p1, .Name y p2] k pos) (gTw (α := α × β) X.K B m (R2p i j) vs) :=
  (pg_tup (n := 2) hc (pgs_cons (pg_name (i := i) hN hi hx hf) (pgs_cons (pg_name (i := j) hN hj hy hf2) pgs_nil hs2) hs1) hn hst).imp fun v σ H Q ⟨G, l, d, l', E, r, ⟨l1, h1, h2⟩, k⟩ => by
    obtain ⟨p, u, w, rfl, hp, r1, r2⟩ := r
    refine ⟨p, [u, w], rfl, SqT.of (E.ex _ _ hp), rfl, u, [w], rfl, w, [], rfl, rfl, ?_⟩
    exact k _ ((E.put r1 h1 hw).put r2 h2 hw2) (by rw [wipe_set hv2, wipe_set hv])
end
end
end Tyl
end
section
namespace Tyl
open PySem PySem.Spec PyProof.Rows L2
/-! ### several clauses: each level of the loop with its body as a letter -/
section
variable {prog : Program} {w : World} {A : Around} {R : Result → Shared → Prop} {s : Shared} {cp t0 i0 : Expr} {ifs0 : List Expr} {it acc : Value} {env : PySem.Env} {k : Nat} {W : Sem PySem.Fin → Sem PySem.Fin}
/-- what a turn does, W in the place of the inner part -/
def TurnIs (cp : Expr) (k : Nat) (it acc : Value) (env : PySem.Env) (i0 t0 : Expr) (ifs0 : List Expr) (W : Sem PySem.Fin → Sem PySem.Fin) : Prop :=
  compTurn cp k it acc env = (standAt i0.pos >>= fun _ => pyNext it >>= fun r => match r with
    | none => pure (.done .next)
    | some v => letOwnedTupleGo t0 it v >>= fun _ => assign t0 env v >>= fun _ =>
        forIn ifs0 true (fun c r => if r = true then do let ok ← isTrue c env (eval c env); pure (ForInStep.yield ok) else pure (ForInStep.yield r)) >>= fun ok =>
          if ok = true then W (again (.compLoop cp k it acc env)) else again (.compLoop cp k it acc env))
/-- the inner clause's start -/
def InnerW (cp i1 : Expr) (k : Nat) (acc : Value) (env : PySem.Env) (K : Sem PySem.Fin) : Sem PySem.Fin := do
  let x ← eval i1 env
  standAt i1.pos
  let x ← foldedSetIterable i1 env x
  let _ ← runOwn (.compStart cp k (← holding [x] (pyIter x)) acc env) env
  K
def LastW (elt : Expr) (acc : Value) (env : PySem.Env) (K : Sem PySem.Fin) : Sem PySem.Fin := do
  (do let _ ← call (.builtin "list.append") [acc, ← eval elt env])
  K
theorem turn3_0 (elt t0 i0 t1 i1 t2 i2 : Expr) (f0 f1 f2 : List Expr) (sc : Scope) (pos : Pos) : TurnIs (.ListComp elt [⟨t0, i0, f0, 0⟩, ⟨t1, i1, f1, 0⟩, ⟨t2, i2, f2, 0⟩] sc pos) 0 it acc env i0 t0 f0 (InnerW (.ListComp elt [⟨t0, i0, f0, 0⟩, ⟨t1, i1, f1, 0⟩, ⟨t2, i2, f2, 0⟩] sc pos) i1 1 acc env) := by rfl
theorem turn3_1 (elt t0 i0 t1 i1 t2 i2 : Expr) (f0 f1 f2 : List Expr) (sc : Scope) (pos : Pos) : TurnIs (.ListComp elt [⟨t0, i0, f0, 0⟩, ⟨t1, i1, f1, 0⟩, ⟨t2, i2, f2, 0⟩] sc pos) 1 it acc env i1 t1 f1 (InnerW (.ListComp elt [⟨t0, i0, f0, 0⟩, ⟨t1, i1, f1, 0⟩, ⟨t2, i2, f2, 0⟩] sc pos) i2 2 acc env) := by rfl
theorem turn3_2 (elt t0 i0 t1 i1 t2 i2 : Expr) (f0 f1 f2 : List Expr) (sc : Scope) (pos : Pos) : TurnIs (.ListComp elt [⟨t0, i0, f0, 0⟩, ⟨t1, i1, f1, 0⟩, ⟨t2, i2, f2, 0⟩] sc pos) 2 it acc env i2 t2 f2 (LastW elt acc env) := by rfl
theorem turn2_0 (elt t0 i0 t1 i1 : Expr) (f0 f1 : List Expr) (sc : Scope) (pos : Pos) : TurnIs (.ListComp elt [⟨t0, i0, f0, 0⟩, ⟨t1, i1, f1, 0⟩] sc pos) 0 it acc env i0 t0 f0 (InnerW (.ListComp elt [⟨t0, i0, f0, 0⟩, ⟨t1, i1, f1, 0⟩] sc pos) i1 1 acc env) := by rfl
theorem turn2_1 (elt t0 i0 t1 i1 : Expr) (f0 f1 : List Expr) (sc : Scope) (pos : Pos) : TurnIs (.ListComp elt [⟨t0, i0, f0, 0⟩, ⟨t1, i1, f1, 0⟩] sc pos) 1 it acc env i1 t1 f1 (LastW elt acc env) := by rfl
/-- a level's loop, nothing raised -/
theorem loopG (hcp : ∃ e gs sc pos, cp = .ListComp e gs sc pos) (ht : TurnIs cp k it acc env i0 t0 ifs0 W) (I : Nat → Shared → Prop)
    (turn : ∀ n s, I n s → wpAny (model prog w) A (pyNext it) (fun r s1 => match r with
      | none => R (.ok .next) s1
      | some v => wpAny (model prog w) A (letOwnedTupleGo t0 it v >>= fun _ => assign t0 env v >>= fun _ =>
        forIn ifs0 true (fun c r => if r = true then do let ok ← isTrue c env (eval c env); pure (ForInStep.yield ok) else pure (ForInStep.yield r)) >>= fun ok =>
          if ok = true then W (again (.compLoop cp k it acc env)) else again (.compLoop cp k it acc env)) (fun fin s' => fin = .again (.compLoop cp k it acc env) ∧ ∃ m, m < n ∧ I m s') (fun _ _ => False) s1) (fun _ _ => False) s)
    (n : Nat) (h : I n s) : codeAny (model prog w) A (.compLoop cp k it acc env) R s := by
  refine codeAny_loop rfl I (fun n s hI => ?_) n h
  obtain ⟨e, gs, sc, pos, rfl⟩ := hcp
  show wpAny _ A ((compTurn (.ListComp e gs sc pos) k it acc env).onRaise (fun x => do noteFrame x env; theTreesLotGoes x)) _ _ s
  refine wpAny_noted ?_
  rw [ht]
  refine wpAny_bind (wpAny_standAt (wpAny_bind (thnF (turn n s hI) fun r s1 h1 => ?_)))
  cases r with
  | none => exact wpAny_pure h1
  | some v => exact thnF h1 fun fin s' ⟨e, m, hm, im⟩ => by subst e; exact ⟨rfl, m, hm, im⟩
end
/-! ### a level over the layer -/
abbrev TQ := L2.St → Hp → (Hp → Prop) → Prop
/-- the inner part of a turn: behind it the slots vs are forgotten -/
structure PB (X : Cx) (Wf : Sem PySem.Fin → Sem PySem.Fin) (vs : List Nat) (t : TQ) : Prop where
  run : ∀ (K : Sem PySem.Fin) (pins : List (Addr × Obj)) (s : Shared) (σ : L2.St) (H : Hp) (Nx : Hp → Prop) (Q : PySem.Fin → Shared → Prop), Inv X pins σ H s → t σ H Nx →
    (∀ H' s', Inv X pins (L2.wipe σ vs) H' s' → Nx H' → wpAny (model X.prog X.w) X.A K Q (fun _ _ => False) s') → wpAny (model X.prog X.w) X.A (Wf K) Q (fun _ _ => False) s
def tLast (te : TE) (D : Addr) : TQ := fun σ H Nx => te σ H fun y H1 => ∃ acc, H1 D = some (.lst acc) ∧ acc.length < sizeLine ∧ Nx (upd H1 D (.lst (acc ++ [y])))
theorem pb_last {X : Cx} {elt : Expr} {te : TE} {D : Addr} (hx : X.xe = fun _ _ => False) (he : PE X elt te) : PB X (LastW elt (.ref D) X.env) [] (tLast te D) := by
  refine ⟨fun K pins s σ H Nx Q I h k => ?_⟩
  unfold LastW
  have r := he.run pins s σ H _ I h
  rw [hx] at r
  refine wpAny_bind (wpAny_bind (thnF r fun v s1 ⟨y, H1, I1, r1, acc, hD, hz, nx⟩ => ?_))
  refine wpAny_bind (app_ok I1 hD hz r1 fun s2 I2 => ?_)
  exact wpAny_pure (k _ s2 I2 nx)
/-- for tg in iter if ..: the part tb, until the end -/
def tLev (wi : TI) (g : TG) (tt : TT) (tb : TQ) (vs : List Nat) : TQ := fun σ H Nx => wi σ H fun J H1 => ∃ W : Nat → Nat → Hp → Prop, (∃ m, W 0 m H1) ∧ ∀ i m H, W i m H →
  (J.stop i H ∧ Nx H) ∨ (J.go i H ∧ ∃ Nx1 : Hp → Prop, (∀ H', Nx1 H' → ∃ m', m' < m ∧ W (i + 1) m' H') ∧ ∀ x H', J.yld i H x H' → g x (L2.wipe σ vs) H' fun σ2 H2 => L2.wipe σ2 vs = L2.wipe σ vs ∧ tt σ2 H2 fun b H3 => if b = true then tb σ2 H3 Nx1 else Nx1 H3)
theorem wipe_keep {σ : L2.St} {vs vs' : List Nat} (hs : ∀ v ∈ vs', v ∈ vs) (j : Nat) (v : V) (h : (L2.wipe σ vs)[j]? = some (some v)) : (L2.wipe σ vs')[j]? = some (some v) := by
  obtain ⟨h1, h2⟩ := wipe_some h
  rw [wipe_at fun q => h2 (hs j q)]
  exact h1
/-- the loop's turns, over the layer -/
theorem lev_loop {X : Cx} {tg iter cp : Expr} {ifs : List Expr} {k : Nat} {g : TG} {tt : TT} {tb : TQ} {vs vs' : List Nat} {Wf : Sem PySem.Fin → Sem PySem.Fin} {acc : Value} {pins : List (Addr × Obj)} {σ : L2.St} {H : Hp} {s : Shared} {Nx : Hp → Prop} {R : Result → Shared → Prop} {it : Addr} {fp : List Addr}
    {tn : Nat → Heap → Prop} {J : It} (hcp : ∃ e gs sc pos, cp = .ListComp e gs sc pos) (hx : X.xe = fun _ _ => False) (hc : X.calm = true) (hg : PG X tg g) (ht : PTs X ifs tt) (hb : PB X Wf vs' tb) (hs : ∀ v ∈ vs', v ∈ vs) (hT : TurnIs cp k (.ref it) acc X.env iter tg ifs Wf)
    (I : Inv X pins σ H s) (T : Turn X.prog X.w X.K tg J fp it tn) (st : tn 0 s.heap) (f : ∀ b ∈ fp, FpOk X pins H b)
    (q : ∃ W : Nat → Nat → Hp → Prop, (∃ m, W 0 m H) ∧ ∀ i m H, W i m H →
      (J.stop i H ∧ Nx H) ∨ (J.go i H ∧ ∃ Nx1 : Hp → Prop, (∀ H', Nx1 H' → ∃ m', m' < m ∧ W (i + 1) m' H') ∧ ∀ x H', J.yld i H x H' → g x (L2.wipe σ vs) H' fun σ2 H2 => L2.wipe σ2 vs = L2.wipe σ vs ∧ tt σ2 H2 fun b H3 => if b = true then tb σ2 H3 Nx1 else Nx1 H3))
    (hR : ∀ H' s', Inv X pins (L2.wipe σ vs) H' s' → Nx H' → (∀ b ∈ fp, H' b = none) → R (.ok .next) s') : codeAny (model X.prog X.w) X.A (.compLoop cp k (.ref it) acc X.env) R s := by
  obtain ⟨W, ⟨m0, w0⟩, turn⟩ := q
  have stat : ∀ {H' : Hp}, (∀ b ∈ fp, H' b = none) → ∀ b ∈ fp, FpOk X pins H' b := fun hn b hb => ⟨hn b hb, (f b hb).2⟩
  refine loopG hcp hT (fun n s' => ∃ i H', Inv X pins (L2.wipe σ vs) H' s' ∧ tn i s'.heap ∧ (∀ b ∈ fp, H' b = none) ∧ W i n H') ?_ m0 ⟨0, H, I.weak (wipe_length _ _) (fun j v e => (wipe_some e).1), st, fun b hb => (f b hb).1, w0⟩
  rintro n s1 ⟨i, H1, I1, st1, n1, w1⟩
  rcases turn i n H1 w1 with ⟨stop, nx⟩ | ⟨go, Nx1, hNx, step⟩
  · refine thnF (T.done X rfl rfl rfl hc i pins s1 _ H1 (fun _ _ => False) I1 (stat n1) st1 stop) fun r s2 ⟨hr, I2⟩ => ?_
    subst hr
    exact hR _ _ I2 nx n1
  · refine thnF (T.item X rfl rfl rfl hc i pins s1 _ H1 (fun _ _ => False) I1 (stat n1) st1 go) fun r s2 ⟨u, hr, h2⟩ => ?_
    subst hr
    refine wpAny_bind (thnF h2 fun _ s3 ⟨x, H3, I3, r3, y3, st3, n3⟩ => ?_)
    have I3' := I3.pinned (stat n3) (T.obj _ _ st3)
    have rg := hg.run _ s3 _ H3 x u _ I3' r3 (step x H3 y3)
    rw [hx] at rg
    refine wpAny_bind (thnF rg fun _ s4 ⟨σ4, H4, I4, hw4, q4⟩ => ?_)
    have rt := ht.run _ s4 σ4 H4 _ I4 q4
    rw [hx] at rt
    refine wpAny_bind (thnF rt fun b s5 ⟨H5, I5, q5⟩ => ?_)
    have fin : ∀ {σ6 : L2.St} {s' : Shared} {H' : Hp}, Inv X (pins ++ pinsAt fp s3.heap) σ6 H' s' → (L2.wipe σ vs).length = σ6.length → (∀ (j : Nat) v, (L2.wipe σ vs)[j]? = some (some v) → σ6[j]? = some (some v)) → Nx1 H' →
        wpAny (model X.prog X.w) X.A (again (.compLoop cp k (.ref it) acc X.env)) (fun fin s' => fin = .again (.compLoop cp k (.ref it) acc X.env) ∧ ∃ m, m < n ∧ ∃ i H', Inv X pins (L2.wipe σ vs) H' s' ∧ tn i s'.heap ∧ (∀ b ∈ fp, H' b = none) ∧ W i m H') (fun _ _ => False) s' := fun {σ6 s' H'} I' hl hk nx => by
      obtain ⟨m', hm, w'⟩ := hNx H' nx
      have pin' : ∀ b ∈ fp, ∀ o, s3.heap.get? b = some o → s'.heap.get? b = some o ∧ H' b = none := fun b hb o e =>
        let z := I'.pin (b, o) (List.mem_append_right _ (List.mem_append_right _ (mem_pinsAt hb e)))
        ⟨z.1, z.2.1⟩
      refine wpAny_pure ⟨rfl, m', hm, i + 1, H', I'.unpinned.weak hl hk, T.keep _ _ _ st3 fun b hb o e => (pin' b hb o e).1, fun b hb => ?_, w'⟩
      obtain ⟨o, e, _⟩ := T.obj _ _ st3 b hb
      exact (pin' b hb o e).2
    have hl4 : (L2.wipe σ vs).length = σ4.length := by rw [← hw4, wipe_length]
    cases b with
    | false =>
      rw [if_neg Bool.false_ne_true]
      have q5' : Nx1 H5 := q5
      exact fin I5 hl4 (fun j v e => by rw [← hw4] at e; exact (wipe_some e).1) q5'
    | true =>
      rw [if_pos rfl]
      have q5' : tb σ4 H5 Nx1 := q5
      refine hb.run _ _ s5 σ4 H5 Nx1 _ I5 q5' fun H6 s6 I6 nx => ?_
      exact fin I6 (hl4.trans (wipe_length σ4 vs').symm) (fun j v e => by rw [← hw4] at e; exact wipe_keep hs j v e) nx
/-- an inner clause -/
theorem pb_level {X : Cx} {tg iter cp : Expr} {ifs : List Expr} {k : Nat} {wi : TI} {g : TG} {tt : TT} {tb : TQ} {vs vs' : List Nat} {Wf : Sem PySem.Fin → Sem PySem.Fin} {acc : Value} (hcp : ∃ e gs sc pos, cp = .ListComp e gs sc pos) (hx : X.xe = fun _ _ => False) (hc : X.calm = true) (hi : PI X tg iter wi) (hg : PG X tg g) (ht : PTs X ifs tt) (hb : PB X Wf vs' tb)
    (hs : ∀ v ∈ vs', v ∈ vs) (hf : ∀ x, foldedSetIterable iter X.env x = pure x) (hT : ∀ it, TurnIs cp k it acc X.env iter tg ifs Wf)
    (hst : ∀ (it : Value) (R : Result → Shared → Prop) (s : Shared), codeAny (model X.prog X.w) X.A (.compLoop cp k it acc X.env) R s → wpAny (model X.prog X.w) X.A (pyIter it) (fun it' s' => codeAny (model X.prog X.w) X.A (.compLoop cp k it' acc X.env) R s') (notedBy (model X.prog X.w) X.A X.env fun x s' => R (.error x) s') s →
      codeAny (model X.prog X.w) X.A (.compStart cp k it acc X.env) R s) : PB X (InnerW cp iter k acc X.env) vs (tLev wi g tt tb vs) := by
  refine ⟨fun K pins s σ H Nx Q I h kk => ?_⟩
  unfold InnerW
  have r := hi.run pins s σ H _ I h
  rw [hx] at r
  refine wpAny_bind (thnF r fun xv s1 h1 => wpAny_bind (wpAny_standAt (wpAny_bind (wpAny_of_eq (hf xv) (wpAny_bind (wpAny_holding (thnF h1 fun itv s2 h2 => ?_)))))))
  obtain ⟨it, fp, tn, J, H2, e, I2, T, st2, f2, q⟩ := h2
  subst e
  refine wpAny_bind (wpAny_runOwn ?_)
  rw [Around.mark_none]
  have loop := lev_loop (R := fun r s' => match r with
    | .ok _ => wpAny (model X.prog X.w) X.A K Q (fun _ _ => False) s'
    | .error _ => False) hcp hx hc hg ht hb hs (hT (.ref it)) I2 T st2 f2 q fun H' s' I' nx _ => kk H' s' I' nx
  refine codeAny_mono (hst _ _ _ loop (T.self X.A 0 _ _ _ st2 loop)) fun r s' hr => ?_
  cases r with
  | ok f => first | exact hr | exact wpAny_pure hr
  | error e => exact hr.elim
end Tyl
end
section
namespace Tyl
open PySem PySem.Spec PyProof.Rows L2
section
variable {X : Cx}
/-- a comprehension of several clauses: tb D the inner part, D the new list -/
def tLcN (wi : TI) (g : TG) (tt : TT) (tb : Addr → TQ) (vs : List Nat) : TE := fun σ H Q => wi σ H fun J H1 => ∀ D, H1 D = none → ∃ W : Nat → Nat → Hp → Prop, (∃ m, W 0 m (upd H1 D (.lst []))) ∧ ∀ i m H, W i m H →
  (J.stop i H ∧ Q (.ref D) H) ∨ (J.go i H ∧ ∃ Nx1 : Hp → Prop, (∀ H', Nx1 H' → ∃ m', m' < m ∧ W (i + 1) m' H') ∧ ∀ x H', J.yld i H x H' → g x (L2.wipe σ vs) H' fun σ2 H2 => L2.wipe σ2 vs = L2.wipe σ vs ∧ tt σ2 H2 fun b H3 => if b = true then tb D σ2 H3 Nx1 else Nx1 H3)
section
variable {elt tg iter : Expr} {ifs : List Expr} {gs : List Comprehension} {scope : Scope} {nm : List (Str × Nat)} {pos : Pos} {wi : TI} {g : TG} {tt : TT} {tb : Addr → TQ} {vs' : List Nat} {Wf : Value → PySem.Env → Sem PySem.Fin → Sem PySem.Fin}
theorem lcN_core {pins : List (Addr × Obj)} {s : Shared} {σ : L2.St} {H : Hp} {Q : VK} {pos' : Pos} {use : Option (Value → Sem Unit)} {Qf : Value → Shared → Prop} (hc : X.calm = true) (hN : X.N.Nodup) (I : Inv X pins σ H s) (hi : PI X tg iter wi) (ok : BlkOk X.N X.env.scope scope nm)
    (hg : ∀ s H C cl fp, PG (Bk X scope s H C cl fp) tg g) (ht : ∀ s H C cl fp, PTs (Bk X scope s H C cl fp) ifs tt) (hb : ∀ s H C cl fp D, PB (Bk X scope s H C cl fp) (Wf (.ref D) (Bk X scope s H C cl fp).env) vs' (tb D)) (hv : ∀ v ∈ vs', v ∈ nm.map (·.2))
    (hs : ∀ x, foldedSetIterable iter X.env x = pure x) (hT : ∀ it acc env, TurnIs (.ListComp elt (⟨tg, iter, ifs, 0⟩ :: gs) scope pos) 0 it acc env iter tg ifs (Wf acc env)) (h : tLcN wi g tt tb (nm.map (·.2)) σ H Q)
    (hRR : ∀ D C s' m H', Inv X pins σ H' s' → Q (.ref D) H' → s'.heap.Ns C m → FpOk X pins H' C → compPost (model X.prog X.w) X.A X.xe use Qf (.ref D) C (.ok .next) s') :
    wpAny (model X.prog X.w) X.A (comprehension (.ListComp elt (⟨tg, iter, ifs, 0⟩ :: gs) scope pos) scope X.env pos' (newList []) false (eval iter X.env) use) Qf X.xe s := by
  have cells : ∀ y ∈ scope.names, y.2 = .free → ∃ c, X.env.cells.lookup y.1 = some c := fun y hy e => I.ok.has _ (ok.free y hy e)
  refine wpAny_comprehension_free (use := use) rfl hs (closure_ok cells) ok.kind (fun y hy e => by rw [ok.uniq y hy, e]) (thn (hi.run pins s σ H _ I h) fun xv s1 hx => thn hx fun itv s2 h2 => ?_)
  obtain ⟨it, fp, tn, J, H2, e, I2, T, st2, f2, q⟩ := h2
  subst e
  refine wpAny_newObj_type (newEnv_comp ?_) (by show 0 ≤ sizeLine; decide)
  have hDn : H2 s2.heap.objs.size = none := I2.hok.fresh (Nat.le_refl _)
  have qD := q _ hDn
  have old : ∀ b ∈ fp, b < s2.heap.objs.size := fun b hb => let ⟨o, e, _⟩ := T.obj _ _ st2 b hb; Heap.lt_size e
  -- the state with the new list
  have I3 : Inv X pins σ (upd H2 s2.heap.objs.size (.lst [])) { s2 with heap := s2.heap.push { cls := .type "list", data := .seq ([] : List Value).toArray } } :=
    I2.laid (t' := s2.toks) (fun b o e => Heap.get?_push_of_some _ e) (Nat.le_refl _) ⟨Nat.zero_le _, [], 0, .nil, Heap.get?_push_size _ rfl⟩
  have f3 : ∀ b ∈ fp, FpOk X pins (upd H2 s2.heap.objs.size (.lst [])) b ∧ b < (s2.heap.push { cls := .type "list", data := .seq ([] : List Value).toArray }).objs.size := fun b hb =>
    ⟨⟨by rw [upd_ne (Nat.ne_of_lt (old b hb))]; exact (f2 b hb).1, (f2 b hb).2⟩, by rw [Heap.size_push]; exact Nat.lt_succ_of_lt (old b hb)⟩
  have st3 : tn 0 (s2.heap.push { cls := .type "list", data := .seq ([] : List Value).toArray }) := T.keep _ _ _ st2 fun b _ o e => Heap.get?_push_of_some _ e
  generalize s2.heap.objs.size = D at hDn qD I3 f3
  generalize hs3 : ({ s2 with heap := s2.heap.push { cls := .type "list", data := .seq ([] : List Value).toArray } } : Shared) = s3 at I3 f3 st3
  have e3 : s3.heap = s2.heap.push { cls := .type "list", data := .seq ([] : List Value).toArray } := by rw [← hs3]
  rw [← e3] at st3
  have f3 : ∀ b ∈ fp, FpOk X pins (upd H2 D (.lst [])) b ∧ b < s3.heap.objs.size := fun b hb => ⟨(f3 b hb).1, by rw [e3]; exact (f3 b hb).2⟩
  -- the block
  have I4 := block_start I3 ok hN f3
  have st4 : tn 0 (pushCells (s3.heap.push { cls := .type "dict", data := .dict #[] }) scope.names) := T.keep _ _ _ st3 fun b _ o e => pushCells_keeps _ _ _ _ (Heap.get?_push_of_some _ e)
  have fb : ∀ b ∈ fp, FpOk (Bk X scope s3 (upd H2 D (.lst [])) s3.heap.objs.size (cellsFrom (s3.heap.objs.size + 1) scope.names (cloFrom X.env.cells scope.names [])) fp) [] (upd H2 D (.lst [])) b := fun b hb =>
    ⟨(f3 b hb).1.1, (I4.ok.exf b hb).1, I4.ok.exfs b hb, .inl hb, fun x c e => (I4.ok.exf b hb).2 x c e, fun p hp => absurd (show p ∈ ([] : List (Addr × Obj)) ++ [] from hp) (by simp)⟩
  have loop := lev_loop (X := Bk X scope s3 (upd H2 D (.lst [])) s3.heap.objs.size (cellsFrom (s3.heap.objs.size + 1) scope.names (cloFrom X.env.cells scope.names [])) fp) (Nx := fun H' => Q (.ref D) H') (R := compPost (model X.prog X.w) X.A X.xe use Qf (.ref D) s3.heap.objs.size) (cp := .ListComp elt (⟨tg, iter, ifs, 0⟩ :: gs) scope pos) (k := 0) (acc := .ref D) (vs := nm.map (·.2)) ⟨_, _, _, _, rfl⟩ rfl hc (hg _ _ _ _ _) (ht _ _ _ _ _) (hb _ _ _ _ _ D) hv (hT _ _ _) I4 T st4 fb
    (by rw [wipe_wipe fun _ h => h]; exact qD) fun H' s' I' nx nf => by
      rw [wipe_wipe fun _ h => h] at I'
      have I5 : Inv X pins σ H' s' := I3.call' (ch := fp) I'.os I'.base I'.hok I'.bare fun b hb => ⟨(f3 b hb).1.2.2.2.1, (f3 b hb).1.2.1, (f3 b hb).1.2.2.2.2.1, (f3 b hb).1.2.2.2.2.2⟩
      obtain ⟨mm, hn, _⟩ := I'.loc
      exact hRR D s3.heap.objs.size s' mm H' I5 nx hn (I3.fpOk (Nat.le_refl _) I'.free)
  exact codeAny_compStart_list loop (T.self X.A 0 _ _ _ st4 loop)
/-- as a value -/
theorem pe_lcN (hc : X.calm = true) (hN : X.N.Nodup) (hi : PI X tg iter wi) (ok : BlkOk X.N X.env.scope scope nm) (hg : ∀ s H C cl fp, PG (Bk X scope s H C cl fp) tg g) (ht : ∀ s H C cl fp, PTs (Bk X scope s H C cl fp) ifs tt)
    (hb : ∀ s H C cl fp D, PB (Bk X scope s H C cl fp) (Wf (.ref D) (Bk X scope s H C cl fp).env) vs' (tb D)) (hv : ∀ v ∈ vs', v ∈ nm.map (·.2)) (hT : ∀ it acc env, TurnIs (.ListComp elt (⟨tg, iter, ifs, 0⟩ :: gs) scope pos) 0 it acc env iter tg ifs (Wf acc env))
    (hs : ∀ x, foldedSetIterable iter X.env x = pure x := by intro _; rfl) : PE X (.ListComp elt (⟨tg, iter, ifs, 0⟩ :: gs) scope pos) (tLcN wi g tt tb (nm.map (·.2))) := by
  refine ⟨fun pins s σ H Q I h => ?_⟩
  rw [eval_ListComp]
  refine lcN_core hc hN I hi ok hg ht hb hv hs hT h fun D C s' m H' I' q hn f => ⟨m, hn, fun h'' sb => ?_⟩
  obtain ⟨f0, f1, f2, f3, f4, f5⟩ := f
  exact ⟨.ref D, H', I'.turned (t' := s'.toks) (fun b o hb e => (sb.2 b hb).trans e) f0 f1 f3 f4 f5, rfl, q⟩
/-- name = [..] on one line, the name a local -/
theorem ps_setLcN {i : Nat} {y : Str} {py spos : Pos} (hc : X.calm = true) (hN : X.N.Nodup) (hy : X.N[i]? = some y) (hyl : X.env.scope.names.lookup y = some .local)
    (hsw : swapsWith (.ListComp elt (⟨tg, iter, ifs, 0⟩ :: gs) scope pos) (some (.Name y py)) spos.line X.env = pure true) (hi : PI X tg iter wi) (ok : BlkOk X.N X.env.scope scope nm) (hg : ∀ s H C cl fp, PG (Bk X scope s H C cl fp) tg g) (ht : ∀ s H C cl fp, PTs (Bk X scope s H C cl fp) ifs tt)
    (hb : ∀ s H C cl fp D, PB (Bk X scope s H C cl fp) (Wf (.ref D) (Bk X scope s H C cl fp).env) vs' (tb D)) (hv : ∀ v ∈ vs', v ∈ nm.map (·.2)) (hT : ∀ it acc env, TurnIs (.ListComp elt (⟨tg, iter, ifs, 0⟩ :: gs) scope pos) 0 it acc env iter tg ifs (Wf acc env))
    (hs : ∀ x, foldedSetIterable iter X.env x = pure x := by intro _; rfl) : PS X (.Assign [.Name y py] (.ListComp elt (⟨tg, iter, ifs, 0⟩ :: gs) scope pos) spos) (tAsg (tLcN wi g tt tb (nm.map (·.2))) (gName i)) := by
  refine ⟨fun pins s σ H D I h => ?_⟩
  rw [exec_Assign_Name_used _ _ _ _ hsw]
  refine wpAny_bind (wpAny_standAt (wpAny_bind ?_))
  have h : tLcN wi g tt tb (nm.map (·.2)) σ H (fun x H1 => gName i x σ H1 D.nx) := h
  show wpAny _ X.A (do let _ ← comprehension (.ListComp elt (⟨tg, iter, ifs, 0⟩ :: gs) scope pos) scope X.env (firstIterPos (⟨tg, iter, ifs, 0⟩ :: gs) pos) (newList []) false (eval iter X.env) (some (assign (.Name y py) X.env))) _ _ s
  refine wpAny_bind (thn (lcN_core (Qf := fun _ s' => SP X pins D .next s') hc hN I hi ok hg ht hb hv hs hT h fun L C s' m H' I' q hn f => ?_) fun _ s' hq => wpAny_pure (wpAny_pure hq))
  show wpAny _ _ (assign (.Name y py) X.env (.ref L)) _ _ _
  obtain ⟨f0, f1, f2, f3, f4, f5⟩ := f
  refine wpAny_assign_Name (store_ok2 (v := V.ref L) I' hN hy (.inl hyl) rfl (fun s2 I2 ⟨a, sb, ha⟩ => ?_) (.inr hyl))
  have haC : C ≠ a := fun e => ha.elim (fun z => f1 (e.trans z)) fun z => f4 y a z e.symm
  exact ⟨m, hn.sameBut sb haC, fun h3 sb3 => ⟨_, H', I2.turned (t' := s2.toks) (fun b o hb e => (sb3.2 b hb).trans e) f0 f1 f3 f4 f5, q⟩⟩
end
end
end Tyl
end
section
namespace Tyl
open PySem PySem.Spec PyProof.Rows L2
/-! ### the start of an inner clause -/
def StartIs (prog : Program) (w : World) (A : Around) (cp : Expr) (k : Nat) (acc : Value) (env : PySem.Env) : Prop := ∀ (it : Value) (R : Result → Shared → Prop) (s : Shared), codeAny (model prog w) A (.compLoop cp k it acc env) R s →
  wpAny (model prog w) A (pyIter it) (fun it' s' => codeAny (model prog w) A (.compLoop cp k it' acc env) R s') (notedBy (model prog w) A env fun x s' => R (.error x) s') s → codeAny (model prog w) A (.compStart cp k it acc env) R s
section
variable {prog : Program} {w : World} {A : Around} {acc : Value} {env : PySem.Env} (elt t0 i0 t1 i1 t2 i2 : Expr) (f0 f1 f2 : List Expr) (sc : Scope) (pos : Pos)
theorem start2_1 : StartIs prog w A (.ListComp elt [⟨t0, i0, f0, 0⟩, ⟨t1, i1, f1, 0⟩] sc pos) 1 acc env := fun _ _ _ h0 h => compStart1_ok h0 h
theorem start3_1 : StartIs prog w A (.ListComp elt [⟨t0, i0, f0, 0⟩, ⟨t1, i1, f1, 0⟩, ⟨t2, i2, f2, 0⟩] sc pos) 1 acc env := by
  intro it R s h0 h
  refine codeAny_of_tree ?_
  show wpAny _ _ ((compStart (.ListComp elt [⟨t0, i0, f0, 0⟩, ⟨t1, i1, f1, 0⟩, ⟨t2, i2, f2, 0⟩] sc pos) 1 it acc env).onRaise (fun x => do noteFrame x env; standAt theWindowsPlace)) _ _ s
  refine wpAny_notedAt ?_
  unfold compStart
  show wpAny _ _ (ask >>= _) _ _ s
  refine wpAny_bind (wpAny_askSetting (wpAny_ite ?_))
  split
  · first
      | exact wpAny_bind (wpAny_pure (wpAny_pure (And.intro rfl h0)))
      | exact wpAny_pure (And.intro rfl h0)
  · refine wpAny_bind (wpAny_rule ?_)
    show wpAny _ _ (standAt i1.pos >>= _) _ _ s
    exact wpAny_bind (wpAny_standAt (wpAny_bind (wpAny_mono h (fun it' s' h' => wpAny_pure (And.intro rfl h')) fun _ _ x => x)))
theorem start3_2 : StartIs prog w A (.ListComp elt [⟨t0, i0, f0, 0⟩, ⟨t1, i1, f1, 0⟩, ⟨t2, i2, f2, 0⟩] sc pos) 2 acc env := by
  intro it R s h0 h
  refine codeAny_of_tree ?_
  show wpAny _ _ ((compStart (.ListComp elt [⟨t0, i0, f0, 0⟩, ⟨t1, i1, f1, 0⟩, ⟨t2, i2, f2, 0⟩] sc pos) 2 it acc env).onRaise (fun x => do noteFrame x env; standAt theWindowsPlace)) _ _ s
  refine wpAny_notedAt ?_
  unfold compStart
  show wpAny _ _ (ask >>= _) _ _ s
  refine wpAny_bind (wpAny_askSetting (wpAny_ite ?_))
  split
  · first
      | exact wpAny_bind (wpAny_pure (wpAny_pure (And.intro rfl h0)))
      | exact wpAny_pure (And.intro rfl h0)
  · refine wpAny_bind (wpAny_rule ?_)
    show wpAny _ _ (standAt i2.pos >>= _) _ _ s
    exact wpAny_bind (wpAny_standAt (wpAny_bind (wpAny_mono h (fun it' s' h' => wpAny_pure (And.intro rfl h')) fun _ _ x => x)))
theorem turn1_0 {it : Value} : TurnIs (.ListComp elt [⟨t0, i0, f0, 0⟩] sc pos) 0 it acc env i0 t0 f0 (LastW elt acc env) := by rfl
end
section
variable {X : Cx} {ow : List Nat} {B : Base ow} {m : Mi}
/-! ### typed levels -/
def anyB (X : Cx) (Wf : Sem PySem.Fin → Sem PySem.Fin) (vs : List Nat) : TQ := fun σ H Nx => ∃ t, PB X Wf vs t ∧ t σ H Nx
def anyTs (X : Cx) (ifs : List Expr) : TT := fun σ H Q => ∃ t, PTs X ifs t ∧ t σ H Q
theorem pb_any {Wf : Sem PySem.Fin → Sem PySem.Fin} {vs : List Nat} : PB X Wf vs (anyB X Wf vs) := ⟨fun K pins s σ H Nx Q I ⟨_, h, q⟩ k => h.run K pins s σ H Nx Q I q k⟩
theorem pts_any {e : List Expr} : PTs X e (anyTs X e) := ⟨fun pins s' σ H' Q I ⟨_, h, q⟩ => h.run pins s' σ H' Q I q⟩
theorem PB.imp {Wf : Sem PySem.Fin → Sem PySem.Fin} {vs : List Nat} {t t' : TQ} (h : PB X Wf vs t) (w : ∀ σ H Nx, t' σ H Nx → t σ H Nx) : PB X Wf vs t' := ⟨fun K pins s σ H Nx Q I q k => h.run K pins s σ H Nx Q I (w _ _ _ q) k⟩
def JTs (X : Cx) (B : Base ow) (m : Mi) (ifs : List Expr) (l : En) (Φ : Bool → En → Prop) : Prop := PTs X ifs (tJT X.K B m l Φ)
theorem jt0 {l : En} {Φ : Bool → En → Prop} (h : Φ true l) : JTs X B m [] l Φ := ⟨fun pins s' σ H' Q I ⟨G, E, k⟩ => pts_nil.run pins s' σ H' Q I (k G H' true l (Ex.refl G) E h)⟩
theorem jt1 {c : Expr} {l : En} {Φ : Bool → En → Prop} (h : JT X B m c l Φ) : JTs X B m [c] l Φ := pts_one h
/-- the inner part of a turn: from the slots l and the new list's ss to what Ψ tells -/
def tIn (K : Fg) (B : Base ow) (D : Addr) (l : En) (ss : List SD) (Ψ : En → List SD → Prop) : TQ := fun σ H Nx => ∃ G g h acc, B.H D = none ∧ (∀ q ∈ h, q.1 ≠ D) ∧ EnvOk K B ⟨g, (D, .lst acc) :: h⟩ l G σ H ∧ All2 (PR K G) acc ss ∧
  ∀ G' H' acc' l' ss', Ex G G' → EnvOk K B ⟨g, (D, .lst acc') :: h⟩ l' G' σ H' → All2 (PR K G') acc' ss' → Ψ l' ss' → Nx H'
def JIn (X : Cx) (B : Base ow) (D : Addr) (Wf : Sem PySem.Fin → Sem PySem.Fin) (vs : List Nat) (l : En) (ss : List SD) (Ψ : En → List SD → Prop) : Prop := PB X Wf vs (tIn X.K B D l ss Ψ)
theorem ji_last {α : Type} [Rp α] {elt : Expr} {D : Addr} {l : En} {ss : List SD} {Ψ : En → List SD → Prop} (hx : X.xe = fun _ _ => False) (h : ∀ m, JE X B m elt l fun (d : α) l1 => ss.length < 10000000 ∧ Ψ l1 (ss ++ [sd d])) : JIn X B D (LastW elt (.ref D) X.env) [] l ss Ψ :=
  (pb_last (D := D) hx (pe_any (e := elt))).imp fun σ H Nx ⟨G, g, hh, acc, nb, out, E, r, k⟩ => by
    refine (h _).any E fun v G1 H1 d l1 e1 E1 r1 ⟨hz, hΨ⟩ => ?_
    have hD : H1 D = some (.lst acc) := by
      obtain ⟨_, _, _, _, M⟩ := E1
      exact (M.h _ List.mem_cons_self).1
    exact ⟨acc, hD, Nat.lt_of_lt_of_le (by rw [r.len]; exact hz) (by decide), k G1 _ _ l1 _ e1 (E1.hidW nb out) ((r.imp fun _ _ h => h.mono e1).app (bs' := [sd d]) ⟨pr_sd r1, trivial⟩) hΨ⟩
/-- a turn of a level -/
def TurnP {α S : Type} (X : Cx) (B : Base ow) (ifs : List Expr) (Wf : Sem PySem.Fin → Sem PySem.Fin) (vs : List Nat) (D : Addr) (R : En → α → En → Prop) (Γ : S → En) (I : Nat → S → List SD → Prop) (i : Nat) (x : α) : Prop :=
  ∀ s ss, I i s ss → ∃ l2, R (Γ s) x l2 ∧ ∀ m', JTs X B m' ifs l2 fun b l3 => (b = true → JIn X B D Wf vs l3 ss fun l4 ss4 => ∃ s', Wk l4 (Γ s') ∧ I (i + 1) s' ss4) ∧ (b = false → ∃ s', Wk l3 (Γ s') ∧ I (i + 1) s' ss)
section
variable {α S : Type} [Rp α] {ifs : List Expr} {Wf : Sem PySem.Fin → Sem PySem.Fin} {vs vs' : List Nat} {D : Addr} {R : En → α → En → Prop} {Γ : S → En} {I : Nat → S → List SD → Prop} {G1 : Hp} {h0 : List (Addr × HO)} {σ : L2.St} {i : Nat} {H : Hp}
/-- the state behind i turns -/
def PvN (K : Fg) (B : Base ow) (G1 : Hp) (h0 : List (Addr × HO)) (Γ : S → En) (I : Nat → S → List SD → Prop) (D : Addr) (σ : L2.St) (i : Nat) (H : Hp) : Prop :=
  ∃ s ss acc G, Ex G1 G ∧ EnvOk K B ⟨G1, (D, .lst acc) :: h0⟩ (Γ s) G σ H ∧ All2 (PR K G) acc ss ∧ I i s ss
theorem lvl_turn {v : V} {d : α} (nn : ∀ s, Nn (Γ s) vs) (hv : ∀ v ∈ vs, v ∉ ow) (Z : B.Fix σ) (nb : B.H D = none) (out : ∀ q ∈ h0, q.1 ≠ D) (r : Rp.rp X.K G1 v d) (h : TurnP X B ifs Wf vs' D R Γ I i d) (P : PvN X.K B G1 h0 Γ I D σ i H) :
    ∃ m', gTw X.K B m' R vs v (L2.wipe σ vs) H fun σ2 H2 => L2.wipe σ2 vs = L2.wipe σ vs ∧ anyTs X ifs σ2 H2 fun b H3 => if b = true then anyB X Wf vs' σ2 H3 (PvN X.K B G1 h0 Γ I D σ (i + 1)) else PvN X.K B G1 h0 Γ I D σ (i + 1) H3 := by
  obtain ⟨s, ss, acc, G, e1, E, r1, ii⟩ := P
  obtain ⟨l2, hR, ht⟩ := h s ss ii
  refine ⟨⟨G1, (D, .lst acc) :: h0⟩, G, Γ s, d, l2, E.wipe (nn s) hv, Rp.mono e1 r, hR, fun σ' E' hw => ?_⟩
  rw [wipe_wipe fun _ h => h] at hw
  refine ⟨hw, _, ht _, G, E', fun G3 H3 b l3 e3 E3 ⟨hT, hF⟩ => ?_⟩
  cases b with
  | true =>
    refine iteT ⟨_, hT rfl, G3, G1, h0, acc, nb, out, E3, r1.imp fun _ _ h => h.mono e3, fun G4 H4 acc4 l4 ss4 e4 E4 r4 ⟨s', w, j⟩ => ?_⟩
    exact ⟨s', ss4, acc4, G4, (e1.trans e3).trans e4, (E4.wk w).unwipe (nn s') hw Z, r4, j⟩
  | false =>
    obtain ⟨s', w, j⟩ := hF rfl
    exact iteF ⟨s', ss, acc, G3, e1.trans e3, (E3.wk w).unwipe (nn s') hw Z, r1.imp fun _ _ h => h.mono e3, j⟩
end
/-- what a source gives: the turns' items one behind another -/
structure Src (X : Cx) (B : Base ow) (tg iter : Expr) (α : Type) [Rp α] (wi : TI) (l : En) (Φ : List α → En → Prop) : Prop where
  pi : PI X tg iter wi
section
variable {α S : Type} [Rp α] {tg iter : Expr} {ifs : List Expr}
/-- an inner clause over a list -/
theorem ji_levL {cp : Expr} {k : Nat} {Wf : Sem PySem.Fin → Sem PySem.Fin} {vs vs' : List Nat} {D : Addr} {R : En → α → En → Prop} {l : En} {ss : List SD} {Ψ : En → List SD → Prop} (hcp : ∃ e gs sc pos, cp = .ListComp e gs sc pos) (hx : X.xe = fun _ _ => False) (hc : X.calm = true) (hv : ∀ v ∈ vs, v ∉ ow) (hsub : ∀ v ∈ vs', v ∈ vs)
    (hg : ∀ m, PG X tg (gTw X.K B m R vs)) (hT : ∀ it, TurnIs cp k it (.ref D) X.env iter tg ifs Wf) (hst : StartIs X.prog X.w X.A cp k (.ref D) X.env)
    (h : ∀ m, JE X B m iter l fun (L : List α) l1 => ∃ (S : Type) (Γ : S → En) (I : Nat → S → List SD → Prop), (∀ s, Nn (Γ s) vs) ∧ (∃ s0, Wk l1 (Γ s0) ∧ I 0 s0 ss) ∧ (∀ (i : Nat) (x : α), L[i]? = some x → TurnP X B ifs Wf vs' D R Γ I i x) ∧ (∀ s ss, I L.length s ss → Ψ (Γ s) ss))
    (hf : ∀ x, foldedSetIterable iter X.env x = pure x := by intro _; rfl) : JIn X B D (InnerW cp iter k (.ref D) X.env) vs l ss Ψ :=
  (pb_level (g := fun v σ H Q => ∃ m', gTw X.K B m' R vs v σ H Q) hcp hx hc (pi_list (pe_any (e := iter))) ⟨fun pins s' σ H' v u Q I r ⟨m', q⟩ => (hg m').run pins s' σ H' v u Q I r q⟩ (pts_any (e := ifs)) (pb_any (Wf := Wf) (vs := vs')) hsub hf hT hst).imp fun σ H Nx ⟨G, g, hh, acc, nb, out, E, r, kk⟩ => by
    refine (h _).any E fun v G1 H1 L l1 e1 E1 r1 ⟨S, Γ, I, nn, ⟨s0, w0, i0⟩, turn, done⟩ => ?_
    obtain ⟨p, xs, rfl, hp, ha⟩ := r1
    refine ⟨p, rfl, ⟨xs, SqL.of (E1.ex _ _ hp)⟩, ?_⟩
    have Z : B.Fix σ := by obtain ⟨_, _, _, z, _⟩ := E1; exact z
    have P0 : PvN X.K B G1 hh Γ I D σ 0 H1 := by
      obtain ⟨fp, F, E2, Z, M⟩ := E1.wk w0
      exact ⟨s0, ss, acc, G1, Ex.refl _, ⟨fp, F, E2, Z, Ex.refl _, M.h⟩, r.imp fun _ _ h => h.mono e1, i0⟩
    have Mg : Ex g G1 := by obtain ⟨_, _, _, _, z⟩ := E1; exact z.g
    refine ⟨fun i mm H => mm = xs.length - i ∧ i ≤ xs.length ∧ PvN X.K B G1 hh Γ I D σ i H, ⟨xs.length, rfl, Nat.zero_le _, P0⟩, ?_⟩
    rintro i mm H ⟨rfl, hi, P⟩
    have hsq : SqL X.K H p xs := by
      obtain ⟨s, ss, acc, G2, e2, E2, _⟩ := P
      exact SqL.of (E2.ex _ _ (e2 _ _ hp))
    by_cases hlt : i < xs.length
    · refine .inr ⟨⟨xs, xs[i], hsq, by simp [hlt]⟩, PvN X.K B G1 hh Γ I D σ (i + 1), fun H' p' => ⟨xs.length - (i + 1), by omega, rfl, hlt, p'⟩, fun x H' y => ?_⟩
      obtain ⟨e, y⟩ := y
      subst e
      obtain ⟨d, hd, rd⟩ := ha.left (y xs hsq)
      exact lvl_turn nn hv Z nb out rd (turn i d hd) P
    · have e : i = xs.length := by omega
      subst e
      refine .inl ⟨⟨xs, hsq, Nat.le_refl _⟩, ?_⟩
      obtain ⟨s, ss2, acc2, G2, e2, E2, r2, ii⟩ := P
      rw [ha.len] at ii
      obtain ⟨fp, F, E3, Z3, M⟩ := E2
      exact kk G2 _ acc2 (Γ s) ss2 (e1.trans e2) ⟨fp, F, E3, Z3, Mg.trans M.g, M.h⟩ r2 (done s ss2 ii)
theorem itr_turns {lo : Int} {n : Nat} {g : TG} {vs : List Nat} {σ : L2.St} {tt : TT} {tb : TQ} {H1 : Hp} {Nx : Hp → Prop} (Pv : Nat → Hp → Prop) (P0 : Pv 0 H1) (turn : ∀ (i : Nat) H, i < n → Pv i H → g (.int (lo + i)) (L2.wipe σ vs) H fun σ2 H2 => L2.wipe σ2 vs = L2.wipe σ vs ∧ tt σ2 H2 fun b H3 => if b = true then tb σ2 H3 (Pv (i + 1)) else Pv (i + 1) H3)
    (done : ∀ H, Pv n H → Nx H) : ∃ W : Nat → Nat → Hp → Prop, (∃ m, W 0 m H1) ∧ ∀ i m H, W i m H →
      ((Itr lo n).stop i H ∧ Nx H) ∨ ((Itr lo n).go i H ∧ ∃ Nx1 : Hp → Prop, (∀ H', Nx1 H' → ∃ m', m' < m ∧ W (i + 1) m' H') ∧ ∀ x H', (Itr lo n).yld i H x H' → g x (L2.wipe σ vs) H' fun σ2 H2 => L2.wipe σ2 vs = L2.wipe σ vs ∧ tt σ2 H2 fun b H3 => if b = true then tb σ2 H3 Nx1 else Nx1 H3) := by
  refine ⟨fun i mm H => mm = n - i ∧ i ≤ n ∧ Pv i H, ⟨n, rfl, Nat.zero_le _, P0⟩, ?_⟩
  rintro i mm H ⟨rfl, hi, P⟩
  by_cases hlt : i < n
  · refine .inr ⟨hlt, Pv (i + 1), fun H' p' => ⟨n - (i + 1), by omega, rfl, hlt, p'⟩, fun x H' y => ?_⟩
    obtain ⟨e, y⟩ := y
    subst e y
    exact turn i _ hlt P
  · have e : i = n := by omega
    subst e
    exact .inl ⟨Nat.le_refl _, done H P⟩
/-- an inner clause over range(n) -/
theorem ji_levR1 {a : Expr} {p1 p2 : Pos} {cp : Expr} {k : Nat} {Wf : Sem PySem.Fin → Sem PySem.Fin} {vs vs' : List Nat} {D : Addr} {R : En → Int → En → Prop} {l : En} {ss : List SD} {Ψ : En → List SD → Prop} (hm : X.mg "range" = none) (hcp : ∃ e gs sc pos, cp = .ListComp e gs sc pos) (hx : X.xe = fun _ _ => False) (hc : X.calm = true) (hv : ∀ v ∈ vs, v ∉ ow) (hsub : ∀ v ∈ vs', v ∈ vs)
    (hg : ∀ m, PG X tg (gTw X.K B m R vs)) (hT : ∀ it, TurnIs cp k it (.ref D) X.env (.Call (.Name "range" p1) [a] [] p2) tg ifs Wf) (hst : StartIs X.prog X.w X.A cp k (.ref D) X.env)
    (h : ∀ m, JE X B m a l fun (n : Int) l1 => ∃ (S : Type) (Γ : S → En) (I : Nat → S → List SD → Prop), (-(2 ^ 62) ≤ n ∧ n < 2 ^ 62) ∧ (∀ s, Nn (Γ s) vs) ∧ (∃ s0, Wk l1 (Γ s0) ∧ I 0 s0 ss) ∧ (∀ (i : Nat), (i : Int) < n → TurnP X B ifs Wf vs' D R Γ I i (i : Int)) ∧ (∀ s ss, I n.toNat s ss → Ψ (Γ s) ss))
    (hgl : Gl X "range" := by rfl) (hse : starEach (a :: []) X.env = (false, eval a X.env) :: starEach [] X.env := by rfl) (hs2 : starEach [a] X.env = [(false, eval a X.env)] := by rfl)
    (hf : ∀ x, foldedSetIterable (.Call (.Name "range" p1) [a] [] p2) X.env x = pure x := by intro _; rfl) : JIn X B D (InnerW cp (.Call (.Name "range" p1) [a] [] p2) k (.ref D) X.env) vs l ss Ψ :=
  (pb_level (g := fun v σ H Q => ∃ m', gTw X.K B m' R vs v σ H Q) hcp hx hc (pi_range1 hgl hm (pa_cons (pe_any (e := a)) pa_nil hse) hs2) ⟨fun pins s' σ H' v u Q I r ⟨m', q⟩ => (hg m').run pins s' σ H' v u Q I r q⟩ (pts_any (e := ifs)) (pb_any (Wf := Wf) (vs := vs')) hsub hf hT hst).imp fun σ H Nx ⟨G, g, hh, acc, nb, out, E, r, kk⟩ => by
    refine (h _).any E fun v G1 H1 n l1 e1 E1 r1 ⟨S, Γ, I, ⟨z1, z2⟩, nn, ⟨s0, w0, i0⟩, turn, done⟩ => ?_
    refine ⟨n, by rw [show v = .int n from r1], z1, z2, ?_⟩
    have Z : B.Fix σ := by obtain ⟨_, _, _, z, _⟩ := E1; exact z
    have P0 : PvN X.K B G1 hh Γ I D σ 0 H1 := by
      obtain ⟨fp, F, E2, Z, M⟩ := E1.wk w0
      exact ⟨s0, ss, acc, G1, Ex.refl _, ⟨fp, F, E2, Z, Ex.refl _, M.h⟩, r.imp fun _ _ h => h.mono e1, i0⟩
    have Mg : Ex g G1 := by obtain ⟨_, _, _, _, z⟩ := E1; exact z.g
    refine itr_turns (lo := 0) (n := n.toNat) (g := fun v σ H Q => ∃ m', gTw X.K B m' R vs v σ H Q) (vs := vs) (σ := σ) (tt := anyTs X ifs) (tb := anyB X Wf vs') (PvN X.K B G1 hh Γ I D σ) P0 (fun i H hlt P => ?_) fun H P => ?_
    · exact lvl_turn nn hv Z nb out (d := (i : Int)) (by show V.int (0 + (i : Int)) = _; rw [Int.zero_add]) (turn i (by omega)) P
    · obtain ⟨s, ss2, acc2, G2, e2, E2, r2, ii⟩ := P
      obtain ⟨fp, F, E3, Z3, M⟩ := E2
      exact kk G2 _ acc2 (Γ s) ss2 (e1.trans e2) ⟨fp, F, E3, Z3, Mg.trans M.g, M.h⟩ r2 (done s ss2 ii)
/-! ### the first clause -/
def anyBb (X : Cx) (scope : Scope) (Wf : Value → PySem.Env → Sem PySem.Fin → Sem PySem.Fin) (vs : List Nat) (D : Addr) : TQ := fun σ H Nx => ∃ t, (∀ s H C cl fp, PB (Bk X scope s H C cl fp) (Wf (.ref D) (Bk X scope s H C cl fp).env) vs t) ∧ t σ H Nx
theorem pb_anyb {scope : Scope} {Wf : Value → PySem.Env → Sem PySem.Fin → Sem PySem.Fin} {vs : List Nat} : ∀ s H C cl fp D, PB (Bk X scope s H C cl fp) (Wf (.ref D) (Bk X scope s H C cl fp).env) vs (anyBb X scope Wf vs D) := fun s H C cl fp D => ⟨fun K pins s' σ H' Nx Q I ⟨_, h, q⟩ k => (h s H C cl fp).run K pins s' σ H' Nx Q I q k⟩
/-- a turn of the first clause: in every block -/
def TurnB {α S : Type} (X : Cx) (scope : Scope) (B : Base ow) (ifs : List Expr) (Wf : Value → PySem.Env → Sem PySem.Fin → Sem PySem.Fin) (vs : List Nat) (R : En → α → En → Prop) (Γ : S → En) (I : Nat → S → List SD → Prop) (i : Nat) (x : α) : Prop :=
  ∀ s ss, I i s ss → ∃ l2, R (Γ s) x l2 ∧ ∀ m' D, JTsb X scope B m' ifs l2 fun b l3 => (b = true → ∀ s H C cl fp, JIn (Bk X scope s H C cl fp) B D (Wf (.ref D) (Bk X scope s H C cl fp).env) vs l3 ss fun l4 ss4 => ∃ s', Wk l4 (Γ s') ∧ I (i + 1) s' ss4) ∧ (b = false → ∃ s', Wk l3 (Γ s') ∧ I (i + 1) s' ss)
theorem top_turn {scope : Scope} {Wf : Value → PySem.Env → Sem PySem.Fin → Sem PySem.Fin} {vs vs' : List Nat} {D : Addr} {R : En → α → En → Prop} {Γ : S → En} {I : Nat → S → List SD → Prop} {G1 : Hp} {h0 : List (Addr × HO)} {σ : L2.St} {i : Nat} {H : Hp} {v : V} {d : α} (nn : ∀ s, Nn (Γ s) vs) (hv : ∀ v ∈ vs, v ∉ ow) (Z : B.Fix σ) (nb : B.H D = none) (out : ∀ q ∈ h0, q.1 ≠ D)
    (r : Rp.rp X.K G1 v d) (h : TurnB X scope B ifs Wf vs' R Γ I i d) (P : PvN X.K B G1 h0 Γ I D σ i H) :
    ∃ m', gTw X.K B m' R vs v (L2.wipe σ vs) H fun σ2 H2 => L2.wipe σ2 vs = L2.wipe σ vs ∧ anyTsb X scope ifs σ2 H2 fun b H3 => if b = true then anyBb X scope Wf vs' D σ2 H3 (PvN X.K B G1 h0 Γ I D σ (i + 1)) else PvN X.K B G1 h0 Γ I D σ (i + 1) H3 := by
  obtain ⟨s, ss, acc, G, e1, E, r1, ii⟩ := P
  obtain ⟨l2, hR, ht⟩ := h s ss ii
  refine ⟨⟨G1, (D, .lst acc) :: h0⟩, G, Γ s, d, l2, E.wipe (nn s) hv, Rp.mono e1 r, hR, fun σ' E' hw => ?_⟩
  rw [wipe_wipe fun _ h => h] at hw
  refine ⟨hw, _, ht _ D, G, E', fun G3 H3 b l3 e3 E3 ⟨hT, hF⟩ => ?_⟩
  cases b with
  | true =>
    refine iteT ⟨tIn X.K B D l3 ss fun l4 ss4 => ∃ s', Wk l4 (Γ s') ∧ I (i + 1) s' ss4, hT rfl, G3, G1, h0, acc, nb, out, E3, r1.imp fun _ _ h => h.mono e3, fun G4 H4 acc4 l4 ss4 e4 E4 r4 ⟨s', w, j⟩ => ?_⟩
    exact ⟨s', ss4, acc4, G4, (e1.trans e3).trans e4, (E4.wk w).unwipe (nn s') hw Z, r4, j⟩
  | false =>
    obtain ⟨s', w, j⟩ := hF rfl
    exact iteF ⟨s', ss, acc, G3, e1.trans e3, (E3.wk w).unwipe (nn s') hw Z, r1.imp fun _ _ h => h.mono e3, j⟩
theorem PvN.start {K : Fg} {l : En} {G H : Hp} {σ : L2.St} {Γ : S → En} {I : Nat → S → List SD → Prop} {D : Addr} {s0 : S} (E : EnvOk K B m l G σ H) (hD : H D = none) (w : Wk l (Γ s0)) (i0 : I 0 s0 []) : PvN K B G m.h Γ I D σ 0 (upd H D (.lst [])) ∧ B.H D = none ∧ ∀ q ∈ m.h, q.1 ≠ D := by
  obtain ⟨E2, h1, h2⟩ := (E.wk w).hid (o := .lst []) hD
  obtain ⟨fp, F, E2, Z, M⟩ := E2
  exact ⟨⟨s0, [], [], G, Ex.refl _, ⟨fp, F, E2, Z, Ex.refl _, M.h⟩, trivial, i0⟩, h1, h2⟩
theorem PvN.done {G G1 H : Hp} {σ : L2.St} {Γ : S → En} {I : Nat → S → List SD → Prop} {D : Addr} {n : Nat} {Φ : List SD → En → Prop} {Q : VK} (M0 : Ex m.g G1) (nb : B.H D = none) (out : ∀ q ∈ m.h, q.1 ≠ D) (e0 : Ex G G1)
    (k : ∀ xs ss G' H' l' p, Ex G G' → NewL X.K B m l' G' σ H' p xs ss → Φ ss l' → Q (.ref p) H') (done : ∀ s ss, I n s ss → Φ ss (Γ s)) (P : PvN X.K B G1 m.h Γ I D σ n H) : Q (.ref D) H := by
  obtain ⟨s, ss, acc, G2, e1, E, r1, ii⟩ := P
  obtain ⟨fp, F, E, Z, M⟩ := E
  exact k acc ss G2 H (Γ s) D (e0.trans e1) ⟨⟨fp, F, E, Z, M0.trans M.g, M.h⟩, r1, nb, out⟩ (done s ss ii)
/-- a comprehension, as a value and given to a name: what both ask -/
theorem lcN_trL {scope : Scope} {Wf : Value → PySem.Env → Sem PySem.Fin → Sem PySem.Fin} {vs vs' : List Nat} {R : En → α → En → Prop} {l : En} {Φ : List SD → En → Prop} (hw : ∀ v ∈ vs, v ∉ ow)
    (h : JE X B m iter l fun (L : List α) l1 => ∃ (S : Type) (Γ : S → En) (I : Nat → S → List SD → Prop), (∀ s, Nn (Γ s) vs) ∧ (∃ s0, Wk l1 (Γ s0) ∧ I 0 s0 []) ∧ (∀ (i : Nat) (x : α), L[i]? = some x → TurnB X scope B ifs Wf vs' R Γ I i x) ∧ (∀ s ss, I L.length s ss → Φ ss (Γ s))) (σ : L2.St) (H : Hp) (Q : VK) (q : tJN X.K B m l Φ σ H Q) :
    tLcN (iList X.K (anyE X iter)) (fun v σ H Q => ∃ m', gTw X.K B m' R vs v σ H Q) (anyTsb X scope ifs) (anyBb X scope Wf vs') vs σ H Q := by
  obtain ⟨G, E, k⟩ := q
  refine h.any E fun v G1 H1 L l1 e1 E1 r1 ⟨S, Γ, I, nn, ⟨s0, w0, i0⟩, turn, done⟩ => ?_
  obtain ⟨p, xs, rfl, hp, ha⟩ := r1
  refine ⟨p, rfl, ⟨xs, SqL.of (E1.ex _ _ hp)⟩, fun D hD => ?_⟩
  obtain ⟨P0, nb, out⟩ := PvN.start E1 hD w0 i0
  have Z : B.Fix σ := by obtain ⟨_, _, _, z, _⟩ := E1; exact z
  have M0 : Ex m.g G1 := by obtain ⟨_, _, _, _, z⟩ := E1; exact z.g
  refine ⟨fun i mm H => mm = xs.length - i ∧ i ≤ xs.length ∧ PvN X.K B G1 m.h Γ I D σ i H, ⟨xs.length, rfl, Nat.zero_le _, P0⟩, ?_⟩
  rintro i mm H ⟨rfl, hi, P⟩
  have hsq : SqL X.K H p xs := by
    obtain ⟨s, ss, acc, G2, e2, E2, _⟩ := P
    exact SqL.of (E2.ex _ _ (e2 _ _ hp))
  by_cases hlt : i < xs.length
  · refine .inr ⟨⟨xs, xs[i], hsq, by simp [hlt]⟩, PvN X.K B G1 m.h Γ I D σ (i + 1), fun H' p' => ⟨xs.length - (i + 1), by omega, rfl, hlt, p'⟩, fun x H' y => ?_⟩
    obtain ⟨e, y⟩ := y
    subst e
    obtain ⟨d, hd, rd⟩ := ha.left (y xs hsq)
    exact top_turn nn hw Z nb out rd (turn i d hd) P
  · have e : i = xs.length := by omega
    subst e
    refine .inl ⟨⟨xs, hsq, Nat.le_refl _⟩, ?_⟩
    rw [ha.len] at P
    exact PvN.done M0 nb out e1 k done P
theorem lcN_trR1 {a : Expr} {scope : Scope} {Wf : Value → PySem.Env → Sem PySem.Fin → Sem PySem.Fin} {vs vs' : List Nat} {R : En → Int → En → Prop} {l : En} {Φ : List SD → En → Prop} (hw : ∀ v ∈ vs, v ∉ ow)
    (h : JE X B m a l fun (n : Int) l1 => ∃ (S : Type) (Γ : S → En) (I : Nat → S → List SD → Prop), (-(2 ^ 62) ≤ n ∧ n < 2 ^ 62) ∧ (∀ s, Nn (Γ s) vs) ∧ (∃ s0, Wk l1 (Γ s0) ∧ I 0 s0 []) ∧ (∀ (i : Nat), (i : Int) < n → TurnB X scope B ifs Wf vs' R Γ I i (i : Int)) ∧ (∀ s ss, I n.toNat s ss → Φ ss (Γ s))) (σ : L2.St) (H : Hp) (Q : VK) (q : tJN X.K B m l Φ σ H Q) :
    tLcN (iRng1 (tCons (anyE X a) tNil)) (fun v σ H Q => ∃ m', gTw X.K B m' R vs v σ H Q) (anyTsb X scope ifs) (anyBb X scope Wf vs') vs σ H Q := by
  obtain ⟨G, E, k⟩ := q
  refine h.any E fun v G1 H1 n l1 e1 E1 r1 ⟨S, Γ, I, ⟨z1, z2⟩, nn, ⟨s0, w0, i0⟩, turn, done⟩ => ?_
  refine ⟨n, by rw [show v = .int n from r1], z1, z2, fun D hD => ?_⟩
  obtain ⟨P0, nb, out⟩ := PvN.start E1 hD w0 i0
  have Z : B.Fix σ := by obtain ⟨_, _, _, z, _⟩ := E1; exact z
  have M0 : Ex m.g G1 := by obtain ⟨_, _, _, _, z⟩ := E1; exact z.g
  refine itr_turns (lo := 0) (n := n.toNat) (g := fun v σ H Q => ∃ m', gTw X.K B m' R vs v σ H Q) (vs := vs) (σ := σ) (tt := anyTsb X scope ifs) (tb := anyBb X scope Wf vs' D) (Nx := fun H => Q (.ref D) H) (PvN X.K B G1 m.h Γ I D σ) P0 (fun i H hlt P => ?_) fun H P => PvN.done M0 nb out e1 k done P
  exact top_turn nn hw Z nb out (d := (i : Int)) (by show V.int (0 + (i : Int)) = _; rw [Int.zero_add]) (turn i (by omega)) P
section
variable {elt : Expr} {gs : List Comprehension} {scope : Scope} {nm : List (Str × Nat)} {pos : Pos} {vs' : List Nat} {Wf : Value → PySem.Env → Sem PySem.Fin → Sem PySem.Fin} {l : En}
/-- a list's comprehension as a value -/
theorem jn_lcL {R : En → α → En → Prop} {Φ : List SD → En → Prop} (hc : X.calm = true) (hN : X.N.Nodup) (ok : BlkOk X.N X.env.scope scope nm) (hw : ∀ v ∈ nm.map (·.2), v ∉ ow) (hv : ∀ v ∈ vs', v ∈ nm.map (·.2)) (hT : ∀ it acc env, TurnIs (.ListComp elt (⟨tg, iter, ifs, 0⟩ :: gs) scope pos) 0 it acc env iter tg ifs (Wf acc env))
    (hg : ∀ m s H C cl fp, PG (Bk X scope s H C cl fp) tg (gTw X.K B m R (nm.map (·.2))))
    (h : JE X B m iter l fun (L : List α) l1 => ∃ (S : Type) (Γ : S → En) (I : Nat → S → List SD → Prop), (∀ s, Nn (Γ s) (nm.map (·.2))) ∧ (∃ s0, Wk l1 (Γ s0) ∧ I 0 s0 []) ∧ (∀ (i : Nat) (x : α), L[i]? = some x → TurnB X scope B ifs Wf vs' R Γ I i x) ∧ (∀ s ss, I L.length s ss → Φ ss (Γ s)))
    (hs : ∀ x, foldedSetIterable iter X.env x = pure x := by intro _; rfl) : JN X B m (.ListComp elt (⟨tg, iter, ifs, 0⟩ :: gs) scope pos) l Φ :=
  (pe_lcN (g := fun v σ H Q => ∃ m', gTw X.K B m' R (nm.map (·.2)) v σ H Q) hc hN (pi_list pe_any) ok (fun s H C cl fp => ⟨fun pins s' σ H' v u Q I r ⟨m', q⟩ => (hg m' s H C cl fp).run pins s' σ H' v u Q I r q⟩) pts_anyb pb_anyb hv hT hs).imp (lcN_trL hw h)
theorem jn_lcR1 {a : Expr} {p1 p2 : Pos} {R : En → Int → En → Prop} {Φ : List SD → En → Prop} (hm : X.mg "range" = none) (hc : X.calm = true) (hN : X.N.Nodup) (ok : BlkOk X.N X.env.scope scope nm) (hw : ∀ v ∈ nm.map (·.2), v ∉ ow) (hv : ∀ v ∈ vs', v ∈ nm.map (·.2)) (hT : ∀ it acc env, TurnIs (.ListComp elt (⟨tg, .Call (.Name "range" p1) [a] [] p2, ifs, 0⟩ :: gs) scope pos) 0 it acc env (.Call (.Name "range" p1) [a] [] p2) tg ifs (Wf acc env))
    (hg : ∀ m s H C cl fp, PG (Bk X scope s H C cl fp) tg (gTw X.K B m R (nm.map (·.2))))
    (h : JE X B m a l fun (n : Int) l1 => ∃ (S : Type) (Γ : S → En) (I : Nat → S → List SD → Prop), (-(2 ^ 62) ≤ n ∧ n < 2 ^ 62) ∧ (∀ s, Nn (Γ s) (nm.map (·.2))) ∧ (∃ s0, Wk l1 (Γ s0) ∧ I 0 s0 []) ∧ (∀ (i : Nat), (i : Int) < n → TurnB X scope B ifs Wf vs' R Γ I i (i : Int)) ∧ (∀ s ss, I n.toNat s ss → Φ ss (Γ s)))
    (hgl : Gl X "range" := by rfl) (hse : starEach (a :: []) X.env = (false, eval a X.env) :: starEach [] X.env := by rfl) (hs2 : starEach [a] X.env = [(false, eval a X.env)] := by rfl)
    (hs : ∀ x, foldedSetIterable (.Call (.Name "range" p1) [a] [] p2) X.env x = pure x := by intro _; rfl) : JN X B m (.ListComp elt (⟨tg, .Call (.Name "range" p1) [a] [] p2, ifs, 0⟩ :: gs) scope pos) l Φ :=
  (pe_lcN (g := fun v σ H Q => ∃ m', gTw X.K B m' R (nm.map (·.2)) v σ H Q) hc hN (pi_range1 hgl hm (pa_cons pe_any pa_nil hse) hs2) ok (fun s H C cl fp => ⟨fun pins s' σ H' v u Q I r ⟨m', q⟩ => (hg m' s H C cl fp).run pins s' σ H' v u Q I r q⟩) pts_anyb pb_anyb hv hT hs).imp (lcN_trR1 hw h)
/-- given to a name -/
def JNs (X : Cx) (B : Base ow) (m : Mi) (st : Stmt) (i : Nat) (l : En) (Φ : List SD → En → Prop) : Prop := PS X st (tAsg (tJN X.K B m l Φ) (gName i))
theorem jns_lcL {i : Nat} {y : Str} {py spos : Pos} {R : En → α → En → Prop} {Φ : List SD → En → Prop} (hc : X.calm = true) (hN : X.N.Nodup) (ok : BlkOk X.N X.env.scope scope nm) (hw : ∀ v ∈ nm.map (·.2), v ∉ ow) (hv : ∀ v ∈ vs', v ∈ nm.map (·.2)) (hT : ∀ it acc env, TurnIs (.ListComp elt (⟨tg, iter, ifs, 0⟩ :: gs) scope pos) 0 it acc env iter tg ifs (Wf acc env))
    (hg : ∀ m s H C cl fp, PG (Bk X scope s H C cl fp) tg (gTw X.K B m R (nm.map (·.2))))
    (h : JE X B m iter l fun (L : List α) l1 => ∃ (S : Type) (Γ : S → En) (I : Nat → S → List SD → Prop), (∀ s, Nn (Γ s) (nm.map (·.2))) ∧ (∃ s0, Wk l1 (Γ s0) ∧ I 0 s0 []) ∧ (∀ (i : Nat) (x : α), L[i]? = some x → TurnB X scope B ifs Wf vs' R Γ I i x) ∧ (∀ s ss, I L.length s ss → Φ ss (Γ s)))
    (hsw : swapsWith (.ListComp elt (⟨tg, iter, ifs, 0⟩ :: gs) scope pos) (some (.Name y py)) spos.line X.env = pure true) (hy : X.N[i]? = some y := by rfl) (hyl : X.env.scope.names.lookup y = some .local := by rfl)
    (hs : ∀ x, foldedSetIterable iter X.env x = pure x := by intro _; rfl) : JNs X B m (.Assign [.Name y py] (.ListComp elt (⟨tg, iter, ifs, 0⟩ :: gs) scope pos) spos) i l Φ :=
  (ps_setLcN (g := fun v σ H Q => ∃ m', gTw X.K B m' R (nm.map (·.2)) v σ H Q) hc hN hy hyl hsw (pi_list pe_any) ok (fun s H C cl fp => ⟨fun pins s' σ H' v u Q I r ⟨m', q⟩ => (hg m' s H C cl fp).run pins s' σ H' v u Q I r q⟩) pts_anyb pb_anyb hv hT hs).imp fun D σ H q => lcN_trL hw h σ H _ q
theorem jns_lcR1 {i : Nat} {y : Str} {py spos : Pos} {a : Expr} {p1 p2 : Pos} {R : En → Int → En → Prop} {Φ : List SD → En → Prop} (hm : X.mg "range" = none) (hc : X.calm = true) (hN : X.N.Nodup) (ok : BlkOk X.N X.env.scope scope nm) (hw : ∀ v ∈ nm.map (·.2), v ∉ ow) (hv : ∀ v ∈ vs', v ∈ nm.map (·.2)) (hT : ∀ it acc env, TurnIs (.ListComp elt (⟨tg, .Call (.Name "range" p1) [a] [] p2, ifs, 0⟩ :: gs) scope pos) 0 it acc env (.Call (.Name "range" p1) [a] [] p2) tg ifs (Wf acc env))
    (hg : ∀ m s H C cl fp, PG (Bk X scope s H C cl fp) tg (gTw X.K B m R (nm.map (·.2))))
    (h : JE X B m a l fun (n : Int) l1 => ∃ (S : Type) (Γ : S → En) (I : Nat → S → List SD → Prop), (-(2 ^ 62) ≤ n ∧ n < 2 ^ 62) ∧ (∀ s, Nn (Γ s) (nm.map (·.2))) ∧ (∃ s0, Wk l1 (Γ s0) ∧ I 0 s0 []) ∧ (∀ (i : Nat), (i : Int) < n → TurnB X scope B ifs Wf vs' R Γ I i (i : Int)) ∧ (∀ s ss, I n.toNat s ss → Φ ss (Γ s)))
    (hsw : swapsWith (.ListComp elt (⟨tg, .Call (.Name "range" p1) [a] [] p2, ifs, 0⟩ :: gs) scope pos) (some (.Name y py)) spos.line X.env = pure true) (hgl : Gl X "range" := by rfl) (hse : starEach (a :: []) X.env = (false, eval a X.env) :: starEach [] X.env := by rfl) (hs2 : starEach [a] X.env = [(false, eval a X.env)] := by rfl)
    (hy : X.N[i]? = some y := by rfl) (hyl : X.env.scope.names.lookup y = some .local := by rfl) (hs : ∀ x, foldedSetIterable (.Call (.Name "range" p1) [a] [] p2) X.env x = pure x := by intro _; rfl) : JNs X B m (.Assign [.Name y py] (.ListComp elt (⟨tg, .Call (.Name "range" p1) [a] [] p2, ifs, 0⟩ :: gs) scope pos) spos) i l Φ :=
  (ps_setLcN (g := fun v σ H Q => ∃ m', gTw X.K B m' R (nm.map (·.2)) v σ H Q) hc hN hy hyl hsw (pi_range1 hgl hm (pa_cons pe_any pa_nil hse) hs2) ok (fun s H C cl fp => ⟨fun pins s' σ H' v u Q I r ⟨m', q⟩ => (hg m' s H C cl fp).run pins s' σ H' v u Q I r q⟩) pts_anyb pb_anyb hv hT hs).imp fun D σ H q => lcN_trR1 hw h σ H _ q
theorem js_new {β : Type} [Rp β] {st : Stmt} {i : Nat} {rest : List Stmt} {D : Ends} (h : JNs X B m st i l fun ss l1 => ∃ (ds : List β) (l2 : En), ss = sds ds ∧ Put l1 i (some (sd ds)) l2 ∧ JSs X B m rest l2 D) (hw : i ∉ ow := by decide) : JSs X B m (st :: rest) l D :=
  PSs.imp (pss_cons h pss_any) fun D' σ H ⟨⟨G, E⟩, q⟩ => ⟨G, E, fun xs ss G1 H1 l1 p e1 N ⟨ds, l2, es, pt, hr⟩ => by
    subst es
    obtain ⟨G2, e2, E2, r2⟩ := N.data
    exact hr.any (E2.put r2 pt hw) q⟩
end
end
end
end Tyl
end
section
/-! the head's facts: any look at the written part, defs anywhere in it -/
namespace Tyl
open PySem PySem.Spec PyProof.Rows L2
structure DefT where
  at_ : Fg → Addr
  name : Str
  qual : Str
  params : Arguments
  body : List Stmt
  scope : Scope
  dfl : Fg → List V := fun _ => []
  sup : Option ((Fg → Addr) × Str) := none
abbrev FnV : Type := Option (Str × Str × Arguments × FuncBody × Scope × Addr × List (Str × Addr) × Addr)
def fnV (K : Fg) (a : Addr) : FnV := match K.lookup a with
  | some ⟨_, _, .func fd, _⟩ => some (fd.name, fd.qualname, fd.params, fd.body, fd.scope, fd.globals, fd.closure, fd.builtins)
  | _ => none
def DefT.val (d : DefT) : FnV := some (d.name, d.qual, d.params, .stmts d.body, d.scope, mainGlobals, [], builtinsNs)
def cellB (K : Fg) (C cc : Addr) : Bool := match K.lookup cc with
  | some ⟨_, _, .cell (some (.ref C')), _⟩ => C' == C
  | _ => false
def fileB (K : Fg) (cda : Addr) (file : Str) : Bool := match K.lookup cda with
  | some ⟨_, _, .fields vs, _⟩ => (match vs[2]? with
    | some (Value.str f _) => f == file
    | _ => false)
  | _ => false
/-- the closure of a def that says super() -/
def supB (K : Fg) (fd : FuncData) : Option ((Fg → Addr) × Str) → Bool
  | none => true
  | some (C, file) => match fd.closure, fd.code, fd.kwdefaults, fd.annotations with
    | [(n, cc)], .ref cda, .none, none => n == ("__class__" : Str) && (cellB K (C K) cc && fileB K cda file)
    | _, _, _, _ => false
/-- what is seen of a def; a closure is looked at apart -/
def DefT.see (K : Fg) (d : DefT) : FnV := if d.sup.isSome then (fnV K (d.at_ K)).map fun z => (z.1, z.2.1, z.2.2.1, z.2.2.2.1, z.2.2.2.2.1, z.2.2.2.2.2.1, [], z.2.2.2.2.2.2.2) else fnV K (d.at_ K)
def DefT.ok (K : Fg) (d : DefT) : Bool := PySem.W.keepIn K (.ref (d.at_ K)) && match K.lookup (d.at_ K) with
  | some ⟨_, _, .func fd, _⟩ => PySem.W.codeIn K fd.code d.qual && (He.dflB K fd.defaults (d.dfl K) && supB K fd d.sup)
  | _ => false
theorem DefT.funD {K : Fg} {d : DefT} (e : fnV K (d.at_ K) = d.val) (c : d.ok K = true) : ∃ fd, FunD K d.name d.qual d.params d.body d.scope (d.dfl K) [] (d.at_ K) fd := by
  obtain ⟨kp, c2⟩ := He.ba c
  unfold fnV at e
  cases q : K.lookup (d.at_ K) with
  | none => rw [q] at c2; cases c2
  | some o =>
    obtain ⟨oc, od, dt, osl⟩ := o
    rw [q] at c2 e
    cases dt with
    | func fd =>
      obtain ⟨n1, n2, n3, n4, n5, n6, n7, n8, n9, n10, n11, n12, n13, n14, n15⟩ := fd
      have e2 : (some (n1, n2, n3, n4, n5, n6, n7, n15) : FnV) = some (d.name, d.qual, d.params, .stmts d.body, d.scope, mainGlobals, [], builtinsNs) := e
      simp only [Option.some.injEq, Prod.mk.injEq] at e2
      obtain ⟨h1, h2, h3, h4, h5, h6, h7, h8⟩ := e2
      subst h1 h2 h3 h4 h5 h6 h7 h8
      obtain ⟨k1, k2⟩ := He.ba c2
      obtain ⟨k2, _⟩ := He.ba k2
      exact ⟨_, ⟨oc, od, n8, n9, n10, n11, n12, n13, n14, osl, rfl, q, k1, He.dflB_ok k2, .inl rfl⟩, kp⟩
    | _ => cases c2
abbrev AlT : Type := Bool × List FnV
def obsT (fa : List (Fg → Bool)) (fn : List DefT) (K : Fg) : AlT := ((fa.all fun f => f K) && fn.all fun d => d.ok K, fn.map fun d => d.see K)
def valT (fn : List DefT) : AlT := (true, fn.map DefT.val)
def SaysT (fa : List (Fg → Bool)) (fn : List DefT) (K : Fg) : Prop := obsT fa fn K = valT fn
def obsTG (n : Nat) (fa : List (Fg → Bool)) (fn : List DefT) (g : Addr → Option Obj) : AlT := obsT fa fn (He.frG g (He.asD g n ++ [cStatics]))
def hookT (n : Nat) (fa : List (Fg → Bool)) (fn : List DefT) : PySem.W.Hook where
  α := AlT
  obs := fun s => obsTG n fa fn s.heap.get?
  val := fun _ => valT fn
  says := fun _ h => ∃ K : Fg, K.In h ∧ SaysT fa fn K
  of := fun _ _ e => ⟨_, He.frG_in, e⟩
  keeps := fun _ _ _ ⟨K, hK, c⟩ k => ⟨K, PySem.W.Frag.In.keeps hK k, c⟩
theorem obsTG_eq {n : Nat} {fa : List (Fg → Bool)} {fn : List DefT} {g : Addr → Option Obj} {s : Shared} (h : ∀ a, g a = s.heap.get? a) : obsTG n fa fn g = (hookT n fa fn).obs s := by
  have e : g = s.heap.get? := funext h
  rw [e] <;> rfl
section
variable {fa : List (Fg → Bool)} {fn : List DefT} {K : Fg}
theorem SaysT.fact (c : SaysT fa fn K) (i : Nat) {f : Fg → Bool} (h : fa[i]? = some f := by rfl) : f K = true := by
  have c1 := (He.ba (show ((fa.all fun f => f K) && fn.all fun d => d.ok K) = true from congrArg (fun z : AlT => z.1) c)).1
  exact List.all_eq_true.mp c1 f (List.mem_of_getElem? h)
theorem SaysT.see (c : SaysT fa fn K) (i : Nat) {d : DefT} (h : fn[i]? = some d) : d.see K = d.val ∧ d.ok K = true := by
  have c2 := (He.ba (show ((fa.all fun f => f K) && fn.all fun d => d.ok K) = true from congrArg (fun z : AlT => z.1) c)).2
  have e : fn.map (fun d => d.see K) = fn.map DefT.val := congrArg (fun z : AlT => z.2) c
  have e2 : (fn.map fun d => d.see K)[i]? = (fn.map DefT.val)[i]? := by rw [e]
  rw [List.getElem?_map, List.getElem?_map, h] at e2
  exact ⟨Option.some.inj e2, List.all_eq_true.mp c2 d (List.mem_of_getElem? h)⟩
theorem SaysT.def_ (c : SaysT fa fn K) (i : Nat) {d : DefT} (h : fn[i]? = some d := by rfl) (hs : d.sup = none := by rfl) : ∃ fd, FunD K d.name d.qual d.params d.body d.scope (d.dfl K) [] (d.at_ K) fd := by
  obtain ⟨e, c2⟩ := c.see i h
  unfold DefT.see at e
  rw [hs] at e
  exact DefT.funD e c2
end
/-! ### facts -/
def faGlo (x : Str) : Fg → Bool := fun K => (He.Fa.glo x).ok K
def faFree (x : Str) : Fg → Bool := fun K => (He.Fa.free x).ok K
def faInt (x : Str) (i : Int) : Fg → Bool := fun K => (He.Fa.int x i).ok K
def faCls (x : Str) : Fg → Bool := fun K => (He.Fa.cls x).ok K
def faNoat (x f : Str) : Fg → Bool := fun K => (He.Fa.noat x f).ok K
def faMeth (x m : Str) : Fg → Bool := fun K => (He.Fa.meth x m).ok K
def faMkr (x : Str) : Fg → Bool := fun K => (He.Fa.mkr x).ok K
/-! ### a def that may be called by its name -/
structure OkF (P : Program) (w : World) (K : Fg) (mg : Str → Option Value) (base : Heap) (CX : CXT) (k : Nat) (x : Str) (ps : List Str) (sp : Sp) : Prop where
  ex : ∃ fd, FnOk P w K mg base CX k (He.ga K x) fd ps sp ∧ L2.Binds K fd ps []
  gl : mg x = some (.ref (He.ga K x))
  kp : PySem.W.keepIn K (.ref (He.ga K x)) = true
theorem OkF.mono {P : Program} {w : World} {K : Fg} {mg : Str → Option Value} {base : Heap} {CX : CXT} {j k : Nat} {x : Str} {ps : List Str} {sp : Sp} (F : OkF P w K mg base CX j x ps sp) (h : j ≤ k) : OkF P w K mg base CX k x ps sp :=
  ⟨let ⟨fd, a, b⟩ := F.ex; ⟨fd, a.mono h, b⟩, F.gl, F.kp⟩
section
variable {X : Cx} {ow : List Nat} {B : Base ow} {m : Mi} {l : En} {e : Expr} {es : List Expr} {pos p1 : Pos}
theorem je_callF {A R O : Type} [Rp R] {mask : List Bool} {args : A → List SD} {pre : A → Prop} {outs : A → O → List SD} {post : A → R → O → Prop} {CX : CXT} {k : Nat} {ps : List Str} {x : Str} {Φ : R → En → Prop}
    (F : OkF X.prog X.w X.K X.mg X.base CX k x ps (spT X.K mask args pre outs post)) (hr : Room k X.A) (hx : Passes CX X E0)
    (h : JA X B m (e :: es) l fun as l1 => ∃ (a : A) (is : List Nat), Mat l1 as (args a) is ∧ is.Nodup ∧ maskOf as = mask ∧ pre a ∧ ∀ r o, post a r o → ∃ l2, Puts l1 is (outs a o) l2 ∧ Φ r l2)
    (hg : Gl X x := by rfl) (hdb : (x == ("__debug__" : Str)) = false := by decide) (he : starEach (e :: es) X.env = (false, eval e X.env) :: starEach es X.env := by rfl) (hpl : (backTo pos (starEach es X.env)).any (·.1) = false := by rfl) :
    JE X B m (.Call (.Name x p1) (e :: es) [] pos) l Φ :=
  let ⟨fd, f, b⟩ := F.ex
  je_call f hr F.gl F.kp b hx h hg hdb he hpl
end
/-- promises of defs without own arguments; one whose first argument is own -/
abbrev spP {A R : Type} [Rp R] (K : Fg) (n : Nat) (args : A → List SD) (pre : A → Prop) (post : A → R → Prop) : Sp := spT (O := Unit) K (List.replicate n false) args pre (fun _ _ => []) (fun a r _ => post a r)
section
variable {X : Cx} {ow : List Nat} {B : Base ow} {m : Mi} {l : En} {e : Expr} {es : List Expr} {pos p1 : Pos}
theorem mask_vals : ∀ ss : List SD, maskOf (vals ss) = List.replicate ss.length false
  | [] => rfl
  | _ :: ss => congrArg (false :: ·) (mask_vals ss)
/-- the call of such a def: a its arguments' data -/
theorem je_callP {A R : Type} [Rp R] {n : Nat} {args : A → List SD} {pre : A → Prop} {post : A → R → Prop} {CX : CXT} {k : Nat} {ps : List Str} {x : Str} {Φ : R → En → Prop}
    (F : OkF X.prog X.w X.K X.mg X.base CX k x ps (spP X.K n args pre post)) (hr : Room k X.A) (hx : Passes CX X E0)
    (h : JA X B m (e :: es) l fun as l1 => ∃ a : A, as = vals (args a) ∧ (args a).length = n ∧ pre a ∧ ∀ r, post a r → Φ r l1)
    (hg : Gl X x := by rfl) (hdb : (x == ("__debug__" : Str)) = false := by decide) (he : starEach (e :: es) X.env = (false, eval e X.env) :: starEach es X.env := by rfl) (hpl : (backTo pos (starEach es X.env)).any (·.1) = false := by rfl) :
    JE X B m (.Call (.Name x p1) (e :: es) [] pos) l Φ :=
  je_callF F hr hx (PA.imp h fun σ H Q ⟨G, E, k⟩ => ⟨G, E, fun vs G1 H1 as l1 e1 E1 r1 ⟨a, ea, en, hp, hΦ⟩ => k vs G1 H1 as l1 e1 E1 r1
    ⟨a, [], by rw [ea]; exact mat_vals, List.nodup_nil, by rw [ea, mask_vals, en], hp, fun r o hpo => ⟨l1, .nil, hΦ r hpo⟩⟩⟩) hg hdb he hpl
end
end Tyl
end
section
/-! rules in the form that a program prints -/
namespace Tyl
open PySem PySem.Spec PyProof.Rows L2
def ovr (l : En) : List (Nat × Option SD) → En
  | [] => l
  | (i, x) :: r => ovr (l.set i x) r
section
variable {X : Cx} {ow : List Nat} {B : Base ow} {m : Mi}
section
variable {α β γ : Type} [Rp α] [Rp β] [Rp γ] {e a b c : Expr} {es : List Expr} {l : En} {G H : Hp} {σ : L2.St} {pos p1 p2 p3 p4 : Pos} {rest body els : List Stmt} {D : Ends}
/-! ### great numbers -/
theorem je_mulW {Φ : Int → En → Prop} (h : JE X B m a l fun (x : Int) l1 => JE X B m b l1 fun (y : Int) l2 => CMulW x y ∧ Φ (x * y) l2) : JE X B m (.BinOp a .Mult b pos) l Φ := je_iop op_mulW h
theorem je_fdivW {Φ : Int → En → Prop} (h : JE X B m a l fun (x : Int) l1 => JE X B m b l1 fun (y : Int) l2 => CDivW x y ∧ Φ (x / y) l2) : JE X B m (.BinOp a .FloorDiv b pos) l Φ := je_iop op_fdivW h
/-! ### items -/
theorem atI_of {δ : Type} {L : List δ} {i : Int} {d : δ} (h0 : 0 ≤ i) (h : L[i.toNat]? = some d) : L2.atI L i = some d := by
  have e : ((i.toNat : Nat) : Int) = i := by omega
  rw [← e]
  exact atI_nat h
theorem je_ix {Φ : α → En → Prop} (h : JE X B m a l fun (L : List α) l1 => JE X B m b l1 fun (i : Int) l2 => (0 ≤ i ∧ i < L.length) ∧ ∀ d, L[i.toNat]? = some d → Φ d l2) (hs : PlainIx b := by exact fun _ _ => rfl) : JE X B m (.Subscript a b pos) l Φ :=
  je_ixL (PE.imp h fun σ H Q ⟨G, E, k⟩ => ⟨G, E, fun v G1 H1 L l1 e1 E1 r1 hb => k v G1 H1 L l1 e1 E1 r1 (PE.imp hb fun σ H Q ⟨G, E, k⟩ => ⟨G, E, fun v G1 H1 i l2 e1 E1 r1 ⟨hi, hd⟩ => k v G1 H1 i l2 e1 E1 r1 (by
    have hlt : i.toNat < L.length := by omega
    exact ⟨L[i.toNat], atI_of hi.1 (List.getElem?_eq_getElem hlt), hd _ (List.getElem?_eq_getElem hlt)⟩)⟩)⟩) hs
theorem je_ixo {Φ : α → En → Prop} {i : Nat} {x : Str} {s0 : SD} (g : Get l i s0) (h : JE X B m b l fun (k : Int) l1 => ∃ L : List α, Get l1 i (own (sds L)) ∧ (0 ≤ k ∧ k < L.length) ∧ ∀ d, L[k.toNat]? = some d → Φ d l1) (hN : X.N[i]? = some x := by rfl) (hv : Vis X.env.scope x := by first | exact Or.inl rfl | exact Or.inr (Or.inl rfl) | exact Or.inr (Or.inr rfl))
    (hd : (x == ("__debug__" : Str)) = false := by decide) (hcd : (x == ("__classdict__" : Str)) = false := by decide) (hs : PlainIx b := by exact fun _ _ => rfl) : JE X B m (.Subscript (.Name x p1) b pos) l Φ :=
  je_ixO g (PE.imp h fun σ H Q ⟨G, E, k⟩ => ⟨G, E, fun v G1 H1 i l2 e1 E1 r1 ⟨L, g1, hi, hd⟩ => k v G1 H1 i l2 e1 E1 r1 (by
    have hlt : i.toNat < L.length := by omega
    refine ⟨sds L, L[i.toNat], g1, ?_, hd _ (List.getElem?_eq_getElem hlt)⟩
    refine atI_of hi.1 ?_
    unfold sds
    rw [List.getElem?_map, List.getElem?_eq_getElem hlt]
    rfl)⟩) hN hv hd hcd hs
theorem je_popo {Φ : α → En → Prop} {i : Nat} {x : Str} {ss0 : List SD} (g : Get l i (own ss0)) (h : JE X B m b l fun (k : Int) l1 => ∃ (L : List α), Get l1 i (own (sds L)) ∧ (0 ≤ k ∧ k < L.length ∧ k < 2 ^ 62) ∧ ∀ d, L[k.toNat]? = some d → ∃ l2, Put l1 i (some (own (sds (L.eraseIdx k.toNat)))) l2 ∧ Φ d l2)
    (hN : X.N[i]? = some x := by rfl) (hv : Vis X.env.scope x := by first | exact Or.inl rfl | exact Or.inr (Or.inl rfl) | exact Or.inr (Or.inr rfl)) (hd : (x == ("__debug__" : Str)) = false := by decide) (hcd : (x == ("__classdict__" : Str)) = false := by decide)
    (hbase : attributeBase (.Name x p1) "pop" X.env (eval (.Name x p1) X.env) = eval (.Name x p1) X.env := by rfl)
    (hfew : ((backTo pos (starEach (b :: []) X.env)).all (fun x => !x.1) && (backToKw pos (keywordEach [] X.env)).all (fun x => x.1.isSome)
      && decide ((b :: []).length + ([] : List Keyword).length + (if ([] : List Keyword).isEmpty then 0 else 1) < 30)) = true := by rfl)
    (hline : (p2.endLine == pos.line) = true := by rfl) (hs : starEach (b :: []) X.env = (false, eval b X.env) :: starEach [] X.env := by rfl) (hplain : (backTo pos (starEach [] X.env)).any (·.1) = false := by rfl) :
    JE X B m (.Call (.Attribute (.Name x p1) "pop" p2) [b] [] pos) l Φ :=
  je_popAt g (PE.imp h fun σ H Q ⟨G, E, k⟩ => ⟨G, E, fun v G1 H1 i l2 e1 E1 r1 ⟨L, g1, hi, hd⟩ => k v G1 H1 i l2 e1 E1 r1 (by
    have hlt : i.toNat < L.length := by omega
    obtain ⟨l3, pt, hφ⟩ := hd _ (List.getElem?_eq_getElem hlt)
    have er : (sds L).eraseIdx i.toNat = sds (L.eraseIdx i.toNat) := by
      unfold sds
      generalize i.toNat = n
      clear hd hφ pt g1 hi hlt r1 E1 k
      induction L generalizing n with
      | nil => rfl
      | cons a t ih =>
        cases n with
        | zero => rfl
        | succ n => exact congrArg (sd a :: ·) (ih n)
    refine ⟨sds L, i.toNat, L[i.toNat], l3, g1, by omega, by omega, ?_, by rw [er]; exact pt, hφ⟩
    unfold sds
    rw [List.getElem?_map, List.getElem?_eq_getElem hlt]
    rfl)⟩) hN hv hd hcd hbase hfew hline hs hplain
theorem sds_app (L M : List α) : sds L ++ sds M = sds (L ++ M) := by unfold sds; rw [List.map_append]
/-- xs.append(e), xs own, of one kind -/
theorem js_appo {i : Nat} {x : Str} {ss0 : List SD} (g : Get l i (own ss0)) (h : JE X B m e l fun (d : α) l1 => ∃ (L : List α) (l2 : En), Get l1 i (own (sds L)) ∧ L.length < 10000000 ∧ Put l1 i (some (own (sds (L ++ [d])))) l2 ∧ JSs X B m rest l2 D)
    (hN : X.N[i]? = some x := by rfl) (hv : Vis X.env.scope x := by first | exact Or.inl rfl | exact Or.inr (Or.inl rfl) | exact Or.inr (Or.inr rfl)) (hd : (x == ("__debug__" : Str)) = false := by decide) (hcd : (x == ("__classdict__" : Str)) = false := by decide)
    (hbase : attributeBase (.Name x p1) "append" X.env (eval (.Name x p1) X.env) = eval (.Name x p1) X.env := by rfl)
    (hfew : ((backTo p3 (starEach (e :: []) X.env)).all (fun x => !x.1) && (backToKw p3 (keywordEach [] X.env)).all (fun x => x.1.isSome)
      && decide ((e :: []).length + ([] : List Keyword).length + (if ([] : List Keyword).isEmpty then 0 else 1) < 30)) = true := by rfl)
    (hline : (p2.endLine == p3.line) = true := by rfl) (hs : starEach (e :: []) X.env = (false, eval e X.env) :: starEach [] X.env := by rfl) (hplain : (backTo p3 (starEach [] X.env)).any (·.1) = false := by rfl)
    (hsw : swapsWith (.Call (.Attribute (.Name x p1) "append" p2) [e] [] p3) none pos.line X.env = pure false := by rfl) :
    JSs X B m (.Expr (.Call (.Attribute (.Name x p1) "append" p2) [e] [] p3) pos :: rest) l D :=
  js_app g (PE.imp h fun σ H Q ⟨G, E, k⟩ => ⟨G, E, fun v G1 H1 d l2 e1 E1 r1 ⟨L, l3, g1, hz, pt, hr⟩ => k v G1 H1 d l2 e1 E1 r1 ⟨sds L, l3, g1, by unfold sds; rw [List.length_map]; exact hz, by
    have q : sds L ++ [sd d] = sds (L ++ [d]) := sds_app L [d]
    rw [q]
    exact pt, hr⟩⟩) hN hv hd hcd hbase hfew hline hs hplain hsw
theorem je_leno {Φ : Int → En → Prop} {i : Nat} {x : Str} {L : List α} (hm : X.mg "len" = none) (g : Get l i (own (sds L))) (h : Φ (L.length : Int) l) (hg : Gl X "len" := by rfl) (hN : X.N[i]? = some x := by rfl) (hv : Vis X.env.scope x := by first | exact Or.inl rfl | exact Or.inr (Or.inl rfl) | exact Or.inr (Or.inr rfl))
    (hd : (x == ("__debug__" : Str)) = false := by decide) (hcd : (x == ("__classdict__" : Str)) = false := by decide)
    (he : starEach (.Name x p2 :: []) X.env = (false, eval (.Name x p2) X.env) :: starEach [] X.env := by rfl) (hpl : (backTo pos (starEach [] X.env)).any (·.1) = false := by rfl) : JE X B m (.Call (.Name "len" p1) [.Name x p2] [] pos) l Φ :=
  je_lenO hm g (by unfold sds; rw [List.length_map]; exact h) hg hN hv hd hcd he hpl
theorem sds_set {L : List α} {j : Nat} {d : α} : (sds L).set j (sd d) = sds (L.set j d) := by
  unfold sds
  rw [List.map_set]
/-- xs[k] = e, xs own, of one kind -/
theorem js_seto {i : Nat} {x : Str} {s0 : SD} (g : Get l i s0) (h : JE X B m e l fun (d : α) l1 => ∃ s1, Get l1 i s1 ∧ JE X B m b l1 fun (k : Int) l2 => ∃ (L : List α) (l3 : En), Get l2 i (own (sds L)) ∧ (0 ≤ k ∧ k < L.length) ∧ Put l2 i (some (own (sds (L.set k.toNat d)))) l3 ∧ JSs X B m rest l3 D)
    (hN : X.N[i]? = some x := by rfl) (hv : Vis X.env.scope x := by first | exact Or.inl rfl | exact Or.inr (Or.inl rfl) | exact Or.inr (Or.inr rfl)) (hd : (x == ("__debug__" : Str)) = false := by decide) (hcd : (x == ("__classdict__" : Str)) = false := by decide)
    (ha : ∀ v, assign (.Subscript (.Name x p1) b p2) X.env v = (do
      let ov ← holding [v] (eval (.Name x p1) X.env)
      let iv ← holding [v, ov] (eval b X.env)
      standAt p2
      holding [v, ov, iv] (setItem ov iv v)
      release [v, ov, iv] []) := by intro _; rfl)
    (hs : swapsWithSole [.Subscript (.Name x p1) b p2] e pos.line X.env = pure false := by rfl) (hw : swappedStores [.Subscript (.Name x p1) b p2] e X.env = pure none := by rfl)
    (h1 : (assignEach [.Subscript (.Name x p1) b p2] X.env).map (·.2) = [assign (.Subscript (.Name x p1) b p2) X.env] := by rfl) : JSs X B m (.Assign [.Subscript (.Name x p1) b p2] e pos :: rest) l D :=
  js_setL g (PE.imp h fun σ H Q ⟨G, E, k⟩ => ⟨G, E, fun v G1 H1 d l1 e1 E1 r1 ⟨s1, g1, hb⟩ => k v G1 H1 d l1 e1 E1 r1 ⟨s1, g1, PE.imp hb fun σ H Q ⟨G, E, k⟩ => ⟨G, E, fun v G1 H1 i l2 e1 E1 r1 ⟨L, l3, g2, hi, pt, hr⟩ => k v G1 H1 i l2 e1 E1 r1 ⟨sds L, i.toNat, l3, g2, by
    unfold sds L2.ixN
    rw [List.length_map, if_pos hi.1, if_pos hi.2], by rw [sds_set]; exact pt, hr⟩⟩⟩⟩) hN hv hd hcd ha hs hw h1
/-! ### ways that meet, loops: what they change is told -/
theorem js_ifj (h : JT X B m c l fun b l1 => ∃ (S : Type) (f : S → List (Nat × Option SD)) (J : S → Prop), (b = true → JSs X B m body l1 { D with nx := NX X.K B m (fun s => ovr l1 (f s)) J }) ∧ (b = false → JSs X B m els l1 { D with nx := NX X.K B m (fun s => ovr l1 (f s)) J }) ∧ ∀ s, J s → JSs X B m rest (ovr l1 (f s)) D) : JSs X B m (.If c body els pos :: rest) l D :=
  js_ifJ (PT.imp h fun σ H Q ⟨G, E, k⟩ => ⟨G, E, fun G1 H1 b l1 e1 E1 ⟨S, f, J, hT, hF, hR⟩ => k G1 H1 b l1 e1 E1 ⟨S, fun s => ovr l1 (f s), J, hT, hF, hR⟩⟩)
theorem js_for {tg : Expr} {R : En → α → En → Prop} (hg : ∀ m, PG X tg (gT X.K B m R)) (hp : PassesOwn (model X.prog X.w) X.A X.env X.xe) (hc : X.calm = true)
    (h : JE X B m e l fun (L : List α) l1 => ∃ (S : Type) (f : S → List (Nat × Option SD)) (I : Nat → S → Prop), (∃ s0, Wk l1 (ovr l1 (f s0)) ∧ I 0 s0) ∧
      (∀ (m' : Mi) (i : Nat) (s : S) (x : α), L[i]? = some x → I i s → ∃ l2, R (ovr l1 (f s)) x l2 ∧ JSs X B m' body l2 ⟨NX X.K B m' (fun s => ovr l1 (f s)) (I (i + 1)), D.rt, fun _ _ => False, NX X.K B m' (fun s => ovr l1 (f s)) (I (i + 1))⟩) ∧ (∀ s, I L.length s → JSs X B m rest (ovr l1 (f s)) D))
    (hs : ∀ x, foldedSetIterable e X.env x = pure x := by intro _; rfl) : JSs X B m (.For tg e body [] pos :: rest) l D :=
  js_forL hg hp hc (PE.imp h fun σ H Q ⟨G, E, k⟩ => ⟨G, E, fun v G1 H1 L l1 e1 E1 r1 ⟨S, f, I, hh⟩ => k v G1 H1 L l1 e1 E1 r1 ⟨S, fun s => ovr l1 (f s), I, hh⟩⟩) hs
theorem js_range {i0 : Nat} {x : Str} (hN : X.N.Nodup) (hm : X.mg "range" = none) (hp : PassesOwn (model X.prog X.w) X.A X.env X.xe) (hc : X.calm = true)
    (h : JE X B m a l fun (n : Int) l1 => ∃ (S : Type) (f : S → List (Nat × Option SD)) (I : Nat → S → Prop), (-(2 ^ 62) ≤ n ∧ n < 2 ^ 62) ∧ (∃ s0, Wk l1 (ovr l1 (f s0)) ∧ I 0 s0) ∧
      (∀ (i : Nat) (s : S), (i : Int) < n → I i s → ∃ l2, Put (ovr l1 (f s)) i0 (some (sd (i : Int))) l2 ∧ JSs X B m body l2 ⟨NX X.K B m (fun s => ovr l1 (f s)) (I (i + 1)), D.rt, fun _ _ => False, NX X.K B m (fun s => ovr l1 (f s)) (I (i + 1))⟩) ∧ (∀ s, I n.toNat s → JSs X B m rest (ovr l1 (f s)) D))
    (hw : i0 ∉ ow := by decide) (hi : X.N[i0]? = some x := by rfl) (hx : Loc X.env.scope x := by first | exact Or.inl rfl | exact Or.inr rfl) (hf : X.fn x = true ∨ X.env.scope.names.lookup x = some .local := by first | exact .inl rfl | exact .inr rfl) (hg : Gl X "range" := by rfl)
    (hse : starEach (a :: []) X.env = (false, eval a X.env) :: starEach [] X.env := by rfl) (hs2 : starEach [a] X.env = [(false, eval a X.env)] := by rfl)
    (hs : ∀ x, foldedSetIterable (.Call (.Name "range" p1) [a] [] p2) X.env x = pure x := by intro _; rfl) : JSs X B m (.For (.Name x p3) (.Call (.Name "range" p1) [a] [] p2) body [] pos :: rest) l D :=
  js_forR1 hN hm hp hc (PE.imp h fun σ H Q ⟨G, E, k⟩ => ⟨G, E, fun v G1 H1 n l1 e1 E1 r1 ⟨S, f, I, hh⟩ => k v G1 H1 n l1 e1 E1 r1 ⟨S, fun s => ovr l1 (f s), I, hh⟩⟩) hw hi hx hf hg hse hs2 hs
theorem js_range2 {i0 : Nat} {x : Str} (hN : X.N.Nodup) (hm : X.mg "range" = none) (hp : PassesOwn (model X.prog X.w) X.A X.env X.xe) (hc : X.calm = true)
    (h : JE X B m a l fun (lo : Int) l0 => JE X B m b l0 fun (n : Int) l1 => ∃ (S : Type) (f : S → List (Nat × Option SD)) (I : Nat → S → Prop), (-(2 ^ 62) ≤ lo ∧ lo < 2 ^ 62 ∧ -(2 ^ 62) ≤ n ∧ n < 2 ^ 62) ∧ (∃ s0, Wk l1 (ovr l1 (f s0)) ∧ I 0 s0) ∧
      (∀ (i : Nat) (s : S), lo + (i : Int) < n → I i s → ∃ l2, Put (ovr l1 (f s)) i0 (some (sd (lo + (i : Int)))) l2 ∧ JSs X B m body l2 ⟨NX X.K B m (fun s => ovr l1 (f s)) (I (i + 1)), D.rt, fun _ _ => False, NX X.K B m (fun s => ovr l1 (f s)) (I (i + 1))⟩) ∧ (∀ s, I (n - lo).toNat s → JSs X B m rest (ovr l1 (f s)) D))
    (hw : i0 ∉ ow := by decide) (hi : X.N[i0]? = some x := by rfl) (hx : Loc X.env.scope x := by first | exact Or.inl rfl | exact Or.inr rfl) (hf : X.fn x = true ∨ X.env.scope.names.lookup x = some .local := by first | exact .inl rfl | exact .inr rfl) (hg : Gl X "range" := by rfl)
    (hse : starEach (a :: [b]) X.env = (false, eval a X.env) :: starEach [b] X.env := by rfl) (hse2 : starEach (b :: []) X.env = (false, eval b X.env) :: starEach [] X.env := by rfl) (hs2 : starEach [a, b] X.env = [(false, eval a X.env), (false, eval b X.env)] := by rfl) (hs3 : starEach [b] X.env = [(false, eval b X.env)] := by rfl)
    (hs : ∀ x, foldedSetIterable (.Call (.Name "range" p1) [a, b] [] p2) X.env x = pure x := by intro _; rfl) : JSs X B m (.For (.Name x p3) (.Call (.Name "range" p1) [a, b] [] p2) body [] pos :: rest) l D :=
  js_forR2 hN hm hp hc (PE.imp h fun σ H Q ⟨G, E, k⟩ => ⟨G, E, fun v G1 H1 lo l0 e1 E1 r1 hb => k v G1 H1 lo l0 e1 E1 r1 (PE.imp hb fun σ H Q ⟨G, E, k⟩ => ⟨G, E, fun v G1 H1 n l1 e1 E1 r1 ⟨S, f, I, hh⟩ => k v G1 H1 n l1 e1 E1 r1 ⟨S, fun s => ovr l1 (f s), I, hh⟩⟩)⟩) hw hi hx hf hg hse hse2 hs2 hs3 hs
end
/-! ### a def whose first argument is own -/
abbrev spO {A R O : Type} [Rp R] (K : Fg) (n : Nat) (ds : O → List SD) (args : A → List SD) (pre : O → A → Prop) (post : O → A → R → O → Prop) : Sp :=
  spT K (true :: List.replicate n false) (fun a : O × A => own (ds a.1) :: args a.2) (fun a => pre a.1 a.2) (fun _ o => [own (ds o)]) (fun a r o => post a.1 a.2 r o)
section
variable {l : En} {es : List Expr} {pos p1 p2 : Pos}
theorem je_callO {A R O : Type} [Rp R] {n : Nat} {ds : O → List SD} {args : A → List SD} {pre : O → A → Prop} {post : O → A → R → O → Prop} {CX : CXT} {k : Nat} {ps : List Str} {x y : Str} {i : Nat} {s0 : SD} {Φ : R → En → Prop}
    (F : OkF X.prog X.w X.K X.mg X.base CX k x ps (spO X.K n ds args pre post)) (hr : Room k X.A) (hx : Passes CX X E0) (g : Get l i s0)
    (h : JA X B m es l fun as l1 => ∃ (o : O) (a : A), Get l1 i (own (ds o)) ∧ as = vals (args a) ∧ (args a).length = n ∧ pre o a ∧ ∀ r o', post o a r o' → ∃ l2, Put l1 i (some (own (ds o'))) l2 ∧ Φ r l2)
    (hN : X.N[i]? = some y := by rfl) (hv : Vis X.env.scope y := by first | exact Or.inl rfl | exact Or.inr (Or.inl rfl) | exact Or.inr (Or.inr rfl)) (hd : (y == ("__debug__" : Str)) = false := by decide) (hcd : (y == ("__classdict__" : Str)) = false := by decide)
    (hg : Gl X x := by rfl) (hdb : (x == ("__debug__" : Str)) = false := by decide) (he : starEach (.Name y p2 :: es) X.env = (false, eval (.Name y p2) X.env) :: starEach es X.env := by rfl) (hpl : (backTo pos (starEach es X.env)).any (·.1) = false := by rfl) :
    JE X B m (.Call (.Name x p1) (.Name y p2 :: es) [] pos) l Φ :=
  je_callF F hr hx (ja_slot g (PA.imp h fun σ H Q ⟨G, E, k⟩ => ⟨G, E, fun vs G1 H1 as l1 e1 E1 r1 ⟨o, a, g1, ea, en, hp, hΦ⟩ => k vs G1 H1 as l1 e1 E1 r1
    ⟨(o, a), [i], by rw [ea]; exact .slot g1 flat_own mat_vals, List.nodup_cons.mpr ⟨fun h => (nomatch h), List.nodup_nil⟩, by rw [ea]; show true :: maskOf (vals (args a)) = _; rw [mask_vals, en], hp, fun r o' hpo => by
      obtain ⟨l2, pt, hφ⟩ := hΦ r o' hpo
      exact ⟨l2, .cons pt .nil, hφ⟩⟩⟩) hN hv hd hcd he) hg hdb he hpl
end
end
end Tyl
end
section
/-! tests by facts; pure comprehensions; more built-in steps -/
namespace Tyl
open PySem PySem.Spec PyProof.Rows L2
section
variable {X : Cx} {ow : List Nat} {B : Base ow} {m : Mi}
section
variable {α β γ : Type} [Rp α] [Rp β] [Rp γ] {e a b c : Expr} {es : List Expr} {l : En} {G H : Hp} {σ : L2.St} {pos p1 p2 p3 p4 : Pos} {rest body els : List Stmt} {D : Ends}
/-! ### one comparison as a test -/
theorem jt_icmp {op : CmpOp} {g : Int → Int → Bool} (ho : OpR X (compareOp op) (rI0 fun i j => .bl (g i j))) (h1 : op ≠ .In) (h2 : op ≠ .NotIn) {Φ : Bool → En → Prop}
    (h : JE X B m a l fun (x : Int) l1 => JE X B m b l1 fun (y : Int) l2 => Φ (g x y) l2) : JT X B m (.Compare a [op] [b] pos) l Φ :=
  (pt_cmpR ho h pe_any (nomark b h1 h2)).imp fun σ H Q ⟨G, E, k⟩ => ⟨G, E, fun v G1 H1 x l1 e1 E1 r1 hb => hb.any E1 fun u G2 H2 y l2 e2 E2 r2 hφ =>
    ⟨x, y, r1, r2, _, rfl, k G2 H2 _ l2 (e1.trans e2) E2 hφ⟩⟩
theorem tb_of {p : Prop} [Decidable p] {Φ : Bool → Prop} (h : (p → Φ true) ∧ (¬ p → Φ false)) : Φ (decide p) := by
  by_cases q : p
  · rw [decide_eq_true q]; exact h.1 q
  · rw [decide_eq_false q]; exact h.2 q
theorem JE.weak {Φ Ψ : α → En → Prop} (h : JE X B m e l Φ) (w : ∀ d l, Φ d l → Ψ d l) : JE X B m e l Ψ := PE.imp h fun σ H Q ⟨G, E, k⟩ => ⟨G, E, fun v G1 H1 d l1 e1 E1 r1 hφ => k v G1 H1 d l1 e1 E1 r1 (w d l1 hφ)⟩
theorem JT.weak {Φ Ψ : Bool → En → Prop} (h : JT X B m e l Φ) (w : ∀ d l, Φ d l → Ψ d l) : JT X B m e l Ψ := PT.imp h fun σ H Q ⟨G, E, k⟩ => ⟨G, E, fun G1 H1 d l1 e1 E1 hφ => k G1 H1 d l1 e1 E1 (w d l1 hφ)⟩
theorem jt_lt {Φ : Bool → En → Prop} (h : JE X B m a l fun (x : Int) l1 => JE X B m b l1 fun (y : Int) l2 => (x < y → Φ true l2) ∧ (¬ x < y → Φ false l2)) : JT X B m (.Compare a [.Lt] [b] pos) l Φ :=
  jt_icmp op_lt (by decide) (by decide) (h.weak fun x l1 h => h.weak fun y l2 h => tb_of (Φ := fun b => Φ b l2) h)
theorem jt_le {Φ : Bool → En → Prop} (h : JE X B m a l fun (x : Int) l1 => JE X B m b l1 fun (y : Int) l2 => (x ≤ y → Φ true l2) ∧ (¬ x ≤ y → Φ false l2)) : JT X B m (.Compare a [.LtE] [b] pos) l Φ :=
  jt_icmp op_le (by decide) (by decide) (h.weak fun x l1 h => h.weak fun y l2 h => tb_of (Φ := fun b => Φ b l2) h)
theorem jt_gt {Φ : Bool → En → Prop} (h : JE X B m a l fun (x : Int) l1 => JE X B m b l1 fun (y : Int) l2 => (y < x → Φ true l2) ∧ (¬ y < x → Φ false l2)) : JT X B m (.Compare a [.Gt] [b] pos) l Φ :=
  jt_icmp op_gt (by decide) (by decide) (h.weak fun x l1 h => h.weak fun y l2 h => tb_of (Φ := fun b => Φ b l2) h)
theorem jt_ge {Φ : Bool → En → Prop} (h : JE X B m a l fun (x : Int) l1 => JE X B m b l1 fun (y : Int) l2 => (y ≤ x → Φ true l2) ∧ (¬ y ≤ x → Φ false l2)) : JT X B m (.Compare a [.GtE] [b] pos) l Φ :=
  jt_icmp op_ge (by decide) (by decide) (h.weak fun x l1 h => h.weak fun y l2 h => tb_of (Φ := fun b => Φ b l2) h)
theorem jt_eq [F : Flat α] [DecidableEq α] {Φ : Bool → En → Prop} (h : JE X B m a l fun (x : α) l1 => JE X B m b l1 fun (y : α) l2 => (x = y → Φ true l2) ∧ (¬ x = y → Φ false l2)) : JT X B m (.Compare a [.Eq] [b] pos) l Φ :=
  (pt_cmpR op_eq h pe_any (nomark b)).imp fun σ H Q ⟨G, E, k⟩ => ⟨G, E, fun v G1 H1 x l1 e1 E1 r1 hb => hb.any E1 fun u G2 H2 y l2 e2 E2 r2 hφ => by
    rw [F.is r1, F.is r2]
    exact ⟨F.sc _ _, _, rfl, k G2 H2 _ l2 (e1.trans e2) E2 (by rw [flat_dec]; exact tb_of (Φ := fun b => Φ b l2) hφ)⟩⟩
theorem jt_ne [F : Flat α] [DecidableEq α] {Φ : Bool → En → Prop} (h : JE X B m a l fun (x : α) l1 => JE X B m b l1 fun (y : α) l2 => (¬ x = y → Φ true l2) ∧ (x = y → Φ false l2)) : JT X B m (.Compare a [.NotEq] [b] pos) l Φ :=
  (pt_cmpR op_ne h pe_any (nomark b)).imp fun σ H Q ⟨G, E, k⟩ => ⟨G, E, fun v G1 H1 x l1 e1 E1 r1 hb => hb.any E1 fun u G2 H2 y l2 e2 E2 r2 hφ => by
    rw [F.is r1, F.is r2]
    refine ⟨F.sc _ _, _, rfl, k G2 H2 _ l2 (e1.trans e2) E2 ?_⟩
    rw [flat_dec]
    by_cases q : x = y
    · rw [decide_eq_true q]; exact hφ.2 q
    · rw [decide_eq_false q]; exact hφ.1 q⟩
/-- a value that is a truth value, as a test -/
theorem jt_bool {Φ : Bool → En → Prop} (h : JE X B m e l fun (b : Bool) l1 => (b = true → Φ true l1) ∧ (b = false → Φ false l1)) (he : ∀ whole, isTrue e X.env whole = (do let v ← whole; standAt e.pos; holding [v] (truthy v)) := by intro _; rfl) : JT X B m e l Φ :=
  jt_val (h.weak fun b l1 h => by cases b; exact h.2 rfl; exact h.1 rfl) he
/-- the truth of a list -/
theorem jt_list {Φ : Bool → En → Prop} (h : JE X B m e l fun (L : List α) l1 => (L ≠ [] → Φ true l1) ∧ (L = [] → Φ false l1)) (he : ∀ whole, isTrue e X.env whole = (do let v ← whole; standAt e.pos; holding [v] (truthy v)) := by intro _; rfl) : JT X B m e l Φ :=
  (pt_truth h he).imp fun σ H Q ⟨G, E, k⟩ => ⟨G, E, fun v G1 H1 L l1 e1 E1 r1 hφ => by
    obtain ⟨p, xs, rfl, hp, ha⟩ := r1
    refine ⟨!xs.isEmpty, .inl ⟨xs, SqL.of (E1.ex _ _ hp), rfl⟩, k G1 H1 _ l1 e1 E1 ?_⟩
    match xs, L, ha with
    | [], [], _ => exact hφ.2 rfl
    | _ :: _, _ :: _, _ => exact hφ.1 fun z => nomatch z⟩
theorem jt_listo {Φ : Bool → En → Prop} {i : Nat} {x : Str} {L : List α} (g : Get l i (own (sds L))) (h : (L ≠ [] → Φ true l) ∧ (L = [] → Φ false l)) (hN : X.N[i]? = some x := by rfl) (hv : Vis X.env.scope x := by first | exact Or.inl rfl | exact Or.inr (Or.inl rfl) | exact Or.inr (Or.inr rfl))
    (hd : (x == ("__debug__" : Str)) = false := by decide) (hcd : (x == ("__classdict__" : Str)) = false := by decide) (he : ∀ whole, isTrue (.Name x pos) X.env whole = (do let v ← whole; standAt (Expr.Name x pos).pos; holding [v] (truthy v)) := by intro _; rfl) : JT X B m (.Name x pos) l Φ :=
  (pt_truth (pe_var (i := i) hN hv hd hcd) he).imp fun σ H Q ⟨G, E, k⟩ => by
    obtain ⟨p, xs, e1, e2, _, e3, _⟩ := E.mut g
    have ha := rows_sds e3
    refine ⟨_, e1, !xs.isEmpty, .inl ⟨xs, SqL.of e2, rfl⟩, k G H _ l (Ex.refl G) E ?_⟩
    match xs, L, ha with
    | [], [], _ => exact h.2 rfl
    | _ :: _, _ :: _, _ => exact h.1 fun z => nomatch z
/-! ### ranges as lists -/
def rgI (a b : Int) : List Int := (List.range (b - a).toNat).map fun i => a + (i : Nat)
theorem rgV_all {K : Fg} {G : Hp} (a b : Int) : All2 (Rp.rp K G) (rgV a b) (rgI a b) := by
  unfold rgV rgI
  generalize List.range (b - a).toNat = L
  induction L with
  | nil => trivial
  | cons x t ih => exact ⟨rfl, ih⟩
theorem jn_range1 {Φ : List SD → En → Prop} (hm : X.mg "list" = none) (hm2 : X.mg "range" = none) (hc : X.calm = true) (h : JE X B m a l fun (n : Int) l1 => (-1000000 < n ∧ n < 1000000) ∧ Φ (sds (rgI 0 n)) l1) (hg : Gl X "list" := by rfl) (hg2 : Gl X "range" := by rfl)
    (na : starEach [.Call (.Name "range" p1) [a] [] p2] X.env = (false, eval (.Call (.Name "range" p1) [a] [] p2) X.env) :: starEach [] X.env := by rfl) (na2 : starEach [a] X.env = (false, eval a X.env) :: starEach [] X.env := by rfl) : JN X B m (.Call (.Name "list" p3) [.Call (.Name "range" p1) [a] [] p2] [] pos) l Φ :=
  jnI (pe_listRg hc hg hm (prg_1 hg2 hm2 (pe_any (e := a)) na2) na) fun σ H Q ⟨G, E, k⟩ => h.any E fun v G1 H1 n l1 e1 E1 r1 ⟨hz, hφ⟩ =>
    ⟨n, r1, ⟨by omega, by omega, by omega, by omega, by omega⟩, fun q hq => k _ _ G1 H1 l1 e1 E1 (rows_of (rgV_all 0 n)) hφ q hq⟩
theorem jn_range2 {Φ : List SD → En → Prop} (hm : X.mg "list" = none) (hm2 : X.mg "range" = none) (hc : X.calm = true) (h : JE X B m a l fun (n : Int) l1 => JE X B m b l1 fun (k : Int) l2 => (-1000000 < n ∧ n < 1000000 ∧ -1000000 < k ∧ k < 1000000) ∧ Φ (sds (rgI n k)) l2) (hg : Gl X "list" := by rfl) (hg2 : Gl X "range" := by rfl)
    (na : starEach [.Call (.Name "range" p1) [a, b] [] p2] X.env = (false, eval (.Call (.Name "range" p1) [a, b] [] p2) X.env) :: starEach [] X.env := by rfl) (na2 : starEach [a, b] X.env = (false, eval a X.env) :: starEach [b] X.env := by rfl) (na3 : starEach [b] X.env = (false, eval b X.env) :: starEach [] X.env := by rfl) (hpl : (backTo p2 (starEach [b] X.env)).any (·.1) = false := by rfl) : JN X B m (.Call (.Name "list" p3) [.Call (.Name "range" p1) [a, b] [] p2] [] pos) l Φ :=
  jnI (pe_listRg hc hg hm (prg_2 hg2 hm2 (pe_any (e := a)) (pe_any (e := b)) na2 na3 hpl) na) fun σ H Q ⟨G, E, k⟩ => h.any E fun v G1 H1 n l1 e1 E1 r1 hb => hb.any E1 fun u G2 H2 n2 l2 e2 E2 r2 ⟨hz, hφ⟩ =>
    ⟨n, n2, r1, r2, ⟨by omega, by omega, by omega, by omega, by omega⟩, fun q hq => k _ _ G2 H2 l2 (e1.trans e2) E2 (rows_of (rgV_all n n2)) hφ q hq⟩
end
/-! ### pure comprehensions -/
theorem ptsImp {X : Cx} {es : List Expr} {t t' : TT} (h : PTs X es t) (w : ∀ σ H Q, t' σ H Q → t σ H Q) : PTs X es t' := ⟨fun pins s σ H Q I q => h.run pins s σ H Q I (w _ _ _ q)⟩
/-- the inner part appends at most N, of which Q holds; the slots are as l0 again -/
def JInF {γ : Type} [Rp γ] (X : Cx) (B : Base ow) (D : Addr) (Wf : Sem PySem.Fin → Sem PySem.Fin) (vs : List Nat) (l l0 : En) (N : Nat) (Q : List γ → Prop) : Prop :=
  ∀ ss, ss.length + N ≤ 10000000 → JIn X B D Wf vs l ss fun l4 ss4 => ∃ ds : List γ, ss4 = ss ++ sds ds ∧ ds.length ≤ N ∧ Q ds ∧ Wk l4 l0
theorem jq_elt {γ : Type} [Rp γ] {elt : Expr} {D : Addr} {l l0 : En} {Q : List γ → Prop} (hx : X.xe = fun _ _ => False) (h : ∀ m, JE X B m elt l fun (d : γ) l1 => Q [d] ∧ Wk l1 l0) : JInF X B D (LastW elt (.ref D) X.env) [] l l0 1 Q :=
  fun ss hz => ji_last hx fun m => (h m).weak fun d l1 ⟨q, w⟩ => ⟨by omega, [d], rfl, by simp, q, w⟩
theorem sds_appx {γ : Type} [Rp γ] (L M : List γ) : sds L ++ sds M = sds (L ++ M) := by unfold sds; rw [List.map_append]
theorem sds_len {γ : Type} [Rp γ] (L : List γ) : (sds L).length = L.length := by unfold sds; rw [List.length_map]
/-- what stands behind i turns -/
def TI {α γ : Type} [Rp γ] (T : α → List γ → Prop) (L : List α) (N1 : Nat) (ss : List SD) (i : Nat) (_ : Unit) (ss' : List SD) : Prop := ∃ dss, All2 T (L.take i) dss ∧ ss' = ss ++ sds dss.flatten ∧ dss.flatten.length ≤ i * N1
theorem TI.z {α γ : Type} [Rp γ] {T : α → List γ → Prop} {L : List α} {N1 : Nat} {ss : List SD} {u : Unit} : TI T L N1 ss 0 u ss := ⟨[], by simp; trivial, by simp [sds], by simp⟩
theorem TI.s {α γ : Type} [Rp γ] {T : α → List γ → Prop} {L : List α} {N1 : Nat} {ss ss1 : List SD} {i : Nat} {x : α} {ds : List γ} {u u' : Unit} (h : TI T L N1 ss i u ss1) (hx : L[i]? = some x) (ht : T x ds) (hn : ds.length ≤ N1) : TI T L N1 ss (i + 1) u' (ss1 ++ sds ds) := by
  obtain ⟨dss, h1, h2, h3⟩ := h
  refine ⟨dss ++ [ds], ?_, ?_, ?_⟩
  · have e : L.take (i + 1) = L.take i ++ [x] := by rw [List.take_add_one, hx]; rfl
    rw [e]
    exact h1.app (bs' := [ds]) ⟨ht, trivial⟩
  · rw [h2, List.append_assoc, sds_appx]
    simp
  · have e : [ds].flatten = ds := by simp
    rw [List.flatten_append, List.length_append, Nat.succ_mul, e]
    omega
theorem TI.len {α γ : Type} [Rp γ] {T : α → List γ → Prop} {L : List α} {N1 N : Nat} {ss ss1 : List SD} {i : Nat} {u : Unit} (h : TI T L N1 ss i u ss1) (hz : ss.length + N ≤ 10000000) (hN : L.length * N1 ≤ N) (hi : i < L.length) : ss1.length + N1 ≤ 10000000 := by
  obtain ⟨dss, h1, h2, h3⟩ := h
  rw [h2, List.length_append, sds_len]
  have h4 : (i + 1) * N1 ≤ L.length * N1 := Nat.mul_le_mul_right _ hi
  rw [Nat.succ_mul] at h4
  omega
section
variable {α γ : Type} [Rp α] [Rp γ] {tg iter : Expr} {ifs : List Expr}
theorem jq_levL {cp : Expr} {k : Nat} {Wf : Sem PySem.Fin → Sem PySem.Fin} {vs vs' : List Nat} {D : Addr} {R : En → α → En → Prop} {l l0 : En} {N : Nat} {Q : List γ → Prop} (hcp : ∃ e gs sc pos, cp = .ListComp e gs sc pos) (hx : X.xe = fun _ _ => False) (hc : X.calm = true) (hv : ∀ v ∈ vs, v ∉ ow) (hsub : ∀ v ∈ vs', v ∈ vs)
    (hg : ∀ m, PG X tg (gTw X.K B m R vs)) (hT : ∀ it, TurnIs cp k it (.ref D) X.env iter tg ifs Wf) (hst : StartIs X.prog X.w X.A cp k (.ref D) X.env)
    (h : ∀ m, JE X B m iter l fun (L : List α) l1 => ∃ (N1 : Nat) (T : α → List γ → Prop), L.length * N1 ≤ N ∧ Nn l1 vs ∧ Wk l1 l0 ∧ (∀ (i : Nat) (x : α), L[i]? = some x → ∃ l2, R l1 x l2 ∧ ∀ m', JTs X B m' ifs l2 fun b l3 => (b = true → JInF X B D Wf vs' l3 l1 N1 (T x)) ∧ (b = false → T x [] ∧ Wk l3 l1)) ∧ (∀ dss, All2 T L dss → Q dss.flatten))
    (hf : ∀ x, foldedSetIterable iter X.env x = pure x := by intro _; rfl) : JInF X B D (InnerW cp iter k (.ref D) X.env) vs l l0 N Q := fun ss hz =>
  ji_levL hcp hx hc hv hsub hg hT hst (fun m => (h m).weak fun L l1 ⟨N1, T, hN, nn, w, turn, done⟩ => ⟨Unit, fun _ => l1, TI T L N1 ss, fun _ => nn, ⟨(), Wk.refl _, TI.z⟩, fun i x hix s ss1 hI => by
    obtain ⟨l2, r2, ht⟩ := turn i x hix
    have hi : i < L.length := (List.getElem?_eq_some_iff.mp hix).1
    exact ⟨l2, r2, fun m' => ptsImp (ht m') fun σ H Q ⟨G, E, k⟩ => ⟨G, E, fun G1 H1 b l1 e1 E1 ⟨hT, hF⟩ => k G1 H1 b l1 e1 E1 ⟨fun hb => PB.imp (hT hb ss1 (hI.len hz hN hi)) fun σ H Nx ⟨G, g, h, acc, z1, z2, z3, z4, z5⟩ => ⟨G, g, h, acc, z1, z2, z3, z4, fun G' H' acc' l' ss' y1 y2 y3 ⟨ds, d1, d2, d3, d4⟩ => z5 G' H' acc' l' ss' y1 y2 y3 ⟨(), d4, by rw [d1]; exact hI.s hix d3 d2⟩⟩, fun hb => ⟨(), (hF hb).2, by
      have := hI.s (u' := ()) hix (hF hb).1 (Nat.zero_le _)
      simpa [sds] using this⟩⟩⟩⟩, fun s ss1 hI => by
    obtain ⟨dss, h1, h2, h3⟩ := hI
    rw [List.take_length] at h1
    exact ⟨dss.flatten, h2, Nat.le_trans h3 hN, done dss h1, w⟩⟩) hf
theorem rgI_len (n : Int) : (rgI 0 n).length = n.toNat := by unfold rgI; simp
theorem rgI_at {n : Int} {i : Nat} (h : (i : Int) < n) : (rgI 0 n)[i]? = some (i : Int) := by
  unfold rgI
  rw [List.getElem?_map, List.getElem?_range (by omega)]
  simp
theorem jq_levR1 {a : Expr} {p1 p2 : Pos} {cp : Expr} {k : Nat} {Wf : Sem PySem.Fin → Sem PySem.Fin} {vs vs' : List Nat} {D : Addr} {R : En → Int → En → Prop} {l l0 : En} {N : Nat} {Q : List γ → Prop} (hm : X.mg "range" = none) (hcp : ∃ e gs sc pos, cp = .ListComp e gs sc pos) (hx : X.xe = fun _ _ => False) (hc : X.calm = true) (hv : ∀ v ∈ vs, v ∉ ow) (hsub : ∀ v ∈ vs', v ∈ vs)
    (hg : ∀ m, PG X tg (gTw X.K B m R vs)) (hT : ∀ it, TurnIs cp k it (.ref D) X.env (.Call (.Name "range" p1) [a] [] p2) tg ifs Wf) (hst : StartIs X.prog X.w X.A cp k (.ref D) X.env)
    (h : ∀ m, JE X B m a l fun (n : Int) l1 => ∃ (N1 : Nat) (T : Int → List γ → Prop), (-1000000 < n ∧ n < 1000000) ∧ n.toNat * N1 ≤ N ∧ Nn l1 vs ∧ Wk l1 l0 ∧ (∀ (i : Int), 0 ≤ i → i < n → ∃ l2, R l1 i l2 ∧ ∀ m', JTs X B m' ifs l2 fun b l3 => (b = true → JInF X B D Wf vs' l3 l1 N1 (T i)) ∧ (b = false → T i [] ∧ Wk l3 l1)) ∧ (∀ dss, All2 T (rgI 0 n) dss → Q dss.flatten))
    (hgl : Gl X "range" := by rfl) (hse : starEach (a :: []) X.env = (false, eval a X.env) :: starEach [] X.env := by rfl) (hs2 : starEach [a] X.env = [(false, eval a X.env)] := by rfl)
    (hf : ∀ x, foldedSetIterable (.Call (.Name "range" p1) [a] [] p2) X.env x = pure x := by intro _; rfl) : JInF X B D (InnerW cp (.Call (.Name "range" p1) [a] [] p2) k (.ref D) X.env) vs l l0 N Q := fun ss hz =>
  ji_levR1 hm hcp hx hc hv hsub hg hT hst (fun m => (h m).weak fun n l1 ⟨N1, T, hn, hN, nn, w, turn, done⟩ => ⟨Unit, fun _ => l1, TI T (rgI 0 n) N1 ss, ⟨by omega, by omega⟩, fun _ => nn, ⟨(), Wk.refl _, TI.z⟩, fun i hi s ss1 hI => by
    obtain ⟨l2, r2, ht⟩ := turn i (by omega) hi
    have hix := rgI_at hi
    have hi2 : i < (rgI 0 n).length := (List.getElem?_eq_some_iff.mp hix).1
    rw [← rgI_len] at hN
    exact ⟨l2, r2, fun m' => ptsImp (ht m') fun σ H Q ⟨G, E, k⟩ => ⟨G, E, fun G1 H1 b l1 e1 E1 ⟨hT, hF⟩ => k G1 H1 b l1 e1 E1 ⟨fun hb => PB.imp (hT hb ss1 (hI.len hz hN hi2)) fun σ H Nx ⟨G, g, h, acc, z1, z2, z3, z4, z5⟩ => ⟨G, g, h, acc, z1, z2, z3, z4, fun G' H' acc' l' ss' y1 y2 y3 ⟨ds, d1, d2, d3, d4⟩ => z5 G' H' acc' l' ss' y1 y2 y3 ⟨(), d4, by rw [d1]; exact hI.s hix d3 d2⟩⟩, fun hb => ⟨(), (hF hb).2, by
      have := hI.s (u' := ()) hix (hF hb).1 (Nat.zero_le _)
      simpa [sds] using this⟩⟩⟩⟩, fun s ss1 hI => by
    obtain ⟨dss, h1, h2, h3⟩ := hI
    rw [← rgI_len, List.take_length] at h1
    exact ⟨dss.flatten, h2, Nat.le_trans h3 hN, done dss h1, w⟩⟩) hgl hse hs2 hf
section
variable {elt : Expr} {gs : List Comprehension} {scope : Scope} {nm : List (Str × Nat)} {pos : Pos} {vs' : List Nat} {Wf : Value → PySem.Env → Sem PySem.Fin → Sem PySem.Fin} {l : En} {R : En → α → En → Prop} {Φ : List SD → En → Prop}
/-- what the first clause of a pure comprehension asks -/
abbrev PureL {ow : List Nat} (X : Cx) (scope : Scope) (B : Base ow) (ifs : List Expr) (Wf : Value → PySem.Env → Sem PySem.Fin → Sem PySem.Fin) (vs vs' : List Nat) (γ : Type) [Rp γ] {α : Type} (R : En → α → En → Prop) (Φ : List SD → En → Prop) (L : List α) (l1 : En) : Prop :=
  ∃ (N1 : Nat) (T : α → List γ → Prop), L.length * N1 ≤ 10000000 ∧ Nn l1 vs ∧ (∀ (i : Nat) (x : α), L[i]? = some x → ∃ l2, R l1 x l2 ∧ ∀ m' D, JTsb X scope B m' ifs l2 fun b l3 => (b = true → ∀ s H C cl fp, JInF (Bk X scope s H C cl fp) B D (Wf (.ref D) (Bk X scope s H C cl fp).env) vs' l3 l1 N1 (T x)) ∧ (b = false → T x [] ∧ Wk l3 l1)) ∧ (∀ dss, All2 T L dss → Φ (sds dss.flatten) l1)
abbrev PureR {ow : List Nat} (X : Cx) (scope : Scope) (B : Base ow) (ifs : List Expr) (Wf : Value → PySem.Env → Sem PySem.Fin → Sem PySem.Fin) (vs vs' : List Nat) (γ : Type) [Rp γ] (R : En → Int → En → Prop) (Φ : List SD → En → Prop) (n : Int) (l1 : En) : Prop :=
  ∃ (N1 : Nat) (T : Int → List γ → Prop), (-1000000 < n ∧ n < 1000000) ∧ n.toNat * N1 ≤ 10000000 ∧ Nn l1 vs ∧ (∀ (i : Int), 0 ≤ i → i < n → ∃ l2, R l1 i l2 ∧ ∀ m' D, JTsb X scope B m' ifs l2 fun b l3 => (b = true → ∀ s H C cl fp, JInF (Bk X scope s H C cl fp) B D (Wf (.ref D) (Bk X scope s H C cl fp).env) vs' l3 l1 N1 (T i)) ∧ (b = false → T i [] ∧ Wk l3 l1)) ∧ (∀ dss, All2 T (rgI 0 n) dss → Φ (sds dss.flatten) l1)
theorem pureL_turn {L : List α} {l1 : En} {T : α → List γ → Prop} {N1 : Nat} (hN : L.length * N1 ≤ 10000000) {i : Nat} {x : α} (hix : L[i]? = some x)
    (turn : ∃ l2, R l1 x l2 ∧ ∀ m' D, JTsb X scope B m' ifs l2 fun b l3 => (b = true → ∀ s H C cl fp, JInF (Bk X scope s H C cl fp) B D (Wf (.ref D) (Bk X scope s H C cl fp).env) vs' l3 l1 N1 (T x)) ∧ (b = false → T x [] ∧ Wk l3 l1)) : TurnB X scope B ifs Wf vs' R (fun _ => l1) (TI T L N1 []) i x := fun s ss1 hI => by
  obtain ⟨l2, r2, ht⟩ := turn
  have hi : i < L.length := (List.getElem?_eq_some_iff.mp hix).1
  exact ⟨l2, r2, fun m' D s H C cl fp => ptsImp (ht m' D s H C cl fp) fun σ H Q ⟨G, E, k⟩ => ⟨G, E, fun G1 H1 b l1 e1 E1 ⟨hT, hF⟩ => k G1 H1 b l1 e1 E1 ⟨fun hb s H C cl fp => PB.imp (hT hb s H C cl fp ss1 (hI.len (N := 10000000) (by simp) hN hi)) fun σ H Nx ⟨G, g, h, acc, z1, z2, z3, z4, z5⟩ => ⟨G, g, h, acc, z1, z2, z3, z4, fun G' H' acc' l' ss' y1 y2 y3 ⟨ds, d1, d2, d3, d4⟩ => z5 G' H' acc' l' ss' y1 y2 y3 ⟨(), d4, by rw [d1]; exact hI.s hix d3 d2⟩⟩, fun hb => ⟨(), (hF hb).2, by
      have := hI.s (u' := ()) hix (hF hb).1 (Nat.zero_le _)
      simpa [sds] using this⟩⟩⟩⟩
theorem pureL_in {vs : List Nat} {L : List α} {l1 : En} (h : PureL X scope B ifs Wf vs vs' γ R Φ L l1) : ∃ (S : Type) (Γ : S → En) (I : Nat → S → List SD → Prop), (∀ s, Nn (Γ s) vs) ∧ (∃ s0, Wk l1 (Γ s0) ∧ I 0 s0 []) ∧ (∀ (i : Nat) (x : α), L[i]? = some x → TurnB X scope B ifs Wf vs' R Γ I i x) ∧ (∀ s ss, I L.length s ss → Φ ss (Γ s)) := by
  obtain ⟨N1, T, hN, nn, turn, done⟩ := h
  refine ⟨Unit, fun _ => l1, TI T L N1 [], fun _ => nn, ⟨(), Wk.refl _, TI.z⟩, fun i x hix => pureL_turn hN hix (turn i x hix), fun s ss1 ⟨dss, h1, h2, h3⟩ => ?_⟩
  rw [List.take_length] at h1
  subst h2
  exact done dss h1
theorem pureR_in {R : En → Int → En → Prop} {vs : List Nat} {n : Int} {l1 : En} (h : PureR X scope B ifs Wf vs vs' γ R Φ n l1) : ∃ (S : Type) (Γ : S → En) (I : Nat → S → List SD → Prop), (-(2 ^ 62) ≤ n ∧ n < 2 ^ 62) ∧ (∀ s, Nn (Γ s) vs) ∧ (∃ s0, Wk l1 (Γ s0) ∧ I 0 s0 []) ∧ (∀ (i : Nat), (i : Int) < n → TurnB X scope B ifs Wf vs' R Γ I i (i : Int)) ∧ (∀ s ss, I n.toNat s ss → Φ ss (Γ s)) := by
  obtain ⟨N1, T, hn, hN, nn, turn, done⟩ := h
  rw [← rgI_len] at hN
  refine ⟨Unit, fun _ => l1, TI T (rgI 0 n) N1 [], ⟨by omega, by omega⟩, fun _ => nn, ⟨(), Wk.refl _, TI.z⟩, fun i hi => pureL_turn hN (rgI_at hi) (turn i (by omega) hi), fun s ss1 ⟨dss, h1, h2, h3⟩ => ?_⟩
  rw [← rgI_len, List.take_length] at h1
  subst h2
  exact done dss h1
theorem jnf_L (hc : X.calm = true) (hN : X.N.Nodup) (ok : BlkOk X.N X.env.scope scope nm) (hw : ∀ v ∈ nm.map (·.2), v ∉ ow) (hv : ∀ v ∈ vs', v ∈ nm.map (·.2)) (hT : ∀ it acc env, TurnIs (.ListComp elt (⟨tg, iter, ifs, 0⟩ :: gs) scope pos) 0 it acc env iter tg ifs (Wf acc env))
    (hg : ∀ m s H C cl fp, PG (Bk X scope s H C cl fp) tg (gTw X.K B m R (nm.map (·.2)))) (h : JE X B m iter l fun (L : List α) l1 => PureL X scope B ifs Wf (nm.map (·.2)) vs' γ R Φ L l1)
    (hs : ∀ x, foldedSetIterable iter X.env x = pure x := by intro _; rfl) : JN X B m (.ListComp elt (⟨tg, iter, ifs, 0⟩ :: gs) scope pos) l Φ :=
  jn_lcL hc hN ok hw hv hT hg (h.weak fun L l1 h => pureL_in h) hs
theorem jnf_R1 {a : Expr} {p1 p2 : Pos} {R : En → Int → En → Prop} (hm : X.mg "range" = none) (hc : X.calm = true) (hN : X.N.Nodup) (ok : BlkOk X.N X.env.scope scope nm) (hw : ∀ v ∈ nm.map (·.2), v ∉ ow) (hv : ∀ v ∈ vs', v ∈ nm.map (·.2)) (hT : ∀ it acc env, TurnIs (.ListComp elt (⟨tg, .Call (.Name "range" p1) [a] [] p2, ifs, 0⟩ :: gs) scope pos) 0 it acc env (.Call (.Name "range" p1) [a] [] p2) tg ifs (Wf acc env))
    (hg : ∀ m s H C cl fp, PG (Bk X scope s H C cl fp) tg (gTw X.K B m R (nm.map (·.2)))) (h : JE X B m a l fun (n : Int) l1 => PureR X scope B ifs Wf (nm.map (·.2)) vs' γ R Φ n l1)
    (hgl : Gl X "range" := by rfl) (hse : starEach (a :: []) X.env = (false, eval a X.env) :: starEach [] X.env := by rfl) (hs2 : starEach [a] X.env = [(false, eval a X.env)] := by rfl)
    (hs : ∀ x, foldedSetIterable (.Call (.Name "range" p1) [a] [] p2) X.env x = pure x := by intro _; rfl) : JN X B m (.ListComp elt (⟨tg, .Call (.Name "range" p1) [a] [] p2, ifs, 0⟩ :: gs) scope pos) l Φ :=
  jn_lcR1 hm hc hN ok hw hv hT hg (h.weak fun L l1 h => pureR_in h) hgl hse hs2 hs
theorem jnsf_L {i : Nat} {y : Str} {py spos : Pos} (hc : X.calm = true) (hN : X.N.Nodup) (ok : BlkOk X.N X.env.scope scope nm) (hw : ∀ v ∈ nm.map (·.2), v ∉ ow) (hv : ∀ v ∈ vs', v ∈ nm.map (·.2)) (hT : ∀ it acc env, TurnIs (.ListComp elt (⟨tg, iter, ifs, 0⟩ :: gs) scope pos) 0 it acc env iter tg ifs (Wf acc env))
    (hg : ∀ m s H C cl fp, PG (Bk X scope s H C cl fp) tg (gTw X.K B m R (nm.map (·.2)))) (h : JE X B m iter l fun (L : List α) l1 => PureL X scope B ifs Wf (nm.map (·.2)) vs' γ R Φ L l1)
    (hsw : swapsWith (.ListComp elt (⟨tg, iter, ifs, 0⟩ :: gs) scope pos) (some (.Name y py)) spos.line X.env = pure true) (hy : X.N[i]? = some y := by rfl) (hyl : X.env.scope.names.lookup y = some .local := by rfl)
    (hs : ∀ x, foldedSetIterable iter X.env x = pure x := by intro _; rfl) : JNs X B m (.Assign [.Name y py] (.ListComp elt (⟨tg, iter, ifs, 0⟩ :: gs) scope pos) spos) i l Φ :=
  jns_lcL hc hN ok hw hv hT hg (h.weak fun L l1 h => pureL_in h) hsw hy hyl hs
theorem jnsf_R1 {i : Nat} {y : Str} {py spos : Pos} {a : Expr} {p1 p2 : Pos} {R : En → Int → En → Prop} (hm : X.mg "range" = none) (hc : X.calm = true) (hN : X.N.Nodup) (ok : BlkOk X.N X.env.scope scope nm) (hw : ∀ v ∈ nm.map (·.2), v ∉ ow) (hv : ∀ v ∈ vs', v ∈ nm.map (·.2)) (hT : ∀ it acc env, TurnIs (.ListComp elt (⟨tg, .Call (.Name "range" p1) [a] [] p2, ifs, 0⟩ :: gs) scope pos) 0 it acc env (.Call (.Name "range" p1) [a] [] p2) tg ifs (Wf acc env))
    (hg : ∀ m s H C cl fp, PG (Bk X scope s H C cl fp) tg (gTw X.K B m R (nm.map (·.2)))) (h : JE X B m a l fun (n : Int) l1 => PureR X scope B ifs Wf (nm.map (·.2)) vs' γ R Φ n l1)
    (hsw : swapsWith (.ListComp elt (⟨tg, .Call (.Name "range" p1) [a] [] p2, ifs, 0⟩ :: gs) scope pos) (some (.Name y py)) spos.line X.env = pure true) (hgl : Gl X "range" := by rfl) (hse : starEach (a :: []) X.env = (false, eval a X.env) :: starEach [] X.env := by rfl) (hs2 : starEach [a] X.env = [(false, eval a X.env)] := by rfl)
    (hy : X.N[i]? = some y := by rfl) (hyl : X.env.scope.names.lookup y = some .local := by rfl) (hs : ∀ x, foldedSetIterable (.Call (.Name "range" p1) [a] [] p2) X.env x = pure x := by intro _; rfl) : JNs X B m (.Assign [.Name y py] (.ListComp elt (⟨tg, .Call (.Name "range" p1) [a] [] p2, ifs, 0⟩ :: gs) scope pos) spos) i l Φ :=
  jns_lcR1 hm hc hN ok hw hv hT hg (h.weak fun L l1 h => pureR_in h) hsw hgl hse hs2 hy hyl hs
/-- each item's list by a function -/
theorem all2_flat {α γ : Type} {g : α → List γ} : ∀ {L : List α} {dss : List (List γ)}, All2 (fun x ds => ds = g x) L dss → dss.flatten = L.flatMap g
  | [], [], _ => rfl
  | x :: L, ds :: dss, h => by
    rw [List.flatten_cons, List.flatMap_cons, all2_flat h.2, h.1]
end
end
end
end Tyl
end
section
/-! assignments with a new name for the value; more steps -/
namespace Tyl
open PySem PySem.Spec PyProof.Rows L2
section
variable {X : Cx} {ow : List Nat} {B : Base ow} {m : Mi}
section
variable {α β γ : Type} [Rp α] [Rp β] [Rp γ] {e a b c : Expr} {es : List Expr} {l : En} {G H : Hp} {σ : L2.St} {pos p1 p2 p3 p4 : Pos} {rest body els : List Stmt} {D : Ends}
theorem JN.weak {Φ Ψ : List SD → En → Prop} (h : JN X B m e l Φ) (w : ∀ d l, Φ d l → Ψ d l) : JN X B m e l Ψ := PE.imp h fun σ H Q ⟨G, E, k⟩ => ⟨G, E, fun xs ss G1 H1 l1 p e1 N hφ => k xs ss G1 H1 l1 p e1 N (w _ _ hφ)⟩
/-- x = e; the value has a name of its own behind it -/
theorem js_asgv {i : Nat} {x : Str} (hN : X.N.Nodup) (h : JE X B m e l fun (d : α) l1 => ∀ d', d' = d → ∃ l2, Put l1 i (some (sd d')) l2 ∧ JSs X B m rest l2 D) (hw : i ∉ ow := by decide) (hi : X.N[i]? = some x := by rfl) (hx : Loc X.env.scope x := by first | exact Or.inl rfl | exact Or.inr rfl)
    (hs : swapsWith e (some (.Name x p1)) pos.line X.env = pure false := by rfl) (hf : X.fn x = true ∨ X.env.scope.names.lookup x = some .local := by first | exact .inl rfl | exact .inr rfl) : JSs X B m (.Assign [.Name x p1] e pos :: rest) l D :=
  js_asg hN (h.weak fun d l1 h => h d rfl) hw hi hx hs hf
theorem js_augv {op : Operator} {f : Int → Int → Int} {i : Nat} {x : Str} {u : Int} (ho : PIp X op (ipI f)) (hN : X.N.Nodup) (g : Get l i (sd u)) (h : JE X B m e l fun (d : Int) l1 => ∀ d', d' = f u d → ∃ l2, Put l1 i (some (sd d')) l2 ∧ JSs X B m rest l2 D) (hw : i ∉ ow := by decide) (hi : X.N[i]? = some x := by rfl)
    (hx : Loc X.env.scope x := by first | exact Or.inl rfl | exact Or.inr rfl) (hf : X.fn x = true ∨ X.env.scope.names.lookup x = some .local := by first | exact .inl rfl | exact .inr rfl) : JSs X B m (.AugAssign (.Name x p1) op e pos :: rest) l D :=
  js_aug ho hN g (h.weak fun d l1 h => h _ rfl) hw hi hx hf
/-- x = e, e a new list of one kind, own -/
theorem js_asgo {i : Nat} {x : Str} (hN : X.N.Nodup) (h : JN X B m e l fun ss l1 => ∃ L : List α, ss = sds L ∧ ∀ L', L' = L → ∃ l2, Put l1 i (some (own (sds L'))) l2 ∧ JSs X B m rest l2 D) (hw : i ∉ ow := by decide) (hi : X.N[i]? = some x := by rfl) (hx : Loc X.env.scope x := by first | exact Or.inl rfl | exact Or.inr rfl)
    (hs : swapsWith e (some (.Name x p1)) pos.line X.env = pure false := by rfl) (hf : X.fn x = true ∨ X.env.scope.names.lookup x = some .local := by first | exact .inl rfl | exact .inr rfl) : JSs X B m (.Assign [.Name x p1] e pos :: rest) l D :=
  js_asgO hN (jg_new (h.weak fun ss l1 ⟨L, es, h⟩ => by subst es; exact h L rfl)) hw hi hx hs hf
theorem NewL.own {K : Fg} {p : Addr} {xs : List V} {ss : List SD} (h : NewL K B m l G σ H p xs ss) : EnvR K B m (own ss) (.ref p) l G σ H := by
  obtain ⟨⟨fp, F, E2, Z, M⟩, r, nw, out⟩ := h
  obtain ⟨h1, h2, h3⟩ := M.h _ List.mem_cons_self
  refine ⟨[p], fp, ⟨F.ex, F.g0, F.gn, F.keep, F.dom, List.nodup_cons.mpr ⟨h3, F.nd⟩, fun a ha => ?_⟩, ⟨p, xs, rfl, h1, r, rfl⟩, E2, Z, M.g, fun q hq => ?_⟩
  · rcases List.mem_cons.mp ha with e | ha
    · subst e
      exact ⟨h2, by rw [h1]; exact (fun z => nomatch z), .inl nw⟩
    · exact F.un a ha
  · obtain ⟨a, b, c⟩ := M.h q (List.mem_cons_of_mem _ hq)
    exact ⟨a, b, fun z => (List.mem_cons.mp z).elim (out q hq) c⟩
theorem js_newo {st : Stmt} {i : Nat} (h : JNs X B m st i l fun ss l1 => ∃ (ds : List β), ss = sds ds ∧ ∀ ds', ds' = ds → ∃ l2, Put l1 i (some (own (sds ds'))) l2 ∧ JSs X B m rest l2 D) (hw : i ∉ ow := by decide) : JSs X B m (st :: rest) l D :=
  PSs.imp (pss_cons h pss_any) fun D' σ H ⟨⟨G, E⟩, q⟩ => ⟨G, E, fun xs ss G1 H1 l1 p e1 N ⟨ds, es, k⟩ => by
    subst es
    obtain ⟨l2, pt, hr⟩ := k ds rfl
    exact hr.any (N.own.put pt hw) q⟩
theorem js_newv {st : Stmt} {i : Nat} (h : JNs X B m st i l fun ss l1 => ∃ (ds : List β), ss = sds ds ∧ ∀ ds', ds' = ds → ∃ l2, Put l1 i (some (sd ds')) l2 ∧ JSs X B m rest l2 D) (hw : i ∉ ow := by decide) : JSs X B m (st :: rest) l D :=
  PSs.imp (pss_cons h pss_any) fun D' σ H ⟨⟨G, E⟩, q⟩ => ⟨G, E, fun xs ss G1 H1 l1 p e1 N ⟨ds, es, k⟩ => by
    subst es
    obtain ⟨l2, pt, hr⟩ := k ds rfl
    obtain ⟨G2, e2, E2, r2⟩ := N.data
    exact hr.any (E2.put r2 pt hw) q⟩
/-- ways that meet; what stands behind them is said first -/
theorem js_ifm {S : Type} (f : S → List (Nat × Option SD)) (J : S → Prop) (hr : ∀ s, J s → JSs X B m rest (ovr l (f s)) D)
    (h : JT X B m c l fun b l1 => (b = true → JSs X B m body l1 { D with nx := NX X.K B m (fun s => ovr l (f s)) J }) ∧ (b = false → JSs X B m els l1 { D with nx := NX X.K B m (fun s => ovr l (f s)) J })) : JSs X B m (.If c body els pos :: rest) l D :=
  js_ifJ (h.weak fun b l1 ⟨h1, h2⟩ => ⟨S, fun s => ovr l (f s), J, h1, h2, hr⟩)
/-- nothing is said of the value -/
theorem je_any {Φ : Any → En → Prop} (h : JE X B m e l fun (_ : α) l1 => Φ ⟨⟩ l1) : JE X B m e l Φ := PE.imp h fun σ H Q ⟨G, E, k⟩ => ⟨G, E, fun v G1 H1 d l1 e1 E1 r1 hφ => k v G1 H1 ⟨⟩ l1 e1 E1 trivial hφ⟩
/-! ### list.index, list.insert, reversed, all -/
theorem flat_ints : ∀ {xs : List V} {L : List Int}, All2 (fun (v : V) (a : Int) => v = .int a) xs L → xs.all flatV = true
  | [], [], _ => rfl
  | v :: xs, a :: L, ⟨h1, h2⟩ => by
    subst h1
    exact flat_ints (xs := xs) (L := L) h2
theorem idx_of {xs : List V} {L : List Int} {d : Int} (h : All2 (fun (v : V) (a : Int) => v = .int a) xs L) (hd : d ∈ L) : xs.all flatV = true ∧ ∃ j : Nat, xs[j]? = some (.int d) ∧ L[j]? = some d ∧ (∀ k < j, L[k]? ≠ some d) ∧ ∀ (k : Nat) (z : V), k < j → xs[k]? = some z → eqV z (.int d) = false := by
  induction L generalizing xs with
  | nil => cases hd
  | cons a L ih =>
    match xs, h with
    | v :: xs, h =>
      obtain ⟨h1, h2⟩ := h
      subst h1
      by_cases e : a = d
      · subst e
        exact ⟨flat_ints (L := a :: L) ⟨rfl, h2⟩, 0, rfl, rfl, fun k hk => absurd hk (Nat.not_lt_zero _), fun k z hk => absurd hk (Nat.not_lt_zero _)⟩
      · have hm : d ∈ L := (List.mem_cons.mp hd).resolve_left fun q => e q.symm
        obtain ⟨f, j, q1, q2, q3, q4⟩ := ih h2 hm
        refine ⟨flat_ints (L := a :: L) ⟨rfl, h2⟩, j + 1, by simpa using q1, by simpa using q2, fun k hk => ?_, fun k z hk hz => ?_⟩
        · cases k with
          | zero => simpa using e
          | succ k => simpa using q3 k (by omega)
        · cases k with
          | zero =>
            simp at hz
            subst hz
            show (a == d) = false
            simpa using e
          | succ k => exact q4 k z (by omega) (by simpa using hz)
theorem je_indexo {Φ : Int → En → Prop} {i : Nat} {x : Str} {s0 : SD} (g : Get l i s0) (h : JE X B m b l fun (d : Int) l1 => ∃ (L : List Int), Get l1 i (own (sds L)) ∧ d ∈ L ∧ ∀ j : Nat, (L[j]? = some d ∧ ∀ k < j, L[k]? ≠ some d) → Φ (j : Int) l1)
    (hN : X.N[i]? = some x := by rfl) (hv : Vis X.env.scope x := by first | exact Or.inl rfl | exact Or.inr (Or.inl rfl) | exact Or.inr (Or.inr rfl)) (hd : (x == ("__debug__" : Str)) = false := by decide) (hcd : (x == ("__classdict__" : Str)) = false := by decide)
    (g0 : ∀ K G H v f, s0.P K G H v f → ∃ p, v = .ref p ∧ ∃ xs, H p = some (.lst xs) := by exact fun K G H v f ⟨p, xs, h1, h2, _⟩ => ⟨p, h1, xs, h2⟩)
    (hbase : attributeBase (.Name x p1) "index" X.env (eval (.Name x p1) X.env) = eval (.Name x p1) X.env := by rfl)
    (hfew : ((backTo pos (starEach (b :: []) X.env)).all (fun x => !x.1) && (backToKw pos (keywordEach [] X.env)).all (fun x => x.1.isSome)
      && decide ((b :: []).length + ([] : List Keyword).length + (if ([] : List Keyword).isEmpty then 0 else 1) < 30)) = true := by rfl)
    (hline : (p2.endLine == pos.line) = true := by rfl) (hs : starEach (b :: []) X.env = (false, eval b X.env) :: starEach [] X.env := by rfl) (hplain : (backTo pos (starEach [] X.env)).any (·.1) = false := by rfl) :
    JE X B m (.Call (.Attribute (.Name x p1) "index" p2) [b] [] pos) l Φ :=
  (pe_bm PySem.F.plainAttrs_list PySem.F.slot_list_index PySem.F.type_list_index mt_index (pe_var (i := i) hN hv hd hcd) (pa_cons h pa_nil hs) hbase hfew hline hs hplain).imp fun σ H Q ⟨G, E, k⟩ => by
    obtain ⟨v, f, e1, hP⟩ := E.get g
    obtain ⟨p, rfl, xs, e2⟩ := g0 _ _ _ _ _ hP
    refine ⟨_, e1, .inl ⟨rfl, _, SqL.of e2⟩, G, E, fun u G2 H2 n l1 q2 E2 r2 ⟨L, g2, hm, hφ⟩ => ?_⟩
    obtain ⟨p', xs', e1', h1, _, h3, _⟩ := E2.mut g2
    rw [e1] at e1'
    have ep : p = p' := by injection Option.some.inj (Option.some.inj e1')
    subst ep
    cases r2
    obtain ⟨fl, j, q1, q2', q3, q4⟩ := idx_of (xs := xs') (rows_sds h3) hm
    exact ⟨p, xs', .int n, j, .int n, rfl, rfl, SqL.of h1, rfl, fl, q1, by show (n == n) = true; simp, q4, k _ G2 _ _ l1 q2 E2 rfl (hφ j ⟨q2', q3⟩)⟩
theorem sds_ins {L : List α} {i : Nat} {d : α} : (sds L).take i ++ [sd d] ++ (sds L).drop i = sds (L.take i ++ [d] ++ L.drop i) := by
  unfold sds
  simp [List.map_take, List.map_drop]
theorem js_inso {i : Nat} {x : Str} {s0 : SD} (g : Get l i s0) (h : JE X B m a l fun (k : Int) l1 => JE X B m e l1 fun (d : α) l2 => ∃ (L : List α) (l3 : En), Get l2 i (own (sds L)) ∧ (0 ≤ k ∧ k < 2 ^ 62 ∧ L.length < 10000000) ∧ Put l2 i (some (own (sds (L.take k.toNat ++ [d] ++ L.drop k.toNat)))) l3 ∧ JSs X B m rest l3 D)
    (g0 : ∀ K G H v f, s0.P K G H v f → ∃ p, v = .ref p ∧ ∃ xs, H p = some (.lst xs) := by exact fun K G H v f ⟨p, xs, h1, h2, _⟩ => ⟨p, h1, xs, h2⟩)
    (hN : X.N[i]? = some x := by rfl) (hv : Vis X.env.scope x := by first | exact Or.inl rfl | exact Or.inr (Or.inl rfl) | exact Or.inr (Or.inr rfl)) (hd : (x == ("__debug__" : Str)) = false := by decide) (hcd : (x == ("__classdict__" : Str)) = false := by decide)
    (hbase : attributeBase (.Name x p1) "insert" X.env (eval (.Name x p1) X.env) = eval (.Name x p1) X.env := by rfl)
    (hfew : ((backTo p3 (starEach (a :: [e]) X.env)).all (fun x => !x.1) && (backToKw p3 (keywordEach [] X.env)).all (fun x => x.1.isSome)
      && decide ((a :: [e]).length + ([] : List Keyword).length + (if ([] : List Keyword).isEmpty then 0 else 1) < 30)) = true := by rfl)
    (hline : (p2.endLine == p3.line) = true := by rfl) (hs : starEach (a :: [e]) X.env = (false, eval a X.env) :: starEach [e] X.env := by rfl) (hs2 : starEach (e :: []) X.env = (false, eval e X.env) :: starEach [] X.env := by rfl) (hplain : (backTo p3 (starEach [e] X.env)).any (·.1) = false := by rfl)
    (hsw : swapsWith (.Call (.Attribute (.Name x p1) "insert" p2) [a, e] [] p3) none pos.line X.env = pure false := by rfl) :
    JSs X B m (.Expr (.Call (.Attribute (.Name x p1) "insert" p2) [a, e] [] p3) pos :: rest) l D :=
  PSs.imp (pss_cons (ps_expr (pe_bm PySem.F.plainAttrs_list PySem.F.slot_list_insert PySem.F.type_list_insert mt_insert (pe_var (i := i) hN hv hd hcd) (pa_cons h (pa_cons pe_any pa_nil hs2) hs) hbase hfew hline hs hplain) hsw) pss_any) fun D' σ H ⟨⟨G, E⟩, q⟩ => by
    obtain ⟨v, f, e1, hP⟩ := E.get g
    obtain ⟨p, rfl, xs, e2⟩ := g0 _ _ _ _ _ hP
    refine ⟨_, e1, .inl ⟨rfl, _, SqL.of e2⟩, G, E, fun u G1 H1 kk l1 q1 E1 r1 hb => hb.any E1 fun u2 G2 H2 d l2 q2 E2 r2 ⟨L, l3, g2, ⟨z1, z2, z3⟩, pt, hr⟩ => ?_⟩
    obtain ⟨p', xs', e1', h1, _, h3, mu⟩ := E2.mut g2
    rw [e1] at e1'
    have ep : p = p' := by injection Option.some.inj (Option.some.inj e1')
    subst ep
    cases r1
    have hl : xs'.length = L.length := by rw [h3.len, sds_len]
    refine ⟨p, xs', kk, u2, rfl, rfl, h1, Nat.lt_of_lt_of_le (by omega) (show 10000000 ≤ sizeLine by decide), z1, by omega, hr.any (mu _ _ _ ?_ pt) q⟩
    rw [← sds_ins]
    exact ((h3.take _).app (as' := [u2]) (bs' := [sd d]) ⟨pr_sd r2, trivial⟩).app (h3.drop _)
theorem jn_rev {Φ : List SD → En → Prop} {k : Nat} (h : JE X B m a l fun (L : List α) l1 => Φ (sds L.reverse) l1) : JN X B m (.Subscript a (.Slice none none (some (.UnaryOp .USub (.Constant (.int 1) k p1) p2)) p3) pos) l Φ :=
  jnI (pe_revL h) fun σ H Q ⟨G, E, k⟩ => ⟨G, E, fun v G1 H1 L l1 e1 E1 r1 hφ => by
    obtain ⟨p, xs, rfl, hp, ha⟩ := r1
    exact ⟨p, xs, rfl, SqL.of (E1.ex _ _ hp), fun q hq => k _ _ G1 H1 l1 e1 E1 (rows_of ha.rev) hφ q hq⟩⟩
theorem je_all {Φ : Bool → En → Prop} (hm : X.mg "all" = none) (hc : X.calm = true) (h : JE X B m a l fun (L : List Bool) l1 => Φ (L.all id) l1) (hg : Gl X "all" := by rfl)
    (he : starEach (a :: []) X.env = (false, eval a X.env) :: starEach [] X.env := by rfl) (hpl : (backTo pos (starEach [] X.env)).any (·.1) = false := by rfl) : JE X B m (.Call (.Name "all" p1) [a] [] pos) l Φ :=
  (pe_callB (cr_all hc) hg hm (by decide +kernel) (pa_cons h pa_nil he) (by decide) (by decide) he hpl).imp fun σ H Q ⟨G, E, k⟩ => ⟨G, E, fun v G1 H1 L l1 e1 E1 r1 hφ => by
    obtain ⟨p, xs, rfl, hp, ha⟩ := r1
    have ex : xs = L.map V.bl := by
      clear hp hφ k
      induction L generalizing xs with
      | nil => match xs, ha with
        | [], _ => rfl
      | cons b L ih => match xs, ha with
        | v :: xs, ha => rw [List.map_cons, ← ih xs ha.2, ha.1]
    exact ⟨p, L, rfl, by rw [← ex]; exact SqL.of (E1.ex _ _ hp), k _ G1 H1 _ l1 e1 E1 rfl hφ⟩⟩
end
end
end Tyl
end
section
/-! loops over tuples -/
namespace Tyl
open PySem PySem.Spec PyProof.Rows L2
section
variable {X : Cx} {ow : List Nat} {B : Base ow} {m : Mi} {a b c : Expr} {l : En} {pos : Pos}
/-- a < b < c .. as a test, by facts -/
theorem jt_ch {op op' : CmpOp} (P Q : Int → Int → Prop) [dP : ∀ i j, Decidable (P i j)] [dQ : ∀ i j, Decidable (Q i j)] (ho : OpR X (compareOp op) (rI0 fun i j => .bl (decide (P i j)))) (ho' : OpR X (compareOp op') (rI0 fun i j => .bl (decide (Q i j)))) {Φ : Bool → En → Prop}
    (h : JE X B m a l fun (x : Int) l1 => JE X B m b l1 fun (y : Int) l2 => (¬ P x y → Φ false l2) ∧ (P x y → JE X B m c l2 fun (z : Int) l3 => (Q y z → Φ true l3) ∧ (¬ Q y z → Φ false l3)))
    (hm : lastMarks [op, op'] [b, c] = false := by with_unfolding_all rfl) : JT X B m (.Compare a [op, op'] [b, c] pos) l Φ :=
  jt_chain ho ho' (h.weak fun x l1 h => h.weak fun y l2 ⟨hF, hT⟩ => ⟨fun q => hF (of_decide_eq_false q), fun q => (hT (of_decide_eq_true q)).weak fun z l3 h => tb_of (Φ := fun b => Φ b l3) h⟩) fun ha hb hc => pt_chain ho ho' ha hb hc hm
end
/-- a tuple of items of one kind -/
class Tup (τ : Type) (α : outParam Type) [Rp τ] [Rp α] where
  its : τ → List α
  is : ∀ {K : Fg} {G : Hp} {v : V} {d : τ}, Rp.rp K G v d → ∃ p xs, v = .ref p ∧ G p = some (.tup xs) ∧ All2 (Rp.rp K G) xs (its d)
instance {α : Type} [Rp α] : Tup (α × α) α := ⟨fun d => [d.1, d.2], fun ⟨p, x, y, h1, h2, h3, h4⟩ => ⟨p, [x, y], h1, h2, h3, h4, trivial⟩⟩
instance {α : Type} [Rp α] : Tup (T3 α α α) α := ⟨fun d => [d.a, d.b, d.c], fun ⟨p, x, y, z, h1, h2, h3, h4, h5⟩ => ⟨p, [x, y, z], h1, h2, h3, h4, h5, trivial⟩⟩
section
variable {X : Cx} {ow : List Nat} {B : Base ow} {m : Mi}
section
variable {α τ : Type} [Rp α] [Rp τ] [Tu : Tup τ α] {e a b c : Expr} {es : List Expr} {l : En} {G H : Hp} {σ : L2.St} {pos p1 p2 p3 p4 : Pos} {rest body els : List Stmt} {D : Ends}
theorem js_forT {tg : Expr} {R : En → α → En → Prop} (hg : ∀ m, PG X tg (gT X.K B m R)) (hp : PassesOwn (model X.prog X.w) X.A X.env X.xe) (hc : X.calm = true)
    (h : JE X B m e l fun (L : τ) l1 => ∃ (S : Type) (f : S → List (Nat × Option SD)) (I : Nat → S → Prop), (∃ s0, Wk l1 (ovr l1 (f s0)) ∧ I 0 s0) ∧
      (∀ (m' : Mi) (i : Nat) (s : S) (x : α), (Tu.its L)[i]? = some x → I i s → ∃ l2, R (ovr l1 (f s)) x l2 ∧ JSs X B m' body l2 ⟨NX X.K B m' (fun s => ovr l1 (f s)) (I (i + 1)), D.rt, fun _ _ => False, NX X.K B m' (fun s => ovr l1 (f s)) (I (i + 1))⟩) ∧ (∀ s, I (Tu.its L).length s → JSs X B m rest (ovr l1 (f s)) D))
    (hs : ∀ x, foldedSetIterable e X.env x = pure x := by intro _; rfl) : JSs X B m (.For tg e body [] pos :: rest) l D := by
  refine PSs.imp (pss_cons (ps_for (g := fun v σ H Q => ∃ m', gT X.K B m' R v σ H Q) hp hc (pi_tup h) ⟨fun pins s σ H v u Q I r ⟨m', q⟩ => (hg m').run pins s σ H v u Q I r q⟩ (pss_any (e := body)) hs) (pss_any (e := rest))) fun D' σ H ⟨⟨G, E⟩, q1, q2, q3, q4⟩ => ?_
  refine ⟨G, E, fun v G1 H1 L l1 e1 E1 r1 ⟨S, f, I, ⟨s0, w0, i0⟩, turn, done⟩ => ?_⟩
  obtain ⟨p, xs, rfl, hp, ha⟩ := Tu.is r1
  refine ⟨p, rfl, ⟨xs, SqT.of (E1.ex _ _ hp)⟩, ?_⟩
  refine for_tup (K := X.K) (a := p) (xs := xs) (g := fun v σ H Q => ∃ m', gT X.K B m' R v σ H Q) (tb := anySs X body) (D := { D' with nx := anySs X rest D' }) (fun i σ H => ∃ s G2, Ex G1 G2 ∧ EnvOk X.K B ⟨G1, m.h⟩ (ovr l1 (f s)) G2 σ H ∧ I i s) ⟨s0, G1, Ex.refl _, ?_, i0⟩ (fun i σ H _ ⟨s, G2, e, E2, _⟩ => SqT.of (E2.ex _ _ (e _ _ hp))) (fun i x σ H hx ⟨s, G2, e, E2, ii⟩ => ?_) fun σ H ⟨s, G2, e, E2, ii⟩ => ?_
  · obtain ⟨fp, F, E, X, M⟩ := E1.wk w0
    exact ⟨fp, F, E, X, Ex.refl _, M.h⟩
  · obtain ⟨d, hd, rd⟩ := ha.left hx
    obtain ⟨l2, r2, hb⟩ := turn ⟨G1, m.h⟩ i s d hd ii
    refine ⟨⟨G1, m.h⟩, G2, ovr l1 (f s), d, l2, E2, Rp.mono e rd, r2, fun σ' E' => hb.any E' ⟨fun σ H ⟨s, G, E, j⟩ => ?_, q2, fun _ _ z => z.elim, fun σ H ⟨s, G, E, j⟩ => ?_⟩⟩
    · obtain ⟨_, _, _, _, M⟩ := id E; exact ⟨s, G, M.g, E, j⟩
    · obtain ⟨_, _, _, _, M⟩ := id E; exact ⟨s, G, M.g, E, j⟩
  · rw [ha.len] at ii
    obtain ⟨fp, F, E, X, M⟩ := E2
    have M0 : Ex m.g G1 := by obtain ⟨_, _, _, _, z⟩ := E1; exact z.g
    exact (done s ii).any ⟨fp, F, E, X, M0.trans M.g, M.h⟩ ⟨q1, q2, q3, q4⟩
end
end
end Tyl
end
section
/-! objects of own classes -/
namespace Tyl
open PySem PySem.Spec PyProof.Rows L2
/-- fields and what they hold -/
def FR (K : Fg) (G : Hp) (vs : List (Str × V)) (fs : List (Str × SD)) : Prop := All2 (fun (x : Str × V) (y : Str × SD) => x.1 = y.1 ∧ PR K G x.2 y.2) vs fs
theorem FR.mono {K : Fg} {G G' : Hp} (e : Ex G G') {vs : List (Str × V)} {fs : List (Str × SD)} (h : FR K G vs fs) : FR K G' vs fs := All2.imp (fun _ _ h => ⟨h.1, h.2.mono e⟩) h
/-- an object that the def may change -/
def obj (C : Fg → Addr) (fs : List (Str × SD)) : SD where
  P := fun K G H v f => ∃ a dx vs, v = .ref a ∧ H a = some (.ins (C K) dx vs) ∧ FR K G vs fs ∧ f = [a]
  mono := fun e k ⟨a, dx, vs, h1, h2, h3, h4⟩ => ⟨a, dx, vs, h1, by rw [k a (by rw [h4]; exact List.mem_cons_self)]; exact h2, h3.mono e, h4⟩
  dom := fun ⟨a, dx, vs, h1, h2, h3, h4⟩ b hb => by
    rw [h4] at hb
    rw [List.mem_singleton.mp hb, h2]; exact fun z => nomatch z
theorem flat_obj {C : Fg → Addr} {fs : List (Str × SD)} : FlatS (obj C fs) := fun K G H v f ⟨a, dx, vs, h1, _, _, h4⟩ b hb => by
  rw [h4] at hb
  rw [h1, List.mem_singleton.mp hb]
def putS (f : Str) (s : SD) : List (Str × SD) → List (Str × SD)
  | [] => [(f, s)]
  | (g, x) :: r => if g = f then (g, s) :: r else (g, x) :: putS f s r
theorem FR.put {K : Fg} {G : Hp} {f : Str} {v : V} {s : SD} (h : PR K G v s) : ∀ {vs : List (Str × V)} {fs : List (Str × SD)}, FR K G vs fs → FR K G (putF f v vs) (putS f s fs)
  | [], [], _ => ⟨⟨rfl, h⟩, trivial⟩
  | (g, x) :: vs, (g', y) :: fs, ⟨⟨e, q⟩, r⟩ => by
    have e' : g = g' := e
    subst e'
    unfold putF putS
    by_cases c : g = f
    · rw [if_pos c, if_pos c]; exact ⟨⟨rfl, h⟩, r⟩
    · rw [if_neg c, if_neg c]; exact ⟨⟨rfl, q⟩, FR.put h r⟩
theorem FR.get {K : Fg} {G : Hp} {f : Str} {s : SD} : ∀ {vs : List (Str × V)} {fs : List (Str × SD)}, FR K G vs fs → fs.lookup f = some s → ∃ v, vs.lookup f = some v ∧ PR K G v s
  | [], [], _, e => nomatch e
  | (g, x) :: vs, (g', y) :: fs, ⟨⟨e, q⟩, r⟩, h => by
    have e' : g = g' := e
    subst e'
    rw [List.lookup_cons] at h ⊢
    cases c : f == g with
    | true =>
      rw [c] at h
      cases h
      exact ⟨x, rfl, q⟩
    | false =>
      rw [c] at h
      exact FR.get r h
/-- data that is an object -/
class Rec (α : Type) [Rp α] (C : outParam (Fg → Addr)) where
  fs : α → List (Str × SD)
  is : ∀ {K : Fg} {G : Hp} {v : V} {d : α}, Rp.rp K G v d → ∃ a dx vs, v = .ref a ∧ G a = some (.ins (C K) dx vs) ∧ FR K G vs (fs d)
section
variable {X : Cx} {ow : List Nat} {B : Base ow} {m : Mi}
section
variable {α β : Type} [Rp α] [Rp β] {C : Fg → Addr} {e o a b : Expr} {es : List Expr} {l l1 : En} {G H : Hp} {σ : L2.St} {pos p1 p2 p3 p4 : Pos} {rest body els : List Stmt} {D : Ends} {f x : Str} {i : Nat} {K : Fg} {s : SD} {v : V}
theorem EnvOk.mutO {fs : List (Str × SD)} (E : EnvOk K B m l G σ H) (g : Get l i (obj C fs)) : ∃ a dx vs, σ[i]? = some (some (.ref a)) ∧ H a = some (.ins (C K) dx vs) ∧ FR K G vs fs ∧
    ∀ dx' vs' fs' l2, FR K G vs' fs' → Put l i (some (obj C fs')) l2 → EnvOk K B m l2 G σ (upd H a (.ins (C K) dx' vs')) := by
  obtain ⟨fp, F, E, X, M⟩ := E
  have e := g.to
  obtain ⟨f, r, p1, g1, u1, _⟩ := E.split (i := i) (List.getElem?_eq_some_iff.mp e).1
  obtain ⟨v, e1, p, dx, vs, e2, e3, e4, e5⟩ := g1 _ e
  subst e2 e5
  have F1 := F.perm p1.symm
  refine ⟨p, dx, vs, e1, e3, e4, fun dx' vs' fs' l2 h' pt => ?_⟩
  obtain ⟨q1, q2⟩ := pt.to
  have nr : ∀ a ∈ r, a ≠ p := fun a ha z => (List.nodup_cons.mp F1.nd).1 (z ▸ ha)
  obtain ⟨fp', w1, w2⟩ := u1 G (upd H p (.ins (C K) dx' vs')) (obj C fs') (.ref p) [p] (Ex.refl G) (fun a ha => upd_ne (nr a ha)) ⟨p, dx', vs', rfl, upd_same, h', rfl⟩
  have sg : σ.set i (some (.ref p)) = σ := by
    obtain ⟨hlt, hv⟩ := List.getElem?_eq_some_iff.mp e1
    rw [← hv]
    exact List.set_getElem_self hlt
  rw [sg] at w2
  rw [q1]
  exact ⟨fp', (F1.mut List.mem_cons_self).perm w1, w2, X, (M.mut (p1.mem_iff.mpr List.mem_cons_self)).sub fun a ha => p1.mem_iff.mpr (w1.mem_iff.mp ha)⟩
/-- self.f = e -/
theorem js_fld {fs0 : List (Str × SD)} (g : Get l i (obj C fs0)) (hc : Cls X.K (C X.K)) (hn : NoAttr X.K (C X.K) f) (h : JE X B m e l fun (d : α) l1 => ∃ (fs : List (Str × SD)) (l2 : En), Get l1 i (obj C fs) ∧ fs.length < 1000 ∧ Put l1 i (some (obj C (putS f (sd d) fs))) l2 ∧ JSs X B m rest l2 D)
    (hN : X.N[i]? = some x := by rfl) (hv : Vis X.env.scope x := by first | exact Or.inl rfl | exact Or.inr (Or.inl rfl) | exact Or.inr (Or.inr rfl)) (hd : (x == ("__debug__" : Str)) = false := by decide) (hcd : (x == ("__classdict__" : Str)) = false := by decide)
    (hs : swapsWith e (some (.Attribute (.Name x p1) f p2)) pos.line X.env = pure false := by rfl) : JSs X B m (.Assign [.Attribute (.Name x p1) f p2] e pos :: rest) l D :=
  PSs.imp (pss_cons (ps_fld (pe_var (i := i) hN hv hd hcd) h hs) pss_any) fun D' σ H ⟨⟨G, E⟩, q⟩ => ⟨G, E, fun v G1 H1 d l1 e1 E1 r1 ⟨fs, l2, g1, hz, pt, hr⟩ => by
    obtain ⟨a, dx, vs, q1, q2, q3, mu⟩ := E1.mutO g1
    exact ⟨_, q1, a, C X.K, dx, vs, rfl, q2, hc, hn, by rw [q3.len]; exact hz, hr.any (mu dx _ _ _ (q3.put (pr_sd r1)) pt) q⟩⟩
/-- self.f, self own -/
theorem je_fldo {Φ : α → En → Prop} {fs : List (Str × SD)} {d : α} (g : Get l i (obj C fs)) (hc : Cls X.K (C X.K)) (hn : NoAttr X.K (C X.K) f) (hl : fs.lookup f = some (sd d)) (h : Φ d l)
    (hN : X.N[i]? = some x := by rfl) (hv : Vis X.env.scope x := by first | exact Or.inl rfl | exact Or.inr (Or.inl rfl) | exact Or.inr (Or.inr rfl)) (hd : (x == ("__debug__" : Str)) = false := by decide) (hcd : (x == ("__classdict__" : Str)) = false := by decide)
    (hb : attributeBase (.Name x p1) f X.env (eval (.Name x p1) X.env) = eval (.Name x p1) X.env := by rfl) : JE X B m (.Attribute (.Name x p1) f pos) l Φ :=
  (pe_fld (pe_var (i := i) hN hv hd hcd) hb).imp fun σ H Q ⟨G, E, k⟩ => by
    obtain ⟨a, dx, vs, q1, q2, q3, _⟩ := E.mutO g
    obtain ⟨v, w1, w2⟩ := q3.get hl
    exact ⟨_, q1, a, C X.K, dx, vs, v, rfl, q2, hc, hn, w1, k v G H d l (Ex.refl G) E w2.rp h⟩
/-- e.f, e data -/
theorem je_fld [R : Rec α C] {Φ : β → En → Prop} (hc : Cls X.K (C X.K)) (hn : NoAttr X.K (C X.K) f) (h : JE X B m e l fun (d : α) l1 => ∃ b : β, (R.fs d).lookup f = some (sd b) ∧ Φ b l1)
    (hb : attributeBase e f X.env (eval e X.env) = eval e X.env := by rfl) : JE X B m (.Attribute e f pos) l Φ :=
  (pe_fld h hb).imp fun σ H Q ⟨G, E, k⟩ => ⟨G, E, fun v G1 H1 d l1 e1 E1 r1 ⟨b, hl, hφ⟩ => by
    obtain ⟨a, dx, vs, rfl, q2, q3⟩ := R.is r1
    obtain ⟨v, w1, w2⟩ := q3.get hl
    exact ⟨a, C X.K, dx, vs, v, rfl, E1.ex _ _ q2, hc, hn, w1, k v G1 H1 b l1 e1 E1 w2.rp hφ⟩⟩
/-- an object becomes data -/
theorem fz_obj {fs : List (Str × SD)} {d : α} (h : ∀ {K : Fg} {G : Hp} {a dx : Addr} {vs : List (Str × V)}, G a = some (.ins (C K) dx vs) → FR K G vs fs → Rp.rp K G (.ref a) d) : Fz (obj C fs) d := fun K G H v f hn e ⟨a, dx, vs, h1, h2, h3, h4⟩ => by
  subst h1 h4
  exact h (by rw [frzG_in List.mem_cons_self]; exact h2) (h3.mono (frzG_ex e hn))
/-! ### a slot more -/
theorem Env.snoc {fp f : List Addr} (E : Env K G H l σ fp) (h : s.P K G H v f) : Env K G H (l ++ [some s]) (σ ++ [some v]) (fp ++ f) := by
  induction E with
  | nil =>
    have : Env K G H [some s] [some v] (f ++ []) := .cons h .nil
    simpa using this
  | junk _ ih => exact .junk ih
  | cons h1 _ ih =>
    rw [List.append_assoc]
    exact .cons h1 ih
theorem Env.unsnoc : ∀ {l : En} {σ : L2.St} {fp : List Addr}, Env K G H (l ++ [some s]) (σ ++ [some v]) fp → l.length = σ.length → ∃ f r, fp.Perm (f ++ r) ∧ s.P K G H v f ∧ Env K G H l σ r
  | [], [], fp, E, _ => by
    cases E with
    | cons h1 E2 =>
      cases E2
      exact ⟨_, [], .refl _, h1, .nil⟩
  | o :: l, w :: σ, fp, E, hl => by
    cases E with
    | junk E2 =>
      obtain ⟨f, r, p, h1, E3⟩ := Env.unsnoc E2 (by simpa using hl)
      exact ⟨f, r, p, h1, .junk E3⟩
    | @cons s' v' f' _ _ fs h0 E2 =>
      obtain ⟨f, r, p, h1, E3⟩ := Env.unsnoc E2 (by simpa using hl)
      exact ⟨f, f' ++ r, perm3 p, h1, .cons h0 E3⟩
theorem Get.snoc : ∀ {l : En}, Get (l ++ [some s]) l.length s
  | [] => .z
  | _ :: l => .s (Get.snoc (l := l))
theorem Put.snoc {s' : SD} : ∀ {l : En}, Put (l ++ [some s]) l.length (some s') (l ++ [some s'])
  | [] => .z
  | _ :: l => .s (Put.snoc (l := l))
/-- the heap has grown by a new object -/
theorem EnvOk.made {x dx : Addr} (E : EnvOk K B m l G σ H) (hx : H x = none) (hdx : H dx = none) (ne : dx ≠ x) : EnvOk K B m (l ++ [some (obj C [])]) G (σ ++ [some (.ref x)]) (upd (upd H dx (.own x)) x (.ins (C K) dx [])) ∧ l.length = σ.length := by
  obtain ⟨fp, F, E, Z, M⟩ := E
  have F1 : Fr B G (upd H dx (.own x)) fp := Fr.sub (f := [dx]) (F.newO hdx)
  have hx1 : (upd H dx (.own x)) x = none := by rw [upd_ne (fun z => ne z.symm)]; exact hx
  have F2 := F1.newO (o := .ins (C K) dx []) hx1
  have nf : ∀ a ∈ fp, a ≠ dx := fun a ha z => E.dom a ha (by rw [z]; exact hdx)
  have E1 : Env K G (upd H dx (.own x)) l σ fp := E.mono (Ex.refl _) fun a ha => upd_ne (nf a ha)
  have nf2 : ∀ a ∈ fp, a ≠ x := fun a ha z => E.dom a ha (by rw [z]; exact hx)
  have E2 : Env K G (upd (upd H dx (.own x)) x (.ins (C K) dx [])) l σ fp := E1.mono (Ex.refl _) fun a ha => upd_ne (nf2 a ha)
  have M1 : MiOk m G (upd H dx (.own x)) fp := (M.newO (o := .own x) hdx).sub fun a ha => List.mem_cons_of_mem _ ha
  have M2 := M1.newO (o := .ins (C K) dx []) hx1
  refine ⟨⟨fp ++ [x], F2.perm List.perm_append_comm, E2.snoc ⟨x, dx, [], rfl, upd_same, trivial, rfl⟩, ⟨Z.len, fun k j v h1 h2 => ?_, Z.fl⟩, M2.sub fun a ha => by simpa [or_comm] using ha⟩, E.len⟩
  have h3 := Z.at_ k j v h1 h2
  have hlt := (List.getElem?_eq_some_iff.mp h3).1
  rw [List.getElem?_append_left hlt]
  exact h3
theorem EnvOk.unmade (E : EnvOk K B m (l ++ [some s]) G (σ ++ [some v]) H) (hl : l.length = σ.length) (Z : B.Fix σ) : EnvR K B m s v l G σ H := by
  obtain ⟨fp, F, E, _, M⟩ := E
  obtain ⟨f, r, p, h1, E2⟩ := E.unsnoc hl
  exact ⟨f, r, F.perm p.symm, h1, E2, Z, M.sub fun a ha => p.mem_iff.mpr ha⟩
theorem args_snoc {o : Option V} : ∀ {ss : List SD} {vs : List V}, All2 (ArgR K G σ) (vals ss) vs → All2 (ArgR K G (σ ++ [o])) (vals ss) vs
  | [], [], _ => trivial
  | _ :: ss, _ :: vs, h => ⟨h.1, args_snoc (ss := ss) h.2⟩
/-- what the making of an object asks and gives -/
theorem make_sp {A O : Type} {n : Nat} {args : A → List SD} {pre : A → Prop} {fs : O → List (Str × SD)} {post : A → O → Prop} {D : Type} [Rp D] {d : O → D} {Φ : D → En → Prop} {Q : VK} {E : XK} {vs : List V} {as : List Arg} (hz : ∀ o, Fz (obj C (fs o)) (d o))
    (E1 : EnvOk X.K B m l1 G σ H) (r1 : All2 (ArgR X.K G σ) as vs) (h : ∃ a : A, as = vals (args a) ∧ (args a).length = n ∧ pre a ∧ OwnAll ow l1 ∧ ∀ o, post a o → Φ (d o) l1)
    (k : ∀ v G' H' d, Ex G G' → EnvOk X.K B m l1 G' σ H' → Rp.rp X.K G' v d → Φ d l1 → Q v H') {x dx : Addr} (hx : H x = none) (hdx : H dx = none) (ne : dx ≠ x) :
    spT (R := Unit) X.K (true :: List.replicate n false) (fun a => obj C [] :: args a) pre (fun _ o => [obj C (fs o)]) (fun a _ o => post a o) (.ref x :: vs) (upd (upd H dx (.own x)) x (.ins (C X.K) dx [])) (fun v H2 => v = .non ∧ Q (.ref x) H2) E := by
  obtain ⟨a, ea, en, hp, ho, hΦ⟩ := h
  subst ea
  obtain ⟨E2, hl⟩ := E1.made (C := C) hx hdx ne
  have Z : B.Fix σ := by obtain ⟨_, _, _, z, _⟩ := E1; exact z
  have hA : All2 (ArgR X.K G (σ ++ [some (.ref x)])) (Arg.slot l1.length :: vals (args a)) (V.ref x :: vs) := ⟨by
    show (σ ++ [some (V.ref x)])[l1.length]? = _
    rw [hl, List.getElem?_append_right (Nat.le_refl _)]
    simp, args_snoc r1⟩
  refine call_sp (as := .slot l1.length :: vals (args a)) (is := [l1.length]) (a := a) E2 hA (.slot Get.snoc flat_obj mat_vals) (List.nodup_cons.mpr ⟨fun h => (nomatch h), List.nodup_nil⟩) (by show true :: maskOf (vals (args a)) = _; rw [mask_vals, en]) hp fun v G2 H2 r o e2 rr hpo hE => ⟨rr, ?_⟩
  obtain ⟨G3, e3, E3, r3⟩ := ((hE _ (.cons Put.snoc .nil)).unmade hl Z).frz ho (hz o)
  exact k _ G3 H2 (d o) (e2.trans e3) E3 r3 (hΦ o hpo)
theorem je_make {A O : Type} {n : Nat} {args : A → List SD} {pre : A → Prop} {fs : O → List (Str × SD)} {post : A → O → Prop} {D : Type} [Rp D] {d : O → D} {Φ : D → En → Prop} {CX : CXT} {k : Nat} {fa : Addr} {fd : FuncData} {ps : List Str} (hz : ∀ o, Fz (obj C (fs o)) (d o)) (M : Mk X.K (C X.K) fa)
    (F : FnOk X.prog X.w X.K X.mg X.base CX k fa fd ps (spT (R := Unit) X.K (true :: List.replicate n false) (fun a => obj C [] :: args a) pre (fun _ o => [obj C (fs o)]) (fun a _ o => post a o))) (hr : Room (k + 1) X.A) (hm : X.mg x = some (.ref (C X.K))) (hb : Binds X.K fd ps []) (hx : Passes CX X E0)
    (h : JA X B m (e :: es) l fun as l1 => ∃ a : A, as = vals (args a) ∧ (args a).length = n ∧ pre a ∧ OwnAll ow l1 ∧ ∀ o, post a o → Φ (d o) l1)
    (hg : Gl X x := by rfl) (hdb : (x == ("__debug__" : Str)) = false := by decide) (he : starEach (e :: es) X.env = (false, eval e X.env) :: starEach es X.env := by rfl) (hpl : (backTo pos (starEach es X.env)).any (·.1) = false := by rfl) : JE X B m (.Call (.Name x p1) (e :: es) [] pos) l Φ :=
  (pe_make (E := E0) M F hr hg hm hb .nil hx h hdb he hpl).imp fun σ H Q ⟨G, E, k⟩ => ⟨G, E, fun vs G1 H1 as l1 e1 E1 r1 hh => fun x dx hx hdx ne => by
    rw [List.append_nil]
    exact make_sp hz E1 r1 hh (fun v G' H' d e2 E2 rr hφ => k v G' H' d l1 (e1.trans e2) E2 rr hφ) hx hdx ne⟩
/-- the class held by a local name; defaults dvs -/
def tMakeL (i : Nat) (C : Addr) (sp : Sp) (dvs : List V) (E : XK) (t : TA) : TE := fun σ H Q => σ[i]? = some (some (.ref C)) ∧ tMake C sp dvs E t σ H Q
theorem pe_makeL {CX : CXT} {k : Nat} {C f : Addr} {fd : FuncData} {ps : List Str} {sp : Sp} {dvs : List V} {ds : List Value} {E : XK} {t : TA} (M : Mk X.K C f) (F : FnOk X.prog X.w X.K X.mg X.base CX k f fd ps sp) (hr : Room (k + 1) X.A) (hN : X.N[i]? = some x) (hv : Vis X.env.scope x) (hb : Binds X.K fd ps ds) (hd : Vals dvs ds) (hx : Passes CX X E)
    (ha : PA X (e :: es) t) (hdb : (x == ("__debug__" : Str)) = false := by decide) (hcd : (x == ("__classdict__" : Str)) = false := by decide) (he : starEach (e :: es) X.env = (false, eval e X.env) :: starEach es X.env := by rfl) (hpl : (backTo pos (starEach es X.env)).any (·.1) = false := by rfl) :
    PE X (.Call (.Name x p1) (e :: es) [] pos) (tMakeL i C sp dvs E t) := by
  refine ⟨fun pins s σ H Q I h => ?_⟩
  obtain ⟨hs, h⟩ := h
  refine wpAny_Call_Name_kw (thn ((pe_var (pos := p1) hN hv hdb hcd).run pins s σ H (fun v H1 => v = .ref C ∧ H1 = H) I ⟨.ref C, hs, rfl, rfl⟩) fun u s1 ⟨v, H1, I1, r1, q1⟩ => ?_)
  obtain ⟨rfl, rfl⟩ := q1
  cases r1
  refine PySem.W.callWith_K (h₀ := X.base) I.ok.mod.kin M.kp (thn (ha.run pos pins s1 σ _ _ I1 h) fun us s2 ⟨vs, H2, I2, r, q⟩ => ⟨I2.kIn, ?_⟩) he hpl
  exact run_make M F hr hb hd hx I2 r q
end
end
end Tyl
end
section
/-! methods, properties, classmethods: facts and rules -/
namespace Tyl
open PySem PySem.Spec PyProof.Rows L2 ClX
/-- the j-th statement of a class's body -/
def mth (c : Stmt) (j : Nat) : Stmt := match c with
  | .ClassDef _ _ _ body _ _ _ _ _ _ _ => body.getD j (.Pass ⟨0, 0, 0, 0⟩)
  | _ => .Pass ⟨0, 0, 0, 0⟩
/-- the def behind a record (property, classmethod) -/
def rcG (K : Fg) (T : String) (p : Addr) : Addr := match PySem.W.recIn K p T with
  | some (.ref g :: _) => g
  | _ => 0
def rcOk (K : Fg) (T : String) (p : Addr) : Bool := match PySem.W.recIn K p T with
  | some (.ref _ :: _) => true
  | _ => false
theorem rc_of {K : Fg} {T : String} {p : Addr} (h : rcOk K T p = true) : ∃ rest, PySem.W.recIn K p T = some (.ref (rcG K T p) :: rest) := by
  unfold rcOk at h
  unfold rcG
  split at h
  · rename_i g r e
    exact ⟨r, by rw [e]⟩
  · cases h
def prG (K : Fg) (x f : Str) : Addr := rcG K "property" (He.ma K (He.ga K x) f)
def cmG (K : Fg) (x f : Str) : Addr := rcG K "classmethod" (He.ma K (He.ga K x) f)
def faProp (x f : Str) : Fg → Bool := fun K => He.eqO (PySem.W.findIn K (.ref (He.ga K x)) f) (some (some (.ref (He.ma K (He.ga K x) f)))) && (He.eqO (PySem.W.specialIn K (.ref (He.ma K (He.ga K x) f)) "__get__") (some (some (.builtin "property.__get__"))) &&
  (decide (PySem.W.takesIn K (.ref (He.ma K (He.ga K x) f)) = some true) && rcOk K "property" (He.ma K (He.ga K x) f)))
theorem prop_ok {K : Fg} {x f : Str} (h : faProp x f K = true) : PropOf K (He.ga K x) f (He.ma K (He.ga K x) f) (prG K x f) :=
  have ⟨h1, h2⟩ := He.ba h
  have ⟨h2, h3⟩ := He.ba h2
  have ⟨h3, h4⟩ := He.ba h3
  ⟨He.eqO_ok h1, He.eqO_ok h2, of_decide_eq_true h3, rc_of h4⟩
def faCm (x m : Str) : Fg → Bool := fun K => PySem.W.readsIn K (He.ga K x) (.type "type") && (He.eqO (PySem.W.specialIn K (.ref (He.ga K x)) "__getattribute__") (some (some (.builtin "type.__getattribute__"))) &&
  ((match PySem.W.findCls K (.ref (He.ga K x)) (.type "type") m with
    | some (.get (.builtin b) (.ref p) .none (.ref c)) => decide (b = "classmethod.__get__" ∧ p = He.ma K (He.ga K x) m ∧ c = He.ga K x)
    | _ => false) && (rcOk K "classmethod" (He.ma K (He.ga K x) m) && PySem.W.fnIn K (cmG K x m))))
theorem cm_ok {K : Fg} {x m : Str} (h : faCm x m K = true) : CRead K (He.ga K x) (.type "type") ∧ CMet K (He.ga K x) (.type "type") m (He.ma K (He.ga K x) m) (cmG K x m) := by
  obtain ⟨h1, h2⟩ := He.ba h
  obtain ⟨h2, h3⟩ := He.ba h2
  obtain ⟨h3, h4⟩ := He.ba h3
  obtain ⟨h4, h5⟩ := He.ba h4
  refine ⟨⟨h1, He.eqO_ok h2⟩, ?_, rc_of h4, h5⟩
  split at h3
  · rename_i b p c e
    obtain ⟨e1, e2, e3⟩ := of_decide_eq_true h3
    subst e1 e2 e3
    exact e
  · cases h3
def faInst (x : Str) : Fg → Bool := fun K => He.eqO (PySem.W.findIn K (.ref (He.ga K x)) "__class__") (some (some (.builtin "object.__class__"))) && (He.eqO (PySem.W.specialIn K (.builtin "object.__class__") "__get__") (some (some (.builtin "getset_descriptor.__get__"))) &&
  (decide (PySem.W.takesIn K (.builtin "object.__class__") = some true) && decide (PySem.W.mroIn K (He.ga K x) (.type "object") = some true)))
theorem inst_ty {K : Fg} {x : Str} {H : Hp} {a dx : Addr} {fs : List (Str × V)} (h : faInst x K = true) (c : Cls K (He.ga K x)) (e : H a = some (.ins (He.ga K x) dx fs)) : TyX K H (.ref a) (.ref (He.ga K x)) :=
  have ⟨h1, h2⟩ := He.ba h
  have ⟨h2, h3⟩ := He.ba h2
  have ⟨h3, h4⟩ := He.ba h3
  .base (.ins e c (He.eqO_ok h1) (He.eqO_ok h2) (of_decide_eq_true h3) (of_decide_eq_true h4))
/-- a def at an address of the written part -/
structure OkA (P : Program) (w : World) (K : Fg) (mg : Str → Option Value) (base : Heap) (CX : CXT) (k : Nat) (a : Addr) (ps : List Str) (sp : Sp) : Prop where
  ex : ∃ fd, FnOk P w K mg base CX k a fd ps sp ∧ L2.Binds K fd ps []
theorem OkA.mono {P : Program} {w : World} {K : Fg} {mg : Str → Option Value} {base : Heap} {CX : CXT} {j k : Nat} {a : Addr} {ps : List Str} {sp : Sp} (F : OkA P w K mg base CX j a ps sp) (h : j ≤ k) : OkA P w K mg base CX k a ps sp :=
  ⟨let ⟨fd, a, b⟩ := F.ex; ⟨fd, a.mono h, b⟩⟩
section
variable {X : Cx} {ow : List Nat} {B : Base ow} {m : Mi} {α : Type} [Rp α] {x f n : Str} {e o a b : Expr} {es : List Expr} {l l1 : En} {pos p1 p2 p3 : Pos}
/-- a class as data -/
structure ClsD (x : Str) where
instance {x : Str} : Rp (ClsD x) := ⟨fun K _ v _ => v = .ref (He.ga K x), fun _ h => h⟩
/-- o.n(e, ..) -/
theorem je_meth {pl : Sem Bool} [R : Rec α (fun K => He.ga K x)] {A r : Type} [Rp r] {q : Nat} {args : A → List SD} {pre : A → Prop} {post : A → r → Prop} {CX : CXT} {k : Nat} {ps : List Str} {Φ : r → En → Prop} (hc : Cls X.K (He.ga X.K x)) (hm : Meth X.K (He.ga X.K x) n (He.ma X.K (He.ga X.K x) n))
    (F : OkA X.prog X.w X.K X.mg X.base CX k (He.ma X.K (He.ga X.K x) n) ps (spP X.K q args pre post)) (hr : Room k X.A) (hx : Passes CX X E0)
    (h : JE X B m o l fun (d : α) l1 => (R.fs d).lookup n = none ∧ JA X B m (e :: es) l1 fun as l2 => ∃ a : A, (.val (sd d) :: as) = vals (args a) ∧ (args a).length = q ∧ pre a ∧ ∀ y, post a y → Φ y l2)
    (hst : starEach (e :: es) X.env = (false, eval e X.env) :: starEach es X.env := by rfl) (hpl : (backTo pos (starEach es X.env)).any (·.1) = false := by rfl)
    (ht : eval (.Call (.Attribute o n p1) (e :: es) [] pos) X.env = (do
      let ov ← eval o X.env
      standAt p1.atName
      let (f, first) ← holding [ov] (getMethod ov n pl)
      callWith pos f first (backTo pos (starEach (e :: es) X.env)) (backToKw pos (keywordEach [] X.env))) := by rfl) : JE X B m (.Call (.Attribute o n p1) (e :: es) [] pos) l Φ :=
  let ⟨fd, F, hb⟩ := F.ex
  (pe_meth (pl := pl) (E := E0) h hc hm F hr hb .nil hx pa_any hst hpl ht).imp fun σ H Q ⟨G, E, k⟩ => ⟨G, E, fun v G1 H1 d l1 e1 E1 r1 ⟨hl, ha⟩ => by
    obtain ⟨a, dx, vs, rfl, q2, q3⟩ := R.is r1
    refine ⟨a, dx, vs, rfl, E1.ex _ _ q2, ?_, ha.any E1 fun ws G2 H2 as l2 e2 E2 r2 ⟨y, ey, en, hp, hΦ⟩ => ?_⟩
    · cases c : vs.lookup n with
      | none => rfl
      | some w =>
        exfalso
        have : ∀ {vs : List (Str × V)} {fs : List (Str × SD)}, FR X.K G1 vs fs → fs.lookup n = none → vs.lookup n = none := by
          intro vs
          induction vs with
          | nil => intro fs _ _; rfl
          | cons p vs ih =>
            intro fs h1 h2
            match fs, h1 with
            | (g', y) :: fs, ⟨⟨e, _⟩, r⟩ =>
              obtain ⟨g, z⟩ := p
              have e' : g = g' := e
              subst e'
              rw [List.lookup_cons] at h2 ⊢
              cases c : n == g with
              | true => rw [c] at h2; cases h2
              | false => rw [c] at h2; exact ih r h2
        rw [this q3 hl] at c
        cases c
    · rw [List.append_nil]
      have hA : All2 (ArgR X.K G2 σ) (vals (args y)) (.ref a :: ws) := by
        rw [← ey]
        exact ⟨(pr_sd r1).mono e2, r2⟩
      exact call_sp (E := E0) E2 hA mat_vals List.nodup_nil (by rw [mask_vals, en]) hp fun v G3 H3 r _ e3 rr hpo hE => k v G3 H3 r l2 ((e1.trans e2).trans e3) (hE l2 .nil) rr (hΦ r hpo)⟩
/-- o.n() -/
theorem je_meth0 {pl : Sem Bool} [R : Rec α (fun K => He.ga K x)] {A r : Type} [Rp r] {q : Nat} {args : A → List SD} {pre : A → Prop} {post : A → r → Prop} {CX : CXT} {k : Nat} {ps : List Str} {Φ : r → En → Prop} (hc : Cls X.K (He.ga X.K x)) (hm : Meth X.K (He.ga X.K x) n (He.ma X.K (He.ga X.K x) n))
    (F : OkA X.prog X.w X.K X.mg X.base CX k (He.ma X.K (He.ga X.K x) n) ps (spP X.K q args pre post)) (hr : Room k X.A) (hx : Passes CX X E0)
    (h : JE X B m o l fun (d : α) l1 => (R.fs d).lookup n = none ∧ ∃ a : A, [.val (sd d)] = vals (args a) ∧ (args a).length = q ∧ pre a ∧ ∀ y, post a y → Φ y l1)
    (ht : eval (.Call (.Attribute o n p1) [] [] pos) X.env = (do
      let ov ← eval o X.env
      standAt p1.atName
      let (f, first) ← holding [ov] (getMethod ov n pl)
      callWith pos f first (backTo pos (starEach [] X.env)) (backToKw pos (keywordEach [] X.env))) := by rfl) : JE X B m (.Call (.Attribute o n p1) [] [] pos) l Φ :=
  let ⟨fd, F, hb⟩ := F.ex
  (pe_meth0 (pl := pl) (E := E0) h hc hm F hr hb .nil hx ht).imp fun σ H Q ⟨G, E, k⟩ => ⟨G, E, fun v G1 H1 d l1 e1 E1 r1 ⟨hl, y, ey, en, hp, hΦ⟩ => by
    obtain ⟨a, dx, vs, rfl, q2, q3⟩ := R.is r1
    refine ⟨a, dx, vs, rfl, E1.ex _ _ q2, ?_, ?_⟩
    · have : ∀ {vs : List (Str × V)} {fs : List (Str × SD)}, FR X.K G1 vs fs → fs.lookup n = none → vs.lookup n = none := by
        intro vs
        induction vs with
        | nil => intro fs _ _; rfl
        | cons p vs ih =>
          intro fs h1 h2
          match fs, h1 with
          | (g', y) :: fs, ⟨⟨e, _⟩, r⟩ =>
            obtain ⟨g, z⟩ := p
            have e' : g = g' := e
            subst e'
            rw [List.lookup_cons] at h2 ⊢
            cases c : n == g with
            | true => rw [c] at h2; cases h2
            | false => rw [c] at h2; exact ih r h2
      exact this q3 hl
    · have hA : All2 (ArgR X.K G1 σ) (vals (args y)) [.ref a] := by
        rw [← ey]
        exact ⟨pr_sd r1, trivial⟩
      exact call_sp (E := E0) E1 hA mat_vals List.nodup_nil (by rw [mask_vals, en]) hp fun v G3 H3 r _ e3 rr hpo hE => k v G3 H3 r l1 (e1.trans e3) (hE l1 .nil) rr (hΦ r hpo)⟩
/-- o.f, a property -/
theorem je_prop [R : Rec α (fun K => He.ga K x)] {A r : Type} [Rp r] {q : Nat} {args : A → List SD} {pre : A → Prop} {post : A → r → Prop} {k : Nat} {ps : List Str} {Φ : r → En → Prop} (hc : Cls X.K (He.ga X.K x)) (hp : PropOf X.K (He.ga X.K x) f (He.ma X.K (He.ga X.K x) f) (prG X.K x f))
    (F : OkA X.prog X.w X.K X.mg X.base CX0 k (prG X.K x f) ps (spP X.K q args pre post)) (hr : Room (k + 1) X.A)
    (h : JE X B m o l fun (d : α) l1 => ∃ a : A, [.val (sd d)] = vals (args a) ∧ (args a).length = q ∧ pre a ∧ ∀ y, post a y → Φ y l1)
    (hab : attributeBase o f X.env (eval o X.env) = eval o X.env := by rfl) : JE X B m (.Attribute o f pos) l Φ :=
  let ⟨fd, F, hb⟩ := F.ex
  (pe_prop (E := E0) h hc hp F hr hb .nil pass0 hab).imp fun σ H Q ⟨G, E, k⟩ => ⟨G, E, fun v G1 H1 d l1 e1 E1 r1 ⟨y, ey, en, hp, hΦ⟩ => by
    obtain ⟨a, dx, vs, rfl, q2, q3⟩ := R.is r1
    refine ⟨a, dx, vs, rfl, E1.ex _ _ q2, ?_⟩
    have hA : All2 (ArgR X.K G1 σ) (vals (args y)) [.ref a] := by
      rw [← ey]
      exact ⟨pr_sd r1, trivial⟩
    exact call_sp (E := E0) E1 hA mat_vals List.nodup_nil (by rw [mask_vals, en]) hp fun v G3 H3 r _ e3 rr hpo hE => k v G3 H3 r l1 (e1.trans e3) (hE l1 .nil) rr (hΦ r hpo)⟩
/-- isinstance(e, C) of an object of C -/
theorem je_isi [R : Rec α (fun K => He.ga K x)] {Φ : Bool → En → Prop} (hi : X.mg "isinstance" = none) (hm : X.mg x = some (.ref (He.ga X.K x))) (hf : faInst x X.K = true) (hc : Cls X.K (He.ga X.K x)) (h : JE X B m e l fun (_ : α) l1 => Φ true l1) (hg : Gl X "isinstance" := by rfl) (hgx : Gl X x := by rfl)
    (hd : (x == ("__debug__" : Str)) = false := by decide) (he : starEach (e :: [.Name x p2]) X.env = (false, eval e X.env) :: starEach [.Name x p2] X.env := by rfl) (he2 : starEach (.Name x p2 :: []) X.env = (false, eval (.Name x p2) X.env) :: starEach [] X.env := by rfl)
    (hpl : (backTo pos (starEach [.Name x p2] X.env)).any (·.1) = false := by rfl) : JE X B m (.Call (.Name "isinstance" p1) [e, .Name x p2] [] pos) l Φ :=
  (pe_callB call_isi hg hi (by decide +kernel) (pa_cons h (pa_cons (pe_glob (v := .ref (He.ga X.K x)) hgx hm rfl hd) pa_nil he2) he) (by decide) (by decide) he hpl).imp fun σ H Q ⟨G, E, k⟩ => ⟨G, E, fun v G1 H1 d l1 e1 E1 r1 hφ => by
    obtain ⟨a, dx, vs, rfl, q2, q3⟩ := R.is r1
    exact ⟨.ref a, .ref (He.ga X.K x), .ref (He.ga X.K x), .ref (He.ga X.K x), true, rfl, .own _, inst_ty hf hc (E1.ex _ _ q2), by unfold PySem.W.kitOne; rw [if_pos (by simp)], k _ G1 H1 true l1 e1 E1 rfl hφ⟩⟩
end
end Tyl
end
section
/-! data of any kind, to a depth -/
namespace Tyl
open PySem PySem.Spec PyProof.Rows L2
inductive Uv where
  | non
  | bl (b : Bool)
  | int (i : Int)
  | str (s : Str)
  | lst (xs : List Uv)
  | tup (xs : List Uv)
def rpU : Nat → Fg → Hp → V → Uv → Prop
  | _, _, _, v, .non => v = .non
  | _, _, _, v, .bl b => v = .bl b
  | _, _, _, v, .int i => v = .int i
  | _, _, _, v, .str s => v = .str s
  | 0, _, _, _, .lst _ => False
  | 0, _, _, _, .tup _ => False
  | n + 1, K, G, v, .lst us => ∃ p xs, v = .ref p ∧ G p = some (.lst xs) ∧ All2 (rpU n K G) xs us
  | n + 1, K, G, v, .tup us => ∃ p xs, v = .ref p ∧ G p = some (.tup xs) ∧ All2 (rpU n K G) xs us
theorem rpU_mono {K : Fg} {G G' : Hp} (e : Ex G G') : ∀ {n : Nat} {v : V} {u : Uv}, rpU n K G v u → rpU n K G' v u
  | 0, _, .non, h => h
  | _ + 1, _, .non, h => h
  | 0, _, .bl _, h => h
  | _ + 1, _, .bl _, h => h
  | 0, _, .int _, h => h
  | _ + 1, _, .int _, h => h
  | 0, _, .str _, h => h
  | _ + 1, _, .str _, h => h
  | 0, _, .lst _, h => h.elim
  | 0, _, .tup _, h => h.elim
  | n + 1, _, .lst _, ⟨p, xs, h1, h2, h3⟩ => ⟨p, xs, h1, e _ _ h2, h3.imp fun _ _ h => rpU_mono e h⟩
  | n + 1, _, .tup _, ⟨p, xs, h1, h2, h3⟩ => ⟨p, xs, h1, e _ _ h2, h3.imp fun _ _ h => rpU_mono e h⟩
structure UN (n : Nat) where
  u : Uv
instance rpUN {n : Nat} : Rp (UN n) := ⟨fun K G v a => rpU n K G v a.u, fun e h => rpU_mono e h⟩
/-- data as such data -/
class ToU (α : Type) [Rp α] (n : Nat) where
  to : α → Uv
  ok : ∀ {K : Fg} {G : Hp} {v : V} {a : α}, Rp.rp K G v a → rpU n K G v (to a)
instance {n : Nat} : ToU Int n := ⟨Uv.int, fun h => by cases n <;> exact h⟩
instance {n : Nat} : ToU Bool n := ⟨Uv.bl, fun h => by cases n <;> exact h⟩
instance {n : Nat} : ToU Str n := ⟨Uv.str, fun h => by cases n <;> exact h⟩
instance {n : Nat} : ToU Unit n := ⟨fun _ => Uv.non, fun h => by cases n <;> exact h⟩
theorem all2_toU {α : Type} [Rp α] {n : Nat} [T : ToU α n] {K : Fg} {G : Hp} : ∀ {xs : List V} {as : List α}, All2 (Rp.rp K G) xs as → All2 (rpU n K G) xs (as.map T.to)
  | [], [], _ => trivial
  | _ :: _, _ :: _, h => ⟨T.ok h.1, all2_toU h.2⟩
instance {α : Type} [Rp α] {n : Nat} [T : ToU α n] : ToU (List α) (n + 1) := ⟨fun as => .lst (as.map T.to), fun ⟨p, xs, h1, h2, h3⟩ => ⟨p, xs, h1, h2, all2_toU h3⟩⟩
instance {α β : Type} [Rp α] [Rp β] {n : Nat} [T : ToU α n] [S : ToU β n] : ToU (α × β) (n + 1) := ⟨fun a => .tup [T.to a.1, S.to a.2], fun ⟨p, x, y, h1, h2, h3, h4⟩ => ⟨p, [x, y], h1, h2, T.ok h3, S.ok h4, trivial⟩⟩
instance {α β γ : Type} [Rp α] [Rp β] [Rp γ] {n : Nat} [T : ToU α n] [S : ToU β n] [U : ToU γ n] : ToU (T3 α β γ) (n + 1) := ⟨fun a => .tup [T.to a.a, S.to a.b, U.to a.c], fun ⟨p, x, y, z, h1, h2, h3, h4, h5⟩ => ⟨p, [x, y, z], h1, h2, T.ok h3, S.ok h4, U.ok h5, trivial⟩⟩
section
variable {X : Cx} {ow : List Nat} {B : Base ow} {m : Mi} {α β : Type} [Rp α] [Rp β] {n : Nat} {e a b : Expr} {es : List Expr} {l : En} {pos p1 p2 p3 p4 : Pos}
/-- the value as other data -/
theorem je_cast {Φ : β → En → Prop} (h : JE X B m e l fun (d : α) l1 => ∃ b : β, (∀ K G v, Rp.rp K G v d → Rp.rp K G v b) ∧ Φ b l1) : JE X B m e l Φ := PE.imp h fun σ H Q ⟨G, E, k⟩ => ⟨G, E, fun v G1 H1 d l1 e1 E1 r1 ⟨b, w, hφ⟩ => k v G1 H1 b l1 e1 E1 (w _ _ _ r1) hφ⟩
theorem je_u [T : ToU α n] {Φ : UN n → En → Prop} (h : JE X B m e l fun (d : α) l1 => Φ ⟨T.to d⟩ l1) : JE X B m e l Φ := je_cast (h.weak fun d l1 h => ⟨⟨T.to d⟩, fun _ _ _ r => T.ok r, h⟩)
/-! ### isinstance -/
def isU (T : String) : Uv → Bool
  | .non => false
  | .bl _ => T == "bool" || T == "int"
  | .int _ => T == "int"
  | .str _ => T == "str"
  | .lst _ => T == "list"
  | .tup _ => T == "tuple"
theorem ty_of {K : Fg} {G H : Hp} {v : V} {u : Uv} (ex : Ex G H) (h : rpU n K G v u) : ∃ t, TyX K H v (.type t) ∧ ∀ T, T ∈ ["bool", "int", "str", "list", "tuple"] → PySem.W.kitOne K (.type t) (.type T) = some (isU T u) := by
  cases u with
  | non =>
    have e : v = .non := by cases n <;> exact h
    subst e
    refine ⟨_, .base .non, fun T hT => kit_ty ?_⟩
    simp only [List.mem_cons, List.not_mem_nil, or_false] at hT
    rcases hT with rfl | rfl | rfl | rfl | rfl <;> decide +kernel
  | bl b =>
    have e : v = .bl b := by cases n <;> exact h
    subst e
    refine ⟨_, .base (.bl b), fun T hT => kit_ty ?_⟩
    simp only [List.mem_cons, List.not_mem_nil, or_false] at hT
    rcases hT with rfl | rfl | rfl | rfl | rfl <;> (dsimp only [isU]; decide +kernel)
  | int i =>
    have e : v = .int i := by cases n <;> exact h
    subst e
    refine ⟨_, .base (.int i), fun T hT => kit_ty ?_⟩
    simp only [List.mem_cons, List.not_mem_nil, or_false] at hT
    rcases hT with rfl | rfl | rfl | rfl | rfl <;> (dsimp only [isU]; decide +kernel)
  | str s =>
    have e : v = .str s := by cases n <;> exact h
    subst e
    refine ⟨_, .base (.str s), fun T hT => kit_ty ?_⟩
    simp only [List.mem_cons, List.not_mem_nil, or_false] at hT
    rcases hT with rfl | rfl | rfl | rfl | rfl <;> (dsimp only [isU]; decide +kernel)
  | lst xs =>
    cases n with
    | zero => exact h.elim
    | succ n =>
      obtain ⟨p, ys, rfl, h2, _⟩ := h
      refine ⟨_, .base (.lst (ex _ _ h2)), fun T hT => kit_ty ?_⟩
      simp only [List.mem_cons, List.not_mem_nil, or_false] at hT
      rcases hT with rfl | rfl | rfl | rfl | rfl <;> (dsimp only [isU]; decide +kernel)
  | tup xs =>
    cases n with
    | zero => exact h.elim
    | succ n =>
      obtain ⟨p, ys, rfl, h2, _⟩ := h
      refine ⟨_, .base (.tup (ex _ _ h2)), fun T hT => kit_ty ?_⟩
      simp only [List.mem_cons, List.not_mem_nil, or_false] at hT
      rcases hT with rfl | rfl | rfl | rfl | rfl <;> (dsimp only [isU]; decide +kernel)
theorem je_isU {T : String} {Φ : Bool → En → Prop} (hT : T ∈ ["bool", "int", "str", "list", "tuple"]) (hv : bootBuiltins (Str.ofString T) = some (.type T)) (hn : Str.ofString T ≠ ("__name__" : Str)) (hi : X.mg "isinstance" = none) (hm : X.mg (Str.ofString T) = none) (h : JE X B m e l fun (d : UN n) l1 => Φ (isU T d.u) l1) (hg : Gl X "isinstance" := by rfl) (hgx : Gl X (Str.ofString T) := by rfl)
    (hd : (Str.ofString T == ("__debug__" : Str)) = false := by decide) (he : starEach (e :: [.Name (Str.ofString T) p2]) X.env = (false, eval e X.env) :: starEach [.Name (Str.ofString T) p2] X.env := by rfl) (he2 : starEach (.Name (Str.ofString T) p2 :: []) X.env = (false, eval (.Name (Str.ofString T) p2) X.env) :: starEach [] X.env := by rfl)
    (hpl : (backTo pos (starEach [.Name (Str.ofString T) p2] X.env)).any (·.1) = false := by rfl) : JE X B m (.Call (.Name "isinstance" p1) [e, .Name (Str.ofString T) p2] [] pos) l Φ :=
  (pe_callB call_isi hg hi (by decide +kernel) (pa_cons h (pa_cons (pe_bltn (v := .ty T) hgx hm hv rfl hn hd) pa_nil he2) he) (by decide) (by decide) he hpl).imp fun σ H Q ⟨G, E, k⟩ => ⟨G, E, fun v G1 H1 d l1 e1 E1 r1 hφ => by
    obtain ⟨t, h1, h2⟩ := ty_of E1.ex r1
    exact ⟨v, .ty T, .type t, .type T, _, rfl, .ty T, h1, h2 T hT, k _ G1 H1 _ l1 e1 E1 rfl hφ⟩⟩
/-- isinstance(e, (list, tuple)) -/
theorem je_isLT {x1} {Φ : Bool → En → Prop} (hi : X.mg "isinstance" = none) (hml : X.mg "list" = none) (hmt : X.mg "tuple" = none) (h : JE X B m e l fun (d : UN n) l1 => Φ (isU "list" d.u || isU "tuple" d.u) l1) (hg : Gl X "isinstance" := by rfl) (hgl : Gl X "list" := by rfl) (hgt : Gl X "tuple" := by rfl)
    (he : starEach (e :: [.Tuple [.Name "list" p2, .Name "tuple" p3] x1 p4]) X.env = (false, eval e X.env) :: starEach [.Tuple [.Name "list" p2, .Name "tuple" p3] x1 p4] X.env := by rfl) (he2 : starEach (.Tuple [.Name "list" p2, .Name "tuple" p3] x1 p4 :: []) X.env = (false, eval (.Tuple [.Name "list" p2, .Name "tuple" p3] x1 p4) X.env) :: starEach [] X.env := by rfl)
    (ht : starEach [.Name "list" p2, .Name "tuple" p3] X.env = (false, eval (.Name "list" p2) X.env) :: starEach [.Name "tuple" p3] X.env := by rfl) (ht2 : starEach [.Name "tuple" p3] X.env = (false, eval (.Name "tuple" p3) X.env) :: starEach [] X.env := by rfl)
    (hpl : (backTo pos (starEach [.Tuple [.Name "list" p2, .Name "tuple" p3] x1 p4] X.env)).any (·.1) = false := by rfl) : JE X B m (.Call (.Name "isinstance" p1) [e, .Tuple [.Name "list" p2, .Name "tuple" p3] x1 p4] [] pos) l Φ :=
  (pe_callB call_isiT hg hi (by decide +kernel) (pa_cons h (pa_cons (pe_tup (pa_cons (pe_bltn (v := .ty "list") hgl hml (by decide +kernel) rfl (by decide) (by decide)) (pa_cons (pe_bltn (v := .ty "tuple") hgt hmt (by decide +kernel) rfl (by decide) (by decide)) pa_nil ht2) ht)) pa_nil he2) he) (by decide) (by decide) he hpl).imp fun σ H Q ⟨G, E, k⟩ => ⟨G, E, fun v G1 H1 d l1 e1 E1 r1 hφ => ⟨by show 2 ≤ sizeLine; decide, fun p hp => by
    have g2 := (Ex.refl G1).new (o := .tup [.ty "list", .ty "tuple"]) (E1.gnone hp)
    have E2 := E1.newG (o := .tup [.ty "list", .ty "tuple"]) hp
    obtain ⟨t, h1, h2⟩ := ty_of E2.ex (rpU_mono g2 r1)
    refine ⟨v, p, [.ty "list", .ty "tuple"], .type t, [.type "list", .type "tuple"], _, rfl, upd_same, .cons (.ty _) (.cons (.ty _) .nil), h1, ?_, k _ _ _ _ l1 (e1.trans g2) E2 rfl hφ⟩
    refine kitAny_cons (h2 "list" (by decide)) (fun hf => kitAny_cons (h2 "tuple" (by decide)) (fun hf2 => ?_) fun hb => ?_) fun hb => ?_
    · rw [kitAny_nil, hf, hf2]; rfl
    · rw [hf, hb]; rfl
    · rw [hb]; rfl⟩⟩
/-! ### is None, ==, len, items -/
def isN : Uv → Bool
  | .non => true
  | _ => false
theorem jt_isNU {j : Nat} {Φ : Bool → En → Prop} (h : JE X B m a l fun (d : UN n) l1 => (isN d.u = true → Φ true l1) ∧ (isN d.u = false → Φ false l1)) : JT X B m (.Compare a [.Is] [.Constant .none j p1] pos) l Φ :=
  (pt_cmpR op_isN h pe_non (nomark _)).imp fun σ H Q ⟨G, E, k⟩ => ⟨G, E, fun v G1 H1 d l1 e1 E1 r1 ⟨hT, hF⟩ => by
    refine ⟨rfl, _, rfl, k G1 H1 _ l1 e1 E1 ?_⟩
    obtain ⟨u⟩ := d
    cases u with
    | non =>
      have e : v = .non := by cases n <;> exact r1
      rw [decide_eq_true e]; exact hT rfl
    | bl b =>
      have e : v = .bl b := by cases n <;> exact r1
      rw [decide_eq_false (by rw [e]; exact fun z => nomatch z)]; exact hF rfl
    | int b =>
      have e : v = .int b := by cases n <;> exact r1
      rw [decide_eq_false (by rw [e]; exact fun z => nomatch z)]; exact hF rfl
    | str b =>
      have e : v = .str b := by cases n <;> exact r1
      rw [decide_eq_false (by rw [e]; exact fun z => nomatch z)]; exact hF rfl
    | lst xs =>
      cases n with
      | zero => exact r1.elim
      | succ n =>
        obtain ⟨p, ys, e, _⟩ := r1
        rw [decide_eq_false (by rw [e]; exact fun z => nomatch z)]; exact hF rfl
    | tup xs =>
      cases n with
      | zero => exact r1.elim
      | succ n =>
        obtain ⟨p, ys, e, _⟩ := r1
        rw [decide_eq_false (by rw [e]; exact fun z => nomatch z)]; exact hF rfl⟩
theorem je_isNU {j : Nat} {Φ : Bool → En → Prop} (h : JE X B m a l fun (d : UN n) l1 => Φ (isN d.u) l1) : JE X B m (.Compare a [.Is] [.Constant .none j p1] pos) l Φ :=
  (pe_cmpR op_isN h pe_non (nomark _)).imp fun σ H Q ⟨G, E, k⟩ => ⟨G, E, fun v G1 H1 d l1 e1 E1 r1 hφ => by
    refine ⟨rfl, k _ G1 H1 _ l1 e1 E1 ?_ hφ⟩
    show V.bl _ = V.bl _
    congr 1
    obtain ⟨u⟩ := d
    cases u with
    | non =>
      have e : v = .non := by cases n <;> exact r1
      rw [e]; rfl
    | bl b =>
      have e : v = .bl b := by cases n <;> exact r1
      rw [decide_eq_false (by rw [e]; exact fun z => nomatch z)]; rfl
    | int b =>
      have e : v = .int b := by cases n <;> exact r1
      rw [decide_eq_false (by rw [e]; exact fun z => nomatch z)]; rfl
    | str b =>
      have e : v = .str b := by cases n <;> exact r1
      rw [decide_eq_false (by rw [e]; exact fun z => nomatch z)]; rfl
    | lst xs =>
      cases n with
      | zero => exact r1.elim
      | succ n =>
        obtain ⟨p, ys, e, _⟩ := r1
        rw [decide_eq_false (by rw [e]; exact fun z => nomatch z)]; rfl
    | tup xs =>
      cases n with
      | zero => exact r1.elim
      | succ n =>
        obtain ⟨p, ys, e, _⟩ := r1
        rw [decide_eq_false (by rw [e]; exact fun z => nomatch z)]; rfl⟩
/-- == of two that are the same and no list, no tuple -/
def flatU : Uv → Bool
  | .lst _ => false
  | .tup _ => false
  | _ => true
def flV : Uv → V
  | .bl b => .bl b
  | .int i => .int i
  | .str s => .str s
  | _ => .non
theorem flatU_v {K : Fg} {G : Hp} {v : V} {u : Uv} (hf : flatU u = true) (h : rpU n K G v u) : v = flV u ∧ scal v v = true := by
  cases u with
  | non => have e : v = .non := by cases n <;> exact h
           subst e; exact ⟨rfl, rfl⟩
  | bl b => have e : v = .bl b := by cases n <;> exact h
            subst e; exact ⟨rfl, rfl⟩
  | int b => have e : v = .int b := by cases n <;> exact h
             subst e; exact ⟨rfl, rfl⟩
  | str b => have e : v = .str b := by cases n <;> exact h
             subst e; exact ⟨rfl, rfl⟩
  | lst _ => cases hf
  | tup _ => cases hf
theorem je_eqU {Φ : Bool → En → Prop} (h : JE X B m a l fun (x : UN n) l1 => JE X B m b l1 fun (y : UN n) l2 => (x.u = y.u ∧ flatU x.u = true) ∧ Φ true l2) : JE X B m (.Compare a [.Eq] [b] pos) l Φ :=
  (pe_cmpR op_eq h pe_any (nomark b)).imp fun σ H Q ⟨G, E, k⟩ => ⟨G, E, fun v G1 H1 x l1 e1 E1 r1 hb => hb.any E1 fun u G2 H2 y l2 e2 E2 r2 ⟨⟨he, hf⟩, hφ⟩ => by
    obtain ⟨q1, q2⟩ := flatU_v hf r1
    have r2' : rpU n X.K G2 u x.u := by rw [he]; exact r2
    obtain ⟨q3, _⟩ := flatU_v hf r2'
    have ev : v = u := q1.trans q3.symm
    subst ev
    exact ⟨q2, k _ G2 H2 true l2 (e1.trans e2) E2 (by rw [decide_eq_true rfl]; rfl) hφ⟩⟩
def itsU : Uv → List Uv
  | .lst xs => xs
  | .tup xs => xs
  | _ => []
def seqU (u : Uv) : Bool := isU "list" u || isU "tuple" u
theorem seqU_of {K : Fg} {G : Hp} {v : V} {u : Uv} (hs : seqU u = true) (h : rpU n K G v u) : ∃ k, n = k + 1 ∧ ∃ p xs, v = .ref p ∧ (G p = some (.lst xs) ∨ G p = some (.tup xs)) ∧ All2 (rpU k K G) xs (itsU u) := by
  cases u with
  | lst us =>
    cases n with
    | zero => exact h.elim
    | succ k => obtain ⟨p, xs, h1, h2, h3⟩ := h; exact ⟨k, rfl, p, xs, h1, .inl h2, h3⟩
  | tup us =>
    cases n with
    | zero => exact h.elim
    | succ k => obtain ⟨p, xs, h1, h2, h3⟩ := h; exact ⟨k, rfl, p, xs, h1, .inr h2, h3⟩
  | _ => cases hs
theorem je_lenU {Φ : Int → En → Prop} (hm : X.mg "len" = none) (h : JE X B m a l fun (d : UN n) l1 => seqU d.u = true ∧ Φ ((itsU d.u).length : Int) l1) (hg : Gl X "len" := by rfl)
    (he : starEach (a :: []) X.env = (false, eval a X.env) :: starEach [] X.env := by rfl) (hpl : (backTo pos (starEach [] X.env)).any (·.1) = false := by rfl) : JE X B m (.Call (.Name "len" p1) [a] [] pos) l Φ :=
  (pe_callB call_len_seq hg hm PySem.boot_len (pa_cons h pa_nil he) (by decide) (by decide) he hpl).imp fun σ H Q ⟨G, E, k⟩ => ⟨G, E, fun v G1 H1 d l1 e1 E1 r1 ⟨hs, hφ⟩ => by
    obtain ⟨_, _, p, xs, rfl, hp, ha⟩ := seqU_of hs r1
    refine ⟨p, xs, rfl, ?_, k _ G1 H1 _ l1 e1 E1 (by rw [ha.len]; rfl) hφ⟩
    rcases hp with hp | hp
    · exact .inl (SqL.of (E1.ex _ _ hp))
    · exact .inr (SqT.of (E1.ex _ _ hp))⟩
theorem je_ixU {Φ : UN n → En → Prop} (h : JE X B m a l fun (d : UN (n + 1)) l1 => JE X B m b l1 fun (i : Int) l2 => (seqU d.u = true ∧ 0 ≤ i ∧ i < (itsU d.u).length) ∧ ∀ u, (itsU d.u)[i.toNat]? = some u → Φ ⟨u⟩ l2) (hs : PlainIx b := by exact fun _ _ => rfl) : JE X B m (.Subscript a b pos) l Φ :=
  (pe_ix ix_seq h pe_any hs).imp fun σ H Q ⟨G, E, k⟩ => ⟨G, E, fun v G1 H1 d l1 e1 E1 r1 hb => hb.any E1 fun u G2 H2 i l2 e2 E2 r2 ⟨⟨hsq, h0, h1⟩, hd⟩ => by
    obtain ⟨k', ek, p, xs, rfl, hp, ha⟩ := seqU_of hsq r1
    cases ek
    have hlt : i.toNat < (itsU d.u).length := by omega
    obtain ⟨w, q1, q2⟩ := ha.atI (atI_of h0 (List.getElem?_eq_getElem hlt))
    rcases hp with hp | hp
    · exact .inl ⟨p, xs, i, w, rfl, r2, SqL.of (E2.ex _ _ (e2 _ _ hp)), q1, k w G2 H2 ⟨_⟩ l2 (e1.trans e2) E2 (rpU_mono e2 q2) (hd _ (List.getElem?_eq_getElem hlt))⟩
    · exact .inr (.inl ⟨p, xs, i, w, rfl, r2, SqT.of (E2.ex _ _ (e2 _ _ hp)), q1, k w G2 H2 ⟨_⟩ l2 (e1.trans e2) E2 (rpU_mono e2 q2) (hd _ (List.getElem?_eq_getElem hlt))⟩)⟩
end
end Tyl
end
section
/-! the script -/
namespace Tyl
open PySem PySem.Spec PyProof.Rows L2
structure ScriptD where
  ns : List Int
theorem SqL.ex {K : Fg} {H H' : Hp} {a : Addr} {xs : List V} (h : SqL K H a xs) (e : Ex H H') : SqL K H' a xs := L2.SqL.ext h e
instance rpScript : Rp ScriptD := ⟨fun K G v d => ∃ a, v = .ref a ∧ SqL K G a (d.ns.map V.int), fun e ⟨a, h1, h2⟩ => ⟨a, h1, SqL.ex h2 e⟩⟩
theorem ints_all {K : Fg} {G : Hp} : ∀ ns : List Int, All2 (Rp.rp K G) (ns.map V.int) ns
  | [] => trivial
  | _ :: ns => ⟨rfl, ints_all ns⟩
section
variable {X : Cx} {ow : List Nat} {B : Base ow} {m : Mi}
variable {γ : Type} [Rp γ] {tg iter : Expr} {ifs : List Expr}
theorem lcN_trS {scope : Scope} {Wf : Value → PySem.Env → Sem PySem.Fin → Sem PySem.Fin} {vs vs' : List Nat} {R : En → Int → En → Prop} {l : En} {Φ : List SD → En → Prop} (hw : ∀ v ∈ vs, v ∉ ow)
    (h : JE X B m iter l fun (L : ScriptD) l1 => ∃ (S : Type) (Γ : S → En) (I : Nat → S → List SD → Prop), (∀ s, Nn (Γ s) vs) ∧ (∃ s0, Wk l1 (Γ s0) ∧ I 0 s0 []) ∧ (∀ (i : Nat) (x : Int), L.ns[i]? = some x → TurnB X scope B ifs Wf vs' R Γ I i x) ∧ (∀ s ss, I L.ns.length s ss → Φ ss (Γ s))) (σ : L2.St) (H : Hp) (Q : VK) (q : tJN X.K B m l Φ σ H Q) :
    tLcN (iList X.K (anyE X iter)) (fun v σ H Q => ∃ m', gTw X.K B m' R vs v σ H Q) (anyTsb X scope ifs) (anyBb X scope Wf vs') vs σ H Q := by
  obtain ⟨G, E, k⟩ := q
  refine h.any E fun v G1 H1 L l1 e1 E1 r1 ⟨S, Γ, I, nn, ⟨s0, w0, i0⟩, turn, done⟩ => ?_
  obtain ⟨p, rfl, hp⟩ := r1
  have ha := ints_all (K := X.K) (G := G1) L.ns
  generalize exs : L.ns.map V.int = xs at hp ha
  refine ⟨p, rfl, ⟨xs, SqL.ex hp E1.ex⟩, fun D hD => ?_⟩
  obtain ⟨P0, nb, out⟩ := PvN.start E1 hD w0 i0
  have Z : B.Fix σ := by obtain ⟨_, _, _, z, _⟩ := E1; exact z
  have M0 : Ex m.g G1 := by obtain ⟨_, _, _, _, z⟩ := E1; exact z.g
  refine ⟨fun i mm H => mm = xs.length - i ∧ i ≤ xs.length ∧ PvN X.K B G1 m.h Γ I D σ i H, ⟨xs.length, rfl, Nat.zero_le _, P0⟩, ?_⟩
  rintro i mm H ⟨rfl, hi, P⟩
  have hsq : SqL X.K H p xs := by
    obtain ⟨s, ss, acc, G2, e2, E2, _⟩ := P
    exact SqL.ex hp (e2.trans E2.ex)
  by_cases hlt : i < xs.length
  · refine .inr ⟨⟨xs, xs[i], hsq, by simp [hlt]⟩, PvN X.K B G1 m.h Γ I D σ (i + 1), fun H' p' => ⟨xs.length - (i + 1), by omega, rfl, hlt, p'⟩, fun x H' y => ?_⟩
    obtain ⟨e, y⟩ := y
    subst e
    obtain ⟨d, hd, rd⟩ := ha.left (y xs hsq)
    exact top_turn nn hw Z nb out rd (turn i d hd) P
  · have e : i = xs.length := by omega
    subst e
    refine .inl ⟨⟨xs, hsq, Nat.le_refl _⟩, ?_⟩
    rw [ha.len] at P
    exact PvN.done M0 nb out e1 k done P
section
variable {elt : Expr} {gs : List Comprehension} {scope : Scope} {nm : List (Str × Nat)} {pos : Pos} {vs' : List Nat} {Wf : Value → PySem.Env → Sem PySem.Fin → Sem PySem.Fin} {l : En}
theorem jnsf_S {i : Nat} {y : Str} {py spos : Pos} {R : En → Int → En → Prop} {Φ : List SD → En → Prop} (hc : X.calm = true) (hN : X.N.Nodup) (ok : BlkOk X.N X.env.scope scope nm) (hw : ∀ v ∈ nm.map (·.2), v ∉ ow) (hv : ∀ v ∈ vs', v ∈ nm.map (·.2)) (hT : ∀ it acc env, TurnIs (.ListComp elt (⟨tg, iter, ifs, 0⟩ :: gs) scope pos) 0 it acc env iter tg ifs (Wf acc env))
    (hg : ∀ m s H C cl fp, PG (Bk X scope s H C cl fp) tg (gTw X.K B m R (nm.map (·.2)))) (h : JE X B m iter l fun (L : ScriptD) l1 => PureL X scope B ifs Wf (nm.map (·.2)) vs' γ R Φ L.ns l1)
    (hsw : swapsWith (.ListComp elt (⟨tg, iter, ifs, 0⟩ :: gs) scope pos) (some (.Name y py)) spos.line X.env = pure true) (hy : X.N[i]? = some y := by rfl) (hyl : X.env.scope.names.lookup y = some .local := by rfl)
    (hs : ∀ x, foldedSetIterable iter X.env x = pure x := by intro _; rfl) : JNs X B m (.Assign [.Name y py] (.ListComp elt (⟨tg, iter, ifs, 0⟩ :: gs) scope pos) spos) i l Φ :=
  (ps_setLcN (g := fun v σ H Q => ∃ m', gTw X.K B m' R (nm.map (·.2)) v σ H Q) hc hN hy hyl hsw (pi_list pe_any) ok (fun s H C cl fp => ⟨fun pins s' σ H' v u Q I r ⟨m', q⟩ => (hg m' s H C cl fp).run pins s' σ H' v u Q I r q⟩) pts_anyb pb_anyb hv hT hs).imp fun D σ H q => lcN_trS hw (h.weak fun L l1 h => pureL_in h) σ H _ q
end
end
end Tyl
end
section
/-! a def that hands out a new own list -/
namespace Tyl
open PySem PySem.Spec PyProof.Rows L2
section
variable {X : Cx} {ow : List Nat} {B : Base ow} {m : Mi} {K : Fg} {l l1 l2 : En} {G H : Hp} {σ : L2.St} {s : SD} {v : V} {i : Nat} {x : Str} {e : Expr} {es : List Expr} {rest : List Stmt} {pos p1 p2 : Pos}
/-- an own slot's thing handed on -/
theorem EnvOk.mv {v : V} (E : EnvOk K B m l G σ H) (g : Get l i s) (p : Put l i none l2) : ∃ v, σ[i]? = some (some v) ∧ EnvR K B m s v l2 G σ H := by
  obtain ⟨fp, F, E, Z, M⟩ := E
  have e := g.to
  obtain ⟨f, r, p1, g1, _, u2⟩ := E.split (i := i) (List.getElem?_eq_some_iff.mp e).1
  obtain ⟨v, e1, hs⟩ := g1 _ e
  obtain ⟨fq, w3, w4⟩ := u2 G H (some v) (Ex.refl G) (fun _ _ => rfl)
  have sg : σ.set i (some v) = σ := by
    obtain ⟨hlt, hv⟩ := List.getElem?_eq_some_iff.mp e1
    rw [← hv]
    exact List.set_getElem_self hlt
  rw [sg] at w4
  rw [p.to.1]
  have pp : (f ++ fq).Perm fp := (List.Perm.append_left f w3).trans p1.symm
  exact ⟨v, e1, f, fq, F.perm pp, hs, w4, Z, M.sub fun a ha => pp.mem_iff.mp ha⟩
theorem jg_mv {Φ : SD → En → Prop} (g : Get l i s) (p : Put l i none l2) (h : Φ s l2) (hN : X.N[i]? = some x := by rfl) (hv : Vis X.env.scope x := by first | exact Or.inl rfl | exact Or.inr (Or.inl rfl) | exact Or.inr (Or.inr rfl)) (hd : (x == ("__debug__" : Str)) = false := by decide) (hcd : (x == ("__classdict__" : Str)) = false := by decide) : JG X B m (.Name x pos) l Φ :=
  (pe_var (i := i) hN hv hd hcd).imp fun σ H Q ⟨G, E, k⟩ => by
    obtain ⟨v, e1, E2⟩ := E.mv (v := .non) g p
    exact ⟨v, e1, k v G H s l2 (Ex.refl G) E2 h⟩
/-- an own thing as data -/
theorem je_frz {α : Type} [Rp α] {Φ : α → En → Prop} (h : JG X B m e l fun s l1 => ∃ d : α, Fz s d ∧ OwnAll ow l1 ∧ Φ d l1) : JE X B m e l Φ := PE.imp h fun σ H Q ⟨G, E, k⟩ => ⟨G, E, fun v G1 H1 s l1 e1 E1 ⟨d, z, o, hφ⟩ => by
  obtain ⟨G2, e2, E2, r2⟩ := E1.frz o z
  exact k v G2 H1 d l1 (e1.trans e2) E2 r2 hφ⟩
/-- what such a def leaves -/
def RTN {R O : Type} (K : Fg) (B : Base ow) (res : R → SD) (outs : O → List SD) (post : R → O → Prop) (v : V) (H : Hp) : Prop := ∃ G d o, (∃ f fp', Fr B G H (f ++ fp') ∧ SD.P (res d) K G H v f ∧ ∃ l σ, Env K G H l σ fp' ∧ l = (outs o).map some ∧ σ = B.fix.map some) ∧ post d o
variable {nx : L2.St → Hp → Prop} {rt : VK} {bk ct : L2.St → Hp → Prop}
theorem EnvR.outs {ss : List SD} (E : EnvR K B m s v l G σ H) (o : Outs ow l ss) (nd : ow.Nodup) : ∃ f fp', Fr B G H (f ++ fp') ∧ SD.P s K G H v f ∧ ∃ l σ, Env K G H l σ fp' ∧ l = ss.map some ∧ σ = B.fix.map some := by
  obtain ⟨f, fp, F, hs, E, Z, M⟩ := E
  obtain ⟨r, fp', p, E'⟩ := pick o nd (fun _ _ => rfl) E Z.len (fun k i v h1 h2 => Z.at_ k i v h1 h2)
  have pp : (f ++ fp).Perm (r ++ (f ++ fp')) := perm3 p
  exact ⟨f, fp', (F.perm pp.symm).sub, hs, _, _, E', rfl, rfl⟩
theorem js_retN {R O : Type} {res : R → SD} {outs : O → List SD} {post : R → O → Prop} (nd : ow.Nodup) (h : JG X B m e l fun s l1 => ∃ d o, s = res d ∧ Outs ow l1 (outs o) ∧ post d o) : JSs X B m (.Return (some e) pos :: rest) l ⟨nx, RTN X.K B res outs post, bk, ct⟩ :=
  PSs.imp (pss_cons (ps_ret h) (pss_any (e := rest))) fun D' σ H ⟨⟨G, E⟩, _, q, _⟩ => ⟨G, E, fun v G1 H1 s l1 e1 E1 ⟨d, o, es, ho, hp⟩ => by
    subst es
    exact q v H1 ⟨G1, d, o, E1.outs ho nd, hp⟩⟩
def spTN {A R O : Type} (K : Fg) (mask : List Bool) (args : A → List SD) (pre : A → Prop) (res : R → SD) (outs : A → O → List SD) (post : A → R → O → Prop) : Sp := fun vs H Q _ => ∃ (a : A) (G : Hp) (fp : List Addr),
  Ex G H ∧ fp.Nodup ∧ (∀ x ∈ fp, G x = none) ∧ Rows K G H (args a) vs fp ∧ (∀ x ∈ fp, V.ref x ∈ fixOf mask vs) ∧ mask.length = vs.length ∧ pre a ∧
  ∀ v H', RTN K (⟨G, H, fp, fixOf mask vs⟩ : Base (ixOf mask 0)) res (outs a) (post a) v H' → Q v H'
end
section
variable {P : Program} {w : World} {K : Fg} {mg : Str → Option Value} {base : Heap} {x qual : Str} {params : Arguments} {body : List Stmt} {scope : Scope} {f : Addr} {fd : FuncData} {CX : CXT} {N ps : List Str} {k : Nat}
theorem okTN {A R O : Type} {mask : List Bool} {args : A → List SD} {pre : A → Prop} {res : R → SD} {outs : A → O → List SD} {post : A → R → O → Prop} {dvs : List V} {kws : List (Str × V)} (F : FunD K x qual params body scope dvs kws f fd) (S : FnScope N ps scope) (hlen : ∀ a, (args a).length = ps.length)
    (h : ∀ (cdv : Value) (A0 : Around) (outer : List PySem.Env) (s : Shared) (H : Hp) (E : XK) (a : A) (B : Base (ixOf mask 0)), Room k (A0.deeper (envOfC qual scope s.heap.objs.size f cdv)) → pre a →
      JSs (cxOf CX P w K mg base N qual scope f cdv A0 outer s H E) B ⟨B.G, []⟩ body ((args a).map some ++ List.replicate (N.length - ps.length) none) ⟨fun _ _ => False, RTN K B res (outs a) (post a), fun _ _ => False, fun _ _ => False⟩) :
    FnOk P w K mg base CX (k + 1) f fd ps (spTN K mask args pre res outs post) := by
  refine F.ok S (fun vs H Q E ⟨a, G, fp, _, _, _, hR, _⟩ => by rw [← hR.len]; exact hlen a) (fun cdv A0 outer s H vs Q E hr ⟨a, G, fp, ex, nd, un, hR, fl, hm, hp, hQ⟩ => ?_)
  refine ⟨_, h cdv A0 outer s H E a ⟨G, H, fp, fixOf mask vs⟩ hr hp, ⟨G, fp, ⟨ex, Ex.refl _, fun _ _ h => h, fun _ _ h _ => h, fun _ h => h, nd, fun x hx => ⟨un x hx, hR.dom x hx, .inr hx⟩⟩, ?_, ⟨?_, ?_, fl⟩, Ex.refl _, fun q hq => nomatch hq⟩, fun _ H q => q.elim, fun v H q => hQ _ _ q, fun _ _ z => z.elim, fun _ _ z => z.elim⟩
  · have e : vs.length = ps.length := by rw [← hR.len]; exact hlen a
    unfold L2.start
    rw [e]
    exact env_of_rows hR _
  · exact fix_len mask vs 0 hm
  · intro k i v h1 h2
    obtain ⟨j, e, hj⟩ := fix_at mask vs 0 k i v h1 h2
    have ej : i = j := by omega
    subst ej
    unfold L2.start
    obtain ⟨hlt, hv⟩ := List.getElem?_eq_some_iff.mp hj
    rw [List.getElem?_append_left (by simpa using hlt), List.getElem?_map, hj]
    rfl
end
section
variable {X : Cx} {ow : List Nat} {B : Base ow} {m : Mi} {l : En} {e : Expr} {es : List Expr} {pos p1 : Pos}
theorem call_spN {A R O : Type} {mask : List Bool} {args : A → List SD} {pre : A → Prop} {res : R → SD} {outs : A → O → List SD} {post : A → R → O → Prop} {G H : Hp} {σ : L2.St} {Q : VK} {E : XK} {as : List Arg} {vs : List V} {l1 : En} {a : A} {is : List Nat}
    (E1 : EnvOk X.K B m l1 G σ H) (hv : All2 (ArgR X.K G σ) as vs) (hM : Mat l1 as (args a) is) (nd : is.Nodup) (em : maskOf as = mask) (hp : pre a)
    (k : ∀ v G' H' d o, Ex G G' → post a d o → (∀ l2, Puts l1 is (outs a o) l2 → EnvR X.K B m (res d) v l2 G' σ H') → Q v H') : spTN X.K mask args pre res outs post vs H Q E := by
  obtain ⟨fp, F, E1, Z, M⟩ := E1
  obtain ⟨fc, r, p, hR, E2, q1, q2, q3⟩ := mat_split hM nd (fun _ _ => rfl) E1 hv
  have F1 := F.perm p.symm
  have F2 := F1.subl
  subst em
  refine ⟨a, G, fc, F.ex, F2.nd, fun x hx => (F2.un x hx).1, hR, q1, by unfold maskOf; rw [List.length_map]; exact hv.len, hp, fun v H' ⟨G', d, o, ⟨f, fq, F', hs, l', σ', E', el, eσ⟩, hpo⟩ => ?_⟩
  subst el eσ
  refine k v G' H' d o F'.g0 hpo fun l2 hp2 => ?_
  have Fc := F1.call F'
  have E3 : Env X.K G' H' (hole l1 is) σ r := E2.mono F'.g0 fun a ha => by
    cases q : H a with
    | none => exact absurd q (F1.un a (List.mem_append_right _ ha)).2.1
    | some o => exact F'.keep a o q fun hm => (List.nodup_append.mp F1.nd).2.2 a hm a ha rfl
  obtain ⟨dd, fp', pp, E4⟩ := fill hp2 nd q3 q2 E3 E'
  have pa : (f ++ fq ++ r).Perm (dd ++ (f ++ fp')) := by
    rw [List.append_assoc]
    exact perm3 pp
  refine ⟨f, fp', (Fc.perm pa.symm).sub, hs, E4, Z, M.g.trans F'.g0, fun q hq => ?_⟩
  obtain ⟨h1, h2, h3⟩ := M.h q hq
  have nc : q.1 ∉ fc := fun z => h3 (p.mem_iff.mpr (List.mem_append_left _ z))
  refine ⟨F'.keep _ _ h1 nc, F'.gn _ (fun z => by have z' : H q.1 = none := z; rw [h1] at z'; cases z') h2, fun z => ?_⟩
  have z1 : q.1 ∈ f ++ fq ++ r := pa.mem_iff.mpr (List.mem_append_right _ z)
  rcases List.mem_append.mp z1 with z2 | z2
  · rcases (F'.un _ z2).2.2 with w | w
    · have w' : H q.1 = none := w
      rw [h1] at w'; cases w'
    · exact nc w
  · exact h3 (p.mem_iff.mpr (List.mem_append_right _ z2))
/-- the call: a new own thing -/
theorem jg_callN {A R O : Type} {mask : List Bool} {args : A → List SD} {pre : A → Prop} {res : R → SD} {outs : A → O → List SD} {post : A → R → O → Prop} {CX : CXT} {k : Nat} {ps : List Str} {x : Str} {Φ : SD → En → Prop}
    (F : OkF X.prog X.w X.K X.mg X.base CX k x ps (spTN X.K mask args pre res outs post)) (hr : Room k X.A) (hx : Passes CX X E0)
    (h : JA X B m (e :: es) l fun as l1 => ∃ (a : A) (is : List Nat), Mat l1 as (args a) is ∧ is.Nodup ∧ maskOf as = mask ∧ pre a ∧ ∀ d o, post a d o → ∃ l2, Puts l1 is (outs a o) l2 ∧ Φ (res d) l2)
    (hg : Gl X x := by rfl) (hdb : (x == ("__debug__" : Str)) = false := by decide) (he : starEach (e :: es) X.env = (false, eval e X.env) :: starEach es X.env := by rfl) (hpl : (backTo pos (starEach es X.env)).any (·.1) = false := by rfl) :
    JG X B m (.Call (.Name x p1) (e :: es) [] pos) l Φ :=
  let ⟨fd, f, b⟩ := F.ex
  (pe_call f hr hg F.gl F.kp b .nil hx h hdb he hpl).imp fun σ H Q ⟨G, E, k⟩ => ⟨G, E, fun vs G1 H1 as l1 e1 E1 r1 ⟨a, is, hM, nd, em, hp, hΦ⟩ => by
    show spTN X.K mask args pre res outs post (vs ++ []) H1 Q E0
    rw [List.append_nil]
    refine call_spN E1 r1 hM nd em hp fun v G2 H2 d o e2 hpo hE => ?_
    obtain ⟨l2, hP, hφ⟩ := hΦ d o hpo
    exact k v G2 H2 _ l2 (e1.trans e2) (hE l2 hP) hφ⟩
end
end Tyl
end
section
/-! classmethods, a class by a local name, the empty tuple -/
namespace Tyl
open PySem PySem.Spec PyProof.Rows L2 ClX
structure EmpT where
instance : Rp EmpT := ⟨fun K G v _ => ∃ p, v = .ref p ∧ ∃ (o : Obj) (n : Nat), K.lookup p = some o ∧ o.cls = .type "tuple" ∧ o.data = .seq #[] n, fun _ h => h⟩
theorem emp_sq {K : Fg} {G H : Hp} {v : V} {d : EmpT} (h : Rp.rp K G v d) : ∃ p, v = .ref p ∧ SqT K H p [] := by
  obtain ⟨p, e, o, n, h1, h2, h3⟩ := h
  exact ⟨p, e, .inr ⟨o, #[], n, h1, h2, h3, Nat.zero_le _, .nil⟩⟩
/-- the default in the written part is the empty tuple -/
def faEmp (x m : Str) (i : Nat) : Fg → Bool := fun K => match K.lookup (He.dflAt (x, some m) i K) with
  | some ⟨.type "tuple", _, .seq ⟨[]⟩ _, _⟩ => true
  | _ => false
theorem emp_ok {K : Fg} {G : Hp} {x m : Str} {i : Nat} (h : faEmp x m i K = true) : Rp.rp K G (.ref (He.dflAt (x, some m) i K)) (EmpT.mk) := by
  unfold faEmp at h
  split at h
  · rename_i d n sl e
    exact ⟨_, rfl, _, n, e, rfl, rfl⟩
  · cases h
section
variable {X : Cx} {ow : List Nat} {B : Base ow} {m : Mi} {l : En} {e : Expr} {es : List Expr} {rest body : List Stmt} {D : Ends} {pos p1 p2 : Pos} {x f n : Str} {i : Nat}
/-- no turn -/
theorem js_for0 {tg : Expr} {g : TG} (hg : PG X tg g) (hp : PassesOwn (model X.prog X.w) X.A X.env X.xe) (hc : X.calm = true) (h : JE X B m e l fun (_ : EmpT) l1 => JSs X B m rest l1 D) (hs : ∀ x, foldedSetIterable e X.env x = pure x := by intro _; rfl) : JSs X B m (.For tg e body [] pos :: rest) l D := by
  refine PSs.imp (pss_cons (ps_for hp hc (pi_tup h) hg (pss_any (e := body)) hs) (pss_any (e := rest))) fun D' σ H ⟨⟨G, E⟩, q⟩ => ?_
  refine ⟨G, E, fun v G1 H1 d l1 e1 E1 r1 hr => ?_⟩
  obtain ⟨p, rfl, hp⟩ := emp_sq (H := H1) r1
  refine ⟨p, rfl, ⟨[], hp⟩, ?_⟩
  refine for_tup (K := X.K) (a := p) (xs := []) (g := g) (tb := anySs X body) (D := { D' with nx := anySs X rest D' }) (fun i σ' H' => σ' = σ ∧ H' = H1) ⟨rfl, rfl⟩ (fun i σ' H' _ ⟨_, e⟩ => by rw [e]; exact hp) (fun i y σ' H' hx _ => by simp at hx) fun σ' H' ⟨e1, e2⟩ => ?_
  subst e1 e2
  exact hr.any E1 q
/-- C.n(e, ..), n a classmethod -/
theorem je_cmeth {pl : Sem Bool} {A r : Type} [Rp r] {q : Nat} {args : A → List SD} {pre : A → Prop} {post : A → r → Prop} {CX : CXT} {k : Nat} {ps : List Str} {Φ : r → En → Prop} (hm : X.mg x = some (.ref (He.ga X.K x))) (hc : CRead X.K (He.ga X.K x) (.type "type") ∧ CMet X.K (He.ga X.K x) (.type "type") n (He.ma X.K (He.ga X.K x) n) (cmG X.K x n))
    (F : OkA X.prog X.w X.K X.mg X.base CX k (cmG X.K x n) ps (spP X.K q args pre post)) (hr : Room k X.A) (hx : Passes CX X E0)
    (h : JA X B m (e :: es) l fun as l2 => ∃ a : A, (.val (sd (ClsD.mk : ClsD x)) :: as) = vals (args a) ∧ (args a).length = q ∧ pre a ∧ ∀ y, post a y → Φ y l2) (hgx : Gl X x := by rfl) (hd : (x == ("__debug__" : Str)) = false := by decide)
    (hst : starEach (e :: es) X.env = (false, eval e X.env) :: starEach es X.env := by rfl) (hpl : (backTo pos (starEach es X.env)).any (·.1) = false := by rfl)
    (ht : eval (.Call (.Attribute (.Name x p2) n p1) (e :: es) [] pos) X.env = (do
      let ov ← eval (.Name x p2) X.env
      standAt p1.atName
      let (f, first) ← holding [ov] (getMethod ov n pl)
      callWith pos f first (backTo pos (starEach (e :: es) X.env)) (backToKw pos (keywordEach [] X.env))) := by rfl) : JE X B m (.Call (.Attribute (.Name x p2) n p1) (e :: es) [] pos) l Φ :=
  let ⟨fd, F, hb⟩ := F.ex
  (pe_cmeth (pl := pl) (E := E0) (pe_glob (v := .ref (He.ga X.K x)) hgx hm rfl hd) hc.1 hc.2 (F.raw hb .nil) hr hx h hst hpl ht).imp fun σ H Q ⟨G, E, k⟩ => ⟨rfl, G, E, fun vs G1 H1 as l1 e1 E1 r1 ⟨a, ey, en, hp, hΦ⟩ => by
    have hA : All2 (ArgR X.K G1 σ) (vals (args a)) (.ref (He.ga X.K x) :: vs) := by
      rw [← ey]
      exact ⟨pr_sd (α := ClsD x) rfl, r1⟩
    show spP X.K q args pre post ((.ref (He.ga X.K x) :: vs) ++ []) H1 Q E0
    rw [List.append_nil]
    exact call_sp (E := E0) E1 hA mat_vals List.nodup_nil (by rw [mask_vals, en]) hp fun v G3 H3 r _ e3 rr hpo hE => k v G3 H3 r l1 (e1.trans e3) (hE l1 .nil) rr (hΦ r hpo)⟩
/-- cls(e, ..), cls a local name -/
theorem je_makeL {A O : Type} {cx y : Str} {cd : ClsD cx} {q : Nat} {args : A → List SD} {pre : A → Prop} {fs : O → List (Str × SD)} {post : A → O → Prop} {D : Type} [Rp D] {d : O → D} {Φ : D → En → Prop} {CX : CXT} {k : Nat} {fa : Addr} {fd : FuncData} {ps : List Str} (g : Get l i (sd cd)) (hz : ∀ o, Fz (obj (fun K => He.ga K cx) (fs o)) (d o)) (M : Mk X.K (He.ga X.K cx) fa)
    (F : FnOk X.prog X.w X.K X.mg X.base CX k fa fd ps (spT (R := Unit) X.K (true :: List.replicate q false) (fun a => obj (fun K => He.ga K cx) [] :: args a) pre (fun _ o => [obj (fun K => He.ga K cx) (fs o)]) (fun a _ o => post a o))) (hr : Room (k + 1) X.A) (hb : Binds X.K fd ps []) (hx : Passes CX X E0)
    (h : JA X B m (e :: es) l fun as l1 => ∃ a : A, as = vals (args a) ∧ (args a).length = q ∧ pre a ∧ OwnAll ow l1 ∧ ∀ o, post a o → Φ (d o) l1)
    (hN : X.N[i]? = some y := by rfl) (hv : Vis X.env.scope y := by first | exact Or.inl rfl | exact Or.inr (Or.inl rfl) | exact Or.inr (Or.inr rfl)) (hdb : (y == ("__debug__" : Str)) = false := by decide) (hcd : (y == ("__classdict__" : Str)) = false := by decide)
    (he : starEach (e :: es) X.env = (false, eval e X.env) :: starEach es X.env := by rfl) (hpl : (backTo pos (starEach es X.env)).any (·.1) = false := by rfl) : JE X B m (.Call (.Name y p1) (e :: es) [] pos) l Φ :=
  (pe_makeL (i := i) (E := E0) M F hr hN hv hb .nil hx h hdb hcd he hpl).imp fun σ H Q ⟨G, E, k⟩ => by
    obtain ⟨v, f, e0, hP⟩ := E.get g
    have ev : v = .ref (He.ga X.K cx) := hP.1
    subst ev
    exact ⟨e0, G, E, fun vs G1 H1 as l1 e1 E1 r1 hh => fun x dx hx hdx ne => by
      rw [List.append_nil]
      exact make_sp hz E1 r1 hh (fun v G' H' d e2 E2 rr hφ => k v G' H' d l1 (e1.trans e2) E2 rr hφ) hx hdx ne⟩
/-- .. one default behind -/
theorem je_makeD {A O δ : Type} [Rp δ] {dd : δ} {dv : V} {ds : List Value} {cx y : Str} {cd : ClsD cx} {q : Nat} {args : A → List SD} {pre : A → Prop} {fs : O → List (Str × SD)} {post : A → O → Prop} {D : Type} [Rp D] {d : O → D} {Φ : D → En → Prop} {CX : CXT} {k : Nat} {fa : Addr} {fd : FuncData} {ps : List Str} (g : Get l i (sd cd)) (hz : ∀ o, Fz (obj (fun K => He.ga K cx) (fs o)) (d o)) (M : Mk X.K (He.ga X.K cx) fa)
    (F : FnOk X.prog X.w X.K X.mg X.base CX k fa fd ps (spT (R := Unit) X.K (true :: List.replicate q false) (fun a => obj (fun K => He.ga K cx) [] :: args a) pre (fun _ o => [obj (fun K => He.ga K cx) (fs o)]) (fun a _ o => post a o))) (hr : Room (k + 1) X.A) (hb : Binds X.K fd ps ds) (hvd : Vals [dv] ds) (hrd : ∀ G, Rp.rp X.K G dv dd) (hx : Passes CX X E0)
    (h : JA X B m (e :: es) l fun as l1 => ∃ a : A, as ++ [.val (sd dd)] = vals (args a) ∧ (args a).length = q ∧ pre a ∧ OwnAll ow l1 ∧ ∀ o, post a o → Φ (d o) l1)
    (hN : X.N[i]? = some y := by rfl) (hv : Vis X.env.scope y := by first | exact Or.inl rfl | exact Or.inr (Or.inl rfl) | exact Or.inr (Or.inr rfl)) (hdb : (y == ("__debug__" : Str)) = false := by decide) (hcd : (y == ("__classdict__" : Str)) = false := by decide)
    (he : starEach (e :: es) X.env = (false, eval e X.env) :: starEach es X.env := by rfl) (hpl : (backTo pos (starEach es X.env)).any (·.1) = false := by rfl) : JE X B m (.Call (.Name y p1) (e :: es) [] pos) l Φ :=
  (pe_makeL (i := i) (E := E0) M F hr hN hv hb hvd hx h hdb hcd he hpl).imp fun σ H Q ⟨G, E, k⟩ => by
    obtain ⟨v, f, e0, hP⟩ := E.get g
    have ev : v = .ref (He.ga X.K cx) := hP.1
    subst ev
    exact ⟨e0, G, E, fun vs G1 H1 as l1 e1 E1 r1 ⟨a, ea, hh⟩ => fun x dx hx hdx ne =>
      make_sp (as := as ++ [.val (sd dd)]) hz E1 (All2.app (as' := [Arg.val (sd dd)]) (bs' := [dv]) r1 ⟨pr_sd (hrd G1), trivial⟩) ⟨a, ea, hh⟩ (fun v G' H' d e2 E2 rr hφ => k v G' H' d l1 (e1.trans e2) E2 rr hφ) hx hdx ne⟩
end
end Tyl
end
section
/-! a list of own lists -/
namespace Tyl
open PySem PySem.Spec PyProof.Rows L2
def RowsAt (K : Fg) (G H : Hp) (ps : List Addr) (rows : List (List SD)) : Prop := All2 (fun a ss => ∃ xs, H a = some (.lst xs) ∧ All2 (PR K G) xs ss) ps rows
theorem RowsAt.mono {K : Fg} {G G' H H' : Hp} (e : Ex G G') : ∀ {ps : List Addr} {rows : List (List SD)}, (∀ a ∈ ps, H' a = H a) → RowsAt K G H ps rows → RowsAt K G' H' ps rows
  | [], [], _, _ => trivial
  | a :: ps, ss :: rows, k, ⟨⟨xs, h1, h2⟩, r⟩ => ⟨⟨xs, by rw [k a List.mem_cons_self]; exact h1, h2.imp fun _ _ h => h.mono e⟩, RowsAt.mono e (fun b hb => k b (List.mem_cons_of_mem _ hb)) r⟩
theorem RowsAt.dom {K : Fg} {G H : Hp} : ∀ {ps : List Addr} {rows : List (List SD)}, RowsAt K G H ps rows → ∀ a ∈ ps, H a ≠ none
  | [], [], _, _, ha => nomatch ha
  | a :: ps, ss :: rows, ⟨⟨xs, h1, _⟩, r⟩, b, hb => by
    rcases List.mem_cons.mp hb with e | hb
    · rw [e, h1]; exact fun z => nomatch z
    · exact RowsAt.dom r b hb
/-- rows that stand at ps, the list of them at p -/
def tab (p : Addr) (ps : List Addr) (rows : List (List SD)) : SD where
  P := fun K G H v f => v = .ref p ∧ H p = some (.lst (ps.map V.ref)) ∧ RowsAt K G H ps rows ∧ f = p :: ps
  mono := fun e k ⟨h1, h2, h3, h4⟩ => ⟨h1, by rw [k p (by rw [h4]; exact List.mem_cons_self)]; exact h2, h3.mono e (fun a ha => k a (by rw [h4]; exact List.mem_cons_of_mem _ ha)), h4⟩
  dom := fun ⟨h1, h2, h3, h4⟩ a ha => by
    rw [h4] at ha
    rcases List.mem_cons.mp ha with e | ha
    · rw [e, h2]; exact fun z => nomatch z
    · exact h3.dom a ha
/-- the name of a row -/
def rowAt (a : Addr) : SD where
  P := fun _ _ _ v f => v = .ref a ∧ f = []
  mono := fun _ _ h => h
  dom := fun h a ha => by rw [h.2] at ha; cases ha
section
variable {X : Cx} {ow : List Nat} {B : Base ow} {m : Mi} {K : Fg} {l : En} {G H : Hp} {σ : L2.St} {g : Hp} {h h' : List (Addr × HO)}
theorem EnvOk.hsub (E : EnvOk K B ⟨g, h⟩ l G σ H) (s : ∀ q ∈ h', q ∈ h) : EnvOk K B ⟨g, h'⟩ l G σ H :=
  let ⟨fp, F, E, Z, M⟩ := E
  ⟨fp, F, E, Z, M.g, fun q hq => M.h q (s q hq)⟩
/-- the rows laid aside -/
def laid (hs : List (Addr × List V)) : List (Addr × HO) := hs.map fun t => (t.1, .lst t.2)
/-- the table's things from aside become a slot's -/
theorem EnvOk.tabR {D : Addr} {hs : List (Addr × List V)} {row : List SD} (E : EnvOk K B ⟨g, (D, .lst (hs.map fun t => V.ref t.1)) :: (laid hs ++ h)⟩ l G σ H) (nd : (D :: hs.map (·.1)).Nodup) (nb : ∀ a ∈ D :: hs.map (·.1), B.H a = none) (out : ∀ q ∈ h, q.1 ∉ D :: hs.map (·.1)) (hr : ∀ t ∈ hs, All2 (PR K G) t.2 row) :
    EnvR K B ⟨g, h⟩ (tab D (hs.map (·.1)) (List.replicate hs.length row)) (.ref D) l G σ H := by
  obtain ⟨fp, F, E, Z, M⟩ := E
  have at_ : ∀ a ∈ D :: hs.map (·.1), H a ≠ none ∧ G a = none ∧ a ∉ fp := by
    intro a ha
    rcases List.mem_cons.mp ha with e | ha
    · obtain ⟨x, y, z⟩ := M.h _ List.mem_cons_self
      subst e
      exact ⟨by rw [x]; exact (fun z => nomatch z), y, z⟩
    · obtain ⟨t, ht, e⟩ := List.mem_map.mp ha
      subst e
      obtain ⟨x, y, z⟩ := M.h (t.1, .lst t.2) (List.mem_cons_of_mem _ (List.mem_append_left _ (List.mem_map.mpr ⟨t, ht, rfl⟩)))
      exact ⟨by rw [x]; exact (fun z => nomatch z), y, z⟩
  have hra : RowsAt K G H (hs.map (·.1)) (List.replicate hs.length row) := by
    have hM : ∀ t ∈ hs, H t.1 = some (.lst t.2) := fun t ht => (M.h (t.1, .lst t.2) (List.mem_cons_of_mem _ (List.mem_append_left _ (List.mem_map.mpr ⟨t, ht, rfl⟩)))).1
    clear M at_ nd nb out
    induction hs with
    | nil => trivial
    | cons t hs ih => exact ⟨⟨t.2, hM t List.mem_cons_self, hr t List.mem_cons_self⟩, ih (fun t ht => hr t (List.mem_cons_of_mem _ ht)) fun t ht => hM t (List.mem_cons_of_mem _ ht)⟩
  refine ⟨D :: hs.map (·.1), fp, ⟨F.ex, F.g0, F.gn, F.keep, F.dom, List.nodup_append.mpr ⟨nd, F.nd, fun a ha b hb e => (at_ a ha).2.2 (by rw [e]; exact hb)⟩, fun a ha => ?_⟩, ⟨rfl, ?_, hra, rfl⟩, E, Z, M.g, fun q hq => ?_⟩
  · rcases List.mem_append.mp ha with ha | ha
    · exact ⟨(at_ a ha).2.1, (at_ a ha).1, .inl (nb a ha)⟩
    · exact F.un a ha
  · rw [(M.h _ List.mem_cons_self).1, List.map_map]
    rfl
  · obtain ⟨x, y, z⟩ := M.h q (List.mem_cons_of_mem _ (List.mem_append_right _ hq))
    exact ⟨x, y, fun w => (List.mem_append.mp w).elim (out q hq) z⟩
/-- the state behind i turns of a comprehension of new rows -/
def PvT (K : Fg) (B : Base ow) (G1 : Hp) (h0 : List (Addr × HO)) (l : En) (row : List SD) (D : Addr) (σ : L2.St) (i : Nat) (H : Hp) : Prop :=
  ∃ hs G, hs.length = i ∧ Ex G1 G ∧ EnvOk K B ⟨G1, (D, .lst (hs.map fun t => V.ref t.1)) :: (laid hs ++ h0)⟩ l G σ H ∧ (D :: hs.map (·.1)).Nodup ∧ (∀ a ∈ D :: hs.map (·.1), B.H a = none) ∧ (∀ q ∈ h0, q.1 ∉ D :: hs.map (·.1)) ∧ ∀ t ∈ hs, All2 (PR K G) t.2 row
section
variable {elt a : Expr} {scope : Scope} {vs : List Nat} {R : En → Int → En → Prop} {row : List SD}
theorem tab_turn {D : Addr} {G1 : Hp} {h0 : List (Addr × HO)} {i : Nat} (nn : Nn l vs) (hv : ∀ v ∈ vs, v ∉ ow) (Z : B.Fix σ) (hi : i < 100000)
    (h : ∃ l2, R l (i : Int) l2 ∧ ∀ s H C cl fp m', JN (Bk X scope s H C cl fp) B m' elt l2 fun ss l3 => ss = row ∧ Wk l3 l) (P : PvT X.K B G1 h0 l row D σ i H) :
    ∃ m', gTw X.K B m' R vs (.int (i : Int)) (L2.wipe σ vs) H fun σ2 H2 => L2.wipe σ2 vs = L2.wipe σ vs ∧ anyTsb X scope [] σ2 H2 fun b H3 => if b = true then anyBb X scope (fun acc env => LastW elt acc env) [] D σ2 H3 (PvT X.K B G1 h0 l row D σ (i + 1)) else PvT X.K B G1 h0 l row D σ (i + 1) H3 := by
  obtain ⟨hs, G, hl, e1, E, nd, nb, out, hr⟩ := P
  obtain ⟨l2, hR, ht⟩ := h
  refine ⟨⟨G1, (D, .lst (hs.map fun t => V.ref t.1)) :: (laid hs ++ h0)⟩, G, l, (i : Int), l2, E.wipe nn hv, rfl, hR, fun σ' E' hw => ?_⟩
  rw [wipe_wipe fun _ h => h] at hw
  refine ⟨hw, tYes, fun _ _ _ _ _ => pts_nil, ?_⟩
  refine (if_pos rfl : (if true = true then anyBb X scope (fun acc env => LastW elt acc env) [] D σ' H (PvT X.K B G1 h0 l row D σ (i + 1)) else PvT X.K B G1 h0 l row D σ (i + 1) H) = _).mpr ?_
  refine ⟨tLast (tJN X.K B ⟨G1, (D, .lst (hs.map fun t => V.ref t.1)) :: (laid hs ++ h0)⟩ l2 fun ss l3 => ss = row ∧ Wk l3 l) D, fun s H C cl fp => pb_last (X := Bk X scope s H C cl fp) (D := D) (te := tJN X.K B ⟨G1, (D, .lst (hs.map fun t => V.ref t.1)) :: (laid hs ++ h0)⟩ l2 fun ss l3 => ss = row ∧ Wk l3 l) rfl (ht s H C cl fp ⟨G1, (D, .lst (hs.map fun t => V.ref t.1)) :: (laid hs ++ h0)⟩), G, E', fun xs ss G' H' l' p e' N ⟨es, w⟩ => ?_⟩
  subst es
  obtain ⟨E2, ha, nw, out2⟩ := N
  have hD : H' D = some (.lst (hs.map fun t => V.ref t.1)) := by
    obtain ⟨_, _, _, _, M⟩ := E2
    exact (M.h _ (List.mem_cons_of_mem _ List.mem_cons_self)).1
  have pD : D ≠ p := out2 (D, _) List.mem_cons_self
  have ph : ∀ t ∈ hs, t.1 ≠ p := fun t ht => out2 (t.1, .lst t.2) (List.mem_cons_of_mem _ (List.mem_append_left _ (List.mem_map.mpr ⟨t, ht, rfl⟩)))
  have p0 : ∀ q ∈ h0, q.1 ≠ p := fun q hq => out2 q (List.mem_cons_of_mem _ (List.mem_append_right _ hq))
  refine ⟨_, hD, by rw [List.length_map]; exact Nat.lt_of_lt_of_le (by omega) (show 100000 ≤ sizeLine by decide), hs ++ [(p, xs)], G', by rw [List.length_append, hl]; rfl, e1.trans e', ?_, ?_, ?_, ?_, ?_⟩
  · have E3 : EnvOk X.K B ⟨G1, (D, .lst (hs.map fun t => V.ref t.1)) :: ((p, .lst xs) :: (laid hs ++ h0))⟩ l' G' σ' H' := E2.hsub fun q hq => by
      rcases List.mem_cons.mp hq with e | hq
      · rw [e]; exact List.mem_cons_of_mem _ List.mem_cons_self
      · rcases List.mem_cons.mp hq with e | hq
        · rw [e]; exact List.mem_cons_self
        · exact List.mem_cons_of_mem _ (List.mem_cons_of_mem _ hq)
    have E4 := E3.hidW (u := .lst ((hs.map fun t => V.ref t.1) ++ [V.ref p])) (nb D List.mem_cons_self) fun q hq => by
      rcases List.mem_cons.mp hq with e | hq
      · rw [e]; exact fun z => pD z.symm
      · rcases List.mem_append.mp hq with hq | hq
        · obtain ⟨t, ht, e⟩ := List.mem_map.mp hq
          subst e
          exact fun z => (List.nodup_cons.mp nd).1 (List.mem_map.mpr ⟨t, ht, z⟩)
        · exact fun z => out q hq (by rw [z]; exact List.mem_cons_self)
    have e5 : (hs.map fun t => V.ref t.1) ++ [V.ref p] = (hs ++ [(p, xs)]).map fun t => V.ref t.1 := by rw [List.map_append]; rfl
    rw [e5] at E4
    rw [e5]
    refine ((E4.wk w).unwipe nn hw Z).hsub fun q hq => ?_
    rcases List.mem_cons.mp hq with e | hq
    · rw [e]; exact List.mem_cons_self
    · refine List.mem_cons_of_mem _ ?_
      rcases List.mem_append.mp hq with hq | hq
      · obtain ⟨t, ht, e⟩ := List.mem_map.mp hq
        subst e
        rcases List.mem_append.mp ht with ht | ht
        · exact List.mem_cons_of_mem _ (List.mem_append_left _ (List.mem_map.mpr ⟨t, ht, rfl⟩))
        · rw [List.mem_singleton.mp ht]; exact List.mem_cons_self
      · exact List.mem_cons_of_mem _ (List.mem_append_right _ hq)
  · have pm : p ∉ D :: hs.map (·.1) := fun z => by
      rcases List.mem_cons.mp z with e | z
      · exact pD e.symm
      · obtain ⟨t, ht, e⟩ := List.mem_map.mp z
        exact ph t ht e
    rw [List.map_append, ← List.cons_append]
    exact List.nodup_append.mpr ⟨nd, List.nodup_cons.mpr ⟨fun z => (nomatch z), List.nodup_nil⟩, fun a ha b hb e => pm (by have eb : b = p := List.mem_singleton.mp hb; rw [← eb, ← e]; exact ha)⟩
  · intro a ha
    rw [List.map_append, ← List.cons_append] at ha
    rcases List.mem_append.mp ha with ha | ha
    · exact nb a ha
    · rw [List.mem_singleton.mp ha]; exact nw
  · intro q hq ha
    rw [List.map_append, ← List.cons_append] at ha
    rcases List.mem_append.mp ha with ha | ha
    · exact out q hq ha
    · exact p0 q hq (List.mem_singleton.mp ha)
  · intro t ht
    rcases List.mem_append.mp ht with ht | ht
    · exact (hr t ht).imp fun _ _ h => h.mono e'
    · rw [List.mem_singleton.mp ht]; exact ha
theorem tab_trR1 {a : Expr} {Φ : SD → En → Prop} (hw : ∀ v ∈ vs, v ∉ ow)
    (h : JE X B m a l fun (n : Int) l1 => ∃ row, (0 ≤ n ∧ n < 100000) ∧ Nn l1 vs ∧ (∀ i : Nat, (i : Int) < n → ∃ l2, R l1 (i : Int) l2 ∧ ∀ s H C cl fp m', JN (Bk X scope s H C cl fp) B m' elt l2 fun ss l3 => ss = row ∧ Wk l3 l1) ∧
      ∀ D ps, ps.length = n.toNat → Φ (tab D ps (List.replicate n.toNat row)) l1) (σ : L2.St) (H : Hp) (Q : VK) (q : tJG X.K B m l Φ σ H Q) :
    tLcN (iRng1 (tCons (anyE X a) tNil)) (fun v σ H Q => ∃ m', gTw X.K B m' R vs v σ H Q) (anyTsb X scope []) (fun D => anyBb X scope (fun acc env => LastW elt acc env) [] D) vs σ H Q := by
  obtain ⟨G, E, k⟩ := q
  refine h.any E fun v G1 H1 n l1 e1 E1 r1 ⟨row, ⟨z1, z2⟩, nn, turn, done⟩ => ?_
  refine ⟨n, by rw [show v = .int n from r1], by omega, by omega, fun D hD => ?_⟩
  obtain ⟨E2, nb, out⟩ := E1.hid (o := .lst []) hD
  have Z : B.Fix σ := by obtain ⟨_, _, _, z, _⟩ := E1; exact z
  have M0 : Ex m.g G1 := by obtain ⟨_, _, _, _, z⟩ := E1; exact z.g
  have P0 : PvT X.K B G1 m.h l1 row D σ 0 (upd H1 D (.lst [])) := by
    obtain ⟨fp, F, E2, Z, M⟩ := E2
    refine ⟨[], G1, rfl, Ex.refl _, ⟨fp, F, E2, Z, Ex.refl _, M.h⟩, by simp, fun a ha => ?_, fun q hq => ?_, fun t ht => nomatch ht⟩
    · rw [List.mem_singleton.mp (show a ∈ [D] from ha)]; exact nb
    · exact fun z => out q hq (List.mem_singleton.mp (show q.1 ∈ [D] from z))
  refine itr_turns (lo := 0) (n := n.toNat) (g := fun v σ H Q => ∃ m', gTw X.K B m' R vs v σ H Q) (vs := vs) (σ := σ) (tt := anyTsb X scope []) (tb := anyBb X scope (fun acc env => LastW elt acc env) [] D) (Nx := fun H => Q (.ref D) H) (PvT X.K B G1 m.h l1 row D σ) P0 (fun i H hlt P => ?_) fun H P => ?_
  · have := tab_turn (scope := scope) (elt := elt) nn hw Z (by omega) (turn i (by omega)) P
    rw [Int.zero_add]
    exact this
  · obtain ⟨hs, G2, hl, e2, E3, nd, nb2, out2, hr⟩ := P
    have ER := E3.tabR nd nb2 out2 hr
    obtain ⟨f, fp, F, hs', E4, Z4, M⟩ := ER
    rw [← hl] at done
    refine k _ G2 H _ l1 (e1.trans e2) ⟨f, fp, F, hs', E4, Z4, M0.trans M.g, M.h⟩ (done D (hs.map (·.1)) (by rw [List.length_map]))
end
/-- name = [[..] for x in range(..)], the rows own -/
theorem js_tab {elt a tg : Expr} {scope : Scope} {nm : List (Str × Nat)} {pos spos py p1 p2 : Pos} {y : Str} {i : Nat} {R : En → Int → En → Prop} {rest : List Stmt} {D : Ends} (hm : X.mg "range" = none) (hc : X.calm = true) (hN : X.N.Nodup) (ok : BlkOk X.N X.env.scope scope nm) (hw : ∀ v ∈ nm.map (·.2), v ∉ ow)
    (hT : ∀ it acc env, TurnIs (.ListComp elt [⟨tg, .Call (.Name "range" p1) [a] [] p2, [], 0⟩] scope pos) 0 it acc env (.Call (.Name "range" p1) [a] [] p2) tg [] (LastW elt acc env))
    (hg : ∀ m s H C cl fp, PG (Bk X scope s H C cl fp) tg (gTw X.K B m R (nm.map (·.2))))
    (h : JE X B m a l fun (n : Int) l1 => ∃ row, (0 ≤ n ∧ n < 100000) ∧ Nn l1 (nm.map (·.2)) ∧ (∀ i : Nat, (i : Int) < n → ∃ l2, R l1 (i : Int) l2 ∧ ∀ s H C cl fp m', JN (Bk X scope s H C cl fp) B m' elt l2 fun ss l3 => ss = row ∧ Wk l3 l1) ∧
      ∀ p ps, ps.length = n.toNat → ∃ l2, Put l1 i (some (tab p ps (List.replicate n.toNat row))) l2 ∧ JSs X B m rest l2 D)
    (hsw : swapsWith (.ListComp elt [⟨tg, .Call (.Name "range" p1) [a] [] p2, [], 0⟩] scope pos) (some (.Name y py)) spos.line X.env = pure true) (hgl : Gl X "range" := by rfl) (hse : starEach (a :: []) X.env = (false, eval a X.env) :: starEach [] X.env := by rfl) (hs2 : starEach [a] X.env = [(false, eval a X.env)] := by rfl)
    (hy : X.N[i]? = some y := by rfl) (hyl : X.env.scope.names.lookup y = some .local := by rfl) (hs : ∀ x, foldedSetIterable (.Call (.Name "range" p1) [a] [] p2) X.env x = pure x := by intro _; rfl) (hi : i ∉ ow := by decide) :
    JSs X B m (.Assign [.Name y py] (.ListComp elt [⟨tg, .Call (.Name "range" p1) [a] [] p2, [], 0⟩] scope pos) spos :: rest) l D :=
  PSs.imp (pss_cons (PS.imp (t' := tAsg (tJG X.K B m l fun s l1 => ∃ l2, Put l1 i (some s) l2 ∧ JSs X B m rest l2 D) (gName i)) (ps_setLcN (vs' := []) (Wf := fun acc env => LastW elt acc env) (g := fun v σ H Q => ∃ m', gTw X.K B m' R (nm.map (·.2)) v σ H Q) hc hN hy hyl hsw (pi_range1 hgl hm (pa_cons pe_any pa_nil hse) hs2) ok
      (fun s H C cl fp => ⟨fun pins s' σ H' v u Q I r ⟨m', q⟩ => (hg m' s H C cl fp).run pins s' σ H' v u Q I r q⟩) pts_anyb pb_anyb (fun _ h => nomatch h) hT hs) fun D' σ H q => tab_trR1 hw h σ H _ q) pss_any)
    fun D' σ H ⟨⟨G, E⟩, q⟩ => ⟨G, E, fun v G1 H1 s l1 e1 E1 ⟨l2, pt, hr⟩ => hr.any (E1.put pt hi) q⟩
/-! ### rows by name -/
theorem RowsAt.at {K : Fg} {G H : Hp} : ∀ {ps : List Addr} {rows : List (List SD)} {k : Nat} {a : Addr}, RowsAt K G H ps rows → ps[k]? = some a → ∃ ss xs, rows[k]? = some ss ∧ H a = some (.lst xs) ∧ All2 (PR K G) xs ss
  | b :: ps, ss :: rows, 0, a, ⟨⟨xs, h1, h2⟩, _⟩, e => by simp at e; subst e; exact ⟨ss, xs, rfl, h1, h2⟩
  | b :: ps, ss :: rows, k + 1, a, ⟨_, r⟩, e => by
    obtain ⟨ss', xs, h1, h2, h3⟩ := RowsAt.at (k := k) (a := a) r (by simpa using e)
    exact ⟨ss', xs, by simpa using h1, h2, h3⟩
theorem RowsAt.len {K : Fg} {G H : Hp} {ps : List Addr} {rows : List (List SD)} (h : RowsAt K G H ps rows) : ps.length = rows.length := All2.len h
theorem RowsAt.set {K : Fg} {G H : Hp} {a : Addr} {xs : List V} {ss : List SD} (hx : All2 (PR K G) xs ss) : ∀ {ps : List Addr} {rows : List (List SD)} {k : Nat}, ps.Nodup → RowsAt K G H ps rows → ps[k]? = some a → RowsAt K G (upd H a (.lst xs)) ps (rows.set k ss)
  | b :: ps, s :: rows, 0, nd, ⟨_, r⟩, e => by
    simp at e; subst e
    exact ⟨⟨xs, upd_same, hx⟩, RowsAt.mono (Ex.refl G) (fun c hc => upd_ne fun z => (List.nodup_cons.mp nd).1 (z ▸ hc)) r⟩
  | b :: ps, s :: rows, k + 1, nd, ⟨⟨ys, h1, h2⟩, r⟩, e => by
    have hm : a ∈ ps := List.mem_of_getElem? (i := k) (by simpa using e)
    exact ⟨⟨ys, by rw [upd_ne fun z => (List.nodup_cons.mp nd).1 (by rw [z]; exact hm)]; exact h1, h2⟩, RowsAt.set hx (k := k) (List.nodup_cons.mp nd).2 r (by simpa using e)⟩
theorem EnvOk.tabAt {m : Mi} {i : Nat} {p : Addr} {ps : List Addr} {rows : List (List SD)} (E : EnvOk K B m l G σ H) (g : Get l i (tab p ps rows)) : σ[i]? = some (some (.ref p)) ∧ H p = some (.lst (ps.map V.ref)) ∧ RowsAt K G H ps rows ∧
    ∀ k a xs' ss' l2, ps[k]? = some a → All2 (PR K G) xs' ss' → Put l i (some (tab p ps (rows.set k ss'))) l2 → EnvOk K B m l2 G σ (upd H a (.lst xs')) := by
  obtain ⟨fp, F, E, X, M⟩ := E
  have e := g.to
  obtain ⟨f, r, p1, g1, u1, _⟩ := E.split (i := i) (List.getElem?_eq_some_iff.mp e).1
  obtain ⟨v, e1, e2, e3, e4, e5⟩ := g1 _ e
  subst e2 e5
  have F1 := F.perm p1.symm
  refine ⟨e1, e3, e4, fun k a xs' ss' l2 hk h' pt => ?_⟩
  obtain ⟨q1, q2⟩ := pt.to
  have ha : a ∈ ps := List.mem_of_getElem? hk
  have nd := List.nodup_append.mp F1.nd
  have ndp := List.nodup_cons.mp nd.1
  have nr : ∀ b ∈ r, b ≠ a := fun b hb z => nd.2.2 a (List.mem_cons_of_mem _ ha) b hb z.symm
  have np : p ≠ a := fun z => ndp.1 (z ▸ ha)
  obtain ⟨fp', w1, w2⟩ := u1 G (upd H a (.lst xs')) (tab p ps (rows.set k ss')) (.ref p) (p :: ps) (Ex.refl G) (fun b hb => upd_ne (nr b hb)) ⟨rfl, by rw [upd_ne np]; exact e3, RowsAt.set h' ndp.2 e4 hk, rfl⟩
  have sg : σ.set i (some (.ref p)) = σ := by
    obtain ⟨hlt, hv⟩ := List.getElem?_eq_some_iff.mp e1
    rw [← hv]
    exact List.set_getElem_self hlt
  rw [sg] at w2
  rw [q1]
  have ma : a ∈ (p :: ps) ++ r := List.mem_append_left _ (List.mem_cons_of_mem _ ha)
  exact ⟨fp', (F1.mut ma).perm w1, w2, X, (M.mut (p1.mem_iff.mpr ma)).sub fun b hb => p1.mem_iff.mpr (w1.mem_iff.mp hb)⟩
section
variable {α : Type} [Rp α] {e b c : Expr} {x y : Str} {i j : Nat} {pos p1 p2 p3 : Pos} {rest : List Stmt} {D : Ends}
theorem EnvOk.putN {m : Mi} {s : SD} {v : V} {l2 : En} (E : EnvOk K B m l G σ H) (r : s.P K G H v []) (p : Put l i (some s) l2) (hi : i ∉ ow) : EnvOk K B m l2 G (σ.set i (some v)) H := by
  obtain ⟨fp, F, E, X, M⟩ := E
  exact EnvR.put (s := s) ⟨[], fp, F, r, E, X, M⟩ p hi
def rws {α : Type} [Rp α] (rows : List (List α)) : List (List SD) := rows.map sds
theorem rws_len {rows : List (List α)} : (rws rows).length = rows.length := List.length_map _
theorem rws_at {rows : List (List α)} {k : Nat} {ss : List SD} (h : (rws rows)[k]? = some ss) : ∃ L, rows[k]? = some L ∧ ss = sds L := by
  unfold rws at h
  rw [List.getElem?_map] at h
  cases e : rows[k]? with
  | none => rw [e] at h; cases h
  | some L => rw [e] at h; exact ⟨L, rfl, (Option.some.inj h).symm⟩
theorem rws_set {rows : List (List α)} {k : Nat} {L : List α} : (rws rows).set k (sds L) = rws (rows.set k L) := by unfold rws; rw [List.map_set]
/-- row = table[k] -/
theorem js_rowof {s0 : SD} (hN : X.N.Nodup) (g : Get l i s0) (h : JE X B m b l fun (k : Int) l1 => ∃ (p : Addr) (ps : List Addr) (rows : List (List α)), Get l1 i (tab p ps (rws rows)) ∧ (0 ≤ k ∧ k < rows.length) ∧ ∀ a, ps[k.toNat]? = some a → ∃ l2, Put l1 j (some (rowAt a)) l2 ∧ JSs X B m rest l2 D)
    (hw : j ∉ ow := by decide) (hNi : X.N[i]? = some x := by rfl) (hNj : X.N[j]? = some y := by rfl) (hv : Vis X.env.scope x := by first | exact Or.inl rfl | exact Or.inr (Or.inl rfl) | exact Or.inr (Or.inr rfl)) (hy : Loc X.env.scope y := by first | exact Or.inl rfl | exact Or.inr rfl)
    (hd : (x == ("__debug__" : Str)) = false := by decide) (hcd : (x == ("__classdict__" : Str)) = false := by decide) (hsx : PlainIx b := by exact fun _ _ => rfl)
    (hs : swapsWith (.Subscript (.Name x p1) b p2) (some (.Name y p3)) pos.line X.env = pure false := by rfl) (hf : X.fn y = true ∨ X.env.scope.names.lookup y = some .local := by first | exact .inl rfl | exact .inr rfl) : JSs X B m (.Assign [.Name y p3] (.Subscript (.Name x p1) b p2) pos :: rest) l D :=
  PSs.imp (pss_cons (ps_set (i := j) hN hNj hy (pe_ix ix_list (pe_var (i := i) hNi hv hd hcd) h hsx) hs hf) pss_any) fun D' σ H ⟨⟨G, E⟩, q⟩ => by
    obtain ⟨v, f, e0, _⟩ := E.get g
    refine ⟨v, e0, G, E, fun u G1 H1 k l1 e1 E1 r1 ⟨p, ps, rows, g1, hk, hh⟩ => ?_⟩
    obtain ⟨q1, q2, q3, _⟩ := E1.tabAt g1
    rw [e0] at q1
    have ev : v = .ref p := Option.some.inj (Option.some.inj q1)
    have hlt : k.toNat < ps.length := by rw [q3.len, rws_len]; omega
    obtain ⟨l2, pt, hr⟩ := hh _ (List.getElem?_eq_getElem hlt)
    refine ⟨p, ps.map V.ref, k, .ref ps[k.toNat], ev, r1, SqL.of q2, atI_of hk.1 ?_, hr.any (E1.putN (s := rowAt ps[k.toNat]) (v := .ref ps[k.toNat]) ⟨rfl, rfl⟩ pt hw) q⟩
    rw [List.getElem?_map, List.getElem?_eq_getElem hlt]
    rfl
/-- row[k] = e, row a row of the table in slot j -/
theorem js_setRow {a : Addr} (g : Get l i (rowAt a)) (h : JE X B m e l fun (d : α) l1 => Get l1 i (rowAt a) ∧ JE X B m b l1 fun (k : Int) l2 => ∃ (q : Nat) (p : Addr) (ps : List Addr) (rows : List (List α)) (L : List α) (l3 : En), Get l2 i (rowAt a) ∧ Get l2 j (tab p ps (rws rows)) ∧ ps[q]? = some a ∧ rows[q]? = some L ∧ (0 ≤ k ∧ k < L.length) ∧
      Put l2 j (some (tab p ps (rws (rows.set q (L.set k.toNat d))))) l3 ∧ JSs X B m rest l3 D)
    (hN : X.N[i]? = some x := by rfl) (hv : Vis X.env.scope x := by first | exact Or.inl rfl | exact Or.inr (Or.inl rfl) | exact Or.inr (Or.inr rfl)) (hd : (x == ("__debug__" : Str)) = false := by decide) (hcd : (x == ("__classdict__" : Str)) = false := by decide)
    (ha : ∀ v, assign (.Subscript (.Name x p1) b p2) X.env v = (do
      let ov ← holding [v] (eval (.Name x p1) X.env)
      let iv ← holding [v, ov] (eval b X.env)
      standAt p2
      holding [v, ov, iv] (setItem ov iv v)
      release [v, ov, iv] []) := by intro _; rfl)
    (hs : swapsWithSole [.Subscript (.Name x p1) b p2] e pos.line X.env = pure false := by rfl) (hw : swappedStores [.Subscript (.Name x p1) b p2] e X.env = pure none := by rfl)
    (h1 : (assignEach [.Subscript (.Name x p1) b p2] X.env).map (·.2) = [assign (.Subscript (.Name x p1) b p2) X.env] := by rfl) : JSs X B m (.Assign [.Subscript (.Name x p1) b p2] e pos :: rest) l D :=
  PSs.imp (pss_cons (ps_asg h (pg_sub (pe_var (i := i) hN hv hd hcd) (pe_any (e := b)) set_list ha) hs hw h1) pss_any) fun D' σ H ⟨⟨G, E⟩, q⟩ => by
    refine ⟨G, E, fun v G1 H1 d l1 e1 E1 r1 ⟨g1, hb⟩ => ?_⟩
    obtain ⟨w, f, ew, hP⟩ := E1.get g1
    have ev : w = .ref a := hP.1
    refine ⟨w, ew, hb.any E1 fun u G2 H2 k l2 e2 E2 r2 ⟨q0, p, ps, rows, L, l3, g2, gt, hq, hL, hk, pt, hr⟩ => ?_⟩
    obtain ⟨q1, q2, q3, mu⟩ := E2.tabAt gt
    obtain ⟨ss, xs, s1, s2, s3⟩ := q3.at hq
    obtain ⟨L', hL', es⟩ := rws_at s1
    rw [hL] at hL'
    cases hL'
    subst es
    have hlx : xs.length = L.length := by rw [s3.len, sds_len]
    refine ⟨a, xs, k, k.toNat, ev, r2, s2, ?_, hr.any (mu q0 a _ (sds (L.set k.toNat d)) _ hq ?_ (by rw [rws_set]; exact pt)) q⟩
    · unfold L2.ixN
      rw [hlx, if_pos hk.1, if_pos hk.2]
    · rw [← sds_set]
      exact s3.set (pr_sd (Rp.mono e2 r1)) k.toNat
/-- table[k][n] -/
theorem je_ixT {Φ : α → En → Prop} {s0 : SD} (g : Get l i s0) (h : JE X B m b l fun (k : Int) l1 => ∃ (p : Addr) (ps : List Addr) (rows : List (List α)), Get l1 i (tab p ps (rws rows)) ∧ (0 ≤ k ∧ k < rows.length) ∧ JE X B m c l1 fun (n : Int) l2 => ∃ (rows2 : List (List α)), Get l2 i (tab p ps (rws rows2)) ∧ ∀ L, rows2[k.toNat]? = some L → (0 ≤ n ∧ n < L.length) ∧ ∀ d, L[n.toNat]? = some d → Φ d l2)
    (hN : X.N[i]? = some x := by rfl) (hv : Vis X.env.scope x := by first | exact Or.inl rfl | exact Or.inr (Or.inl rfl) | exact Or.inr (Or.inr rfl)) (hd : (x == ("__debug__" : Str)) = false := by decide) (hcd : (x == ("__classdict__" : Str)) = false := by decide) (hs : PlainIx b := by exact fun _ _ => rfl) (hs2 : PlainIx c := by exact fun _ _ => rfl) :
    JE X B m (.Subscript (.Subscript (.Name x p1) b p2) c pos) l Φ :=
  (pe_ix ix_list (pe_ix ix_list (pe_var (i := i) hN hv hd hcd) h hs) (pe_any (e := c)) hs2).imp fun σ H Q ⟨G, E, kk⟩ => by
    obtain ⟨v, f, e0, _⟩ := E.get g
    refine ⟨v, e0, G, E, fun u G1 H1 k l1 e1 E1 r1 ⟨p, ps, rows, g1, hk, hc⟩ => ?_⟩
    obtain ⟨q1, q2, q3, _⟩ := E1.tabAt g1
    rw [e0] at q1
    have ev : v = .ref p := Option.some.inj (Option.some.inj q1)
    have hlt : k.toNat < ps.length := by rw [q3.len, rws_len]; omega
    refine ⟨p, ps.map V.ref, k, .ref ps[k.toNat], ev, r1, SqL.of q2, atI_of hk.1 (by rw [List.getElem?_map, List.getElem?_eq_getElem hlt]; rfl), hc.any E1 fun u2 G2 H2 n l2 e2 E2 r2 ⟨rows2, g2, hh⟩ => ?_⟩
    obtain ⟨_, _, q3', _⟩ := E2.tabAt g2
    obtain ⟨ss, xs, s1, s2, s3⟩ := q3'.at (List.getElem?_eq_getElem hlt)
    obtain ⟨L, hL, es⟩ := rws_at s1
    subst es
    obtain ⟨hn, hΦ⟩ := hh L hL
    have hlt2 : n.toNat < L.length := by omega
    obtain ⟨w, w1, w2⟩ := (rows_sds s3).atI (atI_of hn.1 (List.getElem?_eq_getElem hlt2))
    exact ⟨ps[k.toNat], xs, n, w, rfl, r2, SqL.of s2, w1, kk w G2 H2 _ l2 (e1.trans e2) E2 w2 (hΦ _ (List.getElem?_eq_getElem hlt2))⟩
/-- the table becomes data -/
theorem fz_tab {p : Addr} {ps : List Addr} {rows : List (List α)} : Fz (tab p ps (rws rows)) rows := fun K G H v f hn e ⟨h1, h2, h3, h4⟩ => by
  subst h1 h4
  have ex := frzG_ex e hn
  refine ⟨p, ps.map V.ref, rfl, by rw [frzG_in List.mem_cons_self]; exact h2, ?_⟩
  have key : ∀ (qs : List Addr) (rs : List (List α)), (∀ a ∈ qs, a ∈ ps) → RowsAt K G H qs (rws rs) → All2 (Rp.rp K (frzG G H (p :: ps))) (qs.map V.ref) rs := by
    intro qs
    induction qs with
    | nil =>
      intro rs _ h
      match rs, h with
      | [], _ => trivial
    | cons q qs ih =>
      intro rs hq h
      match rs, h with
      | L :: rs, ⟨⟨xs, a1, a2⟩, r⟩ =>
        exact ⟨⟨q, xs, rfl, by rw [frzG_in (List.mem_cons_of_mem _ (hq q List.mem_cons_self))]; exact a1, (rows_sds a2).imp fun _ _ h => Rp.mono ex h⟩, ih rs (fun a ha => hq a (List.mem_cons_of_mem _ ha)) r⟩
  exact key ps rows (fun _ h => h) h3
end
end
end Tyl
end
section
/-! an own error over ValueError whose __init__ says super().__init__(..) -/
namespace Tyl
open PySem PySem.Spec PyProof.Rows L2 NdefX
/-- what the written part says of the class -/
structure ErrC (K : Fg) (C : Addr) : Prop where
  ox : OexC K C
  ve : PySem.W.ks_superIn K C C "__init__" = some (some (.builtin "ValueError.__init__"))
  sub : PySem.W.subIn K (.ref C) (.type "ValueError") = some true
  mro : PySem.W.mroIn K C (.ref C) = some true
  opq : PySem.W.nsIn K cStatics "thirdparty.any" = some none
/-- .. of its __init__ at f -/
structure SupF (P : Program) (K : Fg) (C f : Addr) (F : NF) (fd : FuncData) : Prop where
  lk : ∃ oc od doc pm ctv osl, fd = F.fd doc pm ctv ∧ K.lookup f = some ⟨oc, od, .func fd, osl⟩
  cd : PySem.W.codeIn K (.ref F.c) F.qual = true
  fl : ∃ ccl cdd vs ccs file tf, K.lookup F.c = some ⟨ccl, cdd, .fields vs, ccs⟩ ∧ vs[2]? = some (.str file tf) ∧ ((P.main.file : Str) == file) = true
  cl : ∃ cc : Addr, F.cl = [(("__class__" : Str), cc)] ∧ ∃ cl cld csl, K.lookup cc = some ⟨cl, cld, .cell (some (.ref C)), csl⟩
  kp : PySem.W.keepIn K (.ref f) = true
  top : (P.main.scope.names.lookup ("super" : Str)).isSome = false
section
variable {P : Program} {w : World} {K : Fg} {mg : Str → Option Value} {base : Heap} {CX : CXT} {C f : Addr} {F : NF} {fd : FuncData} {N ps : List Str} {k : Nat} {sp : Sp}
theorem inst_exo {H : Hp} {s : Shared} {a : Addr} (hok : HOk P w H s.heap) (ea : H a = some (exo a C none)) : ∃ t1 : Addr, s.heap.get? a = some ({ cls := .ref C, dict := none, data := .fields #[.ref t1, .none, .none, .none, .bool false, .none] } : Obj) := exo_at hok ea
/-- super().__init__(e, ..) first, then the rest -/
theorem fn_super {pl : Sem Bool} {ar : PySem.Arg} {e : Expr} {es : List Expr} {rest : List Stmt} {p0 p1 p2 p3 p4 : Pos} (T : ErrC K C) (U : SupF P K C f F fd) (S : NScope N ps ["__class__"] F.scope) (hsu : F.scope.names.lookup ("super" : Str) = some .globalImplicit) (har : (F.params.posonlyargs ++ F.params.args).head? = some ar) (hps : ps[0]? = some ar.arg)
    (hm : mg "super" = none) (hbd : F.body = .Expr (.Call (.Attribute (.Call (.Name "super" p0) [] [] p1) "__init__" p2) (e :: es) [] p3) p4 :: rest) (len : ∀ vs H Q E, sp vs H Q E → vs.length = ps.length)
    (he : ∀ env : PySem.Env, starEach (e :: es) env = (false, eval e env) :: starEach es env := by intro _; rfl) (hpl : ∀ env : PySem.Env, (backTo p3 (starEach es env)).any (·.1) = false := by intro _; rfl)
    (hsw : ∀ env : PySem.Env, swapsWith (.Call (.Attribute (.Call (.Name "super" p0) [] [] p1) "__init__" p2) (e :: es) [] p3) none p4.line env = pure false := by intro _; rfl)
    (hin : ∀ L, interactive (envF F f L) = false := by intro _; rfl)
    (hev : ∀ env : PySem.Env, eval (.Call (.Attribute (.Call (.Name "super" p0) [] [] p1) "__init__" p2) (e :: es) [] p3) env = (do
      let ov ← attributeBase (.Call (.Name "super" p0) [] [] p1) "__init__" env (eval (.Call (.Name "super" p0) [] [] p1) env)
      standAt p2.atName
      let (f, first) ← holding [ov] (getMethod ov "__init__" pl)
      callWith p3 f first (backTo p3 (starEach (e :: es) env)) []) := by intro _; rfl)
    (hbody : ∀ (A : Around) (outer : List PySem.Env) (s : Shared) (H : Hp) (vs : List V) (Q : VK) (E : XK), Room k (A.deeper (envF F f s.heap.objs.size)) → sp vs H Q E →
      ∃ a vs' t tr, vs = .ref a :: vs' ∧ H a = some (exo a C none) ∧ PA (ncx CX P w K mg base N F f A outer s H E) (e :: es) t ∧ PSs (ncx CX P w K mg base N F f A outer s H E) rest tr ∧
        t (startF N vs [none]) H fun ws H1 => ws.length ≤ 1000 ∧ H1 a = some (exo a C none) ∧ tr { nx := fun _ H' => Q .non H', rt := Q } (startF N vs [none]) H1) :
    FnOk P w K mg base CX (k + 1) f fd ps sp := by
  refine ⟨len, fun A outer s H args us vs Q E hr e0 hb r hsp => ?_⟩
  obtain ⟨oc, od, doc, pm, ctv, osl, efd, lk⟩ := U.lk
  subst efd
  obtain ⟨ccl, cdd, cvs, ccs, file, tf, hcode, hcvs, hfile⟩ := U.fl
  obtain ⟨cc, ecl, cl, cld, csl, hcell⟩ := U.cl
  have KX : K.In s.heap := e0.mod.kin.keeps fun b o e => (e0.bs b o e).1
  have KB : K.In base := e0.mod.kin
  have hl := len _ _ _ _ hsp
  have lim : s.heap.NoLimit := e0.mod.nolimit.keeps fun b o e => (e0.bs b o e).1
  refine ks_codeAny_call_defAt (fd := F.fd doc pm ctv) (body := F.body) (binds := ps.zip us) hr.depth (KX _ _ lk) rfl lim (PySem.W.codeRec_of KX U.cd) rfl hb S.nocell (fun ⟨n, _⟩ hy => S.par n (List.of_mem_zip hy).1) (fun h₁ hns kp => ?_) S.co S.gen S.kind
  obtain ⟨a, vs', t, tr, evs, ea, ha, htr, hq⟩ := hbody A outer s H vs Q E (hr.deeper _) hsp
  have CA : CellsAt F.cl ["__class__"] [none] s.heap H := by
    rw [ecl]
    refine ⟨rfl, fun y c e => ?_, fun x y c e1 e2 => ?_, fun i y hi => ?_⟩
    · rw [List.lookup_cons] at e
      split at e
      · cases e
        exact ⟨(e0.bs _ _ (KB _ _ hcell)).2, _, _, KX _ _ hcell, rfl⟩
      · cases e
    · rw [List.lookup_cons] at e1 e2
      split at e1
      · rename_i q1
        split at e2
        · rename_i q2
          rw [beq_iff_eq.mp q1, beq_iff_eq.mp q2]
        · cases e2
      · cases e1
    · cases i with
      | zero =>
        simp at hi
        subst hi
        exact ⟨cc, rfl, fun v z => by simp at z⟩
      | succ i => simp at hi
  have I : Inv (ncx CX P w K mg base N F f A outer s H E) [] (startF N vs [none]) H { s with heap := h₁, toks := s.toks + (ps.zip us).length } := inv_startN S hr.hd e0 hl r CA hns kp
  show _root_.PySem.wpAt (model (ncx CX P w K mg base N F f A outer s H E).prog (ncx CX P w K mg base N F f A outer s H E).w) (ncx CX P w K mg base N F f A outer s H E).A (.func F.body (ncx CX P w K mg base N F f A outer s H E).env) (execs F.body (ncx CX P w K mg base N F f A outer s H E).env) _ (ncx CX P w K mg base N F f A outer s H E).xe _
  generalize hX : ncx CX P w K mg base N F f A outer s H E = X at I ha htr ⊢
  have hXp : X.prog = P := by rw [← hX]; rfl
  have hXw : X.w = w := by rw [← hX]; rfl
  have hXA : X.A = A.deeper (envF F f s.heap.objs.size) := by rw [← hX]; rfl
  have hXe : X.env = envF F f s.heap.objs.size := by rw [← hX]; rfl
  have hXK : X.K = K := by rw [← hX]; rfl
  have hXmg : X.mg = mg := by rw [← hX]; rfl
  have hXN : X.N = N := by rw [← hX]; rfl
  have hXb : X.base = base := by rw [← hX]; rfl
  have hXx : X.xe = fun e' s' => wpAny (model P w) (A.deeper (envF F f s.heap.objs.size)) (leaving (envF F f s.heap.objs.size) e') (fun _ s'' => CX outer H s E e' s'') (fun e'' s'' => CX outer H s E e'' s'') s' := by rw [← hX]; rfl
  have hXo : X.s_0 = s := by rw [← hX]; rfl
  have hXh : X.H_0 = H := by rw [← hX]; rfl
  have hXf : X.fs = frs outer := by rw [← hX]; rfl
  have hXex : X.ex = [] := by rw [← hX]; rfl
  have hks : (envF F f s.heap.objs.size).kindOf "super" = some .globalImplicit := hsu
  have hkc : (envF F f s.heap.objs.size).kindOf "__class__" = some .free := S.frk _ List.mem_cons_self
  rw [← hXe] at hks hkc
  have hka : X.env.kindOf ar.arg = some .local := by
    rw [hXe]
    exact S.par _ (List.mem_of_getElem? hps)
  rw [hbd]
  refine ks_wpAt_execs_cons (ks_wpAt_Expr_any (ks_wpAt_MethodCall ?_ (hev _)) (by rw [hXe]; exact hin _) (hsw _))
  -- super()
  generalize hs1 : ({ s with heap := h₁, toks := s.toks + (ps.zip us).length } : Shared) = s1 at I
  have kx1 : K.In s1.heap := by
    have := I.kIn
    rw [hXK] at this
    exact this
  obtain ⟨t1, hx1⟩ := exo_at I.hok ea
  obtain ⟨nm, q, Nn, bs, bm, sn, sub, ab, col, dd, k0, k1, k2, k3, k5, hC, hbm⟩ := T.ox.cls
  have hC1 := kx1 _ _ hC
  have hcl : PySem.W.clsIn K C = some { name := nm, bases := bs, mro := .ref C :: bm, ns := Nn, qualname := q, hasDict := true, slotNames := sn, subclasses := sub, abstract := ab, collection := col, hasDel := false } := by unfold PySem.W.clsIn; rw [hC] <;> rfl
  have hself : ∃ m, s1.heap.Ns X.env.locals m ∧ m ar.arg = some (.ref a) := by
    obtain ⟨m, hn, hl2⟩ := I.loc
    have hv0 : (startF N vs [none])[0]? = some (some (.ref a)) := by rw [evs]; rfl
    have hN0 : X.N[0]? = some ar.arg := by
      rw [hXN]
      have hp := S.pre
      have hlt : 0 < ps.length := (List.getElem?_eq_some_iff.mp hps).1
      have h2 : (N.take (ps.length + 1))[0]? = (ps ++ [("__class__" : Str)])[0]? := by rw [← hp]; rfl
      rw [List.getElem?_take_of_lt (by omega), List.getElem?_append_left hlt, hps] at h2
      exact h2
    obtain ⟨u, ru, lo⟩ := hl2 0 ar.arg (.ref a) hN0 hv0 (.inl hka)
    obtain rfl : u = Value.ref a := ru
    rcases lo with ⟨_, hmm⟩ | ⟨hk, _⟩
    · exact ⟨m, hn, hmm⟩
    · rw [hka] at hk
      rcases hk with z | z <;> cases z
  obtain ⟨mL, hnL, hmL⟩ := hself
  have hfl : s1.heap.get? f = some ⟨oc, od, .func (F.fd doc pm ctv), osl⟩ := kx1 _ _ lk
  refine ks_wpAt_super_base (f := f) (cc := F.c) (fd := F.fd doc pm ctv) (ar := ar) (vs := cvs) (file := file) (tf := tf) hks hkc (by decide) (by rw [hXe]) hfl rfl har (by rw [hXe]) (kx1 _ _ hcode) rfl hcvs (by rw [hXp]; exact hfile) (by rw [hXp]; exact U.top) ?_
  refine PySem.W.ks_loadName_global I.ok.kind hks ?_
  obtain ⟨mb, hb1, hb2⟩ := I.mod.blt
  refine Calls.loadGlobal_builtin (by rw [I.ok.glob]; exact I.mod.glob.keeps I.bk) (by rw [hXmg]; exact hm) (by rw [I.ok.blt]; exact hb1.keeps I.bk) ((hb2 "super" (by decide)).trans (by decide +kernel)) ⟨rfl, ?_⟩
  refine wpAny_loadName_free I.ok.kind hkc (c := cc) (by rw [hXe]; show F.cl.lookup _ = _; rw [ecl]; rfl) ⟨_, kx1 _ _ hcell, rfl⟩ ?_
  refine wpAny_loadName_local I.ok.kind hka hnL hmL ?_
  refine ks_wpAny_isType_cls hC1 rfl ⟨rfl, ?_⟩
  obtain ⟨hp1, g1, d1, tk1, os1⟩ := s1
  refine ks_wpAny_call_super hC1 rfl hx1 rfl (fun c z => nomatch z) (PySem.W.looks_mroIn kx1 T.mro) fun h2 hso k2 => ?_
  -- the method
  have kx2 : K.In h2 := PySem.W.Frag.In.keeps kx1 k2
  have hx2 := k2 _ _ hx1
  have hC2 := k2 _ _ hC1
  have hca : a ≠ C := fun z => by
    rw [z, hC1] at hx1
    cases hx1
  have IA : PySem.W.InstAt h2 a ({ cls := .ref C, dict := none, data := .fields #[.ref t1, .none, .none, .none, .bool false, .none] } : Obj) C none := ⟨hx2, rfl, rfl, trivial⟩
  have hve := T.ve
  unfold PySem.W.ks_superIn at hve
  rw [hcl] at hve
  refine PySem.W.kxs_getMethod PySem.W.kxs_ValueError hso (PySem.W.looks_opaque kx2 T.opq) (l₀ := .ref C :: bm) (fun A Q E s k q => wpAny_bind ((PySem.W.looks_clsIn kx2 hcl) A _ E s k (wpAny_pure q))) rfl kx2 hve (IA.type.andThen (PySem.W.looks_subIn kx2 T.sub)) hca (by decide) ?_
  have I3 : Inv X [] (startF N vs [none]) H ⟨h2.push (PySem.W.kxs_mw "ValueError.__init__" a), g1, d1, tk1 + 1, os1⟩ := I.kept (t' := tk1 + 1) (h' := h2.push (PySem.W.kxs_mw "ValueError.__init__" a)) fun b o z => Heap.get?_push_of_some _ (k2 b o z)
  have hsz : hp1.objs.size ≤ h2.objs.size := Nat.le_of_lt (Heap.lt_size hso)
  have hu : (h2.push (PySem.W.kxs_mw "ValueError.__init__" a)).get? h2.objs.size = some (PySem.W.kxs_mw "ValueError.__init__" a) := Heap.get?_push_at rfl rfl
  have I4 : Inv X [(h2.objs.size, PySem.W.kxs_mw "ValueError.__init__" a)] (startF N vs [none]) H ⟨h2.push (PySem.W.kxs_mw "ValueError.__init__" a), g1, d1, tk1 + 1, os1⟩ := I3.pins_of fun p hp => by
    rw [List.mem_singleton.mp hp]
    refine ⟨hu, I.hok.fresh hsz, fun z => ?_, I.nofs hsz, fun v z => nomatch z⟩
    have hlt := Nat.lt_of_lt_of_le I.lt hsz
    have z' : h2.objs.size = X.env.locals := z
    rw [← z'] at hlt
    exact Nat.lt_irrefl _ hlt
  generalize h2.objs.size = uu at hu I4
  refine PySem.W.kxs_callWith (i := "ValueError.__init__") (x := a) (by rw [he]; show (false || (backTo p3 (starEach es X.env)).any (·.1)) = false; rw [hpl]; rfl) ?_
  rw [he]
  refine PySem.Calls.evalArgs_plain ?_
  show wpAny _ _ (spliced (backTo p3 ((false, eval e X.env) :: starEach es X.env))) _ _ _
  rw [← he]
  refine wpAny_mono (ha.run p3 _ _ (startF N vs [none]) H _ I4 hq) (fun us2 s5 z => ?_) fun _ _ z => z
  obtain ⟨ws, H5, I5, r5, hz5, ea5, q5⟩ := z
  have hu5 : s5.heap.get? uu = some (PySem.W.kxs_mw "ValueError.__init__" a) := (I5.pin (uu, _) (List.mem_append_right _ List.mem_cons_self)).1
  refine ⟨hu5, ?_⟩
  have kx5 : K.In s5.heap := by
    have := I5.kIn
    rw [hXK] at this
    exact this
  have hC5 := kx5 _ _ hC
  obtain ⟨t5, hx5⟩ := exo_at I5.hok ea5
  have hlen : us2.length ≤ sizeLine := by
    rw [← Paired.length r5, sizeLine_eq]
    omega
  obtain ⟨hp5, g5, d5, tk5, os5⟩ := s5
  refine wpAny_call (codeAny_of_tree ?_)
  show wpAny _ X.A.in1 (callAny (.ref uu) ⟨us2, []⟩) _ _ _
  simp only [callAny]
  refine wpAny_bind (wpAny_load hu5 ?_)
  simp only [PySem.W.kxs_mw, show (Value.type "method-wrapper" == Value.type "method" || Value.type "method-wrapper" == Value.type "builtin_function_or_method" || Value.type "method-wrapper" == Value.type "method-wrapper") = true by decide, if_true]
  refine PySem.W.KFB.if_so (by decide) ?_
  refine wpAny_bind (PySem.W.check_bound_init PySem.F.excBase_ValueError.toExcCallFacts hC5 hx5 rfl ?_)
  refine wpAny_bind (wpAny_pure (wpAny_pure ?_))
  refine ⟨plainId_quiet PySem.F.excBase_ValueError.init.plain _, codeAny_builtin PySem.F.excBase_ValueError.initEntry ?_⟩
  refine PySem.W.exc_init_tree (cls := .ref C) (t0 := t5) (dv := none) (c2 := .none) (c3 := .none) (b4 := .bool false) hx5 hlen fun h6 k6 e6 _ => ?_
  -- the rest
  have J := I5.write (h' := h6) (t' := tk5) (x := a) (e := a) (o := exo a C none) (by rw [ea5]; exact True.intro) (.inl rfl) (fun b o nb z => k6 b o nb z) ⟨_, e6⟩ (exo_ok e6)
  have eu : upd H5 a (exo a C none) = H5 := by
    funext b
    by_cases hb : b = a
    · rw [hb, upd_same, ea5]
    · rw [upd_ne hb]
  rw [eu] at J
  have J0 : Inv X [] (startF N vs [none]) H5 ⟨h6, g5, d5, tk5, os5⟩ := J.pins_of fun p hp => nomatch hp
  refine wpAt_of_wpAny ?_
  refine wpAny_mono (htr.run [] _ (startF N vs [none]) H5 _ J0 q5) (fun fl s' hs => ?_) fun e' s' hs => hs
  have fin : ∀ {σ' : L2.St} {H' : Hp} {v : V} {u : Value}, Inv X [] σ' H' s' → L2.RelV v u → Q v H' → CE outer P w H s Q u s' :=
    fun {σ' H' v u} J rv q => ⟨v, H', by rw [← hXo]; exact J.os, J.bare, by have := J.base; rw [hXf, hXex, hXh, hXo] at this; exact this, by have := J.hok; rw [hXp, hXw] at this; exact this, rv, q⟩
  cases fl with
  | ret u =>
    obtain ⟨v, σ', H', J, rv, q⟩ := hs
    exact fin J rv q
  | next =>
    obtain ⟨σ', H', J, q⟩ := hs
    exact fin (v := V.non) (u := Value.none) J rfl q
  | brk =>
    obtain ⟨_, _, _, q⟩ := hs
    exact False.elim q
  | cont =>
    obtain ⟨_, _, _, q⟩ := hs
    exact False.elim q
end
end Tyl
end
section
/-! defs that raise; try .. except as -/
namespace Tyl
open PySem PySem.Spec PyProof.Rows L2
/-- an error as data -/
structure ErrV where
  C : Fg → Addr
  fs : List (Str × SD)
def ErrD (K : Fg) (G : Hp) (x : ErrV) (cls : Value) (d : Option Addr) : Prop := cls = .ref (x.C K) ∧ ∃ dd vs, d = some dd ∧ G dd = some (.xd vs) ∧ FR K G vs x.fs
theorem ErrD.mono {K : Fg} {G G' : Hp} {x : ErrV} {cls : Value} {d : Option Addr} (e : Ex G G') (h : ErrD K G x cls d) : ErrD K G' x cls d := let ⟨a, dd, vs, b, c, f⟩ := h; ⟨a, dd, vs, b, e _ _ c, f.mono e⟩
/-- the wish about exceptions -/
def XW {ow : List Nat} (K : Fg) (B : Base ow) (xw : ErrV → En → Prop) : WX := fun cls d σ H => ∃ l G x, EnvOk K B ⟨B.G, []⟩ l G σ H ∧ ErrD K G x cls d ∧ xw x l
def XOk {ow : List Nat} (X : Cx) (B : Base ow) (xw : ErrV → En → Prop) : Prop := Takes X (XW X.K B xw)
def RX {O : Type} {ow : List Nat} (K : Fg) (B : Base ow) (outs : O → List SD) (xpost : ErrV → O → Prop) : XK := fun cls d H' => ∃ G' x o, (∃ fp', Fr B G' H' fp' ∧ ∃ l σ, Env K G' H' l σ fp' ∧ l = (outs o).map some ∧ σ = B.fix.map some) ∧ ErrD K G' x cls d ∧ xpost x o
def spTX {A R O : Type} [Rp R] (K : Fg) (mask : List Bool) (args : A → List SD) (pre : A → Prop) (outs : A → O → List SD) (post : A → R → O → Prop) (xpost : A → ErrV → O → Prop) : Sp := fun vs H Q E => ∃ (a : A) (G : Hp) (fp : List Addr),
  Ex G H ∧ fp.Nodup ∧ (∀ x ∈ fp, G x = none) ∧ Rows K G H (args a) vs fp ∧ (∀ x ∈ fp, V.ref x ∈ fixOf mask vs) ∧ mask.length = vs.length ∧ pre a ∧
  (∀ v H', RT K (⟨G, H, fp, fixOf mask vs⟩ : Base (ixOf mask 0)) (outs a) (post a) v H' → Q v H') ∧ ∀ cls d H', RX K (⟨G, H, fp, fixOf mask vs⟩ : Base (ixOf mask 0)) (outs a) (xpost a) cls d H' → E cls d H'
abbrev spPX {A R : Type} [Rp R] (K : Fg) (n : Nat) (args : A → List SD) (pre : A → Prop) (post : A → R → Prop) (xpost : A → ErrV → Prop) : Sp := spTX (O := Unit) K (List.replicate n false) args pre (fun _ _ => []) (fun a r _ => post a r) (fun a x _ => xpost a x)
section
variable {P : Program} {w : World} {K : Fg} {mg : Str → Option Value} {base : Heap} {x qual : Str} {params : Arguments} {body : List Stmt} {scope : Scope} {f : Addr} {fd : FuncData} {N ps : List Str} {k : Nat}
theorem EnvOk.top {ow : List Nat} {B : Base ow} {m : Mi} {l : En} {G H : Hp} {σ : L2.St} (E : EnvOk K B m l G σ H) : EnvOk K B ⟨B.G, []⟩ l G σ H := by
  obtain ⟨fp, F, E, Z, M⟩ := E
  exact ⟨fp, F, E, Z, F.g0, fun q hq => nomatch hq⟩
/-- the rule of a def that may raise -/
theorem okTX {A R O : Type} [Rp R] {mask : List Bool} {args : A → List SD} {pre : A → Prop} {outs : A → O → List SD} {post : A → R → O → Prop} {xpost : A → ErrV → O → Prop} {dvs : List V} {kws : List (Str × V)} (F : FunD K x qual params body scope dvs kws f fd) (S : FnScope N ps scope) (hlen : ∀ a, (args a).length = ps.length) (nd : (ixOf mask 0).Nodup)
    (h : ∀ (cdv : Value) (A0 : Around) (outer : List PySem.Env) (s : Shared) (H : Hp) (E : XK) (a : A) (B : Base (ixOf mask 0)), Room k (A0.deeper (envOfC qual scope s.heap.objs.size f cdv)) → pre a → XOk (cxOf (L2.CX P w) P w K mg base N qual scope f cdv A0 outer s H E) B (fun x l => ∃ o, Outs (ixOf mask 0) l (outs a o) ∧ xpost a x o) →
      JSs (cxOf (L2.CX P w) P w K mg base N qual scope f cdv A0 outer s H E) B ⟨B.G, []⟩ body ((args a).map some ++ List.replicate (N.length - ps.length) none) ⟨fun _ H => RT K B (outs a) (post a) .non H, RT K B (outs a) (post a), fun _ _ => False, fun _ _ => False⟩) :
    FnOk P w K mg base (L2.CX P w) (k + 1) f fd ps (spTX K mask args pre outs post xpost) := by
  refine F.ok S (fun vs H Q E ⟨a, G, fp, _, _, _, hR, _⟩ => by rw [← hR.len]; exact hlen a) (fun cdv A0 outer s H vs Q E hr ⟨a, G, fp, ex, nd', un, hR, fl, hm, hp, hQ, hE⟩ => ?_)
  refine ⟨_, h cdv A0 outer s H E a ⟨G, H, fp, fixOf mask vs⟩ hr hp ?_, ⟨G, fp, ⟨ex, Ex.refl _, fun _ _ h => h, fun _ _ h _ => h, fun _ h => h, nd', fun x hx => ⟨un x hx, hR.dom x hx, .inr hx⟩⟩, ?_, ⟨?_, ?_, fl⟩, Ex.refl _, fun q hq => nomatch hq⟩, fun _ H q => hQ _ _ q, fun v H q => hQ _ _ q, fun _ _ z => z.elim, fun _ _ z => z.elim⟩
  · refine (takes_of rfl rfl rfl rfl).imp fun cls d σ H' ⟨l, G', x, E', hx, o, ho, hp'⟩ => ?_
    exact hE cls d H' ⟨G', x, o, E'.outs ho nd, hx, hp'⟩
  · have e : vs.length = ps.length := by rw [← hR.len]; exact hlen a
    unfold L2.start
    rw [e]
    exact env_of_rows hR _
  · exact fix_len mask vs 0 hm
  · intro k i v h1 h2
    obtain ⟨j, e, hj⟩ := fix_at mask vs 0 k i v h1 h2
    have ej : i = j := by omega
    subst ej
    unfold L2.start
    obtain ⟨hlt, hv⟩ := List.getElem?_eq_some_iff.mp hj
    rw [List.getElem?_append_left (by simpa using hlt), List.getElem?_map, hj]
    rfl
end
section
variable {X : Cx} {ow : List Nat} {B : Base ow} {m : Mi} {l l1 : En} {e : Expr} {es : List Expr} {pos p1 p2 : Pos} {rest : List Stmt} {D : Ends}
/-- a call that may raise -/
theorem call_spX {A R O : Type} [Rp R] {mask : List Bool} {args : A → List SD} {pre : A → Prop} {outs : A → O → List SD} {post : A → R → O → Prop} {xpost : A → ErrV → O → Prop} {G H : Hp} {σ : L2.St} {Q : VK} {E : XK} {as : List Arg} {vs : List V} {l1 : En} {a : A} {is : List Nat}
    (E1 : EnvOk X.K B m l1 G σ H) (hv : All2 (ArgR X.K G σ) as vs) (hM : Mat l1 as (args a) is) (nd : is.Nodup) (em : maskOf as = mask) (hp : pre a)
    (k : ∀ v G' H' r o, Ex G G' → Rp.rp X.K G' v r → post a r o → (∀ l2, Puts l1 is (outs a o) l2 → EnvOk X.K B m l2 G' σ H') → Q v H')
    (kx : ∀ cls d G' H' x o, ErrD X.K G' x cls d → xpost a x o → (∀ l2, Puts l1 is (outs a o) l2 → EnvOk X.K B m l2 G' σ H') → E cls d H') : spTX X.K mask args pre outs post xpost vs H Q E := by
  obtain ⟨fp, F, E1, Z, M⟩ := E1
  obtain ⟨fc, r, p, hR, E2, q1, q2, q3⟩ := mat_split hM nd (fun _ _ => rfl) E1 hv
  have F1 := F.perm p.symm
  have F2 := F1.subl
  subst em
  have back : ∀ {G' H' : Hp} {o : O} {fq : List Addr}, Fr (⟨G, H, fc, fixOf (maskOf as) vs⟩ : Base (ixOf (maskOf as) 0)) G' H' fq → Env X.K G' H' ((outs a o).map some) ((fixOf (maskOf as) vs).map some) fq → ∀ l2, Puts l1 is (outs a o) l2 → EnvOk X.K B m l2 G' σ H' := by
    intro G' H' o fq F' E' l2 hp2
    have Fc := F1.call F'
    have E3 : Env X.K G' H' (hole l1 is) σ r := E2.mono F'.g0 fun a ha => by
      cases q : H a with
      | none => exact absurd q (F1.un a (List.mem_append_right _ ha)).2.1
      | some o => exact F'.keep a o q fun hm => (List.nodup_append.mp F1.nd).2.2 a hm a ha rfl
    obtain ⟨d, fp', pp, E4⟩ := fill hp2 nd q3 q2 E3 E'
    refine ⟨fp', (Fc.perm pp.symm).sub, E4, Z, M.g.trans F'.g0, fun q hq => ?_⟩
    obtain ⟨h1, h2, h3⟩ := M.h q hq
    have nc : q.1 ∉ fc := fun z => h3 (p.mem_iff.mpr (List.mem_append_left _ z))
    refine ⟨F'.keep _ _ h1 nc, F'.gn _ (fun z => by have z' : H q.1 = none := z; rw [h1] at z'; cases z') h2, fun z => ?_⟩
    have z1 : q.1 ∈ fq ++ r := pp.mem_iff.mpr (List.mem_append_right _ z)
    rcases List.mem_append.mp z1 with z2 | z2
    · rcases (F'.un _ z2).2.2 with w | w
      · have w' : H q.1 = none := w
        rw [h1] at w'; cases w'
      · exact nc w
    · exact h3 (p.mem_iff.mpr (List.mem_append_right _ z2))
  refine ⟨a, G, fc, F.ex, F2.nd, fun x hx => (F2.un x hx).1, hR, q1, by unfold maskOf; rw [List.length_map]; exact hv.len, hp, fun v H' ⟨G', r', o, ⟨fq, F', l', σ', E', el, eσ⟩, rr, hpo⟩ => ?_, fun cls d H' ⟨G', x, o, ⟨fq, F', l', σ', E', el, eσ⟩, hx, hpo⟩ => ?_⟩
  · subst el eσ
    exact k v G' H' r' o F'.g0 rr hpo (back F' E')
  · subst el eσ
    exact kx cls d G' H' x o hx hpo (back F' E')
theorem je_callX {A R O : Type} [Rp R] {mask : List Bool} {args : A → List SD} {pre : A → Prop} {outs : A → O → List SD} {post : A → R → O → Prop} {xpost : A → ErrV → O → Prop} {k : Nat} {ps : List Str} {x : Str} {α : Type} [Rp α] {Φ : α → En → Prop} {xw : ErrV → En → Prop}
    (F : OkF X.prog X.w X.K X.mg X.base (L2.CX X.prog X.w) k x ps (spTX X.K mask args pre outs post xpost)) (hr : Room k X.A) (hx : XOk X B xw)
    (h : JA X B m (e :: es) l fun as l1 => ∃ (a : A) (is : List Nat), Mat l1 as (args a) is ∧ is.Nodup ∧ maskOf as = mask ∧ pre a ∧ (∀ r o, ¬ post a r o) ∧ ∀ x o, xpost a x o → ∃ l2, Puts l1 is (outs a o) l2 ∧ xw x l2)
    (hg : Gl X x := by rfl) (hdb : (x == ("__debug__" : Str)) = false := by decide) (he : starEach (e :: es) X.env = (false, eval e X.env) :: starEach es X.env := by rfl) (hpl : (backTo pos (starEach es X.env)).any (·.1) = false := by rfl) :
    JE X B m (.Call (.Name x p1) (e :: es) [] pos) l Φ :=
  let ⟨fd, f, b⟩ := F.ex
  (pe_callS (E := WE (XW X.K B xw)) f hr hg F.gl F.kp b (fun σ => passAt hx σ) h hdb he hpl).imp fun σ H Q ⟨G, E, k⟩ => ⟨G, E, fun vs G1 H1 as l1 e1 E1 r1 ⟨a, is, hM, nd, em, hp, hn, hX⟩ => by
    refine call_spX (X := X) E1 r1 hM nd em hp (fun v G2 H2 r o e2 rr hpo hE => (hn r o hpo).elim) fun cls d G2 H2 x o hxd hpo hE => ?_
    obtain ⟨l2, hP, hw⟩ := hX x o hpo
    exact ⟨l2, G2, x, (hE l2 hP).top, hxd, hw⟩⟩
/-- what the making of an own error promises of its __init__ -/
def spErr (C : Addr) (flds : List Str) (ok : List V → Prop) : Sp := fun vs H Q _ => ∃ a ys, vs = .ref a :: ys ∧ ys.length = flds.length ∧ H a = some (exo a C none) ∧ ok ys ∧
  ∀ dx H', H dx = none → dx ≠ a → H' a = some (exo a C (some dx)) → H' dx = some (exd dx (flds.zip ys).reverse) → (∀ b, b ≠ a → b ≠ dx → H' b = H b) → Q .non H'
structure ErrK (P : Program) (w : World) (K : Fg) (mg : Str → Option Value) (base : Heap) (k : Nat) (x : Str) (flds : List Str) (ok : List V → Prop) : Prop where
  T : OexC K (He.ga K x)
  iC : PySem.W.findIn K (.ref (He.ga K x)) "__init__" = some (some (.ref (He.ma K (He.ga K x) "__init__")))
  tI : PySem.W.typeIn K (.ref (He.ma K (He.ga K x) "__init__")) = some (.type "function")
  F : ∃ fd ps, FnOk P w K mg base CX0 k (He.ma K (He.ga K x) "__init__") fd ps (spErr (He.ga K x) flds ok) ∧ L2.Binds K fd ps []
  gl : mg x = some (.ref (He.ga K x))
theorem all2_zip {R : V → SD → Prop} : ∀ {flds : List Str} {vs : List V} {ss : List SD}, All2 R vs ss → flds.length = vs.length → All2 (fun (x : Str × V) (y : Str × SD) => x.1 = y.1 ∧ R x.2 y.2) (flds.zip vs) (flds.zip ss)
  | [], [], [], _, _ => trivial
  | f :: flds, v :: vs, s :: ss, h, e => ⟨⟨rfl, h.1⟩, all2_zip h.2 (by simpa using e)⟩
theorem js_raise {k : Nat} {x : Str} {flds : List Str} {ok : List V → Prop} {xw : ErrV → En → Prop} (R : ErrK X.prog X.w X.K X.mg X.base k x flds ok) (hr : Room (k + 1) X.A) (hx : XOk X B xw) (hc : X.calm = true)
    (h : JA X B m (e :: es) l fun as l1 => ∃ ss, as = vals ss ∧ ss.length = flds.length ∧ ss.length ≤ 1000 ∧ (∀ K G vs, All2 (PR K G) vs ss → ok vs) ∧ xw ⟨fun K => He.ga K x, (flds.zip ss).reverse⟩ l1)
    (hg : Gl X x := by rfl) (hdb : (x == ("__debug__" : Str)) = false := by decide) (he : starEach (e :: es) X.env = (false, eval e X.env) :: starEach es X.env := by rfl) (hpl : (backTo pos (starEach es X.env)).any (·.1) = false := by rfl) :
    JSs X B m (.Raise (some (.Call (.Name x p1) (e :: es) [] pos)) none p2 :: rest) l D :=
  let ⟨fd, ps, F, hb⟩ := R.F
  PSs.imp (pss_cons (ps_raise hc hx (pmk_oex (CX := CX0) R.T R.iC R.tI F hr hb .nil pass0 hg R.gl h hdb he hpl)) (pss_any (e := rest))) fun D' σ H ⟨⟨G, E⟩, _⟩ => ⟨G, E, fun vs G1 H1 as l1 e1 E1 r1 ⟨ss, ea, hl, hz, hok, hw⟩ => by
    subst ea
    have r2 := vals_pr r1
    refine ⟨by rw [r2.len]; exact hz, fun a ha => ?_⟩
    rw [List.append_nil]
    refine ⟨a, vs, rfl, by rw [r2.len]; exact hl, upd_same, hok _ _ _ r2, fun dx H' hdx ne h1 h2 h3 => ⟨rfl, dx, _, h1, h2, ?_, ?_⟩⟩
    · rw [upd_ne ne] at hdx; exact hdx
    · have hdx1 : H1 dx = none := by rw [upd_ne ne] at hdx; exact hdx
      have eH : upd (del H' a) dx (.xd (flds.zip vs).reverse) = upd H1 dx (.xd (flds.zip vs).reverse) := by
        funext b
        by_cases eb : b = dx
        · rw [eb, upd_same, upd_same]
        · rw [upd_ne eb, upd_ne eb]
          by_cases ea : b = a
          · rw [ea, del_same, ha]
          · rw [del_ne ea, h3 b ea eb, upd_ne ea]
      rw [eH]
      have g2 := (Ex.refl G1).new (o := HO.xd (flds.zip vs).reverse) (E1.gnone hdx1)
      refine ⟨l1, upd G1 dx (.xd (flds.zip vs).reverse), _, (E1.newG hdx1).top, ⟨rfl, dx, _, rfl, upd_same, ?_⟩, hw⟩
      exact All2.rev (all2_zip (r2.imp fun _ _ h => h.mono g2) (by rw [r2.len]; exact hl.symm))⟩
/-! ### try -/
/-- the caught error by its name -/
def errS (a dd : Addr) (x : ErrV) : SD where
  P := fun K G _ v f => v = .ref a ∧ f = [] ∧ ∃ vs, G dd = some (.xd vs) ∧ FR K G vs x.fs
  mono := fun e _ ⟨h1, h2, vs, h3, h4⟩ => ⟨h1, h2, vs, e _ _ h3, h4.mono e⟩
  dom := fun ⟨_, h2, _⟩ a ha => by rw [h2] at ha; cases ha
theorem xok_none : (∀ cls d σ H, ¬ (fun (_ : Value) (_ : Option Addr) (_ : L2.St) (_ : Hp) => False) cls d σ H) := fun _ _ _ _ h => h
theorem js_try {x n : Str} {c : Addr} {i : Nat} {body suite : List Stmt} {b0 : Stmt} {np pos' : Pos} {xw0 : ErrV → En → Prop} (xw : ErrV → En → Prop) (hs : X.stack = X.env :: X.outer) (hf : X.env.frame = some X.env.locals) (hN : X.N.Nodup) (hm : X.mg x = some (.ref c)) (hx : XOk X B xw0)
    (hb : ∀ (pn : List (Addr × Obj)) (xe : Value → Shared → Prop), XOk (X.tr pn xe) B xw → PassesOwn (model X.prog X.w) X.A X.env xe → JSs (X.tr pn xe) B m body l { D with nx := fun _ _ => False, bk := fun _ _ => False, ct := fun _ _ => False })
    (hsu : ∀ v l1, xw v l1 → PySem.W.exmOne X.K (.ref (v.C X.K)) (.ref c) = some true ∧ ∀ a dd, ∃ l2, Put l1 i (some (errS a dd v)) l2 ∧ ∀ oe pn, Zc (.ref (v.C X.K)) (some dd) oe → (∃ vs, oe.data = .fields vs) →
      JSs (X.suite a ((a, oe) :: pn)) B ⟨B.G, []⟩ (b0 :: suite) l2 { D with nx := fun _ _ => False, bk := fun _ _ => False, ct := fun _ _ => False })
    (hw : i ∉ ow := by decide) (hi : X.N[i]? = some n := by rfl) (hln : X.env.kindOf n = some .local := by rfl) (hg : Gl X x := by rfl) (hdb : (x == ("__debug__" : Str)) = false := by decide) :
    JSs X B m [.Try body [.ExceptHandler (some (.Name x np)) (some n) (b0 :: suite) pos'] [] [] pos] l D := by
  have tk0 : Takes X fun _ _ _ _ => False := fun u s' ⟨_, _, _, _, _, _, _, _, _, _, _, _, _, _, _, _, w⟩ => w.elim
  refine PSs.imp (pss_one (ps_try_as (c := .ref c) (tb := fun W => fun D' σ H => (∀ cls d σ H, XW X.K B xw cls d σ H → W cls d σ H) ∧ (∃ G, EnvOk X.K B m l G σ H) ∧ ∀ v H, D.rt v H → D'.rt v H)
    (ts := fun a cls d => fun D' σ H => ∃ (v : ErrV) (l2 : En) (G : Hp) (dd : Addr), cls = .ref (v.C X.K) ∧ d = some dd ∧ (EnvOk X.K B ⟨B.G, []⟩ l2 G σ H ∧ ∀ oe pn, Zc (.ref (v.C X.K)) (some dd) oe → (∃ vs, oe.data = .fields vs) → JSs (X.suite a ((a, oe) :: pn)) B ⟨B.G, []⟩ (b0 :: suite) l2 { D with nx := fun _ _ => False, bk := fun _ _ => False, ct := fun _ _ => False }) ∧ ∀ v H, D.rt v H → D'.rt v H)
    hs hf hN hi hln ⟨hg, hdb, .inl hm⟩ tk0 (fun W pn xe tk ps => ?_) fun a oe cls d pn hz hfd => ?_)) fun D' σ H ⟨⟨G, E⟩, q1, q2, q3, q4⟩ => ?_
  · refine ⟨fun pins s' σ H D' I ⟨hW, ⟨G, E⟩, hrt⟩ => ?_⟩
    exact (hb pn xe (tk.imp hW) ps).run pins s' σ H D' I ⟨⟨G, E⟩, fun _ _ z => z.elim, hrt, fun _ _ z => z.elim, fun _ _ z => z.elim⟩
  · refine ⟨fun pins s' σ H D' I ⟨v, l2, G, dd, ec, ed, ⟨E, hJ⟩, hrt⟩ => ?_⟩
    subst ec ed
    exact (hJ oe pn hz hfd).run pins s' σ H D' I ⟨⟨G, E⟩, fun _ _ z => z.elim, hrt, fun _ _ z => z.elim, fun _ _ z => z.elim⟩
  · refine ⟨fun cls d σ2 H2 ⟨l1, G2, v, E2, ⟨ec, dd, vs, ed, hd, hfr⟩, hxw⟩ => ?_, ⟨G, E⟩, q2⟩
    obtain ⟨hex, hh⟩ := hsu v l1 hxw
    subst ec ed
    refine ⟨true, hex, fun _ a na => ?_, fun z => nomatch z⟩
    obtain ⟨l2, pt, hJ⟩ := hh a dd
    exact ⟨v, l2, G2, dd, rfl, rfl, ⟨E2.putN (s := errS a dd v) (v := .ref a) ⟨rfl, rfl, vs, hd, hfr⟩ pt hw, hJ⟩, q2⟩
/-! ### in the suite -/
theorem dataN {K : Fg} {C : Addr} {od : Option Obj} {name : Str} {a g : Value} (hc : (PySem.W.clsIn K C).isSome = true) (ha : PySem.W.findIn K (.ref C) name = some (some a)) (hg : PySem.W.specialIn K a "__get__" = some (some g)) (ht : PySem.W.takesIn K a = some true) : PySem.W.findObj K C od name = some (.bind g a) := by
  obtain ⟨cd, hc⟩ := Option.isSome_iff_exists.mp hc
  unfold PySem.W.findObj
  rw [hc, Option.bind_some, ha, Option.bind_some]
  simp [hg, ht]
end
end Tyl
end
section
/-! the caught error: isinstance, its fields -/
namespace PySem.W
open PySem PySem.Spec PySem.Calls PyProof.Rows
section
variable {prog : Program} {w : World} {A : Around} {E : Value → Shared → Prop} {s : Shared} {K : Frag} {x D : Addr} {ox : Obj} {od : Option Obj}
theorem kin_classX {Q : Option Value → Shared → Prop} (hga : findIn K (.ref D) "__getattribute__" = some (some (.builtin "BaseException.__getattribute__"))) (hgt : findIn K (.ref D) "__getattr__" = some none) (hsub : subIn K (.ref D) (.type "BaseException") = some true)
    (hdct : hasDictIn K D = true) (ha : findIn K (.ref D) "__class__" = some (some (.builtin "object.__class__")))
    (hn : specialIn K (.builtin "object.__class__") "__get__" = some (some (.builtin "getset_descriptor.__get__"))) (htk : takesIn K (.builtin "object.__class__") = some true) (hm : mroIn K D (.type "object") = some true)
    (X : K.In s.heap) (I : InstAt s.heap x ox D od) (h : Q (some (.ref D)) { s with toks := s.toks + 1 }) : wpAny (model prog w) A (getAttr? (.ref x) "__class__") Q E s := by
  have hf : findObj K D od "__class__" = some (.bind (.builtin "getset_descriptor.__get__") (.builtin "object.__class__")) := Tyl.dataN (by obtain ⟨cd, hc, _⟩ := any_some hdct; rw [hc]; rfl) ha hn htk
  obtain ⟨hp, g, d, t, os⟩ := s
  have L0 := I.type (M := model prog w)
  have L1 := looks_findIn (M := model prog w) X hga
  have L2 := looks_findIn (M := model prog w) X hgt
  have L3 := looks_find (M := model prog w) X I hf
  have sub : Looks (model prog w) hp (isInstance (.ref x) (.type "BaseException")) true := L0.andThen (looks_subIn X hsub)
  have hx0 : (false && onTheHeap (Value.builtin "BaseException.__getattribute__")) = false := rfl
  have hx2 : (Value.builtin "BaseException.__getattribute__" == Value.builtin "object.__getattribute__") = false := by decide +kernel
  have hx1 : (onTheHeap (Value.ref D) && Value.builtin "BaseException.__getattribute__" == Value.builtin "object.__getattribute__") = false := by rw [hx2]; rfl
  unfold getAttr? getAttrBy? getAttrBy
  refine wpAny_bind (wpAny_mkText (wpAny_bind (wpAny_attempt (wpAny_holding (wpAny_bind (L0.at (wpAny_bind (L1.at ?_))))))))
  show wpAny _ _ (if (onTheHeap (Value.ref D) && Value.builtin "BaseException.__getattribute__" == Value.builtin "object.__getattribute__") = true then _ else _) _ _ _
  rw [hx1, if_neg Bool.false_ne_true]
  unfold getAttrByItsOwn hookBefore
  refine wpAny_bind ?_
  rw [if_pos (show onTheHeap (Value.ref D) = true from rfl)]
  refine L2.at ?_
  refine wpAny_bind (wpAny_attempt (wpAny_holding ?_))
  unfold callGetattribute
  rw [hx0, if_neg Bool.false_ne_true]
  unfold boundAndCalled
  rw [PySem.F.excAttr_ValueError.ga.bind (.ref x)]
  refine wpAny_bind (wpAny_pure ?_)
  show wpAny _ _ (call (.builtin "BaseException.__getattribute__") [.ref x, .str "__class__" t]) _ _ _
  refine wpAny_call (codeAny_call_builtin PySem.F.excAttr_ValueError.ga.plain PySem.F.entry_bexc_ga ?_)
  refine @check_slot (model prog w) _ _ ⟨hp, g, d, t + 1, os⟩ "BaseException.__getattribute__" "BaseException" "__getattribute__" (.ref x) [.str "__class__" t] [] _ (by decide +kernel) (by decide +kernel) sub (PySem.F.args_bexc_ga (.ref x) (.str "__class__" t)) ?_
  unfold Builtin.«object.__getattribute__»
  refine wpAny_bind (wpAny_of_eq (a := ((Value.ref x : Value), [Value.str "__class__" t])) (by first | rfl | (simp only [slotArgs]; rfl)) ?_)
  refine wpAny_bind (wpAny_pure (wpAny_bind (L0.at (wpAny_bind (L3.at ?_)))))
  show wpAny _ _ (holding [Value.builtin "object.__class__"] (call (.builtin "getset_descriptor.__get__") [.builtin "object.__class__", .ref x, .ref D]) >>= ret) _ _ _
  refine wpAny_bind (wpAny_holding (wpAny_call (class_get (s := ⟨hp, g, d, t + 1, os⟩) (ox := ox) (od := od) X I hm ?_)))
  refine wpAny_pure ?_
  show wpAny _ _ (handedOut (.ref D)) _ _ _
  rw [handedOut_of (v := .ref D) rfl]
  first
    | exact wpAny_pure (wpAny_pure h)
    | exact wpAny_pure h
    | exact wpAny_pure (wpAny_bind (wpAny_pure (wpAny_pure h)))
theorem kitx_excX (hga : findIn K (.ref D) "__getattribute__" = some (some (.builtin "BaseException.__getattribute__"))) (hgt : findIn K (.ref D) "__getattr__" = some none) (hsub : subIn K (.ref D) (.type "BaseException") = some true) (hdct : hasDictIn K D = true) (ha : findIn K (.ref D) "__class__" = some (some (.builtin "object.__class__")))
    (hn : specialIn K (.builtin "object.__class__") "__get__" = some (some (.builtin "getset_descriptor.__get__"))) (htk : takesIn K (.builtin "object.__class__") = some true) (hm : mroIn K D (.type "object") = some true) :
    KitX K (.ref x) (.ref D) (fun h => InstAt h x ox D od) where
  ty := fun _ _ _ I => I.type
  it := fun _ _ X _ => by
    obtain ⟨cdD, hcD, _⟩ := any_some hdct
    unfold clsIn at hcD
    split at hcD
    · rename_i c' d' cd' sl' ho
      intro A' Q' E' s' k q
      unfold isType loadHead
      exact wpAny_bind (wpAny_loadPart (k _ _ (X _ _ ho)) (wpAny_pure q))
    · cases hcD
  ne := fun h tp dd its n sl X htp => by
    obtain ⟨cdD, hcD, _⟩ := any_some hdct
    refine Bool.eq_false_iff.mpr fun q => ?_
    have e : D = tp := Value.ref.inj (beq_iff_eq.mp q)
    subst e
    unfold clsIn at hcD
    split at hcD
    · rename_i c' d' cd' sl' ho
      have z := (X _ _ ho).symm.trans htp
      cases z
    · cases hcD
  ca := fun X I k => kin_classX hga hgt hsub hdct ha hn htk hm X I k
end
end PySem.W
namespace Tyl
open PySem PySem.Spec PyProof.Rows L2
section
variable {X : Cx} {a dd D : Addr} {oe : Obj} {pn : List (Addr × Obj)} {pins : List (Addr × Obj)} {σ : L2.St} {H : Hp} {s : Shared}
theorem inst_exc (hz : Zc (.ref D) (some dd) oe) (hf : ∃ vs, oe.data = .fields vs) (I : Inv (X.suite a ((a, oe) :: pn)) pins σ H s) {vs : List (Str × V)} (hd : H dd = some (.xd vs)) : ∃ od, PySem.W.InstAt s.heap a oe D (some od) := by
  obtain ⟨ha, _⟩ := I.pin (a, oe) (List.mem_append_left _ List.mem_cons_self)
  obtain ⟨ws, hw⟩ := hf
  have hx : ObjOk X.prog X.w H s.heap dd (.xd vs) := I.hok dd _ hd
  obtain ⟨mA, hns, hr⟩ := hx
  obtain ⟨od, ho, hl⟩ := lookIn_ns hns
  exact ⟨od, ha, hz.1, by unfold PySem.W.notCls; rw [hw] <;> rfl, by rw [hz.2]; exact ho⟩
def rIsX (K : Fg) (D a dd : Addr) : List V → Hp → VK → Prop := fun xs H Q => ∃ (c : Addr) (b : Bool) (vs : List (Str × V)), xs = [.ref a, .ref c] ∧ H dd = some (.xd vs) ∧ PySem.W.kitOne K (.ref D) (.ref c) = some b ∧ Q (.bl b) H
def rIsXT (K : Fg) (D a dd : Addr) : List V → Hp → VK → Prop := fun xs H Q => ∃ (tp : Addr) (cs : List V) (us : List Value) (b : Bool) (vs : List (Str × V)), xs = [.ref a, .ref tp] ∧ H tp = some (.tup cs) ∧ Paired ClsV cs us ∧ H dd = some (.xd vs) ∧ PySem.W.kitAny K (.ref D) us = some b ∧ Q (.bl b) H
theorem call_isX (C : ExcC X.K D) (hz : Zc (.ref D) (some dd) oe) (hf : ∃ vs, oe.data = .fields vs) : CallR (X.suite a ((a, oe) :: pn)) (.builtin "isinstance") (rIsX X.K D a dd) := by
  intro pins s σ H xs us Q I r h
  obtain ⟨c, b, vs, rfl, hd, e, q⟩ := h
  obtain ⟨od, J⟩ := inst_exc hz hf I hd
  cases r with
  | cons rx rr =>
    cases rr with
    | cons rt rr =>
      cases rr
      cases rx
      cases rt
      exact PySem.W.kia_one (PySem.W.kitx_excX C.hg C.hk C.hs C.hd C.ha C.hn C.ht C.hm) I.kIn J e (fun z => nomatch z) fun tk => ⟨.bl b, H, I.kept (t' := tk) fun _ _ z => z, rfl, q⟩
theorem call_isXT (C : ExcC X.K D) (hz : Zc (.ref D) (some dd) oe) (hf : ∃ vs, oe.data = .fields vs) : CallR (X.suite a ((a, oe) :: pn)) (.builtin "isinstance") (rIsXT X.K D a dd) := by
  intro pins s σ H xs us Q I r h
  obtain ⟨tp, cs, ws, b, vs, rfl, hT, k, hd, e, q⟩ := h
  obtain ⟨od, J⟩ := inst_exc hz hf I hd
  obtain ⟨_, its, rv, o, h1, h2, n, h3⟩ := (show ObjOk X.prog X.w H s.heap tp (.tup cs) from I.hok tp _ hT)
  have e3 := ClsV.all k rv
  subst e3
  obtain ⟨oc, od', dt, sl⟩ := o
  simp only at h2 h3
  subst h2 h3
  cases r with
  | cons rx rr =>
    cases rr with
    | cons rt rr =>
      cases rr
      cases rx
      cases rt
      exact PySem.W.kia_tup (PySem.W.kitx_excX C.hg C.hk C.hs C.hd C.ha C.hn C.ht C.hm) I.kIn J h1 e (fun z => nomatch z) fun tk => ⟨.bl b, H, I.kept (t' := tk) fun _ _ z => z, rfl, q⟩
end
section
variable {X : Cx} {ow : List Nat} {B : Base ow} {m : Mi} {a dd : Addr} {oe : Obj} {pn : List (Addr × Obj)} {v : ErrV} {l : En} {i : Nat} {n c c2 f : Str} {p1 p2 p3 p4 p5 pos : Pos}
/-- isinstance(e, c) -/
theorem je_isX {b : Bool} {Φ : Bool → En → Prop} (C : ExcC X.K (v.C X.K)) (hz : Zc (.ref (v.C X.K)) (some dd) oe) (hf : ∃ vs, oe.data = .fields vs) (g : Get l i (errS a dd v)) (hb : X.mg "isinstance" = none) (hm : X.mg c = some (.ref (He.ga X.K c))) (hk : PySem.W.kitOne X.K (.ref (v.C X.K)) (.ref (He.ga X.K c)) = some b) (h : Φ b l)
    (hN : X.N[i]? = some n := by rfl) (hv : Vis X.env.scope n := by first | exact Or.inl rfl | exact Or.inr (Or.inl rfl) | exact Or.inr (Or.inr rfl)) (hd : (n == ("__debug__" : Str)) = false := by decide) (hcd : (n == ("__classdict__" : Str)) = false := by decide) (hg : Gl X "isinstance" := by rfl) (hgc : Gl X c := by rfl) (hdc : (c == ("__debug__" : Str)) = false := by decide)
    (he : starEach (.Name n p2 :: [.Name c p3]) X.env = (false, eval (.Name n p2) X.env) :: starEach [.Name c p3] X.env := by rfl) (he2 : starEach (.Name c p3 :: []) X.env = (false, eval (.Name c p3) X.env) :: starEach [] X.env := by rfl) (hpl : (backTo pos (starEach [.Name c p3] X.env)).any (·.1) = false := by rfl) :
    JE (X.suite a ((a, oe) :: pn)) B m (.Call (.Name "isinstance" p1) [.Name n p2, .Name c p3] [] pos) l Φ :=
  (pe_callB (X := X.suite a ((a, oe) :: pn)) (call_isX C hz hf) hg hb (by decide +kernel) (pa_cons (pe_var (i := i) hN hv hd hcd) (pa_cons (pe_glob (v := .ref (He.ga X.K c)) hgc hm rfl hdc) pa_nil he2) he) (by decide) (by decide) he hpl).imp fun σ H Q ⟨G, E, k⟩ => by
    obtain ⟨w, f0, e1, e2, _, vs, e4, e5⟩ := E.get g
    subst e2
    exact ⟨_, e1, He.ga X.K c, b, vs, rfl, E.ex _ _ e4, hk, k _ G H b l (Ex.refl G) E rfl h⟩
theorem je_isXT {x1} {b : Bool} {Φ : Bool → En → Prop} (C : ExcC X.K (v.C X.K)) (hz : Zc (.ref (v.C X.K)) (some dd) oe) (hf : ∃ vs, oe.data = .fields vs) (g : Get l i (errS a dd v)) (hb : X.mg "isinstance" = none) (hm : X.mg c = some (.ref (He.ga X.K c))) (hm2 : X.mg c2 = some (.ref (He.ga X.K c2)))
    (hk : PySem.W.kitAny X.K (.ref (v.C X.K)) [.ref (He.ga X.K c), .ref (He.ga X.K c2)] = some b) (h : Φ b l)
    (hN : X.N[i]? = some n := by rfl) (hv : Vis X.env.scope n := by first | exact Or.inl rfl | exact Or.inr (Or.inl rfl) | exact Or.inr (Or.inr rfl)) (hd : (n == ("__debug__" : Str)) = false := by decide) (hcd : (n == ("__classdict__" : Str)) = false := by decide) (hg : Gl X "isinstance" := by rfl) (hgc : Gl X c := by rfl) (hgc2 : Gl X c2 := by rfl) (hdc : (c == ("__debug__" : Str)) = false := by decide) (hdc2 : (c2 == ("__debug__" : Str)) = false := by decide)
    (he : starEach (.Name n p2 :: [.Tuple [.Name c p3, .Name c2 p4] x1 p5]) X.env = (false, eval (.Name n p2) X.env) :: starEach [.Tuple [.Name c p3, .Name c2 p4] x1 p5] X.env := by rfl) (he2 : starEach (.Tuple [.Name c p3, .Name c2 p4] x1 p5 :: []) X.env = (false, eval (.Tuple [.Name c p3, .Name c2 p4] x1 p5) X.env) :: starEach [] X.env := by rfl)
    (ht : starEach [.Name c p3, .Name c2 p4] X.env = (false, eval (.Name c p3) X.env) :: starEach [.Name c2 p4] X.env := by rfl) (ht2 : starEach [.Name c2 p4] X.env = (false, eval (.Name c2 p4) X.env) :: starEach [] X.env := by rfl)
    (hpl : (backTo pos (starEach [.Tuple [.Name c p3, .Name c2 p4] x1 p5] X.env)).any (·.1) = false := by rfl) :
    JE (X.suite a ((a, oe) :: pn)) B m (.Call (.Name "isinstance" p1) [.Name n p2, .Tuple [.Name c p3, .Name c2 p4] x1 p5] [] pos) l Φ :=
  (pe_callB (X := X.suite a ((a, oe) :: pn)) (call_isXT C hz hf) hg hb (by decide +kernel) (pa_cons (pe_var (i := i) hN hv hd hcd) (pa_cons (pe_tup (pa_cons (pe_glob (v := .ref (He.ga X.K c)) hgc hm rfl hdc) (pa_cons (pe_glob (v := .ref (He.ga X.K c2)) hgc2 hm2 rfl hdc2) pa_nil ht2) ht)) pa_nil he2) he) (by decide) (by decide) he hpl).imp fun σ H Q ⟨G, E, k⟩ => by
    obtain ⟨w, f0, e1, e2, _, vs, e4, e5⟩ := E.get g
    subst e2
    refine ⟨_, e1, by show 2 ≤ sizeLine; decide, fun p hp => ?_⟩
    have g2 := (Ex.refl G).new (o := .tup [.ref (He.ga X.K c), .ref (He.ga X.K c2)]) (E.gnone hp)
    have E2 := E.newG (o := .tup [.ref (He.ga X.K c), .ref (He.ga X.K c2)]) hp
    exact ⟨p, [.ref (He.ga X.K c), .ref (He.ga X.K c2)], [.ref (He.ga X.K c), .ref (He.ga X.K c2)], b, vs, rfl, upd_same, .cons (.own _) (.cons (.own _) .nil), E2.ex _ _ (g2 _ _ e4), hk, k _ _ _ b l g2 E2 rfl h⟩
/-- e.f -/
theorem je_xf {α : Type} [Rp α] {d : α} {Φ : α → En → Prop} (T : XfC X.K (v.C X.K)) (hno : PySem.W.findIn X.K (.ref (v.C X.K)) f = some none) (hz : Zc (.ref (v.C X.K)) (some dd) oe) (hf : ∃ vs, oe.data = .fields vs) (g : Get l i (errS a dd v)) (hl : v.fs.lookup f = some (sd d)) (h : Φ d l)
    (hN : X.N[i]? = some n := by rfl) (hv : Vis X.env.scope n := by first | exact Or.inl rfl | exact Or.inr (Or.inl rfl) | exact Or.inr (Or.inr rfl)) (hd : (n == ("__debug__" : Str)) = false := by decide) (hcd : (n == ("__classdict__" : Str)) = false := by decide) (hb : attributeBase (.Name n p1) f X.env (eval (.Name n p1) X.env) = eval (.Name n p1) X.env := by rfl) :
    JE (X.suite a ((a, oe) :: pn)) B m (.Attribute (.Name n p1) f pos) l Φ :=
  (pe_xf (X := X) T hno hz hf (pe_var (i := i) hN hv hd hcd) hb).imp fun σ H Q ⟨G, E, k⟩ => by
    obtain ⟨w, f0, e1, e2, _, vs, e4, e5⟩ := E.get g
    subst e2
    obtain ⟨u, w1, w2⟩ := e5.get hl
    exact ⟨_, e1, rfl, rfl, dd, vs, u, rfl, E.ex _ _ e4, w1, k u G H d l (Ex.refl G) E w2.rp h⟩
end
end Tyl
end
section
/-! == and != by an own __eq__ that says True -/
namespace PySem.W
open PySem PySem.Spec PySem.Calls PyProof.Rows
section
variable {prog : Program} {w : World} {A : Around} {E : Value → Shared → Prop} {s : Shared} {K : Frag} {x y C L f : Addr} {h₀ : Heap} {m : Str → Option Value} {ox : Obj} {od : Option Obj}
theorem ne_K {Q : Value → Shared → Prop} (hu : A.units + 1 < cLine) (F0 : Fr h₀ L s.heap m) (X₀ : K.In h₀) (I : InstAt s.heap x ox C od) (hb : Looks (model prog w) s.heap (typeOf (.ref y)) (.ref C)) (hm : mroIn K C (.type "object") = some true)
    (hn : findIn K (.ref C) "__ne__" = some (some (.builtin "object.__ne__"))) (hs : findIn K (.ref C) "__eq__" = some (some (.ref f))) (hf : isFn K (.ref f) = true)
    (h : wpAny (model prog w) A.in1 (call (.ref f) [.ref x, .ref y]) (fun v s' => ∃ b, v = .bool b ∧ Q (.bool (!b)) s') E s) : wpAny (model prog w) A (richCompare .NotEq (.ref x) (.ref y)) Q E s := by
  have X := X₀.keeps F0.keep
  have FB := F.cmp_object
  have sub : Looks (model prog w) s.heap (isInstance (.ref x) (.type "object")) true := I.type.andThen (looks_mroIn X hm)
  have body : ∀ {R : Value → Shared → Prop}, (∀ b s', Q (.bool (!b)) s' → R (.bool (!b)) s') → wpAny (model prog w) A (call (.builtin "object.__ne__") [.ref x, .ref y]) R E s := fun {R} hR => by
    refine wpAny_call (codeAny_call_builtin FB.ne.plain F.cmpEntry_ne ?_)
    refine @check_slot (model prog w) _ _ s "object.__ne__" "object" "__ne__" (.ref x) [.ref y] [] _ F.cmpKind_ne F.cmpSplit_ne sub (F.cmpArgs_ne _ _) ?_
    unfold Builtin.«object.__ne__»
    obtain ⟨hp, g, d, t, os⟩ := s
    have hu1 : A.in1.units < cLine := hu
    repeat (first
      | with_reducible refine wpAny_cRoomFor hu1 ?_
      | (refine wpAny_bind (m := callSpecialIfBound? (.ref x) (Str.ofString "__eq__") [.ref y])
          (ifBound_K X I hs hf (wpAny_mono h (fun r s' hr => by
            obtain ⟨b, rfl, hq⟩ := hr
            have hq := hR b s' hq
            repeat (first | exact hq | exact wpAny_pure hq | exact wpAny_truthy_bool hq | (refine wpAny_bind (m := truthy (.bool _)) (wpAny_truthy_bool ?_)) | wp_step)) fun _ _ e => e)))
      | wp_step)
  have one : wpAny (model prog w) A (tryCompare (.ref x) (cmpInfo .NotEq).2.1 (.ref y)) (fun r s' => ∃ v, r = some v ∧ Q v s') E s := by
    rw [cmpInfo_NotEq]
    show wpAny _ _ (tryCompare (.ref x) "__ne__" (.ref y)) _ _ _
    unfold tryCompare
    refine wpAny_bind ?_
    simp only [callSpecialIfBound?, bindSpecialIfBound?]
    refine wpAny_holding (wpAny_bind (wpAny_bind (wpAny_bind (I.type.here ((looks_findIn X hn).here ?_)))))
    refine wpAny_bind (wpAny_askSetting (wpAny_ite ?_))
    have fin : wpAny (model prog w) A (call (.builtin "object.__ne__") ([.ref x] ++ [.ref y]) >>= fun v => pure (some v)) (fun r s' => wpAny (model prog w) A (match r with | some .notImplemented => pure none | none => pure none | some v => pure (some v)) (fun r s' => ∃ v, r = some v ∧ Q v s') E s') E s :=
      wpAny_bind (wpAny_mono (body (R := fun v s' => ∃ b, v = .bool (!b) ∧ Q v s') fun b s' q => ⟨b, rfl, q⟩) (fun v s' ⟨b, e, q⟩ => by subst e; exact wpAny_pure (wpAny_pure ⟨_, rfl, q⟩)) fun _ _ h' => h')
    simp only [FB.ne.bind]
    split
    · exact wpAny_bind (wpAny_pure (wpAny_pure fin))
    · exact wpAny_tryCatch (wpAny_bind (wpAny_pure (wpAny_pure fin)))
  unfold richCompare
  simp only [oneThing_ref]
  refine wpAny_holding (wpAny_bind (wpAny_cRoomFor (Nat.lt_of_succ_lt hu) ?_))
  refine wpAny_bind (I.type.here (wpAny_bind (hb.here ?_)))
  rw [show (Value.ref C != Value.ref C) = false from by simp]
  simp only [Bool.false_eq_true, if_false]
  refine wpAny_bind (wpAny_pure ?_)
  simp only [Bool.false_eq_true, if_false]
  refine wpAny_bind (wpAny_mono one (fun r s' z => ?_) fun _ _ e => e)
  obtain ⟨v, rfl, hq⟩ := z
  exact wpAny_pure hq
end
end PySem.W
namespace Tyl
open PySem PySem.Spec PyProof.Rows L2
section
variable {X : Cx} {n : Nat}
/-- != gives False for what D says -/
def NcG (X : Cx) (n : Nat) (D : Eqv) : Prop :=
  ∀ (A : Around) (pins : List (Addr × Obj)) (s : Shared) (σ : L2.St) (H : Hp) (x y : V) (u v : Value), Sub X n A → L2.Inv X pins σ H s → RelV x u → RelV y v → D x y H →
    wpAny (model X.prog X.w) A (richCompare .NotEq u v) (fun r s' => r = .bool false ∧ ∃ H', L2.Inv X pins σ H' s' ∧ Ext H H') X.xe s
theorem ncG_ins {CX : CXT} {C f : Addr} {fd : FuncData} {ps : List Str} {R : Addr → Addr → Hp → Prop} {E : XK} (F : FnOk X.prog X.w X.K X.mg X.base CX n f fd ps (spEq R)) (hm : PySem.W.mroIn X.K C (.type "object") = some true)
    (hne : PySem.W.findIn X.K (.ref C) "__ne__" = some (some (.builtin "object.__ne__"))) (hs : PySem.W.findIn X.K (.ref C) "__eq__" = some (some (.ref f))) (hf : PySem.W.isFn X.K (.ref f) = true) (hb : L2.Binds X.K fd ps []) (hx : Passes CX X E) : NcG X (n + 1) (DIns C R) := by
  intro A pins s σ H x y u v sb I rx ry d
  obtain ⟨a, b, dx, dy, fs, gs, rfl, rfl, ha, hb', hr⟩ := d
  cases rx
  cases ry
  obtain ⟨mA, J, _⟩ := ins_get I.hok ha
  obtain ⟨mB, J', _⟩ := ins_get I.hok hb'
  obtain ⟨od, J, _⟩ := J.look
  obtain ⟨od', J', _⟩ := J'.look
  obtain ⟨m, hF⟩ := I.fr
  have hun := sb.room.units
  refine PySem.W.ne_K (by omega) hF I.ok.mod.kin J J'.type hm hne hs hf ?_
  have hsp : spEq R [.ref a, .ref b] H (fun v H' => v = .bl true ∧ Ext H H') E := ⟨a, b, rfl, hr, fun H' e => ⟨rfl, e⟩⟩
  have e0 : Env0 X.prog X.w X.K X.mg X.base A.in1 X.stack s H := by
    have e := I.env0
    exact ⟨by rw [sb.in1.fr]; exact e.frames, e.mod, e.bs, e.bsz, e.funs, e.frf, e.hok, e.bare⟩
  have hl := F.len _ _ _ _ hsp
  have r2 : Vals [V.ref a, V.ref b] [Value.ref a, Value.ref b] := .cons rfl (.cons rfl .nil)
  refine wpAny_call (codeAny_mono (F.run A.in1 X.stack s H ⟨[.ref a, .ref b], []⟩ [.ref a, .ref b] [.ref a, .ref b] _ E sb.in1.room e0 (by
    have := hb s [.ref a, .ref b] I.kIn (by simpa using hl)
    simpa using this) r2 hsp) fun r s' hq => ?_)
  cases r with
  | error e => exact hx pins σ H s e s' I hq
  | ok fl =>
    cases fl with
    | ret w =>
      obtain ⟨z, H', I', rz, ez, ex⟩ := I.after hq
      subst ez
      cases rz
      exact ⟨true, rfl, rfl, H', I', ex⟩
    | next => exact False.elim hq
    | brk => exact False.elim hq
    | cont => exact False.elim hq
def rNeG (D : Eqv) : R2 := fun x y H Q => D x y H ∧ ∀ H', Ext H H' → Q (.bl false) H'
theorem op_neG {D : Eqv} (h : NcG X n D) (hr : Room n X.A) : OpR X (compareOp .NotEq) (rNeG D) := by
  intro pins s σ H x y v u Q I rx ry hq
  obtain ⟨d, q⟩ := hq
  show wpAny (model X.prog X.w) X.A (richCompare .NotEq v u) (EP X pins σ Q) X.xe s
  refine wpAny_mono (h X.A pins s σ H x y v u ⟨hr, rfl⟩ I rx ry d) (fun r s' z => ?_) fun _ _ x => x
  obtain ⟨hr', H', I', e⟩ := z
  subst hr'
  exact ⟨.bl false, H', I', rfl, q H' e⟩
end
section
variable {X : Cx} {ow : List Nat} {B : Base ow} {m : Mi} {l : En} {G H H' : Hp} {σ : L2.St} {K : Fg} {a b : Expr} {pos : Pos} {α : Type} [Rp α] {x : Str}
theorem EnvOk.grow (E : EnvOk K B m l G σ H) (e : Ext H H') : EnvOk K B m l G σ H' := by
  obtain ⟨fp, F, E, Z, M⟩ := E
  have hk : ∀ a, H a ≠ none → H' a = H a := fun a ha => by
    cases q : H a with
    | none => exact absurd q ha
    | some o => exact e a o q
  exact ⟨fp, ⟨fun a o h => e a o (F.ex a o h), F.g0, F.gn, fun a o h1 h2 => e a o (F.keep a o h1 h2), fun a h => by rw [hk a (F.dom a h)]; exact F.dom a h, F.nd, fun a ha => by
    obtain ⟨u1, u2, u3⟩ := F.un a ha
    exact ⟨u1, by rw [hk a u2]; exact u2, u3⟩⟩, E.mono (Ex.refl _) fun a ha => hk a (E.dom a ha), Z, M.g, fun q hq => by
    obtain ⟨h1, h2, h3⟩ := M.h q hq
    exact ⟨e _ _ h1, h2, h3⟩⟩
/-- what an own == of data promises, as the library's rule asks it -/
def REq {A : Type} (K : Fg) (args : A → List SD) (pre : A → Prop) : Addr → Addr → Hp → Prop := fun a b H => ∃ (d : A) (G : Hp), Ex G H ∧ All2 (PR K G) [.ref a, .ref b] (args d) ∧ pre d
theorem rows_pr {K : Fg} {G H : Hp} : ∀ {ss : List SD} {vs : List V}, All2 (PR K G) vs ss → Rows K G H ss vs []
  | [], [], _ => .nil
  | s :: ss, v :: vs, h => Rows.cons (f := []) (h.1 H) (rows_pr h.2)
theorem spEq_of {A : Type} {args : A → List SD} {pre : A → Prop} {vs : List V} {Q : VK} {E : XK} (h : spEq (REq K args pre) vs H Q E) : spP (R := Bool) K 2 args pre (fun _ r => r = true) vs H Q E := by
  obtain ⟨a, b, rfl, ⟨d, G, ex, hr, hp⟩, q⟩ := h
  refine ⟨d, G, [], ex, List.nodup_nil, fun x hx => (nomatch hx), rows_pr hr, fun x hx => (nomatch hx), rfl, hp, fun v H' ⟨G', r, o, ⟨fp, F, _⟩, rr, er⟩ => ?_⟩
  subst er
  have ev : v = .bl true := rr
  subst ev
  exact q H' fun c o hc => F.keep c o hc fun z => nomatch z
theorem je_eqC [R : Rec α (fun K => He.ga K x)] {CX : CXT} {A : Type} {args : A → List SD} {pre : A → Prop} {k : Nat} {ps : List Str} {Φ : Bool → En → Prop} (F : OkA X.prog X.w X.K X.mg X.base CX k (He.ma X.K (He.ga X.K x) "__eq__") ps (spP (R := Bool) X.K 2 args pre (fun _ r => r = true)))
    (hs : PySem.W.findIn X.K (.ref (He.ga X.K x)) "__eq__" = some (some (.ref (He.ma X.K (He.ga X.K x) "__eq__")))) (hf : PySem.W.isFn X.K (.ref (He.ma X.K (He.ga X.K x) "__eq__")) = true) (hr : Room k X.A) (hx : Passes CX X E0)
    (h : JE X B m a l fun (p : α) l1 => JE X B m b l1 fun (q : α) l2 => (∃ d : A, args d = [sd p, sd q] ∧ pre d) ∧ Φ true l2) : JE X B m (.Compare a [.Eq] [b] pos) l Φ :=
  let ⟨fd, F, hb⟩ := F.ex
  (pe_cmpR (op_eqG (rcG_ins (F.imp fun _ _ _ _ => spEq_of) hs hf hb hx) hr) h pe_any (nomark b)).imp fun σ H Q ⟨G, E, k⟩ => ⟨G, E, fun v G1 H1 p l1 e1 E1 r1 hb => hb.any E1 fun u G2 H2 q l2 e2 E2 r2 ⟨⟨d, ed, hp⟩, hφ⟩ => by
    obtain ⟨a1, dx1, vs1, rfl, p2, p3⟩ := R.is r1
    obtain ⟨a2, dx2, vs2, rfl, q2, q3⟩ := R.is r2
    exact ⟨⟨a1, a2, dx1, dx2, vs1, vs2, rfl, rfl, E2.ex _ _ (e2 _ _ p2), E2.ex _ _ q2, d, G2, E2.ex, by rw [ed]; exact ⟨pr_sd (Rp.mono e2 r1), pr_sd r2, trivial⟩, hp⟩, fun H' e => k _ G2 H' true l2 (e1.trans e2) (E2.grow e) rfl hφ⟩⟩
theorem je_neC [R : Rec α (fun K => He.ga K x)] {CX : CXT} {A : Type} {args : A → List SD} {pre : A → Prop} {k : Nat} {ps : List Str} {Φ : Bool → En → Prop} (F : OkA X.prog X.w X.K X.mg X.base CX k (He.ma X.K (He.ga X.K x) "__eq__") ps (spP (R := Bool) X.K 2 args pre (fun _ r => r = true)))
    (hmo : PySem.W.mroIn X.K (He.ga X.K x) (.type "object") = some true) (hne : PySem.W.findIn X.K (.ref (He.ga X.K x)) "__ne__" = some (some (.builtin "object.__ne__"))) (hs : PySem.W.findIn X.K (.ref (He.ga X.K x)) "__eq__" = some (some (.ref (He.ma X.K (He.ga X.K x) "__eq__")))) (hf : PySem.W.isFn X.K (.ref (He.ma X.K (He.ga X.K x) "__eq__")) = true) (hr : Room (k + 1) X.A) (hx : Passes CX X E0)
    (h : JE X B m a l fun (p : α) l1 => JE X B m b l1 fun (q : α) l2 => (∃ d : A, args d = [sd p, sd q] ∧ pre d) ∧ Φ false l2) : JE X B m (.Compare a [.NotEq] [b] pos) l Φ :=
  let ⟨fd, F, hb⟩ := F.ex
  (pe_cmpR (op_neG (ncG_ins (F.imp fun _ _ _ _ => spEq_of) hmo hne hs hf hb hx) hr) h pe_any (nomark b)).imp fun σ H Q ⟨G, E, k⟩ => ⟨G, E, fun v G1 H1 p l1 e1 E1 r1 hb => hb.any E1 fun u G2 H2 q l2 e2 E2 r2 ⟨⟨d, ed, hp⟩, hφ⟩ => by
    obtain ⟨a1, dx1, vs1, rfl, p2, p3⟩ := R.is r1
    obtain ⟨a2, dx2, vs2, rfl, q2, q3⟩ := R.is r2
    exact ⟨⟨a1, a2, dx1, dx2, vs1, vs2, rfl, rfl, E2.ex _ _ (e2 _ _ p2), E2.ex _ _ q2, d, G2, E2.ex, by rw [ed]; exact ⟨pr_sd (Rp.mono e2 r1), pr_sd r2, trivial⟩, hp⟩, fun H' e => k _ G2 H' false l2 (e1.trans e2) (E2.grow e) rfl hφ⟩⟩
/-- == of lists of whole numbers that are the same -/
theorem je_eqI {Φ : Bool → En → Prop} (hr : Room 1 X.A) (h : JE X B m a l fun (p : List Int) l1 => JE X B m b l1 fun (q : List Int) l2 => p = q ∧ Φ true l2) : JE X B m (.Compare a [.Eq] [b] pos) l Φ :=
  (pe_cmpR (op_eqG (rcG_list mon_flat eqG_flat) hr) h pe_any (nomark b)).imp fun σ H Q ⟨G, E, k⟩ => ⟨G, E, fun v G1 H1 p l1 e1 E1 r1 hb => hb.any E1 fun u G2 H2 q l2 e2 E2 r2 ⟨ep, hφ⟩ => by
    subst ep
    obtain ⟨a1, xs, rfl, h1, h2⟩ := r1
    obtain ⟨a2, ys, rfl, h3, h4⟩ := r2
    refine ⟨⟨a1, a2, xs, ys, rfl, rfl, E2.ex _ _ (e2 _ _ h1), E2.ex _ _ h3, by rw [h2.len, h4.len], fun i x y hx hy => ?_⟩, fun H' e => k _ G2 H' true l2 (e1.trans e2) (E2.grow e) rfl hφ⟩
    obtain ⟨c, c1, c2⟩ := h2.left hx
    obtain ⟨d, d1, d2⟩ := h4.left hy
    rw [c1] at d1
    cases d1
    cases c2
    cases d2
    exact ⟨rfl, rfl, by show (c == c) = true; simp⟩⟩
end
end Tyl
end
section
/-! facts of errors, of own == -/
namespace Tyl
open PySem PySem.Spec PyProof.Rows L2 NdefX
section
variable {fa : List (Fg → Bool)} {fn : List DefT} {K : Fg}
theorem SaysT.sup_ (c : SaysT fa fn K) (i : Nat) {d : DefT} {C : Fg → Addr} {file : Str} (h : fn[i]? = some d) (hs : d.sup = some (C, file)) (hd : d.dfl K = []) :
    ∃ cc cda fd, ∀ P : Program, P.main.file = file → (P.main.scope.names.lookup ("super" : Str)).isSome = false → SupF P K (C K) (d.at_ K) ⟨d.name, d.qual, d.params, d.body, d.scope, [(("__class__" : Str), cc)], cda⟩ fd := by
  obtain ⟨e, c2⟩ := c.see i h
  unfold DefT.see at e
  rw [hs, if_pos (show (some (C, file)).isSome = true from rfl)] at e
  obtain ⟨kp, c2⟩ := He.ba c2
  rw [hs, hd] at c2
  unfold fnV at e
  cases q : K.lookup (d.at_ K) with
  | none => rw [q] at c2; cases c2
  | some o =>
    obtain ⟨oc, od, dt, osl⟩ := o
    rw [q] at c2 e
    cases dt with
    | func fd =>
      obtain ⟨n1, n2, n3, n4, n5, n6, n7, n8, n9, n10, n11, n12, n13, n14, n15⟩ := fd
      have e2 : (some (n1, n2, n3, n4, n5, n6, [], n15) : FnV) = some (d.name, d.qual, d.params, .stmts d.body, d.scope, mainGlobals, [], builtinsNs) := e
      simp only [Option.some.injEq, Prod.mk.injEq] at e2
      obtain ⟨h1, h2, h3, h4, h5, h6, _, h8⟩ := e2
      subst h1 h2 h3 h4 h5 h6 h8
      obtain ⟨k1, k2⟩ := He.ba c2
      obtain ⟨k2, k3⟩ := He.ba k2
      have hdv : n8 = .none := by
        rcases He.dflB_ok k2 with ⟨_, z⟩ | ⟨z, _⟩
        · exact z
        · exact absurd rfl z
      unfold supB at k3
      dsimp only at k3
      split at k3
      · rename_i nn cc cda _
        obtain ⟨k3, k4⟩ := He.ba k3
        obtain ⟨k4, k5⟩ := He.ba k4
        have en := beq_iff_eq.mp k3
        subst en
        unfold cellB at k4
        unfold fileB at k5
        split at k4
        · rename_i a1 a2 C' a3 hc
          have ec := beq_iff_eq.mp k4
          subst ec
          split at k5
          · rename_i b1 b2 vs b3 hcd
            split at k5
            · rename_i f tk hv
              have ef := beq_iff_eq.mp k5
              subst ef
              refine ⟨cc, cda, _, fun P hP hS => ⟨⟨oc, od, n10, n11, n14, osl, rfl, ?_⟩, k1, ⟨_, _, vs, _, f, tk, hcd, hv, by rw [hP]; simp⟩, ⟨cc, rfl, _, _, _, hc⟩, kp, hS⟩⟩
              rw [q, hdv]
            · cases k5
          · cases k5
        · cases k4
      · cases k3
    | _ => cases c2
end
/-! ### the error's class -/
def oexB (K : Fg) (C : Addr) : Bool := match K.lookup C with
  | some ⟨.type "type", _, .cls cd, sl⟩ => (match cd.mro, sl.toList with
    | .ref C' :: bm, [_, _, _, _, some (.builtin n), _] => C' == C && (n == "ValueError.__new__" && (cd.hasDict && (!cd.hasDel && PySem.HandSPX.refsVE bm)))
    | _, _ => false)
  | _ => false
theorem oexB_ok {K : Fg} {C : Addr} (q : oexB K C = true) : ∃ nm qn N bs bm sn sub ab col dd k0 k1 k2 k3 k5, K.lookup C = some (excClassObj nm qn C N bs bm true sn sub ab col dd k0 k1 k2 k3 k5 "ValueError.__new__") ∧ PySem.HandSPX.refsVE bm = true := by
  unfold oexB at q
  split at q
  · rename_i dd cd sl ho
    split at q
    · rename_i C' bm k0 k1 k2 k3 n k5 hm hs
      simp only [Bool.and_eq_true, beq_iff_eq, Bool.not_eq_true'] at q
      obtain ⟨rfl, rfl, hdct, hdel, ht⟩ := q
      obtain ⟨nm, bs, mro, ns, qn, hd, sn, sub, ab, col, del⟩ := cd
      dsimp only at hm hdel hdct
      subst hm hdel hdct
      have hsl : sl = #[k0, k1, k2, k3, some (.builtin "ValueError.__new__"), k5] := by
        obtain ⟨l⟩ := sl
        simp only at hs
        rw [hs]
      subst hsl
      exact ⟨nm, qn, ns, bs, bm, sn, sub, ab, col, dd, k0, k1, k2, k3, k5, ho, ht⟩
    · cases q
  · cases q
def faErr (x : Str) : Fg → Bool := fun K => oexB K (He.ga K x) && (He.eqO (PySem.W.findIn K (.ref (He.ga K x)) "__setattr__") (some (some (.builtin "object.__setattr__"))) && (decide (PySem.W.subIn K (.ref (He.ga K x)) (.type "BaseException") = some true) && (decide (PySem.W.typeIn K (.ref (He.ga K x)) = some (.type "type")) && (PySem.W.keepIn K (.ref (He.ga K x)) &&
  (He.eqO (PySem.W.ks_superIn K (He.ga K x) (He.ga K x) "__init__") (some (some (.builtin "ValueError.__init__"))) && (decide (PySem.W.subIn K (.ref (He.ga K x)) (.type "ValueError") = some true) && (decide (PySem.W.mroIn K (He.ga K x) (.ref (He.ga K x)) = some true) && (He.eqO (PySem.W.nsIn K cStatics "thirdparty.any") (some none) &&
  (He.eqO (PySem.W.findIn K (.ref (He.ga K x)) "__init__") (some (some (.ref (He.ma K (He.ga K x) "__init__")))) && (decide (PySem.W.typeIn K (.ref (He.ma K (He.ga K x) "__init__")) = some (.type "function")) && (xfB K (He.ga K x) && (He.eqO (PySem.W.findIn K (.ref (He.ga K x)) "__class__") (some (some (.builtin "object.__class__"))) &&
  (He.eqO (PySem.W.specialIn K (.builtin "object.__class__") "__get__") (some (some (.builtin "getset_descriptor.__get__"))) && (decide (PySem.W.takesIn K (.builtin "object.__class__") = some true) && decide (PySem.W.mroIn K (He.ga K x) (.type "object") = some true)))))))))))))))
structure ErrT (K : Fg) (x : Str) : Prop where
  C : ErrC K (He.ga K x)
  iC : PySem.W.findIn K (.ref (He.ga K x)) "__init__" = some (some (.ref (He.ma K (He.ga K x) "__init__")))
  tI : PySem.W.typeIn K (.ref (He.ma K (He.ga K x) "__init__")) = some (.type "function")
  xf : XfC K (He.ga K x)
  is : ExcC K (He.ga K x)
theorem err_ok {K : Fg} {x : Str} (h : faErr x K = true) : ErrT K x := by
  obtain ⟨a1, h⟩ := He.ba h
  obtain ⟨a2, h⟩ := He.ba h
  obtain ⟨a3, h⟩ := He.ba h
  obtain ⟨a4, h⟩ := He.ba h
  obtain ⟨a5, h⟩ := He.ba h
  obtain ⟨a6, h⟩ := He.ba h
  obtain ⟨a7, h⟩ := He.ba h
  obtain ⟨a8, h⟩ := He.ba h
  obtain ⟨a9, h⟩ := He.ba h
  obtain ⟨b1, h⟩ := He.ba h
  obtain ⟨b2, h⟩ := He.ba h
  obtain ⟨b3, h⟩ := He.ba h
  obtain ⟨b4, h⟩ := He.ba h
  obtain ⟨b5, h⟩ := He.ba h
  obtain ⟨b6, b7⟩ := He.ba h
  have xf := xfB_ok b3
  exact ⟨⟨⟨oexB_ok a1, He.eqO_ok a2, of_decide_eq_true a3, of_decide_eq_true a4, a5⟩, He.eqO_ok a6, of_decide_eq_true a7, of_decide_eq_true a8, He.eqO_ok a9⟩, He.eqO_ok b1, of_decide_eq_true b2, xf, ⟨xf.ga, xf.gg, xf.exC, xf.hdC, He.eqO_ok b4, He.eqO_ok b5, of_decide_eq_true b6, of_decide_eq_true b7⟩⟩
def faKit (x y : Str) (b : Bool) : Fg → Bool := fun K => decide (PySem.W.kitOne K (.ref (He.ga K x)) (.ref (He.ga K y)) = some b)
def faExm (x y : Str) (b : Bool) : Fg → Bool := fun K => decide (PySem.W.exmOne K (.ref (He.ga K x)) (.ref (He.ga K y)) = some b)
def faEq (x : Str) : Fg → Bool := fun K => He.eqO (PySem.W.findIn K (.ref (He.ga K x)) "__eq__") (some (some (.ref (He.ma K (He.ga K x) "__eq__")))) && (PySem.W.isFn K (.ref (He.ma K (He.ga K x) "__eq__")) && (decide (PySem.W.mroIn K (He.ga K x) (.type "object") = some true) && He.eqO (PySem.W.findIn K (.ref (He.ga K x)) "__ne__") (some (some (.builtin "object.__ne__")))))
structure EqT (K : Fg) (x : Str) : Prop where
  hs : PySem.W.findIn K (.ref (He.ga K x)) "__eq__" = some (some (.ref (He.ma K (He.ga K x) "__eq__")))
  hf : PySem.W.isFn K (.ref (He.ma K (He.ga K x) "__eq__")) = true
  hm : PySem.W.mroIn K (He.ga K x) (.type "object") = some true
  hn : PySem.W.findIn K (.ref (He.ga K x)) "__ne__" = some (some (.builtin "object.__ne__"))
theorem eq_ok {K : Fg} {x : Str} (h : faEq x K = true) : EqT K x := by
  obtain ⟨a1, h⟩ := He.ba h
  obtain ⟨a2, h⟩ := He.ba h
  obtain ⟨a3, a4⟩ := He.ba h
  exact ⟨He.eqO_ok a1, a2, of_decide_eq_true a3, He.eqO_ok a4⟩
/-! ### one field, a message with one number -/
theorem err_len {i : Int} (h : i.natAbs.log2 < 1920) : (toString i : Str).length ≤ 100000 := by
  have e := int_text_length_le (k := 1920) (by decide) h
  show (Str.ofString (toString i)).length ≤ _
  rw [PySem.ofString_length]
  omega
section
variable {X : Cx} {ow : List Nat} {B : Base ow} {m : Mi} {l : En} {α : Type} [Rp α]
theorem rws_rep (n : Nat) (L : List α) : List.replicate n (sds L) = rws (List.replicate n L) := by unfold rws; rw [List.map_replicate]
theorem js_tabL {elt a tg : Expr} {scope : Scope} {nm : List (Str × Nat)} {pos spos py p1 p2 : Pos} {y : Str} {i : Nat} {R : En → Int → En → Prop} {rest : List Stmt} {D : Ends} (hm : X.mg "range" = none) (hc : X.calm = true) (hN : X.N.Nodup) (ok : BlkOk X.N X.env.scope scope nm) (hw : ∀ v ∈ nm.map (·.2), v ∉ ow)
    (hT : ∀ it acc env, TurnIs (.ListComp elt [⟨tg, .Call (.Name "range" p1) [a] [] p2, [], 0⟩] scope pos) 0 it acc env (.Call (.Name "range" p1) [a] [] p2) tg [] (LastW elt acc env))
    (hg : ∀ m s H C cl fp, PG (Bk X scope s H C cl fp) tg (gTw X.K B m R (nm.map (·.2))))
    (h : JE X B m a l fun (n : Int) l1 => ∃ L : List α, (0 ≤ n ∧ n < 100000) ∧ Nn l1 (nm.map (·.2)) ∧ (∀ i : Nat, (i : Int) < n → ∃ l2, R l1 (i : Int) l2 ∧ ∀ s H C cl fp m', JN (Bk X scope s H C cl fp) B m' elt l2 fun ss l3 => ss = sds L ∧ Wk l3 l1) ∧
      ∀ p ps, ps.length = n.toNat → ∃ l2, Put l1 i (some (tab p ps (rws (List.replicate n.toNat L)))) l2 ∧ JSs X B m rest l2 D)
    (hsw : swapsWith (.ListComp elt [⟨tg, .Call (.Name "range" p1) [a] [] p2, [], 0⟩] scope pos) (some (.Name y py)) spos.line X.env = pure true) (hgl : Gl X "range" := by rfl) (hse : starEach (a :: []) X.env = (false, eval a X.env) :: starEach [] X.env := by rfl) (hs2 : starEach [a] X.env = [(false, eval a X.env)] := by rfl)
    (hy : X.N[i]? = some y := by rfl) (hyl : X.env.scope.names.lookup y = some .local := by rfl) (hs : ∀ x, foldedSetIterable (.Call (.Name "range" p1) [a] [] p2) X.env x = pure x := by intro _; rfl) (hi : i ∉ ow := by decide) :
    JSs X B m (.Assign [.Name y py] (.ListComp elt [⟨tg, .Call (.Name "range" p1) [a] [] p2, [], 0⟩] scope pos) spos :: rest) l D :=
  js_tab hm hc hN ok hw hT hg (h.weak fun n l1 ⟨L, z, nn, t, d⟩ => ⟨sds L, z, nn, t, fun p ps e => by rw [rws_rep]; exact d p ps e⟩) hsw hgl hse hs2 hy hyl hs hi
theorem row_get {rows : List (List α)} {x : Nat} (h : x < rows.length) : rows[x]? = some ((rows[x]?).getD []) := by rw [List.getElem?_eq_getElem h]; rfl
theorem xok0 : XOk X B fun _ _ => False := fun u s' ⟨_, _, _, _, _, _, _, _, _, _, _, _, _, _, _, _, _, _, _, _, _, w⟩ => w.elim
theorem ok1 {i : Int} (h : i.natAbs.log2 < 1920) : ∀ K G vs, All2 (PR K G) vs [sd i] → ∃ j : Int, vs = [V.int j] ∧ j.natAbs.log2 < 1920
  | K, G, [v], hv => ⟨i, by have : v = .int i := hv.1.rp; rw [this], h⟩
end
/-! ### the head's run, part by part -/
theorem obsT_app {fa1 fa2 : List (Fg → Bool)} {fn1 fn2 : List DefT} {K : Fg} (h1 : obsT fa1 fn1 K = valT fn1) (h2 : obsT fa2 fn2 K = valT fn2) : obsT (fa1 ++ fa2) (fn1 ++ fn2) K = valT (fn1 ++ fn2) := by
  unfold obsT valT at *
  obtain ⟨a1, b1⟩ := Prod.mk.inj h1
  obtain ⟨a2, b2⟩ := Prod.mk.inj h2
  rw [Bool.and_eq_true] at a1 a2
  rw [List.all_append, List.all_append, List.map_append, List.map_append, a1.1, a1.2, a2.1, a2.2, b1, b2]
  rfl
theorem run_join {r : PySem.W.OpenRow} {q : Program} {M n : Nat} {loose : List Str} {w : World} {fa1 fa2 : List (Fg → Bool)} {fn1 fn2 : List DefT} (h1 : HandSHeadRun.RunEq r q (hookT n fa1 fn1) (fun s => obsTG n fa1 fn1 (HandSHeadRun.getT s)) M loose w) (h2 : HandSHeadRun.RunEq r q (hookT n fa2 fn2) (fun s => obsTG n fa2 fn2 (HandSHeadRun.getT s)) M loose w) :
    HandSHeadRun.RunEq r q (hookT n (fa1 ++ fa2) (fn1 ++ fn2)) (fun s => obsTG n (fa1 ++ fa2) (fn1 ++ fn2) (HandSHeadRun.getT s)) M loose w := by
  intro os
  have e1 := h1 os
  have e2 := h2 os
  revert e1 e2
  generalize HandSHeadRun.endF _ M r.prog w os = X
  intro e1 e2
  cases X with
  | none => cases e1
  | some s =>
    rw [Option.map_some] at e1 e2 ⊢
    have q1 := Prod.mk.inj (Option.some.inj e1)
    have q2 := Prod.mk.inj (Option.some.inj e2)
    have p1 := Prod.mk.inj q1.2
    have p2 := Prod.mk.inj q2.2
    refine congrArg some (Prod.ext q1.1 (Prod.ext p1.1 ?_))
    exact obsT_app p1.2 p2.2
end Tyl
end
section
namespace Lw
open PySem PySem.Spec PyProof.Rows L2 Tyl ClX
/-! ### the text by places, what the top leaves -/
def top (i : Nat) : Stmt := PySem.Challenge.pw_doorplans_k79_joins_are_put_in.main.body.getD i (.Pass ⟨0, 0, 0, 0⟩)
def d_BadCount_init : DefT := ⟨fun K => He.ma K (He.ga K "BadCount") "__init__", "__init__", "BadCount.__init__", defArgs (mth (top 3) 0), defBody (mth (top 3) 0), defScope (mth (top 3) 0), fun _ => [], some (fun K => He.ga K "BadCount", "/claim/cut.py")⟩
def d_NoWork_init : DefT := ⟨fun K => He.ma K (He.ga K "NoWork") "__init__", "__init__", "NoWork.__init__", defArgs (mth (top 4) 0), defBody (mth (top 4) 0), defScope (mth (top 4) 0), fun _ => [], some (fun K => He.ga K "NoWork", "/claim/cut.py")⟩
def d_Loop_init : DefT := ⟨fun K => He.ma K (He.ga K "Loop") "__init__", "__init__", "Loop.__init__", defArgs (mth (top 5) 0), defBody (mth (top 5) 0), defScope (mth (top 5) 0), fun _ => [], some (fun K => He.ga K "Loop", "/claim/cut.py")⟩
def d_need_size : DefT := ⟨fun K => He.ga K "need_size", "need_size", "need_size", defArgs (top 8), defBody (top 8), defScope (top 8), fun _ => [], none⟩
def d_need_work : DefT := ⟨fun K => He.ga K "need_work", "need_work", "need_work", defArgs (top 9), defBody (top 9), defScope (top 9), fun _ => [], none⟩
def d_need_pairs : DefT := ⟨fun K => He.ga K "need_pairs", "need_pairs", "need_pairs", defArgs (top 10), defBody (top 10), defScope (top 10), fun _ => [], none⟩
def d_has_bit : DefT := ⟨fun K => He.ga K "has_bit", "has_bit", "has_bit", defArgs (top 11), defBody (top 11), defScope (top 11), fun _ => [], none⟩
def d_closed_masks : DefT := ⟨fun K => He.ga K "closed_masks", "closed_masks", "closed_masks", defArgs (top 12), defBody (top 12), defScope (top 12), fun _ => [], none⟩
def d_need_no_loop : DefT := ⟨fun K => He.ga K "need_no_loop", "need_no_loop", "need_no_loop", defArgs (top 13), defBody (top 13), defScope (top 13), fun _ => [], none⟩
def d_next_masks : DefT := ⟨fun K => He.ga K "next_masks", "next_masks", "next_masks", defArgs (top 14), defBody (top 14), defScope (top 14), fun _ => [], none⟩
def d_rows_out : DefT := ⟨fun K => He.ga K "rows_out", "rows_out", "rows_out", defArgs (top 15), defBody (top 15), defScope (top 15), fun _ => [], none⟩
def d_rows_in : DefT := ⟨fun K => He.ga K "rows_in", "rows_in", "rows_in", defArgs (top 16), defBody (top 16), defScope (top 16), fun _ => [], none⟩
def d_pairs_of : DefT := ⟨fun K => He.ga K "pairs_of", "pairs_of", "pairs_of", defArgs (top 17), defBody (top 17), defScope (top 17), fun _ => [], none⟩
def d_Plan_init : DefT := ⟨fun K => He.ma K (He.ga K "Plan") "__init__", "__init__", "Plan.__init__", defArgs (mth (top 18) 0), defBody (mth (top 18) 0), defScope (mth (top 18) 0), fun K => [.ref (He.dflAt ("Plan", some "__init__") 0 K)], none⟩
def d_Plan_chain : DefT := ⟨fun K => cmG K "Plan" "chain", "chain", "Plan.chain", defArgs (mth (top 18) 1), defBody (mth (top 18) 1), defScope (mth (top 18) 1), fun _ => [], none⟩
def d_Plan_free : DefT := ⟨fun K => cmG K "Plan" "free", "free", "Plan.free", defArgs (mth (top 18) 2), defBody (mth (top 18) 2), defScope (mth (top 18) 2), fun _ => [], none⟩
def d_Plan_size : DefT := ⟨fun K => prG K "Plan" "size", "size", "Plan.size", defArgs (mth (top 18) 3), defBody (mth (top 18) 3), defScope (mth (top 18) 3), fun _ => [], none⟩
def d_Plan_before : DefT := ⟨fun K => He.ma K (He.ga K "Plan") "before", "before", "Plan.before", defArgs (mth (top 18) 4), defBody (mth (top 18) 4), defScope (mth (top 18) 4), fun _ => [], none⟩
def d_Plan_related : DefT := ⟨fun K => He.ma K (He.ga K "Plan") "related", "related", "Plan.related", defArgs (mth (top 18) 13), defBody (mth (top 18) 13), defScope (mth (top 18) 13), fun _ => [], none⟩
def d_Plan_eq : DefT := ⟨fun K => He.ma K (He.ga K "Plan") "__eq__", "__eq__", "Plan.__eq__", defArgs (mth (top 18) 14), defBody (mth (top 18) 14), defScope (mth (top 18) 14), fun _ => [], none⟩
def d_Plan_contains : DefT := ⟨fun K => He.ma K (He.ga K "Plan") "__contains__", "__contains__", "Plan.__contains__", defArgs (mth (top 18) 15), defBody (mth (top 18) 15), defScope (mth (top 18) 15), fun _ => [], none⟩
def d_Plan_iter : DefT := ⟨fun K => He.ma K (He.ga K "Plan") "__iter__", "__iter__", "Plan.__iter__", defArgs (mth (top 18) 16), defBody (mth (top 18) 16), defScope (mth (top 18) 16), fun _ => [], none⟩
def d_check_work : DefT := ⟨fun K => He.ga K "check_work", "check_work", "check_work", defArgs (top 21), defBody (top 21), defScope (top 21), fun _ => [], none⟩
def d_check_sum : DefT := ⟨fun K => He.ga K "check_sum", "check_sum", "check_sum", defArgs (top 22), defBody (top 22), defScope (top 22), fun _ => [], none⟩
def d_moved : DefT := ⟨fun K => He.ga K "moved", "moved", "moved", defArgs (top 23), defBody (top 23), defScope (top 23), fun _ => [], none⟩
def d_side_by_side : DefT := ⟨fun K => He.ga K "side_by_side", "side_by_side", "side_by_side", defArgs (top 24), defBody (top 24), defScope (top 24), fun _ => [], none⟩
def d_in_turn : DefT := ⟨fun K => He.ga K "in_turn", "in_turn", "in_turn", defArgs (top 25), defBody (top 25), defScope (top 25), fun _ => [], none⟩
def d_new_numbers : DefT := ⟨fun K => He.ga K "new_numbers", "new_numbers", "new_numbers", defArgs (top 26), defBody (top 26), defScope (top 26), fun _ => [], none⟩
def d_put_in : DefT := ⟨fun K => He.ga K "put_in", "put_in", "put_in", defArgs (top 27), defBody (top 27), defScope (top 27), fun _ => [], none⟩
def d_law_mix : DefT := ⟨fun K => He.ga K "_law_mix", "_law_mix", "_law_mix", defArgs (top 29), defBody (top 29), defScope (top 29), fun _ => [], none⟩
def d_law_store : DefT := ⟨fun K => He.ga K "_law_store", "_law_store", "_law_store", defArgs (top 30), defBody (top 30), defScope (top 30), fun _ => [], none⟩
def d_law_take : DefT := ⟨fun K => He.ga K "_law_take", "_law_take", "_law_take", defArgs (top 31), defBody (top 31), defScope (top 31), fun _ => [], none⟩
def d_law_range : DefT := ⟨fun K => He.ga K "_law_range", "_law_range", "_law_range", defArgs (top 32), defBody (top 32), defScope (top 32), fun _ => [], none⟩
def d_law_chance : DefT := ⟨fun K => He.ga K "_law_chance", "_law_chance", "_law_chance", defArgs (top 33), defBody (top 33), defScope (top 33), fun _ => [], none⟩
def d_law_pick : DefT := ⟨fun K => He.ga K "_law_pick", "_law_pick", "_law_pick", defArgs (top 34), defBody (top 34), defScope (top 34), fun _ => [], none⟩
def d_law_near : DefT := ⟨fun K => He.ga K "_law_near", "_law_near", "_law_near", defArgs (top 35), defBody (top 35), defScope (top 35), fun _ => [], none⟩
def d_law_large : DefT := ⟨fun K => He.ga K "_law_large", "_law_large", "_law_large", defArgs (top 36), defBody (top 36), defScope (top 36), fun _ => [], none⟩
def d_law_mixed : DefT := ⟨fun K => He.ga K "_law_mixed", "_law_mixed", "_law_mixed", defArgs (top 37), defBody (top 37), defScope (top 37), fun _ => [], none⟩
def d_law_outside : DefT := ⟨fun K => He.ga K "_law_outside", "_law_outside", "_law_outside", defArgs (top 38), defBody (top 38), defScope (top 38), fun _ => [], none⟩
def d_law_close : DefT := ⟨fun K => He.ga K "_law_close", "_law_close", "_law_close", defArgs (top 39), defBody (top 39), defScope (top 39), fun _ => [], none⟩
def d_law_related : DefT := ⟨fun K => He.ga K "_law_related", "_law_related", "_law_related", defArgs (top 40), defBody (top 40), defScope (top 40), fun _ => [], none⟩
def d_law_renumber : DefT := ⟨fun K => He.ga K "_law_renumber", "_law_renumber", "_law_renumber", defArgs (top 41), defBody (top 41), defScope (top 41), fun _ => [], none⟩
def d_law_size : DefT := ⟨fun K => He.ga K "_law_size", "_law_size", "_law_size", defArgs (top 42), defBody (top 42), defScope (top 42), fun _ => [], none⟩
def d_law_wild_pairs : DefT := ⟨fun K => He.ga K "_law_wild_pairs", "_law_wild_pairs", "_law_wild_pairs", defArgs (top 43), defBody (top 43), defScope (top 43), fun _ => [], none⟩
def d_law_recipe : DefT := ⟨fun K => He.ga K "_law_recipe", "_law_recipe", "_law_recipe", defArgs (top 44), defBody (top 44), defScope (top 44), fun _ => [], none⟩
def d_law_puts : DefT := ⟨fun K => He.ga K "_law_puts", "_law_puts", "_law_puts", defArgs (top 45), defBody (top 45), defScope (top 45), fun _ => [], none⟩
def d_law_net : DefT := ⟨fun K => He.ga K "_law_net", "_law_net", "_law_net", defArgs (top 46), defBody (top 46), defScope (top 46), fun _ => [], none⟩
def d_law_net_covers : DefT := ⟨fun K => He.ga K "_law_net_covers", "_law_net_covers", "_law_net_covers", defArgs (top 47), defBody (top 47), defScope (top 47), fun _ => [], none⟩
def d_law_line_plan : DefT := ⟨fun K => He.ga K "_law_line_plan", "_law_line_plan", "_law_line_plan", defArgs (top 48), defBody (top 48), defScope (top 48), fun _ => [], none⟩
def d_law_sample : DefT := ⟨fun K => He.ga K "_law_sample", "_law_sample", "_law_sample", defArgs (top 49), defBody (top 49), defScope (top 49), fun _ => [], none⟩
def d_law_put_pairs : DefT := ⟨fun K => He.ga K "_law_put_pairs", "_law_put_pairs", "_law_put_pairs", defArgs (top 50), defBody (top 50), defScope (top 50), fun _ => [], none⟩
def d_law_joined_pairs : DefT := ⟨fun K => He.ga K "_law_joined_pairs", "_law_joined_pairs", "_law_joined_pairs", defArgs (top 51), defBody (top 51), defScope (top 51), fun _ => [], none⟩
def d_law_four_plan : DefT := ⟨fun K => He.ga K "_law_four_plan", "_law_four_plan", "_law_four_plan", defArgs (top 52), defBody (top 52), defScope (top 52), fun _ => [], none⟩
def d_law_plan : DefT := ⟨fun K => He.ga K "_law_plan", "_law_plan", "_law_plan", defArgs (top 53), defBody (top 53), defScope (top 53), fun _ => [], none⟩
def d_law_same : DefT := ⟨fun K => He.ga K "_law_same", "_law_same", "_law_same", defArgs (top 54), defBody (top 54), defScope (top 54), fun _ => [], none⟩
def d_law_is_plan : DefT := ⟨fun K => He.ga K "_law_is_plan", "_law_is_plan", "_law_is_plan", defArgs (top 55), defBody (top 55), defScope (top 55), fun _ => [], none⟩
def d_law_tried : DefT := ⟨fun K => He.ga K "_law_tried", "_law_tried", "_law_tried", defArgs (top 56), defBody (top 56), defScope (top 56), fun _ => [], none⟩
def d_law_due : DefT := ⟨fun K => He.ga K "_law_due", "_law_due", "_law_due", defArgs (top 57), defBody (top 57), defScope (top 57), fun _ => [], none⟩
def d_law_asked : DefT := ⟨fun K => He.ga K "_law_asked", "_law_asked", "_law_asked", defArgs (top 58), defBody (top 58), defScope (top 58), fun _ => [], none⟩
def d_law_by_puts : DefT := ⟨fun K => He.ga K "_law_by_puts", "_law_by_puts", "_law_by_puts", defArgs (top 59), defBody (top 59), defScope (top 59), fun _ => [], none⟩
def d_law : DefT := ⟨fun K => He.ga K "law", "law", "law", defArgs (top 60), defBody (top 60), defScope (top 60), fun _ => [], none⟩
def fn : List DefT := [d_BadCount_init, d_NoWork_init, d_Loop_init, d_need_size, d_need_work, d_need_pairs, d_has_bit, d_closed_masks, d_need_no_loop, d_next_masks, d_rows_out, d_rows_in, d_pairs_of, d_Plan_init, d_Plan_chain, d_Plan_free, d_Plan_size, d_Plan_before, d_Plan_related, d_Plan_eq, d_Plan_contains, d_Plan_iter, d_check_work, d_check_sum, d_moved, d_side_by_side, d_in_turn, d_new_numbers, d_put_in, d_law_mix, d_law_store, d_law_take, d_law_range, d_law_chance, d_law_pick, d_law_near, d_law_large, d_law_mixed, d_law_outside, d_law_close, d_law_related, d_law_renumber, d_law_size, d_law_wild_pairs, d_law_recipe, d_law_puts, d_law_net, d_law_net_covers, d_law_line_plan, d_law_sample, d_law_put_pairs, d_law_joined_pairs, d_law_four_plan, d_law_plan, d_law_same, d_law_is_plan, d_law_tried, d_law_due, d_law_asked, d_law_by_puts, d_law]
def fa : List (Fg → Bool) := [faGlo "DoorsError", faGlo "BadCount", faErr "BadCount", faNoat "BadCount" "count", faKit "BadCount" "DoorsError" true, faExm "BadCount" "DoorsError" true, faKit "BadCount" "BadCount" true, faExm "BadCount" "BadCount" true, faKit "BadCount" "NoWork" false, faExm "BadCount" "NoWork" false, faKit "BadCount" "Loop" false, faExm "BadCount" "Loop" false, faGlo "NoWork", faErr "NoWork", faNoat "NoWork" "work", faKit "NoWork" "DoorsError" true, faExm "NoWork" "DoorsError" true, faKit "NoWork" "BadCount" false, faExm "NoWork" "BadCount" false, faKit "NoWork" "NoWork" true, faExm "NoWork" "NoWork" true, faKit "NoWork" "Loop" false, faExm "NoWork" "Loop" false, faGlo "Loop", faErr "Loop", faNoat "Loop" "at", faKit "Loop" "DoorsError" true, faExm "Loop" "DoorsError" true, faKit "Loop" "BadCount" false, faExm "Loop" "BadCount" false, faKit "Loop" "NoWork" false, faExm "Loop" "NoWork" false, faKit "Loop" "Loop" true, faExm "Loop" "Loop" true, faInt "MOST_WORKS_plan" 20, faGlo "need_size", faGlo "need_work", faGlo "need_pairs", faGlo "has_bit", faGlo "closed_masks", faGlo "need_no_loop", faGlo "next_masks", faGlo "rows_out", faGlo "rows_in", faGlo "pairs_of", faGlo "Plan", faCls "Plan", faMkr "Plan", faInst "Plan", faNoat "Plan" "work_count", faNoat "Plan" "after_masks", faNoat "Plan" "after_rows", faNoat "Plan" "before_rows", faNoat "Plan" "next_rows", faNoat "Plan" "prev_rows", faNoat "Plan" "pair_row", faNoat "Plan" "cover_row", faEmp "Plan" "__init__" 0, faCm "Plan" "chain", faCm "Plan" "free", faProp "Plan" "size", faMeth "Plan" "before", faMeth "Plan" "related", faEq "Plan", faMeth "Plan" "__eq__", faMeth "Plan" "__contains__", faMeth "Plan" "__iter__", faInt "MOST_WORKS_joins" 20, faGlo "check_work", faGlo "check_sum", faGlo "moved", faGlo "side_by_side", faGlo "in_turn", faGlo "new_numbers", faGlo "put_in", faGlo "_law_mix", faGlo "_law_store", faGlo "_law_take", faGlo "_law_range", faGlo "_law_chance", faGlo "_law_pick", faGlo "_law_near", faGlo "_law_large", faGlo "_law_mixed", faGlo "_law_outside", faGlo "_law_close", faGlo "_law_related", faGlo "_law_renumber", faGlo "_law_size", faGlo "_law_wild_pairs", faGlo "_law_recipe", faGlo "_law_puts", faGlo "_law_net", faGlo "_law_net_covers", faGlo "_law_line_plan", faGlo "_law_sample", faGlo "_law_put_pairs", faGlo "_law_joined_pairs", faGlo "_law_four_plan", faGlo "_law_plan", faGlo "_law_same", faGlo "_law_is_plan", faGlo "_law_tried", faGlo "_law_due", faGlo "_law_asked", faGlo "_law_by_puts", faGlo "law", faFree "all", faFree "bool", faFree "int", faFree "isinstance", faFree "iter", faFree "len", faFree "list", faFree "max", faFree "min", faFree "range", faFree "str", faFree "super", faFree "tuple"]
/-- what is known of the written part -/
structure Fx (K : Fg) (mg : Str → Option Value) : Prop where
  c : SaysT fa fn K
  ex : ∃ h : Heap, K.In h ∧ h.Ns mainGlobals mg
section
variable {K : Fg} {mg : Str → Option Value}
theorem Fx.glo (x : Fx K mg) {n : Str} (h : faGlo n K = true) : mg n = some (.ref (He.ga K n)) := let ⟨_, a, b⟩ := x.ex; He.glo_ok a b h
theorem Fx.free (x : Fx K mg) {n : Str} (h : faFree n K = true) : mg n = none := let ⟨_, a, b⟩ := x.ex; He.free_ok a b h
theorem Fx.int (x : Fx K mg) {n : Str} {i : Int} (h : faInt n i K = true) : ∃ t, mg n = some (.int i t) := let ⟨_, a, b⟩ := x.ex; He.int_ok a b h
theorem Fx.g_DoorsError (x : Fx K mg) : mg "DoorsError" = some (.ref (He.ga K "DoorsError")) := x.glo (x.c.fact 0 rfl)
theorem Fx.g_BadCount (x : Fx K mg) : mg "BadCount" = some (.ref (He.ga K "BadCount")) := x.glo (x.c.fact 1 rfl)
theorem Fx.er_BadCount (x : Fx K mg) : ErrT K "BadCount" := err_ok (x.c.fact 2 rfl)
theorem Fx.n_BadCount_count (x : Fx K mg) : NoAttr K (He.ga K "BadCount") "count" := He.noat_ok (x.c.fact 3 rfl)
theorem Fx.k_BadCount_DoorsError (x : Fx K mg) : PySem.W.kitOne K (.ref (He.ga K "BadCount")) (.ref (He.ga K "DoorsError")) = some true := of_decide_eq_true (x.c.fact (f := faKit "BadCount" "DoorsError" true) 4 rfl)
theorem Fx.x_BadCount_DoorsError (x : Fx K mg) : PySem.W.exmOne K (.ref (He.ga K "BadCount")) (.ref (He.ga K "DoorsError")) = some true := of_decide_eq_true (x.c.fact (f := faExm "BadCount" "DoorsError" true) 5 rfl)
theorem Fx.k_BadCount_BadCount (x : Fx K mg) : PySem.W.kitOne K (.ref (He.ga K "BadCount")) (.ref (He.ga K "BadCount")) = some true := of_decide_eq_true (x.c.fact (f := faKit "BadCount" "BadCount" true) 6 rfl)
theorem Fx.x_BadCount_BadCount (x : Fx K mg) : PySem.W.exmOne K (.ref (He.ga K "BadCount")) (.ref (He.ga K "BadCount")) = some true := of_decide_eq_true (x.c.fact (f := faExm "BadCount" "BadCount" true) 7 rfl)
theorem Fx.k_BadCount_NoWork (x : Fx K mg) : PySem.W.kitOne K (.ref (He.ga K "BadCount")) (.ref (He.ga K "NoWork")) = some false := of_decide_eq_true (x.c.fact (f := faKit "BadCount" "NoWork" false) 8 rfl)
theorem Fx.x_BadCount_NoWork (x : Fx K mg) : PySem.W.exmOne K (.ref (He.ga K "BadCount")) (.ref (He.ga K "NoWork")) = some false := of_decide_eq_true (x.c.fact (f := faExm "BadCount" "NoWork" false) 9 rfl)
theorem Fx.k_BadCount_Loop (x : Fx K mg) : PySem.W.kitOne K (.ref (He.ga K "BadCount")) (.ref (He.ga K "Loop")) = some false := of_decide_eq_true (x.c.fact (f := faKit "BadCount" "Loop" false) 10 rfl)
theorem Fx.x_BadCount_Loop (x : Fx K mg) : PySem.W.exmOne K (.ref (He.ga K "BadCount")) (.ref (He.ga K "Loop")) = some false := of_decide_eq_true (x.c.fact (f := faExm "BadCount" "Loop" false) 11 rfl)
theorem Fx.g_NoWork (x : Fx K mg) : mg "NoWork" = some (.ref (He.ga K "NoWork")) := x.glo (x.c.fact 12 rfl)
theorem Fx.er_NoWork (x : Fx K mg) : ErrT K "NoWork" := err_ok (x.c.fact 13 rfl)
theorem Fx.n_NoWork_work (x : Fx K mg) : NoAttr K (He.ga K "NoWork") "work" := He.noat_ok (x.c.fact 14 rfl)
theorem Fx.k_NoWork_DoorsError (x : Fx K mg) : PySem.W.kitOne K (.ref (He.ga K "NoWork")) (.ref (He.ga K "DoorsError")) = some true := of_decide_eq_true (x.c.fact (f := faKit "NoWork" "DoorsError" true) 15 rfl)
theorem Fx.x_NoWork_DoorsError (x : Fx K mg) : PySem.W.exmOne K (.ref (He.ga K "NoWork")) (.ref (He.ga K "DoorsError")) = some true := of_decide_eq_true (x.c.fact (f := faExm "NoWork" "DoorsError" true) 16 rfl)
theorem Fx.k_NoWork_BadCount (x : Fx K mg) : PySem.W.kitOne K (.ref (He.ga K "NoWork")) (.ref (He.ga K "BadCount")) = some false := of_decide_eq_true (x.c.fact (f := faKit "NoWork" "BadCount" false) 17 rfl)
theorem Fx.x_NoWork_BadCount (x : Fx K mg) : PySem.W.exmOne K (.ref (He.ga K "NoWork")) (.ref (He.ga K "BadCount")) = some false := of_decide_eq_true (x.c.fact (f := faExm "NoWork" "BadCount" false) 18 rfl)
theorem Fx.k_NoWork_NoWork (x : Fx K mg) : PySem.W.kitOne K (.ref (He.ga K "NoWork")) (.ref (He.ga K "NoWork")) = some true := of_decide_eq_true (x.c.fact (f := faKit "NoWork" "NoWork" true) 19 rfl)
theorem Fx.x_NoWork_NoWork (x : Fx K mg) : PySem.W.exmOne K (.ref (He.ga K "NoWork")) (.ref (He.ga K "NoWork")) = some true := of_decide_eq_true (x.c.fact (f := faExm "NoWork" "NoWork" true) 20 rfl)
theorem Fx.k_NoWork_Loop (x : Fx K mg) : PySem.W.kitOne K (.ref (He.ga K "NoWork")) (.ref (He.ga K "Loop")) = some false := of_decide_eq_true (x.c.fact (f := faKit "NoWork" "Loop" false) 21 rfl)
theorem Fx.x_NoWork_Loop (x : Fx K mg) : PySem.W.exmOne K (.ref (He.ga K "NoWork")) (.ref (He.ga K "Loop")) = some false := of_decide_eq_true (x.c.fact (f := faExm "NoWork" "Loop" false) 22 rfl)
theorem Fx.g_Loop (x : Fx K mg) : mg "Loop" = some (.ref (He.ga K "Loop")) := x.glo (x.c.fact 23 rfl)
theorem Fx.er_Loop (x : Fx K mg) : ErrT K "Loop" := err_ok (x.c.fact 24 rfl)
theorem Fx.n_Loop_at (x : Fx K mg) : NoAttr K (He.ga K "Loop") "at" := He.noat_ok (x.c.fact 25 rfl)
theorem Fx.k_Loop_DoorsError (x : Fx K mg) : PySem.W.kitOne K (.ref (He.ga K "Loop")) (.ref (He.ga K "DoorsError")) = some true := of_decide_eq_true (x.c.fact (f := faKit "Loop" "DoorsError" true) 26 rfl)
theorem Fx.x_Loop_DoorsError (x : Fx K mg) : PySem.W.exmOne K (.ref (He.ga K "Loop")) (.ref (He.ga K "DoorsError")) = some true := of_decide_eq_true (x.c.fact (f := faExm "Loop" "DoorsError" true) 27 rfl)
theorem Fx.k_Loop_BadCount (x : Fx K mg) : PySem.W.kitOne K (.ref (He.ga K "Loop")) (.ref (He.ga K "BadCount")) = some false := of_decide_eq_true (x.c.fact (f := faKit "Loop" "BadCount" false) 28 rfl)
theorem Fx.x_Loop_BadCount (x : Fx K mg) : PySem.W.exmOne K (.ref (He.ga K "Loop")) (.ref (He.ga K "BadCount")) = some false := of_decide_eq_true (x.c.fact (f := faExm "Loop" "BadCount" false) 29 rfl)
theorem Fx.k_Loop_NoWork (x : Fx K mg) : PySem.W.kitOne K (.ref (He.ga K "Loop")) (.ref (He.ga K "NoWork")) = some false := of_decide_eq_true (x.c.fact (f := faKit "Loop" "NoWork" false) 30 rfl)
theorem Fx.x_Loop_NoWork (x : Fx K mg) : PySem.W.exmOne K (.ref (He.ga K "Loop")) (.ref (He.ga K "NoWork")) = some false := of_decide_eq_true (x.c.fact (f := faExm "Loop" "NoWork" false) 31 rfl)
theorem Fx.k_Loop_Loop (x : Fx K mg) : PySem.W.kitOne K (.ref (He.ga K "Loop")) (.ref (He.ga K "Loop")) = some true := of_decide_eq_true (x.c.fact (f := faKit "Loop" "Loop" true) 32 rfl)
theorem Fx.x_Loop_Loop (x : Fx K mg) : PySem.W.exmOne K (.ref (He.ga K "Loop")) (.ref (He.ga K "Loop")) = some true := of_decide_eq_true (x.c.fact (f := faExm "Loop" "Loop" true) 33 rfl)
theorem Fx.i_MOST_WORKS_plan (x : Fx K mg) : ∃ t, mg "MOST_WORKS_plan" = some (.int 20 t) := x.int (x.c.fact 34 rfl)
theorem Fx.g_need_size (x : Fx K mg) : mg "need_size" = some (.ref (He.ga K "need_size")) := x.glo (x.c.fact 35 rfl)
theorem Fx.g_need_work (x : Fx K mg) : mg "need_work" = some (.ref (He.ga K "need_work")) := x.glo (x.c.fact 36 rfl)
theorem Fx.g_need_pairs (x : Fx K mg) : mg "need_pairs" = some (.ref (He.ga K "need_pairs")) := x.glo (x.c.fact 37 rfl)
theorem Fx.g_has_bit (x : Fx K mg) : mg "has_bit" = some (.ref (He.ga K "has_bit")) := x.glo (x.c.fact 38 rfl)
theorem Fx.g_closed_masks (x : Fx K mg) : mg "closed_masks" = some (.ref (He.ga K "closed_masks")) := x.glo (x.c.fact 39 rfl)
theorem Fx.g_need_no_loop (x : Fx K mg) : mg "need_no_loop" = some (.ref (He.ga K "need_no_loop")) := x.glo (x.c.fact 40 rfl)
theorem Fx.g_next_masks (x : Fx K mg) : mg "next_masks" = some (.ref (He.ga K "next_masks")) := x.glo (x.c.fact 41 rfl)
theorem Fx.g_rows_out (x : Fx K mg) : mg "rows_out" = some (.ref (He.ga K "rows_out")) := x.glo (x.c.fact 42 rfl)
theorem Fx.g_rows_in (x : Fx K mg) : mg "rows_in" = some (.ref (He.ga K "rows_in")) := x.glo (x.c.fact 43 rfl)
theorem Fx.g_pairs_of (x : Fx K mg) : mg "pairs_of" = some (.ref (He.ga K "pairs_of")) := x.glo (x.c.fact 44 rfl)
theorem Fx.g_Plan (x : Fx K mg) : mg "Plan" = some (.ref (He.ga K "Plan")) := x.glo (x.c.fact 45 rfl)
theorem Fx.c_Plan (x : Fx K mg) : Cls K (He.ga K "Plan") := He.cls_ok (x.c.fact 46 rfl)
theorem Fx.mk_Plan (x : Fx K mg) : Mk K (He.ga K "Plan") (He.ma K (He.ga K "Plan") "__init__") := He.mkr_ok (x.c.fact 47 rfl)
theorem Fx.i_Plan (x : Fx K mg) : faInst "Plan" K = true := x.c.fact 48 rfl
theorem Fx.n_Plan_work_count (x : Fx K mg) : NoAttr K (He.ga K "Plan") "work_count" := He.noat_ok (x.c.fact 49 rfl)
theorem Fx.n_Plan_after_masks (x : Fx K mg) : NoAttr K (He.ga K "Plan") "after_masks" := He.noat_ok (x.c.fact 50 rfl)
theorem Fx.n_Plan_after_rows (x : Fx K mg) : NoAttr K (He.ga K "Plan") "after_rows" := He.noat_ok (x.c.fact 51 rfl)
theorem Fx.n_Plan_before_rows (x : Fx K mg) : NoAttr K (He.ga K "Plan") "before_rows" := He.noat_ok (x.c.fact 52 rfl)
theorem Fx.n_Plan_next_rows (x : Fx K mg) : NoAttr K (He.ga K "Plan") "next_rows" := He.noat_ok (x.c.fact 53 rfl)
theorem Fx.n_Plan_prev_rows (x : Fx K mg) : NoAttr K (He.ga K "Plan") "prev_rows" := He.noat_ok (x.c.fact 54 rfl)
theorem Fx.n_Plan_pair_row (x : Fx K mg) : NoAttr K (He.ga K "Plan") "pair_row" := He.noat_ok (x.c.fact 55 rfl)
theorem Fx.n_Plan_cover_row (x : Fx K mg) : NoAttr K (He.ga K "Plan") "cover_row" := He.noat_ok (x.c.fact 56 rfl)
theorem Fx.e_Plan_init (x : Fx K mg) : faEmp "Plan" "__init__" 0 K = true := x.c.fact 57 rfl
theorem Fx.cm_Plan_chain (x : Fx K mg) : CRead K (He.ga K "Plan") (.type "type") ∧ CMet K (He.ga K "Plan") (.type "type") "chain" (He.ma K (He.ga K "Plan") "chain") (cmG K "Plan" "chain") := cm_ok (x.c.fact 58 rfl)
theorem Fx.cm_Plan_free (x : Fx K mg) : CRead K (He.ga K "Plan") (.type "type") ∧ CMet K (He.ga K "Plan") (.type "type") "free" (He.ma K (He.ga K "Plan") "free") (cmG K "Plan" "free") := cm_ok (x.c.fact 59 rfl)
theorem Fx.p_Plan_size (x : Fx K mg) : PropOf K (He.ga K "Plan") "size" (He.ma K (He.ga K "Plan") "size") (prG K "Plan" "size") := prop_ok (x.c.fact 60 rfl)
theorem Fx.m_Plan_before (x : Fx K mg) : Meth K (He.ga K "Plan") "before" (He.ma K (He.ga K "Plan") "before") := He.meth_ok (x.c.fact 61 rfl)
theorem Fx.m_Plan_related (x : Fx K mg) : Meth K (He.ga K "Plan") "related" (He.ma K (He.ga K "Plan") "related") := He.meth_ok (x.c.fact 62 rfl)
theorem Fx.q_Plan (x : Fx K mg) : EqT K "Plan" := eq_ok (x.c.fact 63 rfl)
theorem Fx.m_Plan_eq (x : Fx K mg) : Meth K (He.ga K "Plan") "__eq__" (He.ma K (He.ga K "Plan") "__eq__") := He.meth_ok (x.c.fact 64 rfl)
theorem Fx.m_Plan_contains (x : Fx K mg) : Meth K (He.ga K "Plan") "__contains__" (He.ma K (He.ga K "Plan") "__contains__") := He.meth_ok (x.c.fact 65 rfl)
theorem Fx.m_Plan_iter (x : Fx K mg) : Meth K (He.ga K "Plan") "__iter__" (He.ma K (He.ga K "Plan") "__iter__") := He.meth_ok (x.c.fact 66 rfl)
theorem Fx.i_MOST_WORKS_joins (x : Fx K mg) : ∃ t, mg "MOST_WORKS_joins" = some (.int 20 t) := x.int (x.c.fact 67 rfl)
theorem Fx.g_check_work (x : Fx K mg) : mg "check_work" = some (.ref (He.ga K "check_work")) := x.glo (x.c.fact 68 rfl)
theorem Fx.g_check_sum (x : Fx K mg) : mg "check_sum" = some (.ref (He.ga K "check_sum")) := x.glo (x.c.fact 69 rfl)
theorem Fx.g_moved (x : Fx K mg) : mg "moved" = some (.ref (He.ga K "moved")) := x.glo (x.c.fact 70 rfl)
theorem Fx.g_side_by_side (x : Fx K mg) : mg "side_by_side" = some (.ref (He.ga K "side_by_side")) := x.glo (x.c.fact 71 rfl)
theorem Fx.g_in_turn (x : Fx K mg) : mg "in_turn" = some (.ref (He.ga K "in_turn")) := x.glo (x.c.fact 72 rfl)
theorem Fx.g_new_numbers (x : Fx K mg) : mg "new_numbers" = some (.ref (He.ga K "new_numbers")) := x.glo (x.c.fact 73 rfl)
theorem Fx.g_put_in (x : Fx K mg) : mg "put_in" = some (.ref (He.ga K "put_in")) := x.glo (x.c.fact 74 rfl)
theorem Fx.g_law_mix (x : Fx K mg) : mg "_law_mix" = some (.ref (He.ga K "_law_mix")) := x.glo (x.c.fact 75 rfl)
theorem Fx.g_law_store (x : Fx K mg) : mg "_law_store" = some (.ref (He.ga K "_law_store")) := x.glo (x.c.fact 76 rfl)
theorem Fx.g_law_take (x : Fx K mg) : mg "_law_take" = some (.ref (He.ga K "_law_take")) := x.glo (x.c.fact 77 rfl)
theorem Fx.g_law_range (x : Fx K mg) : mg "_law_range" = some (.ref (He.ga K "_law_range")) := x.glo (x.c.fact 78 rfl)
theorem Fx.g_law_chance (x : Fx K mg) : mg "_law_chance" = some (.ref (He.ga K "_law_chance")) := x.glo (x.c.fact 79 rfl)
theorem Fx.g_law_pick (x : Fx K mg) : mg "_law_pick" = some (.ref (He.ga K "_law_pick")) := x.glo (x.c.fact 80 rfl)
theorem Fx.g_law_near (x : Fx K mg) : mg "_law_near" = some (.ref (He.ga K "_law_near")) := x.glo (x.c.fact 81 rfl)
theorem Fx.g_law_large (x : Fx K mg) : mg "_law_large" = some (.ref (He.ga K "_law_large")) := x.glo (x.c.fact 82 rfl)
theorem Fx.g_law_mixed (x : Fx K mg) : mg "_law_mixed" = some (.ref (He.ga K "_law_mixed")) := x.glo (x.c.fact 83 rfl)
theorem Fx.g_law_outside (x : Fx K mg) : mg "_law_outside" = some (.ref (He.ga K "_law_outside")) := x.glo (x.c.fact 84 rfl)
theorem Fx.g_law_close (x : Fx K mg) : mg "_law_close" = some (.ref (He.ga K "_law_close")) := x.glo (x.c.fact 85 rfl)
theorem Fx.g_law_related (x : Fx K mg) : mg "_law_related" = some (.ref (He.ga K "_law_related")) := x.glo (x.c.fact 86 rfl)
theorem Fx.g_law_renumber (x : Fx K mg) : mg "_law_renumber" = some (.ref (He.ga K "_law_renumber")) := x.glo (x.c.fact 87 rfl)
theorem Fx.g_law_size (x : Fx K mg) : mg "_law_size" = some (.ref (He.ga K "_law_size")) := x.glo (x.c.fact 88 rfl)
theorem Fx.g_law_wild_pairs (x : Fx K mg) : mg "_law_wild_pairs" = some (.ref (He.ga K "_law_wild_pairs")) := x.glo (x.c.fact 89 rfl)
theorem Fx.g_law_recipe (x : Fx K mg) : mg "_law_recipe" = some (.ref (He.ga K "_law_recipe")) := x.glo (x.c.fact 90 rfl)
theorem Fx.g_law_puts (x : Fx K mg) : mg "_law_puts" = some (.ref (He.ga K "_law_puts")) := x.glo (x.c.fact 91 rfl)
theorem Fx.g_law_net (x : Fx K mg) : mg "_law_net" = some (.ref (He.ga K "_law_net")) := x.glo (x.c.fact 92 rfl)
theorem Fx.g_law_net_covers (x : Fx K mg) : mg "_law_net_covers" = some (.ref (He.ga K "_law_net_covers")) := x.glo (x.c.fact 93 rfl)
theorem Fx.g_law_line_plan (x : Fx K mg) : mg "_law_line_plan" = some (.ref (He.ga K "_law_line_plan")) := x.glo (x.c.fact 94 rfl)
theorem Fx.g_law_sample (x : Fx K mg) : mg "_law_sample" = some (.ref (He.ga K "_law_sample")) := x.glo (x.c.fact 95 rfl)
theorem Fx.g_law_put_pairs (x : Fx K mg) : mg "_law_put_pairs" = some (.ref (He.ga K "_law_put_pairs")) := x.glo (x.c.fact 96 rfl)
theorem Fx.g_law_joined_pairs (x : Fx K mg) : mg "_law_joined_pairs" = some (.ref (He.ga K "_law_joined_pairs")) := x.glo (x.c.fact 97 rfl)
theorem Fx.g_law_four_plan (x : Fx K mg) : mg "_law_four_plan" = some (.ref (He.ga K "_law_four_plan")) := x.glo (x.c.fact 98 rfl)
theorem Fx.g_law_plan (x : Fx K mg) : mg "_law_plan" = some (.ref (He.ga K "_law_plan")) := x.glo (x.c.fact 99 rfl)
theorem Fx.g_law_same (x : Fx K mg) : mg "_law_same" = some (.ref (He.ga K "_law_same")) := x.glo (x.c.fact 100 rfl)
theorem Fx.g_law_is_plan (x : Fx K mg) : mg "_law_is_plan" = some (.ref (He.ga K "_law_is_plan")) := x.glo (x.c.fact 101 rfl)
theorem Fx.g_law_tried (x : Fx K mg) : mg "_law_tried" = some (.ref (He.ga K "_law_tried")) := x.glo (x.c.fact 102 rfl)
theorem Fx.g_law_due (x : Fx K mg) : mg "_law_due" = some (.ref (He.ga K "_law_due")) := x.glo (x.c.fact 103 rfl)
theorem Fx.g_law_asked (x : Fx K mg) : mg "_law_asked" = some (.ref (He.ga K "_law_asked")) := x.glo (x.c.fact 104 rfl)
theorem Fx.g_law_by_puts (x : Fx K mg) : mg "_law_by_puts" = some (.ref (He.ga K "_law_by_puts")) := x.glo (x.c.fact 105 rfl)
theorem Fx.g_law (x : Fx K mg) : mg "law" = some (.ref (He.ga K "law")) := x.glo (x.c.fact 106 rfl)
theorem Fx.b_all (x : Fx K mg) : mg "all" = none := x.free (x.c.fact 107 rfl)
theorem Fx.b_bool (x : Fx K mg) : mg "bool" = none := x.free (x.c.fact 108 rfl)
theorem Fx.b_int (x : Fx K mg) : mg "int" = none := x.free (x.c.fact 109 rfl)
theorem Fx.b_isinstance (x : Fx K mg) : mg "isinstance" = none := x.free (x.c.fact 110 rfl)
theorem Fx.b_iter (x : Fx K mg) : mg "iter" = none := x.free (x.c.fact 111 rfl)
theorem Fx.b_len (x : Fx K mg) : mg "len" = none := x.free (x.c.fact 112 rfl)
theorem Fx.b_list (x : Fx K mg) : mg "list" = none := x.free (x.c.fact 113 rfl)
theorem Fx.b_max (x : Fx K mg) : mg "max" = none := x.free (x.c.fact 114 rfl)
theorem Fx.b_min (x : Fx K mg) : mg "min" = none := x.free (x.c.fact 115 rfl)
theorem Fx.b_range (x : Fx K mg) : mg "range" = none := x.free (x.c.fact 116 rfl)
theorem Fx.b_str (x : Fx K mg) : mg "str" = none := x.free (x.c.fact 117 rfl)
theorem Fx.b_super (x : Fx K mg) : mg "super" = none := x.free (x.c.fact 118 rfl)
theorem Fx.b_tuple (x : Fx K mg) : mg "tuple" = none := x.free (x.c.fact 119 rfl)
theorem Fx.s_BadCount_init (x : Fx K mg) : ∃ cc cda fd, ∀ P : Program, P.main.file = "/claim/cut.py" → (P.main.scope.names.lookup ("super" : Str)).isSome = false → SupF P K (He.ga K "BadCount") ((fun K => He.ma K (He.ga K "BadCount") "__init__") K) ⟨"__init__", "BadCount.__init__", defArgs (mth (top 3) 0), defBody (mth (top 3) 0), defScope (mth (top 3) 0), [(("__class__" : Str), cc)], cda⟩ fd := x.c.sup_ 0 (d := d_BadCount_init) rfl rfl rfl
theorem Fx.s_NoWork_init (x : Fx K mg) : ∃ cc cda fd, ∀ P : Program, P.main.file = "/claim/cut.py" → (P.main.scope.names.lookup ("super" : Str)).isSome = false → SupF P K (He.ga K "NoWork") ((fun K => He.ma K (He.ga K "NoWork") "__init__") K) ⟨"__init__", "NoWork.__init__", defArgs (mth (top 4) 0), defBody (mth (top 4) 0), defScope (mth (top 4) 0), [(("__class__" : Str), cc)], cda⟩ fd := x.c.sup_ 1 (d := d_NoWork_init) rfl rfl rfl
theorem Fx.s_Loop_init (x : Fx K mg) : ∃ cc cda fd, ∀ P : Program, P.main.file = "/claim/cut.py" → (P.main.scope.names.lookup ("super" : Str)).isSome = false → SupF P K (He.ga K "Loop") ((fun K => He.ma K (He.ga K "Loop") "__init__") K) ⟨"__init__", "Loop.__init__", defArgs (mth (top 5) 0), defBody (mth (top 5) 0), defScope (mth (top 5) 0), [(("__class__" : Str), cc)], cda⟩ fd := x.c.sup_ 2 (d := d_Loop_init) rfl rfl rfl
theorem Fx.f_need_size (x : Fx K mg) : ∃ fd, FunD K "need_size" "need_size" (defArgs (top 8)) (defBody (top 8)) (defScope (top 8)) ((fun _ => []) K) [] ((fun K => He.ga K "need_size") K) fd := x.c.def_ 3 (d := d_need_size) rfl
theorem Fx.f_need_work (x : Fx K mg) : ∃ fd, FunD K "need_work" "need_work" (defArgs (top 9)) (defBody (top 9)) (defScope (top 9)) ((fun _ => []) K) [] ((fun K => He.ga K "need_work") K) fd := x.c.def_ 4 (d := d_need_work) rfl
theorem Fx.f_need_pairs (x : Fx K mg) : ∃ fd, FunD K "need_pairs" "need_pairs" (defArgs (top 10)) (defBody (top 10)) (defScope (top 10)) ((fun _ => []) K) [] ((fun K => He.ga K "need_pairs") K) fd := x.c.def_ 5 (d := d_need_pairs) rfl
theorem Fx.f_has_bit (x : Fx K mg) : ∃ fd, FunD K "has_bit" "has_bit" (defArgs (top 11)) (defBody (top 11)) (defScope (top 11)) ((fun _ => []) K) [] ((fun K => He.ga K "has_bit") K) fd := x.c.def_ 6 (d := d_has_bit) rfl
theorem Fx.f_closed_masks (x : Fx K mg) : ∃ fd, FunD K "closed_masks" "closed_masks" (defArgs (top 12)) (defBody (top 12)) (defScope (top 12)) ((fun _ => []) K) [] ((fun K => He.ga K "closed_masks") K) fd := x.c.def_ 7 (d := d_closed_masks) rfl
theorem Fx.f_need_no_loop (x : Fx K mg) : ∃ fd, FunD K "need_no_loop" "need_no_loop" (defArgs (top 13)) (defBody (top 13)) (defScope (top 13)) ((fun _ => []) K) [] ((fun K => He.ga K "need_no_loop") K) fd := x.c.def_ 8 (d := d_need_no_loop) rfl
theorem Fx.f_next_masks (x : Fx K mg) : ∃ fd, FunD K "next_masks" "next_masks" (defArgs (top 14)) (defBody (top 14)) (defScope (top 14)) ((fun _ => []) K) [] ((fun K => He.ga K "next_masks") K) fd := x.c.def_ 9 (d := d_next_masks) rfl
theorem Fx.f_rows_out (x : Fx K mg) : ∃ fd, FunD K "rows_out" "rows_out" (defArgs (top 15)) (defBody (top 15)) (defScope (top 15)) ((fun _ => []) K) [] ((fun K => He.ga K "rows_out") K) fd := x.c.def_ 10 (d := d_rows_out) rfl
theorem Fx.f_rows_in (x : Fx K mg) : ∃ fd, FunD K "rows_in" "rows_in" (defArgs (top 16)) (defBody (top 16)) (defScope (top 16)) ((fun _ => []) K) [] ((fun K => He.ga K "rows_in") K) fd := x.c.def_ 11 (d := d_rows_in) rfl
theorem Fx.f_pairs_of (x : Fx K mg) : ∃ fd, FunD K "pairs_of" "pairs_of" (defArgs (top 17)) (defBody (top 17)) (defScope (top 17)) ((fun _ => []) K) [] ((fun K => He.ga K "pairs_of") K) fd := x.c.def_ 12 (d := d_pairs_of) rfl
theorem Fx.f_Plan_init (x : Fx K mg) : ∃ fd, FunD K "__init__" "Plan.__init__" (defArgs (mth (top 18) 0)) (defBody (mth (top 18) 0)) (defScope (mth (top 18) 0)) ((fun K => [.ref (He.dflAt ("Plan", some "__init__") 0 K)]) K) [] ((fun K => He.ma K (He.ga K "Plan") "__init__") K) fd := x.c.def_ 13 (d := d_Plan_init) rfl
theorem Fx.f_Plan_chain (x : Fx K mg) : ∃ fd, FunD K "chain" "Plan.chain" (defArgs (mth (top 18) 1)) (defBody (mth (top 18) 1)) (defScope (mth (top 18) 1)) ((fun _ => []) K) [] ((fun K => cmG K "Plan" "chain") K) fd := x.c.def_ 14 (d := d_Plan_chain) rfl
theorem Fx.f_Plan_free (x : Fx K mg) : ∃ fd, FunD K "free" "Plan.free" (defArgs (mth (top 18) 2)) (defBody (mth (top 18) 2)) (defScope (mth (top 18) 2)) ((fun _ => []) K) [] ((fun K => cmG K "Plan" "free") K) fd := x.c.def_ 15 (d := d_Plan_free) rfl
theorem Fx.f_Plan_size (x : Fx K mg) : ∃ fd, FunD K "size" "Plan.size" (defArgs (mth (top 18) 3)) (defBody (mth (top 18) 3)) (defScope (mth (top 18) 3)) ((fun _ => []) K) [] ((fun K => prG K "Plan" "size") K) fd := x.c.def_ 16 (d := d_Plan_size) rfl
theorem Fx.f_Plan_before (x : Fx K mg) : ∃ fd, FunD K "before" "Plan.before" (defArgs (mth (top 18) 4)) (defBody (mth (top 18) 4)) (defScope (mth (top 18) 4)) ((fun _ => []) K) [] ((fun K => He.ma K (He.ga K "Plan") "before") K) fd := x.c.def_ 17 (d := d_Plan_before) rfl
theorem Fx.f_Plan_related (x : Fx K mg) : ∃ fd, FunD K "related" "Plan.related" (defArgs (mth (top 18) 13)) (defBody (mth (top 18) 13)) (defScope (mth (top 18) 13)) ((fun _ => []) K) [] ((fun K => He.ma K (He.ga K "Plan") "related") K) fd := x.c.def_ 18 (d := d_Plan_related) rfl
theorem Fx.f_Plan_eq (x : Fx K mg) : ∃ fd, FunD K "__eq__" "Plan.__eq__" (defArgs (mth (top 18) 14)) (defBody (mth (top 18) 14)) (defScope (mth (top 18) 14)) ((fun _ => []) K) [] ((fun K => He.ma K (He.ga K "Plan") "__eq__") K) fd := x.c.def_ 19 (d := d_Plan_eq) rfl
theorem Fx.f_Plan_contains (x : Fx K mg) : ∃ fd, FunD K "__contains__" "Plan.__contains__" (defArgs (mth (top 18) 15)) (defBody (mth (top 18) 15)) (defScope (mth (top 18) 15)) ((fun _ => []) K) [] ((fun K => He.ma K (He.ga K "Plan") "__contains__") K) fd := x.c.def_ 20 (d := d_Plan_contains) rfl
theorem Fx.f_Plan_iter (x : Fx K mg) : ∃ fd, FunD K "__iter__" "Plan.__iter__" (defArgs (mth (top 18) 16)) (defBody (mth (top 18) 16)) (defScope (mth (top 18) 16)) ((fun _ => []) K) [] ((fun K => He.ma K (He.ga K "Plan") "__iter__") K) fd := x.c.def_ 21 (d := d_Plan_iter) rfl
theorem Fx.f_check_work (x : Fx K mg) : ∃ fd, FunD K "check_work" "check_work" (defArgs (top 21)) (defBody (top 21)) (defScope (top 21)) ((fun _ => []) K) [] ((fun K => He.ga K "check_work") K) fd := x.c.def_ 22 (d := d_check_work) rfl
theorem Fx.f_check_sum (x : Fx K mg) : ∃ fd, FunD K "check_sum" "check_sum" (defArgs (top 22)) (defBody (top 22)) (defScope (top 22)) ((fun _ => []) K) [] ((fun K => He.ga K "check_sum") K) fd := x.c.def_ 23 (d := d_check_sum) rfl
theorem Fx.f_moved (x : Fx K mg) : ∃ fd, FunD K "moved" "moved" (defArgs (top 23)) (defBody (top 23)) (defScope (top 23)) ((fun _ => []) K) [] ((fun K => He.ga K "moved") K) fd := x.c.def_ 24 (d := d_moved) rfl
theorem Fx.f_side_by_side (x : Fx K mg) : ∃ fd, FunD K "side_by_side" "side_by_side" (defArgs (top 24)) (defBody (top 24)) (defScope (top 24)) ((fun _ => []) K) [] ((fun K => He.ga K "side_by_side") K) fd := x.c.def_ 25 (d := d_side_by_side) rfl
theorem Fx.f_in_turn (x : Fx K mg) : ∃ fd, FunD K "in_turn" "in_turn" (defArgs (top 25)) (defBody (top 25)) (defScope (top 25)) ((fun _ => []) K) [] ((fun K => He.ga K "in_turn") K) fd := x.c.def_ 26 (d := d_in_turn) rfl
theorem Fx.f_new_numbers (x : Fx K mg) : ∃ fd, FunD K "new_numbers" "new_numbers" (defArgs (top 26)) (defBody (top 26)) (defScope (top 26)) ((fun _ => []) K) [] ((fun K => He.ga K "new_numbers") K) fd := x.c.def_ 27 (d := d_new_numbers) rfl
theorem Fx.f_put_in (x : Fx K mg) : ∃ fd, FunD K "put_in" "put_in" (defArgs (top 27)) (defBody (top 27)) (defScope (top 27)) ((fun _ => []) K) [] ((fun K => He.ga K "put_in") K) fd := x.c.def_ 28 (d := d_put_in) rfl
theorem Fx.f_law_mix (x : Fx K mg) : ∃ fd, FunD K "_law_mix" "_law_mix" (defArgs (top 29)) (defBody (top 29)) (defScope (top 29)) ((fun _ => []) K) [] ((fun K => He.ga K "_law_mix") K) fd := x.c.def_ 29 (d := d_law_mix) rfl
theorem Fx.f_law_store (x : Fx K mg) : ∃ fd, FunD K "_law_store" "_law_store" (defArgs (top 30)) (defBody (top 30)) (defScope (top 30)) ((fun _ => []) K) [] ((fun K => He.ga K "_law_store") K) fd := x.c.def_ 30 (d := d_law_store) rfl
theorem Fx.f_law_take (x : Fx K mg) : ∃ fd, FunD K "_law_take" "_law_take" (defArgs (top 31)) (defBody (top 31)) (defScope (top 31)) ((fun _ => []) K) [] ((fun K => He.ga K "_law_take") K) fd := x.c.def_ 31 (d := d_law_take) rfl
theorem Fx.f_law_range (x : Fx K mg) : ∃ fd, FunD K "_law_range" "_law_range" (defArgs (top 32)) (defBody (top 32)) (defScope (top 32)) ((fun _ => []) K) [] ((fun K => He.ga K "_law_range") K) fd := x.c.def_ 32 (d := d_law_range) rfl
theorem Fx.f_law_chance (x : Fx K mg) : ∃ fd, FunD K "_law_chance" "_law_chance" (defArgs (top 33)) (defBody (top 33)) (defScope (top 33)) ((fun _ => []) K) [] ((fun K => He.ga K "_law_chance") K) fd := x.c.def_ 33 (d := d_law_chance) rfl
theorem Fx.f_law_pick (x : Fx K mg) : ∃ fd, FunD K "_law_pick" "_law_pick" (defArgs (top 34)) (defBody (top 34)) (defScope (top 34)) ((fun _ => []) K) [] ((fun K => He.ga K "_law_pick") K) fd := x.c.def_ 34 (d := d_law_pick) rfl
theorem Fx.f_law_near (x : Fx K mg) : ∃ fd, FunD K "_law_near" "_law_near" (defArgs (top 35)) (defBody (top 35)) (defScope (top 35)) ((fun _ => []) K) [] ((fun K => He.ga K "_law_near") K) fd := x.c.def_ 35 (d := d_law_near) rfl
theorem Fx.f_law_large (x : Fx K mg) : ∃ fd, FunD K "_law_large" "_law_large" (defArgs (top 36)) (defBody (top 36)) (defScope (top 36)) ((fun _ => []) K) [] ((fun K => He.ga K "_law_large") K) fd := x.c.def_ 36 (d := d_law_large) rfl
theorem Fx.f_law_mixed (x : Fx K mg) : ∃ fd, FunD K "_law_mixed" "_law_mixed" (defArgs (top 37)) (defBody (top 37)) (defScope (top 37)) ((fun _ => []) K) [] ((fun K => He.ga K "_law_mixed") K) fd := x.c.def_ 37 (d := d_law_mixed) rfl
theorem Fx.f_law_outside (x : Fx K mg) : ∃ fd, FunD K "_law_outside" "_law_outside" (defArgs (top 38)) (defBody (top 38)) (defScope (top 38)) ((fun _ => []) K) [] ((fun K => He.ga K "_law_outside") K) fd := x.c.def_ 38 (d := d_law_outside) rfl
theorem Fx.f_law_close (x : Fx K mg) : ∃ fd, FunD K "_law_close" "_law_close" (defArgs (top 39)) (defBody (top 39)) (defScope (top 39)) ((fun _ => []) K) [] ((fun K => He.ga K "_law_close") K) fd := x.c.def_ 39 (d := d_law_close) rfl
theorem Fx.f_law_related (x : Fx K mg) : ∃ fd, FunD K "_law_related" "_law_related" (defArgs (top 40)) (defBody (top 40)) (defScope (top 40)) ((fun _ => []) K) [] ((fun K => He.ga K "_law_related") K) fd := x.c.def_ 40 (d := d_law_related) rfl
theorem Fx.f_law_renumber (x : Fx K mg) : ∃ fd, FunD K "_law_renumber" "_law_renumber" (defArgs (top 41)) (defBody (top 41)) (defScope (top 41)) ((fun _ => []) K) [] ((fun K => He.ga K "_law_renumber") K) fd := x.c.def_ 41 (d := d_law_renumber) rfl
theorem Fx.f_law_size (x : Fx K mg) : ∃ fd, FunD K "_law_size" "_law_size" (defArgs (top 42)) (defBody (top 42)) (defScope (top 42)) ((fun _ => []) K) [] ((fun K => He.ga K "_law_size") K) fd := x.c.def_ 42 (d := d_law_size) rfl
theorem Fx.f_law_wild_pairs (x : Fx K mg) : ∃ fd, FunD K "_law_wild_pairs" "_law_wild_pairs" (defArgs (top 43)) (defBody (top 43)) (defScope (top 43)) ((fun _ => []) K) [] ((fun K => He.ga K "_law_wild_pairs") K) fd := x.c.def_ 43 (d := d_law_wild_pairs) rfl
theorem Fx.f_law_recipe (x : Fx K mg) : ∃ fd, FunD K "_law_recipe" "_law_recipe" (defArgs (top 44)) (defBody (top 44)) (defScope (top 44)) ((fun _ => []) K) [] ((fun K => He.ga K "_law_recipe") K) fd := x.c.def_ 44 (d := d_law_recipe) rfl
theorem Fx.f_law_puts (x : Fx K mg) : ∃ fd, FunD K "_law_puts" "_law_puts" (defArgs (top 45)) (defBody (top 45)) (defScope (top 45)) ((fun _ => []) K) [] ((fun K => He.ga K "_law_puts") K) fd := x.c.def_ 45 (d := d_law_puts) rfl
theorem Fx.f_law_net (x : Fx K mg) : ∃ fd, FunD K "_law_net" "_law_net" (defArgs (top 46)) (defBody (top 46)) (defScope (top 46)) ((fun _ => []) K) [] ((fun K => He.ga K "_law_net") K) fd := x.c.def_ 46 (d := d_law_net) rfl
theorem Fx.f_law_net_covers (x : Fx K mg) : ∃ fd, FunD K "_law_net_covers" "_law_net_covers" (defArgs (top 47)) (defBody (top 47)) (defScope (top 47)) ((fun _ => []) K) [] ((fun K => He.ga K "_law_net_covers") K) fd := x.c.def_ 47 (d := d_law_net_covers) rfl
theorem Fx.f_law_line_plan (x : Fx K mg) : ∃ fd, FunD K "_law_line_plan" "_law_line_plan" (defArgs (top 48)) (defBody (top 48)) (defScope (top 48)) ((fun _ => []) K) [] ((fun K => He.ga K "_law_line_plan") K) fd := x.c.def_ 48 (d := d_law_line_plan) rfl
theorem Fx.f_law_sample (x : Fx K mg) : ∃ fd, FunD K "_law_sample" "_law_sample" (defArgs (top 49)) (defBody (top 49)) (defScope (top 49)) ((fun _ => []) K) [] ((fun K => He.ga K "_law_sample") K) fd := x.c.def_ 49 (d := d_law_sample) rfl
theorem Fx.f_law_put_pairs (x : Fx K mg) : ∃ fd, FunD K "_law_put_pairs" "_law_put_pairs" (defArgs (top 50)) (defBody (top 50)) (defScope (top 50)) ((fun _ => []) K) [] ((fun K => He.ga K "_law_put_pairs") K) fd := x.c.def_ 50 (d := d_law_put_pairs) rfl
theorem Fx.f_law_joined_pairs (x : Fx K mg) : ∃ fd, FunD K "_law_joined_pairs" "_law_joined_pairs" (defArgs (top 51)) (defBody (top 51)) (defScope (top 51)) ((fun _ => []) K) [] ((fun K => He.ga K "_law_joined_pairs") K) fd := x.c.def_ 51 (d := d_law_joined_pairs) rfl
theorem Fx.f_law_four_plan (x : Fx K mg) : ∃ fd, FunD K "_law_four_plan" "_law_four_plan" (defArgs (top 52)) (defBody (top 52)) (defScope (top 52)) ((fun _ => []) K) [] ((fun K => He.ga K "_law_four_plan") K) fd := x.c.def_ 52 (d := d_law_four_plan) rfl
theorem Fx.f_law_plan (x : Fx K mg) : ∃ fd, FunD K "_law_plan" "_law_plan" (defArgs (top 53)) (defBody (top 53)) (defScope (top 53)) ((fun _ => []) K) [] ((fun K => He.ga K "_law_plan") K) fd := x.c.def_ 53 (d := d_law_plan) rfl
theorem Fx.f_law_same (x : Fx K mg) : ∃ fd, FunD K "_law_same" "_law_same" (defArgs (top 54)) (defBody (top 54)) (defScope (top 54)) ((fun _ => []) K) [] ((fun K => He.ga K "_law_same") K) fd := x.c.def_ 54 (d := d_law_same) rfl
theorem Fx.f_law_is_plan (x : Fx K mg) : ∃ fd, FunD K "_law_is_plan" "_law_is_plan" (defArgs (top 55)) (defBody (top 55)) (defScope (top 55)) ((fun _ => []) K) [] ((fun K => He.ga K "_law_is_plan") K) fd := x.c.def_ 55 (d := d_law_is_plan) rfl
theorem Fx.f_law_tried (x : Fx K mg) : ∃ fd, FunD K "_law_tried" "_law_tried" (defArgs (top 56)) (defBody (top 56)) (defScope (top 56)) ((fun _ => []) K) [] ((fun K => He.ga K "_law_tried") K) fd := x.c.def_ 56 (d := d_law_tried) rfl
theorem Fx.f_law_due (x : Fx K mg) : ∃ fd, FunD K "_law_due" "_law_due" (defArgs (top 57)) (defBody (top 57)) (defScope (top 57)) ((fun _ => []) K) [] ((fun K => He.ga K "_law_due") K) fd := x.c.def_ 57 (d := d_law_due) rfl
theorem Fx.f_law_asked (x : Fx K mg) : ∃ fd, FunD K "_law_asked" "_law_asked" (defArgs (top 58)) (defBody (top 58)) (defScope (top 58)) ((fun _ => []) K) [] ((fun K => He.ga K "_law_asked") K) fd := x.c.def_ 58 (d := d_law_asked) rfl
theorem Fx.f_law_by_puts (x : Fx K mg) : ∃ fd, FunD K "_law_by_puts" "_law_by_puts" (defArgs (top 59)) (defBody (top 59)) (defScope (top 59)) ((fun _ => []) K) [] ((fun K => He.ga K "_law_by_puts") K) fd := x.c.def_ 59 (d := d_law_by_puts) rfl
theorem Fx.f_law (x : Fx K mg) : ∃ fd, FunD K "law" "law" (defArgs (top 60)) (defBody (top 60)) (defScope (top 60)) ((fun _ => []) K) [] ((fun K => He.ga K "law") K) fd := x.c.def_ 60 (d := d_law) rfl
end
end Lw
end
section
set_option Elab.async false
set_option linter.all false
set_option maxRecDepth 100000
set_option maxHeartbeats 0
namespace Lw
open PySem PySem.Spec PyProof.Rows L2 Tyl
/-! ### the head -/
abbrev Rr : PySem.W.OpenRow := PySem.W.OpenLaw.row PySem.Challenge.rw_doorplans_k79_joins_are_put_in
abbrev hk : PySem.W.Hook := hookT 5 fa fn
def ob (s : PySem.W.SharedT) : AlT := obsTG 5 fa fn (HandSHeadRun.getT s)
theorem ob_eq (s : PySem.W.SharedT) : ob s = hk.obs s.abs := obsTG_eq (HandSHeadRun.getT_eq s)
def nm0 : List Str := ["_wall", "__name__", "DoorsError", "BadCount", "NoWork", "Loop", "MOST_WORKS_plan", "need_size", "need_work", "need_pairs", "has_bit", "closed_masks", "need_no_loop", "next_masks", "rows_out", "rows_in", "pairs_of", "Plan", "MOST_WORKS_joins", "check_work", "check_sum", "moved", "side_by_side", "in_turn", "new_numbers", "put_in", "_law_mix", "_law_store", "_law_take", "_law_range"]
def nm1 : List Str := ["_law_chance", "_law_pick", "_law_near", "_law_large", "_law_mixed", "_law_outside", "_law_close", "_law_related", "_law_renumber", "_law_size", "_law_wild_pairs", "_law_recipe", "_law_puts", "_law_net", "_law_net_covers", "_law_line_plan", "_law_sample", "_law_put_pairs", "_law_joined_pairs", "_law_four_plan", "_law_plan", "_law_same", "_law_is_plan", "_law_tried", "_law_due", "_law_asked", "_law_by_puts"]
def nms : List Str := nm0 ++ nm1
abbrev fa_0 : List (Fg → Bool) := (fa.drop 0)
abbrev fn_0 : List DefT := (fn.drop 0)
theorem run_0 (w : World) : HandSHeadRun.RunEq Rr (PySem.W.view Rr.prog [60]) (hookT 5 fa_0 fn_0) (fun s => obsTG 5 fa_0 fn_0 (HandSHeadRun.getT s)) 12000 nms w := by
  intro os
  kernel_rfl
theorem fa_eq : fa_0 = fa := by rfl
theorem fn_eq : fn_0 = fn := by rfl
theorem run (w : World) : HandSHeadRun.RunEq Rr (PySem.W.view Rr.prog [60]) hk ob 12000 nms w := by
  have h := run_0 w
  rw [fa_eq, fn_eq] at h
  exact h
end Lw
end
section
namespace Lw
open PySem PySem.Spec PyProof.Rows L2 Tyl
def bit (m : Int) (x : Int) : Bool := decide (Builtin.bitAnd (m / 2 ^ x.toNat) 1 = 1)
section
variable {P : Program} {w : World} {K : Fg} {mg : Str → Option Value} {base : Heap}
theorem sc_has_bit : FnScope ["mask", "x"] ["mask", "x"] (defScope (top 11)) := ⟨rfl, rfl, rfl, by decide +kernel, rfl, by decide +kernel, by decide +kernel⟩
theorem ok_has_bit  (x : Fx K mg) : OkF P w K mg base CX0 1 "has_bit" ["mask", "x"] (spP K 2 (fun (a : Int × Int) => match a with | (z0, z1) => [sd z0, sd z1]) (fun a => 0 ≤ a.2) (fun a (r : Bool) => r = bit a.1 a.2)) := by
  obtain ⟨fd, F⟩ := x.f_has_bit
  refine ⟨⟨fd, okT F sc_has_bit (fun _ => rfl) (fun cdv A0 outer s H E a B hr hp => ?_), F.bindsN fun _ _ _ _ _ _ us hl => match us, hl with | [_, _], _ => rfl⟩, x.g_has_bit, F.kp⟩
  obtain ⟨v_mask, v_x⟩ := a
  try dsimp only at hp ⊢
  have nd := (sc_has_bit).nd
  exact js_ret (by decide) (je_eq (je_band (je_shr (je_var .z (je_var (.s .z) (⟨(by omega), je_int (je_int (⟨(), .nil, (by rfl)⟩))⟩))))))
theorem sc_law_mix : FnScope ["first", "second", "prime", "one", "two"] ["first", "second"] (defScope (top 29)) := ⟨rfl, rfl, rfl, by decide +kernel, rfl, by decide +kernel, by decide +kernel⟩
theorem ok_law_mix  (x : Fx K mg) : OkF P w K mg base CX0 1 "_law_mix" ["first", "second"] (spP K 2 (fun (a : Int × Int) => match a with | (z0, z1) => [sd z0, sd z1]) (fun _ => True) (fun a (r : Int) => 0 ≤ r ∧ r < 2305843009213693951)) := by
  obtain ⟨fd, F⟩ := x.f_law_mix
  refine ⟨⟨fd, okT F sc_law_mix (fun _ => rfl) (fun cdv A0 outer s H E a B hr hp => ?_), F.bindsN fun _ _ _ _ _ _ us hl => match us, hl with | [_, _], _ => rfl⟩, x.g_law_mix, F.kp⟩
  obtain ⟨v_first, v_second⟩ := a
  try dsimp only at hp ⊢
  have nd := (sc_law_mix).nd
  exact js_asg nd (je_int (⟨_, (.s (.s .z)), js_asgv nd (je_mod (je_add (je_add (je_mul (je_mod (je_intI x.b_int (je_var .z (je_var (.s (.s .z)) (⟨(by omega), je_int (⟨(by unfold CMul; omega), je_mul (je_mod (je_intI x.b_int (je_var (.s .z) (je_var (.s (.s .z)) (⟨(by omega), je_int (⟨(by unfold CMul; omega), je_int (je_var (.s (.s .z)) (⟨(by omega), fun v_one e_one => ⟨_, (.s (.s (.s .z))), js_asgv nd (je_mod (je_add (je_mul (je_mod (je_mul (je_var (.s (.s (.s .z))) (je_var (.s (.s (.s .z))) (⟨(by unfold CMul; omega), je_var (.s (.s .z)) (⟨(by omega), je_var (.s (.s (.s .z))) (⟨(by unfold CMul; omega), je_fdivW (je_var (.s (.s (.s .z))) (je_int (⟨(by exact ⟨by decide, by decide +kernel⟩), je_var (.s (.s .z)) (⟨(by omega), fun v_two e_two => ⟨_, (.s (.s (.s (.s .z)))), js_ret (by decide) (je_mod (je_add (je_mul (je_var (.s (.s (.s (.s .z)))) (je_int (⟨(by unfold CMul; omega), je_fdiv (je_var (.s (.s (.s (.s .z)))) (je_int (⟨(by unfold CDiv; omega), je_var (.s (.s .z)) (⟨(by omega), ⟨(), .nil, (by omega)⟩⟩)⟩)))⟩))))))⟩⟩)⟩)))⟩)⟩)⟩))))))))⟩⟩))⟩)⟩)))))⟩)⟩)))))))))⟩))
/-- the store -/
structure St where
  cells : List Int
  i : Int
  a2 : Int
  a3 : Int
  a4 : Int
  a5 : Int
  a6 : Int
def St.sds : St → List SD
  | ⟨c, i, a2, a3, a4, a5, a6⟩ => [sd c, sd i, sd a2, sd a3, sd a4, sd a5, sd a6]
abbrev St.ok (s : St) : Prop := 0 ≤ s.i ∧ s.cells.length ≤ 63 ∧ s.i ≤ 63
theorem sc_law_take : FnScope ["store", "many", "cells", "cell", "digits"] ["store", "many"] (defScope (top 31)) := ⟨rfl, rfl, rfl, by decide +kernel, rfl, by decide +kernel, by decide +kernel⟩
theorem ok_law_take  (x : Fx K mg) : OkF P w K mg base CX0 2 "_law_take" ["store", "many"] (spO K 1 St.sds (fun (a : Int) => [sd a]) (fun s n => s.ok ∧ n < 1073741824) (fun s n (r : Int) s' => s'.ok ∧ 0 ≤ r ∧ (r < n ∨ r = 0 ∧ n < 2))) := by
  obtain ⟨fd, F⟩ := x.f_law_take
  refine ⟨⟨fd, okT F sc_law_take (fun _ => rfl) (fun cdv A0 outer s H E a B hr hp => ?_), F.bindsN fun _ _ _ _ _ _ us hl => match us, hl with | [_, _], _ => rfl⟩, x.g_law_take, F.kp⟩
  obtain ⟨⟨s0_0, s0_1, s0_2, s0_3, s0_4, s0_5, s0_6⟩, v_many⟩ := a
  try dsimp only at hp ⊢
  have nd := (sc_law_take).nd
  exact js_ifR (jt_lt (je_var (.s .z) (je_int (⟨fun t1_7 => ⟨fun _ => js_ret (by decide) (je_int (⟨⟨_, _, _, _, _, _, _⟩, (.cons .z .nil), (by first | omega | (simp only [St.ok] at *; omega) | (subst_vars; first | omega | (simp only [St.ok] at *; omega)))⟩)), fun z => (nomatch z)⟩, fun t1_7 => ⟨fun z => (nomatch z), fun _ => js_augL ip_add .z (je_int (⟨_, _, .z, by decide, rfl, je_int (⟨_, _, _, .z, rfl, .z, js_ifm (S := (St)) (fun (z0 : (St)) => [(0, some (own (St.sds z0)))]) (fun (s : (St)) => s.ok) (fun ⟨s4_store_0, s4_store_1, s4_store_2, s4_store_3, s4_store_4, s4_store_5, s4_store_6⟩ hJ4 => js_ifR (jt_gt (je_ixO .z (je_int (⟨_, _, .z, rfl, je_int (⟨fun t15_7 => ⟨fun _ => js_asg nd (je_ixO .z (je_int (⟨_, _, .z, rfl, ⟨_, (.s (.s (.s (.s .z)))), js_setL .z (je_fdiv (je_var (.s (.s (.s (.s .z)))) (je_var (.s .z) (⟨(by unfold CDiv; omega), ⟨_, .z, je_int (⟨_, _, _, .z, rfl, .z, js_ret (by decide) (je_mod (je_intI x.b_int (je_var (.s (.s (.s (.s .z)))) (je_var (.s .z) (⟨(by first | omega | (simp only [St.ok] at *; omega) | (subst_vars; first | omega | (simp only [St.ok] at *; omega))), ⟨⟨_, _, _, _, _, _, _⟩, (.cons .z .nil), (by exact ⟨by simp only [St.ok] at *; omega, Int.emod_nonneg _ (by omega), .inl (Int.emod_lt_of_pos _ (by omega))⟩)⟩⟩)))))⟩)⟩⟩))))⟩⟩))), fun z => (nomatch z)⟩, fun t15_7 => ⟨fun z => (nomatch z), fun _ => js_ifR (jt_gt (je_ixO .z (je_int (⟨_, _, .z, rfl, je_int (⟨fun t19_7 => ⟨fun _ => js_augL ip_sub .z (je_int (⟨_, _, .z, by decide, rfl, je_int (⟨_, _, _, .z, rfl, .z, js_ret (by decide) (je_mod (je_callP ((ok_law_mix x).mono (by decide)) hr pass0 (ja_cons (je_callP ((ok_law_mix x).mono (by decide)) hr pass0 (ja_cons (je_ixO .z (je_int (⟨_, _, .z, rfl, ja_cons (je_ixO .z (je_int (⟨_, _, .z, rfl, ja_nil (⟨⟨_, _⟩, rfl, rfl, (by trivial), fun r21_24 p21_24 => ja_cons (je_add (je_mul (je_int (je_ixO .z (je_int (⟨_, _, .z, rfl, ⟨(by unfold CMul; omega), je_int (ja_nil (⟨⟨_, _⟩, rfl, rfl, (by trivial), fun r21_15 p21_15 => je_var (.s .z) (⟨(by first | omega | (simp only [St.ok] at *; omega) | (subst_vars; first | omega | (simp only [St.ok] at *; omega))), ⟨⟨_, _, _, _, _, _, _⟩, (.cons .z .nil), (by exact ⟨by simp only [St.ok] at *; omega, Int.emod_nonneg _ (by omega), .inl (Int.emod_lt_of_pos _ (by omega))⟩)⟩⟩)⟩))⟩⟩))))))⟩)⟩)))⟩))))))))⟩)⟩)), fun z => (nomatch z)⟩, fun t19_7 => ⟨fun z => (nomatch z), fun _ => js_ret (by decide) (je_mod (je_callP ((ok_law_mix x).mono (by decide)) hr pass0 (ja_cons (je_callP ((ok_law_mix x).mono (by decide)) hr pass0 (ja_cons (je_ixO .z (je_int (⟨_, _, .z, rfl, ja_cons (je_ixO .z (je_int (⟨_, _, .z, rfl, ja_nil (⟨⟨_, _⟩, rfl, rfl, (by trivial), fun r22_20 p22_20 => ja_cons (je_int (ja_nil (⟨⟨_, _⟩, rfl, rfl, (by trivial), fun r22_11 p22_11 => je_var (.s .z) (⟨(by first | omega | (simp only [St.ok] at *; omega) | (subst_vars; first | omega | (simp only [St.ok] at *; omega))), ⟨⟨_, _, _, _, _, _, _⟩, (.cons .z .nil), (by exact ⟨by simp only [St.ok] at *; omega, Int.emod_nonneg _ (by omega), .inl (Int.emod_lt_of_pos _ (by omega))⟩)⟩⟩)⟩)))⟩)⟩)))⟩))))))))⟩⟩)⟩))))⟩⟩)⟩))))) (jt_w (jw_and (jt_eq (je_ixO .z (je_int (⟨_, _, .z, rfl, je_int (⟨fun t4_7 => ⟨fun z => (nomatch z), fun _ => jw_and (jt_eq (je_ixO .z (je_int (⟨_, _, .z, rfl, je_int (⟨fun t4_25 => ⟨fun z => (nomatch z), fun _ => jw_and1 (jt_lt (je_ixO .z (je_int (⟨_, _, .z, rfl, je_len x.b_len (je_ixO .z (je_int (⟨_, _, .z, rfl, ⟨fun t4_44 => ⟨fun _ => js_asg nd (je_ixO .z (je_int (⟨_, _, .z, rfl, ⟨_, (.s (.s .z)), js_asg nd (je_ix (je_var (.s (.s .z)) (je_ixO .z (je_int (⟨_, _, .z, rfl, ⟨(by first | omega | (simp only [St.ok] at *; omega) | (subst_vars; first | omega | (simp only [St.ok] at *; omega))), fun d6_15 hd6_15 => ⟨_, (.s (.s (.s .z))), js_augL ip_add .z (je_int (⟨_, _, .z, by decide, rfl, je_int (⟨_, _, _, .z, rfl, .z, js_if1 (jt_ge (je_var (.s (.s (.s .z))) (je_pow (je_int (je_int (⟨(by unfold CPow; omega), ⟨fun t8_11 => ⟨fun _ => js_setL .z (je_var (.s (.s (.s .z))) (⟨_, .z, je_int (⟨_, _, _, .z, rfl, .z, js_end (⟨⟨_, _, _, _, _, _, _⟩, (.keep (.keep (.drop (.drop (.keep .nil))))), (by first | omega | (simp only [St.ok] at *; omega) | (subst_vars; first | omega | (simp only [St.ok] at *; omega)))⟩)⟩)⟩)), fun z => (nomatch z)⟩, fun t8_11 => ⟨fun z => (nomatch z), fun _ => js_if1 (jt_le (je_var (.s (.s (.s .z))) (je_sub (je_int (je_pow (je_int (je_int (⟨(by unfold CPow; omega), ⟨fun t10_13 => ⟨fun _ => js_setL .z (je_sub (je_int (je_mul (je_int (je_var (.s (.s (.s .z))) (⟨(by unfold CMul; omega), ⟨_, .z, je_int (⟨_, _, _, .z, rfl, .z, js_end (⟨⟨_, _, _, _, _, _, _⟩, (.keep (.keep (.drop (.drop (.keep .nil))))), (by first | omega | (simp only [St.ok] at *; omega) | (subst_vars; first | omega | (simp only [St.ok] at *; omega)))⟩)⟩)⟩⟩)))))), fun z => (nomatch z)⟩, fun t10_13 => ⟨fun z => (nomatch z), fun _ => js_setL .z (je_int (⟨_, .z, je_int (⟨_, _, _, .z, rfl, .z, js_setL .z (je_var (.s (.s (.s .z))) (⟨_, .z, je_int (⟨_, _, _, .z, rfl, .z, js_end (⟨⟨_, _, _, _, _, _, _⟩, (.keep (.keep (.drop (.drop (.keep .nil))))), (by first | omega | (simp only [St.ok] at *; omega) | (subst_vars; first | omega | (simp only [St.ok] at *; omega)))⟩)⟩)⟩))⟩)⟩))⟩⟩⟩))))))))⟩⟩⟩))))))⟩)⟩))⟩⟩⟩)))))⟩⟩))), fun z => (nomatch z)⟩, fun t4_44 => ⟨fun z => (nomatch z), fun _ => js_end (⟨⟨_, _, _, _, _, _, _⟩, (.keep (.keep (.keep (.keep (.keep .nil))))), (by first | omega | (simp only [St.ok] at *; omega) | (subst_vars; first | omega | (simp only [St.ok] at *; omega)))⟩)⟩⟩⟩)))⟩))))⟩, fun t4_25 => ⟨fun _ => ⟨fun z => (nomatch z), fun _ => js_end (⟨⟨_, _, _, _, _, _, _⟩, (.keep (.keep (.keep (.keep (.keep .nil))))), (by first | omega | (simp only [St.ok] at *; omega) | (subst_vars; first | omega | (simp only [St.ok] at *; omega)))⟩)⟩, fun z => (nomatch z)⟩⟩)⟩))))⟩, fun t4_7 => ⟨fun _ => ⟨fun z => (nomatch z), fun _ => js_end (⟨⟨_, _, _, _, _, _, _⟩, (.keep (.keep (.keep (.keep (.keep .nil))))), (by first | omega | (simp only [St.ok] at *; omega) | (subst_vars; first | omega | (simp only [St.ok] at *; omega)))⟩)⟩, fun z => (nomatch z)⟩⟩)⟩))))))⟩)⟩))⟩⟩))))
theorem sc_law_range : FnScope ["store", "low", "high"] ["store", "low", "high"] (defScope (top 32)) := ⟨rfl, rfl, rfl, by decide +kernel, rfl, by decide +kernel, by decide +kernel⟩
theorem ok_law_range  (x : Fx K mg) : OkF P w K mg base CX0 3 "_law_range" ["store", "low", "high"] (spO K 2 St.sds (fun (a : Int × Int) => match a with | (z0, z1) => [sd z0, sd z1]) (fun s n => s.ok ∧ n.2 - n.1 < 1000000000) (fun s n (r : Int) s' => s'.ok ∧ n.1 ≤ r ∧ (r ≤ n.2 ∨ r = n.1))) := by
  obtain ⟨fd, F⟩ := x.f_law_range
  refine ⟨⟨fd, okT F sc_law_range (fun _ => rfl) (fun cdv A0 outer s H E a B hr hp => ?_), F.bindsN fun _ _ _ _ _ _ us hl => match us, hl with | [_, _, _], _ => rfl⟩, x.g_law_range, F.kp⟩
  obtain ⟨v_store, v_low, v_high⟩ := a
  try dsimp only at hp ⊢
  have nd := (sc_law_range).nd
  exact js_ret (by decide) (je_add (je_var (.s .z) (je_callO ((ok_law_take x).mono (by decide)) hr pass0 .z (ja_cons (je_add (je_sub (je_var (.s (.s .z)) (je_var (.s .z) (je_int (ja_nil (⟨_, _, .z, rfl, rfl, (by first | omega | (simp only [St.ok] at *; omega) | (subst_vars; first | omega | (simp only [St.ok] at *; omega))), fun r1_17 o1_17 p1_17 => ⟨_, .z, ⟨_, (.cons .z .nil), (by first | omega | (simp only [St.ok] at *; omega) | (subst_vars; first | omega | (simp only [St.ok] at *; omega)))⟩⟩⟩)))))))))))
theorem sc_law_chance : FnScope ["store", "parts"] ["store", "parts"] (defScope (top 33)) := ⟨rfl, rfl, rfl, by decide +kernel, rfl, by decide +kernel, by decide +kernel⟩
theorem ok_law_chance  (x : Fx K mg) : OkF P w K mg base CX0 3 "_law_chance" ["store", "parts"] (spO K 1 St.sds (fun (a : Int) => [sd a]) (fun s n => s.ok ∧ n < 1000000000) (fun s n (r : Bool) s' => s'.ok)) := by
  obtain ⟨fd, F⟩ := x.f_law_chance
  refine ⟨⟨fd, okT F sc_law_chance (fun _ => rfl) (fun cdv A0 outer s H E a B hr hp => ?_), F.bindsN fun _ _ _ _ _ _ us hl => match us, hl with | [_, _], _ => rfl⟩, x.g_law_chance, F.kp⟩
  obtain ⟨v_store, v_parts⟩ := a
  try dsimp only at hp ⊢
  have nd := (sc_law_chance).nd
  exact js_ret (by decide) (je_eq (je_callO ((ok_law_take x).mono (by decide)) hr pass0 .z (ja_cons (je_var (.s .z) (ja_nil (⟨_, _, .z, rfl, rfl, (by first | omega | (simp only [St.ok] at *; omega) | (subst_vars; first | omega | (simp only [St.ok] at *; omega))), fun r1_11 o1_11 p1_11 => ⟨_, .z, je_int (⟨_, (.cons .z .nil), (by first | omega | (simp only [St.ok] at *; omega) | (subst_vars; first | omega | (simp only [St.ok] at *; omega)))⟩)⟩⟩))))))
theorem sc_law_pick : FnScope ["store", "row"] ["store", "row"] (defScope (top 34)) := ⟨rfl, rfl, rfl, by decide +kernel, rfl, by decide +kernel, by decide +kernel⟩
theorem ok_law_pick {α : Type} [Rp α] (x : Fx K mg) : OkF P w K mg base CX0 3 "_law_pick" ["store", "row"] (spO K 1 St.sds (fun (a : List (α)) => [sd a]) (fun s n => s.ok ∧ 0 < n.length ∧ n.length < 1000000) (fun s n (r : α) s' => s'.ok ∧ r ∈ n)) := by
  obtain ⟨fd, F⟩ := x.f_law_pick
  refine ⟨⟨fd, okT F sc_law_pick (fun _ => rfl) (fun cdv A0 outer s H E a B hr hp => ?_), F.bindsN fun _ _ _ _ _ _ us hl => match us, hl with | [_, _], _ => rfl⟩, x.g_law_pick, F.kp⟩
  obtain ⟨v_store, v_row⟩ := a
  try dsimp only at hp ⊢
  have nd := (sc_law_pick).nd
  exact js_ret (by decide) (je_ix (je_var (.s .z) (je_callO ((ok_law_take x).mono (by decide)) hr pass0 .z (ja_cons (je_len x.b_len (je_var (.s .z) (ja_nil (⟨_, _, .z, rfl, rfl, (by first | omega | (simp only [St.ok] at *; omega) | (subst_vars; first | omega | (simp only [St.ok] at *; omega))), fun r1_15 o1_15 p1_15 => ⟨_, .z, ⟨(by first | omega | (simp only [St.ok] at *; omega) | (subst_vars; first | omega | (simp only [St.ok] at *; omega))), fun d1_11 hd1_11 => ⟨_, (.cons .z .nil), (by exact ⟨p1_15.1, List.mem_of_getElem? hd1_11⟩)⟩⟩⟩⟩))))))))
theorem ok_law_pickq {α : Type} [Rp α] (x : Fx K mg) : OkF P w K mg base CX0 3 "_law_pick" ["store", "row"] (spT K [true, true] (fun (a : St × List α) => [own a.1.sds, own (sds a.2)]) (fun a => a.1.ok ∧ 0 < a.2.length ∧ a.2.length < 1000000) (fun a (o : St) => [own o.sds, own (sds a.2)]) (fun a (r : α) o => o.ok ∧ r ∈ a.2)) := by
  obtain ⟨fd, F⟩ := x.f_law_pick
  refine ⟨⟨fd, okT F sc_law_pick (fun _ => rfl) (fun cdv A0 outer s H E a B hr hp => ?_), F.bindsN fun _ _ _ _ _ _ us hl => match us, hl with | [_, _], _ => rfl⟩, x.g_law_pick, F.kp⟩
  obtain ⟨v_store, v_row⟩ := a
  try dsimp only at hp ⊢
  have nd := (sc_law_pick).nd
  exact js_ret (by decide) (je_ixo (.s .z) (je_callO ((ok_law_take x).mono (by decide)) hr pass0 .z (ja_cons (je_leno x.b_len (.s .z) (ja_nil (⟨_, _, .z, rfl, rfl, (by first | omega | (simp only [St.ok] at *; omega) | (subst_vars; first | omega | (simp only [St.ok] at *; omega))), fun r1_15 o1_15 p1_15 => ⟨_, .z, ⟨_, (.s .z), (by first | omega | (simp only [St.ok] at *; omega) | (subst_vars; first | omega | (simp only [St.ok] at *; omega))), fun d1_11 hd1_11 => ⟨_, (.cons .z (.cons (.s .z) .nil)), (by exact ⟨p1_15.1, List.mem_of_getElem? hd1_11⟩)⟩⟩⟩⟩))))))
theorem sc_law_near : FnScope ["store", "low", "high"] ["store", "low", "high"] (defScope (top 35)) := ⟨rfl, rfl, rfl, by decide +kernel, rfl, by decide +kernel, by decide +kernel⟩
theorem ok_law_near  (x : Fx K mg) : OkF P w K mg base CX0 4 "_law_near" ["store", "low", "high"] (spO K 2 St.sds (fun (a : Int × Int) => match a with | (z0, z1) => [sd z0, sd z1]) (fun s n => s.ok ∧ n.1 ≤ n.2 ∧ n.2 - n.1 < 1000000000) (fun s n (r : Int) s' => s'.ok ∧ n.1 ≤ r ∧ r ≤ n.2)) := by
  obtain ⟨fd, F⟩ := x.f_law_near
  refine ⟨⟨fd, okT F sc_law_near (fun _ => rfl) (fun cdv A0 outer s H E a B hr hp => ?_), F.bindsN fun _ _ _ _ _ _ us hl => match us, hl with | [_, _, _], _ => rfl⟩, x.g_law_near, F.kp⟩
  obtain ⟨v_store, v_low, v_high⟩ := a
  try dsimp only at hp ⊢
  have nd := (sc_law_near).nd
  exact js_ifR (jt_bool (je_callO ((ok_law_chance x).mono (by decide)) hr pass0 .z (ja_cons (je_int (ja_nil (⟨_, _, .z, rfl, rfl, (by first | omega | (simp only [St.ok] at *; omega) | (subst_vars; first | omega | (simp only [St.ok] at *; omega))), fun r1_7 o1_7 p1_7 => ⟨_, .z, ⟨fun t1_7 => ⟨fun _ => js_ret (by decide) (je_callO ((ok_law_pick x).mono (by decide)) hr pass0 .z (ja_cons (je_new (jn_lst (ja_cons (je_var (.s .z) (ja_cons (je_var (.s (.s .z)) (ja_cons (je_min x.b_min rfl (je_add (je_var (.s .z) (je_int (je_var (.s (.s .z)) (ja_cons (je_max x.b_max rfl (je_sub (je_var (.s (.s .z)) (je_int (je_var (.s .z) (ja_nil (⟨[_, _, _, _], rfl, by simp, ⟨[_, _, _, _], rfl, ja_nil (⟨_, _, .z, rfl, rfl, (by simp only [List.length_cons, List.length_nil]; omega), fun r2_15 o2_15 p2_15 => ⟨_, .z, ⟨_, (.cons .z .nil), (by obtain ⟨h1, h2⟩ := p2_15; simp only [List.mem_cons, List.mem_nil_iff, or_false] at h2; refine ⟨h1, ?_, ?_⟩ <;> (rcases h2 with h | h | h | h <;> (try split at h) <;> omega))⟩⟩⟩)⟩⟩)))))))))))))))))))))), fun z => (nomatch z)⟩, fun t1_7 => ⟨fun z => (nomatch z), fun _ => js_ret (by decide) (je_callO ((ok_law_range x).mono (by decide)) hr pass0 .z (ja_cons (je_var (.s .z) (ja_cons (je_var (.s (.s .z)) (ja_nil (⟨_, ⟨_, _⟩, .z, rfl, rfl, (by first | omega | (simp only [St.ok] at *; omega) | (subst_vars; first | omega | (simp only [St.ok] at *; omega))), fun r3_11 o3_11 p3_11 => ⟨_, .z, ⟨_, (.cons .z .nil), (by first | omega | (simp only [St.ok] at *; omega) | (subst_vars; first | omega | (simp only [St.ok] at *; omega)))⟩⟩⟩)))))))⟩⟩⟩⟩))))))
end
end Lw
end
section
namespace Lw
open PySem PySem.Spec PyProof.Rows L2 Tyl
theorem erase_perm {α : Type} : ∀ {left : List α} {j : Nat} {d : α}, left[j]? = some d → (d :: left.eraseIdx j).Perm left
  | [], j, d, h => by simp at h
  | a :: l, 0, d, h => by simp at h; subst h; exact List.Perm.refl _
  | a :: l, j + 1, d, h => (List.Perm.swap _ _ _).trans (List.Perm.cons a (erase_perm (by simpa using h)))
theorem pop_perm {α : Type} {out left row : List α} {j : Nat} {d : α} (h : (out ++ left).Perm row) (hd : left[j]? = some d) : (out ++ [d] ++ left.eraseIdx j).Perm row := by
  obtain ⟨hj, e⟩ := List.getElem?_eq_some_iff.mp hd
  have h1 : (d :: left.eraseIdx j).Perm left := erase_perm hd
  rw [List.append_assoc]
  exact (List.Perm.append_left out h1).trans h
theorem pow10_le {a : Nat} (h : a ≤ 29) : (10 : Int) ^ a ≤ 10 ^ 29 := by
  have h1 := Nat.pow_le_pow_right (n := 10) (by omega) h
  exact_mod_cast h1
theorem perm_len2 {α : Type} {a b c : List α} (h : (a ++ b).Perm c) : a.length + b.length = c.length := by
  have := h.length_eq
  simpa using this

section
variable {P : Program} {w : World} {K : Fg} {mg : Str → Option Value} {base : Heap}
theorem sc_law_large : FnScope ["store", "figures", "edge", "many", "number", "power", "k"] ["store", "figures"] (defScope (top 36)) := ⟨rfl, rfl, rfl, by decide +kernel, rfl, by decide +kernel, by decide +kernel⟩
theorem ok_law_large  (x : Fx K mg) : OkF P w K mg base CX0 4 "_law_large" ["store", "figures"] (spO K 1 St.sds (fun (a : Int) => [sd a]) (fun s n => s.ok ∧ n = 29) (fun s n (r : Int) s' => s'.ok ∧ 0 ≤ r ∧ r ≤ 10 ^ 29)) := by
  obtain ⟨fd, F⟩ := x.f_law_large
  refine ⟨⟨fd, okT F sc_law_large (fun _ => rfl) (fun cdv A0 outer s H E a B hr hp => ?_), F.bindsN fun _ _ _ _ _ _ us hl => match us, hl with | [_, _], _ => rfl⟩, x.g_law_large, F.kp⟩
  obtain ⟨v_store, v_figures⟩ := a
  try dsimp only at hp ⊢
  have nd := (sc_law_large).nd
  have hps : PassesOwn (model (cxOf CX0 P w K mg base ["store", "figures", "edge", "many", "number", "power", "k"] "_law_large" (defScope (top 36)) (He.ga K "_law_large") cdv A0 outer s H E).prog (cxOf CX0 P w K mg base ["store", "figures", "edge", "many", "number", "power", "k"] "_law_large" (defScope (top 36)) (He.ga K "_law_large") cdv A0 outer s H E).w) (cxOf CX0 P w K mg base ["store", "figures", "edge", "many", "number", "power", "k"] "_law_large" (defScope (top 36)) (He.ga K "_law_large") cdv A0 outer s H E).A (cxOf CX0 P w K mg base ["store", "figures", "edge", "many", "number", "power", "k"] "_law_large" (defScope (top 36)) (He.ga K "_law_large") cdv A0 outer s H E).env (cxOf CX0 P w K mg base ["store", "figures", "edge", "many", "number", "power", "k"] "_law_large" (defScope (top 36)) (He.ga K "_law_large") cdv A0 outer s H E).xe := PassesOwn.leaving
  exact js_asgv nd (je_callO ((ok_law_take x).mono (by decide)) hr pass0 .z (ja_cons (je_int (ja_nil (⟨_, _, .z, rfl, rfl, (by first | omega | (simp only [St.ok] at *; omega) | (subst_vars; first | omega | (simp only [St.ok] at *; omega))), fun r1_11 o1_11 p1_11 => ⟨_, .z, fun v_edge e_edge => ⟨_, (.s (.s .z)), js_asgv nd (je_callO ((ok_law_range x).mono (by decide)) hr pass0 .z (ja_cons (je_int (ja_cons (je_var (.s .z) (ja_nil (⟨_, ⟨_, _⟩, .z, rfl, rfl, (by first | omega | (simp only [St.ok] at *; omega) | (subst_vars; first | omega | (simp only [St.ok] at *; omega))), fun r2_11 o2_11 p2_11 => ⟨_, .z, fun v_many e_many => ⟨_, (.s (.s (.s .z))), js_asg nd (je_int (⟨_, (.s (.s (.s (.s .z)))), js_asg nd (je_int (⟨_, (.s (.s (.s (.s (.s .z))))), js_range nd x.b_range hps rfl (je_var (.s (.s (.s .z))) (⟨(St × Int × Int), (fun (s : (St × Int × Int)) => match s with | (z0, z1, z2) => [(0, some (own (St.sds z0))), (4, some (sd z1)), (5, some (sd z2))]), fun (i : Nat) (s : (St × Int × Int)) => s.1.ok ∧ 0 ≤ s.2.1 ∧ s.2.1 < 10 ^ i ∧ 0 ≤ s.2.2 ∧ s.2.2 ≤ 10 ^ i, (by first | omega | (simp only [St.ok] at *; omega) | (subst_vars; first | omega | (simp only [St.ok] at *; omega))), ⟨(_, _, _), (.keep (.keep (.keep (.keep (.keep (.keep (.keep .nil))))))), (by subst_vars; simp only [St.ok] at *; simp; omega)⟩, fun i5 ⟨s5_store, s5_number, s5_power⟩ hi5 hI5 => ⟨_, (.s (.s (.s (.s (.s (.s .z)))))), js_ifm (S := (St × Int)) (fun (s : (St × Int)) => match s with | (z0, z1) => [(0, some (own (St.sds z0))), (4, some (sd z1))]) (fun (s : (St × Int)) => s.1.ok ∧ 0 ≤ s.2 ∧ s.2 < 10 ^ (i5 + 1)) (fun ⟨s6_store, s6_number⟩ hJ6 => js_if1 (jt_gt (je_var (.s (.s (.s (.s (.s (.s .z)))))) (je_int (⟨fun t10_11 => ⟨fun _ => js_asgv nd (je_mul (je_var (.s (.s (.s (.s (.s .z))))) (je_int (⟨(by unfold CMul; omega), fun v_power e_power => ⟨_, (.s (.s (.s (.s (.s .z))))), js_end (⟨(_, _, _), (.keep (.keep (.keep (.keep (.keep (.keep (.drop .nil))))))), (by subst_vars; have pw : (10 : Int) ^ (i5 + 1) = 10 * 10 ^ i5 := (by rw [Int.pow_succ]; omega); have pw0 : (0 : Int) < 10 ^ i5 := (by exact Int.pow_pos (by omega)); simp only [St.ok] at *; omega)⟩)⟩⟩)))), fun z => (nomatch z)⟩, fun t10_11 => ⟨fun z => (nomatch z), fun _ => js_end (⟨(_, _, _), (.keep (.keep (.keep (.keep (.keep (.keep (.drop .nil))))))), (by subst_vars; have pw : (10 : Int) ^ (i5 + 1) = 10 * 10 ^ i5 := (by rw [Int.pow_succ]; omega); have pw0 : (0 : Int) < 10 ^ i5 := (by exact Int.pow_pos (by omega)); simp only [St.ok] at *; omega)⟩)⟩⟩))))) (jt_gt (je_var (.s (.s .z)) (je_int (⟨fun t6_11 => ⟨fun _ => js_asgv nd (je_add (je_mul (je_var (.s (.s (.s (.s .z)))) (je_int (⟨(by unfold CMul; omega), je_callO ((ok_law_take x).mono (by decide)) hr pass0 .z (ja_cons (je_int (ja_nil (⟨_, _, .z, rfl, rfl, (by first | omega | (simp only [St.ok] at *; omega) | (subst_vars; first | omega | (simp only [St.ok] at *; omega))), fun r7_35 o7_35 p7_35 => ⟨_, .z, fun v_number e_number => ⟨_, (.s (.s (.s (.s .z)))), js_end (⟨(_, _), (.keep (.keep (.keep (.keep (.keep (.keep (.keep .nil))))))), (by subst_vars; have pw : (10 : Int) ^ (i5 + 1) = 10 * 10 ^ i5 := (by rw [Int.pow_succ]; omega); have pw0 : (0 : Int) < 10 ^ i5 := (by exact Int.pow_pos (by omega)); simp only [St.ok] at *; omega)⟩)⟩⟩⟩))))⟩))))), fun z => (nomatch z)⟩, fun t6_11 => ⟨fun z => (nomatch z), fun _ => js_asgv nd (je_add (je_mul (je_var (.s (.s (.s (.s .z)))) (je_int (⟨(by unfold CMul; omega), je_int (fun v_number e_number => ⟨_, (.s (.s (.s (.s .z)))), js_end (⟨(_, _), (.keep (.keep (.keep (.keep (.keep (.keep (.keep .nil))))))), (by subst_vars; have pw : (10 : Int) ^ (i5 + 1) = 10 * 10 ^ i5 := (by rw [Int.pow_succ]; omega); have pw0 : (0 : Int) < 10 ^ i5 := (by exact Int.pow_pos (by omega)); simp only [St.ok] at *; omega)⟩)⟩)⟩)))))⟩⟩))))⟩, fun ⟨ts5_store, ts5_number, ts5_power⟩ thI5 => js_ifR (jt_eq (je_var (.s (.s .z)) (je_int (⟨fun t12_7 => ⟨fun _ => js_ret (by decide) (je_int (⟨_, (.cons .z .nil), (by have pm : (10 : Int) ^ v_many.toNat ≤ 10 ^ 29 := (by exact pow10_le (by simp only [St.ok] at *; omega)); have pm1 : (0 : Int) < 10 ^ v_many.toNat := (by exact Int.pow_pos (by omega)); simp only [St.ok] at *; omega)⟩)), fun z => (nomatch z)⟩, fun t12_7 => ⟨fun z => (nomatch z), fun _ => js_ifR (jt_eq (je_var (.s (.s .z)) (je_int (⟨fun t14_7 => ⟨fun _ => js_ret (by decide) (je_int (⟨_, (.cons .z .nil), (by have pm : (10 : Int) ^ v_many.toNat ≤ 10 ^ 29 := (by exact pow10_le (by simp only [St.ok] at *; omega)); have pm1 : (0 : Int) < 10 ^ v_many.toNat := (by exact Int.pow_pos (by omega)); simp only [St.ok] at *; omega)⟩)), fun z => (nomatch z)⟩, fun t14_7 => ⟨fun z => (nomatch z), fun _ => js_ifR (jt_eq (je_var (.s (.s .z)) (je_int (⟨fun t16_7 => ⟨fun _ => js_ret (by decide) (je_var (.s (.s (.s (.s (.s .z))))) (⟨_, (.cons .z .nil), (by have pm : (10 : Int) ^ v_many.toNat ≤ 10 ^ 29 := (by exact pow10_le (by simp only [St.ok] at *; omega)); have pm1 : (0 : Int) < 10 ^ v_many.toNat := (by exact Int.pow_pos (by omega)); simp only [St.ok] at *; omega)⟩)), fun z => (nomatch z)⟩, fun t16_7 => ⟨fun z => (nomatch z), fun _ => js_ret (by decide) (je_var (.s (.s (.s (.s .z)))) (⟨_, (.cons .z .nil), (by have pm : (10 : Int) ^ v_many.toNat ≤ 10 ^ 29 := (by exact pow10_le (by simp only [St.ok] at *; omega)); have pm1 : (0 : Int) < 10 ^ v_many.toNat := (by exact Int.pow_pos (by omega)); simp only [St.ok] at *; omega)⟩))⟩⟩))))⟩⟩))))⟩⟩))))⟩))⟩))⟩))⟩⟩⟩)))))))⟩⟩⟩)))))
theorem sc_law_mixed : FnScope ["store", "row", "left", "out", "many", "k"] ["store", "row"] (defScope (top 37)) := ⟨rfl, rfl, rfl, by decide +kernel, rfl, by decide +kernel, by decide +kernel⟩
theorem ok_law_mixed {α : Type} [Rp α] (x : Fx K mg) : OkF P w K mg base CX0 3 "_law_mixed" ["store", "row"] (spO K 1 St.sds (fun (a : List (α)) => [sd a]) (fun s n => s.ok ∧ n.length < 100000) (fun s n (r : List α) s' => s'.ok ∧ r.Perm n)) := by
  obtain ⟨fd, F⟩ := x.f_law_mixed
  refine ⟨⟨fd, okT F sc_law_mixed (fun _ => rfl) (fun cdv A0 outer s H E a B hr hp => ?_), F.bindsN fun _ _ _ _ _ _ us hl => match us, hl with | [_, _], _ => rfl⟩, x.g_law_mixed, F.kp⟩
  obtain ⟨v_store, v_row⟩ := a
  try dsimp only at hp ⊢
  have nd := (sc_law_mixed).nd
  have hps : PassesOwn (model (cxOf CX0 P w K mg base ["store", "row", "left", "out", "many", "k"] "_law_mixed" (defScope (top 37)) (He.ga K "_law_mixed") cdv A0 outer s H E).prog (cxOf CX0 P w K mg base ["store", "row", "left", "out", "many", "k"] "_law_mixed" (defScope (top 37)) (He.ga K "_law_mixed") cdv A0 outer s H E).w) (cxOf CX0 P w K mg base ["store", "row", "left", "out", "many", "k"] "_law_mixed" (defScope (top 37)) (He.ga K "_law_mixed") cdv A0 outer s H E).A (cxOf CX0 P w K mg base ["store", "row", "left", "out", "many", "k"] "_law_mixed" (defScope (top 37)) (He.ga K "_law_mixed") cdv A0 outer s H E).env (cxOf CX0 P w K mg base ["store", "row", "left", "out", "many", "k"] "_law_mixed" (defScope (top 37)) (He.ga K "_law_mixed") cdv A0 outer s H E).xe := PassesOwn.leaving
  exact js_asgo nd (jn_copy x.b_list (je_var (.s .z) (⟨_, rfl, fun v_left e_left => ⟨_, (.s (.s .z)), js_asgo nd (jn_lst (ja_nil (⟨[], rfl, by simp, ⟨([] : List (α)), rfl, fun v_out e_out => ⟨_, (.s (.s (.s .z))), js_asgv nd (je_leno x.b_len (.s (.s .z)) (fun v_many e_many => ⟨_, (.s (.s (.s (.s .z)))), js_range nd x.b_range hps rfl (je_var (.s (.s (.s (.s .z)))) (⟨(St × (List (α)) × (List (α))), (fun (s : (St × (List (α)) × (List (α)))) => match s with | (z0, z1, z2) => [(0, some (own (St.sds z0))), (2, some (own (sds z1))), (3, some (own (sds z2)))]), fun (i : Nat) (s : (St × (List (α)) × (List (α)))) => s.1.ok ∧ (s.2.2 ++ s.2.1).Perm v_row ∧ s.2.2.length = i, (by first | omega | (simp only [St.ok] at *; omega) | (subst_vars; first | omega | (simp only [St.ok] at *; omega))), ⟨(_, _, _), (.keep (.keep (.keep (.keep (.keep (.keep .nil)))))), (by subst_vars; exact ⟨hp.1, by simp, rfl⟩)⟩, fun i4 ⟨s4_store, s4_left, s4_out⟩ hi4 hI4 => ⟨_, (.s (.s (.s (.s (.s .z))))), js_appo (.s (.s (.s .z))) (je_popo (.s (.s .z)) (je_callO ((ok_law_take x).mono (by decide)) hr pass0 .z (ja_cons (je_sub (je_var (.s (.s (.s (.s .z)))) (je_var (.s (.s (.s (.s (.s .z))))) (ja_nil (⟨_, _, .z, rfl, rfl, (by have := perm_len2 hI4.2.1; dsimp only [St.ok] at *; subst_vars; omega), fun r5_28 o5_28 p5_28 => ⟨_, .z, ⟨_, (.s (.s .z)), (by have := perm_len2 hI4.2.1; dsimp only at *; subst_vars; omega), fun d5_19 hd5_19 => ⟨_, (.s (.s .z)), ⟨_, _, (.s (.s (.s .z))), (by have := perm_len2 hI4.2.1; dsimp only at *; subst_vars; omega), (.s (.s (.s .z))), js_end (⟨(_, _, _), (.keep (.keep (.keep (.keep (.keep (.drop .nil)))))), (by refine ⟨p5_28.1, pop_perm hI4.2.1 hd5_19, ?_⟩; have := hI4.2.2; dsimp only at *; simp only [List.length_append, List.length_cons, List.length_nil]; omega)⟩)⟩⟩⟩⟩⟩))))))))⟩, fun ⟨ts4_store, ts4_left, ts4_out⟩ thI4 => js_frz (.s (.s (.s .z))) fz_own (.s (.s (.s .z))) (.cons .z .nil) (js_ret (by decide) (je_var (.s (.s (.s .z))) (⟨_, (.cons .z .nil), (by have h1 := perm_len2 thI4.2.1; have h2 := thI4.2.2; refine ⟨thI4.1, ?_⟩; have h3 : ts4_left = [] := (by apply List.eq_nil_of_length_eq_zero; dsimp only at *; subst_vars; omega); have h4 := thI4.2.1; dsimp only at h4; rw [h3, List.append_nil] at h4; exact h4)⟩)))⟩))⟩))⟩⟩⟩)))⟩⟩)))
theorem sc_law_outside : FnScope ["store", "low", "high", "kind"] ["store", "low", "high"] (defScope (top 38)) := ⟨rfl, rfl, rfl, by decide +kernel, rfl, by decide +kernel, by decide +kernel⟩
theorem ok_law_outside  (x : Fx K mg) : OkF P w K mg base CX0 5 "_law_outside" ["store", "low", "high"] (spO K 2 St.sds (fun (a : Int × Int) => match a with | (z0, z1) => [sd z0, sd z1]) (fun s n => s.ok ∧ n.1 ≤ n.2) (fun s n (r : Int) s' => s'.ok ∧ (r < n.1 ∨ n.2 < r) ∧ n.1 - 10 ^ 30 ≤ r ∧ r ≤ n.2 + 10 ^ 30)) := by
  obtain ⟨fd, F⟩ := x.f_law_outside
  refine ⟨⟨fd, okT F sc_law_outside (fun _ => rfl) (fun cdv A0 outer s H E a B hr hp => ?_), F.bindsN fun _ _ _ _ _ _ us hl => match us, hl with | [_, _, _], _ => rfl⟩, x.g_law_outside, F.kp⟩
  obtain ⟨v_store, v_low, v_high⟩ := a
  try dsimp only at hp ⊢
  have nd := (sc_law_outside).nd
  exact js_asgv nd (je_callO ((ok_law_take x).mono (by decide)) hr pass0 .z (ja_cons (je_int (ja_nil (⟨_, _, .z, rfl, rfl, (by first | omega | (simp only [St.ok] at *; omega) | (subst_vars; first | omega | (simp only [St.ok] at *; omega))), fun r1_11 o1_11 p1_11 => ⟨_, .z, fun v_kind e_kind => ⟨_, (.s (.s (.s .z))), js_ifR (jt_eq (je_var (.s (.s (.s .z))) (je_int (⟨fun t2_7 => ⟨fun _ => js_ret (by decide) (je_sub (je_var (.s .z) (je_int (⟨_, (.cons .z .nil), (by first | omega | (simp only [St.ok] at *; omega) | (subst_vars; first | omega | (simp only [St.ok] at *; omega)))⟩)))), fun z => (nomatch z)⟩, fun t2_7 => ⟨fun z => (nomatch z), fun _ => js_ifR (jt_eq (je_var (.s (.s (.s .z))) (je_int (⟨fun t4_7 => ⟨fun _ => js_ret (by decide) (je_add (je_var (.s (.s .z)) (je_int (⟨_, (.cons .z .nil), (by first | omega | (simp only [St.ok] at *; omega) | (subst_vars; first | omega | (simp only [St.ok] at *; omega)))⟩)))), fun z => (nomatch z)⟩, fun t4_7 => ⟨fun z => (nomatch z), fun _ => js_ifR (jt_eq (je_var (.s (.s (.s .z))) (je_int (⟨fun t6_7 => ⟨fun _ => js_ret (by decide) (je_sub (je_sub (je_var (.s .z) (je_int (je_callO ((ok_law_take x).mono (by decide)) hr pass0 .z (ja_cons (je_int (ja_nil (⟨_, _, .z, rfl, rfl, (by first | omega | (simp only [St.ok] at *; omega) | (subst_vars; first | omega | (simp only [St.ok] at *; omega))), fun r7_25 o7_25 p7_25 => ⟨_, .z, ⟨_, (.cons .z .nil), (by first | omega | (simp only [St.ok] at *; omega) | (subst_vars; first | omega | (simp only [St.ok] at *; omega)))⟩⟩⟩))))))))), fun z => (nomatch z)⟩, fun t6_7 => ⟨fun z => (nomatch z), fun _ => js_ifR (jt_eq (je_var (.s (.s (.s .z))) (je_int (⟨fun t8_7 => ⟨fun _ => js_ret (by decide) (je_add (je_add (je_var (.s (.s .z)) (je_int (je_callO ((ok_law_take x).mono (by decide)) hr pass0 .z (ja_cons (je_int (ja_nil (⟨_, _, .z, rfl, rfl, (by first | omega | (simp only [St.ok] at *; omega) | (subst_vars; first | omega | (simp only [St.ok] at *; omega))), fun r9_26 o9_26 p9_26 => ⟨_, .z, ⟨_, (.cons .z .nil), (by first | omega | (simp only [St.ok] at *; omega) | (subst_vars; first | omega | (simp only [St.ok] at *; omega)))⟩⟩⟩))))))))), fun z => (nomatch z)⟩, fun t8_7 => ⟨fun z => (nomatch z), fun _ => js_ifR (jt_eq (je_var (.s (.s (.s .z))) (je_int (⟨fun t10_7 => ⟨fun _ => js_ret (by decide) (je_sub (je_sub (je_var (.s .z) (je_int (je_callO ((ok_law_large x).mono (by decide)) hr pass0 .z (ja_cons (je_int (ja_nil (⟨_, _, .z, rfl, rfl, (by first | omega | (simp only [St.ok] at *; omega) | (subst_vars; first | omega | (simp only [St.ok] at *; omega))), fun r11_25 o11_25 p11_25 => ⟨_, .z, ⟨_, (.cons .z .nil), (by first | omega | (simp only [St.ok] at *; omega) | (subst_vars; first | omega | (simp only [St.ok] at *; omega)))⟩⟩⟩))))))))), fun z => (nomatch z)⟩, fun t10_7 => ⟨fun z => (nomatch z), fun _ => js_ret (by decide) (je_add (je_add (je_var (.s (.s .z)) (je_int (je_callO ((ok_law_large x).mono (by decide)) hr pass0 .z (ja_cons (je_int (ja_nil (⟨_, _, .z, rfl, rfl, (by first | omega | (simp only [St.ok] at *; omega) | (subst_vars; first | omega | (simp only [St.ok] at *; omega))), fun r12_22 o12_22 p12_22 => ⟨_, .z, ⟨_, (.cons .z .nil), (by first | omega | (simp only [St.ok] at *; omega) | (subst_vars; first | omega | (simp only [St.ok] at *; omega)))⟩⟩⟩)))))))))⟩⟩))))⟩⟩))))⟩⟩))))⟩⟩))))⟩⟩))))⟩⟩⟩)))))
theorem sc_law_size : FnScope ["store", "most"] ["store", "most"] (defScope (top 42)) := ⟨rfl, rfl, rfl, by decide +kernel, rfl, by decide +kernel, by decide +kernel⟩
theorem ok_law_size  (x : Fx K mg) : OkF P w K mg base CX0 4 "_law_size" ["store", "most"] (spO K 1 St.sds (fun (a : Int) => [sd a]) (fun s n => s.ok ∧ 1 ≤ n ∧ n ≤ 100) (fun s n (r : Int) s' => s'.ok ∧ 1 ≤ r ∧ r ≤ n)) := by
  obtain ⟨fd, F⟩ := x.f_law_size
  refine ⟨⟨fd, okT F sc_law_size (fun _ => rfl) (fun cdv A0 outer s H E a B hr hp => ?_), F.bindsN fun _ _ _ _ _ _ us hl => match us, hl with | [_, _], _ => rfl⟩, x.g_law_size, F.kp⟩
  obtain ⟨v_store, v_most⟩ := a
  try dsimp only at hp ⊢
  have nd := (sc_law_size).nd
  exact js_ifR (jt_bool (je_callO ((ok_law_chance x).mono (by decide)) hr pass0 .z (ja_cons (je_int (ja_nil (⟨_, _, .z, rfl, rfl, (by first | omega | (simp only [St.ok] at *; omega) | (subst_vars; first | omega | (simp only [St.ok] at *; omega))), fun r1_7 o1_7 p1_7 => ⟨_, .z, ⟨fun t1_7 => ⟨fun _ => js_ret (by decide) (je_min x.b_min rfl (je_var (.s .z) (je_callO ((ok_law_pick x).mono (by decide)) hr pass0 .z (ja_cons (je_new (jn_lst (ja_cons (je_int (ja_cons (je_int (ja_cons (je_int (ja_cons (je_int (ja_cons (je_var (.s .z) (ja_nil (⟨[_, _, _, _, _], rfl, by simp, ⟨[_, _, _, _, _], rfl, ja_nil (⟨_, _, .z, rfl, rfl, (by simp only [List.length_cons, List.length_nil]; omega), fun r2_25 o2_25 p2_25 => ⟨_, .z, ⟨_, (.cons .z .nil), (by obtain ⟨h1, h2⟩ := p2_25; simp only [List.mem_cons, List.mem_nil_iff, or_false] at h2; refine ⟨h1, ?_, ?_⟩ <;> split <;> omega)⟩⟩⟩)⟩⟩)))))))))))))))))), fun z => (nomatch z)⟩, fun t1_7 => ⟨fun z => (nomatch z), fun _ => js_ret (by decide) (je_min x.b_min rfl (je_var (.s .z) (je_callO ((ok_law_range x).mono (by decide)) hr pass0 .z (ja_cons (je_int (ja_cons (je_int (ja_nil (⟨_, ⟨_, _⟩, .z, rfl, rfl, (by first | omega | (simp only [St.ok] at *; omega) | (subst_vars; first | omega | (simp only [St.ok] at *; omega))), fun r3_21 o3_21 p3_21 => ⟨_, .z, ⟨_, (.cons .z .nil), (by refine ⟨p3_21.1, ?_, ?_⟩ <;> split <;> omega)⟩⟩⟩)))))))))⟩⟩⟩⟩))))))
end
end Lw
end
section
namespace Lw
open PySem PySem.Spec PyProof.Rows L2 Tyl
/-- pairs in range with a rank -/
def Ac (n : Int) (ps : List (Int × Int)) : Prop := ∃ r : Int → Nat, ∀ p ∈ ps, (0 ≤ p.1 ∧ p.1 < n ∧ 0 ≤ p.2 ∧ p.2 < n) ∧ r p.1 < r p.2
def Bef (line : List Int) (u v : Int) : Prop := ∃ i j : Nat, i < j ∧ line[i]? = some u ∧ line[j]? = some v
theorem rgI_mem {a b x : Int} : x ∈ rgI a b ↔ a ≤ x ∧ x < b := by
  unfold rgI
  rw [List.mem_map]
  constructor
  · rintro ⟨i, h1, rfl⟩
    rw [List.mem_range] at h1
    omega
  · intro h
    exact ⟨(x - a).toNat, List.mem_range.mpr (by omega), by omega⟩
theorem rgI_nodup {a b : Int} : (rgI a b).Nodup := by
  unfold rgI
  unfold List.Nodup
  rw [List.pairwise_map]
  refine List.nodup_range.imp ?_
  intro i j h
  omega
theorem idx_at {line : List Int} (nd : line.Nodup) {i : Nat} {u : Int} (h : line[i]? = some u) : line.idxOf u = i := by
  obtain ⟨hi, e⟩ := List.getElem?_eq_some_iff.mp h
  have hm : u ∈ line := List.mem_of_getElem? h
  have h2 : line[line.idxOf u]? = some u := by
    have h3 := List.idxOf_lt_length_of_mem hm
    rw [List.getElem?_eq_getElem h3, List.getElem_idxOf]
  exact ((List.getElem?_inj (List.idxOf_lt_length_of_mem hm) nd).mp (h2.trans h.symm))
theorem ac_of_bef {n : Int} {line : List Int} {ps : List (Int × Int)} (h : line.Perm (rgI 0 n)) (hp : ∀ p ∈ ps, Bef line p.1 p.2) : Ac n ps := by
  have nd : line.Nodup := h.nodup_iff.mpr rgI_nodup
  refine ⟨fun v => line.idxOf v, fun p hm => ?_⟩
  obtain ⟨i, j, hlt, h1, h2⟩ := hp p hm
  have m1 := rgI_mem.mp (h.mem_iff.mp (List.mem_of_getElem? h1))
  have m2 := rgI_mem.mp (h.mem_iff.mp (List.mem_of_getElem? h2))
  refine ⟨⟨m1.1, m1.2, m2.1, m2.2⟩, ?_⟩
  show line.idxOf p.1 < line.idxOf p.2
  rw [idx_at nd h1, idx_at nd h2]
  exact hlt
theorem Ac.sub {n : Int} {ps qs : List (Int × Int)} (h : Ac n ps) (s : ∀ p ∈ qs, p ∈ ps) : Ac n qs := let ⟨r, k⟩ := h; ⟨r, fun p hm => k p (s p hm)⟩
theorem Ac.perm {n : Int} {ps qs : List (Int × Int)} (h : Ac n ps) (s : qs.Perm ps) : Ac n qs := h.sub fun p hm => s.mem_iff.mp hm
theorem bef_add {line : List Int} {ps : List (Int × Int)} {i k : Nat} {u v : Int} (h : ∀ p ∈ ps, Bef line p.1 p.2) (hik : i < k) (h1 : line[((i : Nat) : Int).toNat]? = some u) (h2 : line[((k : Nat) : Int).toNat]? = some v) : ∀ p ∈ ps ++ [(u, v)], Bef line p.1 p.2 := by
  intro p hp
  rcases List.mem_append.mp hp with q | q
  · exact h p q
  · rw [List.mem_singleton.mp q]
    exact ⟨i, k, hik, h1, h2⟩
theorem rgI_len2 (a b : Int) : (rgI a b).length = (b - a).toNat := by unfold rgI; simp
section
variable {P : Program} {w : World} {K : Fg} {mg : Str → Option Value} {base : Heap}
theorem sc_law_wild_pairs : FnScope ["store", "size", "line", "thick", "pairs", "k", "m"] ["store", "size"] (defScope (top 43)) := ⟨rfl, rfl, rfl, by decide +kernel, rfl, by decide +kernel, by decide +kernel⟩
theorem ok_law_wild_pairs  (x : Fx K mg) : OkF P w K mg base CX0 4 "_law_wild_pairs" ["store", "size"] (spO K 1 St.sds (fun (a : Int) => [sd a]) (fun s n => s.ok ∧ 1 ≤ n ∧ n ≤ 20) (fun s n (r : List (Int × Int)) s' => s'.ok ∧ Ac n r ∧ r.length ≤ 401)) := by
  obtain ⟨fd, F⟩ := x.f_law_wild_pairs
  refine ⟨⟨fd, okT F sc_law_wild_pairs (fun _ => rfl) (fun cdv A0 outer s H E a B hr hp => ?_), F.bindsN fun _ _ _ _ _ _ us hl => match us, hl with | [_, _], _ => rfl⟩, x.g_law_wild_pairs, F.kp⟩
  obtain ⟨v_store, v_size⟩ := a
  try dsimp only at hp ⊢
  have nd := (sc_law_wild_pairs).nd
  have hps : PassesOwn (model (cxOf CX0 P w K mg base ["store", "size", "line", "thick", "pairs", "k", "m"] "_law_wild_pairs" (defScope (top 43)) (He.ga K "_law_wild_pairs") cdv A0 outer s H E).prog (cxOf CX0 P w K mg base ["store", "size", "line", "thick", "pairs", "k", "m"] "_law_wild_pairs" (defScope (top 43)) (He.ga K "_law_wild_pairs") cdv A0 outer s H E).w) (cxOf CX0 P w K mg base ["store", "size", "line", "thick", "pairs", "k", "m"] "_law_wild_pairs" (defScope (top 43)) (He.ga K "_law_wild_pairs") cdv A0 outer s H E).A (cxOf CX0 P w K mg base ["store", "size", "line", "thick", "pairs", "k", "m"] "_law_wild_pairs" (defScope (top 43)) (He.ga K "_law_wild_pairs") cdv A0 outer s H E).env (cxOf CX0 P w K mg base ["store", "size", "line", "thick", "pairs", "k", "m"] "_law_wild_pairs" (defScope (top 43)) (He.ga K "_law_wild_pairs") cdv A0 outer s H E).xe := PassesOwn.leaving
  exact js_asgv nd (je_callO ((ok_law_mixed x).mono (by decide)) hr pass0 .z (ja_cons (je_new (jn_range1 x.b_list x.b_range rfl (je_var (.s .z) (⟨(by first | omega | (simp only [St.ok] at *; omega) | (subst_vars; first | omega | (simp only [St.ok] at *; omega))), ⟨_, rfl, ja_nil (⟨_, _, .z, rfl, rfl, (by refine ⟨hp.1, ?_⟩; rw [rgI_len2]; omega), fun r1_11 o1_11 p1_11 => ⟨_, .z, fun v_line e_line => ⟨_, (.s (.s .z)), js_ifm (S := (St × (List Int))) (fun (s : (St × (List Int))) => match s with | (z0, z1) => [(0, some (own (St.sds z0))), (2, some (sd z1))]) (fun (s : (St × (List Int))) => s.1.ok ∧ s.2.Perm (rgI 0 v_size)) (fun ⟨s2_store, s2_line⟩ hJ2 => js_asgv nd (je_callO ((ok_law_take x).mono (by decide)) hr pass0 .z (ja_cons (je_int (ja_nil (⟨_, _, .z, rfl, rfl, (by first | omega | (simp only [St.ok] at *; omega) | (subst_vars; first | omega | (simp only [St.ok] at *; omega))), fun r4_12 o4_12 p4_12 => ⟨_, .z, fun v_thick e_thick => ⟨_, (.s (.s (.s .z))), js_asgo nd (jn_lst (ja_nil (⟨[], rfl, by simp, ⟨([] : List (Int × Int)), rfl, fun v_pairs e_pairs => ⟨_, (.s (.s (.s (.s .z)))), js_range nd x.b_range hps rfl (je_var (.s .z) (⟨(St × (List (Int × Int))), (fun (s : (St × (List (Int × Int)))) => match s with | (z0, z1) => [(0, some (own (St.sds z0))), (4, some (own (sds z1)))]), fun (i : Nat) (s : (St × (List (Int × Int)))) => s.1.ok ∧ (∀ p ∈ s.2, Bef s2_line p.1 p.2) ∧ s.2.length ≤ 20 * i, (by first | omega | (simp only [St.ok] at *; omega) | (subst_vars; first | omega | (simp only [St.ok] at *; omega))), ⟨(_, _), (.keep (.keep (.keep (.keep (.keep (.keep (.keep .nil))))))), (by subst e_pairs; exact ⟨p4_12.1, by simp, by simp⟩)⟩, fun i6 ⟨s6_store, s6_pairs⟩ hi6 hI6 => ⟨_, (.s (.s (.s (.s (.s .z))))), js_range nd x.b_range hps rfl (je_var (.s (.s (.s (.s (.s .z))))) (⟨(St × (List (Int × Int))), (fun (s : (St × (List (Int × Int)))) => match s with | (z0, z1) => [(0, some (own (St.sds z0))), (4, some (own (sds z1)))]), fun (i : Nat) (s : (St × (List (Int × Int)))) => s.1.ok ∧ (∀ p ∈ s.2, Bef s2_line p.1 p.2) ∧ s.2.length ≤ 20 * i6 + i, (by first | omega | (simp only [St.ok] at *; omega) | (subst_vars; first | omega | (simp only [St.ok] at *; omega))), ⟨(_, _), (.keep (.keep (.keep (.keep (.keep (.keep (.keep .nil))))))), (by exact ⟨hI6.1, hI6.2.1, by have := hI6.2.2; dsimp only at *; omega⟩)⟩, fun i7 ⟨s7_store, s7_pairs⟩ hi7 hI7 => ⟨_, (.s (.s (.s (.s (.s (.s .z)))))), js_if1 (jt_lt (je_callO ((ok_law_take x).mono (by decide)) hr pass0 .z (ja_cons (je_int (ja_nil (⟨_, _, .z, rfl, rfl, (by first | omega | (simp only [St.ok] at *; omega) | (subst_vars; first | omega | (simp only [St.ok] at *; omega))), fun r8_15 o8_15 p8_15 => ⟨_, .z, je_var (.s (.s (.s .z))) (⟨fun t8_15 => ⟨fun _ => js_appo (.s (.s (.s (.s .z)))) (je_pair (je_ix (je_var (.s (.s .z)) (je_var (.s (.s (.s (.s (.s (.s .z)))))) (⟨(by have := hJ2.2.length_eq; rw [rgI_len2] at this; dsimp only at *; omega), fun d9_30 hd9_30 => je_ix (je_var (.s (.s .z)) (je_var (.s (.s (.s (.s (.s .z))))) (⟨(by have := hJ2.2.length_eq; rw [rgI_len2] at this; dsimp only at *; omega), fun d9_39 hd9_39 => ⟨_, _, (.s (.s (.s (.s .z)))), (by have := hI7.2.2; dsimp only at *; omega), (.s (.s (.s (.s .z)))), js_end (⟨(_, _), (.keep (.keep (.keep (.keep (.keep (.keep (.drop .nil))))))), (by first | exact ⟨p8_15.1, bef_add hI7.2.1 (by omega) hd9_30 hd9_39, by have := hI7.2.2; dsimp only at *; rw [List.length_append]; simp only [List.length_cons, List.length_nil]; omega⟩ | exact ⟨p8_15.1, hI7.2.1, by have := hI7.2.2; dsimp only at *; omega⟩)⟩)⟩⟩)))⟩))))), fun z => (nomatch z)⟩, fun t8_15 => ⟨fun z => (nomatch z), fun _ => js_end (⟨(_, _), (.keep (.keep (.keep (.keep (.keep (.keep (.drop .nil))))))), (by first | exact ⟨p8_15.1, bef_add hI7.2.1 (by omega) hd9_30 hd9_39, by have := hI7.2.2; dsimp only at *; rw [List.length_append]; simp only [List.length_cons, List.length_nil]; omega⟩ | exact ⟨p8_15.1, hI7.2.1, by have := hI7.2.2; dsimp only at *; omega⟩)⟩)⟩⟩)⟩⟩))))))⟩, fun ⟨ts7_store, ts7_pairs⟩ thI7 => js_end (⟨(_, _), (.keep (.keep (.keep (.keep (.keep (.drop (.keep .nil))))))), (by exact ⟨thI7.1, thI7.2.1, by have := thI7.2.2; dsimp only at *; omega⟩)⟩)⟩))⟩, fun ⟨ts6_store, ts6_pairs⟩ thI6 => js_ifm (S := (St × (List (Int × Int)))) (fun (s : (St × (List (Int × Int)))) => match s with | (z0, z1) => [(0, some (own (St.sds z0))), (4, some (own (sds z1)))]) (fun (s : (St × (List (Int × Int)))) => s.1.ok ∧ (∀ p ∈ s.2, Bef s2_line p.1 p.2) ∧ s.2.length ≤ 401) (fun ⟨s10_store, s10_pairs⟩ hJ10 => js_frz (.s (.s (.s (.s .z)))) fz_own (.s (.s (.s (.s .z)))) (.cons .z .nil) (js_ret (by decide) (je_callO ((ok_law_mixed x).mono (by decide)) hr pass0 .z (ja_cons (je_var (.s (.s (.s (.s .z)))) (ja_nil (⟨_, _, .z, rfl, rfl, (by exact ⟨hJ10.1, by have := hJ10.2.2; dsimp only at *; omega⟩), fun r12_11 o12_11 p12_11 => ⟨_, .z, ⟨_, (.cons .z .nil), (by exact ⟨p12_11.1, (ac_of_bef hJ2.2 hJ10.2.1).perm p12_11.2, by rw [p12_11.2.length_eq]; exact hJ10.2.2⟩)⟩⟩⟩))))))) (jt_w (jw_and (jt_listo (.s (.s (.s (.s .z)))) (⟨fun t10_7 => ⟨fun z => (nomatch z), fun _ => jw_and1 (jt_bool (je_callO ((ok_law_chance x).mono (by decide)) hr pass0 .z (ja_cons (je_int (ja_nil (⟨_, _, .z, rfl, rfl, (by first | omega | (simp only [St.ok] at *; omega) | (subst_vars; first | omega | (simp only [St.ok] at *; omega))), fun r10_17 o10_17 p10_17 => ⟨_, .z, ⟨fun t10_17 => ⟨fun _ => js_appo (.s (.s (.s (.s .z)))) (je_callF ((ok_law_pickq x).mono (by decide)) hr pass0 (ja_slot .z (ja_slot (.s (.s (.s (.s .z)))) (ja_nil (⟨⟨_, _⟩, [0, 4], (.slot .z flat_own (.slot (.s (.s (.s (.s .z)))) flat_own .nil)), by decide, rfl, (by have h1 := List.length_pos_iff.mpr t10_7; have h2 := thI6.2.2; dsimp only at *; exact ⟨p10_17, h1, by omega⟩), fun r11_21 o11_21 p11_21 => ⟨_, (.cons .z (.cons (.s (.s (.s (.s .z)))) .nil)), ⟨_, _, (.s (.s (.s (.s .z)))), (by have := thI6.2.2; dsimp only at *; omega), (.s (.s (.s (.s .z)))), js_end (⟨(_, _), (.keep (.keep (.keep (.keep (.keep (.keep (.keep .nil))))))), (by refine ⟨p11_21.1, fun p hp => ?_, ?_⟩; (rcases List.mem_append.mp hp with h | h; exact thI6.2.1 p h; (rw [List.mem_singleton.mp h]; exact thI6.2.1 _ p11_21.2)); (have := thI6.2.2; dsimp only at *; rw [List.length_append]; simp only [List.length_cons, List.length_nil]; omega))⟩)⟩⟩⟩))))), fun z => (nomatch z)⟩, fun t10_17 => ⟨fun z => (nomatch z), fun _ => js_end (⟨(_, _), (.keep (.keep (.keep (.keep (.keep (.keep (.keep .nil))))))), (by first | exact ⟨p10_17, thI6.2.1, by have := thI6.2.2; dsimp only at *; omega⟩ | exact ⟨thI6.1, thI6.2.1, by have := thI6.2.2; dsimp only at *; omega⟩)⟩)⟩⟩⟩⟩))))))⟩, fun t10_7 => ⟨fun _ => ⟨fun z => (nomatch z), fun _ => js_end (⟨(_, _), (.keep (.keep (.keep (.keep (.keep (.keep (.keep .nil))))))), (by first | exact ⟨p10_17, thI6.2.1, by have := thI6.2.2; dsimp only at *; omega⟩ | exact ⟨thI6.1, thI6.2.1, by have := thI6.2.2; dsimp only at *; omega⟩)⟩)⟩, fun z => (nomatch z)⟩⟩))))⟩))⟩⟩⟩)))⟩⟩⟩)))))) (jt_bool (je_callO ((ok_law_chance x).mono (by decide)) hr pass0 .z (ja_cons (je_int (ja_nil (⟨_, _, .z, rfl, rfl, (by first | omega | (simp only [St.ok] at *; omega) | (subst_vars; first | omega | (simp only [St.ok] at *; omega))), fun r2_7 o2_7 p2_7 => ⟨_, .z, ⟨fun t2_7 => ⟨fun _ => js_asgv nd (je_new (jn_range1 x.b_list x.b_range rfl (je_var (.s .z) (⟨(by first | omega | (simp only [St.ok] at *; omega) | (subst_vars; first | omega | (simp only [St.ok] at *; omega))), ⟨_, rfl, fun v_line e_line => ⟨_, (.s (.s .z)), js_end (⟨(_, _), (.keep (.keep (.keep (.keep (.keep (.keep (.keep .nil))))))), (by subst e_line; exact ⟨p2_7, List.Perm.refl _⟩)⟩)⟩⟩⟩)))), fun z => (nomatch z)⟩, fun t2_7 => ⟨fun z => (nomatch z), fun _ => js_end (⟨(_, _), (.keep (.keep (.keep (.keep (.keep (.keep (.keep .nil))))))), (by subst e_line; exact ⟨p2_7, p1_11.2⟩)⟩)⟩⟩⟩⟩))))))⟩⟩⟩)⟩⟩))))))
end
end Lw
end
section
namespace Lw
open PySem PySem.Spec PyProof.Rows L2 Tyl
theorem get_ins {L : List Int} {q : Nat} {d : Int} (hq : q ≤ L.length) : (∀ i, i < q → (L.take q ++ [d] ++ L.drop q)[i]? = L[i]?) ∧ (L.take q ++ [d] ++ L.drop q)[q]? = some d ∧ ∀ i, q ≤ i → (L.take q ++ [d] ++ L.drop q)[i + 1]? = L[i]? := by
  have hl : (L.take q).length = q := by rw [List.length_take]; omega
  refine ⟨fun i hi => ?_, ?_, fun i hi => ?_⟩
  · rw [List.append_assoc, List.getElem?_append_left (by omega), List.getElem?_take_of_lt hi]
  · rw [List.append_assoc, List.getElem?_append_right (by omega), hl]
    simp
  · rw [List.append_assoc, List.getElem?_append_right (by omega), hl, List.getElem?_append_right (by simp; omega), List.getElem?_drop]
    congr 1
    simp
    omega
theorem ins_perm {L : List Int} {q : Nat} {d : Int} : (L.take q ++ [d] ++ L.drop q).Perm (d :: L) := by
  have e : L.take q ++ L.drop q = L := List.take_append_drop q L
  have h : (L.take q ++ d :: L.drop q).Perm (d :: (L.take q ++ L.drop q)) := List.perm_middle
  rw [e] at h
  rw [List.append_assoc]
  exact h
theorem rgI_snoc (n : Nat) : rgI 0 ((n + 1 : Nat) : Int) = rgI 0 n ++ [(n : Int)] := by
  unfold rgI
  have e1 : (((n + 1 : Nat) : Int) - 0).toNat = n + 1 := by omega
  have e2 : ((n : Int) - 0).toNat = n := by omega
  rw [e1, e2, List.range_succ, List.map_append]
  simp
theorem bef_ins {line : List Int} {q : Nat} {d u v : Int} (hq : q ≤ line.length) (h : Bef line u v) : Bef (line.take q ++ [d] ++ line.drop q) u v := by
  obtain ⟨i, j, hij, h1, h2⟩ := h
  obtain ⟨g1, g2, g3⟩ := get_ins (d := d) hq
  by_cases hi : i < q
  · by_cases hj : j < q
    · exact ⟨i, j, hij, (g1 i hi).trans h1, (g1 j hj).trans h2⟩
    · exact ⟨i, j + 1, by omega, (g1 i hi).trans h1, (g3 j (by omega)).trans h2⟩
  · exact ⟨i + 1, j + 1, by omega, (g3 i (by omega)).trans h1, (g3 j (by omega)).trans h2⟩
theorem bef_lt {line : List Int} (hl : line.Nodup) {u v : Int} (h : Bef line u v) {ja jv : Nat} (ha : line[ja]? = some u) (hv : line[jv]? = some v) : ja < jv := by
  obtain ⟨i, j, hij, h1, h2⟩ := h
  have e1 := (idx_at hl h1).symm.trans (idx_at hl ha)
  have e2 := (idx_at hl h2).symm.trans (idx_at hl hv)
  omega
theorem split_step {line : List Int} {arrows : List (Int × Int)} {x : Nat} {p : Int × Int} {ja jv : Nat} {r : Int} (hl : line.Perm (rgI 0 line.length)) (hb : ∀ p ∈ arrows, Bef line p.1 p.2) (hx : arrows[x]? = some p)
    (ha : line[ja]? = some p.1) (hv : line[jv]? = some p.2) (h0 : 0 ≤ r) (h1 : r < (jv : Int) - ja ∨ r = 0 ∧ (jv : Int) - ja < 2) :
    (line.take ((ja : Int) + 1 + r).toNat ++ [(line.length : Int)] ++ line.drop ((ja : Int) + 1 + r).toNat).Perm (rgI 0 (line.take ((ja : Int) + 1 + r).toNat ++ [(line.length : Int)] ++ line.drop ((ja : Int) + 1 + r).toNat).length) ∧
    (∀ q ∈ arrows.set x (p.1, (line.length : Int)) ++ [((line.length : Int), p.2)], Bef (line.take ((ja : Int) + 1 + r).toNat ++ [(line.length : Int)] ++ line.drop ((ja : Int) + 1 + r).toNat) q.1 q.2) ∧
    (line.take ((ja : Int) + 1 + r).toNat ++ [(line.length : Int)] ++ line.drop ((ja : Int) + 1 + r).toNat).length = line.length + 1 := by
  have nd : line.Nodup := hl.nodup_iff.mpr rgI_nodup
  have hp := hb p (List.mem_of_getElem? hx)
  have hlt := bef_lt nd hp ha hv
  obtain ⟨hv2, _⟩ := List.getElem?_eq_some_iff.mp hv
  generalize hq : ((ja : Int) + 1 + r).toNat = q
  have q1 : ja < q := by omega
  have q2 : q ≤ jv := by omega
  have hle : q ≤ line.length := by omega
  obtain ⟨g1, g2, g3⟩ := get_ins (d := (line.length : Int)) hle
  have len : (line.take q ++ [(line.length : Int)] ++ line.drop q).length = line.length + 1 := by rw [ins_perm.length_eq]; rfl
  refine ⟨?_, fun t ht => ?_, len⟩
  · rw [len, rgI_snoc]
    exact ins_perm.trans (((List.Perm.cons _ hl)).trans (List.perm_append_singleton _ _).symm)
  · rcases List.mem_append.mp ht with h | h
    · rcases List.mem_or_eq_of_mem_set h with h | h
      · exact bef_ins hle (hb t h)
      · subst h
        exact ⟨ja, q, q1, (g1 ja q1).trans ha, g2⟩
    · rw [List.mem_singleton.mp h]
      exact ⟨q, jv + 1, by omega, g2, (g3 jv q2).trans hv⟩
theorem bef_mem {line : List Int} {u v : Int} (h : Bef line u v) : u ∈ line ∧ v ∈ line := let ⟨_, _, _, a, b⟩ := h; ⟨List.mem_of_getElem? a, List.mem_of_getElem? b⟩
theorem bef_put {line : List Int} {ps : List (Int × Int)} {i k : Nat} {u v : Int} (h : ∀ p ∈ ps, Bef line p.1 p.2) (hik : i < k) (h1 : line[i]? = some u) (h2 : line[k]? = some v) : ∀ p ∈ ps ++ [(u, v)], Bef line p.1 p.2 := by
  intro p hp
  rcases List.mem_append.mp hp with q | q
  · exact h p q
  · rw [List.mem_singleton.mp q]
    exact ⟨i, k, hik, h1, h2⟩
theorem l01 : [(0 : Int), 1].Perm (rgI 0 (([(0 : Int), 1].length : Nat) : Int)) := by decide
theorem rep_len {α : Type} (n : Nat) (a : α) : (List.replicate n [a]).flatten.length = n := by
  induction n with
  | zero => rfl
  | succ n ih => rw [List.replicate_succ, List.flatten_cons, List.length_append, ih]; simp; omega

section
variable {P : Program} {w : World} {K : Fg} {mg : Str → Option Value} {base : Heap}
theorem sc_law_recipe : FnScope ["store", "puts", "splits", "line", "arrows", "deeds", "word", "k", "u", "x", "v", "door", "at"] ["store", "puts", "splits"] (defScope (top 44)) := ⟨rfl, rfl, rfl, by decide +kernel, rfl, by decide +kernel, by decide +kernel⟩
theorem ok_law_recipe  (x : Fx K mg) : OkF P w K mg base CX0 4 "_law_recipe" ["store", "puts", "splits"] (spO K 2 St.sds (fun (a : Int × Int) => match a with | (z0, z1) => [sd z0, sd z1]) (fun s n => s.ok ∧ 0 ≤ n.1 ∧ 0 ≤ n.2 ∧ n.1 + n.2 ≤ 100) (fun s n (r : T3 (List Any) (List (Int × Int)) (List Int)) s' => s'.ok ∧ r.c.Perm (rgI 0 r.c.length) ∧ (∀ p ∈ r.b, Bef r.c p.1 p.2) ∧ (r.b.length : Int) = n.1 + n.2 + 1 ∧ r.c.length ≤ 102)) := by
  obtain ⟨fd, F⟩ := x.f_law_recipe
  refine ⟨⟨fd, okT F sc_law_recipe (fun _ => rfl) (fun cdv A0 outer s H E a B hr hp => ?_), F.bindsN fun _ _ _ _ _ _ us hl => match us, hl with | [_, _, _], _ => rfl⟩, x.g_law_recipe, F.kp⟩
  obtain ⟨v_store, v_puts, v_splits⟩ := a
  try dsimp only at hp ⊢
  have nd := (sc_law_recipe).nd
  have hps : PassesOwn (model (cxOf CX0 P w K mg base ["store", "puts", "splits", "line", "arrows", "deeds", "word", "k", "u", "x", "v", "door", "at"] "_law_recipe" (defScope (top 44)) (He.ga K "_law_recipe") cdv A0 outer s H E).prog (cxOf CX0 P w K mg base ["store", "puts", "splits", "line", "arrows", "deeds", "word", "k", "u", "x", "v", "door", "at"] "_law_recipe" (defScope (top 44)) (He.ga K "_law_recipe") cdv A0 outer s H E).w) (cxOf CX0 P w K mg base ["store", "puts", "splits", "line", "arrows", "deeds", "word", "k", "u", "x", "v", "door", "at"] "_law_recipe" (defScope (top 44)) (He.ga K "_law_recipe") cdv A0 outer s H E).A (cxOf CX0 P w K mg base ["store", "puts", "splits", "line", "arrows", "deeds", "word", "k", "u", "x", "v", "door", "at"] "_law_recipe" (defScope (top 44)) (He.ga K "_law_recipe") cdv A0 outer s H E).env (cxOf CX0 P w K mg base ["store", "puts", "splits", "line", "arrows", "deeds", "word", "k", "u", "x", "v", "door", "at"] "_law_recipe" (defScope (top 44)) (He.ga K "_law_recipe") cdv A0 outer s H E).xe := PassesOwn.leaving
  exact js_asgo nd (jn_lst (ja_cons (je_int (ja_cons (je_int (ja_nil (⟨[_, _], rfl, by simp, ⟨[_, _], rfl, fun v_line e_line => ⟨_, (.s (.s (.s .z))), js_asgo nd (jn_lst (ja_cons (je_pair (je_int (je_int (ja_nil (⟨[_], rfl, by simp, ⟨[_], rfl, fun v_arrows e_arrows => ⟨_, (.s (.s (.s (.s .z)))), js_asgo nd (jn_lst (ja_nil (⟨[], rfl, by simp, ⟨([] : List (Any)), rfl, fun v_deeds e_deeds => ⟨_, (.s (.s (.s (.s (.s .z))))), js_for (fun m => tg_name nd (by decide)) hps rfl (je_callO ((ok_law_mixed x).mono (by decide)) hr pass0 .z (ja_cons (je_new (jn_cat (je_new (jn_rep (je_new (jn_lst (ja_cons (je_str (ja_nil (⟨[_], rfl, by simp, ⟨[_], rfl, je_var (.s .z) (⟨(by simp; omega), ⟨_, rfl, je_new (jn_rep (je_new (jn_lst (ja_cons (je_str (ja_nil (⟨[_], rfl, by simp, ⟨[_], rfl, je_var (.s (.s .z)) (⟨(by simp; omega), ⟨_, rfl, ⟨(by rw [rep_len, rep_len]; omega), ⟨_, rfl, ja_nil (⟨_, _, .z, rfl, rfl, (by exact ⟨hp.1, by rw [List.length_append, rep_len, rep_len]; omega⟩), fun r4_16 o4_16 p4_16 => ⟨_, .z, ⟨(St × (List Int) × (List (Int × Int)) × (List (Any))), (fun (s : (St × (List Int) × (List (Int × Int)) × (List (Any)))) => match s with | (z0, z1, z2, z3) => [(0, some (own (St.sds z0))), (3, some (own (sds z1))), (4, some (own (sds z2))), (5, some (own (sds z3)))]), fun (i : Nat) (s : (St × (List Int) × (List (Int × Int)) × (List (Any)))) => s.1.ok ∧ s.2.1.Perm (rgI 0 s.2.1.length) ∧ (∀ p ∈ s.2.2.1, Bef s.2.1 p.1 p.2) ∧ (2 ≤ s.2.1.length ∧ s.2.1.length ≤ i + 2 ∧ s.2.2.1.length = i + 1 ∧ s.2.2.2.length = i), ⟨(_, _, _, _), (.keep (.keep (.keep (.keep (.keep (.keep (.keep (.keep (.keep (.keep (.keep (.keep (.keep .nil))))))))))))), (by subst e_line e_arrows e_deeds; refine ⟨p4_16.1, l01, ?_, by simp⟩; intro p hp; simp at hp; subst hp; exact ⟨0, 1, by decide, rfl, rfl⟩)⟩, fun m i4 ⟨s4_store, s4_line, s4_arrows, s4_deeds⟩ x4 hi4 hI4 => ⟨_, (.s (.s (.s (.s (.s (.s .z)))))), js_if1 (jt_eq (je_var (.s (.s (.s (.s (.s (.s .z)))))) (je_str (⟨fun t5_11 => ⟨fun _ => js_asgv nd (je_add (je_int (je_callO ((ok_law_take x).mono (by decide)) hr pass0 .z (ja_cons (je_sub (je_leno x.b_len (.s (.s (.s .z))) (je_int (ja_nil (⟨_, _, .z, rfl, rfl, (by have h1 := hI4.2.2.2; have h2 := (List.getElem?_eq_some_iff.mp hi4).1; have h3 := p4_16.2.length_eq; rw [List.length_append, rep_len, rep_len] at h3; have h4 := hI4.1; dsimp only [St.ok] at *; omega), fun r6_20 o6_20 p6_20 => ⟨_, .z, fun v_k e_k => ⟨_, (.s (.s (.s (.s (.s (.s (.s .z))))))), js_asg nd (je_ixo (.s (.s (.s .z))) (je_callO ((ok_law_take x).mono (by decide)) hr pass0 .z (ja_cons (je_var (.s (.s (.s (.s (.s (.s (.s .z))))))) (ja_nil (⟨_, _, .z, rfl, rfl, (by have h1 := hI4.2.2.2; have h2 := (List.getElem?_eq_some_iff.mp hi4).1; have h3 := p4_16.2.length_eq; rw [List.length_append, rep_len, rep_len] at h3; have h4 := hI4.1; dsimp only [St.ok] at *; omega), fun r7_21 o7_21 p7_21 => ⟨_, .z, ⟨_, (.s (.s (.s .z))), (by have h1 := hI4.2.2.2; have h2 := (List.getElem?_eq_some_iff.mp hi4).1; have h3 := p4_16.2.length_eq; rw [List.length_append, rep_len, rep_len] at h3; have h4 := hI4.1; dsimp only [St.ok] at *; omega), fun d7_16 hd7_16 => ⟨_, (.s (.s (.s (.s (.s (.s (.s (.s .z)))))))), js_appo (.s (.s (.s (.s (.s .z))))) (je_any (α := T3 Str Int Int) (je_tup3 (je_str (je_var (.s (.s (.s (.s (.s (.s (.s (.s .z)))))))) (je_ixo (.s (.s (.s .z))) (je_var (.s (.s (.s (.s (.s (.s (.s .z))))))) (⟨_, (.s (.s (.s .z))), (by have h1 := hI4.2.2.2; have h2 := (List.getElem?_eq_some_iff.mp hi4).1; have h3 := p4_16.2.length_eq; rw [List.length_append, rep_len, rep_len] at h3; have h4 := hI4.1; dsimp only [St.ok] at *; omega), fun d8_36 hd8_36 => ⟨_, _, (.s (.s (.s (.s (.s .z))))), (by have h1 := hI4.2.2.2; have h2 := (List.getElem?_eq_some_iff.mp hi4).1; have h3 := p4_16.2.length_eq; rw [List.length_append, rep_len, rep_len] at h3; have h4 := hI4.1; dsimp only [St.ok] at *; omega), (.s (.s (.s (.s (.s .z))))), js_appo (.s (.s (.s (.s .z)))) (je_pair (je_var (.s (.s (.s (.s (.s (.s (.s (.s .z)))))))) (je_ixo (.s (.s (.s .z))) (je_var (.s (.s (.s (.s (.s (.s (.s .z))))))) (⟨_, (.s (.s (.s .z))), (by have h1 := hI4.2.2.2; have h2 := (List.getElem?_eq_some_iff.mp hi4).1; have h3 := p4_16.2.length_eq; rw [List.length_append, rep_len, rep_len] at h3; have h4 := hI4.1; dsimp only [St.ok] at *; omega), fun d9_30 hd9_30 => ⟨_, _, (.s (.s (.s (.s .z)))), (by have h1 := hI4.2.2.2; have h2 := (List.getElem?_eq_some_iff.mp hi4).1; have h3 := p4_16.2.length_eq; rw [List.length_append, rep_len, rep_len] at h3; have h4 := hI4.1; dsimp only [St.ok] at *; omega), (.s (.s (.s (.s .z)))), js_end (⟨(_, _, _, _), (.keep (.keep (.keep (.keep (.keep (.keep (.drop (.drop (.drop (.keep (.keep (.keep (.keep .nil))))))))))))), (by first | (have h1 := hI4.2.2.2; have h2 := (List.getElem?_eq_some_iff.mp hi4).1; have h3 := p4_16.2.length_eq; rw [List.length_append, rep_len, rep_len] at h3; refine ⟨p7_21.1, hI4.2.1, bef_put hI4.2.2.1 ?_ hd7_16 hd9_30, ?_⟩; (dsimp only at *; omega); (dsimp only at *; simp only [List.length_append, List.length_cons, List.length_nil]; omega)) | (have h1 := hI4.2.2.2; have h2 := (List.getElem?_eq_some_iff.mp hi4).1; have h3 := p4_16.2.length_eq; rw [List.length_append, rep_len, rep_len] at h3; subst e_at e_door e_x; obtain ⟨a, b, c⟩ := split_step hI4.2.1 hI4.2.2.1 hd12_19 hj14_17.1 hj15_50.1 p15_33.2.1 p15_33.2.2; refine ⟨p15_33.1, a, b, ?_⟩; dsimp only at *; rw [c]; simp only [List.length_append, List.length_set, List.length_cons, List.length_nil]; omega))⟩)⟩⟩)))))⟩⟩)))))))⟩⟩⟩⟩))))))⟩⟩⟩))))))))), fun z => (nomatch z)⟩, fun t5_11 => ⟨fun z => (nomatch z), fun _ => js_asgv nd (je_callO ((ok_law_take x).mono (by decide)) hr pass0 .z (ja_cons (je_leno x.b_len (.s (.s (.s (.s .z)))) (ja_nil (⟨_, _, .z, rfl, rfl, (by have h1 := hI4.2.2.2; have h2 := (List.getElem?_eq_some_iff.mp hi4).1; have h3 := p4_16.2.length_eq; rw [List.length_append, rep_len, rep_len] at h3; have h4 := hI4.1; dsimp only [St.ok] at *; omega), fun r11_16 o11_16 p11_16 => ⟨_, .z, fun v_x e_x => ⟨_, (.s (.s (.s (.s (.s (.s (.s (.s (.s .z))))))))), js_tgt (tg_pair rfl nd (by decide) (by decide)) (je_ixo (.s (.s (.s (.s .z)))) (je_var (.s (.s (.s (.s (.s (.s (.s (.s (.s .z))))))))) (⟨_, (.s (.s (.s (.s .z)))), (by have h1 := hI4.2.2.2; have h2 := (List.getElem?_eq_some_iff.mp hi4).1; have h3 := p4_16.2.length_eq; rw [List.length_append, rep_len, rep_len] at h3; have h4 := hI4.1; dsimp only [St.ok] at *; omega), fun d12_19 hd12_19 => ⟨_, ⟨_, (.s (.s (.s (.s (.s (.s (.s (.s .z)))))))), (.s (.s (.s (.s (.s (.s (.s (.s (.s (.s .z))))))))))⟩, js_asgv nd (je_leno x.b_len (.s (.s (.s .z))) (fun v_door e_door => ⟨_, (.s (.s (.s (.s (.s (.s (.s (.s (.s (.s (.s .z))))))))))), js_asgv nd (je_indexo (.s (.s (.s .z))) (je_var (.s (.s (.s (.s (.s (.s (.s (.s .z)))))))) (⟨_, (.s (.s (.s .z))), (by exact (bef_mem (hI4.2.2.1 _ (List.mem_of_getElem? hd12_19))).1), fun j14_17 hj14_17 => fun v_at e_at => ⟨_, (.s (.s (.s (.s (.s (.s (.s (.s (.s (.s (.s (.s .z)))))))))))), js_inso (.s (.s (.s .z))) (je_add (je_add (je_var (.s (.s (.s (.s (.s (.s (.s (.s (.s (.s (.s (.s .z)))))))))))) (je_int (je_callO ((ok_law_take x).mono (by decide)) hr pass0 .z (ja_cons (je_sub (je_indexo (.s (.s (.s .z))) (je_var (.s (.s (.s (.s (.s (.s (.s (.s (.s (.s .z)))))))))) (⟨_, (.s (.s (.s .z))), (by exact (bef_mem (hI4.2.2.1 _ (List.mem_of_getElem? hd12_19))).2), fun j15_50 hj15_50 => je_var (.s (.s (.s (.s (.s (.s (.s (.s (.s (.s (.s (.s .z)))))))))))) (ja_nil (⟨_, _, .z, rfl, rfl, (by have h1 := hI4.2.2.2; have h2 := (List.getElem?_eq_some_iff.mp hi4).1; have h3 := p4_16.2.length_eq; rw [List.length_append, rep_len, rep_len] at h3; have h5 := (List.getElem?_eq_some_iff.mp hj14_17.1).1; have h6 := (List.getElem?_eq_some_iff.mp hj15_50.1).1; have h4 := hI4.1; dsimp only [St.ok] at *; omega), fun r15_33 o15_33 p15_33 => ⟨_, .z, je_var (.s (.s (.s (.s (.s (.s (.s (.s (.s (.s (.s .z))))))))))) (⟨_, _, (.s (.s (.s .z))), (by have h1 := hI4.2.2.2; have h2 := (List.getElem?_eq_some_iff.mp hi4).1; have h3 := p4_16.2.length_eq; rw [List.length_append, rep_len, rep_len] at h3; have h5 := (List.getElem?_eq_some_iff.mp hj14_17.1).1; have h6 := (List.getElem?_eq_some_iff.mp hj15_50.1).1; have h4 := hI4.1; dsimp only [St.ok] at *; omega), (.s (.s (.s .z))), js_seto (.s (.s (.s (.s .z)))) (je_pair (je_var (.s (.s (.s (.s (.s (.s (.s (.s .z)))))))) (je_var (.s (.s (.s (.s (.s (.s (.s (.s (.s (.s (.s .z))))))))))) (⟨_, (.s (.s (.s (.s .z)))), je_var (.s (.s (.s (.s (.s (.s (.s (.s (.s .z))))))))) (⟨_, _, (.s (.s (.s (.s .z)))), (by have h1 := hI4.2.2.2; have h2 := (List.getElem?_eq_some_iff.mp hi4).1; have h3 := p4_16.2.length_eq; rw [List.length_append, rep_len, rep_len] at h3; dsimp only at *; omega), (.s (.s (.s (.s .z)))), js_appo (.s (.s (.s (.s .z)))) (je_pair (je_var (.s (.s (.s (.s (.s (.s (.s (.s (.s (.s (.s .z))))))))))) (je_var (.s (.s (.s (.s (.s (.s (.s (.s (.s (.s .z)))))))))) (⟨_, _, (.s (.s (.s (.s .z)))), (by have h1 := hI4.2.2.2; have h2 := (List.getElem?_eq_some_iff.mp hi4).1; have h3 := p4_16.2.length_eq; rw [List.length_append, rep_len, rep_len] at h3; rw [List.length_set]; dsimp only at *; omega), (.s (.s (.s (.s .z)))), js_appo (.s (.s (.s (.s (.s .z))))) (je_any (α := Str × Int) (je_pair (je_str (je_var (.s (.s (.s (.s (.s (.s (.s (.s (.s .z))))))))) (⟨_, _, (.s (.s (.s (.s (.s .z))))), (by have h1 := hI4.2.2.2; have h2 := (List.getElem?_eq_some_iff.mp hi4).1; have h3 := p4_16.2.length_eq; rw [List.length_append, rep_len, rep_len] at h3; have h4 := hI4.1; dsimp only [St.ok] at *; omega), (.s (.s (.s (.s (.s .z))))), js_end (⟨(_, _, _, _), (.keep (.keep (.keep (.keep (.keep (.keep (.drop (.keep (.drop (.drop (.drop (.drop (.drop .nil))))))))))))), (by first | (have h1 := hI4.2.2.2; have h2 := (List.getElem?_eq_some_iff.mp hi4).1; have h3 := p4_16.2.length_eq; rw [List.length_append, rep_len, rep_len] at h3; refine ⟨p7_21.1, hI4.2.1, bef_put hI4.2.2.1 ?_ hd7_16 hd9_30, ?_⟩; (dsimp only at *; omega); (dsimp only at *; simp only [List.length_append, List.length_cons, List.length_nil]; omega)) | (have h1 := hI4.2.2.2; have h2 := (List.getElem?_eq_some_iff.mp hi4).1; have h3 := p4_16.2.length_eq; rw [List.length_append, rep_len, rep_len] at h3; subst e_at e_door e_x; obtain ⟨a, b, c⟩ := split_step hI4.2.1 hI4.2.2.1 hd12_19 hj14_17.1 hj15_50.1 p15_33.2.1 p15_33.2.2; refine ⟨p15_33.1, a, b, ?_⟩; dsimp only at *; rw [c]; simp only [List.length_append, List.length_set, List.length_cons, List.length_nil]; omega))⟩)⟩)))))⟩))))⟩)⟩))))⟩)⟩⟩))⟩))))))))))⟩⟩)))⟩))⟩⟩)))⟩⟩⟩)))))⟩⟩))))⟩, fun ⟨ts4_store, ts4_line, ts4_arrows, ts4_deeds⟩ thI4 => js_frz (.s (.s (.s (.s (.s .z))))) fz_own (.s (.s (.s (.s (.s .z))))) (.cons .z .nil) (js_frz (.s (.s (.s (.s .z)))) fz_own (.s (.s (.s (.s .z)))) (.cons .z .nil) (js_frz (.s (.s (.s .z))) fz_own (.s (.s (.s .z))) (.cons .z .nil) (js_ret (by decide) (je_tup3 (je_var (.s (.s (.s (.s (.s .z))))) (je_var (.s (.s (.s (.s .z)))) (je_var (.s (.s (.s .z))) (⟨_, (.cons .z .nil), (by have h1 := thI4.2.2.2; have h3 := p4_16.2.length_eq; rw [List.length_append, rep_len, rep_len] at h3; refine ⟨thI4.1, thI4.2.1, thI4.2.2.1, ?_⟩; dsimp only at *; omega)⟩))))))))⟩⟩⟩)⟩⟩⟩⟩)⟩⟩)))))))⟩⟩)⟩⟩))))))))))))⟩⟩⟩)))⟩⟩⟩)))))))⟩⟩⟩)))))))
end
end Lw
end
section
namespace Lw
open PySem PySem.Spec PyProof.Rows L2 Tyl
def at0 (L : List Int) (i : Int) : Int := (L[i.toNat]?).getD 0
theorem all2_map {α γ : Type} {f : α → γ} : ∀ {L : List α} {dss : List (List γ)}, All2 (fun x ds => ds = [f x]) L dss → dss.flatten = L.map f
  | [], [], _ => rfl
  | x :: L, ds :: dss, h => by rw [List.flatten_cons, List.map_cons, all2_map h.2, h.1]; rfl
theorem all2_filter {α : Type} {f : α → Bool} : ∀ {L : List α} {dss : List (List α)}, All2 (fun x ds => ds = if f x = true then [x] else []) L dss → dss.flatten = L.filter f
  | [], [], _ => rfl
  | x :: L, ds :: dss, h => by
    rw [List.flatten_cons, List.filter_cons, all2_filter h.2, h.1]
    split <;> rfl
section
variable {P : Program} {w : World} {K : Fg} {mg : Str → Option Value} {base : Heap}
theorem sc_law_renumber : FnScope ["pairs", "names", "pair"] ["pairs", "names"] (defScope (top 41)) := ⟨rfl, rfl, rfl, by decide +kernel, rfl, by decide +kernel, by decide +kernel⟩
theorem ok_law_renumber  (x : Fx K mg) : OkF P w K mg base CX0 1 "_law_renumber" ["pairs", "names"] (spP K 2 (fun (a : (List (Int × Int)) × (List Int)) => match a with | (z0, z1) => [sd z0, sd z1]) (fun a => (∀ p ∈ a.1, 0 ≤ p.1 ∧ p.1 < a.2.length ∧ 0 ≤ p.2 ∧ p.2 < a.2.length) ∧ a.1.length < 100000) (fun a (r : List (Int × Int)) => r = a.1.map fun p => (at0 a.2 p.1, at0 a.2 p.2))) := by
  obtain ⟨fd, F⟩ := x.f_law_renumber
  refine ⟨⟨fd, okT F sc_law_renumber (fun _ => rfl) (fun cdv A0 outer s H E a B hr hp => ?_), F.bindsN fun _ _ _ _ _ _ us hl => match us, hl with | [_, _], _ => rfl⟩, x.g_law_renumber, F.kp⟩
  obtain ⟨v_pairs, v_names⟩ := a
  try dsimp only at hp ⊢
  have nd := (sc_law_renumber).nd
  exact js_ret (by decide) (je_new (jnf_L rfl nd (nm := [("pair", 2)]) (vs' := []) (show BlkOk ["pairs", "names", "pair"] (defScope (top 41)) _ [("pair", 2)] from ⟨rfl, by decide +kernel, by decide +kernel, by decide +kernel, by decide +kernel⟩) (by decide) (by decide) (fun it acc env => turn1_0 _ _ _ _ _ _) (fun m s H C cl fp => tw_name nd (by decide) (by decide)) (je_var .z (⟨1, fun p ds => ds = [(at0 v_names p.1, at0 v_names p.2)], (by first | omega | (simp only [St.ok] at *; omega) | (subst_vars; first | omega | (simp only [St.ok] at *; omega))), (fun j hj => by simp at hj; subst hj; rfl), fun iq0 q0 hq0 => ⟨_, (.s (.s .z)), fun m D => jts_nil (⟨fun _ => fun s H C cl fp => jq_elt rfl (fun m => je_pair (je_ix (je_var (.s .z) (je_fst (je_var (.s (.s .z)) (⟨(by have := hp.1 _ (List.mem_of_getElem? hq0); omega), fun d1_13 hd1_13 => je_ix (je_var (.s .z) (je_snd (je_var (.s (.s .z)) (⟨(by have := hp.1 _ (List.mem_of_getElem? hq0); omega), fun d1_29 hd1_29 => ⟨(by simp only [at0, hd1_13, hd1_29, Option.getD_some]), (.keep (.keep (.drop .nil)))⟩⟩))))⟩)))))), fun z => (nomatch z)⟩)⟩, fun dss hds => ⟨_, rfl, ⟨(), .nil, (by exact all2_map hds)⟩⟩⟩))))
end
end Lw
end
section
namespace Lw
open PySem PySem.Spec PyProof.Rows L2 Tyl
theorem take_s {α : Type} {L : List α} {i : Nat} {x : α} (h : L[i]? = some x) : L.take (i + 1) = L.take i ++ [x] := by rw [List.take_add_one, h]; rfl
def PutE (x other y : Int) : List Int := if y = x then rgI x (x + other) else [y + (other - 1) * (if x < y then 1 else 0)]
def putF (x other : Int) (p : Int × Int) : List (Int × Int) := (PutE x other p.1).flatMap fun a => (PutE x other p.2).map fun b => (a, b)
def putPairs (pairs : List (Int × Int)) (x other : Int) (more : List (Int × Int)) : List (Int × Int) := (more.map fun p => (x + p.1, x + p.2)) ++ pairs.flatMap (putF x other)
theorem putE_len {x other y : Int} (h0 : 1 ≤ other) (h : other ≤ 20) : (PutE x other y).length ≤ 20 := by
  unfold PutE
  split
  · rw [rgI_len2]; omega
  · simp
theorem flat_len {α β : Type} {f : α → List β} {n : Nat} (h : ∀ a, (f a).length ≤ n) : ∀ L : List α, (L.flatMap f).length ≤ n * L.length
  | [] => by simp
  | a :: L => by
    rw [List.flatMap_cons, List.length_append, List.length_cons, Nat.mul_succ]
    have := h a
    have := flat_len h L
    omega
theorem putPairs_len {pairs : List (Int × Int)} {x other : Int} {more : List (Int × Int)} (h0 : 1 ≤ other) (h : other ≤ 20) : (putPairs pairs x other more).length ≤ more.length + 400 * pairs.length := by
  unfold putPairs
  rw [List.length_append, List.length_map]
  have := flat_len (f := putF x other) (n := 400) (fun a => by
    unfold putF
    have h1 := flat_len (f := fun a' => (PutE x other a.2).map fun b => (a', b)) (n := 20) (fun a' => by rw [List.length_map]; exact putE_len h0 h) (PutE x other a.1)
    have h2 := putE_len (x := x) (y := a.1) h0 h
    omega) pairs
  omega
def joinPairs (size : Int) (pairs : List (Int × Int)) (other : Int) (more : List (Int × Int)) (row : Bool) : List (Int × Int) :=
  (pairs ++ more.map fun p => (size + p.1, size + p.2)) ++ if row = true then (rgI 0 size).flatMap (fun a => (rgI 0 other).map fun b => (a, size + b)) else []
theorem rgI_full (n : Int) : (rgI 0 n).take n.toNat = rgI 0 n := by rw [← rgI_len, List.take_length]
theorem rgI_take {n : Int} {i : Nat} (h : (i : Int) < n) : (rgI 0 n).take (i + 1) = (rgI 0 n).take i ++ [(i : Int)] := take_s (rgI_at h)
section
variable {P : Program} {w : World} {K : Fg} {mg : Str → Option Value} {base : Heap}
theorem sc_law_put_pairs : FnScope ["pairs", "x", "other", "more", "out", "pair", "ends", "y", "a", "b"] ["pairs", "x", "other", "more"] (defScope (top 50)) := ⟨rfl, rfl, rfl, by decide +kernel, rfl, by decide +kernel, by decide +kernel⟩
theorem ok_law_put_pairs  (x : Fx K mg) : OkF P w K mg base CX0 1 "_law_put_pairs" ["pairs", "x", "other", "more"] (spP K 4 (fun (a : (List (Int × Int)) × Int × Int × (List (Int × Int))) => match a with | (z0, z1, z2, z3) => [sd z0, sd z1, sd z2, sd z3]) (fun a => a.1.length ≤ 15000 ∧ a.2.2.2.length ≤ 15000 ∧ 1 ≤ a.2.2.1 ∧ a.2.2.1 ≤ 20 ∧ -1000 < a.2.1 ∧ a.2.1 < 1000) (fun a (r : List (Int × Int)) => r = putPairs a.1 a.2.1 a.2.2.1 a.2.2.2)) := by
  obtain ⟨fd, F⟩ := x.f_law_put_pairs
  refine ⟨⟨fd, okT F sc_law_put_pairs (fun _ => rfl) (fun cdv A0 outer s H E a B hr hp => ?_), F.bindsN fun _ _ _ _ _ _ us hl => match us, hl with | [_, _, _, _], _ => rfl⟩, x.g_law_put_pairs, F.kp⟩
  obtain ⟨v_pairs, v_x, v_other, v_more⟩ := a
  try dsimp only at hp ⊢
  have nd := (sc_law_put_pairs).nd
  have hps : PassesOwn (model (cxOf CX0 P w K mg base ["pairs", "x", "other", "more", "out", "pair", "ends", "y", "a", "b"] "_law_put_pairs" (defScope (top 50)) (He.ga K "_law_put_pairs") cdv A0 outer s H E).prog (cxOf CX0 P w K mg base ["pairs", "x", "other", "more", "out", "pair", "ends", "y", "a", "b"] "_law_put_pairs" (defScope (top 50)) (He.ga K "_law_put_pairs") cdv A0 outer s H E).w) (cxOf CX0 P w K mg base ["pairs", "x", "other", "more", "out", "pair", "ends", "y", "a", "b"] "_law_put_pairs" (defScope (top 50)) (He.ga K "_law_put_pairs") cdv A0 outer s H E).A (cxOf CX0 P w K mg base ["pairs", "x", "other", "more", "out", "pair", "ends", "y", "a", "b"] "_law_put_pairs" (defScope (top 50)) (He.ga K "_law_put_pairs") cdv A0 outer s H E).env (cxOf CX0 P w K mg base ["pairs", "x", "other", "more", "out", "pair", "ends", "y", "a", "b"] "_law_put_pairs" (defScope (top 50)) (He.ga K "_law_put_pairs") cdv A0 outer s H E).xe := PassesOwn.leaving
  exact js_newo (jnsf_L rfl nd (nm := [("pair", 5)]) (vs' := []) (show BlkOk ["pairs", "x", "other", "more", "out", "pair", "ends", "y", "a", "b"] (defScope (top 50)) _ [("pair", 5)] from ⟨rfl, by decide +kernel, by decide +kernel, by decide +kernel, by decide +kernel⟩) (by decide) (by decide) (fun it acc env => turn1_0 _ _ _ _ _ _) (fun m s H C cl fp => tw_name nd (by decide) (by decide)) (je_var (.s (.s (.s .z))) (⟨1, fun p ds => ds = [(v_x + p.1, v_x + p.2)], (by first | omega | (simp only [St.ok] at *; omega) | (subst_vars; first | omega | (simp only [St.ok] at *; omega))), (fun j hj => by simp at hj; subst hj; rfl), fun iq0 q0 hq0 => ⟨_, (.s (.s (.s (.s (.s .z))))), fun m D => jts_nil (⟨fun _ => fun s H C cl fp => jq_elt rfl (fun m => je_pair (je_add (je_var (.s .z) (je_fst (je_var (.s (.s (.s (.s (.s .z))))) (je_add (je_var (.s .z) (je_snd (je_var (.s (.s (.s (.s (.s .z))))) (⟨(by rfl), (.keep (.keep (.keep (.keep (.keep (.drop (.keep (.keep (.keep (.keep .nil))))))))))⟩)))))))))), fun z => (nomatch z)⟩)⟩, fun dss hds => ⟨_, rfl, fun v_out e_out => ⟨_, (.s (.s (.s (.s .z)))), js_for (fun m => tg_name nd (by decide)) hps rfl (je_var .z (⟨((List (Int × Int))), (fun (z0 : ((List (Int × Int)))) => [(4, some (own (sds z0)))]), fun (i : Nat) (s : ((List (Int × Int)))) => s = (v_more.map fun p => (v_x + p.1, v_x + p.2)) ++ (v_pairs.take i).flatMap (putF v_x v_other) ∧ s.length ≤ 15000 + 400 * i, ⟨_, (.keep (.keep (.keep (.keep (.keep (.keep (.keep (.keep (.keep (.keep .nil)))))))))), (by have h := e_out.trans (all2_map hds); refine ⟨?_, ?_⟩; (rw [h]; simp); (rw [h, List.length_map]; omega))⟩, fun m i2 s2_out x2 hi2 hI2 => ⟨_, (.s (.s (.s (.s (.s .z))))), js_asgo nd (jn_lst (ja_nil (⟨[], rfl, by simp, ⟨([] : List (List Int)), rfl, fun v_ends e_ends => ⟨_, (.s (.s (.s (.s (.s (.s .z)))))), js_forT (fun m => tg_name nd (by decide)) hps rfl (je_var (.s (.s (.s (.s (.s .z))))) (⟨((List (List Int))), (fun (z0 : ((List (List Int)))) => [(6, some (own (sds z0)))]), fun (i : Nat) (s : ((List (List Int)))) => s = ([x2.1, x2.2].take i).map (PutE v_x v_other), ⟨_, (.keep (.keep (.keep (.keep (.keep (.keep (.keep (.keep (.keep (.keep .nil)))))))))), (by simp [e_ends])⟩, fun m i4 s4_ends x4 hi4 hI4 => ⟨_, (.s (.s (.s (.s (.s (.s (.s .z))))))), js_if1 (jt_eq (je_var (.s (.s (.s (.s (.s (.s (.s .z))))))) (je_var (.s .z) (⟨fun t5_15 => ⟨fun _ => js_appo (.s (.s (.s (.s (.s (.s .z)))))) (je_new (jn_range2 x.b_list x.b_range rfl (je_var (.s .z) (je_add (je_var (.s .z) (je_var (.s (.s .z)) (⟨(by first | omega | (simp only [St.ok] at *; omega) | (subst_vars; first | omega | (simp only [St.ok] at *; omega))), ⟨_, rfl, ⟨_, _, (.s (.s (.s (.s (.s (.s .z)))))), (by have h := congrArg List.length hI4; simp at h; omega), (.s (.s (.s (.s (.s (.s .z)))))), js_end (⟨_, (.keep (.keep (.keep (.keep (.keep (.keep (.keep (.drop (.keep (.keep .nil)))))))))), (by have h := hI4; dsimp only at h; show s4_ends ++ [_] = List.map _ (List.take (i4 + 1) [x2.1, x2.2]); rw [h, take_s (L := [x2.1, x2.2]) hi4, List.map_append]; simp [PutE, t5_15])⟩)⟩⟩⟩))))))), fun z => (nomatch z)⟩, fun t5_15 => ⟨fun z => (nomatch z), fun _ => js_appo (.s (.s (.s (.s (.s (.s .z)))))) (je_new (jn_lst (ja_cons (je_add (je_var (.s (.s (.s (.s (.s (.s (.s .z))))))) (je_mul (je_sub (je_var (.s (.s .z)) (je_int (je_intB x.b_int (je_gt (je_var (.s (.s (.s (.s (.s (.s (.s .z))))))) (je_var (.s .z) (⟨(by unfold CMul; omega), ja_nil (⟨[_], rfl, by simp, ⟨[_], rfl, ⟨_, _, (.s (.s (.s (.s (.s (.s .z)))))), (by have h := congrArg List.length hI4; simp at h; omega), (.s (.s (.s (.s (.s (.s .z)))))), js_end (⟨_, (.keep (.keep (.keep (.keep (.keep (.keep (.keep (.drop (.keep (.keep .nil)))))))))), (by have h := hI4; dsimp only at h; show s4_ends ++ [_] = List.map _ (List.take (i4 + 1) [x2.1, x2.2]); rw [h, take_s (L := [x2.1, x2.2]) hi4, List.map_append]; simp [PutE, t5_15])⟩)⟩⟩⟩)⟩))))))))))))))⟩⟩))))⟩, fun ts4_ends thI4 => js_for (fun m => tg_name nd (by decide)) hps rfl (je_ixo (.s (.s (.s (.s (.s (.s .z)))))) (je_int (⟨_, (.s (.s (.s (.s (.s (.s .z)))))), (by have hz : ts4_ends = [PutE v_x v_other x2.1, PutE v_x v_other x2.2] := thI4; rw [hz]; simp), fun d9_17 hd9_17 => ⟨((List (Int × Int))), (fun (z0 : ((List (Int × Int)))) => [(4, some (own (sds z0)))]), fun (i : Nat) (s : ((List (Int × Int)))) => s = s2_out ++ ((PutE v_x v_other x2.1).take i).flatMap (fun a => (PutE v_x v_other x2.2).map fun b => (a, b)) ∧ s.length ≤ 15000 + 400 * i2 + 20 * i, ⟨_, (.keep (.keep (.keep (.keep (.keep (.keep (.keep (.keep (.keep (.keep .nil)))))))))), (by refine ⟨?_, ?_⟩; (simp); (have := hI2.2; dsimp only at *; omega))⟩, fun m i9 s9_out x9 hi9 hI9 => ⟨_, (.s (.s (.s (.s (.s (.s (.s (.s .z)))))))), js_for (fun m => tg_name nd (by decide)) hps rfl (je_ixo (.s (.s (.s (.s (.s (.s .z)))))) (je_int (⟨_, (.s (.s (.s (.s (.s (.s .z)))))), (by have hz : ts4_ends = [PutE v_x v_other x2.1, PutE v_x v_other x2.2] := thI4; rw [hz]; simp), fun d10_21 hd10_21 => ⟨((List (Int × Int))), (fun (z0 : ((List (Int × Int)))) => [(4, some (own (sds z0)))]), fun (i : Nat) (s : ((List (Int × Int)))) => s = s9_out ++ ((PutE v_x v_other x2.2).take i).map (fun b => (x9, b)) ∧ s.length ≤ 15000 + 400 * i2 + 20 * i9 + i, ⟨_, (.keep (.keep (.keep (.keep (.keep (.keep (.keep (.keep (.keep (.keep .nil)))))))))), (by refine ⟨?_, ?_⟩; (simp); (have := hI9.2; dsimp only at *; omega))⟩, fun m i10 s10_out x10 hi10 hI10 => ⟨_, (.s (.s (.s (.s (.s (.s (.s (.s (.s .z))))))))), js_appo (.s (.s (.s (.s .z)))) (je_pair (je_var (.s (.s (.s (.s (.s (.s (.s (.s .z)))))))) (je_var (.s (.s (.s (.s (.s (.s (.s (.s (.s .z))))))))) (⟨_, _, (.s (.s (.s (.s .z)))), (by have hz : ts4_ends = [PutE v_x v_other x2.1, PutE v_x v_other x2.2] := thI4; have e9 : PutE v_x v_other x2.1 = d9_17 := (by have h := hd9_17; rw [hz] at h; exact Option.some.inj h); have l9 := putE_len (x := v_x) (y := x2.1) hp.2.2.1 hp.2.2.2.1; rw [e9] at l9; have e10 : PutE v_x v_other x2.2 = d10_21 := (by have h := hd10_21; rw [hz] at h; exact Option.some.inj h); have l10 := putE_len (x := v_x) (y := x2.2) hp.2.2.1 hp.2.2.2.1; rw [e10] at l10; have a1 := (List.getElem?_eq_some_iff.mp hi2).1; have a2 := (List.getElem?_eq_some_iff.mp hi9).1; have a3 := (List.getElem?_eq_some_iff.mp hi10).1; have := hI10.2; dsimp only at *; omega), (.s (.s (.s (.s .z)))), js_end (⟨_, (.keep (.keep (.keep (.keep (.keep (.keep (.keep (.keep (.keep (.drop .nil)))))))))), (by have hz : ts4_ends = [PutE v_x v_other x2.1, PutE v_x v_other x2.2] := thI4; have e9 : PutE v_x v_other x2.1 = d9_17 := (by have h := hd9_17; rw [hz] at h; exact Option.some.inj h); have l9 := putE_len (x := v_x) (y := x2.1) hp.2.2.1 hp.2.2.2.1; rw [e9] at l9; have e10 : PutE v_x v_other x2.2 = d10_21 := (by have h := hd10_21; rw [hz] at h; exact Option.some.inj h); have l10 := putE_len (x := v_x) (y := x2.2) hp.2.2.1 hp.2.2.2.1; rw [e10] at l10; have h := hI10; dsimp only at h; refine ⟨?_, ?_⟩; (rw [← e10] at hi10; rw [h.1, take_s hi10, List.map_append, List.append_assoc]; rfl); (simp only [List.length_append, List.length_cons, List.length_nil]; omega))⟩)⟩))))⟩, fun ts10_out thI10 => js_end (⟨_, (.keep (.keep (.keep (.keep (.keep (.keep (.keep (.keep (.drop (.keep .nil)))))))))), (by have hz : ts4_ends = [PutE v_x v_other x2.1, PutE v_x v_other x2.2] := thI4; have e9 : PutE v_x v_other x2.1 = d9_17 := (by have h := hd9_17; rw [hz] at h; exact Option.some.inj h); have l9 := putE_len (x := v_x) (y := x2.1) hp.2.2.1 hp.2.2.2.1; rw [e9] at l9; have e10 : PutE v_x v_other x2.2 = d10_21 := (by have h := hd10_21; rw [hz] at h; exact Option.some.inj h); have l10 := putE_len (x := v_x) (y := x2.2) hp.2.2.1 hp.2.2.2.1; rw [e10] at l10; have h := thI10; have h9 := hI9; dsimp only at h h9; refine ⟨?_, ?_⟩; (rw [← e9] at hi9; rw [h.1, ← e10, List.take_length, h9.1, take_s hi9, List.flatMap_append, List.append_assoc]; simp); (omega))⟩)⟩⟩)))⟩, fun ts9_out thI9 => js_end (⟨_, (.keep (.keep (.keep (.keep (.keep (.drop (.drop (.keep (.keep (.keep .nil)))))))))), (by have hz : ts4_ends = [PutE v_x v_other x2.1, PutE v_x v_other x2.2] := thI4; have e9 : PutE v_x v_other x2.1 = d9_17 := (by have h := hd9_17; rw [hz] at h; exact Option.some.inj h); have l9 := putE_len (x := v_x) (y := x2.1) hp.2.2.1 hp.2.2.2.1; rw [e9] at l9; have h := thI9; have h2 := hI2; dsimp only at h h2; refine ⟨?_, ?_⟩; (rw [h.1, ← e9, List.take_length, h2.1, take_s hi2, List.flatMap_append, List.append_assoc]; simp [putF]); (omega))⟩)⟩⟩)))⟩))⟩⟩⟩)))⟩, fun ts2_out thI2 => js_frz (.s (.s (.s (.s .z)))) fz_own (.s (.s (.s (.s .z)))) .nil (js_ret (by decide) (je_var (.s (.s (.s (.s .z)))) (⟨(), .nil, (by have h := thI2.1; rw [List.take_length] at h; exact h)⟩)))⟩))⟩⟩⟩)) rfl)
theorem sc_law_joined_pairs : FnScope ["size", "pairs", "other", "more", "in_a_row", "out", "pair", "a", "b"] ["size", "pairs", "other", "more", "in_a_row"] (defScope (top 51)) := ⟨rfl, rfl, rfl, by decide +kernel, rfl, by decide +kernel, by decide +kernel⟩
theorem ok_law_joined_pairs  (x : Fx K mg) : OkF P w K mg base CX0 1 "_law_joined_pairs" ["size", "pairs", "other", "more", "in_a_row"] (spP K 5 (fun (a : Int × (List (Int × Int)) × Int × (List (Int × Int)) × Bool) => match a with | (z0, z1, z2, z3, z4) => [sd z0, sd z1, sd z2, sd z3, sd z4]) (fun a => a.2.1.length ≤ 15000 ∧ a.2.2.2.1.length ≤ 15000 ∧ 0 ≤ a.1 ∧ a.1 ≤ 20 ∧ 0 ≤ a.2.2.1 ∧ a.2.2.1 ≤ 20) (fun a (r : List (Int × Int)) => r = joinPairs a.1 a.2.1 a.2.2.1 a.2.2.2.1 a.2.2.2.2)) := by
  obtain ⟨fd, F⟩ := x.f_law_joined_pairs
  refine ⟨⟨fd, okT F sc_law_joined_pairs (fun _ => rfl) (fun cdv A0 outer s H E a B hr hp => ?_), F.bindsN fun _ _ _ _ _ _ us hl => match us, hl with | [_, _, _, _, _], _ => rfl⟩, x.g_law_joined_pairs, F.kp⟩
  obtain ⟨v_size, v_pairs, v_other, v_more, v_in_a_row⟩ := a
  try dsimp only at hp ⊢
  have nd := (sc_law_joined_pairs).nd
  have hps : PassesOwn (model (cxOf CX0 P w K mg base ["size", "pairs", "other", "more", "in_a_row", "out", "pair", "a", "b"] "_law_joined_pairs" (defScope (top 51)) (He.ga K "_law_joined_pairs") cdv A0 outer s H E).prog (cxOf CX0 P w K mg base ["size", "pairs", "other", "more", "in_a_row", "out", "pair", "a", "b"] "_law_joined_pairs" (defScope (top 51)) (He.ga K "_law_joined_pairs") cdv A0 outer s H E).w) (cxOf CX0 P w K mg base ["size", "pairs", "other", "more", "in_a_row", "out", "pair", "a", "b"] "_law_joined_pairs" (defScope (top 51)) (He.ga K "_law_joined_pairs") cdv A0 outer s H E).A (cxOf CX0 P w K mg base ["size", "pairs", "other", "more", "in_a_row", "out", "pair", "a", "b"] "_law_joined_pairs" (defScope (top 51)) (He.ga K "_law_joined_pairs") cdv A0 outer s H E).env (cxOf CX0 P w K mg base ["size", "pairs", "other", "more", "in_a_row", "out", "pair", "a", "b"] "_law_joined_pairs" (defScope (top 51)) (He.ga K "_law_joined_pairs") cdv A0 outer s H E).xe := PassesOwn.leaving
  exact js_asgo nd (jn_cat (je_new (jn_copy x.b_list (je_var (.s .z) (⟨_, rfl, je_new (jnf_L rfl nd (nm := [("pair", 6)]) (vs' := []) (show BlkOk ["size", "pairs", "other", "more", "in_a_row", "out", "pair", "a", "b"] (defScope (top 51)) _ [("pair", 6)] from ⟨rfl, by decide +kernel, by decide +kernel, by decide +kernel, by decide +kernel⟩) (by decide) (by decide) (fun it acc env => turn1_0 _ _ _ _ _ _) (fun m s H C cl fp => tw_name nd (by decide) (by decide)) (je_var (.s (.s (.s .z))) (⟨1, fun p ds => ds = [(v_size + p.1, v_size + p.2)], (by first | omega | (simp only [St.ok] at *; omega) | (subst_vars; first | omega | (simp only [St.ok] at *; omega))), (fun j hj => by simp at hj; subst hj; rfl), fun iq0 q0 hq0 => ⟨_, (.s (.s (.s (.s (.s (.s .z)))))), fun m D => jts_nil (⟨fun _ => fun s H C cl fp => jq_elt rfl (fun m => je_pair (je_add (je_var .z (je_fst (je_var (.s (.s (.s (.s (.s (.s .z)))))) (je_add (je_var .z (je_snd (je_var (.s (.s (.s (.s (.s (.s .z)))))) (⟨(by rfl), (.keep (.keep (.keep (.keep (.keep (.keep (.drop (.keep (.keep .nil)))))))))⟩)))))))))), fun z => (nomatch z)⟩)⟩, fun dss hds => ⟨_, rfl, ⟨(by rw [all2_map hds, List.length_map]; omega), ⟨_, rfl, fun v_out e_out => ⟨_, (.s (.s (.s (.s (.s .z))))), js_ifm (S := ((List (Int × Int)))) (fun (z0 : ((List (Int × Int)))) => [(5, some (own (sds z0)))]) (fun (s : ((List (Int × Int)))) => s = joinPairs v_size v_pairs v_other v_more v_in_a_row) (fun s2_out hJ2 => js_frz (.s (.s (.s (.s (.s .z))))) fz_own (.s (.s (.s (.s (.s .z))))) .nil (js_ret (by decide) (je_var (.s (.s (.s (.s (.s .z))))) (⟨(), .nil, (by exact hJ2)⟩)))) (jt_bool (je_var (.s (.s (.s (.s .z)))) (⟨fun t2_7 => ⟨fun _ => js_range nd x.b_range hps rfl (je_var .z (⟨((List (Int × Int))), (fun (z0 : ((List (Int × Int)))) => [(5, some (own (sds z0)))]), fun (i : Nat) (s : ((List (Int × Int)))) => s = (v_pairs ++ v_more.map fun p => (v_size + p.1, v_size + p.2)) ++ ((rgI 0 v_size).take i).flatMap (fun a => (rgI 0 v_other).map fun b => (a, v_size + b)) ∧ s.length ≤ 30000 + 20 * i, (by first | omega | (simp only [St.ok] at *; omega) | (subst_vars; first | omega | (simp only [St.ok] at *; omega))), ⟨_, (.keep (.keep (.keep (.keep (.keep (.keep (.keep (.keep (.keep .nil))))))))), (by have h0 : v_out = v_pairs ++ v_more.map (fun p => (v_size + p.1, v_size + p.2)) := (by rw [e_out, all2_map hds]); refine ⟨?_, ?_⟩; (rw [h0]; simp); (rw [h0, List.length_append, List.length_map]; omega))⟩, fun i3 s3_out hi3 hI3 => ⟨_, (.s (.s (.s (.s (.s (.s (.s .z))))))), js_range nd x.b_range hps rfl (je_var (.s (.s .z)) (⟨((List (Int × Int))), (fun (z0 : ((List (Int × Int)))) => [(5, some (own (sds z0)))]), fun (i : Nat) (s : ((List (Int × Int)))) => s = s3_out ++ ((rgI 0 v_other).take i).map (fun b => ((i3 : Int), v_size + b)) ∧ s.length ≤ 30000 + 20 * i3 + i, (by first | omega | (simp only [St.ok] at *; omega) | (subst_vars; first | omega | (simp only [St.ok] at *; omega))), ⟨_, (.keep (.keep (.keep (.keep (.keep (.keep (.keep (.keep (.keep .nil))))))))), (by refine ⟨?_, ?_⟩; (simp); (have := hI3.2; dsimp only at *; omega))⟩, fun i4 s4_out hi4 hI4 => ⟨_, (.s (.s (.s (.s (.s (.s (.s (.s .z)))))))), js_appo (.s (.s (.s (.s (.s .z))))) (je_pair (je_var (.s (.s (.s (.s (.s (.s (.s .z))))))) (je_add (je_var .z (je_var (.s (.s (.s (.s (.s (.s (.s (.s .z)))))))) (⟨_, _, (.s (.s (.s (.s (.s .z))))), (by have := hI4.2; dsimp only at *; omega), (.s (.s (.s (.s (.s .z))))), js_end (⟨_, (.keep (.keep (.keep (.keep (.keep (.keep (.keep (.keep (.drop .nil))))))))), (by have h := hI4; dsimp only at h; refine ⟨?_, ?_⟩; (rw [h.1, rgI_take hi4, List.map_append, List.append_assoc]; rfl); (simp only [List.length_append, List.length_cons, List.length_nil]; omega))⟩)⟩))))))⟩, fun ts4_out thI4 => js_end (⟨_, (.keep (.keep (.keep (.keep (.keep (.keep (.keep (.drop (.keep .nil))))))))), (by have h := thI4; have h3 := hI3; dsimp only at h h3; refine ⟨?_, ?_⟩; (rw [h.1, rgI_full, h3.1, rgI_take hi3, List.flatMap_append, List.append_assoc]; simp); (omega))⟩)⟩))⟩, fun ts3_out thI3 => js_end (⟨_, (.keep (.keep (.keep (.keep (.keep (.keep (.keep (.keep (.keep .nil))))))))), (by have h := thI3.1; rw [rgI_full] at h; rw [h]; unfold joinPairs; rw [t2_7]; rfl)⟩)⟩)), fun z => (nomatch z)⟩, fun t2_7 => ⟨fun z => (nomatch z), fun _ => js_end (⟨_, (.keep (.keep (.keep (.keep (.keep (.keep (.keep (.keep (.keep .nil))))))))), (by have h0 : v_out = v_pairs ++ v_more.map (fun p => (v_size + p.1, v_size + p.2)) := (by rw [e_out, all2_map hds]); rw [h0]; unfold joinPairs; rw [t2_7]; simp)⟩)⟩⟩)))⟩⟩⟩⟩⟩)))⟩)))))
end
end Lw
end
section
namespace Lw
open PySem PySem.Spec PyProof.Rows L2 Tyl
theorem perm_at {names : List Int} {n : Int} (hn : names.Perm (rgI 0 n)) {u : Int} (h0 : 0 ≤ u) (h1 : u < n) : names.idxOf (at0 names u) = u.toNat := by
  have nd : names.Nodup := hn.nodup_iff.mpr rgI_nodup
  have hl := hn.length_eq
  rw [rgI_len] at hl
  have hlt : u.toNat < names.length := by omega
  have e : names[u.toNat]? = some (at0 names u) := by
    unfold at0
    rw [List.getElem?_eq_getElem hlt]
    rfl
  exact idx_at nd e
theorem perm_at_mem {names : List Int} {n : Int} (hn : names.Perm (rgI 0 n)) {u : Int} (h0 : 0 ≤ u) (h1 : u < n) : 0 ≤ at0 names u ∧ at0 names u < n := by
  have hl := hn.length_eq
  rw [rgI_len] at hl
  have hlt : u.toNat < names.length := by omega
  have e : names[u.toNat]? = some (at0 names u) := by
    unfold at0
    rw [List.getElem?_eq_getElem hlt]
    rfl
  exact rgI_mem.mp (hn.mem_iff.mp (List.mem_of_getElem? e))
theorem ac_ren {names : List Int} {n : Int} {ps : List (Int × Int)} (hn : names.Perm (rgI 0 n)) (h : Ac n ps) : Ac n (ps.map fun p => (at0 names p.1, at0 names p.2)) := by
  obtain ⟨r, k⟩ := h
  refine ⟨fun w => r (names.idxOf w : Nat), fun p hp => ?_⟩
  obtain ⟨q, hq, rfl⟩ := List.mem_map.mp hp
  obtain ⟨⟨a, b, c, d⟩, e⟩ := k q hq
  have m1 := perm_at_mem hn a b
  have m2 := perm_at_mem hn c d
  refine ⟨⟨m1.1, m1.2, m2.1, m2.2⟩, ?_⟩
  show r (names.idxOf (at0 names q.1) : Nat) < r (names.idxOf (at0 names q.2) : Nat)
  rw [perm_at hn a b, perm_at hn c d]
  have e1 : ((q.1.toNat : Nat) : Int) = q.1 := by omega
  have e2 : ((q.2.toNat : Nat) : Int) = q.2 := by omega
  rw [e1, e2]
  exact e
theorem net_rank {line names : List Int} {arrows brrows : List (Int × Int)} (hl : line.Perm (rgI 0 line.length)) (hn : names.Perm line) (hb : ∀ p ∈ arrows, Bef line p.1 p.2) (hp : brrows.Perm arrows) :
    (∀ p ∈ brrows, 0 ≤ p.1 ∧ p.1 < names.length ∧ 0 ≤ p.2 ∧ p.2 < names.length) ∧ ∃ rk : Int → Nat, ∀ p ∈ brrows.map fun p => (at0 names p.1, at0 names p.2), rk p.1 < rk p.2 := by
  have ha := ac_of_bef hl (fun p h => hb p (hp.mem_iff.mp h) : ∀ p ∈ brrows, _)
  have e := hn.length_eq
  refine ⟨fun p h => by obtain ⟨r, k⟩ := ha; have := (k p h).1; omega, ?_⟩
  obtain ⟨r, k⟩ := ac_ren (hn.trans hl) ha
  exact ⟨r, fun p h => (k p h).2⟩
def sampleF (name : Str) : Int × List (Int × Int) :=
  if name = "house" then (5, [(0, 1), (0, 2), (1, 4), (3, 4)]) else if name = "n" then (4, [(0, 2), (1, 2), (1, 3)]) else if name = "fence" then (5, [(0, 2), (0, 3), (1, 3), (1, 4)]) else
  if name = "crown" then (6, [(0, 3), (0, 4), (1, 4), (1, 5), (2, 3), (2, 5)]) else if name = "six" then (6, [(0, 2), (0, 3), (1, 2), (1, 3), (0, 4), (5, 2)]) else
  (10, [(0, 2), (0, 3), (0, 4), (1, 2), (1, 3), (1, 4)] ++ [(0, 5), (1, 6), (7, 2), (8, 3), (9, 4)])
theorem sample_ac (name : Str) : Ac (sampleF name).1 (sampleF name).2 ∧ 4 ≤ (sampleF name).1 ∧ (sampleF name).1 ≤ 10 ∧ (sampleF name).2.length ≤ 11 := by
  unfold sampleF
  repeat' split
  · exact ⟨⟨fun v => v.toNat, by decide⟩, by decide⟩
  all_goals first
    | exact ⟨⟨fun v => if v < 2 then 0 else 1, by decide⟩, by decide⟩
    | exact ⟨⟨fun v => if v < 3 then 0 else 1, by decide⟩, by decide⟩
    | exact ⟨⟨fun v => if v < 2 ∨ v = 5 then 0 else 1, by decide⟩, by decide⟩
    | exact ⟨⟨fun v => if v < 2 ∨ 7 ≤ v then 0 else 1, by decide⟩, by decide⟩
theorem net_fin {ps : List (Int × Int)} {n : Int} {arrows : List (Int × Int)} (hn : n = arrows.length) (hr : ∃ rk : Int → Nat, ∀ p ∈ arrows, rk p.1 < rk p.2) (h : ∀ p ∈ ps, ∃ i j : Nat, p = ((i : Int), (j : Int)) ∧ ∃ a b, arrows[i]? = some a ∧ arrows[j]? = some b ∧ a.2 = b.1) : Ac n ps := by
  obtain ⟨rk, k⟩ := hr
  refine ⟨fun v => rk ((arrows[v.toNat]?).getD (0, 0)).1, fun p hp => ?_⟩
  obtain ⟨i, j, rfl, a, b, h1, h2, e⟩ := h p hp
  have l1 := (List.getElem?_eq_some_iff.mp h1).1
  have l2 := (List.getElem?_eq_some_iff.mp h2).1
  refine ⟨by dsimp only; omega, ?_⟩
  dsimp only
  rw [Int.toNat_natCast, Int.toNat_natCast, h1, h2]
  show rk a.1 < rk b.1
  rw [← e]
  exact k a (List.mem_of_getElem? h1)
section
variable {P : Program} {w : World} {K : Fg} {mg : Str → Option Value} {base : Heap}
theorem sc_law_puts : FnScope ["store", "most", "size", "splits"] ["store", "most"] (defScope (top 45)) := ⟨rfl, rfl, rfl, by decide +kernel, rfl, by decide +kernel, by decide +kernel⟩
theorem ok_law_puts  (x : Fx K mg) : OkF P w K mg base CX0 5 "_law_puts" ["store", "most"] (spO K 1 St.sds (fun (a : Int) => [sd a]) (fun s n => s.ok ∧ 1 ≤ n ∧ n ≤ 100) (fun s n (r : Int × Int) s' => s'.ok ∧ 0 ≤ r.1 ∧ 0 ≤ r.2 ∧ r.1 + r.2 + 1 ≤ n)) := by
  obtain ⟨fd, F⟩ := x.f_law_puts
  refine ⟨⟨fd, okT F sc_law_puts (fun _ => rfl) (fun cdv A0 outer s H E a B hr hp => ?_), F.bindsN fun _ _ _ _ _ _ us hl => match us, hl with | [_, _], _ => rfl⟩, x.g_law_puts, F.kp⟩
  obtain ⟨v_store, v_most⟩ := a
  try dsimp only at hp ⊢
  have nd := (sc_law_puts).nd
  exact js_asgv nd (je_callO ((ok_law_size x).mono (by decide)) hr pass0 .z (ja_cons (je_var (.s .z) (ja_nil (⟨_, _, .z, rfl, rfl, (by first | omega | (simp only [St.ok] at *; omega) | (subst_vars; first | omega | (simp only [St.ok] at *; omega))), fun r1_11 o1_11 p1_11 => ⟨_, .z, fun v_size e_size => ⟨_, (.s (.s .z)), js_asgv nd (je_callO ((ok_law_near x).mono (by decide)) hr pass0 .z (ja_cons (je_int (ja_cons (je_sub (je_var (.s (.s .z)) (je_int (ja_nil (⟨_, ⟨_, _⟩, .z, rfl, rfl, (by first | omega | (simp only [St.ok] at *; omega) | (subst_vars; first | omega | (simp only [St.ok] at *; omega))), fun r2_13 o2_13 p2_13 => ⟨_, .z, fun v_splits e_splits => ⟨_, (.s (.s (.s .z))), js_ret (by decide) (je_pair (je_sub (je_sub (je_var (.s (.s .z)) (je_int (je_var (.s (.s (.s .z))) (je_var (.s (.s (.s .z))) (⟨_, (.cons .z .nil), (by first | omega | (simp only [St.ok] at *; omega) | (subst_vars; first | omega | (simp only [St.ok] at *; omega)))⟩))))))))⟩⟩⟩)))))))))⟩⟩⟩)))))
theorem sc_law_net : FnScope ["store", "most", "puts", "splits", "made_of", "names"] ["store", "most"] (defScope (top 46)) := ⟨rfl, rfl, rfl, by decide +kernel, rfl, by decide +kernel, by decide +kernel⟩
theorem ok_law_net  (x : Fx K mg) : OkF P w K mg base CX0 6 "_law_net" ["store", "most"] (spO K 1 St.sds (fun (a : Int) => [sd a]) (fun s n => s.ok ∧ 1 ≤ n ∧ n ≤ 100) (fun s n (r : Int × List (Int × Int)) s' => s'.ok ∧ 1 ≤ (r.2.length : Int) ∧ (r.2.length : Int) ≤ n ∧ ∃ rk : Int → Nat, ∀ p ∈ r.2, rk p.1 < rk p.2)) := by
  obtain ⟨fd, F⟩ := x.f_law_net
  refine ⟨⟨fd, okT F sc_law_net (fun _ => rfl) (fun cdv A0 outer s H E a B hr hp => ?_), F.bindsN fun _ _ _ _ _ _ us hl => match us, hl with | [_, _], _ => rfl⟩, x.g_law_net, F.kp⟩
  obtain ⟨v_store, v_most⟩ := a
  try dsimp only at hp ⊢
  have nd := (sc_law_net).nd
  exact js_tgt (tg_pair rfl nd (by decide) (by decide)) (je_callO ((ok_law_puts x).mono (by decide)) hr pass0 .z (ja_cons (je_var (.s .z) (ja_nil (⟨_, _, .z, rfl, rfl, (by first | omega | (simp only [St.ok] at *; omega) | (subst_vars; first | omega | (simp only [St.ok] at *; omega))), fun r1_19 o1_19 p1_19 => ⟨_, .z, ⟨_, ⟨_, (.s (.s .z)), (.s (.s (.s .z)))⟩, js_asgv nd (je_callO ((ok_law_recipe x).mono (by decide)) hr pass0 .z (ja_cons (je_var (.s (.s .z)) (ja_cons (je_var (.s (.s (.s .z))) (ja_nil (⟨_, ⟨_, _⟩, .z, rfl, rfl, (by first | omega | (simp only [St.ok] at *; omega) | (subst_vars; first | omega | (simp only [St.ok] at *; omega))), fun r2_14 o2_14 p2_14 => ⟨_, .z, fun v_made_of e_made_of => ⟨_, (.s (.s (.s (.s .z)))), js_asgv nd (je_callO ((ok_law_mixed x).mono (by decide)) hr pass0 .z (ja_cons (je_3c (je_var (.s (.s (.s (.s .z)))) (ja_nil (⟨_, _, .z, rfl, rfl, (by subst e_made_of; omega), fun r3_12 o3_12 p3_12 => ⟨_, .z, fun v_names e_names => ⟨_, (.s (.s (.s (.s (.s .z))))), js_ret (by decide) (je_pair (je_len x.b_len (je_var (.s (.s (.s (.s (.s .z))))) (je_callP ((ok_law_renumber x).mono (by decide)) hr pass0 (ja_cons (je_callO ((ok_law_mixed x).mono (by decide)) hr pass0 .z (ja_cons (je_3b (je_var (.s (.s (.s (.s .z)))) (ja_nil (⟨_, _, .z, rfl, rfl, (by subst e_made_of; omega), fun r4_38 o4_38 p4_38 => ⟨_, .z, ja_cons (je_var (.s (.s (.s (.s (.s .z))))) (ja_nil (⟨⟨_, _⟩, rfl, rfl, (by subst e_names e_made_of; exact ⟨(net_rank p2_14.2.1 p3_12.2 p2_14.2.2.1 p4_38.2).1, by rw [p4_38.2.length_eq]; omega⟩), fun r4_24 p4_24 => ⟨_, (.cons .z .nil), (by subst e_names e_made_of; refine ⟨p4_38.1, ?_, ?_, ?_⟩; (rw [p4_24, List.length_map, p4_38.2.length_eq]; omega); (rw [p4_24, List.length_map, p4_38.2.length_eq]; omega); (rw [p4_24]; exact (net_rank p2_14.2.1 p3_12.2 p2_14.2.2.1 p4_38.2).2))⟩⟩)))⟩⟩)))))))))))⟩⟩⟩))))))⟩⟩⟩)))))))⟩⟩⟩)))))
theorem sc_law_net_covers : FnScope ["arrows", "out", "x", "y"] ["arrows"] (defScope (top 47)) := ⟨rfl, rfl, rfl, by decide +kernel, rfl, by decide +kernel, by decide +kernel⟩
theorem ok_law_net_covers  (x : Fx K mg) : OkF P w K mg base CX0 1 "_law_net_covers" ["arrows"] (spP K 1 (fun (a : List (Int × Int)) => [sd a]) (fun a => a.length ≤ 20 ∧ ∃ rk : Int → Nat, ∀ p ∈ a, rk p.1 < rk p.2) (fun a (r : List (Int × Int)) => Ac a.length r ∧ r.length ≤ 400 ∧ (a.length ≤ 6 → r.length ≤ 36))) := by
  obtain ⟨fd, F⟩ := x.f_law_net_covers
  refine ⟨⟨fd, okT F sc_law_net_covers (fun _ => rfl) (fun cdv A0 outer s H E v_arrows B hr hp => ?_), F.bindsN fun _ _ _ _ _ _ us hl => match us, hl with | [_], _ => rfl⟩, x.g_law_net_covers, F.kp⟩
  try dsimp only at hp ⊢
  have nd := (sc_law_net_covers).nd
  have hps : PassesOwn (model (cxOf CX0 P w K mg base ["arrows", "out", "x", "y"] "_law_net_covers" (defScope (top 47)) (He.ga K "_law_net_covers") cdv A0 outer s H E).prog (cxOf CX0 P w K mg base ["arrows", "out", "x", "y"] "_law_net_covers" (defScope (top 47)) (He.ga K "_law_net_covers") cdv A0 outer s H E).w) (cxOf CX0 P w K mg base ["arrows", "out", "x", "y"] "_law_net_covers" (defScope (top 47)) (He.ga K "_law_net_covers") cdv A0 outer s H E).A (cxOf CX0 P w K mg base ["arrows", "out", "x", "y"] "_law_net_covers" (defScope (top 47)) (He.ga K "_law_net_covers") cdv A0 outer s H E).env (cxOf CX0 P w K mg base ["arrows", "out", "x", "y"] "_law_net_covers" (defScope (top 47)) (He.ga K "_law_net_covers") cdv A0 outer s H E).xe := PassesOwn.leaving
  exact js_asgo nd (jn_lst (ja_nil (⟨[], rfl, by simp, ⟨([] : List (Int × Int)), rfl, fun v_out e_out => ⟨_, (.s .z), js_range nd x.b_range hps rfl (je_len x.b_len (je_var .z (⟨((List (Int × Int))), (fun (z0 : ((List (Int × Int)))) => [(1, some (own (sds z0)))]), fun (i : Nat) (s : ((List (Int × Int)))) => (∀ p ∈ s, ∃ i j : Nat, p = ((i : Int), (j : Int)) ∧ ∃ a b, v_arrows[i]? = some a ∧ v_arrows[j]? = some b ∧ a.2 = b.1) ∧ s.length ≤ 20 * i ∧ (v_arrows.length ≤ 6 → s.length ≤ 6 * i), (by first | omega | (simp only [St.ok] at *; omega) | (subst_vars; first | omega | (simp only [St.ok] at *; omega))), ⟨_, (.keep (.keep (.keep (.keep .nil)))), (by simp [e_out])⟩, fun i2 s2_out hi2 hI2 => ⟨_, (.s (.s .z)), js_range nd x.b_range hps rfl (je_len x.b_len (je_var .z (⟨((List (Int × Int))), (fun (z0 : ((List (Int × Int)))) => [(1, some (own (sds z0)))]), fun (i : Nat) (s : ((List (Int × Int)))) => (∀ p ∈ s, ∃ i j : Nat, p = ((i : Int), (j : Int)) ∧ ∃ a b, v_arrows[i]? = some a ∧ v_arrows[j]? = some b ∧ a.2 = b.1) ∧ s.length ≤ 20 * i2 + i ∧ (v_arrows.length ≤ 6 → s.length ≤ 6 * i2 + i), (by first | omega | (simp only [St.ok] at *; omega) | (subst_vars; first | omega | (simp only [St.ok] at *; omega))), ⟨_, (.keep (.keep (.keep (.keep .nil)))), (by exact ⟨hI2.1, by have := hI2.2; dsimp only at *; omega⟩)⟩, fun i3 s3_out hi3 hI3 => ⟨_, (.s (.s (.s .z))), js_if1 (jt_eq (je_snd (je_ix (je_var .z (je_var (.s (.s .z)) (⟨(by first | omega | (simp only [St.ok] at *; omega) | (subst_vars; first | omega | (simp only [St.ok] at *; omega))), fun d4_15 hd4_15 => je_fst (je_ix (je_var .z (je_var (.s (.s (.s .z))) (⟨(by first | omega | (simp only [St.ok] at *; omega) | (subst_vars; first | omega | (simp only [St.ok] at *; omega))), fun d4_31 hd4_31 => ⟨fun t4_15 => ⟨fun _ => js_appo (.s .z) (je_pair (je_var (.s (.s .z)) (je_var (.s (.s (.s .z))) (⟨_, _, (.s .z), (by have := hI3.2; dsimp only at *; omega), (.s .z), js_end (⟨_, (.keep (.keep (.keep (.drop .nil)))), (by have h := hI3; dsimp only at h; first | (refine ⟨?_, ?_⟩; (intro p hp; rcases List.mem_append.mp hp with q | q; exact h.1 p q; (rw [List.mem_singleton.mp q]; exact ⟨i2, i3, rfl, d4_15, d4_31, hd4_15, hd4_31, t4_15⟩)); (simp only [List.length_append, List.length_cons, List.length_nil]; omega)) | exact ⟨h.1, by omega⟩)⟩)⟩)))), fun z => (nomatch z)⟩, fun t4_15 => ⟨fun z => (nomatch z), fun _ => js_end (⟨_, (.keep (.keep (.keep (.drop .nil)))), (by have h := hI3; dsimp only at h; first | (refine ⟨?_, ?_⟩; (intro p hp; rcases List.mem_append.mp hp with q | q; exact h.1 p q; (rw [List.mem_singleton.mp q]; exact ⟨i2, i3, rfl, d4_15, d4_31, hd4_15, hd4_31, t4_15⟩)); (simp only [List.length_append, List.length_cons, List.length_nil]; omega)) | exact ⟨h.1, by omega⟩)⟩)⟩⟩⟩))))⟩))))))⟩, fun ts3_out thI3 => js_end (⟨_, (.keep (.keep (.drop (.keep .nil)))), (by exact ⟨thI3.1, by have := thI3.2; dsimp only at *; omega⟩)⟩)⟩)))⟩, fun ts2_out thI2 => js_frz (.s .z) fz_own (.s .z) .nil (js_ret (by decide) (je_var (.s .z) (⟨(), .nil, (by exact ⟨net_fin rfl hp.2 thI2.1, by have := thI2.2; dsimp only at *; omega⟩)⟩)))⟩)))⟩⟩⟩)))
theorem sc_law_line_plan : FnScope ["store", "most", "arrows"] ["store", "most"] (defScope (top 48)) := ⟨rfl, rfl, rfl, by decide +kernel, rfl, by decide +kernel, by decide +kernel⟩
theorem ok_law_line_plan  (x : Fx K mg) : OkF P w K mg base CX0 7 "_law_line_plan" ["store", "most"] (spO K 1 St.sds (fun (a : Int) => [sd a]) (fun s n => s.ok ∧ 1 ≤ n ∧ n ≤ 20) (fun s n (r : Int × List (Int × Int)) s' => s'.ok ∧ 1 ≤ r.1 ∧ r.1 ≤ n ∧ Ac r.1 r.2 ∧ r.2.length ≤ 400 ∧ (n ≤ 6 → r.2.length ≤ 36))) := by
  obtain ⟨fd, F⟩ := x.f_law_line_plan
  refine ⟨⟨fd, okT F sc_law_line_plan (fun _ => rfl) (fun cdv A0 outer s H E a B hr hp => ?_), F.bindsN fun _ _ _ _ _ _ us hl => match us, hl with | [_, _], _ => rfl⟩, x.g_law_line_plan, F.kp⟩
  obtain ⟨v_store, v_most⟩ := a
  try dsimp only at hp ⊢
  have nd := (sc_law_line_plan).nd
  exact js_asg nd (je_snd (je_callO ((ok_law_net x).mono (by decide)) hr pass0 .z (ja_cons (je_var (.s .z) (ja_nil (⟨_, _, .z, rfl, rfl, (by first | omega | (simp only [St.ok] at *; omega) | (subst_vars; first | omega | (simp only [St.ok] at *; omega))), fun r1_13 o1_13 p1_13 => ⟨_, .z, ⟨_, (.s (.s .z)), js_ret (by decide) (je_pair (je_len x.b_len (je_var (.s (.s .z)) (je_callO ((ok_law_mixed x).mono (by decide)) hr pass0 .z (ja_cons (je_callP ((ok_law_net_covers x).mono (by decide)) hr pass0 (ja_cons (je_var (.s (.s .z)) (ja_nil (⟨_, rfl, rfl, (by exact ⟨by omega, p1_13.2.2.2⟩), fun r2_43 p2_43 => ja_nil (⟨_, _, .z, rfl, rfl, (by first | omega | (simp only [St.ok] at *; omega) | (subst_vars; first | omega | (simp only [St.ok] at *; omega))), fun r2_25 o2_25 p2_25 => ⟨_, .z, ⟨_, (.cons .z .nil), (by exact ⟨p2_25.1, by dsimp only; omega, by dsimp only; omega, p2_43.1.perm p2_25.2, by rw [p2_25.2.length_eq]; have := p2_43.2; exact ⟨this.1, fun h => this.2 (by omega)⟩⟩)⟩⟩⟩)⟩))))))))))⟩⟩⟩))))))
theorem sc_law_sample : FnScope ["name", "ends"] ["name"] (defScope (top 49)) := ⟨rfl, rfl, rfl, by decide +kernel, rfl, by decide +kernel, by decide +kernel⟩
theorem ok_law_sample  (x : Fx K mg) : OkF P w K mg base CX0 1 "_law_sample" ["name"] (spP K 1 (fun (a : Str) => [sd a]) (fun a => True) (fun a (r : Int × List (Int × Int)) => r = sampleF a)) := by
  obtain ⟨fd, F⟩ := x.f_law_sample
  refine ⟨⟨fd, okT F sc_law_sample (fun _ => rfl) (fun cdv A0 outer s H E v_name B hr hp => ?_), F.bindsN fun _ _ _ _ _ _ us hl => match us, hl with | [_], _ => rfl⟩, x.g_law_sample, F.kp⟩
  try dsimp only at hp ⊢
  have nd := (sc_law_sample).nd
  exact js_ifR (jt_eq (je_var .z (je_str (⟨fun t1_7 => ⟨fun _ => js_ret (by decide) (je_pair (je_int (je_new (jn_lst (ja_cons (je_pair (je_int (je_int (ja_cons (je_pair (je_int (je_int (ja_cons (je_pair (je_int (je_int (ja_cons (je_pair (je_int (je_int (ja_nil (⟨[_, _, _, _], rfl, by simp, ⟨[_, _, _, _], rfl, ⟨(), .nil, (by unfold sampleF; rw [if_pos t1_7])⟩⟩⟩)))))))))))))))))))))), fun z => (nomatch z)⟩, fun t1_7 => ⟨fun z => (nomatch z), fun _ => js_ifR (jt_eq (je_var .z (je_str (⟨fun t3_7 => ⟨fun _ => js_ret (by decide) (je_pair (je_int (je_new (jn_lst (ja_cons (je_pair (je_int (je_int (ja_cons (je_pair (je_int (je_int (ja_cons (je_pair (je_int (je_int (ja_nil (⟨[_, _, _], rfl, by simp, ⟨[_, _, _], rfl, ⟨(), .nil, (by unfold sampleF; rw [if_neg t1_7, if_pos t3_7])⟩⟩⟩)))))))))))))))))), fun z => (nomatch z)⟩, fun t3_7 => ⟨fun z => (nomatch z), fun _ => js_ifR (jt_eq (je_var .z (je_str (⟨fun t5_7 => ⟨fun _ => js_ret (by decide) (je_pair (je_int (je_new (jn_lst (ja_cons (je_pair (je_int (je_int (ja_cons (je_pair (je_int (je_int (ja_cons (je_pair (je_int (je_int (ja_cons (je_pair (je_int (je_int (ja_nil (⟨[_, _, _, _], rfl, by simp, ⟨[_, _, _, _], rfl, ⟨(), .nil, (by unfold sampleF; rw [if_neg t1_7, if_neg t3_7, if_pos t5_7])⟩⟩⟩)))))))))))))))))))))), fun z => (nomatch z)⟩, fun t5_7 => ⟨fun z => (nomatch z), fun _ => js_ifR (jt_eq (je_var .z (je_str (⟨fun t7_7 => ⟨fun _ => js_ret (by decide) (je_pair (je_int (je_new (jn_lst (ja_cons (je_pair (je_int (je_int (ja_cons (je_pair (je_int (je_int (ja_cons (je_pair (je_int (je_int (ja_cons (je_pair (je_int (je_int (ja_cons (je_pair (je_int (je_int (ja_cons (je_pair (je_int (je_int (ja_nil (⟨[_, _, _, _, _, _], rfl, by simp, ⟨[_, _, _, _, _, _], rfl, ⟨(), .nil, (by unfold sampleF; rw [if_neg t1_7, if_neg t3_7, if_neg t5_7, if_pos t7_7])⟩⟩⟩)))))))))))))))))))))))))))))), fun z => (nomatch z)⟩, fun t7_7 => ⟨fun z => (nomatch z), fun _ => js_ifR (jt_eq (je_var .z (je_str (⟨fun t9_7 => ⟨fun _ => js_ret (by decide) (je_pair (je_int (je_new (jn_lst (ja_cons (je_pair (je_int (je_int (ja_cons (je_pair (je_int (je_int (ja_cons (je_pair (je_int (je_int (ja_cons (je_pair (je_int (je_int (ja_cons (je_pair (je_int (je_int (ja_cons (je_pair (je_int (je_int (ja_nil (⟨[_, _, _, _, _, _], rfl, by simp, ⟨[_, _, _, _, _, _], rfl, ⟨(), .nil, (by unfold sampleF; rw [if_neg t1_7, if_neg t3_7, if_neg t5_7, if_neg t7_7, if_pos t9_7])⟩⟩⟩)))))))))))))))))))))))))))))), fun z => (nomatch z)⟩, fun t9_7 => ⟨fun z => (nomatch z), fun _ => js_asgv nd (je_new (jn_lst (ja_cons (je_pair (je_int (je_int (ja_cons (je_pair (je_int (je_int (ja_cons (je_pair (je_int (je_int (ja_cons (je_pair (je_int (je_int (ja_cons (je_pair (je_int (je_int (ja_nil (⟨[_, _, _, _, _], rfl, by simp, ⟨[_, _, _, _, _], rfl, fun v_ends e_ends => ⟨_, (.s .z), js_ret (by decide) (je_pair (je_int (je_new (jn_cat (je_new (jn_lst (ja_cons (je_pair (je_int (je_int (ja_cons (je_pair (je_int (je_int (ja_cons (je_pair (je_int (je_int (ja_cons (je_pair (je_int (je_int (ja_cons (je_pair (je_int (je_int (ja_cons (je_pair (je_int (je_int (ja_nil (⟨[_, _, _, _, _, _], rfl, by simp, ⟨[_, _, _, _, _, _], rfl, je_var (.s .z) (⟨(by rw [e_ends]; simp), ⟨_, rfl, ⟨(), .nil, (by unfold sampleF; rw [if_neg t1_7, if_neg t3_7, if_neg t5_7, if_neg t7_7, if_neg t9_7]; rw [e_ends])⟩⟩⟩)⟩⟩))))))))))))))))))))))))))))))))⟩⟩⟩))))))))))))))))))))))))⟩⟩))))⟩⟩))))⟩⟩))))⟩⟩))))⟩⟩))))
end
end Lw
end
section
namespace Lw
open PySem PySem.Spec PyProof.Rows L2 Tyl
theorem list_bound (f : Int × Int → Nat) : ∀ L : List (Int × Int), ∃ N, ∀ p ∈ L, f p < N
  | [] => ⟨0, fun _ h => nomatch h⟩
  | a :: L => let ⟨N, h⟩ := list_bound f L; ⟨N + f a + 1, fun p hp => by
      rcases List.mem_cons.mp hp with rfl | hp
      · omega
      · have := h p hp; omega⟩
theorem putE_mem {x k y z : Int} (h : z ∈ PutE x k y) : (y = x ∧ x ≤ z ∧ z < x + k) ∨ (y < x ∧ z = y) ∨ (x < y ∧ z = y + (k - 1)) := by
  unfold PutE at h
  split at h
  · have := rgI_mem.mp h; omega
  · rw [List.mem_singleton] at h
    split at h <;> omega
theorem putPairs_mem {ps : List (Int × Int)} {x k : Int} {more : List (Int × Int)} {p : Int × Int} : p ∈ putPairs ps x k more ↔ (∃ q ∈ more, p = (x + q.1, x + q.2)) ∨ ∃ q ∈ ps, p.1 ∈ PutE x k q.1 ∧ p.2 ∈ PutE x k q.2 := by
  unfold putPairs putF
  rw [List.mem_append, List.mem_map, List.mem_flatMap]
  constructor
  · rintro (⟨q, h, rfl⟩ | ⟨q, h, hp⟩)
    · exact .inl ⟨q, h, rfl⟩
    · obtain ⟨a, ha, hp⟩ := List.mem_flatMap.mp hp
      obtain ⟨b, hb, rfl⟩ := List.mem_map.mp hp
      exact .inr ⟨q, h, ha, hb⟩
  · rintro (⟨q, h, rfl⟩ | ⟨q, h, ha, hb⟩)
    · exact .inl ⟨q, h, rfl⟩
    · exact .inr ⟨q, h, List.mem_flatMap.mpr ⟨p.1, ha, List.mem_map.mpr ⟨p.2, hb, rfl⟩⟩⟩
theorem ac_put {n k x : Int} {ps more : List (Int × Int)} (h : Ac n ps) (hm : Ac k more) (h0 : 0 ≤ x) (h1 : x < n) (hk : 1 ≤ k) : Ac (n + k - 1) (putPairs ps x k more) := by
  obtain ⟨r1, k1⟩ := h
  obtain ⟨r2, k2⟩ := hm
  obtain ⟨N, hN⟩ := list_bound (fun p => r2 p.2) more
  refine ⟨fun z => r1 (if z < x then z else if z < x + k then x else z - (k - 1)) * (N + 1) + (if x ≤ z ∧ z < x + k then min (r2 (z - x)) N else 0), fun p hp => ?_⟩
  rcases putPairs_mem.mp hp with ⟨q, hq, rfl⟩ | ⟨q, hq, ha, hb⟩
  · obtain ⟨⟨a, b, c, d⟩, e⟩ := k2 q hq
    have := hN q hq
    dsimp only at *
    refine ⟨by omega, ?_⟩
    rw [if_neg (by omega), if_pos (by omega), if_pos (by omega), if_neg (by omega), if_pos (by omega), if_pos (by omega)]
    have e1 : x + q.1 - x = q.1 := by omega
    have e2 : x + q.2 - x = q.2 := by omega
    rw [e1, e2]
    omega
  · obtain ⟨⟨a, b, c, d⟩, e⟩ := k1 q hq
    have m1 := putE_mem ha
    have m2 := putE_mem hb
    dsimp only
    refine ⟨by omega, ?_⟩
    have f : ∀ y z, (y = x ∧ x ≤ z ∧ z < x + k) ∨ (y < x ∧ z = y) ∨ (x < y ∧ z = y + (k - 1)) → (if z < x then z else if z < x + k then x else z - (k - 1)) = y := by
      intro y z h
      split
      · omega
      · split <;> omega
    rw [f _ _ m1, f _ _ m2]
    have g : (if x ≤ p.1 ∧ p.1 < x + k then min (r2 (p.1 - x)) N else 0) ≤ N := by split <;> omega
    have l : (r1 q.1 + 1) * (N + 1) ≤ r1 q.2 * (N + 1) := Nat.mul_le_mul_right _ e
    rw [Nat.add_mul] at l
    omega
theorem ac_chain {n : Int} : Ac n ((rgI 0 (n - 1)).map fun x => (x, x + 1)) := ⟨fun v => v.toNat, fun p hp => by
  obtain ⟨a, ha, rfl⟩ := List.mem_map.mp hp
  have := rgI_mem.mp ha
  dsimp only
  omega⟩
theorem ac_nil {n : Int} : Ac n [] := ⟨fun _ => 0, fun _ h => nomatch h⟩
theorem fit_len {most : Int} (h : 3 < most) : 0 < ((["n", "fence", "crown", "six", "hub"] : List Str).filter fun q => decide ((sampleF q).1 ≤ most)).length := by
  refine List.length_pos_of_mem (a := ("n" : Str)) (List.mem_filter.mpr ⟨List.mem_cons_self, ?_⟩)
  have : (sampleF ("n" : Str)).1 = 4 := by decide
  exact decide_eq_true (by rw [this]; omega)
section
variable {P : Program} {w : World} {K : Fg} {mg : Str → Option Value} {base : Heap}
theorem sc_law_four_plan : FnScope ["store", "most", "menu", "fits", "name", "size", "pairs", "kind", "other", "more", "names"] ["store", "most"] (defScope (top 52)) := ⟨rfl, rfl, rfl, by decide +kernel, rfl, by decide +kernel, by decide +kernel⟩
theorem ok_law_four_plan  (x : Fx K mg) : OkF P w K mg base CX0 8 "_law_four_plan" ["store", "most"] (spO K 1 St.sds (fun (a : Int) => [sd a]) (fun s n => s.ok ∧ 3 < n ∧ n ≤ 20) (fun s n (r : Int × List (Int × Int)) s' => s'.ok ∧ 1 ≤ r.1 ∧ r.1 ≤ n ∧ Ac r.1 r.2 ∧ r.2.length ≤ 15000)) := by
  obtain ⟨fd, F⟩ := x.f_law_four_plan
  refine ⟨⟨fd, okT F sc_law_four_plan (fun _ => rfl) (fun cdv A0 outer s H E a B hr hp => ?_), F.bindsN fun _ _ _ _ _ _ us hl => match us, hl with | [_, _], _ => rfl⟩, x.g_law_four_plan, F.kp⟩
  obtain ⟨v_store, v_most⟩ := a
  try dsimp only at hp ⊢
  have nd := (sc_law_four_plan).nd
  exact js_asgv nd (je_new (jn_lst (ja_cons (je_str (ja_cons (je_str (ja_cons (je_str (ja_cons (je_str (ja_cons (je_str (ja_nil (⟨[_, _, _, _, _], rfl, by simp, ⟨[_, _, _, _, _], rfl, fun v_menu e_menu => ⟨_, (.s (.s .z)), js_newv (jnsf_L rfl nd (nm := [("name", 4)]) (vs' := []) (show BlkOk ["store", "most", "menu", "fits", "name", "size", "pairs", "kind", "other", "more", "names"] (defScope (top 52)) _ [("name", 4)] from ⟨rfl, by decide +kernel, by decide +kernel, by decide +kernel, by decide +kernel⟩) (by decide) (by decide) (fun it acc env => turn1_0 _ _ _ _ _ _) (fun m s H C cl fp => tw_name nd (by decide) (by decide)) (je_var (.s (.s .z)) (⟨1, fun q ds => ds = if decide ((sampleF q).1 ≤ v_most) = true then [q] else [], (by rw [e_menu]; simp), (fun j hj => by simp at hj; subst hj; rfl), fun iq0 q0 hq0 => ⟨_, (.s (.s (.s (.s .z)))), fun m D => jts_one (fun s H C cl fp => jt_le (je_fst (je_callP ((ok_law_sample x).mono (by decide)) hr pass0 (ja_cons (je_var (.s (.s (.s (.s .z)))) (ja_nil (⟨_, rfl, rfl, (by trivial), fun r2_37 p2_37 => je_var (.s .z) (⟨fun t2_37 => ⟨fun _ => fun s H C cl fp => jq_elt rfl (fun m => je_var (.s (.s (.s (.s .z)))) (⟨(by subst p2_37; rw [if_pos (decide_eq_true t2_37)]), (.keep (.keep (.keep (.keep (.drop (.keep (.keep (.keep (.keep (.keep (.keep .nil)))))))))))⟩)), fun z => (nomatch z)⟩, fun t2_37 => ⟨fun z => (nomatch z), fun _ => ⟨(by subst p2_37; rw [if_neg (by simpa using t2_37)]), (.keep (.keep (.keep (.keep (.drop (.keep (.keep (.keep (.keep (.keep (.keep .nil)))))))))))⟩⟩⟩)⟩)))))))⟩, fun dss hds => ⟨_, rfl, fun v_fits e_fits => ⟨_, (.s (.s (.s .z))), js_tgt (tg_pair rfl nd (by decide) (by decide)) (je_callP ((ok_law_sample x).mono (by decide)) hr pass0 (ja_cons (je_callO ((ok_law_pick x).mono (by decide)) hr pass0 .z (ja_cons (je_var (.s (.s (.s .z))) (ja_nil (⟨_, _, .z, rfl, rfl, (by have hf := e_fits.trans (all2_filter (f := fun q => decide ((sampleF q).1 ≤ v_most)) hds); rw [e_menu] at hf; have h1 := fit_len hp.2.1; refine ⟨hp.1, by rw [hf]; exact h1, ?_⟩; rw [hf]; exact Nat.lt_of_le_of_lt (List.length_filter_le _ _) (by simp)), fun r3_30 o3_30 p3_30 => ⟨_, .z, ja_nil (⟨_, rfl, rfl, (by trivial), fun r3_18 p3_18 => ⟨_, ⟨_, (.s (.s (.s (.s (.s .z))))), (.s (.s (.s (.s (.s (.s .z))))))⟩, js_asgv nd (je_callO ((ok_law_take x).mono (by decide)) hr pass0 .z (ja_cons (je_int (ja_nil (⟨_, _, .z, rfl, rfl, (by first | omega | (simp only [St.ok] at *; omega) | (subst_vars; first | omega | (simp only [St.ok] at *; omega))), fun r4_11 o4_11 p4_11 => ⟨_, .z, fun v_kind e_kind => ⟨_, (.s (.s (.s (.s (.s (.s (.s .z))))))), js_tgt (tg_pair rfl nd (by decide) (by decide)) (je_callO ((ok_law_line_plan x).mono (by decide)) hr pass0 .z (ja_cons (je_min x.b_min rfl (je_int (je_add (je_sub (je_var (.s .z) (je_var (.s (.s (.s (.s (.s .z))))) (je_int (ja_nil (⟨_, _, .z, rfl, rfl, (by have hf := e_fits.trans (all2_filter (f := fun q => decide ((sampleF q).1 ≤ v_most)) hds); rw [e_menu] at hf; have m3 := p3_30.2; rw [hf] at m3; have q3 := of_decide_eq_true (p := (sampleF r3_30).1 ≤ v_most) (List.mem_filter.mp m3).2; have a3 := sample_ac r3_30; rw [← p3_18] at q3 a3; refine ⟨p4_11.1, ?_, ?_⟩ <;> split <;> omega), fun r5_18 o5_18 p5_18 => ⟨_, .z, ⟨_, ⟨_, (.s (.s (.s (.s (.s (.s (.s (.s .z)))))))), (.s (.s (.s (.s (.s (.s (.s (.s (.s .z)))))))))⟩, js_ifm (S := (St × Int × (List (Int × Int)))) (fun (s : (St × Int × (List (Int × Int)))) => match s with | (z0, z1, z2) => [(0, some (own (St.sds z0))), (5, some (sd z1)), (6, some (sd z2))]) (fun (s : (St × Int × (List (Int × Int)))) => s.1.ok ∧ Ac s.2.1 s.2.2 ∧ (1 ≤ s.2.1 ∧ s.2.1 ≤ v_most) ∧ s.2.2.length ≤ 15000) (fun ⟨s6_store, s6_size, s6_pairs⟩ hJ6 => js_asgv nd (je_new (jn_range1 x.b_list x.b_range rfl (je_var (.s (.s (.s (.s (.s .z))))) (⟨(by have := hJ6.2.2.1; dsimp only at *; omega), ⟨_, rfl, fun v_names e_names => ⟨_, (.s (.s (.s (.s (.s (.s (.s (.s (.s (.s .z)))))))))), js_ifm (S := (St × (List Int))) (fun (s : (St × (List Int))) => match s with | (z0, z1) => [(0, some (own (St.sds z0))), (10, some (sd z1))]) (fun (s : (St × (List Int))) => s.1.ok ∧ s.2.Perm (rgI 0 s6_size)) (fun ⟨s13_store, s13_names⟩ hJ13 => js_ret (by decide) (je_pair (je_var (.s (.s (.s (.s (.s .z))))) (je_callO ((ok_law_mixed x).mono (by decide)) hr pass0 .z (ja_cons (je_callP ((ok_law_renumber x).mono (by decide)) hr pass0 (ja_cons (je_var (.s (.s (.s (.s (.s (.s .z)))))) (ja_cons (je_var (.s (.s (.s (.s (.s (.s (.s (.s (.s (.s .z)))))))))) (ja_nil (⟨⟨_, _⟩, rfl, rfl, (by have h := hJ13.2.length_eq; rw [rgI_len] at h; obtain ⟨r, k⟩ := hJ6.2.1; have b := hJ6.2.2; refine ⟨fun p m => ?_, ?_⟩; (have := (k p m).1; dsimp only at *; omega); (dsimp only at *; omega)), fun r15_36 p15_36 => ja_nil (⟨_, _, .z, rfl, rfl, (by rw [p15_36, List.length_map]; have b := hJ6.2.2; dsimp only at *; exact ⟨hJ13.1, by omega⟩), fun r15_18 o15_18 p15_18 => ⟨_, .z, ⟨_, (.cons .z .nil), (by have b := hJ6.2.2; refine ⟨p15_18.1, b.1.1, b.1.2, ?_, ?_⟩; exact ((ac_ren hJ13.2 hJ6.2.1)).perm (p15_36 ▸ p15_18.2); (rw [p15_18.2.length_eq, p15_36, List.length_map]; exact b.2))⟩⟩⟩)⟩)))))))))))) (jt_not (jt_bool (je_callO ((ok_law_chance x).mono (by decide)) hr pass0 .z (ja_cons (je_int (ja_nil (⟨_, _, .z, rfl, rfl, (by exact ⟨hJ6.1, by omega⟩), fun r13_11 o13_11 p13_11 => ⟨_, .z, ⟨fun t13_11 => ⟨fun z => (nomatch z), fun _ => js_end (⟨(_, _), (.keep (.keep (.keep (.keep (.keep (.keep (.keep (.keep (.keep (.keep (.keep .nil))))))))))), (by subst_vars; exact ⟨p13_11, List.Perm.refl _⟩)⟩)⟩, fun t13_11 => ⟨fun _ => js_asgv nd (je_callO ((ok_law_mixed x).mono (by decide)) hr pass0 .z (ja_cons (je_var (.s (.s (.s (.s (.s (.s (.s (.s (.s (.s .z)))))))))) (ja_nil (⟨_, _, .z, rfl, rfl, (by rw [e_names, rgI_len2]; have := hJ6.2.2.1; dsimp only at *; exact ⟨p13_11, by omega⟩), fun r14_16 o14_16 p14_16 => ⟨_, .z, fun v_names e_names => ⟨_, (.s (.s (.s (.s (.s (.s (.s (.s (.s (.s .z)))))))))), js_end (⟨(_, _), (.keep (.keep (.keep (.keep (.keep (.keep (.keep (.keep (.keep (.keep (.keep .nil))))))))))), (by subst_vars; exact ⟨p14_16.1, p14_16.2⟩)⟩)⟩⟩⟩))))), fun z => (nomatch z)⟩⟩⟩⟩)))))))⟩⟩⟩))))) (jt_eq (je_var (.s (.s (.s (.s (.s (.s (.s .z))))))) (je_int (⟨fun t6_7 => ⟨fun _ => js_asgv nd (je_callP ((ok_law_put_pairs x).mono (by decide)) hr pass0 (ja_cons (je_var (.s (.s (.s (.s (.s (.s (.s (.s (.s .z))))))))) (ja_cons (je_callO ((ok_law_take x).mono (by decide)) hr pass0 .z (ja_cons (je_var (.s (.s (.s (.s (.s (.s (.s (.s .z)))))))) (ja_nil (⟨_, _, .z, rfl, rfl, (by have hf := e_fits.trans (all2_filter (f := fun q => decide ((sampleF q).1 ≤ v_most)) hds); rw [e_menu] at hf; have m3 := p3_30.2; rw [hf] at m3; have q3 := of_decide_eq_true (p := (sampleF r3_30).1 ≤ v_most) (List.mem_filter.mp m3).2; have a3 := sample_ac r3_30; rw [← p3_18] at q3 a3; have b5 : r5_18.1 ≤ v_most - r3_18.1 + 1 ∧ r5_18.1 ≤ 6 := (by have h := p5_18.2.2.1; split at h <;> omega); omega), fun r7_37 o7_37 p7_37 => ⟨_, .z, ja_cons (je_var (.s (.s (.s (.s (.s .z))))) (ja_cons (je_var (.s (.s (.s (.s (.s (.s .z)))))) (ja_nil (⟨⟨_, _, _, _⟩, rfl, rfl, (by have hf := e_fits.trans (all2_filter (f := fun q => decide ((sampleF q).1 ≤ v_most)) hds); rw [e_menu] at hf; have m3 := p3_30.2; rw [hf] at m3; have q3 := of_decide_eq_true (p := (sampleF r3_30).1 ≤ v_most) (List.mem_filter.mp m3).2; have a3 := sample_ac r3_30; rw [← p3_18] at q3 a3; have b5 : r5_18.1 ≤ v_most - r3_18.1 + 1 ∧ r5_18.1 ≤ 6 := (by have h := p5_18.2.2.1; split at h <;> omega); dsimp only; omega), fun r7_16 p7_16 => fun v_pairs e_pairs => ⟨_, (.s (.s (.s (.s (.s (.s .z)))))), js_asgv nd (je_sub (je_add (je_var (.s (.s (.s (.s (.s .z))))) (je_var (.s (.s (.s (.s (.s (.s (.s (.s .z)))))))) (je_int (fun v_size e_size => ⟨_, (.s (.s (.s (.s (.s .z))))), js_end (⟨(_, _, _), (.keep (.keep (.keep (.keep (.keep (.keep (.keep (.keep (.keep (.keep (.keep .nil))))))))))), (by have hf := e_fits.trans (all2_filter (f := fun q => decide ((sampleF q).1 ≤ v_most)) hds); rw [e_menu] at hf; have m3 := p3_30.2; rw [hf] at m3; have q3 := of_decide_eq_true (p := (sampleF r3_30).1 ≤ v_most) (List.mem_filter.mp m3).2; have a3 := sample_ac r3_30; rw [← p3_18] at q3 a3; have b5 : r5_18.1 ≤ v_most - r3_18.1 + 1 ∧ r5_18.1 ≤ 6 := (by have h := p5_18.2.2.1; split at h <;> omega); have g := ac_put p5_18.2.2.2.1 a3.1 p7_37.2.1 (by omega) (by omega); have l := putPairs_len (pairs := r5_18.2) (x := r7_37) (other := r3_18.1) (more := r3_18.2) (by omega) (by omega); rw [show r5_18.1 + r3_18.1 - 1 = r3_18.1 + r5_18.1 - 1 from (by omega)] at g; subst e_size e_pairs p7_16; exact ⟨p7_37.1, g, by dsimp only; omega, by dsimp only; omega⟩)⟩)⟩))))))⟩⟩)))))⟩⟩))))))))), fun z => (nomatch z)⟩, fun t6_7 => ⟨fun z => (nomatch z), fun _ => js_if1 (jt_eq (je_var (.s (.s (.s (.s (.s (.s (.s .z))))))) (je_int (⟨fun t9_9 => ⟨fun _ => js_asgv nd (je_callP ((ok_law_put_pairs x).mono (by decide)) hr pass0 (ja_cons (je_var (.s (.s (.s (.s (.s (.s .z)))))) (ja_cons (je_callO ((ok_law_take x).mono (by decide)) hr pass0 .z (ja_cons (je_var (.s (.s (.s (.s (.s .z))))) (ja_nil (⟨_, _, .z, rfl, rfl, (by have hf := e_fits.trans (all2_filter (f := fun q => decide ((sampleF q).1 ≤ v_most)) hds); rw [e_menu] at hf; have m3 := p3_30.2; rw [hf] at m3; have q3 := of_decide_eq_true (p := (sampleF r3_30).1 ≤ v_most) (List.mem_filter.mp m3).2; have a3 := sample_ac r3_30; rw [← p3_18] at q3 a3; have b5 : r5_18.1 ≤ v_most - r3_18.1 + 1 ∧ r5_18.1 ≤ 6 := (by have h := p5_18.2.2.1; split at h <;> omega); omega), fun r10_38 o10_38 p10_38 => ⟨_, .z, ja_cons (je_var (.s (.s (.s (.s (.s (.s (.s (.s .z)))))))) (ja_cons (je_var (.s (.s (.s (.s (.s (.s (.s (.s (.s .z))))))))) (ja_nil (⟨⟨_, _, _, _⟩, rfl, rfl, (by have hf := e_fits.trans (all2_filter (f := fun q => decide ((sampleF q).1 ≤ v_most)) hds); rw [e_menu] at hf; have m3 := p3_30.2; rw [hf] at m3; have q3 := of_decide_eq_true (p := (sampleF r3_30).1 ≤ v_most) (List.mem_filter.mp m3).2; have a3 := sample_ac r3_30; rw [← p3_18] at q3 a3; have b5 : r5_18.1 ≤ v_most - r3_18.1 + 1 ∧ r5_18.1 ≤ 6 := (by have h := p5_18.2.2.1; split at h <;> omega); dsimp only; omega), fun r10_16 p10_16 => fun v_pairs e_pairs => ⟨_, (.s (.s (.s (.s (.s (.s .z)))))), js_asgv nd (je_sub (je_add (je_var (.s (.s (.s (.s (.s .z))))) (je_var (.s (.s (.s (.s (.s (.s (.s (.s .z)))))))) (je_int (fun v_size e_size => ⟨_, (.s (.s (.s (.s (.s .z))))), js_end (⟨(_, _, _), (.keep (.keep (.keep (.keep (.keep (.keep (.keep (.keep (.keep (.keep (.keep .nil))))))))))), (by have hf := e_fits.trans (all2_filter (f := fun q => decide ((sampleF q).1 ≤ v_most)) hds); rw [e_menu] at hf; have m3 := p3_30.2; rw [hf] at m3; have q3 := of_decide_eq_true (p := (sampleF r3_30).1 ≤ v_most) (List.mem_filter.mp m3).2; have a3 := sample_ac r3_30; rw [← p3_18] at q3 a3; have b5 : r5_18.1 ≤ v_most - r3_18.1 + 1 ∧ r5_18.1 ≤ 6 := (by have h := p5_18.2.2.1; split at h <;> omega); first | (have g := ac_put a3.1 p5_18.2.2.2.1 p10_38.2.1 (by omega) (by omega); have l := putPairs_len (pairs := r3_18.2) (x := r10_38) (other := r5_18.1) (more := r5_18.2) (by omega) (by omega); subst e_size e_pairs p10_16; exact ⟨p10_38.1, g, by dsimp only; omega, by dsimp only; omega⟩) | exact ⟨p5_18.1, a3.1, by dsimp only; omega, by dsimp only; omega⟩)⟩)⟩))))))⟩⟩)))))⟩⟩))))))))), fun z => (nomatch z)⟩, fun t9_9 => ⟨fun z => (nomatch z), fun _ => js_end (⟨(_, _, _), (.keep (.keep (.keep (.keep (.keep (.keep (.keep (.keep (.keep (.keep (.keep .nil))))))))))), (by have hf := e_fits.trans (all2_filter (f := fun q => decide ((sampleF q).1 ≤ v_most)) hds); rw [e_menu] at hf; have m3 := p3_30.2; rw [hf] at m3; have q3 := of_decide_eq_true (p := (sampleF r3_30).1 ≤ v_most) (List.mem_filter.mp m3).2; have a3 := sample_ac r3_30; rw [← p3_18] at q3 a3; have b5 : r5_18.1 ≤ v_most - r3_18.1 + 1 ∧ r5_18.1 ≤ 6 := (by have h := p5_18.2.2.1; split at h <;> omega); first | (have g := ac_put a3.1 p5_18.2.2.2.1 p10_38.2.1 (by omega) (by omega); have l := putPairs_len (pairs := r3_18.2) (x := r10_38) (other := r5_18.1) (more := r5_18.2) (by omega) (by omega); subst e_size e_pairs p10_16; exact ⟨p10_38.1, g, by dsimp only; omega, by dsimp only; omega⟩) | exact ⟨p5_18.1, a3.1, by dsimp only; omega, by dsimp only; omega⟩)⟩)⟩⟩))))⟩⟩))))⟩⟩⟩)))))))))))⟩⟩⟩)))))⟩⟩)⟩⟩)))))))⟩⟩⟩)) rfl)⟩⟩⟩))))))))))))))
theorem sc_law_plan : FnScope ["store", "most", "kind", "size", "x"] ["store", "most"] (defScope (top 53)) := ⟨rfl, rfl, rfl, by decide +kernel, rfl, by decide +kernel, by decide +kernel⟩
theorem ok_law_plan  (x : Fx K mg) : OkF P w K mg base CX0 9 "_law_plan" ["store", "most"] (spO K 1 St.sds (fun (a : Int) => [sd a]) (fun s n => s.ok ∧ 1 ≤ n ∧ n ≤ 20) (fun s n (r : Int × List (Int × Int)) s' => s'.ok ∧ 1 ≤ r.1 ∧ r.1 ≤ n ∧ Ac r.1 r.2 ∧ r.2.length ≤ 15000)) := by
  obtain ⟨fd, F⟩ := x.f_law_plan
  refine ⟨⟨fd, okT F sc_law_plan (fun _ => rfl) (fun cdv A0 outer s H E a B hr hp => ?_), F.bindsN fun _ _ _ _ _ _ us hl => match us, hl with | [_, _], _ => rfl⟩, x.g_law_plan, F.kp⟩
  obtain ⟨v_store, v_most⟩ := a
  try dsimp only at hp ⊢
  have nd := (sc_law_plan).nd
  exact js_asgv nd (je_callO ((ok_law_take x).mono (by decide)) hr pass0 .z (ja_cons (je_int (ja_nil (⟨_, _, .z, rfl, rfl, (by first | omega | (simp only [St.ok] at *; omega) | (subst_vars; first | omega | (simp only [St.ok] at *; omega))), fun r1_11 o1_11 p1_11 => ⟨_, .z, fun v_kind e_kind => ⟨_, (.s (.s .z)), js_ifR (jt_eq (je_var (.s (.s .z)) (je_int (⟨fun t2_7 => ⟨fun _ => js_asgv nd (je_callO ((ok_law_size x).mono (by decide)) hr pass0 .z (ja_cons (je_var (.s .z) (ja_nil (⟨_, _, .z, rfl, rfl, (by first | omega | (simp only [St.ok] at *; omega) | (subst_vars; first | omega | (simp only [St.ok] at *; omega))), fun r3_15 o3_15 p3_15 => ⟨_, .z, fun v_size e_size => ⟨_, (.s (.s (.s .z))), js_ifR (jt_bool (je_callO ((ok_law_chance x).mono (by decide)) hr pass0 .z (ja_cons (je_int (ja_nil (⟨_, _, .z, rfl, rfl, (by first | omega | (simp only [St.ok] at *; omega) | (subst_vars; first | omega | (simp only [St.ok] at *; omega))), fun r4_11 o4_11 p4_11 => ⟨_, .z, ⟨fun t4_11 => ⟨fun _ => js_ret (by decide) (je_pair (je_var (.s (.s (.s .z))) (je_new (jn_lst (ja_nil (⟨[], rfl, by simp, ⟨[], rfl, ⟨_, (.cons .z .nil), (by subst e_size; exact ⟨p4_11, p3_15.2.1, p3_15.2.2, ac_nil, by simp⟩)⟩⟩⟩)))))), fun z => (nomatch z)⟩, fun t4_11 => ⟨fun z => (nomatch z), fun _ => js_ret (by decide) (je_pair (je_var (.s (.s (.s .z))) (je_new (jnf_R1 x.b_range rfl nd (nm := [("x", 4)]) (vs' := []) (show BlkOk ["store", "most", "kind", "size", "x"] (defScope (top 53)) _ [("x", 4)] from ⟨rfl, by decide +kernel, by decide +kernel, by decide +kernel, by decide +kernel⟩) (by decide) (by decide) (fun it acc env => turn1_0 _ _ _ _ _ _) (fun m s H C cl fp => tw_name nd (by decide) (by decide)) (je_sub (je_var (.s (.s (.s .z))) (je_int (⟨1, fun x ds => ds = [(x, x + 1)], (by first | omega | (simp only [St.ok] at *; omega) | (subst_vars; first | omega | (simp only [St.ok] at *; omega))), (by first | omega | (simp only [St.ok] at *; omega) | (subst_vars; first | omega | (simp only [St.ok] at *; omega))), (fun j hj => by simp at hj; subst hj; rfl), fun q0 hq00 hq01 => ⟨_, (.s (.s (.s (.s .z)))), fun m D => jts_nil (⟨fun _ => fun s H C cl fp => jq_elt rfl (fun m => je_pair (je_var (.s (.s (.s (.s .z)))) (je_add (je_var (.s (.s (.s (.s .z)))) (je_int (⟨(by rfl), (.keep (.keep (.keep (.keep (.drop .nil)))))⟩)))))), fun z => (nomatch z)⟩)⟩, fun dss hds => ⟨_, rfl, ⟨_, (.cons .z .nil), (by subst e_size; refine ⟨p4_11, p3_15.2.1, p3_15.2.2, ?_, ?_⟩; (rw [all2_map hds]; exact ac_chain); (rw [all2_map hds, List.length_map, rgI_len2]; omega))⟩⟩⟩))))))))⟩⟩⟩⟩))))))⟩⟩⟩))))), fun z => (nomatch z)⟩, fun t2_7 => ⟨fun z => (nomatch z), fun _ => js_ifR (jt_lt (je_var (.s (.s .z)) (je_int (⟨fun t7_7 => ⟨fun _ => js_ret (by decide) (je_callO ((ok_law_line_plan x).mono (by decide)) hr pass0 .z (ja_cons (je_var (.s .z) (ja_nil (⟨_, _, .z, rfl, rfl, (by first | omega | (simp only [St.ok] at *; omega) | (subst_vars; first | omega | (simp only [St.ok] at *; omega))), fun r8_15 o8_15 p8_15 => ⟨_, .z, ⟨_, (.cons .z .nil), (by exact ⟨p8_15.1, p8_15.2.1, p8_15.2.2.1, p8_15.2.2.2.1, by have := p8_15.2.2.2.2.1; omega⟩)⟩⟩⟩))))), fun z => (nomatch z)⟩, fun t7_7 => ⟨fun z => (nomatch z), fun _ => js_ifR (jt_w (jw_and (jt_eq (je_var (.s (.s .z)) (je_int (⟨fun t9_7 => ⟨fun z => (nomatch z), fun _ => jw_and1 (jt_gt (je_var (.s .z) (je_int (⟨fun t9_21 => ⟨fun _ => js_ret (by decide) (je_callO ((ok_law_four_plan x).mono (by decide)) hr pass0 .z (ja_cons (je_var (.s .z) (ja_nil (⟨_, _, .z, rfl, rfl, (by first | omega | (simp only [St.ok] at *; omega) | (subst_vars; first | omega | (simp only [St.ok] at *; omega))), fun r10_15 o10_15 p10_15 => ⟨_, .z, ⟨_, (.cons .z .nil), (by exact p10_15)⟩⟩⟩))))), fun z => (nomatch z)⟩, fun t9_21 => ⟨fun z => (nomatch z), fun _ => js_asgv nd (je_callO ((ok_law_size x).mono (by decide)) hr pass0 .z (ja_cons (je_var (.s .z) (ja_nil (⟨_, _, .z, rfl, rfl, (by first | omega | (simp only [St.ok] at *; omega) | (subst_vars; first | omega | (simp only [St.ok] at *; omega))), fun r11_11 o11_11 p11_11 => ⟨_, .z, fun v_size e_size => ⟨_, (.s (.s (.s .z))), js_ret (by decide) (je_pair (je_var (.s (.s (.s .z))) (je_callO ((ok_law_wild_pairs x).mono (by decide)) hr pass0 .z (ja_cons (je_var (.s (.s (.s .z))) (ja_nil (⟨_, _, .z, rfl, rfl, (by first | omega | (simp only [St.ok] at *; omega) | (subst_vars; first | omega | (simp only [St.ok] at *; omega))), fun r12_18 o12_18 p12_18 => ⟨_, .z, ⟨_, (.cons .z .nil), (by subst e_size; exact ⟨p12_18.1, p11_11.2.1, p11_11.2.2, p12_18.2.1, by have := p12_18.2.2; dsimp only; omega⟩)⟩⟩⟩)))))))⟩⟩⟩)))))⟩⟩))))⟩, fun t9_7 => ⟨fun _ => ⟨fun z => (nomatch z), fun _ => js_asgv nd (je_callO ((ok_law_size x).mono (by decide)) hr pass0 .z (ja_cons (je_var (.s .z) (ja_nil (⟨_, _, .z, rfl, rfl, (by first | omega | (simp only [St.ok] at *; omega) | (subst_vars; first | omega | (simp only [St.ok] at *; omega))), fun r11_11 o11_11 p11_11 => ⟨_, .z, fun v_size e_size => ⟨_, (.s (.s (.s .z))), js_ret (by decide) (je_pair (je_var (.s (.s (.s .z))) (je_callO ((ok_law_wild_pairs x).mono (by decide)) hr pass0 .z (ja_cons (je_var (.s (.s (.s .z))) (ja_nil (⟨_, _, .z, rfl, rfl, (by first | omega | (simp only [St.ok] at *; omega) | (subst_vars; first | omega | (simp only [St.ok] at *; omega))), fun r12_18 o12_18 p12_18 => ⟨_, .z, ⟨_, (.cons .z .nil), (by subst e_size; exact ⟨p12_18.1, p11_11.2.1, p11_11.2.2, p12_18.2.1, by have := p12_18.2.2; dsimp only; omega⟩)⟩⟩⟩)))))))⟩⟩⟩)))))⟩, fun z => (nomatch z)⟩⟩))))))⟩⟩))))⟩⟩))))⟩⟩⟩)))))
end
end Lw
end
section
namespace Lw
open PySem PySem.Spec PyProof.Rows L2 Tyl
/-! ### masks -/
theorem bit_nat (m : Nat) (x : Nat) : bit (m : Int) (x : Int) = m.testBit x := by
  unfold bit
  have e : ((m : Int) / 2 ^ ((x : Int).toNat)) = ((m / 2 ^ x : Nat) : Int) := by
    rw [Int.toNat_natCast]
    norm_cast
  rw [e]
  have e2 : Builtin.bitAnd ((m / 2 ^ x : Nat) : Int) 1 = (((m / 2 ^ x) &&& 1 : Nat) : Int) := by
    unfold Builtin.bitAnd
    have h1 : decide (0 ≤ ((m / 2 ^ x : Nat) : Int)) = true := decide_eq_true (Int.natCast_nonneg _)
    rw [h1]
    rfl
  rw [e2, Nat.and_one_is_mod, Nat.testBit_eq_decide_div_mod_eq]
  by_cases h : m / 2 ^ x % 2 = 1
  · rw [h]; rfl
  · rw [decide_eq_false h]
    have : m / 2 ^ x % 2 = 0 := by omega
    rw [this]; rfl
/-- the masks of a relation -/
def MR (n : Nat) (ms : List Int) (R : Nat → Nat → Prop) : Prop := ms.length = n ∧ ∀ x, x < n → ∃ m : Nat, ms[x]? = some (m : Int) ∧ ∀ y, m.testBit y = true ↔ R x y
theorem MR.imp {n : Nat} {ms : List Int} {R S : Nat → Nat → Prop} (h : MR n ms R) (k : ∀ x y, x < n → (R x y ↔ S x y)) : MR n ms S := ⟨h.1, fun x hx => let ⟨m, a, b⟩ := h.2 x hx; ⟨m, a, fun y => (b y).trans (k x y hx)⟩⟩
theorem MR.bit {n : Nat} {ms : List Int} {R : Nat → Nat → Prop} (h : MR n ms R) {x : Nat} (hx : x < n) {d : Int} (hd : ms[x]? = some d) (y : Nat) : bit d (y : Int) = true ↔ R x y := by
  obtain ⟨m, a, b⟩ := h.2 x hx
  rw [a] at hd
  cases hd
  rw [bit_nat]
  exact b y
theorem MR.set {n : Nat} {ms : List Int} {R : Nat → Nat → Prop} (h : MR n ms R) {a : Nat} {d e : Int} (hd : ms[a]? = some d) (k : Nat) (he : e = (k : Int)) : MR n (ms.set a (Builtin.bitOr d e)) (fun x y => R x y ∨ (x = a ∧ k.testBit y = true)) := by
  refine ⟨by rw [List.length_set]; exact h.1, fun x hx => ?_⟩
  obtain ⟨m, q, b⟩ := h.2 x hx
  by_cases ex : x = a
  · subst ex
    rw [q] at hd
    cases hd
    refine ⟨m ||| k, ?_, fun y => ?_⟩
    · rw [List.getElem?_set_self (by rw [h.1]; exact hx), he, Bits.bitOr_pp (by omega) (by omega)]
      simp
    · rw [Nat.testBit_or, Bool.or_eq_true, b y]
      simp
  · refine ⟨m, ?_, fun y => ?_⟩
    · rw [List.getElem?_set_ne (fun z => ex z.symm)]
      exact q
    · rw [b y]
      simp [ex]
theorem MR.zero (n : Nat) : MR n (List.replicate n [(0 : Int)]).flatten fun _ _ => False := by
  have e : (List.replicate n [(0 : Int)]).flatten = List.replicate n (0 : Int) := by
    induction n with
    | zero => rfl
    | succ n ih => rw [List.replicate_succ, List.flatten_cons, ih]; rfl
  rw [e]
  exact ⟨by simp, fun x hx => ⟨0, by simp [hx], by simp⟩⟩
/-- the pairs as a relation -/
def Ed (ps : List (Int × Int)) (x y : Nat) : Prop := ((x : Int), (y : Int)) ∈ ps
def War (R : Nat → Nat → Prop) : Nat → Nat → Nat → Prop
  | 0, x, y => R x y
  | k + 1, x, y => War R k x y ∨ (War R k x k ∧ War R k k y)
inductive TC (R : Nat → Nat → Prop) : Nat → Nat → Prop
  | one {x y : Nat} : R x y → TC R x y
  | step {x y z : Nat} : TC R x y → R y z → TC R x z
theorem TC.trans {R : Nat → Nat → Prop} {x y z : Nat} (h : TC R x y) (k : TC R y z) : TC R x z := by
  induction k with
  | one r => exact .step h r
  | step _ r ih => exact .step ih r
theorem war_tc {R : Nat → Nat → Prop} : ∀ {k x y : Nat}, War R k x y → TC R x y
  | 0, _, _, h => .one h
  | k + 1, _, _, h => h.elim war_tc fun h => (war_tc h.1).trans (war_tc h.2)
theorem war_mono {R : Nat → Nat → Prop} {k m x y : Nat} (h : k ≤ m) (w : War R k x y) : War R m x y := by
  induction m with
  | zero => have : k = 0 := by omega
            subst this; exact w
  | succ m ih =>
    by_cases e : k = m + 1
    · subst e; exact w
    · exact .inl (ih (by omega))
theorem war_step {R : Nat → Nat → Prop} {m x y z : Nat} : ∀ {k : Nat}, y < k → k ≤ m → War R k x y → R y z → War R k x z
  | 0, h, _, _, _ => absurd h (Nat.not_lt_zero _)
  | k + 1, hy, hk, w, r => by
    by_cases e : y = k
    · subst e
      have wy : War R y x y := w.elim id fun h => h.1
      exact .inr ⟨wy, war_mono (Nat.zero_le _) r⟩
    · rcases w with w | ⟨w1, w2⟩
      · exact .inl (war_step (by omega) (Nat.le_of_succ_le hk) w r)
      · exact .inr ⟨w1, war_step (by omega) (Nat.le_of_succ_le hk) w2 r⟩
theorem tc_war {R : Nat → Nat → Prop} {n x y : Nat} (hR : ∀ a b, R a b → a < n ∧ b < n) (h : TC R x y) : War R n x y ∧ x < n ∧ y < n := by
  induction h with
  | one r => exact ⟨war_mono (Nat.zero_le _) r, hR _ _ r⟩
  | step _ r ih => exact ⟨war_step ih.2.2 (Nat.le_refl n) ih.1 r, ih.2.1, (hR _ _ r).2⟩
theorem war_row {R : Nat → Nat → Prop} {k y : Nat} : War R (k + 1) k y ↔ War R k k y := ⟨fun h => h.elim id fun h => h.2, .inl⟩
def InR (n : Int) (ps : List (Int × Int)) : Prop := ∀ p ∈ ps, 0 ≤ p.1 ∧ p.1 < n ∧ 0 ≤ p.2 ∧ p.2 < n
theorem InR.e {n : Int} {ps : List (Int × Int)} (h : InR n ps) : ∀ a b, Ed ps a b → a < n.toNat ∧ b < n.toNat := fun a b q => by
  have := h _ q
  dsimp only at this
  omega
theorem war_iff {n : Int} {ps : List (Int × Int)} (h : InR n ps) {x y : Nat} : War (Ed ps) n.toNat x y ↔ TC (Ed ps) x y := ⟨war_tc, fun k => (tc_war h.e k).1⟩
theorem ac_loop {n : Int} {ps : List (Int × Int)} (h : Ac n ps) (x : Nat) : ¬ TC (Ed ps) x x := by
  obtain ⟨r, k⟩ := h
  have : ∀ a b, TC (Ed ps) a b → r (a : Int) < r (b : Int) := by
    intro a b t
    induction t with
    | one q => exact (k _ q).2
    | step _ q ih => exact Nat.lt_trans ih (k _ q).2
  exact fun t => absurd (this x x t) (Nat.lt_irrefl _)
theorem Ac.inR {n : Int} {ps : List (Int × Int)} (h : Ac n ps) : InR n ps := fun p hp => let ⟨_, k⟩ := h; (k p hp).1
section
variable {P : Program} {w : World} {K : Fg} {mg : Str → Option Value} {base : Heap}
theorem sc_need_size : FnScope ["size"] ["size"] (defScope (top 8)) := ⟨rfl, rfl, rfl, by decide +kernel, rfl, by decide +kernel, by decide +kernel⟩
theorem ok_need_size  (x : Fx K mg) : OkF P w K mg base CX0 1 "need_size" ["size"] (spP K 1 (fun (a : Int) => [sd a]) (fun a => 1 ≤ a ∧ a ≤ 20) (fun _ (_ : Unit) => True)) := by
  obtain ⟨fd, F⟩ := x.f_need_size
  obtain ⟨_, i_MOST_WORKS_plan⟩ := x.i_MOST_WORKS_plan
  refine ⟨⟨fd, okT F sc_need_size (fun _ => rfl) (fun cdv A0 outer s H E v_size B hr hp => ?_), F.bindsN fun _ _ _ _ _ _ us hl => match us, hl with | [_], _ => rfl⟩, x.g_need_size, F.kp⟩
  try dsimp only at hp ⊢
  have nd := (sc_need_size).nd
  exact js_ifR (jt_not (jt_ch (fun i j => i ≤ j) (fun i j => i ≤ j) op_le op_le (je_int (je_var .z (⟨fun ta1_11 => ⟨fun _ => (by exfalso; first | omega | (simp only [St.ok] at *; omega) | (subst_vars; first | omega | (simp only [St.ok] at *; omega))), fun z => (nomatch z)⟩, fun ta1_11 => je_gint i_MOST_WORKS_plan (⟨fun t1_11 => ⟨fun z => (nomatch z), fun _ => js_fall (d := ()) (by decide) (fun _ _ => rfl) (⟨(), .nil, (by trivial)⟩)⟩, fun t1_11 => ⟨fun _ => (by exfalso; first | omega | (simp only [St.ok] at *; omega) | (subst_vars; first | omega | (simp only [St.ok] at *; omega))), fun z => (nomatch z)⟩⟩)⟩)))))
theorem sc_need_work : FnScope ["size", "x"] ["size", "x"] (defScope (top 9)) := ⟨rfl, rfl, rfl, by decide +kernel, rfl, by decide +kernel, by decide +kernel⟩
theorem ok_need_work  (x : Fx K mg) : OkF P w K mg base CX0 1 "need_work" ["size", "x"] (spP K 2 (fun (a : Int × Int) => match a with | (z0, z1) => [sd z0, sd z1]) (fun a => 0 ≤ a.2 ∧ a.2 < a.1) (fun _ (_ : Unit) => True)) := by
  obtain ⟨fd, F⟩ := x.f_need_work
  refine ⟨⟨fd, okT F sc_need_work (fun _ => rfl) (fun cdv A0 outer s H E a B hr hp => ?_), F.bindsN fun _ _ _ _ _ _ us hl => match us, hl with | [_, _], _ => rfl⟩, x.g_need_work, F.kp⟩
  obtain ⟨v_size, v_x⟩ := a
  try dsimp only at hp ⊢
  have nd := (sc_need_work).nd
  exact js_ifR (jt_not (jt_ch (fun i j => i ≤ j) (fun i j => i < j) op_le op_lt (je_int (je_var (.s .z) (⟨fun ta1_11 => ⟨fun _ => (by exfalso; first | omega | (simp only [St.ok] at *; omega) | (subst_vars; first | omega | (simp only [St.ok] at *; omega))), fun z => (nomatch z)⟩, fun ta1_11 => je_var .z (⟨fun t1_11 => ⟨fun z => (nomatch z), fun _ => js_fall (d := ()) (by decide) (fun _ _ => rfl) (⟨(), .nil, (by trivial)⟩)⟩, fun t1_11 => ⟨fun _ => (by exfalso; first | omega | (simp only [St.ok] at *; omega) | (subst_vars; first | omega | (simp only [St.ok] at *; omega))), fun z => (nomatch z)⟩⟩)⟩)))))
theorem sc_need_pairs : FnScope ["size", "pairs", "a", "b"] ["size", "pairs"] (defScope (top 10)) := ⟨rfl, rfl, rfl, by decide +kernel, rfl, by decide +kernel, by decide +kernel⟩
theorem ok_need_pairs  (x : Fx K mg) : OkF P w K mg base CX0 2 "need_pairs" ["size", "pairs"] (spP K 2 (fun (a : Int × (List (Int × Int))) => match a with | (z0, z1) => [sd z0, sd z1]) (fun a => InR a.1 a.2) (fun _ (_ : Unit) => True)) := by
  obtain ⟨fd, F⟩ := x.f_need_pairs
  refine ⟨⟨fd, okT F sc_need_pairs (fun _ => rfl) (fun cdv A0 outer s H E a B hr hp => ?_), F.bindsN fun _ _ _ _ _ _ us hl => match us, hl with | [_, _], _ => rfl⟩, x.g_need_pairs, F.kp⟩
  obtain ⟨v_size, v_pairs⟩ := a
  try dsimp only at hp ⊢
  have nd := (sc_need_pairs).nd
  have hps : PassesOwn (model (cxOf CX0 P w K mg base ["size", "pairs", "a", "b"] "need_pairs" (defScope (top 10)) (He.ga K "need_pairs") cdv A0 outer s H E).prog (cxOf CX0 P w K mg base ["size", "pairs", "a", "b"] "need_pairs" (defScope (top 10)) (He.ga K "need_pairs") cdv A0 outer s H E).w) (cxOf CX0 P w K mg base ["size", "pairs", "a", "b"] "need_pairs" (defScope (top 10)) (He.ga K "need_pairs") cdv A0 outer s H E).A (cxOf CX0 P w K mg base ["size", "pairs", "a", "b"] "need_pairs" (defScope (top 10)) (He.ga K "need_pairs") cdv A0 outer s H E).env (cxOf CX0 P w K mg base ["size", "pairs", "a", "b"] "need_pairs" (defScope (top 10)) (He.ga K "need_pairs") cdv A0 outer s H E).xe := PassesOwn.leaving
  exact js_for (fun m => tg_pair rfl nd (by decide) (by decide)) hps rfl (je_var (.s .z) (⟨Unit, (fun (_ : Unit) => []), fun (i : Nat) (s : Unit) => True, ⟨(), (.keep (.keep (.keep (.keep .nil)))), (by trivial)⟩, fun m i1 s1 x1 hi1 hI1 => ⟨_, ⟨_, (.s (.s .z)), (.s (.s (.s .z)))⟩, js_expr (jg_of (je_callP ((ok_need_work x).mono (by decide)) hr pass0 (ja_cons (je_var .z (ja_cons (je_var (.s (.s .z)) (ja_nil (⟨⟨_, _⟩, rfl, rfl, (by have := hp _ (List.mem_of_getElem? hi1); omega), fun r2_8 p2_8 => js_expr (jg_of (je_callP ((ok_need_work x).mono (by decide)) hr pass0 (ja_cons (je_var .z (ja_cons (je_var (.s (.s (.s .z))) (ja_nil (⟨⟨_, _⟩, rfl, rfl, (by have := hp _ (List.mem_of_getElem? hi1); omega), fun r3_8 p3_8 => js_end (⟨(), (.keep (.keep (.drop (.drop .nil)))), (by trivial)⟩)⟩))))))))⟩))))))))⟩, fun ts1 thI1 => js_fall (d := ()) (by decide) (fun _ _ => rfl) (⟨(), .nil, (by trivial)⟩)⟩))
end
end Lw
end
section
namespace Lw
open PySem PySem.Spec PyProof.Rows L2 Tyl
theorem mr_pair {n : Nat} {ms : List Int} {L : List (Int × Int)} {p : Int × Int} {d : Int} (h : MR n ms (Ed L)) (h0 : 0 ≤ p.1) (h1 : 0 ≤ p.2) (hd : ms[p.1.toNat]? = some d) : MR n (ms.set p.1.toNat (Builtin.bitOr d (1 * 2 ^ p.2.toNat))) (Ed (L ++ [p])) := by
  have g := h.set hd (2 ^ p.2.toNat) (e := 1 * 2 ^ p.2.toNat) (by rw [Int.one_mul]; norm_cast)
  refine g.imp fun x y _ => ?_
  unfold Ed
  rw [List.mem_append, List.mem_singleton, Nat.testBit_two_pow]
  refine or_congr Iff.rfl ?_
  constructor
  · rintro ⟨rfl, e⟩
    have e := of_decide_eq_true e
    rw [← e]
    apply Prod.ext <;> dsimp only <;> omega
  · intro e
    have e1 : (x : Int) = p.1 := congrArg Prod.fst e
    have e2 : (y : Int) = p.2 := congrArg Prod.snd e
    exact ⟨by omega, decide_eq_true (by omega)⟩
def WI (R : Nat → Nat → Prop) (k i x y : Nat) : Prop := if x < i then War R (k + 1) x y else War R k x y
theorem mr_war_t {n : Nat} {ms : List Int} {R : Nat → Nat → Prop} {k i : Nat} {d e : Int} (h : MR n ms (WI R k i)) (hk : k < n) (hi : i < n) (hd : ms[i]? = some d) (he : ms[k]? = some e) (hb : bit d (k : Int) = true) : MR n (ms.set i (Builtin.bitOr d e)) (WI R k (i + 1)) := by
  obtain ⟨m, q, b⟩ := h.2 k hk
  rw [q] at he
  cases he
  refine (h.set hd m rfl).imp fun x y hx => ?_
  have hb2 : War R k i k := by
    have := (h.bit hi hd k).mp hb
    unfold WI at this
    rwa [if_neg (Nat.lt_irrefl _)] at this
  have hr : m.testBit y = true ↔ War R k k y := by
    rw [b y]
    unfold WI
    split
    · exact war_row
    · exact Iff.rfl
  rw [hr]
  unfold WI
  by_cases e1 : x = i
  · subst e1
    rw [if_neg (Nat.lt_irrefl _), if_pos (Nat.lt_succ_self _)]
    constructor
    · rintro (w | ⟨_, w⟩)
      · exact .inl w
      · exact .inr ⟨hb2, w⟩
    · rintro (w | ⟨_, w⟩)
      · exact .inl w
      · exact .inr ⟨rfl, w⟩
  · by_cases e2 : x < i
    · rw [if_pos e2, if_pos (by omega)]
      simp [e1]
    · rw [if_neg e2, if_neg (by omega)]
      simp [e1]
theorem mr_war_f {n : Nat} {ms : List Int} {R : Nat → Nat → Prop} {k i : Nat} {d : Int} (h : MR n ms (WI R k i)) (hi : i < n) (hd : ms[i]? = some d) (hb : bit d (k : Int) = false) : MR n ms (WI R k (i + 1)) := by
  refine h.imp fun x y hx => ?_
  have hb2 : ¬ War R k i k := by
    intro w
    have := (h.bit hi hd k).mpr (by unfold WI; rwa [if_neg (Nat.lt_irrefl _)])
    rw [hb] at this
    cases this
  unfold WI
  by_cases e1 : x = i
  · subst e1
    rw [if_neg (Nat.lt_irrefl _), if_pos (Nat.lt_succ_self _)]
    constructor
    · exact .inl
    · rintro (w | ⟨w, _⟩)
      · exact w
      · exact absurd w hb2
  · by_cases e2 : x < i
    · rw [if_pos e2, if_pos (by omega)]
    · rw [if_neg e2, if_neg (by omega)]
def rowsOut (ms : List Int) : List (List Int) := (rgI 0 ms.length).map fun x => (rgI 0 ms.length).filter fun y => bit (at0 ms x) y
def rowsIn (ms : List Int) : List (List Int) := (rgI 0 ms.length).map fun x => (rgI 0 ms.length).filter fun a => bit (at0 ms a) x
def pairsOf (rows : List (List Int)) : List (Int × Int) := (rgI 0 rows.length).flatMap fun a => ((rows[a.toNat]?).getD []).map fun b => (a, b)
theorem at0_of {L : List Int} {i d : Int} (h : L[i.toNat]? = some d) : at0 L i = d := by unfold at0; rw [h]; rfl
theorem rg_at {n : Int} {i : Nat} {x : Int} (h : (rgI 0 n)[i]? = some x) : 0 ≤ x ∧ x < n := rgI_mem.mp (List.mem_of_getElem? h)
section
variable {P : Program} {w : World} {K : Fg} {mg : Str → Option Value} {base : Heap}
theorem sc_closed_masks : FnScope ["size", "pairs", "masks", "a", "b", "middle", "x"] ["size", "pairs"] (defScope (top 12)) := ⟨rfl, rfl, rfl, by decide +kernel, rfl, by decide +kernel, by decide +kernel⟩
theorem ok_closed_masks  (x : Fx K mg) : OkF P w K mg base CX0 2 "closed_masks" ["size", "pairs"] (spP K 2 (fun (a : Int × (List (Int × Int))) => match a with | (z0, z1) => [sd z0, sd z1]) (fun a => 1 ≤ a.1 ∧ a.1 ≤ 20 ∧ InR a.1 a.2) (fun a (r : List Int) => MR a.1.toNat r (TC (Ed a.2)))) := by
  obtain ⟨fd, F⟩ := x.f_closed_masks
  refine ⟨⟨fd, okT F sc_closed_masks (fun _ => rfl) (fun cdv A0 outer s H E a B hr hp => ?_), F.bindsN fun _ _ _ _ _ _ us hl => match us, hl with | [_, _], _ => rfl⟩, x.g_closed_masks, F.kp⟩
  obtain ⟨v_size, v_pairs⟩ := a
  try dsimp only at hp ⊢
  have nd := (sc_closed_masks).nd
  have hps : PassesOwn (model (cxOf CX0 P w K mg base ["size", "pairs", "masks", "a", "b", "middle", "x"] "closed_masks" (defScope (top 12)) (He.ga K "closed_masks") cdv A0 outer s H E).prog (cxOf CX0 P w K mg base ["size", "pairs", "masks", "a", "b", "middle", "x"] "closed_masks" (defScope (top 12)) (He.ga K "closed_masks") cdv A0 outer s H E).w) (cxOf CX0 P w K mg base ["size", "pairs", "masks", "a", "b", "middle", "x"] "closed_masks" (defScope (top 12)) (He.ga K "closed_masks") cdv A0 outer s H E).A (cxOf CX0 P w K mg base ["size", "pairs", "masks", "a", "b", "middle", "x"] "closed_masks" (defScope (top 12)) (He.ga K "closed_masks") cdv A0 outer s H E).env (cxOf CX0 P w K mg base ["size", "pairs", "masks", "a", "b", "middle", "x"] "closed_masks" (defScope (top 12)) (He.ga K "closed_masks") cdv A0 outer s H E).xe := PassesOwn.leaving
  exact js_asgo nd (jn_rep (je_new (jn_lst (ja_cons (je_int (ja_nil (⟨[_], rfl, by simp, ⟨[_], rfl, je_var .z (⟨(by simp; omega), ⟨_, rfl, fun v_masks e_masks => ⟨_, (.s (.s .z)), js_for (fun m => tg_pair rfl nd (by decide) (by decide)) hps rfl (je_var (.s .z) (⟨((List Int)), (fun (z0 : ((List Int))) => [(2, some (own (sds z0)))]), fun (i : Nat) (s : ((List Int))) => MR v_size.toNat s (Ed (v_pairs.take i)), ⟨_, (.keep (.keep (.keep (.keep (.keep (.keep (.keep .nil))))))), (by rw [e_masks]; exact (MR.zero _).imp fun x y _ => by simp [Ed])⟩, fun m i2 s2_masks x2 hi2 hI2 => ⟨_, ⟨_, (.s (.s (.s .z))), (.s (.s (.s (.s .z))))⟩, js_seto (.s (.s .z)) (je_bor (je_ixo (.s (.s .z)) (je_var (.s (.s (.s .z))) (⟨_, (.s (.s .z)), (by have := hp.2.2 _ (List.mem_of_getElem? hi2); have h := hI2.1; omega), fun d3_19 hd3_19 => je_shl (je_int (je_var (.s (.s (.s (.s .z)))) (⟨(by have := hp.2.2 _ (List.mem_of_getElem? hi2); unfold CPow; omega), ⟨_, (.s (.s .z)), je_var (.s (.s (.s .z))) (⟨_, _, (.s (.s .z)), (by have := hp.2.2 _ (List.mem_of_getElem? hi2); have h := hI2.1; omega), (.s (.s .z)), js_end (⟨_, (.keep (.keep (.keep (.drop (.drop (.keep (.keep .nil))))))), (by have := hp.2.2 _ (List.mem_of_getElem? hi2); show MR _ _ (Ed (List.take (i2 + 1) v_pairs)); rw [take_s hi2]; exact mr_pair hI2 this.1 this.2.2.1 hd3_19)⟩)⟩)⟩⟩)))⟩))))⟩, fun ts2_masks thI2 => js_range nd x.b_range hps rfl (je_var .z (⟨((List Int)), (fun (z0 : ((List Int))) => [(2, some (own (sds z0)))]), fun (i : Nat) (s : ((List Int))) => MR v_size.toNat s (War (Ed v_pairs) i), (by first | omega | (simp only [St.ok] at *; omega) | (subst_vars; first | omega | (simp only [St.ok] at *; omega))), ⟨_, (.keep (.keep (.keep (.keep (.keep (.keep (.keep .nil))))))), (by have h := thI2; dsimp only at h; rw [List.take_length] at h; exact h.imp fun x y _ => Iff.rfl)⟩, fun i4 s4_masks hi4 hI4 => ⟨_, (.s (.s (.s (.s (.s .z))))), js_range nd x.b_range hps rfl (je_var .z (⟨((List Int)), (fun (z0 : ((List Int))) => [(2, some (own (sds z0)))]), fun (i : Nat) (s : ((List Int))) => MR v_size.toNat s (WI (Ed v_pairs) i4 i), (by first | omega | (simp only [St.ok] at *; omega) | (subst_vars; first | omega | (simp only [St.ok] at *; omega))), ⟨_, (.keep (.keep (.keep (.keep (.keep (.keep (.keep .nil))))))), (by exact MR.imp hI4 fun x y _ => by unfold WI; simp)⟩, fun i5 s5_masks hi5 hI5 => ⟨_, (.s (.s (.s (.s (.s (.s .z)))))), js_if1 (jt_bool (je_callP ((ok_has_bit x).mono (by decide)) hr pass0 (ja_cons (je_ixo (.s (.s .z)) (je_var (.s (.s (.s (.s (.s (.s .z)))))) (⟨_, (.s (.s .z)), (by have h := hI5.1; omega), fun d6_23 hd6_23 => ja_cons (je_var (.s (.s (.s (.s (.s .z))))) (ja_nil (⟨⟨_, _⟩, rfl, rfl, (by first | omega | (simp only [St.ok] at *; omega) | (subst_vars; first | omega | (simp only [St.ok] at *; omega))), fun r6_15 p6_15 => ⟨fun t6_15 => ⟨fun _ => js_seto (.s (.s .z)) (je_bor (je_ixo (.s (.s .z)) (je_var (.s (.s (.s (.s (.s (.s .z)))))) (⟨_, (.s (.s .z)), (by have h := hI5.1; omega), fun d7_27 hd7_27 => je_ixo (.s (.s .z)) (je_var (.s (.s (.s (.s (.s .z))))) (⟨_, (.s (.s .z)), (by have h := hI5.1; omega), fun d7_38 hd7_38 => ⟨_, (.s (.s .z)), je_var (.s (.s (.s (.s (.s (.s .z)))))) (⟨_, _, (.s (.s .z)), (by have h := hI5.1; omega), (.s (.s .z)), js_end (⟨_, (.keep (.keep (.keep (.keep (.keep (.keep (.drop .nil))))))), (by first | (have e := Option.some.inj (hd6_23.symm.trans hd7_27); rw [e] at p6_15; exact mr_war_t hI5 (by omega) (by omega) hd7_27 hd7_38 (p6_15.symm.trans t6_15)) | exact mr_war_f hI5 (by omega) hd6_23 (p6_15.symm.trans t6_15))⟩)⟩)⟩⟩))⟩)))), fun z => (nomatch z)⟩, fun t6_15 => ⟨fun z => (nomatch z), fun _ => js_end (⟨_, (.keep (.keep (.keep (.keep (.keep (.keep (.drop .nil))))))), (by first | (have e := Option.some.inj (hd6_23.symm.trans hd7_27); rw [e] at p6_15; exact mr_war_t hI5 (by omega) (by omega) hd7_27 hd7_38 (p6_15.symm.trans t6_15)) | exact mr_war_f hI5 (by omega) hd6_23 (p6_15.symm.trans t6_15))⟩)⟩⟩⟩)))⟩))))))⟩, fun ts5_masks thI5 => js_end (⟨_, (.keep (.keep (.keep (.keep (.keep (.drop (.keep .nil))))))), (by exact MR.imp thI5 fun x y hx => by unfold WI; rw [if_pos hx])⟩)⟩))⟩, fun ts4_masks thI4 => js_frz (.s (.s .z)) fz_own (.s (.s .z)) .nil (js_ret (by decide) (je_var (.s (.s .z)) (⟨(), .nil, (by exact MR.imp thI4 fun x y _ => war_iff hp.2.2)⟩)))⟩))⟩))⟩⟩⟩)⟩⟩)))))))
theorem sc_need_no_loop : FnScope ["masks", "x"] ["masks"] (defScope (top 13)) := ⟨rfl, rfl, rfl, by decide +kernel, rfl, by decide +kernel, by decide +kernel⟩
theorem ok_need_no_loop  (x : Fx K mg) : OkF P w K mg base CX0 2 "need_no_loop" ["masks"] (spP K 1 (fun (a : List Int) => [sd a]) (fun a => a.length ≤ 20 ∧ ∃ n R, MR n a R ∧ ∀ x, ¬ R x x) (fun _ (_ : Unit) => True)) := by
  obtain ⟨fd, F⟩ := x.f_need_no_loop
  refine ⟨⟨fd, okT F sc_need_no_loop (fun _ => rfl) (fun cdv A0 outer s H E v_masks B hr hp => ?_), F.bindsN fun _ _ _ _ _ _ us hl => match us, hl with | [_], _ => rfl⟩, x.g_need_no_loop, F.kp⟩
  try dsimp only at hp ⊢
  have nd := (sc_need_no_loop).nd
  have hps : PassesOwn (model (cxOf CX0 P w K mg base ["masks", "x"] "need_no_loop" (defScope (top 13)) (He.ga K "need_no_loop") cdv A0 outer s H E).prog (cxOf CX0 P w K mg base ["masks", "x"] "need_no_loop" (defScope (top 13)) (He.ga K "need_no_loop") cdv A0 outer s H E).w) (cxOf CX0 P w K mg base ["masks", "x"] "need_no_loop" (defScope (top 13)) (He.ga K "need_no_loop") cdv A0 outer s H E).A (cxOf CX0 P w K mg base ["masks", "x"] "need_no_loop" (defScope (top 13)) (He.ga K "need_no_loop") cdv A0 outer s H E).env (cxOf CX0 P w K mg base ["masks", "x"] "need_no_loop" (defScope (top 13)) (He.ga K "need_no_loop") cdv A0 outer s H E).xe := PassesOwn.leaving
  exact js_range nd x.b_range hps rfl (je_len x.b_len (je_var .z (⟨Unit, (fun (_ : Unit) => []), fun (i : Nat) (s : Unit) => True, (by first | omega | (simp only [St.ok] at *; omega) | (subst_vars; first | omega | (simp only [St.ok] at *; omega))), ⟨(), (.keep (.keep .nil)), (by trivial)⟩, fun i1 s1 hi1 hI1 => ⟨_, (.s .z), js_ifR (jt_bool (je_callP ((ok_has_bit x).mono (by decide)) hr pass0 (ja_cons (je_ix (je_var .z (je_var (.s .z) (⟨(by first | omega | (simp only [St.ok] at *; omega) | (subst_vars; first | omega | (simp only [St.ok] at *; omega))), fun d2_19 hd2_19 => ja_cons (je_var (.s .z) (ja_nil (⟨⟨_, _⟩, rfl, rfl, (by first | omega | (simp only [St.ok] at *; omega) | (subst_vars; first | omega | (simp only [St.ok] at *; omega))), fun r2_11 p2_11 => ⟨fun t2_11 => ⟨fun _ => (by exfalso; obtain ⟨n, R, h, k⟩ := hp.2; have hl := h.1; exact k _ ((h.bit (x := i1) (by omega) hd2_19 i1).mp (p2_11.symm.trans t2_11))), fun z => (nomatch z)⟩, fun t2_11 => ⟨fun z => (nomatch z), fun _ => js_end (⟨(), (.keep (.drop .nil)), (by trivial)⟩)⟩⟩⟩)))⟩)))))))⟩, fun ts1 thI1 => js_fall (d := ()) (by decide) (fun _ _ => rfl) (⟨(), .nil, (by trivial)⟩)⟩)))
theorem sc_next_masks : FnScope ["masks", "told", "x", "far", "y"] ["masks"] (defScope (top 14)) := ⟨rfl, rfl, rfl, by decide +kernel, rfl, by decide +kernel, by decide +kernel⟩
theorem ok_next_masks  (x : Fx K mg) : OkF P w K mg base CX0 2 "next_masks" ["masks"] (spP K 1 (fun (a : List Int) => [sd a]) (fun a => a.length ≤ 20) (fun a (r : List Int) => r.length = a.length)) := by
  obtain ⟨fd, F⟩ := x.f_next_masks
  refine ⟨⟨fd, okT F sc_next_masks (fun _ => rfl) (fun cdv A0 outer s H E v_masks B hr hp => ?_), F.bindsN fun _ _ _ _ _ _ us hl => match us, hl with | [_], _ => rfl⟩, x.g_next_masks, F.kp⟩
  try dsimp only at hp ⊢
  have nd := (sc_next_masks).nd
  have hps : PassesOwn (model (cxOf CX0 P w K mg base ["masks", "told", "x", "far", "y"] "next_masks" (defScope (top 14)) (He.ga K "next_masks") cdv A0 outer s H E).prog (cxOf CX0 P w K mg base ["masks", "told", "x", "far", "y"] "next_masks" (defScope (top 14)) (He.ga K "next_masks") cdv A0 outer s H E).w) (cxOf CX0 P w K mg base ["masks", "told", "x", "far", "y"] "next_masks" (defScope (top 14)) (He.ga K "next_masks") cdv A0 outer s H E).A (cxOf CX0 P w K mg base ["masks", "told", "x", "far", "y"] "next_masks" (defScope (top 14)) (He.ga K "next_masks") cdv A0 outer s H E).env (cxOf CX0 P w K mg base ["masks", "told", "x", "far", "y"] "next_masks" (defScope (top 14)) (He.ga K "next_masks") cdv A0 outer s H E).xe := PassesOwn.leaving
  exact js_asgo nd (jn_lst (ja_nil (⟨[], rfl, by simp, ⟨([] : List (Int)), rfl, fun v_told e_told => ⟨_, (.s .z), js_range nd x.b_range hps rfl (je_len x.b_len (je_var .z (⟨((List Int)), (fun (z0 : ((List Int))) => [(1, some (own (sds z0)))]), fun (i : Nat) (s : ((List Int))) => s.length = i, (by first | omega | (simp only [St.ok] at *; omega) | (subst_vars; first | omega | (simp only [St.ok] at *; omega))), ⟨_, (.keep (.keep (.keep (.keep (.keep .nil))))), (by rw [e_told]; rfl)⟩, fun i2 s2_told hi2 hI2 => ⟨_, (.s (.s .z)), js_asg nd (je_int (⟨_, (.s (.s (.s .z))), js_range nd x.b_range hps rfl (je_len x.b_len (je_var .z (⟨(Int), (fun (z0 : (Int)) => [(3, some (sd z0))]), fun (i : Nat) (s : (Int)) => True, (by first | omega | (simp only [St.ok] at *; omega) | (subst_vars; first | omega | (simp only [St.ok] at *; omega))), ⟨_, (.keep (.keep (.keep (.keep (.keep .nil))))), (by trivial)⟩, fun i4 s4_far hi4 hI4 => ⟨_, (.s (.s (.s (.s .z)))), js_if1 (jt_bool (je_callP ((ok_has_bit x).mono (by decide)) hr pass0 (ja_cons (je_ix (je_var .z (je_var (.s (.s .z)) (⟨(by first | omega | (simp only [St.ok] at *; omega) | (subst_vars; first | omega | (simp only [St.ok] at *; omega))), fun d5_23 hd5_23 => ja_cons (je_var (.s (.s (.s (.s .z)))) (ja_nil (⟨⟨_, _⟩, rfl, rfl, (by first | omega | (simp only [St.ok] at *; omega) | (subst_vars; first | omega | (simp only [St.ok] at *; omega))), fun r5_15 p5_15 => ⟨fun t5_15 => ⟨fun _ => js_asgv nd (je_bor (je_var (.s (.s (.s .z))) (je_ix (je_var .z (je_var (.s (.s (.s (.s .z)))) (⟨(by first | omega | (simp only [St.ok] at *; omega) | (subst_vars; first | omega | (simp only [St.ok] at *; omega))), fun d6_28 hd6_28 => fun v_far e_far => ⟨_, (.s (.s (.s .z))), js_end (⟨_, (.keep (.keep (.keep (.keep (.drop .nil))))), (by trivial)⟩)⟩⟩)))))), fun z => (nomatch z)⟩, fun t5_15 => ⟨fun z => (nomatch z), fun _ => js_end (⟨_, (.keep (.keep (.keep (.keep (.drop .nil))))), (by trivial)⟩)⟩⟩⟩)))⟩)))))))⟩, fun ts4_far thI4 => js_appo (.s .z) (je_band (je_ix (je_var .z (je_var (.s (.s .z)) (⟨(by first | omega | (simp only [St.ok] at *; omega) | (subst_vars; first | omega | (simp only [St.ok] at *; omega))), fun d7_20 hd7_20 => je_inv (je_var (.s (.s (.s .z))) (⟨_, _, (.s .z), (by have h := hI2; dsimp only at h; omega), (.s .z), js_end (⟨_, (.keep (.keep (.drop (.drop (.keep .nil))))), (by have h := hI2; dsimp only at h ⊢; rw [List.length_append, h]; rfl)⟩)⟩))⟩)))))⟩)))⟩))⟩, fun ts2_told thI2 => js_frz (.s .z) fz_own (.s .z) .nil (js_ret (by decide) (je_var (.s .z) (⟨(), .nil, (by have h := thI2; dsimp only at h; omega)⟩)))⟩)))⟩⟩⟩)))
end
end Lw
end
section
namespace Lw
open PySem PySem.Spec PyProof.Rows L2 Tyl

section
variable {P : Program} {w : World} {K : Fg} {mg : Str → Option Value} {base : Heap}
theorem sc_rows_out : FnScope ["masks", "works", "y", "x"] ["masks"] (defScope (top 15)) := ⟨rfl, rfl, rfl, by decide +kernel, rfl, by decide +kernel, by decide +kernel⟩
theorem ok_rows_out  (x : Fx K mg) : OkF P w K mg base CX0 2 "rows_out" ["masks"] (spP K 1 (fun (a : List Int) => [sd a]) (fun a => a.length ≤ 20) (fun a (r : List (List Int)) => r = rowsOut a)) := by
  obtain ⟨fd, F⟩ := x.f_rows_out
  refine ⟨⟨fd, okT F sc_rows_out (fun _ => rfl) (fun cdv A0 outer s H E v_masks B hr hp => ?_), F.bindsN fun _ _ _ _ _ _ us hl => match us, hl with | [_], _ => rfl⟩, x.g_rows_out, F.kp⟩
  try dsimp only at hp ⊢
  have nd := (sc_rows_out).nd
  exact js_asgv nd (je_new (jn_range1 x.b_list x.b_range rfl (je_len x.b_len (je_var .z (⟨(by first | omega | (simp only [St.ok] at *; omega) | (subst_vars; first | omega | (simp only [St.ok] at *; omega))), ⟨_, rfl, fun v_works e_works => ⟨_, (.s .z), js_ret (by decide) (je_new (jnf_L rfl nd (nm := [("x", 3)]) (vs' := []) (show BlkOk ["masks", "works", "y", "x"] (defScope (top 15)) _ [("x", 3)] from ⟨rfl, by decide +kernel, by decide +kernel, by decide +kernel, by decide +kernel⟩) (by decide) (by decide) (fun it acc env => turn1_0 _ _ _ _ _ _) (fun m s H C cl fp => tw_name nd (by decide) (by decide)) (je_var (.s .z) (⟨1, fun x ds => ds = [(rgI 0 v_masks.length).filter fun y => bit (at0 v_masks x) y], (by rw [e_works, rgI_len2]; omega), (fun j hj => by simp at hj; subst hj; rfl), fun iq0 q0 hq0 => ⟨_, (.s (.s (.s .z))), fun m D => jts_nil (⟨fun _ => fun s H C cl fp => jq_elt rfl (fun m => je_new (jnf_L rfl nd (nm := [("y", 2)]) (vs' := []) (show BlkOk ["masks", "works", "y", "x"] _ _ [("y", 2)] from ⟨rfl, by decide +kernel, by decide +kernel, of_decide_eq_true (by rfl), by decide +kernel⟩) (by decide) (by decide) (fun it acc env => turn1_0 _ _ _ _ _ _) (fun m s H C cl fp => tw_name nd (by decide) (by decide)) (je_var (.s .z) (⟨1, fun y ds => ds = if bit (at0 v_masks q0) y = true then [y] else [], (by rw [e_works, rgI_len2]; omega), (fun j hj => by simp at hj; subst hj; rfl), fun iq10 q10 hq10 => ⟨_, (.s (.s .z)), fun m D => jts_one (fun s H C cl fp => jt_bool (je_callP ((ok_has_bit x).mono (by decide)) hr pass0 (ja_cons (je_ix (je_var .z (je_var (.s (.s (.s .z))) (⟨(by have wq0 := (by have h := hq0; rw [e_works] at h; exact rg_at h : 0 ≤ q0 ∧ q0 < (v_masks.length : Int)); exact wq0), fun d2_41 hd2_41 => ja_cons (je_var (.s (.s .z)) (ja_nil (⟨⟨_, _⟩, rfl, rfl, (by have wq0 := (by have h := hq0; rw [e_works] at h; exact rg_at h : 0 ≤ q0 ∧ q0 < (v_masks.length : Int)); have wq1 := (by have h := hq10; rw [e_works] at h; exact rg_at h : 0 ≤ q10 ∧ q10 < (v_masks.length : Int)); exact wq1.1), fun r2_33 p2_33 => ⟨fun t2_33 => ⟨fun _ => fun s H C cl fp => jq_elt rfl (fun m => je_var (.s (.s .z)) (⟨(by try dsimp only; rw [at0_of hd2_41, if_pos (p2_33.symm.trans t2_33)]), (.keep (.keep (.drop (.keep .nil))))⟩)), fun z => (nomatch z)⟩, fun t2_33 => ⟨fun z => (nomatch z), fun _ => ⟨(by try dsimp only; rw [at0_of hd2_41, if_neg (by rw [show bit d2_41 _ = r2_33 from p2_33.symm, t2_33]; decide)]), (.keep (.keep (.drop (.keep .nil))))⟩⟩⟩⟩)))⟩)))))))⟩, fun dss hds => ⟨_, rfl, ⟨(by have h := all2_filter hds; rw [e_works] at h; exact congrArg (fun z => [z]) h), (.keep (.keep (.keep (.drop .nil))))⟩⟩⟩)))), fun z => (nomatch z)⟩)⟩, fun dss hds => ⟨_, rfl, ⟨(), .nil, (by rw [all2_map hds, e_works]; rfl)⟩⟩⟩))))⟩⟩⟩)))))
theorem sc_rows_in : FnScope ["masks", "works", "a", "x"] ["masks"] (defScope (top 16)) := ⟨rfl, rfl, rfl, by decide +kernel, rfl, by decide +kernel, by decide +kernel⟩
theorem ok_rows_in  (x : Fx K mg) : OkF P w K mg base CX0 2 "rows_in" ["masks"] (spP K 1 (fun (a : List Int) => [sd a]) (fun a => a.length ≤ 20) (fun a (r : List (List Int)) => r = rowsIn a)) := by
  obtain ⟨fd, F⟩ := x.f_rows_in
  refine ⟨⟨fd, okT F sc_rows_in (fun _ => rfl) (fun cdv A0 outer s H E v_masks B hr hp => ?_), F.bindsN fun _ _ _ _ _ _ us hl => match us, hl with | [_], _ => rfl⟩, x.g_rows_in, F.kp⟩
  try dsimp only at hp ⊢
  have nd := (sc_rows_in).nd
  exact js_asgv nd (je_new (jn_range1 x.b_list x.b_range rfl (je_len x.b_len (je_var .z (⟨(by first | omega | (simp only [St.ok] at *; omega) | (subst_vars; first | omega | (simp only [St.ok] at *; omega))), ⟨_, rfl, fun v_works e_works => ⟨_, (.s .z), js_ret (by decide) (je_new (jnf_L rfl nd (nm := [("x", 3)]) (vs' := []) (show BlkOk ["masks", "works", "a", "x"] (defScope (top 16)) _ [("x", 3)] from ⟨rfl, by decide +kernel, by decide +kernel, by decide +kernel, by decide +kernel⟩) (by decide) (by decide) (fun it acc env => turn1_0 _ _ _ _ _ _) (fun m s H C cl fp => tw_name nd (by decide) (by decide)) (je_var (.s .z) (⟨1, fun x ds => ds = [(rgI 0 v_masks.length).filter fun a => bit (at0 v_masks a) x], (by rw [e_works, rgI_len2]; omega), (fun j hj => by simp at hj; subst hj; rfl), fun iq0 q0 hq0 => ⟨_, (.s (.s (.s .z))), fun m D => jts_nil (⟨fun _ => fun s H C cl fp => jq_elt rfl (fun m => je_new (jnf_L rfl nd (nm := [("a", 2)]) (vs' := []) (show BlkOk ["masks", "works", "a", "x"] _ _ [("a", 2)] from ⟨rfl, by decide +kernel, by decide +kernel, of_decide_eq_true (by rfl), by decide +kernel⟩) (by decide) (by decide) (fun it acc env => turn1_0 _ _ _ _ _ _) (fun m s H C cl fp => tw_name nd (by decide) (by decide)) (je_var (.s .z) (⟨1, fun a ds => ds = if bit (at0 v_masks a) q0 = true then [a] else [], (by rw [e_works, rgI_len2]; omega), (fun j hj => by simp at hj; subst hj; rfl), fun iq10 q10 hq10 => ⟨_, (.s (.s .z)), fun m D => jts_one (fun s H C cl fp => jt_bool (je_callP ((ok_has_bit x).mono (by decide)) hr pass0 (ja_cons (je_ix (je_var .z (je_var (.s (.s .z)) (⟨(by have wq0 := (by have h := hq0; rw [e_works] at h; exact rg_at h : 0 ≤ q0 ∧ q0 < (v_masks.length : Int)); have wq1 := (by have h := hq10; rw [e_works] at h; exact rg_at h : 0 ≤ q10 ∧ q10 < (v_masks.length : Int)); exact wq1), fun d2_41 hd2_41 => ja_cons (je_var (.s (.s (.s .z))) (ja_nil (⟨⟨_, _⟩, rfl, rfl, (by have wq0 := (by have h := hq0; rw [e_works] at h; exact rg_at h : 0 ≤ q0 ∧ q0 < (v_masks.length : Int)); exact wq0.1), fun r2_33 p2_33 => ⟨fun t2_33 => ⟨fun _ => fun s H C cl fp => jq_elt rfl (fun m => je_var (.s (.s .z)) (⟨(by try dsimp only; rw [at0_of hd2_41, if_pos (p2_33.symm.trans t2_33)]), (.keep (.keep (.drop (.keep .nil))))⟩)), fun z => (nomatch z)⟩, fun t2_33 => ⟨fun z => (nomatch z), fun _ => ⟨(by try dsimp only; rw [at0_of hd2_41, if_neg (by rw [show bit d2_41 _ = r2_33 from p2_33.symm, t2_33]; decide)]), (.keep (.keep (.drop (.keep .nil))))⟩⟩⟩⟩)))⟩)))))))⟩, fun dss hds => ⟨_, rfl, ⟨(by have h := all2_filter hds; rw [e_works] at h; exact congrArg (fun z => [z]) h), (.keep (.keep (.keep (.drop .nil))))⟩⟩⟩)))), fun z => (nomatch z)⟩)⟩, fun dss hds => ⟨_, rfl, ⟨(), .nil, (by rw [all2_map hds, e_works]; rfl)⟩⟩⟩))))⟩⟩⟩)))))
theorem sc_pairs_of : FnScope ["rows", "a", "b"] ["rows"] (defScope (top 17)) := ⟨rfl, rfl, rfl, by decide +kernel, rfl, by decide +kernel, by decide +kernel⟩
theorem ok_pairs_of  (x : Fx K mg) : OkF P w K mg base CX0 1 "pairs_of" ["rows"] (spP K 1 (fun (a : List (List Int)) => [sd a]) (fun a => a.length ≤ 20 ∧ ∀ r ∈ a, r.length ≤ 20) (fun a (r : List (Int × Int)) => r = pairsOf a)) := by
  obtain ⟨fd, F⟩ := x.f_pairs_of
  refine ⟨⟨fd, okT F sc_pairs_of (fun _ => rfl) (fun cdv A0 outer s H E v_rows B hr hp => ?_), F.bindsN fun _ _ _ _ _ _ us hl => match us, hl with | [_], _ => rfl⟩, x.g_pairs_of, F.kp⟩
  try dsimp only at hp ⊢
  have nd := (sc_pairs_of).nd
  exact js_ret (by decide) (je_new (jnf_R1 x.b_range rfl nd (nm := [("a", 1), ("b", 2)]) (vs' := [2]) (show BlkOk ["rows", "a", "b"] (defScope (top 17)) _ [("a", 1), ("b", 2)] from ⟨rfl, by decide +kernel, by decide +kernel, by decide +kernel, by decide +kernel⟩) (by decide) (by decide) (fun it acc env => turn2_0 _ _ _ _ _ _ _ _ _) (fun m s H C cl fp => tw_name nd (by decide) (by decide)) (je_len x.b_len (je_var .z (⟨20, fun a ds => ds = ((v_rows[a.toNat]?).getD []).map fun b => (a, b), (by first | omega | (simp only [St.ok] at *; omega) | (subst_vars; first | omega | (simp only [St.ok] at *; omega))), (by first | omega | (simp only [St.ok] at *; omega) | (subst_vars; first | omega | (simp only [St.ok] at *; omega))), (fun j hj => by simp at hj; rcases hj with rfl | rfl <;> rfl), fun q0 hq00 hq01 => ⟨_, (.s .z), fun m D => jts_nil (⟨fun _ => fun s H C cl fp => jq_levL (vs := [2]) ⟨_, _, _, _, rfl⟩ rfl rfl (by decide) (by decide) (fun m => tw_name nd (by decide) (by decide)) (fun it => turn2_1 _ _ _ _ _ _ _ _ _) (start2_1 _ _ _ _ _ _ _ _ _) (fun m => je_ix (je_var .z (je_var (.s .z) (⟨(by first | omega | (simp only [St.ok] at *; omega) | (subst_vars; first | omega | (simp only [St.ok] at *; omega))), fun d1_54 hd1_54 => ⟨1, fun b ds => ds = [(q0, b)], (by have := hp.2 _ (List.mem_of_getElem? hd1_54); omega), (fun j hj => by simp at hj; rcases hj with rfl | rfl <;> rfl), (.keep (.drop (.keep .nil))), fun iq1 q1 hq1 => ⟨_, (.s (.s .z)), fun m => jt0 (⟨fun _ => jq_elt rfl (fun m => je_pair (je_var (.s .z) (je_var (.s (.s .z)) (⟨(by rfl), (.keep (.keep (.drop .nil)))⟩)))), fun z => (nomatch z)⟩)⟩, (by intro dss h; rw [all2_map h, hd1_54]; rfl)⟩⟩)))), fun z => (nomatch z)⟩)⟩, fun dss hds => ⟨_, rfl, ⟨(), .nil, (by exact all2_flat hds)⟩⟩⟩)))))
theorem sc_check_work : FnScope ["size", "x"] ["size", "x"] (defScope (top 21)) := ⟨rfl, rfl, rfl, by decide +kernel, rfl, by decide +kernel, by decide +kernel⟩
theorem ok_check_work  (x : Fx K mg) : OkF P w K mg base CX0 1 "check_work" ["size", "x"] (spP K 2 (fun (a : Int × Int) => match a with | (z0, z1) => [sd z0, sd z1]) (fun a => 0 ≤ a.2 ∧ a.2 < a.1) (fun _ (_ : Unit) => True)) := by
  obtain ⟨fd, F⟩ := x.f_check_work
  refine ⟨⟨fd, okT F sc_check_work (fun _ => rfl) (fun cdv A0 outer s H E a B hr hp => ?_), F.bindsN fun _ _ _ _ _ _ us hl => match us, hl with | [_, _], _ => rfl⟩, x.g_check_work, F.kp⟩
  obtain ⟨v_size, v_x⟩ := a
  try dsimp only at hp ⊢
  have nd := (sc_check_work).nd
  exact js_ifR (jt_not (jt_ch (fun i j => i ≤ j) (fun i j => i < j) op_le op_lt (je_int (je_var (.s .z) (⟨fun ta1_11 => ⟨fun _ => (by exfalso; first | omega | (simp only [St.ok] at *; omega) | (subst_vars; first | omega | (simp only [St.ok] at *; omega))), fun z => (nomatch z)⟩, fun ta1_11 => je_var .z (⟨fun t1_11 => ⟨fun z => (nomatch z), fun _ => js_fall (d := ()) (by decide) (fun _ _ => rfl) (⟨(), .nil, (by trivial)⟩)⟩, fun t1_11 => ⟨fun _ => (by exfalso; first | omega | (simp only [St.ok] at *; omega) | (subst_vars; first | omega | (simp only [St.ok] at *; omega))), fun z => (nomatch z)⟩⟩)⟩)))))
theorem sc_check_sum : FnScope ["size"] ["size"] (defScope (top 22)) := ⟨rfl, rfl, rfl, by decide +kernel, rfl, by decide +kernel, by decide +kernel⟩
theorem ok_check_sum  (x : Fx K mg) : OkF P w K mg base CX0 1 "check_sum" ["size"] (spP K 1 (fun (a : Int) => [sd a]) (fun a => a ≤ 20) (fun _ (_ : Unit) => True)) := by
  obtain ⟨fd, F⟩ := x.f_check_sum
  obtain ⟨_, i_MOST_WORKS_joins⟩ := x.i_MOST_WORKS_joins
  refine ⟨⟨fd, okT F sc_check_sum (fun _ => rfl) (fun cdv A0 outer s H E v_size B hr hp => ?_), F.bindsN fun _ _ _ _ _ _ us hl => match us, hl with | [_], _ => rfl⟩, x.g_check_sum, F.kp⟩
  try dsimp only at hp ⊢
  have nd := (sc_check_sum).nd
  exact js_ifR (jt_gt (je_var .z (je_gint i_MOST_WORKS_joins (⟨fun t1_7 => ⟨fun _ => (by exfalso; first | omega | (simp only [St.ok] at *; omega) | (subst_vars; first | omega | (simp only [St.ok] at *; omega))), fun z => (nomatch z)⟩, fun t1_7 => ⟨fun z => (nomatch z), fun _ => js_fall (d := ()) (by decide) (fun _ _ => rfl) (⟨(), .nil, (by trivial)⟩)⟩⟩))))
theorem sc_moved : FnScope ["pairs", "by", "a", "b"] ["pairs", "by"] (defScope (top 23)) := ⟨rfl, rfl, rfl, by decide +kernel, rfl, by decide +kernel, by decide +kernel⟩
theorem ok_moved  (x : Fx K mg) : OkF P w K mg base CX0 1 "moved" ["pairs", "by"] (spP K 2 (fun (a : (List (Int × Int)) × Int) => match a with | (z0, z1) => [sd z0, sd z1]) (fun a => a.1.length ≤ 100000) (fun a (r : List (Int × Int)) => r = a.1.map fun p => (p.1 + a.2, p.2 + a.2))) := by
  obtain ⟨fd, F⟩ := x.f_moved
  refine ⟨⟨fd, okT F sc_moved (fun _ => rfl) (fun cdv A0 outer s H E a B hr hp => ?_), F.bindsN fun _ _ _ _ _ _ us hl => match us, hl with | [_, _], _ => rfl⟩, x.g_moved, F.kp⟩
  obtain ⟨v_pairs, v_by⟩ := a
  try dsimp only at hp ⊢
  have nd := (sc_moved).nd
  exact js_ret (by decide) (je_new (jnf_L rfl nd (nm := [("a", 2), ("b", 3)]) (vs' := []) (show BlkOk ["pairs", "by", "a", "b"] (defScope (top 23)) _ [("a", 2), ("b", 3)] from ⟨rfl, by decide +kernel, by decide +kernel, by decide +kernel, by decide +kernel⟩) (by decide) (by decide) (fun it acc env => turn1_0 _ _ _ _ _ _) (fun m s H C cl fp => tw_pair rfl nd (by decide) (by decide) (by decide) (by decide)) (je_var .z (⟨1, fun p ds => ds = [(p.1 + v_by, p.2 + v_by)], (by first | omega | (simp only [St.ok] at *; omega) | (subst_vars; first | omega | (simp only [St.ok] at *; omega))), (fun j hj => by simp at hj; rcases hj with rfl | rfl <;> rfl), fun iq0 q0 hq0 => ⟨_, ⟨_, (.s (.s .z)), (.s (.s (.s .z)))⟩, fun m D => jts_nil (⟨fun _ => fun s H C cl fp => jq_elt rfl (fun m => je_pair (je_add (je_var (.s (.s .z)) (je_var (.s .z) (je_add (je_var (.s (.s (.s .z))) (je_var (.s .z) (⟨(by rfl), (.keep (.keep (.drop (.drop .nil))))⟩)))))))), fun z => (nomatch z)⟩)⟩, fun dss hds => ⟨_, rfl, ⟨(), .nil, (by exact all2_map hds)⟩⟩⟩))))
theorem sc_new_numbers : FnScope ["y", "x", "more"] ["y", "x", "more"] (defScope (top 26)) := ⟨rfl, rfl, rfl, by decide +kernel, rfl, by decide +kernel, by decide +kernel⟩
theorem ok_new_numbers  (x : Fx K mg) : OkF P w K mg base CX0 1 "new_numbers" ["y", "x", "more"] (spP K 3 (fun (a : Int × Int × Int) => match a with | (z0, z1, z2) => [sd z0, sd z1, sd z2]) (fun a => -1000 < a.1 ∧ a.1 < 1000 ∧ -1000 < a.2.1 ∧ a.2.1 < 1000 ∧ -1000 < a.2.2 ∧ a.2.2 < 1000) (fun a (r : List Int) => r = PutE a.2.1 a.2.2 a.1)) := by
  obtain ⟨fd, F⟩ := x.f_new_numbers
  refine ⟨⟨fd, okT F sc_new_numbers (fun _ => rfl) (fun cdv A0 outer s H E a B hr hp => ?_), F.bindsN fun _ _ _ _ _ _ us hl => match us, hl with | [_, _, _], _ => rfl⟩, x.g_new_numbers, F.kp⟩
  obtain ⟨v_y, v_x, v_more⟩ := a
  try dsimp only at hp ⊢
  have nd := (sc_new_numbers).nd
  exact js_ifR (jt_lt (je_var .z (je_var (.s .z) (⟨fun t1_7 => ⟨fun _ => js_ret (by decide) (je_new (jn_lst (ja_cons (je_var .z (ja_nil (⟨[_], rfl, by simp, ⟨[_], rfl, ⟨(), .nil, (by unfold PutE; rw [if_neg (by omega), if_neg (by omega)]; simp)⟩⟩⟩)))))), fun z => (nomatch z)⟩, fun t1_7 => ⟨fun z => (nomatch z), fun _ => js_ifR (jt_gt (je_var .z (je_var (.s .z) (⟨fun t3_7 => ⟨fun _ => js_ret (by decide) (je_new (jn_lst (ja_cons (je_sub (je_add (je_var .z (je_var (.s (.s .z)) (je_int (ja_nil (⟨[_], rfl, by simp, ⟨[_], rfl, ⟨(), .nil, (by unfold PutE; rw [if_neg (by omega), if_pos (by omega)]; congr 1; omega)⟩⟩⟩)))))))))), fun z => (nomatch z)⟩, fun t3_7 => ⟨fun z => (nomatch z), fun _ => js_ret (by decide) (je_new (jn_range2 x.b_list x.b_range rfl (je_var (.s .z) (je_add (je_var (.s .z) (je_var (.s (.s .z)) (⟨(by first | omega | (simp only [St.ok] at *; omega) | (subst_vars; first | omega | (simp only [St.ok] at *; omega))), ⟨_, rfl, ⟨(), .nil, (by unfold PutE; rw [if_pos (by omega)])⟩⟩⟩)))))))⟩⟩))))⟩⟩))))
end
end Lw
end
section
namespace Lw
open PySem PySem.Spec PyProof.Rows L2 Tyl
/-- a Plan as data -/
structure PlanD where
  size : Int
  masks : List Int
  ar : List (List Int)
  br : List (List Int)
  nr : List (List Int)
  pr : List (List Int)
  prow : List (Int × Int)
  crow : List (Int × Int)
abbrev CPl : Fg → Addr := fun K => He.ga K "Plan"
def PlanD.fs : PlanD → List (Str × SD)
  | ⟨n, m, a, b, c, d, e, f⟩ => [("work_count", sd n), ("after_masks", sd m), ("after_rows", sd a), ("before_rows", sd b), ("next_rows", sd c), ("prev_rows", sd d), ("pair_row", sd e), ("cover_row", sd f)]
instance rpPlan : Rp PlanD := ⟨fun K G v d => ∃ a dx vs, v = .ref a ∧ G a = some (.ins (CPl K) dx vs) ∧ FR K G vs d.fs, fun e ⟨a, dx, vs, h1, h2, h3⟩ => ⟨a, dx, vs, h1, e _ _ h2, h3.mono e⟩⟩
instance recPlan : Rec PlanD CPl := ⟨PlanD.fs, fun h => h⟩
theorem fz_plan (o : PlanD) : Fz (obj CPl o.fs) o := fz_obj fun h1 h2 => ⟨_, _, _, rfl, h1, h2⟩
/-- a Plan of the order R -/
def PlanD.okR (d : PlanD) (R : Nat → Nat → Prop) : Prop := (1 ≤ d.size ∧ d.size ≤ 20) ∧ MR d.size.toNat d.masks R ∧ d.prow = pairsOf (rowsOut d.masks)
theorem rowsOut_len (ms : List Int) : (rowsOut ms).length = ms.length ∧ ∀ r ∈ rowsOut ms, r.length ≤ ms.length := by
  unfold rowsOut
  refine ⟨by rw [List.length_map, rgI_len]; simp, fun r hr => ?_⟩
  obtain ⟨x, _, rfl⟩ := List.mem_map.mp hr
  refine Nat.le_trans (List.length_filter_le _ _) ?_
  rw [rgI_len]
  simp
section
variable {P : Program} {w : World} {K : Fg} {mg : Str → Option Value} {base : Heap}
theorem sc_Plan_init : FnScope ["self", "size", "pairs", "masks", "close"] ["self", "size", "pairs"] (defScope (mth (top 18) 0)) := ⟨rfl, rfl, rfl, by decide +kernel, rfl, by decide +kernel, by decide +kernel⟩
theorem ok_Plan_init  (x : Fx K mg) : OkA P w K mg base CX0 3 (He.ma K (He.ga K "Plan") "__init__") ["self", "size", "pairs"] (spT (R := Unit) K (true :: List.replicate 2 false) (fun a : Int × List (Int × Int) => obj CPl [] :: (fun a : Int × List (Int × Int) => match a with | (z0, z1) => [sd z0, sd z1]) a) (fun a => 1 ≤ a.1 ∧ a.1 ≤ 20 ∧ InR a.1 a.2 ∧ ∀ x, ¬ TC (Ed a.2) x x) (fun _ (o : PlanD) => [obj CPl o.fs]) (fun a _ o => o.size = a.1 ∧ o.okR (TC (Ed a.2)))) := by
  obtain ⟨fd, F⟩ := x.f_Plan_init
  refine ⟨⟨fd, okT F sc_Plan_init (fun _ => rfl) (fun cdv A0 outer s H E a B hr hp => ?_), (by obtain ⟨ds, v, hb⟩ := F.binds1 (ps := ["self", "size", "pairs"]) 3 1 (by simp) rfl (fun _ _ _ _ _ _ _ us its h1 h2 => match us, its, h1, h2 with | [_, _, _], [_], _, _ => ⟨_, rfl, by with_unfolding_all rfl⟩); cases v; exact hb)⟩⟩
  obtain ⟨v_size, v_pairs⟩ := a
  try dsimp only at hp ⊢
  have nd := (sc_Plan_init).nd
  exact js_expr (jg_of (je_callP ((ok_need_size x).mono (by decide)) hr pass0 (ja_cons (je_var (.s .z) (ja_nil (⟨_, rfl, rfl, (by exact ⟨hp.1, hp.2.1⟩), fun r1_8 p1_8 => js_expr (jg_of (je_callP ((ok_need_pairs x).mono (by decide)) hr pass0 (ja_cons (je_var (.s .z) (ja_cons (je_var (.s (.s .z)) (ja_nil (⟨⟨_, _⟩, rfl, rfl, (by exact hp.2.2.1), fun r2_8 p2_8 => js_asgv nd (je_callP ((ok_closed_masks x).mono (by decide)) hr pass0 (ja_cons (je_var (.s .z) (ja_cons (je_var (.s (.s .z)) (ja_nil (⟨⟨_, _⟩, rfl, rfl, (by exact ⟨hp.1, hp.2.1, hp.2.2.1⟩), fun r3_16 p3_16 => fun v_masks e_masks => ⟨_, (.s (.s (.s .z))), js_expr (jg_of (je_callP ((ok_need_no_loop x).mono (by decide)) hr pass0 (ja_cons (je_var (.s (.s (.s .z))) (ja_nil (⟨_, rfl, rfl, (by subst e_masks; have l1 := p3_16.1; exact ⟨by omega, _, _, p3_16, hp.2.2.2⟩), fun r4_8 p4_8 => js_asgv nd (je_callP ((ok_next_masks x).mono (by decide)) hr pass0 (ja_cons (je_var (.s (.s (.s .z))) (ja_nil (⟨_, rfl, rfl, (by subst e_masks; have l1 := p3_16.1; omega), fun r5_16 p5_16 => fun v_close e_close => ⟨_, (.s (.s (.s (.s .z)))), js_fld .z x.c_Plan x.n_Plan_work_count (je_var (.s .z) (⟨_, _, .z, Nat.le_of_ble_eq_true rfl, .z, js_fld .z x.c_Plan x.n_Plan_after_masks (je_var (.s (.s (.s .z))) (⟨_, _, .z, Nat.le_of_ble_eq_true rfl, .z, js_fld .z x.c_Plan x.n_Plan_after_rows (je_callP ((ok_rows_out x).mono (by decide)) hr pass0 (ja_cons (je_var (.s (.s (.s .z))) (ja_nil (⟨_, rfl, rfl, (by subst e_masks; have l1 := p3_16.1; omega), fun r8_26 p8_26 => ⟨_, _, .z, Nat.le_of_ble_eq_true rfl, .z, js_fld .z x.c_Plan x.n_Plan_before_rows (je_callP ((ok_rows_in x).mono (by decide)) hr pass0 (ja_cons (je_var (.s (.s (.s .z))) (ja_nil (⟨_, rfl, rfl, (by subst e_masks; have l1 := p3_16.1; omega), fun r9_27 p9_27 => ⟨_, _, .z, Nat.le_of_ble_eq_true rfl, .z, js_fld .z x.c_Plan x.n_Plan_next_rows (je_callP ((ok_rows_out x).mono (by decide)) hr pass0 (ja_cons (je_var (.s (.s (.s (.s .z)))) (ja_nil (⟨_, rfl, rfl, (by subst e_masks e_close; have l1 := p3_16.1; omega), fun r10_25 p10_25 => ⟨_, _, .z, Nat.le_of_ble_eq_true rfl, .z, js_fld .z x.c_Plan x.n_Plan_prev_rows (je_callP ((ok_rows_in x).mono (by decide)) hr pass0 (ja_cons (je_var (.s (.s (.s (.s .z)))) (ja_nil (⟨_, rfl, rfl, (by subst e_masks e_close; have l1 := p3_16.1; omega), fun r11_25 p11_25 => ⟨_, _, .z, Nat.le_of_ble_eq_true rfl, .z, js_fld .z x.c_Plan x.n_Plan_pair_row (je_callP ((ok_pairs_of x).mono (by decide)) hr pass0 (ja_cons (je_fldo .z x.c_Plan x.n_Plan_after_rows rfl (ja_nil (⟨_, rfl, rfl, (by subst e_masks; have l1 := p3_16.1; rw [p8_26]; have h := rowsOut_len v_masks; exact ⟨by omega, fun r hr => by have := h.2 r hr; omega⟩), fun r12_24 p12_24 => ⟨_, _, .z, Nat.le_of_ble_eq_true rfl, .z, js_fld .z x.c_Plan x.n_Plan_cover_row (je_callP ((ok_pairs_of x).mono (by decide)) hr pass0 (ja_cons (je_fldo .z x.c_Plan x.n_Plan_next_rows rfl (ja_nil (⟨_, rfl, rfl, (by subst e_masks e_close; have l1 := p3_16.1; rw [p10_25]; have h := rowsOut_len v_close; exact ⟨by omega, fun r hr => by have := h.2 r hr; omega⟩), fun r13_25 p13_25 => ⟨_, _, .z, Nat.le_of_ble_eq_true rfl, .z, js_fall (d := ()) (by decide) (fun _ _ => rfl) (⟨⟨_, _, _, _, _, _, _, _⟩, (.cons .z .nil), (by subst e_masks e_close; exact ⟨rfl, ⟨hp.1, hp.2.1⟩, p3_16, by rw [p12_24, p8_26]⟩)⟩)⟩⟩)))))⟩⟩)))))⟩⟩)))))⟩⟩)))))⟩⟩)))))⟩⟩)))))⟩))⟩))⟩⟩)))))⟩))))))⟩⟩)))))))⟩))))))))⟩))))))
end
end Lw
end
section
namespace Lw
open PySem PySem.Spec PyProof.Rows L2 Tyl
theorem tc_imp {R S : Nat → Nat → Prop} (h : ∀ x y, R x y → TC S x y) {x y : Nat} (t : TC R x y) : TC S x y := by
  induction t with
  | one r => exact h _ _ r
  | step _ r ih => exact ih.trans (h _ _ r)
theorem tc_congr {R S : Nat → Nat → Prop} (h : ∀ x y, R x y ↔ S x y) {x y : Nat} : TC R x y ↔ TC S x y := ⟨tc_imp fun x y r => .one ((h x y).mp r), tc_imp fun x y r => .one ((h x y).mpr r)⟩
/-- the pairs of a plan -/
theorem prow_mem {d : PlanD} {R : Nat → Nat → Prop} (h : d.okR R) {p : Int × Int} : p ∈ d.prow ↔ (0 ≤ p.1 ∧ p.1 < d.size ∧ 0 ≤ p.2 ∧ p.2 < d.size) ∧ R p.1.toNat p.2.toNat := by
  obtain ⟨hs, hm, hp⟩ := h
  have hl := hm.1
  rw [hp]
  unfold pairsOf
  rw [List.mem_flatMap]
  have ln := (rowsOut_len d.masks).1
  have row : ∀ a : Int, 0 ≤ a → a < d.size → ((rowsOut d.masks)[a.toNat]?).getD [] = (rgI 0 d.masks.length).filter fun y => bit (at0 d.masks a) y := by
    intro a h0 h1
    unfold rowsOut
    rw [List.getElem?_map]
    have e := rgI_at (n := (d.masks.length : Int)) (i := a.toNat) (by omega)
    rw [e]
    show (rgI 0 ↑d.masks.length).filter (fun y => bit (at0 d.masks ((a.toNat : Nat) : Int)) y) = _
    rw [show ((a.toNat : Nat) : Int) = a from by omega]
  have bt : ∀ a b : Int, 0 ≤ a → a < d.size → 0 ≤ b → (bit (at0 d.masks a) b = true ↔ R a.toNat b.toNat) := by
    intro a b h0 h1 h2
    obtain ⟨m, q1, q2⟩ := hm.2 a.toNat (by omega)
    have e : d.masks[a.toNat]? = some (at0 d.masks a) := by rw [at0_of q1]; exact q1
    have := hm.bit (x := a.toNat) (by omega) e b.toNat
    rw [show ((b.toNat : Nat) : Int) = b from by omega] at this
    exact this
  constructor
  · rintro ⟨a, ha, hq⟩
    have ha := rgI_mem.mp ha
    rw [row a ha.1 (by omega)] at hq
    obtain ⟨b, hb, rfl⟩ := List.mem_map.mp hq
    obtain ⟨hb, hbit⟩ := List.mem_filter.mp hb
    have hb := rgI_mem.mp hb
    exact ⟨⟨ha.1, by dsimp only; omega, hb.1, by dsimp only; omega⟩, (bt a b ha.1 (by omega) hb.1).mp hbit⟩
  · rintro ⟨⟨h0, h1, h2, h3⟩, hr⟩
    refine ⟨p.1, rgI_mem.mpr ⟨h0, by omega⟩, ?_⟩
    rw [row p.1 h0 h1]
    exact List.mem_map.mpr ⟨p.2, List.mem_filter.mpr ⟨rgI_mem.mpr ⟨h2, by omega⟩, (bt p.1 p.2 h0 h1 h2).mpr hr⟩, rfl⟩
/-- d is the plan of the order that ps makes -/
def PO (d : PlanD) (ps : List (Int × Int)) : Prop := d.okR (TC (Ed ps)) ∧ Ac d.size ps
theorem PO.mem {d : PlanD} {ps : List (Int × Int)} (h : PO d ps) {x y : Nat} : Ed d.prow x y ↔ TC (Ed ps) x y := by
  unfold Ed
  rw [prow_mem h.1]
  dsimp only
  rw [Int.toNat_natCast, Int.toNat_natCast]
  constructor
  · exact fun q => q.2
  · intro t
    have := (tc_war h.2.inR.e t).2
    exact ⟨by omega, t⟩
theorem PO.tc {d : PlanD} {ps : List (Int × Int)} (h : PO d ps) {x y : Nat} : TC (Ed d.prow) x y ↔ TC (Ed ps) x y := ⟨tc_imp fun _ _ r => h.mem.mp r, fun t => .one (h.mem.mpr t)⟩
theorem PO.self {d : PlanD} {ps : List (Int × Int)} (h : PO d ps) : PO d d.prow := by
  refine ⟨⟨h.1.1, h.1.2.1.imp fun x y _ => h.tc.symm, h.1.2.2⟩, ?_⟩
  obtain ⟨r, k⟩ := h.2
  have up : ∀ a b, TC (Ed ps) a b → r (a : Int) < r (b : Int) := by
    intro a b t
    induction t with
    | one q => exact (k _ q).2
    | step _ q ih => exact Nat.lt_trans ih (k _ q).2
  refine ⟨r, fun p hp => ?_⟩
  obtain ⟨a, b⟩ := (prow_mem h.1).mp hp
  refine ⟨a, ?_⟩
  have := up _ _ b
  rw [show ((p.1.toNat : Nat) : Int) = p.1 from by omega, show ((p.2.toNat : Nat) : Int) = p.2 from by omega] at this
  exact this
theorem prow_len {d : PlanD} {ps : List (Int × Int)} (h : PO d ps) : d.prow.length ≤ 400 := by
  obtain ⟨⟨hs, hm, hp⟩, _⟩ := h
  rw [hp]
  unfold pairsOf
  have hl := hm.1
  have ln := (rowsOut_len d.masks)
  have := flat_len (f := fun a : Int => (((rowsOut d.masks)[a.toNat]?).getD []).map fun b => (a, b)) (n := 20) (fun a => by
    rw [List.length_map]
    cases e : (rowsOut d.masks)[a.toNat]? with
    | none => simp
    | some r =>
      have := ln.2 r (List.mem_of_getElem? e)
      show r.length ≤ 20
      omega) (rgI 0 (rowsOut d.masks).length)
  rw [rgI_len] at this
  omega
/-- joining, putting of orders -/
theorem ed_mono {ps qs : List (Int × Int)} (h : ∀ p ∈ ps, p ∈ qs) {x y : Nat} (t : TC (Ed ps) x y) : TC (Ed qs) x y := tc_imp (fun _ _ r => .one (h _ r)) t
theorem join_mem {n k : Int} {ps qs : List (Int × Int)} {row : Bool} {p : Int × Int} : p ∈ joinPairs n ps k qs row ↔ p ∈ ps ∨ (∃ q ∈ qs, p = (n + q.1, n + q.2)) ∨ (row = true ∧ 0 ≤ p.1 ∧ p.1 < n ∧ n ≤ p.2 ∧ p.2 < n + k) := by
  unfold joinPairs
  rw [List.mem_append, List.mem_append, List.mem_map]
  constructor
  · rintro ((h | ⟨q, h, rfl⟩) | h)
    · exact .inl h
    · exact .inr (.inl ⟨q, h, rfl⟩)
    · split at h
      · rename_i e
        obtain ⟨a, ha, h⟩ := List.mem_flatMap.mp h
        obtain ⟨b, hb, rfl⟩ := List.mem_map.mp h
        have ha := rgI_mem.mp ha
        have hb := rgI_mem.mp hb
        exact .inr (.inr ⟨e, by dsimp only; omega⟩)
      · cases h
  · rintro (h | ⟨q, h, rfl⟩ | ⟨e, h⟩)
    · exact .inl (.inl h)
    · exact .inl (.inr ⟨q, h, rfl⟩)
    · rw [if_pos e]
      exact .inr (List.mem_flatMap.mpr ⟨p.1, rgI_mem.mpr ⟨h.1, h.2.1⟩, List.mem_map.mpr ⟨p.2 - n, rgI_mem.mpr ⟨by omega, by omega⟩, by
        apply Prod.ext
        · rfl
        · dsimp only; omega⟩⟩)
theorem ac_join {n k : Int} {ps qs : List (Int × Int)} {row : Bool} (h : Ac n ps) (hq : Ac k qs) (hn : 0 ≤ n) (hk : 0 ≤ k) : Ac (n + k) (joinPairs n ps k qs row) := by
  obtain ⟨r1, k1⟩ := h
  obtain ⟨r2, k2⟩ := hq
  obtain ⟨N, hN⟩ := list_bound (fun p => r1 p.2) ps
  refine ⟨fun z => if z < n then min (r1 z) N else N + 1 + r2 (z - n), fun p hp => ?_⟩
  rcases join_mem.mp hp with h | ⟨q, h, rfl⟩ | ⟨_, h⟩
  · obtain ⟨b, c⟩ := k1 p h
    have := hN p h
    dsimp only at *
    refine ⟨by omega, ?_⟩
    rw [if_pos (by omega), if_pos (by omega)]
    omega
  · obtain ⟨b, c⟩ := k2 q h
    dsimp only at *
    refine ⟨by omega, ?_⟩
    rw [if_neg (by omega), if_neg (by omega), show n + q.1 - n = q.1 from by omega, show n + q.2 - n = q.2 from by omega]
    omega
  · dsimp only
    refine ⟨by omega, ?_⟩
    rw [if_pos (by omega), if_neg (by omega)]
    omega
theorem ed_cast {ps : List (Int × Int)} {p : Int × Int} (h : p ∈ ps) (h0 : 0 ≤ p.1) (h1 : 0 ≤ p.2) : Ed ps p.1.toNat p.2.toNat := by
  unfold Ed
  rw [show ((p.1.toNat : Nat) : Int) = p.1 from by omega, show ((p.2.toNat : Nat) : Int) = p.2 from by omega]
  exact h
theorem join_tc {n k : Int} {ps qs ps' qs' : List (Int × Int)} {row : Bool} (hn : 0 ≤ n) (h0 : InR n ps) (h1 : InR k qs) (hp : ∀ x y, Ed ps x y → TC (Ed ps') x y) (hq : ∀ x y, Ed qs x y → TC (Ed qs') x y) {x y : Nat} (t : TC (Ed (joinPairs n ps k qs row)) x y) : TC (Ed (joinPairs n ps' k qs' row)) x y := by
  refine tc_imp (fun x y r => ?_) t
  rcases join_mem.mp r with h | ⟨q, h, e⟩ | h
  · exact ed_mono (fun p hp => join_mem.mpr (.inl hp)) (hp x y h)
  · have b := h1 q h
    have t2 := hq _ _ (ed_cast h b.1 b.2.2.1)
    have key : ∀ a c, TC (Ed qs') a c → TC (Ed (joinPairs n ps' k qs' row)) (n.toNat + a) (n.toNat + c) := by
      intro a c t
      have one : ∀ a c, Ed qs' a c → Ed (joinPairs n ps' k qs' row) (n.toNat + a) (n.toNat + c) := fun a c r => join_mem.mpr (.inr (.inl ⟨_, r, by
        apply Prod.ext <;> dsimp only <;> omega⟩))
      induction t with
      | one r => exact .one (one _ _ r)
      | step _ r ih => exact .step ih (one _ _ r)
    have t3 := key _ _ t2
    have e1 : (x : Int) = n + q.1 := congrArg Prod.fst e
    have e2 : (y : Int) = n + q.2 := congrArg Prod.snd e
    rw [show n.toNat + q.1.toNat = x from by omega, show n.toNat + q.2.toNat = y from by omega] at t3
    exact t3
  · exact .one (join_mem.mpr (.inr (.inr h)))
theorem putE_ne {x k y : Int} (hk : 1 ≤ k) (hx : 0 ≤ x) (hy : 0 ≤ y) : ∃ z : Nat, (z : Int) ∈ PutE x k y := by
  unfold PutE
  split
  · exact ⟨x.toNat, rgI_mem.mpr (by omega)⟩
  · split
    · exact ⟨(y + (k - 1)).toNat, by rw [List.mem_singleton]; omega⟩
    · exact ⟨y.toNat, by rw [List.mem_singleton]; omega⟩
theorem put_tc {n k x : Int} {ps qs ps' qs' : List (Int × Int)} (hx : 0 ≤ x) (hk : 1 ≤ k) (h0 : InR n ps) (h1 : InR k qs) (hp : ∀ x y, Ed ps x y → TC (Ed ps') x y) (hq : ∀ x y, Ed qs x y → TC (Ed qs') x y) {a b : Nat} (t : TC (Ed (putPairs ps x k qs)) a b) : TC (Ed (putPairs ps' x k qs')) a b := by
  refine tc_imp (fun a b r => ?_) t
  rcases putPairs_mem.mp r with ⟨q, h, e⟩ | ⟨q, h, ha, hb⟩
  · have bq := h1 q h
    have t2 := hq _ _ (ed_cast h bq.1 bq.2.2.1)
    have key : ∀ a c, TC (Ed qs') a c → TC (Ed (putPairs ps' x k qs')) (x.toNat + a) (x.toNat + c) := by
      intro a c t
      have one : ∀ a c, Ed qs' a c → Ed (putPairs ps' x k qs') (x.toNat + a) (x.toNat + c) := fun a c r => putPairs_mem.mpr (.inl ⟨_, r, by
        apply Prod.ext <;> dsimp only <;> omega⟩)
      induction t with
      | one r => exact .one (one _ _ r)
      | step _ r ih => exact .step ih (one _ _ r)
    have t3 := key _ _ t2
    have e1 : (a : Int) = x + q.1 := congrArg Prod.fst e
    have e2 : (b : Int) = x + q.2 := congrArg Prod.snd e
    rw [show x.toNat + q.1.toNat = a from by omega, show x.toNat + q.2.toNat = b from by omega] at t3
    exact t3
  · have bq := h0 q h
    have t2 := hp _ _ (ed_cast h bq.1 bq.2.2.1)
    have key : ∀ y z, TC (Ed ps') y z → ∀ a b : Nat, (a : Int) ∈ PutE x k y → (b : Int) ∈ PutE x k z → TC (Ed (putPairs ps' x k qs')) a b := by
      intro y z t
      induction t with
      | one r => exact fun a b ha hb => .one (putPairs_mem.mpr (.inr ⟨_, r, ha, hb⟩))
      | step _ r ih =>
        intro a b ha hb
        obtain ⟨c, hc⟩ := putE_ne (y := (_ : Nat)) hk hx (Int.natCast_nonneg _)
        exact .step (ih a c ha hc) (putPairs_mem.mpr (.inr ⟨_, r, hc, hb⟩))
    refine key _ _ t2 a b ?_ ?_
    · rw [show ((q.1.toNat : Nat) : Int) = q.1 from by omega]; exact ha
    · rw [show ((q.2.toNat : Nat) : Int) = q.2 from by omega]; exact hb
/-- PA: a plan that is one -/
def PA (d : PlanD) : Prop := PO d d.prow
theorem PO.of {d : PlanD} {ps qs : List (Int × Int)} (h : PO d ps) (hq : Ac d.size qs) (e : ∀ x y, TC (Ed ps) x y ↔ TC (Ed qs) x y) : PO d qs := ⟨⟨h.1.1, h.1.2.1.imp fun x y _ => e x y, h.1.2.2⟩, hq⟩
theorem PO.join {d p q : PlanD} {ps qs : List (Int × Int)} {row : Bool} (h : PO d (joinPairs p.size p.prow q.size q.prow row)) (hs : d.size = p.size + q.size) (hp : PO p ps) (hq : PO q qs) : PO d (joinPairs p.size ps q.size qs row) := by
  have n0 := hp.1.1
  have k0 := hq.1.1
  refine h.of (by rw [hs]; exact ac_join hp.2 hq.2 (by omega) (by omega)) fun x y => ⟨join_tc (by omega) hp.self.2.inR hq.self.2.inR (fun _ _ r => hp.mem.mp r) (fun _ _ r => hq.mem.mp r), join_tc (by omega) hp.2.inR hq.2.inR (fun _ _ r => .one (hp.mem.mpr (.one r))) (fun _ _ r => .one (hq.mem.mpr (.one r)))⟩
theorem PO.put {d p q : PlanD} {x : Int} {ps qs : List (Int × Int)} (h : PO d (putPairs p.prow x q.size q.prow)) (hs : d.size = p.size + q.size - 1) (hx : 0 ≤ x ∧ x < p.size) (hp : PO p ps) (hq : PO q qs) : PO d (putPairs ps x q.size qs) := by
  have n0 := hp.1.1
  have k0 := hq.1.1
  refine h.of (by rw [hs]; exact ac_put hp.2 hq.2 hx.1 hx.2 k0.1) fun a b => ⟨put_tc hx.1 k0.1 hp.self.2.inR hq.self.2.inR (fun _ _ r => hp.mem.mp r) (fun _ _ r => hq.mem.mp r), put_tc hx.1 k0.1 hp.2.inR hq.2.inR (fun _ _ r => .one (hp.mem.mpr (.one r))) (fun _ _ r => .one (hq.mem.mpr (.one r)))⟩
theorem PO.made {d : PlanD} {n : Int} {ps : List (Int × Int)} (h : d.size = n ∧ d.okR (TC (Ed ps))) (ha : Ac n ps) : PO d ps := ⟨h.2, by rw [h.1]; exact ha⟩
section
variable {P : Program} {w : World} {K : Fg} {mg : Str → Option Value} {base : Heap}
theorem sc_Plan_size : FnScope ["self"] ["self"] (defScope (mth (top 18) 3)) := ⟨rfl, rfl, rfl, by decide +kernel, rfl, by decide +kernel, by decide +kernel⟩
theorem ok_Plan_size  (x : Fx K mg) : OkA P w K mg base CX0 1 (prG K "Plan" "size") ["self"] (spP K 1 (fun (a : PlanD) => [sd a]) (fun _ => True) (fun a (r : Int) => r = a.size)) := by
  obtain ⟨fd, F⟩ := x.f_Plan_size
  refine ⟨⟨fd, okT F sc_Plan_size (fun _ => rfl) (fun cdv A0 outer s H E v_self B hr hp => ?_), F.bindsN fun _ _ _ _ _ _ us hl => match us, hl with | [_], _ => rfl⟩⟩
  try dsimp only at hp ⊢
  obtain ⟨z1, z2, z3, z4, z5, z6, z7, z8⟩ := v_self
  have nd := (sc_Plan_size).nd
  exact js_ret (by decide) (je_fld (C := fun K => He.ga K "Plan") x.c_Plan x.n_Plan_work_count (je_var .z (⟨_, rfl, ⟨(), .nil, (by rfl)⟩⟩)))
theorem sc_Plan_related : FnScope ["self"] ["self"] (defScope (mth (top 18) 13)) := ⟨rfl, rfl, rfl, by decide +kernel, rfl, by decide +kernel, by decide +kernel⟩
theorem ok_Plan_related  (x : Fx K mg) : OkA P w K mg base CX0 1 (He.ma K (He.ga K "Plan") "related") ["self"] (spP K 1 (fun (a : PlanD) => [sd a]) (fun _ => True) (fun a (r : List (Int × Int)) => r = a.prow)) := by
  obtain ⟨fd, F⟩ := x.f_Plan_related
  refine ⟨⟨fd, okT F sc_Plan_related (fun _ => rfl) (fun cdv A0 outer s H E v_self B hr hp => ?_), F.bindsN fun _ _ _ _ _ _ us hl => match us, hl with | [_], _ => rfl⟩⟩
  try dsimp only at hp ⊢
  obtain ⟨z1, z2, z3, z4, z5, z6, z7, z8⟩ := v_self
  have nd := (sc_Plan_related).nd
  exact js_ret (by decide) (je_new (jn_copy x.b_list (je_fld (C := fun K => He.ga K "Plan") x.c_Plan x.n_Plan_pair_row (je_var .z (⟨_, rfl, ⟨_, rfl, ⟨(), .nil, (by rfl)⟩⟩⟩)))))
end
end Lw
end
section
namespace Lw
open PySem PySem.Spec PyProof.Rows L2 Tyl
theorem join_false {n k : Int} {ps qs : List (Int × Int)} : (ps ++ qs.map fun p => (p.1 + n, p.2 + n)) = joinPairs n ps k qs false := by
  have e : (fun p : Int × Int => (p.1 + n, p.2 + n)) = fun p => (n + p.1, n + p.2) := funext fun p => by rw [Int.add_comm, Int.add_comm p.2]
  unfold joinPairs
  rw [e]
  simp
theorem join_true {n k : Int} {ps qs : List (Int × Int)} : (ps ++ qs.map fun p => (p.1 + n, p.2 + n)) ++ (rgI 0 n).flatMap (fun a => (rgI 0 k).map fun b => (a, n + b)) = joinPairs n ps k qs true := by
  have e : (fun p : Int × Int => (p.1 + n, p.2 + n)) = fun p => (n + p.1, n + p.2) := funext fun p => by rw [Int.add_comm, Int.add_comm p.2]
  unfold joinPairs
  rw [e]
  simp
theorem cross_len {n k : Int} (hn : n ≤ 20) (hk : k ≤ 20) : ((rgI 0 n).flatMap (fun a => (rgI 0 k).map fun b => (a, n + b))).length ≤ 400 := by
  have := flat_len (f := fun a : Int => (rgI 0 k).map fun b => (a, n + b)) (n := 20) (fun a => by rw [List.length_map, rgI_len]; omega) (rgI 0 n)
  rw [rgI_len] at this
  omega
theorem places_at {n x k : Int} {L : List (List Int)} (h : L = (rgI 0 n).map (PutE x k)) {a : Int} {d : List Int} (h0 : 0 ≤ a) (h1 : a < n) (hd : L[a.toNat]? = some d) : d = PutE x k a := by
  rw [h, List.getElem?_map, rgI_at (i := a.toNat) (by omega)] at hd
  have e := Option.some.inj hd
  rw [← e, show ((a.toNat : Nat) : Int) = a from by omega]
theorem put_swap {x k : Int} {ps qs : List (Int × Int)} (p : Int × Int) : p ∈ ps.flatMap (putF x k) ++ qs.map (fun p => (p.1 + x, p.2 + x)) ↔ p ∈ putPairs ps x k qs := by
  have e : (fun p : Int × Int => (p.1 + x, p.2 + x)) = fun p => (x + p.1, x + p.2) := funext fun p => by rw [Int.add_comm, Int.add_comm p.2]
  unfold putPairs
  rw [e, List.mem_append, List.mem_append]
  exact or_comm
theorem put_len {x k : Int} {ps : List (Int × Int)} (h0 : 1 ≤ k) (h : k ≤ 20) : (ps.flatMap (putF x k)).length ≤ 400 * ps.length := by
  have := putPairs_len (pairs := ps) (x := x) (more := []) h0 h
  unfold putPairs at this
  simpa using this
section
variable {P : Program} {w : World} {K : Fg} {mg : Str → Option Value} {base : Heap}
theorem sc_side_by_side : FnScope ["p", "q", "size"] ["p", "q"] (defScope (top 24)) := ⟨rfl, rfl, rfl, by decide +kernel, rfl, by decide +kernel, by decide +kernel⟩
theorem ok_side_by_side  (x : Fx K mg) : OkF P w K mg base CX0 5 "side_by_side" ["p", "q"] (spP K 2 (fun (a : PlanD × PlanD) => match a with | (z0, z1) => [sd z0, sd z1]) (fun a => PA a.1 ∧ PA a.2 ∧ a.1.size + a.2.size ≤ 20) (fun a (r : PlanD) => r.size = a.1.size + a.2.size ∧ PO r (joinPairs a.1.size a.1.prow a.2.size a.2.prow false))) := by
  obtain ⟨fd, F⟩ := x.f_side_by_side
  refine ⟨⟨fd, okT F sc_side_by_side (fun _ => rfl) (fun cdv A0 outer s H E a B hr hp => ?_), F.bindsN fun _ _ _ _ _ _ us hl => match us, hl with | [_, _], _ => rfl⟩, x.g_side_by_side, F.kp⟩
  obtain ⟨v_p, v_q⟩ := a
  try dsimp only at hp ⊢
  have nd := (sc_side_by_side).nd
  exact js_asgv nd (je_add (je_prop x.c_Plan x.p_Plan_size ((ok_Plan_size x).mono (by decide)) hr (je_var .z (⟨_, rfl, rfl, (by trivial), fun r1_11 p1_11 => je_prop x.c_Plan x.p_Plan_size ((ok_Plan_size x).mono (by decide)) hr (je_var (.s .z) (⟨_, rfl, rfl, (by trivial), fun r1_20 p1_20 => fun v_size e_size => ⟨_, (.s (.s .z)), js_expr (jg_of (je_callP ((ok_check_sum x).mono (by decide)) hr pass0 (ja_cons (je_var (.s (.s .z)) (ja_nil (⟨_, rfl, rfl, (by have sp := hp.1.1.1; have sq := hp.2.1.1.1; have lp := prow_len hp.1; have lq := prow_len hp.2.1; try dsimp only at *; omega), fun r2_4 p2_4 => js_ret (by decide) (let ⟨_, mkF, mkB⟩ := ((ok_Plan_init x).mono (by decide)).ex; je_make fz_plan x.mk_Plan mkF hr x.g_Plan mkB pass0 (ja_cons (je_var (.s (.s .z)) (ja_cons (je_new (jn_cat (je_meth0 x.c_Plan x.m_Plan_related ((ok_Plan_related x).mono (by decide)) hr pass0 (je_var .z (⟨rfl, _, rfl, rfl, (by trivial), fun r3_22 p3_22 => je_callP ((ok_moved x).mono (by decide)) hr pass0 (ja_cons (je_meth0 x.c_Plan x.m_Plan_related ((ok_Plan_related x).mono (by decide)) hr pass0 (je_var (.s .z) (⟨rfl, _, rfl, rfl, (by trivial), fun r3_42 p3_42 => ja_cons (je_prop x.c_Plan x.p_Plan_size ((ok_Plan_size x).mono (by decide)) hr (je_var .z (⟨_, rfl, rfl, (by trivial), fun r3_55 p3_55 => ja_nil (⟨⟨_, _⟩, rfl, rfl, (by have sp := hp.1.1.1; have sq := hp.2.1.1.1; have lp := prow_len hp.1; have lq := prow_len hp.2.1; try dsimp only at *; rw [p3_42]; omega), fun r3_36 p3_36 => ⟨(by have sp := hp.1.1.1; have sq := hp.2.1.1.1; have lp := prow_len hp.1; have lq := prow_len hp.2.1; try dsimp only at *; rw [p3_36, p3_22, p3_42, List.length_map]; omega), ⟨_, rfl, ja_nil (⟨⟨_, _⟩, rfl, rfl, (by have sp := hp.1.1.1; have sq := hp.2.1.1.1; have lp := prow_len hp.1; have lq := prow_len hp.2.1; try dsimp only at *; have e : r3_22 ++ r3_36 = joinPairs v_p.size v_p.prow v_q.size v_q.prow false := (by rw [p3_36, p3_22, p3_42, p3_55]; exact join_false); have ac := ac_join (row := false) hp.1.2 hp.2.1.2 (by omega) (by omega); rw [e]; rw [show v_p.size + v_q.size = v_size from (by omega)] at ac; exact ⟨by omega, by omega, ac.inR, ac_loop ac⟩), .nil, fun r3_11 p3_11 => ⟨(), .nil, (by have sp := hp.1.1.1; have sq := hp.2.1.1.1; have lp := prow_len hp.1; have lq := prow_len hp.2.1; try dsimp only at *; have e : r3_22 ++ r3_36 = joinPairs v_p.size v_p.prow v_q.size v_q.prow false := (by rw [p3_36, p3_22, p3_42, p3_55]; exact join_false); have ac := ac_join (row := false) hp.1.2 hp.2.1.2 (by omega) (by omega); rw [e] at p3_11; rw [e_size, p1_11, p1_20] at p3_11; exact ⟨p3_11.1, PO.made p3_11 ac⟩)⟩⟩)⟩⟩⟩)⟩)))⟩))))⟩)))))))))⟩))))))⟩⟩))⟩))))
theorem sc_in_turn : FnScope ["p", "q", "size", "across", "a", "b"] ["p", "q"] (defScope (top 25)) := ⟨rfl, rfl, rfl, by decide +kernel, rfl, by decide +kernel, by decide +kernel⟩
theorem ok_in_turn  (x : Fx K mg) : OkF P w K mg base CX0 5 "in_turn" ["p", "q"] (spP K 2 (fun (a : PlanD × PlanD) => match a with | (z0, z1) => [sd z0, sd z1]) (fun a => PA a.1 ∧ PA a.2 ∧ a.1.size + a.2.size ≤ 20) (fun a (r : PlanD) => r.size = a.1.size + a.2.size ∧ PO r (joinPairs a.1.size a.1.prow a.2.size a.2.prow true))) := by
  obtain ⟨fd, F⟩ := x.f_in_turn
  refine ⟨⟨fd, okT F sc_in_turn (fun _ => rfl) (fun cdv A0 outer s H E a B hr hp => ?_), F.bindsN fun _ _ _ _ _ _ us hl => match us, hl with | [_, _], _ => rfl⟩, x.g_in_turn, F.kp⟩
  obtain ⟨v_p, v_q⟩ := a
  try dsimp only at hp ⊢
  have nd := (sc_in_turn).nd
  exact js_asgv nd (je_add (je_prop x.c_Plan x.p_Plan_size ((ok_Plan_size x).mono (by decide)) hr (je_var .z (⟨_, rfl, rfl, (by trivial), fun r1_11 p1_11 => je_prop x.c_Plan x.p_Plan_size ((ok_Plan_size x).mono (by decide)) hr (je_var (.s .z) (⟨_, rfl, rfl, (by trivial), fun r1_20 p1_20 => fun v_size e_size => ⟨_, (.s (.s .z)), js_expr (jg_of (je_callP ((ok_check_sum x).mono (by decide)) hr pass0 (ja_cons (je_var (.s (.s .z)) (ja_nil (⟨_, rfl, rfl, (by have sp := hp.1.1.1; have sq := hp.2.1.1.1; have lp := prow_len hp.1; have lq := prow_len hp.2.1; try dsimp only at *; omega), fun r2_4 p2_4 => js_newv (jnsf_R1 x.b_range rfl nd (nm := [("a", 4), ("b", 5)]) (vs' := [5]) (show BlkOk ["p", "q", "size", "across", "a", "b"] (defScope (top 25)) _ [("a", 4), ("b", 5)] from ⟨rfl, by decide +kernel, by decide +kernel, by decide +kernel, by decide +kernel⟩) (by decide) (by decide) (fun it acc env => turn2_0 _ _ _ _ _ _ _ _ _) (fun m s H C cl fp => tw_name nd (by decide) (by decide)) (je_prop x.c_Plan x.p_Plan_size ((ok_Plan_size x).mono (by decide)) hr (je_var .z (⟨_, rfl, rfl, (by trivial), fun r3_45 p3_45 => ⟨20, fun a ds => ds = (rgI 0 v_q.size).map fun b => (a, v_p.size + b), (by have sp := hp.1.1.1; have sq := hp.2.1.1.1; have lp := prow_len hp.1; have lq := prow_len hp.2.1; try dsimp only at *; omega), (by have sp := hp.1.1.1; have sq := hp.2.1.1.1; have lp := prow_len hp.1; have lq := prow_len hp.2.1; try dsimp only at *; omega), (fun j hj => by simp at hj; rcases hj with rfl | rfl <;> rfl), fun q0 hq00 hq01 => ⟨_, (.s (.s (.s (.s .z)))), fun m D => jts_nil (⟨fun _ => fun s H C cl fp => jq_levR1 (vs := [5]) x.b_range ⟨_, _, _, _, rfl⟩ rfl rfl (by decide) (by decide) (fun m => tw_name nd (by decide) (by decide)) (fun it => turn2_1 _ _ _ _ _ _ _ _ _) (start2_1 _ _ _ _ _ _ _ _ _) (fun m => je_prop x.c_Plan x.p_Plan_size ((ok_Plan_size x).mono (by decide)) hr (je_var (.s .z) (⟨_, rfl, rfl, (by trivial), fun r3_68 p3_68 => ⟨1, fun b ds => ds = [(q0, v_p.size + b)], (by have sp := hp.1.1.1; have sq := hp.2.1.1.1; have lp := prow_len hp.1; have lq := prow_len hp.2.1; try dsimp only at *; omega), (by have sp := hp.1.1.1; have sq := hp.2.1.1.1; have lp := prow_len hp.1; have lq := prow_len hp.2.1; try dsimp only at *; omega), (fun j hj => by simp at hj; rcases hj with rfl | rfl <;> rfl), (.keep (.keep (.keep (.keep (.drop (.keep .nil)))))), fun q1 hq10 hq11 => ⟨_, (.s (.s (.s (.s (.s .z))))), fun m => jt0 (⟨fun _ => jq_elt rfl (fun m => je_pair (je_var (.s (.s (.s (.s .z)))) (je_add (je_prop x.c_Plan x.p_Plan_size ((ok_Plan_size x).mono (by decide)) hr (je_var .z (⟨_, rfl, rfl, (by trivial), fun r3_18 p3_18 => je_var (.s (.s (.s (.s (.s .z))))) (⟨(by rw [p3_18]), (.keep (.keep (.keep (.keep (.keep (.drop .nil))))))⟩)⟩)))))), fun z => (nomatch z)⟩)⟩, (by intro dss h; have h2 := all2_map h; rw [p3_68] at h2; exact h2)⟩⟩))), fun z => (nomatch z)⟩)⟩, fun dss hds => ⟨_, rfl, fun v_across e_across => ⟨_, (.s (.s (.s .z))), js_ret (by decide) (let ⟨_, mkF, mkB⟩ := ((ok_Plan_init x).mono (by decide)).ex; je_make fz_plan x.mk_Plan mkF hr x.g_Plan mkB pass0 (ja_cons (je_var (.s (.s .z)) (ja_cons (je_new (jn_cat (je_new (jn_cat (je_meth0 x.c_Plan x.m_Plan_related ((ok_Plan_related x).mono (by decide)) hr pass0 (je_var .z (⟨rfl, _, rfl, rfl, (by trivial), fun r4_22 p4_22 => je_callP ((ok_moved x).mono (by decide)) hr pass0 (ja_cons (je_meth0 x.c_Plan x.m_Plan_related ((ok_Plan_related x).mono (by decide)) hr pass0 (je_var (.s .z) (⟨rfl, _, rfl, rfl, (by trivial), fun r4_42 p4_42 => ja_cons (je_prop x.c_Plan x.p_Plan_size ((ok_Plan_size x).mono (by decide)) hr (je_var .z (⟨_, rfl, rfl, (by trivial), fun r4_55 p4_55 => ja_nil (⟨⟨_, _⟩, rfl, rfl, (by have sp := hp.1.1.1; have sq := hp.2.1.1.1; have lp := prow_len hp.1; have lq := prow_len hp.2.1; try dsimp only at *; rw [p4_42]; omega), fun r4_36 p4_36 => ⟨(by have sp := hp.1.1.1; have sq := hp.2.1.1.1; have lp := prow_len hp.1; have lq := prow_len hp.2.1; try dsimp only at *; have ea : v_across = (rgI 0 v_p.size).flatMap (fun a => (rgI 0 v_q.size).map fun b => (a, v_p.size + b)) := (by rw [e_across, all2_flat hds, p3_45]); have la := cross_len (n := v_p.size) (k := v_q.size) (by omega) (by omega); rw [← ea] at la; first | (rw [p4_36, p4_22, p4_42, List.length_map]; omega) | (rw [List.length_append, p4_36, p4_22, p4_42, List.length_map]; omega)), ⟨_, rfl, je_var (.s (.s (.s .z))) (⟨(by have sp := hp.1.1.1; have sq := hp.2.1.1.1; have lp := prow_len hp.1; have lq := prow_len hp.2.1; try dsimp only at *; have ea : v_across = (rgI 0 v_p.size).flatMap (fun a => (rgI 0 v_q.size).map fun b => (a, v_p.size + b)) := (by rw [e_across, all2_flat hds, p3_45]); have la := cross_len (n := v_p.size) (k := v_q.size) (by omega) (by omega); rw [← ea] at la; first | (rw [p4_36, p4_22, p4_42, List.length_map]; omega) | (rw [List.length_append, p4_36, p4_22, p4_42, List.length_map]; omega)), ⟨_, rfl, ja_nil (⟨⟨_, _⟩, rfl, rfl, (by have sp := hp.1.1.1; have sq := hp.2.1.1.1; have lp := prow_len hp.1; have lq := prow_len hp.2.1; try dsimp only at *; have ea : v_across = (rgI 0 v_p.size).flatMap (fun a => (rgI 0 v_q.size).map fun b => (a, v_p.size + b)) := (by rw [e_across, all2_flat hds, p3_45]); have la := cross_len (n := v_p.size) (k := v_q.size) (by omega) (by omega); rw [← ea] at la; have e : r4_22 ++ r4_36 ++ v_across = joinPairs v_p.size v_p.prow v_q.size v_q.prow true := (by rw [p4_36, p4_22, p4_42, p4_55, ea]; exact join_true); have ac := ac_join (row := true) hp.1.2 hp.2.1.2 (by omega) (by omega); rw [e]; rw [show v_p.size + v_q.size = v_size from (by omega)] at ac; exact ⟨by omega, by omega, ac.inR, ac_loop ac⟩), .nil, fun r4_11 p4_11 => ⟨(), .nil, (by have sp := hp.1.1.1; have sq := hp.2.1.1.1; have lp := prow_len hp.1; have lq := prow_len hp.2.1; try dsimp only at *; have ea : v_across = (rgI 0 v_p.size).flatMap (fun a => (rgI 0 v_q.size).map fun b => (a, v_p.size + b)) := (by rw [e_across, all2_flat hds, p3_45]); have la := cross_len (n := v_p.size) (k := v_q.size) (by omega) (by omega); rw [← ea] at la; have e : r4_22 ++ r4_36 ++ v_across = joinPairs v_p.size v_p.prow v_q.size v_q.prow true := (by rw [p4_36, p4_22, p4_42, p4_55, ea]; exact join_true); have ac := ac_join (row := true) hp.1.2 hp.2.1.2 (by omega) (by omega); rw [e] at p4_11; rw [e_size, p1_11, p1_20] at p4_11; exact ⟨p4_11.1, PO.made p4_11 ac⟩)⟩⟩)⟩⟩)⟩⟩⟩)⟩)))⟩))))⟩)))))))))))⟩⟩⟩⟩))) rfl)⟩))))))⟩⟩))⟩))))
theorem sc_put_in : FnScope ["p", "x", "q", "size", "places", "y", "pairs", "a", "b", "c", "d"] ["p", "x", "q"] (defScope (top 27)) := ⟨rfl, rfl, rfl, by decide +kernel, rfl, by decide +kernel, by decide +kernel⟩
theorem ok_put_in  (x : Fx K mg) : OkF P w K mg base CX0 5 "put_in" ["p", "x", "q"] (spP K 3 (fun (a : PlanD × Int × PlanD) => match a with | (z0, z1, z2) => [sd z0, sd z1, sd z2]) (fun a => PA a.1 ∧ PA a.2.2 ∧ (0 ≤ a.2.1 ∧ a.2.1 < a.1.size) ∧ a.1.size + a.2.2.size ≤ 21) (fun a (r : PlanD) => r.size = a.1.size + a.2.2.size - 1 ∧ PO r (putPairs a.1.prow a.2.1 a.2.2.size a.2.2.prow))) := by
  obtain ⟨fd, F⟩ := x.f_put_in
  refine ⟨⟨fd, okT F sc_put_in (fun _ => rfl) (fun cdv A0 outer s H E a B hr hp => ?_), F.bindsN fun _ _ _ _ _ _ us hl => match us, hl with | [_, _, _], _ => rfl⟩, x.g_put_in, F.kp⟩
  obtain ⟨v_p, v_x, v_q⟩ := a
  try dsimp only at hp ⊢
  have nd := (sc_put_in).nd
  exact js_expr (jg_of (je_callP ((ok_check_work x).mono (by decide)) hr pass0 (ja_cons (je_prop x.c_Plan x.p_Plan_size ((ok_Plan_size x).mono (by decide)) hr (je_var .z (⟨_, rfl, rfl, (by trivial), fun r1_15 p1_15 => ja_cons (je_var (.s .z) (ja_nil (⟨⟨_, _⟩, rfl, rfl, (by have sp := hp.1.1.1; have sq := hp.2.1.1.1; have lp := prow_len hp.1; have lq := prow_len hp.2.1; try dsimp only at *; omega), fun r1_4 p1_4 => js_asgv nd (je_sub (je_add (je_prop x.c_Plan x.p_Plan_size ((ok_Plan_size x).mono (by decide)) hr (je_var .z (⟨_, rfl, rfl, (by trivial), fun r2_11 p2_11 => je_prop x.c_Plan x.p_Plan_size ((ok_Plan_size x).mono (by decide)) hr (je_var (.s (.s .z)) (⟨_, rfl, rfl, (by trivial), fun r2_20 p2_20 => je_int (fun v_size e_size => ⟨_, (.s (.s (.s .z))), js_expr (jg_of (je_callP ((ok_check_sum x).mono (by decide)) hr pass0 (ja_cons (je_var (.s (.s (.s .z))) (ja_nil (⟨_, rfl, rfl, (by have sp := hp.1.1.1; have sq := hp.2.1.1.1; have lp := prow_len hp.1; have lq := prow_len hp.2.1; try dsimp only at *; omega), fun r3_4 p3_4 => js_asgv nd (je_new (jnf_R1 x.b_range rfl nd (nm := [("y", 5)]) (vs' := []) (show BlkOk ["p", "x", "q", "size", "places", "y", "pairs", "a", "b", "c", "d"] (defScope (top 27)) _ [("y", 5)] from ⟨rfl, by decide +kernel, by decide +kernel, by decide +kernel, by decide +kernel⟩) (by decide) (by decide) (fun it acc env => turn1_0 _ _ _ _ _ _) (fun m s H C cl fp => tw_name nd (by decide) (by decide)) (je_prop x.c_Plan x.p_Plan_size ((ok_Plan_size x).mono (by decide)) hr (je_var .z (⟨_, rfl, rfl, (by trivial), fun r4_55 p4_55 => ⟨1, fun y ds => ds = [PutE v_x v_q.size y], (by have sp := hp.1.1.1; have sq := hp.2.1.1.1; have lp := prow_len hp.1; have lq := prow_len hp.2.1; try dsimp only at *; omega), (by have sp := hp.1.1.1; have sq := hp.2.1.1.1; have lp := prow_len hp.1; have lq := prow_len hp.2.1; try dsimp only at *; omega), (fun j hj => by simp at hj; subst hj; rfl), fun q0 hq00 hq01 => ⟨_, (.s (.s (.s (.s (.s .z))))), fun m D => jts_nil (⟨fun _ => fun s H C cl fp => jq_elt rfl (fun m => je_callP ((ok_new_numbers x).mono (by decide)) hr pass0 (ja_cons (je_var (.s (.s (.s (.s (.s .z))))) (ja_cons (je_var (.s .z) (ja_cons (je_prop x.c_Plan x.p_Plan_size ((ok_Plan_size x).mono (by decide)) hr (je_var (.s (.s .z)) (⟨_, rfl, rfl, (by trivial), fun r4_32 p4_32 => ja_nil (⟨⟨_, _, _⟩, rfl, rfl, (by have sp := hp.1.1.1; have sq := hp.2.1.1.1; have lp := prow_len hp.1; have lq := prow_len hp.2.1; try dsimp only at *; omega), fun r4_14 p4_14 => ⟨(by rw [p4_14, p4_32]), (.keep (.keep (.keep (.keep (.keep (.drop (.keep (.keep (.keep (.keep (.keep .nil)))))))))))⟩⟩)⟩))))))))), fun z => (nomatch z)⟩)⟩, fun dss hds => ⟨_, rfl, fun v_places e_places => ⟨_, (.s (.s (.s (.s .z)))), js_newv (jnsf_L rfl nd (nm := [("a", 7), ("b", 8), ("c", 9), ("d", 10)]) (vs' := [9, 10]) (show BlkOk ["p", "x", "q", "size", "places", "y", "pairs", "a", "b", "c", "d"] (defScope (top 27)) _ [("a", 7), ("b", 8), ("c", 9), ("d", 10)] from ⟨rfl, by decide +kernel, by decide +kernel, by decide +kernel, by decide +kernel⟩) (by decide) (by decide) (fun it acc env => turn3_0 _ _ _ _ _ _ _ _ _ _ _ _) (fun m s H C cl fp => tw_pair rfl nd (by decide) (by decide) (by decide) (by decide)) (je_meth0 x.c_Plan x.m_Plan_related ((ok_Plan_related x).mono (by decide)) hr pass0 (je_var .z (⟨rfl, _, rfl, rfl, (by trivial), fun r5_32 p5_32 => ⟨400, fun t ds => ds = putF v_x v_q.size t, (by have sp := hp.1.1.1; have sq := hp.2.1.1.1; have lp := prow_len hp.1; have lq := prow_len hp.2.1; try dsimp only at *; rw [p5_32]; omega), (fun j hj => by simp at hj; rcases hj with rfl | rfl | rfl | rfl <;> rfl), fun iq0 q0 hq0 => ⟨_, ⟨_, (.s (.s (.s (.s (.s (.s (.s .z))))))), (.s (.s (.s (.s (.s (.s (.s (.s .z))))))))⟩, fun m D => jts_nil (⟨fun _ => fun s H C cl fp => jq_levL (vs := [9, 10]) ⟨_, _, _, _, rfl⟩ rfl rfl (by decide) (by decide) (fun m => tw_name nd (by decide) (by decide)) (fun it => turn3_1 _ _ _ _ _ _ _ _ _ _ _ _) (start3_1 _ _ _ _ _ _ _ _ _ _ _ _) (fun m => je_ix (je_var (.s (.s (.s (.s .z)))) (je_var (.s (.s (.s (.s (.s (.s (.s .z))))))) (⟨(by have sp := hp.1.1.1; have sq := hp.2.1.1.1; have lp := prow_len hp.1; have lq := prow_len hp.2.1; try dsimp only at *; have pl : v_places = (rgI 0 v_p.size).map (PutE v_x v_q.size) := (by rw [e_places, all2_map hds, p4_55]); have pn : v_places.length = v_p.size.toNat := (by rw [pl, List.length_map, rgI_len]); have m := ((prow_mem hp.1.1).mp (p5_32 ▸ List.mem_of_getElem? hq0 : q0 ∈ v_p.prow)).1; omega), fun d5_53 hd5_53 => ⟨20, fun c ds => ds = (PutE v_x v_q.size q0.2).map fun d => (c, d), (by have sp := hp.1.1.1; have sq := hp.2.1.1.1; have lp := prow_len hp.1; have lq := prow_len hp.2.1; try dsimp only at *; have pl : v_places = (rgI 0 v_p.size).map (PutE v_x v_q.size) := (by rw [e_places, all2_map hds, p4_55]); have pn : v_places.length = v_p.size.toNat := (by rw [pl, List.length_map, rgI_len]); have m := ((prow_mem hp.1.1).mp (p5_32 ▸ List.mem_of_getElem? hq0 : q0 ∈ v_p.prow)).1; have x1 : d5_53 = PutE v_x v_q.size q0.1 := places_at pl m.1 m.2.1 hd5_53; have l1 := putE_len (x := v_x) (y := q0.1) (other := v_q.size) (by omega) (by omega); rw [← x1] at l1; omega), (fun j hj => by simp at hj; rcases hj with rfl | rfl | rfl | rfl <;> rfl), (.keep (.keep (.keep (.keep (.keep (.keep (.keep (.drop (.drop (.keep (.keep .nil))))))))))), fun iq1 q1 hq1 => ⟨_, (.s (.s (.s (.s (.s (.s (.s (.s (.s .z))))))))), fun m => jt0 (⟨fun _ => jq_levL (vs := [10]) ⟨_, _, _, _, rfl⟩ rfl rfl (by decide) (by decide) (fun m => tw_name nd (by decide) (by decide)) (fun it => turn3_2 _ _ _ _ _ _ _ _ _ _ _ _) (start3_2 _ _ _ _ _ _ _ _ _ _ _ _) (fun m => je_ix (je_var (.s (.s (.s (.s .z)))) (je_var (.s (.s (.s (.s (.s (.s (.s (.s .z)))))))) (⟨(by have sp := hp.1.1.1; have sq := hp.2.1.1.1; have lp := prow_len hp.1; have lq := prow_len hp.2.1; try dsimp only at *; have pl : v_places = (rgI 0 v_p.size).map (PutE v_x v_q.size) := (by rw [e_places, all2_map hds, p4_55]); have pn : v_places.length = v_p.size.toNat := (by rw [pl, List.length_map, rgI_len]); have m := ((prow_mem hp.1.1).mp (p5_32 ▸ List.mem_of_getElem? hq0 : q0 ∈ v_p.prow)).1; omega), fun d5_72 hd5_72 => ⟨1, fun d ds => ds = [(q1, d)], (by have sp := hp.1.1.1; have sq := hp.2.1.1.1; have lp := prow_len hp.1; have lq := prow_len hp.2.1; try dsimp only at *; have pl : v_places = (rgI 0 v_p.size).map (PutE v_x v_q.size) := (by rw [e_places, all2_map hds, p4_55]); have pn : v_places.length = v_p.size.toNat := (by rw [pl, List.length_map, rgI_len]); have m := ((prow_mem hp.1.1).mp (p5_32 ▸ List.mem_of_getElem? hq0 : q0 ∈ v_p.prow)).1; have x2 : d5_72 = PutE v_x v_q.size q0.2 := places_at pl m.2.2.1 m.2.2.2 hd5_72; have l2 := putE_len (x := v_x) (y := q0.2) (other := v_q.size) (by omega) (by omega); rw [← x2] at l2; omega), (fun j hj => by simp at hj; rcases hj with rfl | rfl | rfl | rfl <;> rfl), (.keep (.keep (.keep (.keep (.keep (.keep (.keep (.keep (.keep (.drop (.keep .nil))))))))))), fun iq2 q2 hq2 => ⟨_, (.s (.s (.s (.s (.s (.s (.s (.s (.s (.s .z)))))))))), fun m => jt0 (⟨fun _ => jq_elt rfl (fun m => je_pair (je_var (.s (.s (.s (.s (.s (.s (.s (.s (.s .z))))))))) (je_var (.s (.s (.s (.s (.s (.s (.s (.s (.s (.s .z)))))))))) (⟨(by rfl), (.keep (.keep (.keep (.keep (.keep (.keep (.keep (.keep (.keep (.keep (.drop .nil)))))))))))⟩)))), fun z => (nomatch z)⟩)⟩, (by have sp := hp.1.1.1; have sq := hp.2.1.1.1; have lp := prow_len hp.1; have lq := prow_len hp.2.1; try dsimp only at *; have pl : v_places = (rgI 0 v_p.size).map (PutE v_x v_q.size) := (by rw [e_places, all2_map hds, p4_55]); have pn : v_places.length = v_p.size.toNat := (by rw [pl, List.length_map, rgI_len]); have m := ((prow_mem hp.1.1).mp (p5_32 ▸ List.mem_of_getElem? hq0 : q0 ∈ v_p.prow)).1; have x2 : d5_72 = PutE v_x v_q.size q0.2 := places_at pl m.2.2.1 m.2.2.2 hd5_72; have l2 := putE_len (x := v_x) (y := q0.2) (other := v_q.size) (by omega) (by omega); intro dss h; have h2 := all2_map h; rw [x2] at h2; exact h2)⟩⟩)))), fun z => (nomatch z)⟩)⟩, (by have sp := hp.1.1.1; have sq := hp.2.1.1.1; have lp := prow_len hp.1; have lq := prow_len hp.2.1; try dsimp only at *; have pl : v_places = (rgI 0 v_p.size).map (PutE v_x v_q.size) := (by rw [e_places, all2_map hds, p4_55]); have pn : v_places.length = v_p.size.toNat := (by rw [pl, List.length_map, rgI_len]); have m := ((prow_mem hp.1.1).mp (p5_32 ▸ List.mem_of_getElem? hq0 : q0 ∈ v_p.prow)).1; have x1 : d5_53 = PutE v_x v_q.size q0.1 := places_at pl m.1 m.2.1 hd5_53; have l1 := putE_len (x := v_x) (y := q0.1) (other := v_q.size) (by omega) (by omega); intro dss h; have h2 := all2_flat h; rw [x1] at h2; exact h2)⟩⟩)))), fun z => (nomatch z)⟩)⟩, fun dss hds => ⟨_, rfl, fun v_pairs e_pairs => ⟨_, (.s (.s (.s (.s (.s (.s .z)))))), js_ret (by decide) (let ⟨_, mkF, mkB⟩ := ((ok_Plan_init x).mono (by decide)).ex; je_make fz_plan x.mk_Plan mkF hr x.g_Plan mkB pass0 (ja_cons (je_var (.s (.s (.s .z))) (ja_cons (je_new (jn_cat (je_var (.s (.s (.s (.s (.s (.s .z)))))) (je_callP ((ok_moved x).mono (by decide)) hr pass0 (ja_cons (je_meth0 x.c_Plan x.m_Plan_related ((ok_Plan_related x).mono (by decide)) hr pass0 (je_var (.s (.s .z)) (⟨rfl, _, rfl, rfl, (by trivial), fun r6_36 p6_36 => ja_cons (je_var (.s .z) (ja_nil (⟨⟨_, _⟩, rfl, rfl, (by have sp := hp.1.1.1; have sq := hp.2.1.1.1; have lp := prow_len hp.1; have lq := prow_len hp.2.1; try dsimp only at *; rw [p6_36]; omega), fun r6_30 p6_30 => ⟨(by have sp := hp.1.1.1; have sq := hp.2.1.1.1; have lp := prow_len hp.1; have lq := prow_len hp.2.1; try dsimp only at *; have ep : v_pairs = v_p.prow.flatMap (putF v_x v_q.size) := (by rw [e_pairs, all2_flat hds, p5_32]); have lpp := put_len (x := v_x) (k := v_q.size) (ps := v_p.prow) (by omega) (by omega); rw [← ep] at lpp; rw [p6_30, p6_36, List.length_map]; omega), ⟨_, rfl, ja_nil (⟨⟨_, _⟩, rfl, rfl, (by have sp := hp.1.1.1; have sq := hp.2.1.1.1; have lp := prow_len hp.1; have lq := prow_len hp.2.1; try dsimp only at *; have ep : v_pairs = v_p.prow.flatMap (putF v_x v_q.size) := (by rw [e_pairs, all2_flat hds, p5_32]); have lpp := put_len (x := v_x) (k := v_q.size) (ps := v_p.prow) (by omega) (by omega); rw [← ep] at lpp; have e : v_pairs ++ r6_30 = v_p.prow.flatMap (putF v_x v_q.size) ++ v_q.prow.map (fun p => (p.1 + v_x, p.2 + v_x)) := (by rw [ep, p6_30, p6_36]); have ac := ac_put hp.1.2 hp.2.1.2 hp.2.2.1.1 hp.2.2.1.2 sq.1; have ac2 := ac.sub (fun p h => (put_swap p).mp h); rw [e]; rw [show v_p.size + v_q.size - 1 = v_size from (by omega)] at ac2; exact ⟨by omega, by omega, ac2.inR, ac_loop ac2⟩), .nil, fun r6_11 p6_11 => ⟨(), .nil, (by have sp := hp.1.1.1; have sq := hp.2.1.1.1; have lp := prow_len hp.1; have lq := prow_len hp.2.1; try dsimp only at *; have ep : v_pairs = v_p.prow.flatMap (putF v_x v_q.size) := (by rw [e_pairs, all2_flat hds, p5_32]); have lpp := put_len (x := v_x) (k := v_q.size) (ps := v_p.prow) (by omega) (by omega); rw [← ep] at lpp; have e : v_pairs ++ r6_30 = v_p.prow.flatMap (putF v_x v_q.size) ++ v_q.prow.map (fun p => (p.1 + v_x, p.2 + v_x)) := (by rw [ep, p6_30, p6_36]); have ac := ac_put hp.1.2 hp.2.1.2 hp.2.2.1.1 hp.2.2.1.2 sq.1; have ac2 := ac.sub (fun p h => (put_swap p).mp h); rw [e] at p6_11; rw [e_size, p2_11, p2_20] at p6_11; exact ⟨p6_11.1, (PO.made p6_11 ac2).of (by rw [p6_11.1]; exact ac) fun x y => tc_congr fun a b => put_swap _⟩)⟩⟩)⟩⟩⟩)))⟩))))))))))))⟩⟩⟩⟩))) rfl)⟩⟩⟩⟩)))))⟩))))))⟩)⟩))⟩)))))⟩)))⟩))))))
end
end Lw
end
section
namespace Lw
open PySem PySem.Spec PyProof.Rows L2 Tyl
/-- depth and breadth of data -/
def smU : Nat → Uv → Prop
  | 0, u => flatU u = true
  | n + 1, u => (itsU u).length ≤ 100000 ∧ ∀ x ∈ itsU u, smU n x
theorem all2_true {L : List Int} : ∀ {dss : List (List Bool)}, All2 (fun _ ds => ds = [true]) L dss → dss.flatten.all id = true := by
  induction L with
  | nil => intro dss h; match dss, h with
    | [], _ => rfl
  | cons x L ih => intro dss h; match dss, h with
    | ds :: dss, h => rw [List.flatten_cons, List.all_append, ih h.2, h.1]; rfl
section
variable {P : Program} {w : World} {K : Fg} {mg : Str → Option Value} {base : Heap}
theorem sc_law_same : FnScope ["one", "two", "k"] ["one", "two"] (defScope (top 54)) := ⟨rfl, rfl, rfl, by decide +kernel, rfl, by decide +kernel, by decide +kernel⟩
theorem ok_law_same_s  (x : Fx K mg) {n : Nat} (ih : OkF P w K mg base CX0 (n + 1) "_law_same" ["one", "two"] (spP K 2 (fun (a : (UN (n)) × (UN (n))) => match a with | (z0, z1) => [sd z0, sd z1]) (fun a => a.1.u = a.2.u ∧ smU (n) a.1.u) (fun a (r : Bool) => r = true))) : OkF P w K mg base CX0 (n + 2) "_law_same" ["one", "two"] (spP K 2 (fun (a : (UN (n + 1)) × (UN (n + 1))) => match a with | (z0, z1) => [sd z0, sd z1]) (fun a => a.1.u = a.2.u ∧ smU (n + 1) a.1.u) (fun a (r : Bool) => r = true)) := by
  obtain ⟨fd, F⟩ := x.f_law_same
  refine ⟨⟨fd, okT F sc_law_same (fun _ => rfl) (fun cdv A0 outer s H E a B hr hp => ?_), F.bindsN fun _ _ _ _ _ _ us hl => match us, hl with | [_, _], _ => rfl⟩, x.g_law_same, F.kp⟩
  obtain ⟨v_one, v_two⟩ := a
  try dsimp only at hp ⊢
  have nd := (sc_law_same).nd
  have hps : PassesOwn (model (cxOf CX0 P w K mg base ["one", "two", "k"] "_law_same" (defScope (top 54)) (He.ga K "_law_same") cdv A0 outer s H E).prog (cxOf CX0 P w K mg base ["one", "two", "k"] "_law_same" (defScope (top 54)) (He.ga K "_law_same") cdv A0 outer s H E).w) (cxOf CX0 P w K mg base ["one", "two", "k"] "_law_same" (defScope (top 54)) (He.ga K "_law_same") cdv A0 outer s H E).A (cxOf CX0 P w K mg base ["one", "two", "k"] "_law_same" (defScope (top 54)) (He.ga K "_law_same") cdv A0 outer s H E).env (cxOf CX0 P w K mg base ["one", "two", "k"] "_law_same" (defScope (top 54)) (He.ga K "_law_same") cdv A0 outer s H E).xe := PassesOwn.leaving
  exact js_ifR (jt_w (jw_or (jt_bool (je_isU (T := "bool") (by decide) (by decide +kernel) (by decide) x.b_isinstance x.b_bool (je_var .z (⟨fun t1_7 => ⟨fun _ => ⟨fun _ => js_ret (by decide) (je_and (je_isU (T := "bool") (by decide) (by decide +kernel) (by decide) x.b_isinstance x.b_bool (je_var .z (⟨fun b2_15 => ⟨(), .nil, (by clear hps; obtain ⟨u⟩ := v_one; obtain ⟨u2⟩ := v_two; have h1 : u = u2 := hp.1; have h2 : smU (n + 1) u := hp.2; clear hp; subst h1; (cases u <;> simp_all [isU, isN, seqU, flatU, smU, itsU]))⟩, fun b2_15 => je_and (je_isU (T := "bool") (by decide) (by decide +kernel) (by decide) x.b_isinstance x.b_bool (je_var (.s .z) (⟨fun b2_15 => ⟨(), .nil, (by clear hps; obtain ⟨u⟩ := v_one; obtain ⟨u2⟩ := v_two; have h1 : u = u2 := hp.1; have h2 : smU (n + 1) u := hp.2; clear hp; subst h1; (cases u <;> simp_all [isU, isN, seqU, flatU, smU, itsU]))⟩, fun b2_15 => je_one (je_eqU (je_var .z (je_var (.s .z) (⟨(by clear hps; obtain ⟨u⟩ := v_one; obtain ⟨u2⟩ := v_two; have h1 : u = u2 := hp.1; have h2 : smU (n + 1) u := hp.2; clear hp; subst h1; (cases u <;> simp_all [isU, isN, seqU, flatU, smU, itsU])), ⟨(), .nil, (by clear hps; obtain ⟨u⟩ := v_one; obtain ⟨u2⟩ := v_two; have h1 : u = u2 := hp.1; have h2 : smU (n + 1) u := hp.2; clear hp; subst h1; (cases u <;> simp_all [isU, isN, seqU, flatU, smU, itsU]))⟩⟩))))⟩)))⟩)))), fun z => (nomatch z)⟩, fun z => (nomatch z)⟩, fun t1_7 => ⟨fun z => (nomatch z), fun _ => jw_or1 (jt_bool (je_isU (T := "bool") (by decide) (by decide +kernel) (by decide) x.b_isinstance x.b_bool (je_var (.s .z) (⟨fun t1_32 => ⟨fun _ => js_ret (by decide) (je_and (je_isU (T := "bool") (by decide) (by decide +kernel) (by decide) x.b_isinstance x.b_bool (je_var .z (⟨fun b2_15 => ⟨(), .nil, (by clear hps; obtain ⟨u⟩ := v_one; obtain ⟨u2⟩ := v_two; have h1 : u = u2 := hp.1; have h2 : smU (n + 1) u := hp.2; clear hp; subst h1; (cases u <;> simp_all [isU, isN, seqU, flatU, smU, itsU]))⟩, fun b2_15 => je_and (je_isU (T := "bool") (by decide) (by decide +kernel) (by decide) x.b_isinstance x.b_bool (je_var (.s .z) (⟨fun b2_15 => ⟨(), .nil, (by clear hps; obtain ⟨u⟩ := v_one; obtain ⟨u2⟩ := v_two; have h1 : u = u2 := hp.1; have h2 : smU (n + 1) u := hp.2; clear hp; subst h1; (cases u <;> simp_all [isU, isN, seqU, flatU, smU, itsU]))⟩, fun b2_15 => je_one (je_eqU (je_var .z (je_var (.s .z) (⟨(by clear hps; obtain ⟨u⟩ := v_one; obtain ⟨u2⟩ := v_two; have h1 : u = u2 := hp.1; have h2 : smU (n + 1) u := hp.2; clear hp; subst h1; (cases u <;> simp_all [isU, isN, seqU, flatU, smU, itsU])), ⟨(), .nil, (by clear hps; obtain ⟨u⟩ := v_one; obtain ⟨u2⟩ := v_two; have h1 : u = u2 := hp.1; have h2 : smU (n + 1) u := hp.2; clear hp; subst h1; (cases u <;> simp_all [isU, isN, seqU, flatU, smU, itsU]))⟩⟩))))⟩)))⟩)))), fun z => (nomatch z)⟩, fun t1_32 => ⟨fun z => (nomatch z), fun _ => js_ifR (jt_w (jw_or (jt_isNU (je_var .z (⟨fun t3_7 => ⟨fun _ => ⟨fun _ => js_ret (by decide) (je_and (je_isNU (je_var .z (⟨fun b4_15 => ⟨(), .nil, (by clear hps; obtain ⟨u⟩ := v_one; obtain ⟨u2⟩ := v_two; have h1 : u = u2 := hp.1; have h2 : smU (n + 1) u := hp.2; clear hp; subst h1; (cases u <;> simp_all [isU, isN, seqU, flatU, smU, itsU]))⟩, fun b4_15 => je_one (je_isNU (je_var (.s .z) (⟨(), .nil, (by clear hps; obtain ⟨u⟩ := v_one; obtain ⟨u2⟩ := v_two; have h1 : u = u2 := hp.1; have h2 : smU (n + 1) u := hp.2; clear hp; subst h1; (cases u <;> simp_all [isU, isN, seqU, flatU, smU, itsU]))⟩)))⟩)))), fun z => (nomatch z)⟩, fun z => (nomatch z)⟩, fun t3_7 => ⟨fun z => (nomatch z), fun _ => jw_or1 (jt_isNU (je_var (.s .z) (⟨fun t3_22 => ⟨fun _ => js_ret (by decide) (je_and (je_isNU (je_var .z (⟨fun b4_15 => ⟨(), .nil, (by clear hps; obtain ⟨u⟩ := v_one; obtain ⟨u2⟩ := v_two; have h1 : u = u2 := hp.1; have h2 : smU (n + 1) u := hp.2; clear hp; subst h1; (cases u <;> simp_all [isU, isN, seqU, flatU, smU, itsU]))⟩, fun b4_15 => je_one (je_isNU (je_var (.s .z) (⟨(), .nil, (by clear hps; obtain ⟨u⟩ := v_one; obtain ⟨u2⟩ := v_two; have h1 : u = u2 := hp.1; have h2 : smU (n + 1) u := hp.2; clear hp; subst h1; (cases u <;> simp_all [isU, isN, seqU, flatU, smU, itsU]))⟩)))⟩)))), fun z => (nomatch z)⟩, fun t3_22 => ⟨fun z => (nomatch z), fun _ => js_ifR (jt_bool (je_isU (T := "int") (by decide) (by decide +kernel) (by decide) x.b_isinstance x.b_int (je_var .z (⟨fun t5_7 => ⟨fun _ => js_ret (by decide) (je_and (je_isU (T := "int") (by decide) (by decide +kernel) (by decide) x.b_isinstance x.b_int (je_var (.s .z) (⟨fun b6_15 => ⟨(), .nil, (by clear hps; obtain ⟨u⟩ := v_one; obtain ⟨u2⟩ := v_two; have h1 : u = u2 := hp.1; have h2 : smU (n + 1) u := hp.2; clear hp; subst h1; (cases u <;> simp_all [isU, isN, seqU, flatU, smU, itsU]))⟩, fun b6_15 => je_one (je_eqU (je_var .z (je_var (.s .z) (⟨(by clear hps; obtain ⟨u⟩ := v_one; obtain ⟨u2⟩ := v_two; have h1 : u = u2 := hp.1; have h2 : smU (n + 1) u := hp.2; clear hp; subst h1; (cases u <;> simp_all [isU, isN, seqU, flatU, smU, itsU])), ⟨(), .nil, (by clear hps; obtain ⟨u⟩ := v_one; obtain ⟨u2⟩ := v_two; have h1 : u = u2 := hp.1; have h2 : smU (n + 1) u := hp.2; clear hp; subst h1; (cases u <;> simp_all [isU, isN, seqU, flatU, smU, itsU]))⟩⟩))))⟩)))), fun z => (nomatch z)⟩, fun t5_7 => ⟨fun z => (nomatch z), fun _ => js_ifR (jt_bool (je_isU (T := "str") (by decide) (by decide +kernel) (by decide) x.b_isinstance x.b_str (je_var .z (⟨fun t7_7 => ⟨fun _ => js_ret (by decide) (je_and (je_isU (T := "str") (by decide) (by decide +kernel) (by decide) x.b_isinstance x.b_str (je_var (.s .z) (⟨fun b8_15 => ⟨(), .nil, (by clear hps; obtain ⟨u⟩ := v_one; obtain ⟨u2⟩ := v_two; have h1 : u = u2 := hp.1; have h2 : smU (n + 1) u := hp.2; clear hp; subst h1; (cases u <;> simp_all [isU, isN, seqU, flatU, smU, itsU]))⟩, fun b8_15 => je_one (je_eqU (je_var .z (je_var (.s .z) (⟨(by clear hps; obtain ⟨u⟩ := v_one; obtain ⟨u2⟩ := v_two; have h1 : u = u2 := hp.1; have h2 : smU (n + 1) u := hp.2; clear hp; subst h1; (cases u <;> simp_all [isU, isN, seqU, flatU, smU, itsU])), ⟨(), .nil, (by clear hps; obtain ⟨u⟩ := v_one; obtain ⟨u2⟩ := v_two; have h1 : u = u2 := hp.1; have h2 : smU (n + 1) u := hp.2; clear hp; subst h1; (cases u <;> simp_all [isU, isN, seqU, flatU, smU, itsU]))⟩⟩))))⟩)))), fun z => (nomatch z)⟩, fun t7_7 => ⟨fun z => (nomatch z), fun _ => js_ifR (jt_w (jw_and (jt_bool (je_isU (T := "list") (by decide) (by decide +kernel) (by decide) x.b_isinstance x.b_list (je_var .z (⟨fun t9_7 => ⟨fun z => (nomatch z), fun _ => jw_and1 (jt_not (jt_bool (je_isU (T := "list") (by decide) (by decide +kernel) (by decide) x.b_isinstance x.b_list (je_var (.s .z) (⟨fun t9_38 => ⟨fun z => (nomatch z), fun _ => js_ifR (jt_w (jw_and (jt_bool (je_isU (T := "tuple") (by decide) (by decide +kernel) (by decide) x.b_isinstance x.b_tuple (je_var .z (⟨fun t11_7 => ⟨fun z => (nomatch z), fun _ => jw_and1 (jt_not (jt_bool (je_isU (T := "tuple") (by decide) (by decide +kernel) (by decide) x.b_isinstance x.b_tuple (je_var (.s .z) (⟨fun t11_39 => ⟨fun z => (nomatch z), fun _ => js_ifR (jt_w (jw_or (jt_not (jt_bool (je_isLT x.b_isinstance x.b_list x.b_tuple (je_var .z (⟨fun t13_11 => ⟨fun z => (nomatch z), fun _ => jw_or1 (jt_ne (je_lenU x.b_len (je_var .z (⟨(by clear hps; obtain ⟨u⟩ := v_one; obtain ⟨u2⟩ := v_two; have h1 : u = u2 := hp.1; have h2 : smU (n + 1) u := hp.2; clear hp; subst h1; (cases u <;> simp_all [isU, isN, seqU, flatU, smU, itsU])), je_lenU x.b_len (je_var (.s .z) (⟨(by clear hps; obtain ⟨u⟩ := v_one; obtain ⟨u2⟩ := v_two; have h1 : u = u2 := hp.1; have h2 : smU (n + 1) u := hp.2; clear hp; subst h1; (cases u <;> simp_all [isU, isN, seqU, flatU, smU, itsU])), ⟨fun t13_45 => ⟨fun _ => js_ret (by decide) (je_bl (⟨(), .nil, (by clear hps; obtain ⟨u⟩ := v_one; obtain ⟨u2⟩ := v_two; have h1 : u = u2 := hp.1; have h2 : smU (n + 1) u := hp.2; clear hp; subst h1; (cases u <;> simp_all [isU, isN, seqU, flatU, smU, itsU]))⟩)), fun z => (nomatch z)⟩, fun t13_45 => ⟨fun z => (nomatch z), fun _ => js_ret (by decide) (je_all x.b_all rfl (je_new (jnf_R1 x.b_range rfl nd (nm := [("k", 2)]) (vs' := []) (show BlkOk ["one", "two", "k"] (defScope (top 54)) _ [("k", 2)] from ⟨rfl, by decide +kernel, by decide +kernel, by decide +kernel, by decide +kernel⟩) (by decide) (by decide) (fun it acc env => turn1_0 _ _ _ _ _ _) (fun m s H C cl fp => tw_name nd (by decide) (by decide)) (je_lenU x.b_len (je_var .z (⟨(by clear hps; obtain ⟨u⟩ := v_one; obtain ⟨u2⟩ := v_two; have h1 : u = u2 := hp.1; have h2 : smU (n + 1) u := hp.2; clear hp; subst h1; (cases u <;> simp_all [isU, isN, seqU, flatU, smU, itsU])), ⟨1, fun _ ds => ds = [true], (by have := hp.2.1; dsimp only at *; omega), (by have := hp.2.1; dsimp only at *; omega), (fun j hj => by simp at hj; subst hj; rfl), fun q0 hq00 hq01 => ⟨_, (.s (.s .z)), fun m D => jts_nil (⟨fun _ => fun s H C cl fp => jq_elt rfl (fun m => je_callP ih hr pass0 (ja_cons (je_ixU (je_var .z (je_var (.s (.s .z)) (⟨(by have hs : seqU v_one.u = true := (by clear hps; obtain ⟨u⟩ := v_one; obtain ⟨u2⟩ := v_two; have h1 : u = u2 := hp.1; have h2 : smU (n + 1) u := hp.2; clear hp; subst h1; (cases u <;> simp_all [isU, isN, seqU, flatU, smU, itsU])); exact ⟨hs, hq00, hq01⟩), fun d15_26 hd15_26 => ja_cons (je_ixU (je_var (.s .z) (je_var (.s (.s .z)) (⟨(by have hs : seqU v_one.u = true := (by clear hps; obtain ⟨u⟩ := v_one; obtain ⟨u2⟩ := v_two; have h1 : u = u2 := hp.1; have h2 : smU (n + 1) u := hp.2; clear hp; subst h1; (cases u <;> simp_all [isU, isN, seqU, flatU, smU, itsU])); have h1 : v_one.u = v_two.u := hp.1; rw [← h1]; exact ⟨hs, hq00, hq01⟩), fun d15_34 hd15_34 => ja_nil (⟨⟨_, _⟩, rfl, rfl, (by have h1 : v_one.u = v_two.u := hp.1; rw [← h1] at hd15_34; exact ⟨Option.some.inj (hd15_26.symm.trans hd15_34), hp.2.2 _ (List.mem_of_getElem? hd15_26)⟩), fun r15_16 p15_16 => ⟨(by rw [p15_16]), (.keep (.keep (.drop .nil)))⟩⟩)⟩))))⟩)))))), fun z => (nomatch z)⟩)⟩, fun dss hds => ⟨_, rfl, ⟨(), .nil, (by exact all2_true hds)⟩⟩⟩⟩))))))⟩⟩⟩))⟩))))⟩, fun t13_11 => ⟨fun _ => ⟨fun _ => js_ret (by decide) (je_bl (⟨(), .nil, (by clear hps; obtain ⟨u⟩ := v_one; obtain ⟨u2⟩ := v_two; have h1 : u = u2 := hp.1; have h2 : smU (n + 1) u := hp.2; clear hp; subst h1; (cases u <;> simp_all [isU, isN, seqU, flatU, smU, itsU]))⟩)), fun z => (nomatch z)⟩, fun z => (nomatch z)⟩⟩)))))))⟩, fun t11_39 => ⟨fun _ => js_ret (by decide) (je_bl (⟨(), .nil, (by clear hps; obtain ⟨u⟩ := v_one; obtain ⟨u2⟩ := v_two; have h1 : u = u2 := hp.1; have h2 : smU (n + 1) u := hp.2; clear hp; subst h1; (cases u <;> simp_all [isU, isN, seqU, flatU, smU, itsU]))⟩)), fun z => (nomatch z)⟩⟩)))))⟩, fun t11_7 => ⟨fun _ => ⟨fun z => (nomatch z), fun _ => js_ifR (jt_w (jw_or (jt_not (jt_bool (je_isLT x.b_isinstance x.b_list x.b_tuple (je_var .z (⟨fun t13_11 => ⟨fun z => (nomatch z), fun _ => jw_or1 (jt_ne (je_lenU x.b_len (je_var .z (⟨(by clear hps; obtain ⟨u⟩ := v_one; obtain ⟨u2⟩ := v_two; have h1 : u = u2 := hp.1; have h2 : smU (n + 1) u := hp.2; clear hp; subst h1; (cases u <;> simp_all [isU, isN, seqU, flatU, smU, itsU])), je_lenU x.b_len (je_var (.s .z) (⟨(by clear hps; obtain ⟨u⟩ := v_one; obtain ⟨u2⟩ := v_two; have h1 : u = u2 := hp.1; have h2 : smU (n + 1) u := hp.2; clear hp; subst h1; (cases u <;> simp_all [isU, isN, seqU, flatU, smU, itsU])), ⟨fun t13_45 => ⟨fun _ => js_ret (by decide) (je_bl (⟨(), .nil, (by clear hps; obtain ⟨u⟩ := v_one; obtain ⟨u2⟩ := v_two; have h1 : u = u2 := hp.1; have h2 : smU (n + 1) u := hp.2; clear hp; subst h1; (cases u <;> simp_all [isU, isN, seqU, flatU, smU, itsU]))⟩)), fun z => (nomatch z)⟩, fun t13_45 => ⟨fun z => (nomatch z), fun _ => js_ret (by decide) (je_all x.b_all rfl (je_new (jnf_R1 x.b_range rfl nd (nm := [("k", 2)]) (vs' := []) (show BlkOk ["one", "two", "k"] (defScope (top 54)) _ [("k", 2)] from ⟨rfl, by decide +kernel, by decide +kernel, by decide +kernel, by decide +kernel⟩) (by decide) (by decide) (fun it acc env => turn1_0 _ _ _ _ _ _) (fun m s H C cl fp => tw_name nd (by decide) (by decide)) (je_lenU x.b_len (je_var .z (⟨(by clear hps; obtain ⟨u⟩ := v_one; obtain ⟨u2⟩ := v_two; have h1 : u = u2 := hp.1; have h2 : smU (n + 1) u := hp.2; clear hp; subst h1; (cases u <;> simp_all [isU, isN, seqU, flatU, smU, itsU])), ⟨1, fun _ ds => ds = [true], (by have := hp.2.1; dsimp only at *; omega), (by have := hp.2.1; dsimp only at *; omega), (fun j hj => by simp at hj; subst hj; rfl), fun q0 hq00 hq01 => ⟨_, (.s (.s .z)), fun m D => jts_nil (⟨fun _ => fun s H C cl fp => jq_elt rfl (fun m => je_callP ih hr pass0 (ja_cons (je_ixU (je_var .z (je_var (.s (.s .z)) (⟨(by have hs : seqU v_one.u = true := (by clear hps; obtain ⟨u⟩ := v_one; obtain ⟨u2⟩ := v_two; have h1 : u = u2 := hp.1; have h2 : smU (n + 1) u := hp.2; clear hp; subst h1; (cases u <;> simp_all [isU, isN, seqU, flatU, smU, itsU])); exact ⟨hs, hq00, hq01⟩), fun d15_26 hd15_26 => ja_cons (je_ixU (je_var (.s .z) (je_var (.s (.s .z)) (⟨(by have hs : seqU v_one.u = true := (by clear hps; obtain ⟨u⟩ := v_one; obtain ⟨u2⟩ := v_two; have h1 : u = u2 := hp.1; have h2 : smU (n + 1) u := hp.2; clear hp; subst h1; (cases u <;> simp_all [isU, isN, seqU, flatU, smU, itsU])); have h1 : v_one.u = v_two.u := hp.1; rw [← h1]; exact ⟨hs, hq00, hq01⟩), fun d15_34 hd15_34 => ja_nil (⟨⟨_, _⟩, rfl, rfl, (by have h1 : v_one.u = v_two.u := hp.1; rw [← h1] at hd15_34; exact ⟨Option.some.inj (hd15_26.symm.trans hd15_34), hp.2.2 _ (List.mem_of_getElem? hd15_26)⟩), fun r15_16 p15_16 => ⟨(by rw [p15_16]), (.keep (.keep (.drop .nil)))⟩⟩)⟩))))⟩)))))), fun z => (nomatch z)⟩)⟩, fun dss hds => ⟨_, rfl, ⟨(), .nil, (by exact all2_true hds)⟩⟩⟩⟩))))))⟩⟩⟩))⟩))))⟩, fun t13_11 => ⟨fun _ => ⟨fun _ => js_ret (by decide) (je_bl (⟨(), .nil, (by clear hps; obtain ⟨u⟩ := v_one; obtain ⟨u2⟩ := v_two; have h1 : u = u2 := hp.1; have h2 : smU (n + 1) u := hp.2; clear hp; subst h1; (cases u <;> simp_all [isU, isN, seqU, flatU, smU, itsU]))⟩)), fun z => (nomatch z)⟩, fun z => (nomatch z)⟩⟩)))))))⟩, fun z => (nomatch z)⟩⟩))))))⟩, fun t9_38 => ⟨fun _ => js_ret (by decide) (je_bl (⟨(), .nil, (by clear hps; obtain ⟨u⟩ := v_one; obtain ⟨u2⟩ := v_two; have h1 : u = u2 := hp.1; have h2 : smU (n + 1) u := hp.2; clear hp; subst h1; (cases u <;> simp_all [isU, isN, seqU, flatU, smU, itsU]))⟩)), fun z => (nomatch z)⟩⟩)))))⟩, fun t9_7 => ⟨fun _ => ⟨fun z => (nomatch z), fun _ => js_ifR (jt_w (jw_and (jt_bool (je_isU (T := "tuple") (by decide) (by decide +kernel) (by decide) x.b_isinstance x.b_tuple (je_var .z (⟨fun t11_7 => ⟨fun z => (nomatch z), fun _ => jw_and1 (jt_not (jt_bool (je_isU (T := "tuple") (by decide) (by decide +kernel) (by decide) x.b_isinstance x.b_tuple (je_var (.s .z) (⟨fun t11_39 => ⟨fun z => (nomatch z), fun _ => js_ifR (jt_w (jw_or (jt_not (jt_bool (je_isLT x.b_isinstance x.b_list x.b_tuple (je_var .z (⟨fun t13_11 => ⟨fun z => (nomatch z), fun _ => jw_or1 (jt_ne (je_lenU x.b_len (je_var .z (⟨(by clear hps; obtain ⟨u⟩ := v_one; obtain ⟨u2⟩ := v_two; have h1 : u = u2 := hp.1; have h2 : smU (n + 1) u := hp.2; clear hp; subst h1; (cases u <;> simp_all [isU, isN, seqU, flatU, smU, itsU])), je_lenU x.b_len (je_var (.s .z) (⟨(by clear hps; obtain ⟨u⟩ := v_one; obtain ⟨u2⟩ := v_two; have h1 : u = u2 := hp.1; have h2 : smU (n + 1) u := hp.2; clear hp; subst h1; (cases u <;> simp_all [isU, isN, seqU, flatU, smU, itsU])), ⟨fun t13_45 => ⟨fun _ => js_ret (by decide) (je_bl (⟨(), .nil, (by clear hps; obtain ⟨u⟩ := v_one; obtain ⟨u2⟩ := v_two; have h1 : u = u2 := hp.1; have h2 : smU (n + 1) u := hp.2; clear hp; subst h1; (cases u <;> simp_all [isU, isN, seqU, flatU, smU, itsU]))⟩)), fun z => (nomatch z)⟩, fun t13_45 => ⟨fun z => (nomatch z), fun _ => js_ret (by decide) (je_all x.b_all rfl (je_new (jnf_R1 x.b_range rfl nd (nm := [("k", 2)]) (vs' := []) (show BlkOk ["one", "two", "k"] (defScope (top 54)) _ [("k", 2)] from ⟨rfl, by decide +kernel, by decide +kernel, by decide +kernel, by decide +kernel⟩) (by decide) (by decide) (fun it acc env => turn1_0 _ _ _ _ _ _) (fun m s H C cl fp => tw_name nd (by decide) (by decide)) (je_lenU x.b_len (je_var .z (⟨(by clear hps; obtain ⟨u⟩ := v_one; obtain ⟨u2⟩ := v_two; have h1 : u = u2 := hp.1; have h2 : smU (n + 1) u := hp.2; clear hp; subst h1; (cases u <;> simp_all [isU, isN, seqU, flatU, smU, itsU])), ⟨1, fun _ ds => ds = [true], (by have := hp.2.1; dsimp only at *; omega), (by have := hp.2.1; dsimp only at *; omega), (fun j hj => by simp at hj; subst hj; rfl), fun q0 hq00 hq01 => ⟨_, (.s (.s .z)), fun m D => jts_nil (⟨fun _ => fun s H C cl fp => jq_elt rfl (fun m => je_callP ih hr pass0 (ja_cons (je_ixU (je_var .z (je_var (.s (.s .z)) (⟨(by have hs : seqU v_one.u = true := (by clear hps; obtain ⟨u⟩ := v_one; obtain ⟨u2⟩ := v_two; have h1 : u = u2 := hp.1; have h2 : smU (n + 1) u := hp.2; clear hp; subst h1; (cases u <;> simp_all [isU, isN, seqU, flatU, smU, itsU])); exact ⟨hs, hq00, hq01⟩), fun d15_26 hd15_26 => ja_cons (je_ixU (je_var (.s .z) (je_var (.s (.s .z)) (⟨(by have hs : seqU v_one.u = true := (by clear hps; obtain ⟨u⟩ := v_one; obtain ⟨u2⟩ := v_two; have h1 : u = u2 := hp.1; have h2 : smU (n + 1) u := hp.2; clear hp; subst h1; (cases u <;> simp_all [isU, isN, seqU, flatU, smU, itsU])); have h1 : v_one.u = v_two.u := hp.1; rw [← h1]; exact ⟨hs, hq00, hq01⟩), fun d15_34 hd15_34 => ja_nil (⟨⟨_, _⟩, rfl, rfl, (by have h1 : v_one.u = v_two.u := hp.1; rw [← h1] at hd15_34; exact ⟨Option.some.inj (hd15_26.symm.trans hd15_34), hp.2.2 _ (List.mem_of_getElem? hd15_26)⟩), fun r15_16 p15_16 => ⟨(by rw [p15_16]), (.keep (.keep (.drop .nil)))⟩⟩)⟩))))⟩)))))), fun z => (nomatch z)⟩)⟩, fun dss hds => ⟨_, rfl, ⟨(), .nil, (by exact all2_true hds)⟩⟩⟩⟩))))))⟩⟩⟩))⟩))))⟩, fun t13_11 => ⟨fun _ => ⟨fun _ => js_ret (by decide) (je_bl (⟨(), .nil, (by clear hps; obtain ⟨u⟩ := v_one; obtain ⟨u2⟩ := v_two; have h1 : u = u2 := hp.1; have h2 : smU (n + 1) u := hp.2; clear hp; subst h1; (cases u <;> simp_all [isU, isN, seqU, flatU, smU, itsU]))⟩)), fun z => (nomatch z)⟩, fun z => (nomatch z)⟩⟩)))))))⟩, fun t11_39 => ⟨fun _ => js_ret (by decide) (je_bl (⟨(), .nil, (by clear hps; obtain ⟨u⟩ := v_one; obtain ⟨u2⟩ := v_two; have h1 : u = u2 := hp.1; have h2 : smU (n + 1) u := hp.2; clear hp; subst h1; (cases u <;> simp_all [isU, isN, seqU, flatU, smU, itsU]))⟩)), fun z => (nomatch z)⟩⟩)))))⟩, fun t11_7 => ⟨fun _ => ⟨fun z => (nomatch z), fun _ => js_ifR (jt_w (jw_or (jt_not (jt_bool (je_isLT x.b_isinstance x.b_list x.b_tuple (je_var .z (⟨fun t13_11 => ⟨fun z => (nomatch z), fun _ => jw_or1 (jt_ne (je_lenU x.b_len (je_var .z (⟨(by clear hps; obtain ⟨u⟩ := v_one; obtain ⟨u2⟩ := v_two; have h1 : u = u2 := hp.1; have h2 : smU (n + 1) u := hp.2; clear hp; subst h1; (cases u <;> simp_all [isU, isN, seqU, flatU, smU, itsU])), je_lenU x.b_len (je_var (.s .z) (⟨(by clear hps; obtain ⟨u⟩ := v_one; obtain ⟨u2⟩ := v_two; have h1 : u = u2 := hp.1; have h2 : smU (n + 1) u := hp.2; clear hp; subst h1; (cases u <;> simp_all [isU, isN, seqU, flatU, smU, itsU])), ⟨fun t13_45 => ⟨fun _ => js_ret (by decide) (je_bl (⟨(), .nil, (by clear hps; obtain ⟨u⟩ := v_one; obtain ⟨u2⟩ := v_two; have h1 : u = u2 := hp.1; have h2 : smU (n + 1) u := hp.2; clear hp; subst h1; (cases u <;> simp_all [isU, isN, seqU, flatU, smU, itsU]))⟩)), fun z => (nomatch z)⟩, fun t13_45 => ⟨fun z => (nomatch z), fun _ => js_ret (by decide) (je_all x.b_all rfl (je_new (jnf_R1 x.b_range rfl nd (nm := [("k", 2)]) (vs' := []) (show BlkOk ["one", "two", "k"] (defScope (top 54)) _ [("k", 2)] from ⟨rfl, by decide +kernel, by decide +kernel, by decide +kernel, by decide +kernel⟩) (by decide) (by decide) (fun it acc env => turn1_0 _ _ _ _ _ _) (fun m s H C cl fp => tw_name nd (by decide) (by decide)) (je_lenU x.b_len (je_var .z (⟨(by clear hps; obtain ⟨u⟩ := v_one; obtain ⟨u2⟩ := v_two; have h1 : u = u2 := hp.1; have h2 : smU (n + 1) u := hp.2; clear hp; subst h1; (cases u <;> simp_all [isU, isN, seqU, flatU, smU, itsU])), ⟨1, fun _ ds => ds = [true], (by have := hp.2.1; dsimp only at *; omega), (by have := hp.2.1; dsimp only at *; omega), (fun j hj => by simp at hj; subst hj; rfl), fun q0 hq00 hq01 => ⟨_, (.s (.s .z)), fun m D => jts_nil (⟨fun _ => fun s H C cl fp => jq_elt rfl (fun m => je_callP ih hr pass0 (ja_cons (je_ixU (je_var .z (je_var (.s (.s .z)) (⟨(by have hs : seqU v_one.u = true := (by clear hps; obtain ⟨u⟩ := v_one; obtain ⟨u2⟩ := v_two; have h1 : u = u2 := hp.1; have h2 : smU (n + 1) u := hp.2; clear hp; subst h1; (cases u <;> simp_all [isU, isN, seqU, flatU, smU, itsU])); exact ⟨hs, hq00, hq01⟩), fun d15_26 hd15_26 => ja_cons (je_ixU (je_var (.s .z) (je_var (.s (.s .z)) (⟨(by have hs : seqU v_one.u = true := (by clear hps; obtain ⟨u⟩ := v_one; obtain ⟨u2⟩ := v_two; have h1 : u = u2 := hp.1; have h2 : smU (n + 1) u := hp.2; clear hp; subst h1; (cases u <;> simp_all [isU, isN, seqU, flatU, smU, itsU])); have h1 : v_one.u = v_two.u := hp.1; rw [← h1]; exact ⟨hs, hq00, hq01⟩), fun d15_34 hd15_34 => ja_nil (⟨⟨_, _⟩, rfl, rfl, (by have h1 : v_one.u = v_two.u := hp.1; rw [← h1] at hd15_34; exact ⟨Option.some.inj (hd15_26.symm.trans hd15_34), hp.2.2 _ (List.mem_of_getElem? hd15_26)⟩), fun r15_16 p15_16 => ⟨(by rw [p15_16]), (.keep (.keep (.drop .nil)))⟩⟩)⟩))))⟩)))))), fun z => (nomatch z)⟩)⟩, fun dss hds => ⟨_, rfl, ⟨(), .nil, (by exact all2_true hds)⟩⟩⟩⟩))))))⟩⟩⟩))⟩))))⟩, fun t13_11 => ⟨fun _ => ⟨fun _ => js_ret (by decide) (je_bl (⟨(), .nil, (by clear hps; obtain ⟨u⟩ := v_one; obtain ⟨u2⟩ := v_two; have h1 : u = u2 := hp.1; have h2 : smU (n + 1) u := hp.2; clear hp; subst h1; (cases u <;> simp_all [isU, isN, seqU, flatU, smU, itsU]))⟩)), fun z => (nomatch z)⟩, fun z => (nomatch z)⟩⟩)))))))⟩, fun z => (nomatch z)⟩⟩))))))⟩, fun z => (nomatch z)⟩⟩))))))⟩⟩))))⟩⟩))))⟩⟩)))⟩⟩)))))⟩⟩))))⟩⟩))))))
theorem ok_law_same_z  (x : Fx K mg) : OkF P w K mg base CX0 1 "_law_same" ["one", "two"] (spP K 2 (fun (a : (UN (0)) × (UN (0))) => match a with | (z0, z1) => [sd z0, sd z1]) (fun a => a.1.u = a.2.u ∧ smU (0) a.1.u) (fun a (r : Bool) => r = true)) := by
  obtain ⟨fd, F⟩ := x.f_law_same
  refine ⟨⟨fd, okT F sc_law_same (fun _ => rfl) (fun cdv A0 outer s H E a B hr hp => ?_), F.bindsN fun _ _ _ _ _ _ us hl => match us, hl with | [_, _], _ => rfl⟩, x.g_law_same, F.kp⟩
  obtain ⟨v_one, v_two⟩ := a
  try dsimp only at hp ⊢
  have nd := (sc_law_same).nd
  have hps : PassesOwn (model (cxOf CX0 P w K mg base ["one", "two", "k"] "_law_same" (defScope (top 54)) (He.ga K "_law_same") cdv A0 outer s H E).prog (cxOf CX0 P w K mg base ["one", "two", "k"] "_law_same" (defScope (top 54)) (He.ga K "_law_same") cdv A0 outer s H E).w) (cxOf CX0 P w K mg base ["one", "two", "k"] "_law_same" (defScope (top 54)) (He.ga K "_law_same") cdv A0 outer s H E).A (cxOf CX0 P w K mg base ["one", "two", "k"] "_law_same" (defScope (top 54)) (He.ga K "_law_same") cdv A0 outer s H E).env (cxOf CX0 P w K mg base ["one", "two", "k"] "_law_same" (defScope (top 54)) (He.ga K "_law_same") cdv A0 outer s H E).xe := PassesOwn.leaving
  exact js_ifR (jt_w (jw_or (jt_bool (je_isU (T := "bool") (by decide) (by decide +kernel) (by decide) x.b_isinstance x.b_bool (je_var .z (⟨fun t1_7 => ⟨fun _ => ⟨fun _ => js_ret (by decide) (je_and (je_isU (T := "bool") (by decide) (by decide +kernel) (by decide) x.b_isinstance x.b_bool (je_var .z (⟨fun b2_15 => ⟨(), .nil, (by clear hps; obtain ⟨u⟩ := v_one; obtain ⟨u2⟩ := v_two; have h1 : u = u2 := hp.1; have h2 : smU (0) u := hp.2; clear hp; subst h1; (cases u <;> simp_all [isU, isN, seqU, flatU, smU, itsU]))⟩, fun b2_15 => je_and (je_isU (T := "bool") (by decide) (by decide +kernel) (by decide) x.b_isinstance x.b_bool (je_var (.s .z) (⟨fun b2_15 => ⟨(), .nil, (by clear hps; obtain ⟨u⟩ := v_one; obtain ⟨u2⟩ := v_two; have h1 : u = u2 := hp.1; have h2 : smU (0) u := hp.2; clear hp; subst h1; (cases u <;> simp_all [isU, isN, seqU, flatU, smU, itsU]))⟩, fun b2_15 => je_one (je_eqU (je_var .z (je_var (.s .z) (⟨(by clear hps; obtain ⟨u⟩ := v_one; obtain ⟨u2⟩ := v_two; have h1 : u = u2 := hp.1; have h2 : smU (0) u := hp.2; clear hp; subst h1; (cases u <;> simp_all [isU, isN, seqU, flatU, smU, itsU])), ⟨(), .nil, (by clear hps; obtain ⟨u⟩ := v_one; obtain ⟨u2⟩ := v_two; have h1 : u = u2 := hp.1; have h2 : smU (0) u := hp.2; clear hp; subst h1; (cases u <;> simp_all [isU, isN, seqU, flatU, smU, itsU]))⟩⟩))))⟩)))⟩)))), fun z => (nomatch z)⟩, fun z => (nomatch z)⟩, fun t1_7 => ⟨fun z => (nomatch z), fun _ => jw_or1 (jt_bool (je_isU (T := "bool") (by decide) (by decide +kernel) (by decide) x.b_isinstance x.b_bool (je_var (.s .z) (⟨fun t1_32 => ⟨fun _ => js_ret (by decide) (je_and (je_isU (T := "bool") (by decide) (by decide +kernel) (by decide) x.b_isinstance x.b_bool (je_var .z (⟨fun b2_15 => ⟨(), .nil, (by clear hps; obtain ⟨u⟩ := v_one; obtain ⟨u2⟩ := v_two; have h1 : u = u2 := hp.1; have h2 : smU (0) u := hp.2; clear hp; subst h1; (cases u <;> simp_all [isU, isN, seqU, flatU, smU, itsU]))⟩, fun b2_15 => je_and (je_isU (T := "bool") (by decide) (by decide +kernel) (by decide) x.b_isinstance x.b_bool (je_var (.s .z) (⟨fun b2_15 => ⟨(), .nil, (by clear hps; obtain ⟨u⟩ := v_one; obtain ⟨u2⟩ := v_two; have h1 : u = u2 := hp.1; have h2 : smU (0) u := hp.2; clear hp; subst h1; (cases u <;> simp_all [isU, isN, seqU, flatU, smU, itsU]))⟩, fun b2_15 => je_one (je_eqU (je_var .z (je_var (.s .z) (⟨(by clear hps; obtain ⟨u⟩ := v_one; obtain ⟨u2⟩ := v_two; have h1 : u = u2 := hp.1; have h2 : smU (0) u := hp.2; clear hp; subst h1; (cases u <;> simp_all [isU, isN, seqU, flatU, smU, itsU])), ⟨(), .nil, (by clear hps; obtain ⟨u⟩ := v_one; obtain ⟨u2⟩ := v_two; have h1 : u = u2 := hp.1; have h2 : smU (0) u := hp.2; clear hp; subst h1; (cases u <;> simp_all [isU, isN, seqU, flatU, smU, itsU]))⟩⟩))))⟩)))⟩)))), fun z => (nomatch z)⟩, fun t1_32 => ⟨fun z => (nomatch z), fun _ => js_ifR (jt_w (jw_or (jt_isNU (je_var .z (⟨fun t3_7 => ⟨fun _ => ⟨fun _ => js_ret (by decide) (je_and (je_isNU (je_var .z (⟨fun b4_15 => ⟨(), .nil, (by clear hps; obtain ⟨u⟩ := v_one; obtain ⟨u2⟩ := v_two; have h1 : u = u2 := hp.1; have h2 : smU (0) u := hp.2; clear hp; subst h1; (cases u <;> simp_all [isU, isN, seqU, flatU, smU, itsU]))⟩, fun b4_15 => je_one (je_isNU (je_var (.s .z) (⟨(), .nil, (by clear hps; obtain ⟨u⟩ := v_one; obtain ⟨u2⟩ := v_two; have h1 : u = u2 := hp.1; have h2 : smU (0) u := hp.2; clear hp; subst h1; (cases u <;> simp_all [isU, isN, seqU, flatU, smU, itsU]))⟩)))⟩)))), fun z => (nomatch z)⟩, fun z => (nomatch z)⟩, fun t3_7 => ⟨fun z => (nomatch z), fun _ => jw_or1 (jt_isNU (je_var (.s .z) (⟨fun t3_22 => ⟨fun _ => js_ret (by decide) (je_and (je_isNU (je_var .z (⟨fun b4_15 => ⟨(), .nil, (by clear hps; obtain ⟨u⟩ := v_one; obtain ⟨u2⟩ := v_two; have h1 : u = u2 := hp.1; have h2 : smU (0) u := hp.2; clear hp; subst h1; (cases u <;> simp_all [isU, isN, seqU, flatU, smU, itsU]))⟩, fun b4_15 => je_one (je_isNU (je_var (.s .z) (⟨(), .nil, (by clear hps; obtain ⟨u⟩ := v_one; obtain ⟨u2⟩ := v_two; have h1 : u = u2 := hp.1; have h2 : smU (0) u := hp.2; clear hp; subst h1; (cases u <;> simp_all [isU, isN, seqU, flatU, smU, itsU]))⟩)))⟩)))), fun z => (nomatch z)⟩, fun t3_22 => ⟨fun z => (nomatch z), fun _ => js_ifR (jt_bool (je_isU (T := "int") (by decide) (by decide +kernel) (by decide) x.b_isinstance x.b_int (je_var .z (⟨fun t5_7 => ⟨fun _ => js_ret (by decide) (je_and (je_isU (T := "int") (by decide) (by decide +kernel) (by decide) x.b_isinstance x.b_int (je_var (.s .z) (⟨fun b6_15 => ⟨(), .nil, (by clear hps; obtain ⟨u⟩ := v_one; obtain ⟨u2⟩ := v_two; have h1 : u = u2 := hp.1; have h2 : smU (0) u := hp.2; clear hp; subst h1; (cases u <;> simp_all [isU, isN, seqU, flatU, smU, itsU]))⟩, fun b6_15 => je_one (je_eqU (je_var .z (je_var (.s .z) (⟨(by clear hps; obtain ⟨u⟩ := v_one; obtain ⟨u2⟩ := v_two; have h1 : u = u2 := hp.1; have h2 : smU (0) u := hp.2; clear hp; subst h1; (cases u <;> simp_all [isU, isN, seqU, flatU, smU, itsU])), ⟨(), .nil, (by clear hps; obtain ⟨u⟩ := v_one; obtain ⟨u2⟩ := v_two; have h1 : u = u2 := hp.1; have h2 : smU (0) u := hp.2; clear hp; subst h1; (cases u <;> simp_all [isU, isN, seqU, flatU, smU, itsU]))⟩⟩))))⟩)))), fun z => (nomatch z)⟩, fun t5_7 => ⟨fun z => (nomatch z), fun _ => js_ifR (jt_bool (je_isU (T := "str") (by decide) (by decide +kernel) (by decide) x.b_isinstance x.b_str (je_var .z (⟨fun t7_7 => ⟨fun _ => js_ret (by decide) (je_and (je_isU (T := "str") (by decide) (by decide +kernel) (by decide) x.b_isinstance x.b_str (je_var (.s .z) (⟨fun b8_15 => ⟨(), .nil, (by clear hps; obtain ⟨u⟩ := v_one; obtain ⟨u2⟩ := v_two; have h1 : u = u2 := hp.1; have h2 : smU (0) u := hp.2; clear hp; subst h1; (cases u <;> simp_all [isU, isN, seqU, flatU, smU, itsU]))⟩, fun b8_15 => je_one (je_eqU (je_var .z (je_var (.s .z) (⟨(by clear hps; obtain ⟨u⟩ := v_one; obtain ⟨u2⟩ := v_two; have h1 : u = u2 := hp.1; have h2 : smU (0) u := hp.2; clear hp; subst h1; (cases u <;> simp_all [isU, isN, seqU, flatU, smU, itsU])), ⟨(), .nil, (by clear hps; obtain ⟨u⟩ := v_one; obtain ⟨u2⟩ := v_two; have h1 : u = u2 := hp.1; have h2 : smU (0) u := hp.2; clear hp; subst h1; (cases u <;> simp_all [isU, isN, seqU, flatU, smU, itsU]))⟩⟩))))⟩)))), fun z => (nomatch z)⟩, fun t7_7 => ⟨fun z => (nomatch z), fun _ => js_ifR (jt_w (jw_and (jt_bool (je_isU (T := "list") (by decide) (by decide +kernel) (by decide) x.b_isinstance x.b_list (je_var .z (⟨fun t9_7 => ⟨fun z => (nomatch z), fun _ => jw_and1 (jt_not (jt_bool (je_isU (T := "list") (by decide) (by decide +kernel) (by decide) x.b_isinstance x.b_list (je_var (.s .z) (⟨fun t9_38 => ⟨fun z => (nomatch z), fun _ => js_ifR (jt_w (jw_and (jt_bool (je_isU (T := "tuple") (by decide) (by decide +kernel) (by decide) x.b_isinstance x.b_tuple (je_var .z (⟨fun t11_7 => ⟨fun z => (nomatch z), fun _ => jw_and1 (jt_not (jt_bool (je_isU (T := "tuple") (by decide) (by decide +kernel) (by decide) x.b_isinstance x.b_tuple (je_var (.s .z) (⟨fun t11_39 => ⟨fun z => (nomatch z), fun _ => js_ifR (jt_w (jw_or (jt_not (jt_bool (je_isLT x.b_isinstance x.b_list x.b_tuple (je_var .z (⟨fun t13_11 => ⟨fun z => (nomatch z), fun _ => jw_or1 (jt_ne (je_lenU x.b_len (je_var .z (⟨(by clear hps; obtain ⟨u⟩ := v_one; obtain ⟨u2⟩ := v_two; have h1 : u = u2 := hp.1; have h2 : smU (0) u := hp.2; clear hp; subst h1; (cases u <;> simp_all [isU, isN, seqU, flatU, smU, itsU])), je_lenU x.b_len (je_var (.s .z) (⟨(by clear hps; obtain ⟨u⟩ := v_one; obtain ⟨u2⟩ := v_two; have h1 : u = u2 := hp.1; have h2 : smU (0) u := hp.2; clear hp; subst h1; (cases u <;> simp_all [isU, isN, seqU, flatU, smU, itsU])), ⟨fun t13_45 => ⟨fun _ => js_ret (by decide) (je_bl (⟨(), .nil, (by clear hps; obtain ⟨u⟩ := v_one; obtain ⟨u2⟩ := v_two; have h1 : u = u2 := hp.1; have h2 : smU (0) u := hp.2; clear hp; subst h1; (cases u <;> simp_all [isU, isN, seqU, flatU, smU, itsU]))⟩)), fun z => (nomatch z)⟩, fun t13_45 => ⟨fun z => (nomatch z), fun _ => (by exfalso; clear hps; obtain ⟨u⟩ := v_one; obtain ⟨u2⟩ := v_two; have h1 : u = u2 := hp.1; have h2 : smU 0 u := hp.2; clear hp; subst h1; (cases u <;> simp_all [isU, isN, seqU, flatU, smU, itsU]))⟩⟩⟩))⟩))))⟩, fun t13_11 => ⟨fun _ => ⟨fun _ => js_ret (by decide) (je_bl (⟨(), .nil, (by clear hps; obtain ⟨u⟩ := v_one; obtain ⟨u2⟩ := v_two; have h1 : u = u2 := hp.1; have h2 : smU (0) u := hp.2; clear hp; subst h1; (cases u <;> simp_all [isU, isN, seqU, flatU, smU, itsU]))⟩)), fun z => (nomatch z)⟩, fun z => (nomatch z)⟩⟩)))))))⟩, fun t11_39 => ⟨fun _ => js_ret (by decide) (je_bl (⟨(), .nil, (by clear hps; obtain ⟨u⟩ := v_one; obtain ⟨u2⟩ := v_two; have h1 : u = u2 := hp.1; have h2 : smU (0) u := hp.2; clear hp; subst h1; (cases u <;> simp_all [isU, isN, seqU, flatU, smU, itsU]))⟩)), fun z => (nomatch z)⟩⟩)))))⟩, fun t11_7 => ⟨fun _ => ⟨fun z => (nomatch z), fun _ => js_ifR (jt_w (jw_or (jt_not (jt_bool (je_isLT x.b_isinstance x.b_list x.b_tuple (je_var .z (⟨fun t13_11 => ⟨fun z => (nomatch z), fun _ => jw_or1 (jt_ne (je_lenU x.b_len (je_var .z (⟨(by clear hps; obtain ⟨u⟩ := v_one; obtain ⟨u2⟩ := v_two; have h1 : u = u2 := hp.1; have h2 : smU (0) u := hp.2; clear hp; subst h1; (cases u <;> simp_all [isU, isN, seqU, flatU, smU, itsU])), je_lenU x.b_len (je_var (.s .z) (⟨(by clear hps; obtain ⟨u⟩ := v_one; obtain ⟨u2⟩ := v_two; have h1 : u = u2 := hp.1; have h2 : smU (0) u := hp.2; clear hp; subst h1; (cases u <;> simp_all [isU, isN, seqU, flatU, smU, itsU])), ⟨fun t13_45 => ⟨fun _ => js_ret (by decide) (je_bl (⟨(), .nil, (by clear hps; obtain ⟨u⟩ := v_one; obtain ⟨u2⟩ := v_two; have h1 : u = u2 := hp.1; have h2 : smU (0) u := hp.2; clear hp; subst h1; (cases u <;> simp_all [isU, isN, seqU, flatU, smU, itsU]))⟩)), fun z => (nomatch z)⟩, fun t13_45 => ⟨fun z => (nomatch z), fun _ => (by exfalso; clear hps; obtain ⟨u⟩ := v_one; obtain ⟨u2⟩ := v_two; have h1 : u = u2 := hp.1; have h2 : smU 0 u := hp.2; clear hp; subst h1; (cases u <;> simp_all [isU, isN, seqU, flatU, smU, itsU]))⟩⟩⟩))⟩))))⟩, fun t13_11 => ⟨fun _ => ⟨fun _ => js_ret (by decide) (je_bl (⟨(), .nil, (by clear hps; obtain ⟨u⟩ := v_one; obtain ⟨u2⟩ := v_two; have h1 : u = u2 := hp.1; have h2 : smU (0) u := hp.2; clear hp; subst h1; (cases u <;> simp_all [isU, isN, seqU, flatU, smU, itsU]))⟩)), fun z => (nomatch z)⟩, fun z => (nomatch z)⟩⟩)))))))⟩, fun z => (nomatch z)⟩⟩))))))⟩, fun t9_38 => ⟨fun _ => js_ret (by decide) (je_bl (⟨(), .nil, (by clear hps; obtain ⟨u⟩ := v_one; obtain ⟨u2⟩ := v_two; have h1 : u = u2 := hp.1; have h2 : smU (0) u := hp.2; clear hp; subst h1; (cases u <;> simp_all [isU, isN, seqU, flatU, smU, itsU]))⟩)), fun z => (nomatch z)⟩⟩)))))⟩, fun t9_7 => ⟨fun _ => ⟨fun z => (nomatch z), fun _ => js_ifR (jt_w (jw_and (jt_bool (je_isU (T := "tuple") (by decide) (by decide +kernel) (by decide) x.b_isinstance x.b_tuple (je_var .z (⟨fun t11_7 => ⟨fun z => (nomatch z), fun _ => jw_and1 (jt_not (jt_bool (je_isU (T := "tuple") (by decide) (by decide +kernel) (by decide) x.b_isinstance x.b_tuple (je_var (.s .z) (⟨fun t11_39 => ⟨fun z => (nomatch z), fun _ => js_ifR (jt_w (jw_or (jt_not (jt_bool (je_isLT x.b_isinstance x.b_list x.b_tuple (je_var .z (⟨fun t13_11 => ⟨fun z => (nomatch z), fun _ => jw_or1 (jt_ne (je_lenU x.b_len (je_var .z (⟨(by clear hps; obtain ⟨u⟩ := v_one; obtain ⟨u2⟩ := v_two; have h1 : u = u2 := hp.1; have h2 : smU (0) u := hp.2; clear hp; subst h1; (cases u <;> simp_all [isU, isN, seqU, flatU, smU, itsU])), je_lenU x.b_len (je_var (.s .z) (⟨(by clear hps; obtain ⟨u⟩ := v_one; obtain ⟨u2⟩ := v_two; have h1 : u = u2 := hp.1; have h2 : smU (0) u := hp.2; clear hp; subst h1; (cases u <;> simp_all [isU, isN, seqU, flatU, smU, itsU])), ⟨fun t13_45 => ⟨fun _ => js_ret (by decide) (je_bl (⟨(), .nil, (by clear hps; obtain ⟨u⟩ := v_one; obtain ⟨u2⟩ := v_two; have h1 : u = u2 := hp.1; have h2 : smU (0) u := hp.2; clear hp; subst h1; (cases u <;> simp_all [isU, isN, seqU, flatU, smU, itsU]))⟩)), fun z => (nomatch z)⟩, fun t13_45 => ⟨fun z => (nomatch z), fun _ => (by exfalso; clear hps; obtain ⟨u⟩ := v_one; obtain ⟨u2⟩ := v_two; have h1 : u = u2 := hp.1; have h2 : smU 0 u := hp.2; clear hp; subst h1; (cases u <;> simp_all [isU, isN, seqU, flatU, smU, itsU]))⟩⟩⟩))⟩))))⟩, fun t13_11 => ⟨fun _ => ⟨fun _ => js_ret (by decide) (je_bl (⟨(), .nil, (by clear hps; obtain ⟨u⟩ := v_one; obtain ⟨u2⟩ := v_two; have h1 : u = u2 := hp.1; have h2 : smU (0) u := hp.2; clear hp; subst h1; (cases u <;> simp_all [isU, isN, seqU, flatU, smU, itsU]))⟩)), fun z => (nomatch z)⟩, fun z => (nomatch z)⟩⟩)))))))⟩, fun t11_39 => ⟨fun _ => js_ret (by decide) (je_bl (⟨(), .nil, (by clear hps; obtain ⟨u⟩ := v_one; obtain ⟨u2⟩ := v_two; have h1 : u = u2 := hp.1; have h2 : smU (0) u := hp.2; clear hp; subst h1; (cases u <;> simp_all [isU, isN, seqU, flatU, smU, itsU]))⟩)), fun z => (nomatch z)⟩⟩)))))⟩, fun t11_7 => ⟨fun _ => ⟨fun z => (nomatch z), fun _ => js_ifR (jt_w (jw_or (jt_not (jt_bool (je_isLT x.b_isinstance x.b_list x.b_tuple (je_var .z (⟨fun t13_11 => ⟨fun z => (nomatch z), fun _ => jw_or1 (jt_ne (je_lenU x.b_len (je_var .z (⟨(by clear hps; obtain ⟨u⟩ := v_one; obtain ⟨u2⟩ := v_two; have h1 : u = u2 := hp.1; have h2 : smU (0) u := hp.2; clear hp; subst h1; (cases u <;> simp_all [isU, isN, seqU, flatU, smU, itsU])), je_lenU x.b_len (je_var (.s .z) (⟨(by clear hps; obtain ⟨u⟩ := v_one; obtain ⟨u2⟩ := v_two; have h1 : u = u2 := hp.1; have h2 : smU (0) u := hp.2; clear hp; subst h1; (cases u <;> simp_all [isU, isN, seqU, flatU, smU, itsU])), ⟨fun t13_45 => ⟨fun _ => js_ret (by decide) (je_bl (⟨(), .nil, (by clear hps; obtain ⟨u⟩ := v_one; obtain ⟨u2⟩ := v_two; have h1 : u = u2 := hp.1; have h2 : smU (0) u := hp.2; clear hp; subst h1; (cases u <;> simp_all [isU, isN, seqU, flatU, smU, itsU]))⟩)), fun z => (nomatch z)⟩, fun t13_45 => ⟨fun z => (nomatch z), fun _ => (by exfalso; clear hps; obtain ⟨u⟩ := v_one; obtain ⟨u2⟩ := v_two; have h1 : u = u2 := hp.1; have h2 : smU 0 u := hp.2; clear hp; subst h1; (cases u <;> simp_all [isU, isN, seqU, flatU, smU, itsU]))⟩⟩⟩))⟩))))⟩, fun t13_11 => ⟨fun _ => ⟨fun _ => js_ret (by decide) (je_bl (⟨(), .nil, (by clear hps; obtain ⟨u⟩ := v_one; obtain ⟨u2⟩ := v_two; have h1 : u = u2 := hp.1; have h2 : smU (0) u := hp.2; clear hp; subst h1; (cases u <;> simp_all [isU, isN, seqU, flatU, smU, itsU]))⟩)), fun z => (nomatch z)⟩, fun z => (nomatch z)⟩⟩)))))))⟩, fun z => (nomatch z)⟩⟩))))))⟩, fun z => (nomatch z)⟩⟩))))))⟩⟩))))⟩⟩))))⟩⟩)))⟩⟩)))))⟩⟩))))⟩⟩))))))
theorem ok_law_same (x : Fx K mg) : ∀ n : Nat, OkF P w K mg base CX0 (n + 1) "_law_same" ["one", "two"] (spP K 2 (fun (a : (UN (n)) × (UN (n))) => match a with | (z0, z1) => [sd z0, sd z1]) (fun a => a.1.u = a.2.u ∧ smU (n) a.1.u) (fun a (r : Bool) => r = true))
  | 0 => ok_law_same_z x
  | n + 1 => ok_law_same_s x (ok_law_same x n)
theorem ok_law_same6 (x : Fx K mg) : OkF P w K mg base CX0 7 "_law_same" ["one", "two"] (spP K 2 (fun (a : UN 6 × UN 6) => match a with | (z0, z1) => [sd z0, sd z1]) (fun a => a.1.u = a.2.u ∧ smU 6 a.1.u) (fun a (r : Bool) => r = true)) := ok_law_same x 6
theorem smU_flat : ∀ {n : Nat} {u : Uv}, flatU u = true → smU n u
  | 0, _, h => h
  | n + 1, u, h => by
    have e : itsU u = [] := by cases u <;> first | rfl | cases h
    unfold smU
    rw [e]
    exact ⟨by simp, fun x hx => nomatch hx⟩
end
end Lw
end
section
namespace Lw
open PySem PySem.Spec PyProof.Rows L2 Tyl
def tb (t : List (List Bool)) (a b : Int) : Bool := ((((t[a.toNat]?).getD [])[b.toNat]?).getD false)
def relRow (t : List (List Bool)) (a : Int) : List (Int × Int) := ((rgI 0 t.length).filter fun b => tb t a b).map fun b => (a, b)
def relF (t : List (List Bool)) : List (Int × Int) := (rgI 0 t.length).flatMap (relRow t)
theorem tb_of {t : List (List Bool)} {a b : Int} {r : List Bool} {d : Bool} (h1 : t[a.toNat]? = some r) (h2 : r[b.toNat]? = some d) : tb t a b = d := by
  unfold tb
  rw [h1]
  show (r[b.toNat]?).getD false = d
  rw [h2]; rfl
section
variable {P : Program} {w : World} {K : Fg} {mg : Str → Option Value} {base : Heap}
theorem sc_law_related : FnScope ["table", "out", "a", "b"] ["table"] (defScope (top 40)) := ⟨rfl, rfl, rfl, by decide +kernel, rfl, by decide +kernel, by decide +kernel⟩
theorem ok_law_related  (x : Fx K mg) : OkF P w K mg base CX0 1 "_law_related" ["table"] (spP K 1 (fun (a : List (List Bool)) => [sd a]) (fun a => a.length ≤ 20 ∧ ∀ r ∈ a, r.length = a.length) (fun a (r : List (Int × Int)) => r = relF a)) := by
  obtain ⟨fd, F⟩ := x.f_law_related
  refine ⟨⟨fd, okT F sc_law_related (fun _ => rfl) (fun cdv A0 outer s H E v_table B hr hp => ?_), F.bindsN fun _ _ _ _ _ _ us hl => match us, hl with | [_], _ => rfl⟩, x.g_law_related, F.kp⟩
  try dsimp only at hp ⊢
  have nd := (sc_law_related).nd
  have hps : PassesOwn (model (cxOf CX0 P w K mg base ["table", "out", "a", "b"] "_law_related" (defScope (top 40)) (He.ga K "_law_related") cdv A0 outer s H E).prog (cxOf CX0 P w K mg base ["table", "out", "a", "b"] "_law_related" (defScope (top 40)) (He.ga K "_law_related") cdv A0 outer s H E).w) (cxOf CX0 P w K mg base ["table", "out", "a", "b"] "_law_related" (defScope (top 40)) (He.ga K "_law_related") cdv A0 outer s H E).A (cxOf CX0 P w K mg base ["table", "out", "a", "b"] "_law_related" (defScope (top 40)) (He.ga K "_law_related") cdv A0 outer s H E).env (cxOf CX0 P w K mg base ["table", "out", "a", "b"] "_law_related" (defScope (top 40)) (He.ga K "_law_related") cdv A0 outer s H E).xe := PassesOwn.leaving
  exact js_asgo nd (jn_lst (ja_nil (⟨[], rfl, by simp, ⟨([] : List (Int × Int)), rfl, fun v_out e_out => ⟨_, (.s .z), js_range nd x.b_range hps rfl (je_len x.b_len (je_var .z (⟨((List (Int × Int))), (fun (z0 : ((List (Int × Int)))) => [(1, some (own (sds z0)))]), fun (i : Nat) (s : ((List (Int × Int)))) => s = ((rgI 0 v_table.length).take i).flatMap (relRow v_table) ∧ s.length ≤ 20 * i, (by first | omega | (simp only [St.ok] at *; omega) | (subst_vars; first | omega | (simp only [St.ok] at *; omega))), ⟨_, (.keep (.keep (.keep (.keep .nil)))), (by simp [e_out])⟩, fun i2 s2_out hi2 hI2 => ⟨_, (.s (.s .z)), js_range nd x.b_range hps rfl (je_len x.b_len (je_var .z (⟨((List (Int × Int))), (fun (z0 : ((List (Int × Int)))) => [(1, some (own (sds z0)))]), fun (i : Nat) (s : ((List (Int × Int)))) => s = s2_out ++ (((rgI 0 v_table.length).take i).filter fun b => tb v_table (i2 : Int) b).map (fun b => ((i2 : Int), b)) ∧ s.length ≤ 20 * i2 + i, (by first | omega | (simp only [St.ok] at *; omega) | (subst_vars; first | omega | (simp only [St.ok] at *; omega))), ⟨_, (.keep (.keep (.keep (.keep .nil)))), (by refine ⟨?_, ?_⟩; (simp); (have := hI2.2; dsimp only at *; omega))⟩, fun i3 s3_out hi3 hI3 => ⟨_, (.s (.s (.s .z))), js_if1 (jt_bool (je_ix (je_ix (je_var .z (je_var (.s (.s .z)) (⟨(by first | omega | (simp only [St.ok] at *; omega) | (subst_vars; first | omega | (simp only [St.ok] at *; omega))), fun d4_15 hd4_15 => je_var (.s (.s (.s .z))) (⟨(by have := hp.2 _ (List.mem_of_getElem? hd4_15); omega), fun d4_15e hd4_15e => ⟨fun t4_15e => ⟨fun _ => js_appo (.s .z) (je_pair (je_var (.s (.s .z)) (je_var (.s (.s (.s .z))) (⟨_, _, (.s .z), (by have := hI3.2; dsimp only at *; omega), (.s .z), js_end (⟨_, (.keep (.keep (.keep (.drop .nil)))), (by have h := hI3; dsimp only at h; first | (refine ⟨?_, ?_⟩; (rw [h.1, rgI_take hi3, List.filter_append, List.map_append, List.append_assoc]; have e := tb_of hd4_15 hd4_15e; rw [t4_15e] at e; simp [List.filter_cons, e]); (simp only [List.length_append, List.length_cons, List.length_nil]; omega)) | (refine ⟨?_, ?_⟩; (rw [h.1, rgI_take hi3, List.filter_append, List.map_append]; have e := tb_of hd4_15 hd4_15e; rw [t4_15e] at e; simp [List.filter_cons, e]); (omega)))⟩)⟩)))), fun z => (nomatch z)⟩, fun t4_15e => ⟨fun z => (nomatch z), fun _ => js_end (⟨_, (.keep (.keep (.keep (.drop .nil)))), (by have h := hI3; dsimp only at h; first | (refine ⟨?_, ?_⟩; (rw [h.1, rgI_take hi3, List.filter_append, List.map_append, List.append_assoc]; have e := tb_of hd4_15 hd4_15e; rw [t4_15e] at e; simp [List.filter_cons, e]); (simp only [List.length_append, List.length_cons, List.length_nil]; omega)) | (refine ⟨?_, ?_⟩; (rw [h.1, rgI_take hi3, List.filter_append, List.map_append]; have e := tb_of hd4_15 hd4_15e; rw [t4_15e] at e; simp [List.filter_cons, e]); (omega)))⟩)⟩⟩⟩)⟩))))))⟩, fun ts3_out thI3 => js_end (⟨_, (.keep (.keep (.drop (.keep .nil)))), (by have h := thI3; have h2 := hI2; dsimp only at h h2; refine ⟨?_, ?_⟩; (rw [h.1, rgI_full, h2.1, rgI_take hi2, List.flatMap_append]; simp [relRow]); (omega))⟩)⟩)))⟩, fun ts2_out thI2 => js_frz (.s .z) fz_own (.s .z) .nil (js_ret (by decide) (je_var (.s .z) (⟨(), .nil, (by have h := thI2.1; rw [rgI_full] at h; exact h)⟩)))⟩)))⟩⟩⟩)))
end
end Lw
end
section
namespace Lw
open PySem PySem.Spec PyProof.Rows L2 Tyl

section
variable {P : Program} {w : World} {K : Fg} {mg : Str → Option Value} {base : Heap}
theorem sc_law_store : FnScope ["script", "cells", "cell", "mixed"] ["script"] (defScope (top 30)) := ⟨rfl, rfl, rfl, by decide +kernel, rfl, by decide +kernel, by decide +kernel⟩
theorem ok_law_store  (x : Fx K mg) : OkF P w K mg base CX0 2 "_law_store" ["script"] (spTN (R := St) (O := Unit) K [false] (fun (a : ScriptD) => [sd a]) (fun a => a.ns.length ≤ 63) (fun d => own d.sds) (fun _ _ => []) (fun _ d _ => d.ok)) := by
  obtain ⟨fd, F⟩ := x.f_law_store
  refine ⟨⟨fd, okTN F sc_law_store (fun _ => rfl) (fun cdv A0 outer s H E v_script B hr hp => ?_), F.bindsN fun _ _ _ _ _ _ us hl => match us, hl with | [_], _ => rfl⟩, x.g_law_store, F.kp⟩
  try dsimp only at hp ⊢
  have nd := (sc_law_store).nd
  have hps : PassesOwn (model (cxOf CX0 P w K mg base ["script", "cells", "cell", "mixed"] "_law_store" (defScope (top 30)) (He.ga K "_law_store") cdv A0 outer s H E).prog (cxOf CX0 P w K mg base ["script", "cells", "cell", "mixed"] "_law_store" (defScope (top 30)) (He.ga K "_law_store") cdv A0 outer s H E).w) (cxOf CX0 P w K mg base ["script", "cells", "cell", "mixed"] "_law_store" (defScope (top 30)) (He.ga K "_law_store") cdv A0 outer s H E).A (cxOf CX0 P w K mg base ["script", "cells", "cell", "mixed"] "_law_store" (defScope (top 30)) (He.ga K "_law_store") cdv A0 outer s H E).env (cxOf CX0 P w K mg base ["script", "cells", "cell", "mixed"] "_law_store" (defScope (top 30)) (He.ga K "_law_store") cdv A0 outer s H E).xe := PassesOwn.leaving
  exact js_newv (jnsf_S rfl nd (nm := [("cell", 2)]) (vs' := []) (show BlkOk ["script", "cells", "cell", "mixed"] (defScope (top 30)) _ [("cell", 2)] from ⟨rfl, by decide +kernel, by decide +kernel, by decide +kernel, by decide +kernel⟩) (by decide) (by decide) (fun it acc env => turn1_0 _ _ _ _ _ _) (fun m s H C cl fp => tw_name nd (by decide) (by decide)) (je_var .z (⟨1, fun c ds => ds = [c], (by first | omega | (simp only [St.ok] at *; omega) | (subst_vars; first | omega | (simp only [St.ok] at *; omega))), (fun j hj => by simp at hj; subst hj; rfl), fun iq0 q0 hq0 => ⟨_, (.s (.s .z)), fun m D => jts_nil (⟨fun _ => fun s H C cl fp => jq_elt rfl (fun m => je_intI x.b_int (je_var (.s (.s .z)) (⟨(by rfl), (.keep (.keep (.drop (.keep .nil))))⟩))), fun z => (nomatch z)⟩)⟩, fun dss hds => ⟨_, rfl, fun v_cells e_cells => ⟨_, (.s .z), js_asgv nd (je_add (je_int (je_len x.b_len (je_var (.s .z) (fun v_mixed e_mixed => ⟨_, (.s (.s (.s .z))), js_for (fun m => tg_name nd (by decide)) hps rfl (je_var (.s .z) (⟨(Int), (fun (z0 : (Int)) => [(3, some (sd z0))]), fun (i : Nat) (s : (Int)) => True, ⟨_, (.keep (.keep (.keep (.keep .nil)))), (by trivial)⟩, fun m i3 s3_mixed x3 hi3 hI3 => ⟨_, (.s (.s .z)), js_asgv nd (je_callP ((ok_law_mix x).mono (by decide)) hr pass0 (ja_cons (je_var (.s (.s (.s .z))) (ja_cons (je_var (.s (.s .z)) (ja_nil (⟨⟨_, _⟩, rfl, rfl, (by trivial), fun r4_16 p4_16 => fun v_mixed e_mixed => ⟨_, (.s (.s (.s .z))), js_end (⟨_, (.keep (.keep (.drop (.keep .nil)))), (by trivial)⟩)⟩⟩)))))))⟩, fun ts3_mixed thI3 => js_retN (by decide) (jg_new (jn_lst (ja_cons (je_var (.s .z) (ja_cons (je_int (ja_cons (je_int (ja_cons (je_int (ja_cons (je_int (ja_cons (je_var (.s (.s (.s .z))) (ja_cons (je_int (ja_nil (⟨[_, _, _, _, _, _, _], rfl, by simp, ⟨⟨_, _, _, _, _, _, _⟩, (), rfl, .nil, (by rw [e_cells, all2_map (f := id) hds, List.map_id]; simp only [St.ok]; omega)⟩⟩))))))))))))))))))⟩))⟩)))))⟩⟩⟩)) rfl)
end
end Lw
end
section
namespace Lw
open PySem PySem.Spec PyProof.Rows L2 Tyl

section
variable {P : Program} {w : World} {K : Fg} {mg : Str → Option Value} {base : Heap}
theorem ok_need_pairs0  (x : Fx K mg) : OkF P w K mg base CX0 1 "need_pairs" ["size", "pairs"] (spP K 2 (fun (a : Int × EmpT) => match a with | (z0, z1) => [sd z0, sd z1]) (fun _ => True) (fun _ (_ : Unit) => True)) := by
  obtain ⟨fd, F⟩ := x.f_need_pairs
  refine ⟨⟨fd, okT F sc_need_pairs (fun _ => rfl) (fun cdv A0 outer s H E a B hr hp => ?_), F.bindsN fun _ _ _ _ _ _ us hl => match us, hl with | [_, _], _ => rfl⟩, x.g_need_pairs, F.kp⟩
  obtain ⟨v_size, v_pairs⟩ := a
  try dsimp only at hp ⊢
  have nd := (sc_need_pairs).nd
  have hps : PassesOwn (model (cxOf CX0 P w K mg base ["size", "pairs", "a", "b"] "need_pairs" (defScope (top 10)) (He.ga K "need_pairs") cdv A0 outer s H E).prog (cxOf CX0 P w K mg base ["size", "pairs", "a", "b"] "need_pairs" (defScope (top 10)) (He.ga K "need_pairs") cdv A0 outer s H E).w) (cxOf CX0 P w K mg base ["size", "pairs", "a", "b"] "need_pairs" (defScope (top 10)) (He.ga K "need_pairs") cdv A0 outer s H E).A (cxOf CX0 P w K mg base ["size", "pairs", "a", "b"] "need_pairs" (defScope (top 10)) (He.ga K "need_pairs") cdv A0 outer s H E).env (cxOf CX0 P w K mg base ["size", "pairs", "a", "b"] "need_pairs" (defScope (top 10)) (He.ga K "need_pairs") cdv A0 outer s H E).xe := PassesOwn.leaving
  exact js_for0 (tg_pair (α := Int) (β := Int) (i := 2) (j := 3) (m := ⟨fun _ => none, []⟩) (B := B) rfl nd (by decide) (by decide)) hps rfl (je_var (.s .z) (js_fall (d := ()) (by decide) (fun _ _ => rfl) (⟨(), .nil, (by trivial)⟩)))
theorem ok_closed_masks0  (x : Fx K mg) : OkF P w K mg base CX0 2 "closed_masks" ["size", "pairs"] (spP K 2 (fun (a : Int × EmpT) => match a with | (z0, z1) => [sd z0, sd z1]) (fun a => 1 ≤ a.1 ∧ a.1 ≤ 20) (fun a (r : List Int) => MR a.1.toNat r (TC (Ed [])))) := by
  obtain ⟨fd, F⟩ := x.f_closed_masks
  refine ⟨⟨fd, okT F sc_closed_masks (fun _ => rfl) (fun cdv A0 outer s H E a B hr hp => ?_), F.bindsN fun _ _ _ _ _ _ us hl => match us, hl with | [_, _], _ => rfl⟩, x.g_closed_masks, F.kp⟩
  obtain ⟨v_size, v_pairs⟩ := a
  try dsimp only at hp ⊢
  have nd := (sc_closed_masks).nd
  have hps : PassesOwn (model (cxOf CX0 P w K mg base ["size", "pairs", "masks", "a", "b", "middle", "x"] "closed_masks" (defScope (top 12)) (He.ga K "closed_masks") cdv A0 outer s H E).prog (cxOf CX0 P w K mg base ["size", "pairs", "masks", "a", "b", "middle", "x"] "closed_masks" (defScope (top 12)) (He.ga K "closed_masks") cdv A0 outer s H E).w) (cxOf CX0 P w K mg base ["size", "pairs", "masks", "a", "b", "middle", "x"] "closed_masks" (defScope (top 12)) (He.ga K "closed_masks") cdv A0 outer s H E).A (cxOf CX0 P w K mg base ["size", "pairs", "masks", "a", "b", "middle", "x"] "closed_masks" (defScope (top 12)) (He.ga K "closed_masks") cdv A0 outer s H E).env (cxOf CX0 P w K mg base ["size", "pairs", "masks", "a", "b", "middle", "x"] "closed_masks" (defScope (top 12)) (He.ga K "closed_masks") cdv A0 outer s H E).xe := PassesOwn.leaving
  exact js_asgo nd (jn_rep (je_new (jn_lst (ja_cons (je_int (ja_nil (⟨[_], rfl, by simp, ⟨[_], rfl, je_var .z (⟨(by simp; omega), ⟨_, rfl, fun v_masks e_masks => ⟨_, (.s (.s .z)), js_for0 (tg_pair (α := Int) (β := Int) (i := 3) (j := 4) (m := ⟨fun _ => none, []⟩) (B := B) rfl nd (by decide) (by decide)) hps rfl (je_var (.s .z) (js_range nd x.b_range hps rfl (je_var .z (⟨((List Int)), (fun (z0 : ((List Int))) => [(2, some (own (sds z0)))]), fun (i : Nat) (s : ((List Int))) => MR v_size.toNat s (War (Ed []) i), (by first | omega | (simp only [St.ok] at *; omega) | (subst_vars; first | omega | (simp only [St.ok] at *; omega))), ⟨_, (.keep (.keep (.keep (.keep (.keep (.keep (.keep .nil))))))), (by rw [e_masks]; exact (MR.zero _).imp fun x y _ => by simp [War, Ed])⟩, fun i4 s4_masks hi4 hI4 => ⟨_, (.s (.s (.s (.s (.s .z))))), js_range nd x.b_range hps rfl (je_var .z (⟨((List Int)), (fun (z0 : ((List Int))) => [(2, some (own (sds z0)))]), fun (i : Nat) (s : ((List Int))) => MR v_size.toNat s (WI (Ed []) i4 i), (by first | omega | (simp only [St.ok] at *; omega) | (subst_vars; first | omega | (simp only [St.ok] at *; omega))), ⟨_, (.keep (.keep (.keep (.keep (.keep (.keep (.keep .nil))))))), (by exact MR.imp hI4 fun x y _ => by unfold WI; simp)⟩, fun i5 s5_masks hi5 hI5 => ⟨_, (.s (.s (.s (.s (.s (.s .z)))))), js_if1 (jt_bool (je_callP ((ok_has_bit x).mono (by decide)) hr pass0 (ja_cons (je_ixo (.s (.s .z)) (je_var (.s (.s (.s (.s (.s (.s .z)))))) (⟨_, (.s (.s .z)), (by have h := hI5.1; omega), fun d6_23 hd6_23 => ja_cons (je_var (.s (.s (.s (.s (.s .z))))) (ja_nil (⟨⟨_, _⟩, rfl, rfl, (by first | omega | (simp only [St.ok] at *; omega) | (subst_vars; first | omega | (simp only [St.ok] at *; omega))), fun r6_15 p6_15 => ⟨fun t6_15 => ⟨fun _ => js_seto (.s (.s .z)) (je_bor (je_ixo (.s (.s .z)) (je_var (.s (.s (.s (.s (.s (.s .z)))))) (⟨_, (.s (.s .z)), (by have h := hI5.1; omega), fun d7_27 hd7_27 => je_ixo (.s (.s .z)) (je_var (.s (.s (.s (.s (.s .z))))) (⟨_, (.s (.s .z)), (by have h := hI5.1; omega), fun d7_38 hd7_38 => ⟨_, (.s (.s .z)), je_var (.s (.s (.s (.s (.s (.s .z)))))) (⟨_, _, (.s (.s .z)), (by have h := hI5.1; omega), (.s (.s .z)), js_end (⟨_, (.keep (.keep (.keep (.keep (.keep (.keep (.drop .nil))))))), (by first | (have e := Option.some.inj (hd6_23.symm.trans hd7_27); rw [e] at p6_15; exact mr_war_t hI5 (by omega) (by omega) hd7_27 hd7_38 (p6_15.symm.trans t6_15)) | exact mr_war_f hI5 (by omega) hd6_23 (p6_15.symm.trans t6_15))⟩)⟩)⟩⟩))⟩)))), fun z => (nomatch z)⟩, fun t6_15 => ⟨fun z => (nomatch z), fun _ => js_end (⟨_, (.keep (.keep (.keep (.keep (.keep (.keep (.drop .nil))))))), (by first | (have e := Option.some.inj (hd6_23.symm.trans hd7_27); rw [e] at p6_15; exact mr_war_t hI5 (by omega) (by omega) hd7_27 hd7_38 (p6_15.symm.trans t6_15)) | exact mr_war_f hI5 (by omega) hd6_23 (p6_15.symm.trans t6_15))⟩)⟩⟩⟩)))⟩))))))⟩, fun ts5_masks thI5 => js_end (⟨_, (.keep (.keep (.keep (.keep (.keep (.drop (.keep .nil))))))), (by exact MR.imp thI5 fun x y hx => by unfold WI; rw [if_pos hx])⟩)⟩))⟩, fun ts4_masks thI4 => js_frz (.s (.s .z)) fz_own (.s (.s .z)) .nil (js_ret (by decide) (je_var (.s (.s .z)) (⟨(), .nil, (by exact MR.imp thI4 fun x y _ => war_iff (ac_nil (n := v_size)).inR)⟩)))⟩))))⟩⟩⟩)⟩⟩)))))))
theorem ok_Plan_init0  (x : Fx K mg) : ∃ fd, ∃ F : FnOk P w K mg base CX0 3 (He.ma K (He.ga K "Plan") "__init__") fd ["self", "size", "pairs"] (spT (R := Unit) K (true :: List.replicate 2 false) (fun a : Int × EmpT => obj CPl [] :: (fun a : Int × EmpT => match a with | (z0, z1) => [sd z0, sd z1]) a) (fun a => 1 ≤ a.1 ∧ a.1 ≤ 20) (fun _ (o : PlanD) => [obj CPl o.fs]) (fun a _ o => o.size = a.1 ∧ o.okR (TC (Ed [])))), ∃ ds, Vals [V.ref (He.dflAt ("Plan", some "__init__") 0 K)] ds ∧ L2.Binds K fd ["self", "size", "pairs"] ds := by
  obtain ⟨fd, F⟩ := x.f_Plan_init
  refine ⟨fd, okT F sc_Plan_init (fun _ => rfl) (fun cdv A0 outer s H E a B hr hp => ?_), F.binds1 (ps := ["self", "size", "pairs"]) 2 0 (by simp) rfl (fun _ _ _ _ _ _ _ us its h1 h2 => match us, its, h1, h2 with | [_, _], [_], _, _ => ⟨_, rfl, by with_unfolding_all rfl⟩)⟩
  obtain ⟨v_size, v_pairs⟩ := a
  try dsimp only at hp ⊢
  have nd := (sc_Plan_init).nd
  exact js_expr (jg_of (je_callP ((ok_need_size x).mono (by decide)) hr pass0 (ja_cons (je_var (.s .z) (ja_nil (⟨_, rfl, rfl, (by exact ⟨hp.1, hp.2⟩), fun r1_8 p1_8 => js_expr (jg_of (je_callP ((ok_need_pairs0 x).mono (by decide)) hr pass0 (ja_cons (je_var (.s .z) (ja_cons (je_var (.s (.s .z)) (ja_nil (⟨⟨_, _⟩, rfl, rfl, (by trivial), fun r2_8 p2_8 => js_asgv nd (je_callP ((ok_closed_masks0 x).mono (by decide)) hr pass0 (ja_cons (je_var (.s .z) (ja_cons (je_var (.s (.s .z)) (ja_nil (⟨⟨_, _⟩, rfl, rfl, (by exact ⟨hp.1, hp.2⟩), fun r3_16 p3_16 => fun v_masks e_masks => ⟨_, (.s (.s (.s .z))), js_expr (jg_of (je_callP ((ok_need_no_loop x).mono (by decide)) hr pass0 (ja_cons (je_var (.s (.s (.s .z))) (ja_nil (⟨_, rfl, rfl, (by subst e_masks; have l1 := p3_16.1; exact ⟨by omega, _, _, p3_16, ac_loop (n := v_size) ac_nil⟩), fun r4_8 p4_8 => js_asgv nd (je_callP ((ok_next_masks x).mono (by decide)) hr pass0 (ja_cons (je_var (.s (.s (.s .z))) (ja_nil (⟨_, rfl, rfl, (by subst e_masks; have l1 := p3_16.1; omega), fun r5_16 p5_16 => fun v_close e_close => ⟨_, (.s (.s (.s (.s .z)))), js_fld .z x.c_Plan x.n_Plan_work_count (je_var (.s .z) (⟨_, _, .z, Nat.le_of_ble_eq_true rfl, .z, js_fld .z x.c_Plan x.n_Plan_after_masks (je_var (.s (.s (.s .z))) (⟨_, _, .z, Nat.le_of_ble_eq_true rfl, .z, js_fld .z x.c_Plan x.n_Plan_after_rows (je_callP ((ok_rows_out x).mono (by decide)) hr pass0 (ja_cons (je_var (.s (.s (.s .z))) (ja_nil (⟨_, rfl, rfl, (by subst e_masks; have l1 := p3_16.1; omega), fun r8_26 p8_26 => ⟨_, _, .z, Nat.le_of_ble_eq_true rfl, .z, js_fld .z x.c_Plan x.n_Plan_before_rows (je_callP ((ok_rows_in x).mono (by decide)) hr pass0 (ja_cons (je_var (.s (.s (.s .z))) (ja_nil (⟨_, rfl, rfl, (by subst e_masks; have l1 := p3_16.1; omega), fun r9_27 p9_27 => ⟨_, _, .z, Nat.le_of_ble_eq_true rfl, .z, js_fld .z x.c_Plan x.n_Plan_next_rows (je_callP ((ok_rows_out x).mono (by decide)) hr pass0 (ja_cons (je_var (.s (.s (.s (.s .z)))) (ja_nil (⟨_, rfl, rfl, (by subst e_masks e_close; have l1 := p3_16.1; omega), fun r10_25 p10_25 => ⟨_, _, .z, Nat.le_of_ble_eq_true rfl, .z, js_fld .z x.c_Plan x.n_Plan_prev_rows (je_callP ((ok_rows_in x).mono (by decide)) hr pass0 (ja_cons (je_var (.s (.s (.s (.s .z)))) (ja_nil (⟨_, rfl, rfl, (by subst e_masks e_close; have l1 := p3_16.1; omega), fun r11_25 p11_25 => ⟨_, _, .z, Nat.le_of_ble_eq_true rfl, .z, js_fld .z x.c_Plan x.n_Plan_pair_row (je_callP ((ok_pairs_of x).mono (by decide)) hr pass0 (ja_cons (je_fldo .z x.c_Plan x.n_Plan_after_rows rfl (ja_nil (⟨_, rfl, rfl, (by subst e_masks; have l1 := p3_16.1; rw [p8_26]; have h := rowsOut_len v_masks; exact ⟨by omega, fun r hr => by have := h.2 r hr; omega⟩), fun r12_24 p12_24 => ⟨_, _, .z, Nat.le_of_ble_eq_true rfl, .z, js_fld .z x.c_Plan x.n_Plan_cover_row (je_callP ((ok_pairs_of x).mono (by decide)) hr pass0 (ja_cons (je_fldo .z x.c_Plan x.n_Plan_next_rows rfl (ja_nil (⟨_, rfl, rfl, (by subst e_masks e_close; have l1 := p3_16.1; rw [p10_25]; have h := rowsOut_len v_close; exact ⟨by omega, fun r hr => by have := h.2 r hr; omega⟩), fun r13_25 p13_25 => ⟨_, _, .z, Nat.le_of_ble_eq_true rfl, .z, js_fall (d := ()) (by decide) (fun _ _ => rfl) (⟨⟨_, _, _, _, _, _, _, _⟩, (.cons .z .nil), (by subst e_masks e_close; exact ⟨rfl, ⟨hp.1, hp.2⟩, p3_16, by rw [p12_24, p8_26]⟩)⟩)⟩⟩)))))⟩⟩)))))⟩⟩)))))⟩⟩)))))⟩⟩)))))⟩⟩)))))⟩))⟩))⟩⟩)))))⟩))))))⟩⟩)))))))⟩))))))))⟩))))))
theorem sc_Plan_chain : FnScope ["cls", "size", "pairs", "x"] ["cls", "size"] (defScope (mth (top 18) 1)) := ⟨rfl, rfl, rfl, by decide +kernel, rfl, by decide +kernel, by decide +kernel⟩
theorem ok_Plan_chain  (x : Fx K mg) : OkA P w K mg base CX0 5 (cmG K "Plan" "chain") ["cls", "size"] (spP K 2 (fun (a : ((ClsD "Plan")) × Int) => match a with | (z0, z1) => [sd z0, sd z1]) (fun a => 1 ≤ a.2 ∧ a.2 ≤ 20) (fun a (r : PlanD) => r.size = a.2 ∧ PO r ((rgI 0 (a.2 - 1)).map fun x => (x, x + 1)))) := by
  obtain ⟨fd, F⟩ := x.f_Plan_chain
  refine ⟨⟨fd, okT F sc_Plan_chain (fun _ => rfl) (fun cdv A0 outer s H E a B hr hp => ?_), F.bindsN fun _ _ _ _ _ _ us hl => match us, hl with | [_, _], _ => rfl⟩⟩
  obtain ⟨v_cls, v_size⟩ := a
  try dsimp only at hp ⊢
  have nd := (sc_Plan_chain).nd
  exact js_expr (jg_of (je_callP ((ok_need_size x).mono (by decide)) hr pass0 (ja_cons (je_var (.s .z) (ja_nil (⟨_, rfl, rfl, (by first | omega | (simp only [St.ok] at *; omega) | (subst_vars; first | omega | (simp only [St.ok] at *; omega))), fun r1_8 p1_8 => js_newv (jnsf_R1 x.b_range rfl nd (nm := [("x", 3)]) (vs' := []) (show BlkOk ["cls", "size", "pairs", "x"] (defScope (mth (top 18) 1)) _ [("x", 3)] from ⟨rfl, by decide +kernel, by decide +kernel, by decide +kernel, by decide +kernel⟩) (by decide) (by decide) (fun it acc env => turn1_0 _ _ _ _ _ _) (fun m s H C cl fp => tw_name nd (by decide) (by decide)) (je_sub (je_var (.s .z) (je_int (⟨1, fun x ds => ds = [(x, x + 1)], (by first | omega | (simp only [St.ok] at *; omega) | (subst_vars; first | omega | (simp only [St.ok] at *; omega))), (by first | omega | (simp only [St.ok] at *; omega) | (subst_vars; first | omega | (simp only [St.ok] at *; omega))), (fun j hj => by simp at hj; subst hj; rfl), fun q0 hq00 hq01 => ⟨_, (.s (.s (.s .z))), fun m D => jts_nil (⟨fun _ => fun s H C cl fp => jq_elt rfl (fun m => je_pair (je_var (.s (.s (.s .z))) (je_add (je_var (.s (.s (.s .z))) (je_int (⟨(by rfl), (.keep (.keep (.keep (.drop .nil))))⟩)))))), fun z => (nomatch z)⟩)⟩, fun dss hds => ⟨_, rfl, fun v_pairs e_pairs => ⟨_, (.s (.s .z)), js_ret (by decide) (let ⟨_, mkF, mkB⟩ := ((ok_Plan_init x).mono (by decide)).ex; je_makeL .z fz_plan x.mk_Plan mkF hr mkB pass0 (ja_cons (je_var (.s .z) (ja_cons (je_var (.s (.s .z)) (ja_nil (⟨⟨_, _⟩, rfl, rfl, (by have e := e_pairs.trans (all2_map hds); have ac := ac_chain (n := v_size); rw [← e] at ac; exact ⟨hp.1, hp.2, ac.inR, ac_loop ac⟩), .nil, fun r3_15 p3_15 => ⟨(), .nil, (by have e := e_pairs.trans (all2_map hds); dsimp only at *; rw [e] at p3_15; exact ⟨p3_15.1, PO.made p3_15 ac_chain⟩)⟩⟩)))))))⟩⟩⟩)))) rfl)⟩))))))
theorem sc_Plan_free : FnScope ["cls", "size"] ["cls", "size"] (defScope (mth (top 18) 2)) := ⟨rfl, rfl, rfl, by decide +kernel, rfl, by decide +kernel, by decide +kernel⟩
theorem ok_Plan_free  (x : Fx K mg) : OkA P w K mg base CX0 5 (cmG K "Plan" "free") ["cls", "size"] (spP K 2 (fun (a : ((ClsD "Plan")) × Int) => match a with | (z0, z1) => [sd z0, sd z1]) (fun a => 1 ≤ a.2 ∧ a.2 ≤ 20) (fun a (r : PlanD) => r.size = a.2 ∧ PO r [])) := by
  obtain ⟨fd, F⟩ := x.f_Plan_free
  refine ⟨⟨fd, okT F sc_Plan_free (fun _ => rfl) (fun cdv A0 outer s H E a B hr hp => ?_), F.bindsN fun _ _ _ _ _ _ us hl => match us, hl with | [_, _], _ => rfl⟩⟩
  obtain ⟨v_cls, v_size⟩ := a
  try dsimp only at hp ⊢
  have nd := (sc_Plan_free).nd
  exact js_ret (by decide) (let ⟨_, mkF, _, mkV, mkB⟩ := ok_Plan_init0 x; je_makeD .z fz_plan x.mk_Plan (mkF.mono (by decide)) hr mkB mkV (fun _ => emp_ok x.e_Plan_init) pass0 (ja_cons (je_var (.s .z) (ja_nil (⟨⟨_, _⟩, rfl, rfl, (by exact ⟨hp.1, hp.2⟩), .nil, fun r1_15 p1_15 => ⟨(), .nil, (by dsimp only at *; exact ⟨p1_15.1, PO.made p1_15 ac_nil⟩)⟩⟩)))))
end
end Lw
end
section
namespace Lw
open PySem PySem.Spec PyProof.Rows L2 Tyl
/-- the rows of a relation -/
def TM (n : Nat) (rows : List (List Bool)) (R : Nat → Nat → Prop) : Prop := rows.length = n ∧ (∀ r ∈ rows, r.length = n) ∧ ∀ x y : Nat, x < n → y < n → (tb rows x y = true ↔ R x y)
theorem TM.imp {n : Nat} {rows : List (List Bool)} {R S : Nat → Nat → Prop} (h : TM n rows R) (k : ∀ x y, x < n → (R x y ↔ S x y)) : TM n rows S := ⟨h.1, h.2.1, fun x y hx hy => (h.2.2 x y hx hy).trans (k x y hx)⟩
theorem TM.row {n : Nat} {rows : List (List Bool)} {R : Nat → Nat → Prop} (h : TM n rows R) {x : Nat} {L : List Bool} (e : rows[x]? = some L) : L.length = n := h.2.1 L (List.mem_of_getElem? e)
theorem TM.rowd {n : Nat} {rows : List (List Bool)} {R : Nat → Nat → Prop} (h : TM n rows R) {x : Nat} (hx : x < n) : ((rows[x]?).getD []).length = n := h.row (row_get (by rw [h.1]; exact hx))
theorem TM.zero (n : Nat) : TM n (List.replicate n (List.replicate n [false]).flatten) fun _ _ => False := by
  have e : (List.replicate n [false]).flatten = List.replicate n false := by
    induction n with
    | zero => rfl
    | succ n ih => rw [List.replicate_succ, List.flatten_cons, ih]; rfl
  rw [e]
  refine ⟨by simp, fun r hr => by rw [List.eq_of_mem_replicate hr]; simp, fun x y hx hy => ?_⟩
  have : tb (List.replicate n (List.replicate n false)) x y = false := tb_of (r := List.replicate n false) (by simp [hx]) (by simp [hy])
  rw [this]
  simp
theorem TM.set {n : Nat} {rows : List (List Bool)} {R : Nat → Nat → Prop} (h : TM n rows R) {a b : Nat} (ha : a < n) (hb : b < n) : TM n (rows.set a (((rows[a]?).getD []).set b true)) (fun x y => R x y ∨ (x = a ∧ y = b)) := by
  have hl : a < rows.length := by rw [h.1]; exact ha
  have hr := h.rowd ha
  refine ⟨by rw [List.length_set]; exact h.1, fun r hm => ?_, fun x y hx hy => ?_⟩
  · rcases List.mem_or_eq_of_mem_set hm with q | q
    · exact h.2.1 r q
    · rw [q, List.length_set]; exact hr
  · by_cases e : x = a
    · subst e
      have h1 : (rows.set x (((rows[x]?).getD []).set b true))[((x : Nat) : Int).toNat]? = some (((rows[x]?).getD []).set b true) := by rw [Int.toNat_natCast, List.getElem?_set_self hl]
      have hy' : y < ((rows[x]?).getD []).length := by rw [hr]; exact hy
      by_cases e2 : y = b
      · subst e2
        rw [tb_of h1 (d := true) (by rw [Int.toNat_natCast, List.getElem?_set_self hy'])]
        simp
      · have h2 : (((rows[x]?).getD []).set b true)[((y : Nat) : Int).toNat]? = some (((rows[x]?).getD [])[y]) := by rw [Int.toNat_natCast, List.getElem?_set_ne (fun z => e2 z.symm), List.getElem?_eq_getElem hy']
        rw [tb_of h1 h2]
        have h3 : tb rows x y = ((rows[x]?).getD [])[y] := tb_of (by rw [Int.toNat_natCast]; exact row_get hl) (by rw [Int.toNat_natCast, List.getElem?_eq_getElem hy'])
        rw [← h3, h.2.2 x y hx hy]
        simp [e2]
    · have hx' : x < rows.length := by rw [h.1]; exact hx
      have hrx := h.rowd hx
      have hy' : y < ((rows[x]?).getD []).length := by rw [hrx]; exact hy
      have h1 : (rows.set a (((rows[a]?).getD []).set b true))[((x : Nat) : Int).toNat]? = some ((rows[x]?).getD []) := by rw [Int.toNat_natCast, List.getElem?_set_ne (fun z => e z.symm)]; exact row_get hx'
      have h2 : ((rows[x]?).getD [])[((y : Nat) : Int).toNat]? = some (((rows[x]?).getD [])[y]) := by rw [Int.toNat_natCast, List.getElem?_eq_getElem hy']
      rw [tb_of h1 h2]
      have h3 : tb rows x y = ((rows[x]?).getD [])[y] := tb_of (by rw [Int.toNat_natCast]; exact row_get hx') h2
      rw [← h3, h.2.2 x y hx hy]
      simp [e]
def WB (R : Nat → Nat → Prop) (c a b x y : Nat) : Prop := WI R c a x y ∨ (x = a ∧ y < b ∧ War R c c y)
theorem tm_pair {n : Nat} {rows : List (List Bool)} {L : List (Int × Int)} {p : Int × Int} (h : TM n rows (Ed L)) (h0 : 0 ≤ p.1) (h0n : p.1.toNat < n) (h1 : 0 ≤ p.2) (h1n : p.2.toNat < n) : TM n (rows.set p.1.toNat (((rows[p.1.toNat]?).getD []).set p.2.toNat true)) (Ed (L ++ [p])) := by
  refine (h.set h0n h1n).imp fun x y _ => ?_
  unfold Ed
  rw [List.mem_append, List.mem_singleton]
  refine or_congr Iff.rfl ?_
  constructor
  · rintro ⟨rfl, rfl⟩
    apply Prod.ext <;> dsimp only <;> omega
  · intro e
    have e1 : (x : Int) = p.1 := congrArg Prod.fst e
    have e2 : (y : Int) = p.2 := congrArg Prod.snd e
    omega
theorem tm_read {n : Nat} {rows : List (List Bool)} {R : Nat → Nat → Prop} (h : TM n rows R) {x y : Nat} (hx : x < n) (hy : y < n) {L : List Bool} {d : Bool} (h1 : rows[((x : Nat) : Int).toNat]? = some L) (h2 : L[((y : Nat) : Int).toNat]? = some d) : d = true ↔ R x y := by
  rw [← tb_of h1 h2]
  exact h.2.2 x y hx hy
theorem wb_row {R : Nat → Nat → Prop} {c a b y : Nat} (hne : a ≠ c) : WB R c a b c y ↔ War R c c y := by
  unfold WB WI
  constructor
  · rintro (w | ⟨e, _⟩)
    · split at w
      · exact war_row.mp w
      · exact w
    · exact absurd e.symm hne
  · intro w
    left
    split
    · exact war_row.mpr w
    · exact w
theorem tm_step_t {n : Nat} {rows : List (List Bool)} {R : Nat → Nat → Prop} {c a b : Nat} (h : TM n rows (WB R c a b)) (ha : a < n) (hb : b < n) (hw : War R c c b) : TM n (rows.set a (((rows[a]?).getD []).set b true)) (WB R c a (b + 1)) := by
  refine (h.set ha hb).imp fun x y _ => ?_
  unfold WB
  constructor
  · rintro ((w | ⟨e, hy, w⟩) | ⟨e, e2⟩)
    · exact .inl w
    · exact .inr ⟨e, by omega, w⟩
    · subst e2; exact .inr ⟨e, by omega, hw⟩
  · rintro (w | ⟨e, hy, w⟩)
    · exact .inl (.inl w)
    · by_cases e2 : y = b
      · exact .inr ⟨e, e2⟩
      · exact .inl (.inr ⟨e, by omega, w⟩)
theorem tm_step_f {n : Nat} {rows : List (List Bool)} {R : Nat → Nat → Prop} {c a b : Nat} (h : TM n rows (WB R c a b)) (hw : ¬ War R c c b) : TM n rows (WB R c a (b + 1)) := by
  refine h.imp fun x y _ => ?_
  unfold WB
  constructor
  · rintro (w | ⟨e, hy, w⟩)
    · exact .inl w
    · exact .inr ⟨e, by omega, w⟩
  · rintro (w | ⟨e, hy, w⟩)
    · exact .inl w
    · by_cases e2 : y = b
      · subst e2; exact absurd w hw
      · exact .inr ⟨e, by omega, w⟩
theorem tm_row_end {n : Nat} {rows : List (List Bool)} {R : Nat → Nat → Prop} {c a : Nat} (hR : ∀ x y, R x y → x < n ∧ y < n) (h : TM n rows (WB R c a n)) (hw : War R c a c) : TM n rows (WI R c (a + 1)) := by
  refine ⟨h.1, h.2.1, fun x y hx hy => (h.2.2 x y hx hy).trans ?_⟩
  unfold WB WI
  by_cases e1 : x = a
  · subst e1
    rw [if_neg (Nat.lt_irrefl _), if_pos (Nat.lt_succ_self _)]
    constructor
    · rintro (w | ⟨_, _, w⟩)
      · exact .inl w
      · exact .inr ⟨hw, w⟩
    · rintro (w | ⟨_, w⟩)
      · exact .inl w
      · exact .inr ⟨rfl, hy, w⟩
  · by_cases e2 : x < a
    · rw [if_pos e2, if_pos (by omega)]
      simp [e1]
    · rw [if_neg e2, if_neg (by omega)]
      simp [e1]
theorem tm_row_same {n : Nat} {rows : List (List Bool)} {R : Nat → Nat → Prop} {c : Nat} (h : TM n rows (WI R c c)) : TM n rows (WI R c (c + 1)) := by
  refine h.imp fun x y _ => ?_
  unfold WI
  by_cases e1 : x = c
  · subst e1
    rw [if_neg (Nat.lt_irrefl _), if_pos (Nat.lt_succ_self _)]
    exact war_row.symm
  · by_cases e2 : x < c
    · rw [if_pos e2, if_pos (by omega)]
    · rw [if_neg e2, if_neg (by omega)]
theorem tm_row_f {n : Nat} {rows : List (List Bool)} {R : Nat → Nat → Prop} {c a : Nat} (h : TM n rows (WI R c a)) (hw : ¬ War R c a c) : TM n rows (WI R c (a + 1)) := by
  refine h.imp fun x y _ => ?_
  unfold WI
  by_cases e1 : x = a
  · subst e1
    rw [if_neg (Nat.lt_irrefl _), if_pos (Nat.lt_succ_self _)]
    constructor
    · exact .inl
    · rintro (w | ⟨w, _⟩)
      · exact w
      · exact absurd w hw
  · by_cases e2 : x < a
    · rw [if_pos e2, if_pos (by omega)]
    · rw [if_neg e2, if_neg (by omega)]
section
variable {P : Program} {w : World} {K : Fg} {mg : Str → Option Value} {base : Heap}
theorem sc_law_close : FnScope ["size", "pairs", "table", "k", "a", "b", "row", "c"] ["size", "pairs"] (defScope (top 39)) := ⟨rfl, rfl, rfl, by decide +kernel, rfl, by decide +kernel, by decide +kernel⟩
theorem ok_law_close  (x : Fx K mg) : OkF P w K mg base CX0 1 "_law_close" ["size", "pairs"] (spP K 2 (fun (a : Int × (List (Int × Int))) => match a with | (z0, z1) => [sd z0, sd z1]) (fun a => 0 ≤ a.1 ∧ a.1 ≤ 20 ∧ InR a.1 a.2) (fun a (r : List (List Bool)) => TM a.1.toNat r (TC (Ed a.2)))) := by
  obtain ⟨fd, F⟩ := x.f_law_close
  refine ⟨⟨fd, okT F sc_law_close (fun _ => rfl) (fun cdv A0 outer s H E a B hr hp => ?_), F.bindsN fun _ _ _ _ _ _ us hl => match us, hl with | [_, _], _ => rfl⟩, x.g_law_close, F.kp⟩
  obtain ⟨v_size, v_pairs⟩ := a
  try dsimp only at hp ⊢
  have nd := (sc_law_close).nd
  have hps : PassesOwn (model (cxOf CX0 P w K mg base ["size", "pairs", "table", "k", "a", "b", "row", "c"] "_law_close" (defScope (top 39)) (He.ga K "_law_close") cdv A0 outer s H E).prog (cxOf CX0 P w K mg base ["size", "pairs", "table", "k", "a", "b", "row", "c"] "_law_close" (defScope (top 39)) (He.ga K "_law_close") cdv A0 outer s H E).w) (cxOf CX0 P w K mg base ["size", "pairs", "table", "k", "a", "b", "row", "c"] "_law_close" (defScope (top 39)) (He.ga K "_law_close") cdv A0 outer s H E).A (cxOf CX0 P w K mg base ["size", "pairs", "table", "k", "a", "b", "row", "c"] "_law_close" (defScope (top 39)) (He.ga K "_law_close") cdv A0 outer s H E).env (cxOf CX0 P w K mg base ["size", "pairs", "table", "k", "a", "b", "row", "c"] "_law_close" (defScope (top 39)) (He.ga K "_law_close") cdv A0 outer s H E).xe := PassesOwn.leaving
  exact js_tabL (nm := [("k", 3)]) x.b_range rfl nd (show BlkOk ["size", "pairs", "table", "k", "a", "b", "row", "c"] (defScope (top 39)) _ [("k", 3)] from ⟨rfl, by decide +kernel, by decide +kernel, by decide +kernel, by decide +kernel⟩) (by decide) (fun it acc env => turn1_0 _ _ _ _ _ _) (fun m s H C cl fp => tw_name nd (by decide) (by decide)) (je_var .z (⟨_, (by first | omega | (simp only [St.ok] at *; omega) | (subst_vars; first | omega | (simp only [St.ok] at *; omega))), (fun j hj => by simp at hj; subst hj; rfl), fun q0 hq0 => ⟨_, (.s (.s (.s .z))), fun s H C cl fp m => jn_rep (je_new (jn_lst (ja_cons (je_bl (ja_nil (⟨[_], rfl, by simp, ⟨[_], rfl, je_var .z (⟨(by simp; omega), ⟨rfl, (.keep (.keep (.keep (.drop (.keep (.keep (.keep (.keep .nil))))))))⟩⟩)⟩⟩))))))⟩, fun p_table ps_table hps_table => ⟨_, (.s (.s .z)), js_for (fun m => tg_pair rfl nd (by decide) (by decide)) hps rfl (je_var (.s .z) (⟨((List (List Bool))), (fun (z0 : ((List (List Bool)))) => [(2, some (tab p_table ps_table (rws z0)))]), fun (i : Nat) (s : ((List (List Bool)))) => TM v_size.toNat s (Ed (v_pairs.take i)), ⟨_, (.keep (.keep (.keep (.keep (.keep (.keep (.keep (.keep .nil)))))))), (by exact (TM.zero _).imp fun x y _ => by simp [Ed])⟩, fun m i2 s2_table x2 hi2 hI2 => ⟨_, ⟨_, (.s (.s (.s (.s .z)))), (.s (.s (.s (.s (.s .z)))))⟩, js_rowof nd (.s (.s .z)) (je_var (.s (.s (.s (.s .z)))) (⟨_, _, _, (.s (.s .z)), (by have b2 := hp.2.2 _ (List.mem_of_getElem? hi2); have h := hI2.1; omega), fun a_row ha_row => ⟨_, (.s (.s (.s (.s (.s (.s .z)))))), js_setRow (.s (.s (.s (.s (.s (.s .z)))))) (je_bl (⟨(.s (.s (.s (.s (.s (.s .z)))))), je_var (.s (.s (.s (.s (.s .z))))) (⟨_, _, _, _, _, _, (.s (.s (.s (.s (.s (.s .z)))))), (.s (.s .z)), ha_row, (row_get (by have b2 := hp.2.2 _ (List.mem_of_getElem? hi2); have h := hI2.1; omega)), (by have b2 := hp.2.2 _ (List.mem_of_getElem? hi2); have h := hI2.rowd (x := x2.1.toNat) (by omega); omega), (.s (.s .z)), js_end (⟨_, (.keep (.keep (.keep (.keep (.drop (.drop (.drop (.keep .nil)))))))), (by have b2 := hp.2.2 _ (List.mem_of_getElem? hi2); show TM _ _ (Ed (List.take (i2 + 1) v_pairs)); rw [take_s hi2]; exact tm_pair hI2 b2.1 (by omega) b2.2.2.1 (by omega))⟩)⟩)⟩))⟩⟩))⟩, fun ts2_table thI2 => js_range nd x.b_range hps rfl (je_var .z (⟨((List (List Bool))), (fun (z0 : ((List (List Bool)))) => [(2, some (tab p_table ps_table (rws z0)))]), fun (i : Nat) (s : ((List (List Bool)))) => TM v_size.toNat s (War (Ed v_pairs) i), (by first | omega | (simp only [St.ok] at *; omega) | (subst_vars; first | omega | (simp only [St.ok] at *; omega))), ⟨_, (.keep (.keep (.keep (.keep (.keep (.keep (.keep (.keep .nil)))))))), (by have h := thI2; dsimp only at h; rw [List.take_length] at h; exact h.imp fun x y _ => Iff.rfl)⟩, fun i5 s5_table hi5 hI5 => ⟨_, (.s (.s (.s (.s (.s (.s (.s .z))))))), js_range nd x.b_range hps rfl (je_var .z (⟨((List (List Bool))), (fun (z0 : ((List (List Bool)))) => [(2, some (tab p_table ps_table (rws z0)))]), fun (i : Nat) (s : ((List (List Bool)))) => TM v_size.toNat s (WI (Ed v_pairs) i5 i), (by first | omega | (simp only [St.ok] at *; omega) | (subst_vars; first | omega | (simp only [St.ok] at *; omega))), ⟨_, (.keep (.keep (.keep (.keep (.keep (.keep (.keep (.keep .nil)))))))), (by exact TM.imp hI5 fun x y _ => by unfold WI; simp)⟩, fun i6 s6_table hi6 hI6 => ⟨_, (.s (.s (.s (.s .z)))), js_if1 (jt_w (jw_and (jt_bool (je_ixT (.s (.s .z)) (je_var (.s (.s (.s (.s .z)))) (⟨_, _, _, (.s (.s .z)), (by have h := hI6.1; omega), je_var (.s (.s (.s (.s (.s (.s (.s .z))))))) (⟨_, (.s (.s .z)), fun L7_15e hL7_15e => ⟨(by have h := hI6.row hL7_15e; omega), fun d7_15e hd7_15e => ⟨fun t7_15e => ⟨fun z => (nomatch z), fun _ => jw_and1 (jt_ne (je_var (.s (.s (.s (.s .z)))) (je_var (.s (.s (.s (.s (.s (.s (.s .z))))))) (⟨fun t7_31 => ⟨fun _ => js_rowof nd (.s (.s .z)) (je_var (.s (.s (.s (.s .z)))) (⟨_, _, _, (.s (.s .z)), (by have h := hI6.1; omega), fun a_row ha_row => ⟨_, (.s (.s (.s (.s (.s (.s .z)))))), js_range nd x.b_range hps rfl (je_var .z (⟨((List (List Bool))), (fun (z0 : ((List (List Bool)))) => [(2, some (tab p_table ps_table (rws z0)))]), fun (i : Nat) (s : ((List (List Bool)))) => TM v_size.toNat s (WB (Ed v_pairs) i5 i6 i), (by first | omega | (simp only [St.ok] at *; omega) | (subst_vars; first | omega | (simp only [St.ok] at *; omega))), ⟨_, (.keep (.keep (.keep (.keep (.keep (.keep (.keep (.keep .nil)))))))), (by exact TM.imp hI6 fun x y _ => by unfold WB; simp)⟩, fun i9 s9_table hi9 hI9 => ⟨_, (.s (.s (.s (.s (.s .z))))), js_if1 (jt_bool (je_ixT (.s (.s .z)) (je_var (.s (.s (.s (.s (.s (.s (.s .z))))))) (⟨_, _, _, (.s (.s .z)), (by have h := hI9.1; omega), je_var (.s (.s (.s (.s (.s .z))))) (⟨_, (.s (.s .z)), fun L10_23e hL10_23e => ⟨(by have h := hI9.row hL10_23e; omega), fun d10_23e hd10_23e => ⟨fun t10_23e => ⟨fun _ => js_setRow (.s (.s (.s (.s (.s (.s .z)))))) (je_bl (⟨(.s (.s (.s (.s (.s (.s .z)))))), je_var (.s (.s (.s (.s (.s .z))))) (⟨_, _, _, _, _, _, (.s (.s (.s (.s (.s (.s .z)))))), (.s (.s .z)), ha_row, (row_get (by have h := hI9.1; omega)), (by have h := hI9.rowd (x := ((i6 : Nat) : Int).toNat) (by omega); omega), (.s (.s .z)), js_end (⟨_, (.keep (.keep (.keep (.keep (.keep (.drop (.keep (.keep .nil)))))))), (by have q := (tm_read hI9 (x := i5) (y := i9) (by omega) (by omega) hL10_23e hd10_23e).trans (wb_row (by omega)); first | (have z := tm_step_t hI9 (by omega) (by omega) (q.mp t10_23e); simpa only [Int.toNat_natCast] using z) | exact tm_step_f hI9 (fun w => by rw [q.mpr w] at t10_23e; cases t10_23e))⟩)⟩)⟩)), fun z => (nomatch z)⟩, fun t10_23e => ⟨fun z => (nomatch z), fun _ => js_end (⟨_, (.keep (.keep (.keep (.keep (.keep (.drop (.keep (.keep .nil)))))))), (by have q := (tm_read hI9 (x := i5) (y := i9) (by omega) (by omega) hL10_23e hd10_23e).trans (wb_row (by omega)); first | (have z := tm_step_t hI9 (by omega) (by omega) (q.mp t10_23e); simpa only [Int.toNat_natCast] using z) | exact tm_step_f hI9 (fun w => by rw [q.mpr w] at t10_23e; cases t10_23e))⟩)⟩⟩⟩⟩)⟩))))⟩, fun ts9_table thI9 => js_end (⟨_, (.keep (.keep (.keep (.keep (.drop (.keep (.drop (.keep .nil)))))))), (by have q := tm_read hI6 (x := i6) (y := i5) (by omega) (by omega) hL7_15e hd7_15e; have q2 : WI (Ed v_pairs) i5 i6 i6 i5 ↔ War (Ed v_pairs) i5 i6 i5 := (by unfold WI; rw [if_neg (Nat.lt_irrefl _)]); first | exact tm_row_end (fun x y r => (hp.2.2.e x y r)) thI9 (q2.mp (q.mp t7_15e)) | (have e : i6 = i5 := (by omega); subst e; exact tm_row_same hI6) | exact tm_row_f hI6 (fun w => by rw [q.mpr (q2.mpr w)] at t7_15e; cases t7_15e))⟩)⟩))⟩⟩)), fun z => (nomatch z)⟩, fun t7_31 => ⟨fun z => (nomatch z), fun _ => js_end (⟨_, (.keep (.keep (.keep (.keep (.drop (.keep (.keep (.keep .nil)))))))), (by have q := tm_read hI6 (x := i6) (y := i5) (by omega) (by omega) hL7_15e hd7_15e; have q2 : WI (Ed v_pairs) i5 i6 i6 i5 ↔ War (Ed v_pairs) i5 i6 i5 := (by unfold WI; rw [if_neg (Nat.lt_irrefl _)]); first | exact tm_row_end (fun x y r => (hp.2.2.e x y r)) thI9 (q2.mp (q.mp t7_15e)) | (have e : i6 = i5 := (by omega); subst e; exact tm_row_same hI6) | exact tm_row_f hI6 (fun w => by rw [q.mpr (q2.mpr w)] at t7_15e; cases t7_15e))⟩)⟩⟩))))⟩, fun t7_15e => ⟨fun _ => ⟨fun z => (nomatch z), fun _ => js_end (⟨_, (.keep (.keep (.keep (.keep (.drop (.keep (.keep (.keep .nil)))))))), (by have q := tm_read hI6 (x := i6) (y := i5) (by omega) (by omega) hL7_15e hd7_15e; have q2 : WI (Ed v_pairs) i5 i6 i6 i5 ↔ War (Ed v_pairs) i5 i6 i5 := (by unfold WI; rw [if_neg (Nat.lt_irrefl _)]); first | exact tm_row_end (fun x y r => (hp.2.2.e x y r)) thI9 (q2.mp (q.mp t7_15e)) | (have e : i6 = i5 := (by omega); subst e; exact tm_row_same hI6) | exact tm_row_f hI6 (fun w => by rw [q.mpr (q2.mpr w)] at t7_15e; cases t7_15e))⟩)⟩, fun z => (nomatch z)⟩⟩⟩⟩)⟩))))))⟩, fun ts6_table thI6 => js_end (⟨_, (.keep (.keep (.keep (.keep (.keep (.keep (.keep (.drop .nil)))))))), (by exact ⟨thI6.1, thI6.2.1, fun x y hx hy => (thI6.2.2 x y hx hy).trans (by unfold WI; rw [if_pos hx])⟩)⟩)⟩))⟩, fun ts5_table thI5 => js_frz (.s (.s .z)) fz_tab (.s (.s .z)) .nil (js_ret (by decide) (je_var (.s (.s .z)) (⟨(), .nil, (by exact TM.imp thI5 fun x y _ => war_iff hp.2.2)⟩)))⟩))⟩))⟩⟩)) rfl
end
end Lw
end
section
namespace Lw
open PySem PySem.Spec PyProof.Rows L2 Tyl
theorem mr_eq {n : Nat} {a b : List Int} {R S : Nat → Nat → Prop} (h : MR n a R) (k : MR n b S) (e : ∀ x y, R x y ↔ S x y) : a = b := by
  apply List.ext_getElem?
  intro i
  by_cases hi : i < n
  · obtain ⟨m1, p1, q1⟩ := h.2 i hi
    obtain ⟨m2, p2, q2⟩ := k.2 i hi
    have em : m1 = m2 := Nat.eq_of_testBit_eq fun y => Bool.eq_iff_iff.mpr ((q1 y).trans ((e i y).trans (q2 y).symm))
    rw [p1, p2, em]
  · rw [List.getElem?_eq_none (by rw [h.1]; omega), List.getElem?_eq_none (by rw [k.1]; omega)]
theorem PO.eqs {d o : PlanD} {ps qs : List (Int × Int)} (h : PO d ps) (k : PO o qs) (hs : d.size = o.size) (e : ∀ x y, TC (Ed ps) x y ↔ TC (Ed qs) x y) : d.size = o.size ∧ d.masks = o.masks :=
  ⟨hs, mr_eq h.1.2.1 (hs ▸ k.1.2.1) e⟩
theorem flat_cg {α β : Type} {f g : α → List β} : ∀ {L : List α}, (∀ a ∈ L, f a = g a) → L.flatMap f = L.flatMap g
  | [], _ => rfl
  | a :: L, h => by rw [List.flatMap_cons, List.flatMap_cons, h a (by simp), flat_cg fun b hb => h b (List.mem_cons_of_mem _ hb)]
theorem rel_eq {d : PlanD} {ps : List (Int × Int)} {rows : List (List Bool)} (h : PO d ps) (t : TM d.size.toNat rows (TC (Ed ps))) : relF rows = d.prow := by
  have hm := h.1.2.1
  have hs := h.1.1
  rw [h.1.2.2]
  unfold relF pairsOf
  have l1 : (rows.length : Int) = d.size := by rw [t.1]; omega
  have l2 : ((rowsOut d.masks).length : Int) = d.size := by rw [(rowsOut_len d.masks).1, hm.1]; omega
  have l3 : (d.masks.length : Int) = d.size := by rw [hm.1]; omega
  rw [l1, l2]
  refine flat_cg fun a ha => ?_
  obtain ⟨a0, a1⟩ := rgI_mem.mp ha
  unfold relRow rowsOut
  rw [l1, l3, List.getElem?_map, rgI_at (i := a.toNat) (by omega), show ((a.toNat : Nat) : Int) = a from by omega]
  show _ = List.map _ (List.filter (fun y => bit (at0 d.masks a) y) (rgI 0 d.size))
  refine congrArg _ (List.filter_congr fun b hb => ?_)
  obtain ⟨b0, b1⟩ := rgI_mem.mp hb
  have q1 := t.2.2 a.toNat b.toNat (by omega) (by omega)
  rw [show ((a.toNat : Nat) : Int) = a from by omega, show ((b.toNat : Nat) : Int) = b from by omega] at q1
  obtain ⟨m1, p1, _⟩ := hm.2 a.toNat (by omega)
  have q2 := hm.bit (x := a.toNat) (by omega) p1 b.toNat
  rw [show ((b.toNat : Nat) : Int) = b from by omega] at q2
  rw [at0_of p1]
  exact Bool.eq_iff_iff.mpr (q1.trans q2.symm)
theorem smU_pairs {L : List (Int × Int)} (h : L.length ≤ 100000) : smU 6 (ToU.to (n := 6) L) := by
  refine ⟨?_, fun x hx => ?_⟩
  · show (List.map _ L).length ≤ 100000
    rw [List.length_map]; exact h
  · obtain ⟨q, _, rfl⟩ := List.mem_map.mp hx
    refine ⟨by show 2 ≤ 100000; omega, fun y hy => ?_⟩
    have hy : y ∈ [Uv.int q.1, Uv.int q.2] := hy
    rw [List.mem_cons, List.mem_singleton] at hy
    rcases hy with rfl | rfl <;> exact smU_flat rfl
theorem Ac.rev {n : Int} {ps : List (Int × Int)} (h : Ac n ps) : Ac n ps.reverse := h.sub fun p hp => List.mem_reverse.mp hp
section
variable {P : Program} {w : World} {K : Fg} {mg : Str → Option Value} {base : Heap}
theorem sc_Plan_eq : FnScope ["self", "other"] ["self", "other"] (defScope (mth (top 18) 14)) := ⟨rfl, rfl, rfl, by decide +kernel, rfl, by decide +kernel, by decide +kernel⟩
theorem ok_Plan_eq  (x : Fx K mg) : OkA P w K mg base CX0 2 (He.ma K (He.ga K "Plan") "__eq__") ["self", "other"] (spP K 2 (fun (a : PlanD × PlanD) => match a with | (z0, z1) => [sd z0, sd z1]) (fun a => a.1.size = a.2.size ∧ a.1.masks = a.2.masks) (fun a (r : Bool) => r = true)) := by
  obtain ⟨fd, F⟩ := x.f_Plan_eq
  refine ⟨⟨fd, okT F sc_Plan_eq (fun _ => rfl) (fun cdv A0 outer s H E a B hr hp => ?_), F.bindsN fun _ _ _ _ _ _ us hl => match us, hl with | [_, _], _ => rfl⟩⟩
  obtain ⟨v_self, v_other⟩ := a
  try dsimp only at hp ⊢
  obtain ⟨z1, z2, z3, z4, z5, z6, z7, z8⟩ := v_self
  obtain ⟨y1, y2, y3, y4, y5, y6, y7, y8⟩ := v_other
  have nd := (sc_Plan_eq).nd
  exact js_ifR (jt_not (jt_bool (je_isi x.b_isinstance x.g_Plan x.i_Plan x.c_Plan (je_var (.s .z) (⟨fun t1_15 => ⟨fun z => (nomatch z), fun _ => js_ret (by decide) (je_and (je_eq (je_fld (C := fun K => He.ga K "Plan") x.c_Plan x.n_Plan_work_count (je_var .z (⟨_, rfl, je_fld (C := fun K => He.ga K "Plan") x.c_Plan x.n_Plan_work_count (je_var (.s .z) (⟨_, rfl, ⟨fun b3_15 => ⟨(), .nil, (by first | rfl | (exfalso; simp_all; done) | (simp_all; done))⟩, fun b3_15 => je_one (je_eqI (hr.mono (by decide)) (je_fld (C := fun K => He.ga K "Plan") x.c_Plan x.n_Plan_after_masks (je_var .z (⟨_, rfl, je_fld (C := fun K => He.ga K "Plan") x.c_Plan x.n_Plan_after_masks (je_var (.s .z) (⟨_, rfl, ⟨(by exact hp.2), ⟨(), .nil, (by first | rfl | (exfalso; simp_all; done) | (simp_all; done))⟩⟩⟩))⟩))))⟩⟩))⟩)))))⟩, fun t1_15 => ⟨fun _ => js_ret (by decide) (je_bl (⟨(), .nil, (by exfalso; simp_all)⟩)), fun z => (nomatch z)⟩⟩)))))
theorem sc_law_is_plan : FnScope ["plan", "size", "pairs", "related", "twin"] ["plan", "size", "pairs"] (defScope (top 55)) := ⟨rfl, rfl, rfl, by decide +kernel, rfl, by decide +kernel, by decide +kernel⟩
theorem ok_law_is_plan  (x : Fx K mg) : OkF P w K mg base CX0 8 "_law_is_plan" ["plan", "size", "pairs"] (spP K 3 (fun (a : PlanD × Int × (List (Int × Int))) => match a with | (z0, z1, z2) => [sd z0, sd z1, sd z2]) (fun a => a.2.1 = a.1.size ∧ PO a.1 a.2.2) (fun a (r : Bool) => r = true)) := by
  obtain ⟨fd, F⟩ := x.f_law_is_plan
  refine ⟨⟨fd, okT F sc_law_is_plan (fun _ => rfl) (fun cdv A0 outer s H E a B hr hp => ?_), F.bindsN fun _ _ _ _ _ _ us hl => match us, hl with | [_, _, _], _ => rfl⟩, x.g_law_is_plan, F.kp⟩
  obtain ⟨v_plan, v_size, v_pairs⟩ := a
  try dsimp only at hp ⊢
  have nd := (sc_law_is_plan).nd
  exact js_ifR (jt_w (jw_or (jt_not (jt_bool (je_isi x.b_isinstance x.g_Plan x.i_Plan x.c_Plan (je_var .z (⟨fun t1_11 => ⟨fun z => (nomatch z), fun _ => jw_or1 (jt_not (jt_bool (je_callP ((ok_law_same6 x).mono (by decide)) hr pass0 (ja_cons (je_u (α := Int) (je_prop x.c_Plan x.p_Plan_size ((ok_Plan_size x).mono (by decide)) hr (je_var .z (⟨_, rfl, rfl, (by trivial), fun r1_51 p1_51 => ja_cons (je_u (α := Int) (je_var (.s .z) (ja_nil (⟨⟨_, _⟩, rfl, rfl, (by exact ⟨by rw [p1_51, hp.1], smU_flat rfl⟩), fun r1_41 p1_41 => ⟨fun t1_41 => ⟨fun z => (nomatch z), fun _ => js_asgv nd (je_callP ((ok_law_related x).mono (by decide)) hr pass0 (ja_cons (je_callP ((ok_law_close x).mono (by decide)) hr pass0 (ja_cons (je_var (.s .z) (ja_cons (je_var (.s (.s .z)) (ja_nil (⟨⟨_, _⟩, rfl, rfl, (by have b := hp.2.1.1; have r := hp.2.2.inR; rw [← hp.1] at r; exact ⟨by omega, by omega, r⟩), fun r3_27 p3_27 => ja_nil (⟨_, rfl, rfl, (by have b := hp.2.1.1; have t := p3_27; exact ⟨by rw [t.1]; omega, fun r hr => by rw [t.2.1 r hr, t.1]⟩), fun r3_14 p3_14 => fun v_related e_related => ⟨_, (.s (.s (.s .z))), js_ifR (jt_not (jt_bool (je_callP ((ok_law_same6 x).mono (by decide)) hr pass0 (ja_cons (je_u (α := List (Int × Int)) (je_meth0 x.c_Plan x.m_Plan_related ((ok_Plan_related x).mono (by decide)) hr pass0 (je_var .z (⟨rfl, _, rfl, rfl, (by trivial), fun r4_21 p4_21 => ja_cons (je_u (α := List (Int × Int)) (je_var (.s (.s (.s .z))) (ja_nil (⟨⟨_, _⟩, rfl, rfl, (by have er : r3_14 = v_plan.prow := p3_14.trans (rel_eq hp.2 (by rw [← hp.1]; exact p3_27)); exact ⟨by rw [p4_21, e_related, er], smU_pairs (by rw [p4_21]; have := prow_len hp.2; omega)⟩), fun r4_11 p4_11 => ⟨fun t4_11 => ⟨fun z => (nomatch z), fun _ => js_asgv nd (let ⟨_, mkF, mkB⟩ := ((ok_Plan_init x).mono (by decide)).ex; je_make fz_plan x.mk_Plan mkF hr x.g_Plan mkB pass0 (ja_cons (je_var (.s .z) (ja_cons (je_new (jn_rev (je_var (.s (.s (.s .z))) (⟨_, rfl, ja_nil (⟨⟨_, _⟩, rfl, rfl, (by have er : r3_14 = v_plan.prow := p3_14.trans (rel_eq hp.2 (by rw [← hp.1]; exact p3_27)); have ac := hp.2.self.2.rev; rw [← er, ← e_related, ← hp.1] at ac; have b := hp.2.1.1; exact ⟨by omega, by omega, ac.inR, ac_loop ac⟩), .nil, fun r6_11 p6_11 => fun v_twin e_twin => ⟨_, (.s (.s (.s (.s .z)))), js_ret (by decide) (je_and (je_callP ((ok_law_same6 x).mono (by decide)) hr pass0 (ja_cons (je_u (α := Bool) (je_eqC ((ok_Plan_eq x).mono (by decide)) x.q_Plan.hs x.q_Plan.hf hr pass0 (je_var .z (je_var (.s (.s (.s (.s .z)))) (⟨⟨⟨_, _⟩, rfl, (by have er : r3_14 = v_plan.prow := p3_14.trans (rel_eq hp.2 (by rw [← hp.1]; exact p3_27)); have ac := hp.2.self.2.rev; rw [← er, ← e_related, ← hp.1] at ac; exact PO.eqs hp.2.self (PO.made (e_twin ▸ p6_11) ac) (by rw [e_twin, p6_11.1, hp.1]) (fun x y => tc_congr fun a b => by rw [e_related, er]; exact List.mem_reverse.symm))⟩, ja_cons (je_u (α := Bool) (je_bl (ja_nil (⟨⟨_, _⟩, rfl, rfl, (by exact ⟨rfl, smU_flat rfl⟩), fun r7_11 p7_11 => ⟨fun b7_11 => ⟨(), .nil, (by first | exact p7_45 | exact p7_11 | (simp_all; done))⟩, fun b7_11 => je_one (je_callP ((ok_law_same6 x).mono (by decide)) hr pass0 (ja_cons (je_u (α := Bool) (je_neC ((ok_Plan_eq x).mono (by decide)) x.q_Plan.hm x.q_Plan.hn x.q_Plan.hs x.q_Plan.hf hr pass0 (je_var .z (je_var (.s (.s (.s (.s .z)))) (⟨⟨⟨_, _⟩, rfl, (by have er : r3_14 = v_plan.prow := p3_14.trans (rel_eq hp.2 (by rw [← hp.1]; exact p3_27)); have ac := hp.2.self.2.rev; rw [← er, ← e_related, ← hp.1] at ac; exact PO.eqs hp.2.self (PO.made (e_twin ▸ p6_11) ac) (by rw [e_twin, p6_11.1, hp.1]) (fun x y => tc_congr fun a b => by rw [e_related, er]; exact List.mem_reverse.symm))⟩, ja_cons (je_u (α := Bool) (je_bl (ja_nil (⟨⟨_, _⟩, rfl, rfl, (by exact ⟨rfl, smU_flat rfl⟩), fun r7_45 p7_45 => ⟨(), .nil, (by first | exact p7_45 | exact p7_11 | (simp_all; done))⟩⟩))))⟩)))))))⟩⟩))))⟩))))))))⟩⟩)⟩))))))))⟩, fun t4_11 => ⟨fun _ => js_ret (by decide) (je_bl (⟨(), .nil, (by exfalso; simp_all)⟩)), fun z => (nomatch z)⟩⟩⟩))))⟩))))))))⟩⟩)⟩)))))))))⟩, fun t1_41 => ⟨fun _ => js_ret (by decide) (je_bl (⟨(), .nil, (by exfalso; simp_all)⟩)), fun z => (nomatch z)⟩⟩⟩))))⟩))))))))⟩, fun t1_11 => ⟨fun _ => ⟨fun _ => js_ret (by decide) (je_bl (⟨(), .nil, (by exfalso; simp_all)⟩)), fun z => (nomatch z)⟩, fun z => (nomatch z)⟩⟩)))))))
end
end Lw
end
section
namespace Lw
open PySem PySem.Spec PyProof.Rows L2 Tyl NdefX
abbrev P : Program := PySem.Challenge.rw_doorplans_k79_joins_are_put_in.prog
theorem str_len3 {a b c : Str} (h : a.length + b.length + c.length ≤ 16777216) : (((Str.empty ++ a) ++ b) ++ c).length ≤ sizeLine := by
  rw [sizeLine_eq, Str.length_append, Str.length_append, Str.length_append, show Str.empty.length = 0 from rfl]; omega
theorem str_len2 {a b : Str} (h : a.length + b.length ≤ 16777216) : ((Str.empty ++ a) ++ b).length ≤ sizeLine := by
  rw [sizeLine_eq, Str.length_append, Str.length_append, show Str.empty.length = 0 from rfl]; omega
theorem str_len1 {a : Str} (h : a.length ≤ 16777216) : (Str.empty ++ a).length ≤ sizeLine := by
  rw [sizeLine_eq, Str.length_append, show Str.empty.length = 0 from rfl]; omega
section
variable {w : World} {K : Fg} {mg : Str → Option Value} {base : Heap}
theorem scE_BadCount : NScope ["self", "count", "__class__"] ["self", "count"] ["__class__"] (defScope (mth (top 3) 0)) := nscope_by (by decide +kernel)
theorem err_BadCount (x : Fx K mg) : ErrK P w K mg base 1 "BadCount" ["count"] (fun ys => ∃ j : Int, ys = [V.int j] ∧ j.natAbs.log2 < 1920) := by
  refine ⟨x.er_BadCount.C.ox, x.er_BadCount.iC, x.er_BadCount.tI, ?_, x.g_BadCount⟩
  obtain ⟨cc, cda, fd, hU⟩ := x.s_BadCount_init
  have U := hU P rfl rfl
  have efd := U.lk
  obtain ⟨_, _, doc, pm, ctv, _, efd, _⟩ := efd
  refine ⟨fd, ["self", "count"], fn_super (k := 0) x.er_BadCount.C U scE_BadCount rfl rfl rfl x.b_super rfl (fun vs H Q E ⟨a, ys, ev, hl, _⟩ => by rw [ev, List.length_cons, hl]; rfl) (hbody := fun A outer s H vs Q E hr ⟨a, ys, ev, _, ha, ⟨i, ei, hz⟩, hf⟩ => ?_), ?_⟩
  · subst ei ev
    have hl := err_len hz
    refine ⟨a, [.int i], _, _, rfl, ha, pa_cons (pe_joined (.cons pe_str (.cons (pe_fmt (pv 1)) (.cons pe_str .nil)))) pa_nil, pss_one (ps_ost (pv 0) (pv 1)), ?_⟩
    have post : (1 : Nat) ≤ 1000 ∧ H a = some (exo a (He.ga K "BadCount") none) ∧ tOst K "count" (tVar 0) (tVar 1) { nx := fun _ H' => Q .non H', rt := Q } (startF ["self", "count", "__class__"] [V.ref a, V.int i] [none]) H :=
      ⟨by decide, ha, _, rfl, _, rfl, a, _, rfl, x.er_BadCount.C.ox, x.n_BadCount_count, .inl ⟨ha, fun dx hdx ne => hf dx _ hdx ne upd_same (by rw [upd_ne ne, upd_same]; rfl) fun b h1 h2 => by rw [upd_ne h1, upd_ne h2]⟩⟩
    exact ⟨_, rfl, (by refine str_len1 (Nat.le_trans ?_ (show 100000 ≤ 16777216 by decide)) <;> first | exact hl | decide +kernel), ⟨_, rfl, .inr ⟨_, rfl, hz, _, rfl, (by refine str_len2 (Nat.le_trans (Nat.add_le_add ?_ ?_) (show 100000 + 100000 ≤ 16777216 by decide)) <;> first | exact hl | decide +kernel), ⟨_, rfl, (by refine str_len3 (Nat.le_trans (Nat.add_le_add (Nat.add_le_add ?_ ?_) ?_) (show 100000 + 100000 + 100000 ≤ 16777216 by decide)) <;> first | exact hl | decide +kernel), post⟩⟩⟩⟩
  · subst efd
    exact L2.Binds.all fun us hl => match us, hl with | [_, _], _ => rfl
theorem scE_NoWork : NScope ["self", "work", "__class__"] ["self", "work"] ["__class__"] (defScope (mth (top 4) 0)) := nscope_by (by decide +kernel)
theorem err_NoWork (x : Fx K mg) : ErrK P w K mg base 1 "NoWork" ["work"] (fun ys => ∃ j : Int, ys = [V.int j] ∧ j.natAbs.log2 < 1920) := by
  refine ⟨x.er_NoWork.C.ox, x.er_NoWork.iC, x.er_NoWork.tI, ?_, x.g_NoWork⟩
  obtain ⟨cc, cda, fd, hU⟩ := x.s_NoWork_init
  have U := hU P rfl rfl
  have efd := U.lk
  obtain ⟨_, _, doc, pm, ctv, _, efd, _⟩ := efd
  refine ⟨fd, ["self", "work"], fn_super (k := 0) x.er_NoWork.C U scE_NoWork rfl rfl rfl x.b_super rfl (fun vs H Q E ⟨a, ys, ev, hl, _⟩ => by rw [ev, List.length_cons, hl]; rfl) (hbody := fun A outer s H vs Q E hr ⟨a, ys, ev, _, ha, ⟨i, ei, hz⟩, hf⟩ => ?_), ?_⟩
  · subst ei ev
    have hl := err_len hz
    refine ⟨a, [.int i], _, _, rfl, ha, pa_cons (pe_joined (.cons (pe_fmt (pv 1)) (.cons pe_str .nil))) pa_nil, pss_one (ps_ost (pv 0) (pv 1)), ?_⟩
    have post : (1 : Nat) ≤ 1000 ∧ H a = some (exo a (He.ga K "NoWork") none) ∧ tOst K "work" (tVar 0) (tVar 1) { nx := fun _ H' => Q .non H', rt := Q } (startF ["self", "work", "__class__"] [V.ref a, V.int i] [none]) H :=
      ⟨by decide, ha, _, rfl, _, rfl, a, _, rfl, x.er_NoWork.C.ox, x.n_NoWork_work, .inl ⟨ha, fun dx hdx ne => hf dx _ hdx ne upd_same (by rw [upd_ne ne, upd_same]; rfl) fun b h1 h2 => by rw [upd_ne h1, upd_ne h2]⟩⟩
    exact ⟨_, rfl, .inr ⟨_, rfl, hz, _, rfl, (by refine str_len1 (Nat.le_trans ?_ (show 100000 ≤ 16777216 by decide)) <;> first | exact hl | decide +kernel), ⟨_, rfl, (by refine str_len2 (Nat.le_trans (Nat.add_le_add ?_ ?_) (show 100000 + 100000 ≤ 16777216 by decide)) <;> first | exact hl | decide +kernel), post⟩⟩⟩
  · subst efd
    exact L2.Binds.all fun us hl => match us, hl with | [_, _], _ => rfl
end
end Lw
end
section
namespace Lw
open PySem PySem.Spec PyProof.Rows L2 Tyl
/-- the errors as data -/
abbrev bcE (n : Int) : ErrV := ⟨fun K => He.ga K "BadCount", [("count", sd n)]⟩
abbrev nwE (n : Int) : ErrV := ⟨fun K => He.ga K "NoWork", [("work", sd n)]⟩
theorem lg_of {i : Int} (h1 : -(10 ^ 40) < i) (h2 : i < 10 ^ 40) : i.natAbs.log2 < 1920 := by
  by_cases z : i.natAbs = 0
  · rw [z]; decide
  · refine (Nat.log2_lt z).mpr (Nat.lt_trans (m := 10 ^ 40) (by omega) ?_)
    decide +kernel
def dueS (w p q : Int) : Int := if w = 2 then p + q - 1 else p + q
def dueF (w : Int) (f : Int × List (Int × Int)) (x : Int) (s : Int × List (Int × Int)) : T3 Str Int (List (Int × Int)) :=
  if w = 2 ∧ (x < 0 ∨ f.1 ≤ x) then ⟨"NoWork", x, []⟩ else if 20 < dueS w f.1 s.1 then ⟨"BadCount", dueS w f.1 s.1, []⟩
  else if w = 2 then ⟨"plan", dueS w f.1 s.1, putPairs f.2 x s.1 s.2⟩ else ⟨"plan", dueS w f.1 s.1, joinPairs f.1 f.2 s.1 s.2 (decide (w = 0))⟩
section
variable {w : World} {K : Fg} {mg : Str → Option Value} {base : Heap}
theorem ok_check_sumX  (x : Fx K mg) : OkF P w K mg base (L2.CX P w) 3 "check_sum" ["size"] (spPX (R := Unit) K 1 (fun (a : Int) => [sd a]) (fun a => 20 < a ∧ a < 100) (fun _ _ => False) (fun a x => x = bcE a)) := by
  obtain ⟨fd, F⟩ := x.f_check_sum
  obtain ⟨_, i_MOST_WORKS_joins⟩ := x.i_MOST_WORKS_joins
  refine ⟨⟨fd, okTX F sc_check_sum (fun _ => rfl) (by decide) (fun cdv A0 outer s H E v_size B hr hp hxo => ?_), F.bindsN fun _ _ _ _ _ _ us hl => match us, hl with | [_], _ => rfl⟩, x.g_check_sum, F.kp⟩
  try dsimp only at hp ⊢
  have nd := (sc_check_sum).nd
  exact js_ifR (jt_gt (je_var .z (je_gint i_MOST_WORKS_joins (⟨fun t1_7 => ⟨fun _ => js_raise (err_BadCount x) (hr.mono (by decide)) hxo rfl (ja_cons (je_var .z (ja_nil (⟨[_], rfl, rfl, Nat.le_of_ble_eq_true rfl, (ok1 (lg_of (by omega) (by omega))), ⟨(), .nil, (by rfl)⟩⟩)))), fun z => (nomatch z)⟩, fun t1_7 => ⟨fun z => (nomatch z), fun _ => js_fall (d := ()) (by decide) (fun _ _ => rfl) (⟨(), .nil, (by omega)⟩)⟩⟩))))
theorem ok_check_workX  (x : Fx K mg) : OkF P w K mg base (L2.CX P w) 3 "check_work" ["size", "x"] (spPX (R := Unit) K 2 (fun (a : Int × Int) => match a with | (z0, z1) => [sd z0, sd z1]) (fun a => (a.2 < 0 ∨ a.1 ≤ a.2) ∧ -(10 ^ 40) < a.2 ∧ a.2 < 10 ^ 40) (fun _ _ => False) (fun a x => x = nwE a.2)) := by
  obtain ⟨fd, F⟩ := x.f_check_work
  refine ⟨⟨fd, okTX F sc_check_work (fun _ => rfl) (by decide) (fun cdv A0 outer s H E a B hr hp hxo => ?_), F.bindsN fun _ _ _ _ _ _ us hl => match us, hl with | [_, _], _ => rfl⟩, x.g_check_work, F.kp⟩
  obtain ⟨v_size, v_x⟩ := a
  try dsimp only at hp ⊢
  have nd := (sc_check_work).nd
  exact js_ifR (jt_not (jt_ch (fun i j => i ≤ j) (fun i j => i < j) op_le op_lt (je_int (je_var (.s .z) (⟨fun ta1_11 => ⟨fun _ => js_raise (err_NoWork x) (hr.mono (by decide)) hxo rfl (ja_cons (je_var (.s .z) (ja_nil (⟨[_], rfl, rfl, Nat.le_of_ble_eq_true rfl, (ok1 (lg_of hp.2.1 hp.2.2)), ⟨(), .nil, (by rfl)⟩⟩)))), fun z => (nomatch z)⟩, fun ta1_11 => je_var .z (⟨fun t1_11 => ⟨fun z => (nomatch z), fun _ => js_fall (d := ()) (by decide) (fun _ _ => rfl) (⟨(), .nil, (by omega)⟩)⟩, fun t1_11 => ⟨fun _ => js_raise (err_NoWork x) (hr.mono (by decide)) hxo rfl (ja_cons (je_var (.s .z) (ja_nil (⟨[_], rfl, rfl, Nat.le_of_ble_eq_true rfl, (ok1 (lg_of hp.2.1 hp.2.2)), ⟨(), .nil, (by rfl)⟩⟩)))), fun z => (nomatch z)⟩⟩)⟩)))))
theorem ok_side_by_sideX  (x : Fx K mg) : OkF P w K mg base (L2.CX P w) 4 "side_by_side" ["p", "q"] (spPX (R := PlanD) K 2 (fun (a : PlanD × PlanD) => match a with | (z0, z1) => [sd z0, sd z1]) (fun a => 20 < a.1.size + a.2.size ∧ a.1.size ≤ 20 ∧ a.2.size ≤ 20) (fun _ _ => False) (fun a x => x = bcE (a.1.size + a.2.size))) := by
  obtain ⟨fd, F⟩ := x.f_side_by_side
  refine ⟨⟨fd, okTX F sc_side_by_side (fun _ => rfl) (by decide) (fun cdv A0 outer s H E a B hr hp hxo => ?_), F.bindsN fun _ _ _ _ _ _ us hl => match us, hl with | [_, _], _ => rfl⟩, x.g_side_by_side, F.kp⟩
  obtain ⟨v_p, v_q⟩ := a
  try dsimp only at hp ⊢
  have nd := (sc_side_by_side).nd
  exact js_asgv nd (je_add (je_prop x.c_Plan x.p_Plan_size ((ok_Plan_size x).mono (by decide)) hr (je_var .z (⟨_, rfl, rfl, (by trivial), fun r1_11 p1_11 => je_prop x.c_Plan x.p_Plan_size ((ok_Plan_size x).mono (by decide)) hr (je_var (.s .z) (⟨_, rfl, rfl, (by trivial), fun r1_20 p1_20 => fun v_size e_size => ⟨_, (.s (.s .z)), js_expr (jg_of (je_callX (α := Unit) ((ok_check_sumX x).mono (by decide)) hr hxo (ja_cons (je_var (.s (.s .z)) (ja_nil (⟨_, [], (.val .nil), List.nodup_nil, rfl, (by first | omega | (simp only [St.ok] at *; omega) | (subst_vars; first | omega | (simp only [St.ok] at *; omega))), fun _ _ h => h, fun xv xo xh => ⟨_, .nil, ⟨(), .nil, (by rw [xh, e_size, p1_11, p1_20])⟩⟩⟩))))))⟩⟩))⟩))))
theorem ok_in_turnX  (x : Fx K mg) : OkF P w K mg base (L2.CX P w) 4 "in_turn" ["p", "q"] (spPX (R := PlanD) K 2 (fun (a : PlanD × PlanD) => match a with | (z0, z1) => [sd z0, sd z1]) (fun a => 20 < a.1.size + a.2.size ∧ a.1.size ≤ 20 ∧ a.2.size ≤ 20) (fun _ _ => False) (fun a x => x = bcE (a.1.size + a.2.size))) := by
  obtain ⟨fd, F⟩ := x.f_in_turn
  refine ⟨⟨fd, okTX F sc_in_turn (fun _ => rfl) (by decide) (fun cdv A0 outer s H E a B hr hp hxo => ?_), F.bindsN fun _ _ _ _ _ _ us hl => match us, hl with | [_, _], _ => rfl⟩, x.g_in_turn, F.kp⟩
  obtain ⟨v_p, v_q⟩ := a
  try dsimp only at hp ⊢
  have nd := (sc_in_turn).nd
  exact js_asgv nd (je_add (je_prop x.c_Plan x.p_Plan_size ((ok_Plan_size x).mono (by decide)) hr (je_var .z (⟨_, rfl, rfl, (by trivial), fun r1_11 p1_11 => je_prop x.c_Plan x.p_Plan_size ((ok_Plan_size x).mono (by decide)) hr (je_var (.s .z) (⟨_, rfl, rfl, (by trivial), fun r1_20 p1_20 => fun v_size e_size => ⟨_, (.s (.s .z)), js_expr (jg_of (je_callX (α := Unit) ((ok_check_sumX x).mono (by decide)) hr hxo (ja_cons (je_var (.s (.s .z)) (ja_nil (⟨_, [], (.val .nil), List.nodup_nil, rfl, (by first | omega | (simp only [St.ok] at *; omega) | (subst_vars; first | omega | (simp only [St.ok] at *; omega))), fun _ _ h => h, fun xv xo xh => ⟨_, .nil, ⟨(), .nil, (by rw [xh, e_size, p1_11, p1_20])⟩⟩⟩))))))⟩⟩))⟩))))
theorem ok_put_inB  (x : Fx K mg) : OkF P w K mg base (L2.CX P w) 4 "put_in" ["p", "x", "q"] (spPX (R := PlanD) K 3 (fun (a : PlanD × Int × PlanD) => match a with | (z0, z1, z2) => [sd z0, sd z1, sd z2]) (fun a => (0 ≤ a.2.1 ∧ a.2.1 < a.1.size) ∧ 21 < a.1.size + a.2.2.size ∧ a.1.size ≤ 20 ∧ a.2.2.size ≤ 20) (fun _ _ => False) (fun a x => x = bcE (a.1.size + a.2.2.size - 1))) := by
  obtain ⟨fd, F⟩ := x.f_put_in
  refine ⟨⟨fd, okTX F sc_put_in (fun _ => rfl) (by decide) (fun cdv A0 outer s H E a B hr hp hxo => ?_), F.bindsN fun _ _ _ _ _ _ us hl => match us, hl with | [_, _, _], _ => rfl⟩, x.g_put_in, F.kp⟩
  obtain ⟨v_p, v_x, v_q⟩ := a
  try dsimp only at hp ⊢
  have nd := (sc_put_in).nd
  exact js_expr (jg_of (je_callP ((ok_check_work x).mono (by decide)) hr pass0 (ja_cons (je_prop x.c_Plan x.p_Plan_size ((ok_Plan_size x).mono (by decide)) hr (je_var .z (⟨_, rfl, rfl, (by trivial), fun r1_15 p1_15 => ja_cons (je_var (.s .z) (ja_nil (⟨⟨_, _⟩, rfl, rfl, (by first | omega | (simp only [St.ok] at *; omega) | (subst_vars; first | omega | (simp only [St.ok] at *; omega))), fun r1_4 p1_4 => js_asgv nd (je_sub (je_add (je_prop x.c_Plan x.p_Plan_size ((ok_Plan_size x).mono (by decide)) hr (je_var .z (⟨_, rfl, rfl, (by trivial), fun r2_11 p2_11 => je_prop x.c_Plan x.p_Plan_size ((ok_Plan_size x).mono (by decide)) hr (je_var (.s (.s .z)) (⟨_, rfl, rfl, (by trivial), fun r2_20 p2_20 => je_int (fun v_size e_size => ⟨_, (.s (.s (.s .z))), js_expr (jg_of (je_callX (α := Unit) ((ok_check_sumX x).mono (by decide)) hr hxo (ja_cons (je_var (.s (.s (.s .z))) (ja_nil (⟨_, [], (.val .nil), List.nodup_nil, rfl, (by first | omega | (simp only [St.ok] at *; omega) | (subst_vars; first | omega | (simp only [St.ok] at *; omega))), fun _ _ h => h, fun xv xo xh => ⟨_, .nil, ⟨(), .nil, (by rw [xh, e_size, p2_11, p2_20])⟩⟩⟩))))))⟩)⟩))⟩)))))⟩)))⟩))))))
theorem ok_put_inN  (x : Fx K mg) : OkF P w K mg base (L2.CX P w) 4 "put_in" ["p", "x", "q"] (spPX (R := PlanD) K 3 (fun (a : PlanD × Int × PlanD) => match a with | (z0, z1, z2) => [sd z0, sd z1, sd z2]) (fun a => (a.2.1 < 0 ∨ a.1.size ≤ a.2.1) ∧ -(10 ^ 40) < a.2.1 ∧ a.2.1 < 10 ^ 40) (fun _ _ => False) (fun a x => x = nwE a.2.1)) := by
  obtain ⟨fd, F⟩ := x.f_put_in
  refine ⟨⟨fd, okTX F sc_put_in (fun _ => rfl) (by decide) (fun cdv A0 outer s H E a B hr hp hxo => ?_), F.bindsN fun _ _ _ _ _ _ us hl => match us, hl with | [_, _, _], _ => rfl⟩, x.g_put_in, F.kp⟩
  obtain ⟨v_p, v_x, v_q⟩ := a
  try dsimp only at hp ⊢
  have nd := (sc_put_in).nd
  exact js_expr (jg_of (je_callX (α := Unit) ((ok_check_workX x).mono (by decide)) hr hxo (ja_cons (je_prop x.c_Plan x.p_Plan_size ((ok_Plan_size x).mono (by decide)) hr (je_var .z (⟨_, rfl, rfl, (by trivial), fun r1_15 p1_15 => ja_cons (je_var (.s .z) (ja_nil (⟨⟨_, _⟩, [], (.val (.val .nil)), List.nodup_nil, rfl, (by first | omega | (simp only [St.ok] at *; omega) | (subst_vars; first | omega | (simp only [St.ok] at *; omega))), fun _ _ h => h, fun xv xo xh => ⟨_, .nil, ⟨(), .nil, (by exact xh)⟩⟩⟩)))⟩))))))
end
end Lw
end
section
namespace Lw
open PySem PySem.Spec PyProof.Rows L2 Tyl
theorem due_nw {f s : Int × List (Int × Int)} {x : Int} (h : x < 0 ∨ f.1 ≤ x) : dueF 2 f x s = ⟨"NoWork", x, []⟩ := if_pos ⟨rfl, h⟩
theorem due_bad {w : Int} {f s : Int × List (Int × Int)} {x : Int} (h : w = 2 → 0 ≤ x ∧ x < f.1) (k : 20 < dueS w f.1 s.1) : dueF w f x s = ⟨"BadCount", dueS w f.1 s.1, []⟩ := by
  unfold dueF
  rw [if_neg (fun z => by have := h z.1; omega), if_pos k]
theorem due_put {f s : Int × List (Int × Int)} {x : Int} (h : 0 ≤ x ∧ x < f.1) (k : dueS 2 f.1 s.1 ≤ 20) : dueF 2 f x s = ⟨"plan", dueS 2 f.1 s.1, putPairs f.2 x s.1 s.2⟩ := by
  unfold dueF
  rw [if_neg (fun z => by have := z.2; omega), if_neg (by omega), if_pos rfl]
theorem due_join {w : Int} {f s : Int × List (Int × Int)} {x : Int} (h : w ≠ 2) (k : dueS w f.1 s.1 ≤ 20) : dueF w f x s = ⟨"plan", dueS w f.1 s.1, joinPairs f.1 f.2 s.1 s.2 (decide (w = 0))⟩ := by
  unfold dueF
  rw [if_neg (fun z => h z.1), if_neg (by omega), if_neg h]
theorem dueS2 {p q : Int} : dueS 2 p q = p + q - 1 := rfl
theorem dueS_ne {w p q : Int} (h : w ≠ 2) : dueS w p q = p + q := if_neg h
section
variable {w : World} {K : Fg} {mg : Str → Option Value} {base : Heap}
theorem sc_law_due : FnScope ["which", "first", "x", "second", "size"] ["which", "first", "x", "second"] (defScope (top 57)) := ⟨rfl, rfl, rfl, by decide +kernel, rfl, by decide +kernel, by decide +kernel⟩
theorem ok_law_due  (x : Fx K mg) : OkF P w K mg base CX0 2 "_law_due" ["which", "first", "x", "second"] (spP K 4 (fun (a : Int × (Int × (List (Int × Int))) × Int × (Int × (List (Int × Int)))) => match a with | (z0, z1, z2, z3) => [sd z0, sd z1, sd z2, sd z3]) (fun a => (1 ≤ a.2.1.1 ∧ a.2.1.1 ≤ 20 ∧ 1 ≤ a.2.2.2.1 ∧ a.2.2.2.1 ≤ 20) ∧ a.2.1.2.length ≤ 15000 ∧ a.2.2.2.2.length ≤ 15000) (fun a (r : T3 Str Int (List (Int × Int))) => r = dueF a.1 a.2.1 a.2.2.1 a.2.2.2)) := by
  obtain ⟨fd, F⟩ := x.f_law_due
  refine ⟨⟨fd, okT F sc_law_due (fun _ => rfl) (fun cdv A0 outer s H E a B hr hp => ?_), F.bindsN fun _ _ _ _ _ _ us hl => match us, hl with | [_, _, _, _], _ => rfl⟩, x.g_law_due, F.kp⟩
  obtain ⟨v_which, v_first, v_x, v_second⟩ := a
  try dsimp only at hp ⊢
  have nd := (sc_law_due).nd
  exact js_asgv nd (je_add (je_fst (je_var (.s .z) (je_fst (je_var (.s (.s (.s .z))) (fun v_size e_size => ⟨_, (.s (.s (.s (.s .z)))), js_ifm (S := (Int)) (fun (z0 : (Int)) => [(4, some (sd z0))]) (fun (s : (Int)) => s = dueS v_which v_first.1 v_second.1 ∧ (v_which = 2 → 0 ≤ v_x ∧ v_x < v_first.1)) (fun s2_size hJ2 => js_ifR (jt_gt (je_var (.s (.s (.s (.s .z)))) (je_int (⟨fun t6_7 => ⟨fun _ => js_ret (by decide) (je_tup3 (je_str (je_var (.s (.s (.s (.s .z)))) (je_new (jn_lst (ja_nil (⟨[], rfl, by simp, ⟨[], rfl, ⟨(), .nil, (by rw [due_bad hJ2.2 (by rw [← hJ2.1]; exact t6_7), ← hJ2.1])⟩⟩⟩))))))), fun z => (nomatch z)⟩, fun t6_7 => ⟨fun z => (nomatch z), fun _ => js_ifR (jt_eq (je_var .z (je_int (⟨fun t8_7 => ⟨fun _ => js_ret (by decide) (je_tup3 (je_str (je_var (.s (.s (.s (.s .z)))) (je_callP ((ok_law_put_pairs x).mono (by decide)) hr pass0 (ja_cons (je_snd (je_var (.s .z) (ja_cons (je_var (.s (.s .z)) (ja_cons (je_fst (je_var (.s (.s (.s .z))) (ja_cons (je_snd (je_var (.s (.s (.s .z))) (ja_nil (⟨⟨_, _, _, _⟩, rfl, rfl, (by have := hJ2.2 t8_7; refine ⟨?_, ?_, ?_, ?_, ?_, ?_⟩ <;> dsimp only <;> omega), fun r9_30 p9_30 => ⟨(), .nil, (by subst t8_7; rw [due_put (hJ2.2 rfl) (by rw [← hJ2.1]; omega), ← hJ2.1, p9_30])⟩⟩))))))))))))))))), fun z => (nomatch z)⟩, fun t8_7 => ⟨fun z => (nomatch z), fun _ => js_ret (by decide) (je_tup3 (je_str (je_var (.s (.s (.s (.s .z)))) (je_callP ((ok_law_joined_pairs x).mono (by decide)) hr pass0 (ja_cons (je_fst (je_var (.s .z) (ja_cons (je_snd (je_var (.s .z) (ja_cons (je_fst (je_var (.s (.s (.s .z))) (ja_cons (je_snd (je_var (.s (.s (.s .z))) (ja_cons (je_eq (je_var .z (je_int (ja_nil (⟨⟨_, _, _, _, _⟩, rfl, rfl, (by refine ⟨?_, ?_, ?_, ?_, ?_, ?_⟩ <;> dsimp only <;> omega), fun r10_26 p10_26 => ⟨(), .nil, (by rw [due_join t8_7 (by rw [← hJ2.1]; omega), ← hJ2.1, p10_26])⟩⟩))))))))))))))))))))))⟩⟩))))⟩⟩))))) (jt_eq (je_var .z (je_int (⟨fun t2_7 => ⟨fun _ => js_ifR (jt_w (jw_or (jt_lt (je_var (.s (.s .z)) (je_int (⟨fun t3_11 => ⟨fun _ => ⟨fun _ => js_ret (by decide) (je_tup3 (je_str (je_var (.s (.s .z)) (je_new (jn_lst (ja_nil (⟨[], rfl, by simp, ⟨[], rfl, ⟨(), .nil, (by subst t2_7; rw [due_nw (by omega)])⟩⟩⟩))))))), fun z => (nomatch z)⟩, fun z => (nomatch z)⟩, fun t3_11 => ⟨fun z => (nomatch z), fun _ => jw_or1 (jt_ge (je_var (.s (.s .z)) (je_fst (je_var (.s .z) (⟨fun t3_20 => ⟨fun _ => js_ret (by decide) (je_tup3 (je_str (je_var (.s (.s .z)) (je_new (jn_lst (ja_nil (⟨[], rfl, by simp, ⟨[], rfl, ⟨(), .nil, (by subst t2_7; rw [due_nw (by omega)])⟩⟩⟩))))))), fun z => (nomatch z)⟩, fun t3_20 => ⟨fun z => (nomatch z), fun _ => js_augv ip_sub nd (.s (.s (.s (.s .z)))) (je_int (fun v_size e_size => ⟨_, (.s (.s (.s (.s .z)))), js_end (⟨_, (.keep (.keep (.keep (.keep (.keep .nil))))), (by subst t2_7; rw [dueS2]; exact ⟨by omega, fun _ => by omega⟩)⟩)⟩))⟩⟩)))))⟩⟩)))))), fun z => (nomatch z)⟩, fun t2_7 => ⟨fun z => (nomatch z), fun _ => js_end (⟨_, (.keep (.keep (.keep (.keep (.keep .nil))))), (by rw [dueS_ne t2_7]; exact ⟨e_size, fun z => absurd z t2_7⟩)⟩)⟩⟩))))⟩))))))
end
end Lw
end
section
namespace Lw
open PySem PySem.Spec PyProof.Rows L2 Tyl
def dueP (w : Int) (p : PlanD) (x : Int) (q : PlanD) : List (Int × Int) := if w = 2 then putPairs p.prow x q.size q.prow else joinPairs p.size p.prow q.size q.prow (decide (w = 0))
theorem dueP2 {p q : PlanD} {x : Int} : dueP 2 p x q = putPairs p.prow x q.size q.prow := if_pos rfl
theorem dueP0 {p q : PlanD} {x : Int} : dueP 0 p x q = joinPairs p.size p.prow q.size q.prow true := rfl
theorem dueP1 {p q : PlanD} {x : Int} : dueP 1 p x q = joinPairs p.size p.prow q.size q.prow false := rfl
section
variable {w : World} {K : Fg} {mg : Str → Option Value} {base : Heap}
theorem sc_law_tried : FnScope ["which", "one", "x", "two", "e"] ["which", "one", "x", "two"] (defScope (top 56)) := ⟨rfl, rfl, rfl, by decide +kernel, rfl, by decide +kernel, by decide +kernel⟩
theorem ok_law_triedP  (x : Fx K mg) : OkF P w K mg base CX0 6 "_law_tried" ["which", "one", "x", "two"] (spP K 4 (fun (a : Int × PlanD × Int × PlanD) => match a with | (z0, z1, z2, z3) => [sd z0, sd z1, sd z2, sd z3]) (fun a => (a.1 = 0 ∨ a.1 = 1 ∨ a.1 = 2) ∧ (PA a.2.1 ∧ PA a.2.2.2) ∧ (a.1 = 2 → 0 ≤ a.2.2.1 ∧ a.2.2.1 < a.2.1.size) ∧ dueS a.1 a.2.1.size a.2.2.2.size ≤ 20) (fun a (r : Str × PlanD) => r.1 = "plan" ∧ r.2.size = dueS a.1 a.2.1.size a.2.2.2.size ∧ PO r.2 (dueP a.1 a.2.1 a.2.2.1 a.2.2.2))) := by
  obtain ⟨fd, F⟩ := x.f_law_tried
  refine ⟨⟨fd, okT F sc_law_tried (fun _ => rfl) (fun cdv A0 outer s H E a B hr hp => ?_), F.bindsN fun _ _ _ _ _ _ us hl => match us, hl with | [_, _, _, _], _ => rfl⟩, x.g_law_tried, F.kp⟩
  obtain ⟨v_which, v_one, v_x, v_two⟩ := a
  try dsimp only at hp ⊢
  have nd := (sc_law_tried).nd
  have hps : PassesOwn (model (cxOf CX0 P w K mg base ["which", "one", "x", "two", "e"] "_law_tried" (defScope (top 56)) (He.ga K "_law_tried") cdv A0 outer s H E).prog (cxOf CX0 P w K mg base ["which", "one", "x", "two", "e"] "_law_tried" (defScope (top 56)) (He.ga K "_law_tried") cdv A0 outer s H E).w) (cxOf CX0 P w K mg base ["which", "one", "x", "two", "e"] "_law_tried" (defScope (top 56)) (He.ga K "_law_tried") cdv A0 outer s H E).A (cxOf CX0 P w K mg base ["which", "one", "x", "two", "e"] "_law_tried" (defScope (top 56)) (He.ga K "_law_tried") cdv A0 outer s H E).env (cxOf CX0 P w K mg base ["which", "one", "x", "two", "e"] "_law_tried" (defScope (top 56)) (He.ga K "_law_tried") cdv A0 outer s H E).xe := PassesOwn.leaving
  exact js_try (i := 4) (xw := fun _ _ => False) rfl rfl nd x.g_DoorsError xok0 (fun pn xe hxo hps => js_ifR (jt_eq (je_var .z (je_int (⟨fun t2_11 => ⟨fun _ => js_ret (by decide) (je_pair (je_str (je_callP ((ok_in_turn x).mono (by decide)) hr pass0 (ja_cons (je_var (.s .z) (ja_cons (je_var (.s (.s (.s .z))) (ja_nil (⟨⟨_, _⟩, rfl, rfl, (by subst t2_11; have h := hp.2.2.2; rw [dueS_ne (by decide)] at h; exact ⟨hp.2.1.1, hp.2.1.2, h⟩), fun r3_28 p3_28 => ⟨(), .nil, (by subst t2_11; exact ⟨rfl, p3_28.1.trans (dueS_ne (by decide)).symm, by rw [dueP0]; exact p3_28.2⟩)⟩⟩))))))))), fun z => (nomatch z)⟩, fun t2_11 => ⟨fun z => (nomatch z), fun _ => js_ifR (jt_eq (je_var .z (je_int (⟨fun t4_11 => ⟨fun _ => js_ret (by decide) (je_pair (je_str (je_callP ((ok_side_by_side x).mono (by decide)) hr pass0 (ja_cons (je_var (.s .z) (ja_cons (je_var (.s (.s (.s .z))) (ja_nil (⟨⟨_, _⟩, rfl, rfl, (by subst t4_11; have h := hp.2.2.2; rw [dueS_ne (by decide)] at h; exact ⟨hp.2.1.1, hp.2.1.2, h⟩), fun r5_28 p5_28 => ⟨(), .nil, (by subst t4_11; exact ⟨rfl, p5_28.1.trans (dueS_ne (by decide)).symm, by rw [dueP1]; exact p5_28.2⟩)⟩⟩))))))))), fun z => (nomatch z)⟩, fun t4_11 => ⟨fun z => (nomatch z), fun _ => js_ret (by decide) (je_pair (je_str (je_callP ((ok_put_in x).mono (by decide)) hr pass0 (ja_cons (je_var (.s .z) (ja_cons (je_var (.s (.s .z)) (ja_cons (je_var (.s (.s (.s .z))) (ja_nil (⟨⟨_, _, _⟩, rfl, rfl, (by have w2 : v_which = 2 := (by omega); subst w2; have h := hp.2.2.2; rw [dueS2] at h; exact ⟨hp.2.1.1, hp.2.1.2, hp.2.2.1 rfl, by dsimp only; omega⟩), fun r6_24 p6_24 => ⟨(), .nil, (by have w2 : v_which = 2 := (by omega); subst w2; exact ⟨rfl, p6_24.1.trans dueS2.symm, by rw [dueP2]; exact p6_24.2⟩)⟩⟩)))))))))))⟩⟩))))⟩⟩))))) (fun v l1 hv => hv.elim)
theorem ok_law_triedB  (x : Fx K mg) : OkF P w K mg base CX0 5 "_law_tried" ["which", "one", "x", "two"] (spP K 4 (fun (a : Int × PlanD × Int × PlanD) => match a with | (z0, z1, z2, z3) => [sd z0, sd z1, sd z2, sd z3]) (fun a => (a.1 = 0 ∨ a.1 = 1 ∨ a.1 = 2) ∧ (a.1 = 2 → 0 ≤ a.2.2.1 ∧ a.2.2.1 < a.2.1.size) ∧ 20 < dueS a.1 a.2.1.size a.2.2.2.size ∧ a.2.1.size ≤ 20 ∧ a.2.2.2.size ≤ 20) (fun a (r : Str × Int) => r = (("BadCount" : Str), dueS a.1 a.2.1.size a.2.2.2.size))) := by
  obtain ⟨fd, F⟩ := x.f_law_tried
  refine ⟨⟨fd, okT F sc_law_tried (fun _ => rfl) (fun cdv A0 outer s H E a B hr hp => ?_), F.bindsN fun _ _ _ _ _ _ us hl => match us, hl with | [_, _, _, _], _ => rfl⟩, x.g_law_tried, F.kp⟩
  obtain ⟨v_which, v_one, v_x, v_two⟩ := a
  try dsimp only at hp ⊢
  have nd := (sc_law_tried).nd
  have hps : PassesOwn (model (cxOf CX0 P w K mg base ["which", "one", "x", "two", "e"] "_law_tried" (defScope (top 56)) (He.ga K "_law_tried") cdv A0 outer s H E).prog (cxOf CX0 P w K mg base ["which", "one", "x", "two", "e"] "_law_tried" (defScope (top 56)) (He.ga K "_law_tried") cdv A0 outer s H E).w) (cxOf CX0 P w K mg base ["which", "one", "x", "two", "e"] "_law_tried" (defScope (top 56)) (He.ga K "_law_tried") cdv A0 outer s H E).A (cxOf CX0 P w K mg base ["which", "one", "x", "two", "e"] "_law_tried" (defScope (top 56)) (He.ga K "_law_tried") cdv A0 outer s H E).env (cxOf CX0 P w K mg base ["which", "one", "x", "two", "e"] "_law_tried" (defScope (top 56)) (He.ga K "_law_tried") cdv A0 outer s H E).xe := PassesOwn.leaving
  exact js_try (xw := fun x l => x = bcE (dueS v_which v_one.size v_two.size) ∧ l = _) rfl rfl nd x.g_DoorsError xok0 (fun pn xe hxo hps => js_ifR (jt_eq (je_var .z (je_int (⟨fun t2_11 => ⟨fun _ => js_ret (by decide) (je_pair (je_str (je_callX (α := Int) ((ok_in_turnX x).mono (by decide)) hr hxo (ja_cons (je_var (.s .z) (ja_cons (je_var (.s (.s (.s .z))) (ja_nil (⟨⟨_, _⟩, [], (.val (.val .nil)), List.nodup_nil, rfl, (by subst t2_11; have h := hp.2.2.1; rw [dueS_ne (by decide)] at h; exact ⟨h, hp.2.2.2.1, hp.2.2.2.2⟩), fun _ _ h => h, fun xv xo xh => ⟨_, .nil, ⟨(by subst t2_11; rw [xh, dueS_ne (by decide)]), rfl⟩⟩⟩))))))))), fun z => (nomatch z)⟩, fun t2_11 => ⟨fun z => (nomatch z), fun _ => js_ifR (jt_eq (je_var .z (je_int (⟨fun t4_11 => ⟨fun _ => js_ret (by decide) (je_pair (je_str (je_callX (α := Int) ((ok_side_by_sideX x).mono (by decide)) hr hxo (ja_cons (je_var (.s .z) (ja_cons (je_var (.s (.s (.s .z))) (ja_nil (⟨⟨_, _⟩, [], (.val (.val .nil)), List.nodup_nil, rfl, (by subst t4_11; have h := hp.2.2.1; rw [dueS_ne (by decide)] at h; exact ⟨h, hp.2.2.2.1, hp.2.2.2.2⟩), fun _ _ h => h, fun xv xo xh => ⟨_, .nil, ⟨(by subst t4_11; rw [xh, dueS_ne (by decide)]), rfl⟩⟩⟩))))))))), fun z => (nomatch z)⟩, fun t4_11 => ⟨fun z => (nomatch z), fun _ => js_ret (by decide) (je_pair (je_str (je_callX (α := Int) ((ok_put_inB x).mono (by decide)) hr hxo (ja_cons (je_var (.s .z) (ja_cons (je_var (.s (.s .z)) (ja_cons (je_var (.s (.s (.s .z))) (ja_nil (⟨⟨_, _, _⟩, [], (.val (.val (.val .nil))), List.nodup_nil, rfl, (by have w2 : v_which = 2 := (by omega); subst w2; have h := hp.2.2.1; rw [dueS2] at h; exact ⟨hp.2.1 rfl, by dsimp only; omega, hp.2.2.2.1, hp.2.2.2.2⟩), fun _ _ h => h, fun xv xo xh => ⟨_, .nil, ⟨(by have w2 : v_which = 2 := (by omega); subst w2; rw [xh, dueS2]), rfl⟩⟩⟩)))))))))))⟩⟩))))⟩⟩))))) (fun v l1 hv => by obtain ⟨hv1, hv2⟩ := hv; subst hv1 hv2; exact ⟨x.x_BadCount_DoorsError, fun ea dd => ⟨_, (.s (.s (.s (.s .z)))), fun oe pn hz hfd => js_ifR (jt_w (jw_and (jt_bool (je_isX (v := bcE (dueS v_which v_one.size v_two.size)) x.er_BadCount.is hz hfd (.s (.s (.s (.s .z)))) x.b_isinstance x.g_BadCount x.k_BadCount_BadCount (⟨fun _ => ⟨fun z => (nomatch z), fun _ => jw_and1 (jt_not (jt_bool (je_isXT (v := bcE (dueS v_which v_one.size v_two.size)) x.er_BadCount.is hz hfd (.s (.s (.s (.s .z)))) x.b_isinstance x.g_NoWork x.g_Loop (kitAny_cons x.k_BadCount_NoWork (fun _ => kitAny_cons x.k_BadCount_Loop (fun _ => kitAny_nil) (fun z => nomatch z)) (fun z => nomatch z)) (⟨fun z => (nomatch z), fun _ => ⟨fun _ => js_ret (by decide) (je_pair (je_str (je_xf (v := bcE (dueS v_which v_one.size v_two.size)) x.er_BadCount.xf x.n_BadCount_count hz hfd (.s (.s (.s (.s .z)))) rfl (⟨(), .nil, (by rfl)⟩)))), fun z => (nomatch z)⟩⟩))))⟩, fun z => (nomatch z)⟩)))))⟩⟩)
theorem ok_law_triedN  (x : Fx K mg) : OkF P w K mg base CX0 5 "_law_tried" ["which", "one", "x", "two"] (spP K 4 (fun (a : Int × PlanD × Int × PlanD) => match a with | (z0, z1, z2, z3) => [sd z0, sd z1, sd z2, sd z3]) (fun a => a.1 = 2 ∧ (a.2.2.1 < 0 ∨ a.2.1.size ≤ a.2.2.1) ∧ -(10 ^ 40) < a.2.2.1 ∧ a.2.2.1 < 10 ^ 40) (fun a (r : Str × Int) => r = (("NoWork" : Str), a.2.2.1))) := by
  obtain ⟨fd, F⟩ := x.f_law_tried
  refine ⟨⟨fd, okT F sc_law_tried (fun _ => rfl) (fun cdv A0 outer s H E a B hr hp => ?_), F.bindsN fun _ _ _ _ _ _ us hl => match us, hl with | [_, _, _, _], _ => rfl⟩, x.g_law_tried, F.kp⟩
  obtain ⟨v_which, v_one, v_x, v_two⟩ := a
  try dsimp only at hp ⊢
  have nd := (sc_law_tried).nd
  have hps : PassesOwn (model (cxOf CX0 P w K mg base ["which", "one", "x", "two", "e"] "_law_tried" (defScope (top 56)) (He.ga K "_law_tried") cdv A0 outer s H E).prog (cxOf CX0 P w K mg base ["which", "one", "x", "two", "e"] "_law_tried" (defScope (top 56)) (He.ga K "_law_tried") cdv A0 outer s H E).w) (cxOf CX0 P w K mg base ["which", "one", "x", "two", "e"] "_law_tried" (defScope (top 56)) (He.ga K "_law_tried") cdv A0 outer s H E).A (cxOf CX0 P w K mg base ["which", "one", "x", "two", "e"] "_law_tried" (defScope (top 56)) (He.ga K "_law_tried") cdv A0 outer s H E).env (cxOf CX0 P w K mg base ["which", "one", "x", "two", "e"] "_law_tried" (defScope (top 56)) (He.ga K "_law_tried") cdv A0 outer s H E).xe := PassesOwn.leaving
  exact js_try (xw := fun x l => x = nwE v_x ∧ l = _) rfl rfl nd x.g_DoorsError xok0 (fun pn xe hxo hps => js_ifR (jt_eq (je_var .z (je_int (⟨fun t2_11 => ⟨fun _ => js_ret (by decide) (je_pair (je_str (je_callX (α := Int) ((ok_in_turnX x).mono (by decide)) hr hxo (ja_cons (je_var (.s .z) (ja_cons (je_var (.s (.s (.s .z))) (ja_nil (⟨⟨_, _⟩, [], (.val (.val .nil)), List.nodup_nil, rfl, (by first | omega | (simp only [St.ok] at *; omega) | (subst_vars; first | omega | (simp only [St.ok] at *; omega))), fun _ _ h => h, fun xv xo xh => ⟨_, .nil, ⟨(by exfalso; omega), rfl⟩⟩⟩))))))))), fun z => (nomatch z)⟩, fun t2_11 => ⟨fun z => (nomatch z), fun _ => js_ifR (jt_eq (je_var .z (je_int (⟨fun t4_11 => ⟨fun _ => js_ret (by decide) (je_pair (je_str (je_callX (α := Int) ((ok_side_by_sideX x).mono (by decide)) hr hxo (ja_cons (je_var (.s .z) (ja_cons (je_var (.s (.s (.s .z))) (ja_nil (⟨⟨_, _⟩, [], (.val (.val .nil)), List.nodup_nil, rfl, (by first | omega | (simp only [St.ok] at *; omega) | (subst_vars; first | omega | (simp only [St.ok] at *; omega))), fun _ _ h => h, fun xv xo xh => ⟨_, .nil, ⟨(by exfalso; omega), rfl⟩⟩⟩))))))))), fun z => (nomatch z)⟩, fun t4_11 => ⟨fun z => (nomatch z), fun _ => js_ret (by decide) (je_pair (je_str (je_callX (α := Int) ((ok_put_inN x).mono (by decide)) hr hxo (ja_cons (je_var (.s .z) (ja_cons (je_var (.s (.s .z)) (ja_cons (je_var (.s (.s (.s .z))) (ja_nil (⟨⟨_, _, _⟩, [], (.val (.val (.val .nil))), List.nodup_nil, rfl, (by exact hp.2), fun _ _ h => h, fun xv xo xh => ⟨_, .nil, ⟨(by exact xh), rfl⟩⟩⟩)))))))))))⟩⟩))))⟩⟩))))) (fun v l1 hv => by obtain ⟨hv1, hv2⟩ := hv; subst hv1 hv2; exact ⟨x.x_NoWork_DoorsError, fun ea dd => ⟨_, (.s (.s (.s (.s .z)))), fun oe pn hz hfd => js_ifR (jt_w (jw_and (jt_bool (je_isX (v := nwE v_x) x.er_NoWork.is hz hfd (.s (.s (.s (.s .z)))) x.b_isinstance x.g_BadCount x.k_NoWork_BadCount (⟨fun z => (nomatch z), fun _ => ⟨fun _ => ⟨fun z => (nomatch z), fun _ => js_ifR (jt_w (jw_and (jt_bool (je_isX (v := nwE v_x) x.er_NoWork.is hz hfd (.s (.s (.s (.s .z)))) x.b_isinstance x.g_NoWork x.k_NoWork_NoWork (⟨fun _ => ⟨fun z => (nomatch z), fun _ => jw_and1 (jt_not (jt_bool (je_isXT (v := nwE v_x) x.er_NoWork.is hz hfd (.s (.s (.s (.s .z)))) x.b_isinstance x.g_BadCount x.g_Loop (kitAny_cons x.k_NoWork_BadCount (fun _ => kitAny_cons x.k_NoWork_Loop (fun _ => kitAny_nil) (fun z => nomatch z)) (fun z => nomatch z)) (⟨fun z => (nomatch z), fun _ => ⟨fun _ => js_ret (by decide) (je_pair (je_str (je_xf (v := nwE v_x) x.er_NoWork.xf x.n_NoWork_work hz hfd (.s (.s (.s (.s .z)))) rfl (⟨(), .nil, (by rfl)⟩)))), fun z => (nomatch z)⟩⟩))))⟩, fun z => (nomatch z)⟩)))))⟩, fun z => (nomatch z)⟩⟩)))))⟩⟩)
end
end Lw
end
section
namespace Lw
open PySem PySem.Spec PyProof.Rows L2 Tyl
def dueQ (w : Int) (p : PlanD) (f : List (Int × Int)) (x : Int) (q : PlanD) (s : List (Int × Int)) : List (Int × Int) := if w = 2 then putPairs f x q.size s else joinPairs p.size f q.size s (decide (w = 0))
theorem due_plan {w x : Int} {p q : PlanD} {f s : List (Int × Int)} (h : w = 2 → 0 ≤ x ∧ x < p.size) (k : dueS w p.size q.size ≤ 20) : dueF w (p.size, f) x (q.size, s) = ⟨"plan", dueS w p.size q.size, dueQ w p f x q s⟩ := by
  unfold dueQ
  by_cases e : w = 2
  · subst e
    rw [due_put (h rfl) k, if_pos rfl]
  · rw [due_join e k, if_neg e]
theorem po_due {w x : Int} {p q r : PlanD} {f s : List (Int × Int)} (hd : PO r (dueP w p x q)) (hs : r.size = dueS w p.size q.size) (h : w = 2 → 0 ≤ x ∧ x < p.size) (hp : PO p f) (hq : PO q s) : PO r (dueQ w p f x q s) := by
  unfold dueQ
  by_cases e : w = 2
  · subst e
    rw [if_pos rfl]
    rw [dueP2] at hd
    exact PO.put hd hs (h rfl) hp hq
  · rw [if_neg e]
    unfold dueP at hd
    rw [if_neg e] at hd
    rw [dueS_ne e] at hs
    exact PO.join hd hs hp hq
theorem smU_sp {s : Str} {i : Int} : smU 6 (ToU.to (n := 6) (s, i)) := by
  refine ⟨by show 2 ≤ 100000; omega, fun y hy => ?_⟩
  have hy : y ∈ [Uv.str s, Uv.int i] := hy
  rw [List.mem_cons, List.mem_singleton] at hy
  rcases hy with rfl | rfl <;> exact smU_flat rfl
def AskC (C : PlanD → PlanD → Prop) (w : Int) (ps : List PlanD) (ds : List (Int × List (Int × Int))) (x : Int) : Prop := ∃ p q f s, ps = [p, q] ∧ ds = [(p.size, f), (q.size, s)] ∧ PO p f ∧ PO q s ∧ f.length ≤ 15000 ∧ s.length ≤ 15000 ∧ (w = 0 ∨ w = 1 ∨ w = 2) ∧ -(10 ^ 40) < x ∧ x < 10 ^ 40 ∧ C p q
theorem FnOk.or2 {P : Program} {w : World} {K : Fg} {mg : Str → Option Value} {base : Heap} {CX : CXT} {k : Nat} {g : Addr} {fd : FuncData} {ps : List Str} {A R O : Type} [Rp R] {mask : List Bool} {args : A → List SD} {p1 p2 : A → Prop} {outs : A → O → List SD} {post : A → R → O → Prop}
    (F1 : FnOk P w K mg base CX k g fd ps (spT K mask args p1 outs post)) (F2 : FnOk P w K mg base CX k g fd ps (spT K mask args p2 outs post)) : FnOk P w K mg base CX k g fd ps (spT K mask args (fun a => p1 a ∨ p2 a) outs post) :=
  ⟨fun vs H Q E ⟨a, G, fp, h1, h2, h3, h4, h5, h6, hp, hQ⟩ => hp.elim (fun q => F1.len vs H Q E ⟨a, G, fp, h1, h2, h3, h4, h5, h6, q, hQ⟩) (fun q => F2.len vs H Q E ⟨a, G, fp, h1, h2, h3, h4, h5, h6, q, hQ⟩),
   fun A0 outer s H args us vs Q E hr he hb hv ⟨a, G, fp, h1, h2, h3, h4, h5, h6, hp, hQ⟩ => hp.elim (fun q => F1.run A0 outer s H args us vs Q E hr he hb hv ⟨a, G, fp, h1, h2, h3, h4, h5, h6, q, hQ⟩) (fun q => F2.run A0 outer s H args us vs Q E hr he hb hv ⟨a, G, fp, h1, h2, h3, h4, h5, h6, q, hQ⟩)⟩
theorem FnOk.pre {P : Program} {w : World} {K : Fg} {mg : Str → Option Value} {base : Heap} {CX : CXT} {k : Nat} {g : Addr} {fd : FuncData} {ps : List Str} {A R O : Type} [Rp R] {mask : List Bool} {args : A → List SD} {p1 p2 : A → Prop} {outs : A → O → List SD} {post : A → R → O → Prop}
    (F1 : FnOk P w K mg base CX k g fd ps (spT K mask args p1 outs post)) (h : ∀ a, p2 a → p1 a) : FnOk P w K mg base CX k g fd ps (spT K mask args p2 outs post) := F1.imp fun vs H Q E ⟨a, G, fp, h1, h2, h3, h4, h5, h6, hp, hQ⟩ => ⟨a, G, fp, h1, h2, h3, h4, h5, h6, h a hp, hQ⟩
section
variable {w : World} {K : Fg} {mg : Str → Option Value} {base : Heap}
theorem sc_law_asked : FnScope ["which", "plans", "drawn", "x", "word", "number", "pairs", "told"] ["which", "plans", "drawn", "x"] (defScope (top 58)) := ⟨rfl, rfl, rfl, by decide +kernel, rfl, by decide +kernel, by decide +kernel⟩
theorem ok_law_askedP  (x : Fx K mg) {fd : FuncData} (F : FunD K "_law_asked" "_law_asked" (defArgs (top 58)) (defBody (top 58)) (defScope (top 58)) [] [] (He.ga K "_law_asked") fd) : FnOk P w K mg base CX0 9 (He.ga K "_law_asked") fd ["which", "plans", "drawn", "x"] (spP K 4 (fun (a : Int × (List (PlanD)) × (List (Int × (List (Int × Int)))) × Int) => match a with | (z0, z1, z2, z3) => [sd z0, sd z1, sd z2, sd z3]) (fun a => AskC (fun p q => (a.1 = 2 → 0 ≤ a.2.2.2 ∧ a.2.2.2 < p.size) ∧ dueS a.1 p.size q.size ≤ 20) a.1 a.2.1 a.2.2.1 a.2.2.2) (fun a (r : Bool) => r = true)) := by
  refine okT F sc_law_asked (fun _ => rfl) (fun cdv A0 outer s H E a B hr hp => ?_)
  obtain ⟨v_which, v_plans, v_drawn, v_x⟩ := a
  try dsimp only at hp ⊢
  obtain ⟨p, q, f, s0, rfl, rfl, hpo, hqo, lf, ls, hw, hx1, hx2, hC⟩ := hp
  have nd := (sc_law_asked).nd
  exact js_tgt (tg_3 rfl nd (by decide) (by decide) (by decide)) (je_callP ((ok_law_due x).mono (by decide)) hr pass0 (ja_cons (je_var .z (ja_cons (je_ix (je_var (.s (.s .z)) (je_int (⟨(by simp), fun d1_42 hd1_42 => ja_cons (je_var (.s (.s (.s .z))) (ja_cons (je_ix (je_var (.s (.s .z)) (je_int (⟨(by simp), fun d1_55 hd1_55 => ja_nil (⟨⟨_, _, _, _⟩, rfl, rfl, (by cases (show some (p.size, f) = some d1_42 from hd1_42); cases (show some (q.size, s0) = some d1_55 from hd1_55); have zp := hpo.1.1; have zq := hqo.1.1; exact ⟨⟨zp.1, zp.2, zq.1, zq.2⟩, lf, ls⟩), fun r1_26 p1_26 => ⟨_, ⟨_, _, (.s (.s (.s (.s .z)))), (.s (.s (.s (.s (.s .z))))), (.s (.s (.s (.s (.s (.s .z))))))⟩, js_asgv nd (je_callP ((ok_law_triedP x).mono (by decide)) hr pass0 (ja_cons (je_var .z (ja_cons (je_ix (je_var (.s .z) (je_int (⟨(by simp), fun d2_29 hd2_29 => ja_cons (je_var (.s (.s (.s .z))) (ja_cons (je_ix (je_var (.s .z) (je_int (⟨(by simp), fun d2_42 hd2_42 => ja_nil (⟨⟨_, _, _, _⟩, rfl, rfl, (by cases (show some (p.size, f) = some d1_42 from hd1_42); cases (show some (q.size, s0) = some d1_55 from hd1_55); have zp := hpo.1.1; have zq := hqo.1.1; cases (show some p = some d2_29 from hd2_29); cases (show some q = some d2_42 from hd2_42); exact ⟨hw, ⟨hpo.self, hqo.self⟩, hC.1, hC.2⟩), fun r2_11 p2_11 => fun v_told e_told => ⟨_, (.s (.s (.s (.s (.s (.s (.s .z))))))), js_ifR (jt_eq (je_var (.s (.s (.s (.s .z)))) (je_str (⟨fun t3_7 => ⟨fun _ => js_ifR (jt_w (jw_or (jt_ne (je_fst (je_var (.s (.s (.s (.s (.s (.s (.s .z))))))) (je_str (⟨fun t4_11 => ⟨fun _ => ⟨fun _ => js_ret (by decide) (je_bl (⟨(), .nil, (by exfalso; first | (rw [e_told] at t4_11; exact t4_11 p2_11.1) | (rw [p4_36] at t4_36; cases t4_36))⟩)), fun z => (nomatch z)⟩, fun z => (nomatch z)⟩, fun t4_11 => ⟨fun z => (nomatch z), fun _ => jw_or1 (jt_not (jt_bool (je_callP ((ok_law_is_plan x).mono (by decide)) hr pass0 (ja_cons (je_snd (je_var (.s (.s (.s (.s (.s (.s (.s .z))))))) (ja_cons (je_var (.s (.s (.s (.s (.s .z))))) (ja_cons (je_var (.s (.s (.s (.s (.s (.s .z)))))) (ja_nil (⟨⟨_, _, _⟩, rfl, rfl, (by cases (show some (p.size, f) = some d1_42 from hd1_42); cases (show some (q.size, s0) = some d1_55 from hd1_55); have zp := hpo.1.1; have zq := hqo.1.1; cases (show some p = some d2_29 from hd2_29); cases (show some q = some d2_42 from hd2_42); have e := p1_26.trans (due_plan hC.1 hC.2); rw [e, e_told]; exact ⟨p2_11.2.1.symm, po_due p2_11.2.2 p2_11.2.1 hC.1 hpo hqo⟩), fun r4_36 p4_36 => ⟨fun t4_36 => ⟨fun z => (nomatch z), fun _ => js_ret (by decide) (je_bl (⟨(), .nil, (by rfl)⟩))⟩, fun t4_36 => ⟨fun _ => js_ret (by decide) (je_bl (⟨(), .nil, (by exfalso; first | (rw [e_told] at t4_11; exact t4_11 p2_11.1) | (rw [p4_36] at t4_36; cases t4_36))⟩)), fun z => (nomatch z)⟩⟩⟩))))))))))))⟩⟩))))))), fun z => (nomatch z)⟩, fun t3_7 => ⟨fun z => (nomatch z), fun _ => (by exfalso; cases (show some (p.size, f) = some d1_42 from hd1_42); cases (show some (q.size, s0) = some d1_55 from hd1_55); have zp := hpo.1.1; have zq := hqo.1.1; cases (show some p = some d2_29 from hd2_29); cases (show some q = some d2_42 from hd2_42); have e := p1_26.trans (due_plan hC.1 hC.2); rw [e] at t3_7; exact t3_7 rfl)⟩⟩))))⟩⟩)⟩))))))⟩))))))))⟩⟩)⟩))))))⟩))))))))
theorem ok_law_askedB  (x : Fx K mg) {fd : FuncData} (F : FunD K "_law_asked" "_law_asked" (defArgs (top 58)) (defBody (top 58)) (defScope (top 58)) [] [] (He.ga K "_law_asked") fd) : FnOk P w K mg base CX0 8 (He.ga K "_law_asked") fd ["which", "plans", "drawn", "x"] (spP K 4 (fun (a : Int × (List (PlanD)) × (List (Int × (List (Int × Int)))) × Int) => match a with | (z0, z1, z2, z3) => [sd z0, sd z1, sd z2, sd z3]) (fun a => AskC (fun p q => (a.1 = 2 → 0 ≤ a.2.2.2 ∧ a.2.2.2 < p.size) ∧ 20 < dueS a.1 p.size q.size) a.1 a.2.1 a.2.2.1 a.2.2.2) (fun a (r : Bool) => r = true)) := by
  refine okT F sc_law_asked (fun _ => rfl) (fun cdv A0 outer s H E a B hr hp => ?_)
  obtain ⟨v_which, v_plans, v_drawn, v_x⟩ := a
  try dsimp only at hp ⊢
  obtain ⟨p, q, f, s0, rfl, rfl, hpo, hqo, lf, ls, hw, hx1, hx2, hC⟩ := hp
  have nd := (sc_law_asked).nd
  exact js_tgt (tg_3 rfl nd (by decide) (by decide) (by decide)) (je_callP ((ok_law_due x).mono (by decide)) hr pass0 (ja_cons (je_var .z (ja_cons (je_ix (je_var (.s (.s .z)) (je_int (⟨(by simp), fun d1_42 hd1_42 => ja_cons (je_var (.s (.s (.s .z))) (ja_cons (je_ix (je_var (.s (.s .z)) (je_int (⟨(by simp), fun d1_55 hd1_55 => ja_nil (⟨⟨_, _, _, _⟩, rfl, rfl, (by cases (show some (p.size, f) = some d1_42 from hd1_42); cases (show some (q.size, s0) = some d1_55 from hd1_55); have zp := hpo.1.1; have zq := hqo.1.1; exact ⟨⟨zp.1, zp.2, zq.1, zq.2⟩, lf, ls⟩), fun r1_26 p1_26 => ⟨_, ⟨_, _, (.s (.s (.s (.s .z)))), (.s (.s (.s (.s (.s .z))))), (.s (.s (.s (.s (.s (.s .z))))))⟩, js_asgv nd (je_callP ((ok_law_triedB x).mono (by decide)) hr pass0 (ja_cons (je_var .z (ja_cons (je_ix (je_var (.s .z) (je_int (⟨(by simp), fun d2_29 hd2_29 => ja_cons (je_var (.s (.s (.s .z))) (ja_cons (je_ix (je_var (.s .z) (je_int (⟨(by simp), fun d2_42 hd2_42 => ja_nil (⟨⟨_, _, _, _⟩, rfl, rfl, (by cases (show some (p.size, f) = some d1_42 from hd1_42); cases (show some (q.size, s0) = some d1_55 from hd1_55); have zp := hpo.1.1; have zq := hqo.1.1; cases (show some p = some d2_29 from hd2_29); cases (show some q = some d2_42 from hd2_42); exact ⟨hw, hC.1, hC.2, zp.2, zq.2⟩), fun r2_11 p2_11 => fun v_told e_told => ⟨_, (.s (.s (.s (.s (.s (.s (.s .z))))))), js_ifR (jt_eq (je_var (.s (.s (.s (.s .z)))) (je_str (⟨fun t3_7 => ⟨fun _ => (by exfalso; cases (show some (p.size, f) = some d1_42 from hd1_42); cases (show some (q.size, s0) = some d1_55 from hd1_55); have zp := hpo.1.1; have zq := hqo.1.1; cases (show some p = some d2_29 from hd2_29); cases (show some q = some d2_42 from hd2_42); have e := p1_26.trans (due_bad (f := (p.size, f)) (s := (q.size, s0)) (x := v_x) hC.1 hC.2); rw [e] at t3_7; exact absurd (show ("BadCount" : Str) = "plan" from t3_7) (by decide)), fun z => (nomatch z)⟩, fun t3_7 => ⟨fun z => (nomatch z), fun _ => js_ret (by decide) (je_and (je_ne (je_fst (je_var (.s (.s (.s (.s (.s (.s (.s .z))))))) (je_str (⟨fun b7_11 => ⟨(), .nil, (by first | exact p7_33 | (exfalso; rw [e_told, p2_11] at b7_11; exact absurd (show (!decide (("BadCount" : Str) = "plan")) = false from b7_11) (by decide)))⟩, fun b7_11 => je_one (je_callP ((ok_law_same6 x).mono (by decide)) hr pass0 (ja_cons (je_u (α := Str × Int) (je_var (.s (.s (.s (.s (.s (.s (.s .z))))))) (ja_cons (je_u (α := Str × Int) (je_pair (je_var (.s (.s (.s (.s .z)))) (je_var (.s (.s (.s (.s (.s .z))))) (ja_nil (⟨⟨_, _⟩, rfl, rfl, (by cases (show some (p.size, f) = some d1_42 from hd1_42); cases (show some (q.size, s0) = some d1_55 from hd1_55); have zp := hpo.1.1; have zq := hqo.1.1; cases (show some p = some d2_29 from hd2_29); cases (show some q = some d2_42 from hd2_42); have e := p1_26.trans (due_bad (f := (p.size, f)) (s := (q.size, s0)) (x := v_x) hC.1 hC.2); rw [e, e_told, p2_11]; exact ⟨rfl, smU_sp⟩), fun r7_33 p7_33 => ⟨(), .nil, (by first | exact p7_33 | (exfalso; rw [e_told, p2_11] at b7_11; exact absurd (show (!decide (("BadCount" : Str) = "plan")) = false from b7_11) (by decide)))⟩⟩)))))))))))⟩))))))⟩⟩))))⟩⟩)⟩))))))⟩))))))))⟩⟩)⟩))))))⟩))))))))
theorem ok_law_askedN  (x : Fx K mg) {fd : FuncData} (F : FunD K "_law_asked" "_law_asked" (defArgs (top 58)) (defBody (top 58)) (defScope (top 58)) [] [] (He.ga K "_law_asked") fd) : FnOk P w K mg base CX0 8 (He.ga K "_law_asked") fd ["which", "plans", "drawn", "x"] (spP K 4 (fun (a : Int × (List (PlanD)) × (List (Int × (List (Int × Int)))) × Int) => match a with | (z0, z1, z2, z3) => [sd z0, sd z1, sd z2, sd z3]) (fun a => AskC (fun p q => a.1 = 2 ∧ (a.2.2.2 < 0 ∨ p.size ≤ a.2.2.2)) a.1 a.2.1 a.2.2.1 a.2.2.2) (fun a (r : Bool) => r = true)) := by
  refine okT F sc_law_asked (fun _ => rfl) (fun cdv A0 outer s H E a B hr hp => ?_)
  obtain ⟨v_which, v_plans, v_drawn, v_x⟩ := a
  try dsimp only at hp ⊢
  obtain ⟨p, q, f, s0, rfl, rfl, hpo, hqo, lf, ls, hw, hx1, hx2, hC⟩ := hp
  have nd := (sc_law_asked).nd
  exact js_tgt (tg_3 rfl nd (by decide) (by decide) (by decide)) (je_callP ((ok_law_due x).mono (by decide)) hr pass0 (ja_cons (je_var .z (ja_cons (je_ix (je_var (.s (.s .z)) (je_int (⟨(by simp), fun d1_42 hd1_42 => ja_cons (je_var (.s (.s (.s .z))) (ja_cons (je_ix (je_var (.s (.s .z)) (je_int (⟨(by simp), fun d1_55 hd1_55 => ja_nil (⟨⟨_, _, _, _⟩, rfl, rfl, (by cases (show some (p.size, f) = some d1_42 from hd1_42); cases (show some (q.size, s0) = some d1_55 from hd1_55); have zp := hpo.1.1; have zq := hqo.1.1; exact ⟨⟨zp.1, zp.2, zq.1, zq.2⟩, lf, ls⟩), fun r1_26 p1_26 => ⟨_, ⟨_, _, (.s (.s (.s (.s .z)))), (.s (.s (.s (.s (.s .z))))), (.s (.s (.s (.s (.s (.s .z))))))⟩, js_asgv nd (je_callP ((ok_law_triedN x).mono (by decide)) hr pass0 (ja_cons (je_var .z (ja_cons (je_ix (je_var (.s .z) (je_int (⟨(by simp), fun d2_29 hd2_29 => ja_cons (je_var (.s (.s (.s .z))) (ja_cons (je_ix (je_var (.s .z) (je_int (⟨(by simp), fun d2_42 hd2_42 => ja_nil (⟨⟨_, _, _, _⟩, rfl, rfl, (by cases (show some (p.size, f) = some d1_42 from hd1_42); cases (show some (q.size, s0) = some d1_55 from hd1_55); have zp := hpo.1.1; have zq := hqo.1.1; cases (show some p = some d2_29 from hd2_29); cases (show some q = some d2_42 from hd2_42); exact ⟨hC.1, hC.2, hx1, hx2⟩), fun r2_11 p2_11 => fun v_told e_told => ⟨_, (.s (.s (.s (.s (.s (.s (.s .z))))))), js_ifR (jt_eq (je_var (.s (.s (.s (.s .z)))) (je_str (⟨fun t3_7 => ⟨fun _ => (by exfalso; cases (show some (p.size, f) = some d1_42 from hd1_42); cases (show some (q.size, s0) = some d1_55 from hd1_55); have zp := hpo.1.1; have zq := hqo.1.1; cases (show some p = some d2_29 from hd2_29); cases (show some q = some d2_42 from hd2_42); have w2 : v_which = 2 := hC.1; subst w2; have e := p1_26.trans (due_nw (f := (p.size, f)) (s := (q.size, s0)) hC.2); rw [e] at t3_7; exact absurd (show ("NoWork" : Str) = "plan" from t3_7) (by decide)), fun z => (nomatch z)⟩, fun t3_7 => ⟨fun z => (nomatch z), fun _ => js_ret (by decide) (je_and (je_ne (je_fst (je_var (.s (.s (.s (.s (.s (.s (.s .z))))))) (je_str (⟨fun b7_11 => ⟨(), .nil, (by first | exact p7_33 | (exfalso; rw [e_told, p2_11] at b7_11; exact absurd (show (!decide (("NoWork" : Str) = "plan")) = false from b7_11) (by decide)))⟩, fun b7_11 => je_one (je_callP ((ok_law_same6 x).mono (by decide)) hr pass0 (ja_cons (je_u (α := Str × Int) (je_var (.s (.s (.s (.s (.s (.s (.s .z))))))) (ja_cons (je_u (α := Str × Int) (je_pair (je_var (.s (.s (.s (.s .z)))) (je_var (.s (.s (.s (.s (.s .z))))) (ja_nil (⟨⟨_, _⟩, rfl, rfl, (by cases (show some (p.size, f) = some d1_42 from hd1_42); cases (show some (q.size, s0) = some d1_55 from hd1_55); have zp := hpo.1.1; have zq := hqo.1.1; cases (show some p = some d2_29 from hd2_29); cases (show some q = some d2_42 from hd2_42); have w2 : v_which = 2 := hC.1; subst w2; have e := p1_26.trans (due_nw (f := (p.size, f)) (s := (q.size, s0)) hC.2); rw [e, e_told, p2_11]; exact ⟨rfl, smU_sp⟩), fun r7_33 p7_33 => ⟨(), .nil, (by first | exact p7_33 | (exfalso; rw [e_told, p2_11] at b7_11; exact absurd (show (!decide (("NoWork" : Str) = "plan")) = false from b7_11) (by decide)))⟩⟩)))))))))))⟩))))))⟩⟩))))⟩⟩)⟩))))))⟩))))))))⟩⟩)⟩))))))⟩))))))))
/-- what is asked of three plans -/
abbrev AskA := Int × List PlanD × List (Int × List (Int × Int)) × Int
theorem asked_cases (a : AskA) (h : AskC (fun _ _ => True) a.1 a.2.1 a.2.2.1 a.2.2.2) : AskC (fun p q => (a.1 = 2 → 0 ≤ a.2.2.2 ∧ a.2.2.2 < p.size) ∧ dueS a.1 p.size q.size ≤ 20) a.1 a.2.1 a.2.2.1 a.2.2.2 ∨ AskC (fun p q => (a.1 = 2 → 0 ≤ a.2.2.2 ∧ a.2.2.2 < p.size) ∧ 20 < dueS a.1 p.size q.size) a.1 a.2.1 a.2.2.1 a.2.2.2 ∨ AskC (fun p q => a.1 = 2 ∧ (a.2.2.2 < 0 ∨ p.size ≤ a.2.2.2)) a.1 a.2.1 a.2.2.1 a.2.2.2 := by
  obtain ⟨p, q, f, s, e1, e2, hp, hq, lf, ls, hw, h1, h2, _⟩ := h
  by_cases c : a.1 = 2 ∧ (a.2.2.2 < 0 ∨ p.size ≤ a.2.2.2)
  · exact .inr (.inr ⟨p, q, f, s, e1, e2, hp, hq, lf, ls, hw, h1, h2, c⟩)
  · have c2 : a.1 = 2 → 0 ≤ a.2.2.2 ∧ a.2.2.2 < p.size := fun z => by
      have := fun y => c ⟨z, y⟩
      omega
    by_cases d : dueS a.1 p.size q.size ≤ 20
    · exact .inl ⟨p, q, f, s, e1, e2, hp, hq, lf, ls, hw, h1, h2, c2, d⟩
    · exact .inr (.inl ⟨p, q, f, s, e1, e2, hp, hq, lf, ls, hw, h1, h2, c2, by omega⟩)
theorem ok_law_asked (x : Fx K mg) : OkF P w K mg base CX0 9 "_law_asked" ["which", "plans", "drawn", "x"] (spP K 4 (fun (a : Int × (List (PlanD)) × (List (Int × (List (Int × Int)))) × Int) => match a with | (z0, z1, z2, z3) => [sd z0, sd z1, sd z2, sd z3]) (fun a => AskC (fun _ _ => True) a.1 a.2.1 a.2.2.1 a.2.2.2) (fun a (r : Bool) => r = true)) := by
  obtain ⟨fd, F⟩ := x.f_law_asked
  refine ⟨⟨fd, FnOk.pre (FnOk.or2 ((ok_law_askedP x F).mono (by decide)) (FnOk.or2 ((ok_law_askedB x F).mono (by decide)) ((ok_law_askedN x F).mono (by decide)))) asked_cases, F.bindsN fun _ _ _ _ _ _ us hl => match us, hl with | [_, _, _, _], _ => rfl⟩, x.g_law_asked, F.kp⟩
end
end Lw
end
section
namespace Lw
open PySem PySem.Spec PyProof.Rows L2 Tyl
def frP (w : Int) : List (Int × Int) := if w = 0 then (rgI 0 (2 - 1)).map (fun x => (x, x + 1)) else []
theorem mem_frP {w : Int} {a b : Int} : (a, b) ∈ frP w ↔ w = 0 ∧ a = 0 ∧ b = 1 := by
  unfold frP
  split
  · rename_i h
    rw [show (rgI 0 (2 - 1)).map (fun x => (x, x + 1)) = [((0 : Int), (1 : Int))] from by decide +kernel, List.mem_singleton, Prod.mk.injEq]
    simp [h]
  · rename_i h
    simp [h]
theorem mem_putE {x k y z : Int} : z ∈ PutE x k y ↔ (y = x ∧ x ≤ z ∧ z < x + k) ∨ (y < x ∧ z = y) ∨ (x < y ∧ z = y + (k - 1)) := by
  refine ⟨putE_mem, fun h => ?_⟩
  unfold PutE
  split
  · rw [rgI_mem]; omega
  · rw [List.mem_singleton]
    split <;> omega
theorem put_one_mem {n k w : Int} {f s : List (Int × Int)} (hn : 1 ≤ n) (hk : 1 ≤ k) (hf : InR n f) (p : Int × Int) : p ∈ putPairs (putPairs (frP w) 0 n f) n k s ↔ p ∈ joinPairs n f k s (decide (w = 0)) := by
  obtain ⟨a, b⟩ := p
  rw [putPairs_mem, join_mem]
  constructor
  · rintro (⟨q, hq, e⟩ | ⟨⟨c, d⟩, hq, h1, h2⟩)
    · exact .inr (.inl ⟨q, hq, e⟩)
    · rw [putPairs_mem] at hq
      rw [mem_putE] at h1 h2
      rcases hq with ⟨⟨t, u⟩, ht, e⟩ | ⟨⟨t, u⟩, ht, e1, e2⟩
      · have r := hf _ ht
        obtain ⟨rfl, rfl⟩ := Prod.mk.inj e
        dsimp only at *
        left
        have ea : a = t := by omega
        have eb : b = u := by omega
        rw [ea, eb]; exact ht
      · obtain ⟨hw, rfl, rfl⟩ := mem_frP.mp ht
        rw [mem_putE] at e1 e2
        dsimp only at *
        exact .inr (.inr ⟨decide_eq_true hw, by omega, by omega, by omega, by omega⟩)
  · rintro (h | ⟨q, hq, e⟩ | ⟨hw, h⟩)
    · have r := hf _ h
      dsimp only at r
      refine .inr ⟨(a, b), putPairs_mem.mpr (.inl ⟨(a, b), h, by dsimp only; rw [Int.zero_add, Int.zero_add]⟩), ?_, ?_⟩ <;> rw [mem_putE] <;> dsimp only <;> omega
    · exact .inl ⟨q, hq, e⟩
    · dsimp only at h
      refine .inr ⟨(a, n), putPairs_mem.mpr (.inr ⟨(0, 1), mem_frP.mpr ⟨of_decide_eq_true hw, rfl, rfl⟩, ?_, ?_⟩), ?_, ?_⟩ <;> rw [mem_putE] <;> dsimp only <;> omega
theorem put_two_mem {n k w : Int} {f s : List (Int × Int)} (hn : 1 ≤ n) (hk : 1 ≤ k) (hs : InR k s) (p : Int × Int) : p ∈ putPairs (putPairs (frP w) 1 k s) 0 n f ↔ p ∈ joinPairs n f k s (decide (w = 0)) := by
  obtain ⟨a, b⟩ := p
  rw [putPairs_mem, join_mem]
  constructor
  · rintro (⟨⟨t, u⟩, hq, e⟩ | ⟨⟨c, d⟩, hq, h1, h2⟩)
    · left
      obtain ⟨rfl, rfl⟩ := Prod.mk.inj e
      dsimp only
      rw [Int.zero_add, Int.zero_add]; exact hq
    · rw [putPairs_mem] at hq
      rw [mem_putE] at h1 h2
      rcases hq with ⟨⟨t, u⟩, ht, e⟩ | ⟨⟨t, u⟩, ht, e1, e2⟩
      · have r := hs _ ht
        obtain ⟨rfl, rfl⟩ := Prod.mk.inj e
        dsimp only at *
        exact .inr (.inl ⟨(t, u), ht, by rw [Prod.mk.injEq]; dsimp only; omega⟩)
      · obtain ⟨hw, rfl, rfl⟩ := mem_frP.mp ht
        rw [mem_putE] at e1 e2
        dsimp only at *
        exact .inr (.inr ⟨decide_eq_true hw, by omega, by omega, by omega, by omega⟩)
  · rintro (h | ⟨⟨t, u⟩, hq, e⟩ | ⟨hw, h⟩)
    · exact .inl ⟨(a, b), h, by dsimp only; rw [Int.zero_add, Int.zero_add]⟩
    · have r := hs _ hq
      obtain ⟨rfl, rfl⟩ := Prod.mk.inj e
      dsimp only at r
      refine .inr ⟨(1 + t, 1 + u), putPairs_mem.mpr (.inl ⟨(t, u), hq, rfl⟩), ?_, ?_⟩ <;> rw [mem_putE] <;> dsimp only <;> omega
    · dsimp only at h
      refine .inr ⟨(0, b - n + 1), putPairs_mem.mpr (.inr ⟨(0, 1), mem_frP.mpr ⟨of_decide_eq_true hw, rfl, rfl⟩, ?_, ?_⟩), ?_, ?_⟩ <;> rw [mem_putE] <;> dsimp only <;> omega
theorem put_one {p q a b fr : PlanD} {w : Int} {f s : List (Int × Int)} (hp : PO p f) (hq : PO q s) (hfr : fr.size = 2 ∧ PO fr (frP w)) (ha : a.size = fr.size + p.size - 1 ∧ PO a (putPairs fr.prow 0 p.size p.prow)) (hb : b.size = a.size + q.size - 1 ∧ PO b (putPairs a.prow p.size q.size q.prow)) : b.size = p.size + q.size ∧ PO b (joinPairs p.size f q.size s (decide (w = 0))) := by
  have zp := hp.1.1
  have zq := hq.1.1
  have h1 := PO.put ha.2 ha.1 ⟨by omega, by omega⟩ hfr.2 hp
  have h2 := PO.put hb.2 hb.1 ⟨by omega, by omega⟩ h1 hq
  have e : b.size = p.size + q.size := by omega
  exact ⟨e, h2.of (by rw [e]; exact ac_join hp.2 hq.2 (by omega) (by omega)) fun x y => tc_congr fun c d => put_one_mem zp.1 zq.1 hp.2.inR _⟩
theorem put_two {p q a b fr : PlanD} {w : Int} {f s : List (Int × Int)} (hp : PO p f) (hq : PO q s) (hfr : fr.size = 2 ∧ PO fr (frP w)) (ha : a.size = fr.size + q.size - 1 ∧ PO a (putPairs fr.prow 1 q.size q.prow)) (hb : b.size = a.size + p.size - 1 ∧ PO b (putPairs a.prow 0 p.size p.prow)) : b.size = p.size + q.size ∧ PO b (joinPairs p.size f q.size s (decide (w = 0))) := by
  have zp := hp.1.1
  have zq := hq.1.1
  have h1 := PO.put ha.2 ha.1 ⟨by omega, by omega⟩ hfr.2 hq
  have h2 := PO.put hb.2 hb.1 ⟨by omega, by omega⟩ h1 hp
  have e : b.size = p.size + q.size := by omega
  exact ⟨e, h2.of (by rw [e]; exact ac_join hp.2 hq.2 (by omega) (by omega)) fun x y => tc_congr fun c d => put_two_mem zp.1 zq.1 hq.2.inR _⟩
theorem PO.eqs1 {a b : PlanD} {n : Int} {ps : List (Int × Int)} (h : a.size = n ∧ PO a ps) (k : b.size = n ∧ PO b ps) : a.size = b.size ∧ a.masks = b.masks := h.2.eqs k.2 (by rw [h.1, k.1]) fun _ _ => Iff.rfl
theorem whole_is {w : Int} {p q r : PlanD} {f s : List (Int × Int)} (hw : w ≠ 2) (h : r.size = dueS w p.size q.size ∧ PO r (dueP w p 0 q)) (hp : PO p f) (hq : PO q s) : r.size = p.size + q.size ∧ PO r (joinPairs p.size f q.size s (decide (w = 0))) := by
  have h2 := po_due h.2 h.1 (fun z => absurd z hw) hp hq
  unfold dueQ at h2
  rw [if_neg hw] at h2
  exact ⟨h.1.trans (dueS_ne hw), h2⟩
theorem smU_bools {L : List Bool} (h : L.length ≤ 100000) : smU 6 (ToU.to (n := 6) L) := by
  refine ⟨?_, fun x hx => ?_⟩
  · show (List.map _ L).length ≤ 100000
    rw [List.length_map]; exact h
  · obtain ⟨q, _, rfl⟩ := List.mem_map.mp hx
    exact smU_flat rfl
def PutsC (ps : List PlanD) (ds : List (Int × List (Int × Int))) : Prop := ∃ p q f s, ps = [p, q] ∧ ds = [(p.size, f), (q.size, s)] ∧ PO p f ∧ PO q s ∧ f.length ≤ 15000 ∧ s.length ≤ 15000
section
variable {w : World} {K : Fg} {mg : Str → Option Value} {base : Heap}
theorem sc_law_by_puts : FnScope ["plans", "drawn", "size", "which", "frame", "whole", "one", "two", "pairs", "plan"] ["plans", "drawn"] (defScope (top 59)) := ⟨rfl, rfl, rfl, by decide +kernel, rfl, by decide +kernel, by decide +kernel⟩
theorem ok_law_by_puts  (x : Fx K mg) : OkF P w K mg base CX0 9 "_law_by_puts" ["plans", "drawn"] (spP K 2 (fun (a : (List (PlanD)) × (List (Int × (List (Int × Int))))) => match a with | (z0, z1) => [sd z0, sd z1]) (fun a => PutsC a.1 a.2) (fun a (r : Bool) => r = true)) := by
  obtain ⟨fd, F⟩ := x.f_law_by_puts
  refine ⟨⟨fd, okT F sc_law_by_puts (fun _ => rfl) (fun cdv A0 outer s H E a B hr hp => ?_), F.bindsN fun _ _ _ _ _ _ us hl => match us, hl with | [_, _], _ => rfl⟩, x.g_law_by_puts, F.kp⟩
  obtain ⟨v_plans, v_drawn⟩ := a
  try dsimp only at hp ⊢
  obtain ⟨p, q, f, s0, rfl, rfl, hpo, hqo, lf, ls⟩ := hp
  have nd := (sc_law_by_puts).nd
  have hps : PassesOwn (model (cxOf CX0 P w K mg base ["plans", "drawn", "size", "which", "frame", "whole", "one", "two", "pairs", "plan"] "_law_by_puts" (defScope (top 59)) (He.ga K "_law_by_puts") cdv A0 outer s H E).prog (cxOf CX0 P w K mg base ["plans", "drawn", "size", "which", "frame", "whole", "one", "two", "pairs", "plan"] "_law_by_puts" (defScope (top 59)) (He.ga K "_law_by_puts") cdv A0 outer s H E).w) (cxOf CX0 P w K mg base ["plans", "drawn", "size", "which", "frame", "whole", "one", "two", "pairs", "plan"] "_law_by_puts" (defScope (top 59)) (He.ga K "_law_by_puts") cdv A0 outer s H E).A (cxOf CX0 P w K mg base ["plans", "drawn", "size", "which", "frame", "whole", "one", "two", "pairs", "plan"] "_law_by_puts" (defScope (top 59)) (He.ga K "_law_by_puts") cdv A0 outer s H E).env (cxOf CX0 P w K mg base ["plans", "drawn", "size", "which", "frame", "whole", "one", "two", "pairs", "plan"] "_law_by_puts" (defScope (top 59)) (He.ga K "_law_by_puts") cdv A0 outer s H E).xe := PassesOwn.leaving
  exact js_asg nd (je_fst (je_ix (je_var (.s .z) (je_int (⟨(by simp), fun d1_11 hd1_11 => ⟨_, (.s (.s .z)), js_ifR (jt_gt (je_add (je_var (.s (.s .z)) (je_fst (je_ix (je_var (.s .z) (je_int (⟨(by simp), fun d2_14 hd2_14 => je_int (⟨fun t2_7 => ⟨fun _ => js_ret (by decide) (je_bl (⟨(), .nil, (by rfl)⟩)), fun z => (nomatch z)⟩, fun t2_7 => ⟨fun z => (nomatch z), fun _ => js_range nd x.b_range hps rfl (je_int (⟨Unit, (fun (_ : Unit) => []), fun (i : Nat) (s : Unit) => True, (by first | omega | (simp only [St.ok] at *; omega) | (subst_vars; first | omega | (simp only [St.ok] at *; omega))), ⟨(), (.keep (.keep (.keep (.keep (.keep (.keep (.keep (.keep (.keep (.keep .nil)))))))))), (by trivial)⟩, fun i4 s4 hi4 hI4 => ⟨_, (.s (.s (.s .z))), js_asgv nd (je_cmeth x.g_Plan x.cm_Plan_chain ((ok_Plan_chain x).mono (by decide)) hr pass0 (ja_cons (je_int (ja_nil (⟨⟨_, _⟩, rfl, rfl, (by first | omega | (simp only [St.ok] at *; omega) | (subst_vars; first | omega | (simp only [St.ok] at *; omega))), fun r5_16 p5_16 => fun v_frame e_frame => ⟨_, (.s (.s (.s (.s .z)))), js_asgv nd (je_callP ((ok_law_triedP x).mono (by decide)) hr pass0 (ja_cons (je_var (.s (.s (.s .z))) (ja_cons (je_ix (je_var .z (je_int (⟨(by simp), fun d6_34 hd6_34 => ja_cons (je_int (ja_cons (je_ix (je_var .z (je_int (⟨(by simp), fun d6_47 hd6_47 => ja_nil (⟨⟨_, _, _, _⟩, rfl, rfl, (by cases (show some (p.size, f) = some d1_11 from hd1_11); cases (show some (q.size, s0) = some d2_14 from hd2_14); have zp := hpo.1.1; have zq := hqo.1.1; cases (show some p = some d6_34 from hd6_34); cases (show some q = some d6_47 from hd6_47); refine ⟨by omega, ⟨hpo.self, hqo.self⟩, fun _ => by omega, ?_⟩; dsimp only; rw [dueS_ne (by omega)]; omega), fun r6_16 p6_16 => fun v_whole e_whole => ⟨_, (.s (.s (.s (.s (.s .z))))), js_ifm (S := (PlanD)) (fun (z0 : (PlanD)) => [(4, some (sd z0))]) (fun (s : (PlanD)) => s.size = 2 ∧ PO s (frP (i4 : Int))) (fun s7_frame hJ7 => js_asgv nd (je_callP ((ok_put_in x).mono (by decide)) hr pass0 (ja_cons (je_callP ((ok_put_in x).mono (by decide)) hr pass0 (ja_cons (je_var (.s (.s (.s (.s .z)))) (ja_cons (je_int (ja_cons (je_ix (je_var .z (je_int (⟨(by simp), fun d9_38 hd9_38 => ja_nil (⟨⟨_, _, _⟩, rfl, rfl, (by cases (show some (p.size, f) = some d1_11 from hd1_11); cases (show some (q.size, s0) = some d2_14 from hd2_14); have zp := hpo.1.1; have zq := hqo.1.1; cases (show some p = some d6_34 from hd6_34); cases (show some q = some d6_47 from hd6_47); cases (show some p = some d9_38 from hd9_38); have h7 := hJ7.1; exact ⟨hJ7.2.self, hpo.self, by dsimp only; omega, by dsimp only; omega⟩), fun r9_21 p9_21 => ja_cons (je_var (.s (.s .z)) (ja_cons (je_ix (je_var .z (je_int (⟨(by simp), fun d9_55 hd9_55 => ja_nil (⟨⟨_, _, _⟩, rfl, rfl, (by cases (show some (p.size, f) = some d1_11 from hd1_11); cases (show some (q.size, s0) = some d2_14 from hd2_14); have zp := hpo.1.1; have zq := hqo.1.1; cases (show some p = some d6_34 from hd6_34); cases (show some q = some d6_47 from hd6_47); cases (show some p = some d9_38 from hd9_38); cases (show some q = some d9_55 from hd9_55); have h7 := hJ7.1; have h9 := p9_21.1; dsimp only at h9; exact ⟨p9_21.2.self, hqo.self, by dsimp only; omega, by dsimp only; omega⟩), fun r9_14 p9_14 => fun v_one e_one => ⟨_, (.s (.s (.s (.s (.s (.s .z)))))), js_asgv nd (je_callP ((ok_put_in x).mono (by decide)) hr pass0 (ja_cons (je_callP ((ok_put_in x).mono (by decide)) hr pass0 (ja_cons (je_var (.s (.s (.s (.s .z)))) (ja_cons (je_int (ja_cons (je_ix (je_var .z (je_int (⟨(by simp), fun d10_38 hd10_38 => ja_nil (⟨⟨_, _, _⟩, rfl, rfl, (by cases (show some (p.size, f) = some d1_11 from hd1_11); cases (show some (q.size, s0) = some d2_14 from hd2_14); have zp := hpo.1.1; have zq := hqo.1.1; cases (show some p = some d6_34 from hd6_34); cases (show some q = some d6_47 from hd6_47); cases (show some p = some d9_38 from hd9_38); cases (show some q = some d9_55 from hd9_55); cases (show some q = some d10_38 from hd10_38); have h7 := hJ7.1; exact ⟨hJ7.2.self, hqo.self, by dsimp only; omega, by dsimp only; omega⟩), fun r10_21 p10_21 => ja_cons (je_int (ja_cons (je_ix (je_var .z (je_int (⟨(by simp), fun d10_52 hd10_52 => ja_nil (⟨⟨_, _, _⟩, rfl, rfl, (by cases (show some (p.size, f) = some d1_11 from hd1_11); cases (show some (q.size, s0) = some d2_14 from hd2_14); have zp := hpo.1.1; have zq := hqo.1.1; cases (show some p = some d6_34 from hd6_34); cases (show some q = some d6_47 from hd6_47); cases (show some p = some d9_38 from hd9_38); cases (show some q = some d9_55 from hd9_55); cases (show some q = some d10_38 from hd10_38); cases (show some p = some d10_52 from hd10_52); have h7 := hJ7.1; have h9 := p10_21.1; dsimp only at h9; exact ⟨p10_21.2.self, hpo.self, by dsimp only; omega, by dsimp only; omega⟩), fun r10_14 p10_14 => fun v_two e_two => ⟨_, (.s (.s (.s (.s (.s (.s (.s .z))))))), js_ifR (jt_w (jw_or (jt_ne (je_fst (je_var (.s (.s (.s (.s (.s .z))))) (je_str (⟨fun t11_11 => ⟨fun _ => ⟨fun _ => js_ret (by decide) (je_bl (⟨(), .nil, (by exfalso; first | (rw [e_whole] at t11_11; exact t11_11 p6_16.1) | (rw [p11_37] at t11_37; cases t11_37))⟩)), fun z => (nomatch z)⟩, fun z => (nomatch z)⟩, fun t11_11 => ⟨fun z => (nomatch z), fun _ => jw_or1 (jt_not (jt_bool (je_callP ((ok_law_same6 x).mono (by decide)) hr pass0 (ja_cons (je_u (α := List Bool) (je_new (jn_lst (ja_cons (je_eqC ((ok_Plan_eq x).mono (by decide)) x.q_Plan.hs x.q_Plan.hf hr pass0 (je_var (.s (.s (.s (.s (.s (.s .z)))))) (je_snd (je_var (.s (.s (.s (.s (.s .z))))) (⟨⟨⟨_, _⟩, rfl, (by cases (show some (p.size, f) = some d1_11 from hd1_11); cases (show some (q.size, s0) = some d2_14 from hd2_14); have zp := hpo.1.1; have zq := hqo.1.1; cases (show some p = some d6_34 from hd6_34); cases (show some q = some d6_47 from hd6_47); cases (show some p = some d9_38 from hd9_38); cases (show some q = some d9_55 from hd9_55); cases (show some q = some d10_38 from hd10_38); cases (show some p = some d10_52 from hd10_52); have ho := put_one hpo hqo hJ7 p9_21 p9_14; rw [← e_one] at ho; have ht := put_two hpo hqo hJ7 p10_21 p10_14; rw [← e_two] at ht; have hwh := whole_is (by omega) p6_16.2 hpo hqo; rw [← e_whole] at hwh; exact PO.eqs1 ho hwh)⟩, ja_cons (je_eqC ((ok_Plan_eq x).mono (by decide)) x.q_Plan.hs x.q_Plan.hf hr pass0 (je_var (.s (.s (.s (.s (.s (.s (.s .z))))))) (je_snd (je_var (.s (.s (.s (.s (.s .z))))) (⟨⟨⟨_, _⟩, rfl, (by cases (show some (p.size, f) = some d1_11 from hd1_11); cases (show some (q.size, s0) = some d2_14 from hd2_14); have zp := hpo.1.1; have zq := hqo.1.1; cases (show some p = some d6_34 from hd6_34); cases (show some q = some d6_47 from hd6_47); cases (show some p = some d9_38 from hd9_38); cases (show some q = some d9_55 from hd9_55); cases (show some q = some d10_38 from hd10_38); cases (show some p = some d10_52 from hd10_52); have ho := put_one hpo hqo hJ7 p9_21 p9_14; rw [← e_one] at ho; have ht := put_two hpo hqo hJ7 p10_21 p10_14; rw [← e_two] at ht; have hwh := whole_is (by omega) p6_16.2 hpo hqo; rw [← e_whole] at hwh; exact PO.eqs1 ht hwh)⟩, ja_cons (je_neC ((ok_Plan_eq x).mono (by decide)) x.q_Plan.hm x.q_Plan.hn x.q_Plan.hs x.q_Plan.hf hr pass0 (je_var (.s (.s (.s (.s (.s (.s .z)))))) (je_var (.s (.s (.s (.s (.s (.s (.s .z))))))) (⟨⟨⟨_, _⟩, rfl, (by cases (show some (p.size, f) = some d1_11 from hd1_11); cases (show some (q.size, s0) = some d2_14 from hd2_14); have zp := hpo.1.1; have zq := hqo.1.1; cases (show some p = some d6_34 from hd6_34); cases (show some q = some d6_47 from hd6_47); cases (show some p = some d9_38 from hd9_38); cases (show some q = some d9_55 from hd9_55); cases (show some q = some d10_38 from hd10_38); cases (show some p = some d10_52 from hd10_52); have ho := put_one hpo hqo hJ7 p9_21 p9_14; rw [← e_one] at ho; have ht := put_two hpo hqo hJ7 p10_21 p10_14; rw [← e_two] at ht; have hwh := whole_is (by omega) p6_16.2 hpo hqo; rw [← e_whole] at hwh; exact PO.eqs1 ho ht)⟩, ja_nil (⟨[_, _, _], rfl, by simp, ⟨[_, _, _], rfl, ja_cons (je_u (α := List Bool) (je_new (jn_lst (ja_cons (je_bl (ja_cons (je_bl (ja_cons (je_bl (ja_nil (⟨[_, _, _], rfl, by simp, ⟨[_, _, _], rfl, ja_nil (⟨⟨_, _⟩, rfl, rfl, (by exact ⟨rfl, smU_bools (by decide)⟩), fun r11_37 p11_37 => ⟨fun t11_37 => ⟨fun z => (nomatch z), fun _ => js_asgv nd (je_callP ((ok_law_joined_pairs x).mono (by decide)) hr pass0 (ja_cons (je_var (.s (.s .z)) (ja_cons (je_snd (je_ix (je_var (.s .z) (je_int (⟨(by simp), fun d13_40 hd13_40 => ja_cons (je_fst (je_ix (je_var (.s .z) (je_int (⟨(by simp), fun d13_53 hd13_53 => ja_cons (je_snd (je_ix (je_var (.s .z) (je_int (⟨(by simp), fun d13_66 hd13_66 => ja_cons (je_eq (je_var (.s (.s (.s .z))) (je_int (ja_nil (⟨⟨_, _, _, _, _⟩, rfl, rfl, (by cases (show some (p.size, f) = some d1_11 from hd1_11); cases (show some (q.size, s0) = some d2_14 from hd2_14); have zp := hpo.1.1; have zq := hqo.1.1; cases (show some p = some d6_34 from hd6_34); cases (show some q = some d6_47 from hd6_47); cases (show some p = some d9_38 from hd9_38); cases (show some q = some d9_55 from hd9_55); cases (show some q = some d10_38 from hd10_38); cases (show some p = some d10_52 from hd10_52); cases (show some (p.size, f) = some d13_40 from hd13_40); cases (show some (q.size, s0) = some d13_53 from hd13_53); cases (show some (q.size, s0) = some d13_66 from hd13_66); refine ⟨lf, ls, ?_, ?_, ?_, ?_⟩ <;> dsimp only <;> omega), fun r13_16 p13_16 => fun v_pairs e_pairs => ⟨_, (.s (.s (.s (.s (.s (.s (.s (.s .z)))))))), js_for (fun m => tg_name nd (by decide)) hps rfl (je_new (jn_lst (ja_cons (je_var (.s (.s (.s (.s (.s (.s .z)))))) (ja_cons (je_var (.s (.s (.s (.s (.s (.s (.s .z))))))) (ja_nil (⟨[_, _], rfl, by simp, ⟨[_, _], rfl, ⟨Unit, (fun (_ : Unit) => []), fun (i : Nat) (s : Unit) => True, ⟨(), (.keep (.keep (.keep (.keep (.keep (.keep (.keep (.keep (.keep (.keep .nil)))))))))), (by trivial)⟩, fun m i14 s14 x14 hi14 hI14 => ⟨_, (.s (.s (.s (.s (.s (.s (.s (.s (.s .z))))))))), js_ifR (jt_not (jt_bool (je_callP ((ok_law_is_plan x).mono (by decide)) hr pass0 (ja_cons (je_var (.s (.s (.s (.s (.s (.s (.s (.s (.s .z))))))))) (ja_cons (je_add (je_var (.s (.s .z)) (je_fst (je_ix (je_var (.s .z) (je_int (⟨(by simp), fun d15_45 hd15_45 => ja_cons (je_var (.s (.s (.s (.s (.s (.s (.s (.s .z)))))))) (ja_nil (⟨⟨_, _, _⟩, rfl, rfl, (by cases (show some (p.size, f) = some d1_11 from hd1_11); cases (show some (q.size, s0) = some d2_14 from hd2_14); have zp := hpo.1.1; have zq := hqo.1.1; cases (show some p = some d6_34 from hd6_34); cases (show some q = some d6_47 from hd6_47); cases (show some p = some d9_38 from hd9_38); cases (show some q = some d9_55 from hd9_55); cases (show some q = some d10_38 from hd10_38); cases (show some p = some d10_52 from hd10_52); have ho := put_one hpo hqo hJ7 p9_21 p9_14; rw [← e_one] at ho; have ht := put_two hpo hqo hJ7 p10_21 p10_14; rw [← e_two] at ht; have hwh := whole_is (by omega) p6_16.2 hpo hqo; rw [← e_whole] at hwh; cases (show some (p.size, f) = some d13_40 from hd13_40); cases (show some (q.size, s0) = some d13_53 from hd13_53); cases (show some (q.size, s0) = some d13_66 from hd13_66); cases (show some (q.size, s0) = some d15_45 from hd15_45); have m := List.mem_of_getElem? hi14; rw [List.mem_cons, List.mem_singleton] at m; rw [e_pairs, p13_16]; rcases m with rfl | rfl; (exact ⟨ho.1.symm, ho.2⟩); (exact ⟨ht.1.symm, ht.2⟩)), fun r15_19 p15_19 => ⟨fun t15_19 => ⟨fun z => (nomatch z), fun _ => js_end (⟨(), (.keep (.keep (.keep (.keep (.keep (.keep (.keep (.keep (.keep (.drop .nil)))))))))), (by trivial)⟩)⟩, fun t15_19 => ⟨fun _ => js_ret (by decide) (je_bl (⟨(), .nil, (by exfalso; rw [p15_19] at t15_19; cases t15_19)⟩)), fun z => (nomatch z)⟩⟩⟩)))⟩)))))))))))))⟩, fun ts14 thI14 => js_end (⟨(), (.keep (.keep (.keep (.drop (.drop (.drop (.drop (.drop (.drop (.keep .nil)))))))))), (by trivial)⟩)⟩⟩⟩))))))))⟩⟩)))))⟩)))))⟩)))))⟩)))))))))⟩, fun t11_37 => ⟨fun _ => js_ret (by decide) (je_bl (⟨(), .nil, (by exfalso; first | (rw [e_whole] at t11_11; exact t11_11 p6_16.1) | (rw [p11_37] at t11_37; cases t11_37))⟩)), fun z => (nomatch z)⟩⟩⟩)⟩⟩)))))))))))⟩⟩)⟩))))⟩)))))⟩)))))))))))))⟩⟩)))))))⟩⟩)⟩))))))⟩)⟩))))))))))))⟩⟩)⟩))))))⟩)⟩))))))))))))) (jt_eq (je_var (.s (.s (.s .z))) (je_int (⟨fun t7_11 => ⟨fun _ => js_asgv nd (je_cmeth x.g_Plan x.cm_Plan_free ((ok_Plan_free x).mono (by decide)) hr pass0 (ja_cons (je_int (ja_nil (⟨⟨_, _⟩, rfl, rfl, (by first | omega | (simp only [St.ok] at *; omega) | (subst_vars; first | omega | (simp only [St.ok] at *; omega))), fun r8_20 p8_20 => fun v_frame e_frame => ⟨_, (.s (.s (.s (.s .z)))), js_end (⟨_, (.keep (.keep (.keep (.keep (.keep (.keep (.keep (.keep (.keep (.keep .nil)))))))))), (by rw [e_frame, t7_11]; exact p8_20)⟩)⟩⟩))))), fun z => (nomatch z)⟩, fun t7_11 => ⟨fun z => (nomatch z), fun _ => js_end (⟨_, (.keep (.keep (.keep (.keep (.keep (.keep (.keep (.keep (.keep (.keep .nil)))))))))), (by have e0 : (i4 : Int) = 0 := (by omega); rw [e_frame, e0]; exact p5_16)⟩)⟩⟩))))⟩⟩)⟩))))))⟩))))))))⟩⟩)))))⟩, fun ts4 thI4 => js_ret (by decide) (je_bl (⟨(), .nil, (by rfl)⟩))⟩))⟩⟩)⟩))))))))⟩⟩)))))
end
end Lw
end
section
namespace Lw
open PySem PySem.Spec PyProof.Rows L2 Tyl
def GP (f : Int × List (Int × Int)) : Prop := (1 ≤ f.1 ∧ f.1 ≤ 20) ∧ Ac f.1 f.2 ∧ f.2.length ≤ 15000
def DR (ds : List (Int × List (Int × Int))) : Prop := ∃ f s, ds = [f, s] ∧ GP f ∧ GP s
def MkP (f : Int × List (Int × Int)) (ds : List PlanD) : Prop := ∃ d : PlanD, ds = [d] ∧ d.size = f.1 ∧ PO d f.2
theorem DR.mem {ds : List (Int × List (Int × Int))} (h : DR ds) {i : Nat} {f : Int × List (Int × Int)} (e : ds[i]? = some f) : GP f := by
  obtain ⟨a, b, rfl, ha, hb⟩ := h
  have m := List.mem_of_getElem? e
  rw [List.mem_cons, List.mem_singleton] at m
  rcases m with rfl | rfl
  · exact ha
  · exact hb
theorem puts_of {ds : List (Int × List (Int × Int))} {dss : List (List PlanD)} (h : DR ds) (k : All2 MkP ds dss) : PutsC dss.flatten ds := by
  obtain ⟨a, b, rfl, ha, hb⟩ := h
  match dss, k with
  | [x, y], ⟨⟨p, e1, e2, e3⟩, ⟨q, f1, f2, f3⟩, _⟩ =>
    subst e1 f1
    obtain ⟨a1, a2⟩ := a
    obtain ⟨b1, b2⟩ := b
    dsimp only at e2 e3 f2 f3
    subst e2 f2
    exact ⟨p, q, a2, b2, rfl, rfl, e3, f3, ha.2.2, hb.2.2⟩
theorem PutsC.at {ps : List PlanD} {ds : List (Int × List (Int × Int))} (h : PutsC ps ds) {i : Nat} {p : PlanD} {d : Int × List (Int × Int)} (e1 : ps[i]? = some p) (e2 : ds[i]? = some d) : d.1 = p.size ∧ PO p d.2 ∧ d.2.length ≤ 15000 := by
  obtain ⟨p0, q0, f, s, rfl, rfl, hp, hq, lf, ls⟩ := h
  match i, e1, e2 with
  | 0, e1, e2 =>
    cases (show some (p0.size, f) = some d from e2)
    cases (show some p0 = some p from e1)
    exact ⟨rfl, hp, lf⟩
  | 1, e1, e2 =>
    cases (show some (q0.size, s) = some d from e2)
    cases (show some q0 = some p from e1)
    exact ⟨rfl, hq, ls⟩
theorem PutsC.mk {ps : List PlanD} {ds : List (Int × List (Int × Int))} (h : PutsC ps ds) {i j : Nat} {p q : PlanD} {d e : Int × List (Int × Int)} (e1 : ps[i]? = some p) (e2 : ds[i]? = some d) (e3 : ps[j]? = some q) (e4 : ds[j]? = some e) : PutsC [p, q] [d, e] := by
  have a := h.at e1 e2
  have b := h.at e3 e4
  obtain ⟨d1, d2⟩ := d
  obtain ⟨f1, f2⟩ := e
  have z1 := a.1
  have z2 := b.1
  dsimp only at z1 z2
  subst z1 z2
  exact ⟨p, q, d2, f2, rfl, rfl, a.2.1, b.2.1, a.2.2, b.2.2⟩
theorem PutsC.ask {ps : List PlanD} {ds : List (Int × List (Int × Int))} (h : PutsC ps ds) {w x : Int} (hw : w = 0 ∨ w = 1 ∨ w = 2) (h1 : -(10 ^ 40) < x) (h2 : x < 10 ^ 40) : AskC (fun _ _ => True) w ps ds x := by
  obtain ⟨p, q, f, s, a, b, c, d, e, g⟩ := h
  exact ⟨p, q, f, s, a, b, c, d, e, g, hw, h1, h2, trivial⟩
section
variable {w : World} {K : Fg} {mg : Str → Option Value} {base : Heap}
theorem sc_law : FnScope ["script", "store", "large", "first", "second", "size", "drawn", "plans", "pair", "x", "wrong", "which", "same", "at"] ["script"] (defScope (top 60)) := ⟨rfl, rfl, rfl, by decide +kernel, rfl, by decide +kernel, by decide +kernel⟩
theorem ok_law  (x : Fx K mg) {fd : FuncData} (F : FunD K "law" "law" (defArgs (top 60)) (defBody (top 60)) (defScope (top 60)) [] [] (He.ga K "law") fd) : FnOk P w K mg base CX0 10 (He.ga K "law") fd ["script"] (spP K 1 (fun (a : ScriptD) => [sd a]) (fun a => a.ns.length ≤ 63) (fun a (r : Bool) => r = true)) := by
  refine okT F sc_law (fun _ => rfl) (fun cdv A0 outer s H E v_script B hr hp => ?_)
  try dsimp only at hp ⊢
  have nd := (sc_law).nd
  have hps : PassesOwn (model (cxOf CX0 P w K mg base ["script", "store", "large", "first", "second", "size", "drawn", "plans", "pair", "x", "wrong", "which", "same", "at"] "law" (defScope (top 60)) (He.ga K "law") cdv A0 outer s H E).prog (cxOf CX0 P w K mg base ["script", "store", "large", "first", "second", "size", "drawn", "plans", "pair", "x", "wrong", "which", "same", "at"] "law" (defScope (top 60)) (He.ga K "law") cdv A0 outer s H E).w) (cxOf CX0 P w K mg base ["script", "store", "large", "first", "second", "size", "drawn", "plans", "pair", "x", "wrong", "which", "same", "at"] "law" (defScope (top 60)) (He.ga K "law") cdv A0 outer s H E).A (cxOf CX0 P w K mg base ["script", "store", "large", "first", "second", "size", "drawn", "plans", "pair", "x", "wrong", "which", "same", "at"] "law" (defScope (top 60)) (He.ga K "law") cdv A0 outer s H E).env (cxOf CX0 P w K mg base ["script", "store", "large", "first", "second", "size", "drawn", "plans", "pair", "x", "wrong", "which", "same", "at"] "law" (defScope (top 60)) (He.ga K "law") cdv A0 outer s H E).xe := PassesOwn.leaving
  exact js_asgO nd (jg_callN ((ok_law_store x).mono (by decide)) hr pass0 (ja_cons (je_var .z (ja_nil (⟨_, [], (.val .nil), by decide, rfl, (by first | omega | (simp only [St.ok] at *; omega) | (subst_vars; first | omega | (simp only [St.ok] at *; omega))), fun r1_12 o1_12 p1_12 => ⟨_, .nil, ⟨_, (.s .z), js_asgv nd (je_eq (je_callO ((ok_law_take x).mono (by decide)) hr pass0 (.s .z) (ja_cons (je_int (ja_nil (⟨_, _, (.s .z), rfl, rfl, (by first | omega | (simp only [St.ok] at *; omega) | (subst_vars; first | omega | (simp only [St.ok] at *; omega))), fun r2_12 o2_12 p2_12 => ⟨_, (.s .z), je_int (fun v_large e_large => ⟨_, (.s (.s .z)), js_asgv nd (je_callO ((ok_law_plan x).mono (by decide)) hr pass0 (.s .z) (ja_cons (je_add (je_int (je_mul (je_int (je_intB x.b_int (je_var (.s (.s .z)) (⟨(by unfold CMul; split <;> omega), ja_nil (⟨_, _, (.s .z), rfl, rfl, (by refine ⟨p2_12.1, ?_, ?_⟩ <;> (try dsimp only) <;> split <;> omega), fun r3_12 o3_12 p3_12 => ⟨_, (.s .z), fun v_first e_first => ⟨_, (.s (.s (.s .z))), js_asgv nd (je_callO ((ok_law_plan x).mono (by decide)) hr pass0 (.s .z) (ja_cons (je_int (ja_nil (⟨_, _, (.s .z), rfl, rfl, (by exact ⟨p3_12.1, by decide, by decide⟩), fun r4_13 o4_13 p4_13 => ⟨_, (.s .z), fun v_second e_second => ⟨_, (.s (.s (.s (.s .z)))), js_ifm (S := (St × (Int × (List (Int × Int))))) (fun (s : (St × (Int × (List (Int × Int))))) => match s with | (z0, z1) => [(1, some (own (St.sds z0))), (4, some (sd z1))]) (fun (s : (St × (Int × (List (Int × Int))))) => s.1.ok ∧ GP s.2) (fun ⟨s5_store, s5_second⟩ hJ5 => js_asgv nd (je_new (jn_lst (ja_cons (je_var (.s (.s (.s .z))) (ja_cons (je_var (.s (.s (.s (.s .z)))) (ja_nil (⟨[_, _], rfl, by simp, ⟨[_, _], rfl, fun v_drawn e_drawn => ⟨_, (.s (.s (.s (.s (.s (.s .z)))))), js_ifm (S := (St × (List (Int × (List (Int × Int)))))) (fun (s : (St × (List (Int × (List (Int × Int)))))) => match s with | (z0, z1) => [(1, some (own (St.sds z0))), (6, some (sd z1))]) (fun (s : (St × (List (Int × (List (Int × Int)))))) => s.1.ok ∧ DR s.2) (fun ⟨s9_store, s9_drawn⟩ hJ9 => js_newv (jnsf_L rfl nd (nm := [("pair", 8)]) (vs' := []) (show BlkOk ["script", "store", "large", "first", "second", "size", "drawn", "plans", "pair", "x", "wrong", "which", "same", "at"] (defScope (top 60)) _ [("pair", 8)] from ⟨rfl, by decide +kernel, by decide +kernel, by decide +kernel, by decide +kernel⟩) (by decide) (by decide) (fun it acc env => turn1_0 _ _ _ _ _ _) (fun m s H C cl fp => tw_name nd (by decide) (by decide)) (je_var (.s (.s (.s (.s (.s (.s .z)))))) (⟨1, fun f ds => MkP f ds, (by obtain ⟨_, _, e, _⟩ := hJ9.2; try dsimp only at e; rw [e]; simp), (fun j hj => by simp at hj; subst hj; rfl), fun iq0 q0 hq0 => ⟨_, (.s (.s (.s (.s (.s (.s (.s (.s .z)))))))), fun m D => jts_nil (⟨fun _ => fun s H C cl fp => jq_elt rfl (fun m => let ⟨_, mkF, mkB⟩ := ((ok_Plan_init x).mono (by decide)).ex; je_make fz_plan x.mk_Plan mkF hr x.g_Plan mkB pass0 (ja_cons (je_fst (je_var (.s (.s (.s (.s (.s (.s (.s (.s .z)))))))) (ja_cons (je_new (jn_copy x.b_list (je_snd (je_var (.s (.s (.s (.s (.s (.s (.s (.s .z)))))))) (⟨_, rfl, ja_nil (⟨⟨_, _⟩, rfl, rfl, (by have g := hJ9.2.mem hq0; exact ⟨g.1.1, g.1.2, g.2.1.inR, ac_loop g.2.1⟩), .nil, fun r11_13 p11_13 => ⟨(by have g := hJ9.2.mem hq0; exact ⟨_, rfl, p11_13.1, PO.made p11_13 g.2.1⟩), (.keep (.keep (.keep (.keep (.keep (.keep (.keep (.keep (.drop (.keep (.keep (.keep (.keep (.keep .nil))))))))))))))⟩⟩)⟩)))))))))), fun z => (nomatch z)⟩)⟩, fun dss hds => ⟨_, rfl, fun v_plans e_plans => ⟨_, (.s (.s (.s (.s (.s (.s (.s .z))))))), js_asgv nd (je_callO ((ok_law_near x).mono (by decide)) hr pass0 (.s .z) (ja_cons (je_int (ja_cons (je_sub (je_fst (je_ix (je_var (.s (.s (.s (.s (.s (.s .z)))))) (je_int (⟨(by obtain ⟨_, _, e, _⟩ := hJ9.2; try dsimp only at e; rw [e]; simp), fun d12_28 hd12_28 => je_int (ja_nil (⟨_, ⟨_, _⟩, (.s .z), rfl, rfl, (by have g := (hJ9.2.mem hd12_28).1; refine ⟨hJ9.1, ?_, ?_⟩ <;> (try dsimp only) <;> omega), fun r12_8 o12_8 p12_8 => ⟨_, (.s .z), fun v_x e_x => ⟨_, (.s (.s (.s (.s (.s (.s (.s (.s (.s .z))))))))), js_asgv nd (je_callO ((ok_law_pick x).mono (by decide)) hr pass0 (.s .z) (ja_cons (je_new (jn_lst (ja_cons (je_neg (je_int (ja_cons (je_fst (je_ix (je_var (.s (.s (.s (.s (.s (.s .z)))))) (je_int (⟨(by obtain ⟨_, _, e, _⟩ := hJ9.2; try dsimp only at e; rw [e]; simp), fun d13_34 hd13_34 => ja_cons (je_int (ja_cons (je_callO ((ok_law_outside x).mono (by decide)) hr pass0 (.s .z) (ja_cons (je_int (ja_cons (je_sub (je_fst (je_ix (je_var (.s (.s (.s (.s (.s (.s .z)))))) (je_int (⟨(by obtain ⟨_, _, e, _⟩ := hJ9.2; try dsimp only at e; rw [e]; simp), fun d13_74 hd13_74 => je_int (ja_nil (⟨_, ⟨_, _⟩, (.s .z), rfl, rfl, (by have g := (hJ9.2.mem hd13_74).1; refine ⟨p12_8.1, ?_⟩; dsimp only; omega), fun r13_51 o13_51 p13_51 => ⟨_, (.s .z), ja_nil (⟨[_, _, _, _], rfl, by simp, ⟨[_, _, _, _], rfl, ja_nil (⟨_, _, (.s .z), rfl, rfl, (by exact ⟨p13_51.1, by simp, by simp⟩), fun r13_12 o13_12 p13_12 => ⟨_, (.s .z), fun v_wrong e_wrong => ⟨_, (.s (.s (.s (.s (.s (.s (.s (.s (.s (.s .z)))))))))), js_range nd x.b_range hps rfl (je_int (⟨Unit, (fun (_ : Unit) => []), fun (i : Nat) (s : Unit) => True, (by first | omega | (simp only [St.ok] at *; omega) | (subst_vars; first | omega | (simp only [St.ok] at *; omega))), ⟨(), (.keep (.keep (.keep (.keep (.keep (.keep (.keep (.keep (.keep (.keep (.keep (.keep (.keep (.keep .nil)))))))))))))), (by trivial)⟩, fun i14 s14 hi14 hI14 => ⟨_, (.s (.s (.s (.s (.s (.s (.s (.s (.s (.s (.s .z))))))))))), js_ifR (jt_not (jt_bool (je_callP ((ok_law_asked x).mono (by decide)) hr pass0 (ja_cons (je_var (.s (.s (.s (.s (.s (.s (.s (.s (.s (.s (.s .z))))))))))) (ja_cons (je_var (.s (.s (.s (.s (.s (.s (.s .z))))))) (ja_cons (je_var (.s (.s (.s (.s (.s (.s .z)))))) (ja_cons (je_var (.s (.s (.s (.s (.s (.s (.s (.s (.s .z))))))))) (ja_nil (⟨⟨_, _, _, _⟩, rfl, rfl, (by have hP := puts_of hJ9.2 hds; rw [← e_plans] at hP; have gx := (hJ9.2.mem hd12_28).1; have px := p12_8; dsimp only at px; exact hP.ask (by (try dsimp only); omega) (by (try dsimp only); omega) (by (try dsimp only); omega)), fun r15_15 p15_15 => ⟨fun t15_15 => ⟨fun z => (nomatch z), fun _ => js_end (⟨(), (.keep (.keep (.keep (.keep (.keep (.keep (.keep (.keep (.keep (.keep (.keep (.drop (.keep (.keep .nil)))))))))))))), (by trivial)⟩)⟩, fun t15_15 => ⟨fun _ => js_ret (by decide) (je_bl (⟨(), .nil, (by exfalso; first | (rw [p15_15] at t15_15; cases t15_15))⟩)), fun z => (nomatch z)⟩⟩⟩)))))))))))))⟩, fun ts14 thI14 => js_ifR (jt_w (jw_or (jt_not (jt_bool (je_callP ((ok_law_by_puts x).mono (by decide)) hr pass0 (ja_cons (je_var (.s (.s (.s (.s (.s (.s (.s .z))))))) (ja_cons (je_var (.s (.s (.s (.s (.s (.s .z)))))) (ja_nil (⟨⟨_, _⟩, rfl, rfl, (by have hP := puts_of hJ9.2 hds; rw [← e_plans] at hP; exact hP), fun r17_11 p17_11 => ⟨fun t17_11 => ⟨fun z => (nomatch z), fun _ => jw_or1 (jt_not (jt_bool (je_callP ((ok_law_asked x).mono (by decide)) hr pass0 (ja_cons (je_int (ja_cons (je_var (.s (.s (.s (.s (.s (.s (.s .z))))))) (ja_cons (je_var (.s (.s (.s (.s (.s (.s .z)))))) (ja_cons (je_var (.s (.s (.s (.s (.s (.s (.s (.s (.s (.s .z)))))))))) (ja_nil (⟨⟨_, _, _, _⟩, rfl, rfl, (by have hP := puts_of hJ9.2 hds; rw [← e_plans] at hP; have g1 := (hJ9.2.mem hd13_34).1; have g2 := (hJ9.2.mem hd13_74).1; have po := p13_51.2; dsimp only at po; have pw := p13_12.2; simp only [List.mem_cons, List.mem_nil_iff, or_false] at pw; rw [← e_wrong] at pw; refine hP.ask (.inr (.inr rfl)) ?_ ?_ <;> (try dsimp only) <;> rcases pw with h | h | h | h <;> omega), fun r17_45 p17_45 => ⟨fun t17_45 => ⟨fun z => (nomatch z), fun _ => js_asgv nd (je_new (jn_lst (ja_cons (je_ix (je_var (.s (.s (.s (.s (.s (.s .z)))))) (je_int (⟨(by obtain ⟨_, _, e, _⟩ := hJ9.2; try dsimp only at e; rw [e]; simp), fun d19_12 hd19_12 => ja_cons (je_ix (je_var (.s (.s (.s (.s (.s (.s .z)))))) (je_int (⟨(by obtain ⟨_, _, e, _⟩ := hJ9.2; try dsimp only at e; rw [e]; simp), fun d19_22 hd19_22 => ja_nil (⟨[_, _], rfl, by simp, ⟨[_, _], rfl, fun v_same e_same => ⟨_, (.s (.s (.s (.s (.s (.s (.s (.s (.s (.s (.s (.s .z)))))))))))), js_ifR (jt_w (jw_or (jt_not (jt_bool (je_callP ((ok_law_asked x).mono (by decide)) hr pass0 (ja_cons (je_int (ja_cons (je_new (jn_lst (ja_cons (je_ix (je_var (.s (.s (.s (.s (.s (.s (.s .z))))))) (je_int (⟨(by have hP := puts_of hJ9.2 hds; rw [← e_plans] at hP; obtain ⟨_, _, _, _, e1, e2, _⟩ := hP; rw [e1]; simp), fun d20_26 hd20_26 => ja_cons (je_ix (je_var (.s (.s (.s (.s (.s (.s (.s .z))))))) (je_int (⟨(by have hP := puts_of hJ9.2 hds; rw [← e_plans] at hP; obtain ⟨_, _, _, _, e1, e2, _⟩ := hP; rw [e1]; simp), fun d20_36 hd20_36 => ja_nil (⟨[_, _], rfl, by simp, ⟨[_, _], rfl, ja_cons (je_var (.s (.s (.s (.s (.s (.s (.s (.s (.s (.s (.s (.s .z)))))))))))) (ja_cons (je_var (.s (.s (.s (.s (.s (.s (.s (.s (.s .z))))))))) (ja_nil (⟨⟨_, _, _, _⟩, rfl, rfl, (by have hP := puts_of hJ9.2 hds; rw [← e_plans] at hP; have gx := (hJ9.2.mem hd12_28).1; have px := p12_8; dsimp only at px; rw [e_same]; exact (hP.mk hd20_26 hd19_12 hd20_36 hd19_22).ask (.inr (.inr rfl)) (by (try dsimp only); omega) (by (try dsimp only); omega)), fun r20_11 p20_11 => ⟨fun t20_11 => ⟨fun z => (nomatch z), fun _ => jw_or1 (jt_not (jt_bool (je_callP ((ok_law_asked x).mono (by decide)) hr pass0 (ja_cons (je_int (ja_cons (je_new (jn_lst (ja_cons (je_ix (je_var (.s (.s (.s (.s (.s (.s (.s .z))))))) (je_int (⟨(by have hP := puts_of hJ9.2 hds; rw [← e_plans] at hP; obtain ⟨_, _, _, _, e1, e2, _⟩ := hP; rw [e1]; simp), fun d20_78 hd20_78 => ja_cons (je_ix (je_var (.s (.s (.s (.s (.s (.s (.s .z))))))) (je_int (⟨(by have hP := puts_of hJ9.2 hds; rw [← e_plans] at hP; obtain ⟨_, _, _, _, e1, e2, _⟩ := hP; rw [e1]; simp), fun d20_88 hd20_88 => ja_nil (⟨[_, _], rfl, by simp, ⟨[_, _], rfl, ja_cons (je_var (.s (.s (.s (.s (.s (.s (.s (.s (.s (.s (.s (.s .z)))))))))))) (ja_cons (je_var (.s (.s (.s (.s (.s (.s (.s (.s (.s .z))))))))) (ja_nil (⟨⟨_, _, _, _⟩, rfl, rfl, (by have hP := puts_of hJ9.2 hds; rw [← e_plans] at hP; have gx := (hJ9.2.mem hd12_28).1; have px := p12_8; dsimp only at px; rw [e_same]; exact (hP.mk hd20_78 hd19_12 hd20_88 hd19_22).ask (.inl rfl) (by (try dsimp only); omega) (by (try dsimp only); omega)), fun r20_63 p20_63 => ⟨fun t20_63 => ⟨fun z => (nomatch z), fun _ => js_range nd x.b_range hps rfl (je_int (⟨Unit, (fun (_ : Unit) => []), fun (i : Nat) (s : Unit) => True, (by first | omega | (simp only [St.ok] at *; omega) | (subst_vars; first | omega | (simp only [St.ok] at *; omega))), ⟨(), (.keep (.keep (.keep (.keep (.keep (.keep (.keep (.keep (.keep (.keep (.keep (.keep (.keep (.keep .nil)))))))))))))), (by trivial)⟩, fun i22 s22 hi22 hI22 => ⟨_, (.s (.s (.s (.s (.s (.s (.s (.s (.s (.s (.s (.s (.s .z))))))))))))), js_ifR (jt_not (jt_bool (je_callP ((ok_law_is_plan x).mono (by decide)) hr pass0 (ja_cons (je_ix (je_var (.s (.s (.s (.s (.s (.s (.s .z))))))) (je_var (.s (.s (.s (.s (.s (.s (.s (.s (.s (.s (.s (.s (.s .z))))))))))))) (⟨(by have hP := puts_of hJ9.2 hds; rw [← e_plans] at hP; obtain ⟨_, _, _, _, e1, e2, _⟩ := hP; rw [e1]; constructor <;> simp <;> omega), fun d23_28 hd23_28 => ja_cons (je_fst (je_ix (je_var (.s (.s (.s (.s (.s (.s .z)))))) (je_var (.s (.s (.s (.s (.s (.s (.s (.s (.s (.s (.s (.s (.s .z))))))))))))) (⟨(by obtain ⟨_, _, e, _⟩ := hJ9.2; try dsimp only at e; rw [e]; constructor <;> simp <;> omega), fun d23_39 hd23_39 => ja_cons (je_snd (je_ix (je_var (.s (.s (.s (.s (.s (.s .z)))))) (je_var (.s (.s (.s (.s (.s (.s (.s (.s (.s (.s (.s (.s (.s .z))))))))))))) (⟨(by obtain ⟨_, _, e, _⟩ := hJ9.2; try dsimp only at e; rw [e]; constructor <;> simp <;> omega), fun d23_53 hd23_53 => ja_nil (⟨⟨_, _, _⟩, rfl, rfl, (by have hP := puts_of hJ9.2 hds; rw [← e_plans] at hP; have a := hP.at hd23_28 hd23_39; cases (Option.some.inj (hd23_39.symm.trans hd23_53)); exact ⟨a.1, a.2.1⟩), fun r23_15 p23_15 => ⟨fun t23_15 => ⟨fun z => (nomatch z), fun _ => js_end (⟨(), (.keep (.keep (.keep (.keep (.keep (.keep (.keep (.keep (.keep (.keep (.keep (.keep (.keep (.drop .nil)))))))))))))), (by trivial)⟩)⟩, fun t23_15 => ⟨fun _ => js_ret (by decide) (je_bl (⟨(), .nil, (by exfalso; first | (rw [p23_15] at t23_15; cases t23_15))⟩)), fun z => (nomatch z)⟩⟩⟩)⟩)))))⟩)))))⟩))))))))⟩, fun ts22 thI22 => js_ret (by decide) (je_callP ((ok_law_asked x).mono (by decide)) hr pass0 (ja_cons (je_int (ja_cons (je_new (jn_lst (ja_cons (je_ix (je_var (.s (.s (.s (.s (.s (.s (.s .z))))))) (je_int (⟨(by have hP := puts_of hJ9.2 hds; rw [← e_plans] at hP; obtain ⟨_, _, _, _, e1, e2, _⟩ := hP; rw [e1]; simp), fun d25_26 hd25_26 => ja_cons (je_ix (je_var (.s (.s (.s (.s (.s (.s (.s .z))))))) (je_int (⟨(by have hP := puts_of hJ9.2 hds; rw [← e_plans] at hP; obtain ⟨_, _, _, _, e1, e2, _⟩ := hP; rw [e1]; simp), fun d25_36 hd25_36 => ja_nil (⟨[_, _], rfl, by simp, ⟨[_, _], rfl, ja_cons (je_new (jn_lst (ja_cons (je_ix (je_var (.s (.s (.s (.s (.s (.s .z)))))) (je_int (⟨(by obtain ⟨_, _, e, _⟩ := hJ9.2; try dsimp only at e; rw [e]; simp), fun d25_48 hd25_48 => ja_cons (je_ix (je_var (.s (.s (.s (.s (.s (.s .z)))))) (je_int (⟨(by obtain ⟨_, _, e, _⟩ := hJ9.2; try dsimp only at e; rw [e]; simp), fun d25_58 hd25_58 => ja_nil (⟨[_, _], rfl, by simp, ⟨[_, _], rfl, ja_cons (je_int (ja_nil (⟨⟨_, _, _, _⟩, rfl, rfl, (by have hP := puts_of hJ9.2 hds; rw [← e_plans] at hP; exact (hP.mk hd25_26 hd25_48 hd25_36 hd25_58).ask (.inr (.inr rfl)) (by show -(10 ^ 40) < (0 : Int); decide) (by show (0 : Int) < 10 ^ 40; decide)), fun r25_11 p25_11 => ⟨(), .nil, (by exact p25_11)⟩⟩)))⟩⟩)⟩))))⟩)))))))⟩⟩)⟩))))⟩)))))))))))⟩))⟩, fun t20_63 => ⟨fun _ => js_ret (by decide) (je_bl (⟨(), .nil, (by exfalso; first | (rw [p20_63] at t20_63; cases t20_63) | (rw [p20_11] at t20_11; cases t20_11))⟩)), fun z => (nomatch z)⟩⟩⟩)))))⟩⟩)⟩))))⟩)))))))))))))⟩, fun t20_11 => ⟨fun _ => ⟨fun _ => js_ret (by decide) (je_bl (⟨(), .nil, (by exfalso; first | (rw [p20_63] at t20_63; cases t20_63) | (rw [p20_11] at t20_11; cases t20_11))⟩)), fun z => (nomatch z)⟩, fun z => (nomatch z)⟩⟩⟩)))))⟩⟩)⟩))))⟩)))))))))))))))⟩⟩⟩)⟩))))⟩)))))))⟩, fun t17_45 => ⟨fun _ => js_ret (by decide) (je_bl (⟨(), .nil, (by exfalso; first | (rw [p17_45] at t17_45; cases t17_45) | (rw [p17_11] at t17_11; cases t17_11))⟩)), fun z => (nomatch z)⟩⟩⟩)))))))))))))⟩, fun t17_11 => ⟨fun _ => ⟨fun _ => js_ret (by decide) (je_bl (⟨(), .nil, (by exfalso; first | (rw [p17_45] at t17_45; cases t17_45) | (rw [p17_11] at t17_11; cases t17_11))⟩)), fun z => (nomatch z)⟩, fun z => (nomatch z)⟩⟩⟩)))))))))))⟩))⟩⟩⟩)⟩⟩)⟩⟩))⟩))))))))))))⟩)))))))))))))⟩⟩⟩))⟩))))))))))⟩⟩⟩)) rfl)) (jt_bool (je_callO ((ok_law_chance x).mono (by decide)) hr pass0 (.s .z) (ja_cons (je_int (ja_nil (⟨_, _, (.s .z), rfl, rfl, (by exact ⟨hJ5.1, by decide⟩), fun r9_7 o9_7 p9_7 => ⟨_, (.s .z), ⟨fun t9_7 => ⟨fun _ => js_asgv nd (je_new (jn_lst (ja_cons (je_var (.s (.s (.s (.s .z)))) (ja_cons (je_var (.s (.s (.s .z))) (ja_nil (⟨[_, _], rfl, by simp, ⟨[_, _], rfl, fun v_drawn e_drawn => ⟨_, (.s (.s (.s (.s (.s (.s .z)))))), js_end (⟨(_, _), (.keep (.keep (.keep (.keep (.keep (.keep (.keep (.keep (.keep (.keep (.keep (.keep (.keep (.keep .nil)))))))))))))), (by have h := p3_12.2; rw [e_drawn, e_first]; refine ⟨p9_7, _, _, rfl, hJ5.2, ⟨h.1, Int.le_trans h.2.1 ?_⟩, h.2.2.1, h.2.2.2⟩; (try dsimp only); split <;> omega)⟩)⟩⟩⟩)))))))), fun z => (nomatch z)⟩, fun t9_7 => ⟨fun z => (nomatch z), fun _ => js_end (⟨(_, _), (.keep (.keep (.keep (.keep (.keep (.keep (.keep (.keep (.keep (.keep (.keep (.keep (.keep (.keep .nil)))))))))))))), (by have h := p3_12.2; rw [e_drawn, e_first]; refine ⟨p9_7, _, _, rfl, ⟨⟨h.1, Int.le_trans h.2.1 ?_⟩, h.2.2.1, h.2.2.2⟩, hJ5.2⟩; (try dsimp only); split <;> omega)⟩)⟩⟩⟩⟩))))))⟩⟩⟩))))))))) (jt_bool (je_callO ((ok_law_chance x).mono (by decide)) hr pass0 (.s .z) (ja_cons (je_int (ja_nil (⟨_, _, (.s .z), rfl, rfl, (by exact ⟨p4_13.1, by decide⟩), fun r5_7 o5_7 p5_7 => ⟨_, (.s .z), ⟨fun t5_7 => ⟨fun _ => js_asgv nd (je_max x.b_max rfl (je_int (je_min x.b_min rfl (je_int (je_sub (je_callO ((ok_law_pick x).mono (by decide)) hr pass0 (.s .z) (ja_cons (je_new (jn_lst (ja_cons (je_int (ja_cons (je_int (ja_cons (je_int (ja_cons (je_int (ja_nil (⟨[_, _, _, _], rfl, by simp, ⟨[_, _, _, _], rfl, ja_nil (⟨_, _, (.s .z), rfl, rfl, (by exact ⟨p5_7, by simp, by simp⟩), fun r6_30 o6_30 p6_30 => ⟨_, (.s .z), je_fst (je_var (.s (.s (.s .z))) (fun v_size e_size => ⟨_, (.s (.s (.s (.s (.s .z))))), js_asgv nd (je_pair (je_var (.s (.s (.s (.s (.s .z))))) (je_callO ((ok_law_wild_pairs x).mono (by decide)) hr pass0 (.s .z) (ja_cons (je_var (.s (.s (.s (.s (.s .z))))) (ja_nil (⟨_, _, (.s .z), rfl, rfl, (by obtain ⟨h1, h2⟩ := p6_30; simp only [List.mem_cons, List.mem_nil_iff, or_false] at h2; refine ⟨h1, ?_, ?_⟩ <;> rw [e_size] <;> (try split) <;> (try split) <;> omega), fun r7_24 o7_24 p7_24 => ⟨_, (.s .z), fun v_second e_second => ⟨_, (.s (.s (.s (.s .z)))), js_end (⟨(_, _), (.keep (.keep (.keep (.keep (.keep (.drop (.keep (.keep (.keep (.keep (.keep (.keep (.keep (.keep .nil)))))))))))))), (by have h := p7_24; have hz : 1 ≤ v_size ∧ v_size ≤ 20 := (by constructor <;> rw [e_size] <;> (try split) <;> (try split) <;> omega); rw [e_second]; exact ⟨h.1, hz, h.2.1, Nat.le_trans h.2.2 (by decide)⟩)⟩)⟩⟩⟩)))))))⟩))⟩⟩)⟩⟩))))))))))))))))))), fun z => (nomatch z)⟩, fun t5_7 => ⟨fun z => (nomatch z), fun _ => js_end (⟨(_, _), (.keep (.keep (.keep (.keep (.keep (.keep (.keep (.keep (.keep (.keep (.keep (.keep (.keep (.keep .nil)))))))))))))), (by have h := p4_13.2; rw [e_second]; exact ⟨p5_7, ⟨h.1, Int.le_trans h.2.1 (by decide)⟩, h.2.2.1, h.2.2.2⟩)⟩)⟩⟩⟩⟩))))))⟩⟩⟩)))))⟩⟩⟩)⟩)))))))))⟩)⟩⟩))))))⟩⟩⟩)))))
end
end Lw
end
section
namespace Lw
open PySem PySem.Spec PyProof.Rows L2 Tyl
theorem sp_script {K : Fg} {H : Hp} {a : Addr} {ns : List Int} {pre : ScriptD → Prop} {E : XK} (hp : pre ⟨ns⟩) (hS : SqL K H a (ns.map V.int)) : spP K 1 (fun (a : ScriptD) => [sd a]) pre (fun _ (r : Bool) => r = true) [.ref a] H (fun v _ => v = .bl true) E :=
  ⟨⟨ns⟩, H, [], Ex.refl _, List.nodup_nil, (fun _ h => nomatch h), .cons (f := []) ⟨⟨a, rfl, hS⟩, rfl⟩ .nil, (fun _ h => nomatch h), rfl, hp, fun v H' ⟨G', r, o, _, hr, hq⟩ => by subst hq; exact hr⟩
theorem law_facts {w : World} {K : Fg} {h : Heap} {mg : Str → Option Value} {f : Addr} (X : K.In h) (G : h.Ns mainGlobals mg) (hfa : mg ("law" : Str) = some (.ref f)) (c : SaysT fa fn K) :
    ∃ fd : FuncData, (∀ (s : Shared) (v : Value), BindsTo s fd ⟨[v], []⟩ [("script", v)]) ∧ ∀ base : Heap, K.In base → base.Ns mainGlobals mg → FnOk P w K mg base CX0 10 f fd ["script"] (spP K 1 (fun (a : ScriptD) => [sd a]) (fun a => a.ns.length ≤ 63) (fun a (r : Bool) => r = true)) := by
  have x : Fx K mg := ⟨c, h, X, G⟩
  obtain ⟨fd, F⟩ := x.f_law
  have e := hfa.symm.trans x.g_law
  cases e
  have b := FunD.bindsA (ps := ["script"]) F fun _ _ _ _ _ _ us hl => match us, hl with | [_], _ => rfl
  exact ⟨fd, fun s v => b s [v] rfl, fun base _ _ => ok_law x F⟩
end Lw
open PySem PySem.W PySem.Calls PyProof.Rows
theorem PySem.Challenge.cw_doorplans_k79_joins_are_put_in_holds : PySem.Challenge.rw_doorplans_k79_joins_are_put_in.Holds := by
  w_on; o_law
  refine HandSHeadRun.head_any (r := OpenLaw.row PySem.Challenge.rw_doorplans_k79_joins_are_put_in) (q := view (OpenLaw.row PySem.Challenge.rw_doorplans_k79_joins_are_put_in).prog [60]) (H := Lw.hk) (ob := Lw.ob) (M := 12000) (loose := Lw.nms) (d := HandSHeadRun.topDef (OpenLaw.row PySem.Challenge.rw_doorplans_k79_joins_are_put_in).prog 60) (kwd := []) Lw.ob_eq
    (by kernel_rfl) (fun s => by kernel_rfl) Lw.run (by kernel_rfl) (by kernel_rfl) (by kernel_rfl) (by rfl) (by first | assumption | decide +kernel) (by decide +kernel) ⟨rfl, rfl, rfl, rfl, rfl, by decide +kernel⟩ ?hw ?hc
  case hw => w_witness2
  case hc =>
    refine L2.walk_ofE (l := PySem.Challenge.rw_doorplans_k79_joins_are_put_in) (n := 63) (k := 10) (x := "script") (CX := L2.CX0) rfl (by decide) (by kernel_rfl) ⟨rfl, by decide, by decide⟩ ?F (fun _ _ _ _ z => z)
    intro w mg fa h Y G hmg0
    obtain ⟨K, KX, c⟩ := Y
    have hmg : mg ("law" : PySem.Str) = some (.ref fa) := by
      have e : (HandSHeadRun.topDef (OpenLaw.row PySem.Challenge.rw_doorplans_k79_joins_are_put_in).prog 60).name = ("law" : PySem.Str) := by kernel_rfl
      rw [← e]
      exact hmg0
    obtain ⟨fd, hb, hF⟩ := Lw.law_facts (w := w) KX G hmg c
    exact ⟨K, fd, _, KX, hb, fun H a ns hl _ hS => Lw.sp_script hl hS, hF⟩
end
