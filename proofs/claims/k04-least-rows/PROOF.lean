import PyProof.Rows.All
import Wide.All
import OpenK.AllK
import Wide.FinOn
import HandS.ForMost
import HandS.ForExc
import HandS.CallSlots
import HandS.More
import HandS.IsInst
import HandS.Conv
import HandS.RevRange
import KE.KStateDown
import Lean
import HandS.Defaults
import HandS.Head0
import HandS.Head1
import HandS.Head2
import HandS.HeadEnd
import HandS.EndBits
import HandS.HeadHook1
import HandS.HeadHook2
import PySem.Challenge.RW_askedfor_k04_least_rows
set_option Elab.async false
set_option linter.all false
set_option maxRecDepth 100000
set_option maxHeartbeats 0
/-! DL: values as data, a store of the few things that change, and what Python text means over them. -/
namespace DL
open PySem PySem.Spec PyProof.Rows L2

/-! ### texts -/
theorem ofS_eq (s : String) : Str.ofString s = ⟨(s.toList.map Char.toNat).toArray⟩ := Str.ofString_eq_toList s
theorem charNat_inj {a b : Char} (h : a.toNat = b.toNat) : a = b := by
  apply Char.ext
  exact UInt32.toNat_inj.mp h
theorem mapNat_inj : ∀ {a b : List Char}, a.map Char.toNat = b.map Char.toNat → a = b
  | [], [], _ => rfl
  | [], _ :: _, h => by cases h
  | _ :: _, [], h => by cases h
  | x :: xs, y :: ys, h => by
    simp only [List.map_cons, List.cons.injEq] at h
    rw [charNat_inj h.1, mapNat_inj h.2]
theorem ofS_inj {a b : String} (h : Str.ofString a = Str.ofString b) : a = b := by
  rw [ofS_eq, ofS_eq] at h
  have h1 : (a.toList.map Char.toNat).toArray = (b.toList.map Char.toNat).toArray := congrArg Str.cps h
  have h2 : a.toList.map Char.toNat = b.toList.map Char.toNat := by simpa using congrArg Array.toList h1
  have h3 := mapNat_inj h2
  rw [← String.ofList_toList (s := a), ← String.ofList_toList (s := b), h3]
theorem ofS_iff {a b : String} : Str.ofString a = Str.ofString b ↔ a = b := ⟨ofS_inj, fun h => by rw [h]⟩

/-! ### data -/
inductive D where
  | non | bl (b : Bool) | int (i : Int) | str (s : String)
  | tup (l : List D)
  /-- a list that nobody changes any more -/
  | lst (l : List D)
  /-- a dict that nobody changes any more -/
  | dic (kvs : List (String × D))
  /-- a list that the law was handed -/
  | scr (l : List D)
  /-- a thing of the store (or a class) -/
  | obj (a : Addr)
  /-- a built-in type -/
  | ty (n : String)
inductive Ob where
  | lst (l : List D)
  | dic (kvs : List (String × D))
  | ins (c : Nat) (fs : List (String × D))
abbrev Store := Addr → Option Ob
def put (S : Store) (a : Addr) (o : Ob) : Store := fun b => if b = a then some o else S b
def rid (S : Store) (a : Addr) : Store := fun b => if b = a then none else S b
theorem put_same {S : Store} {a : Addr} {o : Ob} : put S a o a = some o := by unfold put; rw [if_pos rfl]
theorem put_ne {S : Store} {a b : Addr} {o : Ob} (h : b ≠ a) : put S a o b = S b := by unfold put; rw [if_neg h]
theorem rid_same {S : Store} {a : Addr} : rid S a a = none := by unfold rid; rw [if_pos rfl]
theorem rid_ne {S : Store} {a b : Addr} (h : b ≠ a) : rid S a b = S b := by unfold rid; rw [if_neg h]
theorem put_put {S : Store} {a : Addr} {o u : Ob} : put (put S a o) a u = put S a u := by
  funext b; unfold put; split <;> rfl
theorem rid_put {S : Store} {a : Addr} {o : Ob} (h : S a = none) : rid (put S a o) a = S := by
  funext b; unfold rid put
  split
  · rename_i e; rw [e, h]
  · rfl
theorem put_id {S : Store} {a : Addr} {o : Ob} (h : S a = some o) : put S a o = S := by
  funext b; unfold put
  split
  · rename_i e; rw [e, h]
  · rfl
theorem put_comm {S : Store} {a b : Addr} {o u : Ob} (h : a ≠ b) : put (put S a o) b u = put (put S b u) a o := by
  funext c; unfold put
  by_cases e : c = a
  · subst e; rw [if_neg h, if_pos rfl, if_pos rfl]
  · rw [if_neg e, if_neg e]

/-! ### data in the heap: F, the lists and dicts that stay as they are -/
def SqZ (K : PySem.W.Frag) (H : Hp) (a : Addr) (xs : List V) : Prop :=
  (∃ o, H a = some (.frz o (.lst xs))) ∨
    ∃ (o : Obj) (its : Array Value) (n : Nat), K.lookup a = some o ∧ o.cls = .type "list" ∧ o.dict = none ∧ o.data = .seq its n ∧ its.size ≤ sizeLine ∧ Vals xs its.toList
theorem SqZ.sq {K : PySem.W.Frag} {H : Hp} {a : Addr} {xs : List V} (h : SqZ K H a xs) : SqL K H a xs := by
  rcases h with ⟨o, h⟩ | h
  · exact .inl (.inr ⟨o, h⟩)
  · exact .inr h
mutual
inductive RelD (K : PySem.W.Frag) (F : Addr → Prop) (H : Hp) : D → V → Prop
  | non : RelD K F H .non .non
  | bl (b : Bool) : RelD K F H (.bl b) (.bl b)
  | int (i : Int) : RelD K F H (.int i) (.int i)
  | str (s : String) : RelD K F H (.str s) (.str (Str.ofString s))
  | tup {a : Addr} {vs : List V} {l : List D} : SqT K H a vs → RelDs K F H l vs → RelD K F H (.tup l) (.ref a)
  | lst {a : Addr} {vs : List V} {l : List D} : H a = some (.lst vs) → F a → RelDs K F H l vs → RelD K F H (.lst l) (.ref a)
  | dic {a : Addr} {kv : List (Key × V)} {kd : List (String × D)} : H a = some (.dK kv) → F a → RelKs K F H kd kv → RelD K F H (.dic kd) (.ref a)
  | scr {a : Addr} {vs : List V} {l : List D} : SqZ K H a vs → RelDs K F H l vs → RelD K F H (.scr l) (.ref a)
  | obj (a : Addr) : RelD K F H (.obj a) (.ref a)
  | ty (n : String) : RelD K F H (.ty n) (.ty n)
inductive RelDs (K : PySem.W.Frag) (F : Addr → Prop) (H : Hp) : List D → List V → Prop
  | nil : RelDs K F H [] []
  | cons {d : D} {v : V} {l : List D} {vs : List V} : RelD K F H d v → RelDs K F H l vs → RelDs K F H (d :: l) (v :: vs)
inductive RelKs (K : PySem.W.Frag) (F : Addr → Prop) (H : Hp) : List (String × D) → List (Key × V) → Prop
  | nil : RelKs K F H [] []
  | cons {s : String} {d : D} {v : V} {l : List (String × D)} {vs : List (Key × V)} : RelD K F H d v → RelKs K F H l vs → RelKs K F H ((s, d) :: l) ((.inr (Str.ofString s), v) :: vs)
end
inductive RelFs (K : PySem.W.Frag) (F : Addr → Prop) (H : Hp) : List (String × D) → List (Str × V) → Prop
  | nil : RelFs K F H [] []
  | cons {s : String} {d : D} {v : V} {l : List (String × D)} {vs : List (Str × V)} : RelD K F H d v → RelFs K F H l vs → RelFs K F H ((s, d) :: l) ((Str.ofString s, v) :: vs)

section
variable {K : PySem.W.Frag} {ca : Nat → Addr} {F F' F'' : Addr → Prop} {S S' S'' : Store} {H H' H'' : Hp}
/-- what stands in the store at a -/
def RelO (K : PySem.W.Frag) (ca : Nat → Addr) (F : Addr → Prop) (H : Hp) (a : Addr) : Ob → Prop
  | .lst l => ∃ vs, H a = some (.lst vs) ∧ RelDs K F H l vs
  | .dic kd => ∃ kv, H a = some (.dK kv) ∧ RelKs K F H kd kv
  | .ins c fs => ∃ dx fv, H a = some (.ins (ca c) dx fv) ∧ RelFs K F H fs fv
structure RelS (K : PySem.W.Frag) (ca : Nat → Addr) (F : Addr → Prop) (S : Store) (H : Hp) : Prop where
  ob : ∀ a o, S a = some o → ¬ F a ∧ RelO K ca F H a o
  fz : ∀ a, F a → ∃ o, H a = some o
/-- what is not the store's stays -/
def Fr (F : Addr → Prop) (S : Store) (H : Hp) (F' : Addr → Prop) (S' : Store) (H' : Hp) : Prop := ∀ a o, H a = some o → S a = none → H' a = some o ∧ S' a = none ∧ (F' a ↔ F a)
theorem Fr.refl : Fr F S H F S H := fun _ _ h n => ⟨h, n, Iff.rfl⟩
theorem Fr.trans (a : Fr F S H F' S' H') (b : Fr F' S' H' F'' S'' H'') : Fr F S H F'' S'' H'' := fun c o h n =>
  let ⟨a1, a2, a3⟩ := a c o h n
  let ⟨b1, b2, b3⟩ := b c o a1 a2
  ⟨b1, b2, b3.trans a3⟩
theorem RelS.frzFree (r : RelS K ca F S H) {a : Addr} {u : HO} (h : H a = some u) (hl : ∀ vs, u ≠ .lst vs) (hd : ∀ vs, u ≠ .dK vs) (hi : ∀ c dx fs, u ≠ .ins c dx fs) : S a = none := by
  cases e : S a with
  | none => rfl
  | some o =>
    obtain ⟨_, q⟩ := r.ob a o e
    cases o with
    | lst l => obtain ⟨vs, z, _⟩ := q; rw [h] at z; exact absurd (Option.some.inj z) (hl _)
    | dic l => obtain ⟨vs, z, _⟩ := q; rw [h] at z; exact absurd (Option.some.inj z) (hd _)
    | ins c l => obtain ⟨dx, vs, z, _⟩ := q; rw [h] at z; exact absurd (Option.some.inj z) (hi _ _ _)
theorem RelS.tupFree (r : RelS K ca F S H) {a : Addr} {vs : List V} (h : Rd H a (.tup vs)) : S a = none := by
  rcases h with h | ⟨u, h⟩
  · exact r.frzFree h (fun _ z => by cases z) (fun _ z => by cases z) (fun _ _ _ z => by cases z)
  · exact r.frzFree h (fun _ z => by cases z) (fun _ z => by cases z) (fun _ _ _ z => by cases z)
theorem RelS.free (r : RelS K ca F S H) {a : Addr} (h : H a = none) : S a = none := by
  cases e : S a with
  | none => rfl
  | some o =>
    obtain ⟨_, q⟩ := r.ob a o e
    cases o <;> simp only [RelO] at q
    · obtain ⟨_, z, _⟩ := q; rw [h] at z; cases z
    · obtain ⟨_, z, _⟩ := q; rw [h] at z; cases z
    · obtain ⟨_, _, z, _⟩ := q; rw [h] at z; cases z
theorem RelS.fS (r : RelS K ca F S H) {a : Addr} (h : F a) : S a = none := by
  cases e : S a with
  | none => rfl
  | some o => exact absurd h (r.ob a o e).1
theorem fr_rd (f : Fr F S H F' S' H') {a : Addr} {u : HO} (h : Rd H a u) (n : S a = none) : Rd H' a u := by
  rcases h with h | ⟨o, h⟩
  · exact .inl (f a _ h n).1
  · exact .inr ⟨o, (f a _ h n).1⟩
theorem fr_t (r : RelS K ca F S H) (f : Fr F S H F' S' H') {a : Addr} {vs : List V} (h : SqT K H a vs) : SqT K H' a vs := by
  rcases h with h | h
  · exact .inl (fr_rd f h (r.tupFree h))
  · exact .inr h
theorem fr_z (r : RelS K ca F S H) (f : Fr F S H F' S' H') {a : Addr} {vs : List V} (h : SqZ K H a vs) : SqZ K H' a vs := by
  rcases h with ⟨o, h⟩ | h
  · exact .inl ⟨o, (f a _ h (r.frzFree h (fun _ z => by cases z) (fun _ z => by cases z) (fun _ _ _ z => by cases z))).1⟩
  · exact .inr h
theorem fr_F (r : RelS K ca F S H) (f : Fr F S H F' S' H') {a : Addr} (h : F a) : F' a := by
  obtain ⟨o, e⟩ := r.fz a h
  exact (f a o e (r.fS h)).2.2.mpr h
mutual
theorem RelD.mono (r : RelS K ca F S H) (f : Fr F S H F' S' H') : ∀ {d : D} {v : V}, RelD K F H d v → RelD K F' H' d v
  | _, _, .non => .non
  | _, _, .bl b => .bl b
  | _, _, .int i => .int i
  | _, _, .str s => .str s
  | _, _, .tup h q => .tup (fr_t r f h) (RelDs.mono r f q)
  | _, _, .lst h z q => .lst (f _ _ h (r.fS z)).1 (fr_F r f z) (RelDs.mono r f q)
  | _, _, .dic h z q => .dic (f _ _ h (r.fS z)).1 (fr_F r f z) (RelKs.mono r f q)
  | _, _, .scr h q => .scr (fr_z r f h) (RelDs.mono r f q)
  | _, _, .obj a => .obj a
  | _, _, .ty a => .ty a
theorem RelDs.mono (r : RelS K ca F S H) (f : Fr F S H F' S' H') : ∀ {d : List D} {v : List V}, RelDs K F H d v → RelDs K F' H' d v
  | _, _, .nil => .nil
  | _, _, .cons h q => .cons (RelD.mono r f h) (RelDs.mono r f q)
theorem RelKs.mono (r : RelS K ca F S H) (f : Fr F S H F' S' H') : ∀ {d : List (String × D)} {v : List (Key × V)}, RelKs K F H d v → RelKs K F' H' d v
  | _, _, .nil => .nil
  | _, _, .cons h q => .cons (RelD.mono r f h) (RelKs.mono r f q)
end
theorem RelFs.mono (r : RelS K ca F S H) (f : Fr F S H F' S' H') {d : List (String × D)} {v : List (Str × V)} (h : RelFs K F H d v) : RelFs K F' H' d v := by
  induction h with
  | nil => exact .nil
  | cons h _ ih => exact .cons (h.mono r f) ih
theorem RelDs.length : ∀ {d : List D} {v : List V}, RelDs K F H d v → d.length = v.length
  | _, _, .nil => rfl
  | _, _, .cons _ q => congrArg (· + 1) (RelDs.length q)
theorem RelDs.get {d : List D} {v : List V} (h : RelDs K F H d v) : ∀ {i : Nat} {x : D}, d[i]? = some x → ∃ u, v[i]? = some u ∧ RelD K F H x u := by
  induction d generalizing v with
  | nil => intro i x e; simp at e
  | cons d l ih =>
    cases h with
    | cons r q =>
      intro i x e
      cases i with
      | zero => simp at e; subst e; exact ⟨_, rfl, r⟩
      | succ i => simpa using ih q (i := i) (x := x) (by simpa using e)
theorem RelDs.getv {d : List D} {v : List V} (h : RelDs K F H d v) : ∀ {i : Nat} {x : V}, v[i]? = some x → ∃ u, d[i]? = some u ∧ RelD K F H u x := by
  induction d generalizing v with
  | nil => cases h; intro i x e; simp at e
  | cons d l ih =>
    cases h with
    | cons r q =>
      intro i x e
      cases i with
      | zero => simp at e; subst e; exact ⟨_, rfl, r⟩
      | succ i => simpa using ih q (i := i) (x := x) (by simpa using e)
theorem RelDs.append {d e : List D} {v u : List V} (h : RelDs K F H d v) (q : RelDs K F H e u) : RelDs K F H (d ++ e) (v ++ u) := by
  induction d generalizing v with
  | nil => cases h; exact q
  | cons d l ih => cases h with | cons r h => exact .cons r (ih h)
theorem RelDs.set {d : List D} {v : List V} (h : RelDs K F H d v) {x : D} {u : V} (r : RelD K F H x u) : ∀ i, RelDs K F H (d.set i x) (v.set i u) := by
  induction d generalizing v with
  | nil => cases h; intro i; exact .nil
  | cons d l ih =>
    cases h with
    | cons q h =>
      intro i
      cases i with
      | zero => exact .cons r h
      | succ i => exact .cons q (ih h i)
theorem RelDs.take {d : List D} {v : List V} (h : RelDs K F H d v) : ∀ n, RelDs K F H (d.take n) (v.take n) := by
  induction d generalizing v with
  | nil => cases h; intro n; simp; exact .nil
  | cons d l ih =>
    cases h with
    | cons q h =>
      intro n
      cases n with
      | zero => exact .nil
      | succ n => exact .cons q (ih h n)
theorem RelDs.drop {d : List D} {v : List V} (h : RelDs K F H d v) : ∀ n, RelDs K F H (d.drop n) (v.drop n) := by
  induction d generalizing v with
  | nil => cases h; intro n; simp; exact .nil
  | cons d l ih =>
    cases h with
    | cons q h =>
      intro n
      cases n with
      | zero => exact .cons q h
      | succ n => exact ih h n
theorem RelDs.dropLast {d : List D} {v : List V} (h : RelDs K F H d v) : RelDs K F H d.dropLast v.dropLast := by
  rw [List.dropLast_eq_take, List.dropLast_eq_take, h.length]
  exact h.take _
theorem RelDs.reverse {d : List D} {v : List V} (h : RelDs K F H d v) : RelDs K F H d.reverse v.reverse := by
  induction d generalizing v with
  | nil => cases h; exact .nil
  | cons d l ih =>
    cases h with
    | cons q h =>
      rw [List.reverse_cons, List.reverse_cons]
      exact (ih h).append (.cons q .nil)

/-! ### the store and the heap, step by step -/
def ins (F : Addr → Prop) (p : Addr) : Addr → Prop := fun a => a = p ∨ F a
theorem fr_new {p : Addr} {o : Ob} {u : HO} (n : H p = none) : Fr F S H F (put S p o) (upd H p u) := fun a w h z => by
  have e : a ≠ p := ne_of_none h n
  exact ⟨by rw [upd_ne e]; exact h, by rw [put_ne e]; exact z, Iff.rfl⟩
theorem fr_newD {p : Addr} {u : HO} (n : H p = none) : Fr F S H F S (upd H p u) := fun a w h z => by
  have e : a ≠ p := ne_of_none h n
  exact ⟨by rw [upd_ne e]; exact h, z, Iff.rfl⟩
theorem fr_newF {p : Addr} {u : HO} (n : H p = none) : Fr F S H (ins F p) S (upd H p u) := fun a w h z => by
  have e : a ≠ p := ne_of_none h n
  exact ⟨by rw [upd_ne e]; exact h, z, ⟨fun q => q.resolve_left e, .inr⟩⟩
theorem fr_write {p : Addr} {o o' : Ob} {u : HO} (h : S p = some o) : Fr F S H F (put S p o') (upd H p u) := fun a w q z => by
  have e : a ≠ p := fun e => by rw [e, h] at z; cases z
  exact ⟨by rw [upd_ne e]; exact q, by rw [put_ne e]; exact z, Iff.rfl⟩
theorem fr_rid {p : Addr} : Fr F S H F (rid S p) H := fun a w q z => ⟨q, (by unfold rid; split <;> first | rfl | exact z), Iff.rfl⟩
theorem fr_frz {p : Addr} {o : Ob} (h : S p = some o) : Fr F S H (ins F p) (rid S p) H := fun a w q z => by
  have e : a ≠ p := fun e => by rw [e, h] at z; cases z
  exact ⟨q, by rw [rid_ne e]; exact z, ⟨fun q => q.resolve_left e, .inr⟩⟩
theorem RelO.mono (r : RelS K ca F S H) (f : Fr F S H F' S' H') {a : Addr} {o : Ob} (h : RelO K ca F H a o) (same : H' a = H a) : RelO K ca F' H' a o := by
  cases o with
  | lst l => obtain ⟨vs, e, q⟩ := h; exact ⟨vs, same.trans e, q.mono r f⟩
  | dic l => obtain ⟨vs, e, q⟩ := h; exact ⟨vs, same.trans e, q.mono r f⟩
  | ins c l => obtain ⟨dx, vs, e, q⟩ := h; exact ⟨dx, vs, same.trans e, q.mono r f⟩
theorem RelS.newD {p : Addr} {u : HO} (r : RelS K ca F S H) (n : H p = none) : RelS K ca F S (upd H p u) := by
  refine ⟨fun a o e => ⟨(r.ob a o e).1, (r.ob a o e).2.mono r (fr_newD n) (upd_ne fun z => by rw [z, r.free n] at e; cases e)⟩, fun a h => ?_⟩
  obtain ⟨o, e⟩ := r.fz a h
  exact ⟨o, by rw [upd_ne (ne_of_none e n)]; exact e⟩
theorem RelS.newF {p : Addr} {u : HO} (r : RelS K ca F S H) (n : H p = none) : RelS K ca (ins F p) S (upd H p u) := by
  refine ⟨fun a o e => ?_, fun a h => ?_⟩
  · have ne : a ≠ p := fun z => by rw [z, r.free n] at e; cases e
    exact ⟨fun q => (r.ob a o e).1 (q.resolve_left ne), (r.ob a o e).2.mono r (fr_newF n) (upd_ne ne)⟩
  · by_cases z : a = p
    · subst z; exact ⟨u, upd_same⟩
    · obtain ⟨o, e⟩ := r.fz a (h.resolve_left z)
      exact ⟨o, by rw [upd_ne z]; exact e⟩
theorem RelS.new {p : Addr} {o : Ob} {u : HO} (r : RelS K ca F S H) (n : H p = none) (q : RelO K ca F (upd H p u) p o) : RelS K ca F (put S p o) (upd H p u) := by
  refine ⟨fun a w e => ?_, fun a h => ?_⟩
  · by_cases z : a = p
    · subst z
      rw [put_same] at e
      cases e
      refine ⟨fun h => ?_, q⟩
      obtain ⟨_, e⟩ := r.fz a h
      rw [n] at e
      cases e
    · rw [put_ne z] at e
      exact ⟨(r.ob a w e).1, (r.ob a w e).2.mono r (fr_new (o := o) n) (upd_ne z)⟩
  · obtain ⟨o', e⟩ := r.fz a h
    exact ⟨o', by rw [upd_ne (ne_of_none e n)]; exact e⟩
theorem RelS.write {p : Addr} {o o' : Ob} {u : HO} (r : RelS K ca F S H) (n : S p = some o) (q : RelO K ca F (upd H p u) p o') : RelS K ca F (put S p o') (upd H p u) := by
  refine ⟨fun a w e => ?_, fun a h => ?_⟩
  · by_cases z : a = p
    · subst z
      rw [put_same] at e
      cases e
      exact ⟨(r.ob a _ n).1, q⟩
    · rw [put_ne z] at e
      exact ⟨(r.ob a w e).1, (r.ob a w e).2.mono r (fr_write (o' := o') n) (upd_ne z)⟩
  · obtain ⟨o', e⟩ := r.fz a h
    have z : a ≠ p := fun z => by subst z; exact (r.ob a _ n).1 h
    exact ⟨o', by rw [upd_ne z]; exact e⟩
theorem RelS.rid {p : Addr} (r : RelS K ca F S H) : RelS K ca F (rid S p) H := by
  refine ⟨fun a w e => ?_, r.fz⟩
  by_cases z : a = p
  · subst z; rw [rid_same] at e; cases e
  · rw [rid_ne z] at e
    exact ⟨(r.ob a w e).1, (r.ob a w e).2.mono r (fr_rid (p := p)) rfl⟩
theorem RelO.there {a : Addr} {o : Ob} (h : RelO K ca F H a o) : ∃ u, H a = some u := by
  cases o with
  | lst l => obtain ⟨vs, e, q⟩ := h; exact ⟨_, e⟩
  | dic l => obtain ⟨vs, e, q⟩ := h; exact ⟨_, e⟩
  | ins c l => obtain ⟨dx, vs, e, q⟩ := h; exact ⟨_, e⟩
theorem RelS.frz {p : Addr} {o : Ob} (r : RelS K ca F S H) (n : S p = some o) : RelS K ca (ins F p) (DL.rid S p) H := by
  refine ⟨fun a w e => ?_, fun a h => ?_⟩
  · by_cases z : a = p
    · subst z; rw [rid_same] at e; cases e
    · rw [rid_ne z] at e
      exact ⟨fun q => (r.ob a w e).1 (q.resolve_left z), (r.ob a w e).2.mono r (fr_frz n) rfl⟩
  · by_cases z : a = p
    · subst z; exact (r.ob a _ n).2.there
    · exact r.fz a (h.resolve_left z)
end
end DL
/-! DL2: the judgements over data, and the rules of expressions. -/
namespace DL
open PySem PySem.Spec PyProof.Rows L2

abbrev DEnv := List (Option D)
abbrev QE := D → Store → Prop
abbrev DE := DEnv → Store → QE → Prop
abbrev DT := DEnv → Store → (Bool → Store → Prop) → Prop
abbrev DA := DEnv → Store → (List D → Store → Prop) → Prop
/-- an exception of an own class: the class's number, its fields -/
structure DX where
  cls : Nat
  fs : List (String × D)
abbrev XQ := DX → Store → Prop
/-- what a def does: arguments, store, what is wanted of the value, of an exception -/
abbrev DSp := List D → Store → QE → XQ → Prop

/-- where a body runs: the classes, the state at its entry, what is wanted of an exception -/
structure Bc where
  ca : Nat → Addr
  F0 : Addr → Prop
  S0 : Store
  H0 : Hp
  ED : DX → DEnv → Store → Prop

section
variable {K : PySem.W.Frag} {ca : Nat → Addr} {F F' F'' : Addr → Prop} {S S' S'' : Store} {H H' H'' : Hp} {B : Bc} {σ : DEnv} {σV : L2.St} {Q : QE} {QV : VK}
def RelEnv (K : PySem.W.Frag) (F : Addr → Prop) (H : Hp) (σ : DEnv) (σV : L2.St) : Prop :=
  σ.length = σV.length ∧ ∀ (i : Nat) (d : D), σ[i]? = some (some d) → ∃ v, σV[i]? = some (some v) ∧ RelD K F H d v
structure Rel (K : PySem.W.Frag) (B : Bc) (F : Addr → Prop) (σ : DEnv) (S : Store) (σV : L2.St) (H : Hp) : Prop where
  env : RelEnv K F H σ σV
  st : RelS K B.ca F S H
  fr : Fr B.F0 B.S0 B.H0 F S H
theorem RelEnv.mono (e : RelEnv K F H σ σV) (r : RelS K ca F S H) (f : Fr F S H F' S' H') : RelEnv K F' H' σ σV :=
  ⟨e.1, fun i d h => let ⟨v, a, b⟩ := e.2 i d h; ⟨v, a, b.mono r f⟩⟩
theorem Rel.step (R : Rel K B F σ S σV H) (f : Fr F S H F' S' H') (r : RelS K B.ca F' S' H') : Rel K B F' σ S' σV H' :=
  ⟨R.env.mono R.st f, r, R.fr.trans f⟩
theorem RelEnv.set (e : RelEnv K F H σ σV) {i : Nat} {d : D} {v : V} (r : RelD K F H d v) : RelEnv K F H (σ.set i (some d)) (σV.set i (some v)) := by
  refine ⟨by rw [List.length_set, List.length_set]; exact e.1, fun j x h => ?_⟩
  by_cases hj : i = j
  · subst hj
    by_cases hi : i < σ.length
    · rw [List.getElem?_set_self hi] at h
      cases h
      exact ⟨v, by rw [List.getElem?_set_self (by rw [← e.1]; exact hi)], r⟩
    · rw [List.getElem?_eq_none (by simpa using hi)] at h
      cases h
  · rw [List.getElem?_set_ne hj] at h
    obtain ⟨u, a, b⟩ := e.2 j x h
    exact ⟨u, by rw [List.getElem?_set_ne hj]; exact a, b⟩
theorem Rel.set (R : Rel K B F σ S σV H) {i : Nat} {d : D} {v : V} (r : RelD K F H d v) : Rel K B F (σ.set i (some d)) S (σV.set i (some v)) H := ⟨R.env.set r, R.st, R.fr⟩

/-! ### what is wanted, over data and over the heap -/
def PostE (K : PySem.W.Frag) (ca : Nat → Addr) (F : Addr → Prop) (S : Store) (H : Hp) (Q : QE) (QV : VK) : Prop :=
  ∀ x v F' S' H', Fr F S H F' S' H' → RelS K ca F' S' H' → RelD K F' H' x v → Q x S' → QV v H'
def PostB (K : PySem.W.Frag) (ca : Nat → Addr) (F : Addr → Prop) (S : Store) (H : Hp) (Q : Bool → Store → Prop) (QV : Bool → Hp → Prop) : Prop :=
  ∀ x F' S' H', Fr F S H F' S' H' → RelS K ca F' S' H' → Q x S' → QV x H'
def PostA (K : PySem.W.Frag) (ca : Nat → Addr) (n : Nat) (F : Addr → Prop) (S : Store) (H : Hp) (Q : List D → Store → Prop) (QV : List V → Hp → Prop) : Prop :=
  ∀ x v F' S' H', Fr F S H F' S' H' → RelS K ca F' S' H' → RelDs K F' H' x v → x.length = n → Q x S' → QV v H'
def RelX (K : PySem.W.Frag) (ca : Nat → Addr) (F : Addr → Prop) (H : Hp) (x : DX) (cls : Value) (d : Option Addr) : Prop :=
  cls = .ref (ca x.cls) ∧ ((x.fs = [] ∧ d = none) ∨ ∃ dd fv, d = some dd ∧ H dd = some (.xd fv) ∧ RelFs K F H x.fs fv)
def PostX (K : PySem.W.Frag) (ca : Nat → Addr) (F : Addr → Prop) (S : Store) (H : Hp) (ED : XQ) (E : XK) : Prop :=
  ∀ x cls d F' S' H', Fr F S H F' S' H' → RelS K ca F' S' H' → RelX K ca F' H' x cls d → ED x S' → E cls d H'
theorem PostE.step (p : PostE K ca F S H Q QV) (f : Fr F S H F' S' H') : PostE K ca F' S' H' Q QV := fun x v _ _ _ g r d q => p x v _ _ _ (f.trans g) r d q
theorem PostE.at (p : PostE K ca F S H Q QV) (r : RelS K ca F S H) {x : D} {v : V} (d : RelD K F H x v) (q : Q x S) : QV v H := p x v F S H Fr.refl r d q

def SimE (K : PySem.W.Frag) (B : Bc) (d : DE) (t : TE) : Prop := ∀ F σ S σV H Q QV, Rel K B F σ S σV H → d σ S Q → PostE K B.ca F S H Q QV → t σV H QV
def SimT (K : PySem.W.Frag) (B : Bc) (d : DT) (t : TT) : Prop := ∀ F σ S σV H Q QV, Rel K B F σ S σV H → d σ S Q → PostB K B.ca F S H Q QV → t σV H QV
def SimA (K : PySem.W.Frag) (B : Bc) (n : Nat) (d : DA) (t : TA) : Prop := ∀ F σ S σV H Q QV, Rel K B F σ S σV H → d σ S Q → PostA K B.ca n F S H Q QV → t σV H QV
end

/-! ### the weakest readings -/
def wpE (X : Cx) (e : Expr) : TE := fun σ H Q => ∀ (pins : List (Addr × Obj)) (s : Shared), Inv X pins σ H s → wpAny (model X.prog X.w) X.A (eval e X.env) (EP X pins σ Q) X.xe s
def wpT (X : Cx) (e : Expr) : TT := fun σ H Q => ∀ (pins : List (Addr × Obj)) (s : Shared), Inv X pins σ H s → wpAny (model X.prog X.w) X.A (isTrue e X.env (eval e X.env)) (TP X pins σ Q) X.xe s
def wpW (X : Cx) (e : Expr) : TT := fun σ H Q => ∀ (wh : Sem Value) (pins : List (Addr × Obj)) (s : Shared), Inv X pins σ H s → wpAny (model X.prog X.w) X.A (isTrue e X.env wh) (TP X pins σ Q) X.xe s
def wpA (X : Cx) (es : List Expr) : TA := fun σ H Q => ∀ (pos : Pos) (pins : List (Addr × Obj)) (s : Shared), Inv X pins σ H s → wpAny (model X.prog X.w) X.A (spliced (backTo pos (starEach es X.env))) (AP X pins σ Q) X.xe s
theorem pe_w {X : Cx} {e : Expr} : PE X e (wpE X e) := ⟨fun pins s _ _ _ I h => h pins s I⟩
theorem pt_w {X : Cx} {e : Expr} : PT X e (wpT X e) := ⟨fun pins s _ _ _ I h => h pins s I⟩
theorem pw_w {X : Cx} {e : Expr} : PW X e (wpW X e) := ⟨fun wh pins s _ _ _ I h => h wh pins s I⟩
theorem pa_w {X : Cx} {es : List Expr} : PA X es (wpA X es) := ⟨fun pos pins s _ _ _ I h => h pos pins s I⟩

def PD (X : Cx) (B : Bc) (e : Expr) (d : DE) : Prop := SimE X.K B d (wpE X e)
def PDT (X : Cx) (B : Bc) (e : Expr) (d : DT) : Prop := SimT X.K B d (wpT X e)
def PDW (X : Cx) (B : Bc) (e : Expr) (d : DT) : Prop := SimT X.K B d (wpW X e)
def PDA (X : Cx) (B : Bc) (es : List Expr) (n : Nat) (d : DA) : Prop := SimA X.K B n d (wpA X es)

section
variable {X : Cx} {B : Bc} {e a b c : Expr} {es rest : List Expr} {d da db dc : DE} {t ta tb tc : TE} {pos : Pos} {n : Nat}
theorem pd_of (h : PE X e t) (s : SimE X.K B d t) : PD X B e d := fun F σ S σV H Q QV R q P pins st I => h.run pins st σV H QV I (s F σ S σV H Q QV R q P)
theorem pdt_of {d : DT} {t : TT} (h : PT X e t) (s : SimT X.K B d t) : PDT X B e d := fun F σ S σV H Q QV R q P pins st I => h.run pins st σV H QV I (s F σ S σV H Q QV R q P)
theorem pdw_of {d : DT} {t : TT} (h : PW X e t) (s : SimT X.K B d t) : PDW X B e d := fun F σ S σV H Q QV R q P wh pins st I => h.run wh pins st σV H QV I (s F σ S σV H Q QV R q P)
theorem pda_of {d : DA} {t : TA} (h : PA X es t) (s : SimA X.K B n d t) : PDA X B es n d := fun F σ S σV H Q QV R q P pos pins st I => h.run pos pins st σV H QV I (s F σ S σV H Q QV R q P)
theorem pdw_t {d : DT} (h : PDW X B e d) : PDT X B e d := fun F σ S σV H Q QV R q P pins st I => h F σ S σV H Q QV R q P _ pins st I

/-! ### names and constants -/
def dVar (i : Nat) : DE := fun σ S Q => match σ[i]? with
  | some (some v) => Q v S
  | _ => False
theorem sim_var {K : PySem.W.Frag} {i : Nat} : SimE K B (dVar i) (tVar i) := by
  intro F σ S σV H Q QV R q P
  unfold dVar at q
  split at q
  · rename_i v e
    obtain ⟨u, hu, r⟩ := R.env.2 i v e
    exact ⟨u, hu, P.at R.st r q⟩
  · exact q.elim
theorem pd_var (i : Nat) {x : Str} (hN : X.N[i]? = some x := by rfl) (hv : Vis X.env.scope x := by first | exact Or.inl rfl | exact Or.inr (Or.inl rfl) | exact Or.inr (Or.inr rfl)) (hd : (x == ("__debug__" : Str)) = false := by decide)
    (hcd : (x == ("__classdict__" : Str)) = false := by decide) : PD X B (.Name x pos) (dVar i) := pd_of (pe_var hN hv hd hcd) sim_var
def dC (v : D) : DE := fun _ S Q => Q v S
theorem sim_c {K : PySem.W.Frag} {x : D} {v : V} (h : ∀ F H, RelD K F H x v) : SimE K B (dC x) (tC v) := fun F σ S σV H Q QV R q P => P.at R.st (h F H) q
theorem pd_int {i j} : PD X B (.Constant (.int i) j pos) (dC (.int i)) := pd_of pe_int (sim_c fun _ _ => .int i)
theorem pd_bl {i j} : PD X B (.Constant (.bool i) j pos) (dC (.bl i)) := pd_of pe_bl (sim_c fun _ _ => .bl i)
theorem pd_non {j} : PD X B (.Constant .none j pos) (dC .non) := pd_of pe_non (sim_c fun _ _ => .non)
theorem pd_str {i : String} {j} : PD X B (.Constant (.str (Str.ofString i)) j pos) (dC (.str i)) := pd_of pe_str (sim_c fun _ _ => .str i)
/-- a module's constant -/
theorem pd_glob {x : Str} {v : V} {u : Value} {z : D} (hg : Gl X x) (hm : X.mg x = some u) (r : RelV v u) (h : ∀ F H, RelD X.K F H z v) (hd : (x == ("__debug__" : Str)) = false := by decide) : PD X B (.Name x pos) (dC z) :=
  pd_of (pe_glob hg hm r hd) (sim_c h)

/-! ### operators by values -/
abbrev DR2 := D → D → Store → QE → Prop
def VR2 (K : PySem.W.Frag) (ca : Nat → Addr) (dr : DR2) (r : R2) : Prop := ∀ F S H x y v u Q QV, RelS K ca F S H → RelD K F H x v → RelD K F H y u → dr x y S Q → PostE K ca F S H Q QV → r v u H QV
def dOp (dr : DR2) (da db : DE) : DE := fun σ S Q => da σ S fun x S1 => db σ S1 fun y S2 => dr x y S2 Q
theorem sim_op {K : PySem.W.Frag} {dr : DR2} {r : R2} (hr : VR2 K B.ca dr r) (ha : SimE K B da ta) (hb : SimE K B db tb) : SimE K B (dOp dr da db) (tOp r ta tb) := by
  intro F σ S σV H Q QV R q P
  refine ha F σ S σV H _ _ R q fun x v F1 S1 H1 f1 r1 d1 q1 => ?_
  refine hb F1 σ S1 σV H1 _ _ (R.step f1 r1) q1 fun y u F2 S2 H2 f2 r2 d2 q2 => ?_
  exact hr F2 S2 H2 x y v u Q QV r2 (d1.mono r1 f2) d2 q2 (P.step (f1.trans f2))
abbrev DR1 := D → Store → QE → Prop
def VR1 (K : PySem.W.Frag) (ca : Nat → Addr) (dr : DR1) (r : V → Hp → VK → Prop) : Prop := ∀ F S H x v Q QV, RelS K ca F S H → RelD K F H x v → dr x S Q → PostE K ca F S H Q QV → r v H QV
def dUn (dr : DR1) (da : DE) : DE := fun σ S Q => da σ S fun x S1 => dr x S1 Q
theorem sim_un {K : PySem.W.Frag} {dr : DR1} {r : V → Hp → VK → Prop} (hr : VR1 K B.ca dr r) (ha : SimE K B da ta) : SimE K B (dUn dr da) (tUn r ta) := by
  intro F σ S σV H Q QV R q P
  refine ha F σ S σV H _ _ R q fun x v F1 S1 H1 f1 r1 d1 q1 => ?_
  exact hr F1 S1 H1 x v Q QV r1 d1 q1 (P.step f1)
theorem pd_op {op : Operator} {dr : DR2} {r : R2} (ho : OpR X (binaryOp op) r) (hr : VR2 X.K B.ca dr r) (ha : PD X B a da) (hb : PD X B b db) : PD X B (.BinOp a op b pos) (dOp dr da db) := pd_of (pe_op ho pe_w pe_w) (sim_op hr ha hb)
theorem pd_un {op : UnaryOp} {dr : DR1} {r : V → Hp → VK → Prop} (ho : UnR X (unaryOp op) r) (hr : VR1 X.K B.ca dr r) (ha : PD X B a da) : PD X B (.UnaryOp op a pos) (dUn dr da) := pd_of (pe_un ho pe_w) (sim_un hr ha)
theorem pd_cmp {op : CmpOp} {dr : DR2} {r : R2} (ho : OpR X (compareOp op) r) (hr : VR2 X.K B.ca dr r) (ha : PD X B a da) (hb : PD X B b db) (hm : behindInMarks op b = false) : PD X B (.Compare a [op] [b] pos) (dOp dr da db) :=
  pd_of (pe_cmpR ho pe_w pe_w hm) (sim_op hr ha hb)
/-- a value as a test -/
def dTest (d : DE) : DT := fun σ S Q => d σ S fun x S1 => match x with
  | .bl k => Q k S1
  | _ => False
theorem sim_test {K : PySem.W.Frag} (h : SimE K B d t) : SimT K B (dTest d) (tTest t) := by
  intro F σ S σV H Q QV R q P
  refine h F σ S σV H _ _ R q fun x v F1 S1 H1 f1 r1 d1 q1 => ?_
  cases d1 with
  | bl k => exact ⟨k, rfl, P k F1 S1 H1 f1 r1 q1⟩
  | _ => exact q1.elim
theorem pdt_cmp {op : CmpOp} {dr : DR2} {r : R2} (ho : OpR X (compareOp op) r) (hr : VR2 X.K B.ca dr r) (ha : PD X B a da) (hb : PD X B b db) (hm : behindInMarks op b = false) : PDT X B (.Compare a [op] [b] pos) (dTest (dOp dr da db)) :=
  pdt_of (pt_cmpR ho pe_w pe_w hm) (sim_test (sim_op hr ha hb))

/-! ### and, or, not, if -/
def dAnd (t u : DT) : DT := fun σ S Q => t σ S fun c S1 => if c = true then u σ S1 Q else Q false S1
def dOr (t u : DT) : DT := fun σ S Q => t σ S fun c S1 => if c = true then Q true S1 else u σ S1 Q
def dNot (t : DT) : DT := fun σ S Q => t σ S fun c S1 => Q (!c) S1
variable {K : PySem.W.Frag} {dt du : DT} {tt tu : TT}
theorem sim_and (h1 : SimT K B dt tt) (h2 : SimT K B du tu) : SimT K B (dAnd dt du) (tAnd tt tu) := by
  intro F σ S σV H Q QV R q P
  refine h1 F σ S σV H _ _ R q fun c F1 S1 H1 f1 r1 q1 => ?_
  cases c with
  | true => exact h2 F1 σ S1 σV H1 Q QV (R.step f1 r1) q1 fun x F2 S2 H2 f2 => P x F2 S2 H2 (f1.trans f2)
  | false => exact P false F1 S1 H1 f1 r1 q1
theorem sim_or (h1 : SimT K B dt tt) (h2 : SimT K B du tu) : SimT K B (dOr dt du) (tOr tt tu) := by
  intro F σ S σV H Q QV R q P
  refine h1 F σ S σV H _ _ R q fun c F1 S1 H1 f1 r1 q1 => ?_
  cases c with
  | false => exact h2 F1 σ S1 σV H1 Q QV (R.step f1 r1) q1 fun x F2 S2 H2 f2 => P x F2 S2 H2 (f1.trans f2)
  | true => exact P true F1 S1 H1 f1 r1 q1
theorem sim_not (h1 : SimT K B dt tt) : SimT K B (dNot dt) (tNot tt) := by
  intro F σ S σV H Q QV R q P
  exact h1 F σ S σV H _ _ R q fun c F1 S1 H1 f1 r1 q1 => P (!c) F1 S1 H1 f1 r1 q1
theorem pdw_and1 (h : PDT X B a dt) : PDW X B (.BoolOp .And [a] pos) dt := pdw_of (pw_and1 pt_w) h
theorem pdw_or1 (h : PDT X B a dt) : PDW X B (.BoolOp .Or [a] pos) dt := pdw_of (pw_or1 pt_w) h
theorem pdw_and (h : PDT X B a dt) (k : PDW X B (.BoolOp .And (b :: rest) pos) du) : PDW X B (.BoolOp .And (a :: b :: rest) pos) (dAnd dt du) := pdw_of (pw_and pt_w pw_w) (sim_and h k)
theorem pdw_or (h : PDT X B a dt) (k : PDW X B (.BoolOp .Or (b :: rest) pos) du) : PDW X B (.BoolOp .Or (a :: b :: rest) pos) (dOr dt du) := pdw_of (pw_or pt_w pw_w) (sim_or h k)
theorem pdt_not (h : PDT X B a dt) : PDT X B (.UnaryOp .Not a pos) (dNot dt) := pdt_of (pt_not pt_w) (sim_not h)
/-- .. as values, all of them bools -/
def dAndV (da db : DE) : DE := fun σ S Q => da σ S fun x S1 => match x with
  | .bl true => db σ S1 Q
  | .bl false => Q (.bl false) S1
  | _ => False
def dOrV (da db : DE) : DE := fun σ S Q => da σ S fun x S1 => match x with
  | .bl true => Q (.bl true) S1
  | .bl false => db σ S1 Q
  | _ => False
def dNotV (da : DE) : DE := fun σ S Q => da σ S fun x S1 => match x with
  | .bl c => Q (.bl (!c)) S1
  | _ => False
theorem sim_andV (ha : SimE K B da ta) (hb : SimE K B db tb) : SimE K B (dAndV da db) (tAndV ta tb) := by
  intro F σ S σV H Q QV R q P
  refine ha F σ S σV H _ _ R q fun x v F1 S1 H1 f1 r1 d1 q1 => ?_
  cases d1 with
  | bl c =>
    refine ⟨c, rfl, ?_⟩
    cases c with
    | true => exact hb F1 σ S1 σV H1 Q QV (R.step f1 r1) q1 (P.step f1)
    | false => exact P _ _ F1 S1 H1 f1 r1 (.bl false) q1
  | _ => exact q1.elim
theorem sim_orV (ha : SimE K B da ta) (hb : SimE K B db tb) : SimE K B (dOrV da db) (tOrV ta tb) := by
  intro F σ S σV H Q QV R q P
  refine ha F σ S σV H _ _ R q fun x v F1 S1 H1 f1 r1 d1 q1 => ?_
  cases d1 with
  | bl c =>
    refine ⟨c, rfl, ?_⟩
    cases c with
    | false => exact hb F1 σ S1 σV H1 Q QV (R.step f1 r1) q1 (P.step f1)
    | true => exact P _ _ F1 S1 H1 f1 r1 (.bl true) q1
  | _ => exact q1.elim
theorem sim_notV (ha : SimE K B da ta) : SimE K B (dNotV da) (tNotV ta) := by
  intro F σ S σV H Q QV R q P
  refine ha F σ S σV H _ _ R q fun x v F1 S1 H1 f1 r1 d1 q1 => ?_
  cases d1 with
  | bl c => exact ⟨c, rfl, P _ _ F1 S1 H1 f1 r1 (.bl (!c)) q1⟩
  | _ => exact q1.elim
theorem pd_one {op} (h : PD X B a d) : PD X B (.BoolOp op [a] pos) d := pd_of (pe_one pe_w) h
theorem pd_and (ha : PD X B a da) (hb : PD X B (.BoolOp .And (b :: rest) pos) db) : PD X B (.BoolOp .And (a :: b :: rest) pos) (dAndV da db) := pd_of (pe_and pe_w pe_w) (sim_andV ha hb)
theorem pd_or (ha : PD X B a da) (hb : PD X B (.BoolOp .Or (b :: rest) pos) db) : PD X B (.BoolOp .Or (a :: b :: rest) pos) (dOrV da db) := pd_of (pe_or pe_w pe_w) (sim_orV ha hb)
theorem pd_not (h : PD X B a da) : PD X B (.UnaryOp .Not a pos) (dNotV da) := pd_of (pe_not pe_w) (sim_notV h)
def dIf (t : DT) (da db : DE) : DE := fun σ S Q => t σ S fun c S1 => if c = true then da σ S1 Q else db σ S1 Q
theorem sim_if (h : SimT K B dt tt) (ha : SimE K B da ta) (hb : SimE K B db tb) : SimE K B (dIf dt da db) (tIf tt ta tb) := by
  intro F σ S σV H Q QV R q P
  refine h F σ S σV H _ _ R q fun c F1 S1 H1 f1 r1 q1 => ?_
  cases c with
  | true => exact ha F1 σ S1 σV H1 Q QV (R.step f1 r1) q1 (P.step f1)
  | false => exact hb F1 σ S1 σV H1 Q QV (R.step f1 r1) q1 (P.step f1)
theorem pd_if (h : PDT X B c dt) (ha : PD X B a da) (hb : PD X B b db) : PD X B (.IfExp c a b pos) (dIf dt da db) := pd_of (pe_ifExp pt_w pe_w pe_w) (sim_if h ha hb)

/-! ### arguments, displays -/
def dNil : DA := fun _ S Q => Q [] S
def dCons (da : DE) (dr : DA) : DA := fun σ S Q => da σ S fun x S1 => dr σ S1 fun xs S2 => Q (x :: xs) S2
theorem sim_nil : SimA K B 0 dNil tNil := fun F σ S σV H Q QV R q P => P [] [] F S H Fr.refl R.st .nil rfl q
theorem sim_cons {dr : DA} {tr : TA} (ha : SimE K B da ta) (hr : SimA K B n dr tr) : SimA K B (n + 1) (dCons da dr) (tCons ta tr) := by
  intro F σ S σV H Q QV R q P
  refine ha F σ S σV H _ _ R q fun x v F1 S1 H1 f1 r1 d1 q1 => ?_
  refine hr F1 σ S1 σV H1 _ _ (R.step f1 r1) q1 fun xs vs F2 S2 H2 f2 r2 d2 l2 q2 => ?_
  exact P (x :: xs) (v :: vs) F2 S2 H2 (f1.trans f2) r2 (.cons (d1.mono r1 f2) d2) (by rw [List.length_cons, l2]) q2
theorem pda_nil : PDA X B [] 0 dNil := pda_of pa_nil sim_nil
theorem pda_cons {dr : DA} (ha : PD X B e da) (hr : PDA X B es n dr) (hs : starEach (e :: es) X.env = (false, eval e X.env) :: starEach es X.env := by rfl) : PDA X B (e :: es) (n + 1) (dCons da dr) := pda_of (pa_cons pe_w pa_w hs) (sim_cons ha hr)
def dTup (da : DA) : DE := fun σ S Q => da σ S fun xs S1 => Q (.tup xs) S1
theorem sim_tup {da : DA} {ta : TA} (hn : n ≤ sizeLine) (h : SimA K B n da ta) : SimE K B (dTup da) (tTup ta) := by
  intro F σ S σV H Q QV R q P
  refine h F σ S σV H _ _ R q fun xs vs F1 S1 H1 f1 r1 d1 l1 q1 => ⟨by rw [← d1.length, l1]; exact hn, fun p hp => ?_⟩
  exact P _ _ F1 S1 _ (f1.trans (fr_newD hp)) (r1.newD hp) (.tup (SqT.of upd_same) (d1.mono r1 (fr_newD hp))) q1
theorem pd_tup {x1} {da : DA} (h : PDA X B es n da) (hn : n ≤ sizeLine := by decide) : PD X B (.Tuple es x1 pos) (dTup da) := pd_of (pe_tup pa_w) (sim_tup hn h)
/-- a list that stays as it is, a list that will change -/
def dLst (da : DA) : DE := fun σ S Q => da σ S fun xs S1 => Q (.lst xs) S1
def dLstM (da : DA) : DE := fun σ S Q => da σ S fun xs S1 => ∀ p, S1 p = none → Q (.obj p) (put S1 p (.lst xs))
theorem sim_lst {da : DA} {ta : TA} (hn : n ≤ sizeLine) (h : SimA K B n da ta) : SimE K B (dLst da) (tLst ta) := by
  intro F σ S σV H Q QV R q P
  refine h F σ S σV H _ _ R q fun xs vs F1 S1 H1 f1 r1 d1 l1 q1 => ⟨by rw [← d1.length, l1]; exact hn, fun p hp => ?_⟩
  exact P _ _ _ S1 _ (f1.trans (fr_newF hp)) (r1.newF hp) (.lst upd_same (.inl rfl) (d1.mono r1 (fr_newF hp))) q1
theorem sim_lstM {da : DA} {ta : TA} (hn : n ≤ sizeLine) (h : SimA K B n da ta) : SimE K B (dLstM da) (tLst ta) := by
  intro F σ S σV H Q QV R q P
  refine h F σ S σV H _ _ R q fun xs vs F1 S1 H1 f1 r1 d1 l1 q1 => ⟨by rw [← d1.length, l1]; exact hn, fun p hp => ?_⟩
  exact P _ _ F1 _ _ (f1.trans (fr_new hp)) (r1.new (o := .lst xs) hp ⟨vs, upd_same, d1.mono r1 (fr_newD hp)⟩) (.obj p) (q1 p (r1.free hp))
theorem pd_lst {da : DA} (h : PDA X B es n da) (hn : n ≤ sizeLine := by decide) : PD X B (.List es pos) (dLst da) := pd_of (pe_lst pa_w) (sim_lst hn h)
theorem pd_lstM {da : DA} (h : PDA X B es n da) (hn : n ≤ sizeLine := by decide) : PD X B (.List es pos) (dLstM da) := pd_of (pe_lst pa_w) (sim_lstM hn h)
/-- a list of the store stays as it is from here on -/
def dFrz (da : DE) : DE := fun σ S Q => da σ S fun x S1 => match x with
  | .obj p => match S1 p with
    | some (.lst l) => Q (.lst l) (rid S1 p)
    | some (.dic l) => Q (.dic l) (rid S1 p)
    | _ => False
  | _ => False
theorem sim_frz (h : SimE K B d t) : SimE K B (dFrz d) t := by
  intro F σ S σV H Q QV R q P
  refine h F σ S σV H _ _ R q fun x v F1 S1 H1 f1 r1 d1 q1 => ?_
  cases d1 with
  | obj p =>
    dsimp only at q1
    cases e : S1 p with
    | none => rw [e] at q1; exact q1.elim
    | some o =>
      rw [e] at q1
      obtain ⟨_, ro⟩ := r1.ob p o e
      cases o with
      | lst l =>
        obtain ⟨vs, hv, rv⟩ := ro
        exact P _ _ _ _ H1 (f1.trans (fr_frz e)) (r1.frz e) (.lst hv (.inl rfl) (rv.mono r1 (fr_frz e))) q1
      | dic l =>
        obtain ⟨vs, hv, rv⟩ := ro
        exact P _ _ _ _ H1 (f1.trans (fr_frz e)) (r1.frz e) (.dic hv (.inl rfl) (rv.mono r1 (fr_frz e))) q1
      | ins c fs => exact q1.elim
  | _ => exact q1.elim
theorem pd_frz (h : PD X B e d) : PD X B e (dFrz d) := sim_frz h
end
end DL
/-! DL3: operators, subscripts, built-in calls over data. -/
namespace DL
open PySem PySem.Spec PyProof.Rows L2

def ofO {α : Type} (o : Option α) (k : α → Prop) : Prop := match o with
  | some v => k v
  | none => False
theorem ofO_some {α : Type} {v : α} {k : α → Prop} : ofO (some v) k = k v := rfl
theorem ofO_ex {α : Type} {o : Option α} {k : α → Prop} (h : ofO o k) : ∃ v, o = some v ∧ k v := by
  cases o with
  | none => exact h.elim
  | some v => exact ⟨v, rfl, h⟩
theorem ofO_of {α : Type} {o : Option α} {k : α → Prop} {v : α} (e : o = some v) (h : k v) : ofO o k := by rw [e]; exact h

def asL (S : Store) : D → Option (List D)
  | .lst l => some l
  | .scr l => some l
  | .obj p => match S p with
    | some (.lst l) => some l
    | _ => none
  | _ => none
def asT : D → Option (List D)
  | .tup l => some l
  | _ => none
def asK (S : Store) : D → Option (List (String × D))
  | .dic k => some k
  | .obj p => match S p with
    | some (.dic k) => some k
    | _ => none
  | _ => none
section
variable {K : PySem.W.Frag} {ca : Nat → Addr} {F F' : Addr → Prop} {S S' : Store} {H H' : Hp} {B : Bc} {Q : QE} {QV : VK} {d : D} {v : V} {l : List D}
theorem asL_rel (r : RelS K ca F S H) (q : RelD K F H d v) (e : asL S d = some l) : ∃ a vs, v = .ref a ∧ SqL K H a vs ∧ RelDs K F H l vs := by
  cases q with
  | lst h f q => cases e; exact ⟨_, _, rfl, SqL.of h, q⟩
  | scr h q => cases e; exact ⟨_, _, rfl, h.sq, q⟩
  | obj p =>
    have e : (match S p with | some (Ob.lst m) => some m | _ => none) = some l := e
    cases w : S p with
    | none => rw [w] at e; cases e
    | some o =>
      rw [w] at e
      cases o with
      | lst m =>
        cases e
        obtain ⟨_, vs, h, q⟩ := r.ob p _ w
        exact ⟨_, _, rfl, SqL.of h, q⟩
      | _ => cases e
  | _ => cases e
theorem asT_rel (q : RelD K F H d v) (e : asT d = some l) : ∃ a vs, v = .ref a ∧ SqT K H a vs ∧ RelDs K F H l vs := by
  cases q with
  | tup h q => cases e; exact ⟨_, _, rfl, h, q⟩
  | _ => cases e
theorem asK_rel {l : List (String × D)} (r : RelS K ca F S H) (q : RelD K F H d v) (e : asK S d = some l) : ∃ a vs, v = .ref a ∧ H a = some (.dK vs) ∧ RelKs K F H l vs := by
  cases q with
  | dic h f q => cases e; exact ⟨_, _, rfl, h, q⟩
  | obj p =>
    have e : (match S p with | some (Ob.dic m) => some m | _ => none) = some l := e
    cases w : S p with
    | none => rw [w] at e; cases e
    | some o =>
      rw [w] at e
      cases o with
      | dic m =>
        cases e
        obtain ⟨_, vs, h, q⟩ := r.ob p _ w
        exact ⟨_, _, rfl, h, q⟩
      | _ => cases e
  | _ => cases e
theorem atI_rel {vs : List V} (q : RelDs K F H l vs) {i : Int} {x : D} (e : atI l i = some x) : ∃ u, atI vs i = some u ∧ RelD K F H x u := by
  unfold atI at e ⊢
  rw [← q.length]
  cases w : ixN l.length i with
  | none => rw [w] at e; cases e
  | some j =>
    rw [w] at e
    exact q.get e
theorem ks_lookup {kd : List (String × D)} {kv : List (Key × V)} (q : RelKs K F H kd kv) (k : String) :
    (∀ x, kd.lookup k = some x → ∃ u, valV kv (.inr (Str.ofString k)) = some u ∧ RelD K F H x u) ∧ (kd.lookup k = none → valV kv (.inr (Str.ofString k)) = none) := by
  induction kd generalizing kv with
  | nil => cases q; exact ⟨fun x e => (by cases e), fun _ => rfl⟩
  | cons p r ih =>
    cases q with
    | @cons s d v _ vs h q =>
      by_cases e : k = s
      · subst e
        refine ⟨fun x ex => ?_, fun ex => ?_⟩
        · rw [List.lookup_cons_self] at ex
          cases ex
          exact ⟨v, valV_pos rfl, h⟩
        · rw [List.lookup_cons_self] at ex; cases ex
      · have ne : ¬ (Sum.inr (Str.ofString s) : Key) = Sum.inr (Str.ofString k) := fun z => e (ofS_inj (Sum.inr.inj z)).symm
        have nb : (k == s) = false := by simpa using e
        rw [List.lookup_cons, nb, valV_neg ne]
        exact ih q
theorem ks_len {kd : List (String × D)} {kv : List (Key × V)} (q : RelKs K F H kd kv) : kd.length = kv.length := by
  induction kd generalizing kv with
  | nil => cases q; rfl
  | cons p r ih => cases q with | cons h q => rw [List.length_cons, List.length_cons, ih q]

/-! ### texts, once more -/
theorem ofS_app (a b : String) : Str.ofString a ++ Str.ofString b = Str.ofString (a ++ b) := by
  show Str.append _ _ = _
  unfold Str.append
  rw [ofS_eq, ofS_eq, ofS_eq]
  simp
theorem ofS_len (a : String) : (Str.ofString a).length = a.length := by
  rw [ofS_eq]
  simp [Str.length, String.length_toList]
theorem ofS_cps (a : String) : (Str.ofString a).cps.toList = a.toList.map Char.toNat := by
  rw [ofS_eq]
theorem ofS_one (c : Char) : Str.ofString (String.singleton c) = ⟨#[c.toNat]⟩ := by
  rw [ofS_eq]
  simp

/-! ### + - * // % and the like -/
abbrev lim : Nat := 16777216
theorem lim_eq : sizeLine = lim := sizeLine_eq
def dAdd : DR2 := fun x y S Q => match x, y with
  | .int i, .int j => Q (.int (i + j)) S
  | .str a, .str b => a.length + b.length ≤ lim ∧ Q (.str (a ++ b)) S
  | .lst a, .lst b => a.length + b.length ≤ lim ∧ Q (.lst (a ++ b)) S
  | .tup a, .tup b => a ≠ [] ∧ a.length + b.length ≤ lim ∧ Q (.tup (a ++ b)) S
  | _, _ => False
theorem op_addD {X : Cx} : OpR X (binaryOp .Add) (fun x y H Q => (rI0 (fun i j => .int (i + j)) x y H Q) ∨ (∃ i j, x = .str i ∧ y = .str j ∧ i.length + j.length ≤ sizeLine ∧ Q (.str (i ++ j)) H) ∨ rCat x y H Q ∨ rCatT X.K x y H Q) :=
  OpR.or op_add (OpR.or op_add_str (OpR.or op_cat op_catT))
theorem vr_add : VR2 K ca dAdd (fun x y H Q => (rI0 (fun i j => .int (i + j)) x y H Q) ∨ (∃ i j, x = .str i ∧ y = .str j ∧ i.length + j.length ≤ sizeLine ∧ Q (.str (i ++ j)) H) ∨ rCat x y H Q ∨ rCatT K x y H Q) := by
  intro F S H x y v u Q QV r rx ry q P
  have hl := lim_eq
  cases rx with
  | int i => cases ry with
    | int j => exact .inl ⟨i, j, rfl, rfl, P.at r (.int _) q⟩
    | _ => exact q.elim
  | str a => cases ry with
    | str b =>
      obtain ⟨h, q⟩ := q
      refine .inr (.inl ⟨_, _, rfl, rfl, by rw [ofS_len, ofS_len, hl]; exact h, ?_⟩)
      rw [ofS_app]
      exact P.at r (.str _) q
    | _ => exact q.elim
  | lst h f q1 => cases ry with
    | lst h2 f2 q2 =>
      obtain ⟨h3, q⟩ := q
      refine .inr (.inr (.inl ⟨_, _, _, _, rfl, rfl, h, h2, by rw [← q1.length, ← q2.length, hl]; exact h3, fun p hp => ?_⟩))
      exact P _ _ _ _ _ (fr_newF hp) (r.newF hp) (.lst upd_same (.inl rfl) ((q1.append q2).mono r (fr_newF hp))) q
    | _ => exact q.elim
  | tup h q1 => cases ry with
    | tup h2 q2 =>
      obtain ⟨hn, h3, q⟩ := q
      refine .inr (.inr (.inr ⟨_, _, _, _, rfl, rfl, h, h2, fun z => ?_, by rw [← q1.length, ← q2.length, hl]; exact h3, fun z => ?_, fun z p hp => ?_⟩))
      · subst z
        cases q1
        exact hn rfl
      · subst z
        cases q2
        rw [List.append_nil] at q
        exact P.at r (.tup h q1) q
      · exact P _ _ _ _ _ (fr_newD hp) (r.newD hp) (.tup (SqT.of upd_same) ((q1.append q2).mono r (fr_newD hp))) q
    | _ => exact q.elim
  | _ => exact q.elim
def dInt2 (C : Int → Int → Prop) (g : Int → Int → D) : DR2 := fun x y S Q => match x, y with
  | .int i, .int j => C i j ∧ Q (g i j) S
  | _, _ => False
def dInt0 (g : Int → Int → D) : DR2 := fun x y S Q => match x, y with
  | .int i, .int j => Q (g i j) S
  | _, _ => False
theorem vr_int2 {C C' : Int → Int → Prop} {g : Int → Int → D} {g' : Int → Int → V} (hC : ∀ i j, C i j → C' i j) (hg : ∀ i j F H, RelD K F H (g i j) (g' i j)) : VR2 K ca (dInt2 C g) (rI C' g') := by
  intro F S H x y v u Q QV r rx ry q P
  cases rx with
  | int i => cases ry with
    | int j => exact ⟨i, j, rfl, rfl, hC i j q.1, P.at r (hg i j F H) q.2⟩
    | _ => exact q.elim
  | _ => exact q.elim
theorem vr_int0 {g : Int → Int → D} {g' : Int → Int → V} (hg : ∀ i j F H, RelD K F H (g i j) (g' i j)) : VR2 K ca (dInt0 g) (rI0 g') := by
  intro F S H x y v u Q QV r rx ry q P
  cases rx with
  | int i => cases ry with
    | int j => exact ⟨i, j, rfl, rfl, P.at r (hg i j F H) q⟩
    | _ => exact q.elim
  | _ => exact q.elim
abbrev dSub : DR2 := dInt0 fun i j => .int (i - j)
abbrev dMul : DR2 := dInt2 CMul fun i j => .int (i * j)
abbrev dDiv : DR2 := dInt2 CDiv fun i j => .int (i / j)
abbrev dMod : DR2 := dInt2 (fun _ j => 0 < j) fun i j => .int (i % j)
abbrev dLt : DR2 := dInt0 fun i j => .bl (decide (i < j))
abbrev dLe : DR2 := dInt0 fun i j => .bl (decide (i ≤ j))
abbrev dGt : DR2 := dInt0 fun i j => .bl (decide (j < i))
abbrev dGe : DR2 := dInt0 fun i j => .bl (decide (j ≤ i))
theorem vr_sub : VR2 K ca dSub (rI0 fun i j => .int (i - j)) := vr_int0 fun _ _ _ _ => .int _
theorem vr_mul : VR2 K ca dMul (rI CMul fun i j => .int (i * j)) := vr_int2 (fun _ _ h => h) fun _ _ _ _ => .int _
theorem vr_div : VR2 K ca dDiv (rI CDiv fun i j => .int (i / j)) := vr_int2 (fun _ _ h => h) fun _ _ _ _ => .int _
theorem vr_mod : VR2 K ca dMod (rI (fun _ j => 0 < j) fun i j => .int (i % j)) := vr_int2 (fun _ _ h => h) fun _ _ _ _ => .int _
theorem vr_lt : VR2 K ca dLt (rI0 fun i j => .bl (decide (i < j))) := vr_int0 fun _ _ _ _ => .bl _
theorem vr_le : VR2 K ca dLe (rI0 fun i j => .bl (decide (i ≤ j))) := vr_int0 fun _ _ _ _ => .bl _
theorem vr_gt : VR2 K ca dGt (rI0 fun i j => .bl (decide (j < i))) := vr_int0 fun _ _ _ _ => .bl _
theorem vr_ge : VR2 K ca dGe (rI0 fun i j => .bl (decide (j ≤ i))) := vr_int0 fun _ _ _ _ => .bl _
def dNeg : DR1 := fun x S Q => match x with
  | .int i => Q (.int (-i)) S
  | _ => False
theorem vr_neg : VR1 K ca dNeg (rU fun i => .int (-i)) := by
  intro F S H x v Q QV r rx q P
  cases rx with
  | int i => exact ⟨i, rfl, P.at r (.int _) q⟩
  | _ => exact q.elim

/-! ### == of data -/
mutual
def toP : D → PyData
  | .non => .none
  | .bl b => .bool b
  | .int i => .int i
  | .str s => .str (Str.ofString s)
  | .tup l => .tuple (toPs l)
  | .lst l => .list (toPs l)
  | _ => .none
def toPs : List D → List PyData
  | [] => []
  | d :: l => toP d :: toPs l
end
mutual
/-- no dicts, no things of the store in it -/
def plainD : D → Bool
  | .non => true
  | .bl _ => true
  | .int _ => true
  | .str _ => true
  | .tup l => plainDs l
  | .lst l => plainDs l
  | _ => false
def plainDs : List D → Bool
  | [] => true
  | d :: l => plainD d && plainDs l
end
mutual
def depD : D → Nat
  | .tup l => depDs l + 1
  | .lst l => depDs l + 1
  | _ => 0
def depDs : List D → Nat
  | [] => 0
  | d :: l => max (depD d) (depDs l)
end
mutual
def eqD : D → D → Bool
  | .non, .non => true
  | .bl a, .bl b => a == b
  | .bl a, .int b => (if a then 1 else 0) == b
  | .int a, .bl b => a == (if b then 1 else 0)
  | .int a, .int b => a == b
  | .str a, .str b => a == b
  | .tup a, .tup b => eqDs a b
  | .lst a, .lst b => eqDs a b
  | _, _ => false
def eqDs : List D → List D → Bool
  | [], [] => true
  | x :: xs, y :: ys => eqD x y && eqDs xs ys
  | _, _ => false
end
end

mutual
theorem eqv_toP : ∀ x y : D, plainD x = true → plainD y = true → PyData.eqv (toP x) (toP y) = eqD x y
  | .non, y, _, hy => by cases y <;> first | rfl | cases hy
  | .bl b, y, _, hy => by cases y <;> first | rfl | cases hy
  | .int b, y, _, hy => by cases y <;> first | rfl | cases hy
  | .str b, y, _, hy => by
    cases y <;> first | rfl | cases hy | skip
    rename_i c
    show ((Str.ofString b == Str.ofString c) : Bool) = (b == c)
    by_cases e : b = c
    · subst e; simp
    · have e' : ¬ Str.ofString b = Str.ofString c := fun z => e (ofS_inj z)
      rw [beq_eq_false_iff_ne.mpr e, beq_eq_false_iff_ne.mpr e']
  | .tup l, y, hx, hy => by
    cases y with
    | tup m => exact eqvs_toP l m hx hy
    | _ => first | rfl | cases hy
  | .lst l, y, hx, hy => by
    cases y with
    | lst m => exact eqvs_toP l m hx hy
    | _ => first | rfl | cases hy
  | .dic _, _, hx, _ => by cases hx
  | .scr _, _, hx, _ => by cases hx
  | .obj _, _, hx, _ => by cases hx
  | .ty _, _, hx, _ => by cases hx
theorem eqvs_toP : ∀ xs ys : List D, plainDs xs = true → plainDs ys = true → PyData.eqvAll (toPs xs) (toPs ys) = eqDs xs ys
  | [], [], _, _ => rfl
  | [], _ :: _, _, _ => rfl
  | _ :: _, [], _, _ => rfl
  | x :: xs, y :: ys, hx, hy => by
    have hx' := Bool.and_eq_true_iff.mp (show (plainD x && plainDs xs) = true from hx)
    have hy' := Bool.and_eq_true_iff.mp (show (plainD y && plainDs ys) = true from hy)
    show (PyData.eqv (toP x) (toP y) && PyData.eqvAll (toPs xs) (toPs ys)) = (eqD x y && eqDs xs ys)
    rw [eqv_toP x y hx'.1 hy'.1, eqvs_toP xs ys hx'.2 hy'.2]
end
theorem strOk_ofS (s : String) : PyData.strOk (Str.ofString s) = true := by
  unfold PyData.strOk
  rw [ofS_eq]
  simp only [List.all_toArray, List.all_map, List.all_eq_true]
  intro c _
  have h := c.valid
  simp only [UInt32.isValidChar, Nat.isValidChar] at h
  show decide (c.val.toNat < 0x110000) = true
  exact decide_eq_true (by omega)
mutual
theorem canLay_toP : ∀ x : D, plainD x = true → (toP x).canLay0 = true
  | .non, _ => rfl
  | .bl _, _ => rfl
  | .int _, _ => rfl
  | .str s, _ => strOk_ofS s
  | .tup l, h => canLays_toP l h
  | .lst l, h => canLays_toP l h
  | .dic _, h => by cases h
  | .scr _, h => by cases h
  | .obj _, h => by cases h
  | .ty _, h => by cases h
theorem canLays_toP : ∀ xs : List D, plainDs xs = true → PyData.canLayAll0 (toPs xs) = true
  | [], _ => rfl
  | x :: xs, h => by
    have h' := Bool.and_eq_true_iff.mp (show (plainD x && plainDs xs) = true from h)
    show ((toP x).canLay0 && PyData.canLayAll0 (toPs xs)) = true
    rw [canLay_toP x h'.1, canLays_toP xs h'.2]
    rfl
end
mutual
theorem depth_toP : ∀ x : D, (toP x).depth = depD x
  | .non => rfl
  | .bl _ => rfl
  | .int _ => rfl
  | .str s => rfl
  | .tup l => congrArg (· + 1) (depths_toP l)
  | .lst l => congrArg (· + 1) (depths_toP l)
  | .dic _ => rfl
  | .scr _ => rfl
  | .obj _ => rfl
  | .ty _ => rfl
theorem depths_toP : ∀ xs : List D, PyData.depthAll (toPs xs) = depDs xs
  | [] => rfl
  | x :: xs => by
    show max (toP x).depth (PyData.depthAll (toPs xs)) = max (depD x) (depDs xs)
    rw [depth_toP x, depths_toP xs]
end
def okD (x : D) : Bool := plainD x && decide (depD x ≤ 64)
theorem shaped_toP {x : D} (h : okD x = true) : SeqAt.shaped (toP x) = true := by
  have h' := Bool.and_eq_true_iff.mp h
  unfold SeqAt.shaped
  rw [canLay_toP x h'.1, depth_toP]
  exact h'.2
section
variable {K : PySem.W.Frag} {ca : Nat → Addr} {F F' : Addr → Prop} {S S' : Store} {H H' : Hp} {B : Bc} {Q : QE} {QV : VK} {d : D} {v : V} {l : List D}
mutual
theorem dp_toP : ∀ {d : D} {v : V}, RelD K F H d v → plainD d = true → Dp K H v (toP d)
  | _, _, .non, _ => .non
  | _, _, .bl b, _ => .bl b
  | _, _, .int i, _ => .int i
  | _, _, .str s, _ => .str _
  | _, _, .tup h q, p => .tup h (dps_toP q p)
  | _, _, .lst h f q, p => .lst (SqL.of h) (dps_toP q p)
  | _, _, .dic _ _ _, p => by cases p
  | _, _, .scr _ _, p => by cases p
  | _, _, .obj _, p => by cases p
  | _, _, .ty _, p => by cases p
theorem dps_toP : ∀ {d : List D} {v : List V}, RelDs K F H d v → plainDs d = true → DpAll K H v (toPs d)
  | _, _, .nil, _ => .nil
  | _, _, .cons h q, p =>
    have p' := Bool.and_eq_true_iff.mp (show (plainD _ && plainDs _) = true from p)
    .cons (dp_toP h p'.1) (dps_toP q p'.2)
end
/-- what a comparison sees of a list that may change -/
def sees (S : Store) : D → D
  | .obj p => match S p with
    | some (.lst l) => .lst l
    | _ => .obj p
  | x => x
theorem dp_sees (r : RelS K ca F S H) (h : RelD K F H d v) (p : plainD (sees S d) = true) : Dp K H v (toP (sees S d)) := by
  cases h with
  | obj a =>
    cases e : S a with
    | none => rw [show sees S (.obj a) = .obj a by simp [sees, e]] at p; cases p
    | some o =>
      cases o with
      | lst l =>
        rw [show sees S (.obj a) = .lst l by simp [sees, e]] at p ⊢
        obtain ⟨_, vs, hv, rv⟩ := r.ob a _ e
        exact .lst (SqL.of hv) (dps_toP rv p)
      | dic l => rw [show sees S (.obj a) = .obj a by simp [sees, e]] at p; cases p
      | ins c l => rw [show sees S (.obj a) = .obj a by simp [sees, e]] at p; cases p
  | non => exact dp_toP (F := F) .non p
  | bl b => exact dp_toP (F := F) (.bl b) p
  | int i => exact dp_toP (F := F) (.int i) p
  | str i => exact dp_toP (F := F) (.str i) p
  | tup h q => exact dp_toP (.tup h q) p
  | lst h f q => exact dp_toP (.lst h f q) p
  | dic _ _ _ => cases p
  | scr _ _ => cases p
  | ty _ => cases p
def dEq : DR2 := fun x y S Q => okD (sees S x) = true ∧ okD (sees S y) = true ∧ Q (.bl (eqD (sees S x) (sees S y))) S
def dNe : DR2 := fun x y S Q => okD (sees S x) = true ∧ okD (sees S y) = true ∧ Q (.bl (!eqD (sees S x) (sees S y))) S
theorem vr_eq : VR2 K ca dEq (rEqD K) := by
  intro F S H x y v u Q QV r rx ry q P
  obtain ⟨hx, hy, q⟩ := q
  have px := (Bool.and_eq_true_iff.mp hx).1
  have py := (Bool.and_eq_true_iff.mp hy).1
  refine ⟨toP (sees S x), toP (sees S y), dp_sees r rx px, dp_sees r ry py, shaped_toP hx, shaped_toP hy, ?_⟩
  rw [eqv_toP _ _ px py]
  exact P.at r (.bl _) q
theorem vr_ne : VR2 K ca dNe (rNeD K) := by
  intro F S H x y v u Q QV r rx ry q P
  obtain ⟨hx, hy, q⟩ := q
  have px := (Bool.and_eq_true_iff.mp hx).1
  have py := (Bool.and_eq_true_iff.mp hy).1
  refine ⟨toP (sees S x), toP (sees S y), dp_sees r rx px, dp_sees r ry py, shaped_toP hx, shaped_toP hy, ?_⟩
  rw [eqv_toP _ _ px py]
  exact P.at r (.bl _) q
/-- is None -/
def isNonD : D → Bool
  | .non => true
  | _ => false
def dIs : DR2 := fun x y S Q => match y with
  | .non => Q (.bl (isNonD x)) S
  | _ => False
def dIsNot : DR2 := fun x y S Q => match y with
  | .non => Q (.bl (!isNonD x)) S
  | _ => False
theorem isNon_rel (rx : RelD K F H d v) : decide (v = .non) = isNonD d := by
  cases rx <;> first | rfl | exact decide_eq_false (fun z => by cases z)
theorem vr_is : VR2 K ca dIs (fun x y H Q => y = .non ∧ Q (.bl (decide (x = .non))) H) := by
  intro F S H x y v u Q QV r rx ry q P
  cases ry with
  | non =>
    refine ⟨rfl, ?_⟩
    rw [isNon_rel rx]
    exact P.at r (.bl _) q
  | _ => exact q.elim
theorem vr_isnot : VR2 K ca dIsNot (fun x y H Q => y = .non ∧ Q (.bl (!decide (x = .non))) H) := by
  intro F S H x y v u Q QV r rx ry q P
  cases ry with
  | non =>
    refine ⟨rfl, ?_⟩
    rw [isNon_rel rx]
    exact P.at r (.bl _) q
  | _ => exact q.elim

/-! ### in -/
def flatD : D → Bool
  | .non => true
  | .bl _ => true
  | .int _ => true
  | .str _ => true
  | _ => false
theorem flat_rel (rx : RelD K F H d v) (h : flatD d = true) : flatV v = true := by
  cases rx <;> first | rfl | cases h
theorem flats_rel : ∀ {l : List D} {vs : List V}, RelDs K F H l vs → l.all flatD = true → vs.all flatV = true
  | _, _, .nil, _ => rfl
  | _, _, .cons h q, p => by
    rw [List.all_cons, Bool.and_eq_true] at p ⊢
    exact ⟨flat_rel h p.1, flats_rel q p.2⟩
theorem eqV_rel {x y : D} {v u : V} (rx : RelD K F H x v) (ry : RelD K F H y u) (hx : flatD x = true) (hy : flatD y = true) : eqV v u = eqD x y := by
  cases rx with
  | str b =>
    cases ry with
    | str c =>
      show ((Str.ofString b == Str.ofString c) : Bool) = (b == c)
      by_cases e : b = c
      · subst e; simp
      · have e' : ¬ Str.ofString b = Str.ofString c := fun z => e (ofS_inj z)
        rw [beq_eq_false_iff_ne.mpr e, beq_eq_false_iff_ne.mpr e']
    | _ => first | rfl | cases hy
  | _ => first | (cases ry <;> first | rfl | cases hy) | cases hx
def inD (x : D) (l : List D) : Bool := l.any fun y => eqD y x
theorem inV_rel {x : D} {v : V} (rx : RelD K F H x v) (hx : flatD x = true) : ∀ {l : List D} {vs : List V}, RelDs K F H l vs → l.all flatD = true → inV v vs = inD x l
  | _, _, .nil, _ => rfl
  | _, _, .cons h q, p => by
    rw [List.all_cons, Bool.and_eq_true] at p
    show (eqV _ v || inV v _) = (eqD _ x || inD x _)
    rw [eqV_rel h rx p.1 hx, inV_rel rx hx q p.2]
def inR (neg : Bool) (b : Bool) : Bool := if neg then !b else b
def dIn (neg : Bool) : DR2 := fun x y S Q => match asK S y with
  | some kd => match x with
    | .str k => Q (.bl (inR neg (kd.lookup k).isSome)) S
    | _ => False
  | none => match y with
    | .str t => match x with
      | .str c => match c.toList with
        | [ch] => Q (.bl (inR neg (decide (ch ∈ t.toList)))) S
        | _ => False
      | _ => False
    | .tup l => flatD x = true ∧ l.all flatD = true ∧ Q (.bl (inR neg (inD x l))) S
    | _ => match asL S y with
      | some l => flatD x = true ∧ l.all flatD = true ∧ Q (.bl (inR neg (inD x l))) S
      | none => False
def rInK (neg : Bool) : R2 := fun y x H Q => ∃ a o, x = .ref a ∧ DGet H a y o ∧ Q (.bl (inR neg o.isSome)) H
theorem op_inK {X : Cx} (hu : X.A.units + 1 < cLine) : OpR X (compareOp .In) (rInK false) := by
  intro pins s σ H x y v u Q I rx ry h
  obtain ⟨a, o, rfl, g, q⟩ := h
  obtain rfl : u = Value.ref a := ry
  exact d_in hu I g rx fun s1 I1 => ⟨.bl o.isSome, H, I1, rfl, q⟩
theorem op_ninK {X : Cx} (hu : X.A.units + 1 < cLine) : OpR X (compareOp .NotIn) (rInK true) := by
  intro pins s σ H x y v u Q I rx ry h
  obtain ⟨a, o, rfl, g, q⟩ := h
  obtain rfl : u = Value.ref a := ry
  exact d_notIn hu I g rx fun s1 I1 => ⟨.bl (!o.isSome), H, I1, rfl, q⟩
def rInC (neg : Bool) : R2 := fun x y H Q => ∃ (c : Nat) (z : Str), x = .str ⟨#[c]⟩ ∧ y = .str z ∧ Q (.bl (inR neg (decide (c ∈ z.cps.toList)))) H
theorem op_inC {X : Cx} : OpR X (compareOp .In) (rInC false) := op_in_sign
theorem op_ninC {X : Cx} : OpR X (compareOp .NotIn) (rInC true) := op_notIn_sign
theorem op_inD {X : Cx} (hu : X.A.units + 1 < cLine) : OpR X (compareOp .In) (fun x y H Q => rInK false x y H Q ∨ rInC false x y H Q ∨ rIn X.K false x y H Q) := OpR.or (op_inK hu) (OpR.or op_inC op_in_seq)
theorem op_ninD {X : Cx} (hu : X.A.units + 1 < cLine) : OpR X (compareOp .NotIn) (fun x y H Q => rInK true x y H Q ∨ rInC true x y H Q ∨ rIn X.K true x y H Q) := OpR.or (op_ninK hu) (OpR.or op_ninC op_notIn_seq)
theorem mem_nat {c : Char} {l : List Char} : c.toNat ∈ l.map Char.toNat ↔ c ∈ l := by
  rw [List.mem_map]
  exact ⟨fun ⟨x, h, e⟩ => charNat_inj e ▸ h, fun h => ⟨c, h, rfl⟩⟩
theorem dIn_seq {neg : Bool} {x : D} {v u : V} {a : Addr} {vs : List V} {l : List D} (r : RelS K ca F S H) (rx : RelD K F H x v) (e : u = .ref a) (hs : SqL K H a vs ∨ SqT K H a vs) (ql : RelDs K F H l vs)
    (h : flatD x = true ∧ l.all flatD = true ∧ Q (.bl (inR neg (inD x l))) S) (P : PostE K ca F S H Q QV) : rIn K neg v u H QV := by
  refine ⟨a, vs, e, hs, flat_rel rx h.1, flats_rel ql h.2.1, ?_⟩
  rw [inV_rel rx h.1 ql h.2.1]
  exact P.at r (.bl _) h.2.2
theorem vr_in (neg : Bool) : VR2 K ca (dIn neg) (fun x y H Q => rInK neg x y H Q ∨ rInC neg x y H Q ∨ rIn K neg x y H Q) := by
  intro F S H x y v u Q QV r rx ry q P
  unfold dIn at q
  cases ek : asK S y with
  | some kd =>
    rw [ek] at q
    obtain ⟨a, vs, eu, hd, qk⟩ := asK_rel r ry ek
    cases rx with
    | str k =>
      left
      refine ⟨a, valV vs (.inr (Str.ofString k)), eu, DGet.k (k := .inr (Str.ofString k)) hd, ?_⟩
      have e2 : (valV vs (.inr (Str.ofString k))).isSome = (kd.lookup k).isSome := by
        cases w : kd.lookup k with
        | none => rw [(ks_lookup qk k).2 w]; rfl
        | some z => obtain ⟨u', e', _⟩ := (ks_lookup qk k).1 z w; rw [e']; rfl
      rw [e2]
      exact P.at r (.bl _) q
    | _ => exact q.elim
  | none =>
    rw [ek] at q
    cases hy : y with
    | tup l =>
      subst hy
      obtain ⟨a, vs, eu, hs, ql⟩ := asT_rel ry rfl
      exact .inr (.inr (dIn_seq r rx eu (.inr hs) ql q P))
    | str t =>
      subst hy
      cases ry
      cases rx with
      | str c =>
        right; left
        dsimp only at q
        split at q
        · rename_i ch hc
          have ec : c = String.singleton ch := by
            rw [← String.ofList_toList (s := c), hc]
            rfl
          refine ⟨ch.toNat, Str.ofString t, by rw [ec, ofS_one], rfl, ?_⟩
          have e3 : decide (ch.toNat ∈ (Str.ofString t).cps.toList) = decide (ch ∈ t.toList) := by
            rw [ofS_cps]
            exact decide_eq_decide.mpr mem_nat
          rw [e3]
          exact P.at r (.bl _) q
        · exact q.elim
      | _ => exact q.elim
    | lst l =>
      subst hy
      obtain ⟨a, vs, eu, hs, ql⟩ := asL_rel r ry rfl
      exact .inr (.inr (dIn_seq r rx eu (.inl hs) ql q P))
    | scr l =>
      subst hy
      obtain ⟨a, vs, eu, hs, ql⟩ := asL_rel r ry rfl
      exact .inr (.inr (dIn_seq r rx eu (.inl hs) ql q P))
    | obj p =>
      subst hy
      dsimp only at q
      cases w : asL S (.obj p) with
      | none => rw [w] at q; exact q.elim
      | some l =>
        rw [w] at q
        obtain ⟨a, vs, eu, hs, ql⟩ := asL_rel r ry w
        exact .inr (.inr (dIn_seq r rx eu (.inl hs) ql q P))
    | dic k => subst hy; cases ek
    | non => subst hy; exact q.elim
    | bl b => subst hy; exact q.elim
    | int b => subst hy; exact q.elim
    | ty b => subst hy; exact q.elim

/-! ### x[i] -/
def dIx : DR2 := fun x y S Q => match y with
  | .int i => match x with
    | .tup l => ofO (atI l i) fun z => Q z S
    | .str t => t.length ≤ lim ∧ ofO (atI t.toList i) fun c => Q (.str (String.singleton c)) S
    | _ => ofO (asL S x) fun l => ofO (atI l i) fun z => Q z S
  | .str k => ofO (asK S x) fun kd => ofO (kd.lookup k) fun z => Q z S
  | _ => False
def rIxK : R2 := fun x y H Q => ∃ a v, x = .ref a ∧ DGet H a y (some v) ∧ Q v H
theorem ix_dict {X : Cx} (hu : X.A.units + 1 < cLine) : IxR X rIxK := by
  intro value slice pins s σ H x y v u Q I rx ry h hs
  obtain ⟨a, w, rfl, g, q⟩ := h
  obtain rfl : v = Value.ref a := rx
  exact tail_any (dict_typeIs I g) PySem.F.slot_dict_getitem.lookup (d_getItem hu I g ry fun w' s1 I1 rw' => ⟨w, H, I1, rw', q⟩) hs
theorem ix_D {X : Cx} (hu : X.A.units + 1 < cLine) : IxR X (fun x y H Q => rIx X.K x y H Q ∨ rIxK x y H Q) := IxR.or ix_seq (ix_dict hu)
theorem atI_map {α β : Type} {f : α → β} {l : List α} {i : Int} {x : α} (e : atI l i = some x) : atI (l.map f) i = some (f x) := by
  unfold atI at e ⊢
  rw [List.length_map]
  cases w : ixN l.length i with
  | none => rw [w] at e; cases e
  | some j =>
    rw [w] at e
    have e' : l[j]? = some x := e
    show (l.map f)[j]? = some (f x)
    rw [List.getElem?_map, e']
    rfl
theorem vr_ix : VR2 K ca dIx (fun x y H Q => rIx K x y H Q ∨ rIxK x y H Q) := by
  intro F S H x y v u Q QV r rx ry q P
  cases ry with
  | int i =>
    left
    have seq : ∀ {l : List D}, asL S x = some l → (ofO (atI l i) fun z => Q z S) → rIx K v (.int i) H QV := fun {l} e q => by
      obtain ⟨z, ez, q⟩ := ofO_ex q
      obtain ⟨a, vs, ev, hs, ql⟩ := asL_rel r rx e
      obtain ⟨w, ew, rw'⟩ := atI_rel ql ez
      exact .inl ⟨a, vs, i, w, ev, rfl, hs, ew, P.at r rw' q⟩
    cases hx : x with
    | tup l =>
      subst hx
      obtain ⟨z, ez, q⟩ := ofO_ex q
      obtain ⟨a, vs, ev, hs, ql⟩ := asT_rel rx rfl
      obtain ⟨w, ew, rw'⟩ := atI_rel ql ez
      exact .inr (.inl ⟨a, vs, i, w, ev, rfl, hs, ew, P.at r rw' q⟩)
    | str t =>
      subst hx
      cases rx
      obtain ⟨hl, q⟩ := q
      obtain ⟨c, ec, q⟩ := ofO_ex q
      refine .inr (.inr ⟨_, i, c.toNat, rfl, rfl, by rw [ofS_len, lim_eq]; exact hl, ?_, ?_⟩)
      · rw [ofS_cps]
        exact atI_map ec
      · rw [← ofS_one]
        exact P.at r (.str _) q
    | lst l => subst hx; exact seq rfl q
    | scr l => subst hx; exact seq rfl q
    | obj p =>
      subst hx
      obtain ⟨l, e, q⟩ := ofO_ex q
      exact seq e q
    | dic k => subst hx; exact q.elim
    | non => subst hx; exact q.elim
    | bl b => subst hx; exact q.elim
    | int b => subst hx; exact q.elim
    | ty b => subst hx; exact q.elim
  | str k =>
    right
    obtain ⟨kd, ek, q⟩ := ofO_ex q
    obtain ⟨z, ez, q⟩ := ofO_ex q
    obtain ⟨a, vs, ev, hd, qk⟩ := asK_rel r rx ek
    obtain ⟨w, ew, rw'⟩ := (ks_lookup qk k).1 z ez
    refine ⟨a, w, ev, ?_, P.at r rw' q⟩
    rw [← ew]
    exact DGet.k (k := .inr (Str.ofString k)) hd
  | _ => exact q.elim
end
end DL
/-! DL4: slices, truth, calls, fields over data. -/
namespace DL
open PySem PySem.Spec PyProof.Rows L2

section
variable {K : PySem.W.Frag} {ca : Nat → Addr} {F F' : Addr → Prop} {S S' : Store} {H H' : Hp} {B : Bc} {Q : QE} {QV : VK} {d : D} {v : V} {l : List D} {X : Cx} {a b e o : Expr} {es : List Expr} {da db dd : DE} {ta tb : TE} {pos p2 : Pos} {n : Nat} {σ : DEnv} {σV : L2.St}
theorem pd_ix (hu : X.A.units + 1 < cLine) (ha : PD X B a da) (hb : PD X B b db) (hs : PlainIx b := by exact fun _ _ => rfl) : PD X B (.Subscript a b pos) (dOp dIx da db) := pd_of (pe_ix (ix_D hu) pe_w pe_w hs) (sim_op vr_ix ha hb)

/-! ### slices -/
abbrev DO := DEnv → Store → (Option Int → Store → Prop) → Prop
def PostO (K : PySem.W.Frag) (ca : Nat → Addr) (F : Addr → Prop) (S : Store) (H : Hp) (Q : Option Int → Store → Prop) (QV : Option Int → Hp → Prop) : Prop :=
  ∀ x F' S' H', Fr F S H F' S' H' → RelS K ca F' S' H' → Q x S' → QV x H'
def SimO (K : PySem.W.Frag) (B : Bc) (d : DO) (t : TO) : Prop := ∀ F σ S σV H Q QV, Rel K B F σ S σV H → d σ S Q → PostO K B.ca F S H Q QV → t σV H QV
def dNoPart : DO := fun _ S Q => Q none S
def dPart (d : DE) : DO := fun σ S Q => d σ S fun x S1 => match x with
  | .int i => Q (some i) S1
  | _ => False
theorem sim_noPart : SimO K B dNoPart tNoPart := fun F σ S σV H Q QV R q P => P none F S H Fr.refl R.st q
theorem sim_part (h : SimE K B da ta) : SimO K B (dPart da) (tPart ta) := by
  intro F σ S σV H Q QV R q P
  refine h F σ S σV H _ _ R q fun x v F1 S1 H1 f1 r1 d1 q1 => ?_
  cases d1 with
  | int i => exact ⟨i, rfl, P (some i) F1 S1 H1 f1 r1 q1⟩
  | _ => exact q1.elim
def PDO (X : Cx) (B : Bc) (e : Option Expr) (d : DO) : Prop := ∃ t, PO X e t ∧ SimO X.K B d t
theorem pdo_none : PDO X B none dNoPart := ⟨_, po_none, sim_noPart⟩
theorem pdo_some (h : PD X B e da) : PDO X B (some e) (dPart da) := ⟨_, po_some pe_w, sim_part h⟩
def cutD {α : Type} (xs : List α) (lo hi : Option Int) : List α := (xs.drop (HT.sIx xs.length 0 lo)).take (HT.sIx xs.length xs.length hi - HT.sIx xs.length 0 lo)
theorem cut_rel {vs : List V} (q : RelDs K F H l vs) (lo hi : Option Int) : RelDs K F H (cutD l lo hi) (cutV vs lo hi) := by
  unfold cutD cutV
  rw [q.length]
  exact (q.drop _).take _
abbrev DSl := D → Option Int → Option Int → Store → QE → Prop
/-- of a tuple, never the whole of it; of a list, a new one that stays -/
def slD : DSl := fun x lo hi S Q => match x with
  | .tup l => ¬ (HT.sIx l.length 0 lo = 0 ∧ HT.sIx l.length l.length hi = l.length) ∧ Q (.tup (cutD l lo hi)) S
  | _ => ofO (asL S x) fun l => Q (.lst (cutD l lo hi)) S
def slM : DSl := fun x lo hi S Q => ofO (asL S x) fun l => ∀ p, S p = none → Q (.obj p) (put S p (.lst (cutD l lo hi)))
def VRS (K : PySem.W.Frag) (ca : Nat → Addr) (dr : DSl) (r : V → Option Int → Option Int → Hp → VK → Prop) : Prop :=
  ∀ F S H x v lo hi Q QV, RelS K ca F S H → RelD K F H x v → dr x lo hi S Q → PostE K ca F S H Q QV → r v lo hi H QV
theorem vr_slL (r : RelS K ca F S H) {x : D} {v : V} (rx : RelD K F H x v) {lo hi : Option Int} (q : ofO (asL S x) fun l => Q (.lst (cutD l lo hi)) S) (P : PostE K ca F S H Q QV) : rSlL K v lo hi H QV := by
  obtain ⟨l, e, q⟩ := ofO_ex q
  obtain ⟨a, vs, ev, hs, ql⟩ := asL_rel r rx e
  refine ⟨a, vs, ev, hs, fun p hp => ?_⟩
  exact P _ _ _ _ _ (fr_newF hp) (r.newF hp) (.lst upd_same (.inl rfl) ((cut_rel ql lo hi).mono r (fr_newF hp))) q
theorem vr_sl : VRS K ca slD (fun x lo hi H Q => rSlL K x lo hi H Q ∨ rSlT K x lo hi H Q) := by
  intro F S H x v lo hi Q QV r rx q P
  cases hx : x with
  | tup l =>
    subst hx
    obtain ⟨hn, q⟩ := q
    obtain ⟨a, vs, ev, hs, ql⟩ := asT_rel rx rfl
    refine .inr ⟨a, vs, ev, hs, by rw [← ql.length]; exact hn, fun p hp => ?_⟩
    exact P _ _ _ _ _ (fr_newD hp) (r.newD hp) (.tup (SqT.of upd_same) ((cut_rel ql lo hi).mono r (fr_newD hp))) q
  | lst l => subst hx; exact .inl (vr_slL r rx q P)
  | scr l => subst hx; exact .inl (vr_slL r rx q P)
  | obj p => subst hx; exact .inl (vr_slL r rx q P)
  | _ => subst hx; exact q.elim
theorem vr_slM : VRS K ca slM (fun x lo hi H Q => rSlL K x lo hi H Q ∨ rSlT K x lo hi H Q) := by
  intro F S H x v lo hi Q QV r rx q P
  obtain ⟨l, e, q⟩ := ofO_ex q
  obtain ⟨a, vs, ev, hs, ql⟩ := asL_rel r rx e
  refine .inl ⟨a, vs, ev, hs, fun p hp => ?_⟩
  exact P _ _ _ _ _ (fr_new (o := .lst (cutD l lo hi)) hp) (r.new hp ⟨_, upd_same, (cut_rel ql lo hi).mono r (fr_newD hp)⟩) (.obj p) (q p (r.free hp))
def dSl (dr : DSl) (da : DE) (dl dh : DO) : DE := fun σ S Q => da σ S fun x S1 => dl σ S1 fun lo S2 => dh σ S2 fun hi S3 => dr x lo hi S3 Q
theorem sim_sl {dr : DSl} {r : V → Option Int → Option Int → Hp → VK → Prop} (hr : VRS K B.ca dr r) {dl dh : DO} {tl th : TO} (ha : SimE K B da ta) (hl : SimO K B dl tl) (hh : SimO K B dh th) : SimE K B (dSl dr da dl dh) (tSl r ta tl th) := by
  intro F σ S σV H Q QV R q P
  refine ha F σ S σV H _ _ R q fun x v F1 S1 H1 f1 r1 d1 q1 => ?_
  refine hl F1 σ S1 σV H1 _ _ (R.step f1 r1) q1 fun lo F2 S2 H2 f2 r2 q2 => ?_
  refine hh F2 σ S2 σV H2 _ _ (R.step (f1.trans f2) r2) q2 fun hi F3 S3 H3 f3 r3 q3 => ?_
  exact hr F3 S3 H3 x v lo hi Q QV r3 (d1.mono r1 (f2.trans f3)) q3 (P.step (f1.trans (f2.trans f3)))
theorem pd_sl {lo hi : Option Expr} {dl dh : DO} (ha : PD X B e da) (hl : PDO X B lo dl) (hh : PDO X B hi dh) : PD X B (.Subscript e (.Slice lo hi none p2) pos) (dSl slD da dl dh) := by
  obtain ⟨tl, pl, sl⟩ := hl
  obtain ⟨th, ph, sh⟩ := hh
  exact pd_of (pe_slice (SlR.or sl_list sl_tup) pe_w pl ph) (sim_sl vr_sl ha sl sh)
theorem pd_slM {lo hi : Option Expr} {dl dh : DO} (ha : PD X B e da) (hl : PDO X B lo dl) (hh : PDO X B hi dh) : PD X B (.Subscript e (.Slice lo hi none p2) pos) (dSl slM da dl dh) := by
  obtain ⟨tl, pl, sl⟩ := hl
  obtain ⟨th, ph, sh⟩ := hh
  exact pd_of (pe_slice (SlR.or sl_list sl_tup) pe_w pl ph) (sim_sl vr_slM ha sl sh)

/-! ### truth -/
def truD (S : Store) (x : D) : Option Bool := match x with
  | .non => some false
  | .bl b => some b
  | .int i => some (i != 0)
  | .tup l => some (!l.isEmpty)
  | .str s => if s.length ≤ lim then some ((s.length : Int) != 0) else none
  | _ => match asL S x with
    | some l => some (!l.isEmpty)
    | none => match asK S x with
      | some k => some (!k.isEmpty)
      | none => none
def dTru (d : DE) : DT := fun σ S Q => d σ S fun x S1 => ofO (truD S1 x) fun k => Q k S1
theorem isEmpty_rel {α β : Type} {xs : List α} {ys : List β} (h : xs.length = ys.length) : (!xs.isEmpty) = !ys.isEmpty := by
  cases xs <;> cases ys <;> first | rfl | cases h
theorem truD_rel (r : RelS K ca F S H) (rx : RelD K F H d v) {k : Bool} (e : truD S d = some k) : TruV K v H k := by
  have seq : ∀ {p : Addr}, v = .ref p → (match asL S d with | some l => some (!l.isEmpty) | none => match asK S d with | some k => some (!k.isEmpty) | none => none) = some k → TruV K v H k := fun {p} ev e => by
    cases w : asL S d with
    | some l =>
      rw [w] at e
      cases e
      obtain ⟨a, vs, ev', hs, ql⟩ := asL_rel r rx w
      subst ev'
      exact .inl ⟨vs, hs, isEmpty_rel ql.length⟩
    | none =>
      rw [w] at e
      cases w2 : asK S d with
      | some kd =>
        rw [w2] at e
        cases e
        obtain ⟨a, vs, ev', hs, ql⟩ := asK_rel r rx w2
        subst ev'
        exact .inr (.inr ⟨vs, hs, isEmpty_rel (ks_len ql)⟩)
      | none => rw [w2] at e; cases e
  cases rx with
  | non => cases e; rfl
  | bl b => cases e; rfl
  | int i => cases e; rfl
  | str s =>
    have e : (if s.length ≤ lim then some ((s.length : Int) != 0) else none) = some k := e
    by_cases hl : s.length ≤ lim
    · rw [if_pos hl] at e
      cases e
      exact ⟨by rw [ofS_len, lim_eq]; exact hl, by rw [ofS_len]⟩
    · rw [if_neg hl] at e; cases e
  | tup h q =>
    cases e
    exact .inr (.inl ⟨_, h, isEmpty_rel q.length⟩)
  | lst h f q => exact seq rfl e
  | dic h f q => exact seq rfl e
  | scr h q => exact seq rfl e
  | obj p => exact seq rfl e
  | ty n => cases e
theorem pdt_tru (h : PD X B a da) (he : ∀ whole, isTrue a X.env whole = (do let v ← whole; standAt a.pos; holding [v] (truthy v)) := by intro _; rfl) : PDT X B a (dTru da) := by
  refine pdt_of (pt_truth pe_w he) ?_
  intro F σ S σV H Q QV R q P
  refine h F σ S σV H _ _ R q fun x v F1 S1 H1 f1 r1 d1 q1 => ?_
  obtain ⟨k, e, q1⟩ := ofO_ex q1
  exact ⟨k, truD_rel r1 d1 e, P k F1 S1 H1 f1 r1 q1⟩

/-! ### built-in functions -/
abbrev DC := List D → Store → QE → Prop
def VRC (K : PySem.W.Frag) (ca : Nat → Addr) (dr : DC) (r : List V → Hp → VK → Prop) : Prop := ∀ F S H xs vs Q QV, RelS K ca F S H → RelDs K F H xs vs → dr xs S Q → PostE K ca F S H Q QV → r vs H QV
def dCB (dr : DC) (da : DA) : DE := fun σ S Q => da σ S fun xs S1 => dr xs S1 Q
theorem sim_cb {dr : DC} {r : List V → Hp → VK → Prop} {da : DA} {ta : TA} (hr : VRC K B.ca dr r) (h : SimA K B n da ta) : SimE K B (dCB dr da) (tCB r ta) := by
  intro F σ S σV H Q QV R q P
  refine h F σ S σV H _ _ R q fun xs vs F1 S1 H1 f1 r1 d1 _ q1 => ?_
  exact hr F1 S1 H1 xs vs Q QV r1 d1 q1 (P.step f1)
theorem pd_callB {x : Str} {p : Pos} {id : String} {dr : DC} {r : List V → Hp → VK → Prop} {da : DA} (hc : CallR X (.builtin id) r) (hr : VRC X.K B.ca dr r) (hg : Gl X x) (hm : X.mg x = none) (hv : bootBuiltins x = some (.builtin id)) (ha : PDA X B (e :: es) n da)
    (hn : x ≠ "__name__" := by decide) (hdb : (x == ("__debug__" : Str)) = false := by decide) (he : starEach (e :: es) X.env = (false, eval e X.env) :: starEach es X.env := by rfl) (hpl : (backTo pos (starEach es X.env)).any (·.1) = false := by rfl) :
    PD X B (.Call (.Name x p) (e :: es) [] pos) (dCB dr da) := pd_of (pe_callB hc hg hm hv pa_w hn hdb he hpl) (sim_cb hr ha)
theorem pd_callTy {x : Str} {p : Pos} {T : String} {dr : DC} {r : List V → Hp → VK → Prop} {da : DA} (hc : CallR X (.type T) r) (hr : VRC X.K B.ca dr r) (hg : Gl X x) (hm : X.mg x = none) (hv : bootBuiltins x = some (.type T)) (ha : PDA X B (e :: es) n da)
    (hn : x ≠ "__name__" := by decide) (hdb : (x == ("__debug__" : Str)) = false := by decide) (he : starEach (e :: es) X.env = (false, eval e X.env) :: starEach es X.env := by rfl) (hpl : (backTo pos (starEach es X.env)).any (·.1) = false := by rfl) :
    PD X B (.Call (.Name x p) (e :: es) [] pos) (dCB dr da) := pd_of (pe_callTy hc hg hm hv pa_w hn hdb he hpl) (sim_cb hr ha)
def lenD (S : Store) (x : D) : Option Nat := match x with
  | .tup l => some l.length
  | .str s => if s.length ≤ lim then some s.length else none
  | _ => match asL S x with
    | some l => some l.length
    | none => none
def bLen : DC := fun xs S Q => match xs with
  | [x] => ofO (lenD S x) fun n => Q (.int n) S
  | _ => False
theorem lenD_rel (r : RelS K ca F S H) (rx : RelD K F H d v) {k : Nat} (e : lenD S d = some k) : LenV K v H k := by
  have seq : ∀ {p : Addr}, v = .ref p → (match asL S d with | some l => some l.length | none => none) = some k → LenV K v H k := fun {p} ev e => by
    cases w : asL S d with
    | some l =>
      rw [w] at e
      cases e
      obtain ⟨a, vs, ev', hs, ql⟩ := asL_rel r rx w
      subst ev'
      exact .inl ⟨vs, hs, ql.length⟩
    | none => rw [w] at e; cases e
  cases rx with
  | non => cases e
  | bl b => cases e
  | int i => cases e
  | str s =>
    have e : (if s.length ≤ lim then some s.length else none) = some k := e
    by_cases hl : s.length ≤ lim
    · rw [if_pos hl] at e
      cases e
      exact ⟨by rw [ofS_len, lim_eq]; exact hl, by rw [ofS_len]⟩
    · rw [if_neg hl] at e; cases e
  | tup h q => cases e; exact .inr ⟨_, h, q.length⟩
  | lst h f q => exact seq rfl e
  | dic h f q => exact seq rfl e
  | scr h q => exact seq rfl e
  | obj p => exact seq rfl e
  | ty n => cases e
theorem vrc_len : VRC K ca bLen (fun xs H Q => ∃ x n, xs = [x] ∧ LenV K x H n ∧ Q (.int n) H) := by
  intro F S H xs vs Q QV r rx q P
  match xs, vs, rx, q with
  | [x], _, .cons h .nil, q =>
    obtain ⟨n, e, q⟩ := ofO_ex q
    exact ⟨_, n, rfl, lenD_rel r h e, P.at r (.int _) q⟩
def bAbs : DC := fun xs S Q => match xs with
  | [.int i] => Q (.int (if i < 0 then -i else i)) S
  | _ => False
theorem vrc_abs : VRC K ca bAbs (fun xs H Q => ∃ i, xs = [.int i] ∧ Q (.int (if i < 0 then -i else i)) H) := by
  intro F S H xs vs Q QV r rx q P
  match xs, vs, rx, q with
  | [.int i], _, .cons (.int _) .nil, q => exact ⟨i, rfl, P.at r (.int _) q⟩
def bInt : DC := fun xs S Q => match xs with
  | [.int i] => Q (.int i) S
  | [.bl b] => Q (.int (if b then 1 else 0)) S
  | _ => False
theorem vrc_int : VRC K ca bInt (fun xs H Q => (∃ i, xs = [.int i] ∧ Q (.int i) H) ∨ ∃ k, xs = [.bl k] ∧ Q (.int (if k then 1 else 0)) H) := by
  intro F S H xs vs Q QV r rx q P
  match xs, vs, rx, q with
  | [.int i], _, .cons (.int _) .nil, q => exact .inl ⟨i, rfl, P.at r (.int _) q⟩
  | [.bl b], _, .cons (.bl _) .nil, q => exact .inr ⟨b, rfl, P.at r (.int _) q⟩
def bStr : DC := fun xs S Q => match xs with
  | [.int i] => i.natAbs < 2 ^ 64 ∧ Q (.str (toString i)) S
  | _ => False
theorem log2_lt {n : Nat} (h : n < 2 ^ 64) : n.log2 < 1920 := by
  by_cases e : n = 0
  · subst e; decide
  · have h1 : n.log2 < 64 := (Nat.log2_lt e).mpr h
    omega
theorem vrc_str : VRC K ca bStr (fun xs H Q => ∃ i, xs = [.int i] ∧ i.natAbs.log2 < 1920 ∧ Q (.str (toString i)) H) := by
  intro F S H xs vs Q QV r rx q P
  match xs, vs, rx, q with
  | [.int i], _, .cons (.int _) .nil, q => exact ⟨i, rfl, log2_lt q.1, P.at r (.str _) q.2⟩
def bMax2 : DC := fun xs S Q => match xs with
  | [.int i, .int j] => Q (.int (if j > i then j else i)) S
  | _ => False
theorem vrc_max2 : VRC K ca bMax2 (fun xs H Q => ∃ i j, xs = [.int i, .int j] ∧ Q (.int (if j > i then j else i)) H) := by
  intro F S H xs vs Q QV r rx q P
  match xs, vs, rx, q with
  | [.int i, .int j], _, .cons (.int _) (.cons (.int _) .nil), q => exact ⟨i, j, rfl, P.at r (.int _) q⟩
/-- a list, a tuple, copied into a new list, a new tuple -/
def asQ (S : Store) (x : D) : Option (List D) := match x with
  | .tup l => some l
  | _ => asL S x
theorem asQ_rel (r : RelS K ca F S H) (q : RelD K F H d v) (e : asQ S d = some l) : ∃ a vs, v = .ref a ∧ (SqL K H a vs ∨ SqT K H a vs) ∧ RelDs K F H l vs := by
  cases hd : d with
  | tup m =>
    subst hd
    cases e
    obtain ⟨a, vs, ev, hs, ql⟩ := asT_rel q rfl
    exact ⟨a, vs, ev, .inr hs, ql⟩
  | _ =>
    subst hd
    obtain ⟨a, vs, ev, hs, ql⟩ := asL_rel r q e
    exact ⟨a, vs, ev, .inl hs, ql⟩
def bList : DC := fun xs S Q => match xs with
  | [x] => ofO (asQ S x) fun l => Q (.lst l) S
  | _ => False
def bListM : DC := fun xs S Q => match xs with
  | [x] => ofO (asQ S x) fun l => ∀ p, S p = none → Q (.obj p) (put S p (.lst l))
  | _ => False
def bTuple : DC := fun xs S Q => match xs with
  | [x] => ofO (asQ S x) fun l => Q (.tup l) S
  | _ => False
theorem vrc_list : VRC K ca bList (fun xs H Q => ∃ p ys, xs = [.ref p] ∧ (SqL K H p ys ∨ SqT K H p ys) ∧ ∀ l, H l = none → Q (.ref l) (upd H l (.lst ys))) := by
  intro F S H xs vs Q QV r rx q P
  match xs, vs, rx, q with
  | [x], _, .cons h .nil, q =>
    obtain ⟨l, e, q⟩ := ofO_ex q
    obtain ⟨a, vs, ev, hs, ql⟩ := asQ_rel r h e
    refine ⟨a, vs, by rw [ev], hs, fun p hp => ?_⟩
    exact P _ _ _ _ _ (fr_newF hp) (r.newF hp) (.lst upd_same (.inl rfl) (ql.mono r (fr_newF hp))) q
theorem vrc_listM : VRC K ca bListM (fun xs H Q => ∃ p ys, xs = [.ref p] ∧ (SqL K H p ys ∨ SqT K H p ys) ∧ ∀ l, H l = none → Q (.ref l) (upd H l (.lst ys))) := by
  intro F S H xs vs Q QV r rx q P
  match xs, vs, rx, q with
  | [x], _, .cons h .nil, q =>
    obtain ⟨l, e, q⟩ := ofO_ex q
    obtain ⟨a, vs, ev, hs, ql⟩ := asQ_rel r h e
    refine ⟨a, vs, by rw [ev], hs, fun p hp => ?_⟩
    exact P _ _ _ _ _ (fr_new (o := .lst l) hp) (r.new hp ⟨_, upd_same, ql.mono r (fr_newD hp)⟩) (.obj p) (q p (r.free hp))
theorem vrc_tuple : VRC K ca bTuple (fun xs H Q => ∃ p ys, xs = [.ref p] ∧ ((SqL K H p ys ∧ ∀ l, H l = none → Q (.ref l) (upd H l (.tup ys))) ∨ (SqT K H p ys ∧ Q (.ref p) H))) := by
  intro F S H xs vs Q QV r rx q P
  match xs, vs, rx, q with
  | [x], _, .cons h .nil, q =>
    obtain ⟨l, e, q⟩ := ofO_ex q
    obtain ⟨a, vs, ev, hs, ql⟩ := asQ_rel r h e
    refine ⟨a, vs, by rw [ev], ?_⟩
    rcases hs with hs | hs
    · refine .inl ⟨hs, fun p hp => ?_⟩
      exact P _ _ _ _ _ (fr_newD hp) (r.newD hp) (.tup (SqT.of upd_same) (ql.mono r (fr_newD hp))) q
    · exact .inr ⟨hs, P.at r (.tup hs ql) q⟩
def blsOf : List D → Option (List Bool)
  | [] => some []
  | .bl b :: r => (blsOf r).map (b :: ·)
  | _ => none
def intsOf : List D → Option (List Int)
  | [] => some []
  | .int b :: r => (intsOf r).map (b :: ·)
  | _ => none
theorem bls_rel : ∀ {l : List D} {vs : List V} {bs : List Bool}, RelDs K F H l vs → blsOf l = some bs → vs = bs.map V.bl
  | [], _, _, .nil, e => by cases e; rfl
  | .bl b :: r, _, _, .cons (.bl _) q, e => by
    obtain ⟨bs, e1, e2⟩ := Option.map_eq_some_iff.mp (show (blsOf r).map (b :: ·) = some _ from e)
    subst e2
    rw [bls_rel q e1]
    rfl
  | .non :: _, _, _, _, e => by cases e
  | .int _ :: _, _, _, _, e => by cases e
  | .str _ :: _, _, _, _, e => by cases e
  | .tup _ :: _, _, _, _, e => by cases e
  | .lst _ :: _, _, _, _, e => by cases e
  | .dic _ :: _, _, _, _, e => by cases e
  | .scr _ :: _, _, _, _, e => by cases e
  | .obj _ :: _, _, _, _, e => by cases e
  | .ty _ :: _, _, _, _, e => by cases e
theorem ints_rel : ∀ {l : List D} {vs : List V} {bs : List Int}, RelDs K F H l vs → intsOf l = some bs → vs = bs.map V.int
  | [], _, _, .nil, e => by cases e; rfl
  | .int b :: r, _, _, .cons (.int _) q, e => by
    obtain ⟨bs, e1, e2⟩ := Option.map_eq_some_iff.mp (show (intsOf r).map (b :: ·) = some _ from e)
    subst e2
    rw [ints_rel q e1]
    rfl
  | .non :: _, _, _, _, e => by cases e
  | .bl _ :: _, _, _, _, e => by cases e
  | .str _ :: _, _, _, _, e => by cases e
  | .tup _ :: _, _, _, _, e => by cases e
  | .lst _ :: _, _, _, _, e => by cases e
  | .dic _ :: _, _, _, _, e => by cases e
  | .scr _ :: _, _, _, _, e => by cases e
  | .obj _ :: _, _, _, _, e => by cases e
  | .ty _ :: _, _, _, _, e => by cases e
def bAll : DC := fun xs S Q => match xs with
  | [x] => ofO (asL S x) fun l => ofO (blsOf l) fun bs => Q (.bl (bs.all id)) S
  | _ => False
def bAny : DC := fun xs S Q => match xs with
  | [x] => ofO (asL S x) fun l => ofO (blsOf l) fun bs => Q (.bl (bs.any id)) S
  | _ => False
def bSum : DC := fun xs S Q => match xs with
  | [x] => ofO (asL S x) fun l => ofO (intsOf l) fun bs => Q (.int bs.sum) S
  | _ => False
theorem vrc_all : VRC K ca bAll (rAll K) := by
  intro F S H xs vs Q QV r rx q P
  match xs, vs, rx, q with
  | [x], _, .cons h .nil, q =>
    obtain ⟨l, e, q⟩ := ofO_ex q
    obtain ⟨bs, e2, q⟩ := ofO_ex q
    obtain ⟨a, vs, ev, hs, ql⟩ := asL_rel r h e
    rw [bls_rel ql e2] at hs
    exact ⟨a, bs, by rw [ev], hs, P.at r (.bl _) q⟩
theorem vrc_any : VRC K ca bAny (rAny K) := by
  intro F S H xs vs Q QV r rx q P
  match xs, vs, rx, q with
  | [x], _, .cons h .nil, q =>
    obtain ⟨l, e, q⟩ := ofO_ex q
    obtain ⟨bs, e2, q⟩ := ofO_ex q
    obtain ⟨a, vs, ev, hs, ql⟩ := asL_rel r h e
    rw [bls_rel ql e2] at hs
    exact ⟨a, bs, by rw [ev], hs, P.at r (.bl _) q⟩
theorem vrc_sum : VRC K ca bSum (rSum K) := by
  intro F S H xs vs Q QV r rx q P
  match xs, vs, rx, q with
  | [x], _, .cons h .nil, q =>
    obtain ⟨l, e, q⟩ := ofO_ex q
    obtain ⟨bs, e2, q⟩ := ofO_ex q
    obtain ⟨a, vs, ev, hs, ql⟩ := asL_rel r h e
    rw [ints_rel ql e2] at hs
    exact ⟨a, bs, by rw [ev], hs, P.at r (.int _) q⟩

/-! ### methods of built-in types -/
abbrev DM := D → List D → Store → QE → Prop
def VRM (K : PySem.W.Frag) (ca : Nat → Addr) (dr : DM) (r : V → List V → Hp → VK → Prop) : Prop := ∀ F S H x v xs vs Q QV, RelS K ca F S H → RelD K F H x v → RelDs K F H xs vs → dr x xs S Q → PostE K ca F S H Q QV → r v vs H QV
/-- x is of the type (list, str, dict) -/
def tyD (T : String) (S : Store) (x : D) : Prop := (T = "str" ∧ ∃ s, x = .str s) ∨ (T = "list" ∧ ∃ l, asL S x = some l) ∨ (T = "dict" ∧ ∃ l, asK S x = some l)
theorem tyD_rel {T : String} (r : RelS K ca F S H) (rx : RelD K F H d v) (h : tyD T S d) : tyV K T v H := by
  rcases h with ⟨e, s, hs⟩ | ⟨e, l, hs⟩ | ⟨e, l, hs⟩
  · subst hs; cases rx; exact e
  · obtain ⟨a, vs, ev, h, _⟩ := asL_rel r rx hs
    subst ev
    exact .inl ⟨e, _, h⟩
  · obtain ⟨a, vs, ev, h, _⟩ := asK_rel r rx hs
    subst ev
    exact .inr (.inr (.inl ⟨e, .inl ⟨_, h⟩⟩))
def dBM0 (T : String) (dr : DM) (da : DE) : DE := fun σ S Q => da σ S fun x S1 => tyD T S1 x ∧ dr x [] S1 Q
def dBM (T : String) (dr : DM) (da : DE) (dt : DA) : DE := fun σ S Q => da σ S fun x S1 => tyD T S1 x ∧ dt σ S1 fun xs S2 => dr x xs S2 Q
theorem sim_bm0 {T : String} {dr : DM} {r : V → List V → Hp → VK → Prop} (hr : VRM K B.ca dr r) (ha : SimE K B da ta) : SimE K B (dBM0 T dr da) (tBM0 K T r ta) := by
  intro F σ S σV H Q QV R q P
  refine ha F σ S σV H _ _ R q fun x v F1 S1 H1 f1 r1 d1 q1 => ?_
  exact ⟨tyD_rel r1 d1 q1.1, hr F1 S1 H1 x v [] [] Q QV r1 d1 .nil q1.2 (P.step f1)⟩
theorem sim_bm {T : String} {dr : DM} {r : V → List V → Hp → VK → Prop} {dt : DA} {tt : TA} (hr : VRM K B.ca dr r) (ha : SimE K B da ta) (ht : SimA K B n dt tt) : SimE K B (dBM T dr da dt) (tBM K T r ta tt) := by
  intro F σ S σV H Q QV R q P
  refine ha F σ S σV H _ _ R q fun x v F1 S1 H1 f1 r1 d1 q1 => ⟨tyD_rel r1 d1 q1.1, ?_⟩
  refine ht F1 σ S1 σV H1 _ _ (R.step f1 r1) q1.2 fun xs vs F2 S2 H2 f2 r2 d2 _ q2 => ?_
  exact hr F2 S2 H2 x v xs vs Q QV r2 (d1.mono r1 f2) d2 q2 (P.step (f1.trans f2))
theorem pd_bm0 {name : Str} {apos cpos : Pos} {T id : String} {dr : DM} {r : V → List V → Hp → VK → Prop} (pa : PlainAttrs T) (slot : Slot T name id) (hty : typeOf (.builtin id) = pure (.type "method_descriptor")) (hm : MtR X id r) (hr : VRM X.K B.ca dr r) (ho : PD X B o da)
    (hbase : attributeBase o name X.env (eval o X.env) = eval o X.env := by rfl) (hline : (apos.endLine == cpos.line) = true := by rfl) : PD X B (.Call (.Attribute o name apos) [] [] cpos) (dBM0 T dr da) :=
  pd_of (pe_bm0 pa slot hty hm pe_w hbase hline) (sim_bm0 hr ho)
theorem pd_bm {name : Str} {apos cpos : Pos} {T id : String} {dr : DM} {r : V → List V → Hp → VK → Prop} {dt : DA} (pa : PlainAttrs T) (slot : Slot T name id) (hty : typeOf (.builtin id) = pure (.type "method_descriptor")) (hm : MtR X id r) (hr : VRM X.K B.ca dr r) (ho : PD X B o da) (ha : PDA X B (e :: es) n dt)
    (hbase : attributeBase o name X.env (eval o X.env) = eval o X.env := by rfl)
    (hfew : ((backTo cpos (starEach (e :: es) X.env)).all (fun x => !x.1) && (backToKw cpos (keywordEach [] X.env)).all (fun x => x.1.isSome)
      && decide ((e :: es).length + ([] : List Keyword).length + (if ([] : List Keyword).isEmpty then 0 else 1) < 30)) = true := by rfl)
    (hline : (apos.endLine == cpos.line) = true := by rfl) (hs : starEach (e :: es) X.env = (false, eval e X.env) :: starEach es X.env := by rfl) (hplain : (backTo cpos (starEach es X.env)).any (·.1) = false := by rfl) :
    PD X B (.Call (.Attribute o name apos) (e :: es) [] cpos) (dBM T dr da dt) :=
  pd_of (pe_bm pa slot hty hm pe_w pa_w hbase hfew hline hs hplain) (sim_bm hr ho ha)
def mAppend : DM := fun x xs S Q => match x, xs with
  | .obj p, [y] => match S p with
    | some (.lst l) => l.length < lim ∧ Q .non (put S p (.lst (l ++ [y])))
    | _ => False
  | _, _ => False
def mPop : DM := fun x xs S Q => match x, xs with
  | .obj p, [] => match S p with
    | some (.lst l) => ofO l.getLast? fun y => Q y (put S p (.lst l.dropLast))
    | _ => False
  | _, _ => False
def mExtend : DM := fun x xs S Q => match x, xs with
  | .obj p, [y] => match S p with
    | some (.lst l) => ofO (asQ S y) fun m => l.length + m.length ≤ lim ∧ Q .non (put S p (.lst (l ++ m)))
    | _ => False
  | _, _ => False
theorem obj_at {p : Addr} {u : Ob} {k : List D → Prop} (q : match S p with | some (.lst l) => k l | _ => False) : ∃ l, S p = some (.lst l) ∧ k l := by
  cases e : S p with
  | none => rw [e] at q; exact q.elim
  | some o =>
    rw [e] at q
    cases o with
    | lst l => exact ⟨l, rfl, q⟩
    | _ => exact q.elim
theorem vrm_append : VRM K ca mAppend rAppend := by
  intro F S H x v xs vs Q QV r rx rs q P
  match x, v, xs, vs, rx, rs, q with
  | .obj p, _, [y], [yv], .obj _, .cons hy .nil, q =>
    obtain ⟨l, e, h, q⟩ := obj_at (u := .lst []) q
    obtain ⟨_, vs, hH, ql⟩ := r.ob p _ e
    refine ⟨p, vs, _, rfl, rfl, hH, by rw [← ql.length, lim_eq]; exact h, ?_⟩
    have f := fr_write (F := F) (S := S) (H := H) (o' := .lst (l ++ [y])) (u := .lst (vs ++ [yv])) e
    exact P .non _ F _ _ f (r.write e ⟨_, upd_same, (ql.append (.cons hy .nil)).mono r f⟩) .non q
theorem vrm_pop : VRM K ca mPop rPop := by
  intro F S H x v xs vs Q QV r rx rs q P
  match x, v, xs, vs, rx, rs, q with
  | .obj p, _, [], _, .obj _, .nil, q =>
    obtain ⟨l, e, q⟩ := obj_at (u := .lst []) q
    obtain ⟨y, ey, q⟩ := ofO_ex q
    obtain ⟨_, vs, hH, ql⟩ := r.ob p _ e
    rw [List.getLast?_eq_getElem?] at ey
    obtain ⟨u, eu, ru⟩ := ql.get ey
    rw [ql.length] at eu
    have f := fr_write (F := F) (S := S) (H := H) (o' := .lst l.dropLast) (u := .lst vs.dropLast) e
    exact ⟨p, vs, u, rfl, rfl, hH, eu, P _ _ F _ _ f (r.write e ⟨_, upd_same, ql.dropLast.mono r f⟩) (ru.mono r f) q⟩
end
end DL
/-! DL5: fields, calls of own defs, methods and classes over data. -/
namespace DL
open PySem PySem.Spec PyProof.Rows L2

section
variable {K : PySem.W.Frag} {ca : Nat → Addr} {F F' : Addr → Prop} {S S' : Store} {H H' : Hp} {B : Bc} {Q : QE} {QV : VK} {d : D} {v : V} {l : List D} {X : Cx} {a b e o : Expr} {es : List Expr} {da db dd : DE} {ta tb : TE} {pos p2 : Pos} {n : Nat} {σ : DEnv} {σV : L2.St}

/-! ### fields -/
def insD (S : Store) (c : Nat) (x : D) : Option (Addr × List (String × D)) := match x with
  | .obj p => match S p with
    | some (.ins c' fs) => if c' = c then some (p, fs) else none
    | _ => none
  | _ => none
theorem insD_rel {c : Nat} {p : Addr} {fs : List (String × D)} (r : RelS K ca F S H) (rx : RelD K F H d v) (e : insD S c d = some (p, fs)) :
    d = .obj p ∧ v = .ref p ∧ S p = some (.ins c fs) ∧ ∃ dx fv, H p = some (.ins (ca c) dx fv) ∧ RelFs K F H fs fv := by
  cases rx with
  | obj q =>
    have e : (match S q with | some (Ob.ins c' fs) => if c' = c then some (q, fs) else none | _ => none) = some (p, fs) := e
    cases w : S q with
    | none => rw [w] at e; cases e
    | some u =>
      rw [w] at e
      cases u with
      | ins c' fs' =>
        have e : (if c' = c then some (q, fs') else none) = some (p, fs) := e
        by_cases hc : c' = c
        · rw [if_pos hc] at e
          cases e
          subst hc
          obtain ⟨_, dx, fv, hH, rf⟩ := r.ob p _ w
          exact ⟨rfl, rfl, w, dx, fv, hH, rf⟩
        · rw [if_neg hc] at e; cases e
      | _ => cases e
  | _ => cases e
theorem fs_lookup {fs : List (String × D)} {fv : List (Str × V)} (q : RelFs K F H fs fv) (k : String) :
    (∀ x, fs.lookup k = some x → ∃ u, fv.lookup (Str.ofString k) = some u ∧ RelD K F H x u) ∧ (fs.lookup k = none → fv.lookup (Str.ofString k) = none) := by
  induction q with
  | nil => exact ⟨fun x e => (by cases e), fun _ => rfl⟩
  | @cons s d v l vs h q ih =>
    by_cases e : k = s
    · subst e
      refine ⟨fun x ex => ?_, fun ex => ?_⟩
      · rw [List.lookup_cons_self] at ex
        cases ex
        exact ⟨v, List.lookup_cons_self, h⟩
      · rw [List.lookup_cons_self] at ex; cases ex
    · have ne : (Str.ofString k == Str.ofString s) = false := beq_eq_false_iff_ne.mpr fun z => e (ofS_inj z)
      have nb : (k == s) = false := beq_eq_false_iff_ne.mpr e
      rw [List.lookup_cons, nb, List.lookup_cons, ne]
      exact ih
def dFld (c : Nat) (f : String) (da : DE) : DE := fun σ S Q => da σ S fun x S1 => ofO (insD S1 c x) fun z => ofO (z.2.lookup f) fun y => Q y S1
theorem pd_fld {c : Nat} {f : String} (ha : PD X B e da) (hc : Cls X.K (B.ca c)) (hn : NoAttr X.K (B.ca c) (Str.ofString f)) (hb : attributeBase e (Str.ofString f) X.env (eval e X.env) = eval e X.env := by rfl) : PD X B (.Attribute e (Str.ofString f) pos) (dFld c f da) := by
  refine pd_of (pe_fld pe_w hb) ?_
  intro F σ S σV H Q QV R q P
  refine ha F σ S σV H _ _ R q fun x v F1 S1 H1 f1 r1 d1 q1 => ?_
  obtain ⟨⟨p, fs⟩, ei, q1⟩ := ofO_ex q1
  obtain ⟨y, ey, q1⟩ := ofO_ex q1
  obtain ⟨_, ev, hS, dx, fv, hH, rf⟩ := insD_rel r1 d1 ei
  obtain ⟨u, eu, ru⟩ := (fs_lookup rf f).1 y ey
  exact ⟨p, B.ca c, dx, fv, u, ev, hH, hc, hn, eu, P y u F1 S1 H1 f1 r1 ru q1⟩
def putFD (f : String) (v : D) : List (String × D) → List (String × D)
  | [] => [(f, v)]
  | (g, u) :: r => if g = f then (g, v) :: r else (g, u) :: putFD f v r
theorem fs_put {fs : List (String × D)} {fv : List (Str × V)} (q : RelFs K F H fs fv) {f : String} {x : D} {u : V} (rx : RelD K F H x u) : RelFs K F H (putFD f x fs) (putF (Str.ofString f) u fv) := by
  induction q with
  | nil => exact .cons rx .nil
  | @cons s d v l vs h q ih =>
    show RelFs K F H (if s = f then (s, x) :: l else (s, d) :: putFD f x l) (if Str.ofString s = Str.ofString f then (Str.ofString s, u) :: vs else (Str.ofString s, v) :: putF (Str.ofString f) u vs)
    by_cases e : s = f
    · subst e
      rw [if_pos rfl, if_pos rfl]
      exact .cons rx q
    · rw [if_neg e, if_neg fun z => e (ofS_inj z)]
      exact .cons h ih
theorem fs_len {fs : List (String × D)} {fv : List (Str × V)} (q : RelFs K F H fs fv) : fs.length = fv.length := by
  induction q with
  | nil => rfl
  | cons _ _ ih => rw [List.length_cons, List.length_cons, ih]

/-! ### an exception that leaves -/
def XW (K : PySem.W.Frag) (B : Bc) : WX := fun cls dd σV H => ∃ x F σ S, Rel K B F σ S σV H ∧ RelX K B.ca F H x cls dd ∧ B.ED x σ S
/-- a def's promise over data as the hand layer's -/
def lift (K : PySem.W.Frag) (ca : Nat → Addr) (n : Nat) (w : DSp) : Sp := fun vs H Q E => ∃ ds F S QD ED, ds.length = n ∧ RelDs K F H ds vs ∧ RelS K ca F S H ∧ w ds S QD ED ∧ PostE K ca F S H QD Q ∧ PostX K ca F S H ED E
theorem lift_len {w : DSp} {vs : List V} {Q : VK} {E : XK} (h : lift K ca n w vs H Q E) : vs.length = n := by
  obtain ⟨ds, F, S, QD, ED, hl, rd, _⟩ := h
  rw [← rd.length, hl]
theorem lift_of {w : DSp} {ds : List D} {vs : List V} {E : XK} {ED : XQ} (hl : ds.length = n) (rd : RelDs K F H ds vs) (rs : RelS K ca F S H) (h : w ds S Q ED) (P : PostE K ca F S H Q QV) (PX : PostX K ca F S H ED E) : lift K ca n w vs H QV E :=
  ⟨ds, F, S, Q, ED, hl, rd, rs, h, P, PX⟩
theorem post_xw (R : Rel K B F σ S σV H) (f : Fr F S H F' S' H') (r : RelS K B.ca F' S' H') : PostX K B.ca F' S' H' (fun x S1 => B.ED x σ S1) (fun cls dd H1 => XW K B cls dd σV H1) :=
  fun x cls dd F1 S1 H1 f1 r1 rx q => ⟨x, F1, σ, S1, R.step (f.trans f1) r1, rx, q⟩
/-- what a callee may let out, taken at the caller's slots -/
theorem passXW (tk : Takes X (XW X.K B)) (σV : L2.St) : PassesAt (L2.CX X.prog X.w) X σV (fun cls dd H => XW X.K B cls dd σV H) := fun _ _ _ u s1 I c => tk u s1 (XE.of_call I (fun _ _ _ h => h) c)

/-! ### f(..) -/
def dCall (w : DSp) (ED : DX → DEnv → Store → Prop) (da : DA) : DE := fun σ S Q => da σ S fun ds S1 => w ds S1 Q fun x S2 => ED x σ S2
section
variable {k : Nat} {f : Addr} {fd : FuncData} {ps : List Str} {w : DSp} {x m : Str} {p apos : Pos} {dt : DA}
theorem pd_call (F : FnOk X.prog X.w X.K X.mg X.base (L2.CX X.prog X.w) k f fd ps (lift X.K B.ca n w)) (hr : Room k X.A) (hg : Gl X x) (hm : X.mg x = some (.ref f)) (hk : PySem.W.keepIn X.K (.ref f) = true) (hb : Binds X.K fd ps []) (tk : Takes X (XW X.K B))
    (ha : PDA X B (e :: es) n dt) (hdb : (x == ("__debug__" : Str)) = false := by decide) (he : starEach (e :: es) X.env = (false, eval e X.env) :: starEach es X.env := by rfl) (hpl : (backTo pos (starEach es X.env)).any (·.1) = false := by rfl) :
    PD X B (.Call (.Name x p) (e :: es) [] pos) (dCall w B.ED dt) := by
  refine pd_of (pe_callSD F hr hg hm hk hb .nil (passXW tk) pa_w hdb he hpl) ?_
  intro F σ S σV H Q QV R q P
  refine ha F σ S σV H _ _ R q fun xs vs F1 S1 H1 f1 r1 d1 l1 q1 => ?_
  show lift X.K B.ca n w (vs ++ []) H1 QV _
  rw [List.append_nil]
  exact lift_of l1 d1 r1 q1 (P.step f1) (post_xw R f1 r1)
def dCall0 (w : DSp) (ED : DX → DEnv → Store → Prop) : DE := fun σ S Q => w [] S Q fun x S2 => ED x σ S2
def tCallQ0 (sp : Sp) (E : L2.St → XK) : TE := fun σ H Q => sp [] H Q (E σ)
theorem pe_callQ0 {sp : Sp} {E : L2.St → XK} {CX : CXT} (F : FnOk X.prog X.w X.K X.mg X.base CX k f fd ps sp) (hr : Room k X.A) (hg : Gl X x) (hm : X.mg x = some (.ref f)) (hk : PySem.W.keepIn X.K (.ref f) = true) (hb : Binds X.K fd ps []) (hx : ∀ σ, PassesAt CX X σ (E σ))
    (hdb : (x == ("__debug__" : Str)) = false := by decide) : PE X (.Call (.Name x p) [] [] pos) (tCallQ0 sp E) :=
  ⟨fun pn st sg Hh Qq I h => wpAny_Call_Name_kw (ld_glob I hg hm (PySem.W.callWith_K0 I.kIn hk (run_fnSD (us := []) (vs := []) F hr hb .nil (hx sg) I .nil h)) hdb)⟩
theorem pd_call0 (F : FnOk X.prog X.w X.K X.mg X.base (L2.CX X.prog X.w) k f fd ps (lift X.K B.ca 0 w)) (hr : Room k X.A) (hg : Gl X x) (hm : X.mg x = some (.ref f)) (hk : PySem.W.keepIn X.K (.ref f) = true) (hb : Binds X.K fd ps []) (tk : Takes X (XW X.K B))
    (hdb : (x == ("__debug__" : Str)) = false := by decide) : PD X B (.Call (.Name x p) [] [] pos) (dCall0 w B.ED) := by
  refine pd_of (pe_callQ0 F hr hg hm hk hb (passXW tk) hdb) ?_
  intro F σ S σV H Q QV R q P
  exact lift_of rfl .nil R.st q P (post_xw R Fr.refl R.st)

/-! ### o.m(..) -/
def tMethQ (C : Addr) (m : Str) (sp : Sp) (E : L2.St → XK) (ta : TE) (t : TA) : TE := fun σ H Q => ta σ H fun x H1 => ∃ a dx fs, x = .ref a ∧ H1 a = some (.ins C dx fs) ∧ fs.lookup m = none ∧ t σ H1 fun vs H2 => sp (x :: vs) H2 Q (E σ)
theorem pe_methQ {C : Addr} {sp : Sp} {E : L2.St → XK} {CX : CXT} {t : TA} {pl : Sem Bool} (he : PE X o ta) (c : Cls X.K C) (hm : Meth X.K C m f) (F : FnOk X.prog X.w X.K X.mg X.base CX k f fd ps sp) (hr : Room k X.A) (hb : Binds X.K fd ps []) (hx : ∀ σ, PassesAt CX X σ (E σ)) (ha : PA X (e :: es) t)
    (hst : starEach (e :: es) X.env = (false, eval e X.env) :: starEach es X.env := by rfl) (hpl : (backTo pos (starEach es X.env)).any (·.1) = false := by rfl)
    (ht : eval (.Call (.Attribute o m apos) (e :: es) [] pos) X.env = (do
      let ov ← eval o X.env
      standAt apos.atName
      let (f, first) ← holding [ov] (getMethod ov m pl)
      callWith pos f first (backTo pos (starEach (e :: es) X.env)) (backToKw pos (keywordEach [] X.env))) := by rfl) :
    PE X (.Call (.Attribute o m apos) (e :: es) [] pos) (tMethQ C m sp E ta t) := by
  refine ⟨fun pn st sg Hh Qq I h => PySem.W.methodCall_KW (pl := pl) (thn (he.run pn st sg Hh _ I h) fun uo s1 hh => ?_) ht⟩
  obtain ⟨xo, H1, I1, rx, a0, dx0, fs0, ex, ea, lk, q⟩ := hh
  subst ex
  obtain rfl : uo = Value.ref a0 := rx
  refine getmeth_ok I1 ea c hm lk (PySem.W.callWith_K (first := [.ref a0]) (h₀ := X.base) I.ok.mod.kin hm.kp (thn (ha.run pos pn s1 sg H1 _ I1 q) fun us s2 h2 => ?_) hst hpl)
  obtain ⟨vs, H2, I2, rv, q2⟩ := h2
  refine ⟨I2.kIn, run_fnSD (us := .ref a0 :: us) (vs := .ref a0 :: vs) F hr hb .nil (hx sg) I2 (.cons rfl rv) ?_⟩
  rw [List.append_nil]
  exact q2
theorem pe_methQ0 {C : Addr} {sp : Sp} {E : L2.St → XK} {CX : CXT} {pl : Sem Bool} (he : PE X o ta) (c : Cls X.K C) (hm : Meth X.K C m f) (F : FnOk X.prog X.w X.K X.mg X.base CX k f fd ps sp) (hr : Room k X.A) (hb : Binds X.K fd ps []) (hx : ∀ σ, PassesAt CX X σ (E σ))
    (ht : eval (.Call (.Attribute o m apos) [] [] pos) X.env = (do
      let ov ← eval o X.env
      standAt apos.atName
      let (f, first) ← holding [ov] (getMethod ov m pl)
      callWith pos f first (backTo pos (starEach [] X.env)) (backToKw pos (keywordEach [] X.env))) := by rfl) :
    PE X (.Call (.Attribute o m apos) [] [] pos) (tMethQ C m sp E ta tNil) := by
  refine ⟨fun pn st sg Hh Qq I h => PySem.W.methodCall_KW (pl := pl) (thn (he.run pn st sg Hh _ I h) fun uo s1 hh => ?_) ht⟩
  obtain ⟨xo, H1, I1, rx, a0, dx0, fs0, ex, ea, lk, q⟩ := hh
  subst ex
  obtain rfl : uo = Value.ref a0 := rx
  exact getmeth_ok I1 ea c hm lk (PySem.W.callWith_K0 (first := [.ref a0]) I1.kIn hm.kp (run_fnSD (us := [.ref a0]) (vs := [.ref a0]) F hr hb .nil (hx sg) I1 (.cons rfl .nil) q))
def dMeth (c : Nat) (m : String) (w : DSp) (ED : DX → DEnv → Store → Prop) (da : DE) (dt : DA) : DE := fun σ S Q => da σ S fun x S1 => ofO (insD S1 c x) fun z => z.2.lookup m = none ∧ dt σ S1 fun ds S2 => w (x :: ds) S2 Q fun y S3 => ED y σ S3
theorem sim_meth {c : Nat} {mm : String} {tt : TA} (ha : SimE K B da ta) (ht : SimA K B n dt tt) : SimE K B (dMeth c mm w B.ED da dt) (tMethQ (B.ca c) (Str.ofString mm) (lift K B.ca (n + 1) w) (fun σV cls dd H => XW K B cls dd σV H) ta tt) := by
  intro F σ S σV H Q QV R q P
  refine ha F σ S σV H _ _ R q fun x v F1 S1 H1 f1 r1 d1 q1 => ?_
  obtain ⟨⟨p, fs⟩, ei, hl, q1⟩ := ofO_ex q1
  obtain ⟨_, ev, hS, dx, fv, hH, rf⟩ := insD_rel r1 d1 ei
  refine ⟨p, dx, fv, ev, hH, (fs_lookup rf mm).2 hl, ?_⟩
  refine ht F1 σ S1 σV H1 _ _ (R.step f1 r1) q1 fun xs vs F2 S2 H2 f2 r2 d2 l2 q2 => ?_
  exact lift_of (by rw [List.length_cons, l2]) (.cons (d1.mono r1 f2) d2) r2 q2 (P.step (f1.trans f2)) (post_xw R (f1.trans f2) r2)
theorem pd_meth {c : Nat} {mm : String} {pl : Sem Bool} (ho : PD X B o da) (hc : Cls X.K (B.ca c)) (hm : Meth X.K (B.ca c) (Str.ofString mm) f) (F : FnOk X.prog X.w X.K X.mg X.base (L2.CX X.prog X.w) k f fd ps (lift X.K B.ca (n + 1) w)) (hr : Room k X.A) (hb : Binds X.K fd ps [])
    (tk : Takes X (XW X.K B)) (ha : PDA X B (e :: es) n dt)
    (hst : starEach (e :: es) X.env = (false, eval e X.env) :: starEach es X.env := by rfl) (hpl : (backTo pos (starEach es X.env)).any (·.1) = false := by rfl)
    (ht : eval (.Call (.Attribute o (Str.ofString mm) apos) (e :: es) [] pos) X.env = (do
      let ov ← eval o X.env
      standAt apos.atName
      let (f, first) ← holding [ov] (getMethod ov (Str.ofString mm) pl)
      callWith pos f first (backTo pos (starEach (e :: es) X.env)) (backToKw pos (keywordEach [] X.env))) := by rfl) :
    PD X B (.Call (.Attribute o (Str.ofString mm) apos) (e :: es) [] pos) (dMeth c mm w B.ED da dt) :=
  pd_of (pe_methQ (pl := pl) pe_w hc hm F hr hb (passXW tk) pa_w hst hpl ht) (sim_meth ho ha)
theorem pd_meth0 {c : Nat} {mm : String} {pl : Sem Bool} (ho : PD X B o da) (hc : Cls X.K (B.ca c)) (hm : Meth X.K (B.ca c) (Str.ofString mm) f) (F : FnOk X.prog X.w X.K X.mg X.base (L2.CX X.prog X.w) k f fd ps (lift X.K B.ca 1 w)) (hr : Room k X.A) (hb : Binds X.K fd ps [])
    (tk : Takes X (XW X.K B))
    (ht : eval (.Call (.Attribute o (Str.ofString mm) apos) [] [] pos) X.env = (do
      let ov ← eval o X.env
      standAt apos.atName
      let (f, first) ← holding [ov] (getMethod ov (Str.ofString mm) pl)
      callWith pos f first (backTo pos (starEach [] X.env)) (backToKw pos (keywordEach [] X.env))) := by rfl) :
    PD X B (.Call (.Attribute o (Str.ofString mm) apos) [] [] pos) (dMeth c mm w B.ED da dNil) :=
  pd_of (pe_methQ0 (pl := pl) pe_w hc hm F hr hb (passXW tk) ht) (sim_meth ho sim_nil)

/-! ### C(..) -/
def tMakeQ (C : Addr) (sp : Sp) (E : L2.St → XK) (t : TA) : TE := fun σ H Q => t σ H fun vs H1 => ∀ x dx, H1 x = none → H1 dx = none → dx ≠ x →
  sp (.ref x :: vs) (upd (upd H1 dx (.own x)) x (.ins C dx [])) (fun v H2 => v = .non ∧ Q (.ref x) H2) (E σ)
theorem run_makeQ {C : Addr} {sp : Sp} {E : XK} {CX : CXT} {pins : List (Addr × Obj)} {sg : L2.St} {Hh : Hp} {st : Shared} {Qq : VK} {us : List Value} {vs : List V} (M : Mk X.K C f) (F : FnOk X.prog X.w X.K X.mg X.base CX k f fd ps sp) (hr : Room (k + 1) X.A) (hb : Binds X.K fd ps [])
    (hx : PassesAt CX X sg E) (I : Inv X pins sg Hh st) (rv : Vals vs us)
    (h : ∀ x dx, Hh x = none → Hh dx = none → dx ≠ x → sp (.ref x :: vs) (upd (upd Hh dx (.own x)) x (.ins C dx [])) (fun v H2 => v = .non ∧ Qq (.ref x) H2) E) : wpAny (model X.prog X.w) X.A (call (.ref C) us) (EP X pins sg Qq) X.xe st := by
  have big := h (st.heap.objs.size + 1) st.heap.objs.size (I.hok.fresh (Nat.le_succ _)) (I.hok.fresh (Nat.le_refl _)) (Nat.ne_of_lt (Nat.lt_succ_self _))
  have J := Inv.made (C := C) I
  have rr : Vals (V.ref (st.heap.objs.size + 1) :: vs) (Value.ref (st.heap.objs.size + 1) :: us) := .cons rfl rv
  have nl : ((Value.ref (st.heap.objs.size + 1) :: us) ++ []).length = ps.length := by
    rw [List.append_nil, ← rr.length]
    exact F.len _ _ _ _ big
  have bb := hb _ (Value.ref (st.heap.objs.size + 1) :: us) J.kIn nl
  rw [List.append_nil] at bb
  refine wpAny_call (make_map (f := f) I.kIn M.makes M.init (beq_iff_eq.mp M.fn) (codeAny_mono (F.run _ X.stack _ _ _ _ _ _ E (hr.make C us []) (J.env0.make C us []) bb rr big) fun r s2 hq => ?_))
  match r, hq with
  | .error _, hq => exact hx pins _ _ _ s2 J hq
  | .ok (.ret u), hq =>
    obtain ⟨v, H3, J3, rw3, ev, q3⟩ := J.after hq
    subst ev
    exact ⟨rw3, V.ref (st.heap.objs.size + 1), H3, J3, rfl, q3⟩
  | .ok .next, hq => exact False.elim hq
  | .ok .brk, hq => exact False.elim hq
  | .ok .cont, hq => exact False.elim hq
theorem pe_makeQ {C : Addr} {sp : Sp} {E : L2.St → XK} {CX : CXT} {t : TA} (M : Mk X.K C f) (F : FnOk X.prog X.w X.K X.mg X.base CX k f fd ps sp) (hr : Room (k + 1) X.A) (hg : Gl X x) (hm : X.mg x = some (.ref C)) (hb : Binds X.K fd ps []) (hx : ∀ σ, PassesAt CX X σ (E σ)) (ha : PA X (e :: es) t)
    (hdb : (x == ("__debug__" : Str)) = false := by decide) (he : starEach (e :: es) X.env = (false, eval e X.env) :: starEach es X.env := by rfl) (hpl : (backTo pos (starEach es X.env)).any (·.1) = false := by rfl) :
    PE X (.Call (.Name x p) (e :: es) [] pos) (tMakeQ C sp E t) := by
  refine ⟨fun pn st sg Hh Qq I h => wpAny_Call_Name_kw (ld_glob I hg hm (PySem.W.callWith_K (h₀ := X.base) I.ok.mod.kin M.kp (thn (ha.run pos pn st sg Hh _ I h) fun us s1 hh => ?_) he hpl) hdb)⟩
  obtain ⟨vs, H1, I1, rv, q⟩ := hh
  exact ⟨I1.kIn, run_makeQ M F hr hb (hx sg) I1 rv q⟩
theorem pe_makeQ0 {C : Addr} {sp : Sp} {E : L2.St → XK} {CX : CXT} (M : Mk X.K C f) (F : FnOk X.prog X.w X.K X.mg X.base CX k f fd ps sp) (hr : Room (k + 1) X.A) (hg : Gl X x) (hm : X.mg x = some (.ref C)) (hb : Binds X.K fd ps []) (hx : ∀ σ, PassesAt CX X σ (E σ))
    (hdb : (x == ("__debug__" : Str)) = false := by decide) : PE X (.Call (.Name x p) [] [] pos) (tMakeQ C sp E tNil) :=
  ⟨fun pn st sg Hh Qq I h => wpAny_Call_Name_kw (ld_glob I hg hm (PySem.W.callWith_K0 I.kIn M.kp (run_makeQ (us := []) (vs := []) M F hr hb (hx sg) I .nil h)) hdb)⟩
def dMake (c : Nat) (w : DSp) (ED : DX → DEnv → Store → Prop) (dt : DA) : DE := fun σ S Q => dt σ S fun ds S1 => ∀ p, S1 p = none → w (.obj p :: ds) (put S1 p (.ins c [])) (fun v S2 => v = .non ∧ Q (.obj p) S2) fun y S3 => ED y σ S3
theorem sim_make {c : Nat} {tt : TA} (ht : SimA K B n dt tt) : SimE K B (dMake c w B.ED dt) (tMakeQ (B.ca c) (lift K B.ca (n + 1) w) (fun σV cls dd H => XW K B cls dd σV H) tt) := by
  intro F σ S σV H Q QV R q P
  refine ht F σ S σV H _ _ R q fun xs vs F1 S1 H1 f1 r1 d1 l1 q1 => ?_
  intro x dx hx hdx hne
  have fa := fr_newD (F := F1) (S := S1) (u := .own x) hdx
  have ra := r1.newD (u := .own x) hdx
  have hx' : (upd H1 dx (.own x)) x = none := by rw [upd_ne (Ne.symm hne)]; exact hx
  have fb := fr_new (F := F1) (S := S1) (o := .ins c []) (u := .ins (B.ca c) dx []) hx'
  have rb := ra.new (o := .ins c []) (u := .ins (B.ca c) dx []) hx' ⟨dx, [], upd_same, .nil⟩
  have fab := fa.trans fb
  refine lift_of (Q := fun v S2 => v = .non ∧ Q (.obj x) S2) (by rw [List.length_cons, l1]) (.cons (.obj x) (d1.mono r1 fab)) rb (q1 x (r1.free hx)) ?_ (post_xw R (f1.trans fab) rb)
  intro y u F2 S2 H2 f2 r2 d2 q2
  obtain ⟨ey, q2⟩ := q2
  subst ey
  cases d2
  exact ⟨rfl, P _ _ F2 S2 H2 (f1.trans (fab.trans f2)) r2 (.obj x) q2⟩
theorem pd_make {c : Nat} (M : Mk X.K (B.ca c) f) (F : FnOk X.prog X.w X.K X.mg X.base (L2.CX X.prog X.w) k f fd ps (lift X.K B.ca (n + 1) w)) (hr : Room (k + 1) X.A) (hg : Gl X x) (hm : X.mg x = some (.ref (B.ca c))) (hb : Binds X.K fd ps []) (tk : Takes X (XW X.K B)) (ha : PDA X B (e :: es) n dt)
    (hdb : (x == ("__debug__" : Str)) = false := by decide) (he : starEach (e :: es) X.env = (false, eval e X.env) :: starEach es X.env := by rfl) (hpl : (backTo pos (starEach es X.env)).any (·.1) = false := by rfl) :
    PD X B (.Call (.Name x p) (e :: es) [] pos) (dMake c w B.ED dt) := pd_of (pe_makeQ M F hr hg hm hb (passXW tk) pa_w hdb he hpl) (sim_make ha)
theorem pd_make0 {c : Nat} (M : Mk X.K (B.ca c) f) (F : FnOk X.prog X.w X.K X.mg X.base (L2.CX X.prog X.w) k f fd ps (lift X.K B.ca 1 w)) (hr : Room (k + 1) X.A) (hg : Gl X x) (hm : X.mg x = some (.ref (B.ca c))) (hb : Binds X.K fd ps []) (tk : Takes X (XW X.K B))
    (hdb : (x == ("__debug__" : Str)) = false := by decide) : PD X B (.Call (.Name x p) [] [] pos) (dMake c w B.ED dNil) := pd_of (pe_makeQ0 M F hr hg hm hb (passXW tk) hdb) (sim_make sim_nil)
end
end
end DL
/-! DL6: statements, targets, loops, comprehensions over data. -/
namespace DL
open PySem PySem.Spec PyProof.Rows L2

structure DEnds where
  nx : DEnv → Store → Prop
  rt : QE
  bk : DEnv → Store → Prop := fun _ _ => False
  ct : DEnv → Store → Prop := fun _ _ => False
abbrev DS := DEnds → DEnv → Store → Prop

section
variable {K : PySem.W.Frag} {ca : Nat → Addr} {F F' : Addr → Prop} {S S' : Store} {H H' : Hp} {B : Bc} {Q : QE} {QV : VK} {d : D} {v : V} {l : List D} {X : Cx} {a b e o : Expr} {es : List Expr} {da db dd : DE} {ta tb te : TE} {pos p2 : Pos} {n : Nat} {σ : DEnv} {σV : L2.St}
def PostS (K : PySem.W.Frag) (B : Bc) (F : Addr → Prop) (S : Store) (H : Hp) (Q : DEnv → Store → Prop) (QV : L2.St → Hp → Prop) : Prop :=
  ∀ F' σ' S' σV' H', Fr F S H F' S' H' → Rel K B F' σ' S' σV' H' → Q σ' S' → QV σV' H'
structure PostD (K : PySem.W.Frag) (B : Bc) (F : Addr → Prop) (S : Store) (H : Hp) (D : DEnds) (V : Ends) : Prop where
  nx : PostS K B F S H D.nx V.nx
  rt : PostE K B.ca F S H D.rt V.rt
  bk : PostS K B F S H D.bk V.bk
  ct : PostS K B F S H D.ct V.ct
theorem PostS.step {Q : DEnv → Store → Prop} {QV : L2.St → Hp → Prop} (p : PostS K B F S H Q QV) (f : Fr F S H F' S' H') : PostS K B F' S' H' Q QV := fun _ _ _ _ _ g => p _ _ _ _ _ (f.trans g)
theorem PostD.step {D : DEnds} {V : Ends} (p : PostD K B F S H D V) (f : Fr F S H F' S' H') : PostD K B F' S' H' D V := ⟨p.nx.step f, p.rt.step f, p.bk.step f, p.ct.step f⟩
theorem PostS.at {Q : DEnv → Store → Prop} {QV : L2.St → Hp → Prop} (p : PostS K B F S H Q QV) (R : Rel K B F σ S σV H) (q : Q σ S) : QV σV H := p F σ S σV H Fr.refl R q
def SimS (K : PySem.W.Frag) (B : Bc) (d : DS) (t : TS) : Prop := ∀ F σ S σV H D V, Rel K B F σ S σV H → d D σ S → PostD K B F S H D V → t V σV H

def wpS (X : Cx) (st : Stmt) : TS := fun D σ H => ∀ (pins : List (Addr × Obj)) (s : Shared), Inv X pins σ H s → wpAny (model X.prog X.w) X.A (exec st X.env) (SP X pins D) X.xe s
def wpSs (X : Cx) (st : List Stmt) : TS := fun D σ H => ∀ (pins : List (Addr × Obj)) (s : Shared), Inv X pins σ H s → wpAny (model X.prog X.w) X.A (execs st X.env) (SP X pins D) X.xe s
theorem ps_w {st : Stmt} : PS X st (wpS X st) := ⟨fun pins s _ _ _ I h => h pins s I⟩
theorem pss_w {st : List Stmt} : PSs X st (wpSs X st) := ⟨fun pins s _ _ _ I h => h pins s I⟩
def PDS (X : Cx) (B : Bc) (st : Stmt) (d : DS) : Prop := SimS X.K B d (wpS X st)
def PDSs (X : Cx) (B : Bc) (st : List Stmt) (d : DS) : Prop := SimS X.K B d (wpSs X st)
variable {st : Stmt} {rest body : List Stmt} {ds du : DS} {t u : TS}
theorem pds_of (h : PS X st t) (s : SimS X.K B ds t) : PDS X B st ds := fun F σ S σV H D V R q P pins s' I => h.run pins s' σV H V I (s F σ S σV H D V R q P)
theorem pdss_of {st : List Stmt} (h : PSs X st t) (s : SimS X.K B ds t) : PDSs X B st ds := fun F σ S σV H D V R q P pins s' I => h.run pins s' σV H V I (s F σ S σV H D V R q P)
def dNext : DS := fun D σ S => D.nx σ S
def dSeq (t u : DS) : DS := fun D σ S => t { D with nx := u D } σ S
theorem sim_next : SimS K B dNext tNext := fun F σ S σV H D V R q P => P.nx.at R q
theorem sim_seq (h1 : SimS K B ds t) (h2 : SimS K B du u) : SimS K B (dSeq ds du) (tSeq t u) := by
  intro F σ S σV H D V R q P
  exact h1 F σ S σV H _ _ R q ⟨fun F1 σ1 S1 σV1 H1 f R1 q1 => h2 F1 σ1 S1 σV1 H1 D V R1 q1 (P.step f), P.rt, P.bk, P.ct⟩
theorem pds_nil : PDSs X B [] dNext := pdss_of pss_nil sim_next
theorem pds_cons (h1 : PDS X B st ds) (h2 : PDSs X B rest du) : PDSs X B (st :: rest) (dSeq ds du) := pdss_of (pss_cons ps_w pss_w) (sim_seq h1 h2)
theorem pds_one (h1 : PDS X B st ds) : PDSs X B [st] ds := pdss_of (pss_one ps_w) h1
def dBrk : DS := fun D σ S => D.bk σ S
def dCnt : DS := fun D σ S => D.ct σ S
theorem pds_pass : PDS X B (.Pass pos) dNext := pds_of ps_pass sim_next
theorem pds_break : PDS X B (.Break pos) dBrk := pds_of ps_break fun F σ S σV H D V R q P => P.bk.at R q
theorem pds_continue : PDS X B (.Continue pos) dCnt := pds_of ps_continue fun F σ S σV H D V R q P => P.ct.at R q
theorem pds_doc {x j pos pos'} : PDS X B (.Expr (.Constant (.str x) j pos) pos') dNext := pds_of ps_doc sim_next
def dDrop (d : DE) : DS := fun D σ S => d σ S fun _ S1 => D.nx σ S1
theorem pds_expr (h : PD X B e da) (hs : swapsWith e none pos.line X.env = pure false := by rfl) : PDS X B (.Expr e pos) (dDrop da) := by
  refine pds_of (ps_expr pe_w hs) fun F σ S σV H D V R q P => ?_
  exact h F σ S σV H _ _ R q fun x v F1 S1 H1 f1 r1 _ q1 => P.nx F1 σ S1 σV H1 f1 (R.step f1 r1) q1
def dRet (d : DE) : DS := fun D σ S => d σ S D.rt
theorem pds_ret (h : PD X B e da) : PDS X B (.Return (some e) pos) (dRet da) := by
  refine pds_of (ps_ret pe_w) fun F σ S σV H D V R q P => ?_
  exact h F σ S σV H _ _ R q P.rt
def dRetN : DS := fun D _ S => D.rt .non S
theorem pds_retN : PDS X B (.Return none pos) dRetN := pds_of ps_retN fun F σ S σV H D V R q P => P.rt.at R.st .non q
def dIfS (c : DT) (t u : DS) : DS := fun D σ S => c σ S fun k S1 => if k = true then t D σ S1 else u D σ S1
theorem sim_ifS {dc : DT} {tc : TT} (hc : SimT K B dc tc) (h1 : SimS K B ds t) (h2 : SimS K B du u) : SimS K B (dIfS dc ds du) (tIfS tc t u) := by
  intro F σ S σV H D V R q P
  refine hc F σ S σV H _ _ R q fun k F1 S1 H1 f1 r1 q1 => ?_
  cases k with
  | true => exact h1 F1 σ S1 σV H1 D V (R.step f1 r1) q1 (P.step f1)
  | false => exact h2 F1 σ S1 σV H1 D V (R.step f1 r1) q1 (P.step f1)
theorem pds_if {c : Expr} {dc : DT} {s1 s2 : List Stmt} (hc : PDT X B c dc) (h1 : PDSs X B s1 ds) (h2 : PDSs X B s2 du) : PDS X B (.If c s1 s2 pos) (dIfS dc ds du) := pds_of (ps_if pt_w pss_w pss_w) (sim_ifS hc h1 h2)
def dNever : DS := fun _ _ _ => False
theorem pds_never : PDS X B st dNever := pds_of ps_never fun _ _ _ _ _ _ _ _ q _ => q.elim
theorem pds_nevers {st : List Stmt} : PDSs X B st dNever := pdss_of pss_never fun _ _ _ _ _ _ _ _ q _ => q.elim

/-! ### targets -/
abbrev DG := D → DEnv → Store → (DEnv → Store → Prop) → Prop
abbrev DGs := List D → DEnv → Store → (DEnv → Store → Prop) → Prop
def SimG (K : PySem.W.Frag) (B : Bc) (d : DG) (t : TG) : Prop := ∀ F σ S σV H x v Q QV, Rel K B F σ S σV H → RelD K F H x v → d x σ S Q → PostS K B F S H Q QV → t v σV H QV
def SimGs (K : PySem.W.Frag) (B : Bc) (d : DGs) (t : TGs) : Prop := ∀ F σ S σV H x v Q QV, Rel K B F σ S σV H → RelDs K F H x v → d x σ S Q → PostS K B F S H Q QV → t v σV H QV
def gN (i : Nat) : DG := fun x σ S Q => Q (σ.set i (some x)) S
theorem sim_gN {i : Nat} : SimG K B (gN i) (gName i) := fun F σ S σV H x v Q QV R r q P => P F _ S _ H Fr.refl (R.set r) q
def gsN : DGs := fun xs σ S Q => xs = [] ∧ Q σ S
def gsC (g : DG) (gs : DGs) : DGs := fun xs σ S Q => match xs with
  | x :: r => g x σ S fun σ1 S1 => gs r σ1 S1 Q
  | [] => False
theorem sim_gsN : SimGs K B gsN gNil := by
  intro F σ S σV H x v Q QV R r q P
  obtain ⟨e, q⟩ := q
  subst e
  cases r
  exact ⟨rfl, P.at R q⟩
theorem sim_gsC {g : DG} {gs : DGs} {tg : TG} {tgs : TGs} (h1 : SimG K B g tg) (h2 : SimGs K B gs tgs) : SimGs K B (gsC g gs) (gCons tg tgs) := by
  intro F σ S σV H x v Q QV R r q P
  cases r with
  | nil => exact q.elim
  | @cons d v l vs rd r =>
    refine ⟨v, vs, rfl, ?_⟩
    refine h1 F σ S σV H d v _ _ R rd q fun F1 σ1 S1 σV1 H1 f1 R1 q1 => ?_
    exact h2 F1 σ1 S1 σV1 H1 l vs Q QV R1 (r.mono R.st f1) q1 fun F2 σ2 S2 σV2 H2 f2 => P F2 σ2 S2 σV2 H2 (f1.trans f2)
def gTp (n : Nat) (gs : DGs) : DG := fun x σ S Q => match x with
  | .tup l => l.length = n ∧ gs l σ S Q
  | _ => False
theorem sim_gTp {gs : DGs} {tgs : TGs} (h : SimGs K B gs tgs) : SimG K B (gTp n gs) (gTup K n tgs) := by
  intro F σ S σV H x v Q QV R r q P
  cases r with
  | tup ht rl => exact ⟨_, _, rfl, ht, by rw [← rl.length]; exact q.1, h F σ S σV H _ _ Q QV R rl q.2 P⟩
  | _ => exact q.elim
def wpG (X : Cx) (tg : Expr) : TG := fun v σ H Q => ∀ (pins : List (Addr × Obj)) (s : Shared) (u : Value), Inv X pins σ H s → RelV v u → wpAny (model X.prog X.w) X.A (assign tg X.env u) (fun _ s' => ∃ σ' H', Inv X pins σ' H' s' ∧ Q σ' H') X.xe s
theorem pg_w {tg : Expr} : PG X tg (wpG X tg) := ⟨fun pins s _ _ _ u _ I r h => h pins s u I r⟩
def PDG (X : Cx) (B : Bc) (tg : Expr) (d : DG) : Prop := SimG X.K B d (wpG X tg)
theorem pdg_of {tg : Expr} {d : DG} {t : TG} (h : PG X tg t) (s : SimG X.K B d t) : PDG X B tg d := fun F σ S σV H x v Q QV R r q P pins s' u I ru => h.run pins s' σV H v u QV I ru (s F σ S σV H x v Q QV R r q P)
theorem pdg_name (i : Nat) {x : Str} (hN : X.N.Nodup) (hi : X.N[i]? = some x := by rfl) (hx : Loc X.env.scope x := by first | exact Or.inl rfl | exact Or.inr rfl) (hf : X.fn x = true ∨ X.env.scope.names.lookup x = some .local := by first | exact .inl rfl | exact .inr rfl | assumption) : PDG X B (.Name x pos) (gN i) :=
  pdg_of (pg_name hN hi hx hf) sim_gN
def dAsg (d : DE) (g : DG) : DS := fun D σ S => d σ S fun x S1 => g x σ S1 D.nx
theorem sim_asg {g : DG} {tg : TG} (h : SimE K B da ta) (hg : SimG K B g tg) : SimS K B (dAsg da g) (tAsg ta tg) := by
  intro F σ S σV H D V R q P
  refine h F σ S σV H _ _ R q fun x v F1 S1 H1 f1 r1 d1 q1 => ?_
  exact hg F1 σ S1 σV H1 x v _ _ (R.step f1 r1) d1 q1 (P.nx.step f1)
theorem pds_set (i : Nat) {x : Str} {pos' : Pos} (hN : X.N.Nodup) (h : PD X B e da) (hi : X.N[i]? = some x := by rfl) (hx : Loc X.env.scope x := by first | exact Or.inl rfl | exact Or.inr rfl) (hs : swapsWith e (some (.Name x pos')) pos.line X.env = pure false := by rfl)
    (hf : X.fn x = true ∨ X.env.scope.names.lookup x = some .local := by first | exact .inl rfl | exact .inr rfl | assumption) : PDS X B (.Assign [.Name x pos'] e pos) (dAsg da (gN i)) :=
  pds_of (ps_set hN hi hx pe_w hs hf) (sim_asg h sim_gN)
theorem pds_asg {tg : Expr} {g : DG} (h : PD X B e da) (hg : PDG X B tg g) (hs : swapsWithSole [tg] e pos.line X.env = pure false := by rfl) (hw : swappedStores [tg] e X.env = pure none := by rfl)
    (h1 : (assignEach [tg] X.env).map (·.2) = [assign tg X.env] := by rfl) : PDS X B (.Assign [tg] e pos) (dAsg da g) := pds_of (ps_asg pe_w pg_w hs hw h1) (sim_asg h hg)
/-- a, b = e, f -/
def dPar (i j : Nat) (dt : DA) : DS := fun D σ S => dt σ S fun xs S1 => match xs with
  | [x, y] => D.nx ((σ.set i (some x)).set j (some y)) S1
  | _ => False
theorem pds_par (i j : Nat) {x y : Str} {dt : DA} {px py pt : Pos} {kt k2 pt2} (hc : X.calm = true) (hN : X.N.Nodup) (hij : i ≠ j) (ha : PDA X B [a, b] 2 dt)
    (hx : X.env.scope.names.lookup x = some .local) (hy : X.env.scope.names.lookup y = some .local) (hi : X.N[i]? = some x := by rfl) (hj : X.N[j]? = some y := by rfl)
    (hw : swappedStores [.Tuple [.Name x px, .Name y py] kt pt] (.Tuple [a, b] k2 pt2) X.env = pure (some [x, y]) := by rfl)
    (hs : swapsWithSole [.Tuple [.Name x px, .Name y py] kt pt] (.Tuple [a, b] k2 pt2) pos.line X.env = pure false := by rfl) :
    PDS X B (.Assign [.Tuple [.Name x px, .Name y py] kt pt] (.Tuple [a, b] k2 pt2) pos) (dPar i j dt) := by
  refine pds_of (ps_par hc hN hi hj hij hx hy pa_w hw hs) fun F σ S σV H D V R q P => ?_
  refine ha F σ S σV H _ _ R q fun xs vs F1 S1 H1 f1 r1 d1 l1 q1 => ?_
  match xs, vs, d1, q1 with
  | [x, y], [u, w], .cons r1' (.cons r2' .nil), q1 =>
    exact ⟨u, w, rfl, P.nx F1 _ S1 _ H1 f1 (((R.step f1 r1).set r1').set r2') q1⟩
/-- a field is stored -/
def dPutF (c : Nat) (f : String) (do_ dv : DE) : DS := fun D σ S => dv σ S fun y S1 => do_ σ S1 fun x S2 => ofO (insD S2 c x) fun z => z.2.length < 1000 ∧ D.nx σ (put S2 z.1 (.ins c (putFD f y z.2)))
theorem sim_putF {c : Nat} {f : String} {to_ tv : TE} (hc : Cls K (B.ca c)) (hn : NoAttr K (B.ca c) (Str.ofString f)) (ho : SimE K B da to_) (hv : SimE K B db tv) : SimS K B (dPutF c f da db) (sFld K to_ tv (Str.ofString f)) := by
  intro F σ S σV H D V R q P
  refine hv F σ S σV H _ _ R q fun y u F1 S1 H1 f1 r1 d1 q1 => ?_
  refine ho F1 σ S1 σV H1 _ _ (R.step f1 r1) q1 fun x v F2 S2 H2 f2 r2 d2 q2 => ?_
  obtain ⟨⟨p, fs⟩, ei, hl, q2⟩ := ofO_ex q2
  obtain ⟨_, ev, hS, dx, fv, hH, rf⟩ := insD_rel r2 d2 ei
  refine ⟨p, B.ca c, dx, fv, ev, hH, hc, hn, by rw [← fs_len rf]; exact hl, ?_⟩
  have fw := fr_write (F := F2) (H := H2) (o' := .ins c (putFD f y fs)) (u := .ins (B.ca c) dx (putF (Str.ofString f) u fv)) hS
  have rw2 := r2.write (o' := .ins c (putFD f y fs)) (u := .ins (B.ca c) dx (putF (Str.ofString f) u fv)) hS ⟨dx, _, upd_same, (fs_put rf (d1.mono r1 f2)).mono r2 fw⟩
  exact P.nx F2 σ _ σV _ (f1.trans (f2.trans fw)) (R.step (f1.trans (f2.trans fw)) rw2) q2
theorem pds_fld {c : Nat} {f : String} {pos' : Pos} (ho : PD X B o da) (hv : PD X B e db) (hc : Cls X.K (B.ca c)) (hn : NoAttr X.K (B.ca c) (Str.ofString f)) (hs : swapsWith e (some (.Attribute o (Str.ofString f) pos')) pos.line X.env = pure false := by rfl) :
    PDS X B (.Assign [.Attribute o (Str.ofString f) pos'] e pos) (dPutF c f da db) := pds_of (ps_fld pe_w pe_w hs) (sim_putF hc hn ho hv)
/-- name += e, field += e (ints) -/
def dAug (i : Nat) (g : Int → Int → Int) (d : DE) : DS := fun D σ S => match σ[i]? with
  | some (some (.int x)) => d σ S fun y S1 => match y with
    | .int y => D.nx (σ.set i (some (.int (g x y)))) S1
    | _ => False
  | _ => False
theorem sim_aug {i : Nat} {g : Int → Int → Int} (h : SimE K B da ta) : SimS K B (dAug i g da) (tAug i ta (ipI g)) := by
  intro F σ S σV H D V R q P
  unfold dAug at q
  split at q
  · rename_i x e
    obtain ⟨u, hu, ru⟩ := R.env.2 i _ e
    cases ru
    refine ⟨_, hu, ?_⟩
    refine h F σ S σV H _ _ R q fun y v F1 S1 H1 f1 r1 d1 q1 => ?_
    cases d1 with
    | int j => exact ⟨x, j, rfl, rfl, P.nx F1 _ S1 _ H1 f1 ((R.step f1 r1).set (.int _)) q1⟩
    | _ => exact q1.elim
  · exact q.elim
theorem pds_aug (i : Nat) {x : Str} {op : Operator} {g : Int → Int → Int} {pos' : Pos} (hN : X.N.Nodup) (ho : PIp X op (ipI g)) (h : PD X B e da) (hi : X.N[i]? = some x := by rfl) (hx : Loc X.env.scope x := by first | exact Or.inl rfl | exact Or.inr rfl)
    (hf : X.fn x = true ∨ X.env.scope.names.lookup x = some .local := by first | exact .inl rfl | exact .inr rfl | assumption) : PDS X B (.AugAssign (.Name x pos') op e pos) (dAug i g da) := pds_of (ps_aug hN hi hx pe_w ho hf) (sim_aug h)
def dAugF (c : Nat) (f : String) (g : Int → Int → Int) (do_ dv : DE) : DS := fun D σ S => do_ σ S fun x S1 => ofO (insD S1 c x) fun z => ofO (z.2.lookup f) fun old => dv σ S1 fun y S2 => match old, y with
  | .int i, .int j => ofO (insD S2 c x) fun z2 => z2.2.length < 1000 ∧ D.nx σ (put S2 z2.1 (.ins c (putFD f (.int (g i j)) z2.2)))
  | _, _ => False
theorem sim_augF {c : Nat} {f : String} {g : Int → Int → Int} {to_ tv : TE} (hc : Cls K (B.ca c)) (hn : NoAttr K (B.ca c) (Str.ofString f)) (ho : SimE K B da to_) (hv : SimE K B db tv) :
    SimS K B (dAugF c f g da db) (sFldAug K to_ tv (fun x y H Q => ∃ i j, x = .int i ∧ y = .int j ∧ Q (.int (g i j)) H) (Str.ofString f)) := by
  intro F σ S σV H D V R q P
  refine ho F σ S σV H _ _ R q fun x v F1 S1 H1 f1 r1 d1 q1 => ?_
  obtain ⟨⟨p, fs⟩, ei, q1⟩ := ofO_ex q1
  obtain ⟨old, eo, q1⟩ := ofO_ex q1
  obtain ⟨_, ev, hS, dx, fv, hH, rf⟩ := insD_rel r1 d1 ei
  obtain ⟨u, eu, ru⟩ := (fs_lookup rf f).1 old eo
  refine ⟨p, B.ca c, dx, fv, u, ev, hH, hc, hn, eu, ?_⟩
  refine hv F1 σ S1 σV H1 _ _ (R.step f1 r1) q1 fun y w F2 S2 H2 f2 r2 d2 q2 => ?_
  cases ru with
  | int i =>
    cases d2 with
    | int j =>
      refine ⟨i, j, rfl, rfl, ?_⟩
      obtain ⟨⟨p2, fs2⟩, ei2, hl, q2⟩ := ofO_ex q2
      obtain ⟨ex2, ev2, hS2, dx2, fv2, hH2, rf2⟩ := insD_rel r2 (d1.mono r1 f2) ei2
      have ep : p2 = p := by rw [ev] at ev2; cases ev2; rfl
      subst ep
      refine ⟨dx2, fv2, hH2, by rw [← fs_len rf2]; exact hl, ?_⟩
      have fw := fr_write (F := F2) (H := H2) (o' := .ins c (putFD f (.int (g i j)) fs2)) (u := .ins (B.ca c) dx2 (putF (Str.ofString f) (.int (g i j)) fv2)) hS2
      have rw2 := r2.write (o' := .ins c (putFD f (.int (g i j)) fs2)) (u := .ins (B.ca c) dx2 (putF (Str.ofString f) (.int (g i j)) fv2)) hS2 ⟨dx2, _, upd_same, (fs_put rf2 (.int _)).mono r2 fw⟩
      exact P.nx F2 σ _ σV _ (f1.trans (f2.trans fw)) (R.step (f1.trans (f2.trans fw)) rw2) q2
    | _ => exact q2.elim
  | _ => exact q2.elim
theorem pds_augF {c : Nat} {f : String} {op : Operator} {g : Int → Int → Int} {tpos : Pos} (ho : PD X B o da) (hv : PD X B e db) (hc : Cls X.K (B.ca c)) (hn : NoAttr X.K (B.ca c) (Str.ofString f)) (hop : InOp X op (fun x y H Q => ∃ i j, x = .int i ∧ y = .int j ∧ Q (.int (g i j)) H)) :
    PDS X B (.AugAssign (.Attribute o (Str.ofString f) tpos) op e pos) (dAugF c f g da db) := pds_of (ps_fldaug pe_w pe_w hop) (sim_augF hc hn ho hv)
/-- o[i] = e -/
def putKD (k : String) (v : D) (kd : List (String × D)) : List (String × D) :=
  if (kd.any fun p => decide (p.1 = k)) = true then kd.map (fun p => if p.1 = k then (p.1, v) else p) else kd ++ [(k, v)]
theorem key_dec (s k : String) : decide ((Sum.inr (Str.ofString s) : Key) = Sum.inr (Str.ofString k)) = decide (s = k) :=
  decide_eq_decide.mpr ⟨fun z => ofS_inj (Sum.inr.inj z), fun z => by rw [z]⟩
theorem ks_any {kd : List (String × D)} {kv : List (Key × V)} (q : RelKs K F H kd kv) (k : String) : (kv.any fun p => decide (p.1 = (Sum.inr (Str.ofString k) : Key))) = kd.any fun p => decide (p.1 = k) := by
  induction kd generalizing kv with
  | nil => cases q; rfl
  | cons p r ih =>
    cases q with
    | cons h q => rw [List.any_cons, List.any_cons, ih q, key_dec]
theorem ks_map {kd : List (String × D)} {kv : List (Key × V)} (q : RelKs K F H kd kv) {k : String} {x : D} {u : V} (rx : RelD K F H x u) :
    RelKs K F H (kd.map fun p => if p.1 = k then (p.1, x) else p) (kv.map fun p => if p.1 = (Sum.inr (Str.ofString k) : Key) then (p.1, u) else p) := by
  induction kd generalizing kv with
  | nil => cases q; exact .nil
  | cons p r ih =>
    cases q with
    | @cons s d v _ vs h q =>
      rw [List.map_cons, List.map_cons]
      by_cases e : s = k
      · subst e
        rw [if_pos rfl, if_pos rfl]
        exact .cons rx (ih q)
      · rw [if_neg e, if_neg fun z => e (ofS_inj (Sum.inr.inj z))]
        exact .cons h (ih q)
theorem ks_app {kd : List (String × D)} {kv : List (Key × V)} (q : RelKs K F H kd kv) {k : String} {x : D} {u : V} (rx : RelD K F H x u) : RelKs K F H (kd ++ [(k, x)]) (kv ++ [(.inr (Str.ofString k), u)]) := by
  induction kd generalizing kv with
  | nil => cases q; exact .cons rx .nil
  | cons p r ih => cases q with | cons h q => exact .cons h (ih q)
theorem ks_put {kd : List (String × D)} {kv : List (Key × V)} (q : RelKs K F H kd kv) {k : String} {x : D} {u : V} (rx : RelD K F H x u) : RelKs K F H (putKD k x kd) (putK kv (.inr (Str.ofString k)) u) := by
  unfold putKD putK
  rw [ks_any q k]
  by_cases h : (kd.any fun p => decide (p.1 = k)) = true
  · rw [if_pos h, if_pos h]
    exact ks_map q rx
  · rw [if_neg h, if_neg h]
    exact ks_app q rx
abbrev DSet := D → D → D → Store → (Store → Prop) → Prop
def stD : DSet := fun o i v S Q => match o with
  | .obj p => match S p with
    | some (.lst l) => match i with
      | .int k => ofO (ixN l.length k) fun j => Q (put S p (.lst (l.set j v)))
      | _ => False
    | some (.dic kd) => match i with
      | .str k => kd.length < lim ∧ Q (put S p (.dic (putKD k v kd)))
      | _ => False
    | _ => False
  | _ => False
def rSetX : TSet := fun o i v H Q => rSetL o i v H Q ∨ ∃ a H4, o = .ref a ∧ DPut H a i v H4 ∧ Q H4
theorem set_X (hu : X.A.units + 1 < cLine) : PSet X rSetX := by
  intro pins s σ H o i v ov iv u Q I ro ri rv h
  rcases h with h | ⟨a, H4, rfl, g, q⟩
  · exact set_list pins s σ H o i v ov iv u Q I ro ri rv h
  · obtain rfl : ov = Value.ref a := ro
    exact d_setItem hu I g ri rv fun s1 I1 => ⟨H4, I1, q⟩
def gSb (do_ di : DE) (t : DSet) : DG := fun v σ S Q => do_ σ S fun o S1 => di σ S1 fun i S2 => t o i v S2 fun S3 => Q σ S3
theorem sim_gSb {to_ ti : TE} (ho : SimE K B da to_) (hi : SimE K B db ti) : SimG K B (gSb da db stD) (gSub to_ ti rSetX) := by
  intro F σ S σV H x v Q QV R r q P
  refine ho F σ S σV H _ _ R q fun o ov F1 S1 H1 f1 r1 d1 q1 => ?_
  refine hi F1 σ S1 σV H1 _ _ (R.step f1 r1) q1 fun i iv F2 S2 H2 f2 r2 d2 q2 => ?_
  have rv2 := r.mono R.st (f1.trans f2)
  have d1' := d1.mono r1 f2
  cases d1' with
  | obj p =>
    unfold stD at q2
    dsimp only at q2
    cases e : S2 p with
    | none => rw [e] at q2; exact q2.elim
    | some w =>
      rw [e] at q2
      obtain ⟨_, ro⟩ := r2.ob p _ e
      cases w with
      | lst l =>
        cases d2 with
        | int k =>
          obtain ⟨j, ej, q2⟩ := ofO_ex q2
          obtain ⟨vs, hH, ql⟩ := ro
          refine .inl ⟨p, vs, k, j, rfl, rfl, hH, by rw [← ql.length]; exact ej, ?_⟩
          have fw := fr_write (F := F2) (H := H2) (o' := .lst (l.set j x)) (u := .lst (vs.set j v)) e
          have rw2 := r2.write (o' := .lst (l.set j x)) (u := .lst (vs.set j v)) e ⟨_, upd_same, (ql.set rv2 j).mono r2 fw⟩
          exact P F2 σ _ σV _ (f1.trans (f2.trans fw)) (R.step (f1.trans (f2.trans fw)) rw2) q2
        | _ => exact q2.elim
      | dic kd =>
        cases d2 with
        | str k =>
          obtain ⟨hl, q2⟩ := q2
          obtain ⟨kv, hH, qk⟩ := ro
          refine .inr ⟨p, _, rfl, DPut.k (k := .inr (Str.ofString k)) hH (by rw [← ks_len qk, lim_eq]; exact hl), ?_⟩
          have fw := fr_write (F := F2) (H := H2) (o' := .dic (putKD k x kd)) (u := .dK (putK kv (.inr (Str.ofString k)) v)) e
          have rw2 := r2.write (o' := .dic (putKD k x kd)) (u := .dK (putK kv (.inr (Str.ofString k)) v)) e ⟨_, upd_same, (ks_put qk rv2).mono r2 fw⟩
          exact P F2 σ _ σV _ (f1.trans (f2.trans fw)) (R.step (f1.trans (f2.trans fw)) rw2) q2
        | _ => exact q2.elim
      | ins c fs => exact q2.elim
  | _ => exact q2.elim
theorem pdg_sub {i : Expr} (hu : X.A.units + 1 < cLine) (ho : PD X B o da) (hi : PD X B i db)
    (ha : ∀ v, assign (.Subscript o i pos) X.env v = (do
      let ov ← holding [v] (eval o X.env)
      let iv ← holding [v, ov] (eval i X.env)
      standAt pos
      holding [v, ov, iv] (setItem ov iv v)
      release [v, ov, iv] []) := by intro _; rfl) : PDG X B (.Subscript o i pos) (gSb da db stD) := pdg_of (pg_sub pe_w pe_w (set_X hu) ha) (sim_gSb ho hi)

/-! ### while -/
def dWhile (c : DT) (tb : DS) : DS := fun D σ S => ∃ W : Nat → DEnv → Store → Prop, (∃ m, W m σ S) ∧ ∀ m σ S, W m σ S →
  c σ S fun k S1 => if k = true then ∃ N : DEnv → Store → Prop, (∀ σ' S', N σ' S' → ∃ m', m' < m ∧ W m' σ' S') ∧ tb { D with nx := N, ct := N, bk := D.nx } σ S1 else D.nx σ S1
theorem sim_while {dc : DT} {tc : TT} (hc : SimT K B dc tc) (hb : SimS K B ds t) : SimS K B (dWhile dc ds) (tWhile tc t) := by
  intro F σ S σV H D V R q P
  obtain ⟨W, ⟨m0, w0⟩, turn⟩ := q
  refine ⟨fun m σV' H' => ∃ F' σ' S', Fr F S H F' S' H' ∧ Rel K B F' σ' S' σV' H' ∧ W m σ' S', ⟨m0, F, σ, S, Fr.refl, R, w0⟩, ?_⟩
  rintro m σV1 H1 ⟨F1, σ1, S1, f1, R1, w1⟩
  refine hc F1 σ1 S1 σV1 H1 _ _ R1 (turn m σ1 S1 w1) fun k F2 S2 H2 f2 r2 q2 => ?_
  cases k with
  | false => exact P.nx F2 σ1 S2 σV1 H2 (f1.trans f2) (R1.step f2 r2) q2
  | true =>
    obtain ⟨N, hN, q2⟩ := q2
    refine ⟨fun σV' H' => ∃ F' σ' S', Fr F S H F' S' H' ∧ Rel K B F' σ' S' σV' H' ∧ N σ' S', ?_, ?_⟩
    · rintro σV' H' ⟨F', σ', S', f', R', n'⟩
      obtain ⟨m', hm, w'⟩ := hN σ' S' n'
      exact ⟨m', hm, F', σ', S', f', R', w'⟩
    · have fz := f1.trans f2
      refine hb F2 σ1 S2 σV1 H2 _ _ (R1.step f2 r2) q2 ⟨?_, P.rt.step fz, P.nx.step fz, ?_⟩
      · intro F' σ' S' σV' H' f' R' n'
        exact ⟨F', σ', S', fz.trans f', R', n'⟩
      · intro F' σ' S' σV' H' f' R' n'
        exact ⟨F', σ', S', fz.trans f', R', n'⟩
theorem pds_while {c : Expr} {dc : DT} (hp : PassesOwn (model X.prog X.w) X.A X.env X.xe) (hc : PDT X B c dc) (hb : PDSs X B body ds) : PDS X B (.While c body [] pos) (dWhile dc ds) := pds_of (ps_while hp pt_w pss_w) (sim_while hc hb)

/-! ### what is walked: the items, and what keeps them -/
abbrev DI := DEnv → Store → (List D → (Store → Prop) → Store → Prop) → Prop
/-- the walk J gives the items L while keep holds -/
def ItRel (K : PySem.W.Frag) (ca : Nat → Addr) (F : Addr → Prop) (S : Store) (H : Hp) (L : List D) (keep : Store → Prop) (J : It) : Prop :=
  ∀ (i : Nat) F' S' H', Fr F S H F' S' H' → RelS K ca F' S' H' → keep S' →
    (∀ d, L[i]? = some d → J.go i H' ∧ ∀ x H'', J.yld i H' x H'' → Fr F' S' H' F' S' H'' ∧ RelS K ca F' S' H'' ∧ RelD K F' H'' d x) ∧ (L.length ≤ i → J.stop i H')
def SimI (K : PySem.W.Frag) (B : Bc) (d : DI) (t : TI) : Prop := ∀ F σ S σV H Q (R' : It → Hp → Prop), Rel K B F σ S σV H → d σ S Q →
  (∀ L keep F' S' H' J, Fr F S H F' S' H' → RelS K B.ca F' S' H' → ItRel K B.ca F' S' H' L keep J → Q L keep S' → R' J H') → t σV H R'
def PDI (X : Cx) (B : Bc) (tg iter : Expr) (d : DI) : Prop := ∃ t, PI X tg iter t ∧ SimI X.K B d t
/-- over a list or a tuple: its items; a list of the store must stay as it is -/
def keepL (x : D) (l : List D) : Store → Prop := fun S => asL S x = some l
def iL (d : DE) : DI := fun σ S Q => d σ S fun x S1 => ofO (asL S1 x) fun l => Q l (keepL x l) S1
def iT (d : DE) : DI := fun σ S Q => d σ S fun x S1 => match x with
  | .tup l => Q l (fun _ => True) S1
  | _ => False
theorem sim_iL (h : SimE K B da ta) : SimI K B (iL da) (iList K ta) := by
  intro F σ S σV H Q R' R q P
  refine h F σ S σV H _ _ R q fun x v F1 S1 H1 f1 r1 d1 q1 => ?_
  obtain ⟨l, e, q1⟩ := ofO_ex q1
  obtain ⟨a, vs, ev, hs, ql⟩ := asL_rel r1 d1 e
  refine ⟨a, ev, ⟨vs, hs⟩, P l _ F1 S1 H1 _ f1 r1 ?_ q1⟩
  intro i F' S' H' f' r' kp
  obtain ⟨a', vs', ev', hs', ql'⟩ := asL_rel r' (d1.mono r1 f') kp
  rw [ev] at ev'
  cases ev'
  refine ⟨fun d ed => ?_, fun hl => ⟨vs', hs', by rw [← ql'.length]; exact hl⟩⟩
  obtain ⟨u, eu, ru⟩ := ql'.get ed
  refine ⟨⟨vs', u, hs', eu⟩, fun x H'' y => ?_⟩
  obtain ⟨e1, y⟩ := y
  subst e1
  have e2 := y vs' hs'
  rw [eu] at e2
  cases e2
  exact ⟨Fr.refl, r', ru⟩
theorem sim_iT (h : SimE K B da ta) : SimI K B (iT da) (iTup K ta) := by
  intro F σ S σV H Q R' R q P
  refine h F σ S σV H _ _ R q fun x v F1 S1 H1 f1 r1 d1 q1 => ?_
  cases d1 with
  | @tup a vs l hs ql =>
    refine ⟨a, rfl, ⟨vs, hs⟩, P l _ F1 S1 H1 _ f1 r1 ?_ q1⟩
    intro i F' S' H' f' r' _
    have hs' := fr_t r1 f' hs
    have ql' := ql.mono r1 f'
    refine ⟨fun d ed => ?_, fun hl => ⟨vs, hs', by rw [← ql'.length]; exact hl⟩⟩
    obtain ⟨u, eu, ru⟩ := ql'.get ed
    refine ⟨⟨vs, u, hs', eu⟩, fun x H'' y => ?_⟩
    obtain ⟨e1, y⟩ := y
    subst e1
    have e2 := y vs hs'
    rw [eu] at e2
    cases e2
    exact ⟨Fr.refl, r', ru⟩
  | _ => exact q1.elim
theorem pdi_list {tg : Expr} (h : PD X B e da) : PDI X B tg e (iL da) := ⟨_, pi_list pe_w, sim_iL h⟩
theorem pdi_tup {tg : Expr} (h : PD X B e da) : PDI X B tg e (iT da) := ⟨_, pi_tup pe_w, sim_iT h⟩
def rangeD (lo : Int) (n : Nat) : List D := (List.range n).map fun (i : Nat) => D.int (lo + (i : Int))
theorem rangeD_get {lo : Int} {n i : Nat} {d : D} (e : (rangeD lo n)[i]? = some d) : i < n ∧ d = .int (lo + (i : Int)) := by
  unfold rangeD at e
  rw [List.getElem?_map] at e
  by_cases h : i < n
  · rw [List.getElem?_range h] at e
    cases e
    exact ⟨h, rfl⟩
  · rw [List.getElem?_eq_none (by simpa using h)] at e
    cases e
theorem it_range (lo : Int) (n : Nat) : ItRel K ca F S H (rangeD lo n) (fun _ => True) (Itr lo n) := by
  intro i F' S' H' f' r' _
  refine ⟨fun d ed => ?_, fun hl => show n ≤ i by unfold rangeD at hl; simpa using hl⟩
  obtain ⟨hi, rfl⟩ := rangeD_get ed
  refine ⟨hi, fun x H'' y => ?_⟩
  obtain ⟨e1, e2⟩ := y
  subst e1 e2
  exact ⟨Fr.refl, r', .int _⟩
def iR1 (dt : DA) : DI := fun σ S Q => dt σ S fun xs S1 => match xs with
  | [.int j] => (-(2 ^ 62) ≤ j ∧ j < 2 ^ 62) ∧ Q (rangeD 0 j.toNat) (fun _ => True) S1
  | _ => False
def iR2 (dt : DA) : DI := fun σ S Q => dt σ S fun xs S1 => match xs with
  | [.int i, .int j] => (-(2 ^ 62) ≤ i ∧ i < 2 ^ 62 ∧ -(2 ^ 62) ≤ j ∧ j < 2 ^ 62) ∧ Q (rangeD i (j - i).toNat) (fun _ => True) S1
  | _ => False
theorem sim_iR1 {dt : DA} {tt : TA} (h : SimA K B n dt tt) : SimI K B (iR1 dt) (iRng1 tt) := by
  intro F σ S σV H Q R' R q P
  refine h F σ S σV H _ _ R q fun xs vs F1 S1 H1 f1 r1 d1 _ q1 => ?_
  match xs, vs, d1, q1 with
  | [.int j], _, .cons (.int _) .nil, q1 => exact ⟨j, rfl, q1.1.1, q1.1.2, P _ _ F1 S1 H1 _ f1 r1 (it_range 0 _) q1.2⟩
theorem sim_iR2 {dt : DA} {tt : TA} (h : SimA K B n dt tt) : SimI K B (iR2 dt) (iRng2 tt) := by
  intro F σ S σV H Q R' R q P
  refine h F σ S σV H _ _ R q fun xs vs F1 S1 H1 f1 r1 d1 _ q1 => ?_
  match xs, vs, d1, q1 with
  | [.int i, .int j], _, .cons (.int _) (.cons (.int _) .nil), q1 => exact ⟨i, j, rfl, q1.1, P _ _ F1 S1 H1 _ f1 r1 (it_range i _) q1.2⟩
theorem pdi_range1 {tg : Expr} {dt : DA} {p : Pos} (hg : Gl X "range") (hm : X.mg "range" = none) (ha : PDA X B [a] n dt) (hs : starEach [a] X.env = [(false, eval a X.env)] := by rfl) : PDI X B tg (.Call (.Name "range" p) [a] [] pos) (iR1 dt) := ⟨_, pi_range1 hg hm pa_w hs, sim_iR1 ha⟩
theorem pdi_range2 {tg : Expr} {dt : DA} {p : Pos} (hg : Gl X "range") (hm : X.mg "range" = none) (ha : PDA X B [a, b] n dt) (hs : starEach [a, b] X.env = [(false, eval a X.env), (false, eval b X.env)] := by rfl) (hs2 : starEach [b] X.env = [(false, eval b X.env)] := by rfl) :
    PDI X B tg (.Call (.Name "range" p) [a, b] [] pos) (iR2 dt) := ⟨_, pi_range2 hg hm pa_w hs hs2, sim_iR2 ha⟩
/-- reversed(list) -/
def iRv (dt : DA) : DI := fun σ S Q => dt σ S fun xs S1 => match xs with
  | [x] => ofO (asL S1 x) fun l => Q l.reverse (keepL x l) S1
  | _ => False
theorem sim_iRv {dt : DA} {tt : TA} (h : SimA K B n dt tt) : SimI K B (iRv dt) (iRev K tt) := by
  intro F σ S σV H Q R' R q P
  refine h F σ S σV H _ _ R q fun xs vs F1 S1 H1 f1 r1 d1 _ q1 => ?_
  match xs, vs, d1, q1 with
  | [x], [v], .cons dx .nil, q1 =>
    obtain ⟨l, e, q1⟩ := ofO_ex q1
    obtain ⟨a, ws, ev, hs, ql⟩ := asL_rel r1 dx e
    refine ⟨a, ws, by rw [ev], hs, P _ _ F1 S1 H1 _ f1 r1 ?_ q1⟩
    intro i F' S' H' f' r' kp
    obtain ⟨a', vs', ev', hs', ql'⟩ := asL_rel r' (dx.mono r1 f') kp
    rw [ev] at ev'
    cases ev'
    have hlen : vs'.length = ws.length := by rw [← ql'.length, ql.length]
    refine ⟨fun d ed => ?_, fun hl => by rw [List.length_reverse, ql.length] at hl; exact hl⟩
    have hi : i < l.length := by
      have z := (List.getElem?_eq_some_iff.mp ed).1
      rwa [List.length_reverse] at z
    rw [List.getElem?_reverse hi] at ed
    obtain ⟨u, eu, ru⟩ := ql'.get ed
    rw [ql.length] at eu
    refine ⟨⟨by rw [← ql.length]; exact hi, vs', u, hs', eu⟩, fun x H'' y => ?_⟩
    obtain ⟨e1, y⟩ := y
    subst e1
    have e2 := y vs' hs'
    rw [eu] at e2
    cases e2
    exact ⟨Fr.refl, r', ru⟩
theorem pdi_rev {tg : Expr} {dt : DA} {p : Pos} (hg : Gl X "reversed") (hm : X.mg "reversed" = none) (ha : PDA X B [e] n dt) (hs : starEach [e] X.env = [(false, eval e X.env)] := by rfl) : PDI X B tg (.Call (.Name "reversed" p) [e] [] pos) (iRv dt) := ⟨_, pi_reversed hg hm pa_w hs, sim_iRv ha⟩
/-- enumerate(list), zip(list, list): the target is a tuple -/
def enumD (i : Nat) : List D → List D
  | [] => []
  | d :: l => .tup [.int (i : Int), d] :: enumD (i + 1) l
theorem enumD_len : ∀ (l : List D) (i : Nat), (enumD i l).length = l.length
  | [], _ => rfl
  | _ :: l, i => by rw [enumD, List.length_cons, enumD_len l, List.length_cons]
theorem enumD_get : ∀ (l : List D) (i j : Nat) {x : D}, (enumD j l)[i]? = some x → ∃ d, l[i]? = some d ∧ x = .tup [.int ((j + i : Nat) : Int), d]
  | [], i, j, x, e => by simp [enumD] at e
  | d :: l, 0, j, x, e => by
    simp [enumD] at e
    exact ⟨d, rfl, e.symm⟩
  | d :: l, i + 1, j, x, e => by
    obtain ⟨z, e1, e2⟩ := enumD_get l i (j + 1) (x := x) (by simpa [enumD] using e)
    exact ⟨z, by simpa using e1, by rw [e2, show j + 1 + i = j + (i + 1) by omega]⟩
def iEn (dt : DA) : DI := fun σ S Q => dt σ S fun xs S1 => match xs with
  | [x] => ofO (asL S1 x) fun l => Q (enumD 0 l) (keepL x l) S1
  | _ => False
theorem sim_iEn {dt : DA} {tt : TA} (h : SimA K B n dt tt) : SimI K B (iEn dt) (iEnum K tt) := by
  intro F σ S σV H Q R' R q P
  refine h F σ S σV H _ _ R q fun xs vs F1 S1 H1 f1 r1 d1 _ q1 => ?_
  match xs, vs, d1, q1 with
  | [x], [v], .cons dx .nil, q1 =>
    obtain ⟨l, e, q1⟩ := ofO_ex q1
    obtain ⟨a, ws, ev, hs, ql⟩ := asL_rel r1 dx e
    refine ⟨a, ws, by rw [ev], hs, P _ _ F1 S1 H1 _ f1 r1 ?_ q1⟩
    intro i F' S' H' f' r' kp
    obtain ⟨a', vs', ev', hs', ql'⟩ := asL_rel r' (dx.mono r1 f') kp
    rw [ev] at ev'
    cases ev'
    refine ⟨fun d ed => ?_, fun hl => ⟨vs', hs', by rw [enumD_len, ql'.length] at hl; exact hl⟩⟩
    obtain ⟨z, ez, rfl⟩ := enumD_get l i 0 ed
    obtain ⟨u, eu, ru⟩ := ql'.get ez
    refine ⟨⟨vs', u, hs', eu⟩, fun x H'' y => ?_⟩
    obtain ⟨T, u', rfl, hT, rfl, y⟩ := y
    have e2 := y vs' hs'
    rw [eu] at e2
    cases e2
    refine ⟨fr_newD hT, r'.newD hT, .tup (SqT.of upd_same) (.cons ?_ (.cons (ru.mono r' (fr_newD hT)) .nil))⟩
    rw [Nat.zero_add]
    exact .int _
theorem pdi_enum {elts : List Expr} {kk : Nat} {tpos p : Pos} {dt : DA} (hg : Gl X "enumerate") (hm : X.mg "enumerate" = none) (ha : PDA X B [e] n dt) (hs : starEach [e] X.env = [(false, eval e X.env)] := by rfl) : PDI X B (.Tuple elts kk tpos) (.Call (.Name "enumerate" p) [e] [] pos) (iEn dt) :=
  ⟨_, pi_enum hg hm pa_w hs, sim_iEn ha⟩
def zipD : List D → List D → List D
  | x :: xs, y :: ys => .tup [x, y] :: zipD xs ys
  | _, _ => []
theorem zipD_get : ∀ (l m : List D) (i : Nat) {x : D}, (zipD l m)[i]? = some x → ∃ d e, l[i]? = some d ∧ m[i]? = some e ∧ x = .tup [d, e]
  | [], _, i, x, e => by simp [zipD] at e
  | _ :: _, [], i, x, e => by simp [zipD] at e
  | d :: l, e' :: m, 0, x, e => by
    simp [zipD] at e
    exact ⟨d, e', rfl, rfl, e.symm⟩
  | d :: l, e' :: m, i + 1, x, e => by
    obtain ⟨z, w, e1, e2, e3⟩ := zipD_get l m i (x := x) (by simpa [zipD] using e)
    exact ⟨z, w, by simpa using e1, by simpa using e2, e3⟩
theorem zipD_end : ∀ (l m : List D) (i : Nat), (zipD l m).length ≤ i → l.length ≤ i ∨ m.length ≤ i
  | [], _, i, _ => .inl (Nat.zero_le _)
  | _ :: _, [], i, _ => .inr (Nat.zero_le _)
  | _ :: l, _ :: m, 0, h => by simp [zipD] at h
  | _ :: l, _ :: m, i + 1, h => by
    have := zipD_end l m i (by simpa [zipD] using h)
    simpa using this
def iZp (dt : DA) : DI := fun σ S Q => dt σ S fun xs S1 => match xs with
  | [x, y] => ofO (asL S1 x) fun l => ofO (asL S1 y) fun m => Q (zipD l m) (fun S' => keepL x l S' ∧ keepL y m S') S1
  | _ => False
theorem sim_iZp {dt : DA} {tt : TA} (h : SimA K B n dt tt) : SimI K B (iZp dt) (iZip K tt) := by
  intro F σ S σV H Q R' R q P
  refine h F σ S σV H _ _ R q fun xs vs F1 S1 H1 f1 r1 d1 _ q1 => ?_
  match xs, vs, d1, q1 with
  | [x, y], [v, w], .cons dx (.cons dy .nil), q1 =>
    obtain ⟨l, e, q1⟩ := ofO_ex q1
    obtain ⟨m, e', q1⟩ := ofO_ex q1
    obtain ⟨a, ws, ev, hs, ql⟩ := asL_rel r1 dx e
    obtain ⟨b, us, ew, hs2, qm⟩ := asL_rel r1 dy e'
    refine ⟨a, b, ws, us, by rw [ev, ew], hs, hs2, P _ _ F1 S1 H1 _ f1 r1 ?_ q1⟩
    intro i F' S' H' f' r' kp
    obtain ⟨a', vs', ev', hs', ql'⟩ := asL_rel r' (dx.mono r1 f') kp.1
    obtain ⟨b', us', ew', ht', qm'⟩ := asL_rel r' (dy.mono r1 f') kp.2
    rw [ev] at ev'
    cases ev'
    rw [ew] at ew'
    cases ew'
    refine ⟨fun d ed => ?_, fun hl => ⟨vs', us', hs', ht', by rw [← ql'.length, ← qm'.length]; exact zipD_end l m i hl⟩⟩
    obtain ⟨z, z2, ez, ez2, rfl⟩ := zipD_get l m i ed
    obtain ⟨u, eu, ru⟩ := ql'.get ez
    obtain ⟨u2, eu2, ru2⟩ := qm'.get ez2
    refine ⟨⟨vs', us', u, u2, hs', ht', eu, eu2⟩, fun x H'' y => ?_⟩
    obtain ⟨T, p, q, rfl, hT, rfl, y1, y2⟩ := y
    have e2 := y1 vs' hs'
    rw [eu] at e2
    cases e2
    have e3 := y2 us' ht'
    rw [eu2] at e3
    cases e3
    exact ⟨fr_newD hT, r'.newD hT, .tup (SqT.of upd_same) (.cons (ru.mono r' (fr_newD hT)) (.cons (ru2.mono r' (fr_newD hT)) .nil))⟩
theorem pdi_zip {elts : List Expr} {kk : Nat} {tpos p : Pos} {dt : DA} (hg : Gl X "zip") (hm : X.mg "zip" = none) (ha : PDA X B [a, b] n dt) (hs : starEach [a, b] X.env = (false, eval a X.env) :: starEach [b] X.env := by rfl) (hpl : (backTo pos (starEach [b] X.env)).any (·.1) = false := by rfl) :
    PDI X B (.Tuple elts kk tpos) (.Call (.Name "zip" p) [a, b] [] pos) (iZp dt) := ⟨_, pi_zip hg hm pa_w hs hpl, sim_iZp ha⟩

/-! ### for -/
def forL (keep : Store → Prop) (g : DG) (tb : DS) : List D → DS
  | [] => fun D σ S => keep S ∧ D.nx σ S
  | x :: r => fun D σ S => keep S ∧ g x σ S fun σ1 S1 => tb { D with nx := forL keep g tb r D, ct := forL keep g tb r D, bk := D.nx } σ1 S1
def dFor (it : DI) (g : DG) (tb : DS) : DS := fun D σ S => it σ S fun L keep S1 => forL keep g tb L D σ S1
theorem sim_for {di : DI} {wi : TI} {g : DG} {tg : TG} (hi : SimI K B di wi) (hg : SimG K B g tg) (hb : SimS K B ds t) : SimS K B (dFor di g ds) (tFor wi tg t) := by
  intro F σ S σV H D V R q P
  refine hi F σ S σV H _ _ R q fun L keep F1 S1 H1 J f1 r1 it q1 => ?_
  refine ⟨fun i m σV' H' => ∃ F' σ' S', m = L.length - i ∧ i ≤ L.length ∧ Fr F1 S1 H1 F' S' H' ∧ Rel K B F' σ' S' σV' H' ∧ forL keep g ds (L.drop i) D σ' S',
    ⟨L.length, F1, σ, S1, by omega, Nat.zero_le _, Fr.refl, R.step f1 r1, q1⟩, ?_⟩
  rintro i m σV2 H2 ⟨F2, σ2, S2, rfl, hl, f2, R2, q2⟩
  have kp : keep S2 := by
    cases e : L.drop i with
    | nil => rw [e] at q2; exact q2.1
    | cons x r => rw [e] at q2; exact q2.1
  obtain ⟨go, stop⟩ := it i F2 S2 H2 f2 R2.st kp
  by_cases h : i < L.length
  · have ed : L.drop i = L[i] :: L.drop (i + 1) := List.drop_eq_getElem_cons h
    rw [ed] at q2
    obtain ⟨hgo, yl⟩ := go L[i] (by simp [h])
    refine .inr ⟨hgo, fun σV' H' => ∃ F' σ' S', Fr F1 S1 H1 F' S' H' ∧ Rel K B F' σ' S' σV' H' ∧ forL keep g ds (L.drop (i + 1)) D σ' S', ?_, ?_⟩
    · rintro σV' H' ⟨F', σ', S', f', R', q'⟩
      exact ⟨L.length - (i + 1), by omega, F', σ', S', rfl, h, f', R', q'⟩
    · intro x H3 y
      obtain ⟨f3, r3, d3⟩ := yl x H3 y
      refine hg F2 σ2 S2 σV2 H3 L[i] x _ _ (R2.step f3 r3) d3 q2.2 fun F4 σ4 S4 σV4 H4 f4 R4 q4 => ?_
      have fz := f2.trans (f3.trans f4)
      refine hb F4 σ4 S4 σV4 H4 _ _ R4 q4 ⟨?_, P.rt.step (f1.trans fz), P.nx.step (f1.trans fz), ?_⟩
      · intro F' σ' S' σV' H' f' R' q'
        exact ⟨F', σ', S', fz.trans f', R', q'⟩
      · intro F' σ' S' σV' H' f' R' q'
        exact ⟨F', σ', S', fz.trans f', R', q'⟩
  · have ed : L.drop i = [] := List.drop_eq_nil_of_le (by omega)
    rw [ed] at q2
    exact .inl ⟨stop (by omega), P.nx F2 σ2 S2 σV2 H2 (f1.trans f2) R2 q2.2⟩
theorem pds_for {tg iter : Expr} {di : DI} {g : DG} (hp : PassesOwn (model X.prog X.w) X.A X.env X.xe) (hc : X.calm = true) (hi : PDI X B tg iter di) (hg : PDG X B tg g) (hb : PDSs X B body ds)
    (hs : ∀ x, foldedSetIterable iter X.env x = pure x := by intro _; rfl) : PDS X B (.For tg iter body [] pos) (dFor di g ds) := by
  obtain ⟨wi, pi, si⟩ := hi
  exact pds_of (ps_for hp hc pi pg_w pss_w hs) (sim_for si hg hb)
end
end DL
/-! DL7: comprehensions; a def's body. -/
namespace DL
open PySem PySem.Spec PyProof.Rows L2

section
variable {K : PySem.W.Frag} {ca : Nat → Addr} {F F' : Addr → Prop} {S S' : Store} {H H' : Hp} {B : Bc} {Q : QE} {QV : VK} {d : D} {v : V} {l : List D} {X : Cx} {a b e o : Expr} {es : List Expr} {da db dd : DE} {ta tb te : TE} {pos p2 : Pos} {n : Nat} {σ : DEnv} {σV : L2.St}
/-- the block's own names are forgotten at its start -/
def wipeD (σ : DEnv) : List Nat → DEnv
  | [] => σ
  | v :: vs => (wipeD σ vs).set v none
theorem RelEnv.wipe (e : RelEnv K F H σ σV) : ∀ vs, RelEnv K F H (wipeD σ vs) (L2.wipe σV vs)
  | [] => e
  | v :: vs => by
    have ih := RelEnv.wipe e vs
    refine ⟨by show ((wipeD σ vs).set v none).length = ((L2.wipe σV vs).set v none).length; rw [List.length_set, List.length_set]; exact ih.1, fun i d h => ?_⟩
    have h : ((wipeD σ vs).set v none)[i]? = some (some d) := h
    show ∃ u, ((L2.wipe σV vs).set v none)[i]? = some (some u) ∧ RelD K F H d u
    by_cases hv : v = i
    · subst hv
      by_cases hl : v < (wipeD σ vs).length
      · rw [List.getElem?_set_self hl] at h; cases h
      · rw [List.getElem?_eq_none (by simpa using hl)] at h; cases h
    · rw [List.getElem?_set_ne hv] at h
      rw [List.getElem?_set_ne hv]
      exact ih.2 i d h
theorem Rel.wipe (R : Rel K B F σ S σV H) (vs : List Nat) : Rel K B F (wipeD σ vs) S (L2.wipe σV vs) H := ⟨R.env.wipe vs, R.st, R.fr⟩

/-- the item goes to one name, or to several -/
inductive CT where
  | one (i : Nat)
  | many (is : List Nat)
def CT.g : CT → DG
  | .one i => gN i
  | .many is => gTp is.length (is.foldr (fun i g => gsC (gN i) g) gsN)
def CT.t (K : PySem.W.Frag) : CT → TG
  | .one i => gName i
  | .many is => gTup K is.length (is.foldr (fun i g => gCons (gName i) g) gNil)
def CT.is : CT → List Nat
  | .one i => [i]
  | .many is => is
theorem sim_manys : ∀ is : List Nat, SimGs K B (is.foldr (fun i g => gsC (gN i) g) gsN) (is.foldr (fun i g => gCons (gName i) g) gNil)
  | [] => sim_gsN
  | i :: is => sim_gsC sim_gN (sim_manys is)
theorem sim_ct : ∀ c : CT, SimG K B c.g (c.t K)
  | .one i => sim_gN
  | .many is => sim_gTp (sim_manys is)
theorem wipe_setO {σ : L2.St} {i : Nat} {z : Option V} : ∀ {vs : List Nat}, i ∈ vs → L2.wipe (σ.set i z) vs = L2.wipe σ vs
  | v :: vs, h => by
    have keep : ∀ (vs : List Nat), i ∉ vs → L2.wipe (σ.set i z) vs = (L2.wipe σ vs).set i z := fun vs => by
      induction vs with
      | nil => intro _; rfl
      | cons w ws ih =>
        intro hn
        have h1 : w ≠ i := fun z => hn (by simp [z])
        show (L2.wipe (σ.set i z) ws).set w none = ((L2.wipe σ ws).set w none).set i z
        rw [ih (fun z => hn (List.mem_cons_of_mem _ z)), List.set_comm _ _ h1.symm]
    show (L2.wipe (σ.set i z) vs).set v none = (L2.wipe σ vs).set v none
    by_cases hi : i ∈ vs
    · rw [wipe_setO hi]
    · have e : i = v := by
        rcases List.mem_cons.mp h with z | z
        · exact z
        · exact absurd z hi
      subst e
      rw [keep vs hi, List.set_set]
theorem wipe_set {σ : L2.St} {i : Nat} {x : V} {vs : List Nat} (h : i ∈ vs) : L2.wipe (σ.set i (some x)) vs = L2.wipe σ vs := wipe_setO h
theorem wipe_sub {σ : L2.St} {vs : List Nat} : ∀ {ws : List Nat}, (∀ i ∈ ws, i ∈ vs) → L2.wipe (L2.wipe σ ws) vs = L2.wipe σ vs
  | [], _ => rfl
  | w :: ws, h => by
    show L2.wipe ((L2.wipe σ ws).set w none) vs = _
    rw [wipe_setO (h w (by simp)), wipe_sub fun i hi => h i (List.mem_cons_of_mem _ hi)]
theorem wipe_idem {σ : L2.St} {vs : List Nat} : L2.wipe (L2.wipe σ vs) vs = L2.wipe σ vs := wipe_sub fun _ h => h
/-- such a target stores into its own names alone -/
theorem manys_only {vs : List Nat} : ∀ {is : List Nat}, (∀ i ∈ is, i ∈ vs) → ∀ {xs : List V} {σ : L2.St} {H : Hp} {Q : L2.St → Hp → Prop}, (is.foldr (fun i g => gCons (gName i) g) gNil) xs σ H Q →
    (is.foldr (fun i g => gCons (gName i) g) gNil) xs σ H fun σ2 H2 => L2.wipe σ2 vs = L2.wipe σ vs ∧ Q σ2 H2
  | [], _, xs, σ, H, Q, h => ⟨h.1, rfl, h.2⟩
  | i :: is, hm, xs, σ, H, Q, h => by
    obtain ⟨v, r, e, h⟩ := h
    refine ⟨v, r, e, ?_⟩
    have z := manys_only (vs := vs) (is := is) (fun j hj => hm j (List.mem_cons_of_mem _ hj)) (xs := r) (σ := σ.set i (some v)) (H := H) (Q := Q) h
    rw [wipe_set (hm i (by simp))] at z
    exact z
theorem ct_only {vs : List Nat} : ∀ {c : CT}, (∀ i ∈ c.is, i ∈ vs) → ∀ {x : V} {σ : L2.St} {H : Hp} {Q : L2.St → Hp → Prop}, c.t K x σ H Q → c.t K x σ H fun σ2 H2 => L2.wipe σ2 vs = L2.wipe σ vs ∧ Q σ2 H2
  | .one i, hm, x, σ, H, Q, h => ⟨wipe_set (hm i (by simp [CT.is])), h⟩
  | .many is, hm, x, σ, H, Q, h => by
    obtain ⟨a, xs, e, hs, hl, h⟩ := h
    exact ⟨a, xs, e, hs, hl, manys_only hm h⟩

theorem ct_own {vs : List Nat} {c : CT} (hm : ∀ i ∈ c.is, i ∈ vs) {x : V} {σ : L2.St} {H : Hp} {Q : L2.St → Hp → Prop} (h : c.t K x (L2.wipe σ vs) H Q) : c.t K x (L2.wipe σ vs) H fun σ2 H2 => L2.wipe σ2 vs = L2.wipe σ vs ∧ Q σ2 H2 := by
  have z := ct_only (vs := vs) hm h
  rw [wipe_idem] at z
  exact z
/-- [elt for target in iter if test]: the items kept so far -/
def lcL (keep : Store → Prop) (g : DG) (tt : DT) (te : DE) (σ : DEnv) : List D → List D → Store → (List D → Store → Prop) → Prop
  | [], acc, S, Q => keep S ∧ Q acc S
  | x :: r, acc, S, Q => keep S ∧ g x σ S fun σ1 S1 => tt σ1 S1 fun k S2 => if k = true then te σ1 S2 fun y S3 => acc.length < lim ∧ lcL keep g tt te σ r (acc ++ [y]) S3 Q else lcL keep g tt te σ r acc S2 Q
def dLc (it : DI) (c : CT) (tt : DT) (te : DE) (vs : List Nat) : DE := fun σ S Q => it σ S fun L keep S1 => lcL keep c.g tt te (wipeD σ vs) L [] S1 fun acc S2 => Q (.lst acc) S2
def dLcM (it : DI) (c : CT) (tt : DT) (te : DE) (vs : List Nat) : DE := fun σ S Q => it σ S fun L keep S1 => lcL keep c.g tt te (wipeD σ vs) L [] S1 fun acc S2 => ∀ p, S2 p = none → Q (.obj p) (put S2 p (.lst acc))
/-- a list that a comprehension fills, hidden until it is done -/
theorem hidden_step {p : Addr} {w w' : HO} (r : RelS K ca F S H) (hp : H p = some w) (hs : S p = none) (hf : ¬ F p) (nt : ∀ xs, w ≠ .tup xs) (nf : ∀ o u, w ≠ .frz o u) :
    RelS K ca F S (upd H p w') ∧ (∀ {d : D} {v : V}, RelD K F H d v → RelD K F (upd H p w') d v) := by
  have tup : ∀ {a : Addr} {vs : List V}, SqT K H a vs → SqT K (upd H p w') a vs := fun {a vs} h => by
    rcases h with (h | ⟨o, h⟩) | h
    · exact .inl (.inl (by rw [upd_ne fun z => by subst z; rw [hp] at h; exact nt _ (Option.some.inj h)]; exact h))
    · exact .inl (.inr ⟨o, by rw [upd_ne fun z => by subst z; rw [hp] at h; exact nf _ _ (Option.some.inj h)]; exact h⟩)
    · exact .inr h
  have scr : ∀ {a : Addr} {vs : List V}, SqZ K H a vs → SqZ K (upd H p w') a vs := fun {a vs} h => by
    rcases h with ⟨o, h⟩ | h
    · exact .inl ⟨o, by rw [upd_ne fun z => by subst z; rw [hp] at h; exact nf _ _ (Option.some.inj h)]; exact h⟩
    · exact .inr h
  have fz : ∀ {a : Addr} {u : HO}, F a → H a = some u → upd H p w' a = some u := fun {a u} h e => by
    rw [upd_ne fun z => by subst z; exact hf h]; exact e
  have all : (∀ (d : D) (v : V), RelD K F H d v → RelD K F (upd H p w') d v) := fun d v h =>
    RelD.rec (motive_1 := fun d v _ => RelD K F (upd H p w') d v) (motive_2 := fun d v _ => RelDs K F (upd H p w') d v) (motive_3 := fun d v _ => RelKs K F (upd H p w') d v)
      .non .bl .int .str (fun h _ q => .tup (tup h) q) (fun h f _ q => .lst (fz f h) f q) (fun h f _ q => .dic (fz f h) f q) (fun h _ q => .scr (scr h) q) .obj .ty .nil (fun _ _ h q => .cons h q) .nil (fun _ _ h q => .cons h q) h
  have alls : ∀ {d : List D} {v : List V}, RelDs K F H d v → RelDs K F (upd H p w') d v := fun {d v} h => by
    induction d generalizing v with
    | nil => cases h; exact .nil
    | cons x xs ih => cases h with | cons h q => exact .cons (all _ _ h) (ih q)
  have allk : ∀ {d : List (String × D)} {v : List (Key × V)}, RelKs K F H d v → RelKs K F (upd H p w') d v := fun {d v} h => by
    induction d generalizing v with
    | nil => cases h; exact .nil
    | cons x xs ih => cases h with | cons h q => exact .cons (all _ _ h) (ih q)
  have allf : ∀ {d : List (String × D)} {v : List (Str × V)}, RelFs K F H d v → RelFs K F (upd H p w') d v := fun {d v} h => by
    induction h with
    | nil => exact .nil
    | cons h _ ih => exact .cons (all _ _ h) ih
  refine ⟨⟨fun a o e => ⟨(r.ob a o e).1, ?_⟩, fun a h => ?_⟩, fun {d v} => all d v⟩
  · have ne : a ≠ p := fun z => by rw [z, hs] at e; cases e
    have q := (r.ob a o e).2
    cases o with
    | lst l => obtain ⟨vs, h, q⟩ := q; exact ⟨vs, by rw [upd_ne ne]; exact h, alls q⟩
    | dic l => obtain ⟨vs, h, q⟩ := q; exact ⟨vs, by rw [upd_ne ne]; exact h, allk q⟩
    | ins c l => obtain ⟨dx, vs, h, q⟩ := q; exact ⟨dx, vs, by rw [upd_ne ne]; exact h, allf q⟩
  · by_cases z : a = p
    · subst z; exact ⟨w', upd_same⟩
    · obtain ⟨o, e⟩ := r.fz a h
      exact ⟨o, by rw [upd_ne z]; exact e⟩
theorem hidden_all {p : Addr} {w' : HO} (h : ∀ {d : D} {v : V}, RelD K F H d v → RelD K F (upd H p w') d v) {ds : List D} {vs : List V} (q : RelDs K F H ds vs) : RelDs K F (upd H p w') ds vs := by
  induction ds generalizing vs with
  | nil => cases q; exact .nil
  | cons x xs ih => cases q with | cons a q => exact .cons (h a) (ih q)

/-- the walk of a comprehension: T says what stands behind it -/
theorem lc_walk {L : List D} {keep : Store → Prop} {J : It} {c : CT} {dt : DT} {tt : TT} {vs : List Nat} {Qd : List D → Store → Prop} {QV : V → Hp → Prop} (hsub : ∀ i ∈ c.is, i ∈ vs) (ht : SimT K B dt tt) (he : SimE K B da te) (R : Rel K B F σ S σV H) (it : ItRel K B.ca F S H L keep J)
    (q : lcL keep c.g dt da (wipeD σ vs) L [] S Qd)
    (done : ∀ (p : Addr) acc accV F' S' H', H p = none → Fr F S H F' S' H' → RelS K B.ca F' S' H' → S' p = none → ¬ F' p → H' p = some (.lst accV) → RelDs K F' H' acc accV → Qd acc S' → QV (.ref p) H')
    (p : Addr) (hp : H p = none) : ∃ W : Nat → Nat → Hp → Prop, (∃ m, W 0 m (upd H p (.lst []))) ∧ ∀ i m H, W i m H →
      (J.stop i H ∧ QV (.ref p) H) ∨ (J.go i H ∧ ∃ Nx : Hp → Prop, (∀ H', Nx H' → ∃ m', m' < m ∧ W (i + 1) m' H') ∧ ∀ x H', J.yld i H x H' → c.t K x (L2.wipe σV vs) H' fun σ2 H2 => L2.wipe σ2 vs = L2.wipe σV vs ∧ tt σ2 H2 fun k H3 =>
        if k = true then te σ2 H3 fun y H4 => ∃ acc, H4 p = some (.lst acc) ∧ acc.length < sizeLine ∧ Nx (upd H4 p (.lst (acc ++ [y]))) else Nx H3) := by
  have npF : ¬ F p := fun h => by obtain ⟨_, e⟩ := R.st.fz p h; rw [hp] at e; cases e
  refine ⟨fun i m H' => ∃ acc accV F' S', m = L.length - i ∧ i ≤ L.length ∧ Fr F S H F' S' H' ∧ RelS K B.ca F' S' H' ∧ S' p = none ∧ ¬ F' p ∧ H' p = some (.lst accV) ∧ RelDs K F' H' acc accV ∧ lcL keep c.g dt da (wipeD σ vs) (L.drop i) acc S' Qd,
    ⟨L.length, [], [], F, S, by omega, Nat.zero_le _, fr_newD hp, R.st.newD hp, R.st.free hp, npF, upd_same, .nil, q⟩, ?_⟩
  rintro i m H2 ⟨acc, accV, F2, S2, rfl, hl, f2, r2, n2, nf2, h2, rd2, q2⟩
  have kp : keep S2 := by
    cases e : L.drop i with
    | nil => rw [e] at q2; exact q2.1
    | cons x r => rw [e] at q2; exact q2.1
  obtain ⟨go, stop⟩ := it i F2 S2 H2 f2 r2 kp
  by_cases h : i < L.length
  · have ed : L.drop i = L[i] :: L.drop (i + 1) := List.drop_eq_getElem_cons h
    rw [ed] at q2
    obtain ⟨hgo, yl⟩ := go L[i] (by simp [h])
    refine .inr ⟨hgo, fun H' => ∃ acc accV F' S', Fr F S H F' S' H' ∧ RelS K B.ca F' S' H' ∧ S' p = none ∧ ¬ F' p ∧ H' p = some (.lst accV) ∧ RelDs K F' H' acc accV ∧ lcL keep c.g dt da (wipeD σ vs) (L.drop (i + 1)) acc S' Qd, ?_, ?_⟩
    · rintro H' ⟨acc', accV', F', S', f', r', n', nf', h', rd', q'⟩
      exact ⟨L.length - (i + 1), by omega, acc', accV', F', S', rfl, h, f', r', n', nf', h', rd', q'⟩
    · intro x H3 y
      obtain ⟨f3, r3, d3⟩ := yl x H3 y
      refine ct_own hsub ?_
      have R3 : Rel K B F2 (wipeD σ vs) S2 (L2.wipe σV vs) H3 := (R.wipe vs).step (f2.trans f3) r3
      refine sim_ct c F2 _ S2 _ H3 L[i] x _ _ R3 d3 q2.2 fun F4 σ4 S4 σV4 H4 f4 R4 q4 => ?_
      refine ht F4 σ4 S4 σV4 H4 _ _ R4 q4 fun k F5 S5 H5 f5 r5 q5 => ?_
      have f35 := f3.trans (f4.trans f5)
      obtain ⟨h5, n5, i5⟩ := f35 p _ h2 n2
      have nf5 : ¬ F5 p := fun z => nf2 (i5.mp z)
      have rd5 := rd2.mono r2 f35
      cases k with
      | false =>
        exact ⟨acc, accV, F5, S5, f2.trans f35, r5, n5, nf5, h5, rd5, q5⟩
      | true =>
        refine he F5 σ4 S5 σV4 H5 _ _ (R4.step f5 r5) q5 fun y' yv F6 S6 H6 f6 r6 d6 q6 => ?_
        obtain ⟨h6, n6, i6⟩ := f6 p _ h5 n5
        have nf6 : ¬ F6 p := fun z => nf5 (i6.mp z)
        have rd6 := rd5.mono r5 f6
        obtain ⟨r7, m7⟩ := hidden_step (w' := .lst (accV ++ [yv])) r6 h6 n6 nf6 (fun _ z => by cases z) (fun _ _ z => by cases z)
        refine ⟨accV, h6, by rw [← rd6.length, lim_eq]; exact q6.1, acc ++ [y'], accV ++ [yv], F6, S6, ?_, r7, n6, nf6, upd_same, hidden_all m7 (rd6.append (.cons d6 .nil)), q6.2⟩
        intro c' o' e' n'
        obtain ⟨e1, e2, e3⟩ := (f2.trans (f35.trans f6)) c' o' e' n'
        exact ⟨by rw [upd_ne (ne_of_none e' hp)]; exact e1, e2, e3⟩
  · have ed : L.drop i = [] := List.drop_eq_nil_of_le (by omega)
    rw [ed] at q2
    exact .inl ⟨stop (by omega), done p acc accV F2 S2 H2 hp f2 r2 n2 nf2 h2 rd2 q2.2⟩
/-- a thing that nobody knows comes to light: as a list that stays, as one of the store -/
theorem fr_light {F0 : Addr → Prop} {S0 : Store} {H0 : Hp} {p : Addr} (f : Fr F0 S0 H0 F S H) (hp : H0 p = none) : Fr F0 S0 H0 (ins F p) S H := fun a o e n => by
  obtain ⟨e1, e2, e3⟩ := f a o e n
  have ne : a ≠ p := ne_of_none e hp
  exact ⟨e1, e2, ⟨fun z => e3.mp (z.resolve_left ne), fun z => .inr (e3.mpr z)⟩⟩
theorem RelS.light {p : Addr} {u : HO} (r : RelS K ca F S H) (h : H p = some u) (n : S p = none) : RelS K ca (DL.ins F p) S H ∧ (∀ {d : D} {v : V}, RelD K F H d v → RelD K (DL.ins F p) H d v) := by
  have all : ∀ (d : D) (v : V), RelD K F H d v → RelD K (DL.ins F p) H d v := fun d v h =>
    RelD.rec (motive_1 := fun d v _ => RelD K (DL.ins F p) H d v) (motive_2 := fun d v _ => RelDs K (DL.ins F p) H d v) (motive_3 := fun d v _ => RelKs K (DL.ins F p) H d v)
      .non .bl .int .str (fun h _ q => .tup h q) (fun h f _ q => .lst h (.inr f) q) (fun h f _ q => .dic h (.inr f) q) (fun h _ q => .scr h q) .obj .ty .nil (fun _ _ h q => .cons h q) .nil (fun _ _ h q => .cons h q) h
  have alls : ∀ {d : List D} {v : List V}, RelDs K F H d v → RelDs K (DL.ins F p) H d v := fun {d v} h => by
    induction d generalizing v with
    | nil => cases h; exact .nil
    | cons x xs ih => cases h with | cons h q => exact .cons (all _ _ h) (ih q)
  have allk : ∀ {d : List (String × D)} {v : List (Key × V)}, RelKs K F H d v → RelKs K (DL.ins F p) H d v := fun {d v} h => by
    induction d generalizing v with
    | nil => cases h; exact .nil
    | cons x xs ih => cases h with | cons h q => exact .cons (all _ _ h) (ih q)
  have allf : ∀ {d : List (String × D)} {v : List (Str × V)}, RelFs K F H d v → RelFs K (DL.ins F p) H d v := fun {d v} h => by
    induction h with
    | nil => exact .nil
    | cons h _ ih => exact .cons (all _ _ h) ih
  refine ⟨⟨fun a o e => ?_, fun a z => ?_⟩, fun {d v} => all d v⟩
  · have ne : a ≠ p := fun z => by rw [z, n] at e; cases e
    refine ⟨fun z => (r.ob a o e).1 (z.resolve_left ne), ?_⟩
    have q := (r.ob a o e).2
    cases o with
    | lst l => obtain ⟨vs, h, q⟩ := q; exact ⟨vs, h, alls q⟩
    | dic l => obtain ⟨vs, h, q⟩ := q; exact ⟨vs, h, allk q⟩
    | ins c l => obtain ⟨dx, vs, h, q⟩ := q; exact ⟨dx, vs, h, allf q⟩
  · rcases z with z | z
    · subst z; exact ⟨u, h⟩
    · exact r.fz a z
theorem sim_lc {di : DI} {wi : TI} {c : CT} {dt : DT} {tt : TT} {vs : List Nat} (hsub : ∀ i ∈ c.is, i ∈ vs) (hi : SimI K B di wi) (ht : SimT K B dt tt) (he : SimE K B da te) : SimE K B (dLc di c dt da vs) (tLc wi (c.t K) tt te vs) := by
  intro F σ S σV H Q QV R q P
  refine hi F σ S σV H _ _ R q fun L keep F1 S1 H1 J f1 r1 it q1 => ?_
  intro p hp
  refine lc_walk hsub ht he (R.step f1 r1) it q1 ?_ p hp
  intro p acc accV F' S' H' hp f' r' n' nf' h' rd' q'
  obtain ⟨r2, m2⟩ := r'.light h' n'
  refine P _ _ (ins F' p) S' H' (fun a o e n => ?_) r2 (.lst h' (.inl rfl) ?_) q'
  · obtain ⟨e1, e2, e3⟩ := f1 a o e n
    obtain ⟨g1, g2, g3⟩ := f' a o e1 e2
    have ne : a ≠ p := ne_of_none e1 hp
    exact ⟨g1, g2, ⟨fun z => e3.mp (g3.mp (z.resolve_left ne)), fun z => .inr (g3.mpr (e3.mpr z))⟩⟩
  · clear q'
    induction acc generalizing accV with
    | nil => cases rd'; exact .nil
    | cons x xs ih =>
      have go : ∀ {ds : List D} {us : List V}, RelDs K F' H' ds us → RelDs K (ins F' p) H' ds us := fun {ds us} z => by
        induction ds generalizing us with
        | nil => cases z; exact .nil
        | cons y ys ih2 => cases z with | cons a z => exact .cons (m2 a) (ih2 z)
      exact go rd'
theorem sim_lcM {di : DI} {wi : TI} {c : CT} {dt : DT} {tt : TT} {vs : List Nat} (hsub : ∀ i ∈ c.is, i ∈ vs) (hi : SimI K B di wi) (ht : SimT K B dt tt) (he : SimE K B da te) : SimE K B (dLcM di c dt da vs) (tLc wi (c.t K) tt te vs) := by
  intro F σ S σV H Q QV R q P
  refine hi F σ S σV H _ _ R q fun L keep F1 S1 H1 J f1 r1 it q1 => ?_
  intro p hp
  refine lc_walk hsub ht he (R.step f1 r1) it q1 ?_ p hp
  intro p acc accV F' S' H' hp f' r' n' nf' h' rd' q'
  refine P _ _ F' (put S' p (.lst acc)) H' (fun a o e n => ?_) ⟨fun a w e => ?_, r'.fz⟩ (.obj p) (q' p n')
  · obtain ⟨e1, e2, e3⟩ := f1 a o e n
    obtain ⟨g1, g2, g3⟩ := f' a o e1 e2
    have ne : a ≠ p := ne_of_none e1 hp
    exact ⟨g1, by rw [put_ne ne]; exact g2, g3.trans e3⟩
  · by_cases z : a = p
    · subst z
      rw [put_same] at e
      cases e
      exact ⟨nf', accV, h', rd'⟩
    · rw [put_ne z] at e
      exact r'.ob a w e

/-! ### a comprehension's block -/
abbrev noEx (B : Bc) : Bc := { B with ED := fun _ _ _ => False }
theorem Rel.noEx (R : Rel K B F σ S σV H) : Rel K (noEx B) F σ S σV H := ⟨R.env, R.st, R.fr⟩
theorem simE_no (h : SimE K (noEx B) da ta) : SimE K B da ta := fun F σ S σV H Q QV R q P => h F σ S σV H Q QV R.noEx q P
theorem simT_no {dt : DT} {tt : TT} (h : SimT K (noEx B) dt tt) : SimT K B dt tt := fun F σ S σV H Q QV R q P => h F σ S σV H Q QV R.noEx q P
theorem takes_no {E0 : Nat} (B : Bc) : Takes X (XW X.K (noEx B)) := Takes.imp (W := fun _ _ _ _ => False) takes0 fun _ _ _ _ ⟨_, _, _, _, _, _, z⟩ => z
/-- the block's context, whatever its frame -/
abbrev blkOf (X : Cx) (scope : Scope) (s : Shared) (H : Hp) (C : Addr) (cl : List (Str × Addr)) (fp : List Addr) : Cx := X.blk s H scope (compEnvC scope cl C X.env) fp
def bE (X : Cx) (scope : Scope) (e : Expr) : TE := fun σ H Q => ∀ (s : Shared) (H0 : Hp) (C : Addr) (cl : List (Str × Addr)) (fp : List Addr), wpE (blkOf X scope s H0 C cl fp) e σ H Q
def bT (X : Cx) (scope : Scope) (e : Expr) : TT := fun σ H Q => ∀ (s : Shared) (H0 : Hp) (C : Addr) (cl : List (Str × Addr)) (fp : List Addr), wpT (blkOf X scope s H0 C cl fp) e σ H Q
def dYes : DT := fun _ S Q => Q true S
theorem sim_yes : SimT K B dYes tYes := fun F σ S σV H Q QV R q P => P true F S H Fr.refl R.st q
section
variable {elt tg iter tst : Expr} {scope : Scope} {own : List (Str × Nat)} {c : CT} {di : DI} {dt : DT}
theorem lc_elt (he : ∀ (s : Shared) (H : Hp) (C : Addr) (cl : List (Str × Addr)) (fp : List Addr), PD (blkOf X scope s H C cl fp) (noEx B) elt da) : SimE X.K B da (bE X scope elt) :=
  fun F σ S σV H Q QV R q P s H0 C cl fp => he s H0 C cl fp F σ S σV H Q QV R.noEx q P
theorem lc_tst (he : ∀ (s : Shared) (H : Hp) (C : Addr) (cl : List (Str × Addr)) (fp : List Addr), PDT (blkOf X scope s H C cl fp) (noEx B) tst dt) : SimT X.K B dt (bT X scope tst) :=
  fun F σ S σV H Q QV R q P s H0 C cl fp => he s H0 C cl fp F σ S σV H Q QV R.noEx q P
theorem pe_bE (s : Shared) (H : Hp) (C : Addr) (cl : List (Str × Addr)) (fp : List Addr) : PE (blkOf X scope s H C cl fp) elt (bE X scope elt) := ⟨fun pn st sg Hh Qq I h => h s H C cl fp pn st I⟩
theorem pt_bT (s : Shared) (H : Hp) (C : Addr) (cl : List (Str × Addr)) (fp : List Addr) : PT (blkOf X scope s H C cl fp) tst (bT X scope tst) := ⟨fun pn st sg Hh Qq I h => h s H C cl fp pn st I⟩
theorem pd_lc (hc : X.calm = true) (hN : X.N.Nodup) (hi : PDI X B tg iter di) (ok : BlkOk X.N X.env.scope scope own)
    (hg : ∀ (s : Shared) (H : Hp) (C : Addr) (cl : List (Str × Addr)) (fp : List Addr), PG (blkOf X scope s H C cl fp) tg (c.t X.K)) (he : ∀ (s : Shared) (H : Hp) (C : Addr) (cl : List (Str × Addr)) (fp : List Addr), PD (blkOf X scope s H C cl fp) (noEx B) elt da)
    (hsub : ∀ i ∈ c.is, i ∈ own.map (·.2) := by decide) (hs : ∀ x, foldedSetIterable iter X.env x = pure x := by intro _; rfl) : PD X B (.ListComp elt [⟨tg, iter, [], 0⟩] scope pos) (dLc di c dYes da (own.map (·.2))) := by
  obtain ⟨wi, pi, si⟩ := hi
  exact pd_of (pe_lc hc hN pi ok hg (fun _ _ _ _ _ => pts_nil) pe_bE hs) (sim_lc hsub si sim_yes (lc_elt he))
theorem pd_lcIf (hc : X.calm = true) (hN : X.N.Nodup) (hi : PDI X B tg iter di) (ok : BlkOk X.N X.env.scope scope own)
    (hg : ∀ (s : Shared) (H : Hp) (C : Addr) (cl : List (Str × Addr)) (fp : List Addr), PG (blkOf X scope s H C cl fp) tg (c.t X.K)) (ht : ∀ (s : Shared) (H : Hp) (C : Addr) (cl : List (Str × Addr)) (fp : List Addr), PDT (blkOf X scope s H C cl fp) (noEx B) tst dt)
    (he : ∀ (s : Shared) (H : Hp) (C : Addr) (cl : List (Str × Addr)) (fp : List Addr), PD (blkOf X scope s H C cl fp) (noEx B) elt da)
    (hsub : ∀ i ∈ c.is, i ∈ own.map (·.2) := by decide) (hs : ∀ x, foldedSetIterable iter X.env x = pure x := by intro _; rfl) : PD X B (.ListComp elt [⟨tg, iter, [tst], 0⟩] scope pos) (dLc di c dt da (own.map (·.2))) := by
  obtain ⟨wi, pi, si⟩ := hi
  exact pd_of (pe_lc hc hN pi ok hg (fun s H C cl fp => pts_one (pt_bT s H C cl fp)) pe_bE hs) (sim_lc hsub si (lc_tst ht) (lc_elt he))
theorem pd_lcM (hc : X.calm = true) (hN : X.N.Nodup) (hi : PDI X B tg iter di) (ok : BlkOk X.N X.env.scope scope own)
    (hg : ∀ (s : Shared) (H : Hp) (C : Addr) (cl : List (Str × Addr)) (fp : List Addr), PG (blkOf X scope s H C cl fp) tg (c.t X.K)) (he : ∀ (s : Shared) (H : Hp) (C : Addr) (cl : List (Str × Addr)) (fp : List Addr), PD (blkOf X scope s H C cl fp) (noEx B) elt da)
    (hsub : ∀ i ∈ c.is, i ∈ own.map (·.2) := by decide) (hs : ∀ x, foldedSetIterable iter X.env x = pure x := by intro _; rfl) : PD X B (.ListComp elt [⟨tg, iter, [], 0⟩] scope pos) (dLcM di c dYes da (own.map (·.2))) := by
  obtain ⟨wi, pi, si⟩ := hi
  exact pd_of (pe_lc hc hN pi ok hg (fun _ _ _ _ _ => pts_nil) pe_bE hs) (sim_lcM hsub si sim_yes (lc_elt he))
/-- y = [..] -/
theorem pds_setLc {i : Nat} {y : Str} {py spos : Pos} (hc : X.calm = true) (hN : X.N.Nodup) (hy : X.N[i]? = some y) (hyl : X.env.scope.names.lookup y = some .local)
    (hsw : swapsWith (.ListComp elt [⟨tg, iter, [], 0⟩] scope pos) (some (.Name y py)) spos.line X.env = pure true) (hi : PDI X B tg iter di) (ok : BlkOk X.N X.env.scope scope own)
    (hg : ∀ (s : Shared) (H : Hp) (C : Addr) (cl : List (Str × Addr)) (fp : List Addr), PG (blkOf X scope s H C cl fp) tg (c.t X.K)) (he : ∀ (s : Shared) (H : Hp) (C : Addr) (cl : List (Str × Addr)) (fp : List Addr), PD (blkOf X scope s H C cl fp) (noEx B) elt da)
    (hsub : ∀ i ∈ c.is, i ∈ own.map (·.2) := by decide) (hs : ∀ x, foldedSetIterable iter X.env x = pure x := by intro _; rfl) : PDS X B (.Assign [.Name y py] (.ListComp elt [⟨tg, iter, [], 0⟩] scope pos) spos) (dAsg (dLc di c dYes da (own.map (·.2))) (gN i)) := by
  obtain ⟨wi, pi, si⟩ := hi
  exact pds_of (ps_setLc hc hN hy hyl hsw pi ok hg (fun _ _ _ _ _ => pts_nil) pe_bE hs) (sim_asg (sim_lc hsub si sim_yes (lc_elt he)) sim_gN)
theorem pds_setLcM {i : Nat} {y : Str} {py spos : Pos} (hc : X.calm = true) (hN : X.N.Nodup) (hy : X.N[i]? = some y) (hyl : X.env.scope.names.lookup y = some .local)
    (hsw : swapsWith (.ListComp elt [⟨tg, iter, [], 0⟩] scope pos) (some (.Name y py)) spos.line X.env = pure true) (hi : PDI X B tg iter di) (ok : BlkOk X.N X.env.scope scope own)
    (hg : ∀ (s : Shared) (H : Hp) (C : Addr) (cl : List (Str × Addr)) (fp : List Addr), PG (blkOf X scope s H C cl fp) tg (c.t X.K)) (he : ∀ (s : Shared) (H : Hp) (C : Addr) (cl : List (Str × Addr)) (fp : List Addr), PD (blkOf X scope s H C cl fp) (noEx B) elt da)
    (hsub : ∀ i ∈ c.is, i ∈ own.map (·.2) := by decide) (hs : ∀ x, foldedSetIterable iter X.env x = pure x := by intro _; rfl) : PDS X B (.Assign [.Name y py] (.ListComp elt [⟨tg, iter, [], 0⟩] scope pos) spos) (dAsg (dLcM di c dYes da (own.map (·.2))) (gN i)) := by
  obtain ⟨wi, pi, si⟩ := hi
  exact pds_of (ps_setLc hc hN hy hyl hsw pi ok hg (fun _ _ _ _ _ => pts_nil) pe_bE hs) (sim_asg (sim_lcM hsub si sim_yes (lc_elt he)) sim_gN)
theorem pds_setLcIf {i : Nat} {y : Str} {py spos : Pos} (hc : X.calm = true) (hN : X.N.Nodup) (hy : X.N[i]? = some y) (hyl : X.env.scope.names.lookup y = some .local)
    (hsw : swapsWith (.ListComp elt [⟨tg, iter, [tst], 0⟩] scope pos) (some (.Name y py)) spos.line X.env = pure true) (hi : PDI X B tg iter di) (ok : BlkOk X.N X.env.scope scope own)
    (hg : ∀ (s : Shared) (H : Hp) (C : Addr) (cl : List (Str × Addr)) (fp : List Addr), PG (blkOf X scope s H C cl fp) tg (c.t X.K)) (ht : ∀ (s : Shared) (H : Hp) (C : Addr) (cl : List (Str × Addr)) (fp : List Addr), PDT (blkOf X scope s H C cl fp) (noEx B) tst dt)
    (he : ∀ (s : Shared) (H : Hp) (C : Addr) (cl : List (Str × Addr)) (fp : List Addr), PD (blkOf X scope s H C cl fp) (noEx B) elt da)
    (hsub : ∀ i ∈ c.is, i ∈ own.map (·.2) := by decide) (hs : ∀ x, foldedSetIterable iter X.env x = pure x := by intro _; rfl) : PDS X B (.Assign [.Name y py] (.ListComp elt [⟨tg, iter, [tst], 0⟩] scope pos) spos) (dAsg (dLc di c dt da (own.map (·.2))) (gN i)) := by
  obtain ⟨wi, pi, si⟩ := hi
  exact pds_of (ps_setLc hc hN hy hyl hsw pi ok hg (fun s H C cl fp => pts_one (pt_bT s H C cl fp)) pe_bE hs) (sim_asg (sim_lc hsub si (lc_tst ht) (lc_elt he)) sim_gN)
end

/-! ### a def keeps its promise -/
def startD (m : Nat) (ds : List D) : DEnv := ds.map some ++ List.replicate (m - ds.length) none
theorem start_rel {N : List Str} {ds : List D} {vs : List V} (q : RelDs K F H ds vs) (h : ds.length ≤ N.length) : RelEnv K F H (startD N.length ds) (L2.start N vs) := by
  unfold startD L2.start
  rw [← q.length]
  refine ⟨by simp [q.length], fun i d e => ?_⟩
  by_cases hi : i < ds.length
  · rw [List.getElem?_append_left (by simpa using hi), List.getElem?_map] at e
    obtain ⟨x, ex, e2⟩ := Option.map_eq_some_iff.mp e
    cases e2
    obtain ⟨u, eu, ru⟩ := q.get ex
    exact ⟨u, by rw [List.getElem?_append_left (by rw [List.length_map, ← q.length]; exact hi), List.getElem?_map, eu]; rfl, ru⟩
  · rw [List.getElem?_append_right (by simpa using hi), List.getElem?_replicate] at e
    split at e <;> cases e
abbrev DBody := (DX → DEnv → Store → Prop) → DS
/-- a body as a promise -/
def runD (m : Nat) (body : DBody) : DSp := fun ds S Q E => body (fun x _ S1 => E x S1) { nx := fun _ S1 => Q .non S1, rt := Q } (startD m ds) S
/-- what a body may lean on -/
structure Good (X : Cx) (B : Bc) : Prop where
  tk : Takes X (XW X.K B)
  ow : PassesOwn (model X.prog X.w) X.A X.env X.xe
  nd : X.N.Nodup
theorem def_ok {P : Program} {w : World} {mg : Str → Option Value} {base : Heap} {x qual : Str} {st : Stmt} {f : Addr} {fd : FuncData} {N ps : List Str} {k : Nat} (Fn : Fun K x qual st f fd) (Sc : FnScope N ps (defScope st)) (hn : ps.length = n) (body : DBody)
    (hb : ∀ (cdv : Value) (A : Around) (outer : List Env) (s : Shared) (H : Hp) (E : XK) (B : Bc), B.ca = ca → Room k (A.deeper (envOfC qual (defScope st) s.heap.objs.size f cdv)) →
      Good (cxOf (L2.CX P w) P w K mg base N qual (defScope st) f cdv A outer s H E) B → PDSs (cxOf (L2.CX P w) P w K mg base N qual (defScope st) f cdv A outer s H E) B (defBody st) (body B.ED)) :
    FnOk P w K mg base (L2.CX P w) (k + 1) f fd ps (lift K ca n (runD N.length body)) := by
  refine Fn.okX Sc (fun vs H Q E h => (lift_len h).trans hn.symm) fun cdv A outer s H vs Q E hr h => ?_
  obtain ⟨ds, F, S, QD, ED, hl, rd, rs, hw, PE', PX⟩ := h
  have hpl : ds.length ≤ N.length := by
    have e := congrArg List.length Sc.pre
    rw [List.length_take] at e
    omega
  let B : Bc := ⟨ca, F, S, H, fun x _ S1 => ED x S1⟩
  let X := cxOf (L2.CX P w) P w K mg base N qual (defScope st) f cdv A outer s H E
  have tk0 : Takes X (fun cls d _ H => E cls d H) := takes_of rfl rfl rfl rfl
  have tk : Takes X (XW K B) := tk0.imp fun cls dd σV H1 ⟨y, F1, σ1, S1, R1, rx, q⟩ => PX y cls dd F1 S1 H1 R1.fr R1.st rx q
  have ow : PassesOwn (model X.prog X.w) X.A X.env X.xe := PassesOwn.leaving
  refine ⟨_, pss_w, ?_⟩
  have hR : Rel K B F (startD N.length ds) S (L2.start N vs) H := ⟨start_rel rd hpl, rs, Fr.refl⟩
  refine hb cdv A outer s H E B rfl hr ⟨tk, ow, Sc.nd⟩ F _ S _ H _ _ hR hw ⟨?_, PE', ?_, ?_⟩
  · intro F' σ' S' σV' H' f' R' q
    exact PE' .non .non F' S' H' f' R'.st .non q
  · intro F' σ' S' σV' H' f' R' q
    exact q.elim
  · intro F' σ' S' σV' H' f' R' q
    exact q.elim
end
end DL
/-! DL8: sorted, dicts, isinstance, things let go. -/
namespace DL
open PySem PySem.Spec PyProof.Rows L2

/-! ### texts in order -/
def codes (a : String) : List Nat := a.toList.map Char.toNat
def leT (a b : String) : Bool := !ltCps (codes b) (codes a)
def srt (l : List String) : List String := l.mergeSort leT
theorem codes_inj {a b : String} (h : codes a = codes b) : a = b := by
  have h3 := mapNat_inj h
  rw [← String.ofList_toList (s := a), ← String.ofList_toList (s := b), h3]
theorem leT_iff {a b : String} : leT a b = true ↔ codes a ≤ codes b := by
  unfold leT
  rw [ltCps_eq]
  simp
theorem leT_trans (a b c : String) (h1 : leT a b = true) (h2 : leT b c = true) : leT a c = true := leT_iff.mpr (List.le_trans (leT_iff.mp h1) (leT_iff.mp h2))
theorem leT_total (a b : String) : (leT a b || leT b a) = true := by
  rw [Bool.or_eq_true]
  rcases List.le_total (codes a) (codes b) with h | h
  · exact .inl (leT_iff.mpr h)
  · exact .inr (leT_iff.mpr h)
theorem leT_anti {a b : String} (h1 : leT a b = true) (h2 : leT b a = true) : a = b := codes_inj (List.le_antisymm (leT_iff.mp h1) (leT_iff.mp h2))
theorem srt_perm (l : List String) : (srt l).Perm l := List.mergeSort_perm l leT
theorem srt_sorted (l : List String) : (srt l).Pairwise (fun a b => leT a b = true) := List.pairwise_mergeSort leT_trans leT_total l
theorem srt_eq {l m : List String} (h : l.Perm m) : srt l = srt m :=
  List.Perm.eq_of_pairwise (fun _ _ _ _ => leT_anti) (srt_sorted l) (srt_sorted m) ((srt_perm l).trans (h.trans (srt_perm m).symm))
theorem rising_pair : ∀ (l : List String) (p : String), risingS (Str.ofString p) (l.map Str.ofString) = true → (p :: l).Pairwise (fun a b => leT a b = true)
  | [], p, _ => by simp
  | x :: r, p, h => by
    have h' : (!ltCps (Str.ofString x).cps.toList (Str.ofString p).cps.toList && risingS (Str.ofString x) (r.map Str.ofString)) = true := h
    rw [Bool.and_eq_true, ofS_cps, ofS_cps] at h'
    have ih := rising_pair r x h'.2
    refine List.pairwise_cons.mpr ⟨fun y hy => ?_, ih⟩
    have h1 : leT p x = true := h'.1
    rcases List.mem_cons.mp hy with e | hy
    · rw [e]; exact h1
    · exact leT_trans p x y h1 (List.rel_of_pairwise_cons ih hy)
theorem sorted_srt {ss ys : List String} (hp : ys.Perm ss) (hs : sortedS (ys.map Str.ofString) = true) : ys = srt ss := by
  have h : ys.Pairwise (fun a b => leT a b = true) := by
    cases ys with
    | nil => exact .nil
    | cons p l => exact rising_pair l p hs
  exact List.Perm.eq_of_pairwise (fun _ _ _ _ => leT_anti) h (srt_sorted ss) (hp.trans (srt_perm ss).symm)
def decS (x : Str) : String := String.ofList (x.cps.toList.map Char.ofNat)
theorem decS_ofS (s : String) : decS (Str.ofString s) = s := by
  unfold decS
  rw [ofS_cps, List.map_map]
  have e : (Char.ofNat ∘ Char.toNat) = id := by
    funext c
    exact Char.ofNat_toNat c
  rw [e, List.map_id, String.ofList_toList]
theorem perm_ofS {ss : List String} : ∀ {ys : List Str}, ys.Perm (ss.map Str.ofString) → ∃ zs : List String, ys = zs.map Str.ofString ∧ zs.Perm ss := fun {ys} h => by
  have all : ∀ (ys : List Str), (∀ y ∈ ys, ∃ z : String, y = Str.ofString z) → ∃ zs : List String, ys = zs.map Str.ofString := fun ys => by
    induction ys with
    | nil => intro _; exact ⟨[], rfl⟩
    | cons y ys ih =>
      intro hy
      obtain ⟨z, e⟩ := hy y (by simp)
      obtain ⟨zs, e2⟩ := ih fun w hw => hy w (List.mem_cons_of_mem _ hw)
      exact ⟨z :: zs, by rw [e, e2]; rfl⟩
  obtain ⟨zs, e⟩ := all ys fun y hy => by
    obtain ⟨z, _, e⟩ := List.mem_map.mp (h.mem_iff.mp hy)
    exact ⟨z, e.symm⟩
  subst e
  refine ⟨zs, rfl, ?_⟩
  have z := h.map decS
  rw [List.map_map, List.map_map] at z
  have e : (decS ∘ Str.ofString) = id := by
    funext s
    exact decS_ofS s
  rw [e, List.map_id, List.map_id] at z
  exact z

section
variable {K : PySem.W.Frag} {ca : Nat → Addr} {F F' : Addr → Prop} {S S' : Store} {H H' : Hp} {B : Bc} {Q : QE} {QV : VK} {d : D} {v : V} {l : List D} {X : Cx} {a b e o : Expr} {es : List Expr} {da db dd : DE} {ta tb te : TE} {pos p2 : Pos} {n : Nat} {σ : DEnv} {σV : L2.St}
def strsOf : List D → Option (List String)
  | [] => some []
  | .str b :: r => (strsOf r).map (b :: ·)
  | _ => none
theorem strs_rel : ∀ {l : List D} {vs : List V} {bs : List String}, RelDs K F H l vs → strsOf l = some bs → vs = (bs.map Str.ofString).map V.str := fun {l} => by
  induction l with
  | nil => intro vs bs q e; cases q; cases e; rfl
  | cons x r ih =>
    intro vs bs q e
    cases q with
    | cons h q =>
      cases h with
      | str s =>
        obtain ⟨bs, e1, e2⟩ := Option.map_eq_some_iff.mp (show (strsOf r).map (s :: ·) = some _ from e)
        subst e2
        rw [ih q e1]
        rfl
      | _ => cases e
theorem strs_of (bs : List String) : RelDs K F H (bs.map D.str) ((bs.map Str.ofString).map V.str) := by
  induction bs with
  | nil => exact .nil
  | cons b r ih => exact .cons (.str b) ih
theorem strsOf_map (bs : List String) : strsOf (bs.map D.str) = some bs := by
  induction bs with
  | nil => rfl
  | cons b r ih => show (strsOf (r.map D.str)).map (b :: ·) = _; rw [ih]; rfl
theorem intsOf_map (bs : List Int) : intsOf (bs.map D.int) = some bs := by
  induction bs with
  | nil => rfl
  | cons b r ih => show (intsOf (r.map D.int)).map (b :: ·) = _; rw [ih]; rfl
theorem blsOf_map (bs : List Bool) : blsOf (bs.map D.bl) = some bs := by
  induction bs with
  | nil => rfl
  | cons b r ih => show (blsOf (r.map D.bl)).map (b :: ·) = _; rw [ih]; rfl
/-- sorted of a list of texts, of a dict's keys; list of a dict -/
def bSorted : DC := fun xs S Q => match xs with
  | [x] => match asK S x with
    | some kd => kd.length < 64 ∧ Q (.lst ((srt (kd.map (·.1))).map D.str)) S
    | none => ofO (asL S x) fun l => ofO (strsOf l) fun ss => ss.length < 64 ∧ Q (.lst ((srt ss).map D.str)) S
  | _ => False
def rSortedX (K : PySem.W.Frag) : List V → Hp → VK → Prop := fun xs H Q => (∃ (a : Addr) (kvs : List (Key × V)) (ks : List Str), xs = [.ref a] ∧ Rd H a (.dK kvs) ∧ kvs.map (·.1) = ks.map Sum.inr ∧ ks.length < 64 ∧
    ∀ ys p, ys.Perm ks → sortedS ys = true → H p = none → Q (.ref p) (upd H p (.lst (ys.map V.str)))) ∨ rSortedS K xs H Q
theorem call_sortedX (hc : X.calm = true) : CallR X (.builtin "sorted") (rSortedX X.K) := CallR.or (call_sortedD hc) cr_sortedS
theorem ks_keys {kd : List (String × D)} {kv : List (Key × V)} (q : RelKs K F H kd kv) : kv.map (·.1) = ((kd.map (·.1)).map Str.ofString).map Sum.inr := by
  induction kd generalizing kv with
  | nil => cases q; rfl
  | cons p r ih => cases q with | cons h q => rw [List.map_cons, ih q]; rfl
theorem vrc_sorted : VRC K ca bSorted (rSortedX K) := by
  intro F S H xs vs Q QV r rx q P
  match xs, vs, rx, q with
  | [x], [v], .cons h .nil, q =>
    have fin : ∀ (ss : List String) (ys : List Str) (p : Addr), ys.Perm (ss.map Str.ofString) → sortedS ys = true → H p = none → Q (.lst ((srt ss).map D.str)) S → QV (.ref p) (upd H p (.lst (ys.map V.str))) := fun ss ys p hp hs hn q => by
      obtain ⟨zs, e, pz⟩ := perm_ofS hp
      subst e
      have ez := sorted_srt pz hs
      subst ez
      exact P _ _ _ _ _ (fr_newF hn) (r.newF hn) (.lst upd_same (.inl rfl) (strs_of _)) q
    unfold bSorted at q
    dsimp only at q
    cases ek : asK S x with
    | some kd =>
      rw [ek] at q
      obtain ⟨a, kv, ev, hd, qk⟩ := asK_rel r h ek
      refine .inl ⟨a, kv, _, by rw [ev], .inl hd, ks_keys qk, by simpa using q.1, fun ys p hp hs hn => ?_⟩
      exact fin _ ys p hp hs hn q.2
    | none =>
      rw [ek] at q
      obtain ⟨l, el, q⟩ := ofO_ex q
      obtain ⟨ss, es, h64, q⟩ := ofO_ex q
      obtain ⟨a, ws, ev, hs, ql⟩ := asL_rel r h el
      rw [strs_rel ql es] at hs
      refine .inr ⟨a, _, by rw [ev], hs, by simpa using h64, fun ys p hp hs hn => ?_⟩
      exact fin _ ys p hp hs hn q
def bListX : DC := fun xs S Q => match xs with
  | [x] => match asK S x with
    | some kd => Q (.lst (kd.map fun p => D.str p.1)) S
    | none => ofO (asQ S x) fun l => Q (.lst l) S
  | _ => False
def rListX (K : PySem.W.Frag) : List V → Hp → VK → Prop := fun xs H Q => (∃ (a : Addr) (kvs : List (Key × V)), xs = [.ref a] ∧ Rd H a (.dK kvs) ∧ ∀ p, H p = none → Q (.ref p) (upd H p (.lst (kvs.map fun kv => kV kv.1)))) ∨
  (∃ p ys, xs = [.ref p] ∧ (SqL K H p ys ∨ SqT K H p ys) ∧ ∀ l, H l = none → Q (.ref l) (upd H l (.lst ys)))
theorem call_listX (hc : X.calm = true) : CallR X (.type "list") (rListX X.K) := CallR.or (call_listD hc) call_list_of
theorem ks_vals {kd : List (String × D)} {kv : List (Key × V)} (q : RelKs K F H kd kv) : RelDs K F H (kd.map fun p => D.str p.1) (kv.map fun p => kV p.1) := by
  induction kd generalizing kv with
  | nil => cases q; exact .nil
  | cons p r ih => cases q with | cons h q => exact .cons (.str _) (ih q)
theorem vrc_listX : VRC K ca bListX (rListX K) := by
  intro F S H xs vs Q QV r rx q P
  match xs, vs, rx, q with
  | [x], [v], .cons h .nil, q =>
    unfold bListX at q
    dsimp only at q
    cases ek : asK S x with
    | some kd =>
      rw [ek] at q
      obtain ⟨a, kv, ev, hd, qk⟩ := asK_rel r h ek
      refine .inl ⟨a, kv, by rw [ev], .inl hd, fun p hp => ?_⟩
      exact P _ _ _ _ _ (fr_newF hp) (r.newF hp) (.lst upd_same (.inl rfl) ((ks_vals qk).mono r (fr_newF hp))) q
    | none =>
      rw [ek] at q
      exact .inr (vrc_list (ca := ca) F S H [x] [v] Q QV r (.cons h .nil) q P)
/-- a new dict, to be changed -/
def dDicM : DE := fun _ S Q => ∀ p, S p = none → Q (.obj p) (put S p (.dic []))
theorem pd_dicM : PD X B (.Dict [] [] pos) dDicM := by
  refine pd_of pe_dnewK fun F σ S σV H Q QV R q P p hp => ?_
  exact P _ _ F _ _ (fr_new (o := .dic []) hp) (R.st.new (o := .dic []) hp ⟨[], upd_same, .nil⟩) (.obj p) (q p (R.st.free hp))

/-! ### isinstance of plain things -/
def tyOfD (S : Store) : D → Option String
  | .non => some "NoneType"
  | .bl _ => some "bool"
  | .int _ => some "int"
  | .str _ => some "str"
  | .tup _ => some "tuple"
  | .lst _ => some "list"
  | .dic _ => some "dict"
  | .obj p => match S p with
    | some (.lst _) => some "list"
    | some (.dic _) => some "dict"
    | _ => none
  | _ => none
def bIsi : DC := fun xs S Q => match xs with
  | [x, .ty T] => ofO (tyOfD S x) fun t => ofO (kitB t T) fun k => Q (.bl k) S
  | _ => False
theorem tyOfD_rel (r : RelS K ca F S H) (rx : RelD K F H d v) {t : String} (e : tyOfD S d = some t) : TyX K H v (.type t) := by
  cases rx with
  | non => cases e; exact .base .non
  | bl b => cases e; exact .base (.bl b)
  | int i => cases e; exact .base (.int i)
  | str s => cases e; exact .base (.str _)
  | tup h q =>
    cases e
    rcases h with (h | ⟨o, h⟩) | ⟨o, its, m, hk, hc, _⟩
    · exact .base (.tup h)
    · exact .fTuple h
    · exact .kTuple hk hc
  | lst h f q => cases e; exact .base (.lst h)
  | dic h f q => cases e; exact .base (.dK h)
  | scr h q => cases e
  | ty s => cases e
  | obj p =>
    have e : (match S p with | some (Ob.lst _) => some "list" | some (Ob.dic _) => some "dict" | _ => none) = some t := e
    cases w : S p with
    | none => rw [w] at e; cases e
    | some u =>
      rw [w] at e
      obtain ⟨_, q⟩ := r.ob p _ w
      cases u with
      | lst m => cases e; obtain ⟨vs, h, _⟩ := q; exact .base (.lst h)
      | dic m => cases e; obtain ⟨vs, h, _⟩ := q; exact .base (.dK h)
      | ins c m => cases e
theorem vrc_isi : VRC K ca bIsi (rIsi K) := by
  intro F S H xs vs Q QV r rx q P
  match xs, vs, rx, q with
  | [x, .ty T], _, .cons h (.cons (.ty _) .nil), q =>
    obtain ⟨t, e, q⟩ := ofO_ex q
    obtain ⟨k, ek, q⟩ := ofO_ex q
    exact ⟨_, _, _, _, k, rfl, .ty T, tyOfD_rel r h e, kit_ty ek, P.at r (.bl _) q⟩
theorem pd_tyname {x : Str} {T : String} (hg : Gl X x) (hm : X.mg x = none) (hv : bootBuiltins x = some (.type T)) (hn : x ≠ "__name__" := by decide) (hd : (x == ("__debug__" : Str)) = false := by decide) : PD X B (.Name x pos) (dC (.ty T)) :=
  pd_of (pe_bltn (v := .ty T) hg hm hv rfl hn hd) (sim_c fun _ _ => .ty T)

/-! ### things of the store are let go -/
def ridAll (S : Store) (l : List Addr) : Store := l.foldl rid S
theorem ridAll_rel (r : RelS K ca F S H) : ∀ l : List Addr, RelS K ca F (ridAll S l) H ∧ Fr F S H F (ridAll S l) H := fun l => by
  induction l generalizing S with
  | nil => exact ⟨r, Fr.refl⟩
  | cons p l ih =>
    obtain ⟨h1, h2⟩ := ih (S := rid S p) (r.rid (p := p))
    exact ⟨h1, Fr.trans fr_rid h2⟩
/-- behind e the things that g names are let go -/
def dKill (g : DEnv → Store → List Addr) (d : DE) : DE := fun σ S Q => d σ S fun x S1 => Q x (ridAll S1 (g σ S1))
theorem pd_kill (g : DEnv → Store → List Addr) (h : PD X B e da) : PD X B e (dKill g da) := by
  intro F σ S σV H Q QV R q P
  refine h F σ S σV H _ _ R q fun x v F1 S1 H1 f1 r1 d1 q1 => ?_
  obtain ⟨r2, f2⟩ := ridAll_rel r1 (g σ S1)
  exact P x v F1 _ H1 (f1.trans f2) r2 (d1.mono r1 f2) q1
/-- the things in a slot, in the items of a slot's list -/
def objsOf : D → List Addr
  | .obj p => [p]
  | _ => []
def slotObjs (i : Nat) : DEnv → Store → List Addr := fun σ _ => match σ[i]? with
  | some (some (.lst l)) => l.flatMap objsOf
  | some (some x) => objsOf x
  | _ => []
end
end DL
/-! DL9: a whole program: its defs, each by its body, to a depth of calls. -/
namespace DL
open PySem PySem.Spec PyProof.Rows L2
def noX : DX → DEnv → Store → Prop := fun _ _ _ => False
def noSp : DSp := fun _ _ _ _ => False
section
variable {Fn : Type} (nloc : Fn → Nat) (body : Fn → (Fn → DSp) → (Fn → DSp) → DBody)
/-- what the defs do, at most k calls deep; wrM: one level less, for what __init__ does -/
def wrk : Nat → Fn → DSp
  | 0, _ => noSp
  | 1, f => runD (nloc f) (body f (fun _ => noSp) (fun _ => noSp))
  | k + 2, f => runD (nloc f) (body f (wrk (k + 1)) (wrk k))
def wrM : Nat → Fn → DSp
  | 0, _ => noSp
  | k + 1, f => wrk nloc body k f
theorem wrk_succ (k : Nat) (f : Fn) : wrk nloc body (k + 1) f = runD (nloc f) (body f (wrk nloc body k) (wrM nloc body k)) := by
  cases k with
  | zero => rfl
  | succ k => rfl
end
section
variable {P : Program} {w : World} {K : PySem.W.Frag} {mg : Str → Option Value} {base : Heap} {ca : Nat → Addr}
theorem fnOk_no {CX : CXT} {k n : Nat} {f : Addr} {fd : FuncData} {ps : List Str} : FnOk P w K mg base CX k f fd ps (lift K ca n noSp) := by
  refine ⟨fun vs H Q E h => ?_, fun A outer s H args us vs Q E _ _ _ _ h => ?_⟩
  · obtain ⟨_, _, _, _, _, _, _, _, z, _⟩ := h
    exact z.elim
  · obtain ⟨_, _, _, _, _, _, _, _, z, _⟩ := h
    exact z.elim
theorem all_ok {Fn : Type} {nloc ar : Fn → Nat} {body : Fn → (Fn → DSp) → (Fn → DSp) → DBody} {fa : Fn → Addr} {fd : Fn → FuncData} {ps : Fn → List Str}
    (h : ∀ (f : Fn) (k : Nat) (W M : Fn → DSp), (∀ g, FnOk P w K mg base (L2.CX P w) (k + 1) (fa g) (fd g) (ps g) (lift K ca (ar g) (W g))) → (∀ g, FnOk P w K mg base (L2.CX P w) k (fa g) (fd g) (ps g) (lift K ca (ar g) (M g))) →
      FnOk P w K mg base (L2.CX P w) (k + 2) (fa f) (fd f) (ps f) (lift K ca (ar f) (runD (nloc f) (body f W M)))) :
    ∀ k, (∀ f, FnOk P w K mg base (L2.CX P w) (k + 1) (fa f) (fd f) (ps f) (lift K ca (ar f) (wrk nloc body k f))) ∧ ∀ f, FnOk P w K mg base (L2.CX P w) k (fa f) (fd f) (ps f) (lift K ca (ar f) (wrM nloc body k f)) := by
  intro k
  induction k with
  | zero => exact ⟨fun f => fnOk_no, fun f => fnOk_no⟩
  | succ k ih =>
    refine ⟨fun f => ?_, ih.1⟩
    rw [wrk_succ]
    exact h f k _ _ ih.1 ih.2
/-- the law's def: the script in, True out -/
def spLaw (K : PySem.W.Frag) : Sp := fun vs H Q _ => ∃ (a : Addr) (ns : List Int), vs = [.ref a] ∧ SqL K H a (ns.map V.int) ∧ Only H ∧ ns.length ≤ 63 ∧ ∀ H', Q (.bl true) H'
end
end DL
/-! DL10: ranges as lists, from their end; several targets. -/
namespace DL
open PySem PySem.Spec PyProof.Rows L2
section
variable {K : PySem.W.Frag} {ca : Nat → Addr} {F F' : Addr → Prop} {S S' : Store} {H H' : Hp} {B : Bc} {Q : QE} {QV : VK} {d : D} {v : V} {l : List D} {X : Cx} {a b e o : Expr} {es : List Expr} {da db dd : DE} {ta tb te : TE} {pos p2 : Pos} {n : Nat} {σ : DEnv} {σV : L2.St}
theorem pdg_tup {k : Nat} {gs : DGs} {tgs : TGs} (hc : X.calm = true) (h : PGs X es tgs ∧ SimGs X.K B gs tgs)
    (hn : (assignEach es X.env).length = n := by rfl) (hst : (assignEach es X.env).findIdx? (·.1) = none := by rfl) : PDG X B (.Tuple es k pos) (gTp n gs) := pdg_of (pg_tup hc h.1 hn hst) (sim_gTp h.2)
theorem pdgs_nil : PGs X [] gNil ∧ SimGs X.K B gsN gNil := ⟨pgs_nil, sim_gsN⟩
theorem pdgs_cons {g : DG} {gs : DGs} {u : TGs} (h1 : PDG X B e g) (h2 : PGs X es u ∧ SimGs X.K B gs u)
    (hs : (assignEach (e :: es) X.env).map (·.2) = assign e X.env :: (assignEach es X.env).map (·.2) := by rfl) : PGs X (e :: es) (gCons (wpG X e) u) ∧ SimGs X.K B (gsC g gs) (gCons (wpG X e) u) := ⟨pgs_cons pg_w h2.1 hs, sim_gsC h1 h2.2⟩
/-- a range that is given on -/
abbrev DRg := DEnv → Store → (Int → Int → Store → Prop) → Prop
abbrev TRg := L2.St → Hp → (Int → Int → Hp → Prop) → Prop
def SimRg (K : PySem.W.Frag) (B : Bc) (d : DRg) (t : TRg) : Prop := ∀ F σ S σV H Q R, Rel K B F σ S σV H → d σ S Q → (∀ i j F' S' H', Fr F S H F' S' H' → RelS K B.ca F' S' H' → Q i j S' → R i j H') → t σV H R
def rg1 (da : DE) : DRg := fun σ S Q => da σ S fun x S1 => match x with
  | .int n => Q 0 n S1
  | _ => False
def rg2 (da db : DE) : DRg := fun σ S Q => da σ S fun x S1 => db σ S1 fun y S2 => match x, y with
  | .int i, .int j => Q i j S2
  | _, _ => False
def PDRg (X : Cx) (B : Bc) (e : Expr) (d : DRg) : Prop := ∃ t, PRg X e t ∧ SimRg X.K B d t
theorem sim_rg1 (h : SimE K B da ta) : SimRg K B (rg1 da) (tRg1 ta) := by
  intro F σ S σV H Q R Rl q P
  refine h F σ S σV H _ _ Rl q fun x v F1 S1 H1 f1 r1 d1 q1 => ?_
  cases d1 with
  | int i => exact ⟨i, rfl, P _ _ F1 S1 H1 f1 r1 q1⟩
  | _ => exact q1.elim
theorem sim_rg2 (ha : SimE K B da ta) (hb : SimE K B db tb) : SimRg K B (rg2 da db) (tRg2 ta tb) := by
  intro F σ S σV H Q R Rl q P
  refine ha F σ S σV H _ _ Rl q fun x v F1 S1 H1 f1 r1 d1 q1 => ?_
  refine hb F1 σ S1 σV H1 _ _ (Rl.step f1 r1) q1 fun y u F2 S2 H2 f2 r2 d2 q2 => ?_
  cases d1 with
  | int i =>
    cases d2 with
    | int j => exact ⟨i, j, rfl, rfl, P _ _ F2 S2 H2 (f1.trans f2) r2 q2⟩
    | _ => exact q2.elim
  | _ => cases d2 <;> exact q2.elim
theorem pdr_1 {p : Pos} (hg : Gl X "range") (hm : X.mg "range" = none) (ha : PD X B a da) (na : starEach [a] X.env = (false, eval a X.env) :: starEach [] X.env := by rfl) : PDRg X B (.Call (.Name "range" p) [a] [] pos) (rg1 da) := ⟨_, prg_1 hg hm pe_w na, sim_rg1 ha⟩
theorem pdr_2 {p : Pos} (hg : Gl X "range") (hm : X.mg "range" = none) (ha : PD X B a da) (hb : PD X B b db) (na : starEach [a, b] X.env = (false, eval a X.env) :: starEach [b] X.env := by rfl)
    (nb : starEach [b] X.env = (false, eval b X.env) :: starEach [] X.env := by rfl) : PDRg X B (.Call (.Name "range" p) [a, b] [] pos) (rg2 da db) := ⟨_, prg_2 hg hm pe_w pe_w na nb (by rw [nb]; rfl), sim_rg2 ha hb⟩
def RgIn (i j : Int) : Prop := -(2 ^ 62) ≤ i ∧ i < 2 ^ 62 ∧ -(2 ^ 62) ≤ j ∧ j < 2 ^ 62 ∧ (j - i).toNat ≤ lim
theorem RgIn.ok {i j : Int} (h : RgIn i j) : RgOk i j := h
/-- list(range(..)), a list that stays, a list that will change -/
def dLstRg (dr : DRg) : DE := fun σ S Q => dr σ S fun i j S1 => RgIn i j ∧ Q (.lst (rangeD i (j - i).toNat)) S1
def dLstRgM (dr : DRg) : DE := fun σ S Q => dr σ S fun i j S1 => RgIn i j ∧ ∀ p, S1 p = none → Q (.obj p) (put S1 p (.lst (rangeD i (j - i).toNat)))
theorem rg_rel (a b : Int) : RelDs K F H (rangeD a (b - a).toNat) (rgV a b) := by
  unfold rangeD rgV
  generalize List.range (b - a).toNat = l
  induction l with
  | nil => exact .nil
  | cons x r ih => exact .cons (.int _) ih
theorem pd_lstRg {p : Pos} {dr : DRg} (hc : X.calm = true) (hg : Gl X "list") (hm : X.mg "list" = none) (he : PDRg X B e dr) (na : starEach [e] X.env = (false, eval e X.env) :: starEach [] X.env := by rfl) : PD X B (.Call (.Name "list" p) [e] [] pos) (dLstRg dr) := by
  obtain ⟨t, h1, h2⟩ := he
  refine pd_of (pe_listRg hc hg hm h1 na) fun F σ S σV H Q QV R q P => ?_
  refine h2 F σ S σV H _ _ R q fun i j F1 S1 H1 f1 r1 q1 => ⟨q1.1.ok, fun p hp => ?_⟩
  exact P _ _ _ _ _ (f1.trans (fr_newF hp)) (r1.newF hp) (.lst upd_same (.inl rfl) (rg_rel i j)) q1.2
theorem pd_lstRgM {p : Pos} {dr : DRg} (hc : X.calm = true) (hg : Gl X "list") (hm : X.mg "list" = none) (he : PDRg X B e dr) (na : starEach [e] X.env = (false, eval e X.env) :: starEach [] X.env := by rfl) : PD X B (.Call (.Name "list" p) [e] [] pos) (dLstRgM dr) := by
  obtain ⟨t, h1, h2⟩ := he
  refine pd_of (pe_listRg hc hg hm h1 na) fun F σ S σV H Q QV R q P => ?_
  refine h2 F σ S σV H _ _ R q fun i j F1 S1 H1 f1 r1 q1 => ⟨q1.1.ok, fun p hp => ?_⟩
  exact P _ _ F1 _ _ (f1.trans (fr_new (o := .lst (rangeD i (j - i).toNat)) hp)) (r1.new (o := .lst (rangeD i (j - i).toNat)) hp ⟨_, upd_same, rg_rel i j⟩) (.obj p) (q1.2 p (r1.free hp))
/-- a range from its end -/
def revD (i : Int) (n : Nat) : List D := (List.range n).map fun k : Nat => D.int (i + (n : Int) - 1 + (k : Int) * (-1))
def iRvR (dr : DRg) : DI := fun σ S Q => dr σ S fun i j S1 => (-(2 ^ 62) ≤ i ∧ i < 2 ^ 62 ∧ -(2 ^ 62) ≤ j ∧ j < 2 ^ 62) ∧ Q (revD i (j - i).toNat) (fun _ => True) S1
theorem revD_get {lo : Int} {n i : Nat} {d : D} (h : (revD lo n)[i]? = some d) : i < n ∧ d = .int (lo + (n : Int) - 1 + (i : Int) * (-1)) := by
  unfold revD at h
  rw [List.getElem?_map] at h
  by_cases hk : i < n
  · rw [List.getElem?_range hk] at h
    cases h
    exact ⟨hk, rfl⟩
  · rw [List.getElem?_eq_none (by simpa using hk)] at h
    cases h
theorem it_rev (lo : Int) (n : Nat) : ItRel K ca F S H (revD lo n) (fun _ => True) (Itc (lo + (n : Int) - 1) (-1) n) := by
  intro i F' S' H' f' r' _
  refine ⟨fun d ed => ?_, fun hl => show n ≤ i by unfold revD at hl; simpa using hl⟩
  obtain ⟨hi, rfl⟩ := revD_get ed
  refine ⟨hi, fun x H'' y => ?_⟩
  obtain ⟨e1, e2⟩ := y
  subst e1 e2
  exact ⟨Fr.refl, r', .int _⟩
theorem pdi_revR {tg : Expr} {dr : DRg} {p : Pos} (hg : Gl X "reversed") (hm : X.mg "reversed" = none) (he : PDRg X B e dr) (hs : starEach [e] X.env = (false, eval e X.env) :: starEach [] X.env := by rfl) : PDI X B tg (.Call (.Name "reversed" p) [e] [] pos) (iRvR dr) := by
  obtain ⟨t, h1, h2⟩ := he
  refine ⟨_, pi_revR hg hm h1 hs, fun F σ S σV H Q R' R q P => ?_⟩
  refine h2 F σ S σV H _ _ R q fun i j F1 S1 H1 f1 r1 q1 => ⟨q1.1.1, q1.1.2.1, q1.1.2.2.1, q1.1.2.2.2, ?_⟩
  exact P _ _ F1 S1 H1 _ f1 r1 (it_rev i _) q1.2
end
end DL
/-! DL11: a law's end. -/
namespace DL
open PySem PySem.Spec PyProof.Rows L2
theorem fun_of {K : PySem.W.Frag} {x qual : Str} {st : Stmt} {f : Addr} {fd : FuncData} (F : FunD K x qual (defArgs st) (defBody st) (defScope st) [] [] f fd) : Fun K x qual st f fd := by
  obtain ⟨oc, od, dV, kV, doc, pm, an, cdv, ct, osl, e, lk, hcd, hD, hK⟩ := F.ex
  rcases hD with ⟨_, e2⟩ | ⟨z, _⟩
  · rw [e2] at e
    exact ⟨⟨oc, od, kV, doc, pm, an, cdv, ct, osl, e, lk, hcd⟩, F.kp⟩
  · exact absurd rfl z
/-- what the law's def must do over data -/
def LawD (w : DSp) : Prop := ∀ (x : D) (ns : List Int), (x = .scr (ns.map D.int) ∨ x = .lst (ns.map D.int)) → ns.length ≤ 63 → w [x] (fun _ => none) (fun y _ => y = .bl true) (fun _ _ => False)
theorem ints_of2 {K : PySem.W.Frag} {F : Addr → Prop} {H : Hp} : ∀ ns : List Int, RelDs K F H (ns.map D.int) (ns.map V.int)
  | [] => .nil
  | n :: ns => .cons (.int n) (ints_of2 ns)
theorem lift_law {K : PySem.W.Frag} {ca : Nat → Addr} {w : DSp} (h : LawD w) {H : Hp} {a : Addr} {ns : List Int} (hl : ns.length ≤ 63) (hS : SqL K H a (ns.map V.int)) : lift K ca 1 w [.ref a] H (fun v _ => v = .bl true) fun _ _ _ => False := by
  have fin : ∀ (F : Addr → Prop) (x : D), (x = .scr (ns.map D.int) ∨ x = .lst (ns.map D.int)) → RelD K F H x (.ref a) → RelS K ca F (fun _ => none) H → lift K ca 1 w [.ref a] H (fun v _ => v = .bl true) fun _ _ _ => False := fun F x hx hr hs => by
    refine ⟨[x], F, fun _ => none, _, _, rfl, .cons hr .nil, hs, h x ns hx hl, fun y v F' S' H' _ _ d e => ?_, fun x cls dd F' S' H' _ _ _ z => z.elim⟩
    rw [e] at d
    cases d
    rfl
  rcases hS with (hS | ⟨o, hS⟩) | hS
  · exact fin (fun b => b = a) (.lst (ns.map D.int)) (.inr rfl) (.lst hS rfl (ints_of2 ns)) ⟨fun b o z => (nomatch z), fun b hb => by rw [hb]; exact ⟨_, hS⟩⟩
  · exact fin (fun _ => False) (.scr (ns.map D.int)) (.inl rfl) (.scr (.inl ⟨o, hS⟩) (ints_of2 ns)) ⟨fun b o z => (nomatch z), fun b hb => hb.elim⟩
  · exact fin (fun _ => False) (.scr (ns.map D.int)) (.inl rfl) (.scr (.inr hS) (ints_of2 ns)) ⟨fun b o z => (nomatch z), fun b hb => hb.elim⟩
/-- the end of a law over such a layer -/
theorem walk_dl {l : PySem.W.OpenLaw} {k : Nat} {q : Program} {loose : List Str} {XP : (Str → Option Value) → Heap → Prop} {YP : World → Heap → Prop} {d : DefRec} {x : Str}
    (hn : l.most = some 63) (hdf : d.params.defaults = []) (hr : Room k callerA)
    (F : ∀ (w : World) (mg : Str → Option Value) (fa : Addr) (h : Heap), YP w h → h.Ns mainGlobals mg → mg d.name = some (.ref fa) →
      ∃ (K : PySem.W.Frag) (fd : FuncData) (ca : Nat → Addr) (wl : DSp), K.In h ∧ LawD wl ∧ (∀ (s : Shared) (u : Value), BindsTo s fd ⟨[u], []⟩ [(x, u)]) ∧
        ∀ base : Heap, K.In base → base.Ns mainGlobals mg → FnOk l.prog w K mg base (L2.CX l.prog w) k fa fd [x] (lift K ca 1 wl)) :
    PySem.W.WalkO q loose XP YP l.row.toRowW d [] (fun f vs => PySem.call f vs) := by
  refine Att.attach_callB hn hdf fun w s₀ s₁ mg mb fa o pm cd doc a vs ns G Y ho hd hcd hmg hobj hints hlen hbits hg => ?_
  obtain ⟨K, fd, ca, wl, KX, hw, hb, hF⟩ := F w mg fa _ Y G.T.g hmg
  refine law_call KX G.T.g G.T.b G.T.builtins G.T.nolimit hg hobj hints (Nat.le_trans hlen (by decide)) hr hF hb (fun H hO hS => lift_law hw hlen hS) fun H e s' z => ?_
  obtain ⟨_, _, _, _, _, _, _, _, _, _, _, _, z⟩ := z
  exact z
end DL
/-! DS1: transformers by computation. -/
namespace DL
open PySem PySem.Spec PyProof.Rows L2
section
variable {σ : DEnv} {S : Store} {Q : QE} {x y : D} {l m : List D} {p q : Addr} {o : Ob} {i j : Int} {E : XQ} {D' : DEnds} {s t : String}
@[simp] theorem r_seq {a b : DS} : dSeq a b D' σ S = a { D' with nx := b D' } σ S := propext Iff.rfl
@[simp] theorem r_next : dNext D' σ S = D'.nx σ S := propext Iff.rfl
@[simp] theorem r_brk : dBrk D' σ S = D'.bk σ S := propext Iff.rfl
@[simp] theorem r_cnt : dCnt D' σ S = D'.ct σ S := propext Iff.rfl
@[simp] theorem r_drop {a : DE} : dDrop a D' σ S = a σ S fun _ S1 => D'.nx σ S1 := propext Iff.rfl
@[simp] theorem r_ret {a : DE} : dRet a D' σ S = a σ S D'.rt := propext Iff.rfl
@[simp] theorem r_retN : dRetN D' σ S = D'.rt .non S := propext Iff.rfl
@[simp] theorem r_asg {a : DE} {g : DG} : dAsg a g D' σ S = a σ S fun x S1 => g x σ S1 D'.nx := propext Iff.rfl
@[simp] theorem r_ifS {c : DT} {a b : DS} : dIfS c a b D' σ S = c σ S fun k S1 => if k = true then a D' σ S1 else b D' σ S1 := propext Iff.rfl
@[simp] theorem r_for {it : DI} {g : DG} {tb : DS} : dFor it g tb D' σ S = it σ S fun L keep S1 => forL keep g tb L D' σ S1 := propext Iff.rfl
@[simp] theorem r_gN {n : Nat} {R : DEnv → Store → Prop} : gN n x σ S R = R (σ.set n (some x)) S := propext Iff.rfl
@[simp] theorem r_gsN {R : DEnv → Store → Prop} : gsN l σ S R = (l = [] ∧ R σ S) := propext Iff.rfl
@[simp] theorem r_gsC {g : DG} {gs : DGs} {R : DEnv → Store → Prop} : gsC g gs (x :: l) σ S R = g x σ S fun σ1 S1 => gs l σ1 S1 R := propext Iff.rfl
@[simp] theorem r_gTp {n : Nat} {gs : DGs} {R : DEnv → Store → Prop} : gTp n gs (.tup l) σ S R = (l.length = n ∧ gs l σ S R) := propext Iff.rfl
@[simp] theorem r_gSb {a b : DE} {R : DEnv → Store → Prop} : gSb a b stD x σ S R = a σ S fun o S1 => b σ S1 fun i S2 => stD o i x S2 fun S3 => R σ S3 := propext Iff.rfl
@[simp] theorem r_var {n : Nat} : dVar n σ S Q = (match σ[n]? with | some (some v) => Q v S | _ => False) := propext Iff.rfl
@[simp] theorem r_C : dC x σ S Q = Q x S := propext Iff.rfl
@[simp] theorem r_op {r : DR2} {a b : DE} : dOp r a b σ S Q = a σ S fun x S1 => b σ S1 fun y S2 => r x y S2 Q := propext Iff.rfl
@[simp] theorem r_un {r : DR1} {a : DE} : dUn r a σ S Q = a σ S fun x S1 => r x S1 Q := propext Iff.rfl
@[simp] theorem r_nil {R : List D → Store → Prop} : dNil σ S R = R [] S := propext Iff.rfl
@[simp] theorem r_cons {a : DE} {b : DA} {R : List D → Store → Prop} : dCons a b σ S R = a σ S fun x S1 => b σ S1 fun xs S2 => R (x :: xs) S2 := propext Iff.rfl
@[simp] theorem r_tup {a : DA} : dTup a σ S Q = a σ S fun xs S1 => Q (.tup xs) S1 := propext Iff.rfl
@[simp] theorem r_lst {a : DA} : dLst a σ S Q = a σ S fun xs S1 => Q (.lst xs) S1 := propext Iff.rfl
@[simp] theorem r_lstM {a : DA} : dLstM a σ S Q = a σ S fun xs S1 => ∀ p, S1 p = none → Q (.obj p) (put S1 p (.lst xs)) := propext Iff.rfl
@[simp] theorem r_dicM : dDicM σ S Q = ∀ p, S p = none → Q (.obj p) (put S p (.dic [])) := propext Iff.rfl
@[simp] theorem r_frz {a : DE} : dFrz a σ S Q = a σ S fun x S1 => match x with
  | .obj p => match S1 p with
    | some (.lst l) => Q (.lst l) (rid S1 p)
    | some (.dic l) => Q (.dic l) (rid S1 p)
    | _ => False
  | _ => False := propext Iff.rfl
@[simp] theorem r_cb {r : DC} {a : DA} : dCB r a σ S Q = a σ S fun xs S1 => r xs S1 Q := propext Iff.rfl
@[simp] theorem r_bm {T : String} {r : DM} {a : DE} {b : DA} : dBM T r a b σ S Q = a σ S fun x S1 => tyD T S1 x ∧ b σ S1 fun xs S2 => r x xs S2 Q := propext Iff.rfl
@[simp] theorem r_bm0 {T : String} {r : DM} {a : DE} : dBM0 T r a σ S Q = a σ S fun x S1 => tyD T S1 x ∧ r x [] S1 Q := propext Iff.rfl
@[simp] theorem r_call {w : DSp} {ED : DX → DEnv → Store → Prop} {a : DA} : dCall w ED a σ S Q = a σ S fun ds S1 => w ds S1 Q fun x S2 => ED x σ S2 := propext Iff.rfl
@[simp] theorem r_call0 {w : DSp} {ED : DX → DEnv → Store → Prop} : dCall0 w ED σ S Q = w [] S Q fun x S2 => ED x σ S2 := propext Iff.rfl
@[simp] theorem r_meth {c : Nat} {mm : String} {w : DSp} {ED : DX → DEnv → Store → Prop} {a : DE} {b : DA} : dMeth c mm w ED a b σ S Q = a σ S fun x S1 => ofO (insD S1 c x) fun z => z.2.lookup mm = none ∧ b σ S1 fun ds S2 => w (x :: ds) S2 Q fun y S3 => ED y σ S3 := propext Iff.rfl
@[simp] theorem r_make {c : Nat} {w : DSp} {ED : DX → DEnv → Store → Prop} {b : DA} : dMake c w ED b σ S Q = b σ S fun ds S1 => ∀ p, S1 p = none → w (.obj p :: ds) (put S1 p (.ins c [])) (fun v S2 => v = .non ∧ Q (.obj p) S2) fun y S3 => ED y σ S3 := propext Iff.rfl
@[simp] theorem r_fld {c : Nat} {f : String} {a : DE} : dFld c f a σ S Q = a σ S fun x S1 => ofO (insD S1 c x) fun z => ofO (z.2.lookup f) fun y => Q y S1 := propext Iff.rfl
@[simp] theorem r_putF {c : Nat} {f : String} {a b : DE} : dPutF c f a b D' σ S = b σ S fun y S1 => a σ S1 fun x S2 => ofO (insD S2 c x) fun z => z.2.length < 1000 ∧ D'.nx σ (put S2 z.1 (.ins c (putFD f y z.2))) := propext Iff.rfl
@[simp] theorem r_test {a : DE} {R : Bool → Store → Prop} : dTest a σ S R = a σ S fun x S1 => match x with | .bl k => R k S1 | _ => False := propext Iff.rfl
@[simp] theorem r_and {a b : DT} {R : Bool → Store → Prop} : dAnd a b σ S R = a σ S fun c S1 => if c = true then b σ S1 R else R false S1 := propext Iff.rfl
@[simp] theorem r_or {a b : DT} {R : Bool → Store → Prop} : dOr a b σ S R = a σ S fun c S1 => if c = true then R true S1 else b σ S1 R := propext Iff.rfl
@[simp] theorem r_not {a : DT} {R : Bool → Store → Prop} : dNot a σ S R = a σ S fun c S1 => R (!c) S1 := propext Iff.rfl
@[simp] theorem r_tru {a : DE} {R : Bool → Store → Prop} : dTru a σ S R = a σ S fun x S1 => ofO (truD S1 x) fun k => R k S1 := propext Iff.rfl
@[simp] theorem r_andV {a b : DE} : dAndV a b σ S Q = a σ S fun x S1 => match x with
  | .bl true => b σ S1 Q
  | .bl false => Q (.bl false) S1
  | _ => False := propext Iff.rfl
@[simp] theorem r_orV {a b : DE} : dOrV a b σ S Q = a σ S fun x S1 => match x with
  | .bl true => Q (.bl true) S1
  | .bl false => b σ S1 Q
  | _ => False := propext Iff.rfl
@[simp] theorem r_notV {a : DE} : dNotV a σ S Q = a σ S fun x S1 => match x with
  | .bl c => Q (.bl (!c)) S1
  | _ => False := propext Iff.rfl
@[simp] theorem r_if {c : DT} {a b : DE} : dIf c a b σ S Q = c σ S fun k S1 => if k = true then a σ S1 Q else b σ S1 Q := propext Iff.rfl
@[simp] theorem r_par {n k : Nat} {a : DA} : dPar n k a D' σ S = a σ S fun xs S1 => match xs with
  | [x, y] => D'.nx ((σ.set n (some x)).set k (some y)) S1
  | _ => False := propext Iff.rfl
@[simp] theorem r_kill {g : DEnv → Store → List Addr} {a : DE} : dKill g a σ S Q = a σ S fun x S1 => Q x (ridAll S1 (g σ S1)) := propext Iff.rfl
@[simp] theorem r_iL {a : DE} {R : List D → (Store → Prop) → Store → Prop} : iL a σ S R = a σ S fun x S1 => ofO (asL S1 x) fun l => R l (keepL x l) S1 := propext Iff.rfl
@[simp] theorem r_iT {a : DE} {R : List D → (Store → Prop) → Store → Prop} : iT a σ S R = a σ S fun x S1 => match x with
  | .tup l => R l (fun _ => True) S1
  | _ => False := propext Iff.rfl
@[simp] theorem r_iR1 {a : DA} {R : List D → (Store → Prop) → Store → Prop} : iR1 a σ S R = a σ S fun xs S1 => match xs with
  | [.int j] => (-(2 ^ 62) ≤ j ∧ j < 2 ^ 62) ∧ R (rangeD 0 j.toNat) (fun _ => True) S1
  | _ => False := propext Iff.rfl
@[simp] theorem r_iR2 {a : DA} {R : List D → (Store → Prop) → Store → Prop} : iR2 a σ S R = a σ S fun xs S1 => match xs with
  | [.int i, .int j] => (-(2 ^ 62) ≤ i ∧ i < 2 ^ 62 ∧ -(2 ^ 62) ≤ j ∧ j < 2 ^ 62) ∧ R (rangeD i (j - i).toNat) (fun _ => True) S1
  | _ => False := propext Iff.rfl
@[simp] theorem r_iEn {a : DA} {R : List D → (Store → Prop) → Store → Prop} : iEn a σ S R = a σ S fun xs S1 => match xs with
  | [x] => ofO (asL S1 x) fun l => R (enumD 0 l) (keepL x l) S1
  | _ => False := propext Iff.rfl
@[simp] theorem r_dLc {it : DI} {c : CT} {tt : DT} {te : DE} {vs : List Nat} : dLc it c tt te vs σ S Q = it σ S fun L keep S1 => lcL keep c.g tt te (wipeD σ vs) L [] S1 fun acc S2 => Q (.lst acc) S2 := propext Iff.rfl
@[simp] theorem r_dLcM {it : DI} {c : CT} {tt : DT} {te : DE} {vs : List Nat} : dLcM it c tt te vs σ S Q = it σ S fun L keep S1 => lcL keep c.g tt te (wipeD σ vs) L [] S1 fun acc S2 => ∀ p, S2 p = none → Q (.obj p) (put S2 p (.lst acc)) := propext Iff.rfl
@[simp] theorem r_yes {R : Bool → Store → Prop} : dYes σ S R = R true S := propext Iff.rfl
@[simp] theorem r_ctg {n : Nat} : CT.g (.one n) = gN n := rfl
@[simp] theorem r_ofO {α : Type} {v : α} {k : α → Prop} : ofO (some v) k = k v := propext Iff.rfl
@[simp] theorem r_ixI1 {k : Int} : dIx (.tup l) (.int k) S Q = ofO (atI l k) fun z => Q z S := propext Iff.rfl
@[simp] theorem r_ixI2 {k : Int} : dIx (.lst l) (.int k) S Q = ofO (atI l k) fun z => Q z S := propext Iff.rfl
@[simp] theorem r_ixI3 {k : Int} : dIx (.scr l) (.int k) S Q = ofO (atI l k) fun z => Q z S := propext Iff.rfl
@[simp] theorem r_ixO {k : Int} : dIx (.obj p) (.int k) S Q = ofO (asL S (.obj p)) fun l => ofO (atI l k) fun z => Q z S := propext Iff.rfl
@[simp] theorem r_ixK : dIx x (.str s) S Q = ofO (asK S x) fun kd => ofO (kd.lookup s) fun z => Q z S := propext Iff.rfl
@[simp] theorem r_addI : dAdd (.int i) (.int j) S Q = Q (.int (i + j)) S := propext Iff.rfl
@[simp] theorem r_addS : dAdd (.str s) (.str t) S Q = (s.length + t.length ≤ lim ∧ Q (.str (s ++ t)) S) := propext Iff.rfl
@[simp] theorem r_addL : dAdd (.lst l) (.lst m) S Q = (l.length + m.length ≤ lim ∧ Q (.lst (l ++ m)) S) := propext Iff.rfl
@[simp] theorem r_addT : dAdd (.tup l) (.tup m) S Q = (l ≠ [] ∧ l.length + m.length ≤ lim ∧ Q (.tup (l ++ m)) S) := propext Iff.rfl
@[simp] theorem r_int2 {C : Int → Int → Prop} {g : Int → Int → D} : dInt2 C g (.int i) (.int j) S Q = (C i j ∧ Q (g i j) S) := propext Iff.rfl
@[simp] theorem r_int0 {g : Int → Int → D} : dInt0 g (.int i) (.int j) S Q = Q (g i j) S := propext Iff.rfl
@[simp] theorem r_eq : dEq x y S Q = (okD (sees S x) = true ∧ okD (sees S y) = true ∧ Q (.bl (eqD (sees S x) (sees S y))) S) := propext Iff.rfl
@[simp] theorem r_ne : dNe x y S Q = (okD (sees S x) = true ∧ okD (sees S y) = true ∧ Q (.bl (!eqD (sees S x) (sees S y))) S) := propext Iff.rfl
@[simp] theorem r_see1 : sees S (.int i) = .int i := rfl
@[simp] theorem r_see2 : sees S (.str s) = .str s := rfl
@[simp] theorem r_see3 : sees S (.tup l) = .tup l := rfl
@[simp] theorem r_see4 : sees S (.lst l) = .lst l := rfl
@[simp] theorem r_see5 : sees S .non = .non := rfl
@[simp] theorem r_see6 {b : Bool} : sees S (.bl b) = .bl b := rfl
theorem see_lst (h : S p = some (.lst l)) : sees S (.obj p) = .lst l := by simp [sees, h]
@[simp] theorem r_asL1 : asL S (.lst l) = some l := rfl
@[simp] theorem r_asL2 : asL S (.scr l) = some l := rfl
theorem asL_obj (h : S p = some (.lst l)) : asL S (.obj p) = some l := by simp [asL, h]
@[simp] theorem r_asLt : asL S (.tup l) = none := rfl
@[simp] theorem r_asLi : asL S (.int i) = none := rfl
@[simp] theorem r_asLs : asL S (.str s) = none := rfl
theorem asK_obj {kd : List (String × D)} (h : S p = some (.dic kd)) : asK S (.obj p) = some kd := by simp [asK, h]
theorem asK_objL (h : S p = some (.lst l)) : asK S (.obj p) = none := by simp [asK, h]
@[simp] theorem r_asKl : asK S (.lst l) = none := rfl
@[simp] theorem r_asKd {kd : List (String × D)} : asK S (.dic kd) = some kd := rfl
@[simp] theorem r_asKs : asK S (.str s) = none := rfl
theorem insD_obj {c : Nat} {fs : List (String × D)} (h : S p = some (.ins c fs)) : insD S c (.obj p) = some (p, fs) := by simp [insD, h]
theorem tyD_lst (h : S p = some (.lst l)) : tyD "list" S (.obj p) := by simp [tyD, asL_obj h]
@[simp] theorem r_len : bLen [x] S Q = ofO (lenD S x) fun n => Q (.int n) S := propext Iff.rfl
@[simp] theorem r_lenL : lenD S (.lst l) = some l.length := rfl
theorem lenD_obj (h : S p = some (.lst l)) : lenD S (.obj p) = some l.length := by simp [lenD, asL_obj h]
@[simp] theorem r_abs : bAbs [.int i] S Q = Q (.int (if i < 0 then -i else i)) S := propext Iff.rfl
@[simp] theorem r_int : bInt [.int i] S Q = Q (.int i) S := propext Iff.rfl
theorem app_obj (h : S p = some (.lst l)) : mAppend (.obj p) [x] S Q = (l.length < lim ∧ Q .non (put S p (.lst (l ++ [x])))) := by simp [mAppend, h]
theorem st_lst {R : Store → Prop} (h : S p = some (.lst l)) : stD (.obj p) (.int i) x S R = ofO (ixN l.length i) fun j => R (put S p (.lst (l.set j x))) := by simp [stD, h]
theorem st_dic {kd : List (String × D)} {R : Store → Prop} (h : S p = some (.dic kd)) : stD (.obj p) (.str s) x S R = (kd.length < lim ∧ R (put S p (.dic (putKD s x kd)))) := by simp [stD, h]
theorem ix_nat {n k : Nat} (hk : k < n) : ixN n (k : Int) = some k := by
  unfold ixN
  rw [if_pos (by omega), if_pos (by omega)]
  simp
theorem at_nat {k : Nat} (h : l[k]? = some x) : atI l (k : Int) = some x := by
  have hk : k < l.length := by
    apply Classical.byContradiction
    intro z
    rw [List.getElem?_eq_none (by omega)] at h
    cases h
  unfold atI
  rw [ix_nat hk]
  exact h
@[simp] theorem r_tru1 {b : Bool} : truD S (.bl b) = some b := rfl
@[simp] theorem put_at : put S p o p = some o := put_same
@[simp] theorem asL_put : asL (put S p (.lst l)) (.obj p) = some l := asL_obj put_same
@[simp] theorem asK_put {kd : List (String × D)} : asK (put S p (.dic kd)) (.obj p) = some kd := asK_obj put_same
theorem ix_zero {n : Nat} (h : 0 < n) : ixN n 0 = some 0 := ix_nat h
@[simp] theorem at0 {α : Type} {a : α} {r : List α} : atI (a :: r) 0 = some a := by unfold atI; rw [ix_zero (by simp)]; rfl
@[simp] theorem at1 {α : Type} {a b : α} {r : List α} : atI (a :: b :: r) 1 = some b := by unfold atI; rw [show ixN (a :: b :: r).length 1 = some 1 from ix_nat (k := 1) (by simp)]; rfl
@[simp] theorem at2 {α : Type} {a b c : α} {r : List α} : atI (a :: b :: c :: r) 2 = some c := by unfold atI; rw [show ixN (a :: b :: c :: r).length 2 = some 2 from ix_nat (k := 2) (by simp)]; rfl
@[simp] theorem at3 {α : Type} {a b c d : α} {r : List α} : atI (a :: b :: c :: d :: r) 3 = some d := by unfold atI; rw [show ixN (a :: b :: c :: d :: r).length 3 = some 3 from ix_nat (k := 3) (by simp)]; rfl
theorem runD_eq {n : Nat} {b : DBody} {ds : List D} : runD n b ds S Q E = b (fun x _ S1 => E x S1) { nx := fun _ S1 => Q .non S1, rt := Q } (startD n ds) S := rfl
theorem lc_map {te : DE} {n : Nat} {keep : Store → Prop} {R : List D → Store → Prop} {tt : DT} (f : D → D) : ∀ {L acc : List D} {σ : DEnv}, keep S → (acc.length + L.length ≤ lim) → (∀ x ∈ L, ∀ Q, Q true S → tt (σ.set n (some x)) S Q) → (∀ x ∈ L, ∀ Q, Q (f x) S → te (σ.set n (some x)) S Q) → R (acc ++ L.map f) S → lcL keep (gN n) tt te σ L acc S R
  | [], acc, σ, hk, _, _, _, h => ⟨hk, by simpa using h⟩
  | x :: L, acc, σ, hk, hl, ht, he, h => by
    refine ⟨hk, ?_⟩
    show tt (σ.set n (some x)) S _
    refine ht x (by simp) _ ?_
    rw [if_pos rfl]
    refine he x (by simp) _ ⟨by simp at hl; omega, ?_⟩
    exact lc_map f hk (by simp at hl ⊢; omega) (fun y hy => ht y (by simp [hy])) (fun y hy => he y (by simp [hy])) (by simpa using h)
end
end DL
/-! DS2: loops by invariants, new things of the store. -/
namespace DL
open PySem PySem.Spec PyProof.Rows L2
section
variable {σ : DEnv} {S S0 S' : Store} {Q : QE} {x y : D} {l m : List D} {p q : Addr} {o : Ob} {i j : Int} {E : XQ} {D' : DEnds} {keep : Store → Prop} {g : DG} {tb : DS} {fs : List Addr} {os : List Ob}
theorem for_ind (I : List D → DEnv → Store → Prop) (hk : ∀ L σ S, I L σ S → keep S)
    (step : ∀ x r σ S (N : DEnv → Store → Prop), I (x :: r) σ S → (∀ σ S, I r σ S → N σ S) → g x σ S fun σ1 S1 => tb { D' with nx := N, ct := N, bk := D'.nx } σ1 S1)
    (fin : ∀ σ S, I [] σ S → D'.nx σ S) : ∀ {L : List D} {σ : DEnv} {S : Store}, I L σ S → forL keep g tb L D' σ S
  | [], σ, S, h => ⟨hk _ _ _ h, fin _ _ h⟩
  | x :: r, σ, S, h => ⟨hk _ _ _ h, step x r σ S _ h fun σ S h => for_ind I hk step fin h⟩
/-- the items already walked too -/
theorem for_ind2 (I : List D → List D → DEnv → Store → Prop) (L0 : List D) (hk : ∀ d L σ S, I d L σ S → keep S)
    (step : ∀ d x r σ S (N : DEnv → Store → Prop), d ++ x :: r = L0 → I d (x :: r) σ S → (∀ σ S, I (d ++ [x]) r σ S → N σ S) → g x σ S fun σ1 S1 => tb { D' with nx := N, ct := N, bk := D'.nx } σ1 S1)
    (fin : ∀ σ S, I L0 [] σ S → D'.nx σ S) {σ : DEnv} {S : Store} (h : I [] L0 σ S) : forL keep g tb L0 D' σ S := by
  refine for_ind (I := fun r σ S => ∃ d, d ++ r = L0 ∧ I d r σ S) (fun L σ S ⟨d, _, h⟩ => hk _ _ _ _ h) (fun x r σ S N ⟨d, e, h⟩ hN => step d x r σ S N e h fun σ S h => hN _ _ ⟨d ++ [x], by simpa using e, h⟩) (fun σ S ⟨d, e, h⟩ => fin σ S ?_) ⟨[], rfl, h⟩
  rw [List.append_nil] at e
  rw [← e]; rw [e] ; rw [e] at h; exact h
theorem for_indM {α : Type} (h : α → D) (I : List α → List α → DEnv → Store → Prop) (L0 : List α) (hk : ∀ d L σ S, I d L σ S → keep S)
    (step : ∀ d x r σ S (N : DEnv → Store → Prop), d ++ x :: r = L0 → I d (x :: r) σ S → (∀ σ S, I (d ++ [x]) r σ S → N σ S) → g (h x) σ S fun σ1 S1 => tb { D' with nx := N, ct := N, bk := D'.nx } σ1 S1)
    (fin : ∀ σ S, I L0 [] σ S → D'.nx σ S) {σ : DEnv} {S : Store} (h0 : I [] L0 σ S) : forL keep g tb (L0.map h) D' σ S := by
  refine for_ind (I := fun R σ S => ∃ d r, R = r.map h ∧ d ++ r = L0 ∧ I d r σ S) (fun L σ S ⟨d, r, _, _, h⟩ => hk _ _ _ _ h) ?st ?fn ⟨[], L0, rfl, rfl, h0⟩
  case st =>
    intro y R σ S N ⟨d, r, e1, e, hI⟩ hN
    cases r with
    | nil => cases e1
    | cons x r =>
      rw [List.map_cons] at e1
      injection e1 with e2 e3
      subst e2 e3
      exact step d x r σ S N e hI fun σ S h => hN _ _ ⟨d ++ [x], r, rfl, by simpa using e, h⟩
  case fn =>
    intro σ S ⟨d, r, e1, e, hI⟩
    cases r with
    | nil => rw [List.append_nil] at e; subst e; exact fin σ S hI
    | cons x r => cases e1
theorem range_map (n : Nat) : rangeD 0 n = (List.range n).map fun i : Nat => D.int (i : Int) := by
  unfold rangeD
  refine List.map_congr_left fun i _ => ?_
  rw [Int.zero_add]
theorem lc_ind {te : DE} {tt : DT} {R : List D → Store → Prop} (I : List D → List D → DEnv → Store → Prop) (hk : ∀ L acc σ S, I L acc σ S → keep S)
    (step : ∀ x r acc σ S (N : List D → DEnv → Store → Prop), I (x :: r) acc σ S → (∀ acc σ S, I r acc σ S → N acc σ S) → g x σ S fun σ1 S1 => tt σ1 S1 fun k S2 => if k = true then te σ1 S2 fun y S3 => acc.length < lim ∧ N (acc ++ [y]) σ S3 else N acc σ S2)
    (fin : ∀ acc σ S, I [] acc σ S → R acc S) : ∀ {L acc : List D} {σ : DEnv} {S : Store}, I L acc σ S → lcL keep g tt te σ L acc S R
  | [], acc, σ, S, h => ⟨hk _ _ _ _ h, fin _ _ _ h⟩
  | x :: r, acc, σ, S, h => by
    refine ⟨hk _ _ _ _ h, ?_⟩
    exact step x r acc σ S (fun acc σ S => lcL keep g tt te σ r acc S R) h fun acc σ S h => lc_ind I hk step fin h
/-- S has, beside what S0 has, the new things fs, which are os -/
structure Ext (S0 S : Store) (fs : List Addr) (os : List Ob) : Prop where
  nd : fs.Nodup
  fr : ∀ p ∈ fs, S0 p = none
  out : ∀ p, p ∉ fs → S p = S0 p
  len : fs.length = os.length
  at_ : ∀ (i : Nat) (p : Addr), fs[i]? = some p → S p = os[i]?
theorem Ext.nil : Ext S S [] [] := ⟨List.nodup_nil, by simp, fun _ _ => rfl, rfl, by simp⟩
theorem Ext.old (e : Ext S0 S fs os) (h : S0 p = some o) : S p = some o := by
  rw [e.out p fun z => by rw [e.fr p z] at h; cases h]; exact h
theorem Ext.push (e : Ext S0 S fs os) (h : S p = none) : Ext S0 (put S p o) (fs ++ [p]) (os ++ [o]) := by
  have hp : p ∉ fs := fun z => by
    obtain ⟨i, hi, e1⟩ := List.mem_iff_getElem.mp z
    have e2 := e.at_ i p (by rw [List.getElem?_eq_getElem hi, e1])
    rw [h, List.getElem?_eq_getElem (by rw [← e.len]; exact hi)] at e2
    cases e2
  refine ⟨?_, ?_, ?_, by simp [e.len], ?_⟩
  · rw [List.nodup_append]
    exact ⟨e.nd, by simp, fun a ha b hb z => by simp at hb; subst hb; subst z; exact hp ha⟩
  · intro q hq
    rcases List.mem_append.mp hq with hq | hq
    · exact e.fr q hq
    · simp at hq; subst hq; rw [← e.out q hp]; exact h
  · intro q hq
    rw [List.mem_append, not_or] at hq
    have hne : q ≠ p := by simpa using hq.2
    rw [put_ne hne]; exact e.out q hq.1
  · intro i q hq
    by_cases hi : i < fs.length
    · rw [List.getElem?_append_left hi] at hq
      have hne : q ≠ p := fun z => by subst z; exact hp (List.mem_of_getElem? hq)
      rw [put_ne hne, e.at_ i q hq, List.getElem?_append_left (by rw [← e.len]; exact hi)]
    · rw [List.getElem?_append_right (by omega)] at hq
      by_cases h0 : i - fs.length = 0
      · rw [h0] at hq
        cases hq
        rw [put_same, List.getElem?_append_right (by rw [← e.len]; omega), ← e.len, h0]; rfl
      · rw [List.getElem?_eq_none (by simp; omega)] at hq; cases hq
theorem Ext.put (e : Ext S0 S fs os) {n : Nat} (h : fs[n]? = some p) : Ext S0 (put S p o) fs (os.set n o) := by
  have hm := List.mem_of_getElem? h
  refine ⟨e.nd, e.fr, fun q hq => ?_, by simp [e.len], fun i q hq => ?_⟩
  · rw [put_ne fun z => by subst z; exact hq hm]; exact e.out q hq
  · by_cases hi : n = i
    · subst hi
      rw [h] at hq; cases hq
      have : n < os.length := by
        rw [← e.len]
        apply Classical.byContradiction
        intro z
        rw [List.getElem?_eq_none (by omega)] at h; cases h
      rw [put_same, List.getElem?_set_self this]
    · have hne : q ≠ p := fun z => by
        subst z
        have a1 : n < fs.length := by
          apply Classical.byContradiction
          intro z; rw [List.getElem?_eq_none (by omega)] at h; cases h
        have a2 : i < fs.length := by
          apply Classical.byContradiction
          intro z; rw [List.getElem?_eq_none (by omega)] at hq; cases hq
        rw [List.getElem?_eq_getElem a1] at h
        rw [List.getElem?_eq_getElem a2] at hq
        have ee := (Option.some.inj h).trans (Option.some.inj hq).symm
        have pw := List.pairwise_iff_getElem.mp e.nd
        rcases Nat.lt_or_gt_of_ne hi with z | z
        · exact pw n i a1 a2 z ee
        · exact pw i n a2 a1 z ee.symm
      rw [put_ne hne, e.at_ i q hq, List.getElem?_set_ne hi]
theorem ridAll_out : ∀ {l : List Addr} {S : Store}, p ∉ l → ridAll S l p = S p
  | [], _, _ => rfl
  | a :: l, S, h => by
    rw [List.mem_cons, not_or] at h
    show ridAll (rid S a) l p = _
    rw [ridAll_out h.2, rid_ne h.1]
theorem ridAll_none : ∀ {l : List Addr} {S : Store}, S p = none → ridAll S l p = none
  | [], _, h => h
  | a :: l, S, h => by
    show ridAll (rid S a) l p = none
    refine ridAll_none ?_
    by_cases z : p = a
    · subst z; exact rid_same
    · rw [rid_ne z]; exact h
theorem ridAll_in : ∀ {l : List Addr} {S : Store}, p ∈ l → ridAll S l p = none
  | a :: l, S, h => by
    show ridAll (rid S a) l p = none
    by_cases z : p = a
    · subst z; exact ridAll_none rid_same
    · exact ridAll_in ((List.mem_cons.mp h).resolve_left z)
theorem Ext.rid (e : Ext S0 S fs os) : ridAll S fs = S0 := by
  funext p
  by_cases h : p ∈ fs
  · rw [ridAll_in h, e.fr p h]
  · rw [ridAll_out h, e.out p h]
theorem Ext.none (e : Ext S0 S fs os) (h : S p = none) : S0 p = none ∧ p ∉ fs := by
  have hp : p ∉ fs := fun z => by
    obtain ⟨i, hi, e1⟩ := List.mem_iff_getElem.mp z
    have e2 := e.at_ i p (by rw [List.getElem?_eq_getElem hi, e1])
    rw [h, List.getElem?_eq_getElem (by rw [← e.len]; exact hi)] at e2
    cases e2
  exact ⟨by rw [← e.out p hp]; exact h, hp⟩
theorem Ext.ridPut (e : Ext S0 S fs os) (h : S p = .none) : ridAll (DL.put S p o) fs = DL.put S0 p o := by
  obtain ⟨h0, hp⟩ := e.none h
  funext q
  by_cases hq : q ∈ fs
  · rw [ridAll_in hq, put_ne fun z => by subst z; exact hp hq, e.fr q hq]
  · rw [ridAll_out hq]
    by_cases z : q = p
    · subst z; rw [put_same, put_same]
    · rw [put_ne z, put_ne z, e.out q hq]
theorem objs_map (fs : List Addr) : (fs.map D.obj).flatMap objsOf = fs := by
  induction fs with
  | nil => rfl
  | cons a r ih => rw [List.map_cons, List.flatMap_cons, ih]; rfl
theorem range_len (a : Int) (n : Nat) : (rangeD a n).length = n := by unfold rangeD; simp
/-- a comprehension that makes a new thing for every item -/
theorem lc_new {te : DE} {R : List D → Store → Prop} {n : Nat} {o : Ob} (hte : ∀ σ S Q, (∀ p, S p = none → Q (.obj p) (DL.put S p o)) → te σ S Q) (hk : ∀ S, (∀ p u, S0 p = some u → S p = some u) → keep S)
    {L : List D} {σ : DEnv} (hl : L.length ≤ lim) (h : ∀ S fs, Ext S0 S fs (List.replicate L.length o) → R (fs.map D.obj) S) : lcL keep (gN n) dYes te σ L [] S0 R := by
  refine lc_ind (I := fun r acc σ S => ∃ fs k, acc = fs.map D.obj ∧ Ext S0 S fs (List.replicate k o) ∧ k + r.length = L.length) (fun L acc σ S ⟨fs, k, _, e, _⟩ => hk S fun p u h => e.old h) (fun x r acc σ S N ⟨fs, k, ea, e, hl⟩ hN => ?_) (fun acc σ S ⟨fs, k, ea, e, hl⟩ => ?_) ⟨[], 0, rfl, Ext.nil, by simp⟩
  · simp only [r_gN, r_yes, if_pos]
    refine hte _ _ _ fun p hp => ⟨?_, hN _ _ _ ⟨fs ++ [p], k + 1, by simp [ea], ?_, by simp at hl; omega⟩⟩
    · rw [ea, List.length_map, e.len, List.length_replicate]; simp at hl; omega
    · have := e.push (o := o) hp
      rw [List.replicate_succ']
      exact this
  · rw [ea]; exact h S fs (by have : k = L.length := by simpa using hl
                              rw [← this]; exact e)
end
end DL
/-! DS3: texts in lists, equal data. -/
namespace DL
open PySem PySem.Spec PyProof.Rows L2
section
variable {σ : DEnv} {S S0 S' : Store} {Q : QE} {x y : D} {m : List D} {p q : Addr} {o : Ob} {i j : Int} {E : XQ} {D' : DEnds} {keep : Store → Prop} {neg : Bool} {a : String} {l : List String}
theorem inD_strs : ∀ l : List String, inD (.str a) (l.map D.str) = decide (a ∈ l)
  | [] => rfl
  | b :: l => by
    show ((b == a) || inD (.str a) (l.map D.str)) = _
    rw [inD_strs l]
    by_cases h : b = a
    · subst h; simp
    · have h' : ¬ a = b := fun z => h z.symm
      simp [h, h']
theorem flat_strs : ∀ l : List String, (l.map D.str).all flatD = true
  | [] => rfl
  | b :: l => by rw [List.map_cons, List.all_cons, flat_strs l]; rfl
theorem in_lst : dIn neg (.str a) (.lst (l.map D.str)) S Q = Q (.bl (inR neg (decide (a ∈ l)))) S := by
  show (flatD (.str a) = true ∧ (l.map D.str).all flatD = true ∧ Q (.bl (inR neg (inD (.str a) (l.map D.str)))) S) = _
  rw [inD_strs, flat_strs]; simp [flatD]
theorem in_obj (h : S p = some (.lst (l.map D.str))) : dIn neg (.str a) (.obj p) S Q = Q (.bl (inR neg (decide (a ∈ l)))) S := by
  unfold dIn
  rw [asK_objL h]
  show (match asL S (.obj p) with
      | some l => flatD (.str a) = true ∧ l.all flatD = true ∧ Q (.bl (inR neg (inD (.str a) l))) S
      | none => False) = _
  rw [asL_obj h]
  show (flatD (.str a) = true ∧ (l.map D.str).all flatD = true ∧ Q (.bl (inR neg (inD (.str a) (l.map D.str)))) S) = _
  rw [inD_strs, flat_strs]; simp [flatD]
theorem in_dic {kd : List (String × D)} (h : S p = some (.dic kd)) : dIn neg (.str a) (.obj p) S Q = Q (.bl (inR neg (kd.lookup a).isSome)) S := by
  unfold dIn
  rw [asK_obj h]
/-- a dict whose values are all True: its keys -/
def keysD (l : List String) : List (String × D) := l.map fun s => (s, .bl true)
theorem keys_look : ∀ l : List String, ((keysD l).lookup a).isSome = decide (a ∈ l)
  | [] => rfl
  | b :: l => by
    show ((match a == b with | true => some (D.bl true) | false => (keysD l).lookup a)).isSome = _
    by_cases h : a = b
    · subst h; simp
    · have e : (a == b) = false := beq_eq_false_iff_ne.mpr h
      rw [e]
      show ((keysD l).lookup a).isSome = _
      rw [keys_look l]; simp [h]
theorem keys_put (h : a ∉ l) : putKD a (.bl true) (keysD l) = keysD (l ++ [a]) := by
  unfold putKD
  rw [if_neg]
  · simp [keysD]
  · rw [List.any_eq_true]
    rintro ⟨z, hz, e⟩
    obtain ⟨s, hs, rfl⟩ := List.mem_map.mp hz
    exact h (by have := of_decide_eq_true e; rw [← this]; exact hs)
theorem keys_put2 (h : a ∈ l) : putKD a (.bl true) (keysD l) = keysD l := by
  unfold putKD
  rw [if_pos]
  · unfold keysD
    rw [List.map_map]
    refine List.map_congr_left fun s _ => ?_
    show (if s = a then (s, D.bl true) else (s, D.bl true)) = _
    split <;> rfl
  · rw [List.any_eq_true]
    exact ⟨(a, .bl true), List.mem_map.mpr ⟨a, h, rfl⟩, by simp⟩
theorem keys_len : (keysD l).length = l.length := by simp [keysD]
theorem keys_fst : (keysD l).map (·.1) = l := by simp [keysD, List.map_map, Function.comp_def]
mutual
theorem eqD_refl : ∀ x : D, plainD x = true → eqD x x = true
  | .non, _ => rfl
  | .bl b, _ => by show (b == b) = true; simp
  | .int i, _ => by show (i == i) = true; simp
  | .str s, _ => by show (s == s) = true; simp
  | .tup l, h => eqDs_refl l h
  | .lst l, h => eqDs_refl l h
  | .dic _, h => by cases h
  | .scr _, h => by cases h
  | .obj _, h => by cases h
  | .ty _, h => by cases h
theorem eqDs_refl : ∀ l : List D, plainDs l = true → eqDs l l = true
  | [], _ => rfl
  | x :: l, h => by
    have h' := Bool.and_eq_true_iff.mp (show (plainD x && plainDs l) = true from h)
    show (eqD x x && eqDs l l) = true
    rw [eqD_refl x h'.1, eqDs_refl l h'.2]; rfl
end
theorem plainDs_of : ∀ {l : List D}, (∀ x ∈ l, plainD x = true) → plainDs l = true
  | [], _ => rfl
  | x :: l, h => by
    show (plainD x && plainDs l) = true
    rw [h x (by simp), plainDs_of fun y hy => h y (by simp [hy])]; rfl
theorem depDs_of {n : Nat} : ∀ {l : List D}, (∀ x ∈ l, depD x ≤ n) → depDs l ≤ n
  | [], _ => Nat.zero_le _
  | x :: l, h => by
    show max (depD x) (depDs l) ≤ n
    have h1 := h x (by simp)
    have h2 := depDs_of (l := l) fun y hy => h y (by simp [hy])
    omega
/-- plain, and at most n deep -/
def OkN (n : Nat) (x : D) : Prop := plainD x = true ∧ depD x ≤ n
theorem OkN.ok {n : Nat} (h : OkN n x) (hn : n ≤ 64 := by decide) : okD x = true := by
  unfold okD
  rw [h.1]
  have : depD x ≤ 64 := Nat.le_trans h.2 hn
  simpa using this
theorem OkN.tup {n : Nat} {l : List D} (h : ∀ x ∈ l, OkN n x) : OkN (n + 1) (.tup l) := ⟨plainDs_of fun x hx => (h x hx).1, Nat.succ_le_succ (depDs_of fun x hx => (h x hx).2)⟩
theorem OkN.lst {n : Nat} {l : List D} (h : ∀ x ∈ l, OkN n x) : OkN (n + 1) (.lst l) := ⟨plainDs_of fun x hx => (h x hx).1, Nat.succ_le_succ (depDs_of fun x hx => (h x hx).2)⟩
theorem OkN.str : OkN 0 (.str a) := ⟨rfl, Nat.le_refl 0⟩
theorem OkN.int : OkN 0 (.int i) := ⟨rfl, Nat.le_refl 0⟩
@[simp] theorem ok_int : okD (.int i) = true := rfl
@[simp] theorem ok_str : okD (.str a) = true := rfl
@[simp] theorem ok_non : okD .non = true := rfl
@[simp] theorem ok_bl {b : Bool} : okD (.bl b) = true := rfl
@[simp] theorem eq_int : eqD (.int i) (.int j) = (i == j) := rfl
@[simp] theorem eq_str {b : String} : eqD (.str a) (.str b) = (a == b) := rfl
@[simp] theorem r_is : dIs x .non S Q = Q (.bl (isNonD x)) S := propext Iff.rfl
@[simp] theorem r_isnot : dIsNot x .non S Q = Q (.bl (!isNonD x)) S := propext Iff.rfl
theorem lc_mapM {α : Type} (h : α → D) {te : DE} {n : Nat} {R : List D → Store → Prop} {tt : DT} (f : α → D) : ∀ {L : List α} {acc : List D} {σ : DEnv}, keep S → (acc.length + L.length ≤ lim) → (∀ x ∈ L, ∀ Q, Q true S → tt (σ.set n (some (h x))) S Q) → (∀ x ∈ L, ∀ Q, Q (f x) S → te (σ.set n (some (h x))) S Q) → R (acc ++ L.map f) S → lcL keep (gN n) tt te σ (L.map h) acc S R
  | [], acc, σ, hk, _, _, _, h => ⟨hk, by simpa using h⟩
  | x :: L, acc, σ, hk, hl, ht, he, h => by
    refine ⟨hk, ?_⟩
    refine ht x (by simp) _ ?_
    rw [if_pos rfl]
    refine he x (by simp) _ ⟨by simp at hl; omega, ?_⟩
    exact lc_mapM _ f hk (by simp at hl ⊢; omega) (fun y hy => ht y (by simp [hy])) (fun y hy => he y (by simp [hy])) (by simpa using h)
theorem objs_range {fs : List Addr} {n : Nat} (h : fs.length = n) : fs.map D.obj = (List.range n).map fun i => D.obj (fs.getD i 0) := by
  refine List.ext_getElem? fun i => ?_
  rw [List.getElem?_map, List.getElem?_map]
  by_cases hi : i < n
  · rw [List.getElem?_range hi, List.getElem?_eq_getElem (by rw [h]; exact hi)]
    simp [List.getD_eq_getElem?_getD, List.getElem?_eq_getElem (show i < fs.length by rw [h]; exact hi)]
  · rw [List.getElem?_eq_none (by omega), List.getElem?_eq_none (by simp; omega)]; rfl
theorem sortd_obj {l : List String} (h : S p = some (.lst (l.map D.str))) : bSorted [.obj p] S Q = (l.length < 64 ∧ Q (.lst ((srt l).map D.str)) S) := by
  unfold bSorted
  simp only [asK_objL h, asL_obj h, r_ofO, strsOf_map]
theorem sortd_dic {l : List String} (h : S p = some (.dic (keysD l))) : bSorted [.obj p] S Q = (l.length < 64 ∧ Q (.lst ((srt l).map D.str)) S) := by
  unfold bSorted
  simp only [asK_obj h, keys_len, keys_fst]
@[simp] theorem tuple_lst {l : List D} : bTuple [.lst l] S Q = Q (.tup l) S := propext Iff.rfl
@[simp] theorem listX_lst {l : List D} : bListX [.lst l] S Q = Q (.lst l) S := propext Iff.rfl
theorem lc_filt {te : DE} {n : Nat} {R : List D → Store → Prop} {tt : DT} (f : D → D) (t : D → Bool) : ∀ {L acc : List D} {σ : DEnv}, keep S → (acc.length + L.length ≤ lim) → (∀ x ∈ L, ∀ Q, Q (t x) S → tt (σ.set n (some x)) S Q) → (∀ x ∈ L, ∀ Q, Q (f x) S → te (σ.set n (some x)) S Q) → R (acc ++ (L.filter t).map f) S → lcL keep (gN n) tt te σ L acc S R
  | [], acc, σ, hk, _, _, _, h => ⟨hk, by simpa using h⟩
  | x :: L, acc, σ, hk, hl, ht, he, h => by
    refine ⟨hk, ?_⟩
    show tt (σ.set n (some x)) S _
    refine ht x (by simp) _ ?_
    have ht' : ∀ y ∈ L, ∀ Q, Q (t y) S → tt (σ.set n (some y)) S Q := fun y hy => ht y (by simp [hy])
    have he' : ∀ y ∈ L, ∀ Q, Q (f y) S → te (σ.set n (some y)) S Q := fun y hy => he y (by simp [hy])
    by_cases e : t x = true
    · rw [if_pos e]
      refine he x (by simp) _ ⟨by simp at hl; omega, ?_⟩
      exact lc_filt f t hk (by simp at hl ⊢; omega) ht' he' (by simpa [List.filter_cons, e] using h)
    · rw [if_neg e]
      exact lc_filt f t hk (by simp at hl ⊢; omega) ht' he' (by simpa [List.filter_cons, e] using h)
end
end DL
namespace Pg
open PySem PySem.Spec PyProof.Rows L2 DL
/-! ### the text by places -/
def top (i : Nat) : Stmt := PySem.Challenge.pw_askedfor_k04_least_rows.main.body.getD i (.Pass ⟨0, 0, 0, 0⟩)
abbrev s_Rows_init : Stmt := inClass (top 1) 0
abbrev s_Rows_fresh : Stmt := inClass (top 1) 1
abbrev s_Rows_root : Stmt := inClass (top 1) 2
abbrev s_Rows_contain : Stmt := inClass (top 1) 3
abbrev s_Rows_flow : Stmt := inClass (top 1) 4
abbrev s_Rows_same : Stmt := inClass (top 1) 5
abbrev s_Rows_least : Stmt := inClass (top 1) 6
abbrev s_law_state : Stmt := top 3
abbrev s_law_take : Stmt := top 4
abbrev s_law_condition : Stmt := top 5
abbrev s_law_add : Stmt := top 6
abbrev s_law_missing : Stmt := top 7
abbrev s_law_least : Stmt := top 8
abbrev s_law : Stmt := top 9
inductive Fn where
  | Rows_init | Rows_fresh | Rows_root | Rows_contain | Rows_flow | Rows_same | Rows_least | law_state | law_take | law_condition | law_add | law_missing | law_least | law
abbrev N_Rows_init : List Str := ["self"]
abbrev N_Rows_fresh : List Str := ["self"]
abbrev N_Rows_root : List Str := ["self", "row"]
abbrev N_Rows_contain : List Str := ["self", "row", "name"]
abbrev N_Rows_flow : List Str := ["self", "source", "target", "without"]
abbrev N_Rows_same : List Str := ["self", "one", "other"]
abbrev N_Rows_least : List Str := ["self", "found", "_", "row", "names", "name", "changed", "source", "target", "without", "goal"]
abbrev N_law_state : List Str := ["_law_script", "_law_cells", "_law_cell"]
abbrev N_law_take : List Str := ["_law_state_here", "_law_most", "_law_cells", "_law_at", "_law_cell", "_law_mixed"]
abbrev N_law_condition : List Str := ["_law_state_here", "_law_count", "_law_names", "_law_kind", "_law_one", "_law_two", "_law_name"]
abbrev N_law_add : List Str := ["_law_rows", "_law_condition_here"]
abbrev N_law_missing : List Str := ["_law_found", "_law_condition_here", "_law_both", "_law_name"]
abbrev N_law_least : List Str := ["_law_count", "_law_conditions", "_law_found", "_law_k", "_law_grown", "_law_condition_here", "_law_place", "_law_name", "_law_row"]
abbrev N_law : List Str := ["_law_script", "_law_state_here", "_law_rows", "_law_count", "_law_k", "_law_conditions", "_law_k_here", "_law_due", "_law_told", "_law_row"]
/-! ### what the defs do -/
def b_Rows_init (W M : Fn → DSp) (E : DX → DEnv → Store → Prop) : DS :=
  (dSeq (dPutF 0 "links" (dVar 0) (dLstM dNil))
  (dSeq (dPutF 0 "names" (dVar 0) (dLstM dNil))
  (dPutF 0 "flows" (dVar 0) (dLstM dNil))))
def b_Rows_fresh (W M : Fn → DSp) (E : DX → DEnv → Store → Prop) : DS :=
  (dSeq (dDrop (dBM "list" mAppend (dFld 0 "links" (dVar 0)) (dCons (dCB bLen (dCons (dFld 0 "links" (dVar 0)) dNil)) dNil)))
  (dSeq (dDrop (dBM "list" mAppend (dFld 0 "names" (dVar 0)) (dCons (dLstM dNil) dNil)))
  (dRet (dOp dSub (dCB bLen (dCons (dFld 0 "links" (dVar 0)) dNil)) (dC (.int 1))))))
def b_Rows_root (W M : Fn → DSp) (E : DX → DEnv → Store → Prop) : DS :=
  (dSeq (dWhile (dTest (dOp dNe (dOp dIx (dFld 0 "links" (dVar 0)) (dVar 1)) (dVar 1))) (dAsg (dOp dIx (dFld 0 "links" (dVar 0)) (dVar 1)) (gN 1)))
  (dRet (dVar 1)))
def b_Rows_contain (W M : Fn → DSp) (E : DX → DEnv → Store → Prop) : DS :=
  (dDrop (dBM "list" mAppend (dOp dIx (dFld 0 "names" (dVar 0)) (dVar 1)) (dCons (dVar 2) dNil)))
def b_Rows_flow (W M : Fn → DSp) (E : DX → DEnv → Store → Prop) : DS :=
  (dDrop (dBM "list" mAppend (dFld 0 "flows" (dVar 0)) (dCons (dTup (dCons (dVar 1) (dCons (dVar 2) (dCons (dCB bListX (dCons (dVar 3) dNil)) dNil)))) dNil)))
def b_Rows_same (W M : Fn → DSp) (E : DX → DEnv → Store → Prop) : DS :=
  (dAsg (dMeth 0 "root" (W .Rows_root) E (dVar 0) (dCons (dVar 2) dNil)) (gSb (dFld 0 "links" (dVar 0)) (dMeth 0 "root" (W .Rows_root) E (dVar 0) (dCons (dVar 1) dNil)) stD))
def b_Rows_least (W M : Fn → DSp) (E : DX → DEnv → Store → Prop) : DS :=
  (dSeq (dAsg (dLc (iL (dFld 0 "links" (dVar 0))) (.one 2) dYes dDicM [2]) (gN 1))
  (dSeq (dFor (iEn (dCons (dFld 0 "names" (dVar 0)) dNil)) (gTp 2 (gsC (gN 3) (gsC (gN 4) gsN))) (dFor (iL (dVar 4)) (gN 5) (dAsg (dC (.bl true)) (gSb (dOp dIx (dVar 1) (dMeth 0 "root" (W .Rows_root) E (dVar 0) (dCons (dVar 3) dNil))) (dVar 5) stD))))
  (dSeq (dAsg (dC (.bl true)) (gN 6))
  (dSeq (dWhile (dTru (dVar 6)) (dSeq (dAsg (dC (.bl false)) (gN 6))
  (dFor (iL (dFld 0 "flows" (dVar 0))) (gTp 3 (gsC (gN 7) (gsC (gN 8) (gsC (gN 9) gsN)))) (dSeq (dAsg (dOp dIx (dVar 1) (dMeth 0 "root" (W .Rows_root) E (dVar 0) (dCons (dVar 8) dNil))) (gN 10))
  (dFor (iL (dCB bListX (dCons (dOp dIx (dVar 1) (dMeth 0 "root" (W .Rows_root) E (dVar 0) (dCons (dVar 7) dNil))) dNil))) (gN 5) (dIfS (dAnd (dTest (dOp (dIn true) (dVar 5) (dVar 9))) (dTest (dOp (dIn true) (dVar 5) (dVar 10)))) (dSeq (dAsg (dC (.bl true)) (gSb (dVar 10) (dVar 5) stD))
  (dAsg (dC (.bl true)) (gN 6))) dNext))))))
  (dRet (dKill (slotObjs 1) (dLcM (iR1 (dCons (dCB bLen (dCons (dFld 0 "links" (dVar 0)) dNil)) dNil)) (.one 3) dYes (dCB bTuple (dCons (dCB bSorted (dCons (dOp dIx (dVar 1) (dMeth 0 "root" (W .Rows_root) noX (dVar 0) (dCons (dVar 3) dNil))) dNil)) dNil)) [3])))))))
def b_law_state (W M : Fn → DSp) (E : DX → DEnv → Store → Prop) : DS :=
  (dSeq (dAsg (dLcM (iL (dSl slD (dVar 0) dNoPart (dPart (dC (.int 63))))) (.one 2) dYes (dCB bAbs (dCons (dVar 2) dNil)) [2]) (gN 1))
  (dSeq (dIfS (dTest (dOp dEq (dCB bLen (dCons (dVar 1) dNil)) (dC (.int 0)))) (dAsg (dLstM (dCons (dC (.int 0)) dNil)) (gN 1)) dNext)
  (dRet (dLstM (dCons (dC (.int 0)) (dCons (dVar 1) dNil))))))
def b_law_take (W M : Fn → DSp) (E : DX → DEnv → Store → Prop) : DS :=
  (dSeq (dAsg (dOp dIx (dVar 0) (dC (.int 1))) (gN 2))
  (dSeq (dAsg (dOp dMod (dOp dIx (dVar 0) (dC (.int 0))) (dCB bLen (dCons (dVar 2) dNil))) (gN 3))
  (dSeq (dAsg (dOp dIx (dVar 2) (dVar 3)) (gN 4))
  (dSeq (dIfS (dTest (dOp dGe (dVar 4) (dC (.int 1000000000000000000)))) (dSeq (dAsg (dOp dDiv (dVar 4) (dVar 1)) (gSb (dVar 2) (dVar 3) stD))
  (dRet (dOp dMod (dVar 4) (dVar 1)))) dNext)
  (dSeq (dAsg (dOp dAdd (dOp dIx (dVar 0) (dC (.int 0))) (dC (.int 1))) (gSb (dVar 0) (dC (.int 0)) stD))
  (dSeq (dAsg (dOp dMod (dCB bInt (dCons (dOp dAdd (dOp dMul (dVar 4) (dC (.int 48271))) (dOp dMul (dOp dIx (dVar 0) (dC (.int 0))) (dC (.int 69621)))) dNil)) (dC (.int 2147483647))) (gN 5))
  (dSeq (dAsg (dOp dMod (dCB bInt (dCons (dOp dAdd (dOp dMul (dVar 5) (dC (.int 16807))) (dOp dMul (dOp dIx (dVar 0) (dC (.int 0))) (dC (.int 7919)))) dNil)) (dC (.int 1000000007))) (gN 5))
  (dRet (dOp dMod (dOp dDiv (dVar 5) (dC (.int 7))) (dVar 1))))))))))
def b_law_condition (W M : Fn → DSp) (E : DX → DEnv → Store → Prop) : DS :=
  (dSeq (dAsg (dLst (dCons (dC (.str "a")) (dCons (dC (.str "b")) (dCons (dC (.str "c")) (dCons (dC (.str "dd")) (dCons (dC (.str "e")) dNil)))))) (gN 2))
  (dSeq (dAsg (dCall (W .law_take) E (dCons (dVar 0) (dCons (dC (.int 6)) dNil))) (gN 3))
  (dSeq (dPar 4 5 (dCons (dCall (W .law_take) E (dCons (dVar 0) (dCons (dVar 1) dNil))) (dCons (dCall (W .law_take) E (dCons (dVar 0) (dCons (dVar 1) dNil))) dNil)))
  (dSeq (dIfS (dTest (dOp dLt (dVar 3) (dC (.int 2)))) (dRet (dTup (dCons (dC (.str "contain")) (dCons (dVar 4) (dCons (dOp dIx (dVar 2) (dCall (W .law_take) E (dCons (dVar 0) (dCons (dC (.int 5)) dNil)))) dNil))))) dNext)
  (dSeq (dIfS (dTest (dOp dEq (dVar 3) (dC (.int 2)))) (dRet (dTup (dCons (dC (.str "same")) (dCons (dVar 4) (dCons (dVar 5) dNil))))) dNext)
  (dRet (dTup (dCons (dC (.str "flow")) (dCons (dVar 4) (dCons (dVar 5) (dCons (dLc (iL (dVar 2)) (.one 6) (dTest (dOp dEq (dCall (W .law_take) noX (dCons (dVar 0) (dCons (dC (.int 4)) dNil))) (dC (.int 0)))) (dVar 6) [6]) dNil)))))))))))
def b_law_add (W M : Fn → DSp) (E : DX → DEnv → Store → Prop) : DS :=
  (dSeq (dIfS (dTest (dOp dEq (dOp dIx (dVar 1) (dC (.int 0))) (dC (.str "contain")))) (dRet (dMeth 0 "contain" (W .Rows_contain) E (dVar 0) (dCons (dOp dIx (dVar 1) (dC (.int 1))) (dCons (dOp dIx (dVar 1) (dC (.int 2))) dNil)))) dNext)
  (dSeq (dIfS (dTest (dOp dEq (dOp dIx (dVar 1) (dC (.int 0))) (dC (.str "same")))) (dRet (dMeth 0 "same" (W .Rows_same) E (dVar 0) (dCons (dOp dIx (dVar 1) (dC (.int 1))) (dCons (dOp dIx (dVar 1) (dC (.int 2))) dNil)))) dNext)
  (dRet (dMeth 0 "flow" (W .Rows_flow) E (dVar 0) (dCons (dOp dIx (dVar 1) (dC (.int 1))) (dCons (dOp dIx (dVar 1) (dC (.int 2))) (dCons (dCB bListX (dCons (dOp dIx (dVar 1) (dC (.int 3))) dNil)) dNil)))))))
def b_law_missing (W M : Fn → DSp) (E : DX → DEnv → Store → Prop) : DS :=
  (dSeq (dIfS (dTest (dOp dEq (dOp dIx (dVar 1) (dC (.int 0))) (dC (.str "contain")))) (dRet (dLst (dCons (dTup (dCons (dOp dIx (dVar 1) (dC (.int 1))) (dCons (dOp dIx (dVar 1) (dC (.int 2))) dNil))) dNil))) dNext)
  (dSeq (dIfS (dTest (dOp dEq (dOp dIx (dVar 1) (dC (.int 0))) (dC (.str "same")))) (dSeq (dAsg (dLc (iL (dOp dIx (dVar 0) (dOp dIx (dVar 1) (dC (.int 1))))) (.one 3) dYes (dTup (dCons (dOp dIx (dVar 1) (dC (.int 2))) (dCons (dVar 3) dNil))) [3]) (gN 2))
  (dRet (dOp dAdd (dVar 2) (dLc (iL (dOp dIx (dVar 0) (dOp dIx (dVar 1) (dC (.int 2))))) (.one 3) dYes (dTup (dCons (dOp dIx (dVar 1) (dC (.int 1))) (dCons (dVar 3) dNil))) [3])))) dNext)
  (dRet (dLc (iL (dOp dIx (dVar 0) (dOp dIx (dVar 1) (dC (.int 1))))) (.one 3) (dTest (dOp (dIn true) (dVar 3) (dOp dIx (dVar 1) (dC (.int 3))))) (dTup (dCons (dOp dIx (dVar 1) (dC (.int 2))) (dCons (dVar 3) dNil))) [3]))))
def b_law_least (W M : Fn → DSp) (E : DX → DEnv → Store → Prop) : DS :=
  (dSeq (dAsg (dLc (iR1 (dCons (dVar 0) dNil)) (.one 3) dYes (dLstM dNil) [3]) (gN 2))
  (dSeq (dFor (iR1 (dCons (dOp dAdd (dOp dMul (dVar 0) (dC (.int 5))) (dC (.int 1))) dNil)) (gN 3) (dSeq (dAsg (dC (.bl false)) (gN 4))
  (dSeq (dFor (iL (dVar 1)) (gN 5) (dFor (iL (dCall (W .law_missing) E (dCons (dVar 2) (dCons (dVar 5) dNil)))) (gTp 2 (gsC (gN 6) (gsC (gN 7) gsN))) (dIfS (dTest (dOp (dIn true) (dVar 7) (dOp dIx (dVar 2) (dVar 6)))) (dSeq (dDrop (dBM "list" mAppend (dOp dIx (dVar 2) (dVar 6)) (dCons (dVar 7) dNil)))
  (dAsg (dC (.bl true)) (gN 4))) dNext)))
  (dIfS (dNot (dTru (dVar 4))) dBrk dNext))))
  (dRet (dKill (slotObjs 2) (dLc (iL (dVar 2)) (.one 8) dYes (dCB bTuple (dCons (dCB bSorted (dCons (dVar 8) dNil)) dNil)) [8])))))
def b_law (W M : Fn → DSp) (E : DX → DEnv → Store → Prop) : DS :=
  (dSeq (dAsg (dCall (W .law_state) E (dCons (dVar 0) dNil)) (gN 1))
  (dSeq (dAsg (dMake 0 (M .Rows_init) E dNil) (gN 2))
  (dSeq (dAsg (dOp dAdd (dC (.int 1)) (dCall (W .law_take) E (dCons (dVar 1) (dCons (dC (.int 9)) dNil)))) (gN 3))
  (dSeq (dIfS (dOr (dTest (dOp dNe (dLc (iR1 (dCons (dVar 3) dNil)) (.one 4) dYes (dMeth 0 "fresh" (W .Rows_fresh) noX (dVar 2) dNil) [4]) (dLstRg (rg1 (dVar 3))))) (dTest (dOp dNe (dFrz (dMeth 0 "least" (W .Rows_least) E (dVar 2) dNil)) (dLc (iR1 (dCons (dVar 3) dNil)) (.one 4) dYes (dTup dNil) [4])))) (dRet (dC (.bl false))) dNext)
  (dSeq (dAsg (dLstM dNil) (gN 5))
  (dSeq (dFor (iR1 (dCons (dOp dAdd (dC (.int 1)) (dCall (W .law_take) E (dCons (dVar 1) (dCons (dC (.int 20)) dNil)))) dNil)) (gN 6) (dSeq (dDrop (dBM "list" mAppend (dVar 5) (dCons (dCall (W .law_condition) E (dCons (dVar 1) (dCons (dVar 3) dNil))) dNil)))
  (dSeq (dIfS (dTest (dOp dIsNot (dCall (W .law_add) E (dCons (dVar 2) (dCons (dOp dIx (dVar 5) (dVar 6)) dNil))) (dC .non))) (dRet (dC (.bl false))) dNext)
  (dIfS (dAnd (dTest (dOp dEq (dCall (W .law_take) E (dCons (dVar 1) (dCons (dC (.int 5)) dNil))) (dC (.int 0)))) (dTest (dOp dNe (dFrz (dMeth 0 "least" (W .Rows_least) E (dVar 2) dNil)) (dCall (W .law_least) E (dCons (dVar 3) (dCons (dVar 5) dNil)))))) (dRet (dC (.bl false))) dNext))))
  (dSeq (dAsg (dCall (W .law_least) E (dCons (dVar 3) (dCons (dVar 5) dNil))) (gN 7))
  (dSeq (dAsg (dMeth 0 "least" (W .Rows_least) E (dVar 2) dNil) (gN 8))
  (dSeq (dIfS (dOr (dTest (dOp dNe (dVar 8) (dVar 7))) (dOr (dNot (dTru (dCB bIsi (dCons (dVar 8) (dCons (dC (.ty "list")) dNil))))) (dNot (dTru (dCB bAll (dCons (dLc (iL (dVar 8)) (.one 9) dYes (dCB bIsi (dCons (dVar 9) (dCons (dC (.ty "tuple")) dNil))) [9]) dNil)))))) (dRet (dC (.bl false))) dNext)
  (dSeq (dDrop (dBM "list" mAppend (dVar 8) (dCons (dTup dNil) dNil)))
  (dRet (dAndV (dOp dEq (dFrz (dMeth 0 "least" (W .Rows_least) E (dVar 2) dNil)) (dVar 7)) (dAndV (dOp dEq (dMeth 0 "fresh" (W .Rows_fresh) E (dVar 2) dNil) (dVar 3)) (dOp dEq (dFrz (dMeth 0 "least" (W .Rows_least) E (dVar 2) dNil)) (dOp dAdd (dVar 7) (dLst (dCons (dTup dNil) dNil)))))))))))))))))
def bodies : Fn → (Fn → DSp) → (Fn → DSp) → DBody
  | .Rows_init => b_Rows_init
  | .Rows_fresh => b_Rows_fresh
  | .Rows_root => b_Rows_root
  | .Rows_contain => b_Rows_contain
  | .Rows_flow => b_Rows_flow
  | .Rows_same => b_Rows_same
  | .Rows_least => b_Rows_least
  | .law_state => b_law_state
  | .law_take => b_law_take
  | .law_condition => b_law_condition
  | .law_add => b_law_add
  | .law_missing => b_law_missing
  | .law_least => b_law_least
  | .law => b_law
def nloc : Fn → Nat
  | .Rows_init => 1
  | .Rows_fresh => 1
  | .Rows_root => 2
  | .Rows_contain => 3
  | .Rows_flow => 4
  | .Rows_same => 3
  | .Rows_least => 11
  | .law_state => 3
  | .law_take => 6
  | .law_condition => 7
  | .law_add => 2
  | .law_missing => 4
  | .law_least => 9
  | .law => 10
def arity : Fn → Nat
  | .Rows_init => 1
  | .Rows_fresh => 1
  | .Rows_root => 2
  | .Rows_contain => 3
  | .Rows_flow => 4
  | .Rows_same => 3
  | .Rows_least => 1
  | .law_state => 1
  | .law_take => 2
  | .law_condition => 2
  | .law_add => 2
  | .law_missing => 2
  | .law_least => 2
  | .law => 1
def pars : Fn → List Str
  | .Rows_init => ["self"]
  | .Rows_fresh => ["self"]
  | .Rows_root => ["self", "row"]
  | .Rows_contain => ["self", "row", "name"]
  | .Rows_flow => ["self", "source", "target", "without"]
  | .Rows_same => ["self", "one", "other"]
  | .Rows_least => ["self"]
  | .law_state => ["_law_script"]
  | .law_take => ["_law_state_here", "_law_most"]
  | .law_condition => ["_law_state_here", "_law_count"]
  | .law_add => ["_law_rows", "_law_condition_here"]
  | .law_missing => ["_law_found", "_law_condition_here"]
  | .law_least => ["_law_count", "_law_conditions"]
  | .law => ["_law_script"]
abbrev go (k : Nat) (f : Fn) : DSp := wrk nloc bodies k f
abbrev goM (k : Nat) (f : Fn) : DSp := wrM nloc bodies k f
theorem go_Rows_init {k : Nat} {ds : List D} {S : Store} {Q : QE} {E : XQ} : go (k + 1) .Rows_init ds S Q E = b_Rows_init (go k) (goM k) (fun x _ S1 => E x S1) { nx := fun _ S1 => Q .non S1, rt := Q } (startD 1 ds) S := by rw [go, wrk_succ]; rfl
theorem go_Rows_fresh {k : Nat} {ds : List D} {S : Store} {Q : QE} {E : XQ} : go (k + 1) .Rows_fresh ds S Q E = b_Rows_fresh (go k) (goM k) (fun x _ S1 => E x S1) { nx := fun _ S1 => Q .non S1, rt := Q } (startD 1 ds) S := by rw [go, wrk_succ]; rfl
theorem go_Rows_root {k : Nat} {ds : List D} {S : Store} {Q : QE} {E : XQ} : go (k + 1) .Rows_root ds S Q E = b_Rows_root (go k) (goM k) (fun x _ S1 => E x S1) { nx := fun _ S1 => Q .non S1, rt := Q } (startD 2 ds) S := by rw [go, wrk_succ]; rfl
theorem go_Rows_contain {k : Nat} {ds : List D} {S : Store} {Q : QE} {E : XQ} : go (k + 1) .Rows_contain ds S Q E = b_Rows_contain (go k) (goM k) (fun x _ S1 => E x S1) { nx := fun _ S1 => Q .non S1, rt := Q } (startD 3 ds) S := by rw [go, wrk_succ]; rfl
theorem go_Rows_flow {k : Nat} {ds : List D} {S : Store} {Q : QE} {E : XQ} : go (k + 1) .Rows_flow ds S Q E = b_Rows_flow (go k) (goM k) (fun x _ S1 => E x S1) { nx := fun _ S1 => Q .non S1, rt := Q } (startD 4 ds) S := by rw [go, wrk_succ]; rfl
theorem go_Rows_same {k : Nat} {ds : List D} {S : Store} {Q : QE} {E : XQ} : go (k + 1) .Rows_same ds S Q E = b_Rows_same (go k) (goM k) (fun x _ S1 => E x S1) { nx := fun _ S1 => Q .non S1, rt := Q } (startD 3 ds) S := by rw [go, wrk_succ]; rfl
theorem go_Rows_least {k : Nat} {ds : List D} {S : Store} {Q : QE} {E : XQ} : go (k + 1) .Rows_least ds S Q E = b_Rows_least (go k) (goM k) (fun x _ S1 => E x S1) { nx := fun _ S1 => Q .non S1, rt := Q } (startD 11 ds) S := by rw [go, wrk_succ]; rfl
theorem go_law_state {k : Nat} {ds : List D} {S : Store} {Q : QE} {E : XQ} : go (k + 1) .law_state ds S Q E = b_law_state (go k) (goM k) (fun x _ S1 => E x S1) { nx := fun _ S1 => Q .non S1, rt := Q } (startD 3 ds) S := by rw [go, wrk_succ]; rfl
theorem go_law_take {k : Nat} {ds : List D} {S : Store} {Q : QE} {E : XQ} : go (k + 1) .law_take ds S Q E = b_law_take (go k) (goM k) (fun x _ S1 => E x S1) { nx := fun _ S1 => Q .non S1, rt := Q } (startD 6 ds) S := by rw [go, wrk_succ]; rfl
theorem go_law_condition {k : Nat} {ds : List D} {S : Store} {Q : QE} {E : XQ} : go (k + 1) .law_condition ds S Q E = b_law_condition (go k) (goM k) (fun x _ S1 => E x S1) { nx := fun _ S1 => Q .non S1, rt := Q } (startD 7 ds) S := by rw [go, wrk_succ]; rfl
theorem go_law_add {k : Nat} {ds : List D} {S : Store} {Q : QE} {E : XQ} : go (k + 1) .law_add ds S Q E = b_law_add (go k) (goM k) (fun x _ S1 => E x S1) { nx := fun _ S1 => Q .non S1, rt := Q } (startD 2 ds) S := by rw [go, wrk_succ]; rfl
theorem go_law_missing {k : Nat} {ds : List D} {S : Store} {Q : QE} {E : XQ} : go (k + 1) .law_missing ds S Q E = b_law_missing (go k) (goM k) (fun x _ S1 => E x S1) { nx := fun _ S1 => Q .non S1, rt := Q } (startD 4 ds) S := by rw [go, wrk_succ]; rfl
theorem go_law_least {k : Nat} {ds : List D} {S : Store} {Q : QE} {E : XQ} : go (k + 1) .law_least ds S Q E = b_law_least (go k) (goM k) (fun x _ S1 => E x S1) { nx := fun _ S1 => Q .non S1, rt := Q } (startD 9 ds) S := by rw [go, wrk_succ]; rfl
theorem go_law {k : Nat} {ds : List D} {S : Store} {Q : QE} {E : XQ} : go (k + 1) .law ds S Q E = b_law (go k) (goM k) (fun x _ S1 => E x S1) { nx := fun _ S1 => Q .non S1, rt := Q } (startD 10 ds) S := by rw [go, wrk_succ]; rfl
/-! ### the facts of the top -/
structure Tx (K : PySem.W.Frag) (mg : Str → Option Value) (ca : Nat → Addr) (fa : Fn → Addr) (fd : Fn → FuncData) : Prop where
  f_Rows_init : Fun K "__init__" "Rows.__init__" s_Rows_init (fa .Rows_init) (fd .Rows_init)
  b_Rows_init : Binds K (fd .Rows_init) ["self"] []
  f_Rows_fresh : Fun K "fresh" "Rows.fresh" s_Rows_fresh (fa .Rows_fresh) (fd .Rows_fresh)
  b_Rows_fresh : Binds K (fd .Rows_fresh) ["self"] []
  f_Rows_root : Fun K "root" "Rows.root" s_Rows_root (fa .Rows_root) (fd .Rows_root)
  b_Rows_root : Binds K (fd .Rows_root) ["self", "row"] []
  f_Rows_contain : Fun K "contain" "Rows.contain" s_Rows_contain (fa .Rows_contain) (fd .Rows_contain)
  b_Rows_contain : Binds K (fd .Rows_contain) ["self", "row", "name"] []
  f_Rows_flow : Fun K "flow" "Rows.flow" s_Rows_flow (fa .Rows_flow) (fd .Rows_flow)
  b_Rows_flow : Binds K (fd .Rows_flow) ["self", "source", "target", "without"] []
  f_Rows_same : Fun K "same" "Rows.same" s_Rows_same (fa .Rows_same) (fd .Rows_same)
  b_Rows_same : Binds K (fd .Rows_same) ["self", "one", "other"] []
  f_Rows_least : Fun K "least" "Rows.least" s_Rows_least (fa .Rows_least) (fd .Rows_least)
  b_Rows_least : Binds K (fd .Rows_least) ["self"] []
  f_law_state : Fun K "_law_state" "_law_state" s_law_state (fa .law_state) (fd .law_state)
  b_law_state : Binds K (fd .law_state) ["_law_script"] []
  g_law_state : mg "_law_state" = some (.ref (fa .law_state))
  f_law_take : Fun K "_law_take" "_law_take" s_law_take (fa .law_take) (fd .law_take)
  b_law_take : Binds K (fd .law_take) ["_law_state_here", "_law_most"] []
  g_law_take : mg "_law_take" = some (.ref (fa .law_take))
  f_law_condition : Fun K "_law_condition" "_law_condition" s_law_condition (fa .law_condition) (fd .law_condition)
  b_law_condition : Binds K (fd .law_condition) ["_law_state_here", "_law_count"] []
  g_law_condition : mg "_law_condition" = some (.ref (fa .law_condition))
  f_law_add : Fun K "_law_add" "_law_add" s_law_add (fa .law_add) (fd .law_add)
  b_law_add : Binds K (fd .law_add) ["_law_rows", "_law_condition_here"] []
  g_law_add : mg "_law_add" = some (.ref (fa .law_add))
  f_law_missing : Fun K "_law_missing" "_law_missing" s_law_missing (fa .law_missing) (fd .law_missing)
  b_law_missing : Binds K (fd .law_missing) ["_law_found", "_law_condition_here"] []
  g_law_missing : mg "_law_missing" = some (.ref (fa .law_missing))
  f_law_least : Fun K "_law_least" "_law_least" s_law_least (fa .law_least) (fd .law_least)
  b_law_least : Binds K (fd .law_least) ["_law_count", "_law_conditions"] []
  g_law_least : mg "_law_least" = some (.ref (fa .law_least))
  f_law : Fun K "law" "law" s_law (fa .law) (fd .law)
  b_law : Binds K (fd .law) ["_law_script"] []
  g_law : mg "law" = some (.ref (fa .law))
  c_Rows : Cls K (ca 0)
  gc_Rows : mg "Rows" = some (.ref (ca 0))
  mk_Rows : Mk K (ca 0) (fa .Rows_init)
  m_Rows_contain : Meth K (ca 0) "contain" (fa .Rows_contain)
  m_Rows_flow : Meth K (ca 0) "flow" (fa .Rows_flow)
  m_Rows_fresh : Meth K (ca 0) "fresh" (fa .Rows_fresh)
  m_Rows_least : Meth K (ca 0) "least" (fa .Rows_least)
  m_Rows_root : Meth K (ca 0) "root" (fa .Rows_root)
  m_Rows_same : Meth K (ca 0) "same" (fa .Rows_same)
  n_Rows_flows : NoAttr K (ca 0) "flows"
  n_Rows_links : NoAttr K (ca 0) "links"
  n_Rows_names : NoAttr K (ca 0) "names"
  z_abs : mg "abs" = none
  z_all : mg "all" = none
  z_enumerate : mg "enumerate" = none
  z_int : mg "int" = none
  z_isinstance : mg "isinstance" = none
  z_len : mg "len" = none
  z_list : mg "list" = none
  z_range : mg "range" = none
  z_sorted : mg "sorted" = none
  z_tuple : mg "tuple" = none
section
variable {P : Program} {w : World} {K : PySem.W.Frag} {mg : Str → Option Value} {base : Heap} {ca : Nat → Addr} {fa : Fn → Addr} {fd : Fn → FuncData} {k : Nat} {W M : Fn → DSp}
abbrev H1s (P : Program) (w : World) (K : PySem.W.Frag) (mg : Str → Option Value) (base : Heap) (ca : Nat → Addr) (fa : Fn → Addr) (fd : Fn → FuncData) (k : Nat) (W : Fn → DSp) : Prop := ∀ g, FnOk P w K mg base (L2.CX P w) k (fa g) (fd g) (pars g) (lift K ca (arity g) (W g))
theorem sc_Rows_init : FnScope N_Rows_init ["self"] (defScope s_Rows_init) := ⟨rfl, rfl, rfl, by decide +kernel, rfl, by decide +kernel, by decide +kernel⟩
theorem ok_Rows_init (T : Tx K mg ca fa fd) (H1 : H1s P w K mg base ca fa fd (k + 1) W) (H0 : H1s P w K mg base ca fa fd k M) : FnOk P w K mg base (L2.CX P w) (k + 2) (fa .Rows_init) (fd .Rows_init) ["self"] (lift K ca 1 (runD 1 (b_Rows_init W M))) := by
  refine def_ok T.f_Rows_init sc_Rows_init rfl (b_Rows_init W M) fun cdv A outer s H E B eB hr G => ?_
  subst eB
  exact (pds_cons (pds_fld (c := 0) (pd_var 0) (pd_lstM pda_nil) T.c_Rows T.n_Rows_links)
  (pds_cons (pds_fld (c := 0) (pd_var 0) (pd_lstM pda_nil) T.c_Rows T.n_Rows_names)
  (pds_one (pds_fld (c := 0) (pd_var 0) (pd_lstM pda_nil) T.c_Rows T.n_Rows_flows))))
theorem sc_Rows_fresh : FnScope N_Rows_fresh ["self"] (defScope s_Rows_fresh) := ⟨rfl, rfl, rfl, by decide +kernel, rfl, by decide +kernel, by decide +kernel⟩
theorem ok_Rows_fresh (T : Tx K mg ca fa fd) (H1 : H1s P w K mg base ca fa fd (k + 1) W) (H0 : H1s P w K mg base ca fa fd k M) : FnOk P w K mg base (L2.CX P w) (k + 2) (fa .Rows_fresh) (fd .Rows_fresh) ["self"] (lift K ca 1 (runD 1 (b_Rows_fresh W M))) := by
  refine def_ok T.f_Rows_fresh sc_Rows_fresh rfl (b_Rows_fresh W M) fun cdv A outer s H E B eB hr G => ?_
  subst eB
  exact (pds_cons (pds_expr (pd_bm PySem.F.plainAttrs_list PySem.F.slot_list_append PySem.F.type_list_append mt_append vrm_append (pd_fld (c := 0) (pd_var 0) T.c_Rows T.n_Rows_links) (pda_cons (pd_callB (x := "len") call_len vrc_len rfl T.z_len (by decide +kernel) (pda_cons (pd_fld (c := 0) (pd_var 0) T.c_Rows T.n_Rows_links) pda_nil)) pda_nil)))
  (pds_cons (pds_expr (pd_bm PySem.F.plainAttrs_list PySem.F.slot_list_append PySem.F.type_list_append mt_append vrm_append (pd_fld (c := 0) (pd_var 0) T.c_Rows T.n_Rows_names) (pda_cons (pd_lstM pda_nil) pda_nil)))
  (pds_one (pds_ret (pd_op op_sub vr_sub (pd_callB (x := "len") call_len vrc_len rfl T.z_len (by decide +kernel) (pda_cons (pd_fld (c := 0) (pd_var 0) T.c_Rows T.n_Rows_links) pda_nil)) pd_int)))))
theorem sc_Rows_root : FnScope N_Rows_root ["self", "row"] (defScope s_Rows_root) := ⟨rfl, rfl, rfl, by decide +kernel, rfl, by decide +kernel, by decide +kernel⟩
theorem ok_Rows_root (T : Tx K mg ca fa fd) (H1 : H1s P w K mg base ca fa fd (k + 1) W) (H0 : H1s P w K mg base ca fa fd k M) : FnOk P w K mg base (L2.CX P w) (k + 2) (fa .Rows_root) (fd .Rows_root) ["self", "row"] (lift K ca 2 (runD 2 (b_Rows_root W M))) := by
  refine def_ok T.f_Rows_root sc_Rows_root rfl (b_Rows_root W M) fun cdv A outer s H E B eB hr G => ?_
  subst eB
  exact (pds_cons (pds_while G.ow (pdt_cmp (op_neD hr.units) vr_ne (pd_ix (hu_of hr) (pd_fld (c := 0) (pd_var 0) T.c_Rows T.n_Rows_links) (pd_var 1)) (pd_var 1) (nomark _)) (pds_one (pds_set 1 G.nd (pd_ix (hu_of hr) (pd_fld (c := 0) (pd_var 0) T.c_Rows T.n_Rows_links) (pd_var 1)))))
  (pds_one (pds_ret (pd_var 1))))
theorem sc_Rows_contain : FnScope N_Rows_contain ["self", "row", "name"] (defScope s_Rows_contain) := ⟨rfl, rfl, rfl, by decide +kernel, rfl, by decide +kernel, by decide +kernel⟩
theorem ok_Rows_contain (T : Tx K mg ca fa fd) (H1 : H1s P w K mg base ca fa fd (k + 1) W) (H0 : H1s P w K mg base ca fa fd k M) : FnOk P w K mg base (L2.CX P w) (k + 2) (fa .Rows_contain) (fd .Rows_contain) ["self", "row", "name"] (lift K ca 3 (runD 3 (b_Rows_contain W M))) := by
  refine def_ok T.f_Rows_contain sc_Rows_contain rfl (b_Rows_contain W M) fun cdv A outer s H E B eB hr G => ?_
  subst eB
  exact (pds_one (pds_expr (pd_bm PySem.F.plainAttrs_list PySem.F.slot_list_append PySem.F.type_list_append mt_append vrm_append (pd_ix (hu_of hr) (pd_fld (c := 0) (pd_var 0) T.c_Rows T.n_Rows_names) (pd_var 1)) (pda_cons (pd_var 2) pda_nil))))
theorem sc_Rows_flow : FnScope N_Rows_flow ["self", "source", "target", "without"] (defScope s_Rows_flow) := ⟨rfl, rfl, rfl, by decide +kernel, rfl, by decide +kernel, by decide +kernel⟩
theorem ok_Rows_flow (T : Tx K mg ca fa fd) (H1 : H1s P w K mg base ca fa fd (k + 1) W) (H0 : H1s P w K mg base ca fa fd k M) : FnOk P w K mg base (L2.CX P w) (k + 2) (fa .Rows_flow) (fd .Rows_flow) ["self", "source", "target", "without"] (lift K ca 4 (runD 4 (b_Rows_flow W M))) := by
  refine def_ok T.f_Rows_flow sc_Rows_flow rfl (b_Rows_flow W M) fun cdv A outer s H E B eB hr G => ?_
  subst eB
  exact (pds_one (pds_expr (pd_bm PySem.F.plainAttrs_list PySem.F.slot_list_append PySem.F.type_list_append mt_append vrm_append (pd_fld (c := 0) (pd_var 0) T.c_Rows T.n_Rows_flows) (pda_cons (pd_tup (pda_cons (pd_var 1) (pda_cons (pd_var 2) (pda_cons (pd_callTy (x := "list") (call_listX rfl) vrc_listX rfl T.z_list (by decide +kernel) (pda_cons (pd_var 3) pda_nil)) pda_nil)))) pda_nil))))
theorem sc_Rows_same : FnScope N_Rows_same ["self", "one", "other"] (defScope s_Rows_same) := ⟨rfl, rfl, rfl, by decide +kernel, rfl, by decide +kernel, by decide +kernel⟩
theorem ok_Rows_same (T : Tx K mg ca fa fd) (H1 : H1s P w K mg base ca fa fd (k + 1) W) (H0 : H1s P w K mg base ca fa fd k M) : FnOk P w K mg base (L2.CX P w) (k + 2) (fa .Rows_same) (fd .Rows_same) ["self", "one", "other"] (lift K ca 3 (runD 3 (b_Rows_same W M))) := by
  refine def_ok T.f_Rows_same sc_Rows_same rfl (b_Rows_same W M) fun cdv A outer s H E B eB hr G => ?_
  subst eB
  exact (pds_one (pds_asg (pd_meth (c := 0) (pd_var 0) T.c_Rows T.m_Rows_root (H1 .Rows_root) hr T.b_Rows_root G.tk (pda_cons (pd_var 2) pda_nil)) (pdg_sub (hu_of hr) (pd_fld (c := 0) (pd_var 0) T.c_Rows T.n_Rows_links) (pd_meth (c := 0) (pd_var 0) T.c_Rows T.m_Rows_root (H1 .Rows_root) hr T.b_Rows_root G.tk (pda_cons (pd_var 1) pda_nil)))))
theorem sc_Rows_least : FnScope N_Rows_least ["self"] (defScope s_Rows_least) := ⟨rfl, rfl, rfl, by decide +kernel, rfl, by decide +kernel, by decide +kernel⟩
theorem ok_Rows_least (T : Tx K mg ca fa fd) (H1 : H1s P w K mg base ca fa fd (k + 1) W) (H0 : H1s P w K mg base ca fa fd k M) : FnOk P w K mg base (L2.CX P w) (k + 2) (fa .Rows_least) (fd .Rows_least) ["self"] (lift K ca 1 (runD 11 (b_Rows_least W M))) := by
  refine def_ok T.f_Rows_least sc_Rows_least rfl (b_Rows_least W M) fun cdv A outer s H E B eB hr G => ?_
  subst eB
  exact (pds_cons (pds_set 1 G.nd (pd_lc (c := (.one 2)) rfl G.nd (pdi_list (pd_fld (c := 0) (pd_var 0) T.c_Rows T.n_Rows_links)) (blkOk_by (own := [("_", 2)]) (N := N_Rows_least) (sc := defScope s_Rows_least) (by decide +kernel)) (fun _ _ _ _ _ => pg_name (i := 2) G.nd rfl (Or.inl rfl)) (fun _ _ _ _ _ => pd_dicM)))
  (pds_cons (pds_for G.ow rfl (pdi_enum rfl T.z_enumerate (pda_cons (pd_fld (c := 0) (pd_var 0) T.c_Rows T.n_Rows_names) pda_nil)) (pdg_tup rfl (pdgs_cons (pdg_name 3 G.nd) (pdgs_cons (pdg_name 4 G.nd) pdgs_nil))) (pds_one (pds_for G.ow rfl (pdi_list (pd_var 4)) (pdg_name 5 G.nd) (pds_one (pds_asg pd_bl (pdg_sub (hu_of hr) (pd_ix (hu_of hr) (pd_var 1) (pd_meth (c := 0) (pd_var 0) T.c_Rows T.m_Rows_root (H1 .Rows_root) hr T.b_Rows_root G.tk (pda_cons (pd_var 3) pda_nil))) (pd_var 5)))))))
  (pds_cons (pds_set 6 G.nd pd_bl)
  (pds_cons (pds_while G.ow (pdt_tru (pd_var 6)) (pds_cons (pds_set 6 G.nd pd_bl)
  (pds_one (pds_for G.ow rfl (pdi_list (pd_fld (c := 0) (pd_var 0) T.c_Rows T.n_Rows_flows)) (pdg_tup rfl (pdgs_cons (pdg_name 7 G.nd) (pdgs_cons (pdg_name 8 G.nd) (pdgs_cons (pdg_name 9 G.nd) pdgs_nil)))) (pds_cons (pds_set 10 G.nd (pd_ix (hu_of hr) (pd_var 1) (pd_meth (c := 0) (pd_var 0) T.c_Rows T.m_Rows_root (H1 .Rows_root) hr T.b_Rows_root G.tk (pda_cons (pd_var 8) pda_nil))))
  (pds_one (pds_for G.ow rfl (pdi_list (pd_callTy (x := "list") (call_listX rfl) vrc_listX rfl T.z_list (by decide +kernel) (pda_cons (pd_ix (hu_of hr) (pd_var 1) (pd_meth (c := 0) (pd_var 0) T.c_Rows T.m_Rows_root (H1 .Rows_root) hr T.b_Rows_root G.tk (pda_cons (pd_var 7) pda_nil))) pda_nil))) (pdg_name 5 G.nd) (pds_one (pds_if (pdw_t (pdw_and (pdt_cmp (op_ninD (hu_of hr)) (vr_in true) (pd_var 5) (pd_var 9) rfl) (pdw_and1 (pdt_cmp (op_ninD (hu_of hr)) (vr_in true) (pd_var 5) (pd_var 10) rfl)))) (pds_cons (pds_asg pd_bl (pdg_sub (hu_of hr) (pd_var 10) (pd_var 5)))
  (pds_one (pds_set 6 G.nd pd_bl))) pds_nil)))))))))
  (pds_one (pds_ret (pd_kill (slotObjs 1) (pd_lcM (c := (.one 3)) rfl G.nd (pdi_range1 rfl T.z_range (pda_cons (pd_callB (x := "len") call_len vrc_len rfl T.z_len (by decide +kernel) (pda_cons (pd_fld (c := 0) (pd_var 0) T.c_Rows T.n_Rows_links) pda_nil)) pda_nil)) (blkOk_by (own := [("row", 3)]) (N := N_Rows_least) (sc := defScope s_Rows_least) (by decide +kernel)) (fun _ _ _ _ _ => pg_name (i := 3) G.nd rfl (Or.inl rfl)) (fun _ _ _ _ _ => (pd_callTy (x := "tuple") call_tuple_of vrc_tuple rfl T.z_tuple (by decide +kernel) (pda_cons (pd_callB (x := "sorted") (call_sortedX rfl) vrc_sorted rfl T.z_sorted (by decide +kernel) (pda_cons (pd_ix (hu_of hr) (pd_var 1) (pd_meth (c := 0) (pd_var 0) T.c_Rows T.m_Rows_root (H1 .Rows_root) hr T.b_Rows_root (takes_no (E0 := 0) B) (pda_cons (pd_var 3) pda_nil))) pda_nil)) pda_nil)))))))))))
theorem sc_law_state : FnScope N_law_state ["_law_script"] (defScope s_law_state) := ⟨rfl, rfl, rfl, by decide +kernel, rfl, by decide +kernel, by decide +kernel⟩
theorem ok_law_state (T : Tx K mg ca fa fd) (H1 : H1s P w K mg base ca fa fd (k + 1) W) (H0 : H1s P w K mg base ca fa fd k M) : FnOk P w K mg base (L2.CX P w) (k + 2) (fa .law_state) (fd .law_state) ["_law_script"] (lift K ca 1 (runD 3 (b_law_state W M))) := by
  refine def_ok T.f_law_state sc_law_state rfl (b_law_state W M) fun cdv A outer s H E B eB hr G => ?_
  subst eB
  exact (pds_cons (pds_setLcM (i := 1) (c := (.one 2)) rfl G.nd rfl rfl (sw_true rfl rfl rfl (by decide +kernel)) (pdi_list (pd_sl (pd_var 0) pdo_none (pdo_some pd_int))) (blkOk_by (own := [("_law_cell", 2)]) (N := N_law_state) (sc := defScope s_law_state) (by decide +kernel)) (fun _ _ _ _ _ => pg_name (i := 2) G.nd rfl (Or.inl rfl)) (fun _ _ _ _ _ => (pd_callB (x := "abs") call_abs vrc_abs rfl T.z_abs (by decide +kernel) (pda_cons (pd_var 2) pda_nil))))
  (pds_cons (pds_if (pdt_cmp (op_eqD hr.units) vr_eq (pd_callB (x := "len") call_len vrc_len rfl T.z_len (by decide +kernel) (pda_cons (pd_var 1) pda_nil)) pd_int (nomark _)) (pds_one (pds_set 1 G.nd (pd_lstM (pda_cons pd_int pda_nil)))) pds_nil)
  (pds_one (pds_ret (pd_lstM (pda_cons pd_int (pda_cons (pd_var 1) pda_nil)))))))
theorem sc_law_take : FnScope N_law_take ["_law_state_here", "_law_most"] (defScope s_law_take) := ⟨rfl, rfl, rfl, by decide +kernel, rfl, by decide +kernel, by decide +kernel⟩
theorem ok_law_take (T : Tx K mg ca fa fd) (H1 : H1s P w K mg base ca fa fd (k + 1) W) (H0 : H1s P w K mg base ca fa fd k M) : FnOk P w K mg base (L2.CX P w) (k + 2) (fa .law_take) (fd .law_take) ["_law_state_here", "_law_most"] (lift K ca 2 (runD 6 (b_law_take W M))) := by
  refine def_ok T.f_law_take sc_law_take rfl (b_law_take W M) fun cdv A outer s H E B eB hr G => ?_
  subst eB
  exact (pds_cons (pds_set 2 G.nd (pd_ix (hu_of hr) (pd_var 0) pd_int))
  (pds_cons (pds_set 3 G.nd (pd_op op_mod vr_mod (pd_ix (hu_of hr) (pd_var 0) pd_int) (pd_callB (x := "len") call_len vrc_len rfl T.z_len (by decide +kernel) (pda_cons (pd_var 2) pda_nil))))
  (pds_cons (pds_set 4 G.nd (pd_ix (hu_of hr) (pd_var 2) (pd_var 3)))
  (pds_cons (pds_if (pdt_cmp op_ge vr_ge (pd_var 4) pd_int (nomark _)) (pds_cons (pds_asg (pd_op op_fdiv vr_div (pd_var 4) (pd_var 1)) (pdg_sub (hu_of hr) (pd_var 2) (pd_var 3)))
  (pds_one (pds_ret (pd_op op_mod vr_mod (pd_var 4) (pd_var 1))))) pds_nil)
  (pds_cons (pds_asg (pd_op op_addD vr_add (pd_ix (hu_of hr) (pd_var 0) pd_int) pd_int) (pdg_sub (hu_of hr) (pd_var 0) pd_int))
  (pds_cons (pds_set 5 G.nd (pd_op op_mod vr_mod (pd_callTy (x := "int") call_int1 vrc_int rfl T.z_int (by decide +kernel) (pda_cons (pd_op op_addD vr_add (pd_op op_mul vr_mul (pd_var 4) pd_int) (pd_op op_mul vr_mul (pd_ix (hu_of hr) (pd_var 0) pd_int) pd_int)) pda_nil)) pd_int))
  (pds_cons (pds_set 5 G.nd (pd_op op_mod vr_mod (pd_callTy (x := "int") call_int1 vrc_int rfl T.z_int (by decide +kernel) (pda_cons (pd_op op_addD vr_add (pd_op op_mul vr_mul (pd_var 5) pd_int) (pd_op op_mul vr_mul (pd_ix (hu_of hr) (pd_var 0) pd_int) pd_int)) pda_nil)) pd_int))
  (pds_one (pds_ret (pd_op op_mod vr_mod (pd_op op_fdiv vr_div (pd_var 5) pd_int) (pd_var 1)))))))))))
theorem sc_law_condition : FnScope N_law_condition ["_law_state_here", "_law_count"] (defScope s_law_condition) := ⟨rfl, rfl, rfl, by decide +kernel, rfl, by decide +kernel, by decide +kernel⟩
theorem ok_law_condition (T : Tx K mg ca fa fd) (H1 : H1s P w K mg base ca fa fd (k + 1) W) (H0 : H1s P w K mg base ca fa fd k M) : FnOk P w K mg base (L2.CX P w) (k + 2) (fa .law_condition) (fd .law_condition) ["_law_state_here", "_law_count"] (lift K ca 2 (runD 7 (b_law_condition W M))) := by
  refine def_ok T.f_law_condition sc_law_condition rfl (b_law_condition W M) fun cdv A outer s H E B eB hr G => ?_
  subst eB
  exact (pds_cons (pds_set 2 G.nd (pd_lst (pda_cons pd_str (pda_cons pd_str (pda_cons pd_str (pda_cons pd_str (pda_cons pd_str pda_nil)))))))
  (pds_cons (pds_set 3 G.nd (pd_call (x := "_law_take") (H1 .law_take) hr rfl T.g_law_take T.f_law_take.kp T.b_law_take G.tk (pda_cons (pd_var 0) (pda_cons pd_int pda_nil))))
  (pds_cons (pds_par 4 5 rfl G.nd (by decide) (pda_cons (pd_call (x := "_law_take") (H1 .law_take) hr rfl T.g_law_take T.f_law_take.kp T.b_law_take G.tk (pda_cons (pd_var 0) (pda_cons (pd_var 1) pda_nil))) (pda_cons (pd_call (x := "_law_take") (H1 .law_take) hr rfl T.g_law_take T.f_law_take.kp T.b_law_take G.tk (pda_cons (pd_var 0) (pda_cons (pd_var 1) pda_nil))) pda_nil)) rfl rfl)
  (pds_cons (pds_if (pdt_cmp op_lt vr_lt (pd_var 3) pd_int (nomark _)) (pds_one (pds_ret (pd_tup (pda_cons pd_str (pda_cons (pd_var 4) (pda_cons (pd_ix (hu_of hr) (pd_var 2) (pd_call (x := "_law_take") (H1 .law_take) hr rfl T.g_law_take T.f_law_take.kp T.b_law_take G.tk (pda_cons (pd_var 0) (pda_cons pd_int pda_nil)))) pda_nil)))))) pds_nil)
  (pds_cons (pds_if (pdt_cmp (op_eqD hr.units) vr_eq (pd_var 3) pd_int (nomark _)) (pds_one (pds_ret (pd_tup (pda_cons pd_str (pda_cons (pd_var 4) (pda_cons (pd_var 5) pda_nil)))))) pds_nil)
  (pds_one (pds_ret (pd_tup (pda_cons pd_str (pda_cons (pd_var 4) (pda_cons (pd_var 5) (pda_cons (pd_lcIf (c := (.one 6)) rfl G.nd (pdi_list (pd_var 2)) (blkOk_by (own := [("_law_name", 6)]) (N := N_law_condition) (sc := defScope s_law_condition) (by decide +kernel)) (fun _ _ _ _ _ => pg_name (i := 6) G.nd rfl (Or.inl rfl)) (fun _ _ _ _ _ => (pdt_cmp (op_eqD hr.units) vr_eq (pd_call (x := "_law_take") (H1 .law_take) hr rfl T.g_law_take T.f_law_take.kp T.b_law_take (takes_no (E0 := 0) B) (pda_cons (pd_var 0) (pda_cons pd_int pda_nil))) pd_int (nomark _))) (fun _ _ _ _ _ => (pd_var 6))) pda_nil))))))))))))
theorem sc_law_add : FnScope N_law_add ["_law_rows", "_law_condition_here"] (defScope s_law_add) := ⟨rfl, rfl, rfl, by decide +kernel, rfl, by decide +kernel, by decide +kernel⟩
theorem ok_law_add (T : Tx K mg ca fa fd) (H1 : H1s P w K mg base ca fa fd (k + 1) W) (H0 : H1s P w K mg base ca fa fd k M) : FnOk P w K mg base (L2.CX P w) (k + 2) (fa .law_add) (fd .law_add) ["_law_rows", "_law_condition_here"] (lift K ca 2 (runD 2 (b_law_add W M))) := by
  refine def_ok T.f_law_add sc_law_add rfl (b_law_add W M) fun cdv A outer s H E B eB hr G => ?_
  subst eB
  exact (pds_cons (pds_if (pdt_cmp (op_eqD hr.units) vr_eq (pd_ix (hu_of hr) (pd_var 1) pd_int) pd_str (nomark _)) (pds_one (pds_ret (pd_meth (c := 0) (pd_var 0) T.c_Rows T.m_Rows_contain (H1 .Rows_contain) hr T.b_Rows_contain G.tk (pda_cons (pd_ix (hu_of hr) (pd_var 1) pd_int) (pda_cons (pd_ix (hu_of hr) (pd_var 1) pd_int) pda_nil))))) pds_nil)
  (pds_cons (pds_if (pdt_cmp (op_eqD hr.units) vr_eq (pd_ix (hu_of hr) (pd_var 1) pd_int) pd_str (nomark _)) (pds_one (pds_ret (pd_meth (c := 0) (pd_var 0) T.c_Rows T.m_Rows_same (H1 .Rows_same) hr T.b_Rows_same G.tk (pda_cons (pd_ix (hu_of hr) (pd_var 1) pd_int) (pda_cons (pd_ix (hu_of hr) (pd_var 1) pd_int) pda_nil))))) pds_nil)
  (pds_one (pds_ret (pd_meth (c := 0) (pd_var 0) T.c_Rows T.m_Rows_flow (H1 .Rows_flow) hr T.b_Rows_flow G.tk (pda_cons (pd_ix (hu_of hr) (pd_var 1) pd_int) (pda_cons (pd_ix (hu_of hr) (pd_var 1) pd_int) (pda_cons (pd_callTy (x := "list") (call_listX rfl) vrc_listX rfl T.z_list (by decide +kernel) (pda_cons (pd_ix (hu_of hr) (pd_var 1) pd_int) pda_nil)) pda_nil))))))))
theorem sc_law_missing : FnScope N_law_missing ["_law_found", "_law_condition_here"] (defScope s_law_missing) := ⟨rfl, rfl, rfl, by decide +kernel, rfl, by decide +kernel, by decide +kernel⟩
theorem ok_law_missing (T : Tx K mg ca fa fd) (H1 : H1s P w K mg base ca fa fd (k + 1) W) (H0 : H1s P w K mg base ca fa fd k M) : FnOk P w K mg base (L2.CX P w) (k + 2) (fa .law_missing) (fd .law_missing) ["_law_found", "_law_condition_here"] (lift K ca 2 (runD 4 (b_law_missing W M))) := by
  refine def_ok T.f_law_missing sc_law_missing rfl (b_law_missing W M) fun cdv A outer s H E B eB hr G => ?_
  subst eB
  exact (pds_cons (pds_if (pdt_cmp (op_eqD hr.units) vr_eq (pd_ix (hu_of hr) (pd_var 1) pd_int) pd_str (nomark _)) (pds_one (pds_ret (pd_lst (pda_cons (pd_tup (pda_cons (pd_ix (hu_of hr) (pd_var 1) pd_int) (pda_cons (pd_ix (hu_of hr) (pd_var 1) pd_int) pda_nil))) pda_nil)))) pds_nil)
  (pds_cons (pds_if (pdt_cmp (op_eqD hr.units) vr_eq (pd_ix (hu_of hr) (pd_var 1) pd_int) pd_str (nomark _)) (pds_cons (pds_setLc (i := 2) (c := (.one 3)) rfl G.nd rfl rfl (sw_true rfl rfl rfl (by decide +kernel)) (pdi_list (pd_ix (hu_of hr) (pd_var 0) (pd_ix (hu_of hr) (pd_var 1) pd_int))) (blkOk_by (own := [("_law_name", 3)]) (N := N_law_missing) (sc := defScope s_law_missing) (by decide +kernel)) (fun _ _ _ _ _ => pg_name (i := 3) G.nd rfl (Or.inl rfl)) (fun _ _ _ _ _ => (pd_tup (pda_cons (pd_ix (hu_of hr) (pd_var 1) pd_int) (pda_cons (pd_var 3) pda_nil)))))
  (pds_one (pds_ret (pd_op op_addD vr_add (pd_var 2) (pd_lc (c := (.one 3)) rfl G.nd (pdi_list (pd_ix (hu_of hr) (pd_var 0) (pd_ix (hu_of hr) (pd_var 1) pd_int))) (blkOk_by (own := [("_law_name", 3)]) (N := N_law_missing) (sc := defScope s_law_missing) (by decide +kernel)) (fun _ _ _ _ _ => pg_name (i := 3) G.nd rfl (Or.inl rfl)) (fun _ _ _ _ _ => (pd_tup (pda_cons (pd_ix (hu_of hr) (pd_var 1) pd_int) (pda_cons (pd_var 3) pda_nil))))))))) pds_nil)
  (pds_one (pds_ret (pd_lcIf (c := (.one 3)) rfl G.nd (pdi_list (pd_ix (hu_of hr) (pd_var 0) (pd_ix (hu_of hr) (pd_var 1) pd_int))) (blkOk_by (own := [("_law_name", 3)]) (N := N_law_missing) (sc := defScope s_law_missing) (by decide +kernel)) (fun _ _ _ _ _ => pg_name (i := 3) G.nd rfl (Or.inl rfl)) (fun _ _ _ _ _ => (pdt_cmp (op_ninD (hu_of hr)) (vr_in true) (pd_var 3) (pd_ix (hu_of hr) (pd_var 1) pd_int) rfl)) (fun _ _ _ _ _ => (pd_tup (pda_cons (pd_ix (hu_of hr) (pd_var 1) pd_int) (pda_cons (pd_var 3) pda_nil)))))))))
theorem sc_law_least : FnScope N_law_least ["_law_count", "_law_conditions"] (defScope s_law_least) := ⟨rfl, rfl, rfl, by decide +kernel, rfl, by decide +kernel, by decide +kernel⟩
theorem ok_law_least (T : Tx K mg ca fa fd) (H1 : H1s P w K mg base ca fa fd (k + 1) W) (H0 : H1s P w K mg base ca fa fd k M) : FnOk P w K mg base (L2.CX P w) (k + 2) (fa .law_least) (fd .law_least) ["_law_count", "_law_conditions"] (lift K ca 2 (runD 9 (b_law_least W M))) := by
  refine def_ok T.f_law_least sc_law_least rfl (b_law_least W M) fun cdv A outer s H E B eB hr G => ?_
  subst eB
  exact (pds_cons (pds_setLc (i := 2) (c := (.one 3)) rfl G.nd rfl rfl (sw_true rfl rfl rfl (by decide +kernel)) (pdi_range1 rfl T.z_range (pda_cons (pd_var 0) pda_nil)) (blkOk_by (own := [("_law_k", 3)]) (N := N_law_least) (sc := defScope s_law_least) (by decide +kernel)) (fun _ _ _ _ _ => pg_name (i := 3) G.nd rfl (Or.inl rfl)) (fun _ _ _ _ _ => (pd_lstM pda_nil)))
  (pds_cons (pds_for G.ow rfl (pdi_range1 rfl T.z_range (pda_cons (pd_op op_addD vr_add (pd_op op_mul vr_mul (pd_var 0) pd_int) pd_int) pda_nil)) (pdg_name 3 G.nd) (pds_cons (pds_set 4 G.nd pd_bl)
  (pds_cons (pds_for G.ow rfl (pdi_list (pd_var 1)) (pdg_name 5 G.nd) (pds_one (pds_for G.ow rfl (pdi_list (pd_call (x := "_law_missing") (H1 .law_missing) hr rfl T.g_law_missing T.f_law_missing.kp T.b_law_missing G.tk (pda_cons (pd_var 2) (pda_cons (pd_var 5) pda_nil)))) (pdg_tup rfl (pdgs_cons (pdg_name 6 G.nd) (pdgs_cons (pdg_name 7 G.nd) pdgs_nil))) (pds_one (pds_if (pdt_cmp (op_ninD (hu_of hr)) (vr_in true) (pd_var 7) (pd_ix (hu_of hr) (pd_var 2) (pd_var 6)) rfl) (pds_cons (pds_expr (pd_bm PySem.F.plainAttrs_list PySem.F.slot_list_append PySem.F.type_list_append mt_append vrm_append (pd_ix (hu_of hr) (pd_var 2) (pd_var 6)) (pda_cons (pd_var 7) pda_nil)))
  (pds_one (pds_set 4 G.nd pd_bl))) pds_nil)))))
  (pds_one (pds_if (pdt_not (pdt_tru (pd_var 4))) (pds_one pds_break) pds_nil)))))
  (pds_one (pds_ret (pd_kill (slotObjs 2) (pd_lc (c := (.one 8)) rfl G.nd (pdi_list (pd_var 2)) (blkOk_by (own := [("_law_row", 8)]) (N := N_law_least) (sc := defScope s_law_least) (by decide +kernel)) (fun _ _ _ _ _ => pg_name (i := 8) G.nd rfl (Or.inl rfl)) (fun _ _ _ _ _ => (pd_callTy (x := "tuple") call_tuple_of vrc_tuple rfl T.z_tuple (by decide +kernel) (pda_cons (pd_callB (x := "sorted") (call_sortedX rfl) vrc_sorted rfl T.z_sorted (by decide +kernel) (pda_cons (pd_var 8) pda_nil)) pda_nil)))))))))
theorem sc_law : FnScope N_law ["_law_script"] (defScope s_law) := ⟨rfl, rfl, rfl, by decide +kernel, rfl, by decide +kernel, by decide +kernel⟩
theorem ok_law (T : Tx K mg ca fa fd) (H1 : H1s P w K mg base ca fa fd (k + 1) W) (H0 : H1s P w K mg base ca fa fd k M) : FnOk P w K mg base (L2.CX P w) (k + 2) (fa .law) (fd .law) ["_law_script"] (lift K ca 1 (runD 10 (b_law W M))) := by
  refine def_ok T.f_law sc_law rfl (b_law W M) fun cdv A outer s H E B eB hr G => ?_
  subst eB
  exact (pds_cons (pds_set 1 G.nd (pd_call (x := "_law_state") (H1 .law_state) hr rfl T.g_law_state T.f_law_state.kp T.b_law_state G.tk (pda_cons (pd_var 0) pda_nil)))
  (pds_cons (pds_set 2 G.nd (pd_make0 (x := "Rows") (c := 0) T.mk_Rows (H0 .Rows_init) hr rfl T.gc_Rows T.b_Rows_init G.tk))
  (pds_cons (pds_set 3 G.nd (pd_op op_addD vr_add pd_int (pd_call (x := "_law_take") (H1 .law_take) hr rfl T.g_law_take T.f_law_take.kp T.b_law_take G.tk (pda_cons (pd_var 1) (pda_cons pd_int pda_nil)))))
  (pds_cons (pds_if (pdw_t (pdw_or (pdt_cmp (op_neD hr.units) vr_ne (pd_lc (c := (.one 4)) rfl G.nd (pdi_range1 rfl T.z_range (pda_cons (pd_var 3) pda_nil)) (blkOk_by (own := [("_law_k", 4)]) (N := N_law) (sc := defScope s_law) (by decide +kernel)) (fun _ _ _ _ _ => pg_name (i := 4) G.nd rfl (Or.inl rfl)) (fun _ _ _ _ _ => (pd_meth0 (c := 0) (pd_var 2) T.c_Rows T.m_Rows_fresh (H1 .Rows_fresh) hr T.b_Rows_fresh (takes_no (E0 := 0) B)))) (pd_lstRg rfl rfl T.z_list (pdr_1 rfl T.z_range (pd_var 3))) (nomark _)) (pdw_or1 (pdt_cmp (op_neD hr.units) vr_ne (pd_frz (pd_meth0 (c := 0) (pd_var 2) T.c_Rows T.m_Rows_least (H1 .Rows_least) hr T.b_Rows_least G.tk)) (pd_lc (c := (.one 4)) rfl G.nd (pdi_range1 rfl T.z_range (pda_cons (pd_var 3) pda_nil)) (blkOk_by (own := [("_law_k", 4)]) (N := N_law) (sc := defScope s_law) (by decide +kernel)) (fun _ _ _ _ _ => pg_name (i := 4) G.nd rfl (Or.inl rfl)) (fun _ _ _ _ _ => (pd_tup pda_nil))) (nomark _))))) (pds_one (pds_ret pd_bl)) pds_nil)
  (pds_cons (pds_set 5 G.nd (pd_lstM pda_nil))
  (pds_cons (pds_for G.ow rfl (pdi_range1 rfl T.z_range (pda_cons (pd_op op_addD vr_add pd_int (pd_call (x := "_law_take") (H1 .law_take) hr rfl T.g_law_take T.f_law_take.kp T.b_law_take G.tk (pda_cons (pd_var 1) (pda_cons pd_int pda_nil)))) pda_nil)) (pdg_name 6 G.nd) (pds_cons (pds_expr (pd_bm PySem.F.plainAttrs_list PySem.F.slot_list_append PySem.F.type_list_append mt_append vrm_append (pd_var 5) (pda_cons (pd_call (x := "_law_condition") (H1 .law_condition) hr rfl T.g_law_condition T.f_law_condition.kp T.b_law_condition G.tk (pda_cons (pd_var 1) (pda_cons (pd_var 3) pda_nil))) pda_nil)))
  (pds_cons (pds_if (pdt_cmp op_notN vr_isnot (pd_call (x := "_law_add") (H1 .law_add) hr rfl T.g_law_add T.f_law_add.kp T.b_law_add G.tk (pda_cons (pd_var 2) (pda_cons (pd_ix (hu_of hr) (pd_var 5) (pd_var 6)) pda_nil))) pd_non (nomark _)) (pds_one (pds_ret pd_bl)) pds_nil)
  (pds_one (pds_if (pdw_t (pdw_and (pdt_cmp (op_eqD hr.units) vr_eq (pd_call (x := "_law_take") (H1 .law_take) hr rfl T.g_law_take T.f_law_take.kp T.b_law_take G.tk (pda_cons (pd_var 1) (pda_cons pd_int pda_nil))) pd_int (nomark _)) (pdw_and1 (pdt_cmp (op_neD hr.units) vr_ne (pd_frz (pd_meth0 (c := 0) (pd_var 2) T.c_Rows T.m_Rows_least (H1 .Rows_least) hr T.b_Rows_least G.tk)) (pd_call (x := "_law_least") (H1 .law_least) hr rfl T.g_law_least T.f_law_least.kp T.b_law_least G.tk (pda_cons (pd_var 3) (pda_cons (pd_var 5) pda_nil))) (nomark _))))) (pds_one (pds_ret pd_bl)) pds_nil)))))
  (pds_cons (pds_set 7 G.nd (pd_call (x := "_law_least") (H1 .law_least) hr rfl T.g_law_least T.f_law_least.kp T.b_law_least G.tk (pda_cons (pd_var 3) (pda_cons (pd_var 5) pda_nil))))
  (pds_cons (pds_set 8 G.nd (pd_meth0 (c := 0) (pd_var 2) T.c_Rows T.m_Rows_least (H1 .Rows_least) hr T.b_Rows_least G.tk))
  (pds_cons (pds_if (pdw_t (pdw_or (pdt_cmp (op_neD hr.units) vr_ne (pd_var 8) (pd_var 7) (nomark _)) (pdw_or (pdt_not (pdt_tru (pd_callB (x := "isinstance") call_isi vrc_isi rfl T.z_isinstance (by decide +kernel) (pda_cons (pd_var 8) (pda_cons (pd_tyname (x := "list") rfl T.z_list (by decide +kernel)) pda_nil))))) (pdw_or1 (pdt_not (pdt_tru (pd_callB (x := "all") (cr_all rfl) vrc_all rfl T.z_all (by decide +kernel) (pda_cons (pd_lc (c := (.one 9)) rfl G.nd (pdi_list (pd_var 8)) (blkOk_by (own := [("_law_row", 9)]) (N := N_law) (sc := defScope s_law) (by decide +kernel)) (fun _ _ _ _ _ => pg_name (i := 9) G.nd rfl (Or.inl rfl)) (fun _ _ _ _ _ => (pd_callB (x := "isinstance") call_isi vrc_isi rfl T.z_isinstance (by decide +kernel) (pda_cons (pd_var 9) (pda_cons (pd_tyname (x := "tuple") rfl T.z_tuple (by decide +kernel)) pda_nil))))) pda_nil)))))))) (pds_one (pds_ret pd_bl)) pds_nil)
  (pds_cons (pds_expr (pd_bm PySem.F.plainAttrs_list PySem.F.slot_list_append PySem.F.type_list_append mt_append vrm_append (pd_var 8) (pda_cons (pd_tup pda_nil) pda_nil)))
  (pds_one (pds_ret (pd_and (pd_cmp (op_eqD hr.units) vr_eq (pd_frz (pd_meth0 (c := 0) (pd_var 2) T.c_Rows T.m_Rows_least (H1 .Rows_least) hr T.b_Rows_least G.tk)) (pd_var 7) (nomark _)) (pd_and (pd_cmp (op_eqD hr.units) vr_eq (pd_meth0 (c := 0) (pd_var 2) T.c_Rows T.m_Rows_fresh (H1 .Rows_fresh) hr T.b_Rows_fresh G.tk) (pd_var 3) (nomark _)) (pd_one (pd_cmp (op_eqD hr.units) vr_eq (pd_frz (pd_meth0 (c := 0) (pd_var 2) T.c_Rows T.m_Rows_least (H1 .Rows_least) hr T.b_Rows_least G.tk)) (pd_op op_addD vr_add (pd_var 7) (pd_lst (pda_cons (pd_tup pda_nil) pda_nil))) (nomark _)))))))))))))))))
theorem ok_all (T : Tx K mg ca fa fd) (n : Nat) (f : Fn) : FnOk P w K mg base (L2.CX P w) (n + 1) (fa f) (fd f) (pars f) (lift K ca (arity f) (go n f)) := by
  refine (all_ok (nloc := nloc) (ar := arity) (body := bodies) (fa := fa) (fd := fd) (ps := pars) (fun f k W M H1 H0 => ?_) n).1 f
  cases f with
  | Rows_init => exact ok_Rows_init T H1 H0
  | Rows_fresh => exact ok_Rows_fresh T H1 H0
  | Rows_root => exact ok_Rows_root T H1 H0
  | Rows_contain => exact ok_Rows_contain T H1 H0
  | Rows_flow => exact ok_Rows_flow T H1 H0
  | Rows_same => exact ok_Rows_same T H1 H0
  | Rows_least => exact ok_Rows_least T H1 H0
  | law_state => exact ok_law_state T H1 H0
  | law_take => exact ok_law_take T H1 H0
  | law_condition => exact ok_law_condition T H1 H0
  | law_add => exact ok_law_add T H1 H0
  | law_missing => exact ok_law_missing T H1 H0
  | law_least => exact ok_law_least T H1 H0
  | law => exact ok_law T H1 H0
end
/-! ### the head -/
def dd_Rows_init : He.DefD := ⟨("Rows", some "__init__"), "__init__", "Rows.__init__", defArgs s_Rows_init, defBody s_Rows_init, defScope s_Rows_init, [], []⟩
def dd_Rows_fresh : He.DefD := ⟨("Rows", some "fresh"), "fresh", "Rows.fresh", defArgs s_Rows_fresh, defBody s_Rows_fresh, defScope s_Rows_fresh, [], []⟩
def dd_Rows_root : He.DefD := ⟨("Rows", some "root"), "root", "Rows.root", defArgs s_Rows_root, defBody s_Rows_root, defScope s_Rows_root, [], []⟩
def dd_Rows_contain : He.DefD := ⟨("Rows", some "contain"), "contain", "Rows.contain", defArgs s_Rows_contain, defBody s_Rows_contain, defScope s_Rows_contain, [], []⟩
def dd_Rows_flow : He.DefD := ⟨("Rows", some "flow"), "flow", "Rows.flow", defArgs s_Rows_flow, defBody s_Rows_flow, defScope s_Rows_flow, [], []⟩
def dd_Rows_same : He.DefD := ⟨("Rows", some "same"), "same", "Rows.same", defArgs s_Rows_same, defBody s_Rows_same, defScope s_Rows_same, [], []⟩
def dd_Rows_least : He.DefD := ⟨("Rows", some "least"), "least", "Rows.least", defArgs s_Rows_least, defBody s_Rows_least, defScope s_Rows_least, [], []⟩
def dd_law_state : He.DefD := ⟨("_law_state", none), "_law_state", "_law_state", defArgs s_law_state, defBody s_law_state, defScope s_law_state, [], []⟩
def dd_law_take : He.DefD := ⟨("_law_take", none), "_law_take", "_law_take", defArgs s_law_take, defBody s_law_take, defScope s_law_take, [], []⟩
def dd_law_condition : He.DefD := ⟨("_law_condition", none), "_law_condition", "_law_condition", defArgs s_law_condition, defBody s_law_condition, defScope s_law_condition, [], []⟩
def dd_law_add : He.DefD := ⟨("_law_add", none), "_law_add", "_law_add", defArgs s_law_add, defBody s_law_add, defScope s_law_add, [], []⟩
def dd_law_missing : He.DefD := ⟨("_law_missing", none), "_law_missing", "_law_missing", defArgs s_law_missing, defBody s_law_missing, defScope s_law_missing, [], []⟩
def dd_law_least : He.DefD := ⟨("_law_least", none), "_law_least", "_law_least", defArgs s_law_least, defBody s_law_least, defScope s_law_least, [], []⟩
def dd_law : He.DefD := ⟨("law", none), "law", "law", defArgs s_law, defBody s_law, defScope s_law, [], []⟩
def dds : List He.DefD := [dd_Rows_init, dd_Rows_fresh, dd_Rows_root, dd_Rows_contain, dd_Rows_flow, dd_Rows_same, dd_Rows_least, dd_law_state, dd_law_take, dd_law_condition, dd_law_add, dd_law_missing, dd_law_least, dd_law]
def fas : List He.Fa := [(.glo "_law_state"), (.glo "_law_take"), (.glo "_law_condition"), (.glo "_law_add"), (.glo "_law_missing"), (.glo "_law_least"), (.glo "law"), (.cls "Rows"), (.glo "Rows"), (.mkr "Rows"), (.meth "Rows" "contain"), (.meth "Rows" "flow"), (.meth "Rows" "fresh"), (.meth "Rows" "least"), (.meth "Rows" "root"), (.meth "Rows" "same"), (.noat "Rows" "flows"), (.noat "Rows" "links"), (.noat "Rows" "names"), (.free "abs"), (.free "all"), (.free "enumerate"), (.free "int"), (.free "isinstance"), (.free "len"), (.free "list"), (.free "range"), (.free "sorted"), (.free "tuple")]
def loose : List Str := ["Rows", "_law_state", "_law_take", "_law_condition", "_law_add", "_law_missing", "_law_least"]
abbrev R : PySem.W.OpenRow := PySem.W.OpenLaw.row PySem.Challenge.rw_askedfor_k04_least_rows
abbrev hk : PySem.W.Hook := He.hookD 5 fas dds
def ob (s : PySem.W.SharedT) : He.AlD := He.obsDG 5 fas dds (HandSHeadRun.getT s)
theorem ob_eq (s : PySem.W.SharedT) : ob s = hk.obs s.abs := He.obsDG_eq (HandSHeadRun.getT_eq s)
theorem run (w : World) : HandSHeadRun.RunEq R (PySem.W.view R.prog [9]) hk ob 1240 loose w := by
  intro os
  kernel_rfl
def faK (K : PySem.W.Frag) : Fn → Addr
  | .Rows_init => He.fAd K ("Rows", some "__init__")
  | .Rows_fresh => He.fAd K ("Rows", some "fresh")
  | .Rows_root => He.fAd K ("Rows", some "root")
  | .Rows_contain => He.fAd K ("Rows", some "contain")
  | .Rows_flow => He.fAd K ("Rows", some "flow")
  | .Rows_same => He.fAd K ("Rows", some "same")
  | .Rows_least => He.fAd K ("Rows", some "least")
  | .law_state => He.fAd K ("_law_state", none)
  | .law_take => He.fAd K ("_law_take", none)
  | .law_condition => He.fAd K ("_law_condition", none)
  | .law_add => He.fAd K ("_law_add", none)
  | .law_missing => He.fAd K ("_law_missing", none)
  | .law_least => He.fAd K ("_law_least", none)
  | .law => He.fAd K ("law", none)
def caK (K : PySem.W.Frag) : Nat → Addr
  | 0 => He.ga K "Rows"
  | _ => 0
theorem facts {K : PySem.W.Frag} {h : Heap} {mg : Str → Option Value} (X : K.In h) (G : h.Ns mainGlobals mg) (c : He.SaysD fas dds K) :
    ∃ fd : Fn → FuncData, Tx K mg (caK K) (faK K) fd ∧ ∀ (s : Shared) (v : Value), BindsTo s (fd .law) ⟨[v], []⟩ [("_law_script", v)] := by
  obtain ⟨e0, F0⟩ := c.def_ 0 (d := dd_Rows_init) rfl
  obtain ⟨e1, F1⟩ := c.def_ 1 (d := dd_Rows_fresh) rfl
  obtain ⟨e2, F2⟩ := c.def_ 2 (d := dd_Rows_root) rfl
  obtain ⟨e3, F3⟩ := c.def_ 3 (d := dd_Rows_contain) rfl
  obtain ⟨e4, F4⟩ := c.def_ 4 (d := dd_Rows_flow) rfl
  obtain ⟨e5, F5⟩ := c.def_ 5 (d := dd_Rows_same) rfl
  obtain ⟨e6, F6⟩ := c.def_ 6 (d := dd_Rows_least) rfl
  obtain ⟨e7, F7⟩ := c.def_ 7 (d := dd_law_state) rfl
  obtain ⟨e8, F8⟩ := c.def_ 8 (d := dd_law_take) rfl
  obtain ⟨e9, F9⟩ := c.def_ 9 (d := dd_law_condition) rfl
  obtain ⟨e10, F10⟩ := c.def_ 10 (d := dd_law_add) rfl
  obtain ⟨e11, F11⟩ := c.def_ 11 (d := dd_law_missing) rfl
  obtain ⟨e12, F12⟩ := c.def_ 12 (d := dd_law_least) rfl
  obtain ⟨e13, F13⟩ := c.def_ 13 (d := dd_law) rfl
  refine ⟨fun f => match f with
    | .Rows_init => e0
    | .Rows_fresh => e1
    | .Rows_root => e2
    | .Rows_contain => e3
    | .Rows_flow => e4
    | .Rows_same => e5
    | .Rows_least => e6
    | .law_state => e7
    | .law_take => e8
    | .law_condition => e9
    | .law_add => e10
    | .law_missing => e11
    | .law_least => e12
    | .law => e13
    , ?_, ?_⟩
  · exact {
      f_Rows_init := fun_of F0
      b_Rows_init := FunD.bindsN (ps := ["self"]) F0 fun _ _ _ _ _ _ us hl => match us, hl with | [_], _ => rfl
      f_Rows_fresh := fun_of F1
      b_Rows_fresh := FunD.bindsN (ps := ["self"]) F1 fun _ _ _ _ _ _ us hl => match us, hl with | [_], _ => rfl
      f_Rows_root := fun_of F2
      b_Rows_root := FunD.bindsN (ps := ["self", "row"]) F2 fun _ _ _ _ _ _ us hl => match us, hl with | [_, _], _ => rfl
      f_Rows_contain := fun_of F3
      b_Rows_contain := FunD.bindsN (ps := ["self", "row", "name"]) F3 fun _ _ _ _ _ _ us hl => match us, hl with | [_, _, _], _ => rfl
      f_Rows_flow := fun_of F4
      b_Rows_flow := FunD.bindsN (ps := ["self", "source", "target", "without"]) F4 fun _ _ _ _ _ _ us hl => match us, hl with | [_, _, _, _], _ => rfl
      f_Rows_same := fun_of F5
      b_Rows_same := FunD.bindsN (ps := ["self", "one", "other"]) F5 fun _ _ _ _ _ _ us hl => match us, hl with | [_, _, _], _ => rfl
      f_Rows_least := fun_of F6
      b_Rows_least := FunD.bindsN (ps := ["self"]) F6 fun _ _ _ _ _ _ us hl => match us, hl with | [_], _ => rfl
      f_law_state := fun_of F7
      b_law_state := FunD.bindsN (ps := ["_law_script"]) F7 fun _ _ _ _ _ _ us hl => match us, hl with | [_], _ => rfl
      f_law_take := fun_of F8
      b_law_take := FunD.bindsN (ps := ["_law_state_here", "_law_most"]) F8 fun _ _ _ _ _ _ us hl => match us, hl with | [_, _], _ => rfl
      f_law_condition := fun_of F9
      b_law_condition := FunD.bindsN (ps := ["_law_state_here", "_law_count"]) F9 fun _ _ _ _ _ _ us hl => match us, hl with | [_, _], _ => rfl
      f_law_add := fun_of F10
      b_law_add := FunD.bindsN (ps := ["_law_rows", "_law_condition_here"]) F10 fun _ _ _ _ _ _ us hl => match us, hl with | [_, _], _ => rfl
      f_law_missing := fun_of F11
      b_law_missing := FunD.bindsN (ps := ["_law_found", "_law_condition_here"]) F11 fun _ _ _ _ _ _ us hl => match us, hl with | [_, _], _ => rfl
      f_law_least := fun_of F12
      b_law_least := FunD.bindsN (ps := ["_law_count", "_law_conditions"]) F12 fun _ _ _ _ _ _ us hl => match us, hl with | [_, _], _ => rfl
      f_law := fun_of F13
      b_law := FunD.bindsN (ps := ["_law_script"]) F13 fun _ _ _ _ _ _ us hl => match us, hl with | [_], _ => rfl
      g_law_state := He.glo_ok X G (c.fact 0 (f := .glo "_law_state") rfl)
      g_law_take := He.glo_ok X G (c.fact 1 (f := .glo "_law_take") rfl)
      g_law_condition := He.glo_ok X G (c.fact 2 (f := .glo "_law_condition") rfl)
      g_law_add := He.glo_ok X G (c.fact 3 (f := .glo "_law_add") rfl)
      g_law_missing := He.glo_ok X G (c.fact 4 (f := .glo "_law_missing") rfl)
      g_law_least := He.glo_ok X G (c.fact 5 (f := .glo "_law_least") rfl)
      g_law := He.glo_ok X G (c.fact 6 (f := .glo "law") rfl)
      c_Rows := He.cls_ok (c.fact 7 (f := .cls "Rows") rfl)
      gc_Rows := He.glo_ok X G (c.fact 8 (f := .glo "Rows") rfl)
      mk_Rows := He.mkr_ok (c.fact 9 (f := .mkr "Rows") rfl)
      m_Rows_contain := He.meth_ok (c.fact 10 (f := .meth "Rows" "contain") rfl)
      m_Rows_flow := He.meth_ok (c.fact 11 (f := .meth "Rows" "flow") rfl)
      m_Rows_fresh := He.meth_ok (c.fact 12 (f := .meth "Rows" "fresh") rfl)
      m_Rows_least := He.meth_ok (c.fact 13 (f := .meth "Rows" "least") rfl)
      m_Rows_root := He.meth_ok (c.fact 14 (f := .meth "Rows" "root") rfl)
      m_Rows_same := He.meth_ok (c.fact 15 (f := .meth "Rows" "same") rfl)
      n_Rows_flows := He.noat_ok (c.fact 16 (f := .noat "Rows" "flows") rfl)
      n_Rows_links := He.noat_ok (c.fact 17 (f := .noat "Rows" "links") rfl)
      n_Rows_names := He.noat_ok (c.fact 18 (f := .noat "Rows" "names") rfl)
      z_abs := He.free_ok X G (c.fact 19 (f := .free "abs") rfl)
      z_all := He.free_ok X G (c.fact 20 (f := .free "all") rfl)
      z_enumerate := He.free_ok X G (c.fact 21 (f := .free "enumerate") rfl)
      z_int := He.free_ok X G (c.fact 22 (f := .free "int") rfl)
      z_isinstance := He.free_ok X G (c.fact 23 (f := .free "isinstance") rfl)
      z_len := He.free_ok X G (c.fact 24 (f := .free "len") rfl)
      z_list := He.free_ok X G (c.fact 25 (f := .free "list") rfl)
      z_range := He.free_ok X G (c.fact 26 (f := .free "range") rfl)
      z_sorted := He.free_ok X G (c.fact 27 (f := .free "sorted") rfl)
      z_tuple := He.free_ok X G (c.fact 28 (f := .free "tuple") rfl)
    }
  · intro s v
    have b := FunD.bindsA (ps := ["_law_script"]) F13 fun _ _ _ _ _ _ us hl => match us, hl with | [_], _ => rfl
    exact b s [v] rfl
theorem holds (n : Nat) (hn : Room (n + 1) callerA) (hL : LawD (go n .law)) : PySem.Challenge.rw_askedfor_k04_least_rows.Holds := by
  w_on; o_law
  refine HandSHeadRun.head_any (r := R) (q := PySem.W.view R.prog [9]) (H := hk) (ob := ob) (M := 1240) (loose := loose) (d := HandSHeadRun.topDef R.prog 9) (kwd := []) ob_eq
    (by kernel_rfl) (fun s => by kernel_rfl) run (by kernel_rfl) (by kernel_rfl) (by kernel_rfl) (by rfl) (by first | assumption | decide +kernel) (by decide +kernel) ⟨rfl, rfl, rfl, rfl, rfl, by decide +kernel⟩ ?hw ?hc
  case hw => w_witness2
  case hc =>
    refine walk_dl (l := PySem.Challenge.rw_askedfor_k04_least_rows) (k := n + 1) (x := "_law_script") rfl (by kernel_rfl) hn fun w mg f h Y G hmg0 => ?_
    obtain ⟨K, KX, c⟩ := Y
    have hmg : mg ("law" : Str) = some (.ref f) := by
      have e : (HandSHeadRun.topDef R.prog 9).name = ("law" : Str) := by kernel_rfl
      rw [← e]
      exact hmg0
    obtain ⟨fd, T, hb⟩ := facts KX G c
    have e := hmg.symm.trans T.g_law
    cases e
    exact ⟨K, fd .law, caK K, go n .law, KX, hL, hb, fun base _ _ => ok_all T n .law⟩
end Pg
namespace Pg
open PySem PySem.Spec PyProof.Rows L2 DL
/-! ### numbers from the script -/
/-- the state from which numbers are taken -/
def StAt (S : Store) (ps pc : Addr) : Prop := ps ≠ pc ∧ ∃ (i : Nat) (cs : List Nat), cs ≠ [] ∧ cs.length ≤ 63 ∧ S ps = some (.lst [.int i, .obj pc]) ∧ S pc = some (.lst (cs.map fun c : Nat => D.int c))
theorem take_ok {k : Nat} {S : Store} {ps pc : Addr} {m : Nat} {Q : QE} {E : XQ} (h : StAt S ps pc) (h1 : 1 ≤ m) (h2 : m ≤ 1000)
    (hQ : ∀ (r : Nat) S', r < m → StAt S' ps pc → (∀ p, p ≠ ps → p ≠ pc → S' p = S p) → Q (.int r) S') : go (k + 1) .law_take [.obj ps, .int m] S Q E := by
  obtain ⟨hne, i, cs, hcs, hl, es, ec⟩ := h
  have hlen : 0 < cs.length := by cases cs <;> simp_all
  have hmod : i % cs.length < cs.length := Nat.mod_lt _ hlen
  obtain ⟨c, hc⟩ : ∃ c, cs[i % cs.length]? = some c := ⟨_, List.getElem?_eq_getElem hmod⟩
  have em : ((i : Int) % ((cs.length : Nat) : Int)) = ((i % cs.length : Nat) : Int) := by omega
  have e2 : atI (cs.map fun c : Nat => D.int c) ((i : Int) % ((cs.length : Nat) : Int)) = some (.int c) := by rw [em]; exact at_nat (by rw [List.getElem?_map, hc]; rfl)
  have e3 : ixN (cs.map fun c : Nat => D.int c).length ((i : Int) % ((cs.length : Nat) : Int)) = some (i % cs.length) := by rw [em]; exact ix_nat (by simpa using hmod)
  have e4 : ixN cs.length ((i : Int) % ((cs.length : Nat) : Int)) = some (i % cs.length) := by rw [em]; exact ix_nat hmod
  rw [go_law_take]
  unfold b_law_take
  simp [startD, asL_obj es, asL_obj ec, lenD_obj ec, e2, st_lst es, st_lst ec, e3, e4, ix_zero]
  refine ⟨hlen, ?_⟩
  split
  · refine ⟨⟨by omega, by omega⟩, by omega, ?_⟩
    rw [show ((c : Int) % (m : Int)) = ((c % m : Nat) : Int) by omega]
    refine hQ _ _ (Nat.mod_lt _ (by omega)) ⟨hne, i, cs.set (i % cs.length) (c / m), ?_, by simpa using hl, by rw [put_ne hne]; exact es, ?_⟩ fun p _ h => put_ne h
    · intro z; apply hcs; have := congrArg List.length z; simp at this; exact this
    · rw [put_same, List.map_set]; congr 3
  · refine ⟨.inr ⟨by decide, by decide⟩, .inr ⟨by decide, by decide⟩, .inr ⟨by decide, by decide⟩, .inr ⟨by decide, by decide⟩, ⟨by decide, by decide⟩, by omega, ?_⟩
    generalize ((c : Int) * 48271 + ((i : Int) + 1) * 69621) % 2147483647 * 16807 + ((i : Int) + 1) * 7919 = z
    have r1 := Int.emod_nonneg (z % 1000000007 / 7) (b := (m : Int)) (by omega)
    have r2 := Int.emod_lt_of_pos (z % 1000000007 / 7) (b := (m : Int)) (by omega)
    obtain ⟨r, er⟩ := Int.eq_ofNat_of_zero_le r1
    rw [er]
    refine hQ r _ (by omega) ⟨hne, i + 1, cs, hcs, hl, put_same, by rw [put_ne (Ne.symm hne)]; exact ec⟩ fun p h _ => put_ne h
end Pg
namespace Pg
open PySem PySem.Spec PyProof.Rows L2 DL
/-! ### conditions and their least solution -/
inductive Cond where
  | con (x : Nat) (a : String)
  | same (x y : Nat)
  | flow (x y : Nat) (ws : List String)
inductive Lst (C : List Cond) : Nat → String → Prop where
  | con {x a} : Cond.con x a ∈ C → Lst C x a
  | s1 {x y a} : Cond.same x y ∈ C → Lst C x a → Lst C y a
  | s2 {x y a} : Cond.same x y ∈ C → Lst C y a → Lst C x a
  | fl {x y ws a} : Cond.flow x y ws ∈ C → Lst C x a → a ∉ ws → Lst C y a
def univ5 : List String := ["a", "b", "c", "dd", "e"]
def CondOk (n : Nat) : Cond → Prop
  | .con x a => x < n ∧ a ∈ univ5
  | .same x y => x < n ∧ y < n
  | .flow x y ws => x < n ∧ y < n ∧ ws.length ≤ 5
theorem Lst.inU {C : List Cond} {n : Nat} (ok : ∀ c ∈ C, CondOk n c) {x : Nat} {a : String} (h : Lst C x a) : x < n ∧ a ∈ univ5 := by
  induction h with
  | con h => exact ok _ h
  | s1 h _ ih => exact ⟨(ok _ h).2, ih.2⟩
  | s2 h _ ih => exact ⟨(ok _ h).1, ih.2⟩
  | fl h _ _ ih => exact ⟨(ok _ h).2.1, ih.2⟩
theorem Lst.mono {C C' : List Cond} (h : ∀ c ∈ C, c ∈ C') {x : Nat} {a : String} (l : Lst C x a) : Lst C' x a := by
  induction l with
  | con e => exact .con (h _ e)
  | s1 e _ ih => exact .s1 (h _ e) ih
  | s2 e _ ih => exact .s2 (h _ e) ih
  | fl e _ w ih => exact .fl (h _ e) ih w
open Classical in
noncomputable def LS (C : List Cond) (i : Nat) : List String := srt (univ5.filter fun a => decide (Lst C i a))
theorem LS_eq {C : List Cond} {n : Nat} (ok : ∀ c ∈ C, CondOk n c) {i : Nat} {xs : List String} (nd : xs.Nodup) (h : ∀ a, a ∈ xs ↔ Lst C i a) : srt xs = LS C i := by
  refine srt_eq ((List.perm_ext_iff_of_nodup nd ?_).mpr fun a => ?_)
  · exact List.Pairwise.filter _ (by decide : univ5.Nodup)
  · rw [h a, List.mem_filter]
    exact ⟨fun z => ⟨(z.inU ok).2, by simpa using z⟩, fun z => by simpa using z.2⟩
def rowAt (f : List (List String)) (i : Nat) : List String := f.getD i []
def closed (f : List (List String)) : Cond → Prop
  | .con x a => a ∈ rowAt f x
  | .same x y => (∀ a, a ∈ rowAt f x → a ∈ rowAt f y) ∧ ∀ a, a ∈ rowAt f y → a ∈ rowAt f x
  | .flow x y ws => ∀ a, a ∈ rowAt f x → a ∉ ws → a ∈ rowAt f y
theorem closed_all {C : List Cond} {f : List (List String)} (h : ∀ c ∈ C, closed f c) {x : Nat} {a : String} (l : Lst C x a) : a ∈ rowAt f x := by
  induction l with
  | con e => exact h _ e
  | s1 e _ ih => exact (h _ e).1 _ ih
  | s2 e _ ih => exact (h _ e).2 _ ih
  | fl e _ w ih => exact h _ e _ ih w
def tot (f : List (List String)) : Nat := (f.map List.length).sum
theorem nodup_le : ∀ {xs ys : List String}, xs.Nodup → (∀ a ∈ xs, a ∈ ys) → xs.length ≤ ys.length
  | [], _, _, _ => Nat.zero_le _
  | x :: xs, ys, nd, h => by
    have h1 := h x (by simp)
    have nd' := List.nodup_cons.mp nd
    have h2 := nodup_le (xs := xs) (ys := ys.erase x) nd'.2 fun a ha => (List.mem_erase_of_ne fun z => by subst z; exact nd'.1 ha).mpr (h a (by simp [ha]))
    rw [List.length_erase_of_mem h1] at h2
    have : 0 < ys.length := List.length_pos_of_mem h1
    simp; omega
theorem tot_le : ∀ {f : List (List String)}, (∀ r ∈ f, r.Nodup ∧ ∀ a ∈ r, a ∈ univ5) → tot f ≤ 5 * f.length
  | [], _ => Nat.zero_le _
  | r :: f, h => by
    have h1 : r.length ≤ 5 := nodup_le (h r (by simp)).1 (h r (by simp)).2
    have h2 := tot_le (f := f) fun q hq => h q (by simp [hq])
    show (r.length + tot f) ≤ _
    simp; omega
theorem tot_set : ∀ {f : List (List String)} {i : Nat} {r : List String}, i < f.length → tot (f.set i r) + (rowAt f i).length = tot f + r.length
  | q :: f, 0, r, _ => by show (r.length + tot f) + q.length = (q.length + tot f) + r.length; omega
  | q :: f, i + 1, r, h => by
    have := tot_set (f := f) (i := i) (r := r) (by simpa using h)
    show (q.length + tot (f.set i r)) + (rowAt f i).length = (q.length + tot f) + r.length
    omega
theorem rowAt_set {f : List (List String)} {i j : Nat} {r : List String} (h : i < f.length) : rowAt (f.set i r) j = if i = j then r else rowAt f j := by
  unfold rowAt
  rw [List.getD_eq_getElem?_getD, List.getD_eq_getElem?_getD]
  by_cases e : i = j
  · subst e; rw [List.getElem?_set_self h]; simp
  · rw [List.getElem?_set_ne e, if_neg e]
theorem rowAt_get {f : List (List String)} {i : Nat} (h : i < f.length) : f[i]? = some (rowAt f i) := by
  unfold rowAt; rw [List.getD_eq_getElem?_getD, List.getElem?_eq_getElem h]; rfl
/-- rows that hold no more than they must -/
structure Sound (C : List Cond) (n : Nat) (f : List (List String)) : Prop where
  len : f.length = n
  nd : ∀ i, i < n → (rowAt f i).Nodup
  snd : ∀ i a, a ∈ rowAt f i → Lst C i a
theorem Sound.add {C : List Cond} {n : Nat} {f : List (List String)} (s : Sound C n f) {i : Nat} {a : String} (hi : i < n) (hl : Lst C i a) (hn : a ∉ rowAt f i) : Sound C n (f.set i (rowAt f i ++ [a])) := by
  have hi' : i < f.length := by rw [s.len]; exact hi
  refine ⟨by rw [List.length_set]; exact s.len, fun j hj => ?_, fun j b hb => ?_⟩
  · rw [rowAt_set hi']
    split
    · rename_i e
      rw [List.nodup_append]
      exact ⟨s.nd i hi, by simp, fun x hx y hy z => by simp at hy; subst hy; subst z; exact hn hx⟩
    · exact s.nd j hj
  · rw [rowAt_set hi'] at hb
    split at hb
    · rename_i e
      subst e
      rcases List.mem_append.mp hb with hb | hb
      · exact s.snd i b hb
      · simp at hb; subst hb; exact hl
    · exact s.snd j b hb
theorem Sound.tot {C : List Cond} {n : Nat} {f : List (List String)} (ok : ∀ c ∈ C, CondOk n c) (s : Sound C n f) : Pg.tot f ≤ 5 * n := by
  rw [← s.len]
  refine tot_le fun r hr => ?_
  obtain ⟨i, hi, e⟩ := List.mem_iff_getElem.mp hr
  have e2 : rowAt f i = r := by
    have := rowAt_get hi
    rw [List.getElem?_eq_getElem hi, e] at this
    exact (Option.some.inj this).symm
  rw [← e2]
  exact ⟨s.nd i (by rw [← s.len]; exact hi), fun a ha => ((s.snd i a ha).inU ok).2⟩
theorem tot_add {f : List (List String)} {i : Nat} {a : String} (hi : i < f.length) : Pg.tot (f.set i (rowAt f i ++ [a])) = Pg.tot f + 1 := by
  have := tot_set (f := f) (i := i) (r := rowAt f i ++ [a]) hi
  rw [List.length_append] at this
  have : ([a] : List String).length = 1 := rfl
  omega
theorem Sound.done {C : List Cond} {n : Nat} {f : List (List String)} (ok : ∀ c ∈ C, CondOk n c) (s : Sound C n f) (h : ∀ c ∈ C, closed f c) {i : Nat} (hi : i < n) : srt (rowAt f i) = LS C i :=
  LS_eq ok (s.nd i hi) fun a => ⟨s.snd i a, closed_all h⟩
def condD : Cond → D
  | .con x a => .tup [.str "contain", .int x, .str a]
  | .same x y => .tup [.str "same", .int x, .int y]
  | .flow x y ws => .tup [.str "flow", .int x, .int y, .lst (ws.map D.str)]
noncomputable def rowsD (n : Nat) (C : List Cond) : List D := (List.range n).map fun i => .tup ((LS C i).map D.str)
end Pg
namespace Pg
open PySem PySem.Spec PyProof.Rows L2 DL
/-! ### what the law does: the rows by adding what is missing -/
def pairD (z : Nat × String) : D := .tup [.int z.1, .str z.2]
def miss (f : List (List String)) : Cond → List (Nat × String)
  | .con x a => [(x, a)]
  | .same x y => (rowAt f x).map (fun b => (y, b)) ++ (rowAt f y).map (fun b => (x, b))
  | .flow x y ws => ((rowAt f x).filter fun b => !decide (b ∈ ws)).map (fun b => (y, b))
abbrev lstO (r : List String) : Ob := .lst (r.map D.str)
theorem ext_row {S0 S : Store} {fs : List Addr} {f : List (List String)} (e : Ext S0 S fs (f.map lstO)) {i : Nat} (h : i < f.length) : ∃ p, fs[i]? = some p ∧ S p = some (lstO (rowAt f i)) := by
  have hl : i < fs.length := by rw [e.len, List.length_map]; exact h
  refine ⟨fs[i], List.getElem?_eq_getElem hl, ?_⟩
  rw [e.at_ i _ (List.getElem?_eq_getElem hl), List.getElem?_map, rowAt_get h]; rfl
theorem at_obj {fs : List Addr} {i : Nat} {p : Addr} (h : fs[i]? = some p) : atI (fs.map D.obj) (i : Int) = some (.obj p) := at_nat (by rw [List.getElem?_map, h]; rfl)
theorem row_short {C : List Cond} {n : Nat} {f : List (List String)} (ok : ∀ c ∈ C, CondOk n c) (s : Sound C n f) {i : Nat} (hi : i < n) : (rowAt f i).length ≤ 5 := nodup_le (ys := univ5) (s.nd i hi) fun a ha => ((s.snd i a ha).inU ok).2
theorem missing_ok {k : Nat} {S0 S : Store} {fs : List Addr} {f : List (List String)} {C : List Cond} {n : Nat} (ok : ∀ c ∈ C, CondOk n c) (s : Sound C n f) (e : Ext S0 S fs (f.map lstO)) {c : Cond} (hc : CondOk n c) {Q : QE} {E : XQ}
    (h : Q (.lst ((miss f c).map pairD)) S) : go (k + 1) .law_missing [.lst (fs.map D.obj), condD c] S Q E := by
  rw [go_law_missing]
  unfold b_law_missing
  cases c with
  | con x a =>
    simp [startD, condD]
    exact h
  | same x y =>
    obtain ⟨px, hx, sx⟩ := ext_row e (i := x) (by rw [s.len]; exact hc.1)
    obtain ⟨py, hy, sy⟩ := ext_row e (i := y) (by rw [s.len]; exact hc.2)
    have l1 := row_short ok s hc.1
    have l2 := row_short ok s hc.2
    simp [startD, condD, at_obj hx, at_obj hy, asL_obj sx, asL_obj sy]
    refine lc_map (fun z => match z with | .str b => pairD (y, b) | _ => .non) (asL_obj sx) (by simp [lim]; omega) (fun _ _ _ q => q) (fun z hz Q q => ?_) ?_
    · obtain ⟨b, _, rfl⟩ := List.mem_map.mp hz
      simp [wipeD]
      exact q
    · simp [at_obj hx, at_obj hy, asL_obj sx, asL_obj sy]
      refine lc_map (fun z => match z with | .str b => pairD (x, b) | _ => .non) (asL_obj sy) (by simp [lim]; omega) (fun _ _ _ q => q) (fun z hz Q q => ?_) ?_
      · obtain ⟨b, _, rfl⟩ := List.mem_map.mp hz
        simp [wipeD]
        exact q
      · simp [lim]
        refine ⟨by omega, ?_⟩
        simpa [miss, List.map_append, Function.comp_def] using h
  | flow x y ws =>
    obtain ⟨px, hx, sx⟩ := ext_row e (i := x) (by rw [s.len]; exact hc.1)
    have l1 := row_short ok s hc.1
    simp [startD, condD, at_obj hx, asL_obj sx]
    refine lc_filt (fun z => match z with | .str b => pairD (y, b) | _ => .non) (fun z => match z with | .str b => !decide (b ∈ ws) | _ => false) (asL_obj sx) (by simp [lim]; omega) (fun z hz Q q => ?_) (fun z hz Q q => ?_) ?_
    · obtain ⟨b, _, rfl⟩ := List.mem_map.mp hz
      simp [wipeD, in_lst]
      exact q
    · obtain ⟨b, _, rfl⟩ := List.mem_map.mp hz
      simp [wipeD]
      exact q
    · simpa [miss, List.filter_map, Function.comp_def] using h
end Pg
namespace Pg
open PySem PySem.Spec PyProof.Rows L2 DL
theorem closed_miss {f : List (List String)} {c : Cond} (h : ∀ z ∈ miss f c, z.2 ∈ rowAt f z.1) : closed f c := by
  cases c with
  | con x a => exact h (x, a) (by simp [miss])
  | same x y => exact ⟨fun a ha => h (y, a) (by simp [miss, ha]), fun a ha => h (x, a) (by simp [miss, ha])⟩
  | flow x y ws => exact fun a ha hw => h (y, a) (by simp [miss, ha, hw])
theorem miss_ok {C : List Cond} {n : Nat} {f : List (List String)} (ok : ∀ c ∈ C, CondOk n c) (s : Sound C n f) {c : Cond} (hc : c ∈ C) {z : Nat × String} (hz : z ∈ miss f c) : z.1 < n ∧ Lst C z.1 z.2 := by
  have hl : Lst C z.1 z.2 := by
    cases c with
    | con x a => simp [miss] at hz; subst hz; exact .con hc
    | same x y =>
      simp [miss] at hz
      rcases hz with ⟨b, hb, rfl⟩ | ⟨b, hb, rfl⟩
      · exact .s1 hc (s.snd _ _ hb)
      · exact .s2 hc (s.snd _ _ hb)
    | flow x y ws =>
      simp [miss] at hz
      obtain ⟨b, ⟨hb, hw⟩, rfl⟩ := hz
      exact .fl hc (s.snd _ _ hb) hw
  exact ⟨(hl.inU ok).1, hl⟩
theorem rep_map (n : Nat) : List.replicate n (Ob.lst []) = (List.replicate n ([] : List String)).map lstO := by rw [List.map_replicate]; rfl
theorem sound_nil (C : List Cond) (n : Nat) : Sound C n (List.replicate n []) := by
  have e : ∀ i, rowAt (List.replicate n ([] : List String)) i = [] := fun i => by
    unfold rowAt
    rw [List.getD_eq_getElem?_getD, List.getElem?_replicate]
    split <;> rfl
  exact ⟨by simp, fun i _ => by rw [e i]; simp, fun i a h => by rw [e i] at h; cases h⟩
theorem lst_set {f : List (List String)} {i : Nat} {r : List String} : (f.map lstO).set i (lstO r) = (f.set i r).map lstO := by rw [List.map_set]
theorem lleast_ok {k n : Nat} {C : List Cond} {S : Store} {pcd : Addr} {Q : QE} {E : XQ} (ok : ∀ c ∈ C, CondOk n c) (hn : n ≤ 9) (hS : S pcd = some (.lst (C.map condD)))
    (h : Q (.lst (rowsD n C)) S) : go (k + 2) .law_least [.int n, .obj pcd] S Q E := by
  rw [go_law_least]
  unfold b_law_least
  simp only [r_seq, r_asg, r_dLc, r_iR1, r_cons, r_nil, r_var, startD, List.map, List.replicate, List.length, List.append, List.cons_append, List.nil_append, List.getElem?_cons_zero, r_ctg]
  refine ⟨⟨by omega, by omega⟩, ?_⟩
  refine lc_new (o := .lst []) (S0 := S) (fun σ S Q h p hp => h p hp) (fun _ _ => trivial) (by rw [range_len]; simp [lim]; omega) fun S1 fs e => ?_
  rw [range_len, Int.toNat_natCast, rep_map] at e
  simp only [r_op, r_var, r_C, r_int2, r_int0, r_addI, List.set, List.getElem?_cons_succ, List.getElem?_cons_zero, r_for, r_iR1, r_cons, r_nil, r_gN]
  have e5 : ((n : Int) * 5 + 1).toNat = 5 * n + 1 := by omega
  refine ⟨.inr ⟨by decide, by decide⟩, ⟨by omega, by omega⟩, ?_⟩
  rw [e5, range_map]
  refine for_indM _ (I := fun d r σ S2 => ∃ (f : List (List String)) (a3 a4 a5 a6 a7 a8 : Option D), σ = [some (.int n), some (.obj pcd), some (.lst (fs.map .obj)), a3, a4, a5, a6, a7, a8] ∧ Ext S S2 fs (f.map lstO) ∧ Sound C n f ∧ d.length ≤ tot f)
    (List.range (5 * n + 1)) (fun _ _ _ _ _ => trivial) ?st ?fn ⟨_, _, _, _, _, _, _, rfl, e, sound_nil C n, Nat.zero_le _⟩
  case fn =>
    intro σ S2 ⟨f, a3, a4, a5, a6, a7, a8, es, e, s, ht⟩
    have := s.tot ok
    rw [List.length_range] at ht
    omega
  case st =>
    intro d x r σ S2 N hd ⟨f, a3, a4, a5, a6, a7, a8, es, e, s, ht⟩ hN
    subst es
    simp [asL_obj (e.old hS)]
    refine for_indM condD (I := fun dC r σ S3 => ∃ (f2 : List (List String)) (gr : Bool) (a3 a5 a6 a7 a8 : Option D), σ = [some (.int n), some (.obj pcd), some (.lst (fs.map .obj)), a3, some (.bl gr), a5, a6, a7, a8] ∧ Ext S S3 fs (f2.map lstO) ∧ Sound C n f2 ∧
      tot f ≤ tot f2 ∧ (gr = true → tot f < tot f2) ∧ (gr = false → ∀ c ∈ dC, closed f2 c)) C (fun _ _ σ S3 ⟨_, _, _, _, _, _, _, _, e, _⟩ => asL_obj (e.old hS)) ?st2 ?fn2 ⟨f, false, _, _, _, _, _, rfl, e, s, Nat.le_refl _, (by simp), (by simp)⟩
    case fn2 =>
      intro σ S3 ⟨f2, gr, a3, a5, a6, a7, a8, es, e, s, h1, h2, h3⟩
      subst es
      cases gr with
      | true =>
        simp
        refine hN _ _ ⟨f2, _, _, _, _, _, _, rfl, e, s, ?_⟩
        have := h2 rfl
        simp; omega
      | false =>
        simp
        have cl := h3 rfl
        have hfl : fs.length = n := by rw [e.len, List.length_map, s.len]
        rw [objs_range hfl]
        refine lc_mapM _ (fun i => .tup ((LS C i).map D.str)) (by simp [keepL]) (by simp [lim]; omega) (fun _ _ _ q => q) (fun i hi Q' q => ?_) ?_
        · have hi' : i < n := by simpa using hi
          obtain ⟨p, hp, sp⟩ := ext_row e (i := i) (by rw [s.len]; exact hi')
          have l5 := row_short ok s hi'
          have ep : fs.getD i 0 = p := by rw [List.getD_eq_getElem?_getD, hp]; rfl
          simp [wipeD, hp, sortd_obj sp]
          refine ⟨by omega, ?_⟩
          rw [s.done ok cl hi']
          exact q
        · simp only [List.nil_append, slotObjs]
          show Q (.lst (rowsD n C)) (ridAll S3 _)
          rw [← objs_range hfl]
          simp only [List.getElem?_cons_succ, List.getElem?_cons_zero, objs_map]
          rw [e.rid]
          exact h
    case st2 =>
      intro dC c rC σ S3 N2 hc ⟨f2, gr, a3, a5, a6, a7, a8, es, e, s2, h1, h2, h3⟩ hN2
      subst es
      have hcC : c ∈ C := by rw [← hc]; simp
      simp
      refine missing_ok ok s2 e (ok c hcC) ?_
      simp
      refine for_indM pairD (I := fun dz r σ S4 => ∃ (f3 : List (List String)) (g3 : Bool) (a6 a7 a8 : Option D), σ = [some (.int n), some (.obj pcd), some (.lst (fs.map .obj)), a3, some (.bl g3), some (condD c), a6, a7, a8] ∧ Ext S S4 fs (f3.map lstO) ∧ Sound C n f3 ∧
        tot f ≤ tot f3 ∧ (g3 = true → tot f < tot f3) ∧ (g3 = false → gr = false ∧ f3 = f2 ∧ ∀ z ∈ dz, z.2 ∈ rowAt f2 z.1)) (miss f2 c) (fun _ _ _ _ _ => rfl) ?st3 ?fn3 ⟨f2, gr, _, _, _, rfl, e, s2, h1, h2, fun h => ⟨h, rfl, by simp⟩⟩
      case fn3 =>
        intro σ S4 ⟨f3, g3, a6, a7, a8, es, e, s, k1, k2, k3⟩
        refine hN2 _ _ ⟨f3, g3, _, _, _, _, _, es, e, s, k1, k2, fun h => ?_⟩
        obtain ⟨hg, hf, hz⟩ := k3 h
        intro c' hc'
        rw [hf]
        rcases List.mem_append.mp hc' with hc' | hc'
        · exact h3 hg c' hc'
        · simp at hc'; subst hc'
          exact closed_miss hz
      case st3 =>
        intro dz z rz σ S4 N3 hz ⟨f3, g3, a6, a7, a8, es, e, s, k1, k2, k3⟩ hN3
        subst es
        have hzm : z ∈ miss f2 c := by rw [← hz]; simp
        obtain ⟨hz1, hzl⟩ := miss_ok ok s2 hcC hzm
        obtain ⟨p, hp, sp⟩ := ext_row e (i := z.1) (by rw [s.len]; exact hz1)
        have hp' := at_obj hp
        have l5 := row_short ok s hz1
        simp [pairD, hp', in_obj sp, DL.inR, app_obj sp, tyD_lst sp]
        split
        · rename_i hin
          refine hN3 _ _ ⟨f3, g3, _, _, _, rfl, e, s, k1, k2, fun h => ?_⟩
          obtain ⟨hg, hf, hz⟩ := k3 h
          refine ⟨hg, hf, fun w hw => ?_⟩
          rcases List.mem_append.mp hw with hw | hw
          · exact hz w hw
          · simp at hw; subst hw; rw [← hf]; exact hin
        · refine ⟨by simp [lim]; omega, ?_⟩
          rename_i hnot
          have hz1' : z.1 < f3.length := by rw [s.len]; exact hz1
          have t3 := tot_add (a := z.2) hz1'
          refine hN3 _ _ ⟨f3.set z.1 (rowAt f3 z.1 ++ [z.2]), true, _, _, _, rfl, ?_, s.add hz1 hzl hnot, by omega, fun _ => by omega, fun h => by cases h⟩
          have := e.put (o := lstO (rowAt f3 z.1 ++ [z.2])) hp
          rw [lst_set] at this
          simpa [lstO] using this
end Pg
namespace Pg
open PySem PySem.Spec PyProof.Rows L2 DL
/-! ### what the program does: rows by links -/
inductive Leads (ls : List Nat) : Nat → Nat → Nat → Prop where
  | at_ {r} : ls[r]? = some r → Leads ls 0 r r
  | up {k x y r} : ls[x]? = some y → y ≠ x → Leads ls k y r → Leads ls (k + 1) x r
theorem Leads.root {ls : List Nat} {k x r : Nat} (h : Leads ls k x r) : ls[r]? = some r := by
  induction h with
  | at_ e => exact e
  | up _ _ _ ih => exact ih
/-- a link more: from root r1 to root r2 -/
theorem Leads.link {ls : List Nat} {r1 r2 : Nat} (h1 : ls[r1]? = some r1) (h2 : ls[r2]? = some r2) {k x r : Nat} (h : Leads ls k x r) : ∃ k', Leads (ls.set r1 r2) k' x (if r = r1 then r2 else r) := by
  have lt1 : r1 < ls.length := by
    apply Classical.byContradiction
    intro z; rw [List.getElem?_eq_none (by omega)] at h1; cases h1
  have base : ∀ r, ls[r]? = some r → ∃ k', Leads (ls.set r1 r2) k' r (if r = r1 then r2 else r) := fun r e => by
    by_cases z : r = r1
    · subst z
      rw [if_pos rfl]
      by_cases w : r2 = r
      · subst w; exact ⟨0, .at_ (by rw [List.getElem?_set_self lt1])⟩
      · exact ⟨1, .up (List.getElem?_set_self lt1) w (.at_ (by rw [List.getElem?_set_ne fun q => w q.symm]; exact h2))⟩
    · rw [if_neg z]
      exact ⟨0, .at_ (by rw [List.getElem?_set_ne fun q => z q.symm]; exact e)⟩
  induction h with
  | at_ e => exact base _ e
  | @up k x y r e ne _ ih =>
    obtain ⟨k', ih⟩ := ih
    have hx : x ≠ r1 := fun z => by subst z; rw [h1] at e; exact ne (Option.some.inj e).symm
    exact ⟨k' + 1, .up (by rw [List.getElem?_set_ne fun q => hx q.symm]; exact e) ne ih⟩
structure RowsAt (S : Store) (pr pl pn pf : Addr) (as : List Addr) (ls : List Nat) (nms : List (List String)) (fl : List (Nat × Nat × List String)) : Prop where
  rw_ : S pr = some (.ins 0 [("links", .obj pl), ("names", .obj pn), ("flows", .obj pf)])
  lk : S pl = some (.lst (ls.map fun i : Nat => D.int i))
  nm : S pn = some (.lst (as.map D.obj))
  fl_ : S pf = some (.lst (fl.map fun z => D.tup [.int z.1, .int z.2.1, .lst (z.2.2.map D.str)]))
  ln : as.length = nms.length
  at_ : ∀ (i : Nat) (p : Addr), as[i]? = some p → S p = (nms.map lstO)[i]?
theorem at_ints {ls : List Nat} {x y : Nat} (h : ls[x]? = some y) : atI (ls.map fun i : Nat => D.int i) (x : Int) = some (.int y) := at_nat (by rw [List.getElem?_map, h]; rfl)
theorem root_ok {k : Nat} {S : Store} {pr pl pn pf : Addr} {as : List Addr} {ls : List Nat} {nms : List (List String)} {fl : List (Nat × Nat × List String)} (R : RowsAt S pr pl pn pf as ls nms fl) {m x r : Nat} (hL : Leads ls m x r) {Q : QE} {E : XQ} (h : Q (.int r) S) :
    go (k + 1) .Rows_root [.obj pr, .int x] S Q E := by
  rw [go_Rows_root]
  unfold b_Rows_root
  have ei := insD_obj R.rw_
  simp [startD]
  refine ⟨fun m σ S' => S' = S ∧ ∃ x : Nat, σ = [some (.obj pr), some (.int x)] ∧ Leads ls m x r, ⟨m, rfl, x, rfl, hL⟩, ?_⟩
  rintro m σ S' ⟨rfl, x, rfl, hL⟩
  cases hL with
  | at_ e =>
    simp [ei, asL_obj R.lk, at_ints e, List.lookup]
    exact h
  | @up k _ y _ e ne hL =>
    have ne' : ((y : Int) == (x : Int)) = false := by rw [beq_eq_false_iff_ne]; omega
    simp [ei, asL_obj R.lk, at_ints e, List.lookup]
    rw [if_neg (by omega)]
    refine ⟨fun σ S'' => S'' = S' ∧ σ = [some (.obj pr), some (.int y)], ?_, rfl, rfl⟩
    rintro σ S'' ⟨rfl, rfl⟩
    exact ⟨k, by omega, rfl, y, rfl, hL⟩
end Pg
namespace Pg
open PySem PySem.Spec PyProof.Rows L2 DL
structure RowsOk (C : List Cond) (n : Nat) (ls : List Nat) (nms : List (List String)) (fl : List (Nat × Nat × List String)) (rt : Nat → Nat) : Prop where
  ll : ls.length = n
  nl : nms.length = n
  ld : ∀ x, x < n → rt x < n ∧ ∃ k, Leads ls k x (rt x)
  eqv : ∀ x y, x < n → y < n → rt x = rt y → ∀ C' : List Cond, (∀ c ∈ C, c ∈ C') → ∀ a, Lst C' x a ↔ Lst C' y a
  same : ∀ x y, Cond.same x y ∈ C → rt x = rt y
  con : ∀ x a, Cond.con x a ∈ C ↔ a ∈ rowAt nms x
  flow : ∀ x y ws, Cond.flow x y ws ∈ C ↔ (x, y, ws) ∈ fl
theorem RowsOk.rr {C : List Cond} {n : Nat} {ls : List Nat} {nms : List (List String)} {fl : List (Nat × Nat × List String)} {rt : Nat → Nat} (o : RowsOk C n ls nms fl rt) {x : Nat} (hx : x < n) : rt (rt x) = rt x := by
  obtain ⟨h1, k, h2⟩ := o.ld x hx
  obtain ⟨h3, k', h4⟩ := o.ld (rt x) h1
  have hr := h2.root
  generalize rt (rt x) = z at h4
  cases h4 with
  | at_ e => rfl
  | up e ne _ => rw [hr] at e; exact absurd (Option.some.inj e).symm ne
def addR (f : List (List String)) (i : Nat) (a : String) : List (List String) := if a ∈ rowAt f i then f else f.set i (rowAt f i ++ [a])
theorem addR_len {f : List (List String)} {i : Nat} {a : String} : (addR f i a).length = f.length := by
  unfold addR; split
  · rfl
  · rw [List.length_set]
theorem mem_addR {f : List (List String)} {i : Nat} {a : String} (h : i < f.length) {j : Nat} {b : String} : b ∈ rowAt (addR f i a) j ↔ b ∈ rowAt f j ∨ (j = i ∧ b = a) := by
  unfold addR
  split
  · rename_i hm
    exact ⟨.inl, fun z => z.elim id fun ⟨e1, e2⟩ => by rw [e1, e2]; exact hm⟩
  · rw [rowAt_set h]
    split
    · rename_i e; subst e; simp
    · rename_i e
      exact ⟨.inl, fun z => z.elim id fun ⟨e1, _⟩ => absurd e1.symm e⟩
theorem Sound.addR {C : List Cond} {n : Nat} {f : List (List String)} (s : Sound C n f) {i : Nat} {a : String} (hi : i < n) (hl : Lst C i a) : Sound C n (addR f i a) := by
  unfold Pg.addR
  split
  · exact s
  · rename_i h; exact s.add hi hl h
abbrev dicO (r : List String) : Ob := .dic (keysD r)
theorem ext_dic {S0 S : Store} {fs : List Addr} {f : List (List String)} (e : Ext S0 S fs (f.map dicO)) {i : Nat} (h : i < f.length) : ∃ p, fs[i]? = some p ∧ S p = some (dicO (rowAt f i)) := by
  have hl : i < fs.length := by rw [e.len, List.length_map]; exact h
  refine ⟨fs[i], List.getElem?_eq_getElem hl, ?_⟩
  rw [e.at_ i _ (List.getElem?_eq_getElem hl), List.getElem?_map, rowAt_get h]; rfl
theorem ext_addR {S0 S : Store} {fs : List Addr} {f : List (List String)} (e : Ext S0 S fs (f.map dicO)) {i : Nat} {p : Addr} {a : String} (hi : i < f.length) (hp : fs[i]? = some p) : Ext S0 (DL.put S p (.dic (putKD a (.bl true) (keysD (rowAt f i))))) fs ((addR f i a).map dicO) := by
  have h := e.put (o := .dic (putKD a (.bl true) (keysD (rowAt f i)))) hp
  unfold addR
  split
  · rename_i hm
    rw [keys_put2 hm] at h ⊢
    have : (f.map dicO).set i (dicO (rowAt f i)) = f.map dicO := by
      refine List.ext_getElem? fun j => ?_
      by_cases z : i = j
      · subst z; rw [List.getElem?_set_self (by simpa using hi), List.getElem?_map, rowAt_get hi]; rfl
      · rw [List.getElem?_set_ne z]
    rw [← this]; exact h
  · rename_i hm
    rw [keys_put hm] at h ⊢
    rw [List.map_set]; exact h
theorem rep_dic (n : Nat) : List.replicate n (Ob.dic []) = (List.replicate n ([] : List String)).map dicO := by rw [List.map_replicate]; rfl
theorem enum_map0 : ∀ (as : List Addr) (j : Nat), enumD j (as.map D.obj) = (List.range as.length).map fun i : Nat => D.tup [.int ((j + i : Nat) : Int), .obj (as.getD i 0)]
  | [], _ => rfl
  | a :: as, j => by
    rw [List.map_cons, enumD, enum_map0 as (j + 1), List.length_cons, List.range_succ_eq_map, List.map_cons, List.map_map]
    congr 1
    refine List.map_congr_left fun i _ => ?_
    show D.tup [.int ((j + 1 + i : Nat) : Int), .obj (as.getD i 0)] = D.tup [.int ((j + (i + 1) : Nat) : Int), .obj ((a :: as).getD (i + 1) 0)]
    rw [show j + 1 + i = j + (i + 1) by omega]; rfl
theorem enum_map {as : List Addr} : enumD 0 (as.map D.obj) = (List.range as.length).map fun i : Nat => D.tup [.int (i : Int), .obj (as.getD i 0)] := by
  rw [enum_map0]
  refine List.map_congr_left fun i _ => ?_
  rw [Nat.zero_add]
theorem range_split {n : Nat} {d r : List Nat} {x : Nat} (h : d ++ x :: r = List.range n) : d = List.range x ∧ x < n := by
  have hl : d.length < n := by have := congrArg List.length h; simp at this; omega
  have hx : x = d.length := by
    have e := congrArg (fun l : List Nat => l[d.length]?) h
    simp [List.getElem?_append_right, List.getElem?_range hl] at e
    exact e
  refine ⟨?_, by omega⟩
  have e := congrArg (List.take d.length) h
  rw [List.take_left', List.take_range] at e
  · rw [e, hx, Nat.min_eq_left (by omega)]
  · rfl
section
variable {k n : Nat} {C : List Cond} {S : Store} {pr pl pn pf : Addr} {as : List Addr} {ls : List Nat} {nms : List (List String)} {fl : List (Nat × Nat × List String)} {rt : Nat → Nat}
theorem rows_old {S1 : Store} {fs : List Addr} {os : List Ob} (R : RowsAt S pr pl pn pf as ls nms fl) (e : Ext S S1 fs os) : RowsAt S1 pr pl pn pf as ls nms fl := by
  refine ⟨e.old R.rw_, e.old R.lk, e.old R.nm, e.old R.fl_, R.ln, fun i p h => ?_⟩
  have h1 := R.at_ i p h
  have hl : i < nms.length := by
    rw [← R.ln]
    apply Classical.byContradiction
    intro z; rw [List.getElem?_eq_none (by omega)] at h; cases h
  rw [List.getElem?_map, rowAt_get hl] at h1 ⊢
  exact e.old h1
theorem rows_nm (R : RowsAt S pr pl pn pf as ls nms fl) {i : Nat} (h : i < nms.length) : S (as.getD i 0) = some (lstO (rowAt nms i)) := by
  have hl : i < as.length := by rw [R.ln]; exact h
  have := R.at_ i as[i] (List.getElem?_eq_getElem hl)
  rw [List.getElem?_map, rowAt_get h] at this
  rw [List.getD_eq_getElem?_getD, List.getElem?_eq_getElem hl]
  exact this
def conCl (C : List Cond) (rt : Nat → Nat) (f : List (List String)) : Prop := ∀ x a, Cond.con x a ∈ C → a ∈ rowAt f (rt x)
def flowCl (rt : Nat → Nat) (f : List (List String)) (z : Nat × Nat × List String) : Prop := ∀ a ∈ rowAt f (rt z.1), a ∉ z.2.2 → a ∈ rowAt f (rt z.2.1)
theorem conCl.addR {f : List (List String)} {i : Nat} {a : String} (h : conCl C rt f) (hi : i < f.length) : conCl C rt (addR f i a) := fun x b hb => (mem_addR hi).mpr (.inl (h x b hb))
theorem all_in (o : RowsOk C n ls nms fl rt) {f : List (List String)} (h1 : conCl C rt f) (h2 : ∀ z ∈ fl, flowCl rt f z) {x : Nat} {a : String} (l : Lst C x a) : a ∈ rowAt f (rt x) := by
  induction l with
  | con e => exact h1 _ _ e
  | s1 e _ ih => rw [← o.same _ _ e]; exact ih
  | s2 e _ ih => rw [o.same _ _ e]; exact ih
  | fl e _ w ih => exact h2 _ ((o.flow _ _ _).mp e) _ ih w
theorem to_root (ok : ∀ c ∈ C, CondOk n c) (o : RowsOk C n ls nms fl rt) {x : Nat} (hx : x < n) {a : String} : Lst C (rt x) a ↔ Lst C x a := o.eqv _ _ (o.ld x hx).1 hx (o.rr hx) C (fun _ h => h) a
theorem row_short2 {f : List (List String)} (ok : ∀ c ∈ C, CondOk n c) (s : Sound C n f) (i : Nat) : (rowAt f i).length ≤ 5 := by
  by_cases hi : i < n
  · exact row_short ok s hi
  · have : rowAt f i = [] := by
      unfold rowAt
      rw [List.getD_eq_getElem?_getD, List.getElem?_eq_none (by rw [s.len]; omega)]; rfl
    rw [this]; exact Nat.zero_le _
theorem listX_dic {p : Addr} {l : List String} {Q : QE} (h : S p = some (.dic (keysD l))) : bListX [.obj p] S Q = Q (.lst (l.map D.str)) S := by
  unfold bListX
  simp only [asK_obj h]
  have e : ((keysD l).map fun p => D.str p.1) = l.map D.str := by simp [keysD, List.map_map, Function.comp_def]
  rw [e]
theorem tot_addR {f : List (List String)} {i : Nat} {a : String} (hi : i < f.length) (hn : a ∉ rowAt f i) : tot (addR f i a) = tot f + 1 := by
  unfold addR; rw [if_neg hn]; exact tot_add hi
theorem look_root (x y z : D) : List.lookup "root" [("links", x), ("names", y), ("flows", z)] = none := rfl
theorem rleast_ok {Q : QE} {E : XQ} (ok : ∀ c ∈ C, CondOk n c) (hn : n ≤ 10) (hr : RowsAt S pr pl pn pf as ls nms fl) (o : RowsOk C n ls nms fl rt)
    (h : ∀ p, S p = none → Q (.obj p) (DL.put S p (.lst (rowsD n C)))) : go (k + 2) .Rows_least [.obj pr] S Q E := by
  rw [go_Rows_least]
  unfold b_Rows_least
  have ei := insD_obj hr.rw_
  have lim' : lim = 16777216 := rfl
  simp [startD, ei, List.lookup, asL_obj hr.lk]
  refine lc_new (o := .dic []) (S0 := S) (fun σ S Q h p hp => h p hp) (fun S' h => asL_obj (h _ _ hr.lk)) (by simp [lim, o.ll]; omega) fun S1 fs e => ?_
  rw [List.length_map, o.ll, rep_dic] at e
  have R1 := rows_old hr e
  simp [insD_obj R1.rw_, List.lookup, asL_obj R1.nm]
  rw [enum_map, hr.ln, o.nl]
  refine for_indM _ (I := fun d r σ S2 => ∃ (f : List (List String)) (a2 a3 a4 a5 a6 a7 a8 a9 a10 : Option D), σ = [some (.obj pr), some (.lst (fs.map .obj)), a2, a3, a4, a5, a6, a7, a8, a9, a10] ∧ Ext S S2 fs (f.map dicO) ∧ Sound C n f ∧ ∀ j ∈ d, ∀ a ∈ rowAt nms j, a ∈ rowAt f (rt j))
    (List.range n) (fun _ _ _ _ ⟨_, _, _, _, _, _, _, _, _, _, _, e, _⟩ => asL_obj (e.old hr.nm)) ?st ?fn ⟨_, _, _, _, _, _, _, _, _, _, rfl, e, sound_nil C n, by simp⟩
  case st =>
    intro d i r σ S2 N hd ⟨f, a2, a3, a4, a5, a6, a7, a8, a9, a10, es, e, s, hc⟩ hN
    subst es
    have hi : i < n := (range_split hd).2
    have hnm : i < nms.length := by rw [o.nl]; exact hi
    simp [-List.getD_eq_getElem?_getD, asL_obj (e.old (rows_nm hr hnm))]
    refine for_indM D.str (I := fun d2 r σ S3 => ∃ (f : List (List String)) (a2 a5 a6 a7 a8 a9 a10 : Option D), σ = [some (.obj pr), some (.lst (fs.map .obj)), a2, some (.int i), some (.obj (as.getD i 0)), a5, a6, a7, a8, a9, a10] ∧ Ext S S3 fs (f.map dicO) ∧ Sound C n f ∧
      (∀ j ∈ d, ∀ a ∈ rowAt nms j, a ∈ rowAt f (rt j)) ∧ ∀ a ∈ d2, a ∈ rowAt f (rt i)) (rowAt nms i) (fun _ _ _ _ ⟨_, _, _, _, _, _, _, _, _, e, _⟩ => asL_obj (e.old (rows_nm hr hnm))) ?st2 ?fn2 ⟨f, _, _, _, _, _, _, _, rfl, e, s, hc, by simp⟩
    case fn2 =>
      intro σ S3 ⟨f, a2, a5, a6, a7, a8, a9, a10, es, e, s, hc, hc2⟩
      refine hN _ _ ⟨f, _, _, _, _, _, _, _, _, _, es, e, s, fun j hj => ?_⟩
      rcases List.mem_append.mp hj with hj | hj
      · exact hc j hj
      · simp at hj; subst hj; exact hc2
    case st2 =>
      intro d2 a r2 σ S3 N2 hd2 ⟨f, a2, a5, a6, a7, a8, a9, a10, es, e, s, hc, hc2⟩ hN2
      subst es
      have R3 := rows_old hr e
      obtain ⟨hri, kk, hL⟩ := o.ld i hi
      have hri' : rt i < f.length := by rw [s.len]; exact hri
      obtain ⟨p, hp, sp⟩ := ext_dic e hri'
      have l5 := row_short ok s hri
      have hmem : Cond.con i a ∈ C := (o.con i a).mpr (by rw [← hd2]; simp)
      have hl : Lst C (rt i) a := (to_root ok o hi).mpr (.con hmem)
      simp [-List.lookup_eq_none_iff, look_root, -List.getD_eq_getElem?_getD, insD_obj R3.rw_]
      refine root_ok R3 hL ?_
      simp [-List.getD_eq_getElem?_getD, at_obj hp, st_dic sp, keys_len]
      refine ⟨by rw [lim']; omega, hN2 _ _ ⟨addR f (rt i) a, _, _, _, _, _, _, _, rfl, ext_addR e hri' hp, s.addR hri hl, fun j hj b hb => (mem_addR hri').mpr (.inl (hc j hj b hb)), fun b hb => (mem_addR hri').mpr ?_⟩⟩
      rcases List.mem_append.mp hb with hb | hb
      · exact .inl (hc2 b hb)
      · simp at hb; exact .inr ⟨rfl, hb⟩
  case fn =>
    intro σ S2 ⟨f, a2, a3, a4, a5, a6, a7, a8, a9, a10, es, e, s, hc⟩
    subst es
    have hcc : conCl C rt f := fun x a hx => hc x (by simpa using (ok _ hx).1) a ((o.con x a).mp hx)
    simp
    refine ⟨fun m σ S3 => ∃ (f : List (List String)) (ch : Bool) (a2 a3 a4 a5 a7 a8 a9 a10 : Option D), σ = [some (.obj pr), some (.lst (fs.map .obj)), a2, a3, a4, a5, some (.bl ch), a7, a8, a9, a10] ∧ Ext S S3 fs (f.map dicO) ∧ Sound C n f ∧ conCl C rt f ∧
      (ch = false → ∀ z ∈ fl, flowCl rt f z) ∧ m = if ch = true then 5 * n + 1 - tot f else 0, ⟨5 * n + 1 - tot f, f, true, _, _, _, _, _, _, _, _, rfl, e, s, hcc, (by simp), by simp⟩, ?_⟩
    rintro m σ S3 ⟨f, ch, a2, a3, a4, a5, a7, a8, a9, a10, rfl, e, s, hcc, hfc, hm⟩
    have R3 := rows_old hr e
    cases ch with
    | false =>
      have cl := hfc rfl
      have e3 : ((ls.length : Nat) : Int).toNat = ls.length := by omega
      simp [insD_obj R3.rw_, List.lookup, lenD_obj R3.lk]
      rw [o.ll]
      refine ⟨by omega, ?_⟩
      rw [range_map]
      refine lc_mapM _ (fun i => .tup ((LS C i).map D.str)) trivial (by simp [lim]; omega) (fun _ _ _ q => q) (fun i hi Q' q => ?_) ?_
      · have hi' : i < n := by simpa using hi
        obtain ⟨hri, kk, hL⟩ := o.ld i hi'
        have hri' : rt i < f.length := by rw [s.len]; exact hri
        obtain ⟨p, hp, sp⟩ := ext_dic e hri'
        have l5 := row_short ok s hri
        simp [-List.lookup_eq_none_iff, look_root, wipeD, insD_obj R3.rw_]
        refine root_ok R3 hL ?_
        simp [at_obj hp, sortd_dic sp]
        refine ⟨by omega, ?_⟩
        rw [LS_eq ok (s.nd _ hri) fun a => ⟨fun ha => (to_root ok o hi').mp (s.snd _ _ ha), fun ha => all_in o hcc cl ha⟩]
        exact q
      · intro p hp
        show Q (.obj p) (ridAll (DL.put S3 p (.lst (rowsD n C))) _)
        simp only [slotObjs, List.getElem?_cons_succ, List.getElem?_cons_zero, objs_map]
        rw [e.ridPut hp]
        exact h p (e.none hp).1
    | true =>
      have hm' : m = 5 * n + 1 - tot f := hm
      have ht := s.tot ok
      obtain ⟨N, hN1, hN2⟩ : ∃ N : DEnv → Store → Prop, (∀ σ S4, (∃ (f2 : List (List String)) (ch : Bool) (a2 a3 a4 a5 a7 a8 a9 a10 : Option D), σ = [some (.obj pr), some (.lst (fs.map .obj)), a2, a3, a4, a5, some (.bl ch), a7, a8, a9, a10] ∧ Ext S S4 fs (f2.map dicO) ∧ Sound C n f2 ∧ conCl C rt f2 ∧
        (ch = false → ∀ z ∈ fl, flowCl rt f2 z) ∧ (ch = true → tot f < tot f2)) → N σ S4) ∧ (∀ σ S4, N σ S4 → (∃ (f2 : List (List String)) (ch : Bool) (a2 a3 a4 a5 a7 a8 a9 a10 : Option D), σ = [some (.obj pr), some (.lst (fs.map .obj)), a2, a3, a4, a5, some (.bl ch), a7, a8, a9, a10] ∧ Ext S S4 fs (f2.map dicO) ∧ Sound C n f2 ∧ conCl C rt f2 ∧
        (ch = false → ∀ z ∈ fl, flowCl rt f2 z) ∧ (ch = true → tot f < tot f2))) := ⟨_, fun _ _ h => h, fun _ _ h => h⟩
      simp only [r_tru, r_var, List.getElem?_cons_succ, List.getElem?_cons_zero, r_tru1, r_ofO, if_pos]
      refine ⟨N, ?_, ?_⟩
      · intro σ S4 hN
        obtain ⟨f2, ch, a2, a3, a4, a5, a7, a8, a9, a10, rfl, e, s, hcc, hfc, hgt⟩ := hN2 _ _ hN
        refine ⟨if ch = true then 5 * n + 1 - tot f2 else 0, ?_, f2, ch, _, _, _, _, _, _, _, _, rfl, e, s, hcc, hfc, rfl⟩
        split
        · rename_i hch; have := hgt hch; have := s.tot ok; omega
        · omega
      · simp [insD_obj R3.rw_, List.lookup, asL_obj R3.fl_]
        refine for_indM _ (I := fun d r σ S5 => ∃ (f2 : List (List String)) (ch : Bool) (a2 a3 a4 a5 a7 a8 a9 a10 : Option D), σ = [some (.obj pr), some (.lst (fs.map .obj)), a2, a3, a4, a5, some (.bl ch), a7, a8, a9, a10] ∧ Ext S S5 fs (f2.map dicO) ∧ Sound C n f2 ∧ conCl C rt f2 ∧
          tot f ≤ tot f2 ∧ (ch = true → tot f < tot f2) ∧ (ch = false → ∀ z ∈ d, flowCl rt f2 z)) fl (fun _ _ _ _ ⟨_, _, _, _, _, _, _, _, _, _, _, e, _⟩ => asL_obj (e.old hr.fl_)) ?st4 ?fn4 ⟨f, false, _, _, _, _, _, _, _, _, rfl, e, s, hcc, Nat.le_refl _, (by simp), (by simp)⟩
        case fn4 =>
          intro σ S5 ⟨f2, ch, a2, a3, a4, a5, a7, a8, a9, a10, es, e, s, hcc, h1, h2, h3⟩
          exact hN1 _ _ ⟨f2, ch, _, _, _, _, _, _, _, _, es, e, s, hcc, h3, h2⟩
        case st4 =>
          intro d z r σ S5 N5 hd ⟨f2, ch, a2, a3, a4, a5, a7, a8, a9, a10, es, e, s2, hcc, h1, h2, h3⟩ hN5
          subst es
          obtain ⟨sx, tx, ws⟩ := z
          have hzc : Cond.flow sx tx ws ∈ C := (o.flow _ _ _).mpr (by rw [← hd]; simp)
          obtain ⟨hsx, htx, hws⟩ := ok _ hzc
          have R5 := rows_old hr e
          obtain ⟨hrs, ks, hLs⟩ := o.ld sx hsx
          obtain ⟨hrt, kt, hLt⟩ := o.ld tx htx
          obtain ⟨ps, hps, sps⟩ := ext_dic e (i := rt sx) (by rw [s2.len]; exact hrs)
          obtain ⟨pt, hpt, spt⟩ := ext_dic e (i := rt tx) (by rw [s2.len]; exact hrt)
          simp [-List.lookup_eq_none_iff, look_root, insD_obj R5.rw_]
          refine root_ok R5 hLt ?_
          simp [-List.lookup_eq_none_iff, look_root, at_obj hpt, insD_obj R5.rw_]
          refine root_ok R5 hLs ?_
          simp [at_obj hps, listX_dic sps]
          refine for_indM D.str (I := fun dn r σ S6 => ∃ (f3 : List (List String)) (c3 : Bool) (a2 a3 a4 a5 : Option D), σ = [some (.obj pr), some (.lst (fs.map .obj)), a2, a3, a4, a5, some (.bl c3), some (.int sx), some (.int tx), some (.lst (ws.map .str)), some (.obj pt)] ∧ Ext S S6 fs (f3.map dicO) ∧ Sound C n f3 ∧ conCl C rt f3 ∧
            tot f ≤ tot f3 ∧ (c3 = true → tot f < tot f3) ∧ (c3 = false → ch = false ∧ f3 = f2 ∧ ∀ a ∈ dn, a ∉ ws → a ∈ rowAt f2 (rt tx))) (rowAt f2 (rt sx)) (fun _ _ _ _ _ => rfl) ?st6 ?fn6 ⟨f2, ch, _, _, _, _, rfl, e, s2, hcc, h1, h2, fun h => ⟨h, rfl, by simp⟩⟩
          case fn6 =>
            intro σ S6 ⟨f3, c3, a2, a3, a4, a5, es, e, s, hcc, k1, k2, k3⟩
            refine hN5 _ _ ⟨f3, c3, _, _, _, _, _, _, _, _, es, e, s, hcc, k1, k2, fun hc3 z hz => ?_⟩
            obtain ⟨g1, g2, g3⟩ := k3 hc3
            rw [g2]
            rcases List.mem_append.mp hz with hz | hz
            · exact h3 g1 z hz
            · simp at hz; subst hz; exact g3
          case st6 =>
            intro dn a rn σ S6 N6 hdn ⟨f3, c3, a2, a3, a4, a5, es, e, s, hcc, k1, k2, k3⟩ hN6
            subst es
            have hrt' : rt tx < f3.length := by rw [s.len]; exact hrt
            obtain ⟨pt', hpt', spt'⟩ := ext_dic e hrt'
            rw [hpt] at hpt'
            cases hpt'
            have l5 := row_short ok s hrt
            have ha : a ∈ rowAt f2 (rt sx) := by rw [← hdn]; simp
            simp [in_lst, DL.inR]
            have skip : (c3 = false → a ∉ ws → a ∈ rowAt f3 (rt tx)) → N6 [some (.obj pr), some (.lst (fs.map .obj)), a2, a3, a4, some (.str a), some (.bl c3), some (.int sx), some (.int tx), some (.lst (ws.map .str)), some (.obj pt)] S6 := fun hs => by
              refine hN6 _ _ ⟨f3, c3, _, _, _, _, rfl, e, s, hcc, k1, k2, fun hc3 => ?_⟩
              obtain ⟨g1, g2, g3⟩ := k3 hc3
              refine ⟨g1, g2, fun b hb hbw => ?_⟩
              rcases List.mem_append.mp hb with hb | hb
              · exact g3 b hb hbw
              · simp at hb; subst hb; rw [← g2]; exact hs hc3 hbw
            by_cases haw : a ∈ ws
            · simp [haw]
              exact skip fun _ z => absurd haw z
            · simp [haw, in_dic spt', keys_look]
              by_cases hat : a ∈ rowAt f3 (rt tx)
              · simp [hat]
                exact skip fun _ _ => hat
              · simp [hat, st_dic spt', keys_len]
                have hl : Lst C (rt tx) a := (to_root ok o htx).mpr (.fl hzc ((to_root ok o hsx).mp (s2.snd _ _ ha)) haw)
                have ht3 := tot_addR hrt' hat
                exact ⟨by rw [lim']; omega, hN6 _ _ ⟨addR f3 (rt tx) a, true, _, _, _, _, rfl, ext_addR e hrt' hpt, s.addR hrt hl, hcc.addR hrt', by omega, fun _ => by omega, fun z => by cases z⟩⟩
end
end Pg
namespace Pg
open PySem PySem.Spec PyProof.Rows L2 DL
theorem cut_ints (ns : List Int) (a b : Option Int) (h : ns.length ≤ 63) : ∃ ms : List Int, DL.cutD (ns.map D.int) a b = ms.map D.int ∧ ms.length ≤ 63 := by
  refine ⟨DL.cutD ns a b, by unfold DL.cutD; simp [List.map_take, List.map_drop], ?_⟩
  unfold DL.cutD
  simp; omega
theorem state_ok {k : Nat} {S : Store} {x : D} {ns : List Int} (hx : x = .scr (ns.map D.int) ∨ x = .lst (ns.map D.int)) (hl : ns.length ≤ 63) {Q : QE} {E : XQ}
    (h : ∀ S' ps pc, StAt S' ps pc → Q (.obj ps) S') : go (k + 1) .law_state [x] S Q E := by
  rw [go_law_state]
  unfold b_law_state
  obtain ⟨ms, em, lm⟩ := cut_ints ns none (some 63) hl
  have hs : ∀ R : List D → Store → Prop, slD x none (some 63) S (fun y S1 => ofO (asL S1 y) fun l => R l S1) = R (ms.map D.int) S := fun R => by
    rcases hx with rfl | rfl <;> (unfold slD; simp [em])
  have fin : ∀ (cs : List Nat) (S1 : Store) (pc : Addr), cs ≠ [] → cs.length ≤ 63 → S1 pc = some (.lst (cs.map fun c : Nat => D.int c)) → ∀ ps, S1 ps = none → Q (.obj ps) (DL.put S1 ps (.lst [.int 0, .obj pc])) := fun cs S1 pc h1 h2 h3 ps hp => by
    have hne : pc ≠ ps := fun z => by rw [z, hp] at h3; cases h3
    exact h _ _ pc ⟨hne.symm, 0, cs, h1, h2, put_same, by rw [put_ne hne]; exact h3⟩
  simp [startD, dSl, dNoPart, dPart]
  rcases hx with rfl | rfl
  all_goals
    simp [slD, em]
    refine lc_mapM D.int (fun i : Int => D.int (i.natAbs : Int)) (by simp [keepL]) (by simp [lim]; omega) (fun _ _ _ q => q) (fun i _ Q' q => ?_) ?_
    · simp [wipeD]
      rw [show (if i < 0 then -i else i) = (i.natAbs : Int) by split <;> omega]
      exact q
    · intro pc hpc
      simp [lenD_obj put_same]
      split
      · intro pc2 hpc2 ps hps
        exact fin [0] _ pc2 (by simp) (by simp) put_same ps hps
      · rename_i hne
        intro ps hps
        exact fin (ms.map Int.natAbs) _ pc (by simpa using hne) (by simpa using lm) (by rw [put_same, List.map_map]; rfl) ps hps
section
variable {k n : Nat} {C : List Cond} {S S' : Store} {pr pl pn pf : Addr} {as : List Addr} {ls : List Nat} {nms : List (List String)} {fl : List (Nat × Nat × List String)} {rt : Nat → Nat}
/-- the things of the rows, all different -/
abbrev own (pr pl pn pf : Addr) (as : List Addr) : List Addr := pr :: pl :: pn :: pf :: as
theorem RowsAt.keep (R : RowsAt S pr pl pn pf as ls nms fl) (h : ∀ p ∈ own pr pl pn pf as, S' p = S p) : RowsAt S' pr pl pn pf as ls nms fl :=
  ⟨by rw [h _ (by simp)]; exact R.rw_, by rw [h _ (by simp)]; exact R.lk, by rw [h _ (by simp)]; exact R.nm, by rw [h _ (by simp)]; exact R.fl_, R.ln, fun i p hp => by rw [h p (by simp [List.mem_of_getElem? hp])]; exact R.at_ i p hp⟩
theorem RowsAt.some_ (R : RowsAt S pr pl pn pf as ls nms fl) {p : Addr} (h : p ∈ own pr pl pn pf as) : ∃ o, S p = some o := by
  simp at h
  rcases h with rfl | rfl | rfl | rfl | h
  · exact ⟨_, R.rw_⟩
  · exact ⟨_, R.lk⟩
  · exact ⟨_, R.nm⟩
  · exact ⟨_, R.fl_⟩
  · obtain ⟨i, hi, e⟩ := List.mem_iff_getElem.mp h
    have := R.at_ i p (by rw [List.getElem?_eq_getElem hi, e])
    rw [List.getElem?_map, rowAt_get (by rw [← R.ln]; exact hi)] at this
    exact ⟨_, this⟩
theorem StAt.keep {ps pc : Addr} (h : StAt S ps pc) (h1 : S' ps = S ps) (h2 : S' pc = S pc) : StAt S' ps pc := by
  obtain ⟨a, i, cs, b, c, d, e⟩ := h
  exact ⟨a, i, cs, b, c, by rw [h1]; exact d, by rw [h2]; exact e⟩
theorem StAt.some1 {ps pc : Addr} (h : StAt S ps pc) : ∃ o, S ps = some o := by obtain ⟨a, i, cs, b, c, d, e⟩ := h; exact ⟨_, d⟩
theorem StAt.some2 {ps pc : Addr} (h : StAt S ps pc) : ∃ o, S pc = some o := by obtain ⟨a, i, cs, b, c, d, e⟩ := h; exact ⟨_, e⟩
theorem init_ok {Q : QE} {E : XQ} {p : Addr} (hp : S p = some (.ins 0 [])) (h : ∀ S' pl pn pf, RowsAt S' p pl pn pf [] [] [] [] → (own p pl pn pf []).Nodup → (∀ q, q ∉ own p pl pn pf [] → S' q = S q) → (∀ q ∈ [pl, pn, pf], S q = none) → Q .non S') : go (k + 1) .Rows_init [.obj p] S Q E := by
  rw [go_Rows_init]
  unfold b_Rows_init
  simp [startD]
  intro pl hpl
  have n1 : p ≠ pl := fun z => by rw [z, hpl] at hp; cases hp
  simp [insD_obj (show (DL.put S pl (.lst [])) p = _ from (put_ne n1).trans hp), putFD]
  intro pn hpn
  have n2 : pn ≠ p := fun z => by rw [z, put_same] at hpn; cases hpn
  have n3 : pn ≠ pl := fun z => by rw [z, put_ne n1.symm, put_same] at hpn; cases hpn
  rw [insD_obj (show (DL.put (DL.put (DL.put S pl (.lst [])) p (.ins 0 [("links", .obj pl)])) pn (.lst [])) p = _ from (put_ne n2.symm).trans put_same)]
  simp [putFD]
  intro pf hpf
  have n4 : pf ≠ p := fun z => by rw [z, put_same] at hpf; cases hpf
  have n5 : pf ≠ pn := fun z => by rw [z, put_ne n2, put_same] at hpf; cases hpf
  have n6 : pf ≠ pl := fun z => by rw [z, put_ne n1.symm, put_ne n3.symm, put_ne n1.symm, put_same] at hpf; cases hpf
  rw [insD_obj (show (DL.put (DL.put _ p (.ins 0 [("links", .obj pl), ("names", .obj pn)])) pf (.lst [])) p = _ from (put_ne n4.symm).trans put_same)]
  simp [putFD]
  refine h _ pl pn pf ⟨put_same, ?_, ?_, ?_, rfl, by simp⟩ (by simp [n1, n2.symm, n4.symm, n3.symm, n6.symm, n5.symm]) (fun q hq => ?_) (fun q hq => ?_)
  · rw [put_ne n1.symm, put_ne n6.symm, put_ne n1.symm, put_ne n3.symm, put_ne n1.symm, put_same]; rfl
  · rw [put_ne n2, put_ne n5.symm, put_ne n2, put_same]; rfl
  · rw [put_ne n4, put_same]; rfl
  · simp at hq
    rw [put_ne hq.1, put_ne hq.2.2.2, put_ne hq.1, put_ne hq.2.2.1, put_ne hq.1, put_ne hq.2.1]
  · simp at hq
    rcases hq with rfl | rfl | rfl
    · exact hpl
    · rw [put_ne n2, put_ne n3] at hpn; exact hpn
    · rw [put_ne n4, put_ne n5, put_ne n4, put_ne n6] at hpf; exact hpf
end
end Pg
namespace Pg
open PySem PySem.Spec PyProof.Rows L2 DL
section
variable {k n : Nat} {C : List Cond} {S S' : Store} {pr pl pn pf : Addr} {as : List Addr} {ls : List Nat} {nms : List (List String)} {fl : List (Nat × Nat × List String)} {rt : Nat → Nat}
theorem rowAt_app {f : List (List String)} {i : Nat} : rowAt (f ++ [[]]) i = rowAt f i := by
  unfold rowAt
  rw [List.getD_eq_getElem?_getD, List.getD_eq_getElem?_getD]
  by_cases h : i < f.length
  · rw [List.getElem?_append_left h]
  · rw [List.getElem?_append_right (by omega), List.getElem?_eq_none (l := f) (by omega)]
    cases e : i - f.length with
    | zero => rfl
    | succ j => rfl
theorem Leads.app {k x r y : Nat} (h : Leads ls k x r) : Leads (ls ++ [y]) k x r := by
  have lt : ∀ {a b : Nat}, ls[a]? = some b → a < ls.length := fun {a b} e => by
    apply Classical.byContradiction
    intro z; rw [List.getElem?_eq_none (by omega)] at e; cases e
  induction h with
  | at_ e => exact .at_ (by rw [List.getElem?_append_left (lt e)]; exact e)
  | up e ne _ ih => exact .up (by rw [List.getElem?_append_left (lt e)]; exact e) ne ih
theorem ok_fresh (ok : ∀ c ∈ C, CondOk n c) (o : RowsOk C n ls nms fl rt) : RowsOk C (n + 1) (ls ++ [ls.length]) (nms ++ [[]]) fl (fun x => if x < n then rt x else x) := by
  refine ⟨by simp [o.ll], by simp [o.nl], fun x hx => ?_, fun x y hx hy e C' hC a => ?_, fun x y h => ?_, fun x a => by rw [rowAt_app]; exact o.con x a, o.flow⟩
  · by_cases h : x < n
    · obtain ⟨h1, kk, h2⟩ := o.ld x h
      simp only [if_pos h]
      exact ⟨by omega, kk, h2.app⟩
    · simp only [if_neg h]
      have : x = ls.length := by rw [o.ll]; omega
      refine ⟨hx, 0, .at_ ?_⟩
      rw [this, List.getElem?_append_right (by omega)]
      simp
  · by_cases h : x < n
    · by_cases h' : y < n
      · simp only [if_pos h, if_pos h'] at e
        exact o.eqv x y h h' e C' hC a
      · simp only [if_pos h, if_neg h'] at e
        have := (o.ld x h).1
        omega
    · by_cases h' : y < n
      · simp only [if_neg h, if_pos h'] at e
        have := (o.ld y h').1
        omega
      · simp only [if_neg h, if_neg h'] at e
        subst e; rfl
  · have := ok _ h
    simp only [if_pos this.1, if_pos this.2]
    exact o.same x y h
theorem ok_con (o : RowsOk C n ls nms fl rt) {x : Nat} {a : String} (hx : x < n) : RowsOk (C ++ [.con x a]) n ls (nms.set x (rowAt nms x ++ [a])) fl rt := by
  refine ⟨o.ll, by rw [List.length_set]; exact o.nl, o.ld, fun x y hx hy e C' hC a => o.eqv x y hx hy e C' (fun c hc => hC c (by simp [hc])) a, fun x y h => o.same x y (by simpa using h), fun y b => ?_, fun x y ws => ?_⟩
  · rw [rowAt_set (by rw [o.nl]; exact hx)]
    simp
    rw [o.con y b]
    split
    · rename_i e; subst e; simp
    · rename_i e
      exact ⟨fun z => z.elim id fun ⟨z, _⟩ => absurd z.symm e, .inl⟩
  · rw [← o.flow]; simp
theorem ok_flow (o : RowsOk C n ls nms fl rt) {x y : Nat} {ws : List String} : RowsOk (C ++ [.flow x y ws]) n ls nms (fl ++ [(x, y, ws)]) rt := by
  refine ⟨o.ll, o.nl, o.ld, fun x y hx hy e C' hC a => o.eqv x y hx hy e C' (fun c hc => hC c (by simp [hc])) a, fun x y h => o.same x y (by simpa using h), fun y b => by rw [← o.con]; simp, fun x y ws => ?_⟩
  simp [o.flow]
theorem ok_same (o : RowsOk C n ls nms fl rt) {x y : Nat} (hx : x < n) (hy : y < n) : RowsOk (C ++ [.same x y]) n (ls.set (rt x) (rt y)) nms fl (fun z => if rt z = rt x then rt y else rt z) := by
  refine ⟨by rw [List.length_set]; exact o.ll, o.nl, fun z hz => ?_, fun u v hu hv e C' hC a => ?_, fun u v h => ?_, fun y b => by rw [← o.con]; simp, fun x y ws => by rw [← o.flow]; simp⟩
  · obtain ⟨h1, k1, e1⟩ := o.ld x hx
    obtain ⟨h2, k2, e2⟩ := o.ld y hy
    obtain ⟨h3, k3, e3⟩ := o.ld z hz
    refine ⟨?_, e3.link e1.root e2.root⟩
    show (if rt z = rt x then rt y else rt z) < n
    split <;> assumption
  · have hC2 : ∀ c ∈ C, c ∈ C' := fun c hc => hC c (by simp [hc])
    have hxy : Lst C' x a ↔ Lst C' y a := ⟨.s1 (hC _ (by simp)), .s2 (hC _ (by simp))⟩
    have key : ∀ u v, u < n → v < n → rt u = rt v → (Lst C' u a ↔ Lst C' v a) := fun u v hu hv e => o.eqv u v hu hv e C' hC2 a
    by_cases h1 : rt u = rt x
    · by_cases h2 : rt v = rt x
      · exact key u v hu hv (h1.trans h2.symm)
      · rw [if_pos h1, if_neg h2] at e
        exact (key u x hu hx h1).trans (hxy.trans (key y v hy hv e))
    · by_cases h2 : rt v = rt x
      · rw [if_neg h1, if_pos h2] at e
        exact (key u y hu hy e).trans (hxy.symm.trans (key x v hx hv h2.symm))
      · rw [if_neg h1, if_neg h2] at e
        exact key u v hu hv e
  · simp at h
    rcases h with h | ⟨rfl, rfl⟩
    · rw [o.same u v h]
    · rw [if_pos rfl]
      split
      · rfl
      · rfl
/-- the rows after the conditions C, n of them -/
structure RowsC (C : List Cond) (n : Nat) (S : Store) (pr pl pn pf : Addr) (as : List Addr) : Prop where
  ex : ∃ ls nms fl rt, RowsAt S pr pl pn pf as ls nms fl ∧ RowsOk C n ls nms fl rt ∧ (∀ i, (rowAt nms i).length ≤ C.length) ∧ fl.length ≤ C.length
  nd : (own pr pl pn pf as).Nodup
theorem RowsC.keep (R : RowsC C n S pr pl pn pf as) (h : ∀ p ∈ own pr pl pn pf as, S' p = S p) : RowsC C n S' pr pl pn pf as := by
  obtain ⟨⟨ls, nms, fl, rt, h1, h2, h3, h4⟩, nd⟩ := R
  exact ⟨⟨ls, nms, fl, rt, h1.keep h, h2, h3, h4⟩, nd⟩
theorem RowsC.some_ (R : RowsC C n S pr pl pn pf as) {p : Addr} (h : p ∈ own pr pl pn pf as) : ∃ o, S p = some o := by
  obtain ⟨⟨ls, nms, fl, rt, h1, h2, h3, h4⟩, nd⟩ := R
  exact h1.some_ h
theorem least_ok {Q : QE} {E : XQ} (ok : ∀ c ∈ C, CondOk n c) (hn : n ≤ 10) (R : RowsC C n S pr pl pn pf as) (h : ∀ p, S p = none → Q (.obj p) (DL.put S p (.lst (rowsD n C)))) : go (k + 2) .Rows_least [.obj pr] S Q E := by
  obtain ⟨⟨ls, nms, fl, rt, h1, h2, h3, h4⟩, nd⟩ := R
  exact rleast_ok ok hn h1 h2 h
theorem fresh_ok {Q : QE} {E : XQ} (ok : ∀ c ∈ C, CondOk n c) (hn : n ≤ 1000) (R : RowsC C n S pr pl pn pf as) (h : ∀ S' a, S a = none → RowsC C (n + 1) S' pr pl pn pf (as ++ [a]) → (∀ q, q ∉ own pr pl pn pf (as ++ [a]) → S' q = S q) → Q (.int n) S') : go (k + 1) .Rows_fresh [.obj pr] S Q E := by
  obtain ⟨⟨ls, nms, fl, rt, h1, h2, h3, h4⟩, nd⟩ := R
  rw [go_Rows_fresh]
  unfold b_Rows_fresh
  have nd' := nd
  simp at nd'
  obtain ⟨⟨a1, a2, a3, a4⟩, ⟨b1, b2, b3⟩, ⟨c1, c2⟩, d1, d2⟩ := nd'
  have b1' := Ne.symm b1
  have b2' := Ne.symm b2
  have c1' := Ne.symm c1
  have lim' : lim = 16777216 := rfl
  have las : as.length = n := h1.ln.trans h2.nl
  simp [startD, insD_obj h1.rw_, List.lookup, tyD_lst h1.lk, lenD_obj h1.lk, app_obj h1.lk, h2.ll]
  refine ⟨by omega, ?_⟩
  have e1 : (DL.put S pl (.lst ((ls.map fun i : Nat => D.int i) ++ [D.int n]))) pr = _ := (put_ne a1).trans h1.rw_
  have e2 : (DL.put S pl (.lst ((ls.map fun i : Nat => D.int i) ++ [D.int n]))) pn = _ := (put_ne b1').trans h1.nm
  simp [insD_obj e1, List.lookup, tyD_lst e2]
  intro a ha
  have na : a ≠ pl := fun z => by rw [z, put_same] at ha; cases ha
  rw [put_ne na] at ha
  have no : a ∉ own pr pl pn pf as := fun z => by obtain ⟨_, e⟩ := h1.some_ z; rw [ha] at e; cases e
  have no' := no
  simp at no'
  obtain ⟨n1, n2, n3, n4, n5⟩ := no'
  have e3 : (DL.put (DL.put S pl (.lst ((ls.map fun i : Nat => D.int i) ++ [D.int n]))) a (.lst [])) pn = _ := (put_ne (Ne.symm n3)).trans e2
  rw [app_obj e3]
  refine ⟨by simp [lim']; omega, ?_⟩
  have e4 : ∀ o, (DL.put (DL.put (DL.put S pl (.lst ((ls.map fun i : Nat => D.int i) ++ [D.int n]))) a (.lst [])) pn o) pr = _ := fun o => (put_ne a2).trans ((put_ne (Ne.symm n1)).trans e1)
  have e5 : ∀ o, (DL.put (DL.put (DL.put S pl (.lst ((ls.map fun i : Nat => D.int i) ++ [D.int n]))) a (.lst [])) pn o) pl = _ := fun o => (put_ne b1).trans ((put_ne (Ne.symm n2)).trans put_same)
  simp [insD_obj (e4 _), List.lookup, lenD_obj (e5 _), h2.ll]
  have ndn : (own pr pl pn pf (as ++ [a])).Nodup := by
    have : own pr pl pn pf (as ++ [a]) = own pr pl pn pf as ++ [a] := by simp
    rw [this, List.nodup_append]
    exact ⟨nd, by simp, fun x hx y hy z => by simp at hy; subst hy; subst z; exact no hx⟩
  refine h _ a ha ⟨⟨ls ++ [ls.length], nms ++ [[]], fl, _, ⟨e4 _, ?_, ?_, ?_, ?_, ?_⟩, ok_fresh ok h2, fun i => by rw [rowAt_app]; exact h3 i, h4⟩, ndn⟩ fun q hq => ?_
  · rw [e5, List.map_append]; simp [h2.ll]
  · rw [put_same, List.map_append]; rfl
  · rw [put_ne c1', put_ne (Ne.symm n4), put_ne b2']; exact h1.fl_
  · simp [h1.ln]
  · intro i p hp
    by_cases hi : i < as.length
    · rw [List.getElem?_append_left hi] at hp
      have hm := List.mem_of_getElem? hp
      have q1 : p ≠ pn := fun z => c2 (by rw [← z]; exact hm)
      have q2 : p ≠ a := fun z => n5 (by rw [← z]; exact hm)
      have q3 : p ≠ pl := fun z => b3 (by rw [← z]; exact hm)
      rw [put_ne q1, put_ne q2, put_ne q3, h1.at_ i p hp, List.map_append, List.getElem?_append_left (by rw [List.length_map, ← h1.ln]; exact hi)]
    · rw [List.getElem?_append_right (by omega)] at hp
      have hi2 : i - as.length = 0 := by
        apply Classical.byContradiction
        intro z; rw [List.getElem?_eq_none (by simp; omega)] at hp; cases hp
      rw [hi2] at hp
      cases hp
      rw [put_ne n3, put_same, List.map_append, List.getElem?_append_right (by rw [List.length_map, ← h1.ln]; omega), List.length_map, ← h1.ln, hi2]; rfl
  · simp at hq
    rw [put_ne hq.2.2.1, put_ne hq.2.2.2.2.2, put_ne hq.2.1]
end
end Pg
namespace Pg
open PySem PySem.Spec PyProof.Rows L2 DL
section
variable {k n : Nat} {C : List Cond} {S S' : Store} {pr pl pn pf : Addr} {as : List Addr} {ls : List Nat} {nms : List (List String)} {fl : List (Nat × Nat × List String)} {rt : Nat → Nat}
theorem inU_len {a : String} {l : List String} : True := trivial
theorem add_ok {Q : QE} {E : XQ} {c : Cond} (hc : CondOk n c) (hl : C.length ≤ 1000) (hn : n ≤ 1000) (R : RowsC C n S pr pl pn pf as) (h : ∀ S', RowsC (C ++ [c]) n S' pr pl pn pf as → (∀ q, q ∉ own pr pl pn pf as → S' q = S q) → Q .non S') : go (k + 3) .law_add [.obj pr, condD c] S Q E := by
  obtain ⟨⟨ls, nms, fl, rt, h1, h2, h3, h4⟩, nd⟩ := R
  have nd' := nd
  simp at nd'
  obtain ⟨⟨a1, a2, a3, a4⟩, ⟨b1, b2, b3⟩, ⟨c1, c2⟩, d1, d2⟩ := nd'
  have lim' : lim = 16777216 := rfl
  rw [go_law_add]
  unfold b_law_add
  have lk : ∀ (m : String) (x y z : D), m ≠ "links" → m ≠ "names" → m ≠ "flows" → List.lookup m [("links", x), ("names", y), ("flows", z)] = none := fun m x y z h1 h2 h3 => by simp [List.lookup, beq_eq_false_iff_ne.mpr h1, beq_eq_false_iff_ne.mpr h2, beq_eq_false_iff_ne.mpr h3]
  have lk1 := fun x y z : D => lk "contain" x y z (by decide) (by decide) (by decide)
  have lk2 := fun x y z : D => lk "same" x y z (by decide) (by decide) (by decide)
  have lk3 := fun x y z : D => lk "flow" x y z (by decide) (by decide) (by decide)
  cases c with
  | con x a =>
    obtain ⟨hx, ha⟩ := hc
    simp [-List.lookup_eq_none_iff, startD, condD, insD_obj h1.rw_, lk1]
    rw [go_Rows_contain]
    unfold b_Rows_contain
    have hx' : x < nms.length := by rw [h2.nl]; exact hx
    have hxa : x < as.length := by rw [h1.ln]; exact hx'
    have hp : as[x]? = some as[x] := List.getElem?_eq_getElem hxa
    have sp := h1.at_ x _ hp
    rw [List.getElem?_map, rowAt_get hx'] at sp
    have sp' : S as[x] = some (.lst ((rowAt nms x).map D.str)) := sp
    have l3 := h3 x
    have hm : as[x] ∈ as := List.getElem_mem hxa
    have q1 : pr ≠ as[x] := fun z => a4 (by rw [z]; exact hm)
    have q2 : pl ≠ as[x] := fun z => b3 (by rw [z]; exact hm)
    have q3 : pn ≠ as[x] := fun z => c2 (by rw [z]; exact hm)
    have q4 : pf ≠ as[x] := fun z => d1 (by rw [z]; exact hm)
    simp [startD, insD_obj h1.rw_, List.lookup, asL_obj h1.nm, at_obj hp, tyD_lst sp', app_obj sp']
    refine ⟨by rw [lim']; omega, ?_⟩
    refine h _ ⟨⟨ls, _, fl, rt, ⟨(put_ne q1).trans h1.rw_, (put_ne q2).trans h1.lk, (put_ne q3).trans h1.nm, (put_ne q4).trans h1.fl_, by rw [List.length_set]; exact h1.ln, fun i p hp2 => ?_⟩, ok_con h2 hx, fun i => ?_, by simp; omega⟩, nd⟩ fun q hq => put_ne fun z => hq (by rw [z]; simp [hm])
    · rw [List.map_set]
      by_cases hi : x = i
      · subst hi
        rw [hp] at hp2; cases hp2
        rw [put_same, List.getElem?_set_self (by simpa using hx')]
        simp
      · rw [List.getElem?_set_ne hi, ← h1.at_ i p hp2]
        refine put_ne fun z => ?_
        have hi2 : i < as.length := by
          apply Classical.byContradiction
          intro w; rw [List.getElem?_eq_none (by omega)] at hp2; cases hp2
        rw [List.getElem?_eq_getElem hi2] at hp2
        have ee : as[i] = as[x] := (Option.some.inj hp2).trans z
        have pw := List.pairwise_iff_getElem.mp d2
        rcases Nat.lt_or_gt_of_ne hi with w | w
        · exact pw x i hxa hi2 w ee.symm
        · exact pw i x hi2 hxa w ee
    · rw [rowAt_set hx']
      split
      · rename_i e; subst e; simp; exact h3 x
      · have := h3 i; simp; omega
  | same x y =>
    obtain ⟨hx, hy⟩ := hc
    simp [-List.lookup_eq_none_iff, startD, condD, insD_obj h1.rw_, lk2]
    rw [go_Rows_same]
    unfold b_Rows_same
    obtain ⟨g1, k1, e1⟩ := h2.ld x hx
    obtain ⟨g2, k2, e2⟩ := h2.ld y hy
    have ix : ixN ls.length ((rt x : Nat) : Int) = some (rt x) := ix_nat (by rw [h2.ll]; exact g1)
    simp [-List.lookup_eq_none_iff, startD, insD_obj h1.rw_, look_root]
    refine root_ok h1 e2 ?_
    simp [-List.lookup_eq_none_iff, insD_obj h1.rw_, look_root, show ∀ x y z : D, List.lookup "links" [("links", x), ("names", y), ("flows", z)] = some x from fun _ _ _ => rfl]
    refine root_ok h1 e1 ?_
    simp [st_lst h1.lk, ix]
    refine h _ ⟨⟨ls.set (rt x) (rt y), nms, fl, _, ⟨(put_ne a1).trans h1.rw_, by rw [put_same, List.map_set], (put_ne (Ne.symm b1)).trans h1.nm, (put_ne (Ne.symm b2)).trans h1.fl_, h1.ln, fun i p hp => ?_⟩, ok_same h2 hx hy, fun i => by have := h3 i; simp; omega, by simp; omega⟩, nd⟩ fun q hq => put_ne fun z => hq (by rw [z]; simp)
    rw [put_ne fun z => b3 (by rw [← z]; exact List.mem_of_getElem? hp)]
    exact h1.at_ i p hp
  | flow x y ws =>
    simp [-List.lookup_eq_none_iff, startD, condD, insD_obj h1.rw_, lk3]
    rw [go_Rows_flow]
    unfold b_Rows_flow
    simp [startD, insD_obj h1.rw_, List.lookup, tyD_lst h1.fl_, app_obj h1.fl_]
    refine ⟨by rw [lim']; omega, ?_⟩
    refine h _ ⟨⟨ls, nms, fl ++ [(x, y, ws)], rt, ⟨(put_ne a3).trans h1.rw_, (put_ne b2).trans h1.lk, (put_ne c1).trans h1.nm, by rw [put_same, List.map_append]; rfl, h1.ln, fun i p hp => ?_⟩, ok_flow h2, fun i => by have := h3 i; simp; omega, by simp; omega⟩, nd⟩ fun q hq => put_ne fun z => hq (by rw [z]; simp)
    rw [put_ne fun z => d1 (by rw [← z]; exact List.mem_of_getElem? hp)]
    exact h1.at_ i p hp
theorem cond_ok {Q : QE} {E : XQ} {ps pc : Addr} (hn : 1 ≤ n) (hn2 : n ≤ 9) (hs : StAt S ps pc) (h : ∀ c S', CondOk n c → StAt S' ps pc → (∀ p, p ≠ ps → p ≠ pc → S' p = S p) → Q (condD c) S') : go (k + 2) .law_condition [.obj ps, .int n] S Q E := by
  rw [go_law_condition]
  unfold b_law_condition
  have fr : ∀ {S1 S2 S3 : Store}, (∀ p, p ≠ ps → p ≠ pc → S2 p = S1 p) → (∀ p, p ≠ ps → p ≠ pc → S3 p = S2 p) → ∀ p, p ≠ ps → p ≠ pc → S3 p = S1 p := fun h1 h2 p a b => (h2 p a b).trans (h1 p a b)
  simp [startD]
  refine take_ok (m := 6) hs (by omega) (by omega) fun r S1 hr s1 f1 => ?_
  simp
  refine take_ok s1 hn (by omega) fun x S2 hx s2 f2 => ?_
  refine take_ok s2 hn (by omega) fun y S3 hy s3 f3 => ?_
  split
  · refine take_ok (m := 5) s3 (by omega) (by omega) fun a S4 ha s4 f4 => ?_
    have hu : ∃ u : String, ([D.str "a", .str "b", .str "c", .str "dd", .str "e"] : List D)[a]? = some (.str u) ∧ u ∈ univ5 := by
      rcases a with _ | _ | _ | _ | _ | a
      · exact ⟨"a", rfl, by decide⟩
      · exact ⟨"b", rfl, by decide⟩
      · exact ⟨"c", rfl, by decide⟩
      · exact ⟨"dd", rfl, by decide⟩
      · exact ⟨"e", rfl, by decide⟩
      · omega
    obtain ⟨u, e1, hu⟩ := hu
    simp [at_nat e1]
    exact h (.con x u) S4 ⟨hx, hu⟩ s4 (fr (fr (fr f1 f2) f3) f4)
  · split
    · exact h (.same x y) S3 ⟨hx, hy⟩ s3 (fr (fr f1 f2) f3)
    · refine lc_ind (I := fun r acc σ S4 => ∃ (ws : List String) (a2 a3 a4 a5 a6 : Option D), σ = [some (.obj ps), some (.int n), a2, a3, a4, a5, a6] ∧ acc = ws.map .str ∧ ws.length + r.length ≤ 5 ∧ (∀ y ∈ r, ∃ s, y = D.str s) ∧ StAt S4 ps pc ∧ (∀ p, p ≠ ps → p ≠ pc → S4 p = S p))
        (fun _ _ _ _ _ => rfl) ?st ?fn ⟨[], _, _, _, _, _, rfl, rfl, by simp, by simp, s3, fr (fr f1 f2) f3⟩
      case fn =>
        rintro acc σ S4 ⟨ws, a2, a3, a4, a5, a6, rfl, rfl, hl, _, s4, f4⟩
        exact h (.flow x y ws) S4 ⟨hx, hy, by simpa using hl⟩ s4 f4
      case st =>
        rintro z r acc σ S4 N ⟨ws, a2, a3, a4, a5, a6, rfl, rfl, hl, hs', s4, f4⟩ hN
        obtain ⟨u, rfl⟩ := hs' z (by simp)
        simp
        refine take_ok (m := 4) s4 (by omega) (by omega) fun b S5 hb s5 f5 => ?_
        simp at hl
        have hl2 : ∀ y ∈ r, ∃ s, y = D.str s := fun y hy => hs' y (by simp [hy])
        simp
        split
        · refine ⟨by simp [lim]; omega, hN _ _ _ ⟨ws ++ [u], _, _, _, _, _, rfl, by simp, by simp; omega, hl2, s5, fr f4 f5⟩⟩
        · exact hN _ _ _ ⟨ws, _, _, _, _, _, rfl, rfl, by omega, hl2, s5, fr f4 f5⟩
end
end Pg
namespace Pg
open PySem PySem.Spec PyProof.Rows L2 DL
section
variable {k n : Nat} {C : List Cond} {S S' : Store} {ps pc pr pl pn pf pcd : Addr} {as : List Addr}
structure G (C : List Cond) (n : Nat) (S : Store) (ps pc pr pl pn pf : Addr) (as : List Addr) : Prop where
  st : StAt S ps pc
  rw_ : RowsC C n S pr pl pn pf as
  n1 : ps ∉ own pr pl pn pf as
  n2 : pc ∉ own pr pl pn pf as
theorem G.take (g : G C n S ps pc pr pl pn pf as) (h : StAt S' ps pc) (f : ∀ p, p ≠ ps → p ≠ pc → S' p = S p) : G C n S' ps pc pr pl pn pf as :=
  ⟨h, g.rw_.keep fun p hp => f p (fun z => g.n1 (by rw [← z]; exact hp)) (fun z => g.n2 (by rw [← z]; exact hp)), g.n1, g.n2⟩
theorem G.new (g : G C n S ps pc pr pl pn pf as) {p : Addr} {o : Ob} (hp : S p = none) : G C n (DL.put S p o) ps pc pr pl pn pf as := by
  have ne : ∀ q, (∃ o, S q = some o) → q ≠ p := fun q ⟨o, e⟩ z => by rw [z, hp] at e; cases e
  exact ⟨g.st.keep (put_ne (ne _ g.st.some1)) (put_ne (ne _ g.st.some2)), g.rw_.keep fun q hq => put_ne (ne _ (g.rw_.some_ hq)), g.n1, g.n2⟩
theorem G.rows {C' : List Cond} {n' : Nat} {as' : List Addr} (g : G C n S ps pc pr pl pn pf as) (R : RowsC C' n' S' pr pl pn pf as') (f : ∀ q, q ∉ own pr pl pn pf as' → S' q = S q) (h1 : ps ∉ own pr pl pn pf as') (h2 : pc ∉ own pr pl pn pf as') : G C' n' S' ps pc pr pl pn pf as' :=
  ⟨g.st.keep (f _ h1) (f _ h2), R, h1, h2⟩
theorem G.out (g : G C n S ps pc pr pl pn pf as) {p : Addr} (hp : S p = none) : p ≠ ps ∧ p ≠ pc ∧ p ∉ own pr pl pn pf as := by
  have ne : ∀ q, (∃ o, S q = some o) → p ≠ q := fun q ⟨o, e⟩ z => by rw [← z, hp] at e; cases e
  exact ⟨ne _ g.st.some1, ne _ g.st.some2, fun z => ne _ (g.rw_.some_ z) rfl⟩
theorem rowsD_ok : OkN 2 (.lst (rowsD n C)) := OkN.lst (n := 1) fun x hx => by
  obtain ⟨i, _, rfl⟩ := List.mem_map.mp hx
  exact OkN.tup (n := 0) fun y hy => by
    obtain ⟨s, _, rfl⟩ := List.mem_map.mp hy
    exact OkN.str
theorem rowsD_refl : eqD (.lst (rowsD n C)) (.lst (rowsD n C)) = true := eqD_refl _ rowsD_ok.1
theorem ok_up (ok : ∀ c ∈ C, CondOk n c) : ∀ c ∈ C, CondOk (n + 1) c := fun c hc => by
  have := ok c hc
  cases c with
  | con x a => exact ⟨Nat.lt_succ_of_lt this.1, this.2⟩
  | same x y => exact ⟨Nat.lt_succ_of_lt this.1, Nat.lt_succ_of_lt this.2⟩
  | flow x y ws => exact ⟨Nat.lt_succ_of_lt this.1, Nat.lt_succ_of_lt this.2.1, this.2.2⟩
theorem rowsD_succ (ok : ∀ c ∈ C, CondOk n c) : rowsD (n + 1) C = rowsD n C ++ [.tup []] := by
  have e : LS C n = [] := by
    have h : srt [] = LS C n := LS_eq ok (by simp) fun a => ⟨fun z => (by cases z), fun z => absurd (z.inU ok).1 (Nat.lt_irrefl n)⟩
    rw [← h]; simp [srt]
  unfold rowsD
  rw [List.range_succ, List.map_append, List.map_cons, e]; rfl
theorem range_ok (n : Nat) : OkN 1 (.lst ((List.range n).map fun i : Nat => D.int (i : Int))) := OkN.lst (n := 0) fun x hx => by
  obtain ⟨i, _, rfl⟩ := List.mem_map.mp hx
  exact OkN.int
theorem rowsD_nil : rowsD n [] = (List.range n).map fun _ => D.tup [] := by
  unfold rowsD
  refine List.map_congr_left fun i _ => ?_
  have h : srt [] = LS [] i := LS_eq (n := 0) (by simp) (by simp) fun a => ⟨fun z => (by cases z), fun z => absurd (z.inU (n := 0) (by simp)).1 (Nat.not_lt_zero _)⟩
  rw [← h]; simp [srt]
theorem lstRg_eq {σ : DEnv} {Q : QE} {i : Nat} {m : Nat} (h : σ[i]? = some (some (.int m))) (hm : m ≤ 1000) (hQ : Q (.lst ((List.range m).map fun i : Nat => D.int (i : Int))) S) : dLstRg (rg1 (dVar i)) σ S Q := by
  unfold dLstRg rg1
  simp only [r_var, h]
  refine ⟨⟨by omega, by omega, by omega, by omega, by simp [lim]; omega⟩, ?_⟩
  rw [show ((m : Int) - 0).toNat = m by omega, range_map]
  exact hQ
end
theorem meth_rows {C : List Cond} {n : Nat} {S : Store} {pr pl pn pf : Addr} {as : List Addr} (R : RowsC C n S pr pl pn pf as) : ∃ fs, insD S 0 (.obj pr) = some (pr, fs) ∧ List.lookup "least" fs = none ∧ List.lookup "fresh" fs = none := by
  obtain ⟨⟨ls, nms, fl, rt, h1, h2, h3, h4⟩, nd⟩ := R
  exact ⟨_, insD_obj h1.rw_, rfl, rfl⟩
theorem isi_list {S : Store} {p : Addr} {l : List D} {Q : QE} (h : S p = some (.lst l)) : bIsi [.obj p, .ty "list"] S Q = Q (.bl true) S := by
  unfold bIsi tyOfD
  simp only [h, r_ofO]
  show ofO (kitB "list" "list") _ = _
  rw [show kitB "list" "list" = some true by decide]; exact propext Iff.rfl
theorem isi_tup {S : Store} {l : List D} {Q : QE} : bIsi [.tup l, .ty "tuple"] S Q = Q (.bl true) S := by
  unfold bIsi tyOfD
  simp only [r_ofO]
  rw [show kitB "tuple" "tuple" = some true by decide]; exact propext Iff.rfl
theorem bls_true {α : Type} : ∀ l : List α, blsOf (l.map fun _ => D.bl true) = some (l.map fun _ => true)
  | [] => rfl
  | a :: l => by show (blsOf (l.map fun _ => D.bl true)).map (true :: ·) = _; rw [bls_true l]; rfl
theorem all_bls {α : Type} {S : Store} {l : List α} {Q : QE} : bAll [.lst (l.map fun _ => D.bl true)] S Q = Q (.bl true) S := by
  unfold bAll
  simp only [r_asL1, r_ofO, bls_true]
  rw [show (l.map fun _ => true).all id = true by simp]
theorem law_ok (k : Nat) : LawD (go (k + 5) .law) := by
  intro x ns hx hl
  rw [go_law]
  unfold b_law
  simp [-List.lookup_eq_none_iff, startD]
  refine state_ok hx hl fun S1 ps pc s1 => ?_
  intro pr hpr
  show go (k + 3) .Rows_init _ _ _ _
  refine init_ok put_same fun S2 pl pn pf R2 nd2 fr2 nw2 => ⟨rfl, ?_⟩
  have s1' : StAt (DL.put S1 pr (.ins 0 [])) ps pc := by
    obtain ⟨o1, e1⟩ := s1.some1
    obtain ⟨o2, e2⟩ := s1.some2
    exact s1.keep (put_ne fun z => by rw [z, hpr] at e1; cases e1) (put_ne fun z => by rw [z, hpr] at e2; cases e2)
  have nps : ∀ q, (∃ o, S1 q = some o) → q ∉ own pr pl pn pf [] := fun q ⟨o, e⟩ hq => by
    have hqr : q ≠ pr := fun z => by rw [z, hpr] at e; cases e
    simp at hq
    have h3 : q ∈ [pl, pn, pf] := by simp; exact hq.resolve_left hqr
    have := nw2 q h3
    rw [put_ne hqr, e] at this
    cases this
  have g2 : G [] 0 S2 ps pc pr pl pn pf [] := by
    refine ⟨s1'.keep (fr2 _ (nps _ s1.some1)) (fr2 _ (nps _ s1.some2)), ⟨⟨[], [], [], id, R2, ?_, by simp [rowAt], by simp⟩, nd2⟩, nps _ s1.some1, nps _ s1.some2⟩
    exact ⟨rfl, rfl, fun x h => absurd h (Nat.not_lt_zero _), fun x y h => absurd h (Nat.not_lt_zero _), fun x y h => (by cases h), fun x a => (by simp [rowAt]), fun x y ws => (by simp)⟩
  refine take_ok (m := 9) g2.st (by omega) (by omega) fun r S3 hr s3 f3 => ?_
  have g3 := g2.take s3 f3
  obtain ⟨n, en⟩ : ∃ n : Nat, n = 1 + r := ⟨_, rfl⟩
  have en' : (1 : Int) + (r : Int) = (n : Int) := by omega
  have hn1 : 1 ≤ n := by omega
  have hn9 : n ≤ 9 := by omega
  simp [-List.lookup_eq_none_iff, en']
  refine ⟨by omega, ?_⟩
  refine lc_ind (I := fun r acc σ S => ∃ d as, acc = (List.range d).map (fun i : Nat => D.int (i : Int)) ∧ d + r.length = n ∧ G [] d S ps pc pr pl pn pf as ∧ σ = [some x, some (D.obj ps), some (D.obj pr), some (D.int ↑n), none, none, none, none, none, none])
    (fun _ _ _ _ _ => trivial) ?st ?fn ⟨0, [], rfl, by rw [range_len]; omega, g3, by simp [wipeD]⟩
  case st =>
    rintro z r acc σ S N ⟨d, as, rfl, hd, g, rfl⟩ hN
    obtain ⟨fs, e1, _, e2⟩ := meth_rows g.rw_
    simp [-List.lookup_eq_none_iff, e1, e2]
    simp at hd
    refine fresh_ok (n := d) (C := []) (by simp) (by omega) g.rw_ fun S' a ha R fr => ⟨by simp [lim]; omega, hN _ _ _ ⟨d + 1, as ++ [a], by rw [List.range_succ, List.map_append]; rfl, by omega, ?_, rfl⟩⟩
    obtain ⟨q1, q2, q3⟩ := g.out ha
    refine g.rows R fr ?_ ?_
    · have := g.n1; simp at this ⊢; exact ⟨this.1, this.2.1, this.2.2.1, this.2.2.2.1, this.2.2.2.2, Ne.symm q1⟩
    · have := g.n2; simp at this ⊢; exact ⟨this.1, this.2.1, this.2.2.1, this.2.2.2.1, this.2.2.2.2, Ne.symm q2⟩
  case fn =>
    rintro acc σ S4 ⟨d, as, rfl, hd, g4, rfl⟩
    simp at hd
    subst hd
    refine lstRg_eq (m := d) rfl (by omega) ?_
    obtain ⟨fs, e1, e2, _⟩ := meth_rows g4.rw_
    simp only [r_see4, (range_ok d).ok, eqD_refl _ (range_ok d).1, true_and, e1, r_ofO, e2]
    refine least_ok (by simp) (by omega) g4.rw_ fun p hp => ?_
    simp only [put_at, rid_put hp]
    refine ⟨by omega, ?_⟩
    rw [range_map]
    refine lc_mapM _ (fun _ => D.tup []) trivial (by simp [lim]; omega) (fun _ _ _ q => q) (fun i _ Q' q => by simp; exact q) ?_
    simp only [List.nil_append]
    rw [← rowsD_nil]
    simp only [rowsD_ok.ok, rowsD_refl, true_and]
    intro pcd hpcd
    have g5 := g4.new (o := .lst []) hpcd
    obtain ⟨u1, u2, u3⟩ := g4.out hpcd
    refine take_ok (m := 20) g5.st (by omega) (by omega) fun r20 S6 hr20 s6 f6 => ?_
    have g6 := g5.take s6 f6
    have h6 : S6 pcd = some (.lst (([] : List Cond).map condD)) := by rw [f6 _ u1 u2, put_same]; rfl
    simp
    rw [show ((1 : Int) + (r20 : Int)).toNat = 1 + r20 by omega, range_map]
    refine ⟨⟨by omega, by omega⟩, ?_⟩
    refine for_indM _ (I := fun dd r σ S => ∃ (C : List Cond) (a4 a6 a7 a8 a9 : Option D), σ = [some x, some (D.obj ps), some (D.obj pr), some (D.int ↑d), a4, some (D.obj pcd), a6, a7, a8, a9] ∧ G C d S ps pc pr pl pn pf as ∧ S pcd = some (.lst (C.map condD)) ∧ (∀ c ∈ C, CondOk d c) ∧ C.length = dd.length)
      (List.range (1 + r20)) (fun _ _ _ _ _ => trivial) ?st2 ?fn2 ⟨[], _, _, _, _, _, rfl, g6, h6, by simp, rfl⟩
    case st2 =>
      rintro dd i r σ S N hdd ⟨C, a4, a6, a7, a8, a9, rfl, g, hC, ok, hlen⟩ hN
      obtain ⟨hd1, hi⟩ := range_split hdd
      have hiC : C.length = i := by rw [hlen, hd1, List.length_range]
      simp [-List.lookup_eq_none_iff, tyD_lst hC]
      refine cond_ok hn1 hn9 g.st fun c S7 hc s7 f7 => ?_
      have g7 := g.take s7 f7
      have h7 : S7 pcd = some (.lst (C.map condD)) := by rw [f7 _ u1 u2]; exact hC
      rw [app_obj h7]
      refine ⟨by simp [lim]; omega, ?_⟩
      have g8 : G C d (DL.put S7 pcd (.lst (C.map condD ++ [condD c]))) ps pc pr pl pn pf as := ⟨g7.st.keep (put_ne (Ne.symm u1)) (put_ne (Ne.symm u2)), g7.rw_.keep fun q hq => put_ne fun z => u3 (by rw [← z]; exact hq), g7.n1, g7.n2⟩
      have eix : atI (C.map condD ++ [condD c]) (i : Int) = some (condD c) := at_nat (by rw [List.getElem?_append_right (by simp; omega)]; simp [hiC])
      simp [-List.lookup_eq_none_iff, eix]
      have okn : ∀ c' ∈ C ++ [c], CondOk d c' := fun c' hc' => by
        rcases List.mem_append.mp hc' with z | z
        · exact ok _ z
        · simp at z; subst z; exact hc
      refine add_ok hc (by omega) (by omega) g8.rw_ fun S9 R9 f9 => ?_
      have g9 := g8.rows R9 f9 g8.n1 g8.n2
      have h9 : S9 pcd = some (.lst ((C ++ [c]).map condD)) := by rw [f9 _ u3, put_same, List.map_append]; rfl
      refine ⟨rfl, ?_⟩
      refine take_ok (m := 5) g9.st (by omega) (by omega) fun r5 S10 hr5 s10 f10 => ?_
      have g10 := g9.take s10 f10
      have h10 : S10 pcd = some (.lst ((C ++ [c]).map condD)) := by rw [f10 _ u1 u2]; exact h9
      have fin : ∃ C' a4' a6' a7' a8' a9', [some x, some (D.obj ps), some (D.obj pr), some (D.int ↑d), a4, some (D.obj pcd), some (D.int ↑i), a7, a8, a9] = [some x, some (D.obj ps), some (D.obj pr), some (D.int ↑d), a4', some (D.obj pcd), a6', a7', a8', a9'] ∧ G C' d S10 ps pc pr pl pn pf as ∧ S10 pcd = some (.lst (C'.map condD)) ∧ (∀ c ∈ C', CondOk d c) ∧ C'.length = (dd ++ [i]).length :=
        ⟨C ++ [c], _, _, _, _, _, rfl, g10, h10, okn, by simp; exact hlen⟩
      obtain ⟨fs, e1, e2, _⟩ := meth_rows g10.rw_
      simp [-List.lookup_eq_none_iff, e1, e2]
      split
      · refine least_ok okn (by omega) g10.rw_ fun p hp => ?_
        simp only [put_at, rid_put hp]
        refine lleast_ok okn hn9 h10 ?_
        simp only [r_see4, rowsD_ok.ok, rowsD_refl, true_and]
        exact hN _ _ fin
      · exact hN _ _ fin
    case fn2 =>
      rintro σ S ⟨C, a4, a6, a7, a8, a9, rfl, g, hC, ok, hlen⟩
      simp [-List.lookup_eq_none_iff]
      refine lleast_ok ok hn9 hC ?_
      obtain ⟨fs, e1, e2, _⟩ := meth_rows g.rw_
      simp only [e1, r_ofO, e2, true_and]
      refine least_ok ok (by omega) g.rw_ fun p hp => ?_
      simp only [see_lst put_same, r_see4, rowsD_ok.ok, rowsD_refl, true_and, isi_list put_same, r_tru1, r_ofO, asL_put]
      refine lc_mapM (fun i => .tup ((LS C i).map D.str)) (fun _ => D.bl true) (L := List.range d) (asL_obj put_same) (by simp [lim]; omega) (fun _ _ _ q => q) (fun i _ Q' q => by simp [wipeD, isi_tup]; exact q) ?_
      simp only [List.nil_append, all_bls, r_tru1, r_ofO, true_and]
      refine ⟨tyD_lst put_same, ?_⟩
      rw [app_obj put_same, put_put]
      refine ⟨by simp [rowsD, lim]; omega, ?_⟩
      have g8 := g.new (o := .lst (rowsD d C ++ [.tup []])) hp
      obtain ⟨fs, e1, e2, e3⟩ := meth_rows g8.rw_
      simp only [e1, r_ofO, e2, true_and]
      refine least_ok ok (by omega) g8.rw_ fun p2 hp2 => ?_
      simp only [put_at, rid_put hp2, r_see4, rowsD_ok.ok, rowsD_refl, true_and, e1, r_ofO, e3]
      refine fresh_ok ok (by omega) g8.rw_ fun S9 a ha R9 f9 => ?_
      obtain ⟨fs, e1, e2, _⟩ := meth_rows R9
      simp [-List.lookup_eq_none_iff, e1, e2]
      refine least_ok (ok_up ok) (by omega) R9 fun p3 hp3 => ?_
      simp only [put_at, rid_put hp3]
      rw [← rowsD_succ ok]
      exact ⟨by simp [rowsD, lim]; omega, rowsD_ok.ok, rowsD_ok.ok, rowsD_refl⟩
end Pg
theorem PySem.Challenge.cw_askedfor_k04_least_rows_holds : PySem.Challenge.rw_askedfor_k04_least_rows.Holds :=
  Pg.holds 5 ⟨rfl, by decide, by decide⟩ (Pg.law_ok 0)
#print axioms PySem.Challenge.cw_askedfor_k04_least_rows_holds
