import PyProof.Rows.All
import Wide.All
import OpenK.AllK
import Wide.FinOn
import HandS.ForMost
import HandS.ForExc
import HandS.CallSlots
import HandS.More
import HandS.IsInst
import HandS.Conv
import HandS.RevRange
import KE.KStateDown
import Lean
import HandS.Defaults
import HandS.Head0
import HandS.Head1
import HandS.Head2
import HandS.HeadEnd
import HandS.EndBits
import HandS.HeadHook1
import HandS.HeadHook2
import HandS.Style
import PyProof.ReprReads
import PyProof.StrHeap
import HandS.Zip
import HandS.Dict
import PyProof.AutoSeq1
import PyProof.StrLawsRepr
import PyProof.FitsInt
import PySem.Challenge.RW_askedfor_k10_plain_meaning
set_option Elab.async false
set_option linter.all false
set_option maxRecDepth 100000
set_option maxHeartbeats 0
/-! DL: values as data, a store of the few things that change, and what Python text means over them. -/
namespace DL
open PySem PySem.Spec PyProof.Rows L2

/-! ### texts -/
theorem ofS_eq (s : String) : Str.ofString s = ⟨(s.toList.map Char.toNat).toArray⟩ := Str.ofString_eq_toList s
theorem charNat_inj {a b : Char} (h : a.toNat = b.toNat) : a = b := by
  apply Char.ext
  exact UInt32.toNat_inj.mp h
theorem mapNat_inj : ∀ {a b : List Char}, a.map Char.toNat = b.map Char.toNat → a = b
  | [], [], _ => rfl
  | [], _ :: _, h => by cases h
  | _ :: _, [], h => by cases h
  | x :: xs, y :: ys, h => by
    simp only [List.map_cons, List.cons.injEq] at h
    rw [charNat_inj h.1, mapNat_inj h.2]
theorem ofS_inj {a b : String} (h : Str.ofString a = Str.ofString b) : a = b := by
  rw [ofS_eq, ofS_eq] at h
  have h1 : (a.toList.map Char.toNat).toArray = (b.toList.map Char.toNat).toArray := congrArg Str.cps h
  have h2 : a.toList.map Char.toNat = b.toList.map Char.toNat := by simpa using congrArg Array.toList h1
  have h3 := mapNat_inj h2
  rw [← String.ofList_toList (s := a), ← String.ofList_toList (s := b), h3]
theorem ofS_iff {a b : String} : Str.ofString a = Str.ofString b ↔ a = b := ⟨ofS_inj, fun h => by rw [h]⟩

/-! ### data -/
inductive D where
  | non | bl (b : Bool) | int (i : Int) | str (s : String)
  | tup (l : List D)
  /-- a list that nobody changes any more -/
  | lst (l : List D)
  /-- a dict that nobody changes any more -/
  | dic (kvs : List (String × D))
  /-- a list that the law was handed -/
  | scr (l : List D)
  /-- a thing of the store (or a class) -/
  | obj (a : Addr)
  /-- a built-in type -/
  | ty (n : String)
inductive Ob where
  | lst (l : List D)
  | dic (kvs : List (String × D))
  | ins (c : Nat) (fs : List (String × D))
abbrev Store := Addr → Option Ob
def put (S : Store) (a : Addr) (o : Ob) : Store := fun b => if b = a then some o else S b
def rid (S : Store) (a : Addr) : Store := fun b => if b = a then none else S b
theorem put_same {S : Store} {a : Addr} {o : Ob} : put S a o a = some o := by unfold put; rw [if_pos rfl]
theorem put_ne {S : Store} {a b : Addr} {o : Ob} (h : b ≠ a) : put S a o b = S b := by unfold put; rw [if_neg h]
theorem rid_same {S : Store} {a : Addr} : rid S a a = none := by unfold rid; rw [if_pos rfl]
theorem rid_ne {S : Store} {a b : Addr} (h : b ≠ a) : rid S a b = S b := by unfold rid; rw [if_neg h]
theorem put_put {S : Store} {a : Addr} {o u : Ob} : put (put S a o) a u = put S a u := by
  funext b; unfold put; split <;> rfl
theorem rid_put {S : Store} {a : Addr} {o : Ob} (h : S a = none) : rid (put S a o) a = S := by
  funext b; unfold rid put
  split
  · rename_i e; rw [e, h]
  · rfl
theorem put_id {S : Store} {a : Addr} {o : Ob} (h : S a = some o) : put S a o = S := by
  funext b; unfold put
  split
  · rename_i e; rw [e, h]
  · rfl
theorem put_comm {S : Store} {a b : Addr} {o u : Ob} (h : a ≠ b) : put (put S a o) b u = put (put S b u) a o := by
  funext c; unfold put
  by_cases e : c = a
  · subst e; rw [if_neg h, if_pos rfl, if_pos rfl]
  · rw [if_neg e, if_neg e]

/-! ### data in the heap: F, the lists and dicts that stay as they are -/
def SqZ (K : PySem.W.Frag) (H : Hp) (a : Addr) (xs : List V) : Prop :=
  (∃ o, H a = some (.frz o (.lst xs))) ∨
    ∃ (o : Obj) (its : Array Value) (n : Nat), K.lookup a = some o ∧ o.cls = .type "list" ∧ o.dict = none ∧ o.data = .seq its n ∧ its.size ≤ sizeLine ∧ Vals xs its.toList
theorem SqZ.sq {K : PySem.W.Frag} {H : Hp} {a : Addr} {xs : List V} (h : SqZ K H a xs) : SqL K H a xs := by
  rcases h with ⟨o, h⟩ | h
  · exact .inl (.inr ⟨o, h⟩)
  · exact .inr h
mutual
inductive RelD (K : PySem.W.Frag) (F : Addr → Prop) (H : Hp) : D → V → Prop
  | non : RelD K F H .non .non
  | bl (b : Bool) : RelD K F H (.bl b) (.bl b)
  | int (i : Int) : RelD K F H (.int i) (.int i)
  | str (s : String) : RelD K F H (.str s) (.str (Str.ofString s))
  | tup {a : Addr} {vs : List V} {l : List D} : SqT K H a vs → RelDs K F H l vs → RelD K F H (.tup l) (.ref a)
  | lst {a : Addr} {vs : List V} {l : List D} : H a = some (.lst vs) → F a → RelDs K F H l vs → RelD K F H (.lst l) (.ref a)
  | dic {a : Addr} {kv : List (Key × V)} {kd : List (String × D)} : H a = some (.dK kv) → F a → RelKs K F H kd kv → RelD K F H (.dic kd) (.ref a)
  | scr {a : Addr} {vs : List V} {l : List D} : SqZ K H a vs → RelDs K F H l vs → RelD K F H (.scr l) (.ref a)
  | obj (a : Addr) : RelD K F H (.obj a) (.ref a)
  | ty (n : String) : RelD K F H (.ty n) (.ty n)
inductive RelDs (K : PySem.W.Frag) (F : Addr → Prop) (H : Hp) : List D → List V → Prop
  | nil : RelDs K F H [] []
  | cons {d : D} {v : V} {l : List D} {vs : List V} : RelD K F H d v → RelDs K F H l vs → RelDs K F H (d :: l) (v :: vs)
inductive RelKs (K : PySem.W.Frag) (F : Addr → Prop) (H : Hp) : List (String × D) → List (Key × V) → Prop
  | nil : RelKs K F H [] []
  | cons {s : String} {d : D} {v : V} {l : List (String × D)} {vs : List (Key × V)} : RelD K F H d v → RelKs K F H l vs → RelKs K F H ((s, d) :: l) ((.inr (Str.ofString s), v) :: vs)
end
inductive RelFs (K : PySem.W.Frag) (F : Addr → Prop) (H : Hp) : List (String × D) → List (Str × V) → Prop
  | nil : RelFs K F H [] []
  | cons {s : String} {d : D} {v : V} {l : List (String × D)} {vs : List (Str × V)} : RelD K F H d v → RelFs K F H l vs → RelFs K F H ((s, d) :: l) ((Str.ofString s, v) :: vs)

section
variable {K : PySem.W.Frag} {ca : Nat → Addr} {F F' F'' : Addr → Prop} {S S' S'' : Store} {H H' H'' : Hp}
/-- what stands in the store at a -/
def RelO (K : PySem.W.Frag) (ca : Nat → Addr) (F : Addr → Prop) (H : Hp) (a : Addr) : Ob → Prop
  | .lst l => ∃ vs, H a = some (.lst vs) ∧ RelDs K F H l vs
  | .dic kd => ∃ kv, H a = some (.dK kv) ∧ RelKs K F H kd kv
  | .ins c fs => ∃ dx fv, H a = some (.ins (ca c) dx fv) ∧ RelFs K F H fs fv
structure RelS (K : PySem.W.Frag) (ca : Nat → Addr) (F : Addr → Prop) (S : Store) (H : Hp) : Prop where
  ob : ∀ a o, S a = some o → ¬ F a ∧ RelO K ca F H a o
  fz : ∀ a, F a → ∃ o, H a = some o
/-- what is not the store's stays -/
def Fr (F : Addr → Prop) (S : Store) (H : Hp) (F' : Addr → Prop) (S' : Store) (H' : Hp) : Prop := ∀ a o, H a = some o → S a = none → H' a = some o ∧ S' a = none ∧ (F' a ↔ F a)
theorem Fr.refl : Fr F S H F S H := fun _ _ h n => ⟨h, n, Iff.rfl⟩
theorem Fr.trans (a : Fr F S H F' S' H') (b : Fr F' S' H' F'' S'' H'') : Fr F S H F'' S'' H'' := fun c o h n =>
  let ⟨a1, a2, a3⟩ := a c o h n
  let ⟨b1, b2, b3⟩ := b c o a1 a2
  ⟨b1, b2, b3.trans a3⟩
theorem RelS.frzFree (r : RelS K ca F S H) {a : Addr} {u : HO} (h : H a = some u) (hl : ∀ vs, u ≠ .lst vs) (hd : ∀ vs, u ≠ .dK vs) (hi : ∀ c dx fs, u ≠ .ins c dx fs) : S a = none := by
  cases e : S a with
  | none => rfl
  | some o =>
    obtain ⟨_, q⟩ := r.ob a o e
    cases o with
    | lst l => obtain ⟨vs, z, _⟩ := q; rw [h] at z; exact absurd (Option.some.inj z) (hl _)
    | dic l => obtain ⟨vs, z, _⟩ := q; rw [h] at z; exact absurd (Option.some.inj z) (hd _)
    | ins c l => obtain ⟨dx, vs, z, _⟩ := q; rw [h] at z; exact absurd (Option.some.inj z) (hi _ _ _)
theorem RelS.tupFree (r : RelS K ca F S H) {a : Addr} {vs : List V} (h : Rd H a (.tup vs)) : S a = none := by
  rcases h with h | ⟨u, h⟩
  · exact r.frzFree h (fun _ z => by cases z) (fun _ z => by cases z) (fun _ _ _ z => by cases z)
  · exact r.frzFree h (fun _ z => by cases z) (fun _ z => by cases z) (fun _ _ _ z => by cases z)
theorem RelS.free (r : RelS K ca F S H) {a : Addr} (h : H a = none) : S a = none := by
  cases e : S a with
  | none => rfl
  | some o =>
    obtain ⟨_, q⟩ := r.ob a o e
    cases o <;> simp only [RelO] at q
    · obtain ⟨_, z, _⟩ := q; rw [h] at z; cases z
    · obtain ⟨_, z, _⟩ := q; rw [h] at z; cases z
    · obtain ⟨_, _, z, _⟩ := q; rw [h] at z; cases z
theorem RelS.fS (r : RelS K ca F S H) {a : Addr} (h : F a) : S a = none := by
  cases e : S a with
  | none => rfl
  | some o => exact absurd h (r.ob a o e).1
theorem fr_rd (f : Fr F S H F' S' H') {a : Addr} {u : HO} (h : Rd H a u) (n : S a = none) : Rd H' a u := by
  rcases h with h | ⟨o, h⟩
  · exact .inl (f a _ h n).1
  · exact .inr ⟨o, (f a _ h n).1⟩
theorem fr_t (r : RelS K ca F S H) (f : Fr F S H F' S' H') {a : Addr} {vs : List V} (h : SqT K H a vs) : SqT K H' a vs := by
  rcases h with h | h
  · exact .inl (fr_rd f h (r.tupFree h))
  · exact .inr h
theorem fr_z (r : RelS K ca F S H) (f : Fr F S H F' S' H') {a : Addr} {vs : List V} (h : SqZ K H a vs) : SqZ K H' a vs := by
  rcases h with ⟨o, h⟩ | h
  · exact .inl ⟨o, (f a _ h (r.frzFree h (fun _ z => by cases z) (fun _ z => by cases z) (fun _ _ _ z => by cases z))).1⟩
  · exact .inr h
theorem fr_F (r : RelS K ca F S H) (f : Fr F S H F' S' H') {a : Addr} (h : F a) : F' a := by
  obtain ⟨o, e⟩ := r.fz a h
  exact (f a o e (r.fS h)).2.2.mpr h
mutual
theorem RelD.mono (r : RelS K ca F S H) (f : Fr F S H F' S' H') : ∀ {d : D} {v : V}, RelD K F H d v → RelD K F' H' d v
  | _, _, .non => .non
  | _, _, .bl b => .bl b
  | _, _, .int i => .int i
  | _, _, .str s => .str s
  | _, _, .tup h q => .tup (fr_t r f h) (RelDs.mono r f q)
  | _, _, .lst h z q => .lst (f _ _ h (r.fS z)).1 (fr_F r f z) (RelDs.mono r f q)
  | _, _, .dic h z q => .dic (f _ _ h (r.fS z)).1 (fr_F r f z) (RelKs.mono r f q)
  | _, _, .scr h q => .scr (fr_z r f h) (RelDs.mono r f q)
  | _, _, .obj a => .obj a
  | _, _, .ty a => .ty a
theorem RelDs.mono (r : RelS K ca F S H) (f : Fr F S H F' S' H') : ∀ {d : List D} {v : List V}, RelDs K F H d v → RelDs K F' H' d v
  | _, _, .nil => .nil
  | _, _, .cons h q => .cons (RelD.mono r f h) (RelDs.mono r f q)
theorem RelKs.mono (r : RelS K ca F S H) (f : Fr F S H F' S' H') : ∀ {d : List (String × D)} {v : List (Key × V)}, RelKs K F H d v → RelKs K F' H' d v
  | _, _, .nil => .nil
  | _, _, .cons h q => .cons (RelD.mono r f h) (RelKs.mono r f q)
end
theorem RelFs.mono (r : RelS K ca F S H) (f : Fr F S H F' S' H') {d : List (String × D)} {v : List (Str × V)} (h : RelFs K F H d v) : RelFs K F' H' d v := by
  induction h with
  | nil => exact .nil
  | cons h _ ih => exact .cons (h.mono r f) ih
theorem RelDs.length : ∀ {d : List D} {v : List V}, RelDs K F H d v → d.length = v.length
  | _, _, .nil => rfl
  | _, _, .cons _ q => congrArg (· + 1) (RelDs.length q)
theorem RelDs.get {d : List D} {v : List V} (h : RelDs K F H d v) : ∀ {i : Nat} {x : D}, d[i]? = some x → ∃ u, v[i]? = some u ∧ RelD K F H x u := by
  induction d generalizing v with
  | nil => intro i x e; simp at e
  | cons d l ih =>
    cases h with
    | cons r q =>
      intro i x e
      cases i with
      | zero => simp at e; subst e; exact ⟨_, rfl, r⟩
      | succ i => simpa using ih q (i := i) (x := x) (by simpa using e)
theorem RelDs.getv {d : List D} {v : List V} (h : RelDs K F H d v) : ∀ {i : Nat} {x : V}, v[i]? = some x → ∃ u, d[i]? = some u ∧ RelD K F H u x := by
  induction d generalizing v with
  | nil => cases h; intro i x e; simp at e
  | cons d l ih =>
    cases h with
    | cons r q =>
      intro i x e
      cases i with
      | zero => simp at e; subst e; exact ⟨_, rfl, r⟩
      | succ i => simpa using ih q (i := i) (x := x) (by simpa using e)
theorem RelDs.append {d e : List D} {v u : List V} (h : RelDs K F H d v) (q : RelDs K F H e u) : RelDs K F H (d ++ e) (v ++ u) := by
  induction d generalizing v with
  | nil => cases h; exact q
  | cons d l ih => cases h with | cons r h => exact .cons r (ih h)
theorem RelDs.set {d : List D} {v : List V} (h : RelDs K F H d v) {x : D} {u : V} (r : RelD K F H x u) : ∀ i, RelDs K F H (d.set i x) (v.set i u) := by
  induction d generalizing v with
  | nil => cases h; intro i; exact .nil
  | cons d l ih =>
    cases h with
    | cons q h =>
      intro i
      cases i with
      | zero => exact .cons r h
      | succ i => exact .cons q (ih h i)
theorem RelDs.take {d : List D} {v : List V} (h : RelDs K F H d v) : ∀ n, RelDs K F H (d.take n) (v.take n) := by
  induction d generalizing v with
  | nil => cases h; intro n; simp; exact .nil
  | cons d l ih =>
    cases h with
    | cons q h =>
      intro n
      cases n with
      | zero => exact .nil
      | succ n => exact .cons q (ih h n)
theorem RelDs.drop {d : List D} {v : List V} (h : RelDs K F H d v) : ∀ n, RelDs K F H (d.drop n) (v.drop n) := by
  induction d generalizing v with
  | nil => cases h; intro n; simp; exact .nil
  | cons d l ih =>
    cases h with
    | cons q h =>
      intro n
      cases n with
      | zero => exact .cons q h
      | succ n => exact ih h n
theorem RelDs.dropLast {d : List D} {v : List V} (h : RelDs K F H d v) : RelDs K F H d.dropLast v.dropLast := by
  rw [List.dropLast_eq_take, List.dropLast_eq_take, h.length]
  exact h.take _
theorem RelDs.reverse {d : List D} {v : List V} (h : RelDs K F H d v) : RelDs K F H d.reverse v.reverse := by
  induction d generalizing v with
  | nil => cases h; exact .nil
  | cons d l ih =>
    cases h with
    | cons q h =>
      rw [List.reverse_cons, List.reverse_cons]
      exact (ih h).append (.cons q .nil)

/-! ### the store and the heap, step by step -/
def ins (F : Addr → Prop) (p : Addr) : Addr → Prop := fun a => a = p ∨ F a
theorem fr_new {p : Addr} {o : Ob} {u : HO} (n : H p = none) : Fr F S H F (put S p o) (upd H p u) := fun a w h z => by
  have e : a ≠ p := ne_of_none h n
  exact ⟨by rw [upd_ne e]; exact h, by rw [put_ne e]; exact z, Iff.rfl⟩
theorem fr_newD {p : Addr} {u : HO} (n : H p = none) : Fr F S H F S (upd H p u) := fun a w h z => by
  have e : a ≠ p := ne_of_none h n
  exact ⟨by rw [upd_ne e]; exact h, z, Iff.rfl⟩
theorem fr_newF {p : Addr} {u : HO} (n : H p = none) : Fr F S H (ins F p) S (upd H p u) := fun a w h z => by
  have e : a ≠ p := ne_of_none h n
  exact ⟨by rw [upd_ne e]; exact h, z, ⟨fun q => q.resolve_left e, .inr⟩⟩
theorem fr_write {p : Addr} {o o' : Ob} {u : HO} (h : S p = some o) : Fr F S H F (put S p o') (upd H p u) := fun a w q z => by
  have e : a ≠ p := fun e => by rw [e, h] at z; cases z
  exact ⟨by rw [upd_ne e]; exact q, by rw [put_ne e]; exact z, Iff.rfl⟩
theorem fr_rid {p : Addr} : Fr F S H F (rid S p) H := fun a w q z => ⟨q, (by unfold rid; split <;> first | rfl | exact z), Iff.rfl⟩
theorem fr_frz {p : Addr} {o : Ob} (h : S p = some o) : Fr F S H (ins F p) (rid S p) H := fun a w q z => by
  have e : a ≠ p := fun e => by rw [e, h] at z; cases z
  exact ⟨q, by rw [rid_ne e]; exact z, ⟨fun q => q.resolve_left e, .inr⟩⟩
theorem RelO.mono (r : RelS K ca F S H) (f : Fr F S H F' S' H') {a : Addr} {o : Ob} (h : RelO K ca F H a o) (same : H' a = H a) : RelO K ca F' H' a o := by
  cases o with
  | lst l => obtain ⟨vs, e, q⟩ := h; exact ⟨vs, same.trans e, q.mono r f⟩
  | dic l => obtain ⟨vs, e, q⟩ := h; exact ⟨vs, same.trans e, q.mono r f⟩
  | ins c l => obtain ⟨dx, vs, e, q⟩ := h; exact ⟨dx, vs, same.trans e, q.mono r f⟩
theorem RelS.newD {p : Addr} {u : HO} (r : RelS K ca F S H) (n : H p = none) : RelS K ca F S (upd H p u) := by
  refine ⟨fun a o e => ⟨(r.ob a o e).1, (r.ob a o e).2.mono r (fr_newD n) (upd_ne fun z => by rw [z, r.free n] at e; cases e)⟩, fun a h => ?_⟩
  obtain ⟨o, e⟩ := r.fz a h
  exact ⟨o, by rw [upd_ne (ne_of_none e n)]; exact e⟩
theorem RelS.newF {p : Addr} {u : HO} (r : RelS K ca F S H) (n : H p = none) : RelS K ca (ins F p) S (upd H p u) := by
  refine ⟨fun a o e => ?_, fun a h => ?_⟩
  · have ne : a ≠ p := fun z => by rw [z, r.free n] at e; cases e
    exact ⟨fun q => (r.ob a o e).1 (q.resolve_left ne), (r.ob a o e).2.mono r (fr_newF n) (upd_ne ne)⟩
  · by_cases z : a = p
    · subst z; exact ⟨u, upd_same⟩
    · obtain ⟨o, e⟩ := r.fz a (h.resolve_left z)
      exact ⟨o, by rw [upd_ne z]; exact e⟩
theorem RelS.new {p : Addr} {o : Ob} {u : HO} (r : RelS K ca F S H) (n : H p = none) (q : RelO K ca F (upd H p u) p o) : RelS K ca F (put S p o) (upd H p u) := by
  refine ⟨fun a w e => ?_, fun a h => ?_⟩
  · by_cases z : a = p
    · subst z
      rw [put_same] at e
      cases e
      refine ⟨fun h => ?_, q⟩
      obtain ⟨_, e⟩ := r.fz a h
      rw [n] at e
      cases e
    · rw [put_ne z] at e
      exact ⟨(r.ob a w e).1, (r.ob a w e).2.mono r (fr_new (o := o) n) (upd_ne z)⟩
  · obtain ⟨o', e⟩ := r.fz a h
    exact ⟨o', by rw [upd_ne (ne_of_none e n)]; exact e⟩
theorem RelS.write {p : Addr} {o o' : Ob} {u : HO} (r : RelS K ca F S H) (n : S p = some o) (q : RelO K ca F (upd H p u) p o') : RelS K ca F (put S p o') (upd H p u) := by
  refine ⟨fun a w e => ?_, fun a h => ?_⟩
  · by_cases z : a = p
    · subst z
      rw [put_same] at e
      cases e
      exact ⟨(r.ob a _ n).1, q⟩
    · rw [put_ne z] at e
      exact ⟨(r.ob a w e).1, (r.ob a w e).2.mono r (fr_write (o' := o') n) (upd_ne z)⟩
  · obtain ⟨o', e⟩ := r.fz a h
    have z : a ≠ p := fun z => by subst z; exact (r.ob a _ n).1 h
    exact ⟨o', by rw [upd_ne z]; exact e⟩
theorem RelS.rid {p : Addr} (r : RelS K ca F S H) : RelS K ca F (rid S p) H := by
  refine ⟨fun a w e => ?_, r.fz⟩
  by_cases z : a = p
  · subst z; rw [rid_same] at e; cases e
  · rw [rid_ne z] at e
    exact ⟨(r.ob a w e).1, (r.ob a w e).2.mono r (fr_rid (p := p)) rfl⟩
theorem RelO.there {a : Addr} {o : Ob} (h : RelO K ca F H a o) : ∃ u, H a = some u := by
  cases o with
  | lst l => obtain ⟨vs, e, q⟩ := h; exact ⟨_, e⟩
  | dic l => obtain ⟨vs, e, q⟩ := h; exact ⟨_, e⟩
  | ins c l => obtain ⟨dx, vs, e, q⟩ := h; exact ⟨_, e⟩
theorem RelS.frz {p : Addr} {o : Ob} (r : RelS K ca F S H) (n : S p = some o) : RelS K ca (ins F p) (DL.rid S p) H := by
  refine ⟨fun a w e => ?_, fun a h => ?_⟩
  · by_cases z : a = p
    · subst z; rw [rid_same] at e; cases e
    · rw [rid_ne z] at e
      exact ⟨fun q => (r.ob a w e).1 (q.resolve_left z), (r.ob a w e).2.mono r (fr_frz n) rfl⟩
  · by_cases z : a = p
    · subst z; exact (r.ob a _ n).2.there
    · exact r.fz a (h.resolve_left z)
end
end DL
/-! DL2: the judgements over data, and the rules of expressions. -/
namespace DL
open PySem PySem.Spec PyProof.Rows L2

abbrev DEnv := List (Option D)
abbrev QE := D → Store → Prop
abbrev DE := DEnv → Store → QE → Prop
abbrev DT := DEnv → Store → (Bool → Store → Prop) → Prop
abbrev DA := DEnv → Store → (List D → Store → Prop) → Prop
/-- an exception of an own class: the class's number, its fields -/
structure DX where
  cls : Nat
  fs : List (String × D)
abbrev XQ := DX → Store → Prop
/-- what a def does: arguments, store, what is wanted of the value, of an exception -/
abbrev DSp := List D → Store → QE → XQ → Prop

/-- where a body runs: the classes, the state at its entry, what is wanted of an exception -/
structure Bc where
  ca : Nat → Addr
  F0 : Addr → Prop
  S0 : Store
  H0 : Hp
  ED : DX → DEnv → Store → Prop

section
variable {K : PySem.W.Frag} {ca : Nat → Addr} {F F' F'' : Addr → Prop} {S S' S'' : Store} {H H' H'' : Hp} {B : Bc} {σ : DEnv} {σV : L2.St} {Q : QE} {QV : VK}
def RelEnv (K : PySem.W.Frag) (F : Addr → Prop) (H : Hp) (σ : DEnv) (σV : L2.St) : Prop :=
  σ.length = σV.length ∧ ∀ (i : Nat) (d : D), σ[i]? = some (some d) → ∃ v, σV[i]? = some (some v) ∧ RelD K F H d v
structure Rel (K : PySem.W.Frag) (B : Bc) (F : Addr → Prop) (σ : DEnv) (S : Store) (σV : L2.St) (H : Hp) : Prop where
  env : RelEnv K F H σ σV
  st : RelS K B.ca F S H
  fr : Fr B.F0 B.S0 B.H0 F S H
theorem RelEnv.mono (e : RelEnv K F H σ σV) (r : RelS K ca F S H) (f : Fr F S H F' S' H') : RelEnv K F' H' σ σV :=
  ⟨e.1, fun i d h => let ⟨v, a, b⟩ := e.2 i d h; ⟨v, a, b.mono r f⟩⟩
theorem Rel.step (R : Rel K B F σ S σV H) (f : Fr F S H F' S' H') (r : RelS K B.ca F' S' H') : Rel K B F' σ S' σV H' :=
  ⟨R.env.mono R.st f, r, R.fr.trans f⟩
theorem RelEnv.set (e : RelEnv K F H σ σV) {i : Nat} {d : D} {v : V} (r : RelD K F H d v) : RelEnv K F H (σ.set i (some d)) (σV.set i (some v)) := by
  refine ⟨by rw [List.length_set, List.length_set]; exact e.1, fun j x h => ?_⟩
  by_cases hj : i = j
  · subst hj
    by_cases hi : i < σ.length
    · rw [List.getElem?_set_self hi] at h
      cases h
      exact ⟨v, by rw [List.getElem?_set_self (by rw [← e.1]; exact hi)], r⟩
    · rw [List.getElem?_eq_none (by simpa using hi)] at h
      cases h
  · rw [List.getElem?_set_ne hj] at h
    obtain ⟨u, a, b⟩ := e.2 j x h
    exact ⟨u, by rw [List.getElem?_set_ne hj]; exact a, b⟩
theorem Rel.set (R : Rel K B F σ S σV H) {i : Nat} {d : D} {v : V} (r : RelD K F H d v) : Rel K B F (σ.set i (some d)) S (σV.set i (some v)) H := ⟨R.env.set r, R.st, R.fr⟩

/-! ### what is wanted, over data and over the heap -/
def PostE (K : PySem.W.Frag) (ca : Nat → Addr) (F : Addr → Prop) (S : Store) (H : Hp) (Q : QE) (QV : VK) : Prop :=
  ∀ x v F' S' H', Fr F S H F' S' H' → RelS K ca F' S' H' → RelD K F' H' x v → Q x S' → QV v H'
def PostB (K : PySem.W.Frag) (ca : Nat → Addr) (F : Addr → Prop) (S : Store) (H : Hp) (Q : Bool → Store → Prop) (QV : Bool → Hp → Prop) : Prop :=
  ∀ x F' S' H', Fr F S H F' S' H' → RelS K ca F' S' H' → Q x S' → QV x H'
def PostA (K : PySem.W.Frag) (ca : Nat → Addr) (n : Nat) (F : Addr → Prop) (S : Store) (H : Hp) (Q : List D → Store → Prop) (QV : List V → Hp → Prop) : Prop :=
  ∀ x v F' S' H', Fr F S H F' S' H' → RelS K ca F' S' H' → RelDs K F' H' x v → x.length = n → Q x S' → QV v H'
def RelX (K : PySem.W.Frag) (ca : Nat → Addr) (F : Addr → Prop) (H : Hp) (x : DX) (cls : Value) (d : Option Addr) : Prop :=
  cls = .ref (ca x.cls) ∧ ((x.fs = [] ∧ d = none) ∨ ∃ dd fv, d = some dd ∧ H dd = some (.xd fv) ∧ RelFs K F H x.fs fv)
def PostX (K : PySem.W.Frag) (ca : Nat → Addr) (F : Addr → Prop) (S : Store) (H : Hp) (ED : XQ) (E : XK) : Prop :=
  ∀ x cls d F' S' H', Fr F S H F' S' H' → RelS K ca F' S' H' → RelX K ca F' H' x cls d → ED x S' → E cls d H'
theorem PostE.step (p : PostE K ca F S H Q QV) (f : Fr F S H F' S' H') : PostE K ca F' S' H' Q QV := fun x v _ _ _ g r d q => p x v _ _ _ (f.trans g) r d q
theorem PostE.at (p : PostE K ca F S H Q QV) (r : RelS K ca F S H) {x : D} {v : V} (d : RelD K F H x v) (q : Q x S) : QV v H := p x v F S H Fr.refl r d q

def SimE (K : PySem.W.Frag) (B : Bc) (d : DE) (t : TE) : Prop := ∀ F σ S σV H Q QV, Rel K B F σ S σV H → d σ S Q → PostE K B.ca F S H Q QV → t σV H QV
def SimT (K : PySem.W.Frag) (B : Bc) (d : DT) (t : TT) : Prop := ∀ F σ S σV H Q QV, Rel K B F σ S σV H → d σ S Q → PostB K B.ca F S H Q QV → t σV H QV
def SimA (K : PySem.W.Frag) (B : Bc) (n : Nat) (d : DA) (t : TA) : Prop := ∀ F σ S σV H Q QV, Rel K B F σ S σV H → d σ S Q → PostA K B.ca n F S H Q QV → t σV H QV
end

/-! ### the weakest readings -/
@[irreducible] def wpE (X : Cx) (e : Expr) : TE := fun σ H Q => ∀ (pins : List (Addr × Obj)) (s : Shared), Inv X pins σ H s → wpAny (model X.prog X.w) X.A (eval e X.env) (EP X pins σ Q) X.xe s
@[irreducible] def wpT (X : Cx) (e : Expr) : TT := fun σ H Q => ∀ (pins : List (Addr × Obj)) (s : Shared), Inv X pins σ H s → wpAny (model X.prog X.w) X.A (isTrue e X.env (eval e X.env)) (TP X pins σ Q) X.xe s
@[irreducible] def wpW (X : Cx) (e : Expr) : TT := fun σ H Q => ∀ (wh : Sem Value) (pins : List (Addr × Obj)) (s : Shared), Inv X pins σ H s → wpAny (model X.prog X.w) X.A (isTrue e X.env wh) (TP X pins σ Q) X.xe s
@[irreducible] def wpA (X : Cx) (es : List Expr) : TA := fun σ H Q => ∀ (pos : Pos) (pins : List (Addr × Obj)) (s : Shared), Inv X pins σ H s → wpAny (model X.prog X.w) X.A (spliced (backTo pos (starEach es X.env))) (AP X pins σ Q) X.xe s
theorem pe_w {X : Cx} {e : Expr} : PE X e (wpE X e) := ⟨fun pins s _ _ _ I h => by unfold wpE at h; exact h pins s I⟩
theorem pt_w {X : Cx} {e : Expr} : PT X e (wpT X e) := ⟨fun pins s _ _ _ I h => by unfold wpT at h; exact h pins s I⟩
theorem pw_w {X : Cx} {e : Expr} : PW X e (wpW X e) := ⟨fun wh pins s _ _ _ I h => by unfold wpW at h; exact h wh pins s I⟩
theorem pa_w {X : Cx} {es : List Expr} : PA X es (wpA X es) := ⟨fun pos pins s _ _ _ I h => by unfold wpA at h; exact h pos pins s I⟩

def PD (X : Cx) (B : Bc) (e : Expr) (d : DE) : Prop := SimE X.K B d (wpE X e)
def PDT (X : Cx) (B : Bc) (e : Expr) (d : DT) : Prop := SimT X.K B d (wpT X e)
def PDW (X : Cx) (B : Bc) (e : Expr) (d : DT) : Prop := SimT X.K B d (wpW X e)
def PDA (X : Cx) (B : Bc) (es : List Expr) (n : Nat) (d : DA) : Prop := SimA X.K B n d (wpA X es)

section
variable {X : Cx} {B : Bc} {e a b c : Expr} {es rest : List Expr} {d da db dc : DE} {t ta tb tc : TE} {pos : Pos} {n : Nat}
theorem pd_of (h : PE X e t) (s : SimE X.K B d t) : PD X B e d := fun F σ S σV H Q QV R q P => by unfold wpE; exact fun pins st I => h.run pins st σV H QV I (s F σ S σV H Q QV R q P)
theorem pdt_of {d : DT} {t : TT} (h : PT X e t) (s : SimT X.K B d t) : PDT X B e d := fun F σ S σV H Q QV R q P => by unfold wpT; exact fun pins st I => h.run pins st σV H QV I (s F σ S σV H Q QV R q P)
theorem pdw_of {d : DT} {t : TT} (h : PW X e t) (s : SimT X.K B d t) : PDW X B e d := fun F σ S σV H Q QV R q P => by unfold wpW; exact fun wh pins st I => h.run wh pins st σV H QV I (s F σ S σV H Q QV R q P)
theorem pda_of {d : DA} {t : TA} (h : PA X es t) (s : SimA X.K B n d t) : PDA X B es n d := fun F σ S σV H Q QV R q P => by unfold wpA; exact fun pos pins st I => h.run pos pins st σV H QV I (s F σ S σV H Q QV R q P)
theorem pdw_t {d : DT} (h : PDW X B e d) : PDT X B e d := fun F σ S σV H Q QV R q P => by
  have z := h F σ S σV H Q QV R q P
  unfold wpW at z
  unfold wpT
  exact fun pins st I => z _ pins st I

/-! ### names and constants -/
def dVar (i : Nat) : DE := fun σ S Q => match σ[i]? with
  | some (some v) => Q v S
  | _ => False
theorem sim_var {K : PySem.W.Frag} {i : Nat} : SimE K B (dVar i) (tVar i) := by
  intro F σ S σV H Q QV R q P
  unfold dVar at q
  split at q
  · rename_i v e
    obtain ⟨u, hu, r⟩ := R.env.2 i v e
    exact ⟨u, hu, P.at R.st r q⟩
  · exact q.elim
theorem pd_var (i : Nat) {x : Str} (hN : X.N[i]? = some x := by rfl) (hv : Vis X.env.scope x := by first | exact Or.inl rfl | exact Or.inr (Or.inl rfl) | exact Or.inr (Or.inr rfl)) (hd : (x == ("__debug__" : Str)) = false := by decide)
    (hcd : (x == ("__classdict__" : Str)) = false := by decide) : PD X B (.Name x pos) (dVar i) := pd_of (pe_var hN hv hd hcd) sim_var
def dC (v : D) : DE := fun _ S Q => Q v S
theorem sim_c {K : PySem.W.Frag} {x : D} {v : V} (h : ∀ F H, RelD K F H x v) : SimE K B (dC x) (tC v) := fun F σ S σV H Q QV R q P => P.at R.st (h F H) q
theorem pd_int {i j} : PD X B (.Constant (.int i) j pos) (dC (.int i)) := pd_of pe_int (sim_c fun _ _ => .int i)
theorem pd_bl {i j} : PD X B (.Constant (.bool i) j pos) (dC (.bl i)) := pd_of pe_bl (sim_c fun _ _ => .bl i)
theorem pd_non {j} : PD X B (.Constant .none j pos) (dC .non) := pd_of pe_non (sim_c fun _ _ => .non)
theorem pd_str {i : String} {j} : PD X B (.Constant (.str (Str.ofString i)) j pos) (dC (.str i)) := pd_of pe_str (sim_c fun _ _ => .str i)
/-- a module's constant -/
theorem pd_glob {x : Str} {v : V} {u : Value} {z : D} (hg : Gl X x) (hm : X.mg x = some u) (r : RelV v u) (h : ∀ F H, RelD X.K F H z v) (hd : (x == ("__debug__" : Str)) = false := by decide) : PD X B (.Name x pos) (dC z) :=
  pd_of (pe_glob hg hm r hd) (sim_c h)

/-! ### operators by values -/
abbrev DR2 := D → D → Store → QE → Prop
def VR2 (K : PySem.W.Frag) (ca : Nat → Addr) (dr : DR2) (r : R2) : Prop := ∀ F S H x y v u Q QV, RelS K ca F S H → RelD K F H x v → RelD K F H y u → dr x y S Q → PostE K ca F S H Q QV → r v u H QV
def dOp (dr : DR2) (da db : DE) : DE := fun σ S Q => da σ S fun x S1 => db σ S1 fun y S2 => dr x y S2 Q
theorem sim_op {K : PySem.W.Frag} {dr : DR2} {r : R2} (hr : VR2 K B.ca dr r) (ha : SimE K B da ta) (hb : SimE K B db tb) : SimE K B (dOp dr da db) (tOp r ta tb) := by
  intro F σ S σV H Q QV R q P
  refine ha F σ S σV H _ _ R q fun x v F1 S1 H1 f1 r1 d1 q1 => ?_
  refine hb F1 σ S1 σV H1 _ _ (R.step f1 r1) q1 fun y u F2 S2 H2 f2 r2 d2 q2 => ?_
  exact hr F2 S2 H2 x y v u Q QV r2 (d1.mono r1 f2) d2 q2 (P.step (f1.trans f2))
abbrev DR1 := D → Store → QE → Prop
def VR1 (K : PySem.W.Frag) (ca : Nat → Addr) (dr : DR1) (r : V → Hp → VK → Prop) : Prop := ∀ F S H x v Q QV, RelS K ca F S H → RelD K F H x v → dr x S Q → PostE K ca F S H Q QV → r v H QV
def dUn (dr : DR1) (da : DE) : DE := fun σ S Q => da σ S fun x S1 => dr x S1 Q
theorem sim_un {K : PySem.W.Frag} {dr : DR1} {r : V → Hp → VK → Prop} (hr : VR1 K B.ca dr r) (ha : SimE K B da ta) : SimE K B (dUn dr da) (tUn r ta) := by
  intro F σ S σV H Q QV R q P
  refine ha F σ S σV H _ _ R q fun x v F1 S1 H1 f1 r1 d1 q1 => ?_
  exact hr F1 S1 H1 x v Q QV r1 d1 q1 (P.step f1)
theorem pd_op {op : Operator} {dr : DR2} {r : R2} (ho : OpR X (binaryOp op) r) (hr : VR2 X.K B.ca dr r) (ha : PD X B a da) (hb : PD X B b db) : PD X B (.BinOp a op b pos) (dOp dr da db) := pd_of (pe_op ho pe_w pe_w) (sim_op hr ha hb)
theorem pd_un {op : UnaryOp} {dr : DR1} {r : V → Hp → VK → Prop} (ho : UnR X (unaryOp op) r) (hr : VR1 X.K B.ca dr r) (ha : PD X B a da) : PD X B (.UnaryOp op a pos) (dUn dr da) := pd_of (pe_un ho pe_w) (sim_un hr ha)
theorem pd_cmp {op : CmpOp} {dr : DR2} {r : R2} (ho : OpR X (compareOp op) r) (hr : VR2 X.K B.ca dr r) (ha : PD X B a da) (hb : PD X B b db) (hm : behindInMarks op b = false) : PD X B (.Compare a [op] [b] pos) (dOp dr da db) :=
  pd_of (pe_cmpR ho pe_w pe_w hm) (sim_op hr ha hb)
/-- a value as a test -/
def dTest (d : DE) : DT := fun σ S Q => d σ S fun x S1 => match x with
  | .bl k => Q k S1
  | _ => False
theorem sim_test {K : PySem.W.Frag} (h : SimE K B d t) : SimT K B (dTest d) (tTest t) := by
  intro F σ S σV H Q QV R q P
  refine h F σ S σV H _ _ R q fun x v F1 S1 H1 f1 r1 d1 q1 => ?_
  cases d1 with
  | bl k => exact ⟨k, rfl, P k F1 S1 H1 f1 r1 q1⟩
  | _ => exact q1.elim
theorem pdt_cmp {op : CmpOp} {dr : DR2} {r : R2} (ho : OpR X (compareOp op) r) (hr : VR2 X.K B.ca dr r) (ha : PD X B a da) (hb : PD X B b db) (hm : behindInMarks op b = false) : PDT X B (.Compare a [op] [b] pos) (dTest (dOp dr da db)) :=
  pdt_of (pt_cmpR ho pe_w pe_w hm) (sim_test (sim_op hr ha hb))

/-! ### and, or, not, if -/
def dAnd (t u : DT) : DT := fun σ S Q => t σ S fun c S1 => if c = true then u σ S1 Q else Q false S1
def dOr (t u : DT) : DT := fun σ S Q => t σ S fun c S1 => if c = true then Q true S1 else u σ S1 Q
def dNot (t : DT) : DT := fun σ S Q => t σ S fun c S1 => Q (!c) S1
variable {K : PySem.W.Frag} {dt du : DT} {tt tu : TT}
theorem sim_and (h1 : SimT K B dt tt) (h2 : SimT K B du tu) : SimT K B (dAnd dt du) (tAnd tt tu) := by
  intro F σ S σV H Q QV R q P
  refine h1 F σ S σV H _ _ R q fun c F1 S1 H1 f1 r1 q1 => ?_
  cases c with
  | true => exact h2 F1 σ S1 σV H1 Q QV (R.step f1 r1) q1 fun x F2 S2 H2 f2 => P x F2 S2 H2 (f1.trans f2)
  | false => exact P false F1 S1 H1 f1 r1 q1
theorem sim_or (h1 : SimT K B dt tt) (h2 : SimT K B du tu) : SimT K B (dOr dt du) (tOr tt tu) := by
  intro F σ S σV H Q QV R q P
  refine h1 F σ S σV H _ _ R q fun c F1 S1 H1 f1 r1 q1 => ?_
  cases c with
  | false => exact h2 F1 σ S1 σV H1 Q QV (R.step f1 r1) q1 fun x F2 S2 H2 f2 => P x F2 S2 H2 (f1.trans f2)
  | true => exact P true F1 S1 H1 f1 r1 q1
theorem sim_not (h1 : SimT K B dt tt) : SimT K B (dNot dt) (tNot tt) := by
  intro F σ S σV H Q QV R q P
  exact h1 F σ S σV H _ _ R q fun c F1 S1 H1 f1 r1 q1 => P (!c) F1 S1 H1 f1 r1 q1
theorem pdw_and1 (h : PDT X B a dt) : PDW X B (.BoolOp .And [a] pos) dt := pdw_of (pw_and1 pt_w) h
theorem pdw_or1 (h : PDT X B a dt) : PDW X B (.BoolOp .Or [a] pos) dt := pdw_of (pw_or1 pt_w) h
theorem pdw_and (h : PDT X B a dt) (k : PDW X B (.BoolOp .And (b :: rest) pos) du) : PDW X B (.BoolOp .And (a :: b :: rest) pos) (dAnd dt du) := pdw_of (pw_and pt_w pw_w) (sim_and h k)
theorem pdw_or (h : PDT X B a dt) (k : PDW X B (.BoolOp .Or (b :: rest) pos) du) : PDW X B (.BoolOp .Or (a :: b :: rest) pos) (dOr dt du) := pdw_of (pw_or pt_w pw_w) (sim_or h k)
theorem pdt_not (h : PDT X B a dt) : PDT X B (.UnaryOp .Not a pos) (dNot dt) := pdt_of (pt_not pt_w) (sim_not h)
/-- .. as values, all of them bools -/
def dAndV (da db : DE) : DE := fun σ S Q => da σ S fun x S1 => match x with
  | .bl true => db σ S1 Q
  | .bl false => Q (.bl false) S1
  | _ => False
def dOrV (da db : DE) : DE := fun σ S Q => da σ S fun x S1 => match x with
  | .bl true => Q (.bl true) S1
  | .bl false => db σ S1 Q
  | _ => False
def dNotV (da : DE) : DE := fun σ S Q => da σ S fun x S1 => match x with
  | .bl c => Q (.bl (!c)) S1
  | _ => False
theorem sim_andV (ha : SimE K B da ta) (hb : SimE K B db tb) : SimE K B (dAndV da db) (tAndV ta tb) := by
  intro F σ S σV H Q QV R q P
  refine ha F σ S σV H _ _ R q fun x v F1 S1 H1 f1 r1 d1 q1 => ?_
  cases d1 with
  | bl c =>
    refine ⟨c, rfl, ?_⟩
    cases c with
    | true => exact hb F1 σ S1 σV H1 Q QV (R.step f1 r1) q1 (P.step f1)
    | false => exact P _ _ F1 S1 H1 f1 r1 (.bl false) q1
  | _ => exact q1.elim
theorem sim_orV (ha : SimE K B da ta) (hb : SimE K B db tb) : SimE K B (dOrV da db) (tOrV ta tb) := by
  intro F σ S σV H Q QV R q P
  refine ha F σ S σV H _ _ R q fun x v F1 S1 H1 f1 r1 d1 q1 => ?_
  cases d1 with
  | bl c =>
    refine ⟨c, rfl, ?_⟩
    cases c with
    | false => exact hb F1 σ S1 σV H1 Q QV (R.step f1 r1) q1 (P.step f1)
    | true => exact P _ _ F1 S1 H1 f1 r1 (.bl true) q1
  | _ => exact q1.elim
theorem sim_notV (ha : SimE K B da ta) : SimE K B (dNotV da) (tNotV ta) := by
  intro F σ S σV H Q QV R q P
  refine ha F σ S σV H _ _ R q fun x v F1 S1 H1 f1 r1 d1 q1 => ?_
  cases d1 with
  | bl c => exact ⟨c, rfl, P _ _ F1 S1 H1 f1 r1 (.bl (!c)) q1⟩
  | _ => exact q1.elim
theorem pd_one {op} (h : PD X B a d) : PD X B (.BoolOp op [a] pos) d := pd_of (pe_one pe_w) h
theorem pd_and (ha : PD X B a da) (hb : PD X B (.BoolOp .And (b :: rest) pos) db) : PD X B (.BoolOp .And (a :: b :: rest) pos) (dAndV da db) := pd_of (pe_and pe_w pe_w) (sim_andV ha hb)
theorem pd_or (ha : PD X B a da) (hb : PD X B (.BoolOp .Or (b :: rest) pos) db) : PD X B (.BoolOp .Or (a :: b :: rest) pos) (dOrV da db) := pd_of (pe_or pe_w pe_w) (sim_orV ha hb)
theorem pd_not (h : PD X B a da) : PD X B (.UnaryOp .Not a pos) (dNotV da) := pd_of (pe_not pe_w) (sim_notV h)
def dIf (t : DT) (da db : DE) : DE := fun σ S Q => t σ S fun c S1 => if c = true then da σ S1 Q else db σ S1 Q
theorem sim_if (h : SimT K B dt tt) (ha : SimE K B da ta) (hb : SimE K B db tb) : SimE K B (dIf dt da db) (tIf tt ta tb) := by
  intro F σ S σV H Q QV R q P
  refine h F σ S σV H _ _ R q fun c F1 S1 H1 f1 r1 q1 => ?_
  cases c with
  | true => exact ha F1 σ S1 σV H1 Q QV (R.step f1 r1) q1 (P.step f1)
  | false => exact hb F1 σ S1 σV H1 Q QV (R.step f1 r1) q1 (P.step f1)
theorem pd_if (h : PDT X B c dt) (ha : PD X B a da) (hb : PD X B b db) : PD X B (.IfExp c a b pos) (dIf dt da db) := pd_of (pe_ifExp pt_w pe_w pe_w) (sim_if h ha hb)

/-! ### arguments, displays -/
def dNil : DA := fun _ S Q => Q [] S
def dCons (da : DE) (dr : DA) : DA := fun σ S Q => da σ S fun x S1 => dr σ S1 fun xs S2 => Q (x :: xs) S2
theorem sim_nil : SimA K B 0 dNil tNil := fun F σ S σV H Q QV R q P => P [] [] F S H Fr.refl R.st .nil rfl q
theorem sim_cons {dr : DA} {tr : TA} (ha : SimE K B da ta) (hr : SimA K B n dr tr) : SimA K B (n + 1) (dCons da dr) (tCons ta tr) := by
  intro F σ S σV H Q QV R q P
  refine ha F σ S σV H _ _ R q fun x v F1 S1 H1 f1 r1 d1 q1 => ?_
  refine hr F1 σ S1 σV H1 _ _ (R.step f1 r1) q1 fun xs vs F2 S2 H2 f2 r2 d2 l2 q2 => ?_
  exact P (x :: xs) (v :: vs) F2 S2 H2 (f1.trans f2) r2 (.cons (d1.mono r1 f2) d2) (by rw [List.length_cons, l2]) q2
theorem pda_nil : PDA X B [] 0 dNil := pda_of pa_nil sim_nil
theorem pda_cons {dr : DA} (ha : PD X B e da) (hr : PDA X B es n dr) (hs : starEach (e :: es) X.env = (false, eval e X.env) :: starEach es X.env := by rfl) : PDA X B (e :: es) (n + 1) (dCons da dr) := pda_of (pa_cons pe_w pa_w hs) (sim_cons ha hr)
def dTup (da : DA) : DE := fun σ S Q => da σ S fun xs S1 => Q (.tup xs) S1
theorem sim_tup {da : DA} {ta : TA} (hn : n ≤ sizeLine) (h : SimA K B n da ta) : SimE K B (dTup da) (tTup ta) := by
  intro F σ S σV H Q QV R q P
  refine h F σ S σV H _ _ R q fun xs vs F1 S1 H1 f1 r1 d1 l1 q1 => ⟨by rw [← d1.length, l1]; exact hn, fun p hp => ?_⟩
  exact P _ _ F1 S1 _ (f1.trans (fr_newD hp)) (r1.newD hp) (.tup (SqT.of upd_same) (d1.mono r1 (fr_newD hp))) q1
theorem pd_tup {x1} {da : DA} (h : PDA X B es n da) (hn : n ≤ sizeLine := by decide) : PD X B (.Tuple es x1 pos) (dTup da) := pd_of (pe_tup pa_w) (sim_tup hn h)
/-- a list that stays as it is, a list that will change -/
def dLst (da : DA) : DE := fun σ S Q => da σ S fun xs S1 => Q (.lst xs) S1
def dLstM (da : DA) : DE := fun σ S Q => da σ S fun xs S1 => ∀ p, S1 p = none → Q (.obj p) (put S1 p (.lst xs))
theorem sim_lst {da : DA} {ta : TA} (hn : n ≤ sizeLine) (h : SimA K B n da ta) : SimE K B (dLst da) (tLst ta) := by
  intro F σ S σV H Q QV R q P
  refine h F σ S σV H _ _ R q fun xs vs F1 S1 H1 f1 r1 d1 l1 q1 => ⟨by rw [← d1.length, l1]; exact hn, fun p hp => ?_⟩
  exact P _ _ _ S1 _ (f1.trans (fr_newF hp)) (r1.newF hp) (.lst upd_same (.inl rfl) (d1.mono r1 (fr_newF hp))) q1
theorem sim_lstM {da : DA} {ta : TA} (hn : n ≤ sizeLine) (h : SimA K B n da ta) : SimE K B (dLstM da) (tLst ta) := by
  intro F σ S σV H Q QV R q P
  refine h F σ S σV H _ _ R q fun xs vs F1 S1 H1 f1 r1 d1 l1 q1 => ⟨by rw [← d1.length, l1]; exact hn, fun p hp => ?_⟩
  exact P _ _ F1 _ _ (f1.trans (fr_new hp)) (r1.new (o := .lst xs) hp ⟨vs, upd_same, d1.mono r1 (fr_newD hp)⟩) (.obj p) (q1 p (r1.free hp))
theorem pd_lst {da : DA} (h : PDA X B es n da) (hn : n ≤ sizeLine := by decide) : PD X B (.List es pos) (dLst da) := pd_of (pe_lst pa_w) (sim_lst hn h)
theorem pd_lstM {da : DA} (h : PDA X B es n da) (hn : n ≤ sizeLine := by decide) : PD X B (.List es pos) (dLstM da) := pd_of (pe_lst pa_w) (sim_lstM hn h)
/-- a list of the store stays as it is from here on -/
def dFrz (da : DE) : DE := fun σ S Q => da σ S fun x S1 => match x with
  | .obj p => match S1 p with
    | some (.lst l) => Q (.lst l) (rid S1 p)
    | some (.dic l) => Q (.dic l) (rid S1 p)
    | _ => False
  | _ => False
theorem sim_frz (h : SimE K B d t) : SimE K B (dFrz d) t := by
  intro F σ S σV H Q QV R q P
  refine h F σ S σV H _ _ R q fun x v F1 S1 H1 f1 r1 d1 q1 => ?_
  cases d1 with
  | obj p =>
    dsimp only at q1
    cases e : S1 p with
    | none => rw [e] at q1; exact q1.elim
    | some o =>
      rw [e] at q1
      obtain ⟨_, ro⟩ := r1.ob p o e
      cases o with
      | lst l =>
        obtain ⟨vs, hv, rv⟩ := ro
        exact P _ _ _ _ H1 (f1.trans (fr_frz e)) (r1.frz e) (.lst hv (.inl rfl) (rv.mono r1 (fr_frz e))) q1
      | dic l =>
        obtain ⟨vs, hv, rv⟩ := ro
        exact P _ _ _ _ H1 (f1.trans (fr_frz e)) (r1.frz e) (.dic hv (.inl rfl) (rv.mono r1 (fr_frz e))) q1
      | ins c fs => exact q1.elim
  | _ => exact q1.elim
theorem pd_frz (h : PD X B e d) : PD X B e (dFrz d) := sim_frz h
end
end DL
/-! DL3: operators, subscripts, built-in calls over data. -/
namespace DL
open PySem PySem.Spec PyProof.Rows L2

def ofO {α : Type} (o : Option α) (k : α → Prop) : Prop := match o with
  | some v => k v
  | none => False
theorem ofO_some {α : Type} {v : α} {k : α → Prop} : ofO (some v) k = k v := rfl
theorem ofO_ex {α : Type} {o : Option α} {k : α → Prop} (h : ofO o k) : ∃ v, o = some v ∧ k v := by
  cases o with
  | none => exact h.elim
  | some v => exact ⟨v, rfl, h⟩
theorem ofO_of {α : Type} {o : Option α} {k : α → Prop} {v : α} (e : o = some v) (h : k v) : ofO o k := by rw [e]; exact h

def asL (S : Store) : D → Option (List D)
  | .lst l => some l
  | .scr l => some l
  | .obj p => match S p with
    | some (.lst l) => some l
    | _ => none
  | _ => none
def asT : D → Option (List D)
  | .tup l => some l
  | _ => none
def asK (S : Store) : D → Option (List (String × D))
  | .dic k => some k
  | .obj p => match S p with
    | some (.dic k) => some k
    | _ => none
  | _ => none
section
variable {K : PySem.W.Frag} {ca : Nat → Addr} {F F' : Addr → Prop} {S S' : Store} {H H' : Hp} {B : Bc} {Q : QE} {QV : VK} {d : D} {v : V} {l : List D}
theorem asL_rel (r : RelS K ca F S H) (q : RelD K F H d v) (e : asL S d = some l) : ∃ a vs, v = .ref a ∧ SqL K H a vs ∧ RelDs K F H l vs := by
  cases q with
  | lst h f q => cases e; exact ⟨_, _, rfl, SqL.of h, q⟩
  | scr h q => cases e; exact ⟨_, _, rfl, h.sq, q⟩
  | obj p =>
    have e : (match S p with | some (Ob.lst m) => some m | _ => none) = some l := e
    cases w : S p with
    | none => rw [w] at e; cases e
    | some o =>
      rw [w] at e
      cases o with
      | lst m =>
        cases e
        obtain ⟨_, vs, h, q⟩ := r.ob p _ w
        exact ⟨_, _, rfl, SqL.of h, q⟩
      | _ => cases e
  | _ => cases e
theorem asT_rel (q : RelD K F H d v) (e : asT d = some l) : ∃ a vs, v = .ref a ∧ SqT K H a vs ∧ RelDs K F H l vs := by
  cases q with
  | tup h q => cases e; exact ⟨_, _, rfl, h, q⟩
  | _ => cases e
theorem asK_rel {l : List (String × D)} (r : RelS K ca F S H) (q : RelD K F H d v) (e : asK S d = some l) : ∃ a vs, v = .ref a ∧ H a = some (.dK vs) ∧ RelKs K F H l vs := by
  cases q with
  | dic h f q => cases e; exact ⟨_, _, rfl, h, q⟩
  | obj p =>
    have e : (match S p with | some (Ob.dic m) => some m | _ => none) = some l := e
    cases w : S p with
    | none => rw [w] at e; cases e
    | some o =>
      rw [w] at e
      cases o with
      | dic m =>
        cases e
        obtain ⟨_, vs, h, q⟩ := r.ob p _ w
        exact ⟨_, _, rfl, h, q⟩
      | _ => cases e
  | _ => cases e
theorem atI_rel {vs : List V} (q : RelDs K F H l vs) {i : Int} {x : D} (e : atI l i = some x) : ∃ u, atI vs i = some u ∧ RelD K F H x u := by
  unfold atI at e ⊢
  rw [← q.length]
  cases w : ixN l.length i with
  | none => rw [w] at e; cases e
  | some j =>
    rw [w] at e
    exact q.get e
theorem ks_lookup {kd : List (String × D)} {kv : List (Key × V)} (q : RelKs K F H kd kv) (k : String) :
    (∀ x, kd.lookup k = some x → ∃ u, valV kv (.inr (Str.ofString k)) = some u ∧ RelD K F H x u) ∧ (kd.lookup k = none → valV kv (.inr (Str.ofString k)) = none) := by
  induction kd generalizing kv with
  | nil => cases q; exact ⟨fun x e => (by cases e), fun _ => rfl⟩
  | cons p r ih =>
    cases q with
    | @cons s d v _ vs h q =>
      by_cases e : k = s
      · subst e
        refine ⟨fun x ex => ?_, fun ex => ?_⟩
        · rw [List.lookup_cons_self] at ex
          cases ex
          exact ⟨v, valV_pos rfl, h⟩
        · rw [List.lookup_cons_self] at ex; cases ex
      · have ne : ¬ (Sum.inr (Str.ofString s) : Key) = Sum.inr (Str.ofString k) := fun z => e (ofS_inj (Sum.inr.inj z)).symm
        have nb : (k == s) = false := by simpa using e
        rw [List.lookup_cons, nb, valV_neg ne]
        exact ih q
theorem ks_len {kd : List (String × D)} {kv : List (Key × V)} (q : RelKs K F H kd kv) : kd.length = kv.length := by
  induction kd generalizing kv with
  | nil => cases q; rfl
  | cons p r ih => cases q with | cons h q => rw [List.length_cons, List.length_cons, ih q]

/-! ### texts, once more -/
theorem ofS_app (a b : String) : Str.ofString a ++ Str.ofString b = Str.ofString (a ++ b) := by
  show Str.append _ _ = _
  unfold Str.append
  rw [ofS_eq, ofS_eq, ofS_eq]
  simp
theorem ofS_len (a : String) : (Str.ofString a).length = a.length := by
  rw [ofS_eq]
  simp [Str.length, String.length_toList]
theorem ofS_cps (a : String) : (Str.ofString a).cps.toList = a.toList.map Char.toNat := by
  rw [ofS_eq]
theorem ofS_one (c : Char) : Str.ofString (String.singleton c) = ⟨#[c.toNat]⟩ := by
  rw [ofS_eq]
  simp

/-! ### + - * // % and the like -/
abbrev lim : Nat := 16777216
theorem lim_eq : sizeLine = lim := sizeLine_eq
def dAdd : DR2 := fun x y S Q => match x, y with
  | .int i, .int j => Q (.int (i + j)) S
  | .str a, .str b => a.length + b.length ≤ lim ∧ Q (.str (a ++ b)) S
  | .lst a, .lst b => a.length + b.length ≤ lim ∧ Q (.lst (a ++ b)) S
  | .tup a, .tup b => a ≠ [] ∧ a.length + b.length ≤ lim ∧ Q (.tup (a ++ b)) S
  | _, _ => False
theorem op_addD {X : Cx} : OpR X (binaryOp .Add) (fun x y H Q => (rI0 (fun i j => .int (i + j)) x y H Q) ∨ (∃ i j, x = .str i ∧ y = .str j ∧ i.length + j.length ≤ sizeLine ∧ Q (.str (i ++ j)) H) ∨ rCat x y H Q ∨ rCatT X.K x y H Q) :=
  OpR.or op_add (OpR.or op_add_str (OpR.or op_cat op_catT))
theorem vr_add : VR2 K ca dAdd (fun x y H Q => (rI0 (fun i j => .int (i + j)) x y H Q) ∨ (∃ i j, x = .str i ∧ y = .str j ∧ i.length + j.length ≤ sizeLine ∧ Q (.str (i ++ j)) H) ∨ rCat x y H Q ∨ rCatT K x y H Q) := by
  intro F S H x y v u Q QV r rx ry q P
  have hl := lim_eq
  cases rx with
  | int i => cases ry with
    | int j => exact .inl ⟨i, j, rfl, rfl, P.at r (.int _) q⟩
    | _ => exact q.elim
  | str a => cases ry with
    | str b =>
      obtain ⟨h, q⟩ := q
      refine .inr (.inl ⟨_, _, rfl, rfl, by rw [ofS_len, ofS_len, hl]; exact h, ?_⟩)
      rw [ofS_app]
      exact P.at r (.str _) q
    | _ => exact q.elim
  | lst h f q1 => cases ry with
    | lst h2 f2 q2 =>
      obtain ⟨h3, q⟩ := q
      refine .inr (.inr (.inl ⟨_, _, _, _, rfl, rfl, h, h2, by rw [← q1.length, ← q2.length, hl]; exact h3, fun p hp => ?_⟩))
      exact P _ _ _ _ _ (fr_newF hp) (r.newF hp) (.lst upd_same (.inl rfl) ((q1.append q2).mono r (fr_newF hp))) q
    | _ => exact q.elim
  | tup h q1 => cases ry with
    | tup h2 q2 =>
      obtain ⟨hn, h3, q⟩ := q
      refine .inr (.inr (.inr ⟨_, _, _, _, rfl, rfl, h, h2, fun z => ?_, by rw [← q1.length, ← q2.length, hl]; exact h3, fun z => ?_, fun z p hp => ?_⟩))
      · subst z
        cases q1
        exact hn rfl
      · subst z
        cases q2
        rw [List.append_nil] at q
        exact P.at r (.tup h q1) q
      · exact P _ _ _ _ _ (fr_newD hp) (r.newD hp) (.tup (SqT.of upd_same) ((q1.append q2).mono r (fr_newD hp))) q
    | _ => exact q.elim
  | _ => exact q.elim
def dInt2 (C : Int → Int → Prop) (g : Int → Int → D) : DR2 := fun x y S Q => match x, y with
  | .int i, .int j => C i j ∧ Q (g i j) S
  | _, _ => False
def dInt0 (g : Int → Int → D) : DR2 := fun x y S Q => match x, y with
  | .int i, .int j => Q (g i j) S
  | _, _ => False
theorem vr_int2 {C C' : Int → Int → Prop} {g : Int → Int → D} {g' : Int → Int → V} (hC : ∀ i j, C i j → C' i j) (hg : ∀ i j F H, RelD K F H (g i j) (g' i j)) : VR2 K ca (dInt2 C g) (rI C' g') := by
  intro F S H x y v u Q QV r rx ry q P
  cases rx with
  | int i => cases ry with
    | int j => exact ⟨i, j, rfl, rfl, hC i j q.1, P.at r (hg i j F H) q.2⟩
    | _ => exact q.elim
  | _ => exact q.elim
theorem vr_int0 {g : Int → Int → D} {g' : Int → Int → V} (hg : ∀ i j F H, RelD K F H (g i j) (g' i j)) : VR2 K ca (dInt0 g) (rI0 g') := by
  intro F S H x y v u Q QV r rx ry q P
  cases rx with
  | int i => cases ry with
    | int j => exact ⟨i, j, rfl, rfl, P.at r (hg i j F H) q⟩
    | _ => exact q.elim
  | _ => exact q.elim
abbrev dSub : DR2 := dInt0 fun i j => .int (i - j)
abbrev dMul : DR2 := dInt2 CMul fun i j => .int (i * j)
abbrev dDiv : DR2 := dInt2 CDiv fun i j => .int (i / j)
abbrev dMod : DR2 := dInt2 (fun _ j => 0 < j) fun i j => .int (i % j)
abbrev dLt : DR2 := dInt0 fun i j => .bl (decide (i < j))
abbrev dLe : DR2 := dInt0 fun i j => .bl (decide (i ≤ j))
abbrev dGt : DR2 := dInt0 fun i j => .bl (decide (j < i))
abbrev dGe : DR2 := dInt0 fun i j => .bl (decide (j ≤ i))
theorem vr_sub : VR2 K ca dSub (rI0 fun i j => .int (i - j)) := vr_int0 fun _ _ _ _ => .int _
theorem vr_mul : VR2 K ca dMul (rI CMul fun i j => .int (i * j)) := vr_int2 (fun _ _ h => h) fun _ _ _ _ => .int _
theorem vr_div : VR2 K ca dDiv (rI CDiv fun i j => .int (i / j)) := vr_int2 (fun _ _ h => h) fun _ _ _ _ => .int _
theorem vr_mod : VR2 K ca dMod (rI (fun _ j => 0 < j) fun i j => .int (i % j)) := vr_int2 (fun _ _ h => h) fun _ _ _ _ => .int _
theorem vr_lt : VR2 K ca dLt (rI0 fun i j => .bl (decide (i < j))) := vr_int0 fun _ _ _ _ => .bl _
theorem vr_le : VR2 K ca dLe (rI0 fun i j => .bl (decide (i ≤ j))) := vr_int0 fun _ _ _ _ => .bl _
theorem vr_gt : VR2 K ca dGt (rI0 fun i j => .bl (decide (j < i))) := vr_int0 fun _ _ _ _ => .bl _
theorem vr_ge : VR2 K ca dGe (rI0 fun i j => .bl (decide (j ≤ i))) := vr_int0 fun _ _ _ _ => .bl _
def dNeg : DR1 := fun x S Q => match x with
  | .int i => Q (.int (-i)) S
  | _ => False
theorem vr_neg : VR1 K ca dNeg (rU fun i => .int (-i)) := by
  intro F S H x v Q QV r rx q P
  cases rx with
  | int i => exact ⟨i, rfl, P.at r (.int _) q⟩
  | _ => exact q.elim

/-! ### == of data -/
mutual
def toP : D → PyData
  | .non => .none
  | .bl b => .bool b
  | .int i => .int i
  | .str s => .str (Str.ofString s)
  | .tup l => .tuple (toPs l)
  | .lst l => .list (toPs l)
  | _ => .none
def toPs : List D → List PyData
  | [] => []
  | d :: l => toP d :: toPs l
end
mutual
/-- no dicts, no things of the store in it -/
def plainD : D → Bool
  | .non => true
  | .bl _ => true
  | .int _ => true
  | .str _ => true
  | .tup l => plainDs l
  | .lst l => plainDs l
  | _ => false
def plainDs : List D → Bool
  | [] => true
  | d :: l => plainD d && plainDs l
end
mutual
def depD : D → Nat
  | .tup l => depDs l + 1
  | .lst l => depDs l + 1
  | _ => 0
def depDs : List D → Nat
  | [] => 0
  | d :: l => max (depD d) (depDs l)
end
mutual
def eqD : D → D → Bool
  | .non, .non => true
  | .bl a, .bl b => a == b
  | .bl a, .int b => (if a then 1 else 0) == b
  | .int a, .bl b => a == (if b then 1 else 0)
  | .int a, .int b => a == b
  | .str a, .str b => a == b
  | .tup a, .tup b => eqDs a b
  | .lst a, .lst b => eqDs a b
  | _, _ => false
def eqDs : List D → List D → Bool
  | [], [] => true
  | x :: xs, y :: ys => eqD x y && eqDs xs ys
  | _, _ => false
end
end

mutual
theorem eqv_toP : ∀ x y : D, plainD x = true → plainD y = true → PyData.eqv (toP x) (toP y) = eqD x y
  | .non, y, _, hy => by cases y <;> first | rfl | cases hy
  | .bl b, y, _, hy => by cases y <;> first | rfl | cases hy
  | .int b, y, _, hy => by cases y <;> first | rfl | cases hy
  | .str b, y, _, hy => by
    cases y <;> first | rfl | cases hy | skip
    rename_i c
    show ((Str.ofString b == Str.ofString c) : Bool) = (b == c)
    by_cases e : b = c
    · subst e; simp
    · have e' : ¬ Str.ofString b = Str.ofString c := fun z => e (ofS_inj z)
      rw [beq_eq_false_iff_ne.mpr e, beq_eq_false_iff_ne.mpr e']
  | .tup l, y, hx, hy => by
    cases y with
    | tup m => exact eqvs_toP l m hx hy
    | _ => first | rfl | cases hy
  | .lst l, y, hx, hy => by
    cases y with
    | lst m => exact eqvs_toP l m hx hy
    | _ => first | rfl | cases hy
  | .dic _, _, hx, _ => by cases hx
  | .scr _, _, hx, _ => by cases hx
  | .obj _, _, hx, _ => by cases hx
  | .ty _, _, hx, _ => by cases hx
theorem eqvs_toP : ∀ xs ys : List D, plainDs xs = true → plainDs ys = true → PyData.eqvAll (toPs xs) (toPs ys) = eqDs xs ys
  | [], [], _, _ => rfl
  | [], _ :: _, _, _ => rfl
  | _ :: _, [], _, _ => rfl
  | x :: xs, y :: ys, hx, hy => by
    have hx' := Bool.and_eq_true_iff.mp (show (plainD x && plainDs xs) = true from hx)
    have hy' := Bool.and_eq_true_iff.mp (show (plainD y && plainDs ys) = true from hy)
    show (PyData.eqv (toP x) (toP y) && PyData.eqvAll (toPs xs) (toPs ys)) = (eqD x y && eqDs xs ys)
    rw [eqv_toP x y hx'.1 hy'.1, eqvs_toP xs ys hx'.2 hy'.2]
end
theorem strOk_ofS (s : String) : PyData.strOk (Str.ofString s) = true := by
  unfold PyData.strOk
  rw [ofS_eq]
  simp only [List.all_toArray, List.all_map, List.all_eq_true]
  intro c _
  have h := c.valid
  simp only [UInt32.isValidChar, Nat.isValidChar] at h
  show decide (c.val.toNat < 0x110000) = true
  exact decide_eq_true (by omega)
mutual
theorem canLay_toP : ∀ x : D, plainD x = true → (toP x).canLay0 = true
  | .non, _ => rfl
  | .bl _, _ => rfl
  | .int _, _ => rfl
  | .str s, _ => strOk_ofS s
  | .tup l, h => canLays_toP l h
  | .lst l, h => canLays_toP l h
  | .dic _, h => by cases h
  | .scr _, h => by cases h
  | .obj _, h => by cases h
  | .ty _, h => by cases h
theorem canLays_toP : ∀ xs : List D, plainDs xs = true → PyData.canLayAll0 (toPs xs) = true
  | [], _ => rfl
  | x :: xs, h => by
    have h' := Bool.and_eq_true_iff.mp (show (plainD x && plainDs xs) = true from h)
    show ((toP x).canLay0 && PyData.canLayAll0 (toPs xs)) = true
    rw [canLay_toP x h'.1, canLays_toP xs h'.2]
    rfl
end
mutual
theorem depth_toP : ∀ x : D, (toP x).depth = depD x
  | .non => rfl
  | .bl _ => rfl
  | .int _ => rfl
  | .str s => rfl
  | .tup l => congrArg (· + 1) (depths_toP l)
  | .lst l => congrArg (· + 1) (depths_toP l)
  | .dic _ => rfl
  | .scr _ => rfl
  | .obj _ => rfl
  | .ty _ => rfl
theorem depths_toP : ∀ xs : List D, PyData.depthAll (toPs xs) = depDs xs
  | [] => rfl
  | x :: xs => by
    show max (toP x).depth (PyData.depthAll (toPs xs)) = max (depD x) (depDs xs)
    rw [depth_toP x, depths_toP xs]
end
def okD (x : D) : Bool := plainD x && decide (depD x ≤ 64)
theorem shaped_toP {x : D} (h : okD x = true) : SeqAt.shaped (toP x) = true := by
  have h' := Bool.and_eq_true_iff.mp h
  unfold SeqAt.shaped
  rw [canLay_toP x h'.1, depth_toP]
  exact h'.2
section
variable {K : PySem.W.Frag} {ca : Nat → Addr} {F F' : Addr → Prop} {S S' : Store} {H H' : Hp} {B : Bc} {Q : QE} {QV : VK} {d : D} {v : V} {l : List D}
mutual
theorem dp_toP : ∀ {d : D} {v : V}, RelD K F H d v → plainD d = true → Dp K H v (toP d)
  | _, _, .non, _ => .non
  | _, _, .bl b, _ => .bl b
  | _, _, .int i, _ => .int i
  | _, _, .str s, _ => .str _
  | _, _, .tup h q, p => .tup h (dps_toP q p)
  | _, _, .lst h f q, p => .lst (SqL.of h) (dps_toP q p)
  | _, _, .dic _ _ _, p => by cases p
  | _, _, .scr _ _, p => by cases p
  | _, _, .obj _, p => by cases p
  | _, _, .ty _, p => by cases p
theorem dps_toP : ∀ {d : List D} {v : List V}, RelDs K F H d v → plainDs d = true → DpAll K H v (toPs d)
  | _, _, .nil, _ => .nil
  | _, _, .cons h q, p =>
    have p' := Bool.and_eq_true_iff.mp (show (plainD _ && plainDs _) = true from p)
    .cons (dp_toP h p'.1) (dps_toP q p'.2)
end
/-- what a comparison sees of a list that may change -/
def sees (S : Store) : D → D
  | .obj p => match S p with
    | some (.lst l) => .lst l
    | _ => .obj p
  | x => x
theorem dp_sees (r : RelS K ca F S H) (h : RelD K F H d v) (p : plainD (sees S d) = true) : Dp K H v (toP (sees S d)) := by
  cases h with
  | obj a =>
    cases e : S a with
    | none => rw [show sees S (.obj a) = .obj a by simp [sees, e]] at p; cases p
    | some o =>
      cases o with
      | lst l =>
        rw [show sees S (.obj a) = .lst l by simp [sees, e]] at p ⊢
        obtain ⟨_, vs, hv, rv⟩ := r.ob a _ e
        exact .lst (SqL.of hv) (dps_toP rv p)
      | dic l => rw [show sees S (.obj a) = .obj a by simp [sees, e]] at p; cases p
      | ins c l => rw [show sees S (.obj a) = .obj a by simp [sees, e]] at p; cases p
  | non => exact dp_toP (F := F) .non p
  | bl b => exact dp_toP (F := F) (.bl b) p
  | int i => exact dp_toP (F := F) (.int i) p
  | str i => exact dp_toP (F := F) (.str i) p
  | tup h q => exact dp_toP (.tup h q) p
  | lst h f q => exact dp_toP (.lst h f q) p
  | dic _ _ _ => cases p
  | scr _ _ => cases p
  | ty _ => cases p
def dEq : DR2 := fun x y S Q => okD (sees S x) = true ∧ okD (sees S y) = true ∧ Q (.bl (eqD (sees S x) (sees S y))) S
def dNe : DR2 := fun x y S Q => okD (sees S x) = true ∧ okD (sees S y) = true ∧ Q (.bl (!eqD (sees S x) (sees S y))) S
theorem vr_eq : VR2 K ca dEq (rEqD K) := by
  intro F S H x y v u Q QV r rx ry q P
  obtain ⟨hx, hy, q⟩ := q
  have px := (Bool.and_eq_true_iff.mp hx).1
  have py := (Bool.and_eq_true_iff.mp hy).1
  refine ⟨toP (sees S x), toP (sees S y), dp_sees r rx px, dp_sees r ry py, shaped_toP hx, shaped_toP hy, ?_⟩
  rw [eqv_toP _ _ px py]
  exact P.at r (.bl _) q
theorem vr_ne : VR2 K ca dNe (rNeD K) := by
  intro F S H x y v u Q QV r rx ry q P
  obtain ⟨hx, hy, q⟩ := q
  have px := (Bool.and_eq_true_iff.mp hx).1
  have py := (Bool.and_eq_true_iff.mp hy).1
  refine ⟨toP (sees S x), toP (sees S y), dp_sees r rx px, dp_sees r ry py, shaped_toP hx, shaped_toP hy, ?_⟩
  rw [eqv_toP _ _ px py]
  exact P.at r (.bl _) q
/-- is None -/
def isNonD : D → Bool
  | .non => true
  | _ => false
def dIs : DR2 := fun x y S Q => match y with
  | .non => Q (.bl (isNonD x)) S
  | _ => False
def dIsNot : DR2 := fun x y S Q => match y with
  | .non => Q (.bl (!isNonD x)) S
  | _ => False
theorem isNon_rel (rx : RelD K F H d v) : decide (v = .non) = isNonD d := by
  cases rx <;> first | rfl | exact decide_eq_false (fun z => by cases z)
theorem vr_is : VR2 K ca dIs (fun x y H Q => y = .non ∧ Q (.bl (decide (x = .non))) H) := by
  intro F S H x y v u Q QV r rx ry q P
  cases ry with
  | non =>
    refine ⟨rfl, ?_⟩
    rw [isNon_rel rx]
    exact P.at r (.bl _) q
  | _ => exact q.elim
theorem vr_isnot : VR2 K ca dIsNot (fun x y H Q => y = .non ∧ Q (.bl (!decide (x = .non))) H) := by
  intro F S H x y v u Q QV r rx ry q P
  cases ry with
  | non =>
    refine ⟨rfl, ?_⟩
    rw [isNon_rel rx]
    exact P.at r (.bl _) q
  | _ => exact q.elim

/-! ### in -/
def flatD : D → Bool
  | .non => true
  | .bl _ => true
  | .int _ => true
  | .str _ => true
  | _ => false
theorem flat_rel (rx : RelD K F H d v) (h : flatD d = true) : flatV v = true := by
  cases rx <;> first | rfl | cases h
theorem flats_rel : ∀ {l : List D} {vs : List V}, RelDs K F H l vs → l.all flatD = true → vs.all flatV = true
  | _, _, .nil, _ => rfl
  | _, _, .cons h q, p => by
    rw [List.all_cons, Bool.and_eq_true] at p ⊢
    exact ⟨flat_rel h p.1, flats_rel q p.2⟩
theorem eqV_rel {x y : D} {v u : V} (rx : RelD K F H x v) (ry : RelD K F H y u) (hx : flatD x = true) (hy : flatD y = true) : eqV v u = eqD x y := by
  cases rx with
  | str b =>
    cases ry with
    | str c =>
      show ((Str.ofString b == Str.ofString c) : Bool) = (b == c)
      by_cases e : b = c
      · subst e; simp
      · have e' : ¬ Str.ofString b = Str.ofString c := fun z => e (ofS_inj z)
        rw [beq_eq_false_iff_ne.mpr e, beq_eq_false_iff_ne.mpr e']
    | _ => first | rfl | cases hy
  | _ => first | (cases ry <;> first | rfl | cases hy) | cases hx
def inD (x : D) (l : List D) : Bool := l.any fun y => eqD y x
theorem inV_rel {x : D} {v : V} (rx : RelD K F H x v) (hx : flatD x = true) : ∀ {l : List D} {vs : List V}, RelDs K F H l vs → l.all flatD = true → inV v vs = inD x l
  | _, _, .nil, _ => rfl
  | _, _, .cons h q, p => by
    rw [List.all_cons, Bool.and_eq_true] at p
    show (eqV _ v || inV v _) = (eqD _ x || inD x _)
    rw [eqV_rel h rx p.1 hx, inV_rel rx hx q p.2]
def inR (neg : Bool) (b : Bool) : Bool := if neg then !b else b
def dIn (neg : Bool) : DR2 := fun x y S Q => match asK S y with
  | some kd => match x with
    | .str k => Q (.bl (inR neg (kd.lookup k).isSome)) S
    | _ => False
  | none => match y with
    | .str t => match x with
      | .str c => match c.toList with
        | [ch] => Q (.bl (inR neg (decide (ch ∈ t.toList)))) S
        | _ => False
      | _ => False
    | .tup l => flatD x = true ∧ l.all flatD = true ∧ Q (.bl (inR neg (inD x l))) S
    | _ => match asL S y with
      | some l => flatD x = true ∧ l.all flatD = true ∧ Q (.bl (inR neg (inD x l))) S
      | none => False
def rInK (neg : Bool) : R2 := fun y x H Q => ∃ a o, x = .ref a ∧ DGet H a y o ∧ Q (.bl (inR neg o.isSome)) H
theorem op_inK {X : Cx} (hu : X.A.units + 1 < cLine) : OpR X (compareOp .In) (rInK false) := by
  intro pins s σ H x y v u Q I rx ry h
  obtain ⟨a, o, rfl, g, q⟩ := h
  obtain rfl : u = Value.ref a := ry
  exact d_in hu I g rx fun s1 I1 => ⟨.bl o.isSome, H, I1, rfl, q⟩
theorem op_ninK {X : Cx} (hu : X.A.units + 1 < cLine) : OpR X (compareOp .NotIn) (rInK true) := by
  intro pins s σ H x y v u Q I rx ry h
  obtain ⟨a, o, rfl, g, q⟩ := h
  obtain rfl : u = Value.ref a := ry
  exact d_notIn hu I g rx fun s1 I1 => ⟨.bl (!o.isSome), H, I1, rfl, q⟩
def rInC (neg : Bool) : R2 := fun x y H Q => ∃ (c : Nat) (z : Str), x = .str ⟨#[c]⟩ ∧ y = .str z ∧ Q (.bl (inR neg (decide (c ∈ z.cps.toList)))) H
theorem op_inC {X : Cx} : OpR X (compareOp .In) (rInC false) := op_in_sign
theorem op_ninC {X : Cx} : OpR X (compareOp .NotIn) (rInC true) := op_notIn_sign
theorem op_inD {X : Cx} (hu : X.A.units + 1 < cLine) : OpR X (compareOp .In) (fun x y H Q => rInK false x y H Q ∨ rInC false x y H Q ∨ rIn X.K false x y H Q) := OpR.or (op_inK hu) (OpR.or op_inC op_in_seq)
theorem op_ninD {X : Cx} (hu : X.A.units + 1 < cLine) : OpR X (compareOp .NotIn) (fun x y H Q => rInK true x y H Q ∨ rInC true x y H Q ∨ rIn X.K true x y H Q) := OpR.or (op_ninK hu) (OpR.or op_ninC op_notIn_seq)
theorem mem_nat {c : Char} {l : List Char} : c.toNat ∈ l.map Char.toNat ↔ c ∈ l := by
  rw [List.mem_map]
  exact ⟨fun ⟨x, h, e⟩ => charNat_inj e ▸ h, fun h => ⟨c, h, rfl⟩⟩
theorem dIn_seq {neg : Bool} {x : D} {v u : V} {a : Addr} {vs : List V} {l : List D} (r : RelS K ca F S H) (rx : RelD K F H x v) (e : u = .ref a) (hs : SqL K H a vs ∨ SqT K H a vs) (ql : RelDs K F H l vs)
    (h : flatD x = true ∧ l.all flatD = true ∧ Q (.bl (inR neg (inD x l))) S) (P : PostE K ca F S H Q QV) : rIn K neg v u H QV := by
  refine ⟨a, vs, e, hs, flat_rel rx h.1, flats_rel ql h.2.1, ?_⟩
  rw [inV_rel rx h.1 ql h.2.1]
  exact P.at r (.bl _) h.2.2
theorem vr_in (neg : Bool) : VR2 K ca (dIn neg) (fun x y H Q => rInK neg x y H Q ∨ rInC neg x y H Q ∨ rIn K neg x y H Q) := by
  intro F S H x y v u Q QV r rx ry q P
  unfold dIn at q
  cases ek : asK S y with
  | some kd =>
    rw [ek] at q
    obtain ⟨a, vs, eu, hd, qk⟩ := asK_rel r ry ek
    cases rx with
    | str k =>
      left
      refine ⟨a, valV vs (.inr (Str.ofString k)), eu, DGet.k (k := .inr (Str.ofString k)) hd, ?_⟩
      have e2 : (valV vs (.inr (Str.ofString k))).isSome = (kd.lookup k).isSome := by
        cases w : kd.lookup k with
        | none => rw [(ks_lookup qk k).2 w]; rfl
        | some z => obtain ⟨u', e', _⟩ := (ks_lookup qk k).1 z w; rw [e']; rfl
      rw [e2]
      exact P.at r (.bl _) q
    | _ => exact q.elim
  | none =>
    rw [ek] at q
    cases hy : y with
    | tup l =>
      subst hy
      obtain ⟨a, vs, eu, hs, ql⟩ := asT_rel ry rfl
      exact .inr (.inr (dIn_seq r rx eu (.inr hs) ql q P))
    | str t =>
      subst hy
      cases ry
      cases rx with
      | str c =>
        right; left
        dsimp only at q
        split at q
        · rename_i ch hc
          have ec : c = String.singleton ch := by
            rw [← String.ofList_toList (s := c), hc]
            rfl
          refine ⟨ch.toNat, Str.ofString t, by rw [ec, ofS_one], rfl, ?_⟩
          have e3 : decide (ch.toNat ∈ (Str.ofString t).cps.toList) = decide (ch ∈ t.toList) := by
            rw [ofS_cps]
            exact decide_eq_decide.mpr mem_nat
          rw [e3]
          exact P.at r (.bl _) q
        · exact q.elim
      | _ => exact q.elim
    | lst l =>
      subst hy
      obtain ⟨a, vs, eu, hs, ql⟩ := asL_rel r ry rfl
      exact .inr (.inr (dIn_seq r rx eu (.inl hs) ql q P))
    | scr l =>
      subst hy
      obtain ⟨a, vs, eu, hs, ql⟩ := asL_rel r ry rfl
      exact .inr (.inr (dIn_seq r rx eu (.inl hs) ql q P))
    | obj p =>
      subst hy
      dsimp only at q
      cases w : asL S (.obj p) with
      | none => rw [w] at q; exact q.elim
      | some l =>
        rw [w] at q
        obtain ⟨a, vs, eu, hs, ql⟩ := asL_rel r ry w
        exact .inr (.inr (dIn_seq r rx eu (.inl hs) ql q P))
    | dic k => subst hy; cases ek
    | non => subst hy; exact q.elim
    | bl b => subst hy; exact q.elim
    | int b => subst hy; exact q.elim
    | ty b => subst hy; exact q.elim

/-! ### x[i] -/
def dIx : DR2 := fun x y S Q => match y with
  | .int i => match x with
    | .tup l => ofO (atI l i) fun z => Q z S
    | .str t => t.length ≤ lim ∧ ofO (atI t.toList i) fun c => Q (.str (String.singleton c)) S
    | _ => ofO (asL S x) fun l => ofO (atI l i) fun z => Q z S
  | .str k => ofO (asK S x) fun kd => ofO (kd.lookup k) fun z => Q z S
  | _ => False
def rIxK : R2 := fun x y H Q => ∃ a v, x = .ref a ∧ DGet H a y (some v) ∧ Q v H
theorem ix_dict {X : Cx} (hu : X.A.units + 1 < cLine) : IxR X rIxK := by
  intro value slice pins s σ H x y v u Q I rx ry h hs
  obtain ⟨a, w, rfl, g, q⟩ := h
  obtain rfl : v = Value.ref a := rx
  exact tail_any (dict_typeIs I g) PySem.F.slot_dict_getitem.lookup (d_getItem hu I g ry fun w' s1 I1 rw' => ⟨w, H, I1, rw', q⟩) hs
theorem ix_D {X : Cx} (hu : X.A.units + 1 < cLine) : IxR X (fun x y H Q => rIx X.K x y H Q ∨ rIxK x y H Q) := IxR.or ix_seq (ix_dict hu)
theorem atI_map {α β : Type} {f : α → β} {l : List α} {i : Int} {x : α} (e : atI l i = some x) : atI (l.map f) i = some (f x) := by
  unfold atI at e ⊢
  rw [List.length_map]
  cases w : ixN l.length i with
  | none => rw [w] at e; cases e
  | some j =>
    rw [w] at e
    have e' : l[j]? = some x := e
    show (l.map f)[j]? = some (f x)
    rw [List.getElem?_map, e']
    rfl
theorem vr_ix : VR2 K ca dIx (fun x y H Q => rIx K x y H Q ∨ rIxK x y H Q) := by
  intro F S H x y v u Q QV r rx ry q P
  cases ry with
  | int i =>
    left
    have seq : ∀ {l : List D}, asL S x = some l → (ofO (atI l i) fun z => Q z S) → rIx K v (.int i) H QV := fun {l} e q => by
      obtain ⟨z, ez, q⟩ := ofO_ex q
      obtain ⟨a, vs, ev, hs, ql⟩ := asL_rel r rx e
      obtain ⟨w, ew, rw'⟩ := atI_rel ql ez
      exact .inl ⟨a, vs, i, w, ev, rfl, hs, ew, P.at r rw' q⟩
    cases hx : x with
    | tup l =>
      subst hx
      obtain ⟨z, ez, q⟩ := ofO_ex q
      obtain ⟨a, vs, ev, hs, ql⟩ := asT_rel rx rfl
      obtain ⟨w, ew, rw'⟩ := atI_rel ql ez
      exact .inr (.inl ⟨a, vs, i, w, ev, rfl, hs, ew, P.at r rw' q⟩)
    | str t =>
      subst hx
      cases rx
      obtain ⟨hl, q⟩ := q
      obtain ⟨c, ec, q⟩ := ofO_ex q
      refine .inr (.inr ⟨_, i, c.toNat, rfl, rfl, by rw [ofS_len, lim_eq]; exact hl, ?_, ?_⟩)
      · rw [ofS_cps]
        exact atI_map ec
      · rw [← ofS_one]
        exact P.at r (.str _) q
    | lst l => subst hx; exact seq rfl q
    | scr l => subst hx; exact seq rfl q
    | obj p =>
      subst hx
      obtain ⟨l, e, q⟩ := ofO_ex q
      exact seq e q
    | dic k => subst hx; exact q.elim
    | non => subst hx; exact q.elim
    | bl b => subst hx; exact q.elim
    | int b => subst hx; exact q.elim
    | ty b => subst hx; exact q.elim
  | str k =>
    right
    obtain ⟨kd, ek, q⟩ := ofO_ex q
    obtain ⟨z, ez, q⟩ := ofO_ex q
    obtain ⟨a, vs, ev, hd, qk⟩ := asK_rel r rx ek
    obtain ⟨w, ew, rw'⟩ := (ks_lookup qk k).1 z ez
    refine ⟨a, w, ev, ?_, P.at r rw' q⟩
    rw [← ew]
    exact DGet.k (k := .inr (Str.ofString k)) hd
  | _ => exact q.elim
end
end DL
/-! DL4: slices, truth, calls, fields over data. -/
namespace DL
open PySem PySem.Spec PyProof.Rows L2

section
variable {K : PySem.W.Frag} {ca : Nat → Addr} {F F' : Addr → Prop} {S S' : Store} {H H' : Hp} {B : Bc} {Q : QE} {QV : VK} {d : D} {v : V} {l : List D} {X : Cx} {a b e o : Expr} {es : List Expr} {da db dd : DE} {ta tb : TE} {pos p2 : Pos} {n : Nat} {σ : DEnv} {σV : L2.St}
theorem pd_ix (hu : X.A.units + 1 < cLine) (ha : PD X B a da) (hb : PD X B b db) (hs : PlainIx b := by exact fun _ _ => rfl) : PD X B (.Subscript a b pos) (dOp dIx da db) := pd_of (pe_ix (ix_D hu) pe_w pe_w hs) (sim_op vr_ix ha hb)

/-! ### slices -/
abbrev DO := DEnv → Store → (Option Int → Store → Prop) → Prop
def PostO (K : PySem.W.Frag) (ca : Nat → Addr) (F : Addr → Prop) (S : Store) (H : Hp) (Q : Option Int → Store → Prop) (QV : Option Int → Hp → Prop) : Prop :=
  ∀ x F' S' H', Fr F S H F' S' H' → RelS K ca F' S' H' → Q x S' → QV x H'
def SimO (K : PySem.W.Frag) (B : Bc) (d : DO) (t : TO) : Prop := ∀ F σ S σV H Q QV, Rel K B F σ S σV H → d σ S Q → PostO K B.ca F S H Q QV → t σV H QV
def dNoPart : DO := fun _ S Q => Q none S
def dPart (d : DE) : DO := fun σ S Q => d σ S fun x S1 => match x with
  | .int i => Q (some i) S1
  | _ => False
theorem sim_noPart : SimO K B dNoPart tNoPart := fun F σ S σV H Q QV R q P => P none F S H Fr.refl R.st q
theorem sim_part (h : SimE K B da ta) : SimO K B (dPart da) (tPart ta) := by
  intro F σ S σV H Q QV R q P
  refine h F σ S σV H _ _ R q fun x v F1 S1 H1 f1 r1 d1 q1 => ?_
  cases d1 with
  | int i => exact ⟨i, rfl, P (some i) F1 S1 H1 f1 r1 q1⟩
  | _ => exact q1.elim
def PDO (X : Cx) (B : Bc) (e : Option Expr) (d : DO) : Prop := ∃ t, PO X e t ∧ SimO X.K B d t
theorem pdo_none : PDO X B none dNoPart := ⟨_, po_none, sim_noPart⟩
theorem pdo_some (h : PD X B e da) : PDO X B (some e) (dPart da) := ⟨_, po_some pe_w, sim_part h⟩
def cutD {α : Type} (xs : List α) (lo hi : Option Int) : List α := (xs.drop (HT.sIx xs.length 0 lo)).take (HT.sIx xs.length xs.length hi - HT.sIx xs.length 0 lo)
theorem cut_rel {vs : List V} (q : RelDs K F H l vs) (lo hi : Option Int) : RelDs K F H (cutD l lo hi) (cutV vs lo hi) := by
  unfold cutD cutV
  rw [q.length]
  exact (q.drop _).take _
abbrev DSl := D → Option Int → Option Int → Store → QE → Prop
/-- of a tuple, never the whole of it; of a list, a new one that stays -/
def slD : DSl := fun x lo hi S Q => match x with
  | .tup l => ¬ (HT.sIx l.length 0 lo = 0 ∧ HT.sIx l.length l.length hi = l.length) ∧ Q (.tup (cutD l lo hi)) S
  | _ => ofO (asL S x) fun l => Q (.lst (cutD l lo hi)) S
def slM : DSl := fun x lo hi S Q => ofO (asL S x) fun l => ∀ p, S p = none → Q (.obj p) (put S p (.lst (cutD l lo hi)))
def VRS (K : PySem.W.Frag) (ca : Nat → Addr) (dr : DSl) (r : V → Option Int → Option Int → Hp → VK → Prop) : Prop :=
  ∀ F S H x v lo hi Q QV, RelS K ca F S H → RelD K F H x v → dr x lo hi S Q → PostE K ca F S H Q QV → r v lo hi H QV
theorem vr_slL (r : RelS K ca F S H) {x : D} {v : V} (rx : RelD K F H x v) {lo hi : Option Int} (q : ofO (asL S x) fun l => Q (.lst (cutD l lo hi)) S) (P : PostE K ca F S H Q QV) : rSlL K v lo hi H QV := by
  obtain ⟨l, e, q⟩ := ofO_ex q
  obtain ⟨a, vs, ev, hs, ql⟩ := asL_rel r rx e
  refine ⟨a, vs, ev, hs, fun p hp => ?_⟩
  exact P _ _ _ _ _ (fr_newF hp) (r.newF hp) (.lst upd_same (.inl rfl) ((cut_rel ql lo hi).mono r (fr_newF hp))) q
theorem vr_sl : VRS K ca slD (fun x lo hi H Q => rSlL K x lo hi H Q ∨ rSlT K x lo hi H Q) := by
  intro F S H x v lo hi Q QV r rx q P
  cases hx : x with
  | tup l =>
    subst hx
    obtain ⟨hn, q⟩ := q
    obtain ⟨a, vs, ev, hs, ql⟩ := asT_rel rx rfl
    refine .inr ⟨a, vs, ev, hs, by rw [← ql.length]; exact hn, fun p hp => ?_⟩
    exact P _ _ _ _ _ (fr_newD hp) (r.newD hp) (.tup (SqT.of upd_same) ((cut_rel ql lo hi).mono r (fr_newD hp))) q
  | lst l => subst hx; exact .inl (vr_slL r rx q P)
  | scr l => subst hx; exact .inl (vr_slL r rx q P)
  | obj p => subst hx; exact .inl (vr_slL r rx q P)
  | _ => subst hx; exact q.elim
theorem vr_slM : VRS K ca slM (fun x lo hi H Q => rSlL K x lo hi H Q ∨ rSlT K x lo hi H Q) := by
  intro F S H x v lo hi Q QV r rx q P
  obtain ⟨l, e, q⟩ := ofO_ex q
  obtain ⟨a, vs, ev, hs, ql⟩ := asL_rel r rx e
  refine .inl ⟨a, vs, ev, hs, fun p hp => ?_⟩
  exact P _ _ _ _ _ (fr_new (o := .lst (cutD l lo hi)) hp) (r.new hp ⟨_, upd_same, (cut_rel ql lo hi).mono r (fr_newD hp)⟩) (.obj p) (q p (r.free hp))
def dSl (dr : DSl) (da : DE) (dl dh : DO) : DE := fun σ S Q => da σ S fun x S1 => dl σ S1 fun lo S2 => dh σ S2 fun hi S3 => dr x lo hi S3 Q
theorem sim_sl {dr : DSl} {r : V → Option Int → Option Int → Hp → VK → Prop} (hr : VRS K B.ca dr r) {dl dh : DO} {tl th : TO} (ha : SimE K B da ta) (hl : SimO K B dl tl) (hh : SimO K B dh th) : SimE K B (dSl dr da dl dh) (tSl r ta tl th) := by
  intro F σ S σV H Q QV R q P
  refine ha F σ S σV H _ _ R q fun x v F1 S1 H1 f1 r1 d1 q1 => ?_
  refine hl F1 σ S1 σV H1 _ _ (R.step f1 r1) q1 fun lo F2 S2 H2 f2 r2 q2 => ?_
  refine hh F2 σ S2 σV H2 _ _ (R.step (f1.trans f2) r2) q2 fun hi F3 S3 H3 f3 r3 q3 => ?_
  exact hr F3 S3 H3 x v lo hi Q QV r3 (d1.mono r1 (f2.trans f3)) q3 (P.step (f1.trans (f2.trans f3)))
theorem pd_sl {lo hi : Option Expr} {dl dh : DO} (ha : PD X B e da) (hl : PDO X B lo dl) (hh : PDO X B hi dh) : PD X B (.Subscript e (.Slice lo hi none p2) pos) (dSl slD da dl dh) := by
  obtain ⟨tl, pl, sl⟩ := hl
  obtain ⟨th, ph, sh⟩ := hh
  exact pd_of (pe_slice (SlR.or sl_list sl_tup) pe_w pl ph) (sim_sl vr_sl ha sl sh)
theorem pd_slM {lo hi : Option Expr} {dl dh : DO} (ha : PD X B e da) (hl : PDO X B lo dl) (hh : PDO X B hi dh) : PD X B (.Subscript e (.Slice lo hi none p2) pos) (dSl slM da dl dh) := by
  obtain ⟨tl, pl, sl⟩ := hl
  obtain ⟨th, ph, sh⟩ := hh
  exact pd_of (pe_slice (SlR.or sl_list sl_tup) pe_w pl ph) (sim_sl vr_slM ha sl sh)

/-! ### truth -/
def truD (S : Store) (x : D) : Option Bool := match x with
  | .non => some false
  | .bl b => some b
  | .int i => some (i != 0)
  | .tup l => some (!l.isEmpty)
  | .str s => if s.length ≤ lim then some ((s.length : Int) != 0) else none
  | _ => match asL S x with
    | some l => some (!l.isEmpty)
    | none => match asK S x with
      | some k => some (!k.isEmpty)
      | none => none
def dTru (d : DE) : DT := fun σ S Q => d σ S fun x S1 => ofO (truD S1 x) fun k => Q k S1
theorem isEmpty_rel {α β : Type} {xs : List α} {ys : List β} (h : xs.length = ys.length) : (!xs.isEmpty) = !ys.isEmpty := by
  cases xs <;> cases ys <;> first | rfl | cases h
theorem truD_rel (r : RelS K ca F S H) (rx : RelD K F H d v) {k : Bool} (e : truD S d = some k) : TruV K v H k := by
  have seq : ∀ {p : Addr}, v = .ref p → (match asL S d with | some l => some (!l.isEmpty) | none => match asK S d with | some k => some (!k.isEmpty) | none => none) = some k → TruV K v H k := fun {p} ev e => by
    cases w : asL S d with
    | some l =>
      rw [w] at e
      cases e
      obtain ⟨a, vs, ev', hs, ql⟩ := asL_rel r rx w
      subst ev'
      exact .inl ⟨vs, hs, isEmpty_rel ql.length⟩
    | none =>
      rw [w] at e
      cases w2 : asK S d with
      | some kd =>
        rw [w2] at e
        cases e
        obtain ⟨a, vs, ev', hs, ql⟩ := asK_rel r rx w2
        subst ev'
        exact .inr (.inr ⟨vs, hs, isEmpty_rel (ks_len ql)⟩)
      | none => rw [w2] at e; cases e
  cases rx with
  | non => cases e; rfl
  | bl b => cases e; rfl
  | int i => cases e; rfl
  | str s =>
    have e : (if s.length ≤ lim then some ((s.length : Int) != 0) else none) = some k := e
    by_cases hl : s.length ≤ lim
    · rw [if_pos hl] at e
      cases e
      exact ⟨by rw [ofS_len, lim_eq]; exact hl, by rw [ofS_len]⟩
    · rw [if_neg hl] at e; cases e
  | tup h q =>
    cases e
    exact .inr (.inl ⟨_, h, isEmpty_rel q.length⟩)
  | lst h f q => exact seq rfl e
  | dic h f q => exact seq rfl e
  | scr h q => exact seq rfl e
  | obj p => exact seq rfl e
  | ty n => cases e
theorem pdt_tru (h : PD X B a da) (he : ∀ whole, isTrue a X.env whole = (do let v ← whole; standAt a.pos; holding [v] (truthy v)) := by intro _; rfl) : PDT X B a (dTru da) := by
  refine pdt_of (pt_truth pe_w he) ?_
  intro F σ S σV H Q QV R q P
  refine h F σ S σV H _ _ R q fun x v F1 S1 H1 f1 r1 d1 q1 => ?_
  obtain ⟨k, e, q1⟩ := ofO_ex q1
  exact ⟨k, truD_rel r1 d1 e, P k F1 S1 H1 f1 r1 q1⟩

/-! ### built-in functions -/
abbrev DC := List D → Store → QE → Prop
def VRC (K : PySem.W.Frag) (ca : Nat → Addr) (dr : DC) (r : List V → Hp → VK → Prop) : Prop := ∀ F S H xs vs Q QV, RelS K ca F S H → RelDs K F H xs vs → dr xs S Q → PostE K ca F S H Q QV → r vs H QV
def dCB (dr : DC) (da : DA) : DE := fun σ S Q => da σ S fun xs S1 => dr xs S1 Q
theorem sim_cb {dr : DC} {r : List V → Hp → VK → Prop} {da : DA} {ta : TA} (hr : VRC K B.ca dr r) (h : SimA K B n da ta) : SimE K B (dCB dr da) (tCB r ta) := by
  intro F σ S σV H Q QV R q P
  refine h F σ S σV H _ _ R q fun xs vs F1 S1 H1 f1 r1 d1 _ q1 => ?_
  exact hr F1 S1 H1 xs vs Q QV r1 d1 q1 (P.step f1)
theorem pd_callB {x : Str} {p : Pos} {id : String} {dr : DC} {r : List V → Hp → VK → Prop} {da : DA} (hc : CallR X (.builtin id) r) (hr : VRC X.K B.ca dr r) (hg : Gl X x) (hm : X.mg x = none) (hv : bootBuiltins x = some (.builtin id)) (ha : PDA X B (e :: es) n da)
    (hn : x ≠ "__name__" := by decide) (hdb : (x == ("__debug__" : Str)) = false := by decide) (he : starEach (e :: es) X.env = (false, eval e X.env) :: starEach es X.env := by rfl) (hpl : (backTo pos (starEach es X.env)).any (·.1) = false := by rfl) :
    PD X B (.Call (.Name x p) (e :: es) [] pos) (dCB dr da) := pd_of (pe_callB hc hg hm hv pa_w hn hdb he hpl) (sim_cb hr ha)
theorem pd_callTy {x : Str} {p : Pos} {T : String} {dr : DC} {r : List V → Hp → VK → Prop} {da : DA} (hc : CallR X (.type T) r) (hr : VRC X.K B.ca dr r) (hg : Gl X x) (hm : X.mg x = none) (hv : bootBuiltins x = some (.type T)) (ha : PDA X B (e :: es) n da)
    (hn : x ≠ "__name__" := by decide) (hdb : (x == ("__debug__" : Str)) = false := by decide) (he : starEach (e :: es) X.env = (false, eval e X.env) :: starEach es X.env := by rfl) (hpl : (backTo pos (starEach es X.env)).any (·.1) = false := by rfl) :
    PD X B (.Call (.Name x p) (e :: es) [] pos) (dCB dr da) := pd_of (pe_callTy hc hg hm hv pa_w hn hdb he hpl) (sim_cb hr ha)
def lenD (S : Store) (x : D) : Option Nat := match x with
  | .tup l => some l.length
  | .str s => if s.length ≤ lim then some s.length else none
  | _ => match asL S x with
    | some l => some l.length
    | none => none
def bLen : DC := fun xs S Q => match xs with
  | [x] => ofO (lenD S x) fun n => Q (.int n) S
  | _ => False
theorem lenD_rel (r : RelS K ca F S H) (rx : RelD K F H d v) {k : Nat} (e : lenD S d = some k) : LenV K v H k := by
  have seq : ∀ {p : Addr}, v = .ref p → (match asL S d with | some l => some l.length | none => none) = some k → LenV K v H k := fun {p} ev e => by
    cases w : asL S d with
    | some l =>
      rw [w] at e
      cases e
      obtain ⟨a, vs, ev', hs, ql⟩ := asL_rel r rx w
      subst ev'
      exact .inl ⟨vs, hs, ql.length⟩
    | none => rw [w] at e; cases e
  cases rx with
  | non => cases e
  | bl b => cases e
  | int i => cases e
  | str s =>
    have e : (if s.length ≤ lim then some s.length else none) = some k := e
    by_cases hl : s.length ≤ lim
    · rw [if_pos hl] at e
      cases e
      exact ⟨by rw [ofS_len, lim_eq]; exact hl, by rw [ofS_len]⟩
    · rw [if_neg hl] at e; cases e
  | tup h q => cases e; exact .inr ⟨_, h, q.length⟩
  | lst h f q => exact seq rfl e
  | dic h f q => exact seq rfl e
  | scr h q => exact seq rfl e
  | obj p => exact seq rfl e
  | ty n => cases e
theorem vrc_len : VRC K ca bLen (fun xs H Q => ∃ x n, xs = [x] ∧ LenV K x H n ∧ Q (.int n) H) := by
  intro F S H xs vs Q QV r rx q P
  match xs, vs, rx, q with
  | [x], _, .cons h .nil, q =>
    obtain ⟨n, e, q⟩ := ofO_ex q
    exact ⟨_, n, rfl, lenD_rel r h e, P.at r (.int _) q⟩
def bAbs : DC := fun xs S Q => match xs with
  | [.int i] => Q (.int (if i < 0 then -i else i)) S
  | _ => False
theorem vrc_abs : VRC K ca bAbs (fun xs H Q => ∃ i, xs = [.int i] ∧ Q (.int (if i < 0 then -i else i)) H) := by
  intro F S H xs vs Q QV r rx q P
  match xs, vs, rx, q with
  | [.int i], _, .cons (.int _) .nil, q => exact ⟨i, rfl, P.at r (.int _) q⟩
def bInt : DC := fun xs S Q => match xs with
  | [.int i] => Q (.int i) S
  | [.bl b] => Q (.int (if b then 1 else 0)) S
  | _ => False
theorem vrc_int : VRC K ca bInt (fun xs H Q => (∃ i, xs = [.int i] ∧ Q (.int i) H) ∨ ∃ k, xs = [.bl k] ∧ Q (.int (if k then 1 else 0)) H) := by
  intro F S H xs vs Q QV r rx q P
  match xs, vs, rx, q with
  | [.int i], _, .cons (.int _) .nil, q => exact .inl ⟨i, rfl, P.at r (.int _) q⟩
  | [.bl b], _, .cons (.bl _) .nil, q => exact .inr ⟨b, rfl, P.at r (.int _) q⟩
def bStr : DC := fun xs S Q => match xs with
  | [.int i] => i.natAbs < 2 ^ 64 ∧ Q (.str (toString i)) S
  | _ => False
theorem log2_lt {n : Nat} (h : n < 2 ^ 64) : n.log2 < 1920 := by
  by_cases e : n = 0
  · subst e; decide
  · have h1 : n.log2 < 64 := (Nat.log2_lt e).mpr h
    omega
theorem vrc_str : VRC K ca bStr (fun xs H Q => ∃ i, xs = [.int i] ∧ i.natAbs.log2 < 1920 ∧ Q (.str (toString i)) H) := by
  intro F S H xs vs Q QV r rx q P
  match xs, vs, rx, q with
  | [.int i], _, .cons (.int _) .nil, q => exact ⟨i, rfl, log2_lt q.1, P.at r (.str _) q.2⟩
def bMax2 : DC := fun xs S Q => match xs with
  | [.int i, .int j] => Q (.int (if j > i then j else i)) S
  | _ => False
theorem vrc_max2 : VRC K ca bMax2 (fun xs H Q => ∃ i j, xs = [.int i, .int j] ∧ Q (.int (if j > i then j else i)) H) := by
  intro F S H xs vs Q QV r rx q P
  match xs, vs, rx, q with
  | [.int i, .int j], _, .cons (.int _) (.cons (.int _) .nil), q => exact ⟨i, j, rfl, P.at r (.int _) q⟩
/-- a list, a tuple, copied into a new list, a new tuple -/
def asQ (S : Store) (x : D) : Option (List D) := match x with
  | .tup l => some l
  | _ => asL S x
theorem asQ_rel (r : RelS K ca F S H) (q : RelD K F H d v) (e : asQ S d = some l) : ∃ a vs, v = .ref a ∧ (SqL K H a vs ∨ SqT K H a vs) ∧ RelDs K F H l vs := by
  cases hd : d with
  | tup m =>
    subst hd
    cases e
    obtain ⟨a, vs, ev, hs, ql⟩ := asT_rel q rfl
    exact ⟨a, vs, ev, .inr hs, ql⟩
  | _ =>
    subst hd
    obtain ⟨a, vs, ev, hs, ql⟩ := asL_rel r q e
    exact ⟨a, vs, ev, .inl hs, ql⟩
def bList : DC := fun xs S Q => match xs with
  | [x] => ofO (asQ S x) fun l => Q (.lst l) S
  | _ => False
def bListM : DC := fun xs S Q => match xs with
  | [x] => ofO (asQ S x) fun l => ∀ p, S p = none → Q (.obj p) (put S p (.lst l))
  | _ => False
def bTuple : DC := fun xs S Q => match xs with
  | [x] => ofO (asQ S x) fun l => Q (.tup l) S
  | _ => False
theorem vrc_list : VRC K ca bList (fun xs H Q => ∃ p ys, xs = [.ref p] ∧ (SqL K H p ys ∨ SqT K H p ys) ∧ ∀ l, H l = none → Q (.ref l) (upd H l (.lst ys))) := by
  intro F S H xs vs Q QV r rx q P
  match xs, vs, rx, q with
  | [x], _, .cons h .nil, q =>
    obtain ⟨l, e, q⟩ := ofO_ex q
    obtain ⟨a, vs, ev, hs, ql⟩ := asQ_rel r h e
    refine ⟨a, vs, by rw [ev], hs, fun p hp => ?_⟩
    exact P _ _ _ _ _ (fr_newF hp) (r.newF hp) (.lst upd_same (.inl rfl) (ql.mono r (fr_newF hp))) q
theorem vrc_listM : VRC K ca bListM (fun xs H Q => ∃ p ys, xs = [.ref p] ∧ (SqL K H p ys ∨ SqT K H p ys) ∧ ∀ l, H l = none → Q (.ref l) (upd H l (.lst ys))) := by
  intro F S H xs vs Q QV r rx q P
  match xs, vs, rx, q with
  | [x], _, .cons h .nil, q =>
    obtain ⟨l, e, q⟩ := ofO_ex q
    obtain ⟨a, vs, ev, hs, ql⟩ := asQ_rel r h e
    refine ⟨a, vs, by rw [ev], hs, fun p hp => ?_⟩
    exact P _ _ _ _ _ (fr_new (o := .lst l) hp) (r.new hp ⟨_, upd_same, ql.mono r (fr_newD hp)⟩) (.obj p) (q p (r.free hp))
theorem vrc_tuple : VRC K ca bTuple (fun xs H Q => ∃ p ys, xs = [.ref p] ∧ ((SqL K H p ys ∧ ∀ l, H l = none → Q (.ref l) (upd H l (.tup ys))) ∨ (SqT K H p ys ∧ Q (.ref p) H))) := by
  intro F S H xs vs Q QV r rx q P
  match xs, vs, rx, q with
  | [x], _, .cons h .nil, q =>
    obtain ⟨l, e, q⟩ := ofO_ex q
    obtain ⟨a, vs, ev, hs, ql⟩ := asQ_rel r h e
    refine ⟨a, vs, by rw [ev], ?_⟩
    rcases hs with hs | hs
    · refine .inl ⟨hs, fun p hp => ?_⟩
      exact P _ _ _ _ _ (fr_newD hp) (r.newD hp) (.tup (SqT.of upd_same) (ql.mono r (fr_newD hp))) q
    · exact .inr ⟨hs, P.at r (.tup hs ql) q⟩
def blsOf : List D → Option (List Bool)
  | [] => some []
  | .bl b :: r => (blsOf r).map (b :: ·)
  | _ => none
def intsOf : List D → Option (List Int)
  | [] => some []
  | .int b :: r => (intsOf r).map (b :: ·)
  | _ => none
theorem bls_rel : ∀ {l : List D} {vs : List V} {bs : List Bool}, RelDs K F H l vs → blsOf l = some bs → vs = bs.map V.bl
  | [], _, _, .nil, e => by cases e; rfl
  | .bl b :: r, _, _, .cons (.bl _) q, e => by
    obtain ⟨bs, e1, e2⟩ := Option.map_eq_some_iff.mp (show (blsOf r).map (b :: ·) = some _ from e)
    subst e2
    rw [bls_rel q e1]
    rfl
  | .non :: _, _, _, _, e => by cases e
  | .int _ :: _, _, _, _, e => by cases e
  | .str _ :: _, _, _, _, e => by cases e
  | .tup _ :: _, _, _, _, e => by cases e
  | .lst _ :: _, _, _, _, e => by cases e
  | .dic _ :: _, _, _, _, e => by cases e
  | .scr _ :: _, _, _, _, e => by cases e
  | .obj _ :: _, _, _, _, e => by cases e
  | .ty _ :: _, _, _, _, e => by cases e
theorem ints_rel : ∀ {l : List D} {vs : List V} {bs : List Int}, RelDs K F H l vs → intsOf l = some bs → vs = bs.map V.int
  | [], _, _, .nil, e => by cases e; rfl
  | .int b :: r, _, _, .cons (.int _) q, e => by
    obtain ⟨bs, e1, e2⟩ := Option.map_eq_some_iff.mp (show (intsOf r).map (b :: ·) = some _ from e)
    subst e2
    rw [ints_rel q e1]
    rfl
  | .non :: _, _, _, _, e => by cases e
  | .bl _ :: _, _, _, _, e => by cases e
  | .str _ :: _, _, _, _, e => by cases e
  | .tup _ :: _, _, _, _, e => by cases e
  | .lst _ :: _, _, _, _, e => by cases e
  | .dic _ :: _, _, _, _, e => by cases e
  | .scr _ :: _, _, _, _, e => by cases e
  | .obj _ :: _, _, _, _, e => by cases e
  | .ty _ :: _, _, _, _, e => by cases e
def bAll : DC := fun xs S Q => match xs with
  | [x] => ofO (asL S x) fun l => ofO (blsOf l) fun bs => Q (.bl (bs.all id)) S
  | _ => False
def bAny : DC := fun xs S Q => match xs with
  | [x] => ofO (asL S x) fun l => ofO (blsOf l) fun bs => Q (.bl (bs.any id)) S
  | _ => False
def bSum : DC := fun xs S Q => match xs with
  | [x] => ofO (asL S x) fun l => ofO (intsOf l) fun bs => Q (.int bs.sum) S
  | _ => False
theorem vrc_all : VRC K ca bAll (rAll K) := by
  intro F S H xs vs Q QV r rx q P
  match xs, vs, rx, q with
  | [x], _, .cons h .nil, q =>
    obtain ⟨l, e, q⟩ := ofO_ex q
    obtain ⟨bs, e2, q⟩ := ofO_ex q
    obtain ⟨a, vs, ev, hs, ql⟩ := asL_rel r h e
    rw [bls_rel ql e2] at hs
    exact ⟨a, bs, by rw [ev], hs, P.at r (.bl _) q⟩
theorem vrc_any : VRC K ca bAny (rAny K) := by
  intro F S H xs vs Q QV r rx q P
  match xs, vs, rx, q with
  | [x], _, .cons h .nil, q =>
    obtain ⟨l, e, q⟩ := ofO_ex q
    obtain ⟨bs, e2, q⟩ := ofO_ex q
    obtain ⟨a, vs, ev, hs, ql⟩ := asL_rel r h e
    rw [bls_rel ql e2] at hs
    exact ⟨a, bs, by rw [ev], hs, P.at r (.bl _) q⟩
theorem vrc_sum : VRC K ca bSum (rSum K) := by
  intro F S H xs vs Q QV r rx q P
  match xs, vs, rx, q with
  | [x], _, .cons h .nil, q =>
    obtain ⟨l, e, q⟩ := ofO_ex q
    obtain ⟨bs, e2, q⟩ := ofO_ex q
    obtain ⟨a, vs, ev, hs, ql⟩ := asL_rel r h e
    rw [ints_rel ql e2] at hs
    exact ⟨a, bs, by rw [ev], hs, P.at r (.int _) q⟩

/-! ### methods of built-in types -/
abbrev DM := D → List D → Store → QE → Prop
def VRM (K : PySem.W.Frag) (ca : Nat → Addr) (dr : DM) (r : V → List V → Hp → VK → Prop) : Prop := ∀ F S H x v xs vs Q QV, RelS K ca F S H → RelD K F H x v → RelDs K F H xs vs → dr x xs S Q → PostE K ca F S H Q QV → r v vs H QV
/-- x is of the type (list, str, dict) -/
def tyD (T : String) (S : Store) (x : D) : Prop := (T = "str" ∧ ∃ s, x = .str s) ∨ (T = "list" ∧ ∃ l, asL S x = some l) ∨ (T = "dict" ∧ ∃ l, asK S x = some l)
theorem tyD_rel {T : String} (r : RelS K ca F S H) (rx : RelD K F H d v) (h : tyD T S d) : tyV K T v H := by
  rcases h with ⟨e, s, hs⟩ | ⟨e, l, hs⟩ | ⟨e, l, hs⟩
  · subst hs; cases rx; exact e
  · obtain ⟨a, vs, ev, h, _⟩ := asL_rel r rx hs
    subst ev
    exact .inl ⟨e, _, h⟩
  · obtain ⟨a, vs, ev, h, _⟩ := asK_rel r rx hs
    subst ev
    exact .inr (.inr (.inl ⟨e, .inl ⟨_, h⟩⟩))
def dBM0 (T : String) (dr : DM) (da : DE) : DE := fun σ S Q => da σ S fun x S1 => tyD T S1 x ∧ dr x [] S1 Q
def dBM (T : String) (dr : DM) (da : DE) (dt : DA) : DE := fun σ S Q => da σ S fun x S1 => tyD T S1 x ∧ dt σ S1 fun xs S2 => dr x xs S2 Q
theorem sim_bm0 {T : String} {dr : DM} {r : V → List V → Hp → VK → Prop} (hr : VRM K B.ca dr r) (ha : SimE K B da ta) : SimE K B (dBM0 T dr da) (tBM0 K T r ta) := by
  intro F σ S σV H Q QV R q P
  refine ha F σ S σV H _ _ R q fun x v F1 S1 H1 f1 r1 d1 q1 => ?_
  exact ⟨tyD_rel r1 d1 q1.1, hr F1 S1 H1 x v [] [] Q QV r1 d1 .nil q1.2 (P.step f1)⟩
theorem sim_bm {T : String} {dr : DM} {r : V → List V → Hp → VK → Prop} {dt : DA} {tt : TA} (hr : VRM K B.ca dr r) (ha : SimE K B da ta) (ht : SimA K B n dt tt) : SimE K B (dBM T dr da dt) (tBM K T r ta tt) := by
  intro F σ S σV H Q QV R q P
  refine ha F σ S σV H _ _ R q fun x v F1 S1 H1 f1 r1 d1 q1 => ⟨tyD_rel r1 d1 q1.1, ?_⟩
  refine ht F1 σ S1 σV H1 _ _ (R.step f1 r1) q1.2 fun xs vs F2 S2 H2 f2 r2 d2 _ q2 => ?_
  exact hr F2 S2 H2 x v xs vs Q QV r2 (d1.mono r1 f2) d2 q2 (P.step (f1.trans f2))
theorem pd_bm0 {name : Str} {apos cpos : Pos} {T id : String} {dr : DM} {r : V → List V → Hp → VK → Prop} (pa : PlainAttrs T) (slot : Slot T name id) (hty : typeOf (.builtin id) = pure (.type "method_descriptor")) (hm : MtR X id r) (hr : VRM X.K B.ca dr r) (ho : PD X B o da)
    (hbase : attributeBase o name X.env (eval o X.env) = eval o X.env := by rfl) (hline : (apos.endLine == cpos.line) = true := by rfl) : PD X B (.Call (.Attribute o name apos) [] [] cpos) (dBM0 T dr da) :=
  pd_of (pe_bm0 pa slot hty hm pe_w hbase hline) (sim_bm0 hr ho)
theorem pd_bm {name : Str} {apos cpos : Pos} {T id : String} {dr : DM} {r : V → List V → Hp → VK → Prop} {dt : DA} (pa : PlainAttrs T) (slot : Slot T name id) (hty : typeOf (.builtin id) = pure (.type "method_descriptor")) (hm : MtR X id r) (hr : VRM X.K B.ca dr r) (ho : PD X B o da) (ha : PDA X B (e :: es) n dt)
    (hbase : attributeBase o name X.env (eval o X.env) = eval o X.env := by rfl)
    (hfew : ((backTo cpos (starEach (e :: es) X.env)).all (fun x => !x.1) && (backToKw cpos (keywordEach [] X.env)).all (fun x => x.1.isSome)
      && decide ((e :: es).length + ([] : List Keyword).length + (if ([] : List Keyword).isEmpty then 0 else 1) < 30)) = true := by rfl)
    (hline : (apos.endLine == cpos.line) = true := by rfl) (hs : starEach (e :: es) X.env = (false, eval e X.env) :: starEach es X.env := by rfl) (hplain : (backTo cpos (starEach es X.env)).any (·.1) = false := by rfl) :
    PD X B (.Call (.Attribute o name apos) (e :: es) [] cpos) (dBM T dr da dt) :=
  pd_of (pe_bm pa slot hty hm pe_w pa_w hbase hfew hline hs hplain) (sim_bm hr ho ha)
def mAppend : DM := fun x xs S Q => match x, xs with
  | .obj p, [y] => match S p with
    | some (.lst l) => l.length < lim ∧ Q .non (put S p (.lst (l ++ [y])))
    | _ => False
  | _, _ => False
def mPop : DM := fun x xs S Q => match x, xs with
  | .obj p, [] => match S p with
    | some (.lst l) => ofO l.getLast? fun y => Q y (put S p (.lst l.dropLast))
    | _ => False
  | _, _ => False
def mExtend : DM := fun x xs S Q => match x, xs with
  | .obj p, [y] => match S p with
    | some (.lst l) => ofO (asQ S y) fun m => l.length + m.length ≤ lim ∧ Q .non (put S p (.lst (l ++ m)))
    | _ => False
  | _, _ => False
theorem obj_at {p : Addr} {u : Ob} {k : List D → Prop} (q : match S p with | some (.lst l) => k l | _ => False) : ∃ l, S p = some (.lst l) ∧ k l := by
  cases e : S p with
  | none => rw [e] at q; exact q.elim
  | some o =>
    rw [e] at q
    cases o with
    | lst l => exact ⟨l, rfl, q⟩
    | _ => exact q.elim
theorem vrm_append : VRM K ca mAppend rAppend := by
  intro F S H x v xs vs Q QV r rx rs q P
  match x, v, xs, vs, rx, rs, q with
  | .obj p, _, [y], [yv], .obj _, .cons hy .nil, q =>
    obtain ⟨l, e, h, q⟩ := obj_at (u := .lst []) q
    obtain ⟨_, vs, hH, ql⟩ := r.ob p _ e
    refine ⟨p, vs, _, rfl, rfl, hH, by rw [← ql.length, lim_eq]; exact h, ?_⟩
    have f := fr_write (F := F) (S := S) (H := H) (o' := .lst (l ++ [y])) (u := .lst (vs ++ [yv])) e
    exact P .non _ F _ _ f (r.write e ⟨_, upd_same, (ql.append (.cons hy .nil)).mono r f⟩) .non q
theorem vrm_pop : VRM K ca mPop rPop := by
  intro F S H x v xs vs Q QV r rx rs q P
  match x, v, xs, vs, rx, rs, q with
  | .obj p, _, [], _, .obj _, .nil, q =>
    obtain ⟨l, e, q⟩ := obj_at (u := .lst []) q
    obtain ⟨y, ey, q⟩ := ofO_ex q
    obtain ⟨_, vs, hH, ql⟩ := r.ob p _ e
    rw [List.getLast?_eq_getElem?] at ey
    obtain ⟨u, eu, ru⟩ := ql.get ey
    rw [ql.length] at eu
    have f := fr_write (F := F) (S := S) (H := H) (o' := .lst l.dropLast) (u := .lst vs.dropLast) e
    exact ⟨p, vs, u, rfl, rfl, hH, eu, P _ _ F _ _ f (r.write e ⟨_, upd_same, ql.dropLast.mono r f⟩) (ru.mono r f) q⟩
end
end DL
/-! DL5: fields, calls of own defs, methods and classes over data. -/
namespace DL
open PySem PySem.Spec PyProof.Rows L2

section
variable {K : PySem.W.Frag} {ca : Nat → Addr} {F F' : Addr → Prop} {S S' : Store} {H H' : Hp} {B : Bc} {Q : QE} {QV : VK} {d : D} {v : V} {l : List D} {X : Cx} {a b e o : Expr} {es : List Expr} {da db dd : DE} {ta tb : TE} {pos p2 : Pos} {n : Nat} {σ : DEnv} {σV : L2.St}

/-! ### fields -/
def insD (S : Store) (c : Nat) (x : D) : Option (Addr × List (String × D)) := match x with
  | .obj p => match S p with
    | some (.ins c' fs) => if c' = c then some (p, fs) else none
    | _ => none
  | _ => none
theorem insD_rel {c : Nat} {p : Addr} {fs : List (String × D)} (r : RelS K ca F S H) (rx : RelD K F H d v) (e : insD S c d = some (p, fs)) :
    d = .obj p ∧ v = .ref p ∧ S p = some (.ins c fs) ∧ ∃ dx fv, H p = some (.ins (ca c) dx fv) ∧ RelFs K F H fs fv := by
  cases rx with
  | obj q =>
    have e : (match S q with | some (Ob.ins c' fs) => if c' = c then some (q, fs) else none | _ => none) = some (p, fs) := e
    cases w : S q with
    | none => rw [w] at e; cases e
    | some u =>
      rw [w] at e
      cases u with
      | ins c' fs' =>
        have e : (if c' = c then some (q, fs') else none) = some (p, fs) := e
        by_cases hc : c' = c
        · rw [if_pos hc] at e
          cases e
          subst hc
          obtain ⟨_, dx, fv, hH, rf⟩ := r.ob p _ w
          exact ⟨rfl, rfl, w, dx, fv, hH, rf⟩
        · rw [if_neg hc] at e; cases e
      | _ => cases e
  | _ => cases e
theorem fs_lookup {fs : List (String × D)} {fv : List (Str × V)} (q : RelFs K F H fs fv) (k : String) :
    (∀ x, fs.lookup k = some x → ∃ u, fv.lookup (Str.ofString k) = some u ∧ RelD K F H x u) ∧ (fs.lookup k = none → fv.lookup (Str.ofString k) = none) := by
  induction q with
  | nil => exact ⟨fun x e => (by cases e), fun _ => rfl⟩
  | @cons s d v l vs h q ih =>
    by_cases e : k = s
    · subst e
      refine ⟨fun x ex => ?_, fun ex => ?_⟩
      · rw [List.lookup_cons_self] at ex
        cases ex
        exact ⟨v, List.lookup_cons_self, h⟩
      · rw [List.lookup_cons_self] at ex; cases ex
    · have ne : (Str.ofString k == Str.ofString s) = false := beq_eq_false_iff_ne.mpr fun z => e (ofS_inj z)
      have nb : (k == s) = false := beq_eq_false_iff_ne.mpr e
      rw [List.lookup_cons, nb, List.lookup_cons, ne]
      exact ih
def dFld (c : Nat) (f : String) (da : DE) : DE := fun σ S Q => da σ S fun x S1 => ofO (insD S1 c x) fun z => ofO (z.2.lookup f) fun y => Q y S1
theorem pd_fld {c : Nat} {f : String} (ha : PD X B e da) (hc : Cls X.K (B.ca c)) (hn : NoAttr X.K (B.ca c) (Str.ofString f)) (hb : attributeBase e (Str.ofString f) X.env (eval e X.env) = eval e X.env := by rfl) : PD X B (.Attribute e (Str.ofString f) pos) (dFld c f da) := by
  refine pd_of (pe_fld pe_w hb) ?_
  intro F σ S σV H Q QV R q P
  refine ha F σ S σV H _ _ R q fun x v F1 S1 H1 f1 r1 d1 q1 => ?_
  obtain ⟨⟨p, fs⟩, ei, q1⟩ := ofO_ex q1
  obtain ⟨y, ey, q1⟩ := ofO_ex q1
  obtain ⟨_, ev, hS, dx, fv, hH, rf⟩ := insD_rel r1 d1 ei
  obtain ⟨u, eu, ru⟩ := (fs_lookup rf f).1 y ey
  exact ⟨p, B.ca c, dx, fv, u, ev, hH, hc, hn, eu, P y u F1 S1 H1 f1 r1 ru q1⟩
def putFD (f : String) (v : D) : List (String × D) → List (String × D)
  | [] => [(f, v)]
  | (g, u) :: r => if g = f then (g, v) :: r else (g, u) :: putFD f v r
theorem fs_put {fs : List (String × D)} {fv : List (Str × V)} (q : RelFs K F H fs fv) {f : String} {x : D} {u : V} (rx : RelD K F H x u) : RelFs K F H (putFD f x fs) (putF (Str.ofString f) u fv) := by
  induction q with
  | nil => exact .cons rx .nil
  | @cons s d v l vs h q ih =>
    show RelFs K F H (if s = f then (s, x) :: l else (s, d) :: putFD f x l) (if Str.ofString s = Str.ofString f then (Str.ofString s, u) :: vs else (Str.ofString s, v) :: putF (Str.ofString f) u vs)
    by_cases e : s = f
    · subst e
      rw [if_pos rfl, if_pos rfl]
      exact .cons rx q
    · rw [if_neg e, if_neg fun z => e (ofS_inj z)]
      exact .cons h ih
theorem fs_len {fs : List (String × D)} {fv : List (Str × V)} (q : RelFs K F H fs fv) : fs.length = fv.length := by
  induction q with
  | nil => rfl
  | cons _ _ ih => rw [List.length_cons, List.length_cons, ih]

/-! ### an exception that leaves -/
def XW (K : PySem.W.Frag) (B : Bc) : WX := fun cls dd σV H => ∃ x F σ S, Rel K B F σ S σV H ∧ RelX K B.ca F H x cls dd ∧ B.ED x σ S
/-- a def's promise over data as the hand layer's -/
def lift (K : PySem.W.Frag) (ca : Nat → Addr) (n : Nat) (w : DSp) : Sp := fun vs H Q E => ∃ ds F S QD ED, ds.length = n ∧ RelDs K F H ds vs ∧ RelS K ca F S H ∧ w ds S QD ED ∧ PostE K ca F S H QD Q ∧ PostX K ca F S H ED E
theorem lift_len {w : DSp} {vs : List V} {Q : VK} {E : XK} (h : lift K ca n w vs H Q E) : vs.length = n := by
  obtain ⟨ds, F, S, QD, ED, hl, rd, _⟩ := h
  rw [← rd.length, hl]
theorem lift_of {w : DSp} {ds : List D} {vs : List V} {E : XK} {ED : XQ} (hl : ds.length = n) (rd : RelDs K F H ds vs) (rs : RelS K ca F S H) (h : w ds S Q ED) (P : PostE K ca F S H Q QV) (PX : PostX K ca F S H ED E) : lift K ca n w vs H QV E :=
  ⟨ds, F, S, Q, ED, hl, rd, rs, h, P, PX⟩
theorem post_xw (R : Rel K B F σ S σV H) (f : Fr F S H F' S' H') (r : RelS K B.ca F' S' H') : PostX K B.ca F' S' H' (fun x S1 => B.ED x σ S1) (fun cls dd H1 => XW K B cls dd σV H1) :=
  fun x cls dd F1 S1 H1 f1 r1 rx q => ⟨x, F1, σ, S1, R.step (f.trans f1) r1, rx, q⟩
/-- what a callee may let out, taken at the caller's slots -/
theorem passXW (tk : Takes X (XW X.K B)) (σV : L2.St) : PassesAt (L2.CX X.prog X.w) X σV (fun cls dd H => XW X.K B cls dd σV H) := fun _ _ _ u s1 I c => tk u s1 (XE.of_call I (fun _ _ _ h => h) c)

/-! ### f(..) -/
def dCall (w : DSp) (ED : DX → DEnv → Store → Prop) (da : DA) : DE := fun σ S Q => da σ S fun ds S1 => w ds S1 Q fun x S2 => ED x σ S2
section
variable {k : Nat} {f : Addr} {fd : FuncData} {ps : List Str} {w : DSp} {x m : Str} {p apos : Pos} {dt : DA}
theorem pd_call (F : FnOk X.prog X.w X.K X.mg X.base (L2.CX X.prog X.w) k f fd ps (lift X.K B.ca n w)) (hr : Room k X.A) (hg : Gl X x) (hm : X.mg x = some (.ref f)) (hk : PySem.W.keepIn X.K (.ref f) = true) (hb : Binds X.K fd ps []) (tk : Takes X (XW X.K B))
    (ha : PDA X B (e :: es) n dt) (hdb : (x == ("__debug__" : Str)) = false := by decide) (he : starEach (e :: es) X.env = (false, eval e X.env) :: starEach es X.env := by rfl) (hpl : (backTo pos (starEach es X.env)).any (·.1) = false := by rfl) :
    PD X B (.Call (.Name x p) (e :: es) [] pos) (dCall w B.ED dt) := by
  refine pd_of (pe_callSD F hr hg hm hk hb .nil (passXW tk) pa_w hdb he hpl) ?_
  intro F σ S σV H Q QV R q P
  refine ha F σ S σV H _ _ R q fun xs vs F1 S1 H1 f1 r1 d1 l1 q1 => ?_
  show lift X.K B.ca n w (vs ++ []) H1 QV _
  rw [List.append_nil]
  exact lift_of l1 d1 r1 q1 (P.step f1) (post_xw R f1 r1)
def dCall0 (w : DSp) (ED : DX → DEnv → Store → Prop) : DE := fun σ S Q => w [] S Q fun x S2 => ED x σ S2
def tCallQ0 (sp : Sp) (E : L2.St → XK) : TE := fun σ H Q => sp [] H Q (E σ)
theorem pe_callQ0 {sp : Sp} {E : L2.St → XK} {CX : CXT} (F : FnOk X.prog X.w X.K X.mg X.base CX k f fd ps sp) (hr : Room k X.A) (hg : Gl X x) (hm : X.mg x = some (.ref f)) (hk : PySem.W.keepIn X.K (.ref f) = true) (hb : Binds X.K fd ps []) (hx : ∀ σ, PassesAt CX X σ (E σ))
    (hdb : (x == ("__debug__" : Str)) = false := by decide) : PE X (.Call (.Name x p) [] [] pos) (tCallQ0 sp E) :=
  ⟨fun pn st sg Hh Qq I h => wpAny_Call_Name_kw (ld_glob I hg hm (PySem.W.callWith_K0 I.kIn hk (run_fnSD (us := []) (vs := []) F hr hb .nil (hx sg) I .nil h)) hdb)⟩
theorem pd_call0 (F : FnOk X.prog X.w X.K X.mg X.base (L2.CX X.prog X.w) k f fd ps (lift X.K B.ca 0 w)) (hr : Room k X.A) (hg : Gl X x) (hm : X.mg x = some (.ref f)) (hk : PySem.W.keepIn X.K (.ref f) = true) (hb : Binds X.K fd ps []) (tk : Takes X (XW X.K B))
    (hdb : (x == ("__debug__" : Str)) = false := by decide) : PD X B (.Call (.Name x p) [] [] pos) (dCall0 w B.ED) := by
  refine pd_of (pe_callQ0 F hr hg hm hk hb (passXW tk) hdb) ?_
  intro F σ S σV H Q QV R q P
  exact lift_of rfl .nil R.st q P (post_xw R Fr.refl R.st)

/-! ### o.m(..) -/
def tMethQ (C : Addr) (m : Str) (sp : Sp) (E : L2.St → XK) (ta : TE) (t : TA) : TE := fun σ H Q => ta σ H fun x H1 => ∃ a dx fs, x = .ref a ∧ H1 a = some (.ins C dx fs) ∧ fs.lookup m = none ∧ t σ H1 fun vs H2 => sp (x :: vs) H2 Q (E σ)
theorem pe_methQ {C : Addr} {sp : Sp} {E : L2.St → XK} {CX : CXT} {t : TA} {pl : Sem Bool} (he : PE X o ta) (c : Cls X.K C) (hm : Meth X.K C m f) (F : FnOk X.prog X.w X.K X.mg X.base CX k f fd ps sp) (hr : Room k X.A) (hb : Binds X.K fd ps []) (hx : ∀ σ, PassesAt CX X σ (E σ)) (ha : PA X (e :: es) t)
    (hst : starEach (e :: es) X.env = (false, eval e X.env) :: starEach es X.env := by rfl) (hpl : (backTo pos (starEach es X.env)).any (·.1) = false := by rfl)
    (ht : eval (.Call (.Attribute o m apos) (e :: es) [] pos) X.env = (do
      let ov ← eval o X.env
      standAt apos.atName
      let (f, first) ← holding [ov] (getMethod ov m pl)
      callWith pos f first (backTo pos (starEach (e :: es) X.env)) (backToKw pos (keywordEach [] X.env))) := by rfl) :
    PE X (.Call (.Attribute o m apos) (e :: es) [] pos) (tMethQ C m sp E ta t) := by
  refine ⟨fun pn st sg Hh Qq I h => PySem.W.methodCall_KW (pl := pl) (thn (he.run pn st sg Hh _ I h) fun uo s1 hh => ?_) ht⟩
  obtain ⟨xo, H1, I1, rx, a0, dx0, fs0, ex, ea, lk, q⟩ := hh
  subst ex
  obtain rfl : uo = Value.ref a0 := rx
  refine getmeth_ok I1 ea c hm lk (PySem.W.callWith_K (first := [.ref a0]) (h₀ := X.base) I.ok.mod.kin hm.kp (thn (ha.run pos pn s1 sg H1 _ I1 q) fun us s2 h2 => ?_) hst hpl)
  obtain ⟨vs, H2, I2, rv, q2⟩ := h2
  refine ⟨I2.kIn, run_fnSD (us := .ref a0 :: us) (vs := .ref a0 :: vs) F hr hb .nil (hx sg) I2 (.cons rfl rv) ?_⟩
  rw [List.append_nil]
  exact q2
theorem pe_methQ0 {C : Addr} {sp : Sp} {E : L2.St → XK} {CX : CXT} {pl : Sem Bool} (he : PE X o ta) (c : Cls X.K C) (hm : Meth X.K C m f) (F : FnOk X.prog X.w X.K X.mg X.base CX k f fd ps sp) (hr : Room k X.A) (hb : Binds X.K fd ps []) (hx : ∀ σ, PassesAt CX X σ (E σ))
    (ht : eval (.Call (.Attribute o m apos) [] [] pos) X.env = (do
      let ov ← eval o X.env
      standAt apos.atName
      let (f, first) ← holding [ov] (getMethod ov m pl)
      callWith pos f first (backTo pos (starEach [] X.env)) (backToKw pos (keywordEach [] X.env))) := by rfl) :
    PE X (.Call (.Attribute o m apos) [] [] pos) (tMethQ C m sp E ta tNil) := by
  refine ⟨fun pn st sg Hh Qq I h => PySem.W.methodCall_KW (pl := pl) (thn (he.run pn st sg Hh _ I h) fun uo s1 hh => ?_) ht⟩
  obtain ⟨xo, H1, I1, rx, a0, dx0, fs0, ex, ea, lk, q⟩ := hh
  subst ex
  obtain rfl : uo = Value.ref a0 := rx
  exact getmeth_ok I1 ea c hm lk (PySem.W.callWith_K0 (first := [.ref a0]) I1.kIn hm.kp (run_fnSD (us := [.ref a0]) (vs := [.ref a0]) F hr hb .nil (hx sg) I1 (.cons rfl .nil) q))
def dMeth (c : Nat) (m : String) (w : DSp) (ED : DX → DEnv → Store → Prop) (da : DE) (dt : DA) : DE := fun σ S Q => da σ S fun x S1 => ofO (insD S1 c x) fun z => z.2.lookup m = none ∧ dt σ S1 fun ds S2 => w (x :: ds) S2 Q fun y S3 => ED y σ S3
theorem sim_meth {c : Nat} {mm : String} {tt : TA} (ha : SimE K B da ta) (ht : SimA K B n dt tt) : SimE K B (dMeth c mm w B.ED da dt) (tMethQ (B.ca c) (Str.ofString mm) (lift K B.ca (n + 1) w) (fun σV cls dd H => XW K B cls dd σV H) ta tt) := by
  intro F σ S σV H Q QV R q P
  refine ha F σ S σV H _ _ R q fun x v F1 S1 H1 f1 r1 d1 q1 => ?_
  obtain ⟨⟨p, fs⟩, ei, hl, q1⟩ := ofO_ex q1
  obtain ⟨_, ev, hS, dx, fv, hH, rf⟩ := insD_rel r1 d1 ei
  refine ⟨p, dx, fv, ev, hH, (fs_lookup rf mm).2 hl, ?_⟩
  refine ht F1 σ S1 σV H1 _ _ (R.step f1 r1) q1 fun xs vs F2 S2 H2 f2 r2 d2 l2 q2 => ?_
  exact lift_of (by rw [List.length_cons, l2]) (.cons (d1.mono r1 f2) d2) r2 q2 (P.step (f1.trans f2)) (post_xw R (f1.trans f2) r2)
theorem pd_meth {c : Nat} {mm : String} {pl : Sem Bool} (ho : PD X B o da) (hc : Cls X.K (B.ca c)) (hm : Meth X.K (B.ca c) (Str.ofString mm) f) (F : FnOk X.prog X.w X.K X.mg X.base (L2.CX X.prog X.w) k f fd ps (lift X.K B.ca (n + 1) w)) (hr : Room k X.A) (hb : Binds X.K fd ps [])
    (tk : Takes X (XW X.K B)) (ha : PDA X B (e :: es) n dt)
    (hst : starEach (e :: es) X.env = (false, eval e X.env) :: starEach es X.env := by rfl) (hpl : (backTo pos (starEach es X.env)).any (·.1) = false := by rfl)
    (ht : eval (.Call (.Attribute o (Str.ofString mm) apos) (e :: es) [] pos) X.env = (do
      let ov ← eval o X.env
      standAt apos.atName
      let (f, first) ← holding [ov] (getMethod ov (Str.ofString mm) pl)
      callWith pos f first (backTo pos (starEach (e :: es) X.env)) (backToKw pos (keywordEach [] X.env))) := by rfl) :
    PD X B (.Call (.Attribute o (Str.ofString mm) apos) (e :: es) [] pos) (dMeth c mm w B.ED da dt) :=
  pd_of (pe_methQ (pl := pl) pe_w hc hm F hr hb (passXW tk) pa_w hst hpl ht) (sim_meth ho ha)
theorem pd_meth0 {c : Nat} {mm : String} {pl : Sem Bool} (ho : PD X B o da) (hc : Cls X.K (B.ca c)) (hm : Meth X.K (B.ca c) (Str.ofString mm) f) (F : FnOk X.prog X.w X.K X.mg X.base (L2.CX X.prog X.w) k f fd ps (lift X.K B.ca 1 w)) (hr : Room k X.A) (hb : Binds X.K fd ps [])
    (tk : Takes X (XW X.K B))
    (ht : eval (.Call (.Attribute o (Str.ofString mm) apos) [] [] pos) X.env = (do
      let ov ← eval o X.env
      standAt apos.atName
      let (f, first) ← holding [ov] (getMethod ov (Str.ofString mm) pl)
      callWith pos f first (backTo pos (starEach [] X.env)) (backToKw pos (keywordEach [] X.env))) := by rfl) :
    PD X B (.Call (.Attribute o (Str.ofString mm) apos) [] [] pos) (dMeth c mm w B.ED da dNil) :=
  pd_of (pe_methQ0 (pl := pl) pe_w hc hm F hr hb (passXW tk) ht) (sim_meth ho sim_nil)

/-! ### C(..) -/
def tMakeQ (C : Addr) (sp : Sp) (E : L2.St → XK) (t : TA) : TE := fun σ H Q => t σ H fun vs H1 => ∀ x dx, H1 x = none → H1 dx = none → dx ≠ x →
  sp (.ref x :: vs) (upd (upd H1 dx (.own x)) x (.ins C dx [])) (fun v H2 => v = .non ∧ Q (.ref x) H2) (E σ)
theorem run_makeQ {C : Addr} {sp : Sp} {E : XK} {CX : CXT} {pins : List (Addr × Obj)} {sg : L2.St} {Hh : Hp} {st : Shared} {Qq : VK} {us : List Value} {vs : List V} (M : Mk X.K C f) (F : FnOk X.prog X.w X.K X.mg X.base CX k f fd ps sp) (hr : Room (k + 1) X.A) (hb : Binds X.K fd ps [])
    (hx : PassesAt CX X sg E) (I : Inv X pins sg Hh st) (rv : Vals vs us)
    (h : ∀ x dx, Hh x = none → Hh dx = none → dx ≠ x → sp (.ref x :: vs) (upd (upd Hh dx (.own x)) x (.ins C dx [])) (fun v H2 => v = .non ∧ Qq (.ref x) H2) E) : wpAny (model X.prog X.w) X.A (call (.ref C) us) (EP X pins sg Qq) X.xe st := by
  have big := h (st.heap.objs.size + 1) st.heap.objs.size (I.hok.fresh (Nat.le_succ _)) (I.hok.fresh (Nat.le_refl _)) (Nat.ne_of_lt (Nat.lt_succ_self _))
  have J := Inv.made (C := C) I
  have rr : Vals (V.ref (st.heap.objs.size + 1) :: vs) (Value.ref (st.heap.objs.size + 1) :: us) := .cons rfl rv
  have nl : ((Value.ref (st.heap.objs.size + 1) :: us) ++ []).length = ps.length := by
    rw [List.append_nil, ← rr.length]
    exact F.len _ _ _ _ big
  have bb := hb _ (Value.ref (st.heap.objs.size + 1) :: us) J.kIn nl
  rw [List.append_nil] at bb
  refine wpAny_call (make_map (f := f) I.kIn M.makes M.init (beq_iff_eq.mp M.fn) (codeAny_mono (F.run _ X.stack _ _ _ _ _ _ E (hr.make C us []) (J.env0.make C us []) bb rr big) fun r s2 hq => ?_))
  match r, hq with
  | .error _, hq => exact hx pins _ _ _ s2 J hq
  | .ok (.ret u), hq =>
    obtain ⟨v, H3, J3, rw3, ev, q3⟩ := J.after hq
    subst ev
    exact ⟨rw3, V.ref (st.heap.objs.size + 1), H3, J3, rfl, q3⟩
  | .ok .next, hq => exact False.elim hq
  | .ok .brk, hq => exact False.elim hq
  | .ok .cont, hq => exact False.elim hq
theorem pe_makeQ {C : Addr} {sp : Sp} {E : L2.St → XK} {CX : CXT} {t : TA} (M : Mk X.K C f) (F : FnOk X.prog X.w X.K X.mg X.base CX k f fd ps sp) (hr : Room (k + 1) X.A) (hg : Gl X x) (hm : X.mg x = some (.ref C)) (hb : Binds X.K fd ps []) (hx : ∀ σ, PassesAt CX X σ (E σ)) (ha : PA X (e :: es) t)
    (hdb : (x == ("__debug__" : Str)) = false := by decide) (he : starEach (e :: es) X.env = (false, eval e X.env) :: starEach es X.env := by rfl) (hpl : (backTo pos (starEach es X.env)).any (·.1) = false := by rfl) :
    PE X (.Call (.Name x p) (e :: es) [] pos) (tMakeQ C sp E t) := by
  refine ⟨fun pn st sg Hh Qq I h => wpAny_Call_Name_kw (ld_glob I hg hm (PySem.W.callWith_K (h₀ := X.base) I.ok.mod.kin M.kp (thn (ha.run pos pn st sg Hh _ I h) fun us s1 hh => ?_) he hpl) hdb)⟩
  obtain ⟨vs, H1, I1, rv, q⟩ := hh
  exact ⟨I1.kIn, run_makeQ M F hr hb (hx sg) I1 rv q⟩
theorem pe_makeQ0 {C : Addr} {sp : Sp} {E : L2.St → XK} {CX : CXT} (M : Mk X.K C f) (F : FnOk X.prog X.w X.K X.mg X.base CX k f fd ps sp) (hr : Room (k + 1) X.A) (hg : Gl X x) (hm : X.mg x = some (.ref C)) (hb : Binds X.K fd ps []) (hx : ∀ σ, PassesAt CX X σ (E σ))
    (hdb : (x == ("__debug__" : Str)) = false := by decide) : PE X (.Call (.Name x p) [] [] pos) (tMakeQ C sp E tNil) :=
  ⟨fun pn st sg Hh Qq I h => wpAny_Call_Name_kw (ld_glob I hg hm (PySem.W.callWith_K0 I.kIn M.kp (run_makeQ (us := []) (vs := []) M F hr hb (hx sg) I .nil h)) hdb)⟩
def dMake (c : Nat) (w : DSp) (ED : DX → DEnv → Store → Prop) (dt : DA) : DE := fun σ S Q => dt σ S fun ds S1 => ∀ p, S1 p = none → w (.obj p :: ds) (put S1 p (.ins c [])) (fun v S2 => v = .non ∧ Q (.obj p) S2) fun y S3 => ED y σ S3
theorem sim_make {c : Nat} {tt : TA} (ht : SimA K B n dt tt) : SimE K B (dMake c w B.ED dt) (tMakeQ (B.ca c) (lift K B.ca (n + 1) w) (fun σV cls dd H => XW K B cls dd σV H) tt) := by
  intro F σ S σV H Q QV R q P
  refine ht F σ S σV H _ _ R q fun xs vs F1 S1 H1 f1 r1 d1 l1 q1 => ?_
  intro x dx hx hdx hne
  have fa := fr_newD (F := F1) (S := S1) (u := .own x) hdx
  have ra := r1.newD (u := .own x) hdx
  have hx' : (upd H1 dx (.own x)) x = none := by rw [upd_ne (Ne.symm hne)]; exact hx
  have fb := fr_new (F := F1) (S := S1) (o := .ins c []) (u := .ins (B.ca c) dx []) hx'
  have rb := ra.new (o := .ins c []) (u := .ins (B.ca c) dx []) hx' ⟨dx, [], upd_same, .nil⟩
  have fab := fa.trans fb
  refine lift_of (Q := fun v S2 => v = .non ∧ Q (.obj x) S2) (by rw [List.length_cons, l1]) (.cons (.obj x) (d1.mono r1 fab)) rb (q1 x (r1.free hx)) ?_ (post_xw R (f1.trans fab) rb)
  intro y u F2 S2 H2 f2 r2 d2 q2
  obtain ⟨ey, q2⟩ := q2
  subst ey
  cases d2
  exact ⟨rfl, P _ _ F2 S2 H2 (f1.trans (fab.trans f2)) r2 (.obj x) q2⟩
theorem pd_make {c : Nat} (M : Mk X.K (B.ca c) f) (F : FnOk X.prog X.w X.K X.mg X.base (L2.CX X.prog X.w) k f fd ps (lift X.K B.ca (n + 1) w)) (hr : Room (k + 1) X.A) (hg : Gl X x) (hm : X.mg x = some (.ref (B.ca c))) (hb : Binds X.K fd ps []) (tk : Takes X (XW X.K B)) (ha : PDA X B (e :: es) n dt)
    (hdb : (x == ("__debug__" : Str)) = false := by decide) (he : starEach (e :: es) X.env = (false, eval e X.env) :: starEach es X.env := by rfl) (hpl : (backTo pos (starEach es X.env)).any (·.1) = false := by rfl) :
    PD X B (.Call (.Name x p) (e :: es) [] pos) (dMake c w B.ED dt) := pd_of (pe_makeQ M F hr hg hm hb (passXW tk) pa_w hdb he hpl) (sim_make ha)
theorem pd_make0 {c : Nat} (M : Mk X.K (B.ca c) f) (F : FnOk X.prog X.w X.K X.mg X.base (L2.CX X.prog X.w) k f fd ps (lift X.K B.ca 1 w)) (hr : Room (k + 1) X.A) (hg : Gl X x) (hm : X.mg x = some (.ref (B.ca c))) (hb : Binds X.K fd ps []) (tk : Takes X (XW X.K B))
    (hdb : (x == ("__debug__" : Str)) = false := by decide) : PD X B (.Call (.Name x p) [] [] pos) (dMake c w B.ED dNil) := pd_of (pe_makeQ0 M F hr hg hm hb (passXW tk) hdb) (sim_make sim_nil)
end
end
end DL
/-! DL6: statements, targets, loops, comprehensions over data. -/
namespace DL
open PySem PySem.Spec PyProof.Rows L2

structure DEnds where
  nx : DEnv → Store → Prop
  rt : QE
  bk : DEnv → Store → Prop := fun _ _ => False
  ct : DEnv → Store → Prop := fun _ _ => False
abbrev DS := DEnds → DEnv → Store → Prop

section
variable {K : PySem.W.Frag} {ca : Nat → Addr} {F F' : Addr → Prop} {S S' : Store} {H H' : Hp} {B : Bc} {Q : QE} {QV : VK} {d : D} {v : V} {l : List D} {X : Cx} {a b e o : Expr} {es : List Expr} {da db dd : DE} {ta tb te : TE} {pos p2 : Pos} {n : Nat} {σ : DEnv} {σV : L2.St}
def PostS (K : PySem.W.Frag) (B : Bc) (F : Addr → Prop) (S : Store) (H : Hp) (Q : DEnv → Store → Prop) (QV : L2.St → Hp → Prop) : Prop :=
  ∀ F' σ' S' σV' H', Fr F S H F' S' H' → Rel K B F' σ' S' σV' H' → Q σ' S' → QV σV' H'
structure PostD (K : PySem.W.Frag) (B : Bc) (F : Addr → Prop) (S : Store) (H : Hp) (D : DEnds) (V : Ends) : Prop where
  nx : PostS K B F S H D.nx V.nx
  rt : PostE K B.ca F S H D.rt V.rt
  bk : PostS K B F S H D.bk V.bk
  ct : PostS K B F S H D.ct V.ct
theorem PostS.step {Q : DEnv → Store → Prop} {QV : L2.St → Hp → Prop} (p : PostS K B F S H Q QV) (f : Fr F S H F' S' H') : PostS K B F' S' H' Q QV := fun _ _ _ _ _ g => p _ _ _ _ _ (f.trans g)
theorem PostD.step {D : DEnds} {V : Ends} (p : PostD K B F S H D V) (f : Fr F S H F' S' H') : PostD K B F' S' H' D V := ⟨p.nx.step f, p.rt.step f, p.bk.step f, p.ct.step f⟩
theorem PostS.at {Q : DEnv → Store → Prop} {QV : L2.St → Hp → Prop} (p : PostS K B F S H Q QV) (R : Rel K B F σ S σV H) (q : Q σ S) : QV σV H := p F σ S σV H Fr.refl R q
def SimS (K : PySem.W.Frag) (B : Bc) (d : DS) (t : TS) : Prop := ∀ F σ S σV H D V, Rel K B F σ S σV H → d D σ S → PostD K B F S H D V → t V σV H

@[irreducible] def wpS (X : Cx) (st : Stmt) : TS := fun D σ H => ∀ (pins : List (Addr × Obj)) (s : Shared), Inv X pins σ H s → wpAny (model X.prog X.w) X.A (exec st X.env) (SP X pins D) X.xe s
@[irreducible] def wpSs (X : Cx) (st : List Stmt) : TS := fun D σ H => ∀ (pins : List (Addr × Obj)) (s : Shared), Inv X pins σ H s → wpAny (model X.prog X.w) X.A (execs st X.env) (SP X pins D) X.xe s
theorem ps_w {st : Stmt} : PS X st (wpS X st) := ⟨fun pins s _ _ _ I h => by unfold wpS at h; exact h pins s I⟩
theorem pss_w {st : List Stmt} : PSs X st (wpSs X st) := ⟨fun pins s _ _ _ I h => by unfold wpSs at h; exact h pins s I⟩
def PDS (X : Cx) (B : Bc) (st : Stmt) (d : DS) : Prop := SimS X.K B d (wpS X st)
def PDSs (X : Cx) (B : Bc) (st : List Stmt) (d : DS) : Prop := SimS X.K B d (wpSs X st)
variable {st : Stmt} {rest body : List Stmt} {ds du : DS} {t u : TS}
theorem pds_of (h : PS X st t) (s : SimS X.K B ds t) : PDS X B st ds := fun F σ S σV H D V R q P => by unfold wpS; exact fun pins s' I => h.run pins s' σV H V I (s F σ S σV H D V R q P)
theorem pdss_of {st : List Stmt} (h : PSs X st t) (s : SimS X.K B ds t) : PDSs X B st ds := fun F σ S σV H D V R q P => by unfold wpSs; exact fun pins s' I => h.run pins s' σV H V I (s F σ S σV H D V R q P)
def dNext : DS := fun D σ S => D.nx σ S
def dSeq (t u : DS) : DS := fun D σ S => t { D with nx := u D } σ S
theorem sim_next : SimS K B dNext tNext := fun F σ S σV H D V R q P => P.nx.at R q
theorem sim_seq (h1 : SimS K B ds t) (h2 : SimS K B du u) : SimS K B (dSeq ds du) (tSeq t u) := by
  intro F σ S σV H D V R q P
  exact h1 F σ S σV H _ _ R q ⟨fun F1 σ1 S1 σV1 H1 f R1 q1 => h2 F1 σ1 S1 σV1 H1 D V R1 q1 (P.step f), P.rt, P.bk, P.ct⟩
theorem pds_nil : PDSs X B [] dNext := pdss_of pss_nil sim_next
theorem pds_cons (h1 : PDS X B st ds) (h2 : PDSs X B rest du) : PDSs X B (st :: rest) (dSeq ds du) := pdss_of (pss_cons ps_w pss_w) (sim_seq h1 h2)
theorem pds_one (h1 : PDS X B st ds) : PDSs X B [st] ds := pdss_of (pss_one ps_w) h1
def dBrk : DS := fun D σ S => D.bk σ S
def dCnt : DS := fun D σ S => D.ct σ S
theorem pds_pass : PDS X B (.Pass pos) dNext := pds_of ps_pass sim_next
theorem pds_break : PDS X B (.Break pos) dBrk := pds_of ps_break fun F σ S σV H D V R q P => P.bk.at R q
theorem pds_continue : PDS X B (.Continue pos) dCnt := pds_of ps_continue fun F σ S σV H D V R q P => P.ct.at R q
theorem pds_doc {x j pos pos'} : PDS X B (.Expr (.Constant (.str x) j pos) pos') dNext := pds_of ps_doc sim_next
def dDrop (d : DE) : DS := fun D σ S => d σ S fun _ S1 => D.nx σ S1
theorem pds_expr (h : PD X B e da) (hs : swapsWith e none pos.line X.env = pure false := by rfl) : PDS X B (.Expr e pos) (dDrop da) := by
  refine pds_of (ps_expr pe_w hs) fun F σ S σV H D V R q P => ?_
  exact h F σ S σV H _ _ R q fun x v F1 S1 H1 f1 r1 _ q1 => P.nx F1 σ S1 σV H1 f1 (R.step f1 r1) q1
def dRet (d : DE) : DS := fun D σ S => d σ S D.rt
theorem pds_ret (h : PD X B e da) : PDS X B (.Return (some e) pos) (dRet da) := by
  refine pds_of (ps_ret pe_w) fun F σ S σV H D V R q P => ?_
  exact h F σ S σV H _ _ R q P.rt
def dRetN : DS := fun D _ S => D.rt .non S
theorem pds_retN : PDS X B (.Return none pos) dRetN := pds_of ps_retN fun F σ S σV H D V R q P => P.rt.at R.st .non q
def dIfS (c : DT) (t u : DS) : DS := fun D σ S => c σ S fun k S1 => if k = true then t D σ S1 else u D σ S1
theorem sim_ifS {dc : DT} {tc : TT} (hc : SimT K B dc tc) (h1 : SimS K B ds t) (h2 : SimS K B du u) : SimS K B (dIfS dc ds du) (tIfS tc t u) := by
  intro F σ S σV H D V R q P
  refine hc F σ S σV H _ _ R q fun k F1 S1 H1 f1 r1 q1 => ?_
  cases k with
  | true => exact h1 F1 σ S1 σV H1 D V (R.step f1 r1) q1 (P.step f1)
  | false => exact h2 F1 σ S1 σV H1 D V (R.step f1 r1) q1 (P.step f1)
theorem pds_if {c : Expr} {dc : DT} {s1 s2 : List Stmt} (hc : PDT X B c dc) (h1 : PDSs X B s1 ds) (h2 : PDSs X B s2 du) : PDS X B (.If c s1 s2 pos) (dIfS dc ds du) := pds_of (ps_if pt_w pss_w pss_w) (sim_ifS hc h1 h2)
def dNever : DS := fun _ _ _ => False
theorem pds_never : PDS X B st dNever := pds_of ps_never fun _ _ _ _ _ _ _ _ q _ => q.elim
theorem pds_nevers {st : List Stmt} : PDSs X B st dNever := pdss_of pss_never fun _ _ _ _ _ _ _ _ q _ => q.elim

/-! ### targets -/
abbrev DG := D → DEnv → Store → (DEnv → Store → Prop) → Prop
abbrev DGs := List D → DEnv → Store → (DEnv → Store → Prop) → Prop
def SimG (K : PySem.W.Frag) (B : Bc) (d : DG) (t : TG) : Prop := ∀ F σ S σV H x v Q QV, Rel K B F σ S σV H → RelD K F H x v → d x σ S Q → PostS K B F S H Q QV → t v σV H QV
def SimGs (K : PySem.W.Frag) (B : Bc) (d : DGs) (t : TGs) : Prop := ∀ F σ S σV H x v Q QV, Rel K B F σ S σV H → RelDs K F H x v → d x σ S Q → PostS K B F S H Q QV → t v σV H QV
def gN (i : Nat) : DG := fun x σ S Q => Q (σ.set i (some x)) S
theorem sim_gN {i : Nat} : SimG K B (gN i) (gName i) := fun F σ S σV H x v Q QV R r q P => P F _ S _ H Fr.refl (R.set r) q
def gsN : DGs := fun xs σ S Q => xs = [] ∧ Q σ S
def gsC (g : DG) (gs : DGs) : DGs := fun xs σ S Q => match xs with
  | x :: r => g x σ S fun σ1 S1 => gs r σ1 S1 Q
  | [] => False
theorem sim_gsN : SimGs K B gsN gNil := by
  intro F σ S σV H x v Q QV R r q P
  obtain ⟨e, q⟩ := q
  subst e
  cases r
  exact ⟨rfl, P.at R q⟩
theorem sim_gsC {g : DG} {gs : DGs} {tg : TG} {tgs : TGs} (h1 : SimG K B g tg) (h2 : SimGs K B gs tgs) : SimGs K B (gsC g gs) (gCons tg tgs) := by
  intro F σ S σV H x v Q QV R r q P
  cases r with
  | nil => exact q.elim
  | @cons d v l vs rd r =>
    refine ⟨v, vs, rfl, ?_⟩
    refine h1 F σ S σV H d v _ _ R rd q fun F1 σ1 S1 σV1 H1 f1 R1 q1 => ?_
    exact h2 F1 σ1 S1 σV1 H1 l vs Q QV R1 (r.mono R.st f1) q1 fun F2 σ2 S2 σV2 H2 f2 => P F2 σ2 S2 σV2 H2 (f1.trans f2)
def gTp (n : Nat) (gs : DGs) : DG := fun x σ S Q => match x with
  | .tup l => l.length = n ∧ gs l σ S Q
  | _ => False
theorem sim_gTp {gs : DGs} {tgs : TGs} (h : SimGs K B gs tgs) : SimG K B (gTp n gs) (gTup K n tgs) := by
  intro F σ S σV H x v Q QV R r q P
  cases r with
  | tup ht rl => exact ⟨_, _, rfl, ht, by rw [← rl.length]; exact q.1, h F σ S σV H _ _ Q QV R rl q.2 P⟩
  | _ => exact q.elim
@[irreducible] def wpG (X : Cx) (tg : Expr) : TG := fun v σ H Q => ∀ (pins : List (Addr × Obj)) (s : Shared) (u : Value), Inv X pins σ H s → RelV v u → wpAny (model X.prog X.w) X.A (assign tg X.env u) (fun _ s' => ∃ σ' H', Inv X pins σ' H' s' ∧ Q σ' H') X.xe s
theorem pg_w {tg : Expr} : PG X tg (wpG X tg) := ⟨fun pins s _ _ _ u _ I r h => by unfold wpG at h; exact h pins s u I r⟩
def PDG (X : Cx) (B : Bc) (tg : Expr) (d : DG) : Prop := SimG X.K B d (wpG X tg)
theorem pdg_of {tg : Expr} {d : DG} {t : TG} (h : PG X tg t) (s : SimG X.K B d t) : PDG X B tg d := fun F σ S σV H x v Q QV R r q P => by unfold wpG; exact fun pins s' u I ru => h.run pins s' σV H v u QV I ru (s F σ S σV H x v Q QV R r q P)
theorem pdg_name (i : Nat) {x : Str} (hN : X.N.Nodup) (hi : X.N[i]? = some x := by rfl) (hx : Loc X.env.scope x := by first | exact Or.inl rfl | exact Or.inr rfl) (hf : X.fn x = true ∨ X.env.scope.names.lookup x = some .local := by first | exact .inl rfl | exact .inr rfl | assumption) : PDG X B (.Name x pos) (gN i) :=
  pdg_of (pg_name hN hi hx hf) sim_gN
def dAsg (d : DE) (g : DG) : DS := fun D σ S => d σ S fun x S1 => g x σ S1 D.nx
theorem sim_asg {g : DG} {tg : TG} (h : SimE K B da ta) (hg : SimG K B g tg) : SimS K B (dAsg da g) (tAsg ta tg) := by
  intro F σ S σV H D V R q P
  refine h F σ S σV H _ _ R q fun x v F1 S1 H1 f1 r1 d1 q1 => ?_
  exact hg F1 σ S1 σV H1 x v _ _ (R.step f1 r1) d1 q1 (P.nx.step f1)
theorem pds_set (i : Nat) {x : Str} {pos' : Pos} (hN : X.N.Nodup) (h : PD X B e da) (hi : X.N[i]? = some x := by rfl) (hx : Loc X.env.scope x := by first | exact Or.inl rfl | exact Or.inr rfl) (hs : swapsWith e (some (.Name x pos')) pos.line X.env = pure false := by rfl)
    (hf : X.fn x = true ∨ X.env.scope.names.lookup x = some .local := by first | exact .inl rfl | exact .inr rfl | assumption) : PDS X B (.Assign [.Name x pos'] e pos) (dAsg da (gN i)) :=
  pds_of (ps_set hN hi hx pe_w hs hf) (sim_asg h sim_gN)
theorem pds_asg {tg : Expr} {g : DG} (h : PD X B e da) (hg : PDG X B tg g) (hs : swapsWithSole [tg] e pos.line X.env = pure false := by rfl) (hw : swappedStores [tg] e X.env = pure none := by rfl)
    (h1 : (assignEach [tg] X.env).map (·.2) = [assign tg X.env] := by rfl) : PDS X B (.Assign [tg] e pos) (dAsg da g) := pds_of (ps_asg pe_w pg_w hs hw h1) (sim_asg h hg)
/-- a, b = e, f -/
def dPar (i j : Nat) (dt : DA) : DS := fun D σ S => dt σ S fun xs S1 => match xs with
  | [x, y] => D.nx ((σ.set i (some x)).set j (some y)) S1
  | _ => False
theorem pds_par (i j : Nat) {x y : Str} {dt : DA} {px py pt : Pos} {kt k2 pt2} (hc : X.calm = true) (hN : X.N.Nodup) (hij : i ≠ j) (ha : PDA X B [a, b] 2 dt)
    (hx : X.env.scope.names.lookup x = some .local) (hy : X.env.scope.names.lookup y = some .local) (hi : X.N[i]? = some x := by rfl) (hj : X.N[j]? = some y := by rfl)
    (hw : swappedStores [.Tuple [.Name x px, .Name y py] kt pt] (.Tuple [a, b] k2 pt2) X.env = pure (some [x, y]) := by rfl)
    (hs : swapsWithSole [.Tuple [.Name x px, .Name y py] kt pt] (.Tuple [a, b] k2 pt2) pos.line X.env = pure false := by rfl) :
    PDS X B (.Assign [.Tuple [.Name x px, .Name y py] kt pt] (.Tuple [a, b] k2 pt2) pos) (dPar i j dt) := by
  refine pds_of (ps_par hc hN hi hj hij hx hy pa_w hw hs) fun F σ S σV H D V R q P => ?_
  refine ha F σ S σV H _ _ R q fun xs vs F1 S1 H1 f1 r1 d1 l1 q1 => ?_
  match xs, vs, d1, q1 with
  | [x, y], [u, w], .cons r1' (.cons r2' .nil), q1 =>
    exact ⟨u, w, rfl, P.nx F1 _ S1 _ H1 f1 (((R.step f1 r1).set r1').set r2') q1⟩
/-- a field is stored -/
def dPutF (c : Nat) (f : String) (do_ dv : DE) : DS := fun D σ S => dv σ S fun y S1 => do_ σ S1 fun x S2 => ofO (insD S2 c x) fun z => z.2.length < 1000 ∧ D.nx σ (put S2 z.1 (.ins c (putFD f y z.2)))
theorem sim_putF {c : Nat} {f : String} {to_ tv : TE} (hc : Cls K (B.ca c)) (hn : NoAttr K (B.ca c) (Str.ofString f)) (ho : SimE K B da to_) (hv : SimE K B db tv) : SimS K B (dPutF c f da db) (sFld K to_ tv (Str.ofString f)) := by
  intro F σ S σV H D V R q P
  refine hv F σ S σV H _ _ R q fun y u F1 S1 H1 f1 r1 d1 q1 => ?_
  refine ho F1 σ S1 σV H1 _ _ (R.step f1 r1) q1 fun x v F2 S2 H2 f2 r2 d2 q2 => ?_
  obtain ⟨⟨p, fs⟩, ei, hl, q2⟩ := ofO_ex q2
  obtain ⟨_, ev, hS, dx, fv, hH, rf⟩ := insD_rel r2 d2 ei
  refine ⟨p, B.ca c, dx, fv, ev, hH, hc, hn, by rw [← fs_len rf]; exact hl, ?_⟩
  have fw := fr_write (F := F2) (H := H2) (o' := .ins c (putFD f y fs)) (u := .ins (B.ca c) dx (putF (Str.ofString f) u fv)) hS
  have rw2 := r2.write (o' := .ins c (putFD f y fs)) (u := .ins (B.ca c) dx (putF (Str.ofString f) u fv)) hS ⟨dx, _, upd_same, (fs_put rf (d1.mono r1 f2)).mono r2 fw⟩
  exact P.nx F2 σ _ σV _ (f1.trans (f2.trans fw)) (R.step (f1.trans (f2.trans fw)) rw2) q2
theorem pds_fld {c : Nat} {f : String} {pos' : Pos} (ho : PD X B o da) (hv : PD X B e db) (hc : Cls X.K (B.ca c)) (hn : NoAttr X.K (B.ca c) (Str.ofString f)) (hs : swapsWith e (some (.Attribute o (Str.ofString f) pos')) pos.line X.env = pure false := by rfl) :
    PDS X B (.Assign [.Attribute o (Str.ofString f) pos'] e pos) (dPutF c f da db) := pds_of (ps_fld pe_w pe_w hs) (sim_putF hc hn ho hv)
/-- name += e, field += e (ints) -/
def dAug (i : Nat) (g : Int → Int → Int) (d : DE) : DS := fun D σ S => match σ[i]? with
  | some (some (.int x)) => d σ S fun y S1 => match y with
    | .int y => D.nx (σ.set i (some (.int (g x y)))) S1
    | _ => False
  | _ => False
theorem sim_aug {i : Nat} {g : Int → Int → Int} (h : SimE K B da ta) : SimS K B (dAug i g da) (tAug i ta (ipI g)) := by
  intro F σ S σV H D V R q P
  unfold dAug at q
  split at q
  · rename_i x e
    obtain ⟨u, hu, ru⟩ := R.env.2 i _ e
    cases ru
    refine ⟨_, hu, ?_⟩
    refine h F σ S σV H _ _ R q fun y v F1 S1 H1 f1 r1 d1 q1 => ?_
    cases d1 with
    | int j => exact ⟨x, j, rfl, rfl, P.nx F1 _ S1 _ H1 f1 ((R.step f1 r1).set (.int _)) q1⟩
    | _ => exact q1.elim
  · exact q.elim
theorem pds_aug (i : Nat) {x : Str} {op : Operator} {g : Int → Int → Int} {pos' : Pos} (hN : X.N.Nodup) (ho : PIp X op (ipI g)) (h : PD X B e da) (hi : X.N[i]? = some x := by rfl) (hx : Loc X.env.scope x := by first | exact Or.inl rfl | exact Or.inr rfl)
    (hf : X.fn x = true ∨ X.env.scope.names.lookup x = some .local := by first | exact .inl rfl | exact .inr rfl | assumption) : PDS X B (.AugAssign (.Name x pos') op e pos) (dAug i g da) := pds_of (ps_aug hN hi hx pe_w ho hf) (sim_aug h)
def dAugF (c : Nat) (f : String) (g : Int → Int → Int) (do_ dv : DE) : DS := fun D σ S => do_ σ S fun x S1 => ofO (insD S1 c x) fun z => ofO (z.2.lookup f) fun old => dv σ S1 fun y S2 => match old, y with
  | .int i, .int j => ofO (insD S2 c x) fun z2 => z2.2.length < 1000 ∧ D.nx σ (put S2 z2.1 (.ins c (putFD f (.int (g i j)) z2.2)))
  | _, _ => False
theorem sim_augF {c : Nat} {f : String} {g : Int → Int → Int} {to_ tv : TE} (hc : Cls K (B.ca c)) (hn : NoAttr K (B.ca c) (Str.ofString f)) (ho : SimE K B da to_) (hv : SimE K B db tv) :
    SimS K B (dAugF c f g da db) (sFldAug K to_ tv (fun x y H Q => ∃ i j, x = .int i ∧ y = .int j ∧ Q (.int (g i j)) H) (Str.ofString f)) := by
  intro F σ S σV H D V R q P
  refine ho F σ S σV H _ _ R q fun x v F1 S1 H1 f1 r1 d1 q1 => ?_
  obtain ⟨⟨p, fs⟩, ei, q1⟩ := ofO_ex q1
  obtain ⟨old, eo, q1⟩ := ofO_ex q1
  obtain ⟨_, ev, hS, dx, fv, hH, rf⟩ := insD_rel r1 d1 ei
  obtain ⟨u, eu, ru⟩ := (fs_lookup rf f).1 old eo
  refine ⟨p, B.ca c, dx, fv, u, ev, hH, hc, hn, eu, ?_⟩
  refine hv F1 σ S1 σV H1 _ _ (R.step f1 r1) q1 fun y w F2 S2 H2 f2 r2 d2 q2 => ?_
  cases ru with
  | int i =>
    cases d2 with
    | int j =>
      refine ⟨i, j, rfl, rfl, ?_⟩
      obtain ⟨⟨p2, fs2⟩, ei2, hl, q2⟩ := ofO_ex q2
      obtain ⟨ex2, ev2, hS2, dx2, fv2, hH2, rf2⟩ := insD_rel r2 (d1.mono r1 f2) ei2
      have ep : p2 = p := by rw [ev] at ev2; cases ev2; rfl
      subst ep
      refine ⟨dx2, fv2, hH2, by rw [← fs_len rf2]; exact hl, ?_⟩
      have fw := fr_write (F := F2) (H := H2) (o' := .ins c (putFD f (.int (g i j)) fs2)) (u := .ins (B.ca c) dx2 (putF (Str.ofString f) (.int (g i j)) fv2)) hS2
      have rw2 := r2.write (o' := .ins c (putFD f (.int (g i j)) fs2)) (u := .ins (B.ca c) dx2 (putF (Str.ofString f) (.int (g i j)) fv2)) hS2 ⟨dx2, _, upd_same, (fs_put rf2 (.int _)).mono r2 fw⟩
      exact P.nx F2 σ _ σV _ (f1.trans (f2.trans fw)) (R.step (f1.trans (f2.trans fw)) rw2) q2
    | _ => exact q2.elim
  | _ => exact q2.elim
theorem pds_augF {c : Nat} {f : String} {op : Operator} {g : Int → Int → Int} {tpos : Pos} (ho : PD X B o da) (hv : PD X B e db) (hc : Cls X.K (B.ca c)) (hn : NoAttr X.K (B.ca c) (Str.ofString f)) (hop : InOp X op (fun x y H Q => ∃ i j, x = .int i ∧ y = .int j ∧ Q (.int (g i j)) H)) :
    PDS X B (.AugAssign (.Attribute o (Str.ofString f) tpos) op e pos) (dAugF c f g da db) := pds_of (ps_fldaug pe_w pe_w hop) (sim_augF hc hn ho hv)
/-- o[i] = e -/
def putKD (k : String) (v : D) (kd : List (String × D)) : List (String × D) :=
  if (kd.any fun p => decide (p.1 = k)) = true then kd.map (fun p => if p.1 = k then (p.1, v) else p) else kd ++ [(k, v)]
theorem key_dec (s k : String) : decide ((Sum.inr (Str.ofString s) : Key) = Sum.inr (Str.ofString k)) = decide (s = k) :=
  decide_eq_decide.mpr ⟨fun z => ofS_inj (Sum.inr.inj z), fun z => by rw [z]⟩
theorem ks_any {kd : List (String × D)} {kv : List (Key × V)} (q : RelKs K F H kd kv) (k : String) : (kv.any fun p => decide (p.1 = (Sum.inr (Str.ofString k) : Key))) = kd.any fun p => decide (p.1 = k) := by
  induction kd generalizing kv with
  | nil => cases q; rfl
  | cons p r ih =>
    cases q with
    | cons h q => rw [List.any_cons, List.any_cons, ih q, key_dec]
theorem ks_map {kd : List (String × D)} {kv : List (Key × V)} (q : RelKs K F H kd kv) {k : String} {x : D} {u : V} (rx : RelD K F H x u) :
    RelKs K F H (kd.map fun p => if p.1 = k then (p.1, x) else p) (kv.map fun p => if p.1 = (Sum.inr (Str.ofString k) : Key) then (p.1, u) else p) := by
  induction kd generalizing kv with
  | nil => cases q; exact .nil
  | cons p r ih =>
    cases q with
    | @cons s d v _ vs h q =>
      rw [List.map_cons, List.map_cons]
      by_cases e : s = k
      · subst e
        rw [if_pos rfl, if_pos rfl]
        exact .cons rx (ih q)
      · rw [if_neg e, if_neg fun z => e (ofS_inj (Sum.inr.inj z))]
        exact .cons h (ih q)
theorem ks_app {kd : List (String × D)} {kv : List (Key × V)} (q : RelKs K F H kd kv) {k : String} {x : D} {u : V} (rx : RelD K F H x u) : RelKs K F H (kd ++ [(k, x)]) (kv ++ [(.inr (Str.ofString k), u)]) := by
  induction kd generalizing kv with
  | nil => cases q; exact .cons rx .nil
  | cons p r ih => cases q with | cons h q => exact .cons h (ih q)
theorem ks_put {kd : List (String × D)} {kv : List (Key × V)} (q : RelKs K F H kd kv) {k : String} {x : D} {u : V} (rx : RelD K F H x u) : RelKs K F H (putKD k x kd) (putK kv (.inr (Str.ofString k)) u) := by
  unfold putKD putK
  rw [ks_any q k]
  by_cases h : (kd.any fun p => decide (p.1 = k)) = true
  · rw [if_pos h, if_pos h]
    exact ks_map q rx
  · rw [if_neg h, if_neg h]
    exact ks_app q rx
abbrev DSet := D → D → D → Store → (Store → Prop) → Prop
def stD : DSet := fun o i v S Q => match o with
  | .obj p => match S p with
    | some (.lst l) => match i with
      | .int k => ofO (ixN l.length k) fun j => Q (put S p (.lst (l.set j v)))
      | _ => False
    | some (.dic kd) => match i with
      | .str k => kd.length < lim ∧ Q (put S p (.dic (putKD k v kd)))
      | _ => False
    | _ => False
  | _ => False
def rSetX : TSet := fun o i v H Q => rSetL o i v H Q ∨ ∃ a H4, o = .ref a ∧ DPut H a i v H4 ∧ Q H4
theorem set_X (hu : X.A.units + 1 < cLine) : PSet X rSetX := by
  intro pins s σ H o i v ov iv u Q I ro ri rv h
  rcases h with h | ⟨a, H4, rfl, g, q⟩
  · exact set_list pins s σ H o i v ov iv u Q I ro ri rv h
  · obtain rfl : ov = Value.ref a := ro
    exact d_setItem hu I g ri rv fun s1 I1 => ⟨H4, I1, q⟩
def gSb (do_ di : DE) (t : DSet) : DG := fun v σ S Q => do_ σ S fun o S1 => di σ S1 fun i S2 => t o i v S2 fun S3 => Q σ S3
theorem sim_gSb {to_ ti : TE} (ho : SimE K B da to_) (hi : SimE K B db ti) : SimG K B (gSb da db stD) (gSub to_ ti rSetX) := by
  intro F σ S σV H x v Q QV R r q P
  refine ho F σ S σV H _ _ R q fun o ov F1 S1 H1 f1 r1 d1 q1 => ?_
  refine hi F1 σ S1 σV H1 _ _ (R.step f1 r1) q1 fun i iv F2 S2 H2 f2 r2 d2 q2 => ?_
  have rv2 := r.mono R.st (f1.trans f2)
  have d1' := d1.mono r1 f2
  cases d1' with
  | obj p =>
    unfold stD at q2
    dsimp only at q2
    cases e : S2 p with
    | none => rw [e] at q2; exact q2.elim
    | some w =>
      rw [e] at q2
      obtain ⟨_, ro⟩ := r2.ob p _ e
      cases w with
      | lst l =>
        cases d2 with
        | int k =>
          obtain ⟨j, ej, q2⟩ := ofO_ex q2
          obtain ⟨vs, hH, ql⟩ := ro
          refine .inl ⟨p, vs, k, j, rfl, rfl, hH, by rw [← ql.length]; exact ej, ?_⟩
          have fw := fr_write (F := F2) (H := H2) (o' := .lst (l.set j x)) (u := .lst (vs.set j v)) e
          have rw2 := r2.write (o' := .lst (l.set j x)) (u := .lst (vs.set j v)) e ⟨_, upd_same, (ql.set rv2 j).mono r2 fw⟩
          exact P F2 σ _ σV _ (f1.trans (f2.trans fw)) (R.step (f1.trans (f2.trans fw)) rw2) q2
        | _ => exact q2.elim
      | dic kd =>
        cases d2 with
        | str k =>
          obtain ⟨hl, q2⟩ := q2
          obtain ⟨kv, hH, qk⟩ := ro
          refine .inr ⟨p, _, rfl, DPut.k (k := .inr (Str.ofString k)) hH (by rw [← ks_len qk, lim_eq]; exact hl), ?_⟩
          have fw := fr_write (F := F2) (H := H2) (o' := .dic (putKD k x kd)) (u := .dK (putK kv (.inr (Str.ofString k)) v)) e
          have rw2 := r2.write (o' := .dic (putKD k x kd)) (u := .dK (putK kv (.inr (Str.ofString k)) v)) e ⟨_, upd_same, (ks_put qk rv2).mono r2 fw⟩
          exact P F2 σ _ σV _ (f1.trans (f2.trans fw)) (R.step (f1.trans (f2.trans fw)) rw2) q2
        | _ => exact q2.elim
      | ins c fs => exact q2.elim
  | _ => exact q2.elim
theorem pdg_sub {i : Expr} (hu : X.A.units + 1 < cLine) (ho : PD X B o da) (hi : PD X B i db)
    (ha : ∀ v, assign (.Subscript o i pos) X.env v = (do
      let ov ← holding [v] (eval o X.env)
      let iv ← holding [v, ov] (eval i X.env)
      standAt pos
      holding [v, ov, iv] (setItem ov iv v)
      release [v, ov, iv] []) := by intro _; rfl) : PDG X B (.Subscript o i pos) (gSb da db stD) := pdg_of (pg_sub pe_w pe_w (set_X hu) ha) (sim_gSb ho hi)

/-! ### while -/
def dWhile (c : DT) (tb : DS) : DS := fun D σ S => ∃ W : Nat → DEnv → Store → Prop, (∃ m, W m σ S) ∧ ∀ m σ S, W m σ S →
  c σ S fun k S1 => if k = true then ∃ N : DEnv → Store → Prop, (∀ σ' S', N σ' S' → ∃ m', m' < m ∧ W m' σ' S') ∧ tb { D with nx := N, ct := N, bk := D.nx } σ S1 else D.nx σ S1
theorem sim_while {dc : DT} {tc : TT} (hc : SimT K B dc tc) (hb : SimS K B ds t) : SimS K B (dWhile dc ds) (tWhile tc t) := by
  intro F σ S σV H D V R q P
  obtain ⟨W, ⟨m0, w0⟩, turn⟩ := q
  refine ⟨fun m σV' H' => ∃ F' σ' S', Fr F S H F' S' H' ∧ Rel K B F' σ' S' σV' H' ∧ W m σ' S', ⟨m0, F, σ, S, Fr.refl, R, w0⟩, ?_⟩
  rintro m σV1 H1 ⟨F1, σ1, S1, f1, R1, w1⟩
  refine hc F1 σ1 S1 σV1 H1 _ _ R1 (turn m σ1 S1 w1) fun k F2 S2 H2 f2 r2 q2 => ?_
  cases k with
  | false => exact P.nx F2 σ1 S2 σV1 H2 (f1.trans f2) (R1.step f2 r2) q2
  | true =>
    obtain ⟨N, hN, q2⟩ := q2
    refine ⟨fun σV' H' => ∃ F' σ' S', Fr F S H F' S' H' ∧ Rel K B F' σ' S' σV' H' ∧ N σ' S', ?_, ?_⟩
    · rintro σV' H' ⟨F', σ', S', f', R', n'⟩
      obtain ⟨m', hm, w'⟩ := hN σ' S' n'
      exact ⟨m', hm, F', σ', S', f', R', w'⟩
    · have fz := f1.trans f2
      refine hb F2 σ1 S2 σV1 H2 _ _ (R1.step f2 r2) q2 ⟨?_, P.rt.step fz, P.nx.step fz, ?_⟩
      · intro F' σ' S' σV' H' f' R' n'
        exact ⟨F', σ', S', fz.trans f', R', n'⟩
      · intro F' σ' S' σV' H' f' R' n'
        exact ⟨F', σ', S', fz.trans f', R', n'⟩
theorem pds_while {c : Expr} {dc : DT} (hp : PassesOwn (model X.prog X.w) X.A X.env X.xe) (hc : PDT X B c dc) (hb : PDSs X B body ds) : PDS X B (.While c body [] pos) (dWhile dc ds) := pds_of (ps_while hp pt_w pss_w) (sim_while hc hb)

/-! ### what is walked: the items, and what keeps them -/
abbrev DI := DEnv → Store → (List D → (Store → Prop) → Store → Prop) → Prop
/-- the walk J gives the items L while keep holds -/
def ItRel (K : PySem.W.Frag) (ca : Nat → Addr) (F : Addr → Prop) (S : Store) (H : Hp) (L : List D) (keep : Store → Prop) (J : It) : Prop :=
  ∀ (i : Nat) F' S' H', Fr F S H F' S' H' → RelS K ca F' S' H' → keep S' →
    (∀ d, L[i]? = some d → J.go i H' ∧ ∀ x H'', J.yld i H' x H'' → Fr F' S' H' F' S' H'' ∧ RelS K ca F' S' H'' ∧ RelD K F' H'' d x) ∧ (L.length ≤ i → J.stop i H')
def SimI (K : PySem.W.Frag) (B : Bc) (d : DI) (t : TI) : Prop := ∀ F σ S σV H Q (R' : It → Hp → Prop), Rel K B F σ S σV H → d σ S Q →
  (∀ L keep F' S' H' J, Fr F S H F' S' H' → RelS K B.ca F' S' H' → ItRel K B.ca F' S' H' L keep J → Q L keep S' → R' J H') → t σV H R'
def PDI (X : Cx) (B : Bc) (tg iter : Expr) (d : DI) : Prop := ∃ t, PI X tg iter t ∧ SimI X.K B d t
/-- over a list or a tuple: its items; a list of the store must stay as it is -/
def keepL (x : D) (l : List D) : Store → Prop := fun S => asL S x = some l
def iL (d : DE) : DI := fun σ S Q => d σ S fun x S1 => ofO (asL S1 x) fun l => Q l (keepL x l) S1
def iT (d : DE) : DI := fun σ S Q => d σ S fun x S1 => match x with
  | .tup l => Q l (fun _ => True) S1
  | _ => False
theorem sim_iL (h : SimE K B da ta) : SimI K B (iL da) (iList K ta) := by
  intro F σ S σV H Q R' R q P
  refine h F σ S σV H _ _ R q fun x v F1 S1 H1 f1 r1 d1 q1 => ?_
  obtain ⟨l, e, q1⟩ := ofO_ex q1
  obtain ⟨a, vs, ev, hs, ql⟩ := asL_rel r1 d1 e
  refine ⟨a, ev, ⟨vs, hs⟩, P l _ F1 S1 H1 _ f1 r1 ?_ q1⟩
  intro i F' S' H' f' r' kp
  obtain ⟨a', vs', ev', hs', ql'⟩ := asL_rel r' (d1.mono r1 f') kp
  rw [ev] at ev'
  cases ev'
  refine ⟨fun d ed => ?_, fun hl => ⟨vs', hs', by rw [← ql'.length]; exact hl⟩⟩
  obtain ⟨u, eu, ru⟩ := ql'.get ed
  refine ⟨⟨vs', u, hs', eu⟩, fun x H'' y => ?_⟩
  obtain ⟨e1, y⟩ := y
  subst e1
  have e2 := y vs' hs'
  rw [eu] at e2
  cases e2
  exact ⟨Fr.refl, r', ru⟩
theorem sim_iT (h : SimE K B da ta) : SimI K B (iT da) (iTup K ta) := by
  intro F σ S σV H Q R' R q P
  refine h F σ S σV H _ _ R q fun x v F1 S1 H1 f1 r1 d1 q1 => ?_
  cases d1 with
  | @tup a vs l hs ql =>
    refine ⟨a, rfl, ⟨vs, hs⟩, P l _ F1 S1 H1 _ f1 r1 ?_ q1⟩
    intro i F' S' H' f' r' _
    have hs' := fr_t r1 f' hs
    have ql' := ql.mono r1 f'
    refine ⟨fun d ed => ?_, fun hl => ⟨vs, hs', by rw [← ql'.length]; exact hl⟩⟩
    obtain ⟨u, eu, ru⟩ := ql'.get ed
    refine ⟨⟨vs, u, hs', eu⟩, fun x H'' y => ?_⟩
    obtain ⟨e1, y⟩ := y
    subst e1
    have e2 := y vs hs'
    rw [eu] at e2
    cases e2
    exact ⟨Fr.refl, r', ru⟩
  | _ => exact q1.elim
theorem pdi_list {tg : Expr} (h : PD X B e da) : PDI X B tg e (iL da) := ⟨_, pi_list pe_w, sim_iL h⟩
theorem pdi_tup {tg : Expr} (h : PD X B e da) : PDI X B tg e (iT da) := ⟨_, pi_tup pe_w, sim_iT h⟩
def rangeD (lo : Int) (n : Nat) : List D := (List.range n).map fun (i : Nat) => D.int (lo + (i : Int))
theorem rangeD_get {lo : Int} {n i : Nat} {d : D} (e : (rangeD lo n)[i]? = some d) : i < n ∧ d = .int (lo + (i : Int)) := by
  unfold rangeD at e
  rw [List.getElem?_map] at e
  by_cases h : i < n
  · rw [List.getElem?_range h] at e
    cases e
    exact ⟨h, rfl⟩
  · rw [List.getElem?_eq_none (by simpa using h)] at e
    cases e
theorem it_range (lo : Int) (n : Nat) : ItRel K ca F S H (rangeD lo n) (fun _ => True) (Itr lo n) := by
  intro i F' S' H' f' r' _
  refine ⟨fun d ed => ?_, fun hl => show n ≤ i by unfold rangeD at hl; simpa using hl⟩
  obtain ⟨hi, rfl⟩ := rangeD_get ed
  refine ⟨hi, fun x H'' y => ?_⟩
  obtain ⟨e1, e2⟩ := y
  subst e1 e2
  exact ⟨Fr.refl, r', .int _⟩
def iR1 (dt : DA) : DI := fun σ S Q => dt σ S fun xs S1 => match xs with
  | [.int j] => (-(2 ^ 62) ≤ j ∧ j < 2 ^ 62) ∧ Q (rangeD 0 j.toNat) (fun _ => True) S1
  | _ => False
def iR2 (dt : DA) : DI := fun σ S Q => dt σ S fun xs S1 => match xs with
  | [.int i, .int j] => (-(2 ^ 62) ≤ i ∧ i < 2 ^ 62 ∧ -(2 ^ 62) ≤ j ∧ j < 2 ^ 62) ∧ Q (rangeD i (j - i).toNat) (fun _ => True) S1
  | _ => False
theorem sim_iR1 {dt : DA} {tt : TA} (h : SimA K B n dt tt) : SimI K B (iR1 dt) (iRng1 tt) := by
  intro F σ S σV H Q R' R q P
  refine h F σ S σV H _ _ R q fun xs vs F1 S1 H1 f1 r1 d1 _ q1 => ?_
  match xs, vs, d1, q1 with
  | [.int j], _, .cons (.int _) .nil, q1 => exact ⟨j, rfl, q1.1.1, q1.1.2, P _ _ F1 S1 H1 _ f1 r1 (it_range 0 _) q1.2⟩
theorem sim_iR2 {dt : DA} {tt : TA} (h : SimA K B n dt tt) : SimI K B (iR2 dt) (iRng2 tt) := by
  intro F σ S σV H Q R' R q P
  refine h F σ S σV H _ _ R q fun xs vs F1 S1 H1 f1 r1 d1 _ q1 => ?_
  match xs, vs, d1, q1 with
  | [.int i, .int j], _, .cons (.int _) (.cons (.int _) .nil), q1 => exact ⟨i, j, rfl, q1.1, P _ _ F1 S1 H1 _ f1 r1 (it_range i _) q1.2⟩
theorem pdi_range1 {tg : Expr} {dt : DA} {p : Pos} (hg : Gl X "range") (hm : X.mg "range" = none) (ha : PDA X B [a] n dt) (hs : starEach [a] X.env = [(false, eval a X.env)] := by rfl) : PDI X B tg (.Call (.Name "range" p) [a] [] pos) (iR1 dt) := ⟨_, pi_range1 hg hm pa_w hs, sim_iR1 ha⟩
theorem pdi_range2 {tg : Expr} {dt : DA} {p : Pos} (hg : Gl X "range") (hm : X.mg "range" = none) (ha : PDA X B [a, b] n dt) (hs : starEach [a, b] X.env = [(false, eval a X.env), (false, eval b X.env)] := by rfl) (hs2 : starEach [b] X.env = [(false, eval b X.env)] := by rfl) :
    PDI X B tg (.Call (.Name "range" p) [a, b] [] pos) (iR2 dt) := ⟨_, pi_range2 hg hm pa_w hs hs2, sim_iR2 ha⟩
/-- reversed(list) -/
def iRv (dt : DA) : DI := fun σ S Q => dt σ S fun xs S1 => match xs with
  | [x] => ofO (asL S1 x) fun l => Q l.reverse (keepL x l) S1
  | _ => False
theorem sim_iRv {dt : DA} {tt : TA} (h : SimA K B n dt tt) : SimI K B (iRv dt) (iRev K tt) := by
  intro F σ S σV H Q R' R q P
  refine h F σ S σV H _ _ R q fun xs vs F1 S1 H1 f1 r1 d1 _ q1 => ?_
  match xs, vs, d1, q1 with
  | [x], [v], .cons dx .nil, q1 =>
    obtain ⟨l, e, q1⟩ := ofO_ex q1
    obtain ⟨a, ws, ev, hs, ql⟩ := asL_rel r1 dx e
    refine ⟨a, ws, by rw [ev], hs, P _ _ F1 S1 H1 _ f1 r1 ?_ q1⟩
    intro i F' S' H' f' r' kp
    obtain ⟨a', vs', ev', hs', ql'⟩ := asL_rel r' (dx.mono r1 f') kp
    rw [ev] at ev'
    cases ev'
    have hlen : vs'.length = ws.length := by rw [← ql'.length, ql.length]
    refine ⟨fun d ed => ?_, fun hl => by rw [List.length_reverse, ql.length] at hl; exact hl⟩
    have hi : i < l.length := by
      have z := (List.getElem?_eq_some_iff.mp ed).1
      rwa [List.length_reverse] at z
    rw [List.getElem?_reverse hi] at ed
    obtain ⟨u, eu, ru⟩ := ql'.get ed
    rw [ql.length] at eu
    refine ⟨⟨by rw [← ql.length]; exact hi, vs', u, hs', eu⟩, fun x H'' y => ?_⟩
    obtain ⟨e1, y⟩ := y
    subst e1
    have e2 := y vs' hs'
    rw [eu] at e2
    cases e2
    exact ⟨Fr.refl, r', ru⟩
theorem pdi_rev {tg : Expr} {dt : DA} {p : Pos} (hg : Gl X "reversed") (hm : X.mg "reversed" = none) (ha : PDA X B [e] n dt) (hs : starEach [e] X.env = [(false, eval e X.env)] := by rfl) : PDI X B tg (.Call (.Name "reversed" p) [e] [] pos) (iRv dt) := ⟨_, pi_reversed hg hm pa_w hs, sim_iRv ha⟩
/-- enumerate(list), zip(list, list): the target is a tuple -/
def enumD (i : Nat) : List D → List D
  | [] => []
  | d :: l => .tup [.int (i : Int), d] :: enumD (i + 1) l
theorem enumD_len : ∀ (l : List D) (i : Nat), (enumD i l).length = l.length
  | [], _ => rfl
  | _ :: l, i => by rw [enumD, List.length_cons, enumD_len l, List.length_cons]
theorem enumD_get : ∀ (l : List D) (i j : Nat) {x : D}, (enumD j l)[i]? = some x → ∃ d, l[i]? = some d ∧ x = .tup [.int ((j + i : Nat) : Int), d]
  | [], i, j, x, e => by simp [enumD] at e
  | d :: l, 0, j, x, e => by
    simp [enumD] at e
    exact ⟨d, rfl, e.symm⟩
  | d :: l, i + 1, j, x, e => by
    obtain ⟨z, e1, e2⟩ := enumD_get l i (j + 1) (x := x) (by simpa [enumD] using e)
    exact ⟨z, by simpa using e1, by rw [e2, show j + 1 + i = j + (i + 1) by omega]⟩
def iEn (dt : DA) : DI := fun σ S Q => dt σ S fun xs S1 => match xs with
  | [x] => ofO (asL S1 x) fun l => Q (enumD 0 l) (keepL x l) S1
  | _ => False
theorem sim_iEn {dt : DA} {tt : TA} (h : SimA K B n dt tt) : SimI K B (iEn dt) (iEnum K tt) := by
  intro F σ S σV H Q R' R q P
  refine h F σ S σV H _ _ R q fun xs vs F1 S1 H1 f1 r1 d1 _ q1 => ?_
  match xs, vs, d1, q1 with
  | [x], [v], .cons dx .nil, q1 =>
    obtain ⟨l, e, q1⟩ := ofO_ex q1
    obtain ⟨a, ws, ev, hs, ql⟩ := asL_rel r1 dx e
    refine ⟨a, ws, by rw [ev], hs, P _ _ F1 S1 H1 _ f1 r1 ?_ q1⟩
    intro i F' S' H' f' r' kp
    obtain ⟨a', vs', ev', hs', ql'⟩ := asL_rel r' (dx.mono r1 f') kp
    rw [ev] at ev'
    cases ev'
    refine ⟨fun d ed => ?_, fun hl => ⟨vs', hs', by rw [enumD_len, ql'.length] at hl; exact hl⟩⟩
    obtain ⟨z, ez, rfl⟩ := enumD_get l i 0 ed
    obtain ⟨u, eu, ru⟩ := ql'.get ez
    refine ⟨⟨vs', u, hs', eu⟩, fun x H'' y => ?_⟩
    obtain ⟨T, u', rfl, hT, rfl, y⟩ := y
    have e2 := y vs' hs'
    rw [eu] at e2
    cases e2
    refine ⟨fr_newD hT, r'.newD hT, .tup (SqT.of upd_same) (.cons ?_ (.cons (ru.mono r' (fr_newD hT)) .nil))⟩
    rw [Nat.zero_add]
    exact .int _
theorem pdi_enum {elts : List Expr} {kk : Nat} {tpos p : Pos} {dt : DA} (hg : Gl X "enumerate") (hm : X.mg "enumerate" = none) (ha : PDA X B [e] n dt) (hs : starEach [e] X.env = [(false, eval e X.env)] := by rfl) : PDI X B (.Tuple elts kk tpos) (.Call (.Name "enumerate" p) [e] [] pos) (iEn dt) :=
  ⟨_, pi_enum hg hm pa_w hs, sim_iEn ha⟩
def zipD : List D → List D → List D
  | x :: xs, y :: ys => .tup [x, y] :: zipD xs ys
  | _, _ => []
theorem zipD_get : ∀ (l m : List D) (i : Nat) {x : D}, (zipD l m)[i]? = some x → ∃ d e, l[i]? = some d ∧ m[i]? = some e ∧ x = .tup [d, e]
  | [], _, i, x, e => by simp [zipD] at e
  | _ :: _, [], i, x, e => by simp [zipD] at e
  | d :: l, e' :: m, 0, x, e => by
    simp [zipD] at e
    exact ⟨d, e', rfl, rfl, e.symm⟩
  | d :: l, e' :: m, i + 1, x, e => by
    obtain ⟨z, w, e1, e2, e3⟩ := zipD_get l m i (x := x) (by simpa [zipD] using e)
    exact ⟨z, w, by simpa using e1, by simpa using e2, e3⟩
theorem zipD_end : ∀ (l m : List D) (i : Nat), (zipD l m).length ≤ i → l.length ≤ i ∨ m.length ≤ i
  | [], _, i, _ => .inl (Nat.zero_le _)
  | _ :: _, [], i, _ => .inr (Nat.zero_le _)
  | _ :: l, _ :: m, 0, h => by simp [zipD] at h
  | _ :: l, _ :: m, i + 1, h => by
    have := zipD_end l m i (by simpa [zipD] using h)
    simpa using this
def iZp (dt : DA) : DI := fun σ S Q => dt σ S fun xs S1 => match xs with
  | [x, y] => ofO (asL S1 x) fun l => ofO (asL S1 y) fun m => Q (zipD l m) (fun S' => keepL x l S' ∧ keepL y m S') S1
  | _ => False
theorem sim_iZp {dt : DA} {tt : TA} (h : SimA K B n dt tt) : SimI K B (iZp dt) (iZip K tt) := by
  intro F σ S σV H Q R' R q P
  refine h F σ S σV H _ _ R q fun xs vs F1 S1 H1 f1 r1 d1 _ q1 => ?_
  match xs, vs, d1, q1 with
  | [x, y], [v, w], .cons dx (.cons dy .nil), q1 =>
    obtain ⟨l, e, q1⟩ := ofO_ex q1
    obtain ⟨m, e', q1⟩ := ofO_ex q1
    obtain ⟨a, ws, ev, hs, ql⟩ := asL_rel r1 dx e
    obtain ⟨b, us, ew, hs2, qm⟩ := asL_rel r1 dy e'
    refine ⟨a, b, ws, us, by rw [ev, ew], hs, hs2, P _ _ F1 S1 H1 _ f1 r1 ?_ q1⟩
    intro i F' S' H' f' r' kp
    obtain ⟨a', vs', ev', hs', ql'⟩ := asL_rel r' (dx.mono r1 f') kp.1
    obtain ⟨b', us', ew', ht', qm'⟩ := asL_rel r' (dy.mono r1 f') kp.2
    rw [ev] at ev'
    cases ev'
    rw [ew] at ew'
    cases ew'
    refine ⟨fun d ed => ?_, fun hl => ⟨vs', us', hs', ht', by rw [← ql'.length, ← qm'.length]; exact zipD_end l m i hl⟩⟩
    obtain ⟨z, z2, ez, ez2, rfl⟩ := zipD_get l m i ed
    obtain ⟨u, eu, ru⟩ := ql'.get ez
    obtain ⟨u2, eu2, ru2⟩ := qm'.get ez2
    refine ⟨⟨vs', us', u, u2, hs', ht', eu, eu2⟩, fun x H'' y => ?_⟩
    obtain ⟨T, p, q, rfl, hT, rfl, y1, y2⟩ := y
    have e2 := y1 vs' hs'
    rw [eu] at e2
    cases e2
    have e3 := y2 us' ht'
    rw [eu2] at e3
    cases e3
    exact ⟨fr_newD hT, r'.newD hT, .tup (SqT.of upd_same) (.cons (ru.mono r' (fr_newD hT)) (.cons (ru2.mono r' (fr_newD hT)) .nil))⟩
theorem pdi_zip {elts : List Expr} {kk : Nat} {tpos p : Pos} {dt : DA} (hg : Gl X "zip") (hm : X.mg "zip" = none) (ha : PDA X B [a, b] n dt) (hs : starEach [a, b] X.env = (false, eval a X.env) :: starEach [b] X.env := by rfl) (hpl : (backTo pos (starEach [b] X.env)).any (·.1) = false := by rfl) :
    PDI X B (.Tuple elts kk tpos) (.Call (.Name "zip" p) [a, b] [] pos) (iZp dt) := ⟨_, pi_zip hg hm pa_w hs hpl, sim_iZp ha⟩

/-! ### for -/
def forL (keep : Store → Prop) (g : DG) (tb : DS) : List D → DS
  | [] => fun D σ S => keep S ∧ D.nx σ S
  | x :: r => fun D σ S => keep S ∧ g x σ S fun σ1 S1 => tb { D with nx := forL keep g tb r D, ct := forL keep g tb r D, bk := D.nx } σ1 S1
def dFor (it : DI) (g : DG) (tb : DS) : DS := fun D σ S => it σ S fun L keep S1 => forL keep g tb L D σ S1
theorem sim_for {di : DI} {wi : TI} {g : DG} {tg : TG} (hi : SimI K B di wi) (hg : SimG K B g tg) (hb : SimS K B ds t) : SimS K B (dFor di g ds) (tFor wi tg t) := by
  intro F σ S σV H D V R q P
  refine hi F σ S σV H _ _ R q fun L keep F1 S1 H1 J f1 r1 it q1 => ?_
  refine ⟨fun i m σV' H' => ∃ F' σ' S', m = L.length - i ∧ i ≤ L.length ∧ Fr F1 S1 H1 F' S' H' ∧ Rel K B F' σ' S' σV' H' ∧ forL keep g ds (L.drop i) D σ' S',
    ⟨L.length, F1, σ, S1, by omega, Nat.zero_le _, Fr.refl, R.step f1 r1, q1⟩, ?_⟩
  rintro i m σV2 H2 ⟨F2, σ2, S2, rfl, hl, f2, R2, q2⟩
  have kp : keep S2 := by
    cases e : L.drop i with
    | nil => rw [e] at q2; exact q2.1
    | cons x r => rw [e] at q2; exact q2.1
  obtain ⟨go, stop⟩ := it i F2 S2 H2 f2 R2.st kp
  by_cases h : i < L.length
  · have ed : L.drop i = L[i] :: L.drop (i + 1) := List.drop_eq_getElem_cons h
    rw [ed] at q2
    obtain ⟨hgo, yl⟩ := go L[i] (by simp [h])
    refine .inr ⟨hgo, fun σV' H' => ∃ F' σ' S', Fr F1 S1 H1 F' S' H' ∧ Rel K B F' σ' S' σV' H' ∧ forL keep g ds (L.drop (i + 1)) D σ' S', ?_, ?_⟩
    · rintro σV' H' ⟨F', σ', S', f', R', q'⟩
      exact ⟨L.length - (i + 1), by omega, F', σ', S', rfl, h, f', R', q'⟩
    · intro x H3 y
      obtain ⟨f3, r3, d3⟩ := yl x H3 y
      refine hg F2 σ2 S2 σV2 H3 L[i] x _ _ (R2.step f3 r3) d3 q2.2 fun F4 σ4 S4 σV4 H4 f4 R4 q4 => ?_
      have fz := f2.trans (f3.trans f4)
      refine hb F4 σ4 S4 σV4 H4 _ _ R4 q4 ⟨?_, P.rt.step (f1.trans fz), P.nx.step (f1.trans fz), ?_⟩
      · intro F' σ' S' σV' H' f' R' q'
        exact ⟨F', σ', S', fz.trans f', R', q'⟩
      · intro F' σ' S' σV' H' f' R' q'
        exact ⟨F', σ', S', fz.trans f', R', q'⟩
  · have ed : L.drop i = [] := List.drop_eq_nil_of_le (by omega)
    rw [ed] at q2
    exact .inl ⟨stop (by omega), P.nx F2 σ2 S2 σV2 H2 (f1.trans f2) R2 q2.2⟩
theorem pds_for {tg iter : Expr} {di : DI} {g : DG} (hp : PassesOwn (model X.prog X.w) X.A X.env X.xe) (hc : X.calm = true) (hi : PDI X B tg iter di) (hg : PDG X B tg g) (hb : PDSs X B body ds)
    (hs : ∀ x, foldedSetIterable iter X.env x = pure x := by intro _; rfl) : PDS X B (.For tg iter body [] pos) (dFor di g ds) := by
  obtain ⟨wi, pi, si⟩ := hi
  exact pds_of (ps_for hp hc pi pg_w pss_w hs) (sim_for si hg hb)
end
end DL
/-! DL7: comprehensions; a def's body. -/
namespace DL
open PySem PySem.Spec PyProof.Rows L2

section
variable {K : PySem.W.Frag} {ca : Nat → Addr} {F F' : Addr → Prop} {S S' : Store} {H H' : Hp} {B : Bc} {Q : QE} {QV : VK} {d : D} {v : V} {l : List D} {X : Cx} {a b e o : Expr} {es : List Expr} {da db dd : DE} {ta tb te : TE} {pos p2 : Pos} {n : Nat} {σ : DEnv} {σV : L2.St}
/-- the block's own names are forgotten at its start -/
def wipeD (σ : DEnv) : List Nat → DEnv
  | [] => σ
  | v :: vs => (wipeD σ vs).set v none
theorem RelEnv.wipe (e : RelEnv K F H σ σV) : ∀ vs, RelEnv K F H (wipeD σ vs) (L2.wipe σV vs)
  | [] => e
  | v :: vs => by
    have ih := RelEnv.wipe e vs
    refine ⟨by show ((wipeD σ vs).set v none).length = ((L2.wipe σV vs).set v none).length; rw [List.length_set, List.length_set]; exact ih.1, fun i d h => ?_⟩
    have h : ((wipeD σ vs).set v none)[i]? = some (some d) := h
    show ∃ u, ((L2.wipe σV vs).set v none)[i]? = some (some u) ∧ RelD K F H d u
    by_cases hv : v = i
    · subst hv
      by_cases hl : v < (wipeD σ vs).length
      · rw [List.getElem?_set_self hl] at h; cases h
      · rw [List.getElem?_eq_none (by simpa using hl)] at h; cases h
    · rw [List.getElem?_set_ne hv] at h
      rw [List.getElem?_set_ne hv]
      exact ih.2 i d h
theorem Rel.wipe (R : Rel K B F σ S σV H) (vs : List Nat) : Rel K B F (wipeD σ vs) S (L2.wipe σV vs) H := ⟨R.env.wipe vs, R.st, R.fr⟩

/-- the item goes to one name, or to several -/
inductive CT where
  | one (i : Nat)
  | many (is : List Nat)
def CT.g : CT → DG
  | .one i => gN i
  | .many is => gTp is.length (is.foldr (fun i g => gsC (gN i) g) gsN)
def CT.t (K : PySem.W.Frag) : CT → TG
  | .one i => gName i
  | .many is => gTup K is.length (is.foldr (fun i g => gCons (gName i) g) gNil)
def CT.is : CT → List Nat
  | .one i => [i]
  | .many is => is
theorem sim_manys : ∀ is : List Nat, SimGs K B (is.foldr (fun i g => gsC (gN i) g) gsN) (is.foldr (fun i g => gCons (gName i) g) gNil)
  | [] => sim_gsN
  | i :: is => sim_gsC sim_gN (sim_manys is)
theorem sim_ct : ∀ c : CT, SimG K B c.g (c.t K)
  | .one i => sim_gN
  | .many is => sim_gTp (sim_manys is)
theorem wipe_setO {σ : L2.St} {i : Nat} {z : Option V} : ∀ {vs : List Nat}, i ∈ vs → L2.wipe (σ.set i z) vs = L2.wipe σ vs
  | v :: vs, h => by
    have keep : ∀ (vs : List Nat), i ∉ vs → L2.wipe (σ.set i z) vs = (L2.wipe σ vs).set i z := fun vs => by
      induction vs with
      | nil => intro _; rfl
      | cons w ws ih =>
        intro hn
        have h1 : w ≠ i := fun z => hn (by simp [z])
        show (L2.wipe (σ.set i z) ws).set w none = ((L2.wipe σ ws).set w none).set i z
        rw [ih (fun z => hn (List.mem_cons_of_mem _ z)), List.set_comm _ _ h1.symm]
    show (L2.wipe (σ.set i z) vs).set v none = (L2.wipe σ vs).set v none
    by_cases hi : i ∈ vs
    · rw [wipe_setO hi]
    · have e : i = v := by
        rcases List.mem_cons.mp h with z | z
        · exact z
        · exact absurd z hi
      subst e
      rw [keep vs hi, List.set_set]
theorem wipe_set {σ : L2.St} {i : Nat} {x : V} {vs : List Nat} (h : i ∈ vs) : L2.wipe (σ.set i (some x)) vs = L2.wipe σ vs := wipe_setO h
theorem wipe_sub {σ : L2.St} {vs : List Nat} : ∀ {ws : List Nat}, (∀ i ∈ ws, i ∈ vs) → L2.wipe (L2.wipe σ ws) vs = L2.wipe σ vs
  | [], _ => rfl
  | w :: ws, h => by
    show L2.wipe ((L2.wipe σ ws).set w none) vs = _
    rw [wipe_setO (h w (by simp)), wipe_sub fun i hi => h i (List.mem_cons_of_mem _ hi)]
theorem wipe_idem {σ : L2.St} {vs : List Nat} : L2.wipe (L2.wipe σ vs) vs = L2.wipe σ vs := wipe_sub fun _ h => h
/-- such a target stores into its own names alone -/
theorem manys_only {vs : List Nat} : ∀ {is : List Nat}, (∀ i ∈ is, i ∈ vs) → ∀ {xs : List V} {σ : L2.St} {H : Hp} {Q : L2.St → Hp → Prop}, (is.foldr (fun i g => gCons (gName i) g) gNil) xs σ H Q →
    (is.foldr (fun i g => gCons (gName i) g) gNil) xs σ H fun σ2 H2 => L2.wipe σ2 vs = L2.wipe σ vs ∧ Q σ2 H2
  | [], _, xs, σ, H, Q, h => ⟨h.1, rfl, h.2⟩
  | i :: is, hm, xs, σ, H, Q, h => by
    obtain ⟨v, r, e, h⟩ := h
    refine ⟨v, r, e, ?_⟩
    have z := manys_only (vs := vs) (is := is) (fun j hj => hm j (List.mem_cons_of_mem _ hj)) (xs := r) (σ := σ.set i (some v)) (H := H) (Q := Q) h
    rw [wipe_set (hm i (by simp))] at z
    exact z
theorem ct_only {vs : List Nat} : ∀ {c : CT}, (∀ i ∈ c.is, i ∈ vs) → ∀ {x : V} {σ : L2.St} {H : Hp} {Q : L2.St → Hp → Prop}, c.t K x σ H Q → c.t K x σ H fun σ2 H2 => L2.wipe σ2 vs = L2.wipe σ vs ∧ Q σ2 H2
  | .one i, hm, x, σ, H, Q, h => ⟨wipe_set (hm i (by simp [CT.is])), h⟩
  | .many is, hm, x, σ, H, Q, h => by
    obtain ⟨a, xs, e, hs, hl, h⟩ := h
    exact ⟨a, xs, e, hs, hl, manys_only hm h⟩

theorem ct_own {vs : List Nat} {c : CT} (hm : ∀ i ∈ c.is, i ∈ vs) {x : V} {σ : L2.St} {H : Hp} {Q : L2.St → Hp → Prop} (h : c.t K x (L2.wipe σ vs) H Q) : c.t K x (L2.wipe σ vs) H fun σ2 H2 => L2.wipe σ2 vs = L2.wipe σ vs ∧ Q σ2 H2 := by
  have z := ct_only (vs := vs) hm h
  rw [wipe_idem] at z
  exact z
/-- [elt for target in iter if test]: the items kept so far -/
def lcL (keep : Store → Prop) (g : DG) (tt : DT) (te : DE) (σ : DEnv) : List D → List D → Store → (List D → Store → Prop) → Prop
  | [], acc, S, Q => keep S ∧ Q acc S
  | x :: r, acc, S, Q => keep S ∧ g x σ S fun σ1 S1 => tt σ1 S1 fun k S2 => if k = true then te σ1 S2 fun y S3 => acc.length < lim ∧ lcL keep g tt te σ r (acc ++ [y]) S3 Q else lcL keep g tt te σ r acc S2 Q
def dLc (it : DI) (c : CT) (tt : DT) (te : DE) (vs : List Nat) : DE := fun σ S Q => it σ S fun L keep S1 => lcL keep c.g tt te (wipeD σ vs) L [] S1 fun acc S2 => Q (.lst acc) S2
def dLcM (it : DI) (c : CT) (tt : DT) (te : DE) (vs : List Nat) : DE := fun σ S Q => it σ S fun L keep S1 => lcL keep c.g tt te (wipeD σ vs) L [] S1 fun acc S2 => ∀ p, S2 p = none → Q (.obj p) (put S2 p (.lst acc))
/-- a list that a comprehension fills, hidden until it is done -/
theorem hidden_step {p : Addr} {w w' : HO} (r : RelS K ca F S H) (hp : H p = some w) (hs : S p = none) (hf : ¬ F p) (nt : ∀ xs, w ≠ .tup xs) (nf : ∀ o u, w ≠ .frz o u) :
    RelS K ca F S (upd H p w') ∧ (∀ {d : D} {v : V}, RelD K F H d v → RelD K F (upd H p w') d v) := by
  have tup : ∀ {a : Addr} {vs : List V}, SqT K H a vs → SqT K (upd H p w') a vs := fun {a vs} h => by
    rcases h with (h | ⟨o, h⟩) | h
    · exact .inl (.inl (by rw [upd_ne fun z => by subst z; rw [hp] at h; exact nt _ (Option.some.inj h)]; exact h))
    · exact .inl (.inr ⟨o, by rw [upd_ne fun z => by subst z; rw [hp] at h; exact nf _ _ (Option.some.inj h)]; exact h⟩)
    · exact .inr h
  have scr : ∀ {a : Addr} {vs : List V}, SqZ K H a vs → SqZ K (upd H p w') a vs := fun {a vs} h => by
    rcases h with ⟨o, h⟩ | h
    · exact .inl ⟨o, by rw [upd_ne fun z => by subst z; rw [hp] at h; exact nf _ _ (Option.some.inj h)]; exact h⟩
    · exact .inr h
  have fz : ∀ {a : Addr} {u : HO}, F a → H a = some u → upd H p w' a = some u := fun {a u} h e => by
    rw [upd_ne fun z => by subst z; exact hf h]; exact e
  have all : (∀ (d : D) (v : V), RelD K F H d v → RelD K F (upd H p w') d v) := fun d v h =>
    RelD.rec (motive_1 := fun d v _ => RelD K F (upd H p w') d v) (motive_2 := fun d v _ => RelDs K F (upd H p w') d v) (motive_3 := fun d v _ => RelKs K F (upd H p w') d v)
      .non .bl .int .str (fun h _ q => .tup (tup h) q) (fun h f _ q => .lst (fz f h) f q) (fun h f _ q => .dic (fz f h) f q) (fun h _ q => .scr (scr h) q) .obj .ty .nil (fun _ _ h q => .cons h q) .nil (fun _ _ h q => .cons h q) h
  have alls : ∀ {d : List D} {v : List V}, RelDs K F H d v → RelDs K F (upd H p w') d v := fun {d v} h => by
    induction d generalizing v with
    | nil => cases h; exact .nil
    | cons x xs ih => cases h with | cons h q => exact .cons (all _ _ h) (ih q)
  have allk : ∀ {d : List (String × D)} {v : List (Key × V)}, RelKs K F H d v → RelKs K F (upd H p w') d v := fun {d v} h => by
    induction d generalizing v with
    | nil => cases h; exact .nil
    | cons x xs ih => cases h with | cons h q => exact .cons (all _ _ h) (ih q)
  have allf : ∀ {d : List (String × D)} {v : List (Str × V)}, RelFs K F H d v → RelFs K F (upd H p w') d v := fun {d v} h => by
    induction h with
    | nil => exact .nil
    | cons h _ ih => exact .cons (all _ _ h) ih
  refine ⟨⟨fun a o e => ⟨(r.ob a o e).1, ?_⟩, fun a h => ?_⟩, fun {d v} => all d v⟩
  · have ne : a ≠ p := fun z => by rw [z, hs] at e; cases e
    have q := (r.ob a o e).2
    cases o with
    | lst l => obtain ⟨vs, h, q⟩ := q; exact ⟨vs, by rw [upd_ne ne]; exact h, alls q⟩
    | dic l => obtain ⟨vs, h, q⟩ := q; exact ⟨vs, by rw [upd_ne ne]; exact h, allk q⟩
    | ins c l => obtain ⟨dx, vs, h, q⟩ := q; exact ⟨dx, vs, by rw [upd_ne ne]; exact h, allf q⟩
  · by_cases z : a = p
    · subst z; exact ⟨w', upd_same⟩
    · obtain ⟨o, e⟩ := r.fz a h
      exact ⟨o, by rw [upd_ne z]; exact e⟩
theorem hidden_all {p : Addr} {w' : HO} (h : ∀ {d : D} {v : V}, RelD K F H d v → RelD K F (upd H p w') d v) {ds : List D} {vs : List V} (q : RelDs K F H ds vs) : RelDs K F (upd H p w') ds vs := by
  induction ds generalizing vs with
  | nil => cases q; exact .nil
  | cons x xs ih => cases q with | cons a q => exact .cons (h a) (ih q)

/-- the walk of a comprehension: T says what stands behind it -/
theorem lc_walk {L : List D} {keep : Store → Prop} {J : It} {c : CT} {dt : DT} {tt : TT} {vs : List Nat} {Qd : List D → Store → Prop} {QV : V → Hp → Prop} (hsub : ∀ i ∈ c.is, i ∈ vs) (ht : SimT K B dt tt) (he : SimE K B da te) (R : Rel K B F σ S σV H) (it : ItRel K B.ca F S H L keep J)
    (q : lcL keep c.g dt da (wipeD σ vs) L [] S Qd)
    (done : ∀ (p : Addr) acc accV F' S' H', H p = none → Fr F S H F' S' H' → RelS K B.ca F' S' H' → S' p = none → ¬ F' p → H' p = some (.lst accV) → RelDs K F' H' acc accV → Qd acc S' → QV (.ref p) H')
    (p : Addr) (hp : H p = none) : ∃ W : Nat → Nat → Hp → Prop, (∃ m, W 0 m (upd H p (.lst []))) ∧ ∀ i m H, W i m H →
      (J.stop i H ∧ QV (.ref p) H) ∨ (J.go i H ∧ ∃ Nx : Hp → Prop, (∀ H', Nx H' → ∃ m', m' < m ∧ W (i + 1) m' H') ∧ ∀ x H', J.yld i H x H' → c.t K x (L2.wipe σV vs) H' fun σ2 H2 => L2.wipe σ2 vs = L2.wipe σV vs ∧ tt σ2 H2 fun k H3 =>
        if k = true then te σ2 H3 fun y H4 => ∃ acc, H4 p = some (.lst acc) ∧ acc.length < sizeLine ∧ Nx (upd H4 p (.lst (acc ++ [y]))) else Nx H3) := by
  have npF : ¬ F p := fun h => by obtain ⟨_, e⟩ := R.st.fz p h; rw [hp] at e; cases e
  refine ⟨fun i m H' => ∃ acc accV F' S', m = L.length - i ∧ i ≤ L.length ∧ Fr F S H F' S' H' ∧ RelS K B.ca F' S' H' ∧ S' p = none ∧ ¬ F' p ∧ H' p = some (.lst accV) ∧ RelDs K F' H' acc accV ∧ lcL keep c.g dt da (wipeD σ vs) (L.drop i) acc S' Qd,
    ⟨L.length, [], [], F, S, by omega, Nat.zero_le _, fr_newD hp, R.st.newD hp, R.st.free hp, npF, upd_same, .nil, q⟩, ?_⟩
  rintro i m H2 ⟨acc, accV, F2, S2, rfl, hl, f2, r2, n2, nf2, h2, rd2, q2⟩
  have kp : keep S2 := by
    cases e : L.drop i with
    | nil => rw [e] at q2; exact q2.1
    | cons x r => rw [e] at q2; exact q2.1
  obtain ⟨go, stop⟩ := it i F2 S2 H2 f2 r2 kp
  by_cases h : i < L.length
  · have ed : L.drop i = L[i] :: L.drop (i + 1) := List.drop_eq_getElem_cons h
    rw [ed] at q2
    obtain ⟨hgo, yl⟩ := go L[i] (by simp [h])
    refine .inr ⟨hgo, fun H' => ∃ acc accV F' S', Fr F S H F' S' H' ∧ RelS K B.ca F' S' H' ∧ S' p = none ∧ ¬ F' p ∧ H' p = some (.lst accV) ∧ RelDs K F' H' acc accV ∧ lcL keep c.g dt da (wipeD σ vs) (L.drop (i + 1)) acc S' Qd, ?_, ?_⟩
    · rintro H' ⟨acc', accV', F', S', f', r', n', nf', h', rd', q'⟩
      exact ⟨L.length - (i + 1), by omega, acc', accV', F', S', rfl, h, f', r', n', nf', h', rd', q'⟩
    · intro x H3 y
      obtain ⟨f3, r3, d3⟩ := yl x H3 y
      refine ct_own hsub ?_
      have R3 : Rel K B F2 (wipeD σ vs) S2 (L2.wipe σV vs) H3 := (R.wipe vs).step (f2.trans f3) r3
      refine sim_ct c F2 _ S2 _ H3 L[i] x _ _ R3 d3 q2.2 fun F4 σ4 S4 σV4 H4 f4 R4 q4 => ?_
      refine ht F4 σ4 S4 σV4 H4 _ _ R4 q4 fun k F5 S5 H5 f5 r5 q5 => ?_
      have f35 := f3.trans (f4.trans f5)
      obtain ⟨h5, n5, i5⟩ := f35 p _ h2 n2
      have nf5 : ¬ F5 p := fun z => nf2 (i5.mp z)
      have rd5 := rd2.mono r2 f35
      cases k with
      | false =>
        exact ⟨acc, accV, F5, S5, f2.trans f35, r5, n5, nf5, h5, rd5, q5⟩
      | true =>
        refine he F5 σ4 S5 σV4 H5 _ _ (R4.step f5 r5) q5 fun y' yv F6 S6 H6 f6 r6 d6 q6 => ?_
        obtain ⟨h6, n6, i6⟩ := f6 p _ h5 n5
        have nf6 : ¬ F6 p := fun z => nf5 (i6.mp z)
        have rd6 := rd5.mono r5 f6
        obtain ⟨r7, m7⟩ := hidden_step (w' := .lst (accV ++ [yv])) r6 h6 n6 nf6 (fun _ z => by cases z) (fun _ _ z => by cases z)
        refine ⟨accV, h6, by rw [← rd6.length, lim_eq]; exact q6.1, acc ++ [y'], accV ++ [yv], F6, S6, ?_, r7, n6, nf6, upd_same, hidden_all m7 (rd6.append (.cons d6 .nil)), q6.2⟩
        intro c' o' e' n'
        obtain ⟨e1, e2, e3⟩ := (f2.trans (f35.trans f6)) c' o' e' n'
        exact ⟨by rw [upd_ne (ne_of_none e' hp)]; exact e1, e2, e3⟩
  · have ed : L.drop i = [] := List.drop_eq_nil_of_le (by omega)
    rw [ed] at q2
    exact .inl ⟨stop (by omega), done p acc accV F2 S2 H2 hp f2 r2 n2 nf2 h2 rd2 q2.2⟩
/-- a thing that nobody knows comes to light: as a list that stays, as one of the store -/
theorem fr_light {F0 : Addr → Prop} {S0 : Store} {H0 : Hp} {p : Addr} (f : Fr F0 S0 H0 F S H) (hp : H0 p = none) : Fr F0 S0 H0 (ins F p) S H := fun a o e n => by
  obtain ⟨e1, e2, e3⟩ := f a o e n
  have ne : a ≠ p := ne_of_none e hp
  exact ⟨e1, e2, ⟨fun z => e3.mp (z.resolve_left ne), fun z => .inr (e3.mpr z)⟩⟩
theorem RelS.light {p : Addr} {u : HO} (r : RelS K ca F S H) (h : H p = some u) (n : S p = none) : RelS K ca (DL.ins F p) S H ∧ (∀ {d : D} {v : V}, RelD K F H d v → RelD K (DL.ins F p) H d v) := by
  have all : ∀ (d : D) (v : V), RelD K F H d v → RelD K (DL.ins F p) H d v := fun d v h =>
    RelD.rec (motive_1 := fun d v _ => RelD K (DL.ins F p) H d v) (motive_2 := fun d v _ => RelDs K (DL.ins F p) H d v) (motive_3 := fun d v _ => RelKs K (DL.ins F p) H d v)
      .non .bl .int .str (fun h _ q => .tup h q) (fun h f _ q => .lst h (.inr f) q) (fun h f _ q => .dic h (.inr f) q) (fun h _ q => .scr h q) .obj .ty .nil (fun _ _ h q => .cons h q) .nil (fun _ _ h q => .cons h q) h
  have alls : ∀ {d : List D} {v : List V}, RelDs K F H d v → RelDs K (DL.ins F p) H d v := fun {d v} h => by
    induction d generalizing v with
    | nil => cases h; exact .nil
    | cons x xs ih => cases h with | cons h q => exact .cons (all _ _ h) (ih q)
  have allk : ∀ {d : List (String × D)} {v : List (Key × V)}, RelKs K F H d v → RelKs K (DL.ins F p) H d v := fun {d v} h => by
    induction d generalizing v with
    | nil => cases h; exact .nil
    | cons x xs ih => cases h with | cons h q => exact .cons (all _ _ h) (ih q)
  have allf : ∀ {d : List (String × D)} {v : List (Str × V)}, RelFs K F H d v → RelFs K (DL.ins F p) H d v := fun {d v} h => by
    induction h with
    | nil => exact .nil
    | cons h _ ih => exact .cons (all _ _ h) ih
  refine ⟨⟨fun a o e => ?_, fun a z => ?_⟩, fun {d v} => all d v⟩
  · have ne : a ≠ p := fun z => by rw [z, n] at e; cases e
    refine ⟨fun z => (r.ob a o e).1 (z.resolve_left ne), ?_⟩
    have q := (r.ob a o e).2
    cases o with
    | lst l => obtain ⟨vs, h, q⟩ := q; exact ⟨vs, h, alls q⟩
    | dic l => obtain ⟨vs, h, q⟩ := q; exact ⟨vs, h, allk q⟩
    | ins c l => obtain ⟨dx, vs, h, q⟩ := q; exact ⟨dx, vs, h, allf q⟩
  · rcases z with z | z
    · subst z; exact ⟨u, h⟩
    · exact r.fz a z
theorem sim_lc {di : DI} {wi : TI} {c : CT} {dt : DT} {tt : TT} {vs : List Nat} (hsub : ∀ i ∈ c.is, i ∈ vs) (hi : SimI K B di wi) (ht : SimT K B dt tt) (he : SimE K B da te) : SimE K B (dLc di c dt da vs) (tLc wi (c.t K) tt te vs) := by
  intro F σ S σV H Q QV R q P
  refine hi F σ S σV H _ _ R q fun L keep F1 S1 H1 J f1 r1 it q1 => ?_
  intro p hp
  refine lc_walk hsub ht he (R.step f1 r1) it q1 ?_ p hp
  intro p acc accV F' S' H' hp f' r' n' nf' h' rd' q'
  obtain ⟨r2, m2⟩ := r'.light h' n'
  refine P _ _ (ins F' p) S' H' (fun a o e n => ?_) r2 (.lst h' (.inl rfl) ?_) q'
  · obtain ⟨e1, e2, e3⟩ := f1 a o e n
    obtain ⟨g1, g2, g3⟩ := f' a o e1 e2
    have ne : a ≠ p := ne_of_none e1 hp
    exact ⟨g1, g2, ⟨fun z => e3.mp (g3.mp (z.resolve_left ne)), fun z => .inr (g3.mpr (e3.mpr z))⟩⟩
  · clear q'
    induction acc generalizing accV with
    | nil => cases rd'; exact .nil
    | cons x xs ih =>
      have go : ∀ {ds : List D} {us : List V}, RelDs K F' H' ds us → RelDs K (ins F' p) H' ds us := fun {ds us} z => by
        induction ds generalizing us with
        | nil => cases z; exact .nil
        | cons y ys ih2 => cases z with | cons a z => exact .cons (m2 a) (ih2 z)
      exact go rd'
theorem sim_lcM {di : DI} {wi : TI} {c : CT} {dt : DT} {tt : TT} {vs : List Nat} (hsub : ∀ i ∈ c.is, i ∈ vs) (hi : SimI K B di wi) (ht : SimT K B dt tt) (he : SimE K B da te) : SimE K B (dLcM di c dt da vs) (tLc wi (c.t K) tt te vs) := by
  intro F σ S σV H Q QV R q P
  refine hi F σ S σV H _ _ R q fun L keep F1 S1 H1 J f1 r1 it q1 => ?_
  intro p hp
  refine lc_walk hsub ht he (R.step f1 r1) it q1 ?_ p hp
  intro p acc accV F' S' H' hp f' r' n' nf' h' rd' q'
  refine P _ _ F' (put S' p (.lst acc)) H' (fun a o e n => ?_) ⟨fun a w e => ?_, r'.fz⟩ (.obj p) (q' p n')
  · obtain ⟨e1, e2, e3⟩ := f1 a o e n
    obtain ⟨g1, g2, g3⟩ := f' a o e1 e2
    have ne : a ≠ p := ne_of_none e1 hp
    exact ⟨g1, by rw [put_ne ne]; exact g2, g3.trans e3⟩
  · by_cases z : a = p
    · subst z
      rw [put_same] at e
      cases e
      exact ⟨nf', accV, h', rd'⟩
    · rw [put_ne z] at e
      exact r'.ob a w e

/-! ### a comprehension's block -/
abbrev noEx (B : Bc) : Bc := { B with ED := fun _ _ _ => False }
theorem Rel.noEx (R : Rel K B F σ S σV H) : Rel K (noEx B) F σ S σV H := ⟨R.env, R.st, R.fr⟩
theorem simE_no (h : SimE K (noEx B) da ta) : SimE K B da ta := fun F σ S σV H Q QV R q P => h F σ S σV H Q QV R.noEx q P
theorem simT_no {dt : DT} {tt : TT} (h : SimT K (noEx B) dt tt) : SimT K B dt tt := fun F σ S σV H Q QV R q P => h F σ S σV H Q QV R.noEx q P
theorem takes_no {E0 : Nat} (B : Bc) : Takes X (XW X.K (noEx B)) := Takes.imp (W := fun _ _ _ _ => False) takes0 fun _ _ _ _ ⟨_, _, _, _, _, _, z⟩ => z
/-- the block's context, whatever its frame -/
abbrev blkOf (X : Cx) (scope : Scope) (s : Shared) (H : Hp) (C : Addr) (cl : List (Str × Addr)) (fp : List Addr) : Cx := X.blk s H scope (compEnvC scope cl C X.env) fp
def bE (X : Cx) (scope : Scope) (e : Expr) : TE := fun σ H Q => ∀ (s : Shared) (H0 : Hp) (C : Addr) (cl : List (Str × Addr)) (fp : List Addr), wpE (blkOf X scope s H0 C cl fp) e σ H Q
def bT (X : Cx) (scope : Scope) (e : Expr) : TT := fun σ H Q => ∀ (s : Shared) (H0 : Hp) (C : Addr) (cl : List (Str × Addr)) (fp : List Addr), wpT (blkOf X scope s H0 C cl fp) e σ H Q
def dYes : DT := fun _ S Q => Q true S
theorem sim_yes : SimT K B dYes tYes := fun F σ S σV H Q QV R q P => P true F S H Fr.refl R.st q
section
variable {elt tg iter tst : Expr} {scope : Scope} {own : List (Str × Nat)} {c : CT} {di : DI} {dt : DT}
theorem lc_elt (he : ∀ (s : Shared) (H : Hp) (C : Addr) (cl : List (Str × Addr)) (fp : List Addr), PD (blkOf X scope s H C cl fp) (noEx B) elt da) : SimE X.K B da (bE X scope elt) :=
  fun F σ S σV H Q QV R q P s H0 C cl fp => he s H0 C cl fp F σ S σV H Q QV R.noEx q P
theorem lc_tst (he : ∀ (s : Shared) (H : Hp) (C : Addr) (cl : List (Str × Addr)) (fp : List Addr), PDT (blkOf X scope s H C cl fp) (noEx B) tst dt) : SimT X.K B dt (bT X scope tst) :=
  fun F σ S σV H Q QV R q P s H0 C cl fp => he s H0 C cl fp F σ S σV H Q QV R.noEx q P
theorem pe_bE (s : Shared) (H : Hp) (C : Addr) (cl : List (Str × Addr)) (fp : List Addr) : PE (blkOf X scope s H C cl fp) elt (bE X scope elt) := ⟨fun pn st sg Hh Qq I h => pe_w.run pn st sg Hh Qq I (h s H C cl fp)⟩
theorem pt_bT (s : Shared) (H : Hp) (C : Addr) (cl : List (Str × Addr)) (fp : List Addr) : PT (blkOf X scope s H C cl fp) tst (bT X scope tst) := ⟨fun pn st sg Hh Qq I h => pt_w.run pn st sg Hh Qq I (h s H C cl fp)⟩
theorem pd_lc (hc : X.calm = true) (hN : X.N.Nodup) (hi : PDI X B tg iter di) (ok : BlkOk X.N X.env.scope scope own)
    (hg : ∀ (s : Shared) (H : Hp) (C : Addr) (cl : List (Str × Addr)) (fp : List Addr), PG (blkOf X scope s H C cl fp) tg (c.t X.K)) (he : ∀ (s : Shared) (H : Hp) (C : Addr) (cl : List (Str × Addr)) (fp : List Addr), PD (blkOf X scope s H C cl fp) (noEx B) elt da)
    (hsub : ∀ i ∈ c.is, i ∈ own.map (·.2) := by decide) (hs : ∀ x, foldedSetIterable iter X.env x = pure x := by intro _; rfl) : PD X B (.ListComp elt [⟨tg, iter, [], 0⟩] scope pos) (dLc di c dYes da (own.map (·.2))) := by
  obtain ⟨wi, pi, si⟩ := hi
  exact pd_of (pe_lc hc hN pi ok hg (fun _ _ _ _ _ => pts_nil) pe_bE hs) (sim_lc hsub si sim_yes (lc_elt he))
theorem pd_lcIf (hc : X.calm = true) (hN : X.N.Nodup) (hi : PDI X B tg iter di) (ok : BlkOk X.N X.env.scope scope own)
    (hg : ∀ (s : Shared) (H : Hp) (C : Addr) (cl : List (Str × Addr)) (fp : List Addr), PG (blkOf X scope s H C cl fp) tg (c.t X.K)) (ht : ∀ (s : Shared) (H : Hp) (C : Addr) (cl : List (Str × Addr)) (fp : List Addr), PDT (blkOf X scope s H C cl fp) (noEx B) tst dt)
    (he : ∀ (s : Shared) (H : Hp) (C : Addr) (cl : List (Str × Addr)) (fp : List Addr), PD (blkOf X scope s H C cl fp) (noEx B) elt da)
    (hsub : ∀ i ∈ c.is, i ∈ own.map (·.2) := by decide) (hs : ∀ x, foldedSetIterable iter X.env x = pure x := by intro _; rfl) : PD X B (.ListComp elt [⟨tg, iter, [tst], 0⟩] scope pos) (dLc di c dt da (own.map (·.2))) := by
  obtain ⟨wi, pi, si⟩ := hi
  exact pd_of (pe_lc hc hN pi ok hg (fun s H C cl fp => pts_one (pt_bT s H C cl fp)) pe_bE hs) (sim_lc hsub si (lc_tst ht) (lc_elt he))
theorem pd_lcM (hc : X.calm = true) (hN : X.N.Nodup) (hi : PDI X B tg iter di) (ok : BlkOk X.N X.env.scope scope own)
    (hg : ∀ (s : Shared) (H : Hp) (C : Addr) (cl : List (Str × Addr)) (fp : List Addr), PG (blkOf X scope s H C cl fp) tg (c.t X.K)) (he : ∀ (s : Shared) (H : Hp) (C : Addr) (cl : List (Str × Addr)) (fp : List Addr), PD (blkOf X scope s H C cl fp) (noEx B) elt da)
    (hsub : ∀ i ∈ c.is, i ∈ own.map (·.2) := by decide) (hs : ∀ x, foldedSetIterable iter X.env x = pure x := by intro _; rfl) : PD X B (.ListComp elt [⟨tg, iter, [], 0⟩] scope pos) (dLcM di c dYes da (own.map (·.2))) := by
  obtain ⟨wi, pi, si⟩ := hi
  exact pd_of (pe_lc hc hN pi ok hg (fun _ _ _ _ _ => pts_nil) pe_bE hs) (sim_lcM hsub si sim_yes (lc_elt he))
/-- y = [..] -/
theorem pds_setLc {i : Nat} {y : Str} {py spos : Pos} (hc : X.calm = true) (hN : X.N.Nodup) (hy : X.N[i]? = some y) (hyl : X.env.scope.names.lookup y = some .local)
    (hsw : swapsWith (.ListComp elt [⟨tg, iter, [], 0⟩] scope pos) (some (.Name y py)) spos.line X.env = pure true) (hi : PDI X B tg iter di) (ok : BlkOk X.N X.env.scope scope own)
    (hg : ∀ (s : Shared) (H : Hp) (C : Addr) (cl : List (Str × Addr)) (fp : List Addr), PG (blkOf X scope s H C cl fp) tg (c.t X.K)) (he : ∀ (s : Shared) (H : Hp) (C : Addr) (cl : List (Str × Addr)) (fp : List Addr), PD (blkOf X scope s H C cl fp) (noEx B) elt da)
    (hsub : ∀ i ∈ c.is, i ∈ own.map (·.2) := by decide) (hs : ∀ x, foldedSetIterable iter X.env x = pure x := by intro _; rfl) : PDS X B (.Assign [.Name y py] (.ListComp elt [⟨tg, iter, [], 0⟩] scope pos) spos) (dAsg (dLc di c dYes da (own.map (·.2))) (gN i)) := by
  obtain ⟨wi, pi, si⟩ := hi
  exact pds_of (ps_setLc hc hN hy hyl hsw pi ok hg (fun _ _ _ _ _ => pts_nil) pe_bE hs) (sim_asg (sim_lc hsub si sim_yes (lc_elt he)) sim_gN)
theorem pds_setLcM {i : Nat} {y : Str} {py spos : Pos} (hc : X.calm = true) (hN : X.N.Nodup) (hy : X.N[i]? = some y) (hyl : X.env.scope.names.lookup y = some .local)
    (hsw : swapsWith (.ListComp elt [⟨tg, iter, [], 0⟩] scope pos) (some (.Name y py)) spos.line X.env = pure true) (hi : PDI X B tg iter di) (ok : BlkOk X.N X.env.scope scope own)
    (hg : ∀ (s : Shared) (H : Hp) (C : Addr) (cl : List (Str × Addr)) (fp : List Addr), PG (blkOf X scope s H C cl fp) tg (c.t X.K)) (he : ∀ (s : Shared) (H : Hp) (C : Addr) (cl : List (Str × Addr)) (fp : List Addr), PD (blkOf X scope s H C cl fp) (noEx B) elt da)
    (hsub : ∀ i ∈ c.is, i ∈ own.map (·.2) := by decide) (hs : ∀ x, foldedSetIterable iter X.env x = pure x := by intro _; rfl) : PDS X B (.Assign [.Name y py] (.ListComp elt [⟨tg, iter, [], 0⟩] scope pos) spos) (dAsg (dLcM di c dYes da (own.map (·.2))) (gN i)) := by
  obtain ⟨wi, pi, si⟩ := hi
  exact pds_of (ps_setLc hc hN hy hyl hsw pi ok hg (fun _ _ _ _ _ => pts_nil) pe_bE hs) (sim_asg (sim_lcM hsub si sim_yes (lc_elt he)) sim_gN)
theorem pds_setLcIf {i : Nat} {y : Str} {py spos : Pos} (hc : X.calm = true) (hN : X.N.Nodup) (hy : X.N[i]? = some y) (hyl : X.env.scope.names.lookup y = some .local)
    (hsw : swapsWith (.ListComp elt [⟨tg, iter, [tst], 0⟩] scope pos) (some (.Name y py)) spos.line X.env = pure true) (hi : PDI X B tg iter di) (ok : BlkOk X.N X.env.scope scope own)
    (hg : ∀ (s : Shared) (H : Hp) (C : Addr) (cl : List (Str × Addr)) (fp : List Addr), PG (blkOf X scope s H C cl fp) tg (c.t X.K)) (ht : ∀ (s : Shared) (H : Hp) (C : Addr) (cl : List (Str × Addr)) (fp : List Addr), PDT (blkOf X scope s H C cl fp) (noEx B) tst dt)
    (he : ∀ (s : Shared) (H : Hp) (C : Addr) (cl : List (Str × Addr)) (fp : List Addr), PD (blkOf X scope s H C cl fp) (noEx B) elt da)
    (hsub : ∀ i ∈ c.is, i ∈ own.map (·.2) := by decide) (hs : ∀ x, foldedSetIterable iter X.env x = pure x := by intro _; rfl) : PDS X B (.Assign [.Name y py] (.ListComp elt [⟨tg, iter, [tst], 0⟩] scope pos) spos) (dAsg (dLc di c dt da (own.map (·.2))) (gN i)) := by
  obtain ⟨wi, pi, si⟩ := hi
  exact pds_of (ps_setLc hc hN hy hyl hsw pi ok hg (fun s H C cl fp => pts_one (pt_bT s H C cl fp)) pe_bE hs) (sim_asg (sim_lc hsub si (lc_tst ht) (lc_elt he)) sim_gN)
end

/-! ### a def keeps its promise -/
def startD (m : Nat) (ds : List D) : DEnv := ds.map some ++ List.replicate (m - ds.length) none
theorem start_rel {N : List Str} {ds : List D} {vs : List V} (q : RelDs K F H ds vs) (h : ds.length ≤ N.length) : RelEnv K F H (startD N.length ds) (L2.start N vs) := by
  unfold startD L2.start
  rw [← q.length]
  refine ⟨by simp [q.length], fun i d e => ?_⟩
  by_cases hi : i < ds.length
  · rw [List.getElem?_append_left (by simpa using hi), List.getElem?_map] at e
    obtain ⟨x, ex, e2⟩ := Option.map_eq_some_iff.mp e
    cases e2
    obtain ⟨u, eu, ru⟩ := q.get ex
    exact ⟨u, by rw [List.getElem?_append_left (by rw [List.length_map, ← q.length]; exact hi), List.getElem?_map, eu]; rfl, ru⟩
  · rw [List.getElem?_append_right (by simpa using hi), List.getElem?_replicate] at e
    split at e <;> cases e
abbrev DBody := (DX → DEnv → Store → Prop) → DS
/-- a body as a promise -/
def runD (m : Nat) (body : DBody) : DSp := fun ds S Q E => body (fun x _ S1 => E x S1) { nx := fun _ S1 => Q .non S1, rt := Q } (startD m ds) S
/-- what a body may lean on -/
structure Good (X : Cx) (B : Bc) : Prop where
  tk : Takes X (XW X.K B)
  ow : PassesOwn (model X.prog X.w) X.A X.env X.xe
  nd : X.N.Nodup
theorem def_ok {P : Program} {w : World} {mg : Str → Option Value} {base : Heap} {x qual : Str} {st : Stmt} {f : Addr} {fd : FuncData} {N ps : List Str} {k : Nat} (Fn : Fun K x qual st f fd) (Sc : FnScope N ps (defScope st)) (hn : ps.length = n) (body : DBody)
    (hb : ∀ (cdv : Value) (A : Around) (outer : List Env) (s : Shared) (H : Hp) (E : XK) (B : Bc), B.ca = ca → Room k (A.deeper (envOfC qual (defScope st) s.heap.objs.size f cdv)) →
      Good (cxOf (L2.CX P w) P w K mg base N qual (defScope st) f cdv A outer s H E) B → PDSs (cxOf (L2.CX P w) P w K mg base N qual (defScope st) f cdv A outer s H E) B (defBody st) (body B.ED)) :
    FnOk P w K mg base (L2.CX P w) (k + 1) f fd ps (lift K ca n (runD N.length body)) := by
  refine Fn.okX Sc (fun vs H Q E h => (lift_len h).trans hn.symm) fun cdv A outer s H vs Q E hr h => ?_
  obtain ⟨ds, F, S, QD, ED, hl, rd, rs, hw, PE', PX⟩ := h
  have hpl : ds.length ≤ N.length := by
    have e := congrArg List.length Sc.pre
    rw [List.length_take] at e
    omega
  let B : Bc := ⟨ca, F, S, H, fun x _ S1 => ED x S1⟩
  let X := cxOf (L2.CX P w) P w K mg base N qual (defScope st) f cdv A outer s H E
  have tk0 : Takes X (fun cls d _ H => E cls d H) := takes_of rfl rfl rfl rfl
  have tk : Takes X (XW K B) := tk0.imp fun cls dd σV H1 ⟨y, F1, σ1, S1, R1, rx, q⟩ => PX y cls dd F1 S1 H1 R1.fr R1.st rx q
  have ow : PassesOwn (model X.prog X.w) X.A X.env X.xe := PassesOwn.leaving
  refine ⟨_, pss_w, ?_⟩
  have hR : Rel K B F (startD N.length ds) S (L2.start N vs) H := ⟨start_rel rd hpl, rs, Fr.refl⟩
  refine hb cdv A outer s H E B rfl hr ⟨tk, ow, Sc.nd⟩ F _ S _ H _ _ hR hw ⟨?_, PE', ?_, ?_⟩
  · intro F' σ' S' σV' H' f' R' q
    exact PE' .non .non F' S' H' f' R'.st .non q
  · intro F' σ' S' σV' H' f' R' q
    exact q.elim
  · intro F' σ' S' σV' H' f' R' q
    exact q.elim
end
end DL
/-! DL8: sorted, dicts, isinstance, things let go. -/
namespace DL
open PySem PySem.Spec PyProof.Rows L2

/-! ### texts in order -/
def codes (a : String) : List Nat := a.toList.map Char.toNat
def leT (a b : String) : Bool := !ltCps (codes b) (codes a)
def srt (l : List String) : List String := l.mergeSort leT
theorem codes_inj {a b : String} (h : codes a = codes b) : a = b := by
  have h3 := mapNat_inj h
  rw [← String.ofList_toList (s := a), ← String.ofList_toList (s := b), h3]
theorem leT_iff {a b : String} : leT a b = true ↔ codes a ≤ codes b := by
  unfold leT
  rw [ltCps_eq]
  simp
theorem leT_trans (a b c : String) (h1 : leT a b = true) (h2 : leT b c = true) : leT a c = true := leT_iff.mpr (List.le_trans (leT_iff.mp h1) (leT_iff.mp h2))
theorem leT_total (a b : String) : (leT a b || leT b a) = true := by
  rw [Bool.or_eq_true]
  rcases List.le_total (codes a) (codes b) with h | h
  · exact .inl (leT_iff.mpr h)
  · exact .inr (leT_iff.mpr h)
theorem leT_anti {a b : String} (h1 : leT a b = true) (h2 : leT b a = true) : a = b := codes_inj (List.le_antisymm (leT_iff.mp h1) (leT_iff.mp h2))
theorem srt_perm (l : List String) : (srt l).Perm l := List.mergeSort_perm l leT
theorem srt_sorted (l : List String) : (srt l).Pairwise (fun a b => leT a b = true) := List.pairwise_mergeSort leT_trans leT_total l
theorem srt_eq {l m : List String} (h : l.Perm m) : srt l = srt m :=
  List.Perm.eq_of_pairwise (fun _ _ _ _ => leT_anti) (srt_sorted l) (srt_sorted m) ((srt_perm l).trans (h.trans (srt_perm m).symm))
theorem rising_pair : ∀ (l : List String) (p : String), risingS (Str.ofString p) (l.map Str.ofString) = true → (p :: l).Pairwise (fun a b => leT a b = true)
  | [], p, _ => by simp
  | x :: r, p, h => by
    have h' : (!ltCps (Str.ofString x).cps.toList (Str.ofString p).cps.toList && risingS (Str.ofString x) (r.map Str.ofString)) = true := h
    rw [Bool.and_eq_true, ofS_cps, ofS_cps] at h'
    have ih := rising_pair r x h'.2
    refine List.pairwise_cons.mpr ⟨fun y hy => ?_, ih⟩
    have h1 : leT p x = true := h'.1
    rcases List.mem_cons.mp hy with e | hy
    · rw [e]; exact h1
    · exact leT_trans p x y h1 (List.rel_of_pairwise_cons ih hy)
theorem sorted_srt {ss ys : List String} (hp : ys.Perm ss) (hs : sortedS (ys.map Str.ofString) = true) : ys = srt ss := by
  have h : ys.Pairwise (fun a b => leT a b = true) := by
    cases ys with
    | nil => exact .nil
    | cons p l => exact rising_pair l p hs
  exact List.Perm.eq_of_pairwise (fun _ _ _ _ => leT_anti) h (srt_sorted ss) (hp.trans (srt_perm ss).symm)
def decS (x : Str) : String := String.ofList (x.cps.toList.map Char.ofNat)
theorem decS_ofS (s : String) : decS (Str.ofString s) = s := by
  unfold decS
  rw [ofS_cps, List.map_map]
  have e : (Char.ofNat ∘ Char.toNat) = id := by
    funext c
    exact Char.ofNat_toNat c
  rw [e, List.map_id, String.ofList_toList]
theorem perm_ofS {ss : List String} : ∀ {ys : List Str}, ys.Perm (ss.map Str.ofString) → ∃ zs : List String, ys = zs.map Str.ofString ∧ zs.Perm ss := fun {ys} h => by
  have all : ∀ (ys : List Str), (∀ y ∈ ys, ∃ z : String, y = Str.ofString z) → ∃ zs : List String, ys = zs.map Str.ofString := fun ys => by
    induction ys with
    | nil => intro _; exact ⟨[], rfl⟩
    | cons y ys ih =>
      intro hy
      obtain ⟨z, e⟩ := hy y (by simp)
      obtain ⟨zs, e2⟩ := ih fun w hw => hy w (List.mem_cons_of_mem _ hw)
      exact ⟨z :: zs, by rw [e, e2]; rfl⟩
  obtain ⟨zs, e⟩ := all ys fun y hy => by
    obtain ⟨z, _, e⟩ := List.mem_map.mp (h.mem_iff.mp hy)
    exact ⟨z, e.symm⟩
  subst e
  refine ⟨zs, rfl, ?_⟩
  have z := h.map decS
  rw [List.map_map, List.map_map] at z
  have e : (decS ∘ Str.ofString) = id := by
    funext s
    exact decS_ofS s
  rw [e, List.map_id, List.map_id] at z
  exact z

section
variable {K : PySem.W.Frag} {ca : Nat → Addr} {F F' : Addr → Prop} {S S' : Store} {H H' : Hp} {B : Bc} {Q : QE} {QV : VK} {d : D} {v : V} {l : List D} {X : Cx} {a b e o : Expr} {es : List Expr} {da db dd : DE} {ta tb te : TE} {pos p2 : Pos} {n : Nat} {σ : DEnv} {σV : L2.St}
def strsOf : List D → Option (List String)
  | [] => some []
  | .str b :: r => (strsOf r).map (b :: ·)
  | _ => none
theorem strs_rel : ∀ {l : List D} {vs : List V} {bs : List String}, RelDs K F H l vs → strsOf l = some bs → vs = (bs.map Str.ofString).map V.str := fun {l} => by
  induction l with
  | nil => intro vs bs q e; cases q; cases e; rfl
  | cons x r ih =>
    intro vs bs q e
    cases q with
    | cons h q =>
      cases h with
      | str s =>
        obtain ⟨bs, e1, e2⟩ := Option.map_eq_some_iff.mp (show (strsOf r).map (s :: ·) = some _ from e)
        subst e2
        rw [ih q e1]
        rfl
      | _ => cases e
theorem strs_of (bs : List String) : RelDs K F H (bs.map D.str) ((bs.map Str.ofString).map V.str) := by
  induction bs with
  | nil => exact .nil
  | cons b r ih => exact .cons (.str b) ih
theorem strsOf_map (bs : List String) : strsOf (bs.map D.str) = some bs := by
  induction bs with
  | nil => rfl
  | cons b r ih => show (strsOf (r.map D.str)).map (b :: ·) = _; rw [ih]; rfl
theorem intsOf_map (bs : List Int) : intsOf (bs.map D.int) = some bs := by
  induction bs with
  | nil => rfl
  | cons b r ih => show (intsOf (r.map D.int)).map (b :: ·) = _; rw [ih]; rfl
theorem blsOf_map (bs : List Bool) : blsOf (bs.map D.bl) = some bs := by
  induction bs with
  | nil => rfl
  | cons b r ih => show (blsOf (r.map D.bl)).map (b :: ·) = _; rw [ih]; rfl
/-- sorted of a list of texts, of a dict's keys; list of a dict -/
def bSorted : DC := fun xs S Q => match xs with
  | [x] => match asK S x with
    | some kd => kd.length < 64 ∧ Q (.lst ((srt (kd.map (·.1))).map D.str)) S
    | none => ofO (asL S x) fun l => ofO (strsOf l) fun ss => ss.length < 64 ∧ Q (.lst ((srt ss).map D.str)) S
  | _ => False
def rSortedX (K : PySem.W.Frag) : List V → Hp → VK → Prop := fun xs H Q => (∃ (a : Addr) (kvs : List (Key × V)) (ks : List Str), xs = [.ref a] ∧ Rd H a (.dK kvs) ∧ kvs.map (·.1) = ks.map Sum.inr ∧ ks.length < 64 ∧
    ∀ ys p, ys.Perm ks → sortedS ys = true → H p = none → Q (.ref p) (upd H p (.lst (ys.map V.str)))) ∨ rSortedS K xs H Q
theorem call_sortedX (hc : X.calm = true) : CallR X (.builtin "sorted") (rSortedX X.K) := CallR.or (call_sortedD hc) cr_sortedS
theorem ks_keys {kd : List (String × D)} {kv : List (Key × V)} (q : RelKs K F H kd kv) : kv.map (·.1) = ((kd.map (·.1)).map Str.ofString).map Sum.inr := by
  induction kd generalizing kv with
  | nil => cases q; rfl
  | cons p r ih => cases q with | cons h q => rw [List.map_cons, ih q]; rfl
theorem vrc_sorted : VRC K ca bSorted (rSortedX K) := by
  intro F S H xs vs Q QV r rx q P
  match xs, vs, rx, q with
  | [x], [v], .cons h .nil, q =>
    have fin : ∀ (ss : List String) (ys : List Str) (p : Addr), ys.Perm (ss.map Str.ofString) → sortedS ys = true → H p = none → Q (.lst ((srt ss).map D.str)) S → QV (.ref p) (upd H p (.lst (ys.map V.str))) := fun ss ys p hp hs hn q => by
      obtain ⟨zs, e, pz⟩ := perm_ofS hp
      subst e
      have ez := sorted_srt pz hs
      subst ez
      exact P _ _ _ _ _ (fr_newF hn) (r.newF hn) (.lst upd_same (.inl rfl) (strs_of _)) q
    unfold bSorted at q
    dsimp only at q
    cases ek : asK S x with
    | some kd =>
      rw [ek] at q
      obtain ⟨a, kv, ev, hd, qk⟩ := asK_rel r h ek
      refine .inl ⟨a, kv, _, by rw [ev], .inl hd, ks_keys qk, by simpa using q.1, fun ys p hp hs hn => ?_⟩
      exact fin _ ys p hp hs hn q.2
    | none =>
      rw [ek] at q
      obtain ⟨l, el, q⟩ := ofO_ex q
      obtain ⟨ss, es, h64, q⟩ := ofO_ex q
      obtain ⟨a, ws, ev, hs, ql⟩ := asL_rel r h el
      rw [strs_rel ql es] at hs
      refine .inr ⟨a, _, by rw [ev], hs, by simpa using h64, fun ys p hp hs hn => ?_⟩
      exact fin _ ys p hp hs hn q
def bListX : DC := fun xs S Q => match xs with
  | [x] => match asK S x with
    | some kd => Q (.lst (kd.map fun p => D.str p.1)) S
    | none => ofO (asQ S x) fun l => Q (.lst l) S
  | _ => False
def rListX (K : PySem.W.Frag) : List V → Hp → VK → Prop := fun xs H Q => (∃ (a : Addr) (kvs : List (Key × V)), xs = [.ref a] ∧ Rd H a (.dK kvs) ∧ ∀ p, H p = none → Q (.ref p) (upd H p (.lst (kvs.map fun kv => kV kv.1)))) ∨
  (∃ p ys, xs = [.ref p] ∧ (SqL K H p ys ∨ SqT K H p ys) ∧ ∀ l, H l = none → Q (.ref l) (upd H l (.lst ys)))
theorem call_listX (hc : X.calm = true) : CallR X (.type "list") (rListX X.K) := CallR.or (call_listD hc) call_list_of
theorem ks_vals {kd : List (String × D)} {kv : List (Key × V)} (q : RelKs K F H kd kv) : RelDs K F H (kd.map fun p => D.str p.1) (kv.map fun p => kV p.1) := by
  induction kd generalizing kv with
  | nil => cases q; exact .nil
  | cons p r ih => cases q with | cons h q => exact .cons (.str _) (ih q)
theorem vrc_listX : VRC K ca bListX (rListX K) := by
  intro F S H xs vs Q QV r rx q P
  match xs, vs, rx, q with
  | [x], [v], .cons h .nil, q =>
    unfold bListX at q
    dsimp only at q
    cases ek : asK S x with
    | some kd =>
      rw [ek] at q
      obtain ⟨a, kv, ev, hd, qk⟩ := asK_rel r h ek
      refine .inl ⟨a, kv, by rw [ev], .inl hd, fun p hp => ?_⟩
      exact P _ _ _ _ _ (fr_newF hp) (r.newF hp) (.lst upd_same (.inl rfl) ((ks_vals qk).mono r (fr_newF hp))) q
    | none =>
      rw [ek] at q
      exact .inr (vrc_list (ca := ca) F S H [x] [v] Q QV r (.cons h .nil) q P)
/-- a new dict, to be changed -/
def dDicM : DE := fun _ S Q => ∀ p, S p = none → Q (.obj p) (put S p (.dic []))
theorem pd_dicM : PD X B (.Dict [] [] pos) dDicM := by
  refine pd_of pe_dnewK fun F σ S σV H Q QV R q P p hp => ?_
  exact P _ _ F _ _ (fr_new (o := .dic []) hp) (R.st.new (o := .dic []) hp ⟨[], upd_same, .nil⟩) (.obj p) (q p (R.st.free hp))

/-! ### isinstance of plain things -/
def tyOfD (S : Store) : D → Option String
  | .non => some "NoneType"
  | .bl _ => some "bool"
  | .int _ => some "int"
  | .str _ => some "str"
  | .tup _ => some "tuple"
  | .lst _ => some "list"
  | .dic _ => some "dict"
  | .obj p => match S p with
    | some (.lst _) => some "list"
    | some (.dic _) => some "dict"
    | _ => none
  | _ => none
def bIsi : DC := fun xs S Q => match xs with
  | [x, .ty T] => ofO (tyOfD S x) fun t => ofO (kitB t T) fun k => Q (.bl k) S
  | _ => False
theorem tyOfD_rel (r : RelS K ca F S H) (rx : RelD K F H d v) {t : String} (e : tyOfD S d = some t) : TyX K H v (.type t) := by
  cases rx with
  | non => cases e; exact .base .non
  | bl b => cases e; exact .base (.bl b)
  | int i => cases e; exact .base (.int i)
  | str s => cases e; exact .base (.str _)
  | tup h q =>
    cases e
    rcases h with (h | ⟨o, h⟩) | ⟨o, its, m, hk, hc, _⟩
    · exact .base (.tup h)
    · exact .fTuple h
    · exact .kTuple hk hc
  | lst h f q => cases e; exact .base (.lst h)
  | dic h f q => cases e; exact .base (.dK h)
  | scr h q => cases e
  | ty s => cases e
  | obj p =>
    have e : (match S p with | some (Ob.lst _) => some "list" | some (Ob.dic _) => some "dict" | _ => none) = some t := e
    cases w : S p with
    | none => rw [w] at e; cases e
    | some u =>
      rw [w] at e
      obtain ⟨_, q⟩ := r.ob p _ w
      cases u with
      | lst m => cases e; obtain ⟨vs, h, _⟩ := q; exact .base (.lst h)
      | dic m => cases e; obtain ⟨vs, h, _⟩ := q; exact .base (.dK h)
      | ins c m => cases e
theorem vrc_isi : VRC K ca bIsi (rIsi K) := by
  intro F S H xs vs Q QV r rx q P
  match xs, vs, rx, q with
  | [x, .ty T], _, .cons h (.cons (.ty _) .nil), q =>
    obtain ⟨t, e, q⟩ := ofO_ex q
    obtain ⟨k, ek, q⟩ := ofO_ex q
    exact ⟨_, _, _, _, k, rfl, .ty T, tyOfD_rel r h e, kit_ty ek, P.at r (.bl _) q⟩
theorem pd_tyname {x : Str} {T : String} (hg : Gl X x) (hm : X.mg x = none) (hv : bootBuiltins x = some (.type T)) (hn : x ≠ "__name__" := by decide) (hd : (x == ("__debug__" : Str)) = false := by decide) : PD X B (.Name x pos) (dC (.ty T)) :=
  pd_of (pe_bltn (v := .ty T) hg hm hv rfl hn hd) (sim_c fun _ _ => .ty T)

/-! ### things of the store are let go -/
def ridAll (S : Store) (l : List Addr) : Store := l.foldl rid S
theorem ridAll_rel (r : RelS K ca F S H) : ∀ l : List Addr, RelS K ca F (ridAll S l) H ∧ Fr F S H F (ridAll S l) H := fun l => by
  induction l generalizing S with
  | nil => exact ⟨r, Fr.refl⟩
  | cons p l ih =>
    obtain ⟨h1, h2⟩ := ih (S := rid S p) (r.rid (p := p))
    exact ⟨h1, Fr.trans fr_rid h2⟩
/-- behind e the things that g names are let go -/
def dKill (g : DEnv → Store → List Addr) (d : DE) : DE := fun σ S Q => d σ S fun x S1 => Q x (ridAll S1 (g σ S1))
theorem pd_kill (g : DEnv → Store → List Addr) (h : PD X B e da) : PD X B e (dKill g da) := by
  intro F σ S σV H Q QV R q P
  refine h F σ S σV H _ _ R q fun x v F1 S1 H1 f1 r1 d1 q1 => ?_
  obtain ⟨r2, f2⟩ := ridAll_rel r1 (g σ S1)
  exact P x v F1 _ H1 (f1.trans f2) r2 (d1.mono r1 f2) q1
/-- the things in a slot, in the items of a slot's list -/
def objsOf : D → List Addr
  | .obj p => [p]
  | _ => []
def slotObjs (i : Nat) : DEnv → Store → List Addr := fun σ _ => match σ[i]? with
  | some (some (.lst l)) => l.flatMap objsOf
  | some (some x) => objsOf x
  | _ => []
end
end DL
/-! DL9: a whole program: its defs, each by its body, to a depth of calls. -/
namespace DL
open PySem PySem.Spec PyProof.Rows L2
def noX : DX → DEnv → Store → Prop := fun _ _ _ => False
def noSp : DSp := fun _ _ _ _ => False
section
variable {Fn : Type} (nloc : Fn → Nat) (body : Fn → (Fn → DSp) → (Fn → DSp) → DBody)
/-- what the defs do, at most k calls deep; wrM: one level less, for what __init__ does -/
def wrk : Nat → Fn → DSp
  | 0, _ => noSp
  | 1, f => runD (nloc f) (body f (fun _ => noSp) (fun _ => noSp))
  | k + 2, f => runD (nloc f) (body f (wrk (k + 1)) (wrk k))
def wrM : Nat → Fn → DSp
  | 0, _ => noSp
  | k + 1, f => wrk nloc body k f
theorem wrk_succ (k : Nat) (f : Fn) : wrk nloc body (k + 1) f = runD (nloc f) (body f (wrk nloc body k) (wrM nloc body k)) := by
  cases k with
  | zero => rfl
  | succ k => rfl
end
section
variable {P : Program} {w : World} {K : PySem.W.Frag} {mg : Str → Option Value} {base : Heap} {ca : Nat → Addr}
theorem fnOk_no {CX : CXT} {k n : Nat} {f : Addr} {fd : FuncData} {ps : List Str} : FnOk P w K mg base CX k f fd ps (lift K ca n noSp) := by
  refine ⟨fun vs H Q E h => ?_, fun A outer s H args us vs Q E _ _ _ _ h => ?_⟩
  · obtain ⟨_, _, _, _, _, _, _, _, z, _⟩ := h
    exact z.elim
  · obtain ⟨_, _, _, _, _, _, _, _, z, _⟩ := h
    exact z.elim
theorem all_ok {Fn : Type} {nloc ar : Fn → Nat} {body : Fn → (Fn → DSp) → (Fn → DSp) → DBody} {fa : Fn → Addr} {fd : Fn → FuncData} {ps : Fn → List Str}
    (h : ∀ (f : Fn) (k : Nat) (W M : Fn → DSp), (∀ g, FnOk P w K mg base (L2.CX P w) (k + 1) (fa g) (fd g) (ps g) (lift K ca (ar g) (W g))) → (∀ g, FnOk P w K mg base (L2.CX P w) k (fa g) (fd g) (ps g) (lift K ca (ar g) (M g))) →
      FnOk P w K mg base (L2.CX P w) (k + 2) (fa f) (fd f) (ps f) (lift K ca (ar f) (runD (nloc f) (body f W M)))) :
    ∀ k, (∀ f, FnOk P w K mg base (L2.CX P w) (k + 1) (fa f) (fd f) (ps f) (lift K ca (ar f) (wrk nloc body k f))) ∧ ∀ f, FnOk P w K mg base (L2.CX P w) k (fa f) (fd f) (ps f) (lift K ca (ar f) (wrM nloc body k f)) := by
  intro k
  induction k with
  | zero => exact ⟨fun f => fnOk_no, fun f => fnOk_no⟩
  | succ k ih =>
    refine ⟨fun f => ?_, ih.1⟩
    rw [wrk_succ]
    exact h f k _ _ ih.1 ih.2
/-- the law's def: the script in, True out -/
def spLaw (K : PySem.W.Frag) : Sp := fun vs H Q _ => ∃ (a : Addr) (ns : List Int), vs = [.ref a] ∧ SqL K H a (ns.map V.int) ∧ Only H ∧ ns.length ≤ 63 ∧ ∀ H', Q (.bl true) H'
end
end DL
/-! DL10: ranges as lists, from their end; several targets. -/
namespace DL
open PySem PySem.Spec PyProof.Rows L2
section
variable {K : PySem.W.Frag} {ca : Nat → Addr} {F F' : Addr → Prop} {S S' : Store} {H H' : Hp} {B : Bc} {Q : QE} {QV : VK} {d : D} {v : V} {l : List D} {X : Cx} {a b e o : Expr} {es : List Expr} {da db dd : DE} {ta tb te : TE} {pos p2 : Pos} {n : Nat} {σ : DEnv} {σV : L2.St}
theorem pdg_tup {k : Nat} {gs : DGs} {tgs : TGs} (hc : X.calm = true) (h : PGs X es tgs ∧ SimGs X.K B gs tgs)
    (hn : (assignEach es X.env).length = n := by rfl) (hst : (assignEach es X.env).findIdx? (·.1) = none := by rfl) : PDG X B (.Tuple es k pos) (gTp n gs) := pdg_of (pg_tup hc h.1 hn hst) (sim_gTp h.2)
theorem pdgs_nil : PGs X [] gNil ∧ SimGs X.K B gsN gNil := ⟨pgs_nil, sim_gsN⟩
theorem pdgs_cons {g : DG} {gs : DGs} {u : TGs} (h1 : PDG X B e g) (h2 : PGs X es u ∧ SimGs X.K B gs u)
    (hs : (assignEach (e :: es) X.env).map (·.2) = assign e X.env :: (assignEach es X.env).map (·.2) := by rfl) : PGs X (e :: es) (gCons (wpG X e) u) ∧ SimGs X.K B (gsC g gs) (gCons (wpG X e) u) := ⟨pgs_cons pg_w h2.1 hs, sim_gsC h1 h2.2⟩
/-- a range that is given on -/
abbrev DRg := DEnv → Store → (Int → Int → Store → Prop) → Prop
abbrev TRg := L2.St → Hp → (Int → Int → Hp → Prop) → Prop
def SimRg (K : PySem.W.Frag) (B : Bc) (d : DRg) (t : TRg) : Prop := ∀ F σ S σV H Q R, Rel K B F σ S σV H → d σ S Q → (∀ i j F' S' H', Fr F S H F' S' H' → RelS K B.ca F' S' H' → Q i j S' → R i j H') → t σV H R
def rg1 (da : DE) : DRg := fun σ S Q => da σ S fun x S1 => match x with
  | .int n => Q 0 n S1
  | _ => False
def rg2 (da db : DE) : DRg := fun σ S Q => da σ S fun x S1 => db σ S1 fun y S2 => match x, y with
  | .int i, .int j => Q i j S2
  | _, _ => False
def PDRg (X : Cx) (B : Bc) (e : Expr) (d : DRg) : Prop := ∃ t, PRg X e t ∧ SimRg X.K B d t
theorem sim_rg1 (h : SimE K B da ta) : SimRg K B (rg1 da) (tRg1 ta) := by
  intro F σ S σV H Q R Rl q P
  refine h F σ S σV H _ _ Rl q fun x v F1 S1 H1 f1 r1 d1 q1 => ?_
  cases d1 with
  | int i => exact ⟨i, rfl, P _ _ F1 S1 H1 f1 r1 q1⟩
  | _ => exact q1.elim
theorem sim_rg2 (ha : SimE K B da ta) (hb : SimE K B db tb) : SimRg K B (rg2 da db) (tRg2 ta tb) := by
  intro F σ S σV H Q R Rl q P
  refine ha F σ S σV H _ _ Rl q fun x v F1 S1 H1 f1 r1 d1 q1 => ?_
  refine hb F1 σ S1 σV H1 _ _ (Rl.step f1 r1) q1 fun y u F2 S2 H2 f2 r2 d2 q2 => ?_
  cases d1 with
  | int i =>
    cases d2 with
    | int j => exact ⟨i, j, rfl, rfl, P _ _ F2 S2 H2 (f1.trans f2) r2 q2⟩
    | _ => exact q2.elim
  | _ => cases d2 <;> exact q2.elim
theorem pdr_1 {p : Pos} (hg : Gl X "range") (hm : X.mg "range" = none) (ha : PD X B a da) (na : starEach [a] X.env = (false, eval a X.env) :: starEach [] X.env := by rfl) : PDRg X B (.Call (.Name "range" p) [a] [] pos) (rg1 da) := ⟨_, prg_1 hg hm pe_w na, sim_rg1 ha⟩
theorem pdr_2 {p : Pos} (hg : Gl X "range") (hm : X.mg "range" = none) (ha : PD X B a da) (hb : PD X B b db) (na : starEach [a, b] X.env = (false, eval a X.env) :: starEach [b] X.env := by rfl)
    (nb : starEach [b] X.env = (false, eval b X.env) :: starEach [] X.env := by rfl) : PDRg X B (.Call (.Name "range" p) [a, b] [] pos) (rg2 da db) := ⟨_, prg_2 hg hm pe_w pe_w na nb (by rw [nb]; rfl), sim_rg2 ha hb⟩
def RgIn (i j : Int) : Prop := -(2 ^ 62) ≤ i ∧ i < 2 ^ 62 ∧ -(2 ^ 62) ≤ j ∧ j < 2 ^ 62 ∧ (j - i).toNat ≤ lim
theorem RgIn.ok {i j : Int} (h : RgIn i j) : RgOk i j := h
/-- list(range(..)), a list that stays, a list that will change -/
def dLstRg (dr : DRg) : DE := fun σ S Q => dr σ S fun i j S1 => RgIn i j ∧ Q (.lst (rangeD i (j - i).toNat)) S1
def dLstRgM (dr : DRg) : DE := fun σ S Q => dr σ S fun i j S1 => RgIn i j ∧ ∀ p, S1 p = none → Q (.obj p) (put S1 p (.lst (rangeD i (j - i).toNat)))
theorem rg_rel (a b : Int) : RelDs K F H (rangeD a (b - a).toNat) (rgV a b) := by
  unfold rangeD rgV
  generalize List.range (b - a).toNat = l
  induction l with
  | nil => exact .nil
  | cons x r ih => exact .cons (.int _) ih
theorem pd_lstRg {p : Pos} {dr : DRg} (hc : X.calm = true) (hg : Gl X "list") (hm : X.mg "list" = none) (he : PDRg X B e dr) (na : starEach [e] X.env = (false, eval e X.env) :: starEach [] X.env := by rfl) : PD X B (.Call (.Name "list" p) [e] [] pos) (dLstRg dr) := by
  obtain ⟨t, h1, h2⟩ := he
  refine pd_of (pe_listRg hc hg hm h1 na) fun F σ S σV H Q QV R q P => ?_
  refine h2 F σ S σV H _ _ R q fun i j F1 S1 H1 f1 r1 q1 => ⟨q1.1.ok, fun p hp => ?_⟩
  exact P _ _ _ _ _ (f1.trans (fr_newF hp)) (r1.newF hp) (.lst upd_same (.inl rfl) (rg_rel i j)) q1.2
theorem pd_lstRgM {p : Pos} {dr : DRg} (hc : X.calm = true) (hg : Gl X "list") (hm : X.mg "list" = none) (he : PDRg X B e dr) (na : starEach [e] X.env = (false, eval e X.env) :: starEach [] X.env := by rfl) : PD X B (.Call (.Name "list" p) [e] [] pos) (dLstRgM dr) := by
  obtain ⟨t, h1, h2⟩ := he
  refine pd_of (pe_listRg hc hg hm h1 na) fun F σ S σV H Q QV R q P => ?_
  refine h2 F σ S σV H _ _ R q fun i j F1 S1 H1 f1 r1 q1 => ⟨q1.1.ok, fun p hp => ?_⟩
  exact P _ _ F1 _ _ (f1.trans (fr_new (o := .lst (rangeD i (j - i).toNat)) hp)) (r1.new (o := .lst (rangeD i (j - i).toNat)) hp ⟨_, upd_same, rg_rel i j⟩) (.obj p) (q1.2 p (r1.free hp))
/-- a range from its end -/
def revD (i : Int) (n : Nat) : List D := (List.range n).map fun k : Nat => D.int (i + (n : Int) - 1 + (k : Int) * (-1))
def iRvR (dr : DRg) : DI := fun σ S Q => dr σ S fun i j S1 => (-(2 ^ 62) ≤ i ∧ i < 2 ^ 62 ∧ -(2 ^ 62) ≤ j ∧ j < 2 ^ 62) ∧ Q (revD i (j - i).toNat) (fun _ => True) S1
theorem revD_get {lo : Int} {n i : Nat} {d : D} (h : (revD lo n)[i]? = some d) : i < n ∧ d = .int (lo + (n : Int) - 1 + (i : Int) * (-1)) := by
  unfold revD at h
  rw [List.getElem?_map] at h
  by_cases hk : i < n
  · rw [List.getElem?_range hk] at h
    cases h
    exact ⟨hk, rfl⟩
  · rw [List.getElem?_eq_none (by simpa using hk)] at h
    cases h
theorem it_rev (lo : Int) (n : Nat) : ItRel K ca F S H (revD lo n) (fun _ => True) (Itc (lo + (n : Int) - 1) (-1) n) := by
  intro i F' S' H' f' r' _
  refine ⟨fun d ed => ?_, fun hl => show n ≤ i by unfold revD at hl; simpa using hl⟩
  obtain ⟨hi, rfl⟩ := revD_get ed
  refine ⟨hi, fun x H'' y => ?_⟩
  obtain ⟨e1, e2⟩ := y
  subst e1 e2
  exact ⟨Fr.refl, r', .int _⟩
theorem pdi_revR {tg : Expr} {dr : DRg} {p : Pos} (hg : Gl X "reversed") (hm : X.mg "reversed" = none) (he : PDRg X B e dr) (hs : starEach [e] X.env = (false, eval e X.env) :: starEach [] X.env := by rfl) : PDI X B tg (.Call (.Name "reversed" p) [e] [] pos) (iRvR dr) := by
  obtain ⟨t, h1, h2⟩ := he
  refine ⟨_, pi_revR hg hm h1 hs, fun F σ S σV H Q R' R q P => ?_⟩
  refine h2 F σ S σV H _ _ R q fun i j F1 S1 H1 f1 r1 q1 => ⟨q1.1.1, q1.1.2.1, q1.1.2.2.1, q1.1.2.2.2, ?_⟩
  exact P _ _ F1 S1 H1 _ f1 r1 (it_rev i _) q1.2
end
end DL
/-! DL11: a law's end. -/
namespace DL
open PySem PySem.Spec PyProof.Rows L2
theorem fun_of {K : PySem.W.Frag} {x qual : Str} {st : Stmt} {f : Addr} {fd : FuncData} (F : FunD K x qual (defArgs st) (defBody st) (defScope st) [] [] f fd) : Fun K x qual st f fd := by
  obtain ⟨oc, od, dV, kV, doc, pm, an, cdv, ct, osl, e, lk, hcd, hD, hK⟩ := F.ex
  rcases hD with ⟨_, e2⟩ | ⟨z, _⟩
  · rw [e2] at e
    exact ⟨⟨oc, od, kV, doc, pm, an, cdv, ct, osl, e, lk, hcd⟩, F.kp⟩
  · exact absurd rfl z
/-- what the law's def must do over data -/
def LawD (w : DSp) : Prop := ∀ (x : D) (ns : List Int), (x = .scr (ns.map D.int) ∨ x = .lst (ns.map D.int)) → ns.length ≤ 63 → w [x] (fun _ => none) (fun y _ => y = .bl true) (fun _ _ => False)
theorem ints_of2 {K : PySem.W.Frag} {F : Addr → Prop} {H : Hp} : ∀ ns : List Int, RelDs K F H (ns.map D.int) (ns.map V.int)
  | [] => .nil
  | n :: ns => .cons (.int n) (ints_of2 ns)
theorem lift_law {K : PySem.W.Frag} {ca : Nat → Addr} {w : DSp} (h : LawD w) {H : Hp} {a : Addr} {ns : List Int} (hl : ns.length ≤ 63) (hS : SqL K H a (ns.map V.int)) : lift K ca 1 w [.ref a] H (fun v _ => v = .bl true) fun _ _ _ => False := by
  have fin : ∀ (F : Addr → Prop) (x : D), (x = .scr (ns.map D.int) ∨ x = .lst (ns.map D.int)) → RelD K F H x (.ref a) → RelS K ca F (fun _ => none) H → lift K ca 1 w [.ref a] H (fun v _ => v = .bl true) fun _ _ _ => False := fun F x hx hr hs => by
    refine ⟨[x], F, fun _ => none, _, _, rfl, .cons hr .nil, hs, h x ns hx hl, fun y v F' S' H' _ _ d e => ?_, fun x cls dd F' S' H' _ _ _ z => z.elim⟩
    rw [e] at d
    cases d
    rfl
  rcases hS with (hS | ⟨o, hS⟩) | hS
  · exact fin (fun b => b = a) (.lst (ns.map D.int)) (.inr rfl) (.lst hS rfl (ints_of2 ns)) ⟨fun b o z => (nomatch z), fun b hb => by rw [hb]; exact ⟨_, hS⟩⟩
  · exact fin (fun _ => False) (.scr (ns.map D.int)) (.inl rfl) (.scr (.inl ⟨o, hS⟩) (ints_of2 ns)) ⟨fun b o z => (nomatch z), fun b hb => hb.elim⟩
  · exact fin (fun _ => False) (.scr (ns.map D.int)) (.inl rfl) (.scr (.inr hS) (ints_of2 ns)) ⟨fun b o z => (nomatch z), fun b hb => hb.elim⟩
/-- the end of a law over such a layer -/
theorem walk_dl {l : PySem.W.OpenLaw} {k : Nat} {q : Program} {loose : List Str} {XP : (Str → Option Value) → Heap → Prop} {YP : World → Heap → Prop} {d : DefRec} {x : Str}
    (hn : l.most = some 63) (hdf : d.params.defaults = []) (hr : Room k callerA)
    (F : ∀ (w : World) (mg : Str → Option Value) (fa : Addr) (h : Heap), YP w h → h.Ns mainGlobals mg → mg d.name = some (.ref fa) →
      ∃ (K : PySem.W.Frag) (fd : FuncData) (ca : Nat → Addr) (wl : DSp), K.In h ∧ LawD wl ∧ (∀ (s : Shared) (u : Value), BindsTo s fd ⟨[u], []⟩ [(x, u)]) ∧
        ∀ base : Heap, K.In base → base.Ns mainGlobals mg → FnOk l.prog w K mg base (L2.CX l.prog w) k fa fd [x] (lift K ca 1 wl)) :
    PySem.W.WalkO q loose XP YP l.row.toRowW d [] (fun f vs => PySem.call f vs) := by
  refine Att.attach_callB hn hdf fun w s₀ s₁ mg mb fa o pm cd doc a vs ns G Y ho hd hcd hmg hobj hints hlen hbits hg => ?_
  obtain ⟨K, fd, ca, wl, KX, hw, hb, hF⟩ := F w mg fa _ Y G.T.g hmg
  refine law_call KX G.T.g G.T.b G.T.builtins G.T.nolimit hg hobj hints (Nat.le_trans hlen (by decide)) hr hF hb (fun H hO hS => lift_law hw hlen hS) fun H e s' z => ?_
  obtain ⟨_, _, _, _, _, _, _, _, _, _, _, _, z⟩ := z
  exact z
end DL
/-! DL12: constants of the module, lists turned round, extend. -/
namespace DL
open PySem PySem.Spec PyProof.Rows L2
section
variable {K : PySem.W.Frag} {ca : Nat → Addr} {F F' : Addr → Prop} {S S' : Store} {H H' : Hp} {B : Bc} {Q : QE} {QV : VK} {d : D} {v : V} {l : List D} {X : Cx} {a b e o : Expr} {es : List Expr} {da db dd : DE} {ta tb te : TE} {pos p2 : Pos} {n : Nat} {σ : DEnv} {σV : L2.St}
/-- what a name of the module stands for, in data -/
def Konst (K : PySem.W.Frag) (mg : Str → Option Value) (x : Str) (z : D) : Prop := ∃ (v : V) (u : Value), mg x = some u ∧ RelV v u ∧ ∀ F H, RelD K F H z v
theorem pd_const {x : Str} {z : D} (k : Konst X.K X.mg x z) (hg : Gl X x) (hd : (x == ("__debug__" : Str)) = false := by decide) : PD X B (.Name x pos) (dC z) := by
  obtain ⟨v, u, h1, h2, h3⟩ := k
  exact pd_glob hg h1 h2 h3 hd
theorem konst_int {mg : Str → Option Value} {x : Str} {i : Int} (h : ∃ t, mg x = some (.int i t)) : Konst K mg x (.int i) := by
  obtain ⟨t, h⟩ := h
  exact ⟨.int i, _, h, ⟨t, rfl⟩, fun _ _ => .int i⟩
theorem strs_rel2 {F : Addr → Prop} {H : Hp} : ∀ ss : List String, RelDs K F H (ss.map D.str) ((ss.map fun s => He.Dv.str (Str.ofString s)).map (He.Dv.v K))
  | [] => .nil
  | s :: ss => .cons (.str s) (strs_rel2 ss)
/-- a tuple of texts -/
theorem konst_strs {mg : Str → Option Value} {x : Str} {ss : List String} (h : mg x = some (.ref (He.ga K x))) (ht : He.tupB K x (ss.map fun s => He.Dv.str (Str.ofString s)) = true) : Konst K mg x (.tup (ss.map D.str)) :=
  ⟨.ref (He.ga K x), _, h, rfl, fun F H => .tup (He.tupB_ok ht H) (strs_rel2 ss)⟩
/-- xs[::-1] -/
def dRevL (da : DE) : DE := fun σ S Q => da σ S fun x S1 => ofO (asL S1 x) fun l => Q (.lst l.reverse) S1
theorem rev_rel {l : List D} {vs : List V} (q : RelDs K F H l vs) : RelDs K F H l.reverse vs.reverse := by
  induction l generalizing vs with
  | nil => cases q; exact .nil
  | cons x r ih =>
    cases q with
    | cons h q => rw [List.reverse_cons, List.reverse_cons]; exact (ih q).append (.cons h .nil)
theorem pd_revL {k : Nat} {p1 p2 p3 pos : Pos} (he : PD X B e da) : PD X B (.Subscript e (.Slice none none (some (.UnaryOp .USub (.Constant (.int 1) k p1) p2)) p3) pos) (dRevL da) := by
  refine pd_of (pe_revL pe_w) fun F σ S σV H Q QV R q P => ?_
  refine he F σ S σV H _ _ R q fun x v F1 S1 H1 f1 r1 d1 q1 => ?_
  obtain ⟨l, e, q1⟩ := ofO_ex q1
  obtain ⟨a, vs, ev, hs, ql⟩ := asL_rel r1 d1 e
  refine ⟨a, vs, ev, hs, fun p hp => ?_⟩
  exact P _ _ _ _ _ (f1.trans (fr_newF hp)) (r1.newF hp) (.lst upd_same (.inl rfl) (rev_rel (ql.mono r1 (fr_newF hp)))) q1
/-- l.extend(a list) -/
def mExtL : DM := fun x xs S Q => match x, xs with
  | .obj p, [y] => match S p with
    | some (.lst l) => match y with
      | .lst m => l.length + m.length ≤ lim ∧ Q .non (put S p (.lst (l ++ m)))
      | _ => False
    | _ => False
  | _, _ => False
theorem vrm_extL : VRM K ca mExtL rExtend := by
  intro F S H x v xs vs Q QV r rx rxs q P
  cases rx with
  | obj p =>
    match xs, vs, rxs, q with
    | [y], [w], .cons ry .nil, q =>
      unfold mExtL at q
      dsimp only at q
      obtain ⟨l, hS, q⟩ := obj_at (u := Ob.lst []) q
      cases ry with
      | @lst c us m hb fb qm =>
        obtain ⟨_, ws, hH, ql⟩ := r.ob p _ hS
        refine ⟨p, c, ws, us, rfl, rfl, hH, hb, by rw [← ql.length, ← qm.length, lim_eq]; exact q.1, ?_⟩
        have fw := fr_write (F := F) (H := H) (o' := .lst (l ++ m)) (u := .lst (ws ++ us)) hS
        have rw2 := r.write (o' := .lst (l ++ m)) (u := .lst (ws ++ us)) hS ⟨_, upd_same, (ql.append qm).mono r fw⟩
        exact P _ _ F _ _ fw rw2 .non q.2
      | _ => exact q.elim
    | [], _, _, q => exact q.elim
    | _ :: _ :: _, _, _, q => exact q.elim
  | _ => exact q.elim
end
/-! ### the head's Hook with one more test -/
def obsZ (fa : List He.Fa) (fn : List He.DefD) (ex : PySem.W.Frag → Bool) (K : PySem.W.Frag) : He.AlD × Bool := (He.obsD fa fn K, ex K)
def SaysZ (fa : List He.Fa) (fn : List He.DefD) (ex : PySem.W.Frag → Bool) (K : PySem.W.Frag) : Prop := He.SaysD fa fn K ∧ ex K = true
def obsZG (n : Nat) (fa : List He.Fa) (fn : List He.DefD) (ex : PySem.W.Frag → Bool) (g : Addr → Option Obj) : He.AlD × Bool := obsZ fa fn ex (He.frG g (He.asD g n))
def hookZ (n : Nat) (fa : List He.Fa) (fn : List He.DefD) (ex : PySem.W.Frag → Bool) : PySem.W.Hook where
  α := He.AlD × Bool
  obs := fun s => obsZG n fa fn ex s.heap.get?
  val := fun _ => (He.valD fn, true)
  says := fun _ h => ∃ K : PySem.W.Frag, K.In h ∧ SaysZ fa fn ex K
  of := fun _ _ e => ⟨_, He.frG_in, congrArg (fun z : He.AlD × Bool => z.1) e, congrArg (fun z : He.AlD × Bool => z.2) e⟩
  keeps := fun _ _ _ ⟨K, hK, c⟩ k => ⟨K, PySem.W.Frag.In.keeps hK k, c⟩
theorem obsZG_eq {n : Nat} {fa : List He.Fa} {fn : List He.DefD} {ex : PySem.W.Frag → Bool} {g : Addr → Option Obj} {s : Shared} (h : ∀ a, g a = s.heap.get? a) : obsZG n fa fn ex g = (hookZ n fa fn ex).obs s := by
  have e : g = s.heap.get? := funext h
  rw [e] <;> rfl
end DL
/-! DL13: the law's def alone, called where nothing is under way; repr of data. -/
namespace DL
open PySem PySem.Spec PyProof.Rows L2
section
variable {P : Program} {w : World} {K : PySem.W.Frag} {mg : Str → Option Value} {base : Heap} {CX : CXT} {k : Nat} {f : Addr} {ps : List Str} {sp : Sp}
/-- a def's promise where no repr is under way -/
def FnG (P : Program) (w : World) (K : PySem.W.Frag) (mg : Str → Option Value) (base : Heap) (CX : CXT) (k : Nat) (f : Addr) (fd : FuncData) (ps : List Str) (sp : Sp) : Prop :=
  ∀ (Ar : Around) (fr : List Env) (sh : Shared) (Hp0 : Hp) (ar : Args) (us : List Value) (vs : List V) (Qv : VK) (Ex : XK), Ar.guards = some [] → Room k Ar → Env0 P w K mg base Ar fr sh Hp0 → BindsTo sh fd ar (ps.zip us) → Vals vs us → sp vs Hp0 Qv Ex →
    codeAny (model P w) Ar (.call (.ref f) ar) (CR CX fr P w Hp0 sh Qv Ex) sh
theorem fnG_of {x qual : Str} {prm : Arguments} {bdy : List Stmt} {sc : Scope} {dV kV doc pm cdv ct oc : Value} {an od : Option Addr} {osl : Array (Option Value)} {N : List Str}
    (at_ : K.lookup f = some ⟨oc, od, .func (PySem.W.fnOf x qual prm bdy sc dV kV doc pm an cdv ct), osl⟩) (cin : PySem.W.codeIn K cdv qual = true) (Sc : FnScope N ps sc) (ln : ∀ vs H Q E, sp vs H Q E → vs.length = ps.length)
    (bd : ∀ (Ar : Around) (fr : List Env) (sh : Shared) (H : Hp) (vs : List V) (Q : VK) (E : XK), Ar.guards = some [] → Room k (Ar.deeper (envOfC qual sc sh.heap.objs.size f cdv)) → sp vs H Q E →
      ∃ t, PSs (cxOf CX P w K mg base N qual sc f cdv Ar fr sh H E) bdy t ∧ t { nx := fun _ H' => Q .non H', rt := Q } (start N vs) H) :
    FnG P w K mg base CX (k + 1) f (PySem.W.fnOf x qual prm bdy sc dV kV doc pm an cdv ct) ps sp := by
  intro Ar fr sh Hp0 ar us vs Qv Ex hgd hrm env0 hbd rel hs
  have hlen := ln _ _ _ _ hs
  have inK : K.In sh.heap := env0.mod.kin.keeps fun b o e => (env0.bs b o e).1
  have nol : sh.heap.NoLimit := env0.mod.nolimit.keeps fun b o e => (env0.bs b o e).1
  refine codeAny_call_function hrm.depth (inK _ _ at_) rfl Sc.co Sc.gen rfl (PySem.W.codeRec_of inK cin) (hbd _ _ _ _ ?_)
  refine wpAny_newFunctionEnv_cells Sc.kind (fun ⟨nm, vl⟩ hy => ?_) fun env he s1 xx => ?_
  · rcases Sc.par nm (List.of_mem_zip hy).1 with z | z
    · exact .inl z
    · exact .inr ⟨z, PySem.W.cellsFrom_some _ _ _ (.inl z)⟩
  subst he
  refine ⟨nol.keeps xx.toInCall.keep, codeAny_func ?_⟩
  obtain ⟨t, ht, hq⟩ := bd Ar fr sh Hp0 vs Qv Ex hgd (hrm.deeper _) hs
  have J0 := inv_start (CX := CX) (E := Ex) Sc hrm.hd env0 hlen rel xx
  refine wpAny_mono (ht.run [] s1 (start N vs) Hp0 _ J0 hq) (fun fl s2 z => ?_) fun e s2 z => z
  cases fl with
  | ret u =>
    obtain ⟨v, σ2, H2, J, rv, q⟩ := z
    exact ⟨v, H2, J.os, J.bare, J.base, J.hok, rv, q⟩
  | next =>
    obtain ⟨σ2, H2, J, q⟩ := z
    exact ⟨V.non, H2, J.os, J.bare, J.base, J.hok, rfl, q⟩
  | brk => obtain ⟨_, _, _, q⟩ := z; exact q.elim
  | cont => obtain ⟨_, _, _, q⟩ := z; exact q.elim
end
section
variable {P : Program} {w : World} {K : PySem.W.Frag} {mg mb : Str → Option Value} {ca : Nat → Addr}
/-- the law's def over data, by its body; X.A bears no guard -/
theorem def_okG {base : Heap} {x qual : Str} {st : Stmt} {f : Addr} {fd : FuncData} {N ps : List Str} {k n : Nat} (Fn : Fun K x qual st f fd) (Sc : FnScope N ps (defScope st)) (hn : ps.length = n) (body : DBody)
    (hb : ∀ (cdv : Value) (A : Around) (outer : List Env) (s : Shared) (H : Hp) (E : XK) (B : Bc), B.ca = ca → Room k (A.deeper (envOfC qual (defScope st) s.heap.objs.size f cdv)) → (cxOf (L2.CX P w) P w K mg base N qual (defScope st) f cdv A outer s H E).A.guards = some [] →
      Good (cxOf (L2.CX P w) P w K mg base N qual (defScope st) f cdv A outer s H E) B → PDSs (cxOf (L2.CX P w) P w K mg base N qual (defScope st) f cdv A outer s H E) B (defBody st) (body B.ED)) :
    FnG P w K mg base (L2.CX P w) (k + 1) f fd ps (lift K ca n (runD N.length body)) := by
  obtain ⟨oc, od, kV, doc, pm, an, cdv, ct, osl, rfl, lk, hcd⟩ := Fn.ex
  refine fnG_of lk hcd Sc (fun vs H Q E h => (lift_len h).trans hn.symm) fun A outer s H vs Q E hgd hr h => ?_
  obtain ⟨ds, F, S, QD, ED, hl, rd, rs, hw, PE', PX⟩ := h
  have hpl : ds.length ≤ N.length := by
    have e := congrArg List.length Sc.pre
    rw [List.length_take] at e
    omega
  let B : Bc := ⟨ca, F, S, H, fun x _ S1 => ED x S1⟩
  let X := cxOf (L2.CX P w) P w K mg base N qual (defScope st) f cdv A outer s H E
  have tk : Takes X (XW K B) := (takes_of (X := X) (E := E) rfl rfl rfl rfl).imp fun cls dd σV H1 ⟨y, F1, σ1, S1, R1, rx, q⟩ => PX y cls dd F1 S1 H1 R1.fr R1.st rx q
  refine ⟨_, pss_w, ?_⟩
  have hR : Rel K B F (startD N.length ds) S (L2.start N vs) H := ⟨start_rel rd hpl, rs, Fr.refl⟩
  refine hb cdv A outer s H E B rfl hr hgd ⟨tk, PassesOwn.leaving, Sc.nd⟩ F _ S _ H _ _ hR hw ⟨?_, PE', ?_, ?_⟩
  · intro F' σ' S' σV' H' f' R' q
    exact PE' .non .non F' S' H' f' R'.st .non q
  · intro F' σ' S' σV' H' f' R' q
    exact q.elim
  · intro F' σ' S' σV' H' f' R' q
    exact q.elim
theorem law_callG {CX : CXT} {k : Nat} {fa a : Addr} {fd : FuncData} {x : Str} {sp : Sp} {sh : Shared} {vals : List Value} {ns : List Int} (inK : K.In sh.heap) (gns : sh.heap.Ns mainGlobals mg) (bns : sh.heap.Ns builtinsNs mb)
    (bb : ∀ x : Str, x ≠ "__name__" → mb x = bootBuiltins x) (nol : sh.heap.NoLimit) (gens : sh.gens = #[]) (scr : sh.heap.get? a = some { cls := .type "list", data := .seq vals.toArray }) (ia : IntsAre vals ns) (short : ns.length ≤ sizeLine)
    (room : Room k callerA) (F : ∀ bs : Heap, K.In bs → bs.Ns mainGlobals mg → FnG P w K mg bs CX k fa fd [x] sp) (bnd : ∀ (s : Shared) (u : Value), BindsTo s fd ⟨[u], []⟩ [(x, u)])
    (spH : ∀ H : Hp, Only H → SqL K H a (ns.map V.int) → sp [.ref a] H (fun v _ => v = .bl true) fun _ _ _ => False) (noX : ∀ H e s', CX [] H sh (fun _ _ _ => False) e s' → False) :
    codeAny (model P w) callerA (.call (.ref fa) ⟨[.ref a], []⟩) (fun r s' => r = .ok (.ret (.bool true)) ∧ OldK sh.heap s'.heap ∧ s'.os = sh.os ∧ AllBare s'.gens) sh := by
  have rel := vals_ints ia
  have lenV := ia.length
  have nil0 : ∀ b : Addr, b ∉ ([] : List Addr) := by simp
  have kern : ∀ H : Hp, Only H → SqL K H a (ns.map V.int) → HOk P w H sh.heap → (∀ b, H b ≠ none → b = a) → (H a ≠ none → K.lookup a = none) →
      codeAny (model P w) callerA (.call (.ref fa) ⟨[.ref a], []⟩) (fun r s' => r = .ok (.ret (.bool true)) ∧ OldK sh.heap s'.heap ∧ s'.os = sh.os ∧ AllBare s'.gens) sh := by
    intro H only sq hok onA notK
    have back : ∀ {b : Addr} {o : Obj}, sh.heap.get? b = some o → H b = none → (hidT sh.heap H).get? b = some o := fun e n => hidT_get e n
    have dictH : ∀ {b : Addr} {o : Obj} {es : Array DictEntry} {ep : Nat}, sh.heap.get? b = some o → o.data = .dict es ep → H b = none := fun {b o es ep} e d => by
      apply Classical.byContradiction
      intro z
      have eb := onA b z
      subst eb
      rw [scr] at e
      cases e
      have d' : Data.seq vals.toArray _ = Data.dict es ep := d
      cases d'
    have nsH : ∀ {b : Addr} {m : Str → Option Value}, sh.heap.Ns b m → (hidT sh.heap H).Ns b m := fun {b m} ⟨o, es, ep, e, d, r⟩ => ⟨o, es, ep, back e (dictH e d), d, r⟩
    have inH : K.In (hidT sh.heap H) := fun b o e => back (inK b o e) (by
      apply Classical.byContradiction
      intro z
      have eb := onA b z
      subst eb
      rw [notK z] at e
      cases e)
    have md : Mod K mg (hidT sh.heap H) := ⟨inH, nsH gns, ⟨mb, nsH bns, bb⟩, let ⟨mc, h1, h2⟩ := nol; ⟨mc, nsH h1, h2⟩⟩
    have ev : Env0 P w K mg (hidT sh.heap H) callerA [] sh H := ⟨rfl, md, fun b o e => of_hidT e, Nat.le_of_eq (hidT_size _ _), trivial, fun b hb => absurd hb (nil0 b), hok, .of_eq gens⟩
    refine codeAny_mono (F _ inH (nsH gns) callerA [] sh H ⟨[.ref a], []⟩ [.ref a] [.ref a] _ _ rfl room ev (bnd sh (.ref a)) (.cons rfl .nil) (spH H only sq)) fun r s2 h => ?_
    cases r with
    | error e => exact (noX H e s2 h).elim
    | ok fl =>
      cases fl with
      | ret u =>
        obtain ⟨v, H2, os, bare, un, hok2, rv, q⟩ := h
        obtain rfl : v = .bl true := q
        obtain rfl : u = Value.bool true := rv
        refine ⟨rfl, OldK.of_keep fun b o e => ?_, os, bare⟩
        cases q : H b with
        | none => exact un.keep b o e q (fun z => absurd z (nil0 b)) (by simp)
        | some u =>
          rcases only b with z | ⟨ob, xs, z⟩
          · rw [q] at z
            cases z
          · obtain ⟨e1, _⟩ := hok b _ z
            obtain ⟨e2, _⟩ := hok2 b _ (un.frzs b ob _ z)
            rw [e] at e1
            cases e1
            exact e2
      | _ => exact False.elim h
  cases hk : K.lookup a with
  | some o =>
    have e := inK a o hk
    rw [scr] at e
    cases e
    refine kern (fun _ => none) (fun _ => .inl rfl) (.inr ⟨_, vals.toArray, _, hk, rfl, rfl, rfl, ?_, by simpa using rel⟩) (fun b u z => nomatch z) (fun b z => absurd rfl z) fun z => absurd rfl z
    rw [List.size_toArray, lenV]
    exact short
  | none =>
    refine kern (fun b => if b = a then some (.frz { cls := .type "list", data := .seq vals.toArray } (.lst (ns.map V.int))) else none) (fun b => ?_) (.inl (.inr ⟨_, if_pos rfl⟩)) (fun b u z => ?_) (fun b z => ?_) fun _ => hk
    · by_cases hb : b = a
      · exact .inr ⟨_, _, if_pos hb⟩
      · exact .inl (if_neg hb)
    · by_cases hb : b = a
      · subst hb
        cases (if_pos rfl).symm.trans z
        exact ⟨scr, by rw [List.length_map]; exact short, vals, _, rel, scr⟩
      · cases (if_neg hb).symm.trans z
    · by_cases hb : b = a
      · exact hb
      · exact absurd (if_neg hb) z
end
theorem walk_dlG {l : PySem.W.OpenLaw} {k : Nat} {q : Program} {loose : List Str} {XP : (Str → Option Value) → Heap → Prop} {YP : World → Heap → Prop} {d : DefRec} {x : Str}
    (hn : l.most = some 63) (hdf : d.params.defaults = []) (hr : Room k callerA)
    (F : ∀ (w : World) (mg : Str → Option Value) (fa : Addr) (h : Heap), YP w h → h.Ns mainGlobals mg → mg d.name = some (.ref fa) →
      ∃ (K : PySem.W.Frag) (fd : FuncData) (ca : Nat → Addr) (wl : DSp), K.In h ∧ LawD wl ∧ (∀ (s : Shared) (u : Value), BindsTo s fd ⟨[u], []⟩ [(x, u)]) ∧
        ∀ base : Heap, K.In base → base.Ns mainGlobals mg → FnG l.prog w K mg base (L2.CX l.prog w) k fa fd [x] (lift K ca 1 wl)) :
    PySem.W.WalkO q loose XP YP l.row.toRowW d [] (fun f vs => PySem.call f vs) := by
  refine Att.attach_callB hn hdf fun w s₀ s₁ mg mb fa o pm cd doc a vs ns G Y ho hd hcd hmg hobj hints hlen hbits hg => ?_
  obtain ⟨K, fd, ca, wl, KX, hw, hb, hF⟩ := F w mg fa _ Y G.T.g hmg
  refine law_callG KX G.T.g G.T.b G.T.builtins G.T.nolimit hg hobj hints (Nat.le_trans hlen (by decide)) hr hF hb (fun H hO hS => lift_law hw hlen hS) fun H e s' z => ?_
  obtain ⟨_, _, _, _, _, _, _, _, _, _, _, _, z⟩ := z
  exact z
end DL
/-! DL14: repr of a tuple of data. -/
namespace DL
open PySem PySem.Spec PyProof.Rows L2
section
variable {K : PySem.W.Frag} {ca : Nat → Addr} {F F' : Addr → Prop} {S S' : Store} {H H' : Hp} {B : Bc} {Q : QE} {QV : VK} {d : D} {v : V} {l : List D} {X : Cx}
theorem room80 {k : Nat} {A : Around} (hr : Room k A) : A.units + 80 < cLine := by
  have := hr.un
  omega
def rRepr (K : PySem.W.Frag) : List V → Hp → VK → Prop := fun xs H Q => ∃ (a : Addr) (vs : List V) (ds : List PyData), xs = [.ref a] ∧ SqT K H a vs ∧ DpAll K H vs ds ∧ PyData.showableAll ds = true ∧ PyData.hasDictAll ds = false ∧ PyData.depthAll ds ≤ 64 ∧
  (PyData.shown (.tuple ds)).length ≤ sizeLine ∧ Q (.str (PyData.shown (.tuple ds))) H
theorem call_repr_tup (hgd : X.A.guards = some []) (hu : X.A.units + 80 < cLine) : CallR X (.builtin "repr") (rRepr X.K) := by
  intro pins s σ H xs us Q I r h
  obtain ⟨a, vs, ds, rfl, hq, hd, hs, hnd, hdp, hz, q⟩ := h
  obtain ⟨u, rfl, ru⟩ := vals1 r
  obtain rfl : u = Value.ref a := ru
  obtain ⟨as, rds⟩ := Dp.reads I (.tuple ds) (.ref a) (.ref a) (.tup hq hd) rfl
  cases rds with
  | @tuple _ o vals n _ _ h1 h2 h3 h4 =>
    have hz' : (tupleText (PyData.shownAll ds)).length ≤ sizeLine := by simpa only [PyData.shown] using hz
    obtain ⟨bs, hb, kk⟩ := ReprAllK.of_readsAll (prog := X.prog) (w := X.w) h4 hs (fun z => by rw [hnd] at z; cases z) fun t ht => Nat.le_trans (tupleText_mem_le ht) hz'
    have hna : a ∉ bs := not_mem_of_deeper (n := PyData.depthAll ds) (Reads.tuple h1 h2 h3 h4) (by simp only [PyData.depth]; omega) hb
    refine call_repr_slot (by omega) ⟨o, h1, h2⟩ F.slot_tuple_repr ?_
    refine call_tuple_reprK h1 h2 h3 hna kk (g := []) hgd (fun b _ => Clear.nil b) ?_ (fun _ _ e => e) (fun h' u tk hk => ?_) hz'
    · show X.A.units + 1 + (PyData.depthAll ds + 1) < cLine
      omega
    · refine ⟨_, u, rfl, .str (PyData.shown (.tuple ds)), H, I.kept (t' := tk) hk, ?_, q⟩
      simp only [PyData.shown]
      exact ⟨u, rfl⟩
/-- the text that repr gives -/
def reprS (l : List D) : String := decS (PyData.shown (.tuple (toPs l)))
def OkRepr (l : List D) : Prop := plainDs l = true ∧ PyData.showableAll (toPs l) = true ∧ depDs l ≤ 60 ∧ (PyData.shown (.tuple (toPs l))).length ≤ sizeLine ∧ ∃ t : String, Str.ofString t = PyData.shown (.tuple (toPs l))
def bRepr : DC := fun xs S Q => match xs with
  | [.tup l] => OkRepr l ∧ Q (.str (reprS l)) S
  | _ => False
theorem vrc_repr : VRC K ca bRepr (rRepr K) := by
  intro F S H xs vs Q QV r rx q P
  match xs, vs, rx, q with
  | [.tup l], _, .cons (.tup hs ql) .nil, q =>
    obtain ⟨⟨hp, hsh, hd, hz, t, ht⟩, q⟩ := q
    refine ⟨_, _, toPs l, rfl, hs, dps_toP ql hp, hsh, PyData.hasDictAll_of_canLayAll _ (canLays_toP l hp), by rw [depths_toP]; omega, hz, ?_⟩
    have e : Str.ofString (reprS l) = PyData.shown (.tuple (toPs l)) := by
      unfold reprS
      rw [← ht, decS_ofS]
    rw [← e]
    exact P.at r (.str _) q
@[simp] theorem r_repr : bRepr [.tup l] S Q = (OkRepr l ∧ Q (.str (reprS l)) S) := propext Iff.rfl
end
end DL
/-! DL15: zip of two walks, each over a list or over a tuple. -/
namespace DL
open PySem PySem.Spec PyProof.Rows L2
/-- k: a tuple, else a list -/
def SeqB (k : Bool) (h : Heap) (l : Addr) (xs : Array Value) : Prop := if k then h.IsTuple l xs else h.IsList l xs
def ItB (k : Bool) (h : Heap) (it l : Addr) (i : Nat) : Prop := if k then h.IsTupleIter it l i else h.IsListIter it l i
theorem ItB.ext {k : Bool} {h h' : Heap} {c it l : Addr} {i : Nat} (z : ItB k h it l i) (e : Heap.ExtBut c h h') (n : it ≠ c) : ItB k h' it l i := by
  cases k with
  | true => exact Heap.IsTupleIter.extBut z e n
  | false => exact Heap.IsListIter.extBut z e n
theorem SeqB.ext {k : Bool} {h h' : Heap} {c l : Addr} {xs : Array Value} (z : SeqB k h l xs) (e : Heap.ExtBut c h h') (n : l ≠ c) : SeqB k h' l xs := by
  cases k with
  | true => exact Heap.IsTuple.extBut z e n
  | false => exact Heap.IsList.extBut z e n
theorem ItB.moved {k : Bool} {h h' : Heap} {it l : Addr} {i : Nat} (z : ItB k h it l i) (e : ∀ o, h.get? it = some o → h'.get? it = some o) : ItB k h' it l i := by
  cases k with
  | true => exact Heap.IsTupleIter.at z e
  | false => exact Heap.IsListIter.at z e
theorem ItB.obj {k : Bool} {h : Heap} {it l : Addr} {i : Nat} (z : ItB k h it l i) : ∃ o, h.get? it = some o ∧ ∀ v, o.data ≠ .cell v := by
  cases k with
  | true => obtain ⟨o, e, _, d⟩ := z; exact ⟨o, e, fun v q => by rw [d] at q; cases q⟩
  | false => obtain ⟨o, e, _, d⟩ := z; exact ⟨o, e, fun v q => by rw [d] at q; cases q⟩
section
variable {prog : Program} {w : World} {A : Around} {E : Value → Shared → Prop} {s : Shared}
theorem nextB_item {k : Bool} {it l : Addr} {i : Nat} {items : Array Value} {x : Value} {Q : Value → Shared → Prop} (a : ItB k s.heap it l i) (b : SeqB k s.heap l items) (c : items[i]? = some x)
    (d : ∀ h', ItB k h' it l (i + 1) → Heap.SameBut it s.heap h' → Q x { s with heap := h' }) : wpAny (model prog w) A (Builtin.SmallTypes.nextOf (.ref it)) Q E s := by
  cases k with
  | true => exact RZ.nextOf_tuple_item a b c d
  | false => exact wpAny_nextOf_list_item a b c d
theorem nextB_end {k : Bool} {it l : Addr} {i : Nat} {items : Array Value} {Q : Value → Shared → Prop} (g : A.handled = none) (a : ItB k s.heap it l i) (b : SeqB k s.heap l items) (c : items[i]? = none)
    (d : ∀ h' e, Heap.ExtBut it s.heap h' → (∃ o, h'.get? e = some o ∧ o.cls = .type "StopIteration") → E (.ref e) { s with heap := h' }) : wpAny (model prog w) A (Builtin.SmallTypes.nextOf (.ref it)) Q E s := by
  cases k with
  | true => exact RZ.nextOf_tuple_end g a b c d
  | false => exact wpAny_nextOf_list_end g a b c d
/-- how the zip object stands -/
structure ZipSt (k1 k2 : Bool) (h : Heap) (z TI TO i1 i2 l1 l2 : Addr) (i j : Nat) (f a b : Value) : Prop where
  hz : IsZip h z TI TO f
  hTI : IsPair h TI (.ref i1) (.ref i2)
  hTO : IsPair h TO a b
  h1 : ItB k1 h i1 l1 i
  h2 : ItB k2 h i2 l2 j
theorem zipB_item {k1 k2 : Bool} {z TI TO i1 i2 l1 l2 : Addr} {i j : Nat} {xs ys : Array Value} {x y a b : Value} {Q : Value → Shared → Prop} (D : ZipApart z TI TO i1 i2 l1 l2)
    (st : ZipSt k1 k2 s.heap z TI TO i1 i2 l1 l2 i j .none a b) (s1 : SeqB k1 s.heap l1 xs) (s2 : SeqB k2 s.heap l2 ys) (hx : xs[i]? = some x) (hy : ys[j]? = some y)
    (hQ : ∀ h', ZipSt k1 k2 h' z TI TO i1 i2 l1 l2 (i + 1) (j + 1) (rawInt s.heap.objs.size) x y → IsPair h' s.heap.objs.size x y → h'.objs.size = s.heap.objs.size + 1 →
      (∀ c o, c ≠ z → c ≠ TO → c ≠ i1 → c ≠ i2 → s.heap.get? c = some o → h'.get? c = some o) → Q (.ref s.heap.objs.size) { s with heap := h' }) :
    wpAny (model prog w) A (Builtin.«zip.__next__» ⟨[.ref z], []⟩) (fun fin t => ∃ v, fin = .done (.ret v) ∧ Q v t) E s := by
  obtain ⟨hz, hTI, hTO, h1, h2⟩ := st
  show wpAny _ _ (field (.ref z) 2 >>= _) _ _ _
  refine wpAny_bind (wpAny_field hz rfl (x := .bool false) rfl ?_)
  show wpAny _ _ (field (.ref z) 3 >>= _) _ _ _
  refine wpAny_bind (wpAny_field hz rfl (x := .ref TI) rfl ?_)
  refine wpAny_bind (wpAny_seqItems hTI rfl ?_)
  show wpAny _ _ (Builtin.SmallTypes.ownedTupleIsFree (.ref z) >>= _) _ _ _
  refine wpAny_bind ?_
  unfold Builtin.SmallTypes.ownedTupleIsFree
  refine wpAny_bind (wpAny_field hz rfl (x := .none) rfl (wpAny_pure ?_))
  simp only [if_true]
  refine wpAny_bind (wpAny_rule ?_)
  refine wpAny_bind (wpAny_field hz rfl (x := .ref TO) rfl ?_)
  refine wpAny_bind (wpAny_setField_rec hz (by simp) fun g1 zz1 e1 => ?_)
  replace zz1 : IsZip g1 z TI TO .ellipsis := zz1
  refine wpAny_bind ?_
  simp only [List.zipIdx_cons, List.zipIdx_nil, List.forIn_cons, List.forIn_nil]
  refine wpAny_bind (wpAny_bind (wpAny_onRaise ?_))
  show wpAny _ _ (Builtin.SmallTypes.nextOf (.ref i1) >>= _) _ _ _
  refine wpAny_bind (nextB_item (h1.ext e1.extBut D.i1z) (s1.ext e1.extBut D.l1z) hx fun g2 n1 e2 => wpAny_pure ?_)
  have o2 : IsPair g2 TO a b := e2.extBut _ _ D.TOi1 (e1.extBut _ _ D.TOz hTO)
  refine wpAny_bind (wpAny_seqItems o2 rfl ?_)
  refine wpAny_bind (wpAny_updateSeq_pair o2 fun g3 o3 e3 => ?_)
  replace o3 : IsPair g3 TO x b := o3
  refine wpAny_bind (wpAny_letGo (wpAny_pure ?_))
  refine wpAny_bind (wpAny_bind (wpAny_onRaise ?_))
  show wpAny _ _ (Builtin.SmallTypes.nextOf (.ref i2) >>= _) _ _ _
  refine wpAny_bind (nextB_item (((h2.ext e1.extBut D.i2z).ext e2.extBut D.i12.symm).ext e3.extBut D.TOi2.symm)
    (((s2.ext e1.extBut D.l2z).ext e2.extBut D.l2i1).ext e3.extBut D.l2TO) hy fun g4 n2 e4 => wpAny_pure ?_)
  have o4 : IsPair g4 TO x b := e4.extBut _ _ D.TOi2 o3
  refine wpAny_bind (wpAny_seqItems o4 rfl ?_)
  refine wpAny_bind (wpAny_updateSeq_pair o4 fun g5 o5 e5 => ?_)
  replace o5 : IsPair g5 TO x y := o5
  refine wpAny_bind (wpAny_letGo (wpAny_pure (wpAny_pure ?_)))
  refine wpAny_bind (wpAny_seqItems o5 rfl ?_)
  refine wpAny_bind (wpAny_newTuple ?_)
  have size5 : g5.objs.size = s.heap.objs.size := by rw [e5.1, e4.1, e3.1, e2.1, e1.1]
  have zz5 : IsZip g5 z TI TO .ellipsis := e5.extBut _ _ D.TOz.symm (e4.extBut _ _ D.i2z.symm (e3.extBut _ _ D.TOz.symm (e2.extBut _ _ D.i1z.symm zz1)))
  have kept5 : ∀ c o, c ≠ z → c ≠ TO → c ≠ i1 → c ≠ i2 → s.heap.get? c = some o → g5.get? c = some o := fun c o c1 c2 c3 c4 e =>
    e5.extBut _ _ c2 (e4.extBut _ _ c4 (e3.extBut _ _ c2 (e2.extBut _ _ c3 (e1.extBut _ _ c1 e))))
  have n1' : ItB k1 g5 i1 l1 (i + 1) := ((n1.ext e3.extBut D.TOi1.symm).ext e4.extBut D.i12).ext e5.extBut D.TOi1.symm
  have n2' : ItB k2 g5 i2 l2 (j + 1) := n2.ext e5.extBut D.TOi2.symm
  have zlt : z < g5.objs.size := Heap.lt_size zz5
  show wpAny _ _ (Builtin.SmallTypes.ownedTupleHandOut (.ref z) (.ref g5.objs.size) >>= _) _ _ _
  refine wpAny_bind ?_
  unfold Builtin.SmallTypes.ownedTupleHandOut
  have zz6 : IsZip (g5.push { cls := .type "tuple", data := .seq #[x, y] }) z TI TO .ellipsis := Heap.get?_push_of_some _ zz5
  refine wpAny_bind (wpAny_setField_rec zz6 (by simp) fun g7 zz7 e7 => ?_)
  replace zz7 : IsZip g7 z TI TO (rawInt g5.objs.size) := zz7
  refine wpAny_setField_rec zz7 (by simp) fun g8 zz8 e8 => ?_
  replace zz8 : IsZip g8 z TI TO (rawInt g5.objs.size) := zz8
  have up : ∀ c o, c ≠ z → g5.get? c = some o → g8.get? c = some o := fun c o c1 e => e8.extBut _ _ c1 (e7.extBut _ _ c1 (Heap.get?_push_of_some _ e))
  have pr8 : IsPair g8 g5.objs.size x y := e8.extBut _ _ (Nat.ne_of_gt zlt) (e7.extBut _ _ (Nat.ne_of_gt zlt) (Heap.get?_push_size _ rfl))
  have size8 : g8.objs.size = g5.objs.size + 1 := by rw [e8.1, e7.1, Heap.size_push]
  rw [size5] at zz8 pr8 size8
  refine wpAny_pure ⟨_, rfl, ?_⟩
  show Q (.ref g5.objs.size) _
  rw [size5]
  exact hQ g8 ⟨zz8, up _ _ D.TIz (kept5 _ _ D.TIz D.TITO D.TIi1 D.TIi2 hTI), up _ _ D.TOz o5, n1'.moved fun o e => up _ o D.i1z e, n2'.moved fun o e => up _ o D.i2z e⟩ pr8 size8 fun c o c1 c2 c3 c4 e => up c o c1 (kept5 c o c1 c2 c3 c4 e)
theorem zipB_end {k1 k2 : Bool} {z TI TO i1 i2 l1 l2 : Addr} {i j : Nat} {xs ys : Array Value} {a b : Value} {Q : Fin → Shared → Prop} (g : A.handled = none) (D : ZipApart z TI TO i1 i2 l1 l2)
    (st : ZipSt k1 k2 s.heap z TI TO i1 i2 l1 l2 i j .none a b) (s1 : SeqB k1 s.heap l1 xs) (s2 : SeqB k2 s.heap l2 ys) (hend : xs[i]? = none ∨ ys[j]? = none)
    (hE : ∀ h' e, (∀ c o, c ≠ z → c ≠ TO → c ≠ i1 → c ≠ i2 → s.heap.get? c = some o → h'.get? c = some o) → (∃ o, h'.get? e = some o ∧ o.cls = .type "StopIteration") → E (.ref e) { s with heap := h' }) :
    wpAny (model prog w) A (Builtin.«zip.__next__» ⟨[.ref z], []⟩) Q E s := by
  obtain ⟨hz, hTI, hTO, h1, h2⟩ := st
  show wpAny _ _ (field (.ref z) 2 >>= _) _ _ _
  refine wpAny_bind (wpAny_field hz rfl (x := .bool false) rfl ?_)
  show wpAny _ _ (field (.ref z) 3 >>= _) _ _ _
  refine wpAny_bind (wpAny_field hz rfl (x := .ref TI) rfl ?_)
  refine wpAny_bind (wpAny_seqItems hTI rfl ?_)
  show wpAny _ _ (Builtin.SmallTypes.ownedTupleIsFree (.ref z) >>= _) _ _ _
  refine wpAny_bind ?_
  unfold Builtin.SmallTypes.ownedTupleIsFree
  refine wpAny_bind (wpAny_field hz rfl (x := .none) rfl (wpAny_pure ?_))
  simp only [if_true]
  refine wpAny_bind (wpAny_rule ?_)
  refine wpAny_bind (wpAny_field hz rfl (x := .ref TO) rfl ?_)
  refine wpAny_bind (wpAny_setField_rec hz (by simp) fun g1 zz1 e1 => ?_)
  replace zz1 : IsZip g1 z TI TO .ellipsis := zz1
  refine wpAny_bind ?_
  simp only [List.zipIdx_cons, List.zipIdx_nil, List.forIn_cons, List.forIn_nil]
  refine wpAny_bind (wpAny_bind (wpAny_onRaise ?_))
  show wpAny _ _ (Builtin.SmallTypes.nextOf (.ref i1) >>= _) _ _ _
  cases hx : xs[i]? with
  | none =>
    refine wpAny_bind (nextB_end g (h1.ext e1.extBut D.i1z) (s1.ext e1.extBut D.l1z) hx fun g2 e e2 he => ?_)
    obtain ⟨oe, hoe, hce⟩ := he
    have zz2 : IsZip g2 z TI TO .ellipsis := e2 _ _ D.i1z.symm zz1
    have hez : e ≠ z := fun q => by subst q; rw [zz2] at hoe; cases hoe; simp at hce
    refine wpAny_setField_rec zz2 (by simp) fun g3 _ e3 => hE g3 e (fun c o c1 _ c3 _ q => e3.extBut _ _ c1 (e2 _ _ c3 (e1.extBut _ _ c1 q))) ⟨oe, e3.extBut _ _ hez hoe, hce⟩
  | some x =>
    have hy : ys[j]? = none := hend.resolve_left fun q => by rw [hx] at q; cases q
    refine wpAny_bind (nextB_item (h1.ext e1.extBut D.i1z) (s1.ext e1.extBut D.l1z) hx fun g2 n1 e2 => wpAny_pure ?_)
    have o2 : IsPair g2 TO a b := e2.extBut _ _ D.TOi1 (e1.extBut _ _ D.TOz hTO)
    refine wpAny_bind (wpAny_seqItems o2 rfl ?_)
    refine wpAny_bind (wpAny_updateSeq_pair o2 fun g3 o3 e3 => ?_)
    refine wpAny_bind (wpAny_letGo (wpAny_pure ?_))
    refine wpAny_bind (wpAny_bind (wpAny_onRaise ?_))
    show wpAny _ _ (Builtin.SmallTypes.nextOf (.ref i2) >>= _) _ _ _
    refine wpAny_bind (nextB_end g (((h2.ext e1.extBut D.i2z).ext e2.extBut D.i12.symm).ext e3.extBut D.TOi2.symm)
      (((s2.ext e1.extBut D.l2z).ext e2.extBut D.l2i1).ext e3.extBut D.l2TO) hy fun g4 e e4 he => ?_)
    obtain ⟨oe, hoe, hce⟩ := he
    have zz4 : IsZip g4 z TI TO .ellipsis := e4 _ _ D.i2z.symm (e3.extBut _ _ D.TOz.symm (e2.extBut _ _ D.i1z.symm zz1))
    have hez : e ≠ z := fun q => by subst q; rw [zz4] at hoe; cases hoe; simp at hce
    refine wpAny_setField_rec zz4 (by simp) fun g5 _ e5 => hE g5 e (fun c o c1 c2 c3 c4 q => e5.extBut _ _ c1 (e4 _ _ c4 (e3.extBut _ _ c2 (e2.extBut _ _ c3 (e1.extBut _ _ c1 q))))) ⟨oe, e5.extBut _ _ hez hoe, hce⟩
theorem nextZip_item {k1 k2 : Bool} {z TI TO i1 i2 l1 l2 : Addr} {i j : Nat} {xs ys : Array Value} {x y a b : Value} {Q : Option Value → Shared → Prop} (D : ZipApart z TI TO i1 i2 l1 l2)
    (st : ZipSt k1 k2 s.heap z TI TO i1 i2 l1 l2 i j .none a b) (s1 : SeqB k1 s.heap l1 xs) (s2 : SeqB k2 s.heap l2 ys) (hx : xs[i]? = some x) (hy : ys[j]? = some y)
    (hQ : ∀ h', ZipSt k1 k2 h' z TI TO i1 i2 l1 l2 (i + 1) (j + 1) (rawInt s.heap.objs.size) x y → IsPair h' s.heap.objs.size x y → h'.objs.size = s.heap.objs.size + 1 →
      (∀ c o, c ≠ z → c ≠ TO → c ≠ i1 → c ≠ i2 → s.heap.get? c = some o → h'.get? c = some o) → Q (some (.ref s.heap.objs.size)) { s with heap := h' }) :
    wpAny (model prog w) A (pyNext (.ref z)) Q E s := by
  have T : s.TypeIs (.ref z) "zip" := ⟨_, st.hz, rfl⟩
  unfold pyNext
  exact wpAny_bind (wpAny_attempt (wpAny_callSpecial?_slot (name := Str.ofString "__next__") T F.slot_zip_next
    (wpAny_call_entry F.slot_zip_next T F.entry_zip_next (zipB_item D st s1 s2 hx hy fun h' a1 a2 a3 a4 => wpAny_pure (hQ h' a1 a2 a3 a4)) (F.args_zip_next_1 _))))
theorem nextZip_end {k1 k2 : Bool} {z TI TO i1 i2 l1 l2 : Addr} {i j : Nat} {xs ys : Array Value} {a b : Value} {Q : Option Value → Shared → Prop} (g : A.handled = none) (D : ZipApart z TI TO i1 i2 l1 l2)
    (st : ZipSt k1 k2 s.heap z TI TO i1 i2 l1 l2 i j .none a b) (s1 : SeqB k1 s.heap l1 xs) (s2 : SeqB k2 s.heap l2 ys) (hend : xs[i]? = none ∨ ys[j]? = none)
    (hQ : ∀ h', (∀ c o, c ≠ z → c ≠ TO → c ≠ i1 → c ≠ i2 → s.heap.get? c = some o → h'.get? c = some o) → Q none { s with heap := h' }) : wpAny (model prog w) A (pyNext (.ref z)) Q E s := by
  have T : s.TypeIs (.ref z) "zip" := ⟨_, st.hz, rfl⟩
  unfold pyNext
  refine wpAny_bind (wpAny_attempt (wpAny_callSpecial?_slot (name := Str.ofString "__next__") T F.slot_zip_next
    (wpAny_call_entry F.slot_zip_next T F.entry_zip_next (zipB_end g D st s1 s2 hend fun h' e hk he => ?_) (F.args_zip_next_1 _))))
  obtain ⟨o, ho, hc⟩ := he
  exact wpAny_bind (wpAny_isInstance (T := "StopIteration") (b := true) ⟨o, ho, hc⟩ isSubtype_stop (wpAny_pure (hQ _ hk)))
end
/-! ### the zip object is made -/
def itO (k : Bool) (l : Addr) : Obj := if k then { cls := .type "tuple_iterator", data := .fields #[.ref l, .int 0 0] } else { cls := .type "list_iterator", data := .fields #[.ref l, .int 0 0] }
theorem itO_at {k : Bool} {h : Heap} {it l : Addr} (e : h.get? it = some (itO k l)) : ItB k h it l 0 := by
  cases k with
  | true => exact ⟨_, e, rfl, rfl⟩
  | false => exact ⟨_, e, rfl, rfl⟩
abbrev zh1 (k1 : Bool) (h : Heap) (l1 : Addr) : Heap := h.push (itO k1 l1)
abbrev zh2 (k1 k2 : Bool) (h : Heap) (l1 l2 : Addr) : Heap := (zh1 k1 h l1).push (itO k2 l2)
abbrev zh3 (k1 k2 : Bool) (h : Heap) (l1 l2 : Addr) : Heap := (zh2 k1 k2 h l1 l2).push { cls := .type "tuple", data := .seq #[.ref h.objs.size, .ref (zh1 k1 h l1).objs.size] }
abbrev zh4 (k1 k2 : Bool) (h : Heap) (l1 l2 : Addr) : Heap := (zh3 k1 k2 h l1 l2).push { cls := .type "tuple", data := .seq #[.none, .none] }
abbrev zh5 (k1 k2 : Bool) (h : Heap) (l1 l2 : Addr) : Heap := (zh4 k1 k2 h l1 l2).push { cls := .type "zip", data := .fields #[.none, .bool false, .bool false, .ref (zh2 k1 k2 h l1 l2).objs.size, .ref (zh3 k1 k2 h l1 l2).objs.size] }
/-- a tuple and a list -/
theorem meets_zipTL (l1 l2 : Addr) (xs ys : Array Value) :
    Meets (Builtin.«zip.__new__» ⟨[.type "zip", .ref l1, .ref l2], []⟩) (fun _ R s => s.heap.IsTuple l1 xs ∧ s.heap.IsList l2 ys ∧
      R (.ok (.ret (.ref (zh4 true false s.heap l1 l2).objs.size))) { s with heap := zh5 true false s.heap l1 l2 }) :=
  .of_wp fun prog w A R s h => by
    obtain ⟨hp, g, d, tk, os⟩ := s
    obtain ⟨q1, q2, h⟩ := h
    have isz := sub_zip
    have w1 : Heap.IsTuple (Shared.heap ⟨hp, g, d, tk, os⟩) l1 xs := q1
    have w2 : Heap.IsList (Shared.heap ⟨hp.push { cls := .type "tuple_iterator", data := .fields #[.ref l1, .int 0 0] }, g, d, tk, os⟩) l2 ys := Heap.IsList.push q2 _
    wp_walk using wpAny_pyIter_tuple w1, wpAny_pyIter_list w2
    exact ⟨_, rfl, h⟩
section
variable {prog : Program} {w : World} {A : Around} {E : Value → Shared → Prop} {s : Shared}
theorem zh_facts (k1 k2 : Bool) (h : Heap) (l1 l2 : Addr) : (zh4 k1 k2 h l1 l2).objs.size = h.objs.size + 4 ∧
    ZipSt k1 k2 (zh5 k1 k2 h l1 l2) (h.objs.size + 4) (h.objs.size + 2) (h.objs.size + 3) h.objs.size (h.objs.size + 1) l1 l2 0 0 .none .none .none ∧ ∀ c o, h.get? c = some o → (zh5 k1 k2 h l1 l2).get? c = some o := by
  have z1 : (zh1 k1 h l1).objs.size = h.objs.size + 1 := Heap.size_push ..
  have z2 : (zh2 k1 k2 h l1 l2).objs.size = h.objs.size + 2 := by rw [Heap.size_push, z1]
  have z3 : (zh3 k1 k2 h l1 l2).objs.size = h.objs.size + 3 := by rw [Heap.size_push, z2]
  have z4 : (zh4 k1 k2 h l1 l2).objs.size = h.objs.size + 4 := by rw [Heap.size_push, z3]
  have up : ∀ {a : Heap} {o : Obj} {c : Addr} {v : Obj}, a.get? c = some v → (a.push o).get? c = some v := fun e => Heap.get?_push_of_some _ e
  have f1 : itO k1 l1 ≠ itO k1 l1 → False := fun z => z rfl
  have nf : ∀ (k : Bool) (l : Addr), (itO k l).isFreed = false := fun k l => by cases k <;> rfl
  have a5 : (zh5 k1 k2 h l1 l2).get? (zh4 k1 k2 h l1 l2).objs.size = some _ := Heap.get?_push_size _ rfl
  have a4 : (zh5 k1 k2 h l1 l2).get? (zh3 k1 k2 h l1 l2).objs.size = some _ := up (Heap.get?_push_size _ rfl)
  have a3 : (zh5 k1 k2 h l1 l2).get? (zh2 k1 k2 h l1 l2).objs.size = some _ := up (up (Heap.get?_push_size _ rfl))
  have a2 : (zh5 k1 k2 h l1 l2).get? (zh1 k1 h l1).objs.size = some _ := up (up (up (Heap.get?_push_size _ (nf _ _))))
  have a1 : (zh5 k1 k2 h l1 l2).get? h.objs.size = some _ := up (up (up (up (Heap.get?_push_size _ (nf _ _)))))
  rw [z2, z3, z4] at a5
  rw [z1, z2] at a3
  rw [z3] at a4
  rw [z1] at a2
  exact ⟨z4, ⟨a5, a3, a4, itO_at a1, itO_at a2⟩, fun c o e => up (up (up (up (up e))))⟩
theorem call_zipB {k1 k2 : Bool} {l1 l2 : Addr} {xs ys : Array Value} {Q : Value → Shared → Prop} (s1 : SeqB k1 s.heap l1 xs) (s2 : SeqB k2 s.heap l2 ys) (hk : k1 = true ∧ k2 = false)
    (h : ∀ h', ZipSt k1 k2 h' (s.heap.objs.size + 4) (s.heap.objs.size + 2) (s.heap.objs.size + 3) s.heap.objs.size (s.heap.objs.size + 1) l1 l2 0 0 .none .none .none →
      (∀ c o, s.heap.get? c = some o → h'.get? c = some o) → Q (.ref (s.heap.objs.size + 4)) { s with heap := h' }) :
    wpAny (model prog w) A (call (.type "zip") [.ref l1, .ref l2]) Q E s := by
  obtain ⟨rfl, rfl⟩ := hk
  refine callType_new F.called_zip (by decide) (F.typeCall_zip_2 _ _) (F.newCall_zip_2 _ _) (fun obj => F.args_object_init_3 obj _ _) F.entry_zip_new (meets_zipTL l1 l2 xs ys) ⟨s1, s2, ?_⟩
  obtain ⟨e4, st, kp⟩ := zh_facts true false s.heap l1 l2
  show _ ∧ _
  rw [e4]
  exact ⟨⟨_, st.hz, rfl⟩, h _ st kp⟩
end
/-! ### the walk -/
def SqB (K : PySem.W.Frag) (k : Bool) (H : Hp) (a : Addr) (xs : List V) : Prop := if k then SqT K H a xs else SqL K H a xs
theorem SqB.seq {X : Cx} {pins : List (Addr × Obj)} {σ : L2.St} {H : Hp} {s : Shared} {k : Bool} {a : Addr} {xs : List V} (I : Inv X pins σ H s) (q : SqB X.K k H a xs) : ∃ its : List Value, Vals xs its ∧ SeqB k s.heap a its.toArray ∧ a < s.heap.objs.size := by
  cases k with
  | true =>
    obtain ⟨its, rv, p, _⟩ := I.tuple q
    have p' : s.heap.IsTuple a its.toArray := p
    obtain ⟨o, ho, _⟩ := id p'
    exact ⟨its, rv, p', Heap.lt_size ho⟩
  | false =>
    obtain ⟨its, rv, p, _⟩ := I.list q
    exact ⟨its, rv, p.isList, p.lt⟩
theorem SqB.inj {X : Cx} {pins : List (Addr × Obj)} {σ : L2.St} {H : Hp} {s : Shared} {k : Bool} {a : Addr} {xs ys : List V} (I : Inv X pins σ H s) (q : SqB X.K k H a xs) (r : SqB X.K k H a ys) : xs = ys := by
  cases k with
  | true => exact I.tuple_inj q r
  | false => exact I.list_inj q r
def Itb (K : PySem.W.Frag) (k1 k2 : Bool) (a b : Addr) : It :=
  ⟨fun i H => ∃ (xs ys : List V) (x y : V), SqB K k1 H a xs ∧ SqB K k2 H b ys ∧ xs[i]? = some x ∧ ys[i]? = some y,
    fun i H v H' => ∃ T x y, v = .ref T ∧ H T = none ∧ H' = upd H T (.tup [x, y]) ∧ (∀ xs, SqB K k1 H a xs → xs[i]? = some x) ∧ ∀ ys, SqB K k2 H b ys → ys[i]? = some y,
    fun i H => ∃ xs ys : List V, SqB K k1 H a xs ∧ SqB K k2 H b ys ∧ (xs.length ≤ i ∨ ys.length ≤ i)⟩
theorem turn_zipB {P : Program} {w : World} {K : PySem.W.Frag} {elts : List Expr} {kk : Nat} {tpos : Pos} {k1 k2 : Bool} {a b z TI TO i1 i2 : Addr} (D : ZipApart z TI TO i1 i2 a b) :
    Turn P w K (.Tuple elts kk tpos) (Itb K k1 k2 a b) [z, TI, TO, i1, i2] z (fun i h => ∃ x y, ZipSt k1 k2 h z TI TO i1 i2 a b i i .none x y) where
  mem := by simp
  obj := fun i h ⟨x, y, st⟩ c hc => by
    have e' : c = z ∨ c = TI ∨ c = TO ∨ c = i1 ∨ c = i2 := by simpa using hc
    rcases e' with rfl | rfl | rfl | rfl | rfl
    · exact ⟨_, st.hz, fun v q => nomatch q⟩
    · exact ⟨_, st.hTI, fun v q => nomatch q⟩
    · exact ⟨_, st.hTO, fun v q => nomatch q⟩
    · exact st.h1.obj
    · exact st.h2.obj
  keep := fun i h h' ⟨x, y, st⟩ k => ⟨x, y, k z (by simp) _ st.hz, k TI (by simp) _ st.hTI, k TO (by simp) _ st.hTO, st.h1.moved fun o q => k i1 (by simp) o q, st.h2.moved fun o q => k i2 (by simp) o q⟩
  item := by
    intro X hP hw hK hc i pins s σ H E I hf st hg
    subst hP hw hK
    obtain ⟨x0, y0, st⟩ := st
    obtain ⟨xs, ys, x, y, hqx, hqy, hx, hy⟩ := hg
    obtain ⟨its, rv, p, _⟩ := hqx.seq I
    obtain ⟨its2, rv2, p2, _⟩ := hqy.seq I
    obtain ⟨u, hu, ru⟩ := rv.get hx
    obtain ⟨u2, hu2, ru2⟩ := rv2.get hy
    have zl : z < s.heap.objs.size := Heap.lt_size st.hz
    refine nextZip_item D st p p2 (x := u) (y := u2) (by simpa using hu) (by simpa using hu2) fun h' st' hT hsz hk => ?_
    refine ⟨_, rfl, wpAny_letOwnedTupleGo_zip (s := { s with heap := h' }) st'.hz fun h'' z'' sb => ?_⟩
    have hT2 : h''.get? s.heap.objs.size = some { cls := .type "tuple", data := .seq #[u, u2] } := (sb.2 _ (Nat.ne_of_gt zl)).trans hT
    have new : ObjOk X.prog X.w (upd H s.heap.objs.size (.tup [x, y])) h'' s.heap.objs.size (.tup [x, y]) := ⟨by show 2 ≤ sizeLine; decide, [u, u2], .cons ru (.cons ru2 .nil), ⟨_, hT2, rfl, _, rfl⟩⟩
    have I1 : Inv X pins σ (upd H s.heap.objs.size (.tup [x, y])) { s with heap := h'' } :=
      I.turnedNew (t' := s.toks) (ch := [z, TI, TO, i1, i2]) (fun c o hb q => (sb.2 c (fun q' => hb (by simp [q']))).trans (hk c o (fun q' => hb (by simp [q'])) (fun q' => hb (by simp [q'])) (fun q' => hb (by simp [q'])) (fun q' => hb (by simp [q'])) q)) hf (Nat.le_refl _) new
    refine ⟨.ref s.heap.objs.size, _, I1, rfl, ⟨_, x, y, rfl, I.hok.fresh (Nat.le_refl _), rfl, fun l hl => by rw [hl.inj I hqx]; exact hx, fun l hl => by rw [hl.inj I hqy]; exact hy⟩, ⟨u, u2, z'', ?_, ?_, ?_, ?_⟩, fun c hcm => ?_⟩
    · exact (sb.2 _ D.TIz).trans st'.hTI
    · exact (sb.2 _ D.TOz).trans st'.hTO
    · exact st'.h1.moved fun o q => (sb.2 _ D.i1z).trans q
    · exact st'.h2.moved fun o q => (sb.2 _ D.i2z).trans q
    · have hlt : c < s.heap.objs.size := by
        have e' : c = z ∨ c = TI ∨ c = TO ∨ c = i1 ∨ c = i2 := by simpa using hcm
        rcases e' with rfl | rfl | rfl | rfl | rfl
        · exact zl
        · exact Heap.lt_size st.hTI
        · exact Heap.lt_size st.hTO
        · obtain ⟨_, e1, _⟩ := st.h1.obj; exact Heap.lt_size e1
        · obtain ⟨_, e2, _⟩ := st.h2.obj; exact Heap.lt_size e2
      rw [upd_ne (Nat.ne_of_lt hlt)]
      exact (hf c hcm).1
  done := by
    intro X hP hw hK hc i pins s σ H E I hf st hg
    subst hP hw hK
    obtain ⟨x0, y0, st⟩ := st
    obtain ⟨xs, ys, hqx, hqy, hend⟩ := hg
    obtain ⟨its, rv, p, _⟩ := hqx.seq I
    obtain ⟨its2, rv2, p2, _⟩ := hqy.seq I
    have n1 := rv.length
    have n2 := rv2.length
    have he : its.toArray[i]? = none ∨ its2.toArray[i]? = none := by
      rcases hend with q | q
      · exact .inl (by simp; omega)
      · exact .inr (by simp; omega)
    exact nextZip_end (I.ok.hd hc) D st p p2 he fun h' hk => ⟨rfl, I.turnedL (t' := s.toks) (ch := [z, TI, TO, i1, i2]) (fun c o hb q =>
      hk c o (fun q' => hb (by simp [q'])) (fun q' => hb (by simp [q'])) (fun q' => hb (by simp [q'])) (fun q' => hb (by simp [q'])) q) hf⟩
  self := fun A i s Q E ⟨x, y, st⟩ h => wpAny_pyIter_zip st.hz h
/-- zip(a tuple, a list) -/
def iZipTL (K : PySem.W.Frag) (ta : TA) : TI := fun σ H R => ta σ H fun vs H1 => ∃ a b xs ys, vs = [.ref a, .ref b] ∧ SqT K H1 a xs ∧ SqL K H1 b ys ∧ R (Itb K true false a b) H1
theorem pi_zipTL {X : Cx} {e e2 : Expr} {ta : TA} {p pos tpos : Pos} {elts : List Expr} {kk : Nat} (hg : Gl X "zip") (hm : X.mg "zip" = none) (ha : PA X [e, e2] ta)
    (hs : starEach [e, e2] X.env = (false, eval e X.env) :: starEach [e2] X.env := by rfl) (hpl : (backTo pos (starEach [e2] X.env)).any (·.1) = false := by rfl) :
    PI X (.Tuple elts kk tpos) (.Call (.Name "zip" p) [e, e2] [] pos) (iZipTL X.K ta) := by
  refine ⟨fun pins s σ H R I h => ?_⟩
  refine Call_ (ld_blt I hg hm PyProof.Rows.boot_zip (PyProof.Rows.callWith_type1 (thn (ha.run pos pins s σ H _ I h) fun us s1 ⟨vs, H1, I1, r1, q1⟩ => ?_) hs hpl))
  obtain ⟨a, b, xs, ys, ex, hqx, hqy, q⟩ := q1
  subst ex
  cases r1 with
  | cons r rr =>
    cases rr with
    | cons r' rr =>
      cases rr
      cases r
      cases r'
      obtain ⟨its, _, p1, lt1⟩ := SqB.seq (k := true) I1 hqx
      obtain ⟨its2, _, p2, lt2⟩ := SqB.seq (k := false) I1 hqy
      refine call_zipB p1 p2 ⟨rfl, rfl⟩ fun h' st hk => wpAny_pyIter_zip st.hz ?_
      have I2 : Inv X pins σ H1 { s1 with heap := h' } := I1.kept (t' := s1.toks) hk
      refine ⟨s1.heap.objs.size + 4, [s1.heap.objs.size + 4, s1.heap.objs.size + 2, s1.heap.objs.size + 3, s1.heap.objs.size, s1.heap.objs.size + 1], _, _, H1, rfl, I2, turn_zipB (PySem.W.ktu_apart s1.heap.objs.size a b lt1 lt2), ⟨_, _, st⟩, fun c hc => ?_, q⟩
      have hle : s1.heap.objs.size ≤ c := by
        have e' : c = s1.heap.objs.size + 4 ∨ c = s1.heap.objs.size + 2 ∨ c = s1.heap.objs.size + 3 ∨ c = s1.heap.objs.size ∨ c = s1.heap.objs.size + 1 := by simpa using hc
        show (s1.heap.objs.size : Nat) ≤ c
        rcases e' with e | e | e | e | e <;> (rw [e]; first | exact Nat.le_add_right _ _ | exact Nat.le_refl _)
      exact I1.fpOk hle (I1.hok.fresh hle)
section
variable {K : PySem.W.Frag} {ca : Nat → Addr} {F F' : Addr → Prop} {S S' : Store} {H H' : Hp} {B : Bc} {d : D} {v : V} {l : List D} {X : Cx} {a b : Expr} {pos : Pos} {n : Nat}
def iZt (dt : DA) : DI := fun σ S Q => dt σ S fun xs S1 => match xs with
  | [.tup l, y] => ofO (asL S1 y) fun m => Q (zipD l m) (fun S' => keepL y m S') S1
  | _ => False
theorem sim_iZt {dt : DA} {tt : TA} (h : SimA K B n dt tt) : SimI K B (iZt dt) (iZipTL K tt) := by
  intro F σ S σV H Q R' R q P
  refine h F σ S σV H _ _ R q fun xs vs F1 S1 H1 f1 r1 d1 _ q1 => ?_
  match xs, vs, d1, q1 with
  | [.tup l, y], [v, w], .cons dx (.cons dy .nil), q1 =>
    obtain ⟨m, e', q1⟩ := ofO_ex q1
    cases dx with
    | @tup a ws _ hs ql =>
      obtain ⟨b, us, ew, hs2, qm⟩ := asL_rel r1 dy e'
      refine ⟨a, b, ws, us, by rw [ew], hs, hs2, P _ _ F1 S1 H1 _ f1 r1 ?_ q1⟩
      intro i F' S' H' f' r' kp
      have hs' := fr_t r1 f' hs
      have ql' := ql.mono r1 f'
      obtain ⟨b', us', ew', ht', qm'⟩ := asL_rel r' (dy.mono r1 f') kp
      rw [ew] at ew'
      cases ew'
      refine ⟨fun d ed => ?_, fun hl => ⟨ws, us', hs', ht', by rw [← ql'.length, ← qm'.length]; exact zipD_end l m i hl⟩⟩
      obtain ⟨z, z2, ez, ez2, rfl⟩ := zipD_get l m i ed
      obtain ⟨u, eu, ru⟩ := ql'.get ez
      obtain ⟨u2, eu2, ru2⟩ := qm'.get ez2
      refine ⟨⟨ws, us', u, u2, hs', ht', eu, eu2⟩, fun x H'' y' => ?_⟩
      obtain ⟨T, p, q, rfl, hT, rfl, y1, y2⟩ := y'
      have e2 := y1 ws hs'
      rw [eu] at e2
      cases e2
      have e3 := y2 us' ht'
      rw [eu2] at e3
      cases e3
      exact ⟨fr_newD hT, r'.newD hT, .tup (SqT.of upd_same) (.cons (ru.mono r' (fr_newD hT)) (.cons (ru2.mono r' (fr_newD hT)) .nil))⟩
theorem pdi_zipT {elts : List Expr} {kk : Nat} {tpos p : Pos} {dt : DA} (hg : Gl X "zip") (hm : X.mg "zip" = none) (ha : PDA X B [a, b] n dt) (hs : starEach [a, b] X.env = (false, eval a X.env) :: starEach [b] X.env := by rfl) (hpl : (backTo pos (starEach [b] X.env)).any (·.1) = false := by rfl) :
    PDI X B (.Tuple elts kk tpos) (.Call (.Name "zip" p) [a, b] [] pos) (iZt dt) := ⟨_, pi_zipTL hg hm pa_w hs hpl, sim_iZt ha⟩
@[simp] theorem r_iZt {σ : DEnv} {dt : DA} {R : List D → (Store → Prop) → Store → Prop} : iZt dt σ S R = dt σ S fun xs S1 => match xs with
  | [.tup l, y] => ofO (asL S1 y) fun m => R (zipD l m) (fun S' => keepL y m S') S1
  | _ => False := propext Iff.rfl
@[simp] theorem r_iZp {σ : DEnv} {dt : DA} {R : List D → (Store → Prop) → Store → Prop} : iZp dt σ S R = dt σ S fun xs S1 => match xs with
  | [x, y] => ofO (asL S1 x) fun l => ofO (asL S1 y) fun m => R (zipD l m) (fun S' => keepL x l S' ∧ keepL y m S') S1
  | _ => False := propext Iff.rfl
end
end DL
/-! DL16: dicts displayed with texts as keys. -/
namespace DL
open PySem PySem.Spec PyProof.Rows L2
section
variable {K : PySem.W.Frag} {ca : Nat → Addr} {F F' : Addr → Prop} {S S' : Store} {H H' : Hp} {B : Bc} {Q : QE} {QV : VK} {X : Cx} {pos : Pos} {v : Expr} {da : DE}
def dPairs : List (String × DE) → DEnv → Store → (List (String × D) → Store → Prop) → Prop
  | [], _, S, Q => Q [] S
  | (k, d) :: r, σ, S, Q => d σ S fun x S1 => dPairs r σ S1 fun ps S2 => Q ((k, x) :: ps) S2
def pvs (kv : List (Key × V)) : List (V × V) := kv.map fun p => (kV p.1, p.2)
def SimP (K : PySem.W.Frag) (B : Bc) (n : Nat) (ps : List (String × DE)) (trs : List (TE × TE)) : Prop := ∀ F σ S σV H (Q : List (String × D) → Store → Prop) (QV : List (V × V) → Hp → Prop), Rel K B F σ S σV H → dPairs ps σ S Q →
  (∀ kd kv F' S' H', Fr F S H F' S' H' → RelS K B.ca F' S' H' → RelKs K F' H' kd kv → kd.map (·.1) = ps.map (·.1) → Q kd S' → QV (pvs kv) H') → tPairs trs σV H QV
def PDP (X : Cx) (B : Bc) (pos : Pos) (keys : List (Option Expr)) (values : List Expr) (ps : List (String × DE)) : Prop := ∃ trs, PPs X pos keys values trs ∧ SimP X.K B keys.length ps trs
theorem pdp_nil : PDP X B pos [] [] [] := ⟨[], pps_nil, fun F σ S σV H Q QV R q P => P [] [] F S H Fr.refl R.st .nil rfl q⟩
theorem pdp_cons {k : String} {j} {kp : Pos} {ks : List (Option Expr)} {vs : List Expr} {ps : List (String × DE)} (hv : PD X B v da) (hr : PDP X B pos ks vs ps) : PDP X B pos (some (.Constant (.str (Str.ofString k)) j kp) :: ks) (v :: vs) ((k, da) :: ps) := by
  obtain ⟨trs, h1, h2⟩ := hr
  refine ⟨_, pps_cons pe_str pe_w h1, fun F σ S σV H Q QV R q P => ?_⟩
  show tPairs ((_, wpE X v) :: trs) σV H QV
  refine hv F σ S σV H _ _ R q fun x vv F1 S1 H1 f1 r1 d1 q1 => ?_
  refine h2 F1 σ S1 σV H1 _ _ (R.step f1 r1) q1 fun kd kv F2 S2 H2 f2 r2 d2 e2 q2 => ?_
  exact P ((k, x) :: kd) ((.inr (Str.ofString k), vv) :: kv) F2 S2 H2 (f1.trans f2) r2 (.cons (d1.mono r1 f2) d2) (by rw [List.map_cons, List.map_cons, e2]) q2
/-- a dict that stays as it is -/
def dDicD (ps : List (String × DE)) : DE := fun σ S Q => dPairs ps σ S fun kd S1 => Q (.dic kd) S1
theorem putK_new {kv : List (Key × V)} {k : Key} {x : V} (h : k ∉ kv.map (·.1)) : putK kv k x = kv ++ [(k, x)] := by
  induction kv with
  | nil => rfl
  | cons p r ih =>
    obtain ⟨k', x'⟩ := p
    have h1 : ¬ k' = k := fun e => h (by simp [e])
    have h2 : k ∉ r.map (·.1) := fun z => h (List.mem_cons_of_mem _ z)
    unfold putK at ih ⊢
    simp only [List.map_cons, List.mem_cons, not_or] at h
    have := ih h2
    simp_all
theorem merge_new : ∀ {more kv : List (Key × V)}, ((kv ++ more).map (·.1)).Nodup → mergeK kv more = kv ++ more
  | [], kv, _ => by show kv = _; simp
  | p :: more, kv, h => by
    have h1 : p.1 ∉ kv.map (·.1) := by
      rw [List.map_append, List.map_cons, List.nodup_append] at h
      exact fun z => h.2.2 _ z p.1 (by simp) rfl
    show mergeK (putK kv p.1 p.2) more = _
    rw [putK_new h1, merge_new (by simpa using h)]
    simp
theorem ks_nodup {kd : List (String × D)} {kv : List (Key × V)} (q : RelKs K F H kd kv) (h : (kd.map (·.1)).Nodup) : (kv.map (·.1)).Nodup := by
  rw [ks_keys q]
  rw [List.map_map]
  show List.Pairwise _ _
  rw [List.pairwise_map]
  exact List.Pairwise.imp (fun hne e => hne (ofS_inj (Sum.inr.inj e))) h
theorem sim_dicD {ps : List (String × DE)} {n : Nat} {trs : List (TE × TE)} (hn : ps.length ≤ 15) (hnd : (ps.map (·.1)).Nodup) (h : SimP K B n ps trs) : SimE K B (dDicD ps) (tDisp trs) := by
  intro F σ S σV H Q QV R q P p hp
  have npF : ¬ F p := fun z => by obtain ⟨_, e⟩ := R.st.fz p z; rw [hp] at e; cases e
  have f0 : Fr F S H F S (upd H p (.dK [])) := fr_newD hp
  have r0 := R.st.newD (u := .dK []) hp
  refine h F σ S σV _ _ _ (R.step f0 r0) q fun kd kv F1 S1 H1 f1 r1 d1 e1 q1 => ?_
  obtain ⟨h1, n1, i1⟩ := f1 p _ (upd_same) (R.st.free hp)
  have np1 : ¬ F1 p := fun z => npF (i1.mp z)
  have hlen : kv.length ≤ 15 := by
    rw [← ks_len d1]
    have := congrArg List.length e1
    rw [List.length_map, List.length_map] at this
    omega
  refine ⟨h1, kv, rfl, hlen, ?_⟩
  have hkn : (kd.map (·.1)).Nodup := by rw [e1]; exact hnd
  rw [merge_new (kv := []) (by simpa using ks_nodup d1 hkn), List.nil_append]
  obtain ⟨r2, m2⟩ := hidden_step (w' := .dK kv) r1 h1 n1 np1 (fun _ z => by cases z) (fun _ _ z => by cases z)
  obtain ⟨r3, m3⟩ := r2.light (p := p) upd_same n1
  have f2 : Fr F S H F1 S1 (upd H1 p (.dK kv)) := fun a o e n => by
    obtain ⟨g1, g2, g3⟩ := (f0.trans f1) a o e n
    exact ⟨by rw [upd_ne (ne_of_none e hp)]; exact g1, g2, g3⟩
  have allk : ∀ {d : List (String × D)} {v : List (Key × V)}, RelKs K F1 H1 d v → RelKs K (DL.ins F1 p) (upd H1 p (.dK kv)) d v := fun {d v} q => by
    induction d generalizing v with
    | nil => cases q; exact .nil
    | cons x xs ih => cases q with | cons a q => exact .cons (m3 (m2 a)) (ih q)
  exact P _ _ _ S1 _ (fr_light f2 hp) r3 (.dic upd_same (.inl rfl) (allk d1)) q1
theorem pd_dicD {keys : List (Option Expr)} {values : List Expr} {ps : List (String × DE)} (h : PDP X B pos keys values ps) (hn : ps.length ≤ 15 := by decide) (hnd : (ps.map (·.1)).Nodup := by decide) (hall : keys.all (·.isSome) = true := by rfl) (hl : keys.length = values.length := by rfl) (h0 : keys ≠ [] := by simp)
    (h15 : keys.length ≤ 15 := by decide) : PD X B (.Dict keys values pos) (dDicD ps) := by
  obtain ⟨trs, h1, h2⟩ := h
  exact pd_of (pe_disp h1 hall hl h0 h15) (sim_dicD hn hnd h2)
@[simp] theorem r_dicD {σ : DEnv} {ps : List (String × DE)} : dDicD ps σ S Q = dPairs ps σ S fun kd S1 => Q (.dic kd) S1 := propext Iff.rfl
@[simp] theorem r_pairs0 {σ : DEnv} {R : List (String × D) → Store → Prop} : dPairs [] σ S R = R [] S := propext Iff.rfl
@[simp] theorem r_pairs1 {σ : DEnv} {k : String} {d : DE} {r : List (String × DE)} {R : List (String × D) → Store → Prop} : dPairs ((k, d) :: r) σ S R = d σ S fun x S1 => dPairs r σ S1 fun ps S2 => R ((k, x) :: ps) S2 := propext Iff.rfl
end
end DL
/-! DL17: a list is extended by a tuple, or by any list. -/
namespace DL
open PySem PySem.Spec PyProof.Rows L2
theorem ext_tupM (l : Addr) (its : Array Value) (n : Nat) (b : Addr) (its2 : Array Value) (h0 : ¬(!its.isEmpty && Builtin.List.listTooLong (its.size + its2.size)) = true) (h1 : its.size ≤ sizeLine) (h2 : its.size + its2.size ≤ sizeLine + 1) :
    Meets (Builtin.«list.extend» ⟨[.ref l, .ref b], []⟩) (fun _ R s => s.heap.get? l = some { cls := .type "list", dict := none, data := .seq its n, slots := #[] } ∧ s.heap.IsTuple b its2 ∧ R (.ok (.ret Value.none)) { s with heap := s.heap.update l (Obj.mapSeq fun x => x ++ its2), toks := s.toks }) :=
  .of_wp fun prog w A R s h => by
    obtain ⟨hp, g, d, tk, os⟩ := s
    obtain ⟨hl, hb, h⟩ := h
    obtain ⟨⟨oc, od, odt, osl⟩, e, hc, n2, hdt⟩ := hb
    cases hc
    cases hdt
    have z1 := AutoSeq1.idx_int
    have z2 := AutoSeq1.sub_tuple_tuple
    have z3 := AutoSeq1.sub_list_list
    have z4 := AutoSeq1.sub_tuple_list
    have z5 := AutoSeq1.sub_list_tuple
    have hz' : (its ++ its2).size ≤ sizeLine + 1 := by rw [Array.size_append]; exact h2
    wp_walk using (wpAny_updateSeq hl rfl (hz := h1) (_hz' := hz')), AutoSeq1.wpAny_loadPart' hl, AutoSeq1.wpAny_loadPart' e
    exact ⟨_, rfl, h⟩
def rExtendT (K : PySem.W.Frag) : V → List V → Hp → VK → Prop := fun x vs H Q => ∃ l b xs zs, x = .ref l ∧ vs = [.ref b] ∧ H l = some (.lst xs) ∧ SqT K H b zs ∧ xs.length + zs.length ≤ sizeLine ∧ Q .non (upd H l (.lst (xs ++ zs)))
theorem mt_extendT {X : Cx} : MtM X "list.extend" (rExtendT X.K) := by
  intro pins s σ H x vs v us Q I rx rv h
  obtain ⟨l, b, xs, zs, rfl, rfl, hH, hB, hz, q⟩ := h
  cases rx
  obtain ⟨u, rfl, ru⟩ := rv.one
  cases ru
  obtain ⟨z, its, n, r, hl, e⟩ := I.lstM hH
  obtain ⟨its2, r2, p2, _⟩ := I.tuple hB
  have hl2 : zs.length = its2.length := r2.length
  have hsz : its.toArray.size + its2.toArray.size ≤ sizeLine := by rw [List.size_toArray, List.size_toArray]; omega
  have hlong : ¬ (!its.toArray.isEmpty && Builtin.List.listTooLong (its.toArray.size + its2.toArray.size)) = true := by
    have : Builtin.List.listTooLong (its.toArray.size + its2.toArray.size) = false := by
      unfold Builtin.List.listTooLong
      exact decide_eq_false (by omega)
    rw [this, Bool.and_false]
    exact Bool.false_ne_true
  refine call_meets F.slot_list_extend ⟨_, e, rfl⟩ F.entry_list_extend (F.args_list_extend_2 _ _) (ext_tupM l its.toArray n b its2.toArray hlong (by omega) (by omega)) ⟨e, p2, ?_⟩
  refine ⟨.non, _, I.lset (its' := its ++ its2) hH e (by simp) (r.append r2) ?_, rfl, q⟩
  rw [List.length_append]
  exact hz
section
variable {K : PySem.W.Frag} {ca : Nat → Addr} {F F' : Addr → Prop} {S S' : Store} {H H' : Hp} {Q : QE} {l m : List D} {p : Addr}
/-- l.extend(a tuple) -/
def mExtT : DM := fun x xs S Q => match x, xs with
  | .obj p, [y] => match S p with
    | some (.lst l) => match y with
      | .tup m => l.length + m.length ≤ lim ∧ Q .non (put S p (.lst (l ++ m)))
      | _ => False
    | _ => False
  | _, _ => False
theorem vrm_extT : VRM K ca mExtT (rExtendT K) := by
  intro F S H x v xs vs Q QV r rx rxs q P
  cases rx with
  | obj p =>
    match xs, vs, rxs, q with
    | [y], [w], .cons ry .nil, q =>
      unfold mExtT at q
      dsimp only at q
      obtain ⟨l, hS, q⟩ := obj_at (u := Ob.lst []) q
      cases ry with
      | @tup c us m hb qm =>
        obtain ⟨_, ws, hH, ql⟩ := r.ob p _ hS
        refine ⟨p, c, ws, us, rfl, rfl, hH, hb, by rw [← ql.length, ← qm.length, lim_eq]; exact q.1, ?_⟩
        have fw := fr_write (F := F) (H := H) (o' := .lst (l ++ m)) (u := .lst (ws ++ us)) hS
        have rw2 := r.write (o' := .lst (l ++ m)) (u := .lst (ws ++ us)) hS ⟨_, upd_same, (ql.append qm).mono r fw⟩
        exact P _ _ F _ _ fw rw2 .non q.2
      | _ => exact q.elim
    | [], _, _, q => exact q.elim
    | _ :: _ :: _, _, _, q => exact q.elim
  | _ => exact q.elim
theorem extT_obj (h : S p = some (.lst l)) : mExtT (.obj p) [.tup m] S Q = (l.length + m.length ≤ lim ∧ Q .non (put S p (.lst (l ++ m)))) := by simp [mExtT, h]
end
end DL
/-! DL18: three names at once. -/
namespace DL
open PySem PySem.Spec PyProof.Rows L2
section
variable {X : Cx} {B : Bc} {a b c : Expr} {pos : Pos} {σ : DEnv} {S : Store} {D' : DEnds}
def dPar3 (i j l : Nat) (dt : DA) : DS := fun D σ S => dt σ S fun xs S1 => match xs with
  | [x, y, z] => D.nx (((σ.set i (some x)).set j (some y)).set l (some z)) S1
  | _ => False
theorem pds_par3 (i j l : Nat) {x y z : Str} {dt : DA} {px py pz pt : Pos} {kt k2 pt2} (hc : X.calm = true) (hN : X.N.Nodup) (hij : i ≠ j) (hil : i ≠ l) (hjl : j ≠ l) (ha : PDA X B [a, b, c] 3 dt)
    (hx : X.env.scope.names.lookup x = some .local) (hy : X.env.scope.names.lookup y = some .local) (hz : X.env.scope.names.lookup z = some .local) (hi : X.N[i]? = some x := by rfl) (hj : X.N[j]? = some y := by rfl) (hl : X.N[l]? = some z := by rfl)
    (hw : swappedStores [.Tuple [.Name x px, .Name y py, .Name z pz] kt pt] (.Tuple [a, b, c] k2 pt2) X.env = pure (some [x, y, z]) := by rfl)
    (hs : swapsWithSole [.Tuple [.Name x px, .Name y py, .Name z pz] kt pt] (.Tuple [a, b, c] k2 pt2) pos.line X.env = pure false := by rfl) :
    PDS X B (.Assign [.Tuple [.Name x px, .Name y py, .Name z pz] kt pt] (.Tuple [a, b, c] k2 pt2) pos) (dPar3 i j l dt) := by
  refine pds_of (ps_par3 hc hN hi hj hl hij hil hjl hx hy hz pa_w hw hs) fun F σ S σV H D V R q P => ?_
  refine ha F σ S σV H _ _ R q fun xs vs F1 S1 H1 f1 r1 d1 l1 q1 => ?_
  match xs, vs, d1, q1 with
  | [x, y, z], [u, v, w], .cons r1' (.cons r2' (.cons r3' .nil)), q1 =>
    exact ⟨u, v, w, rfl, P.nx F1 _ S1 _ H1 f1 ((((R.step f1 r1).set r1').set r2').set r3') q1⟩
@[simp] theorem r_par3 {i j l : Nat} {dt : DA} : dPar3 i j l dt D' σ S = dt σ S fun xs S1 => match xs with
  | [x, y, z] => D'.nx (((σ.set i (some x)).set j (some y)).set l (some z)) S1
  | _ => False := propext Iff.rfl
end
end DL
/-! DS1: transformers by computation. -/
namespace DL
open PySem PySem.Spec PyProof.Rows L2
section
variable {σ : DEnv} {S : Store} {Q : QE} {x y : D} {l m : List D} {p q : Addr} {o : Ob} {i j : Int} {E : XQ} {D' : DEnds} {s t : String}
@[simp] theorem r_seq {a b : DS} : dSeq a b D' σ S = a { D' with nx := b D' } σ S := propext Iff.rfl
@[simp] theorem r_next : dNext D' σ S = D'.nx σ S := propext Iff.rfl
@[simp] theorem r_brk : dBrk D' σ S = D'.bk σ S := propext Iff.rfl
@[simp] theorem r_cnt : dCnt D' σ S = D'.ct σ S := propext Iff.rfl
@[simp] theorem r_drop {a : DE} : dDrop a D' σ S = a σ S fun _ S1 => D'.nx σ S1 := propext Iff.rfl
@[simp] theorem r_ret {a : DE} : dRet a D' σ S = a σ S D'.rt := propext Iff.rfl
@[simp] theorem r_retN : dRetN D' σ S = D'.rt .non S := propext Iff.rfl
@[simp] theorem r_asg {a : DE} {g : DG} : dAsg a g D' σ S = a σ S fun x S1 => g x σ S1 D'.nx := propext Iff.rfl
@[simp] theorem r_ifS {c : DT} {a b : DS} : dIfS c a b D' σ S = c σ S fun k S1 => if k = true then a D' σ S1 else b D' σ S1 := propext Iff.rfl
@[simp] theorem r_for {it : DI} {g : DG} {tb : DS} : dFor it g tb D' σ S = it σ S fun L keep S1 => forL keep g tb L D' σ S1 := propext Iff.rfl
@[simp] theorem r_gN {n : Nat} {R : DEnv → Store → Prop} : gN n x σ S R = R (σ.set n (some x)) S := propext Iff.rfl
@[simp] theorem r_gsN {R : DEnv → Store → Prop} : gsN l σ S R = (l = [] ∧ R σ S) := propext Iff.rfl
@[simp] theorem r_gsC {g : DG} {gs : DGs} {R : DEnv → Store → Prop} : gsC g gs (x :: l) σ S R = g x σ S fun σ1 S1 => gs l σ1 S1 R := propext Iff.rfl
@[simp] theorem r_gTp {n : Nat} {gs : DGs} {R : DEnv → Store → Prop} : gTp n gs (.tup l) σ S R = (l.length = n ∧ gs l σ S R) := propext Iff.rfl
@[simp] theorem r_gSb {a b : DE} {R : DEnv → Store → Prop} : gSb a b stD x σ S R = a σ S fun o S1 => b σ S1 fun i S2 => stD o i x S2 fun S3 => R σ S3 := propext Iff.rfl
@[simp] theorem r_var {n : Nat} : dVar n σ S Q = (match σ[n]? with | some (some v) => Q v S | _ => False) := propext Iff.rfl
@[simp] theorem r_C : dC x σ S Q = Q x S := propext Iff.rfl
@[simp] theorem r_op {r : DR2} {a b : DE} : dOp r a b σ S Q = a σ S fun x S1 => b σ S1 fun y S2 => r x y S2 Q := propext Iff.rfl
@[simp] theorem r_un {r : DR1} {a : DE} : dUn r a σ S Q = a σ S fun x S1 => r x S1 Q := propext Iff.rfl
@[simp] theorem r_nil {R : List D → Store → Prop} : dNil σ S R = R [] S := propext Iff.rfl
@[simp] theorem r_cons {a : DE} {b : DA} {R : List D → Store → Prop} : dCons a b σ S R = a σ S fun x S1 => b σ S1 fun xs S2 => R (x :: xs) S2 := propext Iff.rfl
@[simp] theorem r_tup {a : DA} : dTup a σ S Q = a σ S fun xs S1 => Q (.tup xs) S1 := propext Iff.rfl
@[simp] theorem r_lst {a : DA} : dLst a σ S Q = a σ S fun xs S1 => Q (.lst xs) S1 := propext Iff.rfl
@[simp] theorem r_lstM {a : DA} : dLstM a σ S Q = a σ S fun xs S1 => ∀ p, S1 p = none → Q (.obj p) (put S1 p (.lst xs)) := propext Iff.rfl
@[simp] theorem r_dicM : dDicM σ S Q = ∀ p, S p = none → Q (.obj p) (put S p (.dic [])) := propext Iff.rfl
@[simp] theorem r_frz {a : DE} : dFrz a σ S Q = a σ S fun x S1 => match x with
  | .obj p => match S1 p with
    | some (.lst l) => Q (.lst l) (rid S1 p)
    | some (.dic l) => Q (.dic l) (rid S1 p)
    | _ => False
  | _ => False := propext Iff.rfl
@[simp] theorem r_cb {r : DC} {a : DA} : dCB r a σ S Q = a σ S fun xs S1 => r xs S1 Q := propext Iff.rfl
@[simp] theorem r_bm {T : String} {r : DM} {a : DE} {b : DA} : dBM T r a b σ S Q = a σ S fun x S1 => tyD T S1 x ∧ b σ S1 fun xs S2 => r x xs S2 Q := propext Iff.rfl
@[simp] theorem r_bm0 {T : String} {r : DM} {a : DE} : dBM0 T r a σ S Q = a σ S fun x S1 => tyD T S1 x ∧ r x [] S1 Q := propext Iff.rfl
@[simp] theorem r_call {w : DSp} {ED : DX → DEnv → Store → Prop} {a : DA} : dCall w ED a σ S Q = a σ S fun ds S1 => w ds S1 Q fun x S2 => ED x σ S2 := propext Iff.rfl
@[simp] theorem r_call0 {w : DSp} {ED : DX → DEnv → Store → Prop} : dCall0 w ED σ S Q = w [] S Q fun x S2 => ED x σ S2 := propext Iff.rfl
@[simp] theorem r_meth {c : Nat} {mm : String} {w : DSp} {ED : DX → DEnv → Store → Prop} {a : DE} {b : DA} : dMeth c mm w ED a b σ S Q = a σ S fun x S1 => ofO (insD S1 c x) fun z => z.2.lookup mm = none ∧ b σ S1 fun ds S2 => w (x :: ds) S2 Q fun y S3 => ED y σ S3 := propext Iff.rfl
@[simp] theorem r_make {c : Nat} {w : DSp} {ED : DX → DEnv → Store → Prop} {b : DA} : dMake c w ED b σ S Q = b σ S fun ds S1 => ∀ p, S1 p = none → w (.obj p :: ds) (put S1 p (.ins c [])) (fun v S2 => v = .non ∧ Q (.obj p) S2) fun y S3 => ED y σ S3 := propext Iff.rfl
@[simp] theorem r_fld {c : Nat} {f : String} {a : DE} : dFld c f a σ S Q = a σ S fun x S1 => ofO (insD S1 c x) fun z => ofO (z.2.lookup f) fun y => Q y S1 := propext Iff.rfl
@[simp] theorem r_putF {c : Nat} {f : String} {a b : DE} : dPutF c f a b D' σ S = b σ S fun y S1 => a σ S1 fun x S2 => ofO (insD S2 c x) fun z => z.2.length < 1000 ∧ D'.nx σ (put S2 z.1 (.ins c (putFD f y z.2))) := propext Iff.rfl
@[simp] theorem r_test {a : DE} {R : Bool → Store → Prop} : dTest a σ S R = a σ S fun x S1 => match x with | .bl k => R k S1 | _ => False := propext Iff.rfl
@[simp] theorem r_and {a b : DT} {R : Bool → Store → Prop} : dAnd a b σ S R = a σ S fun c S1 => if c = true then b σ S1 R else R false S1 := propext Iff.rfl
@[simp] theorem r_or {a b : DT} {R : Bool → Store → Prop} : dOr a b σ S R = a σ S fun c S1 => if c = true then R true S1 else b σ S1 R := propext Iff.rfl
@[simp] theorem r_not {a : DT} {R : Bool → Store → Prop} : dNot a σ S R = a σ S fun c S1 => R (!c) S1 := propext Iff.rfl
@[simp] theorem r_tru {a : DE} {R : Bool → Store → Prop} : dTru a σ S R = a σ S fun x S1 => ofO (truD S1 x) fun k => R k S1 := propext Iff.rfl
@[simp] theorem r_andV {a b : DE} : dAndV a b σ S Q = a σ S fun x S1 => match x with
  | .bl true => b σ S1 Q
  | .bl false => Q (.bl false) S1
  | _ => False := propext Iff.rfl
@[simp] theorem r_orV {a b : DE} : dOrV a b σ S Q = a σ S fun x S1 => match x with
  | .bl true => Q (.bl true) S1
  | .bl false => b σ S1 Q
  | _ => False := propext Iff.rfl
@[simp] theorem r_notV {a : DE} : dNotV a σ S Q = a σ S fun x S1 => match x with
  | .bl c => Q (.bl (!c)) S1
  | _ => False := propext Iff.rfl
@[simp] theorem r_if {c : DT} {a b : DE} : dIf c a b σ S Q = c σ S fun k S1 => if k = true then a σ S1 Q else b σ S1 Q := propext Iff.rfl
@[simp] theorem r_par {n k : Nat} {a : DA} : dPar n k a D' σ S = a σ S fun xs S1 => match xs with
  | [x, y] => D'.nx ((σ.set n (some x)).set k (some y)) S1
  | _ => False := propext Iff.rfl
@[simp] theorem r_kill {g : DEnv → Store → List Addr} {a : DE} : dKill g a σ S Q = a σ S fun x S1 => Q x (ridAll S1 (g σ S1)) := propext Iff.rfl
@[simp] theorem r_iL {a : DE} {R : List D → (Store → Prop) → Store → Prop} : iL a σ S R = a σ S fun x S1 => ofO (asL S1 x) fun l => R l (keepL x l) S1 := propext Iff.rfl
@[simp] theorem r_iT {a : DE} {R : List D → (Store → Prop) → Store → Prop} : iT a σ S R = a σ S fun x S1 => match x with
  | .tup l => R l (fun _ => True) S1
  | _ => False := propext Iff.rfl
@[simp] theorem r_iR1 {a : DA} {R : List D → (Store → Prop) → Store → Prop} : iR1 a σ S R = a σ S fun xs S1 => match xs with
  | [.int j] => (-(2 ^ 62) ≤ j ∧ j < 2 ^ 62) ∧ R (rangeD 0 j.toNat) (fun _ => True) S1
  | _ => False := propext Iff.rfl
@[simp] theorem r_iR2 {a : DA} {R : List D → (Store → Prop) → Store → Prop} : iR2 a σ S R = a σ S fun xs S1 => match xs with
  | [.int i, .int j] => (-(2 ^ 62) ≤ i ∧ i < 2 ^ 62 ∧ -(2 ^ 62) ≤ j ∧ j < 2 ^ 62) ∧ R (rangeD i (j - i).toNat) (fun _ => True) S1
  | _ => False := propext Iff.rfl
@[simp] theorem r_iEn {a : DA} {R : List D → (Store → Prop) → Store → Prop} : iEn a σ S R = a σ S fun xs S1 => match xs with
  | [x] => ofO (asL S1 x) fun l => R (enumD 0 l) (keepL x l) S1
  | _ => False := propext Iff.rfl
@[simp] theorem r_dLc {it : DI} {c : CT} {tt : DT} {te : DE} {vs : List Nat} : dLc it c tt te vs σ S Q = it σ S fun L keep S1 => lcL keep c.g tt te (wipeD σ vs) L [] S1 fun acc S2 => Q (.lst acc) S2 := propext Iff.rfl
@[simp] theorem r_dLcM {it : DI} {c : CT} {tt : DT} {te : DE} {vs : List Nat} : dLcM it c tt te vs σ S Q = it σ S fun L keep S1 => lcL keep c.g tt te (wipeD σ vs) L [] S1 fun acc S2 => ∀ p, S2 p = none → Q (.obj p) (put S2 p (.lst acc)) := propext Iff.rfl
@[simp] theorem r_yes {R : Bool → Store → Prop} : dYes σ S R = R true S := propext Iff.rfl
@[simp] theorem r_ctg {n : Nat} : CT.g (.one n) = gN n := rfl
@[simp] theorem r_ofO {α : Type} {v : α} {k : α → Prop} : ofO (some v) k = k v := propext Iff.rfl
@[simp] theorem r_ixI1 {k : Int} : dIx (.tup l) (.int k) S Q = ofO (atI l k) fun z => Q z S := propext Iff.rfl
@[simp] theorem r_ixI2 {k : Int} : dIx (.lst l) (.int k) S Q = ofO (atI l k) fun z => Q z S := propext Iff.rfl
@[simp] theorem r_ixI3 {k : Int} : dIx (.scr l) (.int k) S Q = ofO (atI l k) fun z => Q z S := propext Iff.rfl
@[simp] theorem r_ixO {k : Int} : dIx (.obj p) (.int k) S Q = ofO (asL S (.obj p)) fun l => ofO (atI l k) fun z => Q z S := propext Iff.rfl
@[simp] theorem r_ixK : dIx x (.str s) S Q = ofO (asK S x) fun kd => ofO (kd.lookup s) fun z => Q z S := propext Iff.rfl
@[simp] theorem r_addI : dAdd (.int i) (.int j) S Q = Q (.int (i + j)) S := propext Iff.rfl
@[simp] theorem r_addS : dAdd (.str s) (.str t) S Q = (s.length + t.length ≤ lim ∧ Q (.str (s ++ t)) S) := propext Iff.rfl
@[simp] theorem r_addL : dAdd (.lst l) (.lst m) S Q = (l.length + m.length ≤ lim ∧ Q (.lst (l ++ m)) S) := propext Iff.rfl
@[simp] theorem r_addT : dAdd (.tup l) (.tup m) S Q = (l ≠ [] ∧ l.length + m.length ≤ lim ∧ Q (.tup (l ++ m)) S) := propext Iff.rfl
@[simp] theorem r_int2 {C : Int → Int → Prop} {g : Int → Int → D} : dInt2 C g (.int i) (.int j) S Q = (C i j ∧ Q (g i j) S) := propext Iff.rfl
@[simp] theorem r_int0 {g : Int → Int → D} : dInt0 g (.int i) (.int j) S Q = Q (g i j) S := propext Iff.rfl
@[simp] theorem r_eq : dEq x y S Q = (okD (sees S x) = true ∧ okD (sees S y) = true ∧ Q (.bl (eqD (sees S x) (sees S y))) S) := propext Iff.rfl
@[simp] theorem r_ne : dNe x y S Q = (okD (sees S x) = true ∧ okD (sees S y) = true ∧ Q (.bl (!eqD (sees S x) (sees S y))) S) := propext Iff.rfl
@[simp] theorem r_see1 : sees S (.int i) = .int i := rfl
@[simp] theorem r_see2 : sees S (.str s) = .str s := rfl
@[simp] theorem r_see3 : sees S (.tup l) = .tup l := rfl
@[simp] theorem r_see4 : sees S (.lst l) = .lst l := rfl
@[simp] theorem r_see5 : sees S .non = .non := rfl
@[simp] theorem r_see6 {b : Bool} : sees S (.bl b) = .bl b := rfl
theorem see_lst (h : S p = some (.lst l)) : sees S (.obj p) = .lst l := by simp [sees, h]
@[simp] theorem r_asL1 : asL S (.lst l) = some l := rfl
@[simp] theorem r_asL2 : asL S (.scr l) = some l := rfl
theorem asL_obj (h : S p = some (.lst l)) : asL S (.obj p) = some l := by simp [asL, h]
@[simp] theorem r_asLt : asL S (.tup l) = none := rfl
@[simp] theorem r_asLi : asL S (.int i) = none := rfl
@[simp] theorem r_asLs : asL S (.str s) = none := rfl
theorem asK_obj {kd : List (String × D)} (h : S p = some (.dic kd)) : asK S (.obj p) = some kd := by simp [asK, h]
theorem asK_objL (h : S p = some (.lst l)) : asK S (.obj p) = none := by simp [asK, h]
@[simp] theorem r_asKl : asK S (.lst l) = none := rfl
@[simp] theorem r_asKd {kd : List (String × D)} : asK S (.dic kd) = some kd := rfl
@[simp] theorem r_asKs : asK S (.str s) = none := rfl
theorem insD_obj {c : Nat} {fs : List (String × D)} (h : S p = some (.ins c fs)) : insD S c (.obj p) = some (p, fs) := by simp [insD, h]
theorem tyD_lst (h : S p = some (.lst l)) : tyD "list" S (.obj p) := by simp [tyD, asL_obj h]
@[simp] theorem r_len : bLen [x] S Q = ofO (lenD S x) fun n => Q (.int n) S := propext Iff.rfl
@[simp] theorem r_lenL : lenD S (.lst l) = some l.length := rfl
theorem lenD_obj (h : S p = some (.lst l)) : lenD S (.obj p) = some l.length := by simp [lenD, asL_obj h]
@[simp] theorem r_abs : bAbs [.int i] S Q = Q (.int (if i < 0 then -i else i)) S := propext Iff.rfl
@[simp] theorem r_int : bInt [.int i] S Q = Q (.int i) S := propext Iff.rfl
theorem app_obj (h : S p = some (.lst l)) : mAppend (.obj p) [x] S Q = (l.length < lim ∧ Q .non (put S p (.lst (l ++ [x])))) := by simp [mAppend, h]
theorem st_lst {R : Store → Prop} (h : S p = some (.lst l)) : stD (.obj p) (.int i) x S R = ofO (ixN l.length i) fun j => R (put S p (.lst (l.set j x))) := by simp [stD, h]
theorem st_dic {kd : List (String × D)} {R : Store → Prop} (h : S p = some (.dic kd)) : stD (.obj p) (.str s) x S R = (kd.length < lim ∧ R (put S p (.dic (putKD s x kd)))) := by simp [stD, h]
theorem ix_nat {n k : Nat} (hk : k < n) : ixN n (k : Int) = some k := by
  unfold ixN
  rw [if_pos (by omega), if_pos (by omega)]
  simp
theorem at_nat {k : Nat} (h : l[k]? = some x) : atI l (k : Int) = some x := by
  have hk : k < l.length := by
    apply Classical.byContradiction
    intro z
    rw [List.getElem?_eq_none (by omega)] at h
    cases h
  unfold atI
  rw [ix_nat hk]
  exact h
@[simp] theorem r_tru1 {b : Bool} : truD S (.bl b) = some b := rfl
@[simp] theorem put_at : put S p o p = some o := put_same
@[simp] theorem asL_put : asL (put S p (.lst l)) (.obj p) = some l := asL_obj put_same
@[simp] theorem asK_put {kd : List (String × D)} : asK (put S p (.dic kd)) (.obj p) = some kd := asK_obj put_same
theorem ix_zero {n : Nat} (h : 0 < n) : ixN n 0 = some 0 := ix_nat h
@[simp] theorem at0 {α : Type} {a : α} {r : List α} : atI (a :: r) 0 = some a := by unfold atI; rw [ix_zero (by simp)]; rfl
@[simp] theorem at1 {α : Type} {a b : α} {r : List α} : atI (a :: b :: r) 1 = some b := by unfold atI; rw [show ixN (a :: b :: r).length 1 = some 1 from ix_nat (k := 1) (by simp)]; rfl
@[simp] theorem at2 {α : Type} {a b c : α} {r : List α} : atI (a :: b :: c :: r) 2 = some c := by unfold atI; rw [show ixN (a :: b :: c :: r).length 2 = some 2 from ix_nat (k := 2) (by simp)]; rfl
@[simp] theorem at3 {α : Type} {a b c d : α} {r : List α} : atI (a :: b :: c :: d :: r) 3 = some d := by unfold atI; rw [show ixN (a :: b :: c :: d :: r).length 3 = some 3 from ix_nat (k := 3) (by simp)]; rfl
theorem runD_eq {n : Nat} {b : DBody} {ds : List D} : runD n b ds S Q E = b (fun x _ S1 => E x S1) { nx := fun _ S1 => Q .non S1, rt := Q } (startD n ds) S := rfl
theorem lc_map {te : DE} {n : Nat} {keep : Store → Prop} {R : List D → Store → Prop} {tt : DT} (f : D → D) : ∀ {L acc : List D} {σ : DEnv}, keep S → (acc.length + L.length ≤ lim) → (∀ x ∈ L, ∀ Q, Q true S → tt (σ.set n (some x)) S Q) → (∀ x ∈ L, ∀ Q, Q (f x) S → te (σ.set n (some x)) S Q) → R (acc ++ L.map f) S → lcL keep (gN n) tt te σ L acc S R
  | [], acc, σ, hk, _, _, _, h => ⟨hk, by simpa using h⟩
  | x :: L, acc, σ, hk, hl, ht, he, h => by
    refine ⟨hk, ?_⟩
    show tt (σ.set n (some x)) S _
    refine ht x (by simp) _ ?_
    rw [if_pos rfl]
    refine he x (by simp) _ ⟨by simp at hl; omega, ?_⟩
    exact lc_map f hk (by simp at hl ⊢; omega) (fun y hy => ht y (by simp [hy])) (fun y hy => he y (by simp [hy])) (by simpa using h)
end
end DL
/-! DS2: loops by invariants, new things of the store. -/
namespace DL
open PySem PySem.Spec PyProof.Rows L2
section
variable {σ : DEnv} {S S0 S' : Store} {Q : QE} {x y : D} {l m : List D} {p q : Addr} {o : Ob} {i j : Int} {E : XQ} {D' : DEnds} {keep : Store → Prop} {g : DG} {tb : DS} {fs : List Addr} {os : List Ob}
theorem for_ind (I : List D → DEnv → Store → Prop) (hk : ∀ L σ S, I L σ S → keep S)
    (step : ∀ x r σ S (N : DEnv → Store → Prop), I (x :: r) σ S → (∀ σ S, I r σ S → N σ S) → g x σ S fun σ1 S1 => tb { D' with nx := N, ct := N, bk := D'.nx } σ1 S1)
    (fin : ∀ σ S, I [] σ S → D'.nx σ S) : ∀ {L : List D} {σ : DEnv} {S : Store}, I L σ S → forL keep g tb L D' σ S
  | [], σ, S, h => ⟨hk _ _ _ h, fin _ _ h⟩
  | x :: r, σ, S, h => ⟨hk _ _ _ h, step x r σ S _ h fun σ S h => for_ind I hk step fin h⟩
/-- the items already walked too -/
theorem for_ind2 (I : List D → List D → DEnv → Store → Prop) (L0 : List D) (hk : ∀ d L σ S, I d L σ S → keep S)
    (step : ∀ d x r σ S (N : DEnv → Store → Prop), d ++ x :: r = L0 → I d (x :: r) σ S → (∀ σ S, I (d ++ [x]) r σ S → N σ S) → g x σ S fun σ1 S1 => tb { D' with nx := N, ct := N, bk := D'.nx } σ1 S1)
    (fin : ∀ σ S, I L0 [] σ S → D'.nx σ S) {σ : DEnv} {S : Store} (h : I [] L0 σ S) : forL keep g tb L0 D' σ S := by
  refine for_ind (I := fun r σ S => ∃ d, d ++ r = L0 ∧ I d r σ S) (fun L σ S ⟨d, _, h⟩ => hk _ _ _ _ h) (fun x r σ S N ⟨d, e, h⟩ hN => step d x r σ S N e h fun σ S h => hN _ _ ⟨d ++ [x], by simpa using e, h⟩) (fun σ S ⟨d, e, h⟩ => fin σ S ?_) ⟨[], rfl, h⟩
  rw [List.append_nil] at e
  rw [← e]; rw [e] ; rw [e] at h; exact h
theorem for_indM {α : Type} (h : α → D) (I : List α → List α → DEnv → Store → Prop) (L0 : List α) (hk : ∀ d L σ S, I d L σ S → keep S)
    (step : ∀ d x r σ S (N : DEnv → Store → Prop), d ++ x :: r = L0 → I d (x :: r) σ S → (∀ σ S, I (d ++ [x]) r σ S → N σ S) → g (h x) σ S fun σ1 S1 => tb { D' with nx := N, ct := N, bk := D'.nx } σ1 S1)
    (fin : ∀ σ S, I L0 [] σ S → D'.nx σ S) {σ : DEnv} {S : Store} (h0 : I [] L0 σ S) : forL keep g tb (L0.map h) D' σ S := by
  refine for_ind (I := fun R σ S => ∃ d r, R = r.map h ∧ d ++ r = L0 ∧ I d r σ S) (fun L σ S ⟨d, r, _, _, h⟩ => hk _ _ _ _ h) ?st ?fn ⟨[], L0, rfl, rfl, h0⟩
  case st =>
    intro y R σ S N ⟨d, r, e1, e, hI⟩ hN
    cases r with
    | nil => cases e1
    | cons x r =>
      rw [List.map_cons] at e1
      injection e1 with e2 e3
      subst e2 e3
      exact step d x r σ S N e hI fun σ S h => hN _ _ ⟨d ++ [x], r, rfl, by simpa using e, h⟩
  case fn =>
    intro σ S ⟨d, r, e1, e, hI⟩
    cases r with
    | nil => rw [List.append_nil] at e; subst e; exact fin σ S hI
    | cons x r => cases e1
theorem range_map (n : Nat) : rangeD 0 n = (List.range n).map fun i : Nat => D.int (i : Int) := by
  unfold rangeD
  refine List.map_congr_left fun i _ => ?_
  rw [Int.zero_add]
theorem lc_ind {te : DE} {tt : DT} {R : List D → Store → Prop} (I : List D → List D → DEnv → Store → Prop) (hk : ∀ L acc σ S, I L acc σ S → keep S)
    (step : ∀ x r acc σ S (N : List D → DEnv → Store → Prop), I (x :: r) acc σ S → (∀ acc σ S, I r acc σ S → N acc σ S) → g x σ S fun σ1 S1 => tt σ1 S1 fun k S2 => if k = true then te σ1 S2 fun y S3 => acc.length < lim ∧ N (acc ++ [y]) σ S3 else N acc σ S2)
    (fin : ∀ acc σ S, I [] acc σ S → R acc S) : ∀ {L acc : List D} {σ : DEnv} {S : Store}, I L acc σ S → lcL keep g tt te σ L acc S R
  | [], acc, σ, S, h => ⟨hk _ _ _ _ h, fin _ _ _ h⟩
  | x :: r, acc, σ, S, h => by
    refine ⟨hk _ _ _ _ h, ?_⟩
    exact step x r acc σ S (fun acc σ S => lcL keep g tt te σ r acc S R) h fun acc σ S h => lc_ind I hk step fin h
/-- S has, beside what S0 has, the new things fs, which are os -/
structure Ext (S0 S : Store) (fs : List Addr) (os : List Ob) : Prop where
  nd : fs.Nodup
  fr : ∀ p ∈ fs, S0 p = none
  out : ∀ p, p ∉ fs → S p = S0 p
  len : fs.length = os.length
  at_ : ∀ (i : Nat) (p : Addr), fs[i]? = some p → S p = os[i]?
theorem Ext.nil : Ext S S [] [] := ⟨List.nodup_nil, by simp, fun _ _ => rfl, rfl, by simp⟩
theorem Ext.old (e : Ext S0 S fs os) (h : S0 p = some o) : S p = some o := by
  rw [e.out p fun z => by rw [e.fr p z] at h; cases h]; exact h
theorem Ext.push (e : Ext S0 S fs os) (h : S p = none) : Ext S0 (put S p o) (fs ++ [p]) (os ++ [o]) := by
  have hp : p ∉ fs := fun z => by
    obtain ⟨i, hi, e1⟩ := List.mem_iff_getElem.mp z
    have e2 := e.at_ i p (by rw [List.getElem?_eq_getElem hi, e1])
    rw [h, List.getElem?_eq_getElem (by rw [← e.len]; exact hi)] at e2
    cases e2
  refine ⟨?_, ?_, ?_, by simp [e.len], ?_⟩
  · rw [List.nodup_append]
    exact ⟨e.nd, by simp, fun a ha b hb z => by simp at hb; subst hb; subst z; exact hp ha⟩
  · intro q hq
    rcases List.mem_append.mp hq with hq | hq
    · exact e.fr q hq
    · simp at hq; subst hq; rw [← e.out q hp]; exact h
  · intro q hq
    rw [List.mem_append, not_or] at hq
    have hne : q ≠ p := by simpa using hq.2
    rw [put_ne hne]; exact e.out q hq.1
  · intro i q hq
    by_cases hi : i < fs.length
    · rw [List.getElem?_append_left hi] at hq
      have hne : q ≠ p := fun z => by subst z; exact hp (List.mem_of_getElem? hq)
      rw [put_ne hne, e.at_ i q hq, List.getElem?_append_left (by rw [← e.len]; exact hi)]
    · rw [List.getElem?_append_right (by omega)] at hq
      by_cases h0 : i - fs.length = 0
      · rw [h0] at hq
        cases hq
        rw [put_same, List.getElem?_append_right (by rw [← e.len]; omega), ← e.len, h0]; rfl
      · rw [List.getElem?_eq_none (by simp; omega)] at hq; cases hq
theorem Ext.put (e : Ext S0 S fs os) {n : Nat} (h : fs[n]? = some p) : Ext S0 (put S p o) fs (os.set n o) := by
  have hm := List.mem_of_getElem? h
  refine ⟨e.nd, e.fr, fun q hq => ?_, by simp [e.len], fun i q hq => ?_⟩
  · rw [put_ne fun z => by subst z; exact hq hm]; exact e.out q hq
  · by_cases hi : n = i
    · subst hi
      rw [h] at hq; cases hq
      have : n < os.length := by
        rw [← e.len]
        apply Classical.byContradiction
        intro z
        rw [List.getElem?_eq_none (by omega)] at h; cases h
      rw [put_same, List.getElem?_set_self this]
    · have hne : q ≠ p := fun z => by
        subst z
        have a1 : n < fs.length := by
          apply Classical.byContradiction
          intro z; rw [List.getElem?_eq_none (by omega)] at h; cases h
        have a2 : i < fs.length := by
          apply Classical.byContradiction
          intro z; rw [List.getElem?_eq_none (by omega)] at hq; cases hq
        rw [List.getElem?_eq_getElem a1] at h
        rw [List.getElem?_eq_getElem a2] at hq
        have ee := (Option.some.inj h).trans (Option.some.inj hq).symm
        have pw := List.pairwise_iff_getElem.mp e.nd
        rcases Nat.lt_or_gt_of_ne hi with z | z
        · exact pw n i a1 a2 z ee
        · exact pw i n a2 a1 z ee.symm
      rw [put_ne hne, e.at_ i q hq, List.getElem?_set_ne hi]
theorem ridAll_out : ∀ {l : List Addr} {S : Store}, p ∉ l → ridAll S l p = S p
  | [], _, _ => rfl
  | a :: l, S, h => by
    rw [List.mem_cons, not_or] at h
    show ridAll (rid S a) l p = _
    rw [ridAll_out h.2, rid_ne h.1]
theorem ridAll_none : ∀ {l : List Addr} {S : Store}, S p = none → ridAll S l p = none
  | [], _, h => h
  | a :: l, S, h => by
    show ridAll (rid S a) l p = none
    refine ridAll_none ?_
    by_cases z : p = a
    · subst z; exact rid_same
    · rw [rid_ne z]; exact h
theorem ridAll_in : ∀ {l : List Addr} {S : Store}, p ∈ l → ridAll S l p = none
  | a :: l, S, h => by
    show ridAll (rid S a) l p = none
    by_cases z : p = a
    · subst z; exact ridAll_none rid_same
    · exact ridAll_in ((List.mem_cons.mp h).resolve_left z)
theorem Ext.rid (e : Ext S0 S fs os) : ridAll S fs = S0 := by
  funext p
  by_cases h : p ∈ fs
  · rw [ridAll_in h, e.fr p h]
  · rw [ridAll_out h, e.out p h]
theorem Ext.none (e : Ext S0 S fs os) (h : S p = none) : S0 p = none ∧ p ∉ fs := by
  have hp : p ∉ fs := fun z => by
    obtain ⟨i, hi, e1⟩ := List.mem_iff_getElem.mp z
    have e2 := e.at_ i p (by rw [List.getElem?_eq_getElem hi, e1])
    rw [h, List.getElem?_eq_getElem (by rw [← e.len]; exact hi)] at e2
    cases e2
  exact ⟨by rw [← e.out p hp]; exact h, hp⟩
theorem Ext.ridPut (e : Ext S0 S fs os) (h : S p = .none) : ridAll (DL.put S p o) fs = DL.put S0 p o := by
  obtain ⟨h0, hp⟩ := e.none h
  funext q
  by_cases hq : q ∈ fs
  · rw [ridAll_in hq, put_ne fun z => by subst z; exact hp hq, e.fr q hq]
  · rw [ridAll_out hq]
    by_cases z : q = p
    · subst z; rw [put_same, put_same]
    · rw [put_ne z, put_ne z, e.out q hq]
theorem objs_map (fs : List Addr) : (fs.map D.obj).flatMap objsOf = fs := by
  induction fs with
  | nil => rfl
  | cons a r ih => rw [List.map_cons, List.flatMap_cons, ih]; rfl
theorem range_len (a : Int) (n : Nat) : (rangeD a n).length = n := by unfold rangeD; simp
/-- a comprehension that makes a new thing for every item -/
theorem lc_new {te : DE} {R : List D → Store → Prop} {n : Nat} {o : Ob} (hte : ∀ σ S Q, (∀ p, S p = none → Q (.obj p) (DL.put S p o)) → te σ S Q) (hk : ∀ S, (∀ p u, S0 p = some u → S p = some u) → keep S)
    {L : List D} {σ : DEnv} (hl : L.length ≤ lim) (h : ∀ S fs, Ext S0 S fs (List.replicate L.length o) → R (fs.map D.obj) S) : lcL keep (gN n) dYes te σ L [] S0 R := by
  refine lc_ind (I := fun r acc σ S => ∃ fs k, acc = fs.map D.obj ∧ Ext S0 S fs (List.replicate k o) ∧ k + r.length = L.length) (fun L acc σ S ⟨fs, k, _, e, _⟩ => hk S fun p u h => e.old h) (fun x r acc σ S N ⟨fs, k, ea, e, hl⟩ hN => ?_) (fun acc σ S ⟨fs, k, ea, e, hl⟩ => ?_) ⟨[], 0, rfl, Ext.nil, by simp⟩
  · simp only [r_gN, r_yes, if_pos]
    refine hte _ _ _ fun p hp => ⟨?_, hN _ _ _ ⟨fs ++ [p], k + 1, by simp [ea], ?_, by simp at hl; omega⟩⟩
    · rw [ea, List.length_map, e.len, List.length_replicate]; simp at hl; omega
    · have := e.push (o := o) hp
      rw [List.replicate_succ']
      exact this
  · rw [ea]; exact h S fs (by have : k = L.length := by simpa using hl
                              rw [← this]; exact e)
end
end DL
/-! DS3: texts in lists, equal data. -/
namespace DL
open PySem PySem.Spec PyProof.Rows L2
section
variable {σ : DEnv} {S S0 S' : Store} {Q : QE} {x y : D} {m : List D} {p q : Addr} {o : Ob} {i j : Int} {E : XQ} {D' : DEnds} {keep : Store → Prop} {neg : Bool} {a : String} {l : List String}
theorem inD_strs : ∀ l : List String, inD (.str a) (l.map D.str) = decide (a ∈ l)
  | [] => rfl
  | b :: l => by
    show ((b == a) || inD (.str a) (l.map D.str)) = _
    rw [inD_strs l]
    by_cases h : b = a
    · subst h; simp
    · have h' : ¬ a = b := fun z => h z.symm
      simp [h, h']
theorem flat_strs : ∀ l : List String, (l.map D.str).all flatD = true
  | [] => rfl
  | b :: l => by rw [List.map_cons, List.all_cons, flat_strs l]; rfl
theorem in_lst : dIn neg (.str a) (.lst (l.map D.str)) S Q = Q (.bl (inR neg (decide (a ∈ l)))) S := by
  show (flatD (.str a) = true ∧ (l.map D.str).all flatD = true ∧ Q (.bl (inR neg (inD (.str a) (l.map D.str)))) S) = _
  rw [inD_strs, flat_strs]; simp [flatD]
theorem in_obj (h : S p = some (.lst (l.map D.str))) : dIn neg (.str a) (.obj p) S Q = Q (.bl (inR neg (decide (a ∈ l)))) S := by
  unfold dIn
  rw [asK_objL h]
  show (match asL S (.obj p) with
      | some l => flatD (.str a) = true ∧ l.all flatD = true ∧ Q (.bl (inR neg (inD (.str a) l))) S
      | none => False) = _
  rw [asL_obj h]
  show (flatD (.str a) = true ∧ (l.map D.str).all flatD = true ∧ Q (.bl (inR neg (inD (.str a) (l.map D.str)))) S) = _
  rw [inD_strs, flat_strs]; simp [flatD]
theorem in_dic {kd : List (String × D)} (h : S p = some (.dic kd)) : dIn neg (.str a) (.obj p) S Q = Q (.bl (inR neg (kd.lookup a).isSome)) S := by
  unfold dIn
  rw [asK_obj h]
/-- a dict whose values are all True: its keys -/
def keysD (l : List String) : List (String × D) := l.map fun s => (s, .bl true)
theorem keys_look : ∀ l : List String, ((keysD l).lookup a).isSome = decide (a ∈ l)
  | [] => rfl
  | b :: l => by
    show ((match a == b with | true => some (D.bl true) | false => (keysD l).lookup a)).isSome = _
    by_cases h : a = b
    · subst h; simp
    · have e : (a == b) = false := beq_eq_false_iff_ne.mpr h
      rw [e]
      show ((keysD l).lookup a).isSome = _
      rw [keys_look l]; simp [h]
theorem keys_put (h : a ∉ l) : putKD a (.bl true) (keysD l) = keysD (l ++ [a]) := by
  unfold putKD
  rw [if_neg]
  · simp [keysD]
  · rw [List.any_eq_true]
    rintro ⟨z, hz, e⟩
    obtain ⟨s, hs, rfl⟩ := List.mem_map.mp hz
    exact h (by have := of_decide_eq_true e; rw [← this]; exact hs)
theorem keys_put2 (h : a ∈ l) : putKD a (.bl true) (keysD l) = keysD l := by
  unfold putKD
  rw [if_pos]
  · unfold keysD
    rw [List.map_map]
    refine List.map_congr_left fun s _ => ?_
    show (if s = a then (s, D.bl true) else (s, D.bl true)) = _
    split <;> rfl
  · rw [List.any_eq_true]
    exact ⟨(a, .bl true), List.mem_map.mpr ⟨a, h, rfl⟩, by simp⟩
theorem keys_len : (keysD l).length = l.length := by simp [keysD]
theorem keys_fst : (keysD l).map (·.1) = l := by simp [keysD, List.map_map, Function.comp_def]
mutual
theorem eqD_refl : ∀ x : D, plainD x = true → eqD x x = true
  | .non, _ => rfl
  | .bl b, _ => by show (b == b) = true; simp
  | .int i, _ => by show (i == i) = true; simp
  | .str s, _ => by show (s == s) = true; simp
  | .tup l, h => eqDs_refl l h
  | .lst l, h => eqDs_refl l h
  | .dic _, h => by cases h
  | .scr _, h => by cases h
  | .obj _, h => by cases h
  | .ty _, h => by cases h
theorem eqDs_refl : ∀ l : List D, plainDs l = true → eqDs l l = true
  | [], _ => rfl
  | x :: l, h => by
    have h' := Bool.and_eq_true_iff.mp (show (plainD x && plainDs l) = true from h)
    show (eqD x x && eqDs l l) = true
    rw [eqD_refl x h'.1, eqDs_refl l h'.2]; rfl
end
theorem plainDs_of : ∀ {l : List D}, (∀ x ∈ l, plainD x = true) → plainDs l = true
  | [], _ => rfl
  | x :: l, h => by
    show (plainD x && plainDs l) = true
    rw [h x (by simp), plainDs_of fun y hy => h y (by simp [hy])]; rfl
theorem depDs_of {n : Nat} : ∀ {l : List D}, (∀ x ∈ l, depD x ≤ n) → depDs l ≤ n
  | [], _ => Nat.zero_le _
  | x :: l, h => by
    show max (depD x) (depDs l) ≤ n
    have h1 := h x (by simp)
    have h2 := depDs_of (l := l) fun y hy => h y (by simp [hy])
    omega
/-- plain, and at most n deep -/
def OkN (n : Nat) (x : D) : Prop := plainD x = true ∧ depD x ≤ n
theorem OkN.ok {n : Nat} (h : OkN n x) (hn : n ≤ 64 := by decide) : okD x = true := by
  unfold okD
  rw [h.1]
  have : depD x ≤ 64 := Nat.le_trans h.2 hn
  simpa using this
theorem OkN.tup {n : Nat} {l : List D} (h : ∀ x ∈ l, OkN n x) : OkN (n + 1) (.tup l) := ⟨plainDs_of fun x hx => (h x hx).1, Nat.succ_le_succ (depDs_of fun x hx => (h x hx).2)⟩
theorem OkN.lst {n : Nat} {l : List D} (h : ∀ x ∈ l, OkN n x) : OkN (n + 1) (.lst l) := ⟨plainDs_of fun x hx => (h x hx).1, Nat.succ_le_succ (depDs_of fun x hx => (h x hx).2)⟩
theorem OkN.str : OkN 0 (.str a) := ⟨rfl, Nat.le_refl 0⟩
theorem OkN.int : OkN 0 (.int i) := ⟨rfl, Nat.le_refl 0⟩
@[simp] theorem ok_int : okD (.int i) = true := rfl
@[simp] theorem ok_str : okD (.str a) = true := rfl
@[simp] theorem ok_non : okD .non = true := rfl
@[simp] theorem ok_bl {b : Bool} : okD (.bl b) = true := rfl
@[simp] theorem eq_int : eqD (.int i) (.int j) = (i == j) := rfl
@[simp] theorem eq_str {b : String} : eqD (.str a) (.str b) = (a == b) := rfl
@[simp] theorem r_is : dIs x .non S Q = Q (.bl (isNonD x)) S := propext Iff.rfl
@[simp] theorem r_isnot : dIsNot x .non S Q = Q (.bl (!isNonD x)) S := propext Iff.rfl
theorem lc_mapM {α : Type} (h : α → D) {te : DE} {n : Nat} {R : List D → Store → Prop} {tt : DT} (f : α → D) : ∀ {L : List α} {acc : List D} {σ : DEnv}, keep S → (acc.length + L.length ≤ lim) → (∀ x ∈ L, ∀ Q, Q true S → tt (σ.set n (some (h x))) S Q) → (∀ x ∈ L, ∀ Q, Q (f x) S → te (σ.set n (some (h x))) S Q) → R (acc ++ L.map f) S → lcL keep (gN n) tt te σ (L.map h) acc S R
  | [], acc, σ, hk, _, _, _, h => ⟨hk, by simpa using h⟩
  | x :: L, acc, σ, hk, hl, ht, he, h => by
    refine ⟨hk, ?_⟩
    refine ht x (by simp) _ ?_
    rw [if_pos rfl]
    refine he x (by simp) _ ⟨by simp at hl; omega, ?_⟩
    exact lc_mapM _ f hk (by simp at hl ⊢; omega) (fun y hy => ht y (by simp [hy])) (fun y hy => he y (by simp [hy])) (by simpa using h)
theorem objs_range {fs : List Addr} {n : Nat} (h : fs.length = n) : fs.map D.obj = (List.range n).map fun i => D.obj (fs.getD i 0) := by
  refine List.ext_getElem? fun i => ?_
  rw [List.getElem?_map, List.getElem?_map]
  by_cases hi : i < n
  · rw [List.getElem?_range hi, List.getElem?_eq_getElem (by rw [h]; exact hi)]
    simp [List.getD_eq_getElem?_getD, List.getElem?_eq_getElem (show i < fs.length by rw [h]; exact hi)]
  · rw [List.getElem?_eq_none (by omega), List.getElem?_eq_none (by simp; omega)]; rfl
theorem sortd_obj {l : List String} (h : S p = some (.lst (l.map D.str))) : bSorted [.obj p] S Q = (l.length < 64 ∧ Q (.lst ((srt l).map D.str)) S) := by
  unfold bSorted
  simp only [asK_objL h, asL_obj h, r_ofO, strsOf_map]
theorem sortd_dic {l : List String} (h : S p = some (.dic (keysD l))) : bSorted [.obj p] S Q = (l.length < 64 ∧ Q (.lst ((srt l).map D.str)) S) := by
  unfold bSorted
  simp only [asK_obj h, keys_len, keys_fst]
@[simp] theorem tuple_lst {l : List D} : bTuple [.lst l] S Q = Q (.tup l) S := propext Iff.rfl
@[simp] theorem listX_lst {l : List D} : bListX [.lst l] S Q = Q (.lst l) S := propext Iff.rfl
theorem lc_filt {te : DE} {n : Nat} {R : List D → Store → Prop} {tt : DT} (f : D → D) (t : D → Bool) : ∀ {L acc : List D} {σ : DEnv}, keep S → (acc.length + L.length ≤ lim) → (∀ x ∈ L, ∀ Q, Q (t x) S → tt (σ.set n (some x)) S Q) → (∀ x ∈ L, ∀ Q, Q (f x) S → te (σ.set n (some x)) S Q) → R (acc ++ (L.filter t).map f) S → lcL keep (gN n) tt te σ L acc S R
  | [], acc, σ, hk, _, _, _, h => ⟨hk, by simpa using h⟩
  | x :: L, acc, σ, hk, hl, ht, he, h => by
    refine ⟨hk, ?_⟩
    show tt (σ.set n (some x)) S _
    refine ht x (by simp) _ ?_
    have ht' : ∀ y ∈ L, ∀ Q, Q (t y) S → tt (σ.set n (some y)) S Q := fun y hy => ht y (by simp [hy])
    have he' : ∀ y ∈ L, ∀ Q, Q (f y) S → te (σ.set n (some y)) S Q := fun y hy => he y (by simp [hy])
    by_cases e : t x = true
    · rw [if_pos e]
      refine he x (by simp) _ ⟨by simp at hl; omega, ?_⟩
      exact lc_filt f t hk (by simp at hl ⊢; omega) ht' he' (by simpa [List.filter_cons, e] using h)
    · rw [if_neg e]
      exact lc_filt f t hk (by simp at hl ⊢; omega) ht' he' (by simpa [List.filter_cons, e] using h)
end
end DL
/-! DS4: tuples read by place, texts among displayed ones, slices. -/
namespace DL
open PySem PySem.Spec PyProof.Rows L2
section
variable {σ : DEnv} {S S0 S' : Store} {Q : QE} {x y z : D} {l m : List D} {p q : Addr} {o : Ob} {i j : Int} {neg : Bool} {a b : String}
theorem in_tup : dIn neg (.str a) (.tup l) S Q = (l.all flatD = true ∧ Q (.bl (DL.inR neg (inD (.str a) l))) S) := by
  show (flatD (.str a) = true ∧ l.all flatD = true ∧ Q (.bl (DL.inR neg (inD (.str a) l))) S) = _
  simp [flatD]
theorem in_lstS : dIn neg (.str a) (.lst l) S Q = (l.all flatD = true ∧ Q (.bl (DL.inR neg (inD (.str a) l))) S) := by
  show (flatD (.str a) = true ∧ l.all flatD = true ∧ Q (.bl (DL.inR neg (inD (.str a) l))) S) = _
  simp [flatD]
theorem inD_cons : inD x (y :: l) = (eqD y x || inD x l) := rfl
theorem inD_nil : inD x [] = false := rfl
@[simp] theorem flat_str : flatD (.str a) = true := rfl
@[simp] theorem flat_int : flatD (.int i) = true := rfl
@[simp] theorem flat_bl {k : Bool} : flatD (.bl k) = true := rfl
@[simp] theorem r_neg : dNeg (.int i) S Q = Q (.int (-i)) S := propext Iff.rfl
@[simp] theorem r_negr {k : Bool} : DL.inR false k = k := rfl
@[simp] theorem r_negt {k : Bool} : DL.inR true k = !k := rfl
theorem ix_neg {n k : Nat} (h : k < n) (hk : 0 < n - k) : ixN n (-((n - k : Nat) : Int)) = some k := by
  unfold ixN
  rw [if_neg (by omega), if_pos (by omega)]
  congr 1
  omega
@[simp] theorem atm1_1 : atI [x] (-1) = some x := by unfold atI; rw [show ixN [x].length (-1) = some 0 from ix_neg (n := 1) (k := 0) (by omega) (by omega)]; rfl
@[simp] theorem atm1_2 : atI [x, y] (-1) = some y := by unfold atI; rw [show ixN [x, y].length (-1) = some 1 from ix_neg (n := 2) (k := 1) (by omega) (by omega)]; rfl
@[simp] theorem atm1_3 : atI [x, y, z] (-1) = some z := by unfold atI; rw [show ixN [x, y, z].length (-1) = some 2 from ix_neg (n := 3) (k := 2) (by omega) (by omega)]; rfl
@[simp] theorem atm1_4 {w : D} : atI [x, y, z, w] (-1) = some w := by unfold atI; rw [show ixN [x, y, z, w].length (-1) = some 3 from ix_neg (n := 4) (k := 3) (by omega) (by omega)]; rfl
@[simp] theorem r_dSl {r : DSl} {da : DE} {dl dh : DO} : dSl r da dl dh σ S Q = da σ S fun x S1 => dl σ S1 fun lo S2 => dh σ S2 fun hi S3 => r x lo hi S3 Q := propext Iff.rfl
@[simp] theorem r_noPart {R : Option Int → Store → Prop} : dNoPart σ S R = R none S := propext Iff.rfl
@[simp] theorem r_part {d : DE} {R : Option Int → Store → Prop} : dPart d σ S R = d σ S fun x S1 => match x with
  | .int i => R (some i) S1
  | _ => False := propext Iff.rfl
/-- t[k:] -/
theorem sl_from {k : Nat} (h0 : 0 < k) (h : k ≤ l.length) : slD (.tup l) (some (k : Int)) none S Q = Q (.tup (l.drop k)) S := by
  unfold slD DL.cutD
  simp only [HT.sIx_nat, HT.sIx_none, Nat.min_eq_left h]
  rw [List.take_of_length_le (by simp)]
  refine propext ⟨fun z => z.2, fun z => ⟨fun w => by omega, z⟩⟩
theorem sl_to {k : Nat} (h : k < l.length) : slD (.tup l) none (some (k : Int)) S Q = Q (.tup (l.take k)) S := by
  unfold slD DL.cutD
  simp only [HT.sIx_nat, HT.sIx_none, Nat.min_eq_left (Nat.le_of_lt h), List.drop_zero, Nat.sub_zero]
  refine propext ⟨fun z => z.2, fun z => ⟨fun w => by omega, z⟩⟩
theorem sl_toN (h : 0 < l.length) : slD (.tup l) none (some (-1)) S Q = Q (.tup l.dropLast) S := by
  have e : HT.sIx l.length l.length (some (-1)) = l.length - 1 := by
    unfold HT.sIx
    simp only [show (-1 : Int) < 0 by decide, if_true]
    omega
  unfold slD DL.cutD
  simp only [e, HT.sIx_none, List.drop_zero, Nat.sub_zero, List.dropLast_eq_take]
  refine propext ⟨fun z => z.2, fun z => ⟨fun w => by omega, z⟩⟩
theorem slL_from {k : Nat} (h : k ≤ l.length) : slD (.lst l) (some (k : Int)) none S Q = Q (.lst (l.drop k)) S := by
  show Q (.lst (DL.cutD l (some (k : Int)) none)) S = _
  unfold DL.cutD
  simp only [HT.sIx_nat, HT.sIx_none, Nat.min_eq_left h]
  rw [List.take_of_length_le (by simp)]
@[simp] theorem sl_1 : slD (.tup (x :: l)) (some 1) none S Q = Q (.tup l) S := sl_from (k := 1) (by omega) (by simp)
@[simp] theorem listX_tup : bListX [.tup l] S Q = Q (.lst l) S := propext Iff.rfl
@[simp] theorem tuple_tup : bTuple [.tup l] S Q = Q (.tup l) S := propext Iff.rfl
@[simp] theorem lenT : lenD S (.tup l) = some l.length := rfl
@[simp] theorem r_rev {da : DE} : dRevL da σ S Q = da σ S fun x S1 => ofO (asL S1 x) fun l => Q (.lst l.reverse) S1 := propext Iff.rfl
end
end DL
/-! DS5: slices by small numbers. -/
namespace DL
open PySem PySem.Spec PyProof.Rows L2
section
variable {σ : DEnv} {S : Store} {Q : QE} {x y z w : D} {l : List D}
@[simp] theorem sl_t1 : slD (.tup (x :: y :: l)) none (some 1) S Q = Q (.tup [x]) S := sl_to (k := 1) (by simp)
@[simp] theorem sl_t2 : slD (.tup (x :: y :: z :: l)) none (some 2) S Q = Q (.tup [x, y]) S := sl_to (k := 2) (by simp)
@[simp] theorem sl_t3 : slD (.tup (x :: y :: z :: w :: l)) none (some 3) S Q = Q (.tup [x, y, z]) S := sl_to (k := 3) (by simp)
@[simp] theorem slL_2 : slD (.lst (x :: y :: l)) (some 2) none S Q = Q (.lst l) S := slL_from (k := 2) (by simp)
theorem lc_filtM {α : Type} (h : α → D) {te : DE} {n : Nat} {keep : Store → Prop} {R : List D → Store → Prop} {tt : DT} (f : α → D) (t : α → Bool) : ∀ {L : List α} {acc : List D} {σ : DEnv}, keep S → (acc.length + L.length ≤ lim) → (∀ x ∈ L, ∀ Q, Q (t x) S → tt (σ.set n (some (h x))) S Q) → (∀ x ∈ L, ∀ Q, Q (f x) S → te (σ.set n (some (h x))) S Q) → R (acc ++ (L.filter t).map f) S → lcL keep (gN n) tt te σ (L.map h) acc S R
  | [], acc, σ, hk, _, _, _, h => ⟨hk, by simpa using h⟩
  | x :: L, acc, σ, hk, hl, ht, he, hR => by
    refine ⟨hk, ?_⟩
    refine ht x (by simp) _ ?_
    have ht' : ∀ y ∈ L, ∀ Q, Q (t y) S → tt (σ.set n (some (h y))) S Q := fun y hy => ht y (by simp [hy])
    have he' : ∀ y ∈ L, ∀ Q, Q (f y) S → te (σ.set n (some (h y))) S Q := fun y hy => he y (by simp [hy])
    by_cases e : t x = true
    · rw [if_pos e]
      refine he x (by simp) _ ⟨by simp at hl; omega, ?_⟩
      exact lc_filtM h f t hk (by simp at hl ⊢; omega) ht' he' (by simpa [List.filter_cons, e] using hR)
    · rw [if_neg e]
      exact lc_filtM h f t hk (by simp at hl ⊢; omega) ht' he' (by simpa [List.filter_cons, e] using hR)
theorem zipD_strs {β : Type} (h : β → D) : ∀ (l : List D) (m : List β), zipD l (m.map h) = (List.zip l m).map fun q => .tup [q.1, h q.2]
  | [], m => by simp [zipD]
  | x :: l, [] => by simp [zipD]
  | x :: l, y :: m => by simp [zipD, zipD_strs h l m]
theorem nodup_len {α : Type} [DecidableEq α] : ∀ {l m : List α}, l.Nodup → (∀ x ∈ l, x ∈ m) → l.length ≤ m.length
  | [], m, _, _ => by simp
  | x :: l, m, hn, hs => by
    have hx := hs x (by simp)
    have hn' := List.nodup_cons.mp hn
    have := nodup_len (l := l) (m := m.erase x) hn'.2 fun y hy => (List.mem_erase_of_ne (fun (e : y = x) => hn'.1 (by rw [← e]; exact hy))).mpr (hs y (by simp [hy]))
    rw [List.length_erase_of_mem hx] at this
    have := List.length_pos_of_mem hx
    simp
    omega
theorem nodup_perm {α : Type} [DecidableEq α] {l m : List α} (h1 : l.Nodup) (h2 : m.Nodup) (h : ∀ x, x ∈ l ↔ x ∈ m) : l.Perm m := by
  rw [List.perm_iff_count]
  intro a
  by_cases e : a ∈ l
  · rw [h1.count, h2.count]
    simp [e, (h a).mp e]
  · rw [h1.count, h2.count]
    have e' : ¬ a ∈ m := fun z => e ((h a).mpr z)
    simp [e, e']
end
end DL
/-! DS6: the text of data. -/
namespace DL
open PySem PySem.Spec PyProof.Rows L2
/-- every sign of it is a character -/
def GoodS (x : Str) : Prop := ∀ c ∈ x.cps.toList, Nat.isValidChar c
theorem good_ofS (s : String) : GoodS (Str.ofString s) := by
  intro c hc
  rw [ofS_cps] at hc
  obtain ⟨ch, _, rfl⟩ := List.mem_map.mp hc
  exact ch.valid
theorem good_ex {x : Str} (h : GoodS x) : ∃ t : String, Str.ofString t = x := by
  refine ⟨String.ofList (x.cps.toList.map Char.ofNat), ?_⟩
  have e : (x.cps.toList.map Char.ofNat).map Char.toNat = x.cps.toList := by
    rw [List.map_map]
    refine (List.map_congr_left fun c hc => ?_).trans (List.map_id _)
    show (Char.ofNat c).toNat = id c
    have v := h c hc
    simp only [Char.ofNat, dif_pos v, id]
    simp [Char.ofNatAux, Char.toNat]
  rw [ofS_eq, String.toList_ofList, e]
theorem good_app {x y : Str} (h : GoodS x) (k : GoodS y) : GoodS (x ++ y) := by
  intro c hc
  have hc : c ∈ (x.cps ++ y.cps).toList := hc
  rw [Array.toList_append] at hc
  rcases List.mem_append.mp hc with hc | hc
  · exact h c hc
  · exact k c hc
theorem good_join {sep : Str} (hs : GoodS sep) : ∀ {ts : List Str}, (∀ t ∈ ts, GoodS t) → GoodS (Str.join sep ts)
  | [], _ => by intro c hc; simp [Str.join, Str.empty] at hc
  | [x], h => h x (by simp)
  | x :: y :: r, h => by
    rw [show Str.join sep (x :: y :: r) = x ++ sep ++ Str.join sep (y :: r) from rfl]
    exact good_app (good_app (h x (by simp)) hs) (good_join hs fun t ht => h t (by simp [ht]))
theorem good_char {q c : Nat} (hq : Nat.isValidChar q) (hc : Nat.isValidChar c) : ∀ z ∈ Builtin.Str.reprChar q c, Nat.isValidChar z := by
  have small : ∀ z : Nat, z < 1000 → Nat.isValidChar z := fun z h => .inl (by omega)
  have hex : ∀ w : Nat, ∀ z ∈ (List.replicate (w - ((Nat.toDigits 16 c).map Char.toNat).length) 48 ++ (Nat.toDigits 16 c).map Char.toNat), Nat.isValidChar z := fun w z hz => by
    rcases List.mem_append.mp hz with hz | hz
    · rw [(List.mem_replicate.mp hz).2]; exact small 48 (by omega)
    · obtain ⟨ch, _, rfl⟩ := List.mem_map.mp hz
      exact ch.valid
  intro z hz
  unfold Builtin.Str.reprChar at hz
  dsimp only at hz
  split at hz
  · simp at hz; rcases hz with rfl | rfl
    · exact small _ (by omega)
    · exact hc
  · split at hz
    · simp at hz; rcases hz with rfl | rfl <;> exact small _ (by omega)
    · split at hz
      · simp at hz; rcases hz with rfl | rfl <;> exact small _ (by omega)
      · split at hz
        · simp at hz; rcases hz with rfl | rfl <;> exact small _ (by omega)
        · split at hz
          · simp at hz; subst hz; exact hc
          · split at hz
            · rcases List.mem_append.mp hz with hz | hz
              · simp at hz; rcases hz with rfl | rfl <;> exact small _ (by omega)
              · exact hex _ z hz
            · split at hz
              · rcases List.mem_append.mp hz with hz | hz
                · simp at hz; rcases hz with rfl | rfl <;> exact small _ (by omega)
                · exact hex _ z hz
              · rcases List.mem_append.mp hz with hz | hz
                · simp at hz; rcases hz with rfl | rfl <;> exact small _ (by omega)
                · exact hex _ z hz
theorem good_fold {q : Nat} (hq : Nat.isValidChar q) : ∀ (l : List Nat) (acc : Array Nat), (∀ c ∈ l, Nat.isValidChar c) → (∀ c ∈ acc.toList, Nat.isValidChar c) →
    ∀ c ∈ (l.foldl (fun out c => out ++ (Builtin.Str.reprChar q c).toArray) acc).toList, Nat.isValidChar c
  | [], acc, _, ha => ha
  | x :: l, acc, hl, ha => by
    rw [List.foldl_cons]
    refine good_fold hq l _ (fun c hc => hl c (by simp [hc])) fun c hc => ?_
    rw [Array.toList_append] at hc
    rcases List.mem_append.mp hc with hc | hc
    · exact ha c hc
    · exact good_char hq (hl x (by simp)) c hc
theorem good_quote (x : Str) : Nat.isValidChar (reprQuote x) := by
  unfold reprQuote
  split <;> exact .inl (by omega)
theorem good_text {x : Str} (h : GoodS x) : GoodS (reprText x) := by
  intro c hc
  unfold reprText at hc
  rw [← Array.foldl_toList] at hc
  rw [Array.toList_push] at hc
  rcases List.mem_append.mp hc with hc | hc
  · refine good_fold (good_quote x) x.cps.toList _ h (fun c hc => ?_) c hc
    simp at hc; subst hc; exact good_quote x
  · simp at hc; subst hc; exact good_quote x
theorem good_tuple {ts : List Str} (h : ∀ t ∈ ts, GoodS t) : GoodS (tupleText ts) := by
  unfold tupleText
  refine good_app (good_app (good_ofS "(") (good_join (good_ofS ", ") h)) ?_
  split <;> exact good_ofS _
theorem len_tuple (ts : List Str) : (tupleText ts).length ≤ piled ts + 3 := by
  have e3 : (((if ts.length == 1 then ",)" else ")" : String) : Str)).length ≤ 2 := by split <;> decide
  have e1 : ((("(" : String) : Str)).length = 1 := rfl
  unfold tupleText
  rw [strLen_append, strLen_append, e1]
  cases ts with
  | nil =>
    have : (Str.join ((", " : String) : Str) []).length = 0 := rfl
    omega
  | cons a r =>
    have := join_length_add (a :: r) (by simp)
    omega
theorem listText_eq (ts : List Str) : listText ts = textFrom 0 "[" ts ++ "]" := rfl
mutual
/-- a bound of the text's length; lists have none -/
def szD : D → Nat
  | .str s => 10 * s.length + 2
  | .tup l => szDs l + 3
  | _ => 70
def szDs : List D → Nat
  | [] => 0
  | d :: l => szD d + 2 + szDs l
end
mutual
/-- tuples of texts, bools, small integers -/
def flatT : D → Bool
  | .non => true
  | .bl _ => true
  | .int i => decide (i.natAbs < 2 ^ 64)
  | .str _ => true
  | .tup l => flatTs l
  | _ => false
def flatTs : List D → Bool
  | [] => true
  | d :: l => flatT d && flatTs l
end
mutual
theorem shown_ok : ∀ d : D, flatT d = true → plainD d = true ∧ (toP d).showable = true ∧ GoodS (PyData.shown (toP d)) ∧ (PyData.shown (toP d)).length ≤ szD d
  | .non, _ => ⟨rfl, rfl, good_ofS "None", by decide⟩
  | .bl b, _ => ⟨rfl, rfl, by cases b <;> exact good_ofS _, by cases b <;> decide⟩
  | .int i, h => by
    have hi : i.natAbs < 2 ^ 64 := of_decide_eq_true h
    have hl : i.natAbs.log2 < 64 := by
      by_cases e : i.natAbs = 0
      · rw [e]; decide
      · exact (Nat.log2_lt e).mpr hi
    refine ⟨rfl, decide_eq_true (show i.natAbs.log2 < 1920 by omega), good_ofS _, ?_⟩
    show (Str.ofString (toString i)).length ≤ 70
    rw [ofS_len]
    have := int_text_length_le (k := 64) (by omega) hl
    omega
  | .str s, _ => by
    refine ⟨rfl, rfl, ?_, ?_⟩
    · show GoodS (PyData.shown (.str (Str.ofString s)))
      rw [PyData.shown_str]
      exact good_text (good_ofS s)
    · show (PyData.shown (.str (Str.ofString s))).length ≤ 10 * s.length + 2
      rw [PyData.shown_str]
      have := StrLaws.reprText_len (Str.ofString s) fun c hc => by
        have := good_ofS s c hc
        simp only [Nat.isValidChar] at this
        omega
      rw [ofS_len] at this
      exact this
  | .tup l, h => by
    obtain ⟨h1, h2, h3, h4⟩ := showns_ok l h
    refine ⟨h1, h2, ?_, ?_⟩
    · show GoodS (PyData.shown (.tuple (toPs l)))
      simp only [PyData.shown]
      exact good_tuple h3
    · show (PyData.shown (.tuple (toPs l))).length ≤ szDs l + 3
      simp only [PyData.shown]
      have := len_tuple (PyData.shownAll (toPs l))
      omega
  | .lst _, h => by cases h
  | .dic _, h => by cases h
  | .scr _, h => by cases h
  | .obj _, h => by cases h
  | .ty _, h => by cases h
theorem showns_ok : ∀ l : List D, flatTs l = true → plainDs l = true ∧ PyData.showableAll (toPs l) = true ∧ (∀ t ∈ PyData.shownAll (toPs l), GoodS t) ∧ piled (PyData.shownAll (toPs l)) ≤ szDs l
  | [], _ => ⟨rfl, rfl, by simp [toPs, PyData.shownAll], by simp [toPs, PyData.shownAll, piled]⟩
  | d :: l, h => by
    have h' := Bool.and_eq_true_iff.mp (show (flatT d && flatTs l) = true from h)
    obtain ⟨a1, a2, a3, a4⟩ := shown_ok d h'.1
    obtain ⟨b1, b2, b3, b4⟩ := showns_ok l h'.2
    refine ⟨?_, ?_, ?_, ?_⟩
    · show (plainD d && plainDs l) = true
      rw [a1, b1]; rfl
    · show PyData.showableAll (toP d :: toPs l) = true
      simp only [PyData.showableAll, a2, b2]; rfl
    · intro t ht
      simp only [toPs, PyData.shownAll] at ht
      rcases List.mem_cons.mp ht with rfl | ht
      · exact a3
      · exact b3 t ht
    · simp only [toPs, PyData.shownAll, piled_cons]
      show _ ≤ szD d + 2 + szDs l
      omega
end
theorem okRepr_of {l : List D} (h : flatT (.tup l) = true) (hd : depDs l ≤ 60) (hs : szD (.tup l) ≤ lim) : OkRepr l := by
  obtain ⟨a, b, c, d⟩ := shown_ok (.tup l) h
  refine ⟨a, b, hd, ?_, good_ex c⟩
  rw [lim_eq]
  exact Nat.le_trans d hs
end DL
/-! DS7: while by invariants; pop; a tuple taken up; three at once. -/
namespace DL
open PySem PySem.Spec PyProof.Rows L2
section
variable {σ : DEnv} {S : Store} {Q : QE} {x y z : D} {l m : List D} {p q : Addr} {D' : DEnds}
theorem while_ind {c : DT} {tb : DS} (W : Nat → DEnv → Store → Prop) (h0 : ∃ m, W m σ S)
    (step : ∀ m σ S, W m σ S → c σ S fun k S1 => if k = true then ∃ N : DEnv → Store → Prop, (∀ σ' S', N σ' S' → ∃ m', m' < m ∧ W m' σ' S') ∧ tb { D' with nx := N, ct := N, bk := D'.nx } σ S1 else D'.nx σ S1) : dWhile c tb D' σ S := ⟨W, h0, step⟩
theorem pop_obj (h : S p = some (.lst (l ++ [x]))) : mPop (.obj p) [] S Q = Q x (put S p (.lst l)) := by
  have e : mPop (.obj p) [] S Q = (match S p with
    | some (.lst l) => ofO l.getLast? fun y => Q y (put S p (.lst l.dropLast))
    | _ => False) := rfl
  rw [e, h]
  simp [ofO]
theorem in_l3 {a b c d : String} : dIn false (.str a) (.lst [.str b, .str c, .str d]) S Q = Q (.bl (decide (a = b ∨ a = c ∨ a = d))) S := by
  have := in_lst (neg := false) (S := S) (Q := Q) (a := a) (l := [b, c, d])
  rw [show ([b, c, d].map D.str) = [D.str b, D.str c, D.str d] from rfl] at this
  rw [this]
  simp [DL.inR]
theorem slO_from {k : Nat} (h : S p = some (.lst l)) (hk : k ≤ l.length) : slD (.obj p) (some (k : Int)) none S Q = Q (.lst (l.drop k)) S := by
  show (ofO (asL S (.obj p)) fun l => Q (.lst (DL.cutD l (some (k : Int)) none)) S) = _
  rw [asL_obj h]
  show Q (.lst (DL.cutD l (some (k : Int)) none)) S = _
  unfold DL.cutD
  simp only [HT.sIx_nat, HT.sIx_none, Nat.min_eq_left hk]
  rw [List.take_of_length_le (by simp)]
theorem slM_to {k : Nat} (h : S p = some (.lst l)) (hk : k ≤ l.length) : slM (.obj p) none (some (k : Int)) S Q = ∀ q, S q = none → Q (.obj q) (put S q (.lst (l.take k))) := by
  show (ofO (asL S (.obj p)) fun l => ∀ q, S q = none → Q (.obj q) (put S q (.lst (DL.cutD l none (some (k : Int)))))) = _
  rw [asL_obj h]
  show (∀ q, S q = none → Q (.obj q) (put S q (.lst (DL.cutD l none (some (k : Int)))))) = _
  have : DL.cutD l none (some (k : Int)) = l.take k := by
    unfold DL.cutD
    simp only [HT.sIx_nat, HT.sIx_none, Nat.min_eq_left hk]
    simp
  rw [this]
end
end DL
/-! TN1: types, expressions, as data; typing; costs. -/
namespace TM
open DL
inductive Ty where
  | int | bool | unit | fn (a b : Ty) | pair (a b : Ty)
deriving DecidableEq
def Ty.d : Ty → D
  | .int => .tup [.str "int"]
  | .bool => .tup [.str "bool"]
  | .unit => .tup [.str "unit"]
  | .fn a b => .tup [.str "fun", a.d, b.d]
  | .pair a b => .tup [.str "pair", a.d, b.d]
def Ty.dp : Ty → Nat
  | .fn a b => max a.dp b.dp + 1
  | .pair a b => max a.dp b.dp + 1
  | _ => 0
def Ty.head : Ty → String
  | .int => "int"
  | .bool => "bool"
  | .unit => "unit"
  | .fn _ _ => "fun"
  | .pair _ _ => "pair"
theorem Ty.okN : ∀ t : Ty, OkN (t.dp + 1) t.d
  | .int => ⟨rfl, by decide⟩
  | .bool => ⟨rfl, by decide⟩
  | .unit => ⟨rfl, by decide⟩
  | .fn a b => by
    have ha := a.okN
    have hb := b.okN
    refine OkN.tup fun x hx => ?_
    simp at hx
    rcases hx with rfl | rfl | rfl
    · exact ⟨rfl, by simp [depD]⟩
    · exact ⟨ha.1, Nat.le_trans ha.2 (by simp [Ty.dp]; omega)⟩
    · exact ⟨hb.1, Nat.le_trans hb.2 (by simp [Ty.dp]; omega)⟩
  | .pair a b => by
    have ha := a.okN
    have hb := b.okN
    refine OkN.tup fun x hx => ?_
    simp at hx
    rcases hx with rfl | rfl | rfl
    · exact ⟨rfl, by simp [depD]⟩
    · exact ⟨ha.1, Nat.le_trans ha.2 (by simp [Ty.dp]; omega)⟩
    · exact ⟨hb.1, Nat.le_trans hb.2 (by simp [Ty.dp]; omega)⟩
theorem eqD_tup {l m : List D} : eqD (.tup l) (.tup m) = eqDs l m := by rw [eqD]
theorem eqDs_cons {x y : D} {l m : List D} : eqDs (x :: l) (y :: m) = (eqD x y && eqDs l m) := by rw [eqDs]
@[simp] theorem eqDs_nil : eqDs [] [] = true := by rw [eqDs]
@[simp] theorem eqDs_n1 {x : D} {l : List D} : eqDs [] (x :: l) = false := by rw [eqDs] <;> simp
@[simp] theorem eqDs_n2 {x : D} {l : List D} : eqDs (x :: l) [] = false := by rw [eqDs] <;> simp
theorem Ty.eq : ∀ a b : Ty, eqD a.d b.d = decide (a = b)
  | .int, .int => by simp [Ty.d, eqD_tup, eqDs_cons]
  | .int, .bool => by simp [Ty.d, eqD_tup, eqDs_cons]
  | .int, .unit => by simp [Ty.d, eqD_tup, eqDs_cons]
  | .int, .fn _ _ => by simp [Ty.d, eqD_tup, eqDs_cons]
  | .int, .pair _ _ => by simp [Ty.d, eqD_tup, eqDs_cons]
  | .bool, .int => by simp [Ty.d, eqD_tup, eqDs_cons]
  | .bool, .bool => by simp [Ty.d, eqD_tup, eqDs_cons]
  | .bool, .unit => by simp [Ty.d, eqD_tup, eqDs_cons]
  | .bool, .fn _ _ => by simp [Ty.d, eqD_tup, eqDs_cons]
  | .bool, .pair _ _ => by simp [Ty.d, eqD_tup, eqDs_cons]
  | .unit, .int => by simp [Ty.d, eqD_tup, eqDs_cons]
  | .unit, .bool => by simp [Ty.d, eqD_tup, eqDs_cons]
  | .unit, .unit => by simp [Ty.d, eqD_tup, eqDs_cons]
  | .unit, .fn _ _ => by simp [Ty.d, eqD_tup, eqDs_cons]
  | .unit, .pair _ _ => by simp [Ty.d, eqD_tup, eqDs_cons]
  | .fn _ _, .int => by simp [Ty.d, eqD_tup, eqDs_cons]
  | .fn _ _, .bool => by simp [Ty.d, eqD_tup, eqDs_cons]
  | .fn _ _, .unit => by simp [Ty.d, eqD_tup, eqDs_cons]
  | .fn a b, .fn c d => by simp [Ty.d, eqD_tup, eqDs_cons, Ty.eq a c, Ty.eq b d]
  | .fn _ _, .pair _ _ => by simp [Ty.d, eqD_tup, eqDs_cons]
  | .pair _ _, .int => by simp [Ty.d, eqD_tup, eqDs_cons]
  | .pair _ _, .bool => by simp [Ty.d, eqD_tup, eqDs_cons]
  | .pair _ _, .unit => by simp [Ty.d, eqD_tup, eqDs_cons]
  | .pair _ _, .fn _ _ => by simp [Ty.d, eqD_tup, eqDs_cons]
  | .pair a b, .pair c d => by simp [Ty.d, eqD_tup, eqDs_cons, Ty.eq a c, Ty.eq b d]

mutual
inductive Tm where
  | num (i : Int) | flag (b : Bool) | unit | name (x : String)
  | fn (x : String) (b : Tm) | rc (f x : String) (b : Tm)
  | lt (x : String) (a b : Tm) | op (s : String) (a b : Tm) | ask (o : String) (a : Tm)
  | fst (a : Tm) | snd (a : Tm) | nt (a : Tm)
  | ite (a b c : Tm) | call (a b : Tm) | pair (a b : Tm) | prt (a b : Tm)
  | han (e : Tm) (r : String) (b : Tm) (cs : Cls)
inductive Cls where
  | nil
  | cons (o x k : String) (b : Tm) (r : Cls)
end
mutual
def Tm.d : Tm → D
  | .num i => .tup [.str "num", .int i]
  | .flag b => .tup [.str "flag", .bl b]
  | .unit => .tup [.str "unit"]
  | .name x => .tup [.str "name", .str x]
  | .fn x b => .tup [.str "fun", .str x, b.d]
  | .rc f x b => .tup [.str "rec", .str f, .str x, b.d]
  | .lt x a b => .tup [.str "let", .str x, a.d, b.d]
  | .op s a b => .tup [.str "op", .str s, a.d, b.d]
  | .ask o a => .tup [.str "ask", .str o, a.d]
  | .fst a => .tup [.str "fst", a.d]
  | .snd a => .tup [.str "snd", a.d]
  | .nt a => .tup [.str "not", a.d]
  | .ite a b c => .tup [.str "if", a.d, b.d, c.d]
  | .call a b => .tup [.str "call", a.d, b.d]
  | .pair a b => .tup [.str "pair", a.d, b.d]
  | .prt a b => .tup [.str "print", a.d, b.d]
  | .han e r b cs => .tup [.str "handle", e.d, .tup [.str r, b.d], .tup cs.d]
def Cls.d : Cls → List D
  | .nil => []
  | .cons o x k b r => .tup [.str o, .str x, .str k, b.d] :: r.d
end
def Cls.len : Cls → Nat
  | .nil => 0
  | .cons _ _ _ _ r => r.len + 1
def Cls.app : Cls → Cls → Cls
  | .nil, c => c
  | .cons o x k b r, c => .cons o x k b (r.app c)
theorem Cls.d_len : ∀ c : Cls, c.d.length = c.len
  | .nil => rfl
  | .cons _ _ _ _ r => by rw [Cls.d, List.length_cons, Cls.d_len r]; rfl
theorem Cls.d_app : ∀ a b : Cls, (a.app b).d = a.d ++ b.d
  | .nil, b => by rw [Cls.app, Cls.d, List.nil_append]
  | .cons o x k t r, b => by rw [Cls.app, Cls.d, Cls.d, Cls.d_app r b, List.cons_append]
def Cls.ops : Cls → List String
  | .nil => []
  | .cons o _ _ _ r => o :: r.ops
theorem Cls.ops_app : ∀ a b : Cls, (a.app b).ops = a.ops ++ b.ops
  | .nil, b => rfl
  | .cons o x k t r, b => by rw [Cls.app, Cls.ops, Cls.ops, Cls.ops_app r b, List.cons_append]
theorem Cls.len_app : ∀ a b : Cls, (a.app b).len = a.len + b.len
  | .nil, b => by simp [Cls.app, Cls.len]
  | .cons o x k t r, b => by simp [Cls.app, Cls.len, Cls.len_app r b]; omega
mutual
/-- how many expressions stand in it -/
def Tm.sz : Tm → Nat
  | .num _ => 1 | .flag _ => 1 | .unit => 1 | .name _ => 1
  | .fn _ b => b.sz + 1 | .rc _ _ b => b.sz + 1
  | .lt _ a b => a.sz + b.sz + 1 | .op _ a b => a.sz + b.sz + 1 | .ask _ a => a.sz + 1
  | .fst a => a.sz + 1 | .snd a => a.sz + 1 | .nt a => a.sz + 1
  | .ite a b c => a.sz + b.sz + c.sz + 1 | .call a b => a.sz + b.sz + 1 | .pair a b => a.sz + b.sz + 1 | .prt a b => a.sz + b.sz + 1
  | .han e _ b cs => e.sz + b.sz + cs.sz + 1
def Cls.sz : Cls → Nat
  | .nil => 0
  | .cons _ _ _ b r => b.sz + r.sz
end
mutual
/-- how deep it is, a clause's place counted thrice -/
def Tm.dep : Tm → Nat
  | .num _ => 0 | .flag _ => 0 | .unit => 0 | .name _ => 0
  | .fn _ b => b.dep + 1 | .rc _ _ b => b.dep + 1
  | .lt _ a b => max a.dep b.dep + 1 | .op _ a b => max a.dep b.dep + 1 | .ask _ a => a.dep + 1
  | .fst a => a.dep + 1 | .snd a => a.dep + 1 | .nt a => a.dep + 1
  | .ite a b c => max a.dep (max b.dep c.dep) + 1 | .call a b => max a.dep b.dep + 1 | .pair a b => max a.dep b.dep + 1 | .prt a b => max a.dep b.dep + 1
  | .han e _ b cs => max e.dep (max b.dep cs.dep) + 3
def Cls.dep : Cls → Nat
  | .nil => 0
  | .cons _ _ _ b r => max b.dep r.dep
end
theorem Cls.sz_app : ∀ a b : Cls, (a.app b).sz = a.sz + b.sz
  | .nil, b => by simp [Cls.app, Cls.sz]
  | .cons o x k t r, b => by simp [Cls.app, Cls.sz, Cls.sz_app r b]; omega
theorem Cls.dep_app : ∀ a b : Cls, (a.app b).dep = max a.dep b.dep
  | .nil, b => by simp [Cls.app, Cls.dep]
  | .cons o x k t r, b => by simp [Cls.app, Cls.dep, Cls.dep_app r b]
mutual
/-- names of P, short operations, small numbers, few clauses -/
def Tm.ok (P : String → Prop) : Tm → Prop
  | .num i => i.natAbs < 2 ^ 32
  | .flag _ => True
  | .unit => True
  | .name x => P x
  | .fn x b => P x ∧ b.ok P
  | .rc f x b => P f ∧ P x ∧ b.ok P
  | .lt x a b => P x ∧ a.ok P ∧ b.ok P
  | .op s a b => s.length ≤ 8 ∧ a.ok P ∧ b.ok P
  | .ask o a => o.length ≤ 8 ∧ a.ok P
  | .fst a => a.ok P
  | .snd a => a.ok P
  | .nt a => a.ok P
  | .ite a b c => a.ok P ∧ b.ok P ∧ c.ok P
  | .call a b => a.ok P ∧ b.ok P
  | .pair a b => a.ok P ∧ b.ok P
  | .prt a b => a.ok P ∧ b.ok P
  | .han e r b cs => P r ∧ e.ok P ∧ b.ok P ∧ cs.len ≤ 4 ∧ cs.ok P
def Cls.ok (P : String → Prop) : Cls → Prop
  | .nil => True
  | .cons o x k b r => o.length ≤ 8 ∧ P x ∧ P k ∧ b.ok P ∧ r.ok P
end
theorem Cls.ok_app {P : String → Prop} : ∀ {a b : Cls}, a.ok P → b.ok P → (a.app b).ok P
  | .nil, b, _, h => h
  | .cons o x k t r, b, h, g => by
    simp only [Cls.app, Cls.ok] at h ⊢
    exact ⟨h.1, h.2.1, h.2.2.1, h.2.2.2.1, Cls.ok_app h.2.2.2.2 g⟩

/-! ### typing -/
abbrev Ops := List (String × Ty × Ty)
abbrev Cn := List (String × Ty)
inductive Sg : String → Ty → Prop
  | add : Sg "+" .int
  | sub : Sg "-" .int
  | mul : Sg "*" .int
  | lt : Sg "<" .bool
  | eq : Sg "==" .bool
mutual
inductive Has (ops : Ops) : Cn → Tm → Ty → Prop
  | num {Γ} (i : Int) : Has ops Γ (.num i) .int
  | flag {Γ} (b : Bool) : Has ops Γ (.flag b) .bool
  | unit {Γ} : Has ops Γ .unit .unit
  | name {Γ x τ} : Γ.lookup x = some τ → Has ops Γ (.name x) τ
  | fn {Γ x a b τ} : Has ops ((x, a) :: Γ) b τ → Has ops Γ (.fn x b) (.fn a τ)
  | rc {Γ f x a b τ} : Has ops ((x, a) :: (f, .fn a τ) :: Γ) b τ → Has ops Γ (.rc f x b) (.fn a τ)
  | lt {Γ x a b σ τ} : Has ops Γ a σ → Has ops ((x, σ) :: Γ) b τ → Has ops Γ (.lt x a b) τ
  | op {Γ s a b τ} : Sg s τ → Has ops Γ a .int → Has ops Γ b .int → Has ops Γ (.op s a b) τ
  | ask {Γ o a α β} : ops.lookup o = some (α, β) → Has ops Γ a α → Has ops Γ (.ask o a) β
  | fst {Γ a σ τ} : Has ops Γ a (.pair σ τ) → Has ops Γ (.fst a) σ
  | snd {Γ a σ τ} : Has ops Γ a (.pair σ τ) → Has ops Γ (.snd a) τ
  | nt {Γ a} : Has ops Γ a .bool → Has ops Γ (.nt a) .bool
  | ite {Γ a b c τ} : Has ops Γ a .bool → Has ops Γ b τ → Has ops Γ c τ → Has ops Γ (.ite a b c) τ
  | call {Γ a b σ τ} : Has ops Γ a (.fn σ τ) → Has ops Γ b σ → Has ops Γ (.call a b) τ
  | pair {Γ a b σ τ} : Has ops Γ a σ → Has ops Γ b τ → (Ty.pair σ τ).dp ≤ 20 → Has ops Γ (.pair a b) (.pair σ τ)
  | prt {Γ a b τ} : Has ops Γ a .int → Has ops Γ b τ → Has ops Γ (.prt a b) τ
  | han {Γ e r b cs σ τ} : Has ops Γ e σ → Has ops ((r, σ) :: Γ) b τ → HasC ops Γ cs τ → cs.ops.Nodup → Has ops Γ (.han e r b cs) τ
inductive HasC (ops : Ops) : Cn → Cls → Ty → Prop
  | nil {Γ τ} : HasC ops Γ .nil τ
  | cons {Γ o x k b r α β τ} : ops.lookup o = some (α, β) → Has ops ((k, .fn β τ) :: (x, α) :: Γ) b τ → HasC ops Γ r τ → HasC ops Γ (.cons o x k b r) τ
end
theorem HasC.app {ops : Ops} {Γ : Cn} {τ : Ty} : ∀ {a b : Cls}, HasC ops Γ a τ → HasC ops Γ b τ → HasC ops Γ (a.app b) τ
  | .nil, b, _, h => h
  | .cons o x k t r, b, .cons h1 h2 h3, g => .cons h1 h2 (HasC.app h3 g)
/-! ### costs -/
mutual
/-- micro-steps of an expression, each of its parts once -/
def Tm.cost : Tm → Nat
  | .num _ => 1 | .flag _ => 1 | .unit => 1 | .name _ => 1
  | .fn _ _ => 1 | .rc _ _ _ => 1
  | .lt _ a b => a.cost + b.cost + 2 | .op _ a b => a.cost + b.cost + 3 | .ask _ a => a.cost + 2
  | .fst a => a.cost + 2 | .snd a => a.cost + 2 | .nt a => a.cost + 2
  | .ite a b c => a.cost + max b.cost c.cost + 2 | .call a b => a.cost + b.cost + 3 | .pair a b => a.cost + b.cost + 3 | .prt a b => a.cost + b.cost + 2
  | .han e _ b _ => e.cost + b.cost + 2
end
mutual
/-- bodies of functions and clauses cost at most B; functions that call themselves have a name; numbers are small -/
def Tm.gd0 (B : Nat) : Tm → Prop
  | .num i => i.natAbs < 2 ^ 32
  | .flag _ => True
  | .unit => True
  | .name _ => True
  | .fn _ b => b.cost ≤ B ∧ b.gd0 B
  | .rc f _ b => f ≠ "" ∧ b.cost ≤ B ∧ b.gd0 B
  | .lt _ a b => a.gd0 B ∧ b.gd0 B
  | .op _ a b => a.gd0 B ∧ b.gd0 B
  | .ask _ a => a.gd0 B
  | .fst a => a.gd0 B
  | .snd a => a.gd0 B
  | .nt a => a.gd0 B
  | .ite a b c => a.gd0 B ∧ b.gd0 B ∧ c.gd0 B
  | .call a b => a.gd0 B ∧ b.gd0 B
  | .pair a b => a.gd0 B ∧ b.gd0 B
  | .prt a b => a.gd0 B ∧ b.gd0 B
  | .han e _ b cs => e.gd0 B ∧ b.gd0 B ∧ cs.gd0 B ∧ cs.len ≤ 4
def Cls.gd0 (B : Nat) : Cls → Prop
  | .nil => True
  | .cons _ _ _ b r => b.cost ≤ B ∧ b.gd0 B ∧ r.gd0 B
end
/-- and it is not deep -/
def Tm.gd (B : Nat) (t : Tm) : Prop := t.gd0 B ∧ t.dep ≤ 40
def Cls.gd (B : Nat) (c : Cls) : Prop := c.gd0 B ∧ c.dep ≤ 40
theorem Tm.cost_pos : ∀ t : Tm, 1 ≤ t.cost
  | .num _ => Nat.le_refl 1 | .flag _ => Nat.le_refl 1 | .unit => Nat.le_refl 1 | .name _ => Nat.le_refl 1
  | .fn _ _ => Nat.le_refl 1 | .rc _ _ _ => Nat.le_refl 1
  | .lt _ a b => by simp only [Tm.cost]; omega
  | .op _ a b => by simp only [Tm.cost]; omega
  | .ask _ a => by simp only [Tm.cost]; omega
  | .fst a => by simp only [Tm.cost]; omega
  | .snd a => by simp only [Tm.cost]; omega
  | .nt a => by simp only [Tm.cost]; omega
  | .ite a b c => by simp only [Tm.cost]; omega
  | .call a b => by simp only [Tm.cost]; omega
  | .pair a b => by simp only [Tm.cost]; omega
  | .prt a b => by simp only [Tm.cost]; omega
  | .han e _ b _ => by simp only [Tm.cost]; omega
theorem Cls.gd0_app {B : Nat} : ∀ {a b : Cls}, a.gd0 B → b.gd0 B → (a.app b).gd0 B
  | .nil, b, _, h => h
  | .cons o x k t r, b, h, g => by
    simp only [Cls.app, Cls.gd0] at h ⊢
    exact ⟨h.1, h.2.1, Cls.gd0_app h.2.2 g⟩
section
variable {B : Nat} {a b c : Tm} {f x o s : String} {cs : Cls}
theorem gd_num {i : Int} (h : (Tm.num i).gd B) : i.natAbs < 2 ^ 32 := h.1
theorem gd_fn (h : (Tm.fn x b).gd B) : b.cost ≤ B ∧ b.gd B := ⟨h.1.1, h.1.2, by have := h.2; simp only [Tm.dep] at this; omega⟩
theorem gd_rc (h : (Tm.rc f x b).gd B) : f ≠ "" ∧ b.cost ≤ B ∧ b.gd B := ⟨h.1.1, h.1.2.1, h.1.2.2, by have := h.2; simp only [Tm.dep] at this; omega⟩
theorem gd_lt (h : (Tm.lt x a b).gd B) : a.gd B ∧ b.gd B := by
  have := h.2; simp only [Tm.dep] at this; exact ⟨⟨h.1.1, by omega⟩, h.1.2, by omega⟩
theorem gd_op (h : (Tm.op s a b).gd B) : a.gd B ∧ b.gd B := by
  have := h.2; simp only [Tm.dep] at this; exact ⟨⟨h.1.1, by omega⟩, h.1.2, by omega⟩
theorem gd_call (h : (Tm.call a b).gd B) : a.gd B ∧ b.gd B := by
  have := h.2; simp only [Tm.dep] at this; exact ⟨⟨h.1.1, by omega⟩, h.1.2, by omega⟩
theorem gd_pair (h : (Tm.pair a b).gd B) : a.gd B ∧ b.gd B := by
  have := h.2; simp only [Tm.dep] at this; exact ⟨⟨h.1.1, by omega⟩, h.1.2, by omega⟩
theorem gd_prt (h : (Tm.prt a b).gd B) : a.gd B ∧ b.gd B := by
  have := h.2; simp only [Tm.dep] at this; exact ⟨⟨h.1.1, by omega⟩, h.1.2, by omega⟩
theorem gd_ask (h : (Tm.ask o a).gd B) : a.gd B := ⟨h.1, by have := h.2; simp only [Tm.dep] at this; omega⟩
theorem gd_fst (h : (Tm.fst a).gd B) : a.gd B := ⟨h.1, by have := h.2; simp only [Tm.dep] at this; omega⟩
theorem gd_snd (h : (Tm.snd a).gd B) : a.gd B := ⟨h.1, by have := h.2; simp only [Tm.dep] at this; omega⟩
theorem gd_nt (h : (Tm.nt a).gd B) : a.gd B := ⟨h.1, by have := h.2; simp only [Tm.dep] at this; omega⟩
theorem gd_ite (h : (Tm.ite a b c).gd B) : a.gd B ∧ b.gd B ∧ c.gd B := by
  have := h.2; simp only [Tm.dep] at this; exact ⟨⟨h.1.1, by omega⟩, ⟨h.1.2.1, by omega⟩, h.1.2.2, by omega⟩
theorem gd_han (h : (Tm.han a x b cs).gd B) : a.gd B ∧ b.gd B ∧ cs.gd B := by
  have := h.2; simp only [Tm.dep] at this; exact ⟨⟨h.1.1, by omega⟩, ⟨h.1.2.1, by omega⟩, h.1.2.2.1, by omega⟩
theorem gd_len (h : (Tm.han a x b cs).gd B) : cs.len ≤ 4 := h.1.2.2.2
theorem gd_cons {k : String} (h : (Cls.cons o x k b cs).gd B) : b.cost ≤ B ∧ b.gd B ∧ cs.gd B := by
  have := h.2; simp only [Cls.dep] at this; exact ⟨h.1.1, ⟨h.1.2.1, by omega⟩, h.1.2.2, by omega⟩
end
/-- leaves of nested pairs; nodes; no function in it -/
def Ty.lv : Ty → Nat
  | .pair a b => a.lv + b.lv
  | _ => 1
def Ty.nd : Ty → Nat
  | .fn a b => a.nd + b.nd + 1
  | .pair a b => a.nd + b.nd + 1
  | _ => 1
def Ty.plain : Ty → Bool
  | .fn _ _ => false
  | .pair a b => a.plain && b.plain
  | _ => true
theorem Ty.lv_pos : ∀ t : Ty, 1 ≤ t.lv
  | .int => Nat.le_refl 1
  | .bool => Nat.le_refl 1
  | .unit => Nat.le_refl 1
  | .fn _ _ => Nat.le_refl 1
  | .pair a b => by have := a.lv_pos; have := b.lv_pos; simp only [Ty.lv]; omega
theorem Ty.lv_dp : ∀ t : Ty, t.lv ≤ 2 ^ t.dp
  | .int => by decide
  | .bool => by decide
  | .unit => by decide
  | .fn a b => Nat.two_pow_pos _
  | .pair a b => by
    have h1 := a.lv_dp
    have h2 := b.lv_dp
    have e1 : 2 ^ a.dp ≤ 2 ^ (max a.dp b.dp) := Nat.pow_le_pow_right (by omega) (by omega)
    have e2 : 2 ^ b.dp ≤ 2 ^ (max a.dp b.dp) := Nat.pow_le_pow_right (by omega) (by omega)
    simp only [Ty.lv, Ty.dp, Nat.pow_succ]
    omega
theorem Ty.nd_dp : ∀ t : Ty, t.nd + 1 ≤ 2 ^ (t.dp + 1)
  | .int => by decide
  | .bool => by decide
  | .unit => by decide
  | .fn a b => by
    have h1 := a.nd_dp
    have h2 := b.nd_dp
    have e1 : 2 ^ (a.dp + 1) ≤ 2 ^ (max a.dp b.dp + 1) := Nat.pow_le_pow_right (by omega) (by omega)
    have e2 : 2 ^ (b.dp + 1) ≤ 2 ^ (max a.dp b.dp + 1) := Nat.pow_le_pow_right (by omega) (by omega)
    have e3 : 2 ^ (max a.dp b.dp + 1 + 1) = 2 * 2 ^ (max a.dp b.dp + 1) := by rw [Nat.pow_succ]; omega
    simp only [Ty.nd, Ty.dp]
    omega
  | .pair a b => by
    have h1 := a.nd_dp
    have h2 := b.nd_dp
    have e1 : 2 ^ (a.dp + 1) ≤ 2 ^ (max a.dp b.dp + 1) := Nat.pow_le_pow_right (by omega) (by omega)
    have e2 : 2 ^ (b.dp + 1) ≤ 2 ^ (max a.dp b.dp + 1) := Nat.pow_le_pow_right (by omega) (by omega)
    have e3 : 2 ^ (max a.dp b.dp + 1 + 1) = 2 * 2 ^ (max a.dp b.dp + 1) := by rw [Nat.pow_succ]; omega
    simp only [Ty.nd, Ty.dp]
    omega
end TM
/-! TN3: the meaning: bindings and a list of waiting expressions; every frame bears tokens, one for each micro-step that it may cost. -/
namespace TM
open DL
mutual
inductive Val where
  | int (i : Int) | bool (b : Bool) | unit | pair (a b : Val)
  | fn (f x : String) (b : Tm) (e : Env)
  | kept (fs : List Fr)
inductive Env where
  | nil
  | cons (x : String) (v : Val) (e : Env)
inductive Fr where
  | a (t : Tm) (e : Env) (k : List Nat)
  | b (t : Tm) (e : Env) (v : Val) (k : List Nat)
end
def Env.find : Env → String → Option Val
  | .nil, _ => none
  | .cons y v e, x => if y = x then some v else e.find x
inductive Res where
  | steps | unhandled (o : String) | val (v : Val)
inductive Cur where
  | ev (t : Tm) (e : Env) (k : List Nat)
  | rt (v : Val)
  | dn (r : Res)
structure LS where
  cur : Cur
  fs : List Fr
  left : Nat
  pr : List Int
  an : List (String × String × String × Tm)
  nx : Nat
def Fr.tk : Fr → List Nat
  | .a _ _ k => k
  | .b _ _ _ k => k
def toks (fs : List Fr) : List Nat := fs.flatMap Fr.tk
def cut32 (i : Int) : Int := (i + 2147483648) % 4294967296 - 2147483648
def oper (s : String) (i j : Int) : Option Val :=
  if s = "<" then some (.bool (decide (i < j)))
  else if s = "==" then some (.bool (i == j))
  else if s = "+" then some (.int (cut32 (i + j)))
  else if s = "-" then some (.int (cut32 (i - j)))
  else if s = "*" then some (.int (cut32 (i * j)))
  else none
def Cls.find : Cls → String → Option (String × String × Tm)
  | .nil, _ => none
  | .cons o x k b r, y => if o = y then some (x, k, b) else r.find y
/-- the innermost handler that answers: what is inside of it and itself, its bindings, its clause, what is outside -/
def split (o : String) : List Fr → Option (List Fr × Env × (String × String × Tm) × List Fr)
  | [] => none
  | .a (.han e0 r b cs) e k :: fs => match cs.find o with
    | some c => some ([.a (.han e0 r b cs) e k], e, c, fs)
    | none => match split o fs with
      | some (i, e', c, out) => some (.a (.han e0 r b cs) e k :: i, e', c, out)
      | none => none
  | f :: fs => match split o fs with
    | some (i, e', c, out) => some (f :: i, e', c, out)
    | none => none
def fresh (n c : Nat) : List Nat := (List.range c).map (n + ·)
/-- an expression is begun -/
def first : Tm → Option Tm
  | .lt _ a _ => some a | .op _ a _ => some a | .ask _ a => some a
  | .fst a => some a | .snd a => some a | .nt a => some a
  | .ite a _ _ => some a | .call a _ => some a | .pair a _ => some a | .prt a _ => some a
  | .han e _ _ _ => some e
  | _ => none
def into (s : LS) (t : Tm) (e : Env) (k : List Nat) : Option LS := match t with
  | .num i => some { s with cur := .rt (.int i) }
  | .flag b => some { s with cur := .rt (.bool b) }
  | .unit => some { s with cur := .rt .unit }
  | .name x => match e.find x with
    | some v => some { s with cur := .rt v }
    | none => none
  | .fn x b => some { s with cur := .rt (.fn "" x b e) }
  | .rc f x b => some { s with cur := .rt (.fn f x b e) }
  | t => match first t with
    | some p => some { s with cur := .ev p e ((k.drop 1).take p.cost), fs := .a t e (k.drop (1 + p.cost)) :: s.fs }
    | none => none
def callV (s : LS) (u v : Val) : Option LS :=
  if s.left = 0 then some { s with cur := .dn .steps }
  else match u with
    | .kept g => some { s with cur := .rt v, fs := g ++ s.fs, left := s.left - 1 }
    | .fn f x b e => some { s with cur := .ev b (.cons x v (if f = "" then e else .cons f u e)) (fresh s.nx b.cost), left := s.left - 1, nx := s.nx + b.cost }
    | _ => none
def askV (s : LS) (o : String) (v : Val) : Option LS :=
  if s.left = 0 then some { s with cur := .dn .steps }
  else match split o s.fs with
    | some (i, e, (x, k, b), out) => some { s with cur := .ev b (.cons k (.kept i) (.cons x v e)) (fresh s.nx b.cost), fs := out, left := s.left - 1, an := s.an ++ [(o, x, k, b)], nx := s.nx + b.cost }
    | none => some { s with cur := .dn (.unhandled o), left := s.left - 1 }
/-- a value is given to the innermost frame; s is the state without it -/
def back (s : LS) (f : Fr) (v : Val) : Option LS := match f with
  | .a (.call a b) e k => some { s with cur := .ev b e ((k.drop 1).take b.cost), fs := .b (.call a b) e v (k.drop (1 + b.cost)) :: s.fs }
  | .a (.pair a b) e k => some { s with cur := .ev b e ((k.drop 1).take b.cost), fs := .b (.pair a b) e v (k.drop (1 + b.cost)) :: s.fs }
  | .a (.op o a b) e k => some { s with cur := .ev b e ((k.drop 1).take b.cost), fs := .b (.op o a b) e v (k.drop (1 + b.cost)) :: s.fs }
  | .a (.lt x _ b) e k => some { s with cur := .ev b (.cons x v e) (k.drop 1) }
  | .a (.ite _ b c) e k => match v with
    | .bool q => some { s with cur := .ev (if q then b else c) e (k.drop 1) }
    | _ => none
  | .a (.prt _ b) e k => match v with
    | .int i => some { s with cur := .ev b e (k.drop 1), pr := s.pr ++ [i] }
    | _ => none
  | .a (.ask o _) _ _ => askV s o v
  | .a (.han _ r b _) e k => some { s with cur := .ev b (.cons r v e) (k.drop 1) }
  | .a (.nt _) _ _ => match v with
    | .bool q => some { s with cur := .rt (.bool !q) }
    | _ => none
  | .a (.fst _) _ _ => match v with
    | .pair a _ => some { s with cur := .rt a }
    | _ => none
  | .a (.snd _) _ _ => match v with
    | .pair _ b => some { s with cur := .rt b }
    | _ => none
  | .b (.op o _ _) _ u _ => match u, v with
    | .int i, .int j => match oper o i j with
      | some w => some { s with cur := .rt w }
      | none => none
    | _, _ => none
  | .b (.pair _ _) _ u _ => some { s with cur := .rt (.pair u v) }
  | .b (.call _ _) _ u _ => callV s u v
  | _ => none
def LS.step (s : LS) : Option LS := match s.cur with
  | .ev t e k => into s t e k
  | .rt v => match s.fs with
    | [] => none
    | f :: fs => back { s with fs := fs } f v
  | .dn _ => none
def LS.res (s : LS) : Option Res := match s.cur with
  | .dn r => some r
  | .rt v => match s.fs with
    | [] => some (.val v)
    | _ => none
  | .ev _ _ _ => none
inductive LRun : Nat → LS → LS → Prop
  | done {s} : s.res ≠ none → LRun 0 s s
  | step {n s s' u} : s.step = some s' → LRun n s' u → LRun (n + 1) s u
def start (t : Tm) (n : Nat) : LS := ⟨.ev t .nil (fresh 0 t.cost), [], n, [], [], t.cost⟩
theorem step_res {s s' : LS} (h : s.step = some s') : s.res = none := by
  unfold LS.step at h
  unfold LS.res
  split at h
  · rename_i e; rw [e]
  · rename_i v e
    rw [e]
    dsimp only
    split at h
    · cases h
    · rename_i f fs e2
      rw [e2]
  · cases h
end TM
/-! TN4: typed states; tokens; every step keeps both. -/
namespace TM
open DL
mutual
/-- the tokens that a value holds -/
def Val.ids : Val → List Nat
  | .int _ => [] | .bool _ => [] | .unit => []
  | .pair a b => a.ids ++ b.ids
  | .fn _ _ _ e => e.ids
  | .kept fs => frIds fs
def Env.ids : Env → List Nat
  | .nil => []
  | .cons _ v e => v.ids ++ e.ids
/-- what a frame's values hold -/
def Fr.cids : Fr → List Nat
  | .a _ e _ => e.ids
  | .b _ e v _ => e.ids ++ v.ids
def frIds : List Fr → List Nat
  | [] => []
  | f :: fs => f.cids ++ (f.tk ++ frIds fs)
end
theorem frIds_tk {fs : List Fr} {x : Nat} (h : x ∈ toks fs) : x ∈ frIds fs := by
  induction fs with
  | nil => simp [toks] at h
  | cons f fs ih =>
    rw [toks, List.flatMap_cons, List.mem_append] at h
    rw [frIds, List.mem_append, List.mem_append]
    rcases h with h | h
    · exact .inr (.inl h)
    · exact .inr (.inr (ih h))
theorem frIds_cids {fs : List Fr} {f : Fr} {x : Nat} (hf : f ∈ fs) (h : x ∈ f.cids) : x ∈ frIds fs := by
  induction fs with
  | nil => cases hf
  | cons g fs ih =>
    rw [frIds, List.mem_append, List.mem_append]
    rcases List.mem_cons.mp hf with rfl | hf
    · exact .inl h
    · exact .inr (.inr (ih hf))
theorem frIds_of {fs : List Fr} {x : Nat} (h : x ∈ frIds fs) : x ∈ toks fs ∨ ∃ f ∈ fs, x ∈ f.cids := by
  induction fs with
  | nil => simp [frIds] at h
  | cons g fs ih =>
    rw [frIds, List.mem_append, List.mem_append] at h
    rw [toks, List.flatMap_cons, List.mem_append]
    rcases h with h | h | h
    · exact .inr ⟨g, by simp, h⟩
    · exact .inl (.inl h)
    · rcases ih h with h | ⟨f, hf, h⟩
      · exact .inl (.inr h)
      · exact .inr ⟨f, by simp [hf], h⟩
theorem toks_app {a b : List Fr} : toks (a ++ b) = toks a ++ toks b := by simp [toks]
theorem toks_cons {f : Fr} {b : List Fr} : toks (f :: b) = f.tk ++ toks b := by simp [toks]
mutual
inductive VT (ops : Ops) (B N : Nat) : Val → Ty → Prop
  | int {i : Int} : i.natAbs < 2 ^ 32 → VT ops B N (.int i) .int
  | bool {b : Bool} : VT ops B N (.bool b) .bool
  | unit : VT ops B N .unit .unit
  | pair {a b σ τ} : VT ops B N a σ → VT ops B N b τ → (Ty.pair σ τ).dp ≤ 20 → VT ops B N (.pair a b) (.pair σ τ)
  | fn {Γ x b e a τ} : ET ops B N e Γ → Has ops ((x, a) :: Γ) b τ → b.gd B → b.cost ≤ B → VT ops B N (.fn "" x b e) (.fn a τ)
  | rc {Γ f x b e a τ} : f ≠ "" → ET ops B N e Γ → Has ops ((x, a) :: (f, .fn a τ) :: Γ) b τ → b.gd B → b.cost ≤ B → VT ops B N (.fn f x b e) (.fn a τ)
  | kept {fs β τ} : ST ops B N fs β τ → (toks fs).Nodup → (∀ k ∈ toks fs, k < N) → β.plain = true → VT ops B N (.kept fs) (.fn β τ)
inductive ET (ops : Ops) (B N : Nat) : Env → Cn → Prop
  | nil : ET ops B N .nil []
  | cons {x v e σ Γ} : VT ops B N v σ → ET ops B N e Γ → ET ops B N (.cons x v e) ((x, σ) :: Γ)
inductive FT (ops : Ops) (B N : Nat) : Fr → Ty → Ty → Prop
  | call1 {Γ a b e k σ τ} : ET ops B N e Γ → Has ops Γ b σ → b.gd B → b.cost + 2 ≤ k.length → FT ops B N (.a (.call a b) e k) (.fn σ τ) τ
  | pair1 {Γ a b e k σ τ} : ET ops B N e Γ → Has ops Γ b τ → b.gd B → b.cost + 2 ≤ k.length → (Ty.pair σ τ).dp ≤ 20 → FT ops B N (.a (.pair a b) e k) σ (.pair σ τ)
  | op1 {Γ s a b e k τ} : Sg s τ → ET ops B N e Γ → Has ops Γ b .int → b.gd B → b.cost + 2 ≤ k.length → FT ops B N (.a (.op s a b) e k) .int τ
  | lt1 {Γ x a b e k σ τ} : ET ops B N e Γ → Has ops ((x, σ) :: Γ) b τ → b.gd B → b.cost + 1 ≤ k.length → FT ops B N (.a (.lt x a b) e k) σ τ
  | ite1 {Γ a b c e k τ} : ET ops B N e Γ → Has ops Γ b τ → Has ops Γ c τ → b.gd B → c.gd B → max b.cost c.cost + 1 ≤ k.length → FT ops B N (.a (.ite a b c) e k) .bool τ
  | prt1 {Γ a b e k τ} : ET ops B N e Γ → Has ops Γ b τ → b.gd B → b.cost + 1 ≤ k.length → FT ops B N (.a (.prt a b) e k) .int τ
  | ask1 {Γ o a e k α β} : ET ops B N e Γ → ops.lookup o = some (α, β) → 1 ≤ k.length → FT ops B N (.a (.ask o a) e k) α β
  | han1 {Γ e0 r b cs e k σ τ} : ET ops B N e Γ → Has ops ((r, σ) :: Γ) b τ → b.gd B → HasC ops Γ cs τ → cs.gd B → b.cost + 1 ≤ k.length → FT ops B N (.a (.han e0 r b cs) e k) σ τ
  | nt1 {Γ a e k} : ET ops B N e Γ → 1 ≤ k.length → FT ops B N (.a (.nt a) e k) .bool .bool
  | fst1 {Γ a e k σ τ} : ET ops B N e Γ → 1 ≤ k.length → FT ops B N (.a (.fst a) e k) (.pair σ τ) σ
  | snd1 {Γ a e k σ τ} : ET ops B N e Γ → 1 ≤ k.length → FT ops B N (.a (.snd a) e k) (.pair σ τ) τ
  | op2 {Γ s a b e v k τ} : ET ops B N e Γ → Sg s τ → VT ops B N v .int → 1 ≤ k.length → FT ops B N (.b (.op s a b) e v k) .int τ
  | pair2 {Γ a b e v k σ τ} : ET ops B N e Γ → VT ops B N v σ → (Ty.pair σ τ).dp ≤ 20 → 1 ≤ k.length → FT ops B N (.b (.pair a b) e v k) τ (.pair σ τ)
  | call2 {Γ a b e v k σ τ} : ET ops B N e Γ → VT ops B N v (.fn σ τ) → 1 ≤ k.length → FT ops B N (.b (.call a b) e v k) σ τ
inductive ST (ops : Ops) (B N : Nat) : List Fr → Ty → Ty → Prop
  | nil {τ} : ST ops B N [] τ τ
  | cons {f fs σ ρ τ} : FT ops B N f σ ρ → (∀ x ∈ f.tk ++ toks fs, x ∉ f.cids) → ST ops B N fs ρ τ → ST ops B N (f :: fs) σ τ
end
mutual
theorem VT.up {ops : Ops} {B N M : Nat} (w : N ≤ M) : ∀ {v : Val} {τ : Ty}, VT ops B N v τ → VT ops B M v τ
  | _, _, .int h => .int h
  | _, _, .bool => .bool
  | _, _, .unit => .unit
  | _, _, .pair a b d => .pair (a.up w) (b.up w) d
  | _, _, .fn e h g c => .fn (e.up w) h g c
  | _, _, .rc f e h g c => .rc f (e.up w) h g c
  | _, _, .kept s n l p => .kept (s.up w) n (fun k hk => Nat.lt_of_lt_of_le (l k hk) w) p
theorem ET.up {ops : Ops} {B N M : Nat} (w : N ≤ M) : ∀ {e : Env} {Γ : Cn}, ET ops B N e Γ → ET ops B M e Γ
  | _, _, .nil => .nil
  | _, _, .cons v e => .cons (v.up w) (e.up w)
theorem FT.up {ops : Ops} {B N M : Nat} (w : N ≤ M) : ∀ {f : Fr} {σ τ : Ty}, FT ops B N f σ τ → FT ops B M f σ τ
  | _, _, _, .call1 e h g l => .call1 (e.up w) h g l
  | _, _, _, .pair1 e h g l d => .pair1 (e.up w) h g l d
  | _, _, _, .op1 s e h g l => .op1 s (e.up w) h g l
  | _, _, _, .lt1 e h g l => .lt1 (e.up w) h g l
  | _, _, _, .ite1 e h i g j l => .ite1 (e.up w) h i g j l
  | _, _, _, .prt1 e h g l => .prt1 (e.up w) h g l
  | _, _, _, .ask1 e h l => .ask1 (e.up w) h l
  | _, _, _, .han1 e h g c d l => .han1 (e.up w) h g c d l
  | _, _, _, .nt1 e l => .nt1 (e.up w) l
  | _, _, _, .fst1 e l => .fst1 (e.up w) l
  | _, _, _, .snd1 e l => .snd1 (e.up w) l
  | _, _, _, .op2 e s v l => .op2 (e.up w) s (v.up w) l
  | _, _, _, .pair2 e v d l => .pair2 (e.up w) (v.up w) d l
  | _, _, _, .call2 e v l => .call2 (e.up w) (v.up w) l
theorem ST.up {ops : Ops} {B N M : Nat} (w : N ≤ M) : ∀ {fs : List Fr} {σ τ : Ty}, ST ops B N fs σ τ → ST ops B M fs σ τ
  | _, _, _, .nil => .nil
  | _, _, _, .cons f c s => .cons (f.up w) c (s.up w)
end
mutual
theorem VT.lt {ops : Ops} {B N : Nat} : ∀ {v : Val} {τ : Ty}, VT ops B N v τ → ∀ x ∈ v.ids, x < N
  | _, _, .int h, x, hx => by simp [Val.ids] at hx
  | _, _, .bool, x, hx => by simp [Val.ids] at hx
  | _, _, .unit, x, hx => by simp [Val.ids] at hx
  | _, _, .pair a b d, x, hx => by
    rw [Val.ids, List.mem_append] at hx
    exact hx.elim (a.lt x) (b.lt x)
  | _, _, .fn e h g c, x, hx => e.lt x hx
  | _, _, .rc f e h g c, x, hx => e.lt x hx
  | _, _, .kept s n l p, x, hx => s.lt l x hx
theorem ET.lt {ops : Ops} {B N : Nat} : ∀ {e : Env} {Γ : Cn}, ET ops B N e Γ → ∀ x ∈ e.ids, x < N
  | _, _, .nil, x, hx => by simp [Env.ids] at hx
  | _, _, .cons v e, x, hx => by
    rw [Env.ids, List.mem_append] at hx
    exact hx.elim (v.lt x) (e.lt x)
theorem FT.lt {ops : Ops} {B N : Nat} : ∀ {f : Fr} {σ τ : Ty}, FT ops B N f σ τ → ∀ x ∈ f.cids, x < N
  | _, _, _, .call1 e h g l => fun x hx => e.lt x hx
  | _, _, _, .pair1 e h g l d => fun x hx => e.lt x hx
  | _, _, _, .op1 s e h g l => fun x hx => e.lt x hx
  | _, _, _, .lt1 e h g l => fun x hx => e.lt x hx
  | _, _, _, .ite1 e h i g j l => fun x hx => e.lt x hx
  | _, _, _, .prt1 e h g l => fun x hx => e.lt x hx
  | _, _, _, .ask1 e h l => fun x hx => e.lt x hx
  | _, _, _, .han1 e h g c d l => fun x hx => e.lt x hx
  | _, _, _, .nt1 e l => fun x hx => e.lt x hx
  | _, _, _, .fst1 e l => fun x hx => e.lt x hx
  | _, _, _, .snd1 e l => fun x hx => e.lt x hx
  | _, _, _, .op2 e s v l => fun x hx => by
    rw [Fr.cids, List.mem_append] at hx
    exact hx.elim (e.lt x) (v.lt x)
  | _, _, _, .pair2 e v d l => fun x hx => by
    rw [Fr.cids, List.mem_append] at hx
    exact hx.elim (e.lt x) (v.lt x)
  | _, _, _, .call2 e v l => fun x hx => by
    rw [Fr.cids, List.mem_append] at hx
    exact hx.elim (e.lt x) (v.lt x)
theorem ST.lt {ops : Ops} {B N : Nat} : ∀ {fs : List Fr} {σ τ : Ty}, ST ops B N fs σ τ → (∀ k ∈ toks fs, k < N) → ∀ x ∈ frIds fs, x < N
  | _, _, _, .nil, _, x, hx => by simp [frIds] at hx
  | _, _, _, .cons f c s, l, x, hx => by
    rw [frIds, List.mem_append, List.mem_append] at hx
    rcases hx with hx | hx | hx
    · exact f.lt x hx
    · exact l x (by rw [toks_cons, List.mem_append]; exact .inl hx)
    · exact s.lt (fun k hk => l k (by rw [toks_cons, List.mem_append]; exact .inr hk)) x hx
end
/-! ### pieces -/
theorem plain_ids {ops : Ops} {B N : Nat} : ∀ {v : Val} {τ : Ty}, VT ops B N v τ → τ.plain = true → v.ids = []
  | _, _, .int _, _ => rfl
  | _, _, .bool, _ => rfl
  | _, _, .unit, _ => rfl
  | _, _, .pair a b d, h => by
    have h' := Bool.and_eq_true_iff.mp (show (Ty.plain _ && Ty.plain _) = true from h)
    rw [Val.ids, plain_ids a h'.1, plain_ids b h'.2]; rfl
theorem ET.find {ops : Ops} {B N : Nat} : ∀ {e : Env} {Γ : Cn}, ET ops B N e Γ → ∀ {x : String} {τ : Ty}, Γ.lookup x = some τ → ∃ v, e.find x = some v ∧ VT ops B N v τ ∧ ∀ y ∈ v.ids, y ∈ e.ids
  | _, _, .nil, _, _, h => by cases h
  | _, _, .cons (x := y) (v := v) (σ := σ) hv e, x, τ, h => by
    rw [List.lookup_cons] at h
    by_cases c : x = y
    · subst c
      simp at h
      subst h
      exact ⟨v, by simp [Env.find], hv, fun z hz => by rw [Env.ids, List.mem_append]; exact .inl hz⟩
    · rw [beq_eq_false_iff_ne.mpr c] at h
      obtain ⟨u, h1, h2, h3⟩ := e.find h
      exact ⟨u, by rw [Env.find, if_neg fun z => c z.symm]; exact h1, h2, fun z hz => by rw [Env.ids, List.mem_append]; exact .inr (h3 z hz)⟩
theorem ST.app {ops : Ops} {B N : Nat} {fs : List Fr} {ρ τ : Ty} (h : ST ops B N fs ρ τ) : ∀ {g : List Fr} {σ : Ty}, ST ops B N g σ ρ → (∀ f ∈ g, ∀ x ∈ toks fs, x ∉ f.cids) → ST ops B N (g ++ fs) σ τ
  | _, _, .nil, _ => h
  | _, _, .cons (f := f) (fs := g') hf c s, w => .cons hf (fun x hx => by
      have hx : x ∈ f.tk ++ toks (g' ++ fs) := hx
      rw [toks_app, List.mem_append, List.mem_append] at hx
      rcases hx with hx | hx | hx
      · exact c x (List.mem_append.mpr (.inl hx))
      · exact c x (List.mem_append.mpr (.inr hx))
      · exact w f (by simp) x hx) (ST.app h s fun f hf => w f (by simp [hf]))
theorem ST.mid {ops : Ops} {B N : Nat} : ∀ {g fs : List Fr} {σ τ : Ty}, ST ops B N (g ++ fs) σ τ → ∃ ρ, ST ops B N g σ ρ ∧ ST ops B N fs ρ τ ∧ ∀ f ∈ g, ∀ x ∈ toks fs, x ∉ f.cids
  | [], fs, σ, τ, h => ⟨σ, .nil, h, by simp⟩
  | f :: g, fs, σ, τ, .cons hf c s => by
    have c : ∀ x ∈ f.tk ++ toks (g ++ fs), x ∉ f.cids := c
    have s : ST ops B N (g ++ fs) _ τ := s
    obtain ⟨ρ, h1, h2, h3⟩ := ST.mid s
    refine ⟨ρ, .cons hf (fun x hx => c x ?_) h1, h2, fun f' hf' x hx => ?_⟩
    · rcases List.mem_append.mp hx with hx | hx
      · exact List.mem_append.mpr (.inl hx)
      · exact List.mem_append.mpr (.inr (by rw [toks_app]; exact List.mem_append.mpr (.inl hx)))
    · rcases List.mem_cons.mp hf' with rfl | hf'
      · exact c x (List.mem_append.mpr (.inr (by rw [toks_app]; exact List.mem_append.mpr (.inr hx))))
      · exact h3 f' hf' x hx
theorem HasC.find {ops : Ops} {B : Nat} : ∀ {Γ : Cn} {cs : Cls} {τ : Ty}, HasC ops Γ cs τ → cs.gd B → ∀ {o : String} {x k : String} {b : Tm}, cs.find o = some (x, k, b) → ∃ α β, ops.lookup o = some (α, β) ∧ Has ops ((k, .fn β τ) :: (x, α) :: Γ) b τ ∧ b.gd B ∧ b.cost ≤ B
  | _, _, _, .nil, _, o, x, k, b, h => by cases h
  | _, _, _, .cons (o := o') h1 h2 h3, g, o, x, k, b, h => by
    rw [Cls.find] at h
    by_cases c : o' = o
    · rw [if_pos c] at h
      cases h
      subst c
      have g := gd_cons g
      exact ⟨_, _, h1, h2, g.2.1, g.1⟩
    · rw [if_neg c] at h
      exact h3.find (gd_cons g).2.2 h
/-- where a handler answers -/
theorem split_ok {o : String} : ∀ {fs i out : List Fr} {e : Env} {c : String × String × Tm}, split o fs = some (i, e, c, out) → fs = i ++ out ∧ ∃ i0 e0 r b cs k, i = i0 ++ [.a (.han e0 r b cs) e k] ∧ cs.find o = some c
  | [], i, out, e, c, h => by simp [split] at h
  | f :: fs, i, out, e, c, h => by
    have other : split o (f :: fs) = (match split o fs with
        | some (i, e', c, out) => some (f :: i, e', c, out)
        | none => none) → fs.length < (f :: fs).length → f :: fs = i ++ out ∧ ∃ i0 e0 r b cs k, i = i0 ++ [.a (.han e0 r b cs) e k] ∧ cs.find o = some c := fun e1 _ => by
      rw [e1] at h
      cases e2 : split o fs with
      | none => rw [e2] at h; cases h
      | some p =>
        obtain ⟨i', e', c', out'⟩ := p
        rw [e2] at h
        cases h
        obtain ⟨h1, i0, e0, r, b, cs, k, h2, h3⟩ := split_ok e2
        exact ⟨by rw [h1]; rfl, f :: i0, e0, r, b, cs, k, by rw [h2]; rfl, h3⟩
    cases f with
    | b t e' v k => exact other rfl (by simp)
    | a t e' k =>
      cases t with
      | han e0 r b cs =>
        cases ec : cs.find o with
        | none => exact other (by rw [split, ec] <;> rfl) (by simp)
        | some c' =>
          rw [split, ec] at h
          cases h
          exact ⟨rfl, [], e0, r, b, cs, k, rfl, ec⟩
      | _ => exact other rfl (by simp)
end TM
/-! TN5: a typed state takes a step, or has ended; what the step costs. -/
namespace TM
open DL
/-- what is typed in a state; the current expression's tokens -/
inductive StOk (ops : Ops) (B : Nat) (τ : Ty) : LS → Prop
  | ev {t e k fs l p a n Γ σ} : ET ops B n e Γ → Has ops Γ t σ → t.gd B → t.cost ≤ k.length → ST ops B n fs σ τ → (k ++ toks fs).Nodup → (∀ x ∈ k ++ toks fs, x < n) → (∀ x ∈ k ++ toks fs, x ∉ e.ids) → StOk ops B τ ⟨.ev t e k, fs, l, p, a, n⟩
  | rt {v fs l p a n σ} : VT ops B n v σ → ST ops B n fs σ τ → (toks fs).Nodup → (∀ x ∈ toks fs, x < n) → (∀ x ∈ toks fs, x ∉ v.ids) → StOk ops B τ ⟨.rt v, fs, l, p, a, n⟩
  | dn {r fs l p a n} : StOk ops B τ ⟨.dn r, fs, l, p, a, n⟩
def LS.pot (s : LS) : Nat := (match s.cur with
  | .ev _ _ k => k.length
  | _ => 0) + (toks s.fs).length
/-- what a step costs -/
inductive Pays (B : Nat) (s s' : LS) : Prop
  | free : s'.left = s.left → s'.nx = s.nx → s'.pot + 1 ≤ s.pot → Pays B s s'
  | body (c : Nat) : s'.left + 1 = s.left → c ≤ B → s'.nx = s.nx + c → s'.pot + 1 ≤ s.pot + c → Pays B s s'
  | kept : s'.left + 1 = s.left → s'.nx = s.nx → s'.pot + 1 ≤ s.pot + s.nx → Pays B s s'
  | last : s'.left ≤ s.left → s'.nx = s.nx → s'.pot + 1 ≤ s.pot → (∃ r, s'.cur = .dn r) → Pays B s s'
section
variable {ops : Ops} {B : Nat} {τ : Ty}
theorem push_toks {k T : List Nat} {c : Nat} {n : Nat} {I : List Nat} (hl : c + 1 ≤ k.length) (hn : (k ++ T).Nodup) (hlt : ∀ x ∈ k ++ T, x < n) (hd : ∀ x ∈ k ++ T, x ∉ I) :
    ((k.drop 1).take c).length = c ∧ (k.drop (1 + c)).length = k.length - 1 - c ∧ ((k.drop 1).take c ++ (k.drop (1 + c) ++ T)).Nodup ∧ (∀ x ∈ (k.drop 1).take c ++ (k.drop (1 + c) ++ T), x < n ∧ x ∉ I) ∧ (∀ x ∈ k.drop (1 + c) ++ T, x ∉ I) := by
  have e : (k.drop 1).take c ++ (k.drop (1 + c) ++ T) = k.drop 1 ++ T := by
    rw [← List.append_assoc, ← List.drop_drop, List.take_append_drop]
  have sub : (k.drop 1 ++ T).Sublist (k ++ T) := (List.drop_sublist 1 k).append (List.Sublist.refl T)
  refine ⟨by rw [List.length_take, List.length_drop]; omega, by rw [List.length_drop]; omega, ?_, ?_, ?_⟩
  · rw [e]; exact hn.sublist sub
  · rw [e]; exact fun x hx => ⟨hlt x (sub.subset hx), hd x (sub.subset hx)⟩
  · intro x hx
    refine hd x (sub.subset ?_)
    rw [← e]
    exact List.mem_append.mpr (.inr hx)
theorem nodup_right {k T : List Nat} (h : (k ++ T).Nodup) : T.Nodup := (List.nodup_append.mp h).2.1
theorem fresh_len {n c : Nat} : (fresh n c).length = c := by simp [fresh]
theorem fresh_mem {n c x : Nat} : x ∈ fresh n c ↔ n ≤ x ∧ x < n + c := by
  simp only [fresh, List.mem_map, List.mem_range]
  constructor
  · rintro ⟨i, hi, rfl⟩; omega
  · rintro ⟨h1, h2⟩; exact ⟨x - n, by omega, by omega⟩
theorem fresh_nodup {n c : Nat} : (fresh n c).Nodup := by
  unfold fresh
  show List.Pairwise _ _
  rw [List.pairwise_map]
  exact List.Pairwise.imp (fun h e => h (by omega)) (List.nodup_range (n := c))
/-- a part is begun, a frame waits -/
theorem push_ok {p : Tm} {e : Env} {k : List Nat} {fs : List Fr} {l : Nat} {pr : List Int} {an : List (String × String × String × Tm)} {n : Nat} {Γ : Cn} {σ ρ : Ty} {f : Fr} (hf : f.tk = k.drop (1 + p.cost)) (hc : f.cids = e.ids ∨ ∃ v : Val, f.cids = e.ids ++ v.ids ∧ ∀ x ∈ k ++ toks fs, x ∉ v.ids)
    (he : ET ops B n e Γ) (hp : Has ops Γ p ρ) (hg : p.gd B) (hl : p.cost + 1 ≤ k.length) (hF : FT ops B n f ρ σ) (hS : ST ops B n fs σ τ) (hn : (k ++ toks fs).Nodup) (hlt : ∀ x ∈ k ++ toks fs, x < n) (hd : ∀ x ∈ k ++ toks fs, x ∉ e.ids) :
    StOk ops B τ ⟨.ev p e ((k.drop 1).take p.cost), f :: fs, l, pr, an, n⟩ ∧ (LS.pot ⟨.ev p e ((k.drop 1).take p.cost), f :: fs, l, pr, an, n⟩) + 1 = k.length + (toks fs).length := by
  obtain ⟨h1, h2, h3, h4, h5⟩ := push_toks (c := p.cost) hl hn hlt hd
  have sub : (k.drop 1 ++ toks fs).Sublist (k ++ toks fs) := (List.drop_sublist 1 k).append (List.Sublist.refl _)
  have sub2 : ∀ x ∈ k.drop (1 + p.cost) ++ toks fs, x ∈ k ++ toks fs := fun x hx => by
    rcases List.mem_append.mp hx with hx | hx
    · exact List.mem_append.mpr (.inl ((List.drop_sublist _ _).subset hx))
    · exact List.mem_append.mpr (.inr hx)
  refine ⟨.ev he hp hg (by rw [h1]; exact Nat.le_refl _) (.cons hF (fun x hx => ?_) hS) ?_ ?_ ?_, ?_⟩
  · rw [hf] at hx
    rcases hc with hc | ⟨v, hc, hv⟩
    · rw [hc]; exact h5 x hx
    · rw [hc, List.mem_append, not_or]
      exact ⟨h5 x hx, hv x (sub2 x hx)⟩
  · rw [toks_cons, hf]; exact h3
  · rw [toks_cons, hf]; exact fun x hx => (h4 x hx).1
  · rw [toks_cons, hf]; exact fun x hx => (h4 x hx).2
  · show ((k.drop 1).take p.cost).length + (toks (f :: fs)).length + 1 = _
    rw [toks_cons, hf, List.length_append, h1, h2]
    omega
theorem into_ok {s : LS} (h : StOk ops B τ s) {t : Tm} {e : Env} {k : List Nat} (hc : s.cur = .ev t e k) : ∃ s', s.step = some s' ∧ StOk ops B τ s' ∧ Pays B s s' ∧ s'.pr = s.pr ∧ s'.an = s.an := by
  cases h with
  | rt => cases hc
  | dn => cases hc
  | @ev t e k fs l p a n Γ σ he hT hg hl hS hn hlt hd =>
    cases hc
    have hR := nodup_right hn
    have hltR : ∀ x ∈ toks fs, x < n := fun x hx => hlt x (List.mem_append.mpr (.inr hx))
    have hdR : ∀ x ∈ toks fs, x ∉ e.ids := fun x hx => hd x (List.mem_append.mpr (.inr hx))
    have kpos : 1 ≤ k.length := Nat.le_trans t.cost_pos hl
    have ret : ∀ {v : Val}, VT ops B n v σ → (∀ x ∈ toks fs, x ∉ v.ids) → StOk ops B τ ⟨.rt v, fs, l, p, a, n⟩ ∧ Pays B ⟨.ev t e k, fs, l, p, a, n⟩ ⟨.rt v, fs, l, p, a, n⟩ := fun hv hvd =>
      ⟨.rt hv hS hR hltR hvd, .free rfl rfl (by show 0 + (toks fs).length + 1 ≤ k.length + (toks fs).length; omega)⟩
    have pay : ∀ {q : Tm} {f : Fr}, (LS.pot ⟨.ev q e ((k.drop 1).take q.cost), f :: fs, l, p, a, n⟩) + 1 = k.length + (toks fs).length → Pays B ⟨.ev t e k, fs, l, p, a, n⟩ ⟨.ev q e ((k.drop 1).take q.cost), f :: fs, l, p, a, n⟩ := fun h =>
      .free rfl rfl (by rw [h]; exact Nat.le_refl _)
    cases hT with
    | num i => obtain ⟨h1, h2⟩ := ret (v := .int i) (.int (gd_num hg)) (fun _ _ => by simp [Val.ids]); exact ⟨_, rfl, h1, h2, rfl, rfl⟩
    | flag b => obtain ⟨h1, h2⟩ := ret (v := .bool b) .bool (fun _ _ => by simp [Val.ids]); exact ⟨_, rfl, h1, h2, rfl, rfl⟩
    | unit => obtain ⟨h1, h2⟩ := ret (v := .unit) .unit (fun _ _ => by simp [Val.ids]); exact ⟨_, rfl, h1, h2, rfl, rfl⟩
    | @name _ x _ hx =>
      obtain ⟨v, f1, f2, f3⟩ := he.find hx
      obtain ⟨h1, h2⟩ := ret f2 (fun y hy z => hdR y hy (f3 y z))
      exact ⟨_, by simp only [LS.step, into, f1], h1, h2, rfl, rfl⟩
    | fn hb => have hg := gd_fn hg; obtain ⟨h1, h2⟩ := ret (.fn he hb hg.2 hg.1) (fun x hx => hdR x hx); exact ⟨_, rfl, h1, h2, rfl, rfl⟩
    | rc hb => have hg := gd_rc hg; obtain ⟨h1, h2⟩ := ret (.rc hg.1 he hb hg.2.2 hg.2.1) (fun x hx => hdR x hx); exact ⟨_, rfl, h1, h2, rfl, rfl⟩
    | @lt _ x q b ρ _ ha hb =>
      have hg := gd_lt hg
      simp only [Tm.cost] at hl
      obtain ⟨h1, h2⟩ := push_ok (l := l) (pr := p) (an := a) (f := .a (.lt x q b) e (k.drop (1 + q.cost))) rfl (.inl rfl) he ha hg.1 (by omega) (.lt1 he hb hg.2 (by rw [List.length_drop]; omega)) hS hn hlt hd
      exact ⟨_, rfl, h1, pay h2, rfl, rfl⟩
    | @op _ o q b _ hs ha hb =>
      have hg := gd_op hg
      simp only [Tm.cost] at hl
      obtain ⟨h1, h2⟩ := push_ok (l := l) (pr := p) (an := a) (f := .a (.op o q b) e (k.drop (1 + q.cost))) rfl (.inl rfl) he ha hg.1 (by omega) (.op1 hs he hb hg.2 (by rw [List.length_drop]; omega)) hS hn hlt hd
      exact ⟨_, rfl, h1, pay h2, rfl, rfl⟩
    | @ask _ o q α β ho ha =>
      have hg := gd_ask hg
      simp only [Tm.cost] at hl
      obtain ⟨h1, h2⟩ := push_ok (l := l) (pr := p) (an := a) (f := .a (.ask o q) e (k.drop (1 + q.cost))) rfl (.inl rfl) he ha hg (by omega) (.ask1 he ho (by rw [List.length_drop]; omega)) hS hn hlt hd
      exact ⟨_, rfl, h1, pay h2, rfl, rfl⟩
    | @fst _ q _ _ ha =>
      have hg := gd_fst hg
      simp only [Tm.cost] at hl
      obtain ⟨h1, h2⟩ := push_ok (l := l) (pr := p) (an := a) (f := .a (.fst q) e (k.drop (1 + q.cost))) rfl (.inl rfl) he ha hg (by omega) (.fst1 he (by rw [List.length_drop]; omega)) hS hn hlt hd
      exact ⟨_, rfl, h1, pay h2, rfl, rfl⟩
    | @snd _ q _ _ ha =>
      have hg := gd_snd hg
      simp only [Tm.cost] at hl
      obtain ⟨h1, h2⟩ := push_ok (l := l) (pr := p) (an := a) (f := .a (.snd q) e (k.drop (1 + q.cost))) rfl (.inl rfl) he ha hg (by omega) (.snd1 he (by rw [List.length_drop]; omega)) hS hn hlt hd
      exact ⟨_, rfl, h1, pay h2, rfl, rfl⟩
    | @nt _ q ha =>
      have hg := gd_nt hg
      simp only [Tm.cost] at hl
      obtain ⟨h1, h2⟩ := push_ok (l := l) (pr := p) (an := a) (f := .a (.nt q) e (k.drop (1 + q.cost))) rfl (.inl rfl) he ha hg (by omega) (.nt1 he (by rw [List.length_drop]; omega)) hS hn hlt hd
      exact ⟨_, rfl, h1, pay h2, rfl, rfl⟩
    | @ite _ q b c _ ha hb hc =>
      have hg := gd_ite hg
      simp only [Tm.cost] at hl
      obtain ⟨h1, h2⟩ := push_ok (l := l) (pr := p) (an := a) (f := .a (.ite q b c) e (k.drop (1 + q.cost))) rfl (.inl rfl) he ha hg.1 (by omega) (.ite1 he hb hc hg.2.1 hg.2.2 (by rw [List.length_drop]; omega)) hS hn hlt hd
      exact ⟨_, rfl, h1, pay h2, rfl, rfl⟩
    | @call _ q b _ _ ha hb =>
      have hg := gd_call hg
      simp only [Tm.cost] at hl
      obtain ⟨h1, h2⟩ := push_ok (l := l) (pr := p) (an := a) (f := .a (.call q b) e (k.drop (1 + q.cost))) rfl (.inl rfl) he ha hg.1 (by omega) (.call1 he hb hg.2 (by rw [List.length_drop]; omega)) hS hn hlt hd
      exact ⟨_, rfl, h1, pay h2, rfl, rfl⟩
    | @pair _ q b _ _ ha hb hdp =>
      have hg := gd_pair hg
      simp only [Tm.cost] at hl
      obtain ⟨h1, h2⟩ := push_ok (l := l) (pr := p) (an := a) (f := .a (.pair q b) e (k.drop (1 + q.cost))) rfl (.inl rfl) he ha hg.1 (by omega) (.pair1 he hb hg.2 (by rw [List.length_drop]; omega) hdp) hS hn hlt hd
      exact ⟨_, rfl, h1, pay h2, rfl, rfl⟩
    | @prt _ q b _ ha hb =>
      have hg := gd_prt hg
      simp only [Tm.cost] at hl
      obtain ⟨h1, h2⟩ := push_ok (l := l) (pr := p) (an := a) (f := .a (.prt q b) e (k.drop (1 + q.cost))) rfl (.inl rfl) he ha hg.1 (by omega) (.prt1 he hb hg.2 (by rw [List.length_drop]; omega)) hS hn hlt hd
      exact ⟨_, rfl, h1, pay h2, rfl, rfl⟩
    | @han _ q r b cs _ _ ha hb hcs hnd =>
      have hg := gd_han hg
      simp only [Tm.cost] at hl
      obtain ⟨h1, h2⟩ := push_ok (l := l) (pr := p) (an := a) (f := .a (.han q r b cs) e (k.drop (1 + q.cost))) rfl (.inl rfl) he ha hg.1 (by omega) (.han1 he hb hg.2.1 hcs hg.2.2 (by rw [List.length_drop]; omega)) hS hn hlt hd
      exact ⟨_, rfl, h1, pay h2, rfl, rfl⟩

theorem drop1 {k T : List Nat} {n : Nat} (hn : (k ++ T).Nodup) (hlt : ∀ x ∈ k ++ T, x < n) : (k.drop 1 ++ T).Nodup ∧ (∀ x ∈ k.drop 1 ++ T, x < n) ∧ ∀ x ∈ k.drop 1 ++ T, x ∈ k ++ T := by
  have sub : (k.drop 1 ++ T).Sublist (k ++ T) := (List.drop_sublist 1 k).append (List.Sublist.refl _)
  exact ⟨hn.sublist sub, fun x hx => hlt x (sub.subset hx), fun x hx => sub.subset hx⟩
/-- a frame goes, its last expression is begun -/
theorem cont_ok {p : Tm} {e : Env} {k : List Nat} {fs : List Fr} {l : Nat} {pr : List Int} {an : List (String × String × String × Tm)} {n : Nat} {Γ : Cn} {ρ : Ty}
    (he : ET ops B n e Γ) (hp : Has ops Γ p ρ) (hg : p.gd B) (hl : p.cost + 1 ≤ k.length) (hS : ST ops B n fs ρ τ) (hn : (k ++ toks fs).Nodup) (hlt : ∀ x ∈ k ++ toks fs, x < n) (hd : ∀ x ∈ k ++ toks fs, x ∉ e.ids) :
    StOk ops B τ ⟨.ev p e (k.drop 1), fs, l, pr, an, n⟩ ∧ (LS.pot ⟨.ev p e (k.drop 1), fs, l, pr, an, n⟩) + 1 ≤ k.length + (toks fs).length := by
  obtain ⟨h1, h2, h3⟩ := drop1 hn hlt
  refine ⟨.ev he hp hg (by rw [List.length_drop]; omega) hS h1 h2 fun x hx => hd x (h3 x hx), ?_⟩
  show (k.drop 1).length + (toks fs).length + 1 ≤ _
  rw [List.length_drop]
  omega
theorem oper_ok {n : Nat} {s : String} {τ : Ty} (h : Sg s τ) (i j : Int) : ∃ w, oper s i j = some w ∧ VT ops B n w τ ∧ w.ids = [] := by
  have cut : ∀ i : Int, (cut32 i).natAbs < 2 ^ 32 := fun i => by
    unfold cut32
    have := Int.emod_nonneg (i + 2147483648) (show (4294967296 : Int) ≠ 0 by decide)
    have := Int.emod_lt_of_pos (i + 2147483648) (show (0 : Int) < 4294967296 by decide)
    omega
  cases h with
  | add => exact ⟨.int (cut32 (i + j)), by simp [oper], .int (cut _), rfl⟩
  | sub => exact ⟨.int (cut32 (i - j)), by simp [oper], .int (cut _), rfl⟩
  | mul => exact ⟨.int (cut32 (i * j)), by simp [oper], .int (cut _), rfl⟩
  | lt => exact ⟨.bool (decide (i < j)), by simp [oper], .bool, rfl⟩
  | eq => exact ⟨.bool (i == j), by simp [oper], .bool, rfl⟩
theorem nodup_le {n : Nat} {l : List Nat} (h : l.Nodup) (w : ∀ x ∈ l, x < n) : l.length ≤ n := by
  have := nodup_len h (m := List.range n) fun x hx => List.mem_range.mpr (w x hx)
  rwa [List.length_range] at this
/-- a call -/
theorem call_ok {u v : Val} {fs : List Fr} {l : Nat} {pr : List Int} {an : List (String × String × String × Tm)} {n : Nat} {α β : Ty} {m : Nat}
    (hu : VT ops B n u (.fn α β)) (hv : VT ops B n v α) (hS : ST ops B n fs β τ) (hn : (toks fs).Nodup) (hlt : ∀ x ∈ toks fs, x < n) (hdu : ∀ x ∈ toks fs, x ∉ u.ids) (hdv : ∀ x ∈ toks fs, x ∉ v.ids) (s : LS) (hp : (toks fs).length + 1 ≤ s.pot) (hsl : s.left = l) (hsn : s.nx = n) :
    ∃ s', callV ⟨.rt v, fs, l, pr, an, n⟩ u v = some s' ∧ StOk ops B τ s' ∧ Pays B s s' ∧ s'.pr = pr ∧ s'.an = an := by
  unfold callV
  by_cases hl : l = 0
  · refine ⟨_, if_pos hl, .dn, .last (by rw [hsl]; exact Nat.le_refl _) hsn.symm ?_ ⟨_, rfl⟩, rfl, rfl⟩
    show 0 + (toks fs).length + 1 ≤ _
    omega
  rw [if_neg (show ¬ (LS.left ⟨.rt v, fs, l, pr, an, n⟩) = 0 from hl)]
  have body : ∀ {x : String} {b : Tm} {e : Env} {Γ : Cn}, ET ops B n e Γ → (∀ y ∈ toks fs, y ∉ e.ids) → Has ops Γ b β → b.gd B → b.cost ≤ B → StOk ops B τ ⟨.ev b e (fresh n b.cost), fs, l - 1, pr, an, n + b.cost⟩ ∧ Pays B s ⟨.ev b e (fresh n b.cost), fs, l - 1, pr, an, n + b.cost⟩ := fun {x b e Γ} he hde hb hg hc => by
    refine ⟨.ev (he.up (by omega)) hb hg (by rw [fresh_len]; exact Nat.le_refl _) (hS.up (by omega)) ?_ ?_ ?_, .body b.cost (by show l - 1 + 1 = _; omega) hc (by rw [hsn]) ?_⟩
    · rw [List.nodup_append]
      refine ⟨fresh_nodup, hn, fun y hy z hz e => ?_⟩
      have := (fresh_mem.mp hy).1
      have := hlt z hz
      omega
    · intro y hy
      rcases List.mem_append.mp hy with hy | hy
      · exact (fresh_mem.mp hy).2
      · have := hlt y hy; omega
    · intro y hy hy'
      rcases List.mem_append.mp hy with hy | hy
      · have := (fresh_mem.mp hy).1
        have := he.lt y hy'
        omega
      · exact hde y hy hy'
    · show (fresh n b.cost).length + (toks fs).length + 1 ≤ _
      rw [fresh_len]; omega
  cases hu with
  | @fn Γ x b e _ _ he hb hg hc =>
    obtain ⟨h1, h2⟩ := body (x := x) (.cons hv he) (fun y hy h => by
      rw [Env.ids, List.mem_append] at h
      exact h.elim (hdv y hy) (hdu y hy)) hb hg hc
    exact ⟨_, rfl, h1, h2, rfl, rfl⟩
  | @rc Γ f x b e _ _ hf he hb hg hc =>
    obtain ⟨h1, h2⟩ := body (x := x) (.cons hv (.cons (x := f) (VT.rc hf he hb hg hc) he)) (fun y hy h => by
      rw [Env.ids, List.mem_append, Env.ids, List.mem_append] at h
      rcases h with h | h | h
      · exact hdv y hy h
      · exact hdu y hy h
      · exact hdu y hy h) hb hg hc
    refine ⟨_, ?_, h1, h2, rfl, rfl⟩
    show some _ = some _
    rw [if_neg hf]
  | @kept g _ _ hg hgn hgl hpl =>
    have hvi : v.ids = [] := plain_ids hv hpl
    have dis : ∀ x ∈ toks fs, x ∉ toks g := fun x hx h => hdu x hx (frIds_tk h)
    refine ⟨_, rfl, .rt hv (hS.app hg fun f hf x hx h => hdu x hx (frIds_cids hf h)) ?_ ?_ ?_, .kept (by show l - 1 + 1 = _; omega) hsn.symm ?_, rfl, rfl⟩
    · rw [toks_app, List.nodup_append]
      exact ⟨hgn, hn, fun y hy z hz e => dis z hz (e ▸ hy)⟩
    · intro x hx
      rw [toks_app, List.mem_append] at hx
      exact hx.elim (hgl x) (hlt x)
    · intro x _
      rw [hvi]; simp
    · show 0 + (toks (g ++ fs)).length + 1 ≤ _
      rw [toks_app, List.length_append]
      have := nodup_le hgn hgl
      omega
/-- an operation is asked -/
theorem ask_ok (hP : ∀ o α β, ops.lookup o = some (α, β) → β.plain = true) {o : String} {v : Val} {fs : List Fr} {l : Nat} {pr : List Int} {an : List (String × String × String × Tm)} {n : Nat} {α β : Ty}
    (ho : ops.lookup o = some (α, β)) (hv : VT ops B n v α) (hS : ST ops B n fs β τ) (hn : (toks fs).Nodup) (hlt : ∀ x ∈ toks fs, x < n) (hdv : ∀ x ∈ toks fs, x ∉ v.ids) (s : LS) (hp : (toks fs).length + 1 ≤ s.pot) (hsl : s.left = l) (hsn : s.nx = n) :
    ∃ s', askV ⟨.rt v, fs, l, pr, an, n⟩ o v = some s' ∧ StOk ops B τ s' ∧ Pays B s s' ∧ s'.pr = pr := by
  unfold askV
  by_cases hl : l = 0
  · refine ⟨_, if_pos hl, .dn, .last (by rw [hsl]; exact Nat.le_refl _) hsn.symm ?_ ⟨_, rfl⟩, rfl⟩
    show 0 + (toks fs).length + 1 ≤ _
    omega
  rw [if_neg (show ¬ (LS.left ⟨.rt v, fs, l, pr, an, n⟩) = 0 from hl)]
  dsimp only
  cases hsp : split o fs with
  | none =>
    refine ⟨_, rfl, .dn, .last (by show l - 1 ≤ _; omega) hsn.symm ?_ ⟨_, rfl⟩, rfl⟩
    show 0 + (toks fs).length + 1 ≤ _
    omega
  | some q =>
    obtain ⟨i, e, ⟨x, k, b⟩, out⟩ := q
    obtain ⟨rfl, i0, e0, r, b0, cs, kk, hi, hf⟩ := split_ok hsp
    obtain ⟨ρ, hSi, hSo, hio⟩ := hS.mid
    have hH : ∃ Γ, ET ops B n e Γ ∧ HasC ops Γ cs ρ ∧ cs.gd B := by
      rw [hi] at hSi
      obtain ⟨ρ', _, h2, _⟩ := hSi.mid
      cases h2 with
      | cons hF _ hN =>
        cases hN
        cases hF with
        | han1 he _ _ hcs hcg _ => exact ⟨_, he, hcs, hcg⟩
    obtain ⟨Γ, he, hcs, hcg⟩ := hH
    obtain ⟨α', β', ho', hb, hbg, hbc⟩ := hcs.find hcg hf
    rw [ho] at ho'
    cases ho'
    have hna := List.nodup_append.mp (by rw [toks_app] at hn; exact hn)
    have hli : ∀ y ∈ toks i, y < n := fun y hy => hlt y (by rw [toks_app, List.mem_append]; exact .inl hy)
    have hlo : ∀ y ∈ toks out, y < n := fun y hy => hlt y (by rw [toks_app, List.mem_append]; exact .inr hy)
    have hE : ET ops B n (.cons k (.kept i) (.cons x v e)) ((k, .fn β ρ) :: (x, α) :: Γ) := .cons (.kept hSi hna.1 hli (hP _ _ _ ho)) (.cons hv he)
    have heo : ∀ y ∈ toks out, y ∉ e.ids := fun y hy h => hio _ (show Fr.a (.han e0 r b0 cs) e kk ∈ i by rw [hi]; simp) y hy h
    have hd : ∀ y ∈ toks out, y ∉ (Env.cons k (.kept i) (.cons x v e)).ids := fun y hy h => by
      rw [Env.ids, List.mem_append, Env.ids, List.mem_append] at h
      rcases h with h | h | h
      · rcases frIds_of h with h | ⟨f, hf, h⟩
        · exact hna.2.2 y h y hy rfl
        · exact hio f hf y hy h
      · exact hdv y (by rw [toks_app, List.mem_append]; exact .inr hy) h
      · exact heo y hy h
    refine ⟨_, rfl, .ev (hE.up (Nat.le_add_right _ _)) hb hbg (by rw [fresh_len]; exact Nat.le_refl _) (hSo.up (Nat.le_add_right _ _)) ?_ ?_ ?_, .body b.cost (by show l - 1 + 1 = _; omega) hbc (by rw [hsn]) ?_, rfl⟩
    · rw [List.nodup_append]
      refine ⟨fresh_nodup, hna.2.1, fun y hy z hz e => ?_⟩
      have := (fresh_mem.mp hy).1
      have := hlo z hz
      omega
    · intro y hy
      show y < n + b.cost
      rcases List.mem_append.mp hy with hy | hy
      · exact (fresh_mem.mp hy).2
      · have := hlo y hy; omega
    · intro y hy hy'
      rcases List.mem_append.mp hy with hy | hy
      · have := (fresh_mem.mp hy).1
        have := hE.lt y hy'
        omega
      · exact hd y hy hy'
    · show (fresh n b.cost).length + (toks out).length + 1 ≤ _
      rw [toks_app, List.length_append] at hp
      rw [fresh_len]; omega
theorem back_ok (hP : ∀ o α β, ops.lookup o = some (α, β) → β.plain = true) {s : LS} (h : StOk ops B τ s) {v : Val} (hc : s.cur = .rt v) {f : Fr} {fs : List Fr} (hfs : s.fs = f :: fs) : ∃ s', s.step = some s' ∧ StOk ops B τ s' ∧ Pays B s s' := by
  cases h with
  | ev => cases hc
  | dn => cases hc
  | @rt v fs' l p a n σ hv hS hn hlt hdv =>
    cases hc
    cases hfs
    cases hS with
    | @cons _ _ _ ρ _ hF hcd hS =>
    rw [toks_cons] at hn hlt hdv
    have hR := nodup_right hn
    have hltR : ∀ x ∈ toks fs, x < n := fun x hx => hlt x (List.mem_append.mpr (.inr hx))
    have hdR : ∀ x ∈ toks fs, x ∉ v.ids := fun x hx => hdv x (List.mem_append.mpr (.inr hx))
    have hcR : ∀ x ∈ toks fs, x ∉ f.cids := fun x hx => hcd x (List.mem_append.mpr (.inr hx))
    have pot : LS.pot ⟨.rt v, f :: fs, l, p, a, n⟩ = f.tk.length + (toks fs).length := by
      show 0 + (toks (f :: fs)).length = _
      rw [toks_cons, List.length_append]; omega
    have ret : 1 ≤ f.tk.length → ∀ {w : Val}, VT ops B n w ρ → (∀ x ∈ toks fs, x ∉ w.ids) → StOk ops B τ ⟨.rt w, fs, l, p, a, n⟩ ∧ Pays B ⟨.rt v, f :: fs, l, p, a, n⟩ ⟨.rt w, fs, l, p, a, n⟩ := fun hk {w} hw hwd =>
      ⟨.rt hw hS hR hltR hwd, .free rfl rfl (by rw [pot]; show 0 + (toks fs).length + 1 ≤ _; omega)⟩
    cases hF with
    | @call1 Γ q b e k _ _ he hb hg hl =>
      obtain ⟨h1, h2⟩ := push_ok (l := l) (pr := p) (an := a) (f := .b (.call q b) e v (k.drop (1 + b.cost))) rfl (.inr ⟨v, rfl, hdv⟩) he hb hg (by omega) (.call2 he hv (by rw [List.length_drop]; omega)) hS hn hlt hcd
      exact ⟨_, rfl, h1, .free rfl rfl (by rw [pot, h2]; exact Nat.le_refl _)⟩
    | @pair1 Γ q b e k _ _ he hb hg hl hdp =>
      obtain ⟨h1, h2⟩ := push_ok (l := l) (pr := p) (an := a) (f := .b (.pair q b) e v (k.drop (1 + b.cost))) rfl (.inr ⟨v, rfl, hdv⟩) he hb hg (by omega) (.pair2 he hv hdp (by rw [List.length_drop]; omega)) hS hn hlt hcd
      exact ⟨_, rfl, h1, .free rfl rfl (by rw [pot, h2]; exact Nat.le_refl _)⟩
    | @op1 Γ o q b e k _ hs he hb hg hl =>
      obtain ⟨h1, h2⟩ := push_ok (l := l) (pr := p) (an := a) (f := .b (.op o q b) e v (k.drop (1 + b.cost))) rfl (.inr ⟨v, rfl, hdv⟩) he hb hg (by omega) (.op2 he hs hv (by rw [List.length_drop]; omega)) hS hn hlt hcd
      exact ⟨_, rfl, h1, .free rfl rfl (by rw [pot, h2]; exact Nat.le_refl _)⟩
    | @lt1 Γ x q b e k _ _ he hb hg hl =>
      obtain ⟨h1, h2⟩ := cont_ok (l := l) (pr := p) (an := a) (.cons (x := x) hv he) hb hg hl hS hn hlt (fun y hy h => by
        rw [Env.ids, List.mem_append] at h
        exact h.elim (hdv y hy) (hcd y hy))
      exact ⟨_, rfl, h1, .free rfl rfl (by rw [pot]; exact h2)⟩
    | @ite1 Γ q b c e k _ he hb hc hg hg' hl =>
      cases hv with
      | @bool z =>
        cases z with
        | true =>
          obtain ⟨h1, h2⟩ := cont_ok (k := k) (l := l) (pr := p) (an := a) he hb hg (by omega) hS hn hlt hcd
          exact ⟨_, rfl, h1, .free rfl rfl (by rw [pot]; exact h2)⟩
        | false =>
          obtain ⟨h1, h2⟩ := cont_ok (k := k) (l := l) (pr := p) (an := a) he hc hg' (by omega) hS hn hlt hcd
          exact ⟨_, rfl, h1, .free rfl rfl (by rw [pot]; exact h2)⟩
    | @prt1 Γ q b e k _ he hb hg hl =>
      cases hv with
      | @int i hi =>
        obtain ⟨h1, h2⟩ := cont_ok (l := l) (pr := p ++ [i]) (an := a) he hb hg hl hS hn hlt hcd
        exact ⟨_, rfl, h1, .free rfl rfl (by rw [pot]; exact h2)⟩
    | @ask1 Γ o q e k _ _ he ho hl =>
      obtain ⟨s', h1, h2, h3, _⟩ := ask_ok hP (l := l) (pr := p) (an := a) ho hv hS hR hltR hdR ⟨.rt v, .a (.ask o q) e k :: fs, l, p, a, n⟩ (by rw [pot]; show _ ≤ k.length + _; omega) rfl rfl
      exact ⟨s', h1, h2, h3⟩
    | @han1 Γ q r b cs e k _ _ he hb hg hcs hcg hl =>
      obtain ⟨h1, h2⟩ := cont_ok (l := l) (pr := p) (an := a) (.cons (x := r) hv he) hb hg hl hS hn hlt (fun y hy h => by
        rw [Env.ids, List.mem_append] at h
        exact h.elim (hdv y hy) (hcd y hy))
      exact ⟨_, rfl, h1, .free rfl rfl (by rw [pot]; exact h2)⟩
    | @nt1 Γ q e k he hl =>
      cases hv with
      | @bool z =>
        obtain ⟨h1, h2⟩ := ret hl (w := .bool !z) .bool (fun _ _ => by simp [Val.ids])
        exact ⟨_, rfl, h1, h2⟩
    | @fst1 Γ q e k _ _ he hl =>
      cases hv with
      | @pair x y _ _ hx hy _ =>
        obtain ⟨h1, h2⟩ := ret hl hx (fun z hz h => hdR z hz (by rw [Val.ids, List.mem_append]; exact .inl h))
        exact ⟨_, rfl, h1, h2⟩
    | @snd1 Γ q e k _ _ he hl =>
      cases hv with
      | @pair x y _ _ hx hy _ =>
        obtain ⟨h1, h2⟩ := ret hl hy (fun z hz h => hdR z hz (by rw [Val.ids, List.mem_append]; exact .inr h))
        exact ⟨_, rfl, h1, h2⟩
    | @op2 Γ o q b e u k _ he hs hu hl =>
      cases hv with
      | @int j hj =>
      cases hu with
      | @int i hi =>
        obtain ⟨w, e1, e2, e3⟩ := oper_ok (ops := ops) (B := B) (n := n) hs i j
        obtain ⟨h1, h2⟩ := ret hl e2 (fun _ _ => by rw [e3]; simp)
        exact ⟨_, by simp only [LS.step, back, e1], h1, h2⟩
    | @pair2 Γ q b e u k _ _ he hu hdp hl =>
      obtain ⟨h1, h2⟩ := ret hl (.pair hu hv hdp) (fun z hz h => by
        rw [Val.ids, List.mem_append] at h
        rcases h with h | h
        · exact hcR z hz (by rw [Fr.cids, List.mem_append]; exact .inr h)
        · exact hdR z hz h)
      exact ⟨_, rfl, h1, h2⟩
    | @call2 Γ q b e u k _ _ he hu hl =>
      obtain ⟨s', h1, h2, h3, _⟩ := call_ok (m := 0) (l := l) (pr := p) (an := a) hu hv hS hR hltR (fun z hz h => hcR z hz (by rw [Fr.cids, List.mem_append]; exact .inr h)) hdR ⟨.rt v, .b (.call q b) e u k :: fs, l, p, a, n⟩ (by rw [pot]; show _ ≤ k.length + _; omega) rfl rfl
      exact ⟨s', h1, h2, h3⟩
/-- progress, and its price -/
theorem step_ok (hP : ∀ o α β, ops.lookup o = some (α, β) → β.plain = true) {s : LS} (h : StOk ops B τ s) (hr : s.res = none) : ∃ s', s.step = some s' ∧ StOk ops B τ s' ∧ Pays B s s' := by
  unfold LS.res at hr
  cases hc : s.cur with
  | ev t e k =>
    obtain ⟨s', h1, h2, h3, _⟩ := into_ok h hc
    exact ⟨s', h1, h2, h3⟩
  | dn r => rw [hc] at hr; cases hr
  | rt v =>
    rw [hc] at hr
    cases hf : s.fs with
    | nil => rw [hf] at hr; cases hr
    | cons f fs => exact back_ok hP h hc hf
end
end TM
/-! TN6: every run of a typed state ends within 94400 micro-steps. -/
namespace TM
open DL
/-- m micro-steps are behind us -/
def Spent (C L m : Nat) (s : LS) : Prop := ∃ n1 n2, n1 + n2 + s.left ≤ L ∧ s.nx ≤ C + 96 * n1 ∧ m + s.pot ≤ (1 + n2) * s.nx
theorem Spent.go {C L m : Nat} {s s' : LS} (h : Spent C L m s) (p : Pays 96 s s') : Spent C L (m + 1) s' := by
  obtain ⟨n1, n2, h1, h2, h3⟩ := h
  cases p with
  | free a b c => exact ⟨n1, n2, by omega, by omega, by rw [b]; omega⟩
  | body c a b d e =>
    refine ⟨n1 + 1, n2, by omega, by omega, ?_⟩
    rw [d, Nat.mul_add, Nat.add_mul 1 n2 c]
    omega
  | kept a b c =>
    refine ⟨n1, n2 + 1, by omega, by omega, ?_⟩
    rw [b, show (1 + (n2 + 1)) * s.nx = (1 + n2) * s.nx + s.nx by rw [← Nat.add_assoc, Nat.add_mul (1 + n2) 1, Nat.one_mul]]
    omega
  | last a b c => exact ⟨n1, n2, by omega, by omega, by rw [b]; omega⟩
theorem table : ∀ n2 : Fin 61, (1 + n2.val) * (164 + 96 * (60 - n2.val)) ≤ 94400 := by decide
theorem Spent.le {C L m : Nat} {s : LS} (h : Spent C L m s) (hC : C ≤ 164) (hL : L ≤ 60) : m ≤ 94400 := by
  obtain ⟨n1, n2, h1, h2, h3⟩ := h
  have t := table ⟨n2, by omega⟩
  have : (1 + n2) * s.nx ≤ (1 + n2) * (164 + 96 * (60 - n2)) := Nat.mul_le_mul_left _ (by omega)
  have h4 := Nat.le_trans h3 this
  have t' : (1 + n2) * (164 + 96 * (60 - n2)) ≤ 94400 := t
  omega
theorem Spent.start {t : Tm} {L : Nat} : Spent t.cost L 0 (start t L) := by
  refine ⟨0, 0, by simp [TM.start], by simp [TM.start], ?_⟩
  show 0 + ((fresh 0 t.cost).length + (toks []).length) ≤ _
  rw [fresh_len]
  simp [TM.start, toks]
theorem run_ok {ops : Ops} {τ : Ty} (hP : ∀ o α β, ops.lookup o = some (α, β) → β.plain = true) {C L : Nat} (hC : C ≤ 164) (hL : L ≤ 60) : ∀ (F m : Nat) {s : LS}, StOk ops 96 τ s → Spent C L m s → m + F = 94401 → ∃ n u, LRun n s u ∧ m + n ≤ 94400 ∧ StOk ops 96 τ u
  | 0, m, s, h, sp, e => by
    have := sp.le hC hL
    omega
  | F + 1, m, s, h, sp, e => by
    cases hr : s.res with
    | some r => exact ⟨0, s, .done (by rw [hr]; simp), by omega, h⟩
    | none =>
      obtain ⟨s', h1, h2, h3⟩ := step_ok hP h hr
      obtain ⟨n, u, g1, g2, g3⟩ := run_ok hP hC hL F (m + 1) h2 (sp.go h3) (by omega)
      exact ⟨n + 1, u, .step h1 g1, by omega, g3⟩
theorem start_ok {ops : Ops} {τ : Ty} {t : Tm} {L : Nat} (ht : Has ops [] t τ) (hg : t.gd 96) : StOk ops 96 τ (start t L) := by
  refine .ev .nil ht hg (by rw [fresh_len]; exact Nat.le_refl _) .nil ?_ ?_ ?_
  · simp [toks, fresh_nodup]
  · intro x hx
    simp [toks, fresh_mem] at hx
    exact hx
  · intro x _
    simp [Env.ids]
theorem ends {ops : Ops} {τ : Ty} {t : Tm} {L : Nat} (hP : ∀ o α β, ops.lookup o = some (α, β) → β.plain = true) (ht : Has ops [] t τ) (hg : t.gd 96) (hC : t.cost ≤ 164) (hL : L ≤ 60) : ∃ n u, LRun n (start t L) u ∧ n ≤ 94400 ∧ StOk ops 96 τ u := by
  obtain ⟨n, u, h1, h2, h3⟩ := run_ok hP hC hL 94401 0 (start_ok ht hg) Spent.start (by omega)
  exact ⟨n, u, h1, by omega, h3⟩
end TM
/-! TN2: the names that a generator gives, its contexts, bounds. -/
namespace TM
open DL
abbrev T := Tm
def nm (c : String) (i : Nat) : String := c ++ toString (i : Int)
def IxN (i : Nat) (x : String) : Prop := x = nm "x" i ∨ x = nm "k" i ∨ x = nm "h" i
def P17 (x : String) : Prop := x = "r" ∨ ∃ i, i < 17 ∧ IxN i x
def all17 : List String := "r" :: (List.range 17).flatMap fun i => [nm "x" i, nm "k" i, nm "h" i]
theorem P17.mem {x : String} (h : P17 x) : x ∈ all17 := by
  rcases h with rfl | ⟨i, hi, h⟩
  · exact List.mem_cons_self
  · refine List.mem_cons_of_mem _ (List.mem_flatMap.mpr ⟨i, List.mem_range.mpr hi, ?_⟩)
    rcases h with rfl | rfl | rfl <;> simp
theorem P17.len {x : String} (h : P17 x) : x.length ≤ 8 := by
  have h := h.mem
  have all : ∀ y ∈ all17, y.length ≤ 8 := by decide +kernel
  exact all x h
theorem all17_len : all17.length < 60 := by decide +kernel
theorem ix_inj {i j : Nat} {x : String} (hi : i < 17) (hj : j < 17) (h : IxN i x) (g : IxN j x) : i = j := by
  have all : ∀ i : Fin 17, ∀ j : Fin 17, ∀ a ∈ ["x", "k", "h"], ∀ b ∈ ["x", "k", "h"], nm a i = nm b j → i = j := by decide +kernel
  have one : ∀ {i : Nat}, IxN i x → ∃ a ∈ ["x", "k", "h"], x = nm a i := fun h => by
    rcases h with h | h | h
    · exact ⟨"x", by simp, h⟩
    · exact ⟨"k", by simp, h⟩
    · exact ⟨"h", by simp, h⟩
  obtain ⟨a, ha, e1⟩ := one h
  obtain ⟨b, hb, e2⟩ := one g
  have := all ⟨i, hi⟩ ⟨j, hj⟩ a ha b hb (e1.symm.trans e2)
  exact Fin.mk.inj_iff.mp this
/-- a context of the generator -/
structure CnOk (Γ : Cn) : Prop where
  nd : (Γ.map (·.1)).Nodup
  ix : ∀ p ∈ Γ, ∃ i, i < Γ.length ∧ IxN i p.1
  dp : ∀ p ∈ Γ, p.2.dp ≤ 12
  ln : Γ.length ≤ 17
theorem CnOk.nil : CnOk [] := ⟨by simp, by simp, by simp, by simp⟩
theorem CnOk.push {Γ : Cn} (h : CnOk Γ) (hl : Γ.length < 17) {x : String} {τ : Ty} (hx : IxN Γ.length x) (ht : τ.dp ≤ 12) : CnOk ((x, τ) :: Γ) := by
  refine ⟨?_, ?_, ?_, ?_⟩
  · rw [List.map_cons, List.nodup_cons]
    refine ⟨fun hm => ?_, h.nd⟩
    obtain ⟨p, hp, e⟩ := List.mem_map.mp hm
    obtain ⟨i, hi, hix⟩ := h.ix p hp
    rw [e] at hix
    have := ix_inj (by omega) (by omega) hx hix
    omega
  · intro p hp
    rcases List.mem_cons.mp hp with rfl | hp
    · exact ⟨Γ.length, by simp, hx⟩
    · obtain ⟨i, hi, hix⟩ := h.ix p hp
      exact ⟨i, by simp; omega, hix⟩
  · intro p hp
    rcases List.mem_cons.mp hp with rfl | hp
    · exact ht
    · exact h.dp p hp
  · simp; omega
theorem lookup_mem {Γ : Cn} (h : (Γ.map (·.1)).Nodup) {x : String} {τ : Ty} (hm : (x, τ) ∈ Γ) : Γ.lookup x = some τ := by
  induction Γ with
  | nil => cases hm
  | cons p Γ ih =>
    obtain ⟨y, σ⟩ := p
    rw [List.map_cons, List.nodup_cons] at h
    rcases List.mem_cons.mp hm with e | hm
    · cases e; rw [List.lookup_cons_self]
    · have hne : ¬ x = y := fun e => h.1 (List.mem_map.mpr ⟨(x, τ), hm, e⟩)
      rw [List.lookup_cons, beq_eq_false_iff_ne.mpr hne]
      exact ih h.2 hm
theorem CnOk.look {Γ : Cn} (h : CnOk Γ) {x : String} {τ : Ty} (hm : (x, τ) ∈ Γ) : Γ.lookup x = some τ ∧ P17 x := by
  refine ⟨lookup_mem h.nd hm, .inr ?_⟩
  obtain ⟨i, hi, hx⟩ := h.ix _ hm
  exact ⟨i, by have := h.ln; omega, hx⟩
/-- as data: the outermost first -/
def knD (p : String × Ty) : D := .tup [.str p.1, p.2.d]
def Cn.d (Γ : Cn) : D := .lst (Γ.map knD).reverse
theorem Cn.d_push (Γ : Cn) (p : String × Ty) : Cn.d (p :: Γ) = .lst ((Γ.map knD).reverse ++ [knD p]) := by simp [Cn.d]
/-- operations -/
def opD (o : String × Ty × Ty) : D := .tup [.str o.1, o.2.1.d, o.2.2.d]
structure OpsOk (ops : Ops) : Prop where
  nd : (ops.map (·.1)).Nodup
  nm : ∀ o ∈ ops, o.1 ∈ ["get", "flip", "tell", "put"]
  dp : ∀ o ∈ ops, o.2.1.dp ≤ 1 ∧ o.2.2.dp ≤ 1
  pl : ∀ o ∈ ops, o.2.1.plain = true ∧ o.2.2.plain = true
  ne : 0 < ops.length
  ln : ops.length ≤ 4
theorem OpsOk.look {ops : Ops} (h : OpsOk ops) {o : String × Ty × Ty} (hm : o ∈ ops) : ops.lookup o.1 = some (o.2.1, o.2.2) := by
  have key : ∀ (l : Ops), (l.map (·.1)).Nodup → o ∈ l → l.lookup o.1 = some (o.2.1, o.2.2) := fun l => by
    induction l with
    | nil => intro _ h; cases h
    | cons p l ih =>
      intro hn h0
      rw [List.map_cons, List.nodup_cons] at hn
      rcases List.mem_cons.mp h0 with e | hm
      · subst e; obtain ⟨a, b, c⟩ := o; rw [List.lookup_cons_self]
      · obtain ⟨a, b, c⟩ := p
        have hne : ¬ o.1 = a := fun e => hn.1 (List.mem_map.mpr ⟨o, hm, e⟩)
        rw [List.lookup_cons, beq_eq_false_iff_ne.mpr hne]
        exact ih hn.2 hm
  exact key ops h.nd hm
theorem OpsOk.short {ops : Ops} (h : OpsOk ops) {o : String × Ty × Ty} (hm : o ∈ ops) : o.1.length ≤ 8 := by
  have := h.nm o hm
  simp at this
  rcases this with e | e | e | e <;> rw [e] <;> decide
/-- the greatest number of leaves of a type that stands in it -/
def Ty.mx : Ty → Nat
  | .fn a b => max a.mx b.mx
  | .pair a b => max (a.lv + b.lv) (max a.mx b.mx)
  | _ => 1
theorem Ty.lv_mx : ∀ t : Ty, t.lv ≤ t.mx
  | .int => Nat.le_refl 1
  | .bool => Nat.le_refl 1
  | .unit => Nat.le_refl 1
  | .fn a b => by
    have := a.lv_mx
    have := a.lv_pos
    simp only [Ty.lv, Ty.mx]; omega
  | .pair a b => by simp only [Ty.lv, Ty.mx]; omega
theorem Ty.mx_dp : ∀ t : Ty, t.mx ≤ 2 ^ t.dp
  | .int => by decide
  | .bool => by decide
  | .unit => by decide
  | .fn a b => by
    have h1 := a.mx_dp
    have h2 := b.mx_dp
    have e1 : 2 ^ a.dp ≤ 2 ^ (max a.dp b.dp) := Nat.pow_le_pow_right (by omega) (by omega)
    have e2 : 2 ^ b.dp ≤ 2 ^ (max a.dp b.dp) := Nat.pow_le_pow_right (by omega) (by omega)
    simp only [Ty.mx, Ty.dp, Nat.pow_succ]; omega
  | .pair a b => by
    have h1 := a.mx_dp
    have h2 := b.mx_dp
    have h3 := a.lv_dp
    have h4 := b.lv_dp
    have e1 : 2 ^ a.dp ≤ 2 ^ (max a.dp b.dp) := Nat.pow_le_pow_right (by omega) (by omega)
    have e2 : 2 ^ b.dp ≤ 2 ^ (max a.dp b.dp) := Nat.pow_le_pow_right (by omega) (by omega)
    simp only [Ty.mx, Ty.dp, Nat.pow_succ]; omega
/-- the cost of an expression of depth r, of a type with s leaves: where s + 2 r is at most 12 -/
def ctab : List (List Nat) := [[0, 1, 5, 9, 13, 17, 21, 25, 29, 33, 37, 41, 45], [0, 11, 15, 20, 28, 36, 44, 52, 60, 68, 76], [0, 30, 34, 39, 47, 55, 67, 79, 91], [0, 68, 72, 77, 85, 93, 113], [0, 144, 148, 153, 161]]
def CT (r s : Nat) : Nat := (ctab.getD r []).getD s 0
theorem CT_zero {s : Nat} (h : s ≤ 12) (h1 : 1 ≤ s) : CT 0 s = 4 * s - 3 := by
  have all : ∀ s : Fin 13, 1 ≤ s.val → CT 0 s.val = 4 * s.val - 3 := by decide +kernel
  exact all ⟨s, by omega⟩ h1
theorem CT_two {r s : Nat} (hr : r ≤ 4) (h : s ≤ 2) : CT r s ≤ CT r 2 := by
  have all : ∀ r : Fin 5, ∀ s : Fin 3, CT r.val s.val ≤ CT r.val 2 := by decide +kernel
  exact all ⟨r, by omega⟩ ⟨s, by omega⟩
/-- what one more level costs -/
structure CtOk (r s : Nat) : Prop where
  leaf : 4 * s - 3 ≤ CT (r + 1) s
  op : 2 * CT r 1 + 3 ≤ CT (r + 1) s
  two : CT r 2 + 3 ≤ CT (r + 1) s
  ask : CT r 2 + CT r s + 4 ≤ CT (r + 1) s
  han : CT r s + CT (r - 1) s + 2 ≤ CT (r + 1) s
  han2 : CT r 2 + CT (r - 1) s + 2 ≤ CT (r + 1) s
  prt : CT r 1 + CT r s + 2 ≤ CT (r + 1) s
  call : CT r 1 + CT r 2 + 3 ≤ CT (r + 1) s
  snd1 : CT r (s + 1) + 2 ≤ CT (r + 1) s
  snd2 : CT r (s + 2) + 2 ≤ CT (r + 1) s
  loop : 11 ≤ CT (r + 1) s
  body : CT r s + 11 ≤ 96
  bod2 : CT r 2 + 11 ≤ 96
  pair : ∀ a : Fin s, 1 ≤ a.val → CT r a.val + CT r (s - a.val) + 3 ≤ CT (r + 1) s
theorem ctOk {r s : Nat} (hr : r ≤ 3) (h1 : 1 ≤ s) (h : s + 2 * (r + 1) ≤ 12) : CtOk r s := by
  have all : ∀ r : Fin 4, ∀ s : Fin 11, 1 ≤ s.val → s.val + 2 * (r.val + 1) ≤ 12 →
    (4 * s.val - 3 ≤ CT (r.val + 1) s.val ∧ 2 * CT r.val 1 + 3 ≤ CT (r.val + 1) s.val ∧ CT r.val 2 + 3 ≤ CT (r.val + 1) s.val ∧ CT r.val 2 + CT r.val s.val + 4 ≤ CT (r.val + 1) s.val ∧
    CT r.val s.val + CT (r.val - 1) s.val + 2 ≤ CT (r.val + 1) s.val ∧ CT r.val 2 + CT (r.val - 1) s.val + 2 ≤ CT (r.val + 1) s.val ∧ CT r.val 1 + CT r.val s.val + 2 ≤ CT (r.val + 1) s.val ∧
    CT r.val 1 + CT r.val 2 + 3 ≤ CT (r.val + 1) s.val) ∧ CT r.val (s.val + 1) + 2 ≤ CT (r.val + 1) s.val ∧ CT r.val (s.val + 2) + 2 ≤ CT (r.val + 1) s.val ∧ 11 ≤ CT (r.val + 1) s.val ∧
    CT r.val s.val + 11 ≤ 96 ∧ CT r.val 2 + 11 ≤ 96 ∧ ∀ a : Fin s.val, 1 ≤ a.val → CT r.val a.val + CT r.val (s.val - a.val) + 3 ≤ CT (r.val + 1) s.val := by decide +kernel
  obtain ⟨⟨a1, a2, a3, a4, a5, a6, a7, a8⟩, b1, b2, b3, b4, b5, b6⟩ := all ⟨r, by omega⟩ ⟨s, by omega⟩ h1 h
  exact ⟨a1, a2, a3, a4, a5, a6, a7, a8, b1, b2, b3, b4, b5, b6⟩
/-- how many expressions stand in one of depth r, of a type of z nodes -/
def SZ : Nat → Nat → Nat
  | 0, z => z
  | r + 1, z => 6 * SZ r (z + 4) + 30
theorem SZ_mono (r : Nat) : ∀ {a b : Nat}, a ≤ b → SZ r a ≤ SZ r b := by
  induction r with
  | zero => intro a b h; exact h
  | succ r ih =>
    intro a b h
    have := ih (a := a + 4) (b := b + 4) (by omega)
    simp only [SZ]; omega
theorem SZ_self (r z : Nat) : z ≤ SZ r z := by
  induction r generalizing z with
  | zero => exact Nat.le_refl z
  | succ r ih =>
    have := ih (z + 4)
    simp only [SZ]; omega
theorem SZ_pred (r z : Nat) : SZ (r - 1) z ≤ SZ r z := by
  cases r with
  | zero => exact Nat.le_refl _
  | succ r =>
    have := SZ_mono r (a := z) (b := z + 4) (by omega)
    show SZ r z ≤ 6 * SZ r (z + 4) + 30
    omega
/-- what a generated expression is: typed, of short names, of bounded size and cost -/
structure Good (ops : Ops) (Γ : Cn) (t : Tm) (τ : Ty) (d s c : Nat) : Prop where
  ty : Has ops Γ t τ
  ok : t.ok P17
  dep : t.dep ≤ d
  sz : t.sz ≤ s
  gd : t.gd0 96
  cost : t.cost ≤ c
theorem Good.le {ops : Ops} {Γ : Cn} {t : Tm} {τ : Ty} {d s c d' s' c' : Nat} (h : Good ops Γ t τ d s c) (hd : d ≤ d') (hs : s ≤ s') (hc : c ≤ c') : Good ops Γ t τ d' s' c' := ⟨h.ty, h.ok, Nat.le_trans h.dep hd, Nat.le_trans h.sz hs, h.gd, Nat.le_trans h.cost hc⟩
def lf (m : Nat) : Nat := 2 ^ (m + 1)
def szB : Nat → Nat → Nat
  | 0, m => 16 * 2 ^ m
  | r + 1, m => 8 * szB r (m + 1)
def dpB : Nat → Nat → Nat
  | 0, m => m + 2
  | r + 1, m => dpB r (m + 1) + 6
theorem szB_lf (r m : Nat) : 4 * lf m ≤ szB r m ∧ 16 ≤ szB r m ∧ szB r m ≤ szB r (m + 1) := by
  induction r generalizing m with
  | zero =>
    have : 0 < 2 ^ m := Nat.two_pow_pos m
    simp [szB, lf, Nat.pow_succ]; omega
  | succ r ih =>
    have h1 := ih (m + 1)
    have e : lf (m + 1) = 2 * lf m := by simp [lf, Nat.pow_succ]; omega
    simp only [szB]; omega
theorem szB_r (r m : Nat) : 8 * szB r m ≤ szB (r + 1) m := by
  have := szB_lf r m
  simp only [szB]; omega
theorem dpB_m (r m : Nat) : m + 2 ≤ dpB r m ∧ dpB r m ≤ dpB r (m + 1) := by
  induction r generalizing m with
  | zero => simp [dpB]
  | succ r ih =>
    have := ih (m + 1)
    simp only [dpB]; omega
theorem dpB_r (r m : Nat) : dpB r m + 6 ≤ dpB (r + 1) m := by
  have := dpB_m r m
  simp only [dpB]; omega
theorem dpB_pred (r m : Nat) : dpB (r - 1) m ≤ dpB r m := by
  cases r with
  | zero => exact Nat.le_refl _
  | succ r => have := dpB_r r m; show dpB r m ≤ _; omega
theorem Ty.small {t : Ty} (h : t.dp ≤ 1) : t.lv ≤ 2 ∧ t.mx ≤ 2 ∧ t.nd ≤ 3 := by
  have e1 := t.lv_dp
  have e2 := t.mx_dp
  have e3 := t.nd_dp
  have p1 : 2 ^ t.dp ≤ 2 ^ 1 := Nat.pow_le_pow_right (by omega) h
  have p2 : 2 ^ (t.dp + 1) ≤ 2 ^ 2 := Nat.pow_le_pow_right (by omega) (by omega)
  omega
/-! ### more names, more operations -/
theorem push {Γ Δ : Cn} {y : String} {τ : Ty} (w : ∀ x σ, Γ.lookup x = some σ → Δ.lookup x = some σ) : ∀ x σ, List.lookup x ((y, τ) :: Γ) = some σ → List.lookup x ((y, τ) :: Δ) = some σ := fun x σ h => by
  rw [List.lookup_cons] at h ⊢
  split at h
  · exact h
  · exact w x σ h
theorem weak1 {Γ : Cn} {y : String} {τ : Ty} (h : y ∉ Γ.map (·.1)) : ∀ x σ, Γ.lookup x = some σ → List.lookup x ((y, τ) :: Γ) = some σ := fun x σ e => by
  have hne : ¬ x = y := fun z => h (by
    subst z
    have : ∀ l : Cn, l.lookup x = some σ → x ∈ l.map (·.1) := fun l => by
      induction l with
      | nil => intro h; cases h
      | cons p l ih =>
        obtain ⟨a, b⟩ := p
        intro h
        rw [List.lookup_cons] at h
        by_cases c : x = a
        · simp [c]
        · rw [beq_eq_false_iff_ne.mpr c] at h
          exact List.mem_cons_of_mem _ (ih h)
    exact this Γ e)
  rw [List.lookup_cons, beq_eq_false_iff_ne.mpr hne]
  exact e
mutual
theorem Has.weak {ops : Ops} : ∀ {Γ : Cn} {t : Tm} {τ : Ty}, Has ops Γ t τ → ∀ {Δ : Cn}, (∀ x σ, Γ.lookup x = some σ → Δ.lookup x = some σ) → Has ops Δ t τ
  | _, _, _, .num i, _, _ => .num i
  | _, _, _, .flag i, _, _ => .flag i
  | _, _, _, .unit, _, _ => .unit
  | _, _, _, .name h, _, w => .name (w _ _ h)
  | _, _, _, .fn h, _, w => .fn (h.weak (push w))
  | _, _, _, .rc h, _, w => .rc (h.weak (push (push w)))
  | _, _, _, .lt h g, _, w => .lt (h.weak w) (g.weak (push w))
  | _, _, _, .op s h g, _, w => .op s (h.weak w) (g.weak w)
  | _, _, _, .ask e h, _, w => .ask e (h.weak w)
  | _, _, _, .fst h, _, w => .fst (h.weak w)
  | _, _, _, .snd h, _, w => .snd (h.weak w)
  | _, _, _, .nt h, _, w => .nt (h.weak w)
  | _, _, _, .ite h g f, _, w => .ite (h.weak w) (g.weak w) (f.weak w)
  | _, _, _, .call h g, _, w => .call (h.weak w) (g.weak w)
  | _, _, _, .pair h g d, _, w => .pair (h.weak w) (g.weak w) d
  | _, _, _, .prt h g, _, w => .prt (h.weak w) (g.weak w)
  | _, _, _, .han h g c n, _, w => .han (h.weak w) (g.weak (push w)) (c.weak w) n
theorem HasC.weak {ops : Ops} : ∀ {Γ : Cn} {t : Cls} {τ : Ty}, HasC ops Γ t τ → ∀ {Δ : Cn}, (∀ x σ, Γ.lookup x = some σ → Δ.lookup x = some σ) → HasC ops Δ t τ
  | _, _, _, .nil, _, _ => .nil
  | _, _, _, .cons e h c, _, w => .cons e (h.weak (push (push w))) (c.weak w)
end
mutual
theorem Has.opsUp {ops ops' : Ops} (w : ∀ o p, ops.lookup o = some p → ops'.lookup o = some p) : ∀ {Γ : Cn} {t : Tm} {τ : Ty}, Has ops Γ t τ → Has ops' Γ t τ
  | _, _, _, .num i => .num i
  | _, _, _, .flag i => .flag i
  | _, _, _, .unit => .unit
  | _, _, _, .name h => .name h
  | _, _, _, .fn h => .fn (h.opsUp w)
  | _, _, _, .rc h => .rc (h.opsUp w)
  | _, _, _, .lt h g => .lt (h.opsUp w) (g.opsUp w)
  | _, _, _, .op s h g => .op s (h.opsUp w) (g.opsUp w)
  | _, _, _, .ask e h => .ask (w _ _ e) (h.opsUp w)
  | _, _, _, .fst h => .fst (h.opsUp w)
  | _, _, _, .snd h => .snd (h.opsUp w)
  | _, _, _, .nt h => .nt (h.opsUp w)
  | _, _, _, .ite h g f => .ite (h.opsUp w) (g.opsUp w) (f.opsUp w)
  | _, _, _, .call h g => .call (h.opsUp w) (g.opsUp w)
  | _, _, _, .pair h g d => .pair (h.opsUp w) (g.opsUp w) d
  | _, _, _, .prt h g => .prt (h.opsUp w) (g.opsUp w)
  | _, _, _, .han h g c n => .han (h.opsUp w) (g.opsUp w) (c.opsUp w) n
theorem HasC.opsUp {ops ops' : Ops} (w : ∀ o p, ops.lookup o = some p → ops'.lookup o = some p) : ∀ {Γ : Cn} {t : Cls} {τ : Ty}, HasC ops Γ t τ → HasC ops' Γ t τ
  | _, _, _, .nil => .nil
  | _, _, _, .cons e h c => .cons (w _ _ e) (h.opsUp w) (c.opsUp w)
end
end TM
/-! TN7: values, bindings, frames as data. -/
namespace TM
open DL
mutual
def Val.e : Val → D
  | .int i => .tup [.str "int", .int i]
  | .bool b => .tup [.str "bool", .bl b]
  | .unit => .tup [.str "unit"]
  | .pair a b => .tup [.str "pair", a.e, b.e]
  | .fn f x b e => .tup [.str "fun", .str f, .str x, b.d, e.e]
  | .kept fs => .tup [.str "kept", .tup (frE fs)]
def Env.e : Env → D
  | .nil => .non
  | .cons x v e => .tup [.str x, v.e, e.e]
def Fr.e : Fr → D
  | .a t e _ => .tup [t.d, e.e, .int 0, .non]
  | .b t e v _ => .tup [t.d, e.e, .int 1, v.e]
/-- the innermost last -/
def frE : List Fr → List D
  | [] => []
  | f :: fs => frE fs ++ [f.e]
end
theorem frE_app : ∀ (a b : List Fr), frE (a ++ b) = frE b ++ frE a
  | [], b => by simp [frE]
  | f :: a, b => by rw [List.cons_append, frE, frE, frE_app a b, List.append_assoc]
theorem frE_len : ∀ a : List Fr, (frE a).length = a.length
  | [] => rfl
  | f :: a => by rw [frE, List.length_append, frE_len a]; rfl
def Cur.e : Cur → List D
  | .ev t e _ => [t.d, e.e, .non]
  | .rt v => [.non, .non, v.e]
  | .dn .steps => [.str "steps", .non, .non]
  | .dn (.unhandled o) => [.str "unhandled", .str o, .non]
  | .dn (.val v) => [.str "value", v.e, .non]
def clD (c : String × String × String × Tm) : D := .tup [.str c.1, .str c.2.1, .str c.2.2.1, c.2.2.2.d]
theorem depD_tup {l : List D} {n : Nat} (hp : ∀ x ∈ l, OkN n x) : OkN (n + 1) (.tup l) := OkN.tup hp
theorem okUp {m n : Nat} {d : D} (h : OkN n d) (e : n ≤ m) : OkN m d := ⟨h.1, Nat.le_trans h.2 e⟩
theorem on {n : Nat} : ∀ x ∈ ([] : List D), OkN n x := by simp
theorem oc {n : Nat} {a : D} {l : List D} (h : OkN n a) (g : ∀ x ∈ l, OkN n x) : ∀ x ∈ a :: l, OkN n x := fun x hx => by
  rcases List.mem_cons.mp hx with rfl | hx
  · exact h
  · exact g x hx
mutual
theorem Tm.okN : ∀ t : Tm, OkN (t.dep + 1) t.d
  | .num i => OkN.tup (n := 0) (oc (.str) (oc (.int) on))
  | .flag b => OkN.tup (n := 0) (oc (.str) (oc ⟨rfl, Nat.le_refl 0⟩ on))
  | .unit => OkN.tup (n := 0) (oc (.str) on)
  | .name y => OkN.tup (n := 0) (oc (.str) (oc (.str) on))
  | .fn y b => by
    have hb := b.okN
    exact OkN.tup (oc (okUp .str (by omega)) (oc (okUp .str (by omega)) (oc hb on)))
  | .rc f y b => by
    have hb := b.okN
    exact OkN.tup (oc (okUp .str (by omega)) (oc (okUp .str (by omega)) (oc (okUp .str (by omega)) (oc hb on))))
  | .lt y a b => by
    have ha := a.okN
    have hb := b.okN
    exact OkN.tup (oc (okUp .str (by omega)) (oc (okUp .str (by omega)) (oc (okUp ha (by simp only [Tm.dep]; omega)) (oc (okUp hb (by simp only [Tm.dep]; omega)) on))))
  | .op y a b => by
    have ha := a.okN
    have hb := b.okN
    exact OkN.tup (oc (okUp .str (by omega)) (oc (okUp .str (by omega)) (oc (okUp ha (by simp only [Tm.dep]; omega)) (oc (okUp hb (by simp only [Tm.dep]; omega)) on))))
  | .ask o a => by
    have ha := a.okN
    exact OkN.tup (oc (okUp .str (by omega)) (oc (okUp .str (by omega)) (oc ha on)))
  | .fst a => by
    have ha := a.okN
    exact OkN.tup (oc (okUp .str (by omega)) (oc ha on))
  | .snd a => by
    have ha := a.okN
    exact OkN.tup (oc (okUp .str (by omega)) (oc ha on))
  | .nt a => by
    have ha := a.okN
    exact OkN.tup (oc (okUp .str (by omega)) (oc ha on))
  | .ite a b c => by
    have ha := a.okN
    have hb := b.okN
    have hc := c.okN
    exact OkN.tup (oc (okUp .str (by omega)) (oc (okUp ha (by simp only [Tm.dep]; omega)) (oc (okUp hb (by simp only [Tm.dep]; omega)) (oc (okUp hc (by simp only [Tm.dep]; omega)) on))))
  | .call a b => by
    have ha := a.okN
    have hb := b.okN
    exact OkN.tup (oc (okUp .str (by omega)) (oc (okUp ha (by simp only [Tm.dep]; omega)) (oc (okUp hb (by simp only [Tm.dep]; omega)) on)))
  | .pair a b => by
    have ha := a.okN
    have hb := b.okN
    exact OkN.tup (oc (okUp .str (by omega)) (oc (okUp ha (by simp only [Tm.dep]; omega)) (oc (okUp hb (by simp only [Tm.dep]; omega)) on)))
  | .prt a b => by
    have ha := a.okN
    have hb := b.okN
    exact OkN.tup (oc (okUp .str (by omega)) (oc (okUp ha (by simp only [Tm.dep]; omega)) (oc (okUp hb (by simp only [Tm.dep]; omega)) on)))
  | .han e r b cs => by
    have he := e.okN
    have hb := b.okN
    have hc := cs.okN
    refine OkN.tup ?_
    intro x hx
    simp at hx
    rcases hx with rfl | rfl | rfl | rfl
    · exact okUp .str (by omega)
    · exact okUp he (by simp only [Tm.dep]; omega)
    · exact okUp (OkN.tup (n := b.dep + 1) (oc (okUp .str (by omega)) (oc hb on))) (by simp only [Tm.dep]; omega)
    · exact okUp (OkN.tup hc) (by simp only [Tm.dep]; omega)
theorem Cls.okN : ∀ c : Cls, ∀ x ∈ c.d, OkN (c.dep + 2) x
  | .nil, x, hx => by simp [Cls.d] at hx
  | .cons o y k b r, x, hx => by
    have hb := b.okN
    rw [Cls.d, List.mem_cons] at hx
    rcases hx with rfl | hx
    · exact okUp (OkN.tup (n := b.dep + 1) (oc (okUp .str (by omega)) (oc (okUp .str (by omega)) (oc (okUp .str (by omega)) (oc hb on))))) (by simp only [Cls.dep]; omega)
    · exact okUp (r.okN x hx) (by simp only [Cls.dep]; omega)
end
theorem Tm.okD {t : Tm} (h : t.dep ≤ 40) : okD t.d = true := OkN.ok (n := 41) (okUp t.okN (by omega))
theorem Tm.tupD : ∀ t : Tm, ∃ l, t.d = .tup l
  | .num _ => ⟨_, rfl⟩ | .flag _ => ⟨_, rfl⟩ | .unit => ⟨_, rfl⟩ | .name _ => ⟨_, rfl⟩
  | .fn _ _ => ⟨_, rfl⟩ | .rc _ _ _ => ⟨_, rfl⟩ | .lt _ _ _ => ⟨_, rfl⟩ | .op _ _ _ => ⟨_, rfl⟩ | .ask _ _ => ⟨_, rfl⟩
  | .fst _ => ⟨_, rfl⟩ | .snd _ => ⟨_, rfl⟩ | .nt _ => ⟨_, rfl⟩ | .ite _ _ _ => ⟨_, rfl⟩ | .call _ _ => ⟨_, rfl⟩ | .pair _ _ => ⟨_, rfl⟩ | .prt _ _ => ⟨_, rfl⟩
  | .han _ _ _ _ => ⟨_, rfl⟩
theorem cls_find_d {o : String} : ∀ {c : Cls}, (∀ x k b, c.find o = some (x, k, b) → .tup [.str o, .str x, .str k, b.d] ∈ c.d) 
  | .nil, _, _, _, h => by cases h
  | .cons o' x' k' b' r, x, k, b, h => by
    rw [Cls.find] at h
    rw [Cls.d, List.mem_cons]
    by_cases e : o' = o
    · rw [if_pos e] at h; cases h; subst e; exact .inl rfl
    · rw [if_neg e] at h; exact .inr (cls_find_d x k b h)
end TM
/-! TN8: what a step adds; lengths. -/
namespace TM
open DL
theorem into_adds {s s' : LS} {t : Tm} {e : Env} {k : List Nat} (h : into s t e k = some s') : s'.pr = s.pr ∧ s'.an = s.an ∧ ∀ v, s'.cur ≠ .dn (.val v) := by
  cases t <;> first
    | (cases h; exact ⟨rfl, rfl, fun _ z => by cases z⟩)
    | (simp only [into] at h
       split at h
       · cases h; exact ⟨rfl, rfl, fun _ z => by cases z⟩
       · cases h)
theorem call_adds {s s' : LS} {u v : Val} (h : callV s u v = some s') : s'.pr = s.pr ∧ s'.an = s.an ∧ ∀ v, s'.cur ≠ .dn (.val v) := by
  unfold callV at h
  split at h
  · cases h; exact ⟨rfl, rfl, fun _ z => by cases z⟩
  · cases u <;> (cases h; try exact ⟨rfl, rfl, fun _ z => by cases z⟩)
theorem ask_adds {s s' : LS} {o : String} {v : Val} (h : askV s o v = some s') : s'.pr = s.pr ∧ s'.an.length ≤ s.an.length + 1 ∧ ∀ v, s'.cur ≠ .dn (.val v) := by
  unfold askV at h
  split at h
  · cases h; exact ⟨rfl, Nat.le_succ _, fun _ z => by cases z⟩
  · split at h
    · cases h; exact ⟨rfl, by simp, fun _ z => by cases z⟩
    · cases h; exact ⟨rfl, Nat.le_succ _, fun _ z => by cases z⟩
theorem back_adds {s s' : LS} {f : Fr} {v : Val} (h : back s f v = some s') : s'.pr.length ≤ s.pr.length + 1 ∧ s'.an.length ≤ s.an.length + 1 ∧ ∀ v, s'.cur ≠ .dn (.val v) := by
  have same : ∀ {c : Cur} {fs : List Fr}, some { s with cur := c, fs := fs } = some s' → (∀ v, c ≠ .dn (.val v)) → s'.pr.length ≤ s.pr.length + 1 ∧ s'.an.length ≤ s.an.length + 1 ∧ ∀ v, s'.cur ≠ .dn (.val v) := fun h hc => by
    cases h; exact ⟨Nat.le_succ _, Nat.le_succ _, hc⟩
  cases f with
  | a t e k =>
    cases t with
    | call a b => exact same h fun _ z => by cases z
    | pair a b => exact same h fun _ z => by cases z
    | op o a b => exact same h fun _ z => by cases z
    | lt x a b => exact same (fs := s.fs) h fun _ z => by cases z
    | han e0 r b cs => exact same (fs := s.fs) h fun _ z => by cases z
    | ite a b c =>
      cases v with
      | bool q => exact same (fs := s.fs) h fun _ z => by cases z
      | _ => cases h
    | prt a b =>
      cases v with
      | int i => cases h; exact ⟨by simp, Nat.le_succ _, fun _ z => by cases z⟩
      | _ => cases h
    | ask o a =>
      have := ask_adds h
      exact ⟨by rw [this.1]; exact Nat.le_succ _, this.2⟩
    | nt a =>
      cases v with
      | bool q => exact same (fs := s.fs) h fun _ z => by cases z
      | _ => cases h
    | fst a =>
      cases v with
      | pair x y => exact same (fs := s.fs) h fun _ z => by cases z
      | _ => cases h
    | snd a =>
      cases v with
      | pair x y => exact same (fs := s.fs) h fun _ z => by cases z
      | _ => cases h
    | _ => cases h
  | b t e u k =>
    cases t with
    | op o a b =>
      cases u with
      | int i =>
        cases v with
        | int j =>
          simp only [back] at h
          split at h
          · exact same (fs := s.fs) h fun _ z => by cases z
          · cases h
        | _ => cases h
      | _ => cases h
    | pair a b => exact same (fs := s.fs) h fun _ z => by cases z
    | call a b =>
      have := call_adds h
      exact ⟨by rw [this.1]; exact Nat.le_succ _, by rw [this.2.1]; exact Nat.le_succ _, this.2.2⟩
    | _ => cases h
theorem step_adds {s s' : LS} (h : s.step = some s') : s'.pr.length ≤ s.pr.length + 1 ∧ s'.an.length ≤ s.an.length + 1 ∧ ∀ v, s'.cur ≠ .dn (.val v) := by
  unfold LS.step at h
  split at h
  · have := into_adds h
    exact ⟨by rw [this.1]; exact Nat.le_succ _, by rw [this.2.1]; exact Nat.le_succ _, this.2.2⟩
  · split at h
    · cases h
    · rename_i fs _
      exact back_adds (s := { s with fs := fs }) h
  · cases h
theorem FT.len {ops : Ops} {B N : Nat} {f : Fr} {σ ρ : Ty} (h : FT ops B N f σ ρ) : 1 ≤ f.tk.length := by
  cases h <;> (rename_i hl; simp only [Fr.tk]; first | omega | (rename_i hl; omega))
theorem ST.len {ops : Ops} {B N : Nat} : ∀ {fs : List Fr} {σ ρ : Ty}, ST ops B N fs σ ρ → fs.length ≤ (toks fs).length
  | _, _, _, .nil => Nat.zero_le _
  | _, _, _, .cons hf _ s => by
    have := hf.len
    have := s.len
    rw [toks_cons, List.length_append, List.length_cons]
    omega
theorem Spent.pot {C L m : Nat} {s : LS} (h : Spent C L m s) (hC : C ≤ 164) (hL : L ≤ 60) : m + s.pot ≤ 94400 := by
  obtain ⟨n1, n2, h1, h2, h3⟩ := h
  have t := table ⟨n2, by omega⟩
  have : (1 + n2) * s.nx ≤ (1 + n2) * (164 + 96 * (60 - n2)) := Nat.mul_le_mul_left _ (by omega)
  have h4 := Nat.le_trans h3 this
  have t' : (1 + n2) * (164 + 96 * (60 - n2)) ≤ 94400 := t
  omega
theorem StOk.fslen {ops : Ops} {B : Nat} {τ : Ty} {s : LS} (h : StOk ops B τ s) (hd : ∀ r, s.cur ≠ .dn r) : s.fs.length ≤ s.pot := by
  cases h with
  | dn => exact absurd rfl (hd _)
  | ev _ _ _ _ hS _ _ _ => exact Nat.le_trans hS.len (Nat.le_add_left _ _)
  | rt _ hS _ _ _ => exact Nat.le_trans hS.len (Nat.le_add_left _ _)
end TM
/-! TN10: what a run prints and ends with is small; texts of expressions are short. -/
namespace TM
open DL
/-- printed numbers are small, an operation that nobody handles has a short name -/
def PrOk (s : LS) : Prop := (∀ i ∈ s.pr, i.natAbs < 2 ^ 32) ∧ ∀ o, s.cur = .dn (.unhandled o) → o.length ≤ 8
theorem into_pr {s s' : LS} {t : Tm} {e : Env} {k : List Nat} (h : into s t e k = some s') : s'.pr = s.pr ∧ ∀ r, s'.cur ≠ .dn r := by
  cases t <;> first
    | (cases h; exact ⟨rfl, fun _ z => by cases z⟩)
    | (simp only [into] at h
       split at h
       · cases h; exact ⟨rfl, fun _ z => by cases z⟩
       · cases h)
theorem call_pr {s s' : LS} {u v : Val} (h : callV s u v = some s') : s'.pr = s.pr ∧ ∀ o, s'.cur ≠ .dn (.unhandled o) := by
  unfold callV at h
  split at h
  · cases h; exact ⟨rfl, fun _ z => by cases z⟩
  · cases u <;> (cases h; try exact ⟨rfl, fun _ z => by cases z⟩)
theorem ask_pr {s s' : LS} {o : String} {v : Val} (h : askV s o v = some s') : s'.pr = s.pr ∧ ∀ o', s'.cur = .dn (.unhandled o') → o' = o := by
  unfold askV at h
  split at h
  · cases h; exact ⟨rfl, fun _ z => by cases z⟩
  · split at h
    · cases h; exact ⟨rfl, fun _ z => by cases z⟩
    · cases h; exact ⟨rfl, fun _ z => by cases z; rfl⟩
theorem back_pr {ops : Ops} {B N : Nat} {s s' : LS} {f : Fr} {v : Val} {σ ρ : Ty} (hS : ∀ o p, ops.lookup o = some p → o.length ≤ 8) (hF : FT ops B N f σ ρ) (hv : VT ops B N v σ) (h : back s f v = some s') (hp : ∀ i ∈ s.pr, i.natAbs < 2 ^ 32) : PrOk s' := by
  have same : ∀ {c : Cur} {fs : List Fr}, some { s with cur := c, fs := fs } = some s' → (∀ r, c ≠ .dn r) → PrOk s' := fun h hc => by
    cases h; exact ⟨hp, fun o z => absurd z (hc _)⟩
  cases f with
  | a t e k =>
    cases t with
    | call a b => exact same h fun _ z => by cases z
    | pair a b => exact same h fun _ z => by cases z
    | op o a b => exact same h fun _ z => by cases z
    | lt x a b => exact same (fs := s.fs) h fun _ z => by cases z
    | han e0 r b cs => exact same (fs := s.fs) h fun _ z => by cases z
    | ite a b c =>
      cases v with
      | bool q => exact same (fs := s.fs) h fun _ z => by cases z
      | _ => cases h
    | prt a b =>
      cases v with
      | int i =>
        cases h
        have hi : i.natAbs < 2 ^ 32 := by cases hF; cases hv; assumption
        refine ⟨fun j hj => ?_, fun _ z => by cases z⟩
        rcases List.mem_append.mp hj with hj | hj
        · exact hp j hj
        · simp at hj; subst hj; exact hi
      | _ => cases h
    | ask o a =>
      have := ask_pr h
      refine ⟨fun i hi => hp i (by rw [← this.1]; exact hi), fun o' z => ?_⟩
      rw [this.2 o' z]
      cases hF with
      | ask1 _ hl _ => exact hS _ _ hl
    | nt a =>
      cases v with
      | bool q => exact same (fs := s.fs) h fun _ z => by cases z
      | _ => cases h
    | fst a =>
      cases v with
      | pair x y => exact same (fs := s.fs) h fun _ z => by cases z
      | _ => cases h
    | snd a =>
      cases v with
      | pair x y => exact same (fs := s.fs) h fun _ z => by cases z
      | _ => cases h
    | _ => cases h
  | b t e u k =>
    cases t with
    | op o a b =>
      cases u with
      | int i =>
        cases v with
        | int j =>
          simp only [back] at h
          split at h
          · exact same (fs := s.fs) h fun _ z => by cases z
          · cases h
        | _ => cases h
      | _ => cases h
    | pair a b => exact same (fs := s.fs) h fun _ z => by cases z
    | call a b =>
      have := call_pr h
      exact ⟨fun i hi => hp i (by rw [← this.1]; exact hi), fun o z => absurd z (this.2 o)⟩
    | _ => cases h
theorem step_pr {ops : Ops} {B : Nat} {τ : Ty} {s s' : LS} (hS : ∀ o p, ops.lookup o = some p → o.length ≤ 8) (ok : StOk ops B τ s) (hp : PrOk s) (h : s.step = some s') : PrOk s' := by
  unfold LS.step at h
  cases ok with
  | dn => cases h
  | ev =>
    have := into_pr h
    exact ⟨fun i hi => hp.1 i (by rw [this.1] at hi; exact hi), fun o z => absurd z (this.2 _)⟩
  | rt hv hst _ _ _ =>
    cases hst with
    | nil => cases h
    | cons hf _ _ => exact back_pr hS hf hv h hp.1
theorem run_pr {ops : Ops} {B : Nat} {τ : Ty} (hP : ∀ o α β, ops.lookup o = some (α, β) → β.plain = true) (hS : ∀ o p, ops.lookup o = some p → o.length ≤ 8) : ∀ {n : Nat} {s u : LS}, LRun n s u → StOk ops B τ s → PrOk s → StOk ops B τ u ∧ PrOk u ∧ u.pr.length ≤ s.pr.length + n ∧ u.an.length ≤ s.an.length + n
  | _, _, _, .done _, ok, hp => ⟨ok, hp, Nat.le_refl _, Nat.le_refl _⟩
  | _, s, u, .step (s' := s') h r, ok, hp => by
    obtain ⟨s2, h2, ok2, _⟩ := step_ok hP ok (step_res h)
    rw [h] at h2
    cases h2
    obtain ⟨a, b, c, d⟩ := run_pr hP hS r ok2 (step_pr hS ok hp h)
    have := step_adds h
    exact ⟨a, b, by omega, by omega⟩
@[simp] theorem lw_num : "num".length = 3 := by decide
@[simp] theorem lw_flag : "flag".length = 4 := by decide
@[simp] theorem lw_unit : "unit".length = 4 := by decide
@[simp] theorem lw_name : "name".length = 4 := by decide
@[simp] theorem lw_fun : "fun".length = 3 := by decide
@[simp] theorem lw_rec : "rec".length = 3 := by decide
@[simp] theorem lw_let : "let".length = 3 := by decide
@[simp] theorem lw_op : "op".length = 2 := by decide
@[simp] theorem lw_ask : "ask".length = 3 := by decide
@[simp] theorem lw_fst : "fst".length = 3 := by decide
@[simp] theorem lw_snd : "snd".length = 3 := by decide
@[simp] theorem lw_not : "not".length = 3 := by decide
@[simp] theorem lw_if : "if".length = 2 := by decide
@[simp] theorem lw_call : "call".length = 4 := by decide
@[simp] theorem lw_pair : "pair".length = 4 := by decide
@[simp] theorem lw_print : "print".length = 5 := by decide
@[simp] theorem lw_handle : "handle".length = 6 := by decide
@[simp] theorem lw_int : "int".length = 3 := by decide
@[simp] theorem lw_bool : "bool".length = 4 := by decide
@[simp] theorem lw_steps : "steps".length = 5 := by decide
@[simp] theorem lw_unhandled : "unhandled".length = 9 := by decide
@[simp] theorem lw_value : "value".length = 5 := by decide
@[simp] theorem lw_kept : "kept".length = 4 := by decide
@[simp] theorem lw_program : "program".length = 7 := by decide
/-- the text of an expression -/
theorem szD_str {x : String} (h : x.length ≤ 8) : szD (.str x) ≤ 82 := by simp only [szD]; omega
mutual
theorem Tm.flat {P : String → Prop} (hP : ∀ x, P x → x.length ≤ 8) : ∀ t : Tm, t.ok P → flatT t.d = true ∧ szD t.d + 260 ≤ 400 * t.sz
  | .num i, h => by
    have h : i.natAbs < 2 ^ 32 := h
    exact ⟨by simp [Tm.d, flatT, flatTs]; omega, by simp [Tm.d, szD, szDs, Tm.sz]⟩
  | .flag b, h => ⟨rfl, by simp [Tm.d, szD, szDs, Tm.sz]⟩
  | .unit, h => ⟨rfl, by simp [Tm.d, szD, szDs, Tm.sz]⟩
  | .name x, h => ⟨rfl, by have := hP x h; simp [Tm.d, szD, szDs, Tm.sz]; omega⟩
  | .fn x b, h => by
    obtain ⟨h1, h2⟩ := h
    have := hP x h1
    have ib := b.flat hP h2
    exact ⟨by simp [Tm.d, flatT, flatTs, ib.1], by have := ib.2; simp [Tm.d, szD, szDs, Tm.sz]; omega⟩
  | .rc f x b, h => by
    obtain ⟨h0, h1, h2⟩ := h
    have := hP x h1
    have := hP f h0
    have ib := b.flat hP h2
    exact ⟨by simp [Tm.d, flatT, flatTs, ib.1], by have := ib.2; simp [Tm.d, szD, szDs, Tm.sz]; omega⟩
  | .lt x a b, h => by
    obtain ⟨h1, h2, h3⟩ := h
    have := hP x h1
    have ia := a.flat hP h2
    have ib := b.flat hP h3
    exact ⟨by simp [Tm.d, flatT, flatTs, ia.1, ib.1], by have := ia.2; have := ib.2; simp [Tm.d, szD, szDs, Tm.sz]; omega⟩
  | .op s a b, h => by
    obtain ⟨h1, h2, h3⟩ := h
    have ia := a.flat hP h2
    have ib := b.flat hP h3
    exact ⟨by simp [Tm.d, flatT, flatTs, ia.1, ib.1], by have := ia.2; have := ib.2; simp [Tm.d, szD, szDs, Tm.sz]; omega⟩
  | .ask o a, h => by
    obtain ⟨h1, h2⟩ := h
    have ia := a.flat hP h2
    exact ⟨by simp [Tm.d, flatT, flatTs, ia.1], by have := ia.2; simp [Tm.d, szD, szDs, Tm.sz]; omega⟩
  | .fst a, h => by
    have ia := a.flat hP h
    exact ⟨by simp [Tm.d, flatT, flatTs, ia.1], by have := ia.2; simp [Tm.d, szD, szDs, Tm.sz]; omega⟩
  | .snd a, h => by
    have ia := a.flat hP h
    exact ⟨by simp [Tm.d, flatT, flatTs, ia.1], by have := ia.2; simp [Tm.d, szD, szDs, Tm.sz]; omega⟩
  | .nt a, h => by
    have ia := a.flat hP h
    exact ⟨by simp [Tm.d, flatT, flatTs, ia.1], by have := ia.2; simp [Tm.d, szD, szDs, Tm.sz]; omega⟩
  | .ite a b c, h => by
    obtain ⟨h1, h2, h3⟩ := h
    have ia := a.flat hP h1
    have ib := b.flat hP h2
    have ic := c.flat hP h3
    exact ⟨by simp [Tm.d, flatT, flatTs, ia.1, ib.1, ic.1], by have := ia.2; have := ib.2; have := ic.2; simp [Tm.d, szD, szDs, Tm.sz]; omega⟩
  | .call a b, h => by
    obtain ⟨h2, h3⟩ := h
    have ia := a.flat hP h2
    have ib := b.flat hP h3
    exact ⟨by simp [Tm.d, flatT, flatTs, ia.1, ib.1], by have := ia.2; have := ib.2; simp [Tm.d, szD, szDs, Tm.sz]; omega⟩
  | .pair a b, h => by
    obtain ⟨h2, h3⟩ := h
    have ia := a.flat hP h2
    have ib := b.flat hP h3
    exact ⟨by simp [Tm.d, flatT, flatTs, ia.1, ib.1], by have := ia.2; have := ib.2; simp [Tm.d, szD, szDs, Tm.sz]; omega⟩
  | .prt a b, h => by
    obtain ⟨h2, h3⟩ := h
    have ia := a.flat hP h2
    have ib := b.flat hP h3
    exact ⟨by simp [Tm.d, flatT, flatTs, ia.1, ib.1], by have := ia.2; have := ib.2; simp [Tm.d, szD, szDs, Tm.sz]; omega⟩
  | .han e r b cs, h => by
    obtain ⟨h1, h2, h3, h4, h5⟩ := h
    have := hP r h1
    have ia := e.flat hP h2
    have ib := b.flat hP h3
    have ic := cs.flat hP h5
    exact ⟨by simp [Tm.d, flatT, flatTs, ia.1, ib.1, ic.1], by have := ia.2; have := ib.2; have := ic.2; simp [Tm.d, szD, szDs, Tm.sz]; omega⟩
theorem Cls.flat {P : String → Prop} (hP : ∀ x, P x → x.length ≤ 8) : ∀ c : Cls, c.ok P → flatTs c.d = true ∧ szDs c.d ≤ 400 * c.sz
  | .nil, h => ⟨rfl, by simp [Cls.d, szDs]⟩
  | .cons o x k b r, h => by
    obtain ⟨h1, h2, h3, h4, h5⟩ := h
    have := hP x h2
    have := hP k h3
    have ib := b.flat hP h4
    have ic := r.flat hP h5
    exact ⟨by simp [Cls.d, flatT, flatTs, ib.1, ic.1], by have := ib.2; have := ic.2; simp [Cls.d, szD, szDs, Cls.sz]; omega⟩
end
end TM
/-! TN9: states as the plain meaning has them: what is bound is put in. -/
namespace TM
open DL
abbrev Rho := String → Option D
def cut (ρ : Rho) (x : String) : Rho := fun y => if x = y then none else ρ y
def fill (ρ : Rho) (x : String) (d : D) : Rho := fun y => match ρ y with
  | some z => some z
  | none => if x = y then some d else none
mutual
def sub (ρ : Rho) : Tm → D
  | .num i => .tup [.str "num", .int i]
  | .flag b => .tup [.str "flag", .bl b]
  | .unit => .tup [.str "unit"]
  | .name x => match ρ x with
    | some d => .tup [.str "quoted", d]
    | none => .tup [.str "name", .str x]
  | .fn x b => .tup [.str "fun", .str x, sub (cut ρ x) b]
  | .rc f x b => .tup [.str "rec", .str f, .str x, sub (cut (cut ρ f) x) b]
  | .lt x a b => .tup [.str "let", .str x, sub ρ a, sub (cut ρ x) b]
  | .op s a b => .tup [.str "op", .str s, sub ρ a, sub ρ b]
  | .ask o a => .tup [.str "ask", .str o, sub ρ a]
  | .fst a => .tup [.str "fst", sub ρ a]
  | .snd a => .tup [.str "snd", sub ρ a]
  | .nt a => .tup [.str "not", sub ρ a]
  | .ite a b c => .tup [.str "if", sub ρ a, sub ρ b, sub ρ c]
  | .call a b => .tup [.str "call", sub ρ a, sub ρ b]
  | .pair a b => .tup [.str "pair", sub ρ a, sub ρ b]
  | .prt a b => .tup [.str "print", sub ρ a, sub ρ b]
  | .han e r b cs => .tup [.str "handle", sub ρ e, .tup [.str r, sub (cut ρ r) b], .tup (subC ρ cs)]
def subC (ρ : Rho) : Cls → List D
  | .nil => []
  | .cons o x k b r => .tup [.str o, .str x, .str k, sub (cut (cut ρ x) k) b] :: subC ρ r
end
mutual
def Val.p : Val → D
  | .int i => .tup [.str "num", .int i]
  | .bool b => .tup [.str "flag", .bl b]
  | .unit => .tup [.str "unit"]
  | .pair a b => .tup [.str "pair", a.p, b.p]
  | .fn f x b e => if f = "" then .tup [.str "fun", .str x, sub (cut e.ro x) b] else .tup [.str "rec", .str f, .str x, sub (cut (cut e.ro f) x) b]
  | .kept fs => .tup [.str "kept", .tup (frP fs)]
def Env.ro : Env → Rho
  | .nil => fun _ => none
  | .cons x v e => fun y => if x = y then some v.p else e.ro y
def Fr.p : Fr → D
  | .a t e _ => match t with
    | .call _ b => .tup [.str "call", sub e.ro b]
    | .pair _ b => .tup [.str "pair", sub e.ro b]
    | .op o _ b => .tup [.str "op", .str o, sub e.ro b]
    | .lt x _ b => .tup [.str "let", .str x, sub (cut e.ro x) b]
    | .ite _ b c => .tup [.str "if", sub e.ro b, sub e.ro c]
    | .prt _ b => .tup [.str "print", sub e.ro b]
    | .ask o _ => .tup [.str "ask", .str o]
    | .han _ r b cs => .tup [.str "handle", .tup [.str r, sub (cut e.ro r) b], .tup (subC e.ro cs)]
    | .nt _ => .tup [.str "not"]
    | .fst _ => .tup [.str "fst"]
    | .snd _ => .tup [.str "snd"]
    | _ => .non
  | .b t _ v _ => match t with
    | .op o _ _ => .tup [.str "op2", .str o, v.p]
    | .pair _ _ => .tup [.str "pair2", v.p]
    | .call _ _ => .tup [.str "call2", v.p]
    | _ => .non
def frP : List Fr → List D
  | [] => []
  | f :: fs => frP fs ++ [f.p]
end
theorem frP_app : ∀ (a b : List Fr), frP (a ++ b) = frP b ++ frP a
  | [], b => by simp [frP]
  | f :: a, b => by rw [List.cons_append, frP, frP, frP_app a b, List.append_assoc]
theorem frP_len : ∀ a : List Fr, (frP a).length = a.length
  | [] => rfl
  | f :: a => by rw [frP, List.length_append, frP_len a]; rfl
theorem sub_nil_aux (ρ : Rho) (h : ∀ x, ρ x = none) (x : String) : ∀ y, cut ρ x y = none := fun y => by
  unfold cut; split
  · rfl
  · exact h y
mutual
theorem sub_nil : ∀ (t : Tm) (ρ : Rho), (∀ x, ρ x = none) → sub ρ t = t.d
  | .num i, ρ, h => rfl
  | .flag b, ρ, h => rfl
  | .unit, ρ, h => rfl
  | .name x, ρ, h => by simp only [sub, h x, Tm.d]
  | .fn x b, ρ, h => by simp only [sub, Tm.d, sub_nil b _ (sub_nil_aux ρ h x)]
  | .rc f x b, ρ, h => by simp only [sub, Tm.d, sub_nil b _ (sub_nil_aux _ (sub_nil_aux ρ h f) x)]
  | .lt x a b, ρ, h => by simp only [sub, Tm.d, sub_nil a ρ h, sub_nil b _ (sub_nil_aux ρ h x)]
  | .op s a b, ρ, h => by simp only [sub, Tm.d, sub_nil a ρ h, sub_nil b ρ h]
  | .ask o a, ρ, h => by simp only [sub, Tm.d, sub_nil a ρ h]
  | .fst a, ρ, h => by simp only [sub, Tm.d, sub_nil a ρ h]
  | .snd a, ρ, h => by simp only [sub, Tm.d, sub_nil a ρ h]
  | .nt a, ρ, h => by simp only [sub, Tm.d, sub_nil a ρ h]
  | .ite a b c, ρ, h => by simp only [sub, Tm.d, sub_nil a ρ h, sub_nil b ρ h, sub_nil c ρ h]
  | .call a b, ρ, h => by simp only [sub, Tm.d, sub_nil a ρ h, sub_nil b ρ h]
  | .pair a b, ρ, h => by simp only [sub, Tm.d, sub_nil a ρ h, sub_nil b ρ h]
  | .prt a b, ρ, h => by simp only [sub, Tm.d, sub_nil a ρ h, sub_nil b ρ h]
  | .han e r b cs, ρ, h => by simp only [sub, Tm.d, sub_nil e ρ h, sub_nil b _ (sub_nil_aux ρ h r), subC_nil cs ρ h]
theorem subC_nil : ∀ (t : Cls) (ρ : Rho), (∀ x, ρ x = none) → subC ρ t = t.d
  | .nil, ρ, h => rfl
  | .cons o x k b r, ρ, h => by simp only [subC, Cls.d, sub_nil b _ (sub_nil_aux _ (sub_nil_aux ρ h x) k), subC_nil r ρ h]
end
theorem cut_fill_same (ρ : Rho) (x : String) (d : D) : cut (fill ρ x d) x = cut ρ x := by
  funext y
  unfold cut fill
  by_cases h : x = y
  · simp [h]
  · simp only [h, if_false]; cases ρ y <;> simp
theorem cut_fill_ne (ρ : Rho) {x y : String} (h : x ≠ y) (d : D) : cut (fill ρ x d) y = fill (cut ρ y) x d := by
  funext z
  unfold cut fill
  by_cases e : y = z
  · subst e; simp [h]
  · simp only [e, if_false]
theorem fill_cut (e : Env) (x : String) (v : Val) : fill (cut e.ro x) x v.p = (Env.cons x v e).ro := by
  funext y
  show _ = if x = y then some v.p else e.ro y
  unfold fill cut
  by_cases h : x = y
  · simp [h]
  · simp only [h, if_false]; cases e.ro y <;> simp
theorem fill_cut2 (e : Env) {x k : String} (hne : x ≠ k) (v w : Val) : fill (fill (cut (cut e.ro x) k) x v.p) k w.p = (Env.cons k w (.cons x v e)).ro := by
  funext y
  show _ = if k = y then some w.p else if x = y then some v.p else e.ro y
  unfold fill cut
  by_cases h : k = y
  · subst h; simp [hne]
  · by_cases g : x = y
    · subst g; simp [h]
    · simp only [h, g, if_false]; cases e.ro y <;> simp
theorem fill_cut2s (e : Env) {x : String} (v w : Val) : fill (cut (cut e.ro x) x) x w.p = (Env.cons x w (.cons x v e)).ro := by
  funext y
  show _ = if x = y then some w.p else if x = y then some v.p else e.ro y
  unfold fill cut
  by_cases h : x = y
  · simp [h]
  · simp only [h, if_false]; cases e.ro y <;> simp
/-- the parameter first, the function's own name then -/
theorem fill_rec (e : Env) (f x : String) (v w : Val) : fill (fill (cut (cut e.ro f) x) x v.p) f w.p = (Env.cons x v (.cons f w e)).ro := by
  funext y
  show _ = if x = y then some v.p else if f = y then some w.p else e.ro y
  unfold fill cut
  by_cases h : x = y
  · simp [h]
  · by_cases g : f = y
    · subst g; simp [h]
    · simp only [h, g, if_false]; cases e.ro y <;> simp
theorem ro_find : ∀ {e : Env} {x : String} {v : Val}, e.find x = some v → e.ro x = some v.p
  | .nil, _, _, h => by cases h
  | .cons y u e, x, v, h => by
    rw [Env.find] at h
    show (if y = x then some u.p else e.ro x) = _
    by_cases c : y = x
    · rw [if_pos c] at h ⊢; cases h; rfl
    · rw [if_neg c] at h ⊢; exact ro_find h
/-! ### what is a value at once -/
def lit : Tm → Bool
  | .num _ => true | .flag _ => true | .unit => true | .fn _ _ => true | .rc _ _ _ => true
  | .pair a b => lit a && lit b
  | _ => false
def litv (e : Env) : Tm → Val
  | .num i => .int i | .flag b => .bool b | .unit => .unit
  | .fn x b => .fn "" x b e | .rc f x b => .fn f x b e
  | .pair a b => .pair (litv e a) (litv e b)
  | _ => .unit
theorem litv_p {B : Nat} {e : Env} : ∀ {t : Tm}, lit t = true → t.gd B → (litv e t).p = sub e.ro t
  | .num i, _, _ => rfl
  | .flag b, _, _ => rfl
  | .unit, _, _ => rfl
  | .fn x b, _, _ => by simp [litv, Val.p, sub]
  | .rc f x b, _, g => by simp [litv, Val.p, sub, (gd_rc g).1]
  | .pair a b, h, g => by
    have h := Bool.and_eq_true_iff.mp (show (lit a && lit b) = true from h)
    have g := gd_pair g
    simp only [litv, Val.p, sub, litv_p h.1 g.1, litv_p h.2 g.2]
/-! ### a run that is known to end in u -/
structure Tr (ops : Ops) (τ : Ty) (C L : Nat) (u : LS) (n : Nat) (s : LS) : Prop where
  run : LRun n s u
  ok : StOk ops 96 τ s
  sp : ∃ m, m + n ≤ 94400 ∧ Spent C L m s ∧ s.pr.length ≤ m ∧ s.an.length ≤ m
  nv : ∀ v, s.cur ≠ .dn (.val v)
theorem Tr.go {ops : Ops} {τ : Ty} {C L : Nat} {u : LS} {n : Nat} {s s' : LS} (hP : ∀ o α β, ops.lookup o = some (α, β) → β.plain = true) (h : Tr ops τ C L u n s) (hs : s.step = some s') : ∃ n', n = n' + 1 ∧ Tr ops τ C L u n' s' := by
  have hr := step_res hs
  obtain ⟨run, ok, ⟨m, h1, h2, h3, h4⟩, nv⟩ := h
  obtain ⟨s1, g1, g2, g3⟩ := step_ok hP ok hr
  rw [hs] at g1
  cases g1
  have g4 := step_adds hs
  cases run with
  | done hd => exact absurd hr hd
  | @step n' _ s2 _ e2 run =>
    rw [hs] at e2
    cases e2
    exact ⟨n', rfl, run, g2, ⟨m + 1, by omega, h2.go g3, by omega, by omega⟩, g4.2.2⟩
theorem Tr.end {ops : Ops} {τ : Ty} {C L : Nat} {u : LS} {n : Nat} {s : LS} (h : Tr ops τ C L u n s) (hs : s.res ≠ none) : s = u := by
  cases h.run with
  | done _ => rfl
  | step e _ => exact absurd (step_res e) hs
/-- a value at once is one a little later -/
theorem lit_run {ops : Ops} {τ : Ty} {C L : Nat} {u : LS} (hP : ∀ o α β, ops.lookup o = some (α, β) → β.plain = true) : ∀ {t : Tm}, lit t = true → ∀ {n : Nat} {e : Env} {k : List Nat} {fs : List Fr} {l : Nat} {p : List Int} {a : List (String × String × String × Tm)} {x : Nat}, Tr ops τ C L u n ⟨.ev t e k, fs, l, p, a, x⟩ →
    ∃ n', n' < n ∧ Tr ops τ C L u n' ⟨.rt (litv e t), fs, l, p, a, x⟩
  | .num i, _, n, e, k, fs, l, p, a, x, h => by
    obtain ⟨n', rfl, g⟩ := h.go hP rfl
    exact ⟨n', Nat.lt_succ_self _, g⟩
  | .flag i, _, n, e, k, fs, l, p, a, x, h => by
    obtain ⟨n', rfl, g⟩ := h.go hP rfl
    exact ⟨n', Nat.lt_succ_self _, g⟩
  | .unit, _, n, e, k, fs, l, p, a, x, h => by
    obtain ⟨n', rfl, g⟩ := h.go hP rfl
    exact ⟨n', Nat.lt_succ_self _, g⟩
  | .fn y b, _, n, e, k, fs, l, p, a, x, h => by
    obtain ⟨n', rfl, g⟩ := h.go hP rfl
    exact ⟨n', Nat.lt_succ_self _, g⟩
  | .rc f y b, _, n, e, k, fs, l, p, a, x, h => by
    obtain ⟨n', rfl, g⟩ := h.go hP rfl
    exact ⟨n', Nat.lt_succ_self _, g⟩
  | .pair q r, hl, n, e, k, fs, l, p, a, x, h => by
    have hl := Bool.and_eq_true_iff.mp (show (lit q && lit r) = true from hl)
    obtain ⟨n1, e1, h1⟩ := h.go hP rfl
    obtain ⟨n2, i2, h2⟩ := lit_run hP hl.1 h1
    obtain ⟨n3, e3, h3⟩ := h2.go hP rfl
    obtain ⟨n4, i4, h4⟩ := lit_run hP hl.2 h3
    obtain ⟨n5, e5, h5⟩ := h4.go hP rfl
    exact ⟨n5, by omega, h5⟩
/-! ### what stands in an expression -/
def clsL : Cls → List (String × String × String × Tm)
  | .nil => []
  | .cons o x k b r => (o, x, k, b) :: clsL r
theorem clsL_len : ∀ c : Cls, (clsL c).length = c.len
  | .nil => rfl
  | .cons _ _ _ _ r => by rw [clsL, List.length_cons, clsL_len r]; rfl
def cutAll (ρ : Rho) (ns : List String) : Rho := ns.foldl cut ρ
def clP (ρ : Rho) (c : String × String × String × Tm) : D := .tup [.str c.1, .str c.2.1, .str c.2.2.1, sub (cut (cut ρ c.2.1) c.2.2.1) c.2.2.2]
theorem subC_map (ρ : Rho) : ∀ c : Cls, subC ρ c = (clsL c).map (clP ρ)
  | .nil => rfl
  | .cons _ _ _ _ r => by rw [subC, clsL, List.map_cons, subC_map ρ r]; rfl
def kids : Tm → List (List String × Tm)
  | .fn x b => [([x], b)]
  | .rc f x b => [([f, x], b)]
  | .lt x a b => [([], a), ([x], b)]
  | .op _ a b => [([], a), ([], b)]
  | .ask _ a => [([], a)]
  | .fst a => [([], a)]
  | .snd a => [([], a)]
  | .nt a => [([], a)]
  | .ite a b c => [([], a), ([], b), ([], c)]
  | .call a b => [([], a), ([], b)]
  | .pair a b => [([], a), ([], b)]
  | .prt a b => [([], a), ([], b)]
  | .han e r b cs => ([], e) :: ([r], b) :: (clsL cs).map fun c => ([c.2.1, c.2.2.1], c.2.2.2)
  | _ => []
def kidP (ρ : Rho) (q : List String × Tm) : D := sub (cutAll ρ q.1) q.2
theorem cutAll_in {ρ : Rho} {x : String} {d : D} : ∀ {ns : List String}, x ∈ ns → cutAll (fill ρ x d) ns = cutAll ρ ns := by
  intro ns
  induction ns generalizing ρ with
  | nil => intro h; cases h
  | cons y ns ih =>
    intro h
    show cutAll (cut (fill ρ x d) y) ns = cutAll (cut ρ y) ns
    by_cases e : x = y
    · subst e; rw [cut_fill_same]
    · rw [cut_fill_ne ρ e]
      rcases List.mem_cons.mp h with h | h
      · exact absurd h e
      · exact ih h
theorem cutAll_out {ρ : Rho} {x : String} {d : D} : ∀ {ns : List String}, x ∉ ns → cutAll (fill ρ x d) ns = fill (cutAll ρ ns) x d := by
  intro ns
  induction ns generalizing ρ with
  | nil => intro h; rfl
  | cons y ns ih =>
    intro h
    show cutAll (cut (fill ρ x d) y) ns = fill (cutAll (cut ρ y) ns) x d
    rw [List.mem_cons, not_or] at h
    rw [cut_fill_ne ρ h.1]
    exact ih h.2
theorem kids_cls {B : Nat} : ∀ {cs : Cls}, cs.gd B → ∀ c ∈ clsL cs, c.2.2.2.gd B ∧ c.2.2.2.dep ≤ cs.dep
  | .nil, _, c, hc => by cases hc
  | .cons o x k b r, g, c, hc => by
    rw [clsL, List.mem_cons] at hc
    have g' := gd_cons g
    simp only [Cls.dep]
    rcases hc with rfl | hc
    · exact ⟨g'.2.1, by simp; omega⟩
    · have := kids_cls g'.2.2 c hc
      exact ⟨this.1, by omega⟩
theorem kids_gd {B : Nat} {t : Tm} (g : t.gd B) : ∀ q ∈ kids t, q.2.gd B ∧ q.2.dep + 1 ≤ t.dep := by
  cases t with
  | fn x b => intro q hq; simp [kids] at hq; subst hq; exact ⟨(gd_fn g).2, by simp [Tm.dep]⟩
  | rc f x b => intro q hq; simp [kids] at hq; subst hq; exact ⟨(gd_rc g).2.2, by simp [Tm.dep]⟩
  | lt x a b => intro q hq; simp [kids] at hq; rcases hq with rfl | rfl <;> first | exact ⟨(gd_lt g).1, by simp [Tm.dep]; omega⟩ | exact ⟨(gd_lt g).2, by simp [Tm.dep]; omega⟩
  | op x a b => intro q hq; simp [kids] at hq; rcases hq with rfl | rfl <;> first | exact ⟨(gd_op g).1, by simp [Tm.dep]; omega⟩ | exact ⟨(gd_op g).2, by simp [Tm.dep]; omega⟩
  | call a b => intro q hq; simp [kids] at hq; rcases hq with rfl | rfl <;> first | exact ⟨(gd_call g).1, by simp [Tm.dep]; omega⟩ | exact ⟨(gd_call g).2, by simp [Tm.dep]; omega⟩
  | pair a b => intro q hq; simp [kids] at hq; rcases hq with rfl | rfl <;> first | exact ⟨(gd_pair g).1, by simp [Tm.dep]; omega⟩ | exact ⟨(gd_pair g).2, by simp [Tm.dep]; omega⟩
  | prt a b => intro q hq; simp [kids] at hq; rcases hq with rfl | rfl <;> first | exact ⟨(gd_prt g).1, by simp [Tm.dep]; omega⟩ | exact ⟨(gd_prt g).2, by simp [Tm.dep]; omega⟩
  | ask o a => intro q hq; simp [kids] at hq; subst hq; exact ⟨gd_ask g, by simp [Tm.dep]⟩
  | fst a => intro q hq; simp [kids] at hq; subst hq; exact ⟨gd_fst g, by simp [Tm.dep]⟩
  | snd a => intro q hq; simp [kids] at hq; subst hq; exact ⟨gd_snd g, by simp [Tm.dep]⟩
  | nt a => intro q hq; simp [kids] at hq; subst hq; exact ⟨gd_nt g, by simp [Tm.dep]⟩
  | ite a b c =>
    intro q hq
    simp [kids] at hq
    have g := gd_ite g
    rcases hq with rfl | rfl | rfl
    · exact ⟨g.1, by simp [Tm.dep]; omega⟩
    · exact ⟨g.2.1, by simp [Tm.dep]; omega⟩
    · exact ⟨g.2.2, by simp [Tm.dep]; omega⟩
  | han e r b cs =>
    intro q hq
    have g := gd_han g
    rw [kids, List.mem_cons, List.mem_cons] at hq
    rcases hq with rfl | rfl | hq
    · exact ⟨g.1, by simp [Tm.dep]; omega⟩
    · exact ⟨g.2.1, by simp [Tm.dep]; omega⟩
    · obtain ⟨c, hc, rfl⟩ := List.mem_map.mp hq
      have := kids_cls g.2.2 c hc
      exact ⟨this.1, by simp [Tm.dep]; omega⟩
  | _ => intro q hq; cases hq
end TM
namespace Pg
open PySem PySem.Spec PyProof.Rows L2 DL
/-! ### the text by places -/
def top (i : Nat) : Stmt := PySem.Challenge.pw_askedfor_k10_plain_meaning.main.body.getD i (.Pass ⟨0, 0, 0, 0⟩)
abbrev s_parts : Stmt := top 2
abbrev s_with_parts : Stmt := top 3
abbrev s_bound_names : Stmt := top 4
abbrev s_put_in : Stmt := top 5
abbrev s_operated : Stmt := top 9
abbrev s_is_value : Stmt := top 10
abbrev s_shape : Stmt := top 11
abbrev s_quoted : Stmt := top 12
abbrev s_Run_init : Stmt := inClass (top 13) 0
abbrev s_Run_counted : Stmt := inClass (top 13) 1
abbrev s_Run_begin : Stmt := inClass (top 13) 2
abbrev s_Run_go_on : Stmt := inClass (top 13) 3
abbrev s_Run_single : Stmt := inClass (top 13) 4
abbrev s_Run_call : Stmt := inClass (top 13) 5
abbrev s_Run_ask : Stmt := inClass (top 13) 6
abbrev s_Run_answer : Stmt := inClass (top 13) 7
abbrev s_run_plain : Stmt := top 14
abbrev s_law_state : Stmt := top 16
abbrev s_law_take : Stmt := top 17
abbrev s_law_kind : Stmt := top 18
abbrev s_law_operations : Stmt := top 19
abbrev s_law_leaf : Stmt := top 20
abbrev s_law_special : Stmt := top 21
abbrev s_law_asking : Stmt := top 22
abbrev s_law_clause : Stmt := top 23
abbrev s_law_handling : Stmt := top 24
abbrev s_law_loop : Stmt := top 25
abbrev s_law_tree : Stmt := top 26
abbrev s_law_program : Stmt := top 27
abbrev s_law_find : Stmt := top 28
abbrev s_law_operate : Stmt := top 29
abbrev s_law_into : Stmt := top 30
abbrev s_law_second : Stmt := top 31
abbrev s_law_asked : Stmt := top 32
abbrev s_law_back : Stmt := top 33
abbrev s_law_shape : Stmt := top 34
abbrev s_law_outcome : Stmt := top 35
abbrev s_law : Stmt := top 36
inductive Fn where
  | parts | with_parts | bound_names | put_in | operated | is_value | shape | quoted | Run_init | Run_counted | Run_begin | Run_go_on | Run_single | Run_call | Run_ask | Run_answer | run_plain | law_state | law_take | law_kind | law_operations | law_leaf | law_special | law_asking | law_clause | law_handling | law_loop | law_tree | law_program | law_find | law_operate | law_into | law_second | law_asked | law_back | law_shape | law_outcome | law
abbrev N_parts : List Str := ["expression", "head", "inner", "clause"]
abbrev N_with_parts : List Str := ["expression", "inner", "head", "clauses", "clause", "body"]
abbrev N_bound_names : List Str := ["expression", "head", "clause", "part"]
abbrev N_put_in : List Str := ["expression", "name", "tree", "inner", "part", "names"]
abbrev N_operated : List Str := ["sign", "one", "two", "number"]
abbrev N_is_value : List Str := ["tree"]
abbrev N_shape : List Str := ["value"]
abbrev N_quoted : List Str := ["value"]
abbrev N_Run_init : List Str := ["self", "expression", "steps"]
abbrev N_Run_counted : List Str := ["self"]
abbrev N_Run_begin : List Str := ["self", "head"]
abbrev N_Run_go_on : List Str := ["self", "frame", "value", "head"]
abbrev N_Run_single : List Str := ["self", "head", "value"]
abbrev N_Run_call : List Str := ["self", "function", "argument", "body"]
abbrev N_Run_ask : List Str := ["self", "name", "value", "place", "frame", "clause"]
abbrev N_Run_answer : List Str := ["self", "place", "clause", "value", "kept", "body"]
abbrev N_run_plain : List Str := ["expression", "steps", "run"]
abbrev N_law_state : List Str := ["_law_script", "_law_cells", "_law_cell"]
abbrev N_law_take : List Str := ["_law_state_here", "_law_most", "_law_cells", "_law_at", "_law_cell", "_law_mixed"]
abbrev N_law_kind : List Str := ["_law_state_here", "_law_depth", "_law_kind_here"]
abbrev N_law_operations : List Str := ["_law_state_here", "_law_plain", "_law_names", "_law_rows", "_law_k_here"]
abbrev N_law_leaf : List Str := ["_law_state_here", "_law_known", "_law_wanted", "_law_names", "_law_pair", "_law_name"]
abbrev N_law_special : List Str := ["_law_state_here", "_law_ops", "_law_known", "_law_wanted", "_law_depth", "_law_name", "_law_one", "_law_other"]
abbrev N_law_asking : List Str := ["_law_state_here", "_law_ops", "_law_known", "_law_wanted", "_law_depth", "_law_operation", "_law_asked_here", "_law_name"]
abbrev N_law_clause : List Str := ["_law_state_here", "_law_ops", "_law_known", "_law_wanted", "_law_depth", "_law_operation", "_law_given", "_law_kept", "_law_inner", "_law_kind_here", "_law_outer", "_law_body", "_law_one", "_law_shown"]
abbrev N_law_handling : List Str := ["_law_state_here", "_law_ops", "_law_known", "_law_wanted", "_law_depth", "_law_other", "_law_handled", "_law_name", "_law_last", "_law_clauses", "_law_operation"]
abbrev N_law_loop : List Str := ["_law_state_here", "_law_ops", "_law_known", "_law_wanted", "_law_depth", "_law_own", "_law_step", "_law_inner", "_law_again", "_law_last", "_law_body"]
abbrev N_law_tree : List Str := ["_law_state_here", "_law_ops", "_law_known", "_law_wanted", "_law_depth", "_law_kind_here", "_law_name", "_law_one", "_law_other", "_law_test"]
abbrev N_law_program : List Str := ["_law_state_here", "_law_ops", "_law_wanted", "_law_tree_here", "_law_clauses", "_law_operation"]
abbrev N_law_find : List Str := ["_law_env", "_law_name"]
abbrev N_law_operate : List Str := ["_law_sign", "_law_one", "_law_two", "_law_numbers"]
abbrev N_law_into : List Str := ["_law_tree_here", "_law_env", "_law_frames", "_law_head"]
abbrev N_law_second : List Str := ["_law_world", "_law_frames", "_law_tree_here", "_law_first", "_law_value", "_law_head", "_law_frame", "_law_env"]
abbrev N_law_asked : List Str := ["_law_world", "_law_frames", "_law_name", "_law_value", "_law_place", "_law_tree_here", "_law_env", "_law_at", "_law_first", "_law_clause_here", "_law_kept"]
abbrev N_law_back : List Str := ["_law_world", "_law_frames", "_law_value", "_law_tree_here", "_law_env", "_law_at", "_law_first", "_law_head"]
abbrev N_law_shape : List Str := ["_law_value"]
abbrev N_law_outcome : List Str := ["_law_tree_here", "_law_steps", "_law_world", "_law_frames", "_law_current", "_law_env", "_law_value", "_law_end", "_law_k"]
abbrev N_law : List Str := ["_law_script", "_law_state_here", "_law_tree_here", "_law_kept", "_law_steps", "_law_due", "_law_told"]
/-! ### constants -/
def c_HALF : D := .int 2147483648
def c_LEAVES : D := .tup [.str "num", .str "flag", .str "unit", .str "name", .str "kept", .str "quoted"]
def c_UNIT : D := .tup [.str "unit"]
/-! ### what the defs do -/
def b_parts (W M : Fn → DSp) (E : DX → DEnv → Store → Prop) : DS :=
  (dSeq (dAsg (dOp dIx (dVar 0) (dC (.int 0))) (gN 1))
  (dSeq (dIfS (dTest (dOp (dIn false) (dVar 1) (dC c_LEAVES))) (dRet (dLst dNil)) dNext)
  (dSeq (dIfS (dTest (dOp (dIn false) (dVar 1) (dTup (dCons (dC (.str "fun")) (dCons (dC (.str "rec")) dNil))))) (dRet (dLst (dCons (dOp dIx (dVar 0) (dUn dNeg (dC (.int 1)))) dNil))) dNext)
  (dSeq (dIfS (dTest (dOp (dIn false) (dVar 1) (dTup (dCons (dC (.str "let")) (dCons (dC (.str "op")) dNil))))) (dRet (dLst (dCons (dOp dIx (dVar 0) (dC (.int 2))) (dCons (dOp dIx (dVar 0) (dC (.int 3))) dNil)))) dNext)
  (dSeq (dIfS (dTest (dOp dEq (dVar 1) (dC (.str "ask")))) (dRet (dLst (dCons (dOp dIx (dVar 0) (dC (.int 2))) dNil))) dNext)
  (dSeq (dIfS (dTest (dOp dEq (dVar 1) (dC (.str "handle")))) (dSeq (dAsg (dLc (iT (dOp dIx (dVar 0) (dC (.int 3)))) (.one 3) dYes (dOp dIx (dVar 3) (dC (.int 3))) [3]) (gN 2))
  (dRet (dOp dAdd (dLst (dCons (dOp dIx (dVar 0) (dC (.int 1))) (dCons (dOp dIx (dOp dIx (dVar 0) (dC (.int 2))) (dC (.int 1))) dNil))) (dVar 2)))) dNext)
  (dRet (dCB bListX (dCons (dSl slD (dVar 0) (dPart (dC (.int 1))) dNoPart) dNil)))))))))
def b_with_parts (W M : Fn → DSp) (E : DX → DEnv → Store → Prop) : DS :=
  (dSeq (dAsg (dOp dIx (dVar 0) (dC (.int 0))) (gN 2))
  (dSeq (dIfS (dTest (dOp (dIn false) (dVar 2) (dC c_LEAVES))) (dRet (dVar 0)) dNext)
  (dSeq (dIfS (dTest (dOp (dIn false) (dVar 2) (dTup (dCons (dC (.str "fun")) (dCons (dC (.str "rec")) dNil))))) (dRet (dOp dAdd (dSl slD (dVar 0) dNoPart (dPart (dUn dNeg (dC (.int 1))))) (dTup (dCons (dOp dIx (dVar 1) (dC (.int 0))) dNil)))) dNext)
  (dSeq (dIfS (dTest (dOp (dIn false) (dVar 2) (dTup (dCons (dC (.str "let")) (dCons (dC (.str "op")) dNil))))) (dRet (dOp dAdd (dSl slD (dVar 0) dNoPart (dPart (dC (.int 2)))) (dTup (dCons (dOp dIx (dVar 1) (dC (.int 0))) (dCons (dOp dIx (dVar 1) (dC (.int 1))) dNil))))) dNext)
  (dSeq (dIfS (dTest (dOp dEq (dVar 2) (dC (.str "ask")))) (dRet (dTup (dCons (dC (.str "ask")) (dCons (dOp dIx (dVar 0) (dC (.int 1))) (dCons (dOp dIx (dVar 1) (dC (.int 0))) dNil))))) dNext)
  (dSeq (dIfS (dTest (dOp dEq (dVar 2) (dC (.str "handle")))) (dSeq (dAsg (dLstM dNil) (gN 3))
  (dSeq (dFor (iZt (dCons (dOp dIx (dVar 0) (dC (.int 3))) (dCons (dSl slD (dVar 1) (dPart (dC (.int 2))) dNoPart) dNil))) (gTp 2 (gsC (gN 4) (gsC (gN 5) gsN))) (dDrop (dBM "list" mAppend (dVar 3) (dCons (dOp dAdd (dSl slD (dVar 4) dNoPart (dPart (dC (.int 3)))) (dTup (dCons (dVar 5) dNil))) dNil))))
  (dRet (dTup (dCons (dC (.str "handle")) (dCons (dOp dIx (dVar 1) (dC (.int 0))) (dCons (dTup (dCons (dOp dIx (dOp dIx (dVar 0) (dC (.int 2))) (dC (.int 0))) (dCons (dOp dIx (dVar 1) (dC (.int 1))) dNil))) (dCons (dCB bTuple (dCons (dFrz (dVar 3)) dNil)) dNil)))))))) dNext)
  (dRet (dOp dAdd (dTup (dCons (dVar 2) dNil)) (dCB bTuple (dCons (dVar 1) dNil))))))))))
def b_bound_names (W M : Fn → DSp) (E : DX → DEnv → Store → Prop) : DS :=
  (dSeq (dAsg (dOp dIx (dVar 0) (dC (.int 0))) (gN 1))
  (dSeq (dIfS (dTest (dOp dEq (dVar 1) (dC (.str "fun")))) (dRet (dLst (dCons (dLst (dCons (dOp dIx (dVar 0) (dC (.int 1))) dNil)) dNil))) dNext)
  (dSeq (dIfS (dTest (dOp dEq (dVar 1) (dC (.str "rec")))) (dRet (dLst (dCons (dLst (dCons (dOp dIx (dVar 0) (dC (.int 1))) (dCons (dOp dIx (dVar 0) (dC (.int 2))) dNil))) dNil))) dNext)
  (dSeq (dIfS (dTest (dOp dEq (dVar 1) (dC (.str "let")))) (dRet (dLst (dCons (dLst dNil) (dCons (dLst (dCons (dOp dIx (dVar 0) (dC (.int 1))) dNil)) dNil)))) dNext)
  (dSeq (dIfS (dTest (dOp dEq (dVar 1) (dC (.str "handle")))) (dRet (dOp dAdd (dLst (dCons (dLst dNil) (dCons (dLst (dCons (dOp dIx (dOp dIx (dVar 0) (dC (.int 2))) (dC (.int 0))) dNil)) dNil))) (dLc (iT (dOp dIx (dVar 0) (dC (.int 3)))) (.one 2) dYes (dLst (dCons (dOp dIx (dVar 2) (dC (.int 1))) (dCons (dOp dIx (dVar 2) (dC (.int 2))) dNil))) [2]))) dNext)
  (dRet (dLc (iL (dCall (W .parts) E (dCons (dVar 0) dNil))) (.one 3) dYes (dLst dNil) [3])))))))
def b_put_in (W M : Fn → DSp) (E : DX → DEnv → Store → Prop) : DS :=
  (dSeq (dIfS (dTest (dOp dEq (dOp dIx (dVar 0) (dC (.int 0))) (dC (.str "name")))) (dSeq (dIfS (dTest (dOp dEq (dOp dIx (dVar 0) (dC (.int 1))) (dVar 1))) (dRet (dVar 2)) dNext)
  (dRet (dVar 0))) dNext)
  (dSeq (dAsg (dLstM dNil) (gN 3))
  (dSeq (dFor (iZp (dCons (dCall (W .parts) E (dCons (dVar 0) dNil)) (dCons (dCall (W .bound_names) E (dCons (dVar 0) dNil)) dNil))) (gTp 2 (gsC (gN 4) (gsC (gN 5) gsN))) (dIfS (dTest (dOp (dIn false) (dVar 1) (dVar 5))) (dDrop (dBM "list" mAppend (dVar 3) (dCons (dVar 4) dNil))) (dDrop (dBM "list" mAppend (dVar 3) (dCons (dCall (W .put_in) E (dCons (dVar 4) (dCons (dVar 1) (dCons (dVar 2) dNil)))) dNil)))))
  (dRet (dCall (W .with_parts) E (dCons (dVar 0) (dCons (dFrz (dVar 3)) dNil)))))))
def b_operated (W M : Fn → DSp) (E : DX → DEnv → Store → Prop) : DS :=
  (dSeq (dIfS (dTest (dOp dEq (dVar 0) (dC (.str "<")))) (dRet (dTup (dCons (dC (.str "flag")) (dCons (dOp dLt (dVar 1) (dVar 2)) dNil)))) dNext)
  (dSeq (dIfS (dTest (dOp dEq (dVar 0) (dC (.str "==")))) (dRet (dTup (dCons (dC (.str "flag")) (dCons (dOp dEq (dVar 1) (dVar 2)) dNil)))) dNext)
  (dSeq (dIfS (dTest (dOp dEq (dVar 0) (dC (.str "+")))) (dAsg (dOp dAdd (dVar 1) (dVar 2)) (gN 3)) (dIfS (dTest (dOp dEq (dVar 0) (dC (.str "-")))) (dAsg (dOp dSub (dVar 1) (dVar 2)) (gN 3)) (dAsg (dOp dMul (dVar 1) (dVar 2)) (gN 3))))
  (dRet (dTup (dCons (dC (.str "num")) (dCons (dOp dSub (dOp dMod (dCB bInt (dCons (dOp dAdd (dVar 3) (dC c_HALF)) dNil)) (dOp dMul (dC (.int 2)) (dC c_HALF))) (dC c_HALF)) dNil)))))))
def b_is_value (W M : Fn → DSp) (E : DX → DEnv → Store → Prop) : DS :=
  (dSeq (dIfS (dTest (dOp dEq (dOp dIx (dVar 0) (dC (.int 0))) (dC (.str "pair")))) (dRet (dAndV (dCall (W .is_value) E (dCons (dOp dIx (dVar 0) (dC (.int 1))) dNil)) (dCall (W .is_value) E (dCons (dOp dIx (dVar 0) (dC (.int 2))) dNil)))) dNext)
  (dRet (dOp (dIn false) (dOp dIx (dVar 0) (dC (.int 0))) (dTup (dCons (dC (.str "num")) (dCons (dC (.str "flag")) (dCons (dC (.str "unit")) (dCons (dC (.str "fun")) (dCons (dC (.str "rec")) (dCons (dC (.str "kept")) dNil))))))))))
def b_shape (W M : Fn → DSp) (E : DX → DEnv → Store → Prop) : DS :=
  (dSeq (dIfS (dTest (dOp dEq (dOp dIx (dVar 0) (dC (.int 0))) (dC (.str "num")))) (dRet (dTup (dCons (dC (.str "int")) (dCons (dOp dIx (dVar 0) (dC (.int 1))) dNil)))) dNext)
  (dSeq (dIfS (dTest (dOp dEq (dOp dIx (dVar 0) (dC (.int 0))) (dC (.str "flag")))) (dRet (dTup (dCons (dC (.str "bool")) (dCons (dOp dIx (dVar 0) (dC (.int 1))) dNil)))) dNext)
  (dSeq (dIfS (dTest (dOp dEq (dOp dIx (dVar 0) (dC (.int 0))) (dC (.str "pair")))) (dRet (dTup (dCons (dC (.str "pair")) (dCons (dCall (W .shape) E (dCons (dOp dIx (dVar 0) (dC (.int 1))) dNil)) (dCons (dCall (W .shape) E (dCons (dOp dIx (dVar 0) (dC (.int 2))) dNil)) dNil))))) dNext)
  (dSeq (dIfS (dTest (dOp dEq (dOp dIx (dVar 0) (dC (.int 0))) (dC (.str "unit")))) (dRet (dC c_UNIT)) dNext)
  (dRet (dTup (dCons (dC (.str "fun")) dNil)))))))
def b_quoted (W M : Fn → DSp) (E : DX → DEnv → Store → Prop) : DS :=
  (dRet (dTup (dCons (dC (.str "quoted")) (dCons (dVar 0) dNil))))
def b_Run_init (W M : Fn → DSp) (E : DX → DEnv → Store → Prop) : DS :=
  (dSeq (dPutF 0 "current" (dVar 0) (dVar 1))
  (dSeq (dPutF 0 "frames" (dVar 0) (dLstM dNil))
  (dSeq (dPutF 0 "left" (dVar 0) (dVar 2))
  (dSeq (dPutF 0 "prints" (dVar 0) (dLstM dNil))
  (dPutF 0 "end" (dVar 0) (dC .non))))))
def b_Run_counted (W M : Fn → DSp) (E : DX → DEnv → Store → Prop) : DS :=
  (dSeq (dIfS (dTest (dOp dEq (dFld 0 "left" (dVar 0)) (dC (.int 0)))) (dSeq (dPutF 0 "end" (dVar 0) (dTup (dCons (dC (.str "steps")) dNil)))
  (dRet (dC (.bl false)))) dNext)
  (dSeq (dAugF 0 "left" (fun i j => i - j) (dVar 0) (dC (.int 1)))
  (dRet (dC (.bl true)))))
def b_Run_begin (W M : Fn → DSp) (E : DX → DEnv → Store → Prop) : DS :=
  (dSeq (dAsg (dOp dIx (dFld 0 "current" (dVar 0)) (dC (.int 0))) (gN 1))
  (dIfS (dTest (dOp dEq (dVar 1) (dC (.str "quoted")))) (dPutF 0 "current" (dVar 0) (dOp dIx (dFld 0 "current" (dVar 0)) (dC (.int 1)))) (dIfS (dOr (dTest (dOp dEq (dVar 1) (dC (.str "let")))) (dTest (dOp dEq (dVar 1) (dC (.str "op"))))) (dSeq (dDrop (dBM "list" mAppend (dFld 0 "frames" (dVar 0)) (dCons (dTup (dCons (dVar 1) (dCons (dOp dIx (dFld 0 "current" (dVar 0)) (dC (.int 1))) (dCons (dOp dIx (dFld 0 "current" (dVar 0)) (dC (.int 3))) dNil)))) dNil)))
  (dPutF 0 "current" (dVar 0) (dOp dIx (dFld 0 "current" (dVar 0)) (dC (.int 2))))) (dIfS (dTest (dOp dEq (dVar 1) (dC (.str "ask")))) (dSeq (dDrop (dBM "list" mAppend (dFld 0 "frames" (dVar 0)) (dCons (dTup (dCons (dVar 1) (dCons (dOp dIx (dFld 0 "current" (dVar 0)) (dC (.int 1))) dNil))) dNil)))
  (dPutF 0 "current" (dVar 0) (dOp dIx (dFld 0 "current" (dVar 0)) (dC (.int 2))))) (dIfS (dTest (dOp dEq (dVar 1) (dC (.str "handle")))) (dSeq (dDrop (dBM "list" mAppend (dFld 0 "frames" (dVar 0)) (dCons (dTup (dCons (dVar 1) (dCons (dOp dIx (dFld 0 "current" (dVar 0)) (dC (.int 2))) (dCons (dOp dIx (dFld 0 "current" (dVar 0)) (dC (.int 3))) dNil)))) dNil)))
  (dPutF 0 "current" (dVar 0) (dOp dIx (dFld 0 "current" (dVar 0)) (dC (.int 1))))) (dSeq (dDrop (dBM "list" mAppend (dFld 0 "frames" (dVar 0)) (dCons (dOp dAdd (dTup (dCons (dVar 1) dNil)) (dSl slD (dFld 0 "current" (dVar 0)) (dPart (dC (.int 2))) dNoPart)) dNil)))
  (dPutF 0 "current" (dVar 0) (dOp dIx (dFld 0 "current" (dVar 0)) (dC (.int 1))))))))))
def b_Run_go_on (W M : Fn → DSp) (E : DX → DEnv → Store → Prop) : DS :=
  (dSeq (dIfS (dNot (dTru (dFld 0 "frames" (dVar 0)))) (dSeq (dPutF 0 "end" (dVar 0) (dTup (dCons (dC (.str "value")) (dCons (dCall (W .shape) E (dCons (dFld 0 "current" (dVar 0)) dNil)) dNil))))
  dRetN) dNext)
  (dSeq (dAsg (dBM0 "list" mPop (dFld 0 "frames" (dVar 0))) (gN 1))
  (dSeq (dAsg (dFld 0 "current" (dVar 0)) (gN 2))
  (dSeq (dAsg (dOp dIx (dVar 1) (dC (.int 0))) (gN 3))
  (dIfS (dOr (dTest (dOp dEq (dVar 3) (dC (.str "call")))) (dTest (dOp dEq (dVar 3) (dC (.str "pair"))))) (dSeq (dDrop (dBM "list" mAppend (dFld 0 "frames" (dVar 0)) (dCons (dTup (dCons (dOp dAdd (dVar 3) (dC (.str "2"))) (dCons (dVar 2) dNil))) dNil)))
  (dPutF 0 "current" (dVar 0) (dOp dIx (dVar 1) (dC (.int 1))))) (dIfS (dTest (dOp dEq (dVar 3) (dC (.str "op")))) (dSeq (dDrop (dBM "list" mAppend (dFld 0 "frames" (dVar 0)) (dCons (dTup (dCons (dC (.str "op2")) (dCons (dOp dIx (dVar 1) (dC (.int 1))) (dCons (dVar 2) dNil)))) dNil)))
  (dPutF 0 "current" (dVar 0) (dOp dIx (dVar 1) (dC (.int 2))))) (dIfS (dTest (dOp dEq (dVar 3) (dC (.str "pair2")))) (dPutF 0 "current" (dVar 0) (dTup (dCons (dC (.str "pair")) (dCons (dOp dIx (dVar 1) (dC (.int 1))) (dCons (dVar 2) dNil))))) (dIfS (dTest (dOp dEq (dVar 3) (dC (.str "call2")))) (dDrop (dMeth 0 "call" (W .Run_call) E (dVar 0) (dCons (dOp dIx (dVar 1) (dC (.int 1))) (dCons (dVar 2) dNil)))) (dIfS (dTest (dOp dEq (dVar 3) (dC (.str "op2")))) (dPutF 0 "current" (dVar 0) (dCall (W .operated) E (dCons (dOp dIx (dVar 1) (dC (.int 1))) (dCons (dOp dIx (dOp dIx (dVar 1) (dC (.int 2))) (dC (.int 1))) (dCons (dOp dIx (dVar 2) (dC (.int 1))) dNil))))) (dIfS (dTest (dOp dEq (dVar 3) (dC (.str "let")))) (dPutF 0 "current" (dVar 0) (dCall (W .put_in) E (dCons (dOp dIx (dVar 1) (dC (.int 2))) (dCons (dOp dIx (dVar 1) (dC (.int 1))) (dCons (dCall (W .quoted) E (dCons (dVar 2) dNil)) dNil))))) (dIfS (dTest (dOp dEq (dVar 3) (dC (.str "if")))) (dPutF 0 "current" (dVar 0) (dIf (dTru (dOp dIx (dVar 2) (dC (.int 1)))) (dOp dIx (dVar 1) (dC (.int 1))) (dOp dIx (dVar 1) (dC (.int 2))))) (dIfS (dTest (dOp dEq (dVar 3) (dC (.str "print")))) (dSeq (dDrop (dBM "list" mAppend (dFld 0 "prints" (dVar 0)) (dCons (dOp dIx (dVar 2) (dC (.int 1))) dNil)))
  (dPutF 0 "current" (dVar 0) (dOp dIx (dVar 1) (dC (.int 1))))) (dIfS (dTest (dOp dEq (dVar 3) (dC (.str "ask")))) (dDrop (dMeth 0 "ask" (W .Run_ask) E (dVar 0) (dCons (dOp dIx (dVar 1) (dC (.int 1))) (dCons (dVar 2) dNil)))) (dIfS (dTest (dOp dEq (dVar 3) (dC (.str "handle")))) (dPutF 0 "current" (dVar 0) (dCall (W .put_in) E (dCons (dOp dIx (dOp dIx (dVar 1) (dC (.int 1))) (dC (.int 1))) (dCons (dOp dIx (dOp dIx (dVar 1) (dC (.int 1))) (dC (.int 0))) (dCons (dCall (W .quoted) E (dCons (dVar 2) dNil)) dNil))))) (dPutF 0 "current" (dVar 0) (dMeth 0 "single" (W .Run_single) E (dVar 0) (dCons (dVar 3) (dCons (dVar 2) dNil))))))))))))))))))
def b_Run_single (W M : Fn → DSp) (E : DX → DEnv → Store → Prop) : DS :=
  (dSeq (dIfS (dTest (dOp dEq (dVar 1) (dC (.str "not")))) (dRet (dTup (dCons (dC (.str "flag")) (dCons (dNotV (dOp dIx (dVar 2) (dC (.int 1)))) dNil)))) dNext)
  (dRet (dOp dIx (dVar 2) (dOp dAdd (dC (.int 1)) (dCB bInt (dCons (dOp dEq (dVar 1) (dC (.str "snd"))) dNil))))))
def b_Run_call (W M : Fn → DSp) (E : DX → DEnv → Store → Prop) : DS :=
  (dSeq (dIfS (dNot (dTru (dMeth 0 "counted" (W .Run_counted) E (dVar 0) dNil))) dRetN dNext)
  (dIfS (dTest (dOp dEq (dOp dIx (dVar 1) (dC (.int 0))) (dC (.str "kept")))) (dSeq (dDrop (dBM "list" mExtT (dFld 0 "frames" (dVar 0)) (dCons (dOp dIx (dVar 1) (dC (.int 1))) dNil)))
  (dPutF 0 "current" (dVar 0) (dVar 2))) (dIfS (dTest (dOp dEq (dOp dIx (dVar 1) (dC (.int 0))) (dC (.str "fun")))) (dPutF 0 "current" (dVar 0) (dCall (W .put_in) E (dCons (dOp dIx (dVar 1) (dC (.int 2))) (dCons (dOp dIx (dVar 1) (dC (.int 1))) (dCons (dCall (W .quoted) E (dCons (dVar 2) dNil)) dNil))))) (dSeq (dAsg (dCall (W .put_in) E (dCons (dOp dIx (dVar 1) (dC (.int 3))) (dCons (dOp dIx (dVar 1) (dC (.int 2))) (dCons (dCall (W .quoted) E (dCons (dVar 2) dNil)) dNil)))) (gN 3))
  (dPutF 0 "current" (dVar 0) (dCall (W .put_in) E (dCons (dVar 3) (dCons (dOp dIx (dVar 1) (dC (.int 1))) (dCons (dCall (W .quoted) E (dCons (dVar 1) dNil)) dNil)))))))))
def b_Run_ask (W M : Fn → DSp) (E : DX → DEnv → Store → Prop) : DS :=
  (dSeq (dIfS (dNot (dTru (dMeth 0 "counted" (W .Run_counted) E (dVar 0) dNil))) dRetN dNext)
  (dSeq (dFor (iRvR (rg1 (dCB bLen (dCons (dFld 0 "frames" (dVar 0)) dNil)))) (gN 3) (dSeq (dAsg (dOp dIx (dFld 0 "frames" (dVar 0)) (dVar 3)) (gN 4))
  (dIfS (dTest (dOp dEq (dOp dIx (dVar 4) (dC (.int 0))) (dC (.str "handle")))) (dFor (iT (dOp dIx (dVar 4) (dC (.int 2)))) (gN 5) (dIfS (dTest (dOp dEq (dOp dIx (dVar 5) (dC (.int 0))) (dVar 1))) (dSeq (dDrop (dMeth 0 "answer" (W .Run_answer) E (dVar 0) (dCons (dVar 3) (dCons (dVar 5) (dCons (dVar 2) dNil)))))
  dRetN) dNext)) dNext)))
  (dPutF 0 "end" (dVar 0) (dTup (dCons (dC (.str "unhandled")) (dCons (dVar 1) dNil))))))
def b_Run_answer (W M : Fn → DSp) (E : DX → DEnv → Store → Prop) : DS :=
  (dSeq (dAsg (dTup (dCons (dC (.str "kept")) (dCons (dCB bTuple (dCons (dSl slD (dFld 0 "frames" (dVar 0)) (dPart (dVar 1)) dNoPart) dNil)) dNil))) (gN 4))
  (dSeq (dPutF 0 "frames" (dVar 0) (dSl slM (dFld 0 "frames" (dVar 0)) dNoPart (dPart (dVar 1))))
  (dSeq (dAsg (dOp dIx (dVar 2) (dC (.int 3))) (gN 5))
  (dSeq (dIfS (dTest (dOp dNe (dOp dIx (dVar 2) (dC (.int 1))) (dOp dIx (dVar 2) (dC (.int 2))))) (dAsg (dCall (W .put_in) E (dCons (dVar 5) (dCons (dOp dIx (dVar 2) (dC (.int 1))) (dCons (dCall (W .quoted) E (dCons (dVar 3) dNil)) dNil)))) (gN 5)) dNext)
  (dPutF 0 "current" (dVar 0) (dCall (W .put_in) E (dCons (dVar 5) (dCons (dOp dIx (dVar 2) (dC (.int 2))) (dCons (dCall (W .quoted) E (dCons (dVar 4) dNil)) dNil)))))))))
def b_run_plain (W M : Fn → DSp) (E : DX → DEnv → Store → Prop) : DS :=
  (dSeq (dAsg (dMake 0 (M .Run_init) E (dCons (dVar 0) (dCons (dVar 1) dNil))) (gN 2))
  (dSeq (dWhile (dTest (dOp dIs (dFld 0 "end" (dVar 2)) (dC .non))) (dIfS (dTru (dCall (W .is_value) E (dCons (dFld 0 "current" (dVar 2)) dNil))) (dDrop (dMeth 0 "go_on" (W .Run_go_on) E (dVar 2) dNil)) (dDrop (dMeth 0 "begin" (W .Run_begin) E (dVar 2) dNil))))
  (dRet (dTup (dCons (dCB bTuple (dCons (dFld 0 "prints" (dVar 2)) dNil)) (dCons (dFld 0 "end" (dVar 2)) dNil))))))
def b_law_state (W M : Fn → DSp) (E : DX → DEnv → Store → Prop) : DS :=
  (dSeq (dAsg (dLcM (iL (dSl slD (dVar 0) dNoPart (dPart (dC (.int 63))))) (.one 2) dYes (dCB bAbs (dCons (dVar 2) dNil)) [2]) (gN 1))
  (dSeq (dIfS (dTest (dOp dEq (dCB bLen (dCons (dVar 1) dNil)) (dC (.int 0)))) (dAsg (dLstM (dCons (dC (.int 0)) dNil)) (gN 1)) dNext)
  (dRet (dLstM (dCons (dC (.int 0)) (dCons (dVar 1) dNil))))))
def b_law_take (W M : Fn → DSp) (E : DX → DEnv → Store → Prop) : DS :=
  (dSeq (dAsg (dOp dIx (dVar 0) (dC (.int 1))) (gN 2))
  (dSeq (dAsg (dOp dMod (dOp dIx (dVar 0) (dC (.int 0))) (dCB bLen (dCons (dVar 2) dNil))) (gN 3))
  (dSeq (dAsg (dOp dIx (dVar 2) (dVar 3)) (gN 4))
  (dSeq (dIfS (dTest (dOp dGe (dVar 4) (dC (.int 1000000000000000000)))) (dSeq (dAsg (dOp dDiv (dVar 4) (dVar 1)) (gSb (dVar 2) (dVar 3) stD))
  (dRet (dOp dMod (dVar 4) (dVar 1)))) dNext)
  (dSeq (dAsg (dOp dAdd (dOp dIx (dVar 0) (dC (.int 0))) (dC (.int 1))) (gSb (dVar 0) (dC (.int 0)) stD))
  (dSeq (dAsg (dOp dMod (dCB bInt (dCons (dOp dAdd (dOp dMul (dVar 4) (dC (.int 48271))) (dOp dMul (dOp dIx (dVar 0) (dC (.int 0))) (dC (.int 69621)))) dNil)) (dC (.int 2147483647))) (gN 5))
  (dSeq (dAsg (dOp dMod (dCB bInt (dCons (dOp dAdd (dOp dMul (dVar 5) (dC (.int 16807))) (dOp dMul (dOp dIx (dVar 0) (dC (.int 0))) (dC (.int 7919)))) dNil)) (dC (.int 1000000007))) (gN 5))
  (dRet (dOp dMod (dOp dDiv (dVar 5) (dC (.int 7))) (dVar 1))))))))))
def b_law_kind (W M : Fn → DSp) (E : DX → DEnv → Store → Prop) : DS :=
  (dSeq (dAsg (dCall (W .law_take) E (dCons (dVar 0) (dCons (dC (.int 9)) dNil))) (gN 2))
  (dSeq (dIfS (dAnd (dTest (dOp dGt (dVar 1) (dC (.int 0)))) (dTest (dOp dEq (dVar 2) (dC (.int 0))))) (dRet (dTup (dCons (dC (.str "fun")) (dCons (dCall (W .law_kind) E (dCons (dVar 0) (dCons (dOp dSub (dVar 1) (dC (.int 1))) dNil))) (dCons (dCall (W .law_kind) E (dCons (dVar 0) (dCons (dOp dSub (dVar 1) (dC (.int 1))) dNil))) dNil))))) dNext)
  (dSeq (dIfS (dAnd (dTest (dOp dGt (dVar 1) (dC (.int 0)))) (dTest (dOp dEq (dVar 2) (dC (.int 1))))) (dRet (dTup (dCons (dC (.str "pair")) (dCons (dCall (W .law_kind) E (dCons (dVar 0) (dCons (dOp dSub (dVar 1) (dC (.int 1))) dNil))) (dCons (dCall (W .law_kind) E (dCons (dVar 0) (dCons (dOp dSub (dVar 1) (dC (.int 1))) dNil))) dNil))))) dNext)
  (dRet (dOp dIx (dLst (dCons (dTup (dCons (dC (.str "int")) dNil)) (dCons (dTup (dCons (dC (.str "bool")) dNil)) (dCons (dTup (dCons (dC (.str "int")) dNil)) (dCons (dTup (dCons (dC (.str "unit")) dNil)) (dCons (dTup (dCons (dC (.str "int")) dNil)) dNil)))))) (dOp dMod (dVar 2) (dC (.int 5))))))))
def b_law_operations (W M : Fn → DSp) (E : DX → DEnv → Store → Prop) : DS :=
  (dSeq (dAsg (dLst (dCons (dTup (dCons (dC (.str "int")) dNil)) (dCons (dTup (dCons (dC (.str "bool")) dNil)) (dCons (dTup (dCons (dC (.str "unit")) dNil)) (dCons (dTup (dCons (dC (.str "pair")) (dCons (dTup (dCons (dC (.str "int")) dNil)) (dCons (dTup (dCons (dC (.str "bool")) dNil)) dNil)))) (dCons (dTup (dCons (dC (.str "int")) dNil)) dNil)))))) (gN 1))
  (dSeq (dAsg (dLst (dCons (dC (.str "get")) (dCons (dC (.str "flip")) (dCons (dC (.str "tell")) (dCons (dC (.str "put")) dNil))))) (gN 2))
  (dSeq (dAsg (dLstM dNil) (gN 3))
  (dSeq (dFor (iR1 (dCons (dOp dAdd (dC (.int 1)) (dCall (W .law_take) E (dCons (dVar 0) (dCons (dC (.int 4)) dNil)))) dNil)) (gN 4) (dDrop (dBM "list" mAppend (dVar 3) (dCons (dTup (dCons (dOp dIx (dVar 2) (dVar 4)) (dCons (dOp dIx (dVar 1) (dCall (W .law_take) E (dCons (dVar 0) (dCons (dC (.int 5)) dNil)))) (dCons (dOp dIx (dVar 1) (dCall (W .law_take) E (dCons (dVar 0) (dCons (dC (.int 5)) dNil)))) dNil)))) dNil))))
  (dRet (dFrz (dVar 3)))))))
def b_law_leaf (W M : Fn → DSp) (E : DX → DEnv → Store → Prop) : DS :=
  (dSeq (dAsg (dLc (iL (dVar 1)) (.one 4) (dTest (dOp dEq (dOp dIx (dVar 4) (dC (.int 1))) (dVar 2))) (dOp dIx (dVar 4) (dC (.int 0))) [4]) (gN 3))
  (dSeq (dIfS (dAnd (dTest (dOp dGt (dCB bLen (dCons (dVar 3) dNil)) (dC (.int 0)))) (dTest (dOp dGt (dCall (W .law_take) E (dCons (dVar 0) (dCons (dC (.int 4)) dNil))) (dC (.int 0))))) (dRet (dTup (dCons (dC (.str "name")) (dCons (dOp dIx (dVar 3) (dOp dSub (dOp dSub (dCB bLen (dCons (dVar 3) dNil)) (dC (.int 1))) (dCall (W .law_take) E (dCons (dVar 0) (dCons (dCB bLen (dCons (dVar 3) dNil)) dNil))))) dNil)))) dNext)
  (dSeq (dIfS (dTest (dOp dEq (dOp dIx (dVar 2) (dC (.int 0))) (dC (.str "fun")))) (dSeq (dAsg (dOp dAdd (dC (.str "x")) (dCB bStr (dCons (dCB bLen (dCons (dVar 1) dNil)) dNil))) (gN 5))
  (dRet (dTup (dCons (dC (.str "fun")) (dCons (dVar 5) (dCons (dCall (W .law_leaf) E (dCons (dVar 0) (dCons (dOp dAdd (dVar 1) (dLst (dCons (dTup (dCons (dVar 5) (dCons (dOp dIx (dVar 2) (dC (.int 1))) dNil))) dNil))) (dCons (dOp dIx (dVar 2) (dC (.int 2))) dNil)))) dNil)))))) dNext)
  (dSeq (dIfS (dTest (dOp dEq (dOp dIx (dVar 2) (dC (.int 0))) (dC (.str "pair")))) (dRet (dTup (dCons (dC (.str "pair")) (dCons (dCall (W .law_leaf) E (dCons (dVar 0) (dCons (dVar 1) (dCons (dOp dIx (dVar 2) (dC (.int 1))) dNil)))) (dCons (dCall (W .law_leaf) E (dCons (dVar 0) (dCons (dVar 1) (dCons (dOp dIx (dVar 2) (dC (.int 2))) dNil)))) dNil))))) dNext)
  (dSeq (dIfS (dTest (dOp dEq (dOp dIx (dVar 2) (dC (.int 0))) (dC (.str "int")))) (dRet (dTup (dCons (dC (.str "num")) (dCons (dCall (W .law_take) E (dCons (dVar 0) (dCons (dC (.int 9)) dNil))) dNil)))) dNext)
  (dSeq (dIfS (dTest (dOp dEq (dOp dIx (dVar 2) (dC (.int 0))) (dC (.str "bool")))) (dRet (dTup (dCons (dC (.str "flag")) (dCons (dOp dEq (dCall (W .law_take) E (dCons (dVar 0) (dCons (dC (.int 2)) dNil))) (dC (.int 1))) dNil)))) dNext)
  (dRet (dTup (dCons (dC (.str "unit")) dNil)))))))))
def b_law_special (W M : Fn → DSp) (E : DX → DEnv → Store → Prop) : DS :=
  (dSeq (dAsg (dOp dAdd (dC (.str "x")) (dCB bStr (dCons (dCB bLen (dCons (dVar 2) dNil)) dNil))) (gN 5))
  (dSeq (dIfS (dTest (dOp dEq (dOp dIx (dVar 3) (dC (.int 0))) (dC (.str "int")))) (dSeq (dAsg (dCall (W .law_tree) E (dCons (dVar 0) (dCons (dVar 1) (dCons (dVar 2) (dCons (dVar 3) (dCons (dOp dSub (dVar 4) (dC (.int 1))) dNil)))))) (gN 6))
  (dRet (dTup (dCons (dC (.str "op")) (dCons (dOp dIx (dLst (dCons (dC (.str "+")) (dCons (dC (.str "-")) (dCons (dC (.str "*")) dNil)))) (dCall (W .law_take) E (dCons (dVar 0) (dCons (dC (.int 3)) dNil)))) (dCons (dVar 6) (dCons (dCall (W .law_tree) E (dCons (dVar 0) (dCons (dVar 1) (dCons (dVar 2) (dCons (dVar 3) (dCons (dOp dSub (dVar 4) (dC (.int 1))) dNil)))))) dNil))))))) dNext)
  (dSeq (dIfS (dTest (dOp dEq (dOp dIx (dVar 3) (dC (.int 0))) (dC (.str "bool")))) (dSeq (dAsg (dCall (W .law_tree) E (dCons (dVar 0) (dCons (dVar 1) (dCons (dVar 2) (dCons (dTup (dCons (dC (.str "int")) dNil)) (dCons (dOp dSub (dVar 4) (dC (.int 1))) dNil)))))) (gN 6))
  (dSeq (dIfS (dTest (dOp dEq (dCall (W .law_take) E (dCons (dVar 0) (dCons (dC (.int 3)) dNil))) (dC (.int 0)))) (dRet (dTup (dCons (dC (.str "not")) (dCons (dCall (W .law_tree) E (dCons (dVar 0) (dCons (dVar 1) (dCons (dVar 2) (dCons (dVar 3) (dCons (dOp dSub (dVar 4) (dC (.int 1))) dNil)))))) dNil)))) dNext)
  (dRet (dTup (dCons (dC (.str "op")) (dCons (dOp dIx (dLst (dCons (dC (.str "<")) (dCons (dC (.str "==")) dNil))) (dCall (W .law_take) E (dCons (dVar 0) (dCons (dC (.int 2)) dNil)))) (dCons (dVar 6) (dCons (dCall (W .law_leaf) E (dCons (dVar 0) (dCons (dVar 2) (dCons (dTup (dCons (dC (.str "int")) dNil)) dNil)))) dNil)))))))) dNext)
  (dSeq (dIfS (dTest (dOp dEq (dOp dIx (dVar 3) (dC (.int 0))) (dC (.str "fun")))) (dRet (dTup (dCons (dC (.str "fun")) (dCons (dVar 5) (dCons (dCall (W .law_tree) E (dCons (dVar 0) (dCons (dVar 1) (dCons (dOp dAdd (dVar 2) (dLst (dCons (dTup (dCons (dVar 5) (dCons (dOp dIx (dVar 3) (dC (.int 1))) dNil))) dNil))) (dCons (dOp dIx (dVar 3) (dC (.int 2))) (dCons (dOp dSub (dVar 4) (dC (.int 1))) dNil)))))) dNil))))) dNext)
  (dSeq (dIfS (dTest (dOp dEq (dOp dIx (dVar 3) (dC (.int 0))) (dC (.str "pair")))) (dSeq (dAsg (dCall (W .law_tree) E (dCons (dVar 0) (dCons (dVar 1) (dCons (dVar 2) (dCons (dOp dIx (dVar 3) (dC (.int 1))) (dCons (dOp dSub (dVar 4) (dC (.int 1))) dNil)))))) (gN 6))
  (dRet (dTup (dCons (dC (.str "pair")) (dCons (dVar 6) (dCons (dCall (W .law_tree) E (dCons (dVar 0) (dCons (dVar 1) (dCons (dVar 2) (dCons (dOp dIx (dVar 3) (dC (.int 2))) (dCons (dOp dSub (dVar 4) (dC (.int 1))) dNil)))))) dNil)))))) dNext)
  (dSeq (dAsg (dCall (W .law_kind) E (dCons (dVar 0) (dCons (dC (.int 1)) dNil))) (gN 7))
  (dSeq (dAsg (dCall (W .law_tree) E (dCons (dVar 0) (dCons (dVar 1) (dCons (dVar 2) (dCons (dVar 7) (dCons (dOp dSub (dVar 4) (dC (.int 1))) dNil)))))) (gN 6))
  (dRet (dTup (dCons (dC (.str "let")) (dCons (dVar 5) (dCons (dVar 6) (dCons (dCall (W .law_leaf) E (dCons (dVar 0) (dCons (dOp dAdd (dVar 2) (dLst (dCons (dTup (dCons (dVar 5) (dCons (dVar 7) dNil))) dNil))) (dCons (dVar 3) dNil)))) dNil)))))))))))))
def b_law_asking (W M : Fn → DSp) (E : DX → DEnv → Store → Prop) : DS :=
  (dSeq (dAsg (dOp dIx (dVar 1) (dCall (W .law_take) E (dCons (dVar 0) (dCons (dCB bLen (dCons (dVar 1) dNil)) dNil)))) (gN 5))
  (dSeq (dAsg (dTup (dCons (dC (.str "ask")) (dCons (dOp dIx (dVar 5) (dC (.int 0))) (dCons (dCall (W .law_tree) E (dCons (dVar 0) (dCons (dVar 1) (dCons (dVar 2) (dCons (dOp dIx (dVar 5) (dC (.int 1))) (dCons (dOp dSub (dVar 4) (dC (.int 1))) dNil)))))) dNil)))) (gN 6))
  (dSeq (dIfS (dTest (dOp dEq (dOp dIx (dVar 5) (dC (.int 2))) (dVar 3))) (dRet (dVar 6)) dNext)
  (dSeq (dAsg (dOp dAdd (dC (.str "x")) (dCB bStr (dCons (dCB bLen (dCons (dVar 2) dNil)) dNil))) (gN 7))
  (dRet (dTup (dCons (dC (.str "let")) (dCons (dVar 7) (dCons (dVar 6) (dCons (dCall (W .law_tree) E (dCons (dVar 0) (dCons (dVar 1) (dCons (dOp dAdd (dVar 2) (dLst (dCons (dTup (dCons (dVar 7) (dCons (dOp dIx (dVar 5) (dC (.int 2))) dNil))) dNil))) (dCons (dVar 3) (dCons (dOp dSub (dVar 4) (dC (.int 1))) dNil)))))) dNil))))))))))
def b_law_clause (W M : Fn → DSp) (E : DX → DEnv → Store → Prop) : DS :=
  (dSeq (dPar 6 7 (dCons (dOp dAdd (dC (.str "x")) (dCB bStr (dCons (dCB bLen (dCons (dVar 2) dNil)) dNil))) (dCons (dOp dAdd (dC (.str "k")) (dCB bStr (dCons (dOp dAdd (dCB bLen (dCons (dVar 2) dNil)) (dC (.int 1))) dNil))) dNil)))
  (dSeq (dAsg (dOp dAdd (dVar 2) (dLst (dCons (dTup (dCons (dVar 6) (dCons (dOp dIx (dVar 5) (dC (.int 1))) dNil))) (dCons (dTup (dCons (dVar 7) (dCons (dTup (dCons (dC (.str "fun")) (dCons (dOp dIx (dVar 5) (dC (.int 2))) (dCons (dVar 3) dNil)))) dNil))) dNil)))) (gN 8))
  (dSeq (dAsg (dCall (W .law_take) E (dCons (dVar 0) (dCons (dC (.int 6)) dNil))) (gN 9))
  (dSeq (dAsg (dOp dAdd (dVar 2) (dLst (dCons (dTup (dCons (dVar 6) (dCons (dOp dIx (dVar 5) (dC (.int 1))) dNil))) dNil))) (gN 10))
  (dSeq (dIfS (dTest (dOp dLt (dVar 9) (dC (.int 2)))) (dAsg (dTup (dCons (dC (.str "call")) (dCons (dTup (dCons (dC (.str "name")) (dCons (dVar 7) dNil))) (dCons (dCall (W .law_tree) E (dCons (dVar 0) (dCons (dVar 1) (dCons (dVar 10) (dCons (dOp dIx (dVar 5) (dC (.int 2))) (dCons (dOp dSub (dVar 4) (dC (.int 1))) dNil)))))) dNil)))) (gN 11)) (dIfS (dTest (dOp dEq (dVar 9) (dC (.int 2)))) (dAsg (dTup (dCons (dC (.str "call")) (dCons (dTup (dCons (dC (.str "name")) (dCons (dVar 7) dNil))) (dCons (dCall (W .law_tree) E (dCons (dVar 0) (dCons (dVar 1) (dCons (dVar 8) (dCons (dOp dIx (dVar 5) (dC (.int 2))) (dCons (dOp dSub (dVar 4) (dC (.int 1))) dNil)))))) dNil)))) (gN 11)) (dIfS (dAnd (dTest (dOp dEq (dVar 9) (dC (.int 3)))) (dTest (dOp dEq (dOp dIx (dVar 3) (dC (.int 0))) (dC (.str "int"))))) (dSeq (dAsg (dTup (dCons (dC (.str "call")) (dCons (dTup (dCons (dC (.str "name")) (dCons (dVar 7) dNil))) (dCons (dCall (W .law_leaf) E (dCons (dVar 0) (dCons (dVar 10) (dCons (dOp dIx (dVar 5) (dC (.int 2))) dNil)))) dNil)))) (gN 12))
  (dAsg (dTup (dCons (dC (.str "op")) (dCons (dC (.str "+")) (dCons (dVar 12) (dCons (dTup (dCons (dC (.str "call")) (dCons (dTup (dCons (dC (.str "name")) (dCons (dVar 7) dNil))) (dCons (dCall (W .law_leaf) E (dCons (dVar 0) (dCons (dVar 10) (dCons (dOp dIx (dVar 5) (dC (.int 2))) dNil)))) dNil)))) dNil))))) (gN 11))) (dIfS (dTest (dOp dEq (dVar 9) (dC (.int 4)))) (dSeq (dAsg (dCall (W .law_leaf) E (dCons (dVar 0) (dCons (dVar 10) (dCons (dTup (dCons (dC (.str "int")) dNil)) dNil)))) (gN 13))
  (dAsg (dTup (dCons (dC (.str "print")) (dCons (dVar 13) (dCons (dTup (dCons (dC (.str "call")) (dCons (dTup (dCons (dC (.str "name")) (dCons (dVar 7) dNil))) (dCons (dCall (W .law_leaf) E (dCons (dVar 0) (dCons (dVar 10) (dCons (dOp dIx (dVar 5) (dC (.int 2))) dNil)))) dNil)))) dNil)))) (gN 11))) (dAsg (dCall (W .law_tree) E (dCons (dVar 0) (dCons (dVar 1) (dCons (dVar 8) (dCons (dVar 3) (dCons (dOp dSub (dVar 4) (dC (.int 1))) dNil)))))) (gN 11))))))
  (dRet (dTup (dCons (dOp dIx (dVar 5) (dC (.int 0))) (dCons (dVar 6) (dCons (dVar 7) (dCons (dVar 11) dNil)))))))))))
def b_law_handling (W M : Fn → DSp) (E : DX → DEnv → Store → Prop) : DS :=
  (dSeq (dAsg (dVar 3) (gN 5))
  (dSeq (dIfS (dTest (dOp dEq (dCall (W .law_take) E (dCons (dVar 0) (dCons (dC (.int 3)) dNil))) (dC (.int 0)))) (dAsg (dCall (W .law_kind) E (dCons (dVar 0) (dCons (dC (.int 1)) dNil))) (gN 5)) dNext)
  (dSeq (dAsg (dCall (W .law_tree) E (dCons (dVar 0) (dCons (dVar 1) (dCons (dVar 2) (dCons (dVar 5) (dCons (dOp dSub (dVar 4) (dC (.int 1))) dNil)))))) (gN 6))
  (dSeq (dAsg (dOp dAdd (dC (.str "x")) (dCB bStr (dCons (dCB bLen (dCons (dVar 2) dNil)) dNil))) (gN 7))
  (dSeq (dAsg (dCall (W .law_tree) E (dCons (dVar 0) (dCons (dVar 1) (dCons (dOp dAdd (dVar 2) (dLst (dCons (dTup (dCons (dVar 7) (dCons (dVar 5) dNil))) dNil))) (dCons (dVar 3) (dCons (dOp dSub (dVar 4) (dC (.int 2))) dNil)))))) (gN 8))
  (dSeq (dAsg (dLstM dNil) (gN 9))
  (dSeq (dFor (iL (dVar 1)) (gN 10) (dIfS (dTest (dOp dGt (dCall (W .law_take) E (dCons (dVar 0) (dCons (dC (.int 3)) dNil))) (dC (.int 0)))) (dDrop (dBM "list" mAppend (dVar 9) (dCons (dCall (W .law_clause) E (dCons (dVar 0) (dCons (dVar 1) (dCons (dVar 2) (dCons (dVar 3) (dCons (dVar 4) (dCons (dVar 10) dNil))))))) dNil))) dNext))
  (dRet (dTup (dCons (dC (.str "handle")) (dCons (dVar 6) (dCons (dTup (dCons (dVar 7) (dCons (dVar 8) dNil))) (dCons (dCB bTuple (dCons (dFrz (dVar 9)) dNil)) dNil)))))))))))))
def b_law_loop (W M : Fn → DSp) (E : DX → DEnv → Store → Prop) : DS :=
  (dSeq (dPar 5 6 (dCons (dOp dAdd (dC (.str "h")) (dCB bStr (dCons (dCB bLen (dCons (dVar 2) dNil)) dNil))) (dCons (dOp dAdd (dC (.str "x")) (dCB bStr (dCons (dOp dAdd (dCB bLen (dCons (dVar 2) dNil)) (dC (.int 1))) dNil))) dNil)))
  (dSeq (dAsg (dOp dAdd (dVar 2) (dLst (dCons (dTup (dCons (dVar 5) (dCons (dTup (dCons (dC (.str "fun")) (dCons (dTup (dCons (dC (.str "int")) dNil)) (dCons (dVar 3) dNil)))) dNil))) (dCons (dTup (dCons (dVar 6) (dCons (dTup (dCons (dC (.str "int")) dNil)) dNil))) dNil)))) (gN 7))
  (dSeq (dAsg (dTup (dCons (dC (.str "call")) (dCons (dTup (dCons (dC (.str "name")) (dCons (dVar 5) dNil))) (dCons (dTup (dCons (dC (.str "op")) (dCons (dC (.str "-")) (dCons (dTup (dCons (dC (.str "name")) (dCons (dVar 6) dNil))) (dCons (dTup (dCons (dC (.str "num")) (dCons (dC (.int 1)) dNil))) dNil))))) dNil)))) (gN 8))
  (dSeq (dIfS (dTest (dOp dEq (dCall (W .law_take) E (dCons (dVar 0) (dCons (dC (.int 2)) dNil))) (dC (.int 0)))) (dAsg (dTup (dCons (dC (.str "print")) (dCons (dTup (dCons (dC (.str "name")) (dCons (dVar 6) dNil))) (dCons (dVar 8) dNil)))) (gN 8)) dNext)
  (dSeq (dAsg (dCall (W .law_tree) E (dCons (dVar 0) (dCons (dVar 1) (dCons (dVar 7) (dCons (dVar 3) (dCons (dOp dSub (dVar 4) (dC (.int 1))) dNil)))))) (gN 9))
  (dSeq (dAsg (dTup (dCons (dC (.str "if")) (dCons (dTup (dCons (dC (.str "op")) (dCons (dC (.str "<")) (dCons (dTup (dCons (dC (.str "name")) (dCons (dVar 6) dNil))) (dCons (dTup (dCons (dC (.str "num")) (dCons (dC (.int 1)) dNil))) dNil))))) (dCons (dVar 9) (dCons (dVar 8) dNil))))) (gN 10))
  (dSeq (dIfS (dAnd (dTest (dOp dEq (dCall (W .law_take) E (dCons (dVar 0) (dCons (dC (.int 2)) dNil))) (dC (.int 0)))) (dTest (dOp dEq (dVar 3) (dTup (dCons (dC (.str "int")) dNil))))) (dAsg (dTup (dCons (dC (.str "op")) (dCons (dC (.str "+")) (dCons (dTup (dCons (dC (.str "name")) (dCons (dVar 6) dNil))) (dCons (dVar 10) dNil))))) (gN 10)) dNext)
  (dRet (dTup (dCons (dC (.str "call")) (dCons (dTup (dCons (dC (.str "rec")) (dCons (dVar 5) (dCons (dVar 6) (dCons (dVar 10) dNil))))) (dCons (dTup (dCons (dC (.str "num")) (dCons (dCall (W .law_take) E (dCons (dVar 0) (dCons (dC (.int 5)) dNil))) dNil))) dNil))))))))))))
def b_law_tree (W M : Fn → DSp) (E : DX → DEnv → Store → Prop) : DS :=
  (dSeq (dAsg (dCall (W .law_take) E (dCons (dVar 0) (dCons (dC (.int 14)) dNil))) (gN 5))
  (dSeq (dAsg (dOp dAdd (dC (.str "x")) (dCB bStr (dCons (dCB bLen (dCons (dVar 2) dNil)) dNil))) (gN 6))
  (dSeq (dIfS (dOr (dTest (dOp dLt (dVar 4) (dC (.int 1)))) (dTest (dOp dEq (dVar 5) (dC (.int 0))))) (dRet (dCall (W .law_leaf) E (dCons (dVar 0) (dCons (dVar 2) (dCons (dVar 3) dNil))))) dNext)
  (dSeq (dIfS (dTest (dOp dLt (dVar 5) (dC (.int 3)))) (dRet (dCall (W .law_special) E (dCons (dVar 0) (dCons (dVar 1) (dCons (dVar 2) (dCons (dVar 3) (dCons (dVar 4) dNil))))))) dNext)
  (dSeq (dIfS (dTest (dOp dLt (dVar 5) (dC (.int 6)))) (dRet (dCall (W .law_asking) E (dCons (dVar 0) (dCons (dVar 1) (dCons (dVar 2) (dCons (dVar 3) (dCons (dVar 4) dNil))))))) dNext)
  (dSeq (dIfS (dTest (dOp dLt (dVar 5) (dC (.int 9)))) (dRet (dCall (W .law_handling) E (dCons (dVar 0) (dCons (dVar 1) (dCons (dVar 2) (dCons (dVar 3) (dCons (dVar 4) dNil))))))) dNext)
  (dSeq (dIfS (dTest (dOp dEq (dVar 5) (dC (.int 9)))) (dRet (dCall (W .law_loop) E (dCons (dVar 0) (dCons (dVar 1) (dCons (dVar 2) (dCons (dVar 3) (dCons (dVar 4) dNil))))))) dNext)
  (dSeq (dIfS (dTest (dOp dEq (dVar 5) (dC (.int 10)))) (dSeq (dAsg (dCall (W .law_tree) E (dCons (dVar 0) (dCons (dVar 1) (dCons (dVar 2) (dCons (dTup (dCons (dC (.str "int")) dNil)) (dCons (dOp dSub (dVar 4) (dC (.int 1))) dNil)))))) (gN 7))
  (dRet (dTup (dCons (dC (.str "print")) (dCons (dVar 7) (dCons (dCall (W .law_tree) E (dCons (dVar 0) (dCons (dVar 1) (dCons (dVar 2) (dCons (dVar 3) (dCons (dOp dSub (dVar 4) (dC (.int 1))) dNil)))))) dNil)))))) dNext)
  (dSeq (dAsg (dCall (W .law_kind) E (dCons (dVar 0) (dCons (dC (.int 1)) dNil))) (gN 8))
  (dSeq (dIfS (dTest (dOp dEq (dVar 5) (dC (.int 11)))) (dSeq (dAsg (dCall (W .law_tree) E (dCons (dVar 0) (dCons (dVar 1) (dCons (dVar 2) (dCons (dTup (dCons (dC (.str "fun")) (dCons (dVar 8) (dCons (dVar 3) dNil)))) (dCons (dOp dSub (dVar 4) (dC (.int 1))) dNil)))))) (gN 7))
  (dRet (dTup (dCons (dC (.str "call")) (dCons (dVar 7) (dCons (dCall (W .law_tree) E (dCons (dVar 0) (dCons (dVar 1) (dCons (dVar 2) (dCons (dVar 8) (dCons (dOp dSub (dVar 4) (dC (.int 1))) dNil)))))) dNil)))))) dNext)
  (dSeq (dIfS (dTest (dOp dEq (dVar 5) (dC (.int 12)))) (dSeq (dAsg (dCall (W .law_tree) E (dCons (dVar 0) (dCons (dVar 1) (dCons (dVar 2) (dCons (dTup (dCons (dC (.str "bool")) dNil)) (dCons (dOp dSub (dVar 4) (dC (.int 1))) dNil)))))) (gN 9))
  (dSeq (dAsg (dCall (W .law_tree) E (dCons (dVar 0) (dCons (dVar 1) (dCons (dVar 2) (dCons (dVar 3) (dCons (dOp dSub (dVar 4) (dC (.int 1))) dNil)))))) (gN 7))
  (dRet (dTup (dCons (dC (.str "if")) (dCons (dVar 9) (dCons (dVar 7) (dCons (dCall (W .law_tree) E (dCons (dVar 0) (dCons (dVar 1) (dCons (dVar 2) (dCons (dVar 3) (dCons (dOp dSub (dVar 4) (dC (.int 1))) dNil)))))) dNil)))))))) dNext)
  (dSeq (dIfS (dTest (dOp dEq (dCall (W .law_take) E (dCons (dVar 0) (dCons (dC (.int 3)) dNil))) (dC (.int 0)))) (dRet (dTup (dCons (dC (.str "snd")) (dCons (dCall (W .law_tree) E (dCons (dVar 0) (dCons (dVar 1) (dCons (dVar 2) (dCons (dTup (dCons (dC (.str "pair")) (dCons (dVar 8) (dCons (dVar 3) dNil)))) (dCons (dOp dSub (dVar 4) (dC (.int 1))) dNil)))))) dNil)))) dNext)
  (dSeq (dAsg (dCall (W .law_tree) E (dCons (dVar 0) (dCons (dVar 1) (dCons (dVar 2) (dCons (dVar 8) (dCons (dOp dSub (dVar 4) (dC (.int 1))) dNil)))))) (gN 7))
  (dRet (dTup (dCons (dC (.str "let")) (dCons (dVar 6) (dCons (dVar 7) (dCons (dCall (W .law_tree) E (dCons (dVar 0) (dCons (dVar 1) (dCons (dOp dAdd (dVar 2) (dLst (dCons (dTup (dCons (dVar 6) (dCons (dVar 8) dNil))) dNil))) (dCons (dVar 3) (dCons (dOp dSub (dVar 4) (dC (.int 1))) dNil)))))) dNil)))))))))))))))))))
def b_law_program (W M : Fn → DSp) (E : DX → DEnv → Store → Prop) : DS :=
  (dSeq (dAsg (dCall (W .law_operations) E (dCons (dVar 0) dNil)) (gN 1))
  (dSeq (dAsg (dCall (W .law_kind) E (dCons (dVar 0) (dCons (dC (.int 2)) dNil))) (gN 2))
  (dSeq (dAsg (dCall (W .law_tree) E (dCons (dVar 0) (dCons (dVar 1) (dCons (dLst dNil) (dCons (dVar 2) (dCons (dOp dAdd (dOp dAdd (dC (.int 1)) (dCall (W .law_take) E (dCons (dVar 0) (dCons (dC (.int 3)) dNil)))) (dCB bInt (dCons (dOp dEq (dCall (W .law_take) E (dCons (dVar 0) (dCons (dC (.int 8)) dNil))) (dC (.int 0))) dNil))) dNil)))))) (gN 3))
  (dSeq (dIfS (dTest (dOp dEq (dCall (W .law_take) E (dCons (dVar 0) (dCons (dC (.int 2)) dNil))) (dC (.int 0)))) (dSeq (dAsg (dLstM dNil) (gN 4))
  (dSeq (dFor (iL (dVar 1)) (gN 5) (dDrop (dBM "list" mAppend (dVar 4) (dCons (dCall (W .law_clause) E (dCons (dVar 0) (dCons (dLst (dCons (dVar 5) dNil)) (dCons (dLst dNil) (dCons (dVar 2) (dCons (dC (.int 1)) (dCons (dVar 5) dNil))))))) dNil))))
  (dAsg (dTup (dCons (dC (.str "handle")) (dCons (dVar 3) (dCons (dTup (dCons (dC (.str "r")) (dCons (dTup (dCons (dC (.str "name")) (dCons (dC (.str "r")) dNil))) dNil))) (dCons (dCB bTuple (dCons (dFrz (dVar 4)) dNil)) dNil))))) (gN 3)))) dNext)
  (dRet (dTup (dCons (dTup (dCons (dC (.str "program")) (dCons (dCB bTuple (dCons (dVar 1) dNil)) (dCons (dVar 3) dNil)))) (dCons (dVar 2) dNil))))))))
def b_law_find (W M : Fn → DSp) (E : DX → DEnv → Store → Prop) : DS :=
  (dSeq (dWhile (dTest (dOp dNe (dOp dIx (dVar 0) (dC (.int 0))) (dVar 1))) (dAsg (dOp dIx (dVar 0) (dC (.int 2))) (gN 0)))
  (dRet (dOp dIx (dVar 0) (dC (.int 1)))))
def b_law_operate (W M : Fn → DSp) (E : DX → DEnv → Store → Prop) : DS :=
  (dSeq (dIfS (dTest (dOp dEq (dVar 0) (dC (.str "<")))) (dRet (dTup (dCons (dC (.str "bool")) (dCons (dOp dLt (dVar 1) (dVar 2)) dNil)))) dNext)
  (dSeq (dIfS (dTest (dOp dEq (dVar 0) (dC (.str "==")))) (dRet (dTup (dCons (dC (.str "bool")) (dCons (dOp dEq (dVar 1) (dVar 2)) dNil)))) dNext)
  (dSeq (dAsg (dDicD [("+", (dOp dAdd (dVar 1) (dVar 2))), ("-", (dOp dSub (dVar 1) (dVar 2))), ("*", (dOp dMul (dVar 1) (dVar 2)))]) (gN 3))
  (dRet (dTup (dCons (dC (.str "int")) (dCons (dOp dSub (dOp dMod (dCB bInt (dCons (dOp dAdd (dOp dIx (dVar 3) (dVar 0)) (dC (.int 2147483648))) dNil)) (dC (.int 4294967296))) (dC (.int 2147483648))) dNil)))))))
def b_law_into (W M : Fn → DSp) (E : DX → DEnv → Store → Prop) : DS :=
  (dSeq (dAsg (dOp dIx (dVar 0) (dC (.int 0))) (gN 3))
  (dSeq (dIfS (dTest (dOp dEq (dVar 3) (dC (.str "num")))) (dRet (dTup (dCons (dC .non) (dCons (dC .non) (dCons (dTup (dCons (dC (.str "int")) (dCons (dOp dIx (dVar 0) (dC (.int 1))) dNil))) dNil))))) dNext)
  (dSeq (dIfS (dTest (dOp dEq (dVar 3) (dC (.str "flag")))) (dRet (dTup (dCons (dC .non) (dCons (dC .non) (dCons (dTup (dCons (dC (.str "bool")) (dCons (dOp dIx (dVar 0) (dC (.int 1))) dNil))) dNil))))) dNext)
  (dSeq (dIfS (dTest (dOp dEq (dVar 3) (dC (.str "unit")))) (dRet (dTup (dCons (dC .non) (dCons (dC .non) (dCons (dTup (dCons (dC (.str "unit")) dNil)) dNil))))) dNext)
  (dSeq (dIfS (dTest (dOp dEq (dVar 3) (dC (.str "name")))) (dRet (dTup (dCons (dC .non) (dCons (dC .non) (dCons (dCall (W .law_find) E (dCons (dVar 1) (dCons (dOp dIx (dVar 0) (dC (.int 1))) dNil))) dNil))))) dNext)
  (dSeq (dIfS (dTest (dOp dEq (dVar 3) (dC (.str "fun")))) (dRet (dTup (dCons (dC .non) (dCons (dC .non) (dCons (dTup (dCons (dC (.str "fun")) (dCons (dC (.str "")) (dCons (dOp dIx (dVar 0) (dC (.int 1))) (dCons (dOp dIx (dVar 0) (dC (.int 2))) (dCons (dVar 1) dNil)))))) dNil))))) dNext)
  (dSeq (dIfS (dTest (dOp dEq (dVar 3) (dC (.str "rec")))) (dRet (dTup (dCons (dC .non) (dCons (dC .non) (dCons (dTup (dCons (dC (.str "fun")) (dCons (dOp dIx (dVar 0) (dC (.int 1))) (dCons (dOp dIx (dVar 0) (dC (.int 2))) (dCons (dOp dIx (dVar 0) (dC (.int 3))) (dCons (dVar 1) dNil)))))) dNil))))) dNext)
  (dSeq (dDrop (dBM "list" mAppend (dVar 2) (dCons (dTup (dCons (dVar 0) (dCons (dVar 1) (dCons (dC (.int 0)) (dCons (dC .non) dNil))))) dNil)))
  (dSeq (dIfS (dTest (dOp (dIn false) (dVar 3) (dLst (dCons (dC (.str "let")) (dCons (dC (.str "op")) (dCons (dC (.str "ask")) dNil)))))) (dRet (dTup (dCons (dOp dIx (dVar 0) (dC (.int 2))) (dCons (dVar 1) (dCons (dC .non) dNil))))) dNext)
  (dRet (dTup (dCons (dOp dIx (dVar 0) (dC (.int 1))) (dCons (dVar 1) (dCons (dC .non) dNil))))))))))))))
def b_law_second (W M : Fn → DSp) (E : DX → DEnv → Store → Prop) : DS :=
  (dSeq (dAsg (dOp dIx (dVar 2) (dC (.int 0))) (gN 5))
  (dSeq (dIfS (dTest (dOp dEq (dVar 5) (dC (.str "op")))) (dRet (dTup (dCons (dC .non) (dCons (dC .non) (dCons (dCall (W .law_operate) E (dCons (dOp dIx (dVar 2) (dC (.int 1))) (dCons (dOp dIx (dVar 3) (dC (.int 1))) (dCons (dOp dIx (dVar 4) (dC (.int 1))) dNil)))) dNil))))) dNext)
  (dSeq (dIfS (dTest (dOp dEq (dVar 5) (dC (.str "pair")))) (dRet (dTup (dCons (dC .non) (dCons (dC .non) (dCons (dTup (dCons (dC (.str "pair")) (dCons (dVar 3) (dCons (dVar 4) dNil)))) dNil))))) dNext)
  (dSeq (dIfS (dTest (dOp dEq (dOp dIx (dVar 0) (dC (.int 0))) (dC (.int 0)))) (dRet (dTup (dCons (dC (.str "steps")) (dCons (dC .non) (dCons (dC .non) dNil))))) dNext)
  (dSeq (dAsg (dOp dSub (dOp dIx (dVar 0) (dC (.int 0))) (dC (.int 1))) (gSb (dVar 0) (dC (.int 0)) stD))
  (dSeq (dIfS (dTest (dOp dEq (dOp dIx (dVar 3) (dC (.int 0))) (dC (.str "kept")))) (dSeq (dFor (iT (dOp dIx (dVar 3) (dC (.int 1)))) (gN 6) (dDrop (dBM "list" mAppend (dVar 1) (dCons (dVar 6) dNil))))
  (dRet (dTup (dCons (dC .non) (dCons (dC .non) (dCons (dVar 4) dNil)))))) dNext)
  (dSeq (dAsg (dOp dIx (dVar 3) (dC (.int 4))) (gN 7))
  (dSeq (dIfS (dTest (dOp dNe (dOp dIx (dVar 3) (dC (.int 1))) (dC (.str "")))) (dAsg (dTup (dCons (dOp dIx (dVar 3) (dC (.int 1))) (dCons (dVar 3) (dCons (dVar 7) dNil)))) (gN 7)) dNext)
  (dRet (dTup (dCons (dOp dIx (dVar 3) (dC (.int 3))) (dCons (dTup (dCons (dOp dIx (dVar 3) (dC (.int 2))) (dCons (dVar 4) (dCons (dVar 7) dNil)))) (dCons (dC .non) dNil)))))))))))))
def b_law_asked (W M : Fn → DSp) (E : DX → DEnv → Store → Prop) : DS :=
  (dSeq (dIfS (dTest (dOp dEq (dOp dIx (dVar 0) (dC (.int 0))) (dC (.int 0)))) (dRet (dTup (dCons (dC (.str "steps")) (dCons (dC .non) (dCons (dC .non) dNil))))) dNext)
  (dSeq (dAsg (dOp dSub (dOp dIx (dVar 0) (dC (.int 0))) (dC (.int 1))) (gSb (dVar 0) (dC (.int 0)) stD))
  (dSeq (dFor (iRvR (rg1 (dCB bLen (dCons (dVar 1) dNil)))) (gN 4) (dSeq (dAsg (dOp dIx (dVar 1) (dVar 4)) (gTp 4 (gsC (gN 5) (gsC (gN 6) (gsC (gN 7) (gsC (gN 8) gsN))))))
  (dIfS (dTest (dOp dEq (dOp dIx (dVar 5) (dC (.int 0))) (dC (.str "handle")))) (dFor (iT (dOp dIx (dVar 5) (dC (.int 3)))) (gN 9) (dIfS (dTest (dOp dEq (dOp dIx (dVar 9) (dC (.int 0))) (dVar 2))) (dSeq (dAsg (dTup (dCons (dC (.str "kept")) (dCons (dCB bTuple (dCons (dSl slD (dVar 1) (dPart (dVar 4)) dNoPart) dNil)) dNil))) (gN 10))
  (dSeq (dDrop (dBM "list" mAppend (dOp dIx (dVar 0) (dC (.int 2))) (dCons (dVar 9) dNil)))
  (dSeq (dWhile (dTest (dOp dGt (dCB bLen (dCons (dVar 1) dNil)) (dVar 4))) (dDrop (dBM0 "list" mPop (dVar 1))))
  (dRet (dTup (dCons (dOp dIx (dVar 9) (dC (.int 3))) (dCons (dTup (dCons (dOp dIx (dVar 9) (dC (.int 2))) (dCons (dVar 10) (dCons (dTup (dCons (dOp dIx (dVar 9) (dC (.int 1))) (dCons (dVar 3) (dCons (dVar 6) dNil)))) dNil)))) (dCons (dC .non) dNil)))))))) dNext)) dNext)))
  (dRet (dTup (dCons (dC (.str "unhandled")) (dCons (dVar 2) (dCons (dC .non) dNil))))))))
def b_law_back (W M : Fn → DSp) (E : DX → DEnv → Store → Prop) : DS :=
  (dSeq (dAsg (dBM0 "list" mPop (dVar 1)) (gTp 4 (gsC (gN 3) (gsC (gN 4) (gsC (gN 5) (gsC (gN 6) gsN))))))
  (dSeq (dAsg (dOp dIx (dVar 3) (dC (.int 0))) (gN 7))
  (dSeq (dIfS (dTest (dOp dEq (dVar 5) (dC (.int 1)))) (dRet (dCall (W .law_second) E (dCons (dVar 0) (dCons (dVar 1) (dCons (dVar 3) (dCons (dVar 6) (dCons (dVar 2) dNil))))))) dNext)
  (dSeq (dIfS (dTest (dOp (dIn false) (dVar 7) (dLst (dCons (dC (.str "call")) (dCons (dC (.str "pair")) (dCons (dC (.str "op")) dNil)))))) (dSeq (dDrop (dBM "list" mAppend (dVar 1) (dCons (dTup (dCons (dVar 3) (dCons (dVar 4) (dCons (dC (.int 1)) (dCons (dVar 2) dNil))))) dNil)))
  (dRet (dTup (dCons (dOp dIx (dVar 3) (dOp dAdd (dC (.int 2)) (dCB bInt (dCons (dOp dEq (dVar 7) (dC (.str "op"))) dNil)))) (dCons (dVar 4) (dCons (dC .non) dNil)))))) dNext)
  (dSeq (dIfS (dTest (dOp dEq (dVar 7) (dC (.str "let")))) (dRet (dTup (dCons (dOp dIx (dVar 3) (dC (.int 3))) (dCons (dTup (dCons (dOp dIx (dVar 3) (dC (.int 1))) (dCons (dVar 2) (dCons (dVar 4) dNil)))) (dCons (dC .non) dNil))))) dNext)
  (dSeq (dIfS (dTest (dOp dEq (dVar 7) (dC (.str "if")))) (dRet (dTup (dCons (dOp dIx (dVar 3) (dOp dSub (dC (.int 3)) (dCB bInt (dCons (dOp dIx (dVar 2) (dC (.int 1))) dNil)))) (dCons (dVar 4) (dCons (dC .non) dNil))))) dNext)
  (dSeq (dIfS (dTest (dOp dEq (dVar 7) (dC (.str "print")))) (dSeq (dDrop (dBM "list" mAppend (dOp dIx (dVar 0) (dC (.int 1))) (dCons (dOp dIx (dVar 2) (dC (.int 1))) dNil)))
  (dRet (dTup (dCons (dOp dIx (dVar 3) (dC (.int 2))) (dCons (dVar 4) (dCons (dC .non) dNil)))))) dNext)
  (dSeq (dIfS (dTest (dOp dEq (dVar 7) (dC (.str "ask")))) (dRet (dCall (W .law_asked) E (dCons (dVar 0) (dCons (dVar 1) (dCons (dOp dIx (dVar 3) (dC (.int 1))) (dCons (dVar 2) dNil)))))) dNext)
  (dSeq (dIfS (dTest (dOp dEq (dVar 7) (dC (.str "handle")))) (dRet (dTup (dCons (dOp dIx (dOp dIx (dVar 3) (dC (.int 2))) (dC (.int 1))) (dCons (dTup (dCons (dOp dIx (dOp dIx (dVar 3) (dC (.int 2))) (dC (.int 0))) (dCons (dVar 2) (dCons (dVar 4) dNil)))) (dCons (dC .non) dNil))))) dNext)
  (dSeq (dIfS (dTest (dOp dEq (dVar 7) (dC (.str "not")))) (dRet (dTup (dCons (dC .non) (dCons (dC .non) (dCons (dTup (dCons (dC (.str "bool")) (dCons (dNotV (dOp dIx (dVar 2) (dC (.int 1)))) dNil))) dNil))))) dNext)
  (dRet (dTup (dCons (dC .non) (dCons (dC .non) (dCons (dOp dIx (dVar 2) (dOp dAdd (dC (.int 1)) (dCB bInt (dCons (dOp dEq (dVar 7) (dC (.str "snd"))) dNil)))) dNil)))))))))))))))
def b_law_shape (W M : Fn → DSp) (E : DX → DEnv → Store → Prop) : DS :=
  (dSeq (dIfS (dTest (dOp dEq (dOp dIx (dVar 0) (dC (.int 0))) (dC (.str "pair")))) (dRet (dTup (dCons (dC (.str "pair")) (dCons (dCall (W .law_shape) E (dCons (dOp dIx (dVar 0) (dC (.int 1))) dNil)) (dCons (dCall (W .law_shape) E (dCons (dOp dIx (dVar 0) (dC (.int 2))) dNil)) dNil))))) dNext)
  (dSeq (dIfS (dTest (dOp (dIn false) (dOp dIx (dVar 0) (dC (.int 0))) (dLst (dCons (dC (.str "int")) (dCons (dC (.str "bool")) (dCons (dC (.str "unit")) dNil)))))) (dRet (dVar 0)) dNext)
  (dRet (dTup (dCons (dC (.str "fun")) dNil)))))
def b_law_outcome (W M : Fn → DSp) (E : DX → DEnv → Store → Prop) : DS :=
  (dSeq (dAsg (dLstM (dCons (dVar 1) (dCons (dLstM dNil) (dCons (dLstM dNil) dNil)))) (gN 2))
  (dSeq (dAsg (dLstM dNil) (gN 3))
  (dSeq (dPar3 4 5 6 (dCons (dVar 0) (dCons (dC .non) (dCons (dC .non) dNil))))
  (dSeq (dAsg (dC .non) (gN 7))
  (dSeq (dFor (iR1 (dCons (dC (.int 100000)) dNil)) (gN 8) (dSeq (dIfS (dTest (dOp dEq (dVar 4) (dC (.str "steps")))) (dAsg (dTup (dCons (dC (.str "steps")) dNil)) (gN 7)) (dIfS (dTest (dOp dEq (dVar 4) (dC (.str "unhandled")))) (dAsg (dTup (dCons (dC (.str "unhandled")) (dCons (dVar 5) dNil))) (gN 7)) (dIfS (dAnd (dTest (dOp dIs (dVar 4) (dC .non))) (dTest (dOp dEq (dCB bLen (dCons (dVar 3) dNil)) (dC (.int 0))))) (dAsg (dTup (dCons (dC (.str "value")) (dCons (dCall (W .law_shape) E (dCons (dVar 6) dNil)) dNil))) (gN 7)) dNext)))
  (dSeq (dIfS (dTest (dOp dIsNot (dVar 7) (dC .non))) dBrk dNext)
  (dIfS (dTest (dOp dIs (dVar 4) (dC .non))) (dAsg (dCall (W .law_back) E (dCons (dVar 2) (dCons (dVar 3) (dCons (dVar 6) dNil)))) (gTp 3 (gsC (gN 4) (gsC (gN 5) (gsC (gN 6) gsN))))) (dAsg (dCall (W .law_into) E (dCons (dVar 4) (dCons (dVar 5) (dCons (dVar 3) dNil)))) (gTp 3 (gsC (gN 4) (gsC (gN 5) (gsC (gN 6) gsN)))))))))
  (dRet (dTup (dCons (dCB bTuple (dCons (dOp dIx (dVar 2) (dC (.int 1))) dNil)) (dCons (dVar 7) (dCons (dFrz (dOp dIx (dVar 2) (dC (.int 2)))) dNil))))))))))
def b_law (W M : Fn → DSp) (E : DX → DEnv → Store → Prop) : DS :=
  (dSeq (dAsg (dCall (W .law_state) E (dCons (dVar 0) dNil)) (gN 1))
  (dSeq (dAsg (dOp dIx (dOp dIx (dCall (W .law_program) E (dCons (dVar 1) dNil)) (dC (.int 0))) (dC (.int 2))) (gN 2))
  (dSeq (dAsg (dCB bRepr (dCons (dVar 2) dNil)) (gN 3))
  (dSeq (dFor (iL (dLst (dCons (dCall (W .law_take) E (dCons (dVar 1) (dCons (dC (.int 61)) dNil))) (dCons (dCall (W .law_take) E (dCons (dVar 1) (dCons (dC (.int 8)) dNil))) dNil)))) (gN 4) (dSeq (dAsg (dCall (W .law_outcome) E (dCons (dVar 2) (dCons (dVar 4) dNil))) (gN 5))
  (dSeq (dAsg (dCall (W .run_plain) E (dCons (dVar 2) (dCons (dVar 4) dNil))) (gN 6))
  (dIfS (dOr (dNot (dTru (dCB bIsi (dCons (dVar 6) (dCons (dC (.ty "tuple")) dNil))))) (dTest (dOp dNe (dCB bRepr (dCons (dVar 6) dNil)) (dCB bRepr (dCons (dTup (dCons (dOp dIx (dVar 5) (dC (.int 0))) (dCons (dOp dIx (dVar 5) (dC (.int 1))) dNil))) dNil))))) (dRet (dC (.bl false))) dNext))))
  (dRet (dOp dEq (dCB bRepr (dCons (dVar 2) dNil)) (dVar 3)))))))
def bodies : Fn → (Fn → DSp) → (Fn → DSp) → DBody
  | .parts => b_parts
  | .with_parts => b_with_parts
  | .bound_names => b_bound_names
  | .put_in => b_put_in
  | .operated => b_operated
  | .is_value => b_is_value
  | .shape => b_shape
  | .quoted => b_quoted
  | .Run_init => b_Run_init
  | .Run_counted => b_Run_counted
  | .Run_begin => b_Run_begin
  | .Run_go_on => b_Run_go_on
  | .Run_single => b_Run_single
  | .Run_call => b_Run_call
  | .Run_ask => b_Run_ask
  | .Run_answer => b_Run_answer
  | .run_plain => b_run_plain
  | .law_state => b_law_state
  | .law_take => b_law_take
  | .law_kind => b_law_kind
  | .law_operations => b_law_operations
  | .law_leaf => b_law_leaf
  | .law_special => b_law_special
  | .law_asking => b_law_asking
  | .law_clause => b_law_clause
  | .law_handling => b_law_handling
  | .law_loop => b_law_loop
  | .law_tree => b_law_tree
  | .law_program => b_law_program
  | .law_find => b_law_find
  | .law_operate => b_law_operate
  | .law_into => b_law_into
  | .law_second => b_law_second
  | .law_asked => b_law_asked
  | .law_back => b_law_back
  | .law_shape => b_law_shape
  | .law_outcome => b_law_outcome
  | .law => fun _ _ _ => dNever
def nloc : Fn → Nat
  | .parts => 4
  | .with_parts => 6
  | .bound_names => 4
  | .put_in => 6
  | .operated => 4
  | .is_value => 1
  | .shape => 1
  | .quoted => 1
  | .Run_init => 3
  | .Run_counted => 1
  | .Run_begin => 2
  | .Run_go_on => 4
  | .Run_single => 3
  | .Run_call => 4
  | .Run_ask => 6
  | .Run_answer => 6
  | .run_plain => 3
  | .law_state => 3
  | .law_take => 6
  | .law_kind => 3
  | .law_operations => 5
  | .law_leaf => 6
  | .law_special => 8
  | .law_asking => 8
  | .law_clause => 14
  | .law_handling => 11
  | .law_loop => 11
  | .law_tree => 10
  | .law_program => 6
  | .law_find => 2
  | .law_operate => 4
  | .law_into => 4
  | .law_second => 8
  | .law_asked => 11
  | .law_back => 8
  | .law_shape => 1
  | .law_outcome => 9
  | .law => 7
def arity : Fn → Nat
  | .parts => 1
  | .with_parts => 2
  | .bound_names => 1
  | .put_in => 3
  | .operated => 3
  | .is_value => 1
  | .shape => 1
  | .quoted => 1
  | .Run_init => 3
  | .Run_counted => 1
  | .Run_begin => 1
  | .Run_go_on => 1
  | .Run_single => 3
  | .Run_call => 3
  | .Run_ask => 3
  | .Run_answer => 4
  | .run_plain => 2
  | .law_state => 1
  | .law_take => 2
  | .law_kind => 2
  | .law_operations => 1
  | .law_leaf => 3
  | .law_special => 5
  | .law_asking => 5
  | .law_clause => 6
  | .law_handling => 5
  | .law_loop => 5
  | .law_tree => 5
  | .law_program => 1
  | .law_find => 2
  | .law_operate => 3
  | .law_into => 3
  | .law_second => 5
  | .law_asked => 4
  | .law_back => 3
  | .law_shape => 1
  | .law_outcome => 2
  | .law => 1
def pars : Fn → List Str
  | .parts => ["expression"]
  | .with_parts => ["expression", "inner"]
  | .bound_names => ["expression"]
  | .put_in => ["expression", "name", "tree"]
  | .operated => ["sign", "one", "two"]
  | .is_value => ["tree"]
  | .shape => ["value"]
  | .quoted => ["value"]
  | .Run_init => ["self", "expression", "steps"]
  | .Run_counted => ["self"]
  | .Run_begin => ["self"]
  | .Run_go_on => ["self"]
  | .Run_single => ["self", "head", "value"]
  | .Run_call => ["self", "function", "argument"]
  | .Run_ask => ["self", "name", "value"]
  | .Run_answer => ["self", "place", "clause", "value"]
  | .run_plain => ["expression", "steps"]
  | .law_state => ["_law_script"]
  | .law_take => ["_law_state_here", "_law_most"]
  | .law_kind => ["_law_state_here", "_law_depth"]
  | .law_operations => ["_law_state_here"]
  | .law_leaf => ["_law_state_here", "_law_known", "_law_wanted"]
  | .law_special => ["_law_state_here", "_law_ops", "_law_known", "_law_wanted", "_law_depth"]
  | .law_asking => ["_law_state_here", "_law_ops", "_law_known", "_law_wanted", "_law_depth"]
  | .law_clause => ["_law_state_here", "_law_ops", "_law_known", "_law_wanted", "_law_depth", "_law_operation"]
  | .law_handling => ["_law_state_here", "_law_ops", "_law_known", "_law_wanted", "_law_depth"]
  | .law_loop => ["_law_state_here", "_law_ops", "_law_known", "_law_wanted", "_law_depth"]
  | .law_tree => ["_law_state_here", "_law_ops", "_law_known", "_law_wanted", "_law_depth"]
  | .law_program => ["_law_state_here"]
  | .law_find => ["_law_env", "_law_name"]
  | .law_operate => ["_law_sign", "_law_one", "_law_two"]
  | .law_into => ["_law_tree_here", "_law_env", "_law_frames"]
  | .law_second => ["_law_world", "_law_frames", "_law_tree_here", "_law_first", "_law_value"]
  | .law_asked => ["_law_world", "_law_frames", "_law_name", "_law_value"]
  | .law_back => ["_law_world", "_law_frames", "_law_value"]
  | .law_shape => ["_law_value"]
  | .law_outcome => ["_law_tree_here", "_law_steps"]
  | .law => ["_law_script"]
abbrev go (k : Nat) (f : Fn) : DSp := wrk nloc bodies k f
abbrev goM (k : Nat) (f : Fn) : DSp := wrM nloc bodies k f
theorem go_parts {k : Nat} {ds : List D} {S : Store} {Q : QE} {E : XQ} : go (k + 1) .parts ds S Q E = b_parts (go k) (goM k) (fun x _ S1 => E x S1) { nx := fun _ S1 => Q .non S1, rt := Q } (startD 4 ds) S := by rw [go, wrk_succ]; rfl
theorem go_with_parts {k : Nat} {ds : List D} {S : Store} {Q : QE} {E : XQ} : go (k + 1) .with_parts ds S Q E = b_with_parts (go k) (goM k) (fun x _ S1 => E x S1) { nx := fun _ S1 => Q .non S1, rt := Q } (startD 6 ds) S := by rw [go, wrk_succ]; rfl
theorem go_bound_names {k : Nat} {ds : List D} {S : Store} {Q : QE} {E : XQ} : go (k + 1) .bound_names ds S Q E = b_bound_names (go k) (goM k) (fun x _ S1 => E x S1) { nx := fun _ S1 => Q .non S1, rt := Q } (startD 4 ds) S := by rw [go, wrk_succ]; rfl
theorem go_put_in {k : Nat} {ds : List D} {S : Store} {Q : QE} {E : XQ} : go (k + 1) .put_in ds S Q E = b_put_in (go k) (goM k) (fun x _ S1 => E x S1) { nx := fun _ S1 => Q .non S1, rt := Q } (startD 6 ds) S := by rw [go, wrk_succ]; rfl
theorem go_operated {k : Nat} {ds : List D} {S : Store} {Q : QE} {E : XQ} : go (k + 1) .operated ds S Q E = b_operated (go k) (goM k) (fun x _ S1 => E x S1) { nx := fun _ S1 => Q .non S1, rt := Q } (startD 4 ds) S := by rw [go, wrk_succ]; rfl
theorem go_is_value {k : Nat} {ds : List D} {S : Store} {Q : QE} {E : XQ} : go (k + 1) .is_value ds S Q E = b_is_value (go k) (goM k) (fun x _ S1 => E x S1) { nx := fun _ S1 => Q .non S1, rt := Q } (startD 1 ds) S := by rw [go, wrk_succ]; rfl
theorem go_shape {k : Nat} {ds : List D} {S : Store} {Q : QE} {E : XQ} : go (k + 1) .shape ds S Q E = b_shape (go k) (goM k) (fun x _ S1 => E x S1) { nx := fun _ S1 => Q .non S1, rt := Q } (startD 1 ds) S := by rw [go, wrk_succ]; rfl
theorem go_quoted {k : Nat} {ds : List D} {S : Store} {Q : QE} {E : XQ} : go (k + 1) .quoted ds S Q E = b_quoted (go k) (goM k) (fun x _ S1 => E x S1) { nx := fun _ S1 => Q .non S1, rt := Q } (startD 1 ds) S := by rw [go, wrk_succ]; rfl
theorem go_Run_init {k : Nat} {ds : List D} {S : Store} {Q : QE} {E : XQ} : go (k + 1) .Run_init ds S Q E = b_Run_init (go k) (goM k) (fun x _ S1 => E x S1) { nx := fun _ S1 => Q .non S1, rt := Q } (startD 3 ds) S := by rw [go, wrk_succ]; rfl
theorem go_Run_counted {k : Nat} {ds : List D} {S : Store} {Q : QE} {E : XQ} : go (k + 1) .Run_counted ds S Q E = b_Run_counted (go k) (goM k) (fun x _ S1 => E x S1) { nx := fun _ S1 => Q .non S1, rt := Q } (startD 1 ds) S := by rw [go, wrk_succ]; rfl
theorem go_Run_begin {k : Nat} {ds : List D} {S : Store} {Q : QE} {E : XQ} : go (k + 1) .Run_begin ds S Q E = b_Run_begin (go k) (goM k) (fun x _ S1 => E x S1) { nx := fun _ S1 => Q .non S1, rt := Q } (startD 2 ds) S := by rw [go, wrk_succ]; rfl
theorem go_Run_go_on {k : Nat} {ds : List D} {S : Store} {Q : QE} {E : XQ} : go (k + 1) .Run_go_on ds S Q E = b_Run_go_on (go k) (goM k) (fun x _ S1 => E x S1) { nx := fun _ S1 => Q .non S1, rt := Q } (startD 4 ds) S := by rw [go, wrk_succ]; rfl
theorem go_Run_single {k : Nat} {ds : List D} {S : Store} {Q : QE} {E : XQ} : go (k + 1) .Run_single ds S Q E = b_Run_single (go k) (goM k) (fun x _ S1 => E x S1) { nx := fun _ S1 => Q .non S1, rt := Q } (startD 3 ds) S := by rw [go, wrk_succ]; rfl
theorem go_Run_call {k : Nat} {ds : List D} {S : Store} {Q : QE} {E : XQ} : go (k + 1) .Run_call ds S Q E = b_Run_call (go k) (goM k) (fun x _ S1 => E x S1) { nx := fun _ S1 => Q .non S1, rt := Q } (startD 4 ds) S := by rw [go, wrk_succ]; rfl
theorem go_Run_ask {k : Nat} {ds : List D} {S : Store} {Q : QE} {E : XQ} : go (k + 1) .Run_ask ds S Q E = b_Run_ask (go k) (goM k) (fun x _ S1 => E x S1) { nx := fun _ S1 => Q .non S1, rt := Q } (startD 6 ds) S := by rw [go, wrk_succ]; rfl
theorem go_Run_answer {k : Nat} {ds : List D} {S : Store} {Q : QE} {E : XQ} : go (k + 1) .Run_answer ds S Q E = b_Run_answer (go k) (goM k) (fun x _ S1 => E x S1) { nx := fun _ S1 => Q .non S1, rt := Q } (startD 6 ds) S := by rw [go, wrk_succ]; rfl
theorem go_run_plain {k : Nat} {ds : List D} {S : Store} {Q : QE} {E : XQ} : go (k + 1) .run_plain ds S Q E = b_run_plain (go k) (goM k) (fun x _ S1 => E x S1) { nx := fun _ S1 => Q .non S1, rt := Q } (startD 3 ds) S := by rw [go, wrk_succ]; rfl
theorem go_law_state {k : Nat} {ds : List D} {S : Store} {Q : QE} {E : XQ} : go (k + 1) .law_state ds S Q E = b_law_state (go k) (goM k) (fun x _ S1 => E x S1) { nx := fun _ S1 => Q .non S1, rt := Q } (startD 3 ds) S := by rw [go, wrk_succ]; rfl
theorem go_law_take {k : Nat} {ds : List D} {S : Store} {Q : QE} {E : XQ} : go (k + 1) .law_take ds S Q E = b_law_take (go k) (goM k) (fun x _ S1 => E x S1) { nx := fun _ S1 => Q .non S1, rt := Q } (startD 6 ds) S := by rw [go, wrk_succ]; rfl
theorem go_law_kind {k : Nat} {ds : List D} {S : Store} {Q : QE} {E : XQ} : go (k + 1) .law_kind ds S Q E = b_law_kind (go k) (goM k) (fun x _ S1 => E x S1) { nx := fun _ S1 => Q .non S1, rt := Q } (startD 3 ds) S := by rw [go, wrk_succ]; rfl
theorem go_law_operations {k : Nat} {ds : List D} {S : Store} {Q : QE} {E : XQ} : go (k + 1) .law_operations ds S Q E = b_law_operations (go k) (goM k) (fun x _ S1 => E x S1) { nx := fun _ S1 => Q .non S1, rt := Q } (startD 5 ds) S := by rw [go, wrk_succ]; rfl
theorem go_law_leaf {k : Nat} {ds : List D} {S : Store} {Q : QE} {E : XQ} : go (k + 1) .law_leaf ds S Q E = b_law_leaf (go k) (goM k) (fun x _ S1 => E x S1) { nx := fun _ S1 => Q .non S1, rt := Q } (startD 6 ds) S := by rw [go, wrk_succ]; rfl
theorem go_law_special {k : Nat} {ds : List D} {S : Store} {Q : QE} {E : XQ} : go (k + 1) .law_special ds S Q E = b_law_special (go k) (goM k) (fun x _ S1 => E x S1) { nx := fun _ S1 => Q .non S1, rt := Q } (startD 8 ds) S := by rw [go, wrk_succ]; rfl
theorem go_law_asking {k : Nat} {ds : List D} {S : Store} {Q : QE} {E : XQ} : go (k + 1) .law_asking ds S Q E = b_law_asking (go k) (goM k) (fun x _ S1 => E x S1) { nx := fun _ S1 => Q .non S1, rt := Q } (startD 8 ds) S := by rw [go, wrk_succ]; rfl
theorem go_law_clause {k : Nat} {ds : List D} {S : Store} {Q : QE} {E : XQ} : go (k + 1) .law_clause ds S Q E = b_law_clause (go k) (goM k) (fun x _ S1 => E x S1) { nx := fun _ S1 => Q .non S1, rt := Q } (startD 14 ds) S := by rw [go, wrk_succ]; rfl
theorem go_law_handling {k : Nat} {ds : List D} {S : Store} {Q : QE} {E : XQ} : go (k + 1) .law_handling ds S Q E = b_law_handling (go k) (goM k) (fun x _ S1 => E x S1) { nx := fun _ S1 => Q .non S1, rt := Q } (startD 11 ds) S := by rw [go, wrk_succ]; rfl
theorem go_law_loop {k : Nat} {ds : List D} {S : Store} {Q : QE} {E : XQ} : go (k + 1) .law_loop ds S Q E = b_law_loop (go k) (goM k) (fun x _ S1 => E x S1) { nx := fun _ S1 => Q .non S1, rt := Q } (startD 11 ds) S := by rw [go, wrk_succ]; rfl
theorem go_law_tree {k : Nat} {ds : List D} {S : Store} {Q : QE} {E : XQ} : go (k + 1) .law_tree ds S Q E = b_law_tree (go k) (goM k) (fun x _ S1 => E x S1) { nx := fun _ S1 => Q .non S1, rt := Q } (startD 10 ds) S := by rw [go, wrk_succ]; rfl
theorem go_law_program {k : Nat} {ds : List D} {S : Store} {Q : QE} {E : XQ} : go (k + 1) .law_program ds S Q E = b_law_program (go k) (goM k) (fun x _ S1 => E x S1) { nx := fun _ S1 => Q .non S1, rt := Q } (startD 6 ds) S := by rw [go, wrk_succ]; rfl
theorem go_law_find {k : Nat} {ds : List D} {S : Store} {Q : QE} {E : XQ} : go (k + 1) .law_find ds S Q E = b_law_find (go k) (goM k) (fun x _ S1 => E x S1) { nx := fun _ S1 => Q .non S1, rt := Q } (startD 2 ds) S := by rw [go, wrk_succ]; rfl
theorem go_law_operate {k : Nat} {ds : List D} {S : Store} {Q : QE} {E : XQ} : go (k + 1) .law_operate ds S Q E = b_law_operate (go k) (goM k) (fun x _ S1 => E x S1) { nx := fun _ S1 => Q .non S1, rt := Q } (startD 4 ds) S := by rw [go, wrk_succ]; rfl
theorem go_law_into {k : Nat} {ds : List D} {S : Store} {Q : QE} {E : XQ} : go (k + 1) .law_into ds S Q E = b_law_into (go k) (goM k) (fun x _ S1 => E x S1) { nx := fun _ S1 => Q .non S1, rt := Q } (startD 4 ds) S := by rw [go, wrk_succ]; rfl
theorem go_law_second {k : Nat} {ds : List D} {S : Store} {Q : QE} {E : XQ} : go (k + 1) .law_second ds S Q E = b_law_second (go k) (goM k) (fun x _ S1 => E x S1) { nx := fun _ S1 => Q .non S1, rt := Q } (startD 8 ds) S := by rw [go, wrk_succ]; rfl
theorem go_law_asked {k : Nat} {ds : List D} {S : Store} {Q : QE} {E : XQ} : go (k + 1) .law_asked ds S Q E = b_law_asked (go k) (goM k) (fun x _ S1 => E x S1) { nx := fun _ S1 => Q .non S1, rt := Q } (startD 11 ds) S := by rw [go, wrk_succ]; rfl
theorem go_law_back {k : Nat} {ds : List D} {S : Store} {Q : QE} {E : XQ} : go (k + 1) .law_back ds S Q E = b_law_back (go k) (goM k) (fun x _ S1 => E x S1) { nx := fun _ S1 => Q .non S1, rt := Q } (startD 8 ds) S := by rw [go, wrk_succ]; rfl
theorem go_law_shape {k : Nat} {ds : List D} {S : Store} {Q : QE} {E : XQ} : go (k + 1) .law_shape ds S Q E = b_law_shape (go k) (goM k) (fun x _ S1 => E x S1) { nx := fun _ S1 => Q .non S1, rt := Q } (startD 1 ds) S := by rw [go, wrk_succ]; rfl
theorem go_law_outcome {k : Nat} {ds : List D} {S : Store} {Q : QE} {E : XQ} : go (k + 1) .law_outcome ds S Q E = b_law_outcome (go k) (goM k) (fun x _ S1 => E x S1) { nx := fun _ S1 => Q .non S1, rt := Q } (startD 9 ds) S := by rw [go, wrk_succ]; rfl
def lawW (k : Nat) : DSp := runD 7 (b_law (go k) (goM k))
theorem go_law {k : Nat} {ds : List D} {S : Store} {Q : QE} {E : XQ} : lawW k ds S Q E = b_law (go k) (goM k) (fun x _ S1 => E x S1) { nx := fun _ S1 => Q .non S1, rt := Q } (startD 7 ds) S := rfl
/-! ### the facts of the top -/
structure Tx (K : PySem.W.Frag) (mg : Str → Option Value) (ca : Nat → Addr) (fa : Fn → Addr) (fd : Fn → FuncData) : Prop where
  f_parts : Fun K "parts" "parts" s_parts (fa .parts) (fd .parts)
  b_parts : Binds K (fd .parts) ["expression"] []
  g_parts : mg "parts" = some (.ref (fa .parts))
  f_with_parts : Fun K "with_parts" "with_parts" s_with_parts (fa .with_parts) (fd .with_parts)
  b_with_parts : Binds K (fd .with_parts) ["expression", "inner"] []
  g_with_parts : mg "with_parts" = some (.ref (fa .with_parts))
  f_bound_names : Fun K "bound_names" "bound_names" s_bound_names (fa .bound_names) (fd .bound_names)
  b_bound_names : Binds K (fd .bound_names) ["expression"] []
  g_bound_names : mg "bound_names" = some (.ref (fa .bound_names))
  f_put_in : Fun K "put_in" "put_in" s_put_in (fa .put_in) (fd .put_in)
  b_put_in : Binds K (fd .put_in) ["expression", "name", "tree"] []
  g_put_in : mg "put_in" = some (.ref (fa .put_in))
  f_operated : Fun K "operated" "operated" s_operated (fa .operated) (fd .operated)
  b_operated : Binds K (fd .operated) ["sign", "one", "two"] []
  g_operated : mg "operated" = some (.ref (fa .operated))
  f_is_value : Fun K "is_value" "is_value" s_is_value (fa .is_value) (fd .is_value)
  b_is_value : Binds K (fd .is_value) ["tree"] []
  g_is_value : mg "is_value" = some (.ref (fa .is_value))
  f_shape : Fun K "shape" "shape" s_shape (fa .shape) (fd .shape)
  b_shape : Binds K (fd .shape) ["value"] []
  g_shape : mg "shape" = some (.ref (fa .shape))
  f_quoted : Fun K "quoted" "quoted" s_quoted (fa .quoted) (fd .quoted)
  b_quoted : Binds K (fd .quoted) ["value"] []
  g_quoted : mg "quoted" = some (.ref (fa .quoted))
  f_Run_init : Fun K "__init__" "Run.__init__" s_Run_init (fa .Run_init) (fd .Run_init)
  b_Run_init : Binds K (fd .Run_init) ["self", "expression", "steps"] []
  f_Run_counted : Fun K "counted" "Run.counted" s_Run_counted (fa .Run_counted) (fd .Run_counted)
  b_Run_counted : Binds K (fd .Run_counted) ["self"] []
  f_Run_begin : Fun K "begin" "Run.begin" s_Run_begin (fa .Run_begin) (fd .Run_begin)
  b_Run_begin : Binds K (fd .Run_begin) ["self"] []
  f_Run_go_on : Fun K "go_on" "Run.go_on" s_Run_go_on (fa .Run_go_on) (fd .Run_go_on)
  b_Run_go_on : Binds K (fd .Run_go_on) ["self"] []
  f_Run_single : Fun K "single" "Run.single" s_Run_single (fa .Run_single) (fd .Run_single)
  b_Run_single : Binds K (fd .Run_single) ["self", "head", "value"] []
  f_Run_call : Fun K "call" "Run.call" s_Run_call (fa .Run_call) (fd .Run_call)
  b_Run_call : Binds K (fd .Run_call) ["self", "function", "argument"] []
  f_Run_ask : Fun K "ask" "Run.ask" s_Run_ask (fa .Run_ask) (fd .Run_ask)
  b_Run_ask : Binds K (fd .Run_ask) ["self", "name", "value"] []
  f_Run_answer : Fun K "answer" "Run.answer" s_Run_answer (fa .Run_answer) (fd .Run_answer)
  b_Run_answer : Binds K (fd .Run_answer) ["self", "place", "clause", "value"] []
  f_run_plain : Fun K "run_plain" "run_plain" s_run_plain (fa .run_plain) (fd .run_plain)
  b_run_plain : Binds K (fd .run_plain) ["expression", "steps"] []
  g_run_plain : mg "run_plain" = some (.ref (fa .run_plain))
  f_law_state : Fun K "_law_state" "_law_state" s_law_state (fa .law_state) (fd .law_state)
  b_law_state : Binds K (fd .law_state) ["_law_script"] []
  g_law_state : mg "_law_state" = some (.ref (fa .law_state))
  f_law_take : Fun K "_law_take" "_law_take" s_law_take (fa .law_take) (fd .law_take)
  b_law_take : Binds K (fd .law_take) ["_law_state_here", "_law_most"] []
  g_law_take : mg "_law_take" = some (.ref (fa .law_take))
  f_law_kind : Fun K "_law_kind" "_law_kind" s_law_kind (fa .law_kind) (fd .law_kind)
  b_law_kind : Binds K (fd .law_kind) ["_law_state_here", "_law_depth"] []
  g_law_kind : mg "_law_kind" = some (.ref (fa .law_kind))
  f_law_operations : Fun K "_law_operations" "_law_operations" s_law_operations (fa .law_operations) (fd .law_operations)
  b_law_operations : Binds K (fd .law_operations) ["_law_state_here"] []
  g_law_operations : mg "_law_operations" = some (.ref (fa .law_operations))
  f_law_leaf : Fun K "_law_leaf" "_law_leaf" s_law_leaf (fa .law_leaf) (fd .law_leaf)
  b_law_leaf : Binds K (fd .law_leaf) ["_law_state_here", "_law_known", "_law_wanted"] []
  g_law_leaf : mg "_law_leaf" = some (.ref (fa .law_leaf))
  f_law_special : Fun K "_law_special" "_law_special" s_law_special (fa .law_special) (fd .law_special)
  b_law_special : Binds K (fd .law_special) ["_law_state_here", "_law_ops", "_law_known", "_law_wanted", "_law_depth"] []
  g_law_special : mg "_law_special" = some (.ref (fa .law_special))
  f_law_asking : Fun K "_law_asking" "_law_asking" s_law_asking (fa .law_asking) (fd .law_asking)
  b_law_asking : Binds K (fd .law_asking) ["_law_state_here", "_law_ops", "_law_known", "_law_wanted", "_law_depth"] []
  g_law_asking : mg "_law_asking" = some (.ref (fa .law_asking))
  f_law_clause : Fun K "_law_clause" "_law_clause" s_law_clause (fa .law_clause) (fd .law_clause)
  b_law_clause : Binds K (fd .law_clause) ["_law_state_here", "_law_ops", "_law_known", "_law_wanted", "_law_depth", "_law_operation"] []
  g_law_clause : mg "_law_clause" = some (.ref (fa .law_clause))
  f_law_handling : Fun K "_law_handling" "_law_handling" s_law_handling (fa .law_handling) (fd .law_handling)
  b_law_handling : Binds K (fd .law_handling) ["_law_state_here", "_law_ops", "_law_known", "_law_wanted", "_law_depth"] []
  g_law_handling : mg "_law_handling" = some (.ref (fa .law_handling))
  f_law_loop : Fun K "_law_loop" "_law_loop" s_law_loop (fa .law_loop) (fd .law_loop)
  b_law_loop : Binds K (fd .law_loop) ["_law_state_here", "_law_ops", "_law_known", "_law_wanted", "_law_depth"] []
  g_law_loop : mg "_law_loop" = some (.ref (fa .law_loop))
  f_law_tree : Fun K "_law_tree" "_law_tree" s_law_tree (fa .law_tree) (fd .law_tree)
  b_law_tree : Binds K (fd .law_tree) ["_law_state_here", "_law_ops", "_law_known", "_law_wanted", "_law_depth"] []
  g_law_tree : mg "_law_tree" = some (.ref (fa .law_tree))
  f_law_program : Fun K "_law_program" "_law_program" s_law_program (fa .law_program) (fd .law_program)
  b_law_program : Binds K (fd .law_program) ["_law_state_here"] []
  g_law_program : mg "_law_program" = some (.ref (fa .law_program))
  f_law_find : Fun K "_law_find" "_law_find" s_law_find (fa .law_find) (fd .law_find)
  b_law_find : Binds K (fd .law_find) ["_law_env", "_law_name"] []
  g_law_find : mg "_law_find" = some (.ref (fa .law_find))
  f_law_operate : Fun K "_law_operate" "_law_operate" s_law_operate (fa .law_operate) (fd .law_operate)
  b_law_operate : Binds K (fd .law_operate) ["_law_sign", "_law_one", "_law_two"] []
  g_law_operate : mg "_law_operate" = some (.ref (fa .law_operate))
  f_law_into : Fun K "_law_into" "_law_into" s_law_into (fa .law_into) (fd .law_into)
  b_law_into : Binds K (fd .law_into) ["_law_tree_here", "_law_env", "_law_frames"] []
  g_law_into : mg "_law_into" = some (.ref (fa .law_into))
  f_law_second : Fun K "_law_second" "_law_second" s_law_second (fa .law_second) (fd .law_second)
  b_law_second : Binds K (fd .law_second) ["_law_world", "_law_frames", "_law_tree_here", "_law_first", "_law_value"] []
  g_law_second : mg "_law_second" = some (.ref (fa .law_second))
  f_law_asked : Fun K "_law_asked" "_law_asked" s_law_asked (fa .law_asked) (fd .law_asked)
  b_law_asked : Binds K (fd .law_asked) ["_law_world", "_law_frames", "_law_name", "_law_value"] []
  g_law_asked : mg "_law_asked" = some (.ref (fa .law_asked))
  f_law_back : Fun K "_law_back" "_law_back" s_law_back (fa .law_back) (fd .law_back)
  b_law_back : Binds K (fd .law_back) ["_law_world", "_law_frames", "_law_value"] []
  g_law_back : mg "_law_back" = some (.ref (fa .law_back))
  f_law_shape : Fun K "_law_shape" "_law_shape" s_law_shape (fa .law_shape) (fd .law_shape)
  b_law_shape : Binds K (fd .law_shape) ["_law_value"] []
  g_law_shape : mg "_law_shape" = some (.ref (fa .law_shape))
  f_law_outcome : Fun K "_law_outcome" "_law_outcome" s_law_outcome (fa .law_outcome) (fd .law_outcome)
  b_law_outcome : Binds K (fd .law_outcome) ["_law_tree_here", "_law_steps"] []
  g_law_outcome : mg "_law_outcome" = some (.ref (fa .law_outcome))
  f_law : Fun K "law" "law" s_law (fa .law) (fd .law)
  b_law : Binds K (fd .law) ["_law_script"] []
  g_law : mg "law" = some (.ref (fa .law))
  c_Run : Cls K (ca 0)
  gc_Run : mg "Run" = some (.ref (ca 0))
  mk_Run : Mk K (ca 0) (fa .Run_init)
  k_HALF : Konst K mg "HALF" c_HALF
  k_LEAVES : Konst K mg "LEAVES" c_LEAVES
  k_UNIT : Konst K mg "UNIT" c_UNIT
  m_Run_answer : Meth K (ca 0) "answer" (fa .Run_answer)
  m_Run_ask : Meth K (ca 0) "ask" (fa .Run_ask)
  m_Run_begin : Meth K (ca 0) "begin" (fa .Run_begin)
  m_Run_call : Meth K (ca 0) "call" (fa .Run_call)
  m_Run_counted : Meth K (ca 0) "counted" (fa .Run_counted)
  m_Run_go_on : Meth K (ca 0) "go_on" (fa .Run_go_on)
  m_Run_single : Meth K (ca 0) "single" (fa .Run_single)
  n_Run_current : NoAttr K (ca 0) "current"
  n_Run_end : NoAttr K (ca 0) "end"
  n_Run_frames : NoAttr K (ca 0) "frames"
  n_Run_left : NoAttr K (ca 0) "left"
  n_Run_prints : NoAttr K (ca 0) "prints"
  z_abs : mg "abs" = none
  z_int : mg "int" = none
  z_isinstance : mg "isinstance" = none
  z_len : mg "len" = none
  z_list : mg "list" = none
  z_range : mg "range" = none
  z_repr : mg "repr" = none
  z_reversed : mg "reversed" = none
  z_str : mg "str" = none
  z_tuple : mg "tuple" = none
  z_zip : mg "zip" = none
section
variable {P : Program} {w : World} {K : PySem.W.Frag} {mg : Str → Option Value} {base : Heap} {ca : Nat → Addr} {fa : Fn → Addr} {fd : Fn → FuncData} {k : Nat} {W M : Fn → DSp}
abbrev H1s (P : Program) (w : World) (K : PySem.W.Frag) (mg : Str → Option Value) (base : Heap) (ca : Nat → Addr) (fa : Fn → Addr) (fd : Fn → FuncData) (k : Nat) (W : Fn → DSp) : Prop := ∀ g, FnOk P w K mg base (L2.CX P w) k (fa g) (fd g) (pars g) (lift K ca (arity g) (W g))
theorem sc_parts : FnScope N_parts ["expression"] (defScope s_parts) := ⟨rfl, rfl, rfl, by decide +kernel, rfl, by decide +kernel, by decide +kernel⟩
theorem ok_parts (T : Tx K mg ca fa fd) (H1 : H1s P w K mg base ca fa fd (k + 1) W) (H0 : H1s P w K mg base ca fa fd k M) : FnOk P w K mg base (L2.CX P w) (k + 2) (fa .parts) (fd .parts) ["expression"] (lift K ca 1 (runD 4 (b_parts W M))) := by
  refine def_ok T.f_parts sc_parts rfl (b_parts W M) fun cdv A outer s H E B eB hr G => ?_
  subst eB
  exact (pds_cons (pds_set 1 G.nd (pd_ix (hu_of hr) (pd_var 0) pd_int))
  (pds_cons (pds_if (pdt_cmp (op_inD (hu_of hr)) (vr_in false) (pd_var 1) (pd_const T.k_LEAVES rfl) rfl) (pds_one (pds_ret (pd_lst pda_nil))) pds_nil)
  (pds_cons (pds_if (pdt_cmp (op_inD (hu_of hr)) (vr_in false) (pd_var 1) (pd_tup (pda_cons pd_str (pda_cons pd_str pda_nil))) rfl) (pds_one (pds_ret (pd_lst (pda_cons (pd_ix (hu_of hr) (pd_var 0) (pd_un un_neg vr_neg pd_int)) pda_nil)))) pds_nil)
  (pds_cons (pds_if (pdt_cmp (op_inD (hu_of hr)) (vr_in false) (pd_var 1) (pd_tup (pda_cons pd_str (pda_cons pd_str pda_nil))) rfl) (pds_one (pds_ret (pd_lst (pda_cons (pd_ix (hu_of hr) (pd_var 0) pd_int) (pda_cons (pd_ix (hu_of hr) (pd_var 0) pd_int) pda_nil))))) pds_nil)
  (pds_cons (pds_if (pdt_cmp (op_eqD hr.units) vr_eq (pd_var 1) pd_str (nomark _)) (pds_one (pds_ret (pd_lst (pda_cons (pd_ix (hu_of hr) (pd_var 0) pd_int) pda_nil)))) pds_nil)
  (pds_cons (pds_if (pdt_cmp (op_eqD hr.units) vr_eq (pd_var 1) pd_str (nomark _)) (pds_cons (pds_setLc (i := 2) (c := (.one 3)) rfl G.nd rfl rfl (sw_true rfl rfl rfl (by decide +kernel)) (pdi_tup (pd_ix (hu_of hr) (pd_var 0) pd_int)) (blkOk_by (own := [("clause", 3)]) (N := N_parts) (sc := defScope s_parts) (by decide +kernel)) (fun _ _ _ _ _ => pg_name (i := 3) G.nd rfl (Or.inl rfl)) (fun _ _ _ _ _ => (pd_ix (hu_of hr) (pd_var 3) pd_int)) (by decide) (fun _ => rfl))
  (pds_one (pds_ret (pd_op op_addD vr_add (pd_lst (pda_cons (pd_ix (hu_of hr) (pd_var 0) pd_int) (pda_cons (pd_ix (hu_of hr) (pd_ix (hu_of hr) (pd_var 0) pd_int) pd_int) pda_nil))) (pd_var 2))))) pds_nil)
  (pds_one (pds_ret (pd_callTy (x := "list") (call_listX rfl) vrc_listX rfl T.z_list (by decide +kernel) (pda_cons (pd_sl (pd_var 0) (pdo_some pd_int) pdo_none) pda_nil))))))))))
theorem sc_with_parts : FnScope N_with_parts ["expression", "inner"] (defScope s_with_parts) := ⟨rfl, rfl, rfl, by decide +kernel, rfl, by decide +kernel, by decide +kernel⟩
theorem ok_with_parts (T : Tx K mg ca fa fd) (H1 : H1s P w K mg base ca fa fd (k + 1) W) (H0 : H1s P w K mg base ca fa fd k M) : FnOk P w K mg base (L2.CX P w) (k + 2) (fa .with_parts) (fd .with_parts) ["expression", "inner"] (lift K ca 2 (runD 6 (b_with_parts W M))) := by
  refine def_ok T.f_with_parts sc_with_parts rfl (b_with_parts W M) fun cdv A outer s H E B eB hr G => ?_
  subst eB
  exact (pds_cons (pds_set 2 G.nd (pd_ix (hu_of hr) (pd_var 0) pd_int))
  (pds_cons (pds_if (pdt_cmp (op_inD (hu_of hr)) (vr_in false) (pd_var 2) (pd_const T.k_LEAVES rfl) rfl) (pds_one (pds_ret (pd_var 0))) pds_nil)
  (pds_cons (pds_if (pdt_cmp (op_inD (hu_of hr)) (vr_in false) (pd_var 2) (pd_tup (pda_cons pd_str (pda_cons pd_str pda_nil))) rfl) (pds_one (pds_ret (pd_op op_addD vr_add (pd_sl (pd_var 0) pdo_none (pdo_some (pd_un un_neg vr_neg pd_int))) (pd_tup (pda_cons (pd_ix (hu_of hr) (pd_var 1) pd_int) pda_nil))))) pds_nil)
  (pds_cons (pds_if (pdt_cmp (op_inD (hu_of hr)) (vr_in false) (pd_var 2) (pd_tup (pda_cons pd_str (pda_cons pd_str pda_nil))) rfl) (pds_one (pds_ret (pd_op op_addD vr_add (pd_sl (pd_var 0) pdo_none (pdo_some pd_int)) (pd_tup (pda_cons (pd_ix (hu_of hr) (pd_var 1) pd_int) (pda_cons (pd_ix (hu_of hr) (pd_var 1) pd_int) pda_nil)))))) pds_nil)
  (pds_cons (pds_if (pdt_cmp (op_eqD hr.units) vr_eq (pd_var 2) pd_str (nomark _)) (pds_one (pds_ret (pd_tup (pda_cons pd_str (pda_cons (pd_ix (hu_of hr) (pd_var 0) pd_int) (pda_cons (pd_ix (hu_of hr) (pd_var 1) pd_int) pda_nil)))))) pds_nil)
  (pds_cons (pds_if (pdt_cmp (op_eqD hr.units) vr_eq (pd_var 2) pd_str (nomark _)) (pds_cons (pds_set 3 G.nd (pd_lstM pda_nil))
  (pds_cons (pds_for G.ow rfl (pdi_zipT rfl T.z_zip (pda_cons (pd_ix (hu_of hr) (pd_var 0) pd_int) (pda_cons (pd_sl (pd_var 1) (pdo_some pd_int) pdo_none) pda_nil))) (pdg_tup rfl (pdgs_cons (pdg_name 4 G.nd) (pdgs_cons (pdg_name 5 G.nd) pdgs_nil))) (pds_one (pds_expr (pd_bm PySem.F.plainAttrs_list PySem.F.slot_list_append PySem.F.type_list_append mt_append vrm_append (pd_var 3) (pda_cons (pd_op op_addD vr_add (pd_sl (pd_var 4) pdo_none (pdo_some pd_int)) (pd_tup (pda_cons (pd_var 5) pda_nil))) pda_nil)))))
  (pds_one (pds_ret (pd_tup (pda_cons pd_str (pda_cons (pd_ix (hu_of hr) (pd_var 1) pd_int) (pda_cons (pd_tup (pda_cons (pd_ix (hu_of hr) (pd_ix (hu_of hr) (pd_var 0) pd_int) pd_int) (pda_cons (pd_ix (hu_of hr) (pd_var 1) pd_int) pda_nil))) (pda_cons (pd_callTy (x := "tuple") call_tuple_of vrc_tuple rfl T.z_tuple (by decide +kernel) (pda_cons (pd_frz (pd_var 3)) pda_nil)) pda_nil))))))))) pds_nil)
  (pds_one (pds_ret (pd_op op_addD vr_add (pd_tup (pda_cons (pd_var 2) pda_nil)) (pd_callTy (x := "tuple") call_tuple_of vrc_tuple rfl T.z_tuple (by decide +kernel) (pda_cons (pd_var 1) pda_nil)))))))))))
theorem sc_bound_names : FnScope N_bound_names ["expression"] (defScope s_bound_names) := ⟨rfl, rfl, rfl, by decide +kernel, rfl, by decide +kernel, by decide +kernel⟩
theorem ok_bound_names (T : Tx K mg ca fa fd) (H1 : H1s P w K mg base ca fa fd (k + 1) W) (H0 : H1s P w K mg base ca fa fd k M) : FnOk P w K mg base (L2.CX P w) (k + 2) (fa .bound_names) (fd .bound_names) ["expression"] (lift K ca 1 (runD 4 (b_bound_names W M))) := by
  refine def_ok T.f_bound_names sc_bound_names rfl (b_bound_names W M) fun cdv A outer s H E B eB hr G => ?_
  subst eB
  exact (pds_cons (pds_set 1 G.nd (pd_ix (hu_of hr) (pd_var 0) pd_int))
  (pds_cons (pds_if (pdt_cmp (op_eqD hr.units) vr_eq (pd_var 1) pd_str (nomark _)) (pds_one (pds_ret (pd_lst (pda_cons (pd_lst (pda_cons (pd_ix (hu_of hr) (pd_var 0) pd_int) pda_nil)) pda_nil)))) pds_nil)
  (pds_cons (pds_if (pdt_cmp (op_eqD hr.units) vr_eq (pd_var 1) pd_str (nomark _)) (pds_one (pds_ret (pd_lst (pda_cons (pd_lst (pda_cons (pd_ix (hu_of hr) (pd_var 0) pd_int) (pda_cons (pd_ix (hu_of hr) (pd_var 0) pd_int) pda_nil))) pda_nil)))) pds_nil)
  (pds_cons (pds_if (pdt_cmp (op_eqD hr.units) vr_eq (pd_var 1) pd_str (nomark _)) (pds_one (pds_ret (pd_lst (pda_cons (pd_lst pda_nil) (pda_cons (pd_lst (pda_cons (pd_ix (hu_of hr) (pd_var 0) pd_int) pda_nil)) pda_nil))))) pds_nil)
  (pds_cons (pds_if (pdt_cmp (op_eqD hr.units) vr_eq (pd_var 1) pd_str (nomark _)) (pds_one (pds_ret (pd_op op_addD vr_add (pd_lst (pda_cons (pd_lst pda_nil) (pda_cons (pd_lst (pda_cons (pd_ix (hu_of hr) (pd_ix (hu_of hr) (pd_var 0) pd_int) pd_int) pda_nil)) pda_nil))) (pd_lc (c := (.one 2)) rfl G.nd (pdi_tup (pd_ix (hu_of hr) (pd_var 0) pd_int)) (blkOk_by (own := [("clause", 2)]) (N := N_bound_names) (sc := defScope s_bound_names) (by decide +kernel)) (fun _ _ _ _ _ => pg_name (i := 2) G.nd rfl (Or.inl rfl)) (fun _ _ _ _ _ => (pd_lst (pda_cons (pd_ix (hu_of hr) (pd_var 2) pd_int) (pda_cons (pd_ix (hu_of hr) (pd_var 2) pd_int) pda_nil)))) (by decide) (fun _ => rfl))))) pds_nil)
  (pds_one (pds_ret (pd_lc (c := (.one 3)) rfl G.nd (pdi_list (pd_call (x := "parts") (H1 .parts) hr rfl T.g_parts T.f_parts.kp T.b_parts G.tk (pda_cons (pd_var 0) pda_nil))) (blkOk_by (own := [("part", 3)]) (N := N_bound_names) (sc := defScope s_bound_names) (by decide +kernel)) (fun _ _ _ _ _ => pg_name (i := 3) G.nd rfl (Or.inl rfl)) (fun _ _ _ _ _ => (pd_lst pda_nil)) (by decide) (fun _ => rfl)))))))))
theorem sc_put_in : FnScope N_put_in ["expression", "name", "tree"] (defScope s_put_in) := ⟨rfl, rfl, rfl, by decide +kernel, rfl, by decide +kernel, by decide +kernel⟩
theorem ok_put_in (T : Tx K mg ca fa fd) (H1 : H1s P w K mg base ca fa fd (k + 1) W) (H0 : H1s P w K mg base ca fa fd k M) : FnOk P w K mg base (L2.CX P w) (k + 2) (fa .put_in) (fd .put_in) ["expression", "name", "tree"] (lift K ca 3 (runD 6 (b_put_in W M))) := by
  refine def_ok T.f_put_in sc_put_in rfl (b_put_in W M) fun cdv A outer s H E B eB hr G => ?_
  subst eB
  exact (pds_cons (pds_if (pdt_cmp (op_eqD hr.units) vr_eq (pd_ix (hu_of hr) (pd_var 0) pd_int) pd_str (nomark _)) (pds_cons (pds_if (pdt_cmp (op_eqD hr.units) vr_eq (pd_ix (hu_of hr) (pd_var 0) pd_int) (pd_var 1) (nomark _)) (pds_one (pds_ret (pd_var 2))) pds_nil)
  (pds_one (pds_ret (pd_var 0)))) pds_nil)
  (pds_cons (pds_set 3 G.nd (pd_lstM pda_nil))
  (pds_cons (pds_for G.ow rfl (pdi_zip rfl T.z_zip (pda_cons (pd_call (x := "parts") (H1 .parts) hr rfl T.g_parts T.f_parts.kp T.b_parts G.tk (pda_cons (pd_var 0) pda_nil)) (pda_cons (pd_call (x := "bound_names") (H1 .bound_names) hr rfl T.g_bound_names T.f_bound_names.kp T.b_bound_names G.tk (pda_cons (pd_var 0) pda_nil)) pda_nil))) (pdg_tup rfl (pdgs_cons (pdg_name 4 G.nd) (pdgs_cons (pdg_name 5 G.nd) pdgs_nil))) (pds_one (pds_if (pdt_cmp (op_inD (hu_of hr)) (vr_in false) (pd_var 1) (pd_var 5) rfl) (pds_one (pds_expr (pd_bm PySem.F.plainAttrs_list PySem.F.slot_list_append PySem.F.type_list_append mt_append vrm_append (pd_var 3) (pda_cons (pd_var 4) pda_nil)))) (pds_one (pds_expr (pd_bm PySem.F.plainAttrs_list PySem.F.slot_list_append PySem.F.type_list_append mt_append vrm_append (pd_var 3) (pda_cons (pd_call (x := "put_in") (H1 .put_in) hr rfl T.g_put_in T.f_put_in.kp T.b_put_in G.tk (pda_cons (pd_var 4) (pda_cons (pd_var 1) (pda_cons (pd_var 2) pda_nil)))) pda_nil)))))))
  (pds_one (pds_ret (pd_call (x := "with_parts") (H1 .with_parts) hr rfl T.g_with_parts T.f_with_parts.kp T.b_with_parts G.tk (pda_cons (pd_var 0) (pda_cons (pd_frz (pd_var 3)) pda_nil))))))))
theorem sc_operated : FnScope N_operated ["sign", "one", "two"] (defScope s_operated) := ⟨rfl, rfl, rfl, by decide +kernel, rfl, by decide +kernel, by decide +kernel⟩
theorem ok_operated (T : Tx K mg ca fa fd) (H1 : H1s P w K mg base ca fa fd (k + 1) W) (H0 : H1s P w K mg base ca fa fd k M) : FnOk P w K mg base (L2.CX P w) (k + 2) (fa .operated) (fd .operated) ["sign", "one", "two"] (lift K ca 3 (runD 4 (b_operated W M))) := by
  refine def_ok T.f_operated sc_operated rfl (b_operated W M) fun cdv A outer s H E B eB hr G => ?_
  subst eB
  exact (pds_cons (pds_if (pdt_cmp (op_eqD hr.units) vr_eq (pd_var 0) pd_str (nomark _)) (pds_one (pds_ret (pd_tup (pda_cons pd_str (pda_cons (pd_cmp op_lt vr_lt (pd_var 1) (pd_var 2) (nomark _)) pda_nil))))) pds_nil)
  (pds_cons (pds_if (pdt_cmp (op_eqD hr.units) vr_eq (pd_var 0) pd_str (nomark _)) (pds_one (pds_ret (pd_tup (pda_cons pd_str (pda_cons (pd_cmp (op_eqD hr.units) vr_eq (pd_var 1) (pd_var 2) (nomark _)) pda_nil))))) pds_nil)
  (pds_cons (pds_if (pdt_cmp (op_eqD hr.units) vr_eq (pd_var 0) pd_str (nomark _)) (pds_one (pds_set 3 G.nd (pd_op op_addD vr_add (pd_var 1) (pd_var 2)))) (pds_one (pds_if (pdt_cmp (op_eqD hr.units) vr_eq (pd_var 0) pd_str (nomark _)) (pds_one (pds_set 3 G.nd (pd_op op_sub vr_sub (pd_var 1) (pd_var 2)))) (pds_one (pds_set 3 G.nd (pd_op op_mul vr_mul (pd_var 1) (pd_var 2)))))))
  (pds_one (pds_ret (pd_tup (pda_cons pd_str (pda_cons (pd_op op_sub vr_sub (pd_op op_mod vr_mod (pd_callTy (x := "int") call_int1 vrc_int rfl T.z_int (by decide +kernel) (pda_cons (pd_op op_addD vr_add (pd_var 3) (pd_const T.k_HALF rfl)) pda_nil)) (pd_op op_mul vr_mul pd_int (pd_const T.k_HALF rfl))) (pd_const T.k_HALF rfl)) pda_nil))))))))
theorem sc_is_value : FnScope N_is_value ["tree"] (defScope s_is_value) := ⟨rfl, rfl, rfl, by decide +kernel, rfl, by decide +kernel, by decide +kernel⟩
theorem ok_is_value (T : Tx K mg ca fa fd) (H1 : H1s P w K mg base ca fa fd (k + 1) W) (H0 : H1s P w K mg base ca fa fd k M) : FnOk P w K mg base (L2.CX P w) (k + 2) (fa .is_value) (fd .is_value) ["tree"] (lift K ca 1 (runD 1 (b_is_value W M))) := by
  refine def_ok T.f_is_value sc_is_value rfl (b_is_value W M) fun cdv A outer s H E B eB hr G => ?_
  subst eB
  exact (pds_cons (pds_if (pdt_cmp (op_eqD hr.units) vr_eq (pd_ix (hu_of hr) (pd_var 0) pd_int) pd_str (nomark _)) (pds_one (pds_ret (pd_and (pd_call (x := "is_value") (H1 .is_value) hr rfl T.g_is_value T.f_is_value.kp T.b_is_value G.tk (pda_cons (pd_ix (hu_of hr) (pd_var 0) pd_int) pda_nil)) (pd_one (pd_call (x := "is_value") (H1 .is_value) hr rfl T.g_is_value T.f_is_value.kp T.b_is_value G.tk (pda_cons (pd_ix (hu_of hr) (pd_var 0) pd_int) pda_nil)))))) pds_nil)
  (pds_one (pds_ret (pd_cmp (op_inD (hu_of hr)) (vr_in false) (pd_ix (hu_of hr) (pd_var 0) pd_int) (pd_tup (pda_cons pd_str (pda_cons pd_str (pda_cons pd_str (pda_cons pd_str (pda_cons pd_str (pda_cons pd_str pda_nil))))))) rfl))))
theorem sc_shape : FnScope N_shape ["value"] (defScope s_shape) := ⟨rfl, rfl, rfl, by decide +kernel, rfl, by decide +kernel, by decide +kernel⟩
theorem ok_shape (T : Tx K mg ca fa fd) (H1 : H1s P w K mg base ca fa fd (k + 1) W) (H0 : H1s P w K mg base ca fa fd k M) : FnOk P w K mg base (L2.CX P w) (k + 2) (fa .shape) (fd .shape) ["value"] (lift K ca 1 (runD 1 (b_shape W M))) := by
  refine def_ok T.f_shape sc_shape rfl (b_shape W M) fun cdv A outer s H E B eB hr G => ?_
  subst eB
  exact (pds_cons (pds_if (pdt_cmp (op_eqD hr.units) vr_eq (pd_ix (hu_of hr) (pd_var 0) pd_int) pd_str (nomark _)) (pds_one (pds_ret (pd_tup (pda_cons pd_str (pda_cons (pd_ix (hu_of hr) (pd_var 0) pd_int) pda_nil))))) pds_nil)
  (pds_cons (pds_if (pdt_cmp (op_eqD hr.units) vr_eq (pd_ix (hu_of hr) (pd_var 0) pd_int) pd_str (nomark _)) (pds_one (pds_ret (pd_tup (pda_cons pd_str (pda_cons (pd_ix (hu_of hr) (pd_var 0) pd_int) pda_nil))))) pds_nil)
  (pds_cons (pds_if (pdt_cmp (op_eqD hr.units) vr_eq (pd_ix (hu_of hr) (pd_var 0) pd_int) pd_str (nomark _)) (pds_one (pds_ret (pd_tup (pda_cons pd_str (pda_cons (pd_call (x := "shape") (H1 .shape) hr rfl T.g_shape T.f_shape.kp T.b_shape G.tk (pda_cons (pd_ix (hu_of hr) (pd_var 0) pd_int) pda_nil)) (pda_cons (pd_call (x := "shape") (H1 .shape) hr rfl T.g_shape T.f_shape.kp T.b_shape G.tk (pda_cons (pd_ix (hu_of hr) (pd_var 0) pd_int) pda_nil)) pda_nil)))))) pds_nil)
  (pds_cons (pds_if (pdt_cmp (op_eqD hr.units) vr_eq (pd_ix (hu_of hr) (pd_var 0) pd_int) pd_str (nomark _)) (pds_one (pds_ret (pd_const T.k_UNIT rfl))) pds_nil)
  (pds_one (pds_ret (pd_tup (pda_cons pd_str pda_nil))))))))
theorem sc_quoted : FnScope N_quoted ["value"] (defScope s_quoted) := ⟨rfl, rfl, rfl, by decide +kernel, rfl, by decide +kernel, by decide +kernel⟩
theorem ok_quoted (T : Tx K mg ca fa fd) (H1 : H1s P w K mg base ca fa fd (k + 1) W) (H0 : H1s P w K mg base ca fa fd k M) : FnOk P w K mg base (L2.CX P w) (k + 2) (fa .quoted) (fd .quoted) ["value"] (lift K ca 1 (runD 1 (b_quoted W M))) := by
  refine def_ok T.f_quoted sc_quoted rfl (b_quoted W M) fun cdv A outer s H E B eB hr G => ?_
  subst eB
  exact (pds_one (pds_ret (pd_tup (pda_cons pd_str (pda_cons (pd_var 0) pda_nil)))))
theorem sc_Run_init : FnScope N_Run_init ["self", "expression", "steps"] (defScope s_Run_init) := ⟨rfl, rfl, rfl, by decide +kernel, rfl, by decide +kernel, by decide +kernel⟩
theorem ok_Run_init (T : Tx K mg ca fa fd) (H1 : H1s P w K mg base ca fa fd (k + 1) W) (H0 : H1s P w K mg base ca fa fd k M) : FnOk P w K mg base (L2.CX P w) (k + 2) (fa .Run_init) (fd .Run_init) ["self", "expression", "steps"] (lift K ca 3 (runD 3 (b_Run_init W M))) := by
  refine def_ok T.f_Run_init sc_Run_init rfl (b_Run_init W M) fun cdv A outer s H E B eB hr G => ?_
  subst eB
  exact (pds_cons (pds_fld (c := 0) (pd_var 0) (pd_var 1) T.c_Run T.n_Run_current)
  (pds_cons (pds_fld (c := 0) (pd_var 0) (pd_lstM pda_nil) T.c_Run T.n_Run_frames)
  (pds_cons (pds_fld (c := 0) (pd_var 0) (pd_var 2) T.c_Run T.n_Run_left)
  (pds_cons (pds_fld (c := 0) (pd_var 0) (pd_lstM pda_nil) T.c_Run T.n_Run_prints)
  (pds_one (pds_fld (c := 0) (pd_var 0) pd_non T.c_Run T.n_Run_end))))))
theorem sc_Run_counted : FnScope N_Run_counted ["self"] (defScope s_Run_counted) := ⟨rfl, rfl, rfl, by decide +kernel, rfl, by decide +kernel, by decide +kernel⟩
theorem ok_Run_counted (T : Tx K mg ca fa fd) (H1 : H1s P w K mg base ca fa fd (k + 1) W) (H0 : H1s P w K mg base ca fa fd k M) : FnOk P w K mg base (L2.CX P w) (k + 2) (fa .Run_counted) (fd .Run_counted) ["self"] (lift K ca 1 (runD 1 (b_Run_counted W M))) := by
  refine def_ok T.f_Run_counted sc_Run_counted rfl (b_Run_counted W M) fun cdv A outer s H E B eB hr G => ?_
  subst eB
  exact (pds_cons (pds_if (pdt_cmp (op_eqD hr.units) vr_eq (pd_fld (c := 0) (pd_var 0) T.c_Run T.n_Run_left) pd_int (nomark _)) (pds_cons (pds_fld (c := 0) (pd_var 0) (pd_tup (pda_cons pd_str pda_nil)) T.c_Run T.n_Run_end)
  (pds_one (pds_ret pd_bl))) pds_nil)
  (pds_cons (pds_augF (c := 0) (pd_var 0) pd_int T.c_Run T.n_Run_left in_sub)
  (pds_one (pds_ret pd_bl))))
theorem sc_Run_begin : FnScope N_Run_begin ["self"] (defScope s_Run_begin) := ⟨rfl, rfl, rfl, by decide +kernel, rfl, by decide +kernel, by decide +kernel⟩
theorem ok_Run_begin (T : Tx K mg ca fa fd) (H1 : H1s P w K mg base ca fa fd (k + 1) W) (H0 : H1s P w K mg base ca fa fd k M) : FnOk P w K mg base (L2.CX P w) (k + 2) (fa .Run_begin) (fd .Run_begin) ["self"] (lift K ca 1 (runD 2 (b_Run_begin W M))) := by
  refine def_ok T.f_Run_begin sc_Run_begin rfl (b_Run_begin W M) fun cdv A outer s H E B eB hr G => ?_
  subst eB
  exact (pds_cons (pds_set 1 G.nd (pd_ix (hu_of hr) (pd_fld (c := 0) (pd_var 0) T.c_Run T.n_Run_current) pd_int))
  (pds_one (pds_if (pdt_cmp (op_eqD hr.units) vr_eq (pd_var 1) pd_str (nomark _)) (pds_one (pds_fld (c := 0) (pd_var 0) (pd_ix (hu_of hr) (pd_fld (c := 0) (pd_var 0) T.c_Run T.n_Run_current) pd_int) T.c_Run T.n_Run_current)) (pds_one (pds_if (pdw_t (pdw_or (pdt_cmp (op_eqD hr.units) vr_eq (pd_var 1) pd_str (nomark _)) (pdw_or1 (pdt_cmp (op_eqD hr.units) vr_eq (pd_var 1) pd_str (nomark _))))) (pds_cons (pds_expr (pd_bm PySem.F.plainAttrs_list PySem.F.slot_list_append PySem.F.type_list_append mt_append vrm_append (pd_fld (c := 0) (pd_var 0) T.c_Run T.n_Run_frames) (pda_cons (pd_tup (pda_cons (pd_var 1) (pda_cons (pd_ix (hu_of hr) (pd_fld (c := 0) (pd_var 0) T.c_Run T.n_Run_current) pd_int) (pda_cons (pd_ix (hu_of hr) (pd_fld (c := 0) (pd_var 0) T.c_Run T.n_Run_current) pd_int) pda_nil)))) pda_nil)))
  (pds_one (pds_fld (c := 0) (pd_var 0) (pd_ix (hu_of hr) (pd_fld (c := 0) (pd_var 0) T.c_Run T.n_Run_current) pd_int) T.c_Run T.n_Run_current))) (pds_one (pds_if (pdt_cmp (op_eqD hr.units) vr_eq (pd_var 1) pd_str (nomark _)) (pds_cons (pds_expr (pd_bm PySem.F.plainAttrs_list PySem.F.slot_list_append PySem.F.type_list_append mt_append vrm_append (pd_fld (c := 0) (pd_var 0) T.c_Run T.n_Run_frames) (pda_cons (pd_tup (pda_cons (pd_var 1) (pda_cons (pd_ix (hu_of hr) (pd_fld (c := 0) (pd_var 0) T.c_Run T.n_Run_current) pd_int) pda_nil))) pda_nil)))
  (pds_one (pds_fld (c := 0) (pd_var 0) (pd_ix (hu_of hr) (pd_fld (c := 0) (pd_var 0) T.c_Run T.n_Run_current) pd_int) T.c_Run T.n_Run_current))) (pds_one (pds_if (pdt_cmp (op_eqD hr.units) vr_eq (pd_var 1) pd_str (nomark _)) (pds_cons (pds_expr (pd_bm PySem.F.plainAttrs_list PySem.F.slot_list_append PySem.F.type_list_append mt_append vrm_append (pd_fld (c := 0) (pd_var 0) T.c_Run T.n_Run_frames) (pda_cons (pd_tup (pda_cons (pd_var 1) (pda_cons (pd_ix (hu_of hr) (pd_fld (c := 0) (pd_var 0) T.c_Run T.n_Run_current) pd_int) (pda_cons (pd_ix (hu_of hr) (pd_fld (c := 0) (pd_var 0) T.c_Run T.n_Run_current) pd_int) pda_nil)))) pda_nil)))
  (pds_one (pds_fld (c := 0) (pd_var 0) (pd_ix (hu_of hr) (pd_fld (c := 0) (pd_var 0) T.c_Run T.n_Run_current) pd_int) T.c_Run T.n_Run_current))) (pds_cons (pds_expr (pd_bm PySem.F.plainAttrs_list PySem.F.slot_list_append PySem.F.type_list_append mt_append vrm_append (pd_fld (c := 0) (pd_var 0) T.c_Run T.n_Run_frames) (pda_cons (pd_op op_addD vr_add (pd_tup (pda_cons (pd_var 1) pda_nil)) (pd_sl (pd_fld (c := 0) (pd_var 0) T.c_Run T.n_Run_current) (pdo_some pd_int) pdo_none)) pda_nil)))
  (pds_one (pds_fld (c := 0) (pd_var 0) (pd_ix (hu_of hr) (pd_fld (c := 0) (pd_var 0) T.c_Run T.n_Run_current) pd_int) T.c_Run T.n_Run_current))))))))))))
theorem sc_Run_go_on : FnScope N_Run_go_on ["self"] (defScope s_Run_go_on) := ⟨rfl, rfl, rfl, by decide +kernel, rfl, by decide +kernel, by decide +kernel⟩
theorem ok_Run_go_on (T : Tx K mg ca fa fd) (H1 : H1s P w K mg base ca fa fd (k + 1) W) (H0 : H1s P w K mg base ca fa fd k M) : FnOk P w K mg base (L2.CX P w) (k + 2) (fa .Run_go_on) (fd .Run_go_on) ["self"] (lift K ca 1 (runD 4 (b_Run_go_on W M))) := by
  refine def_ok T.f_Run_go_on sc_Run_go_on rfl (b_Run_go_on W M) fun cdv A outer s H E B eB hr G => ?_
  subst eB
  exact (pds_cons (pds_if (pdt_not (pdt_tru (pd_fld (c := 0) (pd_var 0) T.c_Run T.n_Run_frames))) (pds_cons (pds_fld (c := 0) (pd_var 0) (pd_tup (pda_cons pd_str (pda_cons (pd_call (x := "shape") (H1 .shape) hr rfl T.g_shape T.f_shape.kp T.b_shape G.tk (pda_cons (pd_fld (c := 0) (pd_var 0) T.c_Run T.n_Run_current) pda_nil)) pda_nil))) T.c_Run T.n_Run_end)
  (pds_one pds_retN)) pds_nil)
  (pds_cons (pds_set 1 G.nd (pd_bm0 PySem.F.plainAttrs_list PySem.F.slot_list_pop PySem.F.type_list_pop mt_pop vrm_pop (pd_fld (c := 0) (pd_var 0) T.c_Run T.n_Run_frames)))
  (pds_cons (pds_set 2 G.nd (pd_fld (c := 0) (pd_var 0) T.c_Run T.n_Run_current))
  (pds_cons (pds_set 3 G.nd (pd_ix (hu_of hr) (pd_var 1) pd_int))
  (pds_one (pds_if (pdw_t (pdw_or (pdt_cmp (op_eqD hr.units) vr_eq (pd_var 3) pd_str (nomark _)) (pdw_or1 (pdt_cmp (op_eqD hr.units) vr_eq (pd_var 3) pd_str (nomark _))))) (pds_cons (pds_expr (pd_bm PySem.F.plainAttrs_list PySem.F.slot_list_append PySem.F.type_list_append mt_append vrm_append (pd_fld (c := 0) (pd_var 0) T.c_Run T.n_Run_frames) (pda_cons (pd_tup (pda_cons (pd_op op_addD vr_add (pd_var 3) pd_str) (pda_cons (pd_var 2) pda_nil))) pda_nil)))
  (pds_one (pds_fld (c := 0) (pd_var 0) (pd_ix (hu_of hr) (pd_var 1) pd_int) T.c_Run T.n_Run_current))) (pds_one (pds_if (pdt_cmp (op_eqD hr.units) vr_eq (pd_var 3) pd_str (nomark _)) (pds_cons (pds_expr (pd_bm PySem.F.plainAttrs_list PySem.F.slot_list_append PySem.F.type_list_append mt_append vrm_append (pd_fld (c := 0) (pd_var 0) T.c_Run T.n_Run_frames) (pda_cons (pd_tup (pda_cons pd_str (pda_cons (pd_ix (hu_of hr) (pd_var 1) pd_int) (pda_cons (pd_var 2) pda_nil)))) pda_nil)))
  (pds_one (pds_fld (c := 0) (pd_var 0) (pd_ix (hu_of hr) (pd_var 1) pd_int) T.c_Run T.n_Run_current))) (pds_one (pds_if (pdt_cmp (op_eqD hr.units) vr_eq (pd_var 3) pd_str (nomark _)) (pds_one (pds_fld (c := 0) (pd_var 0) (pd_tup (pda_cons pd_str (pda_cons (pd_ix (hu_of hr) (pd_var 1) pd_int) (pda_cons (pd_var 2) pda_nil)))) T.c_Run T.n_Run_current)) (pds_one (pds_if (pdt_cmp (op_eqD hr.units) vr_eq (pd_var 3) pd_str (nomark _)) (pds_one (pds_expr (pd_meth (c := 0) (pd_var 0) T.c_Run T.m_Run_call (H1 .Run_call) hr T.b_Run_call G.tk (pda_cons (pd_ix (hu_of hr) (pd_var 1) pd_int) (pda_cons (pd_var 2) pda_nil))))) (pds_one (pds_if (pdt_cmp (op_eqD hr.units) vr_eq (pd_var 3) pd_str (nomark _)) (pds_one (pds_fld (c := 0) (pd_var 0) (pd_call (x := "operated") (H1 .operated) hr rfl T.g_operated T.f_operated.kp T.b_operated G.tk (pda_cons (pd_ix (hu_of hr) (pd_var 1) pd_int) (pda_cons (pd_ix (hu_of hr) (pd_ix (hu_of hr) (pd_var 1) pd_int) pd_int) (pda_cons (pd_ix (hu_of hr) (pd_var 2) pd_int) pda_nil)))) T.c_Run T.n_Run_current)) (pds_one (pds_if (pdt_cmp (op_eqD hr.units) vr_eq (pd_var 3) pd_str (nomark _)) (pds_one (pds_fld (c := 0) (pd_var 0) (pd_call (x := "put_in") (H1 .put_in) hr rfl T.g_put_in T.f_put_in.kp T.b_put_in G.tk (pda_cons (pd_ix (hu_of hr) (pd_var 1) pd_int) (pda_cons (pd_ix (hu_of hr) (pd_var 1) pd_int) (pda_cons (pd_call (x := "quoted") (H1 .quoted) hr rfl T.g_quoted T.f_quoted.kp T.b_quoted G.tk (pda_cons (pd_var 2) pda_nil)) pda_nil)))) T.c_Run T.n_Run_current)) (pds_one (pds_if (pdt_cmp (op_eqD hr.units) vr_eq (pd_var 3) pd_str (nomark _)) (pds_one (pds_fld (c := 0) (pd_var 0) (pd_if (pdt_tru (pd_ix (hu_of hr) (pd_var 2) pd_int)) (pd_ix (hu_of hr) (pd_var 1) pd_int) (pd_ix (hu_of hr) (pd_var 1) pd_int)) T.c_Run T.n_Run_current)) (pds_one (pds_if (pdt_cmp (op_eqD hr.units) vr_eq (pd_var 3) pd_str (nomark _)) (pds_cons (pds_expr (pd_bm PySem.F.plainAttrs_list PySem.F.slot_list_append PySem.F.type_list_append mt_append vrm_append (pd_fld (c := 0) (pd_var 0) T.c_Run T.n_Run_prints) (pda_cons (pd_ix (hu_of hr) (pd_var 2) pd_int) pda_nil)))
  (pds_one (pds_fld (c := 0) (pd_var 0) (pd_ix (hu_of hr) (pd_var 1) pd_int) T.c_Run T.n_Run_current))) (pds_one (pds_if (pdt_cmp (op_eqD hr.units) vr_eq (pd_var 3) pd_str (nomark _)) (pds_one (pds_expr (pd_meth (c := 0) (pd_var 0) T.c_Run T.m_Run_ask (H1 .Run_ask) hr T.b_Run_ask G.tk (pda_cons (pd_ix (hu_of hr) (pd_var 1) pd_int) (pda_cons (pd_var 2) pda_nil))))) (pds_one (pds_if (pdt_cmp (op_eqD hr.units) vr_eq (pd_var 3) pd_str (nomark _)) (pds_one (pds_fld (c := 0) (pd_var 0) (pd_call (x := "put_in") (H1 .put_in) hr rfl T.g_put_in T.f_put_in.kp T.b_put_in G.tk (pda_cons (pd_ix (hu_of hr) (pd_ix (hu_of hr) (pd_var 1) pd_int) pd_int) (pda_cons (pd_ix (hu_of hr) (pd_ix (hu_of hr) (pd_var 1) pd_int) pd_int) (pda_cons (pd_call (x := "quoted") (H1 .quoted) hr rfl T.g_quoted T.f_quoted.kp T.b_quoted G.tk (pda_cons (pd_var 2) pda_nil)) pda_nil)))) T.c_Run T.n_Run_current)) (pds_one (pds_fld (c := 0) (pd_var 0) (pd_meth (c := 0) (pd_var 0) T.c_Run T.m_Run_single (H1 .Run_single) hr T.b_Run_single G.tk (pda_cons (pd_var 3) (pda_cons (pd_var 2) pda_nil))) T.c_Run T.n_Run_current))))))))))))))))))))))))))
theorem sc_Run_single : FnScope N_Run_single ["self", "head", "value"] (defScope s_Run_single) := ⟨rfl, rfl, rfl, by decide +kernel, rfl, by decide +kernel, by decide +kernel⟩
theorem ok_Run_single (T : Tx K mg ca fa fd) (H1 : H1s P w K mg base ca fa fd (k + 1) W) (H0 : H1s P w K mg base ca fa fd k M) : FnOk P w K mg base (L2.CX P w) (k + 2) (fa .Run_single) (fd .Run_single) ["self", "head", "value"] (lift K ca 3 (runD 3 (b_Run_single W M))) := by
  refine def_ok T.f_Run_single sc_Run_single rfl (b_Run_single W M) fun cdv A outer s H E B eB hr G => ?_
  subst eB
  exact (pds_cons (pds_if (pdt_cmp (op_eqD hr.units) vr_eq (pd_var 1) pd_str (nomark _)) (pds_one (pds_ret (pd_tup (pda_cons pd_str (pda_cons (pd_not (pd_ix (hu_of hr) (pd_var 2) pd_int)) pda_nil))))) pds_nil)
  (pds_one (pds_ret (pd_ix (hu_of hr) (pd_var 2) (pd_op op_addD vr_add pd_int (pd_callTy (x := "int") call_int1 vrc_int rfl T.z_int (by decide +kernel) (pda_cons (pd_cmp (op_eqD hr.units) vr_eq (pd_var 1) pd_str (nomark _)) pda_nil)))))))
theorem sc_Run_call : FnScope N_Run_call ["self", "function", "argument"] (defScope s_Run_call) := ⟨rfl, rfl, rfl, by decide +kernel, rfl, by decide +kernel, by decide +kernel⟩
theorem ok_Run_call (T : Tx K mg ca fa fd) (H1 : H1s P w K mg base ca fa fd (k + 1) W) (H0 : H1s P w K mg base ca fa fd k M) : FnOk P w K mg base (L2.CX P w) (k + 2) (fa .Run_call) (fd .Run_call) ["self", "function", "argument"] (lift K ca 3 (runD 4 (b_Run_call W M))) := by
  refine def_ok T.f_Run_call sc_Run_call rfl (b_Run_call W M) fun cdv A outer s H E B eB hr G => ?_
  subst eB
  exact (pds_cons (pds_if (pdt_not (pdt_tru (pd_meth0 (c := 0) (pd_var 0) T.c_Run T.m_Run_counted (H1 .Run_counted) hr T.b_Run_counted G.tk))) (pds_one pds_retN) pds_nil)
  (pds_one (pds_if (pdt_cmp (op_eqD hr.units) vr_eq (pd_ix (hu_of hr) (pd_var 1) pd_int) pd_str (nomark _)) (pds_cons (pds_expr (pd_bm PySem.F.plainAttrs_list PySem.F.slot_list_extend PySem.F.type_list_extend mt_extendT vrm_extT (pd_fld (c := 0) (pd_var 0) T.c_Run T.n_Run_frames) (pda_cons (pd_ix (hu_of hr) (pd_var 1) pd_int) pda_nil)))
  (pds_one (pds_fld (c := 0) (pd_var 0) (pd_var 2) T.c_Run T.n_Run_current))) (pds_one (pds_if (pdt_cmp (op_eqD hr.units) vr_eq (pd_ix (hu_of hr) (pd_var 1) pd_int) pd_str (nomark _)) (pds_one (pds_fld (c := 0) (pd_var 0) (pd_call (x := "put_in") (H1 .put_in) hr rfl T.g_put_in T.f_put_in.kp T.b_put_in G.tk (pda_cons (pd_ix (hu_of hr) (pd_var 1) pd_int) (pda_cons (pd_ix (hu_of hr) (pd_var 1) pd_int) (pda_cons (pd_call (x := "quoted") (H1 .quoted) hr rfl T.g_quoted T.f_quoted.kp T.b_quoted G.tk (pda_cons (pd_var 2) pda_nil)) pda_nil)))) T.c_Run T.n_Run_current)) (pds_cons (pds_set 3 G.nd (pd_call (x := "put_in") (H1 .put_in) hr rfl T.g_put_in T.f_put_in.kp T.b_put_in G.tk (pda_cons (pd_ix (hu_of hr) (pd_var 1) pd_int) (pda_cons (pd_ix (hu_of hr) (pd_var 1) pd_int) (pda_cons (pd_call (x := "quoted") (H1 .quoted) hr rfl T.g_quoted T.f_quoted.kp T.b_quoted G.tk (pda_cons (pd_var 2) pda_nil)) pda_nil)))))
  (pds_one (pds_fld (c := 0) (pd_var 0) (pd_call (x := "put_in") (H1 .put_in) hr rfl T.g_put_in T.f_put_in.kp T.b_put_in G.tk (pda_cons (pd_var 3) (pda_cons (pd_ix (hu_of hr) (pd_var 1) pd_int) (pda_cons (pd_call (x := "quoted") (H1 .quoted) hr rfl T.g_quoted T.f_quoted.kp T.b_quoted G.tk (pda_cons (pd_var 1) pda_nil)) pda_nil)))) T.c_Run T.n_Run_current))))))))
theorem sc_Run_ask : FnScope N_Run_ask ["self", "name", "value"] (defScope s_Run_ask) := ⟨rfl, rfl, rfl, by decide +kernel, rfl, by decide +kernel, by decide +kernel⟩
theorem ok_Run_ask (T : Tx K mg ca fa fd) (H1 : H1s P w K mg base ca fa fd (k + 1) W) (H0 : H1s P w K mg base ca fa fd k M) : FnOk P w K mg base (L2.CX P w) (k + 2) (fa .Run_ask) (fd .Run_ask) ["self", "name", "value"] (lift K ca 3 (runD 6 (b_Run_ask W M))) := by
  refine def_ok T.f_Run_ask sc_Run_ask rfl (b_Run_ask W M) fun cdv A outer s H E B eB hr G => ?_
  subst eB
  exact (pds_cons (pds_if (pdt_not (pdt_tru (pd_meth0 (c := 0) (pd_var 0) T.c_Run T.m_Run_counted (H1 .Run_counted) hr T.b_Run_counted G.tk))) (pds_one pds_retN) pds_nil)
  (pds_cons (pds_for G.ow rfl (pdi_revR rfl T.z_reversed (pdr_1 rfl T.z_range (pd_callB (x := "len") call_len vrc_len rfl T.z_len (by decide +kernel) (pda_cons (pd_fld (c := 0) (pd_var 0) T.c_Run T.n_Run_frames) pda_nil)))) (pdg_name 3 G.nd) (pds_cons (pds_set 4 G.nd (pd_ix (hu_of hr) (pd_fld (c := 0) (pd_var 0) T.c_Run T.n_Run_frames) (pd_var 3)))
  (pds_one (pds_if (pdt_cmp (op_eqD hr.units) vr_eq (pd_ix (hu_of hr) (pd_var 4) pd_int) pd_str (nomark _)) (pds_one (pds_for G.ow rfl (pdi_tup (pd_ix (hu_of hr) (pd_var 4) pd_int)) (pdg_name 5 G.nd) (pds_one (pds_if (pdt_cmp (op_eqD hr.units) vr_eq (pd_ix (hu_of hr) (pd_var 5) pd_int) (pd_var 1) (nomark _)) (pds_cons (pds_expr (pd_meth (c := 0) (pd_var 0) T.c_Run T.m_Run_answer (H1 .Run_answer) hr T.b_Run_answer G.tk (pda_cons (pd_var 3) (pda_cons (pd_var 5) (pda_cons (pd_var 2) pda_nil)))))
  (pds_one pds_retN)) pds_nil)))) pds_nil))))
  (pds_one (pds_fld (c := 0) (pd_var 0) (pd_tup (pda_cons pd_str (pda_cons (pd_var 1) pda_nil))) T.c_Run T.n_Run_end))))
theorem sc_Run_answer : FnScope N_Run_answer ["self", "place", "clause", "value"] (defScope s_Run_answer) := ⟨rfl, rfl, rfl, by decide +kernel, rfl, by decide +kernel, by decide +kernel⟩
theorem ok_Run_answer (T : Tx K mg ca fa fd) (H1 : H1s P w K mg base ca fa fd (k + 1) W) (H0 : H1s P w K mg base ca fa fd k M) : FnOk P w K mg base (L2.CX P w) (k + 2) (fa .Run_answer) (fd .Run_answer) ["self", "place", "clause", "value"] (lift K ca 4 (runD 6 (b_Run_answer W M))) := by
  refine def_ok T.f_Run_answer sc_Run_answer rfl (b_Run_answer W M) fun cdv A outer s H E B eB hr G => ?_
  subst eB
  exact (pds_cons (pds_set 4 G.nd (pd_tup (pda_cons pd_str (pda_cons (pd_callTy (x := "tuple") call_tuple_of vrc_tuple rfl T.z_tuple (by decide +kernel) (pda_cons (pd_sl (pd_fld (c := 0) (pd_var 0) T.c_Run T.n_Run_frames) (pdo_some (pd_var 1)) pdo_none) pda_nil)) pda_nil))))
  (pds_cons (pds_fld (c := 0) (pd_var 0) (pd_slM (pd_fld (c := 0) (pd_var 0) T.c_Run T.n_Run_frames) pdo_none (pdo_some (pd_var 1))) T.c_Run T.n_Run_frames)
  (pds_cons (pds_set 5 G.nd (pd_ix (hu_of hr) (pd_var 2) pd_int))
  (pds_cons (pds_if (pdt_cmp (op_neD hr.units) vr_ne (pd_ix (hu_of hr) (pd_var 2) pd_int) (pd_ix (hu_of hr) (pd_var 2) pd_int) (nomark _)) (pds_one (pds_set 5 G.nd (pd_call (x := "put_in") (H1 .put_in) hr rfl T.g_put_in T.f_put_in.kp T.b_put_in G.tk (pda_cons (pd_var 5) (pda_cons (pd_ix (hu_of hr) (pd_var 2) pd_int) (pda_cons (pd_call (x := "quoted") (H1 .quoted) hr rfl T.g_quoted T.f_quoted.kp T.b_quoted G.tk (pda_cons (pd_var 3) pda_nil)) pda_nil)))))) pds_nil)
  (pds_one (pds_fld (c := 0) (pd_var 0) (pd_call (x := "put_in") (H1 .put_in) hr rfl T.g_put_in T.f_put_in.kp T.b_put_in G.tk (pda_cons (pd_var 5) (pda_cons (pd_ix (hu_of hr) (pd_var 2) pd_int) (pda_cons (pd_call (x := "quoted") (H1 .quoted) hr rfl T.g_quoted T.f_quoted.kp T.b_quoted G.tk (pda_cons (pd_var 4) pda_nil)) pda_nil)))) T.c_Run T.n_Run_current))))))
theorem sc_run_plain : FnScope N_run_plain ["expression", "steps"] (defScope s_run_plain) := ⟨rfl, rfl, rfl, by decide +kernel, rfl, by decide +kernel, by decide +kernel⟩
theorem ok_run_plain (T : Tx K mg ca fa fd) (H1 : H1s P w K mg base ca fa fd (k + 1) W) (H0 : H1s P w K mg base ca fa fd k M) : FnOk P w K mg base (L2.CX P w) (k + 2) (fa .run_plain) (fd .run_plain) ["expression", "steps"] (lift K ca 2 (runD 3 (b_run_plain W M))) := by
  refine def_ok T.f_run_plain sc_run_plain rfl (b_run_plain W M) fun cdv A outer s H E B eB hr G => ?_
  subst eB
  exact (pds_cons (pds_set 2 G.nd (pd_make (x := "Run") (c := 0) T.mk_Run (H0 .Run_init) hr rfl T.gc_Run T.b_Run_init G.tk (pda_cons (pd_var 0) (pda_cons (pd_var 1) pda_nil))))
  (pds_cons (pds_while G.ow (pdt_cmp op_isN vr_is (pd_fld (c := 0) (pd_var 2) T.c_Run T.n_Run_end) pd_non (nomark _)) (pds_one (pds_if (pdt_tru (pd_call (x := "is_value") (H1 .is_value) hr rfl T.g_is_value T.f_is_value.kp T.b_is_value G.tk (pda_cons (pd_fld (c := 0) (pd_var 2) T.c_Run T.n_Run_current) pda_nil))) (pds_one (pds_expr (pd_meth0 (c := 0) (pd_var 2) T.c_Run T.m_Run_go_on (H1 .Run_go_on) hr T.b_Run_go_on G.tk))) (pds_one (pds_expr (pd_meth0 (c := 0) (pd_var 2) T.c_Run T.m_Run_begin (H1 .Run_begin) hr T.b_Run_begin G.tk))))))
  (pds_one (pds_ret (pd_tup (pda_cons (pd_callTy (x := "tuple") call_tuple_of vrc_tuple rfl T.z_tuple (by decide +kernel) (pda_cons (pd_fld (c := 0) (pd_var 2) T.c_Run T.n_Run_prints) pda_nil)) (pda_cons (pd_fld (c := 0) (pd_var 2) T.c_Run T.n_Run_end) pda_nil)))))))
theorem sc_law_state : FnScope N_law_state ["_law_script"] (defScope s_law_state) := ⟨rfl, rfl, rfl, by decide +kernel, rfl, by decide +kernel, by decide +kernel⟩
theorem ok_law_state (T : Tx K mg ca fa fd) (H1 : H1s P w K mg base ca fa fd (k + 1) W) (H0 : H1s P w K mg base ca fa fd k M) : FnOk P w K mg base (L2.CX P w) (k + 2) (fa .law_state) (fd .law_state) ["_law_script"] (lift K ca 1 (runD 3 (b_law_state W M))) := by
  refine def_ok T.f_law_state sc_law_state rfl (b_law_state W M) fun cdv A outer s H E B eB hr G => ?_
  subst eB
  exact (pds_cons (pds_setLcM (i := 1) (c := (.one 2)) rfl G.nd rfl rfl (sw_true rfl rfl rfl (by decide +kernel)) (pdi_list (pd_sl (pd_var 0) pdo_none (pdo_some pd_int))) (blkOk_by (own := [("_law_cell", 2)]) (N := N_law_state) (sc := defScope s_law_state) (by decide +kernel)) (fun _ _ _ _ _ => pg_name (i := 2) G.nd rfl (Or.inl rfl)) (fun _ _ _ _ _ => (pd_callB (x := "abs") call_abs vrc_abs rfl T.z_abs (by decide +kernel) (pda_cons (pd_var 2) pda_nil))) (by decide) (fun _ => rfl))
  (pds_cons (pds_if (pdt_cmp (op_eqD hr.units) vr_eq (pd_callB (x := "len") call_len vrc_len rfl T.z_len (by decide +kernel) (pda_cons (pd_var 1) pda_nil)) pd_int (nomark _)) (pds_one (pds_set 1 G.nd (pd_lstM (pda_cons pd_int pda_nil)))) pds_nil)
  (pds_one (pds_ret (pd_lstM (pda_cons pd_int (pda_cons (pd_var 1) pda_nil)))))))
theorem sc_law_take : FnScope N_law_take ["_law_state_here", "_law_most"] (defScope s_law_take) := ⟨rfl, rfl, rfl, by decide +kernel, rfl, by decide +kernel, by decide +kernel⟩
theorem ok_law_take (T : Tx K mg ca fa fd) (H1 : H1s P w K mg base ca fa fd (k + 1) W) (H0 : H1s P w K mg base ca fa fd k M) : FnOk P w K mg base (L2.CX P w) (k + 2) (fa .law_take) (fd .law_take) ["_law_state_here", "_law_most"] (lift K ca 2 (runD 6 (b_law_take W M))) := by
  refine def_ok T.f_law_take sc_law_take rfl (b_law_take W M) fun cdv A outer s H E B eB hr G => ?_
  subst eB
  exact (pds_cons (pds_set 2 G.nd (pd_ix (hu_of hr) (pd_var 0) pd_int))
  (pds_cons (pds_set 3 G.nd (pd_op op_mod vr_mod (pd_ix (hu_of hr) (pd_var 0) pd_int) (pd_callB (x := "len") call_len vrc_len rfl T.z_len (by decide +kernel) (pda_cons (pd_var 2) pda_nil))))
  (pds_cons (pds_set 4 G.nd (pd_ix (hu_of hr) (pd_var 2) (pd_var 3)))
  (pds_cons (pds_if (pdt_cmp op_ge vr_ge (pd_var 4) pd_int (nomark _)) (pds_cons (pds_asg (pd_op op_fdiv vr_div (pd_var 4) (pd_var 1)) (pdg_sub (hu_of hr) (pd_var 2) (pd_var 3)))
  (pds_one (pds_ret (pd_op op_mod vr_mod (pd_var 4) (pd_var 1))))) pds_nil)
  (pds_cons (pds_asg (pd_op op_addD vr_add (pd_ix (hu_of hr) (pd_var 0) pd_int) pd_int) (pdg_sub (hu_of hr) (pd_var 0) pd_int))
  (pds_cons (pds_set 5 G.nd (pd_op op_mod vr_mod (pd_callTy (x := "int") call_int1 vrc_int rfl T.z_int (by decide +kernel) (pda_cons (pd_op op_addD vr_add (pd_op op_mul vr_mul (pd_var 4) pd_int) (pd_op op_mul vr_mul (pd_ix (hu_of hr) (pd_var 0) pd_int) pd_int)) pda_nil)) pd_int))
  (pds_cons (pds_set 5 G.nd (pd_op op_mod vr_mod (pd_callTy (x := "int") call_int1 vrc_int rfl T.z_int (by decide +kernel) (pda_cons (pd_op op_addD vr_add (pd_op op_mul vr_mul (pd_var 5) pd_int) (pd_op op_mul vr_mul (pd_ix (hu_of hr) (pd_var 0) pd_int) pd_int)) pda_nil)) pd_int))
  (pds_one (pds_ret (pd_op op_mod vr_mod (pd_op op_fdiv vr_div (pd_var 5) pd_int) (pd_var 1)))))))))))
theorem sc_law_kind : FnScope N_law_kind ["_law_state_here", "_law_depth"] (defScope s_law_kind) := ⟨rfl, rfl, rfl, by decide +kernel, rfl, by decide +kernel, by decide +kernel⟩
theorem ok_law_kind (T : Tx K mg ca fa fd) (H1 : H1s P w K mg base ca fa fd (k + 1) W) (H0 : H1s P w K mg base ca fa fd k M) : FnOk P w K mg base (L2.CX P w) (k + 2) (fa .law_kind) (fd .law_kind) ["_law_state_here", "_law_depth"] (lift K ca 2 (runD 3 (b_law_kind W M))) := by
  refine def_ok T.f_law_kind sc_law_kind rfl (b_law_kind W M) fun cdv A outer s H E B eB hr G => ?_
  subst eB
  exact (pds_cons (pds_set 2 G.nd (pd_call (x := "_law_take") (H1 .law_take) hr rfl T.g_law_take T.f_law_take.kp T.b_law_take G.tk (pda_cons (pd_var 0) (pda_cons pd_int pda_nil))))
  (pds_cons (pds_if (pdw_t (pdw_and (pdt_cmp op_gt vr_gt (pd_var 1) pd_int (nomark _)) (pdw_and1 (pdt_cmp (op_eqD hr.units) vr_eq (pd_var 2) pd_int (nomark _))))) (pds_one (pds_ret (pd_tup (pda_cons pd_str (pda_cons (pd_call (x := "_law_kind") (H1 .law_kind) hr rfl T.g_law_kind T.f_law_kind.kp T.b_law_kind G.tk (pda_cons (pd_var 0) (pda_cons (pd_op op_sub vr_sub (pd_var 1) pd_int) pda_nil))) (pda_cons (pd_call (x := "_law_kind") (H1 .law_kind) hr rfl T.g_law_kind T.f_law_kind.kp T.b_law_kind G.tk (pda_cons (pd_var 0) (pda_cons (pd_op op_sub vr_sub (pd_var 1) pd_int) pda_nil))) pda_nil)))))) pds_nil)
  (pds_cons (pds_if (pdw_t (pdw_and (pdt_cmp op_gt vr_gt (pd_var 1) pd_int (nomark _)) (pdw_and1 (pdt_cmp (op_eqD hr.units) vr_eq (pd_var 2) pd_int (nomark _))))) (pds_one (pds_ret (pd_tup (pda_cons pd_str (pda_cons (pd_call (x := "_law_kind") (H1 .law_kind) hr rfl T.g_law_kind T.f_law_kind.kp T.b_law_kind G.tk (pda_cons (pd_var 0) (pda_cons (pd_op op_sub vr_sub (pd_var 1) pd_int) pda_nil))) (pda_cons (pd_call (x := "_law_kind") (H1 .law_kind) hr rfl T.g_law_kind T.f_law_kind.kp T.b_law_kind G.tk (pda_cons (pd_var 0) (pda_cons (pd_op op_sub vr_sub (pd_var 1) pd_int) pda_nil))) pda_nil)))))) pds_nil)
  (pds_one (pds_ret (pd_ix (hu_of hr) (pd_lst (pda_cons (pd_tup (pda_cons pd_str pda_nil)) (pda_cons (pd_tup (pda_cons pd_str pda_nil)) (pda_cons (pd_tup (pda_cons pd_str pda_nil)) (pda_cons (pd_tup (pda_cons pd_str pda_nil)) (pda_cons (pd_tup (pda_cons pd_str pda_nil)) pda_nil)))))) (pd_op op_mod vr_mod (pd_var 2) pd_int)))))))
theorem sc_law_operations : FnScope N_law_operations ["_law_state_here"] (defScope s_law_operations) := ⟨rfl, rfl, rfl, by decide +kernel, rfl, by decide +kernel, by decide +kernel⟩
theorem ok_law_operations (T : Tx K mg ca fa fd) (H1 : H1s P w K mg base ca fa fd (k + 1) W) (H0 : H1s P w K mg base ca fa fd k M) : FnOk P w K mg base (L2.CX P w) (k + 2) (fa .law_operations) (fd .law_operations) ["_law_state_here"] (lift K ca 1 (runD 5 (b_law_operations W M))) := by
  refine def_ok T.f_law_operations sc_law_operations rfl (b_law_operations W M) fun cdv A outer s H E B eB hr G => ?_
  subst eB
  exact (pds_cons (pds_set 1 G.nd (pd_lst (pda_cons (pd_tup (pda_cons pd_str pda_nil)) (pda_cons (pd_tup (pda_cons pd_str pda_nil)) (pda_cons (pd_tup (pda_cons pd_str pda_nil)) (pda_cons (pd_tup (pda_cons pd_str (pda_cons (pd_tup (pda_cons pd_str pda_nil)) (pda_cons (pd_tup (pda_cons pd_str pda_nil)) pda_nil)))) (pda_cons (pd_tup (pda_cons pd_str pda_nil)) pda_nil)))))))
  (pds_cons (pds_set 2 G.nd (pd_lst (pda_cons pd_str (pda_cons pd_str (pda_cons pd_str (pda_cons pd_str pda_nil))))))
  (pds_cons (pds_set 3 G.nd (pd_lstM pda_nil))
  (pds_cons (pds_for G.ow rfl (pdi_range1 rfl T.z_range (pda_cons (pd_op op_addD vr_add pd_int (pd_call (x := "_law_take") (H1 .law_take) hr rfl T.g_law_take T.f_law_take.kp T.b_law_take G.tk (pda_cons (pd_var 0) (pda_cons pd_int pda_nil)))) pda_nil)) (pdg_name 4 G.nd) (pds_one (pds_expr (pd_bm PySem.F.plainAttrs_list PySem.F.slot_list_append PySem.F.type_list_append mt_append vrm_append (pd_var 3) (pda_cons (pd_tup (pda_cons (pd_ix (hu_of hr) (pd_var 2) (pd_var 4)) (pda_cons (pd_ix (hu_of hr) (pd_var 1) (pd_call (x := "_law_take") (H1 .law_take) hr rfl T.g_law_take T.f_law_take.kp T.b_law_take G.tk (pda_cons (pd_var 0) (pda_cons pd_int pda_nil)))) (pda_cons (pd_ix (hu_of hr) (pd_var 1) (pd_call (x := "_law_take") (H1 .law_take) hr rfl T.g_law_take T.f_law_take.kp T.b_law_take G.tk (pda_cons (pd_var 0) (pda_cons pd_int pda_nil)))) pda_nil)))) pda_nil)))))
  (pds_one (pds_ret (pd_frz (pd_var 3))))))))
theorem sc_law_leaf : FnScope N_law_leaf ["_law_state_here", "_law_known", "_law_wanted"] (defScope s_law_leaf) := ⟨rfl, rfl, rfl, by decide +kernel, rfl, by decide +kernel, by decide +kernel⟩
theorem ok_law_leaf (T : Tx K mg ca fa fd) (H1 : H1s P w K mg base ca fa fd (k + 1) W) (H0 : H1s P w K mg base ca fa fd k M) : FnOk P w K mg base (L2.CX P w) (k + 2) (fa .law_leaf) (fd .law_leaf) ["_law_state_here", "_law_known", "_law_wanted"] (lift K ca 3 (runD 6 (b_law_leaf W M))) := by
  refine def_ok T.f_law_leaf sc_law_leaf rfl (b_law_leaf W M) fun cdv A outer s H E B eB hr G => ?_
  subst eB
  exact (pds_cons (pds_setLcIf (i := 3) (c := (.one 4)) rfl G.nd rfl rfl (sw_true rfl rfl rfl (by decide +kernel)) (pdi_list (pd_var 1)) (blkOk_by (own := [("_law_pair", 4)]) (N := N_law_leaf) (sc := defScope s_law_leaf) (by decide +kernel)) (fun _ _ _ _ _ => pg_name (i := 4) G.nd rfl (Or.inl rfl)) (fun _ _ _ _ _ => (pdt_cmp (op_eqD hr.units) vr_eq (pd_ix (hu_of hr) (pd_var 4) pd_int) (pd_var 2) (nomark _))) (fun _ _ _ _ _ => (pd_ix (hu_of hr) (pd_var 4) pd_int)) (by decide) (fun _ => rfl))
  (pds_cons (pds_if (pdw_t (pdw_and (pdt_cmp op_gt vr_gt (pd_callB (x := "len") call_len vrc_len rfl T.z_len (by decide +kernel) (pda_cons (pd_var 3) pda_nil)) pd_int (nomark _)) (pdw_and1 (pdt_cmp op_gt vr_gt (pd_call (x := "_law_take") (H1 .law_take) hr rfl T.g_law_take T.f_law_take.kp T.b_law_take G.tk (pda_cons (pd_var 0) (pda_cons pd_int pda_nil))) pd_int (nomark _))))) (pds_one (pds_ret (pd_tup (pda_cons pd_str (pda_cons (pd_ix (hu_of hr) (pd_var 3) (pd_op op_sub vr_sub (pd_op op_sub vr_sub (pd_callB (x := "len") call_len vrc_len rfl T.z_len (by decide +kernel) (pda_cons (pd_var 3) pda_nil)) pd_int) (pd_call (x := "_law_take") (H1 .law_take) hr rfl T.g_law_take T.f_law_take.kp T.b_law_take G.tk (pda_cons (pd_var 0) (pda_cons (pd_callB (x := "len") call_len vrc_len rfl T.z_len (by decide +kernel) (pda_cons (pd_var 3) pda_nil)) pda_nil))))) pda_nil))))) pds_nil)
  (pds_cons (pds_if (pdt_cmp (op_eqD hr.units) vr_eq (pd_ix (hu_of hr) (pd_var 2) pd_int) pd_str (nomark _)) (pds_cons (pds_set 5 G.nd (pd_op op_addD vr_add pd_str (pd_callTy (x := "str") call_str_int vrc_str rfl T.z_str (by decide +kernel) (pda_cons (pd_callB (x := "len") call_len vrc_len rfl T.z_len (by decide +kernel) (pda_cons (pd_var 1) pda_nil)) pda_nil))))
  (pds_one (pds_ret (pd_tup (pda_cons pd_str (pda_cons (pd_var 5) (pda_cons (pd_call (x := "_law_leaf") (H1 .law_leaf) hr rfl T.g_law_leaf T.f_law_leaf.kp T.b_law_leaf G.tk (pda_cons (pd_var 0) (pda_cons (pd_op op_addD vr_add (pd_var 1) (pd_lst (pda_cons (pd_tup (pda_cons (pd_var 5) (pda_cons (pd_ix (hu_of hr) (pd_var 2) pd_int) pda_nil))) pda_nil))) (pda_cons (pd_ix (hu_of hr) (pd_var 2) pd_int) pda_nil)))) pda_nil))))))) pds_nil)
  (pds_cons (pds_if (pdt_cmp (op_eqD hr.units) vr_eq (pd_ix (hu_of hr) (pd_var 2) pd_int) pd_str (nomark _)) (pds_one (pds_ret (pd_tup (pda_cons pd_str (pda_cons (pd_call (x := "_law_leaf") (H1 .law_leaf) hr rfl T.g_law_leaf T.f_law_leaf.kp T.b_law_leaf G.tk (pda_cons (pd_var 0) (pda_cons (pd_var 1) (pda_cons (pd_ix (hu_of hr) (pd_var 2) pd_int) pda_nil)))) (pda_cons (pd_call (x := "_law_leaf") (H1 .law_leaf) hr rfl T.g_law_leaf T.f_law_leaf.kp T.b_law_leaf G.tk (pda_cons (pd_var 0) (pda_cons (pd_var 1) (pda_cons (pd_ix (hu_of hr) (pd_var 2) pd_int) pda_nil)))) pda_nil)))))) pds_nil)
  (pds_cons (pds_if (pdt_cmp (op_eqD hr.units) vr_eq (pd_ix (hu_of hr) (pd_var 2) pd_int) pd_str (nomark _)) (pds_one (pds_ret (pd_tup (pda_cons pd_str (pda_cons (pd_call (x := "_law_take") (H1 .law_take) hr rfl T.g_law_take T.f_law_take.kp T.b_law_take G.tk (pda_cons (pd_var 0) (pda_cons pd_int pda_nil))) pda_nil))))) pds_nil)
  (pds_cons (pds_if (pdt_cmp (op_eqD hr.units) vr_eq (pd_ix (hu_of hr) (pd_var 2) pd_int) pd_str (nomark _)) (pds_one (pds_ret (pd_tup (pda_cons pd_str (pda_cons (pd_cmp (op_eqD hr.units) vr_eq (pd_call (x := "_law_take") (H1 .law_take) hr rfl T.g_law_take T.f_law_take.kp T.b_law_take G.tk (pda_cons (pd_var 0) (pda_cons pd_int pda_nil))) pd_int (nomark _)) pda_nil))))) pds_nil)
  (pds_one (pds_ret (pd_tup (pda_cons pd_str pda_nil))))))))))
theorem sc_law_special : FnScope N_law_special ["_law_state_here", "_law_ops", "_law_known", "_law_wanted", "_law_depth"] (defScope s_law_special) := ⟨rfl, rfl, rfl, by decide +kernel, rfl, by decide +kernel, by decide +kernel⟩
theorem ok_law_special (T : Tx K mg ca fa fd) (H1 : H1s P w K mg base ca fa fd (k + 1) W) (H0 : H1s P w K mg base ca fa fd k M) : FnOk P w K mg base (L2.CX P w) (k + 2) (fa .law_special) (fd .law_special) ["_law_state_here", "_law_ops", "_law_known", "_law_wanted", "_law_depth"] (lift K ca 5 (runD 8 (b_law_special W M))) := by
  refine def_ok T.f_law_special sc_law_special rfl (b_law_special W M) fun cdv A outer s H E B eB hr G => ?_
  subst eB
  exact (pds_cons (pds_set 5 G.nd (pd_op op_addD vr_add pd_str (pd_callTy (x := "str") call_str_int vrc_str rfl T.z_str (by decide +kernel) (pda_cons (pd_callB (x := "len") call_len vrc_len rfl T.z_len (by decide +kernel) (pda_cons (pd_var 2) pda_nil)) pda_nil))))
  (pds_cons (pds_if (pdt_cmp (op_eqD hr.units) vr_eq (pd_ix (hu_of hr) (pd_var 3) pd_int) pd_str (nomark _)) (pds_cons (pds_set 6 G.nd (pd_call (x := "_law_tree") (H1 .law_tree) hr rfl T.g_law_tree T.f_law_tree.kp T.b_law_tree G.tk (pda_cons (pd_var 0) (pda_cons (pd_var 1) (pda_cons (pd_var 2) (pda_cons (pd_var 3) (pda_cons (pd_op op_sub vr_sub (pd_var 4) pd_int) pda_nil)))))))
  (pds_one (pds_ret (pd_tup (pda_cons pd_str (pda_cons (pd_ix (hu_of hr) (pd_lst (pda_cons pd_str (pda_cons pd_str (pda_cons pd_str pda_nil)))) (pd_call (x := "_law_take") (H1 .law_take) hr rfl T.g_law_take T.f_law_take.kp T.b_law_take G.tk (pda_cons (pd_var 0) (pda_cons pd_int pda_nil)))) (pda_cons (pd_var 6) (pda_cons (pd_call (x := "_law_tree") (H1 .law_tree) hr rfl T.g_law_tree T.f_law_tree.kp T.b_law_tree G.tk (pda_cons (pd_var 0) (pda_cons (pd_var 1) (pda_cons (pd_var 2) (pda_cons (pd_var 3) (pda_cons (pd_op op_sub vr_sub (pd_var 4) pd_int) pda_nil)))))) pda_nil)))))))) pds_nil)
  (pds_cons (pds_if (pdt_cmp (op_eqD hr.units) vr_eq (pd_ix (hu_of hr) (pd_var 3) pd_int) pd_str (nomark _)) (pds_cons (pds_set 6 G.nd (pd_call (x := "_law_tree") (H1 .law_tree) hr rfl T.g_law_tree T.f_law_tree.kp T.b_law_tree G.tk (pda_cons (pd_var 0) (pda_cons (pd_var 1) (pda_cons (pd_var 2) (pda_cons (pd_tup (pda_cons pd_str pda_nil)) (pda_cons (pd_op op_sub vr_sub (pd_var 4) pd_int) pda_nil)))))))
  (pds_cons (pds_if (pdt_cmp (op_eqD hr.units) vr_eq (pd_call (x := "_law_take") (H1 .law_take) hr rfl T.g_law_take T.f_law_take.kp T.b_law_take G.tk (pda_cons (pd_var 0) (pda_cons pd_int pda_nil))) pd_int (nomark _)) (pds_one (pds_ret (pd_tup (pda_cons pd_str (pda_cons (pd_call (x := "_law_tree") (H1 .law_tree) hr rfl T.g_law_tree T.f_law_tree.kp T.b_law_tree G.tk (pda_cons (pd_var 0) (pda_cons (pd_var 1) (pda_cons (pd_var 2) (pda_cons (pd_var 3) (pda_cons (pd_op op_sub vr_sub (pd_var 4) pd_int) pda_nil)))))) pda_nil))))) pds_nil)
  (pds_one (pds_ret (pd_tup (pda_cons pd_str (pda_cons (pd_ix (hu_of hr) (pd_lst (pda_cons pd_str (pda_cons pd_str pda_nil))) (pd_call (x := "_law_take") (H1 .law_take) hr rfl T.g_law_take T.f_law_take.kp T.b_law_take G.tk (pda_cons (pd_var 0) (pda_cons pd_int pda_nil)))) (pda_cons (pd_var 6) (pda_cons (pd_call (x := "_law_leaf") (H1 .law_leaf) hr rfl T.g_law_leaf T.f_law_leaf.kp T.b_law_leaf G.tk (pda_cons (pd_var 0) (pda_cons (pd_var 2) (pda_cons (pd_tup (pda_cons pd_str pda_nil)) pda_nil)))) pda_nil))))))))) pds_nil)
  (pds_cons (pds_if (pdt_cmp (op_eqD hr.units) vr_eq (pd_ix (hu_of hr) (pd_var 3) pd_int) pd_str (nomark _)) (pds_one (pds_ret (pd_tup (pda_cons pd_str (pda_cons (pd_var 5) (pda_cons (pd_call (x := "_law_tree") (H1 .law_tree) hr rfl T.g_law_tree T.f_law_tree.kp T.b_law_tree G.tk (pda_cons (pd_var 0) (pda_cons (pd_var 1) (pda_cons (pd_op op_addD vr_add (pd_var 2) (pd_lst (pda_cons (pd_tup (pda_cons (pd_var 5) (pda_cons (pd_ix (hu_of hr) (pd_var 3) pd_int) pda_nil))) pda_nil))) (pda_cons (pd_ix (hu_of hr) (pd_var 3) pd_int) (pda_cons (pd_op op_sub vr_sub (pd_var 4) pd_int) pda_nil)))))) pda_nil)))))) pds_nil)
  (pds_cons (pds_if (pdt_cmp (op_eqD hr.units) vr_eq (pd_ix (hu_of hr) (pd_var 3) pd_int) pd_str (nomark _)) (pds_cons (pds_set 6 G.nd (pd_call (x := "_law_tree") (H1 .law_tree) hr rfl T.g_law_tree T.f_law_tree.kp T.b_law_tree G.tk (pda_cons (pd_var 0) (pda_cons (pd_var 1) (pda_cons (pd_var 2) (pda_cons (pd_ix (hu_of hr) (pd_var 3) pd_int) (pda_cons (pd_op op_sub vr_sub (pd_var 4) pd_int) pda_nil)))))))
  (pds_one (pds_ret (pd_tup (pda_cons pd_str (pda_cons (pd_var 6) (pda_cons (pd_call (x := "_law_tree") (H1 .law_tree) hr rfl T.g_law_tree T.f_law_tree.kp T.b_law_tree G.tk (pda_cons (pd_var 0) (pda_cons (pd_var 1) (pda_cons (pd_var 2) (pda_cons (pd_ix (hu_of hr) (pd_var 3) pd_int) (pda_cons (pd_op op_sub vr_sub (pd_var 4) pd_int) pda_nil)))))) pda_nil))))))) pds_nil)
  (pds_cons (pds_set 7 G.nd (pd_call (x := "_law_kind") (H1 .law_kind) hr rfl T.g_law_kind T.f_law_kind.kp T.b_law_kind G.tk (pda_cons (pd_var 0) (pda_cons pd_int pda_nil))))
  (pds_cons (pds_set 6 G.nd (pd_call (x := "_law_tree") (H1 .law_tree) hr rfl T.g_law_tree T.f_law_tree.kp T.b_law_tree G.tk (pda_cons (pd_var 0) (pda_cons (pd_var 1) (pda_cons (pd_var 2) (pda_cons (pd_var 7) (pda_cons (pd_op op_sub vr_sub (pd_var 4) pd_int) pda_nil)))))))
  (pds_one (pds_ret (pd_tup (pda_cons pd_str (pda_cons (pd_var 5) (pda_cons (pd_var 6) (pda_cons (pd_call (x := "_law_leaf") (H1 .law_leaf) hr rfl T.g_law_leaf T.f_law_leaf.kp T.b_law_leaf G.tk (pda_cons (pd_var 0) (pda_cons (pd_op op_addD vr_add (pd_var 2) (pd_lst (pda_cons (pd_tup (pda_cons (pd_var 5) (pda_cons (pd_var 7) pda_nil))) pda_nil))) (pda_cons (pd_var 3) pda_nil)))) pda_nil))))))))))))))
theorem sc_law_asking : FnScope N_law_asking ["_law_state_here", "_law_ops", "_law_known", "_law_wanted", "_law_depth"] (defScope s_law_asking) := ⟨rfl, rfl, rfl, by decide +kernel, rfl, by decide +kernel, by decide +kernel⟩
theorem ok_law_asking (T : Tx K mg ca fa fd) (H1 : H1s P w K mg base ca fa fd (k + 1) W) (H0 : H1s P w K mg base ca fa fd k M) : FnOk P w K mg base (L2.CX P w) (k + 2) (fa .law_asking) (fd .law_asking) ["_law_state_here", "_law_ops", "_law_known", "_law_wanted", "_law_depth"] (lift K ca 5 (runD 8 (b_law_asking W M))) := by
  refine def_ok T.f_law_asking sc_law_asking rfl (b_law_asking W M) fun cdv A outer s H E B eB hr G => ?_
  subst eB
  exact (pds_cons (pds_set 5 G.nd (pd_ix (hu_of hr) (pd_var 1) (pd_call (x := "_law_take") (H1 .law_take) hr rfl T.g_law_take T.f_law_take.kp T.b_law_take G.tk (pda_cons (pd_var 0) (pda_cons (pd_callB (x := "len") call_len vrc_len rfl T.z_len (by decide +kernel) (pda_cons (pd_var 1) pda_nil)) pda_nil)))))
  (pds_cons (pds_set 6 G.nd (pd_tup (pda_cons pd_str (pda_cons (pd_ix (hu_of hr) (pd_var 5) pd_int) (pda_cons (pd_call (x := "_law_tree") (H1 .law_tree) hr rfl T.g_law_tree T.f_law_tree.kp T.b_law_tree G.tk (pda_cons (pd_var 0) (pda_cons (pd_var 1) (pda_cons (pd_var 2) (pda_cons (pd_ix (hu_of hr) (pd_var 5) pd_int) (pda_cons (pd_op op_sub vr_sub (pd_var 4) pd_int) pda_nil)))))) pda_nil)))))
  (pds_cons (pds_if (pdt_cmp (op_eqD hr.units) vr_eq (pd_ix (hu_of hr) (pd_var 5) pd_int) (pd_var 3) (nomark _)) (pds_one (pds_ret (pd_var 6))) pds_nil)
  (pds_cons (pds_set 7 G.nd (pd_op op_addD vr_add pd_str (pd_callTy (x := "str") call_str_int vrc_str rfl T.z_str (by decide +kernel) (pda_cons (pd_callB (x := "len") call_len vrc_len rfl T.z_len (by decide +kernel) (pda_cons (pd_var 2) pda_nil)) pda_nil))))
  (pds_one (pds_ret (pd_tup (pda_cons pd_str (pda_cons (pd_var 7) (pda_cons (pd_var 6) (pda_cons (pd_call (x := "_law_tree") (H1 .law_tree) hr rfl T.g_law_tree T.f_law_tree.kp T.b_law_tree G.tk (pda_cons (pd_var 0) (pda_cons (pd_var 1) (pda_cons (pd_op op_addD vr_add (pd_var 2) (pd_lst (pda_cons (pd_tup (pda_cons (pd_var 7) (pda_cons (pd_ix (hu_of hr) (pd_var 5) pd_int) pda_nil))) pda_nil))) (pda_cons (pd_var 3) (pda_cons (pd_op op_sub vr_sub (pd_var 4) pd_int) pda_nil)))))) pda_nil)))))))))))
theorem sc_law_clause : FnScope N_law_clause ["_law_state_here", "_law_ops", "_law_known", "_law_wanted", "_law_depth", "_law_operation"] (defScope s_law_clause) := ⟨rfl, rfl, rfl, by decide +kernel, rfl, by decide +kernel, by decide +kernel⟩
theorem ok_law_clause (T : Tx K mg ca fa fd) (H1 : H1s P w K mg base ca fa fd (k + 1) W) (H0 : H1s P w K mg base ca fa fd k M) : FnOk P w K mg base (L2.CX P w) (k + 2) (fa .law_clause) (fd .law_clause) ["_law_state_here", "_law_ops", "_law_known", "_law_wanted", "_law_depth", "_law_operation"] (lift K ca 6 (runD 14 (b_law_clause W M))) := by
  refine def_ok T.f_law_clause sc_law_clause rfl (b_law_clause W M) fun cdv A outer s H E B eB hr G => ?_
  subst eB
  exact (pds_cons (pds_par 6 7 rfl G.nd (by decide) (pda_cons (pd_op op_addD vr_add pd_str (pd_callTy (x := "str") call_str_int vrc_str rfl T.z_str (by decide +kernel) (pda_cons (pd_callB (x := "len") call_len vrc_len rfl T.z_len (by decide +kernel) (pda_cons (pd_var 2) pda_nil)) pda_nil))) (pda_cons (pd_op op_addD vr_add pd_str (pd_callTy (x := "str") call_str_int vrc_str rfl T.z_str (by decide +kernel) (pda_cons (pd_op op_addD vr_add (pd_callB (x := "len") call_len vrc_len rfl T.z_len (by decide +kernel) (pda_cons (pd_var 2) pda_nil)) pd_int) pda_nil))) pda_nil)) rfl rfl)
  (pds_cons (pds_set 8 G.nd (pd_op op_addD vr_add (pd_var 2) (pd_lst (pda_cons (pd_tup (pda_cons (pd_var 6) (pda_cons (pd_ix (hu_of hr) (pd_var 5) pd_int) pda_nil))) (pda_cons (pd_tup (pda_cons (pd_var 7) (pda_cons (pd_tup (pda_cons pd_str (pda_cons (pd_ix (hu_of hr) (pd_var 5) pd_int) (pda_cons (pd_var 3) pda_nil)))) pda_nil))) pda_nil)))))
  (pds_cons (pds_set 9 G.nd (pd_call (x := "_law_take") (H1 .law_take) hr rfl T.g_law_take T.f_law_take.kp T.b_law_take G.tk (pda_cons (pd_var 0) (pda_cons pd_int pda_nil))))
  (pds_cons (pds_set 10 G.nd (pd_op op_addD vr_add (pd_var 2) (pd_lst (pda_cons (pd_tup (pda_cons (pd_var 6) (pda_cons (pd_ix (hu_of hr) (pd_var 5) pd_int) pda_nil))) pda_nil))))
  (pds_cons (pds_if (pdt_cmp op_lt vr_lt (pd_var 9) pd_int (nomark _)) (pds_one (pds_set 11 G.nd (pd_tup (pda_cons pd_str (pda_cons (pd_tup (pda_cons pd_str (pda_cons (pd_var 7) pda_nil))) (pda_cons (pd_call (x := "_law_tree") (H1 .law_tree) hr rfl T.g_law_tree T.f_law_tree.kp T.b_law_tree G.tk (pda_cons (pd_var 0) (pda_cons (pd_var 1) (pda_cons (pd_var 10) (pda_cons (pd_ix (hu_of hr) (pd_var 5) pd_int) (pda_cons (pd_op op_sub vr_sub (pd_var 4) pd_int) pda_nil)))))) pda_nil)))))) (pds_one (pds_if (pdt_cmp (op_eqD hr.units) vr_eq (pd_var 9) pd_int (nomark _)) (pds_one (pds_set 11 G.nd (pd_tup (pda_cons pd_str (pda_cons (pd_tup (pda_cons pd_str (pda_cons (pd_var 7) pda_nil))) (pda_cons (pd_call (x := "_law_tree") (H1 .law_tree) hr rfl T.g_law_tree T.f_law_tree.kp T.b_law_tree G.tk (pda_cons (pd_var 0) (pda_cons (pd_var 1) (pda_cons (pd_var 8) (pda_cons (pd_ix (hu_of hr) (pd_var 5) pd_int) (pda_cons (pd_op op_sub vr_sub (pd_var 4) pd_int) pda_nil)))))) pda_nil)))))) (pds_one (pds_if (pdw_t (pdw_and (pdt_cmp (op_eqD hr.units) vr_eq (pd_var 9) pd_int (nomark _)) (pdw_and1 (pdt_cmp (op_eqD hr.units) vr_eq (pd_ix (hu_of hr) (pd_var 3) pd_int) pd_str (nomark _))))) (pds_cons (pds_set 12 G.nd (pd_tup (pda_cons pd_str (pda_cons (pd_tup (pda_cons pd_str (pda_cons (pd_var 7) pda_nil))) (pda_cons (pd_call (x := "_law_leaf") (H1 .law_leaf) hr rfl T.g_law_leaf T.f_law_leaf.kp T.b_law_leaf G.tk (pda_cons (pd_var 0) (pda_cons (pd_var 10) (pda_cons (pd_ix (hu_of hr) (pd_var 5) pd_int) pda_nil)))) pda_nil)))))
  (pds_one (pds_set 11 G.nd (pd_tup (pda_cons pd_str (pda_cons pd_str (pda_cons (pd_var 12) (pda_cons (pd_tup (pda_cons pd_str (pda_cons (pd_tup (pda_cons pd_str (pda_cons (pd_var 7) pda_nil))) (pda_cons (pd_call (x := "_law_leaf") (H1 .law_leaf) hr rfl T.g_law_leaf T.f_law_leaf.kp T.b_law_leaf G.tk (pda_cons (pd_var 0) (pda_cons (pd_var 10) (pda_cons (pd_ix (hu_of hr) (pd_var 5) pd_int) pda_nil)))) pda_nil)))) pda_nil)))))))) (pds_one (pds_if (pdt_cmp (op_eqD hr.units) vr_eq (pd_var 9) pd_int (nomark _)) (pds_cons (pds_set 13 G.nd (pd_call (x := "_law_leaf") (H1 .law_leaf) hr rfl T.g_law_leaf T.f_law_leaf.kp T.b_law_leaf G.tk (pda_cons (pd_var 0) (pda_cons (pd_var 10) (pda_cons (pd_tup (pda_cons pd_str pda_nil)) pda_nil)))))
  (pds_one (pds_set 11 G.nd (pd_tup (pda_cons pd_str (pda_cons (pd_var 13) (pda_cons (pd_tup (pda_cons pd_str (pda_cons (pd_tup (pda_cons pd_str (pda_cons (pd_var 7) pda_nil))) (pda_cons (pd_call (x := "_law_leaf") (H1 .law_leaf) hr rfl T.g_law_leaf T.f_law_leaf.kp T.b_law_leaf G.tk (pda_cons (pd_var 0) (pda_cons (pd_var 10) (pda_cons (pd_ix (hu_of hr) (pd_var 5) pd_int) pda_nil)))) pda_nil)))) pda_nil))))))) (pds_one (pds_set 11 G.nd (pd_call (x := "_law_tree") (H1 .law_tree) hr rfl T.g_law_tree T.f_law_tree.kp T.b_law_tree G.tk (pda_cons (pd_var 0) (pda_cons (pd_var 1) (pda_cons (pd_var 8) (pda_cons (pd_var 3) (pda_cons (pd_op op_sub vr_sub (pd_var 4) pd_int) pda_nil)))))))))))))))
  (pds_one (pds_ret (pd_tup (pda_cons (pd_ix (hu_of hr) (pd_var 5) pd_int) (pda_cons (pd_var 6) (pda_cons (pd_var 7) (pda_cons (pd_var 11) pda_nil))))))))))))
theorem sc_law_handling : FnScope N_law_handling ["_law_state_here", "_law_ops", "_law_known", "_law_wanted", "_law_depth"] (defScope s_law_handling) := ⟨rfl, rfl, rfl, by decide +kernel, rfl, by decide +kernel, by decide +kernel⟩
theorem ok_law_handling (T : Tx K mg ca fa fd) (H1 : H1s P w K mg base ca fa fd (k + 1) W) (H0 : H1s P w K mg base ca fa fd k M) : FnOk P w K mg base (L2.CX P w) (k + 2) (fa .law_handling) (fd .law_handling) ["_law_state_here", "_law_ops", "_law_known", "_law_wanted", "_law_depth"] (lift K ca 5 (runD 11 (b_law_handling W M))) := by
  refine def_ok T.f_law_handling sc_law_handling rfl (b_law_handling W M) fun cdv A outer s H E B eB hr G => ?_
  subst eB
  exact (pds_cons (pds_set 5 G.nd (pd_var 3))
  (pds_cons (pds_if (pdt_cmp (op_eqD hr.units) vr_eq (pd_call (x := "_law_take") (H1 .law_take) hr rfl T.g_law_take T.f_law_take.kp T.b_law_take G.tk (pda_cons (pd_var 0) (pda_cons pd_int pda_nil))) pd_int (nomark _)) (pds_one (pds_set 5 G.nd (pd_call (x := "_law_kind") (H1 .law_kind) hr rfl T.g_law_kind T.f_law_kind.kp T.b_law_kind G.tk (pda_cons (pd_var 0) (pda_cons pd_int pda_nil))))) pds_nil)
  (pds_cons (pds_set 6 G.nd (pd_call (x := "_law_tree") (H1 .law_tree) hr rfl T.g_law_tree T.f_law_tree.kp T.b_law_tree G.tk (pda_cons (pd_var 0) (pda_cons (pd_var 1) (pda_cons (pd_var 2) (pda_cons (pd_var 5) (pda_cons (pd_op op_sub vr_sub (pd_var 4) pd_int) pda_nil)))))))
  (pds_cons (pds_set 7 G.nd (pd_op op_addD vr_add pd_str (pd_callTy (x := "str") call_str_int vrc_str rfl T.z_str (by decide +kernel) (pda_cons (pd_callB (x := "len") call_len vrc_len rfl T.z_len (by decide +kernel) (pda_cons (pd_var 2) pda_nil)) pda_nil))))
  (pds_cons (pds_set 8 G.nd (pd_call (x := "_law_tree") (H1 .law_tree) hr rfl T.g_law_tree T.f_law_tree.kp T.b_law_tree G.tk (pda_cons (pd_var 0) (pda_cons (pd_var 1) (pda_cons (pd_op op_addD vr_add (pd_var 2) (pd_lst (pda_cons (pd_tup (pda_cons (pd_var 7) (pda_cons (pd_var 5) pda_nil))) pda_nil))) (pda_cons (pd_var 3) (pda_cons (pd_op op_sub vr_sub (pd_var 4) pd_int) pda_nil)))))))
  (pds_cons (pds_set 9 G.nd (pd_lstM pda_nil))
  (pds_cons (pds_for G.ow rfl (pdi_list (pd_var 1)) (pdg_name 10 G.nd) (pds_one (pds_if (pdt_cmp op_gt vr_gt (pd_call (x := "_law_take") (H1 .law_take) hr rfl T.g_law_take T.f_law_take.kp T.b_law_take G.tk (pda_cons (pd_var 0) (pda_cons pd_int pda_nil))) pd_int (nomark _)) (pds_one (pds_expr (pd_bm PySem.F.plainAttrs_list PySem.F.slot_list_append PySem.F.type_list_append mt_append vrm_append (pd_var 9) (pda_cons (pd_call (x := "_law_clause") (H1 .law_clause) hr rfl T.g_law_clause T.f_law_clause.kp T.b_law_clause G.tk (pda_cons (pd_var 0) (pda_cons (pd_var 1) (pda_cons (pd_var 2) (pda_cons (pd_var 3) (pda_cons (pd_var 4) (pda_cons (pd_var 10) pda_nil))))))) pda_nil)))) pds_nil)))
  (pds_one (pds_ret (pd_tup (pda_cons pd_str (pda_cons (pd_var 6) (pda_cons (pd_tup (pda_cons (pd_var 7) (pda_cons (pd_var 8) pda_nil))) (pda_cons (pd_callTy (x := "tuple") call_tuple_of vrc_tuple rfl T.z_tuple (by decide +kernel) (pda_cons (pd_frz (pd_var 9)) pda_nil)) pda_nil))))))))))))))
theorem sc_law_loop : FnScope N_law_loop ["_law_state_here", "_law_ops", "_law_known", "_law_wanted", "_law_depth"] (defScope s_law_loop) := ⟨rfl, rfl, rfl, by decide +kernel, rfl, by decide +kernel, by decide +kernel⟩
theorem ok_law_loop (T : Tx K mg ca fa fd) (H1 : H1s P w K mg base ca fa fd (k + 1) W) (H0 : H1s P w K mg base ca fa fd k M) : FnOk P w K mg base (L2.CX P w) (k + 2) (fa .law_loop) (fd .law_loop) ["_law_state_here", "_law_ops", "_law_known", "_law_wanted", "_law_depth"] (lift K ca 5 (runD 11 (b_law_loop W M))) := by
  refine def_ok T.f_law_loop sc_law_loop rfl (b_law_loop W M) fun cdv A outer s H E B eB hr G => ?_
  subst eB
  exact (pds_cons (pds_par 5 6 rfl G.nd (by decide) (pda_cons (pd_op op_addD vr_add pd_str (pd_callTy (x := "str") call_str_int vrc_str rfl T.z_str (by decide +kernel) (pda_cons (pd_callB (x := "len") call_len vrc_len rfl T.z_len (by decide +kernel) (pda_cons (pd_var 2) pda_nil)) pda_nil))) (pda_cons (pd_op op_addD vr_add pd_str (pd_callTy (x := "str") call_str_int vrc_str rfl T.z_str (by decide +kernel) (pda_cons (pd_op op_addD vr_add (pd_callB (x := "len") call_len vrc_len rfl T.z_len (by decide +kernel) (pda_cons (pd_var 2) pda_nil)) pd_int) pda_nil))) pda_nil)) rfl rfl)
  (pds_cons (pds_set 7 G.nd (pd_op op_addD vr_add (pd_var 2) (pd_lst (pda_cons (pd_tup (pda_cons (pd_var 5) (pda_cons (pd_tup (pda_cons pd_str (pda_cons (pd_tup (pda_cons pd_str pda_nil)) (pda_cons (pd_var 3) pda_nil)))) pda_nil))) (pda_cons (pd_tup (pda_cons (pd_var 6) (pda_cons (pd_tup (pda_cons pd_str pda_nil)) pda_nil))) pda_nil)))))
  (pds_cons (pds_set 8 G.nd (pd_tup (pda_cons pd_str (pda_cons (pd_tup (pda_cons pd_str (pda_cons (pd_var 5) pda_nil))) (pda_cons (pd_tup (pda_cons pd_str (pda_cons pd_str (pda_cons (pd_tup (pda_cons pd_str (pda_cons (pd_var 6) pda_nil))) (pda_cons (pd_tup (pda_cons pd_str (pda_cons pd_int pda_nil))) pda_nil))))) pda_nil)))))
  (pds_cons (pds_if (pdt_cmp (op_eqD hr.units) vr_eq (pd_call (x := "_law_take") (H1 .law_take) hr rfl T.g_law_take T.f_law_take.kp T.b_law_take G.tk (pda_cons (pd_var 0) (pda_cons pd_int pda_nil))) pd_int (nomark _)) (pds_one (pds_set 8 G.nd (pd_tup (pda_cons pd_str (pda_cons (pd_tup (pda_cons pd_str (pda_cons (pd_var 6) pda_nil))) (pda_cons (pd_var 8) pda_nil)))))) pds_nil)
  (pds_cons (pds_set 9 G.nd (pd_call (x := "_law_tree") (H1 .law_tree) hr rfl T.g_law_tree T.f_law_tree.kp T.b_law_tree G.tk (pda_cons (pd_var 0) (pda_cons (pd_var 1) (pda_cons (pd_var 7) (pda_cons (pd_var 3) (pda_cons (pd_op op_sub vr_sub (pd_var 4) pd_int) pda_nil)))))))
  (pds_cons (pds_set 10 G.nd (pd_tup (pda_cons pd_str (pda_cons (pd_tup (pda_cons pd_str (pda_cons pd_str (pda_cons (pd_tup (pda_cons pd_str (pda_cons (pd_var 6) pda_nil))) (pda_cons (pd_tup (pda_cons pd_str (pda_cons pd_int pda_nil))) pda_nil))))) (pda_cons (pd_var 9) (pda_cons (pd_var 8) pda_nil))))))
  (pds_cons (pds_if (pdw_t (pdw_and (pdt_cmp (op_eqD hr.units) vr_eq (pd_call (x := "_law_take") (H1 .law_take) hr rfl T.g_law_take T.f_law_take.kp T.b_law_take G.tk (pda_cons (pd_var 0) (pda_cons pd_int pda_nil))) pd_int (nomark _)) (pdw_and1 (pdt_cmp (op_eqD hr.units) vr_eq (pd_var 3) (pd_tup (pda_cons pd_str pda_nil)) (nomark _))))) (pds_one (pds_set 10 G.nd (pd_tup (pda_cons pd_str (pda_cons pd_str (pda_cons (pd_tup (pda_cons pd_str (pda_cons (pd_var 6) pda_nil))) (pda_cons (pd_var 10) pda_nil))))))) pds_nil)
  (pds_one (pds_ret (pd_tup (pda_cons pd_str (pda_cons (pd_tup (pda_cons pd_str (pda_cons (pd_var 5) (pda_cons (pd_var 6) (pda_cons (pd_var 10) pda_nil))))) (pda_cons (pd_tup (pda_cons pd_str (pda_cons (pd_call (x := "_law_take") (H1 .law_take) hr rfl T.g_law_take T.f_law_take.kp T.b_law_take G.tk (pda_cons (pd_var 0) (pda_cons pd_int pda_nil))) pda_nil))) pda_nil)))))))))))))
theorem sc_law_tree : FnScope N_law_tree ["_law_state_here", "_law_ops", "_law_known", "_law_wanted", "_law_depth"] (defScope s_law_tree) := ⟨rfl, rfl, rfl, by decide +kernel, rfl, by decide +kernel, by decide +kernel⟩
theorem ok_law_tree (T : Tx K mg ca fa fd) (H1 : H1s P w K mg base ca fa fd (k + 1) W) (H0 : H1s P w K mg base ca fa fd k M) : FnOk P w K mg base (L2.CX P w) (k + 2) (fa .law_tree) (fd .law_tree) ["_law_state_here", "_law_ops", "_law_known", "_law_wanted", "_law_depth"] (lift K ca 5 (runD 10 (b_law_tree W M))) := by
  refine def_ok T.f_law_tree sc_law_tree rfl (b_law_tree W M) fun cdv A outer s H E B eB hr G => ?_
  subst eB
  exact (pds_cons (pds_set 5 G.nd (pd_call (x := "_law_take") (H1 .law_take) hr rfl T.g_law_take T.f_law_take.kp T.b_law_take G.tk (pda_cons (pd_var 0) (pda_cons pd_int pda_nil))))
  (pds_cons (pds_set 6 G.nd (pd_op op_addD vr_add pd_str (pd_callTy (x := "str") call_str_int vrc_str rfl T.z_str (by decide +kernel) (pda_cons (pd_callB (x := "len") call_len vrc_len rfl T.z_len (by decide +kernel) (pda_cons (pd_var 2) pda_nil)) pda_nil))))
  (pds_cons (pds_if (pdw_t (pdw_or (pdt_cmp op_lt vr_lt (pd_var 4) pd_int (nomark _)) (pdw_or1 (pdt_cmp (op_eqD hr.units) vr_eq (pd_var 5) pd_int (nomark _))))) (pds_one (pds_ret (pd_call (x := "_law_leaf") (H1 .law_leaf) hr rfl T.g_law_leaf T.f_law_leaf.kp T.b_law_leaf G.tk (pda_cons (pd_var 0) (pda_cons (pd_var 2) (pda_cons (pd_var 3) pda_nil)))))) pds_nil)
  (pds_cons (pds_if (pdt_cmp op_lt vr_lt (pd_var 5) pd_int (nomark _)) (pds_one (pds_ret (pd_call (x := "_law_special") (H1 .law_special) hr rfl T.g_law_special T.f_law_special.kp T.b_law_special G.tk (pda_cons (pd_var 0) (pda_cons (pd_var 1) (pda_cons (pd_var 2) (pda_cons (pd_var 3) (pda_cons (pd_var 4) pda_nil)))))))) pds_nil)
  (pds_cons (pds_if (pdt_cmp op_lt vr_lt (pd_var 5) pd_int (nomark _)) (pds_one (pds_ret (pd_call (x := "_law_asking") (H1 .law_asking) hr rfl T.g_law_asking T.f_law_asking.kp T.b_law_asking G.tk (pda_cons (pd_var 0) (pda_cons (pd_var 1) (pda_cons (pd_var 2) (pda_cons (pd_var 3) (pda_cons (pd_var 4) pda_nil)))))))) pds_nil)
  (pds_cons (pds_if (pdt_cmp op_lt vr_lt (pd_var 5) pd_int (nomark _)) (pds_one (pds_ret (pd_call (x := "_law_handling") (H1 .law_handling) hr rfl T.g_law_handling T.f_law_handling.kp T.b_law_handling G.tk (pda_cons (pd_var 0) (pda_cons (pd_var 1) (pda_cons (pd_var 2) (pda_cons (pd_var 3) (pda_cons (pd_var 4) pda_nil)))))))) pds_nil)
  (pds_cons (pds_if (pdt_cmp (op_eqD hr.units) vr_eq (pd_var 5) pd_int (nomark _)) (pds_one (pds_ret (pd_call (x := "_law_loop") (H1 .law_loop) hr rfl T.g_law_loop T.f_law_loop.kp T.b_law_loop G.tk (pda_cons (pd_var 0) (pda_cons (pd_var 1) (pda_cons (pd_var 2) (pda_cons (pd_var 3) (pda_cons (pd_var 4) pda_nil)))))))) pds_nil)
  (pds_cons (pds_if (pdt_cmp (op_eqD hr.units) vr_eq (pd_var 5) pd_int (nomark _)) (pds_cons (pds_set 7 G.nd (pd_call (x := "_law_tree") (H1 .law_tree) hr rfl T.g_law_tree T.f_law_tree.kp T.b_law_tree G.tk (pda_cons (pd_var 0) (pda_cons (pd_var 1) (pda_cons (pd_var 2) (pda_cons (pd_tup (pda_cons pd_str pda_nil)) (pda_cons (pd_op op_sub vr_sub (pd_var 4) pd_int) pda_nil)))))))
  (pds_one (pds_ret (pd_tup (pda_cons pd_str (pda_cons (pd_var 7) (pda_cons (pd_call (x := "_law_tree") (H1 .law_tree) hr rfl T.g_law_tree T.f_law_tree.kp T.b_law_tree G.tk (pda_cons (pd_var 0) (pda_cons (pd_var 1) (pda_cons (pd_var 2) (pda_cons (pd_var 3) (pda_cons (pd_op op_sub vr_sub (pd_var 4) pd_int) pda_nil)))))) pda_nil))))))) pds_nil)
  (pds_cons (pds_set 8 G.nd (pd_call (x := "_law_kind") (H1 .law_kind) hr rfl T.g_law_kind T.f_law_kind.kp T.b_law_kind G.tk (pda_cons (pd_var 0) (pda_cons pd_int pda_nil))))
  (pds_cons (pds_if (pdt_cmp (op_eqD hr.units) vr_eq (pd_var 5) pd_int (nomark _)) (pds_cons (pds_set 7 G.nd (pd_call (x := "_law_tree") (H1 .law_tree) hr rfl T.g_law_tree T.f_law_tree.kp T.b_law_tree G.tk (pda_cons (pd_var 0) (pda_cons (pd_var 1) (pda_cons (pd_var 2) (pda_cons (pd_tup (pda_cons pd_str (pda_cons (pd_var 8) (pda_cons (pd_var 3) pda_nil)))) (pda_cons (pd_op op_sub vr_sub (pd_var 4) pd_int) pda_nil)))))))
  (pds_one (pds_ret (pd_tup (pda_cons pd_str (pda_cons (pd_var 7) (pda_cons (pd_call (x := "_law_tree") (H1 .law_tree) hr rfl T.g_law_tree T.f_law_tree.kp T.b_law_tree G.tk (pda_cons (pd_var 0) (pda_cons (pd_var 1) (pda_cons (pd_var 2) (pda_cons (pd_var 8) (pda_cons (pd_op op_sub vr_sub (pd_var 4) pd_int) pda_nil)))))) pda_nil))))))) pds_nil)
  (pds_cons (pds_if (pdt_cmp (op_eqD hr.units) vr_eq (pd_var 5) pd_int (nomark _)) (pds_cons (pds_set 9 G.nd (pd_call (x := "_law_tree") (H1 .law_tree) hr rfl T.g_law_tree T.f_law_tree.kp T.b_law_tree G.tk (pda_cons (pd_var 0) (pda_cons (pd_var 1) (pda_cons (pd_var 2) (pda_cons (pd_tup (pda_cons pd_str pda_nil)) (pda_cons (pd_op op_sub vr_sub (pd_var 4) pd_int) pda_nil)))))))
  (pds_cons (pds_set 7 G.nd (pd_call (x := "_law_tree") (H1 .law_tree) hr rfl T.g_law_tree T.f_law_tree.kp T.b_law_tree G.tk (pda_cons (pd_var 0) (pda_cons (pd_var 1) (pda_cons (pd_var 2) (pda_cons (pd_var 3) (pda_cons (pd_op op_sub vr_sub (pd_var 4) pd_int) pda_nil)))))))
  (pds_one (pds_ret (pd_tup (pda_cons pd_str (pda_cons (pd_var 9) (pda_cons (pd_var 7) (pda_cons (pd_call (x := "_law_tree") (H1 .law_tree) hr rfl T.g_law_tree T.f_law_tree.kp T.b_law_tree G.tk (pda_cons (pd_var 0) (pda_cons (pd_var 1) (pda_cons (pd_var 2) (pda_cons (pd_var 3) (pda_cons (pd_op op_sub vr_sub (pd_var 4) pd_int) pda_nil)))))) pda_nil))))))))) pds_nil)
  (pds_cons (pds_if (pdt_cmp (op_eqD hr.units) vr_eq (pd_call (x := "_law_take") (H1 .law_take) hr rfl T.g_law_take T.f_law_take.kp T.b_law_take G.tk (pda_cons (pd_var 0) (pda_cons pd_int pda_nil))) pd_int (nomark _)) (pds_one (pds_ret (pd_tup (pda_cons pd_str (pda_cons (pd_call (x := "_law_tree") (H1 .law_tree) hr rfl T.g_law_tree T.f_law_tree.kp T.b_law_tree G.tk (pda_cons (pd_var 0) (pda_cons (pd_var 1) (pda_cons (pd_var 2) (pda_cons (pd_tup (pda_cons pd_str (pda_cons (pd_var 8) (pda_cons (pd_var 3) pda_nil)))) (pda_cons (pd_op op_sub vr_sub (pd_var 4) pd_int) pda_nil)))))) pda_nil))))) pds_nil)
  (pds_cons (pds_set 7 G.nd (pd_call (x := "_law_tree") (H1 .law_tree) hr rfl T.g_law_tree T.f_law_tree.kp T.b_law_tree G.tk (pda_cons (pd_var 0) (pda_cons (pd_var 1) (pda_cons (pd_var 2) (pda_cons (pd_var 8) (pda_cons (pd_op op_sub vr_sub (pd_var 4) pd_int) pda_nil)))))))
  (pds_one (pds_ret (pd_tup (pda_cons pd_str (pda_cons (pd_var 6) (pda_cons (pd_var 7) (pda_cons (pd_call (x := "_law_tree") (H1 .law_tree) hr rfl T.g_law_tree T.f_law_tree.kp T.b_law_tree G.tk (pda_cons (pd_var 0) (pda_cons (pd_var 1) (pda_cons (pd_op op_addD vr_add (pd_var 2) (pd_lst (pda_cons (pd_tup (pda_cons (pd_var 6) (pda_cons (pd_var 8) pda_nil))) pda_nil))) (pda_cons (pd_var 3) (pda_cons (pd_op op_sub vr_sub (pd_var 4) pd_int) pda_nil)))))) pda_nil))))))))))))))))))))
theorem sc_law_program : FnScope N_law_program ["_law_state_here"] (defScope s_law_program) := ⟨rfl, rfl, rfl, by decide +kernel, rfl, by decide +kernel, by decide +kernel⟩
theorem ok_law_program (T : Tx K mg ca fa fd) (H1 : H1s P w K mg base ca fa fd (k + 1) W) (H0 : H1s P w K mg base ca fa fd k M) : FnOk P w K mg base (L2.CX P w) (k + 2) (fa .law_program) (fd .law_program) ["_law_state_here"] (lift K ca 1 (runD 6 (b_law_program W M))) := by
  refine def_ok T.f_law_program sc_law_program rfl (b_law_program W M) fun cdv A outer s H E B eB hr G => ?_
  subst eB
  exact (pds_cons (pds_set 1 G.nd (pd_call (x := "_law_operations") (H1 .law_operations) hr rfl T.g_law_operations T.f_law_operations.kp T.b_law_operations G.tk (pda_cons (pd_var 0) pda_nil)))
  (pds_cons (pds_set 2 G.nd (pd_call (x := "_law_kind") (H1 .law_kind) hr rfl T.g_law_kind T.f_law_kind.kp T.b_law_kind G.tk (pda_cons (pd_var 0) (pda_cons pd_int pda_nil))))
  (pds_cons (pds_set 3 G.nd (pd_call (x := "_law_tree") (H1 .law_tree) hr rfl T.g_law_tree T.f_law_tree.kp T.b_law_tree G.tk (pda_cons (pd_var 0) (pda_cons (pd_var 1) (pda_cons (pd_lst pda_nil) (pda_cons (pd_var 2) (pda_cons (pd_op op_addD vr_add (pd_op op_addD vr_add pd_int (pd_call (x := "_law_take") (H1 .law_take) hr rfl T.g_law_take T.f_law_take.kp T.b_law_take G.tk (pda_cons (pd_var 0) (pda_cons pd_int pda_nil)))) (pd_callTy (x := "int") call_int1 vrc_int rfl T.z_int (by decide +kernel) (pda_cons (pd_cmp (op_eqD hr.units) vr_eq (pd_call (x := "_law_take") (H1 .law_take) hr rfl T.g_law_take T.f_law_take.kp T.b_law_take G.tk (pda_cons (pd_var 0) (pda_cons pd_int pda_nil))) pd_int (nomark _)) pda_nil))) pda_nil)))))))
  (pds_cons (pds_if (pdt_cmp (op_eqD hr.units) vr_eq (pd_call (x := "_law_take") (H1 .law_take) hr rfl T.g_law_take T.f_law_take.kp T.b_law_take G.tk (pda_cons (pd_var 0) (pda_cons pd_int pda_nil))) pd_int (nomark _)) (pds_cons (pds_set 4 G.nd (pd_lstM pda_nil))
  (pds_cons (pds_for G.ow rfl (pdi_list (pd_var 1)) (pdg_name 5 G.nd) (pds_one (pds_expr (pd_bm PySem.F.plainAttrs_list PySem.F.slot_list_append PySem.F.type_list_append mt_append vrm_append (pd_var 4) (pda_cons (pd_call (x := "_law_clause") (H1 .law_clause) hr rfl T.g_law_clause T.f_law_clause.kp T.b_law_clause G.tk (pda_cons (pd_var 0) (pda_cons (pd_lst (pda_cons (pd_var 5) pda_nil)) (pda_cons (pd_lst pda_nil) (pda_cons (pd_var 2) (pda_cons pd_int (pda_cons (pd_var 5) pda_nil))))))) pda_nil)))))
  (pds_one (pds_set 3 G.nd (pd_tup (pda_cons pd_str (pda_cons (pd_var 3) (pda_cons (pd_tup (pda_cons pd_str (pda_cons (pd_tup (pda_cons pd_str (pda_cons pd_str pda_nil))) pda_nil))) (pda_cons (pd_callTy (x := "tuple") call_tuple_of vrc_tuple rfl T.z_tuple (by decide +kernel) (pda_cons (pd_frz (pd_var 4)) pda_nil)) pda_nil))))))))) pds_nil)
  (pds_one (pds_ret (pd_tup (pda_cons (pd_tup (pda_cons pd_str (pda_cons (pd_callTy (x := "tuple") call_tuple_of vrc_tuple rfl T.z_tuple (by decide +kernel) (pda_cons (pd_var 1) pda_nil)) (pda_cons (pd_var 3) pda_nil)))) (pda_cons (pd_var 2) pda_nil)))))))))
theorem sc_law_find : FnScope N_law_find ["_law_env", "_law_name"] (defScope s_law_find) := ⟨rfl, rfl, rfl, by decide +kernel, rfl, by decide +kernel, by decide +kernel⟩
theorem ok_law_find (T : Tx K mg ca fa fd) (H1 : H1s P w K mg base ca fa fd (k + 1) W) (H0 : H1s P w K mg base ca fa fd k M) : FnOk P w K mg base (L2.CX P w) (k + 2) (fa .law_find) (fd .law_find) ["_law_env", "_law_name"] (lift K ca 2 (runD 2 (b_law_find W M))) := by
  refine def_ok T.f_law_find sc_law_find rfl (b_law_find W M) fun cdv A outer s H E B eB hr G => ?_
  subst eB
  exact (pds_cons (pds_while G.ow (pdt_cmp (op_neD hr.units) vr_ne (pd_ix (hu_of hr) (pd_var 0) pd_int) (pd_var 1) (nomark _)) (pds_one (pds_set 0 G.nd (pd_ix (hu_of hr) (pd_var 0) pd_int))))
  (pds_one (pds_ret (pd_ix (hu_of hr) (pd_var 0) pd_int))))
theorem sc_law_operate : FnScope N_law_operate ["_law_sign", "_law_one", "_law_two"] (defScope s_law_operate) := ⟨rfl, rfl, rfl, by decide +kernel, rfl, by decide +kernel, by decide +kernel⟩
theorem ok_law_operate (T : Tx K mg ca fa fd) (H1 : H1s P w K mg base ca fa fd (k + 1) W) (H0 : H1s P w K mg base ca fa fd k M) : FnOk P w K mg base (L2.CX P w) (k + 2) (fa .law_operate) (fd .law_operate) ["_law_sign", "_law_one", "_law_two"] (lift K ca 3 (runD 4 (b_law_operate W M))) := by
  refine def_ok T.f_law_operate sc_law_operate rfl (b_law_operate W M) fun cdv A outer s H E B eB hr G => ?_
  subst eB
  exact (pds_cons (pds_if (pdt_cmp (op_eqD hr.units) vr_eq (pd_var 0) pd_str (nomark _)) (pds_one (pds_ret (pd_tup (pda_cons pd_str (pda_cons (pd_cmp op_lt vr_lt (pd_var 1) (pd_var 2) (nomark _)) pda_nil))))) pds_nil)
  (pds_cons (pds_if (pdt_cmp (op_eqD hr.units) vr_eq (pd_var 0) pd_str (nomark _)) (pds_one (pds_ret (pd_tup (pda_cons pd_str (pda_cons (pd_cmp (op_eqD hr.units) vr_eq (pd_var 1) (pd_var 2) (nomark _)) pda_nil))))) pds_nil)
  (pds_cons (pds_set 3 G.nd (pd_dicD (pdp_cons (pd_op op_addD vr_add (pd_var 1) (pd_var 2)) (pdp_cons (pd_op op_sub vr_sub (pd_var 1) (pd_var 2)) (pdp_cons (pd_op op_mul vr_mul (pd_var 1) (pd_var 2)) pdp_nil)))))
  (pds_one (pds_ret (pd_tup (pda_cons pd_str (pda_cons (pd_op op_sub vr_sub (pd_op op_mod vr_mod (pd_callTy (x := "int") call_int1 vrc_int rfl T.z_int (by decide +kernel) (pda_cons (pd_op op_addD vr_add (pd_ix (hu_of hr) (pd_var 3) (pd_var 0)) pd_int) pda_nil)) pd_int) pd_int) pda_nil))))))))
theorem sc_law_into : FnScope N_law_into ["_law_tree_here", "_law_env", "_law_frames"] (defScope s_law_into) := ⟨rfl, rfl, rfl, by decide +kernel, rfl, by decide +kernel, by decide +kernel⟩
theorem ok_law_into (T : Tx K mg ca fa fd) (H1 : H1s P w K mg base ca fa fd (k + 1) W) (H0 : H1s P w K mg base ca fa fd k M) : FnOk P w K mg base (L2.CX P w) (k + 2) (fa .law_into) (fd .law_into) ["_law_tree_here", "_law_env", "_law_frames"] (lift K ca 3 (runD 4 (b_law_into W M))) := by
  refine def_ok T.f_law_into sc_law_into rfl (b_law_into W M) fun cdv A outer s H E B eB hr G => ?_
  subst eB
  exact (pds_cons (pds_set 3 G.nd (pd_ix (hu_of hr) (pd_var 0) pd_int))
  (pds_cons (pds_if (pdt_cmp (op_eqD hr.units) vr_eq (pd_var 3) pd_str (nomark _)) (pds_one (pds_ret (pd_tup (pda_cons pd_non (pda_cons pd_non (pda_cons (pd_tup (pda_cons pd_str (pda_cons (pd_ix (hu_of hr) (pd_var 0) pd_int) pda_nil))) pda_nil)))))) pds_nil)
  (pds_cons (pds_if (pdt_cmp (op_eqD hr.units) vr_eq (pd_var 3) pd_str (nomark _)) (pds_one (pds_ret (pd_tup (pda_cons pd_non (pda_cons pd_non (pda_cons (pd_tup (pda_cons pd_str (pda_cons (pd_ix (hu_of hr) (pd_var 0) pd_int) pda_nil))) pda_nil)))))) pds_nil)
  (pds_cons (pds_if (pdt_cmp (op_eqD hr.units) vr_eq (pd_var 3) pd_str (nomark _)) (pds_one (pds_ret (pd_tup (pda_cons pd_non (pda_cons pd_non (pda_cons (pd_tup (pda_cons pd_str pda_nil)) pda_nil)))))) pds_nil)
  (pds_cons (pds_if (pdt_cmp (op_eqD hr.units) vr_eq (pd_var 3) pd_str (nomark _)) (pds_one (pds_ret (pd_tup (pda_cons pd_non (pda_cons pd_non (pda_cons (pd_call (x := "_law_find") (H1 .law_find) hr rfl T.g_law_find T.f_law_find.kp T.b_law_find G.tk (pda_cons (pd_var 1) (pda_cons (pd_ix (hu_of hr) (pd_var 0) pd_int) pda_nil))) pda_nil)))))) pds_nil)
  (pds_cons (pds_if (pdt_cmp (op_eqD hr.units) vr_eq (pd_var 3) pd_str (nomark _)) (pds_one (pds_ret (pd_tup (pda_cons pd_non (pda_cons pd_non (pda_cons (pd_tup (pda_cons pd_str (pda_cons pd_str (pda_cons (pd_ix (hu_of hr) (pd_var 0) pd_int) (pda_cons (pd_ix (hu_of hr) (pd_var 0) pd_int) (pda_cons (pd_var 1) pda_nil)))))) pda_nil)))))) pds_nil)
  (pds_cons (pds_if (pdt_cmp (op_eqD hr.units) vr_eq (pd_var 3) pd_str (nomark _)) (pds_one (pds_ret (pd_tup (pda_cons pd_non (pda_cons pd_non (pda_cons (pd_tup (pda_cons pd_str (pda_cons (pd_ix (hu_of hr) (pd_var 0) pd_int) (pda_cons (pd_ix (hu_of hr) (pd_var 0) pd_int) (pda_cons (pd_ix (hu_of hr) (pd_var 0) pd_int) (pda_cons (pd_var 1) pda_nil)))))) pda_nil)))))) pds_nil)
  (pds_cons (pds_expr (pd_bm PySem.F.plainAttrs_list PySem.F.slot_list_append PySem.F.type_list_append mt_append vrm_append (pd_var 2) (pda_cons (pd_tup (pda_cons (pd_var 0) (pda_cons (pd_var 1) (pda_cons pd_int (pda_cons pd_non pda_nil))))) pda_nil)))
  (pds_cons (pds_if (pdt_cmp (op_inD (hu_of hr)) (vr_in false) (pd_var 3) (pd_lst (pda_cons pd_str (pda_cons pd_str (pda_cons pd_str pda_nil)))) rfl) (pds_one (pds_ret (pd_tup (pda_cons (pd_ix (hu_of hr) (pd_var 0) pd_int) (pda_cons (pd_var 1) (pda_cons pd_non pda_nil)))))) pds_nil)
  (pds_one (pds_ret (pd_tup (pda_cons (pd_ix (hu_of hr) (pd_var 0) pd_int) (pda_cons (pd_var 1) (pda_cons pd_non pda_nil)))))))))))))))
theorem sc_law_second : FnScope N_law_second ["_law_world", "_law_frames", "_law_tree_here", "_law_first", "_law_value"] (defScope s_law_second) := ⟨rfl, rfl, rfl, by decide +kernel, rfl, by decide +kernel, by decide +kernel⟩
theorem ok_law_second (T : Tx K mg ca fa fd) (H1 : H1s P w K mg base ca fa fd (k + 1) W) (H0 : H1s P w K mg base ca fa fd k M) : FnOk P w K mg base (L2.CX P w) (k + 2) (fa .law_second) (fd .law_second) ["_law_world", "_law_frames", "_law_tree_here", "_law_first", "_law_value"] (lift K ca 5 (runD 8 (b_law_second W M))) := by
  refine def_ok T.f_law_second sc_law_second rfl (b_law_second W M) fun cdv A outer s H E B eB hr G => ?_
  subst eB
  exact (pds_cons (pds_set 5 G.nd (pd_ix (hu_of hr) (pd_var 2) pd_int))
  (pds_cons (pds_if (pdt_cmp (op_eqD hr.units) vr_eq (pd_var 5) pd_str (nomark _)) (pds_one (pds_ret (pd_tup (pda_cons pd_non (pda_cons pd_non (pda_cons (pd_call (x := "_law_operate") (H1 .law_operate) hr rfl T.g_law_operate T.f_law_operate.kp T.b_law_operate G.tk (pda_cons (pd_ix (hu_of hr) (pd_var 2) pd_int) (pda_cons (pd_ix (hu_of hr) (pd_var 3) pd_int) (pda_cons (pd_ix (hu_of hr) (pd_var 4) pd_int) pda_nil)))) pda_nil)))))) pds_nil)
  (pds_cons (pds_if (pdt_cmp (op_eqD hr.units) vr_eq (pd_var 5) pd_str (nomark _)) (pds_one (pds_ret (pd_tup (pda_cons pd_non (pda_cons pd_non (pda_cons (pd_tup (pda_cons pd_str (pda_cons (pd_var 3) (pda_cons (pd_var 4) pda_nil)))) pda_nil)))))) pds_nil)
  (pds_cons (pds_if (pdt_cmp (op_eqD hr.units) vr_eq (pd_ix (hu_of hr) (pd_var 0) pd_int) pd_int (nomark _)) (pds_one (pds_ret (pd_tup (pda_cons pd_str (pda_cons pd_non (pda_cons pd_non pda_nil)))))) pds_nil)
  (pds_cons (pds_asg (pd_op op_sub vr_sub (pd_ix (hu_of hr) (pd_var 0) pd_int) pd_int) (pdg_sub (hu_of hr) (pd_var 0) pd_int))
  (pds_cons (pds_if (pdt_cmp (op_eqD hr.units) vr_eq (pd_ix (hu_of hr) (pd_var 3) pd_int) pd_str (nomark _)) (pds_cons (pds_for G.ow rfl (pdi_tup (pd_ix (hu_of hr) (pd_var 3) pd_int)) (pdg_name 6 G.nd) (pds_one (pds_expr (pd_bm PySem.F.plainAttrs_list PySem.F.slot_list_append PySem.F.type_list_append mt_append vrm_append (pd_var 1) (pda_cons (pd_var 6) pda_nil)))))
  (pds_one (pds_ret (pd_tup (pda_cons pd_non (pda_cons pd_non (pda_cons (pd_var 4) pda_nil))))))) pds_nil)
  (pds_cons (pds_set 7 G.nd (pd_ix (hu_of hr) (pd_var 3) pd_int))
  (pds_cons (pds_if (pdt_cmp (op_neD hr.units) vr_ne (pd_ix (hu_of hr) (pd_var 3) pd_int) pd_str (nomark _)) (pds_one (pds_set 7 G.nd (pd_tup (pda_cons (pd_ix (hu_of hr) (pd_var 3) pd_int) (pda_cons (pd_var 3) (pda_cons (pd_var 7) pda_nil)))))) pds_nil)
  (pds_one (pds_ret (pd_tup (pda_cons (pd_ix (hu_of hr) (pd_var 3) pd_int) (pda_cons (pd_tup (pda_cons (pd_ix (hu_of hr) (pd_var 3) pd_int) (pda_cons (pd_var 4) (pda_cons (pd_var 7) pda_nil)))) (pda_cons pd_non pda_nil))))))))))))))
theorem sc_law_asked : FnScope N_law_asked ["_law_world", "_law_frames", "_law_name", "_law_value"] (defScope s_law_asked) := ⟨rfl, rfl, rfl, by decide +kernel, rfl, by decide +kernel, by decide +kernel⟩
theorem ok_law_asked (T : Tx K mg ca fa fd) (H1 : H1s P w K mg base ca fa fd (k + 1) W) (H0 : H1s P w K mg base ca fa fd k M) : FnOk P w K mg base (L2.CX P w) (k + 2) (fa .law_asked) (fd .law_asked) ["_law_world", "_law_frames", "_law_name", "_law_value"] (lift K ca 4 (runD 11 (b_law_asked W M))) := by
  refine def_ok T.f_law_asked sc_law_asked rfl (b_law_asked W M) fun cdv A outer s H E B eB hr G => ?_
  subst eB
  exact (pds_cons (pds_if (pdt_cmp (op_eqD hr.units) vr_eq (pd_ix (hu_of hr) (pd_var 0) pd_int) pd_int (nomark _)) (pds_one (pds_ret (pd_tup (pda_cons pd_str (pda_cons pd_non (pda_cons pd_non pda_nil)))))) pds_nil)
  (pds_cons (pds_asg (pd_op op_sub vr_sub (pd_ix (hu_of hr) (pd_var 0) pd_int) pd_int) (pdg_sub (hu_of hr) (pd_var 0) pd_int))
  (pds_cons (pds_for G.ow rfl (pdi_revR rfl T.z_reversed (pdr_1 rfl T.z_range (pd_callB (x := "len") call_len vrc_len rfl T.z_len (by decide +kernel) (pda_cons (pd_var 1) pda_nil)))) (pdg_name 4 G.nd) (pds_cons (pds_asg (pd_ix (hu_of hr) (pd_var 1) (pd_var 4)) (pdg_tup rfl (pdgs_cons (pdg_name 5 G.nd) (pdgs_cons (pdg_name 6 G.nd) (pdgs_cons (pdg_name 7 G.nd) (pdgs_cons (pdg_name 8 G.nd) pdgs_nil))))))
  (pds_one (pds_if (pdt_cmp (op_eqD hr.units) vr_eq (pd_ix (hu_of hr) (pd_var 5) pd_int) pd_str (nomark _)) (pds_one (pds_for G.ow rfl (pdi_tup (pd_ix (hu_of hr) (pd_var 5) pd_int)) (pdg_name 9 G.nd) (pds_one (pds_if (pdt_cmp (op_eqD hr.units) vr_eq (pd_ix (hu_of hr) (pd_var 9) pd_int) (pd_var 2) (nomark _)) (pds_cons (pds_set 10 G.nd (pd_tup (pda_cons pd_str (pda_cons (pd_callTy (x := "tuple") call_tuple_of vrc_tuple rfl T.z_tuple (by decide +kernel) (pda_cons (pd_sl (pd_var 1) (pdo_some (pd_var 4)) pdo_none) pda_nil)) pda_nil))))
  (pds_cons (pds_expr (pd_bm PySem.F.plainAttrs_list PySem.F.slot_list_append PySem.F.type_list_append mt_append vrm_append (pd_ix (hu_of hr) (pd_var 0) pd_int) (pda_cons (pd_var 9) pda_nil)))
  (pds_cons (pds_while G.ow (pdt_cmp op_gt vr_gt (pd_callB (x := "len") call_len vrc_len rfl T.z_len (by decide +kernel) (pda_cons (pd_var 1) pda_nil)) (pd_var 4) (nomark _)) (pds_one (pds_expr (pd_bm0 PySem.F.plainAttrs_list PySem.F.slot_list_pop PySem.F.type_list_pop mt_pop vrm_pop (pd_var 1)))))
  (pds_one (pds_ret (pd_tup (pda_cons (pd_ix (hu_of hr) (pd_var 9) pd_int) (pda_cons (pd_tup (pda_cons (pd_ix (hu_of hr) (pd_var 9) pd_int) (pda_cons (pd_var 10) (pda_cons (pd_tup (pda_cons (pd_ix (hu_of hr) (pd_var 9) pd_int) (pda_cons (pd_var 3) (pda_cons (pd_var 6) pda_nil)))) pda_nil)))) (pda_cons pd_non pda_nil))))))))) pds_nil)))) pds_nil))))
  (pds_one (pds_ret (pd_tup (pda_cons pd_str (pda_cons (pd_var 2) (pda_cons pd_non pda_nil)))))))))
theorem sc_law_back : FnScope N_law_back ["_law_world", "_law_frames", "_law_value"] (defScope s_law_back) := ⟨rfl, rfl, rfl, by decide +kernel, rfl, by decide +kernel, by decide +kernel⟩
theorem ok_law_back (T : Tx K mg ca fa fd) (H1 : H1s P w K mg base ca fa fd (k + 1) W) (H0 : H1s P w K mg base ca fa fd k M) : FnOk P w K mg base (L2.CX P w) (k + 2) (fa .law_back) (fd .law_back) ["_law_world", "_law_frames", "_law_value"] (lift K ca 3 (runD 8 (b_law_back W M))) := by
  refine def_ok T.f_law_back sc_law_back rfl (b_law_back W M) fun cdv A outer s H E B eB hr G => ?_
  subst eB
  exact (pds_cons (pds_asg (pd_bm0 PySem.F.plainAttrs_list PySem.F.slot_list_pop PySem.F.type_list_pop mt_pop vrm_pop (pd_var 1)) (pdg_tup rfl (pdgs_cons (pdg_name 3 G.nd) (pdgs_cons (pdg_name 4 G.nd) (pdgs_cons (pdg_name 5 G.nd) (pdgs_cons (pdg_name 6 G.nd) pdgs_nil))))))
  (pds_cons (pds_set 7 G.nd (pd_ix (hu_of hr) (pd_var 3) pd_int))
  (pds_cons (pds_if (pdt_cmp (op_eqD hr.units) vr_eq (pd_var 5) pd_int (nomark _)) (pds_one (pds_ret (pd_call (x := "_law_second") (H1 .law_second) hr rfl T.g_law_second T.f_law_second.kp T.b_law_second G.tk (pda_cons (pd_var 0) (pda_cons (pd_var 1) (pda_cons (pd_var 3) (pda_cons (pd_var 6) (pda_cons (pd_var 2) pda_nil)))))))) pds_nil)
  (pds_cons (pds_if (pdt_cmp (op_inD (hu_of hr)) (vr_in false) (pd_var 7) (pd_lst (pda_cons pd_str (pda_cons pd_str (pda_cons pd_str pda_nil)))) rfl) (pds_cons (pds_expr (pd_bm PySem.F.plainAttrs_list PySem.F.slot_list_append PySem.F.type_list_append mt_append vrm_append (pd_var 1) (pda_cons (pd_tup (pda_cons (pd_var 3) (pda_cons (pd_var 4) (pda_cons pd_int (pda_cons (pd_var 2) pda_nil))))) pda_nil)))
  (pds_one (pds_ret (pd_tup (pda_cons (pd_ix (hu_of hr) (pd_var 3) (pd_op op_addD vr_add pd_int (pd_callTy (x := "int") call_int1 vrc_int rfl T.z_int (by decide +kernel) (pda_cons (pd_cmp (op_eqD hr.units) vr_eq (pd_var 7) pd_str (nomark _)) pda_nil)))) (pda_cons (pd_var 4) (pda_cons pd_non pda_nil))))))) pds_nil)
  (pds_cons (pds_if (pdt_cmp (op_eqD hr.units) vr_eq (pd_var 7) pd_str (nomark _)) (pds_one (pds_ret (pd_tup (pda_cons (pd_ix (hu_of hr) (pd_var 3) pd_int) (pda_cons (pd_tup (pda_cons (pd_ix (hu_of hr) (pd_var 3) pd_int) (pda_cons (pd_var 2) (pda_cons (pd_var 4) pda_nil)))) (pda_cons pd_non pda_nil)))))) pds_nil)
  (pds_cons (pds_if (pdt_cmp (op_eqD hr.units) vr_eq (pd_var 7) pd_str (nomark _)) (pds_one (pds_ret (pd_tup (pda_cons (pd_ix (hu_of hr) (pd_var 3) (pd_op op_sub vr_sub pd_int (pd_callTy (x := "int") call_int1 vrc_int rfl T.z_int (by decide +kernel) (pda_cons (pd_ix (hu_of hr) (pd_var 2) pd_int) pda_nil)))) (pda_cons (pd_var 4) (pda_cons pd_non pda_nil)))))) pds_nil)
  (pds_cons (pds_if (pdt_cmp (op_eqD hr.units) vr_eq (pd_var 7) pd_str (nomark _)) (pds_cons (pds_expr (pd_bm PySem.F.plainAttrs_list PySem.F.slot_list_append PySem.F.type_list_append mt_append vrm_append (pd_ix (hu_of hr) (pd_var 0) pd_int) (pda_cons (pd_ix (hu_of hr) (pd_var 2) pd_int) pda_nil)))
  (pds_one (pds_ret (pd_tup (pda_cons (pd_ix (hu_of hr) (pd_var 3) pd_int) (pda_cons (pd_var 4) (pda_cons pd_non pda_nil))))))) pds_nil)
  (pds_cons (pds_if (pdt_cmp (op_eqD hr.units) vr_eq (pd_var 7) pd_str (nomark _)) (pds_one (pds_ret (pd_call (x := "_law_asked") (H1 .law_asked) hr rfl T.g_law_asked T.f_law_asked.kp T.b_law_asked G.tk (pda_cons (pd_var 0) (pda_cons (pd_var 1) (pda_cons (pd_ix (hu_of hr) (pd_var 3) pd_int) (pda_cons (pd_var 2) pda_nil))))))) pds_nil)
  (pds_cons (pds_if (pdt_cmp (op_eqD hr.units) vr_eq (pd_var 7) pd_str (nomark _)) (pds_one (pds_ret (pd_tup (pda_cons (pd_ix (hu_of hr) (pd_ix (hu_of hr) (pd_var 3) pd_int) pd_int) (pda_cons (pd_tup (pda_cons (pd_ix (hu_of hr) (pd_ix (hu_of hr) (pd_var 3) pd_int) pd_int) (pda_cons (pd_var 2) (pda_cons (pd_var 4) pda_nil)))) (pda_cons pd_non pda_nil)))))) pds_nil)
  (pds_cons (pds_if (pdt_cmp (op_eqD hr.units) vr_eq (pd_var 7) pd_str (nomark _)) (pds_one (pds_ret (pd_tup (pda_cons pd_non (pda_cons pd_non (pda_cons (pd_tup (pda_cons pd_str (pda_cons (pd_not (pd_ix (hu_of hr) (pd_var 2) pd_int)) pda_nil))) pda_nil)))))) pds_nil)
  (pds_one (pds_ret (pd_tup (pda_cons pd_non (pda_cons pd_non (pda_cons (pd_ix (hu_of hr) (pd_var 2) (pd_op op_addD vr_add pd_int (pd_callTy (x := "int") call_int1 vrc_int rfl T.z_int (by decide +kernel) (pda_cons (pd_cmp (op_eqD hr.units) vr_eq (pd_var 7) pd_str (nomark _)) pda_nil)))) pda_nil))))))))))))))))
theorem sc_law_shape : FnScope N_law_shape ["_law_value"] (defScope s_law_shape) := ⟨rfl, rfl, rfl, by decide +kernel, rfl, by decide +kernel, by decide +kernel⟩
theorem ok_law_shape (T : Tx K mg ca fa fd) (H1 : H1s P w K mg base ca fa fd (k + 1) W) (H0 : H1s P w K mg base ca fa fd k M) : FnOk P w K mg base (L2.CX P w) (k + 2) (fa .law_shape) (fd .law_shape) ["_law_value"] (lift K ca 1 (runD 1 (b_law_shape W M))) := by
  refine def_ok T.f_law_shape sc_law_shape rfl (b_law_shape W M) fun cdv A outer s H E B eB hr G => ?_
  subst eB
  exact (pds_cons (pds_if (pdt_cmp (op_eqD hr.units) vr_eq (pd_ix (hu_of hr) (pd_var 0) pd_int) pd_str (nomark _)) (pds_one (pds_ret (pd_tup (pda_cons pd_str (pda_cons (pd_call (x := "_law_shape") (H1 .law_shape) hr rfl T.g_law_shape T.f_law_shape.kp T.b_law_shape G.tk (pda_cons (pd_ix (hu_of hr) (pd_var 0) pd_int) pda_nil)) (pda_cons (pd_call (x := "_law_shape") (H1 .law_shape) hr rfl T.g_law_shape T.f_law_shape.kp T.b_law_shape G.tk (pda_cons (pd_ix (hu_of hr) (pd_var 0) pd_int) pda_nil)) pda_nil)))))) pds_nil)
  (pds_cons (pds_if (pdt_cmp (op_inD (hu_of hr)) (vr_in false) (pd_ix (hu_of hr) (pd_var 0) pd_int) (pd_lst (pda_cons pd_str (pda_cons pd_str (pda_cons pd_str pda_nil)))) rfl) (pds_one (pds_ret (pd_var 0))) pds_nil)
  (pds_one (pds_ret (pd_tup (pda_cons pd_str pda_nil))))))
theorem sc_law_outcome : FnScope N_law_outcome ["_law_tree_here", "_law_steps"] (defScope s_law_outcome) := ⟨rfl, rfl, rfl, by decide +kernel, rfl, by decide +kernel, by decide +kernel⟩
theorem ok_law_outcome (T : Tx K mg ca fa fd) (H1 : H1s P w K mg base ca fa fd (k + 1) W) (H0 : H1s P w K mg base ca fa fd k M) : FnOk P w K mg base (L2.CX P w) (k + 2) (fa .law_outcome) (fd .law_outcome) ["_law_tree_here", "_law_steps"] (lift K ca 2 (runD 9 (b_law_outcome W M))) := by
  refine def_ok T.f_law_outcome sc_law_outcome rfl (b_law_outcome W M) fun cdv A outer s H E B eB hr G => ?_
  subst eB
  exact (pds_cons (pds_set 2 G.nd (pd_lstM (pda_cons (pd_var 1) (pda_cons (pd_lstM pda_nil) (pda_cons (pd_lstM pda_nil) pda_nil)))))
  (pds_cons (pds_set 3 G.nd (pd_lstM pda_nil))
  (pds_cons (pds_par3 4 5 6 rfl G.nd (by decide) (by decide) (by decide) (pda_cons (pd_var 0) (pda_cons pd_non (pda_cons pd_non pda_nil))) rfl rfl rfl)
  (pds_cons (pds_set 7 G.nd pd_non)
  (pds_cons (pds_for G.ow rfl (pdi_range1 rfl T.z_range (pda_cons pd_int pda_nil)) (pdg_name 8 G.nd) (pds_cons (pds_if (pdt_cmp (op_eqD hr.units) vr_eq (pd_var 4) pd_str (nomark _)) (pds_one (pds_set 7 G.nd (pd_tup (pda_cons pd_str pda_nil)))) (pds_one (pds_if (pdt_cmp (op_eqD hr.units) vr_eq (pd_var 4) pd_str (nomark _)) (pds_one (pds_set 7 G.nd (pd_tup (pda_cons pd_str (pda_cons (pd_var 5) pda_nil))))) (pds_one (pds_if (pdw_t (pdw_and (pdt_cmp op_isN vr_is (pd_var 4) pd_non (nomark _)) (pdw_and1 (pdt_cmp (op_eqD hr.units) vr_eq (pd_callB (x := "len") call_len vrc_len rfl T.z_len (by decide +kernel) (pda_cons (pd_var 3) pda_nil)) pd_int (nomark _))))) (pds_one (pds_set 7 G.nd (pd_tup (pda_cons pd_str (pda_cons (pd_call (x := "_law_shape") (H1 .law_shape) hr rfl T.g_law_shape T.f_law_shape.kp T.b_law_shape G.tk (pda_cons (pd_var 6) pda_nil)) pda_nil))))) pds_nil)))))
  (pds_cons (pds_if (pdt_cmp op_notN vr_isnot (pd_var 7) pd_non (nomark _)) (pds_one pds_break) pds_nil)
  (pds_one (pds_if (pdt_cmp op_isN vr_is (pd_var 4) pd_non (nomark _)) (pds_one (pds_asg (pd_call (x := "_law_back") (H1 .law_back) hr rfl T.g_law_back T.f_law_back.kp T.b_law_back G.tk (pda_cons (pd_var 2) (pda_cons (pd_var 3) (pda_cons (pd_var 6) pda_nil)))) (pdg_tup rfl (pdgs_cons (pdg_name 4 G.nd) (pdgs_cons (pdg_name 5 G.nd) (pdgs_cons (pdg_name 6 G.nd) pdgs_nil)))))) (pds_one (pds_asg (pd_call (x := "_law_into") (H1 .law_into) hr rfl T.g_law_into T.f_law_into.kp T.b_law_into G.tk (pda_cons (pd_var 4) (pda_cons (pd_var 5) (pda_cons (pd_var 3) pda_nil)))) (pdg_tup rfl (pdgs_cons (pdg_name 4 G.nd) (pdgs_cons (pdg_name 5 G.nd) (pdgs_cons (pdg_name 6 G.nd) pdgs_nil)))))))))))
  (pds_one (pds_ret (pd_tup (pda_cons (pd_callTy (x := "tuple") call_tuple_of vrc_tuple rfl T.z_tuple (by decide +kernel) (pda_cons (pd_ix (hu_of hr) (pd_var 2) pd_int) pda_nil)) (pda_cons (pd_var 7) (pda_cons (pd_frz (pd_ix (hu_of hr) (pd_var 2) pd_int)) pda_nil)))))))))))
theorem sc_law : FnScope N_law ["_law_script"] (defScope s_law) := ⟨rfl, rfl, rfl, by decide +kernel, rfl, by decide +kernel, by decide +kernel⟩
theorem ok_lawG (T : Tx K mg ca fa fd) (H1 : H1s P w K mg base ca fa fd (k + 1) W) (H0 : H1s P w K mg base ca fa fd k M) : FnG P w K mg base (L2.CX P w) (k + 2) (fa .law) (fd .law) ["_law_script"] (lift K ca 1 (runD 7 (b_law W M))) := by
  refine def_okG T.f_law sc_law rfl (b_law W M) fun cdv A outer s H E B eB hr hgd G => ?_
  subst eB
  exact (pds_cons (pds_set 1 G.nd (pd_call (x := "_law_state") (H1 .law_state) hr rfl T.g_law_state T.f_law_state.kp T.b_law_state G.tk (pda_cons (pd_var 0) pda_nil)))
  (pds_cons (pds_set 2 G.nd (pd_ix (hu_of hr) (pd_ix (hu_of hr) (pd_call (x := "_law_program") (H1 .law_program) hr rfl T.g_law_program T.f_law_program.kp T.b_law_program G.tk (pda_cons (pd_var 1) pda_nil)) pd_int) pd_int))
  (pds_cons (pds_set 3 G.nd (pd_callB (x := "repr") (call_repr_tup hgd (room80 hr)) vrc_repr rfl T.z_repr (by decide +kernel) (pda_cons (pd_var 2) pda_nil)))
  (pds_cons (pds_for G.ow rfl (pdi_list (pd_lst (pda_cons (pd_call (x := "_law_take") (H1 .law_take) hr rfl T.g_law_take T.f_law_take.kp T.b_law_take G.tk (pda_cons (pd_var 1) (pda_cons pd_int pda_nil))) (pda_cons (pd_call (x := "_law_take") (H1 .law_take) hr rfl T.g_law_take T.f_law_take.kp T.b_law_take G.tk (pda_cons (pd_var 1) (pda_cons pd_int pda_nil))) pda_nil)))) (pdg_name 4 G.nd) (pds_cons (pds_set 5 G.nd (pd_call (x := "_law_outcome") (H1 .law_outcome) hr rfl T.g_law_outcome T.f_law_outcome.kp T.b_law_outcome G.tk (pda_cons (pd_var 2) (pda_cons (pd_var 4) pda_nil))))
  (pds_cons (pds_set 6 G.nd (pd_call (x := "run_plain") (H1 .run_plain) hr rfl T.g_run_plain T.f_run_plain.kp T.b_run_plain G.tk (pda_cons (pd_var 2) (pda_cons (pd_var 4) pda_nil))))
  (pds_one (pds_if (pdw_t (pdw_or (pdt_not (pdt_tru (pd_callB (x := "isinstance") call_isi vrc_isi rfl T.z_isinstance (by decide +kernel) (pda_cons (pd_var 6) (pda_cons (pd_tyname (x := "tuple") rfl T.z_tuple (by decide +kernel)) pda_nil))))) (pdw_or1 (pdt_cmp (op_neD hr.units) vr_ne (pd_callB (x := "repr") (call_repr_tup hgd (room80 hr)) vrc_repr rfl T.z_repr (by decide +kernel) (pda_cons (pd_var 6) pda_nil)) (pd_callB (x := "repr") (call_repr_tup hgd (room80 hr)) vrc_repr rfl T.z_repr (by decide +kernel) (pda_cons (pd_tup (pda_cons (pd_ix (hu_of hr) (pd_var 5) pd_int) (pda_cons (pd_ix (hu_of hr) (pd_var 5) pd_int) pda_nil))) pda_nil)) (nomark _))))) (pds_one (pds_ret pd_bl)) pds_nil)))))
  (pds_one (pds_ret (pd_cmp (op_eqD hr.units) vr_eq (pd_callB (x := "repr") (call_repr_tup hgd (room80 hr)) vrc_repr rfl T.z_repr (by decide +kernel) (pda_cons (pd_var 2) pda_nil)) (pd_var 3) (nomark _))))))))
theorem ok_law (T : Tx K mg ca fa fd) (H1 : H1s P w K mg base ca fa fd (k + 1) W) (H0 : H1s P w K mg base ca fa fd k M) : FnOk P w K mg base (L2.CX P w) (k + 2) (fa .law) (fd .law) ["_law_script"] (lift K ca 1 (runD 7 fun _ => dNever)) := fnOk_no
theorem all_of (T : Tx K mg ca fa fd) (n : Nat) : (∀ f, FnOk P w K mg base (L2.CX P w) (n + 1) (fa f) (fd f) (pars f) (lift K ca (arity f) (go n f))) ∧ ∀ f, FnOk P w K mg base (L2.CX P w) n (fa f) (fd f) (pars f) (lift K ca (arity f) (goM n f)) := by
  refine all_ok (nloc := nloc) (ar := arity) (body := bodies) (fa := fa) (fd := fd) (ps := pars) (fun f k W M H1 H0 => ?_) n
  cases f with
  | parts => exact ok_parts T H1 H0
  | with_parts => exact ok_with_parts T H1 H0
  | bound_names => exact ok_bound_names T H1 H0
  | put_in => exact ok_put_in T H1 H0
  | operated => exact ok_operated T H1 H0
  | is_value => exact ok_is_value T H1 H0
  | shape => exact ok_shape T H1 H0
  | quoted => exact ok_quoted T H1 H0
  | Run_init => exact ok_Run_init T H1 H0
  | Run_counted => exact ok_Run_counted T H1 H0
  | Run_begin => exact ok_Run_begin T H1 H0
  | Run_go_on => exact ok_Run_go_on T H1 H0
  | Run_single => exact ok_Run_single T H1 H0
  | Run_call => exact ok_Run_call T H1 H0
  | Run_ask => exact ok_Run_ask T H1 H0
  | Run_answer => exact ok_Run_answer T H1 H0
  | run_plain => exact ok_run_plain T H1 H0
  | law_state => exact ok_law_state T H1 H0
  | law_take => exact ok_law_take T H1 H0
  | law_kind => exact ok_law_kind T H1 H0
  | law_operations => exact ok_law_operations T H1 H0
  | law_leaf => exact ok_law_leaf T H1 H0
  | law_special => exact ok_law_special T H1 H0
  | law_asking => exact ok_law_asking T H1 H0
  | law_clause => exact ok_law_clause T H1 H0
  | law_handling => exact ok_law_handling T H1 H0
  | law_loop => exact ok_law_loop T H1 H0
  | law_tree => exact ok_law_tree T H1 H0
  | law_program => exact ok_law_program T H1 H0
  | law_find => exact ok_law_find T H1 H0
  | law_operate => exact ok_law_operate T H1 H0
  | law_into => exact ok_law_into T H1 H0
  | law_second => exact ok_law_second T H1 H0
  | law_asked => exact ok_law_asked T H1 H0
  | law_back => exact ok_law_back T H1 H0
  | law_shape => exact ok_law_shape T H1 H0
  | law_outcome => exact ok_law_outcome T H1 H0
  | law => exact ok_law T H1 H0
end
end Pg
namespace Pg
open PySem PySem.Spec PyProof.Rows L2 DL TM
/-! ### numbers from the script -/
/-- the state from which numbers are taken -/
def StAt (S : Store) (ps pc : Addr) : Prop := ps ≠ pc ∧ ∃ (i : Nat) (cs : List Nat), cs ≠ [] ∧ cs.length ≤ 63 ∧ S ps = some (.lst [.int i, .obj pc]) ∧ S pc = some (.lst (cs.map fun c : Nat => D.int c))
theorem take_ok {k : Nat} {S : Store} {ps pc : Addr} {m : Nat} {Q : QE} {E : XQ} (h : StAt S ps pc) (h1 : 1 ≤ m) (h2 : m ≤ 1000)
    (hQ : ∀ (r : Nat) S', r < m → StAt S' ps pc → (∀ p, p ≠ ps → p ≠ pc → S' p = S p) → Q (.int r) S') : go (k + 1) .law_take [.obj ps, .int m] S Q E := by
  obtain ⟨hne, i, cs, hcs, hl, es, ec⟩ := h
  have hlen : 0 < cs.length := by cases cs <;> simp_all
  have hmod : i % cs.length < cs.length := Nat.mod_lt _ hlen
  obtain ⟨c, hc⟩ : ∃ c, cs[i % cs.length]? = some c := ⟨_, List.getElem?_eq_getElem hmod⟩
  have em : ((i : Int) % ((cs.length : Nat) : Int)) = ((i % cs.length : Nat) : Int) := by omega
  have e2 : atI (cs.map fun c : Nat => D.int c) ((i : Int) % ((cs.length : Nat) : Int)) = some (.int c) := by rw [em]; exact at_nat (by rw [List.getElem?_map, hc]; rfl)
  have e3 : ixN (cs.map fun c : Nat => D.int c).length ((i : Int) % ((cs.length : Nat) : Int)) = some (i % cs.length) := by rw [em]; exact ix_nat (by simpa using hmod)
  have e4 : ixN cs.length ((i : Int) % ((cs.length : Nat) : Int)) = some (i % cs.length) := by rw [em]; exact ix_nat hmod
  rw [go_law_take]
  unfold b_law_take
  simp [startD, asL_obj es, asL_obj ec, lenD_obj ec, e2, st_lst es, st_lst ec, e3, e4, ix_zero]
  refine ⟨hlen, ?_⟩
  split
  · refine ⟨⟨by omega, by omega⟩, by omega, ?_⟩
    rw [show ((c : Int) % (m : Int)) = ((c % m : Nat) : Int) by omega]
    refine hQ _ _ (Nat.mod_lt _ (by omega)) ⟨hne, i, cs.set (i % cs.length) (c / m), ?_, by simpa using hl, by rw [put_ne hne]; exact es, ?_⟩ fun p _ h => put_ne h
    · intro z; apply hcs; have := congrArg List.length z; simp at this; exact this
    · rw [put_same, List.map_set]; congr 3
  · refine ⟨.inr ⟨by decide, by decide⟩, .inr ⟨by decide, by decide⟩, .inr ⟨by decide, by decide⟩, .inr ⟨by decide, by decide⟩, ⟨by decide, by decide⟩, by omega, ?_⟩
    generalize ((c : Int) * 48271 + ((i : Int) + 1) * 69621) % 2147483647 * 16807 + ((i : Int) + 1) * 7919 = z
    have r1 := Int.emod_nonneg (z % 1000000007 / 7) (b := (m : Int)) (by omega)
    have r2 := Int.emod_lt_of_pos (z % 1000000007 / 7) (b := (m : Int)) (by omega)
    obtain ⟨r, er⟩ := Int.eq_ofNat_of_zero_le r1
    rw [er]
    refine hQ r _ (by omega) ⟨hne, i + 1, cs, hcs, hl, put_same, by rw [put_ne (Ne.symm hne)]; exact ec⟩ fun p h _ => put_ne h
theorem cut_ints (ns : List Int) (a b : Option Int) (h : ns.length ≤ 63) : ∃ ms : List Int, DL.cutD (ns.map D.int) a b = ms.map D.int ∧ ms.length ≤ 63 := by
  refine ⟨DL.cutD ns a b, by unfold DL.cutD; simp [List.map_take, List.map_drop], ?_⟩
  unfold DL.cutD
  simp; omega
theorem state_ok {k : Nat} {S : Store} {x : D} {ns : List Int} (hx : x = .scr (ns.map D.int) ∨ x = .lst (ns.map D.int)) (hl : ns.length ≤ 63) {Q : QE} {E : XQ}
    (h : ∀ S' ps pc, StAt S' ps pc → Q (.obj ps) S') : go (k + 1) .law_state [x] S Q E := by
  rw [go_law_state]
  unfold b_law_state
  obtain ⟨ms, em, lm⟩ := cut_ints ns none (some 63) hl
  have hs : ∀ R : List D → Store → Prop, slD x none (some 63) S (fun y S1 => ofO (asL S1 y) fun l => R l S1) = R (ms.map D.int) S := fun R => by
    rcases hx with rfl | rfl <;> (unfold slD; simp [em])
  have fin : ∀ (cs : List Nat) (S1 : Store) (pc : Addr), cs ≠ [] → cs.length ≤ 63 → S1 pc = some (.lst (cs.map fun c : Nat => D.int c)) → ∀ ps, S1 ps = none → Q (.obj ps) (DL.put S1 ps (.lst [.int 0, .obj pc])) := fun cs S1 pc h1 h2 h3 ps hp => by
    have hne : pc ≠ ps := fun z => by rw [z, hp] at h3; cases h3
    exact h _ _ pc ⟨hne.symm, 0, cs, h1, h2, put_same, by rw [put_ne hne]; exact h3⟩
  simp [startD, dSl, dNoPart, dPart]
  rcases hx with rfl | rfl
  all_goals
    simp [slD, em]
    refine lc_mapM D.int (fun i : Int => D.int (i.natAbs : Int)) (by simp [keepL]) (by simp [lim]; omega) (fun _ _ _ q => q) (fun i _ Q' q => ?_) ?_
    · simp [wipeD]
      rw [show (if i < 0 then -i else i) = (i.natAbs : Int) by split <;> omega]
      exact q
    · intro pc hpc
      simp [lenD_obj put_same]
      split
      · intro pc2 hpc2 ps hps
        exact fin [0] _ pc2 (by simp) (by simp) put_same ps hps
      · rename_i hne
        intro ps hps
        exact fin (ms.map Int.natAbs) _ pc (by simpa using hne) (by simpa using lm) (by rw [put_same, List.map_map]; rfl) ps hps
/-- numbers were taken, nothing else changed -/
def Nx (ps pc : Addr) (S S' : Store) : Prop := StAt S' ps pc ∧ ∀ p, p ≠ ps → p ≠ pc → S' p = S p
theorem Nx.trans {ps pc : Addr} {S S' S'' : Store} (a : Nx ps pc S S') (b : Nx ps pc S' S'') : Nx ps pc S S'' := ⟨b.1, fun p h1 h2 => (b.2 p h1 h2).trans (a.2 p h1 h2)⟩
theorem take_nx {k : Nat} {S : Store} {ps pc : Addr} {m : Nat} {Q : QE} {E : XQ} (h : StAt S ps pc) (h1 : 1 ≤ m) (h2 : m ≤ 1000)
    (hQ : ∀ (r : Nat) S', r < m → Nx ps pc S S' → Q (.int r) S') : go (k + 1) .law_take [.obj ps, .int m] S Q E := take_ok h h1 h2 fun r S' hr a b => hQ r S' hr ⟨a, b⟩
/-- one of four, by a number -/
theorem ix4 {S : Store} {Q : QE} {a b c d : D} {r : Nat} (h : r < 4) (h0 : r = 0 → Q a S) (h1 : r = 1 → Q b S) (h2 : r = 2 → Q c S) (h3 : r = 3 → Q d S) : dIx (.lst [a, b, c, d]) (.int r) S Q := by
  have : r = 0 ∨ r = 1 ∨ r = 2 ∨ r = 3 := by omega
  rcases this with rfl | rfl | rfl | rfl
  · simpa using h0 rfl
  · simpa using h1 rfl
  · simpa using h2 rfl
  · simpa using h3 rfl
theorem ix3 {S : Store} {Q : QE} {a b c : D} {r : Nat} (h : r < 3) (h0 : r = 0 → Q a S) (h1 : r = 1 → Q b S) (h2 : r = 2 → Q c S) : dIx (.lst [a, b, c]) (.int r) S Q := by
  have : r = 0 ∨ r = 1 ∨ r = 2 := by omega
  rcases this with rfl | rfl | rfl
  · simpa using h0 rfl
  · simpa using h1 rfl
  · simpa using h2 rfl
theorem ix5 {S : Store} {Q : QE} {a b c d e : D} {r : Nat} (h : r < 5) (h0 : r = 0 → Q a S) (h1 : r = 1 → Q b S) (h2 : r = 2 → Q c S) (h3 : r = 3 → Q d S) (h4 : r = 4 → Q e S) : dIx (.lst [a, b, c, d, e]) (.int r) S Q := by
  have : r = 0 ∨ r = 1 ∨ r = 2 ∨ r = 3 ∨ r = 4 := by omega
  rcases this with rfl | rfl | rfl | rfl | rfl
  · simpa using h0 rfl
  · simpa using h1 rfl
  · simpa using h2 rfl
  · simpa using h3 rfl
  · simp; rw [show atI [a, b, c, d, e] 4 = some e from at_nat (k := 4) rfl]; exact h4 rfl
theorem take_g {K : Nat} {S : Store} {ps pc : Addr} {m : Nat} {Q : QE} {E : XQ} (h : StAt S ps pc) (hK : 1 ≤ K) (h1 : 1 ≤ m) (h2 : m ≤ 1000)
    (hQ : ∀ (r : Nat) S', r < m → Nx ps pc S S' → Q (.int r) S') : go K .law_take [.obj ps, .int m] S Q E := by
  obtain ⟨k, rfl⟩ : ∃ k, K = k + 1 := ⟨K - 1, by omega⟩
  exact take_nx h h1 h2 hQ
/-! ### kinds -/
theorem kind_ok {ps pc : Addr} : ∀ (n : Nat) {K : Nat} {S : Store} {dep : Int} {Q : QE} {E : XQ}, StAt S ps pc → dep ≤ n → n + 2 ≤ K → (∀ (τ : Ty) S', τ.dp ≤ n → Nx ps pc S S' → Q τ.d S') → go K .law_kind [.obj ps, .int dep] S Q E := by
  have leaf : ∀ {K : Nat} {S : Store} {Q : QE} {r : Nat}, (∀ (τ : Ty) S', τ.dp ≤ 0 → Nx ps pc S S' → Q τ.d S') → StAt S ps pc → dIx (.lst [.tup [.str "int"], .tup [.str "bool"], .tup [.str "int"], .tup [.str "unit"], .tup [.str "int"]]) (.int (r % 5 : Nat)) S Q := fun hQ hs => by
    have nn : Nx ps pc _ _ := ⟨hs, fun _ _ _ => rfl⟩
    refine ix5 (Nat.mod_lt _ (by omega)) (fun _ => hQ .int _ (by decide) nn) (fun _ => hQ .bool _ (by decide) nn) (fun _ => hQ .int _ (by decide) nn) (fun _ => hQ .unit _ (by decide) nn) (fun _ => hQ .int _ (by decide) nn)
  intro n
  induction n with
  | zero =>
    intro K S dep Q E h hd hK hQ
    obtain ⟨k, rfl⟩ : ∃ k, K = k + 1 := ⟨K - 1, by omega⟩
    rw [go_law_kind]
    unfold b_law_kind
    simp [startD]
    refine take_g (m := 9) h (by omega) (by omega) (by omega) fun r S1 hr n1 => ?_
    simp [show ¬ (0 < dep) by omega]
    exact leaf (K := k) (fun τ S' ht n2 => hQ τ S' ht (n1.trans n2)) n1.1
  | succ n ih =>
    intro K S dep Q E h hd hK hQ
    obtain ⟨k, rfl⟩ : ∃ k, K = k + 1 := ⟨K - 1, by omega⟩
    rw [go_law_kind]
    unfold b_law_kind
    simp [startD]
    refine take_g (m := 9) h (by omega) (by omega) (by omega) fun r S1 hr n1 => ?_
    have two : ∀ {S : Store} {Q : QE} {E : XQ} (hd : String), StAt S ps pc → (∀ a b S', Ty.dp a ≤ n → Ty.dp b ≤ n → Nx ps pc S S' → Q (.tup [.str hd, a.d, b.d]) S') →
        go k .law_kind [.obj ps, .int (dep - 1)] S (fun x S1 => go k .law_kind [.obj ps, .int (dep - 1)] S1 (fun y S2 => Q (.tup [.str hd, x, y]) S2) E) E := fun hd hs hq => by
      refine ih hs (by omega) (by omega) fun a S2 ha m2 => ?_
      refine ih m2.1 (by omega) (by omega) fun b S3 hb m3 => ?_
      exact hq a b S3 ha hb (m2.trans m3)
    by_cases c0 : 0 < dep
    · by_cases r0 : r = 0
      · subst r0
        simp [c0]
        exact two "fun" n1.1 fun a b S' ha hb m => hQ (.fn a b) S' (by simp [Ty.dp]; omega) (n1.trans m)
      · by_cases r1 : r = 1
        · subst r1
          simp [c0]
          exact two "pair" n1.1 fun a b S' ha hb m => hQ (.pair a b) S' (by simp [Ty.dp]; omega) (n1.trans m)
        · simp [c0, r0, show ¬ (r : Int) = 1 by omega]
          exact leaf (K := k) (fun τ S' ht n2 => hQ τ S' (by omega) (n1.trans n2)) n1.1
    · simp [c0]
      exact leaf (K := k) (fun τ S' ht n2 => hQ τ S' (by omega) (n1.trans n2)) n1.1
/-! ### operations -/
theorem plain5 {r : Nat} {S : Store} {Q : QE} (hr : r < 5) (hQ : ∀ τ : Ty, τ.dp ≤ 1 ∧ τ.plain = true → Q τ.d S) :
    dIx (.lst [.tup [.str "int"], .tup [.str "bool"], .tup [.str "unit"], .tup [.str "pair", .tup [.str "int"], .tup [.str "bool"]], .tup [.str "int"]]) (.int r) S Q :=
  ix5 hr (fun _ => hQ .int (by decide)) (fun _ => hQ .bool (by decide)) (fun _ => hQ .unit (by decide)) (fun _ => hQ (.pair .int .bool) (by decide)) (fun _ => hQ .int (by decide))
theorem operations_ok {ps pc : Addr} {K : Nat} {S : Store} {Q : QE} {E : XQ} (h : StAt S ps pc) (hK : 2 ≤ K) (hQ : ∀ (ops : Ops) S', OpsOk ops → Nx ps pc S S' → Q (.lst (ops.map opD)) S') : go K .law_operations [.obj ps] S Q E := by
  obtain ⟨k, rfl⟩ : ∃ k, K = k + 1 := ⟨K - 1, by omega⟩
  rw [go_law_operations]
  unfold b_law_operations
  simp [startD]
  intro p hp
  obtain ⟨hne, i0, cs0, _, _, es, ec⟩ := id h
  have hps : p ≠ ps := fun e => by rw [e, es] at hp; cases hp
  have hpc : p ≠ pc := fun e => by rw [e, ec] at hp; cases hp
  have put_st : ∀ {S o}, StAt S ps pc → StAt (put S p o) ps pc := fun {S o} ⟨a, i, cs, b, c, d, e⟩ => ⟨a, i, cs, b, c, by rw [put_ne hps.symm]; exact d, by rw [put_ne hpc.symm]; exact e⟩
  refine take_g (m := 4) (put_st h) (by omega) (by omega) (by omega) fun r S1 hr n1 => ?_
  simp
  refine ⟨by omega, ?_⟩
  rw [show (1 + (r : Int)).toNat = r + 1 by omega, range_map]
  have p1 : S1 p = some (.lst []) := by rw [n1.2 p hps hpc, put_same]
  refine for_indM (fun i : Nat => D.int (i : Int)) (I := fun dn r' σ S' => ∃ a4 ops, σ = [some (.obj ps), some (.lst [.tup [.str "int"], .tup [.str "bool"], .tup [.str "unit"], .tup [.str "pair", .tup [.str "int"], .tup [.str "bool"]], .tup [.str "int"]]), some (.lst [.str "get", .str "flip", .str "tell", .str "put"]), some (.obj p), a4] ∧
    S' p = some (.lst (List.map opD ops)) ∧ StAt S' ps pc ∧ (∀ q, q ≠ ps → q ≠ pc → q ≠ p → S' q = S q) ∧ ops.map (·.1) = ["get", "flip", "tell", "put"].take dn.length ∧ (∀ o ∈ ops, (o.2.1.dp ≤ 1 ∧ o.2.1.plain = true) ∧ o.2.2.dp ≤ 1 ∧ o.2.2.plain = true)) (List.range (r + 1)) (fun _ _ _ _ _ => trivial) ?st ?fn
    ⟨none, [], rfl, p1, n1.1, fun q a b c => by rw [n1.2 q a b, put_ne c], by simp, by simp⟩
  case st =>
    rintro dn i r' σ S2 N e ⟨a4, ops, rfl, hp2, st2, keep2, hl, hc⟩ hN
    have hdl : dn.length = i ∧ i < r + 1 := by
      have e1 := congrArg (fun l => l[dn.length]?) e
      simp at e1
      obtain ⟨h1, h2⟩ := List.getElem?_eq_some_iff.mp e1.symm
      simp at h1 h2
      omega
    obtain ⟨hdl, hi⟩ := hdl
    obtain ⟨o, ho⟩ : ∃ o, ["get", "flip", "tell", "put"][i]? = some o := ⟨_, List.getElem?_eq_getElem (by simp; omega)⟩
    have e : atI [D.str "get", D.str "flip", D.str "tell", D.str "put"] (i : Int) = some (.str o) := at_nat (by
      show (["get", "flip", "tell", "put"].map D.str)[i]? = _
      rw [List.getElem?_map, ho]; rfl)
    simp [e]
    refine ⟨tyD_lst hp2, ?_⟩
    refine take_g (m := 5) st2 (by omega) (by omega) (by omega) fun r1 S3 hr1 m1 => ?_
    refine plain5 hr1 fun α hα => ?_
    refine take_g (m := 5) m1.1 (by omega) (by omega) (by omega) fun r2 S4 hr2 m2 => ?_
    refine plain5 hr2 fun β hβ => ?_
    have m4 := m1.trans m2
    have hp4 : S4 p = some (.lst (List.map opD ops)) := by rw [m4.2 p hps hpc, hp2]
    have hlen : ops.length < 16777216 := by
      have := congrArg List.length hl
      simp at this
      omega
    simp [app_obj hp4, lim, hlen]
    refine hN _ _ ⟨_, ops ++ [(o, α, β)], rfl, by rw [put_same]; simp [opD], put_st m4.1, fun q a b c => by rw [put_ne c, m4.2 q a b, keep2 q a b c], ?_, ?_⟩
    · rw [List.map_append, hl, List.length_append, List.length_singleton, List.take_add_one, hdl, ho]; rfl
    · intro o ho
      rcases List.mem_append.mp ho with ho | ho
      · exact hc o ho
      · simp at ho; subst ho; exact ⟨hα, hβ⟩
  case fn =>
    rintro σ S2 ⟨a4, ops, rfl, hp2, st2, keep2, hl, hc⟩
    simp [hp2]
    refine hQ ops _ ⟨?_, ?_, fun o ho => ⟨(hc o ho).1.1, (hc o ho).2.1⟩, fun o ho => ⟨(hc o ho).1.2, (hc o ho).2.2⟩, ?_, ?_⟩ ⟨?_, fun q a b => ?_⟩
    · rw [hl]; exact List.Nodup.sublist (List.take_sublist _ _) (by decide)
    · intro o ho
      have : o.1 ∈ ops.map (·.1) := List.mem_map.mpr ⟨o, ho, rfl⟩
      rw [hl] at this
      exact List.mem_of_mem_take this
    · have := congrArg List.length hl; simp at this; omega
    · have := congrArg List.length hl; simp at this; omega
    · obtain ⟨a, i, cs', b', c', d', e'⟩ := st2
      exact ⟨a, i, cs', b', c', by rw [rid_ne hps.symm]; exact d', by rw [rid_ne hpc.symm]; exact e'⟩
    · by_cases c : q = p
      · subst c; rw [rid_same, hp]
      · rw [rid_ne c, keep2 q a b c]
end Pg
namespace Pg
open PySem PySem.Spec PyProof.Rows L2 DL TM
theorem str_nm {n : Nat} {S : Store} {Q : QE} (h : n < 100) (c : String) (hc : c.length ≤ 8) (q : Q (.str (nm c n)) S) : bStr [.int (n : Int)] S fun y S2 => dAdd (.str c) y S2 Q := by
  refine ⟨by omega, ?_⟩
  show dAdd (.str c) (.str (toString (n : Int))) S Q
  rw [r_addS]
  refine ⟨?_, q⟩
  have : (toString (n : Int)).length ≤ 65 := PySem.int_text_length_le (k := 64) (by omega) (by
    have : (n : Int).natAbs = n := by simp
    rw [this]
    by_cases e : n = 0
    · subst e; decide
    · exact (Nat.log2_lt e).mpr (by omega))
  have e : lim = 16777216 := rfl
  omega
/-- one of the names, by numbers; or something else -/
theorem pick_ok {ps pc : Addr} {k : Nat} {S : Store} {Q : QE} {E : XQ} {R : Store → Prop} {names : List String} (hk : 1 ≤ k) (h : StAt S ps pc) (hl : names.length ≤ 100)
    (hR : ∀ S', Nx ps pc S S' → R S') (hN : ∀ x ∈ names, ∀ S', Nx ps pc S S' → Q (.tup [.str "name", .str x]) S') :
    if 0 < names.length then
      go k .law_take [.obj ps, .int 4] S (fun x S1 => dGt x (.int 0) S1 fun x S1 => match x with
        | .bl c => if c = true then go k .law_take [.obj ps, .int (names.length : Nat)] S1 (fun y S2 => dSub (.int ((names.length : Nat) - 1)) y S2 fun y S2 => dIx (.lst (names.map D.str)) y S2 fun x S1 => Q (.tup [.str "name", x]) S1) (fun x S2 => E x S2) else R S1
        | _ => False) (fun x S2 => E x S2)
    else R S := by
  by_cases e : 0 < names.length
  · rw [if_pos e]
    refine take_g (m := 4) h hk (by omega) (by omega) fun r S1 hr n1 => ?_
    simp
    by_cases e2 : 0 < r
    · rw [if_pos e2]
      refine take_g (m := names.length) n1.1 hk (by omega) (by omega) fun r2 S2 hr2 n2 => ?_
      obtain ⟨x, hx⟩ : ∃ x, names[names.length - 1 - r2]? = some x := ⟨_, List.getElem?_eq_getElem (by omega)⟩
      have e3 : atI (names.map D.str) ((names.length : Int) - 1 - (r2 : Int)) = some (.str x) := by
        rw [show ((names.length : Int) - 1 - (r2 : Int)) = ((names.length - 1 - r2 : Nat) : Int) by omega]
        exact at_nat (by rw [List.getElem?_map, hx]; rfl)
      simp [e3]
      exact hN x (List.mem_of_getElem? hx) _ (n1.trans n2)
    · rw [if_neg e2]
      exact hR S1 n1
  · rw [if_neg e]
    exact hR S ⟨h, fun _ _ _ => rfl⟩
theorem lf_pos (m : Nat) : 1 ≤ lf m := Nat.two_pow_pos _
theorem lf_succ (m : Nat) : lf (m + 1) = 2 * lf m := by simp [lf, Nat.pow_succ]; omega
theorem lf_mono {a b : Nat} (h : a ≤ b) : lf a ≤ lf b := Nat.pow_le_pow_right (by omega) (by omega)
theorem dIx_ty0 {τ : Ty} {S : Store} {Q : QE} : dIx τ.d (.int 0) S Q = Q (.str τ.head) S := by cases τ <;> simp [Ty.d, Ty.head]
theorem ix_fn1 {a b : Ty} {S : Store} {Q : QE} : dIx (Ty.fn a b).d (.int 1) S Q = Q a.d S := by simp [Ty.d]
theorem ix_fn2 {a b : Ty} {S : Store} {Q : QE} : dIx (Ty.fn a b).d (.int 2) S Q = Q b.d S := by simp [Ty.d]
theorem ix_pr1 {a b : Ty} {S : Store} {Q : QE} : dIx (Ty.pair a b).d (.int 1) S Q = Q a.d S := by simp [Ty.d]
theorem ix_pr2 {a b : Ty} {S : Store} {Q : QE} : dIx (Ty.pair a b).d (.int 2) S Q = Q b.d S := by simp [Ty.d]
theorem see_ty {τ : Ty} {S : Store} : sees S τ.d = τ.d := by cases τ <;> rfl
theorem leaf_ok {ps pc : Addr} {ops : Ops} : ∀ (m : Nat) {τ : Ty} {Γ : Cn} {K : Nat} {S : Store} {Q : QE} {E : XQ}, StAt S ps pc → τ.dp ≤ m → m ≤ 12 → τ.mx ≤ 12 → CnOk Γ → Γ.length + m ≤ 16 → m + 2 ≤ K →
    (∀ (t : T) S', Good ops Γ t τ m τ.nd (4 * τ.lv - 3) → Nx ps pc S S' → Q t.d S') → go K .law_leaf [.obj ps, Γ.d, τ.d] S Q E := by
  intro m
  induction m using Nat.strongRecOn with
  | _ m ih =>
    intro τ Γ K S Q E h hτ hm hx hΓ hL hK hQ
    obtain ⟨k, rfl⟩ : ∃ k, K = k + 1 := ⟨K - 1, by omega⟩
    rw [go_law_leaf]
    unfold b_law_leaf
    have hnames : ∀ (R : Store → Prop), (∀ S', Nx ps pc S S' → R S') → ∀ x ∈ (Γ.reverse.filter fun p => decide (p.2 = τ)).map (·.1), ∀ S', Nx ps pc S S' → Q (.tup [.str "name", .str x]) S' := fun R _ x hx S' n => by
      obtain ⟨p, hp, rfl⟩ := List.mem_map.mp hx
      have hp := List.mem_filter.mp hp
      have e : p.2 = τ := of_decide_eq_true hp.2
      have hm : (p.1, τ) ∈ Γ := by rw [← e]; exact List.mem_reverse.mp hp.1
      have := hΓ.look hm
      have nd1 : 1 ≤ τ.nd := by cases τ <;> simp [Ty.nd]
      have hlp := τ.lv_pos
      exact hQ (.name p.1) S' ⟨.name this.1, this.2, Nat.zero_le _, nd1, trivial, by simp only [Tm.cost]; omega⟩ n
    have base : ∀ {t : T}, Has ops Γ t τ → t.ok P17 → t.dep = 0 → t.sz = 1 → t.gd0 96 → t.cost = 1 → Good ops Γ t τ m τ.nd (4 * τ.lv - 3) := fun h1 h2 h3 h4 h5 h6 => ⟨h1, h2, by omega, by
      have nd1 : 1 ≤ τ.nd := by cases τ <;> simp [Ty.nd]
      omega, h5, by have := τ.lv_pos; omega⟩
    simp [startD, Cn.d, dIx_ty0]
    rw [← List.map_reverse]
    refine lc_filtM (L := Γ.reverse) (acc := []) knD (fun p => .str p.1) (fun p => decide (p.2 = τ)) rfl (by have := hΓ.ln; simp [lim]; omega) (fun p hp Q' q => ?_) (fun p hp Q' q => ?_) ?_
    · have h1 := hΓ.dp p (by simpa using hp)
      simp [wipeD, knD]
      rw [see_ty, see_ty]
      refine ⟨(Ty.okN _).ok (by omega), (Ty.okN _).ok (by omega), ?_⟩
      rw [Ty.eq]; exact q
    · simp [wipeD, knD]; exact q
    · rw [List.nil_append, show (Γ.reverse.filter fun p => decide (p.2 = τ)).map (fun p => D.str p.1) = ((Γ.reverse.filter fun p => decide (p.2 = τ)).map (·.1)).map D.str by rw [List.map_map]; rfl]
      rw [List.length_map]
      refine pick_ok (by omega) h (by have := hΓ.ln; have := List.length_filter_le (fun p : String × Ty => decide (p.2 = τ)) Γ.reverse; simp at this ⊢; omega) (fun S1 n1 => ?_) (hnames (fun _ => True) fun _ _ => trivial)
      cases τ with
      | int =>
        simp [Ty.head]
        refine take_g (m := 9) n1.1 (by omega) (by omega) (by omega) fun r S2 hr n2 => ?_
        exact hQ (.num r) _ (base (.num _) (show (r : Int).natAbs < 2 ^ 32 by omega) rfl rfl (show (r : Int).natAbs < 2 ^ 32 by omega) rfl) (n1.trans n2)
      | bool =>
        simp [Ty.head]
        refine take_g (m := 2) n1.1 (by omega) (by omega) (by omega) fun r S2 hr n2 => ?_
        simp
        exact hQ (.flag _) _ (base (.flag _) trivial rfl rfl trivial rfl) (n1.trans n2)
      | unit =>
        simp [Ty.head]
        exact hQ .unit _ (base .unit trivial rfl rfl trivial rfl) n1
      | fn a b =>
        simp [Ty.head]
        simp [Ty.dp] at hτ
        simp only [Ty.mx] at hx
        refine str_nm (by have := hΓ.ln; omega) "x" (by decide) ?_
        rw [ix_fn1]
        refine ⟨by have := hΓ.ln; simp [lim]; omega, ?_⟩
        rw [ix_fn2]
        have hΓ' := hΓ.push (x := nm "x" Γ.length) (τ := a) (by omega) (.inl rfl) (by omega)
        have e1 : D.lst ((List.map knD Γ).reverse ++ [D.tup [D.str (nm "x" Γ.length), a.d]]) = Cn.d ((nm "x" Γ.length, a) :: Γ) := by rw [Cn.d_push]; rfl
        rw [e1]
        refine ih (m - 1) (by omega) n1.1 (by omega) (by omega) (by omega) hΓ' (by simp; omega) (by omega) fun t S2 ht n2 => ?_
        refine hQ (.fn (nm "x" Γ.length) t) _ ⟨.fn ht.ty, ⟨.inr ⟨Γ.length, by omega, .inl rfl⟩, ht.ok⟩, ?_, ?_, ⟨?_, ht.gd⟩, ?_⟩ (n1.trans n2)
        · have := ht.dep; simp [Tm.dep]; omega
        · have := ht.sz; simp [Tm.sz, Ty.nd]; omega
        · have := ht.cost; have := b.lv_mx; omega
        · simp [Tm.cost, Ty.lv]
      | pair a b =>
        simp [Ty.head]
        simp [Ty.dp] at hτ
        simp only [Ty.mx] at hx
        rw [ix_pr1]
        refine ih (m - 1) (by omega) n1.1 (by omega) (by omega) (by omega) hΓ (by omega) (by omega) fun t S2 ht n2 => ?_
        rw [ix_pr2]
        refine ih (m - 1) (by omega) n2.1 (by omega) (by omega) (by omega) hΓ (by omega) (by omega) fun u S3 hu n3 => ?_
        refine hQ (.pair t u) _ ⟨.pair ht.ty hu.ty (by simp [Ty.dp]; omega), ⟨ht.ok, hu.ok⟩, ?_, ?_, ⟨ht.gd, hu.gd⟩, ?_⟩ ((n1.trans n2).trans n3)
        · have := ht.dep; have := hu.dep; simp [Tm.dep]; omega
        · have := ht.sz; have := hu.sz; simp [Tm.sz, Ty.nd]; omega
        · have := ht.cost; have := hu.cost; have := a.lv_pos; have := b.lv_pos; simp [Tm.cost, Ty.lv]; omega
end Pg
namespace Pg
open PySem PySem.Spec PyProof.Rows L2 DL TM
theorem push1 {Γ : Cn} {x : String} {τ : Ty} : D.lst ((List.map knD Γ).reverse ++ [D.tup [D.str x, τ.d]]) = Cn.d ((x, τ) :: Γ) := by rw [Cn.d_push]; rfl
theorem push2 {Γ : Cn} {x y : String} {τ σ : Ty} : D.lst ((List.map knD Γ).reverse ++ [D.tup [D.str x, τ.d], D.tup [D.str y, σ.d]]) = Cn.d ((y, σ) :: (x, τ) :: Γ) := by simp [Cn.d, knD]
theorem nm_P {c : String} {i : Nat} (hc : c = "x" ∨ c = "k" ∨ c = "h") (hi : i < 17) : P17 (nm c i) := .inr ⟨i, hi, by rcases hc with rfl | rfl | rfl <;> simp [IxN]⟩
/-- what _law_tree does, at most r deep -/
def TreeSpec (ps pc : Addr) (ops : Ops) (r m K0 : Nat) : Prop := ∀ {τ : Ty} {Γ : Cn} {K : Nat} {S : Store} {dep : Int} {Q : QE} {E : XQ}, StAt S ps pc → dep ≤ r → τ.dp ≤ m → τ.mx + 2 * r ≤ 12 → CnOk Γ → Γ.length + 2 * r + (m + r) ≤ 16 → K0 ≤ K →
  (∀ (t : T) S', Good ops Γ t τ (dpB r m) (SZ r τ.nd) (CT r τ.lv) → Nx ps pc S S' → Q t.d S') → go K .law_tree [.obj ps, .lst (ops.map opD), Γ.d, τ.d, .int dep] S Q E
section
variable {ps pc : Addr} {ops : Ops} {r m K0 : Nat} {τ : Ty} {Γ : Cn} {K : Nat} {S : Store} {dep : Int} {Q : QE} {E : XQ}
/-- r + 1 deep, its parts r deep -/
structure Lev (Γ : Cn) (τ : Ty) (r m : Nat) (dep : Int) : Prop where
  hd : dep - 1 ≤ r
  ht : τ.dp ≤ m
  h1 : 1 ≤ m
  hm : m + r ≤ 11
  hΓ : CnOk Γ
  hl : Γ.length + 2 * (r + 1) + (m + (r + 1)) ≤ 16
  hx : τ.mx + 2 * (r + 1) ≤ 12
  hr : r ≤ 3
theorem Ty.nd_pos (t : TM.Ty) : 1 ≤ t.nd := by cases t <;> simp [Ty.nd]
/-- the bounds of one more level -/
theorem Lev.ct {Γ : Cn} {τ : TM.Ty} {r m : Nat} {dep : Int} (L : Lev Γ τ r m dep) : CtOk r τ.lv := ctOk L.hr τ.lv_pos (by have := τ.lv_mx; have := L.hx; omega)
theorem Lev.sz {Γ : Cn} {τ : TM.Ty} {r m : Nat} {dep : Int} (_ : Lev Γ τ r m dep) : SZ (r + 1) τ.nd = 6 * SZ r (τ.nd + 4) + 30 ∧ τ.nd + 4 ≤ SZ r (τ.nd + 4) ∧ 1 ≤ τ.nd := ⟨rfl, SZ_self _ _, Ty.nd_pos τ⟩
theorem special_ok (IH : TreeSpec ps pc ops r (m + 1) K0) (hs : StAt S ps pc) (L : Lev Γ τ r m dep) (hK : K0 + 1 ≤ K) (hK2 : 20 ≤ K)
    (hQ : ∀ (t : T) S', Good ops Γ t τ (dpB (r + 1) m) (SZ (r + 1) τ.nd) (CT (r + 1) τ.lv) → Nx ps pc S S' → Q t.d S') : go K .law_special [.obj ps, .lst (ops.map opD), Γ.d, τ.d, .int dep] S Q E := by
  have ct := L.ct
  have sz := L.sz
  obtain ⟨hd, ht, h1, hm, hΓ, hl, hmx, hr⟩ := L
  obtain ⟨k, rfl⟩ : ∃ k, K = k + 1 := ⟨K - 1, by omega⟩
  have hdp := dpB_m r (m + 1)
  have hx : ∀ {σ : TM.Ty}, σ.dp ≤ 12 → CnOk ((nm "x" Γ.length, σ) :: Γ) := fun h => hΓ.push (by omega) (.inl rfl) h
  have l1 := lf_pos (m + 1)
  have eD : dpB (r + 1) m = dpB r (m + 1) + 6 := rfl
  rw [go_law_special]
  unfold b_law_special
  simp [startD, Cn.d, dIx_ty0]
  refine str_nm (by omega) "x" (by decide) ?_
  have tree : ∀ {σ : Ty} {S : Store} {Q : QE} {E : XQ}, σ.dp ≤ m + 1 → σ.mx + 2 * r ≤ 12 → σ.nd ≤ τ.nd + 4 → StAt S ps pc → (∀ (t : T) S', Good ops Γ t σ (dpB r (m + 1)) (SZ r (τ.nd + 4)) (CT r σ.lv) → Nx ps pc S S' → Q t.d S') →
      go k .law_tree [.obj ps, .lst (ops.map opD), .lst (Γ.map knD).reverse, σ.d, .int (dep - 1)] S Q E := fun hσ hσx hz h hq => IH h hd hσ hσx hΓ (by omega) (by omega) fun t S' ht => hq t S' (ht.le (Nat.le_refl _) (SZ_mono r hz) (Nat.le_refl _))
  have leaf : ∀ {σ : Ty} {S : Store} {Q : QE} {E : XQ}, σ.dp ≤ m + 1 → σ.mx ≤ 12 → StAt S ps pc → (∀ (t : T) S', Good ops Γ t σ (m + 1) σ.nd (4 * σ.lv - 3) → Nx ps pc S S' → Q t.d S') →
      go k .law_leaf [.obj ps, .lst (Γ.map knD).reverse, σ.d] S Q E := fun hσ hσx h hq => leaf_ok (m + 1) h hσ (by omega) hσx hΓ (by omega) (by omega) hq
  cases τ with
  | int =>
    simp [Ty.head]
    refine tree (σ := .int) (by simp [Ty.dp]) (by simp [Ty.mx]; omega) (by simp [Ty.nd]) hs fun a S1 ha n1 => ?_
    refine take_g (m := 3) n1.1 (by omega) (by omega) (by omega) fun q S2 hq n2 => ?_
    have fin : ∀ s : String, Sg s .int → s.length ≤ 8 → go k .law_tree [.obj ps, .lst (ops.map opD), .lst (Γ.map knD).reverse, Ty.int.d, .int (dep - 1)] S2 (fun x S1 => Q (.tup [.str "op", .str s, a.d, x]) S1) fun x S2 => E x S2 := fun s hsg hsl => by
      refine tree (σ := .int) (by simp [Ty.dp]) (by simp [Ty.mx]; omega) (by simp [Ty.nd]) n2.1 fun b S3 hb n3 => ?_
      refine hQ (.op s a b) S3 ⟨.op hsg ha.ty hb.ty, ⟨hsl, ha.ok, hb.ok⟩, ?_, ?_, ⟨ha.gd, hb.gd⟩, ?_⟩ ((n1.trans n2).trans n3)
      · have := ha.dep; have := hb.dep; simp [Tm.dep]; omega
      · have := ha.sz; have := hb.sz; simp [Tm.sz]; omega
      · have := ha.cost; have := hb.cost; have := ct.op; simp only [Tm.cost, Ty.lv] at *; omega
    refine ix3 hq (fun _ => fin _ .add (by decide)) (fun _ => fin _ .sub (by decide)) (fun _ => fin _ .mul (by decide))
  | bool =>
    simp [Ty.head]
    refine tree (σ := .int) (by simp [Ty.dp]) (by simp [Ty.mx]; omega) (by simp [Ty.nd]) hs fun a S1 ha n1 => ?_
    refine take_g (m := 3) n1.1 (by omega) (by omega) (by omega) fun q S2 hq n2 => ?_
    simp
    by_cases e : q = 0
    · subst e
      simp
      refine tree (σ := .bool) (by simp [Ty.dp]) (by simp [Ty.mx]; omega) (by simp [Ty.nd]) n2.1 fun b S3 hb n3 => ?_
      refine hQ (.nt b) S3 ⟨.nt hb.ty, hb.ok, ?_, ?_, hb.gd, ?_⟩ ((n1.trans n2).trans n3)
      · have := hb.dep; simp [Tm.dep]; omega
      · have := hb.sz; simp [Tm.sz]; omega
      · have := hb.cost; have := ct.op; simp only [Tm.cost, Ty.lv] at *; omega
    · simp [e]
      refine take_g (m := 2) n2.1 (by omega) (by omega) (by omega) fun q2 S3 hq2 n3 => ?_
      have fin : ∀ s : String, Sg s .bool → s.length ≤ 8 → go k .law_leaf [.obj ps, .lst (Γ.map knD).reverse, Ty.int.d] S3 (fun x S1 => Q (.tup [.str "op", .str s, a.d, x]) S1) fun x S2 => E x S2 := fun s hsg hsl => by
        refine leaf (σ := .int) (by simp [Ty.dp]) (by simp [Ty.mx]) n3.1 fun b S4 hb n4 => ?_
        refine hQ (.op s a b) S4 ⟨.op hsg ha.ty hb.ty, ⟨hsl, ha.ok, hb.ok⟩, ?_, ?_, ⟨ha.gd, hb.gd⟩, ?_⟩ (((n1.trans n2).trans n3).trans n4)
        · have := ha.dep; have := hb.dep; simp [Tm.dep]; omega
        · have := ha.sz; have := hb.sz; simp only [Tm.sz, Ty.nd] at *; omega
        · have := ha.cost; have := hb.cost; have := ct.op; have := a.cost_pos; simp only [Tm.cost, Ty.lv] at *; omega
      have : q2 = 0 ∨ q2 = 1 := by omega
      rcases this with rfl | rfl
      · simpa [Ty.d] using fin _ .lt (by decide)
      · simpa [Ty.d] using fin _ .eq (by decide)
  | unit =>
    simp [Ty.head]
    refine kind_ok 1 hs (by omega) (by omega) fun σ S1 hσ n1 => ?_
    have sm := Ty.small hσ
    refine tree (by omega) (by omega) (by omega) n1.1 fun a S2 ha n2 => ?_
    refine ⟨by have := hΓ.ln; simp [lim]; omega, ?_⟩
    rw [push1]
    refine leaf_ok (ops := ops) (τ := .unit) (m + 1) n2.1 (by simp [Ty.dp]) (by omega) (by simp [Ty.mx]) (hx (by omega)) (by simp; omega) (by omega) fun b S3 hb n3 => ?_
    refine hQ (.lt (nm "x" Γ.length) a b) S3 ⟨.lt ha.ty hb.ty, ⟨nm_P (.inl rfl) (by omega), ha.ok, hb.ok⟩, ?_, ?_, ⟨ha.gd, hb.gd⟩, ?_⟩ ((n1.trans n2).trans n3)
    · have := ha.dep; have := hb.dep; simp [Tm.dep]; omega
    · have := ha.sz; have := hb.sz; simp only [Tm.sz, Ty.nd] at *; omega
    · have := ha.cost; have := hb.cost; have := ct.two; have := CT_two (r := r) (by omega) sm.1; simp only [Tm.cost, Ty.lv] at *; omega
  | fn a b =>
    simp [Ty.dp] at ht
    simp [Ty.head, ix_fn1, ix_fn2]
    refine ⟨by have := hΓ.ln; simp [lim]; omega, ?_⟩
    rw [push1]
    have hmx2 : max a.mx b.mx + 2 * (r + 1) ≤ 12 := hmx
    refine IH hs hd (by omega) (by omega) (hx (σ := a) (by omega)) (by simp; omega) (by omega) fun t S1 hb n1 => ?_
    refine hQ (.fn (nm "x" Γ.length) t) S1 ⟨.fn hb.ty, ⟨nm_P (.inl rfl) (by omega), hb.ok⟩, ?_, ?_, ⟨?_, hb.gd⟩, ?_⟩ n1
    · have := hb.dep; simp [Tm.dep]; omega
    · have := hb.sz; have := SZ_mono r (show b.nd ≤ (a.fn b).nd + 4 by simp only [Ty.nd]; omega); simp [Tm.sz]; omega
    · have := hb.cost; have := b.lv_mx; have := (ctOk (r := r) (s := b.lv) hr b.lv_pos (by omega)).body; omega
    · have := ct.loop; simp [Tm.cost]; omega
  | pair a b =>
    simp [Ty.dp] at ht
    simp [Ty.head, ix_pr1, ix_pr2]
    have hmx2 : max (a.lv + b.lv) (max a.mx b.mx) + 2 * (r + 1) ≤ 12 := hmx
    have nda : (a.pair b).nd = a.nd + b.nd + 1 := rfl
    refine tree (by omega) (by omega) (by omega) hs fun t S1 hat n1 => ?_
    refine tree (by omega) (by omega) (by omega) n1.1 fun u S2 hu n2 => ?_
    refine hQ (.pair t u) S2 ⟨.pair hat.ty hu.ty (by simp [Ty.dp]; omega), ⟨hat.ok, hu.ok⟩, ?_, ?_, ⟨hat.gd, hu.gd⟩, ?_⟩ (n1.trans n2)
    · have := hat.dep; have := hu.dep; simp [Tm.dep]; omega
    · have := hat.sz; have := hu.sz; simp [Tm.sz]; omega
    · have h1 := hat.cost
      have h2 := hu.cost
      have pa := a.lv_pos
      have pb := b.lv_pos
      have h3 := ct.pair ⟨a.lv, by show a.lv < a.lv + b.lv; omega⟩ pa
      rw [show (a.pair b).lv - (⟨a.lv, by show a.lv < a.lv + b.lv; omega⟩ : Fin (a.pair b).lv).val = b.lv by show a.lv + b.lv - a.lv = b.lv; omega] at h3
      have h3 : CT r a.lv + CT r b.lv + 3 ≤ CT (r + 1) (a.pair b).lv := h3
      simp only [Tm.cost]; omega
theorem asking_ok (hO : OpsOk ops) (IH : TreeSpec ps pc ops r (m + 1) K0) (hs : StAt S ps pc) (L : Lev Γ τ r m dep) (hK : K0 + 1 ≤ K) (hK2 : 20 ≤ K)
    (hQ : ∀ (t : T) S', Good ops Γ t τ (dpB (r + 1) m) (SZ (r + 1) τ.nd) (CT (r + 1) τ.lv) → Nx ps pc S S' → Q t.d S') : go K .law_asking [.obj ps, .lst (ops.map opD), Γ.d, τ.d, .int dep] S Q E := by
  have ct := L.ct
  have sz := L.sz
  obtain ⟨hd, ht, h1, hm, hΓ, hl, hmx, hr⟩ := L
  obtain ⟨k, rfl⟩ : ∃ k, K = k + 1 := ⟨K - 1, by omega⟩
  have hdp := dpB_m r (m + 1)
  have hx : ∀ {σ : TM.Ty}, σ.dp ≤ 12 → CnOk ((nm "x" Γ.length, σ) :: Γ) := fun h => hΓ.push (by omega) (.inl rfl) h
  have l1 := lf_pos (m + 1)
  have eD : dpB (r + 1) m = dpB r (m + 1) + 6 := rfl
  rw [go_law_asking]
  unfold b_law_asking
  simp [startD]
  refine take_g (m := ops.length) hs (by omega) hO.ne (by have := hO.ln; omega) fun q S1 hq n1 => ?_
  obtain ⟨⟨o, α, β⟩, ho⟩ : ∃ o, ops[q]? = some o := ⟨_, List.getElem?_eq_getElem hq⟩
  have hom := List.mem_of_getElem? ho
  have hdO : α.dp ≤ 1 ∧ β.dp ≤ 1 := hO.dp _ hom
  have e1 : atI (ops.map opD) (q : Int) = some (opD (o, α, β)) := at_nat (by rw [List.getElem?_map, ho]; rfl)
  simp [e1, opD, see_ty]
  have smα := Ty.small hdO.1
  have smβ := Ty.small hdO.2
  have zα := SZ_mono r (show α.nd ≤ τ.nd + 4 by omega)
  have cα := CT_two (r := r) (by omega) smα.1
  refine IH n1.1 hd (by omega) (by omega) hΓ (by omega) (by omega) fun a S2 ha n2 => ?_
  have hask : Has ops Γ (.ask o a) β := .ask (hO.look hom) ha.ty
  have hsh := hO.short hom
  refine ⟨(Ty.okN _).ok (by omega), (Ty.okN _).ok (by omega), ?_⟩
  rw [Ty.eq]
  by_cases e : β = τ
  · subst e
    simp
    refine hQ (.ask o a) S2 ⟨hask, ⟨hsh, ha.ok⟩, ?_, ?_, ha.gd, ?_⟩ (n1.trans n2)
    · have := ha.dep; simp [Tm.dep]; omega
    · have := ha.sz; simp [Tm.sz]; omega
    · have := ha.cost; have := ct.two; simp [Tm.cost]; omega
  · simp [e, Cn.d]
    refine str_nm (by omega) "x" (by decide) ?_
    refine ⟨by have := hΓ.ln; simp [lim]; omega, ?_⟩
    rw [push1]
    refine IH n2.1 hd (by omega) (by omega) (hx (σ := β) (by omega)) (by simp; omega) (by omega) fun b S3 hb n3 => ?_
    refine hQ (.lt (nm "x" Γ.length) (.ask o a) b) S3 ⟨.lt hask hb.ty, ⟨nm_P (.inl rfl) (by omega), ⟨hsh, ha.ok⟩, hb.ok⟩, ?_, ?_, ⟨ha.gd, hb.gd⟩, ?_⟩ ((n1.trans n2).trans n3)
    · have := ha.dep; have := hb.dep; simp [Tm.dep]; omega
    · have := ha.sz; have := hb.sz; have := SZ_mono r (show τ.nd ≤ τ.nd + 4 by omega); simp [Tm.sz]; omega
    · have := ha.cost; have := hb.cost; have := ct.ask; simp [Tm.cost]; omega
end
end Pg
namespace Pg
open PySem PySem.Spec PyProof.Rows L2 DL TM
section
variable {ps pc : Addr} {ops : Ops} {r m K0 : Nat} {τ : TM.Ty} {Γ : Cn} {K : Nat} {S : Store} {dep : Int} {Q : QE} {E : XQ}
/-- a clause: its operation, names, body -/
structure GoodC (ops : Ops) (Γ : Cn) (o x k : String) (b : T) (α β τ : TM.Ty) (d s : Nat) : Prop where
  ty : Has ops ((k, .fn β τ) :: (x, α) :: Γ) b τ
  ok : P17 x ∧ P17 k ∧ b.ok P17
  dep : b.dep ≤ d
  sz : b.sz ≤ s
  gd : b.gd0 96
  cost : b.cost ≤ 96
theorem clause_ok {o : String} {α β : TM.Ty} (hα : α.dp ≤ 1) (hβ : β.dp ≤ 1) (IH : TreeSpec ps pc ops r (m + 1) K0) (hs : StAt S ps pc) (L : Lev Γ τ r m dep) (hK : K0 + 1 ≤ K) (hK2 : 20 ≤ K)
    (hQ : ∀ (x k : String) (t : T) S', GoodC ops Γ o x k t α β τ (dpB r (m + 1) + 3) (SZ r (τ.nd + 4) + 6) → Nx ps pc S S' → Q (.tup [.str o, .str x, .str k, t.d]) S') :
    go K .law_clause [.obj ps, .lst (ops.map opD), Γ.d, τ.d, .int dep, opD (o, α, β)] S Q E := by
  have ct := L.ct
  have sz := L.sz
  obtain ⟨hd, ht, h1, hm, hΓ, hl, hmx, hr⟩ := L
  obtain ⟨k, rfl⟩ : ∃ k, K = k + 1 := ⟨K - 1, by omega⟩
  have hdp := dpB_m r (m + 1)
  have l1 := lf_pos (m + 1)
  have hx : CnOk ((nm "x" Γ.length, α) :: Γ) := hΓ.push (by omega) (.inl rfl) (by omega)
  have hk : CnOk ((nm "k" (Γ.length + 1), Ty.fn β τ) :: (nm "x" Γ.length, α) :: Γ) := hx.push (by simp; omega) (.inr (.inl rfl)) (by simp [Ty.dp]; omega)
  have px := nm_P (c := "x") (i := Γ.length) (.inl rfl) (by omega)
  have pk := nm_P (c := "k") (i := Γ.length + 1) (.inr (.inl rfl)) (by omega)
  have eF : D.tup [D.str "fun", β.d, τ.d] = (Ty.fn β τ).d := rfl
  have hcall : ∀ {t : T} {Δ : Cn}, Has ops Δ t β → Δ.lookup (nm "k" (Γ.length + 1)) = some (Ty.fn β τ) → Has ops Δ (.call (.name (nm "k" (Γ.length + 1))) t) τ := fun h e => .call (.name e) h
  have kl : ((nm "k" (Γ.length + 1), Ty.fn β τ) :: (nm "x" Γ.length, α) :: Γ).lookup (nm "k" (Γ.length + 1)) = some (Ty.fn β τ) := by rw [List.lookup_cons_self]
  rw [go_law_clause]
  unfold b_law_clause
  simp [startD, Cn.d, opD]
  refine str_nm (by omega) "x" (by decide) ?_
  rw [show (Γ.length : Int) + 1 = ((Γ.length + 1 : Nat) : Int) by omega]
  refine str_nm (by omega) "k" (by decide) ?_
  refine ⟨by have := hΓ.ln; simp [lim]; omega, ?_⟩
  refine take_g (m := 6) hs (by omega) (by omega) (by omega) fun q S1 hq n1 => ?_
  refine ⟨by have := hΓ.ln; simp [lim]; omega, ?_⟩
  rw [eF, push2, push1]
  have wk : ∀ {t : T} {σ : TM.Ty}, Has ops ((nm "x" Γ.length, α) :: Γ) t σ → Has ops ((nm "k" (Γ.length + 1), Ty.fn β τ) :: (nm "x" Γ.length, α) :: Γ) t σ := fun h => h.weak (weak1 (by have := hk.nd; rw [List.map_cons, List.nodup_cons] at this; exact this.1))
  have leaf : ∀ {σ : TM.Ty} {S : Store} {Q : QE} {E : XQ}, σ.dp ≤ m + 1 → σ.mx ≤ 12 → StAt S ps pc → (∀ (t : T) S', TM.Good ops ((nm "x" Γ.length, α) :: Γ) t σ (m + 1) σ.nd (4 * σ.lv - 3) → Nx ps pc S S' → Q t.d S') →
      go k .law_leaf [.obj ps, Cn.d ((nm "x" Γ.length, α) :: Γ), σ.d] S Q E := fun hσ hσx h hq => leaf_ok (m + 1) h hσ (by omega) hσx hx (by simp; omega) (by omega) hq
  have smβ := Ty.small hβ
  have zβ := SZ_mono r (show β.nd ≤ τ.nd + 4 by omega)
  have zτ := SZ_mono r (show τ.nd ≤ τ.nd + 4 by omega)
  have cβ := CT_two (r := r) (by omega) smβ.1
  simp only [r_int0]
  by_cases c2 : q < 2
  · simp [show (q : Int) < 2 by omega]
    refine IH n1.1 hd (by omega) (by omega) hx (by simp; omega) (by omega) fun a S2 ha n2 => ?_
    refine hQ _ _ (.call (.name (nm "k" (Γ.length + 1))) a) S2 ⟨hcall (wk ha.ty) kl, ⟨px, pk, pk, ha.ok⟩, ?_, ?_, ⟨trivial, ha.gd⟩, ?_⟩ (n1.trans n2)
    · have := ha.dep; simp [Tm.dep]; omega
    · have := ha.sz; simp [Tm.sz]; omega
    · have := ha.cost; have := ct.bod2; simp [Tm.cost]; omega
  simp [show ¬ (q : Int) < 2 by omega]
  by_cases e2 : q = 2
  · subst e2
    simp
    refine IH n1.1 hd (by omega) (by omega) hk (by simp; omega) (by omega) fun a S2 ha n2 => ?_
    refine hQ _ _ (.call (.name (nm "k" (Γ.length + 1))) a) S2 ⟨hcall ha.ty kl, ⟨px, pk, pk, ha.ok⟩, ?_, ?_, ⟨trivial, ha.gd⟩, ?_⟩ (n1.trans n2)
    · have := ha.dep; simp [Tm.dep]; omega
    · have := ha.sz; simp [Tm.sz]; omega
    · have := ha.cost; have := ct.bod2; simp [Tm.cost]; omega
  have last : go k Fn.law_tree [D.obj ps, D.lst (List.map opD ops), Cn.d ((nm "k" (List.length Γ + 1), β.fn τ) :: (nm "x" (List.length Γ), α) :: Γ), τ.d, D.int (dep - 1)] S1
                      (fun x S1 => Q (D.tup [D.str o, D.str (nm "x" (List.length Γ)), D.str (nm "k" (List.length Γ + 1)), x]) S1) fun x S2 => E x S2 := by
    refine IH n1.1 hd (by omega) (by omega) hk (by simp; omega) (by omega) fun a S2 ha n2 => ?_
    refine hQ _ _ a S2 ⟨ha.ty, ⟨px, pk, ha.ok⟩, ?_, ?_, ha.gd, ?_⟩ (n1.trans n2)
    · have := ha.dep; omega
    · have := ha.sz; omega
    · have := ha.cost; have := ct.body; omega
  simp [show ¬ (q : Int) = 2 by omega]
  by_cases e3 : q = 3
  · subst e3
    simp [dIx_ty0]
    by_cases hτ : τ = .int
    · subst hτ
      simp [Ty.head]
      refine leaf (by omega) (by omega) n1.1 fun a S2 ha n2 => ?_
      refine leaf (by omega) (by omega) n2.1 fun b S3 hb n3 => ?_
      refine hQ _ _ (.op "+" (.call (.name (nm "k" (Γ.length + 1))) a) (.call (.name (nm "k" (Γ.length + 1))) b)) S3 ⟨.op .add (hcall (wk ha.ty) kl) (hcall (wk hb.ty) kl), ⟨px, pk, by decide, ⟨pk, ha.ok⟩, ⟨pk, hb.ok⟩⟩, ?_, ?_, ⟨⟨trivial, ha.gd⟩, ⟨trivial, hb.gd⟩⟩, ?_⟩ ((n1.trans n2).trans n3)
      · have := ha.dep; have := hb.dep; simp [Tm.dep]; omega
      · have := ha.sz; have := hb.sz; simp [Tm.sz]; omega
      · have := ha.cost; have := hb.cost; simp [Tm.cost]; omega
    · have hh : ¬ τ.head = "int" := by cases τ <;> simp [Ty.head] at hτ ⊢
      simp [hh]
      exact last
  simp [show ¬ (q : Int) = 3 by omega]
  by_cases e4 : q = 4
  · subst e4
    simp
    refine leaf (σ := .int) (by simp [Ty.dp]) (by simp [Ty.mx]) n1.1 fun a S2 ha n2 => ?_
    refine leaf (by omega) (by omega) n2.1 fun b S3 hb n3 => ?_
    refine hQ _ _ (.prt a (.call (.name (nm "k" (Γ.length + 1))) b)) S3 ⟨.prt (wk ha.ty) (hcall (wk hb.ty) kl), ⟨px, pk, ha.ok, ⟨pk, hb.ok⟩⟩, ?_, ?_, ⟨ha.gd, ⟨trivial, hb.gd⟩⟩, ?_⟩ ((n1.trans n2).trans n3)
    · have := ha.dep; have := hb.dep; simp [Tm.dep]; omega
    · have := ha.sz; have := hb.sz; simp only [Tm.sz, Ty.nd] at *; omega
    · have := ha.cost; have := hb.cost; simp only [Tm.cost, Ty.lv] at *; omega
  simp [show ¬ (q : Int) = 4 by omega]
  exact last
theorem nm_ne {c : String} {i : Nat} (h : c ≠ "") : nm c i ≠ "" := fun z => by
  have e := congrArg String.length z
  rw [nm, String.length_append] at e
  have e1 : c.length + (toString (i : Int)).length = 0 := e
  have e2 : c.length ≠ 0 := fun z => h (by simpa using z)
  omega
theorem loop_ok (IH : TreeSpec ps pc ops r (m + 1) K0) (hs : StAt S ps pc) (L : Lev Γ τ r m dep) (hK : K0 + 1 ≤ K) (hK2 : 20 ≤ K)
    (hQ : ∀ (t : T) S', TM.Good ops Γ t τ (dpB (r + 1) m) (SZ (r + 1) τ.nd) (CT (r + 1) τ.lv) → Nx ps pc S S' → Q t.d S') : go K .law_loop [.obj ps, .lst (ops.map opD), Γ.d, τ.d, .int dep] S Q E := by
  have ct := L.ct
  have sz := L.sz
  obtain ⟨hd, ht, h1, hm, hΓ, hl, hmx, hr⟩ := L
  obtain ⟨k, rfl⟩ : ∃ k, K = k + 1 := ⟨K - 1, by omega⟩
  have hdp := dpB_m r (m + 1)
  have eD : dpB (r + 1) m = dpB r (m + 1) + 6 := rfl
  have hh : CnOk ((nm "h" Γ.length, Ty.fn .int τ) :: Γ) := hΓ.push (by omega) (.inr (.inr rfl)) (by simp [Ty.dp]; omega)
  have hx : CnOk ((nm "x" (Γ.length + 1), Ty.int) :: (nm "h" Γ.length, Ty.fn .int τ) :: Γ) := hh.push (by simp; omega) (.inl rfl) (by simp [Ty.dp])
  have px := nm_P (c := "x") (i := Γ.length + 1) (.inl rfl) (by omega)
  have ph := nm_P (c := "h") (i := Γ.length) (.inr (.inr rfl)) (by omega)
  have lx : ((nm "x" (Γ.length + 1), Ty.int) :: (nm "h" Γ.length, Ty.fn .int τ) :: Γ).lookup (nm "x" (Γ.length + 1)) = some .int := (hx.look (by simp)).1
  have lh : ((nm "x" (Γ.length + 1), Ty.int) :: (nm "h" Γ.length, Ty.fn .int τ) :: Γ).lookup (nm "h" Γ.length) = some (Ty.fn .int τ) := (hx.look (by simp)).1
  have hX : Has ops ((nm "x" (Γ.length + 1), Ty.int) :: (nm "h" Γ.length, Ty.fn .int τ) :: Γ) (.name (nm "x" (Γ.length + 1))) .int := .name lx
  have eF : D.tup [D.str "fun", D.tup [D.str "int"], τ.d] = (Ty.fn .int τ).d := rfl
  have zτ := SZ_mono r (show τ.nd ≤ τ.nd + 4 by omega)
  have hne : nm "h" Γ.length ≠ "" := nm_ne (by decide)
  have eI : D.tup [D.str "int"] = Ty.int.d := rfl
  rw [go_law_loop]
  unfold b_law_loop
  simp [startD, Cn.d]
  refine str_nm (by omega) "h" (by decide) ?_
  rw [show (Γ.length : Int) + 1 = ((Γ.length + 1 : Nat) : Int) by omega]
  refine str_nm (by omega) "x" (by decide) ?_
  refine ⟨by have := hΓ.ln; simp [lim]; omega, ?_⟩
  refine take_g (m := 2) hs (by omega) (by omega) (by omega) fun q S1 hq n1 => ?_
  have push3 : D.lst ((List.map knD Γ).reverse ++ [D.tup [D.str (nm "h" Γ.length), (Ty.fn .int τ).d], D.tup [D.str (nm "x" (Γ.length + 1)), D.tup [D.str "int"]]]) = Cn.d ((nm "x" (Γ.length + 1), Ty.int) :: (nm "h" Γ.length, Ty.fn .int τ) :: Γ) := push2 (σ := .int)
  rw [eF, push3]
  simp only [r_see1, ok_int, DL.eq_int, true_and]
  have eqI : eqD τ.d (.tup [.str "int"]) = decide (τ = .int) := Ty.eq τ .int
  have okI : okD (.tup [.str "int"]) = true := (Ty.okN .int).ok (by decide)
  -- what is called again
  have hAg : Has ops ((nm "x" (Γ.length + 1), Ty.int) :: (nm "h" Γ.length, Ty.fn .int τ) :: Γ) (.call (.name (nm "h" Γ.length)) (.op "-" (.name (nm "x" (Γ.length + 1))) (.num 1))) τ := .call (.name lh) (.op .sub hX (.num 1))
  have okAg : Tm.ok P17 (.call (.name (nm "h" Γ.length)) (.op "-" (.name (nm "x" (Γ.length + 1))) (.num 1))) := ⟨ph, by decide, px, by show (1 : Int).natAbs < 2 ^ 32; decide⟩
  have A1 : Has ops ((nm "x" (Γ.length + 1), Ty.int) :: (nm "h" Γ.length, Ty.fn .int τ) :: Γ) (.call (.name (nm "h" Γ.length)) (.op "-" (.name (nm "x" (Γ.length + 1))) (.num 1)) : T) τ ∧ (.call (.name (nm "h" Γ.length)) (.op "-" (.name (nm "x" (Γ.length + 1))) (.num 1)) : T).ok P17 ∧ (.call (.name (nm "h" Γ.length)) (.op "-" (.name (nm "x" (Γ.length + 1))) (.num 1)) : T).dep ≤ 3 ∧ (.call (.name (nm "h" Γ.length)) (.op "-" (.name (nm "x" (Γ.length + 1))) (.num 1)) : T).sz ≤ 7 ∧ (.call (.name (nm "h" Γ.length)) (.op "-" (.name (nm "x" (Γ.length + 1))) (.num 1)) : T).gd0 96 ∧ (.call (.name (nm "h" Γ.length)) (.op "-" (.name (nm "x" (Γ.length + 1))) (.num 1)) : T).cost ≤ 12 := ⟨hAg, okAg, by simp [Tm.dep], by simp [Tm.sz], ⟨trivial, trivial, by show (1 : Int).natAbs < 2 ^ 32; decide⟩, by simp [Tm.cost]⟩
  have A2 : Has ops ((nm "x" (Γ.length + 1), Ty.int) :: (nm "h" Γ.length, Ty.fn .int τ) :: Γ) (.prt (.name (nm "x" (Γ.length + 1))) (.call (.name (nm "h" Γ.length)) (.op "-" (.name (nm "x" (Γ.length + 1))) (.num 1))) : T) τ ∧ (.prt (.name (nm "x" (Γ.length + 1))) (.call (.name (nm "h" Γ.length)) (.op "-" (.name (nm "x" (Γ.length + 1))) (.num 1))) : T).ok P17 ∧ (.prt (.name (nm "x" (Γ.length + 1))) (.call (.name (nm "h" Γ.length)) (.op "-" (.name (nm "x" (Γ.length + 1))) (.num 1))) : T).dep ≤ 3 ∧ (.prt (.name (nm "x" (Γ.length + 1))) (.call (.name (nm "h" Γ.length)) (.op "-" (.name (nm "x" (Γ.length + 1))) (.num 1))) : T).sz ≤ 7 ∧ (.prt (.name (nm "x" (Γ.length + 1))) (.call (.name (nm "h" Γ.length)) (.op "-" (.name (nm "x" (Γ.length + 1))) (.num 1))) : T).gd0 96 ∧ (.prt (.name (nm "x" (Γ.length + 1))) (.call (.name (nm "h" Γ.length)) (.op "-" (.name (nm "x" (Γ.length + 1))) (.num 1))) : T).cost ≤ 12 := ⟨.prt hX hAg, ⟨px, okAg⟩, by simp [Tm.dep], by simp [Tm.sz], ⟨trivial, trivial, trivial, by show (1 : Int).natAbs < 2 ^ 32; decide⟩, by simp [Tm.cost]⟩
  have g1 : ∀ {ag a : T}, Has ops ((nm "x" (Γ.length + 1), Ty.int) :: (nm "h" Γ.length, Ty.fn .int τ) :: Γ) ag τ ∧ ag.ok P17 ∧ ag.dep ≤ 3 ∧ ag.sz ≤ 7 ∧ ag.gd0 96 ∧ ag.cost ≤ 12 → ∀ v : Nat, TM.Good ops ((nm "x" (Γ.length + 1), Ty.int) :: (nm "h" Γ.length, Ty.fn .int τ) :: Γ) a τ (dpB r (m + 1)) (SZ r τ.nd) (CT r τ.lv) → v < 5 →
      TM.Good ops Γ (.call (.rc (nm "h" Γ.length) (nm "x" (Γ.length + 1)) (.ite (.op "<" (.name (nm "x" (Γ.length + 1))) (.num 1)) a ag)) (.num v)) τ (dpB (r + 1) m) (SZ (r + 1) τ.nd) (CT (r + 1) τ.lv) := fun {ag a} A v ha hv => by
    obtain ⟨a1, a2, a3, a4, a5, a6⟩ := A
    refine ⟨.call (.rc (.ite (.op .lt hX (.num 1)) ha.ty a1)) (.num _), ⟨⟨ph, px, ⟨by decide, px, by show (1 : Int).natAbs < 2 ^ 32; decide⟩, ha.ok, a2⟩, by show (v : Int).natAbs < 2 ^ 32; omega⟩, ?_, ?_, ⟨⟨hne, ?_, ⟨trivial, by show (1 : Int).natAbs < 2 ^ 32; decide⟩, ha.gd, a5⟩, by show (v : Int).natAbs < 2 ^ 32; omega⟩, ?_⟩
    · have := ha.dep; simp [Tm.dep]; omega
    · have := ha.sz; simp [Tm.sz]; omega
    · have := ha.cost; have := ct.body; simp [Tm.cost]; omega
    · have := ct.loop; simp [Tm.cost]; omega
  have g2 : ∀ {ag a : T}, τ = .int → Has ops ((nm "x" (Γ.length + 1), Ty.int) :: (nm "h" Γ.length, Ty.fn .int τ) :: Γ) ag τ ∧ ag.ok P17 ∧ ag.dep ≤ 3 ∧ ag.sz ≤ 7 ∧ ag.gd0 96 ∧ ag.cost ≤ 12 → ∀ v : Nat, TM.Good ops ((nm "x" (Γ.length + 1), Ty.int) :: (nm "h" Γ.length, Ty.fn .int τ) :: Γ) a τ (dpB r (m + 1)) (SZ r τ.nd) (CT r τ.lv) → v < 5 →
      TM.Good ops Γ (.call (.rc (nm "h" Γ.length) (nm "x" (Γ.length + 1)) (.op "+" (.name (nm "x" (Γ.length + 1))) (.ite (.op "<" (.name (nm "x" (Γ.length + 1))) (.num 1)) a ag))) (.num v)) τ (dpB (r + 1) m) (SZ (r + 1) τ.nd) (CT (r + 1) τ.lv) := fun {ag a} e A v ha hv => by
    obtain ⟨a1, a2, a3, a4, a5, a6⟩ := A
    subst e
    refine ⟨.call (.rc (.op .add hX (.ite (.op .lt hX (.num 1)) ha.ty a1))) (.num _), ⟨⟨ph, px, by decide, px, ⟨by decide, px, by show (1 : Int).natAbs < 2 ^ 32; decide⟩, ha.ok, a2⟩, by show (v : Int).natAbs < 2 ^ 32; omega⟩, ?_, ?_, ⟨⟨hne, ?_, trivial, ⟨trivial, by show (1 : Int).natAbs < 2 ^ 32; decide⟩, ha.gd, a5⟩, by show (v : Int).natAbs < 2 ^ 32; omega⟩, ?_⟩
    · have := ha.dep; simp [Tm.dep]; omega
    · have := ha.sz; simp [Tm.sz]; omega
    · have := ha.cost; have := ct.body; simp [Tm.cost]; omega
    · have := ct.loop; simp [Tm.cost]; omega
  by_cases e : q = 0
  · subst e
    simp
    refine IH n1.1 hd (by omega) (by omega) hx (by simp; omega) (by omega) fun a S2 ha n2 => ?_
    refine take_g (m := 2) n2.1 (by omega) (by omega) (by omega) fun q2 S3 hq2 n3 => ?_
    simp
    by_cases e2 : q2 = 0
    · subst e2
      simp [see_ty]
      refine ⟨(Ty.okN _).ok (by omega), okI, ?_⟩
      rw [eqI]
      by_cases e3 : τ = .int
      · simp only [e3, decide_true, if_true]
        refine take_g (m := 5) n3.1 (by omega) (by omega) (by omega) fun v S4 hv n4 => ?_
        exact hQ _ S4 (g2 e3 A2 v ha hv) (((n1.trans n2).trans n3).trans n4)
      · simp only [e3, decide_false]
        refine take_g (m := 5) n3.1 (by omega) (by omega) (by omega) fun v S4 hv n4 => ?_
        exact hQ _ S4 (g1 A2 v ha hv) (((n1.trans n2).trans n3).trans n4)
    · simp [e2]
      refine take_g (m := 5) n3.1 (by omega) (by omega) (by omega) fun v S4 hv n4 => ?_
      exact hQ _ S4 (g1 A2 v ha hv) (((n1.trans n2).trans n3).trans n4)
  · simp [e]
    refine IH n1.1 hd (by omega) (by omega) hx (by simp; omega) (by omega) fun a S2 ha n2 => ?_
    refine take_g (m := 2) n2.1 (by omega) (by omega) (by omega) fun q2 S3 hq2 n3 => ?_
    simp
    by_cases e2 : q2 = 0
    · subst e2
      simp [see_ty]
      refine ⟨(Ty.okN _).ok (by omega), okI, ?_⟩
      rw [eqI]
      by_cases e3 : τ = .int
      · simp only [e3, decide_true, if_true]
        refine take_g (m := 5) n3.1 (by omega) (by omega) (by omega) fun v S4 hv n4 => ?_
        exact hQ _ S4 (g2 e3 A1 v ha hv) (((n1.trans n2).trans n3).trans n4)
      · simp only [e3, decide_false]
        refine take_g (m := 5) n3.1 (by omega) (by omega) (by omega) fun v S4 hv n4 => ?_
        exact hQ _ S4 (g1 A1 v ha hv) (((n1.trans n2).trans n3).trans n4)
    · simp [e2]
      refine take_g (m := 5) n3.1 (by omega) (by omega) (by omega) fun v S4 hv n4 => ?_
      exact hQ _ S4 (g1 A1 v ha hv) (((n1.trans n2).trans n3).trans n4)
end
end Pg
namespace Pg
open PySem PySem.Spec PyProof.Rows L2 DL TM
section
variable {ps pc : Addr} {ops : Ops} {r m K0 : Nat} {τ : TM.Ty} {Γ : Cn} {K : Nat} {S : Store} {dep : Int} {Q : QE} {E : XQ}
/-- clauses that were made for some of the operations, in their order -/
structure ClsOk (ops : Ops) (Γ : Cn) (τ : TM.Ty) (c : Cls) (dn : Ops) (d s : Nat) : Prop where
  ty : HasC ops Γ c τ
  sub : c.ops.Sublist (dn.map (·.1))
  ok : c.ok P17
  dep : c.dep ≤ d
  sz : c.sz ≤ dn.length * s
  gd : c.gd0 96
theorem ops_len : ∀ c : Cls, c.ops.length = c.len
  | .nil => rfl
  | .cons _ _ _ _ r => by simp [Cls.ops, Cls.len, ops_len r]
theorem clauses_loop (hO : OpsOk ops) (IH : TreeSpec ps pc ops r (m + 1) K0) (L : Lev Γ τ r m dep) {k : Nat} (hK : K0 + 1 ≤ k) (hK2 : 20 ≤ k) {σ : TM.Ty} {a b : T} {S4 : Store}
    {cA : Nat} (ha : TM.Good ops Γ a σ (dpB r (m + 1)) (SZ r (τ.nd + 4)) cA) (hb : TM.Good ops ((nm "x" Γ.length, σ) :: Γ) b τ (dpB r (m + 1)) (SZ r (τ.nd + 4)) (CT (r - 1) τ.lv)) (hcA : cA + CT (r - 1) τ.lv + 2 ≤ CT (r + 1) τ.lv) (hs : StAt S ps pc) (n4 : Nx ps pc S S4)
    (hQ : ∀ (t : T) S', TM.Good ops Γ t τ (dpB (r + 1) m) (SZ (r + 1) τ.nd) (CT (r + 1) τ.lv) → Nx ps pc S S' → Q t.d S') : ∀ (p : Addr), S4 p = none →
                forL (keepL (D.lst (List.map opD ops)) (List.map opD ops)) (gN 10)
                  (dIfS
                    (dTest
                      (dOp dGt
                        (dCall (go k Fn.law_take) (fun x x_2 S1 => E x S1) (dCons (dVar 0) (dCons (dC (D.int 3)) dNil)))
                        (dC (D.int 0))))
                    (dDrop
                      (dBM "list" mAppend (dVar 9)
                        (dCons
                          (dCall (go k Fn.law_clause) (fun x x_2 S1 => E x S1)
                            (dCons (dVar 0)
                              (dCons (dVar 1)
                                (dCons (dVar 2) (dCons (dVar 3) (dCons (dVar 4) (dCons (dVar 10) dNil)))))))
                          dNil)))
                    dNext)
                  (List.map opD ops)
                  {
                    nx :=
                      dRet
                        (dTup
                          (dCons (dC (D.str "handle"))
                            (dCons (dVar 6)
                              (dCons (dTup (dCons (dVar 7) (dCons (dVar 8) dNil)))
                                (dCons (dCB bTuple (dCons (dFrz (dVar 9)) dNil)) dNil)))))
                        { nx := fun x S1 => Q D.non S1, rt := Q },
                    rt := Q }
                  [some (D.obj ps), some (D.lst (List.map opD ops)), some (D.lst (List.map knD Γ).reverse), some τ.d,
                    some (D.int dep), some σ.d, some (Tm.d a), some (D.str (nm "x" Γ.length)), some (Tm.d b), some (D.obj p), none]
                  (put S4 p (Ob.lst [])) := by
  intro p hp
  have ct := L.ct
  have sz := L.sz
  obtain ⟨hd, ht, h1, hm, hΓ, hl, hmx, hr⟩ := id L
  have hdp := dpB_m r (m + 1)
  have eD : dpB (r + 1) m = dpB r (m + 1) + 6 := rfl
  have px := nm_P (c := "x") (i := Γ.length) (.inl rfl) (by omega)
  obtain ⟨hne, i0, cs0, _, _, es, ec⟩ := id n4.1
  have hps : p ≠ ps := fun e => by rw [e, es] at hp; cases hp
  have hpc : p ≠ pc := fun e => by rw [e, ec] at hp; cases hp
  have put_st : ∀ {S o}, StAt S ps pc → StAt (put S p o) ps pc := fun {S o} ⟨a, i, cs, b, c, d, e⟩ => ⟨a, i, cs, b, c, by rw [put_ne hps.symm]; exact d, by rw [put_ne hpc.symm]; exact e⟩
  refine for_indM opD (I := fun dn r' σv S' => ∃ a10 c, σv = [some (.obj ps), some (.lst (ops.map opD)), some (.lst (Γ.map knD).reverse), some τ.d, some (.int dep), some σ.d, some a.d, some (.str (nm "x" Γ.length)), some b.d, some (.obj p), a10] ∧
    S' p = some (.lst c.d) ∧ StAt S' ps pc ∧ (∀ q, q ≠ ps → q ≠ pc → q ≠ p → S' q = S4 q) ∧ ClsOk ops Γ τ c dn (dpB r (m + 1) + 3) (SZ r (τ.nd + 4) + 6)) ops (fun _ _ _ _ _ => rfl) ?st ?fn
    ⟨none, .nil, rfl, by rw [put_same]; rfl, put_st n4.1, fun q _ _ c => put_ne c, ⟨.nil, by simp [Cls.ops], trivial, by simp [Cls.dep], by simp [Cls.sz], trivial⟩⟩
  case st =>
    rintro dn ⟨o, α, β⟩ r' σv S2 N e ⟨a10, c, rfl, hp2, st2, keep2, hc⟩ hN
    have hom : (o, α, β) ∈ ops := by rw [← e]; simp
    have hdO : α.dp ≤ 1 ∧ β.dp ≤ 1 := hO.dp _ hom
    have hlen : dn.length + 1 ≤ ops.length := by
      have := congrArg List.length e
      simp at this; omega
    have hln := hO.ln
    simp
    refine take_g (m := 3) st2 (by omega) (by omega) (by omega) fun q S3 hq m1 => ?_
    have hp3 : S3 p = some (.lst c.d) := by rw [m1.2 p hps hpc, hp2]
    simp
    by_cases e0 : 0 < q
    · simp [e0]
      refine ⟨tyD_lst hp3, ?_⟩
      refine clause_ok (Γ := Γ) hdO.1 hdO.2 IH m1.1 L (by omega) (by omega) fun x kk t S5 ht m2 => ?_
      have m5 := m1.trans m2
      have hp5 : S5 p = some (.lst c.d) := by rw [m5.2 p hps hpc, hp2]
      have hcl : c.d.length ≤ 4 := by
        rw [Cls.d_len, ← ops_len]
        have := hc.sub.length_le
        simp at this; omega
      simp [app_obj hp5, lim]
      refine ⟨by omega, hN _ _ ⟨_, c.app (.cons o x kk t .nil), rfl, by rw [put_same, Cls.d_app]; rfl, put_st m2.1, fun q' a b d => by rw [put_ne d, m5.2 q' a b, keep2 q' a b d], ?_⟩⟩
      refine ⟨hc.ty.app (.cons (hO.look hom) ht.ty .nil), ?_, Cls.ok_app hc.ok ⟨hO.short hom, ht.ok.1, ht.ok.2.1, ht.ok.2.2, trivial⟩, ?_, ?_, Cls.gd0_app hc.gd ⟨ht.cost, ht.gd, trivial⟩⟩
      · rw [Cls.ops_app, List.map_append]
        exact hc.sub.append (List.Sublist.refl _)
      · have := hc.dep; have := ht.dep; rw [Cls.dep_app]; simp [Cls.dep]; omega
      · have h1 := hc.sz
        have h2 := ht.sz
        rw [Cls.sz_app, List.length_append, Nat.add_mul]; simp [Cls.sz]; omega
    · simp [e0]
      refine hN _ _ ⟨_, c, rfl, hp3, m1.1, fun q' a b d => by rw [m1.2 q' a b, keep2 q' a b d], hc.ty, ?_, hc.ok, hc.dep, ?_, hc.gd⟩
      · rw [List.map_append]; exact hc.sub.trans (List.sublist_append_left _ _)
      · have h1 := hc.sz
        rw [List.length_append, Nat.add_mul]; omega
  case fn =>
    rintro σv S2 ⟨a10, c, rfl, hp2, st2, keep2, hc⟩
    have hcl : c.len ≤ 4 := by
      rw [← ops_len]
      have := hc.sub.length_le
      have := hO.ln
      simp at *; omega
    have hsz : c.sz ≤ 4 * (SZ r (τ.nd + 4) + 6) := Nat.le_trans hc.sz (Nat.mul_le_mul_right _ hO.ln)
    simp [hp2]
    refine hQ (.han a (nm "x" Γ.length) b c) _ ⟨.han ha.ty hb.ty hc.ty (hc.sub.nodup hO.nd), ⟨px, ha.ok, hb.ok, hcl, hc.ok⟩, ?_, ?_, ⟨ha.gd, hb.gd, hc.gd, hcl⟩, ?_⟩ (n4.trans ⟨?_, fun q x y => ?_⟩)
    · have := ha.dep; have := hb.dep; have := hc.dep; simp [Tm.dep]; omega
    · have := ha.sz; have := hb.sz; simp [Tm.sz]; omega
    · have := ha.cost; have := hb.cost; simp [Tm.cost]; omega
    · obtain ⟨a, i, cs', b', c', d', e'⟩ := st2
      exact ⟨a, i, cs', b', c', by rw [rid_ne hps.symm]; exact d', by rw [rid_ne hpc.symm]; exact e'⟩
    · by_cases c : q = p
      · subst c; rw [rid_same, hp]
      · rw [rid_ne c, keep2 q x y c]
theorem handling_ok (hO : OpsOk ops) (IH : TreeSpec ps pc ops r (m + 1) K0) (IH2 : TreeSpec ps pc ops (r - 1) (m + 1) K0) (hs : StAt S ps pc) (L : Lev Γ τ r m dep) (hK : K0 + 2 ≤ K) (hK2 : 21 ≤ K)
    (hQ : ∀ (t : T) S', TM.Good ops Γ t τ (dpB (r + 1) m) (SZ (r + 1) τ.nd) (CT (r + 1) τ.lv) → Nx ps pc S S' → Q t.d S') : go K .law_handling [.obj ps, .lst (ops.map opD), Γ.d, τ.d, .int dep] S Q E := by
  have ct := L.ct
  have sz := L.sz
  obtain ⟨hd, ht, h1, hm, hΓ, hl, hmx, hr⟩ := id L
  obtain ⟨k, rfl⟩ : ∃ k, K = k + 1 := ⟨K - 1, by omega⟩
  have hdp := dpB_m r (m + 1)
  have eD : dpB (r + 1) m = dpB r (m + 1) + 6 := rfl
  have hx : ∀ {σ : TM.Ty}, σ.dp ≤ 12 → CnOk ((nm "x" Γ.length, σ) :: Γ) := fun h => hΓ.push (by omega) (.inl rfl) h
  have px := nm_P (c := "x") (i := Γ.length) (.inl rfl) (by omega)
  rw [go_law_handling]
  unfold b_law_handling
  simp [startD]
  refine take_g (m := 3) hs (by omega) (by omega) (by omega) fun q S1 hq n1 => ?_
  by_cases e : q = 0
  · subst e
    simp
    refine kind_ok 1 n1.1 (by omega) (by omega) fun σ S2 hσ n2 => ?_
    have sm := Ty.small hσ
    refine IH n2.1 hd (by omega) (by omega) hΓ (by omega) (by omega) fun a S3 ha n3 => ?_
    simp [Cn.d]
    refine str_nm (by omega) "x" (by decide) ?_
    refine ⟨by have := hΓ.ln; simp [lim]; omega, ?_⟩
    rw [push1]
    refine IH2 n3.1 (by omega) (by omega) (by omega) (hx (by omega)) (by simp; omega) (by omega) fun b S4 hb n4 => ?_
    have cσ := CT_two (r := r) (by omega) sm.1
    exact clauses_loop hO IH L (by omega) (by omega) (ha.le (Nat.le_refl _) (SZ_mono r (by omega)) (Nat.le_refl _)) (hb.le (dpB_pred r (m + 1)) (Nat.le_trans (SZ_pred r _) (SZ_mono r (by omega))) (Nat.le_refl _)) (by have := ct.han2; omega) hs (((n1.trans n2).trans n3).trans n4) hQ
  · simp [e]
    refine IH n1.1 hd (by omega) (by omega) hΓ (by omega) (by omega) fun a S3 ha n3 => ?_
    simp [Cn.d]
    refine str_nm (by omega) "x" (by decide) ?_
    refine ⟨by have := hΓ.ln; simp [lim]; omega, ?_⟩
    rw [push1]
    refine IH2 n3.1 (by omega) (by omega) (by omega) (hx (by omega)) (by simp; omega) (by omega) fun b S4 hb n4 => ?_
    exact clauses_loop hO IH L (by omega) (by omega) (ha.le (Nat.le_refl _) (SZ_mono r (by omega)) (Nat.le_refl _)) (hb.le (dpB_pred r (m + 1)) (Nat.le_trans (SZ_pred r _) (SZ_mono r (by omega))) (Nat.le_refl _)) (by have := ct.han; omega) hs ((n1.trans n3).trans n4) hQ
theorem tree_ok (hO : OpsOk ops) : ∀ (r : Nat) {m : Nat}, 1 ≤ m → m + r ≤ 12 → r ≤ 4 → TreeSpec ps pc ops r m (3 * r + 25) := by
  intro r
  induction r using Nat.strongRecOn with
  | _ r ih0 =>
  cases r with
  | zero =>
    intro m h1 hm hr4 τ Γ K S dep Q E hs hd ht hmx hΓ hl hK hQ
    obtain ⟨k, rfl⟩ : ∃ k, K = k + 1 := ⟨K - 1, by omega⟩
    have lmx := τ.lv_mx
    rw [go_law_tree]
    unfold b_law_tree
    simp [startD, Cn.d]
    refine take_g (m := 14) hs (by omega) (by omega) (by omega) fun q S1 hq n1 => ?_
    refine str_nm (by omega) "x" (by decide) ?_
    simp [show dep < 1 by omega]
    refine leaf_ok (ops := ops) m n1.1 ht (by omega) (by omega) hΓ (by omega) (by omega) fun t S2 h2 n2 => ?_
    exact hQ t S2 (h2.le (by simp [dpB]) (Nat.le_refl _) (by rw [CT_zero (by omega) τ.lv_pos]; exact Nat.le_refl _)) (n1.trans n2)
  | succ r =>
    intro m h1 hm hr4 τ Γ K S dep Q E hs hd ht hmx hΓ hl hK hQ
    have IH : TreeSpec ps pc ops r (m + 1) (3 * r + 25) := @ih0 r (by omega) (m + 1) (by omega) (by omega) (by omega)
    have IH2 : TreeSpec ps pc ops (r - 1) (m + 1) (3 * r + 25) := fun h1 h2 h3 h4 h5 h6 h7 h8 => @ih0 (r - 1) (by omega) (m + 1) (by omega) (by omega) (by omega) _ _ _ _ _ _ _ h1 h2 h3 h4 h5 h6 (by omega) h8
    obtain ⟨k, rfl⟩ : ∃ k, K = k + 1 := ⟨K - 1, by omega⟩
    have hdp := dpB_m (r + 1) m
    have eD : dpB (r + 1) m = dpB r (m + 1) + 6 := rfl
    have L : Lev Γ τ r m dep := ⟨by omega, ht, h1, by omega, hΓ, hl, hmx, by omega⟩
    have ct := L.ct
    have sz := L.sz
    have zτ := SZ_mono r (show τ.nd ≤ τ.nd + 4 by omega)
    have hx : ∀ {σ : TM.Ty}, σ.dp ≤ 12 → CnOk ((nm "x" Γ.length, σ) :: Γ) := fun h => hΓ.push (by omega) (.inl rfl) h
    have tree : ∀ {σ : TM.Ty} {S : Store} {Q : QE} {E : XQ}, σ.dp ≤ m + 1 → σ.mx + 2 * r ≤ 12 → σ.nd ≤ τ.nd + 4 → StAt S ps pc → (∀ (t : T) S', TM.Good ops Γ t σ (dpB r (m + 1)) (SZ r (τ.nd + 4)) (CT r σ.lv) → Nx ps pc S S' → Q t.d S') →
        go k .law_tree [.obj ps, .lst (ops.map opD), .lst (Γ.map knD).reverse, σ.d, .int (dep - 1)] S Q E := fun hσ hσx hz h hq => IH h (by omega) hσ hσx hΓ (by omega) (by omega) fun t S' ht => hq t S' (ht.le (Nat.le_refl _) (SZ_mono r hz) (Nat.le_refl _))
    rw [go_law_tree]
    unfold b_law_tree
    simp [startD, Cn.d]
    refine take_g (m := 14) hs (by omega) (by omega) (by omega) fun q S1 hq n1 => ?_
    refine str_nm (by omega) "x" (by decide) ?_
    by_cases hleaf : dep < 1 ∨ q = 0
    · have leaf : go k .law_leaf [.obj ps, .lst (Γ.map knD).reverse, τ.d] S1 Q fun x S2 => E x S2 := by
        refine leaf_ok (ops := ops) m n1.1 ht (by omega) (by omega) hΓ (by omega) (by omega) fun t S2 h2 n2 => ?_
        exact hQ t S2 (h2.le (by omega) (SZ_self _ _) ct.leaf) (n1.trans n2)
      rcases hleaf with e | e
      · simp [e]; exact leaf
      · by_cases e2 : dep < 1
        · simp [e2]; exact leaf
        · simp [e2, e]; exact leaf
    have e1 : ¬ dep < 1 := fun z => hleaf (.inl z)
    have e2 : ¬ q = 0 := fun z => hleaf (.inr z)
    simp [e1, e2]
    by_cases b3 : q < 3
    · simp [show (q : Int) < 3 by omega]
      exact special_ok IH n1.1 L (by omega) (by omega) fun t S2 h n2 => hQ t S2 h (n1.trans n2)
    simp [show ¬ (q : Int) < 3 by omega]
    by_cases b6 : q < 6
    · simp [show (q : Int) < 6 by omega]
      exact asking_ok hO IH n1.1 L (by omega) (by omega) fun t S2 h n2 => hQ t S2 h (n1.trans n2)
    simp [show ¬ (q : Int) < 6 by omega]
    by_cases b9 : q < 9
    · simp [show (q : Int) < 9 by omega]
      exact handling_ok hO IH IH2 n1.1 L (by omega) (by omega) fun t S2 h n2 => hQ t S2 h (n1.trans n2)
    simp [show ¬ (q : Int) < 9 by omega]
    by_cases c9 : q = 9
    · subst c9
      simp
      exact loop_ok IH n1.1 L (by omega) (by omega) fun t S2 h n2 => hQ t S2 h (n1.trans n2)
    simp [show ¬ (q : Int) = 9 by omega]
    by_cases c10 : q = 10
    · subst c10
      simp
      refine tree (σ := .int) (by simp [Ty.dp]) (by simp [Ty.mx]; omega) (by simp [Ty.nd]) n1.1 fun a S2 ha n2 => ?_
      refine tree (by omega) (by omega) (by omega) n2.1 fun b S3 hb n3 => ?_
      refine hQ (.prt a b) S3 ⟨.prt ha.ty hb.ty, ⟨ha.ok, hb.ok⟩, ?_, ?_, ⟨ha.gd, hb.gd⟩, ?_⟩ ((n1.trans n2).trans n3)
      · have := ha.dep; have := hb.dep; simp [Tm.dep]; omega
      · have := ha.sz; have := hb.sz; simp [Tm.sz]; omega
      · have := show a.cost ≤ CT r 1 from ha.cost; have := hb.cost; have := ct.prt; simp only [Tm.cost]; omega
    simp [show ¬ (q : Int) = 10 by omega]
    refine kind_ok 1 n1.1 (by omega) (by omega) fun σ S2 hσ n2 => ?_
    have sm := Ty.small hσ
    have cσ := CT_two (r := r) (by omega) sm.1
    have spos := σ.lv_pos
    by_cases c11 : q = 11
    · subst c11
      simp
      refine tree (σ := .fn σ τ) (by simp [Ty.dp]; omega) (by simp only [Ty.mx]; omega) (by simp only [Ty.nd]; omega) n2.1 fun a S3 ha n3 => ?_
      refine tree (by omega) (by omega) (by omega) n3.1 fun b S4 hb n4 => ?_
      refine hQ (.call a b) S4 ⟨.call ha.ty hb.ty, ⟨ha.ok, hb.ok⟩, ?_, ?_, ⟨ha.gd, hb.gd⟩, ?_⟩ (((n1.trans n2).trans n3).trans n4)
      · have := ha.dep; have := hb.dep; simp [Tm.dep]; omega
      · have := ha.sz; have := hb.sz; simp [Tm.sz]; omega
      · have := show a.cost ≤ CT r 1 from ha.cost; have := hb.cost; have := ct.call; simp only [Tm.cost]; omega
    simp [show ¬ (q : Int) = 11 by omega]
    by_cases c12 : q = 12
    · subst c12
      simp
      refine tree (σ := .bool) (by simp [Ty.dp]) (by simp [Ty.mx]; omega) (by simp [Ty.nd]) n2.1 fun a S3 ha n3 => ?_
      refine tree (by omega) (by omega) (by omega) n3.1 fun b S4 hb n4 => ?_
      refine tree (by omega) (by omega) (by omega) n4.1 fun c S5 hc n5 => ?_
      refine hQ (.ite a b c) S5 ⟨.ite ha.ty hb.ty hc.ty, ⟨ha.ok, hb.ok, hc.ok⟩, ?_, ?_, ⟨ha.gd, hb.gd, hc.gd⟩, ?_⟩ ((((n1.trans n2).trans n3).trans n4).trans n5)
      · have := ha.dep; have := hb.dep; have := hc.dep; simp [Tm.dep]; omega
      · have := ha.sz; have := hb.sz; have := hc.sz; simp [Tm.sz]; omega
      · have := show a.cost ≤ CT r 1 from ha.cost; have := hb.cost; have := hc.cost; have := ct.prt; simp only [Tm.cost]; omega
    simp [show ¬ (q : Int) = 12 by omega]
    refine take_g (m := 3) n2.1 (by omega) (by omega) (by omega) fun q2 S3 hq2 n3 => ?_
    simp
    by_cases d0 : q2 = 0
    · subst d0
      simp
      have lmx := τ.lv_mx
      refine tree (σ := .pair σ τ) (by simp [Ty.dp]; omega) (by simp only [Ty.mx]; omega) (by simp only [Ty.nd]; omega) n3.1 fun a S4 ha n4 => ?_
      refine hQ (.snd a) S4 ⟨.snd ha.ty, ha.ok, ?_, ?_, ha.gd, ?_⟩ (((n1.trans n2).trans n3).trans n4)
      · have := ha.dep; simp [Tm.dep]; omega
      · have := ha.sz; simp [Tm.sz]; omega
      · have h1 : a.cost ≤ CT r (σ.lv + τ.lv) := ha.cost
        have h2 := ct.snd1
        have h3 := ct.snd2
        simp only [Tm.cost]
        have : σ.lv = 1 ∨ σ.lv = 2 := by omega
        rcases this with e | e <;> rw [e, Nat.add_comm] at h1 <;> omega
    · simp [d0]
      refine tree (by omega) (by omega) (by omega) n3.1 fun a S4 ha n4 => ?_
      refine ⟨by have := hΓ.ln; simp [lim]; omega, ?_⟩
      rw [push1]
      refine IH n4.1 (by omega) (by omega) (by omega) (hx (by omega)) (by simp; omega) (by omega) fun b S5 hb n5 => ?_
      refine hQ (.lt (nm "x" Γ.length) a b) S5 ⟨.lt ha.ty hb.ty, ⟨nm_P (.inl rfl) (by omega), ha.ok, hb.ok⟩, ?_, ?_, ⟨ha.gd, hb.gd⟩, ?_⟩ ((((n1.trans n2).trans n3).trans n4).trans n5)
      · have := ha.dep; have := hb.dep; simp [Tm.dep]; omega
      · have := ha.sz; have := hb.sz; simp [Tm.sz]; omega
      · have := ha.cost; have := hb.cost; have := ct.ask; simp only [Tm.cost]; omega
end
end Pg
namespace Pg
open PySem PySem.Spec PyProof.Rows L2 DL TM
/-- what _law_program gives -/
structure Prog (ops : Ops) (t : T) (τ : TM.Ty) : Prop where
  os : OpsOk ops
  ty : Has ops [] t τ
  ok : t.ok P17
  dep : t.dep ≤ 35
  sz : t.sz ≤ 37700
  gd : t.gd 96
  cost : t.cost ≤ 164
  kd : τ.dp ≤ 2
theorem program_ok {ps pc : Addr} {K : Nat} {S : Store} {Q : QE} {E : XQ} (hs : StAt S ps pc) (hK : 45 ≤ K)
    (hQ : ∀ (ops : Ops) (t : T) (τ : TM.Ty) S', Prog ops t τ → Nx ps pc S S' → Q (.tup [.tup [.str "program", .tup (ops.map opD), t.d], τ.d]) S') : go K .law_program [.obj ps] S Q E := by
  obtain ⟨k, rfl⟩ : ∃ k, K = k + 1 := ⟨K - 1, by omega⟩
  rw [go_law_program]
  unfold b_law_program
  simp [startD]
  refine operations_ok hs (by omega) fun ops S1 hO n1 => ?_
  refine kind_ok 2 n1.1 (by omega) (by omega) fun τ S2 hτ n2 => ?_
  refine take_g (m := 3) n2.1 (by omega) (by omega) (by omega) fun q1 S3 hq1 n3 => ?_
  simp
  refine take_g (m := 8) n3.1 (by omega) (by omega) (by omega) fun q2 S4 hq2 n4 => ?_
  simp
  have hb : bInt [.bl ((q2 : Int) == 0)] S4 = fun Q => Q (.int (if ((q2 : Int) == 0) = true then 1 else 0)) S4 := rfl
  have hdep : ∀ b : Bool, (1 + (q1 : Int) + (if b = true then 1 else 0)) ≤ (4 : Nat) := fun b => by cases b <;> simp <;> omega
  rw [hb]
  simp only [r_addI]
  have T4 : TreeSpec ps pc ops 4 2 37 := tree_ok hO 4 (by omega) (by omega) (by omega)
  have hlv := τ.lv_mx
  have hlp := τ.lv_pos
  have hmx : τ.mx ≤ 4 := Nat.le_trans τ.mx_dp (Nat.pow_le_pow_right (by omega) hτ)
  have hnd : τ.nd ≤ 7 := by
    have := Nat.le_trans τ.nd_dp (Nat.pow_le_pow_right (by omega) (show τ.dp + 1 ≤ 3 by omega))
    omega
  refine T4 (Γ := []) n4.1 (hdep _) hτ (by omega) CnOk.nil (by simp) (by omega) fun t S5 ht n5 => ?_
  have n05 := (((n1.trans n2).trans n3).trans n4).trans n5
  have e32 : dpB 4 2 = 32 := by decide
  have eSz : SZ 4 τ.nd ≤ 37578 := Nat.le_trans (SZ_mono 4 hnd) (by decide)
  have eCt : CT 4 τ.lv ≤ 161 := by
    have all : ∀ s : Fin 5, CT 4 s.val ≤ 161 := by decide +kernel
    exact all ⟨τ.lv, by omega⟩
  rw [e32] at ht
  have htc := Nat.le_trans ht.cost eCt
  have hts := Nat.le_trans ht.sz eSz
  refine take_g (m := 2) n5.1 (by omega) (by omega) (by omega) fun q3 S6 hq3 n6 => ?_
  simp
  by_cases e : q3 = 0
  · subst e
    simp
    intro p hp
    obtain ⟨hne, i0, cs0, _, _, es, ec⟩ := id n6.1
    have hps : p ≠ ps := fun e => by rw [e, es] at hp; cases hp
    have hpc : p ≠ pc := fun e => by rw [e, ec] at hp; cases hp
    have put_st : ∀ {S o}, StAt S ps pc → StAt (put S p o) ps pc := fun {S o} ⟨a, i, cs, b, c, d, e⟩ => ⟨a, i, cs, b, c, by rw [put_ne hps.symm]; exact d, by rw [put_ne hpc.symm]; exact e⟩
    have L : Lev [] τ 0 2 1 := ⟨by omega, hτ, by omega, by omega, CnOk.nil, by simp, by omega, by omega⟩
    refine for_indM opD (I := fun dn r' σv S' => ∃ a5 c, σv = [some (.obj ps), some (.lst (ops.map opD)), some τ.d, some t.d, some (.obj p), a5] ∧
      S' p = some (.lst c.d) ∧ StAt S' ps pc ∧ (∀ q, q ≠ ps → q ≠ pc → q ≠ p → S' q = S6 q) ∧ ClsOk ops [] τ c dn (dpB 0 3 + 3) (SZ 0 (τ.nd + 4) + 6)) ops (fun _ _ _ _ _ => rfl) ?st ?fn
      ⟨none, .nil, rfl, by rw [put_same]; rfl, put_st n6.1, fun q _ _ c => put_ne c, ⟨.nil, by simp [Cls.ops], trivial, by simp [Cls.dep], by simp [Cls.sz], trivial⟩⟩
    case st =>
      rintro dn ⟨o, α, β⟩ r' σv S2' N e ⟨a5, c, rfl, hp2, st2, keep2, hc⟩ hN
      have hom : (o, α, β) ∈ ops := by rw [← e]; simp
      have hdO : α.dp ≤ 1 ∧ β.dp ≤ 1 := hO.dp _ hom
      have hln := hO.ln
      have hlen : dn.length + 1 ≤ ops.length := by
        have := congrArg List.length e
        simp at this; omega
      have hO1 : OpsOk [(o, α, β)] := ⟨by simp, fun x hx => by simp at hx; subst hx; exact hO.nm _ hom, fun x hx => by simp at hx; subst hx; exact hdO, fun x hx => by simp at hx; subst hx; exact hO.pl _ hom, by simp, by simp⟩
      have up : ∀ o' p', List.lookup o' [(o, α, β)] = some p' → ops.lookup o' = some p' := fun o' p' h => by
        rw [List.lookup_cons] at h
        split at h
        · rename_i he
          have he := eq_of_beq he
          subst he
          cases h
          exact hO.look hom
        · cases h
      simp
      refine ⟨tyD_lst hp2, ?_⟩
      refine clause_ok (Γ := []) (ops := [(o, α, β)]) hdO.1 hdO.2 (show TreeSpec ps pc [(o, α, β)] 0 3 25 from tree_ok hO1 0 (by omega) (by omega) (by omega)) st2 L (by omega) (by omega) fun x kk u S5' hu m2 => ?_
      have hp5 : S5' p = some (.lst c.d) := by rw [m2.2 p hps hpc, hp2]
      have hcl : c.d.length ≤ 4 := by
        rw [Cls.d_len, ← ops_len]
        have := hc.sub.length_le
        simp at this; omega
      simp [app_obj hp5, lim]
      refine ⟨by omega, hN _ _ ⟨_, c.app (.cons o x kk u .nil), rfl, by rw [put_same, Cls.d_app]; rfl, put_st m2.1, fun q' a b d => by rw [put_ne d, m2.2 q' a b, keep2 q' a b d], ?_⟩⟩
      refine ⟨hc.ty.app (.cons (hO.look hom) (hu.ty.opsUp up) .nil), ?_, Cls.ok_app hc.ok ⟨hO.short hom, hu.ok.1, hu.ok.2.1, hu.ok.2.2, trivial⟩, ?_, ?_, Cls.gd0_app hc.gd ⟨hu.cost, hu.gd, trivial⟩⟩
      · rw [Cls.ops_app, List.map_append]
        exact hc.sub.append (List.Sublist.refl _)
      · have e31 : dpB 0 (2 + 1) = dpB 0 3 := rfl
        have := hc.dep; have := hu.dep; rw [Cls.dep_app]; simp [Cls.dep]; omega
      · have h1 := hc.sz
        have h2 := hu.sz
        rw [Cls.sz_app, List.length_append, Nat.add_mul]; simp [Cls.sz]; omega
    case fn =>
      rintro σv S2' ⟨a5, c, rfl, hp2, st2, keep2, hc⟩
      have hcl : c.len ≤ 4 := by
        rw [← ops_len]
        have := hc.sub.length_le
        have := hO.ln
        simp at *; omega
      have hsz : c.sz ≤ 4 * (SZ 0 (τ.nd + 4) + 6) := Nat.le_trans hc.sz (Nat.mul_le_mul_right _ hO.ln)
      have e3 : SZ 0 (τ.nd + 4) = τ.nd + 4 := rfl
      have e4 : dpB 0 3 = 5 := by decide
      have hcd := hc.dep
      simp [hp2]
      refine hQ ops (.han t "r" (.name "r") c) τ _ ⟨hO, .han ht.ty (.name (by simp)) hc.ty (hc.sub.nodup hO.nd), ⟨.inl rfl, ht.ok, .inl rfl, hcl, hc.ok⟩, ?_, ?_, ⟨⟨ht.gd, trivial, hc.gd, hcl⟩, ?_⟩, ?_, hτ⟩ ((n05.trans n6).trans ⟨?_, fun q x y => ?_⟩)
      · have := ht.dep; simp [Tm.dep]; omega
      · simp [Tm.sz]; omega
      · have := ht.dep; simp [Tm.dep]; omega
      · simp [Tm.cost]; omega
      · obtain ⟨a, i, cs', b', c', d', e'⟩ := st2
        exact ⟨a, i, cs', b', c', by rw [rid_ne hps.symm]; exact d', by rw [rid_ne hpc.symm]; exact e'⟩
      · by_cases c : q = p
        · subst c; rw [rid_same, hp]
        · rw [rid_ne c, keep2 q x y c]
  · simp [e]
    refine hQ ops t τ _ ⟨hO, ht.ty, ht.ok, by have := ht.dep; omega, by omega, ⟨ht.gd, by have := ht.dep; omega⟩, by omega, hτ⟩ (n05.trans n6)
end Pg
namespace Pg
open PySem PySem.Spec PyProof.Rows L2 DL TM
/-! ### the law's machine -/
/-- its things: the world (steps left, prints, clauses that answered), the frames -/
structure LMat (S : Store) (pw pp pa pf : Addr) (s : LS) : Prop where
  w : S pw = some (.lst [.int s.left, .obj pp, .obj pa])
  p : S pp = some (.lst (s.pr.map D.int))
  a : S pa = some (.lst (s.an.map clD))
  f : S pf = some (.lst (frE s.fs))
structure Ds (pw pp pa pf : Addr) : Prop where
  wp : pw ≠ pp
  wa : pw ≠ pa
  wf : pw ≠ pf
  pq : pp ≠ pa
  pg : pp ≠ pf
  af : pa ≠ pf
def Kp (pw pp pa pf : Addr) (S S' : Store) : Prop := ∀ p, p ≠ pw → p ≠ pp → p ≠ pa → p ≠ pf → S' p = S p
theorem find_ok {K : Nat} {S : Store} {Q : QE} {E : XQ} {x : String} {e : TM.Env} {v : Val} (hK : 1 ≤ K) (h : e.find x = some v) (hQ : Q v.e S) : go K .law_find [e.e, .str x] S Q E := by
  obtain ⟨k, rfl⟩ : ∃ k, K = k + 1 := ⟨K - 1, by omega⟩
  rw [go_law_find]
  unfold b_law_find
  rw [r_seq]
  refine while_ind (fun m σ S' => S' = S ∧ ∃ e' : TM.Env, sizeOf e' = m ∧ e'.find x = some v ∧ σ = [some e'.e, some (.str x)]) ⟨_, rfl, e, rfl, h, rfl⟩ ?_
  rintro m σ S' ⟨rfl, e', hm, hf, rfl⟩
  cases e' with
  | nil => cases hf
  | cons y u e'' =>
    rw [Env.find] at hf
    simp [Env.e]
    by_cases c : y = x
    · subst c
      rw [if_pos rfl] at hf
      cases hf
      simpa using hQ
    · rw [if_neg c] at hf
      simp [c]
      refine ⟨fun σ' S'' => S'' = S' ∧ σ' = [some e''.e, some (.str x)], ?_, rfl, rfl⟩
      rintro σ' S'' ⟨rfl, rfl⟩
      exact ⟨sizeOf e'', by subst hm; simp; omega, rfl, e'', rfl, hf, rfl⟩
theorem operate_ok {K : Nat} {S : Store} {Q : QE} {E : XQ} {s : String} {τ : TM.Ty} {i j : Int} {w : Val} (hK : 1 ≤ K) (hi : i.natAbs < 2 ^ 32) (hj : j.natAbs < 2 ^ 32) (hs : Sg s τ) (h : oper s i j = some w) (hQ : Q w.e S) : go K .law_operate [.str s, .int i, .int j] S Q E := by
  obtain ⟨k, rfl⟩ : ∃ k, K = k + 1 := ⟨K - 1, by omega⟩
  rw [go_law_operate]
  unfold b_law_operate
  have cm : CMul i j := .inl ⟨by omega, by omega⟩
  cases hs with
  | add =>
    simp [oper] at h; subst h; simp [startD, dDicD, dPairs]
    exact ⟨cm, hQ⟩
  | sub =>
    simp [oper] at h; subst h; simp [startD, dDicD, dPairs]
    refine ⟨cm, ?_⟩
    rw [show List.lookup "-" [("+", D.int (i + j)), ("-", D.int (i - j)), ("*", D.int (i * j))] = some (D.int (i - j)) by simp [List.lookup]]
    simp
    exact hQ
  | mul =>
    simp [oper] at h; subst h; simp [startD, dDicD, dPairs]
    refine ⟨cm, ?_⟩
    rw [show List.lookup "*" [("+", D.int (i + j)), ("-", D.int (i - j)), ("*", D.int (i * j))] = some (D.int (i * j)) by simp [List.lookup]]
    simp
    exact hQ
  | lt => simp [oper] at h; subst h; simp [startD]; exact hQ
  | eq => simp [oper] at h; subst h; simp [startD]; exact hQ
theorem Kp.refl {pw pp pa pf : Addr} {S : Store} : Kp pw pp pa pf S S := fun _ _ _ _ _ => rfl
theorem Kp.trans {pw pp pa pf : Addr} {S S' S'' : Store} (a : Kp pw pp pa pf S S') (b : Kp pw pp pa pf S' S'') : Kp pw pp pa pf S S'' := fun p h1 h2 h3 h4 => (b p h1 h2 h3 h4).trans (a p h1 h2 h3 h4)
theorem into_law {K : Nat} {S : Store} {pw pp pa pf : Addr} {s s' : LS} {t : TM.Tm} {e : TM.Env} {tk : List Nat} {Q : QE} {E : XQ} (hD : Ds pw pp pa pf) (hK : 3 ≤ K) (hm : LMat S pw pp pa pf s) (hl : s.fs.length < 100000) (h : into s t e tk = some s')
    (hQ : ∀ S', LMat S' pw pp pa pf s' → Kp pw pp pa pf S S' → Q (.tup s'.cur.e) S') : go K .law_into [t.d, e.e, .obj pf] S Q E := by
  obtain ⟨k, rfl⟩ : ∃ k, K = k + 1 := ⟨K - 1, by omega⟩
  rw [go_law_into]
  unfold b_law_into
  have push : ∀ {p : TM.Tm}, first t = some p → into s t e tk = some { s with cur := .ev p e ((tk.drop 1).take p.cost), fs := .a t e (tk.drop (1 + p.cost)) :: s.fs } →
      (frE s.fs).length < lim ∧ Q (.tup [p.d, e.e, .non]) (DL.put S pf (.lst (frE s.fs ++ [.tup [t.d, e.e, .int 0, .non]]))) := fun {p} hp hi => by
    rw [hi] at h
    cases h
    refine ⟨by rw [frE_len]; have : lim = 16777216 := rfl; omega, hQ _ ⟨?_, ?_, ?_, ?_⟩ fun q _ _ _ hq => put_ne hq⟩
    · rw [put_ne hD.wf]; exact hm.w
    · rw [put_ne hD.pg]; exact hm.p
    · rw [put_ne hD.af]; exact hm.a
    · rw [put_same]; rfl
  cases t with
  | num i => cases h; simp [startD, Tm.d]; exact hQ S ⟨hm.w, hm.p, hm.a, hm.f⟩ .refl
  | flag b => cases h; simp [startD, Tm.d]; exact hQ S ⟨hm.w, hm.p, hm.a, hm.f⟩ .refl
  | unit => cases h; simp [startD, Tm.d]; exact hQ S ⟨hm.w, hm.p, hm.a, hm.f⟩ .refl
  | name x =>
    simp only [into] at h
    cases ef : e.find x with
    | none => rw [ef] at h; cases h
    | some v =>
      rw [ef] at h; cases h
      simp [startD, Tm.d]
      exact find_ok (by omega) ef (hQ S ⟨hm.w, hm.p, hm.a, hm.f⟩ .refl)
  | fn x b => cases h; simp [startD, Tm.d]; exact hQ S ⟨hm.w, hm.p, hm.a, hm.f⟩ .refl
  | rc f x b => cases h; simp [startD, Tm.d]; exact hQ S ⟨hm.w, hm.p, hm.a, hm.f⟩ .refl
  | lt x a b => have := push (p := a) rfl rfl; simp [startD, Tm.d, app_obj hm.f, tyD_lst hm.f, in_l3]; exact this
  | op o a b => have := push (p := a) rfl rfl; simp [startD, Tm.d, app_obj hm.f, tyD_lst hm.f, in_l3]; exact this
  | ask o a => have := push (p := a) rfl rfl; simp [startD, Tm.d, app_obj hm.f, tyD_lst hm.f, in_l3]; exact this
  | fst a => have := push (p := a) rfl rfl; simp [startD, Tm.d, app_obj hm.f, tyD_lst hm.f, in_l3]; exact this
  | snd a => have := push (p := a) rfl rfl; simp [startD, Tm.d, app_obj hm.f, tyD_lst hm.f, in_l3]; exact this
  | nt a => have := push (p := a) rfl rfl; simp [startD, Tm.d, app_obj hm.f, tyD_lst hm.f, in_l3]; exact this
  | ite a b c => have := push (p := a) rfl rfl; simp [startD, Tm.d, app_obj hm.f, tyD_lst hm.f, in_l3]; exact this
  | call a b => have := push (p := a) rfl rfl; simp [startD, Tm.d, app_obj hm.f, tyD_lst hm.f, in_l3]; exact this
  | pair a b => have := push (p := a) rfl rfl; simp [startD, Tm.d, app_obj hm.f, tyD_lst hm.f, in_l3]; exact this
  | prt a b => have := push (p := a) rfl rfl; simp [startD, Tm.d, app_obj hm.f, tyD_lst hm.f, in_l3]; exact this
  | han a r b cs => have := push (p := a) rfl rfl; simp [startD, Tm.d, app_obj hm.f, tyD_lst hm.f, in_l3]; exact this
end Pg
namespace Pg
open PySem PySem.Spec PyProof.Rows L2 DL TM
theorem call_law {K : Nat} {S : Store} {pw pp pa pf : Addr} {s s' : LS} {a b : TM.Tm} {u v : Val} {Q : QE} {E : XQ} (hD : Ds pw pp pa pf) (hK : 3 ≤ K) (hm : LMat S pw pp pa pf s) (hl' : (∀ r, s'.cur ≠ .dn r) → s'.fs.length < 100000) (h : callV s u v = some s')
    (hQ : ∀ S', LMat S' pw pp pa pf s' → Kp pw pp pa pf S S' → Q (.tup s'.cur.e) S') : go K .law_second [.obj pw, .obj pf, (TM.Tm.call a b).d, u.e, v.e] S Q E := by
  obtain ⟨k, rfl⟩ : ∃ k, K = k + 1 := ⟨K - 1, by omega⟩
  rw [go_law_second]
  unfold b_law_second
  unfold callV at h
  simp [startD, Tm.d, asL_obj hm.w, st_lst hm.w, ix_zero]
  by_cases hl : s.left = 0
  · rw [if_pos hl] at h
    cases h
    simp [hl]
    exact hQ S ⟨hm.w, hm.p, hm.a, hm.f⟩ .refl
  rw [if_neg hl] at h
  simp [hl]
  have mw : ∀ {c n}, LMat (DL.put S pw (.lst [.int ((s.left : Int) - 1), .obj pp, .obj pa])) pw pp pa pf { s with cur := c, left := s.left - 1, nx := n } := fun {c n} =>
    ⟨by rw [put_same, show ((s.left : Int) - 1) = ((s.left - 1 : Nat) : Int) by omega], by rw [put_ne hD.wp.symm]; exact hm.p, by rw [put_ne hD.wa.symm]; exact hm.a, by rw [put_ne hD.wf.symm]; exact hm.f⟩
  have kw : Kp pw pp pa pf S (DL.put S pw (.lst [.int ((s.left : Int) - 1), .obj pp, .obj pa])) := fun q hq _ _ _ => put_ne hq
  cases u with
  | int i => cases h
  | bool i => cases h
  | unit => cases h
  | pair _ _ => cases h
  | fn f x bd e =>
    cases h
    simp [Val.e]
    by_cases hf : f = ""
    · subst hf
      simp
      exact hQ _ mw kw
    · have := hQ _ mw kw
      simp [hf, Cur.e] at this ⊢
      exact this
  | kept g =>
    cases h
    simp [Val.e]
    have hln : (frE s.fs).length + (frE g).length < 100000 := by
      rw [frE_len, frE_len]
      have : (g ++ s.fs).length < 100000 := hl' fun _ z => by cases z
      rw [List.length_append] at this
      omega
    refine for_ind (I := fun L σ S' => ∃ dn o, frE g = dn ++ L ∧ S' pf = some (.lst (frE s.fs ++ dn)) ∧ (∀ q, q ≠ pf → S' q = DL.put S pw (.lst [.int ((s.left : Int) - 1), .obj pp, .obj pa]) q) ∧ σ = [some (.obj pw), some (.obj pf), some (.tup [.str "call", a.d, b.d]), some (.tup [.str "kept", .tup (frE g)]), some v.e, some (.str "call"), o, none])
      (fun _ _ _ _ => trivial) ?_ ?_ ⟨[], none, rfl, by rw [put_ne hD.wf.symm, hm.f, List.append_nil], fun q _ => rfl, rfl⟩
    · rintro x r σ S' N ⟨dn, o, e1, e2, e3, rfl⟩ hN
      simp [app_obj e2, tyD_lst e2]
      have hlen : (frE g).length = dn.length + (r.length + 1) := by rw [e1]; simp
      refine ⟨by have : lim = 16777216 := rfl; omega, hN _ _ ⟨dn ++ [x], some x, by rw [e1]; simp, by rw [put_same], fun q hq => by rw [put_ne hq]; exact e3 q hq, rfl⟩⟩
    · rintro σ S' ⟨dn, o, e1, e2, e3, rfl⟩
      simp
      rw [List.append_nil] at e1
      have mw := mw (c := .rt v) (n := s.nx)
      refine hQ S' ⟨?_, ?_, ?_, ?_⟩ fun q h1 h2 h3 h4 => (e3 q h4).trans (kw q h1 h2 h3 h4)
      · rw [e3 _ hD.wf]; exact mw.w
      · rw [e3 _ hD.pg]; exact mw.p
      · rw [e3 _ hD.af]; exact mw.a
      · rw [e2, frE_app, e1]
def hdT : TM.Tm → String
  | .num _ => "num" | .flag _ => "flag" | .unit => "unit" | .name _ => "name"
  | .fn _ _ => "fun" | .rc _ _ _ => "rec" | .lt _ _ _ => "let" | .op _ _ _ => "op" | .ask _ _ => "ask"
  | .fst _ => "fst" | .snd _ => "snd" | .nt _ => "not" | .ite _ _ _ => "if" | .call _ _ => "call" | .pair _ _ => "pair" | .prt _ _ => "print"
  | .han _ _ _ _ => "handle"
theorem ix0 {t : TM.Tm} {S : Store} {Q : QE} : dIx t.d (.int 0) S Q = Q (.str (hdT t)) S := by cases t <;> simp [Tm.d, hdT]
def FrOk : TM.Fr → Prop
  | .a _ _ _ => True
  | .b t _ _ _ => hdT t ≠ "handle"
theorem revD_succ (n : Nat) : revD 0 (n + 1) = .int n :: revD 0 n := by
  unfold revD
  rw [List.range_succ_eq_map, List.map_cons, List.map_map]
  congr 1
  · simp
    try omega
  · apply List.map_congr_left
    intro i _
    simp
    try omega
def nextS (f : TM.Fr) (x : Option (List TM.Fr × TM.Env × (String × String × TM.Tm) × List TM.Fr)) : Option (List TM.Fr × TM.Env × (String × String × TM.Tm) × List TM.Fr) := match x with
  | some (i, e', c, out) => some (f :: i, e', c, out)
  | none => none
theorem split_a {o : String} {t : TM.Tm} {e : TM.Env} {k : List Nat} {fs : List TM.Fr} (h : hdT t ≠ "handle") : split o (.a t e k :: fs) = nextS (.a t e k) (split o fs) := by
  cases t <;> first | rfl | exact absurd rfl h
theorem split_b {o : String} {t : TM.Tm} {e : TM.Env} {v : Val} {k : List Nat} {fs : List TM.Fr} : split o (.b t e v k :: fs) = nextS (.b t e v k) (split o fs) := rfl
theorem split_h0 {o : String} {e0 : TM.Tm} {r : String} {b : TM.Tm} {cs : Cls} {e : TM.Env} {k : List Nat} {fs : List TM.Fr} (h : cs.find o = none) : split o (.a (.han e0 r b cs) e k :: fs) = nextS (.a (.han e0 r b cs) e k) (split o fs) := by
  rw [split, h]; rfl
theorem split_h1 {o : String} {e0 : TM.Tm} {r : String} {b : TM.Tm} {cs : Cls} {e : TM.Env} {k : List Nat} {fs : List TM.Fr} {c : String × String × TM.Tm} (h : cs.find o = some c) : split o (.a (.han e0 r b cs) e k :: fs) = some ([.a (.han e0 r b cs) e k], e, c, fs) := by
  rw [split, h]
theorem asked_law {K : Nat} {S : Store} {pw pp pa pf : Addr} {s s' : LS} {o : String} {v : Val} {Q : QE} {E : XQ} (hD : Ds pw pp pa pf) (hK : 3 ≤ K) (hm : LMat S pw pp pa pf s) (hl0 : s.fs.length < 100000) (ha0 : s.an.length < 100000) (hF : ∀ f ∈ s.fs, FrOk f) (h : askV s o v = some s')
    (hQ : ∀ S', LMat S' pw pp pa pf s' → Kp pw pp pa pf S S' → Q (.tup s'.cur.e) S') : go K .law_asked [.obj pw, .obj pf, .str o, v.e] S Q E := by
  obtain ⟨k, rfl⟩ : ∃ k, K = k + 1 := ⟨K - 1, by omega⟩
  rw [go_law_asked]
  unfold b_law_asked
  unfold askV at h
  simp [startD, asL_obj hm.w, st_lst hm.w, ix_zero]
  by_cases hl : s.left = 0
  · rw [if_pos hl] at h
    cases h
    simp [hl]
    exact hQ S ⟨hm.w, hm.p, hm.a, hm.f⟩ .refl
  rw [if_neg hl] at h
  simp [hl]
  have kw : Kp pw pp pa pf S (DL.put S pw (.lst [.int ((s.left : Int) - 1), .obj pp, .obj pa])) := fun q hq _ _ _ => put_ne hq
  have w1 : DL.put S pw (.lst [.int ((s.left : Int) - 1), .obj pp, .obj pa]) pw = some (.lst [.int (s.left - 1 : Nat), .obj pp, .obj pa]) := by rw [put_same, show ((s.left : Int) - 1) = ((s.left - 1 : Nat) : Int) by omega]
  have f1 : DL.put S pw (.lst [.int ((s.left : Int) - 1), .obj pp, .obj pa]) pf = some (.lst (frE s.fs)) := by rw [put_ne hD.wf.symm]; exact hm.f
  have p1 : DL.put S pw (.lst [.int ((s.left : Int) - 1), .obj pp, .obj pa]) pp = some (.lst (s.pr.map D.int)) := by rw [put_ne hD.wp.symm]; exact hm.p
  have a1 : DL.put S pw (.lst [.int ((s.left : Int) - 1), .obj pp, .obj pa]) pa = some (.lst (s.an.map clD)) := by rw [put_ne hD.wa.symm]; exact hm.a
  generalize DL.put S pw (.lst [.int ((s.left : Int) - 1), .obj pp, .obj pa]) = S1 at kw w1 f1 p1 a1 ⊢
  simp [iRvR, rg1, lenD_obj f1, frE_len]
  refine ⟨by omega, ?_⟩
  refine for_ind (I := fun L σ S' => S' = S1 ∧ ∃ sk rest v4 v5 v6 v7 v8 v9, s.fs = sk ++ rest ∧ L = revD 0 rest.length ∧ (split o s.fs = match split o rest with
      | some (i, e', c, out) => some (sk ++ i, e', c, out)
      | none => none) ∧ σ = [some (.obj pw), some (.obj pf), some (.str o), some v.e, v4, v5, v6, v7, v8, v9, none])
    (fun _ _ _ _ => trivial) ?_ ?_ ⟨rfl, [], s.fs, none, none, none, none, none, none, rfl, rfl, by cases split o s.fs <;> rfl, rfl⟩
  · rintro x r σ S' N ⟨rfl, sk, rest, v4, v5, v6, v7, v8, v9, e1, e2, e3, rfl⟩ hN
    cases rest with
    | nil => cases e2
    | cons f rest =>
      rw [List.length_cons, revD_succ] at e2
      cases e2
      have fe : frE s.fs = frE rest ++ f.e :: frE sk := by rw [e1, frE_app, frE]; simp
      have at1 : atI (frE s.fs) (rest.length : Int) = some f.e := at_nat (by rw [fe, List.getElem?_append_right (by rw [frE_len]; omega), frE_len]; simp)
      have skip : split o (f :: rest) = nextS f (split o rest) → ∀ {v4 v5 v6 v7 v8 v9}, N [some (.obj pw), some (.obj pf), some (.str o), some v.e, v4, v5, v6, v7, v8, v9, none] S' := fun hs {v4 v5 v6 v7 v8 v9} =>
        hN _ _ ⟨rfl, sk ++ [f], rest, v4, v5, v6, v7, v8, v9, by rw [e1]; simp, rfl, by
          rw [e3, hs]
          cases split o rest with
          | none => rfl
          | some p => obtain ⟨i, e', c, out⟩ := p; simp [nextS], rfl⟩
      simp [asL_obj f1, at1]
      have hFf : FrOk f := hF f (by rw [e1]; simp)
      cases f with
      | b t e u kk =>
        simp [Fr.e, ix0]
        simp [show ¬ hdT t = "handle" from hFf]
        exact skip split_b
      | a t e kk =>
        simp [Fr.e, ix0]
        by_cases ht : hdT t = "handle"
        · cases t <;> first | (exfalso; revert ht; simp [hdT]; done) | skip
          rename_i e0 r b cs
          simp [Tm.d, hdT]
          refine for_ind (I := fun L σ S'' => S'' = S' ∧ ∃ cs' v9, L = cs'.d ∧ cs.find o = cs'.find o ∧ σ = [some (.obj pw), some (.obj pf), some (.str o), some v.e, some (.int rest.length), some (.tup [.str "handle", e0.d, .tup [.str r, b.d], .tup cs.d]), some e.e, some (.int 0), some .non, v9, none])
            (fun _ _ _ _ => trivial) ?_ ?_ ⟨rfl, cs, v9, rfl, rfl, rfl⟩
          · rintro x R σ S'' N' ⟨rfl, cs', v9', e4, e5, rfl⟩ hN'
            cases cs' with
            | nil => cases e4
            | cons o' x' k' b' r' =>
              rw [Cls.d] at e4
              cases e4
              simp
              by_cases eo : o' = o
              · subst eo
                simp
                have ec : cs.find o' = some (x', k', b') := by rw [e5, Cls.find, if_pos rfl]
                rw [e3, split_h1 ec] at h
                simp only [] at h
                cases h
                have hlen : (frE s.fs).length = rest.length + (1 + sk.length) := by rw [fe, List.length_append, List.length_cons, frE_len, frE_len]; omega
                rw [slO_from f1 (by omega)]
                rw [show (frE s.fs).drop rest.length = frE (sk ++ [.a (.han e0 r b cs) e kk]) by rw [fe, frE_app, show rest.length = (frE rest).length from (frE_len rest).symm, List.drop_left]; rfl]
                have pb : DL.put S'' pa (.lst (s.an.map clD ++ [.tup [.str o', .str x', .str k', b'.d]])) pf = some (.lst (frE s.fs)) := by rw [put_ne hD.af.symm]; exact f1
                simp [asQ, asL_obj w1, app_obj a1, tyD_lst a1]
                refine ⟨by have : lim = 16777216 := rfl; omega, ?_⟩
                refine while_ind (fun m σ T => ∃ ex : List D, ex.length = m ∧ T pf = some (.lst (frE rest ++ ex)) ∧ (∀ q, q ≠ pf → T q = DL.put S'' pa (.lst (s.an.map clD ++ [.tup [.str o', .str x', .str k', b'.d]])) q) ∧ σ = [some (.obj pw), some (.obj pf), some (.str o'), some v.e, some (.int rest.length), some (.tup [.str "handle", e0.d, .tup [.str r, b.d], .tup cs.d]), some e.e, some (.int 0), some .non, some (.tup [.str o', .str x', .str k', b'.d]), some (.tup [.str "kept", .tup (frE (sk ++ [.a (.han e0 r b cs) e kk]))])])
                  ⟨_, Fr.e (.a (.han e0 r b cs) e kk) :: frE sk, rfl, by rw [pb, fe], fun _ _ => rfl, rfl⟩ ?_
                rintro m σ T ⟨ex, e6, e7, e8, rfl⟩
                simp [lenD_obj e7, frE_len]
                rcases List.eq_nil_or_concat ex with rfl | ⟨ex', y, rfl⟩
                · simp
                  have hm' : LMat T pw pp pa pf ⟨.ev b' (.cons k' (.kept (sk ++ [.a (.han e0 r b cs) e kk])) (.cons x' v e)) (fresh s.nx b'.cost), rest, s.left - 1, s.pr, s.an ++ [(o', x', k', b')], s.nx + b'.cost⟩ := ⟨?_, ?_, ?_, ?_⟩
                  · exact hQ T hm' fun q h1 h2 h3 h4 => by rw [e8 q h4, put_ne h3]; exact kw q h1 h2 h3 h4
                  · rw [e8 _ hD.wf, put_ne hD.wa]; exact w1
                  · rw [e8 _ hD.pg, put_ne hD.pq]; exact p1
                  · rw [e8 _ hD.af, put_same, List.map_append]; rfl
                  · rw [e7, List.append_nil]
                · have e7' : T pf = some (.lst ((frE rest ++ ex') ++ [y])) := by rw [e7]; simp
                  simp [tyD_lst e7, pop_obj e7']
                  refine ⟨fun σ' T' => ∃ ex : List D, ex.length = ex'.length ∧ T' pf = some (.lst (frE rest ++ ex)) ∧ (∀ q, q ≠ pf → T' q = DL.put S'' pa (.lst (s.an.map clD ++ [.tup [.str o', .str x', .str k', b'.d]])) q) ∧ σ' = [some (.obj pw), some (.obj pf), some (.str o'), some v.e, some (.int rest.length), some (.tup [.str "handle", e0.d, .tup [.str r, b.d], .tup cs.d]), some e.e, some (.int 0), some .non, some (.tup [.str o', .str x', .str k', b'.d]), some (.tup [.str "kept", .tup (frE (sk ++ [.a (.han e0 r b cs) e kk]))])], ?_, ?_⟩
                  · rintro σ' T' ⟨ex, g1, g2, g3, g4⟩
                    exact ⟨ex'.length, by subst e6; simp, ex, g1, g2, g3, g4⟩
                  · exact ⟨ex', rfl, put_same, fun q hq => by rw [put_ne hq]; exact e8 q hq, rfl⟩
              · simp [eo]
                exact hN' _ _ ⟨rfl, r', _, rfl, by rw [e5, Cls.find, if_neg eo], rfl⟩
          · rintro σ S'' ⟨rfl, cs', v9', e4, e5, rfl⟩
            cases cs' with
            | cons o' x' k' b' r' => rw [Cls.d] at e4; cases e4
            | nil => exact skip (split_h0 (by rw [e5]; rfl))
        · simp [ht]
          exact skip (split_a ht)
  · rintro σ S' ⟨rfl, sk, rest, v4, v5, v6, v7, v8, v9, e1, e2, e3, rfl⟩
    cases rest with
    | cons f rest => rw [List.length_cons, revD_succ] at e2; cases e2
    | nil =>
      rw [e3] at h
      cases h
      simp
      exact hQ _ ⟨w1, p1, a1, f1⟩ kw
end Pg
namespace Pg
open PySem PySem.Spec PyProof.Rows L2 DL TM
theorem back_law {K : Nat} {S : Store} {pw pp pa pf : Addr} {s s' : LS} {f : TM.Fr} {v : Val} {Q : QE} {E : XQ} (hD : Ds pw pp pa pf) (hK : 6 ≤ K) (hm : LMat S pw pp pa pf { s with fs := f :: s.fs }) (hl : s.fs.length < 100000) (hl' : (∀ r, s'.cur ≠ .dn r) → s'.fs.length < 100000) (hp : s.pr.length < 100000) (ha : s.an.length < 100000) (hF : ∀ f ∈ s.fs, FrOk f)
    (hop : ∀ o a b e i j k, f = .b (.op o a b) e (.int i) k → v = .int j → (∃ τ, Sg o τ) ∧ i.natAbs < 2 ^ 32 ∧ j.natAbs < 2 ^ 32) (h : back s f v = some s')
    (hQ : ∀ S', LMat S' pw pp pa pf s' → Kp pw pp pa pf S S' → Q (.tup s'.cur.e) S') : go K .law_back [.obj pw, .obj pf, v.e] S Q E := by
  obtain ⟨k, rfl⟩ : ∃ k, K = k + 1 := ⟨K - 1, by omega⟩
  rw [go_law_back]
  unfold b_law_back
  have ef : S pf = some (.lst (frE s.fs ++ [f.e])) := hm.f
  have m1 : LMat (DL.put S pf (.lst (frE s.fs))) pw pp pa pf s := ⟨by rw [put_ne hD.wf]; exact hm.w, by rw [put_ne hD.pg]; exact hm.p, by rw [put_ne hD.af]; exact hm.a, put_same⟩
  have k1 : Kp pw pp pa pf S (DL.put S pf (.lst (frE s.fs))) := fun q _ _ _ hq => put_ne hq
  have two : ∀ {t q : TM.Tm} {e : TM.Env} {kk : List Nat}, back s f v = some { s with cur := .ev q e ((kk.drop 1).take q.cost), fs := .b t e v (kk.drop (1 + q.cost)) :: s.fs } →
      (frE s.fs).length < lim ∧ Q (.tup [q.d, e.e, .non]) (DL.put (DL.put S pf (.lst (frE s.fs))) pf (.lst (frE s.fs ++ [.tup [t.d, e.e, .int 1, v.e]]))) := fun {t q e kk} hb => by
    rw [hb] at h
    cases h
    refine ⟨by rw [frE_len]; have : lim = 16777216 := rfl; omega, hQ _ ⟨?_, ?_, ?_, ?_⟩ fun q _ _ _ hq => by rw [put_ne hq, put_ne hq]⟩
    · rw [put_ne hD.wf]; exact m1.w
    · rw [put_ne hD.pg]; exact m1.p
    · rw [put_ne hD.af]; exact m1.a
    · rw [put_same]; rfl
  have one : ∀ {c : Cur}, some { s with cur := c } = some s' → Q (.tup c.e) (DL.put S pf (.lst (frE s.fs))) := fun {c} hb => by
    cases hb
    exact hQ _ ⟨m1.w, m1.p, m1.a, m1.f⟩ k1
  cases f with
  | b t e u kk =>
    simp [startD, tyD_lst ef, pop_obj ef, Fr.e, ix0]
    cases t with
    | op o a b =>
      obtain ⟨j, rfl⟩ : ∃ j, k = j + 1 := ⟨k - 1, by omega⟩
      cases u with
      | int x =>
        cases v with
        | int y =>
          obtain ⟨⟨τ, hs⟩, hx, hy⟩ := hop o a b e x y kk rfl rfl
          simp only [back] at h
          cases ew : oper o x y with
          | none => rw [ew] at h; cases h
          | some w =>
            rw [ew] at h
            rw [go_law_second]
            unfold b_law_second
            simp [startD, Tm.d, hdT, Val.e]
            exact operate_ok (by omega) hx hy hs ew (one h)
        | _ => cases h
      | _ => cases h
    | pair a b =>
      obtain ⟨j, rfl⟩ : ∃ j, k = j + 1 := ⟨k - 1, by omega⟩
      rw [go_law_second]
      unfold b_law_second
      simp [startD, Tm.d, hdT]
      exact one h
    | call a b =>
      exact call_law hD (by omega) m1 hl' h fun S' h1 h2 => hQ S' h1 (k1.trans h2)
    | _ => cases h
  | a t e kk =>
    simp [startD, tyD_lst ef, pop_obj ef, Fr.e, ix0]
    cases t with
    | call a b => have := two (t := .call a b) (q := b) rfl; simp [hdT, in_l3, app_obj m1.f, tyD_lst m1.f, Tm.d]; exact this
    | pair a b => have := two (t := .pair a b) (q := b) rfl; simp [hdT, in_l3, app_obj m1.f, tyD_lst m1.f, Tm.d]; exact this
    | op o a b => have := two (t := .op o a b) (q := b) rfl; simp [hdT, in_l3, app_obj m1.f, tyD_lst m1.f, Tm.d]; exact this
    | lt x a b => simp [hdT, in_l3, Tm.d]; exact one h
    | han e0 r b cs => simp [hdT, in_l3, Tm.d]; exact one h
    | ite a b c =>
      simp [hdT, in_l3, Tm.d]
      cases v with
      | bool q => cases q <;> (simp [Val.e]; exact one h)
      | _ => cases h
    | prt a b =>
      simp [hdT, in_l3, Tm.d]
      cases v with
      | int i =>
        cases h
        simp [Val.e, asL_obj m1.w, tyD_lst m1.p, app_obj m1.p]
        refine ⟨by have : lim = 16777216 := rfl; omega, hQ _ ⟨?_, ?_, ?_, ?_⟩ fun q _ h2 _ h4 => by rw [put_ne h2, put_ne h4]⟩
        · rw [put_ne hD.wp]; exact m1.w
        · rw [put_same, List.map_append]; rfl
        · rw [put_ne hD.pq.symm]; exact m1.a
        · rw [put_ne hD.pg.symm]; exact m1.f
      | _ => cases h
    | ask o a =>
      simp [hdT, in_l3, Tm.d]
      exact asked_law hD (by omega) m1 (by omega) ha hF h fun S' h1 h2 => hQ S' h1 (k1.trans h2)
    | nt a =>
      simp [hdT, in_l3, Tm.d]
      cases v with
      | bool q => simp [Val.e]; exact one h
      | _ => cases h
    | fst a =>
      simp [hdT, in_l3, Tm.d]
      cases v with
      | pair x y => simp [Val.e]; exact one h
      | _ => cases h
    | snd a =>
      simp [hdT, in_l3, Tm.d]
      cases v with
      | pair x y => simp [Val.e]; exact one h
      | _ => cases h
    | _ => cases h
/-- the shape of a value, as data -/
def Val.sh : Val → D
  | .int i => .tup [.str "int", .int i]
  | .bool b => .tup [.str "bool", .bl b]
  | .unit => .tup [.str "unit"]
  | .pair a b => .tup [.str "pair", Val.sh a, Val.sh b]
  | .fn _ _ _ _ => .tup [.str "fun"]
  | .kept _ => .tup [.str "fun"]
def Val.pd : Val → Nat
  | .pair a b => max (Val.pd a) (Val.pd b) + 1
  | _ => 0
theorem shape_ok : ∀ (v : Val) {K : Nat} {S : Store} {Q : QE} {E : XQ}, Val.pd v + 1 ≤ K → Q (Val.sh v) S → go K .law_shape [v.e] S Q E := by
  intro v
  induction v using Val.sh.induct with
  | case4 a b iha ihb =>
    intro K S Q E hK hQ
    obtain ⟨k, rfl⟩ : ∃ k, K = k + 1 := ⟨K - 1, by omega⟩
    simp only [Val.pd] at hK
    rw [go_law_shape]
    unfold b_law_shape
    simp [startD, Val.e]
    refine iha (by omega) (ihb (by omega) hQ)
  | _ =>
    intro K S Q E hK hQ
    obtain ⟨k, rfl⟩ : ∃ k, K = k + 1 := ⟨K - 1, by omega⟩
    rw [go_law_shape]
    unfold b_law_shape
    simp [startD, Val.e, in_l3]
    exact hQ
end Pg
namespace Pg
open PySem PySem.Spec PyProof.Rows L2 DL TM
theorem frOk_of {ops : Ops} {B N : Nat} : ∀ {fs : List TM.Fr} {σ ρ : TM.Ty}, ST ops B N fs σ ρ → ∀ f ∈ fs, FrOk f
  | _, _, _, .nil, f, h => by cases h
  | _, _, _, .cons hF _ s, f, h => by
    rcases List.mem_cons.mp h with rfl | h
    · cases hF <;> first | trivial | (show _ ≠ _; simp [hdT])
    · exact frOk_of s f h
def Res.d : Res → D
  | .steps => .tup [.str "steps"]
  | .unhandled o => .tup [.str "unhandled", .str o]
  | .val v => .tup [.str "value", Val.sh v]
theorem pd_dp {ops : Ops} {B N : Nat} : ∀ {v : Val} {τ : TM.Ty}, VT ops B N v τ → Val.pd v ≤ τ.dp
  | _, _, .int _ => Nat.zero_le _
  | _, _, .bool => Nat.zero_le _
  | _, _, .unit => Nat.zero_le _
  | _, _, .pair a b _ => by
    have := pd_dp a
    have := pd_dp b
    simp only [Val.pd, Ty.dp]; omega
  | _, _, .fn _ _ _ _ => Nat.zero_le _
  | _, _, .rc _ _ _ _ _ => Nat.zero_le _
  | _, _, .kept _ _ _ _ => Nat.zero_le _
theorem eqD_ts {l : List D} {x : String} : eqD (.tup l) (.str x) = false := by simp [eqD]
theorem eqD_ns {x : String} : eqD .non (.str x) = false := by simp [eqD]
theorem outcome_ok {ops : Ops} {τ : TM.Ty} {t : TM.Tm} {L K n : Nat} {u : LS} {S : Store} {Q : QE} {E : XQ} (hP : ∀ o α β, ops.lookup o = some (α, β) → β.plain = true) (ht : Has ops [] t τ) (hg : t.gd 96) (hC : t.cost ≤ 164) (hL : L ≤ 60) (hτ : τ.dp ≤ 20) (hK : 30 ≤ K)
    (hr : LRun n (start t L) u) (hn : n ≤ 94400)
    (hQ : ∀ r S', u.res = some r → (∀ q, S q ≠ none → S' q = S q) → Q (.tup [.tup (u.pr.map D.int), Res.d r, .lst (u.an.map clD)]) S') : go K .law_outcome [t.d, .int L] S Q E := by
  obtain ⟨k, rfl⟩ : ∃ k, K = k + 1 := ⟨K - 1, by omega⟩
  rw [go_law_outcome]
  unfold b_law_outcome
  simp [startD]
  intro pp hpp pa hpa pw hpw pf hpf
  have npa : pa ≠ pp := fun z => by subst z; rw [put_same] at hpa; cases hpa
  have npw1 : pw ≠ pa := fun z => by subst z; rw [put_same] at hpw; cases hpw
  rw [put_ne npw1] at hpw
  have npw2 : pw ≠ pp := fun z => by subst z; rw [put_same] at hpw; cases hpw
  rw [put_ne npw2] at hpw
  have npf1 : pf ≠ pw := fun z => by subst z; rw [put_same] at hpf; cases hpf
  rw [put_ne npf1] at hpf
  have npf2 : pf ≠ pa := fun z => by subst z; rw [put_same] at hpf; cases hpf
  rw [put_ne npf2] at hpf
  have npf3 : pf ≠ pp := fun z => by subst z; rw [put_same] at hpf; cases hpf
  rw [put_ne npf3] at hpf
  rw [put_ne npa] at hpa
  have hD : Ds pw pp pa pf := ⟨npw2, npw1, npf1.symm, npa.symm, npf3.symm, npf2.symm⟩
  have fin : ∀ {S' : Store} {c1 c2 c3 : Option D} {i : Option D} {r : Res}, LMat S' pw pp pa pf u → u.res = some r → Kp pw pp pa pf (DL.put (DL.put (DL.put (DL.put S pp (.lst [])) pa (.lst [])) pw (.lst [.int L, .obj pp, .obj pa])) pf (.lst [])) S' →
      dRet (dTup (dCons (dCB bTuple (dCons (dOp dIx (dVar 2) (dC (.int 1))) dNil)) (dCons (dVar 7) (dCons (dFrz (dOp dIx (dVar 2) (dC (.int 2)))) dNil)))) { nx := fun x S1 => Q D.non S1, rt := Q }
        [some t.d, some (.int L), some (.obj pw), some (.obj pf), c1, c2, c3, some (Res.d r), i] S' := fun {S' c1 c2 c3 i r} hm hres hk => by
    simp [asL_obj hm.w, bTuple, asL_obj hm.p, asQ, hm.a]
    refine hQ r _ hres fun q hq => ?_
    have n1 : q ≠ pp := fun z => by subst z; exact hq hpp
    have n2 : q ≠ pa := fun z => by subst z; exact hq hpa
    have n3 : q ≠ pw := fun z => by subst z; exact hq hpw
    have n4 : q ≠ pf := fun z => by subst z; exact hq hpf
    rw [show rid S' pa q = S' q from if_neg n2, hk q n3 n1 n2 n4, put_ne n4, put_ne n3, put_ne n2, put_ne n1]
  have hL0 : LMat (DL.put (DL.put (DL.put (DL.put S pp (.lst [])) pa (.lst [])) pw (.lst [.int L, .obj pp, .obj pa])) pf (.lst [])) pw pp pa pf (start t L) := by
    refine ⟨?_, ?_, ?_, ?_⟩
    · rw [put_ne hD.wf, put_same]; rfl
    · rw [put_ne hD.pg, put_ne hD.wp.symm, put_ne hD.pq, put_same]; rfl
    · rw [put_ne hD.af, put_ne hD.wa.symm, put_same]; rfl
    · rw [put_same]; rfl
  generalize (DL.put (DL.put (DL.put (DL.put S pp (.lst [])) pa (.lst [])) pw (.lst [.int L, .obj pp, .obj pa])) pf (.lst [])) = S0 at fin hL0 ⊢
  have hlen : (rangeD 0 100000).length = 100000 := by unfold rangeD; rw [List.length_map, List.length_range]
  generalize rangeD 0 100000 = R at hlen ⊢
  refine for_ind (I := fun M σ S' => ∃ m s n' c1 c2 c3 i, m + M.length = 100000 ∧ m + n' ≤ 94400 ∧ LRun n' s u ∧ StOk ops 96 τ s ∧ Spent t.cost L m s ∧ s.pr.length ≤ m ∧ s.an.length ≤ m ∧ (∀ v, s.cur ≠ .dn (.val v)) ∧ LMat S' pw pp pa pf s ∧ Kp pw pp pa pf S0 S' ∧ s.cur.e = [c1, c2, c3] ∧ σ = [some t.d, some (.int L), some (.obj pw), some (.obj pf), some c1, some c2, some c3, some .non, i])
    (fun _ _ _ _ => trivial) ?_ ?_ ⟨0, start t L, n, t.d, .non, .non, none, by omega, by omega, hr, start_ok ht hg, Spent.start, Nat.le_refl 0, Nat.le_refl 0, fun _ z => (by cases z), hL0, .refl, rfl, rfl⟩
  · rintro x M σ S' N ⟨m, s, n', c1, c2, c3, i, h1, h2, h3, h4, h5, h6, h7, h8, h9, h10, h11, rfl⟩ hN
    have hpot := h5.pot hC hL
    cases h3 with
    | done hres =>
      have hcur : (u.cur = .dn .steps ∨ ∃ o, u.cur = .dn (.unhandled o)) ∨ ∃ v, u.cur = .rt v ∧ u.fs = [] := by
        unfold LS.res at hres
        cases ec : u.cur with
        | ev _ _ _ => rw [ec] at hres; exact absurd rfl hres
        | dn r =>
          cases r with
          | steps => exact .inl (.inl rfl)
          | unhandled o => exact .inl (.inr ⟨o, rfl⟩)
          | val v => exact absurd ec (h8 v)
        | rt v =>
          rw [ec] at hres
          cases ef : u.fs with
          | nil => exact .inr ⟨v, rfl, rfl⟩
          | cons f fs => rw [ef] at hres; exact absurd rfl hres
      rcases hcur with (ec | ⟨o, ec⟩) | ⟨v, ec, ef⟩
      · rw [ec] at h11
        cases h11
        simp [isNonD]
        have := fin (c1 := some (.str "steps")) (c2 := some .non) (c3 := some .non) (i := some x) (r := .steps) h9 (by unfold LS.res; rw [ec]) h10
        simpa [Res.d] using this
      · rw [ec] at h11
        cases h11
        simp [isNonD]
        have := fin (c1 := some (.str "unhandled")) (c2 := some (.str o)) (c3 := some .non) (i := some x) (r := .unhandled o) h9 (by unfold LS.res; rw [ec]) h10
        simpa [Res.d] using this
      · rw [ec] at h11
        cases h11
        have hv : Val.pd v ≤ 20 := by
          cases h4 with
          | ev => cases ec
          | dn => cases ec
          | rt hv hS _ _ _ =>
            cases ec
            cases ef
            cases hS
            exact Nat.le_trans (pd_dp hv) hτ
        have e9 : S' pf = some (.lst []) := by rw [h9.f, ef]; rfl
        simp [lenD_obj e9, eqD_ns]
        refine shape_ok v (by omega) ?_
        simp [isNonD]
        have := fin (c1 := some .non) (c2 := some .non) (c3 := some v.e) (i := some x) (r := .val v) h9 (by unfold LS.res; rw [ec, ef]) h10
        simpa [Res.d] using this
    | @step n'' _ s' _ hst hrun =>
      have hres := step_res hst
      obtain ⟨s1, g1, g2, g3⟩ := step_ok hP h4 hres
      rw [hst] at g1
      cases g1
      have g4 := step_adds hst
      have sp' := h5.go g3
      have hpot' := sp'.pot hC hL
      have next : ∀ S'' : Store, LMat S'' pw pp pa pf s' → Kp pw pp pa pf S' S'' → ∃ c1 c2 c3, s'.cur.e = [c1, c2, c3] ∧ N [some t.d, some (.int L), some (.obj pw), some (.obj pf), some c1, some c2, some c3, some .non, some x] S'' := fun S'' q1 q2 => by
        have e3 : ∃ c1 c2 c3, s'.cur.e = [c1, c2, c3] := by
          cases s'.cur with
          | ev _ _ _ => exact ⟨_, _, _, rfl⟩
          | rt _ => exact ⟨_, _, _, rfl⟩
          | dn r => cases r <;> exact ⟨_, _, _, rfl⟩
        obtain ⟨d1, d2, d3, e3⟩ := e3
        exact ⟨d1, d2, d3, e3, hN _ _ ⟨m + 1, s', n'', d1, d2, d3, some x, by rw [← h1, List.length_cons]; omega, by omega, hrun, g2, sp', by omega, by omega, g4.2.2, q1, h10.trans q2, e3, rfl⟩⟩
      cases ec : s.cur with
      | dn r => unfold LS.res at hres; rw [ec] at hres; cases hres
      | ev t1 e1 k1 =>
        rw [ec] at h11
        cases h11
        have hl1 : s.fs.length < 100000 := by
          have := h4.fslen fun r z => by rw [ec] at z; cases z
          omega
        have hg1 : t1.dep ≤ 40 := by
          cases h4 with
          | ev _ _ hg _ _ _ _ _ => cases ec; exact hg.2
          | rt => cases ec
          | dn => cases ec
        have ok1 := Tm.okD hg1
        obtain ⟨l1, el1⟩ := t1.tupD
        rw [el1] at ok1
        simp [el1, ok1, isNonD, eqD_ts]
        rw [← el1]
        refine into_law (K := k) hD (by omega) h9 hl1 (by rw [← hst]; unfold LS.step; rw [ec]) fun S'' q1 q2 => ?_
        obtain ⟨d1, d2, d3, e3, hn⟩ := next S'' q1 q2
        rw [e3]
        simpa using hn
      | rt v =>
        rw [ec] at h11
        cases h11
        cases ef : s.fs with
        | nil => unfold LS.res at hres; rw [ec, ef] at hres; cases hres
        | cons f fs =>
          have hl1 : s.fs.length < 100000 := by
            have := h4.fslen fun r z => by rw [ec] at z; cases z
            omega
          rw [ef, List.length_cons] at hl1
          have hty : (∀ f ∈ fs, FrOk f) ∧ (∀ o a b e i j k, f = .b (.op o a b) e (.int i) k → v = .int j → (∃ τ, Sg o τ) ∧ i.natAbs < 2 ^ 32 ∧ j.natAbs < 2 ^ 32) := by
            cases h4 with
            | ev => cases ec
            | dn => cases ec
            | rt hv hS _ _ _ =>
              cases ec
              cases ef
              cases hS with
              | cons hF _ hS =>
                refine ⟨frOk_of hS, ?_⟩
                rintro o a b e i j k rfl rfl
                cases hF with
                | op2 he hs hu hl =>
                  cases hu with
                  | int hi =>
                    cases hv with
                    | int hj => exact ⟨⟨_, hs⟩, hi, hj⟩
          have e9 : S' pf = some (.lst (frE fs ++ [f.e])) := by rw [h9.f, ef]; rfl
          simp [lenD_obj e9, isNonD, eqD_ns]
          refine back_law (K := k) (s := { s with fs := fs }) (f := f) hD (by omega) ⟨h9.w, h9.p, h9.a, e9⟩ (by show fs.length < _; omega) (fun hnd => ?_) (by show s.pr.length < _; omega) (by show s.an.length < _; omega) hty.1 hty.2 (by rw [← hst]; unfold LS.step; rw [ec]; dsimp only; rw [ef]) fun S'' q1 q2 => ?_
          · have := g2.fslen hnd
            omega
          · obtain ⟨d1, d2, d3, e3, hn⟩ := next S'' q1 q2
            rw [e3]
            simpa using hn
  · rintro σ S' ⟨m, s, n', c1, c2, c3, i, h1, h2, h3, h4, h5, h6, h7, h8, h9, h10, h11, rfl⟩
    simp at h1
    omega
end Pg
namespace Pg
open PySem PySem.Spec PyProof.Rows L2 DL TM
def nsD (l : List String) : D := .lst (l.map D.str)
theorem parts_ok {k : Nat} {S : Store} {ρ : Rho} {t : TM.Tm} (g : t.gd 96) {Q : QE} {E : XQ} (hQ : Q (.lst ((kids t).map (kidP ρ))) S) : go (k + 1) .parts [sub ρ t] S Q E := by
  rw [go_parts]
  unfold b_parts
  cases t with
  | name x =>
    cases e : ρ x with
    | none => simpa [startD, c_LEAVES, in_tup, inD_cons, inD_nil, sub, e, kids, kidP, cutAll] using hQ
    | some d => simpa [startD, c_LEAVES, in_tup, inD_cons, inD_nil, sub, e, kids, kidP, cutAll] using hQ
  | han e r b cs =>
    have hl := gd_len g
    simp [startD, c_LEAVES, in_tup, inD_cons, inD_nil, sub, subC_map]
    refine lc_mapM (clP ρ) (fun c => sub (cut (cut ρ c.2.1) c.2.2.1) c.2.2.2) trivial (by simp [lim, clsL_len]; omega) (fun _ _ _ q => q) (fun c _ Q' q => by simp [wipeD, clP]; exact q) ?_
    simp
    refine ⟨by simp [lim, clsL_len]; omega, ?_⟩
    simpa [kids, kidP, cutAll, Function.comp_def] using hQ
  | _ => simpa [startD, c_LEAVES, in_tup, inD_cons, inD_nil, sub, kids, kidP, cutAll] using hQ
theorem kids_len {t : TM.Tm} (g : t.gd 96) : (kids t).length ≤ 6 := by
  cases t with
  | han e r b cs =>
    have := gd_len g
    simp [kids, clsL_len]; omega
  | _ => simp [kids]
theorem bound_ok {k : Nat} {S : Store} {ρ : Rho} {t : TM.Tm} (g : t.gd 96) {Q : QE} {E : XQ} (hQ : Q (.lst ((kids t).map fun q => nsD q.1)) S) : go (k + 2) .bound_names [sub ρ t] S Q E := by
  rw [go_bound_names]
  unfold b_bound_names
  have hl := kids_len g
  have rest : ∀ σ : DEnv, (kids t).map (fun q => nsD q.1) = (kids t).map (fun _ => nsD []) → lcL (keepL (.lst ((kids t).map (kidP ρ))) ((kids t).map (kidP ρ))) (CT.g (.one 3)) dYes (dLst dNil) σ ((kids t).map (kidP ρ)) [] S fun acc S2 => Q (.lst acc) S2 := fun σ e => by
    refine lc_map (fun _ => nsD []) rfl (by simp [lim]; omega) (fun _ _ _ q => q) (fun _ _ Q' q => q) ?_
    rw [e] at hQ
    simpa [Function.comp_def] using hQ
  have hp := @parts_ok k S ρ t g
  cases t with
  | name x =>
    cases e : ρ x with
    | none =>
      simp only [sub, e] at hp rest ⊢
      simp [startD]
      refine hp ?_
      first | exact ⟨rfl, by simpa [kids] using hQ⟩ | exact rest _ (by simp [kids])
    | some d =>
      simp only [sub, e] at hp rest ⊢
      simp [startD]
      refine hp ?_
      first | exact ⟨rfl, by simpa [kids] using hQ⟩ | exact rest _ (by simp [kids])
  | han e r b cs =>
    have hl := gd_len g
    simp [startD, sub, subC_map]
    refine lc_mapM (clP ρ) (fun c => nsD [c.2.1, c.2.2.1]) trivial (by simp [lim, clsL_len]; omega) (fun _ _ _ q => q) (fun c _ Q' q => by simp [wipeD, clP]; exact q) ?_
    simp
    refine ⟨by simp [lim, clsL_len]; omega, ?_⟩
    simpa [kids, nsD, Function.comp_def] using hQ
  | fn x b => simpa [startD, sub, kids, nsD] using hQ
  | rc f x b => simpa [startD, sub, kids, nsD] using hQ
  | lt x a b => simpa [startD, sub, kids, nsD] using hQ
  | _ => (simp only [sub] at hp rest ⊢; simp [startD]; refine hp ?_; first | exact ⟨rfl, by simpa [kids, nsD] using hQ⟩ | exact rest _ (by simp [kids]))
theorem zipD_map2 {α : Type} (f g : α → D) : ∀ l : List α, zipD (l.map f) (l.map g) = l.map fun c => .tup [f c, g c]
  | [] => by simp [zipD]
  | c :: cs => by simp [zipD, zipD_map2 f g cs]
theorem with_ok {k : Nat} {S : Store} {ρ ρ' : Rho} {t : TM.Tm} (g : t.gd 96) (hn : ∀ x, t = .name x → ρ' x = ρ x) {Q : QE} {E : XQ} (hQ : Q (sub ρ' t) S) : go (k + 1) .with_parts [sub ρ t, .lst ((kids t).map (kidP ρ'))] S Q E := by
  rw [go_with_parts]
  unfold b_with_parts
  cases t with
  | name x =>
    have := hn x rfl
    simp only [sub, this] at hQ
    cases e : ρ x with
    | none => rw [e] at hQ; simpa [startD, c_LEAVES, in_tup, inD_cons, inD_nil, sub, e, kids, kidP, cutAll] using hQ
    | some d => rw [e] at hQ; simpa [startD, c_LEAVES, in_tup, inD_cons, inD_nil, sub, e, kids, kidP, cutAll] using hQ
  | han e r b cs =>
    have hl := gd_len g
    simp [startD, c_LEAVES, in_tup, inD_cons, inD_nil, sub, subC_map, kids, Function.comp_def]
    intro p hp
    rw [zipD_map2 (clP ρ)]
    refine for_indM (fun c => D.tup [clP ρ c, kidP ρ' ([c.2.1, c.2.2.1], c.2.2.2)]) (I := fun dn r' σ S' => ∃ a4 a5, σ = [some (.tup [.str "handle", sub ρ e, .tup [.str r, sub (cut ρ r) b], .tup ((clsL cs).map (clP ρ))]), some (.lst (kidP ρ' ([], e) :: kidP ρ' ([r], b) :: (clsL cs).map fun c => kidP ρ' ([c.2.1, c.2.2.1], c.2.2.2))), some (.str "handle"), some (.obj p), a4, a5] ∧
      S' = DL.put S p (.lst (dn.map (clP ρ')))) (clsL cs) (fun _ _ _ _ _ => rfl) ?_ ?_ ⟨none, none, rfl, rfl⟩
    · rintro dn ⟨o, y, k', x0⟩ r' σ S' N e' ⟨a4, a5, rfl, rfl⟩ hN
      simp [clP]
      have hlen : dn.length < 16777216 := by
        have := congrArg List.length e'
        simp [clsL_len] at this
        omega
      simp [app_obj (put_same), tyD_lst put_same, put_put, lim, hlen]
      refine hN _ _ ⟨_, _, rfl, by simp [clP, kidP, cutAll]⟩
    · rintro σ S' ⟨a4, a5, rfl, rfl⟩
      simp [rid_put hp, at2, at0, at1]
      simpa [sub, subC_map, kidP, cutAll] using hQ
  | _ => simpa [startD, c_LEAVES, in_tup, inD_cons, inD_nil, sub, kids, kidP, cutAll, lim, sl_toN] using hQ
theorem ixS {ρ : Rho} {t : TM.Tm} (h : ∀ x, t = .name x → ρ x ≠ none) : ∃ hd : String, hd ≠ "name" ∧ ∀ (S : Store) (Q : QE), dIx (sub ρ t) (.int 0) S Q = Q (.str hd) S := by
  cases t with
  | name x =>
    cases e : ρ x with
    | none => exact absurd e (h x rfl)
    | some d => exact ⟨"quoted", by decide, fun S Q => by simp [sub, e]⟩
  | num i => exact ⟨"num", by decide, fun S Q => by simp [sub]⟩
  | flag i => exact ⟨"flag", by decide, fun S Q => by simp [sub]⟩
  | unit => exact ⟨"unit", by decide, fun S Q => by simp [sub]⟩
  | fn _ _ => exact ⟨"fun", by decide, fun S Q => by simp [sub]⟩
  | rc _ _ _ => exact ⟨"rec", by decide, fun S Q => by simp [sub]⟩
  | lt _ _ _ => exact ⟨"let", by decide, fun S Q => by simp [sub]⟩
  | op _ _ _ => exact ⟨"op", by decide, fun S Q => by simp [sub]⟩
  | ask _ _ => exact ⟨"ask", by decide, fun S Q => by simp [sub]⟩
  | fst _ => exact ⟨"fst", by decide, fun S Q => by simp [sub]⟩
  | snd _ => exact ⟨"snd", by decide, fun S Q => by simp [sub]⟩
  | nt _ => exact ⟨"not", by decide, fun S Q => by simp [sub]⟩
  | ite _ _ _ => exact ⟨"if", by decide, fun S Q => by simp [sub]⟩
  | call _ _ => exact ⟨"call", by decide, fun S Q => by simp [sub]⟩
  | pair _ _ => exact ⟨"pair", by decide, fun S Q => by simp [sub]⟩
  | prt _ _ => exact ⟨"print", by decide, fun S Q => by simp [sub]⟩
  | han _ _ _ _ => exact ⟨"handle", by decide, fun S Q => by simp [sub]⟩
/-- a tree is put in for a name -/
theorem put_in_ok {x : String} {d : D} : ∀ (n : Nat) {t : TM.Tm} {ρ : Rho} {K : Nat} {S : Store} {Q : QE} {E : XQ}, t.gd 96 → t.dep ≤ n → n + 5 ≤ K → Q (sub (fill ρ x d) t) S → go K .put_in [sub ρ t, .str x, .tup [.str "quoted", d]] S Q E := by
  intro n
  induction n using Nat.strongRecOn with
  | _ n ih =>
  intro t ρ K S Q E g hd hK hQ
  obtain ⟨k, rfl⟩ : ∃ k, K = k + 3 := ⟨K - 3, by omega⟩
  rw [show k + 3 = (k + 2) + 1 from rfl, go_put_in]
  unfold b_put_in
  have main : (∀ x, t = .name x → ρ x ≠ none) → b_put_in (go (k + 2)) (goM (k + 2)) (fun x _ S1 => E x S1) { nx := fun _ S1 => Q .non S1, rt := Q } (startD 6 [sub ρ t, .str x, .tup [.str "quoted", d]]) S := fun hn => by
    obtain ⟨hd0, h1, h2⟩ := ixS hn
    unfold b_put_in
    simp [startD, h2, h1]
    intro p hp
    refine parts_ok (k := k + 1) g ?_
    refine bound_ok (k := k) g ?_
    simp
    rw [zipD_map2]
    have hlen := kids_len g
    refine for_indM (fun q : List String × TM.Tm => D.tup [kidP ρ q, nsD q.1]) (I := fun dn r' σ S' => ∃ a4 a5, σ = [some (sub ρ t), some (.str x), some (.tup [.str "quoted", d]), some (.obj p), a4, a5] ∧
      S' = DL.put S p (.lst (dn.map (kidP (fill ρ x d))))) (kids t) (fun _ _ _ _ _ => ⟨rfl, rfl⟩) ?_ ?_ ⟨none, none, rfl, rfl⟩
    · rintro dn ⟨ns, c⟩ r' σ S' N e' ⟨a4, a5, rfl, rfl⟩ hN
      have hmem : (ns, c) ∈ kids t := by rw [← e']; simp
      have hk := kids_gd g _ hmem
      have hl2 : dn.length < 16777216 := by
        have := congrArg List.length e'
        simp at this
        omega
      simp [nsD, in_lst, DL.inR]
      by_cases hx : x ∈ ns
      · simp [hx, app_obj (put_same), tyD_lst put_same, put_put, lim, hl2]
        exact hN _ _ ⟨_, _, rfl, by simp [kidP, cutAll_in hx]⟩
      · simp [hx, tyD_lst put_same]
        refine ih (n - 1) (by omega) hk.1 (by have := hk.2; show c.dep ≤ n - 1; have h3 : c.dep + 1 ≤ t.dep := hk.2; omega) (by omega) ?_
        simp [app_obj (put_same), put_put, lim, hl2]
        exact hN _ _ ⟨_, _, rfl, by simp [kidP, cutAll_out hx]⟩
    · rintro σ S' ⟨a4, a5, rfl, rfl⟩
      simp [rid_put hp]
      exact with_ok (k := k + 1) g (fun y hy => by
        unfold TM.fill
        cases e : ρ y with
        | none => exact absurd e (hn y hy)
        | some z => rfl) hQ
  cases t with
  | name y =>
    cases e : ρ y with
    | some z => exact main fun x' hx => by cases hx; rw [e]; simp
    | none =>
      simp [startD, sub, e]
      by_cases c : y = x
      · subst c
        simp
        simpa [sub, TM.fill, e] using hQ
      · simp [c]
        have c' : ¬ x = y := fun z => c z.symm
        simpa [sub, TM.fill, e, c'] using hQ
  | _ => exact main fun x' hx => by cases hx
end Pg
namespace Pg
open PySem PySem.Spec PyProof.Rows L2 DL TM
theorem intB {b : Bool} {S : Store} {Q : QE} : bInt [.bl b] S Q = Q (.int (if b then 1 else 0)) S := propext Iff.rfl
theorem augF {c : Nat} {f : String} {g : Int → Int → Int} {a b : DE} {D' : DEnds} {σ : DEnv} {S : Store} : dAugF c f g a b D' σ S = a σ S fun x S1 => ofO (insD S1 c x) fun z => ofO (z.2.lookup f) fun old => b σ S1 fun y S2 => match old, y with
  | .int i, .int j => ofO (insD S2 c x) fun z2 => z2.2.length < 1000 ∧ D'.nx σ (DL.put S2 z2.1 (.ins c (putFD f (.int (g i j)) z2.2)))
  | _, _ => False := propext Iff.rfl
def rf (c : D) (pf : Addr) (l : Nat) (pp : Addr) (e : D) : List (String × D) := [("current", c), ("frames", .obj pf), ("left", .int l), ("prints", .obj pp), ("end", e)]
/-- a run of the plain meaning, in the store -/
structure RunAt (S0 S : Store) (p pp : Addr) (fs : List TM.Fr) (l : Nat) (pr : List Int) (c e : D) : Prop where
  ex : ∃ pf, S p = some (.ins 0 (rf c pf l pp e)) ∧ S pf = some (.lst (frP fs)) ∧ p ≠ pf ∧ pp ≠ pf ∧ S0 pf = none
  pr : S pp = some (.lst (pr.map D.int))
  ne : p ≠ pp
  old : ∀ q, S0 q ≠ none → S q = S0 q
  np : S0 p = none
  npp : S0 pp = none
def curP : Cur → D
  | .ev t e _ => sub e.ro t
  | .rt v => v.p
  | .dn _ => .non
theorem ins_obj {S : Store} {p : Addr} {fs : List (String × D)} (h : S p = some (.ins 0 fs)) : insD S 0 (.obj p) = some (p, fs) := by simp [insD, h]
theorem sl2 {x y : D} {l : List D} {S : Store} {Q : QE} : slD (.tup (x :: y :: l)) (some 2) none S Q = Q (.tup l) S := sl_from (k := 2) (by omega) (by simp)
theorem begin_ok {K : Nat} {S0 S : Store} {p pp : Addr} {s s' : LS} {t : TM.Tm} {e : TM.Env} {k : List Nat} {Q : QE} {E : XQ} (hK : 2 ≤ K) (hm : RunAt S0 S p pp s.fs s.left s.pr (sub e.ro t) .non) (hc : s.cur = .ev t e k) (hnl : lit t = false) (hl : s.fs.length < 100000) (h : into s t e k = some s')
    (hQ : ∀ S', RunAt S0 S' p pp s'.fs s'.left s'.pr (curP s'.cur) .non → Q .non S') : go K .Run_begin [.obj p] S Q E := by
  obtain ⟨j, rfl⟩ : ∃ j, K = j + 1 := ⟨K - 1, by omega⟩
  rw [go_Run_begin]
  unfold b_Run_begin
  obtain ⟨⟨pf, e1, e2, n1, n2, n3⟩, e3, n4, ho, m1, m2⟩ := hm
  have cur : ∀ {c : D}, RunAt S0 (DL.put S p (.ins 0 (rf c pf s.left pp .non))) p pp s.fs s.left s.pr c .non := fun {c} =>
    ⟨⟨pf, put_same, by rw [put_ne n1.symm]; exact e2, n1, n2, n3⟩, by rw [put_ne n4.symm]; exact e3, n4, fun q hq => by rw [put_ne (fun z => by subst z; exact hq m1)]; exact ho q hq, m1, m2⟩
  have push : ∀ {q : TM.Tm} {d : D} {s1 : LS} {f : TM.Fr}, some s1 = some s' → s1 = { s with cur := .ev q e ((k.drop 1).take q.cost), fs := f :: s.fs } → f.p = d →
      (frP s.fs).length < lim ∧ Q .non (DL.put (DL.put S pf (.lst (frP s.fs ++ [d]))) p (.ins 0 (rf (sub e.ro q) pf s.left pp .non))) := fun {q d s1 f} h1 h2 h3 => by
    cases h1
    subst h2 h3
    refine ⟨by rw [frP_len]; have : lim = 16777216 := rfl; omega, hQ _ ⟨⟨pf, put_same, by rw [put_ne n1.symm, put_same]; rfl, n1, n2, n3⟩, by rw [put_ne n4.symm, put_ne n2]; exact e3, n4, fun q hq => ?_, m1, m2⟩⟩
    rw [put_ne (fun z => by subst z; exact hq m1), put_ne (fun z => by subst z; exact hq n3)]
    exact ho q hq
  have ep : DL.put S pf (.lst (frP s.fs)) p = some (.ins 0 (rf (sub e.ro t) pf s.left pp .non)) := by rw [put_ne n1]; exact e1
  have ep' : ∀ {d}, insD (DL.put S pf (.lst d)) 0 (.obj p) = some (p, rf (sub e.ro t) pf s.left pp .non) := fun {d} => ins_obj (by rw [put_ne n1]; exact e1)
  cases t with
  | name x =>
    simp only [into] at h
    cases ef : e.find x with
    | none => rw [ef] at h; cases h
    | some v =>
      rw [ef] at h
      cases h
      have e4 : e.ro x = some v.p := ro_find ef
      simp only [sub, e4] at e1
      simp [startD, ins_obj e1, rf, List.lookup, putFD]
      exact hQ _ cur
  | num i => cases hnl
  | flag i => cases hnl
  | unit => cases hnl
  | fn x b => cases hnl
  | rc f x b => cases hnl
  | lt x a b =>
    have := push (q := a) (f := .a (.lt x a b) e (k.drop (1 + (a : TM.Tm).cost))) h rfl rfl
    simp only [sub] at e1 ep'
    simp [startD, ins_obj e1, rf, List.lookup, putFD, tyD_lst e2, app_obj e2, sl2] at ep' ⊢
    simp [ep', List.lookup, putFD]
    first | exact this | exact ⟨by simp [lim], this⟩
  | op x a b =>
    have := push (q := a) (f := .a (.op x a b) e (k.drop (1 + (a : TM.Tm).cost))) h rfl rfl
    simp only [sub] at e1 ep'
    simp [startD, ins_obj e1, rf, List.lookup, putFD, tyD_lst e2, app_obj e2, sl2] at ep' ⊢
    simp [ep', List.lookup, putFD]
    first | exact this | exact ⟨by simp [lim], this⟩
  | ask x a =>
    have := push (q := a) (f := .a (.ask x a) e (k.drop (1 + (a : TM.Tm).cost))) h rfl rfl
    simp only [sub] at e1 ep'
    simp [startD, ins_obj e1, rf, List.lookup, putFD, tyD_lst e2, app_obj e2, sl2] at ep' ⊢
    simp [ep', List.lookup, putFD]
    first | exact this | exact ⟨by simp [lim], this⟩
  | fst a =>
    have := push (q := a) (f := .a (.fst a) e (k.drop (1 + (a : TM.Tm).cost))) h rfl rfl
    simp only [sub] at e1 ep'
    simp [startD, ins_obj e1, rf, List.lookup, putFD, tyD_lst e2, app_obj e2, sl2] at ep' ⊢
    simp [ep', List.lookup, putFD]
    first | exact this | exact ⟨by simp [lim], this⟩
  | snd a =>
    have := push (q := a) (f := .a (.snd a) e (k.drop (1 + (a : TM.Tm).cost))) h rfl rfl
    simp only [sub] at e1 ep'
    simp [startD, ins_obj e1, rf, List.lookup, putFD, tyD_lst e2, app_obj e2, sl2] at ep' ⊢
    simp [ep', List.lookup, putFD]
    first | exact this | exact ⟨by simp [lim], this⟩
  | nt a =>
    have := push (q := a) (f := .a (.nt a) e (k.drop (1 + (a : TM.Tm).cost))) h rfl rfl
    simp only [sub] at e1 ep'
    simp [startD, ins_obj e1, rf, List.lookup, putFD, tyD_lst e2, app_obj e2, sl2] at ep' ⊢
    simp [ep', List.lookup, putFD]
    first | exact this | exact ⟨by simp [lim], this⟩
  | ite a b c =>
    have := push (q := a) (f := .a (.ite a b c) e (k.drop (1 + (a : TM.Tm).cost))) h rfl rfl
    simp only [sub] at e1 ep'
    simp [startD, ins_obj e1, rf, List.lookup, putFD, tyD_lst e2, app_obj e2, sl2] at ep' ⊢
    simp [ep', List.lookup, putFD]
    first | exact this | exact ⟨by simp [lim], this⟩
  | call a b =>
    have := push (q := a) (f := .a (.call a b) e (k.drop (1 + (a : TM.Tm).cost))) h rfl rfl
    simp only [sub] at e1 ep'
    simp [startD, ins_obj e1, rf, List.lookup, putFD, tyD_lst e2, app_obj e2, sl2] at ep' ⊢
    simp [ep', List.lookup, putFD]
    first | exact this | exact ⟨by simp [lim], this⟩
  | pair a b =>
    have := push (q := a) (f := .a (.pair a b) e (k.drop (1 + (a : TM.Tm).cost))) h rfl rfl
    simp only [sub] at e1 ep'
    simp [startD, ins_obj e1, rf, List.lookup, putFD, tyD_lst e2, app_obj e2, sl2] at ep' ⊢
    simp [ep', List.lookup, putFD]
    first | exact this | exact ⟨by simp [lim], this⟩
  | prt a b =>
    have := push (q := a) (f := .a (.prt a b) e (k.drop (1 + (a : TM.Tm).cost))) h rfl rfl
    simp only [sub] at e1 ep'
    simp [startD, ins_obj e1, rf, List.lookup, putFD, tyD_lst e2, app_obj e2, sl2] at ep' ⊢
    simp [ep', List.lookup, putFD]
    first | exact this | exact ⟨by simp [lim], this⟩
  | han a r b cs =>
    have := push (q := a) (f := .a (.han a r b cs) e (k.drop (1 + (a : TM.Tm).cost))) h rfl rfl
    simp only [sub] at e1 ep'
    simp [startD, ins_obj e1, rf, List.lookup, putFD, tyD_lst e2, app_obj e2, sl2] at ep' ⊢
    simp [ep', List.lookup, putFD]
    first | exact this | exact ⟨by simp [lim], this⟩
theorem single_law {K : Nat} {S : Store} {hd : String} {v : Val} {p : Addr} {d : D} {Q : QE} {E : XQ} (hK : 1 ≤ K) (h : (hd = "not" ∧ ∃ b, v = .bool b ∧ d = .tup [.str "flag", .bl !b]) ∨ (hd = "fst" ∧ ∃ x y, v = .pair x y ∧ d = x.p) ∨ (hd = "snd" ∧ ∃ x y, v = .pair x y ∧ d = y.p))
    (hQ : Q d S) : go K .Run_single [.obj p, .str hd, v.p] S Q E := by
  obtain ⟨j, rfl⟩ : ∃ j, K = j + 1 := ⟨K - 1, by omega⟩
  rw [go_Run_single]
  unfold b_Run_single
  rcases h with ⟨rfl, b, rfl, rfl⟩ | ⟨rfl, x, y, rfl, rfl⟩ | ⟨rfl, x, y, rfl, rfl⟩
  · simpa [startD, Val.p, intB] using hQ
  · simpa [startD, Val.p, intB] using hQ
  · simpa [startD, Val.p, intB] using hQ
theorem counted_law {K : Nat} {S0 S : Store} {p pp : Addr} {fs : List TM.Fr} {l : Nat} {pr : List Int} {c : D} {Q : QE} {E : XQ} (hK : 1 ≤ K) (hm : RunAt S0 S p pp fs l pr c .non)
    (h0 : l = 0 → ∀ S', RunAt S0 S' p pp fs l pr c (.tup [.str "steps"]) → Q (.bl false) S') (h1 : l ≠ 0 → ∀ S', RunAt S0 S' p pp fs (l - 1) pr c .non → Q (.bl true) S') : go K .Run_counted [.obj p] S Q E := by
  obtain ⟨j, rfl⟩ : ∃ j, K = j + 1 := ⟨K - 1, by omega⟩
  rw [go_Run_counted]
  unfold b_Run_counted
  obtain ⟨⟨pf, e1, e2, n1, n2, n3⟩, e3, n4, ho, m1, m2⟩ := hm
  have cur : ∀ {l' : Nat} {e : D}, RunAt S0 (DL.put S p (.ins 0 (rf c pf l' pp e))) p pp fs l' pr c e := fun {l' e} =>
    ⟨⟨pf, put_same, by rw [put_ne n1.symm]; exact e2, n1, n2, n3⟩, by rw [put_ne n4.symm]; exact e3, n4, fun q hq => by rw [put_ne (fun z => by subst z; exact hq m1)]; exact ho q hq, m1, m2⟩
  simp [startD, ins_obj e1, rf, List.lookup, putFD]
  by_cases hl : l = 0
  · subst hl
    simp
    exact h0 rfl _ cur
  · have := h1 hl _ (cur (l' := l - 1) (e := .non))
    rw [rf, show ((l - 1 : Nat) : Int) = (l : Int) - 1 by omega] at this
    simp [hl, augF, ins_obj e1, rf, List.lookup, putFD]
    exact this
end Pg
namespace Pg
open PySem PySem.Spec PyProof.Rows L2 DL TM
def AfterP (S0 S : Store) (p pp : Addr) (s : LS) : Prop := (∃ r c fs l, s.cur = .dn r ∧ RunAt S0 S p pp fs l s.pr c (Res.d r)) ∨ ((∀ r, s.cur ≠ .dn r) ∧ RunAt S0 S p pp s.fs s.left s.pr (curP s.cur) .non)
section
variable {c e y : D} {pf pp q : Addr} {l : Nat}
theorem lk_c : (rf c pf l pp e).lookup "current" = some c := by simp [rf, List.lookup]
theorem lk_f : (rf c pf l pp e).lookup "frames" = some (.obj pf) := by simp [rf, List.lookup]
theorem lk_p : (rf c pf l pp e).lookup "prints" = some (.obj pp) := by simp [rf, List.lookup]
theorem lk_e : (rf c pf l pp e).lookup "end" = some e := by simp [rf, List.lookup]
theorem lk_1 : (rf c pf l pp e).lookup "counted" = none := by simp [rf, List.lookup]
theorem lk_2 : (rf c pf l pp e).lookup "call" = none := by simp [rf, List.lookup]
theorem lk_3 : (rf c pf l pp e).lookup "ask" = none := by simp [rf, List.lookup]
theorem lk_4 : (rf c pf l pp e).lookup "answer" = none := by simp [rf, List.lookup]
theorem lk_5 : (rf c pf l pp e).lookup "single" = none := by simp [rf, List.lookup]
theorem lk_6 : (rf c pf l pp e).lookup "go_on" = none := by simp [rf, List.lookup]
theorem lk_7 : (rf c pf l pp e).lookup "begin" = none := by simp [rf, List.lookup]
theorem no_f {m : String} (h : m ∉ ["current", "frames", "left", "prints", "end"]) : ∀ (a : String) (b : D), (a, b) ∈ rf c pf l pp e → ¬ m = a := fun a b hm z => by
  subst z
  simp [rf] at hm
  simp at h
  rcases hm with ⟨z, _⟩ | ⟨z, _⟩ | ⟨z, _⟩ | ⟨z, _⟩ | ⟨z, _⟩
  · exact h.1 z
  · exact h.2.1 z
  · exact h.2.2.1 z
  · exact h.2.2.2.1 z
  · exact h.2.2.2.2 z
theorem pt_c : putFD "current" y (rf c pf l pp e) = rf y pf l pp e := by simp [rf, putFD]
theorem pt_f : putFD "frames" (.obj q) (rf c pf l pp e) = rf c q l pp e := by simp [rf, putFD]
theorem pt_e : putFD "end" y (rf c pf l pp e) = rf c pf l pp y := by simp [rf, putFD]
theorem rf_n : (rf c pf l pp e).length = 5 := rfl
end
theorem quoted_ok {K : Nat} {S : Store} {d : D} {Q : QE} {E : XQ} (hK : 1 ≤ K) (hQ : Q (.tup [.str "quoted", d]) S) : go K .quoted [d] S Q E := by
  obtain ⟨j, rfl⟩ : ∃ j, K = j + 1 := ⟨K - 1, by omega⟩
  rw [go_quoted]
  unfold b_quoted
  simpa [startD] using hQ
/-- the current expression is another -/
theorem RunAt.cur {S0 S : Store} {p pp : Addr} {fs : List TM.Fr} {l : Nat} {pr : List Int} {c e : D} (h : RunAt S0 S p pp fs l pr c e) : ∃ pf, S p = some (.ins 0 (rf c pf l pp e)) ∧ S pf = some (.lst (frP fs)) ∧ p ≠ pf ∧ (∀ c' e', RunAt S0 (DL.put S p (.ins 0 (rf c' pf l pp e'))) p pp fs l pr c' e') ∧ (∀ fs' c' e', RunAt S0 (DL.put (DL.put S pf (.lst (frP fs'))) p (.ins 0 (rf c' pf l pp e'))) p pp fs' l pr c' e') ∧ ∀ fs', RunAt S0 (DL.put S pf (.lst (frP fs'))) p pp fs' l pr c e := by
  obtain ⟨⟨pf, e1, e2, n1, n2, n3⟩, e3, n4, ho, m1, m2⟩ := h
  refine ⟨pf, e1, e2, n1, fun c' e' => ?_, fun fs' c' e' => ?_, fun fs' => ?_⟩
  · exact ⟨⟨pf, put_same, by rw [put_ne n1.symm]; exact e2, n1, n2, n3⟩, by rw [put_ne n4.symm]; exact e3, n4, fun q hq => by rw [put_ne (fun z => by subst z; exact hq m1)]; exact ho q hq, m1, m2⟩
  · exact ⟨⟨pf, put_same, by rw [put_ne n1.symm, put_same], n1, n2, n3⟩, by rw [put_ne n4.symm, put_ne n2]; exact e3, n4, fun q hq => by rw [put_ne (fun z => by subst z; exact hq m1), put_ne (fun z => by subst z; exact hq n3)]; exact ho q hq, m1, m2⟩
  · exact ⟨⟨pf, by rw [put_ne n1]; exact e1, put_same, n1, n2, n3⟩, by rw [put_ne n2]; exact e3, n4, fun q hq => by rw [put_ne (fun z => by subst z; exact hq n3)]; exact ho q hq, m1, m2⟩
theorem call_plain {K : Nat} {S0 S : Store} {p pp : Addr} {s s' : LS} {u v : Val} {c : D} {Q : QE} {E : XQ} (hK : 60 ≤ K) (hm : RunAt S0 S p pp s.fs s.left s.pr c .non) (h : callV s u v = some s')
    (hu : ∀ f x b e, u = .fn f x b e → b.gd 96) (hl' : (∀ r, s'.cur ≠ .dn r) → s'.fs.length < 100000)
    (hQ : ∀ S', AfterP S0 S' p pp s' → Q .non S') : go K .Run_call [.obj p, u.p, v.p] S Q E := by
  obtain ⟨k, rfl⟩ : ∃ k, K = k + 1 := ⟨K - 1, by omega⟩
  rw [go_Run_call]
  unfold b_Run_call
  unfold callV at h
  obtain ⟨pf0, e10, _⟩ := hm.cur
  simp [startD, ins_obj e10, lk_c, lk_f, lk_1, pt_c, rf_n]
  refine ⟨no_f (by decide), ?_⟩
  refine counted_law (K := k) (by omega) hm (fun h0 S' hm' => ?_) (fun h0 S' hm' => ?_)
  · rw [if_pos h0] at h
    cases h
    simp [truD]
    exact hQ S' (.inl ⟨_, _, _, _, rfl, hm'⟩)
  rw [if_neg h0] at h
  simp [truD]
  obtain ⟨pf, e1, e2, n1, c1, c2, c3⟩ := hm'.cur
  cases u with
  | int i => cases h
  | bool i => cases h
  | unit => cases h
  | pair _ _ => cases h
  | fn f x b e =>
    cases h
    have hb := hu f x b e rfl
    by_cases hf : f = ""
    · subst hf
      simp [Val.p]
      refine quoted_ok (K := k) (by omega) ?_
      refine put_in_ok (K := k) 40 hb hb.2 (by omega) ?_
      simp [ins_obj e1, lk_c, lk_f, lk_1, pt_c, rf_n]
      refine hQ _ (.inr ⟨fun _ z => (by cases z), ?_⟩)
      have := c1 (sub (TM.fill (cut e.ro x) x v.p) b) .non
      rw [fill_cut] at this ⊢
      exact this
    · simp [Val.p, hf]
      refine quoted_ok (K := k) (by omega) ?_
      refine put_in_ok (K := k) 40 hb hb.2 (by omega) ?_
      refine quoted_ok (K := k) (by omega) ?_
      refine put_in_ok (K := k) 40 hb hb.2 (by omega) ?_
      simp [ins_obj e1, lk_c, lk_f, lk_1, pt_c, rf_n]
      refine hQ _ (.inr ⟨fun _ z => (by cases z), ?_⟩)
      have hp : Val.p (.fn f x b e) = .tup [.str "rec", .str f, .str x, sub (cut (cut e.ro f) x) b] := by simp [Val.p, hf]
      have := c1 (sub (TM.fill (TM.fill (cut (cut e.ro f) x) x v.p) f (Val.p (.fn f x b e))) b) .non
      rw [← hp]
      rw [fill_rec] at this ⊢
      simp only [hf, if_false]
      exact this
  | kept g =>
    cases h
    have hln : (frP s.fs).length + (frP g).length < 100000 := by
      rw [frP_len, frP_len]
      have : (g ++ s.fs).length < 100000 := hl' fun _ z => by cases z
      rw [List.length_append] at this
      omega
    have e1' : DL.put S' pf (.lst (frP s.fs ++ frP g)) p = some (.ins 0 (rf c pf (s.left - 1) pp .non)) := by
      rw [put_ne n1]; exact e1
    simp [Val.p, ins_obj e1, lk_c, lk_f, lk_1, pt_c, rf_n, tyD_lst e2, extT_obj e2, ins_obj e1']
    have c2' := c2 (g ++ s.fs) v.p .non
    rw [frP_app] at c2'
    refine ⟨by have : lim = 16777216 := rfl; omega, ?_⟩
    exact hQ _ (.inr ⟨fun _ z => (by cases z), c2'⟩)
end Pg
namespace Pg
open PySem PySem.Spec PyProof.Rows L2 DL TM
theorem answer_law {K : Nat} {S0 S : Store} {p pp : Addr} {sk rest : List TM.Fr} {f : TM.Fr} {l : Nat} {pr : List Int} {c : D} {o x k : String} {b : TM.Tm} {e : TM.Env} {v : Val} {Q : QE} {E : XQ} (hK : 60 ≤ K) (hm : RunAt S0 S p pp (sk ++ f :: rest) l pr c .non) (hb : b.gd 96)
    (hQ : ∀ S', RunAt S0 S' p pp rest l pr (sub (TM.Env.cons k (.kept (sk ++ [f])) (.cons x v e)).ro b) .non → Q .non S') : go K .Run_answer [.obj p, .int rest.length, clP e.ro (o, x, k, b), v.p] S Q E := by
  obtain ⟨j, rfl⟩ : ∃ j, K = j + 1 := ⟨K - 1, by omega⟩
  rw [go_Run_answer]
  unfold b_Run_answer
  obtain ⟨⟨pf, e1, e2, n1, n2, n3⟩, e3, n4, ho, m1, m2⟩ := hm
  have fe : frP (sk ++ f :: rest) = frP rest ++ frP (sk ++ [f]) := by
    rw [show sk ++ f :: rest = (sk ++ [f]) ++ rest by simp, frP_app]
  have hlen : rest.length ≤ (frP (sk ++ f :: rest)).length := by rw [fe, List.length_append, frP_len, frP_len]; omega
  have ed : (frP (sk ++ f :: rest)).drop rest.length = frP (sk ++ [f]) := by rw [fe, ← frP_len rest, List.drop_left]
  have et : (frP (sk ++ f :: rest)).take rest.length = frP rest := by rw [fe, ← frP_len rest, List.take_left]
  simp [startD, ins_obj e1, lk_f, dSl, dPart, dNoPart, slO_from e2 hlen, slM_to e2 hlen, ed, et, asQ]
  intro q hq
  have nq : q ≠ p := fun z => by subst z; rw [e1] at hq; cases hq
  have nqq : q ≠ pp := fun z => by subst z; rw [e3] at hq; cases hq
  have e1' : DL.put S q (.lst (frP rest)) p = some (.ins 0 (rf c pf l pp .non)) := by rw [put_ne nq.symm]; exact e1
  have q0 : S0 q = none := by
    cases h : S0 q with
    | none => rfl
    | some y => rw [ho q (by rw [h]; simp), h] at hq; cases hq
  have fin : ∀ c', RunAt S0 (DL.put (DL.put (DL.put S q (.lst (frP rest))) p (.ins 0 (rf c q l pp .non))) p (.ins 0 (rf c' q l pp .non))) p pp rest l pr c' .non := fun c' =>
    ⟨⟨q, put_same, by rw [put_ne nq, put_ne nq, put_same], nq.symm, nqq.symm, q0⟩, by rw [put_ne n4.symm, put_ne n4.symm, put_ne nqq.symm]; exact e3, n4, fun y hy => by
      rw [put_ne (fun z => by subst z; exact hy m1), put_ne (fun z => by subst z; exact hy m1), put_ne (fun z => by subst z; exact hy q0)]
      exact ho y hy, m1, m2⟩
  have e1'' : DL.put (DL.put S q (.lst (frP rest))) p (.ins 0 (rf c q l pp .non)) p = some (.ins 0 (rf c q l pp .non)) := put_same
  simp [ins_obj e1', pt_f, rf_n, clP]
  have hp : D.tup [.str "kept", .tup (frP (sk ++ [f]))] = Val.p (.kept (sk ++ [f])) := by simp [Val.p]
  by_cases hxk : x = k
  · subst hxk
    simp
    refine quoted_ok (K := j) (by omega) ?_
    refine put_in_ok (K := j) 40 hb hb.2 (by omega) ?_
    simp [ins_obj e1'', pt_c, rf_n]
    rw [hp, fill_cut2s e v]
    exact hQ _ (fin _)
  · simp [hxk]
    refine quoted_ok (K := j) (by omega) ?_
    refine put_in_ok (K := j) 40 hb hb.2 (by omega) ?_
    refine quoted_ok (K := j) (by omega) ?_
    refine put_in_ok (K := j) 40 hb hb.2 (by omega) ?_
    simp [ins_obj e1'', pt_c, rf_n]
    rw [hp, fill_cut2 e hxk]
    exact hQ _ (fin _)
end Pg
namespace Pg
open PySem PySem.Spec PyProof.Rows L2 DL TM
/-- a frame is a handler, or it is none -/
def FrP (f : TM.Fr) : Prop := (∃ e0 r b cs e k, f = .a (.han e0 r b cs) e k ∧ cs.gd 96) ∨ (∃ hd : String, hd ≠ "handle" ∧ (∀ (S : Store) (Q : QE), dIx f.p (.int 0) S Q = Q (.str hd) S) ∧ ∀ o fs, split o (f :: fs) = nextS f (split o fs))
theorem frP_of {ops : Ops} {N : Nat} {f : TM.Fr} {σ ρ : TM.Ty} (h : FT ops 96 N f σ ρ) : FrP f := by
  cases h with
  | han1 he hb hg hcs hcg hl => exact .inl ⟨_, _, _, _, _, _, rfl, hcg⟩
  | call1 => exact .inr ⟨"call", by decide, fun S Q => by simp [Fr.p], fun o fs => rfl⟩
  | pair1 => exact .inr ⟨"pair", by decide, fun S Q => by simp [Fr.p], fun o fs => rfl⟩
  | op1 => exact .inr ⟨"op", by decide, fun S Q => by simp [Fr.p], fun o fs => rfl⟩
  | lt1 => exact .inr ⟨"let", by decide, fun S Q => by simp [Fr.p], fun o fs => rfl⟩
  | ite1 => exact .inr ⟨"if", by decide, fun S Q => by simp [Fr.p], fun o fs => rfl⟩
  | prt1 => exact .inr ⟨"print", by decide, fun S Q => by simp [Fr.p], fun o fs => rfl⟩
  | ask1 => exact .inr ⟨"ask", by decide, fun S Q => by simp [Fr.p], fun o fs => rfl⟩
  | nt1 => exact .inr ⟨"not", by decide, fun S Q => by simp [Fr.p], fun o fs => rfl⟩
  | fst1 => exact .inr ⟨"fst", by decide, fun S Q => by simp [Fr.p], fun o fs => rfl⟩
  | snd1 => exact .inr ⟨"snd", by decide, fun S Q => by simp [Fr.p], fun o fs => rfl⟩
  | op2 => exact .inr ⟨"op2", by decide, fun S Q => by simp [Fr.p], fun o fs => rfl⟩
  | pair2 => exact .inr ⟨"pair2", by decide, fun S Q => by simp [Fr.p], fun o fs => rfl⟩
  | call2 => exact .inr ⟨"call2", by decide, fun S Q => by simp [Fr.p], fun o fs => rfl⟩
theorem frPs_of {ops : Ops} {N : Nat} : ∀ {fs : List TM.Fr} {σ ρ : TM.Ty}, ST ops 96 N fs σ ρ → ∀ f ∈ fs, FrP f
  | _, _, _, .nil, f, h => by cases h
  | _, _, _, .cons hF _ s, f, h => by
    rcases List.mem_cons.mp h with rfl | h
    · exact frP_of hF
    · exact frPs_of s f h
theorem find_clsL {o : String} : ∀ {cs : Cls}, cs.find o = none → ∀ c ∈ clsL cs, c.1 ≠ o
  | .nil, _, c, hc => by cases hc
  | .cons o' x k b r, h, c, hc => by
    rw [Cls.find] at h
    by_cases e : o' = o
    · rw [if_pos e] at h; cases h
    · rw [if_neg e] at h
      rw [clsL, List.mem_cons] at hc
      rcases hc with rfl | hc
      · exact e
      · exact find_clsL h c hc
theorem ask_plain {K : Nat} {S0 S : Store} {p pp : Addr} {s s' : LS} {o : String} {v : Val} {c : D} {Q : QE} {E : XQ} (hK : 62 ≤ K) (hm : RunAt S0 S p pp s.fs s.left s.pr c .non) (h : askV s o v = some s') (hF : ∀ f ∈ s.fs, FrP f) (hl0 : s.fs.length < 100000)
    (hQ : ∀ S', AfterP S0 S' p pp s' → Q .non S') : go K .Run_ask [.obj p, .str o, v.p] S Q E := by
  obtain ⟨k, rfl⟩ : ∃ k, K = k + 1 := ⟨K - 1, by omega⟩
  rw [go_Run_ask]
  unfold b_Run_ask
  unfold askV at h
  obtain ⟨pf0, e10, _⟩ := hm.cur
  simp [startD, ins_obj e10]
  refine ⟨no_f (by decide), ?_⟩
  refine counted_law (K := k) (by omega) hm (fun h0 S' hm' => ?_) (fun h0 S' hm' => ?_)
  · rw [if_pos h0] at h
    cases h
    simp [truD]
    exact hQ S' (.inl ⟨_, _, _, _, rfl, hm'⟩)
  rw [if_neg h0] at h
  simp [truD]
  obtain ⟨pf, e1, e2, n1, c1, c2, c3⟩ := hm'.cur
  simp [iRvR, rg1, ins_obj e1, lk_f, lenD_obj e2, frP_len]
  refine ⟨by omega, ?_⟩
  refine for_ind (I := fun L σ S2 => S2 = S' ∧ ∃ sk rest v3 v4 v5, s.fs = sk ++ rest ∧ L = revD 0 rest.length ∧ (split o s.fs = match split o rest with
      | some (i, e', c, out) => some (sk ++ i, e', c, out)
      | none => none) ∧ σ = [some (.obj p), some (.str o), some v.p, v3, v4, v5])
    (fun _ _ _ _ => trivial) ?_ ?_ ⟨rfl, [], s.fs, none, none, none, rfl, rfl, by cases split o s.fs <;> rfl, rfl⟩
  · rintro x r σ S2 N ⟨rfl, sk, rest, v3, v4, v5, g1, g2, g3, rfl⟩ hN
    cases rest with
    | nil => cases g2
    | cons f rest =>
      rw [List.length_cons, revD_succ] at g2
      cases g2
      have fe : frP s.fs = frP rest ++ f.p :: frP sk := by rw [g1, frP_app, frP]; simp
      have at1 : atI (frP s.fs) (rest.length : Int) = some f.p := at_nat (by rw [fe, List.getElem?_append_right (by rw [frP_len]; omega), frP_len]; simp)
      have skip : split o (f :: rest) = nextS f (split o rest) → ∀ {v3 v4 v5}, N [some (.obj p), some (.str o), some v.p, v3, v4, v5] S2 := fun hs {v3 v4 v5} =>
        hN _ _ ⟨rfl, sk ++ [f], rest, v3, v4, v5, by rw [g1]; simp, rfl, by
          rw [g3, hs]
          cases split o rest with
          | none => rfl
          | some p => obtain ⟨i, e', c, out⟩ := p; simp [nextS], rfl⟩
      simp [ins_obj e1, lk_f, asL_obj e2, at1]
      rcases hF f (by rw [g1]; simp) with ⟨e0, rr, b, cs, e, kk, rfl, hcg⟩ | ⟨hd, hh1, hh2, hh3⟩
      · simp [Fr.p, subC_map]
        refine for_ind (I := fun L σ S3 => S3 = S2 ∧ ∃ cs' v5, L = (clsL cs').map (clP e.ro) ∧ cs'.gd 96 ∧ cs.find o = cs'.find o ∧ σ = [some (.obj p), some (.str o), some v.p, some (.int rest.length), some (.tup [.str "handle", .tup [.str rr, sub (cut e.ro rr) b], .tup ((clsL cs).map (clP e.ro))]), v5])
          (fun _ _ _ _ => trivial) ?_ ?_ ⟨rfl, cs, v5, rfl, hcg, rfl, rfl⟩
        · rintro x R σ S3 N' ⟨rfl, cs', v5', g4, g5, g6, rfl⟩ hN'
          cases cs' with
          | nil => cases g4
          | cons o' x' k' b' r' =>
            rw [clsL, List.map_cons] at g4
            cases g4
            simp [clP]
            by_cases eo : o' = o
            · subst eo
              simp [ins_obj e1]
              refine ⟨no_f (by decide), ?_⟩
              have ec : cs.find o' = some (x', k', b') := by rw [g6, Cls.find, if_pos rfl]
              rw [g3, split_h1 ec] at h
              simp only [] at h
              cases h
              have hm2 := hm'
              rw [g1] at hm2
              refine answer_law (K := k) (o := o') (x := x') (k := k') (b := b') (e := e) (v := v) (sk := sk) (rest := rest) (by omega) hm2 (gd_cons g5).2.1 fun S4 hm4 => ?_
              exact hQ S4 (.inr ⟨fun _ z => (by cases z), hm4⟩)
            · simp [eo]
              exact hN' _ _ ⟨rfl, r', _, rfl, (gd_cons g5).2.2, by rw [g6, Cls.find, if_neg eo], rfl⟩
        · rintro σ S3 ⟨rfl, cs', v5', g4, g5, g6, rfl⟩
          cases cs' with
          | cons o' x' k' b' r' => rw [clsL, List.map_cons] at g4; cases g4
          | nil => exact skip (split_h0 (by rw [g6]; rfl))
      · simp [hh2, hh1]
        exact skip (hh3 o rest)
  · rintro σ S2 ⟨rfl, sk, rest, v3, v4, v5, g1, g2, g3, rfl⟩
    cases rest with
    | cons f rest => rw [List.length_cons, revD_succ] at g2; cases g2
    | nil =>
      rw [g3] at h
      cases h
      simp [ins_obj e1, pt_e, rf_n]
      exact hQ _ (.inl ⟨.unhandled o, c, s.fs, s.left - 1, rfl, c1 c (.tup [.str "unhandled", .str o])⟩)
end Pg
namespace Pg
open PySem PySem.Spec PyProof.Rows L2 DL TM
theorem operated_ok {K : Nat} {S : Store} {Q : QE} {E : XQ} {s : String} {τ : TM.Ty} {i j : Int} {w : Val} (hK : 1 ≤ K) (hi : i.natAbs < 2 ^ 32) (hj : j.natAbs < 2 ^ 32) (hs : Sg s τ) (h : oper s i j = some w) (hQ : Q w.p S) : go K .operated [.str s, .int i, .int j] S Q E := by
  obtain ⟨k, rfl⟩ : ∃ k, K = k + 1 := ⟨K - 1, by omega⟩
  rw [go_operated]
  unfold b_operated
  have cm : CMul i j := .inl ⟨by omega, by omega⟩
  have c2 : CMul 2 2147483648 := .inl ⟨by decide, by decide⟩
  cases hs with
  | add => simp [oper] at h; subst h; simp [startD, c_HALF]; exact ⟨c2, hQ⟩
  | sub => simp [oper] at h; subst h; simp [startD, c_HALF]; exact ⟨c2, hQ⟩
  | mul => simp [oper] at h; subst h; simp [startD, c_HALF, cm]; exact ⟨c2, hQ⟩
  | lt => simp [oper] at h; subst h; simp [startD]; exact hQ
  | eq => simp [oper] at h; subst h; simp [startD]; exact hQ
theorem shape_plain : ∀ (v : Val) {K : Nat} {S : Store} {Q : QE} {E : XQ}, Val.pd v + 1 ≤ K → Q (Val.sh v) S → go K .shape [v.p] S Q E := by
  intro v
  induction v using Val.sh.induct with
  | case4 a b iha ihb =>
    intro K S Q E hK hQ
    obtain ⟨k, rfl⟩ : ∃ k, K = k + 1 := ⟨K - 1, by omega⟩
    simp only [Val.pd] at hK
    rw [go_shape]
    unfold b_shape
    simp [startD, Val.p]
    refine iha (by omega) (ihb (by omega) hQ)
  | case5 f x b e =>
    intro K S Q E hK hQ
    obtain ⟨k, rfl⟩ : ∃ k, K = k + 1 := ⟨K - 1, by omega⟩
    rw [go_shape]
    unfold b_shape
    by_cases hf : f = ""
    · simp [startD, Val.p, hf]; exact hQ
    · simp [startD, Val.p, hf]; exact hQ
  | _ =>
    intro K S Q E hK hQ
    obtain ⟨k, rfl⟩ : ∃ k, K = k + 1 := ⟨K - 1, by omega⟩
    rw [go_shape]
    unfold b_shape
    simp [startD, Val.p, c_UNIT]
    exact hQ
theorem isv_val : ∀ (v : Val) {K : Nat} {S : Store} {Q : QE} {E : XQ}, Val.pd v + 1 ≤ K → Q (.bl true) S → go K .is_value [v.p] S Q E := by
  intro v
  induction v using Val.sh.induct with
  | case4 a b iha ihb =>
    intro K S Q E hK hQ
    obtain ⟨k, rfl⟩ : ∃ k, K = k + 1 := ⟨K - 1, by omega⟩
    simp only [Val.pd] at hK
    rw [go_is_value]
    unfold b_is_value
    simp [startD, Val.p]
    refine iha (by omega) (ihb (by omega) hQ)
  | case5 f x b e =>
    intro K S Q E hK hQ
    obtain ⟨k, rfl⟩ : ∃ k, K = k + 1 := ⟨K - 1, by omega⟩
    rw [go_is_value]
    unfold b_is_value
    by_cases hf : f = ""
    · simp [startD, Val.p, hf, in_tup, inD_cons, inD_nil, DL.inR]; exact hQ
    · simp [startD, Val.p, hf, in_tup, inD_cons, inD_nil, DL.inR]; exact hQ
  | _ =>
    intro K S Q E hK hQ
    obtain ⟨k, rfl⟩ : ∃ k, K = k + 1 := ⟨K - 1, by omega⟩
    rw [go_is_value]
    unfold b_is_value
    simp [startD, Val.p, in_tup, inD_cons, inD_nil, DL.inR]
    exact hQ
theorem isv_tm {ρ : Rho} : ∀ (t : TM.Tm) {K : Nat} {S : Store} {Q : QE} {E : XQ}, t.dep + 1 ≤ K → Q (.bl (lit t)) S → go K .is_value [sub ρ t] S Q E := by
  intro t
  induction t using lit.induct with
  | case6 a b iha ihb =>
    intro K S Q E hK hQ
    obtain ⟨k, rfl⟩ : ∃ k, K = k + 1 := ⟨K - 1, by omega⟩
    simp only [Tm.dep] at hK
    rw [go_is_value]
    unfold b_is_value
    simp [startD, sub]
    refine iha (by omega) ?_
    simp only [lit] at hQ
    cases ha : lit a with
    | true => rw [ha] at hQ; simp at hQ ⊢; exact ihb (by omega) hQ
    | false => rw [ha] at hQ; simpa using hQ
  | case7 t h1 h2 h3 h4 h5 h6 =>
    intro K S Q E hK hQ
    obtain ⟨k, rfl⟩ : ∃ k, K = k + 1 := ⟨K - 1, by omega⟩
    rw [go_is_value]
    unfold b_is_value
    cases t with
    | num i => exact absurd rfl (h1 i)
    | flag i => exact absurd rfl (h2 i)
    | unit => exact absurd rfl h3
    | fn x b => exact absurd rfl (h4 x b)
    | rc f x b => exact absurd rfl (h5 f x b)
    | pair a b => exact absurd rfl (h6 a b)
    | name x =>
      cases e : ρ x with
      | none => simp [startD, sub, e, in_tup, inD_cons, inD_nil, DL.inR]; exact hQ
      | some d => simp [startD, sub, e, in_tup, inD_cons, inD_nil, DL.inR]; exact hQ
    | _ => simp [startD, sub, in_tup, inD_cons, inD_nil, DL.inR]; exact hQ
  | _ =>
    intro K S Q E hK hQ
    obtain ⟨k, rfl⟩ : ∃ k, K = k + 1 := ⟨K - 1, by omega⟩
    rw [go_is_value]
    unfold b_is_value
    simp [startD, sub, in_tup, inD_cons, inD_nil, DL.inR]
    exact hQ
theorem go_on_end {K : Nat} {S0 S : Store} {p pp : Addr} {s : LS} {v : Val} {Q : QE} {E : XQ} (hK : 30 ≤ K) (hv : Val.pd v ≤ 20) (hm : RunAt S0 S p pp [] s.left s.pr v.p .non)
    (hQ : ∀ S' c, RunAt S0 S' p pp [] s.left s.pr c (.tup [.str "value", Val.sh v]) → Q .non S') : go K .Run_go_on [.obj p] S Q E := by
  obtain ⟨k, rfl⟩ : ∃ k, K = k + 1 := ⟨K - 1, by omega⟩
  rw [go_Run_go_on]
  unfold b_Run_go_on
  obtain ⟨pf, e1, e2, n1, c1, c2, c3⟩ := hm.cur
  simp [startD, ins_obj e1, lk_f, truD, asL_obj e2, frP, lk_c]
  refine shape_plain v (by omega) ?_
  simp [ins_obj e1, pt_e, rf_n]
  exact hQ _ _ (c1 _ _)
theorem RunAt.prt {S0 S : Store} {p pp : Addr} {fs : List TM.Fr} {l : Nat} {pr : List Int} {c e : D} (h : RunAt S0 S p pp fs l pr c e) (i : Int) : RunAt S0 (DL.put S pp (.lst ((pr ++ [i]).map D.int))) p pp fs l (pr ++ [i]) c e := by
  obtain ⟨⟨pf, e1, e2, n1, n2, n3⟩, e3, n4, ho, m1, m2⟩ := h
  exact ⟨⟨pf, by rw [put_ne n4]; exact e1, by rw [put_ne n2.symm]; exact e2, n1, n2, n3⟩, put_same, n4, fun q hq => by rw [put_ne (fun z => by subst z; exact hq m2)]; exact ho q hq, m1, m2⟩
theorem go_on_plain {ops : Ops} {K : Nat} {S0 S : Store} {p pp : Addr} {s s' : LS} {f : TM.Fr} {v : Val} {σ ρ : TM.Ty} {N : Nat} {Q : QE} {E : XQ} (hK : 70 ≤ K) (hm : RunAt S0 S p pp (f :: s.fs) s.left s.pr v.p .non) (h : back s f v = some s')
    (hfT : FT ops 96 N f σ ρ) (hvT : VT ops 96 N v σ) (hF : ∀ f ∈ s.fs, FrP f) (hl0 : s.fs.length < 100000) (hl' : (∀ r, s'.cur ≠ .dn r) → s'.fs.length < 100000) (hpr : s.pr.length < 100000)
    (hQ : ∀ S', AfterP S0 S' p pp s' → Q .non S') : go K .Run_go_on [.obj p] S Q E := by
  obtain ⟨k, rfl⟩ : ∃ k, K = k + 1 := ⟨K - 1, by omega⟩
  rw [go_Run_go_on]
  unfold b_Run_go_on
  obtain ⟨pf, e1, e2, n1, c1, c2, c3⟩ := hm.cur
  have e2' : S pf = some (.lst (frP s.fs ++ [f.p])) := e2
  have m3 : RunAt S0 (DL.put S pf (.lst (frP s.fs))) p pp s.fs s.left s.pr v.p .non := c3 s.fs
  have e3 : DL.put S pf (.lst (frP s.fs)) p = some (.ins 0 (rf v.p pf s.left pp .non)) := by rw [put_ne n1]; exact e1
  have e4 : DL.put S pf (.lst (frP s.fs)) pf = some (.lst (frP s.fs)) := put_same
  have fr : ∀ {x : D}, (frP s.fs ++ [x]).length = s.fs.length + 1 := fun {x} => by rw [List.length_append, frP_len]; rfl
  simp [startD, ins_obj e1, lk_f, truD, asL_obj e2', tyD_lst e2', pop_obj e2', ins_obj e3, lk_c]
  have one : ∀ {c : Cur} {d : D}, some { s with cur := c } = some s' → (∀ r, c ≠ .dn r) → curP c = d → Q .non (DL.put (DL.put S pf (.lst (frP s.fs))) p (.ins 0 (rf d pf s.left pp .non))) := fun {c d} h1 h2 h3 => by
    cases h1
    subst h3
    exact hQ _ (.inr ⟨h2, c2 s.fs _ .non⟩)
  have two : ∀ {q : TM.Tm} {e : TM.Env} {kk : List Nat} {f' : TM.Fr} {d : D}, some { s with cur := .ev q e kk, fs := f' :: s.fs } = some s' → f'.p = d →
      (frP s.fs).length < lim ∧ Q .non (DL.put (DL.put S pf (.lst (frP s.fs ++ [d]))) p (.ins 0 (rf (sub e.ro q) pf s.left pp .non))) := fun {q e kk f' d} h1 h2 => by
    cases h1
    subst h2
    exact ⟨by rw [frP_len]; have : lim = 16777216 := rfl; omega, hQ _ (.inr ⟨fun _ z => (by cases z), c2 (f' :: s.fs) _ .non⟩)⟩
  have e5 : ∀ {l : List D}, DL.put S pf (.lst l) p = some (.ins 0 (rf v.p pf s.left pp .non)) := fun {l} => by rw [put_ne n1]; exact e1
  have a2 : ∀ {x : String} {T : Store} {R : QE}, x.length ≤ 8 → R (.str (x ++ "2")) T → dAdd (.str x) (.str "2") T R := fun {x T R} hx hr => by
    rw [r_addS]
    exact ⟨by have : ("2" : String).length = 1 := rfl; simp only [lim]; omega, hr⟩
  cases hfT with
  | @call1 Γ a b e kk _ _ he hb hg hl =>
    have := two (q := b) (e := e) h rfl
    simp [Fr.p, ins_obj e3, lk_f]
    refine ⟨tyD_lst e4, by simp only [lim]; decide, ?_⟩
    simp [app_obj e4, put_put, ins_obj e5, pt_c, rf_n]
    exact this
  | @pair1 Γ a b e kk _ _ he hb hg hl hdp =>
    have := two (q := b) (e := e) h rfl
    simp [Fr.p, ins_obj e3, lk_f]
    refine ⟨tyD_lst e4, by simp only [lim]; decide, ?_⟩
    simp [app_obj e4, put_put, ins_obj e5, pt_c, rf_n]
    exact this
  | @op1 Γ o a b e kk _ hs he hb hg hl =>
    have := two (q := b) (e := e) h rfl
    simp [Fr.p, ins_obj e3, lk_f, tyD_lst e4, app_obj e4, put_put, ins_obj e5, pt_c, rf_n]
    exact this
  | @lt1 Γ x a b e kk _ _ he hb hg hl =>
    simp [Fr.p]
    refine quoted_ok (K := k) (by omega) ?_
    refine put_in_ok (K := k) 40 hg hg.2 (by omega) ?_
    simp [ins_obj e3, pt_c, rf_n]
    rw [fill_cut]
    exact one (d := sub (TM.Env.cons x v e).ro b) h (fun _ z => (by cases z)) rfl
  | @han1 Γ a r b cs e kk _ _ he hb hg hcs hcg hl =>
    simp [Fr.p]
    refine quoted_ok (K := k) (by omega) ?_
    refine put_in_ok (K := k) 40 hg hg.2 (by omega) ?_
    simp [ins_obj e3, pt_c, rf_n]
    rw [fill_cut]
    exact one (d := sub (TM.Env.cons r v e).ro b) h (fun _ z => (by cases z)) rfl
  | @ite1 Γ a b c e kk _ he hb hc hg hg' hl =>
    cases hvT with
    | @bool z =>
      cases z with
      | true =>
        simp [Fr.p, Val.p, truD, ins_obj e3, pt_c, rf_n]
        exact one (d := sub e.ro b) h (fun _ z => (by cases z)) rfl
      | false =>
        simp [Fr.p, Val.p, truD, ins_obj e3, pt_c, rf_n]
        exact one (d := sub e.ro c) h (fun _ z => (by cases z)) rfl
  | @prt1 Γ a b e kk _ he hb hg hl =>
    cases hvT with
    | @int i hi =>
      have m4 := m3.prt i
      obtain ⟨pf', f1, f2, f3, f4, f5, f6⟩ := m4.cur
      have hlp : s.pr.length < lim := by have : lim = 16777216 := rfl; omega
      simp [Fr.p, Val.p, ins_obj e3, lk_p, tyD_lst m3.pr, app_obj m3.pr, hlp]
      rw [show List.map D.int s.pr ++ [D.int i] = (s.pr ++ [i]).map D.int by simp, ins_obj f1]
      show (rf _ _ _ _ _).length < 1000 ∧ _
      refine ⟨by rw [rf_n]; omega, ?_⟩
      rw [pt_c]
      cases h
      exact hQ _ (.inr ⟨fun _ z => (by cases z), f4 (sub e.ro b) .non⟩)
  | @ask1 Γ o a e kk _ _ he ho hl =>
    simp [Fr.p, ins_obj e3]
    refine ⟨no_f (by decide), ?_⟩
    exact ask_plain (K := k) (by omega) m3 h hF hl0 hQ
  | @nt1 Γ a e kk he hl =>
    cases hvT with
    | @bool z =>
      simp [Fr.p, ins_obj e3]
      refine ⟨no_f (by decide), ?_⟩
      refine single_law (K := k) (hd := "not") (v := .bool z) (by omega) (.inl ⟨rfl, z, rfl, rfl⟩) ?_
      simp [ins_obj e3, pt_c, rf_n]
      exact one h (fun _ z => (by cases z)) rfl
  | @fst1 Γ a e kk _ _ he hl =>
    cases hvT with
    | @pair x y _ _ hx hy _ =>
      simp [Fr.p, ins_obj e3]
      refine ⟨no_f (by decide), ?_⟩
      refine single_law (K := k) (hd := "fst") (v := .pair x y) (by omega) (.inr (.inl ⟨rfl, x, y, rfl, rfl⟩)) ?_
      simp [ins_obj e3, pt_c, rf_n]
      exact one h (fun _ z => (by cases z)) rfl
  | @snd1 Γ a e kk _ _ he hl =>
    cases hvT with
    | @pair x y _ _ hx hy _ =>
      simp [Fr.p, ins_obj e3]
      refine ⟨no_f (by decide), ?_⟩
      refine single_law (K := k) (hd := "snd") (v := .pair x y) (by omega) (.inr (.inr ⟨rfl, x, y, rfl, rfl⟩)) ?_
      simp [ins_obj e3, pt_c, rf_n]
      exact one h (fun _ z => (by cases z)) rfl
  | @op2 Γ o a b e u kk _ he hs hu hl =>
    cases hvT with
    | @int y hy =>
    cases hu with
    | @int x hx =>
      simp only [back] at h
      cases ew : oper o x y with
      | none => rw [ew] at h; cases h
      | some w =>
        rw [ew] at h
        simp [Fr.p, Val.p]
        refine operated_ok (K := k) (by omega) hx hy hs ew ?_
        simp [ins_obj e3, pt_c, rf_n]
        exact one h (fun _ z => (by cases z)) rfl
  | @pair2 Γ a b e u kk _ _ he hu hdp hl =>
    simp [Fr.p, ins_obj e3, pt_c, rf_n]
    exact one (c := .rt (.pair u v)) h (fun _ z => (by cases z)) (by simp [curP, Val.p])
  | @call2 Γ a b e u kk _ _ he hu hl =>
    simp [Fr.p, ins_obj e3]
    refine ⟨no_f (by decide), ?_⟩
    refine call_plain (K := k) (by omega) m3 h (fun f x b e he => ?_) hl' hQ
    subst he
    cases hu with
    | fn _ _ hg _ => exact hg
    | rc _ _ _ hg _ => exact hg
end Pg
namespace Pg
open PySem PySem.Spec PyProof.Rows L2 DL TM
theorem into_nodn {s s' : LS} {t : TM.Tm} {e : TM.Env} {k : List Nat} (h : into s t e k = some s') : ∀ r, s'.cur ≠ .dn r := by
  cases t <;> first
    | (cases h; exact fun _ z => by cases z)
    | (simp only [into] at h
       split at h
       · cases h; exact fun _ z => by cases z
       · cases h)
/-- where the outer loop of the plain run stands, m turns at most from its end -/
def WP (ops : Ops) (τ : TM.Ty) (C L : Nat) (u : LS) (S : Store) (p pp : Addr) (m : Nat) (S' : Store) : Prop :=
  (∃ n' s, m = n' + 1 ∧ Tr ops τ C L u n' s ∧ (∀ r, s.cur ≠ .dn r) ∧ RunAt S S' p pp s.fs s.left s.pr (curP s.cur) .non) ∨ (m = 0 ∧ ∃ r c fs l, u.res = some r ∧ RunAt S S' p pp fs l u.pr c (Res.d r))
theorem wp_after {ops : Ops} {τ : TM.Ty} {C L : Nat} {u : LS} {S S2 : Store} {p pp : Addr} {m n2 : Nat} {s1 : LS} (hlt : n2 + 1 < m) (htr : Tr ops τ C L u n2 s1) (ha : AfterP S S2 p pp s1) : ∃ m', m' < m ∧ WP ops τ C L u S p pp m' S2 := by
  rcases ha with ⟨r, c, fs, l, hc, hA⟩ | ⟨hnd1, hA⟩
  · have hres : s1.res = some r := by unfold LS.res; rw [hc]
    have : s1 = u := htr.end (by rw [hres]; simp)
    subst this
    exact ⟨0, by omega, .inr ⟨rfl, r, c, fs, l, hres, hA⟩⟩
  · exact ⟨n2 + 1, hlt, .inl ⟨n2, s1, rfl, htr, hnd1, hA⟩⟩
theorem wp_rt {ops : Ops} {τ : TM.Ty} {C L : Nat} {u : LS} {S S' : Store} {p pp : Addr} {m n2 K : Nat} {v : Val} {fs : List TM.Fr} {l : Nat} {pr : List Int} {a : List (String × String × String × TM.Tm)} {x : Nat} {E : XQ}
    (hP : ∀ o α β, ops.lookup o = some (α, β) → β.plain = true) (hC : C ≤ 164) (hL : L ≤ 60) (hτ : τ.dp ≤ 20) (hK : 70 ≤ K) (hlt : n2 < m) (htr : Tr ops τ C L u n2 ⟨.rt v, fs, l, pr, a, x⟩) (hA : RunAt S S' p pp fs l pr v.p .non) {Q : QE} (hN : ∀ S2, (∃ m', m' < m ∧ WP ops τ C L u S p pp m' S2) → Q .non S2) :
    go K .Run_go_on [.obj p] S' Q E := by
  have hok := htr.ok
  obtain ⟨mm, hm1, hm2, hm3, hm4⟩ := htr.sp
  have hpot := hm2.pot hC hL
  cases hok with
  | @rt _ _ _ _ _ _ σ hv hS hnod hlt2 hd =>
    cases fs with
    | nil =>
      cases hS
      have hres : (LS.res ⟨.rt v, [], l, pr, a, x⟩) = some (.val v) := rfl
      have eu := htr.end (by rw [hres]; simp)
      refine go_on_end (K := K) (s := ⟨.rt v, [], l, pr, a, x⟩) (by omega) (Nat.le_trans (pd_dp hv) hτ) hA fun S2 c hB => hN S2 ⟨0, by omega, .inr ⟨rfl, .val v, c, [], l, by rw [← eu]; rfl, ?_⟩⟩
      rw [← eu]; exact hB
    | cons f fs =>
      cases hS with
      | cons hF _ hS =>
      obtain ⟨s1, g1, g2, g3⟩ := step_ok hP htr.ok rfl
      obtain ⟨n3, e3, htr3⟩ := htr.go hP g1
      obtain ⟨mm3, hq1, hq2, hq3, hq4⟩ := htr3.sp
      have hpot3 := hq2.pot hC hL
      have hfl : (f :: fs).length ≤ _ := htr.ok.fslen fun r z => by cases z
      rw [List.length_cons] at hfl
      refine go_on_plain (K := K) (s := ⟨.rt v, fs, l, pr, a, x⟩) hK hA g1 hF hv (frPs_of hS) (show fs.length < _ by omega) (fun hnd => ?_) (show pr.length < _ by have : pr.length ≤ mm := hm3; omega) fun S2 hAf => hN S2 (wp_after (by omega) htr3 hAf)
      have := g2.fslen hnd
      omega
theorem wp_ev {ops : Ops} {τ : TM.Ty} {C L : Nat} {u : LS} {S S' : Store} {p pp : Addr} {m n2 K : Nat} {t1 : TM.Tm} {e1 : TM.Env} {k1 : List Nat} {fs : List TM.Fr} {l : Nat} {pr : List Int} {a : List (String × String × String × TM.Tm)} {x : Nat} {E : XQ}
    (hP : ∀ o α β, ops.lookup o = some (α, β) → β.plain = true) (hC : C ≤ 164) (hL : L ≤ 60) (hK : 70 ≤ K) (hlt : n2 < m) (htr : Tr ops τ C L u n2 ⟨.ev t1 e1 k1, fs, l, pr, a, x⟩) (hA : RunAt S S' p pp fs l pr (sub e1.ro t1) .non) (hl1 : lit t1 = false) {Q : QE} (hN : ∀ S2, (∃ m', m' < m ∧ WP ops τ C L u S p pp m' S2) → Q .non S2) :
    go K .Run_begin [.obj p] S' Q E := by
  obtain ⟨s1, g1, g2, g3⟩ := step_ok hP htr.ok rfl
  obtain ⟨n3, e3, htr3⟩ := htr.go hP g1
  have hfl : fs.length ≤ _ := htr.ok.fslen fun r z => by cases z
  obtain ⟨mm, hm1, hm2, hm3, hm4⟩ := htr.sp
  have hpot := hm2.pot hC hL
  exact begin_ok (K := K) (s := ⟨.ev t1 e1 k1, fs, l, pr, a, x⟩) (by omega) hA rfl hl1 (show fs.length < _ by omega) g1 fun S2 hB => hN S2 (wp_after (by omega) htr3 (.inr ⟨into_nodn g1, hB⟩))
end Pg
namespace Pg
open PySem PySem.Spec PyProof.Rows L2 DL TM
theorem run_plain_ok {ops : Ops} {τ : TM.Ty} {t : TM.Tm} {L K n : Nat} {u : LS} {S : Store} {Q : QE} {E : XQ} (hP : ∀ o α β, ops.lookup o = some (α, β) → β.plain = true) (ht : Has ops [] t τ) (hg : t.gd 96) (hC : t.cost ≤ 164) (hL : L ≤ 60) (hτ : τ.dp ≤ 20) (hK : 80 ≤ K)
    (hr : LRun n (start t L) u) (hn : n ≤ 94400)
    (hQ : ∀ r S', u.res = some r → (∀ q, S q ≠ none → S' q = S q) → Q (.tup [.tup (u.pr.map D.int), Res.d r]) S') : go K .run_plain [t.d, .int L] S Q E := by
  obtain ⟨k, rfl⟩ : ∃ k, K = k + 2 := ⟨K - 2, by omega⟩
  rw [show k + 2 = (k + 1) + 1 from rfl, go_run_plain]
  unfold b_run_plain
  simp [startD]
  intro p hp
  obtain ⟨j, rfl⟩ : ∃ j, k = j + 1 := ⟨k - 1, by omega⟩
  show go (j + 1) .Run_init _ _ _ _
  rw [go_Run_init]
  unfold b_Run_init
  have i0 : ∀ {T : Store} {l : List (String × D)}, DL.put T p (.ins 0 l) p = some (.ins 0 l) := fun {T l} => put_same
  simp [startD, ins_obj i0, putFD]
  intro pf hpf
  have npf : pf ≠ p := fun z => by subst z; rw [put_same] at hpf; cases hpf
  have e1 : ∀ {T : Store} {l m : List (String × D)} , DL.put (DL.put T p (.ins 0 l)) pf (.lst []) p = some (.ins 0 l) := fun {T l m} => by rw [put_ne npf.symm, put_same]
  simp [ins_obj (e1 (m := [])), ins_obj i0, putFD]
  intro pp hpp
  have npp : pp ≠ p := fun z => by subst z; rw [put_same] at hpp; cases hpp
  have npq : pp ≠ pf := fun z => by subst z; rw [put_ne npp, put_ne npp, put_same] at hpp; cases hpp
  have e2 : ∀ {T : Store} {l m : List (String × D)} , DL.put (DL.put T p (.ins 0 l)) pp (.lst []) p = some (.ins 0 l) := fun {T l m} => by rw [put_ne npp.symm, put_same]
  simp [ins_obj (e2 (m := [])), ins_obj i0, putFD]
  have hT : RunAt S (DL.put (DL.put (DL.put (DL.put (DL.put (DL.put (DL.put (DL.put S p (.ins 0 [])) p (.ins 0 [("current", t.d)])) pf (.lst [])) p
      (.ins 0 [("current", t.d), ("frames", .obj pf)])) p (.ins 0 [("current", t.d), ("frames", .obj pf), ("left", .int L)])) pp (.lst [])) p (.ins 0 [("current", t.d), ("frames", .obj pf), ("left", .int L), ("prints", .obj pp)])) p
      (.ins 0 [("current", t.d), ("frames", .obj pf), ("left", .int L), ("prints", .obj pp), ("end", .non)])) p pp [] L [] t.d .non := by
    have sp : S pf = none := by rw [put_ne npf, put_ne npf] at hpf; exact hpf
    have spp : S pp = none := by rw [put_ne npp, put_ne npp, put_ne npq, put_ne npp, put_ne npp] at hpp; exact hpp
    refine ⟨⟨pf, put_same, ?_, npf.symm, npq, sp⟩, ?_, npp.symm, fun q hq => ?_, hp, spp⟩
    · rw [put_ne npf, put_ne npf, put_ne npq.symm, put_ne npf, put_ne npf, put_same]; rfl
    · rw [put_ne npp, put_ne npp, put_same]; rfl
    · have q1 : q ≠ p := fun z => by subst z; exact hq hp
      have q2 : q ≠ pf := fun z => by subst z; exact hq sp
      have q3 : q ≠ pp := fun z => by subst z; exact hq spp
      rw [put_ne q1, put_ne q1, put_ne q3, put_ne q1, put_ne q1, put_ne q2, put_ne q1, put_ne q1]
  generalize (DL.put (DL.put (DL.put (DL.put (DL.put (DL.put (DL.put (DL.put S p (.ins 0 [])) p (.ins 0 [("current", t.d)])) pf (.lst [])) p
      (.ins 0 [("current", t.d), ("frames", .obj pf)])) p (.ins 0 [("current", t.d), ("frames", .obj pf), ("left", .int L)])) pp (.lst [])) p (.ins 0 [("current", t.d), ("frames", .obj pf), ("left", .int L), ("prints", .obj pp)])) p
      (.ins 0 [("current", t.d), ("frames", .obj pf), ("left", .int L), ("prints", .obj pp), ("end", .non)])) = T at hT ⊢
  have tr0 : Tr ops τ t.cost L u n (start t L) := ⟨hr, start_ok ht hg, ⟨0, by omega, Spent.start, Nat.le_refl 0, Nat.le_refl 0⟩, fun _ z => (by cases z)⟩
  refine while_ind (fun m σ S' => σ = [some t.d, some (.int L), some (.obj p)] ∧ WP ops τ t.cost L u S p pp m S')
    ⟨n + 1, rfl, .inl ⟨n, start t L, rfl, tr0, fun _ z => (by cases z), by
      show RunAt S T p pp [] L [] (sub TM.Env.nil.ro t) .non
      rw [sub_nil t TM.Env.nil.ro (fun _ => rfl)]; exact hT⟩⟩ ?_
  rintro m σ S' ⟨rfl, hW⟩
  rcases hW with ⟨n', s, hm, tr, hnd, hR⟩ | ⟨hm, r, c, fs, l, hres, hR⟩
  · obtain ⟨pf1, f1, f2, f3, _⟩ := hR.cur
    simp [ins_obj f1, lk_e, isNonD, lk_c]
    refine ⟨fun σ' S2 => σ' = [some t.d, some (.int L), some (.obj p)] ∧ ∃ m', m' < m ∧ WP ops τ t.cost L u S p pp m' S2, ?_, ?_⟩
    · rintro σ' S2 ⟨rfl, m', h1, h2⟩
      exact ⟨m', h1, rfl, h2⟩
    · have hins : ∀ (m : String), m ∉ ["current", "frames", "left", "prints", "end"] → ∀ {R : Prop}, R → (ofO (insD S' 0 (.obj p)) fun z => (∀ (a : String) (b : D), (a, b) ∈ z.snd → ¬ m = a) ∧ R) := fun m hm R hR => by
        rw [ins_obj f1]
        exact ⟨no_f hm, hR⟩
      obtain ⟨cur, fs, l, pr, a, x⟩ := s
      cases cur with
      | dn r => exact absurd rfl (hnd r)
      | rt v =>
        have hv20 : Val.pd v ≤ 20 := by
          cases tr.ok with
          | rt hv _ _ _ _ =>
            cases hv with
            | pair h1 h2 h3 => exact Nat.le_trans (pd_dp (.pair h1 h2 h3)) h3
            | _ => exact Nat.zero_le _
        refine isv_val v (K := j + 1 + 1) (by omega) ?_
        simp only [truD, ofO]
        exact hins "go_on" (by decide) (wp_rt (K := j + 1 + 1) hP hC hL hτ (by omega) (by omega) tr hR fun S2 h => ⟨trivial, h⟩)
      | ev t1 e1 k1 =>
        have hg1 : t1.gd 96 := by
          cases tr.ok with
          | ev _ _ hg _ _ _ _ _ => exact hg
        refine isv_tm t1 (K := j + 1 + 1) (by have := hg1.2; omega) ?_
        cases hl1 : lit t1 with
        | true =>
          simp only [truD, ofO]
          obtain ⟨n4, hn4, tr4⟩ := lit_run hP hl1 tr
          exact hins "go_on" (by decide) (wp_rt (K := j + 1 + 1) hP hC hL hτ (by omega) (by omega) tr4 (by rw [litv_p hl1 hg1]; exact hR) fun S2 h => ⟨trivial, h⟩)
        | false =>
          simp only [truD, ofO]
          exact hins "begin" (by decide) (wp_ev (K := j + 1 + 1) hP hC hL (by omega) (by omega) tr hR hl1 fun S2 h => ⟨trivial, h⟩)
  · obtain ⟨pf1, f1, f2, f3, _⟩ := hR.cur
    have hre : isNonD (Res.d r) = false := by cases r <;> rfl
    simp [ins_obj f1, lk_e, hre, lk_p, bTuple, asQ, asL_obj hR.pr]
    exact hQ r S' hres hR.old
end Pg
namespace Pg
open PySem PySem.Spec PyProof.Rows L2 DL TM
theorem sh_ok {ops : Ops} {B N : Nat} : ∀ {v : Val} {τ : TM.Ty}, VT ops B N v τ → flatT (Val.sh v) = true ∧ szD (Val.sh v) ≤ 120 * τ.nd ∧ depD (Val.sh v) ≤ τ.dp + 1
  | _, _, .int h => ⟨by simp [Val.sh, flatT, flatTs]; omega, by simp [Val.sh, szD, szDs, Ty.nd], by simp [Val.sh, depD, depDs]⟩
  | _, _, .bool => ⟨rfl, by simp [Val.sh, szD, szDs, Ty.nd], by simp [Val.sh, depD, depDs]⟩
  | _, _, .unit => ⟨rfl, by simp [Val.sh, szD, szDs, Ty.nd], by simp [Val.sh, depD, depDs]⟩
  | _, _, .pair a b _ => by
    obtain ⟨a1, a2, a3⟩ := sh_ok a
    obtain ⟨b1, b2, b3⟩ := sh_ok b
    refine ⟨by simp [Val.sh, flatT, flatTs, a1, b1], by simp [Val.sh, szD, szDs, Ty.nd]; omega, by simp [Val.sh, depD, depDs, Ty.dp]; omega⟩
  | _, _, .fn _ _ _ _ => ⟨rfl, by simp [Val.sh, szD, szDs, Ty.nd]; omega, by simp [Val.sh, depD, depDs]⟩
  | _, _, .rc _ _ _ _ _ => ⟨rfl, by simp [Val.sh, szD, szDs, Ty.nd]; omega, by simp [Val.sh, depD, depDs]⟩
  | _, _, .kept _ _ _ _ => ⟨rfl, by simp [Val.sh, szD, szDs, Ty.nd]; omega, by simp [Val.sh, depD, depDs]⟩
theorem res_ok {ops : Ops} {B : Nat} {τ : TM.Ty} {u : LS} {r : Res} (ok : StOk ops B τ u) (hp : PrOk u) (h : u.res = some r) (hv : ∀ v, u.cur ≠ .dn (.val v)) : flatT (Res.d r) = true ∧ szD (Res.d r) ≤ 120 * τ.nd + 200 ∧ depD (Res.d r) ≤ τ.dp + 2 := by
  cases ok with
  | ev => cases h
  | dn =>
    cases h
    cases r with
    | steps => exact ⟨rfl, by simp [Res.d, szD, szDs], by simp [Res.d, depD, depDs]⟩
    | unhandled o =>
      have := hp.2 o rfl
      exact ⟨rfl, by simp [Res.d, szD, szDs]; omega, by simp [Res.d, depD, depDs]⟩
    | val v => exact absurd rfl (hv v)
  | rt hvt hst _ _ _ =>
    cases hst with
    | nil =>
      cases h
      obtain ⟨a1, a2, a3⟩ := sh_ok hvt
      exact ⟨by simp [Res.d, flatT, flatTs, a1], by simp [Res.d, szD, szDs]; omega, by simp [Res.d, depD, depDs]; omega⟩
    | cons => cases h
theorem ints_ok : ∀ l : List Int, (∀ i ∈ l, i.natAbs < 2 ^ 32) → flatTs (l.map D.int) = true ∧ szDs (l.map D.int) ≤ 72 * l.length ∧ depDs (l.map D.int) = 0
  | [], _ => ⟨rfl, by simp [szDs], rfl⟩
  | i :: l, h => by
    have hi := h i (by simp)
    obtain ⟨a, b, c⟩ := ints_ok l fun j hj => h j (by simp [hj])
    exact ⟨by simp [flatTs, flatT, a]; omega, by simp [szDs, szD]; omega, by simp [depDs, depD, c]⟩
theorem told_ok {ops : Ops} {B : Nat} {τ : TM.Ty} {u : LS} {r : Res} (ok : StOk ops B τ u) (hp : PrOk u) (h : u.res = some r) (hv : ∀ v, u.cur ≠ .dn (.val v)) (hl : u.pr.length ≤ 100000) (hn : τ.nd ≤ 7) (hd : τ.dp ≤ 2) : OkRepr [.tup (u.pr.map D.int), Res.d r] := by
  obtain ⟨a1, a2, a3⟩ := res_ok ok hp h hv
  obtain ⟨b1, b2, b3⟩ := ints_ok u.pr hp.1
  refine okRepr_of (by simp [flatT, flatTs, a1, b1]) (by simp [depDs, depD, b3]; omega) ?_
  have e : lim = 16777216 := rfl
  simp [szD, szDs]; omega
theorem run_val : ∀ {n : Nat} {s u : LS}, LRun n s u → (∀ v, s.cur ≠ .dn (.val v)) → ∀ v, u.cur ≠ .dn (.val v)
  | _, _, _, .done _, h => h
  | _, _, _, .step h r, _ => run_val r (step_adds h).2.2
theorem look_mem {ops : Ops} {o : String} {p : TM.Ty × TM.Ty} (h : ops.lookup o = some p) : (o, p) ∈ ops := by
  induction ops with
  | nil => cases h
  | cons q l ih =>
    rw [List.lookup_cons] at h
    by_cases c : o = q.1
    · subst c
      simp at h
      subst h
      exact List.mem_cons_self
    · rw [beq_eq_false_iff_ne.mpr c] at h
      exact List.mem_cons_of_mem _ (ih h)
theorem isi_tup {S : Store} {l : List D} {Q : QE} : bIsi [.tup l, .ty "tuple"] S Q = Q (.bl true) S := by
  unfold bIsi tyOfD
  simp only [r_ofO]
  rw [show kitB "tuple" "tuple" = some true by decide]; exact propext Iff.rfl
theorem law_ok (m : Nat) : LawD (lawW (m + 100)) := by
  intro x ns hx hl
  rw [go_law]
  unfold b_law
  simp [startD]
  refine state_ok (k := m + 99) hx hl fun S0 ps pc st0 => ?_
  refine program_ok st0 (by omega) fun ops t τ S1 hP n1 => ?_
  obtain ⟨l, el⟩ := t.tupD
  have hpl : ∀ o α β, ops.lookup o = some (α, β) → β.plain = true := fun o α β h => (hP.os.pl _ (look_mem h)).2
  have hsh : ∀ o p, ops.lookup o = some p → o.length ≤ 8 := fun o p h => hP.os.short (o := (o, p)) (look_mem h)
  have hnd : τ.nd ≤ 7 := by
    have := Nat.le_trans τ.nd_dp (Nat.pow_le_pow_right (by omega) (show τ.dp + 1 ≤ 3 by have := hP.kd; omega))
    omega
  have hrep : OkRepr l := by
    obtain ⟨f1, f2⟩ := t.flat (P := P17) (fun x h => h.len) hP.ok
    have f3 := t.okN.2
    have hs := hP.sz
    have hdep := hP.dep
    rw [el] at f1 f2 f3
    refine okRepr_of f1 ?_ ?_
    · have e : depD (.tup l) = depDs l + 1 := by simp [depD]
      omega
    · have e : lim = 16777216 := rfl
      omega
  simp
  rw [el]
  simp
  refine ⟨hrep, ?_⟩
  refine take_g (m := 61) n1.1 (by omega) (by omega) (by omega) fun r1 S2 hr1 n2 => ?_
  refine take_g (m := 8) n2.1 (by omega) (by omega) (by omega) fun r2 S3 hr2 n3 => ?_
  rw [show [D.int (r1 : Int), D.int (r2 : Int)] = [r1, r2].map (fun i : Nat => D.int (i : Int)) from rfl]
  refine for_indM (fun i : Nat => D.int (i : Int)) (I := fun dn r' σ S' => ∃ a4 a5 a6, σ = [some x, some (.obj ps), some (.tup l), some (.str (reprS l)), a4, a5, a6]) [r1, r2] (fun _ _ _ _ _ => rfl) ?st ?fn ⟨none, none, none, rfl⟩
  case fn =>
    rintro σ S' ⟨a4, a5, a6, rfl⟩
    simp [hrep]
  case st =>
    rintro dn L r' σ S4 N e ⟨a4, a5, a6, rfl⟩ hN
    have hL : L ≤ 60 := by
      have : L ∈ [r1, r2] := by rw [← e]; simp
      simp at this
      omega
    obtain ⟨n, u, hrun, hn, ok⟩ := ends hpl hP.ty hP.gd hP.cost hL
    have h0 : PrOk (start t L) := ⟨by simp [TM.start], fun _ z => by cases z⟩
    obtain ⟨_, pok, hlen, _⟩ := run_pr hpl hsh hrun (start_ok hP.ty hP.gd) h0
    have hv := run_val hrun fun _ z => by cases z
    have hlen : u.pr.length ≤ 100000 := by simp [TM.start] at hlen; omega
    simp
    rw [← el]
    refine outcome_ok hpl hP.ty hP.gd hP.cost hL (by have := hP.kd; omega) (by omega) hrun hn fun r S5 hr k1 => ?_
    refine run_plain_ok hpl hP.ty hP.gd hP.cost hL (by have := hP.kd; omega) (by omega) hrun hn fun r2 S6 hr2 k2 => ?_
    rw [hr] at hr2
    cases hr2
    have ht := told_ok ok pok hr hv hlen hnd hP.kd
    simp [isi_tup, ht]
    rw [el]
    exact hN _ _ ⟨_, _, _, rfl⟩
end Pg
namespace Pg
open PySem PySem.Spec PyProof.Rows L2 DL
/-! ### the head -/
def dd_parts : He.DefD := ⟨("parts", none), "parts", "parts", defArgs s_parts, defBody s_parts, defScope s_parts, [], []⟩
def dd_with_parts : He.DefD := ⟨("with_parts", none), "with_parts", "with_parts", defArgs s_with_parts, defBody s_with_parts, defScope s_with_parts, [], []⟩
def dd_bound_names : He.DefD := ⟨("bound_names", none), "bound_names", "bound_names", defArgs s_bound_names, defBody s_bound_names, defScope s_bound_names, [], []⟩
def dd_put_in : He.DefD := ⟨("put_in", none), "put_in", "put_in", defArgs s_put_in, defBody s_put_in, defScope s_put_in, [], []⟩
def dd_operated : He.DefD := ⟨("operated", none), "operated", "operated", defArgs s_operated, defBody s_operated, defScope s_operated, [], []⟩
def dd_is_value : He.DefD := ⟨("is_value", none), "is_value", "is_value", defArgs s_is_value, defBody s_is_value, defScope s_is_value, [], []⟩
def dd_shape : He.DefD := ⟨("shape", none), "shape", "shape", defArgs s_shape, defBody s_shape, defScope s_shape, [], []⟩
def dd_quoted : He.DefD := ⟨("quoted", none), "quoted", "quoted", defArgs s_quoted, defBody s_quoted, defScope s_quoted, [], []⟩
def dd_Run_init : He.DefD := ⟨("Run", some "__init__"), "__init__", "Run.__init__", defArgs s_Run_init, defBody s_Run_init, defScope s_Run_init, [], []⟩
def dd_Run_counted : He.DefD := ⟨("Run", some "counted"), "counted", "Run.counted", defArgs s_Run_counted, defBody s_Run_counted, defScope s_Run_counted, [], []⟩
def dd_Run_begin : He.DefD := ⟨("Run", some "begin"), "begin", "Run.begin", defArgs s_Run_begin, defBody s_Run_begin, defScope s_Run_begin, [], []⟩
def dd_Run_go_on : He.DefD := ⟨("Run", some "go_on"), "go_on", "Run.go_on", defArgs s_Run_go_on, defBody s_Run_go_on, defScope s_Run_go_on, [], []⟩
def dd_Run_single : He.DefD := ⟨("Run", some "single"), "single", "Run.single", defArgs s_Run_single, defBody s_Run_single, defScope s_Run_single, [], []⟩
def dd_Run_call : He.DefD := ⟨("Run", some "call"), "call", "Run.call", defArgs s_Run_call, defBody s_Run_call, defScope s_Run_call, [], []⟩
def dd_Run_ask : He.DefD := ⟨("Run", some "ask"), "ask", "Run.ask", defArgs s_Run_ask, defBody s_Run_ask, defScope s_Run_ask, [], []⟩
def dd_Run_answer : He.DefD := ⟨("Run", some "answer"), "answer", "Run.answer", defArgs s_Run_answer, defBody s_Run_answer, defScope s_Run_answer, [], []⟩
def dd_run_plain : He.DefD := ⟨("run_plain", none), "run_plain", "run_plain", defArgs s_run_plain, defBody s_run_plain, defScope s_run_plain, [], []⟩
def dd_law_state : He.DefD := ⟨("_law_state", none), "_law_state", "_law_state", defArgs s_law_state, defBody s_law_state, defScope s_law_state, [], []⟩
def dd_law_take : He.DefD := ⟨("_law_take", none), "_law_take", "_law_take", defArgs s_law_take, defBody s_law_take, defScope s_law_take, [], []⟩
def dd_law_kind : He.DefD := ⟨("_law_kind", none), "_law_kind", "_law_kind", defArgs s_law_kind, defBody s_law_kind, defScope s_law_kind, [], []⟩
def dd_law_operations : He.DefD := ⟨("_law_operations", none), "_law_operations", "_law_operations", defArgs s_law_operations, defBody s_law_operations, defScope s_law_operations, [], []⟩
def dd_law_leaf : He.DefD := ⟨("_law_leaf", none), "_law_leaf", "_law_leaf", defArgs s_law_leaf, defBody s_law_leaf, defScope s_law_leaf, [], []⟩
def dd_law_special : He.DefD := ⟨("_law_special", none), "_law_special", "_law_special", defArgs s_law_special, defBody s_law_special, defScope s_law_special, [], []⟩
def dd_law_asking : He.DefD := ⟨("_law_asking", none), "_law_asking", "_law_asking", defArgs s_law_asking, defBody s_law_asking, defScope s_law_asking, [], []⟩
def dd_law_clause : He.DefD := ⟨("_law_clause", none), "_law_clause", "_law_clause", defArgs s_law_clause, defBody s_law_clause, defScope s_law_clause, [], []⟩
def dd_law_handling : He.DefD := ⟨("_law_handling", none), "_law_handling", "_law_handling", defArgs s_law_handling, defBody s_law_handling, defScope s_law_handling, [], []⟩
def dd_law_loop : He.DefD := ⟨("_law_loop", none), "_law_loop", "_law_loop", defArgs s_law_loop, defBody s_law_loop, defScope s_law_loop, [], []⟩
def dd_law_tree : He.DefD := ⟨("_law_tree", none), "_law_tree", "_law_tree", defArgs s_law_tree, defBody s_law_tree, defScope s_law_tree, [], []⟩
def dd_law_program : He.DefD := ⟨("_law_program", none), "_law_program", "_law_program", defArgs s_law_program, defBody s_law_program, defScope s_law_program, [], []⟩
def dd_law_find : He.DefD := ⟨("_law_find", none), "_law_find", "_law_find", defArgs s_law_find, defBody s_law_find, defScope s_law_find, [], []⟩
def dd_law_operate : He.DefD := ⟨("_law_operate", none), "_law_operate", "_law_operate", defArgs s_law_operate, defBody s_law_operate, defScope s_law_operate, [], []⟩
def dd_law_into : He.DefD := ⟨("_law_into", none), "_law_into", "_law_into", defArgs s_law_into, defBody s_law_into, defScope s_law_into, [], []⟩
def dd_law_second : He.DefD := ⟨("_law_second", none), "_law_second", "_law_second", defArgs s_law_second, defBody s_law_second, defScope s_law_second, [], []⟩
def dd_law_asked : He.DefD := ⟨("_law_asked", none), "_law_asked", "_law_asked", defArgs s_law_asked, defBody s_law_asked, defScope s_law_asked, [], []⟩
def dd_law_back : He.DefD := ⟨("_law_back", none), "_law_back", "_law_back", defArgs s_law_back, defBody s_law_back, defScope s_law_back, [], []⟩
def dd_law_shape : He.DefD := ⟨("_law_shape", none), "_law_shape", "_law_shape", defArgs s_law_shape, defBody s_law_shape, defScope s_law_shape, [], []⟩
def dd_law_outcome : He.DefD := ⟨("_law_outcome", none), "_law_outcome", "_law_outcome", defArgs s_law_outcome, defBody s_law_outcome, defScope s_law_outcome, [], []⟩
def dd_law : He.DefD := ⟨("law", none), "law", "law", defArgs s_law, defBody s_law, defScope s_law, [], []⟩
def dds_0 : List He.DefD := [dd_parts, dd_with_parts, dd_bound_names, dd_put_in, dd_operated, dd_is_value, dd_shape, dd_quoted, dd_Run_init, dd_Run_counted, dd_Run_begin, dd_Run_go_on, dd_Run_single, dd_Run_call, dd_Run_ask, dd_Run_answer, dd_run_plain, dd_law_state, dd_law_take, dd_law_kind, dd_law_operations, dd_law_leaf, dd_law_special, dd_law_asking, dd_law_clause, dd_law_handling, dd_law_loop, dd_law_tree, dd_law_program, dd_law_find]
def dds_1 : List He.DefD := [dd_law_operate, dd_law_into, dd_law_second, dd_law_asked, dd_law_back, dd_law_shape, dd_law_outcome, dd_law]
def dds : List He.DefD := dds_0 ++ dds_1
def exK (K : PySem.W.Frag) : Bool := He.tupB K "LEAVES" ((["num", "flag", "unit", "name", "kept", "quoted"] : List String).map fun s => He.Dv.str (Str.ofString s)) && (He.tupB K "UNIT" ((["unit"] : List String).map fun s => He.Dv.str (Str.ofString s)) && (true))
def fas_0 : List He.Fa := [(.glo "parts"), (.glo "with_parts"), (.glo "bound_names"), (.glo "put_in"), (.glo "operated"), (.glo "is_value"), (.glo "shape"), (.glo "quoted"), (.glo "run_plain"), (.glo "_law_state"), (.glo "_law_take"), (.glo "_law_kind"), (.glo "_law_operations"), (.glo "_law_leaf"), (.glo "_law_special"), (.glo "_law_asking"), (.glo "_law_clause"), (.glo "_law_handling"), (.glo "_law_loop"), (.glo "_law_tree"), (.glo "_law_program"), (.glo "_law_find"), (.glo "_law_operate"), (.glo "_law_into"), (.glo "_law_second"), (.glo "_law_asked"), (.glo "_law_back"), (.glo "_law_shape"), (.glo "_law_outcome"), (.glo "law")]
def fas_1 : List He.Fa := [(.cls "Run"), (.glo "Run"), (.mkr "Run"), (.meth "Run" "answer"), (.meth "Run" "ask"), (.meth "Run" "begin"), (.meth "Run" "call"), (.meth "Run" "counted"), (.meth "Run" "go_on"), (.meth "Run" "single"), (.noat "Run" "current"), (.noat "Run" "end"), (.noat "Run" "frames"), (.noat "Run" "left"), (.noat "Run" "prints"), (.free "abs"), (.free "int"), (.free "isinstance"), (.free "len"), (.free "list"), (.free "range"), (.free "repr"), (.free "reversed"), (.free "str"), (.free "tuple"), (.free "zip"), (.int "HALF" 2147483648), (.glo "LEAVES"), (.glo "UNIT")]
def fas : List He.Fa := fas_0 ++ fas_1
def loose_0 : List Str := ["LEAVES", "parts", "with_parts", "bound_names", "put_in", "UNIT", "HALF", "operated", "is_value", "shape", "quoted", "Run", "run_plain", "_law_state", "_law_take", "_law_kind", "_law_operations", "_law_leaf", "_law_special", "_law_asking", "_law_clause", "_law_handling", "_law_loop", "_law_tree", "_law_program", "_law_find", "_law_operate", "_law_into", "_law_second", "_law_asked"]
def loose_1 : List Str := ["_law_back", "_law_shape", "_law_outcome"]
def loose : List Str := loose_0 ++ loose_1
abbrev R : PySem.W.OpenRow := PySem.W.OpenLaw.row PySem.Challenge.rw_askedfor_k10_plain_meaning
abbrev hk : PySem.W.Hook := hookZ 5 fas dds exK
def ob (s : PySem.W.SharedT) : He.AlD × Bool := obsZG 5 fas dds exK (HandSHeadRun.getT s)
theorem ob_eq (s : PySem.W.SharedT) : ob s = hk.obs s.abs := obsZG_eq (HandSHeadRun.getT_eq s)
theorem run (w : World) : HandSHeadRun.RunEq R (PySem.W.view R.prog [36]) hk ob 2680 loose w := by
  intro os
  kernel_rfl
def faK (K : PySem.W.Frag) : Fn → Addr
  | .parts => He.fAd K ("parts", none)
  | .with_parts => He.fAd K ("with_parts", none)
  | .bound_names => He.fAd K ("bound_names", none)
  | .put_in => He.fAd K ("put_in", none)
  | .operated => He.fAd K ("operated", none)
  | .is_value => He.fAd K ("is_value", none)
  | .shape => He.fAd K ("shape", none)
  | .quoted => He.fAd K ("quoted", none)
  | .Run_init => He.fAd K ("Run", some "__init__")
  | .Run_counted => He.fAd K ("Run", some "counted")
  | .Run_begin => He.fAd K ("Run", some "begin")
  | .Run_go_on => He.fAd K ("Run", some "go_on")
  | .Run_single => He.fAd K ("Run", some "single")
  | .Run_call => He.fAd K ("Run", some "call")
  | .Run_ask => He.fAd K ("Run", some "ask")
  | .Run_answer => He.fAd K ("Run", some "answer")
  | .run_plain => He.fAd K ("run_plain", none)
  | .law_state => He.fAd K ("_law_state", none)
  | .law_take => He.fAd K ("_law_take", none)
  | .law_kind => He.fAd K ("_law_kind", none)
  | .law_operations => He.fAd K ("_law_operations", none)
  | .law_leaf => He.fAd K ("_law_leaf", none)
  | .law_special => He.fAd K ("_law_special", none)
  | .law_asking => He.fAd K ("_law_asking", none)
  | .law_clause => He.fAd K ("_law_clause", none)
  | .law_handling => He.fAd K ("_law_handling", none)
  | .law_loop => He.fAd K ("_law_loop", none)
  | .law_tree => He.fAd K ("_law_tree", none)
  | .law_program => He.fAd K ("_law_program", none)
  | .law_find => He.fAd K ("_law_find", none)
  | .law_operate => He.fAd K ("_law_operate", none)
  | .law_into => He.fAd K ("_law_into", none)
  | .law_second => He.fAd K ("_law_second", none)
  | .law_asked => He.fAd K ("_law_asked", none)
  | .law_back => He.fAd K ("_law_back", none)
  | .law_shape => He.fAd K ("_law_shape", none)
  | .law_outcome => He.fAd K ("_law_outcome", none)
  | .law => He.fAd K ("law", none)
def caK (K : PySem.W.Frag) : Nat → Addr
  | 0 => He.ga K "Run"
  | _ => 0
theorem facts {K : PySem.W.Frag} {h : Heap} {mg : Str → Option Value} (X : K.In h) (G : h.Ns mainGlobals mg) (cz : SaysZ fas dds exK K) :
    ∃ fd : Fn → FuncData, Tx K mg (caK K) (faK K) fd ∧ ∀ (s : Shared) (v : Value), BindsTo s (fd .law) ⟨[v], []⟩ [("_law_script", v)] := by
  obtain ⟨c, ce⟩ := cz
  obtain ⟨e0, F0⟩ := c.def_ 0 (d := dd_parts) rfl
  obtain ⟨e1, F1⟩ := c.def_ 1 (d := dd_with_parts) rfl
  obtain ⟨e2, F2⟩ := c.def_ 2 (d := dd_bound_names) rfl
  obtain ⟨e3, F3⟩ := c.def_ 3 (d := dd_put_in) rfl
  obtain ⟨e4, F4⟩ := c.def_ 4 (d := dd_operated) rfl
  obtain ⟨e5, F5⟩ := c.def_ 5 (d := dd_is_value) rfl
  obtain ⟨e6, F6⟩ := c.def_ 6 (d := dd_shape) rfl
  obtain ⟨e7, F7⟩ := c.def_ 7 (d := dd_quoted) rfl
  obtain ⟨e8, F8⟩ := c.def_ 8 (d := dd_Run_init) rfl
  obtain ⟨e9, F9⟩ := c.def_ 9 (d := dd_Run_counted) rfl
  obtain ⟨e10, F10⟩ := c.def_ 10 (d := dd_Run_begin) rfl
  obtain ⟨e11, F11⟩ := c.def_ 11 (d := dd_Run_go_on) rfl
  obtain ⟨e12, F12⟩ := c.def_ 12 (d := dd_Run_single) rfl
  obtain ⟨e13, F13⟩ := c.def_ 13 (d := dd_Run_call) rfl
  obtain ⟨e14, F14⟩ := c.def_ 14 (d := dd_Run_ask) rfl
  obtain ⟨e15, F15⟩ := c.def_ 15 (d := dd_Run_answer) rfl
  obtain ⟨e16, F16⟩ := c.def_ 16 (d := dd_run_plain) rfl
  obtain ⟨e17, F17⟩ := c.def_ 17 (d := dd_law_state) rfl
  obtain ⟨e18, F18⟩ := c.def_ 18 (d := dd_law_take) rfl
  obtain ⟨e19, F19⟩ := c.def_ 19 (d := dd_law_kind) rfl
  obtain ⟨e20, F20⟩ := c.def_ 20 (d := dd_law_operations) rfl
  obtain ⟨e21, F21⟩ := c.def_ 21 (d := dd_law_leaf) rfl
  obtain ⟨e22, F22⟩ := c.def_ 22 (d := dd_law_special) rfl
  obtain ⟨e23, F23⟩ := c.def_ 23 (d := dd_law_asking) rfl
  obtain ⟨e24, F24⟩ := c.def_ 24 (d := dd_law_clause) rfl
  obtain ⟨e25, F25⟩ := c.def_ 25 (d := dd_law_handling) rfl
  obtain ⟨e26, F26⟩ := c.def_ 26 (d := dd_law_loop) rfl
  obtain ⟨e27, F27⟩ := c.def_ 27 (d := dd_law_tree) rfl
  obtain ⟨e28, F28⟩ := c.def_ 28 (d := dd_law_program) rfl
  obtain ⟨e29, F29⟩ := c.def_ 29 (d := dd_law_find) rfl
  obtain ⟨e30, F30⟩ := c.def_ 30 (d := dd_law_operate) rfl
  obtain ⟨e31, F31⟩ := c.def_ 31 (d := dd_law_into) rfl
  obtain ⟨e32, F32⟩ := c.def_ 32 (d := dd_law_second) rfl
  obtain ⟨e33, F33⟩ := c.def_ 33 (d := dd_law_asked) rfl
  obtain ⟨e34, F34⟩ := c.def_ 34 (d := dd_law_back) rfl
  obtain ⟨e35, F35⟩ := c.def_ 35 (d := dd_law_shape) rfl
  obtain ⟨e36, F36⟩ := c.def_ 36 (d := dd_law_outcome) rfl
  obtain ⟨e37, F37⟩ := c.def_ 37 (d := dd_law) rfl
  refine ⟨fun f => match f with
    | .parts => e0
    | .with_parts => e1
    | .bound_names => e2
    | .put_in => e3
    | .operated => e4
    | .is_value => e5
    | .shape => e6
    | .quoted => e7
    | .Run_init => e8
    | .Run_counted => e9
    | .Run_begin => e10
    | .Run_go_on => e11
    | .Run_single => e12
    | .Run_call => e13
    | .Run_ask => e14
    | .Run_answer => e15
    | .run_plain => e16
    | .law_state => e17
    | .law_take => e18
    | .law_kind => e19
    | .law_operations => e20
    | .law_leaf => e21
    | .law_special => e22
    | .law_asking => e23
    | .law_clause => e24
    | .law_handling => e25
    | .law_loop => e26
    | .law_tree => e27
    | .law_program => e28
    | .law_find => e29
    | .law_operate => e30
    | .law_into => e31
    | .law_second => e32
    | .law_asked => e33
    | .law_back => e34
    | .law_shape => e35
    | .law_outcome => e36
    | .law => e37
    , ?_, ?_⟩
  · exact {
      f_parts := fun_of F0
      b_parts := FunD.bindsN (ps := ["expression"]) F0 fun _ _ _ _ _ _ us hl => match us, hl with | [_], _ => rfl
      f_with_parts := fun_of F1
      b_with_parts := FunD.bindsN (ps := ["expression", "inner"]) F1 fun _ _ _ _ _ _ us hl => match us, hl with | [_, _], _ => rfl
      f_bound_names := fun_of F2
      b_bound_names := FunD.bindsN (ps := ["expression"]) F2 fun _ _ _ _ _ _ us hl => match us, hl with | [_], _ => rfl
      f_put_in := fun_of F3
      b_put_in := FunD.bindsN (ps := ["expression", "name", "tree"]) F3 fun _ _ _ _ _ _ us hl => match us, hl with | [_, _, _], _ => rfl
      f_operated := fun_of F4
      b_operated := FunD.bindsN (ps := ["sign", "one", "two"]) F4 fun _ _ _ _ _ _ us hl => match us, hl with | [_, _, _], _ => rfl
      f_is_value := fun_of F5
      b_is_value := FunD.bindsN (ps := ["tree"]) F5 fun _ _ _ _ _ _ us hl => match us, hl with | [_], _ => rfl
      f_shape := fun_of F6
      b_shape := FunD.bindsN (ps := ["value"]) F6 fun _ _ _ _ _ _ us hl => match us, hl with | [_], _ => rfl
      f_quoted := fun_of F7
      b_quoted := FunD.bindsN (ps := ["value"]) F7 fun _ _ _ _ _ _ us hl => match us, hl with | [_], _ => rfl
      f_Run_init := fun_of F8
      b_Run_init := FunD.bindsN (ps := ["self", "expression", "steps"]) F8 fun _ _ _ _ _ _ us hl => match us, hl with | [_, _, _], _ => rfl
      f_Run_counted := fun_of F9
      b_Run_counted := FunD.bindsN (ps := ["self"]) F9 fun _ _ _ _ _ _ us hl => match us, hl with | [_], _ => rfl
      f_Run_begin := fun_of F10
      b_Run_begin := FunD.bindsN (ps := ["self"]) F10 fun _ _ _ _ _ _ us hl => match us, hl with | [_], _ => rfl
      f_Run_go_on := fun_of F11
      b_Run_go_on := FunD.bindsN (ps := ["self"]) F11 fun _ _ _ _ _ _ us hl => match us, hl with | [_], _ => rfl
      f_Run_single := fun_of F12
      b_Run_single := FunD.bindsN (ps := ["self", "head", "value"]) F12 fun _ _ _ _ _ _ us hl => match us, hl with | [_, _, _], _ => rfl
      f_Run_call := fun_of F13
      b_Run_call := FunD.bindsN (ps := ["self", "function", "argument"]) F13 fun _ _ _ _ _ _ us hl => match us, hl with | [_, _, _], _ => rfl
      f_Run_ask := fun_of F14
      b_Run_ask := FunD.bindsN (ps := ["self", "name", "value"]) F14 fun _ _ _ _ _ _ us hl => match us, hl with | [_, _, _], _ => rfl
      f_Run_answer := fun_of F15
      b_Run_answer := FunD.bindsN (ps := ["self", "place", "clause", "value"]) F15 fun _ _ _ _ _ _ us hl => match us, hl with | [_, _, _, _], _ => rfl
      f_run_plain := fun_of F16
      b_run_plain := FunD.bindsN (ps := ["expression", "steps"]) F16 fun _ _ _ _ _ _ us hl => match us, hl with | [_, _], _ => rfl
      f_law_state := fun_of F17
      b_law_state := FunD.bindsN (ps := ["_law_script"]) F17 fun _ _ _ _ _ _ us hl => match us, hl with | [_], _ => rfl
      f_law_take := fun_of F18
      b_law_take := FunD.bindsN (ps := ["_law_state_here", "_law_most"]) F18 fun _ _ _ _ _ _ us hl => match us, hl with | [_, _], _ => rfl
      f_law_kind := fun_of F19
      b_law_kind := FunD.bindsN (ps := ["_law_state_here", "_law_depth"]) F19 fun _ _ _ _ _ _ us hl => match us, hl with | [_, _], _ => rfl
      f_law_operations := fun_of F20
      b_law_operations := FunD.bindsN (ps := ["_law_state_here"]) F20 fun _ _ _ _ _ _ us hl => match us, hl with | [_], _ => rfl
      f_law_leaf := fun_of F21
      b_law_leaf := FunD.bindsN (ps := ["_law_state_here", "_law_known", "_law_wanted"]) F21 fun _ _ _ _ _ _ us hl => match us, hl with | [_, _, _], _ => rfl
      f_law_special := fun_of F22
      b_law_special := FunD.bindsN (ps := ["_law_state_here", "_law_ops", "_law_known", "_law_wanted", "_law_depth"]) F22 fun _ _ _ _ _ _ us hl => match us, hl with | [_, _, _, _, _], _ => rfl
      f_law_asking := fun_of F23
      b_law_asking := FunD.bindsN (ps := ["_law_state_here", "_law_ops", "_law_known", "_law_wanted", "_law_depth"]) F23 fun _ _ _ _ _ _ us hl => match us, hl with | [_, _, _, _, _], _ => rfl
      f_law_clause := fun_of F24
      b_law_clause := FunD.bindsN (ps := ["_law_state_here", "_law_ops", "_law_known", "_law_wanted", "_law_depth", "_law_operation"]) F24 fun _ _ _ _ _ _ us hl => match us, hl with | [_, _, _, _, _, _], _ => rfl
      f_law_handling := fun_of F25
      b_law_handling := FunD.bindsN (ps := ["_law_state_here", "_law_ops", "_law_known", "_law_wanted", "_law_depth"]) F25 fun _ _ _ _ _ _ us hl => match us, hl with | [_, _, _, _, _], _ => rfl
      f_law_loop := fun_of F26
      b_law_loop := FunD.bindsN (ps := ["_law_state_here", "_law_ops", "_law_known", "_law_wanted", "_law_depth"]) F26 fun _ _ _ _ _ _ us hl => match us, hl with | [_, _, _, _, _], _ => rfl
      f_law_tree := fun_of F27
      b_law_tree := FunD.bindsN (ps := ["_law_state_here", "_law_ops", "_law_known", "_law_wanted", "_law_depth"]) F27 fun _ _ _ _ _ _ us hl => match us, hl with | [_, _, _, _, _], _ => rfl
      f_law_program := fun_of F28
      b_law_program := FunD.bindsN (ps := ["_law_state_here"]) F28 fun _ _ _ _ _ _ us hl => match us, hl with | [_], _ => rfl
      f_law_find := fun_of F29
      b_law_find := FunD.bindsN (ps := ["_law_env", "_law_name"]) F29 fun _ _ _ _ _ _ us hl => match us, hl with | [_, _], _ => rfl
      f_law_operate := fun_of F30
      b_law_operate := FunD.bindsN (ps := ["_law_sign", "_law_one", "_law_two"]) F30 fun _ _ _ _ _ _ us hl => match us, hl with | [_, _, _], _ => rfl
      f_law_into := fun_of F31
      b_law_into := FunD.bindsN (ps := ["_law_tree_here", "_law_env", "_law_frames"]) F31 fun _ _ _ _ _ _ us hl => match us, hl with | [_, _, _], _ => rfl
      f_law_second := fun_of F32
      b_law_second := FunD.bindsN (ps := ["_law_world", "_law_frames", "_law_tree_here", "_law_first", "_law_value"]) F32 fun _ _ _ _ _ _ us hl => match us, hl with | [_, _, _, _, _], _ => rfl
      f_law_asked := fun_of F33
      b_law_asked := FunD.bindsN (ps := ["_law_world", "_law_frames", "_law_name", "_law_value"]) F33 fun _ _ _ _ _ _ us hl => match us, hl with | [_, _, _, _], _ => rfl
      f_law_back := fun_of F34
      b_law_back := FunD.bindsN (ps := ["_law_world", "_law_frames", "_law_value"]) F34 fun _ _ _ _ _ _ us hl => match us, hl with | [_, _, _], _ => rfl
      f_law_shape := fun_of F35
      b_law_shape := FunD.bindsN (ps := ["_law_value"]) F35 fun _ _ _ _ _ _ us hl => match us, hl with | [_], _ => rfl
      f_law_outcome := fun_of F36
      b_law_outcome := FunD.bindsN (ps := ["_law_tree_here", "_law_steps"]) F36 fun _ _ _ _ _ _ us hl => match us, hl with | [_, _], _ => rfl
      f_law := fun_of F37
      b_law := FunD.bindsN (ps := ["_law_script"]) F37 fun _ _ _ _ _ _ us hl => match us, hl with | [_], _ => rfl
      g_parts := He.glo_ok X G (c.fact 0 (f := .glo "parts") rfl)
      g_with_parts := He.glo_ok X G (c.fact 1 (f := .glo "with_parts") rfl)
      g_bound_names := He.glo_ok X G (c.fact 2 (f := .glo "bound_names") rfl)
      g_put_in := He.glo_ok X G (c.fact 3 (f := .glo "put_in") rfl)
      g_operated := He.glo_ok X G (c.fact 4 (f := .glo "operated") rfl)
      g_is_value := He.glo_ok X G (c.fact 5 (f := .glo "is_value") rfl)
      g_shape := He.glo_ok X G (c.fact 6 (f := .glo "shape") rfl)
      g_quoted := He.glo_ok X G (c.fact 7 (f := .glo "quoted") rfl)
      g_run_plain := He.glo_ok X G (c.fact 8 (f := .glo "run_plain") rfl)
      g_law_state := He.glo_ok X G (c.fact 9 (f := .glo "_law_state") rfl)
      g_law_take := He.glo_ok X G (c.fact 10 (f := .glo "_law_take") rfl)
      g_law_kind := He.glo_ok X G (c.fact 11 (f := .glo "_law_kind") rfl)
      g_law_operations := He.glo_ok X G (c.fact 12 (f := .glo "_law_operations") rfl)
      g_law_leaf := He.glo_ok X G (c.fact 13 (f := .glo "_law_leaf") rfl)
      g_law_special := He.glo_ok X G (c.fact 14 (f := .glo "_law_special") rfl)
      g_law_asking := He.glo_ok X G (c.fact 15 (f := .glo "_law_asking") rfl)
      g_law_clause := He.glo_ok X G (c.fact 16 (f := .glo "_law_clause") rfl)
      g_law_handling := He.glo_ok X G (c.fact 17 (f := .glo "_law_handling") rfl)
      g_law_loop := He.glo_ok X G (c.fact 18 (f := .glo "_law_loop") rfl)
      g_law_tree := He.glo_ok X G (c.fact 19 (f := .glo "_law_tree") rfl)
      g_law_program := He.glo_ok X G (c.fact 20 (f := .glo "_law_program") rfl)
      g_law_find := He.glo_ok X G (c.fact 21 (f := .glo "_law_find") rfl)
      g_law_operate := He.glo_ok X G (c.fact 22 (f := .glo "_law_operate") rfl)
      g_law_into := He.glo_ok X G (c.fact 23 (f := .glo "_law_into") rfl)
      g_law_second := He.glo_ok X G (c.fact 24 (f := .glo "_law_second") rfl)
      g_law_asked := He.glo_ok X G (c.fact 25 (f := .glo "_law_asked") rfl)
      g_law_back := He.glo_ok X G (c.fact 26 (f := .glo "_law_back") rfl)
      g_law_shape := He.glo_ok X G (c.fact 27 (f := .glo "_law_shape") rfl)
      g_law_outcome := He.glo_ok X G (c.fact 28 (f := .glo "_law_outcome") rfl)
      g_law := He.glo_ok X G (c.fact 29 (f := .glo "law") rfl)
      c_Run := He.cls_ok (c.fact 30 (f := .cls "Run") rfl)
      gc_Run := He.glo_ok X G (c.fact 31 (f := .glo "Run") rfl)
      mk_Run := He.mkr_ok (c.fact 32 (f := .mkr "Run") rfl)
      m_Run_answer := He.meth_ok (c.fact 33 (f := .meth "Run" "answer") rfl)
      m_Run_ask := He.meth_ok (c.fact 34 (f := .meth "Run" "ask") rfl)
      m_Run_begin := He.meth_ok (c.fact 35 (f := .meth "Run" "begin") rfl)
      m_Run_call := He.meth_ok (c.fact 36 (f := .meth "Run" "call") rfl)
      m_Run_counted := He.meth_ok (c.fact 37 (f := .meth "Run" "counted") rfl)
      m_Run_go_on := He.meth_ok (c.fact 38 (f := .meth "Run" "go_on") rfl)
      m_Run_single := He.meth_ok (c.fact 39 (f := .meth "Run" "single") rfl)
      n_Run_current := He.noat_ok (c.fact 40 (f := .noat "Run" "current") rfl)
      n_Run_end := He.noat_ok (c.fact 41 (f := .noat "Run" "end") rfl)
      n_Run_frames := He.noat_ok (c.fact 42 (f := .noat "Run" "frames") rfl)
      n_Run_left := He.noat_ok (c.fact 43 (f := .noat "Run" "left") rfl)
      n_Run_prints := He.noat_ok (c.fact 44 (f := .noat "Run" "prints") rfl)
      z_abs := He.free_ok X G (c.fact 45 (f := .free "abs") rfl)
      z_int := He.free_ok X G (c.fact 46 (f := .free "int") rfl)
      z_isinstance := He.free_ok X G (c.fact 47 (f := .free "isinstance") rfl)
      z_len := He.free_ok X G (c.fact 48 (f := .free "len") rfl)
      z_list := He.free_ok X G (c.fact 49 (f := .free "list") rfl)
      z_range := He.free_ok X G (c.fact 50 (f := .free "range") rfl)
      z_repr := He.free_ok X G (c.fact 51 (f := .free "repr") rfl)
      z_reversed := He.free_ok X G (c.fact 52 (f := .free "reversed") rfl)
      z_str := He.free_ok X G (c.fact 53 (f := .free "str") rfl)
      z_tuple := He.free_ok X G (c.fact 54 (f := .free "tuple") rfl)
      z_zip := He.free_ok X G (c.fact 55 (f := .free "zip") rfl)
      k_HALF := konst_int (He.int_ok X G (c.fact 56 (f := .int "HALF" 2147483648) rfl))
      k_LEAVES := konst_strs (ss := ["num", "flag", "unit", "name", "kept", "quoted"]) (He.glo_ok X G (c.fact 57 (f := .glo "LEAVES") rfl)) ((He.ba ce).1)
      k_UNIT := konst_strs (ss := ["unit"]) (He.glo_ok X G (c.fact 58 (f := .glo "UNIT") rfl)) ((He.ba (He.ba ce).2).1)
    }
  · intro s v
    have b := FunD.bindsA (ps := ["_law_script"]) F37 fun _ _ _ _ _ _ us hl => match us, hl with | [_], _ => rfl
    exact b s [v] rfl
theorem holds (n : Nat) (hn : Room (n + 2) callerA) (hL : LawD (lawW n)) : PySem.Challenge.rw_askedfor_k10_plain_meaning.Holds := by
  w_on; o_law
  refine HandSHeadRun.head_any (r := R) (q := PySem.W.view R.prog [36]) (H := hk) (ob := ob) (M := 2680) (loose := loose) (d := HandSHeadRun.topDef R.prog 36) (kwd := []) ob_eq
    (by kernel_rfl) (fun s => by kernel_rfl) run (by kernel_rfl) (by kernel_rfl) (by kernel_rfl) (by rfl) (by first | assumption | decide +kernel) (by decide +kernel) ⟨rfl, rfl, rfl, rfl, rfl, by decide +kernel⟩ ?hw ?hc
  case hw => w_witness2
  case hc =>
    refine walk_dlG (l := PySem.Challenge.rw_askedfor_k10_plain_meaning) (k := n + 2) (x := "_law_script") rfl (by kernel_rfl) hn fun w mg f h Y G hmg0 => ?_
    obtain ⟨K, KX, c⟩ := Y
    have hmg : mg ("law" : Str) = some (.ref f) := by
      have e : (HandSHeadRun.topDef R.prog 36).name = ("law" : Str) := by kernel_rfl
      rw [← e]
      exact hmg0
    obtain ⟨fd, T, hb⟩ := facts KX G c
    have e := hmg.symm.trans T.g_law
    cases e
    exact ⟨K, fd .law, caK K, lawW n, KX, hL, hb, fun base _ _ => ok_lawG T (all_of T n).1 (all_of T n).2⟩
end Pg
theorem PySem.Challenge.cw_askedfor_k10_plain_meaning_holds : PySem.Challenge.rw_askedfor_k10_plain_meaning.Holds :=
  Pg.holds 100 ⟨rfl, by decide, by decide⟩ (Pg.law_ok 0)
#print axioms PySem.Challenge.cw_askedfor_k10_plain_meaning_holds
