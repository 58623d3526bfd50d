import PyProof.Rows.All
import Wide.All
import OpenK.AllK
import Wide.FinOn
import HandS.ForMost
import HandS.ForExc
import HandS.CallSlots
import HandS.More
import HandS.IsInst
import HandS.Conv
import HandS.RevRange
import KE.KStateDown
import Lean
import HandS.Defaults
import HandS.Head0
import HandS.Head1
import HandS.Head2
import HandS.HeadEnd
import HandS.EndBits
import HandS.HeadHook1
import HandS.HeadHook2
import HandS.Style
import PyProof.ReprReads
import PyProof.StrHeap
import HandS.Zip
import HandS.Dict
import PyProof.AutoSeq1
import HandS.DictComp
import HandS.Iter
import KE.KIndexOf
import HandS.HeadHook3
import PyProof.IsRules
import HandS.Star
import HandS.WordsExc
import KE.KSuper
import HandS.ExcInit
import HandS.ExcSuper
import HandS.ExcField
import PyProof.StrLawsRepr
import PyProof.FitsInt
import PySem.Challenge.RW_askedfor_k21_pieces_of_nested_handlers
set_option Elab.async false
set_option linter.all false
set_option maxRecDepth 100000
set_option maxHeartbeats 0
/-! DL: values as data, a store of the few things that change, and what Python text means over them. -/
namespace DL
open PySem PySem.Spec PyProof.Rows L2

/-! ### texts -/
theorem ofS_eq (s : String) : Str.ofString s = ⟨(s.toList.map Char.toNat).toArray⟩ := Str.ofString_eq_toList s
theorem charNat_inj {a b : Char} (h : a.toNat = b.toNat) : a = b := by
  apply Char.ext
  exact UInt32.toNat_inj.mp h
theorem mapNat_inj : ∀ {a b : List Char}, a.map Char.toNat = b.map Char.toNat → a = b
  | [], [], _ => rfl
  | [], _ :: _, h => by cases h
  | _ :: _, [], h => by cases h
  | x :: xs, y :: ys, h => by
    simp only [List.map_cons, List.cons.injEq] at h
    rw [charNat_inj h.1, mapNat_inj h.2]
theorem ofS_inj {a b : String} (h : Str.ofString a = Str.ofString b) : a = b := by
  rw [ofS_eq, ofS_eq] at h
  have h1 : (a.toList.map Char.toNat).toArray = (b.toList.map Char.toNat).toArray := congrArg Str.cps h
  have h2 : a.toList.map Char.toNat = b.toList.map Char.toNat := by simpa using congrArg Array.toList h1
  have h3 := mapNat_inj h2
  rw [← String.ofList_toList (s := a), ← String.ofList_toList (s := b), h3]
theorem ofS_iff {a b : String} : Str.ofString a = Str.ofString b ↔ a = b := ⟨ofS_inj, fun h => by rw [h]⟩

/-! ### data -/
inductive D where
  | non | bl (b : Bool) | int (i : Int) | str (s : String)
  | tup (l : List D)
  /-- a list that nobody changes any more -/
  | lst (l : List D)
  /-- a dict that nobody changes any more -/
  | dic (kvs : List (String × D))
  /-- a list that the law was handed -/
  | scr (l : List D)
  /-- a thing of the store (or a class) -/
  | obj (a : Addr)
  /-- a built-in type -/
  | ty (n : String)
inductive Ob where
  | lst (l : List D)
  | dic (kvs : List (String × D))
  | ins (c : Nat) (fs : List (String × D))
abbrev Store := Addr → Option Ob
def put (S : Store) (a : Addr) (o : Ob) : Store := fun b => if b = a then some o else S b
def rid (S : Store) (a : Addr) : Store := fun b => if b = a then none else S b
theorem put_same {S : Store} {a : Addr} {o : Ob} : put S a o a = some o := by unfold put; rw [if_pos rfl]
theorem put_ne {S : Store} {a b : Addr} {o : Ob} (h : b ≠ a) : put S a o b = S b := by unfold put; rw [if_neg h]
theorem rid_same {S : Store} {a : Addr} : rid S a a = none := by unfold rid; rw [if_pos rfl]
theorem rid_ne {S : Store} {a b : Addr} (h : b ≠ a) : rid S a b = S b := by unfold rid; rw [if_neg h]
theorem put_put {S : Store} {a : Addr} {o u : Ob} : put (put S a o) a u = put S a u := by
  funext b; unfold put; split <;> rfl
theorem rid_put {S : Store} {a : Addr} {o : Ob} (h : S a = none) : rid (put S a o) a = S := by
  funext b; unfold rid put
  split
  · rename_i e; rw [e, h]
  · rfl
theorem put_id {S : Store} {a : Addr} {o : Ob} (h : S a = some o) : put S a o = S := by
  funext b; unfold put
  split
  · rename_i e; rw [e, h]
  · rfl
theorem put_comm {S : Store} {a b : Addr} {o u : Ob} (h : a ≠ b) : put (put S a o) b u = put (put S b u) a o := by
  funext c; unfold put
  by_cases e : c = a
  · subst e; rw [if_neg h, if_pos rfl, if_pos rfl]
  · rw [if_neg e, if_neg e]

/-! ### data in the heap: F, the lists and dicts that stay as they are -/
def SqZ (K : PySem.W.Frag) (H : Hp) (a : Addr) (xs : List V) : Prop :=
  (∃ o, H a = some (.frz o (.lst xs))) ∨
    ∃ (o : Obj) (its : Array Value) (n : Nat), K.lookup a = some o ∧ o.cls = .type "list" ∧ o.dict = none ∧ o.data = .seq its n ∧ its.size ≤ sizeLine ∧ Vals xs its.toList
theorem SqZ.sq {K : PySem.W.Frag} {H : Hp} {a : Addr} {xs : List V} (h : SqZ K H a xs) : SqL K H a xs := by
  rcases h with ⟨o, h⟩ | h
  · exact .inl (.inr ⟨o, h⟩)
  · exact .inr h
mutual
inductive RelD (K : PySem.W.Frag) (F : Addr → Prop) (H : Hp) : D → V → Prop
  | non : RelD K F H .non .non
  | bl (b : Bool) : RelD K F H (.bl b) (.bl b)
  | int (i : Int) : RelD K F H (.int i) (.int i)
  | str (s : String) : RelD K F H (.str s) (.str (Str.ofString s))
  | tup {a : Addr} {vs : List V} {l : List D} : SqT K H a vs → RelDs K F H l vs → RelD K F H (.tup l) (.ref a)
  | lst {a : Addr} {vs : List V} {l : List D} : H a = some (.lst vs) → F a → RelDs K F H l vs → RelD K F H (.lst l) (.ref a)
  | dic {a : Addr} {kv : List (Key × V)} {kd : List (String × D)} : Rd H a (.dK kv) → F a → RelKs K F H kd kv → RelD K F H (.dic kd) (.ref a)
  | scr {a : Addr} {vs : List V} {l : List D} : SqZ K H a vs → RelDs K F H l vs → RelD K F H (.scr l) (.ref a)
  | obj (a : Addr) : RelD K F H (.obj a) (.ref a)
  | ty (n : String) : RelD K F H (.ty n) (.ty n)
inductive RelDs (K : PySem.W.Frag) (F : Addr → Prop) (H : Hp) : List D → List V → Prop
  | nil : RelDs K F H [] []
  | cons {d : D} {v : V} {l : List D} {vs : List V} : RelD K F H d v → RelDs K F H l vs → RelDs K F H (d :: l) (v :: vs)
inductive RelKs (K : PySem.W.Frag) (F : Addr → Prop) (H : Hp) : List (String × D) → List (Key × V) → Prop
  | nil : RelKs K F H [] []
  | cons {s : String} {d : D} {v : V} {l : List (String × D)} {vs : List (Key × V)} : RelD K F H d v → RelKs K F H l vs → RelKs K F H ((s, d) :: l) ((.inr (Str.ofString s), v) :: vs)
end
inductive RelFs (K : PySem.W.Frag) (F : Addr → Prop) (H : Hp) : List (String × D) → List (Str × V) → Prop
  | nil : RelFs K F H [] []
  | cons {s : String} {d : D} {v : V} {l : List (String × D)} {vs : List (Str × V)} : RelD K F H d v → RelFs K F H l vs → RelFs K F H ((s, d) :: l) ((Str.ofString s, v) :: vs)

section
variable {K : PySem.W.Frag} {ca : Nat → Addr} {F F' F'' : Addr → Prop} {S S' S'' : Store} {H H' H'' : Hp}
/-- what stands in the store at a -/
def RelO (K : PySem.W.Frag) (ca : Nat → Addr) (F : Addr → Prop) (H : Hp) (a : Addr) : Ob → Prop
  | .lst l => ∃ vs, H a = some (.lst vs) ∧ RelDs K F H l vs
  | .dic kd => ∃ kv, H a = some (.dK kv) ∧ RelKs K F H kd kv
  | .ins c fs => ∃ dx fv, H a = some (.ins (ca c) dx fv) ∧ RelFs K F H fs fv
structure RelS (K : PySem.W.Frag) (ca : Nat → Addr) (F : Addr → Prop) (S : Store) (H : Hp) : Prop where
  ob : ∀ a o, S a = some o → ¬ F a ∧ RelO K ca F H a o
  fz : ∀ a, F a → ∃ o, H a = some o
/-- what is not the store's stays -/
def Fr (F : Addr → Prop) (S : Store) (H : Hp) (F' : Addr → Prop) (S' : Store) (H' : Hp) : Prop := ∀ a o, H a = some o → S a = none → H' a = some o ∧ S' a = none ∧ (F' a ↔ F a)
theorem Fr.refl : Fr F S H F S H := fun _ _ h n => ⟨h, n, Iff.rfl⟩
theorem Fr.trans (a : Fr F S H F' S' H') (b : Fr F' S' H' F'' S'' H'') : Fr F S H F'' S'' H'' := fun c o h n =>
  let ⟨a1, a2, a3⟩ := a c o h n
  let ⟨b1, b2, b3⟩ := b c o a1 a2
  ⟨b1, b2, b3.trans a3⟩
theorem RelS.frzFree (r : RelS K ca F S H) {a : Addr} {u : HO} (h : H a = some u) (hl : ∀ vs, u ≠ .lst vs) (hd : ∀ vs, u ≠ .dK vs) (hi : ∀ c dx fs, u ≠ .ins c dx fs) : S a = none := by
  cases e : S a with
  | none => rfl
  | some o =>
    obtain ⟨_, q⟩ := r.ob a o e
    cases o with
    | lst l => obtain ⟨vs, z, _⟩ := q; rw [h] at z; exact absurd (Option.some.inj z) (hl _)
    | dic l => obtain ⟨vs, z, _⟩ := q; rw [h] at z; exact absurd (Option.some.inj z) (hd _)
    | ins c l => obtain ⟨dx, vs, z, _⟩ := q; rw [h] at z; exact absurd (Option.some.inj z) (hi _ _ _)
theorem RelS.tupFree (r : RelS K ca F S H) {a : Addr} {vs : List V} (h : Rd H a (.tup vs)) : S a = none := by
  rcases h with h | ⟨u, h⟩
  · exact r.frzFree h (fun _ z => by cases z) (fun _ z => by cases z) (fun _ _ _ z => by cases z)
  · exact r.frzFree h (fun _ z => by cases z) (fun _ z => by cases z) (fun _ _ _ z => by cases z)
theorem RelS.free (r : RelS K ca F S H) {a : Addr} (h : H a = none) : S a = none := by
  cases e : S a with
  | none => rfl
  | some o =>
    obtain ⟨_, q⟩ := r.ob a o e
    cases o <;> simp only [RelO] at q
    · obtain ⟨_, z, _⟩ := q; rw [h] at z; cases z
    · obtain ⟨_, z, _⟩ := q; rw [h] at z; cases z
    · obtain ⟨_, _, z, _⟩ := q; rw [h] at z; cases z
theorem RelS.fS (r : RelS K ca F S H) {a : Addr} (h : F a) : S a = none := by
  cases e : S a with
  | none => rfl
  | some o => exact absurd h (r.ob a o e).1
theorem fr_rd (f : Fr F S H F' S' H') {a : Addr} {u : HO} (h : Rd H a u) (n : S a = none) : Rd H' a u := by
  rcases h with h | ⟨o, h⟩
  · exact .inl (f a _ h n).1
  · exact .inr ⟨o, (f a _ h n).1⟩
theorem fr_t (r : RelS K ca F S H) (f : Fr F S H F' S' H') {a : Addr} {vs : List V} (h : SqT K H a vs) : SqT K H' a vs := by
  rcases h with h | h
  · exact .inl (fr_rd f h (r.tupFree h))
  · exact .inr h
theorem fr_z (r : RelS K ca F S H) (f : Fr F S H F' S' H') {a : Addr} {vs : List V} (h : SqZ K H a vs) : SqZ K H' a vs := by
  rcases h with ⟨o, h⟩ | h
  · exact .inl ⟨o, (f a _ h (r.frzFree h (fun _ z => by cases z) (fun _ z => by cases z) (fun _ _ _ z => by cases z))).1⟩
  · exact .inr h
theorem fr_F (r : RelS K ca F S H) (f : Fr F S H F' S' H') {a : Addr} (h : F a) : F' a := by
  obtain ⟨o, e⟩ := r.fz a h
  exact (f a o e (r.fS h)).2.2.mpr h
mutual
theorem RelD.mono (r : RelS K ca F S H) (f : Fr F S H F' S' H') : ∀ {d : D} {v : V}, RelD K F H d v → RelD K F' H' d v
  | _, _, .non => .non
  | _, _, .bl b => .bl b
  | _, _, .int i => .int i
  | _, _, .str s => .str s
  | _, _, .tup h q => .tup (fr_t r f h) (RelDs.mono r f q)
  | _, _, .lst h z q => .lst (f _ _ h (r.fS z)).1 (fr_F r f z) (RelDs.mono r f q)
  | _, _, .dic h z q => .dic (fr_rd f h (r.fS z)) (fr_F r f z) (RelKs.mono r f q)
  | _, _, .scr h q => .scr (fr_z r f h) (RelDs.mono r f q)
  | _, _, .obj a => .obj a
  | _, _, .ty a => .ty a
theorem RelDs.mono (r : RelS K ca F S H) (f : Fr F S H F' S' H') : ∀ {d : List D} {v : List V}, RelDs K F H d v → RelDs K F' H' d v
  | _, _, .nil => .nil
  | _, _, .cons h q => .cons (RelD.mono r f h) (RelDs.mono r f q)
theorem RelKs.mono (r : RelS K ca F S H) (f : Fr F S H F' S' H') : ∀ {d : List (String × D)} {v : List (Key × V)}, RelKs K F H d v → RelKs K F' H' d v
  | _, _, .nil => .nil
  | _, _, .cons h q => .cons (RelD.mono r f h) (RelKs.mono r f q)
end
theorem RelFs.mono (r : RelS K ca F S H) (f : Fr F S H F' S' H') {d : List (String × D)} {v : List (Str × V)} (h : RelFs K F H d v) : RelFs K F' H' d v := by
  induction h with
  | nil => exact .nil
  | cons h _ ih => exact .cons (h.mono r f) ih
theorem RelDs.length : ∀ {d : List D} {v : List V}, RelDs K F H d v → d.length = v.length
  | _, _, .nil => rfl
  | _, _, .cons _ q => congrArg (· + 1) (RelDs.length q)
theorem RelDs.get {d : List D} {v : List V} (h : RelDs K F H d v) : ∀ {i : Nat} {x : D}, d[i]? = some x → ∃ u, v[i]? = some u ∧ RelD K F H x u := by
  induction d generalizing v with
  | nil => intro i x e; simp at e
  | cons d l ih =>
    cases h with
    | cons r q =>
      intro i x e
      cases i with
      | zero => simp at e; subst e; exact ⟨_, rfl, r⟩
      | succ i => simpa using ih q (i := i) (x := x) (by simpa using e)
theorem RelDs.getv {d : List D} {v : List V} (h : RelDs K F H d v) : ∀ {i : Nat} {x : V}, v[i]? = some x → ∃ u, d[i]? = some u ∧ RelD K F H u x := by
  induction d generalizing v with
  | nil => cases h; intro i x e; simp at e
  | cons d l ih =>
    cases h with
    | cons r q =>
      intro i x e
      cases i with
      | zero => simp at e; subst e; exact ⟨_, rfl, r⟩
      | succ i => simpa using ih q (i := i) (x := x) (by simpa using e)
theorem RelDs.append {d e : List D} {v u : List V} (h : RelDs K F H d v) (q : RelDs K F H e u) : RelDs K F H (d ++ e) (v ++ u) := by
  induction d generalizing v with
  | nil => cases h; exact q
  | cons d l ih => cases h with | cons r h => exact .cons r (ih h)
theorem RelDs.set {d : List D} {v : List V} (h : RelDs K F H d v) {x : D} {u : V} (r : RelD K F H x u) : ∀ i, RelDs K F H (d.set i x) (v.set i u) := by
  induction d generalizing v with
  | nil => cases h; intro i; exact .nil
  | cons d l ih =>
    cases h with
    | cons q h =>
      intro i
      cases i with
      | zero => exact .cons r h
      | succ i => exact .cons q (ih h i)
theorem RelDs.take {d : List D} {v : List V} (h : RelDs K F H d v) : ∀ n, RelDs K F H (d.take n) (v.take n) := by
  induction d generalizing v with
  | nil => cases h; intro n; simp; exact .nil
  | cons d l ih =>
    cases h with
    | cons q h =>
      intro n
      cases n with
      | zero => exact .nil
      | succ n => exact .cons q (ih h n)
theorem RelDs.drop {d : List D} {v : List V} (h : RelDs K F H d v) : ∀ n, RelDs K F H (d.drop n) (v.drop n) := by
  induction d generalizing v with
  | nil => cases h; intro n; simp; exact .nil
  | cons d l ih =>
    cases h with
    | cons q h =>
      intro n
      cases n with
      | zero => exact .cons q h
      | succ n => exact ih h n
theorem RelDs.dropLast {d : List D} {v : List V} (h : RelDs K F H d v) : RelDs K F H d.dropLast v.dropLast := by
  rw [List.dropLast_eq_take, List.dropLast_eq_take, h.length]
  exact h.take _
theorem RelDs.reverse {d : List D} {v : List V} (h : RelDs K F H d v) : RelDs K F H d.reverse v.reverse := by
  induction d generalizing v with
  | nil => cases h; exact .nil
  | cons d l ih =>
    cases h with
    | cons q h =>
      rw [List.reverse_cons, List.reverse_cons]
      exact (ih h).append (.cons q .nil)

/-! ### the store and the heap, step by step -/
def ins (F : Addr → Prop) (p : Addr) : Addr → Prop := fun a => a = p ∨ F a
theorem fr_new {p : Addr} {o : Ob} {u : HO} (n : H p = none) : Fr F S H F (put S p o) (upd H p u) := fun a w h z => by
  have e : a ≠ p := ne_of_none h n
  exact ⟨by rw [upd_ne e]; exact h, by rw [put_ne e]; exact z, Iff.rfl⟩
theorem fr_newD {p : Addr} {u : HO} (n : H p = none) : Fr F S H F S (upd H p u) := fun a w h z => by
  have e : a ≠ p := ne_of_none h n
  exact ⟨by rw [upd_ne e]; exact h, z, Iff.rfl⟩
theorem fr_newF {p : Addr} {u : HO} (n : H p = none) : Fr F S H (ins F p) S (upd H p u) := fun a w h z => by
  have e : a ≠ p := ne_of_none h n
  exact ⟨by rw [upd_ne e]; exact h, z, ⟨fun q => q.resolve_left e, .inr⟩⟩
theorem fr_write {p : Addr} {o o' : Ob} {u : HO} (h : S p = some o) : Fr F S H F (put S p o') (upd H p u) := fun a w q z => by
  have e : a ≠ p := fun e => by rw [e, h] at z; cases z
  exact ⟨by rw [upd_ne e]; exact q, by rw [put_ne e]; exact z, Iff.rfl⟩
theorem fr_rid {p : Addr} : Fr F S H F (rid S p) H := fun a w q z => ⟨q, (by unfold rid; split <;> first | rfl | exact z), Iff.rfl⟩
theorem fr_frz {p : Addr} {o : Ob} (h : S p = some o) : Fr F S H (ins F p) (rid S p) H := fun a w q z => by
  have e : a ≠ p := fun e => by rw [e, h] at z; cases z
  exact ⟨q, by rw [rid_ne e]; exact z, ⟨fun q => q.resolve_left e, .inr⟩⟩
theorem RelO.mono (r : RelS K ca F S H) (f : Fr F S H F' S' H') {a : Addr} {o : Ob} (h : RelO K ca F H a o) (same : H' a = H a) : RelO K ca F' H' a o := by
  cases o with
  | lst l => obtain ⟨vs, e, q⟩ := h; exact ⟨vs, same.trans e, q.mono r f⟩
  | dic l => obtain ⟨vs, e, q⟩ := h; exact ⟨vs, same.trans e, q.mono r f⟩
  | ins c l => obtain ⟨dx, vs, e, q⟩ := h; exact ⟨dx, vs, same.trans e, q.mono r f⟩
theorem RelS.newD {p : Addr} {u : HO} (r : RelS K ca F S H) (n : H p = none) : RelS K ca F S (upd H p u) := by
  refine ⟨fun a o e => ⟨(r.ob a o e).1, (r.ob a o e).2.mono r (fr_newD n) (upd_ne fun z => by rw [z, r.free n] at e; cases e)⟩, fun a h => ?_⟩
  obtain ⟨o, e⟩ := r.fz a h
  exact ⟨o, by rw [upd_ne (ne_of_none e n)]; exact e⟩
theorem RelS.newF {p : Addr} {u : HO} (r : RelS K ca F S H) (n : H p = none) : RelS K ca (ins F p) S (upd H p u) := by
  refine ⟨fun a o e => ?_, fun a h => ?_⟩
  · have ne : a ≠ p := fun z => by rw [z, r.free n] at e; cases e
    exact ⟨fun q => (r.ob a o e).1 (q.resolve_left ne), (r.ob a o e).2.mono r (fr_newF n) (upd_ne ne)⟩
  · by_cases z : a = p
    · subst z; exact ⟨u, upd_same⟩
    · obtain ⟨o, e⟩ := r.fz a (h.resolve_left z)
      exact ⟨o, by rw [upd_ne z]; exact e⟩
theorem RelS.new {p : Addr} {o : Ob} {u : HO} (r : RelS K ca F S H) (n : H p = none) (q : RelO K ca F (upd H p u) p o) : RelS K ca F (put S p o) (upd H p u) := by
  refine ⟨fun a w e => ?_, fun a h => ?_⟩
  · by_cases z : a = p
    · subst z
      rw [put_same] at e
      cases e
      refine ⟨fun h => ?_, q⟩
      obtain ⟨_, e⟩ := r.fz a h
      rw [n] at e
      cases e
    · rw [put_ne z] at e
      exact ⟨(r.ob a w e).1, (r.ob a w e).2.mono r (fr_new (o := o) n) (upd_ne z)⟩
  · obtain ⟨o', e⟩ := r.fz a h
    exact ⟨o', by rw [upd_ne (ne_of_none e n)]; exact e⟩
theorem RelS.write {p : Addr} {o o' : Ob} {u : HO} (r : RelS K ca F S H) (n : S p = some o) (q : RelO K ca F (upd H p u) p o') : RelS K ca F (put S p o') (upd H p u) := by
  refine ⟨fun a w e => ?_, fun a h => ?_⟩
  · by_cases z : a = p
    · subst z
      rw [put_same] at e
      cases e
      exact ⟨(r.ob a _ n).1, q⟩
    · rw [put_ne z] at e
      exact ⟨(r.ob a w e).1, (r.ob a w e).2.mono r (fr_write (o' := o') n) (upd_ne z)⟩
  · obtain ⟨o', e⟩ := r.fz a h
    have z : a ≠ p := fun z => by subst z; exact (r.ob a _ n).1 h
    exact ⟨o', by rw [upd_ne z]; exact e⟩
theorem RelS.rid {p : Addr} (r : RelS K ca F S H) : RelS K ca F (rid S p) H := by
  refine ⟨fun a w e => ?_, r.fz⟩
  by_cases z : a = p
  · subst z; rw [rid_same] at e; cases e
  · rw [rid_ne z] at e
    exact ⟨(r.ob a w e).1, (r.ob a w e).2.mono r (fr_rid (p := p)) rfl⟩
theorem RelO.there {a : Addr} {o : Ob} (h : RelO K ca F H a o) : ∃ u, H a = some u := by
  cases o with
  | lst l => obtain ⟨vs, e, q⟩ := h; exact ⟨_, e⟩
  | dic l => obtain ⟨vs, e, q⟩ := h; exact ⟨_, e⟩
  | ins c l => obtain ⟨dx, vs, e, q⟩ := h; exact ⟨_, e⟩
theorem RelS.frz {p : Addr} {o : Ob} (r : RelS K ca F S H) (n : S p = some o) : RelS K ca (ins F p) (DL.rid S p) H := by
  refine ⟨fun a w e => ?_, fun a h => ?_⟩
  · by_cases z : a = p
    · subst z; rw [rid_same] at e; cases e
    · rw [rid_ne z] at e
      exact ⟨fun q => (r.ob a w e).1 (q.resolve_left z), (r.ob a w e).2.mono r (fr_frz n) rfl⟩
  · by_cases z : a = p
    · subst z; exact (r.ob a _ n).2.there
    · exact r.fz a (h.resolve_left z)
end
end DL
/-! DL2: the judgements over data, and the rules of expressions. -/
namespace DL
open PySem PySem.Spec PyProof.Rows L2

abbrev DEnv := List (Option D)
abbrev QE := D → Store → Prop
abbrev DE := DEnv → Store → QE → Prop
abbrev DT := DEnv → Store → (Bool → Store → Prop) → Prop
abbrev DA := DEnv → Store → (List D → Store → Prop) → Prop
/-- an exception of an own class: the class's number, its fields -/
structure DX where
  cls : Nat
  fs : List (String × D)
abbrev XQ := DX → Store → Prop
/-- what a def does: arguments, store, what is wanted of the value, of an exception -/
abbrev DSp := List D → Store → QE → XQ → Prop

/-- where a body runs: the classes, the state at its entry, what is wanted of an exception -/
structure Bc where
  ca : Nat → Addr
  F0 : Addr → Prop
  S0 : Store
  H0 : Hp
  ED : DX → DEnv → Store → Prop

section
variable {K : PySem.W.Frag} {ca : Nat → Addr} {F F' F'' : Addr → Prop} {S S' S'' : Store} {H H' H'' : Hp} {B : Bc} {σ : DEnv} {σV : L2.St} {Q : QE} {QV : VK}
def RelEnv (K : PySem.W.Frag) (F : Addr → Prop) (H : Hp) (σ : DEnv) (σV : L2.St) : Prop :=
  σ.length = σV.length ∧ ∀ (i : Nat) (d : D), σ[i]? = some (some d) → ∃ v, σV[i]? = some (some v) ∧ RelD K F H d v
structure Rel (K : PySem.W.Frag) (B : Bc) (F : Addr → Prop) (σ : DEnv) (S : Store) (σV : L2.St) (H : Hp) : Prop where
  env : RelEnv K F H σ σV
  st : RelS K B.ca F S H
  fr : Fr B.F0 B.S0 B.H0 F S H
theorem RelEnv.mono (e : RelEnv K F H σ σV) (r : RelS K ca F S H) (f : Fr F S H F' S' H') : RelEnv K F' H' σ σV :=
  ⟨e.1, fun i d h => let ⟨v, a, b⟩ := e.2 i d h; ⟨v, a, b.mono r f⟩⟩
theorem Rel.step (R : Rel K B F σ S σV H) (f : Fr F S H F' S' H') (r : RelS K B.ca F' S' H') : Rel K B F' σ S' σV H' :=
  ⟨R.env.mono R.st f, r, R.fr.trans f⟩
theorem RelEnv.set (e : RelEnv K F H σ σV) {i : Nat} {d : D} {v : V} (r : RelD K F H d v) : RelEnv K F H (σ.set i (some d)) (σV.set i (some v)) := by
  refine ⟨by rw [List.length_set, List.length_set]; exact e.1, fun j x h => ?_⟩
  by_cases hj : i = j
  · subst hj
    by_cases hi : i < σ.length
    · rw [List.getElem?_set_self hi] at h
      cases h
      exact ⟨v, by rw [List.getElem?_set_self (by rw [← e.1]; exact hi)], r⟩
    · rw [List.getElem?_eq_none (by simpa using hi)] at h
      cases h
  · rw [List.getElem?_set_ne hj] at h
    obtain ⟨u, a, b⟩ := e.2 j x h
    exact ⟨u, by rw [List.getElem?_set_ne hj]; exact a, b⟩
theorem Rel.set (R : Rel K B F σ S σV H) {i : Nat} {d : D} {v : V} (r : RelD K F H d v) : Rel K B F (σ.set i (some d)) S (σV.set i (some v)) H := ⟨R.env.set r, R.st, R.fr⟩

/-! ### what is wanted, over data and over the heap -/
def PostE (K : PySem.W.Frag) (ca : Nat → Addr) (F : Addr → Prop) (S : Store) (H : Hp) (Q : QE) (QV : VK) : Prop :=
  ∀ x v F' S' H', Fr F S H F' S' H' → RelS K ca F' S' H' → RelD K F' H' x v → Q x S' → QV v H'
def PostB (K : PySem.W.Frag) (ca : Nat → Addr) (F : Addr → Prop) (S : Store) (H : Hp) (Q : Bool → Store → Prop) (QV : Bool → Hp → Prop) : Prop :=
  ∀ x F' S' H', Fr F S H F' S' H' → RelS K ca F' S' H' → Q x S' → QV x H'
def PostA (K : PySem.W.Frag) (ca : Nat → Addr) (n : Nat) (F : Addr → Prop) (S : Store) (H : Hp) (Q : List D → Store → Prop) (QV : List V → Hp → Prop) : Prop :=
  ∀ x v F' S' H', Fr F S H F' S' H' → RelS K ca F' S' H' → RelDs K F' H' x v → x.length = n → Q x S' → QV v H'
def RelX (K : PySem.W.Frag) (ca : Nat → Addr) (F : Addr → Prop) (H : Hp) (x : DX) (cls : Value) (d : Option Addr) : Prop :=
  cls = .ref (ca x.cls) ∧ ((x.fs = [] ∧ d = none) ∨ ∃ dd fv, d = some dd ∧ H dd = some (.xd fv) ∧ RelFs K F H x.fs fv)
def PostX (K : PySem.W.Frag) (ca : Nat → Addr) (F : Addr → Prop) (S : Store) (H : Hp) (ED : XQ) (E : XK) : Prop :=
  ∀ x cls d F' S' H', Fr F S H F' S' H' → RelS K ca F' S' H' → RelX K ca F' H' x cls d → ED x S' → E cls d H'
theorem PostE.step (p : PostE K ca F S H Q QV) (f : Fr F S H F' S' H') : PostE K ca F' S' H' Q QV := fun x v _ _ _ g r d q => p x v _ _ _ (f.trans g) r d q
theorem PostE.at (p : PostE K ca F S H Q QV) (r : RelS K ca F S H) {x : D} {v : V} (d : RelD K F H x v) (q : Q x S) : QV v H := p x v F S H Fr.refl r d q

def SimE (K : PySem.W.Frag) (B : Bc) (d : DE) (t : TE) : Prop := ∀ F σ S σV H Q QV, Rel K B F σ S σV H → d σ S Q → PostE K B.ca F S H Q QV → t σV H QV
def SimT (K : PySem.W.Frag) (B : Bc) (d : DT) (t : TT) : Prop := ∀ F σ S σV H Q QV, Rel K B F σ S σV H → d σ S Q → PostB K B.ca F S H Q QV → t σV H QV
def SimA (K : PySem.W.Frag) (B : Bc) (n : Nat) (d : DA) (t : TA) : Prop := ∀ F σ S σV H Q QV, Rel K B F σ S σV H → d σ S Q → PostA K B.ca n F S H Q QV → t σV H QV
end

/-! ### the weakest readings -/
@[irreducible] def wpE (X : Cx) (e : Expr) : TE := fun σ H Q => ∀ (pins : List (Addr × Obj)) (s : Shared), Inv X pins σ H s → wpAny (model X.prog X.w) X.A (eval e X.env) (EP X pins σ Q) X.xe s
@[irreducible] def wpT (X : Cx) (e : Expr) : TT := fun σ H Q => ∀ (pins : List (Addr × Obj)) (s : Shared), Inv X pins σ H s → wpAny (model X.prog X.w) X.A (isTrue e X.env (eval e X.env)) (TP X pins σ Q) X.xe s
@[irreducible] def wpW (X : Cx) (e : Expr) : TT := fun σ H Q => ∀ (wh : Sem Value) (pins : List (Addr × Obj)) (s : Shared), Inv X pins σ H s → wpAny (model X.prog X.w) X.A (isTrue e X.env wh) (TP X pins σ Q) X.xe s
@[irreducible] def wpA (X : Cx) (es : List Expr) : TA := fun σ H Q => ∀ (pos : Pos) (pins : List (Addr × Obj)) (s : Shared), Inv X pins σ H s → wpAny (model X.prog X.w) X.A (spliced (backTo pos (starEach es X.env))) (AP X pins σ Q) X.xe s
theorem pe_w {X : Cx} {e : Expr} : PE X e (wpE X e) := ⟨fun pins s _ _ _ I h => by unfold wpE at h; exact h pins s I⟩
theorem pt_w {X : Cx} {e : Expr} : PT X e (wpT X e) := ⟨fun pins s _ _ _ I h => by unfold wpT at h; exact h pins s I⟩
theorem pw_w {X : Cx} {e : Expr} : PW X e (wpW X e) := ⟨fun wh pins s _ _ _ I h => by unfold wpW at h; exact h wh pins s I⟩
theorem pa_w {X : Cx} {es : List Expr} : PA X es (wpA X es) := ⟨fun pos pins s _ _ _ I h => by unfold wpA at h; exact h pos pins s I⟩

def PD (X : Cx) (B : Bc) (e : Expr) (d : DE) : Prop := SimE X.K B d (wpE X e)
def PDT (X : Cx) (B : Bc) (e : Expr) (d : DT) : Prop := SimT X.K B d (wpT X e)
def PDW (X : Cx) (B : Bc) (e : Expr) (d : DT) : Prop := SimT X.K B d (wpW X e)
def PDA (X : Cx) (B : Bc) (es : List Expr) (n : Nat) (d : DA) : Prop := SimA X.K B n d (wpA X es)

section
variable {X : Cx} {B : Bc} {e a b c : Expr} {es rest : List Expr} {d da db dc : DE} {t ta tb tc : TE} {pos : Pos} {n : Nat}
theorem pd_of (h : PE X e t) (s : SimE X.K B d t) : PD X B e d := fun F σ S σV H Q QV R q P => by unfold wpE; exact fun pins st I => h.run pins st σV H QV I (s F σ S σV H Q QV R q P)
theorem pdt_of {d : DT} {t : TT} (h : PT X e t) (s : SimT X.K B d t) : PDT X B e d := fun F σ S σV H Q QV R q P => by unfold wpT; exact fun pins st I => h.run pins st σV H QV I (s F σ S σV H Q QV R q P)
theorem pdw_of {d : DT} {t : TT} (h : PW X e t) (s : SimT X.K B d t) : PDW X B e d := fun F σ S σV H Q QV R q P => by unfold wpW; exact fun wh pins st I => h.run wh pins st σV H QV I (s F σ S σV H Q QV R q P)
theorem pda_of {d : DA} {t : TA} (h : PA X es t) (s : SimA X.K B n d t) : PDA X B es n d := fun F σ S σV H Q QV R q P => by unfold wpA; exact fun pos pins st I => h.run pos pins st σV H QV I (s F σ S σV H Q QV R q P)
theorem pdw_t {d : DT} (h : PDW X B e d) : PDT X B e d := fun F σ S σV H Q QV R q P => by
  have z := h F σ S σV H Q QV R q P
  unfold wpW at z
  unfold wpT
  exact fun pins st I => z _ pins st I

/-! ### names and constants -/
def dVar (i : Nat) : DE := fun σ S Q => match σ[i]? with
  | some (some v) => Q v S
  | _ => False
theorem sim_var {K : PySem.W.Frag} {i : Nat} : SimE K B (dVar i) (tVar i) := by
  intro F σ S σV H Q QV R q P
  unfold dVar at q
  split at q
  · rename_i v e
    obtain ⟨u, hu, r⟩ := R.env.2 i v e
    exact ⟨u, hu, P.at R.st r q⟩
  · exact q.elim
theorem pd_var (i : Nat) {x : Str} (hN : X.N[i]? = some x := by rfl) (hv : Vis X.env.scope x := by first | exact Or.inl rfl | exact Or.inr (Or.inl rfl) | exact Or.inr (Or.inr rfl)) (hd : (x == ("__debug__" : Str)) = false := by decide)
    (hcd : (x == ("__classdict__" : Str)) = false := by decide) : PD X B (.Name x pos) (dVar i) := pd_of (pe_var hN hv hd hcd) sim_var
def dC (v : D) : DE := fun _ S Q => Q v S
theorem sim_c {K : PySem.W.Frag} {x : D} {v : V} (h : ∀ F H, RelD K F H x v) : SimE K B (dC x) (tC v) := fun F σ S σV H Q QV R q P => P.at R.st (h F H) q
theorem pd_int {i j} : PD X B (.Constant (.int i) j pos) (dC (.int i)) := pd_of pe_int (sim_c fun _ _ => .int i)
theorem pd_bl {i j} : PD X B (.Constant (.bool i) j pos) (dC (.bl i)) := pd_of pe_bl (sim_c fun _ _ => .bl i)
theorem pd_non {j} : PD X B (.Constant .none j pos) (dC .non) := pd_of pe_non (sim_c fun _ _ => .non)
theorem pd_str {i : String} {j} : PD X B (.Constant (.str (Str.ofString i)) j pos) (dC (.str i)) := pd_of pe_str (sim_c fun _ _ => .str i)
/-- a module's constant -/
theorem pd_glob {x : Str} {v : V} {u : Value} {z : D} (hg : Gl X x) (hm : X.mg x = some u) (r : RelV v u) (h : ∀ F H, RelD X.K F H z v) (hd : (x == ("__debug__" : Str)) = false := by decide) : PD X B (.Name x pos) (dC z) :=
  pd_of (pe_glob hg hm r hd) (sim_c h)

/-! ### operators by values -/
abbrev DR2 := D → D → Store → QE → Prop
def VR2 (K : PySem.W.Frag) (ca : Nat → Addr) (dr : DR2) (r : R2) : Prop := ∀ F S H x y v u Q QV, RelS K ca F S H → RelD K F H x v → RelD K F H y u → dr x y S Q → PostE K ca F S H Q QV → r v u H QV
def dOp (dr : DR2) (da db : DE) : DE := fun σ S Q => da σ S fun x S1 => db σ S1 fun y S2 => dr x y S2 Q
theorem sim_op {K : PySem.W.Frag} {dr : DR2} {r : R2} (hr : VR2 K B.ca dr r) (ha : SimE K B da ta) (hb : SimE K B db tb) : SimE K B (dOp dr da db) (tOp r ta tb) := by
  intro F σ S σV H Q QV R q P
  refine ha F σ S σV H _ _ R q fun x v F1 S1 H1 f1 r1 d1 q1 => ?_
  refine hb F1 σ S1 σV H1 _ _ (R.step f1 r1) q1 fun y u F2 S2 H2 f2 r2 d2 q2 => ?_
  exact hr F2 S2 H2 x y v u Q QV r2 (d1.mono r1 f2) d2 q2 (P.step (f1.trans f2))
abbrev DR1 := D → Store → QE → Prop
def VR1 (K : PySem.W.Frag) (ca : Nat → Addr) (dr : DR1) (r : V → Hp → VK → Prop) : Prop := ∀ F S H x v Q QV, RelS K ca F S H → RelD K F H x v → dr x S Q → PostE K ca F S H Q QV → r v H QV
def dUn (dr : DR1) (da : DE) : DE := fun σ S Q => da σ S fun x S1 => dr x S1 Q
theorem sim_un {K : PySem.W.Frag} {dr : DR1} {r : V → Hp → VK → Prop} (hr : VR1 K B.ca dr r) (ha : SimE K B da ta) : SimE K B (dUn dr da) (tUn r ta) := by
  intro F σ S σV H Q QV R q P
  refine ha F σ S σV H _ _ R q fun x v F1 S1 H1 f1 r1 d1 q1 => ?_
  exact hr F1 S1 H1 x v Q QV r1 d1 q1 (P.step f1)
theorem pd_op {op : Operator} {dr : DR2} {r : R2} (ho : OpR X (binaryOp op) r) (hr : VR2 X.K B.ca dr r) (ha : PD X B a da) (hb : PD X B b db) : PD X B (.BinOp a op b pos) (dOp dr da db) := pd_of (pe_op ho pe_w pe_w) (sim_op hr ha hb)
theorem pd_un {op : UnaryOp} {dr : DR1} {r : V → Hp → VK → Prop} (ho : UnR X (unaryOp op) r) (hr : VR1 X.K B.ca dr r) (ha : PD X B a da) : PD X B (.UnaryOp op a pos) (dUn dr da) := pd_of (pe_un ho pe_w) (sim_un hr ha)
theorem pd_cmp {op : CmpOp} {dr : DR2} {r : R2} (ho : OpR X (compareOp op) r) (hr : VR2 X.K B.ca dr r) (ha : PD X B a da) (hb : PD X B b db) (hm : behindInMarks op b = false) : PD X B (.Compare a [op] [b] pos) (dOp dr da db) :=
  pd_of (pe_cmpR ho pe_w pe_w hm) (sim_op hr ha hb)
/-- a value as a test -/
def dTest (d : DE) : DT := fun σ S Q => d σ S fun x S1 => match x with
  | .bl k => Q k S1
  | _ => False
theorem sim_test {K : PySem.W.Frag} (h : SimE K B d t) : SimT K B (dTest d) (tTest t) := by
  intro F σ S σV H Q QV R q P
  refine h F σ S σV H _ _ R q fun x v F1 S1 H1 f1 r1 d1 q1 => ?_
  cases d1 with
  | bl k => exact ⟨k, rfl, P k F1 S1 H1 f1 r1 q1⟩
  | _ => exact q1.elim
theorem pdt_cmp {op : CmpOp} {dr : DR2} {r : R2} (ho : OpR X (compareOp op) r) (hr : VR2 X.K B.ca dr r) (ha : PD X B a da) (hb : PD X B b db) (hm : behindInMarks op b = false) : PDT X B (.Compare a [op] [b] pos) (dTest (dOp dr da db)) :=
  pdt_of (pt_cmpR ho pe_w pe_w hm) (sim_test (sim_op hr ha hb))

/-! ### and, or, not, if -/
def dAnd (t u : DT) : DT := fun σ S Q => t σ S fun c S1 => if c = true then u σ S1 Q else Q false S1
def dOr (t u : DT) : DT := fun σ S Q => t σ S fun c S1 => if c = true then Q true S1 else u σ S1 Q
def dNot (t : DT) : DT := fun σ S Q => t σ S fun c S1 => Q (!c) S1
variable {K : PySem.W.Frag} {dt du : DT} {tt tu : TT}
theorem sim_and (h1 : SimT K B dt tt) (h2 : SimT K B du tu) : SimT K B (dAnd dt du) (tAnd tt tu) := by
  intro F σ S σV H Q QV R q P
  refine h1 F σ S σV H _ _ R q fun c F1 S1 H1 f1 r1 q1 => ?_
  cases c with
  | true => exact h2 F1 σ S1 σV H1 Q QV (R.step f1 r1) q1 fun x F2 S2 H2 f2 => P x F2 S2 H2 (f1.trans f2)
  | false => exact P false F1 S1 H1 f1 r1 q1
theorem sim_or (h1 : SimT K B dt tt) (h2 : SimT K B du tu) : SimT K B (dOr dt du) (tOr tt tu) := by
  intro F σ S σV H Q QV R q P
  refine h1 F σ S σV H _ _ R q fun c F1 S1 H1 f1 r1 q1 => ?_
  cases c with
  | false => exact h2 F1 σ S1 σV H1 Q QV (R.step f1 r1) q1 fun x F2 S2 H2 f2 => P x F2 S2 H2 (f1.trans f2)
  | true => exact P true F1 S1 H1 f1 r1 q1
theorem sim_not (h1 : SimT K B dt tt) : SimT K B (dNot dt) (tNot tt) := by
  intro F σ S σV H Q QV R q P
  exact h1 F σ S σV H _ _ R q fun c F1 S1 H1 f1 r1 q1 => P (!c) F1 S1 H1 f1 r1 q1
theorem pdw_and1 (h : PDT X B a dt) : PDW X B (.BoolOp .And [a] pos) dt := pdw_of (pw_and1 pt_w) h
theorem pdw_or1 (h : PDT X B a dt) : PDW X B (.BoolOp .Or [a] pos) dt := pdw_of (pw_or1 pt_w) h
theorem pdw_and (h : PDT X B a dt) (k : PDW X B (.BoolOp .And (b :: rest) pos) du) : PDW X B (.BoolOp .And (a :: b :: rest) pos) (dAnd dt du) := pdw_of (pw_and pt_w pw_w) (sim_and h k)
theorem pdw_or (h : PDT X B a dt) (k : PDW X B (.BoolOp .Or (b :: rest) pos) du) : PDW X B (.BoolOp .Or (a :: b :: rest) pos) (dOr dt du) := pdw_of (pw_or pt_w pw_w) (sim_or h k)
theorem pdt_not (h : PDT X B a dt) : PDT X B (.UnaryOp .Not a pos) (dNot dt) := pdt_of (pt_not pt_w) (sim_not h)
/-- .. as values, all of them bools -/
def dAndV (da db : DE) : DE := fun σ S Q => da σ S fun x S1 => match x with
  | .bl true => db σ S1 Q
  | .bl false => Q (.bl false) S1
  | _ => False
def dOrV (da db : DE) : DE := fun σ S Q => da σ S fun x S1 => match x with
  | .bl true => Q (.bl true) S1
  | .bl false => db σ S1 Q
  | _ => False
def dNotV (da : DE) : DE := fun σ S Q => da σ S fun x S1 => match x with
  | .bl c => Q (.bl (!c)) S1
  | _ => False
theorem sim_andV (ha : SimE K B da ta) (hb : SimE K B db tb) : SimE K B (dAndV da db) (tAndV ta tb) := by
  intro F σ S σV H Q QV R q P
  refine ha F σ S σV H _ _ R q fun x v F1 S1 H1 f1 r1 d1 q1 => ?_
  cases d1 with
  | bl c =>
    refine ⟨c, rfl, ?_⟩
    cases c with
    | true => exact hb F1 σ S1 σV H1 Q QV (R.step f1 r1) q1 (P.step f1)
    | false => exact P _ _ F1 S1 H1 f1 r1 (.bl false) q1
  | _ => exact q1.elim
theorem sim_orV (ha : SimE K B da ta) (hb : SimE K B db tb) : SimE K B (dOrV da db) (tOrV ta tb) := by
  intro F σ S σV H Q QV R q P
  refine ha F σ S σV H _ _ R q fun x v F1 S1 H1 f1 r1 d1 q1 => ?_
  cases d1 with
  | bl c =>
    refine ⟨c, rfl, ?_⟩
    cases c with
    | false => exact hb F1 σ S1 σV H1 Q QV (R.step f1 r1) q1 (P.step f1)
    | true => exact P _ _ F1 S1 H1 f1 r1 (.bl true) q1
  | _ => exact q1.elim
theorem sim_notV (ha : SimE K B da ta) : SimE K B (dNotV da) (tNotV ta) := by
  intro F σ S σV H Q QV R q P
  refine ha F σ S σV H _ _ R q fun x v F1 S1 H1 f1 r1 d1 q1 => ?_
  cases d1 with
  | bl c => exact ⟨c, rfl, P _ _ F1 S1 H1 f1 r1 (.bl (!c)) q1⟩
  | _ => exact q1.elim
theorem pd_one {op} (h : PD X B a d) : PD X B (.BoolOp op [a] pos) d := pd_of (pe_one pe_w) h
theorem pd_and (ha : PD X B a da) (hb : PD X B (.BoolOp .And (b :: rest) pos) db) : PD X B (.BoolOp .And (a :: b :: rest) pos) (dAndV da db) := pd_of (pe_and pe_w pe_w) (sim_andV ha hb)
theorem pd_or (ha : PD X B a da) (hb : PD X B (.BoolOp .Or (b :: rest) pos) db) : PD X B (.BoolOp .Or (a :: b :: rest) pos) (dOrV da db) := pd_of (pe_or pe_w pe_w) (sim_orV ha hb)
theorem pd_not (h : PD X B a da) : PD X B (.UnaryOp .Not a pos) (dNotV da) := pd_of (pe_not pe_w) (sim_notV h)
def dIf (t : DT) (da db : DE) : DE := fun σ S Q => t σ S fun c S1 => if c = true then da σ S1 Q else db σ S1 Q
theorem sim_if (h : SimT K B dt tt) (ha : SimE K B da ta) (hb : SimE K B db tb) : SimE K B (dIf dt da db) (tIf tt ta tb) := by
  intro F σ S σV H Q QV R q P
  refine h F σ S σV H _ _ R q fun c F1 S1 H1 f1 r1 q1 => ?_
  cases c with
  | true => exact ha F1 σ S1 σV H1 Q QV (R.step f1 r1) q1 (P.step f1)
  | false => exact hb F1 σ S1 σV H1 Q QV (R.step f1 r1) q1 (P.step f1)
theorem pd_if (h : PDT X B c dt) (ha : PD X B a da) (hb : PD X B b db) : PD X B (.IfExp c a b pos) (dIf dt da db) := pd_of (pe_ifExp pt_w pe_w pe_w) (sim_if h ha hb)

/-! ### arguments, displays -/
def dNil : DA := fun _ S Q => Q [] S
def dCons (da : DE) (dr : DA) : DA := fun σ S Q => da σ S fun x S1 => dr σ S1 fun xs S2 => Q (x :: xs) S2
theorem sim_nil : SimA K B 0 dNil tNil := fun F σ S σV H Q QV R q P => P [] [] F S H Fr.refl R.st .nil rfl q
theorem sim_cons {dr : DA} {tr : TA} (ha : SimE K B da ta) (hr : SimA K B n dr tr) : SimA K B (n + 1) (dCons da dr) (tCons ta tr) := by
  intro F σ S σV H Q QV R q P
  refine ha F σ S σV H _ _ R q fun x v F1 S1 H1 f1 r1 d1 q1 => ?_
  refine hr F1 σ S1 σV H1 _ _ (R.step f1 r1) q1 fun xs vs F2 S2 H2 f2 r2 d2 l2 q2 => ?_
  exact P (x :: xs) (v :: vs) F2 S2 H2 (f1.trans f2) r2 (.cons (d1.mono r1 f2) d2) (by rw [List.length_cons, l2]) q2
theorem pda_nil : PDA X B [] 0 dNil := pda_of pa_nil sim_nil
theorem pda_cons {dr : DA} (ha : PD X B e da) (hr : PDA X B es n dr) (hs : starEach (e :: es) X.env = (false, eval e X.env) :: starEach es X.env := by rfl) : PDA X B (e :: es) (n + 1) (dCons da dr) := pda_of (pa_cons pe_w pa_w hs) (sim_cons ha hr)
def dTup (da : DA) : DE := fun σ S Q => da σ S fun xs S1 => Q (.tup xs) S1
theorem sim_tup {da : DA} {ta : TA} (hn : n ≤ sizeLine) (h : SimA K B n da ta) : SimE K B (dTup da) (tTup ta) := by
  intro F σ S σV H Q QV R q P
  refine h F σ S σV H _ _ R q fun xs vs F1 S1 H1 f1 r1 d1 l1 q1 => ⟨by rw [← d1.length, l1]; exact hn, fun p hp => ?_⟩
  exact P _ _ F1 S1 _ (f1.trans (fr_newD hp)) (r1.newD hp) (.tup (SqT.of upd_same) (d1.mono r1 (fr_newD hp))) q1
theorem pd_tup {x1} {da : DA} (h : PDA X B es n da) (hn : n ≤ sizeLine := by decide) : PD X B (.Tuple es x1 pos) (dTup da) := pd_of (pe_tup pa_w) (sim_tup hn h)
/-- a list that stays as it is, a list that will change -/
def dLst (da : DA) : DE := fun σ S Q => da σ S fun xs S1 => Q (.lst xs) S1
def dLstM (da : DA) : DE := fun σ S Q => da σ S fun xs S1 => ∀ p, S1 p = none → Q (.obj p) (put S1 p (.lst xs))
theorem sim_lst {da : DA} {ta : TA} (hn : n ≤ sizeLine) (h : SimA K B n da ta) : SimE K B (dLst da) (tLst ta) := by
  intro F σ S σV H Q QV R q P
  refine h F σ S σV H _ _ R q fun xs vs F1 S1 H1 f1 r1 d1 l1 q1 => ⟨by rw [← d1.length, l1]; exact hn, fun p hp => ?_⟩
  exact P _ _ _ S1 _ (f1.trans (fr_newF hp)) (r1.newF hp) (.lst upd_same (.inl rfl) (d1.mono r1 (fr_newF hp))) q1
theorem sim_lstM {da : DA} {ta : TA} (hn : n ≤ sizeLine) (h : SimA K B n da ta) : SimE K B (dLstM da) (tLst ta) := by
  intro F σ S σV H Q QV R q P
  refine h F σ S σV H _ _ R q fun xs vs F1 S1 H1 f1 r1 d1 l1 q1 => ⟨by rw [← d1.length, l1]; exact hn, fun p hp => ?_⟩
  exact P _ _ F1 _ _ (f1.trans (fr_new hp)) (r1.new (o := .lst xs) hp ⟨vs, upd_same, d1.mono r1 (fr_newD hp)⟩) (.obj p) (q1 p (r1.free hp))
theorem pd_lst {da : DA} (h : PDA X B es n da) (hn : n ≤ sizeLine := by decide) : PD X B (.List es pos) (dLst da) := pd_of (pe_lst pa_w) (sim_lst hn h)
theorem pd_lstM {da : DA} (h : PDA X B es n da) (hn : n ≤ sizeLine := by decide) : PD X B (.List es pos) (dLstM da) := pd_of (pe_lst pa_w) (sim_lstM hn h)
/-- a list of the store stays as it is from here on -/
def dFrz (da : DE) : DE := fun σ S Q => da σ S fun x S1 => match x with
  | .obj p => match S1 p with
    | some (.lst l) => Q (.lst l) (rid S1 p)
    | some (.dic l) => Q (.dic l) (rid S1 p)
    | _ => False
  | _ => False
theorem sim_frz (h : SimE K B d t) : SimE K B (dFrz d) t := by
  intro F σ S σV H Q QV R q P
  refine h F σ S σV H _ _ R q fun x v F1 S1 H1 f1 r1 d1 q1 => ?_
  cases d1 with
  | obj p =>
    dsimp only at q1
    cases e : S1 p with
    | none => rw [e] at q1; exact q1.elim
    | some o =>
      rw [e] at q1
      obtain ⟨_, ro⟩ := r1.ob p o e
      cases o with
      | lst l =>
        obtain ⟨vs, hv, rv⟩ := ro
        exact P _ _ _ _ H1 (f1.trans (fr_frz e)) (r1.frz e) (.lst hv (.inl rfl) (rv.mono r1 (fr_frz e))) q1
      | dic l =>
        obtain ⟨vs, hv, rv⟩ := ro
        exact P _ _ _ _ H1 (f1.trans (fr_frz e)) (r1.frz e) (.dic (.inl hv) (.inl rfl) (rv.mono r1 (fr_frz e))) q1
      | ins c fs => exact q1.elim
  | _ => exact q1.elim
theorem pd_frz (h : PD X B e d) : PD X B e (dFrz d) := sim_frz h
end
end DL
/-! DL3: operators, subscripts, built-in calls over data. -/
namespace DL
open PySem PySem.Spec PyProof.Rows L2

def ofO {α : Type} (o : Option α) (k : α → Prop) : Prop := match o with
  | some v => k v
  | none => False
theorem ofO_some {α : Type} {v : α} {k : α → Prop} : ofO (some v) k = k v := rfl
theorem ofO_ex {α : Type} {o : Option α} {k : α → Prop} (h : ofO o k) : ∃ v, o = some v ∧ k v := by
  cases o with
  | none => exact h.elim
  | some v => exact ⟨v, rfl, h⟩
theorem ofO_of {α : Type} {o : Option α} {k : α → Prop} {v : α} (e : o = some v) (h : k v) : ofO o k := by rw [e]; exact h

def asL (S : Store) : D → Option (List D)
  | .lst l => some l
  | .scr l => some l
  | .obj p => match S p with
    | some (.lst l) => some l
    | _ => none
  | _ => none
def asT : D → Option (List D)
  | .tup l => some l
  | _ => none
/-- a dict of the store -/
def asKo (S : Store) : D → Option (List (String × D))
  | .obj p => match S p with
    | some (.dic k) => some k
    | _ => none
  | _ => none
def asK (S : Store) : D → Option (List (String × D))
  | .dic k => some k
  | .obj p => match S p with
    | some (.dic k) => some k
    | _ => none
  | _ => none
section
variable {K : PySem.W.Frag} {ca : Nat → Addr} {F F' : Addr → Prop} {S S' : Store} {H H' : Hp} {B : Bc} {Q : QE} {QV : VK} {d : D} {v : V} {l : List D}
theorem asL_rel (r : RelS K ca F S H) (q : RelD K F H d v) (e : asL S d = some l) : ∃ a vs, v = .ref a ∧ SqL K H a vs ∧ RelDs K F H l vs := by
  cases q with
  | lst h f q => cases e; exact ⟨_, _, rfl, SqL.of h, q⟩
  | scr h q => cases e; exact ⟨_, _, rfl, h.sq, q⟩
  | obj p =>
    have e : (match S p with | some (Ob.lst m) => some m | _ => none) = some l := e
    cases w : S p with
    | none => rw [w] at e; cases e
    | some o =>
      rw [w] at e
      cases o with
      | lst m =>
        cases e
        obtain ⟨_, vs, h, q⟩ := r.ob p _ w
        exact ⟨_, _, rfl, SqL.of h, q⟩
      | _ => cases e
  | _ => cases e
theorem asT_rel (q : RelD K F H d v) (e : asT d = some l) : ∃ a vs, v = .ref a ∧ SqT K H a vs ∧ RelDs K F H l vs := by
  cases q with
  | tup h q => cases e; exact ⟨_, _, rfl, h, q⟩
  | _ => cases e
theorem asK_rel {l : List (String × D)} (r : RelS K ca F S H) (q : RelD K F H d v) (e : asK S d = some l) : ∃ a vs, v = .ref a ∧ Rd H a (.dK vs) ∧ RelKs K F H l vs := by
  cases q with
  | dic h f q => cases e; exact ⟨_, _, rfl, h, q⟩
  | obj p =>
    have e : (match S p with | some (Ob.dic m) => some m | _ => none) = some l := e
    cases w : S p with
    | none => rw [w] at e; cases e
    | some o =>
      rw [w] at e
      cases o with
      | dic m =>
        cases e
        obtain ⟨_, vs, h, q⟩ := r.ob p _ w
        exact ⟨_, _, rfl, .inl h, q⟩
      | _ => cases e
  | _ => cases e
theorem asKo_rel {l : List (String × D)} (r : RelS K ca F S H) (q : RelD K F H d v) (e : asKo S d = some l) : ∃ a vs, v = .ref a ∧ H a = some (.dK vs) ∧ RelKs K F H l vs := by
  cases q with
  | obj p =>
    have e : (match S p with | some (Ob.dic m) => some m | _ => none) = some l := e
    cases w : S p with
    | none => rw [w] at e; cases e
    | some o =>
      rw [w] at e
      cases o with
      | dic m =>
        cases e
        obtain ⟨_, vs, h, q⟩ := r.ob p _ w
        exact ⟨_, _, rfl, h, q⟩
      | _ => cases e
  | _ => cases e
theorem atI_rel {vs : List V} (q : RelDs K F H l vs) {i : Int} {x : D} (e : atI l i = some x) : ∃ u, atI vs i = some u ∧ RelD K F H x u := by
  unfold atI at e ⊢
  rw [← q.length]
  cases w : ixN l.length i with
  | none => rw [w] at e; cases e
  | some j =>
    rw [w] at e
    exact q.get e
theorem ks_lookup {kd : List (String × D)} {kv : List (Key × V)} (q : RelKs K F H kd kv) (k : String) :
    (∀ x, kd.lookup k = some x → ∃ u, valV kv (.inr (Str.ofString k)) = some u ∧ RelD K F H x u) ∧ (kd.lookup k = none → valV kv (.inr (Str.ofString k)) = none) := by
  induction kd generalizing kv with
  | nil => cases q; exact ⟨fun x e => (by cases e), fun _ => rfl⟩
  | cons p r ih =>
    cases q with
    | @cons s d v _ vs h q =>
      by_cases e : k = s
      · subst e
        refine ⟨fun x ex => ?_, fun ex => ?_⟩
        · rw [List.lookup_cons_self] at ex
          cases ex
          exact ⟨v, valV_pos rfl, h⟩
        · rw [List.lookup_cons_self] at ex; cases ex
      · have ne : ¬ (Sum.inr (Str.ofString s) : Key) = Sum.inr (Str.ofString k) := fun z => e (ofS_inj (Sum.inr.inj z)).symm
        have nb : (k == s) = false := by simpa using e
        rw [List.lookup_cons, nb, valV_neg ne]
        exact ih q
theorem ks_len {kd : List (String × D)} {kv : List (Key × V)} (q : RelKs K F H kd kv) : kd.length = kv.length := by
  induction kd generalizing kv with
  | nil => cases q; rfl
  | cons p r ih => cases q with | cons h q => rw [List.length_cons, List.length_cons, ih q]

/-! ### texts, once more -/
theorem ofS_app (a b : String) : Str.ofString a ++ Str.ofString b = Str.ofString (a ++ b) := by
  show Str.append _ _ = _
  unfold Str.append
  rw [ofS_eq, ofS_eq, ofS_eq]
  simp
theorem ofS_len (a : String) : (Str.ofString a).length = a.length := by
  rw [ofS_eq]
  simp [Str.length, String.length_toList]
theorem ofS_cps (a : String) : (Str.ofString a).cps.toList = a.toList.map Char.toNat := by
  rw [ofS_eq]
theorem ofS_one (c : Char) : Str.ofString (String.singleton c) = ⟨#[c.toNat]⟩ := by
  rw [ofS_eq]
  simp

/-! ### + - * // % and the like -/
abbrev lim : Nat := 16777216
theorem lim_eq : sizeLine = lim := sizeLine_eq
def dAdd : DR2 := fun x y S Q => match x, y with
  | .int i, .int j => Q (.int (i + j)) S
  | .str a, .str b => a.length + b.length ≤ lim ∧ Q (.str (a ++ b)) S
  | .lst a, .lst b => a.length + b.length ≤ lim ∧ Q (.lst (a ++ b)) S
  | .tup a, .tup b => a ≠ [] ∧ a.length + b.length ≤ lim ∧ Q (.tup (a ++ b)) S
  | _, _ => False
theorem op_addD {X : Cx} : OpR X (binaryOp .Add) (fun x y H Q => (rI0 (fun i j => .int (i + j)) x y H Q) ∨ (∃ i j, x = .str i ∧ y = .str j ∧ i.length + j.length ≤ sizeLine ∧ Q (.str (i ++ j)) H) ∨ rCat x y H Q ∨ rCatT X.K x y H Q) :=
  OpR.or op_add (OpR.or op_add_str (OpR.or op_cat op_catT))
theorem vr_add : VR2 K ca dAdd (fun x y H Q => (rI0 (fun i j => .int (i + j)) x y H Q) ∨ (∃ i j, x = .str i ∧ y = .str j ∧ i.length + j.length ≤ sizeLine ∧ Q (.str (i ++ j)) H) ∨ rCat x y H Q ∨ rCatT K x y H Q) := by
  intro F S H x y v u Q QV r rx ry q P
  have hl := lim_eq
  cases rx with
  | int i => cases ry with
    | int j => exact .inl ⟨i, j, rfl, rfl, P.at r (.int _) q⟩
    | _ => exact q.elim
  | str a => cases ry with
    | str b =>
      obtain ⟨h, q⟩ := q
      refine .inr (.inl ⟨_, _, rfl, rfl, by rw [ofS_len, ofS_len, hl]; exact h, ?_⟩)
      rw [ofS_app]
      exact P.at r (.str _) q
    | _ => exact q.elim
  | lst h f q1 => cases ry with
    | lst h2 f2 q2 =>
      obtain ⟨h3, q⟩ := q
      refine .inr (.inr (.inl ⟨_, _, _, _, rfl, rfl, h, h2, by rw [← q1.length, ← q2.length, hl]; exact h3, fun p hp => ?_⟩))
      exact P _ _ _ _ _ (fr_newF hp) (r.newF hp) (.lst upd_same (.inl rfl) ((q1.append q2).mono r (fr_newF hp))) q
    | _ => exact q.elim
  | tup h q1 => cases ry with
    | tup h2 q2 =>
      obtain ⟨hn, h3, q⟩ := q
      refine .inr (.inr (.inr ⟨_, _, _, _, rfl, rfl, h, h2, fun z => ?_, by rw [← q1.length, ← q2.length, hl]; exact h3, fun z => ?_, fun z p hp => ?_⟩))
      · subst z
        cases q1
        exact hn rfl
      · subst z
        cases q2
        rw [List.append_nil] at q
        exact P.at r (.tup h q1) q
      · exact P _ _ _ _ _ (fr_newD hp) (r.newD hp) (.tup (SqT.of upd_same) ((q1.append q2).mono r (fr_newD hp))) q
    | _ => exact q.elim
  | _ => exact q.elim
def dInt2 (C : Int → Int → Prop) (g : Int → Int → D) : DR2 := fun x y S Q => match x, y with
  | .int i, .int j => C i j ∧ Q (g i j) S
  | _, _ => False
def dInt0 (g : Int → Int → D) : DR2 := fun x y S Q => match x, y with
  | .int i, .int j => Q (g i j) S
  | _, _ => False
theorem vr_int2 {C C' : Int → Int → Prop} {g : Int → Int → D} {g' : Int → Int → V} (hC : ∀ i j, C i j → C' i j) (hg : ∀ i j F H, RelD K F H (g i j) (g' i j)) : VR2 K ca (dInt2 C g) (rI C' g') := by
  intro F S H x y v u Q QV r rx ry q P
  cases rx with
  | int i => cases ry with
    | int j => exact ⟨i, j, rfl, rfl, hC i j q.1, P.at r (hg i j F H) q.2⟩
    | _ => exact q.elim
  | _ => exact q.elim
theorem vr_int0 {g : Int → Int → D} {g' : Int → Int → V} (hg : ∀ i j F H, RelD K F H (g i j) (g' i j)) : VR2 K ca (dInt0 g) (rI0 g') := by
  intro F S H x y v u Q QV r rx ry q P
  cases rx with
  | int i => cases ry with
    | int j => exact ⟨i, j, rfl, rfl, P.at r (hg i j F H) q⟩
    | _ => exact q.elim
  | _ => exact q.elim
abbrev dSub : DR2 := dInt0 fun i j => .int (i - j)
abbrev dMul : DR2 := dInt2 CMul fun i j => .int (i * j)
abbrev dDiv : DR2 := dInt2 CDiv fun i j => .int (i / j)
abbrev dMod : DR2 := dInt2 (fun _ j => 0 < j) fun i j => .int (i % j)
abbrev dLt : DR2 := dInt0 fun i j => .bl (decide (i < j))
abbrev dLe : DR2 := dInt0 fun i j => .bl (decide (i ≤ j))
abbrev dGt : DR2 := dInt0 fun i j => .bl (decide (j < i))
abbrev dGe : DR2 := dInt0 fun i j => .bl (decide (j ≤ i))
theorem vr_sub : VR2 K ca dSub (rI0 fun i j => .int (i - j)) := vr_int0 fun _ _ _ _ => .int _
theorem vr_mul : VR2 K ca dMul (rI CMul fun i j => .int (i * j)) := vr_int2 (fun _ _ h => h) fun _ _ _ _ => .int _
theorem vr_div : VR2 K ca dDiv (rI CDiv fun i j => .int (i / j)) := vr_int2 (fun _ _ h => h) fun _ _ _ _ => .int _
theorem vr_mod : VR2 K ca dMod (rI (fun _ j => 0 < j) fun i j => .int (i % j)) := vr_int2 (fun _ _ h => h) fun _ _ _ _ => .int _
theorem vr_lt : VR2 K ca dLt (rI0 fun i j => .bl (decide (i < j))) := vr_int0 fun _ _ _ _ => .bl _
theorem vr_le : VR2 K ca dLe (rI0 fun i j => .bl (decide (i ≤ j))) := vr_int0 fun _ _ _ _ => .bl _
theorem vr_gt : VR2 K ca dGt (rI0 fun i j => .bl (decide (j < i))) := vr_int0 fun _ _ _ _ => .bl _
theorem vr_ge : VR2 K ca dGe (rI0 fun i j => .bl (decide (j ≤ i))) := vr_int0 fun _ _ _ _ => .bl _
def dNeg : DR1 := fun x S Q => match x with
  | .int i => Q (.int (-i)) S
  | _ => False
theorem vr_neg : VR1 K ca dNeg (rU fun i => .int (-i)) := by
  intro F S H x v Q QV r rx q P
  cases rx with
  | int i => exact ⟨i, rfl, P.at r (.int _) q⟩
  | _ => exact q.elim

/-! ### == of data -/
mutual
def toP : D → PyData
  | .non => .none
  | .bl b => .bool b
  | .int i => .int i
  | .str s => .str (Str.ofString s)
  | .tup l => .tuple (toPs l)
  | .lst l => .list (toPs l)
  | _ => .none
def toPs : List D → List PyData
  | [] => []
  | d :: l => toP d :: toPs l
end
mutual
/-- no dicts, no things of the store in it -/
def plainD : D → Bool
  | .non => true
  | .bl _ => true
  | .int _ => true
  | .str _ => true
  | .tup l => plainDs l
  | .lst l => plainDs l
  | _ => false
def plainDs : List D → Bool
  | [] => true
  | d :: l => plainD d && plainDs l
end
mutual
def depD : D → Nat
  | .tup l => depDs l + 1
  | .lst l => depDs l + 1
  | _ => 0
def depDs : List D → Nat
  | [] => 0
  | d :: l => max (depD d) (depDs l)
end
mutual
def eqD : D → D → Bool
  | .non, .non => true
  | .bl a, .bl b => a == b
  | .bl a, .int b => (if a then 1 else 0) == b
  | .int a, .bl b => a == (if b then 1 else 0)
  | .int a, .int b => a == b
  | .str a, .str b => a == b
  | .tup a, .tup b => eqDs a b
  | .lst a, .lst b => eqDs a b
  | _, _ => false
def eqDs : List D → List D → Bool
  | [], [] => true
  | x :: xs, y :: ys => eqD x y && eqDs xs ys
  | _, _ => false
end
end

mutual
theorem eqv_toP : ∀ x y : D, plainD x = true → plainD y = true → PyData.eqv (toP x) (toP y) = eqD x y
  | .non, y, _, hy => by cases y <;> first | rfl | cases hy
  | .bl b, y, _, hy => by cases y <;> first | rfl | cases hy
  | .int b, y, _, hy => by cases y <;> first | rfl | cases hy
  | .str b, y, _, hy => by
    cases y <;> first | rfl | cases hy | skip
    rename_i c
    show ((Str.ofString b == Str.ofString c) : Bool) = (b == c)
    by_cases e : b = c
    · subst e; simp
    · have e' : ¬ Str.ofString b = Str.ofString c := fun z => e (ofS_inj z)
      rw [beq_eq_false_iff_ne.mpr e, beq_eq_false_iff_ne.mpr e']
  | .tup l, y, hx, hy => by
    cases y with
    | tup m => exact eqvs_toP l m hx hy
    | _ => first | rfl | cases hy
  | .lst l, y, hx, hy => by
    cases y with
    | lst m => exact eqvs_toP l m hx hy
    | _ => first | rfl | cases hy
  | .dic _, _, hx, _ => by cases hx
  | .scr _, _, hx, _ => by cases hx
  | .obj _, _, hx, _ => by cases hx
  | .ty _, _, hx, _ => by cases hx
theorem eqvs_toP : ∀ xs ys : List D, plainDs xs = true → plainDs ys = true → PyData.eqvAll (toPs xs) (toPs ys) = eqDs xs ys
  | [], [], _, _ => rfl
  | [], _ :: _, _, _ => rfl
  | _ :: _, [], _, _ => rfl
  | x :: xs, y :: ys, hx, hy => by
    have hx' := Bool.and_eq_true_iff.mp (show (plainD x && plainDs xs) = true from hx)
    have hy' := Bool.and_eq_true_iff.mp (show (plainD y && plainDs ys) = true from hy)
    show (PyData.eqv (toP x) (toP y) && PyData.eqvAll (toPs xs) (toPs ys)) = (eqD x y && eqDs xs ys)
    rw [eqv_toP x y hx'.1 hy'.1, eqvs_toP xs ys hx'.2 hy'.2]
end
theorem strOk_ofS (s : String) : PyData.strOk (Str.ofString s) = true := by
  unfold PyData.strOk
  rw [ofS_eq]
  simp only [List.all_toArray, List.all_map, List.all_eq_true]
  intro c _
  have h := c.valid
  simp only [UInt32.isValidChar, Nat.isValidChar] at h
  show decide (c.val.toNat < 0x110000) = true
  exact decide_eq_true (by omega)
mutual
theorem canLay_toP : ∀ x : D, plainD x = true → (toP x).canLay0 = true
  | .non, _ => rfl
  | .bl _, _ => rfl
  | .int _, _ => rfl
  | .str s, _ => strOk_ofS s
  | .tup l, h => canLays_toP l h
  | .lst l, h => canLays_toP l h
  | .dic _, h => by cases h
  | .scr _, h => by cases h
  | .obj _, h => by cases h
  | .ty _, h => by cases h
theorem canLays_toP : ∀ xs : List D, plainDs xs = true → PyData.canLayAll0 (toPs xs) = true
  | [], _ => rfl
  | x :: xs, h => by
    have h' := Bool.and_eq_true_iff.mp (show (plainD x && plainDs xs) = true from h)
    show ((toP x).canLay0 && PyData.canLayAll0 (toPs xs)) = true
    rw [canLay_toP x h'.1, canLays_toP xs h'.2]
    rfl
end
mutual
theorem depth_toP : ∀ x : D, (toP x).depth = depD x
  | .non => rfl
  | .bl _ => rfl
  | .int _ => rfl
  | .str s => rfl
  | .tup l => congrArg (· + 1) (depths_toP l)
  | .lst l => congrArg (· + 1) (depths_toP l)
  | .dic _ => rfl
  | .scr _ => rfl
  | .obj _ => rfl
  | .ty _ => rfl
theorem depths_toP : ∀ xs : List D, PyData.depthAll (toPs xs) = depDs xs
  | [] => rfl
  | x :: xs => by
    show max (toP x).depth (PyData.depthAll (toPs xs)) = max (depD x) (depDs xs)
    rw [depth_toP x, depths_toP xs]
end
def okD (x : D) : Bool := plainD x && decide (depD x ≤ 64)
theorem shaped_toP {x : D} (h : okD x = true) : SeqAt.shaped (toP x) = true := by
  have h' := Bool.and_eq_true_iff.mp h
  unfold SeqAt.shaped
  rw [canLay_toP x h'.1, depth_toP]
  exact h'.2
section
variable {K : PySem.W.Frag} {ca : Nat → Addr} {F F' : Addr → Prop} {S S' : Store} {H H' : Hp} {B : Bc} {Q : QE} {QV : VK} {d : D} {v : V} {l : List D}
mutual
theorem dp_toP : ∀ {d : D} {v : V}, RelD K F H d v → plainD d = true → Dp K H v (toP d)
  | _, _, .non, _ => .non
  | _, _, .bl b, _ => .bl b
  | _, _, .int i, _ => .int i
  | _, _, .str s, _ => .str _
  | _, _, .tup h q, p => .tup h (dps_toP q p)
  | _, _, .lst h f q, p => .lst (SqL.of h) (dps_toP q p)
  | _, _, .dic _ _ _, p => by cases p
  | _, _, .scr _ _, p => by cases p
  | _, _, .obj _, p => by cases p
  | _, _, .ty _, p => by cases p
theorem dps_toP : ∀ {d : List D} {v : List V}, RelDs K F H d v → plainDs d = true → DpAll K H v (toPs d)
  | _, _, .nil, _ => .nil
  | _, _, .cons h q, p =>
    have p' := Bool.and_eq_true_iff.mp (show (plainD _ && plainDs _) = true from p)
    .cons (dp_toP h p'.1) (dps_toP q p'.2)
end
/-- what a comparison sees of a list that may change -/
def sees (S : Store) : D → D
  | .obj p => match S p with
    | some (.lst l) => .lst l
    | _ => .obj p
  | x => x
theorem dp_sees (r : RelS K ca F S H) (h : RelD K F H d v) (p : plainD (sees S d) = true) : Dp K H v (toP (sees S d)) := by
  cases h with
  | obj a =>
    cases e : S a with
    | none => rw [show sees S (.obj a) = .obj a by simp [sees, e]] at p; cases p
    | some o =>
      cases o with
      | lst l =>
        rw [show sees S (.obj a) = .lst l by simp [sees, e]] at p ⊢
        obtain ⟨_, vs, hv, rv⟩ := r.ob a _ e
        exact .lst (SqL.of hv) (dps_toP rv p)
      | dic l => rw [show sees S (.obj a) = .obj a by simp [sees, e]] at p; cases p
      | ins c l => rw [show sees S (.obj a) = .obj a by simp [sees, e]] at p; cases p
  | non => exact dp_toP (F := F) .non p
  | bl b => exact dp_toP (F := F) (.bl b) p
  | int i => exact dp_toP (F := F) (.int i) p
  | str i => exact dp_toP (F := F) (.str i) p
  | tup h q => exact dp_toP (.tup h q) p
  | lst h f q => exact dp_toP (.lst h f q) p
  | dic _ _ _ => cases p
  | scr _ _ => cases p
  | ty _ => cases p
def dEq : DR2 := fun x y S Q => okD (sees S x) = true ∧ okD (sees S y) = true ∧ Q (.bl (eqD (sees S x) (sees S y))) S
def dNe : DR2 := fun x y S Q => okD (sees S x) = true ∧ okD (sees S y) = true ∧ Q (.bl (!eqD (sees S x) (sees S y))) S
theorem vr_eq : VR2 K ca dEq (rEqD K) := by
  intro F S H x y v u Q QV r rx ry q P
  obtain ⟨hx, hy, q⟩ := q
  have px := (Bool.and_eq_true_iff.mp hx).1
  have py := (Bool.and_eq_true_iff.mp hy).1
  refine ⟨toP (sees S x), toP (sees S y), dp_sees r rx px, dp_sees r ry py, shaped_toP hx, shaped_toP hy, ?_⟩
  rw [eqv_toP _ _ px py]
  exact P.at r (.bl _) q
theorem vr_ne : VR2 K ca dNe (rNeD K) := by
  intro F S H x y v u Q QV r rx ry q P
  obtain ⟨hx, hy, q⟩ := q
  have px := (Bool.and_eq_true_iff.mp hx).1
  have py := (Bool.and_eq_true_iff.mp hy).1
  refine ⟨toP (sees S x), toP (sees S y), dp_sees r rx px, dp_sees r ry py, shaped_toP hx, shaped_toP hy, ?_⟩
  rw [eqv_toP _ _ px py]
  exact P.at r (.bl _) q
/-- is None -/
def isNonD : D → Bool
  | .non => true
  | _ => false
def dIs : DR2 := fun x y S Q => match y with
  | .non => Q (.bl (isNonD x)) S
  | _ => False
def dIsNot : DR2 := fun x y S Q => match y with
  | .non => Q (.bl (!isNonD x)) S
  | _ => False
theorem isNon_rel (rx : RelD K F H d v) : decide (v = .non) = isNonD d := by
  cases rx <;> first | rfl | exact decide_eq_false (fun z => by cases z)
theorem vr_is : VR2 K ca dIs (fun x y H Q => y = .non ∧ Q (.bl (decide (x = .non))) H) := by
  intro F S H x y v u Q QV r rx ry q P
  cases ry with
  | non =>
    refine ⟨rfl, ?_⟩
    rw [isNon_rel rx]
    exact P.at r (.bl _) q
  | _ => exact q.elim
theorem vr_isnot : VR2 K ca dIsNot (fun x y H Q => y = .non ∧ Q (.bl (!decide (x = .non))) H) := by
  intro F S H x y v u Q QV r rx ry q P
  cases ry with
  | non =>
    refine ⟨rfl, ?_⟩
    rw [isNon_rel rx]
    exact P.at r (.bl _) q
  | _ => exact q.elim

/-! ### in -/
def flatD : D → Bool
  | .non => true
  | .bl _ => true
  | .int _ => true
  | .str _ => true
  | _ => false
theorem flat_rel (rx : RelD K F H d v) (h : flatD d = true) : flatV v = true := by
  cases rx <;> first | rfl | cases h
theorem flats_rel : ∀ {l : List D} {vs : List V}, RelDs K F H l vs → l.all flatD = true → vs.all flatV = true
  | _, _, .nil, _ => rfl
  | _, _, .cons h q, p => by
    rw [List.all_cons, Bool.and_eq_true] at p ⊢
    exact ⟨flat_rel h p.1, flats_rel q p.2⟩
theorem eqV_rel {x y : D} {v u : V} (rx : RelD K F H x v) (ry : RelD K F H y u) (hx : flatD x = true) (hy : flatD y = true) : eqV v u = eqD x y := by
  cases rx with
  | str b =>
    cases ry with
    | str c =>
      show ((Str.ofString b == Str.ofString c) : Bool) = (b == c)
      by_cases e : b = c
      · subst e; simp
      · have e' : ¬ Str.ofString b = Str.ofString c := fun z => e (ofS_inj z)
        rw [beq_eq_false_iff_ne.mpr e, beq_eq_false_iff_ne.mpr e']
    | _ => first | rfl | cases hy
  | _ => first | (cases ry <;> first | rfl | cases hy) | cases hx
def inD (x : D) (l : List D) : Bool := l.any fun y => eqD y x
theorem inV_rel {x : D} {v : V} (rx : RelD K F H x v) (hx : flatD x = true) : ∀ {l : List D} {vs : List V}, RelDs K F H l vs → l.all flatD = true → inV v vs = inD x l
  | _, _, .nil, _ => rfl
  | _, _, .cons h q, p => by
    rw [List.all_cons, Bool.and_eq_true] at p
    show (eqV _ v || inV v _) = (eqD _ x || inD x _)
    rw [eqV_rel h rx p.1 hx, inV_rel rx hx q p.2]
def inR (neg : Bool) (b : Bool) : Bool := if neg then !b else b
def dIn (neg : Bool) : DR2 := fun x y S Q => match asK S y with
  | some kd => match x with
    | .str k => Q (.bl (inR neg (kd.lookup k).isSome)) S
    | _ => False
  | none => match y with
    | .str t => match x with
      | .str c => match c.toList with
        | [ch] => Q (.bl (inR neg (decide (ch ∈ t.toList)))) S
        | _ => False
      | _ => False
    | .tup l => flatD x = true ∧ l.all flatD = true ∧ Q (.bl (inR neg (inD x l))) S
    | _ => match asL S y with
      | some l => flatD x = true ∧ l.all flatD = true ∧ Q (.bl (inR neg (inD x l))) S
      | none => False
def rInK (neg : Bool) : R2 := fun y x H Q => ∃ a o, x = .ref a ∧ DGet H a y o ∧ Q (.bl (inR neg o.isSome)) H
theorem op_inK {X : Cx} (hu : X.A.units + 1 < cLine) : OpR X (compareOp .In) (rInK false) := by
  intro pins s σ H x y v u Q I rx ry h
  obtain ⟨a, o, rfl, g, q⟩ := h
  obtain rfl : u = Value.ref a := ry
  exact d_in hu I g rx fun s1 I1 => ⟨.bl o.isSome, H, I1, rfl, q⟩
theorem op_ninK {X : Cx} (hu : X.A.units + 1 < cLine) : OpR X (compareOp .NotIn) (rInK true) := by
  intro pins s σ H x y v u Q I rx ry h
  obtain ⟨a, o, rfl, g, q⟩ := h
  obtain rfl : u = Value.ref a := ry
  exact d_notIn hu I g rx fun s1 I1 => ⟨.bl (!o.isSome), H, I1, rfl, q⟩
def rInC (neg : Bool) : R2 := fun x y H Q => ∃ (c : Nat) (z : Str), x = .str ⟨#[c]⟩ ∧ y = .str z ∧ Q (.bl (inR neg (decide (c ∈ z.cps.toList)))) H
theorem op_inC {X : Cx} : OpR X (compareOp .In) (rInC false) := op_in_sign
theorem op_ninC {X : Cx} : OpR X (compareOp .NotIn) (rInC true) := op_notIn_sign
theorem op_inD {X : Cx} (hu : X.A.units + 1 < cLine) : OpR X (compareOp .In) (fun x y H Q => rInK false x y H Q ∨ rInC false x y H Q ∨ rIn X.K false x y H Q) := OpR.or (op_inK hu) (OpR.or op_inC op_in_seq)
theorem op_ninD {X : Cx} (hu : X.A.units + 1 < cLine) : OpR X (compareOp .NotIn) (fun x y H Q => rInK true x y H Q ∨ rInC true x y H Q ∨ rIn X.K true x y H Q) := OpR.or (op_ninK hu) (OpR.or op_ninC op_notIn_seq)
theorem mem_nat {c : Char} {l : List Char} : c.toNat ∈ l.map Char.toNat ↔ c ∈ l := by
  rw [List.mem_map]
  exact ⟨fun ⟨x, h, e⟩ => charNat_inj e ▸ h, fun h => ⟨c, h, rfl⟩⟩
theorem dIn_seq {neg : Bool} {x : D} {v u : V} {a : Addr} {vs : List V} {l : List D} (r : RelS K ca F S H) (rx : RelD K F H x v) (e : u = .ref a) (hs : SqL K H a vs ∨ SqT K H a vs) (ql : RelDs K F H l vs)
    (h : flatD x = true ∧ l.all flatD = true ∧ Q (.bl (inR neg (inD x l))) S) (P : PostE K ca F S H Q QV) : rIn K neg v u H QV := by
  refine ⟨a, vs, e, hs, flat_rel rx h.1, flats_rel ql h.2.1, ?_⟩
  rw [inV_rel rx h.1 ql h.2.1]
  exact P.at r (.bl _) h.2.2
theorem vr_in (neg : Bool) : VR2 K ca (dIn neg) (fun x y H Q => rInK neg x y H Q ∨ rInC neg x y H Q ∨ rIn K neg x y H Q) := by
  intro F S H x y v u Q QV r rx ry q P
  unfold dIn at q
  cases ek : asK S y with
  | some kd =>
    rw [ek] at q
    obtain ⟨a, vs, eu, hd, qk⟩ := asK_rel r ry ek
    cases rx with
    | str k =>
      left
      refine ⟨a, valV vs (.inr (Str.ofString k)), eu, (.inl ⟨vs, .inr (Str.ofString k), hd, rfl, rfl⟩), ?_⟩
      have e2 : (valV vs (.inr (Str.ofString k))).isSome = (kd.lookup k).isSome := by
        cases w : kd.lookup k with
        | none => rw [(ks_lookup qk k).2 w]; rfl
        | some z => obtain ⟨u', e', _⟩ := (ks_lookup qk k).1 z w; rw [e']; rfl
      rw [e2]
      exact P.at r (.bl _) q
    | _ => exact q.elim
  | none =>
    rw [ek] at q
    cases hy : y with
    | tup l =>
      subst hy
      obtain ⟨a, vs, eu, hs, ql⟩ := asT_rel ry rfl
      exact .inr (.inr (dIn_seq r rx eu (.inr hs) ql q P))
    | str t =>
      subst hy
      cases ry
      cases rx with
      | str c =>
        right; left
        dsimp only at q
        split at q
        · rename_i ch hc
          have ec : c = String.singleton ch := by
            rw [← String.ofList_toList (s := c), hc]
            rfl
          refine ⟨ch.toNat, Str.ofString t, by rw [ec, ofS_one], rfl, ?_⟩
          have e3 : decide (ch.toNat ∈ (Str.ofString t).cps.toList) = decide (ch ∈ t.toList) := by
            rw [ofS_cps]
            exact decide_eq_decide.mpr mem_nat
          rw [e3]
          exact P.at r (.bl _) q
        · exact q.elim
      | _ => exact q.elim
    | lst l =>
      subst hy
      obtain ⟨a, vs, eu, hs, ql⟩ := asL_rel r ry rfl
      exact .inr (.inr (dIn_seq r rx eu (.inl hs) ql q P))
    | scr l =>
      subst hy
      obtain ⟨a, vs, eu, hs, ql⟩ := asL_rel r ry rfl
      exact .inr (.inr (dIn_seq r rx eu (.inl hs) ql q P))
    | obj p =>
      subst hy
      dsimp only at q
      cases w : asL S (.obj p) with
      | none => rw [w] at q; exact q.elim
      | some l =>
        rw [w] at q
        obtain ⟨a, vs, eu, hs, ql⟩ := asL_rel r ry w
        exact .inr (.inr (dIn_seq r rx eu (.inl hs) ql q P))
    | dic k => subst hy; cases ek
    | non => subst hy; exact q.elim
    | bl b => subst hy; exact q.elim
    | int b => subst hy; exact q.elim
    | ty b => subst hy; exact q.elim

/-! ### x[i] -/
def dIx : DR2 := fun x y S Q => match y with
  | .int i => match x with
    | .tup l => ofO (atI l i) fun z => Q z S
    | .str t => t.length ≤ lim ∧ ofO (atI t.toList i) fun c => Q (.str (String.singleton c)) S
    | _ => ofO (asL S x) fun l => ofO (atI l i) fun z => Q z S
  | .str k => ofO (asK S x) fun kd => ofO (kd.lookup k) fun z => Q z S
  | _ => False
def rIxK : R2 := fun x y H Q => ∃ a v, x = .ref a ∧ DGet H a y (some v) ∧ Q v H
theorem ix_dict {X : Cx} (hu : X.A.units + 1 < cLine) : IxR X rIxK := by
  intro value slice pins s σ H x y v u Q I rx ry h hs
  obtain ⟨a, w, rfl, g, q⟩ := h
  obtain rfl : v = Value.ref a := rx
  exact tail_any (dict_typeIs I g) PySem.F.slot_dict_getitem.lookup (d_getItem hu I g ry fun w' s1 I1 rw' => ⟨w, H, I1, rw', q⟩) hs
theorem ix_D {X : Cx} (hu : X.A.units + 1 < cLine) : IxR X (fun x y H Q => rIx X.K x y H Q ∨ rIxK x y H Q) := IxR.or ix_seq (ix_dict hu)
theorem atI_map {α β : Type} {f : α → β} {l : List α} {i : Int} {x : α} (e : atI l i = some x) : atI (l.map f) i = some (f x) := by
  unfold atI at e ⊢
  rw [List.length_map]
  cases w : ixN l.length i with
  | none => rw [w] at e; cases e
  | some j =>
    rw [w] at e
    have e' : l[j]? = some x := e
    show (l.map f)[j]? = some (f x)
    rw [List.getElem?_map, e']
    rfl
theorem vr_ix : VR2 K ca dIx (fun x y H Q => rIx K x y H Q ∨ rIxK x y H Q) := by
  intro F S H x y v u Q QV r rx ry q P
  cases ry with
  | int i =>
    left
    have seq : ∀ {l : List D}, asL S x = some l → (ofO (atI l i) fun z => Q z S) → rIx K v (.int i) H QV := fun {l} e q => by
      obtain ⟨z, ez, q⟩ := ofO_ex q
      obtain ⟨a, vs, ev, hs, ql⟩ := asL_rel r rx e
      obtain ⟨w, ew, rw'⟩ := atI_rel ql ez
      exact .inl ⟨a, vs, i, w, ev, rfl, hs, ew, P.at r rw' q⟩
    cases hx : x with
    | tup l =>
      subst hx
      obtain ⟨z, ez, q⟩ := ofO_ex q
      obtain ⟨a, vs, ev, hs, ql⟩ := asT_rel rx rfl
      obtain ⟨w, ew, rw'⟩ := atI_rel ql ez
      exact .inr (.inl ⟨a, vs, i, w, ev, rfl, hs, ew, P.at r rw' q⟩)
    | str t =>
      subst hx
      cases rx
      obtain ⟨hl, q⟩ := q
      obtain ⟨c, ec, q⟩ := ofO_ex q
      refine .inr (.inr ⟨_, i, c.toNat, rfl, rfl, by rw [ofS_len, lim_eq]; exact hl, ?_, ?_⟩)
      · rw [ofS_cps]
        exact atI_map ec
      · rw [← ofS_one]
        exact P.at r (.str _) q
    | lst l => subst hx; exact seq rfl q
    | scr l => subst hx; exact seq rfl q
    | obj p =>
      subst hx
      obtain ⟨l, e, q⟩ := ofO_ex q
      exact seq e q
    | dic k => subst hx; exact q.elim
    | non => subst hx; exact q.elim
    | bl b => subst hx; exact q.elim
    | int b => subst hx; exact q.elim
    | ty b => subst hx; exact q.elim
  | str k =>
    right
    obtain ⟨kd, ek, q⟩ := ofO_ex q
    obtain ⟨z, ez, q⟩ := ofO_ex q
    obtain ⟨a, vs, ev, hd, qk⟩ := asK_rel r rx ek
    obtain ⟨w, ew, rw'⟩ := (ks_lookup qk k).1 z ez
    refine ⟨a, w, ev, ?_, P.at r rw' q⟩
    rw [← ew]
    exact (.inl ⟨vs, .inr (Str.ofString k), hd, rfl, rfl⟩)
  | _ => exact q.elim
end
end DL
/-! DL4: slices, truth, calls, fields over data. -/
namespace DL
open PySem PySem.Spec PyProof.Rows L2

section
variable {K : PySem.W.Frag} {ca : Nat → Addr} {F F' : Addr → Prop} {S S' : Store} {H H' : Hp} {B : Bc} {Q : QE} {QV : VK} {d : D} {v : V} {l : List D} {X : Cx} {a b e o : Expr} {es : List Expr} {da db dd : DE} {ta tb : TE} {pos p2 : Pos} {n : Nat} {σ : DEnv} {σV : L2.St}
theorem pd_ix (hu : X.A.units + 1 < cLine) (ha : PD X B a da) (hb : PD X B b db) (hs : PlainIx b := by exact fun _ _ => rfl) : PD X B (.Subscript a b pos) (dOp dIx da db) := pd_of (pe_ix (ix_D hu) pe_w pe_w hs) (sim_op vr_ix ha hb)

/-! ### slices -/
abbrev DO := DEnv → Store → (Option Int → Store → Prop) → Prop
def PostO (K : PySem.W.Frag) (ca : Nat → Addr) (F : Addr → Prop) (S : Store) (H : Hp) (Q : Option Int → Store → Prop) (QV : Option Int → Hp → Prop) : Prop :=
  ∀ x F' S' H', Fr F S H F' S' H' → RelS K ca F' S' H' → Q x S' → QV x H'
def SimO (K : PySem.W.Frag) (B : Bc) (d : DO) (t : TO) : Prop := ∀ F σ S σV H Q QV, Rel K B F σ S σV H → d σ S Q → PostO K B.ca F S H Q QV → t σV H QV
def dNoPart : DO := fun _ S Q => Q none S
def dPart (d : DE) : DO := fun σ S Q => d σ S fun x S1 => match x with
  | .int i => Q (some i) S1
  | _ => False
theorem sim_noPart : SimO K B dNoPart tNoPart := fun F σ S σV H Q QV R q P => P none F S H Fr.refl R.st q
theorem sim_part (h : SimE K B da ta) : SimO K B (dPart da) (tPart ta) := by
  intro F σ S σV H Q QV R q P
  refine h F σ S σV H _ _ R q fun x v F1 S1 H1 f1 r1 d1 q1 => ?_
  cases d1 with
  | int i => exact ⟨i, rfl, P (some i) F1 S1 H1 f1 r1 q1⟩
  | _ => exact q1.elim
def PDO (X : Cx) (B : Bc) (e : Option Expr) (d : DO) : Prop := ∃ t, PO X e t ∧ SimO X.K B d t
theorem pdo_none : PDO X B none dNoPart := ⟨_, po_none, sim_noPart⟩
theorem pdo_some (h : PD X B e da) : PDO X B (some e) (dPart da) := ⟨_, po_some pe_w, sim_part h⟩
def cutD {α : Type} (xs : List α) (lo hi : Option Int) : List α := (xs.drop (HT.sIx xs.length 0 lo)).take (HT.sIx xs.length xs.length hi - HT.sIx xs.length 0 lo)
theorem cut_rel {vs : List V} (q : RelDs K F H l vs) (lo hi : Option Int) : RelDs K F H (cutD l lo hi) (cutV vs lo hi) := by
  unfold cutD cutV
  rw [q.length]
  exact (q.drop _).take _
abbrev DSl := D → Option Int → Option Int → Store → QE → Prop
/-- of a tuple, never the whole of it; of a list, a new one that stays -/
def slD : DSl := fun x lo hi S Q => match x with
  | .tup l => ¬ (HT.sIx l.length 0 lo = 0 ∧ HT.sIx l.length l.length hi = l.length) ∧ Q (.tup (cutD l lo hi)) S
  | _ => ofO (asL S x) fun l => Q (.lst (cutD l lo hi)) S
def slM : DSl := fun x lo hi S Q => ofO (asL S x) fun l => ∀ p, S p = none → Q (.obj p) (put S p (.lst (cutD l lo hi)))
def VRS (K : PySem.W.Frag) (ca : Nat → Addr) (dr : DSl) (r : V → Option Int → Option Int → Hp → VK → Prop) : Prop :=
  ∀ F S H x v lo hi Q QV, RelS K ca F S H → RelD K F H x v → dr x lo hi S Q → PostE K ca F S H Q QV → r v lo hi H QV
theorem vr_slL (r : RelS K ca F S H) {x : D} {v : V} (rx : RelD K F H x v) {lo hi : Option Int} (q : ofO (asL S x) fun l => Q (.lst (cutD l lo hi)) S) (P : PostE K ca F S H Q QV) : rSlL K v lo hi H QV := by
  obtain ⟨l, e, q⟩ := ofO_ex q
  obtain ⟨a, vs, ev, hs, ql⟩ := asL_rel r rx e
  refine ⟨a, vs, ev, hs, fun p hp => ?_⟩
  exact P _ _ _ _ _ (fr_newF hp) (r.newF hp) (.lst upd_same (.inl rfl) ((cut_rel ql lo hi).mono r (fr_newF hp))) q
theorem vr_sl : VRS K ca slD (fun x lo hi H Q => rSlL K x lo hi H Q ∨ rSlT K x lo hi H Q) := by
  intro F S H x v lo hi Q QV r rx q P
  cases hx : x with
  | tup l =>
    subst hx
    obtain ⟨hn, q⟩ := q
    obtain ⟨a, vs, ev, hs, ql⟩ := asT_rel rx rfl
    refine .inr ⟨a, vs, ev, hs, by rw [← ql.length]; exact hn, fun p hp => ?_⟩
    exact P _ _ _ _ _ (fr_newD hp) (r.newD hp) (.tup (SqT.of upd_same) ((cut_rel ql lo hi).mono r (fr_newD hp))) q
  | lst l => subst hx; exact .inl (vr_slL r rx q P)
  | scr l => subst hx; exact .inl (vr_slL r rx q P)
  | obj p => subst hx; exact .inl (vr_slL r rx q P)
  | _ => subst hx; exact q.elim
theorem vr_slM : VRS K ca slM (fun x lo hi H Q => rSlL K x lo hi H Q ∨ rSlT K x lo hi H Q) := by
  intro F S H x v lo hi Q QV r rx q P
  obtain ⟨l, e, q⟩ := ofO_ex q
  obtain ⟨a, vs, ev, hs, ql⟩ := asL_rel r rx e
  refine .inl ⟨a, vs, ev, hs, fun p hp => ?_⟩
  exact P _ _ _ _ _ (fr_new (o := .lst (cutD l lo hi)) hp) (r.new hp ⟨_, upd_same, (cut_rel ql lo hi).mono r (fr_newD hp)⟩) (.obj p) (q p (r.free hp))
def dSl (dr : DSl) (da : DE) (dl dh : DO) : DE := fun σ S Q => da σ S fun x S1 => dl σ S1 fun lo S2 => dh σ S2 fun hi S3 => dr x lo hi S3 Q
theorem sim_sl {dr : DSl} {r : V → Option Int → Option Int → Hp → VK → Prop} (hr : VRS K B.ca dr r) {dl dh : DO} {tl th : TO} (ha : SimE K B da ta) (hl : SimO K B dl tl) (hh : SimO K B dh th) : SimE K B (dSl dr da dl dh) (tSl r ta tl th) := by
  intro F σ S σV H Q QV R q P
  refine ha F σ S σV H _ _ R q fun x v F1 S1 H1 f1 r1 d1 q1 => ?_
  refine hl F1 σ S1 σV H1 _ _ (R.step f1 r1) q1 fun lo F2 S2 H2 f2 r2 q2 => ?_
  refine hh F2 σ S2 σV H2 _ _ (R.step (f1.trans f2) r2) q2 fun hi F3 S3 H3 f3 r3 q3 => ?_
  exact hr F3 S3 H3 x v lo hi Q QV r3 (d1.mono r1 (f2.trans f3)) q3 (P.step (f1.trans (f2.trans f3)))
theorem pd_sl {lo hi : Option Expr} {dl dh : DO} (ha : PD X B e da) (hl : PDO X B lo dl) (hh : PDO X B hi dh) : PD X B (.Subscript e (.Slice lo hi none p2) pos) (dSl slD da dl dh) := by
  obtain ⟨tl, pl, sl⟩ := hl
  obtain ⟨th, ph, sh⟩ := hh
  exact pd_of (pe_slice (SlR.or sl_list sl_tup) pe_w pl ph) (sim_sl vr_sl ha sl sh)
theorem pd_slM {lo hi : Option Expr} {dl dh : DO} (ha : PD X B e da) (hl : PDO X B lo dl) (hh : PDO X B hi dh) : PD X B (.Subscript e (.Slice lo hi none p2) pos) (dSl slM da dl dh) := by
  obtain ⟨tl, pl, sl⟩ := hl
  obtain ⟨th, ph, sh⟩ := hh
  exact pd_of (pe_slice (SlR.or sl_list sl_tup) pe_w pl ph) (sim_sl vr_slM ha sl sh)

/-! ### truth -/
def truD (S : Store) (x : D) : Option Bool := match x with
  | .non => some false
  | .bl b => some b
  | .int i => some (i != 0)
  | .tup l => some (!l.isEmpty)
  | .str s => if s.length ≤ lim then some ((s.length : Int) != 0) else none
  | _ => match asL S x with
    | some l => some (!l.isEmpty)
    | none => match asKo S x with
      | some k => some (!k.isEmpty)
      | none => none
def dTru (d : DE) : DT := fun σ S Q => d σ S fun x S1 => ofO (truD S1 x) fun k => Q k S1
theorem isEmpty_rel {α β : Type} {xs : List α} {ys : List β} (h : xs.length = ys.length) : (!xs.isEmpty) = !ys.isEmpty := by
  cases xs <;> cases ys <;> first | rfl | cases h
theorem truD_rel (r : RelS K ca F S H) (rx : RelD K F H d v) {k : Bool} (e : truD S d = some k) : TruV K v H k := by
  have seq : ∀ {p : Addr}, v = .ref p → (match asL S d with | some l => some (!l.isEmpty) | none => match asKo S d with | some k => some (!k.isEmpty) | none => none) = some k → TruV K v H k := fun {p} ev e => by
    cases w : asL S d with
    | some l =>
      rw [w] at e
      cases e
      obtain ⟨a, vs, ev', hs, ql⟩ := asL_rel r rx w
      subst ev'
      exact .inl ⟨vs, hs, isEmpty_rel ql.length⟩
    | none =>
      rw [w] at e
      cases w2 : asKo S d with
      | some kd =>
        rw [w2] at e
        cases e
        obtain ⟨a, vs, ev', hs, ql⟩ := asKo_rel r rx w2
        subst ev'
        exact .inr (.inr ⟨vs, hs, isEmpty_rel (ks_len ql)⟩)
      | none => rw [w2] at e; cases e
  cases rx with
  | non => cases e; rfl
  | bl b => cases e; rfl
  | int i => cases e; rfl
  | str s =>
    have e : (if s.length ≤ lim then some ((s.length : Int) != 0) else none) = some k := e
    by_cases hl : s.length ≤ lim
    · rw [if_pos hl] at e
      cases e
      exact ⟨by rw [ofS_len, lim_eq]; exact hl, by rw [ofS_len]⟩
    · rw [if_neg hl] at e; cases e
  | tup h q =>
    cases e
    exact .inr (.inl ⟨_, h, isEmpty_rel q.length⟩)
  | lst h f q => exact seq rfl e
  | dic h f q => exact seq rfl e
  | scr h q => exact seq rfl e
  | obj p => exact seq rfl e
  | ty n => cases e
theorem pdt_tru (h : PD X B a da) (he : ∀ whole, isTrue a X.env whole = (do let v ← whole; standAt a.pos; holding [v] (truthy v)) := by intro _; rfl) : PDT X B a (dTru da) := by
  refine pdt_of (pt_truth pe_w he) ?_
  intro F σ S σV H Q QV R q P
  refine h F σ S σV H _ _ R q fun x v F1 S1 H1 f1 r1 d1 q1 => ?_
  obtain ⟨k, e, q1⟩ := ofO_ex q1
  exact ⟨k, truD_rel r1 d1 e, P k F1 S1 H1 f1 r1 q1⟩

/-! ### built-in functions -/
abbrev DC := List D → Store → QE → Prop
def VRC (K : PySem.W.Frag) (ca : Nat → Addr) (dr : DC) (r : List V → Hp → VK → Prop) : Prop := ∀ F S H xs vs Q QV, RelS K ca F S H → RelDs K F H xs vs → dr xs S Q → PostE K ca F S H Q QV → r vs H QV
def dCB (dr : DC) (da : DA) : DE := fun σ S Q => da σ S fun xs S1 => dr xs S1 Q
theorem sim_cb {dr : DC} {r : List V → Hp → VK → Prop} {da : DA} {ta : TA} (hr : VRC K B.ca dr r) (h : SimA K B n da ta) : SimE K B (dCB dr da) (tCB r ta) := by
  intro F σ S σV H Q QV R q P
  refine h F σ S σV H _ _ R q fun xs vs F1 S1 H1 f1 r1 d1 _ q1 => ?_
  exact hr F1 S1 H1 xs vs Q QV r1 d1 q1 (P.step f1)
theorem pd_callB {x : Str} {p : Pos} {id : String} {dr : DC} {r : List V → Hp → VK → Prop} {da : DA} (hc : CallR X (.builtin id) r) (hr : VRC X.K B.ca dr r) (hg : Gl X x) (hm : X.mg x = none) (hv : bootBuiltins x = some (.builtin id)) (ha : PDA X B (e :: es) n da)
    (hn : x ≠ "__name__" := by decide) (hdb : (x == ("__debug__" : Str)) = false := by decide) (he : starEach (e :: es) X.env = (false, eval e X.env) :: starEach es X.env := by rfl) (hpl : (backTo pos (starEach es X.env)).any (·.1) = false := by rfl) :
    PD X B (.Call (.Name x p) (e :: es) [] pos) (dCB dr da) := pd_of (pe_callB hc hg hm hv pa_w hn hdb he hpl) (sim_cb hr ha)
theorem pd_callTy {x : Str} {p : Pos} {T : String} {dr : DC} {r : List V → Hp → VK → Prop} {da : DA} (hc : CallR X (.type T) r) (hr : VRC X.K B.ca dr r) (hg : Gl X x) (hm : X.mg x = none) (hv : bootBuiltins x = some (.type T)) (ha : PDA X B (e :: es) n da)
    (hn : x ≠ "__name__" := by decide) (hdb : (x == ("__debug__" : Str)) = false := by decide) (he : starEach (e :: es) X.env = (false, eval e X.env) :: starEach es X.env := by rfl) (hpl : (backTo pos (starEach es X.env)).any (·.1) = false := by rfl) :
    PD X B (.Call (.Name x p) (e :: es) [] pos) (dCB dr da) := pd_of (pe_callTy hc hg hm hv pa_w hn hdb he hpl) (sim_cb hr ha)
def lenD (S : Store) (x : D) : Option Nat := match x with
  | .tup l => some l.length
  | .str s => if s.length ≤ lim then some s.length else none
  | _ => match asL S x with
    | some l => some l.length
    | none => none
def bLen : DC := fun xs S Q => match xs with
  | [x] => ofO (lenD S x) fun n => Q (.int n) S
  | _ => False
theorem lenD_rel (r : RelS K ca F S H) (rx : RelD K F H d v) {k : Nat} (e : lenD S d = some k) : LenV K v H k := by
  have seq : ∀ {p : Addr}, v = .ref p → (match asL S d with | some l => some l.length | none => none) = some k → LenV K v H k := fun {p} ev e => by
    cases w : asL S d with
    | some l =>
      rw [w] at e
      cases e
      obtain ⟨a, vs, ev', hs, ql⟩ := asL_rel r rx w
      subst ev'
      exact .inl ⟨vs, hs, ql.length⟩
    | none => rw [w] at e; cases e
  cases rx with
  | non => cases e
  | bl b => cases e
  | int i => cases e
  | str s =>
    have e : (if s.length ≤ lim then some s.length else none) = some k := e
    by_cases hl : s.length ≤ lim
    · rw [if_pos hl] at e
      cases e
      exact ⟨by rw [ofS_len, lim_eq]; exact hl, by rw [ofS_len]⟩
    · rw [if_neg hl] at e; cases e
  | tup h q => cases e; exact .inr ⟨_, h, q.length⟩
  | lst h f q => exact seq rfl e
  | dic h f q => exact seq rfl e
  | scr h q => exact seq rfl e
  | obj p => exact seq rfl e
  | ty n => cases e
theorem vrc_len : VRC K ca bLen (fun xs H Q => ∃ x n, xs = [x] ∧ LenV K x H n ∧ Q (.int n) H) := by
  intro F S H xs vs Q QV r rx q P
  match xs, vs, rx, q with
  | [x], _, .cons h .nil, q =>
    obtain ⟨n, e, q⟩ := ofO_ex q
    exact ⟨_, n, rfl, lenD_rel r h e, P.at r (.int _) q⟩
def bAbs : DC := fun xs S Q => match xs with
  | [.int i] => Q (.int (if i < 0 then -i else i)) S
  | _ => False
theorem vrc_abs : VRC K ca bAbs (fun xs H Q => ∃ i, xs = [.int i] ∧ Q (.int (if i < 0 then -i else i)) H) := by
  intro F S H xs vs Q QV r rx q P
  match xs, vs, rx, q with
  | [.int i], _, .cons (.int _) .nil, q => exact ⟨i, rfl, P.at r (.int _) q⟩
def bInt : DC := fun xs S Q => match xs with
  | [.int i] => Q (.int i) S
  | [.bl b] => Q (.int (if b then 1 else 0)) S
  | _ => False
theorem vrc_int : VRC K ca bInt (fun xs H Q => (∃ i, xs = [.int i] ∧ Q (.int i) H) ∨ ∃ k, xs = [.bl k] ∧ Q (.int (if k then 1 else 0)) H) := by
  intro F S H xs vs Q QV r rx q P
  match xs, vs, rx, q with
  | [.int i], _, .cons (.int _) .nil, q => exact .inl ⟨i, rfl, P.at r (.int _) q⟩
  | [.bl b], _, .cons (.bl _) .nil, q => exact .inr ⟨b, rfl, P.at r (.int _) q⟩
def bStr : DC := fun xs S Q => match xs with
  | [.int i] => i.natAbs < 2 ^ 64 ∧ Q (.str (toString i)) S
  | _ => False
theorem log2_lt {n : Nat} (h : n < 2 ^ 64) : n.log2 < 1920 := by
  by_cases e : n = 0
  · subst e; decide
  · have h1 : n.log2 < 64 := (Nat.log2_lt e).mpr h
    omega
theorem vrc_str : VRC K ca bStr (fun xs H Q => ∃ i, xs = [.int i] ∧ i.natAbs.log2 < 1920 ∧ Q (.str (toString i)) H) := by
  intro F S H xs vs Q QV r rx q P
  match xs, vs, rx, q with
  | [.int i], _, .cons (.int _) .nil, q => exact ⟨i, rfl, log2_lt q.1, P.at r (.str _) q.2⟩
def bMax2 : DC := fun xs S Q => match xs with
  | [.int i, .int j] => Q (.int (if j > i then j else i)) S
  | _ => False
theorem vrc_max2 : VRC K ca bMax2 (fun xs H Q => ∃ i j, xs = [.int i, .int j] ∧ Q (.int (if j > i then j else i)) H) := by
  intro F S H xs vs Q QV r rx q P
  match xs, vs, rx, q with
  | [.int i, .int j], _, .cons (.int _) (.cons (.int _) .nil), q => exact ⟨i, j, rfl, P.at r (.int _) q⟩
/-- a list, a tuple, copied into a new list, a new tuple -/
def asQ (S : Store) (x : D) : Option (List D) := match x with
  | .tup l => some l
  | _ => asL S x
theorem asQ_rel (r : RelS K ca F S H) (q : RelD K F H d v) (e : asQ S d = some l) : ∃ a vs, v = .ref a ∧ (SqL K H a vs ∨ SqT K H a vs) ∧ RelDs K F H l vs := by
  cases hd : d with
  | tup m =>
    subst hd
    cases e
    obtain ⟨a, vs, ev, hs, ql⟩ := asT_rel q rfl
    exact ⟨a, vs, ev, .inr hs, ql⟩
  | _ =>
    subst hd
    obtain ⟨a, vs, ev, hs, ql⟩ := asL_rel r q e
    exact ⟨a, vs, ev, .inl hs, ql⟩
def bList : DC := fun xs S Q => match xs with
  | [x] => ofO (asQ S x) fun l => Q (.lst l) S
  | _ => False
def bListM : DC := fun xs S Q => match xs with
  | [x] => ofO (asQ S x) fun l => ∀ p, S p = none → Q (.obj p) (put S p (.lst l))
  | _ => False
def bTuple : DC := fun xs S Q => match xs with
  | [x] => ofO (asQ S x) fun l => Q (.tup l) S
  | _ => False
theorem vrc_list : VRC K ca bList (fun xs H Q => ∃ p ys, xs = [.ref p] ∧ (SqL K H p ys ∨ SqT K H p ys) ∧ ∀ l, H l = none → Q (.ref l) (upd H l (.lst ys))) := by
  intro F S H xs vs Q QV r rx q P
  match xs, vs, rx, q with
  | [x], _, .cons h .nil, q =>
    obtain ⟨l, e, q⟩ := ofO_ex q
    obtain ⟨a, vs, ev, hs, ql⟩ := asQ_rel r h e
    refine ⟨a, vs, by rw [ev], hs, fun p hp => ?_⟩
    exact P _ _ _ _ _ (fr_newF hp) (r.newF hp) (.lst upd_same (.inl rfl) (ql.mono r (fr_newF hp))) q
theorem vrc_listM : VRC K ca bListM (fun xs H Q => ∃ p ys, xs = [.ref p] ∧ (SqL K H p ys ∨ SqT K H p ys) ∧ ∀ l, H l = none → Q (.ref l) (upd H l (.lst ys))) := by
  intro F S H xs vs Q QV r rx q P
  match xs, vs, rx, q with
  | [x], _, .cons h .nil, q =>
    obtain ⟨l, e, q⟩ := ofO_ex q
    obtain ⟨a, vs, ev, hs, ql⟩ := asQ_rel r h e
    refine ⟨a, vs, by rw [ev], hs, fun p hp => ?_⟩
    exact P _ _ _ _ _ (fr_new (o := .lst l) hp) (r.new hp ⟨_, upd_same, ql.mono r (fr_newD hp)⟩) (.obj p) (q p (r.free hp))
theorem vrc_tuple : VRC K ca bTuple (fun xs H Q => ∃ p ys, xs = [.ref p] ∧ ((SqL K H p ys ∧ ∀ l, H l = none → Q (.ref l) (upd H l (.tup ys))) ∨ (SqT K H p ys ∧ Q (.ref p) H))) := by
  intro F S H xs vs Q QV r rx q P
  match xs, vs, rx, q with
  | [x], _, .cons h .nil, q =>
    obtain ⟨l, e, q⟩ := ofO_ex q
    obtain ⟨a, vs, ev, hs, ql⟩ := asQ_rel r h e
    refine ⟨a, vs, by rw [ev], ?_⟩
    rcases hs with hs | hs
    · refine .inl ⟨hs, fun p hp => ?_⟩
      exact P _ _ _ _ _ (fr_newD hp) (r.newD hp) (.tup (SqT.of upd_same) (ql.mono r (fr_newD hp))) q
    · exact .inr ⟨hs, P.at r (.tup hs ql) q⟩
def blsOf : List D → Option (List Bool)
  | [] => some []
  | .bl b :: r => (blsOf r).map (b :: ·)
  | _ => none
def intsOf : List D → Option (List Int)
  | [] => some []
  | .int b :: r => (intsOf r).map (b :: ·)
  | _ => none
theorem bls_rel : ∀ {l : List D} {vs : List V} {bs : List Bool}, RelDs K F H l vs → blsOf l = some bs → vs = bs.map V.bl
  | [], _, _, .nil, e => by cases e; rfl
  | .bl b :: r, _, _, .cons (.bl _) q, e => by
    obtain ⟨bs, e1, e2⟩ := Option.map_eq_some_iff.mp (show (blsOf r).map (b :: ·) = some _ from e)
    subst e2
    rw [bls_rel q e1]
    rfl
  | .non :: _, _, _, _, e => by cases e
  | .int _ :: _, _, _, _, e => by cases e
  | .str _ :: _, _, _, _, e => by cases e
  | .tup _ :: _, _, _, _, e => by cases e
  | .lst _ :: _, _, _, _, e => by cases e
  | .dic _ :: _, _, _, _, e => by cases e
  | .scr _ :: _, _, _, _, e => by cases e
  | .obj _ :: _, _, _, _, e => by cases e
  | .ty _ :: _, _, _, _, e => by cases e
theorem ints_rel : ∀ {l : List D} {vs : List V} {bs : List Int}, RelDs K F H l vs → intsOf l = some bs → vs = bs.map V.int
  | [], _, _, .nil, e => by cases e; rfl
  | .int b :: r, _, _, .cons (.int _) q, e => by
    obtain ⟨bs, e1, e2⟩ := Option.map_eq_some_iff.mp (show (intsOf r).map (b :: ·) = some _ from e)
    subst e2
    rw [ints_rel q e1]
    rfl
  | .non :: _, _, _, _, e => by cases e
  | .bl _ :: _, _, _, _, e => by cases e
  | .str _ :: _, _, _, _, e => by cases e
  | .tup _ :: _, _, _, _, e => by cases e
  | .lst _ :: _, _, _, _, e => by cases e
  | .dic _ :: _, _, _, _, e => by cases e
  | .scr _ :: _, _, _, _, e => by cases e
  | .obj _ :: _, _, _, _, e => by cases e
  | .ty _ :: _, _, _, _, e => by cases e
def bAll : DC := fun xs S Q => match xs with
  | [x] => ofO (asL S x) fun l => ofO (blsOf l) fun bs => Q (.bl (bs.all id)) S
  | _ => False
def bAny : DC := fun xs S Q => match xs with
  | [x] => ofO (asL S x) fun l => ofO (blsOf l) fun bs => Q (.bl (bs.any id)) S
  | _ => False
def bSum : DC := fun xs S Q => match xs with
  | [x] => ofO (asL S x) fun l => ofO (intsOf l) fun bs => Q (.int bs.sum) S
  | _ => False
theorem vrc_all : VRC K ca bAll (rAll K) := by
  intro F S H xs vs Q QV r rx q P
  match xs, vs, rx, q with
  | [x], _, .cons h .nil, q =>
    obtain ⟨l, e, q⟩ := ofO_ex q
    obtain ⟨bs, e2, q⟩ := ofO_ex q
    obtain ⟨a, vs, ev, hs, ql⟩ := asL_rel r h e
    rw [bls_rel ql e2] at hs
    exact ⟨a, bs, by rw [ev], hs, P.at r (.bl _) q⟩
theorem vrc_any : VRC K ca bAny (rAny K) := by
  intro F S H xs vs Q QV r rx q P
  match xs, vs, rx, q with
  | [x], _, .cons h .nil, q =>
    obtain ⟨l, e, q⟩ := ofO_ex q
    obtain ⟨bs, e2, q⟩ := ofO_ex q
    obtain ⟨a, vs, ev, hs, ql⟩ := asL_rel r h e
    rw [bls_rel ql e2] at hs
    exact ⟨a, bs, by rw [ev], hs, P.at r (.bl _) q⟩
theorem vrc_sum : VRC K ca bSum (rSum K) := by
  intro F S H xs vs Q QV r rx q P
  match xs, vs, rx, q with
  | [x], _, .cons h .nil, q =>
    obtain ⟨l, e, q⟩ := ofO_ex q
    obtain ⟨bs, e2, q⟩ := ofO_ex q
    obtain ⟨a, vs, ev, hs, ql⟩ := asL_rel r h e
    rw [ints_rel ql e2] at hs
    exact ⟨a, bs, by rw [ev], hs, P.at r (.int _) q⟩

/-! ### methods of built-in types -/
abbrev DM := D → List D → Store → QE → Prop
def VRM (K : PySem.W.Frag) (ca : Nat → Addr) (dr : DM) (r : V → List V → Hp → VK → Prop) : Prop := ∀ F S H x v xs vs Q QV, RelS K ca F S H → RelD K F H x v → RelDs K F H xs vs → dr x xs S Q → PostE K ca F S H Q QV → r v vs H QV
/-- x is of the type (list, str, dict) -/
def tyD (T : String) (S : Store) (x : D) : Prop := (T = "str" ∧ ∃ s, x = .str s) ∨ (T = "list" ∧ ∃ l, asL S x = some l) ∨ (T = "dict" ∧ ∃ l, asKo S x = some l)
theorem tyD_rel {T : String} (r : RelS K ca F S H) (rx : RelD K F H d v) (h : tyD T S d) : tyV K T v H := by
  rcases h with ⟨e, s, hs⟩ | ⟨e, l, hs⟩ | ⟨e, l, hs⟩
  · subst hs; cases rx; exact e
  · obtain ⟨a, vs, ev, h, _⟩ := asL_rel r rx hs
    subst ev
    exact .inl ⟨e, _, h⟩
  · obtain ⟨a, vs, ev, h, _⟩ := asKo_rel r rx hs
    subst ev
    exact .inr (.inr (.inl ⟨e, .inl ⟨_, h⟩⟩))
def dBM0 (T : String) (dr : DM) (da : DE) : DE := fun σ S Q => da σ S fun x S1 => tyD T S1 x ∧ dr x [] S1 Q
def dBM (T : String) (dr : DM) (da : DE) (dt : DA) : DE := fun σ S Q => da σ S fun x S1 => tyD T S1 x ∧ dt σ S1 fun xs S2 => dr x xs S2 Q
theorem sim_bm0 {T : String} {dr : DM} {r : V → List V → Hp → VK → Prop} (hr : VRM K B.ca dr r) (ha : SimE K B da ta) : SimE K B (dBM0 T dr da) (tBM0 K T r ta) := by
  intro F σ S σV H Q QV R q P
  refine ha F σ S σV H _ _ R q fun x v F1 S1 H1 f1 r1 d1 q1 => ?_
  exact ⟨tyD_rel r1 d1 q1.1, hr F1 S1 H1 x v [] [] Q QV r1 d1 .nil q1.2 (P.step f1)⟩
theorem sim_bm {T : String} {dr : DM} {r : V → List V → Hp → VK → Prop} {dt : DA} {tt : TA} (hr : VRM K B.ca dr r) (ha : SimE K B da ta) (ht : SimA K B n dt tt) : SimE K B (dBM T dr da dt) (tBM K T r ta tt) := by
  intro F σ S σV H Q QV R q P
  refine ha F σ S σV H _ _ R q fun x v F1 S1 H1 f1 r1 d1 q1 => ⟨tyD_rel r1 d1 q1.1, ?_⟩
  refine ht F1 σ S1 σV H1 _ _ (R.step f1 r1) q1.2 fun xs vs F2 S2 H2 f2 r2 d2 _ q2 => ?_
  exact hr F2 S2 H2 x v xs vs Q QV r2 (d1.mono r1 f2) d2 q2 (P.step (f1.trans f2))
theorem pd_bm0 {name : Str} {apos cpos : Pos} {T id : String} {dr : DM} {r : V → List V → Hp → VK → Prop} (pa : PlainAttrs T) (slot : Slot T name id) (hty : typeOf (.builtin id) = pure (.type "method_descriptor")) (hm : MtR X id r) (hr : VRM X.K B.ca dr r) (ho : PD X B o da)
    (hbase : attributeBase o name X.env (eval o X.env) = eval o X.env := by rfl) (hline : (apos.endLine == cpos.line) = true := by rfl) : PD X B (.Call (.Attribute o name apos) [] [] cpos) (dBM0 T dr da) :=
  pd_of (pe_bm0 pa slot hty hm pe_w hbase hline) (sim_bm0 hr ho)
theorem pd_bm {name : Str} {apos cpos : Pos} {T id : String} {dr : DM} {r : V → List V → Hp → VK → Prop} {dt : DA} (pa : PlainAttrs T) (slot : Slot T name id) (hty : typeOf (.builtin id) = pure (.type "method_descriptor")) (hm : MtR X id r) (hr : VRM X.K B.ca dr r) (ho : PD X B o da) (ha : PDA X B (e :: es) n dt)
    (hbase : attributeBase o name X.env (eval o X.env) = eval o X.env := by rfl)
    (hfew : ((backTo cpos (starEach (e :: es) X.env)).all (fun x => !x.1) && (backToKw cpos (keywordEach [] X.env)).all (fun x => x.1.isSome)
      && decide ((e :: es).length + ([] : List Keyword).length + (if ([] : List Keyword).isEmpty then 0 else 1) < 30)) = true := by rfl)
    (hline : (apos.endLine == cpos.line) = true := by rfl) (hs : starEach (e :: es) X.env = (false, eval e X.env) :: starEach es X.env := by rfl) (hplain : (backTo cpos (starEach es X.env)).any (·.1) = false := by rfl) :
    PD X B (.Call (.Attribute o name apos) (e :: es) [] cpos) (dBM T dr da dt) :=
  pd_of (pe_bm pa slot hty hm pe_w pa_w hbase hfew hline hs hplain) (sim_bm hr ho ha)
def mAppend : DM := fun x xs S Q => match x, xs with
  | .obj p, [y] => match S p with
    | some (.lst l) => l.length < lim ∧ Q .non (put S p (.lst (l ++ [y])))
    | _ => False
  | _, _ => False
def mPop : DM := fun x xs S Q => match x, xs with
  | .obj p, [] => match S p with
    | some (.lst l) => ofO l.getLast? fun y => Q y (put S p (.lst l.dropLast))
    | _ => False
  | _, _ => False
def mExtend : DM := fun x xs S Q => match x, xs with
  | .obj p, [y] => match S p with
    | some (.lst l) => ofO (asQ S y) fun m => l.length + m.length ≤ lim ∧ Q .non (put S p (.lst (l ++ m)))
    | _ => False
  | _, _ => False
theorem obj_at {p : Addr} {u : Ob} {k : List D → Prop} (q : match S p with | some (.lst l) => k l | _ => False) : ∃ l, S p = some (.lst l) ∧ k l := by
  cases e : S p with
  | none => rw [e] at q; exact q.elim
  | some o =>
    rw [e] at q
    cases o with
    | lst l => exact ⟨l, rfl, q⟩
    | _ => exact q.elim
theorem vrm_append : VRM K ca mAppend rAppend := by
  intro F S H x v xs vs Q QV r rx rs q P
  match x, v, xs, vs, rx, rs, q with
  | .obj p, _, [y], [yv], .obj _, .cons hy .nil, q =>
    obtain ⟨l, e, h, q⟩ := obj_at (u := .lst []) q
    obtain ⟨_, vs, hH, ql⟩ := r.ob p _ e
    refine ⟨p, vs, _, rfl, rfl, hH, by rw [← ql.length, lim_eq]; exact h, ?_⟩
    have f := fr_write (F := F) (S := S) (H := H) (o' := .lst (l ++ [y])) (u := .lst (vs ++ [yv])) e
    exact P .non _ F _ _ f (r.write e ⟨_, upd_same, (ql.append (.cons hy .nil)).mono r f⟩) .non q
theorem vrm_pop : VRM K ca mPop rPop := by
  intro F S H x v xs vs Q QV r rx rs q P
  match x, v, xs, vs, rx, rs, q with
  | .obj p, _, [], _, .obj _, .nil, q =>
    obtain ⟨l, e, q⟩ := obj_at (u := .lst []) q
    obtain ⟨y, ey, q⟩ := ofO_ex q
    obtain ⟨_, vs, hH, ql⟩ := r.ob p _ e
    rw [List.getLast?_eq_getElem?] at ey
    obtain ⟨u, eu, ru⟩ := ql.get ey
    rw [ql.length] at eu
    have f := fr_write (F := F) (S := S) (H := H) (o' := .lst l.dropLast) (u := .lst vs.dropLast) e
    exact ⟨p, vs, u, rfl, rfl, hH, eu, P _ _ F _ _ f (r.write e ⟨_, upd_same, ql.dropLast.mono r f⟩) (ru.mono r f) q⟩
end
end DL
/-! DL5: fields, calls of own defs, methods and classes over data. -/
namespace DL
open PySem PySem.Spec PyProof.Rows L2

section
variable {K : PySem.W.Frag} {ca : Nat → Addr} {F F' : Addr → Prop} {S S' : Store} {H H' : Hp} {B : Bc} {Q : QE} {QV : VK} {d : D} {v : V} {l : List D} {X : Cx} {a b e o : Expr} {es : List Expr} {da db dd : DE} {ta tb : TE} {pos p2 : Pos} {n : Nat} {σ : DEnv} {σV : L2.St}

/-! ### fields -/
def insD (S : Store) (c : Nat) (x : D) : Option (Addr × List (String × D)) := match x with
  | .obj p => match S p with
    | some (.ins c' fs) => if c' = c then some (p, fs) else none
    | _ => none
  | _ => none
theorem insD_rel {c : Nat} {p : Addr} {fs : List (String × D)} (r : RelS K ca F S H) (rx : RelD K F H d v) (e : insD S c d = some (p, fs)) :
    d = .obj p ∧ v = .ref p ∧ S p = some (.ins c fs) ∧ ∃ dx fv, H p = some (.ins (ca c) dx fv) ∧ RelFs K F H fs fv := by
  cases rx with
  | obj q =>
    have e : (match S q with | some (Ob.ins c' fs) => if c' = c then some (q, fs) else none | _ => none) = some (p, fs) := e
    cases w : S q with
    | none => rw [w] at e; cases e
    | some u =>
      rw [w] at e
      cases u with
      | ins c' fs' =>
        have e : (if c' = c then some (q, fs') else none) = some (p, fs) := e
        by_cases hc : c' = c
        · rw [if_pos hc] at e
          cases e
          subst hc
          obtain ⟨_, dx, fv, hH, rf⟩ := r.ob p _ w
          exact ⟨rfl, rfl, w, dx, fv, hH, rf⟩
        · rw [if_neg hc] at e; cases e
      | _ => cases e
  | _ => cases e
theorem fs_lookup {fs : List (String × D)} {fv : List (Str × V)} (q : RelFs K F H fs fv) (k : String) :
    (∀ x, fs.lookup k = some x → ∃ u, fv.lookup (Str.ofString k) = some u ∧ RelD K F H x u) ∧ (fs.lookup k = none → fv.lookup (Str.ofString k) = none) := by
  induction q with
  | nil => exact ⟨fun x e => (by cases e), fun _ => rfl⟩
  | @cons s d v l vs h q ih =>
    by_cases e : k = s
    · subst e
      refine ⟨fun x ex => ?_, fun ex => ?_⟩
      · rw [List.lookup_cons_self] at ex
        cases ex
        exact ⟨v, List.lookup_cons_self, h⟩
      · rw [List.lookup_cons_self] at ex; cases ex
    · have ne : (Str.ofString k == Str.ofString s) = false := beq_eq_false_iff_ne.mpr fun z => e (ofS_inj z)
      have nb : (k == s) = false := beq_eq_false_iff_ne.mpr e
      rw [List.lookup_cons, nb, List.lookup_cons, ne]
      exact ih
def dFld (c : Nat) (f : String) (da : DE) : DE := fun σ S Q => da σ S fun x S1 => ofO (insD S1 c x) fun z => ofO (z.2.lookup f) fun y => Q y S1
theorem pd_fld {c : Nat} {f : String} (ha : PD X B e da) (hc : Cls X.K (B.ca c)) (hn : NoAttr X.K (B.ca c) (Str.ofString f)) (hb : attributeBase e (Str.ofString f) X.env (eval e X.env) = eval e X.env := by rfl) : PD X B (.Attribute e (Str.ofString f) pos) (dFld c f da) := by
  refine pd_of (pe_fld pe_w hb) ?_
  intro F σ S σV H Q QV R q P
  refine ha F σ S σV H _ _ R q fun x v F1 S1 H1 f1 r1 d1 q1 => ?_
  obtain ⟨⟨p, fs⟩, ei, q1⟩ := ofO_ex q1
  obtain ⟨y, ey, q1⟩ := ofO_ex q1
  obtain ⟨_, ev, hS, dx, fv, hH, rf⟩ := insD_rel r1 d1 ei
  obtain ⟨u, eu, ru⟩ := (fs_lookup rf f).1 y ey
  exact ⟨p, B.ca c, dx, fv, u, ev, hH, hc, hn, eu, P y u F1 S1 H1 f1 r1 ru q1⟩
def putFD (f : String) (v : D) : List (String × D) → List (String × D)
  | [] => [(f, v)]
  | (g, u) :: r => if g = f then (g, v) :: r else (g, u) :: putFD f v r
theorem fs_put {fs : List (String × D)} {fv : List (Str × V)} (q : RelFs K F H fs fv) {f : String} {x : D} {u : V} (rx : RelD K F H x u) : RelFs K F H (putFD f x fs) (putF (Str.ofString f) u fv) := by
  induction q with
  | nil => exact .cons rx .nil
  | @cons s d v l vs h q ih =>
    show RelFs K F H (if s = f then (s, x) :: l else (s, d) :: putFD f x l) (if Str.ofString s = Str.ofString f then (Str.ofString s, u) :: vs else (Str.ofString s, v) :: putF (Str.ofString f) u vs)
    by_cases e : s = f
    · subst e
      rw [if_pos rfl, if_pos rfl]
      exact .cons rx q
    · rw [if_neg e, if_neg fun z => e (ofS_inj z)]
      exact .cons h ih
theorem fs_len {fs : List (String × D)} {fv : List (Str × V)} (q : RelFs K F H fs fv) : fs.length = fv.length := by
  induction q with
  | nil => rfl
  | cons _ _ ih => rw [List.length_cons, List.length_cons, ih]

/-! ### an exception that leaves -/
def XW (K : PySem.W.Frag) (B : Bc) : WX := fun cls dd σV H => ∃ x F σ S, Rel K B F σ S σV H ∧ RelX K B.ca F H x cls dd ∧ B.ED x σ S
/-- a def's promise over data as the hand layer's -/
def lift (K : PySem.W.Frag) (ca : Nat → Addr) (n : Nat) (w : DSp) : Sp := fun vs H Q E => ∃ ds F S QD ED, ds.length = n ∧ RelDs K F H ds vs ∧ RelS K ca F S H ∧ w ds S QD ED ∧ PostE K ca F S H QD Q ∧ PostX K ca F S H ED E
theorem lift_len {w : DSp} {vs : List V} {Q : VK} {E : XK} (h : lift K ca n w vs H Q E) : vs.length = n := by
  obtain ⟨ds, F, S, QD, ED, hl, rd, _⟩ := h
  rw [← rd.length, hl]
theorem lift_of {w : DSp} {ds : List D} {vs : List V} {E : XK} {ED : XQ} (hl : ds.length = n) (rd : RelDs K F H ds vs) (rs : RelS K ca F S H) (h : w ds S Q ED) (P : PostE K ca F S H Q QV) (PX : PostX K ca F S H ED E) : lift K ca n w vs H QV E :=
  ⟨ds, F, S, Q, ED, hl, rd, rs, h, P, PX⟩
theorem post_xw (R : Rel K B F σ S σV H) (f : Fr F S H F' S' H') (r : RelS K B.ca F' S' H') : PostX K B.ca F' S' H' (fun x S1 => B.ED x σ S1) (fun cls dd H1 => XW K B cls dd σV H1) :=
  fun x cls dd F1 S1 H1 f1 r1 rx q => ⟨x, F1, σ, S1, R.step (f.trans f1) r1, rx, q⟩
/-- what a callee may let out, taken at the caller's slots -/
theorem passXW (tk : Takes X (XW X.K B)) (σV : L2.St) : PassesAt (L2.CX X.prog X.w) X σV (fun cls dd H => XW X.K B cls dd σV H) := fun _ _ _ u s1 I c => tk u s1 (XE.of_call I (fun _ _ _ h => h) c)

/-! ### f(..) -/
def dCall (w : DSp) (ED : DX → DEnv → Store → Prop) (da : DA) : DE := fun σ S Q => da σ S fun ds S1 => w ds S1 Q fun x S2 => ED x σ S2
section
variable {k : Nat} {f : Addr} {fd : FuncData} {ps : List Str} {w : DSp} {x m : Str} {p apos : Pos} {dt : DA}
theorem pd_call (F : FnOk X.prog X.w X.K X.mg X.base (L2.CX X.prog X.w) k f fd ps (lift X.K B.ca n w)) (hr : Room k X.A) (hg : Gl X x) (hm : X.mg x = some (.ref f)) (hk : PySem.W.keepIn X.K (.ref f) = true) (hb : Binds X.K fd ps []) (tk : Takes X (XW X.K B))
    (ha : PDA X B (e :: es) n dt) (hdb : (x == ("__debug__" : Str)) = false := by decide) (he : starEach (e :: es) X.env = (false, eval e X.env) :: starEach es X.env := by rfl) (hpl : (backTo pos (starEach es X.env)).any (·.1) = false := by rfl) :
    PD X B (.Call (.Name x p) (e :: es) [] pos) (dCall w B.ED dt) := by
  refine pd_of (pe_callSD F hr hg hm hk hb .nil (passXW tk) pa_w hdb he hpl) ?_
  intro F σ S σV H Q QV R q P
  refine ha F σ S σV H _ _ R q fun xs vs F1 S1 H1 f1 r1 d1 l1 q1 => ?_
  show lift X.K B.ca n w (vs ++ []) H1 QV _
  rw [List.append_nil]
  exact lift_of l1 d1 r1 q1 (P.step f1) (post_xw R f1 r1)
def dCall0 (w : DSp) (ED : DX → DEnv → Store → Prop) : DE := fun σ S Q => w [] S Q fun x S2 => ED x σ S2
def tCallQ0 (sp : Sp) (E : L2.St → XK) : TE := fun σ H Q => sp [] H Q (E σ)
theorem pe_callQ0 {sp : Sp} {E : L2.St → XK} {CX : CXT} (F : FnOk X.prog X.w X.K X.mg X.base CX k f fd ps sp) (hr : Room k X.A) (hg : Gl X x) (hm : X.mg x = some (.ref f)) (hk : PySem.W.keepIn X.K (.ref f) = true) (hb : Binds X.K fd ps []) (hx : ∀ σ, PassesAt CX X σ (E σ))
    (hdb : (x == ("__debug__" : Str)) = false := by decide) : PE X (.Call (.Name x p) [] [] pos) (tCallQ0 sp E) :=
  ⟨fun pn st sg Hh Qq I h => wpAny_Call_Name_kw (ld_glob I hg hm (PySem.W.callWith_K0 I.kIn hk (run_fnSD (us := []) (vs := []) F hr hb .nil (hx sg) I .nil h)) hdb)⟩
theorem pd_call0 (F : FnOk X.prog X.w X.K X.mg X.base (L2.CX X.prog X.w) k f fd ps (lift X.K B.ca 0 w)) (hr : Room k X.A) (hg : Gl X x) (hm : X.mg x = some (.ref f)) (hk : PySem.W.keepIn X.K (.ref f) = true) (hb : Binds X.K fd ps []) (tk : Takes X (XW X.K B))
    (hdb : (x == ("__debug__" : Str)) = false := by decide) : PD X B (.Call (.Name x p) [] [] pos) (dCall0 w B.ED) := by
  refine pd_of (pe_callQ0 F hr hg hm hk hb (passXW tk) hdb) ?_
  intro F σ S σV H Q QV R q P
  exact lift_of rfl .nil R.st q P (post_xw R Fr.refl R.st)

/-! ### o.m(..) -/
def tMethQ (C : Addr) (m : Str) (sp : Sp) (E : L2.St → XK) (ta : TE) (t : TA) : TE := fun σ H Q => ta σ H fun x H1 => ∃ a dx fs, x = .ref a ∧ H1 a = some (.ins C dx fs) ∧ fs.lookup m = none ∧ t σ H1 fun vs H2 => sp (x :: vs) H2 Q (E σ)
theorem pe_methQ {C : Addr} {sp : Sp} {E : L2.St → XK} {CX : CXT} {t : TA} {pl : Sem Bool} (he : PE X o ta) (c : Cls X.K C) (hm : Meth X.K C m f) (F : FnOk X.prog X.w X.K X.mg X.base CX k f fd ps sp) (hr : Room k X.A) (hb : Binds X.K fd ps []) (hx : ∀ σ, PassesAt CX X σ (E σ)) (ha : PA X (e :: es) t)
    (hst : starEach (e :: es) X.env = (false, eval e X.env) :: starEach es X.env := by rfl) (hpl : (backTo pos (starEach es X.env)).any (·.1) = false := by rfl)
    (ht : eval (.Call (.Attribute o m apos) (e :: es) [] pos) X.env = (do
      let ov ← eval o X.env
      standAt apos.atName
      let (f, first) ← holding [ov] (getMethod ov m pl)
      callWith pos f first (backTo pos (starEach (e :: es) X.env)) (backToKw pos (keywordEach [] X.env))) := by rfl) :
    PE X (.Call (.Attribute o m apos) (e :: es) [] pos) (tMethQ C m sp E ta t) := by
  refine ⟨fun pn st sg Hh Qq I h => PySem.W.methodCall_KW (pl := pl) (thn (he.run pn st sg Hh _ I h) fun uo s1 hh => ?_) ht⟩
  obtain ⟨xo, H1, I1, rx, a0, dx0, fs0, ex, ea, lk, q⟩ := hh
  subst ex
  obtain rfl : uo = Value.ref a0 := rx
  refine getmeth_ok I1 ea c hm lk (PySem.W.callWith_K (first := [.ref a0]) (h₀ := X.base) I.ok.mod.kin hm.kp (thn (ha.run pos pn s1 sg H1 _ I1 q) fun us s2 h2 => ?_) hst hpl)
  obtain ⟨vs, H2, I2, rv, q2⟩ := h2
  refine ⟨I2.kIn, run_fnSD (us := .ref a0 :: us) (vs := .ref a0 :: vs) F hr hb .nil (hx sg) I2 (.cons rfl rv) ?_⟩
  rw [List.append_nil]
  exact q2
theorem pe_methQ0 {C : Addr} {sp : Sp} {E : L2.St → XK} {CX : CXT} {pl : Sem Bool} (he : PE X o ta) (c : Cls X.K C) (hm : Meth X.K C m f) (F : FnOk X.prog X.w X.K X.mg X.base CX k f fd ps sp) (hr : Room k X.A) (hb : Binds X.K fd ps []) (hx : ∀ σ, PassesAt CX X σ (E σ))
    (ht : eval (.Call (.Attribute o m apos) [] [] pos) X.env = (do
      let ov ← eval o X.env
      standAt apos.atName
      let (f, first) ← holding [ov] (getMethod ov m pl)
      callWith pos f first (backTo pos (starEach [] X.env)) (backToKw pos (keywordEach [] X.env))) := by rfl) :
    PE X (.Call (.Attribute o m apos) [] [] pos) (tMethQ C m sp E ta tNil) := by
  refine ⟨fun pn st sg Hh Qq I h => PySem.W.methodCall_KW (pl := pl) (thn (he.run pn st sg Hh _ I h) fun uo s1 hh => ?_) ht⟩
  obtain ⟨xo, H1, I1, rx, a0, dx0, fs0, ex, ea, lk, q⟩ := hh
  subst ex
  obtain rfl : uo = Value.ref a0 := rx
  exact getmeth_ok I1 ea c hm lk (PySem.W.callWith_K0 (first := [.ref a0]) I1.kIn hm.kp (run_fnSD (us := [.ref a0]) (vs := [.ref a0]) F hr hb .nil (hx sg) I1 (.cons rfl .nil) q))
def dMeth (c : Nat) (m : String) (w : DSp) (ED : DX → DEnv → Store → Prop) (da : DE) (dt : DA) : DE := fun σ S Q => da σ S fun x S1 => ofO (insD S1 c x) fun z => z.2.lookup m = none ∧ dt σ S1 fun ds S2 => w (x :: ds) S2 Q fun y S3 => ED y σ S3
theorem sim_meth {c : Nat} {mm : String} {tt : TA} (ha : SimE K B da ta) (ht : SimA K B n dt tt) : SimE K B (dMeth c mm w B.ED da dt) (tMethQ (B.ca c) (Str.ofString mm) (lift K B.ca (n + 1) w) (fun σV cls dd H => XW K B cls dd σV H) ta tt) := by
  intro F σ S σV H Q QV R q P
  refine ha F σ S σV H _ _ R q fun x v F1 S1 H1 f1 r1 d1 q1 => ?_
  obtain ⟨⟨p, fs⟩, ei, hl, q1⟩ := ofO_ex q1
  obtain ⟨_, ev, hS, dx, fv, hH, rf⟩ := insD_rel r1 d1 ei
  refine ⟨p, dx, fv, ev, hH, (fs_lookup rf mm).2 hl, ?_⟩
  refine ht F1 σ S1 σV H1 _ _ (R.step f1 r1) q1 fun xs vs F2 S2 H2 f2 r2 d2 l2 q2 => ?_
  exact lift_of (by rw [List.length_cons, l2]) (.cons (d1.mono r1 f2) d2) r2 q2 (P.step (f1.trans f2)) (post_xw R (f1.trans f2) r2)
theorem pd_meth {c : Nat} {mm : String} {pl : Sem Bool} (ho : PD X B o da) (hc : Cls X.K (B.ca c)) (hm : Meth X.K (B.ca c) (Str.ofString mm) f) (F : FnOk X.prog X.w X.K X.mg X.base (L2.CX X.prog X.w) k f fd ps (lift X.K B.ca (n + 1) w)) (hr : Room k X.A) (hb : Binds X.K fd ps [])
    (tk : Takes X (XW X.K B)) (ha : PDA X B (e :: es) n dt)
    (hst : starEach (e :: es) X.env = (false, eval e X.env) :: starEach es X.env := by rfl) (hpl : (backTo pos (starEach es X.env)).any (·.1) = false := by rfl)
    (ht : eval (.Call (.Attribute o (Str.ofString mm) apos) (e :: es) [] pos) X.env = (do
      let ov ← eval o X.env
      standAt apos.atName
      let (f, first) ← holding [ov] (getMethod ov (Str.ofString mm) pl)
      callWith pos f first (backTo pos (starEach (e :: es) X.env)) (backToKw pos (keywordEach [] X.env))) := by rfl) :
    PD X B (.Call (.Attribute o (Str.ofString mm) apos) (e :: es) [] pos) (dMeth c mm w B.ED da dt) :=
  pd_of (pe_methQ (pl := pl) pe_w hc hm F hr hb (passXW tk) pa_w hst hpl ht) (sim_meth ho ha)
theorem pd_meth0 {c : Nat} {mm : String} {pl : Sem Bool} (ho : PD X B o da) (hc : Cls X.K (B.ca c)) (hm : Meth X.K (B.ca c) (Str.ofString mm) f) (F : FnOk X.prog X.w X.K X.mg X.base (L2.CX X.prog X.w) k f fd ps (lift X.K B.ca 1 w)) (hr : Room k X.A) (hb : Binds X.K fd ps [])
    (tk : Takes X (XW X.K B))
    (ht : eval (.Call (.Attribute o (Str.ofString mm) apos) [] [] pos) X.env = (do
      let ov ← eval o X.env
      standAt apos.atName
      let (f, first) ← holding [ov] (getMethod ov (Str.ofString mm) pl)
      callWith pos f first (backTo pos (starEach [] X.env)) (backToKw pos (keywordEach [] X.env))) := by rfl) :
    PD X B (.Call (.Attribute o (Str.ofString mm) apos) [] [] pos) (dMeth c mm w B.ED da dNil) :=
  pd_of (pe_methQ0 (pl := pl) pe_w hc hm F hr hb (passXW tk) ht) (sim_meth ho sim_nil)

/-! ### C(..) -/
def tMakeQ (C : Addr) (sp : Sp) (E : L2.St → XK) (t : TA) : TE := fun σ H Q => t σ H fun vs H1 => ∀ x dx, H1 x = none → H1 dx = none → dx ≠ x →
  sp (.ref x :: vs) (upd (upd H1 dx (.own x)) x (.ins C dx [])) (fun v H2 => v = .non ∧ Q (.ref x) H2) (E σ)
theorem run_makeQ {C : Addr} {sp : Sp} {E : XK} {CX : CXT} {pins : List (Addr × Obj)} {sg : L2.St} {Hh : Hp} {st : Shared} {Qq : VK} {us : List Value} {vs : List V} (M : Mk X.K C f) (F : FnOk X.prog X.w X.K X.mg X.base CX k f fd ps sp) (hr : Room (k + 1) X.A) (hb : Binds X.K fd ps [])
    (hx : PassesAt CX X sg E) (I : Inv X pins sg Hh st) (rv : Vals vs us)
    (h : ∀ x dx, Hh x = none → Hh dx = none → dx ≠ x → sp (.ref x :: vs) (upd (upd Hh dx (.own x)) x (.ins C dx [])) (fun v H2 => v = .non ∧ Qq (.ref x) H2) E) : wpAny (model X.prog X.w) X.A (call (.ref C) us) (EP X pins sg Qq) X.xe st := by
  have big := h (st.heap.objs.size + 1) st.heap.objs.size (I.hok.fresh (Nat.le_succ _)) (I.hok.fresh (Nat.le_refl _)) (Nat.ne_of_lt (Nat.lt_succ_self _))
  have J := Inv.made (C := C) I
  have rr : Vals (V.ref (st.heap.objs.size + 1) :: vs) (Value.ref (st.heap.objs.size + 1) :: us) := .cons rfl rv
  have nl : ((Value.ref (st.heap.objs.size + 1) :: us) ++ []).length = ps.length := by
    rw [List.append_nil, ← rr.length]
    exact F.len _ _ _ _ big
  have bb := hb _ (Value.ref (st.heap.objs.size + 1) :: us) J.kIn nl
  rw [List.append_nil] at bb
  refine wpAny_call (make_map (f := f) I.kIn M.makes M.init (beq_iff_eq.mp M.fn) (codeAny_mono (F.run _ X.stack _ _ _ _ _ _ E (hr.make C us []) (J.env0.make C us []) bb rr big) fun r s2 hq => ?_))
  match r, hq with
  | .error _, hq => exact hx pins _ _ _ s2 J hq
  | .ok (.ret u), hq =>
    obtain ⟨v, H3, J3, rw3, ev, q3⟩ := J.after hq
    subst ev
    exact ⟨rw3, V.ref (st.heap.objs.size + 1), H3, J3, rfl, q3⟩
  | .ok .next, hq => exact False.elim hq
  | .ok .brk, hq => exact False.elim hq
  | .ok .cont, hq => exact False.elim hq
theorem pe_makeQ {C : Addr} {sp : Sp} {E : L2.St → XK} {CX : CXT} {t : TA} (M : Mk X.K C f) (F : FnOk X.prog X.w X.K X.mg X.base CX k f fd ps sp) (hr : Room (k + 1) X.A) (hg : Gl X x) (hm : X.mg x = some (.ref C)) (hb : Binds X.K fd ps []) (hx : ∀ σ, PassesAt CX X σ (E σ)) (ha : PA X (e :: es) t)
    (hdb : (x == ("__debug__" : Str)) = false := by decide) (he : starEach (e :: es) X.env = (false, eval e X.env) :: starEach es X.env := by rfl) (hpl : (backTo pos (starEach es X.env)).any (·.1) = false := by rfl) :
    PE X (.Call (.Name x p) (e :: es) [] pos) (tMakeQ C sp E t) := by
  refine ⟨fun pn st sg Hh Qq I h => wpAny_Call_Name_kw (ld_glob I hg hm (PySem.W.callWith_K (h₀ := X.base) I.ok.mod.kin M.kp (thn (ha.run pos pn st sg Hh _ I h) fun us s1 hh => ?_) he hpl) hdb)⟩
  obtain ⟨vs, H1, I1, rv, q⟩ := hh
  exact ⟨I1.kIn, run_makeQ M F hr hb (hx sg) I1 rv q⟩
theorem pe_makeQ0 {C : Addr} {sp : Sp} {E : L2.St → XK} {CX : CXT} (M : Mk X.K C f) (F : FnOk X.prog X.w X.K X.mg X.base CX k f fd ps sp) (hr : Room (k + 1) X.A) (hg : Gl X x) (hm : X.mg x = some (.ref C)) (hb : Binds X.K fd ps []) (hx : ∀ σ, PassesAt CX X σ (E σ))
    (hdb : (x == ("__debug__" : Str)) = false := by decide) : PE X (.Call (.Name x p) [] [] pos) (tMakeQ C sp E tNil) :=
  ⟨fun pn st sg Hh Qq I h => wpAny_Call_Name_kw (ld_glob I hg hm (PySem.W.callWith_K0 I.kIn M.kp (run_makeQ (us := []) (vs := []) M F hr hb (hx sg) I .nil h)) hdb)⟩
def dMake (c : Nat) (w : DSp) (ED : DX → DEnv → Store → Prop) (dt : DA) : DE := fun σ S Q => dt σ S fun ds S1 => ∀ p, S1 p = none → w (.obj p :: ds) (put S1 p (.ins c [])) (fun v S2 => v = .non ∧ Q (.obj p) S2) fun y S3 => ED y σ S3
theorem sim_make {c : Nat} {tt : TA} (ht : SimA K B n dt tt) : SimE K B (dMake c w B.ED dt) (tMakeQ (B.ca c) (lift K B.ca (n + 1) w) (fun σV cls dd H => XW K B cls dd σV H) tt) := by
  intro F σ S σV H Q QV R q P
  refine ht F σ S σV H _ _ R q fun xs vs F1 S1 H1 f1 r1 d1 l1 q1 => ?_
  intro x dx hx hdx hne
  have fa := fr_newD (F := F1) (S := S1) (u := .own x) hdx
  have ra := r1.newD (u := .own x) hdx
  have hx' : (upd H1 dx (.own x)) x = none := by rw [upd_ne (Ne.symm hne)]; exact hx
  have fb := fr_new (F := F1) (S := S1) (o := .ins c []) (u := .ins (B.ca c) dx []) hx'
  have rb := ra.new (o := .ins c []) (u := .ins (B.ca c) dx []) hx' ⟨dx, [], upd_same, .nil⟩
  have fab := fa.trans fb
  refine lift_of (Q := fun v S2 => v = .non ∧ Q (.obj x) S2) (by rw [List.length_cons, l1]) (.cons (.obj x) (d1.mono r1 fab)) rb (q1 x (r1.free hx)) ?_ (post_xw R (f1.trans fab) rb)
  intro y u F2 S2 H2 f2 r2 d2 q2
  obtain ⟨ey, q2⟩ := q2
  subst ey
  cases d2
  exact ⟨rfl, P _ _ F2 S2 H2 (f1.trans (fab.trans f2)) r2 (.obj x) q2⟩
theorem pd_make {c : Nat} (M : Mk X.K (B.ca c) f) (F : FnOk X.prog X.w X.K X.mg X.base (L2.CX X.prog X.w) k f fd ps (lift X.K B.ca (n + 1) w)) (hr : Room (k + 1) X.A) (hg : Gl X x) (hm : X.mg x = some (.ref (B.ca c))) (hb : Binds X.K fd ps []) (tk : Takes X (XW X.K B)) (ha : PDA X B (e :: es) n dt)
    (hdb : (x == ("__debug__" : Str)) = false := by decide) (he : starEach (e :: es) X.env = (false, eval e X.env) :: starEach es X.env := by rfl) (hpl : (backTo pos (starEach es X.env)).any (·.1) = false := by rfl) :
    PD X B (.Call (.Name x p) (e :: es) [] pos) (dMake c w B.ED dt) := pd_of (pe_makeQ M F hr hg hm hb (passXW tk) pa_w hdb he hpl) (sim_make ha)
theorem pd_make0 {c : Nat} (M : Mk X.K (B.ca c) f) (F : FnOk X.prog X.w X.K X.mg X.base (L2.CX X.prog X.w) k f fd ps (lift X.K B.ca 1 w)) (hr : Room (k + 1) X.A) (hg : Gl X x) (hm : X.mg x = some (.ref (B.ca c))) (hb : Binds X.K fd ps []) (tk : Takes X (XW X.K B))
    (hdb : (x == ("__debug__" : Str)) = false := by decide) : PD X B (.Call (.Name x p) [] [] pos) (dMake c w B.ED dNil) := pd_of (pe_makeQ0 M F hr hg hm hb (passXW tk) hdb) (sim_make sim_nil)
end
end
end DL
/-! DL6: statements, targets, loops, comprehensions over data. -/
namespace DL
open PySem PySem.Spec PyProof.Rows L2

structure DEnds where
  nx : DEnv → Store → Prop
  rt : QE
  bk : DEnv → Store → Prop := fun _ _ => False
  ct : DEnv → Store → Prop := fun _ _ => False
abbrev DS := DEnds → DEnv → Store → Prop

section
variable {K : PySem.W.Frag} {ca : Nat → Addr} {F F' : Addr → Prop} {S S' : Store} {H H' : Hp} {B : Bc} {Q : QE} {QV : VK} {d : D} {v : V} {l : List D} {X : Cx} {a b e o : Expr} {es : List Expr} {da db dd : DE} {ta tb te : TE} {pos p2 : Pos} {n : Nat} {σ : DEnv} {σV : L2.St}
def PostS (K : PySem.W.Frag) (B : Bc) (F : Addr → Prop) (S : Store) (H : Hp) (Q : DEnv → Store → Prop) (QV : L2.St → Hp → Prop) : Prop :=
  ∀ F' σ' S' σV' H', Fr F S H F' S' H' → Rel K B F' σ' S' σV' H' → Q σ' S' → QV σV' H'
structure PostD (K : PySem.W.Frag) (B : Bc) (F : Addr → Prop) (S : Store) (H : Hp) (D : DEnds) (V : Ends) : Prop where
  nx : PostS K B F S H D.nx V.nx
  rt : PostE K B.ca F S H D.rt V.rt
  bk : PostS K B F S H D.bk V.bk
  ct : PostS K B F S H D.ct V.ct
theorem PostS.step {Q : DEnv → Store → Prop} {QV : L2.St → Hp → Prop} (p : PostS K B F S H Q QV) (f : Fr F S H F' S' H') : PostS K B F' S' H' Q QV := fun _ _ _ _ _ g => p _ _ _ _ _ (f.trans g)
theorem PostD.step {D : DEnds} {V : Ends} (p : PostD K B F S H D V) (f : Fr F S H F' S' H') : PostD K B F' S' H' D V := ⟨p.nx.step f, p.rt.step f, p.bk.step f, p.ct.step f⟩
theorem PostS.at {Q : DEnv → Store → Prop} {QV : L2.St → Hp → Prop} (p : PostS K B F S H Q QV) (R : Rel K B F σ S σV H) (q : Q σ S) : QV σV H := p F σ S σV H Fr.refl R q
def SimS (K : PySem.W.Frag) (B : Bc) (d : DS) (t : TS) : Prop := ∀ F σ S σV H D V, Rel K B F σ S σV H → d D σ S → PostD K B F S H D V → t V σV H

@[irreducible] def wpS (X : Cx) (st : Stmt) : TS := fun D σ H => ∀ (pins : List (Addr × Obj)) (s : Shared), Inv X pins σ H s → wpAny (model X.prog X.w) X.A (exec st X.env) (SP X pins D) X.xe s
@[irreducible] def wpSs (X : Cx) (st : List Stmt) : TS := fun D σ H => ∀ (pins : List (Addr × Obj)) (s : Shared), Inv X pins σ H s → wpAny (model X.prog X.w) X.A (execs st X.env) (SP X pins D) X.xe s
theorem ps_w {st : Stmt} : PS X st (wpS X st) := ⟨fun pins s _ _ _ I h => by unfold wpS at h; exact h pins s I⟩
theorem pss_w {st : List Stmt} : PSs X st (wpSs X st) := ⟨fun pins s _ _ _ I h => by unfold wpSs at h; exact h pins s I⟩
def PDS (X : Cx) (B : Bc) (st : Stmt) (d : DS) : Prop := SimS X.K B d (wpS X st)
def PDSs (X : Cx) (B : Bc) (st : List Stmt) (d : DS) : Prop := SimS X.K B d (wpSs X st)
variable {st : Stmt} {rest body : List Stmt} {ds du : DS} {t u : TS}
theorem pds_of (h : PS X st t) (s : SimS X.K B ds t) : PDS X B st ds := fun F σ S σV H D V R q P => by unfold wpS; exact fun pins s' I => h.run pins s' σV H V I (s F σ S σV H D V R q P)
theorem pdss_of {st : List Stmt} (h : PSs X st t) (s : SimS X.K B ds t) : PDSs X B st ds := fun F σ S σV H D V R q P => by unfold wpSs; exact fun pins s' I => h.run pins s' σV H V I (s F σ S σV H D V R q P)
def dNext : DS := fun D σ S => D.nx σ S
def dSeq (t u : DS) : DS := fun D σ S => t { D with nx := u D } σ S
theorem sim_next : SimS K B dNext tNext := fun F σ S σV H D V R q P => P.nx.at R q
theorem sim_seq (h1 : SimS K B ds t) (h2 : SimS K B du u) : SimS K B (dSeq ds du) (tSeq t u) := by
  intro F σ S σV H D V R q P
  exact h1 F σ S σV H _ _ R q ⟨fun F1 σ1 S1 σV1 H1 f R1 q1 => h2 F1 σ1 S1 σV1 H1 D V R1 q1 (P.step f), P.rt, P.bk, P.ct⟩
theorem pds_nil : PDSs X B [] dNext := pdss_of pss_nil sim_next
theorem pds_cons (h1 : PDS X B st ds) (h2 : PDSs X B rest du) : PDSs X B (st :: rest) (dSeq ds du) := pdss_of (pss_cons ps_w pss_w) (sim_seq h1 h2)
theorem pds_one (h1 : PDS X B st ds) : PDSs X B [st] ds := pdss_of (pss_one ps_w) h1
def dBrk : DS := fun D σ S => D.bk σ S
def dCnt : DS := fun D σ S => D.ct σ S
theorem pds_pass : PDS X B (.Pass pos) dNext := pds_of ps_pass sim_next
theorem pds_break : PDS X B (.Break pos) dBrk := pds_of ps_break fun F σ S σV H D V R q P => P.bk.at R q
theorem pds_continue : PDS X B (.Continue pos) dCnt := pds_of ps_continue fun F σ S σV H D V R q P => P.ct.at R q
theorem pds_doc {x j pos pos'} : PDS X B (.Expr (.Constant (.str x) j pos) pos') dNext := pds_of ps_doc sim_next
def dDrop (d : DE) : DS := fun D σ S => d σ S fun _ S1 => D.nx σ S1
theorem pds_expr (h : PD X B e da) (hs : swapsWith e none pos.line X.env = pure false := by rfl) : PDS X B (.Expr e pos) (dDrop da) := by
  refine pds_of (ps_expr pe_w hs) fun F σ S σV H D V R q P => ?_
  exact h F σ S σV H _ _ R q fun x v F1 S1 H1 f1 r1 _ q1 => P.nx F1 σ S1 σV H1 f1 (R.step f1 r1) q1
def dRet (d : DE) : DS := fun D σ S => d σ S D.rt
theorem pds_ret (h : PD X B e da) : PDS X B (.Return (some e) pos) (dRet da) := by
  refine pds_of (ps_ret pe_w) fun F σ S σV H D V R q P => ?_
  exact h F σ S σV H _ _ R q P.rt
def dRetN : DS := fun D _ S => D.rt .non S
theorem pds_retN : PDS X B (.Return none pos) dRetN := pds_of ps_retN fun F σ S σV H D V R q P => P.rt.at R.st .non q
def dIfS (c : DT) (t u : DS) : DS := fun D σ S => c σ S fun k S1 => if k = true then t D σ S1 else u D σ S1
theorem sim_ifS {dc : DT} {tc : TT} (hc : SimT K B dc tc) (h1 : SimS K B ds t) (h2 : SimS K B du u) : SimS K B (dIfS dc ds du) (tIfS tc t u) := by
  intro F σ S σV H D V R q P
  refine hc F σ S σV H _ _ R q fun k F1 S1 H1 f1 r1 q1 => ?_
  cases k with
  | true => exact h1 F1 σ S1 σV H1 D V (R.step f1 r1) q1 (P.step f1)
  | false => exact h2 F1 σ S1 σV H1 D V (R.step f1 r1) q1 (P.step f1)
theorem pds_if {c : Expr} {dc : DT} {s1 s2 : List Stmt} (hc : PDT X B c dc) (h1 : PDSs X B s1 ds) (h2 : PDSs X B s2 du) : PDS X B (.If c s1 s2 pos) (dIfS dc ds du) := pds_of (ps_if pt_w pss_w pss_w) (sim_ifS hc h1 h2)
def dNever : DS := fun _ _ _ => False
theorem pds_never : PDS X B st dNever := pds_of ps_never fun _ _ _ _ _ _ _ _ q _ => q.elim
theorem pds_nevers {st : List Stmt} : PDSs X B st dNever := pdss_of pss_never fun _ _ _ _ _ _ _ _ q _ => q.elim

/-! ### targets -/
abbrev DG := D → DEnv → Store → (DEnv → Store → Prop) → Prop
abbrev DGs := List D → DEnv → Store → (DEnv → Store → Prop) → Prop
def SimG (K : PySem.W.Frag) (B : Bc) (d : DG) (t : TG) : Prop := ∀ F σ S σV H x v Q QV, Rel K B F σ S σV H → RelD K F H x v → d x σ S Q → PostS K B F S H Q QV → t v σV H QV
def SimGs (K : PySem.W.Frag) (B : Bc) (d : DGs) (t : TGs) : Prop := ∀ F σ S σV H x v Q QV, Rel K B F σ S σV H → RelDs K F H x v → d x σ S Q → PostS K B F S H Q QV → t v σV H QV
def gN (i : Nat) : DG := fun x σ S Q => Q (σ.set i (some x)) S
theorem sim_gN {i : Nat} : SimG K B (gN i) (gName i) := fun F σ S σV H x v Q QV R r q P => P F _ S _ H Fr.refl (R.set r) q
def gsN : DGs := fun xs σ S Q => xs = [] ∧ Q σ S
def gsC (g : DG) (gs : DGs) : DGs := fun xs σ S Q => match xs with
  | x :: r => g x σ S fun σ1 S1 => gs r σ1 S1 Q
  | [] => False
theorem sim_gsN : SimGs K B gsN gNil := by
  intro F σ S σV H x v Q QV R r q P
  obtain ⟨e, q⟩ := q
  subst e
  cases r
  exact ⟨rfl, P.at R q⟩
theorem sim_gsC {g : DG} {gs : DGs} {tg : TG} {tgs : TGs} (h1 : SimG K B g tg) (h2 : SimGs K B gs tgs) : SimGs K B (gsC g gs) (gCons tg tgs) := by
  intro F σ S σV H x v Q QV R r q P
  cases r with
  | nil => exact q.elim
  | @cons d v l vs rd r =>
    refine ⟨v, vs, rfl, ?_⟩
    refine h1 F σ S σV H d v _ _ R rd q fun F1 σ1 S1 σV1 H1 f1 R1 q1 => ?_
    exact h2 F1 σ1 S1 σV1 H1 l vs Q QV R1 (r.mono R.st f1) q1 fun F2 σ2 S2 σV2 H2 f2 => P F2 σ2 S2 σV2 H2 (f1.trans f2)
def gTp (n : Nat) (gs : DGs) : DG := fun x σ S Q => match x with
  | .tup l => l.length = n ∧ gs l σ S Q
  | _ => False
theorem sim_gTp {gs : DGs} {tgs : TGs} (h : SimGs K B gs tgs) : SimG K B (gTp n gs) (gTup K n tgs) := by
  intro F σ S σV H x v Q QV R r q P
  cases r with
  | tup ht rl => exact ⟨_, _, rfl, ht, by rw [← rl.length]; exact q.1, h F σ S σV H _ _ Q QV R rl q.2 P⟩
  | _ => exact q.elim
@[irreducible] def wpG (X : Cx) (tg : Expr) : TG := fun v σ H Q => ∀ (pins : List (Addr × Obj)) (s : Shared) (u : Value), Inv X pins σ H s → RelV v u → wpAny (model X.prog X.w) X.A (assign tg X.env u) (fun _ s' => ∃ σ' H', Inv X pins σ' H' s' ∧ Q σ' H') X.xe s
theorem pg_w {tg : Expr} : PG X tg (wpG X tg) := ⟨fun pins s _ _ _ u _ I r h => by unfold wpG at h; exact h pins s u I r⟩
def PDG (X : Cx) (B : Bc) (tg : Expr) (d : DG) : Prop := SimG X.K B d (wpG X tg)
theorem pdg_of {tg : Expr} {d : DG} {t : TG} (h : PG X tg t) (s : SimG X.K B d t) : PDG X B tg d := fun F σ S σV H x v Q QV R r q P => by unfold wpG; exact fun pins s' u I ru => h.run pins s' σV H v u QV I ru (s F σ S σV H x v Q QV R r q P)
theorem pdg_name (i : Nat) {x : Str} (hN : X.N.Nodup) (hi : X.N[i]? = some x := by rfl) (hx : Loc X.env.scope x := by first | exact Or.inl rfl | exact Or.inr rfl) (hf : X.fn x = true ∨ X.env.scope.names.lookup x = some .local := by first | exact .inl rfl | exact .inr rfl | assumption) : PDG X B (.Name x pos) (gN i) :=
  pdg_of (pg_name hN hi hx hf) sim_gN
def dAsg (d : DE) (g : DG) : DS := fun D σ S => d σ S fun x S1 => g x σ S1 D.nx
theorem sim_asg {g : DG} {tg : TG} (h : SimE K B da ta) (hg : SimG K B g tg) : SimS K B (dAsg da g) (tAsg ta tg) := by
  intro F σ S σV H D V R q P
  refine h F σ S σV H _ _ R q fun x v F1 S1 H1 f1 r1 d1 q1 => ?_
  exact hg F1 σ S1 σV H1 x v _ _ (R.step f1 r1) d1 q1 (P.nx.step f1)
theorem pds_set (i : Nat) {x : Str} {pos' : Pos} (hN : X.N.Nodup) (h : PD X B e da) (hi : X.N[i]? = some x := by rfl) (hx : Loc X.env.scope x := by first | exact Or.inl rfl | exact Or.inr rfl) (hs : swapsWith e (some (.Name x pos')) pos.line X.env = pure false := by rfl)
    (hf : X.fn x = true ∨ X.env.scope.names.lookup x = some .local := by first | exact .inl rfl | exact .inr rfl | assumption) : PDS X B (.Assign [.Name x pos'] e pos) (dAsg da (gN i)) :=
  pds_of (ps_set hN hi hx pe_w hs hf) (sim_asg h sim_gN)
theorem pds_asg {tg : Expr} {g : DG} (h : PD X B e da) (hg : PDG X B tg g) (hs : swapsWithSole [tg] e pos.line X.env = pure false := by rfl) (hw : swappedStores [tg] e X.env = pure none := by rfl)
    (h1 : (assignEach [tg] X.env).map (·.2) = [assign tg X.env] := by rfl) : PDS X B (.Assign [tg] e pos) (dAsg da g) := pds_of (ps_asg pe_w pg_w hs hw h1) (sim_asg h hg)
/-- a, b = e, f -/
def dPar (i j : Nat) (dt : DA) : DS := fun D σ S => dt σ S fun xs S1 => match xs with
  | [x, y] => D.nx ((σ.set i (some x)).set j (some y)) S1
  | _ => False
theorem pds_par (i j : Nat) {x y : Str} {dt : DA} {px py pt : Pos} {kt k2 pt2} (hc : X.calm = true) (hN : X.N.Nodup) (hij : i ≠ j) (ha : PDA X B [a, b] 2 dt)
    (hx : X.env.scope.names.lookup x = some .local) (hy : X.env.scope.names.lookup y = some .local) (hi : X.N[i]? = some x := by rfl) (hj : X.N[j]? = some y := by rfl)
    (hw : swappedStores [.Tuple [.Name x px, .Name y py] kt pt] (.Tuple [a, b] k2 pt2) X.env = pure (some [x, y]) := by rfl)
    (hs : swapsWithSole [.Tuple [.Name x px, .Name y py] kt pt] (.Tuple [a, b] k2 pt2) pos.line X.env = pure false := by rfl) :
    PDS X B (.Assign [.Tuple [.Name x px, .Name y py] kt pt] (.Tuple [a, b] k2 pt2) pos) (dPar i j dt) := by
  refine pds_of (ps_par hc hN hi hj hij hx hy pa_w hw hs) fun F σ S σV H D V R q P => ?_
  refine ha F σ S σV H _ _ R q fun xs vs F1 S1 H1 f1 r1 d1 l1 q1 => ?_
  match xs, vs, d1, q1 with
  | [x, y], [u, w], .cons r1' (.cons r2' .nil), q1 =>
    exact ⟨u, w, rfl, P.nx F1 _ S1 _ H1 f1 (((R.step f1 r1).set r1').set r2') q1⟩
/-- a field is stored -/
def dPutF (c : Nat) (f : String) (do_ dv : DE) : DS := fun D σ S => dv σ S fun y S1 => do_ σ S1 fun x S2 => ofO (insD S2 c x) fun z => z.2.length < 1000 ∧ D.nx σ (put S2 z.1 (.ins c (putFD f y z.2)))
theorem sim_putF {c : Nat} {f : String} {to_ tv : TE} (hc : Cls K (B.ca c)) (hn : NoAttr K (B.ca c) (Str.ofString f)) (ho : SimE K B da to_) (hv : SimE K B db tv) : SimS K B (dPutF c f da db) (sFld K to_ tv (Str.ofString f)) := by
  intro F σ S σV H D V R q P
  refine hv F σ S σV H _ _ R q fun y u F1 S1 H1 f1 r1 d1 q1 => ?_
  refine ho F1 σ S1 σV H1 _ _ (R.step f1 r1) q1 fun x v F2 S2 H2 f2 r2 d2 q2 => ?_
  obtain ⟨⟨p, fs⟩, ei, hl, q2⟩ := ofO_ex q2
  obtain ⟨_, ev, hS, dx, fv, hH, rf⟩ := insD_rel r2 d2 ei
  refine ⟨p, B.ca c, dx, fv, ev, hH, hc, hn, by rw [← fs_len rf]; exact hl, ?_⟩
  have fw := fr_write (F := F2) (H := H2) (o' := .ins c (putFD f y fs)) (u := .ins (B.ca c) dx (putF (Str.ofString f) u fv)) hS
  have rw2 := r2.write (o' := .ins c (putFD f y fs)) (u := .ins (B.ca c) dx (putF (Str.ofString f) u fv)) hS ⟨dx, _, upd_same, (fs_put rf (d1.mono r1 f2)).mono r2 fw⟩
  exact P.nx F2 σ _ σV _ (f1.trans (f2.trans fw)) (R.step (f1.trans (f2.trans fw)) rw2) q2
theorem pds_fld {c : Nat} {f : String} {pos' : Pos} (ho : PD X B o da) (hv : PD X B e db) (hc : Cls X.K (B.ca c)) (hn : NoAttr X.K (B.ca c) (Str.ofString f)) (hs : swapsWith e (some (.Attribute o (Str.ofString f) pos')) pos.line X.env = pure false := by rfl) :
    PDS X B (.Assign [.Attribute o (Str.ofString f) pos'] e pos) (dPutF c f da db) := pds_of (ps_fld pe_w pe_w hs) (sim_putF hc hn ho hv)
/-- name += e, field += e (ints) -/
def dAug (i : Nat) (g : Int → Int → Int) (d : DE) : DS := fun D σ S => match σ[i]? with
  | some (some (.int x)) => d σ S fun y S1 => match y with
    | .int y => D.nx (σ.set i (some (.int (g x y)))) S1
    | _ => False
  | _ => False
theorem sim_aug {i : Nat} {g : Int → Int → Int} (h : SimE K B da ta) : SimS K B (dAug i g da) (tAug i ta (ipI g)) := by
  intro F σ S σV H D V R q P
  unfold dAug at q
  split at q
  · rename_i x e
    obtain ⟨u, hu, ru⟩ := R.env.2 i _ e
    cases ru
    refine ⟨_, hu, ?_⟩
    refine h F σ S σV H _ _ R q fun y v F1 S1 H1 f1 r1 d1 q1 => ?_
    cases d1 with
    | int j => exact ⟨x, j, rfl, rfl, P.nx F1 _ S1 _ H1 f1 ((R.step f1 r1).set (.int _)) q1⟩
    | _ => exact q1.elim
  · exact q.elim
theorem pds_aug (i : Nat) {x : Str} {op : Operator} {g : Int → Int → Int} {pos' : Pos} (hN : X.N.Nodup) (ho : PIp X op (ipI g)) (h : PD X B e da) (hi : X.N[i]? = some x := by rfl) (hx : Loc X.env.scope x := by first | exact Or.inl rfl | exact Or.inr rfl)
    (hf : X.fn x = true ∨ X.env.scope.names.lookup x = some .local := by first | exact .inl rfl | exact .inr rfl | assumption) : PDS X B (.AugAssign (.Name x pos') op e pos) (dAug i g da) := pds_of (ps_aug hN hi hx pe_w ho hf) (sim_aug h)
def dAugF (c : Nat) (f : String) (g : Int → Int → Int) (do_ dv : DE) : DS := fun D σ S => do_ σ S fun x S1 => ofO (insD S1 c x) fun z => ofO (z.2.lookup f) fun old => dv σ S1 fun y S2 => match old, y with
  | .int i, .int j => ofO (insD S2 c x) fun z2 => z2.2.length < 1000 ∧ D.nx σ (put S2 z2.1 (.ins c (putFD f (.int (g i j)) z2.2)))
  | _, _ => False
theorem sim_augF {c : Nat} {f : String} {g : Int → Int → Int} {to_ tv : TE} (hc : Cls K (B.ca c)) (hn : NoAttr K (B.ca c) (Str.ofString f)) (ho : SimE K B da to_) (hv : SimE K B db tv) :
    SimS K B (dAugF c f g da db) (sFldAug K to_ tv (fun x y H Q => ∃ i j, x = .int i ∧ y = .int j ∧ Q (.int (g i j)) H) (Str.ofString f)) := by
  intro F σ S σV H D V R q P
  refine ho F σ S σV H _ _ R q fun x v F1 S1 H1 f1 r1 d1 q1 => ?_
  obtain ⟨⟨p, fs⟩, ei, q1⟩ := ofO_ex q1
  obtain ⟨old, eo, q1⟩ := ofO_ex q1
  obtain ⟨_, ev, hS, dx, fv, hH, rf⟩ := insD_rel r1 d1 ei
  obtain ⟨u, eu, ru⟩ := (fs_lookup rf f).1 old eo
  refine ⟨p, B.ca c, dx, fv, u, ev, hH, hc, hn, eu, ?_⟩
  refine hv F1 σ S1 σV H1 _ _ (R.step f1 r1) q1 fun y w F2 S2 H2 f2 r2 d2 q2 => ?_
  cases ru with
  | int i =>
    cases d2 with
    | int j =>
      refine ⟨i, j, rfl, rfl, ?_⟩
      obtain ⟨⟨p2, fs2⟩, ei2, hl, q2⟩ := ofO_ex q2
      obtain ⟨ex2, ev2, hS2, dx2, fv2, hH2, rf2⟩ := insD_rel r2 (d1.mono r1 f2) ei2
      have ep : p2 = p := by rw [ev] at ev2; cases ev2; rfl
      subst ep
      refine ⟨dx2, fv2, hH2, by rw [← fs_len rf2]; exact hl, ?_⟩
      have fw := fr_write (F := F2) (H := H2) (o' := .ins c (putFD f (.int (g i j)) fs2)) (u := .ins (B.ca c) dx2 (putF (Str.ofString f) (.int (g i j)) fv2)) hS2
      have rw2 := r2.write (o' := .ins c (putFD f (.int (g i j)) fs2)) (u := .ins (B.ca c) dx2 (putF (Str.ofString f) (.int (g i j)) fv2)) hS2 ⟨dx2, _, upd_same, (fs_put rf2 (.int _)).mono r2 fw⟩
      exact P.nx F2 σ _ σV _ (f1.trans (f2.trans fw)) (R.step (f1.trans (f2.trans fw)) rw2) q2
    | _ => exact q2.elim
  | _ => exact q2.elim
theorem pds_augF {c : Nat} {f : String} {op : Operator} {g : Int → Int → Int} {tpos : Pos} (ho : PD X B o da) (hv : PD X B e db) (hc : Cls X.K (B.ca c)) (hn : NoAttr X.K (B.ca c) (Str.ofString f)) (hop : InOp X op (fun x y H Q => ∃ i j, x = .int i ∧ y = .int j ∧ Q (.int (g i j)) H)) :
    PDS X B (.AugAssign (.Attribute o (Str.ofString f) tpos) op e pos) (dAugF c f g da db) := pds_of (ps_fldaug pe_w pe_w hop) (sim_augF hc hn ho hv)
/-- o[i] = e -/
def putKD (k : String) (v : D) (kd : List (String × D)) : List (String × D) :=
  if (kd.any fun p => decide (p.1 = k)) = true then kd.map (fun p => if p.1 = k then (p.1, v) else p) else kd ++ [(k, v)]
theorem key_dec (s k : String) : decide ((Sum.inr (Str.ofString s) : Key) = Sum.inr (Str.ofString k)) = decide (s = k) :=
  decide_eq_decide.mpr ⟨fun z => ofS_inj (Sum.inr.inj z), fun z => by rw [z]⟩
theorem ks_any {kd : List (String × D)} {kv : List (Key × V)} (q : RelKs K F H kd kv) (k : String) : (kv.any fun p => decide (p.1 = (Sum.inr (Str.ofString k) : Key))) = kd.any fun p => decide (p.1 = k) := by
  induction kd generalizing kv with
  | nil => cases q; rfl
  | cons p r ih =>
    cases q with
    | cons h q => rw [List.any_cons, List.any_cons, ih q, key_dec]
theorem ks_map {kd : List (String × D)} {kv : List (Key × V)} (q : RelKs K F H kd kv) {k : String} {x : D} {u : V} (rx : RelD K F H x u) :
    RelKs K F H (kd.map fun p => if p.1 = k then (p.1, x) else p) (kv.map fun p => if p.1 = (Sum.inr (Str.ofString k) : Key) then (p.1, u) else p) := by
  induction kd generalizing kv with
  | nil => cases q; exact .nil
  | cons p r ih =>
    cases q with
    | @cons s d v _ vs h q =>
      rw [List.map_cons, List.map_cons]
      by_cases e : s = k
      · subst e
        rw [if_pos rfl, if_pos rfl]
        exact .cons rx (ih q)
      · rw [if_neg e, if_neg fun z => e (ofS_inj (Sum.inr.inj z))]
        exact .cons h (ih q)
theorem ks_app {kd : List (String × D)} {kv : List (Key × V)} (q : RelKs K F H kd kv) {k : String} {x : D} {u : V} (rx : RelD K F H x u) : RelKs K F H (kd ++ [(k, x)]) (kv ++ [(.inr (Str.ofString k), u)]) := by
  induction kd generalizing kv with
  | nil => cases q; exact .cons rx .nil
  | cons p r ih => cases q with | cons h q => exact .cons h (ih q)
theorem ks_put {kd : List (String × D)} {kv : List (Key × V)} (q : RelKs K F H kd kv) {k : String} {x : D} {u : V} (rx : RelD K F H x u) : RelKs K F H (putKD k x kd) (putK kv (.inr (Str.ofString k)) u) := by
  unfold putKD putK
  rw [ks_any q k]
  by_cases h : (kd.any fun p => decide (p.1 = k)) = true
  · rw [if_pos h, if_pos h]
    exact ks_map q rx
  · rw [if_neg h, if_neg h]
    exact ks_app q rx
abbrev DSet := D → D → D → Store → (Store → Prop) → Prop
def stD : DSet := fun o i v S Q => match o with
  | .obj p => match S p with
    | some (.lst l) => match i with
      | .int k => ofO (ixN l.length k) fun j => Q (put S p (.lst (l.set j v)))
      | _ => False
    | some (.dic kd) => match i with
      | .str k => kd.length < lim ∧ Q (put S p (.dic (putKD k v kd)))
      | _ => False
    | _ => False
  | _ => False
def rSetX : TSet := fun o i v H Q => rSetL o i v H Q ∨ ∃ a H4, o = .ref a ∧ DPut H a i v H4 ∧ Q H4
theorem set_X (hu : X.A.units + 1 < cLine) : PSet X rSetX := by
  intro pins s σ H o i v ov iv u Q I ro ri rv h
  rcases h with h | ⟨a, H4, rfl, g, q⟩
  · exact set_list pins s σ H o i v ov iv u Q I ro ri rv h
  · obtain rfl : ov = Value.ref a := ro
    exact d_setItem hu I g ri rv fun s1 I1 => ⟨H4, I1, q⟩
def gSb (do_ di : DE) (t : DSet) : DG := fun v σ S Q => do_ σ S fun o S1 => di σ S1 fun i S2 => t o i v S2 fun S3 => Q σ S3
theorem sim_gSb {to_ ti : TE} (ho : SimE K B da to_) (hi : SimE K B db ti) : SimG K B (gSb da db stD) (gSub to_ ti rSetX) := by
  intro F σ S σV H x v Q QV R r q P
  refine ho F σ S σV H _ _ R q fun o ov F1 S1 H1 f1 r1 d1 q1 => ?_
  refine hi F1 σ S1 σV H1 _ _ (R.step f1 r1) q1 fun i iv F2 S2 H2 f2 r2 d2 q2 => ?_
  have rv2 := r.mono R.st (f1.trans f2)
  have d1' := d1.mono r1 f2
  cases d1' with
  | obj p =>
    unfold stD at q2
    dsimp only at q2
    cases e : S2 p with
    | none => rw [e] at q2; exact q2.elim
    | some w =>
      rw [e] at q2
      obtain ⟨_, ro⟩ := r2.ob p _ e
      cases w with
      | lst l =>
        cases d2 with
        | int k =>
          obtain ⟨j, ej, q2⟩ := ofO_ex q2
          obtain ⟨vs, hH, ql⟩ := ro
          refine .inl ⟨p, vs, k, j, rfl, rfl, hH, by rw [← ql.length]; exact ej, ?_⟩
          have fw := fr_write (F := F2) (H := H2) (o' := .lst (l.set j x)) (u := .lst (vs.set j v)) e
          have rw2 := r2.write (o' := .lst (l.set j x)) (u := .lst (vs.set j v)) e ⟨_, upd_same, (ql.set rv2 j).mono r2 fw⟩
          exact P F2 σ _ σV _ (f1.trans (f2.trans fw)) (R.step (f1.trans (f2.trans fw)) rw2) q2
        | _ => exact q2.elim
      | dic kd =>
        cases d2 with
        | str k =>
          obtain ⟨hl, q2⟩ := q2
          obtain ⟨kv, hH, qk⟩ := ro
          refine .inr ⟨p, _, rfl, DPut.k (k := .inr (Str.ofString k)) hH (by rw [← ks_len qk, lim_eq]; exact hl), ?_⟩
          have fw := fr_write (F := F2) (H := H2) (o' := .dic (putKD k x kd)) (u := .dK (putK kv (.inr (Str.ofString k)) v)) e
          have rw2 := r2.write (o' := .dic (putKD k x kd)) (u := .dK (putK kv (.inr (Str.ofString k)) v)) e ⟨_, upd_same, (ks_put qk rv2).mono r2 fw⟩
          exact P F2 σ _ σV _ (f1.trans (f2.trans fw)) (R.step (f1.trans (f2.trans fw)) rw2) q2
        | _ => exact q2.elim
      | ins c fs => exact q2.elim
  | _ => exact q2.elim
theorem pdg_sub {i : Expr} (hu : X.A.units + 1 < cLine) (ho : PD X B o da) (hi : PD X B i db)
    (ha : ∀ v, assign (.Subscript o i pos) X.env v = (do
      let ov ← holding [v] (eval o X.env)
      let iv ← holding [v, ov] (eval i X.env)
      standAt pos
      holding [v, ov, iv] (setItem ov iv v)
      release [v, ov, iv] []) := by intro _; rfl) : PDG X B (.Subscript o i pos) (gSb da db stD) := pdg_of (pg_sub pe_w pe_w (set_X hu) ha) (sim_gSb ho hi)

/-! ### while -/
def dWhile (c : DT) (tb : DS) : DS := fun D σ S => ∃ W : Nat → DEnv → Store → Prop, (∃ m, W m σ S) ∧ ∀ m σ S, W m σ S →
  c σ S fun k S1 => if k = true then ∃ N : DEnv → Store → Prop, (∀ σ' S', N σ' S' → ∃ m', m' < m ∧ W m' σ' S') ∧ tb { D with nx := N, ct := N, bk := D.nx } σ S1 else D.nx σ S1
theorem sim_while {dc : DT} {tc : TT} (hc : SimT K B dc tc) (hb : SimS K B ds t) : SimS K B (dWhile dc ds) (tWhile tc t) := by
  intro F σ S σV H D V R q P
  obtain ⟨W, ⟨m0, w0⟩, turn⟩ := q
  refine ⟨fun m σV' H' => ∃ F' σ' S', Fr F S H F' S' H' ∧ Rel K B F' σ' S' σV' H' ∧ W m σ' S', ⟨m0, F, σ, S, Fr.refl, R, w0⟩, ?_⟩
  rintro m σV1 H1 ⟨F1, σ1, S1, f1, R1, w1⟩
  refine hc F1 σ1 S1 σV1 H1 _ _ R1 (turn m σ1 S1 w1) fun k F2 S2 H2 f2 r2 q2 => ?_
  cases k with
  | false => exact P.nx F2 σ1 S2 σV1 H2 (f1.trans f2) (R1.step f2 r2) q2
  | true =>
    obtain ⟨N, hN, q2⟩ := q2
    refine ⟨fun σV' H' => ∃ F' σ' S', Fr F S H F' S' H' ∧ Rel K B F' σ' S' σV' H' ∧ N σ' S', ?_, ?_⟩
    · rintro σV' H' ⟨F', σ', S', f', R', n'⟩
      obtain ⟨m', hm, w'⟩ := hN σ' S' n'
      exact ⟨m', hm, F', σ', S', f', R', w'⟩
    · have fz := f1.trans f2
      refine hb F2 σ1 S2 σV1 H2 _ _ (R1.step f2 r2) q2 ⟨?_, P.rt.step fz, P.nx.step fz, ?_⟩
      · intro F' σ' S' σV' H' f' R' n'
        exact ⟨F', σ', S', fz.trans f', R', n'⟩
      · intro F' σ' S' σV' H' f' R' n'
        exact ⟨F', σ', S', fz.trans f', R', n'⟩
theorem pds_while {c : Expr} {dc : DT} (hp : PassesOwn (model X.prog X.w) X.A X.env X.xe) (hc : PDT X B c dc) (hb : PDSs X B body ds) : PDS X B (.While c body [] pos) (dWhile dc ds) := pds_of (ps_while hp pt_w pss_w) (sim_while hc hb)

/-! ### what is walked: the items, and what keeps them -/
abbrev DI := DEnv → Store → (List D → (Store → Prop) → Store → Prop) → Prop
/-- the walk J gives the items L while keep holds -/
def ItRel (K : PySem.W.Frag) (ca : Nat → Addr) (F : Addr → Prop) (S : Store) (H : Hp) (L : List D) (keep : Store → Prop) (J : It) : Prop :=
  ∀ (i : Nat) F' S' H', Fr F S H F' S' H' → RelS K ca F' S' H' → keep S' →
    (∀ d, L[i]? = some d → J.go i H' ∧ ∀ x H'', J.yld i H' x H'' → Fr F' S' H' F' S' H'' ∧ RelS K ca F' S' H'' ∧ RelD K F' H'' d x) ∧ (L.length ≤ i → J.stop i H')
def SimI (K : PySem.W.Frag) (B : Bc) (d : DI) (t : TI) : Prop := ∀ F σ S σV H Q (R' : It → Hp → Prop), Rel K B F σ S σV H → d σ S Q →
  (∀ L keep F' S' H' J, Fr F S H F' S' H' → RelS K B.ca F' S' H' → ItRel K B.ca F' S' H' L keep J → Q L keep S' → R' J H') → t σV H R'
def PDI (X : Cx) (B : Bc) (tg iter : Expr) (d : DI) : Prop := ∃ t, PI X tg iter t ∧ SimI X.K B d t
/-- over a list or a tuple: its items; a list of the store must stay as it is -/
def keepL (x : D) (l : List D) : Store → Prop := fun S => asL S x = some l
def iL (d : DE) : DI := fun σ S Q => d σ S fun x S1 => ofO (asL S1 x) fun l => Q l (keepL x l) S1
def iT (d : DE) : DI := fun σ S Q => d σ S fun x S1 => match x with
  | .tup l => Q l (fun _ => True) S1
  | _ => False
theorem sim_iL (h : SimE K B da ta) : SimI K B (iL da) (iList K ta) := by
  intro F σ S σV H Q R' R q P
  refine h F σ S σV H _ _ R q fun x v F1 S1 H1 f1 r1 d1 q1 => ?_
  obtain ⟨l, e, q1⟩ := ofO_ex q1
  obtain ⟨a, vs, ev, hs, ql⟩ := asL_rel r1 d1 e
  refine ⟨a, ev, ⟨vs, hs⟩, P l _ F1 S1 H1 _ f1 r1 ?_ q1⟩
  intro i F' S' H' f' r' kp
  obtain ⟨a', vs', ev', hs', ql'⟩ := asL_rel r' (d1.mono r1 f') kp
  rw [ev] at ev'
  cases ev'
  refine ⟨fun d ed => ?_, fun hl => ⟨vs', hs', by rw [← ql'.length]; exact hl⟩⟩
  obtain ⟨u, eu, ru⟩ := ql'.get ed
  refine ⟨⟨vs', u, hs', eu⟩, fun x H'' y => ?_⟩
  obtain ⟨e1, y⟩ := y
  subst e1
  have e2 := y vs' hs'
  rw [eu] at e2
  cases e2
  exact ⟨Fr.refl, r', ru⟩
theorem sim_iT (h : SimE K B da ta) : SimI K B (iT da) (iTup K ta) := by
  intro F σ S σV H Q R' R q P
  refine h F σ S σV H _ _ R q fun x v F1 S1 H1 f1 r1 d1 q1 => ?_
  cases d1 with
  | @tup a vs l hs ql =>
    refine ⟨a, rfl, ⟨vs, hs⟩, P l _ F1 S1 H1 _ f1 r1 ?_ q1⟩
    intro i F' S' H' f' r' _
    have hs' := fr_t r1 f' hs
    have ql' := ql.mono r1 f'
    refine ⟨fun d ed => ?_, fun hl => ⟨vs, hs', by rw [← ql'.length]; exact hl⟩⟩
    obtain ⟨u, eu, ru⟩ := ql'.get ed
    refine ⟨⟨vs, u, hs', eu⟩, fun x H'' y => ?_⟩
    obtain ⟨e1, y⟩ := y
    subst e1
    have e2 := y vs hs'
    rw [eu] at e2
    cases e2
    exact ⟨Fr.refl, r', ru⟩
  | _ => exact q1.elim
theorem pdi_list {tg : Expr} (h : PD X B e da) : PDI X B tg e (iL da) := ⟨_, pi_list pe_w, sim_iL h⟩
theorem pdi_tup {tg : Expr} (h : PD X B e da) : PDI X B tg e (iT da) := ⟨_, pi_tup pe_w, sim_iT h⟩
def rangeD (lo : Int) (n : Nat) : List D := (List.range n).map fun (i : Nat) => D.int (lo + (i : Int))
theorem rangeD_get {lo : Int} {n i : Nat} {d : D} (e : (rangeD lo n)[i]? = some d) : i < n ∧ d = .int (lo + (i : Int)) := by
  unfold rangeD at e
  rw [List.getElem?_map] at e
  by_cases h : i < n
  · rw [List.getElem?_range h] at e
    cases e
    exact ⟨h, rfl⟩
  · rw [List.getElem?_eq_none (by simpa using h)] at e
    cases e
theorem it_range (lo : Int) (n : Nat) : ItRel K ca F S H (rangeD lo n) (fun _ => True) (Itr lo n) := by
  intro i F' S' H' f' r' _
  refine ⟨fun d ed => ?_, fun hl => show n ≤ i by unfold rangeD at hl; simpa using hl⟩
  obtain ⟨hi, rfl⟩ := rangeD_get ed
  refine ⟨hi, fun x H'' y => ?_⟩
  obtain ⟨e1, e2⟩ := y
  subst e1 e2
  exact ⟨Fr.refl, r', .int _⟩
def iR1 (dt : DA) : DI := fun σ S Q => dt σ S fun xs S1 => match xs with
  | [.int j] => (-(2 ^ 62) ≤ j ∧ j < 2 ^ 62) ∧ Q (rangeD 0 j.toNat) (fun _ => True) S1
  | _ => False
def iR2 (dt : DA) : DI := fun σ S Q => dt σ S fun xs S1 => match xs with
  | [.int i, .int j] => (-(2 ^ 62) ≤ i ∧ i < 2 ^ 62 ∧ -(2 ^ 62) ≤ j ∧ j < 2 ^ 62) ∧ Q (rangeD i (j - i).toNat) (fun _ => True) S1
  | _ => False
theorem sim_iR1 {dt : DA} {tt : TA} (h : SimA K B n dt tt) : SimI K B (iR1 dt) (iRng1 tt) := by
  intro F σ S σV H Q R' R q P
  refine h F σ S σV H _ _ R q fun xs vs F1 S1 H1 f1 r1 d1 _ q1 => ?_
  match xs, vs, d1, q1 with
  | [.int j], _, .cons (.int _) .nil, q1 => exact ⟨j, rfl, q1.1.1, q1.1.2, P _ _ F1 S1 H1 _ f1 r1 (it_range 0 _) q1.2⟩
theorem sim_iR2 {dt : DA} {tt : TA} (h : SimA K B n dt tt) : SimI K B (iR2 dt) (iRng2 tt) := by
  intro F σ S σV H Q R' R q P
  refine h F σ S σV H _ _ R q fun xs vs F1 S1 H1 f1 r1 d1 _ q1 => ?_
  match xs, vs, d1, q1 with
  | [.int i, .int j], _, .cons (.int _) (.cons (.int _) .nil), q1 => exact ⟨i, j, rfl, q1.1, P _ _ F1 S1 H1 _ f1 r1 (it_range i _) q1.2⟩
theorem pdi_range1 {tg : Expr} {dt : DA} {p : Pos} (hg : Gl X "range") (hm : X.mg "range" = none) (ha : PDA X B [a] n dt) (hs : starEach [a] X.env = [(false, eval a X.env)] := by rfl) : PDI X B tg (.Call (.Name "range" p) [a] [] pos) (iR1 dt) := ⟨_, pi_range1 hg hm pa_w hs, sim_iR1 ha⟩
theorem pdi_range2 {tg : Expr} {dt : DA} {p : Pos} (hg : Gl X "range") (hm : X.mg "range" = none) (ha : PDA X B [a, b] n dt) (hs : starEach [a, b] X.env = [(false, eval a X.env), (false, eval b X.env)] := by rfl) (hs2 : starEach [b] X.env = [(false, eval b X.env)] := by rfl) :
    PDI X B tg (.Call (.Name "range" p) [a, b] [] pos) (iR2 dt) := ⟨_, pi_range2 hg hm pa_w hs hs2, sim_iR2 ha⟩
/-- reversed(list) -/
def iRv (dt : DA) : DI := fun σ S Q => dt σ S fun xs S1 => match xs with
  | [x] => ofO (asL S1 x) fun l => Q l.reverse (keepL x l) S1
  | _ => False
theorem sim_iRv {dt : DA} {tt : TA} (h : SimA K B n dt tt) : SimI K B (iRv dt) (iRev K tt) := by
  intro F σ S σV H Q R' R q P
  refine h F σ S σV H _ _ R q fun xs vs F1 S1 H1 f1 r1 d1 _ q1 => ?_
  match xs, vs, d1, q1 with
  | [x], [v], .cons dx .nil, q1 =>
    obtain ⟨l, e, q1⟩ := ofO_ex q1
    obtain ⟨a, ws, ev, hs, ql⟩ := asL_rel r1 dx e
    refine ⟨a, ws, by rw [ev], hs, P _ _ F1 S1 H1 _ f1 r1 ?_ q1⟩
    intro i F' S' H' f' r' kp
    obtain ⟨a', vs', ev', hs', ql'⟩ := asL_rel r' (dx.mono r1 f') kp
    rw [ev] at ev'
    cases ev'
    have hlen : vs'.length = ws.length := by rw [← ql'.length, ql.length]
    refine ⟨fun d ed => ?_, fun hl => by rw [List.length_reverse, ql.length] at hl; exact hl⟩
    have hi : i < l.length := by
      have z := (List.getElem?_eq_some_iff.mp ed).1
      rwa [List.length_reverse] at z
    rw [List.getElem?_reverse hi] at ed
    obtain ⟨u, eu, ru⟩ := ql'.get ed
    rw [ql.length] at eu
    refine ⟨⟨by rw [← ql.length]; exact hi, vs', u, hs', eu⟩, fun x H'' y => ?_⟩
    obtain ⟨e1, y⟩ := y
    subst e1
    have e2 := y vs' hs'
    rw [eu] at e2
    cases e2
    exact ⟨Fr.refl, r', ru⟩
theorem pdi_rev {tg : Expr} {dt : DA} {p : Pos} (hg : Gl X "reversed") (hm : X.mg "reversed" = none) (ha : PDA X B [e] n dt) (hs : starEach [e] X.env = [(false, eval e X.env)] := by rfl) : PDI X B tg (.Call (.Name "reversed" p) [e] [] pos) (iRv dt) := ⟨_, pi_reversed hg hm pa_w hs, sim_iRv ha⟩
/-- enumerate(list), zip(list, list): the target is a tuple -/
def enumD (i : Nat) : List D → List D
  | [] => []
  | d :: l => .tup [.int (i : Int), d] :: enumD (i + 1) l
theorem enumD_len : ∀ (l : List D) (i : Nat), (enumD i l).length = l.length
  | [], _ => rfl
  | _ :: l, i => by rw [enumD, List.length_cons, enumD_len l, List.length_cons]
theorem enumD_get : ∀ (l : List D) (i j : Nat) {x : D}, (enumD j l)[i]? = some x → ∃ d, l[i]? = some d ∧ x = .tup [.int ((j + i : Nat) : Int), d]
  | [], i, j, x, e => by simp [enumD] at e
  | d :: l, 0, j, x, e => by
    simp [enumD] at e
    exact ⟨d, rfl, e.symm⟩
  | d :: l, i + 1, j, x, e => by
    obtain ⟨z, e1, e2⟩ := enumD_get l i (j + 1) (x := x) (by simpa [enumD] using e)
    exact ⟨z, by simpa using e1, by rw [e2, show j + 1 + i = j + (i + 1) by omega]⟩
def iEn (dt : DA) : DI := fun σ S Q => dt σ S fun xs S1 => match xs with
  | [x] => ofO (asL S1 x) fun l => Q (enumD 0 l) (keepL x l) S1
  | _ => False
theorem sim_iEn {dt : DA} {tt : TA} (h : SimA K B n dt tt) : SimI K B (iEn dt) (iEnum K tt) := by
  intro F σ S σV H Q R' R q P
  refine h F σ S σV H _ _ R q fun xs vs F1 S1 H1 f1 r1 d1 _ q1 => ?_
  match xs, vs, d1, q1 with
  | [x], [v], .cons dx .nil, q1 =>
    obtain ⟨l, e, q1⟩ := ofO_ex q1
    obtain ⟨a, ws, ev, hs, ql⟩ := asL_rel r1 dx e
    refine ⟨a, ws, by rw [ev], hs, P _ _ F1 S1 H1 _ f1 r1 ?_ q1⟩
    intro i F' S' H' f' r' kp
    obtain ⟨a', vs', ev', hs', ql'⟩ := asL_rel r' (dx.mono r1 f') kp
    rw [ev] at ev'
    cases ev'
    refine ⟨fun d ed => ?_, fun hl => ⟨vs', hs', by rw [enumD_len, ql'.length] at hl; exact hl⟩⟩
    obtain ⟨z, ez, rfl⟩ := enumD_get l i 0 ed
    obtain ⟨u, eu, ru⟩ := ql'.get ez
    refine ⟨⟨vs', u, hs', eu⟩, fun x H'' y => ?_⟩
    obtain ⟨T, u', rfl, hT, rfl, y⟩ := y
    have e2 := y vs' hs'
    rw [eu] at e2
    cases e2
    refine ⟨fr_newD hT, r'.newD hT, .tup (SqT.of upd_same) (.cons ?_ (.cons (ru.mono r' (fr_newD hT)) .nil))⟩
    rw [Nat.zero_add]
    exact .int _
theorem pdi_enum {elts : List Expr} {kk : Nat} {tpos p : Pos} {dt : DA} (hg : Gl X "enumerate") (hm : X.mg "enumerate" = none) (ha : PDA X B [e] n dt) (hs : starEach [e] X.env = [(false, eval e X.env)] := by rfl) : PDI X B (.Tuple elts kk tpos) (.Call (.Name "enumerate" p) [e] [] pos) (iEn dt) :=
  ⟨_, pi_enum hg hm pa_w hs, sim_iEn ha⟩
def zipD : List D → List D → List D
  | x :: xs, y :: ys => .tup [x, y] :: zipD xs ys
  | _, _ => []
theorem zipD_get : ∀ (l m : List D) (i : Nat) {x : D}, (zipD l m)[i]? = some x → ∃ d e, l[i]? = some d ∧ m[i]? = some e ∧ x = .tup [d, e]
  | [], _, i, x, e => by simp [zipD] at e
  | _ :: _, [], i, x, e => by simp [zipD] at e
  | d :: l, e' :: m, 0, x, e => by
    simp [zipD] at e
    exact ⟨d, e', rfl, rfl, e.symm⟩
  | d :: l, e' :: m, i + 1, x, e => by
    obtain ⟨z, w, e1, e2, e3⟩ := zipD_get l m i (x := x) (by simpa [zipD] using e)
    exact ⟨z, w, by simpa using e1, by simpa using e2, e3⟩
theorem zipD_end : ∀ (l m : List D) (i : Nat), (zipD l m).length ≤ i → l.length ≤ i ∨ m.length ≤ i
  | [], _, i, _ => .inl (Nat.zero_le _)
  | _ :: _, [], i, _ => .inr (Nat.zero_le _)
  | _ :: l, _ :: m, 0, h => by simp [zipD] at h
  | _ :: l, _ :: m, i + 1, h => by
    have := zipD_end l m i (by simpa [zipD] using h)
    simpa using this
def iZp (dt : DA) : DI := fun σ S Q => dt σ S fun xs S1 => match xs with
  | [x, y] => ofO (asL S1 x) fun l => ofO (asL S1 y) fun m => Q (zipD l m) (fun S' => keepL x l S' ∧ keepL y m S') S1
  | _ => False
theorem sim_iZp {dt : DA} {tt : TA} (h : SimA K B n dt tt) : SimI K B (iZp dt) (iZip K tt) := by
  intro F σ S σV H Q R' R q P
  refine h F σ S σV H _ _ R q fun xs vs F1 S1 H1 f1 r1 d1 _ q1 => ?_
  match xs, vs, d1, q1 with
  | [x, y], [v, w], .cons dx (.cons dy .nil), q1 =>
    obtain ⟨l, e, q1⟩ := ofO_ex q1
    obtain ⟨m, e', q1⟩ := ofO_ex q1
    obtain ⟨a, ws, ev, hs, ql⟩ := asL_rel r1 dx e
    obtain ⟨b, us, ew, hs2, qm⟩ := asL_rel r1 dy e'
    refine ⟨a, b, ws, us, by rw [ev, ew], hs, hs2, P _ _ F1 S1 H1 _ f1 r1 ?_ q1⟩
    intro i F' S' H' f' r' kp
    obtain ⟨a', vs', ev', hs', ql'⟩ := asL_rel r' (dx.mono r1 f') kp.1
    obtain ⟨b', us', ew', ht', qm'⟩ := asL_rel r' (dy.mono r1 f') kp.2
    rw [ev] at ev'
    cases ev'
    rw [ew] at ew'
    cases ew'
    refine ⟨fun d ed => ?_, fun hl => ⟨vs', us', hs', ht', by rw [← ql'.length, ← qm'.length]; exact zipD_end l m i hl⟩⟩
    obtain ⟨z, z2, ez, ez2, rfl⟩ := zipD_get l m i ed
    obtain ⟨u, eu, ru⟩ := ql'.get ez
    obtain ⟨u2, eu2, ru2⟩ := qm'.get ez2
    refine ⟨⟨vs', us', u, u2, hs', ht', eu, eu2⟩, fun x H'' y => ?_⟩
    obtain ⟨T, p, q, rfl, hT, rfl, y1, y2⟩ := y
    have e2 := y1 vs' hs'
    rw [eu] at e2
    cases e2
    have e3 := y2 us' ht'
    rw [eu2] at e3
    cases e3
    exact ⟨fr_newD hT, r'.newD hT, .tup (SqT.of upd_same) (.cons (ru.mono r' (fr_newD hT)) (.cons (ru2.mono r' (fr_newD hT)) .nil))⟩
theorem pdi_zip {elts : List Expr} {kk : Nat} {tpos p : Pos} {dt : DA} (hg : Gl X "zip") (hm : X.mg "zip" = none) (ha : PDA X B [a, b] n dt) (hs : starEach [a, b] X.env = (false, eval a X.env) :: starEach [b] X.env := by rfl) (hpl : (backTo pos (starEach [b] X.env)).any (·.1) = false := by rfl) :
    PDI X B (.Tuple elts kk tpos) (.Call (.Name "zip" p) [a, b] [] pos) (iZp dt) := ⟨_, pi_zip hg hm pa_w hs hpl, sim_iZp ha⟩

/-! ### for -/
def forL (keep : Store → Prop) (g : DG) (tb : DS) : List D → DS
  | [] => fun D σ S => keep S ∧ D.nx σ S
  | x :: r => fun D σ S => keep S ∧ g x σ S fun σ1 S1 => tb { D with nx := forL keep g tb r D, ct := forL keep g tb r D, bk := D.nx } σ1 S1
def dFor (it : DI) (g : DG) (tb : DS) : DS := fun D σ S => it σ S fun L keep S1 => forL keep g tb L D σ S1
theorem sim_for {di : DI} {wi : TI} {g : DG} {tg : TG} (hi : SimI K B di wi) (hg : SimG K B g tg) (hb : SimS K B ds t) : SimS K B (dFor di g ds) (tFor wi tg t) := by
  intro F σ S σV H D V R q P
  refine hi F σ S σV H _ _ R q fun L keep F1 S1 H1 J f1 r1 it q1 => ?_
  refine ⟨fun i m σV' H' => ∃ F' σ' S', m = L.length - i ∧ i ≤ L.length ∧ Fr F1 S1 H1 F' S' H' ∧ Rel K B F' σ' S' σV' H' ∧ forL keep g ds (L.drop i) D σ' S',
    ⟨L.length, F1, σ, S1, by omega, Nat.zero_le _, Fr.refl, R.step f1 r1, q1⟩, ?_⟩
  rintro i m σV2 H2 ⟨F2, σ2, S2, rfl, hl, f2, R2, q2⟩
  have kp : keep S2 := by
    cases e : L.drop i with
    | nil => rw [e] at q2; exact q2.1
    | cons x r => rw [e] at q2; exact q2.1
  obtain ⟨go, stop⟩ := it i F2 S2 H2 f2 R2.st kp
  by_cases h : i < L.length
  · have ed : L.drop i = L[i] :: L.drop (i + 1) := List.drop_eq_getElem_cons h
    rw [ed] at q2
    obtain ⟨hgo, yl⟩ := go L[i] (by simp [h])
    refine .inr ⟨hgo, fun σV' H' => ∃ F' σ' S', Fr F1 S1 H1 F' S' H' ∧ Rel K B F' σ' S' σV' H' ∧ forL keep g ds (L.drop (i + 1)) D σ' S', ?_, ?_⟩
    · rintro σV' H' ⟨F', σ', S', f', R', q'⟩
      exact ⟨L.length - (i + 1), by omega, F', σ', S', rfl, h, f', R', q'⟩
    · intro x H3 y
      obtain ⟨f3, r3, d3⟩ := yl x H3 y
      refine hg F2 σ2 S2 σV2 H3 L[i] x _ _ (R2.step f3 r3) d3 q2.2 fun F4 σ4 S4 σV4 H4 f4 R4 q4 => ?_
      have fz := f2.trans (f3.trans f4)
      refine hb F4 σ4 S4 σV4 H4 _ _ R4 q4 ⟨?_, P.rt.step (f1.trans fz), P.nx.step (f1.trans fz), ?_⟩
      · intro F' σ' S' σV' H' f' R' q'
        exact ⟨F', σ', S', fz.trans f', R', q'⟩
      · intro F' σ' S' σV' H' f' R' q'
        exact ⟨F', σ', S', fz.trans f', R', q'⟩
  · have ed : L.drop i = [] := List.drop_eq_nil_of_le (by omega)
    rw [ed] at q2
    exact .inl ⟨stop (by omega), P.nx F2 σ2 S2 σV2 H2 (f1.trans f2) R2 q2.2⟩
theorem pds_for {tg iter : Expr} {di : DI} {g : DG} (hp : PassesOwn (model X.prog X.w) X.A X.env X.xe) (hc : X.calm = true) (hi : PDI X B tg iter di) (hg : PDG X B tg g) (hb : PDSs X B body ds)
    (hs : ∀ x, foldedSetIterable iter X.env x = pure x := by intro _; rfl) : PDS X B (.For tg iter body [] pos) (dFor di g ds) := by
  obtain ⟨wi, pi, si⟩ := hi
  exact pds_of (ps_for hp hc pi pg_w pss_w hs) (sim_for si hg hb)
end
end DL
/-! DL7: comprehensions; a def's body. -/
namespace DL
open PySem PySem.Spec PyProof.Rows L2

section
variable {K : PySem.W.Frag} {ca : Nat → Addr} {F F' : Addr → Prop} {S S' : Store} {H H' : Hp} {B : Bc} {Q : QE} {QV : VK} {d : D} {v : V} {l : List D} {X : Cx} {a b e o : Expr} {es : List Expr} {da db dd : DE} {ta tb te : TE} {pos p2 : Pos} {n : Nat} {σ : DEnv} {σV : L2.St}
/-- the block's own names are forgotten at its start -/
def wipeD (σ : DEnv) : List Nat → DEnv
  | [] => σ
  | v :: vs => (wipeD σ vs).set v none
theorem RelEnv.wipe (e : RelEnv K F H σ σV) : ∀ vs, RelEnv K F H (wipeD σ vs) (L2.wipe σV vs)
  | [] => e
  | v :: vs => by
    have ih := RelEnv.wipe e vs
    refine ⟨by show ((wipeD σ vs).set v none).length = ((L2.wipe σV vs).set v none).length; rw [List.length_set, List.length_set]; exact ih.1, fun i d h => ?_⟩
    have h : ((wipeD σ vs).set v none)[i]? = some (some d) := h
    show ∃ u, ((L2.wipe σV vs).set v none)[i]? = some (some u) ∧ RelD K F H d u
    by_cases hv : v = i
    · subst hv
      by_cases hl : v < (wipeD σ vs).length
      · rw [List.getElem?_set_self hl] at h; cases h
      · rw [List.getElem?_eq_none (by simpa using hl)] at h; cases h
    · rw [List.getElem?_set_ne hv] at h
      rw [List.getElem?_set_ne hv]
      exact ih.2 i d h
theorem Rel.wipe (R : Rel K B F σ S σV H) (vs : List Nat) : Rel K B F (wipeD σ vs) S (L2.wipe σV vs) H := ⟨R.env.wipe vs, R.st, R.fr⟩

/-- the item goes to one name, or to several -/
inductive CT where
  | one (i : Nat)
  | many (is : List Nat)
def CT.g : CT → DG
  | .one i => gN i
  | .many is => gTp is.length (is.foldr (fun i g => gsC (gN i) g) gsN)
def CT.t (K : PySem.W.Frag) : CT → TG
  | .one i => gName i
  | .many is => gTup K is.length (is.foldr (fun i g => gCons (gName i) g) gNil)
def CT.is : CT → List Nat
  | .one i => [i]
  | .many is => is
theorem sim_manys : ∀ is : List Nat, SimGs K B (is.foldr (fun i g => gsC (gN i) g) gsN) (is.foldr (fun i g => gCons (gName i) g) gNil)
  | [] => sim_gsN
  | i :: is => sim_gsC sim_gN (sim_manys is)
theorem sim_ct : ∀ c : CT, SimG K B c.g (c.t K)
  | .one i => sim_gN
  | .many is => sim_gTp (sim_manys is)
theorem wipe_setO {σ : L2.St} {i : Nat} {z : Option V} : ∀ {vs : List Nat}, i ∈ vs → L2.wipe (σ.set i z) vs = L2.wipe σ vs
  | v :: vs, h => by
    have keep : ∀ (vs : List Nat), i ∉ vs → L2.wipe (σ.set i z) vs = (L2.wipe σ vs).set i z := fun vs => by
      induction vs with
      | nil => intro _; rfl
      | cons w ws ih =>
        intro hn
        have h1 : w ≠ i := fun z => hn (by simp [z])
        show (L2.wipe (σ.set i z) ws).set w none = ((L2.wipe σ ws).set w none).set i z
        rw [ih (fun z => hn (List.mem_cons_of_mem _ z)), List.set_comm _ _ h1.symm]
    show (L2.wipe (σ.set i z) vs).set v none = (L2.wipe σ vs).set v none
    by_cases hi : i ∈ vs
    · rw [wipe_setO hi]
    · have e : i = v := by
        rcases List.mem_cons.mp h with z | z
        · exact z
        · exact absurd z hi
      subst e
      rw [keep vs hi, List.set_set]
theorem wipe_set {σ : L2.St} {i : Nat} {x : V} {vs : List Nat} (h : i ∈ vs) : L2.wipe (σ.set i (some x)) vs = L2.wipe σ vs := wipe_setO h
theorem wipe_sub {σ : L2.St} {vs : List Nat} : ∀ {ws : List Nat}, (∀ i ∈ ws, i ∈ vs) → L2.wipe (L2.wipe σ ws) vs = L2.wipe σ vs
  | [], _ => rfl
  | w :: ws, h => by
    show L2.wipe ((L2.wipe σ ws).set w none) vs = _
    rw [wipe_setO (h w (by simp)), wipe_sub fun i hi => h i (List.mem_cons_of_mem _ hi)]
theorem wipe_idem {σ : L2.St} {vs : List Nat} : L2.wipe (L2.wipe σ vs) vs = L2.wipe σ vs := wipe_sub fun _ h => h
/-- such a target stores into its own names alone -/
theorem manys_only {vs : List Nat} : ∀ {is : List Nat}, (∀ i ∈ is, i ∈ vs) → ∀ {xs : List V} {σ : L2.St} {H : Hp} {Q : L2.St → Hp → Prop}, (is.foldr (fun i g => gCons (gName i) g) gNil) xs σ H Q →
    (is.foldr (fun i g => gCons (gName i) g) gNil) xs σ H fun σ2 H2 => L2.wipe σ2 vs = L2.wipe σ vs ∧ Q σ2 H2
  | [], _, xs, σ, H, Q, h => ⟨h.1, rfl, h.2⟩
  | i :: is, hm, xs, σ, H, Q, h => by
    obtain ⟨v, r, e, h⟩ := h
    refine ⟨v, r, e, ?_⟩
    have z := manys_only (vs := vs) (is := is) (fun j hj => hm j (List.mem_cons_of_mem _ hj)) (xs := r) (σ := σ.set i (some v)) (H := H) (Q := Q) h
    rw [wipe_set (hm i (by simp))] at z
    exact z
theorem ct_only {vs : List Nat} : ∀ {c : CT}, (∀ i ∈ c.is, i ∈ vs) → ∀ {x : V} {σ : L2.St} {H : Hp} {Q : L2.St → Hp → Prop}, c.t K x σ H Q → c.t K x σ H fun σ2 H2 => L2.wipe σ2 vs = L2.wipe σ vs ∧ Q σ2 H2
  | .one i, hm, x, σ, H, Q, h => ⟨wipe_set (hm i (by simp [CT.is])), h⟩
  | .many is, hm, x, σ, H, Q, h => by
    obtain ⟨a, xs, e, hs, hl, h⟩ := h
    exact ⟨a, xs, e, hs, hl, manys_only hm h⟩

theorem ct_own {vs : List Nat} {c : CT} (hm : ∀ i ∈ c.is, i ∈ vs) {x : V} {σ : L2.St} {H : Hp} {Q : L2.St → Hp → Prop} (h : c.t K x (L2.wipe σ vs) H Q) : c.t K x (L2.wipe σ vs) H fun σ2 H2 => L2.wipe σ2 vs = L2.wipe σ vs ∧ Q σ2 H2 := by
  have z := ct_only (vs := vs) hm h
  rw [wipe_idem] at z
  exact z
/-- [elt for target in iter if test]: the items kept so far -/
def lcL (keep : Store → Prop) (g : DG) (tt : DT) (te : DE) (σ : DEnv) : List D → List D → Store → (List D → Store → Prop) → Prop
  | [], acc, S, Q => keep S ∧ Q acc S
  | x :: r, acc, S, Q => keep S ∧ g x σ S fun σ1 S1 => tt σ1 S1 fun k S2 => if k = true then te σ1 S2 fun y S3 => acc.length < lim ∧ lcL keep g tt te σ r (acc ++ [y]) S3 Q else lcL keep g tt te σ r acc S2 Q
def dLc (it : DI) (c : CT) (tt : DT) (te : DE) (vs : List Nat) : DE := fun σ S Q => it σ S fun L keep S1 => lcL keep c.g tt te (wipeD σ vs) L [] S1 fun acc S2 => Q (.lst acc) S2
def dLcM (it : DI) (c : CT) (tt : DT) (te : DE) (vs : List Nat) : DE := fun σ S Q => it σ S fun L keep S1 => lcL keep c.g tt te (wipeD σ vs) L [] S1 fun acc S2 => ∀ p, S2 p = none → Q (.obj p) (put S2 p (.lst acc))
/-- a list that a comprehension fills, hidden until it is done -/
theorem hidden_step {p : Addr} {w w' : HO} (r : RelS K ca F S H) (hp : H p = some w) (hs : S p = none) (hf : ¬ F p) (nt : ∀ xs, w ≠ .tup xs) (nf : ∀ o u, w ≠ .frz o u) :
    RelS K ca F S (upd H p w') ∧ (∀ {d : D} {v : V}, RelD K F H d v → RelD K F (upd H p w') d v) := by
  have tup : ∀ {a : Addr} {vs : List V}, SqT K H a vs → SqT K (upd H p w') a vs := fun {a vs} h => by
    rcases h with (h | ⟨o, h⟩) | h
    · exact .inl (.inl (by rw [upd_ne fun z => by subst z; rw [hp] at h; exact nt _ (Option.some.inj h)]; exact h))
    · exact .inl (.inr ⟨o, by rw [upd_ne fun z => by subst z; rw [hp] at h; exact nf _ _ (Option.some.inj h)]; exact h⟩)
    · exact .inr h
  have scr : ∀ {a : Addr} {vs : List V}, SqZ K H a vs → SqZ K (upd H p w') a vs := fun {a vs} h => by
    rcases h with ⟨o, h⟩ | h
    · exact .inl ⟨o, by rw [upd_ne fun z => by subst z; rw [hp] at h; exact nf _ _ (Option.some.inj h)]; exact h⟩
    · exact .inr h
  have fz : ∀ {a : Addr} {u : HO}, F a → H a = some u → upd H p w' a = some u := fun {a u} h e => by
    rw [upd_ne fun z => by subst z; exact hf h]; exact e
  have rdz : ∀ {a : Addr} {u : HO}, F a → Rd H a u → Rd (upd H p w') a u := fun {a u} h e => by
    rcases e with e | ⟨o, e⟩
    · exact .inl (fz h e)
    · exact .inr ⟨o, fz h e⟩
  have all : (∀ (d : D) (v : V), RelD K F H d v → RelD K F (upd H p w') d v) := fun d v h =>
    RelD.rec (motive_1 := fun d v _ => RelD K F (upd H p w') d v) (motive_2 := fun d v _ => RelDs K F (upd H p w') d v) (motive_3 := fun d v _ => RelKs K F (upd H p w') d v)
      .non .bl .int .str (fun h _ q => .tup (tup h) q) (fun h f _ q => .lst (fz f h) f q) (fun h f _ q => .dic (rdz f h) f q) (fun h _ q => .scr (scr h) q) .obj .ty .nil (fun _ _ h q => .cons h q) .nil (fun _ _ h q => .cons h q) h
  have alls : ∀ {d : List D} {v : List V}, RelDs K F H d v → RelDs K F (upd H p w') d v := fun {d v} h => by
    induction d generalizing v with
    | nil => cases h; exact .nil
    | cons x xs ih => cases h with | cons h q => exact .cons (all _ _ h) (ih q)
  have allk : ∀ {d : List (String × D)} {v : List (Key × V)}, RelKs K F H d v → RelKs K F (upd H p w') d v := fun {d v} h => by
    induction d generalizing v with
    | nil => cases h; exact .nil
    | cons x xs ih => cases h with | cons h q => exact .cons (all _ _ h) (ih q)
  have allf : ∀ {d : List (String × D)} {v : List (Str × V)}, RelFs K F H d v → RelFs K F (upd H p w') d v := fun {d v} h => by
    induction h with
    | nil => exact .nil
    | cons h _ ih => exact .cons (all _ _ h) ih
  refine ⟨⟨fun a o e => ⟨(r.ob a o e).1, ?_⟩, fun a h => ?_⟩, fun {d v} => all d v⟩
  · have ne : a ≠ p := fun z => by rw [z, hs] at e; cases e
    have q := (r.ob a o e).2
    cases o with
    | lst l => obtain ⟨vs, h, q⟩ := q; exact ⟨vs, by rw [upd_ne ne]; exact h, alls q⟩
    | dic l => obtain ⟨vs, h, q⟩ := q; exact ⟨vs, by rw [upd_ne ne]; exact h, allk q⟩
    | ins c l => obtain ⟨dx, vs, h, q⟩ := q; exact ⟨dx, vs, by rw [upd_ne ne]; exact h, allf q⟩
  · by_cases z : a = p
    · subst z; exact ⟨w', upd_same⟩
    · obtain ⟨o, e⟩ := r.fz a h
      exact ⟨o, by rw [upd_ne z]; exact e⟩
theorem hidden_all {p : Addr} {w' : HO} (h : ∀ {d : D} {v : V}, RelD K F H d v → RelD K F (upd H p w') d v) {ds : List D} {vs : List V} (q : RelDs K F H ds vs) : RelDs K F (upd H p w') ds vs := by
  induction ds generalizing vs with
  | nil => cases q; exact .nil
  | cons x xs ih => cases q with | cons a q => exact .cons (h a) (ih q)

/-- the walk of a comprehension: T says what stands behind it -/
theorem lc_walk {L : List D} {keep : Store → Prop} {J : It} {c : CT} {dt : DT} {tt : TT} {vs : List Nat} {Qd : List D → Store → Prop} {QV : V → Hp → Prop} (hsub : ∀ i ∈ c.is, i ∈ vs) (ht : SimT K B dt tt) (he : SimE K B da te) (R : Rel K B F σ S σV H) (it : ItRel K B.ca F S H L keep J)
    (q : lcL keep c.g dt da (wipeD σ vs) L [] S Qd)
    (done : ∀ (p : Addr) acc accV F' S' H', H p = none → Fr F S H F' S' H' → RelS K B.ca F' S' H' → S' p = none → ¬ F' p → H' p = some (.lst accV) → RelDs K F' H' acc accV → Qd acc S' → QV (.ref p) H')
    (p : Addr) (hp : H p = none) : ∃ W : Nat → Nat → Hp → Prop, (∃ m, W 0 m (upd H p (.lst []))) ∧ ∀ i m H, W i m H →
      (J.stop i H ∧ QV (.ref p) H) ∨ (J.go i H ∧ ∃ Nx : Hp → Prop, (∀ H', Nx H' → ∃ m', m' < m ∧ W (i + 1) m' H') ∧ ∀ x H', J.yld i H x H' → c.t K x (L2.wipe σV vs) H' fun σ2 H2 => L2.wipe σ2 vs = L2.wipe σV vs ∧ tt σ2 H2 fun k H3 =>
        if k = true then te σ2 H3 fun y H4 => ∃ acc, H4 p = some (.lst acc) ∧ acc.length < sizeLine ∧ Nx (upd H4 p (.lst (acc ++ [y]))) else Nx H3) := by
  have npF : ¬ F p := fun h => by obtain ⟨_, e⟩ := R.st.fz p h; rw [hp] at e; cases e
  refine ⟨fun i m H' => ∃ acc accV F' S', m = L.length - i ∧ i ≤ L.length ∧ Fr F S H F' S' H' ∧ RelS K B.ca F' S' H' ∧ S' p = none ∧ ¬ F' p ∧ H' p = some (.lst accV) ∧ RelDs K F' H' acc accV ∧ lcL keep c.g dt da (wipeD σ vs) (L.drop i) acc S' Qd,
    ⟨L.length, [], [], F, S, by omega, Nat.zero_le _, fr_newD hp, R.st.newD hp, R.st.free hp, npF, upd_same, .nil, q⟩, ?_⟩
  rintro i m H2 ⟨acc, accV, F2, S2, rfl, hl, f2, r2, n2, nf2, h2, rd2, q2⟩
  have kp : keep S2 := by
    cases e : L.drop i with
    | nil => rw [e] at q2; exact q2.1
    | cons x r => rw [e] at q2; exact q2.1
  obtain ⟨go, stop⟩ := it i F2 S2 H2 f2 r2 kp
  by_cases h : i < L.length
  · have ed : L.drop i = L[i] :: L.drop (i + 1) := List.drop_eq_getElem_cons h
    rw [ed] at q2
    obtain ⟨hgo, yl⟩ := go L[i] (by simp [h])
    refine .inr ⟨hgo, fun H' => ∃ acc accV F' S', Fr F S H F' S' H' ∧ RelS K B.ca F' S' H' ∧ S' p = none ∧ ¬ F' p ∧ H' p = some (.lst accV) ∧ RelDs K F' H' acc accV ∧ lcL keep c.g dt da (wipeD σ vs) (L.drop (i + 1)) acc S' Qd, ?_, ?_⟩
    · rintro H' ⟨acc', accV', F', S', f', r', n', nf', h', rd', q'⟩
      exact ⟨L.length - (i + 1), by omega, acc', accV', F', S', rfl, h, f', r', n', nf', h', rd', q'⟩
    · intro x H3 y
      obtain ⟨f3, r3, d3⟩ := yl x H3 y
      refine ct_own hsub ?_
      have R3 : Rel K B F2 (wipeD σ vs) S2 (L2.wipe σV vs) H3 := (R.wipe vs).step (f2.trans f3) r3
      refine sim_ct c F2 _ S2 _ H3 L[i] x _ _ R3 d3 q2.2 fun F4 σ4 S4 σV4 H4 f4 R4 q4 => ?_
      refine ht F4 σ4 S4 σV4 H4 _ _ R4 q4 fun k F5 S5 H5 f5 r5 q5 => ?_
      have f35 := f3.trans (f4.trans f5)
      obtain ⟨h5, n5, i5⟩ := f35 p _ h2 n2
      have nf5 : ¬ F5 p := fun z => nf2 (i5.mp z)
      have rd5 := rd2.mono r2 f35
      cases k with
      | false =>
        exact ⟨acc, accV, F5, S5, f2.trans f35, r5, n5, nf5, h5, rd5, q5⟩
      | true =>
        refine he F5 σ4 S5 σV4 H5 _ _ (R4.step f5 r5) q5 fun y' yv F6 S6 H6 f6 r6 d6 q6 => ?_
        obtain ⟨h6, n6, i6⟩ := f6 p _ h5 n5
        have nf6 : ¬ F6 p := fun z => nf5 (i6.mp z)
        have rd6 := rd5.mono r5 f6
        obtain ⟨r7, m7⟩ := hidden_step (w' := .lst (accV ++ [yv])) r6 h6 n6 nf6 (fun _ z => by cases z) (fun _ _ z => by cases z)
        refine ⟨accV, h6, by rw [← rd6.length, lim_eq]; exact q6.1, acc ++ [y'], accV ++ [yv], F6, S6, ?_, r7, n6, nf6, upd_same, hidden_all m7 (rd6.append (.cons d6 .nil)), q6.2⟩
        intro c' o' e' n'
        obtain ⟨e1, e2, e3⟩ := (f2.trans (f35.trans f6)) c' o' e' n'
        exact ⟨by rw [upd_ne (ne_of_none e' hp)]; exact e1, e2, e3⟩
  · have ed : L.drop i = [] := List.drop_eq_nil_of_le (by omega)
    rw [ed] at q2
    exact .inl ⟨stop (by omega), done p acc accV F2 S2 H2 hp f2 r2 n2 nf2 h2 rd2 q2.2⟩
/-- a thing that nobody knows comes to light: as a list that stays, as one of the store -/
theorem fr_light {F0 : Addr → Prop} {S0 : Store} {H0 : Hp} {p : Addr} (f : Fr F0 S0 H0 F S H) (hp : H0 p = none) : Fr F0 S0 H0 (ins F p) S H := fun a o e n => by
  obtain ⟨e1, e2, e3⟩ := f a o e n
  have ne : a ≠ p := ne_of_none e hp
  exact ⟨e1, e2, ⟨fun z => e3.mp (z.resolve_left ne), fun z => .inr (e3.mpr z)⟩⟩
theorem RelS.light {p : Addr} {u : HO} (r : RelS K ca F S H) (h : H p = some u) (n : S p = none) : RelS K ca (DL.ins F p) S H ∧ (∀ {d : D} {v : V}, RelD K F H d v → RelD K (DL.ins F p) H d v) := by
  have all : ∀ (d : D) (v : V), RelD K F H d v → RelD K (DL.ins F p) H d v := fun d v h =>
    RelD.rec (motive_1 := fun d v _ => RelD K (DL.ins F p) H d v) (motive_2 := fun d v _ => RelDs K (DL.ins F p) H d v) (motive_3 := fun d v _ => RelKs K (DL.ins F p) H d v)
      .non .bl .int .str (fun h _ q => .tup h q) (fun h f _ q => .lst h (.inr f) q) (fun h f _ q => .dic h (.inr f) q) (fun h _ q => .scr h q) .obj .ty .nil (fun _ _ h q => .cons h q) .nil (fun _ _ h q => .cons h q) h
  have alls : ∀ {d : List D} {v : List V}, RelDs K F H d v → RelDs K (DL.ins F p) H d v := fun {d v} h => by
    induction d generalizing v with
    | nil => cases h; exact .nil
    | cons x xs ih => cases h with | cons h q => exact .cons (all _ _ h) (ih q)
  have allk : ∀ {d : List (String × D)} {v : List (Key × V)}, RelKs K F H d v → RelKs K (DL.ins F p) H d v := fun {d v} h => by
    induction d generalizing v with
    | nil => cases h; exact .nil
    | cons x xs ih => cases h with | cons h q => exact .cons (all _ _ h) (ih q)
  have allf : ∀ {d : List (String × D)} {v : List (Str × V)}, RelFs K F H d v → RelFs K (DL.ins F p) H d v := fun {d v} h => by
    induction h with
    | nil => exact .nil
    | cons h _ ih => exact .cons (all _ _ h) ih
  refine ⟨⟨fun a o e => ?_, fun a z => ?_⟩, fun {d v} => all d v⟩
  · have ne : a ≠ p := fun z => by rw [z, n] at e; cases e
    refine ⟨fun z => (r.ob a o e).1 (z.resolve_left ne), ?_⟩
    have q := (r.ob a o e).2
    cases o with
    | lst l => obtain ⟨vs, h, q⟩ := q; exact ⟨vs, h, alls q⟩
    | dic l => obtain ⟨vs, h, q⟩ := q; exact ⟨vs, h, allk q⟩
    | ins c l => obtain ⟨dx, vs, h, q⟩ := q; exact ⟨dx, vs, h, allf q⟩
  · rcases z with z | z
    · subst z; exact ⟨u, h⟩
    · exact r.fz a z
theorem sim_lc {di : DI} {wi : TI} {c : CT} {dt : DT} {tt : TT} {vs : List Nat} (hsub : ∀ i ∈ c.is, i ∈ vs) (hi : SimI K B di wi) (ht : SimT K B dt tt) (he : SimE K B da te) : SimE K B (dLc di c dt da vs) (tLc wi (c.t K) tt te vs) := by
  intro F σ S σV H Q QV R q P
  refine hi F σ S σV H _ _ R q fun L keep F1 S1 H1 J f1 r1 it q1 => ?_
  intro p hp
  refine lc_walk hsub ht he (R.step f1 r1) it q1 ?_ p hp
  intro p acc accV F' S' H' hp f' r' n' nf' h' rd' q'
  obtain ⟨r2, m2⟩ := r'.light h' n'
  refine P _ _ (ins F' p) S' H' (fun a o e n => ?_) r2 (.lst h' (.inl rfl) ?_) q'
  · obtain ⟨e1, e2, e3⟩ := f1 a o e n
    obtain ⟨g1, g2, g3⟩ := f' a o e1 e2
    have ne : a ≠ p := ne_of_none e1 hp
    exact ⟨g1, g2, ⟨fun z => e3.mp (g3.mp (z.resolve_left ne)), fun z => .inr (g3.mpr (e3.mpr z))⟩⟩
  · clear q'
    induction acc generalizing accV with
    | nil => cases rd'; exact .nil
    | cons x xs ih =>
      have go : ∀ {ds : List D} {us : List V}, RelDs K F' H' ds us → RelDs K (ins F' p) H' ds us := fun {ds us} z => by
        induction ds generalizing us with
        | nil => cases z; exact .nil
        | cons y ys ih2 => cases z with | cons a z => exact .cons (m2 a) (ih2 z)
      exact go rd'
theorem sim_lcM {di : DI} {wi : TI} {c : CT} {dt : DT} {tt : TT} {vs : List Nat} (hsub : ∀ i ∈ c.is, i ∈ vs) (hi : SimI K B di wi) (ht : SimT K B dt tt) (he : SimE K B da te) : SimE K B (dLcM di c dt da vs) (tLc wi (c.t K) tt te vs) := by
  intro F σ S σV H Q QV R q P
  refine hi F σ S σV H _ _ R q fun L keep F1 S1 H1 J f1 r1 it q1 => ?_
  intro p hp
  refine lc_walk hsub ht he (R.step f1 r1) it q1 ?_ p hp
  intro p acc accV F' S' H' hp f' r' n' nf' h' rd' q'
  refine P _ _ F' (put S' p (.lst acc)) H' (fun a o e n => ?_) ⟨fun a w e => ?_, r'.fz⟩ (.obj p) (q' p n')
  · obtain ⟨e1, e2, e3⟩ := f1 a o e n
    obtain ⟨g1, g2, g3⟩ := f' a o e1 e2
    have ne : a ≠ p := ne_of_none e1 hp
    exact ⟨g1, by rw [put_ne ne]; exact g2, g3.trans e3⟩
  · by_cases z : a = p
    · subst z
      rw [put_same] at e
      cases e
      exact ⟨nf', accV, h', rd'⟩
    · rw [put_ne z] at e
      exact r'.ob a w e

/-! ### a comprehension's block -/
abbrev noEx (B : Bc) : Bc := { B with ED := fun _ _ _ => False }
theorem Rel.noEx (R : Rel K B F σ S σV H) : Rel K (noEx B) F σ S σV H := ⟨R.env, R.st, R.fr⟩
theorem simE_no (h : SimE K (noEx B) da ta) : SimE K B da ta := fun F σ S σV H Q QV R q P => h F σ S σV H Q QV R.noEx q P
theorem simT_no {dt : DT} {tt : TT} (h : SimT K (noEx B) dt tt) : SimT K B dt tt := fun F σ S σV H Q QV R q P => h F σ S σV H Q QV R.noEx q P
theorem takes_no {E0 : Nat} (B : Bc) : Takes X (XW X.K (noEx B)) := Takes.imp (W := fun _ _ _ _ => False) takes0 fun _ _ _ _ ⟨_, _, _, _, _, _, z⟩ => z
/-- the block's context, whatever its frame -/
abbrev blkOf (X : Cx) (scope : Scope) (s : Shared) (H : Hp) (C : Addr) (cl : List (Str × Addr)) (fp : List Addr) : Cx := X.blk s H scope (compEnvC scope cl C X.env) fp
def bE (X : Cx) (scope : Scope) (e : Expr) : TE := fun σ H Q => ∀ (s : Shared) (H0 : Hp) (C : Addr) (cl : List (Str × Addr)) (fp : List Addr), wpE (blkOf X scope s H0 C cl fp) e σ H Q
def bT (X : Cx) (scope : Scope) (e : Expr) : TT := fun σ H Q => ∀ (s : Shared) (H0 : Hp) (C : Addr) (cl : List (Str × Addr)) (fp : List Addr), wpT (blkOf X scope s H0 C cl fp) e σ H Q
def dYes : DT := fun _ S Q => Q true S
theorem sim_yes : SimT K B dYes tYes := fun F σ S σV H Q QV R q P => P true F S H Fr.refl R.st q
section
variable {elt tg iter tst : Expr} {scope : Scope} {own : List (Str × Nat)} {c : CT} {di : DI} {dt : DT}
theorem lc_elt (he : ∀ (s : Shared) (H : Hp) (C : Addr) (cl : List (Str × Addr)) (fp : List Addr), PD (blkOf X scope s H C cl fp) (noEx B) elt da) : SimE X.K B da (bE X scope elt) :=
  fun F σ S σV H Q QV R q P s H0 C cl fp => he s H0 C cl fp F σ S σV H Q QV R.noEx q P
theorem lc_tst (he : ∀ (s : Shared) (H : Hp) (C : Addr) (cl : List (Str × Addr)) (fp : List Addr), PDT (blkOf X scope s H C cl fp) (noEx B) tst dt) : SimT X.K B dt (bT X scope tst) :=
  fun F σ S σV H Q QV R q P s H0 C cl fp => he s H0 C cl fp F σ S σV H Q QV R.noEx q P
theorem pe_bE (s : Shared) (H : Hp) (C : Addr) (cl : List (Str × Addr)) (fp : List Addr) : PE (blkOf X scope s H C cl fp) elt (bE X scope elt) := ⟨fun pn st sg Hh Qq I h => pe_w.run pn st sg Hh Qq I (h s H C cl fp)⟩
theorem pt_bT (s : Shared) (H : Hp) (C : Addr) (cl : List (Str × Addr)) (fp : List Addr) : PT (blkOf X scope s H C cl fp) tst (bT X scope tst) := ⟨fun pn st sg Hh Qq I h => pt_w.run pn st sg Hh Qq I (h s H C cl fp)⟩
theorem pd_lc (hc : X.calm = true) (hN : X.N.Nodup) (hi : PDI X B tg iter di) (ok : BlkOk X.N X.env.scope scope own)
    (hg : ∀ (s : Shared) (H : Hp) (C : Addr) (cl : List (Str × Addr)) (fp : List Addr), PG (blkOf X scope s H C cl fp) tg (c.t X.K)) (he : ∀ (s : Shared) (H : Hp) (C : Addr) (cl : List (Str × Addr)) (fp : List Addr), PD (blkOf X scope s H C cl fp) (noEx B) elt da)
    (hsub : ∀ i ∈ c.is, i ∈ own.map (·.2) := by decide) (hs : ∀ x, foldedSetIterable iter X.env x = pure x := by intro _; rfl) : PD X B (.ListComp elt [⟨tg, iter, [], 0⟩] scope pos) (dLc di c dYes da (own.map (·.2))) := by
  obtain ⟨wi, pi, si⟩ := hi
  exact pd_of (pe_lc hc hN pi ok hg (fun _ _ _ _ _ => pts_nil) pe_bE hs) (sim_lc hsub si sim_yes (lc_elt he))
theorem pd_lcIf (hc : X.calm = true) (hN : X.N.Nodup) (hi : PDI X B tg iter di) (ok : BlkOk X.N X.env.scope scope own)
    (hg : ∀ (s : Shared) (H : Hp) (C : Addr) (cl : List (Str × Addr)) (fp : List Addr), PG (blkOf X scope s H C cl fp) tg (c.t X.K)) (ht : ∀ (s : Shared) (H : Hp) (C : Addr) (cl : List (Str × Addr)) (fp : List Addr), PDT (blkOf X scope s H C cl fp) (noEx B) tst dt)
    (he : ∀ (s : Shared) (H : Hp) (C : Addr) (cl : List (Str × Addr)) (fp : List Addr), PD (blkOf X scope s H C cl fp) (noEx B) elt da)
    (hsub : ∀ i ∈ c.is, i ∈ own.map (·.2) := by decide) (hs : ∀ x, foldedSetIterable iter X.env x = pure x := by intro _; rfl) : PD X B (.ListComp elt [⟨tg, iter, [tst], 0⟩] scope pos) (dLc di c dt da (own.map (·.2))) := by
  obtain ⟨wi, pi, si⟩ := hi
  exact pd_of (pe_lc hc hN pi ok hg (fun s H C cl fp => pts_one (pt_bT s H C cl fp)) pe_bE hs) (sim_lc hsub si (lc_tst ht) (lc_elt he))
theorem pd_lcM (hc : X.calm = true) (hN : X.N.Nodup) (hi : PDI X B tg iter di) (ok : BlkOk X.N X.env.scope scope own)
    (hg : ∀ (s : Shared) (H : Hp) (C : Addr) (cl : List (Str × Addr)) (fp : List Addr), PG (blkOf X scope s H C cl fp) tg (c.t X.K)) (he : ∀ (s : Shared) (H : Hp) (C : Addr) (cl : List (Str × Addr)) (fp : List Addr), PD (blkOf X scope s H C cl fp) (noEx B) elt da)
    (hsub : ∀ i ∈ c.is, i ∈ own.map (·.2) := by decide) (hs : ∀ x, foldedSetIterable iter X.env x = pure x := by intro _; rfl) : PD X B (.ListComp elt [⟨tg, iter, [], 0⟩] scope pos) (dLcM di c dYes da (own.map (·.2))) := by
  obtain ⟨wi, pi, si⟩ := hi
  exact pd_of (pe_lc hc hN pi ok hg (fun _ _ _ _ _ => pts_nil) pe_bE hs) (sim_lcM hsub si sim_yes (lc_elt he))
/-- y = [..] -/
theorem pds_setLc {i : Nat} {y : Str} {py spos : Pos} (hc : X.calm = true) (hN : X.N.Nodup) (hy : X.N[i]? = some y) (hyl : X.env.scope.names.lookup y = some .local)
    (hsw : swapsWith (.ListComp elt [⟨tg, iter, [], 0⟩] scope pos) (some (.Name y py)) spos.line X.env = pure true) (hi : PDI X B tg iter di) (ok : BlkOk X.N X.env.scope scope own)
    (hg : ∀ (s : Shared) (H : Hp) (C : Addr) (cl : List (Str × Addr)) (fp : List Addr), PG (blkOf X scope s H C cl fp) tg (c.t X.K)) (he : ∀ (s : Shared) (H : Hp) (C : Addr) (cl : List (Str × Addr)) (fp : List Addr), PD (blkOf X scope s H C cl fp) (noEx B) elt da)
    (hsub : ∀ i ∈ c.is, i ∈ own.map (·.2) := by decide) (hs : ∀ x, foldedSetIterable iter X.env x = pure x := by intro _; rfl) : PDS X B (.Assign [.Name y py] (.ListComp elt [⟨tg, iter, [], 0⟩] scope pos) spos) (dAsg (dLc di c dYes da (own.map (·.2))) (gN i)) := by
  obtain ⟨wi, pi, si⟩ := hi
  exact pds_of (ps_setLc hc hN hy hyl hsw pi ok hg (fun _ _ _ _ _ => pts_nil) pe_bE hs) (sim_asg (sim_lc hsub si sim_yes (lc_elt he)) sim_gN)
theorem pds_setLcM {i : Nat} {y : Str} {py spos : Pos} (hc : X.calm = true) (hN : X.N.Nodup) (hy : X.N[i]? = some y) (hyl : X.env.scope.names.lookup y = some .local)
    (hsw : swapsWith (.ListComp elt [⟨tg, iter, [], 0⟩] scope pos) (some (.Name y py)) spos.line X.env = pure true) (hi : PDI X B tg iter di) (ok : BlkOk X.N X.env.scope scope own)
    (hg : ∀ (s : Shared) (H : Hp) (C : Addr) (cl : List (Str × Addr)) (fp : List Addr), PG (blkOf X scope s H C cl fp) tg (c.t X.K)) (he : ∀ (s : Shared) (H : Hp) (C : Addr) (cl : List (Str × Addr)) (fp : List Addr), PD (blkOf X scope s H C cl fp) (noEx B) elt da)
    (hsub : ∀ i ∈ c.is, i ∈ own.map (·.2) := by decide) (hs : ∀ x, foldedSetIterable iter X.env x = pure x := by intro _; rfl) : PDS X B (.Assign [.Name y py] (.ListComp elt [⟨tg, iter, [], 0⟩] scope pos) spos) (dAsg (dLcM di c dYes da (own.map (·.2))) (gN i)) := by
  obtain ⟨wi, pi, si⟩ := hi
  exact pds_of (ps_setLc hc hN hy hyl hsw pi ok hg (fun _ _ _ _ _ => pts_nil) pe_bE hs) (sim_asg (sim_lcM hsub si sim_yes (lc_elt he)) sim_gN)
theorem pds_setLcIf {i : Nat} {y : Str} {py spos : Pos} (hc : X.calm = true) (hN : X.N.Nodup) (hy : X.N[i]? = some y) (hyl : X.env.scope.names.lookup y = some .local)
    (hsw : swapsWith (.ListComp elt [⟨tg, iter, [tst], 0⟩] scope pos) (some (.Name y py)) spos.line X.env = pure true) (hi : PDI X B tg iter di) (ok : BlkOk X.N X.env.scope scope own)
    (hg : ∀ (s : Shared) (H : Hp) (C : Addr) (cl : List (Str × Addr)) (fp : List Addr), PG (blkOf X scope s H C cl fp) tg (c.t X.K)) (ht : ∀ (s : Shared) (H : Hp) (C : Addr) (cl : List (Str × Addr)) (fp : List Addr), PDT (blkOf X scope s H C cl fp) (noEx B) tst dt)
    (he : ∀ (s : Shared) (H : Hp) (C : Addr) (cl : List (Str × Addr)) (fp : List Addr), PD (blkOf X scope s H C cl fp) (noEx B) elt da)
    (hsub : ∀ i ∈ c.is, i ∈ own.map (·.2) := by decide) (hs : ∀ x, foldedSetIterable iter X.env x = pure x := by intro _; rfl) : PDS X B (.Assign [.Name y py] (.ListComp elt [⟨tg, iter, [tst], 0⟩] scope pos) spos) (dAsg (dLc di c dt da (own.map (·.2))) (gN i)) := by
  obtain ⟨wi, pi, si⟩ := hi
  exact pds_of (ps_setLc hc hN hy hyl hsw pi ok hg (fun s H C cl fp => pts_one (pt_bT s H C cl fp)) pe_bE hs) (sim_asg (sim_lc hsub si (lc_tst ht) (lc_elt he)) sim_gN)
end

/-! ### a def keeps its promise -/
def startD (m : Nat) (ds : List D) : DEnv := ds.map some ++ List.replicate (m - ds.length) none
theorem start_rel {N : List Str} {ds : List D} {vs : List V} (q : RelDs K F H ds vs) (h : ds.length ≤ N.length) : RelEnv K F H (startD N.length ds) (L2.start N vs) := by
  unfold startD L2.start
  rw [← q.length]
  refine ⟨by simp [q.length], fun i d e => ?_⟩
  by_cases hi : i < ds.length
  · rw [List.getElem?_append_left (by simpa using hi), List.getElem?_map] at e
    obtain ⟨x, ex, e2⟩ := Option.map_eq_some_iff.mp e
    cases e2
    obtain ⟨u, eu, ru⟩ := q.get ex
    exact ⟨u, by rw [List.getElem?_append_left (by rw [List.length_map, ← q.length]; exact hi), List.getElem?_map, eu]; rfl, ru⟩
  · rw [List.getElem?_append_right (by simpa using hi), List.getElem?_replicate] at e
    split at e <;> cases e
abbrev DBody := (DX → DEnv → Store → Prop) → DS
/-- a body as a promise -/
def runD (m : Nat) (body : DBody) : DSp := fun ds S Q E => body (fun x _ S1 => E x S1) { nx := fun _ S1 => Q .non S1, rt := Q } (startD m ds) S
/-- what a body may lean on -/
structure Good (X : Cx) (B : Bc) : Prop where
  tk : Takes X (XW X.K B)
  ow : PassesOwn (model X.prog X.w) X.A X.env X.xe
  nd : X.N.Nodup
theorem def_ok {P : Program} {w : World} {mg : Str → Option Value} {base : Heap} {x qual : Str} {st : Stmt} {f : Addr} {fd : FuncData} {N ps : List Str} {k : Nat} (Fn : Fun K x qual st f fd) (Sc : FnScope N ps (defScope st)) (hn : ps.length = n) (body : DBody)
    (hb : ∀ (cdv : Value) (A : Around) (outer : List Env) (s : Shared) (H : Hp) (E : XK) (B : Bc), B.ca = ca → Room k (A.deeper (envOfC qual (defScope st) s.heap.objs.size f cdv)) →
      Good (cxOf (L2.CX P w) P w K mg base N qual (defScope st) f cdv A outer s H E) B → PDSs (cxOf (L2.CX P w) P w K mg base N qual (defScope st) f cdv A outer s H E) B (defBody st) (body B.ED)) :
    FnOk P w K mg base (L2.CX P w) (k + 1) f fd ps (lift K ca n (runD N.length body)) := by
  refine Fn.okX Sc (fun vs H Q E h => (lift_len h).trans hn.symm) fun cdv A outer s H vs Q E hr h => ?_
  obtain ⟨ds, F, S, QD, ED, hl, rd, rs, hw, PE', PX⟩ := h
  have hpl : ds.length ≤ N.length := by
    have e := congrArg List.length Sc.pre
    rw [List.length_take] at e
    omega
  let B : Bc := ⟨ca, F, S, H, fun x _ S1 => ED x S1⟩
  let X := cxOf (L2.CX P w) P w K mg base N qual (defScope st) f cdv A outer s H E
  have tk0 : Takes X (fun cls d _ H => E cls d H) := takes_of rfl rfl rfl rfl
  have tk : Takes X (XW K B) := tk0.imp fun cls dd σV H1 ⟨y, F1, σ1, S1, R1, rx, q⟩ => PX y cls dd F1 S1 H1 R1.fr R1.st rx q
  have ow : PassesOwn (model X.prog X.w) X.A X.env X.xe := PassesOwn.leaving
  refine ⟨_, pss_w, ?_⟩
  have hR : Rel K B F (startD N.length ds) S (L2.start N vs) H := ⟨start_rel rd hpl, rs, Fr.refl⟩
  refine hb cdv A outer s H E B rfl hr ⟨tk, ow, Sc.nd⟩ F _ S _ H _ _ hR hw ⟨?_, PE', ?_, ?_⟩
  · intro F' σ' S' σV' H' f' R' q
    exact PE' .non .non F' S' H' f' R'.st .non q
  · intro F' σ' S' σV' H' f' R' q
    exact q.elim
  · intro F' σ' S' σV' H' f' R' q
    exact q.elim
end
end DL
/-! DL8: sorted, dicts, isinstance, things let go. -/
namespace DL
open PySem PySem.Spec PyProof.Rows L2

/-! ### texts in order -/
def codes (a : String) : List Nat := a.toList.map Char.toNat
def leT (a b : String) : Bool := !ltCps (codes b) (codes a)
def srt (l : List String) : List String := l.mergeSort leT
theorem codes_inj {a b : String} (h : codes a = codes b) : a = b := by
  have h3 := mapNat_inj h
  rw [← String.ofList_toList (s := a), ← String.ofList_toList (s := b), h3]
theorem leT_iff {a b : String} : leT a b = true ↔ codes a ≤ codes b := by
  unfold leT
  rw [ltCps_eq]
  simp
theorem leT_trans (a b c : String) (h1 : leT a b = true) (h2 : leT b c = true) : leT a c = true := leT_iff.mpr (List.le_trans (leT_iff.mp h1) (leT_iff.mp h2))
theorem leT_total (a b : String) : (leT a b || leT b a) = true := by
  rw [Bool.or_eq_true]
  rcases List.le_total (codes a) (codes b) with h | h
  · exact .inl (leT_iff.mpr h)
  · exact .inr (leT_iff.mpr h)
theorem leT_anti {a b : String} (h1 : leT a b = true) (h2 : leT b a = true) : a = b := codes_inj (List.le_antisymm (leT_iff.mp h1) (leT_iff.mp h2))
theorem srt_perm (l : List String) : (srt l).Perm l := List.mergeSort_perm l leT
theorem srt_sorted (l : List String) : (srt l).Pairwise (fun a b => leT a b = true) := List.pairwise_mergeSort leT_trans leT_total l
theorem srt_eq {l m : List String} (h : l.Perm m) : srt l = srt m :=
  List.Perm.eq_of_pairwise (fun _ _ _ _ => leT_anti) (srt_sorted l) (srt_sorted m) ((srt_perm l).trans (h.trans (srt_perm m).symm))
theorem rising_pair : ∀ (l : List String) (p : String), risingS (Str.ofString p) (l.map Str.ofString) = true → (p :: l).Pairwise (fun a b => leT a b = true)
  | [], p, _ => by simp
  | x :: r, p, h => by
    have h' : (!ltCps (Str.ofString x).cps.toList (Str.ofString p).cps.toList && risingS (Str.ofString x) (r.map Str.ofString)) = true := h
    rw [Bool.and_eq_true, ofS_cps, ofS_cps] at h'
    have ih := rising_pair r x h'.2
    refine List.pairwise_cons.mpr ⟨fun y hy => ?_, ih⟩
    have h1 : leT p x = true := h'.1
    rcases List.mem_cons.mp hy with e | hy
    · rw [e]; exact h1
    · exact leT_trans p x y h1 (List.rel_of_pairwise_cons ih hy)
theorem sorted_srt {ss ys : List String} (hp : ys.Perm ss) (hs : sortedS (ys.map Str.ofString) = true) : ys = srt ss := by
  have h : ys.Pairwise (fun a b => leT a b = true) := by
    cases ys with
    | nil => exact .nil
    | cons p l => exact rising_pair l p hs
  exact List.Perm.eq_of_pairwise (fun _ _ _ _ => leT_anti) h (srt_sorted ss) (hp.trans (srt_perm ss).symm)
def decS (x : Str) : String := String.ofList (x.cps.toList.map Char.ofNat)
theorem decS_ofS (s : String) : decS (Str.ofString s) = s := by
  unfold decS
  rw [ofS_cps, List.map_map]
  have e : (Char.ofNat ∘ Char.toNat) = id := by
    funext c
    exact Char.ofNat_toNat c
  rw [e, List.map_id, String.ofList_toList]
theorem perm_ofS {ss : List String} : ∀ {ys : List Str}, ys.Perm (ss.map Str.ofString) → ∃ zs : List String, ys = zs.map Str.ofString ∧ zs.Perm ss := fun {ys} h => by
  have all : ∀ (ys : List Str), (∀ y ∈ ys, ∃ z : String, y = Str.ofString z) → ∃ zs : List String, ys = zs.map Str.ofString := fun ys => by
    induction ys with
    | nil => intro _; exact ⟨[], rfl⟩
    | cons y ys ih =>
      intro hy
      obtain ⟨z, e⟩ := hy y (by simp)
      obtain ⟨zs, e2⟩ := ih fun w hw => hy w (List.mem_cons_of_mem _ hw)
      exact ⟨z :: zs, by rw [e, e2]; rfl⟩
  obtain ⟨zs, e⟩ := all ys fun y hy => by
    obtain ⟨z, _, e⟩ := List.mem_map.mp (h.mem_iff.mp hy)
    exact ⟨z, e.symm⟩
  subst e
  refine ⟨zs, rfl, ?_⟩
  have z := h.map decS
  rw [List.map_map, List.map_map] at z
  have e : (decS ∘ Str.ofString) = id := by
    funext s
    exact decS_ofS s
  rw [e, List.map_id, List.map_id] at z
  exact z

section
variable {K : PySem.W.Frag} {ca : Nat → Addr} {F F' : Addr → Prop} {S S' : Store} {H H' : Hp} {B : Bc} {Q : QE} {QV : VK} {d : D} {v : V} {l : List D} {X : Cx} {a b e o : Expr} {es : List Expr} {da db dd : DE} {ta tb te : TE} {pos p2 : Pos} {n : Nat} {σ : DEnv} {σV : L2.St}
def strsOf : List D → Option (List String)
  | [] => some []
  | .str b :: r => (strsOf r).map (b :: ·)
  | _ => none
theorem strs_rel : ∀ {l : List D} {vs : List V} {bs : List String}, RelDs K F H l vs → strsOf l = some bs → vs = (bs.map Str.ofString).map V.str := fun {l} => by
  induction l with
  | nil => intro vs bs q e; cases q; cases e; rfl
  | cons x r ih =>
    intro vs bs q e
    cases q with
    | cons h q =>
      cases h with
      | str s =>
        obtain ⟨bs, e1, e2⟩ := Option.map_eq_some_iff.mp (show (strsOf r).map (s :: ·) = some _ from e)
        subst e2
        rw [ih q e1]
        rfl
      | _ => cases e
theorem strs_of (bs : List String) : RelDs K F H (bs.map D.str) ((bs.map Str.ofString).map V.str) := by
  induction bs with
  | nil => exact .nil
  | cons b r ih => exact .cons (.str b) ih
theorem strsOf_map (bs : List String) : strsOf (bs.map D.str) = some bs := by
  induction bs with
  | nil => rfl
  | cons b r ih => show (strsOf (r.map D.str)).map (b :: ·) = _; rw [ih]; rfl
theorem intsOf_map (bs : List Int) : intsOf (bs.map D.int) = some bs := by
  induction bs with
  | nil => rfl
  | cons b r ih => show (intsOf (r.map D.int)).map (b :: ·) = _; rw [ih]; rfl
theorem blsOf_map (bs : List Bool) : blsOf (bs.map D.bl) = some bs := by
  induction bs with
  | nil => rfl
  | cons b r ih => show (blsOf (r.map D.bl)).map (b :: ·) = _; rw [ih]; rfl
/-- sorted of a list of texts, of a dict's keys; list of a dict -/
def bSorted : DC := fun xs S Q => match xs with
  | [x] => match asK S x with
    | some kd => kd.length < 64 ∧ Q (.lst ((srt (kd.map (·.1))).map D.str)) S
    | none => ofO (asL S x) fun l => ofO (strsOf l) fun ss => ss.length < 64 ∧ Q (.lst ((srt ss).map D.str)) S
  | _ => False
def rSortedX (K : PySem.W.Frag) : List V → Hp → VK → Prop := fun xs H Q => (∃ (a : Addr) (kvs : List (Key × V)) (ks : List Str), xs = [.ref a] ∧ Rd H a (.dK kvs) ∧ kvs.map (·.1) = ks.map Sum.inr ∧ ks.length < 64 ∧
    ∀ ys p, ys.Perm ks → sortedS ys = true → H p = none → Q (.ref p) (upd H p (.lst (ys.map V.str)))) ∨ rSortedS K xs H Q
theorem call_sortedX (hc : X.calm = true) : CallR X (.builtin "sorted") (rSortedX X.K) := CallR.or (call_sortedD hc) cr_sortedS
theorem ks_keys {kd : List (String × D)} {kv : List (Key × V)} (q : RelKs K F H kd kv) : kv.map (·.1) = ((kd.map (·.1)).map Str.ofString).map Sum.inr := by
  induction kd generalizing kv with
  | nil => cases q; rfl
  | cons p r ih => cases q with | cons h q => rw [List.map_cons, ih q]; rfl
theorem vrc_sorted : VRC K ca bSorted (rSortedX K) := by
  intro F S H xs vs Q QV r rx q P
  match xs, vs, rx, q with
  | [x], [v], .cons h .nil, q =>
    have fin : ∀ (ss : List String) (ys : List Str) (p : Addr), ys.Perm (ss.map Str.ofString) → sortedS ys = true → H p = none → Q (.lst ((srt ss).map D.str)) S → QV (.ref p) (upd H p (.lst (ys.map V.str))) := fun ss ys p hp hs hn q => by
      obtain ⟨zs, e, pz⟩ := perm_ofS hp
      subst e
      have ez := sorted_srt pz hs
      subst ez
      exact P _ _ _ _ _ (fr_newF hn) (r.newF hn) (.lst upd_same (.inl rfl) (strs_of _)) q
    unfold bSorted at q
    dsimp only at q
    cases ek : asK S x with
    | some kd =>
      rw [ek] at q
      obtain ⟨a, kv, ev, hd, qk⟩ := asK_rel r h ek
      refine .inl ⟨a, kv, _, by rw [ev], hd, ks_keys qk, by simpa using q.1, fun ys p hp hs hn => ?_⟩
      exact fin _ ys p hp hs hn q.2
    | none =>
      rw [ek] at q
      obtain ⟨l, el, q⟩ := ofO_ex q
      obtain ⟨ss, es, h64, q⟩ := ofO_ex q
      obtain ⟨a, ws, ev, hs, ql⟩ := asL_rel r h el
      rw [strs_rel ql es] at hs
      refine .inr ⟨a, _, by rw [ev], hs, by simpa using h64, fun ys p hp hs hn => ?_⟩
      exact fin _ ys p hp hs hn q
def bListX : DC := fun xs S Q => match xs with
  | [x] => match asK S x with
    | some kd => Q (.lst (kd.map fun p => D.str p.1)) S
    | none => ofO (asQ S x) fun l => Q (.lst l) S
  | _ => False
def rListX (K : PySem.W.Frag) : List V → Hp → VK → Prop := fun xs H Q => (∃ (a : Addr) (kvs : List (Key × V)), xs = [.ref a] ∧ Rd H a (.dK kvs) ∧ ∀ p, H p = none → Q (.ref p) (upd H p (.lst (kvs.map fun kv => kV kv.1)))) ∨
  (∃ p ys, xs = [.ref p] ∧ (SqL K H p ys ∨ SqT K H p ys) ∧ ∀ l, H l = none → Q (.ref l) (upd H l (.lst ys)))
theorem call_listX (hc : X.calm = true) : CallR X (.type "list") (rListX X.K) := CallR.or (call_listD hc) call_list_of
theorem ks_vals {kd : List (String × D)} {kv : List (Key × V)} (q : RelKs K F H kd kv) : RelDs K F H (kd.map fun p => D.str p.1) (kv.map fun p => kV p.1) := by
  induction kd generalizing kv with
  | nil => cases q; exact .nil
  | cons p r ih => cases q with | cons h q => exact .cons (.str _) (ih q)
theorem vrc_listX : VRC K ca bListX (rListX K) := by
  intro F S H xs vs Q QV r rx q P
  match xs, vs, rx, q with
  | [x], [v], .cons h .nil, q =>
    unfold bListX at q
    dsimp only at q
    cases ek : asK S x with
    | some kd =>
      rw [ek] at q
      obtain ⟨a, kv, ev, hd, qk⟩ := asK_rel r h ek
      refine .inl ⟨a, kv, by rw [ev], hd, fun p hp => ?_⟩
      exact P _ _ _ _ _ (fr_newF hp) (r.newF hp) (.lst upd_same (.inl rfl) ((ks_vals qk).mono r (fr_newF hp))) q
    | none =>
      rw [ek] at q
      exact .inr (vrc_list (ca := ca) F S H [x] [v] Q QV r (.cons h .nil) q P)
/-- a new dict, to be changed -/
def dDicM : DE := fun _ S Q => ∀ p, S p = none → Q (.obj p) (put S p (.dic []))
theorem pd_dicM : PD X B (.Dict [] [] pos) dDicM := by
  refine pd_of pe_dnewK fun F σ S σV H Q QV R q P p hp => ?_
  exact P _ _ F _ _ (fr_new (o := .dic []) hp) (R.st.new (o := .dic []) hp ⟨[], upd_same, .nil⟩) (.obj p) (q p (R.st.free hp))

/-! ### isinstance of plain things -/
def tyOfD (S : Store) : D → Option String
  | .non => some "NoneType"
  | .bl _ => some "bool"
  | .int _ => some "int"
  | .str _ => some "str"
  | .tup _ => some "tuple"
  | .lst _ => some "list"
  | .dic _ => some "dict"
  | .obj p => match S p with
    | some (.lst _) => some "list"
    | some (.dic _) => some "dict"
    | _ => none
  | _ => none
def bIsi : DC := fun xs S Q => match xs with
  | [x, .ty T] => ofO (tyOfD S x) fun t => ofO (kitB t T) fun k => Q (.bl k) S
  | _ => False
theorem tyOfD_rel (r : RelS K ca F S H) (rx : RelD K F H d v) {t : String} (e : tyOfD S d = some t) : TyX K H v (.type t) := by
  cases rx with
  | non => cases e; exact .base .non
  | bl b => cases e; exact .base (.bl b)
  | int i => cases e; exact .base (.int i)
  | str s => cases e; exact .base (.str _)
  | tup h q =>
    cases e
    rcases h with (h | ⟨o, h⟩) | ⟨o, its, m, hk, hc, _⟩
    · exact .base (.tup h)
    · exact .fTuple h
    · exact .kTuple hk hc
  | lst h f q => cases e; exact .base (.lst h)
  | dic h f q =>
    cases e
    rcases h with h | ⟨o, h⟩
    · exact .base (.dK h)
    · exact .fDict h
  | scr h q => cases e
  | ty s => cases e
  | obj p =>
    have e : (match S p with | some (Ob.lst _) => some "list" | some (Ob.dic _) => some "dict" | _ => none) = some t := e
    cases w : S p with
    | none => rw [w] at e; cases e
    | some u =>
      rw [w] at e
      obtain ⟨_, q⟩ := r.ob p _ w
      cases u with
      | lst m => cases e; obtain ⟨vs, h, _⟩ := q; exact .base (.lst h)
      | dic m => cases e; obtain ⟨vs, h, _⟩ := q; exact .base (.dK h)
      | ins c m => cases e
theorem vrc_isi : VRC K ca bIsi (rIsi K) := by
  intro F S H xs vs Q QV r rx q P
  match xs, vs, rx, q with
  | [x, .ty T], _, .cons h (.cons (.ty _) .nil), q =>
    obtain ⟨t, e, q⟩ := ofO_ex q
    obtain ⟨k, ek, q⟩ := ofO_ex q
    exact ⟨_, _, _, _, k, rfl, .ty T, tyOfD_rel r h e, kit_ty ek, P.at r (.bl _) q⟩
theorem pd_tyname {x : Str} {T : String} (hg : Gl X x) (hm : X.mg x = none) (hv : bootBuiltins x = some (.type T)) (hn : x ≠ "__name__" := by decide) (hd : (x == ("__debug__" : Str)) = false := by decide) : PD X B (.Name x pos) (dC (.ty T)) :=
  pd_of (pe_bltn (v := .ty T) hg hm hv rfl hn hd) (sim_c fun _ _ => .ty T)

/-! ### things of the store are let go -/
def ridAll (S : Store) (l : List Addr) : Store := l.foldl rid S
theorem ridAll_rel (r : RelS K ca F S H) : ∀ l : List Addr, RelS K ca F (ridAll S l) H ∧ Fr F S H F (ridAll S l) H := fun l => by
  induction l generalizing S with
  | nil => exact ⟨r, Fr.refl⟩
  | cons p l ih =>
    obtain ⟨h1, h2⟩ := ih (S := rid S p) (r.rid (p := p))
    exact ⟨h1, Fr.trans fr_rid h2⟩
/-- behind e the things that g names are let go -/
def dKill (g : DEnv → Store → List Addr) (d : DE) : DE := fun σ S Q => d σ S fun x S1 => Q x (ridAll S1 (g σ S1))
theorem pd_kill (g : DEnv → Store → List Addr) (h : PD X B e da) : PD X B e (dKill g da) := by
  intro F σ S σV H Q QV R q P
  refine h F σ S σV H _ _ R q fun x v F1 S1 H1 f1 r1 d1 q1 => ?_
  obtain ⟨r2, f2⟩ := ridAll_rel r1 (g σ S1)
  exact P x v F1 _ H1 (f1.trans f2) r2 (d1.mono r1 f2) q1
/-- the things in a slot, in the items of a slot's list -/
def objsOf : D → List Addr
  | .obj p => [p]
  | _ => []
def slotObjs (i : Nat) : DEnv → Store → List Addr := fun σ _ => match σ[i]? with
  | some (some (.lst l)) => l.flatMap objsOf
  | some (some x) => objsOf x
  | _ => []
end
end DL
/-! DL9: a whole program: its defs, each by its body, to a depth of calls. -/
namespace DL
open PySem PySem.Spec PyProof.Rows L2
def noX : DX → DEnv → Store → Prop := fun _ _ _ => False
def noSp : DSp := fun _ _ _ _ => False
section
variable {Fn : Type} (nloc : Fn → Nat) (body : Fn → (Fn → DSp) → (Fn → DSp) → DBody)
/-- what the defs do, at most k calls deep; wrM: one level less, for what __init__ does -/
def wrk : Nat → Fn → DSp
  | 0, _ => noSp
  | 1, f => runD (nloc f) (body f (fun _ => noSp) (fun _ => noSp))
  | k + 2, f => runD (nloc f) (body f (wrk (k + 1)) (wrk k))
def wrM : Nat → Fn → DSp
  | 0, _ => noSp
  | k + 1, f => wrk nloc body k f
theorem wrk_succ (k : Nat) (f : Fn) : wrk nloc body (k + 1) f = runD (nloc f) (body f (wrk nloc body k) (wrM nloc body k)) := by
  cases k with
  | zero => rfl
  | succ k => rfl
end
section
variable {P : Program} {w : World} {K : PySem.W.Frag} {mg : Str → Option Value} {base : Heap} {ca : Nat → Addr}
theorem fnOk_no {CX : CXT} {k n : Nat} {f : Addr} {fd : FuncData} {ps : List Str} : FnOk P w K mg base CX k f fd ps (lift K ca n noSp) := by
  refine ⟨fun vs H Q E h => ?_, fun A outer s H args us vs Q E _ _ _ _ h => ?_⟩
  · obtain ⟨_, _, _, _, _, _, _, _, z, _⟩ := h
    exact z.elim
  · obtain ⟨_, _, _, _, _, _, _, _, z, _⟩ := h
    exact z.elim
theorem all_ok {Fn : Type} {nloc ar : Fn → Nat} {body : Fn → (Fn → DSp) → (Fn → DSp) → DBody} {fa : Fn → Addr} {fd : Fn → FuncData} {ps : Fn → List Str}
    (h : ∀ (f : Fn) (k : Nat) (W M : Fn → DSp), (∀ g, FnOk P w K mg base (L2.CX P w) (k + 1) (fa g) (fd g) (ps g) (lift K ca (ar g) (W g))) → (∀ g, FnOk P w K mg base (L2.CX P w) k (fa g) (fd g) (ps g) (lift K ca (ar g) (M g))) →
      FnOk P w K mg base (L2.CX P w) (k + 2) (fa f) (fd f) (ps f) (lift K ca (ar f) (runD (nloc f) (body f W M)))) :
    ∀ k, (∀ f, FnOk P w K mg base (L2.CX P w) (k + 1) (fa f) (fd f) (ps f) (lift K ca (ar f) (wrk nloc body k f))) ∧ ∀ f, FnOk P w K mg base (L2.CX P w) k (fa f) (fd f) (ps f) (lift K ca (ar f) (wrM nloc body k f)) := by
  intro k
  induction k with
  | zero => exact ⟨fun f => fnOk_no, fun f => fnOk_no⟩
  | succ k ih =>
    refine ⟨fun f => ?_, ih.1⟩
    rw [wrk_succ]
    exact h f k _ _ ih.1 ih.2
/-- the law's def: the script in, True out -/
def spLaw (K : PySem.W.Frag) : Sp := fun vs H Q _ => ∃ (a : Addr) (ns : List Int), vs = [.ref a] ∧ SqL K H a (ns.map V.int) ∧ Only H ∧ ns.length ≤ 63 ∧ ∀ H', Q (.bl true) H'
end
end DL
/-! DL10: ranges as lists, from their end; several targets. -/
namespace DL
open PySem PySem.Spec PyProof.Rows L2
section
variable {K : PySem.W.Frag} {ca : Nat → Addr} {F F' : Addr → Prop} {S S' : Store} {H H' : Hp} {B : Bc} {Q : QE} {QV : VK} {d : D} {v : V} {l : List D} {X : Cx} {a b e o : Expr} {es : List Expr} {da db dd : DE} {ta tb te : TE} {pos p2 : Pos} {n : Nat} {σ : DEnv} {σV : L2.St}
theorem pdg_tup {k : Nat} {gs : DGs} {tgs : TGs} (hc : X.calm = true) (h : PGs X es tgs ∧ SimGs X.K B gs tgs)
    (hn : (assignEach es X.env).length = n := by rfl) (hst : (assignEach es X.env).findIdx? (·.1) = none := by rfl) : PDG X B (.Tuple es k pos) (gTp n gs) := pdg_of (pg_tup hc h.1 hn hst) (sim_gTp h.2)
theorem pdgs_nil : PGs X [] gNil ∧ SimGs X.K B gsN gNil := ⟨pgs_nil, sim_gsN⟩
theorem pdgs_cons {g : DG} {gs : DGs} {u : TGs} (h1 : PDG X B e g) (h2 : PGs X es u ∧ SimGs X.K B gs u)
    (hs : (assignEach (e :: es) X.env).map (·.2) = assign e X.env :: (assignEach es X.env).map (·.2) := by rfl) : PGs X (e :: es) (gCons (wpG X e) u) ∧ SimGs X.K B (gsC g gs) (gCons (wpG X e) u) := ⟨pgs_cons pg_w h2.1 hs, sim_gsC h1 h2.2⟩
/-- a range that is given on -/
abbrev DRg := DEnv → Store → (Int → Int → Store → Prop) → Prop
abbrev TRg := L2.St → Hp → (Int → Int → Hp → Prop) → Prop
def SimRg (K : PySem.W.Frag) (B : Bc) (d : DRg) (t : TRg) : Prop := ∀ F σ S σV H Q R, Rel K B F σ S σV H → d σ S Q → (∀ i j F' S' H', Fr F S H F' S' H' → RelS K B.ca F' S' H' → Q i j S' → R i j H') → t σV H R
def rg1 (da : DE) : DRg := fun σ S Q => da σ S fun x S1 => match x with
  | .int n => Q 0 n S1
  | _ => False
def rg2 (da db : DE) : DRg := fun σ S Q => da σ S fun x S1 => db σ S1 fun y S2 => match x, y with
  | .int i, .int j => Q i j S2
  | _, _ => False
def PDRg (X : Cx) (B : Bc) (e : Expr) (d : DRg) : Prop := ∃ t, PRg X e t ∧ SimRg X.K B d t
theorem sim_rg1 (h : SimE K B da ta) : SimRg K B (rg1 da) (tRg1 ta) := by
  intro F σ S σV H Q R Rl q P
  refine h F σ S σV H _ _ Rl q fun x v F1 S1 H1 f1 r1 d1 q1 => ?_
  cases d1 with
  | int i => exact ⟨i, rfl, P _ _ F1 S1 H1 f1 r1 q1⟩
  | _ => exact q1.elim
theorem sim_rg2 (ha : SimE K B da ta) (hb : SimE K B db tb) : SimRg K B (rg2 da db) (tRg2 ta tb) := by
  intro F σ S σV H Q R Rl q P
  refine ha F σ S σV H _ _ Rl q fun x v F1 S1 H1 f1 r1 d1 q1 => ?_
  refine hb F1 σ S1 σV H1 _ _ (Rl.step f1 r1) q1 fun y u F2 S2 H2 f2 r2 d2 q2 => ?_
  cases d1 with
  | int i =>
    cases d2 with
    | int j => exact ⟨i, j, rfl, rfl, P _ _ F2 S2 H2 (f1.trans f2) r2 q2⟩
    | _ => exact q2.elim
  | _ => cases d2 <;> exact q2.elim
theorem pdr_1 {p : Pos} (hg : Gl X "range") (hm : X.mg "range" = none) (ha : PD X B a da) (na : starEach [a] X.env = (false, eval a X.env) :: starEach [] X.env := by rfl) : PDRg X B (.Call (.Name "range" p) [a] [] pos) (rg1 da) := ⟨_, prg_1 hg hm pe_w na, sim_rg1 ha⟩
theorem pdr_2 {p : Pos} (hg : Gl X "range") (hm : X.mg "range" = none) (ha : PD X B a da) (hb : PD X B b db) (na : starEach [a, b] X.env = (false, eval a X.env) :: starEach [b] X.env := by rfl)
    (nb : starEach [b] X.env = (false, eval b X.env) :: starEach [] X.env := by rfl) : PDRg X B (.Call (.Name "range" p) [a, b] [] pos) (rg2 da db) := ⟨_, prg_2 hg hm pe_w pe_w na nb (by rw [nb]; rfl), sim_rg2 ha hb⟩
def RgIn (i j : Int) : Prop := -(2 ^ 62) ≤ i ∧ i < 2 ^ 62 ∧ -(2 ^ 62) ≤ j ∧ j < 2 ^ 62 ∧ (j - i).toNat ≤ lim
theorem RgIn.ok {i j : Int} (h : RgIn i j) : RgOk i j := h
/-- list(range(..)), a list that stays, a list that will change -/
def dLstRg (dr : DRg) : DE := fun σ S Q => dr σ S fun i j S1 => RgIn i j ∧ Q (.lst (rangeD i (j - i).toNat)) S1
def dLstRgM (dr : DRg) : DE := fun σ S Q => dr σ S fun i j S1 => RgIn i j ∧ ∀ p, S1 p = none → Q (.obj p) (put S1 p (.lst (rangeD i (j - i).toNat)))
theorem rg_rel (a b : Int) : RelDs K F H (rangeD a (b - a).toNat) (rgV a b) := by
  unfold rangeD rgV
  generalize List.range (b - a).toNat = l
  induction l with
  | nil => exact .nil
  | cons x r ih => exact .cons (.int _) ih
theorem pd_lstRg {p : Pos} {dr : DRg} (hc : X.calm = true) (hg : Gl X "list") (hm : X.mg "list" = none) (he : PDRg X B e dr) (na : starEach [e] X.env = (false, eval e X.env) :: starEach [] X.env := by rfl) : PD X B (.Call (.Name "list" p) [e] [] pos) (dLstRg dr) := by
  obtain ⟨t, h1, h2⟩ := he
  refine pd_of (pe_listRg hc hg hm h1 na) fun F σ S σV H Q QV R q P => ?_
  refine h2 F σ S σV H _ _ R q fun i j F1 S1 H1 f1 r1 q1 => ⟨q1.1.ok, fun p hp => ?_⟩
  exact P _ _ _ _ _ (f1.trans (fr_newF hp)) (r1.newF hp) (.lst upd_same (.inl rfl) (rg_rel i j)) q1.2
theorem pd_lstRgM {p : Pos} {dr : DRg} (hc : X.calm = true) (hg : Gl X "list") (hm : X.mg "list" = none) (he : PDRg X B e dr) (na : starEach [e] X.env = (false, eval e X.env) :: starEach [] X.env := by rfl) : PD X B (.Call (.Name "list" p) [e] [] pos) (dLstRgM dr) := by
  obtain ⟨t, h1, h2⟩ := he
  refine pd_of (pe_listRg hc hg hm h1 na) fun F σ S σV H Q QV R q P => ?_
  refine h2 F σ S σV H _ _ R q fun i j F1 S1 H1 f1 r1 q1 => ⟨q1.1.ok, fun p hp => ?_⟩
  exact P _ _ F1 _ _ (f1.trans (fr_new (o := .lst (rangeD i (j - i).toNat)) hp)) (r1.new (o := .lst (rangeD i (j - i).toNat)) hp ⟨_, upd_same, rg_rel i j⟩) (.obj p) (q1.2 p (r1.free hp))
/-- a range from its end -/
def revD (i : Int) (n : Nat) : List D := (List.range n).map fun k : Nat => D.int (i + (n : Int) - 1 + (k : Int) * (-1))
def iRvR (dr : DRg) : DI := fun σ S Q => dr σ S fun i j S1 => (-(2 ^ 62) ≤ i ∧ i < 2 ^ 62 ∧ -(2 ^ 62) ≤ j ∧ j < 2 ^ 62) ∧ Q (revD i (j - i).toNat) (fun _ => True) S1
theorem revD_get {lo : Int} {n i : Nat} {d : D} (h : (revD lo n)[i]? = some d) : i < n ∧ d = .int (lo + (n : Int) - 1 + (i : Int) * (-1)) := by
  unfold revD at h
  rw [List.getElem?_map] at h
  by_cases hk : i < n
  · rw [List.getElem?_range hk] at h
    cases h
    exact ⟨hk, rfl⟩
  · rw [List.getElem?_eq_none (by simpa using hk)] at h
    cases h
theorem it_rev (lo : Int) (n : Nat) : ItRel K ca F S H (revD lo n) (fun _ => True) (Itc (lo + (n : Int) - 1) (-1) n) := by
  intro i F' S' H' f' r' _
  refine ⟨fun d ed => ?_, fun hl => show n ≤ i by unfold revD at hl; simpa using hl⟩
  obtain ⟨hi, rfl⟩ := revD_get ed
  refine ⟨hi, fun x H'' y => ?_⟩
  obtain ⟨e1, e2⟩ := y
  subst e1 e2
  exact ⟨Fr.refl, r', .int _⟩
theorem pdi_revR {tg : Expr} {dr : DRg} {p : Pos} (hg : Gl X "reversed") (hm : X.mg "reversed" = none) (he : PDRg X B e dr) (hs : starEach [e] X.env = (false, eval e X.env) :: starEach [] X.env := by rfl) : PDI X B tg (.Call (.Name "reversed" p) [e] [] pos) (iRvR dr) := by
  obtain ⟨t, h1, h2⟩ := he
  refine ⟨_, pi_revR hg hm h1 hs, fun F σ S σV H Q R' R q P => ?_⟩
  refine h2 F σ S σV H _ _ R q fun i j F1 S1 H1 f1 r1 q1 => ⟨q1.1.1, q1.1.2.1, q1.1.2.2.1, q1.1.2.2.2, ?_⟩
  exact P _ _ F1 S1 H1 _ f1 r1 (it_rev i _) q1.2
end
end DL
/-! DL11: a law's end. -/
namespace DL
open PySem PySem.Spec PyProof.Rows L2
theorem fun_of {K : PySem.W.Frag} {x qual : Str} {st : Stmt} {f : Addr} {fd : FuncData} (F : FunD K x qual (defArgs st) (defBody st) (defScope st) [] [] f fd) : Fun K x qual st f fd := by
  obtain ⟨oc, od, dV, kV, doc, pm, an, cdv, ct, osl, e, lk, hcd, hD, hK⟩ := F.ex
  rcases hD with ⟨_, e2⟩ | ⟨z, _⟩
  · rw [e2] at e
    exact ⟨⟨oc, od, kV, doc, pm, an, cdv, ct, osl, e, lk, hcd⟩, F.kp⟩
  · exact absurd rfl z
/-- what the law's def must do over data -/
def LawD (w : DSp) : Prop := ∀ (x : D) (ns : List Int), (x = .scr (ns.map D.int) ∨ x = .lst (ns.map D.int)) → ns.length ≤ 63 → w [x] (fun _ => none) (fun y _ => y = .bl true) (fun _ _ => False)
theorem ints_of2 {K : PySem.W.Frag} {F : Addr → Prop} {H : Hp} : ∀ ns : List Int, RelDs K F H (ns.map D.int) (ns.map V.int)
  | [] => .nil
  | n :: ns => .cons (.int n) (ints_of2 ns)
theorem lift_law {K : PySem.W.Frag} {ca : Nat → Addr} {w : DSp} (h : LawD w) {H : Hp} {a : Addr} {ns : List Int} (hl : ns.length ≤ 63) (hS : SqL K H a (ns.map V.int)) : lift K ca 1 w [.ref a] H (fun v _ => v = .bl true) fun _ _ _ => False := by
  have fin : ∀ (F : Addr → Prop) (x : D), (x = .scr (ns.map D.int) ∨ x = .lst (ns.map D.int)) → RelD K F H x (.ref a) → RelS K ca F (fun _ => none) H → lift K ca 1 w [.ref a] H (fun v _ => v = .bl true) fun _ _ _ => False := fun F x hx hr hs => by
    refine ⟨[x], F, fun _ => none, _, _, rfl, .cons hr .nil, hs, h x ns hx hl, fun y v F' S' H' _ _ d e => ?_, fun x cls dd F' S' H' _ _ _ z => z.elim⟩
    rw [e] at d
    cases d
    rfl
  rcases hS with (hS | ⟨o, hS⟩) | hS
  · exact fin (fun b => b = a) (.lst (ns.map D.int)) (.inr rfl) (.lst hS rfl (ints_of2 ns)) ⟨fun b o z => (nomatch z), fun b hb => by rw [hb]; exact ⟨_, hS⟩⟩
  · exact fin (fun _ => False) (.scr (ns.map D.int)) (.inl rfl) (.scr (.inl ⟨o, hS⟩) (ints_of2 ns)) ⟨fun b o z => (nomatch z), fun b hb => hb.elim⟩
  · exact fin (fun _ => False) (.scr (ns.map D.int)) (.inl rfl) (.scr (.inr hS) (ints_of2 ns)) ⟨fun b o z => (nomatch z), fun b hb => hb.elim⟩
/-- the end of a law over such a layer -/
theorem walk_dl {l : PySem.W.OpenLaw} {k : Nat} {q : Program} {loose : List Str} {XP : (Str → Option Value) → Heap → Prop} {YP : World → Heap → Prop} {d : DefRec} {x : Str}
    (hn : l.most = some 63) (hdf : d.params.defaults = []) (hr : Room k callerA)
    (F : ∀ (w : World) (mg : Str → Option Value) (fa : Addr) (h : Heap), YP w h → h.Ns mainGlobals mg → mg d.name = some (.ref fa) →
      ∃ (K : PySem.W.Frag) (fd : FuncData) (ca : Nat → Addr) (wl : DSp), K.In h ∧ LawD wl ∧ (∀ (s : Shared) (u : Value), BindsTo s fd ⟨[u], []⟩ [(x, u)]) ∧
        ∀ base : Heap, K.In base → base.Ns mainGlobals mg → FnOk l.prog w K mg base (L2.CX l.prog w) k fa fd [x] (lift K ca 1 wl)) :
    PySem.W.WalkO q loose XP YP l.row.toRowW d [] (fun f vs => PySem.call f vs) := by
  refine Att.attach_callB hn hdf fun w s₀ s₁ mg mb fa o pm cd doc a vs ns G Y ho hd hcd hmg hobj hints hlen hbits hg => ?_
  obtain ⟨K, fd, ca, wl, KX, hw, hb, hF⟩ := F w mg fa _ Y G.T.g hmg
  refine law_call KX G.T.g G.T.b G.T.builtins G.T.nolimit hg hobj hints (Nat.le_trans hlen (by decide)) hr hF hb (fun H hO hS => lift_law hw hlen hS) fun H e s' z => ?_
  obtain ⟨_, _, _, _, _, _, _, _, _, _, _, _, z⟩ := z
  exact z
end DL
/-! DL12: constants of the module, lists turned round, extend. -/
namespace DL
open PySem PySem.Spec PyProof.Rows L2
section
variable {K : PySem.W.Frag} {ca : Nat → Addr} {F F' : Addr → Prop} {S S' : Store} {H H' : Hp} {B : Bc} {Q : QE} {QV : VK} {d : D} {v : V} {l : List D} {X : Cx} {a b e o : Expr} {es : List Expr} {da db dd : DE} {ta tb te : TE} {pos p2 : Pos} {n : Nat} {σ : DEnv} {σV : L2.St}
/-- what a name of the module stands for, in data -/
def Konst (K : PySem.W.Frag) (mg : Str → Option Value) (x : Str) (z : D) : Prop := ∃ (v : V) (u : Value), mg x = some u ∧ RelV v u ∧ ∀ F H, RelD K F H z v
theorem pd_const {x : Str} {z : D} (k : Konst X.K X.mg x z) (hg : Gl X x) (hd : (x == ("__debug__" : Str)) = false := by decide) : PD X B (.Name x pos) (dC z) := by
  obtain ⟨v, u, h1, h2, h3⟩ := k
  exact pd_glob hg h1 h2 h3 hd
theorem konst_int {mg : Str → Option Value} {x : Str} {i : Int} (h : ∃ t, mg x = some (.int i t)) : Konst K mg x (.int i) := by
  obtain ⟨t, h⟩ := h
  exact ⟨.int i, _, h, ⟨t, rfl⟩, fun _ _ => .int i⟩
theorem strs_rel2 {F : Addr → Prop} {H : Hp} : ∀ ss : List String, RelDs K F H (ss.map D.str) ((ss.map fun s => He.Dv.str (Str.ofString s)).map (He.Dv.v K))
  | [] => .nil
  | s :: ss => .cons (.str s) (strs_rel2 ss)
/-- a tuple of texts -/
theorem konst_strs {mg : Str → Option Value} {x : Str} {ss : List String} (h : mg x = some (.ref (He.ga K x))) (ht : He.tupB K x (ss.map fun s => He.Dv.str (Str.ofString s)) = true) : Konst K mg x (.tup (ss.map D.str)) :=
  ⟨.ref (He.ga K x), _, h, rfl, fun F H => .tup (He.tupB_ok ht H) (strs_rel2 ss)⟩
/-- xs[::-1] -/
def dRevL (da : DE) : DE := fun σ S Q => da σ S fun x S1 => ofO (asL S1 x) fun l => Q (.lst l.reverse) S1
theorem rev_rel {l : List D} {vs : List V} (q : RelDs K F H l vs) : RelDs K F H l.reverse vs.reverse := by
  induction l generalizing vs with
  | nil => cases q; exact .nil
  | cons x r ih =>
    cases q with
    | cons h q => rw [List.reverse_cons, List.reverse_cons]; exact (ih q).append (.cons h .nil)
theorem pd_revL {k : Nat} {p1 p2 p3 pos : Pos} (he : PD X B e da) : PD X B (.Subscript e (.Slice none none (some (.UnaryOp .USub (.Constant (.int 1) k p1) p2)) p3) pos) (dRevL da) := by
  refine pd_of (pe_revL pe_w) fun F σ S σV H Q QV R q P => ?_
  refine he F σ S σV H _ _ R q fun x v F1 S1 H1 f1 r1 d1 q1 => ?_
  obtain ⟨l, e, q1⟩ := ofO_ex q1
  obtain ⟨a, vs, ev, hs, ql⟩ := asL_rel r1 d1 e
  refine ⟨a, vs, ev, hs, fun p hp => ?_⟩
  exact P _ _ _ _ _ (f1.trans (fr_newF hp)) (r1.newF hp) (.lst upd_same (.inl rfl) (rev_rel (ql.mono r1 (fr_newF hp)))) q1
/-- l.extend(a list) -/
def mExtL : DM := fun x xs S Q => match x, xs with
  | .obj p, [y] => match S p with
    | some (.lst l) => match y with
      | .lst m => l.length + m.length ≤ lim ∧ Q .non (put S p (.lst (l ++ m)))
      | _ => False
    | _ => False
  | _, _ => False
theorem vrm_extL : VRM K ca mExtL rExtend := by
  intro F S H x v xs vs Q QV r rx rxs q P
  cases rx with
  | obj p =>
    match xs, vs, rxs, q with
    | [y], [w], .cons ry .nil, q =>
      unfold mExtL at q
      dsimp only at q
      obtain ⟨l, hS, q⟩ := obj_at (u := Ob.lst []) q
      cases ry with
      | @lst c us m hb fb qm =>
        obtain ⟨_, ws, hH, ql⟩ := r.ob p _ hS
        refine ⟨p, c, ws, us, rfl, rfl, hH, hb, by rw [← ql.length, ← qm.length, lim_eq]; exact q.1, ?_⟩
        have fw := fr_write (F := F) (H := H) (o' := .lst (l ++ m)) (u := .lst (ws ++ us)) hS
        have rw2 := r.write (o' := .lst (l ++ m)) (u := .lst (ws ++ us)) hS ⟨_, upd_same, (ql.append qm).mono r fw⟩
        exact P _ _ F _ _ fw rw2 .non q.2
      | _ => exact q.elim
    | [], _, _, q => exact q.elim
    | _ :: _ :: _, _, _, q => exact q.elim
  | _ => exact q.elim
end
/-! ### the head's Hook with one more test -/
def obsZ (fa : List He.Fa) (fn : List He.DefD) (ex : PySem.W.Frag → Bool) (K : PySem.W.Frag) : He.AlD × Bool := (He.obsD fa fn K, ex K)
def SaysZ (fa : List He.Fa) (fn : List He.DefD) (ex : PySem.W.Frag → Bool) (K : PySem.W.Frag) : Prop := He.SaysD fa fn K ∧ ex K = true
def obsZG (n : Nat) (fa : List He.Fa) (fn : List He.DefD) (ex : PySem.W.Frag → Bool) (g : Addr → Option Obj) : He.AlD × Bool := obsZ fa fn ex (He.frG g (He.asD g n))
def hookZ (n : Nat) (fa : List He.Fa) (fn : List He.DefD) (ex : PySem.W.Frag → Bool) : PySem.W.Hook where
  α := He.AlD × Bool
  obs := fun s => obsZG n fa fn ex s.heap.get?
  val := fun _ => (He.valD fn, true)
  says := fun _ h => ∃ K : PySem.W.Frag, K.In h ∧ SaysZ fa fn ex K
  of := fun _ _ e => ⟨_, He.frG_in, congrArg (fun z : He.AlD × Bool => z.1) e, congrArg (fun z : He.AlD × Bool => z.2) e⟩
  keeps := fun _ _ _ ⟨K, hK, c⟩ k => ⟨K, PySem.W.Frag.In.keeps hK k, c⟩
theorem obsZG_eq {n : Nat} {fa : List He.Fa} {fn : List He.DefD} {ex : PySem.W.Frag → Bool} {g : Addr → Option Obj} {s : Shared} (h : ∀ a, g a = s.heap.get? a) : obsZG n fa fn ex g = (hookZ n fa fn ex).obs s := by
  have e : g = s.heap.get? := funext h
  rw [e] <;> rfl
end DL
/-! DL13: the law's def alone, called where nothing is under way; repr of data. -/
namespace DL
open PySem PySem.Spec PyProof.Rows L2
section
variable {P : Program} {w : World} {K : PySem.W.Frag} {mg : Str → Option Value} {base : Heap} {CX : CXT} {k : Nat} {f : Addr} {ps : List Str} {sp : Sp}
/-- a def's promise where no repr is under way -/
def FnG (P : Program) (w : World) (K : PySem.W.Frag) (mg : Str → Option Value) (base : Heap) (CX : CXT) (k : Nat) (f : Addr) (fd : FuncData) (ps : List Str) (sp : Sp) : Prop :=
  ∀ (Ar : Around) (fr : List Env) (sh : Shared) (Hp0 : Hp) (ar : Args) (us : List Value) (vs : List V) (Qv : VK) (Ex : XK), Ar.guards = some [] → Room k Ar → Env0 P w K mg base Ar fr sh Hp0 → BindsTo sh fd ar (ps.zip us) → Vals vs us → sp vs Hp0 Qv Ex →
    codeAny (model P w) Ar (.call (.ref f) ar) (CR CX fr P w Hp0 sh Qv Ex) sh
theorem fnG_of {x qual : Str} {prm : Arguments} {bdy : List Stmt} {sc : Scope} {dV kV doc pm cdv ct oc : Value} {an od : Option Addr} {osl : Array (Option Value)} {N : List Str}
    (at_ : K.lookup f = some ⟨oc, od, .func (PySem.W.fnOf x qual prm bdy sc dV kV doc pm an cdv ct), osl⟩) (cin : PySem.W.codeIn K cdv qual = true) (Sc : FnScope N ps sc) (ln : ∀ vs H Q E, sp vs H Q E → vs.length = ps.length)
    (bd : ∀ (Ar : Around) (fr : List Env) (sh : Shared) (H : Hp) (vs : List V) (Q : VK) (E : XK), Ar.guards = some [] → Room k (Ar.deeper (envOfC qual sc sh.heap.objs.size f cdv)) → sp vs H Q E →
      ∃ t, PSs (cxOf CX P w K mg base N qual sc f cdv Ar fr sh H E) bdy t ∧ t { nx := fun _ H' => Q .non H', rt := Q } (start N vs) H) :
    FnG P w K mg base CX (k + 1) f (PySem.W.fnOf x qual prm bdy sc dV kV doc pm an cdv ct) ps sp := by
  intro Ar fr sh Hp0 ar us vs Qv Ex hgd hrm env0 hbd rel hs
  have hlen := ln _ _ _ _ hs
  have inK : K.In sh.heap := env0.mod.kin.keeps fun b o e => (env0.bs b o e).1
  have nol : sh.heap.NoLimit := env0.mod.nolimit.keeps fun b o e => (env0.bs b o e).1
  refine codeAny_call_function hrm.depth (inK _ _ at_) rfl Sc.co Sc.gen rfl (PySem.W.codeRec_of inK cin) (hbd _ _ _ _ ?_)
  refine wpAny_newFunctionEnv_cells Sc.kind (fun ⟨nm, vl⟩ hy => ?_) fun env he s1 xx => ?_
  · rcases Sc.par nm (List.of_mem_zip hy).1 with z | z
    · exact .inl z
    · exact .inr ⟨z, PySem.W.cellsFrom_some _ _ _ (.inl z)⟩
  subst he
  refine ⟨nol.keeps xx.toInCall.keep, codeAny_func ?_⟩
  obtain ⟨t, ht, hq⟩ := bd Ar fr sh Hp0 vs Qv Ex hgd (hrm.deeper _) hs
  have J0 := inv_start (CX := CX) (E := Ex) Sc hrm.hd env0 hlen rel xx
  refine wpAny_mono (ht.run [] s1 (start N vs) Hp0 _ J0 hq) (fun fl s2 z => ?_) fun e s2 z => z
  cases fl with
  | ret u =>
    obtain ⟨v, σ2, H2, J, rv, q⟩ := z
    exact ⟨v, H2, J.os, J.bare, J.base, J.hok, rv, q⟩
  | next =>
    obtain ⟨σ2, H2, J, q⟩ := z
    exact ⟨V.non, H2, J.os, J.bare, J.base, J.hok, rfl, q⟩
  | brk => obtain ⟨_, _, _, q⟩ := z; exact q.elim
  | cont => obtain ⟨_, _, _, q⟩ := z; exact q.elim
end
section
variable {P : Program} {w : World} {K : PySem.W.Frag} {mg mb : Str → Option Value} {ca : Nat → Addr}
/-- the law's def over data, by its body; X.A bears no guard -/
theorem def_okG {base : Heap} {x qual : Str} {st : Stmt} {f : Addr} {fd : FuncData} {N ps : List Str} {k n : Nat} (Fn : Fun K x qual st f fd) (Sc : FnScope N ps (defScope st)) (hn : ps.length = n) (body : DBody)
    (hb : ∀ (cdv : Value) (A : Around) (outer : List Env) (s : Shared) (H : Hp) (E : XK) (B : Bc), B.ca = ca → Room k (A.deeper (envOfC qual (defScope st) s.heap.objs.size f cdv)) → (cxOf (L2.CX P w) P w K mg base N qual (defScope st) f cdv A outer s H E).A.guards = some [] →
      Good (cxOf (L2.CX P w) P w K mg base N qual (defScope st) f cdv A outer s H E) B → PDSs (cxOf (L2.CX P w) P w K mg base N qual (defScope st) f cdv A outer s H E) B (defBody st) (body B.ED)) :
    FnG P w K mg base (L2.CX P w) (k + 1) f fd ps (lift K ca n (runD N.length body)) := by
  obtain ⟨oc, od, kV, doc, pm, an, cdv, ct, osl, rfl, lk, hcd⟩ := Fn.ex
  refine fnG_of lk hcd Sc (fun vs H Q E h => (lift_len h).trans hn.symm) fun A outer s H vs Q E hgd hr h => ?_
  obtain ⟨ds, F, S, QD, ED, hl, rd, rs, hw, PE', PX⟩ := h
  have hpl : ds.length ≤ N.length := by
    have e := congrArg List.length Sc.pre
    rw [List.length_take] at e
    omega
  let B : Bc := ⟨ca, F, S, H, fun x _ S1 => ED x S1⟩
  let X := cxOf (L2.CX P w) P w K mg base N qual (defScope st) f cdv A outer s H E
  have tk : Takes X (XW K B) := (takes_of (X := X) (E := E) rfl rfl rfl rfl).imp fun cls dd σV H1 ⟨y, F1, σ1, S1, R1, rx, q⟩ => PX y cls dd F1 S1 H1 R1.fr R1.st rx q
  refine ⟨_, pss_w, ?_⟩
  have hR : Rel K B F (startD N.length ds) S (L2.start N vs) H := ⟨start_rel rd hpl, rs, Fr.refl⟩
  refine hb cdv A outer s H E B rfl hr hgd ⟨tk, PassesOwn.leaving, Sc.nd⟩ F _ S _ H _ _ hR hw ⟨?_, PE', ?_, ?_⟩
  · intro F' σ' S' σV' H' f' R' q
    exact PE' .non .non F' S' H' f' R'.st .non q
  · intro F' σ' S' σV' H' f' R' q
    exact q.elim
  · intro F' σ' S' σV' H' f' R' q
    exact q.elim
theorem law_callG {CX : CXT} {k : Nat} {fa a : Addr} {fd : FuncData} {x : Str} {sp : Sp} {sh : Shared} {vals : List Value} {ns : List Int} (inK : K.In sh.heap) (gns : sh.heap.Ns mainGlobals mg) (bns : sh.heap.Ns builtinsNs mb)
    (bb : ∀ x : Str, x ≠ "__name__" → mb x = bootBuiltins x) (nol : sh.heap.NoLimit) (gens : sh.gens = #[]) (scr : sh.heap.get? a = some { cls := .type "list", data := .seq vals.toArray }) (ia : IntsAre vals ns) (short : ns.length ≤ sizeLine)
    (room : Room k callerA) (F : ∀ bs : Heap, K.In bs → bs.Ns mainGlobals mg → FnG P w K mg bs CX k fa fd [x] sp) (bnd : ∀ (s : Shared) (u : Value), BindsTo s fd ⟨[u], []⟩ [(x, u)])
    (spH : ∀ H : Hp, Only H → SqL K H a (ns.map V.int) → sp [.ref a] H (fun v _ => v = .bl true) fun _ _ _ => False) (noX : ∀ H e s', CX [] H sh (fun _ _ _ => False) e s' → False) :
    codeAny (model P w) callerA (.call (.ref fa) ⟨[.ref a], []⟩) (fun r s' => r = .ok (.ret (.bool true)) ∧ OldK sh.heap s'.heap ∧ s'.os = sh.os ∧ AllBare s'.gens) sh := by
  have rel := vals_ints ia
  have lenV := ia.length
  have nil0 : ∀ b : Addr, b ∉ ([] : List Addr) := by simp
  have kern : ∀ H : Hp, Only H → SqL K H a (ns.map V.int) → HOk P w H sh.heap → (∀ b, H b ≠ none → b = a) → (H a ≠ none → K.lookup a = none) →
      codeAny (model P w) callerA (.call (.ref fa) ⟨[.ref a], []⟩) (fun r s' => r = .ok (.ret (.bool true)) ∧ OldK sh.heap s'.heap ∧ s'.os = sh.os ∧ AllBare s'.gens) sh := by
    intro H only sq hok onA notK
    have back : ∀ {b : Addr} {o : Obj}, sh.heap.get? b = some o → H b = none → (hidT sh.heap H).get? b = some o := fun e n => hidT_get e n
    have dictH : ∀ {b : Addr} {o : Obj} {es : Array DictEntry} {ep : Nat}, sh.heap.get? b = some o → o.data = .dict es ep → H b = none := fun {b o es ep} e d => by
      apply Classical.byContradiction
      intro z
      have eb := onA b z
      subst eb
      rw [scr] at e
      cases e
      have d' : Data.seq vals.toArray _ = Data.dict es ep := d
      cases d'
    have nsH : ∀ {b : Addr} {m : Str → Option Value}, sh.heap.Ns b m → (hidT sh.heap H).Ns b m := fun {b m} ⟨o, es, ep, e, d, r⟩ => ⟨o, es, ep, back e (dictH e d), d, r⟩
    have inH : K.In (hidT sh.heap H) := fun b o e => back (inK b o e) (by
      apply Classical.byContradiction
      intro z
      have eb := onA b z
      subst eb
      rw [notK z] at e
      cases e)
    have md : Mod K mg (hidT sh.heap H) := ⟨inH, nsH gns, ⟨mb, nsH bns, bb⟩, let ⟨mc, h1, h2⟩ := nol; ⟨mc, nsH h1, h2⟩⟩
    have ev : Env0 P w K mg (hidT sh.heap H) callerA [] sh H := ⟨rfl, md, fun b o e => of_hidT e, Nat.le_of_eq (hidT_size _ _), trivial, fun b hb => absurd hb (nil0 b), hok, .of_eq gens⟩
    refine codeAny_mono (F _ inH (nsH gns) callerA [] sh H ⟨[.ref a], []⟩ [.ref a] [.ref a] _ _ rfl room ev (bnd sh (.ref a)) (.cons rfl .nil) (spH H only sq)) fun r s2 h => ?_
    cases r with
    | error e => exact (noX H e s2 h).elim
    | ok fl =>
      cases fl with
      | ret u =>
        obtain ⟨v, H2, os, bare, un, hok2, rv, q⟩ := h
        obtain rfl : v = .bl true := q
        obtain rfl : u = Value.bool true := rv
        refine ⟨rfl, OldK.of_keep fun b o e => ?_, os, bare⟩
        cases q : H b with
        | none => exact un.keep b o e q (fun z => absurd z (nil0 b)) (by simp)
        | some u =>
          rcases only b with z | ⟨ob, xs, z⟩
          · rw [q] at z
            cases z
          · obtain ⟨e1, _⟩ := hok b _ z
            obtain ⟨e2, _⟩ := hok2 b _ (un.frzs b ob _ z)
            rw [e] at e1
            cases e1
            exact e2
      | _ => exact False.elim h
  cases hk : K.lookup a with
  | some o =>
    have e := inK a o hk
    rw [scr] at e
    cases e
    refine kern (fun _ => none) (fun _ => .inl rfl) (.inr ⟨_, vals.toArray, _, hk, rfl, rfl, rfl, ?_, by simpa using rel⟩) (fun b u z => nomatch z) (fun b z => absurd rfl z) fun z => absurd rfl z
    rw [List.size_toArray, lenV]
    exact short
  | none =>
    refine kern (fun b => if b = a then some (.frz { cls := .type "list", data := .seq vals.toArray } (.lst (ns.map V.int))) else none) (fun b => ?_) (.inl (.inr ⟨_, if_pos rfl⟩)) (fun b u z => ?_) (fun b z => ?_) fun _ => hk
    · by_cases hb : b = a
      · exact .inr ⟨_, _, if_pos hb⟩
      · exact .inl (if_neg hb)
    · by_cases hb : b = a
      · subst hb
        cases (if_pos rfl).symm.trans z
        exact ⟨scr, by rw [List.length_map]; exact short, vals, _, rel, scr⟩
      · cases (if_neg hb).symm.trans z
    · by_cases hb : b = a
      · exact hb
      · exact absurd (if_neg hb) z
end
theorem walk_dlG {l : PySem.W.OpenLaw} {k : Nat} {q : Program} {loose : List Str} {XP : (Str → Option Value) → Heap → Prop} {YP : World → Heap → Prop} {d : DefRec} {x : Str}
    (hn : l.most = some 63) (hdf : d.params.defaults = []) (hr : Room k callerA)
    (F : ∀ (w : World) (mg : Str → Option Value) (fa : Addr) (h : Heap), YP w h → h.Ns mainGlobals mg → mg d.name = some (.ref fa) →
      ∃ (K : PySem.W.Frag) (fd : FuncData) (ca : Nat → Addr) (wl : DSp), K.In h ∧ LawD wl ∧ (∀ (s : Shared) (u : Value), BindsTo s fd ⟨[u], []⟩ [(x, u)]) ∧
        ∀ base : Heap, K.In base → base.Ns mainGlobals mg → FnG l.prog w K mg base (L2.CX l.prog w) k fa fd [x] (lift K ca 1 wl)) :
    PySem.W.WalkO q loose XP YP l.row.toRowW d [] (fun f vs => PySem.call f vs) := by
  refine Att.attach_callB hn hdf fun w s₀ s₁ mg mb fa o pm cd doc a vs ns G Y ho hd hcd hmg hobj hints hlen hbits hg => ?_
  obtain ⟨K, fd, ca, wl, KX, hw, hb, hF⟩ := F w mg fa _ Y G.T.g hmg
  refine law_callG KX G.T.g G.T.b G.T.builtins G.T.nolimit hg hobj hints (Nat.le_trans hlen (by decide)) hr hF hb (fun H hO hS => lift_law hw hlen hS) fun H e s' z => ?_
  obtain ⟨_, _, _, _, _, _, _, _, _, _, _, _, z⟩ := z
  exact z
end DL
/-! DL14: repr of a tuple of data. -/
namespace DL
open PySem PySem.Spec PyProof.Rows L2
section
variable {K : PySem.W.Frag} {ca : Nat → Addr} {F F' : Addr → Prop} {S S' : Store} {H H' : Hp} {B : Bc} {Q : QE} {QV : VK} {d : D} {v : V} {l : List D} {X : Cx}
theorem room80 {k : Nat} {A : Around} (hr : Room k A) : A.units + 80 < cLine := by
  have := hr.un
  omega
def rRepr (K : PySem.W.Frag) : List V → Hp → VK → Prop := fun xs H Q => ∃ (a : Addr) (vs : List V) (ds : List PyData), xs = [.ref a] ∧ SqT K H a vs ∧ DpAll K H vs ds ∧ PyData.showableAll ds = true ∧ PyData.hasDictAll ds = false ∧ PyData.depthAll ds ≤ 64 ∧
  (PyData.shown (.tuple ds)).length ≤ sizeLine ∧ Q (.str (PyData.shown (.tuple ds))) H
theorem call_repr_tup (hgd : X.A.guards = some []) (hu : X.A.units + 80 < cLine) : CallR X (.builtin "repr") (rRepr X.K) := by
  intro pins s σ H xs us Q I r h
  obtain ⟨a, vs, ds, rfl, hq, hd, hs, hnd, hdp, hz, q⟩ := h
  obtain ⟨u, rfl, ru⟩ := vals1 r
  obtain rfl : u = Value.ref a := ru
  obtain ⟨as, rds⟩ := Dp.reads I (.tuple ds) (.ref a) (.ref a) (.tup hq hd) rfl
  cases rds with
  | @tuple _ o vals n _ _ h1 h2 h3 h4 =>
    have hz' : (tupleText (PyData.shownAll ds)).length ≤ sizeLine := by simpa only [PyData.shown] using hz
    obtain ⟨bs, hb, kk⟩ := ReprAllK.of_readsAll (prog := X.prog) (w := X.w) h4 hs (fun z => by rw [hnd] at z; cases z) fun t ht => Nat.le_trans (tupleText_mem_le ht) hz'
    have hna : a ∉ bs := not_mem_of_deeper (n := PyData.depthAll ds) (Reads.tuple h1 h2 h3 h4) (by simp only [PyData.depth]; omega) hb
    refine call_repr_slot (by omega) ⟨o, h1, h2⟩ F.slot_tuple_repr ?_
    refine call_tuple_reprK h1 h2 h3 hna kk (g := []) hgd (fun b _ => Clear.nil b) ?_ (fun _ _ e => e) (fun h' u tk hk => ?_) hz'
    · show X.A.units + 1 + (PyData.depthAll ds + 1) < cLine
      omega
    · refine ⟨_, u, rfl, .str (PyData.shown (.tuple ds)), H, I.kept (t' := tk) hk, ?_, q⟩
      simp only [PyData.shown]
      exact ⟨u, rfl⟩
/-- the text that repr gives -/
def reprS (l : List D) : String := decS (PyData.shown (.tuple (toPs l)))
def OkRepr (l : List D) : Prop := plainDs l = true ∧ PyData.showableAll (toPs l) = true ∧ depDs l ≤ 60 ∧ (PyData.shown (.tuple (toPs l))).length ≤ sizeLine ∧ ∃ t : String, Str.ofString t = PyData.shown (.tuple (toPs l))
def bRepr : DC := fun xs S Q => match xs with
  | [.tup l] => OkRepr l ∧ Q (.str (reprS l)) S
  | _ => False
theorem vrc_repr : VRC K ca bRepr (rRepr K) := by
  intro F S H xs vs Q QV r rx q P
  match xs, vs, rx, q with
  | [.tup l], _, .cons (.tup hs ql) .nil, q =>
    obtain ⟨⟨hp, hsh, hd, hz, t, ht⟩, q⟩ := q
    refine ⟨_, _, toPs l, rfl, hs, dps_toP ql hp, hsh, PyData.hasDictAll_of_canLayAll _ (canLays_toP l hp), by rw [depths_toP]; omega, hz, ?_⟩
    have e : Str.ofString (reprS l) = PyData.shown (.tuple (toPs l)) := by
      unfold reprS
      rw [← ht, decS_ofS]
    rw [← e]
    exact P.at r (.str _) q
@[simp] theorem r_repr : bRepr [.tup l] S Q = (OkRepr l ∧ Q (.str (reprS l)) S) := propext Iff.rfl
end
end DL
/-! DL15: zip of two walks, each over a list or over a tuple. -/
namespace DL
open PySem PySem.Spec PyProof.Rows L2
/-- k: a tuple, else a list -/
def SeqB (k : Bool) (h : Heap) (l : Addr) (xs : Array Value) : Prop := if k then h.IsTuple l xs else h.IsList l xs
def ItB (k : Bool) (h : Heap) (it l : Addr) (i : Nat) : Prop := if k then h.IsTupleIter it l i else h.IsListIter it l i
theorem ItB.ext {k : Bool} {h h' : Heap} {c it l : Addr} {i : Nat} (z : ItB k h it l i) (e : Heap.ExtBut c h h') (n : it ≠ c) : ItB k h' it l i := by
  cases k with
  | true => exact Heap.IsTupleIter.extBut z e n
  | false => exact Heap.IsListIter.extBut z e n
theorem SeqB.ext {k : Bool} {h h' : Heap} {c l : Addr} {xs : Array Value} (z : SeqB k h l xs) (e : Heap.ExtBut c h h') (n : l ≠ c) : SeqB k h' l xs := by
  cases k with
  | true => exact Heap.IsTuple.extBut z e n
  | false => exact Heap.IsList.extBut z e n
theorem ItB.moved {k : Bool} {h h' : Heap} {it l : Addr} {i : Nat} (z : ItB k h it l i) (e : ∀ o, h.get? it = some o → h'.get? it = some o) : ItB k h' it l i := by
  cases k with
  | true => exact Heap.IsTupleIter.at z e
  | false => exact Heap.IsListIter.at z e
theorem ItB.obj {k : Bool} {h : Heap} {it l : Addr} {i : Nat} (z : ItB k h it l i) : ∃ o, h.get? it = some o ∧ ∀ v, o.data ≠ .cell v := by
  cases k with
  | true => obtain ⟨o, e, _, d⟩ := z; exact ⟨o, e, fun v q => by rw [d] at q; cases q⟩
  | false => obtain ⟨o, e, _, d⟩ := z; exact ⟨o, e, fun v q => by rw [d] at q; cases q⟩
section
variable {prog : Program} {w : World} {A : Around} {E : Value → Shared → Prop} {s : Shared}
theorem nextB_item {k : Bool} {it l : Addr} {i : Nat} {items : Array Value} {x : Value} {Q : Value → Shared → Prop} (a : ItB k s.heap it l i) (b : SeqB k s.heap l items) (c : items[i]? = some x)
    (d : ∀ h', ItB k h' it l (i + 1) → Heap.SameBut it s.heap h' → Q x { s with heap := h' }) : wpAny (model prog w) A (Builtin.SmallTypes.nextOf (.ref it)) Q E s := by
  cases k with
  | true => exact RZ.nextOf_tuple_item a b c d
  | false => exact wpAny_nextOf_list_item a b c d
theorem nextB_end {k : Bool} {it l : Addr} {i : Nat} {items : Array Value} {Q : Value → Shared → Prop} (g : A.handled = none) (a : ItB k s.heap it l i) (b : SeqB k s.heap l items) (c : items[i]? = none)
    (d : ∀ h' e, Heap.ExtBut it s.heap h' → (∃ o, h'.get? e = some o ∧ o.cls = .type "StopIteration") → E (.ref e) { s with heap := h' }) : wpAny (model prog w) A (Builtin.SmallTypes.nextOf (.ref it)) Q E s := by
  cases k with
  | true => exact RZ.nextOf_tuple_end g a b c d
  | false => exact wpAny_nextOf_list_end g a b c d
/-- how the zip object stands -/
structure ZipSt (k1 k2 : Bool) (h : Heap) (z TI TO i1 i2 l1 l2 : Addr) (i j : Nat) (f a b : Value) : Prop where
  hz : IsZip h z TI TO f
  hTI : IsPair h TI (.ref i1) (.ref i2)
  hTO : IsPair h TO a b
  h1 : ItB k1 h i1 l1 i
  h2 : ItB k2 h i2 l2 j
theorem zipB_item {k1 k2 : Bool} {z TI TO i1 i2 l1 l2 : Addr} {i j : Nat} {xs ys : Array Value} {x y a b : Value} {Q : Value → Shared → Prop} (D : ZipApart z TI TO i1 i2 l1 l2)
    (st : ZipSt k1 k2 s.heap z TI TO i1 i2 l1 l2 i j .none a b) (s1 : SeqB k1 s.heap l1 xs) (s2 : SeqB k2 s.heap l2 ys) (hx : xs[i]? = some x) (hy : ys[j]? = some y)
    (hQ : ∀ h', ZipSt k1 k2 h' z TI TO i1 i2 l1 l2 (i + 1) (j + 1) (rawInt s.heap.objs.size) x y → IsPair h' s.heap.objs.size x y → h'.objs.size = s.heap.objs.size + 1 →
      (∀ c o, c ≠ z → c ≠ TO → c ≠ i1 → c ≠ i2 → s.heap.get? c = some o → h'.get? c = some o) → Q (.ref s.heap.objs.size) { s with heap := h' }) :
    wpAny (model prog w) A (Builtin.«zip.__next__» ⟨[.ref z], []⟩) (fun fin t => ∃ v, fin = .done (.ret v) ∧ Q v t) E s := by
  obtain ⟨hz, hTI, hTO, h1, h2⟩ := st
  show wpAny _ _ (field (.ref z) 2 >>= _) _ _ _
  refine wpAny_bind (wpAny_field hz rfl (x := .bool false) rfl ?_)
  show wpAny _ _ (field (.ref z) 3 >>= _) _ _ _
  refine wpAny_bind (wpAny_field hz rfl (x := .ref TI) rfl ?_)
  refine wpAny_bind (wpAny_seqItems hTI rfl ?_)
  show wpAny _ _ (Builtin.SmallTypes.ownedTupleIsFree (.ref z) >>= _) _ _ _
  refine wpAny_bind ?_
  unfold Builtin.SmallTypes.ownedTupleIsFree
  refine wpAny_bind (wpAny_field hz rfl (x := .none) rfl (wpAny_pure ?_))
  simp only [if_true]
  refine wpAny_bind (wpAny_rule ?_)
  refine wpAny_bind (wpAny_field hz rfl (x := .ref TO) rfl ?_)
  refine wpAny_bind (wpAny_setField_rec hz (by simp) fun g1 zz1 e1 => ?_)
  replace zz1 : IsZip g1 z TI TO .ellipsis := zz1
  refine wpAny_bind ?_
  simp only [List.zipIdx_cons, List.zipIdx_nil, List.forIn_cons, List.forIn_nil]
  refine wpAny_bind (wpAny_bind (wpAny_onRaise ?_))
  show wpAny _ _ (Builtin.SmallTypes.nextOf (.ref i1) >>= _) _ _ _
  refine wpAny_bind (nextB_item (h1.ext e1.extBut D.i1z) (s1.ext e1.extBut D.l1z) hx fun g2 n1 e2 => wpAny_pure ?_)
  have o2 : IsPair g2 TO a b := e2.extBut _ _ D.TOi1 (e1.extBut _ _ D.TOz hTO)
  refine wpAny_bind (wpAny_seqItems o2 rfl ?_)
  refine wpAny_bind (wpAny_updateSeq_pair o2 fun g3 o3 e3 => ?_)
  replace o3 : IsPair g3 TO x b := o3
  refine wpAny_bind (wpAny_letGo (wpAny_pure ?_))
  refine wpAny_bind (wpAny_bind (wpAny_onRaise ?_))
  show wpAny _ _ (Builtin.SmallTypes.nextOf (.ref i2) >>= _) _ _ _
  refine wpAny_bind (nextB_item (((h2.ext e1.extBut D.i2z).ext e2.extBut D.i12.symm).ext e3.extBut D.TOi2.symm)
    (((s2.ext e1.extBut D.l2z).ext e2.extBut D.l2i1).ext e3.extBut D.l2TO) hy fun g4 n2 e4 => wpAny_pure ?_)
  have o4 : IsPair g4 TO x b := e4.extBut _ _ D.TOi2 o3
  refine wpAny_bind (wpAny_seqItems o4 rfl ?_)
  refine wpAny_bind (wpAny_updateSeq_pair o4 fun g5 o5 e5 => ?_)
  replace o5 : IsPair g5 TO x y := o5
  refine wpAny_bind (wpAny_letGo (wpAny_pure (wpAny_pure ?_)))
  refine wpAny_bind (wpAny_seqItems o5 rfl ?_)
  refine wpAny_bind (wpAny_newTuple ?_)
  have size5 : g5.objs.size = s.heap.objs.size := by rw [e5.1, e4.1, e3.1, e2.1, e1.1]
  have zz5 : IsZip g5 z TI TO .ellipsis := e5.extBut _ _ D.TOz.symm (e4.extBut _ _ D.i2z.symm (e3.extBut _ _ D.TOz.symm (e2.extBut _ _ D.i1z.symm zz1)))
  have kept5 : ∀ c o, c ≠ z → c ≠ TO → c ≠ i1 → c ≠ i2 → s.heap.get? c = some o → g5.get? c = some o := fun c o c1 c2 c3 c4 e =>
    e5.extBut _ _ c2 (e4.extBut _ _ c4 (e3.extBut _ _ c2 (e2.extBut _ _ c3 (e1.extBut _ _ c1 e))))
  have n1' : ItB k1 g5 i1 l1 (i + 1) := ((n1.ext e3.extBut D.TOi1.symm).ext e4.extBut D.i12).ext e5.extBut D.TOi1.symm
  have n2' : ItB k2 g5 i2 l2 (j + 1) := n2.ext e5.extBut D.TOi2.symm
  have zlt : z < g5.objs.size := Heap.lt_size zz5
  show wpAny _ _ (Builtin.SmallTypes.ownedTupleHandOut (.ref z) (.ref g5.objs.size) >>= _) _ _ _
  refine wpAny_bind ?_
  unfold Builtin.SmallTypes.ownedTupleHandOut
  have zz6 : IsZip (g5.push { cls := .type "tuple", data := .seq #[x, y] }) z TI TO .ellipsis := Heap.get?_push_of_some _ zz5
  refine wpAny_bind (wpAny_setField_rec zz6 (by simp) fun g7 zz7 e7 => ?_)
  replace zz7 : IsZip g7 z TI TO (rawInt g5.objs.size) := zz7
  refine wpAny_setField_rec zz7 (by simp) fun g8 zz8 e8 => ?_
  replace zz8 : IsZip g8 z TI TO (rawInt g5.objs.size) := zz8
  have up : ∀ c o, c ≠ z → g5.get? c = some o → g8.get? c = some o := fun c o c1 e => e8.extBut _ _ c1 (e7.extBut _ _ c1 (Heap.get?_push_of_some _ e))
  have pr8 : IsPair g8 g5.objs.size x y := e8.extBut _ _ (Nat.ne_of_gt zlt) (e7.extBut _ _ (Nat.ne_of_gt zlt) (Heap.get?_push_size _ rfl))
  have size8 : g8.objs.size = g5.objs.size + 1 := by rw [e8.1, e7.1, Heap.size_push]
  rw [size5] at zz8 pr8 size8
  refine wpAny_pure ⟨_, rfl, ?_⟩
  show Q (.ref g5.objs.size) _
  rw [size5]
  exact hQ g8 ⟨zz8, up _ _ D.TIz (kept5 _ _ D.TIz D.TITO D.TIi1 D.TIi2 hTI), up _ _ D.TOz o5, n1'.moved fun o e => up _ o D.i1z e, n2'.moved fun o e => up _ o D.i2z e⟩ pr8 size8 fun c o c1 c2 c3 c4 e => up c o c1 (kept5 c o c1 c2 c3 c4 e)
theorem zipB_end {k1 k2 : Bool} {z TI TO i1 i2 l1 l2 : Addr} {i j : Nat} {xs ys : Array Value} {a b : Value} {Q : Fin → Shared → Prop} (g : A.handled = none) (D : ZipApart z TI TO i1 i2 l1 l2)
    (st : ZipSt k1 k2 s.heap z TI TO i1 i2 l1 l2 i j .none a b) (s1 : SeqB k1 s.heap l1 xs) (s2 : SeqB k2 s.heap l2 ys) (hend : xs[i]? = none ∨ ys[j]? = none)
    (hE : ∀ h' e, (∀ c o, c ≠ z → c ≠ TO → c ≠ i1 → c ≠ i2 → s.heap.get? c = some o → h'.get? c = some o) → (∃ o, h'.get? e = some o ∧ o.cls = .type "StopIteration") → E (.ref e) { s with heap := h' }) :
    wpAny (model prog w) A (Builtin.«zip.__next__» ⟨[.ref z], []⟩) Q E s := by
  obtain ⟨hz, hTI, hTO, h1, h2⟩ := st
  show wpAny _ _ (field (.ref z) 2 >>= _) _ _ _
  refine wpAny_bind (wpAny_field hz rfl (x := .bool false) rfl ?_)
  show wpAny _ _ (field (.ref z) 3 >>= _) _ _ _
  refine wpAny_bind (wpAny_field hz rfl (x := .ref TI) rfl ?_)
  refine wpAny_bind (wpAny_seqItems hTI rfl ?_)
  show wpAny _ _ (Builtin.SmallTypes.ownedTupleIsFree (.ref z) >>= _) _ _ _
  refine wpAny_bind ?_
  unfold Builtin.SmallTypes.ownedTupleIsFree
  refine wpAny_bind (wpAny_field hz rfl (x := .none) rfl (wpAny_pure ?_))
  simp only [if_true]
  refine wpAny_bind (wpAny_rule ?_)
  refine wpAny_bind (wpAny_field hz rfl (x := .ref TO) rfl ?_)
  refine wpAny_bind (wpAny_setField_rec hz (by simp) fun g1 zz1 e1 => ?_)
  replace zz1 : IsZip g1 z TI TO .ellipsis := zz1
  refine wpAny_bind ?_
  simp only [List.zipIdx_cons, List.zipIdx_nil, List.forIn_cons, List.forIn_nil]
  refine wpAny_bind (wpAny_bind (wpAny_onRaise ?_))
  show wpAny _ _ (Builtin.SmallTypes.nextOf (.ref i1) >>= _) _ _ _
  cases hx : xs[i]? with
  | none =>
    refine wpAny_bind (nextB_end g (h1.ext e1.extBut D.i1z) (s1.ext e1.extBut D.l1z) hx fun g2 e e2 he => ?_)
    obtain ⟨oe, hoe, hce⟩ := he
    have zz2 : IsZip g2 z TI TO .ellipsis := e2 _ _ D.i1z.symm zz1
    have hez : e ≠ z := fun q => by subst q; rw [zz2] at hoe; cases hoe; simp at hce
    refine wpAny_setField_rec zz2 (by simp) fun g3 _ e3 => hE g3 e (fun c o c1 _ c3 _ q => e3.extBut _ _ c1 (e2 _ _ c3 (e1.extBut _ _ c1 q))) ⟨oe, e3.extBut _ _ hez hoe, hce⟩
  | some x =>
    have hy : ys[j]? = none := hend.resolve_left fun q => by rw [hx] at q; cases q
    refine wpAny_bind (nextB_item (h1.ext e1.extBut D.i1z) (s1.ext e1.extBut D.l1z) hx fun g2 n1 e2 => wpAny_pure ?_)
    have o2 : IsPair g2 TO a b := e2.extBut _ _ D.TOi1 (e1.extBut _ _ D.TOz hTO)
    refine wpAny_bind (wpAny_seqItems o2 rfl ?_)
    refine wpAny_bind (wpAny_updateSeq_pair o2 fun g3 o3 e3 => ?_)
    refine wpAny_bind (wpAny_letGo (wpAny_pure ?_))
    refine wpAny_bind (wpAny_bind (wpAny_onRaise ?_))
    show wpAny _ _ (Builtin.SmallTypes.nextOf (.ref i2) >>= _) _ _ _
    refine wpAny_bind (nextB_end g (((h2.ext e1.extBut D.i2z).ext e2.extBut D.i12.symm).ext e3.extBut D.TOi2.symm)
      (((s2.ext e1.extBut D.l2z).ext e2.extBut D.l2i1).ext e3.extBut D.l2TO) hy fun g4 e e4 he => ?_)
    obtain ⟨oe, hoe, hce⟩ := he
    have zz4 : IsZip g4 z TI TO .ellipsis := e4 _ _ D.i2z.symm (e3.extBut _ _ D.TOz.symm (e2.extBut _ _ D.i1z.symm zz1))
    have hez : e ≠ z := fun q => by subst q; rw [zz4] at hoe; cases hoe; simp at hce
    refine wpAny_setField_rec zz4 (by simp) fun g5 _ e5 => hE g5 e (fun c o c1 c2 c3 c4 q => e5.extBut _ _ c1 (e4 _ _ c4 (e3.extBut _ _ c2 (e2.extBut _ _ c3 (e1.extBut _ _ c1 q))))) ⟨oe, e5.extBut _ _ hez hoe, hce⟩
theorem nextZip_item {k1 k2 : Bool} {z TI TO i1 i2 l1 l2 : Addr} {i j : Nat} {xs ys : Array Value} {x y a b : Value} {Q : Option Value → Shared → Prop} (D : ZipApart z TI TO i1 i2 l1 l2)
    (st : ZipSt k1 k2 s.heap z TI TO i1 i2 l1 l2 i j .none a b) (s1 : SeqB k1 s.heap l1 xs) (s2 : SeqB k2 s.heap l2 ys) (hx : xs[i]? = some x) (hy : ys[j]? = some y)
    (hQ : ∀ h', ZipSt k1 k2 h' z TI TO i1 i2 l1 l2 (i + 1) (j + 1) (rawInt s.heap.objs.size) x y → IsPair h' s.heap.objs.size x y → h'.objs.size = s.heap.objs.size + 1 →
      (∀ c o, c ≠ z → c ≠ TO → c ≠ i1 → c ≠ i2 → s.heap.get? c = some o → h'.get? c = some o) → Q (some (.ref s.heap.objs.size)) { s with heap := h' }) :
    wpAny (model prog w) A (pyNext (.ref z)) Q E s := by
  have T : s.TypeIs (.ref z) "zip" := ⟨_, st.hz, rfl⟩
  unfold pyNext
  exact wpAny_bind (wpAny_attempt (wpAny_callSpecial?_slot (name := Str.ofString "__next__") T F.slot_zip_next
    (wpAny_call_entry F.slot_zip_next T F.entry_zip_next (zipB_item D st s1 s2 hx hy fun h' a1 a2 a3 a4 => wpAny_pure (hQ h' a1 a2 a3 a4)) (F.args_zip_next_1 _))))
theorem nextZip_end {k1 k2 : Bool} {z TI TO i1 i2 l1 l2 : Addr} {i j : Nat} {xs ys : Array Value} {a b : Value} {Q : Option Value → Shared → Prop} (g : A.handled = none) (D : ZipApart z TI TO i1 i2 l1 l2)
    (st : ZipSt k1 k2 s.heap z TI TO i1 i2 l1 l2 i j .none a b) (s1 : SeqB k1 s.heap l1 xs) (s2 : SeqB k2 s.heap l2 ys) (hend : xs[i]? = none ∨ ys[j]? = none)
    (hQ : ∀ h', (∀ c o, c ≠ z → c ≠ TO → c ≠ i1 → c ≠ i2 → s.heap.get? c = some o → h'.get? c = some o) → Q none { s with heap := h' }) : wpAny (model prog w) A (pyNext (.ref z)) Q E s := by
  have T : s.TypeIs (.ref z) "zip" := ⟨_, st.hz, rfl⟩
  unfold pyNext
  refine wpAny_bind (wpAny_attempt (wpAny_callSpecial?_slot (name := Str.ofString "__next__") T F.slot_zip_next
    (wpAny_call_entry F.slot_zip_next T F.entry_zip_next (zipB_end g D st s1 s2 hend fun h' e hk he => ?_) (F.args_zip_next_1 _))))
  obtain ⟨o, ho, hc⟩ := he
  exact wpAny_bind (wpAny_isInstance (T := "StopIteration") (b := true) ⟨o, ho, hc⟩ isSubtype_stop (wpAny_pure (hQ _ hk)))
end
/-! ### the zip object is made -/
def itO (k : Bool) (l : Addr) : Obj := if k then { cls := .type "tuple_iterator", data := .fields #[.ref l, .int 0 0] } else { cls := .type "list_iterator", data := .fields #[.ref l, .int 0 0] }
theorem itO_at {k : Bool} {h : Heap} {it l : Addr} (e : h.get? it = some (itO k l)) : ItB k h it l 0 := by
  cases k with
  | true => exact ⟨_, e, rfl, rfl⟩
  | false => exact ⟨_, e, rfl, rfl⟩
abbrev zh1 (k1 : Bool) (h : Heap) (l1 : Addr) : Heap := h.push (itO k1 l1)
abbrev zh2 (k1 k2 : Bool) (h : Heap) (l1 l2 : Addr) : Heap := (zh1 k1 h l1).push (itO k2 l2)
abbrev zh3 (k1 k2 : Bool) (h : Heap) (l1 l2 : Addr) : Heap := (zh2 k1 k2 h l1 l2).push { cls := .type "tuple", data := .seq #[.ref h.objs.size, .ref (zh1 k1 h l1).objs.size] }
abbrev zh4 (k1 k2 : Bool) (h : Heap) (l1 l2 : Addr) : Heap := (zh3 k1 k2 h l1 l2).push { cls := .type "tuple", data := .seq #[.none, .none] }
abbrev zh5 (k1 k2 : Bool) (h : Heap) (l1 l2 : Addr) : Heap := (zh4 k1 k2 h l1 l2).push { cls := .type "zip", data := .fields #[.none, .bool false, .bool false, .ref (zh2 k1 k2 h l1 l2).objs.size, .ref (zh3 k1 k2 h l1 l2).objs.size] }
/-- a tuple and a list -/
theorem meets_zipTL (l1 l2 : Addr) (xs ys : Array Value) :
    Meets (Builtin.«zip.__new__» ⟨[.type "zip", .ref l1, .ref l2], []⟩) (fun _ R s => s.heap.IsTuple l1 xs ∧ s.heap.IsList l2 ys ∧
      R (.ok (.ret (.ref (zh4 true false s.heap l1 l2).objs.size))) { s with heap := zh5 true false s.heap l1 l2 }) :=
  .of_wp fun prog w A R s h => by
    obtain ⟨hp, g, d, tk, os⟩ := s
    obtain ⟨q1, q2, h⟩ := h
    have isz := sub_zip
    have w1 : Heap.IsTuple (Shared.heap ⟨hp, g, d, tk, os⟩) l1 xs := q1
    have w2 : Heap.IsList (Shared.heap ⟨hp.push { cls := .type "tuple_iterator", data := .fields #[.ref l1, .int 0 0] }, g, d, tk, os⟩) l2 ys := Heap.IsList.push q2 _
    wp_walk using wpAny_pyIter_tuple w1, wpAny_pyIter_list w2
    exact ⟨_, rfl, h⟩
section
variable {prog : Program} {w : World} {A : Around} {E : Value → Shared → Prop} {s : Shared}
theorem zh_facts (k1 k2 : Bool) (h : Heap) (l1 l2 : Addr) : (zh4 k1 k2 h l1 l2).objs.size = h.objs.size + 4 ∧
    ZipSt k1 k2 (zh5 k1 k2 h l1 l2) (h.objs.size + 4) (h.objs.size + 2) (h.objs.size + 3) h.objs.size (h.objs.size + 1) l1 l2 0 0 .none .none .none ∧ ∀ c o, h.get? c = some o → (zh5 k1 k2 h l1 l2).get? c = some o := by
  have z1 : (zh1 k1 h l1).objs.size = h.objs.size + 1 := Heap.size_push ..
  have z2 : (zh2 k1 k2 h l1 l2).objs.size = h.objs.size + 2 := by rw [Heap.size_push, z1]
  have z3 : (zh3 k1 k2 h l1 l2).objs.size = h.objs.size + 3 := by rw [Heap.size_push, z2]
  have z4 : (zh4 k1 k2 h l1 l2).objs.size = h.objs.size + 4 := by rw [Heap.size_push, z3]
  have up : ∀ {a : Heap} {o : Obj} {c : Addr} {v : Obj}, a.get? c = some v → (a.push o).get? c = some v := fun e => Heap.get?_push_of_some _ e
  have f1 : itO k1 l1 ≠ itO k1 l1 → False := fun z => z rfl
  have nf : ∀ (k : Bool) (l : Addr), (itO k l).isFreed = false := fun k l => by cases k <;> rfl
  have a5 : (zh5 k1 k2 h l1 l2).get? (zh4 k1 k2 h l1 l2).objs.size = some _ := Heap.get?_push_size _ rfl
  have a4 : (zh5 k1 k2 h l1 l2).get? (zh3 k1 k2 h l1 l2).objs.size = some _ := up (Heap.get?_push_size _ rfl)
  have a3 : (zh5 k1 k2 h l1 l2).get? (zh2 k1 k2 h l1 l2).objs.size = some _ := up (up (Heap.get?_push_size _ rfl))
  have a2 : (zh5 k1 k2 h l1 l2).get? (zh1 k1 h l1).objs.size = some _ := up (up (up (Heap.get?_push_size _ (nf _ _))))
  have a1 : (zh5 k1 k2 h l1 l2).get? h.objs.size = some _ := up (up (up (up (Heap.get?_push_size _ (nf _ _)))))
  rw [z2, z3, z4] at a5
  rw [z1, z2] at a3
  rw [z3] at a4
  rw [z1] at a2
  exact ⟨z4, ⟨a5, a3, a4, itO_at a1, itO_at a2⟩, fun c o e => up (up (up (up (up e))))⟩
theorem call_zipB {k1 k2 : Bool} {l1 l2 : Addr} {xs ys : Array Value} {Q : Value → Shared → Prop} (s1 : SeqB k1 s.heap l1 xs) (s2 : SeqB k2 s.heap l2 ys) (hk : k1 = true ∧ k2 = false)
    (h : ∀ h', ZipSt k1 k2 h' (s.heap.objs.size + 4) (s.heap.objs.size + 2) (s.heap.objs.size + 3) s.heap.objs.size (s.heap.objs.size + 1) l1 l2 0 0 .none .none .none →
      (∀ c o, s.heap.get? c = some o → h'.get? c = some o) → Q (.ref (s.heap.objs.size + 4)) { s with heap := h' }) :
    wpAny (model prog w) A (call (.type "zip") [.ref l1, .ref l2]) Q E s := by
  obtain ⟨rfl, rfl⟩ := hk
  refine callType_new F.called_zip (by decide) (F.typeCall_zip_2 _ _) (F.newCall_zip_2 _ _) (fun obj => F.args_object_init_3 obj _ _) F.entry_zip_new (meets_zipTL l1 l2 xs ys) ⟨s1, s2, ?_⟩
  obtain ⟨e4, st, kp⟩ := zh_facts true false s.heap l1 l2
  show _ ∧ _
  rw [e4]
  exact ⟨⟨_, st.hz, rfl⟩, h _ st kp⟩
end
/-! ### the walk -/
def SqB (K : PySem.W.Frag) (k : Bool) (H : Hp) (a : Addr) (xs : List V) : Prop := if k then SqT K H a xs else SqL K H a xs
theorem SqB.seq {X : Cx} {pins : List (Addr × Obj)} {σ : L2.St} {H : Hp} {s : Shared} {k : Bool} {a : Addr} {xs : List V} (I : Inv X pins σ H s) (q : SqB X.K k H a xs) : ∃ its : List Value, Vals xs its ∧ SeqB k s.heap a its.toArray ∧ a < s.heap.objs.size := by
  cases k with
  | true =>
    obtain ⟨its, rv, p, _⟩ := I.tuple q
    have p' : s.heap.IsTuple a its.toArray := p
    obtain ⟨o, ho, _⟩ := id p'
    exact ⟨its, rv, p', Heap.lt_size ho⟩
  | false =>
    obtain ⟨its, rv, p, _⟩ := I.list q
    exact ⟨its, rv, p.isList, p.lt⟩
theorem SqB.inj {X : Cx} {pins : List (Addr × Obj)} {σ : L2.St} {H : Hp} {s : Shared} {k : Bool} {a : Addr} {xs ys : List V} (I : Inv X pins σ H s) (q : SqB X.K k H a xs) (r : SqB X.K k H a ys) : xs = ys := by
  cases k with
  | true => exact I.tuple_inj q r
  | false => exact I.list_inj q r
def Itb (K : PySem.W.Frag) (k1 k2 : Bool) (a b : Addr) : It :=
  ⟨fun i H => ∃ (xs ys : List V) (x y : V), SqB K k1 H a xs ∧ SqB K k2 H b ys ∧ xs[i]? = some x ∧ ys[i]? = some y,
    fun i H v H' => ∃ T x y, v = .ref T ∧ H T = none ∧ H' = upd H T (.tup [x, y]) ∧ (∀ xs, SqB K k1 H a xs → xs[i]? = some x) ∧ ∀ ys, SqB K k2 H b ys → ys[i]? = some y,
    fun i H => ∃ xs ys : List V, SqB K k1 H a xs ∧ SqB K k2 H b ys ∧ (xs.length ≤ i ∨ ys.length ≤ i)⟩
theorem turn_zipB {P : Program} {w : World} {K : PySem.W.Frag} {elts : List Expr} {kk : Nat} {tpos : Pos} {k1 k2 : Bool} {a b z TI TO i1 i2 : Addr} (D : ZipApart z TI TO i1 i2 a b) :
    Turn P w K (.Tuple elts kk tpos) (Itb K k1 k2 a b) [z, TI, TO, i1, i2] z (fun i h => ∃ x y, ZipSt k1 k2 h z TI TO i1 i2 a b i i .none x y) where
  mem := by simp
  obj := fun i h ⟨x, y, st⟩ c hc => by
    have e' : c = z ∨ c = TI ∨ c = TO ∨ c = i1 ∨ c = i2 := by simpa using hc
    rcases e' with rfl | rfl | rfl | rfl | rfl
    · exact ⟨_, st.hz, fun v q => nomatch q⟩
    · exact ⟨_, st.hTI, fun v q => nomatch q⟩
    · exact ⟨_, st.hTO, fun v q => nomatch q⟩
    · exact st.h1.obj
    · exact st.h2.obj
  keep := fun i h h' ⟨x, y, st⟩ k => ⟨x, y, k z (by simp) _ st.hz, k TI (by simp) _ st.hTI, k TO (by simp) _ st.hTO, st.h1.moved fun o q => k i1 (by simp) o q, st.h2.moved fun o q => k i2 (by simp) o q⟩
  item := by
    intro X hP hw hK hc i pins s σ H E I hf st hg
    subst hP hw hK
    obtain ⟨x0, y0, st⟩ := st
    obtain ⟨xs, ys, x, y, hqx, hqy, hx, hy⟩ := hg
    obtain ⟨its, rv, p, _⟩ := hqx.seq I
    obtain ⟨its2, rv2, p2, _⟩ := hqy.seq I
    obtain ⟨u, hu, ru⟩ := rv.get hx
    obtain ⟨u2, hu2, ru2⟩ := rv2.get hy
    have zl : z < s.heap.objs.size := Heap.lt_size st.hz
    refine nextZip_item D st p p2 (x := u) (y := u2) (by simpa using hu) (by simpa using hu2) fun h' st' hT hsz hk => ?_
    refine ⟨_, rfl, wpAny_letOwnedTupleGo_zip (s := { s with heap := h' }) st'.hz fun h'' z'' sb => ?_⟩
    have hT2 : h''.get? s.heap.objs.size = some { cls := .type "tuple", data := .seq #[u, u2] } := (sb.2 _ (Nat.ne_of_gt zl)).trans hT
    have new : ObjOk X.prog X.w (upd H s.heap.objs.size (.tup [x, y])) h'' s.heap.objs.size (.tup [x, y]) := ⟨by show 2 ≤ sizeLine; decide, [u, u2], .cons ru (.cons ru2 .nil), ⟨_, hT2, rfl, _, rfl⟩⟩
    have I1 : Inv X pins σ (upd H s.heap.objs.size (.tup [x, y])) { s with heap := h'' } :=
      I.turnedNew (t' := s.toks) (ch := [z, TI, TO, i1, i2]) (fun c o hb q => (sb.2 c (fun q' => hb (by simp [q']))).trans (hk c o (fun q' => hb (by simp [q'])) (fun q' => hb (by simp [q'])) (fun q' => hb (by simp [q'])) (fun q' => hb (by simp [q'])) q)) hf (Nat.le_refl _) new
    refine ⟨.ref s.heap.objs.size, _, I1, rfl, ⟨_, x, y, rfl, I.hok.fresh (Nat.le_refl _), rfl, fun l hl => by rw [hl.inj I hqx]; exact hx, fun l hl => by rw [hl.inj I hqy]; exact hy⟩, ⟨u, u2, z'', ?_, ?_, ?_, ?_⟩, fun c hcm => ?_⟩
    · exact (sb.2 _ D.TIz).trans st'.hTI
    · exact (sb.2 _ D.TOz).trans st'.hTO
    · exact st'.h1.moved fun o q => (sb.2 _ D.i1z).trans q
    · exact st'.h2.moved fun o q => (sb.2 _ D.i2z).trans q
    · have hlt : c < s.heap.objs.size := by
        have e' : c = z ∨ c = TI ∨ c = TO ∨ c = i1 ∨ c = i2 := by simpa using hcm
        rcases e' with rfl | rfl | rfl | rfl | rfl
        · exact zl
        · exact Heap.lt_size st.hTI
        · exact Heap.lt_size st.hTO
        · obtain ⟨_, e1, _⟩ := st.h1.obj; exact Heap.lt_size e1
        · obtain ⟨_, e2, _⟩ := st.h2.obj; exact Heap.lt_size e2
      rw [upd_ne (Nat.ne_of_lt hlt)]
      exact (hf c hcm).1
  done := by
    intro X hP hw hK hc i pins s σ H E I hf st hg
    subst hP hw hK
    obtain ⟨x0, y0, st⟩ := st
    obtain ⟨xs, ys, hqx, hqy, hend⟩ := hg
    obtain ⟨its, rv, p, _⟩ := hqx.seq I
    obtain ⟨its2, rv2, p2, _⟩ := hqy.seq I
    have n1 := rv.length
    have n2 := rv2.length
    have he : its.toArray[i]? = none ∨ its2.toArray[i]? = none := by
      rcases hend with q | q
      · exact .inl (by simp; omega)
      · exact .inr (by simp; omega)
    exact nextZip_end (I.ok.hd hc) D st p p2 he fun h' hk => ⟨rfl, I.turnedL (t' := s.toks) (ch := [z, TI, TO, i1, i2]) (fun c o hb q =>
      hk c o (fun q' => hb (by simp [q'])) (fun q' => hb (by simp [q'])) (fun q' => hb (by simp [q'])) (fun q' => hb (by simp [q'])) q) hf⟩
  self := fun A i s Q E ⟨x, y, st⟩ h => wpAny_pyIter_zip st.hz h
/-- zip(a tuple, a list) -/
def iZipTL (K : PySem.W.Frag) (ta : TA) : TI := fun σ H R => ta σ H fun vs H1 => ∃ a b xs ys, vs = [.ref a, .ref b] ∧ SqT K H1 a xs ∧ SqL K H1 b ys ∧ R (Itb K true false a b) H1
theorem pi_zipTL {X : Cx} {e e2 : Expr} {ta : TA} {p pos tpos : Pos} {elts : List Expr} {kk : Nat} (hg : Gl X "zip") (hm : X.mg "zip" = none) (ha : PA X [e, e2] ta)
    (hs : starEach [e, e2] X.env = (false, eval e X.env) :: starEach [e2] X.env := by rfl) (hpl : (backTo pos (starEach [e2] X.env)).any (·.1) = false := by rfl) :
    PI X (.Tuple elts kk tpos) (.Call (.Name "zip" p) [e, e2] [] pos) (iZipTL X.K ta) := by
  refine ⟨fun pins s σ H R I h => ?_⟩
  refine Call_ (ld_blt I hg hm PyProof.Rows.boot_zip (PyProof.Rows.callWith_type1 (thn (ha.run pos pins s σ H _ I h) fun us s1 ⟨vs, H1, I1, r1, q1⟩ => ?_) hs hpl))
  obtain ⟨a, b, xs, ys, ex, hqx, hqy, q⟩ := q1
  subst ex
  cases r1 with
  | cons r rr =>
    cases rr with
    | cons r' rr =>
      cases rr
      cases r
      cases r'
      obtain ⟨its, _, p1, lt1⟩ := SqB.seq (k := true) I1 hqx
      obtain ⟨its2, _, p2, lt2⟩ := SqB.seq (k := false) I1 hqy
      refine call_zipB p1 p2 ⟨rfl, rfl⟩ fun h' st hk => wpAny_pyIter_zip st.hz ?_
      have I2 : Inv X pins σ H1 { s1 with heap := h' } := I1.kept (t' := s1.toks) hk
      refine ⟨s1.heap.objs.size + 4, [s1.heap.objs.size + 4, s1.heap.objs.size + 2, s1.heap.objs.size + 3, s1.heap.objs.size, s1.heap.objs.size + 1], _, _, H1, rfl, I2, turn_zipB (PySem.W.ktu_apart s1.heap.objs.size a b lt1 lt2), ⟨_, _, st⟩, fun c hc => ?_, q⟩
      have hle : s1.heap.objs.size ≤ c := by
        have e' : c = s1.heap.objs.size + 4 ∨ c = s1.heap.objs.size + 2 ∨ c = s1.heap.objs.size + 3 ∨ c = s1.heap.objs.size ∨ c = s1.heap.objs.size + 1 := by simpa using hc
        show (s1.heap.objs.size : Nat) ≤ c
        rcases e' with e | e | e | e | e <;> (rw [e]; first | exact Nat.le_add_right _ _ | exact Nat.le_refl _)
      exact I1.fpOk hle (I1.hok.fresh hle)
section
variable {K : PySem.W.Frag} {ca : Nat → Addr} {F F' : Addr → Prop} {S S' : Store} {H H' : Hp} {B : Bc} {d : D} {v : V} {l : List D} {X : Cx} {a b : Expr} {pos : Pos} {n : Nat}
def iZt (dt : DA) : DI := fun σ S Q => dt σ S fun xs S1 => match xs with
  | [.tup l, y] => ofO (asL S1 y) fun m => Q (zipD l m) (fun S' => keepL y m S') S1
  | _ => False
theorem sim_iZt {dt : DA} {tt : TA} (h : SimA K B n dt tt) : SimI K B (iZt dt) (iZipTL K tt) := by
  intro F σ S σV H Q R' R q P
  refine h F σ S σV H _ _ R q fun xs vs F1 S1 H1 f1 r1 d1 _ q1 => ?_
  match xs, vs, d1, q1 with
  | [.tup l, y], [v, w], .cons dx (.cons dy .nil), q1 =>
    obtain ⟨m, e', q1⟩ := ofO_ex q1
    cases dx with
    | @tup a ws _ hs ql =>
      obtain ⟨b, us, ew, hs2, qm⟩ := asL_rel r1 dy e'
      refine ⟨a, b, ws, us, by rw [ew], hs, hs2, P _ _ F1 S1 H1 _ f1 r1 ?_ q1⟩
      intro i F' S' H' f' r' kp
      have hs' := fr_t r1 f' hs
      have ql' := ql.mono r1 f'
      obtain ⟨b', us', ew', ht', qm'⟩ := asL_rel r' (dy.mono r1 f') kp
      rw [ew] at ew'
      cases ew'
      refine ⟨fun d ed => ?_, fun hl => ⟨ws, us', hs', ht', by rw [← ql'.length, ← qm'.length]; exact zipD_end l m i hl⟩⟩
      obtain ⟨z, z2, ez, ez2, rfl⟩ := zipD_get l m i ed
      obtain ⟨u, eu, ru⟩ := ql'.get ez
      obtain ⟨u2, eu2, ru2⟩ := qm'.get ez2
      refine ⟨⟨ws, us', u, u2, hs', ht', eu, eu2⟩, fun x H'' y' => ?_⟩
      obtain ⟨T, p, q, rfl, hT, rfl, y1, y2⟩ := y'
      have e2 := y1 ws hs'
      rw [eu] at e2
      cases e2
      have e3 := y2 us' ht'
      rw [eu2] at e3
      cases e3
      exact ⟨fr_newD hT, r'.newD hT, .tup (SqT.of upd_same) (.cons (ru.mono r' (fr_newD hT)) (.cons (ru2.mono r' (fr_newD hT)) .nil))⟩
theorem pdi_zipT {elts : List Expr} {kk : Nat} {tpos p : Pos} {dt : DA} (hg : Gl X "zip") (hm : X.mg "zip" = none) (ha : PDA X B [a, b] n dt) (hs : starEach [a, b] X.env = (false, eval a X.env) :: starEach [b] X.env := by rfl) (hpl : (backTo pos (starEach [b] X.env)).any (·.1) = false := by rfl) :
    PDI X B (.Tuple elts kk tpos) (.Call (.Name "zip" p) [a, b] [] pos) (iZt dt) := ⟨_, pi_zipTL hg hm pa_w hs hpl, sim_iZt ha⟩
@[simp] theorem r_iZt {σ : DEnv} {dt : DA} {R : List D → (Store → Prop) → Store → Prop} : iZt dt σ S R = dt σ S fun xs S1 => match xs with
  | [.tup l, y] => ofO (asL S1 y) fun m => R (zipD l m) (fun S' => keepL y m S') S1
  | _ => False := propext Iff.rfl
@[simp] theorem r_iZp {σ : DEnv} {dt : DA} {R : List D → (Store → Prop) → Store → Prop} : iZp dt σ S R = dt σ S fun xs S1 => match xs with
  | [x, y] => ofO (asL S1 x) fun l => ofO (asL S1 y) fun m => R (zipD l m) (fun S' => keepL x l S' ∧ keepL y m S') S1
  | _ => False := propext Iff.rfl
end
end DL
/-! DL16: dicts displayed with texts as keys. -/
namespace DL
open PySem PySem.Spec PyProof.Rows L2
section
variable {K : PySem.W.Frag} {ca : Nat → Addr} {F F' : Addr → Prop} {S S' : Store} {H H' : Hp} {B : Bc} {Q : QE} {QV : VK} {X : Cx} {pos : Pos} {v : Expr} {da : DE}
def dPairs : List (String × DE) → DEnv → Store → (List (String × D) → Store → Prop) → Prop
  | [], _, S, Q => Q [] S
  | (k, d) :: r, σ, S, Q => d σ S fun x S1 => dPairs r σ S1 fun ps S2 => Q ((k, x) :: ps) S2
def pvs (kv : List (Key × V)) : List (V × V) := kv.map fun p => (kV p.1, p.2)
def SimP (K : PySem.W.Frag) (B : Bc) (n : Nat) (ps : List (String × DE)) (trs : List (TE × TE)) : Prop := ∀ F σ S σV H (Q : List (String × D) → Store → Prop) (QV : List (V × V) → Hp → Prop), Rel K B F σ S σV H → dPairs ps σ S Q →
  (∀ kd kv F' S' H', Fr F S H F' S' H' → RelS K B.ca F' S' H' → RelKs K F' H' kd kv → kd.map (·.1) = ps.map (·.1) → Q kd S' → QV (pvs kv) H') → tPairs trs σV H QV
def PDP (X : Cx) (B : Bc) (pos : Pos) (keys : List (Option Expr)) (values : List Expr) (ps : List (String × DE)) : Prop := ∃ trs, PPs X pos keys values trs ∧ SimP X.K B keys.length ps trs
theorem pdp_nil : PDP X B pos [] [] [] := ⟨[], pps_nil, fun F σ S σV H Q QV R q P => P [] [] F S H Fr.refl R.st .nil rfl q⟩
theorem pdp_cons {k : String} {j} {kp : Pos} {ks : List (Option Expr)} {vs : List Expr} {ps : List (String × DE)} (hv : PD X B v da) (hr : PDP X B pos ks vs ps) : PDP X B pos (some (.Constant (.str (Str.ofString k)) j kp) :: ks) (v :: vs) ((k, da) :: ps) := by
  obtain ⟨trs, h1, h2⟩ := hr
  refine ⟨_, pps_cons pe_str pe_w h1, fun F σ S σV H Q QV R q P => ?_⟩
  show tPairs ((_, wpE X v) :: trs) σV H QV
  refine hv F σ S σV H _ _ R q fun x vv F1 S1 H1 f1 r1 d1 q1 => ?_
  refine h2 F1 σ S1 σV H1 _ _ (R.step f1 r1) q1 fun kd kv F2 S2 H2 f2 r2 d2 e2 q2 => ?_
  exact P ((k, x) :: kd) ((.inr (Str.ofString k), vv) :: kv) F2 S2 H2 (f1.trans f2) r2 (.cons (d1.mono r1 f2) d2) (by rw [List.map_cons, List.map_cons, e2]) q2
/-- a dict that stays as it is -/
def dDicD (ps : List (String × DE)) : DE := fun σ S Q => dPairs ps σ S fun kd S1 => Q (.dic kd) S1
theorem putK_new {kv : List (Key × V)} {k : Key} {x : V} (h : k ∉ kv.map (·.1)) : putK kv k x = kv ++ [(k, x)] := by
  induction kv with
  | nil => rfl
  | cons p r ih =>
    obtain ⟨k', x'⟩ := p
    have h1 : ¬ k' = k := fun e => h (by simp [e])
    have h2 : k ∉ r.map (·.1) := fun z => h (List.mem_cons_of_mem _ z)
    unfold putK at ih ⊢
    simp only [List.map_cons, List.mem_cons, not_or] at h
    have := ih h2
    simp_all
theorem merge_new : ∀ {more kv : List (Key × V)}, ((kv ++ more).map (·.1)).Nodup → mergeK kv more = kv ++ more
  | [], kv, _ => by show kv = _; simp
  | p :: more, kv, h => by
    have h1 : p.1 ∉ kv.map (·.1) := by
      rw [List.map_append, List.map_cons, List.nodup_append] at h
      exact fun z => h.2.2 _ z p.1 (by simp) rfl
    show mergeK (putK kv p.1 p.2) more = _
    rw [putK_new h1, merge_new (by simpa using h)]
    simp
theorem ks_nodup {kd : List (String × D)} {kv : List (Key × V)} (q : RelKs K F H kd kv) (h : (kd.map (·.1)).Nodup) : (kv.map (·.1)).Nodup := by
  rw [ks_keys q]
  rw [List.map_map]
  show List.Pairwise _ _
  rw [List.pairwise_map]
  exact List.Pairwise.imp (fun hne e => hne (ofS_inj (Sum.inr.inj e))) h
theorem sim_dicD {ps : List (String × DE)} {n : Nat} {trs : List (TE × TE)} (hn : ps.length ≤ 15) (hnd : (ps.map (·.1)).Nodup) (h : SimP K B n ps trs) : SimE K B (dDicD ps) (tDisp trs) := by
  intro F σ S σV H Q QV R q P p hp
  have npF : ¬ F p := fun z => by obtain ⟨_, e⟩ := R.st.fz p z; rw [hp] at e; cases e
  have f0 : Fr F S H F S (upd H p (.dK [])) := fr_newD hp
  have r0 := R.st.newD (u := .dK []) hp
  refine h F σ S σV _ _ _ (R.step f0 r0) q fun kd kv F1 S1 H1 f1 r1 d1 e1 q1 => ?_
  obtain ⟨h1, n1, i1⟩ := f1 p _ (upd_same) (R.st.free hp)
  have np1 : ¬ F1 p := fun z => npF (i1.mp z)
  have hlen : kv.length ≤ 15 := by
    rw [← ks_len d1]
    have := congrArg List.length e1
    rw [List.length_map, List.length_map] at this
    omega
  refine ⟨h1, kv, rfl, hlen, ?_⟩
  have hkn : (kd.map (·.1)).Nodup := by rw [e1]; exact hnd
  rw [merge_new (kv := []) (by simpa using ks_nodup d1 hkn), List.nil_append]
  obtain ⟨r2, m2⟩ := hidden_step (w' := .dK kv) r1 h1 n1 np1 (fun _ z => by cases z) (fun _ _ z => by cases z)
  obtain ⟨r3, m3⟩ := r2.light (p := p) upd_same n1
  have f2 : Fr F S H F1 S1 (upd H1 p (.dK kv)) := fun a o e n => by
    obtain ⟨g1, g2, g3⟩ := (f0.trans f1) a o e n
    exact ⟨by rw [upd_ne (ne_of_none e hp)]; exact g1, g2, g3⟩
  have allk : ∀ {d : List (String × D)} {v : List (Key × V)}, RelKs K F1 H1 d v → RelKs K (DL.ins F1 p) (upd H1 p (.dK kv)) d v := fun {d v} q => by
    induction d generalizing v with
    | nil => cases q; exact .nil
    | cons x xs ih => cases q with | cons a q => exact .cons (m3 (m2 a)) (ih q)
  exact P _ _ _ S1 _ (fr_light f2 hp) r3 (.dic (.inl upd_same) (.inl rfl) (allk d1)) q1
theorem pd_dicD {keys : List (Option Expr)} {values : List Expr} {ps : List (String × DE)} (h : PDP X B pos keys values ps) (hn : ps.length ≤ 15 := by decide) (hnd : (ps.map (·.1)).Nodup := by decide) (hall : keys.all (·.isSome) = true := by rfl) (hl : keys.length = values.length := by rfl) (h0 : keys ≠ [] := by simp)
    (h15 : keys.length ≤ 15 := by decide) : PD X B (.Dict keys values pos) (dDicD ps) := by
  obtain ⟨trs, h1, h2⟩ := h
  exact pd_of (pe_disp h1 hall hl h0 h15) (sim_dicD hn hnd h2)
@[simp] theorem r_dicD {σ : DEnv} {ps : List (String × DE)} : dDicD ps σ S Q = dPairs ps σ S fun kd S1 => Q (.dic kd) S1 := propext Iff.rfl
@[simp] theorem r_pairs0 {σ : DEnv} {R : List (String × D) → Store → Prop} : dPairs [] σ S R = R [] S := propext Iff.rfl
@[simp] theorem r_pairs1 {σ : DEnv} {k : String} {d : DE} {r : List (String × DE)} {R : List (String × D) → Store → Prop} : dPairs ((k, d) :: r) σ S R = d σ S fun x S1 => dPairs r σ S1 fun ps S2 => R ((k, x) :: ps) S2 := propext Iff.rfl
end
end DL
/-! DL17: a list is extended by a tuple, or by any list. -/
namespace DL
open PySem PySem.Spec PyProof.Rows L2
theorem ext_tupM (l : Addr) (its : Array Value) (n : Nat) (b : Addr) (its2 : Array Value) (h0 : ¬(!its.isEmpty && Builtin.List.listTooLong (its.size + its2.size)) = true) (h1 : its.size ≤ sizeLine) (h2 : its.size + its2.size ≤ sizeLine + 1) :
    Meets (Builtin.«list.extend» ⟨[.ref l, .ref b], []⟩) (fun _ R s => s.heap.get? l = some { cls := .type "list", dict := none, data := .seq its n, slots := #[] } ∧ s.heap.IsTuple b its2 ∧ R (.ok (.ret Value.none)) { s with heap := s.heap.update l (Obj.mapSeq fun x => x ++ its2), toks := s.toks }) :=
  .of_wp fun prog w A R s h => by
    obtain ⟨hp, g, d, tk, os⟩ := s
    obtain ⟨hl, hb, h⟩ := h
    obtain ⟨⟨oc, od, odt, osl⟩, e, hc, n2, hdt⟩ := hb
    cases hc
    cases hdt
    have z1 := AutoSeq1.idx_int
    have z2 := AutoSeq1.sub_tuple_tuple
    have z3 := AutoSeq1.sub_list_list
    have z4 := AutoSeq1.sub_tuple_list
    have z5 := AutoSeq1.sub_list_tuple
    have hz' : (its ++ its2).size ≤ sizeLine + 1 := by rw [Array.size_append]; exact h2
    wp_walk using (wpAny_updateSeq hl rfl (hz := h1) (_hz' := hz')), AutoSeq1.wpAny_loadPart' hl, AutoSeq1.wpAny_loadPart' e
    exact ⟨_, rfl, h⟩
def rExtendT (K : PySem.W.Frag) : V → List V → Hp → VK → Prop := fun x vs H Q => ∃ l b xs zs, x = .ref l ∧ vs = [.ref b] ∧ H l = some (.lst xs) ∧ SqT K H b zs ∧ xs.length + zs.length ≤ sizeLine ∧ Q .non (upd H l (.lst (xs ++ zs)))
theorem mt_extendT {X : Cx} : MtM X "list.extend" (rExtendT X.K) := by
  intro pins s σ H x vs v us Q I rx rv h
  obtain ⟨l, b, xs, zs, rfl, rfl, hH, hB, hz, q⟩ := h
  cases rx
  obtain ⟨u, rfl, ru⟩ := rv.one
  cases ru
  obtain ⟨z, its, n, r, hl, e⟩ := I.lstM hH
  obtain ⟨its2, r2, p2, _⟩ := I.tuple hB
  have hl2 : zs.length = its2.length := r2.length
  have hsz : its.toArray.size + its2.toArray.size ≤ sizeLine := by rw [List.size_toArray, List.size_toArray]; omega
  have hlong : ¬ (!its.toArray.isEmpty && Builtin.List.listTooLong (its.toArray.size + its2.toArray.size)) = true := by
    have : Builtin.List.listTooLong (its.toArray.size + its2.toArray.size) = false := by
      unfold Builtin.List.listTooLong
      exact decide_eq_false (by omega)
    rw [this, Bool.and_false]
    exact Bool.false_ne_true
  refine call_meets F.slot_list_extend ⟨_, e, rfl⟩ F.entry_list_extend (F.args_list_extend_2 _ _) (ext_tupM l its.toArray n b its2.toArray hlong (by omega) (by omega)) ⟨e, p2, ?_⟩
  refine ⟨.non, _, I.lset (its' := its ++ its2) hH e (by simp) (r.append r2) ?_, rfl, q⟩
  rw [List.length_append]
  exact hz
section
variable {K : PySem.W.Frag} {ca : Nat → Addr} {F F' : Addr → Prop} {S S' : Store} {H H' : Hp} {Q : QE} {l m : List D} {p : Addr}
/-- l.extend(a tuple) -/
def mExtT : DM := fun x xs S Q => match x, xs with
  | .obj p, [y] => match S p with
    | some (.lst l) => match y with
      | .tup m => l.length + m.length ≤ lim ∧ Q .non (put S p (.lst (l ++ m)))
      | _ => False
    | _ => False
  | _, _ => False
theorem vrm_extT : VRM K ca mExtT (rExtendT K) := by
  intro F S H x v xs vs Q QV r rx rxs q P
  cases rx with
  | obj p =>
    match xs, vs, rxs, q with
    | [y], [w], .cons ry .nil, q =>
      unfold mExtT at q
      dsimp only at q
      obtain ⟨l, hS, q⟩ := obj_at (u := Ob.lst []) q
      cases ry with
      | @tup c us m hb qm =>
        obtain ⟨_, ws, hH, ql⟩ := r.ob p _ hS
        refine ⟨p, c, ws, us, rfl, rfl, hH, hb, by rw [← ql.length, ← qm.length, lim_eq]; exact q.1, ?_⟩
        have fw := fr_write (F := F) (H := H) (o' := .lst (l ++ m)) (u := .lst (ws ++ us)) hS
        have rw2 := r.write (o' := .lst (l ++ m)) (u := .lst (ws ++ us)) hS ⟨_, upd_same, (ql.append qm).mono r fw⟩
        exact P _ _ F _ _ fw rw2 .non q.2
      | _ => exact q.elim
    | [], _, _, q => exact q.elim
    | _ :: _ :: _, _, _, q => exact q.elim
  | _ => exact q.elim
theorem extT_obj (h : S p = some (.lst l)) : mExtT (.obj p) [.tup m] S Q = (l.length + m.length ≤ lim ∧ Q .non (put S p (.lst (l ++ m)))) := by simp [mExtT, h]
end
end DL
/-! DL18: three names at once. -/
namespace DL
open PySem PySem.Spec PyProof.Rows L2
section
variable {X : Cx} {B : Bc} {a b c : Expr} {pos : Pos} {σ : DEnv} {S : Store} {D' : DEnds}
def dPar3 (i j l : Nat) (dt : DA) : DS := fun D σ S => dt σ S fun xs S1 => match xs with
  | [x, y, z] => D.nx (((σ.set i (some x)).set j (some y)).set l (some z)) S1
  | _ => False
theorem pds_par3 (i j l : Nat) {x y z : Str} {dt : DA} {px py pz pt : Pos} {kt k2 pt2} (hc : X.calm = true) (hN : X.N.Nodup) (hij : i ≠ j) (hil : i ≠ l) (hjl : j ≠ l) (ha : PDA X B [a, b, c] 3 dt)
    (hx : X.env.scope.names.lookup x = some .local) (hy : X.env.scope.names.lookup y = some .local) (hz : X.env.scope.names.lookup z = some .local) (hi : X.N[i]? = some x := by rfl) (hj : X.N[j]? = some y := by rfl) (hl : X.N[l]? = some z := by rfl)
    (hw : swappedStores [.Tuple [.Name x px, .Name y py, .Name z pz] kt pt] (.Tuple [a, b, c] k2 pt2) X.env = pure (some [x, y, z]) := by rfl)
    (hs : swapsWithSole [.Tuple [.Name x px, .Name y py, .Name z pz] kt pt] (.Tuple [a, b, c] k2 pt2) pos.line X.env = pure false := by rfl) :
    PDS X B (.Assign [.Tuple [.Name x px, .Name y py, .Name z pz] kt pt] (.Tuple [a, b, c] k2 pt2) pos) (dPar3 i j l dt) := by
  refine pds_of (ps_par3 hc hN hi hj hl hij hil hjl hx hy hz pa_w hw hs) fun F σ S σV H D V R q P => ?_
  refine ha F σ S σV H _ _ R q fun xs vs F1 S1 H1 f1 r1 d1 l1 q1 => ?_
  match xs, vs, d1, q1 with
  | [x, y, z], [u, v, w], .cons r1' (.cons r2' (.cons r3' .nil)), q1 =>
    exact ⟨u, v, w, rfl, P.nx F1 _ S1 _ H1 f1 ((((R.step f1 r1).set r1').set r2').set r3') q1⟩
@[simp] theorem r_par3 {i j l : Nat} {dt : DA} : dPar3 i j l dt D' σ S = dt σ S fun xs S1 => match xs with
  | [x, y, z] => D'.nx (((σ.set i (some x)).set j (some y)).set l (some z)) S1
  | _ => False := propext Iff.rfl
end
end DL
/-! DL19: list.index of texts; dicts walked by their keys, comprehensions of dicts; a field's dict stays from here on. -/
namespace DL
open PySem PySem.Spec PyProof.Rows L2
/-! ### list.index -/
theorem strsAre_of : ∀ {ss : List Str} {us : List Value}, Vals (ss.map V.str) us → StrsAre us ss
  | [], _, .nil => .nil
  | s :: ss, _, .cons h r => by obtain ⟨t, rfl⟩ := h; exact .cons s t (strsAre_of r)
def rIndexS (K : PySem.W.Frag) : V → List V → Hp → VK → Prop := fun x vs H Q => ∃ (a : Addr) (ss : List Str) (k : Str), x = .ref a ∧ vs = [.str k] ∧ SqL K H a (ss.map V.str) ∧ ss.length ≤ sizeLine ∧ k ∈ ss ∧ Q (.int (ss.idxOf k : Nat)) H
theorem mt_indexS {X : Cx} : MtM X "list.index" (rIndexS X.K) := by
  intro pins s σ H x vs v us Q I rx rv h
  obtain ⟨a, ss, k, rfl, rfl, hs, hz, hk, q⟩ := h
  cases rx
  obtain ⟨u, rfl, ru⟩ := rv.one
  obtain ⟨t, rfl⟩ := ru
  obtain ⟨its, r, pl, _⟩ := I.list hs
  exact PySem.SeqAt.list_index_strs (vs := its) pl.isList (strsAre_of r) hz hk ⟨.int (ss.idxOf k : Nat), H, I.tok _, ⟨_, rfl⟩, q⟩
theorem idxOf_ofS (k : String) : ∀ ss : List String, (ss.map Str.ofString).idxOf (Str.ofString k) = ss.idxOf k
  | [] => rfl
  | s :: ss => by
    rw [List.map_cons, List.idxOf_cons, List.idxOf_cons, idxOf_ofS k ss]
    by_cases e : s = k
    · subst e; simp
    · have e' : ¬ Str.ofString s = Str.ofString k := fun z => e (ofS_inj z)
      rw [beq_eq_false_iff_ne.mpr e, beq_eq_false_iff_ne.mpr e']
section
variable {K : PySem.W.Frag} {ca : Nat → Addr} {F F' : Addr → Prop} {S S' : Store} {H H' : Hp} {B : Bc} {Q : QE} {QV : VK} {l : List D} {X : Cx} {σ : DEnv} {σV : L2.St} {da : DE} {e : Expr} {pos : Pos}
/-- xs.index(x) of a list of texts that holds x -/
def mIndex : DM := fun x xs S Q => match xs with
  | [.str k] => ofO (asL S x) fun l => ofO (strsOf l) fun ss => ss.length ≤ lim ∧ k ∈ ss ∧ Q (.int (ss.idxOf k : Nat)) S
  | _ => False
theorem vrm_index : VRM K ca mIndex (rIndexS K) := by
  intro F S H x v xs vs Q QV r rx rxs q P
  match xs, vs, rxs, q with
  | [y], [w], .cons ry .nil, q =>
    cases ry with
    | str k =>
      obtain ⟨l, el, q⟩ := ofO_ex q
      obtain ⟨ss, es, h1, h2, q⟩ := ofO_ex q
      obtain ⟨a, ws, ev, hs, ql⟩ := asL_rel r rx el
      rw [strs_rel ql es] at hs
      refine ⟨a, ss.map Str.ofString, Str.ofString k, ev, rfl, hs, by rw [List.length_map, lim_eq]; exact h1, List.mem_map.mpr ⟨k, h2, rfl⟩, ?_⟩
      rw [idxOf_ofS]
      exact P.at r (.int _) q
    | _ => exact q.elim
  | [], _, _, q => exact q.elim
  | a :: b :: _, _, _, q => cases a <;> exact q.elim
theorem index_lst {ss : List String} {k : String} : mIndex (.lst (ss.map D.str)) [.str k] S Q = (ss.length ≤ lim ∧ k ∈ ss ∧ Q (.int (ss.idxOf k : Nat)) S) := by simp [mIndex, asL, ofO, strsOf_map]

/-! ### a dict that stays is locked for a while -/
def DicW (kv : List (Key × V)) (w : HO) : Prop := w = .dK kv ∨ ∃ o, w = .frz o (.dK kv)
theorem swap_dic {a : Addr} {kv : List (Key × V)} {w w' : HO} (hw : DicW kv w) (hw' : DicW kv w') (hp : H a = some w) (n : S a = none) (r : RelS K ca F S H) :
    RelS K ca F S (upd H a w') ∧ (∀ {d : D} {v : V}, RelD K F H d v → RelD K F (upd H a w') d v) := by
  have nw : ∀ u, (∀ kv, u ≠ .dK kv) → (∀ o kv, u ≠ .frz o (.dK kv)) → w ≠ u := fun u h1 h2 z => by
    rcases hw with e | ⟨o, e⟩
    · exact h1 _ (z.symm.trans e)
    · exact h2 _ _ (z.symm.trans e)
  have ne : ∀ {b : Addr} {u : HO}, H b = some u → (∀ kv, u ≠ .dK kv) → (∀ o kv, u ≠ .frz o (.dK kv)) → upd H a w' b = some u := fun {b u} e h1 h2 => by
    rw [upd_ne fun z => by subst z; rw [hp] at e; exact nw u h1 h2 (Option.some.inj e)]; exact e
  have tup : ∀ {b : Addr} {vs : List V}, SqT K H b vs → SqT K (upd H a w') b vs := fun {b vs} h => by
    rcases h with (h | ⟨o, h⟩) | h
    · exact .inl (.inl (ne h (fun _ z => by cases z) fun _ _ z => by cases z))
    · exact .inl (.inr ⟨o, ne h (fun _ z => by cases z) fun _ _ z => by cases z⟩)
    · exact .inr h
  have scr : ∀ {b : Addr} {vs : List V}, SqZ K H b vs → SqZ K (upd H a w') b vs := fun {b vs} h => by
    rcases h with ⟨o, h⟩ | h
    · exact .inl ⟨o, ne h (fun _ z => by cases z) fun _ _ z => by cases z⟩
    · exact .inr h
  have dic : ∀ {b : Addr} {kv2 : List (Key × V)}, Rd H b (.dK kv2) → Rd (upd H a w') b (.dK kv2) := fun {b kv2} h => by
    by_cases e : b = a
    · subst e
      have ek : kv2 = kv := by
        rcases h with h | ⟨o, h⟩ <;> rw [hp] at h <;> cases h <;> rcases hw with e | ⟨o2, e⟩ <;> cases e <;> rfl
      subst ek
      rcases hw' with e | ⟨o, e⟩ <;> subst e
      · exact .inl upd_same
      · exact .inr ⟨o, upd_same⟩
    · rcases h with h | ⟨o, h⟩
      · exact .inl (by rw [upd_ne e]; exact h)
      · exact .inr ⟨o, by rw [upd_ne e]; exact h⟩
  have all : ∀ (d : D) (v : V), RelD K F H d v → RelD K F (upd H a w') d v := fun d v h =>
    RelD.rec (motive_1 := fun d v _ => RelD K F (upd H a w') d v) (motive_2 := fun d v _ => RelDs K F (upd H a w') d v) (motive_3 := fun d v _ => RelKs K F (upd H a w') d v)
      .non .bl .int .str (fun h _ q => .tup (tup h) q) (fun h f _ q => .lst (ne h (fun _ z => by cases z) fun _ _ z => by cases z) f q) (fun h f _ q => .dic (dic h) f q) (fun h _ q => .scr (scr h) q) .obj .ty .nil (fun _ _ h q => .cons h q) .nil (fun _ _ h q => .cons h q) h
  have alls : ∀ {d : List D} {v : List V}, RelDs K F H d v → RelDs K F (upd H a w') d v := fun {d v} h => by
    induction d generalizing v with
    | nil => cases h; exact .nil
    | cons x xs ih => cases h with | cons h q => exact .cons (all _ _ h) (ih q)
  have allk : ∀ {d : List (String × D)} {v : List (Key × V)}, RelKs K F H d v → RelKs K F (upd H a w') d v := fun {d v} h => by
    induction d generalizing v with
    | nil => cases h; exact .nil
    | cons x xs ih => cases h with | cons h q => exact .cons (all _ _ h) (ih q)
  have allf : ∀ {d : List (String × D)} {v : List (Str × V)}, RelFs K F H d v → RelFs K F (upd H a w') d v := fun {d v} h => by
    induction h with
    | nil => exact .nil
    | cons h _ ih => exact .cons (all _ _ h) ih
  refine ⟨⟨fun b o e => ⟨(r.ob b o e).1, ?_⟩, fun b h => ?_⟩, fun {d v} => all d v⟩
  · have nb : b ≠ a := fun z => by rw [z, n] at e; cases e
    have q := (r.ob b o e).2
    cases o with
    | lst l => obtain ⟨vs, h, q⟩ := q; exact ⟨vs, by rw [upd_ne nb]; exact h, alls q⟩
    | dic l => obtain ⟨vs, h, q⟩ := q; exact ⟨vs, by rw [upd_ne nb]; exact h, allk q⟩
    | ins c l => obtain ⟨dx, vs, h, q⟩ := q; exact ⟨dx, vs, by rw [upd_ne nb]; exact h, allf q⟩
  · by_cases z : b = a
    · subst z; exact ⟨w', upd_same⟩
    · obtain ⟨o, e⟩ := r.fz b h
      exact ⟨o, by rw [upd_ne z]; exact e⟩
theorem swap_ks {a : Addr} {w' : HO} (all : ∀ {d : D} {v : V}, RelD K F H d v → RelD K F (upd H a w') d v) {d : List (String × D)} {v : List (Key × V)} (h : RelKs K F H d v) : RelKs K F (upd H a w') d v := by
  induction d generalizing v with
  | nil => cases h; exact .nil
  | cons x xs ih => cases h with | cons h q => exact .cons (all h) (ih q)
theorem swap_env {a : Addr} {w' : HO} (all : ∀ {d : D} {v : V}, RelD K F H d v → RelD K F (upd H a w') d v) (h : RelEnv K F H σ σV) : RelEnv K F (upd H a w') σ σV :=
  ⟨h.1, fun i d e => let ⟨v, a, b⟩ := h.2 i d e; ⟨v, a, all b⟩⟩
/-- a thing that does not change is locked, and unlocked again -/
theorem fr_unlock {a : Addr} {u w : HO} (ha : H a = some u) (n : S a = none) (f : Fr F S (upd H a w) F' S' H') : Fr F S H F' S' (upd H' a u) := fun b o e nb => by
  by_cases z : b = a
  · subst z
    rw [ha] at e
    cases e
    obtain ⟨_, e2, e3⟩ := f b w upd_same nb
    exact ⟨upd_same, e2, e3⟩
  · obtain ⟨e1, e2, e3⟩ := f b o (by rw [upd_ne z]; exact e) nb
    exact ⟨by rw [upd_ne z]; exact e1, e2, e3⟩
/-- one def's place, from another entry -/
abbrev Bc.at (B : Bc) (F0 : Addr → Prop) (S0 : Store) (H0 : Hp) : Bc := ⟨B.ca, F0, S0, H0, fun _ _ _ => False⟩
theorem takes_at {E0 : Nat} (B : Bc) (F0 : Addr → Prop) (S0 : Store) (H0 : Hp) : Takes X (XW X.K (B.at F0 S0 H0)) := Takes.imp (W := fun _ _ _ _ => False) takes0 fun _ _ _ _ ⟨_, _, _, _, _, _, z⟩ => z
def keysL (kd : List (String × D)) : List D := kd.map fun p => D.str p.1
theorem ks_at {kd : List (String × D)} {kv : List (Key × V)} (q : RelKs K F H kd kv) : ∀ {i : Nat} {x : D}, (keysL kd)[i]? = some x → ∃ s v, kv[i]? = some (.inr (Str.ofString s), v) ∧ x = .str s := by
  induction kd generalizing kv with
  | nil => intro i x e; simp [keysL] at e
  | cons p r ih =>
    cases q with
    | @cons s d v _ vs h q =>
      intro i x e
      cases i with
      | zero => simp [keysL] at e; exact ⟨s, v, rfl, e.symm⟩
      | succ i => simpa using ih q (i := i) (x := x) (by simpa [keysL] using e)
theorem itk_rel {a : Addr} {o : Obj} {kv : List (Key × V)} {kd : List (String × D)} (ha : H a = some (.frz o (.dK kv))) (n : S a = none) (q : RelKs K F H kd kv) : ItRel K ca F S H (keysL kd) (fun _ => True) (Itk a o kv) := by
  intro i F' S' H' f' r' _
  have h' := (f' a _ ha n).1
  have hl : (keysL kd).length = kv.length := by rw [keysL, List.length_map, ks_len q]
  refine ⟨fun d ed => ?_, fun hi => ⟨h', by omega⟩⟩
  obtain ⟨s, v, e1, e2⟩ := ks_at q ed
  subst e2
  refine ⟨⟨h', by rw [← hl]; exact (List.getElem?_eq_some_iff.mp ed).1⟩, fun x H'' y => ?_⟩
  obtain ⟨e3, k, v2, e4, e5⟩ := y
  subst e3
  rw [e1] at e4
  cases e4
  subst e5
  exact ⟨Fr.refl, r', .str s⟩
variable {g : DG} {tg : TG} {ds : DS} {t : TS}
theorem for_walk {J : It} {L : List D} {keep : Store → Prop} {D : DEnds} {V : Ends} (hg : SimG K B g tg) (hb : SimS K B ds t) (R : Rel K B F σ S σV H) (it : ItRel K B.ca F S H L keep J) (q : forL keep g ds L D σ S) (P : PostD K B F S H D V) : tFor (fun _ H R => R J H) tg t V σV H := by
  refine ⟨fun i m σV' H' => ∃ F' σ' S', m = L.length - i ∧ i ≤ L.length ∧ Fr F S H F' S' H' ∧ Rel K B F' σ' S' σV' H' ∧ forL keep g ds (L.drop i) D σ' S',
    ⟨L.length, F, σ, S, by omega, Nat.zero_le _, Fr.refl, R, q⟩, ?_⟩
  rintro i m σV2 H2 ⟨F2, σ2, S2, rfl, hl, f2, R2, q2⟩
  have kp : keep S2 := by
    cases e : L.drop i with
    | nil => rw [e] at q2; exact q2.1
    | cons x r => rw [e] at q2; exact q2.1
  obtain ⟨go, stop⟩ := it i F2 S2 H2 f2 R2.st kp
  by_cases h : i < L.length
  · have ed : L.drop i = L[i] :: L.drop (i + 1) := List.drop_eq_getElem_cons h
    rw [ed] at q2
    obtain ⟨hgo, yl⟩ := go L[i] (by simp [h])
    refine .inr ⟨hgo, fun σV' H' => ∃ F' σ' S', Fr F S H F' S' H' ∧ Rel K B F' σ' S' σV' H' ∧ forL keep g ds (L.drop (i + 1)) D σ' S', ?_, ?_⟩
    · rintro σV' H' ⟨F', σ', S', f', R', q'⟩
      exact ⟨L.length - (i + 1), by omega, F', σ', S', rfl, h, f', R', q'⟩
    · intro x H3 y
      obtain ⟨f3, r3, d3⟩ := yl x H3 y
      refine hg F2 σ2 S2 σV2 H3 L[i] x _ _ (R2.step f3 r3) d3 q2.2 fun F4 σ4 S4 σV4 H4 f4 R4 q4 => ?_
      have fz := f2.trans (f3.trans f4)
      refine hb F4 σ4 S4 σV4 H4 _ _ R4 q4 ⟨?_, P.rt.step fz, P.nx.step fz, ?_⟩
      · intro F' σ' S' σV' H' f' R' q'
        exact ⟨F', σ', S', fz.trans f', R', q'⟩
      · intro F' σ' S' σV' H' f' R' q'
        exact ⟨F', σ', S', fz.trans f', R', q'⟩
  · have ed : L.drop i = [] := List.drop_eq_nil_of_le (by omega)
    rw [ed] at q2
    exact .inl ⟨stop (by omega), P.nx F2 σ2 S2 σV2 H2 f2 R2 q2.2⟩
/-- for n in p.f[k]: p a name of the def, the field a tuple, the item a dict that stays -/
def dForK (j c : Nat) (f : String) (k : Nat) (i : Nat) (tb : DS) : DS := fun D σ S => match σ[j]? with
  | some (some x) => ofO (insD S c x) fun z => ofO (z.2.lookup f) fun h => ofO (asT h) fun l => ofO l[k]? fun y => match y with
    | .dic kd => forL (fun _ => True) (gN i) tb (keysL kd) D σ S
    | _ => False
  | _ => False

/-- where the path leads -/
theorem path_rel {j c k : Nat} {f : String} {x h : D} {p : Addr} {fs : List (String × D)} {l : List D} {kd : List (String × D)} (env : RelEnv K F H σ σV) (st : RelS K ca F S H) (e1 : σ[j]? = some (some x)) (e2 : insD S c x = some (p, fs)) (e3 : fs.lookup f = some h) (e4 : asT h = some l) (e5 : l[k]? = some (.dic kd)) :
    ∃ a dx fv t vs kv, σV[j]? = some (some (.ref p)) ∧ H p = some (.ins (ca c) dx fv) ∧ fv.lookup (Str.ofString f) = some (.ref t) ∧ SqT K H t vs ∧ vs[k]? = some (.ref a) ∧ Rd H a (.dK kv) ∧ S a = none ∧ RelKs K F H kd kv := by
  obtain ⟨v, hv, rv⟩ := env.2 j x e1
  obtain ⟨_, ev, _, dx, fv, hp, rf⟩ := insD_rel st rv e2
  obtain ⟨w, hw, rw'⟩ := (fs_lookup rf f).1 h e3
  obtain ⟨t, vs, et, ht, ql⟩ := asT_rel rw' e4
  obtain ⟨u, hu, ru⟩ := ql.get e5
  subst ev
  subst et
  cases ru with
  | @dic a kv _ hd hf hk => exact ⟨a, dx, fv, t, vs, kv, hv, hp, hw, ht, hu, hd, st.fS hf, hk⟩
theorem atI_nat {α : Type} {l : List α} {k : Nat} {x : α} (h : l[k]? = some x) : atI l (k : Int) = some x := by
  have hl := (List.getElem?_eq_some_iff.mp h).1
  unfold atI ixN
  simp [hl]
  exact (List.getElem?_eq_some_iff.mp h).2
def tPath (K : PySem.W.Frag) (j : Nat) (f : Str) (k : Nat) : TE := tOp (rIxT K) (tFld K (tVar j) f) (tC (.int k))
theorem path_at {j k : Nat} {f : Str} {p a t C dx : Addr} {fv : List (Str × V)} {vs : List V} (hv : σV[j]? = some (some (.ref p))) (hp : H p = some (.ins C dx fv)) (hc : Cls K C) (hn : NoAttr K C f) (hl : fv.lookup f = some (.ref t)) (ht : SqT K H t vs) (hk : vs[k]? = some (.ref a)) (q : QV (.ref a) H) : tPath K j f k σV H QV :=
  ⟨.ref p, hv, p, C, dx, fv, .ref t, rfl, hp, hc, hn, hl, t, vs, (k : Int), .ref a, rfl, rfl, ht, atI_nat hk, q⟩
theorem pds_forK {j c k i : Nat} {f : String} {n pn : Str} {np pp fp cp sp : Pos} {tt : Nat} {body : List Stmt} (how : PassesOwn (model X.prog X.w) X.A X.env X.xe) (hc : X.calm = true) (hN : X.N[j]? = some pn) (hcl : Cls X.K (B.ca c)) (hna : NoAttr X.K (B.ca c) (Str.ofString f))
    (hg : PG X (.Name n np) (gName i)) (hb : ∀ F0 S0 H0, PDSs X (B.at F0 S0 H0) body ds)
    (hv : Vis X.env.scope pn := by first | exact Or.inl rfl | exact Or.inr (Or.inl rfl) | exact Or.inr (Or.inr rfl)) (hd : (pn == ("__debug__" : Str)) = false := by decide) (hcd : (pn == ("__classdict__" : Str)) = false := by decide) :
    PDS X B (.For (.Name n np) (.Subscript (.Attribute (.Name pn pp) (Str.ofString f) fp) (.Constant (.int k) tt cp) sp) body [] pos) (dForK j c f k i ds) := by
  intro F σ S σV H De Ve R q P
  unfold dForK at q
  have he : PE X (.Subscript (.Attribute (.Name pn pp) (Str.ofString f) fp) (.Constant (.int k) tt cp) sp) (tPath X.K j (Str.ofString f) k) := pe_ix ix_tup (pe_fld (pe_var hN hv hd hcd) rfl) pe_int fun _ _ => rfl
  have hfor := ps_for how hc (pi_keys he) hg (pss_w (st := body)) (pos := pos)
  cases e1 : σ[j]? with
  | none => rw [e1] at q; exact q.elim
  | some y =>
  rw [e1] at q
  cases y with
  | none => exact q.elim
  | some x =>
  obtain ⟨⟨p, fs⟩, e2, q⟩ := ofO_ex q
  obtain ⟨h, e3, q⟩ := ofO_ex q
  obtain ⟨l, e4, q⟩ := ofO_ex q
  obtain ⟨y, e5, q⟩ := ofO_ex q
  cases y with
  | dic kd =>
    obtain ⟨a, dx, fv, t, vs, kv, hv', hp, hl, ht, hk, hd', na, rk⟩ := path_rel R.env R.st e1 e2 e3 e4 e5
    unfold wpS
    intro pins st I
    rcases hd' with hd' | ⟨o, hd'⟩
    · refine (ps_lock hfor).run pins st σV H Ve I ⟨a, .dK kv, hd', True.intro, fun od => ?_⟩
      obtain ⟨st1, all1⟩ := swap_dic (w' := .frz od (.dK kv)) (.inl rfl) (.inr ⟨od, rfl⟩) hd' na R.st
      have hpa : p ≠ a := fun z => by subst z; rw [hd'] at hp; cases hp
      have ht1 : SqT X.K (upd H a (.frz od (.dK kv))) t vs := by
        rcases ht with (ht | ⟨o, ht⟩) | ht
        · exact .inl (.inl (by rw [upd_ne fun z => by subst z; rw [hd'] at ht; cases ht]; exact ht))
        · exact .inl (.inr ⟨o, by rw [upd_ne fun z => by subst z; rw [hd'] at ht; cases ht]; exact ht⟩)
        · exact .inr ht
      refine path_at (H := upd H a (.frz od (.dK kv))) hv' (by rw [upd_ne hpa]; exact hp) hcl hna hl ht1 hk ⟨a, od, rfl, .inl ⟨kv, upd_same, ?_⟩⟩
      have R1 : Rel X.K (B.at F S (upd H a (.frz od (.dK kv)))) F σ S σV (upd H a (.frz od (.dK kv))) := ⟨swap_env all1 R.env, st1, Fr.refl⟩
      have back : ∀ {F' S' H'}, Fr F S (upd H a (.frz od (.dK kv))) F' S' H' → RelS X.K B.ca F' S' H' → H' a = some (.frz od (.dK kv)) ∧ Fr F S H F' S' (upd H' a (.dK kv)) ∧ RelS X.K B.ca F' S' (upd H' a (.dK kv)) ∧ (∀ {d : DL.D} {v : L2.V}, RelD X.K F' H' d v → RelD X.K F' (upd H' a (.dK kv)) d v) := fun {F' S' H'} f' r' => by
        obtain ⟨g1, g2, _⟩ := f' a _ upd_same na
        obtain ⟨s1, s2⟩ := swap_dic (w' := .dK kv) (.inr ⟨od, rfl⟩) (.inl rfl) g1 g2 r'
        exact ⟨g1, fr_unlock hd' na f', s1, s2⟩
      have stp : ∀ {Q : DEnv → Store → Prop} {QV : L2.St → Hp → Prop}, PostS X.K B F S H Q QV → PostS X.K (B.at F S (upd H a (.frz od (.dK kv)))) F S (upd H a (.frz od (.dK kv))) Q fun σ' H' => H' a = some (.frz od (.dK kv)) ∧ QV σ' (upd H' a (.dK kv)) := fun {Q QV} P0 F' σ' S' σV' H' f' R' q' => by
        obtain ⟨g1, g2, g3, g4⟩ := back f' R'.st
        exact ⟨g1, P0 F' σ' S' σV' _ g2 ⟨swap_env g4 R'.env, g3, R.fr.trans g2⟩ q'⟩
      exact for_walk (g := gN i) (t := wpSs X body) (V := ⟨fun σ' H' => H' a = some (.frz od (.dK kv)) ∧ Ve.nx σ' (upd H' a (.dK kv)), fun v H' => H' a = some (.frz od (.dK kv)) ∧ Ve.rt v (upd H' a (.dK kv)), fun σ' H' => H' a = some (.frz od (.dK kv)) ∧ Ve.bk σ' (upd H' a (.dK kv)), fun σ' H' => H' a = some (.frz od (.dK kv)) ∧ Ve.ct σ' (upd H' a (.dK kv))⟩) sim_gN (hb F S _) R1 (itk_rel upd_same na (swap_ks all1 rk)) q
        ⟨stp P.nx, fun x v F' S' H' f' r' d' q' => by
          obtain ⟨g1, g2, g3, g4⟩ := back f' r'
          exact ⟨g1, P.rt x v F' S' _ g2 g3 (g4 d') q'⟩, stp P.bk, stp P.ct⟩
    · refine hfor.run pins st σV H Ve I ?_
      refine path_at hv' hp hcl hna hl ht hk ⟨a, o, rfl, .inl ⟨kv, hd', ?_⟩⟩
      have R1 : Rel X.K (B.at F S H) F σ S σV H := ⟨R.env, R.st, Fr.refl⟩
      have stp : ∀ {Q : DEnv → Store → Prop} {QV : L2.St → Hp → Prop}, PostS X.K B F S H Q QV → PostS X.K (B.at F S H) F S H Q QV := fun {Q QV} P0 F' σ' S' σV' H' f' R' q' => P0 F' σ' S' σV' _ f' ⟨R'.env, R'.st, R.fr.trans f'⟩ q'
      exact for_walk (g := gN i) (t := wpSs X body) (V := Ve) sim_gN (hb F S _) R1 (itk_rel hd' na rk) q ⟨stp P.nx, P.rt, stp P.bk, stp P.ct⟩
  | _ => exact q.elim
/-! ### {k: v for n in d}, d a name of the def -/
def dcL (i : Nat) (dk dv : DE) (σ : DEnv) : List D → List (String × D) → Store → (List (String × D) → Store → Prop) → Prop
  | [], acc, S, Q => Q acc S
  | x :: r, acc, S, Q => dk (σ.set i (some x)) S fun y S1 => dv (σ.set i (some x)) S1 fun z S2 => match y with
    | .str s => acc.length < lim ∧ dcL i dk dv σ r (putKD s z acc) S2 Q
    | _ => False
def dDcM (j i : Nat) (dk dv : DE) (vs : List Nat) : DE := fun σ S Q => match σ[j]? with
  | some (some (.dic kd)) => dcL i dk dv (wipeD σ vs) (keysL kd) [] S fun acc S2 => ∀ p, S2 p = none → Q (.obj p) (put S2 p (.dic acc))
  | _ => False
theorem dc_walk {a i : Nat} {o : Obj} {kv : List (Key × V)} {kd : List (String × D)} {dk dv : DE} {tk tv : TE} {vs : List Nat} {Qd : List (String × D) → Store → Prop} {QV : V → Hp → Prop} (hsub : i ∈ vs) (hk : SimE K B dk tk) (hv : SimE K B dv tv) (R : Rel K B F σ S σV H)
    (ha : H a = some (.frz o (.dK kv))) (na : S a = none) (rk : RelKs K F H kd kv) (q : dcL i dk dv (wipeD σ vs) (keysL kd) [] S Qd)
    (done : ∀ (p : Addr) acc accV F' S' H', H p = none → Fr F S H F' S' H' → RelS K B.ca F' S' H' → S' p = none → ¬ F' p → H' p = some (.dK accV) → RelKs K F' H' acc accV → Qd acc S' → QV (.ref p) H')
    (p : Addr) (hp : H p = none) : ∃ W : Nat → Nat → Hp → Prop, (∃ m, W 0 m (upd H p (.dK []))) ∧ ∀ i' m H, W i' m H →
      ((Itk a o kv).stop i' H ∧ QV (.ref p) H) ∨ ((Itk a o kv).go i' H ∧ ∃ Nx : Hp → Prop, (∀ H', Nx H' → ∃ m', m' < m ∧ W (i' + 1) m' H') ∧ ∀ x H', (Itk a o kv).yld i' H x H' → gName i x (L2.wipe σV vs) H' fun σ2 H2 => L2.wipe σ2 vs = L2.wipe σV vs ∧ tYes σ2 H2 fun b H3 =>
        if b = true then tk σ2 H3 fun y H4 => tv σ2 H4 fun z H5 => ∃ kvs k, y = kV k ∧ H5 p = some (.dK kvs) ∧ kvs.length < sizeLine ∧ Nx (upd H5 p (.dK (putK kvs k z))) else Nx H3) := by
  have npF : ¬ F p := fun h => by obtain ⟨_, e⟩ := R.st.fz p h; rw [hp] at e; cases e
  have it := itk_rel (ca := B.ca) ha na rk
  refine ⟨fun i' m H' => ∃ acc accV F' S', m = (keysL kd).length - i' ∧ i' ≤ (keysL kd).length ∧ Fr F S H F' S' H' ∧ RelS K B.ca F' S' H' ∧ S' p = none ∧ ¬ F' p ∧ H' p = some (.dK accV) ∧ RelKs K F' H' acc accV ∧ dcL i dk dv (wipeD σ vs) ((keysL kd).drop i') acc S' Qd,
    ⟨(keysL kd).length, [], [], F, S, by omega, Nat.zero_le _, fr_newD hp, R.st.newD hp, R.st.free hp, npF, upd_same, .nil, q⟩, ?_⟩
  rintro i' m H2 ⟨acc, accV, F2, S2, rfl, hl, f2, r2, n2, nf2, h2, rd2, q2⟩
  obtain ⟨go, stop⟩ := it i' F2 S2 H2 f2 r2 trivial
  by_cases h : i' < (keysL kd).length
  · have ed : (keysL kd).drop i' = (keysL kd)[i'] :: (keysL kd).drop (i' + 1) := List.drop_eq_getElem_cons h
    rw [ed] at q2
    obtain ⟨hgo, yl⟩ := go (keysL kd)[i'] (by simp [h])
    refine .inr ⟨hgo, fun H' => ∃ acc accV F' S', Fr F S H F' S' H' ∧ RelS K B.ca F' S' H' ∧ S' p = none ∧ ¬ F' p ∧ H' p = some (.dK accV) ∧ RelKs K F' H' acc accV ∧ dcL i dk dv (wipeD σ vs) ((keysL kd).drop (i' + 1)) acc S' Qd, ?_, ?_⟩
    · rintro H' ⟨acc', accV', F', S', f', r', n', nf', h', rd', q'⟩
      exact ⟨(keysL kd).length - (i' + 1), by omega, acc', accV', F', S', rfl, h, f', r', n', nf', h', rd', q'⟩
    · intro x H3 y
      obtain ⟨f3, r3, d3⟩ := yl x H3 y
      have z := ct_own (K := K) (vs := vs) (c := .one i) (x := x) (σ := σV) (H := H3) (Q := fun _ _ => True) (by simpa [CT.is] using hsub) trivial
      refine ⟨z.1, ?_⟩
      have R3 : Rel K B F2 (wipeD σ vs) S2 (L2.wipe σV vs) H3 := (R.wipe vs).step (f2.trans f3) r3
      have R4 : Rel K B F2 ((wipeD σ vs).set i (some (keysL kd)[i'])) S2 ((L2.wipe σV vs).set i (some x)) H3 := R3.set d3
      show tk _ H3 _
      refine hk F2 _ S2 _ H3 _ _ R4 q2 fun y' yv F5 S5 H5 f5 r5 d5 q5 => ?_
      refine hv F5 _ S5 _ H5 _ _ (R4.step f5 r5) q5 fun z' zv F6 S6 H6 f6 r6 d6 q6 => ?_
      have f36 := f3.trans (f5.trans f6)
      obtain ⟨h6, n6, i6⟩ := f36 p _ h2 n2
      have nf6 : ¬ F6 p := fun z => nf2 (i6.mp z)
      have rd6 := rd2.mono r2 f36
      cases d5 with
      | str s =>
        obtain ⟨r7, m7⟩ := hidden_step (w' := .dK (putK accV (.inr (Str.ofString s)) zv)) r6 h6 n6 nf6 (fun _ z => by cases z) (fun _ _ z => by cases z)
        have q6 : acc.length < lim ∧ dcL i dk dv (wipeD σ vs) ((keysL kd).drop (i' + 1)) (putKD s z' acc) S6 Qd := q6
        refine ⟨accV, .inr (Str.ofString s), rfl, h6, by rw [← ks_len rd6, lim_eq]; exact q6.1, putKD s z' acc, putK accV (.inr (Str.ofString s)) zv, F6, S6, ?_, r7, n6, nf6, upd_same, swap_ks m7 (ks_put rd6 d6), q6.2⟩
        intro c' o' e' n'
        obtain ⟨e1, e2, e3⟩ := (f2.trans f36) c' o' e' n'
        exact ⟨by rw [upd_ne (ne_of_none e' hp)]; exact e1, e2, e3⟩
      | _ => exact q6.elim
  · have ed : (keysL kd).drop i' = [] := List.drop_eq_nil_of_le (by omega)
    rw [ed] at q2
    exact .inl ⟨stop (by omega), done p acc accV F2 S2 H2 hp f2 r2 n2 nf2 h2 rd2 q2⟩
variable {kx vx : Expr} {scope : Scope} {own : List (Str × Nat)} {dk dv : DE}
theorem pd_dcM {j i : Nat} {n pn : Str} {np pp : Pos} (hc : X.calm = true) (hN : X.N.Nodup) (hj : X.N[j]? = some pn) (ok : BlkOk X.N X.env.scope scope own)
    (hg : ∀ (s : Shared) (H : Hp) (C : Addr) (cl : List (Str × Addr)) (fp : List Addr), PG (blkOf X scope s H C cl fp) (.Name n np) (gName i))
    (hk : ∀ F0 S0 H0 (s : Shared) (H : Hp) (C : Addr) (cl : List (Str × Addr)) (fp : List Addr), PD (blkOf X scope s H C cl fp) (B.at F0 S0 H0) kx dk)
    (hv : ∀ F0 S0 H0 (s : Shared) (H : Hp) (C : Addr) (cl : List (Str × Addr)) (fp : List Addr), PD (blkOf X scope s H C cl fp) (B.at F0 S0 H0) vx dv)
    (hsub : i ∈ own.map (·.2) := by decide)
    (hvs : Vis X.env.scope pn := by first | exact Or.inl rfl | exact Or.inr (Or.inl rfl) | exact Or.inr (Or.inr rfl)) (hd : (pn == ("__debug__" : Str)) = false := by decide) (hcd : (pn == ("__classdict__" : Str)) = false := by decide) :
    PD X B (.DictComp kx vx [⟨.Name n np, .Name pn pp, [], 0⟩] scope pos) (dDcM j i dk dv (own.map (·.2))) := by
  intro F σ S σV H Q QV R q P
  unfold dDcM at q
  have he : PE X (.Name pn pp) (tVar j) := pe_var hj hvs hd hcd
  have hdc := pe_dc (pos := pos) hc hN (pi_keys (tg := .Name n np) he) ok hg (fun _ _ _ _ _ => pts_nil) (pe_bE (X := X) (elt := kx)) (pe_bE (X := X) (elt := vx))
  cases e1 : σ[j]? with
  | none => rw [e1] at q; exact q.elim
  | some y =>
  rw [e1] at q
  cases y with
  | none => exact q.elim
  | some x =>
  cases x with
  | dic kd =>
    obtain ⟨v, hv', rv⟩ := R.env.2 j _ e1
    cases rv with
    | @dic a kv _ hd' hf rk =>
      have na := R.st.fS hf
      have core : ∀ (H1 : Hp) (o : Obj) (Qd : VK), H1 a = some (.frz o (.dK kv)) → RelEnv X.K F H1 σ σV → RelS X.K B.ca F S H1 → RelKs X.K F H1 kd kv → PostE X.K B.ca F S H1 Q Qd → tDc (iKeys (tVar j)) (gName i) tYes (bE X scope kx) (bE X scope vx) (own.map (·.2)) σV H1 Qd := fun H1 o Qd h1 env1 st1 rk1 P1 => by
        refine ⟨.ref a, hv', a, o, rfl, .inl ⟨kv, h1, fun p hp => ?_⟩⟩
        have R1 : Rel X.K (B.at F S H1) F σ S σV H1 := ⟨env1, st1, Fr.refl⟩
        have sk : SimE X.K (B.at F S H1) dk (bE X scope kx) := fun F' σ' S' σV' H' Q' QV' R' q' P' s H0 C cl fp => hk F S H1 s H0 C cl fp F' σ' S' σV' H' Q' QV' R' q' P'
        have sv : SimE X.K (B.at F S H1) dv (bE X scope vx) := fun F' σ' S' σV' H' Q' QV' R' q' P' s H0 C cl fp => hv F S H1 s H0 C cl fp F' σ' S' σV' H' Q' QV' R' q' P'
        refine dc_walk (B := B.at F S H1) hsub sk sv R1 h1 na rk1 q ?_ p hp
        intro p acc accV F' S' H' hp f' r' n' nf' h' rd' q'
        refine P1 _ _ F' (put S' p (.dic acc)) H' (fun b o e n => ?_) ⟨fun b w e => ?_, r'.fz⟩ (.obj p) (q' p n')
        · obtain ⟨e1, e2, e3⟩ := f' b o e n
          exact ⟨e1, by rw [put_ne (ne_of_none e hp)]; exact e2, e3⟩
        · by_cases z : b = p
          · subst z
            rw [put_same] at e
            cases e
            exact ⟨nf', accV, h', rd'⟩
          · rw [put_ne z] at e
            exact r'.ob b w e
      unfold wpE
      intro pins st I
      rcases hd' with hd' | ⟨o, hd'⟩
      · refine (pe_lock hdc).run pins st σV H QV I ⟨a, .dK kv, hd', True.intro, fun od => ?_⟩
        obtain ⟨st1, all1⟩ := swap_dic (w' := .frz od (.dK kv)) (.inl rfl) (.inr ⟨od, rfl⟩) hd' na R.st
        refine core _ od _ upd_same (swap_env all1 R.env) st1 (swap_ks all1 rk) fun x v F' S' H' f' r' d' q' => ?_
        obtain ⟨g1, g2, _⟩ := f' a _ upd_same na
        obtain ⟨s1, s2⟩ := swap_dic (w' := .dK kv) (.inr ⟨od, rfl⟩) (.inl rfl) g1 g2 r'
        exact ⟨g1, P x v F' S' _ (fr_unlock hd' na f') s1 (s2 d') q'⟩
      · exact hdc.run pins st σV H QV I (core H o QV hd' R.env R.st rk P)
  | _ => exact q.elim
/-! ### the dict in a field stays from here on -/
def dFrzF (c : Nat) (f : String) (d : DE) : DE := fun σ S Q => d σ S fun x S1 => ofO (insD S1 c x) fun z => ofO (z.2.lookup f) fun y => match y with
  | .obj t => match S1 t with
    | some (.dic kd) => Q x (rid (put S1 z.1 (.ins c (putFD f (.dic kd) z.2))) t)
    | _ => False
  | _ => False
theorem putF_same {f : Str} {v : V} : ∀ {fv : List (Str × V)}, fv.lookup f = some v → putF f v fv = fv
  | [], h => by cases h
  | (g, u) :: r, h => by
    rw [List.lookup_cons] at h
    by_cases e : g = f
    · subst e
      simp at h
      subst h
      show (if g = g then (g, u) :: r else _) = _
      rw [if_pos rfl]
    · have ne : (f == g) = false := by simpa using fun z => e z.symm
      rw [ne] at h
      show (if g = f then _ else (g, u) :: putF f v r) = _
      rw [if_neg e, putF_same h]
theorem sim_frzF {c : Nat} {f : String} {t : TE} (h : SimE K B da t) : SimE K B (dFrzF c f da) t := by
  intro F σ S σV H Q QV R q P
  refine h F σ S σV H _ _ R q fun x v F1 S1 H1 f1 r1 d1 q1 => ?_
  obtain ⟨⟨p, fs⟩, e1, q1⟩ := ofO_ex q1
  obtain ⟨y, e2, q1⟩ := ofO_ex q1
  obtain ⟨ex, ev, es, dx, fv, hp, rf⟩ := insD_rel r1 d1 e1
  subst ex
  obtain ⟨w, hw, rw'⟩ := (fs_lookup rf f).1 y e2
  cases rw' with
  | obj t =>
    dsimp only at q1
    cases e : S1 t with
    | none => rw [e] at q1; exact q1.elim
    | some o =>
      rw [e] at q1
      obtain ⟨_, ro⟩ := r1.ob t o e
      cases o with
      | dic kd =>
        obtain ⟨kv, hv, rv⟩ := ro
        have hne : p ≠ t := fun z => by rw [z, e] at es; cases es
        have r2 := r1.frz e
        have g2 := fr_frz (F := F1) (H := H1) e
        have rt : RelD K (ins F1 t) H1 (.dic kd) (.ref t) := .dic (.inl hv) (.inl rfl) (rv.mono r1 g2)
        have same : upd H1 p (.ins (B.ca c) dx fv) = H1 := by
          funext b
          by_cases z : b = p
          · subst z; rw [upd_same, hp]
          · rw [upd_ne z]
        have rf2 : RelFs K (ins F1 t) H1 (putFD f (.dic kd) fs) (putF (Str.ofString f) (.ref t) fv) := fs_put (rf.mono r1 g2) rt
        have ep : putF (Str.ofString f) (.ref t) fv = fv := putF_same hw
        rw [ep] at rf2
        have es2 : rid S1 t p = some (.ins c fs) := by rw [rid_ne hne]; exact es
        have w3 := fr_write (F := ins F1 t) (H := H1) (S := rid S1 t) (o' := .ins c (putFD f (.dic kd) fs)) (u := .ins (B.ca c) dx fv) es2
        have r3 := r2.write (o' := .ins c (putFD f (.dic kd) fs)) (u := .ins (B.ca c) dx fv) es2 ⟨dx, fv, upd_same, rf2.mono r2 w3⟩
        rw [same] at w3 r3
        have eS : rid (put S1 p (.ins c (putFD f (.dic kd) fs))) t = put (rid S1 t) p (.ins c (putFD f (.dic kd) fs)) := by
          funext b
          by_cases z : b = t
          · subst z; rw [rid_same, put_ne (Ne.symm hne), rid_same]
          · rw [rid_ne z]
            by_cases y : b = p
            · subst y; rw [put_same, put_same]
            · rw [put_ne y, put_ne y, rid_ne z]
        have q1 : Q (.obj p) (rid (put S1 p (.ins c (putFD f (.dic kd) fs))) t) := q1
        have q1 := eS ▸ q1
        exact P _ _ _ _ H1 (f1.trans (g2.trans w3)) r3 (by rw [ev]; exact .obj p) q1
      | _ => exact q1.elim
  | _ => exact q1.elim
theorem pd_frzF {c : Nat} {f : String} (h : PD X B e da) : PD X B e (dFrzF c f da) := sim_frzF h
end
end DL
/-! DL20: a module's dicts with text keys; the head's Hook with them. -/
namespace DL
open PySem PySem.Spec PyProof.Rows L2
/-- a dict of the module: what stands at some keys, what does not stand in it -/
def KTab (w : World) (K : PySem.W.Frag) (mg : Str → Option Value) (x : Str) (kvs : List (String × D)) (no : List String) : Prop :=
  ∃ a es n, mg x = some (.ref a) ∧ KDict K w a es n ∧ (∀ k d, kvs.lookup k = some d → ∃ u v, PySem.W.nsIn K a (Str.ofString k) = some (some u) ∧ RelV v u ∧ ∀ F H, RelD K F H d v) ∧ ∀ k ∈ no, PySem.W.nsIn K a (Str.ofString k) = some none
def dKIx (kvs : List (String × D)) (d : DE) : DE := fun σ S Q => d σ S fun x S1 => match x with
  | .str s => ofO (kvs.lookup s) fun y => Q y S1
  | _ => False
def dKIn (neg : Bool) (kvs : List (String × D)) (no : List String) (d : DE) : DE := fun σ S Q => d σ S fun x S1 => match x with
  | .str s => match kvs.lookup s with
    | some _ => Q (.bl (!neg)) S1
    | none => s ∈ no ∧ Q (.bl neg) S1
  | _ => False
section
variable {K : PySem.W.Frag} {F F' : Addr → Prop} {S S' : Store} {H H' : Hp} {B : Bc} {Q : QE} {QV : VK} {X : Cx} {σ : DEnv} {σV : L2.St} {da : DE} {e : Expr} {pos p2 : Pos} {x : Str} {kvs : List (String × D)} {no : List String}
theorem pd_kix (T : KTab X.w X.K X.mg x kvs no) (hg : Gl X x) (he : PD X B e da) (hs : PlainIx e := by exact fun _ _ => rfl) (hd : (x == ("__debug__" : Str)) = false := by decide) : PD X B (.Subscript (.Name x p2) e pos) (dKIx kvs da) := by
  obtain ⟨a, es, n, hm, D, hv, hno⟩ := T
  refine pd_of (pe_ix (ix_kdict (X := X)) (pe_glob (v := .ref a) hg hm rfl hd) pe_w hs) fun F σ S σV H Q QV R q P => ?_
  refine he F σ S σV H _ _ R q fun y v F1 S1 H1 f1 r1 d1 q1 => ?_
  cases d1 with
  | str s =>
    obtain ⟨z, ez, q1⟩ := ofO_ex q1
    obtain ⟨u, v, e1, e2, e3⟩ := hv s z ez
    exact ⟨a, Str.ofString s, v, rfl, rfl, ⟨es, n, u, D.at_, D.lit, e1, e2⟩, P z v F1 S1 H1 f1 r1 (e3 _ _) q1⟩
  | _ => exact q1.elim
theorem sim_kin {a : Addr} {neg : Bool} (hv : ∀ k d, kvs.lookup k = some d → ∃ u v, PySem.W.nsIn K a (Str.ofString k) = some (some u) ∧ RelV v u ∧ ∀ F H, RelD K F H d v) (hno : ∀ k ∈ no, PySem.W.nsIn K a (Str.ofString k) = some none) {t : TE} (he : SimE K B da t) :
    SimE K B (dKIn neg kvs no da) (tOp (fun x y H Q => ∃ (z : Str) (r : Option Value), x = .str z ∧ y = .ref a ∧ PySem.W.nsIn K a z = some r ∧ Q (.bl (if neg then !r.isSome else r.isSome)) H) t (tC (.ref a))) := by
  intro F σ S σV H Q QV R q P
  refine he F σ S σV H _ _ R q fun y v F1 S1 H1 f1 r1 d1 q1 => ?_
  cases d1 with
  | str s =>
    dsimp only at q1
    cases ez : kvs.lookup s with
    | some z =>
      rw [ez] at q1
      obtain ⟨u, v, e1, _⟩ := hv s z ez
      refine ⟨Str.ofString s, some u, rfl, rfl, e1, P (.bl (!neg)) _ F1 S1 H1 f1 r1 ?_ q1⟩
      cases neg <;> exact .bl _
    | none =>
      rw [ez] at q1
      refine ⟨Str.ofString s, none, rfl, rfl, hno s q1.1, P (.bl neg) _ F1 S1 H1 f1 r1 ?_ q1.2⟩
      cases neg <;> exact .bl _
  | _ => exact q1.elim
theorem op_kin {a : Addr} {es : Array DictEntry} {n : Nat} (D : KDict X.K X.w a es n) : OpR X (compareOp .In) (fun x y H Q => ∃ (z : Str) (r : Option Value), x = .str z ∧ y = .ref a ∧ PySem.W.nsIn X.K a z = some r ∧ Q (.bl (if false = true then !r.isSome else r.isSome)) H) := op_in_kd D
theorem op_knin {a : Addr} {es : Array DictEntry} {n : Nat} (D : KDict X.K X.w a es n) : OpR X (compareOp .NotIn) (fun x y H Q => ∃ (z : Str) (r : Option Value), x = .str z ∧ y = .ref a ∧ PySem.W.nsIn X.K a z = some r ∧ Q (.bl (if true = true then !r.isSome else r.isSome)) H) := op_notIn_kd D
theorem pd_kin (T : KTab X.w X.K X.mg x kvs no) (hg : Gl X x) (he : PD X B e da) (hd : (x == ("__debug__" : Str)) = false := by decide) (hmk : behindInMarks .In (.Name x p2) = false := by rfl) : PD X B (.Compare e [.In] [.Name x p2] pos) (dKIn false kvs no da) := by
  obtain ⟨a, es, n, hm, D, hv, hno⟩ := T
  exact pd_of (pe_cmpR (op_kin D) pe_w (pe_glob (v := .ref a) hg hm rfl hd) hmk) (sim_kin hv hno he)
theorem pdt_kin (T : KTab X.w X.K X.mg x kvs no) (hg : Gl X x) (he : PD X B e da) (hd : (x == ("__debug__" : Str)) = false := by decide) (hmk : behindInMarks .In (.Name x p2) = false := by rfl) : PDT X B (.Compare e [.In] [.Name x p2] pos) (dTest (dKIn false kvs no da)) := by
  obtain ⟨a, es, n, hm, D, hv, hno⟩ := T
  exact pdt_of (pt_cmpR (op_kin D) pe_w (pe_glob (v := .ref a) hg hm rfl hd) hmk) (sim_test (sim_kin hv hno he))
theorem pdt_knin (T : KTab X.w X.K X.mg x kvs no) (hg : Gl X x) (he : PD X B e da) (hd : (x == ("__debug__" : Str)) = false := by decide) (hmk : behindInMarks .NotIn (.Name x p2) = false := by rfl) : PDT X B (.Compare e [.NotIn] [.Name x p2] pos) (dTest (dKIn true kvs no da)) := by
  obtain ⟨a, es, n, hm, D, hv, hno⟩ := T
  exact pdt_of (pt_cmpR (op_knin D) pe_w (pe_glob (v := .ref a) hg hm rfl hd) hmk) (sim_test (sim_kin hv hno he))
@[simp] theorem r_kix : dKIx kvs da σ S Q = da σ S fun x S1 => match x with
  | .str s => ofO (kvs.lookup s) fun y => Q y S1
  | _ => False := propext Iff.rfl
@[simp] theorem r_kin {neg : Bool} : dKIn neg kvs no da σ S Q = da σ S fun x S1 => match x with
  | .str s => match kvs.lookup s with
    | some _ => Q (.bl (!neg)) S1
    | none => s ∈ no ∧ Q (.bl neg) S1
  | _ => False := propext Iff.rfl
end
/-- a constant's value as the head looks at it -/
structure DvD (K : PySem.W.Frag) (v : He.Dv) (d : D) : Prop where
  rel : ∀ F H, RelD K F H d (v.v K)
theorem dvd_str {K : PySem.W.Frag} (s : String) : DvD K (.str (Str.ofString s)) (.str s) := ⟨fun _ _ => .str s⟩
def valsD (K : PySem.W.Frag) : List (Str × He.Dv) → List (String × D) → Prop
  | [], [] => True
  | (k, v) :: r, (s, d) :: q => k = Str.ofString s ∧ DvD K v d ∧ valsD K r q
  | _, _ => False
def noB (K : PySem.W.Frag) (a : Addr) (no : List String) : Bool := no.all fun s => decide (PySem.W.nsIn K a (Str.ofString s) = some none)
theorem ktab_of {w : World} {K : PySem.W.Frag} {mg : Str → Option Value} {x : Str} {kvs : List (String × D)} {no : List String} {vs : List (Str × He.Dv)} (hm : mg x = some (.ref (He.ga K x))) (Dk : ∃ es n, KDict K w (He.ga K x) es n)
    (hv : He.valsB K (He.ga K x) vs = true) (hd : valsD K vs kvs) (hn : noB K (He.ga K x) no = true) : KTab w K mg x kvs no := by
  obtain ⟨es, n, Dk⟩ := Dk
  refine ⟨_, es, n, hm, Dk, fun k d e => ?_, fun k hk => ?_⟩
  · have key : ∀ (vs : List (Str × He.Dv)) (kvs : List (String × D)), valsD K vs kvs → (∀ q ∈ vs, ∃ u, PySem.W.nsIn K (He.ga K x) q.1 = some (some u) ∧ RelV (q.2.v K) u) → kvs.lookup k = some d → ∃ u v, PySem.W.nsIn K (He.ga K x) (Str.ofString k) = some (some u) ∧ RelV v u ∧ ∀ F H, RelD K F H d v := by
      intro vs
      induction vs with
      | nil => intro kvs h _ e; cases kvs with | nil => cases e | cons => exact h.elim
      | cons p r ih =>
        obtain ⟨pk, pv⟩ := p
        intro kvs h hall e
        cases kvs with
        | nil => exact h.elim
        | cons q l =>
          obtain ⟨s, d'⟩ := q
          obtain ⟨h1, h2, h3⟩ := h
          subst h1
          rw [List.lookup_cons] at e
          by_cases c : k = s
          · subst c
            simp at e
            subst e
            obtain ⟨u, e1, e2⟩ := hall (Str.ofString k, pv) (by simp)
            exact ⟨u, _, e1, e2, h2.rel⟩
          · rw [beq_eq_false_iff_ne.mpr c] at e
            exact ih l h3 (fun q hq => hall q (List.mem_cons_of_mem _ hq)) e
    exact key vs kvs hd (fun q hq => He.valsB_ok hv hq) e
  · exact of_decide_eq_true (List.all_eq_true.mp hn k hk)
/-! ### the Hook: one more test, and tables -/
abbrev AlY : Type := (He.AlD × Bool) × List (Option (List (Option (Str × Int))))
def obsY (fa : List He.Fa) (fn : List He.DefD) (ex : PySem.W.Frag → Bool) (ts : List He.Tab) (K : PySem.W.Frag) : AlY := (obsZ fa fn ex K, ts.map fun t => He.dicW K (t.1 K))
def valY (fn : List He.DefD) (ts : List He.Tab) (w : World) : AlY := ((He.valD fn, true), ts.map fun t => some (He.keysIn w.params t.2))
def SaysY (fa : List He.Fa) (fn : List He.DefD) (ex : PySem.W.Frag → Bool) (ts : List He.Tab) (w : World) (K : PySem.W.Frag) : Prop := obsY fa fn ex ts K = valY fn ts w
def obsYG (n : Nat) (fa : List He.Fa) (fn : List He.DefD) (ex : PySem.W.Frag → Bool) (ts : List He.Tab) (g : Addr → Option Obj) : AlY := obsY fa fn ex ts (He.frG g (He.asD g n))
def hookY (n : Nat) (fa : List He.Fa) (fn : List He.DefD) (ex : PySem.W.Frag → Bool) (ts : List He.Tab) : PySem.W.Hook where
  α := AlY
  obs := fun s => obsYG n fa fn ex ts s.heap.get?
  val := fun w => valY fn ts w
  says := fun w h => ∃ K : PySem.W.Frag, K.In h ∧ SaysY fa fn ex ts w K
  of := fun _ _ e => ⟨_, He.frG_in, e⟩
  keeps := fun _ _ _ ⟨K, hK, c⟩ k => ⟨K, PySem.W.Frag.In.keeps hK k, c⟩
theorem obsYG_eq {n : Nat} {fa : List He.Fa} {fn : List He.DefD} {ex : PySem.W.Frag → Bool} {ts : List He.Tab} {g : Addr → Option Obj} {s : Shared} (h : ∀ a, g a = s.heap.get? a) : obsYG n fa fn ex ts g = (hookY n fa fn ex ts).obs s := by
  have e : g = s.heap.get? := funext h
  rw [e] <;> rfl
theorem SaysY.z {fa : List He.Fa} {fn : List He.DefD} {ex : PySem.W.Frag → Bool} {ts : List He.Tab} {w : World} {K : PySem.W.Frag} (c : SaysY fa fn ex ts w K) : SaysZ fa fn ex K :=
  ⟨congrArg (fun z : AlY => z.1.1) c, congrArg (fun z : AlY => z.1.2) c⟩
theorem SaysY.tab {fa : List He.Fa} {fn : List He.DefD} {ex : PySem.W.Frag → Bool} {ts : List He.Tab} {w : World} {K : PySem.W.Frag} (c : SaysY fa fn ex ts w K) (i : Nat) {t : He.Tab} (h : ts[i]? = some t := by rfl) : ∃ es n, KDict K w (t.1 K) es n := by
  have e : ts.map (fun t => He.dicW K (t.1 K)) = ts.map fun t => some (He.keysIn w.params t.2) := congrArg (fun z : AlY => z.2) c
  have e2 : (ts.map fun t => He.dicW K (t.1 K))[i]? = (ts.map fun t => some (He.keysIn w.params t.2))[i]? := by rw [e]
  rw [List.getElem?_map, List.getElem?_map, h] at e2
  exact He.dicW_ok (Option.some.inj e2)
end DL
/-! DL21: a field as a target of unpacking. -/
namespace DL
open PySem PySem.Spec PyProof.Rows L2
def gFldV (K : PySem.W.Frag) (to_ : TE) (f : Str) : TG := fun y σ H Q => to_ σ H fun x H2 => ∃ a C dx fs, x = .ref a ∧ H2 a = some (.ins C dx fs) ∧ Cls K C ∧ NoAttr K C f ∧ fs.length < 1000 ∧ Q σ (upd H2 a (.ins C dx (putF f y fs)))
theorem pg_fld {X : Cx} {o : Expr} {f : Str} {to_ : TE} {pos : Pos} (ho : PE X o to_) : PG X (.Attribute o f pos) (gFldV X.K to_ f) := by
  refine ⟨fun pins s σ H v u Q I r h => ?_⟩
  rw [assign_Attribute]
  refine wpAny_bind (wpAny_holding (thn (ho.run pins s σ H _ I h) fun ov s1 ⟨x, H1, I1, r1, a, C, dx, fs, ex, ea, c, n, l, q⟩ => ?_))
  subst ex
  obtain rfl : ov = Value.ref a := r1
  refine wpAny_bind (wpAny_standAt (wpAny_bind (wpAny_holding ?_)))
  exact setattr_ok I1 ea c n l r fun s3 I3 => wpAny_release ⟨σ, _, I3, q⟩
def gFd (c : Nat) (f : String) (d : DE) : DG := fun y σ S Q => d σ S fun x S1 => ofO (insD S1 c x) fun z => z.2.length < 1000 ∧ Q σ (put S1 z.1 (.ins c (putFD f y z.2)))
section
variable {K : PySem.W.Frag} {B : Bc} {X : Cx} {da : DE} {o : Expr} {pos : Pos}
theorem sim_gFd {c : Nat} {f : String} {to_ : TE} (hc : Cls K (B.ca c)) (hn : NoAttr K (B.ca c) (Str.ofString f)) (ho : SimE K B da to_) : SimG K B (gFd c f da) (gFldV K to_ (Str.ofString f)) := by
  intro F σ S σV H y u Q QV R ry q P
  refine ho F σ S σV H _ _ R q fun x v F2 S2 H2 f2 r2 d2 q2 => ?_
  obtain ⟨⟨p, fs⟩, ei, hl, q2⟩ := ofO_ex q2
  obtain ⟨_, ev, hS, dx, fv, hH, rf⟩ := insD_rel r2 d2 ei
  refine ⟨p, B.ca c, dx, fv, ev, hH, hc, hn, by rw [← fs_len rf]; exact hl, ?_⟩
  have fw := fr_write (F := F2) (H := H2) (o' := .ins c (putFD f y fs)) (u := .ins (B.ca c) dx (putF (Str.ofString f) u fv)) hS
  have rw2 := r2.write (o' := .ins c (putFD f y fs)) (u := .ins (B.ca c) dx (putF (Str.ofString f) u fv)) hS ⟨dx, _, upd_same, (fs_put rf (ry.mono R.st f2)).mono r2 fw⟩
  exact P F2 σ _ σV _ (f2.trans fw) (R.step (f2.trans fw) rw2) q2
theorem pdg_fld {c : Nat} {f : String} (ho : PD X B o da) (hc : Cls X.K (B.ca c)) (hn : NoAttr X.K (B.ca c) (Str.ofString f)) : PDG X B (.Attribute o (Str.ofString f) pos) (gFd c f da) := pdg_of (pg_fld pe_w) (sim_gFd hc hn ho)
@[simp] theorem r_gFd {c : Nat} {f : String} {y : D} {σ : DEnv} {S : Store} {Q : DEnv → Store → Prop} : gFd c f da y σ S Q = da σ S fun x S1 => ofO (insD S1 c x) fun z => z.2.length < 1000 ∧ Q σ (put S1 z.1 (.ins c (putFD f y z.2))) := propext Iff.rfl
end
end DL
/-! DL22: is and is not of two bools. -/
namespace DL
open PySem PySem.Spec PyProof.Rows L2
def rIsB : R2 := fun x y H Q => ∃ a b, x = .bl a ∧ y = .bl b ∧ Q (.bl (decide (a = b))) H
def rNotB : R2 := fun x y H Q => ∃ a b, x = .bl a ∧ y = .bl b ∧ Q (.bl (!decide (a = b))) H
theorem op_isB {X : Cx} : OpR X (compareOp .Is) rIsB := by
  intro pins s σ H x y v u Q I rx ry h
  obtain ⟨m, n, rfl, rfl, q⟩ := h
  cases (show v = Value.bool m from rx)
  cases (show u = Value.bool n from ry)
  by_cases e : m = n
  · subst e
    exact wpAny_is_self rfl ⟨.bl true, H, I, rfl, by simpa using q⟩
  · exact wpAny_is_other rfl (fun z => e (Value.bool.inj z)) ⟨.bl false, H, I, rfl, by simpa [e] using q⟩
theorem op_notB {X : Cx} : OpR X (compareOp .IsNot) rNotB := by
  intro pins s σ H x y v u Q I rx ry h
  obtain ⟨m, n, rfl, rfl, q⟩ := h
  cases (show v = Value.bool m from rx)
  cases (show u = Value.bool n from ry)
  by_cases e : m = n
  · subst e
    exact wpAny_isNot_self rfl ⟨.bl false, H, I, rfl, by simpa using q⟩
  · exact wpAny_isNot_other rfl (fun z => e (Value.bool.inj z)) ⟨.bl true, H, I, rfl, by simpa [e] using q⟩
def dIsB : DR2 := fun x y S Q => match x, y with
  | .bl a, .bl b => Q (.bl (decide (a = b))) S
  | _, _ => False
def dIsNotB : DR2 := fun x y S Q => match x, y with
  | .bl a, .bl b => Q (.bl (!decide (a = b))) S
  | _, _ => False
section
variable {K : PySem.W.Frag} {ca : Nat → Addr}
theorem vr_isB : VR2 K ca dIsB rIsB := by
  intro F S H x y v u Q QV r rx ry q P
  match x, y, rx, ry, q with
  | .bl a, .bl b, .bl _, .bl _, q => exact ⟨a, b, rfl, rfl, P.at r (.bl _) q⟩
theorem vr_isNotB : VR2 K ca dIsNotB rNotB := by
  intro F S H x y v u Q QV r rx ry q P
  match x, y, rx, ry, q with
  | .bl a, .bl b, .bl _, .bl _, q => exact ⟨a, b, rfl, rfl, P.at r (.bl _) q⟩
end
theorem isNotB {a b : Bool} {S : Store} {Q : QE} : dIsNotB (.bl a) (.bl b) S Q = Q (.bl (!decide (a = b))) S := propext Iff.rfl
theorem isB {a b : Bool} {S : Store} {Q : QE} : dIsB (.bl a) (.bl b) S Q = Q (.bl (decide (a = b))) S := propext Iff.rfl
end DL
/-! DL23: defs whose last parameter takes what is left over; a try that runs through. -/
namespace DL
open PySem PySem.Spec PyProof.Rows L2
section
variable {K : PySem.W.Frag} {ca : Nat → Addr} {F F' : Addr → Prop} {S S' : Store} {H H' : Hp} {B : Bc} {Q : QE} {QV : VK} {X : Cx} {o e : Expr} {es : List Expr} {da : DE} {ta : TE} {pos : Pos} {n : Nat} {σ : DEnv} {σV : L2.St}
/-- a promise over data of a def that takes n values and what is left over -/
def liftS (K : PySem.W.Frag) (ca : Nat → Addr) (n : Nat) (w : DSp) : Sp := fun vs H Q E => ∃ ds rest F S QD ED, ds.length = n ∧ rest.length ≤ sizeLine ∧ RelDs K F H (ds ++ rest) vs ∧ RelS K ca F S H ∧ w (ds ++ [.tup rest]) S QD ED ∧ PostE K ca F S H QD Q ∧ PostX K ca F S H ED E
theorem relDs_split : ∀ {a b : List D} {v : List V}, RelDs K F H (a ++ b) v → ∃ v1 v2, v = v1 ++ v2 ∧ RelDs K F H a v1 ∧ RelDs K F H b v2
  | [], b, v, h => ⟨[], v, rfl, .nil, h⟩
  | x :: a, b, _, .cons h1 h2 => by
    obtain ⟨v1, v2, e, h3, h4⟩ := relDs_split (a := a) (b := b) h2
    exact ⟨_ :: v1, v2, by rw [e]; rfl, .cons h1 h3, h4⟩
theorem PostX.step {ED : XQ} {E : XK} (p : PostX K ca F S H ED E) (f : Fr F S H F' S' H') : PostX K ca F' S' H' ED E := fun x cls d _ _ _ g => p x cls d _ _ _ (f.trans g)
theorem liftS_star {w : DSp} {vs : List V} {E : XK} (h : liftS K ca n w vs H QV E) : ∃ ws rest, vs = ws ++ rest ∧ ws.length = n ∧ rest.length ≤ sizeLine ∧ ∀ p, H p = none → lift K ca (n + 1) w (ws ++ [V.ref p]) (upd H p (.tup rest)) QV E := by
  obtain ⟨ds, rest, F, S, QD, ED, hl, hz, rd, rs, hw, PE', PX⟩ := h
  obtain ⟨v1, v2, rfl, r1, r2⟩ := relDs_split rd
  refine ⟨v1, v2, rfl, by rw [← r1.length]; exact hl, by rw [← r2.length]; exact hz, fun p hp => ?_⟩
  have f1 : Fr F S H F S (upd H p (.tup v2)) := fr_newD hp
  refine ⟨ds ++ [.tup rest], F, S, QD, ED, by simp [hl], (r1.mono rs f1).append (.cons (.tup (.inl (.inl upd_same)) (r2.mono rs f1)) .nil), rs.newD hp, hw, PE'.step f1, PX.step f1⟩
theorem def_star {P : Program} {w : World} {mg : Str → Option Value} {base : Heap} {x qual pv : Str} {st : Stmt} {f : Addr} {fd : FuncData} {N ps : List Str} {k : Nat} (Fn : Fun K x qual st f fd) (Sc : FnScope N (ps ++ [pv]) (defScope st)) (hn : ps.length = n)
    (hbind : ∀ us rest : List Value, us.length = ps.length → bindArgs fd ⟨us ++ rest, []⟩ = (newTuple rest >>= fun t => pure (ps.zip us ++ [(pv, t)]))) (body : DBody)
    (hb : ∀ (cdv : Value) (A : Around) (outer : List Env) (s : Shared) (H : Hp) (E : XK) (B : Bc), B.ca = ca → Room k (A.deeper (envOfC qual (defScope st) s.heap.objs.size f cdv)) →
      Good (cxOf (L2.CX P w) P w K mg base N qual (defScope st) f cdv A outer s H E) B → PDSs (cxOf (L2.CX P w) P w K mg base N qual (defScope st) f cdv A outer s H E) B (defBody st) (body B.ED)) :
    FnR P w K mg base (L2.CX P w) (k + 1) f (liftS K ca n (runD N.length body)) := by
  obtain ⟨oc, od, kV, doc, pm, an, cdv, ct, osl, rfl, lk, hcd⟩ := Fn.ex
  refine (StX.fn_star (sp := lift K ca (n + 1) (runD N.length body)) lk hcd Sc StX.cxUp hbind fun A outer s H vs Q E hr h => ?_).imp fun vs H Q E h => by rw [hn]; exact liftS_star h
  obtain ⟨ds, F, S, QD, ED, hl, rd, rs, hw, PE', PX⟩ := h
  have hpl : ds.length ≤ N.length := by
    have e := congrArg List.length Sc.pre
    simp only [List.length_take, List.length_append, List.length_cons, List.length_nil] at e
    omega
  let B : Bc := ⟨ca, F, S, H, fun x _ S1 => ED x S1⟩
  let X := cxOf (L2.CX P w) P w K mg base N qual (defScope st) f cdv A outer s H E
  have tk : Takes X (XW K B) := (takes_of (X := X) (E := E) rfl rfl rfl rfl).imp fun cls dd σV H1 ⟨y, F1, σ1, S1, R1, rx, q⟩ => PX y cls dd F1 S1 H1 R1.fr R1.st rx q
  refine ⟨_, pss_w, ?_⟩
  have hR : Rel K B F (startD N.length ds) S (L2.start N vs) H := ⟨start_rel rd hpl, rs, Fr.refl⟩
  refine hb cdv A outer s H E B rfl hr ⟨tk, PassesOwn.leaving, Sc.nd⟩ F _ S _ H _ _ hR hw ⟨?_, PE', ?_, ?_⟩
  · intro F' σ' S' σV' H' f' R' q
    exact PE' .non .non F' S' H' f' R'.st .non q
  · intro F' σ' S' σV' H' f' R' q
    exact q.elim
  · intro F' σ' S' σV' H' f' R' q
    exact q.elim
theorem FunD.bindsS {x qual pv : Str} {params : Arguments} {body : List Stmt} {scope : Scope} {kws : List (Str × V)} {f : Addr} {fd : FuncData} {ps : List Str} (F : FunD K x qual params body scope [] kws f fd)
    (h : ∀ (kV doc pm : Value) (an : Option Addr) (cdv ct : Value) (us rest : List Value), us.length = ps.length → bindArgs (PySem.W.fnOf x qual params body scope .none kV doc pm an cdv ct) ⟨us ++ rest, []⟩ = (newTuple rest >>= fun t => pure (ps.zip us ++ [(pv, t)]))) :
    ∀ us rest : List Value, us.length = ps.length → bindArgs fd ⟨us ++ rest, []⟩ = (newTuple rest >>= fun t => pure (ps.zip us ++ [(pv, t)])) := by
  obtain ⟨oc, od, dV, kV, doc, pm, an, cdv, ct, osl, rfl, lk, hcd, hD, hK⟩ := F.ex
  rcases hD with ⟨_, rfl⟩ | ⟨e, _⟩
  · exact h kV doc pm an cdv ct
  · exact absurd rfl e
/-- the callee runs -/
theorem run_fnRQ {pins : List (Addr × Obj)} {sg : L2.St} {Hh : Hp} {s : Shared} {CX : CXT} {k : Nat} {f : Addr} {sp : Sp} {E : XK} {Qq : VK} {us : List Value} {vs : List V} (Fn : FnR X.prog X.w X.K X.mg X.base CX k f sp) (hr : Room k X.A) (hx : PassesAt CX X sg E) (I : Inv X pins sg Hh s) (r : Vals vs us) (h : sp vs Hh Qq E) :
    codeAny (model X.prog X.w) X.A (.call (.ref f) ⟨us, []⟩) (fun r s' => match r with | .ok (.ret v) => EP X pins sg Qq v s' | .ok _ => False | .error e => X.xe e s') s := by
  refine codeAny_mono (Fn X.A X.stack s Hh us vs Qq E hr I.env0 r h) fun r s' hq => ?_
  cases r with
  | error e => exact hx pins Hh s e s' I hq
  | ok fl =>
    cases fl with
    | ret u => exact I.after hq
    | next => exact False.elim hq
    | brk => exact False.elim hq
    | cont => exact False.elim hq
theorem pe_methQS {C f : Addr} {m : Str} {k : Nat} {apos : Pos} {sp : Sp} {E : L2.St → XK} {CX : CXT} {t : TA} {pl : Sem Bool} (he : PE X o ta) (c : Cls X.K C) (hm : Meth X.K C m f) (Fn : FnR X.prog X.w X.K X.mg X.base CX k f sp) (hr : Room k X.A) (hx : ∀ σ, PassesAt CX X σ (E σ)) (ha : PA X (e :: es) t)
    (hst : starEach (e :: es) X.env = (false, eval e X.env) :: starEach es X.env := by rfl) (hpl : (backTo pos (starEach es X.env)).any (·.1) = false := by rfl)
    (ht : eval (.Call (.Attribute o m apos) (e :: es) [] pos) X.env = (do
      let ov ← eval o X.env
      standAt apos.atName
      let (f, first) ← holding [ov] (getMethod ov m pl)
      callWith pos f first (backTo pos (starEach (e :: es) X.env)) (backToKw pos (keywordEach [] X.env))) := by rfl) :
    PE X (.Call (.Attribute o m apos) (e :: es) [] pos) (tMethQ C m sp E ta t) := by
  refine ⟨fun pn st sg Hh Qq I h => PySem.W.methodCall_KW (pl := pl) (thn (he.run pn st sg Hh _ I h) fun uo s1 hh => ?_) ht⟩
  obtain ⟨xo, H1, I1, rx, a0, dx0, fs0, ex, ea, lk, q⟩ := hh
  subst ex
  obtain rfl : uo = Value.ref a0 := rx
  refine getmeth_ok I1 ea c hm lk (PySem.W.callWith_K (first := [.ref a0]) (h₀ := X.base) I.ok.mod.kin hm.kp (thn (ha.run pos pn s1 sg H1 _ I1 q) fun us s2 h2 => ?_) hst hpl)
  obtain ⟨vs, H2, I2, rv, q2⟩ := h2
  exact ⟨I2.kIn, wpAny_call (run_fnRQ (us := .ref a0 :: us) (vs := .ref a0 :: vs) Fn hr (hx sg) I2 (.cons rfl rv) q2)⟩
/-- o.m(e, ..), m's last parameter takes what is left over -/
def dMethS (c : Nat) (m : String) (w : DSp) (ED : DX → DEnv → Store → Prop) (da : DE) (dt : DA) : DE := fun σ S Q => da σ S fun x S1 => ofO (insD S1 c x) fun z => z.2.lookup m = none ∧ dt σ S1 fun ds S2 => w [x, .tup ds] S2 Q fun y S3 => ED y σ S3
theorem sim_methS {c : Nat} {mm : String} {w : DSp} {dt : DA} {tt : TA} (hz : n ≤ sizeLine) (ha : SimE K B da ta) (ht : SimA K B n dt tt) : SimE K B (dMethS c mm w B.ED da dt) (tMethQ (B.ca c) (Str.ofString mm) (liftS K B.ca 1 w) (fun σV cls dd H => XW K B cls dd σV H) ta tt) := by
  intro F σ S σV H Q QV R q P
  refine ha F σ S σV H _ _ R q fun x v F1 S1 H1 f1 r1 d1 q1 => ?_
  obtain ⟨⟨p, fs⟩, ei, hl, q1⟩ := ofO_ex q1
  obtain ⟨_, ev, hS, dx, fv, hH, rf⟩ := insD_rel r1 d1 ei
  refine ⟨p, dx, fv, ev, hH, (fs_lookup rf mm).2 hl, ?_⟩
  refine ht F1 σ S1 σV H1 _ _ (R.step f1 r1) q1 fun xs vs F2 S2 H2 f2 r2 d2 l2 q2 => ?_
  exact ⟨[x], xs, F2, S2, Q, _, rfl, by rw [l2]; exact hz, .cons (d1.mono r1 f2) d2, r2, q2, P.step (f1.trans f2), post_xw R (f1.trans f2) r2⟩
theorem pd_methS {c k : Nat} {f : Addr} {w : DSp} {mm : String} {apos : Pos} {dt : DA} {pl : Sem Bool} (ho : PD X B o da) (hc : Cls X.K (B.ca c)) (hm : Meth X.K (B.ca c) (Str.ofString mm) f) (Fn : FnR X.prog X.w X.K X.mg X.base (L2.CX X.prog X.w) k f (liftS X.K B.ca 1 w)) (hr : Room k X.A)
    (tk : Takes X (XW X.K B)) (ha : PDA X B (e :: es) n dt) (hz : n ≤ sizeLine := by decide)
    (hst : starEach (e :: es) X.env = (false, eval e X.env) :: starEach es X.env := by rfl) (hpl : (backTo pos (starEach es X.env)).any (·.1) = false := by rfl)
    (ht : eval (.Call (.Attribute o (Str.ofString mm) apos) (e :: es) [] pos) X.env = (do
      let ov ← eval o X.env
      standAt apos.atName
      let (f, first) ← holding [ov] (getMethod ov (Str.ofString mm) pl)
      callWith pos f first (backTo pos (starEach (e :: es) X.env)) (backToKw pos (keywordEach [] X.env))) := by rfl) :
    PD X B (.Call (.Attribute o (Str.ofString mm) apos) (e :: es) [] pos) (dMethS c mm w B.ED da dt) :=
  pd_of (pe_methQS (pl := pl) pe_w hc hm Fn hr (passXW tk) pa_w hst hpl ht) (sim_methS hz ho ha)
/-- a try whose body lets nothing out -/
theorem pds_try0 {body : List Stmt} {h₀ : ExceptHandler} {hs : List ExceptHandler} {ds : DS} (h : PDSs X.nox (noEx B) body ds) : PDS X B (.Try body (h₀ :: hs) [] [] pos) ds :=
  pds_of (ps_try_thru0 (X := X) pss_w) fun F σ S σV H D V R q P => h F σ S σV H D V R.noEx q ⟨fun F' σ' S' σV' H' f R' q' => P.nx F' σ' S' σV' H' f ⟨R'.env, R'.st, R'.fr⟩ q', P.rt, fun F' σ' S' σV' H' f R' q' => P.bk F' σ' S' σV' H' f ⟨R'.env, R'.st, R'.fr⟩ q', fun F' σ' S' σV' H' f R' q' => P.ct F' σ' S' σV' H' f ⟨R'.env, R'.st, R'.fr⟩ q'⟩
end
end DL
/-! DL24: an own exception class over Exception whose __init__ says super().__init__(..) and keeps its argument; raise, try .. except C as x. -/
namespace DL
open PySem PySem.Spec PyProof.Rows L2
section
open PySem.W PySem.Calls
variable {prog : Program} {w : World} {A : Around} {R : Result → Shared → Prop} {K : Frag} {base : Heap} {g : Array GenState} {d : Drawn} {t : Nat} {os : OsState} {h : Heap}
/-- the parts of such an __init__ -/
structure InitC (prog : Program) (K : Frag) (C fI : Addr) (f pn : Str) : Prop where
  ex : ∃ (nm q : Str) (N : Addr) (bs : List Value) (sn : List Str) (sub : List Value) (ab : Bool) (col : Option Bool) (dd : Option Addr) (k0 k1 k2 k3 k5 : Option Value),
    K.lookup C = some (excClassObj nm q C N bs ESX.exTail true sn sub ab col dd k0 k1 k2 k3 k5 "Exception.__new__")
  fn : ∃ (name qual : Str) (params : Arguments) (scope : Scope) (dV kV doc pm : Value) (an : Option Addr) (cda cc : Addr) (ct oc : Value) (od : Option Addr) (osl : Array (Option Value)) (txt : Str) (j : Nat) (p0 p1 p2 p3 p4 p5 p6 p7 p8 p9 : Pos) (ar : Arg) (vs : Array Value) (file : Str) (tf : Tok) (ccl cl : Value) (cdd cld : Option Addr) (ccs csl : Array (Option Value)),
    K.lookup fI = some ⟨oc, od, .func (ksFn name qual params [.Expr (.Call (.Attribute (.Call (.Name "super" p0) [] [] p1) "__init__" p2) [.Constant (.str txt) j p3] [] p4) p5, .Assign [.Attribute (.Name "self" p6) f p7] (.Name pn p8) p9] scope dV kV doc pm an (.ref cda) ct cc), osl⟩ ∧
    codeIn K (.ref cda) qual = true ∧ (∀ a b : Value, bindArgs (ksFn name qual params [.Expr (.Call (.Attribute (.Call (.Name "super" p0) [] [] p1) "__init__" p2) [.Constant (.str txt) j p3] [] p4) p5, .Assign [.Attribute (.Name "self" p6) f p7] (.Name pn p8) p9] scope dV kV doc pm an (.ref cda) ct cc) ⟨[a, b], []⟩ = pure ([(("self" : Str), a), (pn, b)] : List (Str × Value))) ∧
    (params.posonlyargs ++ params.args).head? = some ar ∧ ar.arg = "self" ∧ K.lookup cda = some ⟨ccl, cdd, .fields vs, ccs⟩ ∧ vs[2]? = some (.str file tf) ∧ ((prog.main.file : Str) == file) = true ∧
    K.lookup cc = some ⟨cl, cld, .cell (some (.ref C)), csl⟩ ∧ scope.names.lookup ("super" : Str) = some .globalImplicit ∧ scope.names.lookup ("__class__" : Str) = some .free ∧ scope.names.lookup ("self" : Str) = some .local ∧ scope.names.lookup pn = some .local ∧
    scope.kind = .function ∧ scope.isCoroutine = false ∧ scope.isGenerator = false ∧ (∀ x ∈ scope.names, x.2 ≠ .cell) ∧
    (∃ pl : Sem Bool, ∀ env, eval (.Call (.Attribute (.Call (.Name "super" p0) [] [] p1) "__init__" p2) [.Constant (.str txt) j p3] [] p4) env = (do
      let ov ← attributeBase (.Call (.Name "super" p0) [] [] p1) "__init__" env (eval (.Call (.Name "super" p0) [] [] p1) env)
      standAt p2.atName
      let (f, first) ← holding [ov] (getMethod ov "__init__" pl)
      callWith p4 f first (backTo p4 (starEach [.Constant (.str txt) j p3] env)) [])) ∧ (∀ env, swapsWith (.Name pn p8) (some (.Attribute (.Name "self" p6) f p7)) p9.line env = pure false)
  sup : nsIn K mainGlobals "super" = some none
  top : (prog.main.scope.names.lookup ("super" : Str)).isSome = false
  opq : nsIn K cStatics "thirdparty.any" = some none
  sa : findIn K (.ref C) "__setattr__" = some (some (.builtin "object.__setattr__"))
  noF : findIn K (.ref C) f = some none
  self_ : (pn == ("self" : Str)) = false ∧ (pn == ("__debug__" : Str)) = false
theorem init_raw {C fI e t0 : Addr} {f pn : Str} {v : Value} (T : InitC prog K C fI f pn) (kb : K.In base) (ext : ∀ b o, base.get? b = some o → h.get? b = some o) (ne : base.get? e = none) (he : h.get? e = some (HandSPX.excO C t0))
    (hgl : ∃ mg, h.Ns mainGlobals mg) (hbl : ∃ mb, h.Ns builtinsNs mb ∧ ∀ x : Str, x ≠ "__name__" → mb x = bootBuiltins x) (hlim : h.NoLimit) (hroom : A.depth < recursionLimit)
    (hq : ∀ h' tk dx t1, (∀ b o, b ≠ e → h.get? b = some o → h'.get? b = some o) → h.objs.size ≤ dx → dx ≠ e → h'.get? e = some { cls := .ref C, dict := some dx, data := .fields #[.ref t1, .none, .none, .none, .bool false, .none] } →
      h'.Ns1 dx (fun y => if y = f then some v else none) → R (.ok (.ret .none)) ⟨h', g, d, tk, os⟩) :
    codeAny (model prog w) A (.call (.ref fI) ⟨[.ref e, v], []⟩) R ⟨h, g, d, t, os⟩ := by
  obtain ⟨nm, q, N, bs, sn, sub, ab, col, dd, k0, k1, k2, k3, k5, hC⟩ := T.ex
  obtain ⟨name, qual, params, scope, dV, kV, doc, pm, an, cda, cc, ct, oc, od, osl, txt, j, p0, p1, p2, p3, p4, p5, p6, p7, p8, p9, ar, vs, file, tf, ccl, cl, cdd, cld, ccs, csl, hfI, hcode, hbind, har, hself, hcda, hvs, hfile, hcc, s1, s2, s3, s4, sk, sco, sgen, scell, ⟨pl, hev⟩, hsw⟩ := T.fn
  have kin : K.In h := kb.keeps ext
  refine ks_codeAny_call_defAt (s := ⟨h, g, d, t, os⟩) hroom (kin _ _ hfI) rfl hlim (codeRec_of kin hcode) rfl (.of_eq (hbind _ _)) scell (fun x hx => ?_) (fun h1 hns k1' => ?_) sco sgen sk
  · simp only [List.mem_cons, List.not_mem_nil, or_false] at hx
    rcases hx with rfl | rfl
    · exact s3
    · exact s4
  obtain ⟨mg, hmg⟩ := hgl
  obtain ⟨mb, hmb, hbb⟩ := hbl
  have mgn : mg "super" = none := mg_none_of kin hmg T.sup
  have kin1 : K.In h1 := kin.keeps k1'
  have hse : [(("self" : Str), Value.ref e), (pn, v)].reverse.lookup ("self" : Str) = some (.ref e) := by
    have z : (("self" : Str) == pn) = false := by
      have := T.self_.1
      rw [beq_eq_false_iff_ne] at this ⊢
      exact fun y => this y.symm
    simp [List.lookup, z]
  have hsup : bootBuiltins "super" = some (.type "super") := by decide +kernel
  have I1 : InstAt h1 e (HandSPX.excO C t0) C none := ⟨k1' _ _ he, rfl, rfl, trivial⟩
  have hCo := kin1 _ _ hC
  have hcl : clsIn K C = some { name := nm, bases := bs, mro := .ref C :: ESX.exTail, ns := N, qualname := q, hasDict := true, slotNames := sn, subclasses := sub, abstract := ab, collection := col, hasDel := false } := by unfold clsIn; rw [hC] <;> rfl
  have neC : e ≠ C := fun z => by
    subst z
    have := kb _ _ hC
    rw [ne] at this
    cases this
  refine ks_wpAt_execs_cons (ks_wpAt_Expr_any (ks_wpAt_MethodCall (ks_wpAt_super_base (env := ksEnv qual scope h.objs.size fI (.ref cda) cc) s1 s2 (by decide) rfl (kin1 _ _ hfI) rfl har rfl (kin1 _ _ hcda) rfl hvs hfile T.top ?_) (hev _)) (by unfold interactive; show ((scope.kind == .module) && _) = false; rw [sk]; rfl))
  refine ks_loadName_global sk s1 (loadGlobal_builtin (env := ksEnv qual scope h.objs.size fI (.ref cda) cc) (hmg.keeps k1') mgn (hmb.keeps k1') ((hbb _ (by decide)).trans hsup) ⟨rfl, ?_⟩)
  refine wpAny_loadName_free sk s2 rfl ⟨_, kin1 _ _ hcc, rfl⟩ ?_
  rw [hself]
  refine wpAny_loadName_local sk s3 hns (v := .ref e) hse ?_
  refine ks_wpAny_isType_cls hCo rfl ⟨rfl, ?_⟩
  refine ks_wpAny_call_super hCo rfl I1.at_ I1.cls (fun c z => by cases z) (looks_mroIn kin1 (ESX.mro_has hcl rfl (by simp))) (fun h2 hso k2' => ?_)
  have kin2 : K.In h2 := kin1.keeps k2'
  have I2 : InstAt h2 e (HandSPX.excO C t0) C none := ⟨k2' _ _ I1.at_, rfl, rfl, trivial⟩
  have hin : Looks (model prog w) h2 (isInstance (.ref e) (.type "Exception")) true := I2.type.andThen (looks_mroIn kin2 (ESX.mro_has hcl rfl (ESX.tail_has "Exception" (by decide +kernel))))
  refine ESX.getMethod_super hso (looks_opaque kin2 T.opq) ((looks_clsIn kin2 hcl).andThen .now) (ESX.drop_own C _) kin2 (ESX.along_init K) neC (by decide) hin ?_
  refine ESX.callWith_bound (x := e) ?_ rfl rfl
  refine PyProof.Rows.spliced_more (wpAny_Constant_str (PyProof.Rows.spliced_none ?_))
  have hu : (h2.push (ESX.bw e)).get? h2.objs.size = some (ESX.bw e) := Heap.get?_push_at rfl rfl
  have k3 : ∀ b o, h2.get? b = some o → (h2.push (ESX.bw e)).get? b = some o := fun b o z => Heap.get?_push_of_some _ z
  refine ⟨hu, ?_⟩
  refine ESX.call_bw (k3 _ _ (kin2 _ _ hC)) (k3 _ _ I2.at_) hu (by simp [sizeLine_eq]) fun h3 t1 k4 he3 => ?_
  have all3 : ∀ b o, b ≠ e → h.get? b = some o → h3.get? b = some o := fun b o z q => k4 b o z (k3 b o (k2' b o (k1' b o q)))
  have kin3 : K.In h3 := kb.keeps fun b o z => all3 b o (fun y => by subst y; rw [ne] at z; cases z) (ext b o z)
  have neL : h.objs.size ≠ e := Nat.ne_of_gt (Heap.lt_size he)
  have hns3 : h3.Ns h.objs.size (fun x => [(("self" : Str), Value.ref e), (pn, v)].reverse.lookup x) := hns.at fun o q => k4 _ _ neL (k3 _ _ (k2' _ _ q))
  show _root_.PySem.wpAt _ _ _ _ _ _ _
  refine ks_wpAt_execs_cons (ks_wpAt_Assign_Attr (wpAt_of_wpAny (ESX.ldL hns3 (v := v) (by simp [List.lookup]) ?_ sk s4 T.self_.2)) (hsw _))
  refine ESX.ldL hns3 (v := .ref e) hse ?_ sk s3
  refine set_plain kin3 (ox := HandSPX.excO C t1) (od := none) ⟨he3, rfl, rfl, trivial⟩ T.sa ?_
  refine ESX.osa_new kin3 he3 hcl rfl rfl T.noF fun h4 tk dx k5 d1 d2 he4 hn4 => ?_
  show _root_.PySem.wpAt _ _ _ _ _ _ _
  refine wpAt_of_wpAny (wpAny_execs_nil ?_)
  have sz : h.objs.size ≤ h3.objs.size := by
    obtain ⟨o, _, _, z, _⟩ := hns3
    exact Nat.le_of_lt (Heap.lt_size z)
  exact hq h4 tk dx t1 (fun b o z q => k5 b o z (all3 b o z q)) (Nat.le_trans sz d1) d2 he4 hn4
end

/-! ### C(e) as something to raise -/
def tMkF (C : Addr) (f : Str) (te : TE) : L2.St → Hp → XK → Prop := fun σ H Q => te σ H fun y H1 => ∀ d, H1 d = none → Q (.ref C) (some d) (upd H1 d (.xd [(f, y)]))
/-- what is known of such a class -/
structure ExcC (prog : Program) (K : PySem.W.Frag) (C : Addr) (f : Str) : Prop where
  ex : ∃ fI pn, InitC prog K C fI f pn ∧ PySem.W.findIn K (.ref C) "__init__" = some (some (.ref fI)) ∧ PySem.W.typeIn K (.ref fI) = some (.type "function")
  exC : PySem.W.subIn K (.ref C) (.type "BaseException") = some true
  tyC : PySem.W.typeIn K (.ref C) = some (.type "type")
  kC : PySem.W.keepIn K (.ref C) = true
section
variable {X : Cx} {C : Addr} {f : Str} {x : Str} {e : Expr} {te : TE} {p pos : Pos} {k : Nat}
theorem pmk_exc (T : ExcC X.prog X.K C f) (hr : Room (k + 1) X.A) (hg : Gl X x) (hm : X.mg x = some (.ref C)) (hp : PE X e te)
    (hdb : (x == ("__debug__" : Str)) = false := by decide) (he : starEach [e] X.env = [(false, eval e X.env)] := by rfl) :
    PMk X (.Call (.Name x p) [e] [] pos) (tMkF C f te) := by
  intro pins s σ H Q I h
  obtain ⟨fI, pn, IC, iC, tI⟩ := T.ex
  obtain ⟨nm, q, N, bs, sn, sub, ab, col, dd, k0, k1, k2, k3, k5, hC⟩ := IC.ex
  refine wpAny_Call_Name_kw (ld_glob I hg hm ?_ hdb)
  refine PySem.W.callWith_K (h₀ := X.base) I.ok.mod.kin T.kC (thn ((pa_cons hp pa_nil he).run pos pins s σ H (fun vs H1 => match vs with | [y] => ∀ d, H1 d = none → Q (.ref C) (some d) (upd H1 d (.xd [(f, y)])) | _ => False) I h) fun us s1 z => ?_) he rfl
  obtain ⟨vs, H1, I1, r1, q1⟩ := z
  refine ⟨I1.kIn, ?_⟩
  match vs, r1, q1 with
  | [y], .cons (b := u1) ry .nil, q1 =>
  show wpAny _ _ (call (.ref C) [u1]) _ _ _
  obtain ⟨hp', g, dr, tk, os⟩ := s1
  have kk : ∀ b o, hp'.get? b = some o → ((hp'.push (PySem.W.kdv_tup [u1])).push (PySem.HandSPX.excO C hp'.objs.size)).get? b = some o := fun b o e => Heap.get?_push_of_some _ (Heap.get?_push_of_some _ e)
  have hget : ((hp'.push (PySem.W.kdv_tup [u1])).push (PySem.HandSPX.excO C hp'.objs.size)).get? (hp'.objs.size + 1) = some (PySem.HandSPX.excO C hp'.objs.size) := by heap_get
  have hbase : X.base.get? (hp'.objs.size + 1) = none := by
    cases z : X.base.get? (hp'.objs.size + 1) with
    | none => rfl
    | some o => exact absurd (Heap.lt_size (I1.bk _ _ z)) (by simp)
  refine wpAny_call (PySem.HandSPX.call_own F.excBase_Exception (bm := ESX.exTail) (fun Y => rfl) (I1.kIn _ _ hC) (PySem.W.looks_findIn I1.kIn iC) (fun self => PySem.W.bind_fn I1.kIn self tI) (by simp [sizeLine_eq])
    (init_raw (base := X.base) IC I1.ok.mod.kin (fun b o z => kk b o (I1.bk b o z)) hbase hget ⟨_, I1.ok.mod.glob.keeps fun b o z => kk b o (I1.bk b o z)⟩ ?_ (I1.nolimit.keeps kk) ?_ fun h' tk dx t1 k5 d1 d2 he4 hn4 => ?_))
  · obtain ⟨mb, hb1, hb2⟩ := I1.ok.mod.blt
    exact ⟨mb, hb1.keeps fun b o z => kk b o (I1.bk b o z), hb2⟩
  · exact (hr.make C [u1] []).depth
  · refine ⟨rfl, ?_⟩
    show MkP X pins σ Q (.ref (hp'.objs.size + 1)) _
    obtain ⟨G, g1, g2⟩ := restrict h' fun b => decide (b ≠ hp'.objs.size + 1)
    have gk : ∀ b, b ≠ hp'.objs.size + 1 → G.get? b = h'.get? b := fun b hb => g1 b (decide_eq_true hb)
    have ge : G.get? (hp'.objs.size + 1) = none := g2 _ (by simp)
    have kG : ∀ b o, hp'.get? b = some o → G.get? b = some o := fun b o z => by
      have nb : b ≠ hp'.objs.size + 1 := Nat.ne_of_lt (Nat.lt_succ_of_lt (Heap.lt_size z))
      rw [gk b nb]
      exact k5 b o nb (kk b o z)
    have sz : hp'.objs.size ≤ dx := Nat.le_trans (by rw [Heap.size_push, Heap.size_push]; omega) d1
    have J := I1.laid (t' := tk) (a := dx) (o := .xd [(f, y)]) (h' := G) kG sz ⟨_, hn4.at fun o z => (gk dx d2).trans z, relO_put (fs := []) ry fun g => True.intro⟩
    refine ⟨_, _, _, ⟨G, g, dr, tk, os⟩, upd H1 dx (.xd [(f, y)]), .ref C, some dx, rfl, J, fun b o z => ?_, ge, he4, ⟨rfl, rfl⟩, rfl, rfl, ?_, rfl, I1.bare, raises_own T.exC T.tyC, q1 dx (I1.hok.fresh sz)⟩
    · by_cases hb : b = hp'.objs.size + 1
      · rw [hb, ge] at z; cases z
      · exact (gk b hb).symm.trans z
    · rw [upd_ne (Ne.symm d2)]
      exact I1.hok.fresh (Nat.le_succ _)
end
end DL
/-! DL25: raise C(e), try .. except C as x, x.f over data. -/
namespace DL
open PySem PySem.Spec PyProof.Rows L2
section
variable {K : PySem.W.Frag} {ca : Nat → Addr} {F F' : Addr → Prop} {S S' : Store} {H H' : Hp} {B : Bc} {Q : QE} {QV : VK} {X : Cx} {o e : Expr} {es : List Expr} {da : DE} {ta : TE} {pos p p2 : Pos} {n : Nat} {σ : DEnv} {σV : L2.St}
/-- raise C(e): the field f holds e -/
def dRaise (c : Nat) (f : String) (da : DE) (ED : DX → DEnv → Store → Prop) : DS := fun _ σ S => da σ S fun x S1 => ED ⟨c, [(f, x)]⟩ σ S1
theorem pds_raise {c k : Nat} {f : String} {x : Str} (T : ExcC X.prog X.K (B.ca c) (Str.ofString f)) (hc : X.calm = true) (hr : Room (k + 1) X.A) (hg : Gl X x) (hm : X.mg x = some (.ref (B.ca c))) (tk : Takes X (XW X.K B)) (ha : PD X B e da)
    (hdb : (x == ("__debug__" : Str)) = false := by decide) (he : starEach [e] X.env = [(false, eval e X.env)] := by rfl) : PDS X B (.Raise (some (.Call (.Name x p) [e] [] pos)) none p2) (dRaise c f da B.ED) := by
  refine pds_of (ps_raise hc tk (pmk_exc T hr hg hm pe_w hdb he)) fun F σ S σV H D V R q P => ?_
  refine ha F σ S σV H _ _ R q fun x v F1 S1 H1 f1 r1 d1 q1 d hd => ?_
  have f2 : Fr F1 S1 H1 F1 S1 (upd H1 d (.xd [(Str.ofString f, v)])) := fr_newD hd
  exact ⟨⟨c, [(f, x)]⟩, F1, σ, S1, R.step (f1.trans f2) (r1.newD hd), ⟨rfl, .inr ⟨d, _, rfl, upd_same, .cons (d1.mono r1 f2) .nil⟩⟩, q1⟩
/-- from another entry, with another wish -/
abbrev Bc.to (B : Bc) (F0 : Addr → Prop) (S0 : Store) (H0 : Hp) (E1 : DX → DEnv → Store → Prop) : Bc := ⟨B.ca, F0, S0, H0, E1⟩
def DEnds.gone (D : DEnds) (i : Nat) : DEnds := { nx := fun σ' S' => D.nx (σ'.set i none) S', rt := D.rt, bk := fun σ' S' => D.bk (σ'.set i none) S', ct := fun σ' S' => D.ct (σ'.set i none) S' }
/-- try: body; except C as x (slot i): suite; no other exception is looked for -/
def dTryAs (c i : Nat) (body : (DX → DEnv → Store → Prop) → DS) (suite : Addr → DX → DS) : DS := fun D σ S => body (fun y σ1 S1 => y.cls = c ∧ ∀ a, S1 a = none → suite a y (D.gone i) (σ1.set i (some (.obj a))) S1) D σ S
/-- x.f, x the exception that was caught -/
def dXf (a : Addr) (i : Nat) (y : DX) (f : String) : DE := fun σ S Q => σ[i]? = some (some (.obj a)) ∧ ofO (y.fs.lookup f) fun v => Q v S
theorem set_none (R : RelEnv K F H σ σV) {i : Nat} : RelEnv K F H (σ.set i none) (σV.set i none) := by
  refine ⟨by rw [List.length_set, List.length_set]; exact R.1, fun j x h => ?_⟩
  by_cases hj : i = j
  · subst hj
    by_cases hi : i < σ.length
    · rw [List.getElem?_set_self hi] at h; cases h
    · rw [List.getElem?_eq_none (by simpa using hi)] at h; cases h
  · rw [List.getElem?_set_ne hj] at h
    obtain ⟨u, a, b⟩ := R.2 j x h
    exact ⟨u, by rw [List.getElem?_set_ne hj]; exact a, b⟩
theorem pds_tryAs {c i : Nat} {x nm : Str} {body suite : List Stmt} {b₀ : Stmt} {np pos' : Pos} {db : (DX → DEnv → Store → Prop) → DS} {ds : Addr → DX → DS} (hs : X.stack = X.env :: X.outer) (hf : X.env.frame = some X.env.locals) (hN : X.N.Nodup) (hi : X.N[i]? = some nm) (hln : X.env.kindOf nm = some .local)
    (hc : Names X x (.ref (B.ca c))) (hex : PySem.W.exmOne X.K (.ref (B.ca c)) (.ref (B.ca c)) = some true) (tk : Takes X (XW X.K B))
    (hb : ∀ (E1 : DX → DEnv → Store → Prop) (F0 : Addr → Prop) (S0 : Store) (H0 : Hp) (pn : List (Addr × Obj)) (xe : Value → Shared → Prop), Takes (X.tr pn xe) (XW X.K (B.to F0 S0 H0 E1)) → PassesOwn (model X.prog X.w) X.A X.env xe → PDSs (X.tr pn xe) (B.to F0 S0 H0 E1) body (db E1))
    (hsu : ∀ (y : DX) (F0 : Addr → Prop) (S0 : Store) (H0 : Hp) (a : Addr) (oe : Obj) (d : Option Addr) (pn : List (Addr × Obj)), RelS X.K B.ca F0 S0 H0 → RelX X.K B.ca F0 H0 y (.ref (B.ca c)) d → Zc (.ref (B.ca c)) d oe → (∃ vs, oe.data = .fields vs) → PDSs (X.suite a ((a, oe) :: pn)) (B.at F0 S0 H0) (b₀ :: suite) (ds a y)) :
    PDS X B (.Try body [.ExceptHandler (some (.Name x np)) (some nm) (b₀ :: suite) pos'] [] [] pos) (dTryAs c i db ds) := by
  refine pds_of (ps_try_as (tb := fun W D σ H => ∀ pn xe, Takes (X.tr pn xe) W → PassesOwn (model X.prog X.w) X.A X.env xe → wpSs (X.tr pn xe) body D σ H)
    (ts := fun a cls d D σ H => ∀ oe pn, Zc cls d oe → (∃ vs, oe.data = .fields vs) → wpSs (X.suite a ((a, oe) :: pn)) (b₀ :: suite) D σ H) (i := i) hs hf hN hi hln hc tk
    (fun W pn xe t1 t2 => ⟨fun pins s σ H D I h => pss_w.run pins s σ H D I (h pn xe t1 t2)⟩) (fun a oe cls d pn z1 z2 => ⟨fun pins s σ H D I h => pss_w.run pins s σ H D I (h oe pn z1 z2)⟩)) fun F σ S σV H D V R q P => ?_
  intro pn xe t1 t2
  refine hb _ F S H pn xe (t1.imp fun cls d σx Hx z => ?_) t2 F σ S σV H D V ⟨R.env, R.st, Fr.refl⟩ q ⟨fun F' σ' S' σV' H' f' R' => P.nx F' σ' S' σV' H' f' ⟨R'.env, R'.st, R.fr.trans f'⟩, P.rt, fun F' σ' S' σV' H' f' R' => P.bk F' σ' S' σV' H' f' ⟨R'.env, R'.st, R.fr.trans f'⟩, fun F' σ' S' σV' H' f' R' => P.ct F' σ' S' σV' H' f' ⟨R'.env, R'.st, R.fr.trans f'⟩⟩
  obtain ⟨y, Fx, σ1, Sx, Rx, rx, hy, q1⟩ := z
  have ec : cls = .ref (B.ca c) := by rw [rx.1, hy]
  subst ec
  refine ⟨true, hex, fun _ a ha oe pn z1 z2 => ?_, fun z => by cases z⟩
  have fx := Rx.fr
  refine hsu y Fx Sx Hx a oe d pn Rx.st rx z1 z2 Fx (σ1.set i (some (.obj a))) Sx (σx.set i (some (.ref a))) Hx (D.gone i) _ ⟨Rx.env.set (.obj a), Rx.st, Fr.refl⟩ (q1 a (Rx.st.free ha)) ⟨fun F' σ' S' σV' H' f' R' q' => ?_, fun x v F' S' H' f' => P.rt x v F' S' H' (fx.trans f'), fun F' σ' S' σV' H' f' R' q' => ?_, fun F' σ' S' σV' H' f' R' q' => ?_⟩
  · exact P.nx F' _ S' _ H' (fx.trans f') ⟨set_none R'.env, R'.st, R.fr.trans (fx.trans f')⟩ q'
  · exact P.bk F' _ S' _ H' (fx.trans f') ⟨set_none R'.env, R'.st, R.fr.trans (fx.trans f')⟩ q'
  · exact P.ct F' _ S' _ H' (fx.trans f') ⟨set_none R'.env, R'.st, R.fr.trans (fx.trans f')⟩ q'
theorem pd_xf {a : Addr} {i c : Nat} {y : DX} {f : String} {d : Option Addr} {oe : Obj} {pn : List (Addr × Obj)} {nm : Str} {F0 : Addr → Prop} {S0 : Store} {H0 : Hp} (T : XfC X.K (B.ca c)) (hno : PySem.W.findIn X.K (.ref (B.ca c)) (Str.ofString f) = some none) (rs : RelS X.K B.ca F0 S0 H0) (rx : RelX X.K B.ca F0 H0 y (.ref (B.ca c)) d)
    (hz : Zc (.ref (B.ca c)) d oe) (hf : ∃ vs, oe.data = .fields vs) (hN : X.N[i]? = some nm) (hv : Vis X.env.scope nm := by first | exact Or.inl rfl | exact Or.inr (Or.inl rfl) | exact Or.inr (Or.inr rfl)) (hd : (nm == ("__debug__" : Str)) = false := by decide)
    (hcd : (nm == ("__classdict__" : Str)) = false := by decide) (hb : attributeBase (.Name nm p) (Str.ofString f) X.env (eval (.Name nm p) X.env) = eval (.Name nm p) X.env := by rfl) :
    PD (X.suite a ((a, oe) :: pn)) (B.at F0 S0 H0) (.Attribute (.Name nm p) (Str.ofString f) pos) (dXf a i y f) := by
  refine pd_of (pe_xf (n := Str.ofString f) T hno hz hf (pe_var (X := X.suite a ((a, oe) :: pn)) (i := i) hN hv hd hcd) hb) fun F σ S σV H Q QV R q P => ?_
  obtain ⟨q0, q1⟩ := q
  obtain ⟨z, ez, q1⟩ := ofO_ex q1
  obtain ⟨u, hu, ru⟩ := R.env.2 i _ q0
  cases ru
  refine ⟨_, hu, rfl, rfl, ?_⟩
  obtain ⟨_, h2⟩ := rx
  rcases h2 with ⟨h2, _⟩ | ⟨dd, fv, e1, e2, rf⟩
  · rw [h2] at ez; cases ez
  · have fr : Fr F0 S0 H0 F S H := R.fr
    obtain ⟨g1, _⟩ := fr dd _ e2 (rs.frzFree e2 (fun _ z => by cases z) (fun _ z => by cases z) fun _ _ _ z => by cases z)
    obtain ⟨v, hv, rv⟩ := (fs_lookup rf f).1 z ez
    exact ⟨dd, fv, v, e1, g1, hv, P.at R.st (rv.mono rs fr) q1⟩
end
end DL
/-! DL26: the head's Hook with own exception classes. -/
namespace DL
open PySem PySem.Spec PyProof.Rows L2
section
open PySem.W
/-- such a class: its name, its __init__, the field and the parameter -/
structure XD where
  cls : Str
  qual : Str
  params : Arguments
  body : List Stmt
  scope : Scope
  fld : Str
  pn : Str
  file : Str
abbrev XnW : Type := Option (Str × Str × Arguments × FuncBody × Scope × Addr × List Str × Addr)
def xW (K : Frag) (c : Str) : XnW := match K.lookup (He.fAd K (c, some "__init__")) with
  | some ⟨_, _, .func fd, _⟩ => some (fd.name, fd.qualname, fd.params, fd.body, fd.scope, fd.globals, fd.closure.map (·.1), fd.builtins)
  | _ => none
def XD.val (x : XD) : XnW := some ("__init__", x.qual, x.params, .stmts x.body, x.scope, mainGlobals, ["__class__"], builtinsNs)
def excB (K : Frag) (C : Addr) : Bool := match K.lookup C with
  | some ⟨.type ct, _, .cls cd, sl⟩ => (match sl.toList with
    | [_, _, _, _, some (.builtin n), _] => decide (ct = "type") && (cd.mro == (.ref C :: ESX.exTail) && (cd.hasDict && (!cd.hasDel && decide (n = "Exception.__new__"))))
    | _ => false)
  | _ => false
theorem excB_ok {K : Frag} {C : Addr} (h : excB K C = true) : ∃ (nm q : Str) (N : Addr) (bs : List Value) (sn : List Str) (sub : List Value) (ab : Bool) (col : Option Bool) (dd : Option Addr) (k0 k1 k2 k3 k5 : Option Value),
    K.lookup C = some (excClassObj nm q C N bs ESX.exTail true sn sub ab col dd k0 k1 k2 k3 k5 "Exception.__new__") := by
  unfold excB at h
  split at h
  · rename_i ct dd cd sl ho
    split at h
    · rename_i k0 k1 k2 k3 n k5 hs
      simp only [Bool.and_eq_true, beq_iff_eq, Bool.not_eq_true', decide_eq_true_eq] at h
      obtain ⟨h1, h2, h3, h4, h5⟩ := h
      obtain ⟨nm, bs, mro, ns, qn, hd, sn, sub, ab, col, del⟩ := cd
      dsimp only at h2 h3 h4
      subst h1 h2 h3 h4 h5
      have hsl : sl = #[k0, k1, k2, k3, some (.builtin "Exception.__new__"), k5] := by
        obtain ⟨l⟩ := sl
        simp only at hs
        rw [hs]
      subst hsl
      exact ⟨nm, qn, ns, bs, sn, sub, ab, col, dd, k0, k1, k2, k3, k5, ho⟩
    · cases h
  · cases h
def xOk (K : Frag) (x : XD) : Bool := excB K (He.ga K x.cls) && (keepIn K (.ref (He.ga K x.cls)) && (decide (subIn K (.ref (He.ga K x.cls)) (.type "BaseException") = some true) && (decide (typeIn K (.ref (He.ga K x.cls)) = some (.type "type")) &&
  (decide (findIn K (.ref (He.ga K x.cls)) "__init__" = some (some (.ref (He.ma K (He.ga K x.cls) "__init__")))) && (decide (typeIn K (.ref (He.ma K (He.ga K x.cls) "__init__")) = some (.type "function")) && ((match K.lookup (He.ma K (He.ga K x.cls) "__init__") with
    | some ⟨_, _, .func fd, _⟩ => codeIn K fd.code x.qual && ((match fd.defaults with
      | .none => true
      | _ => false) && ((match fd.code with
      | .ref cda => (match K.lookup cda with
        | some ⟨_, _, .fields vs, _⟩ => (match (vs[2]? : Option Value) with
          | some (.str file _) => x.file == file
          | _ => false)
        | _ => false)
      | _ => false) && (match fd.closure with
      | [(_, cc)] => (match K.lookup cc with
        | some ⟨_, _, .cell (some (.ref a)), _⟩ => decide (a = He.ga K x.cls)
        | _ => false)
      | _ => false)))
    | _ => false) && (decide (nsIn K mainGlobals "super" = some none) && (decide (nsIn K cStatics "thirdparty.any" = some none) && (decide (findIn K (.ref (He.ga K x.cls)) "__setattr__" = some (some (.builtin "object.__setattr__"))) &&
  (decide (findIn K (.ref (He.ga K x.cls)) x.fld = some none) && (decide (exmOne K (.ref (He.ga K x.cls)) (.ref (He.ga K x.cls)) = some true) && xfB K (He.ga K x.cls))))))))))))
/-- what the text says -/
def XStat (x : XD) : Prop := ∃ (txt : Str) (j : Nat) (p0 p1 p2 p3 p4 p5 p6 p7 p8 p9 : Pos) (ar : Arg), x.body = [.Expr (.Call (.Attribute (.Call (.Name "super" p0) [] [] p1) "__init__" p2) [.Constant (.str txt) j p3] [] p4) p5, .Assign [.Attribute (.Name "self" p6) x.fld p7] (.Name x.pn p8) p9] ∧
  (∀ (name : Str) (kV doc pm : Value) (an : Option Addr) (cda cc : Addr) (ct a b : Value), bindArgs (ksFn name x.qual x.params x.body x.scope .none kV doc pm an (.ref cda) ct cc) ⟨[a, b], []⟩ = pure ([(("self" : Str), a), (x.pn, b)] : List (Str × Value))) ∧
  (x.params.posonlyargs ++ x.params.args).head? = some ar ∧ ar.arg = "self" ∧ x.scope.names.lookup ("super" : Str) = some .globalImplicit ∧ x.scope.names.lookup ("__class__" : Str) = some .free ∧ x.scope.names.lookup ("self" : Str) = some .local ∧ x.scope.names.lookup x.pn = some .local ∧
  x.scope.kind = .function ∧ x.scope.isCoroutine = false ∧ x.scope.isGenerator = false ∧ (∀ y ∈ x.scope.names, y.2 ≠ .cell) ∧
  (∃ pl : Sem Bool, ∀ env, eval (.Call (.Attribute (.Call (.Name "super" p0) [] [] p1) "__init__" p2) [.Constant (.str txt) j p3] [] p4) env = (do
    let ov ← attributeBase (.Call (.Name "super" p0) [] [] p1) "__init__" env (eval (.Call (.Name "super" p0) [] [] p1) env)
    standAt p2.atName
    let (f, first) ← holding [ov] (getMethod ov "__init__" pl)
    callWith p4 f first (backTo p4 (starEach [.Constant (.str txt) j p3] env)) [])) ∧ (∀ env, swapsWith (.Name x.pn p8) (some (.Attribute (.Name "self" p6) x.fld p7)) p9.line env = pure false) ∧ (x.pn == ("self" : Str)) = false ∧ (x.pn == ("__debug__" : Str)) = false
theorem exc_of {prog : Program} {K : Frag} {x : XD} (e : xW K x.cls = x.val) (c : xOk K x = true) (st : XStat x) (hfile : prog.main.file = x.file) (htop : (prog.main.scope.names.lookup ("super" : Str)).isSome = false) :
    ExcC prog K (He.ga K x.cls) x.fld ∧ exmOne K (.ref (He.ga K x.cls)) (.ref (He.ga K x.cls)) = some true ∧ XfC K (He.ga K x.cls) ∧ findIn K (.ref (He.ga K x.cls)) x.fld = some none := by
  obtain ⟨txt, j, p0, p1, p2, p3, p4, p5, p6, p7, p8, p9, ar, b1, b2, b3, b4, b5, b6, b7, b8, b9, b10, b11, b12, b13, b14, b15, b16⟩ := st
  unfold xOk at c
  obtain ⟨c1, c⟩ := He.ba c
  obtain ⟨c2, c⟩ := He.ba c
  obtain ⟨c3, c⟩ := He.ba c
  obtain ⟨c4, c⟩ := He.ba c
  obtain ⟨c5, c⟩ := He.ba c
  obtain ⟨c6, c⟩ := He.ba c
  obtain ⟨c7, c⟩ := He.ba c
  obtain ⟨c8, c⟩ := He.ba c
  obtain ⟨c9, c⟩ := He.ba c
  obtain ⟨c10, c⟩ := He.ba c
  obtain ⟨c11, c⟩ := He.ba c
  obtain ⟨c12, c13⟩ := He.ba c
  refine ⟨⟨⟨He.ma K (He.ga K x.cls) "__init__", x.pn, ⟨excB_ok c1, ?_, of_decide_eq_true c8, htop, of_decide_eq_true c9, of_decide_eq_true c10, of_decide_eq_true c11, b15, b16⟩, of_decide_eq_true c5, of_decide_eq_true c6⟩, of_decide_eq_true c3, of_decide_eq_true c4, c2⟩, of_decide_eq_true c12, xfB_ok c13, of_decide_eq_true c11⟩
  unfold xW at e
  change (match K.lookup (He.ma K (He.ga K x.cls) "__init__") with
    | some ⟨_, _, .func fd, _⟩ => some (fd.name, fd.qualname, fd.params, fd.body, fd.scope, fd.globals, fd.closure.map (·.1), fd.builtins)
    | _ => none) = x.val at e
  cases q : K.lookup (He.ma K (He.ga K x.cls) "__init__") with
  | none => rw [q] at c7; cases c7
  | some o =>
    obtain ⟨oc, od, dt, osl⟩ := o
    rw [q] at c7 e
    cases dt with
    | func fd =>
      obtain ⟨n1, n2, n3, n4, n5, n6, n7, n8, n9, n10, n11, n12, n13, n14, n15⟩ := fd
      dsimp only at c7 e
      have e2 : (some (n1, n2, n3, n4, n5, n6, n7.map (·.1), n15) : XnW) = x.val := e
      unfold XD.val at e2
      simp only [Option.some.injEq, Prod.mk.injEq] at e2
      obtain ⟨h1, h2, h3, h4, h5, h6, h7, h8⟩ := e2
      subst h1 h2 h3 h4 h5 h6 h8
      obtain ⟨d1, c7⟩ := He.ba c7
      obtain ⟨d2, c7⟩ := He.ba c7
      obtain ⟨d3, d4⟩ := He.ba c7
      cases n8 with
      | none =>
        cases n13 with
        | ref cda =>
          dsimp only at d3
          cases hl : K.lookup cda with
          | none => rw [hl] at d3; cases d3
          | some oo =>
            obtain ⟨o1, o2, dd, o3⟩ := oo
            rw [hl] at d3
            cases dd with
            | fields vs =>
              dsimp only at d3
              cases hv : vs[2]? with
              | none => rw [hv] at d3; cases d3
              | some vv =>
                rw [hv] at d3
                cases vv with
                | str file tf =>
                  cases n7 with
                  | nil => cases d4
                  | cons p7 r7 =>
                    cases r7 with
                    | cons => cases d4
                    | nil =>
                      obtain ⟨o4, cc⟩ := p7
                      dsimp only at d4
                      cases hcc : K.lookup cc with
                      | none => rw [hcc] at d4; cases d4
                      | some oc2 =>
                        obtain ⟨k1, k2, dc, k3⟩ := oc2
                        rw [hcc] at d4
                        cases dc with
                        | cell v =>
                          cases v with
                          | none => cases d4
                          | some v =>
                            cases v with
                            | ref a =>
                              have ea : a = He.ga K x.cls := of_decide_eq_true d4
                              subst ea
                              simp only [List.map_cons, List.map_nil, List.cons.injEq, and_true] at h7
                              subst h7
                              have ef : x.file = file := eq_of_beq d3
                              refine ⟨"__init__", x.qual, x.params, x.scope, .none, n9, n10, n11, n12, cda, cc, n14, oc, od, osl, txt, j, p0, p1, p2, p3, p4, p5, p6, p7, p8, p9, ar, vs, file, tf, o1, k1, o2, k2, o3, k3, ?_⟩
                              rw [← b1]
                              exact ⟨rfl, d1, b2 _ _ _ _ _ _ _ _, b3, b4, hl, hv, by rw [hfile, ef]; exact beq_self_eq_true _, hcc, b5, b6, b7, b8, b9, b10, b11, b12, b13, b14⟩
                            | _ => cases d4
                        | _ => cases d4
                | _ => cases d3
            | _ => cases d3
        | _ => cases d3
      | _ => cases d2
    | _ => cases c7
end
/-! ### the Hook -/
abbrev AlX : Type := AlY × List XnW
def obsX (fa : List He.Fa) (fn : List He.DefD) (ex : PySem.W.Frag → Bool) (ts : List He.Tab) (xs : List XD) (K : PySem.W.Frag) : AlX := (obsY fa fn (fun K => ex K && xs.all fun x => xOk K x) ts K, xs.map fun x => xW K x.cls)
def valX (fn : List He.DefD) (ts : List He.Tab) (xs : List XD) (w : World) : AlX := (valY fn ts w, xs.map XD.val)
def SaysX (fa : List He.Fa) (fn : List He.DefD) (ex : PySem.W.Frag → Bool) (ts : List He.Tab) (xs : List XD) (w : World) (K : PySem.W.Frag) : Prop := obsX fa fn ex ts xs K = valX fn ts xs w
def obsXG (n : Nat) (fa : List He.Fa) (fn : List He.DefD) (ex : PySem.W.Frag → Bool) (ts : List He.Tab) (xs : List XD) (g : Addr → Option Obj) : AlX := obsX fa fn ex ts xs (He.frG g (He.asD g n ++ [cStatics]))
def hookX (n : Nat) (fa : List He.Fa) (fn : List He.DefD) (ex : PySem.W.Frag → Bool) (ts : List He.Tab) (xs : List XD) : PySem.W.Hook where
  α := AlX
  obs := fun s => obsXG n fa fn ex ts xs s.heap.get?
  val := fun w => valX fn ts xs w
  says := fun w h => ∃ K : PySem.W.Frag, K.In h ∧ SaysX fa fn ex ts xs w K
  of := fun _ _ e => ⟨_, He.frG_in, e⟩
  keeps := fun _ _ _ ⟨K, hK, c⟩ k => ⟨K, PySem.W.Frag.In.keeps hK k, c⟩
theorem obsXG_eq {n : Nat} {fa : List He.Fa} {fn : List He.DefD} {ex : PySem.W.Frag → Bool} {ts : List He.Tab} {xs : List XD} {g : Addr → Option Obj} {s : Shared} (h : ∀ a, g a = s.heap.get? a) : obsXG n fa fn ex ts xs g = (hookX n fa fn ex ts xs).obs s := by
  have e : g = s.heap.get? := funext h
  rw [e] <;> rfl
theorem SaysX.y {fa : List He.Fa} {fn : List He.DefD} {ex : PySem.W.Frag → Bool} {ts : List He.Tab} {xs : List XD} {w : World} {K : PySem.W.Frag} (c : SaysX fa fn ex ts xs w K) : SaysY fa fn (fun K => ex K && xs.all fun x => xOk K x) ts w K := congrArg (fun z : AlX => z.1) c
theorem SaysX.x {fa : List He.Fa} {fn : List He.DefD} {ex : PySem.W.Frag → Bool} {ts : List He.Tab} {xs : List XD} {w : World} {K : PySem.W.Frag} (c : SaysX fa fn ex ts xs w K) (i : Nat) {x : XD} (h : xs[i]? = some x) : xW K x.cls = x.val ∧ xOk K x = true := by
  have e : xs.map (fun x => xW K x.cls) = xs.map XD.val := congrArg (fun z : AlX => z.2) c
  have e2 : (xs.map fun x => xW K x.cls)[i]? = (xs.map XD.val)[i]? := by rw [e]
  rw [List.getElem?_map, List.getElem?_map, h] at e2
  have h2 := (He.ba c.y.z.2).2
  exact ⟨Option.some.inj e2, List.all_eq_true.mp h2 x (List.mem_of_getElem? h)⟩
end DL
namespace Pg
open PySem PySem.Spec PyProof.Rows L2 DL
/-! ### the text by places -/
def top (i : Nat) : Stmt := PySem.Challenge.pw_askedfor_k21_pieces_of_nested_handlers.main.body.getD i (.Pass ⟨0, 0, 0, 0⟩)
abbrev s_looked_up : Stmt := top 4
abbrev s_calculated : Stmt := top 5
abbrev s_value_shape : Stmt := top 6
abbrev s_Machine_init : Stmt := inClass (top 7) 0
abbrev s_Machine_step : Stmt := inClass (top 7) 1
abbrev s_Machine_wait : Stmt := inClass (top 7) 2
abbrev s_Machine_add_piece : Stmt := inClass (top 7) 3
abbrev s_Machine_run : Stmt := inClass (top 7) 4
abbrev s_Machine_handled : Stmt := inClass (top 7) 5
abbrev s_Machine_begin : Stmt := inClass (top 7) 6
abbrev s_Machine_resume : Stmt := inClass (top 7) 7
abbrev s_Machine_call : Stmt := inClass (top 7) 8
abbrev s_Machine_ask : Stmt := inClass (top 7) 9
abbrev s_Machine_answer : Stmt := inClass (top 7) 10
abbrev s_run_counted : Stmt := top 8
abbrev s_law_state : Stmt := top 10
abbrev s_law_take : Stmt := top 11
abbrev s_law : Stmt := top 12
inductive Fn where
  | looked_up | calculated | value_shape | Machine_init | Machine_step | Machine_wait | Machine_add_piece | Machine_run | Machine_handled | Machine_begin | Machine_resume | Machine_call | Machine_ask | Machine_answer | run_counted | law_state | law_take | law
abbrev N_looked_up : List Str := ["env", "name"]
abbrev N_calculated : List Str := ["sign", "one", "two", "numbers"]
abbrev N_value_shape : List Str := ["value"]
abbrev N_Machine_init : List Str := ["self", "steps"]
abbrev N_Machine_step : List Str := ["self"]
abbrev N_Machine_wait : List Str := ["self", "frame"]
abbrev N_Machine_add_piece : List Str := ["self", "handler", "frames"]
abbrev N_Machine_run : List Str := ["self", "expression", "current", "env", "value", "frame"]
abbrev N_Machine_handled : List Str := ["self", "value", "name", "body", "clauses", "env"]
abbrev N_Machine_begin : List Str := ["self", "current", "env", "head"]
abbrev N_Machine_resume : List Str := ["self", "frame", "value", "head"]
abbrev N_Machine_call : List Str := ["self", "function", "argument", "handler", "frames", "env"]
abbrev N_Machine_ask : List Str := ["self", "name", "value", "place", "last", "body", "clauses", "env", "clause"]
abbrev N_Machine_answer : List Str := ["self", "place", "clause", "value", "env", "taken", "pieces", "handler", "frames", "inner"]
abbrev N_run_counted : List Str := ["expression", "steps", "machine", "end", "stop"]
abbrev N_law_state : List Str := ["_law_script", "_law_cells", "_law_cell"]
abbrev N_law_take : List Str := ["_law_state_here", "_law_most", "_law_cells", "_law_at", "_law_cell", "_law_mixed"]
abbrev N_law : List Str := ["_law_script", "_law_state_here", "_law_count", "_law_first", "_law_second", "_law_answers", "_law_k", "_law_tree", "_law_k_here", "_law_body", "_law_told", "_law_value"]
/-! ### constants -/
def c_HALF : D := .int 2147483648
def c_UNIT : D := .tup [.str "unit"]
/-! ### what the defs do -/
def b_Machine_wait (W M : Fn → DSp) (E : DX → DEnv → Store → Prop) : DS :=
  (dDrop (dBM "list" mAppend (dOp dIx (dOp dIx (dFld 0 "pieces" (dVar 0)) (dUn dNeg (dC (.int 1)))) (dC (.int 1))) (dCons (dVar 1) dNil)))
def stW_Machine_wait : DSp := runD 2 (b_Machine_wait (fun _ => noSp) (fun _ => noSp))
def b_looked_up (W M : Fn → DSp) (E : DX → DEnv → Store → Prop) : DS :=
  (dSeq (dWhile (dTest (dOp dNe (dOp dIx (dVar 0) (dC (.int 0))) (dVar 1))) (dAsg (dOp dIx (dVar 0) (dC (.int 2))) (gN 0)))
  (dRet (dOp dIx (dVar 0) (dC (.int 1)))))
def b_calculated (W M : Fn → DSp) (E : DX → DEnv → Store → Prop) : DS :=
  (dSeq (dIfS (dTest (dOp dEq (dVar 0) (dC (.str "<")))) (dRet (dTup (dCons (dC (.str "bool")) (dCons (dOp dLt (dVar 1) (dVar 2)) dNil)))) dNext)
  (dSeq (dIfS (dTest (dOp dEq (dVar 0) (dC (.str "==")))) (dRet (dTup (dCons (dC (.str "bool")) (dCons (dOp dEq (dVar 1) (dVar 2)) dNil)))) dNext)
  (dSeq (dAsg (dDicD [("+", (dOp dAdd (dVar 1) (dVar 2))), ("-", (dOp dSub (dVar 1) (dVar 2))), ("*", (dOp dMul (dVar 1) (dVar 2)))]) (gN 3))
  (dRet (dTup (dCons (dC (.str "int")) (dCons (dOp dSub (dOp dMod (dCB bInt (dCons (dOp dAdd (dOp dIx (dVar 3) (dVar 0)) (dC c_HALF)) dNil)) (dOp dMul (dC (.int 2)) (dC c_HALF))) (dC c_HALF)) dNil)))))))
def b_value_shape (W M : Fn → DSp) (E : DX → DEnv → Store → Prop) : DS :=
  (dSeq (dIfS (dTest (dOp dEq (dOp dIx (dVar 0) (dC (.int 0))) (dC (.str "pair")))) (dRet (dTup (dCons (dC (.str "pair")) (dCons (dCall (W .value_shape) E (dCons (dOp dIx (dVar 0) (dC (.int 1))) dNil)) (dCons (dCall (W .value_shape) E (dCons (dOp dIx (dVar 0) (dC (.int 2))) dNil)) dNil))))) dNext)
  (dSeq (dIfS (dTest (dOp (dIn false) (dOp dIx (dVar 0) (dC (.int 0))) (dTup (dCons (dC (.str "int")) (dCons (dC (.str "bool")) (dCons (dC (.str "unit")) dNil)))))) (dRet (dVar 0)) dNext)
  (dRet (dTup (dCons (dC (.str "fun")) dNil)))))
def b_Machine_init (W M : Fn → DSp) (E : DX → DEnv → Store → Prop) : DS :=
  (dSeq (dPutF 0 "left" (dVar 0) (dVar 1))
  (dSeq (dPutF 0 "prints" (dVar 0) (dLstM dNil))
  (dSeq (dPutF 0 "pieces" (dVar 0) (dLstM (dCons (dTup (dCons (dC .non) (dCons (dLstM dNil) dNil))) dNil)))
  (dSeq (dPutF 0 "kept" (dVar 0) (dC (.int 0)))
  (dPutF 0 "most" (dVar 0) (dC (.int 1)))))))
def b_Machine_step (W M : Fn → DSp) (E : DX → DEnv → Store → Prop) : DS :=
  (dSeq (dIfS (dTest (dOp dEq (dFld 0 "left" (dVar 0)) (dC (.int 0)))) (dRaise 1 "end" (dTup (dCons (dC (.str "steps")) dNil)) E) dNext)
  (dAugF 0 "left" (fun i j => i - j) (dVar 0) (dC (.int 1))))
def b_Machine_add_piece (W M : Fn → DSp) (E : DX → DEnv → Store → Prop) : DS :=
  (dSeq (dDrop (dBM "list" mAppend (dFld 0 "pieces" (dVar 0)) (dCons (dTup (dCons (dVar 1) (dCons (dCB bListM (dCons (dVar 2) dNil)) dNil))) dNil)))
  (dPutF 0 "most" (dVar 0) (dCB bMax2 (dCons (dFld 0 "most" (dVar 0)) (dCons (dCB bLen (dCons (dFld 0 "pieces" (dVar 0)) dNil)) dNil)))))
def b_Machine_run (W M : Fn → DSp) (E : DX → DEnv → Store → Prop) : DS :=
  (dSeq (dPar3 2 3 4 (dCons (dVar 1) (dCons (dC .non) (dCons (dC .non) dNil))))
  (dWhile (dTru (dC (.bl true))) (dIfS (dTest (dOp dIsNot (dVar 2) (dC .non))) (dAsg (dMeth 0 "begin" (W .Machine_begin) E (dVar 0) (dCons (dVar 2) (dCons (dVar 3) dNil))) (gTp 3 (gsC (gN 2) (gsC (gN 3) (gsC (gN 4) gsN))))) (dIfS (dTru (dOp dIx (dOp dIx (dFld 0 "pieces" (dVar 0)) (dUn dNeg (dC (.int 1)))) (dC (.int 1)))) (dSeq (dAsg (dBM0 "list" mPop (dOp dIx (dOp dIx (dFld 0 "pieces" (dVar 0)) (dUn dNeg (dC (.int 1)))) (dC (.int 1)))) (gN 5))
  (dAsg (dMeth 0 "resume" (W .Machine_resume) E (dVar 0) (dCons (dVar 5) (dCons (dVar 4) dNil))) (gTp 3 (gsC (gN 2) (gsC (gN 3) (gsC (gN 4) gsN)))))) (dIfS (dTest (dOp dEq (dCB bLen (dCons (dFld 0 "pieces" (dVar 0)) dNil)) (dC (.int 1)))) (dRet (dVar 4)) (dAsg (dMeth 0 "handled" (W .Machine_handled) E (dVar 0) (dCons (dVar 4) dNil)) (gTp 3 (gsC (gN 2) (gsC (gN 3) (gsC (gN 4) gsN))))))))))
def b_Machine_handled (W M : Fn → DSp) (E : DX → DEnv → Store → Prop) : DS :=
  (dSeq (dAsg (dOp dIx (dBM0 "list" mPop (dFld 0 "pieces" (dVar 0))) (dC (.int 0))) (gTp 4 (gsC (gN 2) (gsC (gN 3) (gsC (gN 4) (gsC (gN 5) gsN))))))
  (dRet (dTup (dCons (dVar 3) (dCons (dTup (dCons (dVar 2) (dCons (dVar 1) (dCons (dVar 5) dNil)))) (dCons (dC .non) dNil))))))
def b_Machine_begin (W M : Fn → DSp) (E : DX → DEnv → Store → Prop) : DS :=
  (dSeq (dAsg (dOp dIx (dVar 1) (dC (.int 0))) (gN 3))
  (dSeq (dIfS (dTest (dOp dEq (dVar 3) (dC (.str "num")))) (dRet (dTup (dCons (dC .non) (dCons (dC .non) (dCons (dTup (dCons (dC (.str "int")) (dCons (dOp dIx (dVar 1) (dC (.int 1))) dNil))) dNil))))) dNext)
  (dSeq (dIfS (dTest (dOp dEq (dVar 3) (dC (.str "flag")))) (dRet (dTup (dCons (dC .non) (dCons (dC .non) (dCons (dTup (dCons (dC (.str "bool")) (dCons (dOp dIx (dVar 1) (dC (.int 1))) dNil))) dNil))))) dNext)
  (dSeq (dIfS (dTest (dOp dEq (dVar 3) (dC (.str "unit")))) (dRet (dTup (dCons (dC .non) (dCons (dC .non) (dCons (dC c_UNIT) dNil))))) dNext)
  (dSeq (dIfS (dTest (dOp dEq (dVar 3) (dC (.str "name")))) (dRet (dTup (dCons (dC .non) (dCons (dC .non) (dCons (dCall (W .looked_up) E (dCons (dVar 2) (dCons (dOp dIx (dVar 1) (dC (.int 1))) dNil))) dNil))))) dNext)
  (dSeq (dIfS (dTest (dOp dEq (dVar 3) (dC (.str "fun")))) (dRet (dTup (dCons (dC .non) (dCons (dC .non) (dCons (dTup (dCons (dC (.str "fun")) (dCons (dC .non) (dCons (dOp dIx (dVar 1) (dC (.int 1))) (dCons (dOp dIx (dVar 1) (dC (.int 2))) (dCons (dVar 2) dNil)))))) dNil))))) dNext)
  (dSeq (dIfS (dTest (dOp dEq (dVar 3) (dC (.str "rec")))) (dRet (dTup (dCons (dC .non) (dCons (dC .non) (dCons (dTup (dCons (dC (.str "fun")) (dCons (dOp dIx (dVar 1) (dC (.int 1))) (dCons (dOp dIx (dVar 1) (dC (.int 2))) (dCons (dOp dIx (dVar 1) (dC (.int 3))) (dCons (dVar 2) dNil)))))) dNil))))) dNext)
  (dSeq (dIfS (dTest (dOp dEq (dVar 3) (dC (.str "handle")))) (dSeq (dDrop (dMeth 0 "add_piece" (W .Machine_add_piece) E (dVar 0) (dCons (dTup (dCons (dOp dIx (dOp dIx (dVar 1) (dC (.int 2))) (dC (.int 0))) (dCons (dOp dIx (dOp dIx (dVar 1) (dC (.int 2))) (dC (.int 1))) (dCons (dOp dIx (dVar 1) (dC (.int 3))) (dCons (dVar 2) dNil))))) (dCons (dLst dNil) dNil))))
  (dRet (dTup (dCons (dOp dIx (dVar 1) (dC (.int 1))) (dCons (dVar 2) (dCons (dC .non) dNil)))))) dNext)
  (dSeq (dDrop (dMethS 0 "wait" stW_Machine_wait E (dVar 0) (dCons (dVar 3) (dCons (dVar 1) (dCons (dVar 2) dNil)))))
  (dSeq (dIfS (dTest (dOp (dIn false) (dVar 3) (dTup (dCons (dC (.str "let")) (dCons (dC (.str "op")) (dCons (dC (.str "ask")) dNil)))))) (dRet (dTup (dCons (dOp dIx (dVar 1) (dC (.int 2))) (dCons (dVar 2) (dCons (dC .non) dNil))))) dNext)
  (dRet (dTup (dCons (dOp dIx (dVar 1) (dC (.int 1))) (dCons (dVar 2) (dCons (dC .non) dNil)))))))))))))))
def b_Machine_resume (W M : Fn → DSp) (E : DX → DEnv → Store → Prop) : DS :=
  (dSeq (dAsg (dOp dIx (dVar 1) (dC (.int 0))) (gN 3))
  (dSeq (dIfS (dOr (dTest (dOp dEq (dVar 3) (dC (.str "call")))) (dTest (dOp dEq (dVar 3) (dC (.str "pair"))))) (dSeq (dDrop (dMethS 0 "wait" stW_Machine_wait E (dVar 0) (dCons (dOp dAdd (dVar 3) (dC (.str "2"))) (dCons (dVar 2) dNil))))
  (dRet (dTup (dCons (dOp dIx (dOp dIx (dVar 1) (dC (.int 1))) (dC (.int 2))) (dCons (dOp dIx (dVar 1) (dC (.int 2))) (dCons (dC .non) dNil)))))) dNext)
  (dSeq (dIfS (dTest (dOp dEq (dVar 3) (dC (.str "op")))) (dSeq (dDrop (dMethS 0 "wait" stW_Machine_wait E (dVar 0) (dCons (dC (.str "op2")) (dCons (dOp dIx (dOp dIx (dVar 1) (dC (.int 1))) (dC (.int 1))) (dCons (dVar 2) dNil)))))
  (dRet (dTup (dCons (dOp dIx (dOp dIx (dVar 1) (dC (.int 1))) (dC (.int 3))) (dCons (dOp dIx (dVar 1) (dC (.int 2))) (dCons (dC .non) dNil)))))) dNext)
  (dSeq (dIfS (dTest (dOp dEq (dVar 3) (dC (.str "pair2")))) (dRet (dTup (dCons (dC .non) (dCons (dC .non) (dCons (dTup (dCons (dC (.str "pair")) (dCons (dOp dIx (dVar 1) (dC (.int 1))) (dCons (dVar 2) dNil)))) dNil))))) dNext)
  (dSeq (dIfS (dTest (dOp dEq (dVar 3) (dC (.str "op2")))) (dRet (dTup (dCons (dC .non) (dCons (dC .non) (dCons (dCall (W .calculated) E (dCons (dOp dIx (dVar 1) (dC (.int 1))) (dCons (dOp dIx (dOp dIx (dVar 1) (dC (.int 2))) (dC (.int 1))) (dCons (dOp dIx (dVar 2) (dC (.int 1))) dNil)))) dNil))))) dNext)
  (dSeq (dIfS (dTest (dOp dEq (dVar 3) (dC (.str "call2")))) (dRet (dMeth 0 "call" (W .Machine_call) E (dVar 0) (dCons (dOp dIx (dVar 1) (dC (.int 1))) (dCons (dVar 2) dNil)))) dNext)
  (dSeq (dIfS (dTest (dOp dEq (dVar 3) (dC (.str "let")))) (dRet (dTup (dCons (dOp dIx (dOp dIx (dVar 1) (dC (.int 1))) (dC (.int 3))) (dCons (dTup (dCons (dOp dIx (dOp dIx (dVar 1) (dC (.int 1))) (dC (.int 1))) (dCons (dVar 2) (dCons (dOp dIx (dVar 1) (dC (.int 2))) dNil)))) (dCons (dC .non) dNil))))) dNext)
  (dSeq (dIfS (dTest (dOp dEq (dVar 3) (dC (.str "if")))) (dRet (dTup (dCons (dIf (dTru (dOp dIx (dVar 2) (dC (.int 1)))) (dOp dIx (dOp dIx (dVar 1) (dC (.int 1))) (dC (.int 2))) (dOp dIx (dOp dIx (dVar 1) (dC (.int 1))) (dC (.int 3)))) (dCons (dOp dIx (dVar 1) (dC (.int 2))) (dCons (dC .non) dNil))))) dNext)
  (dSeq (dIfS (dTest (dOp dEq (dVar 3) (dC (.str "print")))) (dSeq (dDrop (dBM "list" mAppend (dFld 0 "prints" (dVar 0)) (dCons (dOp dIx (dVar 2) (dC (.int 1))) dNil)))
  (dRet (dTup (dCons (dOp dIx (dOp dIx (dVar 1) (dC (.int 1))) (dC (.int 2))) (dCons (dOp dIx (dVar 1) (dC (.int 2))) (dCons (dC .non) dNil)))))) dNext)
  (dSeq (dIfS (dTest (dOp dEq (dVar 3) (dC (.str "ask")))) (dRet (dMeth 0 "ask" (W .Machine_ask) E (dVar 0) (dCons (dOp dIx (dOp dIx (dVar 1) (dC (.int 1))) (dC (.int 1))) (dCons (dVar 2) dNil)))) dNext)
  (dSeq (dIfS (dTest (dOp dEq (dVar 3) (dC (.str "not")))) (dRet (dTup (dCons (dC .non) (dCons (dC .non) (dCons (dTup (dCons (dC (.str "bool")) (dCons (dNotV (dOp dIx (dVar 2) (dC (.int 1)))) dNil))) dNil))))) dNext)
  (dRet (dTup (dCons (dC .non) (dCons (dC .non) (dCons (dOp dIx (dVar 2) (dOp dAdd (dC (.int 1)) (dCB bInt (dCons (dOp dEq (dVar 3) (dC (.str "snd"))) dNil)))) dNil))))))))))))))))
def b_Machine_call (W M : Fn → DSp) (E : DX → DEnv → Store → Prop) : DS :=
  (dSeq (dDrop (dMeth 0 "step" (W .Machine_step) E (dVar 0) dNil))
  (dSeq (dIfS (dTest (dOp dEq (dOp dIx (dVar 1) (dC (.int 0))) (dC (.str "kept")))) (dSeq (dFor (iT (dOp dIx (dVar 1) (dC (.int 1)))) (gTp 2 (gsC (gN 3) (gsC (gN 4) gsN))) (dDrop (dMeth 0 "add_piece" (W .Machine_add_piece) E (dVar 0) (dCons (dVar 3) (dCons (dVar 4) dNil)))))
  (dRet (dTup (dCons (dC .non) (dCons (dC .non) (dCons (dVar 2) dNil)))))) dNext)
  (dSeq (dAsg (dOp dIx (dVar 1) (dC (.int 4))) (gN 5))
  (dSeq (dIfS (dTest (dOp dIsNot (dOp dIx (dVar 1) (dC (.int 1))) (dC .non))) (dAsg (dTup (dCons (dOp dIx (dVar 1) (dC (.int 1))) (dCons (dVar 1) (dCons (dVar 5) dNil)))) (gN 5)) dNext)
  (dRet (dTup (dCons (dOp dIx (dVar 1) (dC (.int 3))) (dCons (dTup (dCons (dOp dIx (dVar 1) (dC (.int 2))) (dCons (dVar 2) (dCons (dVar 5) dNil)))) (dCons (dC .non) dNil)))))))))
def b_Machine_ask (W M : Fn → DSp) (E : DX → DEnv → Store → Prop) : DS :=
  (dSeq (dDrop (dMeth 0 "step" (W .Machine_step) E (dVar 0) dNil))
  (dSeq (dFor (iRvR (rg2 (dC (.int 1)) (dCB bLen (dCons (dFld 0 "pieces" (dVar 0)) dNil)))) (gN 3) (dSeq (dAsg (dOp dIx (dOp dIx (dFld 0 "pieces" (dVar 0)) (dVar 3)) (dC (.int 0))) (gTp 4 (gsC (gN 4) (gsC (gN 5) (gsC (gN 6) (gsC (gN 7) gsN))))))
  (dFor (iT (dVar 6)) (gN 8) (dIfS (dTest (dOp dEq (dOp dIx (dVar 8) (dC (.int 0))) (dVar 1))) (dRet (dMeth 0 "answer" (W .Machine_answer) E (dVar 0) (dCons (dVar 3) (dCons (dVar 8) (dCons (dVar 2) (dCons (dVar 7) dNil)))))) dNext))))
  (dRaise 1 "end" (dTup (dCons (dC (.str "unhandled")) (dCons (dVar 1) dNil))) E)))
def b_Machine_answer (W M : Fn → DSp) (E : DX → DEnv → Store → Prop) : DS :=
  (dSeq (dAsg (dSl slD (dFld 0 "pieces" (dVar 0)) (dPart (dVar 1)) dNoPart) (gN 5))
  (dSeq (dPutF 0 "pieces" (dVar 0) (dSl slM (dFld 0 "pieces" (dVar 0)) dNoPart (dPart (dVar 1))))
  (dSeq (dAugF 0 "kept" (fun i j => i + j) (dVar 0) (dCB bLen (dCons (dVar 5) dNil)))
  (dSeq (dAsg (dCB bTuple (dCons (dLc (iL (dVar 5)) (.many [7, 8]) dYes (dTup (dCons (dVar 7) (dCons (dCB bTuple (dCons (dVar 8) dNil)) dNil))) [7, 8]) dNil)) (gN 6))
  (dSeq (dAsg (dTup (dCons (dOp dIx (dVar 2) (dC (.int 2))) (dCons (dTup (dCons (dC (.str "kept")) (dCons (dVar 6) dNil))) (dCons (dTup (dCons (dOp dIx (dVar 2) (dC (.int 1))) (dCons (dVar 3) (dCons (dVar 4) dNil)))) dNil)))) (gN 9))
  (dRet (dTup (dCons (dOp dIx (dVar 2) (dC (.int 3))) (dCons (dVar 9) (dCons (dC .non) dNil))))))))))
def b_run_counted (W M : Fn → DSp) (E : DX → DEnv → Store → Prop) : DS :=
  (dSeq (dAsg (dMake 0 (M .Machine_init) E (dCons (dVar 1) dNil)) (gN 2))
  (dSeq (dTryAs 1 4 (fun E1 => (dAsg (dTup (dCons (dC (.str "value")) (dCons (dCall (W .value_shape) E1 (dCons (dMeth 0 "run" (W .Machine_run) E1 (dVar 2) (dCons (dVar 0) dNil)) dNil)) dNil))) (gN 3))) (fun xa xy => (dAsg (dXf xa 4 xy "end") (gN 3))))
  (dRet (dTup (dCons (dCB bTuple (dCons (dFld 0 "prints" (dVar 2)) dNil)) (dCons (dVar 3) (dCons (dTup (dCons (dFld 0 "kept" (dVar 2)) (dCons (dFld 0 "most" (dVar 2)) dNil))) dNil)))))))
def b_law_state (W M : Fn → DSp) (E : DX → DEnv → Store → Prop) : DS :=
  (dSeq (dAsg (dLcM (iL (dSl slD (dVar 0) dNoPart (dPart (dC (.int 63))))) (.one 2) dYes (dCB bAbs (dCons (dVar 2) dNil)) [2]) (gN 1))
  (dSeq (dIfS (dTest (dOp dEq (dCB bLen (dCons (dVar 1) dNil)) (dC (.int 0)))) (dAsg (dLstM (dCons (dC (.int 0)) dNil)) (gN 1)) dNext)
  (dRet (dLstM (dCons (dC (.int 0)) (dCons (dVar 1) dNil))))))
def b_law_take (W M : Fn → DSp) (E : DX → DEnv → Store → Prop) : DS :=
  (dSeq (dAsg (dOp dIx (dVar 0) (dC (.int 1))) (gN 2))
  (dSeq (dAsg (dOp dMod (dOp dIx (dVar 0) (dC (.int 0))) (dCB bLen (dCons (dVar 2) dNil))) (gN 3))
  (dSeq (dAsg (dOp dIx (dVar 2) (dVar 3)) (gN 4))
  (dSeq (dIfS (dTest (dOp dGe (dVar 4) (dC (.int 1000000000000000000)))) (dSeq (dAsg (dOp dDiv (dVar 4) (dVar 1)) (gSb (dVar 2) (dVar 3) stD))
  (dRet (dOp dMod (dVar 4) (dVar 1)))) dNext)
  (dSeq (dAsg (dOp dAdd (dOp dIx (dVar 0) (dC (.int 0))) (dC (.int 1))) (gSb (dVar 0) (dC (.int 0)) stD))
  (dSeq (dAsg (dOp dMod (dCB bInt (dCons (dOp dAdd (dOp dMul (dVar 4) (dC (.int 48271))) (dOp dMul (dOp dIx (dVar 0) (dC (.int 0))) (dC (.int 69621)))) dNil)) (dC (.int 2147483647))) (gN 5))
  (dSeq (dAsg (dOp dMod (dCB bInt (dCons (dOp dAdd (dOp dMul (dVar 5) (dC (.int 16807))) (dOp dMul (dOp dIx (dVar 0) (dC (.int 0))) (dC (.int 7919)))) dNil)) (dC (.int 1000000007))) (gN 5))
  (dRet (dOp dMod (dOp dDiv (dVar 5) (dC (.int 7))) (dVar 1))))))))))
def b_law (W M : Fn → DSp) (E : DX → DEnv → Store → Prop) : DS :=
  (dSeq (dAsg (dCall (W .law_state) E (dCons (dVar 0) dNil)) (gN 1))
  (dSeq (dAsg (dOp dAdd (dC (.int 1)) (dCall (W .law_take) E (dCons (dVar 1) (dCons (dC (.int 6)) dNil)))) (gN 2))
  (dSeq (dPar 3 4 (dCons (dCall (W .law_take) E (dCons (dVar 1) (dCons (dVar 2) dNil))) (dCons (dCall (W .law_take) E (dCons (dVar 1) (dCons (dVar 2) dNil))) dNil)))
  (dSeq (dAsg (dLc (iR1 (dCons (dVar 2) dNil)) (.one 6) dYes (dCall (W .law_take) noX (dCons (dVar 1) (dCons (dC (.int 50)) dNil))) [6]) (gN 5))
  (dSeq (dAsg (dTup (dCons (dC (.str "op")) (dCons (dC (.str "-")) (dCons (dTup (dCons (dC (.str "ask")) (dCons (dOp dAdd (dC (.str "o")) (dCB bStr (dCons (dVar 3) dNil))) (dCons (dTup (dCons (dC (.str "num")) (dCons (dC (.int 1)) dNil))) dNil)))) (dCons (dTup (dCons (dC (.str "ask")) (dCons (dOp dAdd (dC (.str "o")) (dCB bStr (dCons (dVar 4) dNil))) (dCons (dTup (dCons (dC (.str "num")) (dCons (dC (.int 2)) dNil))) dNil)))) dNil))))) (gN 7))
  (dSeq (dFor (iR1 (dCons (dVar 2) dNil)) (gN 8) (dSeq (dAsg (dTup (dCons (dC (.str "print")) (dCons (dTup (dCons (dC (.str "name")) (dCons (dC (.str "x")) dNil))) (dCons (dTup (dCons (dC (.str "call")) (dCons (dTup (dCons (dC (.str "name")) (dCons (dC (.str "k")) dNil))) (dCons (dTup (dCons (dC (.str "num")) (dCons (dOp dIx (dVar 5) (dVar 8)) dNil))) dNil)))) dNil)))) (gN 9))
  (dAsg (dTup (dCons (dC (.str "handle")) (dCons (dVar 7) (dCons (dTup (dCons (dC (.str "r")) (dCons (dTup (dCons (dC (.str "op")) (dCons (dC (.str "+")) (dCons (dTup (dCons (dC (.str "name")) (dCons (dC (.str "r")) dNil))) (dCons (dTup (dCons (dC (.str "num")) (dCons (dC (.int 1)) dNil))) dNil))))) dNil))) (dCons (dTup (dCons (dTup (dCons (dOp dAdd (dC (.str "o")) (dCB bStr (dCons (dVar 8) dNil))) (dCons (dC (.str "x")) (dCons (dC (.str "k")) (dCons (dVar 9) dNil))))) dNil)) dNil))))) (gN 7))))
  (dSeq (dAsg (dCall (W .run_counted) E (dCons (dVar 7) (dCons (dOp dAdd (dC (.int 4)) (dCall (W .law_take) E (dCons (dVar 1) (dCons (dC (.int 9)) dNil)))) dNil))) (gN 10))
  (dSeq (dAsg (dOp dAdd (dOp dSub (dOp dIx (dVar 5) (dVar 3)) (dOp dIx (dVar 5) (dVar 4))) (dVar 2)) (gN 11))
  (dRet (dOp dEq (dVar 10) (dTup (dCons (dTup (dCons (dC (.int 1)) (dCons (dC (.int 2)) dNil))) (dCons (dTup (dCons (dC (.str "value")) (dCons (dTup (dCons (dC (.str "int")) (dCons (dVar 11) dNil))) dNil))) (dCons (dTup (dCons (dOp dAdd (dOp dAdd (dOp dAdd (dVar 3) (dC (.int 1))) (dVar 4)) (dC (.int 1))) (dCons (dOp dAdd (dVar 2) (dC (.int 1))) dNil))) dNil))))))))))))))
def bodies : Fn → (Fn → DSp) → (Fn → DSp) → DBody
  | .looked_up => b_looked_up
  | .calculated => b_calculated
  | .value_shape => b_value_shape
  | .Machine_init => b_Machine_init
  | .Machine_step => b_Machine_step
  | .Machine_wait => b_Machine_wait
  | .Machine_add_piece => b_Machine_add_piece
  | .Machine_run => b_Machine_run
  | .Machine_handled => b_Machine_handled
  | .Machine_begin => b_Machine_begin
  | .Machine_resume => b_Machine_resume
  | .Machine_call => b_Machine_call
  | .Machine_ask => b_Machine_ask
  | .Machine_answer => b_Machine_answer
  | .run_counted => b_run_counted
  | .law_state => b_law_state
  | .law_take => b_law_take
  | .law => b_law
def nloc : Fn → Nat
  | .looked_up => 2
  | .calculated => 4
  | .value_shape => 1
  | .Machine_init => 2
  | .Machine_step => 1
  | .Machine_wait => 2
  | .Machine_add_piece => 3
  | .Machine_run => 6
  | .Machine_handled => 6
  | .Machine_begin => 4
  | .Machine_resume => 4
  | .Machine_call => 6
  | .Machine_ask => 9
  | .Machine_answer => 10
  | .run_counted => 5
  | .law_state => 3
  | .law_take => 6
  | .law => 12
def arity : Fn → Nat
  | .looked_up => 2
  | .calculated => 3
  | .value_shape => 1
  | .Machine_init => 2
  | .Machine_step => 1
  | .Machine_wait => 2
  | .Machine_add_piece => 3
  | .Machine_run => 2
  | .Machine_handled => 2
  | .Machine_begin => 3
  | .Machine_resume => 3
  | .Machine_call => 3
  | .Machine_ask => 3
  | .Machine_answer => 5
  | .run_counted => 2
  | .law_state => 1
  | .law_take => 2
  | .law => 1
def pars : Fn → List Str
  | .looked_up => ["env", "name"]
  | .calculated => ["sign", "one", "two"]
  | .value_shape => ["value"]
  | .Machine_init => ["self", "steps"]
  | .Machine_step => ["self"]
  | .Machine_wait => ["self", "frame"]
  | .Machine_add_piece => ["self", "handler", "frames"]
  | .Machine_run => ["self", "expression"]
  | .Machine_handled => ["self", "value"]
  | .Machine_begin => ["self", "current", "env"]
  | .Machine_resume => ["self", "frame", "value"]
  | .Machine_call => ["self", "function", "argument"]
  | .Machine_ask => ["self", "name", "value"]
  | .Machine_answer => ["self", "place", "clause", "value", "env"]
  | .run_counted => ["expression", "steps"]
  | .law_state => ["_law_script"]
  | .law_take => ["_law_state_here", "_law_most"]
  | .law => ["_law_script"]
abbrev go (k : Nat) (f : Fn) : DSp := wrk nloc bodies k f
abbrev goM (k : Nat) (f : Fn) : DSp := wrM nloc bodies k f
theorem go_looked_up {k : Nat} {ds : List D} {S : Store} {Q : QE} {E : XQ} : go (k + 1) .looked_up ds S Q E = b_looked_up (go k) (goM k) (fun x _ S1 => E x S1) { nx := fun _ S1 => Q .non S1, rt := Q } (startD 2 ds) S := by rw [go, wrk_succ]; rfl
theorem go_calculated {k : Nat} {ds : List D} {S : Store} {Q : QE} {E : XQ} : go (k + 1) .calculated ds S Q E = b_calculated (go k) (goM k) (fun x _ S1 => E x S1) { nx := fun _ S1 => Q .non S1, rt := Q } (startD 4 ds) S := by rw [go, wrk_succ]; rfl
theorem go_value_shape {k : Nat} {ds : List D} {S : Store} {Q : QE} {E : XQ} : go (k + 1) .value_shape ds S Q E = b_value_shape (go k) (goM k) (fun x _ S1 => E x S1) { nx := fun _ S1 => Q .non S1, rt := Q } (startD 1 ds) S := by rw [go, wrk_succ]; rfl
theorem go_Machine_init {k : Nat} {ds : List D} {S : Store} {Q : QE} {E : XQ} : go (k + 1) .Machine_init ds S Q E = b_Machine_init (go k) (goM k) (fun x _ S1 => E x S1) { nx := fun _ S1 => Q .non S1, rt := Q } (startD 2 ds) S := by rw [go, wrk_succ]; rfl
theorem go_Machine_step {k : Nat} {ds : List D} {S : Store} {Q : QE} {E : XQ} : go (k + 1) .Machine_step ds S Q E = b_Machine_step (go k) (goM k) (fun x _ S1 => E x S1) { nx := fun _ S1 => Q .non S1, rt := Q } (startD 1 ds) S := by rw [go, wrk_succ]; rfl
theorem go_Machine_wait {k : Nat} {ds : List D} {S : Store} {Q : QE} {E : XQ} : go (k + 1) .Machine_wait ds S Q E = b_Machine_wait (go k) (goM k) (fun x _ S1 => E x S1) { nx := fun _ S1 => Q .non S1, rt := Q } (startD 2 ds) S := by rw [go, wrk_succ]; rfl
theorem go_Machine_add_piece {k : Nat} {ds : List D} {S : Store} {Q : QE} {E : XQ} : go (k + 1) .Machine_add_piece ds S Q E = b_Machine_add_piece (go k) (goM k) (fun x _ S1 => E x S1) { nx := fun _ S1 => Q .non S1, rt := Q } (startD 3 ds) S := by rw [go, wrk_succ]; rfl
theorem go_Machine_run {k : Nat} {ds : List D} {S : Store} {Q : QE} {E : XQ} : go (k + 1) .Machine_run ds S Q E = b_Machine_run (go k) (goM k) (fun x _ S1 => E x S1) { nx := fun _ S1 => Q .non S1, rt := Q } (startD 6 ds) S := by rw [go, wrk_succ]; rfl
theorem go_Machine_handled {k : Nat} {ds : List D} {S : Store} {Q : QE} {E : XQ} : go (k + 1) .Machine_handled ds S Q E = b_Machine_handled (go k) (goM k) (fun x _ S1 => E x S1) { nx := fun _ S1 => Q .non S1, rt := Q } (startD 6 ds) S := by rw [go, wrk_succ]; rfl
theorem go_Machine_begin {k : Nat} {ds : List D} {S : Store} {Q : QE} {E : XQ} : go (k + 1) .Machine_begin ds S Q E = b_Machine_begin (go k) (goM k) (fun x _ S1 => E x S1) { nx := fun _ S1 => Q .non S1, rt := Q } (startD 4 ds) S := by rw [go, wrk_succ]; rfl
theorem go_Machine_resume {k : Nat} {ds : List D} {S : Store} {Q : QE} {E : XQ} : go (k + 1) .Machine_resume ds S Q E = b_Machine_resume (go k) (goM k) (fun x _ S1 => E x S1) { nx := fun _ S1 => Q .non S1, rt := Q } (startD 4 ds) S := by rw [go, wrk_succ]; rfl
theorem go_Machine_call {k : Nat} {ds : List D} {S : Store} {Q : QE} {E : XQ} : go (k + 1) .Machine_call ds S Q E = b_Machine_call (go k) (goM k) (fun x _ S1 => E x S1) { nx := fun _ S1 => Q .non S1, rt := Q } (startD 6 ds) S := by rw [go, wrk_succ]; rfl
theorem go_Machine_ask {k : Nat} {ds : List D} {S : Store} {Q : QE} {E : XQ} : go (k + 1) .Machine_ask ds S Q E = b_Machine_ask (go k) (goM k) (fun x _ S1 => E x S1) { nx := fun _ S1 => Q .non S1, rt := Q } (startD 9 ds) S := by rw [go, wrk_succ]; rfl
theorem go_Machine_answer {k : Nat} {ds : List D} {S : Store} {Q : QE} {E : XQ} : go (k + 1) .Machine_answer ds S Q E = b_Machine_answer (go k) (goM k) (fun x _ S1 => E x S1) { nx := fun _ S1 => Q .non S1, rt := Q } (startD 10 ds) S := by rw [go, wrk_succ]; rfl
theorem go_run_counted {k : Nat} {ds : List D} {S : Store} {Q : QE} {E : XQ} : go (k + 1) .run_counted ds S Q E = b_run_counted (go k) (goM k) (fun x _ S1 => E x S1) { nx := fun _ S1 => Q .non S1, rt := Q } (startD 5 ds) S := by rw [go, wrk_succ]; rfl
theorem go_law_state {k : Nat} {ds : List D} {S : Store} {Q : QE} {E : XQ} : go (k + 1) .law_state ds S Q E = b_law_state (go k) (goM k) (fun x _ S1 => E x S1) { nx := fun _ S1 => Q .non S1, rt := Q } (startD 3 ds) S := by rw [go, wrk_succ]; rfl
theorem go_law_take {k : Nat} {ds : List D} {S : Store} {Q : QE} {E : XQ} : go (k + 1) .law_take ds S Q E = b_law_take (go k) (goM k) (fun x _ S1 => E x S1) { nx := fun _ S1 => Q .non S1, rt := Q } (startD 6 ds) S := by rw [go, wrk_succ]; rfl
theorem go_law {k : Nat} {ds : List D} {S : Store} {Q : QE} {E : XQ} : go (k + 1) .law ds S Q E = b_law (go k) (goM k) (fun x _ S1 => E x S1) { nx := fun _ S1 => Q .non S1, rt := Q } (startD 12 ds) S := by rw [go, wrk_succ]; rfl
/-! ### the head -/
def dd_looked_up : He.DefD := ⟨("looked_up", none), "looked_up", "looked_up", defArgs s_looked_up, defBody s_looked_up, defScope s_looked_up, [], []⟩
def dd_calculated : He.DefD := ⟨("calculated", none), "calculated", "calculated", defArgs s_calculated, defBody s_calculated, defScope s_calculated, [], []⟩
def dd_value_shape : He.DefD := ⟨("value_shape", none), "value_shape", "value_shape", defArgs s_value_shape, defBody s_value_shape, defScope s_value_shape, [], []⟩
def dd_Machine_init : He.DefD := ⟨("Machine", some "__init__"), "__init__", "Machine.__init__", defArgs s_Machine_init, defBody s_Machine_init, defScope s_Machine_init, [], []⟩
def dd_Machine_step : He.DefD := ⟨("Machine", some "step"), "step", "Machine.step", defArgs s_Machine_step, defBody s_Machine_step, defScope s_Machine_step, [], []⟩
def dd_Machine_wait : He.DefD := ⟨("Machine", some "wait"), "wait", "Machine.wait", defArgs s_Machine_wait, defBody s_Machine_wait, defScope s_Machine_wait, [], []⟩
def dd_Machine_add_piece : He.DefD := ⟨("Machine", some "add_piece"), "add_piece", "Machine.add_piece", defArgs s_Machine_add_piece, defBody s_Machine_add_piece, defScope s_Machine_add_piece, [], []⟩
def dd_Machine_run : He.DefD := ⟨("Machine", some "run"), "run", "Machine.run", defArgs s_Machine_run, defBody s_Machine_run, defScope s_Machine_run, [], []⟩
def dd_Machine_handled : He.DefD := ⟨("Machine", some "handled"), "handled", "Machine.handled", defArgs s_Machine_handled, defBody s_Machine_handled, defScope s_Machine_handled, [], []⟩
def dd_Machine_begin : He.DefD := ⟨("Machine", some "begin"), "begin", "Machine.begin", defArgs s_Machine_begin, defBody s_Machine_begin, defScope s_Machine_begin, [], []⟩
def dd_Machine_resume : He.DefD := ⟨("Machine", some "resume"), "resume", "Machine.resume", defArgs s_Machine_resume, defBody s_Machine_resume, defScope s_Machine_resume, [], []⟩
def dd_Machine_call : He.DefD := ⟨("Machine", some "call"), "call", "Machine.call", defArgs s_Machine_call, defBody s_Machine_call, defScope s_Machine_call, [], []⟩
def dd_Machine_ask : He.DefD := ⟨("Machine", some "ask"), "ask", "Machine.ask", defArgs s_Machine_ask, defBody s_Machine_ask, defScope s_Machine_ask, [], []⟩
def dd_Machine_answer : He.DefD := ⟨("Machine", some "answer"), "answer", "Machine.answer", defArgs s_Machine_answer, defBody s_Machine_answer, defScope s_Machine_answer, [], []⟩
def dd_run_counted : He.DefD := ⟨("run_counted", none), "run_counted", "run_counted", defArgs s_run_counted, defBody s_run_counted, defScope s_run_counted, [], []⟩
def dd_law_state : He.DefD := ⟨("_law_state", none), "_law_state", "_law_state", defArgs s_law_state, defBody s_law_state, defScope s_law_state, [], []⟩
def dd_law_take : He.DefD := ⟨("_law_take", none), "_law_take", "_law_take", defArgs s_law_take, defBody s_law_take, defScope s_law_take, [], []⟩
def dd_law : He.DefD := ⟨("law", none), "law", "law", defArgs s_law, defBody s_law, defScope s_law, [], []⟩
def dds : List He.DefD := [dd_looked_up, dd_calculated, dd_value_shape, dd_Machine_init, dd_Machine_step, dd_Machine_wait, dd_Machine_add_piece, dd_Machine_run, dd_Machine_handled, dd_Machine_begin, dd_Machine_resume, dd_Machine_call, dd_Machine_ask, dd_Machine_answer, dd_run_counted, dd_law_state, dd_law_take, dd_law]
def tabs : List He.Tab := []
def exK (K : PySem.W.Frag) : Bool := He.tupB K "UNIT" ((["unit"] : List String).map fun s => He.Dv.str (Str.ofString s)) && (true)
abbrev sx_Stop : Stmt := inClass (top 3) 0
def xd_Stop : XD := ⟨"Stop", "Stop.__init__", defArgs sx_Stop, defBody sx_Stop, defScope sx_Stop, "end", "end", PySem.Challenge.pw_askedfor_k21_pieces_of_nested_handlers.main.file⟩
theorem xst_Stop : XStat xd_Stop :=
  ⟨_, _, _, _, _, _, _, _, _, _, _, _, _, rfl, fun _ _ _ _ _ _ _ _ _ _ => rfl, rfl, rfl, rfl, rfl, rfl, rfl, rfl, rfl, rfl, by decide +kernel, ⟨_, fun _ => rfl⟩, fun _ => rfl, by decide +kernel, by decide +kernel⟩
def xds : List XD := [xd_Stop]
def fas_0 : List He.Fa := [(.glo "looked_up"), (.glo "calculated"), (.glo "value_shape"), (.glo "run_counted"), (.glo "_law_state"), (.glo "_law_take"), (.glo "law"), (.cls "Machine"), (.glo "Machine"), (.mkr "Machine"), (.meth "Machine" "add_piece"), (.meth "Machine" "answer"), (.meth "Machine" "ask"), (.meth "Machine" "begin"), (.meth "Machine" "call"), (.meth "Machine" "handled"), (.meth "Machine" "resume"), (.meth "Machine" "run"), (.meth "Machine" "step"), (.meth "Machine" "wait"), (.noat "Machine" "kept"), (.noat "Machine" "left"), (.noat "Machine" "most"), (.noat "Machine" "pieces"), (.noat "Machine" "prints"), (.free "abs"), (.free "int"), (.free "len"), (.free "list"), (.free "max")]
def fas_1 : List He.Fa := [(.free "range"), (.free "reversed"), (.free "str"), (.free "tuple"), (.int "HALF" 2147483648), (.glo "UNIT"), (.glo "Stop")]
def fas : List He.Fa := fas_0 ++ fas_1
def loose : List Str := ["HALF", "UNIT", "Stop", "looked_up", "calculated", "value_shape", "Machine", "run_counted", "_law_state", "_law_take"]
abbrev R : PySem.W.OpenRow := PySem.W.OpenLaw.row PySem.Challenge.rw_askedfor_k21_pieces_of_nested_handlers
abbrev hk : PySem.W.Hook := hookX 5 fas dds exK tabs xds
def ob (s : PySem.W.SharedT) : AlX := obsXG 5 fas dds exK tabs xds (HandSHeadRun.getT s)
theorem ob_eq (s : PySem.W.SharedT) : ob s = hk.obs s.abs := obsXG_eq (HandSHeadRun.getT_eq s)
theorem run (w : World) : HandSHeadRun.RunEq R (PySem.W.view R.prog [12]) hk ob 1480 loose w := by
  intro os
  kernel_rfl
end Pg
/-! DS1: transformers by computation. -/
namespace DL
open PySem PySem.Spec PyProof.Rows L2
section
variable {σ : DEnv} {S : Store} {Q : QE} {x y : D} {l m : List D} {p q : Addr} {o : Ob} {i j : Int} {E : XQ} {D' : DEnds} {s t : String}
@[simp] theorem r_seq {a b : DS} : dSeq a b D' σ S = a { D' with nx := b D' } σ S := propext Iff.rfl
@[simp] theorem r_next : dNext D' σ S = D'.nx σ S := propext Iff.rfl
@[simp] theorem r_brk : dBrk D' σ S = D'.bk σ S := propext Iff.rfl
@[simp] theorem r_cnt : dCnt D' σ S = D'.ct σ S := propext Iff.rfl
@[simp] theorem r_drop {a : DE} : dDrop a D' σ S = a σ S fun _ S1 => D'.nx σ S1 := propext Iff.rfl
@[simp] theorem r_ret {a : DE} : dRet a D' σ S = a σ S D'.rt := propext Iff.rfl
@[simp] theorem r_retN : dRetN D' σ S = D'.rt .non S := propext Iff.rfl
@[simp] theorem r_asg {a : DE} {g : DG} : dAsg a g D' σ S = a σ S fun x S1 => g x σ S1 D'.nx := propext Iff.rfl
@[simp] theorem r_ifS {c : DT} {a b : DS} : dIfS c a b D' σ S = c σ S fun k S1 => if k = true then a D' σ S1 else b D' σ S1 := propext Iff.rfl
@[simp] theorem r_for {it : DI} {g : DG} {tb : DS} : dFor it g tb D' σ S = it σ S fun L keep S1 => forL keep g tb L D' σ S1 := propext Iff.rfl
@[simp] theorem r_gN {n : Nat} {R : DEnv → Store → Prop} : gN n x σ S R = R (σ.set n (some x)) S := propext Iff.rfl
@[simp] theorem r_gsN {R : DEnv → Store → Prop} : gsN l σ S R = (l = [] ∧ R σ S) := propext Iff.rfl
@[simp] theorem r_gsC {g : DG} {gs : DGs} {R : DEnv → Store → Prop} : gsC g gs (x :: l) σ S R = g x σ S fun σ1 S1 => gs l σ1 S1 R := propext Iff.rfl
@[simp] theorem r_gTp {n : Nat} {gs : DGs} {R : DEnv → Store → Prop} : gTp n gs (.tup l) σ S R = (l.length = n ∧ gs l σ S R) := propext Iff.rfl
@[simp] theorem r_gSb {a b : DE} {R : DEnv → Store → Prop} : gSb a b stD x σ S R = a σ S fun o S1 => b σ S1 fun i S2 => stD o i x S2 fun S3 => R σ S3 := propext Iff.rfl
@[simp] theorem r_var {n : Nat} : dVar n σ S Q = (match σ[n]? with | some (some v) => Q v S | _ => False) := propext Iff.rfl
@[simp] theorem r_C : dC x σ S Q = Q x S := propext Iff.rfl
@[simp] theorem r_op {r : DR2} {a b : DE} : dOp r a b σ S Q = a σ S fun x S1 => b σ S1 fun y S2 => r x y S2 Q := propext Iff.rfl
@[simp] theorem r_un {r : DR1} {a : DE} : dUn r a σ S Q = a σ S fun x S1 => r x S1 Q := propext Iff.rfl
@[simp] theorem r_nil {R : List D → Store → Prop} : dNil σ S R = R [] S := propext Iff.rfl
@[simp] theorem r_cons {a : DE} {b : DA} {R : List D → Store → Prop} : dCons a b σ S R = a σ S fun x S1 => b σ S1 fun xs S2 => R (x :: xs) S2 := propext Iff.rfl
@[simp] theorem r_tup {a : DA} : dTup a σ S Q = a σ S fun xs S1 => Q (.tup xs) S1 := propext Iff.rfl
@[simp] theorem r_lst {a : DA} : dLst a σ S Q = a σ S fun xs S1 => Q (.lst xs) S1 := propext Iff.rfl
@[simp] theorem r_lstM {a : DA} : dLstM a σ S Q = a σ S fun xs S1 => ∀ p, S1 p = none → Q (.obj p) (put S1 p (.lst xs)) := propext Iff.rfl
@[simp] theorem r_dicM : dDicM σ S Q = ∀ p, S p = none → Q (.obj p) (put S p (.dic [])) := propext Iff.rfl
@[simp] theorem r_frz {a : DE} : dFrz a σ S Q = a σ S fun x S1 => match x with
  | .obj p => match S1 p with
    | some (.lst l) => Q (.lst l) (rid S1 p)
    | some (.dic l) => Q (.dic l) (rid S1 p)
    | _ => False
  | _ => False := propext Iff.rfl
@[simp] theorem r_cb {r : DC} {a : DA} : dCB r a σ S Q = a σ S fun xs S1 => r xs S1 Q := propext Iff.rfl
@[simp] theorem r_bm {T : String} {r : DM} {a : DE} {b : DA} : dBM T r a b σ S Q = a σ S fun x S1 => tyD T S1 x ∧ b σ S1 fun xs S2 => r x xs S2 Q := propext Iff.rfl
@[simp] theorem r_bm0 {T : String} {r : DM} {a : DE} : dBM0 T r a σ S Q = a σ S fun x S1 => tyD T S1 x ∧ r x [] S1 Q := propext Iff.rfl
@[simp] theorem r_call {w : DSp} {ED : DX → DEnv → Store → Prop} {a : DA} : dCall w ED a σ S Q = a σ S fun ds S1 => w ds S1 Q fun x S2 => ED x σ S2 := propext Iff.rfl
@[simp] theorem r_call0 {w : DSp} {ED : DX → DEnv → Store → Prop} : dCall0 w ED σ S Q = w [] S Q fun x S2 => ED x σ S2 := propext Iff.rfl
@[simp] theorem r_meth {c : Nat} {mm : String} {w : DSp} {ED : DX → DEnv → Store → Prop} {a : DE} {b : DA} : dMeth c mm w ED a b σ S Q = a σ S fun x S1 => ofO (insD S1 c x) fun z => z.2.lookup mm = none ∧ b σ S1 fun ds S2 => w (x :: ds) S2 Q fun y S3 => ED y σ S3 := propext Iff.rfl
@[simp] theorem r_make {c : Nat} {w : DSp} {ED : DX → DEnv → Store → Prop} {b : DA} : dMake c w ED b σ S Q = b σ S fun ds S1 => ∀ p, S1 p = none → w (.obj p :: ds) (put S1 p (.ins c [])) (fun v S2 => v = .non ∧ Q (.obj p) S2) fun y S3 => ED y σ S3 := propext Iff.rfl
@[simp] theorem r_fld {c : Nat} {f : String} {a : DE} : dFld c f a σ S Q = a σ S fun x S1 => ofO (insD S1 c x) fun z => ofO (z.2.lookup f) fun y => Q y S1 := propext Iff.rfl
@[simp] theorem r_putF {c : Nat} {f : String} {a b : DE} : dPutF c f a b D' σ S = b σ S fun y S1 => a σ S1 fun x S2 => ofO (insD S2 c x) fun z => z.2.length < 1000 ∧ D'.nx σ (put S2 z.1 (.ins c (putFD f y z.2))) := propext Iff.rfl
@[simp] theorem r_test {a : DE} {R : Bool → Store → Prop} : dTest a σ S R = a σ S fun x S1 => match x with | .bl k => R k S1 | _ => False := propext Iff.rfl
@[simp] theorem r_and {a b : DT} {R : Bool → Store → Prop} : dAnd a b σ S R = a σ S fun c S1 => if c = true then b σ S1 R else R false S1 := propext Iff.rfl
@[simp] theorem r_or {a b : DT} {R : Bool → Store → Prop} : dOr a b σ S R = a σ S fun c S1 => if c = true then R true S1 else b σ S1 R := propext Iff.rfl
@[simp] theorem r_not {a : DT} {R : Bool → Store → Prop} : dNot a σ S R = a σ S fun c S1 => R (!c) S1 := propext Iff.rfl
@[simp] theorem r_tru {a : DE} {R : Bool → Store → Prop} : dTru a σ S R = a σ S fun x S1 => ofO (truD S1 x) fun k => R k S1 := propext Iff.rfl
@[simp] theorem r_andV {a b : DE} : dAndV a b σ S Q = a σ S fun x S1 => match x with
  | .bl true => b σ S1 Q
  | .bl false => Q (.bl false) S1
  | _ => False := propext Iff.rfl
@[simp] theorem r_orV {a b : DE} : dOrV a b σ S Q = a σ S fun x S1 => match x with
  | .bl true => Q (.bl true) S1
  | .bl false => b σ S1 Q
  | _ => False := propext Iff.rfl
@[simp] theorem r_notV {a : DE} : dNotV a σ S Q = a σ S fun x S1 => match x with
  | .bl c => Q (.bl (!c)) S1
  | _ => False := propext Iff.rfl
@[simp] theorem r_if {c : DT} {a b : DE} : dIf c a b σ S Q = c σ S fun k S1 => if k = true then a σ S1 Q else b σ S1 Q := propext Iff.rfl
@[simp] theorem r_par {n k : Nat} {a : DA} : dPar n k a D' σ S = a σ S fun xs S1 => match xs with
  | [x, y] => D'.nx ((σ.set n (some x)).set k (some y)) S1
  | _ => False := propext Iff.rfl
@[simp] theorem r_kill {g : DEnv → Store → List Addr} {a : DE} : dKill g a σ S Q = a σ S fun x S1 => Q x (ridAll S1 (g σ S1)) := propext Iff.rfl
@[simp] theorem r_iL {a : DE} {R : List D → (Store → Prop) → Store → Prop} : iL a σ S R = a σ S fun x S1 => ofO (asL S1 x) fun l => R l (keepL x l) S1 := propext Iff.rfl
@[simp] theorem r_iT {a : DE} {R : List D → (Store → Prop) → Store → Prop} : iT a σ S R = a σ S fun x S1 => match x with
  | .tup l => R l (fun _ => True) S1
  | _ => False := propext Iff.rfl
@[simp] theorem r_iR1 {a : DA} {R : List D → (Store → Prop) → Store → Prop} : iR1 a σ S R = a σ S fun xs S1 => match xs with
  | [.int j] => (-(2 ^ 62) ≤ j ∧ j < 2 ^ 62) ∧ R (rangeD 0 j.toNat) (fun _ => True) S1
  | _ => False := propext Iff.rfl
@[simp] theorem r_iR2 {a : DA} {R : List D → (Store → Prop) → Store → Prop} : iR2 a σ S R = a σ S fun xs S1 => match xs with
  | [.int i, .int j] => (-(2 ^ 62) ≤ i ∧ i < 2 ^ 62 ∧ -(2 ^ 62) ≤ j ∧ j < 2 ^ 62) ∧ R (rangeD i (j - i).toNat) (fun _ => True) S1
  | _ => False := propext Iff.rfl
@[simp] theorem r_iEn {a : DA} {R : List D → (Store → Prop) → Store → Prop} : iEn a σ S R = a σ S fun xs S1 => match xs with
  | [x] => ofO (asL S1 x) fun l => R (enumD 0 l) (keepL x l) S1
  | _ => False := propext Iff.rfl
@[simp] theorem r_dLc {it : DI} {c : CT} {tt : DT} {te : DE} {vs : List Nat} : dLc it c tt te vs σ S Q = it σ S fun L keep S1 => lcL keep c.g tt te (wipeD σ vs) L [] S1 fun acc S2 => Q (.lst acc) S2 := propext Iff.rfl
@[simp] theorem r_dLcM {it : DI} {c : CT} {tt : DT} {te : DE} {vs : List Nat} : dLcM it c tt te vs σ S Q = it σ S fun L keep S1 => lcL keep c.g tt te (wipeD σ vs) L [] S1 fun acc S2 => ∀ p, S2 p = none → Q (.obj p) (put S2 p (.lst acc)) := propext Iff.rfl
@[simp] theorem r_yes {R : Bool → Store → Prop} : dYes σ S R = R true S := propext Iff.rfl
@[simp] theorem r_ctg {n : Nat} : CT.g (.one n) = gN n := rfl
@[simp] theorem r_ofO {α : Type} {v : α} {k : α → Prop} : ofO (some v) k = k v := propext Iff.rfl
@[simp] theorem r_ixI1 {k : Int} : dIx (.tup l) (.int k) S Q = ofO (atI l k) fun z => Q z S := propext Iff.rfl
@[simp] theorem r_ixI2 {k : Int} : dIx (.lst l) (.int k) S Q = ofO (atI l k) fun z => Q z S := propext Iff.rfl
@[simp] theorem r_ixI3 {k : Int} : dIx (.scr l) (.int k) S Q = ofO (atI l k) fun z => Q z S := propext Iff.rfl
@[simp] theorem r_ixO {k : Int} : dIx (.obj p) (.int k) S Q = ofO (asL S (.obj p)) fun l => ofO (atI l k) fun z => Q z S := propext Iff.rfl
@[simp] theorem r_ixK : dIx x (.str s) S Q = ofO (asK S x) fun kd => ofO (kd.lookup s) fun z => Q z S := propext Iff.rfl
@[simp] theorem r_addI : dAdd (.int i) (.int j) S Q = Q (.int (i + j)) S := propext Iff.rfl
@[simp] theorem r_addS : dAdd (.str s) (.str t) S Q = (s.length + t.length ≤ lim ∧ Q (.str (s ++ t)) S) := propext Iff.rfl
@[simp] theorem r_addL : dAdd (.lst l) (.lst m) S Q = (l.length + m.length ≤ lim ∧ Q (.lst (l ++ m)) S) := propext Iff.rfl
@[simp] theorem r_addT : dAdd (.tup l) (.tup m) S Q = (l ≠ [] ∧ l.length + m.length ≤ lim ∧ Q (.tup (l ++ m)) S) := propext Iff.rfl
@[simp] theorem r_int2 {C : Int → Int → Prop} {g : Int → Int → D} : dInt2 C g (.int i) (.int j) S Q = (C i j ∧ Q (g i j) S) := propext Iff.rfl
@[simp] theorem r_int0 {g : Int → Int → D} : dInt0 g (.int i) (.int j) S Q = Q (g i j) S := propext Iff.rfl
@[simp] theorem r_eq : dEq x y S Q = (okD (sees S x) = true ∧ okD (sees S y) = true ∧ Q (.bl (eqD (sees S x) (sees S y))) S) := propext Iff.rfl
@[simp] theorem r_ne : dNe x y S Q = (okD (sees S x) = true ∧ okD (sees S y) = true ∧ Q (.bl (!eqD (sees S x) (sees S y))) S) := propext Iff.rfl
@[simp] theorem r_see1 : sees S (.int i) = .int i := rfl
@[simp] theorem r_see2 : sees S (.str s) = .str s := rfl
@[simp] theorem r_see3 : sees S (.tup l) = .tup l := rfl
@[simp] theorem r_see4 : sees S (.lst l) = .lst l := rfl
@[simp] theorem r_see5 : sees S .non = .non := rfl
@[simp] theorem r_see6 {b : Bool} : sees S (.bl b) = .bl b := rfl
theorem see_lst (h : S p = some (.lst l)) : sees S (.obj p) = .lst l := by simp [sees, h]
@[simp] theorem r_asL1 : asL S (.lst l) = some l := rfl
@[simp] theorem r_asL2 : asL S (.scr l) = some l := rfl
theorem asL_obj (h : S p = some (.lst l)) : asL S (.obj p) = some l := by simp [asL, h]
@[simp] theorem r_asLt : asL S (.tup l) = none := rfl
@[simp] theorem r_asLi : asL S (.int i) = none := rfl
@[simp] theorem r_asLs : asL S (.str s) = none := rfl
theorem asK_obj {kd : List (String × D)} (h : S p = some (.dic kd)) : asK S (.obj p) = some kd := by simp [asK, h]
theorem asK_objL (h : S p = some (.lst l)) : asK S (.obj p) = none := by simp [asK, h]
@[simp] theorem r_asKl : asK S (.lst l) = none := rfl
@[simp] theorem r_asKd {kd : List (String × D)} : asK S (.dic kd) = some kd := rfl
@[simp] theorem r_asKs : asK S (.str s) = none := rfl
theorem insD_obj {c : Nat} {fs : List (String × D)} (h : S p = some (.ins c fs)) : insD S c (.obj p) = some (p, fs) := by simp [insD, h]
theorem tyD_lst (h : S p = some (.lst l)) : tyD "list" S (.obj p) := by simp [tyD, asL_obj h]
@[simp] theorem r_len : bLen [x] S Q = ofO (lenD S x) fun n => Q (.int n) S := propext Iff.rfl
@[simp] theorem r_lenL : lenD S (.lst l) = some l.length := rfl
theorem lenD_obj (h : S p = some (.lst l)) : lenD S (.obj p) = some l.length := by simp [lenD, asL_obj h]
@[simp] theorem r_abs : bAbs [.int i] S Q = Q (.int (if i < 0 then -i else i)) S := propext Iff.rfl
@[simp] theorem r_int : bInt [.int i] S Q = Q (.int i) S := propext Iff.rfl
theorem app_obj (h : S p = some (.lst l)) : mAppend (.obj p) [x] S Q = (l.length < lim ∧ Q .non (put S p (.lst (l ++ [x])))) := by simp [mAppend, h]
theorem st_lst {R : Store → Prop} (h : S p = some (.lst l)) : stD (.obj p) (.int i) x S R = ofO (ixN l.length i) fun j => R (put S p (.lst (l.set j x))) := by simp [stD, h]
theorem st_dic {kd : List (String × D)} {R : Store → Prop} (h : S p = some (.dic kd)) : stD (.obj p) (.str s) x S R = (kd.length < lim ∧ R (put S p (.dic (putKD s x kd)))) := by simp [stD, h]
theorem ix_nat {n k : Nat} (hk : k < n) : ixN n (k : Int) = some k := by
  unfold ixN
  rw [if_pos (by omega), if_pos (by omega)]
  simp
theorem at_nat {k : Nat} (h : l[k]? = some x) : atI l (k : Int) = some x := by
  have hk : k < l.length := by
    apply Classical.byContradiction
    intro z
    rw [List.getElem?_eq_none (by omega)] at h
    cases h
  unfold atI
  rw [ix_nat hk]
  exact h
@[simp] theorem r_tru1 {b : Bool} : truD S (.bl b) = some b := rfl
@[simp] theorem put_at : put S p o p = some o := put_same
@[simp] theorem asL_put : asL (put S p (.lst l)) (.obj p) = some l := asL_obj put_same
@[simp] theorem asK_put {kd : List (String × D)} : asK (put S p (.dic kd)) (.obj p) = some kd := asK_obj put_same
theorem ix_zero {n : Nat} (h : 0 < n) : ixN n 0 = some 0 := ix_nat h
@[simp] theorem at0 {α : Type} {a : α} {r : List α} : atI (a :: r) 0 = some a := by unfold atI; rw [ix_zero (by simp)]; rfl
@[simp] theorem at1 {α : Type} {a b : α} {r : List α} : atI (a :: b :: r) 1 = some b := by unfold atI; rw [show ixN (a :: b :: r).length 1 = some 1 from ix_nat (k := 1) (by simp)]; rfl
@[simp] theorem at2 {α : Type} {a b c : α} {r : List α} : atI (a :: b :: c :: r) 2 = some c := by unfold atI; rw [show ixN (a :: b :: c :: r).length 2 = some 2 from ix_nat (k := 2) (by simp)]; rfl
@[simp] theorem at3 {α : Type} {a b c d : α} {r : List α} : atI (a :: b :: c :: d :: r) 3 = some d := by unfold atI; rw [show ixN (a :: b :: c :: d :: r).length 3 = some 3 from ix_nat (k := 3) (by simp)]; rfl
theorem runD_eq {n : Nat} {b : DBody} {ds : List D} : runD n b ds S Q E = b (fun x _ S1 => E x S1) { nx := fun _ S1 => Q .non S1, rt := Q } (startD n ds) S := rfl
theorem lc_map {te : DE} {n : Nat} {keep : Store → Prop} {R : List D → Store → Prop} {tt : DT} (f : D → D) : ∀ {L acc : List D} {σ : DEnv}, keep S → (acc.length + L.length ≤ lim) → (∀ x ∈ L, ∀ Q, Q true S → tt (σ.set n (some x)) S Q) → (∀ x ∈ L, ∀ Q, Q (f x) S → te (σ.set n (some x)) S Q) → R (acc ++ L.map f) S → lcL keep (gN n) tt te σ L acc S R
  | [], acc, σ, hk, _, _, _, h => ⟨hk, by simpa using h⟩
  | x :: L, acc, σ, hk, hl, ht, he, h => by
    refine ⟨hk, ?_⟩
    show tt (σ.set n (some x)) S _
    refine ht x (by simp) _ ?_
    rw [if_pos rfl]
    refine he x (by simp) _ ⟨by simp at hl; omega, ?_⟩
    exact lc_map f hk (by simp at hl ⊢; omega) (fun y hy => ht y (by simp [hy])) (fun y hy => he y (by simp [hy])) (by simpa using h)
end
end DL
/-! DS2: loops by invariants, new things of the store. -/
namespace DL
open PySem PySem.Spec PyProof.Rows L2
section
variable {σ : DEnv} {S S0 S' : Store} {Q : QE} {x y : D} {l m : List D} {p q : Addr} {o : Ob} {i j : Int} {E : XQ} {D' : DEnds} {keep : Store → Prop} {g : DG} {tb : DS} {fs : List Addr} {os : List Ob}
theorem for_ind (I : List D → DEnv → Store → Prop) (hk : ∀ L σ S, I L σ S → keep S)
    (step : ∀ x r σ S (N : DEnv → Store → Prop), I (x :: r) σ S → (∀ σ S, I r σ S → N σ S) → g x σ S fun σ1 S1 => tb { D' with nx := N, ct := N, bk := D'.nx } σ1 S1)
    (fin : ∀ σ S, I [] σ S → D'.nx σ S) : ∀ {L : List D} {σ : DEnv} {S : Store}, I L σ S → forL keep g tb L D' σ S
  | [], σ, S, h => ⟨hk _ _ _ h, fin _ _ h⟩
  | x :: r, σ, S, h => ⟨hk _ _ _ h, step x r σ S _ h fun σ S h => for_ind I hk step fin h⟩
/-- the items already walked too -/
theorem for_ind2 (I : List D → List D → DEnv → Store → Prop) (L0 : List D) (hk : ∀ d L σ S, I d L σ S → keep S)
    (step : ∀ d x r σ S (N : DEnv → Store → Prop), d ++ x :: r = L0 → I d (x :: r) σ S → (∀ σ S, I (d ++ [x]) r σ S → N σ S) → g x σ S fun σ1 S1 => tb { D' with nx := N, ct := N, bk := D'.nx } σ1 S1)
    (fin : ∀ σ S, I L0 [] σ S → D'.nx σ S) {σ : DEnv} {S : Store} (h : I [] L0 σ S) : forL keep g tb L0 D' σ S := by
  refine for_ind (I := fun r σ S => ∃ d, d ++ r = L0 ∧ I d r σ S) (fun L σ S ⟨d, _, h⟩ => hk _ _ _ _ h) (fun x r σ S N ⟨d, e, h⟩ hN => step d x r σ S N e h fun σ S h => hN _ _ ⟨d ++ [x], by simpa using e, h⟩) (fun σ S ⟨d, e, h⟩ => fin σ S ?_) ⟨[], rfl, h⟩
  rw [List.append_nil] at e
  rw [← e]; rw [e] ; rw [e] at h; exact h
theorem for_indM {α : Type} (h : α → D) (I : List α → List α → DEnv → Store → Prop) (L0 : List α) (hk : ∀ d L σ S, I d L σ S → keep S)
    (step : ∀ d x r σ S (N : DEnv → Store → Prop), d ++ x :: r = L0 → I d (x :: r) σ S → (∀ σ S, I (d ++ [x]) r σ S → N σ S) → g (h x) σ S fun σ1 S1 => tb { D' with nx := N, ct := N, bk := D'.nx } σ1 S1)
    (fin : ∀ σ S, I L0 [] σ S → D'.nx σ S) {σ : DEnv} {S : Store} (h0 : I [] L0 σ S) : forL keep g tb (L0.map h) D' σ S := by
  refine for_ind (I := fun R σ S => ∃ d r, R = r.map h ∧ d ++ r = L0 ∧ I d r σ S) (fun L σ S ⟨d, r, _, _, h⟩ => hk _ _ _ _ h) ?st ?fn ⟨[], L0, rfl, rfl, h0⟩
  case st =>
    intro y R σ S N ⟨d, r, e1, e, hI⟩ hN
    cases r with
    | nil => cases e1
    | cons x r =>
      rw [List.map_cons] at e1
      injection e1 with e2 e3
      subst e2 e3
      exact step d x r σ S N e hI fun σ S h => hN _ _ ⟨d ++ [x], r, rfl, by simpa using e, h⟩
  case fn =>
    intro σ S ⟨d, r, e1, e, hI⟩
    cases r with
    | nil => rw [List.append_nil] at e; subst e; exact fin σ S hI
    | cons x r => cases e1
theorem range_map (n : Nat) : rangeD 0 n = (List.range n).map fun i : Nat => D.int (i : Int) := by
  unfold rangeD
  refine List.map_congr_left fun i _ => ?_
  rw [Int.zero_add]
theorem lc_ind {te : DE} {tt : DT} {R : List D → Store → Prop} (I : List D → List D → DEnv → Store → Prop) (hk : ∀ L acc σ S, I L acc σ S → keep S)
    (step : ∀ x r acc σ S (N : List D → DEnv → Store → Prop), I (x :: r) acc σ S → (∀ acc σ S, I r acc σ S → N acc σ S) → g x σ S fun σ1 S1 => tt σ1 S1 fun k S2 => if k = true then te σ1 S2 fun y S3 => acc.length < lim ∧ N (acc ++ [y]) σ S3 else N acc σ S2)
    (fin : ∀ acc σ S, I [] acc σ S → R acc S) : ∀ {L acc : List D} {σ : DEnv} {S : Store}, I L acc σ S → lcL keep g tt te σ L acc S R
  | [], acc, σ, S, h => ⟨hk _ _ _ _ h, fin _ _ _ h⟩
  | x :: r, acc, σ, S, h => by
    refine ⟨hk _ _ _ _ h, ?_⟩
    exact step x r acc σ S (fun acc σ S => lcL keep g tt te σ r acc S R) h fun acc σ S h => lc_ind I hk step fin h
/-- S has, beside what S0 has, the new things fs, which are os -/
structure Ext (S0 S : Store) (fs : List Addr) (os : List Ob) : Prop where
  nd : fs.Nodup
  fr : ∀ p ∈ fs, S0 p = none
  out : ∀ p, p ∉ fs → S p = S0 p
  len : fs.length = os.length
  at_ : ∀ (i : Nat) (p : Addr), fs[i]? = some p → S p = os[i]?
theorem Ext.nil : Ext S S [] [] := ⟨List.nodup_nil, by simp, fun _ _ => rfl, rfl, by simp⟩
theorem Ext.old (e : Ext S0 S fs os) (h : S0 p = some o) : S p = some o := by
  rw [e.out p fun z => by rw [e.fr p z] at h; cases h]; exact h
theorem Ext.push (e : Ext S0 S fs os) (h : S p = none) : Ext S0 (put S p o) (fs ++ [p]) (os ++ [o]) := by
  have hp : p ∉ fs := fun z => by
    obtain ⟨i, hi, e1⟩ := List.mem_iff_getElem.mp z
    have e2 := e.at_ i p (by rw [List.getElem?_eq_getElem hi, e1])
    rw [h, List.getElem?_eq_getElem (by rw [← e.len]; exact hi)] at e2
    cases e2
  refine ⟨?_, ?_, ?_, by simp [e.len], ?_⟩
  · rw [List.nodup_append]
    exact ⟨e.nd, by simp, fun a ha b hb z => by simp at hb; subst hb; subst z; exact hp ha⟩
  · intro q hq
    rcases List.mem_append.mp hq with hq | hq
    · exact e.fr q hq
    · simp at hq; subst hq; rw [← e.out q hp]; exact h
  · intro q hq
    rw [List.mem_append, not_or] at hq
    have hne : q ≠ p := by simpa using hq.2
    rw [put_ne hne]; exact e.out q hq.1
  · intro i q hq
    by_cases hi : i < fs.length
    · rw [List.getElem?_append_left hi] at hq
      have hne : q ≠ p := fun z => by subst z; exact hp (List.mem_of_getElem? hq)
      rw [put_ne hne, e.at_ i q hq, List.getElem?_append_left (by rw [← e.len]; exact hi)]
    · rw [List.getElem?_append_right (by omega)] at hq
      by_cases h0 : i - fs.length = 0
      · rw [h0] at hq
        cases hq
        rw [put_same, List.getElem?_append_right (by rw [← e.len]; omega), ← e.len, h0]; rfl
      · rw [List.getElem?_eq_none (by simp; omega)] at hq; cases hq
theorem Ext.put (e : Ext S0 S fs os) {n : Nat} (h : fs[n]? = some p) : Ext S0 (put S p o) fs (os.set n o) := by
  have hm := List.mem_of_getElem? h
  refine ⟨e.nd, e.fr, fun q hq => ?_, by simp [e.len], fun i q hq => ?_⟩
  · rw [put_ne fun z => by subst z; exact hq hm]; exact e.out q hq
  · by_cases hi : n = i
    · subst hi
      rw [h] at hq; cases hq
      have : n < os.length := by
        rw [← e.len]
        apply Classical.byContradiction
        intro z
        rw [List.getElem?_eq_none (by omega)] at h; cases h
      rw [put_same, List.getElem?_set_self this]
    · have hne : q ≠ p := fun z => by
        subst z
        have a1 : n < fs.length := by
          apply Classical.byContradiction
          intro z; rw [List.getElem?_eq_none (by omega)] at h; cases h
        have a2 : i < fs.length := by
          apply Classical.byContradiction
          intro z; rw [List.getElem?_eq_none (by omega)] at hq; cases hq
        rw [List.getElem?_eq_getElem a1] at h
        rw [List.getElem?_eq_getElem a2] at hq
        have ee := (Option.some.inj h).trans (Option.some.inj hq).symm
        have pw := List.pairwise_iff_getElem.mp e.nd
        rcases Nat.lt_or_gt_of_ne hi with z | z
        · exact pw n i a1 a2 z ee
        · exact pw i n a2 a1 z ee.symm
      rw [put_ne hne, e.at_ i q hq, List.getElem?_set_ne hi]
theorem ridAll_out : ∀ {l : List Addr} {S : Store}, p ∉ l → ridAll S l p = S p
  | [], _, _ => rfl
  | a :: l, S, h => by
    rw [List.mem_cons, not_or] at h
    show ridAll (rid S a) l p = _
    rw [ridAll_out h.2, rid_ne h.1]
theorem ridAll_none : ∀ {l : List Addr} {S : Store}, S p = none → ridAll S l p = none
  | [], _, h => h
  | a :: l, S, h => by
    show ridAll (rid S a) l p = none
    refine ridAll_none ?_
    by_cases z : p = a
    · subst z; exact rid_same
    · rw [rid_ne z]; exact h
theorem ridAll_in : ∀ {l : List Addr} {S : Store}, p ∈ l → ridAll S l p = none
  | a :: l, S, h => by
    show ridAll (rid S a) l p = none
    by_cases z : p = a
    · subst z; exact ridAll_none rid_same
    · exact ridAll_in ((List.mem_cons.mp h).resolve_left z)
theorem Ext.rid (e : Ext S0 S fs os) : ridAll S fs = S0 := by
  funext p
  by_cases h : p ∈ fs
  · rw [ridAll_in h, e.fr p h]
  · rw [ridAll_out h, e.out p h]
theorem Ext.none (e : Ext S0 S fs os) (h : S p = none) : S0 p = none ∧ p ∉ fs := by
  have hp : p ∉ fs := fun z => by
    obtain ⟨i, hi, e1⟩ := List.mem_iff_getElem.mp z
    have e2 := e.at_ i p (by rw [List.getElem?_eq_getElem hi, e1])
    rw [h, List.getElem?_eq_getElem (by rw [← e.len]; exact hi)] at e2
    cases e2
  exact ⟨by rw [← e.out p hp]; exact h, hp⟩
theorem Ext.ridPut (e : Ext S0 S fs os) (h : S p = .none) : ridAll (DL.put S p o) fs = DL.put S0 p o := by
  obtain ⟨h0, hp⟩ := e.none h
  funext q
  by_cases hq : q ∈ fs
  · rw [ridAll_in hq, put_ne fun z => by subst z; exact hp hq, e.fr q hq]
  · rw [ridAll_out hq]
    by_cases z : q = p
    · subst z; rw [put_same, put_same]
    · rw [put_ne z, put_ne z, e.out q hq]
theorem objs_map (fs : List Addr) : (fs.map D.obj).flatMap objsOf = fs := by
  induction fs with
  | nil => rfl
  | cons a r ih => rw [List.map_cons, List.flatMap_cons, ih]; rfl
theorem range_len (a : Int) (n : Nat) : (rangeD a n).length = n := by unfold rangeD; simp
/-- a comprehension that makes a new thing for every item -/
theorem lc_new {te : DE} {R : List D → Store → Prop} {n : Nat} {o : Ob} (hte : ∀ σ S Q, (∀ p, S p = none → Q (.obj p) (DL.put S p o)) → te σ S Q) (hk : ∀ S, (∀ p u, S0 p = some u → S p = some u) → keep S)
    {L : List D} {σ : DEnv} (hl : L.length ≤ lim) (h : ∀ S fs, Ext S0 S fs (List.replicate L.length o) → R (fs.map D.obj) S) : lcL keep (gN n) dYes te σ L [] S0 R := by
  refine lc_ind (I := fun r acc σ S => ∃ fs k, acc = fs.map D.obj ∧ Ext S0 S fs (List.replicate k o) ∧ k + r.length = L.length) (fun L acc σ S ⟨fs, k, _, e, _⟩ => hk S fun p u h => e.old h) (fun x r acc σ S N ⟨fs, k, ea, e, hl⟩ hN => ?_) (fun acc σ S ⟨fs, k, ea, e, hl⟩ => ?_) ⟨[], 0, rfl, Ext.nil, by simp⟩
  · simp only [r_gN, r_yes, if_pos]
    refine hte _ _ _ fun p hp => ⟨?_, hN _ _ _ ⟨fs ++ [p], k + 1, by simp [ea], ?_, by simp at hl; omega⟩⟩
    · rw [ea, List.length_map, e.len, List.length_replicate]; simp at hl; omega
    · have := e.push (o := o) hp
      rw [List.replicate_succ']
      exact this
  · rw [ea]; exact h S fs (by have : k = L.length := by simpa using hl
                              rw [← this]; exact e)
end
end DL
/-! DS3: texts in lists, equal data. -/
namespace DL
open PySem PySem.Spec PyProof.Rows L2
section
variable {σ : DEnv} {S S0 S' : Store} {Q : QE} {x y : D} {m : List D} {p q : Addr} {o : Ob} {i j : Int} {E : XQ} {D' : DEnds} {keep : Store → Prop} {neg : Bool} {a : String} {l : List String}
theorem inD_strs : ∀ l : List String, inD (.str a) (l.map D.str) = decide (a ∈ l)
  | [] => rfl
  | b :: l => by
    show ((b == a) || inD (.str a) (l.map D.str)) = _
    rw [inD_strs l]
    by_cases h : b = a
    · subst h; simp
    · have h' : ¬ a = b := fun z => h z.symm
      simp [h, h']
theorem flat_strs : ∀ l : List String, (l.map D.str).all flatD = true
  | [] => rfl
  | b :: l => by rw [List.map_cons, List.all_cons, flat_strs l]; rfl
theorem in_lst : dIn neg (.str a) (.lst (l.map D.str)) S Q = Q (.bl (inR neg (decide (a ∈ l)))) S := by
  show (flatD (.str a) = true ∧ (l.map D.str).all flatD = true ∧ Q (.bl (inR neg (inD (.str a) (l.map D.str)))) S) = _
  rw [inD_strs, flat_strs]; simp [flatD]
theorem in_obj (h : S p = some (.lst (l.map D.str))) : dIn neg (.str a) (.obj p) S Q = Q (.bl (inR neg (decide (a ∈ l)))) S := by
  unfold dIn
  rw [asK_objL h]
  show (match asL S (.obj p) with
      | some l => flatD (.str a) = true ∧ l.all flatD = true ∧ Q (.bl (inR neg (inD (.str a) l))) S
      | none => False) = _
  rw [asL_obj h]
  show (flatD (.str a) = true ∧ (l.map D.str).all flatD = true ∧ Q (.bl (inR neg (inD (.str a) (l.map D.str)))) S) = _
  rw [inD_strs, flat_strs]; simp [flatD]
theorem in_dic {kd : List (String × D)} (h : S p = some (.dic kd)) : dIn neg (.str a) (.obj p) S Q = Q (.bl (inR neg (kd.lookup a).isSome)) S := by
  unfold dIn
  rw [asK_obj h]
/-- a dict whose values are all True: its keys -/
def keysD (l : List String) : List (String × D) := l.map fun s => (s, .bl true)
theorem keys_look : ∀ l : List String, ((keysD l).lookup a).isSome = decide (a ∈ l)
  | [] => rfl
  | b :: l => by
    show ((match a == b with | true => some (D.bl true) | false => (keysD l).lookup a)).isSome = _
    by_cases h : a = b
    · subst h; simp
    · have e : (a == b) = false := beq_eq_false_iff_ne.mpr h
      rw [e]
      show ((keysD l).lookup a).isSome = _
      rw [keys_look l]; simp [h]
theorem keys_put (h : a ∉ l) : putKD a (.bl true) (keysD l) = keysD (l ++ [a]) := by
  unfold putKD
  rw [if_neg]
  · simp [keysD]
  · rw [List.any_eq_true]
    rintro ⟨z, hz, e⟩
    obtain ⟨s, hs, rfl⟩ := List.mem_map.mp hz
    exact h (by have := of_decide_eq_true e; rw [← this]; exact hs)
theorem keys_put2 (h : a ∈ l) : putKD a (.bl true) (keysD l) = keysD l := by
  unfold putKD
  rw [if_pos]
  · unfold keysD
    rw [List.map_map]
    refine List.map_congr_left fun s _ => ?_
    show (if s = a then (s, D.bl true) else (s, D.bl true)) = _
    split <;> rfl
  · rw [List.any_eq_true]
    exact ⟨(a, .bl true), List.mem_map.mpr ⟨a, h, rfl⟩, by simp⟩
theorem keys_len : (keysD l).length = l.length := by simp [keysD]
theorem keys_fst : (keysD l).map (·.1) = l := by simp [keysD, List.map_map, Function.comp_def]
mutual
theorem eqD_refl : ∀ x : D, plainD x = true → eqD x x = true
  | .non, _ => rfl
  | .bl b, _ => by show (b == b) = true; simp
  | .int i, _ => by show (i == i) = true; simp
  | .str s, _ => by show (s == s) = true; simp
  | .tup l, h => eqDs_refl l h
  | .lst l, h => eqDs_refl l h
  | .dic _, h => by cases h
  | .scr _, h => by cases h
  | .obj _, h => by cases h
  | .ty _, h => by cases h
theorem eqDs_refl : ∀ l : List D, plainDs l = true → eqDs l l = true
  | [], _ => rfl
  | x :: l, h => by
    have h' := Bool.and_eq_true_iff.mp (show (plainD x && plainDs l) = true from h)
    show (eqD x x && eqDs l l) = true
    rw [eqD_refl x h'.1, eqDs_refl l h'.2]; rfl
end
theorem plainDs_of : ∀ {l : List D}, (∀ x ∈ l, plainD x = true) → plainDs l = true
  | [], _ => rfl
  | x :: l, h => by
    show (plainD x && plainDs l) = true
    rw [h x (by simp), plainDs_of fun y hy => h y (by simp [hy])]; rfl
theorem depDs_of {n : Nat} : ∀ {l : List D}, (∀ x ∈ l, depD x ≤ n) → depDs l ≤ n
  | [], _ => Nat.zero_le _
  | x :: l, h => by
    show max (depD x) (depDs l) ≤ n
    have h1 := h x (by simp)
    have h2 := depDs_of (l := l) fun y hy => h y (by simp [hy])
    omega
/-- plain, and at most n deep -/
def OkN (n : Nat) (x : D) : Prop := plainD x = true ∧ depD x ≤ n
theorem OkN.ok {n : Nat} (h : OkN n x) (hn : n ≤ 64 := by decide) : okD x = true := by
  unfold okD
  rw [h.1]
  have : depD x ≤ 64 := Nat.le_trans h.2 hn
  simpa using this
theorem OkN.tup {n : Nat} {l : List D} (h : ∀ x ∈ l, OkN n x) : OkN (n + 1) (.tup l) := ⟨plainDs_of fun x hx => (h x hx).1, Nat.succ_le_succ (depDs_of fun x hx => (h x hx).2)⟩
theorem OkN.lst {n : Nat} {l : List D} (h : ∀ x ∈ l, OkN n x) : OkN (n + 1) (.lst l) := ⟨plainDs_of fun x hx => (h x hx).1, Nat.succ_le_succ (depDs_of fun x hx => (h x hx).2)⟩
theorem OkN.str : OkN 0 (.str a) := ⟨rfl, Nat.le_refl 0⟩
theorem OkN.int : OkN 0 (.int i) := ⟨rfl, Nat.le_refl 0⟩
@[simp] theorem ok_int : okD (.int i) = true := rfl
@[simp] theorem ok_str : okD (.str a) = true := rfl
@[simp] theorem ok_non : okD .non = true := rfl
@[simp] theorem ok_bl {b : Bool} : okD (.bl b) = true := rfl
@[simp] theorem eq_int : eqD (.int i) (.int j) = (i == j) := rfl
@[simp] theorem eq_str {b : String} : eqD (.str a) (.str b) = (a == b) := rfl
@[simp] theorem r_is : dIs x .non S Q = Q (.bl (isNonD x)) S := propext Iff.rfl
@[simp] theorem r_isnot : dIsNot x .non S Q = Q (.bl (!isNonD x)) S := propext Iff.rfl
theorem lc_mapM {α : Type} (h : α → D) {te : DE} {n : Nat} {R : List D → Store → Prop} {tt : DT} (f : α → D) : ∀ {L : List α} {acc : List D} {σ : DEnv}, keep S → (acc.length + L.length ≤ lim) → (∀ x ∈ L, ∀ Q, Q true S → tt (σ.set n (some (h x))) S Q) → (∀ x ∈ L, ∀ Q, Q (f x) S → te (σ.set n (some (h x))) S Q) → R (acc ++ L.map f) S → lcL keep (gN n) tt te σ (L.map h) acc S R
  | [], acc, σ, hk, _, _, _, h => ⟨hk, by simpa using h⟩
  | x :: L, acc, σ, hk, hl, ht, he, h => by
    refine ⟨hk, ?_⟩
    refine ht x (by simp) _ ?_
    rw [if_pos rfl]
    refine he x (by simp) _ ⟨by simp at hl; omega, ?_⟩
    exact lc_mapM _ f hk (by simp at hl ⊢; omega) (fun y hy => ht y (by simp [hy])) (fun y hy => he y (by simp [hy])) (by simpa using h)
theorem objs_range {fs : List Addr} {n : Nat} (h : fs.length = n) : fs.map D.obj = (List.range n).map fun i => D.obj (fs.getD i 0) := by
  refine List.ext_getElem? fun i => ?_
  rw [List.getElem?_map, List.getElem?_map]
  by_cases hi : i < n
  · rw [List.getElem?_range hi, List.getElem?_eq_getElem (by rw [h]; exact hi)]
    simp [List.getD_eq_getElem?_getD, List.getElem?_eq_getElem (show i < fs.length by rw [h]; exact hi)]
  · rw [List.getElem?_eq_none (by omega), List.getElem?_eq_none (by simp; omega)]; rfl
theorem sortd_obj {l : List String} (h : S p = some (.lst (l.map D.str))) : bSorted [.obj p] S Q = (l.length < 64 ∧ Q (.lst ((srt l).map D.str)) S) := by
  unfold bSorted
  simp only [asK_objL h, asL_obj h, r_ofO, strsOf_map]
theorem sortd_dic {l : List String} (h : S p = some (.dic (keysD l))) : bSorted [.obj p] S Q = (l.length < 64 ∧ Q (.lst ((srt l).map D.str)) S) := by
  unfold bSorted
  simp only [asK_obj h, keys_len, keys_fst]
@[simp] theorem tuple_lst {l : List D} : bTuple [.lst l] S Q = Q (.tup l) S := propext Iff.rfl
@[simp] theorem listX_lst {l : List D} : bListX [.lst l] S Q = Q (.lst l) S := propext Iff.rfl
theorem lc_filt {te : DE} {n : Nat} {R : List D → Store → Prop} {tt : DT} (f : D → D) (t : D → Bool) : ∀ {L acc : List D} {σ : DEnv}, keep S → (acc.length + L.length ≤ lim) → (∀ x ∈ L, ∀ Q, Q (t x) S → tt (σ.set n (some x)) S Q) → (∀ x ∈ L, ∀ Q, Q (f x) S → te (σ.set n (some x)) S Q) → R (acc ++ (L.filter t).map f) S → lcL keep (gN n) tt te σ L acc S R
  | [], acc, σ, hk, _, _, _, h => ⟨hk, by simpa using h⟩
  | x :: L, acc, σ, hk, hl, ht, he, h => by
    refine ⟨hk, ?_⟩
    show tt (σ.set n (some x)) S _
    refine ht x (by simp) _ ?_
    have ht' : ∀ y ∈ L, ∀ Q, Q (t y) S → tt (σ.set n (some y)) S Q := fun y hy => ht y (by simp [hy])
    have he' : ∀ y ∈ L, ∀ Q, Q (f y) S → te (σ.set n (some y)) S Q := fun y hy => he y (by simp [hy])
    by_cases e : t x = true
    · rw [if_pos e]
      refine he x (by simp) _ ⟨by simp at hl; omega, ?_⟩
      exact lc_filt f t hk (by simp at hl ⊢; omega) ht' he' (by simpa [List.filter_cons, e] using h)
    · rw [if_neg e]
      exact lc_filt f t hk (by simp at hl ⊢; omega) ht' he' (by simpa [List.filter_cons, e] using h)
end
end DL
/-! DS4: tuples read by place, texts among displayed ones, slices. -/
namespace DL
open PySem PySem.Spec PyProof.Rows L2
section
variable {σ : DEnv} {S S0 S' : Store} {Q : QE} {x y z : D} {l m : List D} {p q : Addr} {o : Ob} {i j : Int} {neg : Bool} {a b : String}
theorem in_tup : dIn neg (.str a) (.tup l) S Q = (l.all flatD = true ∧ Q (.bl (DL.inR neg (inD (.str a) l))) S) := by
  show (flatD (.str a) = true ∧ l.all flatD = true ∧ Q (.bl (DL.inR neg (inD (.str a) l))) S) = _
  simp [flatD]
theorem in_lstS : dIn neg (.str a) (.lst l) S Q = (l.all flatD = true ∧ Q (.bl (DL.inR neg (inD (.str a) l))) S) := by
  show (flatD (.str a) = true ∧ l.all flatD = true ∧ Q (.bl (DL.inR neg (inD (.str a) l))) S) = _
  simp [flatD]
theorem inD_cons : inD x (y :: l) = (eqD y x || inD x l) := rfl
theorem inD_nil : inD x [] = false := rfl
@[simp] theorem flat_str : flatD (.str a) = true := rfl
@[simp] theorem flat_int : flatD (.int i) = true := rfl
@[simp] theorem flat_bl {k : Bool} : flatD (.bl k) = true := rfl
@[simp] theorem r_neg : dNeg (.int i) S Q = Q (.int (-i)) S := propext Iff.rfl
@[simp] theorem r_negr {k : Bool} : DL.inR false k = k := rfl
@[simp] theorem r_negt {k : Bool} : DL.inR true k = !k := rfl
theorem ix_neg {n k : Nat} (h : k < n) (hk : 0 < n - k) : ixN n (-((n - k : Nat) : Int)) = some k := by
  unfold ixN
  rw [if_neg (by omega), if_pos (by omega)]
  congr 1
  omega
@[simp] theorem atm1_1 : atI [x] (-1) = some x := by unfold atI; rw [show ixN [x].length (-1) = some 0 from ix_neg (n := 1) (k := 0) (by omega) (by omega)]; rfl
@[simp] theorem atm1_2 : atI [x, y] (-1) = some y := by unfold atI; rw [show ixN [x, y].length (-1) = some 1 from ix_neg (n := 2) (k := 1) (by omega) (by omega)]; rfl
@[simp] theorem atm1_3 : atI [x, y, z] (-1) = some z := by unfold atI; rw [show ixN [x, y, z].length (-1) = some 2 from ix_neg (n := 3) (k := 2) (by omega) (by omega)]; rfl
@[simp] theorem atm1_4 {w : D} : atI [x, y, z, w] (-1) = some w := by unfold atI; rw [show ixN [x, y, z, w].length (-1) = some 3 from ix_neg (n := 4) (k := 3) (by omega) (by omega)]; rfl
@[simp] theorem r_dSl {r : DSl} {da : DE} {dl dh : DO} : dSl r da dl dh σ S Q = da σ S fun x S1 => dl σ S1 fun lo S2 => dh σ S2 fun hi S3 => r x lo hi S3 Q := propext Iff.rfl
@[simp] theorem r_noPart {R : Option Int → Store → Prop} : dNoPart σ S R = R none S := propext Iff.rfl
@[simp] theorem r_part {d : DE} {R : Option Int → Store → Prop} : dPart d σ S R = d σ S fun x S1 => match x with
  | .int i => R (some i) S1
  | _ => False := propext Iff.rfl
/-- t[k:] -/
theorem sl_from {k : Nat} (h0 : 0 < k) (h : k ≤ l.length) : slD (.tup l) (some (k : Int)) none S Q = Q (.tup (l.drop k)) S := by
  unfold slD DL.cutD
  simp only [HT.sIx_nat, HT.sIx_none, Nat.min_eq_left h]
  rw [List.take_of_length_le (by simp)]
  refine propext ⟨fun z => z.2, fun z => ⟨fun w => by omega, z⟩⟩
theorem sl_to {k : Nat} (h : k < l.length) : slD (.tup l) none (some (k : Int)) S Q = Q (.tup (l.take k)) S := by
  unfold slD DL.cutD
  simp only [HT.sIx_nat, HT.sIx_none, Nat.min_eq_left (Nat.le_of_lt h), List.drop_zero, Nat.sub_zero]
  refine propext ⟨fun z => z.2, fun z => ⟨fun w => by omega, z⟩⟩
theorem sl_toN (h : 0 < l.length) : slD (.tup l) none (some (-1)) S Q = Q (.tup l.dropLast) S := by
  have e : HT.sIx l.length l.length (some (-1)) = l.length - 1 := by
    unfold HT.sIx
    simp only [show (-1 : Int) < 0 by decide, if_true]
    omega
  unfold slD DL.cutD
  simp only [e, HT.sIx_none, List.drop_zero, Nat.sub_zero, List.dropLast_eq_take]
  refine propext ⟨fun z => z.2, fun z => ⟨fun w => by omega, z⟩⟩
theorem slL_from {k : Nat} (h : k ≤ l.length) : slD (.lst l) (some (k : Int)) none S Q = Q (.lst (l.drop k)) S := by
  show Q (.lst (DL.cutD l (some (k : Int)) none)) S = _
  unfold DL.cutD
  simp only [HT.sIx_nat, HT.sIx_none, Nat.min_eq_left h]
  rw [List.take_of_length_le (by simp)]
@[simp] theorem sl_1 : slD (.tup (x :: l)) (some 1) none S Q = Q (.tup l) S := sl_from (k := 1) (by omega) (by simp)
@[simp] theorem listX_tup : bListX [.tup l] S Q = Q (.lst l) S := propext Iff.rfl
@[simp] theorem tuple_tup : bTuple [.tup l] S Q = Q (.tup l) S := propext Iff.rfl
@[simp] theorem lenT : lenD S (.tup l) = some l.length := rfl
@[simp] theorem r_rev {da : DE} : dRevL da σ S Q = da σ S fun x S1 => ofO (asL S1 x) fun l => Q (.lst l.reverse) S1 := propext Iff.rfl
end
end DL
/-! DS5: slices by small numbers. -/
namespace DL
open PySem PySem.Spec PyProof.Rows L2
section
variable {σ : DEnv} {S : Store} {Q : QE} {x y z w : D} {l : List D}
@[simp] theorem sl_t1 : slD (.tup (x :: y :: l)) none (some 1) S Q = Q (.tup [x]) S := sl_to (k := 1) (by simp)
@[simp] theorem sl_t2 : slD (.tup (x :: y :: z :: l)) none (some 2) S Q = Q (.tup [x, y]) S := sl_to (k := 2) (by simp)
@[simp] theorem sl_t3 : slD (.tup (x :: y :: z :: w :: l)) none (some 3) S Q = Q (.tup [x, y, z]) S := sl_to (k := 3) (by simp)
@[simp] theorem slL_2 : slD (.lst (x :: y :: l)) (some 2) none S Q = Q (.lst l) S := slL_from (k := 2) (by simp)
theorem lc_filtM {α : Type} (h : α → D) {te : DE} {n : Nat} {keep : Store → Prop} {R : List D → Store → Prop} {tt : DT} (f : α → D) (t : α → Bool) : ∀ {L : List α} {acc : List D} {σ : DEnv}, keep S → (acc.length + L.length ≤ lim) → (∀ x ∈ L, ∀ Q, Q (t x) S → tt (σ.set n (some (h x))) S Q) → (∀ x ∈ L, ∀ Q, Q (f x) S → te (σ.set n (some (h x))) S Q) → R (acc ++ (L.filter t).map f) S → lcL keep (gN n) tt te σ (L.map h) acc S R
  | [], acc, σ, hk, _, _, _, h => ⟨hk, by simpa using h⟩
  | x :: L, acc, σ, hk, hl, ht, he, hR => by
    refine ⟨hk, ?_⟩
    refine ht x (by simp) _ ?_
    have ht' : ∀ y ∈ L, ∀ Q, Q (t y) S → tt (σ.set n (some (h y))) S Q := fun y hy => ht y (by simp [hy])
    have he' : ∀ y ∈ L, ∀ Q, Q (f y) S → te (σ.set n (some (h y))) S Q := fun y hy => he y (by simp [hy])
    by_cases e : t x = true
    · rw [if_pos e]
      refine he x (by simp) _ ⟨by simp at hl; omega, ?_⟩
      exact lc_filtM h f t hk (by simp at hl ⊢; omega) ht' he' (by simpa [List.filter_cons, e] using hR)
    · rw [if_neg e]
      exact lc_filtM h f t hk (by simp at hl ⊢; omega) ht' he' (by simpa [List.filter_cons, e] using hR)
theorem zipD_strs {β : Type} (h : β → D) : ∀ (l : List D) (m : List β), zipD l (m.map h) = (List.zip l m).map fun q => .tup [q.1, h q.2]
  | [], m => by simp [zipD]
  | x :: l, [] => by simp [zipD]
  | x :: l, y :: m => by simp [zipD, zipD_strs h l m]
theorem nodup_len {α : Type} [DecidableEq α] : ∀ {l m : List α}, l.Nodup → (∀ x ∈ l, x ∈ m) → l.length ≤ m.length
  | [], m, _, _ => by simp
  | x :: l, m, hn, hs => by
    have hx := hs x (by simp)
    have hn' := List.nodup_cons.mp hn
    have := nodup_len (l := l) (m := m.erase x) hn'.2 fun y hy => (List.mem_erase_of_ne (fun (e : y = x) => hn'.1 (by rw [← e]; exact hy))).mpr (hs y (by simp [hy]))
    rw [List.length_erase_of_mem hx] at this
    have := List.length_pos_of_mem hx
    simp
    omega
theorem nodup_perm {α : Type} [DecidableEq α] {l m : List α} (h1 : l.Nodup) (h2 : m.Nodup) (h : ∀ x, x ∈ l ↔ x ∈ m) : l.Perm m := by
  rw [List.perm_iff_count]
  intro a
  by_cases e : a ∈ l
  · rw [h1.count, h2.count]
    simp [e, (h a).mp e]
  · rw [h1.count, h2.count]
    have e' : ¬ a ∈ m := fun z => e ((h a).mpr z)
    simp [e, e']
end
end DL
/-! DS6: the text of data. -/
namespace DL
open PySem PySem.Spec PyProof.Rows L2
/-- every sign of it is a character -/
def GoodS (x : Str) : Prop := ∀ c ∈ x.cps.toList, Nat.isValidChar c
theorem good_ofS (s : String) : GoodS (Str.ofString s) := by
  intro c hc
  rw [ofS_cps] at hc
  obtain ⟨ch, _, rfl⟩ := List.mem_map.mp hc
  exact ch.valid
theorem good_ex {x : Str} (h : GoodS x) : ∃ t : String, Str.ofString t = x := by
  refine ⟨String.ofList (x.cps.toList.map Char.ofNat), ?_⟩
  have e : (x.cps.toList.map Char.ofNat).map Char.toNat = x.cps.toList := by
    rw [List.map_map]
    refine (List.map_congr_left fun c hc => ?_).trans (List.map_id _)
    show (Char.ofNat c).toNat = id c
    have v := h c hc
    simp only [Char.ofNat, dif_pos v, id]
    simp [Char.ofNatAux, Char.toNat]
  rw [ofS_eq, String.toList_ofList, e]
theorem good_app {x y : Str} (h : GoodS x) (k : GoodS y) : GoodS (x ++ y) := by
  intro c hc
  have hc : c ∈ (x.cps ++ y.cps).toList := hc
  rw [Array.toList_append] at hc
  rcases List.mem_append.mp hc with hc | hc
  · exact h c hc
  · exact k c hc
theorem good_join {sep : Str} (hs : GoodS sep) : ∀ {ts : List Str}, (∀ t ∈ ts, GoodS t) → GoodS (Str.join sep ts)
  | [], _ => by intro c hc; simp [Str.join, Str.empty] at hc
  | [x], h => h x (by simp)
  | x :: y :: r, h => by
    rw [show Str.join sep (x :: y :: r) = x ++ sep ++ Str.join sep (y :: r) from rfl]
    exact good_app (good_app (h x (by simp)) hs) (good_join hs fun t ht => h t (by simp [ht]))
theorem good_char {q c : Nat} (hq : Nat.isValidChar q) (hc : Nat.isValidChar c) : ∀ z ∈ Builtin.Str.reprChar q c, Nat.isValidChar z := by
  have small : ∀ z : Nat, z < 1000 → Nat.isValidChar z := fun z h => .inl (by omega)
  have hex : ∀ w : Nat, ∀ z ∈ (List.replicate (w - ((Nat.toDigits 16 c).map Char.toNat).length) 48 ++ (Nat.toDigits 16 c).map Char.toNat), Nat.isValidChar z := fun w z hz => by
    rcases List.mem_append.mp hz with hz | hz
    · rw [(List.mem_replicate.mp hz).2]; exact small 48 (by omega)
    · obtain ⟨ch, _, rfl⟩ := List.mem_map.mp hz
      exact ch.valid
  intro z hz
  unfold Builtin.Str.reprChar at hz
  dsimp only at hz
  split at hz
  · simp at hz; rcases hz with rfl | rfl
    · exact small _ (by omega)
    · exact hc
  · split at hz
    · simp at hz; rcases hz with rfl | rfl <;> exact small _ (by omega)
    · split at hz
      · simp at hz; rcases hz with rfl | rfl <;> exact small _ (by omega)
      · split at hz
        · simp at hz; rcases hz with rfl | rfl <;> exact small _ (by omega)
        · split at hz
          · simp at hz; subst hz; exact hc
          · split at hz
            · rcases List.mem_append.mp hz with hz | hz
              · simp at hz; rcases hz with rfl | rfl <;> exact small _ (by omega)
              · exact hex _ z hz
            · split at hz
              · rcases List.mem_append.mp hz with hz | hz
                · simp at hz; rcases hz with rfl | rfl <;> exact small _ (by omega)
                · exact hex _ z hz
              · rcases List.mem_append.mp hz with hz | hz
                · simp at hz; rcases hz with rfl | rfl <;> exact small _ (by omega)
                · exact hex _ z hz
theorem good_fold {q : Nat} (hq : Nat.isValidChar q) : ∀ (l : List Nat) (acc : Array Nat), (∀ c ∈ l, Nat.isValidChar c) → (∀ c ∈ acc.toList, Nat.isValidChar c) →
    ∀ c ∈ (l.foldl (fun out c => out ++ (Builtin.Str.reprChar q c).toArray) acc).toList, Nat.isValidChar c
  | [], acc, _, ha => ha
  | x :: l, acc, hl, ha => by
    rw [List.foldl_cons]
    refine good_fold hq l _ (fun c hc => hl c (by simp [hc])) fun c hc => ?_
    rw [Array.toList_append] at hc
    rcases List.mem_append.mp hc with hc | hc
    · exact ha c hc
    · exact good_char hq (hl x (by simp)) c hc
theorem good_quote (x : Str) : Nat.isValidChar (reprQuote x) := by
  unfold reprQuote
  split <;> exact .inl (by omega)
theorem good_text {x : Str} (h : GoodS x) : GoodS (reprText x) := by
  intro c hc
  unfold reprText at hc
  rw [← Array.foldl_toList] at hc
  rw [Array.toList_push] at hc
  rcases List.mem_append.mp hc with hc | hc
  · refine good_fold (good_quote x) x.cps.toList _ h (fun c hc => ?_) c hc
    simp at hc; subst hc; exact good_quote x
  · simp at hc; subst hc; exact good_quote x
theorem good_tuple {ts : List Str} (h : ∀ t ∈ ts, GoodS t) : GoodS (tupleText ts) := by
  unfold tupleText
  refine good_app (good_app (good_ofS "(") (good_join (good_ofS ", ") h)) ?_
  split <;> exact good_ofS _
theorem len_tuple (ts : List Str) : (tupleText ts).length ≤ piled ts + 3 := by
  have e3 : (((if ts.length == 1 then ",)" else ")" : String) : Str)).length ≤ 2 := by split <;> decide
  have e1 : ((("(" : String) : Str)).length = 1 := rfl
  unfold tupleText
  rw [strLen_append, strLen_append, e1]
  cases ts with
  | nil =>
    have : (Str.join ((", " : String) : Str) []).length = 0 := rfl
    omega
  | cons a r =>
    have := join_length_add (a :: r) (by simp)
    omega
theorem listText_eq (ts : List Str) : listText ts = textFrom 0 "[" ts ++ "]" := rfl
mutual
/-- a bound of the text's length; lists have none -/
def szD : D → Nat
  | .str s => 10 * s.length + 2
  | .tup l => szDs l + 3
  | _ => 70
def szDs : List D → Nat
  | [] => 0
  | d :: l => szD d + 2 + szDs l
end
mutual
/-- tuples of texts, bools, small integers -/
def flatT : D → Bool
  | .non => true
  | .bl _ => true
  | .int i => decide (i.natAbs < 2 ^ 64)
  | .str _ => true
  | .tup l => flatTs l
  | _ => false
def flatTs : List D → Bool
  | [] => true
  | d :: l => flatT d && flatTs l
end
mutual
theorem shown_ok : ∀ d : D, flatT d = true → plainD d = true ∧ (toP d).showable = true ∧ GoodS (PyData.shown (toP d)) ∧ (PyData.shown (toP d)).length ≤ szD d
  | .non, _ => ⟨rfl, rfl, good_ofS "None", by decide⟩
  | .bl b, _ => ⟨rfl, rfl, by cases b <;> exact good_ofS _, by cases b <;> decide⟩
  | .int i, h => by
    have hi : i.natAbs < 2 ^ 64 := of_decide_eq_true h
    have hl : i.natAbs.log2 < 64 := by
      by_cases e : i.natAbs = 0
      · rw [e]; decide
      · exact (Nat.log2_lt e).mpr hi
    refine ⟨rfl, decide_eq_true (show i.natAbs.log2 < 1920 by omega), good_ofS _, ?_⟩
    show (Str.ofString (toString i)).length ≤ 70
    rw [ofS_len]
    have := int_text_length_le (k := 64) (by omega) hl
    omega
  | .str s, _ => by
    refine ⟨rfl, rfl, ?_, ?_⟩
    · show GoodS (PyData.shown (.str (Str.ofString s)))
      rw [PyData.shown_str]
      exact good_text (good_ofS s)
    · show (PyData.shown (.str (Str.ofString s))).length ≤ 10 * s.length + 2
      rw [PyData.shown_str]
      have := StrLaws.reprText_len (Str.ofString s) fun c hc => by
        have := good_ofS s c hc
        simp only [Nat.isValidChar] at this
        omega
      rw [ofS_len] at this
      exact this
  | .tup l, h => by
    obtain ⟨h1, h2, h3, h4⟩ := showns_ok l h
    refine ⟨h1, h2, ?_, ?_⟩
    · show GoodS (PyData.shown (.tuple (toPs l)))
      simp only [PyData.shown]
      exact good_tuple h3
    · show (PyData.shown (.tuple (toPs l))).length ≤ szDs l + 3
      simp only [PyData.shown]
      have := len_tuple (PyData.shownAll (toPs l))
      omega
  | .lst _, h => by cases h
  | .dic _, h => by cases h
  | .scr _, h => by cases h
  | .obj _, h => by cases h
  | .ty _, h => by cases h
theorem showns_ok : ∀ l : List D, flatTs l = true → plainDs l = true ∧ PyData.showableAll (toPs l) = true ∧ (∀ t ∈ PyData.shownAll (toPs l), GoodS t) ∧ piled (PyData.shownAll (toPs l)) ≤ szDs l
  | [], _ => ⟨rfl, rfl, by simp [toPs, PyData.shownAll], by simp [toPs, PyData.shownAll, piled]⟩
  | d :: l, h => by
    have h' := Bool.and_eq_true_iff.mp (show (flatT d && flatTs l) = true from h)
    obtain ⟨a1, a2, a3, a4⟩ := shown_ok d h'.1
    obtain ⟨b1, b2, b3, b4⟩ := showns_ok l h'.2
    refine ⟨?_, ?_, ?_, ?_⟩
    · show (plainD d && plainDs l) = true
      rw [a1, b1]; rfl
    · show PyData.showableAll (toP d :: toPs l) = true
      simp only [PyData.showableAll, a2, b2]; rfl
    · intro t ht
      simp only [toPs, PyData.shownAll] at ht
      rcases List.mem_cons.mp ht with rfl | ht
      · exact a3
      · exact b3 t ht
    · simp only [toPs, PyData.shownAll, piled_cons]
      show _ ≤ szD d + 2 + szDs l
      omega
end
theorem okRepr_of {l : List D} (h : flatT (.tup l) = true) (hd : depDs l ≤ 60) (hs : szD (.tup l) ≤ lim) : OkRepr l := by
  obtain ⟨a, b, c, d⟩ := shown_ok (.tup l) h
  refine ⟨a, b, hd, ?_, good_ex c⟩
  rw [lim_eq]
  exact Nat.le_trans d hs
end DL
/-! TN1: types, expressions, as data; typing; costs. -/
namespace TM
open DL
inductive Ty where
  | int | bool | unit | fn (a b : Ty) | pair (a b : Ty)
deriving DecidableEq
def Ty.d : Ty → D
  | .int => .tup [.str "int"]
  | .bool => .tup [.str "bool"]
  | .unit => .tup [.str "unit"]
  | .fn a b => .tup [.str "fun", a.d, b.d]
  | .pair a b => .tup [.str "pair", a.d, b.d]
def Ty.dp : Ty → Nat
  | .fn a b => max a.dp b.dp + 1
  | .pair a b => max a.dp b.dp + 1
  | _ => 0
def Ty.head : Ty → String
  | .int => "int"
  | .bool => "bool"
  | .unit => "unit"
  | .fn _ _ => "fun"
  | .pair _ _ => "pair"
theorem Ty.okN : ∀ t : Ty, OkN (t.dp + 1) t.d
  | .int => ⟨rfl, by decide⟩
  | .bool => ⟨rfl, by decide⟩
  | .unit => ⟨rfl, by decide⟩
  | .fn a b => by
    have ha := a.okN
    have hb := b.okN
    refine OkN.tup fun x hx => ?_
    simp at hx
    rcases hx with rfl | rfl | rfl
    · exact ⟨rfl, by simp [depD]⟩
    · exact ⟨ha.1, Nat.le_trans ha.2 (by simp [Ty.dp]; omega)⟩
    · exact ⟨hb.1, Nat.le_trans hb.2 (by simp [Ty.dp]; omega)⟩
  | .pair a b => by
    have ha := a.okN
    have hb := b.okN
    refine OkN.tup fun x hx => ?_
    simp at hx
    rcases hx with rfl | rfl | rfl
    · exact ⟨rfl, by simp [depD]⟩
    · exact ⟨ha.1, Nat.le_trans ha.2 (by simp [Ty.dp]; omega)⟩
    · exact ⟨hb.1, Nat.le_trans hb.2 (by simp [Ty.dp]; omega)⟩
theorem eqD_tup {l m : List D} : eqD (.tup l) (.tup m) = eqDs l m := by rw [eqD]
theorem eqDs_cons {x y : D} {l m : List D} : eqDs (x :: l) (y :: m) = (eqD x y && eqDs l m) := by rw [eqDs]
@[simp] theorem eqDs_nil : eqDs [] [] = true := by rw [eqDs]
@[simp] theorem eqDs_n1 {x : D} {l : List D} : eqDs [] (x :: l) = false := by rw [eqDs] <;> simp
@[simp] theorem eqDs_n2 {x : D} {l : List D} : eqDs (x :: l) [] = false := by rw [eqDs] <;> simp
theorem Ty.eq : ∀ a b : Ty, eqD a.d b.d = decide (a = b)
  | .int, .int => by simp [Ty.d, eqD_tup, eqDs_cons]
  | .int, .bool => by simp [Ty.d, eqD_tup, eqDs_cons]
  | .int, .unit => by simp [Ty.d, eqD_tup, eqDs_cons]
  | .int, .fn _ _ => by simp [Ty.d, eqD_tup, eqDs_cons]
  | .int, .pair _ _ => by simp [Ty.d, eqD_tup, eqDs_cons]
  | .bool, .int => by simp [Ty.d, eqD_tup, eqDs_cons]
  | .bool, .bool => by simp [Ty.d, eqD_tup, eqDs_cons]
  | .bool, .unit => by simp [Ty.d, eqD_tup, eqDs_cons]
  | .bool, .fn _ _ => by simp [Ty.d, eqD_tup, eqDs_cons]
  | .bool, .pair _ _ => by simp [Ty.d, eqD_tup, eqDs_cons]
  | .unit, .int => by simp [Ty.d, eqD_tup, eqDs_cons]
  | .unit, .bool => by simp [Ty.d, eqD_tup, eqDs_cons]
  | .unit, .unit => by simp [Ty.d, eqD_tup, eqDs_cons]
  | .unit, .fn _ _ => by simp [Ty.d, eqD_tup, eqDs_cons]
  | .unit, .pair _ _ => by simp [Ty.d, eqD_tup, eqDs_cons]
  | .fn _ _, .int => by simp [Ty.d, eqD_tup, eqDs_cons]
  | .fn _ _, .bool => by simp [Ty.d, eqD_tup, eqDs_cons]
  | .fn _ _, .unit => by simp [Ty.d, eqD_tup, eqDs_cons]
  | .fn a b, .fn c d => by simp [Ty.d, eqD_tup, eqDs_cons, Ty.eq a c, Ty.eq b d]
  | .fn _ _, .pair _ _ => by simp [Ty.d, eqD_tup, eqDs_cons]
  | .pair _ _, .int => by simp [Ty.d, eqD_tup, eqDs_cons]
  | .pair _ _, .bool => by simp [Ty.d, eqD_tup, eqDs_cons]
  | .pair _ _, .unit => by simp [Ty.d, eqD_tup, eqDs_cons]
  | .pair _ _, .fn _ _ => by simp [Ty.d, eqD_tup, eqDs_cons]
  | .pair a b, .pair c d => by simp [Ty.d, eqD_tup, eqDs_cons, Ty.eq a c, Ty.eq b d]

mutual
inductive Tm where
  | num (i : Int) | flag (b : Bool) | unit | name (x : String)
  | fn (x : String) (b : Tm) | rc (f x : String) (b : Tm)
  | lt (x : String) (a b : Tm) | op (s : String) (a b : Tm) | ask (o : String) (a : Tm)
  | fst (a : Tm) | snd (a : Tm) | nt (a : Tm)
  | ite (a b c : Tm) | call (a b : Tm) | pair (a b : Tm) | prt (a b : Tm)
  | han (e : Tm) (r : String) (b : Tm) (cs : Cls)
inductive Cls where
  | nil
  | cons (o x k : String) (b : Tm) (r : Cls)
end
mutual
def Tm.d : Tm → D
  | .num i => .tup [.str "num", .int i]
  | .flag b => .tup [.str "flag", .bl b]
  | .unit => .tup [.str "unit"]
  | .name x => .tup [.str "name", .str x]
  | .fn x b => .tup [.str "fun", .str x, b.d]
  | .rc f x b => .tup [.str "rec", .str f, .str x, b.d]
  | .lt x a b => .tup [.str "let", .str x, a.d, b.d]
  | .op s a b => .tup [.str "op", .str s, a.d, b.d]
  | .ask o a => .tup [.str "ask", .str o, a.d]
  | .fst a => .tup [.str "fst", a.d]
  | .snd a => .tup [.str "snd", a.d]
  | .nt a => .tup [.str "not", a.d]
  | .ite a b c => .tup [.str "if", a.d, b.d, c.d]
  | .call a b => .tup [.str "call", a.d, b.d]
  | .pair a b => .tup [.str "pair", a.d, b.d]
  | .prt a b => .tup [.str "print", a.d, b.d]
  | .han e r b cs => .tup [.str "handle", e.d, .tup [.str r, b.d], .tup cs.d]
def Cls.d : Cls → List D
  | .nil => []
  | .cons o x k b r => .tup [.str o, .str x, .str k, b.d] :: r.d
end
def Cls.len : Cls → Nat
  | .nil => 0
  | .cons _ _ _ _ r => r.len + 1
def Cls.app : Cls → Cls → Cls
  | .nil, c => c
  | .cons o x k b r, c => .cons o x k b (r.app c)
theorem Cls.d_len : ∀ c : Cls, c.d.length = c.len
  | .nil => rfl
  | .cons _ _ _ _ r => by rw [Cls.d, List.length_cons, Cls.d_len r]; rfl
theorem Cls.d_app : ∀ a b : Cls, (a.app b).d = a.d ++ b.d
  | .nil, b => by rw [Cls.app, Cls.d, List.nil_append]
  | .cons o x k t r, b => by rw [Cls.app, Cls.d, Cls.d, Cls.d_app r b, List.cons_append]
def Cls.ops : Cls → List String
  | .nil => []
  | .cons o _ _ _ r => o :: r.ops
theorem Cls.ops_app : ∀ a b : Cls, (a.app b).ops = a.ops ++ b.ops
  | .nil, b => rfl
  | .cons o x k t r, b => by rw [Cls.app, Cls.ops, Cls.ops, Cls.ops_app r b, List.cons_append]
theorem Cls.len_app : ∀ a b : Cls, (a.app b).len = a.len + b.len
  | .nil, b => by simp [Cls.app, Cls.len]
  | .cons o x k t r, b => by simp [Cls.app, Cls.len, Cls.len_app r b]; omega
mutual
/-- how many expressions stand in it -/
def Tm.sz : Tm → Nat
  | .num _ => 1 | .flag _ => 1 | .unit => 1 | .name _ => 1
  | .fn _ b => b.sz + 1 | .rc _ _ b => b.sz + 1
  | .lt _ a b => a.sz + b.sz + 1 | .op _ a b => a.sz + b.sz + 1 | .ask _ a => a.sz + 1
  | .fst a => a.sz + 1 | .snd a => a.sz + 1 | .nt a => a.sz + 1
  | .ite a b c => a.sz + b.sz + c.sz + 1 | .call a b => a.sz + b.sz + 1 | .pair a b => a.sz + b.sz + 1 | .prt a b => a.sz + b.sz + 1
  | .han e _ b cs => e.sz + b.sz + cs.sz + 1
def Cls.sz : Cls → Nat
  | .nil => 0
  | .cons _ _ _ b r => b.sz + r.sz
end
mutual
/-- how deep it is, a clause's place counted thrice -/
def Tm.dep : Tm → Nat
  | .num _ => 0 | .flag _ => 0 | .unit => 0 | .name _ => 0
  | .fn _ b => b.dep + 1 | .rc _ _ b => b.dep + 1
  | .lt _ a b => max a.dep b.dep + 1 | .op _ a b => max a.dep b.dep + 1 | .ask _ a => a.dep + 1
  | .fst a => a.dep + 1 | .snd a => a.dep + 1 | .nt a => a.dep + 1
  | .ite a b c => max a.dep (max b.dep c.dep) + 1 | .call a b => max a.dep b.dep + 1 | .pair a b => max a.dep b.dep + 1 | .prt a b => max a.dep b.dep + 1
  | .han e _ b cs => max e.dep (max b.dep cs.dep) + 3
def Cls.dep : Cls → Nat
  | .nil => 0
  | .cons _ _ _ b r => max b.dep r.dep
end
theorem Cls.sz_app : ∀ a b : Cls, (a.app b).sz = a.sz + b.sz
  | .nil, b => by simp [Cls.app, Cls.sz]
  | .cons o x k t r, b => by simp [Cls.app, Cls.sz, Cls.sz_app r b]; omega
theorem Cls.dep_app : ∀ a b : Cls, (a.app b).dep = max a.dep b.dep
  | .nil, b => by simp [Cls.app, Cls.dep]
  | .cons o x k t r, b => by simp [Cls.app, Cls.dep, Cls.dep_app r b]
mutual
/-- names of P, short operations, small numbers, few clauses -/
def Tm.ok (P : String → Prop) : Tm → Prop
  | .num i => i.natAbs < 2 ^ 32
  | .flag _ => True
  | .unit => True
  | .name x => P x
  | .fn x b => P x ∧ b.ok P
  | .rc f x b => P f ∧ P x ∧ b.ok P
  | .lt x a b => P x ∧ a.ok P ∧ b.ok P
  | .op s a b => s.length ≤ 8 ∧ a.ok P ∧ b.ok P
  | .ask o a => o.length ≤ 8 ∧ a.ok P
  | .fst a => a.ok P
  | .snd a => a.ok P
  | .nt a => a.ok P
  | .ite a b c => a.ok P ∧ b.ok P ∧ c.ok P
  | .call a b => a.ok P ∧ b.ok P
  | .pair a b => a.ok P ∧ b.ok P
  | .prt a b => a.ok P ∧ b.ok P
  | .han e r b cs => P r ∧ e.ok P ∧ b.ok P ∧ cs.len ≤ 4 ∧ cs.ok P
def Cls.ok (P : String → Prop) : Cls → Prop
  | .nil => True
  | .cons o x k b r => o.length ≤ 8 ∧ P x ∧ P k ∧ b.ok P ∧ r.ok P
end
theorem Cls.ok_app {P : String → Prop} : ∀ {a b : Cls}, a.ok P → b.ok P → (a.app b).ok P
  | .nil, b, _, h => h
  | .cons o x k t r, b, h, g => by
    simp only [Cls.app, Cls.ok] at h ⊢
    exact ⟨h.1, h.2.1, h.2.2.1, h.2.2.2.1, Cls.ok_app h.2.2.2.2 g⟩

/-! ### typing -/
abbrev Ops := List (String × Ty × Ty)
abbrev Cn := List (String × Ty)
inductive Sg : String → Ty → Prop
  | add : Sg "+" .int
  | sub : Sg "-" .int
  | mul : Sg "*" .int
  | lt : Sg "<" .bool
  | eq : Sg "==" .bool
mutual
inductive Has (ops : Ops) : Cn → Tm → Ty → Prop
  | num {Γ} (i : Int) : Has ops Γ (.num i) .int
  | flag {Γ} (b : Bool) : Has ops Γ (.flag b) .bool
  | unit {Γ} : Has ops Γ .unit .unit
  | name {Γ x τ} : Γ.lookup x = some τ → Has ops Γ (.name x) τ
  | fn {Γ x a b τ} : Has ops ((x, a) :: Γ) b τ → Has ops Γ (.fn x b) (.fn a τ)
  | rc {Γ f x a b τ} : Has ops ((x, a) :: (f, .fn a τ) :: Γ) b τ → Has ops Γ (.rc f x b) (.fn a τ)
  | lt {Γ x a b σ τ} : Has ops Γ a σ → Has ops ((x, σ) :: Γ) b τ → Has ops Γ (.lt x a b) τ
  | op {Γ s a b τ} : Sg s τ → Has ops Γ a .int → Has ops Γ b .int → Has ops Γ (.op s a b) τ
  | ask {Γ o a α β} : ops.lookup o = some (α, β) → Has ops Γ a α → Has ops Γ (.ask o a) β
  | fst {Γ a σ τ} : Has ops Γ a (.pair σ τ) → Has ops Γ (.fst a) σ
  | snd {Γ a σ τ} : Has ops Γ a (.pair σ τ) → Has ops Γ (.snd a) τ
  | nt {Γ a} : Has ops Γ a .bool → Has ops Γ (.nt a) .bool
  | ite {Γ a b c τ} : Has ops Γ a .bool → Has ops Γ b τ → Has ops Γ c τ → Has ops Γ (.ite a b c) τ
  | call {Γ a b σ τ} : Has ops Γ a (.fn σ τ) → Has ops Γ b σ → Has ops Γ (.call a b) τ
  | pair {Γ a b σ τ} : Has ops Γ a σ → Has ops Γ b τ → (Ty.pair σ τ).dp ≤ 20 → Has ops Γ (.pair a b) (.pair σ τ)
  | prt {Γ a b τ} : Has ops Γ a .int → Has ops Γ b τ → Has ops Γ (.prt a b) τ
  | han {Γ e r b cs σ τ} : Has ops Γ e σ → Has ops ((r, σ) :: Γ) b τ → HasC ops Γ cs τ → cs.ops.Nodup → Has ops Γ (.han e r b cs) τ
inductive HasC (ops : Ops) : Cn → Cls → Ty → Prop
  | nil {Γ τ} : HasC ops Γ .nil τ
  | cons {Γ o x k b r α β τ} : ops.lookup o = some (α, β) → Has ops ((k, .fn β τ) :: (x, α) :: Γ) b τ → HasC ops Γ r τ → HasC ops Γ (.cons o x k b r) τ
end
theorem HasC.app {ops : Ops} {Γ : Cn} {τ : Ty} : ∀ {a b : Cls}, HasC ops Γ a τ → HasC ops Γ b τ → HasC ops Γ (a.app b) τ
  | .nil, b, _, h => h
  | .cons o x k t r, b, .cons h1 h2 h3, g => .cons h1 h2 (HasC.app h3 g)
/-! ### costs -/
mutual
/-- micro-steps of an expression, each of its parts once -/
def Tm.cost : Tm → Nat
  | .num _ => 1 | .flag _ => 1 | .unit => 1 | .name _ => 1
  | .fn _ _ => 1 | .rc _ _ _ => 1
  | .lt _ a b => a.cost + b.cost + 2 | .op _ a b => a.cost + b.cost + 3 | .ask _ a => a.cost + 2
  | .fst a => a.cost + 2 | .snd a => a.cost + 2 | .nt a => a.cost + 2
  | .ite a b c => a.cost + max b.cost c.cost + 2 | .call a b => a.cost + b.cost + 3 | .pair a b => a.cost + b.cost + 3 | .prt a b => a.cost + b.cost + 2
  | .han e _ b _ => e.cost + b.cost + 2
end
mutual
/-- bodies of functions and clauses cost at most B; functions that call themselves have a name; numbers are small -/
def Tm.gd0 (B : Nat) : Tm → Prop
  | .num i => i.natAbs < 2 ^ 32
  | .flag _ => True
  | .unit => True
  | .name _ => True
  | .fn _ b => b.cost ≤ B ∧ b.gd0 B
  | .rc f _ b => f ≠ "" ∧ b.cost ≤ B ∧ b.gd0 B
  | .lt _ a b => a.gd0 B ∧ b.gd0 B
  | .op _ a b => a.gd0 B ∧ b.gd0 B
  | .ask _ a => a.gd0 B
  | .fst a => a.gd0 B
  | .snd a => a.gd0 B
  | .nt a => a.gd0 B
  | .ite a b c => a.gd0 B ∧ b.gd0 B ∧ c.gd0 B
  | .call a b => a.gd0 B ∧ b.gd0 B
  | .pair a b => a.gd0 B ∧ b.gd0 B
  | .prt a b => a.gd0 B ∧ b.gd0 B
  | .han e _ b cs => e.gd0 B ∧ b.gd0 B ∧ cs.gd0 B ∧ cs.len ≤ 4
def Cls.gd0 (B : Nat) : Cls → Prop
  | .nil => True
  | .cons _ _ _ b r => b.cost ≤ B ∧ b.gd0 B ∧ r.gd0 B
end
/-- and it is not deep -/
def Tm.gd (B : Nat) (t : Tm) : Prop := t.gd0 B ∧ t.dep ≤ 40
def Cls.gd (B : Nat) (c : Cls) : Prop := c.gd0 B ∧ c.dep ≤ 40
theorem Tm.cost_pos : ∀ t : Tm, 1 ≤ t.cost
  | .num _ => Nat.le_refl 1 | .flag _ => Nat.le_refl 1 | .unit => Nat.le_refl 1 | .name _ => Nat.le_refl 1
  | .fn _ _ => Nat.le_refl 1 | .rc _ _ _ => Nat.le_refl 1
  | .lt _ a b => by simp only [Tm.cost]; omega
  | .op _ a b => by simp only [Tm.cost]; omega
  | .ask _ a => by simp only [Tm.cost]; omega
  | .fst a => by simp only [Tm.cost]; omega
  | .snd a => by simp only [Tm.cost]; omega
  | .nt a => by simp only [Tm.cost]; omega
  | .ite a b c => by simp only [Tm.cost]; omega
  | .call a b => by simp only [Tm.cost]; omega
  | .pair a b => by simp only [Tm.cost]; omega
  | .prt a b => by simp only [Tm.cost]; omega
  | .han e _ b _ => by simp only [Tm.cost]; omega
theorem Cls.gd0_app {B : Nat} : ∀ {a b : Cls}, a.gd0 B → b.gd0 B → (a.app b).gd0 B
  | .nil, b, _, h => h
  | .cons o x k t r, b, h, g => by
    simp only [Cls.app, Cls.gd0] at h ⊢
    exact ⟨h.1, h.2.1, Cls.gd0_app h.2.2 g⟩
section
variable {B : Nat} {a b c : Tm} {f x o s : String} {cs : Cls}
theorem gd_num {i : Int} (h : (Tm.num i).gd B) : i.natAbs < 2 ^ 32 := h.1
theorem gd_fn (h : (Tm.fn x b).gd B) : b.cost ≤ B ∧ b.gd B := ⟨h.1.1, h.1.2, by have := h.2; simp only [Tm.dep] at this; omega⟩
theorem gd_rc (h : (Tm.rc f x b).gd B) : f ≠ "" ∧ b.cost ≤ B ∧ b.gd B := ⟨h.1.1, h.1.2.1, h.1.2.2, by have := h.2; simp only [Tm.dep] at this; omega⟩
theorem gd_lt (h : (Tm.lt x a b).gd B) : a.gd B ∧ b.gd B := by
  have := h.2; simp only [Tm.dep] at this; exact ⟨⟨h.1.1, by omega⟩, h.1.2, by omega⟩
theorem gd_op (h : (Tm.op s a b).gd B) : a.gd B ∧ b.gd B := by
  have := h.2; simp only [Tm.dep] at this; exact ⟨⟨h.1.1, by omega⟩, h.1.2, by omega⟩
theorem gd_call (h : (Tm.call a b).gd B) : a.gd B ∧ b.gd B := by
  have := h.2; simp only [Tm.dep] at this; exact ⟨⟨h.1.1, by omega⟩, h.1.2, by omega⟩
theorem gd_pair (h : (Tm.pair a b).gd B) : a.gd B ∧ b.gd B := by
  have := h.2; simp only [Tm.dep] at this; exact ⟨⟨h.1.1, by omega⟩, h.1.2, by omega⟩
theorem gd_prt (h : (Tm.prt a b).gd B) : a.gd B ∧ b.gd B := by
  have := h.2; simp only [Tm.dep] at this; exact ⟨⟨h.1.1, by omega⟩, h.1.2, by omega⟩
theorem gd_ask (h : (Tm.ask o a).gd B) : a.gd B := ⟨h.1, by have := h.2; simp only [Tm.dep] at this; omega⟩
theorem gd_fst (h : (Tm.fst a).gd B) : a.gd B := ⟨h.1, by have := h.2; simp only [Tm.dep] at this; omega⟩
theorem gd_snd (h : (Tm.snd a).gd B) : a.gd B := ⟨h.1, by have := h.2; simp only [Tm.dep] at this; omega⟩
theorem gd_nt (h : (Tm.nt a).gd B) : a.gd B := ⟨h.1, by have := h.2; simp only [Tm.dep] at this; omega⟩
theorem gd_ite (h : (Tm.ite a b c).gd B) : a.gd B ∧ b.gd B ∧ c.gd B := by
  have := h.2; simp only [Tm.dep] at this; exact ⟨⟨h.1.1, by omega⟩, ⟨h.1.2.1, by omega⟩, h.1.2.2, by omega⟩
theorem gd_han (h : (Tm.han a x b cs).gd B) : a.gd B ∧ b.gd B ∧ cs.gd B := by
  have := h.2; simp only [Tm.dep] at this; exact ⟨⟨h.1.1, by omega⟩, ⟨h.1.2.1, by omega⟩, h.1.2.2.1, by omega⟩
theorem gd_len (h : (Tm.han a x b cs).gd B) : cs.len ≤ 4 := h.1.2.2.2
theorem gd_cons {k : String} (h : (Cls.cons o x k b cs).gd B) : b.cost ≤ B ∧ b.gd B ∧ cs.gd B := by
  have := h.2; simp only [Cls.dep] at this; exact ⟨h.1.1, ⟨h.1.2.1, by omega⟩, h.1.2.2, by omega⟩
end
/-- leaves of nested pairs; nodes; no function in it -/
def Ty.lv : Ty → Nat
  | .pair a b => a.lv + b.lv
  | _ => 1
def Ty.nd : Ty → Nat
  | .fn a b => a.nd + b.nd + 1
  | .pair a b => a.nd + b.nd + 1
  | _ => 1
def Ty.plain : Ty → Bool
  | .fn _ _ => false
  | .pair a b => a.plain && b.plain
  | _ => true
theorem Ty.lv_pos : ∀ t : Ty, 1 ≤ t.lv
  | .int => Nat.le_refl 1
  | .bool => Nat.le_refl 1
  | .unit => Nat.le_refl 1
  | .fn _ _ => Nat.le_refl 1
  | .pair a b => by have := a.lv_pos; have := b.lv_pos; simp only [Ty.lv]; omega
theorem Ty.lv_dp : ∀ t : Ty, t.lv ≤ 2 ^ t.dp
  | .int => by decide
  | .bool => by decide
  | .unit => by decide
  | .fn a b => Nat.two_pow_pos _
  | .pair a b => by
    have h1 := a.lv_dp
    have h2 := b.lv_dp
    have e1 : 2 ^ a.dp ≤ 2 ^ (max a.dp b.dp) := Nat.pow_le_pow_right (by omega) (by omega)
    have e2 : 2 ^ b.dp ≤ 2 ^ (max a.dp b.dp) := Nat.pow_le_pow_right (by omega) (by omega)
    simp only [Ty.lv, Ty.dp, Nat.pow_succ]
    omega
theorem Ty.nd_dp : ∀ t : Ty, t.nd + 1 ≤ 2 ^ (t.dp + 1)
  | .int => by decide
  | .bool => by decide
  | .unit => by decide
  | .fn a b => by
    have h1 := a.nd_dp
    have h2 := b.nd_dp
    have e1 : 2 ^ (a.dp + 1) ≤ 2 ^ (max a.dp b.dp + 1) := Nat.pow_le_pow_right (by omega) (by omega)
    have e2 : 2 ^ (b.dp + 1) ≤ 2 ^ (max a.dp b.dp + 1) := Nat.pow_le_pow_right (by omega) (by omega)
    have e3 : 2 ^ (max a.dp b.dp + 1 + 1) = 2 * 2 ^ (max a.dp b.dp + 1) := by rw [Nat.pow_succ]; omega
    simp only [Ty.nd, Ty.dp]
    omega
  | .pair a b => by
    have h1 := a.nd_dp
    have h2 := b.nd_dp
    have e1 : 2 ^ (a.dp + 1) ≤ 2 ^ (max a.dp b.dp + 1) := Nat.pow_le_pow_right (by omega) (by omega)
    have e2 : 2 ^ (b.dp + 1) ≤ 2 ^ (max a.dp b.dp + 1) := Nat.pow_le_pow_right (by omega) (by omega)
    have e3 : 2 ^ (max a.dp b.dp + 1 + 1) = 2 * 2 ^ (max a.dp b.dp + 1) := by rw [Nat.pow_succ]; omega
    simp only [Ty.nd, Ty.dp]
    omega
end TM
/-! TN3: the meaning: bindings and a list of waiting expressions; every frame bears tokens, one for each micro-step that it may cost. -/
namespace TM
open DL
mutual
inductive Val where
  | int (i : Int) | bool (b : Bool) | unit | pair (a b : Val)
  | fn (f x : String) (b : Tm) (e : Env)
  | kept (fs : List Fr)
inductive Env where
  | nil
  | cons (x : String) (v : Val) (e : Env)
inductive Fr where
  | a (t : Tm) (e : Env) (k : List Nat)
  | b (t : Tm) (e : Env) (v : Val) (k : List Nat)
end
def Env.find : Env → String → Option Val
  | .nil, _ => none
  | .cons y v e, x => if y = x then some v else e.find x
inductive Res where
  | steps | unhandled (o : String) | val (v : Val)
inductive Cur where
  | ev (t : Tm) (e : Env) (k : List Nat)
  | rt (v : Val)
  | dn (r : Res)
structure LS where
  cur : Cur
  fs : List Fr
  left : Nat
  pr : List Int
  an : List (String × String × String × Tm)
  nx : Nat
def Fr.tk : Fr → List Nat
  | .a _ _ k => k
  | .b _ _ _ k => k
def toks (fs : List Fr) : List Nat := fs.flatMap Fr.tk
def cut32 (i : Int) : Int := (i + 2147483648) % 4294967296 - 2147483648
def oper (s : String) (i j : Int) : Option Val :=
  if s = "<" then some (.bool (decide (i < j)))
  else if s = "==" then some (.bool (i == j))
  else if s = "+" then some (.int (cut32 (i + j)))
  else if s = "-" then some (.int (cut32 (i - j)))
  else if s = "*" then some (.int (cut32 (i * j)))
  else none
def Cls.find : Cls → String → Option (String × String × Tm)
  | .nil, _ => none
  | .cons o x k b r, y => if o = y then some (x, k, b) else r.find y
/-- the innermost handler that answers: what is inside of it and itself, its bindings, its clause, what is outside -/
def split (o : String) : List Fr → Option (List Fr × Env × (String × String × Tm) × List Fr)
  | [] => none
  | .a (.han e0 r b cs) e k :: fs => match cs.find o with
    | some c => some ([.a (.han e0 r b cs) e k], e, c, fs)
    | none => match split o fs with
      | some (i, e', c, out) => some (.a (.han e0 r b cs) e k :: i, e', c, out)
      | none => none
  | f :: fs => match split o fs with
    | some (i, e', c, out) => some (f :: i, e', c, out)
    | none => none
def fresh (n c : Nat) : List Nat := (List.range c).map (n + ·)
/-- an expression is begun -/
def first : Tm → Option Tm
  | .lt _ a _ => some a | .op _ a _ => some a | .ask _ a => some a
  | .fst a => some a | .snd a => some a | .nt a => some a
  | .ite a _ _ => some a | .call a _ => some a | .pair a _ => some a | .prt a _ => some a
  | .han e _ _ _ => some e
  | _ => none
def into (s : LS) (t : Tm) (e : Env) (k : List Nat) : Option LS := match t with
  | .num i => some { s with cur := .rt (.int i) }
  | .flag b => some { s with cur := .rt (.bool b) }
  | .unit => some { s with cur := .rt .unit }
  | .name x => match e.find x with
    | some v => some { s with cur := .rt v }
    | none => none
  | .fn x b => some { s with cur := .rt (.fn "" x b e) }
  | .rc f x b => some { s with cur := .rt (.fn f x b e) }
  | t => match first t with
    | some p => some { s with cur := .ev p e ((k.drop 1).take p.cost), fs := .a t e (k.drop (1 + p.cost)) :: s.fs }
    | none => none
def callV (s : LS) (u v : Val) : Option LS :=
  if s.left = 0 then some { s with cur := .dn .steps }
  else match u with
    | .kept g => some { s with cur := .rt v, fs := g ++ s.fs, left := s.left - 1 }
    | .fn f x b e => some { s with cur := .ev b (.cons x v (if f = "" then e else .cons f u e)) (fresh s.nx b.cost), left := s.left - 1, nx := s.nx + b.cost }
    | _ => none
def askV (s : LS) (o : String) (v : Val) : Option LS :=
  if s.left = 0 then some { s with cur := .dn .steps }
  else match split o s.fs with
    | some (i, e, (x, k, b), out) => some { s with cur := .ev b (.cons k (.kept i) (.cons x v e)) (fresh s.nx b.cost), fs := out, left := s.left - 1, an := s.an ++ [(o, x, k, b)], nx := s.nx + b.cost }
    | none => some { s with cur := .dn (.unhandled o), left := s.left - 1 }
/-- a value is given to the innermost frame; s is the state without it -/
def back (s : LS) (f : Fr) (v : Val) : Option LS := match f with
  | .a (.call a b) e k => some { s with cur := .ev b e ((k.drop 1).take b.cost), fs := .b (.call a b) e v (k.drop (1 + b.cost)) :: s.fs }
  | .a (.pair a b) e k => some { s with cur := .ev b e ((k.drop 1).take b.cost), fs := .b (.pair a b) e v (k.drop (1 + b.cost)) :: s.fs }
  | .a (.op o a b) e k => some { s with cur := .ev b e ((k.drop 1).take b.cost), fs := .b (.op o a b) e v (k.drop (1 + b.cost)) :: s.fs }
  | .a (.lt x _ b) e k => some { s with cur := .ev b (.cons x v e) (k.drop 1) }
  | .a (.ite _ b c) e k => match v with
    | .bool q => some { s with cur := .ev (if q then b else c) e (k.drop 1) }
    | _ => none
  | .a (.prt _ b) e k => match v with
    | .int i => some { s with cur := .ev b e (k.drop 1), pr := s.pr ++ [i] }
    | _ => none
  | .a (.ask o _) _ _ => askV s o v
  | .a (.han _ r b _) e k => some { s with cur := .ev b (.cons r v e) (k.drop 1) }
  | .a (.nt _) _ _ => match v with
    | .bool q => some { s with cur := .rt (.bool !q) }
    | _ => none
  | .a (.fst _) _ _ => match v with
    | .pair a _ => some { s with cur := .rt a }
    | _ => none
  | .a (.snd _) _ _ => match v with
    | .pair _ b => some { s with cur := .rt b }
    | _ => none
  | .b (.op o _ _) _ u _ => match u, v with
    | .int i, .int j => match oper o i j with
      | some w => some { s with cur := .rt w }
      | none => none
    | _, _ => none
  | .b (.pair _ _) _ u _ => some { s with cur := .rt (.pair u v) }
  | .b (.call _ _) _ u _ => callV s u v
  | _ => none
def LS.step (s : LS) : Option LS := match s.cur with
  | .ev t e k => into s t e k
  | .rt v => match s.fs with
    | [] => none
    | f :: fs => back { s with fs := fs } f v
  | .dn _ => none
def LS.res (s : LS) : Option Res := match s.cur with
  | .dn r => some r
  | .rt v => match s.fs with
    | [] => some (.val v)
    | _ => none
  | .ev _ _ _ => none
inductive LRun : Nat → LS → LS → Prop
  | done {s} : s.res ≠ none → LRun 0 s s
  | step {n s s' u} : s.step = some s' → LRun n s' u → LRun (n + 1) s u
def start (t : Tm) (n : Nat) : LS := ⟨.ev t .nil (fresh 0 t.cost), [], n, [], [], t.cost⟩
theorem step_res {s s' : LS} (h : s.step = some s') : s.res = none := by
  unfold LS.step at h
  unfold LS.res
  split at h
  · rename_i e; rw [e]
  · rename_i v e
    rw [e]
    dsimp only
    split at h
    · cases h
    · rename_i f fs e2
      rw [e2]
  · cases h
end TM
/-! TN4: typed states; tokens; every step keeps both. -/
namespace TM
open DL
mutual
/-- the tokens that a value holds -/
def Val.ids : Val → List Nat
  | .int _ => [] | .bool _ => [] | .unit => []
  | .pair a b => a.ids ++ b.ids
  | .fn _ _ _ e => e.ids
  | .kept fs => frIds fs
def Env.ids : Env → List Nat
  | .nil => []
  | .cons _ v e => v.ids ++ e.ids
/-- what a frame's values hold -/
def Fr.cids : Fr → List Nat
  | .a _ e _ => e.ids
  | .b _ e v _ => e.ids ++ v.ids
def frIds : List Fr → List Nat
  | [] => []
  | f :: fs => f.cids ++ (f.tk ++ frIds fs)
end
theorem frIds_tk {fs : List Fr} {x : Nat} (h : x ∈ toks fs) : x ∈ frIds fs := by
  induction fs with
  | nil => simp [toks] at h
  | cons f fs ih =>
    rw [toks, List.flatMap_cons, List.mem_append] at h
    rw [frIds, List.mem_append, List.mem_append]
    rcases h with h | h
    · exact .inr (.inl h)
    · exact .inr (.inr (ih h))
theorem frIds_cids {fs : List Fr} {f : Fr} {x : Nat} (hf : f ∈ fs) (h : x ∈ f.cids) : x ∈ frIds fs := by
  induction fs with
  | nil => cases hf
  | cons g fs ih =>
    rw [frIds, List.mem_append, List.mem_append]
    rcases List.mem_cons.mp hf with rfl | hf
    · exact .inl h
    · exact .inr (.inr (ih hf))
theorem frIds_of {fs : List Fr} {x : Nat} (h : x ∈ frIds fs) : x ∈ toks fs ∨ ∃ f ∈ fs, x ∈ f.cids := by
  induction fs with
  | nil => simp [frIds] at h
  | cons g fs ih =>
    rw [frIds, List.mem_append, List.mem_append] at h
    rw [toks, List.flatMap_cons, List.mem_append]
    rcases h with h | h | h
    · exact .inr ⟨g, by simp, h⟩
    · exact .inl (.inl h)
    · rcases ih h with h | ⟨f, hf, h⟩
      · exact .inl (.inr h)
      · exact .inr ⟨f, by simp [hf], h⟩
theorem toks_app {a b : List Fr} : toks (a ++ b) = toks a ++ toks b := by simp [toks]
theorem toks_cons {f : Fr} {b : List Fr} : toks (f :: b) = f.tk ++ toks b := by simp [toks]
mutual
inductive VT (ops : Ops) (B N : Nat) : Val → Ty → Prop
  | int {i : Int} : i.natAbs < 2 ^ 32 → VT ops B N (.int i) .int
  | bool {b : Bool} : VT ops B N (.bool b) .bool
  | unit : VT ops B N .unit .unit
  | pair {a b σ τ} : VT ops B N a σ → VT ops B N b τ → (Ty.pair σ τ).dp ≤ 20 → VT ops B N (.pair a b) (.pair σ τ)
  | fn {Γ x b e a τ} : ET ops B N e Γ → Has ops ((x, a) :: Γ) b τ → b.gd B → b.cost ≤ B → VT ops B N (.fn "" x b e) (.fn a τ)
  | rc {Γ f x b e a τ} : f ≠ "" → ET ops B N e Γ → Has ops ((x, a) :: (f, .fn a τ) :: Γ) b τ → b.gd B → b.cost ≤ B → VT ops B N (.fn f x b e) (.fn a τ)
  | kept {fs β τ} : ST ops B N fs β τ → (toks fs).Nodup → (∀ k ∈ toks fs, k < N) → β.plain = true → VT ops B N (.kept fs) (.fn β τ)
inductive ET (ops : Ops) (B N : Nat) : Env → Cn → Prop
  | nil : ET ops B N .nil []
  | cons {x v e σ Γ} : VT ops B N v σ → ET ops B N e Γ → ET ops B N (.cons x v e) ((x, σ) :: Γ)
inductive FT (ops : Ops) (B N : Nat) : Fr → Ty → Ty → Prop
  | call1 {Γ a b e k σ τ} : ET ops B N e Γ → Has ops Γ b σ → b.gd B → b.cost + 2 ≤ k.length → FT ops B N (.a (.call a b) e k) (.fn σ τ) τ
  | pair1 {Γ a b e k σ τ} : ET ops B N e Γ → Has ops Γ b τ → b.gd B → b.cost + 2 ≤ k.length → (Ty.pair σ τ).dp ≤ 20 → FT ops B N (.a (.pair a b) e k) σ (.pair σ τ)
  | op1 {Γ s a b e k τ} : Sg s τ → ET ops B N e Γ → Has ops Γ b .int → b.gd B → b.cost + 2 ≤ k.length → FT ops B N (.a (.op s a b) e k) .int τ
  | lt1 {Γ x a b e k σ τ} : ET ops B N e Γ → Has ops ((x, σ) :: Γ) b τ → b.gd B → b.cost + 1 ≤ k.length → FT ops B N (.a (.lt x a b) e k) σ τ
  | ite1 {Γ a b c e k τ} : ET ops B N e Γ → Has ops Γ b τ → Has ops Γ c τ → b.gd B → c.gd B → max b.cost c.cost + 1 ≤ k.length → FT ops B N (.a (.ite a b c) e k) .bool τ
  | prt1 {Γ a b e k τ} : ET ops B N e Γ → Has ops Γ b τ → b.gd B → b.cost + 1 ≤ k.length → FT ops B N (.a (.prt a b) e k) .int τ
  | ask1 {Γ o a e k α β} : ET ops B N e Γ → ops.lookup o = some (α, β) → 1 ≤ k.length → FT ops B N (.a (.ask o a) e k) α β
  | han1 {Γ e0 r b cs e k σ τ} : ET ops B N e Γ → Has ops ((r, σ) :: Γ) b τ → b.gd B → HasC ops Γ cs τ → cs.gd B → b.cost + 1 ≤ k.length → FT ops B N (.a (.han e0 r b cs) e k) σ τ
  | nt1 {Γ a e k} : ET ops B N e Γ → 1 ≤ k.length → FT ops B N (.a (.nt a) e k) .bool .bool
  | fst1 {Γ a e k σ τ} : ET ops B N e Γ → 1 ≤ k.length → FT ops B N (.a (.fst a) e k) (.pair σ τ) σ
  | snd1 {Γ a e k σ τ} : ET ops B N e Γ → 1 ≤ k.length → FT ops B N (.a (.snd a) e k) (.pair σ τ) τ
  | op2 {Γ s a b e v k τ} : ET ops B N e Γ → Sg s τ → VT ops B N v .int → 1 ≤ k.length → FT ops B N (.b (.op s a b) e v k) .int τ
  | pair2 {Γ a b e v k σ τ} : ET ops B N e Γ → VT ops B N v σ → (Ty.pair σ τ).dp ≤ 20 → 1 ≤ k.length → FT ops B N (.b (.pair a b) e v k) τ (.pair σ τ)
  | call2 {Γ a b e v k σ τ} : ET ops B N e Γ → VT ops B N v (.fn σ τ) → 1 ≤ k.length → FT ops B N (.b (.call a b) e v k) σ τ
inductive ST (ops : Ops) (B N : Nat) : List Fr → Ty → Ty → Prop
  | nil {τ} : ST ops B N [] τ τ
  | cons {f fs σ ρ τ} : FT ops B N f σ ρ → (∀ x ∈ f.tk ++ toks fs, x ∉ f.cids) → ST ops B N fs ρ τ → ST ops B N (f :: fs) σ τ
end
mutual
theorem VT.up {ops : Ops} {B N M : Nat} (w : N ≤ M) : ∀ {v : Val} {τ : Ty}, VT ops B N v τ → VT ops B M v τ
  | _, _, .int h => .int h
  | _, _, .bool => .bool
  | _, _, .unit => .unit
  | _, _, .pair a b d => .pair (a.up w) (b.up w) d
  | _, _, .fn e h g c => .fn (e.up w) h g c
  | _, _, .rc f e h g c => .rc f (e.up w) h g c
  | _, _, .kept s n l p => .kept (s.up w) n (fun k hk => Nat.lt_of_lt_of_le (l k hk) w) p
theorem ET.up {ops : Ops} {B N M : Nat} (w : N ≤ M) : ∀ {e : Env} {Γ : Cn}, ET ops B N e Γ → ET ops B M e Γ
  | _, _, .nil => .nil
  | _, _, .cons v e => .cons (v.up w) (e.up w)
theorem FT.up {ops : Ops} {B N M : Nat} (w : N ≤ M) : ∀ {f : Fr} {σ τ : Ty}, FT ops B N f σ τ → FT ops B M f σ τ
  | _, _, _, .call1 e h g l => .call1 (e.up w) h g l
  | _, _, _, .pair1 e h g l d => .pair1 (e.up w) h g l d
  | _, _, _, .op1 s e h g l => .op1 s (e.up w) h g l
  | _, _, _, .lt1 e h g l => .lt1 (e.up w) h g l
  | _, _, _, .ite1 e h i g j l => .ite1 (e.up w) h i g j l
  | _, _, _, .prt1 e h g l => .prt1 (e.up w) h g l
  | _, _, _, .ask1 e h l => .ask1 (e.up w) h l
  | _, _, _, .han1 e h g c d l => .han1 (e.up w) h g c d l
  | _, _, _, .nt1 e l => .nt1 (e.up w) l
  | _, _, _, .fst1 e l => .fst1 (e.up w) l
  | _, _, _, .snd1 e l => .snd1 (e.up w) l
  | _, _, _, .op2 e s v l => .op2 (e.up w) s (v.up w) l
  | _, _, _, .pair2 e v d l => .pair2 (e.up w) (v.up w) d l
  | _, _, _, .call2 e v l => .call2 (e.up w) (v.up w) l
theorem ST.up {ops : Ops} {B N M : Nat} (w : N ≤ M) : ∀ {fs : List Fr} {σ τ : Ty}, ST ops B N fs σ τ → ST ops B M fs σ τ
  | _, _, _, .nil => .nil
  | _, _, _, .cons f c s => .cons (f.up w) c (s.up w)
end
mutual
theorem VT.lt {ops : Ops} {B N : Nat} : ∀ {v : Val} {τ : Ty}, VT ops B N v τ → ∀ x ∈ v.ids, x < N
  | _, _, .int h, x, hx => by simp [Val.ids] at hx
  | _, _, .bool, x, hx => by simp [Val.ids] at hx
  | _, _, .unit, x, hx => by simp [Val.ids] at hx
  | _, _, .pair a b d, x, hx => by
    rw [Val.ids, List.mem_append] at hx
    exact hx.elim (a.lt x) (b.lt x)
  | _, _, .fn e h g c, x, hx => e.lt x hx
  | _, _, .rc f e h g c, x, hx => e.lt x hx
  | _, _, .kept s n l p, x, hx => s.lt l x hx
theorem ET.lt {ops : Ops} {B N : Nat} : ∀ {e : Env} {Γ : Cn}, ET ops B N e Γ → ∀ x ∈ e.ids, x < N
  | _, _, .nil, x, hx => by simp [Env.ids] at hx
  | _, _, .cons v e, x, hx => by
    rw [Env.ids, List.mem_append] at hx
    exact hx.elim (v.lt x) (e.lt x)
theorem FT.lt {ops : Ops} {B N : Nat} : ∀ {f : Fr} {σ τ : Ty}, FT ops B N f σ τ → ∀ x ∈ f.cids, x < N
  | _, _, _, .call1 e h g l => fun x hx => e.lt x hx
  | _, _, _, .pair1 e h g l d => fun x hx => e.lt x hx
  | _, _, _, .op1 s e h g l => fun x hx => e.lt x hx
  | _, _, _, .lt1 e h g l => fun x hx => e.lt x hx
  | _, _, _, .ite1 e h i g j l => fun x hx => e.lt x hx
  | _, _, _, .prt1 e h g l => fun x hx => e.lt x hx
  | _, _, _, .ask1 e h l => fun x hx => e.lt x hx
  | _, _, _, .han1 e h g c d l => fun x hx => e.lt x hx
  | _, _, _, .nt1 e l => fun x hx => e.lt x hx
  | _, _, _, .fst1 e l => fun x hx => e.lt x hx
  | _, _, _, .snd1 e l => fun x hx => e.lt x hx
  | _, _, _, .op2 e s v l => fun x hx => by
    rw [Fr.cids, List.mem_append] at hx
    exact hx.elim (e.lt x) (v.lt x)
  | _, _, _, .pair2 e v d l => fun x hx => by
    rw [Fr.cids, List.mem_append] at hx
    exact hx.elim (e.lt x) (v.lt x)
  | _, _, _, .call2 e v l => fun x hx => by
    rw [Fr.cids, List.mem_append] at hx
    exact hx.elim (e.lt x) (v.lt x)
theorem ST.lt {ops : Ops} {B N : Nat} : ∀ {fs : List Fr} {σ τ : Ty}, ST ops B N fs σ τ → (∀ k ∈ toks fs, k < N) → ∀ x ∈ frIds fs, x < N
  | _, _, _, .nil, _, x, hx => by simp [frIds] at hx
  | _, _, _, .cons f c s, l, x, hx => by
    rw [frIds, List.mem_append, List.mem_append] at hx
    rcases hx with hx | hx | hx
    · exact f.lt x hx
    · exact l x (by rw [toks_cons, List.mem_append]; exact .inl hx)
    · exact s.lt (fun k hk => l k (by rw [toks_cons, List.mem_append]; exact .inr hk)) x hx
end
/-! ### pieces -/
theorem plain_ids {ops : Ops} {B N : Nat} : ∀ {v : Val} {τ : Ty}, VT ops B N v τ → τ.plain = true → v.ids = []
  | _, _, .int _, _ => rfl
  | _, _, .bool, _ => rfl
  | _, _, .unit, _ => rfl
  | _, _, .pair a b d, h => by
    have h' := Bool.and_eq_true_iff.mp (show (Ty.plain _ && Ty.plain _) = true from h)
    rw [Val.ids, plain_ids a h'.1, plain_ids b h'.2]; rfl
theorem ET.find {ops : Ops} {B N : Nat} : ∀ {e : Env} {Γ : Cn}, ET ops B N e Γ → ∀ {x : String} {τ : Ty}, Γ.lookup x = some τ → ∃ v, e.find x = some v ∧ VT ops B N v τ ∧ ∀ y ∈ v.ids, y ∈ e.ids
  | _, _, .nil, _, _, h => by cases h
  | _, _, .cons (x := y) (v := v) (σ := σ) hv e, x, τ, h => by
    rw [List.lookup_cons] at h
    by_cases c : x = y
    · subst c
      simp at h
      subst h
      exact ⟨v, by simp [Env.find], hv, fun z hz => by rw [Env.ids, List.mem_append]; exact .inl hz⟩
    · rw [beq_eq_false_iff_ne.mpr c] at h
      obtain ⟨u, h1, h2, h3⟩ := e.find h
      exact ⟨u, by rw [Env.find, if_neg fun z => c z.symm]; exact h1, h2, fun z hz => by rw [Env.ids, List.mem_append]; exact .inr (h3 z hz)⟩
theorem ST.app {ops : Ops} {B N : Nat} {fs : List Fr} {ρ τ : Ty} (h : ST ops B N fs ρ τ) : ∀ {g : List Fr} {σ : Ty}, ST ops B N g σ ρ → (∀ f ∈ g, ∀ x ∈ toks fs, x ∉ f.cids) → ST ops B N (g ++ fs) σ τ
  | _, _, .nil, _ => h
  | _, _, .cons (f := f) (fs := g') hf c s, w => .cons hf (fun x hx => by
      have hx : x ∈ f.tk ++ toks (g' ++ fs) := hx
      rw [toks_app, List.mem_append, List.mem_append] at hx
      rcases hx with hx | hx | hx
      · exact c x (List.mem_append.mpr (.inl hx))
      · exact c x (List.mem_append.mpr (.inr hx))
      · exact w f (by simp) x hx) (ST.app h s fun f hf => w f (by simp [hf]))
theorem ST.mid {ops : Ops} {B N : Nat} : ∀ {g fs : List Fr} {σ τ : Ty}, ST ops B N (g ++ fs) σ τ → ∃ ρ, ST ops B N g σ ρ ∧ ST ops B N fs ρ τ ∧ ∀ f ∈ g, ∀ x ∈ toks fs, x ∉ f.cids
  | [], fs, σ, τ, h => ⟨σ, .nil, h, by simp⟩
  | f :: g, fs, σ, τ, .cons hf c s => by
    have c : ∀ x ∈ f.tk ++ toks (g ++ fs), x ∉ f.cids := c
    have s : ST ops B N (g ++ fs) _ τ := s
    obtain ⟨ρ, h1, h2, h3⟩ := ST.mid s
    refine ⟨ρ, .cons hf (fun x hx => c x ?_) h1, h2, fun f' hf' x hx => ?_⟩
    · rcases List.mem_append.mp hx with hx | hx
      · exact List.mem_append.mpr (.inl hx)
      · exact List.mem_append.mpr (.inr (by rw [toks_app]; exact List.mem_append.mpr (.inl hx)))
    · rcases List.mem_cons.mp hf' with rfl | hf'
      · exact c x (List.mem_append.mpr (.inr (by rw [toks_app]; exact List.mem_append.mpr (.inr hx))))
      · exact h3 f' hf' x hx
theorem HasC.find {ops : Ops} {B : Nat} : ∀ {Γ : Cn} {cs : Cls} {τ : Ty}, HasC ops Γ cs τ → cs.gd B → ∀ {o : String} {x k : String} {b : Tm}, cs.find o = some (x, k, b) → ∃ α β, ops.lookup o = some (α, β) ∧ Has ops ((k, .fn β τ) :: (x, α) :: Γ) b τ ∧ b.gd B ∧ b.cost ≤ B
  | _, _, _, .nil, _, o, x, k, b, h => by cases h
  | _, _, _, .cons (o := o') h1 h2 h3, g, o, x, k, b, h => by
    rw [Cls.find] at h
    by_cases c : o' = o
    · rw [if_pos c] at h
      cases h
      subst c
      have g := gd_cons g
      exact ⟨_, _, h1, h2, g.2.1, g.1⟩
    · rw [if_neg c] at h
      exact h3.find (gd_cons g).2.2 h
/-- where a handler answers -/
theorem split_ok {o : String} : ∀ {fs i out : List Fr} {e : Env} {c : String × String × Tm}, split o fs = some (i, e, c, out) → fs = i ++ out ∧ ∃ i0 e0 r b cs k, i = i0 ++ [.a (.han e0 r b cs) e k] ∧ cs.find o = some c
  | [], i, out, e, c, h => by simp [split] at h
  | f :: fs, i, out, e, c, h => by
    have other : split o (f :: fs) = (match split o fs with
        | some (i, e', c, out) => some (f :: i, e', c, out)
        | none => none) → fs.length < (f :: fs).length → f :: fs = i ++ out ∧ ∃ i0 e0 r b cs k, i = i0 ++ [.a (.han e0 r b cs) e k] ∧ cs.find o = some c := fun e1 _ => by
      rw [e1] at h
      cases e2 : split o fs with
      | none => rw [e2] at h; cases h
      | some p =>
        obtain ⟨i', e', c', out'⟩ := p
        rw [e2] at h
        cases h
        obtain ⟨h1, i0, e0, r, b, cs, k, h2, h3⟩ := split_ok e2
        exact ⟨by rw [h1]; rfl, f :: i0, e0, r, b, cs, k, by rw [h2]; rfl, h3⟩
    cases f with
    | b t e' v k => exact other rfl (by simp)
    | a t e' k =>
      cases t with
      | han e0 r b cs =>
        cases ec : cs.find o with
        | none => exact other (by rw [split, ec] <;> rfl) (by simp)
        | some c' =>
          rw [split, ec] at h
          cases h
          exact ⟨rfl, [], e0, r, b, cs, k, rfl, ec⟩
      | _ => exact other rfl (by simp)
end TM
/-! TN5: a typed state takes a step, or has ended; what the step costs. -/
namespace TM
open DL
/-- what is typed in a state; the current expression's tokens -/
inductive StOk (ops : Ops) (B : Nat) (τ : Ty) : LS → Prop
  | ev {t e k fs l p a n Γ σ} : ET ops B n e Γ → Has ops Γ t σ → t.gd B → t.cost ≤ k.length → ST ops B n fs σ τ → (k ++ toks fs).Nodup → (∀ x ∈ k ++ toks fs, x < n) → (∀ x ∈ k ++ toks fs, x ∉ e.ids) → StOk ops B τ ⟨.ev t e k, fs, l, p, a, n⟩
  | rt {v fs l p a n σ} : VT ops B n v σ → ST ops B n fs σ τ → (toks fs).Nodup → (∀ x ∈ toks fs, x < n) → (∀ x ∈ toks fs, x ∉ v.ids) → StOk ops B τ ⟨.rt v, fs, l, p, a, n⟩
  | dn {r fs l p a n} : StOk ops B τ ⟨.dn r, fs, l, p, a, n⟩
def LS.pot (s : LS) : Nat := (match s.cur with
  | .ev _ _ k => k.length
  | _ => 0) + (toks s.fs).length
/-- what a step costs -/
inductive Pays (B : Nat) (s s' : LS) : Prop
  | free : s'.left = s.left → s'.nx = s.nx → s'.pot + 1 ≤ s.pot → Pays B s s'
  | body (c : Nat) : s'.left + 1 = s.left → c ≤ B → s'.nx = s.nx + c → s'.pot + 1 ≤ s.pot + c → Pays B s s'
  | kept : s'.left + 1 = s.left → s'.nx = s.nx → s'.pot + 1 ≤ s.pot + s.nx → Pays B s s'
  | last : s'.left ≤ s.left → s'.nx = s.nx → s'.pot + 1 ≤ s.pot → (∃ r, s'.cur = .dn r) → Pays B s s'
section
variable {ops : Ops} {B : Nat} {τ : Ty}
theorem push_toks {k T : List Nat} {c : Nat} {n : Nat} {I : List Nat} (hl : c + 1 ≤ k.length) (hn : (k ++ T).Nodup) (hlt : ∀ x ∈ k ++ T, x < n) (hd : ∀ x ∈ k ++ T, x ∉ I) :
    ((k.drop 1).take c).length = c ∧ (k.drop (1 + c)).length = k.length - 1 - c ∧ ((k.drop 1).take c ++ (k.drop (1 + c) ++ T)).Nodup ∧ (∀ x ∈ (k.drop 1).take c ++ (k.drop (1 + c) ++ T), x < n ∧ x ∉ I) ∧ (∀ x ∈ k.drop (1 + c) ++ T, x ∉ I) := by
  have e : (k.drop 1).take c ++ (k.drop (1 + c) ++ T) = k.drop 1 ++ T := by
    rw [← List.append_assoc, ← List.drop_drop, List.take_append_drop]
  have sub : (k.drop 1 ++ T).Sublist (k ++ T) := (List.drop_sublist 1 k).append (List.Sublist.refl T)
  refine ⟨by rw [List.length_take, List.length_drop]; omega, by rw [List.length_drop]; omega, ?_, ?_, ?_⟩
  · rw [e]; exact hn.sublist sub
  · rw [e]; exact fun x hx => ⟨hlt x (sub.subset hx), hd x (sub.subset hx)⟩
  · intro x hx
    refine hd x (sub.subset ?_)
    rw [← e]
    exact List.mem_append.mpr (.inr hx)
theorem nodup_right {k T : List Nat} (h : (k ++ T).Nodup) : T.Nodup := (List.nodup_append.mp h).2.1
theorem fresh_len {n c : Nat} : (fresh n c).length = c := by simp [fresh]
theorem fresh_mem {n c x : Nat} : x ∈ fresh n c ↔ n ≤ x ∧ x < n + c := by
  simp only [fresh, List.mem_map, List.mem_range]
  constructor
  · rintro ⟨i, hi, rfl⟩; omega
  · rintro ⟨h1, h2⟩; exact ⟨x - n, by omega, by omega⟩
theorem fresh_nodup {n c : Nat} : (fresh n c).Nodup := by
  unfold fresh
  show List.Pairwise _ _
  rw [List.pairwise_map]
  exact List.Pairwise.imp (fun h e => h (by omega)) (List.nodup_range (n := c))
/-- a part is begun, a frame waits -/
theorem push_ok {p : Tm} {e : Env} {k : List Nat} {fs : List Fr} {l : Nat} {pr : List Int} {an : List (String × String × String × Tm)} {n : Nat} {Γ : Cn} {σ ρ : Ty} {f : Fr} (hf : f.tk = k.drop (1 + p.cost)) (hc : f.cids = e.ids ∨ ∃ v : Val, f.cids = e.ids ++ v.ids ∧ ∀ x ∈ k ++ toks fs, x ∉ v.ids)
    (he : ET ops B n e Γ) (hp : Has ops Γ p ρ) (hg : p.gd B) (hl : p.cost + 1 ≤ k.length) (hF : FT ops B n f ρ σ) (hS : ST ops B n fs σ τ) (hn : (k ++ toks fs).Nodup) (hlt : ∀ x ∈ k ++ toks fs, x < n) (hd : ∀ x ∈ k ++ toks fs, x ∉ e.ids) :
    StOk ops B τ ⟨.ev p e ((k.drop 1).take p.cost), f :: fs, l, pr, an, n⟩ ∧ (LS.pot ⟨.ev p e ((k.drop 1).take p.cost), f :: fs, l, pr, an, n⟩) + 1 = k.length + (toks fs).length := by
  obtain ⟨h1, h2, h3, h4, h5⟩ := push_toks (c := p.cost) hl hn hlt hd
  have sub : (k.drop 1 ++ toks fs).Sublist (k ++ toks fs) := (List.drop_sublist 1 k).append (List.Sublist.refl _)
  have sub2 : ∀ x ∈ k.drop (1 + p.cost) ++ toks fs, x ∈ k ++ toks fs := fun x hx => by
    rcases List.mem_append.mp hx with hx | hx
    · exact List.mem_append.mpr (.inl ((List.drop_sublist _ _).subset hx))
    · exact List.mem_append.mpr (.inr hx)
  refine ⟨.ev he hp hg (by rw [h1]; exact Nat.le_refl _) (.cons hF (fun x hx => ?_) hS) ?_ ?_ ?_, ?_⟩
  · rw [hf] at hx
    rcases hc with hc | ⟨v, hc, hv⟩
    · rw [hc]; exact h5 x hx
    · rw [hc, List.mem_append, not_or]
      exact ⟨h5 x hx, hv x (sub2 x hx)⟩
  · rw [toks_cons, hf]; exact h3
  · rw [toks_cons, hf]; exact fun x hx => (h4 x hx).1
  · rw [toks_cons, hf]; exact fun x hx => (h4 x hx).2
  · show ((k.drop 1).take p.cost).length + (toks (f :: fs)).length + 1 = _
    rw [toks_cons, hf, List.length_append, h1, h2]
    omega
theorem into_ok {s : LS} (h : StOk ops B τ s) {t : Tm} {e : Env} {k : List Nat} (hc : s.cur = .ev t e k) : ∃ s', s.step = some s' ∧ StOk ops B τ s' ∧ Pays B s s' ∧ s'.pr = s.pr ∧ s'.an = s.an := by
  cases h with
  | rt => cases hc
  | dn => cases hc
  | @ev t e k fs l p a n Γ σ he hT hg hl hS hn hlt hd =>
    cases hc
    have hR := nodup_right hn
    have hltR : ∀ x ∈ toks fs, x < n := fun x hx => hlt x (List.mem_append.mpr (.inr hx))
    have hdR : ∀ x ∈ toks fs, x ∉ e.ids := fun x hx => hd x (List.mem_append.mpr (.inr hx))
    have kpos : 1 ≤ k.length := Nat.le_trans t.cost_pos hl
    have ret : ∀ {v : Val}, VT ops B n v σ → (∀ x ∈ toks fs, x ∉ v.ids) → StOk ops B τ ⟨.rt v, fs, l, p, a, n⟩ ∧ Pays B ⟨.ev t e k, fs, l, p, a, n⟩ ⟨.rt v, fs, l, p, a, n⟩ := fun hv hvd =>
      ⟨.rt hv hS hR hltR hvd, .free rfl rfl (by show 0 + (toks fs).length + 1 ≤ k.length + (toks fs).length; omega)⟩
    have pay : ∀ {q : Tm} {f : Fr}, (LS.pot ⟨.ev q e ((k.drop 1).take q.cost), f :: fs, l, p, a, n⟩) + 1 = k.length + (toks fs).length → Pays B ⟨.ev t e k, fs, l, p, a, n⟩ ⟨.ev q e ((k.drop 1).take q.cost), f :: fs, l, p, a, n⟩ := fun h =>
      .free rfl rfl (by rw [h]; exact Nat.le_refl _)
    cases hT with
    | num i => obtain ⟨h1, h2⟩ := ret (v := .int i) (.int (gd_num hg)) (fun _ _ => by simp [Val.ids]); exact ⟨_, rfl, h1, h2, rfl, rfl⟩
    | flag b => obtain ⟨h1, h2⟩ := ret (v := .bool b) .bool (fun _ _ => by simp [Val.ids]); exact ⟨_, rfl, h1, h2, rfl, rfl⟩
    | unit => obtain ⟨h1, h2⟩ := ret (v := .unit) .unit (fun _ _ => by simp [Val.ids]); exact ⟨_, rfl, h1, h2, rfl, rfl⟩
    | @name _ x _ hx =>
      obtain ⟨v, f1, f2, f3⟩ := he.find hx
      obtain ⟨h1, h2⟩ := ret f2 (fun y hy z => hdR y hy (f3 y z))
      exact ⟨_, by simp only [LS.step, into, f1], h1, h2, rfl, rfl⟩
    | fn hb => have hg := gd_fn hg; obtain ⟨h1, h2⟩ := ret (.fn he hb hg.2 hg.1) (fun x hx => hdR x hx); exact ⟨_, rfl, h1, h2, rfl, rfl⟩
    | rc hb => have hg := gd_rc hg; obtain ⟨h1, h2⟩ := ret (.rc hg.1 he hb hg.2.2 hg.2.1) (fun x hx => hdR x hx); exact ⟨_, rfl, h1, h2, rfl, rfl⟩
    | @lt _ x q b ρ _ ha hb =>
      have hg := gd_lt hg
      simp only [Tm.cost] at hl
      obtain ⟨h1, h2⟩ := push_ok (l := l) (pr := p) (an := a) (f := .a (.lt x q b) e (k.drop (1 + q.cost))) rfl (.inl rfl) he ha hg.1 (by omega) (.lt1 he hb hg.2 (by rw [List.length_drop]; omega)) hS hn hlt hd
      exact ⟨_, rfl, h1, pay h2, rfl, rfl⟩
    | @op _ o q b _ hs ha hb =>
      have hg := gd_op hg
      simp only [Tm.cost] at hl
      obtain ⟨h1, h2⟩ := push_ok (l := l) (pr := p) (an := a) (f := .a (.op o q b) e (k.drop (1 + q.cost))) rfl (.inl rfl) he ha hg.1 (by omega) (.op1 hs he hb hg.2 (by rw [List.length_drop]; omega)) hS hn hlt hd
      exact ⟨_, rfl, h1, pay h2, rfl, rfl⟩
    | @ask _ o q α β ho ha =>
      have hg := gd_ask hg
      simp only [Tm.cost] at hl
      obtain ⟨h1, h2⟩ := push_ok (l := l) (pr := p) (an := a) (f := .a (.ask o q) e (k.drop (1 + q.cost))) rfl (.inl rfl) he ha hg (by omega) (.ask1 he ho (by rw [List.length_drop]; omega)) hS hn hlt hd
      exact ⟨_, rfl, h1, pay h2, rfl, rfl⟩
    | @fst _ q _ _ ha =>
      have hg := gd_fst hg
      simp only [Tm.cost] at hl
      obtain ⟨h1, h2⟩ := push_ok (l := l) (pr := p) (an := a) (f := .a (.fst q) e (k.drop (1 + q.cost))) rfl (.inl rfl) he ha hg (by omega) (.fst1 he (by rw [List.length_drop]; omega)) hS hn hlt hd
      exact ⟨_, rfl, h1, pay h2, rfl, rfl⟩
    | @snd _ q _ _ ha =>
      have hg := gd_snd hg
      simp only [Tm.cost] at hl
      obtain ⟨h1, h2⟩ := push_ok (l := l) (pr := p) (an := a) (f := .a (.snd q) e (k.drop (1 + q.cost))) rfl (.inl rfl) he ha hg (by omega) (.snd1 he (by rw [List.length_drop]; omega)) hS hn hlt hd
      exact ⟨_, rfl, h1, pay h2, rfl, rfl⟩
    | @nt _ q ha =>
      have hg := gd_nt hg
      simp only [Tm.cost] at hl
      obtain ⟨h1, h2⟩ := push_ok (l := l) (pr := p) (an := a) (f := .a (.nt q) e (k.drop (1 + q.cost))) rfl (.inl rfl) he ha hg (by omega) (.nt1 he (by rw [List.length_drop]; omega)) hS hn hlt hd
      exact ⟨_, rfl, h1, pay h2, rfl, rfl⟩
    | @ite _ q b c _ ha hb hc =>
      have hg := gd_ite hg
      simp only [Tm.cost] at hl
      obtain ⟨h1, h2⟩ := push_ok (l := l) (pr := p) (an := a) (f := .a (.ite q b c) e (k.drop (1 + q.cost))) rfl (.inl rfl) he ha hg.1 (by omega) (.ite1 he hb hc hg.2.1 hg.2.2 (by rw [List.length_drop]; omega)) hS hn hlt hd
      exact ⟨_, rfl, h1, pay h2, rfl, rfl⟩
    | @call _ q b _ _ ha hb =>
      have hg := gd_call hg
      simp only [Tm.cost] at hl
      obtain ⟨h1, h2⟩ := push_ok (l := l) (pr := p) (an := a) (f := .a (.call q b) e (k.drop (1 + q.cost))) rfl (.inl rfl) he ha hg.1 (by omega) (.call1 he hb hg.2 (by rw [List.length_drop]; omega)) hS hn hlt hd
      exact ⟨_, rfl, h1, pay h2, rfl, rfl⟩
    | @pair _ q b _ _ ha hb hdp =>
      have hg := gd_pair hg
      simp only [Tm.cost] at hl
      obtain ⟨h1, h2⟩ := push_ok (l := l) (pr := p) (an := a) (f := .a (.pair q b) e (k.drop (1 + q.cost))) rfl (.inl rfl) he ha hg.1 (by omega) (.pair1 he hb hg.2 (by rw [List.length_drop]; omega) hdp) hS hn hlt hd
      exact ⟨_, rfl, h1, pay h2, rfl, rfl⟩
    | @prt _ q b _ ha hb =>
      have hg := gd_prt hg
      simp only [Tm.cost] at hl
      obtain ⟨h1, h2⟩ := push_ok (l := l) (pr := p) (an := a) (f := .a (.prt q b) e (k.drop (1 + q.cost))) rfl (.inl rfl) he ha hg.1 (by omega) (.prt1 he hb hg.2 (by rw [List.length_drop]; omega)) hS hn hlt hd
      exact ⟨_, rfl, h1, pay h2, rfl, rfl⟩
    | @han _ q r b cs _ _ ha hb hcs hnd =>
      have hg := gd_han hg
      simp only [Tm.cost] at hl
      obtain ⟨h1, h2⟩ := push_ok (l := l) (pr := p) (an := a) (f := .a (.han q r b cs) e (k.drop (1 + q.cost))) rfl (.inl rfl) he ha hg.1 (by omega) (.han1 he hb hg.2.1 hcs hg.2.2 (by rw [List.length_drop]; omega)) hS hn hlt hd
      exact ⟨_, rfl, h1, pay h2, rfl, rfl⟩

theorem drop1 {k T : List Nat} {n : Nat} (hn : (k ++ T).Nodup) (hlt : ∀ x ∈ k ++ T, x < n) : (k.drop 1 ++ T).Nodup ∧ (∀ x ∈ k.drop 1 ++ T, x < n) ∧ ∀ x ∈ k.drop 1 ++ T, x ∈ k ++ T := by
  have sub : (k.drop 1 ++ T).Sublist (k ++ T) := (List.drop_sublist 1 k).append (List.Sublist.refl _)
  exact ⟨hn.sublist sub, fun x hx => hlt x (sub.subset hx), fun x hx => sub.subset hx⟩
/-- a frame goes, its last expression is begun -/
theorem cont_ok {p : Tm} {e : Env} {k : List Nat} {fs : List Fr} {l : Nat} {pr : List Int} {an : List (String × String × String × Tm)} {n : Nat} {Γ : Cn} {ρ : Ty}
    (he : ET ops B n e Γ) (hp : Has ops Γ p ρ) (hg : p.gd B) (hl : p.cost + 1 ≤ k.length) (hS : ST ops B n fs ρ τ) (hn : (k ++ toks fs).Nodup) (hlt : ∀ x ∈ k ++ toks fs, x < n) (hd : ∀ x ∈ k ++ toks fs, x ∉ e.ids) :
    StOk ops B τ ⟨.ev p e (k.drop 1), fs, l, pr, an, n⟩ ∧ (LS.pot ⟨.ev p e (k.drop 1), fs, l, pr, an, n⟩) + 1 ≤ k.length + (toks fs).length := by
  obtain ⟨h1, h2, h3⟩ := drop1 hn hlt
  refine ⟨.ev he hp hg (by rw [List.length_drop]; omega) hS h1 h2 fun x hx => hd x (h3 x hx), ?_⟩
  show (k.drop 1).length + (toks fs).length + 1 ≤ _
  rw [List.length_drop]
  omega
theorem oper_ok {n : Nat} {s : String} {τ : Ty} (h : Sg s τ) (i j : Int) : ∃ w, oper s i j = some w ∧ VT ops B n w τ ∧ w.ids = [] := by
  have cut : ∀ i : Int, (cut32 i).natAbs < 2 ^ 32 := fun i => by
    unfold cut32
    have := Int.emod_nonneg (i + 2147483648) (show (4294967296 : Int) ≠ 0 by decide)
    have := Int.emod_lt_of_pos (i + 2147483648) (show (0 : Int) < 4294967296 by decide)
    omega
  cases h with
  | add => exact ⟨.int (cut32 (i + j)), by simp [oper], .int (cut _), rfl⟩
  | sub => exact ⟨.int (cut32 (i - j)), by simp [oper], .int (cut _), rfl⟩
  | mul => exact ⟨.int (cut32 (i * j)), by simp [oper], .int (cut _), rfl⟩
  | lt => exact ⟨.bool (decide (i < j)), by simp [oper], .bool, rfl⟩
  | eq => exact ⟨.bool (i == j), by simp [oper], .bool, rfl⟩
theorem nodup_le {n : Nat} {l : List Nat} (h : l.Nodup) (w : ∀ x ∈ l, x < n) : l.length ≤ n := by
  have := nodup_len h (m := List.range n) fun x hx => List.mem_range.mpr (w x hx)
  rwa [List.length_range] at this
/-- a call -/
theorem call_ok {u v : Val} {fs : List Fr} {l : Nat} {pr : List Int} {an : List (String × String × String × Tm)} {n : Nat} {α β : Ty} {m : Nat}
    (hu : VT ops B n u (.fn α β)) (hv : VT ops B n v α) (hS : ST ops B n fs β τ) (hn : (toks fs).Nodup) (hlt : ∀ x ∈ toks fs, x < n) (hdu : ∀ x ∈ toks fs, x ∉ u.ids) (hdv : ∀ x ∈ toks fs, x ∉ v.ids) (s : LS) (hp : (toks fs).length + 1 ≤ s.pot) (hsl : s.left = l) (hsn : s.nx = n) :
    ∃ s', callV ⟨.rt v, fs, l, pr, an, n⟩ u v = some s' ∧ StOk ops B τ s' ∧ Pays B s s' ∧ s'.pr = pr ∧ s'.an = an := by
  unfold callV
  by_cases hl : l = 0
  · refine ⟨_, if_pos hl, .dn, .last (by rw [hsl]; exact Nat.le_refl _) hsn.symm ?_ ⟨_, rfl⟩, rfl, rfl⟩
    show 0 + (toks fs).length + 1 ≤ _
    omega
  rw [if_neg (show ¬ (LS.left ⟨.rt v, fs, l, pr, an, n⟩) = 0 from hl)]
  have body : ∀ {x : String} {b : Tm} {e : Env} {Γ : Cn}, ET ops B n e Γ → (∀ y ∈ toks fs, y ∉ e.ids) → Has ops Γ b β → b.gd B → b.cost ≤ B → StOk ops B τ ⟨.ev b e (fresh n b.cost), fs, l - 1, pr, an, n + b.cost⟩ ∧ Pays B s ⟨.ev b e (fresh n b.cost), fs, l - 1, pr, an, n + b.cost⟩ := fun {x b e Γ} he hde hb hg hc => by
    refine ⟨.ev (he.up (by omega)) hb hg (by rw [fresh_len]; exact Nat.le_refl _) (hS.up (by omega)) ?_ ?_ ?_, .body b.cost (by show l - 1 + 1 = _; omega) hc (by rw [hsn]) ?_⟩
    · rw [List.nodup_append]
      refine ⟨fresh_nodup, hn, fun y hy z hz e => ?_⟩
      have := (fresh_mem.mp hy).1
      have := hlt z hz
      omega
    · intro y hy
      rcases List.mem_append.mp hy with hy | hy
      · exact (fresh_mem.mp hy).2
      · have := hlt y hy; omega
    · intro y hy hy'
      rcases List.mem_append.mp hy with hy | hy
      · have := (fresh_mem.mp hy).1
        have := he.lt y hy'
        omega
      · exact hde y hy hy'
    · show (fresh n b.cost).length + (toks fs).length + 1 ≤ _
      rw [fresh_len]; omega
  cases hu with
  | @fn Γ x b e _ _ he hb hg hc =>
    obtain ⟨h1, h2⟩ := body (x := x) (.cons hv he) (fun y hy h => by
      rw [Env.ids, List.mem_append] at h
      exact h.elim (hdv y hy) (hdu y hy)) hb hg hc
    exact ⟨_, rfl, h1, h2, rfl, rfl⟩
  | @rc Γ f x b e _ _ hf he hb hg hc =>
    obtain ⟨h1, h2⟩ := body (x := x) (.cons hv (.cons (x := f) (VT.rc hf he hb hg hc) he)) (fun y hy h => by
      rw [Env.ids, List.mem_append, Env.ids, List.mem_append] at h
      rcases h with h | h | h
      · exact hdv y hy h
      · exact hdu y hy h
      · exact hdu y hy h) hb hg hc
    refine ⟨_, ?_, h1, h2, rfl, rfl⟩
    show some _ = some _
    rw [if_neg hf]
  | @kept g _ _ hg hgn hgl hpl =>
    have hvi : v.ids = [] := plain_ids hv hpl
    have dis : ∀ x ∈ toks fs, x ∉ toks g := fun x hx h => hdu x hx (frIds_tk h)
    refine ⟨_, rfl, .rt hv (hS.app hg fun f hf x hx h => hdu x hx (frIds_cids hf h)) ?_ ?_ ?_, .kept (by show l - 1 + 1 = _; omega) hsn.symm ?_, rfl, rfl⟩
    · rw [toks_app, List.nodup_append]
      exact ⟨hgn, hn, fun y hy z hz e => dis z hz (e ▸ hy)⟩
    · intro x hx
      rw [toks_app, List.mem_append] at hx
      exact hx.elim (hgl x) (hlt x)
    · intro x _
      rw [hvi]; simp
    · show 0 + (toks (g ++ fs)).length + 1 ≤ _
      rw [toks_app, List.length_append]
      have := nodup_le hgn hgl
      omega
/-- an operation is asked -/
theorem ask_ok (hP : ∀ o α β, ops.lookup o = some (α, β) → β.plain = true) {o : String} {v : Val} {fs : List Fr} {l : Nat} {pr : List Int} {an : List (String × String × String × Tm)} {n : Nat} {α β : Ty}
    (ho : ops.lookup o = some (α, β)) (hv : VT ops B n v α) (hS : ST ops B n fs β τ) (hn : (toks fs).Nodup) (hlt : ∀ x ∈ toks fs, x < n) (hdv : ∀ x ∈ toks fs, x ∉ v.ids) (s : LS) (hp : (toks fs).length + 1 ≤ s.pot) (hsl : s.left = l) (hsn : s.nx = n) :
    ∃ s', askV ⟨.rt v, fs, l, pr, an, n⟩ o v = some s' ∧ StOk ops B τ s' ∧ Pays B s s' ∧ s'.pr = pr := by
  unfold askV
  by_cases hl : l = 0
  · refine ⟨_, if_pos hl, .dn, .last (by rw [hsl]; exact Nat.le_refl _) hsn.symm ?_ ⟨_, rfl⟩, rfl⟩
    show 0 + (toks fs).length + 1 ≤ _
    omega
  rw [if_neg (show ¬ (LS.left ⟨.rt v, fs, l, pr, an, n⟩) = 0 from hl)]
  dsimp only
  cases hsp : split o fs with
  | none =>
    refine ⟨_, rfl, .dn, .last (by show l - 1 ≤ _; omega) hsn.symm ?_ ⟨_, rfl⟩, rfl⟩
    show 0 + (toks fs).length + 1 ≤ _
    omega
  | some q =>
    obtain ⟨i, e, ⟨x, k, b⟩, out⟩ := q
    obtain ⟨rfl, i0, e0, r, b0, cs, kk, hi, hf⟩ := split_ok hsp
    obtain ⟨ρ, hSi, hSo, hio⟩ := hS.mid
    have hH : ∃ Γ, ET ops B n e Γ ∧ HasC ops Γ cs ρ ∧ cs.gd B := by
      rw [hi] at hSi
      obtain ⟨ρ', _, h2, _⟩ := hSi.mid
      cases h2 with
      | cons hF _ hN =>
        cases hN
        cases hF with
        | han1 he _ _ hcs hcg _ => exact ⟨_, he, hcs, hcg⟩
    obtain ⟨Γ, he, hcs, hcg⟩ := hH
    obtain ⟨α', β', ho', hb, hbg, hbc⟩ := hcs.find hcg hf
    rw [ho] at ho'
    cases ho'
    have hna := List.nodup_append.mp (by rw [toks_app] at hn; exact hn)
    have hli : ∀ y ∈ toks i, y < n := fun y hy => hlt y (by rw [toks_app, List.mem_append]; exact .inl hy)
    have hlo : ∀ y ∈ toks out, y < n := fun y hy => hlt y (by rw [toks_app, List.mem_append]; exact .inr hy)
    have hE : ET ops B n (.cons k (.kept i) (.cons x v e)) ((k, .fn β ρ) :: (x, α) :: Γ) := .cons (.kept hSi hna.1 hli (hP _ _ _ ho)) (.cons hv he)
    have heo : ∀ y ∈ toks out, y ∉ e.ids := fun y hy h => hio _ (show Fr.a (.han e0 r b0 cs) e kk ∈ i by rw [hi]; simp) y hy h
    have hd : ∀ y ∈ toks out, y ∉ (Env.cons k (.kept i) (.cons x v e)).ids := fun y hy h => by
      rw [Env.ids, List.mem_append, Env.ids, List.mem_append] at h
      rcases h with h | h | h
      · rcases frIds_of h with h | ⟨f, hf, h⟩
        · exact hna.2.2 y h y hy rfl
        · exact hio f hf y hy h
      · exact hdv y (by rw [toks_app, List.mem_append]; exact .inr hy) h
      · exact heo y hy h
    refine ⟨_, rfl, .ev (hE.up (Nat.le_add_right _ _)) hb hbg (by rw [fresh_len]; exact Nat.le_refl _) (hSo.up (Nat.le_add_right _ _)) ?_ ?_ ?_, .body b.cost (by show l - 1 + 1 = _; omega) hbc (by rw [hsn]) ?_, rfl⟩
    · rw [List.nodup_append]
      refine ⟨fresh_nodup, hna.2.1, fun y hy z hz e => ?_⟩
      have := (fresh_mem.mp hy).1
      have := hlo z hz
      omega
    · intro y hy
      show y < n + b.cost
      rcases List.mem_append.mp hy with hy | hy
      · exact (fresh_mem.mp hy).2
      · have := hlo y hy; omega
    · intro y hy hy'
      rcases List.mem_append.mp hy with hy | hy
      · have := (fresh_mem.mp hy).1
        have := hE.lt y hy'
        omega
      · exact hd y hy hy'
    · show (fresh n b.cost).length + (toks out).length + 1 ≤ _
      rw [toks_app, List.length_append] at hp
      rw [fresh_len]; omega
theorem back_ok (hP : ∀ o α β, ops.lookup o = some (α, β) → β.plain = true) {s : LS} (h : StOk ops B τ s) {v : Val} (hc : s.cur = .rt v) {f : Fr} {fs : List Fr} (hfs : s.fs = f :: fs) : ∃ s', s.step = some s' ∧ StOk ops B τ s' ∧ Pays B s s' := by
  cases h with
  | ev => cases hc
  | dn => cases hc
  | @rt v fs' l p a n σ hv hS hn hlt hdv =>
    cases hc
    cases hfs
    cases hS with
    | @cons _ _ _ ρ _ hF hcd hS =>
    rw [toks_cons] at hn hlt hdv
    have hR := nodup_right hn
    have hltR : ∀ x ∈ toks fs, x < n := fun x hx => hlt x (List.mem_append.mpr (.inr hx))
    have hdR : ∀ x ∈ toks fs, x ∉ v.ids := fun x hx => hdv x (List.mem_append.mpr (.inr hx))
    have hcR : ∀ x ∈ toks fs, x ∉ f.cids := fun x hx => hcd x (List.mem_append.mpr (.inr hx))
    have pot : LS.pot ⟨.rt v, f :: fs, l, p, a, n⟩ = f.tk.length + (toks fs).length := by
      show 0 + (toks (f :: fs)).length = _
      rw [toks_cons, List.length_append]; omega
    have ret : 1 ≤ f.tk.length → ∀ {w : Val}, VT ops B n w ρ → (∀ x ∈ toks fs, x ∉ w.ids) → StOk ops B τ ⟨.rt w, fs, l, p, a, n⟩ ∧ Pays B ⟨.rt v, f :: fs, l, p, a, n⟩ ⟨.rt w, fs, l, p, a, n⟩ := fun hk {w} hw hwd =>
      ⟨.rt hw hS hR hltR hwd, .free rfl rfl (by rw [pot]; show 0 + (toks fs).length + 1 ≤ _; omega)⟩
    cases hF with
    | @call1 Γ q b e k _ _ he hb hg hl =>
      obtain ⟨h1, h2⟩ := push_ok (l := l) (pr := p) (an := a) (f := .b (.call q b) e v (k.drop (1 + b.cost))) rfl (.inr ⟨v, rfl, hdv⟩) he hb hg (by omega) (.call2 he hv (by rw [List.length_drop]; omega)) hS hn hlt hcd
      exact ⟨_, rfl, h1, .free rfl rfl (by rw [pot, h2]; exact Nat.le_refl _)⟩
    | @pair1 Γ q b e k _ _ he hb hg hl hdp =>
      obtain ⟨h1, h2⟩ := push_ok (l := l) (pr := p) (an := a) (f := .b (.pair q b) e v (k.drop (1 + b.cost))) rfl (.inr ⟨v, rfl, hdv⟩) he hb hg (by omega) (.pair2 he hv hdp (by rw [List.length_drop]; omega)) hS hn hlt hcd
      exact ⟨_, rfl, h1, .free rfl rfl (by rw [pot, h2]; exact Nat.le_refl _)⟩
    | @op1 Γ o q b e k _ hs he hb hg hl =>
      obtain ⟨h1, h2⟩ := push_ok (l := l) (pr := p) (an := a) (f := .b (.op o q b) e v (k.drop (1 + b.cost))) rfl (.inr ⟨v, rfl, hdv⟩) he hb hg (by omega) (.op2 he hs hv (by rw [List.length_drop]; omega)) hS hn hlt hcd
      exact ⟨_, rfl, h1, .free rfl rfl (by rw [pot, h2]; exact Nat.le_refl _)⟩
    | @lt1 Γ x q b e k _ _ he hb hg hl =>
      obtain ⟨h1, h2⟩ := cont_ok (l := l) (pr := p) (an := a) (.cons (x := x) hv he) hb hg hl hS hn hlt (fun y hy h => by
        rw [Env.ids, List.mem_append] at h
        exact h.elim (hdv y hy) (hcd y hy))
      exact ⟨_, rfl, h1, .free rfl rfl (by rw [pot]; exact h2)⟩
    | @ite1 Γ q b c e k _ he hb hc hg hg' hl =>
      cases hv with
      | @bool z =>
        cases z with
        | true =>
          obtain ⟨h1, h2⟩ := cont_ok (k := k) (l := l) (pr := p) (an := a) he hb hg (by omega) hS hn hlt hcd
          exact ⟨_, rfl, h1, .free rfl rfl (by rw [pot]; exact h2)⟩
        | false =>
          obtain ⟨h1, h2⟩ := cont_ok (k := k) (l := l) (pr := p) (an := a) he hc hg' (by omega) hS hn hlt hcd
          exact ⟨_, rfl, h1, .free rfl rfl (by rw [pot]; exact h2)⟩
    | @prt1 Γ q b e k _ he hb hg hl =>
      cases hv with
      | @int i hi =>
        obtain ⟨h1, h2⟩ := cont_ok (l := l) (pr := p ++ [i]) (an := a) he hb hg hl hS hn hlt hcd
        exact ⟨_, rfl, h1, .free rfl rfl (by rw [pot]; exact h2)⟩
    | @ask1 Γ o q e k _ _ he ho hl =>
      obtain ⟨s', h1, h2, h3, _⟩ := ask_ok hP (l := l) (pr := p) (an := a) ho hv hS hR hltR hdR ⟨.rt v, .a (.ask o q) e k :: fs, l, p, a, n⟩ (by rw [pot]; show _ ≤ k.length + _; omega) rfl rfl
      exact ⟨s', h1, h2, h3⟩
    | @han1 Γ q r b cs e k _ _ he hb hg hcs hcg hl =>
      obtain ⟨h1, h2⟩ := cont_ok (l := l) (pr := p) (an := a) (.cons (x := r) hv he) hb hg hl hS hn hlt (fun y hy h => by
        rw [Env.ids, List.mem_append] at h
        exact h.elim (hdv y hy) (hcd y hy))
      exact ⟨_, rfl, h1, .free rfl rfl (by rw [pot]; exact h2)⟩
    | @nt1 Γ q e k he hl =>
      cases hv with
      | @bool z =>
        obtain ⟨h1, h2⟩ := ret hl (w := .bool !z) .bool (fun _ _ => by simp [Val.ids])
        exact ⟨_, rfl, h1, h2⟩
    | @fst1 Γ q e k _ _ he hl =>
      cases hv with
      | @pair x y _ _ hx hy _ =>
        obtain ⟨h1, h2⟩ := ret hl hx (fun z hz h => hdR z hz (by rw [Val.ids, List.mem_append]; exact .inl h))
        exact ⟨_, rfl, h1, h2⟩
    | @snd1 Γ q e k _ _ he hl =>
      cases hv with
      | @pair x y _ _ hx hy _ =>
        obtain ⟨h1, h2⟩ := ret hl hy (fun z hz h => hdR z hz (by rw [Val.ids, List.mem_append]; exact .inr h))
        exact ⟨_, rfl, h1, h2⟩
    | @op2 Γ o q b e u k _ he hs hu hl =>
      cases hv with
      | @int j hj =>
      cases hu with
      | @int i hi =>
        obtain ⟨w, e1, e2, e3⟩ := oper_ok (ops := ops) (B := B) (n := n) hs i j
        obtain ⟨h1, h2⟩ := ret hl e2 (fun _ _ => by rw [e3]; simp)
        exact ⟨_, by simp only [LS.step, back, e1], h1, h2⟩
    | @pair2 Γ q b e u k _ _ he hu hdp hl =>
      obtain ⟨h1, h2⟩ := ret hl (.pair hu hv hdp) (fun z hz h => by
        rw [Val.ids, List.mem_append] at h
        rcases h with h | h
        · exact hcR z hz (by rw [Fr.cids, List.mem_append]; exact .inr h)
        · exact hdR z hz h)
      exact ⟨_, rfl, h1, h2⟩
    | @call2 Γ q b e u k _ _ he hu hl =>
      obtain ⟨s', h1, h2, h3, _⟩ := call_ok (m := 0) (l := l) (pr := p) (an := a) hu hv hS hR hltR (fun z hz h => hcR z hz (by rw [Fr.cids, List.mem_append]; exact .inr h)) hdR ⟨.rt v, .b (.call q b) e u k :: fs, l, p, a, n⟩ (by rw [pot]; show _ ≤ k.length + _; omega) rfl rfl
      exact ⟨s', h1, h2, h3⟩
/-- progress, and its price -/
theorem step_ok (hP : ∀ o α β, ops.lookup o = some (α, β) → β.plain = true) {s : LS} (h : StOk ops B τ s) (hr : s.res = none) : ∃ s', s.step = some s' ∧ StOk ops B τ s' ∧ Pays B s s' := by
  unfold LS.res at hr
  cases hc : s.cur with
  | ev t e k =>
    obtain ⟨s', h1, h2, h3, _⟩ := into_ok h hc
    exact ⟨s', h1, h2, h3⟩
  | dn r => rw [hc] at hr; cases hr
  | rt v =>
    rw [hc] at hr
    cases hf : s.fs with
    | nil => rw [hf] at hr; cases hr
    | cons f fs => exact back_ok hP h hc hf
end
end TM
/-! TN6: every run of a typed state ends within 94400 micro-steps. -/
namespace TM
open DL
/-- m micro-steps are behind us -/
def Spent (C L m : Nat) (s : LS) : Prop := ∃ n1 n2, n1 + n2 + s.left ≤ L ∧ s.nx ≤ C + 96 * n1 ∧ m + s.pot ≤ (1 + n2) * s.nx
theorem Spent.go {C L m : Nat} {s s' : LS} (h : Spent C L m s) (p : Pays 96 s s') : Spent C L (m + 1) s' := by
  obtain ⟨n1, n2, h1, h2, h3⟩ := h
  cases p with
  | free a b c => exact ⟨n1, n2, by omega, by omega, by rw [b]; omega⟩
  | body c a b d e =>
    refine ⟨n1 + 1, n2, by omega, by omega, ?_⟩
    rw [d, Nat.mul_add, Nat.add_mul 1 n2 c]
    omega
  | kept a b c =>
    refine ⟨n1, n2 + 1, by omega, by omega, ?_⟩
    rw [b, show (1 + (n2 + 1)) * s.nx = (1 + n2) * s.nx + s.nx by rw [← Nat.add_assoc, Nat.add_mul (1 + n2) 1, Nat.one_mul]]
    omega
  | last a b c => exact ⟨n1, n2, by omega, by omega, by rw [b]; omega⟩
theorem table : ∀ n2 : Fin 61, (1 + n2.val) * (164 + 96 * (60 - n2.val)) ≤ 94400 := by decide
theorem Spent.le {C L m : Nat} {s : LS} (h : Spent C L m s) (hC : C ≤ 164) (hL : L ≤ 60) : m ≤ 94400 := by
  obtain ⟨n1, n2, h1, h2, h3⟩ := h
  have t := table ⟨n2, by omega⟩
  have : (1 + n2) * s.nx ≤ (1 + n2) * (164 + 96 * (60 - n2)) := Nat.mul_le_mul_left _ (by omega)
  have h4 := Nat.le_trans h3 this
  have t' : (1 + n2) * (164 + 96 * (60 - n2)) ≤ 94400 := t
  omega
theorem Spent.start {t : Tm} {L : Nat} : Spent t.cost L 0 (start t L) := by
  refine ⟨0, 0, by simp [TM.start], by simp [TM.start], ?_⟩
  show 0 + ((fresh 0 t.cost).length + (toks []).length) ≤ _
  rw [fresh_len]
  simp [TM.start, toks]
theorem run_ok {ops : Ops} {τ : Ty} (hP : ∀ o α β, ops.lookup o = some (α, β) → β.plain = true) {C L : Nat} (hC : C ≤ 164) (hL : L ≤ 60) : ∀ (F m : Nat) {s : LS}, StOk ops 96 τ s → Spent C L m s → m + F = 94401 → ∃ n u, LRun n s u ∧ m + n ≤ 94400 ∧ StOk ops 96 τ u
  | 0, m, s, h, sp, e => by
    have := sp.le hC hL
    omega
  | F + 1, m, s, h, sp, e => by
    cases hr : s.res with
    | some r => exact ⟨0, s, .done (by rw [hr]; simp), by omega, h⟩
    | none =>
      obtain ⟨s', h1, h2, h3⟩ := step_ok hP h hr
      obtain ⟨n, u, g1, g2, g3⟩ := run_ok hP hC hL F (m + 1) h2 (sp.go h3) (by omega)
      exact ⟨n + 1, u, .step h1 g1, by omega, g3⟩
theorem start_ok {ops : Ops} {τ : Ty} {t : Tm} {L : Nat} (ht : Has ops [] t τ) (hg : t.gd 96) : StOk ops 96 τ (start t L) := by
  refine .ev .nil ht hg (by rw [fresh_len]; exact Nat.le_refl _) .nil ?_ ?_ ?_
  · simp [toks, fresh_nodup]
  · intro x hx
    simp [toks, fresh_mem] at hx
    exact hx
  · intro x _
    simp [Env.ids]
theorem ends {ops : Ops} {τ : Ty} {t : Tm} {L : Nat} (hP : ∀ o α β, ops.lookup o = some (α, β) → β.plain = true) (ht : Has ops [] t τ) (hg : t.gd 96) (hC : t.cost ≤ 164) (hL : L ≤ 60) : ∃ n u, LRun n (start t L) u ∧ n ≤ 94400 ∧ StOk ops 96 τ u := by
  obtain ⟨n, u, h1, h2, h3⟩ := run_ok hP hC hL 94401 0 (start_ok ht hg) Spent.start (by omega)
  exact ⟨n, u, h1, by omega, h3⟩
end TM
/-! DS7: while by invariants; pop; a tuple taken up; three at once. -/
namespace DL
open PySem PySem.Spec PyProof.Rows L2
section
variable {σ : DEnv} {S : Store} {Q : QE} {x y z : D} {l m : List D} {p q : Addr} {D' : DEnds}
theorem while_ind {c : DT} {tb : DS} (W : Nat → DEnv → Store → Prop) (h0 : ∃ m, W m σ S)
    (step : ∀ m σ S, W m σ S → c σ S fun k S1 => if k = true then ∃ N : DEnv → Store → Prop, (∀ σ' S', N σ' S' → ∃ m', m' < m ∧ W m' σ' S') ∧ tb { D' with nx := N, ct := N, bk := D'.nx } σ S1 else D'.nx σ S1) : dWhile c tb D' σ S := ⟨W, h0, step⟩
theorem pop_obj (h : S p = some (.lst (l ++ [x]))) : mPop (.obj p) [] S Q = Q x (put S p (.lst l)) := by
  have e : mPop (.obj p) [] S Q = (match S p with
    | some (.lst l) => ofO l.getLast? fun y => Q y (put S p (.lst l.dropLast))
    | _ => False) := rfl
  rw [e, h]
  simp [ofO]
theorem in_l3 {a b c d : String} : dIn false (.str a) (.lst [.str b, .str c, .str d]) S Q = Q (.bl (decide (a = b ∨ a = c ∨ a = d))) S := by
  have := in_lst (neg := false) (S := S) (Q := Q) (a := a) (l := [b, c, d])
  rw [show ([b, c, d].map D.str) = [D.str b, D.str c, D.str d] from rfl] at this
  rw [this]
  simp [DL.inR]
theorem slO_from {k : Nat} (h : S p = some (.lst l)) (hk : k ≤ l.length) : slD (.obj p) (some (k : Int)) none S Q = Q (.lst (l.drop k)) S := by
  show (ofO (asL S (.obj p)) fun l => Q (.lst (DL.cutD l (some (k : Int)) none)) S) = _
  rw [asL_obj h]
  show Q (.lst (DL.cutD l (some (k : Int)) none)) S = _
  unfold DL.cutD
  simp only [HT.sIx_nat, HT.sIx_none, Nat.min_eq_left hk]
  rw [List.take_of_length_le (by simp)]
theorem slM_to {k : Nat} (h : S p = some (.lst l)) (hk : k ≤ l.length) : slM (.obj p) none (some (k : Int)) S Q = ∀ q, S q = none → Q (.obj q) (put S q (.lst (l.take k))) := by
  show (ofO (asL S (.obj p)) fun l => ∀ q, S q = none → Q (.obj q) (put S q (.lst (DL.cutD l none (some (k : Int)))))) = _
  rw [asL_obj h]
  show (∀ q, S q = none → Q (.obj q) (put S q (.lst (DL.cutD l none (some (k : Int)))))) = _
  have : DL.cutD l none (some (k : Int)) = l.take k := by
    unfold DL.cutD
    simp only [HT.sIx_nat, HT.sIx_none, Nat.min_eq_left hk]
    simp
  rw [this]
end
end DL
/-! TN7: values, bindings, frames as data. -/
namespace TM
open DL
mutual
def Val.e : Val → D
  | .int i => .tup [.str "int", .int i]
  | .bool b => .tup [.str "bool", .bl b]
  | .unit => .tup [.str "unit"]
  | .pair a b => .tup [.str "pair", a.e, b.e]
  | .fn f x b e => .tup [.str "fun", .str f, .str x, b.d, e.e]
  | .kept fs => .tup [.str "kept", .tup (frE fs)]
def Env.e : Env → D
  | .nil => .non
  | .cons x v e => .tup [.str x, v.e, e.e]
def Fr.e : Fr → D
  | .a t e _ => .tup [t.d, e.e, .int 0, .non]
  | .b t e v _ => .tup [t.d, e.e, .int 1, v.e]
/-- the innermost last -/
def frE : List Fr → List D
  | [] => []
  | f :: fs => frE fs ++ [f.e]
end
theorem frE_app : ∀ (a b : List Fr), frE (a ++ b) = frE b ++ frE a
  | [], b => by simp [frE]
  | f :: a, b => by rw [List.cons_append, frE, frE, frE_app a b, List.append_assoc]
theorem frE_len : ∀ a : List Fr, (frE a).length = a.length
  | [] => rfl
  | f :: a => by rw [frE, List.length_append, frE_len a]; rfl
def Cur.e : Cur → List D
  | .ev t e _ => [t.d, e.e, .non]
  | .rt v => [.non, .non, v.e]
  | .dn .steps => [.str "steps", .non, .non]
  | .dn (.unhandled o) => [.str "unhandled", .str o, .non]
  | .dn (.val v) => [.str "value", v.e, .non]
def clD (c : String × String × String × Tm) : D := .tup [.str c.1, .str c.2.1, .str c.2.2.1, c.2.2.2.d]
theorem depD_tup {l : List D} {n : Nat} (hp : ∀ x ∈ l, OkN n x) : OkN (n + 1) (.tup l) := OkN.tup hp
theorem okUp {m n : Nat} {d : D} (h : OkN n d) (e : n ≤ m) : OkN m d := ⟨h.1, Nat.le_trans h.2 e⟩
theorem on {n : Nat} : ∀ x ∈ ([] : List D), OkN n x := by simp
theorem oc {n : Nat} {a : D} {l : List D} (h : OkN n a) (g : ∀ x ∈ l, OkN n x) : ∀ x ∈ a :: l, OkN n x := fun x hx => by
  rcases List.mem_cons.mp hx with rfl | hx
  · exact h
  · exact g x hx
mutual
theorem Tm.okN : ∀ t : Tm, OkN (t.dep + 1) t.d
  | .num i => OkN.tup (n := 0) (oc (.str) (oc (.int) on))
  | .flag b => OkN.tup (n := 0) (oc (.str) (oc ⟨rfl, Nat.le_refl 0⟩ on))
  | .unit => OkN.tup (n := 0) (oc (.str) on)
  | .name y => OkN.tup (n := 0) (oc (.str) (oc (.str) on))
  | .fn y b => by
    have hb := b.okN
    exact OkN.tup (oc (okUp .str (by omega)) (oc (okUp .str (by omega)) (oc hb on)))
  | .rc f y b => by
    have hb := b.okN
    exact OkN.tup (oc (okUp .str (by omega)) (oc (okUp .str (by omega)) (oc (okUp .str (by omega)) (oc hb on))))
  | .lt y a b => by
    have ha := a.okN
    have hb := b.okN
    exact OkN.tup (oc (okUp .str (by omega)) (oc (okUp .str (by omega)) (oc (okUp ha (by simp only [Tm.dep]; omega)) (oc (okUp hb (by simp only [Tm.dep]; omega)) on))))
  | .op y a b => by
    have ha := a.okN
    have hb := b.okN
    exact OkN.tup (oc (okUp .str (by omega)) (oc (okUp .str (by omega)) (oc (okUp ha (by simp only [Tm.dep]; omega)) (oc (okUp hb (by simp only [Tm.dep]; omega)) on))))
  | .ask o a => by
    have ha := a.okN
    exact OkN.tup (oc (okUp .str (by omega)) (oc (okUp .str (by omega)) (oc ha on)))
  | .fst a => by
    have ha := a.okN
    exact OkN.tup (oc (okUp .str (by omega)) (oc ha on))
  | .snd a => by
    have ha := a.okN
    exact OkN.tup (oc (okUp .str (by omega)) (oc ha on))
  | .nt a => by
    have ha := a.okN
    exact OkN.tup (oc (okUp .str (by omega)) (oc ha on))
  | .ite a b c => by
    have ha := a.okN
    have hb := b.okN
    have hc := c.okN
    exact OkN.tup (oc (okUp .str (by omega)) (oc (okUp ha (by simp only [Tm.dep]; omega)) (oc (okUp hb (by simp only [Tm.dep]; omega)) (oc (okUp hc (by simp only [Tm.dep]; omega)) on))))
  | .call a b => by
    have ha := a.okN
    have hb := b.okN
    exact OkN.tup (oc (okUp .str (by omega)) (oc (okUp ha (by simp only [Tm.dep]; omega)) (oc (okUp hb (by simp only [Tm.dep]; omega)) on)))
  | .pair a b => by
    have ha := a.okN
    have hb := b.okN
    exact OkN.tup (oc (okUp .str (by omega)) (oc (okUp ha (by simp only [Tm.dep]; omega)) (oc (okUp hb (by simp only [Tm.dep]; omega)) on)))
  | .prt a b => by
    have ha := a.okN
    have hb := b.okN
    exact OkN.tup (oc (okUp .str (by omega)) (oc (okUp ha (by simp only [Tm.dep]; omega)) (oc (okUp hb (by simp only [Tm.dep]; omega)) on)))
  | .han e r b cs => by
    have he := e.okN
    have hb := b.okN
    have hc := cs.okN
    refine OkN.tup ?_
    intro x hx
    simp at hx
    rcases hx with rfl | rfl | rfl | rfl
    · exact okUp .str (by omega)
    · exact okUp he (by simp only [Tm.dep]; omega)
    · exact okUp (OkN.tup (n := b.dep + 1) (oc (okUp .str (by omega)) (oc hb on))) (by simp only [Tm.dep]; omega)
    · exact okUp (OkN.tup hc) (by simp only [Tm.dep]; omega)
theorem Cls.okN : ∀ c : Cls, ∀ x ∈ c.d, OkN (c.dep + 2) x
  | .nil, x, hx => by simp [Cls.d] at hx
  | .cons o y k b r, x, hx => by
    have hb := b.okN
    rw [Cls.d, List.mem_cons] at hx
    rcases hx with rfl | hx
    · exact okUp (OkN.tup (n := b.dep + 1) (oc (okUp .str (by omega)) (oc (okUp .str (by omega)) (oc (okUp .str (by omega)) (oc hb on))))) (by simp only [Cls.dep]; omega)
    · exact okUp (r.okN x hx) (by simp only [Cls.dep]; omega)
end
theorem Tm.okD {t : Tm} (h : t.dep ≤ 40) : okD t.d = true := OkN.ok (n := 41) (okUp t.okN (by omega))
theorem Tm.tupD : ∀ t : Tm, ∃ l, t.d = .tup l
  | .num _ => ⟨_, rfl⟩ | .flag _ => ⟨_, rfl⟩ | .unit => ⟨_, rfl⟩ | .name _ => ⟨_, rfl⟩
  | .fn _ _ => ⟨_, rfl⟩ | .rc _ _ _ => ⟨_, rfl⟩ | .lt _ _ _ => ⟨_, rfl⟩ | .op _ _ _ => ⟨_, rfl⟩ | .ask _ _ => ⟨_, rfl⟩
  | .fst _ => ⟨_, rfl⟩ | .snd _ => ⟨_, rfl⟩ | .nt _ => ⟨_, rfl⟩ | .ite _ _ _ => ⟨_, rfl⟩ | .call _ _ => ⟨_, rfl⟩ | .pair _ _ => ⟨_, rfl⟩ | .prt _ _ => ⟨_, rfl⟩
  | .han _ _ _ _ => ⟨_, rfl⟩
theorem cls_find_d {o : String} : ∀ {c : Cls}, (∀ x k b, c.find o = some (x, k, b) → .tup [.str o, .str x, .str k, b.d] ∈ c.d) 
  | .nil, _, _, _, h => by cases h
  | .cons o' x' k' b' r, x, k, b, h => by
    rw [Cls.find] at h
    rw [Cls.d, List.mem_cons]
    by_cases e : o' = o
    · rw [if_pos e] at h; cases h; subst e; exact .inl rfl
    · rw [if_neg e] at h; exact .inr (cls_find_d x k b h)
end TM
/-! TN8: what a step adds; lengths. -/
namespace TM
open DL
theorem into_adds {s s' : LS} {t : Tm} {e : Env} {k : List Nat} (h : into s t e k = some s') : s'.pr = s.pr ∧ s'.an = s.an ∧ ∀ v, s'.cur ≠ .dn (.val v) := by
  cases t <;> first
    | (cases h; exact ⟨rfl, rfl, fun _ z => by cases z⟩)
    | (simp only [into] at h
       split at h
       · cases h; exact ⟨rfl, rfl, fun _ z => by cases z⟩
       · cases h)
theorem call_adds {s s' : LS} {u v : Val} (h : callV s u v = some s') : s'.pr = s.pr ∧ s'.an = s.an ∧ ∀ v, s'.cur ≠ .dn (.val v) := by
  unfold callV at h
  split at h
  · cases h; exact ⟨rfl, rfl, fun _ z => by cases z⟩
  · cases u <;> (cases h; try exact ⟨rfl, rfl, fun _ z => by cases z⟩)
theorem ask_adds {s s' : LS} {o : String} {v : Val} (h : askV s o v = some s') : s'.pr = s.pr ∧ s'.an.length ≤ s.an.length + 1 ∧ ∀ v, s'.cur ≠ .dn (.val v) := by
  unfold askV at h
  split at h
  · cases h; exact ⟨rfl, Nat.le_succ _, fun _ z => by cases z⟩
  · split at h
    · cases h; exact ⟨rfl, by simp, fun _ z => by cases z⟩
    · cases h; exact ⟨rfl, Nat.le_succ _, fun _ z => by cases z⟩
theorem back_adds {s s' : LS} {f : Fr} {v : Val} (h : back s f v = some s') : s'.pr.length ≤ s.pr.length + 1 ∧ s'.an.length ≤ s.an.length + 1 ∧ ∀ v, s'.cur ≠ .dn (.val v) := by
  have same : ∀ {c : Cur} {fs : List Fr}, some { s with cur := c, fs := fs } = some s' → (∀ v, c ≠ .dn (.val v)) → s'.pr.length ≤ s.pr.length + 1 ∧ s'.an.length ≤ s.an.length + 1 ∧ ∀ v, s'.cur ≠ .dn (.val v) := fun h hc => by
    cases h; exact ⟨Nat.le_succ _, Nat.le_succ _, hc⟩
  cases f with
  | a t e k =>
    cases t with
    | call a b => exact same h fun _ z => by cases z
    | pair a b => exact same h fun _ z => by cases z
    | op o a b => exact same h fun _ z => by cases z
    | lt x a b => exact same (fs := s.fs) h fun _ z => by cases z
    | han e0 r b cs => exact same (fs := s.fs) h fun _ z => by cases z
    | ite a b c =>
      cases v with
      | bool q => exact same (fs := s.fs) h fun _ z => by cases z
      | _ => cases h
    | prt a b =>
      cases v with
      | int i => cases h; exact ⟨by simp, Nat.le_succ _, fun _ z => by cases z⟩
      | _ => cases h
    | ask o a =>
      have := ask_adds h
      exact ⟨by rw [this.1]; exact Nat.le_succ _, this.2⟩
    | nt a =>
      cases v with
      | bool q => exact same (fs := s.fs) h fun _ z => by cases z
      | _ => cases h
    | fst a =>
      cases v with
      | pair x y => exact same (fs := s.fs) h fun _ z => by cases z
      | _ => cases h
    | snd a =>
      cases v with
      | pair x y => exact same (fs := s.fs) h fun _ z => by cases z
      | _ => cases h
    | _ => cases h
  | b t e u k =>
    cases t with
    | op o a b =>
      cases u with
      | int i =>
        cases v with
        | int j =>
          simp only [back] at h
          split at h
          · exact same (fs := s.fs) h fun _ z => by cases z
          · cases h
        | _ => cases h
      | _ => cases h
    | pair a b => exact same (fs := s.fs) h fun _ z => by cases z
    | call a b =>
      have := call_adds h
      exact ⟨by rw [this.1]; exact Nat.le_succ _, by rw [this.2.1]; exact Nat.le_succ _, this.2.2⟩
    | _ => cases h
theorem step_adds {s s' : LS} (h : s.step = some s') : s'.pr.length ≤ s.pr.length + 1 ∧ s'.an.length ≤ s.an.length + 1 ∧ ∀ v, s'.cur ≠ .dn (.val v) := by
  unfold LS.step at h
  split at h
  · have := into_adds h
    exact ⟨by rw [this.1]; exact Nat.le_succ _, by rw [this.2.1]; exact Nat.le_succ _, this.2.2⟩
  · split at h
    · cases h
    · rename_i fs _
      exact back_adds (s := { s with fs := fs }) h
  · cases h
theorem FT.len {ops : Ops} {B N : Nat} {f : Fr} {σ ρ : Ty} (h : FT ops B N f σ ρ) : 1 ≤ f.tk.length := by
  cases h <;> (rename_i hl; simp only [Fr.tk]; first | omega | (rename_i hl; omega))
theorem ST.len {ops : Ops} {B N : Nat} : ∀ {fs : List Fr} {σ ρ : Ty}, ST ops B N fs σ ρ → fs.length ≤ (toks fs).length
  | _, _, _, .nil => Nat.zero_le _
  | _, _, _, .cons hf _ s => by
    have := hf.len
    have := s.len
    rw [toks_cons, List.length_append, List.length_cons]
    omega
theorem Spent.pot {C L m : Nat} {s : LS} (h : Spent C L m s) (hC : C ≤ 164) (hL : L ≤ s.left + 60) : m + s.pot ≤ 94400 := by
  obtain ⟨n1, n2, h1, h2, h3⟩ := h
  have t := table ⟨n2, by omega⟩
  have : (1 + n2) * s.nx ≤ (1 + n2) * (164 + 96 * (60 - n2)) := Nat.mul_le_mul_left _ (by omega)
  have h4 := Nat.le_trans h3 this
  have t' : (1 + n2) * (164 + 96 * (60 - n2)) ≤ 94400 := t
  omega
theorem StOk.fslen {ops : Ops} {B : Nat} {τ : Ty} {s : LS} (h : StOk ops B τ s) (hd : ∀ r, s.cur ≠ .dn r) : s.fs.length ≤ s.pot := by
  cases h with
  | dn => exact absurd rfl (hd _)
  | ev _ _ _ _ hS _ _ _ => exact Nat.le_trans hS.len (Nat.le_add_left _ _)
  | rt _ hS _ _ _ => exact Nat.le_trans hS.len (Nat.le_add_left _ _)
end TM
/-! TN9: states as the plain meaning has them: what is bound is put in. -/
namespace TM
open DL
abbrev Rho := String → Option D
def cut (ρ : Rho) (x : String) : Rho := fun y => if x = y then none else ρ y
def fill (ρ : Rho) (x : String) (d : D) : Rho := fun y => match ρ y with
  | some z => some z
  | none => if x = y then some d else none
mutual
def sub (ρ : Rho) : Tm → D
  | .num i => .tup [.str "num", .int i]
  | .flag b => .tup [.str "flag", .bl b]
  | .unit => .tup [.str "unit"]
  | .name x => match ρ x with
    | some d => .tup [.str "quoted", d]
    | none => .tup [.str "name", .str x]
  | .fn x b => .tup [.str "fun", .str x, sub (cut ρ x) b]
  | .rc f x b => .tup [.str "rec", .str f, .str x, sub (cut (cut ρ f) x) b]
  | .lt x a b => .tup [.str "let", .str x, sub ρ a, sub (cut ρ x) b]
  | .op s a b => .tup [.str "op", .str s, sub ρ a, sub ρ b]
  | .ask o a => .tup [.str "ask", .str o, sub ρ a]
  | .fst a => .tup [.str "fst", sub ρ a]
  | .snd a => .tup [.str "snd", sub ρ a]
  | .nt a => .tup [.str "not", sub ρ a]
  | .ite a b c => .tup [.str "if", sub ρ a, sub ρ b, sub ρ c]
  | .call a b => .tup [.str "call", sub ρ a, sub ρ b]
  | .pair a b => .tup [.str "pair", sub ρ a, sub ρ b]
  | .prt a b => .tup [.str "print", sub ρ a, sub ρ b]
  | .han e r b cs => .tup [.str "handle", sub ρ e, .tup [.str r, sub (cut ρ r) b], .tup (subC ρ cs)]
def subC (ρ : Rho) : Cls → List D
  | .nil => []
  | .cons o x k b r => .tup [.str o, .str x, .str k, sub (cut (cut ρ x) k) b] :: subC ρ r
end
mutual
def Val.p : Val → D
  | .int i => .tup [.str "num", .int i]
  | .bool b => .tup [.str "flag", .bl b]
  | .unit => .tup [.str "unit"]
  | .pair a b => .tup [.str "pair", a.p, b.p]
  | .fn f x b e => if f = "" then .tup [.str "fun", .str x, sub (cut e.ro x) b] else .tup [.str "rec", .str f, .str x, sub (cut (cut e.ro f) x) b]
  | .kept fs => .tup [.str "kept", .tup (frP fs)]
def Env.ro : Env → Rho
  | .nil => fun _ => none
  | .cons x v e => fun y => if x = y then some v.p else e.ro y
def Fr.p : Fr → D
  | .a t e _ => match t with
    | .call _ b => .tup [.str "call", sub e.ro b]
    | .pair _ b => .tup [.str "pair", sub e.ro b]
    | .op o _ b => .tup [.str "op", .str o, sub e.ro b]
    | .lt x _ b => .tup [.str "let", .str x, sub (cut e.ro x) b]
    | .ite _ b c => .tup [.str "if", sub e.ro b, sub e.ro c]
    | .prt _ b => .tup [.str "print", sub e.ro b]
    | .ask o _ => .tup [.str "ask", .str o]
    | .han _ r b cs => .tup [.str "handle", .tup [.str r, sub (cut e.ro r) b], .tup (subC e.ro cs)]
    | .nt _ => .tup [.str "not"]
    | .fst _ => .tup [.str "fst"]
    | .snd _ => .tup [.str "snd"]
    | _ => .non
  | .b t _ v _ => match t with
    | .op o _ _ => .tup [.str "op2", .str o, v.p]
    | .pair _ _ => .tup [.str "pair2", v.p]
    | .call _ _ => .tup [.str "call2", v.p]
    | _ => .non
def frP : List Fr → List D
  | [] => []
  | f :: fs => frP fs ++ [f.p]
end
theorem frP_app : ∀ (a b : List Fr), frP (a ++ b) = frP b ++ frP a
  | [], b => by simp [frP]
  | f :: a, b => by rw [List.cons_append, frP, frP, frP_app a b, List.append_assoc]
theorem frP_len : ∀ a : List Fr, (frP a).length = a.length
  | [] => rfl
  | f :: a => by rw [frP, List.length_append, frP_len a]; rfl
theorem sub_nil_aux (ρ : Rho) (h : ∀ x, ρ x = none) (x : String) : ∀ y, cut ρ x y = none := fun y => by
  unfold cut; split
  · rfl
  · exact h y
mutual
theorem sub_nil : ∀ (t : Tm) (ρ : Rho), (∀ x, ρ x = none) → sub ρ t = t.d
  | .num i, ρ, h => rfl
  | .flag b, ρ, h => rfl
  | .unit, ρ, h => rfl
  | .name x, ρ, h => by simp only [sub, h x, Tm.d]
  | .fn x b, ρ, h => by simp only [sub, Tm.d, sub_nil b _ (sub_nil_aux ρ h x)]
  | .rc f x b, ρ, h => by simp only [sub, Tm.d, sub_nil b _ (sub_nil_aux _ (sub_nil_aux ρ h f) x)]
  | .lt x a b, ρ, h => by simp only [sub, Tm.d, sub_nil a ρ h, sub_nil b _ (sub_nil_aux ρ h x)]
  | .op s a b, ρ, h => by simp only [sub, Tm.d, sub_nil a ρ h, sub_nil b ρ h]
  | .ask o a, ρ, h => by simp only [sub, Tm.d, sub_nil a ρ h]
  | .fst a, ρ, h => by simp only [sub, Tm.d, sub_nil a ρ h]
  | .snd a, ρ, h => by simp only [sub, Tm.d, sub_nil a ρ h]
  | .nt a, ρ, h => by simp only [sub, Tm.d, sub_nil a ρ h]
  | .ite a b c, ρ, h => by simp only [sub, Tm.d, sub_nil a ρ h, sub_nil b ρ h, sub_nil c ρ h]
  | .call a b, ρ, h => by simp only [sub, Tm.d, sub_nil a ρ h, sub_nil b ρ h]
  | .pair a b, ρ, h => by simp only [sub, Tm.d, sub_nil a ρ h, sub_nil b ρ h]
  | .prt a b, ρ, h => by simp only [sub, Tm.d, sub_nil a ρ h, sub_nil b ρ h]
  | .han e r b cs, ρ, h => by simp only [sub, Tm.d, sub_nil e ρ h, sub_nil b _ (sub_nil_aux ρ h r), subC_nil cs ρ h]
theorem subC_nil : ∀ (t : Cls) (ρ : Rho), (∀ x, ρ x = none) → subC ρ t = t.d
  | .nil, ρ, h => rfl
  | .cons o x k b r, ρ, h => by simp only [subC, Cls.d, sub_nil b _ (sub_nil_aux _ (sub_nil_aux ρ h x) k), subC_nil r ρ h]
end
theorem cut_fill_same (ρ : Rho) (x : String) (d : D) : cut (fill ρ x d) x = cut ρ x := by
  funext y
  unfold cut fill
  by_cases h : x = y
  · simp [h]
  · simp only [h, if_false]; cases ρ y <;> simp
theorem cut_fill_ne (ρ : Rho) {x y : String} (h : x ≠ y) (d : D) : cut (fill ρ x d) y = fill (cut ρ y) x d := by
  funext z
  unfold cut fill
  by_cases e : y = z
  · subst e; simp [h]
  · simp only [e, if_false]
theorem fill_cut (e : Env) (x : String) (v : Val) : fill (cut e.ro x) x v.p = (Env.cons x v e).ro := by
  funext y
  show _ = if x = y then some v.p else e.ro y
  unfold fill cut
  by_cases h : x = y
  · simp [h]
  · simp only [h, if_false]; cases e.ro y <;> simp
theorem fill_cut2 (e : Env) {x k : String} (hne : x ≠ k) (v w : Val) : fill (fill (cut (cut e.ro x) k) x v.p) k w.p = (Env.cons k w (.cons x v e)).ro := by
  funext y
  show _ = if k = y then some w.p else if x = y then some v.p else e.ro y
  unfold fill cut
  by_cases h : k = y
  · subst h; simp [hne]
  · by_cases g : x = y
    · subst g; simp [h]
    · simp only [h, g, if_false]; cases e.ro y <;> simp
theorem fill_cut2s (e : Env) {x : String} (v w : Val) : fill (cut (cut e.ro x) x) x w.p = (Env.cons x w (.cons x v e)).ro := by
  funext y
  show _ = if x = y then some w.p else if x = y then some v.p else e.ro y
  unfold fill cut
  by_cases h : x = y
  · simp [h]
  · simp only [h, if_false]; cases e.ro y <;> simp
/-- the parameter first, the function's own name then -/
theorem fill_rec (e : Env) (f x : String) (v w : Val) : fill (fill (cut (cut e.ro f) x) x v.p) f w.p = (Env.cons x v (.cons f w e)).ro := by
  funext y
  show _ = if x = y then some v.p else if f = y then some w.p else e.ro y
  unfold fill cut
  by_cases h : x = y
  · simp [h]
  · by_cases g : f = y
    · subst g; simp [h]
    · simp only [h, g, if_false]; cases e.ro y <;> simp
theorem ro_find : ∀ {e : Env} {x : String} {v : Val}, e.find x = some v → e.ro x = some v.p
  | .nil, _, _, h => by cases h
  | .cons y u e, x, v, h => by
    rw [Env.find] at h
    show (if y = x then some u.p else e.ro x) = _
    by_cases c : y = x
    · rw [if_pos c] at h ⊢; cases h; rfl
    · rw [if_neg c] at h ⊢; exact ro_find h
/-! ### what is a value at once -/
def lit : Tm → Bool
  | .num _ => true | .flag _ => true | .unit => true | .fn _ _ => true | .rc _ _ _ => true
  | .pair a b => lit a && lit b
  | _ => false
def litv (e : Env) : Tm → Val
  | .num i => .int i | .flag b => .bool b | .unit => .unit
  | .fn x b => .fn "" x b e | .rc f x b => .fn f x b e
  | .pair a b => .pair (litv e a) (litv e b)
  | _ => .unit
theorem litv_p {B : Nat} {e : Env} : ∀ {t : Tm}, lit t = true → t.gd B → (litv e t).p = sub e.ro t
  | .num i, _, _ => rfl
  | .flag b, _, _ => rfl
  | .unit, _, _ => rfl
  | .fn x b, _, _ => by simp [litv, Val.p, sub]
  | .rc f x b, _, g => by simp [litv, Val.p, sub, (gd_rc g).1]
  | .pair a b, h, g => by
    have h := Bool.and_eq_true_iff.mp (show (lit a && lit b) = true from h)
    have g := gd_pair g
    simp only [litv, Val.p, sub, litv_p h.1 g.1, litv_p h.2 g.2]
/-! ### a run that is known to end in u -/
structure Tr (ops : Ops) (τ : Ty) (C L : Nat) (u : LS) (n : Nat) (s : LS) : Prop where
  run : LRun n s u
  ok : StOk ops 96 τ s
  sp : ∃ m, m + n ≤ 94400 ∧ Spent C L m s ∧ s.pr.length ≤ m ∧ s.an.length ≤ m
  nv : ∀ v, s.cur ≠ .dn (.val v)
  lf : L ≤ u.left + 60
theorem Tr.go {ops : Ops} {τ : Ty} {C L : Nat} {u : LS} {n : Nat} {s s' : LS} (hP : ∀ o α β, ops.lookup o = some (α, β) → β.plain = true) (h : Tr ops τ C L u n s) (hs : s.step = some s') : ∃ n', n = n' + 1 ∧ Tr ops τ C L u n' s' := by
  have hr := step_res hs
  obtain ⟨run, ok, ⟨m, h1, h2, h3, h4⟩, nv, lf⟩ := h
  obtain ⟨s1, g1, g2, g3⟩ := step_ok hP ok hr
  rw [hs] at g1
  cases g1
  have g4 := step_adds hs
  cases run with
  | done hd => exact absurd hr hd
  | @step n' _ s2 _ e2 run =>
    rw [hs] at e2
    cases e2
    exact ⟨n', rfl, run, g2, ⟨m + 1, by omega, h2.go g3, by omega, by omega⟩, g4.2.2, lf⟩
theorem LRun.left {ops : Ops} {τ : Ty} (hP : ∀ o α β, ops.lookup o = some (α, β) → β.plain = true) : ∀ {n : Nat} {s u : LS}, StOk ops 96 τ s → LRun n s u → u.left ≤ s.left
  | _, _, _, _, .done _ => Nat.le_refl _
  | _, s, _, ok, .step hs hr => by
    obtain ⟨s1, g1, g2, g3⟩ := step_ok hP ok (step_res hs)
    rw [hs] at g1
    cases g1
    have := LRun.left hP g2 hr
    cases g3 <;> omega
theorem Tr.left {ops : Ops} {τ : Ty} {C L : Nat} {u : LS} {n : Nat} {s : LS} (hP : ∀ o α β, ops.lookup o = some (α, β) → β.plain = true) (h : Tr ops τ C L u n s) : L ≤ s.left + 60 := by
  have := LRun.left hP h.ok h.run
  have := h.lf
  omega
theorem Tr.end {ops : Ops} {τ : Ty} {C L : Nat} {u : LS} {n : Nat} {s : LS} (h : Tr ops τ C L u n s) (hs : s.res ≠ none) : s = u := by
  cases h.run with
  | done _ => rfl
  | step e _ => exact absurd (step_res e) hs
/-- a value at once is one a little later -/
theorem lit_run {ops : Ops} {τ : Ty} {C L : Nat} {u : LS} (hP : ∀ o α β, ops.lookup o = some (α, β) → β.plain = true) : ∀ {t : Tm}, lit t = true → ∀ {n : Nat} {e : Env} {k : List Nat} {fs : List Fr} {l : Nat} {p : List Int} {a : List (String × String × String × Tm)} {x : Nat}, Tr ops τ C L u n ⟨.ev t e k, fs, l, p, a, x⟩ →
    ∃ n', n' < n ∧ Tr ops τ C L u n' ⟨.rt (litv e t), fs, l, p, a, x⟩
  | .num i, _, n, e, k, fs, l, p, a, x, h => by
    obtain ⟨n', rfl, g⟩ := h.go hP rfl
    exact ⟨n', Nat.lt_succ_self _, g⟩
  | .flag i, _, n, e, k, fs, l, p, a, x, h => by
    obtain ⟨n', rfl, g⟩ := h.go hP rfl
    exact ⟨n', Nat.lt_succ_self _, g⟩
  | .unit, _, n, e, k, fs, l, p, a, x, h => by
    obtain ⟨n', rfl, g⟩ := h.go hP rfl
    exact ⟨n', Nat.lt_succ_self _, g⟩
  | .fn y b, _, n, e, k, fs, l, p, a, x, h => by
    obtain ⟨n', rfl, g⟩ := h.go hP rfl
    exact ⟨n', Nat.lt_succ_self _, g⟩
  | .rc f y b, _, n, e, k, fs, l, p, a, x, h => by
    obtain ⟨n', rfl, g⟩ := h.go hP rfl
    exact ⟨n', Nat.lt_succ_self _, g⟩
  | .pair q r, hl, n, e, k, fs, l, p, a, x, h => by
    have hl := Bool.and_eq_true_iff.mp (show (lit q && lit r) = true from hl)
    obtain ⟨n1, e1, h1⟩ := h.go hP rfl
    obtain ⟨n2, i2, h2⟩ := lit_run hP hl.1 h1
    obtain ⟨n3, e3, h3⟩ := h2.go hP rfl
    obtain ⟨n4, i4, h4⟩ := lit_run hP hl.2 h3
    obtain ⟨n5, e5, h5⟩ := h4.go hP rfl
    exact ⟨n5, by omega, h5⟩
/-! ### what stands in an expression -/
def clsL : Cls → List (String × String × String × Tm)
  | .nil => []
  | .cons o x k b r => (o, x, k, b) :: clsL r
theorem clsL_len : ∀ c : Cls, (clsL c).length = c.len
  | .nil => rfl
  | .cons _ _ _ _ r => by rw [clsL, List.length_cons, clsL_len r]; rfl
def cutAll (ρ : Rho) (ns : List String) : Rho := ns.foldl cut ρ
def clP (ρ : Rho) (c : String × String × String × Tm) : D := .tup [.str c.1, .str c.2.1, .str c.2.2.1, sub (cut (cut ρ c.2.1) c.2.2.1) c.2.2.2]
theorem subC_map (ρ : Rho) : ∀ c : Cls, subC ρ c = (clsL c).map (clP ρ)
  | .nil => rfl
  | .cons _ _ _ _ r => by rw [subC, clsL, List.map_cons, subC_map ρ r]; rfl
def kids : Tm → List (List String × Tm)
  | .fn x b => [([x], b)]
  | .rc f x b => [([f, x], b)]
  | .lt x a b => [([], a), ([x], b)]
  | .op _ a b => [([], a), ([], b)]
  | .ask _ a => [([], a)]
  | .fst a => [([], a)]
  | .snd a => [([], a)]
  | .nt a => [([], a)]
  | .ite a b c => [([], a), ([], b), ([], c)]
  | .call a b => [([], a), ([], b)]
  | .pair a b => [([], a), ([], b)]
  | .prt a b => [([], a), ([], b)]
  | .han e r b cs => ([], e) :: ([r], b) :: (clsL cs).map fun c => ([c.2.1, c.2.2.1], c.2.2.2)
  | _ => []
def kidP (ρ : Rho) (q : List String × Tm) : D := sub (cutAll ρ q.1) q.2
theorem cutAll_in {ρ : Rho} {x : String} {d : D} : ∀ {ns : List String}, x ∈ ns → cutAll (fill ρ x d) ns = cutAll ρ ns := by
  intro ns
  induction ns generalizing ρ with
  | nil => intro h; cases h
  | cons y ns ih =>
    intro h
    show cutAll (cut (fill ρ x d) y) ns = cutAll (cut ρ y) ns
    by_cases e : x = y
    · subst e; rw [cut_fill_same]
    · rw [cut_fill_ne ρ e]
      rcases List.mem_cons.mp h with h | h
      · exact absurd h e
      · exact ih h
theorem cutAll_out {ρ : Rho} {x : String} {d : D} : ∀ {ns : List String}, x ∉ ns → cutAll (fill ρ x d) ns = fill (cutAll ρ ns) x d := by
  intro ns
  induction ns generalizing ρ with
  | nil => intro h; rfl
  | cons y ns ih =>
    intro h
    show cutAll (cut (fill ρ x d) y) ns = fill (cutAll (cut ρ y) ns) x d
    rw [List.mem_cons, not_or] at h
    rw [cut_fill_ne ρ h.1]
    exact ih h.2
theorem kids_cls {B : Nat} : ∀ {cs : Cls}, cs.gd B → ∀ c ∈ clsL cs, c.2.2.2.gd B ∧ c.2.2.2.dep ≤ cs.dep
  | .nil, _, c, hc => by cases hc
  | .cons o x k b r, g, c, hc => by
    rw [clsL, List.mem_cons] at hc
    have g' := gd_cons g
    simp only [Cls.dep]
    rcases hc with rfl | hc
    · exact ⟨g'.2.1, by simp; omega⟩
    · have := kids_cls g'.2.2 c hc
      exact ⟨this.1, by omega⟩
theorem kids_gd {B : Nat} {t : Tm} (g : t.gd B) : ∀ q ∈ kids t, q.2.gd B ∧ q.2.dep + 1 ≤ t.dep := by
  cases t with
  | fn x b => intro q hq; simp [kids] at hq; subst hq; exact ⟨(gd_fn g).2, by simp [Tm.dep]⟩
  | rc f x b => intro q hq; simp [kids] at hq; subst hq; exact ⟨(gd_rc g).2.2, by simp [Tm.dep]⟩
  | lt x a b => intro q hq; simp [kids] at hq; rcases hq with rfl | rfl <;> first | exact ⟨(gd_lt g).1, by simp [Tm.dep]; omega⟩ | exact ⟨(gd_lt g).2, by simp [Tm.dep]; omega⟩
  | op x a b => intro q hq; simp [kids] at hq; rcases hq with rfl | rfl <;> first | exact ⟨(gd_op g).1, by simp [Tm.dep]; omega⟩ | exact ⟨(gd_op g).2, by simp [Tm.dep]; omega⟩
  | call a b => intro q hq; simp [kids] at hq; rcases hq with rfl | rfl <;> first | exact ⟨(gd_call g).1, by simp [Tm.dep]; omega⟩ | exact ⟨(gd_call g).2, by simp [Tm.dep]; omega⟩
  | pair a b => intro q hq; simp [kids] at hq; rcases hq with rfl | rfl <;> first | exact ⟨(gd_pair g).1, by simp [Tm.dep]; omega⟩ | exact ⟨(gd_pair g).2, by simp [Tm.dep]; omega⟩
  | prt a b => intro q hq; simp [kids] at hq; rcases hq with rfl | rfl <;> first | exact ⟨(gd_prt g).1, by simp [Tm.dep]; omega⟩ | exact ⟨(gd_prt g).2, by simp [Tm.dep]; omega⟩
  | ask o a => intro q hq; simp [kids] at hq; subst hq; exact ⟨gd_ask g, by simp [Tm.dep]⟩
  | fst a => intro q hq; simp [kids] at hq; subst hq; exact ⟨gd_fst g, by simp [Tm.dep]⟩
  | snd a => intro q hq; simp [kids] at hq; subst hq; exact ⟨gd_snd g, by simp [Tm.dep]⟩
  | nt a => intro q hq; simp [kids] at hq; subst hq; exact ⟨gd_nt g, by simp [Tm.dep]⟩
  | ite a b c =>
    intro q hq
    simp [kids] at hq
    have g := gd_ite g
    rcases hq with rfl | rfl | rfl
    · exact ⟨g.1, by simp [Tm.dep]; omega⟩
    · exact ⟨g.2.1, by simp [Tm.dep]; omega⟩
    · exact ⟨g.2.2, by simp [Tm.dep]; omega⟩
  | han e r b cs =>
    intro q hq
    have g := gd_han g
    rw [kids, List.mem_cons, List.mem_cons] at hq
    rcases hq with rfl | rfl | hq
    · exact ⟨g.1, by simp [Tm.dep]; omega⟩
    · exact ⟨g.2.1, by simp [Tm.dep]; omega⟩
    · obtain ⟨c, hc, rfl⟩ := List.mem_map.mp hq
      have := kids_cls g.2.2 c hc
      exact ⟨this.1, by simp [Tm.dep]; omega⟩
  | _ => intro q hq; cases hq
end TM
/-! TR1: code: rows, what compiling gives; free names; clauses that answer at once. -/
namespace TM
open DL
/-! ### free names, answering at once -/
mutual
def Tm.fv : Tm → String → Bool
  | .num _, _ => false | .flag _, _ => false | .unit, _ => false
  | .name x, y => decide (x = y)
  | .fn x b, y => decide (x ≠ y) && b.fv y
  | .rc f x b, y => decide (f ≠ y) && (decide (x ≠ y) && b.fv y)
  | .lt x a b, y => a.fv y || (decide (x ≠ y) && b.fv y)
  | .op _ a b, y => a.fv y || b.fv y
  | .ask _ a, y => a.fv y
  | .fst a, y => a.fv y
  | .snd a, y => a.fv y
  | .nt a, y => a.fv y
  | .ite a b c, y => a.fv y || (b.fv y || c.fv y)
  | .call a b, y => a.fv y || b.fv y
  | .pair a b, y => a.fv y || b.fv y
  | .prt a b, y => a.fv y || b.fv y
  | .han e r b cs, y => e.fv y || ((decide (r ≠ y) && b.fv y) || cs.fv y)
def Cls.fv : Cls → String → Bool
  | .nil, _ => false
  | .cons _ x k b r, y => (decide (x ≠ y) && (decide (k ≠ y) && b.fv y)) || r.fv y
end
def Tm.isName : Tm → String → Bool
  | .name x, y => decide (x = y)
  | _, _ => false
/-- it answers k at once -/
def Tm.once (k : String) : Tm → Bool
  | .call a b => a.isName k && !b.fv k
  | .lt x a b => !a.fv k && (decide (x ≠ k) && b.once k)
  | .ite a b c => !a.fv k && (b.once k && c.once k)
  | .prt a b => !a.fv k && b.once k
  | _ => false
/-- what it answers with -/
def Tm.ans : Tm → Tm
  | .call _ b => b
  | .lt x a b => .lt x a b.ans
  | .ite a b c => .ite a b.ans c.ans
  | .prt a b => .prt a b.ans
  | t => t
theorem isName_eq {t : Tm} {k : String} (h : t.isName k = true) : t = .name k := by
  cases t <;> simp [Tm.isName] at h
  rw [h]
/-- what the answer needs, the expression needs -/
theorem ans_fv : ∀ {t : Tm} {k : String}, t.once k = true → ∀ y, t.ans.fv y = true → t.fv y = true ∧ y ≠ k
  | .call a b, k, h, y, hy => by
    simp only [Tm.once, Bool.and_eq_true, Bool.not_eq_true'] at h
    simp only [Tm.ans] at hy
    refine ⟨by simp [Tm.fv, hy], fun z => ?_⟩
    subst z
    rw [hy] at h
    cases h.2
  | .lt x a b, k, h, y, hy => by
    simp only [Tm.once, Bool.and_eq_true, Bool.not_eq_true', decide_eq_true_eq] at h
    simp only [Tm.ans, Tm.fv, Bool.or_eq_true, Bool.and_eq_true, decide_eq_true_eq] at hy ⊢
    rcases hy with hy | ⟨h1, hy⟩
    · exact ⟨.inl hy, fun z => by subst z; rw [hy] at h; cases h.1⟩
    · have := ans_fv h.2.2 y hy
      exact ⟨.inr ⟨h1, this.1⟩, this.2⟩
  | .ite a b c, k, h, y, hy => by
    simp only [Tm.once, Bool.and_eq_true, Bool.not_eq_true'] at h
    simp only [Tm.ans, Tm.fv, Bool.or_eq_true] at hy ⊢
    rcases hy with hy | hy | hy
    · exact ⟨.inl hy, fun z => by subst z; rw [hy] at h; cases h.1⟩
    · have := ans_fv h.2.1 y hy
      exact ⟨.inr (.inl this.1), this.2⟩
    · have := ans_fv h.2.2 y hy
      exact ⟨.inr (.inr this.1), this.2⟩
  | .prt a b, k, h, y, hy => by
    simp only [Tm.once, Bool.and_eq_true, Bool.not_eq_true'] at h
    simp only [Tm.ans, Tm.fv, Bool.or_eq_true] at hy ⊢
    rcases hy with hy | hy
    · exact ⟨.inl hy, fun z => by subst z; rw [hy] at h; cases h.1⟩
    · have := ans_fv h.2 y hy
      exact ⟨.inr this.1, this.2⟩
  | .num _, _, h, _, _ => by cases h
  | .flag _, _, h, _, _ => by cases h
  | .unit, _, h, _, _ => by cases h
  | .name _, _, h, _, _ => by cases h
  | .fn _ _, _, h, _, _ => by cases h
  | .rc _ _ _, _, h, _, _ => by cases h
  | .op _ _ _, _, h, _, _ => by cases h
  | .ask _ _, _, h, _, _ => by cases h
  | .fst _, _, h, _, _ => by cases h
  | .snd _, _, h, _, _ => by cases h
  | .nt _, _, h, _, _ => by cases h
  | .pair _ _, _, h, _, _ => by cases h
  | .han _ _ _ _, _, h, _, _ => by cases h
/-! ### rows -/
inductive Row where
  | int (i : Int) | flag (b : Bool) | unit | load (i : Nat) | close (k : Nat) (r : Bool)
  | op (s : String) | ask (o : String) | fst | snd | nt | pair | call | tail | ret | print | bind | unbind
  | unless (n : Nat) | jump (n : Nat) | handle (i a : Nat) (cs : List (String × Nat × Bool))
def clsD (cs : List (String × Nat × Bool)) : List (String × D) := cs.map fun c => (c.1, .tup [.int (c.2.1 : Nat), .bl c.2.2])
def Row.d : Row → D
  | .int i => .tup [.str "int", .int i]
  | .flag b => .tup [.str "flag", .bl b]
  | .unit => .tup [.str "unit"]
  | .load i => .tup [.str "load", .int (i : Nat)]
  | .close k r => .tup [.str "close", .int (k : Nat), .bl r]
  | .op s => .tup [.str "op", .str s]
  | .ask o => .tup [.str "ask", .str o]
  | .fst => .tup [.str "fst"]
  | .snd => .tup [.str "snd"]
  | .nt => .tup [.str "not"]
  | .pair => .tup [.str "pair"]
  | .call => .tup [.str "call"]
  | .tail => .tup [.str "tail"]
  | .ret => .tup [.str "return"]
  | .print => .tup [.str "print"]
  | .bind => .tup [.str "bind"]
  | .unbind => .tup [.str "unbind"]
  | .unless n => .tup [.str "unless", .int (n : Nat)]
  | .jump n => .tup [.str "jump", .int (n : Nat)]
  | .handle i a cs => .tup [.str "handle", .int (i : Nat), .int (a : Nat), .dic (clsD cs)]
/-! ### compiling -/
abbrev It := Tm × List String
def Cls.rows : Cls → Nat → List (String × Nat × Bool)
  | .nil, _ => []
  | .cons o _ k b r, q => (o, q, b.once k) :: r.rows (q + 1)
def Cls.its (Γ : List String) : Cls → List It
  | .nil => []
  | .cons _ x k b r => (if b.once k then b.ans else b, Γ ++ [x, k]) :: r.its Γ
theorem Cls.its_len (Γ : List String) : ∀ c : Cls, (c.its Γ).length = c.len
  | .nil => rfl
  | .cons _ _ _ _ r => by simp [Cls.its, Cls.len, Cls.its_len Γ r]
/-- the rows of an expression whose value goes on top; the blocks that it makes; a: where they begin, q: how many blocks there are -/
def cv : Tm → List String → Nat → Nat → List Row × List It
  | .num i, _, _, _ => ([.int i], [])
  | .flag b, _, _, _ => ([.flag b], [])
  | .unit, _, _, _ => ([.unit], [])
  | .name x, Γ, _, _ => ([.load (Γ.reverse.idxOf x)], [])
  | .fn x b, Γ, _, q => ([.close q false], [(b, Γ ++ [x])])
  | .rc f x b, Γ, _, q => ([.close q true], [(b, Γ ++ [f, x])])
  | .lt x t u, Γ, a, q =>
    let c1 := cv t Γ a q
    let c2 := cv u (Γ ++ [x]) (a + c1.1.length + 1) (q + c1.2.length)
    (c1.1 ++ (.bind :: (c2.1 ++ [.unbind])), c1.2 ++ c2.2)
  | .op s t u, Γ, a, q =>
    let c1 := cv t Γ a q
    let c2 := cv u Γ (a + c1.1.length) (q + c1.2.length)
    (c1.1 ++ (c2.1 ++ [.op s]), c1.2 ++ c2.2)
  | .call t u, Γ, a, q =>
    let c1 := cv t Γ a q
    let c2 := cv u Γ (a + c1.1.length) (q + c1.2.length)
    (c1.1 ++ (c2.1 ++ [.call]), c1.2 ++ c2.2)
  | .pair t u, Γ, a, q =>
    let c1 := cv t Γ a q
    let c2 := cv u Γ (a + c1.1.length) (q + c1.2.length)
    (c1.1 ++ (c2.1 ++ [.pair]), c1.2 ++ c2.2)
  | .ask o t, Γ, a, q => let c1 := cv t Γ a q; (c1.1 ++ [.ask o], c1.2)
  | .fst t, Γ, a, q => let c1 := cv t Γ a q; (c1.1 ++ [.fst], c1.2)
  | .snd t, Γ, a, q => let c1 := cv t Γ a q; (c1.1 ++ [.snd], c1.2)
  | .nt t, Γ, a, q => let c1 := cv t Γ a q; (c1.1 ++ [.nt], c1.2)
  | .ite t u w, Γ, a, q =>
    let c1 := cv t Γ a q
    let c2 := cv u Γ (a + c1.1.length + 1) (q + c1.2.length)
    let n2 := a + c1.1.length + 1 + c2.1.length + 1
    let c3 := cv w Γ n2 (q + c1.2.length + c2.2.length)
    (c1.1 ++ (.unless n2 :: (c2.1 ++ (.jump (n2 + c3.1.length) :: c3.1))), c1.2 ++ (c2.2 ++ c3.2))
  | .prt t u, Γ, a, q =>
    let c1 := cv t Γ a q
    let c2 := cv u Γ (a + c1.1.length + 1) (q + c1.2.length)
    (c1.1 ++ (.print :: c2.1), c1.2 ++ c2.2)
  | .han e r b cs, Γ, _, q => ([.handle q (q + 1) (cs.rows (q + 2))], (e, Γ) :: (b, Γ ++ [r]) :: cs.its Γ)
/-- .. whose value is that of the block -/
def cl : Tm → List String → Nat → Nat → List Row × List It
  | .lt x t u, Γ, a, q =>
    let c1 := cv t Γ a q
    let c2 := cl u (Γ ++ [x]) (a + c1.1.length + 1) (q + c1.2.length)
    (c1.1 ++ (.bind :: c2.1), c1.2 ++ c2.2)
  | .call t u, Γ, a, q =>
    let c1 := cv t Γ a q
    let c2 := cv u Γ (a + c1.1.length) (q + c1.2.length)
    (c1.1 ++ (c2.1 ++ [.tail]), c1.2 ++ c2.2)
  | .ite t u w, Γ, a, q =>
    let c1 := cv t Γ a q
    let c2 := cl u Γ (a + c1.1.length + 1) (q + c1.2.length)
    let n2 := a + c1.1.length + 1 + c2.1.length
    let c3 := cl w Γ n2 (q + c1.2.length + c2.2.length)
    (c1.1 ++ (.unless n2 :: (c2.1 ++ c3.1)), c1.2 ++ (c2.2 ++ c3.2))
  | .prt t u, Γ, a, q =>
    let c1 := cv t Γ a q
    let c2 := cl u Γ (a + c1.1.length + 1) (q + c1.2.length)
    (c1.1 ++ (.print :: c2.1), c1.2 ++ c2.2)
  | t, Γ, a, q => let c1 := cv t Γ a q; (c1.1 ++ [.ret], c1.2)
/-- the code c stands at a -/
def At (rows : List Row) (a : Nat) (c : List Row) : Prop := ∀ j r, c[j]? = some r → rows[a + j]? = some r
theorem At.app {rows : List Row} {a : Nat} {c d : List Row} (h : At rows a (c ++ d)) : At rows a c ∧ At rows (a + c.length) d := by
  refine ⟨fun j r e => h j r ?_, fun j r e => ?_⟩
  · rw [List.getElem?_append_left (List.getElem?_eq_some_iff.mp e).1]; exact e
  · have := h (c.length + j) r (by rw [List.getElem?_append_right (by omega)]; rw [show c.length + j - c.length = j by omega]; exact e)
    rw [Nat.add_assoc]; exact this
theorem At.cons {rows : List Row} {a : Nat} {r : Row} {d : List Row} (h : At rows a (r :: d)) : rows[a]? = some r ∧ At rows (a + 1) d := by
  refine ⟨h 0 r rfl, fun j r' e => ?_⟩
  have := h (j + 1) r' (by rw [List.getElem?_cons_succ]; exact e)
  rw [Nat.add_assoc, Nat.add_comm 1 j]; exact this
def Qok (items : List It) (q : Nat) (w : List It) : Prop := ∀ j it, w[j]? = some it → items[q + j]? = some it
theorem Qok.app {items : List It} {q : Nat} {c d : List It} (h : Qok items q (c ++ d)) : Qok items q c ∧ Qok items (q + c.length) d := by
  refine ⟨fun j r e => h j r ?_, fun j r e => ?_⟩
  · rw [List.getElem?_append_left (List.getElem?_eq_some_iff.mp e).1]; exact e
  · have := h (c.length + j) r (by rw [List.getElem?_append_right (by omega)]; rw [show c.length + j - c.length = j by omega]; exact e)
    rw [Nat.add_assoc]; exact this
theorem Qok.cons {items : List It} {q : Nat} {r : It} {d : List It} (h : Qok items q (r :: d)) : items[q]? = some r ∧ Qok items (q + 1) d := by
  refine ⟨h 0 r rfl, fun j r' e => ?_⟩
  have := h (j + 1) r' (by rw [List.getElem?_cons_succ]; exact e)
  rw [Nat.add_assoc, Nat.add_comm 1 j]; exact this
/-- blocks of rows, and what each is the code of -/
structure Cd where
  blocks : List (List Row)
  items : List It
structure Cd.Ok (C : Cd) : Prop where
  len : C.blocks.length = C.items.length
  code : ∀ (k : Nat) (t : Tm) (Γ : List String), C.items[k]? = some (t, Γ) → ∃ q, C.blocks[k]? = some (cl t Γ 0 q).1 ∧ Qok C.items q (cl t Γ 0 q).2
end TM
/-! TR2: a run of code as data, and what it has to do with the meaning. -/
namespace TM
open DL
/-- a saved frame: operands with the topmost first -/
structure Fm where
  rows : List Row
  at_ : Nat
  bnd : D
  ops : List D
def Fm.d (f : Fm) : D := .tup [.lst (f.rows.map Row.d), .int (f.at_ : Nat), f.bnd, .tup f.ops.reverse]
/-- a piece: the frames with the topmost first -/
structure Pc where
  kind : Nat
  h : D
  fms : List Fm
  dist : Nat
def Pc.d (p : Pc) : D := .tup [.int (p.kind : Nat), p.h, .tup (p.fms.reverse.map Fm.d), .int (p.dist : Nat)]
def Pc.han (a : Nat) (cs : List (String × Nat × Bool)) (bnd : D) : Pc := ⟨1, .tup [.int (a : Nat), .dic (clsD cs), bnd], [], 0⟩
def Pc.place (d : Nat) : Pc := ⟨2, .non, [], d⟩
def Pc.bot : Pc := ⟨0, .non, [], 0⟩
def Pc.push (p : Pc) (f : Fm) : Pc := { p with fms := f :: p.fms }
abbrev Ctx := List (String × Bool)
def nms (Γ : Ctx) : List String := (Γ.map (·.1)).reverse
def Alive (Γ : Ctx) (t : Tm) : Prop := ∀ y, t.fv y = true → Γ.lookup y = some true
def binR : Tm → Option (Tm × Row)
  | .op s _ b => some (b, .op s)
  | .call _ b => some (b, .call)
  | .pair _ b => some (b, .pair)
  | _ => none
def unR : Tm → Option Row
  | .ask o _ => some (.ask o)
  | .fst _ => some .fst
  | .snd _ => some .snd
  | .nt _ => some .nt
  | _ => none
/-- what the meaning still has to do where a block ends: nothing, or the call of the resumption -/
def Tl : Option (List Fr) → List Fr → Prop
  | none, fs => fs = []
  | some i, fs => ∃ k t e tk, fs = [.b (.call (.name k) t) e (.kept i) tk]
mutual
inductive VR (C : Cd) (N : Nat) : Val → D → Prop
  | int {i} : VR C N (.int i) (.tup [.str "int", .int i])
  | bool {b} : VR C N (.bool b) (.tup [.str "bool", .bl b])
  | unit : VR C N .unit (.tup [.str "unit"])
  | pair {a b u w} : VR C N a u → VR C N b w → VR C N (.pair a b) (.tup [.str "pair", u, w])
  | fn {Γ : Ctx} {x b e bnd} {k : Nat} : EB C N Γ e bnd → C.items[k]? = some (b, nms Γ ++ [x]) → (∀ y, b.fv y = true → x ≠ y → Γ.lookup y = some true) →
      VR C N (.fn "" x b e) (.tup [.str "fun", .int (k : Nat), .bl false, bnd])
  | rc {Γ : Ctx} {f x b e bnd} {k : Nat} : f ≠ "" → EB C N Γ e bnd → C.items[k]? = some (b, nms Γ ++ [f, x]) → (∀ y, b.fv y = true → x ≠ y → f ≠ y → Γ.lookup y = some true) →
      VR C N (.fn f x b e) (.tup [.str "fun", .int (k : Nat), .bl true, bnd])
  | kept {ps fs} : SG C N none ps fs → ps ≠ [] → (∀ p ∈ ps, p.kind ≠ 0) → VR C N (.kept fs) (.tup [.str "kept", .tup (ps.reverse.map Pc.d)])
inductive EB (C : Cd) (N : Nat) : Ctx → Env → D → Prop
  | nil : EB C N [] .nil .non
  | cons {Γ x v w e bnd} : VR C N v w → EB C N Γ e bnd → EB C N ((x, true) :: Γ) (.cons x v e) (.tup [w, bnd])
  | dead {Γ x v w e bnd} : EB C N Γ e bnd → EB C N ((x, false) :: Γ) (.cons x v e) (.tup [w, bnd])
/-- what is behind a piece; m: which resumption the block above has still to call -/
inductive SG (C : Cd) (N : Nat) : Option (List Fr) → List Pc → List Fr → Prop
  | nil : SG C N none [] []
  | bot : SG C N none [.bot] []
  | frame {m fm p ps fs1 fs2} : p.fms.length < N → KR C N m fm.rows fm.at_ fm.bnd fm.ops fs1 → SG C N m (p :: ps) fs2 → SG C N none (p.push fm :: ps) (fs1 ++ fs2)
  | han {Γ : Ctx} {m e0 r b cs e tk ps fs1 fs2 bnd} {a q : Nat} : EB C N Γ e bnd → C.items[a]? = some (b, nms Γ ++ [r]) → (∀ y, b.fv y = true → r ≠ y → Γ.lookup y = some true) →
      Qok C.items q (cs.its (nms Γ)) → (∀ y, cs.fv y = true → Γ.lookup y = some true) → Tl m fs1 → SG C N m ps fs2 → SG C N none (.han a (cs.rows q) bnd :: ps) (.a (.han e0 r b cs) e tk :: (fs1 ++ fs2))
  | place {m ps1 ps2 i fs1 fs2} : SG C N none ps1 i → ps1 ≠ [] → (∀ p ∈ ps1, p.kind ≠ 0) → Tl m fs1 → SG C N m ps2 fs2 → SG C N (some i) (.place ps1.length :: (ps1 ++ ps2)) (fs1 ++ fs2)
/-- what a block does with a value, from a row on -/
inductive KR (C : Cd) (N : Nat) : Option (List Fr) → List Row → Nat → D → List D → List Fr → Prop
  | ret {m rows bnd fs} {a : Nat} : rows[a]? = some .ret → Tl m fs → KR C N m rows a bnd [] fs
  | unbind {m rows bnd ops fs w} {a : Nat} : rows[a]? = some .unbind → KR C N m rows (a + 1) bnd ops fs → KR C N m rows a (.tup [w, bnd]) ops fs
  | jump {m rows bnd ops fs} {a n : Nat} : rows[a]? = some (.jump n) → a < n → n ≤ rows.length → KR C N m rows n bnd ops fs → KR C N m rows a bnd ops fs
  | bin1 {Γ : Ctx} {m rows bnd ops fs t e tk b r} {a q : Nat} : binR t = some (b, r) → EB C N Γ e bnd → At rows a ((cv b (nms Γ) a q).1 ++ [r]) → Qok C.items q (cv b (nms Γ) a q).2 → Alive Γ b →
      KR C N m rows (a + (cv b (nms Γ) a q).1.length + 1) bnd ops fs → KR C N m rows a bnd ops (.a t e tk :: fs)
  | bin2 {m rows bnd ops fs t e v w tk b r} {a : Nat} : binR t = some (b, r) → rows[a]? = some r → VR C N v w → KR C N m rows (a + 1) bnd ops fs → KR C N m rows a bnd (w :: ops) (.b t e v tk :: fs)
  | call1 {Γ : Ctx} {m rows bnd fs t b e tk} {a q : Nat} : EB C N Γ e bnd → At rows a ((cv b (nms Γ) a q).1 ++ [.tail]) → Qok C.items q (cv b (nms Γ) a q).2 → Alive Γ b → Tl m fs → KR C N m rows a bnd [] (.a (.call t b) e tk :: fs)
  | call2 {m rows bnd fs t b e v w tk} {a : Nat} : rows[a]? = some .tail → VR C N v w → Tl m fs → KR C N m rows a bnd [w] (.b (.call t b) e v tk :: fs)
  | un {m rows bnd ops fs t e tk r} {a : Nat} : unR t = some r → rows[a]? = some r → KR C N m rows (a + 1) bnd ops fs → KR C N m rows a bnd ops (.a t e tk :: fs)
  | lt {Γ : Ctx} {m rows bnd ops fs x t b e tk} {a : Nat} : rows[a]? = some .bind → EB C N Γ e bnd → (∀ v w, Ev C N m rows (a + 1) ((x, true) :: Γ) (.cons x v e) (.tup [w, bnd]) ops b fs) → KR C N m rows a bnd ops (.a (.lt x t b) e tk :: fs)
  | ite {Γ : Ctx} {m rows bnd ops fs t b c e tk} {a u : Nat} : rows[a]? = some (.unless u) → EB C N Γ e bnd → Ev C N m rows (a + 1) Γ e bnd ops b fs → Ev C N m rows u Γ e bnd ops c fs → KR C N m rows a bnd ops (.a (.ite t b c) e tk :: fs)
  | prt {Γ : Ctx} {m rows bnd ops fs t b e tk} {a : Nat} : rows[a]? = some .print → EB C N Γ e bnd → Ev C N m rows (a + 1) Γ e bnd ops b fs → KR C N m rows a bnd ops (.a (.prt t b) e tk :: fs)
/-- an expression is begun at a row -/
inductive Ev (C : Cd) (N : Nat) : Option (List Fr) → List Row → Nat → Ctx → Env → D → List D → Tm → List Fr → Prop
  | v {Γ : Ctx} {m rows e bnd ops t fs} {a q : Nat} : At rows a (cv t (nms Γ) a q).1 → Qok C.items q (cv t (nms Γ) a q).2 → Alive Γ t → KR C N m rows (a + (cv t (nms Γ) a q).1.length) bnd ops fs → Ev C N m rows a Γ e bnd ops t fs
  | l {Γ : Ctx} {m rows e bnd t fs} {a q : Nat} : At rows a (cl t (nms Γ) a q).1 → Qok C.items q (cl t (nms Γ) a q).2 → Alive Γ t → Tl m fs → Ev C N m rows a Γ e bnd [] t fs
  | p {Γ : Ctx} {i rows e bnd t k} {a q : Nat} : At rows a (cl t.ans (nms Γ) a q).1 → Qok C.items q (cl t.ans (nms Γ) a q).2 → Alive Γ t.ans → t.once k = true → e.find k = some (.kept i) → Ev C N (some i) rows a Γ e bnd [] t []
end
end TM
/-! TR3: the runner's steps over data. -/
namespace TM
open DL
mutual
theorem VR.up {C : Cd} {N M : Nat} (w : N ≤ M) : ∀ {v : Val} {d : D}, VR C N v d → VR C M v d
  | _, _, .int => .int
  | _, _, .bool => .bool
  | _, _, .unit => .unit
  | _, _, .pair a b => .pair (a.up w) (b.up w)
  | _, _, .fn e h a => .fn (e.up w) h a
  | _, _, .rc n e h a => .rc n (e.up w) h a
  | _, _, .kept s n k => .kept (s.up w) n k
theorem EB.up {C : Cd} {N M : Nat} (w : N ≤ M) : ∀ {Γ : Ctx} {e : Env} {b : D}, EB C N Γ e b → EB C M Γ e b
  | _, _, _, .nil => .nil
  | _, _, _, .cons v e => .cons (v.up w) (e.up w)
  | _, _, _, .dead e => .dead (e.up w)
theorem SG.up {C : Cd} {N M : Nat} (w : N ≤ M) : ∀ {m : Option (List Fr)} {ps : List Pc} {fs : List Fr}, SG C N m ps fs → SG C M m ps fs
  | _, _, _, .nil => .nil
  | _, _, _, .bot => .bot
  | _, _, _, .frame l k s => .frame (Nat.lt_of_lt_of_le l w) (k.up w) (s.up w)
  | _, _, _, .han e h a q c t s => .han (e.up w) h a q c t (s.up w)
  | _, _, _, .place s n k t r => .place (s.up w) n k t (r.up w)
theorem KR.up {C : Cd} {N M : Nat} (w : N ≤ M) : ∀ {m : Option (List Fr)} {rows : List Row} {a : Nat} {b : D} {ops : List D} {fs : List Fr}, KR C N m rows a b ops fs → KR C M m rows a b ops fs
  | _, _, _, _, _, _, .ret h t => .ret h t
  | _, _, _, _, _, _, .unbind h k => .unbind h (k.up w)
  | _, _, _, _, _, _, .jump h l n k => .jump h l n (k.up w)
  | _, _, _, _, _, _, .bin1 h e a q l k => .bin1 h (e.up w) a q l (k.up w)
  | _, _, _, _, _, _, .bin2 h a v k => .bin2 h a (v.up w) (k.up w)
  | _, _, _, _, _, _, .call1 e a q l t => .call1 (e.up w) a q l t
  | _, _, _, _, _, _, .call2 a v t => .call2 a (v.up w) t
  | _, _, _, _, _, _, .un h a k => .un h a (k.up w)
  | _, _, _, _, _, _, .lt h e k => .lt h (e.up w) fun v x => (k v x).up w
  | _, _, _, _, _, _, .ite h e k l => .ite h (e.up w) (k.up w) (l.up w)
  | _, _, _, _, _, _, .prt h e k => .prt h (e.up w) (k.up w)
theorem Ev.up {C : Cd} {N M : Nat} (w : N ≤ M) : ∀ {m : Option (List Fr)} {rows : List Row} {a : Nat} {Γ : Ctx} {e : Env} {b : D} {ops : List D} {t : Tm} {fs : List Fr}, Ev C N m rows a Γ e b ops t fs → Ev C M m rows a Γ e b ops t fs
  | _, _, _, _, _, _, _, _, _, .v h q l k => .v h q l (k.up w)
  | _, _, _, _, _, _, _, _, _, .l h q l t => .l h q l t
  | _, _, _, _, _, _, _, _, _, .p h q l t f => .p h q l t f
end
inductive Rn where
  | steps | unhandled (o : String) | val (w : D)
structure RS where
  rows : List Row
  at_ : Nat
  bnd : D
  ops : List D
  ps : List Pc
  left : Nat
  pr : List Int
  kept : Nat
  fin : Option Rn
def nthB : D → Nat → Option D
  | .tup [w, _], 0 => some w
  | .tup [_, b], n + 1 => nthB b n
  | _, _ => none
def Pc.hasOp (p : Pc) (o : String) : Bool := match p.h with
  | .tup [_, .dic cs, _] => (cs.lookup o).isSome
  | _ => false
/-- how many pieces further down the handler of an operation is -/
def look : List Pc → String → Option Nat
  | [], _ => none
  | p :: ps, o => if p.kind = 0 then none
    else if p.kind = 1 then (if p.hasOp o then some 0 else (look ps o).map (· + 1))
    else (look (ps.drop p.dist) o).map (· + (p.dist + 1))
termination_by ps => ps.length
decreasing_by all_goals (simp_wf; try omega)
/-- places stand above what they point at -/
def PlOk : List Pc → Prop
  | [] => True
  | p :: ps => (p.kind = 2 → p.dist < ps.length) ∧ (p.kind ≠ 2 → p.dist = 0) ∧ (p.kind ≠ 0 → ps ≠ []) ∧ PlOk ps
def RS.push (s : RS) (w : D) : RS := { s with at_ := s.at_ + 1, ops := w :: s.ops }
def RS.fm (s : RS) (ops : List D) : Fm := ⟨s.rows, s.at_ + 1, s.bnd, ops⟩
/-- a value is given to the pieces -/
inductive Dl (C : Cd) (s : RS) (v : D) : List Pc → Nat → RS → Prop
  | frame {p ps l fm r} : p.fms = fm :: r → Dl C s v (p :: ps) l { s with rows := fm.rows, at_ := fm.at_, bnd := fm.bnd, ops := v :: fm.ops, ps := { p with fms := r } :: ps, left := l }
  | bot {p ps l} : p.fms = [] → p.kind = 0 → Dl C s v (p :: ps) l { s with ps := p :: ps, left := l, fin := some (.val v) }
  | han {p ps l rows b cs} {a : Nat} : p.fms = [] → p.kind = 1 → p.h = .tup [.int (a : Nat), cs, b] → C.blocks[a]? = some rows → ps ≠ [] → Dl C s v (p :: ps) l { s with rows := rows, at_ := 0, bnd := .tup [v, b], ops := [], ps := ps, left := l }
  | place0 {p ps} : p.fms = [] → p.kind = 2 → Dl C s v (p :: ps) 0 { s with ps := p :: ps, left := 0, fin := some .steps }
  | place {p ps l s'} : p.fms = [] → p.kind = 2 → ps ≠ [] → Dl C s v ps l s' → Dl C s v (p :: ps) (l + 1) s'
/-- what an operator gives -/
def operD (o : String) (i j : Int) : Option D := (oper o i j).map fun v => match v with
  | .bool b => .tup [.str "bool", .bl b]
  | .int i => .tup [.str "int", .int i]
  | _ => .non
inductive RStep (C : Cd) : RS → RS → Prop
  | int {s i} : s.rows[s.at_]? = some (.int i) → RStep C s (s.push (.tup [.str "int", .int i]))
  | unit {s} : s.rows[s.at_]? = some .unit → RStep C s (s.push (.tup [.str "unit"]))
  | flag {s} {b : Bool} : s.rows[s.at_]? = some (.flag b) → RStep C s (s.push (.tup [.str "bool", .bl b]))
  | load {s i w} : s.rows[s.at_]? = some (.load i) → nthB s.bnd i = some w → RStep C s (s.push w)
  | close {s k r} : s.rows[s.at_]? = some (.close k r) → RStep C s (s.push (.tup [.str "fun", .int (k : Nat), .bl r, s.bnd]))
  | op {s o i j x y ops w} : s.rows[s.at_]? = some (.op o) → s.ops = .tup [y, .int j] :: .tup [x, .int i] :: ops → i.natAbs < 2 ^ 32 → j.natAbs < 2 ^ 32 → (∃ τ, Sg o τ) → operD o i j = some w → RStep C s { s with at_ := s.at_ + 1, ops := w :: ops }
  | pair {s u w ops} : s.rows[s.at_]? = some .pair → s.ops = w :: u :: ops → RStep C s { s with at_ := s.at_ + 1, ops := .tup [.str "pair", u, w] :: ops }
  | nt {s x ops} {b : Bool} : s.rows[s.at_]? = some .nt → s.ops = .tup [x, .bl b] :: ops → RStep C s { s with at_ := s.at_ + 1, ops := .tup [.str "bool", .bl !b] :: ops }
  | fst {s x u w ops} : s.rows[s.at_]? = some .fst → s.ops = .tup [x, u, w] :: ops → RStep C s { s with at_ := s.at_ + 1, ops := u :: ops }
  | snd {s x u w ops} : s.rows[s.at_]? = some .snd → s.ops = .tup [x, u, w] :: ops → RStep C s { s with at_ := s.at_ + 1, ops := w :: ops }
  | jump {s n} : s.rows[s.at_]? = some (.jump n) → RStep C s { s with at_ := n }
  | unbind {s w b} : s.rows[s.at_]? = some .unbind → s.bnd = .tup [w, b] → RStep C s { s with at_ := s.at_ + 1, bnd := b }
  | bind {s w ops} : s.rows[s.at_]? = some .bind → s.ops = w :: ops → RStep C s { s with at_ := s.at_ + 1, bnd := .tup [w, s.bnd], ops := ops }
  | print {s x i ops} : s.rows[s.at_]? = some .print → s.ops = .tup [x, .int i] :: ops → RStep C s { s with at_ := s.at_ + 1, ops := ops, pr := s.pr ++ [i] }
  | unless {s n x ops} {b : Bool} : s.rows[s.at_]? = some (.unless n) → s.ops = .tup [x, .bl b] :: ops → RStep C s { s with at_ := if b then s.at_ + 1 else n, ops := ops }
  | ret {s w ops s'} : s.rows[s.at_]? = some .ret → s.ops = w :: ops → Dl C { s with at_ := s.at_ + 1, ops := ops } w s.ps s.left s' → RStep C s s'
  | call0 {s u w ops} {tl : Bool} : s.rows[s.at_]? = some (if tl then .tail else .call) → s.ops = w :: u :: ops → s.left = 0 → RStep C s { s with at_ := s.at_ + 1, ops := ops, fin := some .steps }
  | callF {s p ps l b w ops rows} {k : Nat} {tl r : Bool} : s.rows[s.at_]? = some (if tl then .tail else .call) → s.ops = w :: .tup [.str "fun", .int (k : Nat), .bl r, b] :: ops → s.left = l + 1 → s.ps = p :: ps → C.blocks[k]? = some rows →
      RStep C s { s with rows := rows, at_ := 0, bnd := .tup [w, if r then .tup [.tup [.str "fun", .int (k : Nat), .bl r, b], b] else b], ops := [], ps := if tl then p :: ps else p.push (s.fm ops) :: ps, left := l }
  | callK {s p ps l w ops s'} {g : List Pc} {tl : Bool} : s.rows[s.at_]? = some (if tl then .tail else .call) → s.ops = w :: .tup [.str "kept", .tup (g.reverse.map Pc.d)] :: ops → s.left = l + 1 → s.ps = p :: ps → g ≠ [] → (∀ q ∈ g, q.kind ≠ 0) →
      PlOk (g ++ (if tl then p :: ps else p.push (s.fm ops) :: ps)) → Dl C { s with at_ := s.at_ + 1, ops := ops } w (g ++ (if tl then p :: ps else p.push (s.fm ops) :: ps)) l s' → RStep C s s'
  | ask0 {s o w ops} : s.rows[s.at_]? = some (.ask o) → s.ops = w :: ops → s.left = 0 → RStep C s { s with at_ := s.at_ + 1, ops := ops, fin := some .steps }
  | askN {s o w ops l p ps} : s.rows[s.at_]? = some (.ask o) → s.ops = w :: ops → s.left = l + 1 → s.ps = p :: ps → look (p :: ps) o = none → RStep C s { s with at_ := s.at_ + 1, ops := ops, left := l, fin := some (.unhandled o) }
  | askP {s o w ops l p ps d h cs b x rows} {k : Nat} : s.rows[s.at_]? = some (.ask o) → s.ops = w :: ops → s.left = l + 1 → s.ps = p :: ps → look (p :: ps) o = some d → (p.push (s.fm ops) :: ps)[d]? = some h → h.h = .tup [x, .dic cs, b] → cs.lookup o = some (.tup [.int (k : Nat), .bl true]) →
      C.blocks[k]? = some rows → d + 1 < (p :: ps).length → RStep C s { s with rows := rows, at_ := 0, bnd := .tup [.tup [.str "unit"], .tup [w, b]], ops := [], ps := .place (d + 1) :: p.push (s.fm ops) :: ps, left := l }
  | askK {s o w ops l p ps d h cs b x rows} {k : Nat} : s.rows[s.at_]? = some (.ask o) → s.ops = w :: ops → s.left = l + 1 → s.ps = p :: ps → look (p :: ps) o = some d → (p.push (s.fm ops) :: ps)[d]? = some h → h.h = .tup [x, .dic cs, b] → cs.lookup o = some (.tup [.int (k : Nat), .bl false]) →
      C.blocks[k]? = some rows → d + 1 < (p :: ps).length → RStep C s { s with rows := rows, at_ := 0, bnd := .tup [.tup [.str "kept", .tup (((p.push (s.fm ops) :: ps).take (d + 1)).reverse.map Pc.d)], .tup [w, b]], ops := [], ps := (p.push (s.fm ops) :: ps).drop (d + 1), left := l, kept := s.kept + 1 }
  | handle {s i a cs p ps rows} : s.rows[s.at_]? = some (.handle i a cs) → s.ps = p :: ps → C.blocks[i]? = some rows →
      RStep C s { s with rows := rows, at_ := 0, ops := [], ps := .han a cs s.bnd :: p.push (s.fm s.ops) :: ps }
end TM
/-! TR4: an expression's code goes on with its first part. -/
namespace TM
open DL
theorem nms_cons {Γ : Ctx} {x : String} {b : Bool} : nms ((x, b) :: Γ) = nms Γ ++ [x] := by simp [nms]
theorem cv_pos : ∀ (t : Tm) (Γ : List String) (a q : Nat), 1 ≤ (cv t Γ a q).1.length := by
  intro t Γ a q
  cases t <;> simp [cv] <;> omega
theorem alive_cons {Γ : Ctx} {x : String} {b : Tm} (h : ∀ y, b.fv y = true → x ≠ y → Γ.lookup y = some true) : Alive ((x, true) :: Γ) b := fun y hy => by
  rw [List.lookup_cons]
  by_cases e : y = x
  · subst e; simp
  · rw [beq_eq_false_iff_ne.mpr e]
    exact h y hy fun z => e z.symm
theorem alive_dead {Γ : Ctx} {x : String} {b : Tm} (h : ∀ y, b.fv y = true → y ≠ x ∧ Γ.lookup y = some true) : Alive ((x, false) :: Γ) b := fun y hy => by
  rw [List.lookup_cons, beq_eq_false_iff_ne.mpr (h y hy).1]
  exact (h y hy).2
theorem At.le {rows : List Row} {a : Nat} {c : List Row} (h : At rows a c) (h1 : 1 ≤ c.length) : a + c.length ≤ rows.length := by
  have : c[c.length - 1]? = some (c[c.length - 1]'(by omega)) := List.getElem?_eq_getElem (by omega)
  have := (List.getElem?_eq_some_iff.mp (h _ _ this)).1
  omega
theorem At.one {rows : List Row} {a : Nat} {r : Row} (h : rows[a]? = some r) : At rows a [r] := fun j x e => by
  cases j with
  | zero => simp at e; subst e; exact h
  | succ j => simp at e
theorem At.mk {rows : List Row} {a : Nat} {c d : List Row} (h : At rows a c) (g : At rows (a + c.length) d) : At rows a (c ++ d) := fun j r e => by
  by_cases hj : j < c.length
  · rw [List.getElem?_append_left hj] at e; exact h j r e
  · rw [List.getElem?_append_right (by omega)] at e
    have := g (j - c.length) r e
    rw [show a + c.length + (j - c.length) = a + j by omega] at this
    exact this
/-- what is not a call, a let, a choice, a print ends its block by itself -/
def Tm.plainEnd : Tm → Bool
  | .call _ _ => false | .lt _ _ _ => false | .ite _ _ _ => false | .prt _ _ => false
  | _ => true
theorem cl_plain {t : Tm} (h : t.plainEnd = true) (Γ : List String) (a q : Nat) : cl t Γ a q = ((cv t Γ a q).1 ++ [.ret], (cv t Γ a q).2) := by
  cases t <;> first | rfl | cases h
section
variable {C : Cd} {N : Nat} {m : Option (List Fr)} {rows : List Row} {a : Nat} {Γ : Ctx} {e : Env} {bnd : D} {ops : List D} {t p : Tm} {fs : List Fr}
theorem Ev.plain (h : Ev C N m rows a Γ e bnd ops t fs) (hp : t.plainEnd = true) : ∃ q, At rows a (cv t (nms Γ) a q).1 ∧ Qok C.items q (cv t (nms Γ) a q).2 ∧ Alive Γ t ∧ KR C N m rows (a + (cv t (nms Γ) a q).1.length) bnd ops fs := by
  cases h with
  | v h1 h2 h3 h4 => exact ⟨_, h1, h2, h3, h4⟩
  | @l _ _ _ _ _ _ _ _ q h1 h2 h3 h4 =>
    rw [cl_plain hp] at h1 h2
    obtain ⟨g1, g2⟩ := h1.app
    exact ⟨q, g1, h2, h3, .ret g2.cons.1 h4⟩
  | p _ _ _ h4 => cases t <;> first | (simp [Tm.plainEnd] at hp; done) | (simp [Tm.once] at h4; done)
/-- the code goes on with the first part -/
theorem Ev.into (h : Ev C N m rows a Γ e bnd ops t fs) (hE : EB C N Γ e bnd) (hf : first t = some p) (hh : ∀ e r b cs, t ≠ .han e r b cs) (hc : (∀ f b, t ≠ .call f b) ∨ ∀ k, t.once k = false) (tk : List Nat) :
    Ev C N m rows a Γ e bnd ops p (.a t e tk :: fs) := by
  have bin : ∀ {b : Tm} {r : Row} {q : Nat}, binR t = some (b, r) → (∀ y, p.fv y = true → t.fv y = true) → (∀ y, b.fv y = true → t.fv y = true) →
      cv t (nms Γ) a q = ((cv p (nms Γ) a q).1 ++ ((cv b (nms Γ) (a + (cv p (nms Γ) a q).1.length) (q + (cv p (nms Γ) a q).2.length)).1 ++ [r]), (cv p (nms Γ) a q).2 ++ (cv b (nms Γ) (a + (cv p (nms Γ) a q).1.length) (q + (cv p (nms Γ) a q).2.length)).2) →
      At rows a (cv t (nms Γ) a q).1 → Qok C.items q (cv t (nms Γ) a q).2 → Alive Γ t → KR C N m rows (a + (cv t (nms Γ) a q).1.length) bnd ops fs → Ev C N m rows a Γ e bnd ops p (.a t e tk :: fs) := by
    intro b r q hb f1 f2 ec h1 h2 h3 h4
    rw [ec] at h1 h2 h4
    obtain ⟨g1, g2⟩ := h1.app
    obtain ⟨k1, k2⟩ := h2.app
    refine .v g1 k1 (fun y hy => h3 y (f1 y hy)) (.bin1 hb hE g2 k2 (fun y hy => h3 y (f2 y hy)) ?_)
    simp only [List.length_append, List.length_singleton] at h4
    rw [show a + (cv p (nms Γ) a q).1.length + (cv b (nms Γ) (a + (cv p (nms Γ) a q).1.length) (q + (cv p (nms Γ) a q).2.length)).1.length + 1 = a + ((cv p (nms Γ) a q).1.length + ((cv b (nms Γ) (a + (cv p (nms Γ) a q).1.length) (q + (cv p (nms Γ) a q).2.length)).1.length + 1)) by omega]
    exact h4
  have un : ∀ {r : Row} {q : Nat}, unR t = some r → (∀ y, p.fv y = true → t.fv y = true) → cv t (nms Γ) a q = ((cv p (nms Γ) a q).1 ++ [r], (cv p (nms Γ) a q).2) →
      At rows a (cv t (nms Γ) a q).1 → Qok C.items q (cv t (nms Γ) a q).2 → Alive Γ t → KR C N m rows (a + (cv t (nms Γ) a q).1.length) bnd ops fs → Ev C N m rows a Γ e bnd ops p (.a t e tk :: fs) := by
    intro r q hb f1 ec h1 h2 h3 h4
    rw [ec] at h1 h2 h4
    obtain ⟨g1, g2⟩ := h1.app
    refine .v g1 h2 (fun y hy => h3 y (f1 y hy)) (.un hb g2.cons.1 ?_)
    simp only [List.length_append, List.length_singleton] at h4
    rw [Nat.add_assoc]; exact h4
  cases t with
  | num _ => cases hf
  | flag _ => cases hf
  | unit => cases hf
  | name _ => cases hf
  | fn _ _ => cases hf
  | rc _ _ _ => cases hf
  | han e0 r b cs => exact absurd rfl (hh _ _ _ _)
  | op s u b =>
    cases hf
    obtain ⟨q, h1, h2, h3, h4⟩ := h.plain rfl
    exact bin rfl (fun y hy => by simp [Tm.fv, hy]) (fun y hy => by simp [Tm.fv, hy]) rfl h1 h2 h3 h4
  | pair u b =>
    cases hf
    obtain ⟨q, h1, h2, h3, h4⟩ := h.plain rfl
    exact bin rfl (fun y hy => by simp [Tm.fv, hy]) (fun y hy => by simp [Tm.fv, hy]) rfl h1 h2 h3 h4
  | ask o u =>
    cases hf
    obtain ⟨q, h1, h2, h3, h4⟩ := h.plain rfl
    exact un rfl (fun y hy => by simp [Tm.fv, hy]) rfl h1 h2 h3 h4
  | fst u =>
    cases hf
    obtain ⟨q, h1, h2, h3, h4⟩ := h.plain rfl
    exact un rfl (fun y hy => by simp [Tm.fv, hy]) rfl h1 h2 h3 h4
  | snd u =>
    cases hf
    obtain ⟨q, h1, h2, h3, h4⟩ := h.plain rfl
    exact un rfl (fun y hy => by simp [Tm.fv, hy]) rfl h1 h2 h3 h4
  | nt u =>
    cases hf
    obtain ⟨q, h1, h2, h3, h4⟩ := h.plain rfl
    exact un rfl (fun y hy => by simp [Tm.fv, hy]) rfl h1 h2 h3 h4
  | call u b =>
    cases hf
    cases h with
    | v h1 h2 h3 h4 => exact bin rfl (fun y hy => by simp [Tm.fv, hy]) (fun y hy => by simp [Tm.fv, hy]) rfl h1 h2 h3 h4
    | @l _ _ _ _ _ _ _ _ q h1 h2 h3 h4 =>
      have ec : cl (.call p b) (nms Γ) a q = ((cv p (nms Γ) a q).1 ++ ((cv b (nms Γ) (a + (cv p (nms Γ) a q).1.length) (q + (cv p (nms Γ) a q).2.length)).1 ++ [.tail]), (cv p (nms Γ) a q).2 ++ (cv b (nms Γ) (a + (cv p (nms Γ) a q).1.length) (q + (cv p (nms Γ) a q).2.length)).2) := rfl
      rw [ec] at h1 h2
      obtain ⟨g1, g2⟩ := h1.app
      obtain ⟨k1, k2⟩ := h2.app
      exact .v g1 k1 (fun y hy => h3 y (by simp [Tm.fv, hy])) (.call1 hE g2 k2 (fun y hy => h3 y (by simp [Tm.fv, hy])) h4)
    | p _ _ _ h4 _ =>
      rcases hc with hc | hc
      · exact absurd rfl (hc _ _)
      · rw [hc] at h4; cases h4
  | lt x u b =>
    cases hf
    have fa : Alive Γ (.lt x p b) → Alive Γ p ∧ Alive ((x, true) :: Γ) b := fun h => ⟨fun y hy => h y (by simp [Tm.fv, hy]), alive_cons fun y hy hne => h y (by simp [Tm.fv, hy, hne])⟩
    cases h with
    | @v _ _ _ _ _ _ _ _ _ q h1 h2 h3 h4 =>
      have ec : cv (.lt x p b) (nms Γ) a q = ((cv p (nms Γ) a q).1 ++ (.bind :: ((cv b (nms Γ ++ [x]) (a + (cv p (nms Γ) a q).1.length + 1) (q + (cv p (nms Γ) a q).2.length)).1 ++ [.unbind])), (cv p (nms Γ) a q).2 ++ (cv b (nms Γ ++ [x]) (a + (cv p (nms Γ) a q).1.length + 1) (q + (cv p (nms Γ) a q).2.length)).2) := rfl
      rw [ec] at h1 h2 h4
      obtain ⟨g1, g2⟩ := h1.app
      obtain ⟨g2, g3⟩ := g2.cons
      obtain ⟨g3, g4⟩ := g3.app
      obtain ⟨k1, k2⟩ := h2.app
      have h3 := fa h3
      refine .v g1 k1 h3.1 (.lt g2 hE fun v w => ?_)
      rw [← nms_cons (b := true)] at g3 k2 g4 h4
      refine .v g3 k2 h3.2 (.unbind g4.cons.1 ?_)
      simp only [List.length_append, List.length_cons, List.length_nil] at h4
      rw [show a + (cv p (nms Γ) a q).1.length + 1 + (cv b (nms ((x, true) :: Γ)) (a + (cv p (nms Γ) a q).1.length + 1) (q + (cv p (nms Γ) a q).2.length)).1.length + 1 = a + ((cv p (nms Γ) a q).1.length + ((cv b (nms ((x, true) :: Γ)) (a + (cv p (nms Γ) a q).1.length + 1) (q + (cv p (nms Γ) a q).2.length)).1.length + (0 + 1) + 1)) by omega]
      exact h4
    | @l _ _ _ _ _ _ _ _ q h1 h2 h3 h4 =>
      have ec : cl (.lt x p b) (nms Γ) a q = ((cv p (nms Γ) a q).1 ++ (.bind :: (cl b (nms Γ ++ [x]) (a + (cv p (nms Γ) a q).1.length + 1) (q + (cv p (nms Γ) a q).2.length)).1), (cv p (nms Γ) a q).2 ++ (cl b (nms Γ ++ [x]) (a + (cv p (nms Γ) a q).1.length + 1) (q + (cv p (nms Γ) a q).2.length)).2) := rfl
      rw [ec] at h1 h2
      obtain ⟨g1, g2⟩ := h1.app
      obtain ⟨g2, g3⟩ := g2.cons
      obtain ⟨k1, k2⟩ := h2.app
      have h3 := fa h3
      refine .v g1 k1 h3.1 (.lt g2 hE fun v w => ?_)
      rw [← nms_cons (b := true)] at g3 k2
      exact .l g3 k2 h3.2 h4
    | @p _ i _ _ _ _ k _ q h1 h2 h3 h4 h5 =>
      have ec : cl (Tm.lt x p b).ans (nms Γ) a q = ((cv p (nms Γ) a q).1 ++ (.bind :: (cl b.ans (nms Γ ++ [x]) (a + (cv p (nms Γ) a q).1.length + 1) (q + (cv p (nms Γ) a q).2.length)).1), (cv p (nms Γ) a q).2 ++ (cl b.ans (nms Γ ++ [x]) (a + (cv p (nms Γ) a q).1.length + 1) (q + (cv p (nms Γ) a q).2.length)).2) := rfl
      rw [ec] at h1 h2
      obtain ⟨g1, g2⟩ := h1.app
      obtain ⟨g2, g3⟩ := g2.cons
      obtain ⟨k1, k2⟩ := h2.app
      simp only [Tm.once, Bool.and_eq_true, Bool.not_eq_true', decide_eq_true_eq] at h4
      refine .v g1 k1 (fun y hy => h3 y (by simp [Tm.ans, Tm.fv, hy])) (.lt g2 hE fun v w => ?_)
      rw [← nms_cons (b := true)] at g3 k2
      refine .p g3 k2 (alive_cons fun y hy hne => h3 y (by simp [Tm.ans, Tm.fv, hy, hne])) h4.2.2 ?_
      rw [Env.find, if_neg h4.2.1]
      exact h5
  | prt u b =>
    cases hf
    cases h with
    | @v _ _ _ _ _ _ _ _ _ q h1 h2 h3 h4 =>
      have ec : cv (.prt p b) (nms Γ) a q = ((cv p (nms Γ) a q).1 ++ (.print :: (cv b (nms Γ) (a + (cv p (nms Γ) a q).1.length + 1) (q + (cv p (nms Γ) a q).2.length)).1), (cv p (nms Γ) a q).2 ++ (cv b (nms Γ) (a + (cv p (nms Γ) a q).1.length + 1) (q + (cv p (nms Γ) a q).2.length)).2) := rfl
      rw [ec] at h1 h2 h4
      obtain ⟨g1, g2⟩ := h1.app
      obtain ⟨g2, g3⟩ := g2.cons
      obtain ⟨k1, k2⟩ := h2.app
      refine .v g1 k1 (fun y hy => h3 y (by simp [Tm.fv, hy])) (.prt g2 hE (.v g3 k2 (fun y hy => h3 y (by simp [Tm.fv, hy])) ?_))
      simp only [List.length_append, List.length_cons] at h4
      rw [show a + (cv p (nms Γ) a q).1.length + 1 + (cv b (nms Γ) (a + (cv p (nms Γ) a q).1.length + 1) (q + (cv p (nms Γ) a q).2.length)).1.length = a + ((cv p (nms Γ) a q).1.length + ((cv b (nms Γ) (a + (cv p (nms Γ) a q).1.length + 1) (q + (cv p (nms Γ) a q).2.length)).1.length + 1)) by omega]
      exact h4
    | @l _ _ _ _ _ _ _ _ q h1 h2 h3 h4 =>
      have ec : cl (.prt p b) (nms Γ) a q = ((cv p (nms Γ) a q).1 ++ (.print :: (cl b (nms Γ) (a + (cv p (nms Γ) a q).1.length + 1) (q + (cv p (nms Γ) a q).2.length)).1), (cv p (nms Γ) a q).2 ++ (cl b (nms Γ) (a + (cv p (nms Γ) a q).1.length + 1) (q + (cv p (nms Γ) a q).2.length)).2) := rfl
      rw [ec] at h1 h2
      obtain ⟨g1, g2⟩ := h1.app
      obtain ⟨g2, g3⟩ := g2.cons
      obtain ⟨k1, k2⟩ := h2.app
      exact .v g1 k1 (fun y hy => h3 y (by simp [Tm.fv, hy])) (.prt g2 hE (.l g3 k2 (fun y hy => h3 y (by simp [Tm.fv, hy])) h4))
    | @p _ i _ _ _ _ k _ q h1 h2 h3 h4 h5 =>
      have ec : cl (Tm.prt p b).ans (nms Γ) a q = ((cv p (nms Γ) a q).1 ++ (.print :: (cl b.ans (nms Γ) (a + (cv p (nms Γ) a q).1.length + 1) (q + (cv p (nms Γ) a q).2.length)).1), (cv p (nms Γ) a q).2 ++ (cl b.ans (nms Γ) (a + (cv p (nms Γ) a q).1.length + 1) (q + (cv p (nms Γ) a q).2.length)).2) := rfl
      rw [ec] at h1 h2
      obtain ⟨g1, g2⟩ := h1.app
      obtain ⟨g2, g3⟩ := g2.cons
      obtain ⟨k1, k2⟩ := h2.app
      simp only [Tm.once, Bool.and_eq_true, Bool.not_eq_true'] at h4
      exact .v g1 k1 (fun y hy => h3 y (by simp [Tm.ans, Tm.fv, hy])) (.prt g2 hE (.p g3 k2 (fun y hy => h3 y (by simp [Tm.ans, Tm.fv, hy])) h4.2 h5))
  | ite u b c =>
    cases hf
    cases h with
    | @v _ _ _ _ _ _ _ _ _ q h1 h2 h3 h4 =>
      generalize e1 : cv p (nms Γ) a q = c1 at *
      generalize e2 : cv b (nms Γ) (a + c1.1.length + 1) (q + c1.2.length) = c2 at *
      generalize e3 : cv c (nms Γ) (a + c1.1.length + 1 + c2.1.length + 1) (q + c1.2.length + c2.2.length) = c3 at *
      have ec : cv (.ite p b c) (nms Γ) a q = (c1.1 ++ (.unless (a + c1.1.length + 1 + c2.1.length + 1) :: (c2.1 ++ (.jump (a + c1.1.length + 1 + c2.1.length + 1 + c3.1.length) :: c3.1))), c1.2 ++ (c2.2 ++ c3.2)) := by
        simp only [cv, e1, e2, e3]
      rw [ec] at h1 h2 h4
      obtain ⟨g1, g2⟩ := h1.app
      obtain ⟨g2, g3⟩ := g2.cons
      obtain ⟨g3, g4⟩ := g3.app
      obtain ⟨g4, g5⟩ := g4.cons
      obtain ⟨k1, k2⟩ := h2.app
      obtain ⟨k2, k3⟩ := k2.app
      have hp3 := cv_pos c (nms Γ) (a + c1.1.length + 1 + c2.1.length + 1) (q + c1.2.length + c2.2.length)
      rw [e3] at hp3
      have hle := g5.le hp3
      simp only [List.length_append, List.length_cons] at h4
      rw [show a + (c1.1.length + (c2.1.length + (c3.1.length + 1) + 1)) = a + c1.1.length + 1 + c2.1.length + 1 + c3.1.length by omega] at h4
      subst e1
      refine .v g1 k1 (fun y hy => h3 y (by simp [Tm.fv, hy])) (.ite g2 hE ?_ ?_)
      · subst e2
        exact .v g3 k2 (fun y hy => h3 y (by simp [Tm.fv, hy])) (.jump g4 (by omega) hle h4)
      · subst e3
        exact .v g5 k3 (fun y hy => h3 y (by simp [Tm.fv, hy])) h4
    | @l _ _ _ _ _ _ _ _ q h1 h2 h3 h4 =>
      generalize e1 : cv p (nms Γ) a q = c1 at *
      generalize e2 : cl b (nms Γ) (a + c1.1.length + 1) (q + c1.2.length) = c2 at *
      generalize e3 : cl c (nms Γ) (a + c1.1.length + 1 + c2.1.length) (q + c1.2.length + c2.2.length) = c3 at *
      have ec : cl (.ite p b c) (nms Γ) a q = (c1.1 ++ (.unless (a + c1.1.length + 1 + c2.1.length) :: (c2.1 ++ c3.1)), c1.2 ++ (c2.2 ++ c3.2)) := by
        simp only [cl, e1, e2, e3]
      rw [ec] at h1 h2
      obtain ⟨g1, g2⟩ := h1.app
      obtain ⟨g2, g3⟩ := g2.cons
      obtain ⟨g3, g4⟩ := g3.app
      obtain ⟨k1, k2⟩ := h2.app
      obtain ⟨k2, k3⟩ := k2.app
      subst e1
      refine .v g1 k1 (fun y hy => h3 y (by simp [Tm.fv, hy])) (.ite g2 hE ?_ ?_)
      · subst e2
        exact .l g3 k2 (fun y hy => h3 y (by simp [Tm.fv, hy])) h4
      · subst e3
        exact .l g4 k3 (fun y hy => h3 y (by simp [Tm.fv, hy])) h4
    | @p _ i _ _ _ _ k _ q h1 h2 h3 h4 h5 =>
      simp only [Tm.once, Bool.and_eq_true, Bool.not_eq_true'] at h4
      generalize e1 : cv p (nms Γ) a q = c1 at *
      generalize e2 : cl b.ans (nms Γ) (a + c1.1.length + 1) (q + c1.2.length) = c2 at *
      generalize e3 : cl c.ans (nms Γ) (a + c1.1.length + 1 + c2.1.length) (q + c1.2.length + c2.2.length) = c3 at *
      have ec : cl (Tm.ite p b c).ans (nms Γ) a q = (c1.1 ++ (.unless (a + c1.1.length + 1 + c2.1.length) :: (c2.1 ++ c3.1)), c1.2 ++ (c2.2 ++ c3.2)) := by
        simp only [Tm.ans, cl, e1, e2, e3]
      rw [ec] at h1 h2
      obtain ⟨g1, g2⟩ := h1.app
      obtain ⟨g2, g3⟩ := g2.cons
      obtain ⟨g3, g4⟩ := g3.app
      obtain ⟨k1, k2⟩ := h2.app
      obtain ⟨k2, k3⟩ := k2.app
      subst e1
      refine .v g1 k1 (fun y hy => h3 y (by simp [Tm.ans, Tm.fv, hy])) (.ite g2 hE ?_ ?_)
      · subst e2
        exact .p g3 k2 (fun y hy => h3 y (by simp [Tm.ans, Tm.fv, hy])) h4.2.1 h5
      · subst e3
        exact .p g4 k3 (fun y hy => h3 y (by simp [Tm.ans, Tm.fv, hy])) h4.2.2 h5
theorem Ev.intoV {f b : Tm} {q : Nat} (h1 : At rows a (cv (.call f b) (nms Γ) a q).1) (h2 : Qok C.items q (cv (.call f b) (nms Γ) a q).2) (h3 : Alive Γ (.call f b)) (h4 : KR C N m rows (a + (cv (.call f b) (nms Γ) a q).1.length) bnd ops fs) (hE : EB C N Γ e bnd) (tk : List Nat) :
    Ev C N m rows a Γ e bnd ops f (.a (.call f b) e tk :: fs) := by
  have ec : cv (.call f b) (nms Γ) a q = ((cv f (nms Γ) a q).1 ++ ((cv b (nms Γ) (a + (cv f (nms Γ) a q).1.length) (q + (cv f (nms Γ) a q).2.length)).1 ++ [.call]), (cv f (nms Γ) a q).2 ++ (cv b (nms Γ) (a + (cv f (nms Γ) a q).1.length) (q + (cv f (nms Γ) a q).2.length)).2) := rfl
  rw [ec] at h1 h2 h4
  obtain ⟨g1, g2⟩ := h1.app
  obtain ⟨k1, k2⟩ := h2.app
  refine .v g1 k1 (fun y hy => h3 y (by simp [Tm.fv, hy])) (.bin1 rfl hE g2 k2 (fun y hy => h3 y (by simp [Tm.fv, hy])) ?_)
  simp only [List.length_append, List.length_singleton] at h4
  rw [show a + (cv f (nms Γ) a q).1.length + (cv b (nms Γ) (a + (cv f (nms Γ) a q).1.length) (q + (cv f (nms Γ) a q).2.length)).1.length + 1 = a + ((cv f (nms Γ) a q).1.length + ((cv b (nms Γ) (a + (cv f (nms Γ) a q).1.length) (q + (cv f (nms Γ) a q).2.length)).1.length + 1)) by omega]
  exact h4
theorem Ev.intoL {f b : Tm} {q : Nat} (h1 : At rows a (cl (.call f b) (nms Γ) a q).1) (h2 : Qok C.items q (cl (.call f b) (nms Γ) a q).2) (h3 : Alive Γ (.call f b)) (h4 : Tl m fs) (hE : EB C N Γ e bnd) (tk : List Nat) :
    Ev C N m rows a Γ e bnd [] f (.a (.call f b) e tk :: fs) := by
  have ec : cl (.call f b) (nms Γ) a q = ((cv f (nms Γ) a q).1 ++ ((cv b (nms Γ) (a + (cv f (nms Γ) a q).1.length) (q + (cv f (nms Γ) a q).2.length)).1 ++ [.tail]), (cv f (nms Γ) a q).2 ++ (cv b (nms Γ) (a + (cv f (nms Γ) a q).1.length) (q + (cv f (nms Γ) a q).2.length)).2) := rfl
  rw [ec] at h1 h2
  obtain ⟨g1, g2⟩ := h1.app
  obtain ⟨k1, k2⟩ := h2.app
  exact .v g1 k1 (fun y hy => h3 y (by simp [Tm.fv, hy])) (.call1 hE g2 k2 (fun y hy => h3 y (by simp [Tm.fv, hy])) h4)
end
end TM
/-! TR5: pieces one upon another; where the handler stands. -/
namespace TM
open DL
section
variable {C : Cd} {N : Nat}
mutual
theorem KR.afterX {m : Option (List Fr)} {f : List Fr} (ht : Tl m f) : ∀ {m0 : Option (List Fr)} {rows : List Row} {a : Nat} {b : D} {ops : List D} {fs : List Fr}, KR C N m0 rows a b ops fs → m0 = none → KR C N m rows a b ops (fs ++ f)
  | _, _, _, _, _, _, .ret h t, z => by subst z; cases t; exact .ret h ht
  | _, _, _, _, _, _, .unbind h k, z => .unbind h (k.afterX ht z)
  | _, _, _, _, _, _, .jump h l n k, z => .jump h l n (k.afterX ht z)
  | _, _, _, _, _, _, .bin1 h e a q l k, z => .bin1 h e a q l (k.afterX ht z)
  | _, _, _, _, _, _, .bin2 h a v k, z => .bin2 h a v (k.afterX ht z)
  | _, _, _, _, _, _, .call1 e a q l t, z => by subst z; cases t; exact .call1 e a q l ht
  | _, _, _, _, _, _, .call2 a v t, z => by subst z; cases t; exact .call2 a v ht
  | _, _, _, _, _, _, .un h a k, z => .un h a (k.afterX ht z)
  | _, _, _, _, _, _, .lt h e k, z => .lt h e fun v x => (k v x).afterX ht z
  | _, _, _, _, _, _, .ite h e k l, z => .ite h e (k.afterX ht z) (l.afterX ht z)
  | _, _, _, _, _, _, .prt h e k, z => .prt h e (k.afterX ht z)
theorem Ev.afterX {m : Option (List Fr)} {f : List Fr} (ht : Tl m f) : ∀ {m0 : Option (List Fr)} {rows : List Row} {a : Nat} {Γ : Ctx} {e : Env} {b : D} {ops : List D} {t : Tm} {fs : List Fr}, Ev C N m0 rows a Γ e b ops t fs → m0 = none → Ev C N m rows a Γ e b ops t (fs ++ f)
  | _, _, _, _, _, _, _, _, _, .v h q l k, z => .v h q l (k.afterX ht z)
  | _, _, _, _, _, _, _, _, _, .l h q l t, z => by subst z; cases t; exact .l h q l ht
  | _, _, _, _, _, _, _, _, _, .p .., z => by cases z
end
/-- a block that ends plainly, with the call of a resumption behind it -/
theorem KR.after {m : Option (List Fr)} {f : List Fr} (ht : Tl m f) {rows : List Row} {a : Nat} {b : D} {ops : List D} {fs : List Fr} (k : KR C N none rows a b ops fs) : KR C N m rows a b ops (fs ++ f) := k.afterX ht rfl
theorem SG.len : ∀ {m : Option (List Fr)} {ps : List Pc} {fs : List Fr}, SG C N m ps fs → ∀ p ∈ ps, p.fms.length ≤ N
  | _, _, _, .nil, p, hp => by cases hp
  | _, _, _, .bot, p, hp => by simp at hp; subst hp; exact Nat.zero_le _
  | _, _, _, .frame (p := q) l _ s, p, hp => by
    rcases List.mem_cons.mp hp with rfl | hp
    · show q.fms.length + 1 ≤ N; omega
    · exact s.len p (List.mem_cons_of_mem _ hp)
  | _, _, _, .han _ _ _ _ _ _ s, p, hp => by
    rcases List.mem_cons.mp hp with rfl | hp
    · exact Nat.zero_le _
    · exact s.len p hp
  | _, _, _, .place s _ _ _ r, p, hp => by
    rcases List.mem_cons.mp hp with rfl | hp
    · exact Nat.zero_le _
    · rcases List.mem_append.mp hp with hp | hp
      · exact s.len p hp
      · exact r.len p hp
/-- pieces upon pieces -/
theorem SG.app {m' : Option (List Fr)} {ps : List Pc} {f1 f2 : List Fr} (ht : Tl m' f1) (hs : SG C N m' ps f2) : ∀ {m : Option (List Fr)} {g : List Pc} {i : List Fr}, SG C N m g i → (∀ p ∈ g, p.kind ≠ 0) →
    (m = none → ∃ m2 f3 f4, Tl m2 f3 ∧ SG C N m2 (g ++ ps) f4 ∧ i ++ (f1 ++ f2) = f3 ++ f4 ∧ (g ≠ [] → m2 = none)) ∧ ∀ j, m = some j → SG C N (some j) (g ++ ps) (i ++ (f1 ++ f2))
  | _, _, _, .nil, _ => ⟨fun _ => ⟨m', f1, f2, ht, hs, rfl, fun z => absurd rfl z⟩, fun j z => by cases z⟩
  | _, _, _, .bot, hk => absurd rfl (hk _ List.mem_cons_self)
  | _, _, _, .frame (m := m) (fm := fm) (p := p) (ps := ps0) (fs1 := fs1) (fs2 := fs2) l k s, hk => by
    refine ⟨fun _ => ?_, fun j z => by cases z⟩
    have hk' : ∀ q ∈ p :: ps0, q.kind ≠ 0 := fun q hq => by
      rcases List.mem_cons.mp hq with rfl | hq
      · exact hk (q.push fm) List.mem_cons_self
      · exact hk q (List.mem_cons_of_mem _ hq)
    obtain ⟨i1, i2⟩ := SG.app ht hs s hk'
    cases m with
    | none =>
      obtain ⟨m2, f3, f4, t3, s4, e, _⟩ := i1 rfl
      refine ⟨none, [], _, rfl, .frame l (k.after t3) s4, ?_, fun _ => rfl⟩
      rw [List.append_assoc, e]; simp
    | some j =>
      refine ⟨none, [], _, rfl, .frame l k (i2 j rfl), ?_, fun _ => rfl⟩
      simp
  | _, _, _, .han (m := m) (e0 := e0) (tk := tk) (fs1 := fs1) (fs2 := fs2) e h a q c t s, hk => by
    refine ⟨fun _ => ?_, fun j z => by cases z⟩
    obtain ⟨i1, i2⟩ := SG.app ht hs s fun q hq => hk q (List.mem_cons_of_mem _ hq)
    cases m with
    | none =>
      cases t
      obtain ⟨m2, f3, f4, t3, s4, e4, _⟩ := i1 rfl
      refine ⟨none, [], _, rfl, .han (e0 := e0) (tk := tk) e h a q c t3 s4, ?_, fun _ => rfl⟩
      simp [e4]
    | some j =>
      refine ⟨none, [], _, rfl, .han (e0 := e0) (tk := tk) e h a q c t (i2 j rfl), ?_, fun _ => rfl⟩
      simp
  | _, _, _, .place (m := m) (ps1 := ps1) (ps2 := ps2) (i := i) (fs1 := fs1) (fs2 := fs2) s n k t r, hk => by
    refine ⟨fun z => (by cases z), fun j z => ?_⟩
    cases z
    obtain ⟨i1, i2⟩ := SG.app ht hs r fun q hq => hk q (List.mem_cons_of_mem _ (List.mem_append_right _ hq))
    cases m with
    | none =>
      cases t
      obtain ⟨m2, f3, f4, t3, s4, e4, _⟩ := i1 rfl
      have := SG.place s n k t3 s4
      rw [← e4] at this
      simpa using this
    | some j =>
      have := SG.place s n k t (i2 j rfl)
      simpa using this
theorem EB.nth : ∀ {Γ : Ctx} {e : Env} {b : D}, EB C N Γ e b → ∀ {x : String}, Γ.lookup x = some true → ∃ v w, e.find x = some v ∧ nthB b ((nms Γ).reverse.idxOf x) = some w ∧ VR C N v w
  | _, _, _, .nil, _, h => by cases h
  | _, _, _, .cons (Γ := Γ) (x := y) (v := v) (w := w) hv he, x, h => by
    rw [List.lookup_cons] at h
    rw [nms_cons, List.reverse_append, List.reverse_singleton, List.singleton_append, List.idxOf_cons]
    by_cases c : x = y
    · subst c
      exact ⟨v, w, by simp [Env.find], by simp [nthB], hv⟩
    · rw [beq_eq_false_iff_ne.mpr c] at h
      obtain ⟨v', w', h1, h2, h3⟩ := he.nth h
      refine ⟨v', w', by rw [Env.find, if_neg fun z => c z.symm]; exact h1, ?_, h3⟩
      rw [beq_eq_false_iff_ne.mpr fun z => c z.symm]
      exact h2
  | _, _, _, .dead (Γ := Γ) (x := y) (v := v) (w := w) he, x, h => by
    rw [List.lookup_cons] at h
    rw [nms_cons, List.reverse_append, List.reverse_singleton, List.singleton_append, List.idxOf_cons]
    by_cases c : x = y
    · subst c
      simp at h
    · rw [beq_eq_false_iff_ne.mpr c] at h
      obtain ⟨v', w', h1, h2, h3⟩ := he.nth h
      refine ⟨v', w', by rw [Env.find, if_neg fun z => c z.symm]; exact h1, ?_, h3⟩
      rw [beq_eq_false_iff_ne.mpr fun z => c z.symm]
      exact h2
/-- pieces of a segment stand well on what is below -/
theorem PlOk.app {ps : List Pc} (hp : PlOk ps) (hne : ps ≠ []) : ∀ {m : Option (List Fr)} {g : List Pc} {i : List Fr}, SG C N m g i → (∀ p ∈ g, p.kind ≠ 0) → PlOk (g ++ ps)
  | _, _, _, .nil, _ => hp
  | _, _, _, .bot, hk => absurd rfl (hk _ List.mem_cons_self)
  | _, _, _, .frame (fm := fm) (p := p) (ps := ps0) l k s, hk => by
    have hk' : ∀ q ∈ p :: ps0, q.kind ≠ 0 := fun q hq => by
      rcases List.mem_cons.mp hq with rfl | hq
      · exact hk (q.push fm) List.mem_cons_self
      · exact hk q (List.mem_cons_of_mem _ hq)
    have z : PlOk (p :: (ps0 ++ ps)) := PlOk.app hp hne s hk'
    exact ⟨z.1, z.2.1, z.2.2.1, z.2.2.2⟩
  | _, _, _, .han (ps := ps0) e h a q c t s, hk => by
    refine ⟨fun z => (by cases z), fun _ => rfl, fun _ z => ?_, PlOk.app hp hne s fun q hq => hk q (List.mem_cons_of_mem _ hq)⟩
    exact hne (List.append_eq_nil_iff.mp z).2
  | _, _, _, .place (ps1 := ps1) (ps2 := ps2) s n k t r, hk => by
    have i2 := PlOk.app hp hne r fun q hq => hk q (List.mem_cons_of_mem _ (List.mem_append_right _ hq))
    have hne2 : ps2 ++ ps ≠ [] := fun z => hne (List.append_eq_nil_iff.mp z).2
    have i1 := PlOk.app i2 hne2 s k
    rw [List.cons_append, List.append_assoc]
    refine ⟨fun _ => ?_, fun z => absurd rfl z, fun _ z => hne2 (List.append_eq_nil_iff.mp z).2, i1⟩
    show ps1.length < (ps1 ++ (ps2 ++ ps)).length
    rw [List.length_append]
    have : 0 < (ps2 ++ ps).length := List.length_pos_iff.mpr hne2
    omega
end
end TM
/-! TR6: handlers are found where the meaning finds them; values are delivered. -/
namespace TM
open DL
section
variable {C : Cd} {N : Nat}
def Fr.han : Fr → Bool
  | .a (.han _ _ _ _) _ _ => true
  | _ => false
mutual
theorem KR.nohan : ∀ {m : Option (List Fr)} {rows : List Row} {a : Nat} {b : D} {ops : List D} {fs : List Fr}, KR C N m rows a b ops fs → ∀ f ∈ fs, f.han = false
  | m, _, _, _, _, _, .ret h t, f, hf => Tl.nohan t f hf
  | _, _, _, _, _, _, .unbind h k, f, hf => k.nohan f hf
  | _, _, _, _, _, _, .jump h l n k, f, hf => k.nohan f hf
  | _, _, _, _, _, _, .bin1 (t := t) h e a q l k, f, hf => by
    rcases List.mem_cons.mp hf with rfl | hf
    · cases t <;> first | rfl | cases h
    · exact k.nohan f hf
  | _, _, _, _, _, _, .bin2 h a v k, f, hf => by
    rcases List.mem_cons.mp hf with rfl | hf
    · rfl
    · exact k.nohan f hf
  | _, _, _, _, _, _, .call1 e a q l t, f, hf => by
    rcases List.mem_cons.mp hf with rfl | hf
    · rfl
    · exact Tl.nohan t f hf
  | _, _, _, _, _, _, .call2 a v t, f, hf => by
    rcases List.mem_cons.mp hf with rfl | hf
    · rfl
    · exact Tl.nohan t f hf
  | _, _, _, _, _, _, .un (t := t) h a k, f, hf => by
    rcases List.mem_cons.mp hf with rfl | hf
    · cases t <;> first | rfl | cases h
    · exact k.nohan f hf
  | _, _, _, _, _, _, .lt h e k, f, hf => by
    rcases List.mem_cons.mp hf with rfl | hf
    · rfl
    · exact (k .unit .non).nohan f hf
  | _, _, _, _, _, _, .ite h e k l, f, hf => by
    rcases List.mem_cons.mp hf with rfl | hf
    · rfl
    · exact k.nohan f hf
  | _, _, _, _, _, _, .prt h e k, f, hf => by
    rcases List.mem_cons.mp hf with rfl | hf
    · rfl
    · exact k.nohan f hf
theorem Ev.nohan : ∀ {m : Option (List Fr)} {rows : List Row} {a : Nat} {Γ : Ctx} {e : Env} {b : D} {ops : List D} {t : Tm} {fs : List Fr}, Ev C N m rows a Γ e b ops t fs → ∀ f ∈ fs, f.han = false
  | _, _, _, _, _, _, _, _, _, .v h q l k, f, hf => k.nohan f hf
  | _, _, _, _, _, _, _, _, _, .l h q l t, f, hf => Tl.nohan t f hf
  | _, _, _, _, _, _, _, _, _, .p .., f, hf => by cases hf
theorem Tl.nohan : ∀ {m : Option (List Fr)} {fs : List Fr}, Tl m fs → ∀ f ∈ fs, f.han = false
  | none, _, h, f, hf => by cases h; cases hf
  | some i, _, ⟨k, t, e, tk, h⟩, f, hf => by subst h; simp at hf; subst hf; rfl
end
theorem split_skip {o : String} : ∀ {fs1 fs2 : List Fr}, (∀ f ∈ fs1, f.han = false) → split o (fs1 ++ fs2) = (split o fs2).map fun z => (fs1 ++ z.1, z.2)
  | [], fs2, _ => by rw [List.nil_append]; cases split o fs2 <;> rfl
  | f :: fs1, fs2, h => by
    have ih := split_skip (o := o) (fs1 := fs1) (fs2 := fs2) fun g hg => h g (List.mem_cons_of_mem _ hg)
    have other : split o (f :: (fs1 ++ fs2)) = match split o (fs1 ++ fs2) with
        | some (i, e', c, out) => some (f :: i, e', c, out)
        | none => none := by
      have hf := h f List.mem_cons_self
      cases f with
      | b t e v k => rfl
      | a t e k => cases t <;> first | rfl | cases hf
    rw [List.cons_append, other, ih]
    cases split o fs2 with
    | none => rfl
    | some z => rfl
theorem cs_look {o : String} {Γ : List String} : ∀ (cs : Cls) (q : Nat), (cs.find o = none → (clsD (cs.rows q)).lookup o = none) ∧
    ∀ x k b, cs.find o = some (x, k, b) → ∃ j, (clsD (cs.rows q)).lookup o = some (.tup [.int ((q + j : Nat) : Int), .bl (b.once k)]) ∧ (cs.its Γ)[j]? = some (if b.once k then b.ans else b, Γ ++ [x, k]) ∧ ∀ y, b.fv y = true → x ≠ y → k ≠ y → cs.fv y = true
  | .nil, q => ⟨fun _ => rfl, fun _ _ _ h => by cases h⟩
  | .cons o' x' k' b' r, q => by
    obtain ⟨i1, i2⟩ := cs_look r (q + 1)
    have e0 : clsD ((Cls.cons o' x' k' b' r).rows q) = (o', .tup [.int (q : Nat), .bl (b'.once k')]) :: clsD (r.rows (q + 1)) := rfl
    rw [e0, Cls.find, List.lookup_cons]
    by_cases c : o' = o
    · subst c
      simp only [if_pos, beq_self_eq_true]
      refine ⟨fun h => (by cases h), fun x k b h => ?_⟩
      cases h
      exact ⟨0, rfl, rfl, fun y h1 h2 h3 => by simp [Cls.fv, h1, h2, h3]⟩
    · rw [if_neg c, beq_eq_false_iff_ne.mpr fun z => c z.symm]
      refine ⟨i1, fun x k b h => ?_⟩
      obtain ⟨j, h1, h2, h3⟩ := i2 x k b h
      refine ⟨j + 1, ?_, h2, fun y g1 g2 g3 => by simp [Cls.fv, h3 y g1 g2 g3]⟩
      rw [h1, show q + 1 + j = q + (j + 1) by omega]
theorem look_push {p : Pc} {fm : Fm} {ps : List Pc} {o : String} : look (p.push fm :: ps) o = look (p :: ps) o := by
  rw [look, look]; rfl
/-- what stands at a handler's place -/
structure Hd (C : Cd) (N : Nat) (m : Option (List Fr)) (ps : List Pc) (o : String) (d : Nat) (i : List Fr) (e : Env) (x k : String) (b : Tm) (out : List Fr) : Prop where
  at_ : ∃ h z j bnd Γ, ps[d]? = some h ∧ h.h = .tup [z, .dic j, bnd] ∧ EB C N Γ e bnd ∧ (∃ n : Nat, j.lookup o = some (.tup [.int (n : Nat), .bl (b.once k)]) ∧ C.items[n]? = some (if b.once k then b.ans else b, nms Γ ++ [x, k])) ∧ ∀ y, b.fv y = true → x ≠ y → k ≠ y → Γ.lookup y = some true
  lt : d < ps.length
  up : SG C N m (ps.take (d + 1)) i
  kd : ∀ p ∈ ps.take (d + 1), p.kind ≠ 0
  dn : ∃ m2 f1 f2, Tl m2 f1 ∧ SG C N m2 (ps.drop (d + 1)) f2 ∧ out = f1 ++ f2
theorem SG.look : ∀ {m : Option (List Fr)} {ps : List Pc} {fs : List Fr}, SG C N m ps fs → ∀ o, (TM.look ps o = none → split o fs = none) ∧ ∀ d, TM.look ps o = some d → ∃ i e x k b out, split o fs = some (i, e, (x, k, b), out) ∧ Hd C N m ps o d i e x k b out
  | _, _, _, .nil, o => ⟨fun _ => rfl, fun d h => by rw [TM.look] at h; cases h⟩
  | _, _, _, .bot, o => ⟨fun _ => rfl, fun d h => by rw [TM.look] at h; cases h⟩
  | _, _, _, .frame (m := m) (fm := fm) (p := p) (ps := ps) l k s, o => by
    obtain ⟨i1, i2⟩ := SG.look s o
    rw [look_push, split_skip k.nohan]
    refine ⟨fun h => by rw [i1 h]; rfl, fun d h => ?_⟩
    obtain ⟨i, e, x, kk, b, out, h1, h2⟩ := i2 d h
    refine ⟨_, e, x, kk, b, out, by rw [h1]; rfl, ?_⟩
    obtain ⟨⟨hp, z, j, bnd, Γ, a1, a2, a3, a4⟩, h3, h4, h5, h6⟩ := h2
    refine ⟨?_, h3, .frame l k h4, fun q hq => ?_, h6⟩
    · cases d with
      | zero =>
        simp at a1
        subst a1
        exact ⟨p.push fm, z, j, bnd, Γ, rfl, a2, a3, a4⟩
      | succ d => exact ⟨hp, z, j, bnd, Γ, a1, a2, a3, a4⟩
    · rw [List.take_succ_cons] at hq
      rcases List.mem_cons.mp hq with rfl | hq
      · exact h5 p (by rw [List.take_succ_cons]; exact List.mem_cons_self)
      · exact h5 q (by rw [List.take_succ_cons]; exact List.mem_cons_of_mem _ hq)
  | _, _, _, .han (Γ := Γ) (m := m) (e0 := e0) (r := r) (b := b) (cs := cs) (e := e) (tk := tk) (ps := ps) (fs1 := fs1) (fs2 := fs2) (bnd := bnd) (a := a) (q := q) he hb ha hq hc t s, o => by
    obtain ⟨i1, i2⟩ := SG.look s o
    obtain ⟨c1, c2⟩ := cs_look (o := o) (Γ := nms Γ) cs q
    have hl : TM.look (.han a (cs.rows q) bnd :: ps) o = if ((clsD (cs.rows q)).lookup o).isSome then some 0 else (TM.look ps o).map (· + 1) := by rw [TM.look]; rfl
    rw [hl]
    cases ef : cs.find o with
    | none =>
      rw [c1 ef]
      have es : split o (.a (.han e0 r b cs) e tk :: (fs1 ++ fs2)) = match split o (fs1 ++ fs2) with
          | some (i, e', c, out) => some (.a (.han e0 r b cs) e tk :: i, e', c, out)
          | none => none := by rw [split, ef] <;> rfl
      rw [es, split_skip (Tl.nohan (C := C) (N := N) t)]
      refine ⟨fun h => ?_, fun d h => ?_⟩
      · cases e1 : TM.look ps o with
        | none => rw [i1 e1]; rfl
        | some d => rw [e1] at h; cases h
      · cases e1 : TM.look ps o with
        | none => rw [e1] at h; cases h
        | some d' =>
          rw [e1] at h
          cases h
          obtain ⟨i, e', x, k, b', out, h1, ⟨hp, z, j, bnd', Γ', a1, a2, a3, a4⟩, h3, h4, h5, h6⟩ := i2 d' e1
          refine ⟨_, e', x, k, b', out, by rw [h1]; rfl, ⟨hp, z, j, bnd', Γ', a1, a2, a3, a4⟩, by simp; omega, .han he hb ha hq hc t h4, fun p hp => ?_, h6⟩
          rw [List.take_succ_cons] at hp
          rcases List.mem_cons.mp hp with rfl | hp
          · exact fun z => by cases z
          · exact h5 p hp
    | some c =>
      obtain ⟨x, k, b'⟩ := c
      obtain ⟨j, d1, d2, d3⟩ := c2 x k b' ef
      rw [d1]
      refine ⟨fun h => (by cases h), fun d h => ?_⟩
      cases h
      have es : split o (.a (.han e0 r b cs) e tk :: (fs1 ++ fs2)) = some ([.a (.han e0 r b cs) e tk], e, (x, k, b'), fs1 ++ fs2) := by rw [split, ef] <;> rfl
      have one : SG C N none [.han a (cs.rows q) bnd] [.a (.han e0 r b cs) e tk] := .han (fs1 := []) (fs2 := []) (m := none) he hb ha hq hc rfl .nil
      refine ⟨_, e, x, k, b', _, es, ⟨_, .int (a : Nat), _, bnd, Γ, rfl, rfl, he, ⟨q + j, d1, hq j _ d2⟩, fun y g1 g2 g3 => hc y (d3 y g1 g2 g3)⟩, Nat.zero_lt_succ _, one, fun p hp => ?_, m, fs1, fs2, t, s, rfl⟩
      rw [List.take_succ_cons, List.take_zero] at hp
      simp at hp
      subst hp
      exact fun z => by cases z
  | _, _, _, .place (m := m) (ps1 := ps1) (ps2 := ps2) (i := i0) (fs1 := fs1) (fs2 := fs2) s n hk t r, o => by
    obtain ⟨i1, i2⟩ := SG.look r o
    have hl : TM.look (.place ps1.length :: (ps1 ++ ps2)) o = (TM.look ps2 o).map (· + (ps1.length + 1)) := by
      rw [TM.look, if_neg (show ¬ (Pc.place ps1.length).kind = 0 from fun z => by cases z), if_neg (show ¬ (Pc.place ps1.length).kind = 1 from fun z => by cases z), show (Pc.place ps1.length).dist = ps1.length from rfl, List.drop_left]
    rw [hl, split_skip (Tl.nohan (C := C) (N := N) t)]
    refine ⟨fun h => ?_, fun d h => ?_⟩
    · cases e1 : TM.look ps2 o with
      | none => rw [i1 e1]; rfl
      | some d => rw [e1] at h; cases h
    · cases e1 : TM.look ps2 o with
      | none => rw [e1] at h; cases h
      | some d' =>
        rw [e1] at h
        cases h
        obtain ⟨i, e', x, k, b', out, h1, ⟨hp, z, j, bnd', Γ', a1, a2, a3, a4⟩, h3, h4, h5, h6⟩ := i2 d' e1
        have et : (Pc.place ps1.length :: (ps1 ++ ps2)).take (d' + (ps1.length + 1) + 1) = .place ps1.length :: (ps1 ++ ps2.take (d' + 1)) := by
          rw [List.take_succ_cons, List.take_append, List.take_of_length_le (by omega), show d' + (ps1.length + 1) - ps1.length = d' + 1 by omega]
        have ed : (Pc.place ps1.length :: (ps1 ++ ps2)).drop (d' + (ps1.length + 1) + 1) = ps2.drop (d' + 1) := by
          rw [List.drop_succ_cons, List.drop_append, List.drop_of_length_le (by omega), List.nil_append, show d' + (ps1.length + 1) - ps1.length = d' + 1 by omega]
        refine ⟨_, e', x, k, b', out, by rw [h1]; rfl, ⟨hp, z, j, bnd', Γ', ?_, a2, a3, a4⟩, by simp; omega, by rw [et]; exact .place s n hk t h4, fun p hp => ?_, by rw [ed]; exact h6⟩
        · show (Pc.place ps1.length :: (ps1 ++ ps2))[d' + (ps1.length + 1)]? = some hp
          rw [show d' + (ps1.length + 1) = (d' + ps1.length) + 1 by omega, List.getElem?_cons_succ, List.getElem?_append_right (by omega), show d' + ps1.length - ps1.length = d' by omega]
          exact a1
        · rw [et] at hp
          rcases List.mem_cons.mp hp with rfl | hp
          · exact fun z => by cases z
          · rcases List.mem_append.mp hp with hp | hp
            · exact hk p hp
            · exact h5 p hp
end
end TM
/-! TR7: a state of the meaning and one of the runner; values delivered. -/
namespace TM
open DL
def cntA (an : List (String × String × String × Tm)) : Nat := (an.filter fun c => !(c.2.2.2.once c.2.2.1)).length
def frs (ps : List Pc) : Nat := (ps.map (·.fms.length)).sum
inductive FinR (C : Cd) (N : Nat) : Res → Rn → Prop
  | steps : FinR C N .steps .steps
  | unhandled {o} : FinR C N (.unhandled o) (.unhandled o)
  | val {v w} : VR C N v w → FinR C N (.val v) (.val w)
structure RB (s : LS) (rs : RS) : Prop where
  left : rs.left = s.left
  pr : rs.pr = s.pr
  kept : rs.kept = cntA s.an
  fin : rs.fin = none
  pl : PlOk rs.ps
  ne : rs.ps ≠ []
inductive RR (C : Cd) (N : Nat) (s : LS) (rs : RS) : Prop
  | ev {Γ m e t tk fs1 fs2} : s.cur = .ev t e tk → s.fs = fs1 ++ fs2 → EB C N Γ e rs.bnd → Ev C N m rs.rows rs.at_ Γ e rs.bnd rs.ops t fs1 → SG C N m rs.ps fs2 → RB s rs → RR C N s rs
  | rt {m v w ops fs1 fs2} : s.cur = .rt v → s.fs = fs1 ++ fs2 → VR C N v w → rs.ops = w :: ops → KR C N m rs.rows rs.at_ rs.bnd ops fs1 → SG C N m rs.ps fs2 → RB s rs → RR C N s rs
/-- the runner has ended as the meaning does -/
def Fin (C : Cd) (u : LS) (rs : RS) : Prop := ∃ N r f, u.res = some r ∧ rs.fin = some f ∧ FinR C N r f ∧ rs.pr = u.pr ∧ rs.kept = cntA u.an
/-- a run whose every state has P -/
inductive PR (P : LS → Prop) : Nat → LS → LS → Prop
  | done {s} : P s → s.res ≠ none → PR P 0 s s
  | step {n s s' u} : P s → s.step = some s' → PR P n s' u → PR P (n + 1) s u
theorem PR.p {P : LS → Prop} {n : Nat} {s u : LS} (h : PR P n s u) : P s := by cases h <;> assumption
theorem PR.of {P : LS → Prop} (hP : ∀ s s', P s → s.step = some s' → P s') : ∀ {n : Nat} {s u : LS}, P s → LRun n s u → PR P n s u
  | _, _, _, h, .done a => .done h a
  | _, _, _, h, .step a b => .step h a (PR.of hP (hP _ _ h a) b)
theorem PR.inv {P : LS → Prop} {n : Nat} {s s' u : LS} (h : PR P n s u) (hs : s.step = some s') : ∃ n', n = n' + 1 ∧ PR P n' s' u := by
  cases h with
  | done _ hr => exact absurd (step_res hs) hr
  | step _ h1 h2 =>
    rw [hs] at h1
    cases h1
    exact ⟨_, rfl, h2⟩
theorem PR.end {P : LS → Prop} {n : Nat} {s u : LS} (h : PR P n s u) (hr : s.res ≠ none) : n = 0 ∧ u = s := by
  cases h with
  | done _ _ => exact ⟨rfl, rfl⟩
  | step _ h1 h2 => exact absurd (step_res h1) hr
theorem PR.go {P : LS → Prop} {n : Nat} {s u : LS} (h : PR P n s u) (hr : s.res = none) : ∃ n' s', n = n' + 1 ∧ s.step = some s' ∧ PR P n' s' u := by
  cases h with
  | done _ hr' => exact absurd hr hr'
  | step _ h1 h2 => exact ⟨_, _, rfl, h1, h2⟩
section
variable {P : LS → Prop} {C : Cd}
theorem PlOk.tail {p : Pc} {ps : List Pc} (h : PlOk (p :: ps)) : PlOk ps := h.2.2.2
theorem deliver_ok (hC : C.Ok) : ∀ (k : Nat) {ps : List Pc} {N : Nat} {m : Option (List Fr)} {f1 f2 : List Fr} {v : Val} {w : D} {left : Nat} {pr : List Int} {an : List (String × String × String × Tm)} {nx n : Nat} {u : LS} {rs0 : RS}, ps.length ≤ k → VR C N v w → Tl m f1 → SG C N m ps f2 → PlOk ps → ps ≠ [] →
    PR P n ⟨.rt v, f1 ++ f2, left, pr, an, nx⟩ u → rs0.fin = none → rs0.pr = pr → rs0.kept = cntA an →
    ∃ rs', Dl C rs0 w ps left rs' ∧ (Fin C u rs' ∨ ∃ n' s', PR P n' s' u ∧ RR C N s' rs' ∧ (n' < n ∨ n' = n ∧ frs rs'.ps < frs ps))
  | 0, ps, N, m, f1, f2, v, w, left, pr, an, nx, n, u, rs0, hk, hv, ht, hs, hp, hne, hr, h1, h2, h3 => by
    cases ps with
    | nil => exact absurd rfl hne
    | cons p ps => simp at hk
  | k + 1, ps, N, m, f1, f2, v, w, left, pr, an, nx, n, u, rs0, hk, hv, ht, hs, hp, hne, hr, h1, h2, h3 => by
    cases hs with
    | nil => exact absurd rfl hne
    | bot =>
      cases ht
      obtain ⟨rfl, rfl⟩ := hr.end (by simp [LS.res])
      exact ⟨_, .bot rfl rfl, .inl ⟨N, .val v, .val w, rfl, rfl, .val hv, h2, h3⟩⟩
    | @frame m' fm p ps' g1 g2 hl hkr hs =>
      cases ht
      refine ⟨_, .frame (p := p.push fm) (fm := fm) (r := p.fms) rfl, .inr ⟨n, _, hr, .rt (m := m') (fs1 := g1) (fs2 := g2) rfl rfl hv rfl hkr hs ⟨rfl, h2, h3, h1, ?_, fun z => by cases z⟩, .inr ⟨rfl, ?_⟩⟩⟩
      · exact ⟨hp.1, hp.2.1, hp.2.2.1, hp.2.2.2⟩
      · show frs (p :: ps') < frs (p.push fm :: ps')
        simp [frs, Pc.push]
    | @han Γ m' e0 r b cs e tk ps' g1 g2 bnd a q hE hb hal hq hc htl hs =>
      cases ht
      obtain ⟨q', hb1, hb2⟩ := hC.code a b _ hb
      have hne' : ps' ≠ [] := hp.2.2.1 fun z => by cases z
      obtain ⟨n', rfl, hr'⟩ := hr.inv (s' := ⟨.ev b (.cons r v e) (tk.drop 1), g1 ++ g2, left, pr, an, nx⟩) rfl
      refine ⟨_, .han (p := .han a (cs.rows q) bnd) rfl rfl rfl hb1 hne', .inr ⟨n', _, hr', .ev (m := m') (Γ := (r, true) :: Γ) (fs1 := g1) (fs2 := g2) rfl rfl (.cons hv hE) (.l (q := q') ?_ ?_ (alive_cons hal) htl) hs ⟨rfl, h2, h3, h1, hp.tail, hne'⟩, .inl (Nat.lt_succ_self _)⟩⟩
      · rw [nms_cons]; intro j x hx; rw [Nat.zero_add]; exact hx
      · rw [nms_cons]; exact hb2
    | @place m' ps1 ps2 i g1 g2 hs1 hn1 hk1 htl hs2 =>
      obtain ⟨kk, t, e, tk, rfl⟩ := ht
      have hne' : ps1 ++ ps2 ≠ [] := fun z => hn1 (List.append_eq_nil_iff.mp z).1
      cases left with
      | zero =>
        obtain ⟨n', rfl, hr'⟩ := hr.inv (s' := ⟨.dn .steps, g1 ++ g2, 0, pr, an, nx⟩) rfl
        obtain ⟨rfl, rfl⟩ := hr'.end (by simp [LS.res])
        exact ⟨_, .place0 (p := .place ps1.length) rfl rfl, .inl ⟨N, .steps, .steps, rfl, rfl, .steps, h2, h3⟩⟩
      | succ l =>
        obtain ⟨n', rfl, hr'⟩ := hr.inv (s' := ⟨.rt v, i ++ (g1 ++ g2), l, pr, an, nx⟩) rfl
        obtain ⟨m2, f3, f4, t3, s4, e4, hz⟩ := (SG.app htl hs2 hs1 hk1).1 rfl
        have := hz hn1
        subst this
        cases t3
        rw [List.nil_append] at e4
        rw [e4] at hr'
        obtain ⟨rs', hd, hf⟩ := deliver_ok hC k (ps := ps1 ++ ps2) (m := none) (f1 := []) (rs0 := rs0) (by simp at hk ⊢; omega) hv rfl s4 hp.tail hne' hr' h1 h2 h3
        refine ⟨rs', .place (p := .place ps1.length) rfl rfl hne' hd, ?_⟩
        rcases hf with hf | ⟨n'', s', g1, g2, g3⟩
        · exact .inl hf
        · exact .inr ⟨n'', s', g1, g2, .inl (by rcases g3 with g3 | ⟨g3, _⟩ <;> omega)⟩
end
end TM
/-! TR8: calls and asks of the runner. -/
namespace TM
open DL
section
variable {P : LS → Prop} {C : Cd} {N : Nat}
/-- one row was done -/
def Done (P : LS → Prop) (C : Cd) (N n : Nat) (z : LS) (rs : RS) : Prop := ∃ rs', RStep C rs rs' ∧ (Fin C z rs' ∨ ∃ n' s', PR P n' s' z ∧ RR C N s' rs' ∧ n' < n)
theorem blk {hC : C.Ok} {k : Nat} {t : Tm} {L : List String} (h : C.items[k]? = some (t, L)) : ∃ rows q, C.blocks[k]? = some rows ∧ At rows 0 (cl t L 0 q).1 ∧ Qok C.items q (cl t L 0 q).2 := by
  obtain ⟨q, h1, h2⟩ := hC.code k t L h
  exact ⟨_, q, h1, fun j x hx => by rw [Nat.zero_add]; exact hx, h2⟩
theorem callR_ok (hC : C.Ok) {tl : Bool} {s z : LS} {rs : RS} {p : Pc} {ps : List Pc} {u v : Val} {wu w : D} {ops : List D} {t b : Tm} {e : Env} {tk : List Nat} {fs : List Fr} {n : Nat}
    (hrow : rs.rows[rs.at_]? = some (if tl then .tail else .call)) (hops : rs.ops = w :: wu :: ops) (hps : rs.ps = p :: ps) (hu : VR C N u wu) (hv : VR C N v w) (hb : RB s rs) (hcur : s.cur = .rt v) (hfs : s.fs = .b (.call t b) e u tk :: fs) (hr : PR P n s z)
    (hst : ∃ m g1 g2, Tl m g1 ∧ SG C N m (if tl then p :: ps else p.push (rs.fm ops) :: ps) g2 ∧ fs = g1 ++ g2) : Done P C N n z rs := by
  obtain ⟨cur, fs0, left, pr, an, nx⟩ := s
  cases hcur
  cases hfs
  obtain ⟨hl, hpr, hk, hf, hpl, hne⟩ := hb
  have hpl2 : PlOk (if tl then p :: ps else p.push (rs.fm ops) :: ps) := by
    rw [hps] at hpl
    cases tl
    · exact ⟨hpl.1, hpl.2.1, hpl.2.2.1, hpl.2.2.2⟩
    · exact hpl
  have hne2 : (if tl then p :: ps else p.push (rs.fm ops) :: ps) ≠ [] := by cases tl <;> exact fun z => by cases z
  obtain ⟨m, g1, g2, htl, hsg, rfl⟩ := hst
  obtain ⟨n', s', rfl, hs, hr'⟩ := hr.go rfl
  have hs : callV ⟨.rt v, g1 ++ g2, left, pr, an, nx⟩ u v = some s' := hs
  unfold callV at hs
  cases left with
  | zero =>
    cases hs
    obtain ⟨rfl, rfl⟩ := hr'.end (by simp [LS.res])
    exact ⟨_, .call0 hrow hops hl, .inl ⟨N, .steps, .steps, rfl, rfl, .steps, hpr, hk⟩⟩
  | succ l =>
    rw [if_neg (by simp)] at hs
    have fn : ∀ {f x : String} {bd : Tm} {e' : Env} {k : Nat} {r : Bool} {bn : D} {Γ2 : Ctx}, wu = .tup [.str "fun", .int (k : Nat), .bl r, bn] →
        s' = ⟨.ev bd (.cons x v (if f = "" then e' else .cons f u e')) (fresh nx bd.cost), g1 ++ g2, l, pr, an, nx + bd.cost⟩ → C.items[k]? = some (bd, nms Γ2) → EB C N Γ2 (.cons x v (if f = "" then e' else .cons f u e')) (.tup [w, if r then .tup [.tup [.str "fun", .int (k : Nat), .bl r, bn], bn] else bn]) → Alive Γ2 bd → Done P C N (n' + 1) z rs := by
      intro f x bd e' k r bn Γ2 ew es hi hE hA
      subst es
      rw [ew] at hops
      obtain ⟨rows, q, b1, b2, b3⟩ := blk (hC := hC) hi
      exact ⟨_, .callF hrow hops hl hps b1, .inr ⟨n', _, hr', .ev (m := m) (fs1 := g1) (fs2 := g2) rfl rfl hE (.l (q := q) b2 b3 hA htl) hsg ⟨rfl, hpr, hk, hf, hpl2, hne2⟩, Nat.lt_succ_self _⟩⟩
    cases hu with
    | @fn Γ x bd e' bn k hE hi hA =>
      have hs : some (LS.mk (.ev bd (.cons x v (if "" = "" then e' else .cons "" (.fn "" x bd e') e')) (fresh nx bd.cost)) (g1 ++ g2) l pr an (nx + bd.cost)) = some s' := hs
      refine fn (Γ2 := (x, true) :: Γ) rfl (Option.some.inj hs).symm (by rw [nms_cons]; exact hi) ?_ (alive_cons hA)
      exact .cons hv hE
    | @rc Γ f x bd e' bn k hf0 hE hi hA =>
      have hs : some (LS.mk (.ev bd (.cons x v (if f = "" then e' else .cons f (.fn f x bd e') e')) (fresh nx bd.cost)) (g1 ++ g2) l pr an (nx + bd.cost)) = some s' := hs
      refine fn (Γ2 := (x, true) :: (f, true) :: Γ) rfl (Option.some.inj hs).symm (by rw [nms_cons, nms_cons, List.append_assoc]; exact hi) ?_ (alive_cons fun y hy hxy => ?_)
      · rw [if_neg hf0]
        exact .cons hv (.cons (.rc hf0 hE hi hA) hE)
      · rw [List.lookup_cons]
        by_cases c : y = f
        · subst c; simp
        · rw [beq_eq_false_iff_ne.mpr c]
          exact hA y hy hxy fun z => c z.symm
    | @kept g fs' hg hgn hgk =>
      have hs : some (LS.mk (.rt v) (fs' ++ (g1 ++ g2)) l pr an nx) = some s' := hs
      cases hs
      obtain ⟨m2, f3, f4, t3, s4, e4, hz⟩ := (SG.app htl hsg hg hgk).1 rfl
      have := hz hgn
      subst this
      cases t3
      rw [List.nil_append] at e4
      rw [e4] at hr'
      have hpl3 := PlOk.app hpl2 hne2 hg hgk
      have hne3 : g ++ (if tl then p :: ps else p.push (rs.fm ops) :: ps) ≠ [] := fun z => hgn (List.append_eq_nil_iff.mp z).1
      obtain ⟨rs', hd, hf'⟩ := deliver_ok hC _ (m := none) (f1 := []) (rs0 := { rs with at_ := rs.at_ + 1, ops := ops }) (Nat.le_refl _) hv rfl s4 hpl3 hne3 hr' hf hpr hk
      refine ⟨rs', .callK hrow hops hl hps hgn hgk hpl3 hd, ?_⟩
      rcases hf' with hf' | ⟨n'', s'', a1, a2, a3⟩
      · exact .inl hf'
      · exact .inr ⟨n'', s'', a1, a2, by rcases a3 with a3 | ⟨a3, _⟩ <;> omega⟩
    | _ => cases hs
theorem PlOk.drop : ∀ {ps : List Pc} (n : Nat), PlOk ps → PlOk (ps.drop n)
  | ps, 0, h => h
  | [], n + 1, h => h
  | p :: ps, n + 1, h => PlOk.drop n h.tail
theorem look_lt : ∀ (k : Nat) {ps : List Pc} {o : String} {d : Nat}, ps.length ≤ k → PlOk ps → look ps o = some d → d + 1 < ps.length
  | k, [], o, d, _, _, h => by rw [look] at h; cases h
  | 0, p :: ps, _, _, hk, _, _ => by simp at hk
  | k + 1, p :: ps, o, d, hk, hp, h => by
    rw [look] at h
    have hps : p.kind ≠ 0 → 0 < ps.length := fun z => List.length_pos_iff.mpr (hp.2.2.1 z)
    split at h
    · cases h
    · rename_i h0
      split at h
      · split at h
        · cases h
          have := hps h0
          simp; omega
        · cases e : look ps o with
          | none => rw [e] at h; cases h
          | some d' =>
            rw [e] at h
            cases h
            have := look_lt k (by simp at hk; omega) hp.tail e
            simp; omega
      · cases e : look (ps.drop p.dist) o with
        | none => rw [e] at h; cases h
        | some d' =>
          rw [e] at h
          cases h
          have := look_lt k (by simp at hk ⊢; omega) (hp.tail.drop p.dist) e
          simp at this ⊢; omega
theorem askR_ok (hC : C.Ok) {s z : LS} {rs : RS} {p : Pc} {ps : List Pc} {v : Val} {w : D} {ops : List D} {o : String} {t : Tm} {e : Env} {tk : List Nat} {fs : List Fr} {n : Nat}
    (hrow : rs.rows[rs.at_]? = some (.ask o)) (hops : rs.ops = w :: ops) (hps : rs.ps = p :: ps) (hv : VR C N v w) (hb : RB s rs) (hcur : s.cur = .rt v) (hfs : s.fs = .a (.ask o t) e tk :: fs) (hr : PR P n s z)
    (hst : SG C N none (p.push (rs.fm ops) :: ps) fs) : Done P C N n z rs := by
  obtain ⟨cur, fs0, left, pr, an, nx⟩ := s
  cases hcur
  cases hfs
  obtain ⟨hl, hpr, hk, hf, hpl, hne⟩ := hb
  rw [hps] at hpl
  have hpl2 : PlOk (p.push (rs.fm ops) :: ps) := ⟨hpl.1, hpl.2.1, hpl.2.2.1, hpl.2.2.2⟩
  obtain ⟨n', s', rfl, hs, hr'⟩ := hr.go rfl
  have hs : askV ⟨.rt v, fs, left, pr, an, nx⟩ o v = some s' := hs
  unfold askV at hs
  cases left with
  | zero =>
    cases hs
    obtain ⟨rfl, rfl⟩ := hr'.end (by simp [LS.res])
    exact ⟨_, .ask0 hrow hops hl, .inl ⟨N, .steps, .steps, rfl, rfl, .steps, hpr, hk⟩⟩
  | succ l =>
    rw [if_neg (by simp)] at hs
    obtain ⟨lk1, lk2⟩ := SG.look hst o
    cases el : look (p.push (rs.fm ops) :: ps) o with
    | none =>
      have hs : (match split o fs with
        | some (i, e, (x, k, b), out) => some (LS.mk (.ev b (.cons k (.kept i) (.cons x v e)) (fresh nx b.cost)) out l pr (an ++ [(o, x, k, b)]) (nx + b.cost))
        | none => some (LS.mk (.dn (.unhandled o)) fs l pr an nx)) = some s' := hs
      rw [lk1 el] at hs
      cases hs
      obtain ⟨rfl, rfl⟩ := hr'.end (by simp [LS.res])
      rw [look_push] at el
      exact ⟨_, .askN hrow hops hl hps el, .inl ⟨N, .unhandled o, .unhandled o, rfl, rfl, .unhandled, hpr, hk⟩⟩
    | some d =>
      have hs : (match split o fs with
        | some (i, e, (x, k, b), out) => some (LS.mk (.ev b (.cons k (.kept i) (.cons x v e)) (fresh nx b.cost)) out l pr (an ++ [(o, x, k, b)]) (nx + b.cost))
        | none => some (LS.mk (.dn (.unhandled o)) fs l pr an nx)) = some s' := hs
      obtain ⟨i, e', x, k, b, out, h1, ⟨hh, zz, j, bnd, Γ, a1, a2, a3, ⟨nb, a4, a5⟩, a6⟩, h3, h4, h5, m2, f1, f2, h6, h7, h8⟩ := lk2 d el
      rw [h1] at hs
      cases hs
      subst h8
      have hlt := look_lt _ (Nat.le_refl _) hpl2 el
      have hlt2 : d + 1 < (p :: ps).length := by simpa using hlt
      have el2 := el
      rw [look_push] at el2
      have hkp : (p.push (rs.fm ops) :: ps).take (d + 1) ≠ [] := by simp
      cases ho : b.once k with
      | true =>
        rw [ho] at a4 a5
        obtain ⟨rows, q, b1, b2, b3⟩ := blk (hC := hC) a5
        have eqp : (p.push (rs.fm ops) :: ps).take (d + 1) ++ (p.push (rs.fm ops) :: ps).drop (d + 1) = p.push (rs.fm ops) :: ps := List.take_append_drop _ _
        have len1 : ((p.push (rs.fm ops) :: ps).take (d + 1)).length = d + 1 := by rw [List.length_take]; simp at h3 ⊢; omega
        have hsg : SG C N (some i) (.place (d + 1) :: p.push (rs.fm ops) :: ps) (f1 ++ f2) := by
          have := SG.place h4 hkp h5 h6 h7
          rw [len1, eqp] at this
          exact this
        refine ⟨_, .askP hrow hops hl hps el2 a1 a2 a4 b1 hlt2, .inr ⟨n', _, hr', .ev (m := some i) (Γ := (k, false) :: (x, true) :: Γ) (fs1 := []) (fs2 := f1 ++ f2) rfl rfl (.dead (.cons hv a3)) (.p (q := q) (k := k) ?_ ?_ ?_ ho (by simp [Env.find])) hsg ⟨rfl, hpr, ?_, hf, ?_, fun z => by cases z⟩, Nat.lt_succ_self _⟩⟩
        · rw [nms_cons, nms_cons, List.append_assoc]; exact b2
        · rw [nms_cons, nms_cons, List.append_assoc]; exact b3
        · refine alive_dead fun y hy => ?_
          obtain ⟨g1, g2⟩ := ans_fv ho y hy
          refine ⟨g2, ?_⟩
          rw [List.lookup_cons]
          by_cases c : y = x
          · subst c; simp
          · rw [beq_eq_false_iff_ne.mpr c]
            exact a6 y g1 (fun z => c z.symm) fun z => g2 z.symm
        · show rs.kept = cntA (an ++ [(o, x, k, b)])
          rw [cntA, List.filter_append]
          simp [ho]
          exact hk
        · exact ⟨fun _ => by show d + 1 < (p.push (rs.fm ops) :: ps).length; exact hlt, fun z => absurd rfl z, fun _ z => (by cases z), hpl2⟩
      | false =>
        rw [ho] at a4 a5
        obtain ⟨rows, q, b1, b2, b3⟩ := blk (hC := hC) a5
        refine ⟨_, .askK hrow hops hl hps el2 a1 a2 a4 b1 hlt2, .inr ⟨n', _, hr', .ev (m := m2) (Γ := (k, true) :: (x, true) :: Γ) (fs1 := f1) (fs2 := f2) rfl rfl (.cons (.kept h4 hkp h5) (.cons hv a3)) (.l (q := q) ?_ ?_ ?_ h6) h7 ⟨rfl, hpr, ?_, hf, hpl2.drop (d + 1), ?_⟩, Nat.lt_succ_self _⟩⟩
        · rw [nms_cons, nms_cons, List.append_assoc]; exact b2
        · rw [nms_cons, nms_cons, List.append_assoc]; exact b3
        · refine alive_cons fun y hy hky => ?_
          rw [List.lookup_cons]
          by_cases c : y = x
          · subst c; simp
          · rw [beq_eq_false_iff_ne.mpr c]
            exact a6 y hy (fun z => c z.symm) hky
        · show rs.kept + 1 = cntA (an ++ [(o, x, k, b)])
          rw [cntA, List.filter_append, List.length_append]
          simp [ho]
          exact hk
        · intro z
          have := congrArg List.length z
          rw [List.length_drop] at this
          simp at this hlt; omega
end
end TM
/-! TR9: the runner does what the meaning does. -/
namespace TM
open DL
/-- what typing tells of a state -/
structure TyS (s : LS) : Prop where
  rc : ∀ f x b e k, s.cur = .ev (.rc f x b) e k → f ≠ ""
  op : ∀ o a b e u tk fs v, s.cur = .rt v → s.fs = .b (.op o a b) e u tk :: fs → (∃ τ, Sg o τ) ∧ (∀ i, u = .int i → i.natAbs < 2 ^ 32) ∧ ∀ j, v = .int j → j.natAbs < 2 ^ 32
def Less (n' n : Nat) (rs' rs : RS) : Prop := n' < n ∨ n' = n ∧ (frs rs'.ps < frs rs.ps ∨ frs rs'.ps = frs rs.ps ∧ rs'.rows.length - rs'.at_ < rs.rows.length - rs.at_)
def Turn (P : LS → Prop) (C : Cd) (N n : Nat) (z : LS) (rs : RS) : Prop :=
  (∃ n' s', n' < n ∧ PR P n' s' z ∧ RR C N s' rs) ∨ ∃ rs', RStep C rs rs' ∧ (Fin C z rs' ∨ ∃ N' n' s', N' + n' ≤ N + n ∧ PR P n' s' z ∧ RR C N' s' rs' ∧ Less n' n rs' rs)
section
variable {P : LS → Prop} {C : Cd} {N : Nat}
theorem Turn.done {n : Nat} {z : LS} {rs : RS} (h : Done P C (N + 1) n z rs) : Turn P C N n z rs := by
  obtain ⟨rs', h1, h2⟩ := h
  refine .inr ⟨rs', h1, ?_⟩
  rcases h2 with h2 | ⟨n', s', h3, h4, h5⟩
  · exact .inl h2
  · exact .inr ⟨N + 1, n', s', by omega, h3, h4, .inl h5⟩
theorem Turn.step {n : Nat} {s s' z : LS} {rs rs' : RS} (hr : PR P n s z) (hs : s.step = some s') (hp : RStep C rs rs') (h : RR C N s' rs') : Turn P C N n z rs := by
  obtain ⟨n', rfl, hr'⟩ := hr.inv hs
  exact .inr ⟨rs', hp, .inr ⟨N, n', s', by omega, hr', h, .inl (Nat.lt_succ_self _)⟩⟩
theorem Turn.step1 {n : Nat} {s s' z : LS} {rs rs' : RS} (hr : PR P n s z) (hs : s.step = some s') (hp : RStep C rs rs') (h : RR C (N + 1) s' rs') : Turn P C N n z rs := by
  obtain ⟨n', rfl, hr'⟩ := hr.inv hs
  exact .inr ⟨rs', hp, .inr ⟨N + 1, n', s', by omega, hr', h, .inl (Nat.lt_succ_self _)⟩⟩
theorem Turn.silent {n : Nat} {s s' z : LS} {rs : RS} (hr : PR P n s z) (hs : s.step = some s') (h : RR C N s' rs) : Turn P C N n z rs := by
  obtain ⟨n', rfl, hr'⟩ := hr.inv hs
  exact .inl ⟨n', s', Nat.lt_succ_self _, hr', h⟩
theorem ev_ok (hC : C.Ok) {s z : LS} {rs : RS} {n : Nat} {Γ : Ctx} {m : Option (List Fr)} {e : Env} {t : Tm} {tk : List Nat} {fs1 fs2 : List Fr} (hT : TyS s) (hr : PR P n s z) (hcur : s.cur = .ev t e tk) (hfs : s.fs = fs1 ++ fs2) (hE : EB C N Γ e rs.bnd)
    (hev : Ev C N m rs.rows rs.at_ Γ e rs.bnd rs.ops t fs1) (hS : SG C N m rs.ps fs2) (hB : RB s rs) : Turn P C N n z rs := by
  obtain ⟨rows, a, bnd, ops, ps, left, pr, kept, fin⟩ := rs
  obtain ⟨cur, fs0, left0, pr0, an, nx⟩ := s
  obtain rfl : cur = _ := hcur
  obtain rfl : fs0 = _ := hfs
  obtain ⟨hl, hpr, hkk, hfn, hpl, hne⟩ := hB
  obtain rfl : left = left0 := hl
  obtain rfl : pr = pr0 := hpr
  obtain rfl : kept = cntA an := hkk
  obtain rfl : fin = none := hfn
  have push : ∀ {r : Row} {v : Val} {w : D}, LS.step ⟨.ev t e tk, fs1 ++ fs2, left, pr, an, nx⟩ = some ⟨.rt v, fs1 ++ fs2, left, pr, an, nx⟩ → RStep C ⟨rows, a, bnd, ops, ps, left, pr, cntA an, none⟩ (RS.push ⟨rows, a, bnd, ops, ps, left, pr, cntA an, none⟩ w) → VR C N v w → KR C N m rows (a + 1) bnd ops fs1 →
      Turn P C N n z ⟨rows, a, bnd, ops, ps, left, pr, cntA an, none⟩ := fun h1 h2 h3 h4 =>
    .step hr h1 h2 (.rt (m := m) (fs1 := fs1) (fs2 := fs2) rfl rfl h3 rfl h4 hS ⟨rfl, rfl, rfl, rfl, hpl, hne⟩)
  have into : ∀ {p : Tm}, first t = some p → (∀ e r b cs, t ≠ .han e r b cs) → (∀ s : LS, into s t e tk = some { s with cur := .ev p e ((tk.drop 1).take p.cost), fs := .a t e (tk.drop (1 + p.cost)) :: s.fs }) → ((∀ f b, t ≠ .call f b) ∨ ∀ k, t.once k = false) → Turn P C N n z ⟨rows, a, bnd, ops, ps, left, pr, cntA an, none⟩ := fun {p} h1 h2 h3 h4 => by
    refine .silent hr (h3 _) (.ev (m := m) (fs1 := .a t e (tk.drop (1 + p.cost)) :: fs1) (fs2 := fs2) rfl rfl hE (hev.into hE h1 h2 h4 _) hS ⟨rfl, rfl, rfl, rfl, hpl, hne⟩)
  cases t with
  | num i =>
    obtain ⟨q, h1, h2, h3, h4⟩ := hev.plain rfl
    exact push (r := .int i) rfl (.int h1.cons.1) .int h4
  | flag b =>
    obtain ⟨q, h1, h2, h3, h4⟩ := hev.plain rfl
    exact push (r := .flag b) rfl (.flag h1.cons.1) .bool h4
  | unit =>
    obtain ⟨q, h1, h2, h3, h4⟩ := hev.plain rfl
    exact push (r := .unit) rfl (.unit h1.cons.1) .unit h4
  | name x =>
    obtain ⟨q, h1, h2, h3, h4⟩ := hev.plain rfl
    obtain ⟨v, w, g1, g2, g3⟩ := hE.nth (h3 x (by simp [Tm.fv]))
    refine push (r := .unit) ?_ (.load h1.cons.1 g2) g3 h4
    show TM.into ⟨.ev (.name x) e tk, fs1 ++ fs2, left, pr, an, nx⟩ (.name x) e tk = _
    simp only [TM.into, g1]
  | fn x b =>
    obtain ⟨q, h1, h2, h3, h4⟩ := hev.plain rfl
    exact push (r := .close q false) rfl (.close h1.cons.1) (.fn hE h2.cons.1 fun y hy hxy => h3 y (by simp [Tm.fv, hy, hxy])) h4
  | rc f x b =>
    obtain ⟨q, h1, h2, h3, h4⟩ := hev.plain rfl
    exact push (r := .close q true) rfl (.close h1.cons.1) (.rc (hT.rc _ _ _ _ _ rfl) hE h2.cons.1 fun y hy hxy hfy => h3 y (by simp [Tm.fv, hy, hxy, hfy])) h4
  | han e0 r b cs =>
    obtain ⟨q, h1, h2, h3, h4⟩ := hev.plain rfl
    have h1 := h1.cons.1
    obtain ⟨i1, i2⟩ := h2.cons
    obtain ⟨i2, i3⟩ := i2.cons
    obtain ⟨rows', q', b1, b2, b3⟩ := blk (hC := hC) i1
    cases ps with
    | nil => exact absurd rfl hne
    | cons p ps =>
      have hup : N ≤ N + 1 := Nat.le_succ N
      have hE' := hE.up hup
      have hfr : SG C (N + 1) none (p.push ⟨rows, a + 1, bnd, ops⟩ :: ps) (fs1 ++ fs2) := .frame (Nat.lt_succ_of_le (hS.len p List.mem_cons_self)) (h4.up hup) (hS.up hup)
      have hsg : SG C (N + 1) none (.han (q + 1) (cs.rows (q + 2)) bnd :: p.push ⟨rows, a + 1, bnd, ops⟩ :: ps) (.a (.han e0 r b cs) e (tk.drop (1 + e0.cost)) :: (fs1 ++ fs2)) :=
        .han (fs1 := []) (m := none) hE' i2 (fun y hy hry => h3 y (by simp [Tm.fv, hy, hry])) (by rw [show q + 1 + 1 = q + 2 from rfl] at i3; exact i3) (fun y hy => h3 y (by simp [Tm.fv, hy])) rfl hfr
      refine .step1 hr (s' := ⟨.ev e0 e ((tk.drop 1).take e0.cost), .a (.han e0 r b cs) e (tk.drop (1 + e0.cost)) :: (fs1 ++ fs2), left, pr, an, nx⟩) rfl (.handle h1 rfl b1) (.ev (m := none) (fs1 := []) rfl rfl hE' (.l (q := q') b2 b3 (fun y hy => h3 y (by simp [Tm.fv, hy])) rfl) hsg ⟨rfl, rfl, rfl, rfl, ?_, fun z => by cases z⟩)
      exact ⟨fun z => (by cases z), fun _ => rfl, fun _ z => (by cases z), hpl.1, hpl.2.1, hpl.2.2.1, hpl.2.2.2⟩
  | call f b =>
    cases hev with
    | v h1 h2 h3 h4 =>
      refine .silent hr (s' := ⟨.ev f e ((tk.drop 1).take f.cost), .a (.call f b) e (tk.drop (1 + f.cost)) :: (fs1 ++ fs2), left, pr, an, nx⟩) rfl (.ev (m := m) (fs1 := .a (.call f b) e (tk.drop (1 + f.cost)) :: fs1) (fs2 := fs2) rfl rfl hE ?_ hS ⟨rfl, rfl, rfl, rfl, hpl, hne⟩)
      exact Ev.intoV h1 h2 h3 h4 hE _
    | l h1 h2 h3 h4 =>
      refine .silent hr (s' := ⟨.ev f e ((tk.drop 1).take f.cost), .a (.call f b) e (tk.drop (1 + f.cost)) :: (fs1 ++ fs2), left, pr, an, nx⟩) rfl (.ev (m := m) (fs1 := .a (.call f b) e (tk.drop (1 + f.cost)) :: fs1) (fs2 := fs2) rfl rfl hE ?_ hS ⟨rfl, rfl, rfl, rfl, hpl, hne⟩)
      exact Ev.intoL h1 h2 h3 h4 hE _
    | @p _ i _ _ _ _ k _ q h1 h2 h3 h4 h5 =>
      have hn : f = .name k := by
        simp only [Tm.once, Bool.and_eq_true] at h4
        exact isName_eq h4.1
      subst hn
      obtain ⟨n1, rfl, hr1⟩ := hr.inv (s' := ⟨.ev (.name k) e ((tk.drop 1).take 1), .a (.call (.name k) b) e (tk.drop (1 + 1)) :: ([] ++ fs2), left, pr, an, nx⟩) rfl
      obtain ⟨n2, rfl, hr2⟩ := hr1.inv (s' := ⟨.rt (.kept i), .a (.call (.name k) b) e (tk.drop (1 + 1)) :: ([] ++ fs2), left, pr, an, nx⟩) (by
        show TM.into ⟨.ev (.name k) e ((tk.drop 1).take 1), .a (.call (.name k) b) e (tk.drop (1 + 1)) :: ([] ++ fs2), left, pr, an, nx⟩ (.name k) e ((tk.drop 1).take 1) = _
        simp only [TM.into, h5])
      obtain ⟨n3, rfl, hr3⟩ := hr2.inv (s' := ⟨.ev b e (((tk.drop (1 + 1)).drop 1).take b.cost), .b (.call (.name k) b) e (.kept i) ((tk.drop (1 + 1)).drop (1 + b.cost)) :: ([] ++ fs2), left, pr, an, nx⟩) rfl
      refine .inl ⟨n3, _, by omega, hr3, .ev (m := some i) (fs1 := [.b (.call (.name k) b) e (.kept i) ((tk.drop (1 + 1)).drop (1 + b.cost))]) (fs2 := fs2) rfl rfl hE (.l h1 h2 h3 ⟨k, b, e, _, rfl⟩) hS ⟨rfl, rfl, rfl, rfl, hpl, hne⟩⟩
  | _ => exact into rfl (fun _ _ _ _ z => by cases z) (fun _ => rfl) (.inl fun _ _ z => by cases z)
end
end TM
/-! TR10: the runner goes on with a value. -/
namespace TM
open DL
section
variable {P : LS → Prop} {C : Cd} {N : Nat}
theorem VR.int_inv {i : Int} {w : D} (h : VR C N (.int i) w) : w = .tup [.str "int", .int i] := by cases h; rfl
theorem VR.bool_inv {b : Bool} {w : D} (h : VR C N (.bool b) w) : w = .tup [.str "bool", .bl b] := by cases h; rfl
theorem VR.pair_inv {a b : Val} {w : D} (h : VR C N (.pair a b) w) : ∃ u x, w = .tup [.str "pair", u, x] ∧ VR C N a u ∧ VR C N b x := by cases h; exact ⟨_, _, rfl, by assumption, by assumption⟩
theorem rt_ok (hC : C.Ok) {s z : LS} {rs : RS} {n : Nat} {m : Option (List Fr)} {v : Val} {w : D} {ops : List D} {fs1 fs2 : List Fr} (hT : TyS s) (hr : PR P n s z) (hcur : s.cur = .rt v) (hfs : s.fs = fs1 ++ fs2) (hv : VR C N v w) (hops : rs.ops = w :: ops)
    (hk : KR C N m rs.rows rs.at_ rs.bnd ops fs1) (hS : SG C N m rs.ps fs2) (hB : RB s rs) : Turn P C N n z rs := by
  obtain ⟨rows, a, bnd, ops0, ps, left, pr, kept, fin⟩ := rs
  obtain ⟨cur, fs0, left0, pr0, an, nx⟩ := s
  obtain rfl : cur = _ := hcur
  obtain rfl : fs0 = _ := hfs
  obtain rfl : ops0 = _ := hops
  obtain ⟨hl, hpr, hkk, hfn, hpl, hne⟩ := hB
  obtain rfl : left = left0 := hl
  obtain rfl : pr = pr0 := hpr
  obtain rfl : kept = cntA an := hkk
  obtain rfl : fin = none := hfn
  replace hpl : PlOk ps := hpl
  replace hne : ps ≠ [] := hne
  replace hS : SG C N m ps fs2 := hS
  replace hk : KR C N m rows a bnd ops fs1 := hk
  have lt : ∀ {r : Row}, rows[a]? = some r → a < rows.length := fun h => (List.getElem?_eq_some_iff.mp h).1
  cases hk with
  | ret h ht =>
    obtain ⟨rs', hd, hf⟩ := deliver_ok hC _ (rs0 := ⟨rows, a + 1, bnd, [], ps, left, pr, cntA an, none⟩) (Nat.le_refl _) hv ht hS hpl hne hr rfl rfl rfl
    refine .inr ⟨rs', .ret h rfl hd, ?_⟩
    rcases hf with hf | ⟨n', s', h1, h2, h3⟩
    · exact .inl hf
    · exact .inr ⟨N, n', s', by rcases h3 with h3 | ⟨h3, _⟩ <;> omega, h1, h2, by rcases h3 with h3 | ⟨h3, h4⟩; exact .inl h3; exact .inr ⟨h3, .inl h4⟩⟩
  | @unbind _ _ b _ _ x _ h hk =>
    refine .inr ⟨_, .unbind h rfl, .inr ⟨N, n, _, Nat.le_refl _, hr, .rt (m := m) (fs1 := fs1) (fs2 := fs2) rfl rfl hv rfl hk hS ⟨rfl, rfl, rfl, rfl, hpl, hne⟩, .inr ⟨rfl, .inr ⟨rfl, ?_⟩⟩⟩⟩
    have := lt h
    show rows.length - (a + 1) < rows.length - a
    omega
  | @jump _ _ _ _ _ _ t h h1 h2 hk =>
    refine .inr ⟨_, .jump h, .inr ⟨N, n, _, Nat.le_refl _, hr, .rt (m := m) (fs1 := fs1) (fs2 := fs2) rfl rfl hv rfl hk hS ⟨rfl, rfl, rfl, rfl, hpl, hne⟩, .inr ⟨rfl, .inr ⟨rfl, ?_⟩⟩⟩⟩
    show rows.length - t < rows.length - a
    omega
  | @bin1 Γ _ _ _ _ fs t e tk b r _ q hb hE hA hq hal hk =>
    obtain ⟨g1, g2⟩ := hA.app
    have hst : LS.step ⟨.rt v, .a t e tk :: (fs ++ fs2), left, pr, an, nx⟩ = some ⟨.ev b e ((tk.drop 1).take b.cost), .b t e v (tk.drop (1 + b.cost)) :: (fs ++ fs2), left, pr, an, nx⟩ := by
      cases t <;> first | (cases hb; rfl) | cases hb
    exact .silent hr hst (.ev (m := m) (fs1 := .b t e v (tk.drop (1 + b.cost)) :: fs) (fs2 := fs2) rfl rfl hE (.v g1 hq hal (.bin2 hb g2.cons.1 hv hk)) hS ⟨rfl, rfl, rfl, rfl, hpl, hne⟩)
  | @call1 Γ _ _ _ fs t b e tk _ q hE hA hq hal ht =>
    obtain ⟨g1, g2⟩ := hA.app
    exact .silent hr (s' := ⟨.ev b e ((tk.drop 1).take b.cost), .b (.call t b) e v (tk.drop (1 + b.cost)) :: (fs ++ fs2), left, pr, an, nx⟩) rfl
      (.ev (m := m) (fs1 := .b (.call t b) e v (tk.drop (1 + b.cost)) :: fs) (fs2 := fs2) rfl rfl hE (.v g1 hq hal (.call2 g2.cons.1 hv ht)) hS ⟨rfl, rfl, rfl, rfl, hpl, hne⟩)
  | @bin2 _ _ _ ops fs t e u x tk b r _ hb h hu hk =>
    have goon : ∀ {v' : Val} {w' : D} {rs' : RS}, rs' = ⟨rows, a + 1, bnd, w' :: ops, ps, left, pr, cntA an, none⟩ → LS.step ⟨.rt v, .b t e u tk :: (fs ++ fs2), left, pr, an, nx⟩ = some ⟨.rt v', fs ++ fs2, left, pr, an, nx⟩ → VR C N v' w' → RStep C ⟨rows, a, bnd, w :: x :: ops, ps, left, pr, cntA an, none⟩ rs' → Turn P C N n z ⟨rows, a, bnd, w :: x :: ops, ps, left, pr, cntA an, none⟩ := fun {v' w' rs'} e1 h1 h2 h3 => by
      subst e1
      exact .step hr h1 h3 (.rt (m := m) (fs1 := fs) (fs2 := fs2) rfl rfl h2 rfl hk hS ⟨rfl, rfl, rfl, rfl, hpl, hne⟩)
    cases t with
    | op o aa bb =>
      cases hb
      obtain ⟨hsg, hu32, hv32⟩ := hT.op o aa b e u tk (fs ++ fs2) v rfl rfl
      obtain ⟨n', s', rfl, hs, hr'⟩ := hr.go rfl
      have hs : back ⟨.rt v, fs ++ fs2, left, pr, an, nx⟩ (.b (.op o aa b) e u tk) v = some s' := hs
      cases u with
      | int i =>
        cases v with
        | int j =>
          have := hu.int_inv
          subst this
          have := hv.int_inv
          subst this
          simp only [back] at hs
          cases ho : oper o i j with
          | none => rw [ho] at hs; cases hs
          | some w' =>
            have hst : LS.step ⟨.rt (.int j), .b (.op o aa b) e (.int i) tk :: (fs ++ fs2), left, pr, an, nx⟩ = some ⟨.rt w', fs ++ fs2, left, pr, an, nx⟩ := by
              show back ⟨.rt (.int j), fs ++ fs2, left, pr, an, nx⟩ (.b (.op o aa b) e (.int i) tk) (.int j) = _
              simp only [back, ho]
            have hw : ∃ d, operD o i j = some d ∧ VR C N w' d := by
              unfold operD
              rw [ho]
              obtain ⟨τ, hτ⟩ := hsg
              cases hτ <;> (simp [oper] at ho; subst ho; first | exact ⟨_, rfl, .int⟩ | exact ⟨_, rfl, .bool⟩)
            obtain ⟨d, hd, hvd⟩ := hw
            exact goon rfl hst hvd (.op h rfl (hu32 i rfl) (hv32 j rfl) hsg hd)
        | _ => cases hs
      | _ => cases hs
    | pair aa bb =>
      cases hb
      exact goon rfl rfl (.pair hu hv) (.pair h rfl)
    | call aa bb =>
      cases hb
      cases ps with
      | nil => exact absurd rfl hne
      | cons p ps =>
        have hup : N ≤ N + 1 := Nat.le_succ N
        refine .done (callR_ok hC (tl := false) (ops := ops) h rfl rfl (hu.up hup) (hv.up hup) ⟨rfl, rfl, rfl, rfl, hpl, hne⟩ rfl rfl hr ⟨none, [], fs ++ fs2, rfl, ?_, rfl⟩)
        exact .frame (Nat.lt_succ_of_le (hS.len p List.mem_cons_self)) (hk.up hup) (hS.up hup)
    | _ => cases hb
  | @call2 _ _ _ fs t b e u x tk _ h hu ht =>
    cases ps with
    | nil => exact absurd rfl hne
    | cons p ps =>
      have hup : N ≤ N + 1 := Nat.le_succ N
      exact .done (callR_ok hC (tl := true) (ops := []) h rfl rfl (hu.up hup) (hv.up hup) ⟨rfl, rfl, rfl, rfl, hpl, hne⟩ rfl rfl hr ⟨m, fs, fs2, ht, hS.up hup, rfl⟩)
  | @un _ _ _ _ fs t e tk r _ hu h hk =>
    have goon : ∀ {v' : Val} {w' : D} {rs' : RS}, rs' = ⟨rows, a + 1, bnd, w' :: ops, ps, left, pr, cntA an, none⟩ → LS.step ⟨.rt v, .a t e tk :: (fs ++ fs2), left, pr, an, nx⟩ = some ⟨.rt v', fs ++ fs2, left, pr, an, nx⟩ → VR C N v' w' → RStep C ⟨rows, a, bnd, w :: ops, ps, left, pr, cntA an, none⟩ rs' → Turn P C N n z ⟨rows, a, bnd, w :: ops, ps, left, pr, cntA an, none⟩ := fun {v' w' rs'} e1 h1 h2 h3 => by
      subst e1
      exact .step hr h1 h3 (.rt (m := m) (fs1 := fs) (fs2 := fs2) rfl rfl h2 rfl hk hS ⟨rfl, rfl, rfl, rfl, hpl, hne⟩)
    cases t with
    | ask o aa =>
      cases hu
      cases ps with
      | nil => exact absurd rfl hne
      | cons p ps =>
        have hup : N ≤ N + 1 := Nat.le_succ N
        refine .done (askR_ok hC (ops := ops) h rfl rfl (hv.up hup) ⟨rfl, rfl, rfl, rfl, hpl, hne⟩ rfl rfl hr ?_)
        exact .frame (Nat.lt_succ_of_le (hS.len p List.mem_cons_self)) (hk.up hup) (hS.up hup)
    | nt aa =>
      cases hu
      obtain ⟨n', s', _, hs, _⟩ := hr.go rfl
      cases v with
      | bool b =>
        have := hv.bool_inv
        subst this
        exact goon rfl rfl .bool (.nt h rfl)
      | _ => cases hs
    | fst aa =>
      cases hu
      obtain ⟨n', s', _, hs, _⟩ := hr.go rfl
      cases v with
      | pair c d =>
        obtain ⟨u, x, rfl, h1, h2⟩ := hv.pair_inv
        exact goon rfl rfl h1 (.fst h rfl)
      | _ => cases hs
    | snd aa =>
      cases hu
      obtain ⟨n', s', _, hs, _⟩ := hr.go rfl
      cases v with
      | pair c d =>
        obtain ⟨u, x, rfl, h1, h2⟩ := hv.pair_inv
        exact goon rfl rfl h2 (.snd h rfl)
      | _ => cases hs
    | _ => cases hu
  | @lt Γ _ _ _ _ fs x t b e tk _ h hE hev =>
    exact .step hr (s' := ⟨.ev b (.cons x v e) (tk.drop 1), fs ++ fs2, left, pr, an, nx⟩) rfl (.bind h rfl) (.ev (m := m) (Γ := (x, true) :: Γ) (fs1 := fs) (fs2 := fs2) rfl rfl (.cons hv hE) (hev v w) hS ⟨rfl, rfl, rfl, rfl, hpl, hne⟩)
  | @ite Γ _ _ _ _ fs t b c e tk _ u h hE h1 h2 =>
    obtain ⟨n', s', _, hs, _⟩ := hr.go rfl
    cases v with
    | bool q =>
      have := hv.bool_inv
      subst this
      refine .step hr (s' := ⟨.ev (if q then b else c) e (tk.drop 1), fs ++ fs2, left, pr, an, nx⟩) rfl (.unless h rfl) (.ev (m := m) (Γ := Γ) (fs1 := fs) (fs2 := fs2) rfl rfl hE ?_ hS ⟨rfl, rfl, rfl, rfl, hpl, hne⟩)
      cases q
      · exact h2
      · exact h1
    | _ => cases hs
  | @prt Γ _ _ _ _ fs t b e tk _ h hE h1 =>
    obtain ⟨n', s', _, hs, _⟩ := hr.go rfl
    cases v with
    | int i =>
      have := hv.int_inv
      subst this
      exact .step hr (s' := ⟨.ev b e (tk.drop 1), fs ++ fs2, left, pr ++ [i], an, nx⟩) rfl (.print h rfl) (.ev (m := m) (Γ := Γ) (fs1 := fs) (fs2 := fs2) rfl rfl hE h1 hS ⟨rfl, rfl, rfl, rfl, hpl, hne⟩)
    | _ => cases hs
theorem turn_ok (hC : C.Ok) {s z : LS} {rs : RS} {n : Nat} (hT : TyS s) (hr : PR P n s z) (h : RR C N s rs) : Turn P C N n z rs := by
  cases h with
  | ev h1 h2 h3 h4 h5 h6 => exact ev_ok hC hT hr h1 h2 h3 h4 h5 h6
  | rt h1 h2 h3 h4 h5 h6 h7 => exact rt_ok hC hT hr h1 h2 h3 h4 h5 h6 h7
end
/-- k rows are done; before each B holds -/
inductive RRun (C : Cd) (B : RS → Prop) : Nat → RS → RS → Prop
  | done {s} : s.fin ≠ none → RRun C B 0 s s
  | step {k s s' u} : s.fin = none → B s → RStep C s s' → RRun C B k s' u → RRun C B (k + 1) s u
theorem RR.fin {C : Cd} {N : Nat} {s : LS} {rs : RS} (h : RR C N s rs) : rs.fin = none := by
  cases h with
  | ev _ _ _ _ _ hb => exact hb.fin
  | rt _ _ _ _ _ _ hb => exact hb.fin
/-- the whole run -/
theorem sim_ok {C : Cd} (hC : C.Ok) {NT : Nat} {B : RS → Prop} {P : LS → Prop} (hT : ∀ s, P s → TyS s) (hB : ∀ N s rs, P s → RR C N s rs → N ≤ NT → B rs) {z : LS} :
    ∀ (n f r : Nat) {N : Nat} {s : LS} {rs : RS}, PR P n s z → RR C N s rs → N + n ≤ NT → frs rs.ps = f → rs.rows.length - rs.at_ = r → ∃ k rs', RRun C B k rs rs' ∧ Fin C z rs' := by
  intro n
  induction n using Nat.strongRecOn with
  | _ n ihn =>
  intro f
  induction f using Nat.strongRecOn with
  | _ f ihf =>
  intro r
  induction r using Nat.strongRecOn with
  | _ r ihr =>
  intro N s rs hr h hN ef er
  rcases turn_ok hC (hT s hr.p) hr h with ⟨n', s', hl, hr', h'⟩ | ⟨rs', hs, hf | ⟨N', n', s', hn, hr', h', hl⟩⟩
  · exact ihn n' hl _ _ hr' h' (by omega) rfl rfl
  · obtain ⟨N1, r1, f1, h1, h2, h3⟩ := hf
    exact ⟨1, rs', .step h.fin (hB N s rs hr.p h (by omega)) hs (.done (by rw [h2]; exact fun z => by cases z)), ⟨N1, r1, f1, h1, h2, h3⟩⟩
  · have : ∃ k rs'', RRun C B k rs' rs'' ∧ Fin C z rs'' := by
      rcases hl with hl | ⟨rfl, hl | ⟨hl, hl2⟩⟩
      · exact ihn n' hl _ _ hr' h' (by omega) rfl rfl
      · exact ihf _ (by rw [← ef]; exact hl) _ hr' h' (by omega) rfl rfl
      · exact ihr _ (by rw [← er]; exact hl2) hr' h' (by omega) (by rw [hl, ef]) rfl
    obtain ⟨k, rs'', h1, h2⟩ := this
    exact ⟨k + 1, rs'', .step h.fin (hB N s rs hr.p h (by omega)) hs h1, h2⟩
end TM
/-! TR11: the tables of the pieces. -/
namespace TM
open DL
abbrev NT := List (String × Nat)
def tabD (m : NT) : List (String × D) := m.map fun e => (e.1, D.int (e.2 : Nat))
def putN (s : String) (v : Nat) (m : NT) : NT := if (m.any fun p => decide (p.1 = s)) = true then m.map (fun p => if p.1 = s then (p.1, v) else p) else m ++ [(s, v)]
def putNs (l : List String) (m : NT) : NT := l.foldl (fun m s => putN s 0 m) m
def bmp (n : Nat) (m : NT) : NT := m.map fun e => (e.1, e.2 + n)
theorem tabD_put {s : String} {v : Nat} {m : NT} : putKD s (.int (v : Nat)) (tabD m) = tabD (putN s v m) := by
  have h : ((tabD m).any fun p => decide (p.1 = s)) = m.any fun p => decide (p.1 = s) := by
    induction m with
    | nil => rfl
    | cons e r ih => show (_ || _) = (_ || _); rw [← ih]; rfl
  unfold putKD putN
  rw [h]
  split
  · unfold tabD
    rw [List.map_map, List.map_map]
    refine List.map_congr_left fun e _ => ?_
    show (if e.1 = s then _ else _) = _
    by_cases c : e.1 = s <;> simp [c]
  · simp [tabD]
theorem putN_len {s : String} {v : Nat} {m : NT} : (putN s v m).length ≤ m.length + 1 := by
  unfold putN
  split <;> simp
theorem putN_keys {s : String} {v : Nat} {m : NT} (h : (m.map (·.1)).Nodup) : ((putN s v m).map (·.1)).Nodup := by
  unfold putN
  split
  · rw [List.map_map, show ((fun x : String × Nat => x.1) ∘ fun p : String × Nat => if p.1 = s then (p.1, v) else p) = fun x => x.1 from funext fun e => by simp only [Function.comp]; split <;> rfl]
    exact h
  · rename_i c
    rw [List.map_append]
    refine List.nodup_append.mpr ⟨h, by simp, ?_⟩
    rintro a ha b hb rfl
    simp at hb
    subst hb
    obtain ⟨e, he, rfl⟩ := List.mem_map.mp ha
    exact c (List.any_eq_true.mpr ⟨e, he, by simp⟩)
theorem lk_map {s o : String} {v : Nat} : ∀ {m : NT}, (m.map (fun p => if p.1 = s then (p.1, v) else p)).lookup o = if o = s then (m.lookup o).map fun _ => v else m.lookup o
  | [] => by simp
  | (a, k) :: r => by
    simp only [List.map_cons, List.lookup_cons]
    have ih := lk_map (s := s) (o := o) (v := v) (m := r)
    by_cases c : a = s
    · subst c
      rw [if_pos rfl]
      by_cases d : o = a
      · subst d; simp
      · rw [List.lookup_cons, beq_eq_false_iff_ne.mpr d]
        simpa [d] using ih
    · rw [if_neg c]
      by_cases d : o = a
      · subst d; simp [c]
      · rw [List.lookup_cons, beq_eq_false_iff_ne.mpr d]
        simpa using ih
theorem lk_app {o : String} : ∀ {m r : NT}, (m ++ r).lookup o = (m.lookup o).or (r.lookup o)
  | [], r => by simp
  | (a, k) :: m, r => by
    simp only [List.cons_append, List.lookup_cons]
    by_cases d : o = a
    · subst d; simp
    · rw [beq_eq_false_iff_ne.mpr d]; exact lk_app
theorem lk_none {o : String} : ∀ {m : NT}, m.lookup o = none ↔ o ∉ m.map (·.1)
  | [] => by simp
  | (a, k) :: r => by
    simp only [List.lookup_cons, List.map_cons, List.mem_cons, not_or]
    by_cases d : o = a
    · subst d; simp
    · rw [beq_eq_false_iff_ne.mpr d]; simp [d, lk_none (m := r)]
theorem putN_lk {s o : String} {v : Nat} {m : NT} : (putN s v m).lookup o = if o = s then some v else m.lookup o := by
  unfold putN
  split
  · rename_i c
    rw [lk_map]
    by_cases d : o = s
    · subst d
      rw [if_pos rfl, if_pos rfl]
      cases e : m.lookup o with
      | some k => rfl
      | none =>
        obtain ⟨x, hx, hy⟩ := List.any_eq_true.mp c
        exact absurd (List.mem_map.mpr ⟨x, hx, by simpa using hy⟩) (lk_none.mp e)
    · rw [if_neg d, if_neg d]
  · rename_i c
    rw [lk_app]
    by_cases d : o = s
    · subst d
      have : m.lookup o = none := lk_none.mpr fun z => by
        obtain ⟨x, hx, hy⟩ := List.mem_map.mp z
        exact c (List.any_eq_true.mpr ⟨x, hx, by simp [hy]⟩)
      rw [this]; simp
    · rw [if_neg d]
      cases e : m.lookup o with
      | some k => simp
      | none => simp [List.lookup_cons, beq_eq_false_iff_ne.mpr d]
theorem putNs_lk {o : String} : ∀ {l : List String} {m : NT}, (putNs l m).lookup o = if o ∈ l then some 0 else m.lookup o
  | [], m => by simp [putNs]
  | s :: l, m => by
    have := putNs_lk (o := o) (l := l) (m := putN s 0 m)
    rw [show putNs (s :: l) m = putNs l (putN s 0 m) from rfl, this, putN_lk]
    by_cases c : o ∈ l
    · simp [c]
    · by_cases d : o = s <;> simp [c, d]
theorem putNs_keys : ∀ {l : List String} {m : NT}, (m.map (·.1)).Nodup → ((putNs l m).map (·.1)).Nodup
  | [], m, h => h
  | s :: l, m, h => putNs_keys (l := l) (m := putN s 0 m) (putN_keys h)
theorem bmp_lk {n : Nat} {o : String} : ∀ {m : NT}, (bmp n m).lookup o = (m.lookup o).map (· + n)
  | [] => rfl
  | (a, k) :: r => by
    simp only [bmp, List.map_cons, List.lookup_cons]
    by_cases d : o = a
    · subst d; simp
    · rw [beq_eq_false_iff_ne.mpr d]; exact bmp_lk
theorem bmp_keys {n : Nat} {m : NT} : (bmp n m).map (·.1) = m.map (·.1) := by simp [bmp, Function.comp_def]
structure TabOk (ps : List Pc) (m : NT) : Prop where
  lk : ∀ o, m.lookup o = look ps o
  nd : (m.map (·.1)).Nodup
theorem TabOk.bot {p : Pc} {ps : List Pc} (h : p.kind = 0) : TabOk (p :: ps) [] := ⟨fun o => by rw [look, if_pos h]; rfl, List.nodup_nil⟩
theorem TabOk.han {p : Pc} {ps : List Pc} {m : NT} {a b : D} {cs : List (String × D)} (h : TabOk ps m) (hk : p.kind = 1) (hh : p.h = .tup [a, .dic cs, b]) : TabOk (p :: ps) (putNs (cs.map (·.1)) (bmp 1 m)) := by
  refine ⟨fun o => ?_, putNs_keys (by rw [bmp_keys]; exact h.nd)⟩
  have n0 : ¬ p.kind = 0 := by omega
  rw [putNs_lk, bmp_lk, h.lk, show look (p :: ps) o = if p.hasOp o then some 0 else (look ps o).map (· + 1) by rw [look, if_neg n0, if_pos hk]]
  have : p.hasOp o = decide (o ∈ cs.map (·.1)) := by
    unfold Pc.hasOp
    rw [hh]
    show (cs.lookup o).isSome = _
    clear hh
    induction cs with
    | nil => rfl
    | cons e r ih =>
      rw [List.lookup_cons]
      by_cases d : o = e.1
      · subst d; simp
      · rw [beq_eq_false_iff_ne.mpr d]; simp [d, ih]
  rw [this]
  by_cases c : o ∈ cs.map (·.1)
  · rw [if_pos c, decide_eq_true c]; rfl
  · rw [if_neg c, decide_eq_false c]; rfl
theorem TabOk.place {p : Pc} {ps : List Pc} {m : NT} (h : TabOk (ps.drop p.dist) m) (hk : p.kind = 2) : TabOk (p :: ps) (bmp (p.dist + 1) m) := by
  refine ⟨fun o => ?_, by rw [bmp_keys]; exact h.nd⟩
  rw [bmp_lk, h.lk, look, if_neg (by omega), if_neg (by omega)]
theorem look_has : ∀ (k : Nat) {ps : List Pc} {o : String} {d : Nat}, ps.length ≤ k → look ps o = some d → ∃ p ∈ ps, p.hasOp o = true
  | _, [], _, _, _, h => by rw [look] at h; cases h
  | 0, _ :: _, _, _, hk, _ => by simp at hk
  | k + 1, p :: ps, o, d, hk, h => by
    rw [look] at h
    split at h
    · cases h
    · split at h
      · split at h
        · rename_i c; exact ⟨p, by simp, c⟩
        · cases e : look ps o with
          | none => rw [e] at h; cases h
          | some d' => obtain ⟨q, hq, ho⟩ := look_has k (by simp at hk; omega) e; exact ⟨q, by simp [hq], ho⟩
      · cases e : look (ps.drop p.dist) o with
        | none => rw [e] at h; cases h
        | some d' => obtain ⟨q, hq, ho⟩ := look_has k (by simp at hk ⊢; omega) e; exact ⟨q, by simp [List.mem_of_mem_drop hq], ho⟩
theorem TabOk.len {ps : List Pc} {m : NT} {O : List String} (h : TabOk ps m) (hO : ∀ p ∈ ps, ∀ o, p.hasOp o = true → o ∈ O) : m.length ≤ O.length := by
  have : (m.map (·.1)).length ≤ O.length := nodup_len h.nd fun o ho => by
    cases e : m.lookup o with
    | none => exact absurd ho (lk_none.mp e)
    | some d =>
      rw [h.lk] at e
      obtain ⟨p, hp, hq⟩ := look_has _ (Nat.le_refl _) e
      exact hO p hp o hq
  simpa using this
end TM
/-! TR12: what is shown of a value. -/
namespace TM
open DL
/-- what is shown of a value -/
def shD : D → D
  | .tup [.str "pair", u, w] => .tup [.str "pair", shD u, shD w]
  | .tup (.str "int" :: l) => .tup (.str "int" :: l)
  | .tup (.str "bool" :: l) => .tup (.str "bool" :: l)
  | .tup (.str "unit" :: l) => .tup (.str "unit" :: l)
  | _ => .tup [.str "fun"]
def finD : Option Rn → D
  | none => .non
  | some .steps => .tup [.str "steps"]
  | some (.unhandled o) => .tup [.str "unhandled", .str o]
  | some (.val w) => .tup [.str "value", shD w]
def Val.shp : Val → D
  | .int i => .tup [.str "int", .int i]
  | .bool b => .tup [.str "bool", .bl b]
  | .unit => .tup [.str "unit"]
  | .pair a b => .tup [.str "pair", a.shp, b.shp]
  | .fn _ _ _ _ => .tup [.str "fun"]
  | .kept _ => .tup [.str "fun"]
def Val.pdp : Val → Nat
  | .pair a b => max a.pdp b.pdp + 1
  | _ => 0
def resD : Res → D
  | .steps => .tup [.str "steps"]
  | .unhandled o => .tup [.str "unhandled", .str o]
  | .val v => .tup [.str "value", v.shp]
theorem VR.sh {C : Cd} {N : Nat} : ∀ {v : Val} {w : D}, VR C N v w → shD w = v.shp
  | _, _, .int => by simp [shD, Val.shp]
  | _, _, .bool => by simp [shD, Val.shp]
  | _, _, .unit => by simp [shD, Val.shp]
  | _, _, .pair a b => by simp [shD, Val.shp, VR.sh a, VR.sh b]
  | _, _, .fn _ _ _ => by simp [shD, Val.shp]
  | _, _, .rc _ _ _ _ => by simp [shD, Val.shp]
  | _, _, .kept _ _ _ => by simp [shD, Val.shp]
theorem FinR.d {C : Cd} {N : Nat} {r : Res} {f : Rn} (h : FinR C N r f) : finD (some f) = resD r := by
  cases h with
  | steps => rfl
  | unhandled => rfl
  | val h => simp [finD, resD, h.sh]
end TM
/-! TR13: what the compiler needs to know of an expression; the code of a whole one. -/
namespace TM
open DL
mutual
/-- the clauses' operations are of O, each once in a handler -/
def Tm.hop (O : List String) (F : Bool → Prop) : Tm → Prop
  | .num _ => True | .flag _ => True | .unit => True | .name _ => True
  | .fn _ b => b.hop O F | .rc _ _ b => b.hop O F
  | .lt _ a b => a.hop O F ∧ b.hop O F | .op _ a b => a.hop O F ∧ b.hop O F | .ask _ a => a.hop O F
  | .fst a => a.hop O F | .snd a => a.hop O F | .nt a => a.hop O F
  | .ite a b c => a.hop O F ∧ b.hop O F ∧ c.hop O F | .call a b => a.hop O F ∧ b.hop O F | .pair a b => a.hop O F ∧ b.hop O F | .prt a b => a.hop O F ∧ b.hop O F
  | .han e _ b cs => e.hop O F ∧ b.hop O F ∧ cs.hop O F ∧ cs.ops.Nodup
def Cls.hop (O : List String) (F : Bool → Prop) : Cls → Prop
  | .nil => True
  | .cons o _ k b r => o ∈ O ∧ F (b.once k) ∧ b.hop O F ∧ r.hop O F
end
structure Cg (P : String → Prop) (O : List String) (F : Bool → Prop) (N : Nat) (t : Tm) (Γ : List String) : Prop where
  fv : ∀ y, t.fv y = true → y ∈ Γ
  ok : t.ok P
  hop : t.hop O F
  dep : t.dep ≤ N
theorem ans_sz : ∀ t : Tm, t.ans.sz ≤ t.sz
  | .call a b => by simp only [Tm.ans, Tm.sz]; omega
  | .lt x a b => by have := ans_sz b; simp only [Tm.ans, Tm.sz]; omega
  | .ite a b c => by have := ans_sz b; have := ans_sz c; simp only [Tm.ans, Tm.sz]; omega
  | .prt a b => by have := ans_sz b; simp only [Tm.ans, Tm.sz]; omega
  | .num _ => Nat.le_refl _ | .flag _ => Nat.le_refl _ | .unit => Nat.le_refl _ | .name _ => Nat.le_refl _ | .fn _ _ => Nat.le_refl _ | .rc _ _ _ => Nat.le_refl _
  | .op _ _ _ => Nat.le_refl _ | .ask _ _ => Nat.le_refl _ | .fst _ => Nat.le_refl _ | .snd _ => Nat.le_refl _ | .nt _ => Nat.le_refl _ | .pair _ _ => Nat.le_refl _ | .han _ _ _ _ => Nat.le_refl _
theorem ans_dep : ∀ t : Tm, t.ans.dep ≤ t.dep
  | .call a b => by simp only [Tm.ans, Tm.dep]; omega
  | .lt x a b => by have := ans_dep b; simp only [Tm.ans, Tm.dep]; omega
  | .ite a b c => by have := ans_dep b; have := ans_dep c; simp only [Tm.ans, Tm.dep]; omega
  | .prt a b => by have := ans_dep b; simp only [Tm.ans, Tm.dep]; omega
  | .num _ => Nat.le_refl _ | .flag _ => Nat.le_refl _ | .unit => Nat.le_refl _ | .name _ => Nat.le_refl _ | .fn _ _ => Nat.le_refl _ | .rc _ _ _ => Nat.le_refl _
  | .op _ _ _ => Nat.le_refl _ | .ask _ _ => Nat.le_refl _ | .fst _ => Nat.le_refl _ | .snd _ => Nat.le_refl _ | .nt _ => Nat.le_refl _ | .pair _ _ => Nat.le_refl _ | .han _ _ _ _ => Nat.le_refl _
theorem ans_ok {P : String → Prop} : ∀ {t : Tm}, t.ok P → t.ans.ok P
  | .call a b, h => h.2
  | .lt x a b, h => ⟨h.1, h.2.1, ans_ok h.2.2⟩
  | .ite a b c, h => ⟨h.1, ans_ok h.2.1, ans_ok h.2.2⟩
  | .prt a b, h => ⟨h.1, ans_ok h.2⟩
  | .num _, h => h | .flag _, h => h | .unit, h => h | .name _, h => h | .fn _ _, h => h | .rc _ _ _, h => h
  | .op _ _ _, h => h | .ask _ _, h => h | .fst _, h => h | .snd _, h => h | .nt _, h => h | .pair _ _, h => h | .han _ _ _ _, h => h
theorem ans_hop {O : List String} {F : Bool → Prop} : ∀ {t : Tm}, t.hop O F → t.ans.hop O F
  | .call a b, h => h.2
  | .lt x a b, h => ⟨h.1, ans_hop h.2⟩
  | .ite a b c, h => ⟨h.1, ans_hop h.2.1, ans_hop h.2.2⟩
  | .prt a b, h => ⟨h.1, ans_hop h.2⟩
  | .num _, h => h | .flag _, h => h | .unit, h => h | .name _, h => h | .fn _ _, h => h | .rc _ _ _, h => h
  | .op _ _ _, h => h | .ask _ _, h => h | .fst _, h => h | .snd _, h => h | .nt _, h => h | .pair _ _, h => h | .han _ _ _ _, h => h
def szI (l : List It) : Nat := (l.map fun i => i.1.sz).sum
theorem szI_app {a b : List It} : szI (a ++ b) = szI a + szI b := by simp [szI]
theorem szI_cons {t : Tm} {Γ : List String} {b : List It} : szI ((t, Γ) :: b) = t.sz + szI b := by simp [szI]
theorem its_sz (Γ : List String) : ∀ cs : Cls, szI (cs.its Γ) ≤ cs.sz
  | .nil => Nat.le_refl _
  | .cons o x k b r => by
    have := its_sz Γ r
    have := ans_sz b
    simp only [Cls.its, Cls.sz, szI_cons]
    split <;> omega
theorem cv_sz : ∀ (t : Tm) (Γ : List String) (a q : Nat), szI (cv t Γ a q).2 + 1 ≤ t.sz ∧ (cv t Γ a q).1.length ≤ 3 * t.sz
  | .num _, _, _, _ => ⟨by simp [cv, szI, Tm.sz], by simp [cv, Tm.sz]⟩
  | .flag _, _, _, _ => ⟨by simp [cv, szI, Tm.sz], by simp [cv, Tm.sz]⟩
  | .unit, _, _, _ => ⟨by simp [cv, szI, Tm.sz], by simp [cv, Tm.sz]⟩
  | .name _, _, _, _ => ⟨by simp [cv, szI, Tm.sz], by simp [cv, Tm.sz]⟩
  | .fn _ b, _, _, _ => ⟨by simp [cv, szI, Tm.sz], by simp [cv, Tm.sz]; omega⟩
  | .rc _ _ b, _, _, _ => ⟨by simp [cv, szI, Tm.sz], by simp [cv, Tm.sz]; omega⟩
  | .lt x t u, Γ, a, q => by
    have h1 := cv_sz t Γ a q
    have h2 := cv_sz u (Γ ++ [x]) (a + (cv t Γ a q).1.length + 1) (q + (cv t Γ a q).2.length)
    simp only [cv, szI_app, Tm.sz, List.length_append, List.length_cons, List.length_nil]; omega
  | .op _ t u, Γ, a, q => by
    have h1 := cv_sz t Γ a q
    have h2 := cv_sz u Γ (a + (cv t Γ a q).1.length) (q + (cv t Γ a q).2.length)
    simp only [cv, szI_app, Tm.sz, List.length_append, List.length_cons, List.length_nil]; omega
  | .call t u, Γ, a, q => by
    have h1 := cv_sz t Γ a q
    have h2 := cv_sz u Γ (a + (cv t Γ a q).1.length) (q + (cv t Γ a q).2.length)
    simp only [cv, szI_app, Tm.sz, List.length_append, List.length_cons, List.length_nil]; omega
  | .pair t u, Γ, a, q => by
    have h1 := cv_sz t Γ a q
    have h2 := cv_sz u Γ (a + (cv t Γ a q).1.length) (q + (cv t Γ a q).2.length)
    simp only [cv, szI_app, Tm.sz, List.length_append, List.length_cons, List.length_nil]; omega
  | .ask _ t, Γ, a, q => by
    have h1 := cv_sz t Γ a q
    simp only [cv, Tm.sz, List.length_append, List.length_cons, List.length_nil]; omega
  | .fst t, Γ, a, q => by
    have h1 := cv_sz t Γ a q
    simp only [cv, Tm.sz, List.length_append, List.length_cons, List.length_nil]; omega
  | .snd t, Γ, a, q => by
    have h1 := cv_sz t Γ a q
    simp only [cv, Tm.sz, List.length_append, List.length_cons, List.length_nil]; omega
  | .nt t, Γ, a, q => by
    have h1 := cv_sz t Γ a q
    simp only [cv, Tm.sz, List.length_append, List.length_cons, List.length_nil]; omega
  | .ite t u w, Γ, a, q => by
    have h1 := cv_sz t Γ a q
    have h2 := cv_sz u Γ (a + (cv t Γ a q).1.length + 1) (q + (cv t Γ a q).2.length)
    have h3 := cv_sz w Γ (a + (cv t Γ a q).1.length + 1 + (cv u Γ (a + (cv t Γ a q).1.length + 1) (q + (cv t Γ a q).2.length)).1.length + 1) (q + (cv t Γ a q).2.length + (cv u Γ (a + (cv t Γ a q).1.length + 1) (q + (cv t Γ a q).2.length)).2.length)
    simp only [cv, szI_app, Tm.sz, List.length_append, List.length_cons, List.length_nil]; omega
  | .prt t u, Γ, a, q => by
    have h1 := cv_sz t Γ a q
    have h2 := cv_sz u Γ (a + (cv t Γ a q).1.length + 1) (q + (cv t Γ a q).2.length)
    simp only [cv, szI_app, Tm.sz, List.length_append, List.length_cons, List.length_nil]; omega
  | .han e r b cs, Γ, a, q => by
    have := its_sz Γ cs
    refine ⟨?_, by simp [cv, Tm.sz]; omega⟩
    simp only [cv, szI_cons, Tm.sz]; omega
theorem cl_sz : ∀ (t : Tm) (Γ : List String) (a q : Nat), szI (cl t Γ a q).2 + 1 ≤ t.sz ∧ (cl t Γ a q).1.length ≤ 3 * t.sz + 1
  | .lt x t u, Γ, a, q => by
    have h1 := cv_sz t Γ a q
    have h2 := cl_sz u (Γ ++ [x]) (a + (cv t Γ a q).1.length + 1) (q + (cv t Γ a q).2.length)
    simp only [cl, szI_app, Tm.sz, List.length_append, List.length_cons, List.length_nil]; omega
  | .call t u, Γ, a, q => by
    have h1 := cv_sz t Γ a q
    have h2 := cv_sz u Γ (a + (cv t Γ a q).1.length) (q + (cv t Γ a q).2.length)
    simp only [cl, szI_app, Tm.sz, List.length_append, List.length_cons, List.length_nil]; omega
  | .ite t u w, Γ, a, q => by
    have h1 := cv_sz t Γ a q
    have h2 := cl_sz u Γ (a + (cv t Γ a q).1.length + 1) (q + (cv t Γ a q).2.length)
    have h3 := cl_sz w Γ (a + (cv t Γ a q).1.length + 1 + (cl u Γ (a + (cv t Γ a q).1.length + 1) (q + (cv t Γ a q).2.length)).1.length) (q + (cv t Γ a q).2.length + (cl u Γ (a + (cv t Γ a q).1.length + 1) (q + (cv t Γ a q).2.length)).2.length)
    simp only [cl, szI_app, Tm.sz, List.length_append, List.length_cons, List.length_nil]; omega
  | .prt t u, Γ, a, q => by
    have h1 := cv_sz t Γ a q
    have h2 := cl_sz u Γ (a + (cv t Γ a q).1.length + 1) (q + (cv t Γ a q).2.length)
    simp only [cl, szI_app, Tm.sz, List.length_append, List.length_cons, List.length_nil]; omega
  | .num v0, Γ, a, q => by
    have h := cv_sz (.num v0) Γ a q
    simp only [cl, List.length_append, List.length_cons, List.length_nil]; omega
  | .flag v0, Γ, a, q => by
    have h := cv_sz (.flag v0) Γ a q
    simp only [cl, List.length_append, List.length_cons, List.length_nil]; omega
  | .unit, Γ, a, q => by
    have h := cv_sz (.unit) Γ a q
    simp only [cl, List.length_append, List.length_cons, List.length_nil]; omega
  | .name v0, Γ, a, q => by
    have h := cv_sz (.name v0) Γ a q
    simp only [cl, List.length_append, List.length_cons, List.length_nil]; omega
  | .fn v0 v1, Γ, a, q => by
    have h := cv_sz (.fn v0 v1) Γ a q
    simp only [cl, List.length_append, List.length_cons, List.length_nil]; omega
  | .rc v0 v1 v2, Γ, a, q => by
    have h := cv_sz (.rc v0 v1 v2) Γ a q
    simp only [cl, List.length_append, List.length_cons, List.length_nil]; omega
  | .op v0 v1 v2, Γ, a, q => by
    have h := cv_sz (.op v0 v1 v2) Γ a q
    simp only [cl, List.length_append, List.length_cons, List.length_nil]; omega
  | .ask v0 v1, Γ, a, q => by
    have h := cv_sz (.ask v0 v1) Γ a q
    simp only [cl, List.length_append, List.length_cons, List.length_nil]; omega
  | .fst v0, Γ, a, q => by
    have h := cv_sz (.fst v0) Γ a q
    simp only [cl, List.length_append, List.length_cons, List.length_nil]; omega
  | .snd v0, Γ, a, q => by
    have h := cv_sz (.snd v0) Γ a q
    simp only [cl, List.length_append, List.length_cons, List.length_nil]; omega
  | .nt v0, Γ, a, q => by
    have h := cv_sz (.nt v0) Γ a q
    simp only [cl, List.length_append, List.length_cons, List.length_nil]; omega
  | .pair v0 v1, Γ, a, q => by
    have h := cv_sz (.pair v0 v1) Γ a q
    simp only [cl, List.length_append, List.length_cons, List.length_nil]; omega
  | .han v0 v1 v2 v3, Γ, a, q => by
    have h := cv_sz (.han v0 v1 v2 v3) Γ a q
    simp only [cl, List.length_append, List.length_cons, List.length_nil]; omega
theorem sz_pos : ∀ t : Tm, 1 ≤ t.sz := fun t => by cases t <;> simp only [Tm.sz] <;> omega
theorem szI_len : ∀ l : List It, l.length ≤ szI l
  | [] => Nat.le_refl _
  | (t, Γ) :: r => by have := szI_len r; have := sz_pos t; rw [szI_cons]; simp; omega
/-! what the blocks keep -/
theorem Cg.mono {P : String → Prop} {O : List String} {F : Bool → Prop} {N M : Nat} {t : Tm} {Γ : List String} (h : Cg P O F N t Γ) (e : N ≤ M) : Cg P O F M t Γ := ⟨h.fv, h.ok, h.hop, Nat.le_trans h.dep e⟩
/-- an item and its names -/
structure Ig (P : String → Prop) (O : List String) (F : Bool → Prop) (N : Nat) (i : It) : Prop where
  g : Cg P O F N i.1 i.2
  len : i.2.length + i.1.dep * 2 ≤ 1000
theorem its_g {P : String → Prop} {O : List String} {F : Bool → Prop} {N : Nat} {Γ : List String} : ∀ {cs : Cls}, (∀ y, cs.fv y = true → y ∈ Γ) → cs.ok P → cs.hop O F → cs.dep ≤ N → Γ.length + cs.dep * 2 + 2 ≤ 1000 → ∀ i ∈ cs.its Γ, Ig P O F N i
  | .nil, _, _, _, _, _, i, hi => by cases hi
  | .cons o x k b r, hf, ho, hh, hd, hl, i, hi => by
    simp only [Cls.dep] at hd hl
    simp only [Cls.its, List.mem_cons] at hi
    have fvb : ∀ y, b.fv y = true → y ∈ Γ ++ [x, k] := fun y hy => by
      by_cases c1 : x = y
      · simp [c1]
      · by_cases c2 : k = y
        · simp [c2]
        · have := hf y (by simp [Cls.fv, hy, c1, c2])
          simp [this]
    rcases hi with rfl | hi
    · by_cases c : b.once k = true
      · rw [if_pos c]
        exact ⟨⟨fun y hy => fvb y (ans_fv c y hy).1, ans_ok ho.2.2.2.1, ans_hop hh.2.2.1, Nat.le_trans (ans_dep b) (by omega)⟩, by have := ans_dep b; simp; omega⟩
      · rw [if_neg c]
        exact ⟨⟨fvb, ho.2.2.2.1, hh.2.2.1, by simp; omega⟩, by simp; omega⟩
    · exact its_g (fun y hy => hf y (by simp [Cls.fv, hy])) ho.2.2.2.2 hh.2.2.2 (by omega) (by omega) i hi
def RowOk (O : List String) (F : Bool → Prop) : Row → Prop
  | .load i => i < 1001
  | .handle _ _ cs => (∀ c ∈ cs, c.1 ∈ O ∧ F c.2.2) ∧ cs.length ≤ 4
  | _ => True
theorem rows_g {O : List String} {F : Bool → Prop} : ∀ {cs : Cls} {q : Nat}, cs.hop O F → (∀ c ∈ cs.rows q, c.1 ∈ O ∧ F c.2.2) ∧ (cs.rows q).length = cs.len
  | .nil, q, _ => ⟨fun c hc => (by cases hc), rfl⟩
  | .cons o x k b r, q, h => by
    obtain ⟨h1, h2⟩ := rows_g (q := q + 1) h.2.2.2
    refine ⟨fun c hc => ?_, by simp [Cls.rows, Cls.len, h2]⟩
    rcases List.mem_cons.mp hc with rfl | hc
    · exact ⟨h.1, h.2.1⟩
    · exact h1 c hc
section
variable {P : String → Prop} {O : List String} {F : Bool → Prop} {N : Nat}
/-- what the code of an expression keeps -/
def Kg (P : String → Prop) (O : List String) (F : Bool → Prop) (N : Nat) (c : List Row × List It) : Prop := (∀ r ∈ c.1, RowOk O F r) ∧ ∀ i ∈ c.2, Ig P O F N i
theorem Kg.app {r1 r2 : List Row} {i1 i2 : List It} (h1 : Kg P O F N (r1, i1)) (h2 : Kg P O F N (r2, i2)) : Kg P O F N (r1 ++ r2, i1 ++ i2) :=
  ⟨fun r hr => by rcases List.mem_append.mp hr with h | h; exact h1.1 r h; exact h2.1 r h, fun i hi => by rcases List.mem_append.mp hi with h | h; exact h1.2 i h; exact h2.2 i h⟩
theorem Kg.row {r1 : List Row} {i1 : List It} {r : Row} (h1 : Kg P O F N (r1, i1)) (h : RowOk O F r) : Kg P O F N (r1 ++ [r], i1) :=
  ⟨fun x hx => by rcases List.mem_append.mp hx with g | g; exact h1.1 x g; rw [List.mem_singleton.mp g]; exact h, h1.2⟩
theorem Kg.cons {r1 : List Row} {i1 : List It} {r : Row} (h : RowOk O F r) (h1 : Kg P O F N (r1, i1)) : Kg P O F N (r :: r1, i1) :=
  ⟨fun x hx => by rcases List.mem_cons.mp hx with g | g; rw [g]; exact h; exact h1.1 x g, h1.2⟩
theorem cv_g : ∀ (t : Tm) (Γ : List String) (a q : Nat), Cg P O F N t Γ → Γ.length + t.dep * 2 ≤ 1000 → Kg P O F N (cv t Γ a q)
  | .num i, Γ, a, q, h, hl => ⟨fun r hr => by rw [List.mem_singleton.mp hr]; trivial, fun i hi => by cases hi⟩
  | .flag i, Γ, a, q, h, hl => ⟨fun r hr => by rw [List.mem_singleton.mp hr]; trivial, fun i hi => by cases hi⟩
  | .unit, Γ, a, q, h, hl => ⟨fun r hr => by rw [List.mem_singleton.mp hr]; trivial, fun i hi => by cases hi⟩
  | .name x, Γ, a, q, h, hl => ⟨fun r hr => by
      rw [List.mem_singleton.mp hr]
      have := h.fv x (by simp [Tm.fv])
      have := List.idxOf_lt_length_of_mem (List.mem_reverse.mpr this)
      rw [List.length_reverse] at this
      show Γ.reverse.idxOf x < 1001
      simp only [Tm.dep] at hl
      omega, fun i hi => by cases hi⟩
  | .fn x b, Γ, a, q, h, hl => ⟨fun r hr => by rw [List.mem_singleton.mp hr]; trivial, fun i hi => by
      rw [List.mem_singleton.mp hi]
      have hd := h.dep
      simp only [Tm.dep] at hl hd
      refine ⟨⟨fun y hy => ?_, h.ok.2, h.hop, by simp; omega⟩, by simp; omega⟩
      by_cases c : x = y
      · simp [c]
      · have := h.fv y (by simp [Tm.fv, hy, c]); simp [this]⟩
  | .rc f x b, Γ, a, q, h, hl => ⟨fun r hr => by rw [List.mem_singleton.mp hr]; trivial, fun i hi => by
      rw [List.mem_singleton.mp hi]
      have hd := h.dep
      simp only [Tm.dep] at hl hd
      refine ⟨⟨fun y hy => ?_, h.ok.2.2, h.hop, by simp; omega⟩, by simp; omega⟩
      by_cases c : x = y
      · simp [c]
      · by_cases c2 : f = y
        · simp [c2]
        · have := h.fv y (by simp [Tm.fv, hy, c, c2]); simp [this]⟩
  | .lt x t u, Γ, a, q, h, hl => by
    have hd := h.dep
    simp only [Tm.dep] at hl hd
    have h1 := cv_g t Γ a q ⟨fun y hy => h.fv y (by simp [Tm.fv, hy]), h.ok.2.1, h.hop.1, by omega⟩ (by omega)
    have h2 := cv_g u (Γ ++ [x]) (a + (cv t Γ a q).1.length + 1) (q + (cv t Γ a q).2.length) ⟨fun y hy => by
      by_cases c : x = y
      · simp [c]
      · have := h.fv y (by simp [Tm.fv, hy, c]); simp [this], h.ok.2.2, h.hop.2, by omega⟩ (by simp; omega)
    exact Kg.app h1 (Kg.cons trivial (Kg.row h2 trivial))
  | .op s t u, Γ, a, q, h, hl => by
    have hd := h.dep
    simp only [Tm.dep] at hl hd
    have h1 := cv_g t Γ a q ⟨fun y hy => h.fv y (by simp [Tm.fv, hy]), h.ok.2.1, h.hop.1, by omega⟩ (by omega)
    have h2 := cv_g u Γ (a + (cv t Γ a q).1.length) (q + (cv t Γ a q).2.length) ⟨fun y hy => h.fv y (by simp [Tm.fv, hy]), h.ok.2.2, h.hop.2, by omega⟩ (by omega)
    exact Kg.app h1 (Kg.row h2 trivial)
  | .call t u, Γ, a, q, h, hl => by
    have hd := h.dep
    simp only [Tm.dep] at hl hd
    have h1 := cv_g t Γ a q ⟨fun y hy => h.fv y (by simp [Tm.fv, hy]), h.ok.1, h.hop.1, by omega⟩ (by omega)
    have h2 := cv_g u Γ (a + (cv t Γ a q).1.length) (q + (cv t Γ a q).2.length) ⟨fun y hy => h.fv y (by simp [Tm.fv, hy]), h.ok.2, h.hop.2, by omega⟩ (by omega)
    exact Kg.app h1 (Kg.row h2 trivial)
  | .pair t u, Γ, a, q, h, hl => by
    have hd := h.dep
    simp only [Tm.dep] at hl hd
    have h1 := cv_g t Γ a q ⟨fun y hy => h.fv y (by simp [Tm.fv, hy]), h.ok.1, h.hop.1, by omega⟩ (by omega)
    have h2 := cv_g u Γ (a + (cv t Γ a q).1.length) (q + (cv t Γ a q).2.length) ⟨fun y hy => h.fv y (by simp [Tm.fv, hy]), h.ok.2, h.hop.2, by omega⟩ (by omega)
    exact Kg.app h1 (Kg.row h2 trivial)
  | .ask o t, Γ, a, q, h, hl => by
    have hd := h.dep
    simp only [Tm.dep] at hl hd
    exact Kg.row (cv_g t Γ a q ⟨fun y hy => h.fv y (by simp [Tm.fv, hy]), h.ok.2, h.hop, by omega⟩ (by omega)) trivial
  | .fst t, Γ, a, q, h, hl => by
    have hd := h.dep
    simp only [Tm.dep] at hl hd
    exact Kg.row (cv_g t Γ a q ⟨fun y hy => h.fv y (by simp [Tm.fv, hy]), h.ok, h.hop, by omega⟩ (by omega)) trivial
  | .snd t, Γ, a, q, h, hl => by
    have hd := h.dep
    simp only [Tm.dep] at hl hd
    exact Kg.row (cv_g t Γ a q ⟨fun y hy => h.fv y (by simp [Tm.fv, hy]), h.ok, h.hop, by omega⟩ (by omega)) trivial
  | .nt t, Γ, a, q, h, hl => by
    have hd := h.dep
    simp only [Tm.dep] at hl hd
    exact Kg.row (cv_g t Γ a q ⟨fun y hy => h.fv y (by simp [Tm.fv, hy]), h.ok, h.hop, by omega⟩ (by omega)) trivial
  | .ite t u w, Γ, a, q, h, hl => by
    have hd := h.dep
    simp only [Tm.dep] at hl hd
    have h1 := cv_g t Γ a q ⟨fun y hy => h.fv y (by simp [Tm.fv, hy]), h.ok.1, h.hop.1, by omega⟩ (by omega)
    have h2 := cv_g u Γ (a + (cv t Γ a q).1.length + 1) (q + (cv t Γ a q).2.length) ⟨fun y hy => h.fv y (by simp [Tm.fv, hy]), h.ok.2.1, h.hop.2.1, by omega⟩ (by omega)
    have h3 := cv_g w Γ (a + (cv t Γ a q).1.length + 1 + (cv u Γ (a + (cv t Γ a q).1.length + 1) (q + (cv t Γ a q).2.length)).1.length + 1) (q + (cv t Γ a q).2.length + (cv u Γ (a + (cv t Γ a q).1.length + 1) (q + (cv t Γ a q).2.length)).2.length) ⟨fun y hy => h.fv y (by simp [Tm.fv, hy]), h.ok.2.2, h.hop.2.2, by omega⟩ (by omega)
    exact Kg.app h1 (Kg.cons trivial (Kg.app h2 (Kg.cons trivial h3)))
  | .prt t u, Γ, a, q, h, hl => by
    have hd := h.dep
    simp only [Tm.dep] at hl hd
    have h1 := cv_g t Γ a q ⟨fun y hy => h.fv y (by simp [Tm.fv, hy]), h.ok.1, h.hop.1, by omega⟩ (by omega)
    have h2 := cv_g u Γ (a + (cv t Γ a q).1.length + 1) (q + (cv t Γ a q).2.length) ⟨fun y hy => h.fv y (by simp [Tm.fv, hy]), h.ok.2, h.hop.2, by omega⟩ (by omega)
    exact Kg.app h1 (Kg.cons trivial h2)
  | .han e r b cs, Γ, a, q, h, hl => by
    have hd := h.dep
    simp only [Tm.dep] at hl hd
    obtain ⟨o1, o2, o3, o4, o5⟩ := h.ok
    refine ⟨fun x hx => by rw [List.mem_singleton.mp hx]; exact ⟨(rows_g h.hop.2.2.1).1, by rw [(rows_g h.hop.2.2.1).2]; exact o4⟩, fun i hi => ?_⟩
    simp only [cv, List.mem_cons] at hi
    rcases hi with rfl | rfl | hi
    · exact ⟨⟨fun y hy => h.fv y (by simp [Tm.fv, hy]), o2, h.hop.1, by simp; omega⟩, by simp; omega⟩
    · refine ⟨⟨fun y hy => ?_, o3, h.hop.2.1, by simp; omega⟩, by simp; omega⟩
      by_cases c : r = y
      · simp [c]
      · have := h.fv y (by simp [Tm.fv, hy, c]); simp [this]
    · exact its_g (fun y hy => h.fv y (by simp [Tm.fv, hy])) o5 h.hop.2.2.1 (by omega) (by omega) i hi
theorem cl_g : ∀ (t : Tm) (Γ : List String) (a q : Nat), Cg P O F N t Γ → Γ.length + t.dep * 2 ≤ 1000 → Kg P O F N (cl t Γ a q)
  | .lt x t u, Γ, a, q, h, hl => by
    have hd := h.dep
    simp only [Tm.dep] at hl hd
    have h1 := cv_g (P := P) (O := O) (F := F) (N := N) t Γ a q ⟨fun y hy => h.fv y (by simp [Tm.fv, hy]), h.ok.2.1, h.hop.1, by omega⟩ (by omega)
    have h2 := cl_g u (Γ ++ [x]) (a + (cv t Γ a q).1.length + 1) (q + (cv t Γ a q).2.length) ⟨fun y hy => by
      by_cases c : x = y
      · simp [c]
      · have := h.fv y (by simp [Tm.fv, hy, c]); simp [this], h.ok.2.2, h.hop.2, by omega⟩ (by simp; omega)
    exact Kg.app h1 (Kg.cons trivial h2)
  | .call t u, Γ, a, q, h, hl => by
    have hd := h.dep
    simp only [Tm.dep] at hl hd
    have h1 := cv_g (P := P) (O := O) (F := F) (N := N) t Γ a q ⟨fun y hy => h.fv y (by simp [Tm.fv, hy]), h.ok.1, h.hop.1, by omega⟩ (by omega)
    have h2 := cv_g (P := P) (O := O) (F := F) (N := N) u Γ (a + (cv t Γ a q).1.length) (q + (cv t Γ a q).2.length) ⟨fun y hy => h.fv y (by simp [Tm.fv, hy]), h.ok.2, h.hop.2, by omega⟩ (by omega)
    exact Kg.app h1 (Kg.row h2 trivial)
  | .ite t u w, Γ, a, q, h, hl => by
    have hd := h.dep
    simp only [Tm.dep] at hl hd
    have h1 := cv_g (P := P) (O := O) (F := F) (N := N) t Γ a q ⟨fun y hy => h.fv y (by simp [Tm.fv, hy]), h.ok.1, h.hop.1, by omega⟩ (by omega)
    have h2 := cl_g u Γ (a + (cv t Γ a q).1.length + 1) (q + (cv t Γ a q).2.length) ⟨fun y hy => h.fv y (by simp [Tm.fv, hy]), h.ok.2.1, h.hop.2.1, by omega⟩ (by omega)
    have h3 := cl_g w Γ (a + (cv t Γ a q).1.length + 1 + (cl u Γ (a + (cv t Γ a q).1.length + 1) (q + (cv t Γ a q).2.length)).1.length) (q + (cv t Γ a q).2.length + (cl u Γ (a + (cv t Γ a q).1.length + 1) (q + (cv t Γ a q).2.length)).2.length) ⟨fun y hy => h.fv y (by simp [Tm.fv, hy]), h.ok.2.2, h.hop.2.2, by omega⟩ (by omega)
    exact Kg.app h1 (Kg.cons trivial (Kg.app h2 h3))
  | .prt t u, Γ, a, q, h, hl => by
    have hd := h.dep
    simp only [Tm.dep] at hl hd
    have h1 := cv_g (P := P) (O := O) (F := F) (N := N) t Γ a q ⟨fun y hy => h.fv y (by simp [Tm.fv, hy]), h.ok.1, h.hop.1, by omega⟩ (by omega)
    have h2 := cl_g u Γ (a + (cv t Γ a q).1.length + 1) (q + (cv t Γ a q).2.length) ⟨fun y hy => h.fv y (by simp [Tm.fv, hy]), h.ok.2, h.hop.2, by omega⟩ (by omega)
    exact Kg.app h1 (Kg.cons trivial h2)
  | .num v0, Γ, a, q, h, hl => Kg.row (cv_g (.num v0) Γ a q h hl) trivial
  | .flag v0, Γ, a, q, h, hl => Kg.row (cv_g (.flag v0) Γ a q h hl) trivial
  | .unit, Γ, a, q, h, hl => Kg.row (cv_g (.unit) Γ a q h hl) trivial
  | .name v0, Γ, a, q, h, hl => Kg.row (cv_g (.name v0) Γ a q h hl) trivial
  | .fn v0 v1, Γ, a, q, h, hl => Kg.row (cv_g (.fn v0 v1) Γ a q h hl) trivial
  | .rc v0 v1 v2, Γ, a, q, h, hl => Kg.row (cv_g (.rc v0 v1 v2) Γ a q h hl) trivial
  | .op v0 v1 v2, Γ, a, q, h, hl => Kg.row (cv_g (.op v0 v1 v2) Γ a q h hl) trivial
  | .ask v0 v1, Γ, a, q, h, hl => Kg.row (cv_g (.ask v0 v1) Γ a q h hl) trivial
  | .fst v0, Γ, a, q, h, hl => Kg.row (cv_g (.fst v0) Γ a q h hl) trivial
  | .snd v0, Γ, a, q, h, hl => Kg.row (cv_g (.snd v0) Γ a q h hl) trivial
  | .nt v0, Γ, a, q, h, hl => Kg.row (cv_g (.nt v0) Γ a q h hl) trivial
  | .pair v0 v1, Γ, a, q, h, hl => Kg.row (cv_g (.pair v0 v1) Γ a q h hl) trivial
  | .han v0 v1 v2 v3, Γ, a, q, h, hl => Kg.row (cv_g (.han v0 v1 v2 v3) Γ a q h hl) trivial
end
end TM
/-! TR14: blocks compiled one by one. -/
namespace TM
open DL
structure Cmp (P : String → Prop) (O : List String) (F : Bool → Prop) (T : Nat) (t0 : Tm) (bl : List (List Row)) (its : List It) : Prop where
  len : bl.length ≤ its.length
  code : ∀ (k : Nat) (t : Tm) (Γ : List String), k < bl.length → its[k]? = some (t, Γ) → ∃ q, bl[k]? = some (cl t Γ 0 q).1 ∧ Qok its q (cl t Γ 0 q).2
  good : ∀ i ∈ its, Ig P O F 35 i
  rows : ∀ b ∈ bl, ∀ r ∈ b, RowOk O F r
  sz : szI (its.drop bl.length) + bl.length ≤ T
  first : its[0]? = some (t0, [])
section
variable {P : String → Prop} {O : List String} {F : Bool → Prop} {T : Nat} {t0 : Tm} {bl : List (List Row)} {its : List It}
theorem Cmp.start (h : Cg P O F 35 t0 []) (hT : t0.sz ≤ T) : Cmp P O F T t0 [] [(t0, [])] :=
  ⟨Nat.zero_le _, fun k t Γ hk => (by cases hk), fun i hi => by rw [List.mem_singleton.mp hi]; exact ⟨h, by have := h.dep; simp; omega⟩, fun b hb => (by cases hb), by simpa [szI] using hT, rfl⟩
theorem Cmp.next (h : Cmp P O F T t0 bl its) {t : Tm} {Γ : List String} (hk : its[bl.length]? = some (t, Γ)) : Cmp P O F T t0 (bl ++ [(cl t Γ 0 its.length).1]) (its ++ (cl t Γ 0 its.length).2) := by
  have hlt : bl.length < its.length := (List.getElem?_eq_some_iff.mp hk).1
  have hmem : (t, Γ) ∈ its := List.mem_of_getElem? hk
  have hg := h.good _ hmem
  have kg := cl_g (P := P) (O := O) (F := F) (N := 35) t Γ 0 its.length hg.g hg.len
  have mono : ∀ {q : Nat} {w : List It}, Qok its q w → Qok (its ++ (cl t Γ 0 its.length).2) q w := fun {q w} hq j it e => by
    have := hq j it e
    rw [List.getElem?_append_left (List.getElem?_eq_some_iff.mp this).1]; exact this
  refine ⟨by simp; omega, fun k t' Γ' hk' e => ?_, fun i hi => ?_, fun b hb r hr => ?_, ?_, ?_⟩
  · by_cases c : k < bl.length
    · have e' : its[k]? = some (t', Γ') := by rw [List.getElem?_append_left (by omega)] at e; exact e
      obtain ⟨q, h1, h2⟩ := h.code k t' Γ' c e'
      exact ⟨q, by rw [List.getElem?_append_left c]; exact h1, mono h2⟩
    · have ek : k = bl.length := by simp at hk'; omega
      subst ek
      rw [List.getElem?_append_left hlt, hk] at e
      cases e
      refine ⟨its.length, by simp, fun j it e => ?_⟩
      rw [List.getElem?_append_right (by omega), show its.length + j - its.length = j by omega]; exact e
  · rcases List.mem_append.mp hi with hi | hi
    · exact h.good i hi
    · exact kg.2 i hi
  · rcases List.mem_append.mp hb with hb | hb
    · exact h.rows b hb r hr
    · rw [List.mem_singleton.mp hb] at hr; exact kg.1 r hr
  · have hs := (cl_sz t Γ 0 its.length).1
    have e1 : its.drop bl.length = (t, Γ) :: its.drop (bl.length + 1) := by
      rw [List.drop_eq_getElem_cons hlt]
      have := (List.getElem?_eq_some_iff.mp hk).2
      rw [this]
    have hz := h.sz
    rw [e1, szI_cons] at hz
    rw [List.drop_append_of_le_length (by simp; omega), szI_app]
    simp only [List.length_append, List.length_cons, List.length_nil, Nat.zero_add]
    omega
  · rw [List.getElem?_append_left (by omega)]; exact h.first
theorem Cmp.small (h : Cmp P O F T t0 bl its) {t : Tm} {Γ : List String} (hk : its[bl.length]? = some (t, Γ)) : its.length ≤ T ∧ t.sz ≤ T := by
  have hlt : bl.length < its.length := (List.getElem?_eq_some_iff.mp hk).1
  have e1 : its.drop bl.length = (t, Γ) :: its.drop (bl.length + 1) := by
    rw [List.drop_eq_getElem_cons hlt]
    have := (List.getElem?_eq_some_iff.mp hk).2
    rw [this]
  have hz := h.sz
  have hl := szI_len (its.drop bl.length)
  rw [List.length_drop] at hl
  rw [e1, szI_cons] at hz
  rw [e1, szI_cons] at hl
  constructor <;> omega
theorem Cmp.ok (h : Cmp P O F T t0 bl its) (e : ¬ bl.length < its.length) : (Cd.mk bl its).Ok := ⟨by have := h.len; show bl.length = its.length; omega, fun k t Γ hk => h.code k t Γ (by have := (List.getElem?_eq_some_iff.mp hk).1; have : k < its.length := this; omega) hk⟩
end
end TM
/-! TR15: what stays true along a run of rows. -/
namespace TM
open DL
def unCls (kd : List (String × D)) : List (String × Nat × Bool) := kd.map fun e => match e.2 with
  | .tup [.int k, .bl b] => (e.1, k.toNat, b)
  | _ => (e.1, 0, false)
theorem unCls_d (cs : List (String × Nat × Bool)) : unCls (clsD cs) = cs := by
  induction cs with
  | nil => rfl
  | cons c r ih =>
    obtain ⟨o, k, b⟩ := c
    show (o, Int.toNat (k : Nat), b) :: unCls (clsD r) = _
    rw [ih]; rfl
def rowOf : D → Row
  | .tup [.str "int", .int i] => .int i
  | .tup [.str "flag", .bl b] => .flag b
  | .tup [.str "unit"] => .unit
  | .tup [.str "load", .int i] => .load i.toNat
  | .tup [.str "close", .int k, .bl r] => .close k.toNat r
  | .tup [.str "op", .str s] => .op s
  | .tup [.str "ask", .str s] => .ask s
  | .tup [.str "fst"] => .fst
  | .tup [.str "snd"] => .snd
  | .tup [.str "not"] => .nt
  | .tup [.str "pair"] => .pair
  | .tup [.str "call"] => .call
  | .tup [.str "tail"] => .tail
  | .tup [.str "return"] => .ret
  | .tup [.str "print"] => .print
  | .tup [.str "bind"] => .bind
  | .tup [.str "unbind"] => .unbind
  | .tup [.str "unless", .int n] => .unless n.toNat
  | .tup [.str "jump", .int n] => .jump n.toNat
  | .tup [.str "handle", .int i, .int a, .dic kd] => .handle i.toNat a.toNat (unCls kd)
  | _ => .unit
theorem rowOf_d : ∀ r : Row, rowOf r.d = r
  | .handle i a cs => by show Row.handle _ _ (unCls (clsD cs)) = _; rw [unCls_d]; rfl
  | .int _ => rfl | .flag _ => rfl | .unit => rfl | .load _ => rfl | .close _ _ => rfl | .op _ => rfl | .ask _ => rfl | .fst => rfl | .snd => rfl | .nt => rfl
  | .pair => rfl | .call => rfl | .tail => rfl | .ret => rfl | .print => rfl | .bind => rfl | .unbind => rfl | .unless _ => rfl | .jump _ => rfl
theorem rows_inj {a b : List Row} (h : a.map Row.d = b.map Row.d) : a = b := by
  have := congrArg (List.map rowOf) h
  rw [List.map_map, List.map_map, show rowOf ∘ Row.d = id from funext rowOf_d] at this
  simpa using this
/-- what stands in the data of a run: texts of f, frames with rows of C, clauses of g -/
inductive DOk (C : Cd) (f : String → Prop) (g : List (String × Nat × Bool) → Prop) : D → Prop
  | non : DOk C f g .non
  | int {i} : DOk C f g (.int i)
  | bl {b} : DOk C f g (.bl b)
  | str {s} : f s → DOk C f g (.str s)
  | tup {l} : (∀ x ∈ l, DOk C f g x) → DOk C f g (.tup l)
  | lst {rows} : rows ∈ C.blocks → DOk C f g (.lst (rows.map Row.d))
  | dic {cs} : g cs → DOk C f g (.dic (clsD cs))
section
variable {C : Cd} {f : String → Prop} {g : List (String × Nat × Bool) → Prop}
theorem DOk.mem {l : List D} (h : DOk C f g (.tup l)) : ∀ x ∈ l, DOk C f g x := by cases h; assumption
theorem DOk.rows {rows : List Row} (h : DOk C f g (.lst (rows.map Row.d))) : rows ∈ C.blocks := by
  generalize e : D.lst (rows.map Row.d) = d at h
  cases h with
  | lst h => injection e with e; rw [rows_inj e]; exact h
  | _ => cases e
theorem DOk.cls {kd : List (String × D)} (h : DOk C f g (.dic kd)) : ∃ cs, kd = clsD cs ∧ g cs := by
  generalize e : D.dic kd = d at h
  cases h with
  | dic h => injection e with e; exact ⟨_, e, h⟩
  | _ => cases e
theorem DOk.tup1 {a : D} (h : DOk C f g a) : DOk C f g (.tup [a]) := .tup fun x hx => by simp at hx; rw [hx]; exact h
theorem DOk.tup2 {a b : D} (ha : DOk C f g a) (hb : DOk C f g b) : DOk C f g (.tup [a, b]) := .tup fun x hx => by
  simp at hx; rcases hx with rfl | rfl <;> assumption
theorem DOk.tup3 {a b c : D} (ha : DOk C f g a) (hb : DOk C f g b) (hc : DOk C f g c) : DOk C f g (.tup [a, b, c]) := .tup fun x hx => by
  simp at hx; rcases hx with rfl | rfl | rfl <;> assumption
theorem DOk.tup4 {a b c d : D} (ha : DOk C f g a) (hb : DOk C f g b) (hc : DOk C f g c) (hd : DOk C f g d) : DOk C f g (.tup [a, b, c, d]) := .tup fun x hx => by
  simp at hx; rcases hx with rfl | rfl | rfl | rfl <;> assumption
structure FmOk (C : Cd) (f : String → Prop) (g : List (String × Nat × Bool) → Prop) (x : Fm) : Prop where
  rows : x.rows ∈ C.blocks
  bnd : DOk C f g x.bnd
  ops : ∀ w ∈ x.ops, DOk C f g w
structure PcD (C : Cd) (f : String → Prop) (g : List (String × Nat × Bool) → Prop) (x : Pc) : Prop where
  h : DOk C f g x.h
  fms : ∀ y ∈ x.fms, FmOk C f g y
theorem FmOk.d {x : Fm} (h : FmOk C f g x) : DOk C f g x.d := .tup4 (.lst h.rows) .int h.bnd (.tup fun w hw => h.ops w (List.mem_reverse.mp hw))
theorem FmOk.of {x : Fm} (h : DOk C f g x.d) : FmOk C f g x := by
  have := h.mem
  exact ⟨(this _ (by simp)).rows, this x.bnd (by simp), fun w hw => (this (.tup x.ops.reverse) (by simp)).mem w (by simpa using hw)⟩
theorem PcD.d {x : Pc} (h : PcD C f g x) : DOk C f g x.d := .tup4 .int h.h (.tup fun w hw => by
  obtain ⟨y, hy, rfl⟩ := List.mem_map.mp hw
  exact (h.fms y (List.mem_reverse.mp hy)).d) .int
theorem PcD.of {x : Pc} (h : DOk C f g x.d) : PcD C f g x := by
  have := h.mem
  refine ⟨this x.h (by simp), fun y hy => FmOk.of ((this (.tup (x.fms.reverse.map Fm.d)) (by simp)).mem _ (List.mem_map.mpr ⟨y, by simpa using hy, rfl⟩))⟩
structure RsOk (C : Cd) (f : String → Prop) (g : List (String × Nat × Bool) → Prop) (s : RS) : Prop where
  rows : s.rows ∈ C.blocks
  bnd : DOk C f g s.bnd
  ops : ∀ w ∈ s.ops, DOk C f g w
  ps : ∀ p ∈ s.ps, PcD C f g p
theorem nthB_ok : ∀ (n : Nat) {b w : D}, DOk C f g b → nthB b n = some w → DOk C f g w
  | 0, b, w, h, e => by
    unfold nthB at e
    split at e
    · cases e; exact h.mem _ (by simp)
    · rename_i e2; cases e2
    · cases e
  | n + 1, b, w, h, e => by
    unfold nthB at e
    split at e
    · rename_i e2; cases e2
    · rename_i e2; cases e2; exact nthB_ok n (h.mem _ (by simp)) e
    · cases e
theorem Dl_ok {s s' : RS} {v : D} (hr : s.rows ∈ C.blocks) (hb : DOk C f g s.bnd) (ho : ∀ w ∈ s.ops, DOk C f g w) (hv : DOk C f g v) : ∀ {ps : List Pc} {l : Nat}, Dl C s v ps l s' → (∀ p ∈ ps, PcD C f g p) → RsOk C f g s' := by
  intro ps l h
  induction h with
  | @frame p ps l fm r e =>
    intro hp
    have h1 := hp p (by simp)
    have h2 := h1.fms fm (by rw [e]; simp)
    refine ⟨h2.rows, h2.bnd, fun w hw => ?_, fun q hq => ?_⟩
    · rcases List.mem_cons.mp hw with rfl | hw
      · exact hv
      · exact h2.ops w hw
    · rcases List.mem_cons.mp hq with rfl | hq
      · exact ⟨h1.h, fun y hy => h1.fms y (by rw [e]; simp [hy])⟩
      · exact hp q (by simp [hq])
  | bot e ek => intro hp; exact ⟨hr, hb, ho, hp⟩
  | @han p ps l rows b cs a e ek eh hbk hne =>
    intro hp
    have h1 := hp p (by simp)
    have h2 := h1.h
    rw [eh] at h2
    exact ⟨List.mem_of_getElem? hbk, .tup2 hv (h2.mem _ (by simp)), fun w hw => (by cases hw), fun q hq => hp q (by simp [hq])⟩
  | place0 e ek => intro hp; exact ⟨hr, hb, ho, hp⟩
  | place e ek hne hd ih => intro hp; exact ih fun q hq => hp q (by simp [hq])
end
end TM
/-! TR16: a row keeps what stands in the data. -/
namespace TM
open DL
section
variable {C : Cd} {f : String → Prop} {g : List (String × Nat × Bool) → Prop}
structure Tags (C : Cd) (f : String → Prop) (g : List (String × Nat × Bool) → Prop) : Prop where
  tag : ∀ s ∈ ["int", "bool", "unit", "fun", "pair"], f s
  kept : f "kept" ∨ ∀ cs, g cs → ∀ c ∈ cs, c.2.2 = true
  han : ∀ rows ∈ C.blocks, ∀ i a cs, Row.handle i a cs ∈ rows → g cs
theorem push_d {p : Pc} {fm : Fm} (hp : PcD C f g p) (hf : FmOk C f g fm) : PcD C f g (p.push fm) := ⟨hp.h, fun y hy => by
  rcases List.mem_cons.mp hy with rfl | hy
  · exact hf
  · exact hp.fms y hy⟩
theorem lk_cls {o : String} {d : D} : ∀ {cs : List (String × Nat × Bool)}, (clsD cs).lookup o = some d → ∃ c ∈ cs, c.1 = o ∧ d = .tup [.int (c.2.1 : Nat), .bl c.2.2]
  | [], h => by cases h
  | c :: r, h => by
    rw [show clsD (c :: r) = (c.1, .tup [.int (c.2.1 : Nat), .bl c.2.2]) :: clsD r from rfl, List.lookup_cons] at h
    by_cases e : o = c.1
    · subst e
      simp at h
      exact ⟨c, by simp, rfl, h.symm⟩
    · rw [beq_eq_false_iff_ne.mpr e] at h
      obtain ⟨c', h1, h2⟩ := lk_cls h
      exact ⟨c', by simp [h1], h2⟩
theorem operD_ok (T : Tags C f g) {o : String} {i j : Int} {w : D} (ht : ∃ τ, Sg o τ) (h : operD o i j = some w) : DOk C f g w := by
  obtain ⟨τ, ht⟩ := ht
  cases ht <;> (simp [operD, oper] at h; subst h; first | exact .tup2 (.str (T.tag _ (by simp))) .int | exact .tup2 (.str (T.tag _ (by simp))) .bl)
theorem RStep.ok (T : Tags C f g) {s s' : RS} (hs : RStep C s s') (h : RsOk C f g s) : RsOk C f g s' := by
  have hop : ∀ {w : D} {ops : List D}, s.ops = w :: ops → DOk C f g w ∧ ∀ x ∈ ops, DOk C f g x := fun e => ⟨h.ops _ (by rw [e]; simp), fun x hx => h.ops _ (by rw [e]; simp [hx])⟩
  have hop2 : ∀ {w u : D} {ops : List D}, s.ops = w :: u :: ops → DOk C f g w ∧ DOk C f g u ∧ ∀ x ∈ ops, DOk C f g x := fun e => ⟨h.ops _ (by rw [e]; simp), h.ops _ (by rw [e]; simp), fun x hx => h.ops _ (by rw [e]; simp [hx])⟩
  have tag : ∀ {x : String}, x ∈ ["int", "bool", "unit", "fun", "pair"] → DOk C f g (.str x) := fun hx => .str (T.tag _ hx)
  have push : ∀ {w : D}, DOk C f g w → RsOk C f g (s.push w) := fun hw => ⟨h.rows, h.bnd, fun x hx => by
    rcases List.mem_cons.mp hx with rfl | hx
    · exact hw
    · exact h.ops x hx, h.ps⟩
  have res : ∀ {w : D} {ops : List D}, DOk C f g w → (∀ x ∈ ops, DOk C f g x) → RsOk C f g { s with at_ := s.at_ + 1, ops := w :: ops } := fun hw ho => ⟨h.rows, h.bnd, fun x hx => by
    rcases List.mem_cons.mp hx with rfl | hx
    · exact hw
    · exact ho x hx, h.ps⟩
  have fm : ∀ {ops : List D}, (∀ x ∈ ops, DOk C f g x) → FmOk C f g (s.fm ops) := fun ho => ⟨h.rows, h.bnd, ho⟩
  have pss : ∀ {p : Pc} {ps : List Pc} {ops : List D}, s.ps = p :: ps → (∀ x ∈ ops, DOk C f g x) → ∀ q ∈ p.push (s.fm ops) :: ps, PcD C f g q := fun e ho q hq => by
    rcases List.mem_cons.mp hq with rfl | hq
    · exact push_d (h.ps _ (by rw [e]; simp)) (fm ho)
    · exact h.ps q (by rw [e]; simp [hq])
  have psl : ∀ {p : Pc} {ps : List Pc} {ops : List D} {tl : Bool}, s.ps = p :: ps → (∀ x ∈ ops, DOk C f g x) → ∀ q ∈ (if tl then p :: ps else p.push (s.fm ops) :: ps), PcD C f g q := fun {p ps ops tl} e ho q hq => by
    cases tl
    · exact pss e ho q hq
    · exact h.ps q (by rw [e]; exact hq)
  cases hs with
  | int hr => exact push (.tup2 (tag (by simp)) .int)
  | unit hr => exact push (.tup1 (tag (by simp)))
  | flag hr => exact push (.tup2 (tag (by simp)) .bl)
  | load hr hn => exact push (nthB_ok _ h.bnd hn)
  | close hr => exact push (.tup4 (tag (by simp)) .int .bl h.bnd)
  | op hr ho hi hj ht hw => exact res (operD_ok T ht hw) (hop2 ho).2.2
  | pair hr ho => exact res (.tup3 (tag (by simp)) (hop2 ho).2.1 (hop2 ho).1) (hop2 ho).2.2
  | nt hr ho => exact res (.tup2 (tag (by simp)) .bl) (hop ho).2
  | fst hr ho => exact res ((hop ho).1.mem _ (by simp)) (hop ho).2
  | snd hr ho => exact res ((hop ho).1.mem _ (by simp)) (hop ho).2
  | jump hr => exact ⟨h.rows, h.bnd, h.ops, h.ps⟩
  | unbind hr hb =>
    have := h.bnd
    rw [hb] at this
    exact ⟨h.rows, this.mem _ (by simp), h.ops, h.ps⟩
  | bind hr ho => exact ⟨h.rows, .tup2 (hop ho).1 h.bnd, (hop ho).2, h.ps⟩
  | print hr ho => exact ⟨h.rows, h.bnd, (hop ho).2, h.ps⟩
  | «unless» hr ho => exact ⟨h.rows, h.bnd, (hop ho).2, h.ps⟩
  | @ret w ops s' hr ho hd => exact Dl_ok (s := { s with at_ := s.at_ + 1, ops := ops }) h.rows h.bnd (hop ho).2 (hop ho).1 hd h.ps
  | call0 hr ho hl => exact ⟨h.rows, h.bnd, (hop2 ho).2.2, h.ps⟩
  | @callF p ps l b w ops rows k tl r hr ho hl hp hb =>
    obtain ⟨h1, h2, h3⟩ := hop2 ho
    refine ⟨List.mem_of_getElem? hb, .tup2 h1 ?_, fun x hx => (by cases hx), psl hp h3⟩
    cases r
    · exact h2.mem _ (by simp)
    · exact .tup2 h2 (h2.mem b (by simp))
  | @callK p ps l w ops s' gg tl hr ho hl hp hg hk hpl hd =>
    obtain ⟨h1, h2, h3⟩ := hop2 ho
    refine Dl_ok (s := { s with at_ := s.at_ + 1, ops := ops }) h.rows h.bnd h3 h1 hd fun q hq => ?_
    rcases List.mem_append.mp hq with hq | hq
    · exact PcD.of ((h2.mem (.tup (gg.reverse.map Pc.d)) (by simp)).mem _ (List.mem_map.mpr ⟨q, by simpa using hq, rfl⟩))
    · exact psl hp h3 q hq
  | ask0 hr ho hl => exact ⟨h.rows, h.bnd, (hop ho).2, h.ps⟩
  | askN hr ho hl hp hno => exact ⟨h.rows, h.bnd, (hop ho).2, h.ps⟩
  | @askP o w ops l p ps d y cs b x rows k hr ho hl hp hlk hy hh hc hb hd =>
    have hy' := pss hp (hop ho).2 y (List.mem_of_getElem? hy)
    have := hy'.h
    rw [hh] at this
    refine ⟨List.mem_of_getElem? hb, .tup2 (.tup1 (tag (by simp))) (.tup2 (hop ho).1 (this.mem _ (by simp))), fun x hx => (by cases hx), fun q hq => ?_⟩
    rcases List.mem_cons.mp hq with rfl | hq
    · exact ⟨.non, fun y hy => by cases hy⟩
    · exact pss hp (hop ho).2 q hq
  | @askK o w ops l p ps d y cs b x rows k hr ho hl hp hlk hy hh hc hb hd =>
    have hy' := pss hp (hop ho).2 y (List.mem_of_getElem? hy)
    have hhd := hy'.h
    rw [hh] at hhd
    have hk : f "kept" := by
      rcases T.kept with hk | hk
      · exact hk
      · obtain ⟨cs', rfl, hg⟩ := (hhd.mem (.dic cs) (by simp)).cls
        obtain ⟨c, h1, h2, h3⟩ := lk_cls hc
        have := hk _ hg c h1
        rw [this] at h3
        simp at h3
    refine ⟨List.mem_of_getElem? hb, .tup2 (.tup2 (.str hk) (.tup fun z hz => ?_)) (.tup2 (hop ho).1 (hhd.mem _ (by simp))), fun x hx => (by cases hx), fun q hq => pss hp (hop ho).2 q (List.mem_of_mem_drop hq)⟩
    obtain ⟨q, hq, rfl⟩ := List.mem_map.mp hz
    exact (pss hp (hop ho).2 q (List.mem_of_mem_take (List.mem_reverse.mp hq))).d
  | @handle i a cs p ps rows hr hp hb =>
    refine ⟨List.mem_of_getElem? hb, h.bnd, fun x hx => (by cases hx), fun q hq => ?_⟩
    rcases List.mem_cons.mp hq with rfl | hq
    · exact ⟨.tup3 .int (.dic (T.han _ h.rows _ _ _ (List.mem_of_getElem? hr))) h.bnd, fun y hy => by cases hy⟩
    · exact pss hp h.ops q hq
end
end TM
/-! TR17: how many pieces; runs with what stays true. -/
namespace TM
open DL
theorem Dl.pslen {C : Cd} {s s' : RS} {v : D} {ps : List Pc} {l : Nat} (h : Dl C s v ps l s') : s'.ps.length ≤ ps.length := by
  induction h with
  | frame e => simp
  | bot e ek => simp
  | han e ek eh hb hne => simp
  | place0 e ek => simp
  | place e ek hne hd ih => simp; omega
/-- no resumption is about to be called -/
def NK (s : RS) : Prop := ∀ w g ops, s.ops ≠ w :: .tup [.str "kept", .tup g] :: ops
theorem frs_push {p : Pc} {fm : Fm} {ps : List Pc} : frs (p.push fm :: ps) = frs (p :: ps) + 1 := by simp [frs, Pc.push]; omega
theorem RStep.grow {C : Cd} {s s' : RS} (hs : RStep C s s') (hn : NK s) : s'.ps.length ≤ s.ps.length ∨ (s'.ps.length = s.ps.length + 1 ∧ frs s.ps < frs s'.ps) := by
  cases hs with
  | ret hr ho hd => exact .inl hd.pslen
  | @callF p ps l b w ops rows k tl r hr ho hl hp hb => left; rw [hp]; cases tl <;> simp
  | @callK p ps l w ops s' g tl hr ho hl hp hg hk hpl hd => exact absurd ho (hn _ _ _)
  | @askP o w ops l p ps d y cs b x rows k hr ho hl hp hlk hy hh hc hb hd =>
    right
    rw [hp]
    refine ⟨by simp, ?_⟩
    have := frs_push (p := p) (fm := s.fm ops) (ps := ps)
    simp [frs, Pc.place] at this ⊢
    omega
  | @askK o w ops l p ps d y cs b x rows k hr ho hl hp hlk hy hh hc hb hd => left; rw [hp]; simp; omega
  | @handle i a cs p ps rows hr hp hb =>
    right
    rw [hp]
    refine ⟨by simp, ?_⟩
    have := frs_push (p := p) (fm := s.fm s.ops) (ps := ps)
    simp [frs, Pc.han] at this ⊢
    omega
  | _ => exact .inl (Nat.le_refl _)
/-- pieces and steps to do -/
theorem RStep.pot {C : Cd} {s s' : RS} {n n' T : Nat} (hs : RStep C s s') (hn : NK s) (hl : Less n' n s' s) (h : s.ps.length + n ≤ T) : s'.ps.length + n' ≤ T := by
  rcases hs.grow hn with h1 | ⟨h1, h2⟩ <;> rcases hl with hl | ⟨hl, hl2 | ⟨hl2, _⟩⟩ <;> omega
mutual
theorem KR.opslen {C : Cd} {N : Nat} : ∀ {m : Option (List Fr)} {rows : List Row} {a : Nat} {b : D} {ops : List D} {fs : List Fr}, KR C N m rows a b ops fs → ops.length ≤ fs.length
  | _, _, _, _, _, _, .ret h t => Nat.zero_le _
  | _, _, _, _, _, _, .unbind h k => k.opslen
  | _, _, _, _, _, _, .jump h l n k => k.opslen
  | _, _, _, _, _, _, .bin1 h e a q l k => Nat.le_succ_of_le k.opslen
  | _, _, _, _, _, _, .bin2 h a v k => Nat.succ_le_succ k.opslen
  | _, _, _, _, _, _, .call1 e a q l t => Nat.zero_le _
  | _, _, _, _, _, _, .call2 a v t => Nat.succ_le_succ (Nat.zero_le _)
  | _, _, _, _, _, _, .un h a k => Nat.le_succ_of_le k.opslen
  | _, _, _, _, _, _, .lt h e k => Nat.le_succ_of_le (k .unit .non).opslen
  | _, _, _, _, _, _, .ite h e k l => Nat.le_succ_of_le k.opslen
  | _, _, _, _, _, _, .prt h e k => Nat.le_succ_of_le k.opslen
theorem Ev.opslen {C : Cd} {N : Nat} : ∀ {m : Option (List Fr)} {rows : List Row} {a : Nat} {Γ : Ctx} {e : Env} {b : D} {ops : List D} {t : Tm} {fs : List Fr}, Ev C N m rows a Γ e b ops t fs → ops.length ≤ fs.length
  | _, _, _, _, _, _, _, _, _, .v h q l k => k.opslen
  | _, _, _, _, _, _, _, _, _, .l h q l t => Nat.zero_le _
  | _, _, _, _, _, _, _, _, _, .p h q l t f => Nat.zero_le _
end
theorem RR.opslen {C : Cd} {N : Nat} {s : LS} {rs : RS} (h : RR C N s rs) : rs.ops.length ≤ s.fs.length + 1 := by
  cases h with
  | ev h1 h2 h3 h4 h5 h6 => have := h4.opslen; rw [h2]; simp; omega
  | rt h1 h2 h3 h4 h5 h6 h7 => have := h5.opslen; rw [h2, h4]; simp; omega
theorem RR.fms {C : Cd} {N : Nat} {s : LS} {rs : RS} (h : RR C N s rs) : ∀ p ∈ rs.ps, p.fms.length ≤ N := by
  cases h with
  | ev h1 h2 h3 h4 h5 h6 => exact fun p hp => h5.len p hp
  | rt h1 h2 h3 h4 h5 h6 h7 => exact fun p hp => h6.len p hp
theorem RR.rb {C : Cd} {N : Nat} {s : LS} {rs : RS} (h : RR C N s rs) : RB s rs := by
  cases h with
  | ev h1 h2 h3 h4 h5 h6 => exact h6
  | rt h1 h2 h3 h4 h5 h6 h7 => exact h7
/-- the whole run, with J kept by the rows -/
theorem simJ_ok {C : Cd} (hC : C.Ok) {NT : Nat} {B : RS → Prop} {P : LS → Prop} {J : Nat → RS → Prop} (hT : ∀ s, P s → TyS s) (hJ : ∀ n n' rs, J n rs → n' ≤ n → J n' rs) (hB : ∀ N n s rs, P s → RR C N s rs → N ≤ NT → J n rs → B rs)
    (hS : ∀ n n' rs rs', J n rs → RStep C rs rs' → Less n' n rs' rs → J n' rs') {z : LS} :
    ∀ (n f r : Nat) {N : Nat} {s : LS} {rs : RS}, PR P n s z → RR C N s rs → J n rs → N + n ≤ NT → frs rs.ps = f → rs.rows.length - rs.at_ = r → ∃ k rs', RRun C B k rs rs' ∧ Fin C z rs' := by
  intro n
  induction n using Nat.strongRecOn with
  | _ n ihn =>
  intro f
  induction f using Nat.strongRecOn with
  | _ f ihf =>
  intro r
  induction r using Nat.strongRecOn with
  | _ r ihr =>
  intro N s rs hr h hj hN ef er
  rcases turn_ok hC (hT s hr.p) hr h with ⟨n', s', hl, hr', h'⟩ | ⟨rs', hs, hf | ⟨N', n', s', hn, hr', h', hl⟩⟩
  · exact ihn n' hl _ _ hr' h' (hJ _ _ _ hj (by omega)) (by omega) rfl rfl
  · obtain ⟨N1, r1, f1, h1, h2, h3⟩ := hf
    exact ⟨1, rs', .step h.fin (hB N n s rs hr.p h (by omega) hj) hs (.done (by rw [h2]; exact fun z => by cases z)), ⟨N1, r1, f1, h1, h2, h3⟩⟩
  · have : ∃ k rs'', RRun C B k rs' rs'' ∧ Fin C z rs'' := by
      have hj' := hS _ _ _ _ hj hs hl
      rcases hl with hl | ⟨rfl, hl | ⟨hl, hl2⟩⟩
      · exact ihn n' hl _ _ hr' h' hj' (by omega) rfl rfl
      · exact ihf _ (by rw [← ef]; exact hl) _ hr' h' hj' (by omega) rfl rfl
      · exact ihr _ (by rw [← er]; exact hl2) hr' h' hj' (by omega) (by rw [hl, ef]) rfl
    obtain ⟨k, rs'', h1, h2⟩ := this
    exact ⟨k + 1, rs'', .step h.fin (hB N n s rs hr.p h (by omega) hj) hs h1, h2⟩
end TM
/-! TR18: typed states tell what the rows need. -/
namespace TM
open DL
theorem StOk.tyS {ops : Ops} {τ : Ty} {s : LS} (h : StOk ops 96 τ s) : TyS s := by
  refine ⟨fun f x b e k hc => ?_, fun o a b e u tk fs v hc hf => ?_⟩
  · cases h with
    | ev h1 h2 h3 h4 h5 h6 h7 h8 =>
      injection hc with e1 e2 e3
      subst e1
      exact (gd_rc h3).1
    | _ => cases hc
  · cases h with
    | rt h1 h2 h3 h4 h5 =>
      injection hc with e1
      subst e1
      simp only at hf
      subst hf
      cases h2 with
      | cons hF _ _ =>
        cases hF with
        | op2 h6 h7 h8 h9 =>
          refine ⟨⟨_, h7⟩, fun i hi => ?_, fun j hj => ?_⟩
          · subst hi; cases h8; assumption
          · subst hj; cases h1; assumption
    | _ => cases hc
/-- a bounded typed run -/
def Pb (ops : Ops) (τ : Ty) (M : Nat) (s : LS) : Prop := StOk ops 96 τ s ∧ ((∀ r, s.cur ≠ .dn r) → s.fs.length ≤ M) ∧ s.pr.length ≤ M
theorem RR.nd {C : Cd} {N : Nat} {s : LS} {rs : RS} (h : RR C N s rs) : ∀ r, s.cur ≠ .dn r := by
  cases h with
  | ev h1 h2 h3 h4 h5 h6 => rw [h1]; exact fun r z => by cases z
  | rt h1 h2 h3 h4 h5 h6 h7 => rw [h1]; exact fun r z => by cases z
theorem PR.mono {P P' : LS → Prop} (h : ∀ s, P s → P' s) : ∀ {n : Nat} {s u : LS}, PR P n s u → PR P' n s u
  | _, _, _, .done a b => .done (h _ a) b
  | _, _, _, .step a b c => .step (h _ a) b (PR.mono h c)
/-- a typed run of at most 200 steps is bounded -/
theorem run_pb {ops : Ops} {τ : Ty} {t : Tm} {L n : Nat} {u : LS} (hP : ∀ o α β, ops.lookup o = some (α, β) → β.plain = true) (ht : Has ops [] t τ) (hg : t.gd 96) (hC : t.cost ≤ 164) (hL : L ≤ 200) (hr : LRun n (start t L) u) : PR (Pb ops τ 4000000) n (start t L) u := by
  have big : ∀ {m : Nat} {s : LS}, Spent t.cost L m s → m + s.pot ≤ 4000000 := fun {m s} h => by
    obtain ⟨n1, n2, h1, h2, h3⟩ := h
    have : (1 + n2) * s.nx ≤ 201 * 19364 := Nat.mul_le_mul (by omega) (by omega)
    omega
  have h0 : StOk ops 96 τ (start t L) ∧ ∃ m, Spent t.cost L m (start t L) ∧ (start t L).pr.length ≤ m := ⟨start_ok ht hg, 0, Spent.start, Nat.le_refl 0⟩
  have := PR.of (P := fun s => StOk ops 96 τ s ∧ ∃ m, Spent t.cost L m s ∧ s.pr.length ≤ m) (fun s s' h hs => by
    obtain ⟨h1, m, h2, h3⟩ := h
    obtain ⟨s1, g1, g2, g3⟩ := step_ok hP h1 (step_res hs)
    rw [hs] at g1
    cases g1
    exact ⟨g2, m + 1, h2.go g3, by have := (step_adds hs).1; omega⟩) h0 hr
  refine this.mono fun s h => ?_
  obtain ⟨h1, m, h2, h3⟩ := h
  have := big h2
  exact ⟨h1, fun hd => by have := h1.fslen hd; omega, by omega⟩
theorem start_rr {C : Cd} (hC : C.Ok) {t : Tm} {L N : Nat} (h0 : C.items[0]? = some (t, [])) (hcl : ∀ y, t.fv y = false) : ∃ rows, C.blocks[0]? = some rows ∧ RR C N (start t L) ⟨rows, 0, .non, [], [.bot], L, [], 0, none⟩ := by
  obtain ⟨rows, q, h1, h2, h3⟩ := blk (hC := hC) h0
  refine ⟨rows, h1, .ev (m := none) (Γ := []) (fs1 := []) (fs2 := []) rfl rfl .nil (.l (q := q) h2 h3 (fun y hy => by rw [hcl y] at hy; cases hy) rfl) .bot ⟨rfl, rfl, rfl, rfl, ?_, fun z => by cases z⟩⟩
  exact ⟨fun z => (by cases z), fun _ => rfl, fun z => absurd rfl z, trivial⟩
end TM
/-! TR24: values, bindings, waiting expressions as the machine has them; what a run keeps, the most pieces. -/
namespace TM
open DL
def Tm.hs : Tm → String
  | .num _ => "num" | .flag _ => "flag" | .unit => "unit" | .name _ => "name" | .fn _ _ => "fun" | .rc _ _ _ => "rec" | .lt _ _ _ => "let" | .op _ _ _ => "op" | .ask _ _ => "ask" | .fst _ => "fst" | .snd _ => "snd" | .nt _ => "not"
  | .ite _ _ _ => "if" | .call _ _ => "call" | .pair _ _ => "pair" | .prt _ _ => "print" | .han _ _ _ _ => "handle"
/-- a waiting expression on its piece, a handler ahead of a new piece; the uppermost piece first, its innermost expression first -/
def addF : Bool → D → List (D × List D) → List (D × List D)
  | true, d, l => (d, []) :: l
  | false, d, (h, fr) :: r => (h, d :: fr) :: r
  | false, _, [] => []
def keptD (l : List (D × List D)) : List D := l.dropLast.reverse.map fun p => .tup [p.1, .tup p.2.reverse]
mutual
def Val.m : Val → D
  | .int i => .tup [.str "int", .int i]
  | .bool b => .tup [.str "bool", .bl b]
  | .unit => .tup [.str "unit"]
  | .pair a b => .tup [.str "pair", a.m, b.m]
  | .fn f x b e => .tup [.str "fun", if f = "" then .non else .str f, .str x, b.d, e.m]
  | .kept fs => .tup [.str "kept", .tup (keptD (frM fs))]
def Env.m : Env → D
  | .nil => .non
  | .cons x v e => .tup [.str x, v.m, e.m]
def Fr.m : Fr → D
  | .a (.han _ r b cs) e _ => .tup [.str r, b.d, .tup cs.d, e.m]
  | .a t e _ => .tup [.str t.hs, t.d, e.m]
  | .b (.call _ _) _ v _ => .tup [.str "call2", v.m]
  | .b (.pair _ _) _ v _ => .tup [.str "pair2", v.m]
  | .b (.op s _ _) _ v _ => .tup [.str "op2", .str s, v.m]
  | .b _ _ _ _ => .non
def frM : List Fr → List (D × List D)
  | [] => [(.non, [])]
  | f :: fs => addF f.han f.m (frM fs)
end
/-- how many handlers -/
def nH : List Fr → Nat
  | [] => 0
  | f :: fs => nH fs + (if f.han then 1 else 0)
theorem nH_app : ∀ a b : List Fr, nH (a ++ b) = nH a + nH b
  | [], b => by simp [nH]
  | f :: a, b => by simp only [List.cons_append, nH, nH_app a b]; omega
theorem addF_len {b : Bool} {d : D} {l : List (D × List D)} (h : l ≠ []) : (addF b d l).length = l.length + (if b then 1 else 0) := by
  cases b
  · cases l with
    | nil => exact absurd rfl h
    | cons => rfl
  · rfl
theorem addF_ne {b : Bool} {d : D} {l : List (D × List D)} (h : l ≠ []) : addF b d l ≠ [] := fun z => by
  have := addF_len (b := b) (d := d) h
  rw [z] at this
  have := List.length_pos_iff.mpr h
  simp at *
  omega
theorem frM_ne : ∀ fs : List Fr, frM fs ≠ []
  | [] => by simp [frM]
  | f :: fs => by rw [frM]; exact addF_ne (frM_ne fs)
theorem frM_len : ∀ fs : List Fr, (frM fs).length = nH fs + 1
  | [] => rfl
  | f :: fs => by rw [frM, addF_len (frM_ne fs), frM_len fs, nH]; omega
/-- a handler is the outermost of them -/
def endsH (i : List Fr) : Prop := ∃ i0 e0 r b cs e k, i = i0 ++ [.a (.han e0 r b cs) e k]
theorem endsH.pos {i : List Fr} (h : endsH i) : 1 ≤ nH i := by
  obtain ⟨i0, e0, r, b, cs, e, k, rfl⟩ := h
  rw [nH_app]
  simp [nH, Fr.han]
theorem addF_app {b : Bool} {d : D} {l m : List (D × List D)} (h : l ≠ []) : addF b d (l ++ m) = addF b d l ++ m := by
  cases b
  · cases l with
    | nil => exact absurd rfl h
    | cons => rfl
  · rfl
theorem addF_drop {b : Bool} {d : D} {l : List (D × List D)} (h : 2 ≤ l.length) : (addF b d l).dropLast = addF b d l.dropLast := by
  match l, h with
  | p :: q :: r, _ => cases b <;> rfl
theorem frM_app {out : List Fr} : ∀ {i : List Fr}, endsH i → frM (i ++ out) = (frM i).dropLast ++ frM out := fun {i} h => by
  obtain ⟨i0, e0, r, b, cs, e, k, rfl⟩ := h
  induction i0 with
  | nil => rfl
  | cons f i0 ih =>
    have l2 : 2 ≤ (frM (i0 ++ [Fr.a (.han e0 r b cs) e k])).length := by
      rw [frM_len, nH_app]; simp [nH, Fr.han]
    rw [List.append_assoc, List.cons_append, frM, ← List.append_assoc, ih, List.cons_append, frM, addF_drop l2, addF_app]
    intro z
    have := congrArg List.length z
    rw [List.length_dropLast] at this
    simp only [List.length_nil] at this
    omega
theorem dl_len {i : List Fr} : (frM i).dropLast.length = nH i := by rw [List.length_dropLast, frM_len]; omega
/-- the handlers, the innermost first -/
def hans : List Fr → List (String × Tm × Cls × Env)
  | [] => []
  | .a (.han _ r b cs) e _ :: fs => (r, b, cs, e) :: hans fs
  | _ :: fs => hans fs
def hD (h : String × Tm × Cls × Env) : D := .tup [.str h.1, h.2.1.d, .tup h.2.2.1.d, h.2.2.2.m]
theorem frM_hans : ∀ fs : List Fr, (frM fs).map (·.1) = (hans fs).map hD ++ [.non]
  | [] => rfl
  | f :: fs => by
    have ih := frM_hans fs
    have no : f.han = false → (frM (f :: fs)).map (·.1) = (frM fs).map (·.1) := fun h => by
      rw [frM, h]
      cases e : frM fs with
      | nil => exact absurd e (frM_ne fs)
      | cons p r => obtain ⟨a, b⟩ := p; rfl
    cases f with
    | b t e v k => rw [no rfl, ih]; rfl
    | a t e k =>
      cases t with
      | han e0 r b cs => rw [frM]; show D.tup [.str r, b.d, .tup cs.d, e.m] :: (frM fs).map (·.1) = _; rw [ih]; rfl
      | _ => rw [no rfl, ih]; rfl
theorem hans_len : ∀ fs : List Fr, (hans fs).length = nH fs := fun fs => by
  have := congrArg List.length (frM_hans fs)
  simp only [List.length_map, List.length_append, List.length_cons, List.length_nil, frM_len] at this
  omega
/-- where a handler answers, by the handlers -/
theorem split_hans {o : String} : ∀ {fs : List Fr}, match split o fs with
    | some (i, e, c, out) => fs = i ++ out ∧ endsH i ∧ (∀ h ∈ (hans fs).take (nH i - 1), h.2.2.1.find o = none) ∧ ∃ r b cs, (hans fs)[nH i - 1]? = some (r, b, cs, e) ∧ cs.find o = some c
    | none => ∀ h ∈ hans fs, h.2.2.1.find o = none
  | [] => by simp [split, hans]
  | f :: fs => by
    have ih := split_hans (o := o) (fs := fs)
    have no : f.han = false → hans (f :: fs) = hans fs := fun h => by
      cases f with
      | b => rfl
      | a t e k => cases t <;> first | rfl | cases h
    have skip : split o (f :: fs) = (match split o fs with
        | some (i, e', c, out) => some (f :: i, e', c, out)
        | none => none) → f.han = false → match split o (f :: fs) with
          | some (i, e, c, out) => f :: fs = i ++ out ∧ endsH i ∧ (∀ h ∈ (hans (f :: fs)).take (nH i - 1), h.2.2.1.find o = none) ∧ ∃ r b cs, (hans (f :: fs))[nH i - 1]? = some (r, b, cs, e) ∧ cs.find o = some c
          | none => ∀ h ∈ hans (f :: fs), h.2.2.1.find o = none := fun e1 e2 => by
      rw [e1, no e2]
      cases es : split o fs with
      | none => rw [es] at ih; exact ih
      | some p =>
        obtain ⟨i, e', c, out⟩ := p
        rw [es] at ih
        obtain ⟨h1, ⟨i0, e0, r, b, cs, e3, k3, h2⟩, h3⟩ := ih
        have hn : nH (f :: i) = nH i := by simp [nH, e2]
        exact ⟨by rw [h1]; rfl, ⟨f :: i0, e0, r, b, cs, e3, k3, by rw [h2]; rfl⟩, by rw [hn]; exact h3⟩
    cases f with
    | b t e v k => exact skip rfl rfl
    | a t e k =>
      cases t with
      | han e0 r b cs =>
        cases ec : cs.find o with
        | some c =>
          have e1 : split o (.a (.han e0 r b cs) e k :: fs) = some ([.a (.han e0 r b cs) e k], e, c, fs) := by rw [split, ec]
          rw [e1]
          exact ⟨rfl, ⟨[], e0, r, b, cs, e, k, rfl⟩, by simp [nH, Fr.han], r, b, cs, by simp [nH, Fr.han, hans], ec⟩
        | none =>
          have e1 : split o (.a (.han e0 r b cs) e k :: fs) = (match split o fs with
            | some (i, e', c, out) => some (.a (.han e0 r b cs) e k :: i, e', c, out)
            | none => none) := by rw [split, ec] <;> rfl
          rw [e1]
          cases es : split o fs with
          | none =>
            rw [es] at ih
            intro h hh
            rcases List.mem_cons.mp (show h ∈ (r, b, cs, e) :: hans fs from hh) with rfl | hh
            · exact ec
            · exact ih h hh
          | some p =>
            obtain ⟨i, e', c, out⟩ := p
            rw [es] at ih
            obtain ⟨h1, h2, h3, r', b', cs', h4, h5⟩ := ih
            have hp := h2.pos
            obtain ⟨i0, e3, r3, b3, cs3, e4, k3, h2⟩ := h2
            obtain ⟨n, hn⟩ : ∃ n, nH i = n + 1 := ⟨nH i - 1, by omega⟩
            have hn2 : nH (Fr.a (.han e0 r b cs) e k :: i) - 1 = n + 1 := by simp [nH, Fr.han]; omega
            rw [hn] at h3 h4
            refine ⟨by rw [h1]; rfl, ⟨.a (.han e0 r b cs) e k :: i0, e3, r3, b3, cs3, e4, k3, by rw [h2]; rfl⟩, ?_, r', b', cs', ?_, h5⟩
            · rw [hn2]
              intro h hh
              rcases List.mem_cons.mp (show h ∈ (r, b, cs, e) :: (hans fs).take n from hh) with rfl | hh
              · exact ec
              · exact h3 h hh
            · rw [hn2]; exact h4
      | _ => exact skip rfl rfl
/-- a run with what it keeps and its most pieces -/
def took (s s' : LS) : Nat := if s.an.length < s'.an.length then nH s.fs - nH s'.fs else 0
inductive KRun : LS → Nat → Nat → LS → Nat → Nat → Prop
  | done {s k m} : s.res ≠ none → KRun s k m s k m
  | step {s s' k m u k' m'} : s.step = some s' → KRun s' (k + took s s') (max m (nH s'.fs + 1)) u k' m' → KRun s k m u k' m'
theorem KRun.of {n : Nat} {s u : LS} (h : LRun n s u) : ∀ k m, ∃ k' m', KRun s k m u k' m' := by
  induction h with
  | done h => exact fun k m => ⟨k, m, .done h⟩
  | step h1 _ ih =>
    intro k m
    obtain ⟨k', m', h⟩ := ih (k + took _ _) (max m _)
    exact ⟨k', m', .step h1 h⟩
end TM
/-! DS8: raise, try .. as, star parameters, run. -/
namespace DL
open PySem PySem.Spec PyProof.Rows L2
section
variable {σ : DEnv} {S : Store} {Q : QE} {D' : DEnds}
@[simp] theorem r_raise {c : Nat} {f : String} {da : DE} {ED : DX → DEnv → Store → Prop} : dRaise c f da ED D' σ S = da σ S fun x S1 => ED ⟨c, [(f, x)]⟩ σ S1 := propext Iff.rfl
@[simp] theorem r_tryAs {c i : Nat} {body : (DX → DEnv → Store → Prop) → DS} {suite : Addr → DX → DS} : dTryAs c i body suite D' σ S = body (fun y σ1 S1 => y.cls = c ∧ ∀ a, S1 a = none → suite a y (D'.gone i) (σ1.set i (some (.obj a))) S1) D' σ S := propext Iff.rfl
@[simp] theorem r_xf {a : Addr} {i : Nat} {y : DX} {f : String} : dXf a i y f σ S Q = (σ[i]? = some (some (.obj a)) ∧ ofO (y.fs.lookup f) fun v => Q v S) := propext Iff.rfl
@[simp] theorem r_methS {c : Nat} {m : String} {w : DSp} {ED : DX → DEnv → Store → Prop} {da : DE} {dt : DA} : dMethS c m w ED da dt σ S Q = da σ S fun x S1 => ofO (insD S1 c x) fun z => z.2.lookup m = none ∧ dt σ S1 fun ds S2 => w [x, .tup ds] S2 Q fun y S3 => ED y σ S3 := propext Iff.rfl
@[simp] theorem r_gone_nx {i : Nat} : (D'.gone i).nx σ S = D'.nx (σ.set i none) S := propext Iff.rfl
@[simp] theorem r_gone_rt {i : Nat} {v : D} : (D'.gone i).rt v S = D'.rt v S := propext Iff.rfl
end
end DL
/-! TR25: what every expression of a state has; resumptions end with a handler. -/
namespace TM
open DL
/-- what goes over to parts -/
structure Hered (T : Tm → Prop) : Prop where
  fn : ∀ {x b}, T (.fn x b) → T b
  rc : ∀ {f x b}, T (.rc f x b) → T b
  lt : ∀ {x a b}, T (.lt x a b) → T a ∧ T b
  op : ∀ {s a b}, T (.op s a b) → T a ∧ T b
  ask : ∀ {o a}, T (.ask o a) → T a
  fst : ∀ {a}, T (.fst a) → T a
  snd : ∀ {a}, T (.snd a) → T a
  nt : ∀ {a}, T (.nt a) → T a
  ite : ∀ {a b c}, T (.ite a b c) → T a ∧ T b ∧ T c
  call : ∀ {a b}, T (.call a b) → T a ∧ T b
  pair : ∀ {a b}, T (.pair a b) → T a ∧ T b
  prt : ∀ {a b}, T (.prt a b) → T a ∧ T b
  han : ∀ {e r b cs}, T (.han e r b cs) → T e ∧ T b ∧ ∀ o x k c, cs.find o = some (x, k, c) → T c
mutual
inductive VA (T : Tm → Prop) : Val → Prop
  | int {i} : VA T (.int i)
  | bool {b} : VA T (.bool b)
  | unit : VA T .unit
  | pair {a b} : VA T a → VA T b → VA T (.pair a b)
  | fn {f x b e} : T b → EA T e → VA T (.fn f x b e)
  | kept {fs} : endsH fs → FA T fs → VA T (.kept fs)
inductive EA (T : Tm → Prop) : Env → Prop
  | nil : EA T .nil
  | cons {x v e} : VA T v → EA T e → EA T (.cons x v e)
inductive FA (T : Tm → Prop) : List Fr → Prop
  | nil : FA T []
  | a {t e k fs} : T t → EA T e → FA T fs → FA T (.a t e k :: fs)
  | b {t e v k fs} : T t → EA T e → VA T v → FA T fs → FA T (.b t e v k :: fs)
end
def CA (T : Tm → Prop) : Cur → Prop
  | .ev t e _ => T t ∧ EA T e
  | .rt v => VA T v
  | .dn _ => True
def SA (T : Tm → Prop) (s : LS) : Prop := CA T s.cur ∧ FA T s.fs
section
variable {T : Tm → Prop}
theorem FA.app : ∀ {l m : List Fr}, FA T l → FA T m → FA T (l ++ m)
  | _, m, .nil, h => h
  | _, m, .a h1 h2 h3, h => .a h1 h2 (h3.app h)
  | _, m, .b h1 h2 h3 h4, h => .b h1 h2 h3 (h4.app h)
theorem FA.split : ∀ {l m : List Fr}, FA T (l ++ m) → FA T l ∧ FA T m
  | [], m, h => ⟨.nil, h⟩
  | .a t e k :: l, m, .a h1 h2 h3 => let ⟨g1, g2⟩ := FA.split (l := l) h3; ⟨.a h1 h2 g1, g2⟩
  | .b t e v k :: l, m, .b h1 h2 h3 h4 => let ⟨g1, g2⟩ := FA.split (l := l) h4; ⟨.b h1 h2 h3 g1, g2⟩
theorem EA.find : ∀ {e : Env} {x : String} {v : Val}, EA T e → e.find x = some v → VA T v
  | _, _, _, .nil, h => by cases h
  | .cons y u e, x, v, .cons h1 h2, h => by
    rw [Env.find] at h
    split at h
    · cases h; exact h1
    · exact h2.find h
theorem SA.step (hT : Hered T) {s s' : LS} (h : SA T s) (hs : s.step = some s') : SA T s' := by
  obtain ⟨hc, hf⟩ := h
  unfold LS.step at hs
  split at hs
  · rename_i t e k ec
    rw [ec] at hc
    obtain ⟨h1, h2⟩ := hc
    cases t with
    | num i => cases hs; exact ⟨.int, hf⟩
    | flag b => cases hs; exact ⟨.bool, hf⟩
    | unit => cases hs; exact ⟨.unit, hf⟩
    | name x =>
      simp only [into] at hs
      split at hs
      · rename_i v hv
        cases hs
        exact ⟨h2.find hv, hf⟩
      · cases hs
    | fn x b => cases hs; exact ⟨.fn (hT.fn h1) h2, hf⟩
    | rc f x b => cases hs; exact ⟨.fn (hT.rc h1) h2, hf⟩
    | lt x a b => cases hs; exact ⟨⟨(hT.lt h1).1, h2⟩, .a h1 h2 hf⟩
    | op x a b => cases hs; exact ⟨⟨(hT.op h1).1, h2⟩, .a h1 h2 hf⟩
    | ask o a => cases hs; exact ⟨⟨hT.ask h1, h2⟩, .a h1 h2 hf⟩
    | fst a => cases hs; exact ⟨⟨hT.fst h1, h2⟩, .a h1 h2 hf⟩
    | snd a => cases hs; exact ⟨⟨hT.snd h1, h2⟩, .a h1 h2 hf⟩
    | nt a => cases hs; exact ⟨⟨hT.nt h1, h2⟩, .a h1 h2 hf⟩
    | ite a b c => cases hs; exact ⟨⟨(hT.ite h1).1, h2⟩, .a h1 h2 hf⟩
    | call a b => cases hs; exact ⟨⟨(hT.call h1).1, h2⟩, .a h1 h2 hf⟩
    | pair a b => cases hs; exact ⟨⟨(hT.pair h1).1, h2⟩, .a h1 h2 hf⟩
    | prt a b => cases hs; exact ⟨⟨(hT.prt h1).1, h2⟩, .a h1 h2 hf⟩
    | han a r b cs => cases hs; exact ⟨⟨(hT.han h1).1, h2⟩, .a h1 h2 hf⟩
  · rename_i v ec
    rw [ec] at hc
    have hv : VA T v := hc
    split at hs
    · cases hs
    · rename_i f fs efs
      rw [efs] at hf
      cases f with
      | a t e k =>
        cases hf with
        | a h1 h2 h3 =>
          cases t with
          | call a b => cases hs; exact ⟨⟨(hT.call h1).2, h2⟩, .b h1 h2 hv h3⟩
          | pair a b => cases hs; exact ⟨⟨(hT.pair h1).2, h2⟩, .b h1 h2 hv h3⟩
          | op o a b => cases hs; exact ⟨⟨(hT.op h1).2, h2⟩, .b h1 h2 hv h3⟩
          | lt x a b => cases hs; exact ⟨⟨(hT.lt h1).2, .cons hv h2⟩, h3⟩
          | ite a b c =>
            cases v with
            | bool q => cases hs; cases q
                        · exact ⟨⟨(hT.ite h1).2.2, h2⟩, h3⟩
                        · exact ⟨⟨(hT.ite h1).2.1, h2⟩, h3⟩
            | _ => cases hs
          | prt a b =>
            cases v with
            | int i => cases hs; exact ⟨⟨(hT.prt h1).2, h2⟩, h3⟩
            | _ => cases hs
          | ask o a =>
            change askV { s with fs := fs } o v = some s' at hs
            unfold askV at hs
            split at hs
            · cases hs; exact ⟨trivial, h3⟩
            · have sh := split_hans (o := o) (fs := fs)
              split at hs
              · rename_i i e' x k' b' out es
                change TM.split o fs = _ at es
                rw [es] at sh
                cases hs
                obtain ⟨f1, f2, f3, r, b, cs, f4, f5⟩ := sh
                obtain ⟨i0, e0, r0, b0, cs0, e3, k3, ei⟩ := id f2
                rw [f1] at h3
                obtain ⟨g1, g2⟩ := h3.split
                have gi := g1
                rw [ei] at gi
                have g3 := gi.split.2
                cases g3 with
                | a m1 m2 m3 =>
                  have hx : (hans fs)[nH i - 1]? = some (r0, b0, cs0, e3) := by
                    rw [f1, ei]
                    have : ∀ (l : List Fr), hans (l ++ [Fr.a (.han e0 r0 b0 cs0) e3 k3] ++ out) = hans l ++ (r0, b0, cs0, e3) :: hans out := by
                      intro l
                      induction l with
                      | nil => rfl
                      | cons f l ih =>
                        cases f with
                        | b => exact ih
                        | a t e k =>
                          cases t with
                          | han a1 a2 a3 a4 => show (a2, a3, a4, e) :: hans (l ++ _ ++ out) = _; rw [ih]; rfl
                          | _ => exact ih
                    rw [this, List.getElem?_append_right (by rw [hans_len, nH_app]; simp [nH, Fr.han]), hans_len, nH_app]
                    simp [nH, Fr.han]
                  rw [hx] at f4
                  cases f4
                  exact ⟨⟨(hT.han m1).2.2 _ _ _ _ f5, .cons (.kept f2 g1) (.cons hv m2)⟩, g2⟩
              · cases hs; exact ⟨trivial, h3⟩
          | han a r b cs => cases hs; exact ⟨⟨(hT.han h1).2.1, .cons hv h2⟩, h3⟩
          | nt a =>
            cases v with
            | bool q => cases hs; exact ⟨.bool, h3⟩
            | _ => cases hs
          | fst a =>
            cases hv with
            | pair p q => cases hs; exact ⟨p, h3⟩
            | _ => cases hs
          | snd a =>
            cases hv with
            | pair p q => cases hs; exact ⟨q, h3⟩
            | _ => cases hs
          | _ => cases hs
      | b t e u k =>
        cases hf with
        | b h1 h2 h3 h4 =>
          cases t with
          | op o a b =>
            simp only [back] at hs
            split at hs
            · split at hs
              · rename_i w hw
                cases hs
                refine ⟨?_, h4⟩
                unfold oper at hw
                split at hw
                · cases hw; exact .bool
                · split at hw
                  · cases hw; exact .bool
                  · split at hw
                    · cases hw; exact .int
                    · split at hw
                      · cases hw; exact .int
                      · split at hw
                        · cases hw; exact .int
                        · cases hw
              · cases hs
            · cases hs
          | pair a b => cases hs; exact ⟨.pair h3 hv, h4⟩
          | call a b =>
            change callV { s with fs := fs } u v = some s' at hs
            unfold callV at hs
            split at hs
            · cases hs; exact ⟨trivial, h4⟩
            · cases h3 with
              | kept g1 g2 => cases hs; exact ⟨hv, g2.app h4⟩
              | @fn f x b e g1 g2 =>
                cases hs
                refine ⟨⟨g1, .cons hv ?_⟩, h4⟩
                split
                · exact g2
                · exact .cons (.fn g1 g2) g2
              | _ => cases hs
          | _ => cases hs
  · cases hs
theorem SA.start {t : Tm} {L : Nat} (h : T t) : SA T (start t L) := ⟨⟨h, .nil⟩, .nil⟩
end
theorem hered_true : Hered (fun _ => True) := ⟨fun _ => trivial, fun _ => trivial, fun _ => ⟨trivial, trivial⟩, fun _ => ⟨trivial, trivial⟩, fun _ => trivial, fun _ => trivial, fun _ => trivial, fun _ => trivial, fun _ => ⟨trivial, trivial, trivial⟩, fun _ => ⟨trivial, trivial⟩, fun _ => ⟨trivial, trivial⟩, fun _ => ⟨trivial, trivial⟩, fun _ => ⟨trivial, trivial, fun _ _ _ _ _ => trivial⟩⟩
/-- no handler in it -/
def Tm.nohan : Tm → Prop
  | .num _ => True | .flag _ => True | .unit => True | .name _ => True
  | .fn _ b => b.nohan | .rc _ _ b => b.nohan
  | .lt _ a b => a.nohan ∧ b.nohan | .op _ a b => a.nohan ∧ b.nohan | .ask _ a => a.nohan
  | .fst a => a.nohan | .snd a => a.nohan | .nt a => a.nohan
  | .ite a b c => a.nohan ∧ b.nohan ∧ c.nohan | .call a b => a.nohan ∧ b.nohan | .pair a b => a.nohan ∧ b.nohan | .prt a b => a.nohan ∧ b.nohan
  | .han _ _ _ _ => False
theorem hered_nohan : Hered Tm.nohan := ⟨fun h => h, fun h => h, fun h => h, fun h => h, fun h => h, fun h => h, fun h => h, fun h => h, fun h => h, fun h => h, fun h => h, fun h => h, fun h => h.elim⟩
theorem FA.nH0 : ∀ {fs : List Fr}, FA Tm.nohan fs → nH fs = 0
  | _, .nil => rfl
  | .a t e k :: fs, .a h1 h2 h3 => by
    have := h3.nH0
    cases t <;> first | exact h1.elim | (simp [nH, Fr.han]; omega)
  | _, .b h1 h2 h3 h4 => by
    have := h4.nH0
    simp [nH, Fr.han]; omega
theorem dn_step {s s' : LS} {r : Res} (hs : s.step = some s') (hd : s'.cur = .dn r) : s'.an = s.an ∧ nH s'.fs ≤ nH s.fs := by
  unfold LS.step at hs
  split at hs
  · rename_i t e k ec
    exfalso
    cases t <;> simp only [into] at hs <;> first | (cases hs; cases hd; done) | (split at hs <;> first | (cases hs; cases hd; done) | (cases hs; done))
  · rename_i v ec
    split at hs
    · cases hs
    · rename_i f fs efs
      have hn : nH fs ≤ nH s.fs := by rw [efs, nH]; omega
      have ask : ∀ {o : String}, askV { s with fs := fs } o v = some s' → s'.an = s.an ∧ nH s'.fs ≤ nH s.fs := fun {o} h => by
        unfold askV at h
        split at h
        · cases h; exact ⟨rfl, hn⟩
        · split at h
          · cases h; cases hd
          · cases h; exact ⟨rfl, hn⟩
      have call : ∀ {u : Val}, callV { s with fs := fs } u v = some s' → s'.an = s.an ∧ nH s'.fs ≤ nH s.fs := fun {u} h => by
        unfold callV at h
        split at h
        · cases h; exact ⟨rfl, hn⟩
        · split at h
          · cases h; cases hd
          · cases h; cases hd
          · cases h
      cases f with
      | a t e k =>
        cases t with
        | ask o a => exact ask hs
        | ite a b c => cases v <;> first | (cases hs; done) | (cases hs; cases hd)
        | prt a b => cases v <;> first | (cases hs; done) | (cases hs; cases hd)
        | nt a => cases v <;> first | (cases hs; done) | (cases hs; cases hd)
        | fst a => cases v <;> first | (cases hs; done) | (cases hs; cases hd)
        | snd a => cases v <;> first | (cases hs; done) | (cases hs; cases hd)
        | _ => first | (cases hs; done) | (cases hs; cases hd)
      | b t e u k =>
        cases t with
        | call a b => exact call hs
        | op o a b =>
          exfalso
          simp only [back] at hs
          split at hs
          · split at hs
            · cases hs; cases hd
            · cases hs
          · cases hs
        | _ => first | (cases hs; done) | (cases hs; cases hd)
  · cases hs
end TM
/-! TR26: what is kept and the most pieces, against the asks that were answered, the handlers, and more steps. -/
namespace TM
open DL
/-- the same state with other steps left -/
def LS.wl (s : LS) (l : Nat) : LS := { s with left := l }
theorem step_wl {s s' : LS} (hs : s.step = some s') {l : Nat} (hl : s.left ≤ l) : s'.cur = .dn .steps ∨ ∃ l', s'.left ≤ l' ∧ (s.wl l).step = some (s'.wl l') := by
  unfold LS.step at hs
  unfold LS.step
  split at hs
  · rename_i t e k ec
    refine .inr ⟨l, ?_, ?_⟩
    · cases t <;> simp only [into] at hs <;> first | (cases hs; exact hl) | (split at hs <;> first | (cases hs; exact hl) | (cases hs; done))
    · rw [show (s.wl l).cur = s.cur from rfl, ec]
      cases t <;> simp only [into] at hs ⊢ <;> first | (cases hs; rfl) | (split at hs <;> first | (cases hs; rfl) | (cases hs; done))
  · rename_i v ec
    rw [show (s.wl l).cur = s.cur from rfl, ec]
    split at hs
    · cases hs
    · rename_i f fs efs
      dsimp only
      rw [show (s.wl l).fs = s.fs from rfl, efs]
      have ask : ∀ {o : String}, askV { s with fs := fs } o v = some s' → s'.cur = .dn .steps ∨ ∃ l', s'.left ≤ l' ∧ askV { s.wl l with fs := fs } o v = some (s'.wl l') := fun {o} h => by
        unfold askV at h
        split at h
        · cases h; exact .inl rfl
        · rename_i h0
          have h0 : ¬ s.left = 0 := h0
          refine .inr ⟨l - 1, ?_, ?_⟩
          · split at h <;> (cases h; show s.left - 1 ≤ l - 1; omega)
          · unfold askV
            rw [if_neg (by show ¬ l = 0; omega)]
            dsimp only at h ⊢
            split at h <;> (cases h; rfl)
      have call : ∀ {u : Val}, callV { s with fs := fs } u v = some s' → s'.cur = .dn .steps ∨ ∃ l', s'.left ≤ l' ∧ callV { s.wl l with fs := fs } u v = some (s'.wl l') := fun {u} h => by
        unfold callV at h
        split at h
        · cases h; exact .inl rfl
        · rename_i h0
          have h0 : ¬ s.left = 0 := h0
          refine .inr ⟨l - 1, ?_, ?_⟩
          · split at h <;> first | (cases h; done) | (cases h; show s.left - 1 ≤ l - 1; omega)
          · unfold callV
            rw [if_neg (by show ¬ l = 0; omega)]
            cases u <;> first | (cases h; rfl) | (cases h; done)
      cases f with
      | a t e k =>
        cases t with
        | ask o a => exact ask hs
        | ite a b c => cases v <;> first | (cases hs; done) | (cases hs; exact .inr ⟨l, hl, rfl⟩)
        | prt a b => cases v <;> first | (cases hs; done) | (cases hs; exact .inr ⟨l, hl, rfl⟩)
        | nt a => cases v <;> first | (cases hs; done) | (cases hs; exact .inr ⟨l, hl, rfl⟩)
        | fst a => cases v <;> first | (cases hs; done) | (cases hs; exact .inr ⟨l, hl, rfl⟩)
        | snd a => cases v <;> first | (cases hs; done) | (cases hs; exact .inr ⟨l, hl, rfl⟩)
        | _ => first | (cases hs; done) | (cases hs; exact .inr ⟨l, hl, rfl⟩)
      | b t e u k =>
        cases t with
        | call a b => exact call hs
        | op o a b =>
          cases u with
          | int i =>
            cases v with
            | int j =>
              simp only [back] at hs ⊢
              split at hs
              · cases hs; exact .inr ⟨l, hl, rfl⟩
              · cases hs
            | _ => cases hs
          | _ => cases hs
        | _ => first | (cases hs; done) | (cases hs; exact .inr ⟨l, hl, rfl⟩)
  · cases hs
theorem KRun.up {s u : LS} {k m k' m' : Nat} (h : KRun s k m u k' m') : k ≤ k' ∧ m ≤ m' := by
  induction h with
  | done => exact ⟨Nat.le_refl _, Nat.le_refl _⟩
  | step _ _ ih => exact ⟨by omega, by omega⟩
theorem KRun.more {s u : LS} {k1 m1 ka ma : Nat} (h : KRun s k1 m1 u ka ma) : ∀ {l k2 m2 kb mb : Nat} {w : LS}, s.left ≤ l → nH s.fs + 1 ≤ m1 → k1 ≤ k2 → m1 ≤ m2 → KRun (s.wl l) k2 m2 w kb mb → ka ≤ kb ∧ ma ≤ mb := by
  induction h with
  | done _ =>
    intro l k2 m2 kb mb w _ _ h1 h2 h3
    have := h3.up
    omega
  | @step s s' k m u ka ma hs hr ih =>
    intro l k2 m2 kb mb w hl hn h1 h2 h3
    rcases step_wl hs hl with hd | ⟨l', hl', hs2⟩
    · obtain ⟨d1, d2⟩ := dn_step hs hd
      cases hr with
      | step z _ =>
        have := step_res z
        unfold LS.res at this
        rw [hd] at this
        cases this
      | done _ =>
        have tk : took s s' = 0 := by unfold took; rw [d1]; simp
        have := h3.up
        omega
    · cases h3 with
      | done z => exact absurd (step_res hs2) z
      | step hs3 hr3 =>
        rw [hs2] at hs3
        cases hs3
        refine ih hl' (Nat.le_max_right _ _) ?_ ?_ hr3
        · show k + took s s' ≤ k2 + took s s'
          omega
        · show max m (nH s'.fs + 1) ≤ max m2 (nH s'.fs + 1)
          omega
/-- an ask that is answered takes a piece away -/
theorem step_took {s s' : LS} (hs : s.step = some s') : s'.an = s.an ∨ s'.an.length = s.an.length + 1 ∧ nH s'.fs + 1 ≤ nH s.fs := by
  unfold LS.step at hs
  split at hs
  · rename_i t e k ec
    cases t <;> simp only [into] at hs <;> first | (cases hs; exact .inl rfl) | (split at hs <;> first | (cases hs; exact .inl rfl) | (cases hs; done))
  · rename_i v ec
    split at hs
    · cases hs
    · rename_i f fs efs
      have ask : ∀ {o : String}, askV { s with fs := fs } o v = some s' → s'.an = s.an ∨ s'.an.length = s.an.length + 1 ∧ nH s'.fs + 1 ≤ nH s.fs := fun {o} h => by
        unfold askV at h
        split at h
        · cases h; exact .inl rfl
        · split at h
          · rename_i i e' x k' b' out es
            change TM.split o fs = _ at es
            have sh := split_hans (o := o) (fs := fs)
            rw [es] at sh
            cases h
            refine .inr ⟨by simp, ?_⟩
            rw [efs, nH, sh.1, nH_app]
            have := sh.2.1.pos
            show nH out + 1 ≤ _
            omega
          · cases h; exact .inl rfl
      have call : ∀ {u : Val}, callV { s with fs := fs } u v = some s' → s'.an = s.an ∨ s'.an.length = s.an.length + 1 ∧ nH s'.fs + 1 ≤ nH s.fs := fun {u} h => by
        unfold callV at h
        split at h
        · cases h; exact .inl rfl
        · cases u <;> first | (cases h; exact .inl rfl) | (cases h; done)
      cases f with
      | a t e k =>
        cases t with
        | ask o a => exact ask hs
        | ite a b c => cases v <;> first | (cases hs; done) | (cases hs; exact .inl rfl)
        | prt a b => cases v <;> first | (cases hs; done) | (cases hs; exact .inl rfl)
        | nt a => cases v <;> first | (cases hs; done) | (cases hs; exact .inl rfl)
        | fst a => cases v <;> first | (cases hs; done) | (cases hs; exact .inl rfl)
        | snd a => cases v <;> first | (cases hs; done) | (cases hs; exact .inl rfl)
        | _ => first | (cases hs; done) | (cases hs; exact .inl rfl)
      | b t e u k =>
        cases t with
        | call a b => exact call hs
        | op o a b =>
          simp only [back] at hs
          split at hs
          · split at hs
            · cases hs; exact .inl rfl
            · cases hs
          · cases hs
        | _ => first | (cases hs; done) | (cases hs; exact .inl rfl)
  · cases hs
theorem KRun.an {s u : LS} {k m k' m' : Nat} (h : KRun s k m u k' m') : nH s.fs + 1 ≤ m → k + u.an.length ≤ k' + s.an.length ∧ s.an.length ≤ u.an.length ∧ (u.an.length = s.an.length → k' = k) ∧ (s.an.length < u.an.length → 2 ≤ m') := by
  induction h with
  | done => exact fun _ => ⟨Nat.le_refl _, Nat.le_refl _, fun _ => rfl, fun z => absurd z (Nat.lt_irrefl _)⟩
  | @step s s' k m u k' m' hs hr ih =>
    intro hn
    obtain ⟨a1, a2, a3, a4⟩ := ih (Nat.le_max_right _ _)
    have up := hr.up
    rcases step_took hs with e | ⟨e1, e2⟩
    · have tk : took s s' = 0 := by unfold took; rw [e]; simp
      rw [tk, e] at a1
      rw [e] at a2 a3 a4
      rw [tk] at a3
      exact ⟨a1, a2, a3, a4⟩
    · have tk : took s s' = nH s.fs - nH s'.fs := by unfold took; rw [if_pos (by omega)]
      rw [tk] at a1
      exact ⟨by omega, by omega, fun _ => by omega, fun _ => by omega⟩
theorem KRun.noh {s u : LS} {k m k' m' : Nat} (h : KRun s k m u k' m') : SA Tm.nohan s → 1 ≤ m → m' = m := by
  induction h with
  | @done s k m hr => exact fun _ _ => rfl
  | @step s s' k m u k' m' hs hr ih =>
    intro ha hm
    have hb := ha.step hered_nohan hs
    have e := hb.2.nH0
    have := ih hb (by omega)
    omega
theorem kstart {t : Tm} {L n : Nat} {u : LS} (h : LRun n (start t L) u) : ∃ k m, KRun (start t L) 0 1 u k m ∧ u.an.length ≤ k ∧ (u.an.length = 0 → k = 0) ∧ (0 < u.an.length → 2 ≤ m) ∧ 1 ≤ m ∧ (t.nohan → m = 1) := by
  obtain ⟨k, m, hk⟩ := KRun.of h 0 1
  obtain ⟨a1, a2, a3, a4⟩ := hk.an (Nat.le_refl 1)
  exact ⟨k, m, hk, by simpa [start] using a1, a3, a4, hk.up.2, fun ht => by exact hk.noh (SA.start ht) (Nat.le_refl 1)⟩
end TM
/-! TR19: runs of the meaning by hand; handlers inside one another whose clauses answer at once. -/
namespace TM
open DL
inductive Go : Nat → LS → LS → Prop
  | refl {s} : Go 0 s s
  | step {n s s' u} : s.step = some s' → Go n s' u → Go (n + 1) s u
theorem Go.trans {n m : Nat} {a b c : LS} (h : Go n a b) (g : Go m b c) : Go (n + m) a c := by
  induction h with
  | refl => rw [Nat.zero_add]; exact g
  | @step n s s' u h1 h2 ih => rw [show n + 1 + m = (n + m) + 1 by omega]; exact .step h1 (ih g)
theorem Go.one {a b : LS} (h : a.step = some b) : Go 1 a b := .step h .refl
theorem Go.run {n : Nat} {a b : LS} (h : Go n a b) (hr : b.res ≠ none) : LRun n a b := by
  induction h with
  | refl => exact .done hr
  | step h1 h2 ih => exact .step h1 (ih hr)
/-- an expression that only gives a value -/
def Vl (e : Env) (t : Tm) (v : Val) (n : Nat) : Prop := ∀ k fs left pr an nx, Go n ⟨.ev t e k, fs, left, pr, an, nx⟩ ⟨.rt v, fs, left, pr, an, nx⟩
theorem vl_num {e : Env} {i : Int} : Vl e (.num i) (.int i) 1 := fun k fs left pr an nx => .one rfl
theorem vl_name {e : Env} {x : String} {v : Val} (h : e.find x = some v) : Vl e (.name x) v 1 := fun k fs left pr an nx => .one (by
  show into _ (.name x) e k = _
  simp only [into, h])
theorem vl_op {e : Env} {s : String} {a b : Tm} {i j : Int} {w : Val} {na nb : Nat} (ha : Vl e a (.int i) na) (hb : Vl e b (.int j) nb) (hw : oper s i j = some w) : Vl e (.op s a b) w (na + nb + 3) := fun k fs left pr an nx => by
  have g1 := ha ((k.drop 1).take a.cost) (.a (.op s a b) e (k.drop (1 + a.cost)) :: fs) left pr an nx
  have g2 := hb (((k.drop (1 + a.cost)).drop 1).take b.cost) (.b (.op s a b) e (.int i) ((k.drop (1 + a.cost)).drop (1 + b.cost)) :: fs) left pr an nx
  have s3 : LS.step ⟨.rt (.int j), .b (.op s a b) e (.int i) ((k.drop (1 + a.cost)).drop (1 + b.cost)) :: fs, left, pr, an, nx⟩ = some ⟨.rt w, fs, left, pr, an, nx⟩ := by
    show back ⟨.rt (.int j), fs, left, pr, an, nx⟩ (.b (.op s a b) e (.int i) ((k.drop (1 + a.cost)).drop (1 + b.cost))) (.int j) = _
    simp only [back, hw]
  have := (Go.one (a := ⟨.ev (.op s a b) e k, fs, left, pr, an, nx⟩) rfl).trans (g1.trans ((Go.one (a := ⟨.rt (.int i), .a (.op s a b) e (k.drop (1 + a.cost)) :: fs, left, pr, an, nx⟩) rfl).trans (g2.trans (Go.one s3))))
  rw [show na + nb + 3 = 1 + (na + (1 + (nb + 1))) by omega]
  exact this
/-- a clause: what it adds, whom it asks, whether it prints -/
structure Kc where
  add : Nat
  fur : Option Nat
  shown : Bool
def Kc.last (c : Kc) : Tm := .ite (.op "<" (.name "y") (.num 30)) (.call (.name "k") (.op "+" (.name "y") (.num c.add))) (.call (.name "k") (.op "-" (.name "y") (.num c.add)))
def Kc.body (nm : Nat → String) (j : Nat) (c : Kc) : Tm :=
  .lt "y" (match c.fur with
    | some f => .ask (nm f) (.op "+" (.name "x") (.num j))
    | none => .name "x") (if c.shown then .prt (.name "y") c.last else c.last)
/-- the answer, and what is printed: n asks at most -/
def kAns (cl : Nat → Kc) : Nat → Nat → Int → Int × List Int
  | 0, _, v => (v, [])
  | n + 1, j, v =>
    let r : Int × List Int := (match (cl j).fur with
      | some f => kAns cl n f (v + (j : Int))
      | none => (v, []));
    ((if r.1 < 30 then r.1 + ((cl j).add : Int) else r.1 - ((cl j).add : Int)), r.2 ++ (if (cl j).shown then [r.1] else []))
def kCls (nm : Nat → String) (cl : Nat → Kc) (j : Nat) : Cls := .cons (nm j) "x" "k" ((cl j).body nm j) .nil
def kRet : Tm := .op "+" (.name "r") (.num 1)
/-- the handlers j, j + 1 .. on the list of waiting expressions -/
inductive HS (nm : Nat → String) (cl : Nat → Kc) (N : Nat) : Nat → List Fr → Prop
  | nil {j} : N ≤ j → HS nm cl N j []
  | skip {j f fs} : (∀ o, split o (f :: fs) = match split o fs with | some (i, e', c, out) => some (f :: i, e', c, out) | none => none) → HS nm cl N j fs → HS nm cl N j (f :: fs)
  | han {j e0 tk fs} : j < N → HS nm cl N (j + 1) fs → HS nm cl N j (.a (.han e0 "r" kRet (kCls nm cl j)) .nil tk :: fs)
theorem HS.split {nm : Nat → String} {cl : Nat → Kc} {N : Nat} (hi : ∀ a b, a < N → b < N → nm a = nm b → a = b) : ∀ {j : Nat} {fs : List Fr}, HS nm cl N j fs → ∀ f, j ≤ f → f < N → ∃ i out, TM.split (nm f) fs = some (i, .nil, ("x", "k", (cl f).body nm f), out) ∧ fs = i ++ out ∧ HS nm cl N (f + 1) out := by
  intro j fs h
  induction h with
  | nil h => intro f h1 h2; omega
  | skip hs h ih =>
    intro f h1 h2
    obtain ⟨i, out, g1, g2, g3⟩ := ih f h1 h2
    refine ⟨_ :: i, out, ?_, by rw [g2]; rfl, g3⟩
    rw [hs, g1]
  | @han j e0 tk fs hjN h ih =>
    intro f h1 h2
    by_cases e : j = f
    · subst e
      refine ⟨[.a (.han e0 "r" kRet (kCls nm cl j)) .nil tk], fs, ?_, rfl, h⟩
      rw [TM.split]
      simp [kCls, Cls.find]
    · obtain ⟨i, out, g1, g2, g3⟩ := ih f (by omega) h2
      refine ⟨_ :: i, out, ?_, by rw [g2]; rfl, g3⟩
      rw [TM.split]
      have : (kCls nm cl j).find (nm f) = none := by
        simp [kCls, Cls.find]
        exact fun z => e (hi _ _ hjN h2 z)
      rw [this, g1]
end TM
/-! TR20: an ask of an operation of nested handlers. -/
namespace TM
open DL
theorem cut_small {i : Int} (h : i.natAbs < 2000000000) : cut32 i = i := by unfold cut32; omega
section
variable {nm : Nat → String} {cl : Nat → Kc} {N : Nat}
theorem kAns_small (ha : ∀ j, (cl j).add ≤ 20) (hf : ∀ j f, (cl j).fur = some f → j < f ∧ f < N) (hN : N ≤ 10) : ∀ (n j : Nat) (v : Int), j < N → (kAns cl n j v).1.natAbs ≤ v.natAbs + 40 * n
  | 0, j, v, hj => by simp [kAns]
  | n + 1, j, v, hj => by
    have h1 := ha j
    unfold kAns
    cases e : (cl j).fur with
    | none =>
      simp only
      split <;> omega
    | some f =>
      have := kAns_small ha hf hN n f (v + (j : Int)) (hf j f e).2
      simp only
      split <;> omega
/-- choosing and calling the resumption -/
theorem last_run {c : Kc} {i out : List Fr} {E : Env} {y : Int} {K : List Nat} {left : Nat} {pr : List Int} {an : List (String × String × String × Tm)} {nx : Nat} (hy : E.find "y" = some (.int y)) (hk : E.find "k" = some (.kept i)) (hs : y.natAbs < 1000000) (ha : c.add ≤ 20) :
    ∃ m, m ≤ 20 ∧ Go m ⟨.ev c.last E K, out, left + 1, pr, an, nx⟩ ⟨.rt (.int (if y < 30 then y + (c.add : Int) else y - (c.add : Int))), i ++ out, left, pr, an, nx⟩ := by
  have vy : Vl E (.name "y") (.int y) 1 := vl_name hy
  have vk : Vl E (.name "k") (.kept i) 1 := vl_name hk
  have vc : Vl E (.op "<" (.name "y") (.num 30)) (.bool (decide (y < 30))) 5 := vl_op vy vl_num (by simp [oper])
  have vp : Vl E (.op "+" (.name "y") (.num c.add)) (.int (y + (c.add : Int))) 5 := vl_op vy vl_num (by simp [oper, cut_small (i := y + (c.add : Int)) (by omega)])
  have vm : Vl E (.op "-" (.name "y") (.num c.add)) (.int (y - (c.add : Int))) 5 := vl_op vy vl_num (by simp [oper, cut_small (i := y - (c.add : Int)) (by omega)])
  have call : ∀ {b : Tm} {w : Int} {K : List Nat}, Vl E b (.int w) 5 → Go 9 ⟨.ev (.call (.name "k") b) E K, out, left + 1, pr, an, nx⟩ ⟨.rt (.int w), i ++ out, left, pr, an, nx⟩ := fun {b w K} vb => by
    have g1 := vk ((K.drop 1).take 1) (.a (.call (.name "k") b) E (K.drop (1 + 1)) :: out) (left + 1) pr an nx
    have g2 := vb (((K.drop (1 + 1)).drop 1).take b.cost) (.b (.call (.name "k") b) E (.kept i) ((K.drop (1 + 1)).drop (1 + b.cost)) :: out) (left + 1) pr an nx
    have := (Go.one (a := ⟨.ev (.call (.name "k") b) E K, out, left + 1, pr, an, nx⟩) rfl).trans (g1.trans ((Go.one (a := ⟨.rt (.kept i), .a (.call (.name "k") b) E (K.drop (1 + 1)) :: out, left + 1, pr, an, nx⟩) rfl).trans (g2.trans (Go.one (a := ⟨.rt (.int w), .b (.call (.name "k") b) E (.kept i) ((K.drop (1 + 1)).drop (1 + b.cost)) :: out, left + 1, pr, an, nx⟩) (b := ⟨.rt (.int w), i ++ out, left, pr, an, nx⟩) rfl))))
    exact this
  have g1 := vc ((K.drop 1).take (Tm.op "<" (.name "y") (.num 30)).cost) (.a c.last E (K.drop (1 + (Tm.op "<" (.name "y") (.num 30)).cost)) :: out) (left + 1) pr an nx
  have h0 := Go.one (a := ⟨.ev c.last E K, out, left + 1, pr, an, nx⟩) rfl
  by_cases hlt : y < 30
  · rw [if_pos hlt]
    rw [decide_eq_true hlt] at g1
    refine ⟨1 + (5 + (1 + 9)), by omega, h0.trans (g1.trans ((Go.one rfl).trans (call vp)))⟩
  · rw [if_neg hlt]
    rw [decide_eq_false hlt] at g1
    refine ⟨1 + (5 + (1 + 9)), by omega, h0.trans (g1.trans ((Go.one rfl).trans (call vm)))⟩
theorem once_last {c : Kc} : c.last.once "k" = true := by simp [Kc.last, Tm.once, Tm.fv, Tm.isName]
theorem once_body {j : Nat} {c : Kc} : (c.body nm j).once "k" = true := by
  unfold Kc.body
  cases c.fur <;> cases c.shown <;> simp [Tm.once, Tm.fv, once_last]
theorem cntA_add {an : List (String × String × String × Tm)} {j : Nat} {c : Kc} {o : String} : cntA (an ++ [(o, "x", "k", c.body nm j)]) = cntA an := by
  simp [cntA, List.filter_append, once_body]
/-- an ask is answered -/
theorem ask_run (hi : ∀ a b, a < N → b < N → nm a = nm b → a = b) (ha : ∀ j, (cl j).add ≤ 20) (hf : ∀ j f, (cl j).fur = some f → j < f ∧ f < N) (hN : N ≤ 10) :
    ∀ (n j : Nat), j < N → N - j ≤ n → ∀ (j0 : Nat) (fs : List Fr) (v : Int) (left : Nat) (pr : List Int) (an : List (String × String × String × Tm)) (nx : Nat) (e : Env) (a : Tm) (tk : List Nat), j0 ≤ j → HS nm cl N j0 fs → v.natAbs + 40 * n < 100000 → 2 * n ≤ left →
    ∃ m left' an' nx', m ≤ 60 * n ∧ left ≤ left' + 2 * n ∧ cntA an' = cntA an ∧ Go m ⟨.rt (.int v), .a (.ask (nm j) a) e tk :: fs, left, pr, an, nx⟩ ⟨.rt (.int (kAns cl n j v).1), fs, left', pr ++ (kAns cl n j v).2, an', nx'⟩
  | 0, j, hj, hn => by omega
  | n + 1, j, hj, hn => by
    intro j0 fs v left pr an nx e a tk h0 hs hv hl
    obtain ⟨i, out, g1, g2, g3⟩ := hs.split hi j h0 hj
    obtain ⟨l, rfl⟩ : ∃ l, left = l + 2 := ⟨left - 2, by omega⟩
    have hl2 : 2 * n ≤ l := by omega
    have h1 := ha j
    -- the clause begins
    have s1 : LS.step ⟨.rt (.int v), .a (.ask (nm j) a) e tk :: fs, l + 2, pr, an, nx⟩ = some ⟨.ev ((cl j).body nm j) (.cons "k" (.kept i) (.cons "x" (.int v) .nil)) (fresh nx ((cl j).body nm j).cost), out, l + 1, pr, an ++ [(nm j, "x", "k", (cl j).body nm j)], nx + ((cl j).body nm j).cost⟩ := by
      show askV ⟨.rt (.int v), fs, l + 2, pr, an, nx⟩ (nm j) (.int v) = _
      unfold askV
      rw [if_neg (by simp)]
      simp only [g1]
      rfl
    generalize hE : Env.cons "k" (.kept i) (.cons "x" (.int v) .nil) = E0 at s1
    have fx : E0.find "x" = some (.int v) := by rw [← hE]; simp [Env.find]
    have fk : E0.find "k" = some (.kept i) := by rw [← hE]; simp [Env.find]
    generalize (fresh nx ((cl j).body nm j).cost) = K at s1
    generalize hnx : nx + ((cl j).body nm j).cost = nx1 at s1
    have hc1 : cntA (an ++ [(nm j, "x", "k", (cl j).body nm j)]) = cntA an := cntA_add
    generalize an ++ [(nm j, "x", "k", (cl j).body nm j)] = an1 at s1 hc1
    -- what is given
    have given : ∃ (r : Int) (ps : List Int) (m left' : Nat) (an' : List (String × String × String × Tm)) (nx' : Nat) (K' : List Nat), m ≤ 60 * n + 10 ∧ l + 1 ≤ left' + 2 * n ∧ left' ≥ 1 ∧ cntA an' = cntA an1 ∧ r.natAbs ≤ v.natAbs + 40 * n + 10 ∧
        kAns cl (n + 1) j v = ((if r < 30 then r + ((cl j).add : Int) else r - ((cl j).add : Int)), ps ++ (if (cl j).shown then [r] else [])) ∧
        Go m ⟨.ev ((cl j).body nm j) E0 K, out, l + 1, pr, an1, nx1⟩ ⟨.ev (if (cl j).shown then .prt (.name "y") (cl j).last else (cl j).last) (.cons "y" (.int r) E0) K', out, left', pr ++ ps, an', nx'⟩ := by
      unfold Kc.body
      cases ef : (cl j).fur with
      | none =>
        refine ⟨v, [], 3, l + 1, an1, nx1, ?_⟩
        refine ⟨(K.drop (1 + 1)).drop 1, by omega, by omega, by omega, rfl, by omega, by unfold kAns; rw [ef], ?_⟩
        have gx := vl_name fx ((K.drop 1).take 1) (.a (.lt "y" (.name "x") (if (cl j).shown then .prt (.name "y") (cl j).last else (cl j).last)) E0 (K.drop (1 + 1)) :: out) (l + 1) pr an1 nx1
        rw [List.append_nil]
        exact (Go.one (a := ⟨.ev (.lt "y" (.name "x") (if (cl j).shown then .prt (.name "y") (cl j).last else (cl j).last)) E0 K, out, l + 1, pr, an1, nx1⟩) rfl).trans (gx.trans (Go.one rfl))
      | some f =>
        obtain ⟨f1, f2⟩ := hf j f ef
        have va : Vl E0 (.op "+" (.name "x") (.num j)) (.int (v + (j : Int))) 5 := vl_op (vl_name fx) vl_num (by simp [oper, cut_small (i := v + (j : Int)) (by omega)])
        generalize hb : (if (cl j).shown then Tm.prt (.name "y") (cl j).last else (cl j).last) = bb
        have hs2 : HS nm cl N (j + 1) (.a (.lt "y" (.ask (nm f) (.op "+" (.name "x") (.num j))) bb) E0 (K.drop (1 + (Tm.ask (nm f) (.op "+" (.name "x") (.num j))).cost)) :: out) := .skip (fun o => rfl) g3
        obtain ⟨m, left', an', nx', q1, q2, q3, q4⟩ := ask_run hi ha hf hN n f f2 (by omega) (j + 1) _ (v + (j : Int)) (l + 1) pr an1 nx1 E0 (.op "+" (.name "x") (.num j)) (((K.drop 1).take (Tm.ask (nm f) (.op "+" (.name "x") (.num j))).cost).drop (1 + (Tm.op "+" (.name "x") (.num j)).cost)) (by omega) hs2 (by omega) (by omega)
        have sm := kAns_small ha hf hN n f (v + (j : Int)) f2
        have gv := va ((((K.drop 1).take (Tm.ask (nm f) (.op "+" (.name "x") (.num j))).cost).drop 1).take (Tm.op "+" (.name "x") (.num j)).cost) (.a (.ask (nm f) (.op "+" (.name "x") (.num j))) E0 (((K.drop 1).take (Tm.ask (nm f) (.op "+" (.name "x") (.num j))).cost).drop (1 + (Tm.op "+" (.name "x") (.num j)).cost)) :: .a (.lt "y" (.ask (nm f) (.op "+" (.name "x") (.num j))) bb) E0 (K.drop (1 + (Tm.ask (nm f) (.op "+" (.name "x") (.num j))).cost)) :: out) (l + 1) pr an1 nx1
        refine ⟨(kAns cl n f (v + (j : Int))).1, (kAns cl n f (v + (j : Int))).2, 1 + (1 + (5 + (m + 1))), left', an', nx', (K.drop (1 + (Tm.ask (nm f) (.op "+" (.name "x") (.num j))).cost)).drop 1, by omega, by omega, by omega, q3, by omega, by conv => lhs; unfold kAns; rw [ef], ?_⟩
        exact (Go.one rfl).trans ((Go.one rfl).trans (gv.trans (q4.trans (Go.one rfl))))
    obtain ⟨r, ps, m, left', an', nx', K', p1, p2, p3, p4, p5, p6, p7⟩ := given
    obtain ⟨l', rfl⟩ : ∃ l', left' = l' + 1 := ⟨left' - 1, by omega⟩
    rw [p6, g2]
    have fy : (Env.cons "y" (.int r) E0).find "y" = some (.int r) := by simp [Env.find]
    have fk' : (Env.cons "y" (.int r) E0).find "k" = some (.kept i) := by simp [Env.find, fk]
    cases hsh : (cl j).shown with
    | false =>
      simp only [hsh, Bool.false_eq_true, if_false] at p7
      obtain ⟨m2, b1, b2⟩ := last_run (c := cl j) (i := i) (out := out) (E := .cons "y" (.int r) E0) (y := r) (K := K') (left := l') (pr := pr ++ ps) (an := an') (nx := nx') fy fk' (by omega) h1
      refine ⟨1 + (m + m2), l', an', nx', by omega, by omega, by rw [p4, hc1], ?_⟩
      simp only [Bool.false_eq_true, if_false, List.append_nil]
      rw [← g2]
      exact (Go.one s1).trans (p7.trans (by rw [g2]; exact b2))
    | true =>
      simp only [hsh, if_true] at p7
      obtain ⟨m2, b1, b2⟩ := last_run (c := cl j) (i := i) (out := out) (E := .cons "y" (.int r) E0) (y := r) (K := (K'.drop (1 + 1)).drop 1) (left := l') (pr := pr ++ ps ++ [r]) (an := an') (nx := nx') fy fk' (by omega) h1
      have gy := vl_name fy ((K'.drop 1).take 1) (.a (.prt (.name "y") (cl j).last) (.cons "y" (.int r) E0) (K'.drop (1 + 1)) :: out) (l' + 1) (pr ++ ps) an' nx'
      refine ⟨1 + (m + (1 + (1 + (1 + m2)))), l', an', nx', by omega, by omega, by rw [p4, hc1], ?_⟩
      simp only [if_true]
      rw [← List.append_assoc, ← g2]
      exact (Go.one s1).trans (p7.trans ((Go.one rfl).trans (gy.trans ((Go.one rfl).trans (by rw [g2]; exact b2)))))
end
end TM
/-! TR21: a sum of asks inside of nested handlers. -/
namespace TM
open DL
section
variable {nm : Nat → String} {cl : Nat → Kc} {N : Nat}
/-- the last ask first -/
def kSum (nm : Nat → String) : List (Nat × Nat) → Tm
  | [] => .num 0
  | (w, a) :: r => .op "+" (kSum nm r) (.ask (nm w) (.num a))
def kTree (nm : Nat → String) (cl : Nat → Kc) (t : Tm) : Nat → Tm
  | 0 => t
  | k + 1 => .han (kTree nm cl t k) "r" kRet (kCls nm cl k)
def kVal (cl : Nat → Kc) (N : Nat) : List (Nat × Nat) → Int × List Int
  | [] => (0, [])
  | (w, a) :: r => ((kVal cl N r).1 + (kAns cl N w (a : Nat)).1, (kVal cl N r).2 ++ (kAns cl N w (a : Nat)).2)
theorem kVal_small (ha : ∀ j, (cl j).add ≤ 20) (hf : ∀ j f, (cl j).fur = some f → j < f ∧ f < N) (hN : N ≤ 10) : ∀ l : List (Nat × Nat), (∀ x ∈ l, x.1 < N ∧ x.2 ≤ 40) → (kVal cl N l).1.natAbs ≤ 1000 * l.length
  | [], _ => by simp [kVal]
  | (w, a) :: r, h => by
    have := kVal_small ha hf hN r fun x hx => h x (by simp [hx])
    obtain ⟨h1, h2⟩ := h (w, a) (by simp)
    have := kAns_small ha hf hN N w (a : Nat) h1
    simp only at h2
    simp only [kVal, List.length_cons]
    omega
theorem sum_run (hi : ∀ a b, a < N → b < N → nm a = nm b → a = b) (ha : ∀ j, (cl j).add ≤ 20) (hf : ∀ j f, (cl j).fur = some f → j < f ∧ f < N) (hN : N ≤ 10) :
    ∀ (l : List (Nat × Nat)), (∀ x ∈ l, x.1 < N ∧ x.2 ≤ 40) → l.length ≤ 100 → ∀ (K : List Nat) (fs : List Fr) (left : Nat) (pr : List Int) (an : List (String × String × String × Tm)) (nx : Nat), HS nm cl N 0 fs → 2 * N * l.length ≤ left →
    ∃ m left' an' nx', m ≤ (60 * N + 10) * (l.length + 1) ∧ left ≤ left' + 2 * N * l.length ∧ cntA an' = cntA an ∧ Go m ⟨.ev (kSum nm l) .nil K, fs, left, pr, an, nx⟩ ⟨.rt (.int (kVal cl N l).1), fs, left', pr ++ (kVal cl N l).2, an', nx'⟩
  | [], _, _, K, fs, left, pr, an, nx, hs, hl => ⟨1, left, an, nx, by simp <;> omega, by omega, rfl, by rw [show (kVal cl N []).2 = [] from rfl, List.append_nil]; exact .one rfl⟩
  | (w, a) :: r, h, hlen, K, fs, left, pr, an, nx, hs, hl => by
    obtain ⟨h1, h2⟩ := h (w, a) (by simp)
    simp only at h1 h2
    simp only [List.length_cons] at hlen hl
    have hm : 2 * N * (r.length + 1) = 2 * N * r.length + 2 * N := by rw [Nat.mul_add, Nat.mul_one]
    have hm2 : (60 * N + 10) * (r.length + 1 + 1) = (60 * N + 10) * (r.length + 1) + (60 * N + 10) := by rw [Nat.mul_add _ (r.length + 1) 1, Nat.mul_one]
    have hr : ∀ x ∈ r, x.1 < N ∧ x.2 ≤ 40 := fun x hx => h x (by simp [hx])
    obtain ⟨m1, l1, an1, nx1, p1, p2, p3, p4⟩ := sum_run hi ha hf hN r hr (by omega) ((K.drop 1).take (kSum nm r).cost) (.a (.op "+" (kSum nm r) (.ask (nm w) (.num a))) .nil (K.drop (1 + (kSum nm r).cost)) :: fs) left pr an nx (.skip (fun o => rfl) hs) (by omega)
    have sm := kVal_small ha hf hN r hr
    have sa := kAns_small ha hf hN N w (a : Nat) h1
    generalize hK2 : (K.drop (1 + (kSum nm r).cost)) = K2 at p4
    obtain ⟨m2, l2, an2, nx2, q1, q2, q3, q4⟩ := ask_run hi ha hf hN N w h1 (by omega) 0 (.b (.op "+" (kSum nm r) (.ask (nm w) (.num a))) .nil (.int (kVal cl N r).1) (K2.drop (1 + (Tm.ask (nm w) (.num a)).cost)) :: fs) (a : Nat) l1 (pr ++ (kVal cl N r).2) an1 nx1 .nil (.num a) (((K2.drop 1).take (Tm.ask (nm w) (.num a)).cost).drop (1 + 1)) (by omega) (.skip (fun o => rfl) hs) (by omega) (by omega)
    refine ⟨1 + (m1 + (1 + (1 + (1 + (m2 + 1))))), l2, an2, nx2, by simp only [List.length_cons]; omega, by simp only [List.length_cons]; omega, by rw [q3, p3], ?_⟩
    have gn := vl_num (e := .nil) (i := (a : Int)) ((((K2.drop 1).take (Tm.ask (nm w) (.num a)).cost).drop 1).take 1) (.a (.ask (nm w) (.num a)) .nil (((K2.drop 1).take (Tm.ask (nm w) (.num a)).cost).drop (1 + 1)) :: .b (.op "+" (kSum nm r) (.ask (nm w) (.num a))) .nil (.int (kVal cl N r).1) (K2.drop (1 + (Tm.ask (nm w) (.num a)).cost)) :: fs) l1 (pr ++ (kVal cl N r).2) an1 nx1
    have gl : LS.step ⟨.rt (.int (kAns cl N w (a : Nat)).1), .b (.op "+" (kSum nm r) (.ask (nm w) (.num a))) .nil (.int (kVal cl N r).1) (K2.drop (1 + (Tm.ask (nm w) (.num a)).cost)) :: fs, l2, pr ++ (kVal cl N r).2 ++ (kAns cl N w (a : Nat)).2, an2, nx2⟩ = some ⟨.rt (.int ((kVal cl N r).1 + (kAns cl N w (a : Nat)).1)), fs, l2, pr ++ (kVal cl N r).2 ++ (kAns cl N w (a : Nat)).2, an2, nx2⟩ := by
      show back ⟨.rt (.int (kAns cl N w (a : Nat)).1), fs, l2, pr ++ (kVal cl N r).2 ++ (kAns cl N w (a : Nat)).2, an2, nx2⟩ (.b (.op "+" (kSum nm r) (.ask (nm w) (.num a))) .nil (.int (kVal cl N r).1) (K2.drop (1 + (Tm.ask (nm w) (.num a)).cost))) (.int (kAns cl N w (a : Nat)).1) = _
      simp [back, oper, cut_small (i := (kVal cl N r).1 + (kAns cl N w (a : Nat)).1) (by omega)]
    have h0 := Go.one (a := ⟨.ev (kSum nm ((w, a) :: r)) .nil K, fs, left, pr, an, nx⟩) (b := ⟨.ev (kSum nm r) .nil ((K.drop 1).take (kSum nm r).cost), .a (.op "+" (kSum nm r) (.ask (nm w) (.num a))) .nil K2 :: fs, left, pr, an, nx⟩) (by rw [← hK2]; rfl)
    rw [show (kVal cl N ((w, a) :: r)).2 = (kVal cl N r).2 ++ (kAns cl N w (a : Nat)).2 from rfl, ← List.append_assoc]
    exact h0.trans (p4.trans ((Go.one rfl).trans ((Go.one rfl).trans (gn.trans (q4.trans (Go.one gl))))))
theorem tree_run (hi : ∀ a b, a < N → b < N → nm a = nm b → a = b) (ha : ∀ j, (cl j).add ≤ 20) (hf : ∀ j f, (cl j).fur = some f → j < f ∧ f < N) (hN : N ≤ 10) (l : List (Nat × Nat)) (hx : ∀ x ∈ l, x.1 < N ∧ x.2 ≤ 40) (hlen : l.length ≤ 100) :
    ∀ (k : Nat), k ≤ N → ∀ (K : List Nat) (fs : List Fr) (left : Nat) (pr : List Int) (an : List (String × String × String × Tm)) (nx : Nat), HS nm cl N k fs → 2 * N * l.length ≤ left →
    ∃ m left' an' nx', m ≤ (60 * N + 10) * (l.length + 1) + 10 * k ∧ left ≤ left' + 2 * N * l.length ∧ cntA an' = cntA an ∧ Go m ⟨.ev (kTree nm cl (kSum nm l) k) .nil K, fs, left, pr, an, nx⟩ ⟨.rt (.int ((kVal cl N l).1 + (k : Nat))), fs, left', pr ++ (kVal cl N l).2, an', nx'⟩
  | 0, hk, K, fs, left, pr, an, nx, hs, hl => by
    obtain ⟨m, l', an', nx', p1, p2, p3, p4⟩ := sum_run hi ha hf hN l hx hlen K fs left pr an nx hs hl
    exact ⟨m, l', an', nx', by omega, p2, p3, by simpa [kTree] using p4⟩
  | k + 1, hk, K, fs, left, pr, an, nx, hs, hl => by
    obtain ⟨m, l', an', nx', p1, p2, p3, p4⟩ := tree_run hi ha hf hN l hx hlen k (by omega) ((K.drop 1).take (kTree nm cl (kSum nm l) k).cost) (.a (.han (kTree nm cl (kSum nm l) k) "r" kRet (kCls nm cl k)) .nil (K.drop (1 + (kTree nm cl (kSum nm l) k).cost)) :: fs) left pr an nx (.han (by omega) hs) hl
    have sm := kVal_small ha hf hN l hx
    have vr : Vl (.cons "r" (.int ((kVal cl N l).1 + (k : Nat))) .nil) kRet (.int ((kVal cl N l).1 + ((k + 1 : Nat) : Int))) 5 := vl_op (i := (kVal cl N l).1 + (k : Nat)) (vl_name (by simp [Env.find])) vl_num (by
      have e : ((k + 1 : Nat) : Int) = (k : Int) + 1 := by omega
      simp [oper, e]
      rw [cut_small (by omega)]
      omega)
    have g := vr ((K.drop (1 + (kTree nm cl (kSum nm l) k).cost)).drop 1) fs l' (pr ++ (kVal cl N l).2) an' nx'
    exact ⟨1 + (m + (1 + 5)), l', an', nx', by omega, p2, p3, (Go.one rfl).trans (p4.trans ((Go.one rfl).trans g))⟩
end
end TM
/-! TR22: k31's tree: its run, its typing. -/
namespace TM
open DL
section
variable {nm : Nat → String} {cl : Nat → Kc} {N : Nat}
theorem tree_all (hi : ∀ a b, a < N → b < N → nm a = nm b → a = b) (ha : ∀ j, (cl j).add ≤ 20) (hf : ∀ j f, (cl j).fur = some f → j < f ∧ f < N) (hN : N ≤ 5) {l : List (Nat × Nat)} (hx : ∀ x ∈ l, x.1 < N ∧ x.2 ≤ 40) (hlen : l.length ≤ 6) :
    ∃ n u, LRun n (start (kTree nm cl (kSum nm l) N) 200) u ∧ n ≤ 94400 ∧ u.res = some (.val (.int ((kVal cl N l).1 + (N : Nat)))) ∧ u.pr = (kVal cl N l).2 ∧ cntA u.an = 0 ∧ 200 ≤ u.left + 60 := by
  have hb : 2 * N * l.length ≤ 60 := by
    have : 2 * N * l.length ≤ 10 * 6 := Nat.mul_le_mul (by omega) hlen
    omega
  obtain ⟨m, l', an', nx', p1, p2, p3, p4⟩ := tree_run hi ha hf (by omega) l hx (by omega) N (Nat.le_refl _) (fresh 0 (kTree nm cl (kSum nm l) N).cost) [] 200 [] [] (kTree nm cl (kSum nm l) N).cost (.nil (Nat.le_refl _)) (by omega)
  have hm : (60 * N + 10) * (l.length + 1) ≤ 310 * 7 := Nat.mul_le_mul (by omega) (by omega)
  refine ⟨m, _, p4.run (by simp [LS.res]), by omega, rfl, by simp, p3, ?_⟩
  show 200 ≤ l' + 60
  omega
theorem body_has {ops : Ops} (hop : ∀ j, j < N → ops.lookup (nm j) = some (.int, .int)) (hf : ∀ j f, (cl j).fur = some f → j < f ∧ f < N) (j : Nat) : Has ops [("k", .fn .int .int), ("x", .int)] ((cl j).body nm j) .int := by
  unfold Kc.body
  have last : Has ops [("y", .int), ("k", .fn .int .int), ("x", .int)] (cl j).last .int := by
    unfold Kc.last
    exact .ite (.op .lt (.name rfl) (.num _)) (.call (.name rfl) (.op .add (.name rfl) (.num _))) (.call (.name rfl) (.op .sub (.name rfl) (.num _)))
  refine .lt (σ := .int) ?_ ?_
  · cases e : (cl j).fur with
    | none => exact .name rfl
    | some f => exact .ask (hop f (hf j f e).2) (.op .add (.name rfl) (.num _))
  · cases (cl j).shown
    · exact last
    · exact .prt (.name rfl) last
theorem tree_has {ops : Ops} (hop : ∀ j, j < N → ops.lookup (nm j) = some (.int, .int)) (hf : ∀ j f, (cl j).fur = some f → j < f ∧ f < N) {l : List (Nat × Nat)} (hx : ∀ x ∈ l, x.1 < N) : ∀ k, k ≤ N → Has ops [] (kTree nm cl (kSum nm l) k) .int
  | 0, _ => by
    show Has ops [] (kSum nm l) .int
    induction l with
    | nil => exact .num _
    | cons p r ih =>
      obtain ⟨w, a⟩ := p
      exact .op .add (ih fun x h => hx x (by simp [h])) (.ask (hop w (hx (w, a) (by simp))) (.num _))
  | k + 1, h => .han (tree_has hop hf hx k (by omega)) (.op .add (.name rfl) (.num _)) (.cons (hop k (by omega)) (body_has hop hf k) .nil) (by simp [kCls, Cls.ops])
theorem body_gd (ha : ∀ j, (cl j).add ≤ 20) (hN : N ≤ 5) {j : Nat} (hj : j < N) : ((cl j).body nm j).cost ≤ 96 ∧ ((cl j).body nm j).gd0 96 ∧ ((cl j).body nm j).dep ≤ 6 := by
  have h1 := ha j
  unfold Kc.body
  cases (cl j).fur <;> cases (cl j).shown <;> (refine ⟨by simp [Tm.cost, Kc.last], by simp [Tm.gd0, Kc.last] <;> omega, by simp [Tm.dep, Kc.last]⟩)
theorem tree_gd (ha : ∀ j, (cl j).add ≤ 20) (hN : N ≤ 5) {l : List (Nat × Nat)} (hx : ∀ x ∈ l, x.2 ≤ 40) (hlen : l.length ≤ 6) : ∀ k, k ≤ N → (kTree nm cl (kSum nm l) k).gd0 96 ∧ (kTree nm cl (kSum nm l) k).dep ≤ 10 + 3 * k ∧ (kTree nm cl (kSum nm l) k).cost ≤ 1 + 6 * l.length + 7 * k
  | 0, _ => by
    have : ∀ l : List (Nat × Nat), (∀ x ∈ l, x.2 ≤ 40) → (kSum nm l).gd0 96 ∧ (kSum nm l).dep ≤ l.length + 1 ∧ (kSum nm l).cost ≤ 1 + 6 * l.length := fun l => by
      induction l with
      | nil => intro _; simp [kSum, Tm.gd0, Tm.dep, Tm.cost]
      | cons p r ih =>
        intro hx
        obtain ⟨w, a⟩ := p
        obtain ⟨h1, h2, h3⟩ := ih fun x h => hx x (by simp [h])
        have := hx (w, a) (by simp)
        simp only at this
        refine ⟨⟨h1, ?_⟩, ?_, ?_⟩
        · show ((a : Int)).natAbs < 2 ^ 32; omega
        · simp only [kSum, Tm.dep, List.length_cons]; omega
        · simp only [kSum, Tm.cost, List.length_cons]; omega
    obtain ⟨h1, h2, h3⟩ := this l hx
    exact ⟨h1, by show (kSum nm l).dep ≤ _; omega, by show (kSum nm l).cost ≤ _; omega⟩
  | k + 1, h => by
    obtain ⟨h1, h2, h3⟩ := tree_gd ha hN hx hlen k (by omega)
    obtain ⟨b1, b2, b3⟩ := body_gd (nm := nm) ha hN (j := k) (by omega)
    refine ⟨⟨h1, ⟨trivial, by show (1 : Int).natAbs < 2 ^ 32; decide⟩, ⟨b1, b2, trivial⟩, by simp [kCls, Cls.len]⟩, ?_, ?_⟩
    · simp only [kTree, Tm.dep, kRet, kCls, Cls.dep]; omega
    · simp only [kTree, Tm.cost, kRet]; omega
end
end TM
/-! TR28: k21's tree: its run with what is kept. -/
namespace TM
open DL
inductive KGo : Nat → LS → Nat → Nat → LS → Nat → Nat → Prop
  | refl {s k m} : KGo 0 s k m s k m
  | step {n s s' k m u k' m'} : s.step = some s' → KGo n s' (k + took s s') (max m (nH s'.fs + 1)) u k' m' → KGo (n + 1) s k m u k' m'
theorem KGo.trans {n1 n2 : Nat} {a b c : LS} {k1 m1 k2 m2 k3 m3 : Nat} (h : KGo n1 a k1 m1 b k2 m2) (g : KGo n2 b k2 m2 c k3 m3) : ∃ n, KGo n a k1 m1 c k3 m3 := by
  induction h with
  | refl => exact ⟨_, g⟩
  | step h1 _ ih => obtain ⟨n, h⟩ := ih g; exact ⟨_, .step h1 h⟩
theorem KGo.run {n : Nat} {s u : LS} {k m k' m' : Nat} (h : KGo n s k m u k' m') (hr : u.res ≠ none) : LRun n s u ∧ KRun s k m u k' m' := by
  induction h with
  | refl => exact ⟨.done hr, .done hr⟩
  | step h1 _ ih => obtain ⟨a, b⟩ := ih hr; exact ⟨.step h1 a, .step h1 b⟩
/-- it comes to a state that R holds of, with these counts -/
def KF (R : LS → Prop) (s : LS) (k m k' m' : Nat) : Prop := ∃ n u, KGo n s k m u k' m' ∧ R u
/-- a step at which nothing is counted -/
theorem kgo1 {R : LS → Prop} {s s' : LS} {k m k' m' : Nat} (h : s.step = some s') (ha : s'.an = s.an) (hn : nH s'.fs + 1 ≤ m) (g : KF R s' k m k' m') : KF R s k m k' m' := by
  obtain ⟨n, u, g, hu⟩ := g
  refine ⟨n + 1, u, .step h ?_, hu⟩
  have tk : took s s' = 0 := by unfold took; rw [ha]; simp
  rw [tk, show max m (nH s'.fs + 1) = m by omega]
  exact g
/-- a value's expression, nothing counted -/
theorem vl_k {R : LS → Prop} {e : Env} {t : Tm} {v : Val} {K : List Nat} {fs : List Fr} {left : Nat} {pr : List Int} {an : List (String × String × String × Tm)} {nx : Nat} {k m k' m' : Nat} (h : ∀ k fs left pr an nx, LS.step ⟨.ev t e k, fs, left, pr, an, nx⟩ = some ⟨.rt v, fs, left, pr, an, nx⟩) (hn : nH fs + 1 ≤ m)
    (g : KF R ⟨.rt v, fs, left, pr, an, nx⟩ k m k' m') : KF R ⟨.ev t e K, fs, left, pr, an, nx⟩ k m k' m' := kgo1 (h _ _ _ _ _ _) rfl hn g
theorem st_num {e : Env} {i : Int} : ∀ k fs left pr an nx, LS.step ⟨.ev (.num i) e k, fs, left, pr, an, nx⟩ = some ⟨.rt (.int i), fs, left, pr, an, nx⟩ := fun _ _ _ _ _ _ => rfl
theorem st_name {e : Env} {x : String} {v : Val} (h : e.find x = some v) : ∀ k fs left pr an nx, LS.step ⟨.ev (.name x) e k, fs, left, pr, an, nx⟩ = some ⟨.rt v, fs, left, pr, an, nx⟩ := fun k fs left pr an nx => by
  show into _ (.name x) e k = _
  simp only [into, h]
theorem st_op {o : String} {a b : Tm} {i j : Int} {w : Val} {e : Env} {tk : List Nat} {fs : List Fr} {left : Nat} {pr : List Int} {an : List (String × String × String × Tm)} {nx : Nat} (hw : oper o i j = some w) : LS.step ⟨.rt (.int j), .b (.op o a b) e (.int i) tk :: fs, left, pr, an, nx⟩ = some ⟨.rt w, fs, left, pr, an, nx⟩ := by
  show back ⟨.rt (.int j), fs, left, pr, an, nx⟩ (.b (.op o a b) e (.int i) tk) (.int j) = _
  simp only [back, hw]
def qBody (a : Nat) : Tm := .prt (.name "x") (.call (.name "k") (.num a))
def qCls (nm : Nat → String) (aw : Nat → Nat) (j : Nat) : Cls := .cons (nm j) "x" "k" (qBody (aw j)) .nil
def qSum (nm : Nat → String) (f s : Nat) : Tm := .op "-" (.ask (nm f) (.num 1)) (.ask (nm s) (.num 2))
def qTree (nm : Nat → String) (aw : Nat → Nat) (t : Tm) : Nat → Tm
  | 0 => t
  | k + 1 => .han (qTree nm aw t k) "r" kRet (qCls nm aw k)
section
variable {nm : Nat → String} {aw : Nat → Nat} {N : Nat}
inductive HQ (nm : Nat → String) (aw : Nat → Nat) (N : Nat) : Nat → List Fr → Prop
  | nil {j} : N ≤ j → HQ nm aw N j []
  | skip {j f fs} : f.han = false → (∀ o, split o (f :: fs) = match split o fs with | some (i, e', c, out) => some (f :: i, e', c, out) | none => none) → HQ nm aw N j fs → HQ nm aw N j (f :: fs)
  | han {j e0 tk fs} : j < N → HQ nm aw N (j + 1) fs → HQ nm aw N j (.a (.han e0 "r" kRet (qCls nm aw j)) .nil tk :: fs)
theorem HQ.split (hi : ∀ a b, a < N → b < N → nm a = nm b → a = b) : ∀ {j : Nat} {fs : List Fr}, HQ nm aw N j fs → ∀ f, j ≤ f → f < N → ∃ i out, TM.split (nm f) fs = some (i, .nil, ("x", "k", qBody (aw f)), out) ∧ fs = i ++ out ∧ nH i + j = f + 1 := by
  intro j fs h
  induction h with
  | nil h => intro f h1 h2; omega
  | skip hh hs h ih =>
    intro f h1 h2
    obtain ⟨i, out, g1, g2, g3⟩ := ih f h1 h2
    refine ⟨_ :: i, out, ?_, by rw [g2]; rfl, by rw [nH, hh]; simpa using g3⟩
    rw [hs, g1]
  | @han j e0 tk fs hjN h ih =>
    intro f h1 h2
    by_cases e : j = f
    · subst e
      refine ⟨[.a (.han e0 "r" kRet (qCls nm aw j)) .nil tk], fs, ?_, rfl, by simp [nH, Fr.han]; omega⟩
      rw [TM.split]
      simp [qCls, Cls.find]
    · obtain ⟨i, out, g1, g2, g3⟩ := ih f (by omega) h2
      refine ⟨_ :: i, out, ?_, by rw [g2]; rfl, by rw [nH]; simp [Fr.han]; omega⟩
      rw [TM.split]
      have : (qCls nm aw j).find (nm f) = none := by
        simp [qCls, Cls.find]
        exact fun z => e (hi _ _ hjN h2 z)
      rw [this, g1]
/-- an ask is answered, its resumption called -/
theorem qask {R : LS → Prop} (hi : ∀ a b, a < N → b < N → nm a = nm b → a = b) {f : Nat} (hf : f < N) {fs : List Fr} (hs : HQ nm aw N 0 fs) {v : Int} {l : Nat} {pr : List Int} {an : List (String × String × String × Tm)} {nx : Nat} {e : Env} {a : Tm} {tk : List Nat} {k m k' m' : Nat} (hn : nH fs + 1 ≤ m)
    (g : ∀ an' nx', KF R ⟨.rt (.int (aw f : Nat)), fs, l, pr ++ [v], an', nx'⟩ (k + (f + 1)) m k' m') : KF R ⟨.rt (.int v), .a (.ask (nm f) a) e tk :: fs, l + 2, pr, an, nx⟩ k m k' m' := by
  obtain ⟨i, out, g1, g2, g3⟩ := hs.split hi f (Nat.zero_le _) hf
  have hno : nH fs = nH i + nH out := by rw [g2, nH_app]
  have s1 : LS.step ⟨.rt (.int v), .a (.ask (nm f) a) e tk :: fs, l + 2, pr, an, nx⟩ = some ⟨.ev (qBody (aw f)) (.cons "k" (.kept i) (.cons "x" (.int v) .nil)) (fresh nx (qBody (aw f)).cost), out, l + 1, pr, an ++ [(nm f, "x", "k", qBody (aw f))], nx + (qBody (aw f)).cost⟩ := by
    show askV ⟨.rt (.int v), fs, l + 2, pr, an, nx⟩ (nm f) (.int v) = _
    unfold askV
    rw [if_neg (by simp)]
    simp only [g1]
    rfl
  have fx : (Env.cons "k" (.kept i) (.cons "x" (.int v) .nil)).find "x" = some (.int v) := by simp [Env.find]
  have fk : (Env.cons "k" (.kept i) (.cons "x" (.int v) .nil)).find "k" = some (.kept i) := by simp [Env.find]
  generalize (Env.cons "k" (.kept i) (.cons "x" (.int v) .nil)) = E0 at s1 fx fk
  have main : KF R ⟨.ev (qBody (aw f)) E0 (fresh nx (qBody (aw f)).cost), out, l + 1, pr, an ++ [(nm f, "x", "k", qBody (aw f))], nx + (qBody (aw f)).cost⟩ (k + (f + 1)) m k' m' := by
    generalize fresh nx (qBody (aw f)).cost = K
    refine kgo1 rfl rfl ?_ (vl_k (st_name fx) ?_ (kgo1 rfl rfl ?_ (kgo1 rfl rfl ?_ (vl_k (st_name fk) ?_ (kgo1 rfl rfl ?_ (vl_k st_num ?_ (kgo1 (s' := ⟨.rt (.int (aw f : Nat)), i ++ out, l, pr ++ [v], _, _⟩) rfl rfl ?_ ?_)))))))
    all_goals first | (simp [nH, Fr.han, qBody, qSum]; omega) | skip
    · rw [nH_app]; omega
    · rw [← g2]; exact g _ _
  obtain ⟨n, u, main, hu⟩ := main
  refine ⟨n + 1, u, .step s1 ?_, hu⟩
  have tk2 : took ⟨.rt (.int v), .a (.ask (nm f) a) e tk :: fs, l + 2, pr, an, nx⟩ ⟨.ev (qBody (aw f)) E0 (fresh nx (qBody (aw f)).cost), out, l + 1, pr, an ++ [(nm f, "x", "k", qBody (aw f))], nx + (qBody (aw f)).cost⟩ = f + 1 := by
    unfold took
    simp only [List.length_append, List.length_cons, List.length_nil, nH, Fr.han]
    rw [if_pos (by omega)]
    simp
    omega
  rw [tk2, show max m (nH out + 1) = m by omega]
  exact main
theorem qsum {R : LS → Prop} (hi : ∀ a b, a < N → b < N → nm a = nm b → a = b) {f s : Nat} (hf : f < N) (hs : s < N) (ha : ∀ j, aw j < 1000) {fs : List Fr} (hq : HQ nm aw N 0 fs) {l : Nat} {K : List Nat} {pr : List Int} {an : List (String × String × String × Tm)} {nx : Nat} {k m k' m' : Nat} (hn : nH fs + 1 ≤ m)
    (g : ∀ an' nx', KF R ⟨.rt (.int ((aw f : Nat) - (aw s : Nat))), fs, l, pr ++ [1] ++ [2], an', nx'⟩ (k + (f + 1) + (s + 1)) m k' m') : KF R ⟨.ev (qSum nm f s) .nil K, fs, l + 4, pr, an, nx⟩ k m k' m' := by
  have h1 := ha f
  have h2 := ha s
  have hw : oper "-" (aw f : Nat) (aw s : Nat) = some (.int ((aw f : Nat) - (aw s : Nat))) := by simp [oper, cut_small (i := (aw f : Int) - (aw s : Int)) (by omega)]
  refine kgo1 rfl rfl ?_ (kgo1 rfl rfl ?_ (vl_k st_num ?_ (qask hi hf (.skip rfl (fun o => rfl) hq) ?_ fun an' nx' => kgo1 rfl rfl ?_ (kgo1 rfl rfl ?_ (vl_k st_num ?_ (qask hi hs (.skip rfl (fun o => rfl) hq) ?_ fun an2 nx2 => kgo1 (st_op hw) rfl hn (g an2 nx2)))))))
  all_goals first | (simp [nH, Fr.han, qBody, qSum]; omega) | skip
theorem qtree {R : LS → Prop} (hi : ∀ a b, a < N → b < N → nm a = nm b → a = b) {f s : Nat} (hf : f < N) (hs : s < N) (ha : ∀ j, aw j < 1000) {l : Nat} : ∀ (j : Nat), j ≤ N → j < 1000 → ∀ {fs : List Fr}, HQ nm aw N j fs → ∀ {K : List Nat} {pr : List Int} {an : List (String × String × String × Tm)} {nx : Nat} {k k' m' : Nat},
    (∀ an' nx', KF R ⟨.rt (.int ((aw f : Nat) - (aw s : Nat) + (j : Nat))), fs, l, pr ++ [1] ++ [2], an', nx'⟩ (k + (f + 1) + (s + 1)) (nH fs + 1 + j) k' m') → KF R ⟨.ev (qTree nm aw (qSum nm f s) j) .nil K, fs, l + 4, pr, an, nx⟩ k (nH fs + 1) k' m'
  | 0, hj, _, fs, hq, K, pr, an, nx, k, k', m', g => qsum hi hf hs ha hq (Nat.le_refl _) fun an' nx' => by simpa using g an' nx'
  | j + 1, hj, hj2, fs, hq, K, pr, an, nx, k, k', m', g => by
    have h1 := ha f
    have h2 := ha s
    have ih := qtree hi hf hs ha (l := l) j (by omega) (by omega) (.han (e0 := qTree nm aw (qSum nm f s) j) (tk := K.drop (1 + (qTree nm aw (qSum nm f s) j).cost)) (by omega) hq) (K := (K.drop 1).take (qTree nm aw (qSum nm f s) j).cost) (pr := pr) (an := an) (nx := nx) (k := k) (k' := k') (m' := m') fun an' nx' => by
      have hr : (Env.cons "r" (.int ((aw f : Nat) - (aw s : Nat) + (j : Nat))) .nil).find "r" = some (.int ((aw f : Nat) - (aw s : Nat) + (j : Nat))) := by simp [Env.find]
      have e1 : nH (Fr.a (.han (qTree nm aw (qSum nm f s) j) "r" kRet (qCls nm aw j)) .nil (K.drop (1 + (qTree nm aw (qSum nm f s) j).cost)) :: fs) = nH fs + 1 := by simp [nH, Fr.han]
      rw [e1]
      have hw : oper "+" ((aw f : Nat) - (aw s : Nat) + (j : Nat)) 1 = some (.int ((aw f : Nat) - (aw s : Nat) + ((j + 1 : Nat) : Int))) := by
        have e : ((j + 1 : Nat) : Int) = (j : Int) + 1 := by omega
        simp [oper, cut_small (i := (aw f : Int) - (aw s : Int) + (j : Int) + 1) (by omega), e]
        omega
      have g2 := g an' nx'
      rw [show nH fs + 1 + (j + 1) = nH fs + 1 + 1 + j by omega] at g2
      refine kgo1 rfl rfl ?_ (kgo1 rfl rfl ?_ (vl_k (st_name hr) ?_ (kgo1 rfl rfl ?_ (vl_k st_num ?_ (kgo1 (st_op hw) rfl ?_ g2)))))
      all_goals first | (simp [nH, Fr.han, kRet]; done) | (simp [nH, Fr.han, kRet]; omega) | skip
    obtain ⟨n, u, ih, hu⟩ := ih
    refine ⟨n + 1, u, .step rfl ?_, hu⟩
    have e2 : nH (Fr.a (.han (qTree nm aw (qSum nm f s) j) "r" kRet (qCls nm aw j)) .nil (K.drop (1 + (qTree nm aw (qSum nm f s) j).cost)) :: fs) = nH fs + 1 := by simp [nH, Fr.han]
    rw [e2] at ih
    have tk : ∀ a b : LS, b.an = a.an → took a b = 0 := fun a b h => by unfold took; rw [h]; simp
    rw [tk _ _ (by rfl)]
    show KGo n _ (k + 0) (max (nH fs + 1) (nH (Fr.a (.han (qTree nm aw (qSum nm f s) j) "r" kRet (qCls nm aw j)) .nil (K.drop (1 + (qTree nm aw (qSum nm f s) j).cost)) :: fs) + 1)) u k' m'
    rw [e2, show max (nH fs + 1) (nH fs + 1 + 1) = nH fs + 1 + 1 by omega]
    exact ih
theorem qall (hi : ∀ a b, a < N → b < N → nm a = nm b → a = b) {f s : Nat} (hf : f < N) (hs : s < N) (ha : ∀ j, aw j < 1000) (hN : N < 1000) {L : Nat} (hL : 4 ≤ L) : ∃ n u, LRun n (start (qTree nm aw (qSum nm f s) N) L) u ∧ KRun (start (qTree nm aw (qSum nm f s) N) L) 0 1 u (f + 1 + (s + 1)) (N + 1) ∧ u.res = some (.val (.int ((aw f : Nat) - (aw s : Nat) + (N : Nat)))) ∧ u.pr = [1, 2] := by
  obtain ⟨l, rfl⟩ : ∃ l, L = l + 4 := ⟨L - 4, by omega⟩
  have := qtree (R := fun u => u.res = some (.val (.int ((aw f : Nat) - (aw s : Nat) + (N : Nat)))) ∧ u.pr = [1, 2]) (l := l) hi hf hs ha N (Nat.le_refl _) hN (fs := []) (.nil (Nat.le_refl _)) (K := fresh 0 (qTree nm aw (qSum nm f s) N).cost) (pr := []) (an := []) (nx := (qTree nm aw (qSum nm f s) N).cost) (k := 0) (k' := f + 1 + (s + 1)) (m' := N + 1) fun an' nx' => ⟨0, _, by
    rw [show nH [] + 1 + N = N + 1 by simp [nH]; omega, show 0 + (f + 1) + (s + 1) = f + 1 + (s + 1) by omega]
    exact .refl, rfl, rfl⟩
  obtain ⟨n, u, g, h1, h2⟩ := this
  obtain ⟨r1, r2⟩ := g.run (by rw [h1]; simp)
  exact ⟨n, u, r1, r2, h1, h2⟩
end
end TM
/-! TR29: k21's tree: its typing, its size. -/
namespace TM
open DL
section
variable {nm : Nat → String} {aw : Nat → Nat} {N : Nat}
theorem qtree_has {ops : Ops} (hop : ∀ j, j < N → ops.lookup (nm j) = some (.int, .int)) {f s : Nat} (hf : f < N) (hs : s < N) : ∀ k, k ≤ N → Has ops [] (qTree nm aw (qSum nm f s) k) .int
  | 0, _ => .op .sub (.ask (hop f hf) (.num _)) (.ask (hop s hs) (.num _))
  | k + 1, h => .han (qtree_has hop hf hs k (by omega)) (.op .add (.name rfl) (.num _)) (.cons (hop k (by omega)) (.prt (.name rfl) (.call (.name rfl) (.num _))) .nil) (by simp [qCls, Cls.ops])
theorem qtree_gd (ha : ∀ j, aw j < 1000) {f s : Nat} : ∀ k, (qTree nm aw (qSum nm f s) k).gd0 96 ∧ (qTree nm aw (qSum nm f s) k).dep ≤ 10 + 3 * k ∧ (qTree nm aw (qSum nm f s) k).cost ≤ 20 + 7 * k
  | 0 => ⟨by simp [qTree, qSum, Tm.gd0], by simp [qTree, qSum, Tm.dep], by simp [qTree, qSum, Tm.cost]⟩
  | k + 1 => by
    obtain ⟨h1, h2, h3⟩ := qtree_gd (f := f) (s := s) ha k
    have := ha k
    refine ⟨⟨h1, ⟨trivial, by show (1 : Int).natAbs < 2 ^ 32; decide⟩, ⟨by simp [qBody, Tm.cost], by simp [qBody, Tm.gd0]; omega, trivial⟩, by simp [qCls, Cls.len]⟩, ?_, ?_⟩
    · simp only [qTree, Tm.dep, kRet, qCls, Cls.dep, qBody]; omega
    · simp only [qTree, Tm.cost, kRet]; omega
end
end TM
/-! TN2: the names that a generator gives, its contexts, bounds. -/
namespace TM
open DL
abbrev T := Tm
def nm (c : String) (i : Nat) : String := c ++ toString (i : Int)
def IxN (i : Nat) (x : String) : Prop := x = nm "x" i ∨ x = nm "k" i ∨ x = nm "h" i
def P17 (x : String) : Prop := x = "r" ∨ ∃ i, i < 17 ∧ IxN i x
def all17 : List String := "r" :: (List.range 17).flatMap fun i => [nm "x" i, nm "k" i, nm "h" i]
theorem P17.mem {x : String} (h : P17 x) : x ∈ all17 := by
  rcases h with rfl | ⟨i, hi, h⟩
  · exact List.mem_cons_self
  · refine List.mem_cons_of_mem _ (List.mem_flatMap.mpr ⟨i, List.mem_range.mpr hi, ?_⟩)
    rcases h with rfl | rfl | rfl <;> simp
theorem P17.len {x : String} (h : P17 x) : x.length ≤ 8 := by
  have h := h.mem
  have all : ∀ y ∈ all17, y.length ≤ 8 := by decide +kernel
  exact all x h
theorem all17_len : all17.length < 60 := by decide +kernel
theorem ix_inj {i j : Nat} {x : String} (hi : i < 17) (hj : j < 17) (h : IxN i x) (g : IxN j x) : i = j := by
  have all : ∀ i : _root_.Fin 17, ∀ j : _root_.Fin 17, ∀ a ∈ ["x", "k", "h"], ∀ b ∈ ["x", "k", "h"], nm a i = nm b j → i = j := by decide +kernel
  have one : ∀ {i : Nat}, IxN i x → ∃ a ∈ ["x", "k", "h"], x = nm a i := fun h => by
    rcases h with h | h | h
    · exact ⟨"x", by simp, h⟩
    · exact ⟨"k", by simp, h⟩
    · exact ⟨"h", by simp, h⟩
  obtain ⟨a, ha, e1⟩ := one h
  obtain ⟨b, hb, e2⟩ := one g
  have := all ⟨i, hi⟩ ⟨j, hj⟩ a ha b hb (e1.symm.trans e2)
  exact Fin.mk.inj_iff.mp this
/-- a context of the generator -/
structure CnOk (Γ : Cn) : Prop where
  nd : (Γ.map (·.1)).Nodup
  ix : ∀ p ∈ Γ, ∃ i, i < Γ.length ∧ IxN i p.1
  dp : ∀ p ∈ Γ, p.2.dp ≤ 12
  ln : Γ.length ≤ 17
theorem CnOk.nil : CnOk [] := ⟨by simp, by simp, by simp, by simp⟩
theorem CnOk.push {Γ : Cn} (h : CnOk Γ) (hl : Γ.length < 17) {x : String} {τ : Ty} (hx : IxN Γ.length x) (ht : τ.dp ≤ 12) : CnOk ((x, τ) :: Γ) := by
  refine ⟨?_, ?_, ?_, ?_⟩
  · rw [List.map_cons, List.nodup_cons]
    refine ⟨fun hm => ?_, h.nd⟩
    obtain ⟨p, hp, e⟩ := List.mem_map.mp hm
    obtain ⟨i, hi, hix⟩ := h.ix p hp
    rw [e] at hix
    have := ix_inj (by omega) (by omega) hx hix
    omega
  · intro p hp
    rcases List.mem_cons.mp hp with rfl | hp
    · exact ⟨Γ.length, by simp, hx⟩
    · obtain ⟨i, hi, hix⟩ := h.ix p hp
      exact ⟨i, by simp; omega, hix⟩
  · intro p hp
    rcases List.mem_cons.mp hp with rfl | hp
    · exact ht
    · exact h.dp p hp
  · simp; omega
theorem lookup_mem {Γ : Cn} (h : (Γ.map (·.1)).Nodup) {x : String} {τ : Ty} (hm : (x, τ) ∈ Γ) : Γ.lookup x = some τ := by
  induction Γ with
  | nil => cases hm
  | cons p Γ ih =>
    obtain ⟨y, σ⟩ := p
    rw [List.map_cons, List.nodup_cons] at h
    rcases List.mem_cons.mp hm with e | hm
    · cases e; rw [List.lookup_cons_self]
    · have hne : ¬ x = y := fun e => h.1 (List.mem_map.mpr ⟨(x, τ), hm, e⟩)
      rw [List.lookup_cons, beq_eq_false_iff_ne.mpr hne]
      exact ih h.2 hm
theorem CnOk.look {Γ : Cn} (h : CnOk Γ) {x : String} {τ : Ty} (hm : (x, τ) ∈ Γ) : Γ.lookup x = some τ ∧ P17 x := by
  refine ⟨lookup_mem h.nd hm, .inr ?_⟩
  obtain ⟨i, hi, hx⟩ := h.ix _ hm
  exact ⟨i, by have := h.ln; omega, hx⟩
/-- as data: the outermost first -/
def knD (p : String × Ty) : D := .tup [.str p.1, p.2.d]
def Cn.d (Γ : Cn) : D := .lst (Γ.map knD).reverse
theorem Cn.d_push (Γ : Cn) (p : String × Ty) : Cn.d (p :: Γ) = .lst ((Γ.map knD).reverse ++ [knD p]) := by simp [Cn.d]
/-- operations -/
def opD (o : String × Ty × Ty) : D := .tup [.str o.1, o.2.1.d, o.2.2.d]
structure OpsOk (ops : Ops) : Prop where
  nd : (ops.map (·.1)).Nodup
  nm : ∀ o ∈ ops, o.1 ∈ ["get", "flip", "tell", "put"]
  dp : ∀ o ∈ ops, o.2.1.dp ≤ 1 ∧ o.2.2.dp ≤ 1
  pl : ∀ o ∈ ops, o.2.1.plain = true ∧ o.2.2.plain = true
  ne : 0 < ops.length
  ln : ops.length ≤ 4
theorem OpsOk.look {ops : Ops} (h : OpsOk ops) {o : String × Ty × Ty} (hm : o ∈ ops) : ops.lookup o.1 = some (o.2.1, o.2.2) := by
  have key : ∀ (l : Ops), (l.map (·.1)).Nodup → o ∈ l → l.lookup o.1 = some (o.2.1, o.2.2) := fun l => by
    induction l with
    | nil => intro _ h; cases h
    | cons p l ih =>
      intro hn h0
      rw [List.map_cons, List.nodup_cons] at hn
      rcases List.mem_cons.mp h0 with e | hm
      · subst e; obtain ⟨a, b, c⟩ := o; rw [List.lookup_cons_self]
      · obtain ⟨a, b, c⟩ := p
        have hne : ¬ o.1 = a := fun e => hn.1 (List.mem_map.mpr ⟨o, hm, e⟩)
        rw [List.lookup_cons, beq_eq_false_iff_ne.mpr hne]
        exact ih hn.2 hm
  exact key ops h.nd hm
theorem OpsOk.short {ops : Ops} (h : OpsOk ops) {o : String × Ty × Ty} (hm : o ∈ ops) : o.1.length ≤ 8 := by
  have := h.nm o hm
  simp at this
  rcases this with e | e | e | e <;> rw [e] <;> decide
/-- the greatest number of leaves of a type that stands in it -/
def Ty.mx : Ty → Nat
  | .fn a b => max a.mx b.mx
  | .pair a b => max (a.lv + b.lv) (max a.mx b.mx)
  | _ => 1
theorem Ty.lv_mx : ∀ t : Ty, t.lv ≤ t.mx
  | .int => Nat.le_refl 1
  | .bool => Nat.le_refl 1
  | .unit => Nat.le_refl 1
  | .fn a b => by
    have := a.lv_mx
    have := a.lv_pos
    simp only [Ty.lv, Ty.mx]; omega
  | .pair a b => by simp only [Ty.lv, Ty.mx]; omega
theorem Ty.mx_dp : ∀ t : Ty, t.mx ≤ 2 ^ t.dp
  | .int => by decide
  | .bool => by decide
  | .unit => by decide
  | .fn a b => by
    have h1 := a.mx_dp
    have h2 := b.mx_dp
    have e1 : 2 ^ a.dp ≤ 2 ^ (max a.dp b.dp) := Nat.pow_le_pow_right (by omega) (by omega)
    have e2 : 2 ^ b.dp ≤ 2 ^ (max a.dp b.dp) := Nat.pow_le_pow_right (by omega) (by omega)
    simp only [Ty.mx, Ty.dp, Nat.pow_succ]; omega
  | .pair a b => by
    have h1 := a.mx_dp
    have h2 := b.mx_dp
    have h3 := a.lv_dp
    have h4 := b.lv_dp
    have e1 : 2 ^ a.dp ≤ 2 ^ (max a.dp b.dp) := Nat.pow_le_pow_right (by omega) (by omega)
    have e2 : 2 ^ b.dp ≤ 2 ^ (max a.dp b.dp) := Nat.pow_le_pow_right (by omega) (by omega)
    simp only [Ty.mx, Ty.dp, Nat.pow_succ]; omega
/-- the cost of an expression of depth r, of a type with s leaves: where s + 2 r is at most 12 -/
def ctab : List (List Nat) := [[0, 1, 5, 9, 13, 17, 21, 25, 29, 33, 37, 41, 45], [0, 11, 15, 20, 28, 36, 44, 52, 60, 68, 76], [0, 30, 34, 39, 47, 55, 67, 79, 91], [0, 68, 72, 77, 85, 93, 113], [0, 144, 148, 153, 161]]
def CT (r s : Nat) : Nat := (ctab.getD r []).getD s 0
theorem CT_zero {s : Nat} (h : s ≤ 12) (h1 : 1 ≤ s) : CT 0 s = 4 * s - 3 := by
  have all : ∀ s : _root_.Fin 13, 1 ≤ s.val → CT 0 s.val = 4 * s.val - 3 := by decide +kernel
  exact all ⟨s, by omega⟩ h1
theorem CT_two {r s : Nat} (hr : r ≤ 4) (h : s ≤ 2) : CT r s ≤ CT r 2 := by
  have all : ∀ r : _root_.Fin 5, ∀ s : _root_.Fin 3, CT r.val s.val ≤ CT r.val 2 := by decide +kernel
  exact all ⟨r, by omega⟩ ⟨s, by omega⟩
/-- what one more level costs -/
structure CtOk (r s : Nat) : Prop where
  leaf : 4 * s - 3 ≤ CT (r + 1) s
  op : 2 * CT r 1 + 3 ≤ CT (r + 1) s
  two : CT r 2 + 3 ≤ CT (r + 1) s
  ask : CT r 2 + CT r s + 4 ≤ CT (r + 1) s
  han : CT r s + CT (r - 1) s + 2 ≤ CT (r + 1) s
  han2 : CT r 2 + CT (r - 1) s + 2 ≤ CT (r + 1) s
  prt : CT r 1 + CT r s + 2 ≤ CT (r + 1) s
  call : CT r 1 + CT r 2 + 3 ≤ CT (r + 1) s
  snd1 : CT r (s + 1) + 2 ≤ CT (r + 1) s
  snd2 : CT r (s + 2) + 2 ≤ CT (r + 1) s
  loop : 11 ≤ CT (r + 1) s
  body : CT r s + 11 ≤ 96
  bod2 : CT r 2 + 11 ≤ 96
  pair : ∀ a : _root_.Fin s, 1 ≤ a.val → CT r a.val + CT r (s - a.val) + 3 ≤ CT (r + 1) s
theorem ctOk {r s : Nat} (hr : r ≤ 3) (h1 : 1 ≤ s) (h : s + 2 * (r + 1) ≤ 12) : CtOk r s := by
  have all : ∀ r : _root_.Fin 4, ∀ s : _root_.Fin 11, 1 ≤ s.val → s.val + 2 * (r.val + 1) ≤ 12 →
    (4 * s.val - 3 ≤ CT (r.val + 1) s.val ∧ 2 * CT r.val 1 + 3 ≤ CT (r.val + 1) s.val ∧ CT r.val 2 + 3 ≤ CT (r.val + 1) s.val ∧ CT r.val 2 + CT r.val s.val + 4 ≤ CT (r.val + 1) s.val ∧
    CT r.val s.val + CT (r.val - 1) s.val + 2 ≤ CT (r.val + 1) s.val ∧ CT r.val 2 + CT (r.val - 1) s.val + 2 ≤ CT (r.val + 1) s.val ∧ CT r.val 1 + CT r.val s.val + 2 ≤ CT (r.val + 1) s.val ∧
    CT r.val 1 + CT r.val 2 + 3 ≤ CT (r.val + 1) s.val) ∧ CT r.val (s.val + 1) + 2 ≤ CT (r.val + 1) s.val ∧ CT r.val (s.val + 2) + 2 ≤ CT (r.val + 1) s.val ∧ 11 ≤ CT (r.val + 1) s.val ∧
    CT r.val s.val + 11 ≤ 96 ∧ CT r.val 2 + 11 ≤ 96 ∧ ∀ a : _root_.Fin s.val, 1 ≤ a.val → CT r.val a.val + CT r.val (s.val - a.val) + 3 ≤ CT (r.val + 1) s.val := by decide +kernel
  obtain ⟨⟨a1, a2, a3, a4, a5, a6, a7, a8⟩, b1, b2, b3, b4, b5, b6⟩ := all ⟨r, by omega⟩ ⟨s, by omega⟩ h1 h
  exact ⟨a1, a2, a3, a4, a5, a6, a7, a8, b1, b2, b3, b4, b5, b6⟩
/-- how many expressions stand in one of depth r, of a type of z nodes -/
def SZ : Nat → Nat → Nat
  | 0, z => z
  | r + 1, z => 6 * SZ r (z + 4) + 30
theorem SZ_mono (r : Nat) : ∀ {a b : Nat}, a ≤ b → SZ r a ≤ SZ r b := by
  induction r with
  | zero => intro a b h; exact h
  | succ r ih =>
    intro a b h
    have := ih (a := a + 4) (b := b + 4) (by omega)
    simp only [SZ]; omega
theorem SZ_self (r z : Nat) : z ≤ SZ r z := by
  induction r generalizing z with
  | zero => exact Nat.le_refl z
  | succ r ih =>
    have := ih (z + 4)
    simp only [SZ]; omega
theorem SZ_pred (r z : Nat) : SZ (r - 1) z ≤ SZ r z := by
  cases r with
  | zero => exact Nat.le_refl _
  | succ r =>
    have := SZ_mono r (a := z) (b := z + 4) (by omega)
    show SZ r z ≤ 6 * SZ r (z + 4) + 30
    omega
/-- what a generated expression is: typed, of short names, of bounded size and cost -/
structure Good (ops : Ops) (Γ : Cn) (t : Tm) (τ : Ty) (d s c : Nat) : Prop where
  ty : Has ops Γ t τ
  ok : t.ok P17
  dep : t.dep ≤ d
  sz : t.sz ≤ s
  gd : t.gd0 96
  cost : t.cost ≤ c
theorem Good.le {ops : Ops} {Γ : Cn} {t : Tm} {τ : Ty} {d s c d' s' c' : Nat} (h : Good ops Γ t τ d s c) (hd : d ≤ d') (hs : s ≤ s') (hc : c ≤ c') : Good ops Γ t τ d' s' c' := ⟨h.ty, h.ok, Nat.le_trans h.dep hd, Nat.le_trans h.sz hs, h.gd, Nat.le_trans h.cost hc⟩
def lf (m : Nat) : Nat := 2 ^ (m + 1)
def szB : Nat → Nat → Nat
  | 0, m => 16 * 2 ^ m
  | r + 1, m => 8 * szB r (m + 1)
def dpB : Nat → Nat → Nat
  | 0, m => m + 2
  | r + 1, m => dpB r (m + 1) + 6
theorem szB_lf (r m : Nat) : 4 * lf m ≤ szB r m ∧ 16 ≤ szB r m ∧ szB r m ≤ szB r (m + 1) := by
  induction r generalizing m with
  | zero =>
    have : 0 < 2 ^ m := Nat.two_pow_pos m
    simp [szB, lf, Nat.pow_succ]; omega
  | succ r ih =>
    have h1 := ih (m + 1)
    have e : lf (m + 1) = 2 * lf m := by simp [lf, Nat.pow_succ]; omega
    simp only [szB]; omega
theorem szB_r (r m : Nat) : 8 * szB r m ≤ szB (r + 1) m := by
  have := szB_lf r m
  simp only [szB]; omega
theorem dpB_m (r m : Nat) : m + 2 ≤ dpB r m ∧ dpB r m ≤ dpB r (m + 1) := by
  induction r generalizing m with
  | zero => simp [dpB]
  | succ r ih =>
    have := ih (m + 1)
    simp only [dpB]; omega
theorem dpB_r (r m : Nat) : dpB r m + 6 ≤ dpB (r + 1) m := by
  have := dpB_m r m
  simp only [dpB]; omega
theorem dpB_pred (r m : Nat) : dpB (r - 1) m ≤ dpB r m := by
  cases r with
  | zero => exact Nat.le_refl _
  | succ r => have := dpB_r r m; show dpB r m ≤ _; omega
theorem Ty.small {t : Ty} (h : t.dp ≤ 1) : t.lv ≤ 2 ∧ t.mx ≤ 2 ∧ t.nd ≤ 3 := by
  have e1 := t.lv_dp
  have e2 := t.mx_dp
  have e3 := t.nd_dp
  have p1 : 2 ^ t.dp ≤ 2 ^ 1 := Nat.pow_le_pow_right (by omega) h
  have p2 : 2 ^ (t.dp + 1) ≤ 2 ^ 2 := Nat.pow_le_pow_right (by omega) (by omega)
  omega
/-! ### more names, more operations -/
theorem push {Γ Δ : Cn} {y : String} {τ : Ty} (w : ∀ x σ, Γ.lookup x = some σ → Δ.lookup x = some σ) : ∀ x σ, List.lookup x ((y, τ) :: Γ) = some σ → List.lookup x ((y, τ) :: Δ) = some σ := fun x σ h => by
  rw [List.lookup_cons] at h ⊢
  split at h
  · exact h
  · exact w x σ h
theorem weak1 {Γ : Cn} {y : String} {τ : Ty} (h : y ∉ Γ.map (·.1)) : ∀ x σ, Γ.lookup x = some σ → List.lookup x ((y, τ) :: Γ) = some σ := fun x σ e => by
  have hne : ¬ x = y := fun z => h (by
    subst z
    have : ∀ l : Cn, l.lookup x = some σ → x ∈ l.map (·.1) := fun l => by
      induction l with
      | nil => intro h; cases h
      | cons p l ih =>
        obtain ⟨a, b⟩ := p
        intro h
        rw [List.lookup_cons] at h
        by_cases c : x = a
        · simp [c]
        · rw [beq_eq_false_iff_ne.mpr c] at h
          exact List.mem_cons_of_mem _ (ih h)
    exact this Γ e)
  rw [List.lookup_cons, beq_eq_false_iff_ne.mpr hne]
  exact e
mutual
theorem Has.weak {ops : Ops} : ∀ {Γ : Cn} {t : Tm} {τ : Ty}, Has ops Γ t τ → ∀ {Δ : Cn}, (∀ x σ, Γ.lookup x = some σ → Δ.lookup x = some σ) → Has ops Δ t τ
  | _, _, _, .num i, _, _ => .num i
  | _, _, _, .flag i, _, _ => .flag i
  | _, _, _, .unit, _, _ => .unit
  | _, _, _, .name h, _, w => .name (w _ _ h)
  | _, _, _, .fn h, _, w => .fn (h.weak (push w))
  | _, _, _, .rc h, _, w => .rc (h.weak (push (push w)))
  | _, _, _, .lt h g, _, w => .lt (h.weak w) (g.weak (push w))
  | _, _, _, .op s h g, _, w => .op s (h.weak w) (g.weak w)
  | _, _, _, .ask e h, _, w => .ask e (h.weak w)
  | _, _, _, .fst h, _, w => .fst (h.weak w)
  | _, _, _, .snd h, _, w => .snd (h.weak w)
  | _, _, _, .nt h, _, w => .nt (h.weak w)
  | _, _, _, .ite h g f, _, w => .ite (h.weak w) (g.weak w) (f.weak w)
  | _, _, _, .call h g, _, w => .call (h.weak w) (g.weak w)
  | _, _, _, .pair h g d, _, w => .pair (h.weak w) (g.weak w) d
  | _, _, _, .prt h g, _, w => .prt (h.weak w) (g.weak w)
  | _, _, _, .han h g c n, _, w => .han (h.weak w) (g.weak (push w)) (c.weak w) n
theorem HasC.weak {ops : Ops} : ∀ {Γ : Cn} {t : Cls} {τ : Ty}, HasC ops Γ t τ → ∀ {Δ : Cn}, (∀ x σ, Γ.lookup x = some σ → Δ.lookup x = some σ) → HasC ops Δ t τ
  | _, _, _, .nil, _, _ => .nil
  | _, _, _, .cons e h c, _, w => .cons e (h.weak (push (push w))) (c.weak w)
end
mutual
theorem Has.opsUp {ops ops' : Ops} (w : ∀ o p, ops.lookup o = some p → ops'.lookup o = some p) : ∀ {Γ : Cn} {t : Tm} {τ : Ty}, Has ops Γ t τ → Has ops' Γ t τ
  | _, _, _, .num i => .num i
  | _, _, _, .flag i => .flag i
  | _, _, _, .unit => .unit
  | _, _, _, .name h => .name h
  | _, _, _, .fn h => .fn (h.opsUp w)
  | _, _, _, .rc h => .rc (h.opsUp w)
  | _, _, _, .lt h g => .lt (h.opsUp w) (g.opsUp w)
  | _, _, _, .op s h g => .op s (h.opsUp w) (g.opsUp w)
  | _, _, _, .ask e h => .ask (w _ _ e) (h.opsUp w)
  | _, _, _, .fst h => .fst (h.opsUp w)
  | _, _, _, .snd h => .snd (h.opsUp w)
  | _, _, _, .nt h => .nt (h.opsUp w)
  | _, _, _, .ite h g f => .ite (h.opsUp w) (g.opsUp w) (f.opsUp w)
  | _, _, _, .call h g => .call (h.opsUp w) (g.opsUp w)
  | _, _, _, .pair h g d => .pair (h.opsUp w) (g.opsUp w) d
  | _, _, _, .prt h g => .prt (h.opsUp w) (g.opsUp w)
  | _, _, _, .han h g c n => .han (h.opsUp w) (g.opsUp w) (c.opsUp w) n
theorem HasC.opsUp {ops ops' : Ops} (w : ∀ o p, ops.lookup o = some p → ops'.lookup o = some p) : ∀ {Γ : Cn} {t : Cls} {τ : Ty}, HasC ops Γ t τ → HasC ops' Γ t τ
  | _, _, _, .nil => .nil
  | _, _, _, .cons e h c => .cons (w _ _ e) (h.opsUp w) (c.opsUp w)
end
end TM
namespace Pg
open PySem PySem.Spec PyProof.Rows L2 DL
/-! ### the facts of the top -/
structure Tx (P : Program) (w : World) (K : PySem.W.Frag) (mg : Str → Option Value) (ca : Nat → Addr) (fa : Fn → Addr) (fd : Fn → FuncData) : Prop where
  f_looked_up : Fun K "looked_up" "looked_up" s_looked_up (fa .looked_up) (fd .looked_up)
  b_looked_up : Binds K (fd .looked_up) ["env", "name"] []
  g_looked_up : mg "looked_up" = some (.ref (fa .looked_up))
  f_calculated : Fun K "calculated" "calculated" s_calculated (fa .calculated) (fd .calculated)
  b_calculated : Binds K (fd .calculated) ["sign", "one", "two"] []
  g_calculated : mg "calculated" = some (.ref (fa .calculated))
  f_value_shape : Fun K "value_shape" "value_shape" s_value_shape (fa .value_shape) (fd .value_shape)
  b_value_shape : Binds K (fd .value_shape) ["value"] []
  g_value_shape : mg "value_shape" = some (.ref (fa .value_shape))
  f_Machine_init : Fun K "__init__" "Machine.__init__" s_Machine_init (fa .Machine_init) (fd .Machine_init)
  b_Machine_init : Binds K (fd .Machine_init) ["self", "steps"] []
  f_Machine_step : Fun K "step" "Machine.step" s_Machine_step (fa .Machine_step) (fd .Machine_step)
  b_Machine_step : Binds K (fd .Machine_step) ["self"] []
  f_Machine_wait : Fun K "wait" "Machine.wait" s_Machine_wait (fa .Machine_wait) (fd .Machine_wait)
  sb_Machine_wait : ∀ us rest : List Value, us.length = 1 → bindArgs (fd .Machine_wait) ⟨us ++ rest, []⟩ = (newTuple rest >>= fun t => pure ((["self"] : List Str).zip us ++ [(("frame" : Str), t)]))
  f_Machine_add_piece : Fun K "add_piece" "Machine.add_piece" s_Machine_add_piece (fa .Machine_add_piece) (fd .Machine_add_piece)
  b_Machine_add_piece : Binds K (fd .Machine_add_piece) ["self", "handler", "frames"] []
  f_Machine_run : Fun K "run" "Machine.run" s_Machine_run (fa .Machine_run) (fd .Machine_run)
  b_Machine_run : Binds K (fd .Machine_run) ["self", "expression"] []
  f_Machine_handled : Fun K "handled" "Machine.handled" s_Machine_handled (fa .Machine_handled) (fd .Machine_handled)
  b_Machine_handled : Binds K (fd .Machine_handled) ["self", "value"] []
  f_Machine_begin : Fun K "begin" "Machine.begin" s_Machine_begin (fa .Machine_begin) (fd .Machine_begin)
  b_Machine_begin : Binds K (fd .Machine_begin) ["self", "current", "env"] []
  f_Machine_resume : Fun K "resume" "Machine.resume" s_Machine_resume (fa .Machine_resume) (fd .Machine_resume)
  b_Machine_resume : Binds K (fd .Machine_resume) ["self", "frame", "value"] []
  f_Machine_call : Fun K "call" "Machine.call" s_Machine_call (fa .Machine_call) (fd .Machine_call)
  b_Machine_call : Binds K (fd .Machine_call) ["self", "function", "argument"] []
  f_Machine_ask : Fun K "ask" "Machine.ask" s_Machine_ask (fa .Machine_ask) (fd .Machine_ask)
  b_Machine_ask : Binds K (fd .Machine_ask) ["self", "name", "value"] []
  f_Machine_answer : Fun K "answer" "Machine.answer" s_Machine_answer (fa .Machine_answer) (fd .Machine_answer)
  b_Machine_answer : Binds K (fd .Machine_answer) ["self", "place", "clause", "value", "env"] []
  f_run_counted : Fun K "run_counted" "run_counted" s_run_counted (fa .run_counted) (fd .run_counted)
  b_run_counted : Binds K (fd .run_counted) ["expression", "steps"] []
  g_run_counted : mg "run_counted" = some (.ref (fa .run_counted))
  f_law_state : Fun K "_law_state" "_law_state" s_law_state (fa .law_state) (fd .law_state)
  b_law_state : Binds K (fd .law_state) ["_law_script"] []
  g_law_state : mg "_law_state" = some (.ref (fa .law_state))
  f_law_take : Fun K "_law_take" "_law_take" s_law_take (fa .law_take) (fd .law_take)
  b_law_take : Binds K (fd .law_take) ["_law_state_here", "_law_most"] []
  g_law_take : mg "_law_take" = some (.ref (fa .law_take))
  f_law : Fun K "law" "law" s_law (fa .law) (fd .law)
  b_law : Binds K (fd .law) ["_law_script"] []
  g_law : mg "law" = some (.ref (fa .law))
  c_Machine : Cls K (ca 0)
  gc_Machine : mg "Machine" = some (.ref (ca 0))
  mk_Machine : Mk K (ca 0) (fa .Machine_init)
  k_HALF : Konst K mg "HALF" c_HALF
  k_UNIT : Konst K mg "UNIT" c_UNIT
  m_Machine_add_piece : Meth K (ca 0) "add_piece" (fa .Machine_add_piece)
  m_Machine_answer : Meth K (ca 0) "answer" (fa .Machine_answer)
  m_Machine_ask : Meth K (ca 0) "ask" (fa .Machine_ask)
  m_Machine_begin : Meth K (ca 0) "begin" (fa .Machine_begin)
  m_Machine_call : Meth K (ca 0) "call" (fa .Machine_call)
  m_Machine_handled : Meth K (ca 0) "handled" (fa .Machine_handled)
  m_Machine_resume : Meth K (ca 0) "resume" (fa .Machine_resume)
  m_Machine_run : Meth K (ca 0) "run" (fa .Machine_run)
  m_Machine_step : Meth K (ca 0) "step" (fa .Machine_step)
  m_Machine_wait : Meth K (ca 0) "wait" (fa .Machine_wait)
  n_Machine_kept : NoAttr K (ca 0) "kept"
  n_Machine_left : NoAttr K (ca 0) "left"
  n_Machine_most : NoAttr K (ca 0) "most"
  n_Machine_pieces : NoAttr K (ca 0) "pieces"
  n_Machine_prints : NoAttr K (ca 0) "prints"
  z_abs : mg "abs" = none
  z_int : mg "int" = none
  z_len : mg "len" = none
  z_list : mg "list" = none
  z_max : mg "max" = none
  z_range : mg "range" = none
  z_reversed : mg "reversed" = none
  z_str : mg "str" = none
  z_tuple : mg "tuple" = none
  x_Stop : ExcC P K (ca 1) "end"
  xm_Stop : PySem.W.exmOne K (.ref (ca 1)) (.ref (ca 1)) = some true
  xf_Stop : XfC K (ca 1)
  xn_Stop : PySem.W.findIn K (.ref (ca 1)) "end" = some none
  gx_Stop : mg "Stop" = some (.ref (ca 1))
section
variable {P : Program} {w : World} {K : PySem.W.Frag} {mg : Str → Option Value} {base : Heap} {ca : Nat → Addr} {fa : Fn → Addr} {fd : Fn → FuncData} {k : Nat} {W M : Fn → DSp}
abbrev H1s (P : Program) (w : World) (K : PySem.W.Frag) (mg : Str → Option Value) (base : Heap) (ca : Nat → Addr) (fa : Fn → Addr) (fd : Fn → FuncData) (k : Nat) (W : Fn → DSp) : Prop := ∀ g, FnOk P w K mg base (L2.CX P w) k (fa g) (fd g) (pars g) (lift K ca (arity g) (W g))
theorem sc_Machine_wait : FnScope N_Machine_wait ["self", "frame"] (defScope s_Machine_wait) := ⟨rfl, rfl, rfl, by decide +kernel, rfl, by decide +kernel, by decide +kernel⟩
theorem ok_Machine_wait (T : Tx P w K mg ca fa fd) (H1 : H1s P w K mg base ca fa fd (k + 1) W) (H0 : H1s P w K mg base ca fa fd k M) : FnOk P w K mg base (L2.CX P w) (k + 2) (fa .Machine_wait) (fd .Machine_wait) ["self", "frame"] (lift K ca 2 (runD 2 (b_Machine_wait W M))) := by
  refine def_ok T.f_Machine_wait sc_Machine_wait rfl (b_Machine_wait W M) fun cdv A outer s H E B eB hr G => ?_
  subst eB
  exact (pds_one (pds_expr (pd_bm PySem.F.plainAttrs_list PySem.F.slot_list_append PySem.F.type_list_append mt_append vrm_append (pd_ix (hu_of hr) (pd_ix (hu_of hr) (pd_fld (c := 0) (pd_var 0) T.c_Machine T.n_Machine_pieces) (pd_un un_neg vr_neg pd_int)) pd_int) (pda_cons (pd_var 1) pda_nil))))
theorem st_Machine_wait (T : Tx P w K mg ca fa fd) : FnR P w K mg base (L2.CX P w) (k + 1) (fa .Machine_wait) (liftS K ca 1 stW_Machine_wait) := by
  refine def_star (ps := ["self"]) (pv := "frame") T.f_Machine_wait sc_Machine_wait rfl T.sb_Machine_wait (b_Machine_wait (fun _ => noSp) (fun _ => noSp)) fun cdv A outer s H E B eB hr G => ?_
  subst eB
  exact (pds_one (pds_expr (pd_bm PySem.F.plainAttrs_list PySem.F.slot_list_append PySem.F.type_list_append mt_append vrm_append (pd_ix (hu_of hr) (pd_ix (hu_of hr) (pd_fld (c := 0) (pd_var 0) T.c_Machine T.n_Machine_pieces) (pd_un un_neg vr_neg pd_int)) pd_int) (pda_cons (pd_var 1) pda_nil))))
theorem sc_looked_up : FnScope N_looked_up ["env", "name"] (defScope s_looked_up) := ⟨rfl, rfl, rfl, by decide +kernel, rfl, by decide +kernel, by decide +kernel⟩
theorem ok_looked_up (T : Tx P w K mg ca fa fd) (H1 : H1s P w K mg base ca fa fd (k + 1) W) (H0 : H1s P w K mg base ca fa fd k M) : FnOk P w K mg base (L2.CX P w) (k + 2) (fa .looked_up) (fd .looked_up) ["env", "name"] (lift K ca 2 (runD 2 (b_looked_up W M))) := by
  refine def_ok T.f_looked_up sc_looked_up rfl (b_looked_up W M) fun cdv A outer s H E B eB hr G => ?_
  subst eB
  exact (pds_cons (pds_while G.ow (pdt_cmp (op_neD hr.units) vr_ne (pd_ix (hu_of hr) (pd_var 0) pd_int) (pd_var 1) (nomark _)) (pds_one (pds_set 0 G.nd (pd_ix (hu_of hr) (pd_var 0) pd_int))))
  (pds_one (pds_ret (pd_ix (hu_of hr) (pd_var 0) pd_int))))
theorem sc_calculated : FnScope N_calculated ["sign", "one", "two"] (defScope s_calculated) := ⟨rfl, rfl, rfl, by decide +kernel, rfl, by decide +kernel, by decide +kernel⟩
theorem ok_calculated (T : Tx P w K mg ca fa fd) (H1 : H1s P w K mg base ca fa fd (k + 1) W) (H0 : H1s P w K mg base ca fa fd k M) : FnOk P w K mg base (L2.CX P w) (k + 2) (fa .calculated) (fd .calculated) ["sign", "one", "two"] (lift K ca 3 (runD 4 (b_calculated W M))) := by
  refine def_ok T.f_calculated sc_calculated rfl (b_calculated W M) fun cdv A outer s H E B eB hr G => ?_
  subst eB
  exact (pds_cons (pds_if (pdt_cmp (op_eqD hr.units) vr_eq (pd_var 0) pd_str (nomark _)) (pds_one (pds_ret (pd_tup (pda_cons pd_str (pda_cons (pd_cmp op_lt vr_lt (pd_var 1) (pd_var 2) (nomark _)) pda_nil))))) pds_nil)
  (pds_cons (pds_if (pdt_cmp (op_eqD hr.units) vr_eq (pd_var 0) pd_str (nomark _)) (pds_one (pds_ret (pd_tup (pda_cons pd_str (pda_cons (pd_cmp (op_eqD hr.units) vr_eq (pd_var 1) (pd_var 2) (nomark _)) pda_nil))))) pds_nil)
  (pds_cons (pds_set 3 G.nd (pd_dicD (pdp_cons (pd_op op_addD vr_add (pd_var 1) (pd_var 2)) (pdp_cons (pd_op op_sub vr_sub (pd_var 1) (pd_var 2)) (pdp_cons (pd_op op_mul vr_mul (pd_var 1) (pd_var 2)) pdp_nil)))))
  (pds_one (pds_ret (pd_tup (pda_cons pd_str (pda_cons (pd_op op_sub vr_sub (pd_op op_mod vr_mod (pd_callTy (x := "int") call_int1 vrc_int rfl T.z_int (by decide +kernel) (pda_cons (pd_op op_addD vr_add (pd_ix (hu_of hr) (pd_var 3) (pd_var 0)) (pd_const T.k_HALF rfl)) pda_nil)) (pd_op op_mul vr_mul pd_int (pd_const T.k_HALF rfl))) (pd_const T.k_HALF rfl)) pda_nil))))))))
theorem sc_value_shape : FnScope N_value_shape ["value"] (defScope s_value_shape) := ⟨rfl, rfl, rfl, by decide +kernel, rfl, by decide +kernel, by decide +kernel⟩
theorem ok_value_shape (T : Tx P w K mg ca fa fd) (H1 : H1s P w K mg base ca fa fd (k + 1) W) (H0 : H1s P w K mg base ca fa fd k M) : FnOk P w K mg base (L2.CX P w) (k + 2) (fa .value_shape) (fd .value_shape) ["value"] (lift K ca 1 (runD 1 (b_value_shape W M))) := by
  refine def_ok T.f_value_shape sc_value_shape rfl (b_value_shape W M) fun cdv A outer s H E B eB hr G => ?_
  subst eB
  exact (pds_cons (pds_if (pdt_cmp (op_eqD hr.units) vr_eq (pd_ix (hu_of hr) (pd_var 0) pd_int) pd_str (nomark _)) (pds_one (pds_ret (pd_tup (pda_cons pd_str (pda_cons (pd_call (x := "value_shape") (H1 .value_shape) hr rfl T.g_value_shape T.f_value_shape.kp T.b_value_shape G.tk (pda_cons (pd_ix (hu_of hr) (pd_var 0) pd_int) pda_nil)) (pda_cons (pd_call (x := "value_shape") (H1 .value_shape) hr rfl T.g_value_shape T.f_value_shape.kp T.b_value_shape G.tk (pda_cons (pd_ix (hu_of hr) (pd_var 0) pd_int) pda_nil)) pda_nil)))))) pds_nil)
  (pds_cons (pds_if (pdt_cmp (op_inD (hu_of hr)) (vr_in false) (pd_ix (hu_of hr) (pd_var 0) pd_int) (pd_tup (pda_cons pd_str (pda_cons pd_str (pda_cons pd_str pda_nil)))) rfl) (pds_one (pds_ret (pd_var 0))) pds_nil)
  (pds_one (pds_ret (pd_tup (pda_cons pd_str pda_nil))))))
theorem sc_Machine_init : FnScope N_Machine_init ["self", "steps"] (defScope s_Machine_init) := ⟨rfl, rfl, rfl, by decide +kernel, rfl, by decide +kernel, by decide +kernel⟩
theorem ok_Machine_init (T : Tx P w K mg ca fa fd) (H1 : H1s P w K mg base ca fa fd (k + 1) W) (H0 : H1s P w K mg base ca fa fd k M) : FnOk P w K mg base (L2.CX P w) (k + 2) (fa .Machine_init) (fd .Machine_init) ["self", "steps"] (lift K ca 2 (runD 2 (b_Machine_init W M))) := by
  refine def_ok T.f_Machine_init sc_Machine_init rfl (b_Machine_init W M) fun cdv A outer s H E B eB hr G => ?_
  subst eB
  exact (pds_cons (pds_fld (c := 0) (pd_var 0) (pd_var 1) T.c_Machine T.n_Machine_left)
  (pds_cons (pds_fld (c := 0) (pd_var 0) (pd_lstM pda_nil) T.c_Machine T.n_Machine_prints)
  (pds_cons (pds_fld (c := 0) (pd_var 0) (pd_lstM (pda_cons (pd_tup (pda_cons pd_non (pda_cons (pd_lstM pda_nil) pda_nil))) pda_nil)) T.c_Machine T.n_Machine_pieces)
  (pds_cons (pds_fld (c := 0) (pd_var 0) pd_int T.c_Machine T.n_Machine_kept)
  (pds_one (pds_fld (c := 0) (pd_var 0) pd_int T.c_Machine T.n_Machine_most))))))
theorem sc_Machine_step : FnScope N_Machine_step ["self"] (defScope s_Machine_step) := ⟨rfl, rfl, rfl, by decide +kernel, rfl, by decide +kernel, by decide +kernel⟩
theorem ok_Machine_step (T : Tx P w K mg ca fa fd) (H1 : H1s P w K mg base ca fa fd (k + 1) W) (H0 : H1s P w K mg base ca fa fd k M) : FnOk P w K mg base (L2.CX P w) (k + 2) (fa .Machine_step) (fd .Machine_step) ["self"] (lift K ca 1 (runD 1 (b_Machine_step W M))) := by
  refine def_ok T.f_Machine_step sc_Machine_step rfl (b_Machine_step W M) fun cdv A outer s H E B eB hr G => ?_
  subst eB
  exact (pds_cons (pds_if (pdt_cmp (op_eqD hr.units) vr_eq (pd_fld (c := 0) (pd_var 0) T.c_Machine T.n_Machine_left) pd_int (nomark _)) (pds_one (pds_raise (c := 1) T.x_Stop rfl hr rfl T.gx_Stop G.tk (pd_tup (pda_cons pd_str pda_nil)))) pds_nil)
  (pds_one (pds_augF (c := 0) (pd_var 0) pd_int T.c_Machine T.n_Machine_left in_sub)))
theorem sc_Machine_add_piece : FnScope N_Machine_add_piece ["self", "handler", "frames"] (defScope s_Machine_add_piece) := ⟨rfl, rfl, rfl, by decide +kernel, rfl, by decide +kernel, by decide +kernel⟩
theorem ok_Machine_add_piece (T : Tx P w K mg ca fa fd) (H1 : H1s P w K mg base ca fa fd (k + 1) W) (H0 : H1s P w K mg base ca fa fd k M) : FnOk P w K mg base (L2.CX P w) (k + 2) (fa .Machine_add_piece) (fd .Machine_add_piece) ["self", "handler", "frames"] (lift K ca 3 (runD 3 (b_Machine_add_piece W M))) := by
  refine def_ok T.f_Machine_add_piece sc_Machine_add_piece rfl (b_Machine_add_piece W M) fun cdv A outer s H E B eB hr G => ?_
  subst eB
  exact (pds_cons (pds_expr (pd_bm PySem.F.plainAttrs_list PySem.F.slot_list_append PySem.F.type_list_append mt_append vrm_append (pd_fld (c := 0) (pd_var 0) T.c_Machine T.n_Machine_pieces) (pda_cons (pd_tup (pda_cons (pd_var 1) (pda_cons (pd_callTy (x := "list") call_list_of vrc_listM rfl T.z_list (by decide +kernel) (pda_cons (pd_var 2) pda_nil)) pda_nil))) pda_nil)))
  (pds_one (pds_fld (c := 0) (pd_var 0) (pd_callB (x := "max") (call_max2 rfl) vrc_max2 rfl T.z_max (by decide +kernel) (pda_cons (pd_fld (c := 0) (pd_var 0) T.c_Machine T.n_Machine_most) (pda_cons (pd_callB (x := "len") call_len vrc_len rfl T.z_len (by decide +kernel) (pda_cons (pd_fld (c := 0) (pd_var 0) T.c_Machine T.n_Machine_pieces) pda_nil)) pda_nil))) T.c_Machine T.n_Machine_most)))
theorem sc_Machine_run : FnScope N_Machine_run ["self", "expression"] (defScope s_Machine_run) := ⟨rfl, rfl, rfl, by decide +kernel, rfl, by decide +kernel, by decide +kernel⟩
theorem ok_Machine_run (T : Tx P w K mg ca fa fd) (H1 : H1s P w K mg base ca fa fd (k + 1) W) (H0 : H1s P w K mg base ca fa fd k M) : FnOk P w K mg base (L2.CX P w) (k + 2) (fa .Machine_run) (fd .Machine_run) ["self", "expression"] (lift K ca 2 (runD 6 (b_Machine_run W M))) := by
  refine def_ok T.f_Machine_run sc_Machine_run rfl (b_Machine_run W M) fun cdv A outer s H E B eB hr G => ?_
  subst eB
  exact (pds_cons (pds_par3 2 3 4 rfl G.nd (by decide) (by decide) (by decide) (pda_cons (pd_var 1) (pda_cons pd_non (pda_cons pd_non pda_nil))) rfl rfl rfl)
  (pds_one (pds_while G.ow (pdt_tru pd_bl) (pds_one (pds_if (pdt_cmp op_notN vr_isnot (pd_var 2) pd_non (nomark _)) (pds_one (pds_asg (pd_meth (c := 0) (pd_var 0) T.c_Machine T.m_Machine_begin (H1 .Machine_begin) hr T.b_Machine_begin G.tk (pda_cons (pd_var 2) (pda_cons (pd_var 3) pda_nil))) (pdg_tup rfl (pdgs_cons (pdg_name 2 G.nd) (pdgs_cons (pdg_name 3 G.nd) (pdgs_cons (pdg_name 4 G.nd) pdgs_nil)))))) (pds_one (pds_if (pdt_tru (pd_ix (hu_of hr) (pd_ix (hu_of hr) (pd_fld (c := 0) (pd_var 0) T.c_Machine T.n_Machine_pieces) (pd_un un_neg vr_neg pd_int)) pd_int)) (pds_cons (pds_set 5 G.nd (pd_bm0 PySem.F.plainAttrs_list PySem.F.slot_list_pop PySem.F.type_list_pop mt_pop vrm_pop (pd_ix (hu_of hr) (pd_ix (hu_of hr) (pd_fld (c := 0) (pd_var 0) T.c_Machine T.n_Machine_pieces) (pd_un un_neg vr_neg pd_int)) pd_int)))
  (pds_one (pds_asg (pd_meth (c := 0) (pd_var 0) T.c_Machine T.m_Machine_resume (H1 .Machine_resume) hr T.b_Machine_resume G.tk (pda_cons (pd_var 5) (pda_cons (pd_var 4) pda_nil))) (pdg_tup rfl (pdgs_cons (pdg_name 2 G.nd) (pdgs_cons (pdg_name 3 G.nd) (pdgs_cons (pdg_name 4 G.nd) pdgs_nil))))))) (pds_one (pds_if (pdt_cmp (op_eqD hr.units) vr_eq (pd_callB (x := "len") call_len vrc_len rfl T.z_len (by decide +kernel) (pda_cons (pd_fld (c := 0) (pd_var 0) T.c_Machine T.n_Machine_pieces) pda_nil)) pd_int (nomark _)) (pds_one (pds_ret (pd_var 4))) (pds_one (pds_asg (pd_meth (c := 0) (pd_var 0) T.c_Machine T.m_Machine_handled (H1 .Machine_handled) hr T.b_Machine_handled G.tk (pda_cons (pd_var 4) pda_nil)) (pdg_tup rfl (pdgs_cons (pdg_name 2 G.nd) (pdgs_cons (pdg_name 3 G.nd) (pdgs_cons (pdg_name 4 G.nd) pdgs_nil)))))))))))))))
theorem sc_Machine_handled : FnScope N_Machine_handled ["self", "value"] (defScope s_Machine_handled) := ⟨rfl, rfl, rfl, by decide +kernel, rfl, by decide +kernel, by decide +kernel⟩
theorem ok_Machine_handled (T : Tx P w K mg ca fa fd) (H1 : H1s P w K mg base ca fa fd (k + 1) W) (H0 : H1s P w K mg base ca fa fd k M) : FnOk P w K mg base (L2.CX P w) (k + 2) (fa .Machine_handled) (fd .Machine_handled) ["self", "value"] (lift K ca 2 (runD 6 (b_Machine_handled W M))) := by
  refine def_ok T.f_Machine_handled sc_Machine_handled rfl (b_Machine_handled W M) fun cdv A outer s H E B eB hr G => ?_
  subst eB
  exact (pds_cons (pds_asg (pd_ix (hu_of hr) (pd_bm0 PySem.F.plainAttrs_list PySem.F.slot_list_pop PySem.F.type_list_pop mt_pop vrm_pop (pd_fld (c := 0) (pd_var 0) T.c_Machine T.n_Machine_pieces)) pd_int) (pdg_tup rfl (pdgs_cons (pdg_name 2 G.nd) (pdgs_cons (pdg_name 3 G.nd) (pdgs_cons (pdg_name 4 G.nd) (pdgs_cons (pdg_name 5 G.nd) pdgs_nil))))))
  (pds_one (pds_ret (pd_tup (pda_cons (pd_var 3) (pda_cons (pd_tup (pda_cons (pd_var 2) (pda_cons (pd_var 1) (pda_cons (pd_var 5) pda_nil)))) (pda_cons pd_non pda_nil)))))))
theorem sc_Machine_begin : FnScope N_Machine_begin ["self", "current", "env"] (defScope s_Machine_begin) := ⟨rfl, rfl, rfl, by decide +kernel, rfl, by decide +kernel, by decide +kernel⟩
theorem ok_Machine_begin (T : Tx P w K mg ca fa fd) (H1 : H1s P w K mg base ca fa fd (k + 1) W) (H0 : H1s P w K mg base ca fa fd k M) : FnOk P w K mg base (L2.CX P w) (k + 2) (fa .Machine_begin) (fd .Machine_begin) ["self", "current", "env"] (lift K ca 3 (runD 4 (b_Machine_begin W M))) := by
  refine def_ok T.f_Machine_begin sc_Machine_begin rfl (b_Machine_begin W M) fun cdv A outer s H E B eB hr G => ?_
  subst eB
  exact (pds_cons (pds_set 3 G.nd (pd_ix (hu_of hr) (pd_var 1) pd_int))
  (pds_cons (pds_if (pdt_cmp (op_eqD hr.units) vr_eq (pd_var 3) pd_str (nomark _)) (pds_one (pds_ret (pd_tup (pda_cons pd_non (pda_cons pd_non (pda_cons (pd_tup (pda_cons pd_str (pda_cons (pd_ix (hu_of hr) (pd_var 1) pd_int) pda_nil))) pda_nil)))))) pds_nil)
  (pds_cons (pds_if (pdt_cmp (op_eqD hr.units) vr_eq (pd_var 3) pd_str (nomark _)) (pds_one (pds_ret (pd_tup (pda_cons pd_non (pda_cons pd_non (pda_cons (pd_tup (pda_cons pd_str (pda_cons (pd_ix (hu_of hr) (pd_var 1) pd_int) pda_nil))) pda_nil)))))) pds_nil)
  (pds_cons (pds_if (pdt_cmp (op_eqD hr.units) vr_eq (pd_var 3) pd_str (nomark _)) (pds_one (pds_ret (pd_tup (pda_cons pd_non (pda_cons pd_non (pda_cons (pd_const T.k_UNIT rfl) pda_nil)))))) pds_nil)
  (pds_cons (pds_if (pdt_cmp (op_eqD hr.units) vr_eq (pd_var 3) pd_str (nomark _)) (pds_one (pds_ret (pd_tup (pda_cons pd_non (pda_cons pd_non (pda_cons (pd_call (x := "looked_up") (H1 .looked_up) hr rfl T.g_looked_up T.f_looked_up.kp T.b_looked_up G.tk (pda_cons (pd_var 2) (pda_cons (pd_ix (hu_of hr) (pd_var 1) pd_int) pda_nil))) pda_nil)))))) pds_nil)
  (pds_cons (pds_if (pdt_cmp (op_eqD hr.units) vr_eq (pd_var 3) pd_str (nomark _)) (pds_one (pds_ret (pd_tup (pda_cons pd_non (pda_cons pd_non (pda_cons (pd_tup (pda_cons pd_str (pda_cons pd_non (pda_cons (pd_ix (hu_of hr) (pd_var 1) pd_int) (pda_cons (pd_ix (hu_of hr) (pd_var 1) pd_int) (pda_cons (pd_var 2) pda_nil)))))) pda_nil)))))) pds_nil)
  (pds_cons (pds_if (pdt_cmp (op_eqD hr.units) vr_eq (pd_var 3) pd_str (nomark _)) (pds_one (pds_ret (pd_tup (pda_cons pd_non (pda_cons pd_non (pda_cons (pd_tup (pda_cons pd_str (pda_cons (pd_ix (hu_of hr) (pd_var 1) pd_int) (pda_cons (pd_ix (hu_of hr) (pd_var 1) pd_int) (pda_cons (pd_ix (hu_of hr) (pd_var 1) pd_int) (pda_cons (pd_var 2) pda_nil)))))) pda_nil)))))) pds_nil)
  (pds_cons (pds_if (pdt_cmp (op_eqD hr.units) vr_eq (pd_var 3) pd_str (nomark _)) (pds_cons (pds_expr (pd_meth (c := 0) (pd_var 0) T.c_Machine T.m_Machine_add_piece (H1 .Machine_add_piece) hr T.b_Machine_add_piece G.tk (pda_cons (pd_tup (pda_cons (pd_ix (hu_of hr) (pd_ix (hu_of hr) (pd_var 1) pd_int) pd_int) (pda_cons (pd_ix (hu_of hr) (pd_ix (hu_of hr) (pd_var 1) pd_int) pd_int) (pda_cons (pd_ix (hu_of hr) (pd_var 1) pd_int) (pda_cons (pd_var 2) pda_nil))))) (pda_cons (pd_lst pda_nil) pda_nil))))
  (pds_one (pds_ret (pd_tup (pda_cons (pd_ix (hu_of hr) (pd_var 1) pd_int) (pda_cons (pd_var 2) (pda_cons pd_non pda_nil))))))) pds_nil)
  (pds_cons (pds_expr (pd_methS (c := 0) (pd_var 0) T.c_Machine T.m_Machine_wait (st_Machine_wait T) hr G.tk (pda_cons (pd_var 3) (pda_cons (pd_var 1) (pda_cons (pd_var 2) pda_nil)))))
  (pds_cons (pds_if (pdt_cmp (op_inD (hu_of hr)) (vr_in false) (pd_var 3) (pd_tup (pda_cons pd_str (pda_cons pd_str (pda_cons pd_str pda_nil)))) rfl) (pds_one (pds_ret (pd_tup (pda_cons (pd_ix (hu_of hr) (pd_var 1) pd_int) (pda_cons (pd_var 2) (pda_cons pd_non pda_nil)))))) pds_nil)
  (pds_one (pds_ret (pd_tup (pda_cons (pd_ix (hu_of hr) (pd_var 1) pd_int) (pda_cons (pd_var 2) (pda_cons pd_non pda_nil))))))))))))))))
theorem sc_Machine_resume : FnScope N_Machine_resume ["self", "frame", "value"] (defScope s_Machine_resume) := ⟨rfl, rfl, rfl, by decide +kernel, rfl, by decide +kernel, by decide +kernel⟩
theorem ok_Machine_resume (T : Tx P w K mg ca fa fd) (H1 : H1s P w K mg base ca fa fd (k + 1) W) (H0 : H1s P w K mg base ca fa fd k M) : FnOk P w K mg base (L2.CX P w) (k + 2) (fa .Machine_resume) (fd .Machine_resume) ["self", "frame", "value"] (lift K ca 3 (runD 4 (b_Machine_resume W M))) := by
  refine def_ok T.f_Machine_resume sc_Machine_resume rfl (b_Machine_resume W M) fun cdv A outer s H E B eB hr G => ?_
  subst eB
  exact (pds_cons (pds_set 3 G.nd (pd_ix (hu_of hr) (pd_var 1) pd_int))
  (pds_cons (pds_if (pdw_t (pdw_or (pdt_cmp (op_eqD hr.units) vr_eq (pd_var 3) pd_str (nomark _)) (pdw_or1 (pdt_cmp (op_eqD hr.units) vr_eq (pd_var 3) pd_str (nomark _))))) (pds_cons (pds_expr (pd_methS (c := 0) (pd_var 0) T.c_Machine T.m_Machine_wait (st_Machine_wait T) hr G.tk (pda_cons (pd_op op_addD vr_add (pd_var 3) pd_str) (pda_cons (pd_var 2) pda_nil))))
  (pds_one (pds_ret (pd_tup (pda_cons (pd_ix (hu_of hr) (pd_ix (hu_of hr) (pd_var 1) pd_int) pd_int) (pda_cons (pd_ix (hu_of hr) (pd_var 1) pd_int) (pda_cons pd_non pda_nil))))))) pds_nil)
  (pds_cons (pds_if (pdt_cmp (op_eqD hr.units) vr_eq (pd_var 3) pd_str (nomark _)) (pds_cons (pds_expr (pd_methS (c := 0) (pd_var 0) T.c_Machine T.m_Machine_wait (st_Machine_wait T) hr G.tk (pda_cons pd_str (pda_cons (pd_ix (hu_of hr) (pd_ix (hu_of hr) (pd_var 1) pd_int) pd_int) (pda_cons (pd_var 2) pda_nil)))))
  (pds_one (pds_ret (pd_tup (pda_cons (pd_ix (hu_of hr) (pd_ix (hu_of hr) (pd_var 1) pd_int) pd_int) (pda_cons (pd_ix (hu_of hr) (pd_var 1) pd_int) (pda_cons pd_non pda_nil))))))) pds_nil)
  (pds_cons (pds_if (pdt_cmp (op_eqD hr.units) vr_eq (pd_var 3) pd_str (nomark _)) (pds_one (pds_ret (pd_tup (pda_cons pd_non (pda_cons pd_non (pda_cons (pd_tup (pda_cons pd_str (pda_cons (pd_ix (hu_of hr) (pd_var 1) pd_int) (pda_cons (pd_var 2) pda_nil)))) pda_nil)))))) pds_nil)
  (pds_cons (pds_if (pdt_cmp (op_eqD hr.units) vr_eq (pd_var 3) pd_str (nomark _)) (pds_one (pds_ret (pd_tup (pda_cons pd_non (pda_cons pd_non (pda_cons (pd_call (x := "calculated") (H1 .calculated) hr rfl T.g_calculated T.f_calculated.kp T.b_calculated G.tk (pda_cons (pd_ix (hu_of hr) (pd_var 1) pd_int) (pda_cons (pd_ix (hu_of hr) (pd_ix (hu_of hr) (pd_var 1) pd_int) pd_int) (pda_cons (pd_ix (hu_of hr) (pd_var 2) pd_int) pda_nil)))) pda_nil)))))) pds_nil)
  (pds_cons (pds_if (pdt_cmp (op_eqD hr.units) vr_eq (pd_var 3) pd_str (nomark _)) (pds_one (pds_ret (pd_meth (c := 0) (pd_var 0) T.c_Machine T.m_Machine_call (H1 .Machine_call) hr T.b_Machine_call G.tk (pda_cons (pd_ix (hu_of hr) (pd_var 1) pd_int) (pda_cons (pd_var 2) pda_nil))))) pds_nil)
  (pds_cons (pds_if (pdt_cmp (op_eqD hr.units) vr_eq (pd_var 3) pd_str (nomark _)) (pds_one (pds_ret (pd_tup (pda_cons (pd_ix (hu_of hr) (pd_ix (hu_of hr) (pd_var 1) pd_int) pd_int) (pda_cons (pd_tup (pda_cons (pd_ix (hu_of hr) (pd_ix (hu_of hr) (pd_var 1) pd_int) pd_int) (pda_cons (pd_var 2) (pda_cons (pd_ix (hu_of hr) (pd_var 1) pd_int) pda_nil)))) (pda_cons pd_non pda_nil)))))) pds_nil)
  (pds_cons (pds_if (pdt_cmp (op_eqD hr.units) vr_eq (pd_var 3) pd_str (nomark _)) (pds_one (pds_ret (pd_tup (pda_cons (pd_if (pdt_tru (pd_ix (hu_of hr) (pd_var 2) pd_int)) (pd_ix (hu_of hr) (pd_ix (hu_of hr) (pd_var 1) pd_int) pd_int) (pd_ix (hu_of hr) (pd_ix (hu_of hr) (pd_var 1) pd_int) pd_int)) (pda_cons (pd_ix (hu_of hr) (pd_var 1) pd_int) (pda_cons pd_non pda_nil)))))) pds_nil)
  (pds_cons (pds_if (pdt_cmp (op_eqD hr.units) vr_eq (pd_var 3) pd_str (nomark _)) (pds_cons (pds_expr (pd_bm PySem.F.plainAttrs_list PySem.F.slot_list_append PySem.F.type_list_append mt_append vrm_append (pd_fld (c := 0) (pd_var 0) T.c_Machine T.n_Machine_prints) (pda_cons (pd_ix (hu_of hr) (pd_var 2) pd_int) pda_nil)))
  (pds_one (pds_ret (pd_tup (pda_cons (pd_ix (hu_of hr) (pd_ix (hu_of hr) (pd_var 1) pd_int) pd_int) (pda_cons (pd_ix (hu_of hr) (pd_var 1) pd_int) (pda_cons pd_non pda_nil))))))) pds_nil)
  (pds_cons (pds_if (pdt_cmp (op_eqD hr.units) vr_eq (pd_var 3) pd_str (nomark _)) (pds_one (pds_ret (pd_meth (c := 0) (pd_var 0) T.c_Machine T.m_Machine_ask (H1 .Machine_ask) hr T.b_Machine_ask G.tk (pda_cons (pd_ix (hu_of hr) (pd_ix (hu_of hr) (pd_var 1) pd_int) pd_int) (pda_cons (pd_var 2) pda_nil))))) pds_nil)
  (pds_cons (pds_if (pdt_cmp (op_eqD hr.units) vr_eq (pd_var 3) pd_str (nomark _)) (pds_one (pds_ret (pd_tup (pda_cons pd_non (pda_cons pd_non (pda_cons (pd_tup (pda_cons pd_str (pda_cons (pd_not (pd_ix (hu_of hr) (pd_var 2) pd_int)) pda_nil))) pda_nil)))))) pds_nil)
  (pds_one (pds_ret (pd_tup (pda_cons pd_non (pda_cons pd_non (pda_cons (pd_ix (hu_of hr) (pd_var 2) (pd_op op_addD vr_add pd_int (pd_callTy (x := "int") call_int1 vrc_int rfl T.z_int (by decide +kernel) (pda_cons (pd_cmp (op_eqD hr.units) vr_eq (pd_var 3) pd_str (nomark _)) pda_nil)))) pda_nil)))))))))))))))))
theorem sc_Machine_call : FnScope N_Machine_call ["self", "function", "argument"] (defScope s_Machine_call) := ⟨rfl, rfl, rfl, by decide +kernel, rfl, by decide +kernel, by decide +kernel⟩
theorem ok_Machine_call (T : Tx P w K mg ca fa fd) (H1 : H1s P w K mg base ca fa fd (k + 1) W) (H0 : H1s P w K mg base ca fa fd k M) : FnOk P w K mg base (L2.CX P w) (k + 2) (fa .Machine_call) (fd .Machine_call) ["self", "function", "argument"] (lift K ca 3 (runD 6 (b_Machine_call W M))) := by
  refine def_ok T.f_Machine_call sc_Machine_call rfl (b_Machine_call W M) fun cdv A outer s H E B eB hr G => ?_
  subst eB
  exact (pds_cons (pds_expr (pd_meth0 (c := 0) (pd_var 0) T.c_Machine T.m_Machine_step (H1 .Machine_step) hr T.b_Machine_step G.tk))
  (pds_cons (pds_if (pdt_cmp (op_eqD hr.units) vr_eq (pd_ix (hu_of hr) (pd_var 1) pd_int) pd_str (nomark _)) (pds_cons (pds_for G.ow rfl (pdi_tup (pd_ix (hu_of hr) (pd_var 1) pd_int)) (pdg_tup rfl (pdgs_cons (pdg_name 3 G.nd) (pdgs_cons (pdg_name 4 G.nd) pdgs_nil))) (pds_one (pds_expr (pd_meth (c := 0) (pd_var 0) T.c_Machine T.m_Machine_add_piece (H1 .Machine_add_piece) hr T.b_Machine_add_piece G.tk (pda_cons (pd_var 3) (pda_cons (pd_var 4) pda_nil))))))
  (pds_one (pds_ret (pd_tup (pda_cons pd_non (pda_cons pd_non (pda_cons (pd_var 2) pda_nil))))))) pds_nil)
  (pds_cons (pds_set 5 G.nd (pd_ix (hu_of hr) (pd_var 1) pd_int))
  (pds_cons (pds_if (pdt_cmp op_notN vr_isnot (pd_ix (hu_of hr) (pd_var 1) pd_int) pd_non (nomark _)) (pds_one (pds_set 5 G.nd (pd_tup (pda_cons (pd_ix (hu_of hr) (pd_var 1) pd_int) (pda_cons (pd_var 1) (pda_cons (pd_var 5) pda_nil)))))) pds_nil)
  (pds_one (pds_ret (pd_tup (pda_cons (pd_ix (hu_of hr) (pd_var 1) pd_int) (pda_cons (pd_tup (pda_cons (pd_ix (hu_of hr) (pd_var 1) pd_int) (pda_cons (pd_var 2) (pda_cons (pd_var 5) pda_nil)))) (pda_cons pd_non pda_nil))))))))))
theorem sc_Machine_ask : FnScope N_Machine_ask ["self", "name", "value"] (defScope s_Machine_ask) := ⟨rfl, rfl, rfl, by decide +kernel, rfl, by decide +kernel, by decide +kernel⟩
theorem ok_Machine_ask (T : Tx P w K mg ca fa fd) (H1 : H1s P w K mg base ca fa fd (k + 1) W) (H0 : H1s P w K mg base ca fa fd k M) : FnOk P w K mg base (L2.CX P w) (k + 2) (fa .Machine_ask) (fd .Machine_ask) ["self", "name", "value"] (lift K ca 3 (runD 9 (b_Machine_ask W M))) := by
  refine def_ok T.f_Machine_ask sc_Machine_ask rfl (b_Machine_ask W M) fun cdv A outer s H E B eB hr G => ?_
  subst eB
  exact (pds_cons (pds_expr (pd_meth0 (c := 0) (pd_var 0) T.c_Machine T.m_Machine_step (H1 .Machine_step) hr T.b_Machine_step G.tk))
  (pds_cons (pds_for G.ow rfl (pdi_revR rfl T.z_reversed (pdr_2 rfl T.z_range pd_int (pd_callB (x := "len") call_len vrc_len rfl T.z_len (by decide +kernel) (pda_cons (pd_fld (c := 0) (pd_var 0) T.c_Machine T.n_Machine_pieces) pda_nil)))) (pdg_name 3 G.nd) (pds_cons (pds_asg (pd_ix (hu_of hr) (pd_ix (hu_of hr) (pd_fld (c := 0) (pd_var 0) T.c_Machine T.n_Machine_pieces) (pd_var 3)) pd_int) (pdg_tup rfl (pdgs_cons (pdg_name 4 G.nd) (pdgs_cons (pdg_name 5 G.nd) (pdgs_cons (pdg_name 6 G.nd) (pdgs_cons (pdg_name 7 G.nd) pdgs_nil))))))
  (pds_one (pds_for G.ow rfl (pdi_tup (pd_var 6)) (pdg_name 8 G.nd) (pds_one (pds_if (pdt_cmp (op_eqD hr.units) vr_eq (pd_ix (hu_of hr) (pd_var 8) pd_int) (pd_var 1) (nomark _)) (pds_one (pds_ret (pd_meth (c := 0) (pd_var 0) T.c_Machine T.m_Machine_answer (H1 .Machine_answer) hr T.b_Machine_answer G.tk (pda_cons (pd_var 3) (pda_cons (pd_var 8) (pda_cons (pd_var 2) (pda_cons (pd_var 7) pda_nil))))))) pds_nil))))))
  (pds_one (pds_raise (c := 1) T.x_Stop rfl hr rfl T.gx_Stop G.tk (pd_tup (pda_cons pd_str (pda_cons (pd_var 1) pda_nil)))))))
theorem sc_Machine_answer : FnScope N_Machine_answer ["self", "place", "clause", "value", "env"] (defScope s_Machine_answer) := ⟨rfl, rfl, rfl, by decide +kernel, rfl, by decide +kernel, by decide +kernel⟩
theorem ok_Machine_answer (T : Tx P w K mg ca fa fd) (H1 : H1s P w K mg base ca fa fd (k + 1) W) (H0 : H1s P w K mg base ca fa fd k M) : FnOk P w K mg base (L2.CX P w) (k + 2) (fa .Machine_answer) (fd .Machine_answer) ["self", "place", "clause", "value", "env"] (lift K ca 5 (runD 10 (b_Machine_answer W M))) := by
  refine def_ok T.f_Machine_answer sc_Machine_answer rfl (b_Machine_answer W M) fun cdv A outer s H E B eB hr G => ?_
  subst eB
  exact (pds_cons (pds_set 5 G.nd (pd_sl (pd_fld (c := 0) (pd_var 0) T.c_Machine T.n_Machine_pieces) (pdo_some (pd_var 1)) pdo_none))
  (pds_cons (pds_fld (c := 0) (pd_var 0) (pd_slM (pd_fld (c := 0) (pd_var 0) T.c_Machine T.n_Machine_pieces) pdo_none (pdo_some (pd_var 1))) T.c_Machine T.n_Machine_pieces)
  (pds_cons (pds_augF (c := 0) (pd_var 0) (pd_callB (x := "len") call_len vrc_len rfl T.z_len (by decide +kernel) (pda_cons (pd_var 5) pda_nil)) T.c_Machine T.n_Machine_kept in_add)
  (pds_cons (pds_set 6 G.nd (pd_callTy (x := "tuple") call_tuple_of vrc_tuple rfl T.z_tuple (by decide +kernel) (pda_cons (pd_lc (c := (.many [7, 8])) rfl G.nd (pdi_list (pd_var 5)) (blkOk_by (own := [("handler", 7), ("frames", 8)]) (N := N_Machine_answer) (sc := defScope s_Machine_answer) (by decide +kernel)) (fun _ _ _ _ _ => pg_tup rfl (pgs_cons (pg_name (i := 7) G.nd rfl (Or.inl rfl)) (pgs_cons (pg_name (i := 8) G.nd rfl (Or.inl rfl)) pgs_nil))) (fun _ _ _ _ _ => (pd_tup (pda_cons (pd_var 7) (pda_cons (pd_callTy (x := "tuple") call_tuple_of vrc_tuple rfl T.z_tuple (by decide +kernel) (pda_cons (pd_var 8) pda_nil)) pda_nil)))) (by decide) (fun _ => rfl)) pda_nil)))
  (pds_cons (pds_set 9 G.nd (pd_tup (pda_cons (pd_ix (hu_of hr) (pd_var 2) pd_int) (pda_cons (pd_tup (pda_cons pd_str (pda_cons (pd_var 6) pda_nil))) (pda_cons (pd_tup (pda_cons (pd_ix (hu_of hr) (pd_var 2) pd_int) (pda_cons (pd_var 3) (pda_cons (pd_var 4) pda_nil)))) pda_nil)))))
  (pds_one (pds_ret (pd_tup (pda_cons (pd_ix (hu_of hr) (pd_var 2) pd_int) (pda_cons (pd_var 9) (pda_cons pd_non pda_nil)))))))))))
theorem sc_run_counted : FnScope N_run_counted ["expression", "steps"] (defScope s_run_counted) := ⟨rfl, rfl, rfl, by decide +kernel, rfl, by decide +kernel, by decide +kernel⟩
theorem ok_run_counted (T : Tx P w K mg ca fa fd) (H1 : H1s P w K mg base ca fa fd (k + 1) W) (H0 : H1s P w K mg base ca fa fd k M) : FnOk P w K mg base (L2.CX P w) (k + 2) (fa .run_counted) (fd .run_counted) ["expression", "steps"] (lift K ca 2 (runD 5 (b_run_counted W M))) := by
  refine def_ok T.f_run_counted sc_run_counted rfl (b_run_counted W M) fun cdv A outer s H E B eB hr G => ?_
  subst eB
  exact (pds_cons (pds_set 2 G.nd (pd_make (x := "Machine") (c := 0) T.mk_Machine (H0 .Machine_init) hr rfl T.gc_Machine T.b_Machine_init G.tk (pda_cons (pd_var 1) pda_nil)))
  (pds_cons (pds_tryAs (c := 1) (i := 4) rfl rfl G.nd rfl rfl ⟨rfl, by decide, .inl T.gx_Stop⟩ T.xm_Stop G.tk (fun E1 F0 S0 H0 pn xe t1 t2 => (pds_one (pds_set 3 G.nd (pd_tup (pda_cons pd_str (pda_cons (pd_call (x := "value_shape") (H1 .value_shape) hr rfl T.g_value_shape T.f_value_shape.kp T.b_value_shape t1 (pda_cons (pd_meth (c := 0) (pd_var 2) T.c_Machine T.m_Machine_run (H1 .Machine_run) hr T.b_Machine_run t1 (pda_cons (pd_var 0) pda_nil)) pda_nil)) pda_nil)))))) (fun xy F0 S0 H0 xa oe xd pn rs rx z1 z2 => (pds_one (pds_set 3 G.nd (pd_xf (c := 1) (i := 4) T.xf_Stop T.xn_Stop rs rx z1 z2 rfl)))))
  (pds_one (pds_ret (pd_tup (pda_cons (pd_callTy (x := "tuple") call_tuple_of vrc_tuple rfl T.z_tuple (by decide +kernel) (pda_cons (pd_fld (c := 0) (pd_var 2) T.c_Machine T.n_Machine_prints) pda_nil)) (pda_cons (pd_var 3) (pda_cons (pd_tup (pda_cons (pd_fld (c := 0) (pd_var 2) T.c_Machine T.n_Machine_kept) (pda_cons (pd_fld (c := 0) (pd_var 2) T.c_Machine T.n_Machine_most) pda_nil))) pda_nil))))))))
theorem sc_law_state : FnScope N_law_state ["_law_script"] (defScope s_law_state) := ⟨rfl, rfl, rfl, by decide +kernel, rfl, by decide +kernel, by decide +kernel⟩
theorem ok_law_state (T : Tx P w K mg ca fa fd) (H1 : H1s P w K mg base ca fa fd (k + 1) W) (H0 : H1s P w K mg base ca fa fd k M) : FnOk P w K mg base (L2.CX P w) (k + 2) (fa .law_state) (fd .law_state) ["_law_script"] (lift K ca 1 (runD 3 (b_law_state W M))) := by
  refine def_ok T.f_law_state sc_law_state rfl (b_law_state W M) fun cdv A outer s H E B eB hr G => ?_
  subst eB
  exact (pds_cons (pds_setLcM (i := 1) (c := (.one 2)) rfl G.nd rfl rfl (sw_true rfl rfl rfl (by decide +kernel)) (pdi_list (pd_sl (pd_var 0) pdo_none (pdo_some pd_int))) (blkOk_by (own := [("_law_cell", 2)]) (N := N_law_state) (sc := defScope s_law_state) (by decide +kernel)) (fun _ _ _ _ _ => pg_name (i := 2) G.nd rfl (Or.inl rfl)) (fun _ _ _ _ _ => (pd_callB (x := "abs") call_abs vrc_abs rfl T.z_abs (by decide +kernel) (pda_cons (pd_var 2) pda_nil))) (by decide) (fun _ => rfl))
  (pds_cons (pds_if (pdt_cmp (op_eqD hr.units) vr_eq (pd_callB (x := "len") call_len vrc_len rfl T.z_len (by decide +kernel) (pda_cons (pd_var 1) pda_nil)) pd_int (nomark _)) (pds_one (pds_set 1 G.nd (pd_lstM (pda_cons pd_int pda_nil)))) pds_nil)
  (pds_one (pds_ret (pd_lstM (pda_cons pd_int (pda_cons (pd_var 1) pda_nil)))))))
theorem sc_law_take : FnScope N_law_take ["_law_state_here", "_law_most"] (defScope s_law_take) := ⟨rfl, rfl, rfl, by decide +kernel, rfl, by decide +kernel, by decide +kernel⟩
theorem ok_law_take (T : Tx P w K mg ca fa fd) (H1 : H1s P w K mg base ca fa fd (k + 1) W) (H0 : H1s P w K mg base ca fa fd k M) : FnOk P w K mg base (L2.CX P w) (k + 2) (fa .law_take) (fd .law_take) ["_law_state_here", "_law_most"] (lift K ca 2 (runD 6 (b_law_take W M))) := by
  refine def_ok T.f_law_take sc_law_take rfl (b_law_take W M) fun cdv A outer s H E B eB hr G => ?_
  subst eB
  exact (pds_cons (pds_set 2 G.nd (pd_ix (hu_of hr) (pd_var 0) pd_int))
  (pds_cons (pds_set 3 G.nd (pd_op op_mod vr_mod (pd_ix (hu_of hr) (pd_var 0) pd_int) (pd_callB (x := "len") call_len vrc_len rfl T.z_len (by decide +kernel) (pda_cons (pd_var 2) pda_nil))))
  (pds_cons (pds_set 4 G.nd (pd_ix (hu_of hr) (pd_var 2) (pd_var 3)))
  (pds_cons (pds_if (pdt_cmp op_ge vr_ge (pd_var 4) pd_int (nomark _)) (pds_cons (pds_asg (pd_op op_fdiv vr_div (pd_var 4) (pd_var 1)) (pdg_sub (hu_of hr) (pd_var 2) (pd_var 3)))
  (pds_one (pds_ret (pd_op op_mod vr_mod (pd_var 4) (pd_var 1))))) pds_nil)
  (pds_cons (pds_asg (pd_op op_addD vr_add (pd_ix (hu_of hr) (pd_var 0) pd_int) pd_int) (pdg_sub (hu_of hr) (pd_var 0) pd_int))
  (pds_cons (pds_set 5 G.nd (pd_op op_mod vr_mod (pd_callTy (x := "int") call_int1 vrc_int rfl T.z_int (by decide +kernel) (pda_cons (pd_op op_addD vr_add (pd_op op_mul vr_mul (pd_var 4) pd_int) (pd_op op_mul vr_mul (pd_ix (hu_of hr) (pd_var 0) pd_int) pd_int)) pda_nil)) pd_int))
  (pds_cons (pds_set 5 G.nd (pd_op op_mod vr_mod (pd_callTy (x := "int") call_int1 vrc_int rfl T.z_int (by decide +kernel) (pda_cons (pd_op op_addD vr_add (pd_op op_mul vr_mul (pd_var 5) pd_int) (pd_op op_mul vr_mul (pd_ix (hu_of hr) (pd_var 0) pd_int) pd_int)) pda_nil)) pd_int))
  (pds_one (pds_ret (pd_op op_mod vr_mod (pd_op op_fdiv vr_div (pd_var 5) pd_int) (pd_var 1)))))))))))
theorem sc_law : FnScope N_law ["_law_script"] (defScope s_law) := ⟨rfl, rfl, rfl, by decide +kernel, rfl, by decide +kernel, by decide +kernel⟩
theorem ok_law (T : Tx P w K mg ca fa fd) (H1 : H1s P w K mg base ca fa fd (k + 1) W) (H0 : H1s P w K mg base ca fa fd k M) : FnOk P w K mg base (L2.CX P w) (k + 2) (fa .law) (fd .law) ["_law_script"] (lift K ca 1 (runD 12 (b_law W M))) := by
  refine def_ok T.f_law sc_law rfl (b_law W M) fun cdv A outer s H E B eB hr G => ?_
  subst eB
  exact (pds_cons (pds_set 1 G.nd (pd_call (x := "_law_state") (H1 .law_state) hr rfl T.g_law_state T.f_law_state.kp T.b_law_state G.tk (pda_cons (pd_var 0) pda_nil)))
  (pds_cons (pds_set 2 G.nd (pd_op op_addD vr_add pd_int (pd_call (x := "_law_take") (H1 .law_take) hr rfl T.g_law_take T.f_law_take.kp T.b_law_take G.tk (pda_cons (pd_var 1) (pda_cons pd_int pda_nil)))))
  (pds_cons (pds_par 3 4 rfl G.nd (by decide) (pda_cons (pd_call (x := "_law_take") (H1 .law_take) hr rfl T.g_law_take T.f_law_take.kp T.b_law_take G.tk (pda_cons (pd_var 1) (pda_cons (pd_var 2) pda_nil))) (pda_cons (pd_call (x := "_law_take") (H1 .law_take) hr rfl T.g_law_take T.f_law_take.kp T.b_law_take G.tk (pda_cons (pd_var 1) (pda_cons (pd_var 2) pda_nil))) pda_nil)) rfl rfl)
  (pds_cons (pds_setLc (i := 5) (c := (.one 6)) rfl G.nd rfl rfl (sw_true rfl rfl rfl (by decide +kernel)) (pdi_range1 rfl T.z_range (pda_cons (pd_var 2) pda_nil)) (blkOk_by (own := [("_law_k", 6)]) (N := N_law) (sc := defScope s_law) (by decide +kernel)) (fun _ _ _ _ _ => pg_name (i := 6) G.nd rfl (Or.inl rfl)) (fun _ _ _ _ _ => (pd_call (x := "_law_take") (H1 .law_take) hr rfl T.g_law_take T.f_law_take.kp T.b_law_take (takes_no (E0 := 0) B) (pda_cons (pd_var 1) (pda_cons pd_int pda_nil)))) (by decide) (fun _ => rfl))
  (pds_cons (pds_set 7 G.nd (pd_tup (pda_cons pd_str (pda_cons pd_str (pda_cons (pd_tup (pda_cons pd_str (pda_cons (pd_op op_addD vr_add pd_str (pd_callTy (x := "str") call_str_int vrc_str rfl T.z_str (by decide +kernel) (pda_cons (pd_var 3) pda_nil))) (pda_cons (pd_tup (pda_cons pd_str (pda_cons pd_int pda_nil))) pda_nil)))) (pda_cons (pd_tup (pda_cons pd_str (pda_cons (pd_op op_addD vr_add pd_str (pd_callTy (x := "str") call_str_int vrc_str rfl T.z_str (by decide +kernel) (pda_cons (pd_var 4) pda_nil))) (pda_cons (pd_tup (pda_cons pd_str (pda_cons pd_int pda_nil))) pda_nil)))) pda_nil))))))
  (pds_cons (pds_for G.ow rfl (pdi_range1 rfl T.z_range (pda_cons (pd_var 2) pda_nil)) (pdg_name 8 G.nd) (pds_cons (pds_set 9 G.nd (pd_tup (pda_cons pd_str (pda_cons (pd_tup (pda_cons pd_str (pda_cons pd_str pda_nil))) (pda_cons (pd_tup (pda_cons pd_str (pda_cons (pd_tup (pda_cons pd_str (pda_cons pd_str pda_nil))) (pda_cons (pd_tup (pda_cons pd_str (pda_cons (pd_ix (hu_of hr) (pd_var 5) (pd_var 8)) pda_nil))) pda_nil)))) pda_nil)))))
  (pds_one (pds_set 7 G.nd (pd_tup (pda_cons pd_str (pda_cons (pd_var 7) (pda_cons (pd_tup (pda_cons pd_str (pda_cons (pd_tup (pda_cons pd_str (pda_cons pd_str (pda_cons (pd_tup (pda_cons pd_str (pda_cons pd_str pda_nil))) (pda_cons (pd_tup (pda_cons pd_str (pda_cons pd_int pda_nil))) pda_nil))))) pda_nil))) (pda_cons (pd_tup (pda_cons (pd_tup (pda_cons (pd_op op_addD vr_add pd_str (pd_callTy (x := "str") call_str_int vrc_str rfl T.z_str (by decide +kernel) (pda_cons (pd_var 8) pda_nil))) (pda_cons pd_str (pda_cons pd_str (pda_cons (pd_var 9) pda_nil))))) pda_nil)) pda_nil)))))))))
  (pds_cons (pds_set 10 G.nd (pd_call (x := "run_counted") (H1 .run_counted) hr rfl T.g_run_counted T.f_run_counted.kp T.b_run_counted G.tk (pda_cons (pd_var 7) (pda_cons (pd_op op_addD vr_add pd_int (pd_call (x := "_law_take") (H1 .law_take) hr rfl T.g_law_take T.f_law_take.kp T.b_law_take G.tk (pda_cons (pd_var 1) (pda_cons pd_int pda_nil)))) pda_nil))))
  (pds_cons (pds_set 11 G.nd (pd_op op_addD vr_add (pd_op op_sub vr_sub (pd_ix (hu_of hr) (pd_var 5) (pd_var 3)) (pd_ix (hu_of hr) (pd_var 5) (pd_var 4))) (pd_var 2)))
  (pds_one (pds_ret (pd_cmp (op_eqD hr.units) vr_eq (pd_var 10) (pd_tup (pda_cons (pd_tup (pda_cons pd_int (pda_cons pd_int pda_nil))) (pda_cons (pd_tup (pda_cons pd_str (pda_cons (pd_tup (pda_cons pd_str (pda_cons (pd_var 11) pda_nil))) pda_nil))) (pda_cons (pd_tup (pda_cons (pd_op op_addD vr_add (pd_op op_addD vr_add (pd_op op_addD vr_add (pd_var 3) pd_int) (pd_var 4)) pd_int) (pda_cons (pd_op op_addD vr_add (pd_var 2) pd_int) pda_nil))) pda_nil)))) (nomark _))))))))))))
theorem all_of (T : Tx P w K mg ca fa fd) (n : Nat) : (∀ f, FnOk P w K mg base (L2.CX P w) (n + 1) (fa f) (fd f) (pars f) (lift K ca (arity f) (go n f))) ∧ ∀ f, FnOk P w K mg base (L2.CX P w) n (fa f) (fd f) (pars f) (lift K ca (arity f) (goM n f)) := by
  refine all_ok (nloc := nloc) (ar := arity) (body := bodies) (fa := fa) (fd := fd) (ps := pars) (fun f k W M H1 H0 => ?_) n
  cases f with
  | looked_up => exact ok_looked_up T H1 H0
  | calculated => exact ok_calculated T H1 H0
  | value_shape => exact ok_value_shape T H1 H0
  | Machine_init => exact ok_Machine_init T H1 H0
  | Machine_step => exact ok_Machine_step T H1 H0
  | Machine_wait => exact ok_Machine_wait T H1 H0
  | Machine_add_piece => exact ok_Machine_add_piece T H1 H0
  | Machine_run => exact ok_Machine_run T H1 H0
  | Machine_handled => exact ok_Machine_handled T H1 H0
  | Machine_begin => exact ok_Machine_begin T H1 H0
  | Machine_resume => exact ok_Machine_resume T H1 H0
  | Machine_call => exact ok_Machine_call T H1 H0
  | Machine_ask => exact ok_Machine_ask T H1 H0
  | Machine_answer => exact ok_Machine_answer T H1 H0
  | run_counted => exact ok_run_counted T H1 H0
  | law_state => exact ok_law_state T H1 H0
  | law_take => exact ok_law_take T H1 H0
  | law => exact ok_law T H1 H0
end
end Pg
/-! MM1: the machine in the store. -/
namespace Pg
open PySem PySem.Spec PyProof.Rows L2 DL TM
def mF (l : Nat) (pp pc : Addr) (k m : Nat) : List (String × D) := [("left", .int l), ("prints", .obj pp), ("pieces", .obj pc), ("kept", .int k), ("most", .int m)]
section
variable {l k m n : Nat} {pp pc q : Addr}
@[simp] theorem mf_left : (mF l pp pc k m).lookup "left" = some (D.int (l : Nat)) := rfl
@[simp] theorem mf_prints : (mF l pp pc k m).lookup "prints" = some (D.obj pp) := rfl
@[simp] theorem mf_pieces : (mF l pp pc k m).lookup "pieces" = some (D.obj pc) := rfl
@[simp] theorem mf_kept : (mF l pp pc k m).lookup "kept" = some (D.int (k : Nat)) := rfl
@[simp] theorem mf_most : (mF l pp pc k m).lookup "most" = some (D.int (m : Nat)) := rfl
@[simp] theorem mf_no_step : (mF l pp pc k m).lookup "step" = none := rfl
@[simp] theorem mf_no_wait : (mF l pp pc k m).lookup "wait" = none := rfl
@[simp] theorem mf_no_add_piece : (mF l pp pc k m).lookup "add_piece" = none := rfl
@[simp] theorem mf_no_run : (mF l pp pc k m).lookup "run" = none := rfl
@[simp] theorem mf_no_handled : (mF l pp pc k m).lookup "handled" = none := rfl
@[simp] theorem mf_no_begin : (mF l pp pc k m).lookup "begin" = none := rfl
@[simp] theorem mf_no_resume : (mF l pp pc k m).lookup "resume" = none := rfl
@[simp] theorem mf_no_call : (mF l pp pc k m).lookup "call" = none := rfl
@[simp] theorem mf_no_ask : (mF l pp pc k m).lookup "ask" = none := rfl
@[simp] theorem mf_no_answer : (mF l pp pc k m).lookup "answer" = none := rfl
@[simp] theorem mf_len : (mF l pp pc k m).length = 5 := rfl
@[simp] theorem mf_put_left : putFD "left" (.int (n : Nat)) (mF l pp pc k m) = mF n pp pc k m := rfl
@[simp] theorem mf_put_pieces : putFD "pieces" (.obj q) (mF l pp pc k m) = mF l pp q k m := rfl
@[simp] theorem mf_put_kept : putFD "kept" (.int (n : Nat)) (mF l pp pc k m) = mF l pp pc n m := rfl
@[simp] theorem mf_put_most : putFD "most" (.int (n : Nat)) (mF l pp pc k m) = mF l pp pc k n := rfl
end
/-- the machine's state; pieces: the uppermost first -/
structure MS where
  left : Nat
  pr : List Int
  ps : List (D × List D)
  kept : Nat
  most : Nat
inductive PsAt (S : Store) : List Addr → List (D × List D) → Prop
  | nil : PsAt S [] []
  | cons {a : Addr} {as : List Addr} {h : D} {fr : List D} {ps : List (D × List D)} : S a = some (.lst fr.reverse) → PsAt S as ps → PsAt S (a :: as) ((h, fr) :: ps)
/-- the list of pieces: the uppermost last -/
def pcL : List Addr → List (D × List D) → List D
  | a :: as, p :: ps => pcL as ps ++ [.tup [p.1, .obj a]]
  | _, _ => []
theorem PsAt.same {S S' : Store} {as : List Addr} {ps : List (D × List D)} (h : ∀ a ∈ as, S' a = S a) (k : PsAt S as ps) : PsAt S' as ps := by
  induction k with
  | nil => exact .nil
  | cons h1 h2 ih => exact .cons (by rw [h _ (by simp)]; exact h1) (ih fun a ha => h a (by simp [ha]))
theorem PsAt.len {S : Store} : ∀ {as : List Addr} {ps : List (D × List D)}, PsAt S as ps → as.length = ps.length
  | _, _, .nil => rfl
  | _, _, .cons _ h => by simp [h.len]
theorem pcL_len : ∀ {as : List Addr} {ps : List (D × List D)}, as.length = ps.length → (pcL as ps).length = ps.length
  | [], [], _ => rfl
  | a :: as, p :: ps, h => by simp [pcL, pcL_len (as := as) (ps := ps) (by simpa using h)]
structure MAt (S0 S : Store) (p : Addr) (s : MS) (pp pc : Addr) (as : List Addr) : Prop where
  me : S p = some (.ins 0 (mF s.left pp pc s.kept s.most))
  hpr : S pp = some (.lst (s.pr.map D.int))
  hpc : S pc = some (.lst (pcL as s.ps))
  hps : PsAt S as s.ps
  nd : (p :: pp :: pc :: as).Nodup
  fresh : ∀ a ∈ p :: pp :: pc :: as, S0 a = none
  old : ∀ q, S0 q ≠ none → S q = S0 q
def MAtE (S0 S : Store) (p : Addr) (s : MS) : Prop := ∃ pp pc as, MAt S0 S p s pp pc as
section
variable {S0 S : Store} {p pp pc : Addr} {s s' : MS} {as : List Addr}
theorem PsAt.mem {S : Store} {as : List Addr} {ps : List (D × List D)} (h : PsAt S as ps) : ∀ a ∈ as, S a ≠ none := by
  induction h with
  | nil => exact fun a ha => by cases ha
  | cons h1 h2 ih =>
    intro a ha
    rcases List.mem_cons.mp ha with rfl | ha
    · rw [h1]; exact fun z => by cases z
    · exact ih a ha
theorem MAt.nds (h : MAt S0 S p s pp pc as) : (p ≠ pp ∧ p ≠ pc ∧ p ∉ as) ∧ (pp ≠ pc ∧ pp ∉ as) ∧ pc ∉ as ∧ as.Nodup := by
  have := h.nd
  simp only [List.nodup_cons, List.mem_cons, not_or] at this
  exact this
theorem MAt.new (h : MAt S0 S p s pp pc as) {a : Addr} (ha : S a = none) : S0 a = none ∧ a ≠ p ∧ a ≠ pp ∧ a ≠ pc ∧ a ∉ as := by
  refine ⟨?_, fun z => ?_, fun z => ?_, fun z => ?_, fun z => h.hps.mem a z ha⟩
  · cases e : S0 a with
    | none => rfl
    | some o => have := h.old a (by rw [e]; exact fun z => by cases z); rw [ha, e] at this; cases this
  · subst z; have := h.me; rw [ha] at this; cases this
  · subst z; have := h.hpr; rw [ha] at this; cases this
  · subst z; have := h.hpc; rw [ha] at this; cases this
theorem MAt.ins (h : MAt S0 S p s pp pc as) : insD S 0 (.obj p) = some (p, mF s.left pp pc s.kept s.most) := insD_obj h.me
/-- a field of the machine -/
theorem MAt.fld (h : MAt S0 S p s pp pc as) (e1 : s'.pr = s.pr) (e3 : s'.ps = s.ps) : MAt S0 (DL.put S p (.ins 0 (mF s'.left pp pc s'.kept s'.most))) p s' pp pc as := by
  obtain ⟨⟨n1, n2, n3⟩, _⟩ := h.nds
  refine ⟨put_same, ?_, ?_, ?_, h.nd, h.fresh, fun q hq => ?_⟩
  · rw [put_ne n1.symm, e1]; exact h.hpr
  · rw [put_ne n2.symm, e3]; exact h.hpc
  · rw [e3]; exact h.hps.same fun a ha => put_ne fun z => n3 (z ▸ ha)
  · rw [put_ne fun z => by subst z; exact hq (h.fresh _ (by simp))]; exact h.old q hq
theorem MAt.prq (h : MAt S0 S p s pp pc as) {pr : List Int} : MAt S0 (DL.put S pp (.lst (pr.map D.int))) p { s with pr := pr } pp pc as := by
  obtain ⟨⟨n1, n2, n3⟩, ⟨m1, m2⟩, _⟩ := h.nds
  refine ⟨?_, put_same, ?_, ?_, h.nd, h.fresh, fun q hq => ?_⟩
  · rw [put_ne n1]; exact h.me
  · rw [put_ne m1.symm]; exact h.hpc
  · exact h.hps.same fun x hx => put_ne fun z => m2 (z ▸ hx)
  · rw [put_ne fun z => by subst z; exact hq (h.fresh _ (by simp))]; exact h.old q hq
/-- the frames of the uppermost piece change -/
theorem MAt.frq {hd : D} {fr fr' : List D} {r : List (D × List D)} {a : Addr} (h : MAt S0 S p s pp pc (a :: as)) (e : s.ps = (hd, fr) :: r) : MAt S0 (DL.put S a (.lst fr'.reverse)) p { s with ps := (hd, fr') :: r } pp pc (a :: as) := by
  obtain ⟨⟨n1, n2, n3⟩, ⟨m1, m2⟩, k1, k2⟩ := h.nds
  simp only [List.mem_cons, not_or, List.nodup_cons] at n3 m2 k1 k2
  have hp := h.hps
  rw [e] at hp
  refine ⟨?_, ?_, ?_, ?_, h.nd, h.fresh, fun q hq => ?_⟩
  · rw [put_ne n3.1]; exact h.me
  · rw [put_ne m2.1]; exact h.hpr
  · rw [put_ne k1.1, h.hpc, e]; rfl
  · cases hp with
    | cons h1 h2 => exact .cons put_same (h2.same fun x hx => put_ne fun z => k2.1 (z ▸ hx))
  · rw [put_ne fun z => by subst z; exact hq (h.fresh _ (by simp))]; exact h.old q hq
/-- the uppermost piece goes -/
theorem MAt.down {q : D × List D} {r : List (D × List D)} {a : Addr} (h : MAt S0 S p s pp pc (a :: as)) (e : s.ps = q :: r) : MAt S0 (DL.put S pc (.lst (pcL as r))) p { s with ps := r } pp pc as := by
  obtain ⟨⟨n1, n2, n3⟩, ⟨m1, m2⟩, k1, k2⟩ := h.nds
  simp only [List.mem_cons, not_or, List.nodup_cons] at n3 m2 k1 k2
  have hp := h.hps
  rw [e] at hp
  refine ⟨?_, ?_, put_same, ?_, ?_, fun x hx => h.fresh x (by simp only [List.mem_cons] at hx ⊢; rcases hx with hx | hx | hx | hx <;> simp [hx]), fun q hq => ?_⟩
  · rw [put_ne n2]; exact h.me
  · rw [put_ne m1]; exact h.hpr
  · cases hp with
    | cons h1 h2 => exact h2.same fun x hx => put_ne fun z => k1.2 (z ▸ hx)
  · simp only [List.mem_cons, not_or, List.nodup_cons]
    exact ⟨⟨n1, n2, n3.2⟩, ⟨m1, m2.2⟩, k1.2, k2.2⟩
  · rw [put_ne fun z => by subst z; exact hq (h.fresh _ (by simp))]; exact h.old q hq
/-- other things of the store -/
theorem MAt.ext {T : Store} (h : MAt S0 S p s pp pc as) (e : ∀ a, S a ≠ none → T a = S a) : MAt S0 T p s pp pc as := by
  have hh : ∀ {a : Addr} {o : Ob}, S a = some o → T a = some o := fun {a o} h => by rw [e a (by rw [h]; exact fun z => by cases z)]; exact h
  refine ⟨hh h.me, hh h.hpr, hh h.hpc, h.hps.same fun a ha => e a (h.hps.mem a ha), h.nd, h.fresh, fun q hq => ?_⟩
  rw [e q (by rw [h.old q hq]; exact hq)]; exact h.old q hq
/-- a piece comes -/
theorem MAt.more (h : MAt S0 S p s pp pc as) {hd : D} {fr : List D} {a : Addr} (ha : S a = none) :
    MAt S0 (DL.put (DL.put S a (.lst fr.reverse)) pc (.lst (pcL as s.ps ++ [.tup [hd, .obj a]]))) p { s with ps := (hd, fr) :: s.ps } pp pc (a :: as) := by
  obtain ⟨⟨n1, n2, n3⟩, ⟨m1, m2⟩, k1, k2⟩ := h.nds
  obtain ⟨a0, a1, a2, a3, a4⟩ := h.new ha
  refine ⟨?_, ?_, put_same, .cons ?_ (h.hps.same fun x hx => ?_), ?_, fun x hx => ?_, fun q hq => ?_⟩
  · rw [put_ne n2, put_ne a1.symm]; exact h.me
  · rw [put_ne m1, put_ne a2.symm]; exact h.hpr
  · rw [put_ne a3, put_same]
  · rw [put_ne (show x ≠ pc from fun z => k1 (z ▸ hx)), put_ne (show x ≠ a from fun z => a4 (z ▸ hx))]
  · simp only [List.mem_cons, not_or, List.nodup_cons]
    exact ⟨⟨n1, n2, a1.symm, n3⟩, ⟨m1, a2.symm, m2⟩, ⟨a3.symm, k1⟩, a4, k2⟩
  · simp only [List.mem_cons] at hx
    rcases hx with rfl | rfl | rfl | rfl | hx
    · exact h.fresh _ (by simp)
    · exact h.fresh _ (by simp)
    · exact h.fresh _ (by simp)
    · exact a0
    · exact h.fresh _ (by simp [hx])
  · rw [put_ne fun z => by subst z; exact hq (h.fresh _ (by simp)), put_ne fun z => by subst z; exact hq a0]; exact h.old q hq
end
end Pg
/-! MM2: steps counted, waiting expressions, pieces. -/
namespace Pg
open PySem PySem.Spec PyProof.Rows L2 DL TM
theorem ins_put {S : Store} {p : Addr} {c : Nat} {f : List (String × D)} : insD (DL.put S p (.ins c f)) c (.obj p) = some (p, f) := insD_obj put_same
theorem augF' {c : Nat} {f : String} {g : Int → Int → Int} {a b : DE} {D' : DEnds} {σ : DEnv} {S : Store} : dAugF c f g a b D' σ S = a σ S fun x S1 => ofO (insD S1 c x) fun z => ofO (z.2.lookup f) fun old => b σ S1 fun y S2 => match old, y with
  | .int i, .int j => ofO (insD S2 c x) fun z2 => z2.2.length < 1000 ∧ D'.nx σ (DL.put S2 z2.1 (.ins c (putFD f (.int (g i j)) z2.2)))
  | _, _ => False := propext Iff.rfl
theorem at_last {l : List D} {x : D} : atI (l ++ [x]) (-1) = some x := by
  unfold atI
  have : ixN (l ++ [x]).length (-1) = some l.length := by
    have := ix_neg (n := (l ++ [x]).length) (k := l.length) (by simp) (by simp)
    simpa using this
  rw [this]
  simp
section
variable {S0 S : Store} {p pp pc : Addr} {s : MS} {as : List Addr} {K : Nat} {Q : QE} {E : XQ}
theorem mstep_ok (hK : 1 ≤ K) (h : MAt S0 S p s pp pc as) (h0 : s.left = 0 → E ⟨1, [("end", .tup [.str "steps"])]⟩ S)
    (h1 : ∀ l, s.left = l + 1 → ∀ S', MAt S0 S' p { s with left := l } pp pc as → Q .non S') : go K .Machine_step [.obj p] S Q E := by
  obtain ⟨j, rfl⟩ : ∃ j, K = j + 1 := ⟨K - 1, by omega⟩
  rw [go_Machine_step]
  unfold b_Machine_step
  simp [startD, h.ins]
  cases hl : s.left with
  | zero => simpa using h0 hl
  | succ l =>
    have := h1 l hl _ (h.fld (s' := { s with left := l }) rfl rfl)
    simp [augF', h.ins, hl]
    exact this
theorem wait_ok {hd : D} {fr : List D} {r : List (D × List D)} {a : Addr} {ds : List D} (h : MAt S0 S p s pp pc (a :: as)) (e : s.ps = (hd, fr) :: r) (hl : fr.length < lim)
    (hQ : ∀ S', MAt S0 S' p { s with ps := (hd, .tup ds :: fr) :: r } pp pc (a :: as) → Q .non S') : stW_Machine_wait [.obj p, .tup ds] S Q E := by
  show b_Machine_wait (fun _ => noSp) (fun _ => noSp) (fun x _ S1 => E x S1) { nx := fun _ S1 => Q .non S1, rt := Q } (startD 2 [.obj p, .tup ds]) S
  unfold b_Machine_wait
  have hc := h.hpc
  rw [e, pcL] at hc
  have hp := h.hps
  rw [e] at hp
  cases hp with
  | cons h1 h2 =>
    simp [startD, h.ins, asL_obj hc, at_last, tyD_lst h1, app_obj h1]
    refine ⟨hl, ?_⟩
    have := hQ _ (h.frq (fr' := .tup ds :: fr) e)
    simpa using this
theorem addp_ok {hd fr : D} {l : List D} (hK : 1 ≤ K) (h : MAt S0 S p s pp pc as) (hl : s.ps.length + 1 < lim) (hfr : asQ S fr = some l)
    (hQ : ∀ S' a, MAt S0 S' p { s with ps := (hd, l.reverse) :: s.ps, most := max s.most (s.ps.length + 1) } pp pc (a :: as) → (∀ b, S b ≠ none → b ≠ p → b ≠ pc → S' b = S b) → Q .non S') : go K .Machine_add_piece [.obj p, hd, fr] S Q E := by
  obtain ⟨j, rfl⟩ : ∃ j, K = j + 1 := ⟨K - 1, by omega⟩
  rw [go_Machine_add_piece]
  unfold b_Machine_add_piece
  have len := pcL_len (as := as) (ps := s.ps) h.hps.len
  simp [startD, h.ins, bListM, hfr, asL_obj h.hpc]
  refine ⟨tyD_lst h.hpc, fun a ha => ?_⟩
  have hR := h.more (hd := hd) (fr := l.reverse) ha
  obtain ⟨a0, a1, a2, a3, a4⟩ := h.new ha
  obtain ⟨⟨n1, n2, n3⟩, ⟨m1, m2⟩, k1, k2⟩ := h.nds
  have e1 : DL.put S a (.lst l) pc = some (.lst (pcL as s.ps)) := by rw [put_ne a3.symm]; exact h.hpc
  have i1 : ∀ {o u : Ob}, insD (DL.put (DL.put S a o) pc u) 0 (.obj p) = some (p, mF s.left pp pc s.kept s.most) := fun {o u} => insD_obj (by rw [put_ne n2, put_ne a1.symm]; exact h.me)
  rw [app_obj e1]
  refine ⟨by rw [len]; omega, ?_⟩
  simp [i1, lenD_obj put_same, bMax2, len]
  rw [show (if ((s.most : Nat) : Int) < ((s.ps.length : Nat) : Int) + 1 then ((s.ps.length : Nat) : Int) + 1 else ((s.most : Nat) : Int)) = ((max s.most (s.ps.length + 1) : Nat) : Int) by split <;> omega, mf_put_most]
  have := hR.fld (s' := { s with ps := (hd, l.reverse) :: s.ps, most := max s.most (s.ps.length + 1) }) rfl rfl
  simp only [List.reverse_reverse] at this
  refine hQ _ a ?_ fun b hb hbp hbc => ?_
  · exact this
  · rw [put_ne hbp, put_ne hbc, put_ne fun z => by subst z; exact hb ha]
end
end Pg
/-! MM3: names looked up; an expression begun. -/
namespace Pg
open PySem PySem.Spec PyProof.Rows L2 DL TM
def LsM (s : LS) (k m : Nat) : MS := ⟨s.left, s.pr, frM s.fs, k, m⟩
def _root_.TM.Cur.m : TM.Cur → List D
  | .ev t e _ => [t.d, e.m, .non]
  | .rt v => [.non, .non, v.m]
  | .dn _ => []
theorem addF_fr {b : Bool} {d : D} {n : Nat} {l : List (D × List D)} (h : ∀ q ∈ l, q.2.length ≤ n) : ∀ q ∈ addF b d l, q.2.length ≤ n + 1 := by
  intro q hq
  cases b with
  | true =>
    rcases List.mem_cons.mp (show q ∈ (d, []) :: l from hq) with rfl | hq
    · simp
    · have := h q hq; omega
  | false =>
    cases l with
    | nil => cases hq
    | cons x r =>
      rcases List.mem_cons.mp (show q ∈ (x.1, d :: x.2) :: r from hq) with rfl | hq
      · have := h x (by simp); simp; omega
      · have := h q (by simp [hq]); omega
theorem frM_fr : ∀ (fs : List Fr), ∀ q ∈ frM fs, q.2.length ≤ fs.length
  | [], q, h => by simp [frM] at h; subst h; simp
  | f :: fs, q, h => by
    rw [frM] at h
    exact addF_fr (frM_fr fs) q h
theorem nH_le : ∀ fs : List Fr, nH fs ≤ fs.length
  | [] => Nat.le_refl 0
  | f :: fs => by have := nH_le fs; simp only [nH, List.length_cons]; split <;> omega
section
variable {S0 S : Store} {p pp pc : Addr} {as : List Addr} {K : Nat} {Q : QE} {E : XQ}
theorem looked_ok {x : String} {e : TM.Env} {v : Val} (hK : 1 ≤ K) (h : e.find x = some v) (hQ : Q v.m S) : go K .looked_up [e.m, .str x] S Q E := by
  obtain ⟨k, rfl⟩ : ∃ k, K = k + 1 := ⟨K - 1, by omega⟩
  rw [go_looked_up]
  unfold b_looked_up
  rw [r_seq]
  refine while_ind (fun m σ S' => S' = S ∧ ∃ e' : TM.Env, sizeOf e' = m ∧ e'.find x = some v ∧ σ = [some e'.m, some (.str x)]) ⟨_, rfl, e, rfl, h, rfl⟩ ?_
  rintro m σ S' ⟨rfl, e', hm, hf, rfl⟩
  cases e' with
  | nil => cases hf
  | cons y u e'' =>
    rw [Env.find] at hf
    simp [Env.m]
    by_cases c : y = x
    · subst c
      rw [if_pos rfl] at hf
      cases hf
      simpa using hQ
    · rw [if_neg c] at hf
      simp [c]
      refine ⟨fun σ' S'' => S'' = S' ∧ σ' = [some e''.m, some (.str x)], ?_, rfl, rfl⟩
      rintro σ' S'' ⟨rfl, rfl⟩
      exact ⟨sizeOf e'', by subst hm; simp; omega, rfl, e'', rfl, hf, rfl⟩
theorem begin_ok {s s' : LS} {t : TM.Tm} {e : TM.Env} {tk : List Nat} {kp mo : Nat} (hK : 3 ≤ K) (h : MAt S0 S p (LsM s kp mo) pp pc as) (hm : nH s.fs + 1 ≤ mo) (hl : s.fs.length + 10 < lim) (hs : into s t e tk = some s') (hr : ∀ f x b, t = .rc f x b → f ≠ "")
    (hQ : ∀ S', MAtE S0 S' p (LsM s' kp (max mo (nH s'.fs + 1))) → Q (.tup s'.cur.m) S') : go K .Machine_begin [.obj p, t.d, e.m] S Q E := by
  obtain ⟨k, rfl⟩ : ∃ k, K = k + 1 := ⟨K - 1, by omega⟩
  have hmx : max mo (nH s.fs + 1) = mo := by omega
  rw [go_Machine_begin]
  unfold b_Machine_begin
  have leaf : ∀ {v : Val}, s' = { s with cur := .rt v } → Q (.tup [.non, .non, v.m]) S := fun {v} z => by
    subst z
    refine hQ S ⟨pp, pc, as, ?_⟩
    rw [hmx]
    exact h
  have wait : ∀ {p1 : TM.Tm} {k1 k2 : List Nat}, (Fr.a t e k2).han = false → (Fr.a t e k2).m = .tup [.str t.hs, t.d, e.m] → s' = { s with cur := .ev p1 e k1, fs := .a t e k2 :: s.fs } → stW_Machine_wait [.obj p, .tup [.str t.hs, t.d, e.m]] S (fun _ S1 => Q (.tup [p1.d, e.m, .non]) S1) E := fun {p1 k1 k2} hh hm2 z => by
    subst z
    have ef : frM (.a t e k2 :: s.fs) = addF false (.tup [.str t.hs, t.d, e.m]) (frM s.fs) := by rw [frM, hh, hm2]
    have en : nH (.a t e k2 :: s.fs) = nH s.fs := by rw [nH, hh]; simp
    obtain ⟨q0, r0, e0⟩ : ∃ q r, frM s.fs = q :: r := by
      cases z : frM s.fs with
      | nil => exact absurd z (frM_ne _)
      | cons q r => exact ⟨q, r, rfl⟩
    obtain ⟨hd, fr⟩ := q0
    cases as with
    | nil => have := h.hps.len; simp [LsM, e0] at this
    | cons a as =>
      refine wait_ok h (hd := hd) (fr := fr) (r := r0) e0 ?_ fun S' R => ?_
      · have := frM_fr s.fs (hd, fr) (by rw [e0]; simp)
        simp only at this
        omega
      · refine hQ S' ⟨pp, pc, a :: as, ?_⟩
        rw [show nH ({ s with cur := Cur.ev p1 e k1, fs := .a t e k2 :: s.fs } : LS).fs = nH s.fs from en, hmx]
        have : LsM { s with cur := Cur.ev p1 e k1, fs := .a t e k2 :: s.fs } kp mo = { LsM s kp mo with ps := (hd, .tup [.str t.hs, t.d, e.m] :: fr) :: r0 } := by
          unfold LsM
          simp only [ef, e0, addF]
        rw [this]
        exact R
  cases t with
  | num i => cases hs; simpa [startD, Tm.d, Val.m] using leaf rfl
  | flag b => cases hs; simpa [startD, Tm.d, Val.m] using leaf rfl
  | unit => cases hs; simpa [startD, Tm.d, Val.m, c_UNIT] using leaf rfl
  | name x =>
    simp only [into] at hs
    split at hs
    · rename_i v hv
      cases hs
      simp [startD, Tm.d]
      exact looked_ok (by omega) hv (leaf rfl)
    · cases hs
  | fn x b => cases hs; simpa [startD, Tm.d, Val.m] using leaf rfl
  | rc f x b =>
    have hf := hr f x b rfl
    cases hs
    simpa [startD, Tm.d, Val.m, hf] using leaf rfl
  | han e0 r b cs =>
    cases hs
    simp [-List.lookup_eq_none_iff, startD, Tm.d, h.ins]
    refine addp_ok (l := []) (by omega) h (by have := nH_le s.fs; simp [LsM, frM_len]; omega) rfl fun S' a R _ => hQ S' ⟨pp, pc, a :: as, ?_⟩
    have : LsM { s with cur := .ev e0 e ((tk.drop 1).take e0.cost), fs := .a (.han e0 r b cs) e (tk.drop (1 + e0.cost)) :: s.fs } kp (max mo (nH (.a (.han e0 r b cs) e (tk.drop (1 + e0.cost)) :: s.fs) + 1)) = { LsM s kp mo with ps := (.tup [.str r, b.d, .tup cs.d, e.m], ([] : List D).reverse) :: (LsM s kp mo).ps, most := max (LsM s kp mo).most ((LsM s kp mo).ps.length + 1) } := by
      simp [LsM, frM, addF, Fr.han, Fr.m, nH, frM_len]
    rw [this]
    exact R
  | _ =>
    cases hs
    have := wait rfl rfl rfl
    simp [-List.lookup_eq_none_iff, startD, Tm.d, h.ins, Tm.hs, in_tup, inD_cons, inD_nil] at this ⊢
    exact this
end
end Pg
/-! MM4: a clause answers. -/
namespace Pg
open PySem PySem.Spec PyProof.Rows L2 DL TM
def keptP (l : List (D × List D)) : List D := l.reverse.map fun q => .tup [q.1, .tup q.2.reverse]
theorem pcL_app : ∀ {a b : List Addr} {t u : List (D × List D)}, a.length = t.length → pcL (a ++ b) (t ++ u) = pcL b u ++ pcL a t
  | [], b, [], u, _ => by simp [pcL]
  | x :: a, b, y :: t, u, h => by
    rw [List.cons_append, List.cons_append, pcL, pcL_app (a := a) (t := t) (by simpa using h), pcL, List.append_assoc]
theorem pc_at {S : Store} {as : List Addr} {ps : List (D × List D)} (h : PsAt S as ps) : ∀ n, n < ps.length → ∃ (hd : D) (a : Addr) (fr : List D), (pcL as ps)[n]? = some (.tup [hd, .obj a]) ∧ S a = some (.lst fr.reverse) ∧ (keptP ps)[n]? = some (.tup [hd, .tup fr.reverse]) := by
  induction h with
  | nil => intro n hn; simp at hn
  | @cons a as hd fr ps h1 h2 ih =>
    intro n hn
    have e1 : pcL (a :: as) ((hd, fr) :: ps) = pcL as ps ++ [.tup [hd, .obj a]] := rfl
    have e2 : keptP ((hd, fr) :: ps) = keptP ps ++ [.tup [hd, .tup fr.reverse]] := by simp [keptP]
    have l1 := pcL_len h2.len
    have l2 : (keptP ps).length = ps.length := by simp [keptP]
    by_cases c : n < ps.length
    · obtain ⟨hd', a', fr', g1, g2, g3⟩ := ih n c
      exact ⟨hd', a', fr', by rw [e1, List.getElem?_append_left (by omega)]; exact g1, g2, by rw [e2, List.getElem?_append_left (by omega)]; exact g3⟩
    · have : n = ps.length := by simp at hn; omega
      subst this
      exact ⟨hd, a, fr, by rw [e1, List.getElem?_append_right (by omega), l1]; simp, h1, by rw [e2, List.getElem?_append_right (by omega), l2]; simp⟩
section
variable {S0 S : Store} {p pp pc : Addr} {as : List Addr} {K : Nat} {Q : QE} {E : XQ} {s : MS}
/-- the list of pieces is cut off into a new one -/
theorem MAt.cut {top bot : List (D × List D)} {ta ba : List Addr} (h : MAt S0 S p s pp pc (ta ++ ba)) (e : s.ps = top ++ bot) (hl : ta.length = top.length) {q : Addr} (hq : S q = none) {kp : Nat} :
    MAt S0 (DL.put (DL.put S q (.lst (pcL ba bot))) p (.ins 0 (mF s.left pp q kp s.most))) p { s with ps := bot, kept := kp } pp q ba := by
  obtain ⟨⟨n1, n2, n3⟩, ⟨m1, m2⟩, k1, k2⟩ := h.nds
  obtain ⟨a0, a1, a2, a3, a4⟩ := h.new hq
  have hb : PsAt S ba bot := by
    have hp := h.hps
    rw [e] at hp
    have : ∀ {ta : List Addr} {top : List (D × List D)}, ta.length = top.length → PsAt S (ta ++ ba) (top ++ bot) → PsAt S ba bot := fun {ta} => by
      induction ta with
      | nil => intro top hl h; cases top with | nil => exact h | cons => simp at hl
      | cons x ta ih =>
        intro top hl h
        cases top with
        | nil => simp at hl
        | cons y top => cases h with | cons h1 h2 => exact ih (by simpa using hl) h2
    exact this hl hp
  simp only [List.mem_append, not_or] at n3 m2 k1 a4
  refine ⟨put_same, ?_, ?_, ?_, ?_, fun x hx => ?_, fun y hy => ?_⟩
  · rw [put_ne n1.symm, put_ne a2.symm]; exact h.hpr
  · rw [put_ne a1, put_same]
  · exact hb.same fun x hx => by rw [put_ne (show x ≠ p from fun z => n3.2 (z ▸ hx)), put_ne (show x ≠ q from fun z => a4.2 (z ▸ hx))]
  · simp only [List.mem_cons, not_or, List.nodup_cons]
    exact ⟨⟨n1, a1.symm, n3.2⟩, ⟨a2.symm, m2.2⟩, a4.2, (List.nodup_append.mp k2).2.1⟩
  · simp only [List.mem_cons] at hx
    rcases hx with rfl | rfl | rfl | hx
    · exact h.fresh _ (by simp)
    · exact h.fresh _ (by simp)
    · exact a0
    · exact h.fresh _ (by simp [hx])
  · rw [put_ne fun z => by subst z; exact hy (h.fresh _ (by simp)), put_ne fun z => by subst z; exact hy a0]; exact h.old y hy
theorem answer_ok {top bot : List (D × List D)} {v e b : D} {o x kk : String} {pl : Nat} (hK : 1 ≤ K) (h : MAt S0 S p s pp pc as) (hps : s.ps = top ++ bot) (hb : bot.length = pl) (hp : 1 ≤ pl) (hl : s.ps.length < lim) (hfr : ∀ q ∈ top, q.2.length < lim)
    (hQ : ∀ S', MAtE S0 S' p { s with ps := bot, kept := s.kept + top.length } → Q (.tup [b, .tup [.str kk, .tup [.str "kept", .tup (keptP top)], .tup [.str x, v, e]], .non]) S') :
    go K .Machine_answer [.obj p, .int pl, .tup [.str o, .str x, .str kk, b], v, e] S Q E := by
  obtain ⟨j, rfl⟩ : ∃ j, K = j + 1 := ⟨K - 1, by omega⟩
  have len := h.hps.len
  rw [hps, List.length_append] at len
  obtain ⟨ta, ba, rfl, hta, hba⟩ : ∃ ta ba, as = ta ++ ba ∧ ta.length = top.length ∧ ba.length = bot.length := ⟨as.take top.length, as.drop top.length, (List.take_append_drop _ _).symm, by simp; omega, by simp; omega⟩
  have hc := h.hpc
  rw [hps, pcL_app hta] at hc
  have lb := pcL_len hba
  have lt := pcL_len hta
  rw [go_Machine_answer]
  unfold b_Machine_answer
  simp [-List.lookup_eq_none_iff, startD, h.ins]
  rw [slO_from hc (k := pl) (by simp [lb]; omega), List.drop_append_of_le_length (by omega), List.drop_of_length_le (by omega), List.nil_append]
  simp [-List.lookup_eq_none_iff, h.ins]
  rw [slM_to hc (by simp [lb]; omega), List.take_append_of_le_length (by omega), List.take_of_length_le (by omega)]
  intro q hq
  have hqp : q ≠ p := (h.new hq).2.1
  have i1 : insD (DL.put S q (.lst (pcL ba bot))) 0 (.obj p) = some (p, mF s.left pp pc s.kept s.most) := insD_obj (by rw [put_ne hqp.symm]; exact h.me)
  have R := h.cut hps hta hq (kp := s.kept + top.length)
  simp [-List.lookup_eq_none_iff, i1, augF', ins_put, put_put, lt]
  rw [show ((s.kept : Nat) : Int) + ((top.length : Nat) : Int) = ((s.kept + top.length : Nat) : Int) by omega, mf_put_kept]
  have ks : ∀ a ∈ ta, DL.put (DL.put S q (.lst (pcL ba bot))) p (.ins 0 (mF s.left pp q (s.kept + top.length) s.most)) a = S a := fun a ha => by
    have n3 := h.nds.1.2.2
    have a4 := (h.new hq).2.2.2.2
    simp only [List.mem_append, not_or] at n3 a4
    rw [put_ne (show a ≠ p from fun z => n3.1 (z ▸ ha)), put_ne (show a ≠ q from fun z => a4.1 (z ▸ ha))]
  generalize DL.put (DL.put S q (.lst (pcL ba bot))) p (.ins 0 (mF s.left pp q (s.kept + top.length) s.most)) = T at R ks ⊢
  have hT : PsAt T ta top := by
    have hp := h.hps
    rw [hps] at hp
    have : ∀ {ta : List Addr} {top : List (D × List D)}, ta.length = top.length → PsAt S (ta ++ ba) (top ++ bot) → PsAt S ta top := fun {ta} => by
      induction ta with
      | nil => intro top hl h; cases top with | nil => exact .nil | cons => simp at hl
      | cons x ta ih =>
        intro top hl h
        cases top with
        | nil => simp at hl
        | cons y top => cases h with | cons h1 h2 => exact .cons h1 (ih (by simpa using hl) h2)
    exact (this hta hp).same ks
  have wipe : wipeD [some (.obj p), some (.int pl), some (.tup [.str o, .str x, .str kk, b]), some v, some e, some (.lst (pcL ta top)), none, none, none, none] [7, 8] = [some (.obj p), some (.int pl), some (.tup [.str o, .str x, .str kk, b]), some v, some e, some (.lst (pcL ta top)), none, none, none, none] := by simp [wipeD]
  rw [wipe]
  refine lc_ind (I := fun L acc σ S' => S' = T ∧ ∃ n, n ≤ top.length ∧ L = (pcL ta top).drop n ∧ acc = (keptP top).take n ∧ σ = [some (.obj p), some (.int pl), some (.tup [.str o, .str x, .str kk, b]), some v, some e, some (.lst (pcL ta top)), none, none, none, none]) (fun _ _ _ _ ⟨z, _⟩ => by subst z; simp [keepL]) ?st ?fn ⟨rfl, 0, Nat.zero_le _, rfl, rfl, rfl⟩
  case fn =>
    rintro acc σ S' ⟨rfl, n, hn, e1, rfl, rfl⟩
    have : n = top.length := by
      have := congrArg List.length e1
      simp [lt] at this
      omega
    subst this
    rw [List.take_of_length_le (by simp [keptP])]
    exact hQ _ ⟨pp, q, ba, R⟩
  case st =>
    rintro y r acc σ S' N ⟨rfl, n, hn, e1, rfl, rfl⟩ hN
    have hlt : n < top.length := by
      have := congrArg List.length e1
      simp [lt] at this
      omega
    obtain ⟨hd, a, fr, g1, g2, g3⟩ := pc_at hT n hlt
    rw [List.drop_eq_getElem_cons (by omega)] at e1
    injection e1 with e2 e3
    have ey : y = .tup [hd, .obj a] := by
      rw [List.getElem?_eq_getElem (by omega)] at g1
      rw [e2]; exact Option.some.inj g1
    subst ey
    have lk : (keptP top).length = top.length := by simp [keptP]
    have ls : s.ps.length = top.length + bot.length := by rw [hps]; simp
    simp [CT.g, bTuple, asQ, asL_obj g2]
    refine ⟨by rw [lk]; omega, ?_⟩
    refine hN _ _ _ ⟨rfl, n + 1, hlt, e3, ?_, rfl⟩
    rw [List.take_add_one, g3]; rfl
end
end Pg
/-! MM5: an ask looks for its handler. -/
namespace Pg
open PySem PySem.Spec PyProof.Rows L2 DL TM
theorem keptP_frM {i : List Fr} : keptP (frM i).dropLast = keptD (frM i) := rfl
theorem revD_1 (n : Nat) : revD 1 (n + 1) = .int ((n + 1 : Nat) : Int) :: revD 1 n := by
  unfold revD
  rw [List.range_succ_eq_map, List.map_cons, List.map_map]
  congr 1
  · congr 1
    simp
    try omega
  · apply List.map_congr_left
    intro i _
    simp
    try omega
/-- a handler's place -/
theorem han_at {S : Store} {as : List Addr} {fs : List Fr} (h : PsAt S as (frM fs)) {m : Nat} {hh : String × TM.Tm × Cls × TM.Env} (hm : (hans fs)[m]? = some hh) : ∃ a, (pcL as (frM fs))[nH fs - m]? = some (.tup [hD hh, .obj a]) := by
  have hl : m < nH fs := by rw [← hans_len]; exact (List.getElem?_eq_some_iff.mp hm).1
  have len := frM_len fs
  obtain ⟨hd, a, fr, g1, g2, g3⟩ := pc_at h (nH fs - m) (by omega)
  refine ⟨a, ?_⟩
  rw [g1]
  have e : ((frM fs).map (·.1))[m]? = some (hD hh) := by
    rw [frM_hans, List.getElem?_append_left (by rw [List.length_map, hans_len]; exact hl), List.getElem?_map, hm]; rfl
  unfold keptP at g3
  rw [List.getElem?_map, List.getElem?_reverse (by omega), show (frM fs).length - 1 - (nH fs - m) = m by omega] at g3
  rw [List.getElem?_map] at e
  cases z : (frM fs)[m]? with
  | none => rw [z] at g3; cases g3
  | some q =>
    rw [z] at g3 e
    simp at g3 e
    rw [← g3.1, e]
section
variable {S0 S : Store} {p pp pc : Addr} {as : List Addr} {K : Nat} {Q : QE} {E : XQ}
theorem ask_ok {s s' : LS} {o : String} {v : Val} {kp mo : Nat} (hK : 2 ≤ K) (h : MAt S0 S p (LsM s kp mo) pp pc as) (hl : s.fs.length + 10 < lim) (hs : askV s o v = some s')
    (hE : ∀ r S', s'.cur = .dn r → MAtE S0 S' p (LsM s' kp mo) → E ⟨1, [("end", resD r)]⟩ S')
    (hQ : ∀ S', (∀ r, s'.cur ≠ .dn r) → MAtE S0 S' p (LsM s' (kp + (nH s.fs - nH s'.fs)) mo) → Q (.tup s'.cur.m) S') : go K .Machine_ask [.obj p, .str o, v.m] S Q E := by
  obtain ⟨k, rfl⟩ : ∃ k, K = k + 1 := ⟨K - 1, by omega⟩
  rw [go_Machine_ask]
  unfold b_Machine_ask
  unfold askV at hs
  simp [-List.lookup_eq_none_iff, startD, h.ins]
  refine mstep_ok (K := k) (by omega) h (fun h0 => ?_) fun l hl1 S1 R1 => ?_
  · have h0' : s.left = 0 := h0
    rw [if_pos h0'] at hs
    cases hs
    exact hE .steps S rfl ⟨pp, pc, as, h⟩
  have hl1' : s.left = l + 1 := hl1
  rw [if_neg (by omega)] at hs
  have len := R1.hps.len
  have len2 := pcL_len len
  have fl := frM_len s.fs
  simp only [LsM] at R1 len len2
  simp [-List.lookup_eq_none_iff, iRvR, rg2, R1.ins, lenD_obj R1.hpc, len2]
  rw [fl]
  have sh := split_hans (o := o) (fs := s.fs)
  refine ⟨by have := nH_le s.fs; have : lim = 16777216 := rfl; omega, ?_⟩
  rw [Nat.add_sub_cancel]
  have hn := hans_len s.fs
  refine for_ind (I := fun L σ S' => S' = S1 ∧ ∃ m v3 v4 v5 v6 v7 v8, m ≤ nH s.fs ∧ L = revD 1 (nH s.fs - m) ∧ (∀ h ∈ (hans s.fs).take m, h.2.2.1.find o = none) ∧ σ = [some (.obj p), some (.str o), some v.m, v3, v4, v5, v6, v7, v8])
    (fun _ _ _ _ => trivial) ?st ?fn ⟨rfl, 0, none, none, none, none, none, none, Nat.zero_le _, rfl, fun h z => (by cases z), rfl⟩
  case fn =>
    rintro σ S' ⟨rfl, m, v3, v4, v5, v6, v7, v8, hm, e1, hno, rfl⟩
    have : m = nH s.fs := by
      cases z : nH s.fs - m with
      | zero => omega
      | succ n => rw [z, revD_1] at e1; cases e1
    subst this
    rw [← hn, List.take_length] at hno
    cases es : split o s.fs with
    | some q =>
      obtain ⟨i, e, c, out⟩ := q
      rw [es] at sh
      obtain ⟨_, _, _, r, b, cs, h4, h5⟩ := sh
      have := hno _ (List.mem_of_getElem? h4)
      rw [this] at h5; cases h5
    | none =>
      rw [es] at hs
      cases hs
      simp
      refine hE (.unhandled o) S' rfl ⟨pp, pc, as, ?_⟩
      rw [show LsM { s with cur := .dn (.unhandled o), left := s.left - 1 } kp mo = { left := l, pr := s.pr, ps := frM s.fs, kept := kp, most := mo } by simp [LsM, hl1']]
      exact R1
  case st =>
    rintro x r σ S' N ⟨rfl, m, v3, v4, v5, v6, v7, v8, hm, e1, hno, rfl⟩ hN
    obtain ⟨n, en⟩ : ∃ n, nH s.fs - m = n + 1 := by
      cases z : nH s.fs - m with
      | zero => rw [z] at e1; cases e1
      | succ n => exact ⟨n, rfl⟩
    rw [en, revD_1] at e1
    injection e1 with e2 e3
    subst e2 e3
    obtain ⟨hh, hhm⟩ : ∃ hh, (hans s.fs)[m]? = some hh := ⟨_, List.getElem?_eq_getElem (by omega)⟩
    obtain ⟨a, ha⟩ := han_at R1.hps hhm
    rw [en] at ha
    obtain ⟨rn, bd, cs, ev⟩ := hh
    have ha' : atI (pcL as (frM s.fs)) ((n : Int) + 1) = some (.tup [hD (rn, bd, cs, ev), .obj a]) := by
      have := DL.atI_nat ha
      simpa using this
    simp [-List.lookup_eq_none_iff, R1.ins, asL_obj R1.hpc, ha', hD]
    have next : cs.find o = none → ∀ {v3 v4 v5 v6 v7 v8}, N [some (.obj p), some (.str o), some v.m, v3, v4, v5, v6, v7, v8] S' := fun hc {v3 v4 v5 v6 v7 v8} => by
      refine hN _ _ ⟨rfl, m + 1, v3, v4, v5, v6, v7, v8, by omega, by rw [show nH s.fs - (m + 1) = n by omega], ?_, rfl⟩
      rw [List.take_add_one, hhm]
      intro h hh
      rcases List.mem_append.mp hh with hh | hh
      · exact hno h hh
      · simp at hh; subst hh; exact hc
    refine for_ind (I := fun L σ S'' => S'' = S' ∧ ∃ cs' v8, L = cs'.d ∧ cs.find o = cs'.find o ∧ σ = [some (.obj p), some (.str o), some v.m, some (.int ((n : Int) + 1)), some (.str rn), some bd.d, some (.tup cs.d), some ev.m, v8])
      (fun _ _ _ _ => trivial) ?st2 ?fn2 ⟨rfl, cs, _, rfl, rfl, rfl⟩
    case fn2 =>
      rintro σ S'' ⟨rfl, cs', v8', e4, e5, rfl⟩
      cases cs' with
      | cons o' x' k' b' r' => rw [Cls.d] at e4; cases e4
      | nil => exact next (by rw [e5]; rfl)
    case st2 =>
      rintro x R σ S'' N' ⟨rfl, cs', v8', e4, e5, rfl⟩ hN'
      cases cs' with
      | nil => cases e4
      | cons o' x' k' b' r' =>
        rw [Cls.d] at e4
        cases e4
        simp [-List.lookup_eq_none_iff]
        by_cases eo : o' = o
        · subst eo
          simp [-List.lookup_eq_none_iff, R1.ins]
          have ec : cs.find o' = some (x', k', b') := by rw [e5, Cls.find, if_pos rfl]
          have hx : (rn, bd, cs, ev) ∈ hans s.fs := List.mem_of_getElem? hhm
          cases es : split o' s.fs with
          | none =>
            rw [es] at sh
            have : cs.find o' = none := sh _ hx
            rw [this] at ec; cases ec
          | some q =>
            obtain ⟨i, e, ⟨x2, k2, b2⟩, out⟩ := q
            rw [es] at sh hs
            obtain ⟨f1, f2, f3, r3, b3, cs3, f4, f5⟩ := sh
            have hm2 : nH i - 1 = m := by
              rcases Nat.lt_trichotomy (nH i - 1) m with c | c | c
              · have : (r3, b3, cs3, e) ∈ (hans s.fs).take m := List.mem_of_getElem? (i := nH i - 1) (by rw [List.getElem?_take_of_lt c]; exact f4)
                have := hno _ this
                simp only at this
                rw [this] at f5; cases f5
              · exact c
              · have : (rn, bd, cs, ev) ∈ (hans s.fs).take (nH i - 1) := List.mem_of_getElem? (i := m) (by rw [List.getElem?_take_of_lt c]; exact hhm)
                have := f3 _ this
                simp only at this
                rw [this] at ec; cases ec
            rw [hm2, hhm] at f4
            cases f4
            rw [ec] at f5
            cases f5
            cases hs
            have hi := f2.pos
            have hnn : nH s.fs = nH i + nH out := by rw [f1, nH_app]
            have hfr := frM_fr s.fs
            have efr : frM s.fs = (frM i).dropLast ++ frM out := by rw [f1, frM_app f2]
            have eo : frM out ≠ [] := frM_ne out
            rw [show ((n : Int) + 1) = ((n + 1 : Nat) : Int) by omega]
            refine answer_ok (top := (frM i).dropLast) (bot := frM out) (pl := n + 1) (by omega) R1 efr (by rw [frM_len]; omega) (by omega) (by show (frM s.fs).length < lim; have := nH_le s.fs; omega) (fun q hq => ?_) fun S' R' => ?_
            · have := hfr q (by rw [efr]; simp [hq])
              omega
            · refine hQ S' (fun r z => by cases z) ?_
              have e1 : (frM i).dropLast.length = nH i := dl_len
              rw [e1] at R'
              rw [show nH s.fs - nH out = nH i by omega]
              rw [show LsM { s with cur := .ev b' (.cons k' (.kept i) (.cons x' v ev)) (TM.fresh s.nx b'.cost), fs := out, left := s.left - 1, an := s.an ++ [(o', x', k', b')], nx := s.nx + b'.cost } (kp + nH i) mo = { left := l, pr := s.pr, ps := frM out, kept := kp + nH i, most := mo } by simp [LsM, hl1']]
              exact R'
        · simp [eo]
          exact hN' _ _ ⟨rfl, r', _, rfl, by rw [e5, Cls.find, if_neg eo], rfl⟩
end
end Pg
/-! MM6: calls; a handler ends. -/
namespace Pg
open PySem PySem.Spec PyProof.Rows L2 DL TM
section
variable {S0 S : Store} {p pp pc : Addr} {as : List Addr} {K : Nat} {Q : QE} {E : XQ}
/-- the pieces of a resumption -/
theorem addall_ok {s : MS} {j : Nat} {E1 : DX → DEnv → Store → Prop} {D' : DEnds} {g ps0 : List (D × List D)} (hK : 2 ≤ j) (h : MAtE S0 S p s) (hps : s.ps = ps0) (hl : g.length + ps0.length + 1 < lim)
    {σ : DEnv} (e0 : σ[0]? = some (some (.obj p))) (hσ : σ.length = 6) (hm : ps0.length ≤ s.most)
    (hQ : ∀ σ' S', (∀ i, i < 3 ∨ i = 5 → σ'[i]? = σ[i]?) → MAtE S0 S' p { s with ps := g ++ ps0, most := max s.most (g ++ ps0).length } → D'.nx σ' S') :
    forL (fun _ => True) (gTp 2 (gsC (gN 3) (gsC (gN 4) gsN))) (dDrop (dMeth 0 "add_piece" (go j .Machine_add_piece) E1 (dVar 0) (dCons (dVar 3) (dCons (dVar 4) dNil)))) (keptP g) D' σ S := by
  refine for_indM (fun q : D × List D => D.tup [q.1, .tup q.2.reverse]) (fun d r σ' S' => σ'.length = 6 ∧ (∀ i, i < 3 ∨ i = 5 → σ'[i]? = σ[i]?) ∧ MAtE S0 S' p { s with ps := d.reverse ++ ps0, most := max s.most (d.reverse ++ ps0).length }) g.reverse (fun _ _ _ _ _ => trivial) ?_ ?_ ⟨hσ, fun _ _ => rfl, ?_⟩
  · rintro d x r σ' S' N e ⟨hl', hs, pp, pc, as, hR⟩ hN
    have len : d.length + 1 + r.length = g.length := by
      have := congrArg List.length e
      simp at this
      omega
    have g0 : ∀ {a b : Option D}, ((σ'.set 3 a).set 4 b)[0]? = some (some (.obj p)) := by intros; simp [hs 0 (.inl (by omega)), e0]
    have g3 : ∀ {a b : Option D}, ((σ'.set 3 a).set 4 b)[3]? = some a := by intros; simp [hl']
    have g4 : ∀ {a b : Option D}, ((σ'.set 3 a).set 4 b)[4]? = some b := by intros; simp [hl']
    simp only [r_gTp, r_gsC, r_gsN, r_gN, r_drop, r_meth, r_var, g0, g3, g4, r_cons, r_nil, hR.ins, r_ofO, mf_no_add_piece]
    refine ⟨rfl, trivial, trivial, ?_⟩
    refine addp_ok (K := j) (l := x.2.reverse) (by omega) hR (by simp; omega) rfl fun S2 a R2 _ => ?_
    refine hN _ _ ⟨by simpa using hl', fun i hi => ?_, pp, pc, a :: as, ?_⟩
    · rw [List.getElem?_set_ne (by omega), List.getElem?_set_ne (by omega)]; exact hs i hi
    · rw [List.reverse_reverse] at R2
      have : ({ s with ps := (d ++ [x]).reverse ++ ps0, most := max s.most ((d ++ [x]).reverse ++ ps0).length } : MS) = { s with ps := x :: (d.reverse ++ ps0), most := max (max s.most (d.reverse ++ ps0).length) ((d.reverse ++ ps0).length + 1) } := by
        simp
      rw [this]
      exact R2
  · rintro σ' S' ⟨_, hs, hR⟩
    rw [List.reverse_reverse] at hR
    exact hQ σ' S' hs hR
  · subst hps
    simp
    rw [Nat.max_eq_left hm]
    exact h
theorem call_ok {s s' : LS} {u v : Val} {kp mo : Nat} (hK : 3 ≤ K) (h : MAt S0 S p (LsM s kp mo) pp pc as) (hm : nH s.fs + 1 ≤ mo) (hu : ∀ g, u = .kept g → endsH g) (hs : callV s u v = some s') (hl : (∀ r, s'.cur ≠ .dn r) → s'.fs.length + 10 < lim)
    (hE : ∀ r S', s'.cur = .dn r → MAtE S0 S' p (LsM s' kp mo) → E ⟨1, [("end", resD r)]⟩ S')
    (hQ : ∀ S', (∀ r, s'.cur ≠ .dn r) → MAtE S0 S' p (LsM s' kp (max mo (nH s'.fs + 1))) → Q (.tup s'.cur.m) S') : go K .Machine_call [.obj p, u.m, v.m] S Q E := by
  obtain ⟨k, rfl⟩ : ∃ k, K = k + 1 := ⟨K - 1, by omega⟩
  rw [go_Machine_call]
  unfold b_Machine_call
  unfold callV at hs
  have hmx : max mo (nH s.fs + 1) = mo := by omega
  simp [-List.lookup_eq_none_iff, startD, h.ins]
  refine mstep_ok (K := k) (by omega) h (fun h0 => ?_) fun l hl1 S1 R1 => ?_
  · have h0' : s.left = 0 := h0
    rw [if_pos h0'] at hs
    cases hs
    exact hE .steps S rfl ⟨pp, pc, as, h⟩
  have hl1' : s.left = l + 1 := hl1
  rw [if_neg (by omega)] at hs
  simp only [LsM] at R1
  cases u with
  | kept g =>
    cases hs
    have hg := hu g rfl
    have hl := hl (fun r z => by cases z)
    simp [-List.lookup_eq_none_iff, Val.m]
    have efr : frM (g ++ s.fs) = (frM g).dropLast ++ frM s.fs := frM_app hg
    have n1 := nH_le (g ++ s.fs)
    have l1 := frM_len (g ++ s.fs)
    have l2 := frM_len s.fs
    have l3 := congrArg List.length efr
    rw [List.length_append] at l3
    simp only at hl
    rw [← keptP_frM]
    refine addall_ok (g := (frM g).dropLast) (ps0 := frM s.fs) (by omega) ⟨pp, pc, as, R1⟩ rfl (by omega) rfl rfl (by rw [l2]; exact hm) fun σ' S2 hσ R2 => ?_
    have e2 : σ'[2]? = some (some v.m) := hσ 2 (.inl (by omega))
    simp [e2]
    refine hQ S2 (fun r z => by cases z) ?_
    rw [show LsM { s with cur := .rt v, fs := g ++ s.fs, left := s.left - 1 } kp (max mo (nH (g ++ s.fs) + 1)) = { left := l, pr := s.pr, ps := (frM g).dropLast ++ frM s.fs, kept := kp, most := max mo ((frM g).dropLast ++ frM s.fs).length } by
      rw [← efr, l1]; simp [LsM, hl1']]
    exact R2
  | fn f x b e =>
    cases hs
    have fin : ∀ {d : D}, d = .tup (TM.Cur.ev b (.cons x v (if f = "" then e else .cons f (.fn f x b e) e)) (TM.fresh s.nx b.cost)).m → Q d S1 := fun {d} z => by
      subst z
      refine hQ S1 (fun r z => by cases z) ⟨pp, pc, as, ?_⟩
      rw [show nH ({ s with cur := .ev b (.cons x v (if f = "" then e else .cons f (.fn f x b e) e)) (TM.fresh s.nx b.cost), left := s.left - 1, nx := s.nx + b.cost } : LS).fs = nH s.fs from rfl, hmx]
      rw [show LsM { s with cur := .ev b (.cons x v (if f = "" then e else .cons f (.fn f x b e) e)) (TM.fresh s.nx b.cost), left := s.left - 1, nx := s.nx + b.cost } kp mo = { left := l, pr := s.pr, ps := frM s.fs, kept := kp, most := mo } by simp [LsM, hl1']]
      exact R1
    by_cases hf : f = ""
    · subst hf
      simp [-List.lookup_eq_none_iff, Val.m]
      exact fin (by simp [TM.Cur.m, Env.m])
    · simp [-List.lookup_eq_none_iff, Val.m, hf]
      exact fin (by simp [TM.Cur.m, Env.m, Val.m, hf])
  | _ => cases hs
theorem handled_ok {s : LS} {fs : List Fr} {e0 b : TM.Tm} {r : String} {cs : Cls} {e : TM.Env} {tk : List Nat} {v : Val} {kp mo : Nat} (hK : 1 ≤ K) (h : MAt S0 S p (LsM s kp mo) pp pc as) (hf : s.fs = .a (.han e0 r b cs) e tk :: fs)
    (hQ : ∀ S', MAtE S0 S' p (LsM { s with fs := fs } kp mo) → Q (.tup [b.d, .tup [.str r, v.m, e.m], .non]) S') : go K .Machine_handled [.obj p, v.m] S Q E := by
  obtain ⟨k, rfl⟩ : ∃ k, K = k + 1 := ⟨K - 1, by omega⟩
  rw [go_Machine_handled]
  unfold b_Machine_handled
  have efr : frM s.fs = (.tup [.str r, b.d, .tup cs.d, e.m], []) :: frM fs := by rw [hf]; rfl
  have len := h.hps.len
  cases as with
  | nil => rw [show (LsM s kp mo).ps = frM s.fs from rfl, efr] at len; simp at len
  | cons a as =>
    have hc := h.hpc
    rw [show (LsM s kp mo).ps = frM s.fs from rfl, efr, pcL] at hc
    simp [-List.lookup_eq_none_iff, startD, h.ins, tyD_lst hc, pop_obj hc]
    refine hQ _ ⟨pp, pc, as, ?_⟩
    have := h.down (q := (.tup [.str r, b.d, .tup cs.d, e.m], [])) (r := frM fs) efr
    exact this
end
end Pg
/-! MM7: a value is given to what waits. -/
namespace Pg
open PySem PySem.Spec PyProof.Rows L2 DL TM
def operM (s : String) (i j : Int) : Option D := (oper s i j).map Val.m
theorem calculated_ok {K : Nat} {S : Store} {Q : QE} {E : XQ} {s : String} {τ : TM.Ty} {i j : Int} {w : Val} (hK : 1 ≤ K) (hi : i.natAbs < 2 ^ 32) (hj : j.natAbs < 2 ^ 32) (hs : Sg s τ) (h : oper s i j = some w) (hQ : Q w.m S) : go K .calculated [.str s, .int i, .int j] S Q E := by
  obtain ⟨k, rfl⟩ : ∃ k, K = k + 1 := ⟨K - 1, by omega⟩
  rw [go_calculated]
  unfold b_calculated
  have cm : CMul i j := .inl ⟨by omega, by omega⟩
  have c2 : CMul 2 2147483648 := .inl ⟨by decide, by decide⟩
  cases hs with
  | add => simp [oper] at h; subst h; simp [startD, c_HALF, dPairs, cm, List.lookup]; exact ⟨c2, hQ⟩
  | sub => simp [oper] at h; subst h; simp [startD, c_HALF, dPairs, cm, List.lookup]; exact ⟨c2, hQ⟩
  | mul => simp [oper] at h; subst h; simp [startD, c_HALF, cm, dPairs, List.lookup]; exact ⟨c2, hQ⟩
  | lt => simp [oper] at h; subst h; simp [startD]; exact hQ
  | eq => simp [oper] at h; subst h; simp [startD]; exact hQ
section
variable {S0 S : Store} {p pp pc : Addr} {as : List Addr} {K : Nat} {Q : QE} {E : XQ}
theorem took_an {s s' : LS} (h : s'.an = s.an) : took s s' = 0 := by unfold took; rw [h]; simp
theorem resume_ok {s s' : LS} {f : Fr} {v : Val} {kp mo : Nat} (hK : 4 ≤ K) (h : MAt S0 S p (LsM s kp mo) pp pc as) (hm : nH s.fs + 1 ≤ mo) (hs : back s f v = some s') (hl0 : s.fs.length + 10 < lim) (hl : (∀ r, s'.cur ≠ .dn r) → s'.fs.length + 10 < lim) (hpr : s.pr.length < lim) (hh : f.han = false)
    (hu : ∀ t e u k, f = .b t e u k → ∀ g, u = .kept g → endsH g) (hop : ∀ o a b e u k, f = .b (.op o a b) e u k → (∃ τ, Sg o τ) ∧ (∀ i, u = .int i → i.natAbs < 2 ^ 32) ∧ ∀ j, v = .int j → j.natAbs < 2 ^ 32)
    (hE : ∀ r S', s'.cur = .dn r → MAtE S0 S' p (LsM s' kp mo) → E ⟨1, [("end", resD r)]⟩ S')
    (hQ : ∀ S', (∀ r, s'.cur ≠ .dn r) → MAtE S0 S' p (LsM s' (kp + took s s') (max mo (nH s'.fs + 1))) → Q (.tup s'.cur.m) S') : go K .Machine_resume [.obj p, f.m, v.m] S Q E := by
  obtain ⟨k, rfl⟩ : ∃ k, K = k + 1 := ⟨K - 1, by omega⟩
  have hmx : max mo (nH s.fs + 1) = mo := by omega
  rw [go_Machine_resume]
  unfold b_Machine_resume
  -- nothing but what goes on changes
  have same : ∀ {c : TM.Cur}, (∀ r, c ≠ .dn r) → s' = { s with cur := c } → Q (.tup c.m) S := fun {c} hc z => by
    subst z
    refine hQ S hc ⟨pp, pc, as, ?_⟩
    rw [took_an, hmx]
    · exact h
    · rfl
  have wait : ∀ {t : TM.Tm} {e : TM.Env} {k2 : List Nat} {c : TM.Cur} {ds : List D}, (∀ r, c ≠ .dn r) → (Fr.b t e v k2).m = .tup ds → s' = { s with cur := c, fs := .b t e v k2 :: s.fs } → stW_Machine_wait [.obj p, .tup ds] S (fun _ S1 => Q (.tup c.m) S1) E := fun {t e k2 c ds} hc hm2 z => by
    subst z
    have ef : frM (.b t e v k2 :: s.fs) = addF false (.tup ds) (frM s.fs) := by rw [frM, hm2]; rfl
    have en : nH (.b t e v k2 :: s.fs) = nH s.fs := by simp [nH, Fr.han]
    obtain ⟨q0, r0, e0⟩ : ∃ q r, frM s.fs = q :: r := by
      cases z : frM s.fs with
      | nil => exact absurd z (frM_ne _)
      | cons q r => exact ⟨q, r, rfl⟩
    obtain ⟨hd, fr⟩ := q0
    cases as with
    | nil => have := h.hps.len; simp [LsM, e0] at this
    | cons a as =>
      refine wait_ok h (hd := hd) (fr := fr) (r := r0) e0 ?_ fun S' R => ?_
      · have := frM_fr s.fs (hd, fr) (by rw [e0]; simp)
        simp only at this
        omega
      · refine hQ S' hc ⟨pp, pc, a :: as, ?_⟩
        rw [took_an, show nH ({ s with cur := c, fs := .b t e v k2 :: s.fs } : LS).fs = nH s.fs from en, hmx]
        · have : LsM { s with cur := c, fs := .b t e v k2 :: s.fs } (kp + 0) mo = { LsM s kp mo with ps := (hd, .tup ds :: fr) :: r0 } := by
            unfold LsM
            simp only [ef, e0, addF]
            rfl
          rw [this]
          exact R
        · rfl
  cases f with
  | a t e tk =>
    cases t with
    | call a b =>
      cases hs
      have := wait (c := .ev b e ((tk.drop 1).take b.cost)) (fun r z => by cases z) rfl rfl
      simp [-List.lookup_eq_none_iff, startD, Fr.m, Tm.d, Tm.hs, h.ins, show ("call" ++ "2" : String) = "call2" from rfl] at this ⊢
      exact ⟨by decide, this⟩
    | pair a b =>
      cases hs
      have := wait (c := .ev b e ((tk.drop 1).take b.cost)) (fun r z => by cases z) rfl rfl
      simp [-List.lookup_eq_none_iff, startD, Fr.m, Tm.d, Tm.hs, h.ins, show ("pair" ++ "2" : String) = "pair2" from rfl] at this ⊢
      exact ⟨by decide, this⟩
    | op o a b =>
      cases hs
      have := wait (c := .ev b e ((tk.drop 1).take b.cost)) (fun r z => by cases z) rfl rfl
      simp [-List.lookup_eq_none_iff, startD, Fr.m, Tm.d, Tm.hs, h.ins] at this ⊢
      exact this
    | lt x a b =>
      cases hs
      have := same (c := .ev b (.cons x v e) (tk.drop 1)) (fun r z => by cases z) rfl
      simpa [startD, Fr.m, Tm.d, Tm.hs, TM.Cur.m, Env.m] using this
    | ite a b c =>
      cases v with
      | bool q =>
        cases hs
        have := same (c := .ev (if q then b else c) e (tk.drop 1)) (fun r z => by cases z) rfl
        cases q <;> simpa [startD, Fr.m, Tm.d, Tm.hs, TM.Cur.m, Val.m] using this
      | _ => cases hs
    | prt a b =>
      cases v with
      | int i =>
        cases hs
        simp [-List.lookup_eq_none_iff, startD, Fr.m, Tm.d, Tm.hs, Val.m, h.ins, tyD_lst h.hpr, app_obj h.hpr]
        refine ⟨hpr, hQ _ (fun r z => by cases z) ⟨pp, pc, as, ?_⟩⟩
        rw [took_an, hmx]
        · have := h.prq (pr := s.pr ++ [i])
          rw [List.map_append] at this
          exact this
        · rfl
      | _ => cases hs
    | ask o a =>
      change askV s o v = some s' at hs
      simp [-List.lookup_eq_none_iff, startD, Fr.m, Tm.d, Tm.hs, h.ins]
      refine ask_ok (K := k) (by omega) h hl0 hs hE fun S' hc R => ?_
      refine hQ S' hc ?_
      have : nH s'.fs ≤ nH s.fs ∧ took s s' = nH s.fs - nH s'.fs := by
        unfold askV at hs
        split at hs
        · cases hs; exact absurd rfl (hc .steps)
        · split at hs
          · rename_i i e' x k' b' out es
            have sh := split_hans (o := o) (fs := s.fs)
            rw [es] at sh
            cases hs
            have e1 := sh.1
            have : nH s.fs = nH i + nH out := by rw [e1, nH_app]
            exact ⟨by show nH out ≤ _; omega, by unfold took; simp⟩
          · cases hs; exact absurd rfl (hc (.unhandled o))
      rw [this.2, show max mo (nH s'.fs + 1) = mo by omega]
      exact R
    | nt a =>
      cases v with
      | bool q =>
        cases hs
        have := same (c := .rt (.bool !q)) (fun r z => by cases z) rfl
        simpa [startD, Fr.m, Tm.d, Tm.hs, TM.Cur.m, Val.m] using this
      | _ => cases hs
    | fst a =>
      cases v with
      | pair x y =>
        cases hs
        have := same (c := .rt x) (fun r z => by cases z) rfl
        simpa [startD, Fr.m, Tm.d, Tm.hs, TM.Cur.m, Val.m, bInt] using this
      | _ => cases hs
    | snd a =>
      cases v with
      | pair x y =>
        cases hs
        have := same (c := .rt y) (fun r z => by cases z) rfl
        simpa [startD, Fr.m, Tm.d, Tm.hs, TM.Cur.m, Val.m, bInt] using this
      | _ => cases hs
    | han => cases hh
    | _ => cases hs
  | b t e u tk =>
    cases t with
    | op o a b =>
      simp only [back] at hs
      split at hs
      · rename_i i j
        split at hs
        · rename_i w hw
          cases hs
          obtain ⟨⟨τ, ht⟩, h1, h2⟩ := hop o a b e _ tk rfl
          simp [-List.lookup_eq_none_iff, startD, Fr.m, Val.m]
          refine calculated_ok (K := k) (by omega) (h1 i rfl) (h2 j rfl) ht hw ?_
          exact same (c := .rt w) (fun r z => by cases z) rfl
        · cases hs
      · cases hs
    | pair a b =>
      cases hs
      have := same (c := .rt (.pair u v)) (fun r z => by cases z) rfl
      simpa [startD, Fr.m, TM.Cur.m, Val.m] using this
    | call a b =>
      change callV s u v = some s' at hs
      simp [-List.lookup_eq_none_iff, startD, Fr.m, h.ins]
      refine call_ok (K := k) (by omega) h hm (hu _ _ _ _ rfl) hs hl hE fun S' hc R => hQ S' hc ?_
      have : took s s' = 0 := by
        unfold callV at hs
        split at hs
        · cases hs; exact took_an rfl
        · split at hs
          · cases hs; exact took_an rfl
          · cases hs; exact took_an rfl
          · cases hs
      rw [this]
      exact R
    | _ => cases hs
end
end Pg
/-! MM8: the machine runs. -/
namespace Pg
open PySem PySem.Spec PyProof.Rows L2 DL TM
theorem dn_res {u : LS} {r : Res} (h : u.cur = .dn r) : u.res = some r := by unfold LS.res; rw [h]
theorem stuck_dn {s s' : LS} (h : s.step = some s') : ∀ r, s.cur ≠ .dn r := fun r z => by
  have := step_res h
  rw [dn_res z] at this
  cases this
theorem tru_obj {S : Store} {a : Addr} {l : List D} (h : S a = some (.lst l)) : truD S (.obj a) = some (!l.isEmpty) := by simp [truD, asL_obj h]
section
variable {S0 S : Store} {p : Addr} {K : Nat} {Q : QE} {E : XQ} {ops : Ops} {τ : TM.Ty} {M : Nat}
/-- one turn: an expression is begun, a value is given, a handler ends -/
theorem turn_ok {s s' : LS} {kp mo : Nat} (hK : 5 ≤ K) (hM : M + 100 < lim) (h : MAtE S0 S p (LsM s kp mo)) (hm : nH s.fs + 1 ≤ mo) (hs : s.step = some s') (hp : Pb ops τ M s) (hp' : Pb ops τ M s') (ha : SA (fun _ => True) s)
    {c0 c1 c2 : D} {x v5 : Option D} (hc : s.cur.m = [c0, c1, c2]) {N : DEnv → Store → Prop} {B : DEnds}
    (hE : ∀ r S', s'.cur = .dn r → MAtE S0 S' p (LsM s' kp mo) → E ⟨1, [("end", resD r)]⟩ S')
    (hN : ∀ S' c0' c1' c2' v5', (∀ r, s'.cur ≠ .dn r) → MAtE S0 S' p (LsM s' (kp + took s s') (max mo (nH s'.fs + 1))) → s'.cur.m = [c0', c1', c2'] → N [some (.obj p), x, some c0', some c1', some c2', v5'] S') :
    (dIfS (dTest (dOp dIsNot (dVar 2) (dC .non))) (dAsg (dMeth 0 "begin" (go K .Machine_begin) (fun x _ S1 => E x S1) (dVar 0) (dCons (dVar 2) (dCons (dVar 3) dNil))) (gTp 3 (gsC (gN 2) (gsC (gN 3) (gsC (gN 4) gsN))))) (dIfS (dTru (dOp dIx (dOp dIx (dFld 0 "pieces" (dVar 0)) (dUn dNeg (dC (.int 1)))) (dC (.int 1)))) (dSeq (dAsg (dBM0 "list" mPop (dOp dIx (dOp dIx (dFld 0 "pieces" (dVar 0)) (dUn dNeg (dC (.int 1)))) (dC (.int 1)))) (gN 5))
  (dAsg (dMeth 0 "resume" (go K .Machine_resume) (fun x _ S1 => E x S1) (dVar 0) (dCons (dVar 5) (dCons (dVar 4) dNil))) (gTp 3 (gsC (gN 2) (gsC (gN 3) (gsC (gN 4) gsN)))))) (dIfS (dTest (dOp dEq (dCB bLen (dCons (dFld 0 "pieces" (dVar 0)) dNil)) (dC (.int 1)))) (dRet (dVar 4)) (dAsg (dMeth 0 "handled" (go K .Machine_handled) (fun x _ S1 => E x S1) (dVar 0) (dCons (dVar 4) dNil)) (gTp 3 (gsC (gN 2) (gsC (gN 3) (gsC (gN 4) gsN)))))))) { B with nx := N } [some (.obj p), x, some c0, some c1, some c2, v5] S := by
  obtain ⟨pp, pc, as, h⟩ := h
  have tys := hp.1.tyS
  have nd := stuck_dn hs
  have fl := hp.2.1 nd
  have fl' : (∀ r, s'.cur ≠ .dn r) → s'.fs.length + 10 < lim := fun z => by have := hp'.2.1 z; omega
  have fin : ∀ {d : D} {S' : Store} {v5' : Option D}, (∀ r, s'.cur ≠ .dn r) → d = .tup s'.cur.m → MAtE S0 S' p (LsM s' (kp + took s s') (max mo (nH s'.fs + 1))) → gTp 3 (gsC (gN 2) (gsC (gN 3) (gsC (gN 4) gsN))) d [some (.obj p), x, some c0, some c1, some c2, v5'] S' N := fun {d S' v5'} hd z R => by
    subst z
    obtain ⟨c0', c1', c2', e⟩ : ∃ c0' c1' c2', s'.cur.m = [c0', c1', c2'] := by
      cases ec : s'.cur with
      | ev t e k => exact ⟨_, _, _, rfl⟩
      | rt v => exact ⟨_, _, _, rfl⟩
      | dn r => exact absurd ec (hd r)
    rw [e]
    simp
    exact hN S' c0' c1' c2' v5' hd R e
  cases ec : s.cur with
  | dn r => exact absurd ec (nd r)
  | ev t e k =>
    rw [ec] at hc
    cases hc
    have hs2 : into s t e k = some s' := by
      have := hs
      unfold LS.step at this
      rw [ec] at this
      exact this
    obtain ⟨l, el⟩ := t.tupD
    have nn : isNonD t.d = false := by rw [el]; rfl
    simp [-List.lookup_eq_none_iff, nn, h.ins]
    have hd : ∀ r, s'.cur ≠ .dn r := fun r z => by
      cases t <;> simp only [into] at hs2 <;> first | (cases hs2; cases z; done) | (split at hs2 <;> first | (cases hs2; cases z; done) | (cases hs2; done))
    have tk0 : took s s' = 0 := took_an (by cases t <;> simp only [into] at hs2 <;> first | (cases hs2; rfl) | (split at hs2 <;> first | (cases hs2; rfl) | (cases hs2; done)))
    refine begin_ok (K := K) (by omega) h hm (by omega) hs2 (fun f x b z => tys.rc f x b e k (by rw [ec, z])) fun S' R => ?_
    refine fin hd rfl ?_
    rw [tk0]
    exact R
  | rt v =>
    rw [ec] at hc
    cases hc
    cases ef : s.fs with
    | nil =>
      unfold LS.step at hs
      rw [ec, ef] at hs
      cases hs
    | cons f fs =>
      have hs2 : back { s with fs := fs } f v = some s' := by
        have := hs
        unfold LS.step at this
        rw [ec, ef] at this
        exact this
      have efr : frM s.fs = addF f.han f.m (frM fs) := by rw [ef, frM]
      cases as with
      | nil => have := h.hps.len; rw [show (LsM s kp mo).ps = frM s.fs from rfl, frM_len] at this; simp at this
      | cons a as =>
        have hps := h.hps
        have hpc := h.hpc
        rw [show (LsM s kp mo).ps = frM s.fs from rfl, efr] at hps hpc
        cases hf : f.han with
        | true =>
          rw [hf] at hps hpc efr
          cases hps with
          | cons h1 h2 =>
            have h1' : S a = some (.lst []) := h1
            simp only [addF] at hpc
            rw [pcL] at hpc
            have len : (pcL as (frM fs)).length = nH fs + 1 := by rw [pcL_len h2.len, frM_len]
            simp [-List.lookup_eq_none_iff, h.ins, asL_obj hpc, at_last, isNonD, tru_obj h1', lenD_obj hpc, len]
            cases f with
            | b => cases hf
            | a t e tk =>
              cases t with
              | han e0 r b cs =>
                cases hs2
                refine handled_ok (K := K) (by omega) h ef fun S' R => ?_
                refine fin (fun r z => by cases z) rfl ?_
                rw [took_an, show max mo (nH fs + 1) = mo by rw [ef] at hm; simp [nH, Fr.han] at hm; omega]
                · exact R
                · rfl
              | _ => cases hf
        | false =>
          rw [hf] at hps hpc efr
          obtain ⟨q0, r0, e0⟩ : ∃ q r, frM fs = q :: r := by
            cases z : frM fs with
            | nil => exact absurd z (frM_ne _)
            | cons q r => exact ⟨q, r, rfl⟩
          obtain ⟨hd, fr⟩ := q0
          rw [e0] at hps hpc efr
          simp only [addF] at hps hpc efr
          cases hps with
          | cons h1 h2 =>
            rw [pcL] at hpc
            have h1' : S a = some (.lst (fr.reverse ++ [f.m])) := by rw [h1]; simp
            simp [-List.lookup_eq_none_iff, h.ins, asL_obj hpc, at_last, isNonD, tru_obj h1', tyD_lst h1', pop_obj h1']
            have R0 := h.frq (hd := hd) (fr := f.m :: fr) (fr' := fr) (r := r0) efr
            have R1 : MAt S0 (DL.put S a (.lst fr.reverse)) p (LsM { s with fs := fs } kp mo) pp pc (a :: as) := by
              rw [show LsM { s with fs := fs } kp mo = { LsM s kp mo with ps := (hd, fr) :: r0 } by simp [LsM, e0]]
              exact R0
            have nf : nH s.fs = nH fs := by rw [ef]; simp [nH, hf]
            have tk1 : took s s' = took { s with fs := fs } s' := by unfold took; rw [nf]
            have fl2 : fs.length ≤ M := by rw [ef] at fl; simp at fl; omega
            simp [-List.lookup_eq_none_iff, R1.ins]
            refine resume_ok (K := K) (by omega) R1 (by rw [← nf]; exact hm) hs2 (by show fs.length + 10 < lim; omega) fl' (by have := hp.2.2; show s.pr.length < lim; omega) hf (fun t e u k z g zu => ?_) (fun o a' b e u k z => ?_) hE fun S' hd' R => ?_
            · have := ha.2
              rw [ef, z] at this
              cases this with
              | b m1 m2 m3 m4 =>
                rw [zu] at m3
                cases m3 with
                | kept g1 _ => exact g1
            · exact tys.op o a' b e u k fs v ec (by rw [ef, z])
            · refine fin hd' rfl ?_
              rw [tk1]
              exact R
end
end Pg
/-! MM9: a whole run; what is counted. -/
namespace Pg
open PySem PySem.Spec PyProof.Rows L2 DL TM
/-- what stands behind a turn -/
def NxtP (S0 : Store) (p : Addr) (x : D) (s' : LS) (kp mo : Nat) : DEnv → Store → Prop := fun σ' S'' => ∃ c0' c1' c2' v5', σ' = [some (.obj p), some x, some c0', some c1', some c2', v5'] ∧ s'.cur.m = [c0', c1', c2'] ∧ MAtE S0 S'' p (LsM s' kp mo)
section
variable {S0 S : Store} {p : Addr} {K : Nat} {Q : QE} {E : XQ} {ops : Ops} {τ : TM.Ty} {M : Nat}
theorem mrun_ok {t : TM.Tm} {L n k' m' : Nat} {u : LS} (hK : 6 ≤ K) (hM : M + 100 < lim) (h : MAtE S0 S p (LsM (start t L) 0 1)) (hr : PR (Pb ops τ M) n (start t L) u) (kr : KRun (start t L) 0 1 u k' m')
    (hE : ∀ r S', u.cur = .dn r → MAtE S0 S' p (LsM u k' m') → E ⟨1, [("end", resD r)]⟩ S') (hQ : ∀ v S', u.res = some (.val v) → MAtE S0 S' p (LsM u k' m') → Q v.m S') : go K .Machine_run [.obj p, t.d] S Q E := by
  obtain ⟨k, rfl⟩ : ∃ k, K = k + 1 := ⟨K - 1, by omega⟩
  rw [go_Machine_run]
  unfold b_Machine_run
  simp only [r_seq, r_par3, r_cons, r_nil, r_var, r_C, startD]
  refine while_ind (fun m σ S' => ∃ s kp mo c0 c1 c2 v5, σ = [some (.obj p), some t.d, some c0, some c1, some c2, v5] ∧ s.cur.m = [c0, c1, c2] ∧ MAtE S0 S' p (LsM s kp mo) ∧ nH s.fs + 1 ≤ mo ∧ SA (fun _ => True) s ∧ PR (Pb ops τ M) m s u ∧ KRun s kp mo u k' m')
    ⟨n, TM.start t L, 0, 1, t.d, .non, .non, none, rfl, rfl, h, Nat.le_refl 1, SA.start trivial, hr, kr⟩ ?_
  rintro m σ S' ⟨s, kp, mo, c0, c1, c2, v5, rfl, hc, hm, hmo, ha, hpr, hkr⟩
  rw [r_tru, r_C]
  simp only [r_tru1, r_ofO]
  rw [if_pos trivial]
  cases hpr with
  | done hP hres =>
    cases hkr with
    | step h1 _ => exact absurd (step_res h1) hres
    | done _ =>
      cases ec : u.cur with
      | ev t e k => unfold LS.res at hres; rw [ec] at hres; exact absurd rfl hres
      | dn r => rw [ec] at hc; cases hc
      | rt v =>
        cases ef : u.fs with
        | cons f fs => unfold LS.res at hres; rw [ec, ef] at hres; exact absurd rfl hres
        | nil =>
          rw [ec] at hc
          cases hc
          refine ⟨fun _ _ => False, fun _ _ z => z.elim, ?_⟩
          have hres2 : u.res = some (.val v) := by unfold LS.res; rw [ec, ef]
          have hfin := hQ v S' hres2 hm
          obtain ⟨pp, pc, as, hm⟩ := hm
          have hps := hm.hps
          have hpc := hm.hpc
          rw [show (LsM u k' m').ps = frM u.fs from rfl, ef] at hps hpc
          cases hps with
          | @cons a as _ _ _ h1 h2 =>
            cases h2
            have h1' : S' a = some (.lst []) := h1
            have hpc' : S' pc = some (.lst ([] ++ [.tup [.non, .obj a]])) := hpc
            simp [-List.lookup_eq_none_iff, hm.ins, asL_obj hpc', at_last, isNonD, tru_obj h1', lenD_obj hpc']
            exact hfin
  | @step m _ s' _ hP hs hpr' =>
    cases hkr with
    | done hres => exact absurd (step_res hs) hres
    | step h1 hkr' =>
      rw [hs] at h1
      cases h1
      refine ⟨NxtP S0 p t.d s' (kp + took s s') (max mo (nH s'.fs + 1)), ?_, ?_⟩
      · rintro σ' S'' ⟨c0', c1', c2', v5', rfl, e1, e2⟩
        exact ⟨m, by omega, s', _, _, c0', c1', c2', v5', rfl, e1, e2, Nat.le_max_right _ _, ha.step hered_true hs, hpr', hkr'⟩
      · refine turn_ok (K := k) (M := M) (ops := ops) (τ := τ) (N := NxtP S0 p t.d s' (kp + took s s') (max mo (nH s'.fs + 1))) (B := { nx := fun _ _ => False, rt := Q, bk := fun _ S1 => Q .non S1, ct := NxtP S0 p t.d s' (kp + took s s') (max mo (nH s'.fs + 1)) }) (by omega) hM hm hmo hs hP hpr'.p ha hc (fun r S'' hd R => ?_) fun S'' c0' c1' c2' v5' hd R e => ⟨c0', c1', c2', v5', rfl, e, R⟩
        have hres := dn_res hd
        obtain ⟨_, rfl⟩ := hpr'.end (by rw [hres]; simp)
        obtain ⟨d1, d2⟩ := dn_step hs hd
        have tk : took s u = 0 := took_an d1
        rw [tk, show max mo (nH u.fs + 1) = mo by omega] at hkr'
        cases hkr' with
        | done _ => exact hE r S'' hd R
        | step z _ => rw [step_res z] at hres; cases hres
theorem minit_ok {L : Nat} (hK : 1 ≤ K) (hp : S p = none) (hQ : ∀ S' pp pc a, MAt S S' p ⟨L, [], [(.non, [])], 0, 1⟩ pp pc [a] → Q .non S') : go K .Machine_init [.obj p, .int L] (DL.put S p (.ins 0 [])) Q E := by
  obtain ⟨k, rfl⟩ : ∃ k, K = k + 1 := ⟨K - 1, by omega⟩
  rw [go_Machine_init]
  unfold b_Machine_init
  simp [startD, ins_put, putFD, put_put]
  intro pp hpp
  have n1 : pp ≠ p := fun z => by subst z; rw [put_same] at hpp; cases hpp
  rw [put_ne n1] at hpp
  have i1 : ∀ {T : Store} {l : List (String × D)} {a : Addr} {o : Ob}, a ≠ p → insD (DL.put (DL.put T p (.ins 0 l)) a o) 0 (.obj p) = some (p, l) := fun {T l a o} h => insD_obj (by rw [put_ne h.symm, put_same])
  simp [i1 n1, putFD]
  intro a ha pc hpc
  have n2 : a ≠ p := fun z => by subst z; rw [put_same] at ha; cases ha
  have n3 : a ≠ pp := fun z => by subst z; rw [put_ne n1, put_same] at ha; cases ha
  rw [put_ne n2, put_ne n3, put_ne n2] at ha
  have n4 : pc ≠ a := fun z => by subst z; rw [put_same] at hpc; cases hpc
  have n5 : pc ≠ p := fun z => by subst z; rw [put_ne n4, put_same] at hpc; cases hpc
  have n6 : pc ≠ pp := fun z => by subst z; rw [put_ne n4, put_ne n5, put_same] at hpc; cases hpc
  rw [put_ne n4, put_ne n5, put_ne n6, put_ne n5] at hpc
  have i2 : ∀ {T : Store} {l : List (String × D)} {o u : Ob}, insD (DL.put (DL.put (DL.put T p (.ins 0 l)) a o) pc u) 0 (.obj p) = some (p, l) := fun {T l o u} => insD_obj (by rw [put_ne n5.symm, put_ne n2.symm, put_same])
  simp [i2, ins_put, putFD]
  refine hQ _ pp pc a ⟨put_same, ?_, ?_, .cons ?_ .nil, ?_, fun x hx => ?_, fun q hq => ?_⟩
  · rw [put_ne n1, put_ne n1, put_ne n1, put_ne n6.symm, put_ne n3.symm, put_ne n1, put_same]; rfl
  · rw [put_ne n5, put_ne n5, put_ne n5, put_same]; rfl
  · rw [put_ne n2, put_ne n2, put_ne n2, put_ne n4.symm, put_same]; rfl
  · simp [n1, n2, n3, n4, n5, n6, n1.symm, n2.symm, n3.symm, n4.symm, n5.symm, n6.symm]
  · simp at hx
    rcases hx with rfl | rfl | rfl | rfl <;> assumption
  · have q1 : q ≠ p := fun z => hq (z ▸ hp)
    have q2 : q ≠ pp := fun z => hq (z ▸ hpp)
    have q3 : q ≠ pc := fun z => hq (z ▸ hpc)
    have q4 : q ≠ a := fun z => hq (z ▸ ha)
    rw [put_ne q1, put_ne q1, put_ne q1, put_ne q3, put_ne q4, put_ne q1, put_ne q2, put_ne q1]
end
end Pg
/-! MM10: run_counted, run_machine. -/
namespace Pg
open PySem PySem.Spec PyProof.Rows L2 DL TM
theorem mshape_ok : ∀ (v : Val) {K : Nat} {S : Store} {Q : QE} {E : XQ}, v.pdp + 1 ≤ K → Q v.shp S → go K .value_shape [v.m] S Q E := by
  intro v
  induction v using Val.shp.induct with
  | case4 a b iha ihb =>
    intro K S Q E hK hQ
    obtain ⟨k, rfl⟩ : ∃ k, K = k + 1 := ⟨K - 1, by omega⟩
    simp only [Val.pdp] at hK
    rw [go_value_shape]
    unfold b_value_shape
    simp [startD, Val.m]
    refine iha (by omega) (ihb (by omega) ?_)
    simpa [Val.shp] using hQ
  | _ =>
    intro K S Q E hK hQ
    obtain ⟨k, rfl⟩ : ∃ k, K = k + 1 := ⟨K - 1, by omega⟩
    rw [go_value_shape]
    unfold b_value_shape
    simp only [Val.m]
    simpa [startD, in_tup, inD_cons, inD_nil, Val.shp] using hQ
theorem run_counted_ok {K : Nat} {S : Store} {Q : QE} {E : XQ} {ops : Ops} {τ : TM.Ty} {M : Nat} {t : TM.Tm} {L n k' m' : Nat} {u : LS} {r : Res} (hK : 8 ≤ K) (hM : M + 100 < lim) (hr : PR (Pb ops τ M) n (start t L) u) (kr : KRun (start t L) 0 1 u k' m') (he : u.res = some r) (hv : ∀ v, r = .val v → v.pdp + 2 ≤ K)
    (hQ : ∀ S', (∀ q, S q ≠ none → S' q = S q) → Q (.tup [.tup (u.pr.map D.int), resD r, .tup [.int k', .int m']]) S') : go K .run_counted [t.d, .int L] S Q E := by
  obtain ⟨k, rfl⟩ : ∃ k, K = k + 2 := ⟨K - 2, by omega⟩
  rw [show k + 2 = (k + 1) + 1 from rfl, go_run_counted]
  unfold b_run_counted
  simp [-List.lookup_eq_none_iff, startD]
  intro p hp
  obtain ⟨j, rfl⟩ : ∃ j, k = j + 1 := ⟨k - 1, by omega⟩
  show go (j + 1) .Machine_init _ _ _ _
  refine minit_ok (by omega) hp fun S1 pp pc a h1 => ⟨rfl, ?_⟩
  have fin : ∀ (S' : Store) (d : D), MAtE S S' p (LsM u k' m') → resD r = d → (ofO (insD S' 0 (.obj p)) fun z => ofO (List.lookup "prints" z.snd) fun y => bTuple [y] S' fun x S1 => ofO (insD S1 0 (.obj p)) fun z => ofO (List.lookup "kept" z.snd) fun y => ofO (insD S1 0 (.obj p)) fun z => ofO (List.lookup "most" z.snd) fun y_1 => Q (D.tup [x, d, D.tup [y, y_1]]) S1) := by
    rintro S' d ⟨pp, pc, as, h⟩ rfl
    simp [h.ins, bTuple, asQ, asL_obj h.hpr]
    exact hQ S' h.old
  simp [-List.lookup_eq_none_iff, h1.ins]
  have h2 : MAtE S S1 p (LsM (start t L) 0 1) := ⟨pp, pc, [a], h1⟩
  refine mrun_ok (S0 := S) (ops := ops) (τ := τ) (M := M) (K := j + 1 + 1) (by omega) hM h2 hr kr ?_ ?_
  · intro r' S' hd hm
    refine ⟨rfl, fun a2 _ => ?_⟩
    have e : r' = r := by
      have := dn_res hd
      rw [he] at this
      cases this
      rfl
    subst e
    exact fin S' _ hm rfl
  · intro v S' hv' hm
    rw [he] at hv'
    cases hv'
    refine mshape_ok v (by have := hv v rfl; omega) ?_
    exact fin S' _ hm rfl
end Pg
namespace Pg
open PySem PySem.Spec PyProof.Rows L2 DL TM
/-! ### numbers from the script -/
/-- the state from which numbers are taken -/
def StAt (S : Store) (ps pc : Addr) : Prop := ps ≠ pc ∧ ∃ (i : Nat) (cs : List Nat), cs ≠ [] ∧ cs.length ≤ 63 ∧ S ps = some (.lst [.int i, .obj pc]) ∧ S pc = some (.lst (cs.map fun c : Nat => D.int c))
theorem take_ok {k : Nat} {S : Store} {ps pc : Addr} {m : Nat} {Q : QE} {E : XQ} (h : StAt S ps pc) (h1 : 1 ≤ m) (h2 : m ≤ 1000)
    (hQ : ∀ (r : Nat) S', r < m → StAt S' ps pc → (∀ p, p ≠ ps → p ≠ pc → S' p = S p) → Q (.int r) S') : go (k + 1) .law_take [.obj ps, .int m] S Q E := by
  obtain ⟨hne, i, cs, hcs, hl, es, ec⟩ := h
  have hlen : 0 < cs.length := by cases cs <;> simp_all
  have hmod : i % cs.length < cs.length := Nat.mod_lt _ hlen
  obtain ⟨c, hc⟩ : ∃ c, cs[i % cs.length]? = some c := ⟨_, List.getElem?_eq_getElem hmod⟩
  have em : ((i : Int) % ((cs.length : Nat) : Int)) = ((i % cs.length : Nat) : Int) := by omega
  have e2 : atI (cs.map fun c : Nat => D.int c) ((i : Int) % ((cs.length : Nat) : Int)) = some (.int c) := by rw [em]; exact at_nat (by rw [List.getElem?_map, hc]; rfl)
  have e3 : ixN (cs.map fun c : Nat => D.int c).length ((i : Int) % ((cs.length : Nat) : Int)) = some (i % cs.length) := by rw [em]; exact ix_nat (by simpa using hmod)
  have e4 : ixN cs.length ((i : Int) % ((cs.length : Nat) : Int)) = some (i % cs.length) := by rw [em]; exact ix_nat hmod
  rw [go_law_take]
  unfold b_law_take
  simp [startD, asL_obj es, asL_obj ec, lenD_obj ec, e2, st_lst es, st_lst ec, e3, e4, ix_zero]
  refine ⟨hlen, ?_⟩
  split
  · refine ⟨⟨by omega, by omega⟩, by omega, ?_⟩
    rw [show ((c : Int) % (m : Int)) = ((c % m : Nat) : Int) by omega]
    refine hQ _ _ (Nat.mod_lt _ (by omega)) ⟨hne, i, cs.set (i % cs.length) (c / m), ?_, by simpa using hl, by rw [put_ne hne]; exact es, ?_⟩ fun p _ h => put_ne h
    · intro z; apply hcs; have := congrArg List.length z; simp at this; exact this
    · rw [put_same, List.map_set]; congr 3
  · refine ⟨.inr ⟨by decide, by decide⟩, .inr ⟨by decide, by decide⟩, .inr ⟨by decide, by decide⟩, .inr ⟨by decide, by decide⟩, ⟨by decide, by decide⟩, by omega, ?_⟩
    generalize ((c : Int) * 48271 + ((i : Int) + 1) * 69621) % 2147483647 * 16807 + ((i : Int) + 1) * 7919 = z
    have r1 := Int.emod_nonneg (z % 1000000007 / 7) (b := (m : Int)) (by omega)
    have r2 := Int.emod_lt_of_pos (z % 1000000007 / 7) (b := (m : Int)) (by omega)
    obtain ⟨r, er⟩ := Int.eq_ofNat_of_zero_le r1
    rw [er]
    refine hQ r _ (by omega) ⟨hne, i + 1, cs, hcs, hl, put_same, by rw [put_ne (Ne.symm hne)]; exact ec⟩ fun p h _ => put_ne h
theorem cut_ints (ns : List Int) (a b : Option Int) (h : ns.length ≤ 63) : ∃ ms : List Int, DL.cutD (ns.map D.int) a b = ms.map D.int ∧ ms.length ≤ 63 := by
  refine ⟨DL.cutD ns a b, by unfold DL.cutD; simp [List.map_take, List.map_drop], ?_⟩
  unfold DL.cutD
  simp; omega
theorem state_ok {k : Nat} {S : Store} {x : D} {ns : List Int} (hx : x = .scr (ns.map D.int) ∨ x = .lst (ns.map D.int)) (hl : ns.length ≤ 63) {Q : QE} {E : XQ}
    (h : ∀ S' ps pc, StAt S' ps pc → Q (.obj ps) S') : go (k + 1) .law_state [x] S Q E := by
  rw [go_law_state]
  unfold b_law_state
  obtain ⟨ms, em, lm⟩ := cut_ints ns none (some 63) hl
  have hs : ∀ R : List D → Store → Prop, slD x none (some 63) S (fun y S1 => ofO (asL S1 y) fun l => R l S1) = R (ms.map D.int) S := fun R => by
    rcases hx with rfl | rfl <;> (unfold slD; simp [em])
  have fin : ∀ (cs : List Nat) (S1 : Store) (pc : Addr), cs ≠ [] → cs.length ≤ 63 → S1 pc = some (.lst (cs.map fun c : Nat => D.int c)) → ∀ ps, S1 ps = none → Q (.obj ps) (DL.put S1 ps (.lst [.int 0, .obj pc])) := fun cs S1 pc h1 h2 h3 ps hp => by
    have hne : pc ≠ ps := fun z => by rw [z, hp] at h3; cases h3
    exact h _ _ pc ⟨hne.symm, 0, cs, h1, h2, put_same, by rw [put_ne hne]; exact h3⟩
  simp [startD, dSl, dNoPart, dPart]
  rcases hx with rfl | rfl
  all_goals
    simp [slD, em]
    refine lc_mapM D.int (fun i : Int => D.int (i.natAbs : Int)) (by simp [keepL]) (by simp [lim]; omega) (fun _ _ _ q => q) (fun i _ Q' q => ?_) ?_
    · simp [wipeD]
      rw [show (if i < 0 then -i else i) = (i.natAbs : Int) by split <;> omega]
      exact q
    · intro pc hpc
      simp [lenD_obj put_same]
      split
      · intro pc2 hpc2 ps hps
        exact fin [0] _ pc2 (by simp) (by simp) put_same ps hps
      · rename_i hne
        intro ps hps
        exact fin (ms.map Int.natAbs) _ pc (by simpa using hne) (by simpa using lm) (by rw [put_same, List.map_map]; rfl) ps hps
/-- numbers were taken, nothing else changed -/
def Nx (ps pc : Addr) (S S' : Store) : Prop := StAt S' ps pc ∧ ∀ p, p ≠ ps → p ≠ pc → S' p = S p
theorem Nx.trans {ps pc : Addr} {S S' S'' : Store} (a : Nx ps pc S S') (b : Nx ps pc S' S'') : Nx ps pc S S'' := ⟨b.1, fun p h1 h2 => (b.2 p h1 h2).trans (a.2 p h1 h2)⟩
theorem take_nx {k : Nat} {S : Store} {ps pc : Addr} {m : Nat} {Q : QE} {E : XQ} (h : StAt S ps pc) (h1 : 1 ≤ m) (h2 : m ≤ 1000)
    (hQ : ∀ (r : Nat) S', r < m → Nx ps pc S S' → Q (.int r) S') : go (k + 1) .law_take [.obj ps, .int m] S Q E := take_ok h h1 h2 fun r S' hr a b => hQ r S' hr ⟨a, b⟩
/-- one of four, by a number -/
theorem ix4 {S : Store} {Q : QE} {a b c d : D} {r : Nat} (h : r < 4) (h0 : r = 0 → Q a S) (h1 : r = 1 → Q b S) (h2 : r = 2 → Q c S) (h3 : r = 3 → Q d S) : dIx (.lst [a, b, c, d]) (.int r) S Q := by
  have : r = 0 ∨ r = 1 ∨ r = 2 ∨ r = 3 := by omega
  rcases this with rfl | rfl | rfl | rfl
  · simpa using h0 rfl
  · simpa using h1 rfl
  · simpa using h2 rfl
  · simpa using h3 rfl
theorem ix3 {S : Store} {Q : QE} {a b c : D} {r : Nat} (h : r < 3) (h0 : r = 0 → Q a S) (h1 : r = 1 → Q b S) (h2 : r = 2 → Q c S) : dIx (.lst [a, b, c]) (.int r) S Q := by
  have : r = 0 ∨ r = 1 ∨ r = 2 := by omega
  rcases this with rfl | rfl | rfl
  · simpa using h0 rfl
  · simpa using h1 rfl
  · simpa using h2 rfl
theorem ix5 {S : Store} {Q : QE} {a b c d e : D} {r : Nat} (h : r < 5) (h0 : r = 0 → Q a S) (h1 : r = 1 → Q b S) (h2 : r = 2 → Q c S) (h3 : r = 3 → Q d S) (h4 : r = 4 → Q e S) : dIx (.lst [a, b, c, d, e]) (.int r) S Q := by
  have : r = 0 ∨ r = 1 ∨ r = 2 ∨ r = 3 ∨ r = 4 := by omega
  rcases this with rfl | rfl | rfl | rfl | rfl
  · simpa using h0 rfl
  · simpa using h1 rfl
  · simpa using h2 rfl
  · simpa using h3 rfl
  · simp; rw [show atI [a, b, c, d, e] 4 = some e from at_nat (k := 4) rfl]; exact h4 rfl
theorem take_g {K : Nat} {S : Store} {ps pc : Addr} {m : Nat} {Q : QE} {E : XQ} (h : StAt S ps pc) (hK : 1 ≤ K) (h1 : 1 ≤ m) (h2 : m ≤ 1000)
    (hQ : ∀ (r : Nat) S', r < m → Nx ps pc S S' → Q (.int r) S') : go K .law_take [.obj ps, .int m] S Q E := by
  obtain ⟨k, rfl⟩ : ∃ k, K = k + 1 := ⟨K - 1, by omega⟩
  exact take_nx h h1 h2 hQ
end Pg
/-! Q21a: the law k21. -/
namespace Pg
open PySem PySem.Spec PyProof.Rows L2 DL TM
theorem str_nm' {n : Nat} {S : Store} {Q : QE} (h : n < 100) (c : String) (hc : c.length ≤ 8) (q : Q (.str (nm c n)) S) : bStr [.int (n : Int)] S fun y S2 => dAdd (.str c) y S2 Q := by
  refine ⟨by omega, ?_⟩
  show dAdd (.str c) (.str (toString (n : Int))) S Q
  rw [r_addS]
  refine ⟨?_, q⟩
  have : (toString (n : Int)).length ≤ 65 := PySem.int_text_length_le (k := 64) (by omega) (by
    have : (n : Int).natAbs = n := by simp
    rw [this]
    by_cases e : n = 0
    · subst e; decide
    · exact (Nat.log2_lt e).mpr (by omega))
  have e : lim = 16777216 := rfl
  omega
def nmO (j : Nat) : String := nm "o" j
theorem nmO_inj {N : Nat} (hN : N ≤ 6) : ∀ a b, a < N → b < N → nmO a = nmO b → a = b := by
  have : ∀ a b : Fin 6, nmO a.val = nmO b.val → a = b := by decide
  intro a b ha hb h
  have := this ⟨a, by omega⟩ ⟨b, by omega⟩ h
  exact congrArg Fin.val this
def ops21 (N : Nat) : Ops := (List.range N).map fun j => (nmO j, TM.Ty.int, TM.Ty.int)
theorem ops21_lk {N : Nat} (hN : N ≤ 6) : ∀ j, j < N → (ops21 N).lookup (nmO j) = some (.int, .int) := by
  have : ∀ n : Fin 7, ∀ j : Fin 6, j.val < n.val → (ops21 n.val).lookup (nmO j.val) = some (.int, .int) := by decide
  intro j hj
  exact this ⟨N, by omega⟩ ⟨j, by omega⟩ hj
theorem ops21_pl {N : Nat} : ∀ o α β, (ops21 N).lookup o = some (α, β) → β.plain = true := by
  intro o α β h
  have mem : ∀ {l : List (String × TM.Ty × TM.Ty)}, l.lookup o = some (α, β) → (o, α, β) ∈ l := fun {l} h => by
    induction l with
    | nil => cases h
    | cons e r ih =>
      obtain ⟨a, b⟩ := e
      rw [List.lookup_cons] at h
      split at h
      · rename_i c
        cases h
        rw [beq_iff_eq] at c
        subst c
        exact List.mem_cons_self
      · exact List.mem_cons_of_mem _ (ih h)
  have := mem h
  simp [ops21] at this
  obtain ⟨j, _, _, _, h3⟩ := this
  rw [← h3]; rfl
theorem law_ok (m : Nat) : LawD (go (m + 120) .law) := by
  intro x ns hx hl
  rw [show m + 120 = (m + 119) + 1 from rfl, go_law]
  unfold b_law
  simp [startD]
  refine state_ok (k := m + 118) hx hl fun S0 ps pc st0 => ?_
  refine take_g (m := 6) st0 (by omega) (by omega) (by omega) fun r S1 hr n1 => ?_
  obtain ⟨N, hN, hN6, hN0⟩ : ∃ N : Nat, (1 : Int) + (r : Int) = (N : Int) ∧ N ≤ 6 ∧ 0 < N := ⟨r + 1, by omega, by omega, by omega⟩
  rw [r_addI, hN]
  refine take_g (m := N) n1.1 (by omega) (by omega) (by omega) fun f S2 hf n2 => ?_
  refine take_g (m := N) n2.1 (by omega) (by omega) (by omega) fun s S3 hs n3 => ?_
  dsimp only
  refine ⟨⟨by omega, by omega⟩, ?_⟩
  rw [show (N : Int).toNat = N from rfl, range_map]
  refine lc_ind (I := fun r' acc σ S' => ∃ (aw : List Nat) (a6 : Option D), acc = aw.map (fun i : Nat => D.int (i : Int)) ∧ (∀ a ∈ aw, a < 50) ∧ aw.length + r'.length = N ∧ StAt S' ps pc ∧ σ = [some x, some (.obj ps), some (.int (N : Nat)), some (.int (f : Nat)), some (.int (s : Nat)), none, a6, none, none, none, none, none]) (fun _ _ _ _ _ => trivial) ?st ?fn ⟨[], none, rfl, fun a z => (by cases z), by simp, n3.1, rfl⟩
  case st =>
    rintro y r' acc σ S4 R ⟨aw, a6, rfl, h1, h2, h3, rfl⟩ hR
    simp
    refine take_g (m := 50) h3 (by omega) (by omega) (by omega) fun a S5 ha m1 => ?_
    simp at h2
    refine ⟨by simp [lim]; omega, ?_⟩
    refine hR _ _ _ ⟨aw ++ [a], a6, by simp, fun b hb => ?_, by simp; omega, m1.1, rfl⟩
    rcases List.mem_append.mp hb with hb | hb
    · exact h1 b hb
    · simp at hb; omega
  case fn =>
    rintro acc σ S4 ⟨aw, a6, rfl, h1, h2, h3, rfl⟩
    simp at h2
    obtain ⟨av, hav, hav2⟩ : ∃ av : Nat → Nat, (∀ j, av j < 1000) ∧ ∀ j, j < N → atI (aw.map fun i : Nat => D.int (i : Int)) ((j : Nat) : Int) = some (.int (av j : Nat)) := by
      refine ⟨fun j => (aw[j]?).getD 0, fun j => ?_, fun j hj => ?_⟩
      · show (aw[j]?).getD 0 < 1000
        cases e : aw[j]? with
        | none => decide
        | some a => have := h1 a (List.mem_of_getElem? e); show a < 1000; omega
      · refine DL.atI_nat ?_
        simp [List.getElem?_eq_getElem (show j < aw.length by omega)]
    refine str_nm' (by omega) "o" (by decide) ?_
    refine str_nm' (by omega) "o" (by decide) ?_
    refine ⟨⟨by omega, by omega⟩, ?_⟩
    refine for_indM (fun i : Nat => D.int (i : Int)) (I := fun d r' σ S' => S' = S4 ∧ ∃ (a8 a9 : Option D), σ = [some x, some (.obj ps), some (.int (N : Nat)), some (.int (f : Nat)), some (.int (s : Nat)), some (.lst (aw.map fun i : Nat => D.int (i : Int))), none, some (qTree nmO av (qSum nmO f s) d.length).d, a8, a9, none, none]) (List.range N) (fun _ _ _ _ _ => trivial) ?st2 ?fn2 ⟨rfl, none, none, rfl⟩
    case st2 =>
      rintro d y r' σ S5 R e ⟨rfl, a8, a9, rfl⟩ hR
      have hy : y = d.length ∧ d.length < N := by
        have h1 := congrArg (fun l => l[d.length]?) e
        have h2 := congrArg List.length e
        simp at h1 h2
        have : d.length < N := by omega
        simp [List.getElem?_range this] at h1
        exact ⟨h1, this⟩
      obtain ⟨rfl, hlt⟩ := hy
      simp [hav2 _ hlt]
      refine str_nm' (by omega) "o" (by decide) ?_
      refine hR _ _ ⟨rfl, some (.int (d.length : Nat)), some ((qBody (av d.length)).d), ?_⟩
      rw [show (d ++ [d.length]).length = d.length + 1 by simp]
      rfl
    case fn2 =>
      rintro σ S5 ⟨rfl, a8, a9, rfl⟩
      rw [List.length_range]
      simp
      refine take_g (m := 9) h3 (by omega) (by omega) (by omega) fun q S6 hq m6 => ?_
      rw [r_addI, show (4 : Int) + (q : Int) = ((q + 4 : Nat) : Int) by omega]
      have ths := qtree_has (aw := av) (ops21_lk hN6) hf hs N (Nat.le_refl _)
      obtain ⟨t1, t2, t3⟩ := qtree_gd (nm := nmO) hav (f := f) (s := s) N
      obtain ⟨n, u, u1, u2, u3, u4⟩ := qall (nmO_inj hN6) hf hs hav (by omega) (L := q + 4) (by omega)
      have hpb := run_pb ops21_pl ths ⟨t1, by omega⟩ (by omega) (by omega) u1
      refine run_counted_ok (K := m + 119) (by omega) (by decide) hpb u2 u3 (fun v h => by cases h; simp [Val.pdp]) fun S7 q3 => ?_
      simp [hav2 _ hf, hav2 _ hs]
      rw [u4, show resD (.val (.int ((av f : Nat) - (av s : Nat) + (N : Nat)))) = .tup [.str "value", .tup [.str "int", .int ((av f : Nat) - (av s : Nat) + (N : Nat))]] from rfl, show ((f : Int) + 1 + ((s : Int) + 1)) = (f : Int) + 1 + (s : Int) + 1 by omega]
      have d1 : OkN 3 (.tup [.tup [.int 1, .int 2], .tup [.str "value", .tup [.str "int", .int ((av f : Nat) - (av s : Nat) + (N : Nat))]], .tup [.int ((f : Int) + 1 + (s : Int) + 1), .int ((N : Int) + 1)]]) := ⟨rfl, by simp [depD, depDs]⟩
      exact ⟨d1.ok, d1.ok, eqD_refl _ d1.1⟩
end Pg
namespace Pg
open PySem PySem.Spec PyProof.Rows L2 DL
def faK (K : PySem.W.Frag) : Fn → Addr
  | .looked_up => He.fAd K ("looked_up", none)
  | .calculated => He.fAd K ("calculated", none)
  | .value_shape => He.fAd K ("value_shape", none)
  | .Machine_init => He.fAd K ("Machine", some "__init__")
  | .Machine_step => He.fAd K ("Machine", some "step")
  | .Machine_wait => He.fAd K ("Machine", some "wait")
  | .Machine_add_piece => He.fAd K ("Machine", some "add_piece")
  | .Machine_run => He.fAd K ("Machine", some "run")
  | .Machine_handled => He.fAd K ("Machine", some "handled")
  | .Machine_begin => He.fAd K ("Machine", some "begin")
  | .Machine_resume => He.fAd K ("Machine", some "resume")
  | .Machine_call => He.fAd K ("Machine", some "call")
  | .Machine_ask => He.fAd K ("Machine", some "ask")
  | .Machine_answer => He.fAd K ("Machine", some "answer")
  | .run_counted => He.fAd K ("run_counted", none)
  | .law_state => He.fAd K ("_law_state", none)
  | .law_take => He.fAd K ("_law_take", none)
  | .law => He.fAd K ("law", none)
def caK (K : PySem.W.Frag) : Nat → Addr
  | 0 => He.ga K "Machine"
  | 1 => He.ga K "Stop"
  | _ => 0
theorem facts {w : World} {K : PySem.W.Frag} {h : Heap} {mg : Str → Option Value} (X : K.In h) (G : h.Ns mainGlobals mg) (cz : SaysX fas dds exK tabs xds w K) :
    ∃ fd : Fn → FuncData, Tx R.prog w K mg (caK K) (faK K) fd ∧ ∀ (s : Shared) (v : Value), BindsTo s (fd .law) ⟨[v], []⟩ [("_law_script", v)] := by
  obtain ⟨c, ce0⟩ := cz.y.z
  have ce := (He.ba ce0).1
  obtain ⟨xa0, xb0, xc0, xe0⟩ := exc_of (prog := R.prog) (cz.x 0 rfl).1 (cz.x 0 rfl).2 xst_Stop rfl (by kernel_rfl)
  obtain ⟨e0, F0⟩ := c.def_ 0 (d := dd_looked_up) rfl
  obtain ⟨e1, F1⟩ := c.def_ 1 (d := dd_calculated) rfl
  obtain ⟨e2, F2⟩ := c.def_ 2 (d := dd_value_shape) rfl
  obtain ⟨e3, F3⟩ := c.def_ 3 (d := dd_Machine_init) rfl
  obtain ⟨e4, F4⟩ := c.def_ 4 (d := dd_Machine_step) rfl
  obtain ⟨e5, F5⟩ := c.def_ 5 (d := dd_Machine_wait) rfl
  obtain ⟨e6, F6⟩ := c.def_ 6 (d := dd_Machine_add_piece) rfl
  obtain ⟨e7, F7⟩ := c.def_ 7 (d := dd_Machine_run) rfl
  obtain ⟨e8, F8⟩ := c.def_ 8 (d := dd_Machine_handled) rfl
  obtain ⟨e9, F9⟩ := c.def_ 9 (d := dd_Machine_begin) rfl
  obtain ⟨e10, F10⟩ := c.def_ 10 (d := dd_Machine_resume) rfl
  obtain ⟨e11, F11⟩ := c.def_ 11 (d := dd_Machine_call) rfl
  obtain ⟨e12, F12⟩ := c.def_ 12 (d := dd_Machine_ask) rfl
  obtain ⟨e13, F13⟩ := c.def_ 13 (d := dd_Machine_answer) rfl
  obtain ⟨e14, F14⟩ := c.def_ 14 (d := dd_run_counted) rfl
  obtain ⟨e15, F15⟩ := c.def_ 15 (d := dd_law_state) rfl
  obtain ⟨e16, F16⟩ := c.def_ 16 (d := dd_law_take) rfl
  obtain ⟨e17, F17⟩ := c.def_ 17 (d := dd_law) rfl
  refine ⟨fun f => match f with
    | .looked_up => e0
    | .calculated => e1
    | .value_shape => e2
    | .Machine_init => e3
    | .Machine_step => e4
    | .Machine_wait => e5
    | .Machine_add_piece => e6
    | .Machine_run => e7
    | .Machine_handled => e8
    | .Machine_begin => e9
    | .Machine_resume => e10
    | .Machine_call => e11
    | .Machine_ask => e12
    | .Machine_answer => e13
    | .run_counted => e14
    | .law_state => e15
    | .law_take => e16
    | .law => e17
    , ?_, ?_⟩
  · exact {
      f_looked_up := fun_of F0
      b_looked_up := FunD.bindsN (ps := ["env", "name"]) F0 fun _ _ _ _ _ _ us hl => match us, hl with | [_, _], _ => rfl
      f_calculated := fun_of F1
      b_calculated := FunD.bindsN (ps := ["sign", "one", "two"]) F1 fun _ _ _ _ _ _ us hl => match us, hl with | [_, _, _], _ => rfl
      f_value_shape := fun_of F2
      b_value_shape := FunD.bindsN (ps := ["value"]) F2 fun _ _ _ _ _ _ us hl => match us, hl with | [_], _ => rfl
      f_Machine_init := fun_of F3
      b_Machine_init := FunD.bindsN (ps := ["self", "steps"]) F3 fun _ _ _ _ _ _ us hl => match us, hl with | [_, _], _ => rfl
      f_Machine_step := fun_of F4
      b_Machine_step := FunD.bindsN (ps := ["self"]) F4 fun _ _ _ _ _ _ us hl => match us, hl with | [_], _ => rfl
      f_Machine_wait := fun_of F5
      sb_Machine_wait := DL.FunD.bindsS (ps := ["self"]) (pv := "frame") F5 fun kV doc pm an cdv ct => StX.bind_star1 (B := fun l => bindArgs (PySem.W.fnOf "wait" "Machine.wait" (defArgs s_Machine_wait) (defBody s_Machine_wait) (defScope s_Machine_wait) .none kV doc pm an cdv ct) ⟨l, []⟩) (fun a => rfl) (fun a r rs => rfl)
      f_Machine_add_piece := fun_of F6
      b_Machine_add_piece := FunD.bindsN (ps := ["self", "handler", "frames"]) F6 fun _ _ _ _ _ _ us hl => match us, hl with | [_, _, _], _ => rfl
      f_Machine_run := fun_of F7
      b_Machine_run := FunD.bindsN (ps := ["self", "expression"]) F7 fun _ _ _ _ _ _ us hl => match us, hl with | [_, _], _ => rfl
      f_Machine_handled := fun_of F8
      b_Machine_handled := FunD.bindsN (ps := ["self", "value"]) F8 fun _ _ _ _ _ _ us hl => match us, hl with | [_, _], _ => rfl
      f_Machine_begin := fun_of F9
      b_Machine_begin := FunD.bindsN (ps := ["self", "current", "env"]) F9 fun _ _ _ _ _ _ us hl => match us, hl with | [_, _, _], _ => rfl
      f_Machine_resume := fun_of F10
      b_Machine_resume := FunD.bindsN (ps := ["self", "frame", "value"]) F10 fun _ _ _ _ _ _ us hl => match us, hl with | [_, _, _], _ => rfl
      f_Machine_call := fun_of F11
      b_Machine_call := FunD.bindsN (ps := ["self", "function", "argument"]) F11 fun _ _ _ _ _ _ us hl => match us, hl with | [_, _, _], _ => rfl
      f_Machine_ask := fun_of F12
      b_Machine_ask := FunD.bindsN (ps := ["self", "name", "value"]) F12 fun _ _ _ _ _ _ us hl => match us, hl with | [_, _, _], _ => rfl
      f_Machine_answer := fun_of F13
      b_Machine_answer := FunD.bindsN (ps := ["self", "place", "clause", "value", "env"]) F13 fun _ _ _ _ _ _ us hl => match us, hl with | [_, _, _, _, _], _ => rfl
      f_run_counted := fun_of F14
      b_run_counted := FunD.bindsN (ps := ["expression", "steps"]) F14 fun _ _ _ _ _ _ us hl => match us, hl with | [_, _], _ => rfl
      f_law_state := fun_of F15
      b_law_state := FunD.bindsN (ps := ["_law_script"]) F15 fun _ _ _ _ _ _ us hl => match us, hl with | [_], _ => rfl
      f_law_take := fun_of F16
      b_law_take := FunD.bindsN (ps := ["_law_state_here", "_law_most"]) F16 fun _ _ _ _ _ _ us hl => match us, hl with | [_, _], _ => rfl
      f_law := fun_of F17
      b_law := FunD.bindsN (ps := ["_law_script"]) F17 fun _ _ _ _ _ _ us hl => match us, hl with | [_], _ => rfl
      g_looked_up := He.glo_ok X G (c.fact 0 (f := .glo "looked_up") rfl)
      g_calculated := He.glo_ok X G (c.fact 1 (f := .glo "calculated") rfl)
      g_value_shape := He.glo_ok X G (c.fact 2 (f := .glo "value_shape") rfl)
      g_run_counted := He.glo_ok X G (c.fact 3 (f := .glo "run_counted") rfl)
      g_law_state := He.glo_ok X G (c.fact 4 (f := .glo "_law_state") rfl)
      g_law_take := He.glo_ok X G (c.fact 5 (f := .glo "_law_take") rfl)
      g_law := He.glo_ok X G (c.fact 6 (f := .glo "law") rfl)
      c_Machine := He.cls_ok (c.fact 7 (f := .cls "Machine") rfl)
      gc_Machine := He.glo_ok X G (c.fact 8 (f := .glo "Machine") rfl)
      mk_Machine := He.mkr_ok (c.fact 9 (f := .mkr "Machine") rfl)
      m_Machine_add_piece := He.meth_ok (c.fact 10 (f := .meth "Machine" "add_piece") rfl)
      m_Machine_answer := He.meth_ok (c.fact 11 (f := .meth "Machine" "answer") rfl)
      m_Machine_ask := He.meth_ok (c.fact 12 (f := .meth "Machine" "ask") rfl)
      m_Machine_begin := He.meth_ok (c.fact 13 (f := .meth "Machine" "begin") rfl)
      m_Machine_call := He.meth_ok (c.fact 14 (f := .meth "Machine" "call") rfl)
      m_Machine_handled := He.meth_ok (c.fact 15 (f := .meth "Machine" "handled") rfl)
      m_Machine_resume := He.meth_ok (c.fact 16 (f := .meth "Machine" "resume") rfl)
      m_Machine_run := He.meth_ok (c.fact 17 (f := .meth "Machine" "run") rfl)
      m_Machine_step := He.meth_ok (c.fact 18 (f := .meth "Machine" "step") rfl)
      m_Machine_wait := He.meth_ok (c.fact 19 (f := .meth "Machine" "wait") rfl)
      n_Machine_kept := He.noat_ok (c.fact 20 (f := .noat "Machine" "kept") rfl)
      n_Machine_left := He.noat_ok (c.fact 21 (f := .noat "Machine" "left") rfl)
      n_Machine_most := He.noat_ok (c.fact 22 (f := .noat "Machine" "most") rfl)
      n_Machine_pieces := He.noat_ok (c.fact 23 (f := .noat "Machine" "pieces") rfl)
      n_Machine_prints := He.noat_ok (c.fact 24 (f := .noat "Machine" "prints") rfl)
      z_abs := He.free_ok X G (c.fact 25 (f := .free "abs") rfl)
      z_int := He.free_ok X G (c.fact 26 (f := .free "int") rfl)
      z_len := He.free_ok X G (c.fact 27 (f := .free "len") rfl)
      z_list := He.free_ok X G (c.fact 28 (f := .free "list") rfl)
      z_max := He.free_ok X G (c.fact 29 (f := .free "max") rfl)
      z_range := He.free_ok X G (c.fact 30 (f := .free "range") rfl)
      z_reversed := He.free_ok X G (c.fact 31 (f := .free "reversed") rfl)
      z_str := He.free_ok X G (c.fact 32 (f := .free "str") rfl)
      z_tuple := He.free_ok X G (c.fact 33 (f := .free "tuple") rfl)
      k_HALF := konst_int (He.int_ok X G (c.fact 34 (f := .int "HALF" 2147483648) rfl))
      k_UNIT := konst_strs (ss := ["unit"]) (He.glo_ok X G (c.fact 35 (f := .glo "UNIT") rfl)) ((He.ba ce).1)
      gx_Stop := He.glo_ok X G (c.fact 36 (f := .glo "Stop") rfl)
      x_Stop := xa0
      xm_Stop := xb0
      xf_Stop := xc0
      xn_Stop := xe0
    }
  · intro s v
    have b := FunD.bindsA (ps := ["_law_script"]) F17 fun _ _ _ _ _ _ us hl => match us, hl with | [_], _ => rfl
    exact b s [v] rfl
theorem holds (n : Nat) (hn : Room (n + 1) callerA) (hL : LawD (go n .law)) : PySem.Challenge.rw_askedfor_k21_pieces_of_nested_handlers.Holds := by
  w_on; o_law
  refine HandSHeadRun.head_any (r := R) (q := PySem.W.view R.prog [12]) (H := hk) (ob := ob) (M := 1480) (loose := loose) (d := HandSHeadRun.topDef R.prog 12) (kwd := []) ob_eq
    (by kernel_rfl) (fun s => by kernel_rfl) run (by kernel_rfl) (by kernel_rfl) (by kernel_rfl) (by rfl) (by first | assumption | decide +kernel) (by decide +kernel) ⟨rfl, rfl, rfl, rfl, rfl, by decide +kernel⟩ ?hw ?hc
  case hw => w_witness2
  case hc =>
    refine walk_dl (l := PySem.Challenge.rw_askedfor_k21_pieces_of_nested_handlers) (k := n + 1) (x := "_law_script") rfl (by kernel_rfl) hn fun w mg f h Y G hmg0 => ?_
    obtain ⟨K, KX, c⟩ := Y
    have hmg : mg ("law" : Str) = some (.ref f) := by
      have e : (HandSHeadRun.topDef R.prog 12).name = ("law" : Str) := by kernel_rfl
      rw [← e]
      exact hmg0
    obtain ⟨fd, T, hb⟩ := facts KX G c
    have e := hmg.symm.trans T.g_law
    cases e
    exact ⟨K, fd .law, caK K, go n .law, KX, hL, hb, fun base _ _ => (all_of T n).1 .law⟩
end Pg
theorem PySem.Challenge.cw_askedfor_k21_pieces_of_nested_handlers_holds : PySem.Challenge.rw_askedfor_k21_pieces_of_nested_handlers.Holds :=
  Pg.holds 120 ⟨rfl, by decide, by decide⟩ (Pg.law_ok 0)
#print axioms PySem.Challenge.cw_askedfor_k21_pieces_of_nested_handlers_holds
