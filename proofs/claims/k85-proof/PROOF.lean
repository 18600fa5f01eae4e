import PyProof.Rows.All
import Wide.All
import OpenK.AllK
import Wide.FinOn
import HandS.ForSpec
import HandS.ForMost
import HandS.ForExc
import HandS.Wide
import HandS.Flow
import HandS.IsInst
import HandS.Defaults
import HandS.TryOnly
import HandS.CallSlots
import HandS.ExcOwn
import HandS.HeadHook2
import HandS.Deep
import HandS.Gcd
import KE.KMathG
import KE.KStateDown
import HandS.Head0
import HandS.Head1
import HandS.Head2
import HandS.Head3
import HandS.HeadEnd
import PySem.Challenge.RW_kindstellterms_k85_whole_numbers_of_plai
set_option Elab.async false
set_option linter.all false
set_option maxRecDepth 100000
/-! Mini 1: values, the abstract store and how a heap bears it. -/
namespace Mini
open PySem PySem.Spec PyProof.Rows L2

abbrev Fg := PySem.W.Frag

/-- data that no longer changes; rol: a list that is read alone -/
inductive D where
  | non | bl (b : Bool) | int (i : Int) | str (x : Str)
  | tup (xs : List D) | lst (xs : List D) | rol (xs : List D)
/-- a value: data, a cell of the store, nothing -/
inductive A where
  | d (x : D) | cell (n : Nat) | un
/-- a cell's content -/
inductive O where
  | lst (xs : List A) | frz (x : D)
def O.isFrz : O → Bool
  | .frz _ => true
  | _ => false

inductive Al {α β : Type} (R : α → β → Prop) : List α → List β → Prop
  | nil : Al R [] []
  | cons {a b xs ys} : R a b → Al R xs ys → Al R (a :: xs) (b :: ys)
namespace Al
variable {α β : Type} {R R' : α → β → Prop}
theorem mono (h : ∀ a b, R a b → R' a b) : ∀ {xs : List α} {ys : List β}, Al R xs ys → Al R' xs ys
  | _, _, .nil => .nil
  | _, _, .cons r t => .cons (h _ _ r) (mono h t)
theorem length : ∀ {xs : List α} {ys : List β}, Al R xs ys → xs.length = ys.length
  | _, _, .nil => rfl
  | _, _, .cons _ t => congrArg (· + 1) (length t)
theorem get : ∀ {xs : List α} {ys : List β} {i : Nat} {b : β}, Al R xs ys → ys[i]? = some b → ∃ a, xs[i]? = some a ∧ R a b
  | _, _, _, _, .nil, e => by simp at e
  | _, _, 0, _, .cons r _, e => by simp at e; subst e; exact ⟨_, rfl, r⟩
  | _, _, i + 1, _, .cons _ t, e => by simpa using get (i := i) t (by simpa using e)
theorem getL : ∀ {xs : List α} {ys : List β} {i : Nat} {a : α}, Al R xs ys → xs[i]? = some a → ∃ b, ys[i]? = some b ∧ R a b
  | _, _, _, _, .nil, e => by simp at e
  | _, _, 0, _, .cons r _, e => by simp at e; subst e; exact ⟨_, rfl, r⟩
  | _, _, i + 1, _, .cons _ t, e => by simpa using getL (i := i) t (by simpa using e)
theorem append : ∀ {xs : List α} {ys : List β} {xs' : List α} {ys' : List β}, Al R xs ys → Al R xs' ys' → Al R (xs ++ xs') (ys ++ ys')
  | _, _, _, _, .nil, s => s
  | _, _, _, _, .cons r t, s => .cons r (append t s)
theorem set : ∀ {xs : List α} {ys : List β} {a : α} {b : β} (i : Nat), R a b → Al R xs ys → Al R (xs.set i a) (ys.set i b)
  | _, _, _, _, _, _, .nil => .nil
  | _, _, _, _, 0, q, .cons _ t => .cons q t
  | _, _, _, _, i + 1, q, .cons r t => .cons r (set i q t)
theorem take : ∀ {xs : List α} {ys : List β} (n : Nat), Al R xs ys → Al R (xs.take n) (ys.take n)
  | _, _, 0, _ => .nil
  | _, _, _ + 1, .nil => .nil
  | _, _, n + 1, .cons r t => .cons r (take n t)
theorem drop : ∀ {xs : List α} {ys : List β} (n : Nat), Al R xs ys → Al R (xs.drop n) (ys.drop n)
  | _, _, 0, r => r
  | _, _, _ + 1, .nil => .nil
  | _, _, n + 1, .cons _ t => drop n t
theorem split : ∀ {xs xs' : List α} {ys ys' : List β}, xs.length = ys.length → Al R (xs ++ xs') (ys ++ ys') → Al R xs ys ∧ Al R xs' ys'
  | [], _, [], _, _, h => ⟨.nil, h⟩
  | [], _, _ :: _, _, e, _ => by simp at e
  | _ :: _, _, [], _, e, _ => by simp at e
  | a :: xs, xs', b :: ys, ys', e, h => by
    cases h with
    | cons r t =>
      obtain ⟨h1, h2⟩ := split (by simpa using e) t
      exact ⟨.cons r h1, h2⟩
theorem rep {xs : List α} {ys : List β} (h : Al R xs ys) : ∀ n : Nat, Al R (List.replicate n xs).flatten (List.replicate n ys).flatten
  | 0 => .nil
  | n + 1 => by simpa [List.replicate_succ] using h.append (rep h n)
theorem reverse : ∀ {xs : List α} {ys : List β}, Al R xs ys → Al R xs.reverse ys.reverse
  | _, _, .nil => .nil
  | _, _, .cons r t => by simpa using (reverse t).append (.cons r .nil)
theorem dropLast : ∀ {xs : List α} {ys : List β}, Al R xs ys → Al R xs.dropLast ys.dropLast
  | _, _, h => by rw [List.dropLast_eq_take, List.dropLast_eq_take, h.length]; exact h.take _
end Al

/-! ### data at a value -/
mutual
inductive Rep (K : Fg) (F : Hp) : V → D → Prop
  | non : Rep K F .non .non
  | bl (b : Bool) : Rep K F (.bl b) (.bl b)
  | int (i : Int) : Rep K F (.int i) (.int i)
  | str (x : Str) : Rep K F (.str x) (.str x)
  | tup {a : Addr} {xs : List V} {ds : List D} : SqT K F a xs → Reps K F xs ds → Rep K F (.ref a) (.tup ds)
  | lst {a : Addr} {xs : List V} {ds : List D} : F a = some (.lst xs) → Reps K F xs ds → Rep K F (.ref a) (.lst ds)
  | rol {a : Addr} {xs : List V} {ds : List D} : SqL K F a xs → Reps K F xs ds → Rep K F (.ref a) (.rol ds)
inductive Reps (K : Fg) (F : Hp) : List V → List D → Prop
  | nil : Reps K F [] []
  | cons {v : V} {vs : List V} {d : D} {ds : List D} : Rep K F v d → Reps K F vs ds → Reps K F (v :: vs) (d :: ds)
end
theorem Reps.al {K : Fg} {F : Hp} : ∀ {vs : List V} {ds : List D}, Reps K F vs ds → Al (Rep K F) vs ds
  | _, _, .nil => .nil
  | _, _, .cons r t => .cons r (Reps.al t)
theorem Reps.of {K : Fg} {F : Hp} : ∀ {vs : List V} {ds : List D}, Al (Rep K F) vs ds → Reps K F vs ds
  | _, _, .nil => .nil
  | _, _, .cons r t => .cons r (Reps.of t)
theorem same_seqT {K : Fg} {H H' : Hp} {a : Addr} {xs : List V} (e : Same H H') (h : SqT K H a xs) : SqT K H' a xs := by
  rcases h with (h | ⟨o, h⟩) | h
  · exact .inl (.inl (e _ _ h))
  · exact .inl (.inr ⟨o, e _ _ h⟩)
  · exact .inr h
mutual
theorem Rep.mono {K : Fg} {F F' : Hp} (e : Same F F') : ∀ (d : D) (v : V), Rep K F v d → Rep K F' v d
  | .non, _, h => by cases h; exact .non
  | .bl b, _, h => by cases h; exact .bl b
  | .int i, _, h => by cases h; exact .int i
  | .str x, _, h => by cases h; exact .str x
  | .tup ds, _, h => by
    cases h with
    | tup hs ha => exact .tup (same_seqT e hs) (Reps.mono e ds _ ha)
  | .lst ds, _, h => by
    cases h with
    | lst hs ha => exact .lst (e _ _ hs) (Reps.mono e ds _ ha)
  | .rol ds, _, h => by
    cases h with
    | rol hs ha => exact .rol (e.seq hs) (Reps.mono e ds _ ha)
theorem Reps.mono {K : Fg} {F F' : Hp} (e : Same F F') : ∀ (ds : List D) (vs : List V), Reps K F vs ds → Reps K F' vs ds
  | [], _, h => by cases h; exact .nil
  | d :: ds, _, h => by
    cases h with
    | cons h1 h2 => exact .cons (Rep.mono e d _ h1) (Reps.mono e ds _ h2)
end
theorem Rep.up {K : Fg} {F F' : Hp} {v : V} {d : D} (h : Rep K F v d) (e : Same F F') : Rep K F' v d := Rep.mono e d v h
theorem Reps.up {K : Fg} {F F' : Hp} {vs : List V} {ds : List D} (h : Reps K F vs ds) (e : Same F F') : Reps K F' vs ds := Reps.mono e ds vs h

theorem same_upd {H : Hp} {p : Addr} {o : HO} (h : H p = none) : Same H (upd H p o) := fun b x e => by
  rw [upd_ne (ne_of_none e h)]
  exact e

/-- a value of the store -/
def RelA (K : Fg) (F : Hp) (own : List Addr) (v : V) : A → Prop
  | .d x => Rep K F v x
  | .cell n => ∃ l, own[n]? = some l ∧ v = .ref l
  | .un => False
def RelS (K : Fg) (F : Hp) (own : List Addr) (o : Option V) (a : A) : Prop := a = .un ∨ ∃ v, o = some v ∧ RelA K F own v a
theorem RelA.up {K : Fg} {F F' : Hp} {own t : List Addr} {v : V} {a : A} (h : RelA K F own v a) (e : Same F F') : RelA K F' (own ++ t) v a := by
  cases a with
  | d x => exact Rep.up h e
  | cell n =>
    obtain ⟨l, h1, h2⟩ := h
    exact ⟨l, by rw [List.getElem?_append_left (List.getElem?_eq_some_iff.mp h1).1]; exact h1, h2⟩
  | un => exact h
theorem RelA.upF {K : Fg} {F F' : Hp} {own : List Addr} {v : V} {a : A} (h : RelA K F own v a) (e : Same F F') : RelA K F' own v a := by
  have := h.up (t := []) e
  rwa [List.append_nil] at this
theorem RelS.up {K : Fg} {F F' : Hp} {own t : List Addr} {o : Option V} {a : A} (h : RelS K F own o a) (e : Same F F') : RelS K F' (own ++ t) o a := by
  rcases h with h | ⟨v, h1, h2⟩
  · exact .inl h
  · exact .inr ⟨v, h1, h2.up e⟩
/-- a cell's object -/
def OOk (K : Fg) (F : Hp) (own : List Addr) (H : Hp) (l : Addr) : O → Prop
  | .lst xs => ∃ vs, H l = some (.lst vs) ∧ Al (RelA K F own) vs xs
  | .frz x => Rep K F (.ref l) x ∧ F l ≠ none

/-- where one started: the frozen part, the heap, the cells that were there -/
structure Base where
  F_0 : Hp
  H_0 : Hp
  ps : List Addr
structure Core (K : Fg) (B : Base) (H F : Hp) (own : List Addr) (M : List O) : Prop where
  len : own.length = M.length
  nd : own.Nodup
  fh : Same F H
  f0 : Same B.F_0 F
  hh : ∀ a o, a ∉ B.ps → B.H_0 a = some o → H a = some o
  new : ∀ a, a ∉ B.ps → B.F_0 a = none → B.H_0 a ≠ none → F a = none
  obj : ∀ (n : Nat) l o, own[n]? = some l → M[n]? = some o → OOk K F own H l o
  mtb : ∀ (n : Nat) l o, own[n]? = some l → M[n]? = some o → o.isFrz = false → F l = none ∧ (l ∈ B.ps ∨ B.H_0 l = none)
  pre : ∃ t, own = B.ps ++ t
section
variable {K : Fg} {B : Base} {H F H' F' : Hp} {own own' : List Addr} {M M' : List O}
theorem OOk.some {l : Addr} {o : O} (h : OOk K F own H l o) (e : Same F H) : H l ≠ none := by
  cases o with
  | lst xs => obtain ⟨vs, q, _⟩ := h; rw [q]; simp
  | frz x =>
    obtain ⟨_, q⟩ := h
    cases r : F l with
    | none => exact absurd r q
    | some o => rw [e _ _ r]; simp
theorem Core.at_own (c : Core K B H F own M) {l : Addr} (h : l ∈ own) : ∃ (n : Nat) (o : O), own[n]? = some l ∧ M[n]? = some o := by
  obtain ⟨n, hn⟩ := List.getElem?_of_mem h
  have hl := (List.getElem?_eq_some_iff.mp hn).1
  exact ⟨n, M[n]'(by rw [← c.len]; exact hl), hn, List.getElem?_eq_getElem _⟩
theorem Core.own_some (c : Core K B H F own M) {l : Addr} (h : l ∈ own) : H l ≠ none := by
  obtain ⟨n, o, h1, h2⟩ := c.at_own h
  exact (c.obj n l o h1 h2).some c.fh
/-- a new start, here -/
theorem Core.rebase (c : Core K B H F own M) : Core K ⟨F, H, own⟩ H F own M where
  len := c.len
  nd := c.nd
  fh := c.fh
  f0 := Same.refl F
  hh := fun _ _ _ h => h
  new := fun _ _ h _ => h
  obj := c.obj
  mtb := fun n l o h1 h2 h3 => ⟨(c.mtb n l o h1 h2 h3).1, .inl (List.mem_of_getElem? h1)⟩
  pre := ⟨[], by simp⟩
/-- of what is ours (not frozen) nothing stood at the start but the given cells -/
theorem Core.own_new (c : Core K B H F own M) {l : Addr} (h : l ∈ own) (hf : F l = none) : l ∈ B.ps ∨ B.H_0 l = none := by
  obtain ⟨n, o, h1, h2⟩ := c.at_own h
  cases q : o.isFrz with
  | false => exact (c.mtb n l o h1 h2 q).2
  | true =>
    cases o with
    | lst xs => cases q
    | frz x => exact absurd hf (c.obj n l _ h1 h2).2
theorem Core.unbase (c : Core K B H F own M) (c' : Core K ⟨F, H, own⟩ H' F' own' M') : Core K B H' F' own' M' where
  len := c'.len
  nd := c'.nd
  fh := c'.fh
  f0 := c.f0.trans c'.f0
  hh := fun a o hp h0 => by
    have h1 := c.hh a o hp h0
    by_cases ha : a ∈ own
    · cases hf : F a with
      | none =>
        rcases c.own_new ha hf with z | z
        · exact absurd z hp
        · rw [z] at h0; cases h0
      | some u =>
        have := c.fh _ _ hf
        rw [h1] at this; cases this
        exact c'.fh _ _ (c'.f0 _ _ hf)
    · exact c'.hh a o ha h1
  new := fun a hp h0 h1 => by
    have hf := c.new a hp h0 h1
    have hH : H a ≠ none := by
      cases q : B.H_0 a with
      | none => exact absurd q h1
      | some o => rw [c.hh a o hp q]; simp
    by_cases ha : a ∈ own
    · rcases c.own_new ha hf with z | z
      · exact absurd z hp
      · exact absurd z h1
    · exact c'.new a ha hf hH
  obj := c'.obj
  mtb := fun n l o h1 h2 h3 => by
    obtain ⟨hf, hl⟩ := c'.mtb n l o h1 h2 h3
    refine ⟨hf, ?_⟩
    have hF : F l = none := by
      cases q : F l with
      | none => rfl
      | some u => rw [c'.f0 _ _ q] at hf; cases hf
    rcases hl with hl | hl
    · exact c.own_new hl hF
    · by_cases hp : l ∈ B.ps
      · exact .inl hp
      · cases q : B.H_0 l with
        | none => exact .inr rfl
        | some u =>
          have e1 := c.hh l u hp q
          have e2 : H l = none := hl
          rw [e2] at e1; cases e1
  pre := by
    obtain ⟨t, e⟩ := c.pre
    obtain ⟨t', e'⟩ := c'.pre
    refine ⟨t ++ t', ?_⟩
    have e2 : own' = own ++ t' := e'
    rw [e2, e, List.append_assoc]
/-- an empty store, here -/
theorem core_nil (e : Same F H) : Core K ⟨F, H, []⟩ H F [] [] where
  len := rfl
  nd := List.nodup_nil
  fh := e
  f0 := Same.refl F
  hh := fun _ _ _ h => h
  new := fun _ _ h _ => h
  obj := fun n l o h => by simp at h
  mtb := fun n l o h => by simp at h
  pre := ⟨[], rfl⟩
/-- behind a call that got no cells -/
theorem Core.after (c : Core K B H F own M) (c' : Core K ⟨F, H, []⟩ H' F' own' M') : Core K B H' F' own M where
  len := c.len
  nd := c.nd
  fh := c'.fh
  f0 := c.f0.trans c'.f0
  hh := fun a o hp h0 => c'.hh a o (by simp) (c.hh a o hp h0)
  new := fun a hp h0 h1 => by
    have hf := c.new a hp h0 h1
    have hH : H a ≠ none := by
      cases q : B.H_0 a with
      | none => exact absurd q h1
      | some o => rw [c.hh a o hp q]; simp
    exact c'.new a (by simp) hf hH
  obj := fun n l o h1 h2 => by
    have q := c.obj n l o h1 h2
    cases o with
    | lst xs =>
      obtain ⟨vs, hv, ha⟩ := q
      exact ⟨vs, c'.hh l _ (by simp) hv, ha.mono fun _ _ r => r.upF c'.f0⟩
    | frz x =>
      obtain ⟨hr, hn⟩ := q
      refine ⟨hr.up c'.f0, ?_⟩
      cases z : F l with
      | none => exact absurd z hn
      | some u => rw [c'.f0 _ _ z]; simp
  mtb := fun n l o h1 h2 h3 => by
    obtain ⟨hf, hl⟩ := c.mtb n l o h1 h2 h3
    have hm := List.mem_of_getElem? h1
    exact ⟨c'.new l (by simp) hf (c.own_some hm), hl⟩
  pre := c.pre
/-- the same, what was frozen for the call alone is free again -/
theorem Core.back (c : Core K B H F own M) {F1 : Hp} (e1 : Same F F1) (c' : Core K ⟨F1, H, []⟩ H' F' own' M') : Core K B H' F own M where
  len := c.len
  nd := c.nd
  fh := (e1.trans c'.f0).trans c'.fh
  f0 := c.f0
  hh := fun a o hp h0 => c'.hh a o (by simp) (c.hh a o hp h0)
  new := c.new
  obj := fun n l o h1 h2 => by
    have q := c.obj n l o h1 h2
    cases o with
    | lst xs =>
      obtain ⟨vs, hv, ha⟩ := q
      exact ⟨vs, c'.hh l _ (by simp) hv, ha⟩
    | frz x => exact q
  mtb := c.mtb
  pre := c.pre
/-- something new, frozen at once -/
theorem Core.laid (c : Core K B H F own M) {p : Addr} {o : HO} (hp : H p = none) : Core K B (upd H p o) (upd F p o) own M ∧ Same F (upd F p o) := by
  have fp : F p = none := c.fh.free hp
  have ne : ∀ l, l ∈ own → l ≠ p := fun l hl e => by subst e; exact c.own_some hl hp
  have sF : Same F (upd F p o) := same_upd fp
  refine ⟨⟨c.len, c.nd, fun b x e => ?_, c.f0.trans sF, fun a x ha h0 => ?_, fun a ha h0 h1 => ?_, fun n l ob h1 h2 => ?_, fun n l ob h1 h2 h3 => ?_, c.pre⟩, sF⟩
  · by_cases hb : b = p
    · subst hb; rw [upd_same] at e ⊢; exact e
    · rw [upd_ne hb] at e ⊢; exact c.fh _ _ e
  · have := c.hh a x ha h0
    rw [upd_ne (ne_of_none this hp)]; exact this
  · have hne : a ≠ p := fun e => by
      subst e
      cases q : B.H_0 a with
      | none => exact h1 q
      | some u => rw [c.hh a u ha q] at hp; cases hp
    rw [upd_ne hne]; exact c.new a ha h0 h1
  · have q := c.obj n l ob h1 h2
    have hl := ne l (List.mem_of_getElem? h1)
    cases ob with
    | lst xs =>
      obtain ⟨vs, hv, ha⟩ := q
      exact ⟨vs, by rw [upd_ne hl]; exact hv, ha.mono fun _ _ r => r.upF sF⟩
    | frz x => exact ⟨q.1.up sF, by rw [upd_ne hl]; exact q.2⟩
  · have hl := ne l (List.mem_of_getElem? h1)
    rw [upd_ne hl]; exact c.mtb n l ob h1 h2 h3
/-- a new cell -/
theorem Core.push (c : Core K B H F own M) {p : Addr} {o : HO} {u : O} (hp : H p = none) (hu : u.isFrz = false) (hok : ∀ own', (∃ t, own' = own ++ t) → OOk K F own' (upd H p o) p u) : Core K B (upd H p o) F (own ++ [p]) (M ++ [u]) := by
  have fp : F p = none := c.fh.free hp
  have hnm : p ∉ own := fun h => c.own_some h hp
  have ne : ∀ l, l ∈ own → l ≠ p := fun l hl e => hnm (e ▸ hl)
  refine ⟨by simp [c.len], List.nodup_append.mpr ⟨c.nd, by simp, fun a ha b hb => ?_⟩, fun b x e => ?_, c.f0, fun a x ha h0 => ?_, c.new, fun n l ob h1 h2 => ?_, fun n l ob h1 h2 h3 => ?_, ?_⟩
  · simp at hb; subst hb; exact ne a ha
  · rw [upd_ne (ne_of_none (c.fh _ _ e) hp)]; exact c.fh _ _ e
  · have := c.hh a x ha h0
    rw [upd_ne (ne_of_none this hp)]; exact this
  · by_cases hn : n < own.length
    · rw [List.getElem?_append_left hn] at h1
      rw [List.getElem?_append_left (c.len ▸ hn)] at h2
      have hl := ne l (List.mem_of_getElem? h1)
      have q := c.obj n l ob h1 h2
      cases ob with
      | lst xs =>
        obtain ⟨vs, hv, ha⟩ := q
        exact ⟨vs, by rw [upd_ne hl]; exact hv, ha.mono fun _ _ r => r.up (Same.refl F)⟩
      | frz x => exact q
    · have hz : n = own.length := by
        have := (List.getElem?_eq_some_iff.mp h1).1
        simp at this; omega
      subst hz
      have e1 : l = p := by simpa using h1.symm
      have e2 : ob = u := by rw [c.len] at h2; simpa using h2.symm
      subst e1; subst e2
      exact hok _ ⟨_, rfl⟩
  · by_cases hn : n < own.length
    · rw [List.getElem?_append_left hn] at h1
      rw [List.getElem?_append_left (c.len ▸ hn)] at h2
      exact c.mtb n l ob h1 h2 h3
    · have hz : n = own.length := by
        have := (List.getElem?_eq_some_iff.mp h1).1
        simp at this; omega
      subst hz
      have e1 : l = p := by simpa using h1.symm
      subst e1
      refine ⟨fp, ?_⟩
      by_cases hps : l ∈ B.ps
      · exact .inl hps
      · cases q : B.H_0 l with
        | none => exact .inr rfl
        | some w => rw [c.hh l w hps q] at hp; cases hp
  · obtain ⟨t, e⟩ := c.pre
    exact ⟨t ++ [p], by rw [e, List.append_assoc]⟩
/-- a cell's content is changed -/
theorem Core.store (c : Core K B H F own M) {n : Nat} {p : Addr} {o : HO} {u0 u : O} (hn : own[n]? = some p) (hM : M[n]? = some u0) (h0 : u0.isFrz = false) (hu : u.isFrz = false) (hok : OOk K F own (upd H p o) p u) : Core K B (upd H p o) F own (M.set n u) := by
  have fp := (c.mtb n p u0 hn hM h0).1
  have fps := (c.mtb n p u0 hn hM h0).2
  refine ⟨by simp [c.len], c.nd, fun b x e => ?_, c.f0, fun a x ha hx => ?_, c.new, fun m l ob h1 h2 => ?_, fun m l ob h1 h2 h3 => ?_, c.pre⟩
  · rw [upd_ne (ne_of_none e fp)]; exact c.fh _ _ e
  · have hne : a ≠ p := fun e => by
      subst e
      rcases fps with z | z
      · exact ha z
      · rw [z] at hx; cases hx
    rw [upd_ne hne]; exact c.hh a x ha hx
  · by_cases hm : m = n
    · subst hm
      rw [hn] at h1; cases h1
      have hlt : m < M.length := (List.getElem?_eq_some_iff.mp hM).1
      rw [List.getElem?_set_self hlt] at h2; cases h2
      exact hok
    · rw [List.getElem?_set_ne (Ne.symm hm)] at h2
      have hl : l ≠ p := fun e => by
        subst e
        obtain ⟨q1, e1⟩ := List.getElem?_eq_some_iff.mp h1
        obtain ⟨q2, e2⟩ := List.getElem?_eq_some_iff.mp hn
        exact hm ((List.getElem_inj c.nd).mp (e1.trans e2.symm))
      have q := c.obj m l ob h1 h2
      cases ob with
      | lst xs =>
        obtain ⟨vs, hv, ha⟩ := q
        exact ⟨vs, by rw [upd_ne hl]; exact hv, ha⟩
      | frz x => exact q
  · by_cases hm : m = n
    · subst hm
      rw [hn] at h1; cases h1
      exact ⟨fp, fps⟩
    · rw [List.getElem?_set_ne (Ne.symm hm)] at h2
      exact c.mtb m l ob h1 h2 h3
/-- a cell is frozen as it stands -/
theorem Core.freeze (c : Core K B H F own M) {n : Nat} {p : Addr} {o : HO} {u0 : O} {x : D} (hn : own[n]? = some p) (hM : M[n]? = some u0) (h0 : u0.isFrz = false) (hH : H p = some o) (hr : Rep K (upd F p o) (.ref p) x) :
    Core K B H (upd F p o) own (M.set n (.frz x)) ∧ Same F (upd F p o) := by
  have fp := (c.mtb n p u0 hn hM h0).1
  have fps := (c.mtb n p u0 hn hM h0).2
  have sF : Same F (upd F p o) := same_upd fp
  have neq : ∀ {m : Nat} {l : Addr}, own[m]? = some l → m ≠ n → l ≠ p := fun {m l} h1 hm e => by
    subst e
    obtain ⟨q1, e1⟩ := List.getElem?_eq_some_iff.mp h1
    obtain ⟨q2, e2⟩ := List.getElem?_eq_some_iff.mp hn
    exact hm ((List.getElem_inj c.nd).mp (e1.trans e2.symm))
  refine ⟨⟨by simp [c.len], c.nd, fun b y e => ?_, c.f0.trans sF, c.hh, fun a ha hx hy => ?_, fun m l ob h1 h2 => ?_, fun m l ob h1 h2 h3 => ?_, c.pre⟩, sF⟩
  · by_cases hb : b = p
    · subst hb; rw [upd_same] at e; cases e; exact hH
    · rw [upd_ne hb] at e; exact c.fh _ _ e
  · have hne : a ≠ p := fun e => by
      subst e
      rcases fps with z | z
      · exact ha z
      · exact hy z
    rw [upd_ne hne]; exact c.new a ha hx hy
  · by_cases hm : m = n
    · subst hm
      rw [hn] at h1; cases h1
      have hlt : m < M.length := (List.getElem?_eq_some_iff.mp hM).1
      rw [List.getElem?_set_self hlt] at h2; cases h2
      exact ⟨hr, by rw [upd_same]; simp⟩
    · rw [List.getElem?_set_ne (Ne.symm hm)] at h2
      have hl := neq h1 hm
      have q := c.obj m l ob h1 h2
      cases ob with
      | lst xs =>
        obtain ⟨vs, hv, ha⟩ := q
        exact ⟨vs, hv, ha.mono fun _ _ r => r.upF sF⟩
      | frz x => exact ⟨q.1.up sF, by rw [upd_ne hl]; exact q.2⟩
  · by_cases hm : m = n
    · subst hm
      have hlt : m < M.length := (List.getElem?_eq_some_iff.mp hM).1
      rw [List.getElem?_set_self hlt] at h2; cases h2
      cases h3
    · rw [List.getElem?_set_ne (Ne.symm hm)] at h2
      have hl := neq h1 hm
      rw [upd_ne hl]; exact c.mtb m l ob h1 h2 h3
end
end Mini

set_option Elab.async false
set_option linter.all false
set_option maxRecDepth 100000
/-! Mini 2: a small language and what it does on the abstract store. -/
namespace Mini
open PySem PySem.Spec PyProof.Rows L2

/-- an error: its class's number, its fields -/
structure Ex where
  c : Nat
  fs : List (Str × Str)
inductive R (α : Type) where
  | ok (a : α) (M : List O) | ex (x : Ex) (M : List O) | no
def R.bind {α β : Type} : R α → (α → List O → R β) → R β
  | .ok a M, f => f a M
  | .ex x M, _ => .ex x M
  | .no, _ => .no
@[simp] theorem R.bind_ok {α β : Type} (a : α) (M : List O) (f : α → List O → R β) : (R.ok a M).bind f = f a M := rfl
@[simp] theorem R.bind_ex {α β : Type} (x : Ex) (M : List O) (f : α → List O → R β) : (R.ex x M).bind f = .ex x M := rfl
@[simp] theorem R.bind_no {α β : Type} (f : α → List O → R β) : (R.no).bind f = .no := rfl
/-- a statement's end -/
inductive RS where
  | nx (δ : List A) (M : List O) | rt (a : A) (M : List O) | bk (δ : List A) (M : List O) | ct (δ : List A) (M : List O) | ex (x : Ex) (δ : List A) (M : List O) | no
def RS.andThen : RS → (List A → List O → RS) → RS
  | .nx δ M, f => f δ M
  | r, _ => r
@[simp] theorem RS.andThen_nx (δ : List A) (M : List O) (f : List A → List O → RS) : (RS.nx δ M).andThen f = f δ M := rfl
@[simp] theorem RS.andThen_rt (a : A) (M : List O) (f : List A → List O → RS) : (RS.rt a M).andThen f = .rt a M := rfl
@[simp] theorem RS.andThen_bk (δ : List A) (M : List O) (f : List A → List O → RS) : (RS.bk δ M).andThen f = .bk δ M := rfl
@[simp] theorem RS.andThen_ct (δ : List A) (M : List O) (f : List A → List O → RS) : (RS.ct δ M).andThen f = .ct δ M := rfl
@[simp] theorem RS.andThen_ex (x : Ex) (δ : List A) (M : List O) (f : List A → List O → RS) : (RS.ex x δ M).andThen f = .ex x δ M := rfl
@[simp] theorem RS.andThen_no (f : List A → List O → RS) : (RS.no).andThen f = .no := rfl
def R.toS {α : Type} (r : R α) (δ : List A) (f : α → List O → RS) : RS := match r with
  | .ok a M => f a M
  | .ex x M => .ex x δ M
  | .no => .no
@[simp] theorem R.toS_ok {α : Type} (a : α) (M : List O) (δ : List A) (f : α → List O → RS) : (R.ok a M).toS δ f = f a M := rfl
@[simp] theorem R.toS_ex {α : Type} (x : Ex) (M : List O) (δ : List A) (f : α → List O → RS) : (R.ex x M).toS δ f = .ex x δ M := rfl
@[simp] theorem R.toS_no {α : Type} (δ : List A) (f : α → List O → RS) : (R.no : R α).toS δ f = .no := rfl

/-! ### looking into the store -/
def frzL (f : List O → A → Option (D × List O)) : List O → List A → Option (List D × List O)
  | M, [] => some ([], M)
  | M, a :: r => match f M a with
    | some (x, M1) => (match frzL f M1 r with
      | some (xs, M2) => some (x :: xs, M2)
      | none => none)
    | none => none
def frz : Nat → List O → A → Option (D × List O)
  | _, M, .d x => some (x, M)
  | _, _, .un => none
  | 0, _, .cell _ => none
  | k + 1, M, .cell n => match M[n]? with
    | some (.frz x) => some (x, M)
    | some (.lst xs) => (match frzL (frz k) M xs with
      | some (ds, M1) => (match M1[n]? with
        | some (.lst _) => some (.lst ds, M1.set n (.frz (.lst ds)))
        | _ => none)
      | none => none)
    | _ => none
/-- a list's items -/
def lsv (M : List O) : A → Option (List A)
  | .d (.lst ds) => some (ds.map .d)
  | .d (.rol ds) => some (ds.map .d)
  | .cell n => (match M[n]? with
    | some (.lst xs) => some xs
    | some (.frz (.lst ds)) => some (ds.map .d)
    | _ => none)
  | _ => none
/-- .. of a list that is no read-only one -/
def lsw (M : List O) : A → Option (List A)
  | .d (.lst ds) => some (ds.map .d)
  | .cell n => (match M[n]? with
    | some (.lst xs) => some xs
    | some (.frz (.lst ds)) => some (ds.map .d)
    | _ => none)
  | _ => none
def tpv (M : List O) : A → Option (List D)
  | .d (.tup ds) => some ds
  | _ => none
def newL (M : List O) (xs : List A) : R A := .ok (.cell M.length) (M ++ [.lst xs])
/-- a new list of these -/
def mkL (M : List O) (xs : List A) : R A := if xs.length ≤ sizeLine then newL M xs else .no

def tru (M : List O) : A → Option Bool
  | .d .non => some false
  | .d (.bl b) => some b
  | .d (.int i) => some (i != 0)
  | .d (.str y) => if y.length ≤ sizeLine then some ((y.length : Int) != 0) else none
  | .d (.tup ds) => some (!ds.isEmpty)
  | a => (match lsv M a with
    | some xs => some (!xs.isEmpty)
    | none => none)

/-! ### operators -/
inductive Bin where | add | sub | mul | fdv | mod | pow
inductive Cmp where | eq | ne | lt | le | gt | ge | isN | notN | inn | nin
inductive Ty where | non | bool | int | str | tup | lst | dic
  deriving DecidableEq
inductive Bi where | len | int | str | abs | max | min | list | tuple | comb
inductive Mt where | append | pop | join
inductive IK where | seq | r1 | r2
inductive Tg where | one (i : Nat) | many (is : List Nat)

def bits (i : Int) : Nat := i.natAbs.log2
def okMul (i j : Int) : Bool := decide (bits i + bits j < 1000000)
def okDiv (j : Int) : Bool := decide (0 < j) && decide (bits j < 9000)
def okPow (i j : Int) : Bool := decide (0 ≤ j) && decide (j ≤ 1000000) && decide (i.natAbs < 2 ^ 64)
def addA (a b : A) (M : List O) : R A := match a, b with
  | .d (.int i), .d (.int j) => .ok (.d (.int (i + j))) M
  | .d (.str x), .d (.str y) => if x.length + y.length ≤ sizeLine then .ok (.d (.str (x ++ y))) M else .no
  | .d (.tup x), .d (.tup y) => if x.length + y.length ≤ sizeLine ∧ x.isEmpty = false then .ok (.d (.tup (x ++ y))) M else .no
  | a, b => (match lsw M a, lsw M b with
    | some xs, some ys => mkL M (xs ++ ys)
    | _, _ => .no)
def subA (a b : A) (M : List O) : R A := match a, b with
  | .d (.int i), .d (.int j) => .ok (.d (.int (i - j))) M
  | _, _ => .no
def mulA (a b : A) (M : List O) : R A := match a, b with
  | .d (.int i), .d (.int j) => if okMul i j then .ok (.d (.int (i * j))) M else .no
  | _, _ => .no
def fdvA (a b : A) (M : List O) : R A := match a, b with
  | .d (.int i), .d (.int j) => if okDiv j then .ok (.d (.int (i / j))) M else .no
  | _, _ => .no
def modA (a b : A) (M : List O) : R A := match a, b with
  | .d (.int i), .d (.int j) => if 0 < j then .ok (.d (.int (i % j))) M else .no
  | _, _ => .no
def powA (a b : A) (M : List O) : R A := match a, b with
  | .d (.int i), .d (.int j) => if okPow i j then .ok (.d (.int (i ^ j.toNat))) M else .no
  | _, _ => .no
def bin : Bin → A → A → List O → R A
  | .add => addA
  | .sub => subA
  | .mul => mulA
  | .fdv => fdvA
  | .mod => modA
  | .pow => powA

/-- scalars as values -/
def D.sv : D → Option V
  | .non => some .non
  | .bl b => some (.bl b)
  | .int i => some (.int i)
  | .str x => some (.str x)
  | _ => none
mutual
def D.py : D → PyData
  | .non => .none
  | .bl b => .bool b
  | .int i => .int i
  | .str x => .str x
  | .tup ds => .tuple (D.pys ds)
  | .lst ds => .list (D.pys ds)
  | .rol ds => .list (D.pys ds)
def D.pys : List D → List PyData
  | [] => []
  | d :: r => D.py d :: D.pys r
end
/-- == -/
def eqA (a b : A) (M : List O) : Option Bool := match a, b with
  | .d (.int i), .d (.int j) => some (i == j)
  | .d (.str x), .d (.str y) => some (x == y)
  | .d (.bl x), .d (.bl y) => some (x == y)
  | .d .non, .d .non => some true
  | a, b => (match frz 8 M a with
    | some (x, M1) => (match frz 8 M1 b with
      | some (y, _) => if SeqAt.shaped x.py && SeqAt.shaped y.py then some (PyData.eqv x.py y.py) else none
      | none => none)
    | none => none)
def neA (a b : A) (M : List O) : Option Bool := match eqA a b M with
  | some k => some (!k)
  | none => none
def isNA (a b : A) (_ : List O) : Option Bool := match b with
  | .d .non => (match a with
    | .d .non => some true
    | .d _ => some false
    | .cell _ => some false
    | .un => none)
  | _ => none
def notNA (a b : A) (M : List O) : Option Bool := match isNA a b M with
  | some k => some (!k)
  | none => none
def ltA (a b : A) (_ : List O) : Option Bool := match a, b with
  | .d (.int i), .d (.int j) => some (decide (i < j))
  | _, _ => none
def leA (a b : A) (_ : List O) : Option Bool := match a, b with
  | .d (.int i), .d (.int j) => some (decide (i ≤ j))
  | _, _ => none
def gtA (a b : A) (_ : List O) : Option Bool := match a, b with
  | .d (.int i), .d (.int j) => some (decide (j < i))
  | _, _ => none
def geA (a b : A) (_ : List O) : Option Bool := match a, b with
  | .d (.int i), .d (.int j) => some (decide (j ≤ i))
  | _, _ => none
/-- == of scalars -/
def eqS : D → D → Bool
  | .non, .non => true
  | .bl a, .bl b => a == b
  | .bl a, .int b => (if a then 1 else 0) == b
  | .int a, .bl b => a == (if b then 1 else 0)
  | .int a, .int b => a == b
  | .str a, .str b => a == b
  | _, _ => false
def D.isSc : D → Bool
  | .non => true
  | .bl _ => true
  | .int _ => true
  | .str _ => true
  | _ => false
def scs : List A → Option (List D)
  | [] => some []
  | .d x :: r => if x.isSc then (match scs r with
    | some xs => some (x :: xs)
    | none => none) else none
  | _ :: _ => none
def seqv (M : List O) : A → Option (List A)
  | .d (.tup ds) => some (ds.map .d)
  | a => lsv M a
def innA (a b : A) (M : List O) : Option Bool := match seqv M b with
  | some ys => (match scs [a], scs ys with
    | some [x], some zs => some (zs.any fun y => eqS y x)
    | _, _ => none)
  | none => none
def ninA (a b : A) (M : List O) : Option Bool := match innA a b M with
  | some k => some (!k)
  | none => none
def cmp : Cmp → A → A → List O → Option Bool
  | .eq => eqA
  | .ne => neA
  | .lt => ltA
  | .le => leA
  | .gt => gtA
  | .ge => geA
  | .isN => isNA
  | .notN => notNA
  | .inn => innA
  | .nin => ninA
/-- a comparison's value -/
def cmpR (o : Cmp) (a b : A) (M : List O) : R A := match cmp o a b M with
  | some k => .ok (.d (.bl k)) M
  | none => .no
def tyOf (M : List O) : A → Option Ty
  | .d .non => some .non
  | .d (.bl _) => some .bool
  | .d (.int _) => some .int
  | .d (.str _) => some .str
  | .d (.tup _) => some .tup
  | .d (.lst _) => some .lst
  | .d (.rol _) => none
  | .cell n => (match M[n]? with
    | some (.lst _) => some .lst
    | some (.frz (.lst _)) => some .lst
    | _ => none)
  | .un => none
def Ty.sub (a b : Ty) : Bool := decide (a = b) || (match a, b with
  | .bool, .int => true
  | _, _ => false)

/-! ### items, slices -/
def cutA {α : Type} (xs : List α) (lo hi : Option Int) : List α := (xs.drop (HT.sIx xs.length 0 lo)).take (HT.sIx xs.length xs.length hi - HT.sIx xs.length 0 lo)
def ixA (M : List O) (a b : A) : R A := match b with
  | .d (.int i) => (match a with
    | .d (.tup ds) => (match atI ds i with
      | some x => .ok (.d x) M
      | none => .no)
    | .d (.str z) => if z.length ≤ sizeLine then (match atI z.cps.toList i with
        | some c => .ok (.d (.str ⟨#[c]⟩)) M
        | none => .no) else .no
    | a => (match lsv M a with
      | some xs => (match atI xs i with
        | some x => .ok x M
        | none => .no)
      | none => .no))
  | _ => .no
/-- a slice's end: written or not -/
def part : Bool → A → Option (Option Int)
  | false, _ => some none
  | true, .d (.int i) => some (some i)
  | _, _ => none
def slA (M : List O) (a : A) (l h : Option Int) : R A := match a with
  | .d (.tup ds) => if HT.sIx ds.length 0 l = 0 ∧ HT.sIx ds.length ds.length h = ds.length then .no else .ok (.d (.tup (cutA ds l h))) M
  | .d (.str z) => if z.length ≤ sizeLine then .ok (.d (.str (cutS z l h))) M else .no
  | a => (match lsv M a with
    | some xs => newL M (cutA xs l h)
    | none => .no)

/-! ### built-ins -/
def lenA (M : List O) : A → Option Nat
  | .d (.str z) => if z.length ≤ sizeLine then some z.length else none
  | .d (.tup ds) => some ds.length
  | a => (match lsv M a with
    | some xs => some xs.length
    | none => none)
/-- math.comb, as the text's own computation of it -/
def combI (n k : Int) : Int := Builtin.Math.fallingProduct n (min k (n - k)).toNat / Builtin.Math.fallingProduct (min k (n - k)) (min k (n - k)).toNat
def bi (b : Bi) (as : List A) (M : List O) : R A := match b, as with
  | .len, [a] => (match lenA M a with
    | some n => .ok (.d (.int (n : Int))) M
    | none => .no)
  | .int, [.d (.int i)] => .ok (.d (.int i)) M
  | .int, [.d (.bl k)] => .ok (.d (.int (if k then 1 else 0))) M
  | .str, [.d (.int i)] => if i.natAbs.log2 < 1920 then .ok (.d (.str (toString i))) M else .no
  | .abs, [.d (.int i)] => .ok (.d (.int (if i < 0 then -i else i))) M
  | .max, [.d (.int i), .d (.int j)] => .ok (.d (.int (if j > i then j else i))) M
  | .min, [.d (.int i), .d (.int j)] => .ok (.d (.int (if j < i then j else i))) M
  | .comb, [.d (.int n), .d (.int k)] => if 0 ≤ n ∧ 0 ≤ k ∧ n ≤ 1000 then (if n < k then .ok (.d (.int 0)) M else if (combI n k).natAbs.log2 < bitsLine then .ok (.d (.int (combI n k))) M else .no) else .no
  | .list, [a] => (match a with
    | .d (.tup ds) => newL M (ds.map .d)
    | a => (match lsv M a with
      | some xs => newL M xs
      | none => .no))
  | .tuple, [a] => (match a with
    | .d (.tup ds) => .ok (.d (.tup ds)) M
    | a => (match lsv M a with
      | some xs => (match frzL (frz 8) M xs with
        | some (ds, M1) => .ok (.d (.tup ds)) M1
        | none => .no)
      | none => .no))
  | _, _ => .no
def strsA : List A → Option (List Str)
  | [] => some []
  | .d (.str x) :: r => (match strsA r with
    | some xs => some (x :: xs)
    | none => none)
  | _ :: _ => none
def mt (m : Mt) (a : A) (as : List A) (M : List O) : R A := match m, a, as with
  | .append, .cell n, [y] => (match M[n]? with
    | some (.lst xs) => if xs.length < sizeLine then .ok (.d .non) (M.set n (.lst (xs ++ [y]))) else .no
    | _ => .no)
  | .pop, .cell n, [] => (match M[n]? with
    | some (.lst xs) => (match xs[xs.length - 1]? with
      | some y => .ok y (M.set n (.lst xs.dropLast))
      | none => .no)
    | _ => .no)
  | .join, .d (.str z), [b] => (match lsw M b with
    | some xs => (match strsA xs with
      | some ys => if (ys.map (·.length)).sum + ys.length * z.length ≤ 16777216 then .ok (.d (.str (Txt.join z ys))) M else .no
      | none => .no)
    | none => .no)
  | _, _, _ => .no

/-- whose method it is -/
def rcv (m : Mt) (M : List O) (a : A) : Bool := match m with
  | .append => (lsv M a).isSome
  | .pop => (lsv M a).isSome
  | .join => (match a with
    | .d (.str _) => true
    | _ => false)

/-! ### targets, what is walked -/
def setTg (tg : Tg) (a : A) (δ : List A) : Option (List A) := match tg with
  | .one i => some (δ.set i a)
  | .many is => (match a with
    | .d (.tup ds) => if ds.length = is.length then some ((is.zip ds).foldl (fun δ p => δ.set p.1 (.d p.2)) δ) else none
    | _ => none)
/-- the items: data; a list of the store is frozen -/
def seqIt (M : List O) : A → Option (List D × List O)
  | .d (.tup ds) => some (ds, M)
  | a => (match frz 8 M a with
    | some (.lst ds, M1) => some (ds, M1)
    | some (.rol ds, M1) => some (ds, M1)
    | _ => none)
/-- a range's end is no huge number (by Nat.ble: nothing to peel where it is no numeral) -/
def inR (j : Int) : Bool := Nat.ble j.natAbs 4611686018427387903
theorem inR_ok {j : Int} (h : inR j = true) : -(2 ^ 62) ≤ j ∧ j < 2 ^ 62 := by
  have := Nat.le_of_ble_eq_true h
  omega
def items (k : IK) (as : List A) (M : List O) : Option (List D × List O) := match k, as with
  | .seq, [a] => seqIt M a
  | .r1, [.d (.int j)] => if inR j then some ((List.range j.toNat).map fun i => D.int (i : Nat), M) else none
  | .r2, [.d (.int i), .d (.int j)] => if inR i && inR j then some ((List.range (j - i).toNat).map fun n => D.int (i + (n : Nat)), M) else none
  | _, _ => none
def wipeA (δ : List A) : List Nat → List A
  | [] => δ
  | v :: vs => (wipeA δ vs).set v .un

/-! ### calls -/
def give (M1 M2 : List O) (k : Nat) : R A := match M2[k]? with
  | some (.frz x) => .ok (.d x) M1
  | some (.lst xs) => (match frzL (frz 8) M2 xs with
    | some (ys, M3) => (match M3[k]? with
      | some (.lst _) => .ok (.cell M1.length) (M1 ++ [.lst (ys.map .d)])
      | _ => .no)
    | none => .no)
  | _ => .no
/-- a call whose arguments are data: the store is left out -/
def pcallF (run : List A → List O → R A) (as : List A) (M : List O) : R A := match frzL (frz 8) M as with
  | none => .no
  | some (ds, M1) => match run (ds.map .d) [] with
    | .no => .no
    | .ex x _ => .ex x M
    | .ok (.d x) _ => if x.isSc then .ok (.d x) M else .ok (.d x) M1
    | .ok (.cell k) M2 => give M1 M2 k
    | .ok .un _ => .no

/-- reading, nothing is frozen -/
def denL (f : A → Option D) : List A → Option (List D)
  | [] => some []
  | a :: r => match f a, denL f r with
    | some x, some xs => some (x :: xs)
    | _, _ => none
def den : Nat → List O → A → Option D
  | _, _, .d x => some x
  | _, _, .un => none
  | 0, _, .cell _ => none
  | k + 1, M, .cell n => match M[n]? with
    | some (.frz x) => some x
    | some (.lst xs) => (match denL (den k M) xs with
      | some ds => some (.lst ds)
      | none => none)
    | none => none
/-- a call: where a scalar comes back the store stays as it was -/
def pcall (run : List A → List O → R A) (as : List A) (M : List O) : R A := match denL (den 8 M) as with
  | none => .no
  | some ds => match run (ds.map .d) [] with
    | .no => .no
    | .ex x _ => .ex x M
    | .ok (.d x) _ => if x.isSc then .ok (.d x) M else pcallF run as M
    | .ok _ _ => pcallF run as M

/-! ### the language -/
/-- where a parameter's value comes from -/
inductive Pl where
  | arg (i : Nat) | cst (x : D)
def fill {α : Type} (c : D → α) : List Pl → List α → List α
  | [], xs => xs
  | pl, xs => pl.map fun
    | .arg i => xs.getD i (c .non)
    | .cst x => c x
inductive E where
  | var (i : Nat) | cst (x : D)
  | bin (o : Bin) (a b : E) | neg (a : E)
  | cmp (o : Cmp) (a b : E) | chn (o p : Cmp) (a b c : E)
  | nt (a : E) | an (a b : E) | orr (a b : E)
  | ifx (t a b : E)
  | tup (es : List E) | lst (es : List E)
  | ix (a b : E) | sl (bl bh : Bool) (a lo hi : E)
  | call (f : Nat) (es ks : List E) (pl : List Pl) | mcall (f : Nat) (es ks : List E) (pl : List Pl)
  | bi (b : Bi) (es : List E)
  | mt (m : Mt) (a : E) (es : List E)
  | isi (a : E) (ts : List Ty)
  | comp (elt : E) (tg : Tg) (k : IK) (its : List E) (ifs : List E) (own : List Nat)
inductive S where
  | asg (tg : Tg) (e : E) | aug (i : Nat) (o : Bin) (e : E)
  | ex (e : E) | ret (e : E) | retN
  | ifS (t : E) (a b : List S)
  | forS (tg : Tg) (k : IK) (its : List E) (body : List S)
  | whl (t : E) (body : List S)
  | pass | brk | cnt
  | raise (c : Nat)
  | tryS (body : List S) (c : Nat) (suite : List S)
  | nev

/-- what surrounds a body: the defs, the subclasses, the turns that a while may take -/
structure W where
  run : Nat → List A → List O → R A
  sub : Nat → Nat → Bool
  turns : Nat

def compL (n : Nat) (tg : Tg) (δ : List A) (ts : List A → List O → R Bool) (el : List A → List O → R A) : List D → List O → R Unit
  | [], M => .ok () M
  | a :: r, M => match setTg tg (.d a) δ with
    | none => .no
    | some δ1 => match ts δ1 M with
      | .ok true M1 => (match el δ1 M1 with
        | .ok y M2 => (match M2[n]? with
          | some (.lst acc) => if acc.length < sizeLine then compL n tg δ ts el r (M2.set n (.lst (acc ++ [y]))) else .no
          | _ => .no)
        | _ => .no)
      | .ok false M1 => compL n tg δ ts el r M1
      | _ => .no
def compR (tg : Tg) (k : IK) (own : List Nat) (its : List A → List O → R (List A)) (ts : List A → List O → R Bool) (el : List A → List O → R A) (δ : List A) (M : List O) : R A :=
  (its δ M).bind fun as M1 => match items k as M1 with
    | none => .no
    | some (xs, M2) => match compL M2.length tg (wipeA δ own) ts el xs (M2 ++ [.lst []]) with
      | .ok _ M3 => .ok (.cell M2.length) M3
      | _ => .no

def isiF (f : List A → List O → R A) (ts : List Ty) : List A → List O → R A := fun δ M => (f δ M).bind fun x M1 => match tyOf M1 x with
    | some t => .ok (.d (.bl (ts.any fun u => t.sub u))) M1
    | none => .no
def slF (bl bh : Bool) (f g h : List A → List O → R A) : List A → List O → R A := fun δ M => (f δ M).bind fun x M1 => (g δ M1).bind fun l M2 => match part bl l with
    | some l => (h δ M2).bind fun u M3 => (match part bh u with
      | some u => slA M3 x l u
      | none => .no)
    | none => .no
def chF (o p : Cmp) (f g h : List A → List O → R A) : List A → List O → R A := fun δ M => (f δ M).bind fun x M1 => (g δ M1).bind fun y M2 => match cmp o x y M2 with
    | some true => (h δ M2).bind fun z M3 => cmpR p y z M3
    | some false => .ok (.d (.bl false)) M2
    | none => .no
/-- an expression's readings: its value, as a test -/
structure EF where
  v : List A → List O → R A
  t : List A → List O → R Bool
def dT (f : List A → List O → R A) : List A → List O → R Bool := fun δ M => (f δ M).bind fun x M1 => match tru M1 x with
    | some k => .ok k M1
    | none => .no
def mkF (f : List A → List O → R A) : EF := ⟨f, dT f⟩
structure LF where
  v : List A → List O → R (List A)
  t : List A → List O → R Bool
mutual
def evP (w : W) : E → EF
  | .var i => mkF fun δ M => match δ[i]? with
    | some (.un) => .no
    | some a => .ok a M
    | none => .no
  | .cst x => mkF fun _ M => .ok (.d x) M
  | .bin o a b => mkF fun δ M => ((evP w a).v δ M).bind fun x M1 => ((evP w b).v δ M1).bind fun y M2 => bin o x y M2
  | .neg a => mkF fun δ M => ((evP w a).v δ M).bind fun x M1 => match x with
    | .d (.int i) => .ok (.d (.int (-i))) M1
    | _ => .no
  | .cmp o a b => mkF fun δ M => ((evP w a).v δ M).bind fun x M1 => ((evP w b).v δ M1).bind fun y M2 => cmpR o x y M2
  | .chn o p a b c => mkF (chF o p (evP w a).v (evP w b).v (evP w c).v)
  | .nt a => ⟨fun δ M => ((evP w a).v δ M).bind fun x M1 => match tru M1 x with
    | some k => .ok (.d (.bl (!k))) M1
    | none => .no, fun δ M => ((evP w a).t δ M).bind fun k M1 => .ok (!k) M1⟩
  | .an a b => ⟨fun δ M => ((evP w a).v δ M).bind fun x M1 => match tru M1 x with
    | some true => (evP w b).v δ M1
    | some false => .ok x M1
    | none => .no, fun δ M => ((evP w a).t δ M).bind fun k M1 => if k then (evP w b).t δ M1 else .ok false M1⟩
  | .orr a b => ⟨fun δ M => ((evP w a).v δ M).bind fun x M1 => match tru M1 x with
    | some true => .ok x M1
    | some false => (evP w b).v δ M1
    | none => .no, fun δ M => ((evP w a).t δ M).bind fun k M1 => if k then .ok true M1 else (evP w b).t δ M1⟩
  | .ifx t a b => ⟨fun δ M => ((evP w t).t δ M).bind fun k M1 => if k then (evP w a).v δ M1 else (evP w b).v δ M1, fun δ M => ((evP w t).t δ M).bind fun k M1 => if k then (evP w a).t δ M1 else (evP w b).t δ M1⟩
  | .tup es => mkF fun δ M => ((evQ w es).v δ M).bind fun as M1 => match frzL (frz 8) M1 as with
    | some (ds, M2) => if ds.length ≤ sizeLine then .ok (.d (.tup ds)) M2 else .no
    | none => .no
  | .lst es => mkF fun δ M => ((evQ w es).v δ M).bind fun as M1 => mkL M1 as
  | .ix a b => mkF fun δ M => ((evP w a).v δ M).bind fun x M1 => ((evP w b).v δ M1).bind fun y M2 => ixA M2 x y
  | .sl bl bh a lo hi => mkF (slF bl bh (evP w a).v (evP w lo).v (evP w hi).v)
  | .call f es ks pl => mkF fun δ M => ((evQ w es).v δ M).bind fun as M1 => ((evQ w ks).v δ M1).bind fun bs M2 => pcall (w.run f) (fill A.d pl (as ++ bs)) M2
  | .mcall f es ks pl => mkF fun δ M => ((evQ w es).v δ M).bind fun as M1 => ((evQ w ks).v δ M1).bind fun bs M2 => w.run f (fill A.d pl (as ++ bs)) M2
  | .bi b es => mkF fun δ M => ((evQ w es).v δ M).bind fun as M1 => bi b as M1
  | .mt m a es => mkF fun δ M => ((evP w a).v δ M).bind fun x M1 => if rcv m M1 x then ((evQ w es).v δ M1).bind fun as M2 => mt m x as M2 else .no
  | .isi a ts => mkF (isiF (evP w a).v ts)
  | .comp elt tg k its ifs own => mkF fun δ M => compR tg k own (evQ w its).v (evQ w ifs).t (evP w elt).v δ M
/-- several; a comprehension's tests: none or one -/
def evQ (w : W) : List E → LF
  | [] => ⟨fun _ M => .ok [] M, fun _ M => .ok true M⟩
  | e :: r => ⟨fun δ M => ((evP w e).v δ M).bind fun x M1 => ((evQ w r).v δ M1).bind fun xs M2 => .ok (x :: xs) M2, (evP w e).t⟩
end
abbrev ev (w : W) (e : E) : List A → List O → R A := (evP w e).v
abbrev evT (w : W) (e : E) : List A → List O → R Bool := (evP w e).t
abbrev evs (w : W) (es : List E) : List A → List O → R (List A) := (evQ w es).v
abbrev evA (w : W) (es : List E) : List A → List O → R Bool := (evQ w es).t

def forR (tg : Tg) (body : List A → List O → RS) : List D → List A → List O → RS
  | [], δ, M => .nx δ M
  | a :: r, δ, M => match setTg tg (.d a) δ with
    | none => .no
    | some δ1 => match body δ1 M with
      | .nx δ2 M2 => forR tg body r δ2 M2
      | .ct δ2 M2 => forR tg body r δ2 M2
      | .bk δ2 M2 => .nx δ2 M2
      | x => x
def whlR (t : List A → List O → R Bool) (body : List A → List O → RS) : Nat → List A → List O → RS
  | 0, _, _ => .no
  | n + 1, δ, M => (t δ M).toS δ fun k M1 => if k then (match body δ M1 with
      | .nx δ2 M2 => whlR t body n δ2 M2
      | .ct δ2 M2 => whlR t body n δ2 M2
      | .bk δ2 M2 => .nx δ2 M2
      | x => x) else .nx δ M1

/-- i op= e, numbers alone -/
def augF (i : Nat) (o : Bin) (f : List A → List O → R A) (δ : List A) (M : List O) : RS := match δ[i]? with
  | some (.d (.int x)) => (f δ M).toS δ fun b M1 => (match b with
    | .d (.int y) => (match o with
      | .add => .nx (δ.set i (.d (.int (x + y)))) M1
      | .sub => .nx (δ.set i (.d (.int (x - y)))) M1
      | _ => .no)
    | _ => .no)
  | _ => .no
/-- an except clause's end: it raises nothing -/
def RS.noX : RS → RS
  | .ex _ _ _ => .no
  | r => r
mutual
def exS (w : W) : S → List A → List O → RS
  | .asg tg e => fun δ M => (ev w e δ M).toS δ fun a M1 => match setTg tg a δ with
    | some δ1 => .nx δ1 M1
    | none => .no
  | .aug i o e => augF i o (ev w e)
  | .ex e => fun δ M => (ev w e δ M).toS δ fun _ M1 => .nx δ M1
  | .ret e => fun δ M => (ev w e δ M).toS δ fun a M1 => .rt a M1
  | .retN => fun _ M => .rt (.d .non) M
  | .ifS t a b => fun δ M => (evT w t δ M).toS δ fun k M1 => if k then exs w a δ M1 else exs w b δ M1
  | .forS tg k its body => fun δ M => (evs w its δ M).toS δ fun as M1 => match items k as M1 with
    | some (xs, M2) => forR tg (exs w body) xs δ M2
    | none => .no
  | .whl t body => fun δ M => whlR (evT w t) (exs w body) w.turns δ M
  | .pass => fun δ M => .nx δ M
  | .brk => fun δ M => .bk δ M
  | .cnt => fun δ M => .ct δ M
  | .raise c => fun δ M => .ex ⟨c, []⟩ δ M
  | .tryS body c suite => fun δ M => match exs w body δ M with
    | .ex x δ1 M1 => if w.sub x.c c then (exs w suite δ1 M1).noX else .ex x δ1 M1
    | r => r
  | .nev => fun _ _ => .no
def exs (w : W) : List S → List A → List O → RS
  | [] => fun δ M => .nx δ M
  | s :: r => fun δ M => (exS w s δ M).andThen fun δ1 M1 => exs w r δ1 M1
end

/-- a def: how many names, its body -/
structure Fn where
  loc : Nat
  body : List S
def Fn.go (f : Fn) (w : W) (as : List A) (M : List O) : R A := match exs w f.body (as ++ List.replicate (f.loc - as.length) .un) M with
  | .nx _ M1 => .ok (.d .non) M1
  | .rt a M1 => .ok a M1
  | .ex x _ M1 => .ex x M1
  | _ => .no
structure Prg where
  fns : List Fn
  sub : Nat → Nat → Bool
  turns : Nat
def Prg.run (p : Prg) : Nat → Nat → List A → List O → R A
  | 0, _, _, _ => .no
  | n + 1, f, as, M => match p.fns[f]? with
    | some fn => fn.go ⟨p.run n, p.sub, p.turns⟩ as M
    | none => .no
end Mini

set_option Elab.async false
set_option linter.all false
set_option maxRecDepth 100000
/-! Mini 3: what the small language says holds of the hand layer's readings: expressions. -/
namespace Mini
open PySem PySem.Spec L2

section
variable {K : Fg} {B : Base} {H F : Hp} {own : List Addr} {M : List O}
theorem frzL_ok {f : List O → A → Option (D × List O)}
    (hf : ∀ M a d M', f M a = some (d, M') → ∀ F v, Core K B H F own M → RelA K F own v a → ∃ F', Core K B H F' own M' ∧ Same F F' ∧ Rep K F' v d) :
    ∀ (as : List A) (M : List O) (ds : List D) (M' : List O), frzL f M as = some (ds, M') → ∀ F vs, Core K B H F own M → Al (RelA K F own) vs as → ∃ F', Core K B H F' own M' ∧ Same F F' ∧ Al (Rep K F') vs ds
  | [], M, ds, M', e, F, vs, c, h => by
    simp only [frzL, Option.some.injEq, Prod.mk.injEq] at e
    obtain ⟨rfl, rfl⟩ := e
    cases h
    exact ⟨F, c, Same.refl F, .nil⟩
  | a :: r, M, ds, M', e, F, vs, c, h => by
    cases h with
    | cons h1 h2 =>
      unfold frzL at e
      split at e
      · rename_i x M1 e1
        obtain ⟨F1, c1, s1, r1⟩ := hf _ _ _ _ e1 _ _ c h1
        split at e
        · rename_i xs M2 e2
          simp only [Option.some.injEq, Prod.mk.injEq] at e
          obtain ⟨rfl, rfl⟩ := e
          obtain ⟨F2, c2, s2, r2⟩ := frzL_ok hf r M1 xs _ e2 F1 _ c1 (h2.mono fun _ _ q => q.upF s1)
          exact ⟨F2, c2, s1.trans s2, .cons (r1.up s2) r2⟩
        · cases e
      · cases e
theorem frz_ok : ∀ (k : Nat) (M : List O) (a : A) (d : D) (M' : List O), frz k M a = some (d, M') → ∀ F v, Core K B H F own M → RelA K F own v a → ∃ F', Core K B H F' own M' ∧ Same F F' ∧ Rep K F' v d
  | k, M, .d x, d, M', e, F, v, c, h => by
    have e2 : some (x, M) = some (d, M') := by cases k <;> exact e
    simp only [Option.some.injEq, Prod.mk.injEq] at e2
    obtain ⟨rfl, rfl⟩ := e2
    exact ⟨F, c, Same.refl F, h⟩
  | k, M, .un, d, M', e, F, v, c, h => h.elim
  | 0, M, .cell n, d, M', e, F, v, c, h => by cases e
  | k + 1, M, .cell n, d, M', e, F, v, c, h => by
    unfold frz at e
    obtain ⟨l, hl, rfl⟩ := h
    split at e
    · rename_i x hM
      simp only [Option.some.injEq, Prod.mk.injEq] at e
      obtain ⟨rfl, rfl⟩ := e
      exact ⟨F, c, Same.refl F, (c.obj n l _ hl hM).1⟩
    · rename_i xs hM
      split at e
      · rename_i ds M1 e1
        obtain ⟨vs, hv, ha⟩ := c.obj n l _ hl hM
        obtain ⟨F1, c1, s1, r1⟩ := frzL_ok (fun M a d M' e F v c h => frz_ok k M a d M' e F v c h) xs M ds M1 e1 F vs c ha
        split at e
        · rename_i ys hM1
          simp only [Option.some.injEq, Prod.mk.injEq] at e
          obtain ⟨rfl, rfl⟩ := e
          have fl := (c1.mtb n l _ hl hM1 rfl).1
          have sF : Same F1 (upd F1 l (.lst vs)) := same_upd fl
          have hr : Rep K (upd F1 l (.lst vs)) (.ref l) (.lst ds) := .lst upd_same (Reps.of (r1.mono fun _ _ q => q.up sF))
          obtain ⟨c2, s2⟩ := c1.freeze hl hM1 rfl hv hr
          exact ⟨_, c2, s1.trans s2, hr⟩
        · cases e
      · cases e
    · cases e
theorem frzs_ok {as : List A} {ds : List D} {M' : List O} {vs : List V} (e : frzL (frz 8) M as = some (ds, M')) (c : Core K B H F own M) (h : Al (RelA K F own) vs as) : ∃ F', Core K B H F' own M' ∧ Same F F' ∧ Al (Rep K F') vs ds :=
  frzL_ok (fun M a d M' e F v c h => frz_ok 8 M a d M' e F v c h) as M ds M' e F vs c h
theorem al_d {vs : List V} : ∀ {ws : List V} {ds : List D}, Al (Rep K F) ws ds → Al (RelA K F own) ws (ds.map .d)
  | _, _, .nil => .nil
  | _, _, .cons r t => .cons r (al_d (vs := vs) t)
theorem al_D {ws : List V} {ds : List D} (h : Al (Rep K F) ws ds) : Al (RelA K F own) ws (ds.map .d) := al_d (vs := []) h
theorem lsw_ok {a : A} {xs : List A} {v : V} (e : lsw M a = some xs) (c : Core K B H F own M) (h : RelA K F own v a) : ∃ p ws, v = .ref p ∧ H p = some (.lst ws) ∧ Al (RelA K F own) ws xs := by
  unfold lsw at e
  split at e
  · cases e
    cases h with
    | lst hs hr => exact ⟨_, _, rfl, c.fh _ _ hs, al_D hr.al⟩
  · rename_i n
    obtain ⟨l, hl, rfl⟩ := h
    split at e
    · rename_i ys hM
      cases e
      obtain ⟨vs, hv, ha⟩ := c.obj n l _ hl hM
      exact ⟨_, _, rfl, hv, ha⟩
    · rename_i ds hM
      cases e
      obtain ⟨hr, _⟩ := c.obj n l _ hl hM
      cases hr with
      | lst hs hr => exact ⟨_, _, rfl, c.fh _ _ hs, al_D hr.al⟩
    · cases e
  · cases e
theorem lsv_ok {a : A} {xs : List A} {v : V} (e : lsv M a = some xs) (c : Core K B H F own M) (h : RelA K F own v a) : ∃ p ws, v = .ref p ∧ SqL K H p ws ∧ Al (RelA K F own) ws xs := by
  by_cases hr : ∃ ds, a = .d (.rol ds)
  · obtain ⟨ds, rfl⟩ := hr
    cases e
    cases h with
    | rol hs hr => exact ⟨_, _, rfl, c.fh.seq hs, al_D hr.al⟩
  · have e2 : lsw M a = some xs := by
      unfold lsv at e
      unfold lsw
      split at e
      · exact e
      · rename_i ds; exact absurd ⟨ds, rfl⟩ hr
      · exact e
      · cases e
    obtain ⟨p, ws, h1, h2, h3⟩ := lsw_ok e2 c h
    exact ⟨p, ws, h1, SqL.of h2, h3⟩
theorem tup_ok {ds : List D} {v : V} (c : Core K B H F own M) (h : Rep K F v (.tup ds)) : ∃ p ws, v = .ref p ∧ SqT K H p ws ∧ Al (Rep K F) ws ds := by
  cases h with
  | tup hs hr => exact ⟨_, _, rfl, same_seqT c.fh hs, hr.al⟩
end

/-! ### states -/
def At (K : Fg) (B : Base) (σ : St) (H : Hp) (δ : List A) (M : List O) (vs : List V) (as : List A) : Prop :=
  ∃ F own, Core K B H F own M ∧ Al (RelS K F own) σ δ ∧ Al (RelA K F own) vs as
section
variable {K : Fg} {B : Base} {σ : St} {H F : Hp} {own : List Addr} {δ : List A} {M : List O} {vs : List V} {as : List A}
theorem At.pop {v : V} {a : A} (h : At K B σ H δ M (v :: vs) (a :: as)) : At K B σ H δ M vs as := by
  obtain ⟨F, own, c, hs, hv⟩ := h
  cases hv with
  | cons r t => exact ⟨F, own, c, hs, t⟩
theorem At.popL {ws : List V} {bs : List A} (h : At K B σ H δ M (ws ++ vs) (bs ++ as)) (hl : ws.length = bs.length) : At K B σ H δ M vs as := by
  obtain ⟨F, own, c, hs, hv⟩ := h
  exact ⟨F, own, c, hs, (hv.split hl).2⟩
/-- scalars -/
theorem rep_sc {d : D} {v : V} (h : Rep K F v d) (hd : d.isSc = true) (F' : Hp) : Rep K F' v d := by
  cases h with
  | non => exact .non
  | bl b => exact .bl b
  | int i => exact .int i
  | str x => exact .str x
  | tup _ _ => cases hd
  | lst _ _ => cases hd
  | rol _ _ => cases hd
theorem newL_at {ws : List V} {xs : List A} {p : Addr} (c : Core K B H F own M) (hs : Al (RelS K F own) σ δ) (hv : Al (RelA K F own) vs as) (hw : Al (RelA K F own) ws xs) (hp : H p = none) :
    At K B σ (upd H p (.lst ws)) δ (M ++ [.lst xs]) (.ref p :: vs) (.cell M.length :: as) := by
  have c' := c.push (u := .lst xs) (o := .lst ws) hp rfl (fun own' ⟨t, e⟩ => ⟨ws, upd_same, by subst e; exact hw.mono fun _ _ r => r.up (Same.refl F)⟩)
  refine ⟨F, own ++ [p], c', hs.mono fun _ _ r => r.up (Same.refl F), .cons ⟨p, ?_, rfl⟩ (hv.mono fun _ _ r => r.up (Same.refl F))⟩
  rw [← c.len]; simp
end

/-- how an error lies -/
def ExR (C : Nat → Addr) (x : Ex) (cls : Value) (d : Option Addr) (H : Hp) : Prop := cls = .ref (C x.c) ∧ ((x.fs = [] ∧ d = none) ∨ ∃ dd, d = some dd ∧ H dd = some (.xd (x.fs.map fun p => (p.1, V.str p.2))))

/-! ### readings -/
section
variable (K : Fg) (C : Nat → Addr) (W : WX)
def GE (B : Base) (σ : St) (δ : List A) (vs : List V) (as : List A) (Q : VK) : R A → Prop
  | .ok a M' => ∀ v H', At K B σ H' δ M' (v :: vs) (a :: as) → Q v H'
  | .ex x M' => ∀ cls d H', ExR C x cls d H' → At K B σ H' δ M' vs as → W cls d σ H'
  | .no => False
def GT (B : Base) (σ : St) (δ : List A) (vs : List V) (as : List A) (Q : Bool → Hp → Prop) : R Bool → Prop
  | .ok k M' => ∀ H', At K B σ H' δ M' vs as → Q k H'
  | .ex x M' => ∀ cls d H', ExR C x cls d H' → At K B σ H' δ M' vs as → W cls d σ H'
  | .no => False
def GA (B : Base) (σ : St) (δ : List A) (vs : List V) (as : List A) (Q : List V → Hp → Prop) : R (List A) → Prop
  | .ok bs M' => ∀ ws H', ws.length = bs.length → At K B σ H' δ M' (ws ++ vs) (bs ++ as) → Q ws H'
  | .ex x M' => ∀ cls d H', ExR C x cls d H' → At K B σ H' δ M' vs as → W cls d σ H'
  | .no => False
def tE (f : List A → List O → R A) : TE := fun σ H Q => ∃ B δ M vs as, At K B σ H δ M vs as ∧ GE K C W B σ δ vs as Q (f δ M)
def tT (f : List A → List O → R Bool) : TT := fun σ H Q => ∃ B δ M vs as, At K B σ H δ M vs as ∧ GT K C W B σ δ vs as Q (f δ M)
def tA (f : List A → List O → R (List A)) : TA := fun σ H Q => ∃ B δ M vs as, At K B σ H δ M vs as ∧ GA K C W B σ δ vs as Q (f δ M)
end
theorem pe_imp {X : Cx} {e : Expr} {t t' : TE} (h : PE X e t) (hi : ∀ σ H Q, t' σ H Q → t σ H Q) : PE X e t' := ⟨fun pins s σ H Q I q => h.run pins s σ H Q I (hi σ H Q q)⟩
theorem pt_imp {X : Cx} {e : Expr} {t t' : TT} (h : PT X e t) (hi : ∀ σ H Q, t' σ H Q → t σ H Q) : PT X e t' := ⟨fun pins s σ H Q I q => h.run pins s σ H Q I (hi σ H Q q)⟩
theorem pa_imp {X : Cx} {e : List Expr} {t t' : TA} (h : PA X e t) (hi : ∀ σ H Q, t' σ H Q → t σ H Q) : PA X e t' := ⟨fun pos pins s σ H Q I q => h.run pos pins s σ H Q I (hi σ H Q q)⟩
theorem ps_imp {X : Cx} {e : Stmt} {t t' : TS} (h : PS X e t) (hi : ∀ D σ H, t' D σ H → t D σ H) : PS X e t' := ⟨fun pins s σ H D I q => h.run pins s σ H D I (hi D σ H q)⟩

section
variable {X : Cx} {C : Nat → Addr} {W : WX} {B : Base} {σ : St} {H : Hp} {δ : List A} {M : List O} {vs : List V} {as : List A} {Q : VK}
theorem tE_at {f : List A → List O → R A} (h : At X.K B σ H δ M vs as) (g : GE X.K C W B σ δ vs as Q (f δ M)) : tE X.K C W f σ H Q := ⟨B, δ, M, vs, as, h, g⟩
/-- the first part's reading, from the whole's -/
theorem GE.bind {Q' : VK} {r : R A} {k : A → List O → R A} (h : GE X.K C W B σ δ vs as Q (r.bind k)) (hk : ∀ a M' v H', At X.K B σ H' δ M' (v :: vs) (a :: as) → GE X.K C W B σ δ vs as Q (k a M') → Q' v H') : GE X.K C W B σ δ vs as Q' r := by
  cases r with
  | ok a M' => exact fun v H' hat => hk a M' v H' hat h
  | ex x M' => exact h
  | no => exact h
/-- an error behind something laid -/
theorem GE.under {v : V} {a : A} {r : R A} {Q' : VK} (h : GE X.K C W B σ δ vs as Q r) (hq : ∀ b M' w H', r = .ok b M' → At X.K B σ H' δ M' (w :: v :: vs) (b :: a :: as) → Q' w H') : GE X.K C W B σ δ (v :: vs) (a :: as) Q' r := by
  cases r with
  | ok b M' => exact fun w H' hat => hq b M' w H' rfl hat
  | ex x M' => exact fun cls d H' hx hat => h cls d H' hx hat.pop
  | no => exact h

/-! ### two operands -/
/-- the semantics g is carried by the rule r -/
def OpS (X : Cx) (f : Value → Value → Sem Value) (g : A → A → List O → R A) : Prop :=
  ∀ (pins : List (Addr × Obj)) (s : Shared) (σ : St) (H : Hp) (x y : V) (v u : Value) (Q : VK), Inv X pins σ H s → RelV x v → RelV y u →
    ∀ (B : Base) (σ' : St) (δ : List A) (M : List O) (vs : List V) (as : List A) (a b c : A) (M' : List O), At X.K B σ' H δ M (y :: x :: vs) (b :: a :: as) → g a b M = .ok c M' →
      (∀ v H', At X.K B σ' H' δ M' (v :: vs) (c :: as) → Q v H') → wpAny (model X.prog X.w) X.A (f v u) (EP X pins σ Q) X.xe s
def rOp (K : Fg) (g : A → A → List O → R A) : R2 := fun x y H Q => ∃ (B : Base) (σ' : St) (δ : List A) (M : List O) (vs : List V) (as : List A) (a b c : A) (M' : List O), At K B σ' H δ M (y :: x :: vs) (b :: a :: as) ∧ g a b M = .ok c M' ∧
      (∀ v H', At K B σ' H' δ M' (v :: vs) (c :: as) → Q v H')
theorem OpS.r {f : Value → Value → Sem Value} {g : A → A → List O → R A} (h : OpS X f g) : OpR X f (rOp X.K g) := by
  intro pins s σ H x y v u Q I rx ry q
  obtain ⟨B, σ', δ, M, vs, as, a, b, c, M', h1, h2, h3⟩ := q
  exact h pins s σ H x y v u Q I rx ry B σ' δ M vs as a b c M' h1 h2 h3
end

/-! ### the operators -/
section
variable {X : Cx}
theorem int_of {K : Fg} {F : Hp} {own : List Addr} {x : V} {i : Int} (h : RelA K F own x (.d (.int i))) : x = .int i := by
  cases h
  rfl
theorem str_of {K : Fg} {F : Hp} {own : List Addr} {x : V} {z : Str} (h : RelA K F own x (.d (.str z))) : x = .str z := by
  cases h
  rfl
theorem bl_of {K : Fg} {F : Hp} {own : List Addr} {x : V} {z : Bool} (h : RelA K F own x (.d (.bl z))) : x = .bl z := by
  cases h
  rfl
theorem non_of {K : Fg} {F : Hp} {own : List Addr} {x : V} (h : RelA K F own x (.d .non)) : x = .non := by
  cases h
  rfl
theorem opS_add : OpS X (binaryOp .Add) addA := by
  intro pins s σ H x y v u Q I rx ry B σ' δ M vs as a b c M' hat hg hq
  obtain ⟨F, own, cc, hs, hv⟩ := hat
  cases hv with
  | cons ry' t =>
  cases t with
  | cons rx' hv =>
  unfold addA at hg
  split at hg
  · cases int_of rx'
    cases int_of ry'
    cases hg
    exact op_add pins s σ H _ _ v u Q I rx ry ⟨_, _, rfl, rfl, hq _ _ ⟨F, own, cc, hs, .cons (.int _) hv⟩⟩
  · cases str_of rx'
    cases str_of ry'
    split at hg
    · cases hg
      exact op_add_str pins s σ H _ _ v u Q I rx ry ⟨_, _, rfl, rfl, ‹_›, hq _ _ ⟨F, own, cc, hs, .cons (.str _) hv⟩⟩
    · cases hg
  · split at hg
    · rename_i hz
      cases hg
      obtain ⟨p, ws, rfl, hp, hp'⟩ := tup_ok cc rx'
      obtain ⟨q, zs, rfl, hr, hr'⟩ := tup_ok cc ry'
      refine op_catT pins s σ H _ _ v u Q I rx ry ⟨p, q, ws, zs, rfl, rfl, hp, hr, fun e => ?_, ?_, ?_⟩
      · subst e
        cases hp'
        simp at hz
      · rw [hp'.length, hr'.length]; exact hz.1
      · refine ⟨fun e => ?_, fun _ t ht => hq _ _ ?_⟩
        · subst e
          cases hr'
          rw [List.append_nil] at hq
          exact hq _ _ ⟨F, own, cc, hs, .cons rx' hv⟩
        obtain ⟨c2, s2⟩ := cc.laid (o := .tup (ws ++ zs)) ht
        refine ⟨_, own, c2, hs.mono fun _ _ r => ?_, .cons (.tup (.inl (.inl upd_same)) (Reps.of ((hp'.append hr').mono fun _ _ r => r.up s2))) (hv.mono fun _ _ r => r.upF s2)⟩
        have := r.up (t := []) s2
        rwa [List.append_nil] at this
    · cases hg
  · split at hg
    · rename_i xs ys e1 e2
      unfold mkL at hg
      split at hg
      · rename_i hz
        cases hg
        obtain ⟨p, ws, rfl, hp, hp'⟩ := lsw_ok e1 cc rx'
        obtain ⟨q, zs, rfl, hr, hr'⟩ := lsw_ok e2 cc ry'
        refine op_cat pins s σ H _ _ v u Q I rx ry ⟨p, q, ws, zs, rfl, rfl, hp, hr, ?_, fun t ht => hq _ _ (newL_at cc hs hv (hp'.append hr') ht)⟩
        rw [hp'.length, hr'.length]
        simpa using hz
      · cases hg
    · cases hg
theorem opS_sub : OpS X (binaryOp .Sub) subA := by
  intro pins s σ H x y v u Q I rx ry B σ' δ M vs as a b c M' hat hg hq
  obtain ⟨F, own, cc, hs, hv⟩ := hat
  cases hv with
  | cons ry' t =>
  cases t with
  | cons rx' hv =>
  unfold subA at hg
  split at hg
  · cases int_of rx'
    cases int_of ry'
    cases hg
    exact op_sub pins s σ H _ _ v u Q I rx ry ⟨_, _, rfl, rfl, hq _ _ ⟨F, own, cc, hs, .cons (.int _) hv⟩⟩
  · cases hg
theorem opS_mul : OpS X (binaryOp .Mult) mulA := by
  intro pins s σ H x y v u Q I rx ry B σ' δ M vs as a b c M' hat hg hq
  obtain ⟨F, own, cc, hs, hv⟩ := hat
  cases hv with
  | cons ry' t =>
  cases t with
  | cons rx' hv =>
  unfold mulA at hg
  split at hg
  · cases int_of rx'
    cases int_of ry'
    split at hg
    · cases hg
      rename_i hz
      exact op_mulW pins s σ H _ _ v u Q I rx ry ⟨_, _, rfl, rfl, (show bits _ + bits _ < 1000000 from of_decide_eq_true hz), hq _ _ ⟨F, own, cc, hs, .cons (.int _) hv⟩⟩
    · cases hg
  · cases hg
theorem opS_fdv : OpS X (binaryOp .FloorDiv) fdvA := by
  intro pins s σ H x y v u Q I rx ry B σ' δ M vs as a b c M' hat hg hq
  obtain ⟨F, own, cc, hs, hv⟩ := hat
  cases hv with
  | cons ry' t =>
  cases t with
  | cons rx' hv =>
  unfold fdvA at hg
  split at hg
  · cases int_of rx'
    cases int_of ry'
    split at hg
    · cases hg
      rename_i hz
      have hz2 := Bool.and_eq_true_iff.mp hz
      exact op_fdivW pins s σ H _ _ v u Q I rx ry ⟨_, _, rfl, rfl, ⟨of_decide_eq_true hz2.1, of_decide_eq_true hz2.2⟩, hq _ _ ⟨F, own, cc, hs, .cons (.int _) hv⟩⟩
    · cases hg
  · cases hg
theorem opS_mod : OpS X (binaryOp .Mod) modA := by
  intro pins s σ H x y v u Q I rx ry B σ' δ M vs as a b c M' hat hg hq
  obtain ⟨F, own, cc, hs, hv⟩ := hat
  cases hv with
  | cons ry' t =>
  cases t with
  | cons rx' hv =>
  unfold modA at hg
  split at hg
  · cases int_of rx'
    cases int_of ry'
    split at hg
    · cases hg
      rename_i hz
      exact op_mod pins s σ H _ _ v u Q I rx ry ⟨_, _, rfl, rfl, hz, hq _ _ ⟨F, own, cc, hs, .cons (.int _) hv⟩⟩
    · cases hg
  · cases hg
theorem opS_pow : OpS X (binaryOp .Pow) powA := by
  intro pins s σ H x y v u Q I rx ry B σ' δ M vs as a b c M' hat hg hq
  obtain ⟨F, own, cc, hs, hv⟩ := hat
  cases hv with
  | cons ry' t =>
  cases t with
  | cons rx' hv =>
  unfold powA at hg
  split at hg
  · cases int_of rx'
    cases int_of ry'
    split at hg
    · cases hg
      rename_i hz
      have hz2 := Bool.and_eq_true_iff.mp hz
      have hz3 := Bool.and_eq_true_iff.mp hz2.1
      exact op_pow pins s σ H _ _ v u Q I rx ry ⟨_, _, rfl, rfl, ⟨of_decide_eq_true hz3.1, of_decide_eq_true hz3.2, of_decide_eq_true hz2.2⟩, hq _ _ ⟨F, own, cc, hs, .cons (.int _) hv⟩⟩
    · cases hg
  · cases hg
end
end Mini

set_option Elab.async false
set_option linter.all false
set_option maxRecDepth 100000
/-! Mini 4: comparisons, truth, items, slices, built-ins, methods. -/
namespace Mini
open PySem PySem.Spec L2

section
variable {K : Fg} {B : Base} {H F : Hp} {own : List Addr} {M : List O}
mutual
theorem Rep.dp {F' : Hp} (e : Same F F') : ∀ (d : D) (v : V), Rep K F v d → Dp K F' v d.py
  | .non, _, h => by cases h; exact .non
  | .bl b, _, h => by cases h; exact .bl b
  | .int i, _, h => by cases h; exact .int i
  | .str x, _, h => by cases h; exact .str x
  | .tup ds, _, h => by
    cases h with
    | tup hs ha => exact .tup (same_seqT e hs) (Reps.dp e ds _ ha)
  | .lst ds, _, h => by
    cases h with
    | lst hs ha => exact .lst (SqL.of (e _ _ hs)) (Reps.dp e ds _ ha)
  | .rol ds, _, h => by
    cases h with
    | rol hs ha => exact .lst (e.seq hs) (Reps.dp e ds _ ha)
theorem Reps.dp {F' : Hp} (e : Same F F') : ∀ (ds : List D) (vs : List V), Reps K F vs ds → DpAll K F' vs (D.pys ds)
  | [], _, h => by cases h; exact .nil
  | d :: ds, _, h => by
    cases h with
    | cons h1 h2 => exact .cons (Rep.dp e d _ h1) (Reps.dp e ds _ h2)
end
end
section
variable {X : Cx}
/-- a comparison's answer carried by a rule -/
theorem opS_eq (hu : X.A.units + 64 < cLine) : OpS X (compareOp .Eq) (cmpR .eq) := by
  intro pins s σ H x y v u Q I rx ry B σ' δ M vs as a b c M' hat hg hq
  have hat0 := hat
  obtain ⟨F, own, cc, hs, hv⟩ := hat
  cases hv with
  | cons ry' t =>
  cases t with
  | cons rx' hv =>
  unfold cmpR at hg
  split at hg
  · rename_i k hk
    cases hg
    have hk : eqA a b M = some k := hk
    have fin : ∀ k', k' = k → Q (.bl k') H := fun k' e => by subst e; exact hq _ _ ⟨F, own, cc, hs, .cons (.bl _) hv⟩
    unfold eqA at hk
    split at hk
    · cases int_of rx'; cases int_of ry'; cases hk
      exact op_eq pins s σ H _ _ v u Q I rx ry ⟨rfl, fin _ dec_int⟩
    · cases str_of rx'; cases str_of ry'; cases hk
      exact op_eq pins s σ H _ _ v u Q I rx ry ⟨rfl, fin _ dec_str⟩
    · cases bl_of rx'; cases bl_of ry'; cases hk
      exact op_eq pins s σ H _ _ v u Q I rx ry ⟨rfl, fin _ dec_bl⟩
    · cases non_of rx'; cases non_of ry'; cases hk
      exact op_eq pins s σ H _ _ v u Q I rx ry ⟨rfl, fin _ rfl⟩
    · split at hk
      · rename_i x' M1 e1
        split at hk
        · rename_i y' M2 e2
          split at hk
          · rename_i hz
            cases hk
            obtain ⟨F1, c1, s1, r1⟩ := frz_ok 8 _ _ _ _ e1 _ _ cc rx'
            obtain ⟨F2, c2, s2, r2⟩ := frz_ok 8 _ _ _ _ e2 _ _ c1 (ry'.upF s1)
            have hz2 := Bool.and_eq_true_iff.mp hz
            exact op_eqD hu pins s σ H _ _ v u Q I rx ry ⟨_, _, Rep.dp (s2.trans c2.fh) _ _ r1, Rep.dp c2.fh _ _ r2, hz2.1, hz2.2, fin _ rfl⟩
          · cases hk
        · cases hk
      · cases hk
  · cases hg
theorem opS_ne (hu : X.A.units + 64 < cLine) : OpS X (compareOp .NotEq) (cmpR .ne) := by
  intro pins s σ H x y v u Q I rx ry B σ' δ M vs as a b c M' hat hg hq
  have hat0 := hat
  obtain ⟨F, own, cc, hs, hv⟩ := hat
  cases hv with
  | cons ry' t =>
  cases t with
  | cons rx' hv =>
  unfold cmpR at hg
  split at hg
  · rename_i k hk
    cases hg
    have hk : neA a b M = some k := hk
    have fin : ∀ k', k' = k → Q (.bl k') H := fun k' e => by subst e; exact hq _ _ ⟨F, own, cc, hs, .cons (.bl _) hv⟩
    unfold neA at hk
    split at hk
    · rename_i k0 hk0
      cases hk
      unfold eqA at hk0
      split at hk0
      · cases int_of rx'; cases int_of ry'; cases hk0
        exact op_ne pins s σ H _ _ v u Q I rx ry ⟨rfl, fin _ (by rw [dec_int])⟩
      · cases str_of rx'; cases str_of ry'; cases hk0
        exact op_ne pins s σ H _ _ v u Q I rx ry ⟨rfl, fin _ (by rw [dec_str])⟩
      · cases bl_of rx'; cases bl_of ry'; cases hk0
        exact op_ne pins s σ H _ _ v u Q I rx ry ⟨rfl, fin _ (by rw [dec_bl])⟩
      · cases non_of rx'; cases non_of ry'; cases hk0
        exact op_ne pins s σ H _ _ v u Q I rx ry ⟨rfl, fin _ rfl⟩
      · split at hk0
        · rename_i x' M1 e1
          split at hk0
          · rename_i y' M2 e2
            split at hk0
            · rename_i hz
              cases hk0
              obtain ⟨F1, c1, s1, r1⟩ := frz_ok 8 _ _ _ _ e1 _ _ cc rx'
              obtain ⟨F2, c2, s2, r2⟩ := frz_ok 8 _ _ _ _ e2 _ _ c1 (ry'.upF s1)
              have hz2 := Bool.and_eq_true_iff.mp hz
              exact op_neD hu pins s σ H _ _ v u Q I rx ry ⟨_, _, Rep.dp (s2.trans c2.fh) _ _ r1, Rep.dp c2.fh _ _ r2, hz2.1, hz2.2, fin _ rfl⟩
            · cases hk0
          · cases hk0
        · cases hk0
    · cases hk
  · cases hg
theorem non_dec {K : Fg} {F : Hp} {own : List Addr} {x : V} {a b : A} {M : List O} {k : Bool} (h : isNA a b M = some k) (r : RelA K F own x a) : b = .d .non ∧ decide (x = .non) = k := by
  unfold isNA at h
  split at h
  · refine ⟨rfl, ?_⟩
    split at h
    · cases h; cases non_of r; rfl
    · rename_i z hz
      cases h
      cases r with
      | non => exact absurd rfl hz
      | bl b => rfl
      | int i => rfl
      | str x => rfl
      | tup _ _ => rfl
      | lst _ _ => rfl
      | rol _ _ => rfl
    · cases h
      obtain ⟨l, _, rfl⟩ := r
      rfl
    · cases h
  · cases h
theorem opS_isN : OpS X (compareOp .Is) (cmpR .isN) := by
  intro pins s σ H x y v u Q I rx ry B σ' δ M vs as a b c M' hat hg hq
  obtain ⟨F, own, cc, hs, hv⟩ := hat
  cases hv with
  | cons ry' t =>
  cases t with
  | cons rx' hv =>
  unfold cmpR at hg
  split at hg
  · rename_i k hk
    cases hg
    have hk : isNA a b M = some k := hk
    obtain ⟨rfl, hd⟩ := non_dec hk rx'
    cases non_of ry'
    exact op_isN pins s σ H _ _ v u Q I rx ry ⟨rfl, by rw [hd]; exact hq _ _ ⟨F, own, cc, hs, .cons (.bl _) hv⟩⟩
  · cases hg
theorem opS_notN : OpS X (compareOp .IsNot) (cmpR .notN) := by
  intro pins s σ H x y v u Q I rx ry B σ' δ M vs as a b c M' hat hg hq
  obtain ⟨F, own, cc, hs, hv⟩ := hat
  cases hv with
  | cons ry' t =>
  cases t with
  | cons rx' hv =>
  unfold cmpR at hg
  split at hg
  · rename_i k hk
    cases hg
    have hk : notNA a b M = some k := hk
    unfold notNA at hk
    split at hk
    · rename_i k0 hk0
      cases hk
      obtain ⟨rfl, hd⟩ := non_dec hk0 rx'
      cases non_of ry'
      exact op_notN pins s σ H _ _ v u Q I rx ry ⟨rfl, by rw [hd]; exact hq _ _ ⟨F, own, cc, hs, .cons (.bl _) hv⟩⟩
    · cases hk
  · cases hg
/-- an order of ints -/
theorem opS_ord {op : CmpOp} {o : Cmp} {g : Int → Int → Bool} (ho : OpR X (compareOp op) (rI0 fun i j => .bl (g i j))) (hg : ∀ a b M, cmp o a b M = match a, b with
    | .d (.int i), .d (.int j) => some (g i j)
    | _, _ => none) : OpS X (compareOp op) (cmpR o) := by
  intro pins s σ H x y v u Q I rx ry B σ' δ M vs as a b c M' hat hh hq
  obtain ⟨F, own, cc, hs, hv⟩ := hat
  cases hv with
  | cons ry' t =>
  cases t with
  | cons rx' hv =>
  unfold cmpR at hh
  split at hh
  · rename_i k hk
    cases hh
    rw [hg] at hk
    split at hk
    · cases int_of rx'; cases int_of ry'; cases hk
      exact ho pins s σ H _ _ v u Q I rx ry ⟨_, _, rfl, rfl, hq _ _ ⟨F, own, cc, hs, .cons (.bl _) hv⟩⟩
    · cases hk
  · cases hh
theorem opS_lt : OpS X (compareOp .Lt) (cmpR .lt) := opS_ord op_lt fun _ _ _ => rfl
theorem opS_le : OpS X (compareOp .LtE) (cmpR .le) := opS_ord op_le fun _ _ _ => rfl
theorem opS_gt : OpS X (compareOp .Gt) (cmpR .gt) := opS_ord op_gt fun _ _ _ => rfl
theorem opS_ge : OpS X (compareOp .GtE) (cmpR .ge) := opS_ord op_ge fun _ _ _ => rfl
/-! in -/
theorem sc_flat {K : Fg} {F : Hp} {v : V} {d : D} (h : Rep K F v d) (hd : d.isSc = true) : flatV v = true := by
  cases h with
  | non => rfl
  | bl b => rfl
  | int i => rfl
  | str x => rfl
  | tup _ _ => cases hd
  | lst _ _ => cases hd
  | rol _ _ => cases hd
theorem sc_eq {K : Fg} {F F' : Hp} {v w : V} {d e : D} (h : Rep K F v d) (hd : d.isSc = true) (h' : Rep K F' w e) (he : e.isSc = true) : eqV v w = eqS d e := by
  cases h <;> cases h' <;> first | rfl | cases hd | cases he
theorem scs_ok {K : Fg} {F : Hp} {own : List Addr} : ∀ {as : List A} {ds : List D} {ws : List V}, scs as = some ds → Al (RelA K F own) ws as → Al (fun v d => Rep K F v d ∧ D.isSc d = true) ws ds
  | [], ds, ws, e, h => by cases e; cases h; exact .nil
  | .d x :: r, ds, ws, e, h => by
    unfold scs at e
    split at e
    · rename_i hx
      split at e
      · rename_i xs e2
        cases e
        cases h with
        | cons h1 h2 => exact .cons ⟨h1, hx⟩ (scs_ok e2 h2)
      · cases e
    · cases e
  | .cell n :: r, ds, ws, e, h => by cases e
  | .un :: r, ds, ws, e, h => by cases e
theorem scs_flat {K : Fg} {F : Hp} : ∀ {ws : List V} {ds : List D}, Al (fun v d => Rep K F v d ∧ D.isSc d = true) ws ds → ws.all flatV = true
  | _, _, .nil => rfl
  | _, _, .cons r t => by rw [List.all_cons, sc_flat r.1 r.2, scs_flat t] <;> rfl
theorem scs_in {K : Fg} {F F' : Hp} {v : V} {d : D} (h : Rep K F v d) (hd : d.isSc = true) : ∀ {ws : List V} {ds : List D}, Al (fun v d => Rep K F' v d ∧ D.isSc d = true) ws ds → inV v ws = ds.any fun y => eqS y d
  | _, _, .nil => rfl
  | _, _, .cons (a := w) (b := e) r t => by
    have ih := scs_in h hd t
    unfold inV at ih ⊢
    rw [List.any_cons, List.any_cons, ih, sc_eq r.1 r.2 h hd]
theorem seqv_ok {K : Fg} {B : Base} {H F : Hp} {own : List Addr} {M : List O} {a : A} {xs : List A} {v : V} (e : seqv M a = some xs) (c : Core K B H F own M) (h : RelA K F own v a) : ∃ p ws, v = .ref p ∧ (SqL K H p ws ∨ SqT K H p ws) ∧ Al (RelA K F own) ws xs := by
  unfold seqv at e
  split at e
  · cases e
    obtain ⟨p, ws, h1, h2, h3⟩ := tup_ok c h
    exact ⟨p, ws, h1, .inr h2, al_D h3⟩
  · obtain ⟨p, ws, h1, h2, h3⟩ := lsv_ok e c h
    exact ⟨p, ws, h1, .inl h2, h3⟩
theorem opS_innG {op : CmpOp} {neg : Bool} (ho : OpR X (compareOp op) (rIn X.K neg)) {o : Cmp} (hcmp : ∀ a b M k, cmp o a b M = some k → ∃ k0, innA a b M = some k0 ∧ k = if neg then !k0 else k0) : OpS X (compareOp op) (cmpR o) := by
  intro pins s σ H x y v u Q I rx ry B σ' δ M vs as a b c M' hat hg hq
  obtain ⟨F, own, cc, hs, hv⟩ := hat
  cases hv with
  | cons ry' t =>
  cases t with
  | cons rx' hv =>
  unfold cmpR at hg
  split at hg
  · rename_i k hk
    cases hg
    obtain ⟨k0, hk0, rfl⟩ := hcmp _ _ _ _ hk
    unfold innA at hk0
    split at hk0
    · rename_i ys e1
      split at hk0
      · rename_i x1 zs e2 e3
        cases hk0
        obtain ⟨p, ws, rfl, hp, hw⟩ := seqv_ok e1 cc ry'
        have q2 := scs_ok e2 (.cons rx' .nil)
        have q3 := scs_ok e3 hw
        cases q2 with
        | cons q2 _ =>
        refine ho pins s σ H _ _ v u Q I rx ry ⟨p, ws, rfl, hp, sc_flat q2.1 q2.2, scs_flat q3, ?_⟩
        rw [scs_in q2.1 q2.2 q3]
        exact hq _ _ ⟨F, own, cc, hs, .cons (.bl _) hv⟩
      · cases hk0
    · cases hk0
  · cases hg
theorem opS_inn : OpS X (compareOp .In) (cmpR .inn) := opS_innG op_in_seq fun a b M k h => ⟨k, h, rfl⟩
theorem opS_nin : OpS X (compareOp .NotIn) (cmpR .nin) := opS_innG op_notIn_seq fun a b M k h => by
  have h : ninA a b M = some k := h
  unfold ninA at h
  split at h
  · rename_i k0 hk0
    cases h
    exact ⟨k0, hk0, rfl⟩
  · cases h
end
end Mini

set_option Elab.async false
set_option linter.all false
set_option maxRecDepth 100000
/-! Mini 5: truth, items, slices, built-ins, methods. -/
namespace Mini
open PySem PySem.Spec L2

/-! ### truth -/
section
variable {K : Fg} {B : Base} {H F : Hp} {own : List Addr} {M : List O}
theorem isEmpty_al {α β : Type} {R : α → β → Prop} {xs : List α} {ys : List β} (h : Al R xs ys) : xs.isEmpty = ys.isEmpty := by
  cases h <;> rfl
theorem tru_of {a : A} {k : Bool} {v : V} (e : tru M a = some k) (c : Core K B H F own M) (h : RelA K F own v a) : TruV K v H k := by
  unfold tru at e
  split at e
  · cases e; cases non_of h; rfl
  · cases e; cases bl_of h; rfl
  · cases e; cases int_of h; rfl
  · cases str_of h
    split at e
    · cases e; exact ⟨‹_›, rfl⟩
    · cases e
  · cases e
    obtain ⟨p, ws, rfl, h1, h2⟩ := tup_ok c h
    exact .inr (.inl ⟨ws, h1, by rw [isEmpty_al h2]⟩)
  · split at e
    · rename_i xs e1
      cases e
      obtain ⟨p, ws, rfl, h1, h2⟩ := lsv_ok e1 c h
      exact .inl ⟨ws, h1, by rw [isEmpty_al h2]⟩
    · cases e
end

/-! ### items -/
theorem ixN_len {α β : Type} {xs : List α} {ys : List β} {i : Int} {b : β} (hl : xs.length = ys.length) {R : α → β → Prop} (h : Al R xs ys) (e : atI ys i = some b) : ∃ a, atI xs i = some a ∧ R a b := by
  unfold atI at e ⊢
  rw [hl]
  cases q : ixN ys.length i with
  | none => rw [q] at e; cases e
  | some j =>
    rw [q] at e
    exact h.get e
section
variable {X : Cx}
theorem ixS : IxR X (rOp X.K fun a b M => ixA M a b) := by
  intro value slice pins s σ H x y v u Q I rx ry q hs
  obtain ⟨B, σ', δ, M, vs, as, a, b, c, M', hat, hg, hq⟩ := q
  obtain ⟨F, own, cc, hss, hv⟩ := hat
  cases hv with
  | cons ry' t =>
  cases t with
  | cons rx' hv =>
  have hg : ixA M a b = .ok c M' := hg
  unfold ixA at hg
  split at hg
  · cases int_of ry'
    split at hg
    · split at hg
      · rename_i e1
        cases hg
        obtain ⟨p, ws, rfl, h1, h2⟩ := tup_ok cc rx'
        obtain ⟨w, e2, r⟩ := ixN_len h2.length h2 e1
        exact ix_tup value slice pins s σ H _ _ v u Q I rx ry ⟨p, ws, _, w, rfl, rfl, h1, e2, hq _ _ ⟨F, own, cc, hss, .cons r hv⟩⟩ hs
      · cases hg
    · split at hg
      · split at hg
        · rename_i e1
          cases hg
          cases str_of rx'
          exact ix_str value slice pins s σ H _ _ v u Q I rx ry ⟨_, _, _, rfl, rfl, ‹_›, e1, hq _ _ ⟨F, own, cc, hss, .cons (.str _) hv⟩⟩ hs
        · cases hg
      · cases hg
    · split at hg
      · rename_i xs e1
        split at hg
        · rename_i e2
          cases hg
          obtain ⟨p, ws, rfl, h1, h2⟩ := lsv_ok e1 cc rx'
          obtain ⟨w, e3, r⟩ := ixN_len h2.length h2 e2
          exact ix_list value slice pins s σ H _ _ v u Q I rx ry ⟨p, ws, _, w, rfl, rfl, h1, e3, hq _ _ ⟨F, own, cc, hss, .cons r hv⟩⟩ hs
        · cases hg
      · cases hg
  · cases hg
end
theorem cut_al {α β : Type} {R : α → β → Prop} {xs : List α} {ys : List β} (h : Al R xs ys) (lo hi : Option Int) : Al R (cutA xs lo hi) (cutA ys lo hi) := by
  unfold cutA
  rw [h.length]
  exact (h.drop _).take _

/-! ### calls by values -/
/-- a call of a known thing, the arguments on the stack -/
def rCl (K : Fg) (g : List A → List O → R A) : List V → Hp → VK → Prop := fun ws H Q => ∃ (B : Base) (σ' : L2.St) (δ : List A) (M : List O) (vs : List V) (bs as : List A) (c : A) (M' : List O), ws.length = bs.length ∧ At K B σ' H δ M (ws ++ vs) (bs ++ as) ∧ g bs M = .ok c M' ∧
      (∀ v H', At K B σ' H' δ M' (v :: vs) (c :: as) → Q v H')
def rMt (K : Fg) (g : A → List A → List O → R A) : V → List V → Hp → VK → Prop := fun x ws H Q => ∃ (B : Base) (σ' : L2.St) (δ : List A) (M : List O) (vs : List V) (a : A) (bs as : List A) (c : A) (M' : List O), ws.length = bs.length ∧ At K B σ' H δ M (ws ++ x :: vs) (bs ++ a :: as) ∧ g a bs M = .ok c M' ∧
      (∀ v H', At K B σ' H' δ M' (v :: vs) (c :: as) → Q v H')
theorem al_one {α β : Type} {R : α → β → Prop} {xs : List α} {y : β} (h : Al R xs [y]) : ∃ x, xs = [x] ∧ R x y := by
  cases h with
  | cons r t => cases t; exact ⟨_, rfl, r⟩
theorem al_two {α β : Type} {R : α → β → Prop} {xs : List α} {y z : β} (h : Al R xs [y, z]) : ∃ x w, xs = [x, w] ∧ R x y ∧ R w z := by
  cases h with
  | cons r t =>
    obtain ⟨x, rfl, q⟩ := al_one t
    exact ⟨_, _, rfl, r, q⟩
theorem al_zero {α β : Type} {R : α → β → Prop} {xs : List α} (h : Al R xs ([] : List β)) : xs = [] := by
  cases h; rfl
section
variable {X : Cx}
theorem clS_len : CallR X (.builtin "len") (rCl X.K (bi .len)) := by
  intro pins s σ H ws us Q I r h
  obtain ⟨B, σ', δ, M, vs, bs, as, c, M', hl, ⟨F, own, cc, hs, hv0⟩, hg, hq⟩ := h
  obtain ⟨hw, hv⟩ := hv0.split hl
  clear hv0
  unfold bi at hg
  split at hg <;> try (rename_i hb; cases hb; done)
  · obtain ⟨x, rfl, rx⟩ := al_one hw
    split at hg
    · rename_i n e
      cases hg
      refine call_len pins s σ H _ us Q I r ⟨x, n, rfl, ?_, hq _ _ ⟨F, own, cc, hs, .cons (.int _) hv⟩⟩
      unfold lenA at e
      split at e
      · cases str_of rx
        split at e
        · cases e; exact ⟨‹_›, rfl⟩
        · cases e
      · cases e
        obtain ⟨p, ws, rfl, h1, h2⟩ := tup_ok cc rx
        exact .inr ⟨ws, h1, h2.length.symm⟩
      · split at e
        · rename_i xs e1
          cases e
          obtain ⟨p, ws, rfl, h1, h2⟩ := lsv_ok e1 cc rx
          exact .inl ⟨ws, h1, h2.length.symm⟩
        · cases e
    · cases hg
  · cases hg
theorem clS_int : CallR X (.type "int") (rCl X.K (bi .int)) := by
  intro pins s σ H ws us Q I r h
  obtain ⟨B, σ', δ, M, vs, bs, as, c, M', hl, ⟨F, own, cc, hs, hv0⟩, hg, hq⟩ := h
  obtain ⟨hw, hv⟩ := hv0.split hl
  clear hv0
  unfold bi at hg
  split at hg <;> try (rename_i hb; cases hb; done)
  · obtain ⟨x, rfl, rx⟩ := al_one hw
    cases hg
    cases int_of rx
    exact call_int1 pins s σ H _ us Q I r (.inl ⟨_, rfl, hq _ _ ⟨F, own, cc, hs, .cons (.int _) hv⟩⟩)
  · obtain ⟨x, rfl, rx⟩ := al_one hw
    cases hg
    cases bl_of rx
    exact call_int1 pins s σ H _ us Q I r (.inr ⟨_, rfl, hq _ _ ⟨F, own, cc, hs, .cons (.int _) hv⟩⟩)
  · cases hg
theorem clS_str : CallR X (.type "str") (rCl X.K (bi .str)) := by
  intro pins s σ H ws us Q I r h
  obtain ⟨B, σ', δ, M, vs, bs, as, c, M', hl, ⟨F, own, cc, hs, hv0⟩, hg, hq⟩ := h
  obtain ⟨hw, hv⟩ := hv0.split hl
  clear hv0
  unfold bi at hg
  split at hg <;> try (rename_i hb; cases hb; done)
  · obtain ⟨x, rfl, rx⟩ := al_one hw
    split at hg
    · cases hg
      cases int_of rx
      exact call_str_int pins s σ H _ us Q I r ⟨_, rfl, ‹_›, hq _ _ ⟨F, own, cc, hs, .cons (.str _) hv⟩⟩
    · cases hg
  · cases hg
theorem clS_abs : CallR X (.builtin "abs") (rCl X.K (bi .abs)) := by
  intro pins s σ H ws us Q I r h
  obtain ⟨B, σ', δ, M, vs, bs, as, c, M', hl, ⟨F, own, cc, hs, hv0⟩, hg, hq⟩ := h
  obtain ⟨hw, hv⟩ := hv0.split hl
  clear hv0
  unfold bi at hg
  split at hg <;> try (rename_i hb; cases hb; done)
  · obtain ⟨x, rfl, rx⟩ := al_one hw
    cases hg
    cases int_of rx
    exact call_abs pins s σ H _ us Q I r ⟨_, rfl, hq _ _ ⟨F, own, cc, hs, .cons (.int _) hv⟩⟩
  · cases hg
theorem clS_max (hc : X.calm = true) : CallR X (.builtin "max") (rCl X.K (bi .max)) := by
  intro pins s σ H ws us Q I r h
  obtain ⟨B, σ', δ, M, vs, bs, as, c, M', hl, ⟨F, own, cc, hs, hv0⟩, hg, hq⟩ := h
  obtain ⟨hw, hv⟩ := hv0.split hl
  clear hv0
  unfold bi at hg
  split at hg <;> try (rename_i hb; cases hb; done)
  · obtain ⟨x, y, rfl, rx, ry⟩ := al_two hw
    cases hg
    cases int_of rx
    cases int_of ry
    exact call_max2 hc pins s σ H _ us Q I r ⟨_, _, rfl, hq _ _ ⟨F, own, cc, hs, .cons (.int _) hv⟩⟩
  · cases hg
theorem clS_min (hc : X.calm = true) : CallR X (.builtin "min") (rCl X.K (bi .min)) := by
  intro pins s σ H ws us Q I r h
  obtain ⟨B, σ', δ, M, vs, bs, as, c, M', hl, ⟨F, own, cc, hs, hv0⟩, hg, hq⟩ := h
  obtain ⟨hw, hv⟩ := hv0.split hl
  clear hv0
  unfold bi at hg
  split at hg <;> try (rename_i hb; cases hb; done)
  · obtain ⟨x, y, rfl, rx, ry⟩ := al_two hw
    cases hg
    cases int_of rx
    cases int_of ry
    exact call_min2 hc pins s σ H _ us Q I r ⟨_, _, rfl, hq _ _ ⟨F, own, cc, hs, .cons (.int _) hv⟩⟩
  · cases hg
theorem clS_list : CallR X (.type "list") (rCl X.K (bi .list)) := by
  intro pins s σ H ws us Q I r h
  obtain ⟨B, σ', δ, M, vs, bs, as, c, M', hl, ⟨F, own, cc, hs, hv0⟩, hg, hq⟩ := h
  obtain ⟨hw, hv⟩ := hv0.split hl
  clear hv0
  unfold bi at hg
  split at hg <;> try (rename_i hb; cases hb; done)
  · obtain ⟨x, rfl, rx⟩ := al_one hw
    split at hg
    · cases hg
      obtain ⟨p, zs, rfl, h1, h2⟩ := tup_ok cc rx
      exact call_list_of pins s σ H _ us Q I r ⟨p, zs, rfl, .inr h1, fun l hl => hq _ _ (newL_at cc hs hv (al_D h2) hl)⟩
    · split at hg
      · rename_i xs e1
        cases hg
        obtain ⟨p, zs, rfl, h1, h2⟩ := lsv_ok e1 cc rx
        exact call_list_of pins s σ H _ us Q I r ⟨p, zs, rfl, .inl h1, fun l hl => hq _ _ (newL_at cc hs hv h2 hl)⟩
      · cases hg
  · cases hg
/-- something frozen is laid and stands on the stack -/
theorem laidT_at {K : Fg} {B : Base} {σ : L2.St} {H F : Hp} {own : List Addr} {δ : List A} {M : List O} {vs : List V} {as : List A} {ws : List V} {ds : List D} {p : Addr} (c : Core K B H F own M) (hs : Al (RelS K F own) σ δ) (hv : Al (RelA K F own) vs as)
    (hw : Al (Rep K F) ws ds) (hp : H p = none) : At K B σ (upd H p (.tup ws)) δ M (.ref p :: vs) (.d (.tup ds) :: as) := by
  obtain ⟨c2, s2⟩ := c.laid (o := .tup ws) hp
  refine ⟨_, own, c2, hs.mono fun _ _ r => ?_, .cons (.tup (.inl (.inl upd_same)) (Reps.of (hw.mono fun _ _ r => r.up s2))) (hv.mono fun _ _ r => r.upF s2)⟩
  have := r.up (t := []) s2
  rwa [List.append_nil] at this
theorem relS_up {K : Fg} {F F' : Hp} {own : List Addr} {σ : L2.St} {δ : List A} (h : Al (RelS K F own) σ δ) (e : Same F F') : Al (RelS K F' own) σ δ := h.mono fun _ _ r => by
  have := r.up (t := []) e
  rwa [List.append_nil] at this
theorem relA_up {K : Fg} {F F' : Hp} {own : List Addr} {vs : List V} {as : List A} (h : Al (RelA K F own) vs as) (e : Same F F') : Al (RelA K F' own) vs as := h.mono fun _ _ r => r.upF e
theorem clS_tuple : CallR X (.type "tuple") (rCl X.K (bi .tuple)) := by
  intro pins s σ H ws us Q I r h
  obtain ⟨B, σ', δ, M, vs, bs, as, c, M', hl, ⟨F, own, cc, hs, hv0⟩, hg, hq⟩ := h
  obtain ⟨hw, hv⟩ := hv0.split hl
  clear hv0
  unfold bi at hg
  split at hg <;> try (rename_i hb; cases hb; done)
  · obtain ⟨x, rfl, rx⟩ := al_one hw
    split at hg
    · cases hg
      obtain ⟨p, zs, rfl, h1, h2⟩ := tup_ok cc rx
      exact call_tuple_of pins s σ H _ us Q I r ⟨p, zs, rfl, .inr ⟨h1, hq _ _ ⟨F, own, cc, hs, .cons rx hv⟩⟩⟩
    · split at hg
      · rename_i xs e1
        split at hg
        · rename_i ds M1 e2
          cases hg
          obtain ⟨p, zs, rfl, h1, h2⟩ := lsv_ok e1 cc rx
          obtain ⟨F1, c1, s1, r1⟩ := frzs_ok e2 cc h2
          exact call_tuple_of pins s σ H _ us Q I r ⟨p, zs, rfl, .inl ⟨h1, fun l hl => hq _ _ (laidT_at c1 (relS_up hs s1) (relA_up hv s1) r1 hl)⟩⟩
        · cases hg
      · cases hg
  · cases hg
theorem mtS_append : MtR X "list.append" (rMt X.K (mt .append)) := by
  intro pins s σ H x ws v us Q I rx rs h
  obtain ⟨B, σ', δ, M, vs, a, bs, as, c, M', hl, ⟨F, own, cc, hs, hv0⟩, hg, hq⟩ := h
  obtain ⟨hw, hv⟩ := hv0.split hl
  clear hv0
  cases hv with
  | cons ra hv =>
  unfold mt at hg
  split at hg <;> try (rename_i hb; cases hb; done)
  · rename_i n y
    obtain ⟨z, rfl, rz⟩ := al_one hw
    split at hg
    · rename_i xs hM
      split at hg
      · cases hg
        obtain ⟨l, hl, rfl⟩ := ra
        obtain ⟨zs, h1, h2⟩ := cc.obj _ l _ hl hM
        have hz := h2.length
        refine mt_append pins s σ H _ _ v us Q I rx rs ⟨l, zs, z, rfl, rfl, h1, by rw [hz]; assumption, hq _ _ ⟨F, own, ?_, hs, .cons .non hv⟩⟩
        exact cc.store hl hM rfl rfl ⟨_, upd_same, h2.append (.cons rz .nil)⟩
      · cases hg
    · cases hg
  · cases hg
theorem mtS_pop : MtR X "list.pop" (rMt X.K (mt .pop)) := by
  intro pins s σ H x ws v us Q I rx rs h
  obtain ⟨B, σ', δ, M, vs, a, bs, as, c, M', hl, ⟨F, own, cc, hs, hv0⟩, hg, hq⟩ := h
  obtain ⟨hw, hv⟩ := hv0.split hl
  clear hv0
  cases hv with
  | cons ra hv =>
  unfold mt at hg
  split at hg <;> try (rename_i hb; cases hb; done)
  · rename_i n
    cases al_zero hw
    split at hg
    · rename_i xs hM
      split at hg
      · rename_i y hy
        cases hg
        obtain ⟨l, hl, rfl⟩ := ra
        obtain ⟨zs, h1, h2⟩ := cc.obj _ l _ hl hM
        rw [← h2.length] at hy
        obtain ⟨z, hz, rz⟩ := h2.get hy
        refine mt_pop pins s σ H _ _ v us Q I rx rs ⟨l, zs, z, rfl, rfl, h1, hz, hq _ _ ⟨F, own, ?_, hs, .cons rz hv⟩⟩
        exact cc.store hl hM rfl rfl ⟨_, upd_same, h2.dropLast⟩
      · cases hg
    · cases hg
  · cases hg
theorem strsA_ok {K : Fg} {F : Hp} {own : List Addr} : ∀ {as : List A} {ys : List Str} {ws : List V}, strsA as = some ys → Al (RelA K F own) ws as → ws = ys.map V.str
  | [], ys, ws, e, h => by cases e; cases h; rfl
  | .d (.str x) :: r, ys, ws, e, h => by
    unfold strsA at e
    split at e
    · rename_i xs e2
      cases e
      cases h with
      | cons h1 h2 =>
        cases str_of h1
        rw [strsA_ok e2 h2] <;> rfl
    · cases e
  | .d .non :: r, ys, ws, e, h => by cases e
  | .d (.bl _) :: r, ys, ws, e, h => by cases e
  | .d (.int _) :: r, ys, ws, e, h => by cases e
  | .d (.tup _) :: r, ys, ws, e, h => by cases e
  | .d (.lst _) :: r, ys, ws, e, h => by cases e
  | .d (.rol _) :: r, ys, ws, e, h => by cases e
  | .cell n :: r, ys, ws, e, h => by cases e
  | .un :: r, ys, ws, e, h => by cases e
theorem mtS_join : MtR X "str.join" (rMt X.K (mt .join)) := by
  intro pins s σ H x ws v us Q I rx rs h
  obtain ⟨B, σ', δ, M, vs, a, bs, as, c, M', hl, ⟨F, own, cc, hs, hv0⟩, hg, hq⟩ := h
  obtain ⟨hw, hv⟩ := hv0.split hl
  clear hv0
  cases hv with
  | cons ra hv =>
  unfold mt at hg
  split at hg <;> try (rename_i hb; cases hb; done)
  · rename_i z b
    obtain ⟨y, rfl, ry⟩ := al_one hw
    split at hg
    · rename_i xs e1
      split at hg
      · rename_i ys e2
        split at hg
        · cases hg
          cases str_of ra
          obtain ⟨p, zs, rfl, h1, h2⟩ := lsw_ok e1 cc ry
          have := strsA_ok e2 h2
          subst this
          exact mt_join pins s σ H _ _ v us Q I rx rs ⟨_, p, ys, rfl, rfl, .inl (SqL.of h1), ‹_›, hq _ _ ⟨F, own, cc, hs, .cons (.str _) hv⟩⟩
        · cases hg
      · cases hg
    · cases hg
  · cases hg
end
end Mini

set_option Elab.async false
set_option linter.all false
set_option maxRecDepth 100000
/-! Mini 6: what each form of an expression does, by what its parts do. -/
namespace Mini
open PySem PySem.Spec L2

abbrev PEf (X : Cx) (C : Nat → Addr) (W : WX) (e : Expr) (f : List A → List O → R A) : Prop := PE X e (tE X.K C W f)
abbrev PTf (X : Cx) (C : Nat → Addr) (W : WX) (e : Expr) (f : List A → List O → R Bool) : Prop := PT X e (tT X.K C W f)
abbrev PAf (X : Cx) (C : Nat → Addr) (W : WX) (es : List Expr) (f : List A → List O → R (List A)) : Prop := PA X es (tA X.K C W f)
abbrev PKf (X : Cx) (C : Nat → Addr) (W : WX) (es : List Keyword) (f : List A → List O → R (List A)) : Prop := PK X es (tA X.K C W f)

section
variable {X : Cx} {C : Nat → Addr} {W : WX} {pos : Pos} {a b c : Expr} {f g h : List A → List O → R A} {t u : List A → List O → R Bool}

/-! ### names, constants -/
theorem f_var {i : Nat} {x : Str} (hN : X.N[i]? = some x) (hv : Vis X.env.scope x) (hd : (x == ("__debug__" : Str)) = false) (hcd : (x == ("__classdict__" : Str)) = false) : PEf X C W (.Name x pos) (fun δ M => match δ[i]? with
    | some (.un) => .no
    | some a => .ok a M
    | none => .no) := by
  refine pe_imp (pe_var hN hv hd hcd) fun σ H Q q => ?_
  obtain ⟨B, δ, M, vs, as, ⟨F, own, c, hs, hv⟩, hg⟩ := q
  cases e : δ[i]? with
  | none => simp only [e] at hg; exact hg.elim
  | some a =>
    obtain ⟨o, ho, r⟩ := hs.get e
    rcases r with rfl | ⟨v, rfl, r⟩
    · simp only [e] at hg; exact hg.elim
    · refine ⟨v, ho, ?_⟩
      cases a with
      | un => exact r.elim
      | d x => simp only [e] at hg; exact hg v H ⟨F, own, c, hs, .cons r hv⟩
      | cell n => simp only [e] at hg; exact hg v H ⟨F, own, c, hs, .cons r hv⟩
theorem f_cst {x : D} {v : V} (h : PE X a (tC v)) (hr : ∀ F, Rep X.K F v x) : PEf X C W a (fun _ M => .ok (.d x) M) := by
  refine pe_imp h fun σ H Q q => ?_
  obtain ⟨B, δ, M, vs, as, ⟨F, own, c, hs, hv⟩, hg⟩ := q
  exact hg v H ⟨F, own, c, hs, .cons (hr F) hv⟩

/-! ### operators -/
/-- two parts, then a rule -/
theorem two_imp {r : A → A → List O → R A} {σ : L2.St} {H : Hp} {Q : VK} (hr : ∀ a b M x M', r a b M = .ex x M' → False) (q : tE X.K C W (fun δ M => (f δ M).bind fun x M1 => (g δ M1).bind fun y M2 => r x y M2) σ H Q) :
    tOp (rOp X.K r) (tE X.K C W f) (tE X.K C W g) σ H Q := by
  obtain ⟨B, δ, M, vs, as, hat, hg⟩ := q
  refine ⟨B, δ, M, vs, as, hat, ?_⟩
  cases e : f δ M with
  | no => simp only [e, R.bind_no] at hg; exact hg
  | ex x M' => simp only [e, R.bind_ex] at hg; exact hg
  | ok x M1 =>
    simp only [e, R.bind_ok] at hg
    intro v H1 hat1
    refine ⟨B, δ, M1, v :: vs, x :: as, hat1, ?_⟩
    cases e1 : g δ M1 with
    | no => simp only [e1, R.bind_no] at hg; exact hg
    | ex x M' => simp only [e1, R.bind_ex] at hg; exact fun cls d H' hx h' => hg cls d H' hx h'.pop
    | ok y M2 =>
      simp only [e1, R.bind_ok] at hg
      intro w H2 hat2
      cases e2 : r x y M2 with
      | no => rw [e2] at hg; exact hg.elim
      | ex z M' => exact (hr _ _ _ _ _ e2).elim
      | ok z M3 =>
        rw [e2] at hg
        exact ⟨B, σ, δ, M2, vs, as, x, y, z, M3, hat2, e2, hg⟩
theorem addA_ex : ∀ a b M x M', addA a b M = .ex x M' → False := by
  intro a b M x M' h
  unfold addA mkL newL at h
  repeat' split at h
  all_goals cases h
theorem subA_ex : ∀ a b M x M', subA a b M = .ex x M' → False := by
  intro a b M x M' h
  unfold subA at h
  repeat' split at h
  all_goals cases h
theorem mulA_ex : ∀ a b M x M', mulA a b M = .ex x M' → False := by
  intro a b M x M' h
  unfold mulA at h
  repeat' split at h
  all_goals cases h
theorem fdvA_ex : ∀ a b M x M', fdvA a b M = .ex x M' → False := by
  intro a b M x M' h
  unfold fdvA at h
  repeat' split at h
  all_goals cases h
theorem modA_ex : ∀ a b M x M', modA a b M = .ex x M' → False := by
  intro a b M x M' h
  unfold modA at h
  repeat' split at h
  all_goals cases h
theorem powA_ex : ∀ a b M x M', powA a b M = .ex x M' → False := by
  intro a b M x M' h
  unfold powA at h
  repeat' split at h
  all_goals cases h
theorem ixA_ex : ∀ a b M x M', ixA M a b = .ex x M' → False := by
  intro a b M x M' h
  unfold ixA at h
  repeat' split at h
  all_goals cases h
theorem cmpR_ex (o : Cmp) : ∀ a b M x M', cmpR o a b M = .ex x M' → False := by
  intro a b M x M' h
  unfold cmpR at h
  split at h <;> cases h
def binOp : Bin → Operator
  | .add => .Add
  | .sub => .Sub
  | .mul => .Mult
  | .fdv => .FloorDiv
  | .mod => .Mod
  | .pow => .Pow
theorem bin_ex (o : Bin) : ∀ a b M x M', bin o a b M = .ex x M' → False := by
  cases o
  · exact addA_ex
  · exact subA_ex
  · exact mulA_ex
  · exact fdvA_ex
  · exact modA_ex
  · exact powA_ex
theorem opS_bin (o : Bin) : OpS X (binaryOp (binOp o)) (bin o) := by
  cases o
  · exact opS_add
  · exact opS_sub
  · exact opS_mul
  · exact opS_fdv
  · exact opS_mod
  · exact opS_pow
theorem f_bin (o : Bin) (ha : PEf X C W a f) (hb : PEf X C W b g) : PEf X C W (.BinOp a (binOp o) b pos) (fun δ M => (f δ M).bind fun x M1 => (g δ M1).bind fun y M2 => bin o x y M2) :=
  pe_imp (pe_op (opS_bin o).r ha hb) fun _ _ _ q => two_imp (bin_ex o) q
theorem f_ix (ha : PEf X C W a f) (hb : PEf X C W b g) (hp : PlainIx b) : PEf X C W (.Subscript a b pos) (fun δ M => (f δ M).bind fun x M1 => (g δ M1).bind fun y M2 => ixA M2 x y) :=
  pe_imp (pe_ix ixS ha hb hp) fun _ _ _ q => two_imp (r := fun a b M => ixA M a b) ixA_ex q
def cmpOp : Cmp → CmpOp
  | .eq => .Eq
  | .ne => .NotEq
  | .lt => .Lt
  | .le => .LtE
  | .gt => .Gt
  | .ge => .GtE
  | .isN => .Is
  | .notN => .IsNot
  | .inn => .In
  | .nin => .NotIn
theorem opS_cmp (o : Cmp) (hu : X.A.units + 64 < cLine) : OpS X (compareOp (cmpOp o)) (cmpR o) := by
  cases o
  · exact opS_eq hu
  · exact opS_ne hu
  · exact opS_lt
  · exact opS_le
  · exact opS_gt
  · exact opS_ge
  · exact opS_isN
  · exact opS_notN
  · exact opS_inn
  · exact opS_nin
theorem f_cmp (o : Cmp) (hu : X.A.units + 64 < cLine) (ha : PEf X C W a f) (hb : PEf X C W b g) (hm : behindInMarks (cmpOp o) b = false) : PEf X C W (.Compare a [cmpOp o] [b] pos) (fun δ M => (f δ M).bind fun x M1 => (g δ M1).bind fun y M2 => cmpR o x y M2) :=
  pe_imp (pe_cmpR (opS_cmp o hu).r ha hb hm) fun _ _ _ q => two_imp (cmpR_ex o) q
theorem f_neg (ha : PEf X C W a f) : PEf X C W (.UnaryOp .USub a pos) (fun δ M => (f δ M).bind fun x M1 => match x with
    | .d (.int i) => .ok (.d (.int (-i))) M1
    | _ => .no) := by
  refine pe_imp (pe_un un_neg ha) fun σ H Q q => ?_
  obtain ⟨B, δ, M, vs, as, hat, hg⟩ := q
  refine ⟨B, δ, M, vs, as, hat, ?_⟩
  cases e : f δ M with
  | no => simp only [e, R.bind_no] at hg; exact hg
  | ex x M' => simp only [e, R.bind_ex] at hg; exact hg
  | ok x M1 =>
    simp only [e, R.bind_ok] at hg
    intro v H1 hat1
    obtain ⟨F, own, c, hs, hv⟩ := hat1
    cases hv with
    | cons r hv =>
    split at hg
    · cases int_of r
      exact ⟨_, rfl, hg _ _ ⟨F, own, c, hs, .cons (.int _) hv⟩⟩
    · exact hg.elim

/-! ### truth -/
theorem f_not (ha : PEf X C W a f) : PEf X C W (.UnaryOp .Not a pos) (fun δ M => (f δ M).bind fun x M1 => match tru M1 x with
    | some k => .ok (.d (.bl (!k))) M1
    | none => .no) := by
  refine pe_imp (pe_notT ha) fun σ H Q q => ?_
  obtain ⟨B, δ, M, vs, as, hat, hg⟩ := q
  refine ⟨B, δ, M, vs, as, hat, GE.bind hg fun x M1 v H1 hat1 hg1 => ?_⟩
  obtain ⟨F, own, c, hs, hv⟩ := hat1
  cases hv with
  | cons r hv =>
  split at hg1
  · rename_i k e
    exact ⟨k, tru_of e c r, hg1 _ _ ⟨F, own, c, hs, .cons (.bl _) hv⟩⟩
  · exact hg1.elim
theorem f_an {rest : List Expr} (ha : PEf X C W a f) (hb : PEf X C W (.BoolOp .And (b :: rest) pos) g) : PEf X C W (.BoolOp .And (a :: b :: rest) pos) (fun δ M => (f δ M).bind fun x M1 => match tru M1 x with
    | some true => g δ M1
    | some false => .ok x M1
    | none => .no) := by
  refine pe_imp (pe_andT ha hb) fun σ H Q q => ?_
  obtain ⟨B, δ, M, vs, as, hat, hg⟩ := q
  refine ⟨B, δ, M, vs, as, hat, GE.bind hg fun x M1 v H1 hat1 hg1 => ?_⟩
  have hat2 := hat1
  obtain ⟨F, own, c, hs, hv⟩ := hat1
  cases hv with
  | cons r hv =>
  split at hg1
  · rename_i e
    exact ⟨true, tru_of e c r, iteT ⟨B, δ, M1, vs, as, ⟨F, own, c, hs, hv⟩, hg1⟩⟩
  · rename_i e
    exact ⟨false, tru_of e c r, iteF (hg1 _ _ hat2)⟩
  · exact hg1.elim
theorem f_or {rest : List Expr} (ha : PEf X C W a f) (hb : PEf X C W (.BoolOp .Or (b :: rest) pos) g) : PEf X C W (.BoolOp .Or (a :: b :: rest) pos) (fun δ M => (f δ M).bind fun x M1 => match tru M1 x with
    | some true => .ok x M1
    | some false => g δ M1
    | none => .no) := by
  refine pe_imp (pe_orT ha hb) fun σ H Q q => ?_
  obtain ⟨B, δ, M, vs, as, hat, hg⟩ := q
  refine ⟨B, δ, M, vs, as, hat, GE.bind hg fun x M1 v H1 hat1 hg1 => ?_⟩
  have hat2 := hat1
  obtain ⟨F, own, c, hs, hv⟩ := hat1
  cases hv with
  | cons r hv =>
  split at hg1
  · rename_i e
    exact ⟨true, tru_of e c r, iteT (hg1 _ _ hat2)⟩
  · rename_i e
    exact ⟨false, tru_of e c r, iteF ⟨B, δ, M1, vs, as, ⟨F, own, c, hs, hv⟩, hg1⟩⟩
  · exact hg1.elim
/-- one operand left -/
theorem f_bool1 {op : BoolOp} (ha : PEf X C W a f) : PEf X C W (.BoolOp op [a] pos) f := ⟨fun pins s σ H Q I q => ha.run pins s σ H Q I q⟩

/-! ### tests -/
theorem t_tru (ha : PEf X C W a f) (he : ∀ whole, isTrue a X.env whole = (do let v ← whole; standAt a.pos; holding [v] (truthy v))) : PTf X C W a (fun δ M => (f δ M).bind fun x M1 => match tru M1 x with
    | some k => .ok k M1
    | none => .no) := by
  refine pt_imp (pt_truth ha he) fun σ H Q q => ?_
  obtain ⟨B, δ, M, vs, as, hat, hg⟩ := q
  refine ⟨B, δ, M, vs, as, hat, ?_⟩
  cases e : f δ M with
  | no => simp only [e, R.bind_no] at hg; exact hg
  | ex x M' => simp only [e, R.bind_ex] at hg; exact hg
  | ok x M1 =>
    simp only [e, R.bind_ok] at hg
    intro v H1 hat1
    obtain ⟨F, own, c, hs, hv⟩ := hat1
    cases hv with
    | cons r hv =>
    split at hg
    · rename_i k e
      exact ⟨k, tru_of e c r, hg _ ⟨F, own, c, hs, hv⟩⟩
    · exact hg.elim
theorem GT.bind {B : Base} {σ : L2.St} {δ : List A} {vs : List V} {as : List A} {r : R Bool} {k : Bool → List O → R Bool} {Q Q' : Bool → Hp → Prop} (hg : GT X.K C W B σ δ vs as Q (r.bind k)) (hk : ∀ x M1 H1, At X.K B σ H1 δ M1 vs as → GT X.K C W B σ δ vs as Q (k x M1) → Q' x H1) :
    GT X.K C W B σ δ vs as Q' r := by
  cases r with
  | ok a M' => exact fun H' hat => hk a M' H' hat hg
  | ex x M' => exact hg
  | no => exact hg
theorem t_not (ha : PTf X C W a t) : PTf X C W (.UnaryOp .Not a pos) (fun δ M => (t δ M).bind fun k M1 => .ok (!k) M1) := by
  refine pt_imp (pt_not ha) fun σ H Q q => ?_
  obtain ⟨B, δ, M, vs, as, hat, hg⟩ := q
  exact ⟨B, δ, M, vs, as, hat, GT.bind hg fun x M1 H1 hat1 hg1 => hg1 _ hat1⟩
/-- a chain of and, or -/
abbrev PWf (X : Cx) (C : Nat → Addr) (W : WX) (e : Expr) (f : List A → List O → R Bool) : Prop := PW X e (tT X.K C W f)
theorem pw_imp {e : Expr} {t t' : TT} (h : PW X e t) (hi : ∀ σ H Q, t' σ H Q → t σ H Q) : PW X e t' := ⟨fun w pins s σ H Q I q => h.run w pins s σ H Q I (hi σ H Q q)⟩
theorem w_an {rest : List Expr} (ha : PTf X C W a t) (hb : PWf X C W (.BoolOp .And (b :: rest) pos) u) : PWf X C W (.BoolOp .And (a :: b :: rest) pos) (fun δ M => (t δ M).bind fun k M1 => if k then u δ M1 else .ok false M1) := by
  refine pw_imp (pw_and ha hb) fun σ H Q q => ?_
  obtain ⟨B, δ, M, vs, as, hat, hg⟩ := q
  refine ⟨B, δ, M, vs, as, hat, GT.bind hg fun x M1 H1 hat1 hg1 => ?_⟩
  cases x with
  | true => exact iteT ⟨B, δ, M1, vs, as, hat1, hg1⟩
  | false => exact iteF (hg1 _ hat1)
theorem w_or {rest : List Expr} (ha : PTf X C W a t) (hb : PWf X C W (.BoolOp .Or (b :: rest) pos) u) : PWf X C W (.BoolOp .Or (a :: b :: rest) pos) (fun δ M => (t δ M).bind fun k M1 => if k then .ok true M1 else u δ M1) := by
  refine pw_imp (pw_or ha hb) fun σ H Q q => ?_
  obtain ⟨B, δ, M, vs, as, hat, hg⟩ := q
  refine ⟨B, δ, M, vs, as, hat, GT.bind hg fun x M1 H1 hat1 hg1 => ?_⟩
  cases x with
  | true => exact iteT (hg1 _ hat1)
  | false => exact iteF ⟨B, δ, M1, vs, as, hat1, hg1⟩
theorem t_ifx (ht : PTf X C W a t) {p q : List A → List O → R Bool} (hp : PTf X C W b p) (hq : PTf X C W c q) : PTf X C W (.IfExp a b c pos) (fun δ M => (t δ M).bind fun k M1 => if k then p δ M1 else q δ M1) := by
  refine ⟨fun pins s σ H Q I z => ?_⟩
  obtain ⟨B, δ, M, vs, as, hat, hg⟩ := z
  show wpAny _ _ (do if ← isTrue a X.env (eval a X.env) then isTrue b X.env (eval b X.env) else isTrue c X.env (eval c X.env)) _ _ _
  refine wpAny_bind (thn (ht.run pins s σ H (fun k H1 => if k = true then tT X.K C W p σ H1 Q else tT X.K C W q σ H1 Q) I ⟨B, δ, M, vs, as, hat, GT.bind hg fun x M1 H1 hat1 hg1 => ?_⟩) fun d s1 ⟨H1, I1, q1⟩ => ?_)
  · cases x with
    | true => exact iteT ⟨B, δ, M1, vs, as, hat1, hg1⟩
    | false => exact iteF ⟨B, δ, M1, vs, as, hat1, hg1⟩
  · cases d with
    | true => exact hp.run pins s1 σ H1 Q I1 q1
    | false => exact hq.run pins s1 σ H1 Q I1 q1
theorem f_ifx (ht : PTf X C W a t) (hp : PEf X C W b f) (hq : PEf X C W c g) : PEf X C W (.IfExp a b c pos) (fun δ M => (t δ M).bind fun k M1 => if k then f δ M1 else g δ M1) := by
  refine pe_imp (pe_ifExp ht hp hq) fun σ H Q z => ?_
  obtain ⟨B, δ, M, vs, as, hat, hg⟩ := z
  refine ⟨B, δ, M, vs, as, hat, ?_⟩
  cases e : t δ M with
  | no => simp only [e, R.bind_no] at hg; exact hg
  | ex x M' => simp only [e, R.bind_ex] at hg; exact hg
  | ok x M1 =>
    simp only [e, R.bind_ok] at hg
    intro H1 hat1
    cases x with
    | true => exact iteT ⟨B, δ, M1, vs, as, hat1, hg⟩
    | false => exact iteF ⟨B, δ, M1, vs, as, hat1, hg⟩
/-! ### comparisons as tests; two in a row -/
/-- a reading whose value is a bool, as a test -/
theorem test_imp {F : List A → List O → R A} {σ : L2.St} {H : Hp} {Q : Bool → Hp → Prop} (hb : ∀ δ M x M1, F δ M = .ok x M1 → ∃ k, x = .d (.bl k)) (q : tT X.K C W (fun δ M => (F δ M).bind fun x M1 => match tru M1 x with
    | some k => .ok k M1
    | none => .no) σ H Q) : tE X.K C W F σ H (fun x H' => ∃ k, x = .bl k ∧ Q k H') := by
  obtain ⟨B, δ, M, vs, as, hat, hg⟩ := q
  refine ⟨B, δ, M, vs, as, hat, ?_⟩
  cases e : F δ M with
  | no => simp only [e, R.bind_no] at hg; exact hg
  | ex x M' => simp only [e, R.bind_ex] at hg; exact hg
  | ok x M1 =>
    obtain ⟨k, rfl⟩ := hb _ _ _ _ e
    simp only [e, R.bind_ok] at hg
    intro v H1 hat1
    obtain ⟨F', own, c, hs, hv⟩ := hat1
    cases hv with
    | cons r hv =>
      cases bl_of r
      exact ⟨k, rfl, hg _ ⟨F', own, c, hs, hv⟩⟩
theorem bind_bl {f g : List A → List O → R A} {o : Cmp} {δ : List A} {M : List O} {x : A} {M1 : List O} (h : ((f δ M).bind fun x M1 => (g δ M1).bind fun y M2 => cmpR o x y M2) = .ok x M1) : ∃ k, x = .d (.bl k) := by
  cases e : f δ M with
  | no => simp only [e, R.bind_no] at h; cases h
  | ex z M' => simp only [e, R.bind_ex] at h; cases h
  | ok z M2 =>
    simp only [e, R.bind_ok] at h
    cases e1 : g δ M2 with
    | no => simp only [e1, R.bind_no] at h; cases h
    | ex z M' => simp only [e1, R.bind_ex] at h; cases h
    | ok y M3 =>
      simp only [e1, R.bind_ok] at h
      unfold cmpR at h
      split at h
      · cases h; exact ⟨_, rfl⟩
      · cases h
theorem t_cmp (o : Cmp) (hu : X.A.units + 64 < cLine) (ha : PEf X C W a f) (hb : PEf X C W b g) (hm : behindInMarks (cmpOp o) b = false) : PTf X C W (.Compare a [cmpOp o] [b] pos) (fun δ M => ((f δ M).bind fun x M1 => (g δ M1).bind fun y M2 => cmpR o x y M2).bind fun x M1 => match tru M1 x with
    | some k => .ok k M1
    | none => .no) :=
  pt_imp (pt_cmpR (opS_cmp o hu).r ha hb hm) fun _ _ _ q => two_imp (cmpR_ex o) (test_imp (fun _ _ _ _ e => bind_bl e) q)
theorem ch_imp {o p : Cmp} {σ : L2.St} {H : Hp} {Q : VK} (q : tE X.K C W (chF o p f g h) σ H Q) : tChain (rOp X.K (cmpR o)) (rOp X.K (cmpR p)) (tE X.K C W f) (tE X.K C W g) (tE X.K C W h) σ H Q := by
  obtain ⟨B, δ, M, vs, as, hat, hg⟩ := q
  unfold chF at hg
  refine ⟨B, δ, M, vs, as, hat, GE.bind hg fun x M1 v H1 hat1 hg1 => ?_⟩
  refine ⟨B, δ, M1, v :: vs, x :: as, hat1, ?_⟩
  cases e1 : g δ M1 with
  | no => simp only [e1, R.bind_no] at hg1; exact hg1
  | ex z M' => simp only [e1, R.bind_ex] at hg1; exact fun cls d H' hx h' => hg1 cls d H' hx h'.pop
  | ok y M2 =>
    simp only [e1, R.bind_ok] at hg1
    intro w H2 hat2
    obtain ⟨F, own, cc, hs, hv⟩ := hat2
    cases hv with
    | cons rw t =>
    cases t with
    | cons rv hv =>
    cases e2 : cmp o x y M2 with
    | none => rw [e2] at hg1; exact hg1.elim
    | some k =>
      rw [e2] at hg1
      refine ⟨B, σ, δ, M2, w :: vs, y :: as, x, y, .d (.bl k), M2, ⟨F, own, cc, hs, .cons rw (.cons rv (.cons rw hv))⟩, by unfold cmpR; rw [e2], fun z H3 hat3 => ?_⟩
      obtain ⟨F3, own3, c3, hs3, hv3⟩ := hat3
      cases hv3 with
      | cons rz hv3 =>
      cases bl_of rz
      refine ⟨k, rfl, ?_⟩
      cases k with
      | false =>
        refine iteF (hg1 _ _ ⟨F3, own3, c3, hs3, .cons (.bl _) ?_⟩)
        cases hv3 with
        | cons _ t => exact t
      | true =>
        refine iteT ⟨B, δ, M2, w :: vs, y :: as, ⟨F3, own3, c3, hs3, hv3⟩, ?_⟩
        cases e3 : h δ M2 with
        | no => simp only [e3, R.bind_no] at hg1; exact hg1
        | ex z M' => simp only [e3, R.bind_ex] at hg1; exact fun cls d H' hx h' => hg1 cls d H' hx h'.pop
        | ok z M4 =>
          simp only [e3, R.bind_ok] at hg1
          intro u H4 hat4
          cases e4 : cmpR p y z M4 with
          | no => rw [e4] at hg1; exact hg1.elim
          | ex z M' => exact (cmpR_ex _ _ _ _ _ _ e4).elim
          | ok r M5 =>
            rw [e4] at hg1
            exact ⟨B, σ, δ, M4, vs, as, y, z, r, M5, hat4, e4, hg1⟩
theorem f_chn (o p : Cmp) (hu : X.A.units + 64 < cLine) (ha : PEf X C W a f) (hb : PEf X C W b g) (hc : PEf X C W c h) (hm : lastMarks [cmpOp o, cmpOp p] [b, c] = false) : PEf X C W (.Compare a [cmpOp o, cmpOp p] [b, c] pos) (chF o p f g h) :=
  pe_imp (pe_chain (opS_cmp o hu).r (opS_cmp p hu).r ha hb hc hm) fun _ _ _ q => ch_imp q
theorem chF_bl {o p : Cmp} {δ : List A} {M : List O} {x : A} {M1 : List O} (e : chF o p f g h δ M = .ok x M1) : ∃ k, x = .d (.bl k) := by
  unfold chF at e
  cases e1 : f δ M with
  | no => simp only [e1, R.bind_no] at e; cases e
  | ex z M' => simp only [e1, R.bind_ex] at e; cases e
  | ok z M2 =>
    simp only [e1, R.bind_ok] at e
    cases e2 : g δ M2 with
    | no => simp only [e2, R.bind_no] at e; cases e
    | ex z M' => simp only [e2, R.bind_ex] at e; cases e
    | ok y M3 =>
      simp only [e2, R.bind_ok] at e
      split at e
      · cases e3 : h δ M3 with
        | no => simp only [e3, R.bind_no] at e; cases e
        | ex z M' => simp only [e3, R.bind_ex] at e; cases e
        | ok w M4 =>
          simp only [e3, R.bind_ok] at e
          unfold cmpR at e
          split at e
          · cases e; exact ⟨_, rfl⟩
          · cases e
      · cases e; exact ⟨_, rfl⟩
      · cases e
theorem t_chn (o p : Cmp) (hu : X.A.units + 64 < cLine) (ha : PEf X C W a f) (hb : PEf X C W b g) (hc : PEf X C W c h) (hm : lastMarks [cmpOp o, cmpOp p] [b, c] = false) : PTf X C W (.Compare a [cmpOp o, cmpOp p] [b, c] pos) (fun δ M => (chF o p f g h δ M).bind fun x M1 => match tru M1 x with
    | some k => .ok k M1
    | none => .no) :=
  pt_imp (pt_chain (opS_cmp o hu).r (opS_cmp p hu).r ha hb hc hm) fun _ _ _ q => ch_imp (test_imp (fun _ _ _ _ e => chF_bl e) q)
end
end Mini

set_option Elab.async false
set_option linter.all false
set_option maxRecDepth 100000
/-! Mini 7: argument lists, displays, calls of built-ins and methods, isinstance. -/
namespace Mini
open PySem PySem.Spec L2

/-! ### the syntax's own conditions -/
def noStar : Expr → Bool
  | .Starred .. => false
  | _ => true
theorem star_one {e : Expr} (h : noStar e = true) (es : List Expr) (env : Env) : starEach (e :: es) env = (false, eval e env) :: starEach es env := by
  cases e <;> first | rfl | cases h
theorem star_any {es : List Expr} (h : es.all noStar = true) (pos : Pos) (env : Env) : (backTo pos (starEach es env)).any (·.1) = false := by
  induction es with
  | nil => rfl
  | cons e r ih =>
    rw [List.all_cons, Bool.and_eq_true_iff] at h
    rw [star_one h.1]
    show (false || (backTo pos (starEach r env)).any (·.1)) = false
    rw [ih h.2] <;> rfl
theorem star_all {es : List Expr} (h : es.all noStar = true) (pos : Pos) (env : Env) : (backTo pos (starEach es env)).all (fun x => !x.1) = true := by
  induction es with
  | nil => rfl
  | cons e r ih =>
    rw [List.all_cons, Bool.and_eq_true_iff] at h
    rw [star_one h.1]
    show (!false && (backTo pos (starEach r env)).all (fun x => !x.1)) = true
    rw [ih h.2] <;> rfl

section
variable {X : Cx} {C : Nat → Addr} {W : WX} {pos : Pos} {a b c e : Expr} {es : List Expr} {f g h : List A → List O → R A} {fs : List A → List O → R (List A)}
/-! ### argument lists -/
theorem as_nil : PAf X C W [] (fun _ M => .ok [] M) := by
  refine pa_imp pa_nil fun σ H Q q => ?_
  obtain ⟨B, δ, M, vs, as, hat, hg⟩ := q
  exact hg [] H rfl hat
theorem al_move {α β : Type} {R : α → β → Prop} {v : α} {a : β} {ws vs : List α} {bs as : List β} (hl : ws.length = bs.length) (h : Al R (ws ++ v :: vs) (bs ++ a :: as)) : Al R ((v :: ws) ++ vs) ((a :: bs) ++ as) := by
  obtain ⟨h1, h2⟩ := h.split hl
  cases h2 with
  | cons r t => exact .cons r (h1.append t)
theorem two_args {σ : L2.St} {H : Hp} {Q : List V → Hp → Prop} (q : tA X.K C W (fun δ M => (f δ M).bind fun x M1 => (fs δ M1).bind fun xs M2 => .ok (x :: xs) M2) σ H Q) : tCons (tE X.K C W f) (tA X.K C W fs) σ H Q := by
  obtain ⟨B, δ, M, vs, as, hat, hg⟩ := q
  refine ⟨B, δ, M, vs, as, hat, ?_⟩
  cases e1 : f δ M with
  | no => simp only [e1, R.bind_no] at hg; exact hg
  | ex x M' => simp only [e1, R.bind_ex] at hg; exact hg
  | ok x M1 =>
    simp only [e1, R.bind_ok] at hg
    intro v H1 hat1
    refine ⟨B, δ, M1, v :: vs, x :: as, hat1, ?_⟩
    cases e2 : fs δ M1 with
    | no => simp only [e2, R.bind_no] at hg; exact hg
    | ex x M' => simp only [e2, R.bind_ex] at hg; exact fun cls d H' hx h' => hg cls d H' hx h'.pop
    | ok xs M2 =>
      simp only [e2, R.bind_ok] at hg
      intro ws H2 hl hat2
      obtain ⟨F, own, cc, hs, hv⟩ := hat2
      exact hg (v :: ws) H2 (by simp [hl]) ⟨F, own, cc, hs, al_move hl hv⟩
theorem as_cons (ha : PEf X C W e f) (hr : PAf X C W es fs) (hs : noStar e = true) : PAf X C W (e :: es) (fun δ M => (f δ M).bind fun x M1 => (fs δ M1).bind fun xs M2 => .ok (x :: xs) M2) :=
  pa_imp (pa_cons ha hr (star_one hs _ _)) fun _ _ _ q => two_args q
theorem ks_nil : PKf X C W [] (fun _ M => .ok [] M) := by
  refine ⟨fun pos pins s σ H Q I q => pk_nil.run pos pins s σ H Q I ?_⟩
  obtain ⟨B, δ, M, vs, as, hat, hg⟩ := q
  exact hg [] H rfl hat
theorem ks_cons {nm : Option Str} {kpos : Pos} {kws : List Keyword} (ha : PEf X C W e f) (hr : PKf X C W kws fs) : PKf X C W (⟨nm, e, kpos⟩ :: kws) (fun δ M => (f δ M).bind fun x M1 => (fs δ M1).bind fun xs M2 => .ok (x :: xs) M2) :=
  ⟨fun pos pins s σ H Q I q => (pk_cons ha hr).run pos pins s σ H Q I (two_args q)⟩

/-! ### displays -/
theorem f_lst (ha : PAf X C W es fs) : PEf X C W (.List es pos) (fun δ M => (fs δ M).bind fun as M1 => mkL M1 as) := by
  refine pe_imp (pe_lst ha) fun σ H Q q => ?_
  obtain ⟨B, δ, M, vs, as, hat, hg⟩ := q
  refine ⟨B, δ, M, vs, as, hat, ?_⟩
  cases e1 : fs δ M with
  | no => simp only [e1, R.bind_no] at hg; exact hg
  | ex x M' => simp only [e1, R.bind_ex] at hg; exact hg
  | ok xs M1 =>
    simp only [e1, R.bind_ok] at hg
    intro ws H1 hl hat1
    obtain ⟨F, own, cc, hs, hv⟩ := hat1
    obtain ⟨hw, hv⟩ := hv.split hl
    unfold mkL at hg
    split at hg
    · rename_i hz
      exact ⟨by rw [hl]; exact hz, fun p hp => hg _ _ (newL_at cc hs hv hw hp)⟩
    · exact hg.elim
theorem f_tup {k : Nat} (ha : PAf X C W es fs) : PEf X C W (.Tuple es k pos) (fun δ M => (fs δ M).bind fun as M1 => match frzL (frz 8) M1 as with
    | some (ds, M2) => if ds.length ≤ sizeLine then .ok (.d (.tup ds)) M2 else .no
    | none => .no) := by
  refine pe_imp (pe_tup ha) fun σ H Q q => ?_
  obtain ⟨B, δ, M, vs, as, hat, hg⟩ := q
  refine ⟨B, δ, M, vs, as, hat, ?_⟩
  cases e1 : fs δ M with
  | no => simp only [e1, R.bind_no] at hg; exact hg
  | ex x M' => simp only [e1, R.bind_ex] at hg; exact hg
  | ok xs M1 =>
    simp only [e1, R.bind_ok] at hg
    intro ws H1 hl hat1
    obtain ⟨F, own, cc, hs, hv⟩ := hat1
    obtain ⟨hw, hv⟩ := hv.split hl
    split at hg
    · rename_i ds M2 e2
      obtain ⟨F1, c1, s1, r1⟩ := frzs_ok e2 cc hw
      split at hg
      · rename_i hz
        exact ⟨by rw [r1.length]; exact hz, fun p hp => hg _ _ (laidT_at c1 (relS_up hs s1) (relA_up hv s1) r1 hp)⟩
      · exact hg.elim
    · exact hg.elim

/-! ### built-ins -/
theorem call_imp {G : List A → List O → R A} (hG : ∀ as M x M', G as M = .ex x M' → False) {σ : L2.St} {H : Hp} {Q : VK} (q : tE X.K C W (fun δ M => (fs δ M).bind fun as M1 => G as M1) σ H Q) : tCB (rCl X.K G) (tA X.K C W fs) σ H Q := by
  obtain ⟨B, δ, M, vs, as, hat, hg⟩ := q
  refine ⟨B, δ, M, vs, as, hat, ?_⟩
  cases e1 : fs δ M with
  | no => simp only [e1, R.bind_no] at hg; exact hg
  | ex x M' => simp only [e1, R.bind_ex] at hg; exact hg
  | ok xs M1 =>
    simp only [e1, R.bind_ok] at hg
    intro ws H1 hl hat1
    cases e2 : G xs M1 with
    | no => rw [e2] at hg; exact hg.elim
    | ex x M' => exact (hG _ _ _ _ e2).elim
    | ok z M2 =>
      rw [e2] at hg
      exact ⟨B, σ, δ, M1, vs, xs, as, z, M2, hl, hat1, e2, hg⟩
theorem bi_ex (k : Bi) : ∀ as M x M', bi k as M = .ex x M' → False := by
  intro as M x M' h
  unfold bi newL at h
  repeat' split at h
  all_goals cases h
/-- f(e, ..), f a built-in function; a built-in type -/
theorem f_callB {x : Str} {p : Pos} {id : String} {G : List A → List O → R A} (hG : ∀ as M x M', G as M = .ex x M' → False) (hc : CallR X (.builtin id) (rCl X.K G)) (hg : Gl X x) (hm : X.mg x = none) (hv : bootBuiltins x = some (.builtin id)) (ha : PAf X C W (e :: es) fs)
    (hn : x ≠ "__name__") (hdb : (x == ("__debug__" : Str)) = false) (hs : (e :: es).all noStar = true) : PEf X C W (.Call (.Name x p) (e :: es) [] pos) (fun δ M => (fs δ M).bind fun as M1 => G as M1) := by
  rw [List.all_cons, Bool.and_eq_true_iff] at hs
  exact pe_imp (pe_callB hc hg hm hv ha hn hdb (star_one hs.1 _ _) (star_any hs.2 _ _)) fun _ _ _ q => call_imp hG q
theorem f_callT {x : Str} {p : Pos} {T : String} {G : List A → List O → R A} (hG : ∀ as M x M', G as M = .ex x M' → False) (hc : CallR X (.type T) (rCl X.K G)) (hg : Gl X x) (hm : X.mg x = none) (hv : bootBuiltins x = some (.type T)) (ha : PAf X C W (e :: es) fs)
    (hn : x ≠ "__name__") (hdb : (x == ("__debug__" : Str)) = false) (hs : (e :: es).all noStar = true) : PEf X C W (.Call (.Name x p) (e :: es) [] pos) (fun δ M => (fs δ M).bind fun as M1 => G as M1) := by
  rw [List.all_cons, Bool.and_eq_true_iff] at hs
  exact pe_imp (pe_callTy hc hg hm hv ha hn hdb (star_one hs.1 _ _) (star_any hs.2 _ _)) fun _ _ _ q => call_imp hG q

/-! ### methods of built-in types -/
def noCall0 : Expr → Bool
  | .Call _ [] [] _ => false
  | _ => true
theorem base_of {o : Expr} (h : noCall0 o = true) (attr : Str) (env : Env) (whole : Sem Value) : attributeBase o attr env whole = whole := by
  unfold attributeBase
  split
  · cases h
  · rfl
theorem mt_ex (m : Mt) : ∀ a as M x M', mt m a as M = .ex x M' → False := by
  intro a as M x M' h
  unfold mt at h
  repeat' split at h
  all_goals cases h
/-- whose method -/
def mtT : Mt → String
  | .append => "list"
  | .pop => "list"
  | .join => "str"
theorem rcv_ok {B : Base} {H F : Hp} {own : List Addr} {M : List O} {m : Mt} {x : A} {v : V} (c : Core X.K B H F own M) (r : RelA X.K F own v x) (h : rcv m M x = true) : tyV X.K (mtT m) v H := by
  unfold rcv at h
  cases m with
  | append =>
    obtain ⟨xs, e⟩ := Option.isSome_iff_exists.mp h
    obtain ⟨p, ws, rfl, h1, h2⟩ := lsv_ok e c r
    exact .inl ⟨rfl, ws, h1⟩
  | pop =>
    obtain ⟨xs, e⟩ := Option.isSome_iff_exists.mp h
    obtain ⟨p, ws, rfl, h1, h2⟩ := lsv_ok e c r
    exact .inl ⟨rfl, ws, h1⟩
  | join =>
    cases x with
    | d z =>
      cases z with
      | str y => cases str_of r; rfl
      | _ => cases h
    | _ => cases h
/-- o.m(e, ..), m of a built-in type -/
theorem f_mt {name : Str} {apos : Pos} {id : String} {m : Mt} (pa : PlainAttrs (mtT m)) (slot : Slot (mtT m) name id) (hty : typeOf (.builtin id) = pure (.type "method_descriptor")) (hm : MtR X id (rMt X.K (mt m)))
    (ho : PEf X C W a f) (ha : PAf X C W (e :: es) fs) (hs : (e :: es).all noStar = true) (h0 : noCall0 a = true) (hfew : (e :: es).length < 30) (hline : (apos.endLine == pos.line) = true) :
    PEf X C W (.Call (.Attribute a name apos) (e :: es) [] pos) (fun δ M => (f δ M).bind fun x M1 => if rcv m M1 x then (fs δ M1).bind fun as M2 => mt m x as M2 else .no) := by
  have hs2 := hs
  rw [List.all_cons, Bool.and_eq_true_iff] at hs
  refine pe_imp (pe_bm pa slot hty hm ho ha (base_of h0 _ _ _) ?_ hline (star_one hs.1 _ _) (star_any hs.2 _ _)) fun σ H Q q => ?_
  · rw [star_all hs2]
    simp only [keywordEach, backToKw, List.map_nil, List.all_nil, Bool.and_true, Bool.true_and, List.length_nil, List.isEmpty_nil, if_true, Nat.add_zero, decide_eq_true_eq]
    exact hfew
  · obtain ⟨B, δ, M, vs, as, hat, hg⟩ := q
    refine ⟨B, δ, M, vs, as, hat, GE.bind hg fun x M1 v H1 hat1 hg1 => ?_⟩
    have hat1' := hat1
    obtain ⟨F, own, cc, hs, hv⟩ := hat1
    cases hv with
    | cons r hv =>
    split at hg1
    · rename_i hr
      refine ⟨rcv_ok cc r hr, B, δ, M1, v :: vs, x :: as, hat1', ?_⟩
      cases e1 : fs δ M1 with
      | no => simp only [e1, R.bind_no] at hg1; exact hg1.elim
      | ex z M' => simp only [e1, R.bind_ex] at hg1; exact fun cls d H' hx h' => hg1 cls d H' hx h'.pop
      | ok xs M2 =>
        simp only [e1, R.bind_ok] at hg1
        cases e2 : mt m x xs M2 with
        | no => rw [e2] at hg1; exact hg1.elim
        | ex z M' => exact (mt_ex _ _ _ _ _ _ e2).elim
        | ok z M3 =>
          rw [e2] at hg1
          intro ws H2 hl hat2
          exact ⟨B, σ, δ, M2, vs, x, xs, as, z, M3, hl, hat2, e2, hg1⟩
    · exact hg1.elim
theorem f_mt0 {name : Str} {apos : Pos} {id : String} {m : Mt} (pa : PlainAttrs (mtT m)) (slot : Slot (mtT m) name id) (hty : typeOf (.builtin id) = pure (.type "method_descriptor")) (hm : MtR X id (rMt X.K (mt m)))
    (ho : PEf X C W a f) (h0 : noCall0 a = true) (hline : (apos.endLine == pos.line) = true) :
    PEf X C W (.Call (.Attribute a name apos) [] [] pos) (fun δ M => (f δ M).bind fun x M1 => if rcv m M1 x then (R.ok [] M1).bind fun as M2 => mt m x as M2 else .no) := by
  refine pe_imp (pe_bm0 pa slot hty hm ho (base_of h0 _ _ _) hline) fun σ H Q q => ?_
  obtain ⟨B, δ, M, vs, as, hat, hg⟩ := q
  refine ⟨B, δ, M, vs, as, hat, GE.bind hg fun x M1 v H1 hat1 hg1 => ?_⟩
  have hat1' := hat1
  obtain ⟨F, own, cc, hs, hv⟩ := hat1
  cases hv with
  | cons r hv =>
  split at hg1
  · rename_i hr
    refine ⟨rcv_ok cc r hr, ?_⟩
    simp only [R.bind_ok] at hg1
    cases e2 : mt m x [] M1 with
    | no => rw [e2] at hg1; exact hg1.elim
    | ex z M' => exact (mt_ex _ _ _ _ _ _ e2).elim
    | ok z M3 =>
      rw [e2] at hg1
      exact ⟨B, σ, δ, M1, vs, x, [], as, z, M3, rfl, hat1', e2, hg1⟩
  · exact hg1.elim
/-! ### isinstance, built-in types -/
def Ty.nm : Ty → String
  | .non => "NoneType"
  | .bool => "bool"
  | .int => "int"
  | .str => "str"
  | .tup => "tuple"
  | .lst => "list"
  | .dic => "dict"
theorem kit_sub (t u : Ty) : kitB t.nm u.nm = some (t.sub u) := by
  cases t <;> cases u <;> decide +kernel
theorem tyX_ok {B : Base} {H F : Hp} {own : List Addr} {M : List O} {x : A} {v : V} {t : Ty} (c : Core X.K B H F own M) (r : RelA X.K F own v x) (h : tyOf M x = some t) : TyX X.K H v (.type t.nm) := by
  have lst : ∀ {p : Addr} {ws : List V}, H p = some (.lst ws) → TyX X.K H (.ref p) (.type Ty.lst.nm) := fun e => .base (.lst e)
  unfold tyOf at h
  split at h
  · cases h; cases non_of r; exact .base .non
  · cases h; cases bl_of r; exact .base (.bl _)
  · cases h; cases int_of r; exact .base (.int _)
  · cases h; cases str_of r; exact .base (.str _)
  · cases h
    obtain ⟨p, ws, rfl, h1, h2⟩ := tup_ok c r
    rcases h1 with (h1 | ⟨o, h1⟩) | ⟨o, its, n, hk, hc, _⟩
    · exact .base (.tup h1)
    · exact .fTuple h1
    · exact .kTuple hk hc
  · cases h
    cases r with
    | lst hs _ => exact lst (c.fh _ _ hs)
  · cases h
  · obtain ⟨l, hl, rfl⟩ := r
    split at h
    · rename_i hM
      cases h
      obtain ⟨ws, hv, _⟩ := c.obj _ l _ hl hM
      exact lst hv
    · rename_i hM
      cases h
      obtain ⟨hr, _⟩ := c.obj _ l _ hl hM
      cases hr with
      | lst hs _ => exact lst (c.fh _ _ hs)
    · cases h
  · cases h
theorem Core.grow {K : Fg} {B : Base} {H F : Hp} {own : List Addr} {M : List O} (c : Core K B H F own M) {p : Addr} {o : HO} (hp : H p = none) : Core K B (upd H p o) F own M where
  len := c.len
  nd := c.nd
  fh := fun b x e => by rw [upd_ne (ne_of_none (c.fh _ _ e) hp)]; exact c.fh _ _ e
  f0 := c.f0
  hh := fun a x ha h0 => by
    have := c.hh a x ha h0
    rw [upd_ne (ne_of_none this hp)]; exact this
  new := c.new
  obj := fun n l ob h1 h2 => by
    have q := c.obj n l ob h1 h2
    have hl : l ≠ p := fun e => by subst e; exact c.own_some (List.mem_of_getElem? h1) hp
    cases ob with
    | lst xs =>
      obtain ⟨vs, hv, ha⟩ := q
      exact ⟨vs, by rw [upd_ne hl]; exact hv, ha⟩
    | frz x => exact q
  mtb := c.mtb
  pre := c.pre
/-- a built-in type by its name -/
structure TyN (X : Cx) (x : Str) (t : Ty) : Prop where
  g : Gl X x
  m : X.mg x = none
  b : bootBuiltins x = some (.type t.nm)
  n : x ≠ "__name__"
  d : (x == ("__debug__" : Str)) = false
theorem TyN.pe {x : Str} {t : Ty} (h : TyN X x t) : PE X (.Name x pos) (tC (.ty t.nm)) := pe_bltn h.g h.m h.b rfl h.n h.d
theorem kit_any {t : Ty} : ∀ ts : List Ty, PySem.W.kitAny X.K (.type t.nm) (ts.map fun u => Value.type u.nm) = some (ts.any fun u => t.sub u)
  | [] => kitAny_nil
  | u :: r => kitAny_cons (kit_ty (kit_sub t u)) (fun e => by rw [kit_any r, List.any_cons, e] <;> rfl) fun e => by rw [List.any_cons, e] <;> rfl
theorem f_isi {x : Str} {t : Ty} {p p2 : Pos} (hg : Gl X "isinstance") (hm : X.mg "isinstance" = none) (hv : bootBuiltins "isinstance" = some (.builtin "isinstance")) (ha : PEf X C W a f) (ht : TyN X x t) (hs : noStar a = true) :
    PEf X C W (.Call (.Name "isinstance" p) [a, .Name x p2] [] pos) (isiF f [t]) := by
  refine pe_imp (pe_callB call_isi hg hm hv (pa_cons ha (pa_cons ht.pe pa_nil rfl) (star_one hs _ _)) (by decide) (by decide) (star_one hs _ _) (star_any (es := [.Name x p2]) rfl _ _)) fun σ H Q q => ?_
  obtain ⟨B, δ, M, vs, as, hat, hg⟩ := q
  unfold isiF at hg
  refine ⟨B, δ, M, vs, as, hat, GE.bind hg fun y M1 v H1 hat1 hg1 => ?_⟩
  obtain ⟨F, own, cc, hs, hv⟩ := hat1
  cases hv with
  | cons r hv =>
  split at hg1
  · rename_i t' e1
    refine ⟨v, .ty t.nm, .type t'.nm, .type t.nm, t'.sub t, rfl, .ty _, tyX_ok cc r e1, kit_ty (kit_sub _ _), ?_⟩
    have : ([t].any fun u => t'.sub u) = t'.sub t := by simp
    rw [this] at hg1
    exact hg1 _ _ ⟨F, own, cc, hs, .cons (.bl _) hv⟩
  · exact hg1.elim
/-- names of built-in types, one behind another -/
inductive TyNs (X : Cx) : List Expr → List Ty → Prop
  | nil : TyNs X [] []
  | cons {x : Str} {p : Pos} {t : Ty} {es : List Expr} {ts : List Ty} : TyN X x t → TyNs X es ts → TyNs X (.Name x p :: es) (t :: ts)
def tTys : List Ty → TA
  | [] => tNil
  | t :: r => tCons (tC (.ty t.nm)) (tTys r)
theorem TyNs.pa {es : List Expr} {ts : List Ty} (h : TyNs X es ts) : PA X es (tTys ts) := by
  induction h with
  | nil => exact pa_nil
  | cons h _ ih => exact pa_cons h.pe ih rfl
theorem tTys_run (ts : List Ty) (σ : L2.St) (H : Hp) (Q : List V → Hp → Prop) (q : Q (ts.map fun t => V.ty t.nm) H) : tTys ts σ H Q := by
  induction ts generalizing Q with
  | nil => exact q
  | cons t r ih => exact ih _ q
theorem tys_cls : ∀ ts : List Ty, PySem.Paired ClsV (ts.map fun t => V.ty t.nm) (ts.map fun t => Value.type t.nm)
  | [] => .nil
  | t :: r => .cons (.ty _) (tys_cls r)
theorem f_isiT {k : Nat} {ts : List Ty} {p p2 : Pos} (hg : Gl X "isinstance") (hm : X.mg "isinstance" = none) (hv : bootBuiltins "isinstance" = some (.builtin "isinstance")) (ha : PEf X C W a f) (ht : TyNs X es ts) (hz : ts.length ≤ sizeLine) (hs : noStar a = true) :
    PEf X C W (.Call (.Name "isinstance" p) [a, .Tuple es k p2] [] pos) (isiF f ts) := by
  refine pe_imp (pe_callB call_isiT hg hm hv (pa_cons ha (pa_cons (pe_tup ht.pa) pa_nil rfl) (star_one hs _ _)) (by decide) (by decide) (star_one hs _ _) (star_any (es := [.Tuple es k p2]) rfl _ _)) fun σ H Q q => ?_
  obtain ⟨B, δ, M, vs, as, hat, hg⟩ := q
  unfold isiF at hg
  refine ⟨B, δ, M, vs, as, hat, GE.bind hg fun y M1 v H1 hat1 hg1 => ?_⟩
  obtain ⟨F, own, cc, hs, hv⟩ := hat1
  cases hv with
  | cons r hv =>
  split at hg1
  · rename_i t' e1
    refine tTys_run ts _ _ _ ⟨by rw [List.length_map]; exact hz, fun q hq => ?_⟩
    have c2 := cc.grow (o := .tup (ts.map fun t => V.ty t.nm)) hq
    exact ⟨v, q, _, .type t'.nm, _, _, rfl, upd_same, tys_cls ts, tyX_ok c2 r e1, kit_any ts, hg1 _ _ ⟨F, own, c2, hs, .cons (.bl _) hv⟩⟩
  · exact hg1.elim
end
end Mini

set_option Elab.async false
set_option linter.all false
set_option maxRecDepth 100000
/-! Mini 8: calls of the program's own defs. -/
namespace Mini
open PySem PySem.Spec L2

/-- a def's promise, by what the small language says of it -/
def Phi (K : Fg) (C : Nat → Addr) (np : Nat) (run : List A → List O → R A) : Sp := fun vs H Q E => ∃ F own M as, as.length = np ∧ Core K ⟨F, H, own⟩ H F own M ∧ Al (RelA K F own) vs as ∧ match run as M with
  | .ok a M' => ∀ v H', At K ⟨F, H, own⟩ [] H' [] M' [v] [a] → Q v H'
  | .ex x M' => ∀ cls d H', ExR C x cls d H' → At K ⟨F, H, own⟩ [] H' [] M' [] [] → E cls d H'
  | .no => False
theorem Phi.len {K : Fg} {C : Nat → Addr} {np : Nat} {run : List A → List O → R A} {vs : List V} {H : Hp} {Q : VK} {E : XK} (h : Phi K C np run vs H Q E) : vs.length = np := by
  obtain ⟨F, own, M, as, hl, c, ha, _⟩ := h
  rw [ha.length, hl]

/-- how a call's values come to the parameters: n positional ones, keywords ks, by the plan pl -/
structure BindG (K : Fg) (fd : FuncData) (ps : List Str) (n : Nat) (ks : List Str) (pl : List Pl) : Prop where
  ex : ∃ c : D → Value, RelV .non (c .non) ∧ (∀ x, Pl.cst x ∈ pl → ∃ v, x.sv = some v ∧ RelV v (c x)) ∧
    ∀ (s : Shared) (us ws : List Value), K.In s.heap → us.length = n → ws.length = ks.length → BindsTo s fd ⟨us, ks.zip ws⟩ (ps.zip (fill c pl (us ++ ws)))
def cV (x : D) : V := x.sv.getD .non
theorem cV_rep {K : Fg} {F : Hp} {x : D} {v : V} (h : x.sv = some v) : Rep K F (cV x) x := by
  unfold cV
  cases x with
  | non => exact .non
  | bl b => exact .bl b
  | int i => exact .int i
  | str y => exact .str y
  | tup _ => cases h
  | lst _ => cases h
  | rol _ => cases h
theorem al_getD {α β : Type} {R : α → β → Prop} {xs : List α} {ys : List β} {a : α} {b : β} (h : Al R xs ys) (hd : R a b) (i : Nat) : R (xs.getD i a) (ys.getD i b) := by
  rw [List.getD_eq_getElem?_getD, List.getD_eq_getElem?_getD]
  cases e : ys[i]? with
  | none =>
    have e2 : xs[i]? = none := by
      rw [List.getElem?_eq_none_iff] at e ⊢
      rw [h.length]; exact e
    rw [e2]; exact hd
  | some y =>
    obtain ⟨x, e2, r⟩ := h.get e
    rw [e2]; exact r
theorem fill_al {α β : Type} {R : α → β → Prop} {c : D → α} {c' : D → β} {pl : List Pl} {xs : List α} {ys : List β} (h : Al R xs ys) (h0 : R (c .non) (c' .non)) (hc : ∀ x, Pl.cst x ∈ pl → R (c x) (c' x)) : Al R (fill c pl xs) (fill c' pl ys) := by
  have go : ∀ pl : List Pl, (∀ x, Pl.cst x ∈ pl → R (c x) (c' x)) → Al R (pl.map fun
      | .arg i => xs.getD i (c .non)
      | .cst x => c x) (pl.map fun
      | .arg i => ys.getD i (c' .non)
      | .cst x => c' x) := by
    intro pl
    induction pl with
    | nil => intro _; exact .nil
    | cons p r ih =>
      intro hc
      refine .cons ?_ (ih fun x hx => hc x (List.mem_cons_of_mem _ hx))
      cases p with
      | arg i => exact al_getD h h0 i
      | cst x => exact hc x List.mem_cons_self
  unfold fill
  cases pl with
  | nil => exact h
  | cons p r => exact go _ hc
theorem vals_al : ∀ {vs : List V} {us : List Value}, Vals vs us → Al RelV vs us
  | _, _, .nil => .nil
  | _, _, .cons r t => .cons r (vals_al t)
theorem al_vals : ∀ {vs : List V} {us : List Value}, Al RelV vs us → Vals vs us
  | _, _, .nil => .nil
  | _, _, .cons r t => .cons r (al_vals t)
/-- what a callee made is taken over -/
theorem Core.adopt {K : Fg} {B : Base} {H F : Hp} {own : List Addr} {M : List O} (c : Core K B H F own M) {p : Addr} {u : O} (hf : F p = none) (hnm : p ∉ own) (h0 : p ∈ B.ps ∨ B.H_0 p = none) (hu : u.isFrz = false) (hok : ∀ own', (∃ t, own' = own ++ t) → OOk K F own' H p u) :
    Core K B H F (own ++ [p]) (M ++ [u]) := by
  have ne : ∀ l, l ∈ own → l ≠ p := fun l hl e => hnm (e ▸ hl)
  refine ⟨by simp [c.len], List.nodup_append.mpr ⟨c.nd, by simp, fun a ha b hb => ?_⟩, c.fh, c.f0, c.hh, c.new, fun n l ob h1 h2 => ?_, fun n l ob h1 h2 h3 => ?_, ?_⟩
  · simp at hb; subst hb; exact ne a ha
  · by_cases hn : n < own.length
    · rw [List.getElem?_append_left hn] at h1
      rw [List.getElem?_append_left (c.len ▸ hn)] at h2
      have q := c.obj n l ob h1 h2
      cases ob with
      | lst xs =>
        obtain ⟨vs, hv, ha⟩ := q
        exact ⟨vs, hv, ha.mono fun _ _ r => r.up (Same.refl F)⟩
      | frz x => exact q
    · have hz : n = own.length := by
        have := (List.getElem?_eq_some_iff.mp h1).1
        simp at this; omega
      subst hz
      have e1 : l = p := by simpa using h1.symm
      have e2 : ob = u := by rw [c.len] at h2; simpa using h2.symm
      subst e1; subst e2
      exact hok _ ⟨_, rfl⟩
  · by_cases hn : n < own.length
    · rw [List.getElem?_append_left hn] at h1
      rw [List.getElem?_append_left (c.len ▸ hn)] at h2
      exact c.mtb n l ob h1 h2 h3
    · have hz : n = own.length := by
        have := (List.getElem?_eq_some_iff.mp h1).1
        simp at this; omega
      subst hz
      have e1 : l = p := by simpa using h1.symm
      subst e1
      exact ⟨hf, h0⟩
  · obtain ⟨t, e⟩ := c.pre
    exact ⟨t ++ [p], by rw [e, List.append_assoc]⟩
theorem Core.old_none {K : Fg} {B : Base} {H F : Hp} {own : List Addr} {M : List O} (c : Core K B H F own M) {p : Addr} (h : H p = none) : p ∈ B.ps ∨ B.H_0 p = none := by
  by_cases hp : p ∈ B.ps
  · exact .inl hp
  · cases q : B.H_0 p with
    | none => exact .inr rfl
    | some u => rw [c.hh p u hp q] at h; cases h
/-- the promise, where a call leaves the store out -/
theorem pcallF_phi {K : Fg} {C : Nat → Addr} {W : WX} {np : Nat} {run : List A → List O → R A} {B : Base} {σ : L2.St} {H F : Hp} {own : List Addr} {δ : List A} {M : List O} {vs ws : List V} {as bs : List A} {Q : VK} (cc : Core K B H F own M) (hs : Al (RelS K F own) σ δ) (hv : Al (RelA K F own) vs as) (hw : Al (RelA K F own) ws bs)
    (hn : bs.length = np) (hg : GE K C W B σ δ vs as Q (pcallF run bs M)) : Phi K C np run ws H Q (WE W σ) := by
  unfold pcallF at hg
  split at hg
  · exact hg.elim
  · rename_i ds M1 e1
    obtain ⟨F1, c1, s1, r1⟩ := frzs_ok e1 cc hw
    refine ⟨F1, [], [], ds.map .d, by rw [List.length_map, ← r1.length, hw.length, hn], core_nil c1.fh, al_D r1, ?_⟩
    split at hg
    · exact hg.elim
    · rename_i x M' e2
      rw [e2]
      intro cls d H' hx hat
      obtain ⟨F', own', c', _, _⟩ := hat
      exact hg cls d H' hx ⟨F, own, cc.back s1 c', hs, hv⟩
    · rename_i x M' e2
      rw [e2]
      intro v H' hat
      obtain ⟨F', own', c', _, hv'⟩ := hat
      cases hv' with
      | cons r' _ =>
      split at hg
      · rename_i hsc
        exact hg v H' ⟨F, own, cc.back s1 c', hs, .cons (rep_sc r' hsc F) hv⟩
      · have s2 := s1.trans c'.f0
        exact hg v H' ⟨F', own, c1.after c', relS_up hs s2, .cons r' (relA_up hv s2)⟩
    · rename_i k M' e2
      rw [e2]
      intro v H' hat
      obtain ⟨F', own', c', _, hv'⟩ := hat
      cases hv' with
      | cons r' _ =>
      obtain ⟨l, hl, rfl⟩ := r'
      unfold give at hg
      split at hg
      · rename_i x hk
        have s2 := s1.trans c'.f0
        exact hg _ H' ⟨F', own, c1.after c', relS_up hs s2, .cons (c'.obj _ l _ hl hk).1 (relA_up hv s2)⟩
      · rename_i xs hk
        split at hg
        · rename_i ys M3 e3
          split at hg
          · rename_i zs hk3
            obtain ⟨us, hu, ha⟩ := c'.obj _ l _ hl hk
            obtain ⟨F2, c2, s2, r2⟩ := frzs_ok e3 c' ha
            have s3 := (s1.trans c'.f0).trans s2
            have q := c2.mtb _ l _ hl hk3 rfl
            have hl0 : H l = none := by
              rcases q.2 with z | z
              · cases z
              · exact z
            have c3 := c1.after c2
            have c4 := c3.adopt (p := l) (u := .lst (ys.map .d)) q.1 (fun hm => c1.own_some hm hl0) (c1.old_none hl0) rfl (fun own2 _ => ⟨us, hu, al_D r2⟩)
            refine hg _ H' ⟨F2, own ++ [l], c4, hs.mono fun _ _ r => r.up s3, .cons ⟨l, ?_, rfl⟩ (hv.mono fun _ _ r => r.up s3)⟩
            rw [← c1.len]; simp
          · exact hg.elim
        · exact hg.elim
      · exact hg.elim
    · exact hg.elim
theorem denL_ok {K : Fg} {H F : Hp} {own : List Addr} {f : A → Option D} (hf : ∀ a d v, f a = some d → RelA K F own v a → Rep K H v d) : ∀ {as : List A} {ds : List D} {vs : List V}, denL f as = some ds → Al (RelA K F own) vs as → Al (Rep K H) vs ds
  | [], _, _, e, h => by cases e; cases h; exact .nil
  | a :: r, _, _, e, h => by
    cases h with
    | cons h1 h2 =>
      unfold denL at e
      split at e
      · rename_i x xs e1 e2
        cases e
        exact .cons (hf _ _ _ e1 h1) (denL_ok hf e2 h2)
      · cases e
theorem den_ok {K : Fg} {B : Base} {H F : Hp} {own : List Addr} {M : List O} (c : Core K B H F own M) : ∀ (k : Nat) (a : A) (d : D) (v : V), den k M a = some d → RelA K F own v a → Rep K H v d
  | k, .d x, d, v, e, h => by
    have e2 : some x = some d := by cases k <;> exact e
    cases e2
    exact Rep.up h c.fh
  | k, .un, d, v, e, h => h.elim
  | 0, .cell n, d, v, e, h => by cases e
  | k + 1, .cell n, d, v, e, h => by
    unfold den at e
    obtain ⟨l, hl, rfl⟩ := h
    split at e
    · rename_i x hM
      cases e
      exact (c.obj n l _ hl hM).1.up c.fh
    · rename_i xs hM
      split at e
      · rename_i ds e1
        cases e
        obtain ⟨vs, hv, ha⟩ := c.obj n l _ hl hM
        exact .lst hv (Reps.of (denL_ok (fun a d v => den_ok c k a d v) e1 ha))
      · cases e
    · cases e
theorem pcall_phi {K : Fg} {C : Nat → Addr} {W : WX} {np : Nat} {run : List A → List O → R A} {B : Base} {σ : L2.St} {H F : Hp} {own : List Addr} {δ : List A} {M : List O} {vs ws : List V} {as bs : List A} {Q : VK} (cc : Core K B H F own M) (hs : Al (RelS K F own) σ δ) (hv : Al (RelA K F own) vs as) (hw : Al (RelA K F own) ws bs)
    (hn : bs.length = np) (hg : GE K C W B σ δ vs as Q (pcall run bs M)) : Phi K C np run ws H Q (WE W σ) := by
  unfold pcall at hg
  split at hg
  · exact hg.elim
  · rename_i ds e1
    have r1 := denL_ok (fun a d v => den_ok cc 8 a d v) e1 hw
    split at hg
    · exact hg.elim
    · rename_i x M' e2
      refine ⟨H, [], [], ds.map .d, by rw [List.length_map, ← r1.length, hw.length, hn], core_nil (Same.refl H), al_D r1, ?_⟩
      rw [e2]
      intro cls d H' hx hat
      obtain ⟨F', own', c', _, _⟩ := hat
      exact hg cls d H' hx ⟨F, own, cc.back cc.fh c', hs, hv⟩
    · rename_i x M' e2
      split at hg
      · rename_i hsc
        refine ⟨H, [], [], ds.map .d, by rw [List.length_map, ← r1.length, hw.length, hn], core_nil (Same.refl H), al_D r1, ?_⟩
        rw [e2]
        intro v H' hat
        obtain ⟨F', own', c', _, hv'⟩ := hat
        cases hv' with
        | cons r' _ => exact hg v H' ⟨F, own, cc.back cc.fh c', hs, .cons (rep_sc r' hsc F) hv⟩
      · exact pcallF_phi cc hs hv hw hn hg
    · exact pcallF_phi cc hs hv hw hn hg
/-- the promise, where the callee has the store -/
theorem mcall_phi {K : Fg} {C : Nat → Addr} {W : WX} {np : Nat} {run : List A → List O → R A} {B : Base} {σ : L2.St} {H F : Hp} {own : List Addr} {δ : List A} {M : List O} {vs ws : List V} {as bs : List A} {Q : VK} (cc : Core K B H F own M) (hs : Al (RelS K F own) σ δ) (hv : Al (RelA K F own) vs as) (hw : Al (RelA K F own) ws bs)
    (hn : bs.length = np) (hg : GE K C W B σ δ vs as Q (run bs M)) : Phi K C np run ws H Q (WE W σ) := by
  refine ⟨F, own, M, bs, hn, cc.rebase, hw, ?_⟩
  cases e : run bs M with
  | no => rw [e] at hg; exact hg
  | ex x M' =>
    rw [e] at hg
    intro cls d H' hx hat
    obtain ⟨F', own', c', _, _⟩ := hat
    obtain ⟨t, et⟩ := c'.pre
    have et : own' = own ++ t := et
    subst et
    exact hg cls d H' hx ⟨F', _, cc.unbase c', hs.mono fun _ _ r => r.up c'.f0, hv.mono fun _ _ r => r.up c'.f0⟩
  | ok a M' =>
    rw [e] at hg
    intro v H' hat
    obtain ⟨F', own', c', _, hv'⟩ := hat
    obtain ⟨t, et⟩ := c'.pre
    have et : own' = own ++ t := et
    subst et
    cases hv' with
    | cons r' _ => exact hg v H' ⟨F', _, cc.unbase c', hs.mono fun _ _ r => r.up c'.f0, .cons r' (hv.mono fun _ _ r => r.up c'.f0)⟩

/-! ### the call -/
section
variable {X : Cx} {C : Nat → Addr} {W : WX} {pos p : Pos} {e : Expr} {es : List Expr} {kws : List Keyword} {f g : List A → List O → R (List A)}
theorem run_user {k : Nat} {fa : Addr} {fd : FuncData} {ps ks : List Str} {sp : Sp} {n : Nat} {pl : List Pl} (FO : FnOk X.prog X.w X.K X.mg X.base (L2.CX X.prog X.w) k fa fd ps sp) (hr : Room k X.A) (hb : BindG X.K fd ps n ks pl) (tk : Takes X W)
    {pins : List (Addr × Obj)} {s : Shared} {σ : L2.St} {H : Hp} {Q : VK} {us wv : List Value} {vs zs : List V} (I : Inv X pins σ H s) (r : Vals vs us) (rz : Vals zs wv) (l1 : vs.length = n) (l2 : zs.length = ks.length) (h : sp (fill cV pl (vs ++ zs)) H Q (WE W σ)) :
    wpAny (model X.prog X.w) X.A (call (.ref fa) us (ks.zip wv)) (EP X pins σ Q) X.xe s := by
  obtain ⟨c, c0, hc, hbind⟩ := hb.ex
  have l3 : us.length = n := r.length.symm.trans l1
  have l4 : wv.length = ks.length := rz.length.symm.trans l2
  have r2 : Vals (fill cV pl (vs ++ zs)) (fill c pl (us ++ wv)) := al_vals (fill_al ((vals_al r).append (vals_al rz)) c0 fun x hx => by
    obtain ⟨v, e1, r1⟩ := hc x hx
    show RelV (x.sv.getD .non) (c x)
    rw [e1]; exact r1)
  refine wpAny_call (codeAny_mono (FO.run X.A X.stack s H ⟨us, ks.zip wv⟩ _ _ Q (WE W σ) hr I.env0 (hbind s us wv I.kIn l3 l4) r2 h) fun r s' hq => ?_)
  cases r with
  | error e => exact passAt tk σ pins H s e s' I hq
  | ok fl =>
    cases fl with
    | ret u => exact I.after hq
    | next => exact False.elim hq
    | brk => exact False.elim hq
    | cont => exact False.elim hq
theorem kw_names (kws : List Keyword) (hall : kws.all (fun k => k.arg.isSome) = true) (pos : Pos) (env : Env) : (backToKw pos (keywordEach kws env)).all (·.1.isSome) = true ∧ (backToKw pos (keywordEach kws env)).filterMap (·.1) = kws.filterMap (fun k => k.arg) ∧ (backToKw pos (keywordEach kws env)).any (·.1.isNone) = false := by
  induction kws with
  | nil => exact ⟨rfl, rfl, rfl⟩
  | cons k r ih =>
    obtain ⟨n, v, kp⟩ := k
    rw [List.all_cons, Bool.and_eq_true_iff] at hall
    obtain ⟨h1, h2, h3⟩ := ih hall.2
    cases n with
    | none => cases hall.1
    | some n =>
      refine ⟨?_, ?_, ?_⟩
      · show ((some n).isSome && (backToKw pos (keywordEach r env)).all (·.1.isSome)) = true
        rw [h1] <;> rfl
      · show n :: (backToKw pos (keywordEach r env)).filterMap (·.1) = n :: r.filterMap (fun k => k.arg)
        rw [h2]
      · show ((some n).isNone || (backToKw pos (keywordEach r env)).any (·.1.isNone)) = false
        rw [h3] <;> rfl
theorem f_user {k : Nat} {x : Str} {fa : Addr} {fd : FuncData} {ps : List Str} {pl : List Pl} {np : Nat} {run G : List A → List O → R A} (hG : ∀ {B : Base} {σ : L2.St} {H F : Hp} {own : List Addr} {δ : List A} {M : List O} {vs ws : List V} {as bs : List A} {Q : VK}, Core X.K B H F own M → Al (RelS X.K F own) σ δ → Al (RelA X.K F own) vs as → Al (RelA X.K F own) ws bs →
      bs.length = np → GE X.K C W B σ δ vs as Q (G bs M) → Phi X.K C np run ws H Q (WE W σ))
    (FO : FnOk X.prog X.w X.K X.mg X.base (L2.CX X.prog X.w) k fa fd ps (Phi X.K C np run)) (hr : Room k X.A) (hb : BindG X.K fd ps (e :: es).length (kws.filterMap fun k => k.arg) pl) (hnp : ∀ xs : List A, xs.length = (e :: es).length + kws.length → (fill A.d pl xs).length = np) (tk : Takes X W)
    (hg : Gl X x) (hm : X.mg x = some (.ref fa)) (hk : PySem.W.keepIn X.K (.ref fa) = true) (ha : PAf X C W (e :: es) f) (hkw : PKf X C W kws g) (hall : kws.all (fun k => k.arg.isSome) = true) (hdb : (x == ("__debug__" : Str)) = false) (hs : (e :: es).all noStar = true)
    (hfl : ∀ δ M as M', f δ M = .ok as M' → as.length = (e :: es).length) (hgl : ∀ δ M as M', g δ M = .ok as M' → as.length = kws.length) (hpl : ∀ x, Pl.cst x ∈ pl → x.sv.isSome = true) :
    PEf X C W (.Call (.Name x p) (e :: es) kws pos) (fun δ M => (f δ M).bind fun as M1 => (g δ M1).bind fun bs M2 => G (fill A.d pl (as ++ bs)) M2) := by
  obtain ⟨k1, k2, k3⟩ := kw_names kws hall pos X.env
  have hks : kws.length = (kws.filterMap fun k => k.arg).length := by
    clear k1 k2 k3 hb hnp hkw hgl
    induction kws with
    | nil => rfl
    | cons k r ih =>
      rw [List.all_cons, Bool.and_eq_true_iff] at hall
      obtain ⟨n, hn⟩ := Option.isSome_iff_exists.mp hall.1
      rw [List.filterMap_cons, hn, List.length_cons, List.length_cons, ih hall.2]
  have hs2 := hs
  rw [List.all_cons, Bool.and_eq_true_iff] at hs
  refine ⟨fun pins s σ H Q I q => ?_⟩
  obtain ⟨B, δ, M, vs, as, hat, hg'⟩ := q
  refine wpAny_Call_Name_kw (ld_glob I hg hm ?_ hdb)
  refine PySem.W.callWith_KW (h₀ := X.base) I.ok.mod.kin hk k1 (thn (ha.run pos pins s σ H (fun ws H1 => ws.length = (e :: es).length ∧ tA X.K C W g σ H1 fun zs H2 => zs.length = kws.length ∧ Phi X.K C np run (fill cV pl (ws ++ zs)) H2 Q (WE W σ)) I ⟨B, δ, M, vs, as, hat, ?_⟩) fun us s1 ⟨ws, H1, I1, r, q1⟩ => ?_) ?_ (star_one hs.1 _ _)
  · cases e1 : f δ M with
    | no => simp only [e1, R.bind_no] at hg'; exact hg'
    | ex x M' => simp only [e1, R.bind_ex] at hg'; exact hg'
    | ok as1 M1 =>
      simp only [e1, R.bind_ok] at hg'
      intro ws H1 hl hat1
      refine ⟨hl.trans (hfl _ _ _ _ e1), B, δ, M1, ws ++ vs, as1 ++ as, hat1, ?_⟩
      cases e2 : g δ M1 with
      | no => simp only [e2, R.bind_no] at hg'; exact hg'
      | ex x M' => simp only [e2, R.bind_ex] at hg'; exact fun cls d H' hx h' => hg' cls d H' hx (h'.popL hl)
      | ok bs1 M2 =>
        simp only [e2, R.bind_ok] at hg'
        intro zs H2 hl2 hat2
        refine ⟨hl2.trans (hgl _ _ _ _ e2), ?_⟩
        obtain ⟨F, own, cc, hss, hv⟩ := hat2
        obtain ⟨hz, hv2⟩ := hv.split hl2
        obtain ⟨hw, hv3⟩ := hv2.split hl
        refine hG cc hss hv3 (fill_al (hw.append hz) (show RelA X.K F own (cV .non) (.d .non) from Rep.non) fun x hx => ?_) (hnp _ ?_) hg'
        · obtain ⟨v, ev⟩ := Option.isSome_iff_exists.mp (hpl x hx)
          exact cV_rep ev
        · rw [List.length_append, hfl _ _ _ _ e1, hgl _ _ _ _ e2]
  · obtain ⟨hlw, q1⟩ := q1
    refine thn (hkw.run pos pins s1 σ H1 _ I1 q1) fun wv s2 ⟨zs, H2, I2, rz, hlz, q2⟩ => ⟨I2.kIn, ?_⟩
    rw [k2]
    exact run_user FO hr hb tk I2 r rz hlw (hlz.trans hks) q2
  · rw [k3, star_one hs.1]
    show ((false || (backTo pos (starEach es X.env)).any (·.1)) || false) = false
    rw [star_any hs.2] <;> rfl
end
end Mini

set_option Elab.async false
set_option linter.all false
set_option maxRecDepth 100000
/-! Mini 9: slices, targets, what is walked, comprehensions. -/
namespace Mini
open PySem PySem.Spec L2

/-! ### slices -/
section
variable {X : Cx} {C : Nat → Addr} {W : WX} {pos p2 : Pos} {a lo hi : Expr} {f g h : List A → List O → R A}
def rSl (K : Fg) : V → Option Int → Option Int → Hp → VK → Prop := fun x l u H Q => ∃ (B : Base) (σ' : L2.St) (δ : List A) (M : List O) (vs : List V) (as : List A) (b c : A) (M' : List O), At K B σ' H δ M (x :: vs) (b :: as) ∧ slA M b l u = .ok c M' ∧
      (∀ v H', At K B σ' H' δ M' (v :: vs) (c :: as) → Q v H')
theorem slS : SlR X (rSl X.K) := by
  intro pins s σ H x v vl vu lo hi sl Q I rx hs pl pu q
  obtain ⟨B, σ', δ, M, vs, as, b, c, M', ⟨F, own, cc, hss, hv⟩, hg, hq⟩ := q
  cases hv with
  | cons r hv =>
  unfold slA at hg
  split at hg
  · obtain ⟨p, ws, rfl, h1, h2⟩ := tup_ok cc r
    split at hg
    · cases hg
    · rename_i hw
      cases hg
      refine sl_tup pins s σ H _ v vl vu lo hi sl Q I rx hs pl pu ⟨p, ws, rfl, h1, by rw [h2.length]; exact hw, fun t ht => ?_⟩
      have h3 : Al (Rep X.K F) (cutV ws lo hi) (cutA _ lo hi) := cut_al h2 lo hi
      exact hq _ _ (laidT_at cc hss hv h3 ht)
  · split at hg
    · cases hg
      cases str_of r
      exact sl_str pins s σ H _ v vl vu lo hi sl Q I rx hs pl pu ⟨_, rfl, ‹_›, hq _ _ ⟨F, own, cc, hss, .cons (.str _) hv⟩⟩
    · cases hg
  · split at hg
    · rename_i xs e1
      cases hg
      obtain ⟨p, ws, rfl, h1, h2⟩ := lsv_ok e1 cc r
      refine sl_list pins s σ H _ v vl vu lo hi sl Q I rx hs pl pu ⟨p, ws, rfl, h1, fun t ht => ?_⟩
      have h3 : Al (RelA X.K F own) (cutV ws lo hi) (cutA xs lo hi) := cut_al h2 lo hi
      exact hq _ _ (newL_at cc hss hv h3 ht)
    · cases hg
theorem slA_ex : ∀ M b l u x M', slA M b l u = .ex x M' → False := by
  intro M b l u x M' h
  unfold slA newL at h
  repeat' split at h
  all_goals cases h
/-- a written part, or none -/
inductive PartF (X : Cx) (C : Nat → Addr) (W : WX) : Option Expr → Bool → (List A → List O → R A) → Prop
  | none : PartF X C W none false (fun _ M => .ok (.d .non) M)
  | some {e : Expr} {f : List A → List O → R A} (h : PEf X C W e f) : PartF X C W (some e) true f
def tPt (K : Fg) (C : Nat → Addr) (W : WX) (b : Bool) (f : List A → List O → R A) : TO := if b then tPart (tE K C W f) else tNoPart
theorem PartF.po {o : Option Expr} {b : Bool} {f : List A → List O → R A} (h : PartF X C W o b f) : PO X o (tPt X.K C W b f) := by
  cases h with
  | none => exact po_none
  | some h => exact po_some h
/-- a part's reading: what it gives, whatever is behind -/
theorem part_imp {o : Option Expr} {b : Bool} {f : List A → List O → R A} (h : PartF X C W o b f) {B : Base} {σ : L2.St} {H : Hp} {δ : List A} {M : List O} {vs : List V} {as : List A} {k : Option Int → List O → R A} {Q : VK} {Q' : Option Int → Hp → Prop} (hat : At X.K B σ H δ M vs as)
    {vs0 : List V} {as0 : List A} (hpop : ∀ H' M', At X.K B σ H' δ M' vs as → At X.K B σ H' δ M' vs0 as0)
    (hg : GE X.K C W B σ δ vs0 as0 Q ((f δ M).bind fun l M2 => match part b l with
      | some l => k l M2
      | none => .no)) (hk : ∀ l M2 H2, At X.K B σ H2 δ M2 vs as → GE X.K C W B σ δ vs0 as0 Q (k l M2) → Q' l H2) : tPt X.K C W b f σ H Q' := by
  cases h with
  | none => exact hk none M H hat hg
  | some h =>
    refine ⟨B, δ, M, vs, as, hat, ?_⟩
    cases e1 : f δ M with
    | no => simp only [e1, R.bind_no] at hg; exact hg
    | ex x M' => simp only [e1, R.bind_ex] at hg; exact fun cls d H' hx h' => hg cls d H' hx (hpop _ _ h')
    | ok y M2 =>
      simp only [e1, R.bind_ok] at hg
      intro v H2 hat2
      unfold part at hg
      split at hg
      · rename_i hp
        split at hp
        · rename_i hb; cases hb
        · cases hp
          obtain ⟨F, own, cc, hs, hv⟩ := hat2
          cases hv with
          | cons r hv =>
            cases int_of r
            exact ⟨_, rfl, hk _ _ _ ⟨F, own, cc, hs, hv⟩ hg⟩
        · cases hp
      · exact hg.elim
theorem f_sl {ol oh : Option Expr} {bl bh : Bool} (ha : PEf X C W a f) (hl : PartF X C W ol bl g) (hh : PartF X C W oh bh h) : PEf X C W (.Subscript a (.Slice ol oh none p2) pos) (slF bl bh f g h) := by
  refine pe_imp (pe_slice slS ha hl.po hh.po) fun σ H Q q => ?_
  obtain ⟨B, δ, M, vs, as, hat, hg⟩ := q
  unfold slF at hg
  refine ⟨B, δ, M, vs, as, hat, GE.bind hg fun x M1 v H1 hat1 hg1 => ?_⟩
  refine part_imp hl hat1 (fun _ _ z => z.pop) hg1 fun l M2 H2 hat2 hg2 => ?_
  refine part_imp (k := fun u M3 => slA M3 x l u) hh hat2 (fun _ _ z => z.pop) hg2 fun u M3 H3 hat3 hg3 => ?_
  cases e : slA M3 x l u with
  | no => rw [e] at hg3; exact hg3.elim
  | ex z M' => exact (slA_ex _ _ _ _ _ _ e).elim
  | ok z M4 =>
    rw [e] at hg3
    exact ⟨B, σ, δ, M3, vs, as, x, z, M4, hat3, e, hg3⟩
end

/-! ### targets -/
def gNs : List Nat → TGs
  | [] => gNil
  | i :: r => gCons (gName i) (gNs r)
def gT (K : Fg) : Tg → TG
  | .one i => gName i
  | .many is => gTup K is.length (gNs is)
theorem gNs_ok {K : Fg} {F : Hp} {own : List Addr} {Q : L2.St → Hp → Prop} {H : Hp} : ∀ (is : List Nat) (ds : List D) (ws : List V) (σ : L2.St) (δ : List A), ds.length = is.length → Al (Rep K F) ws ds → Al (RelS K F own) σ δ →
    (∀ σ', Al (RelS K F own) σ' ((is.zip ds).foldl (fun δ p => δ.set p.1 (.d p.2)) δ) → (∀ j, j ∉ is → σ'[j]? = σ[j]?) → σ'.length = σ.length → Q σ' H) → gNs is ws σ H Q
  | [], [], ws, σ, δ, _, hw, hs, q => by cases hw; exact ⟨rfl, q _ hs (fun _ _ => rfl) rfl⟩
  | [], _ :: _, _, _, _, e, _, _, _ => by cases e
  | _ :: _, [], _, _, _, e, _, _, _ => by cases e
  | i :: is, d :: ds, ws, σ, δ, e, hw, hs, q => by
    cases hw with
    | cons r t => exact ⟨_, _, rfl, gNs_ok is ds _ _ _ (by simpa using e) t (hs.set i (.inr ⟨_, rfl, show RelA K F own _ (.d d) from r⟩)) fun σ' h1 h2 h3 => q σ' h1 (fun j hj => by
        rw [h2 j (fun z => hj (List.mem_cons_of_mem _ z)), List.getElem?_set_ne (fun z => hj (by rw [z]; exact List.mem_cons_self))]) (by rw [h3, List.length_set])⟩
/-- a target's slots -/
def Tg.all : Tg → List Nat
  | .one i => [i]
  | .many is => is
theorem set_ok {K : Fg} {σ : L2.St} {B : Base} {H F : Hp} {own : List Addr} {δ δ1 : List A} {M : List O} {tg : Tg} {a : A} {v : V} {Q : L2.St → Hp → Prop} (h : setTg tg a δ = some δ1) (c : Core K B H F own M) (hs : Al (RelS K F own) σ δ) (r : RelA K F own v a)
    (q : ∀ σ', Al (RelS K F own) σ' δ1 → (∀ j, j ∉ tg.all → σ'[j]? = σ[j]?) → σ'.length = σ.length → Q σ' H) : gT K tg v σ H Q := by
  unfold setTg at h
  split at h
  · cases h
    refine q _ (hs.set _ (.inr ⟨v, rfl, r⟩)) (fun j hj => ?_) (by rw [List.length_set])
    exact List.getElem?_set_ne (fun z => hj (by rw [z]; exact List.mem_cons_self))
  · split at h
    · split at h
      · rename_i hl
        cases h
        obtain ⟨p, ws, rfl, h1, h2⟩ := tup_ok c r
        exact ⟨p, ws, rfl, h1, h2.length.trans hl, gNs_ok _ _ _ _ _ hl h2 hs q⟩
      · cases h
    · cases h
/-! ### what is walked -/
/-- the walk J gives these, while its source stands -/
def ItOk (K : Fg) (J : It) (xs : List D) (sv : V) (sa : A) : Prop := ∀ (B : Base) (i : Nat) (F : Hp) (own : List Addr) (H : Hp) (M : List O), Core K B H F own M → RelA K F own sv sa →
  (xs.length ≤ i → J.stop i H) ∧ ∀ a, xs[i]? = some a → J.go i H ∧ ∀ x H', J.yld i H x H' → ∃ F', Core K B H' F' own M ∧ Same F F' ∧ Rep K F' x a
section
variable (K : Fg) (C : Nat → Addr) (W : WX)
def GI (B : Base) (σ : L2.St) (δ : List A) (vs : List V) (as : List A) (k : IK) (Rr : It → Hp → Prop) : R (List A) → Prop
  | .ok bs M' => (match items k bs M' with
    | some (xs, M2) => ∀ J H' sv sa, At K B σ H' δ M2 (sv :: vs) (sa :: as) → ItOk K J xs sv sa → Rr J H'
    | none => False)
  | .ex x M' => ∀ cls d H', ExR C x cls d H' → At K B σ H' δ M' vs as → W cls d σ H'
  | .no => False
def wI (k : IK) (fs : List A → List O → R (List A)) : TI := fun σ H Rr => ∃ B δ M vs as, At K B σ H δ M vs as ∧ GI K C W B σ δ vs as k Rr (fs δ M)
end
theorem GI.ok {K : Fg} {C : Nat → Addr} {W : WX} {B : Base} {σ : L2.St} {δ : List A} {vs : List V} {as bs : List A} {k : IK} {Rr : It → Hp → Prop} {M' : List O} (h : GI K C W B σ δ vs as k Rr (.ok bs M')) :
    ∃ xs M2, items k bs M' = some (xs, M2) ∧ ∀ J H' sv sa, At K B σ H' δ M2 (sv :: vs) (sa :: as) → ItOk K J xs sv sa → Rr J H' := by
  have h : (match items k bs M' with
    | some (xs, M2) => ∀ J H' sv sa, At K B σ H' δ M2 (sv :: vs) (sa :: as) → ItOk K J xs sv sa → Rr J H'
    | none => False) := h
  cases e : items k bs M' with
  | none => rw [e] at h; exact h.elim
  | some p =>
    obtain ⟨xs, M2⟩ := p
    rw [e] at h
    exact ⟨xs, M2, rfl, h⟩
theorem itOk_lst {K : Fg} {p : Addr} {ds : List D} : ItOk K (Itl K p) ds (.ref p) (.d (.lst ds)) := by
  intro B i F own H M c r
  cases r with
  | lst hs hr =>
    rename_i ws
    have hq : SqL K H p ws := SqL.of (c.fh _ _ hs)
    refine ⟨fun hi => ⟨ws, hq, by rw [hr.al.length]; exact hi⟩, fun a ha => ?_⟩
    obtain ⟨w, hw, rw'⟩ := hr.al.get ha
    refine ⟨⟨ws, w, hq, hw⟩, fun x H' hy => ?_⟩
    obtain ⟨rfl, hx⟩ := hy
    have := hx ws hq
    rw [hw] at this; cases this
    exact ⟨F, c, Same.refl F, rw'⟩
theorem itOk_rol {K : Fg} {p : Addr} {ds : List D} : ItOk K (Itl K p) ds (.ref p) (.d (.rol ds)) := by
  intro B i F own H M c r
  cases r with
  | rol hs hr =>
    rename_i ws
    have hq : SqL K H p ws := c.fh.seq hs
    refine ⟨fun hi => ⟨ws, hq, by rw [hr.al.length]; exact hi⟩, fun a ha => ?_⟩
    obtain ⟨w, hw, rw'⟩ := hr.al.get ha
    refine ⟨⟨ws, w, hq, hw⟩, fun x H' hy => ?_⟩
    obtain ⟨rfl, hx⟩ := hy
    have := hx ws hq
    rw [hw] at this; cases this
    exact ⟨F, c, Same.refl F, rw'⟩
theorem itOk_tup {K : Fg} {p : Addr} {ds : List D} : ItOk K (Itt K p) ds (.ref p) (.d (.tup ds)) := by
  intro B i F own H M c r
  cases r with
  | tup hs hr =>
    rename_i ws
    have hq : SqT K H p ws := same_seqT c.fh hs
    refine ⟨fun hi => ⟨ws, hq, by rw [hr.al.length]; exact hi⟩, fun a ha => ?_⟩
    obtain ⟨w, hw, rw'⟩ := hr.al.get ha
    refine ⟨⟨ws, w, hq, hw⟩, fun x H' hy => ?_⟩
    obtain ⟨rfl, hx⟩ := hy
    have := hx ws hq
    rw [hw] at this; cases this
    exact ⟨F, c, Same.refl F, rw'⟩
theorem itOk_rng {K : Fg} {lo : Int} {n : Nat} {sv : V} {sa : A} : ItOk K (Itr lo n) ((List.range n).map fun (i : Nat) => D.int (lo + (i : Nat))) sv sa := by
  intro B i F own H M c r
  refine ⟨fun hi => ?_, fun a ha => ?_⟩
  · show n ≤ i
    simpa using hi
  · rw [List.getElem?_map] at ha
    have hi : i < n := by
      cases e : (List.range n)[i]? with
      | none => rw [e] at ha; cases ha
      | some j => simpa using (List.getElem?_eq_some_iff.mp e).1
    rw [List.getElem?_range hi] at ha
    cases ha
    refine ⟨hi, fun x H' hy => ?_⟩
    obtain ⟨rfl, rfl⟩ := hy
    exact ⟨F, c, Same.refl F, .int _⟩
section
variable {X : Cx} {C : Nat → Addr} {W : WX} {pos p : Pos} {a b tg : Expr} {f g : List A → List O → R A} {fs : List A → List O → R (List A)}
theorem pi_seq (ha : PEf X C W a f) : PI X tg a (wI X.K C W .seq (fun δ M => (f δ M).bind fun x M1 => .ok [x] M1)) := by
  refine ⟨fun pins s σ H Rr I q => ?_⟩
  obtain ⟨B, δ, M, vs, as, hat, hg⟩ := q
  cases e1 : f δ M with
  | no => simp only [e1, R.bind_no] at hg; exact hg.elim
  | ex x M' =>
    simp only [e1, R.bind_ex] at hg
    exact (pi_list ha).run pins s σ H Rr I ⟨B, δ, M, vs, as, hat, by rw [e1]; exact hg⟩
  | ok x M1 =>
    simp only [e1, R.bind_ok] at hg
    by_cases ht : ∃ ds, x = .d (.tup ds)
    · obtain ⟨ds, rfl⟩ := ht
      refine (pi_tup ha).run pins s σ H Rr I ⟨B, δ, M, vs, as, hat, ?_⟩
      rw [e1]
      intro v H1 hat1
      have hat1' := hat1
      obtain ⟨F, own, cc, hs, hv⟩ := hat1
      cases hv with
      | cons r hv =>
      have r' := r
      obtain ⟨p, ws, rfl, h1, h2⟩ := tup_ok cc r
      obtain ⟨xs, M2, e2, hg⟩ := hg.ok
      cases e2
      exact ⟨p, rfl, ⟨ws, h1⟩, hg _ _ _ _ hat1' itOk_tup⟩
    · refine (pi_list ha).run pins s σ H Rr I ⟨B, δ, M, vs, as, hat, ?_⟩
      rw [e1]
      intro v H1 hat1
      obtain ⟨F, own, cc, hs, hv⟩ := hat1
      cases hv with
      | cons r hv =>
      obtain ⟨xs, M2, e2, hg⟩ := hg.ok
      have e2 : seqIt M1 x = some (xs, M2) := e2
      unfold seqIt at e2
      · split at e2
        · exact absurd ⟨_, rfl⟩ ht
        · split at e2
          · rename_i e3
            cases e2
            obtain ⟨F1, c1, s1, r1⟩ := frz_ok 8 _ _ _ _ e3 _ _ cc r
            have r1' := r1
            cases r1 with
            | lst hl hr => exact ⟨_, rfl, ⟨_, SqL.of (c1.fh _ _ hl)⟩, hg _ _ _ _ ⟨F1, own, c1, relS_up hs s1, .cons (show RelA X.K F1 own _ (.d _) from r1') (relA_up hv s1)⟩ itOk_lst⟩
          · rename_i e3
            cases e2
            obtain ⟨F1, c1, s1, r1⟩ := frz_ok 8 _ _ _ _ e3 _ _ cc r
            have r1' := r1
            cases r1 with
            | rol hl hr => exact ⟨_, rfl, ⟨_, c1.fh.seq hl⟩, hg _ _ _ _ ⟨F1, own, c1, relS_up hs s1, .cons (show RelA X.K F1 own _ (.d _) from r1') (relA_up hv s1)⟩ itOk_rol⟩
          · cases e2
theorem at_sc {K : Fg} {B : Base} {σ : L2.St} {H : Hp} {δ : List A} {M : List O} {vs : List V} {as : List A} (h : At K B σ H δ M vs as) : At K B σ H δ M (.non :: vs) (.d .non :: as) := by
  obtain ⟨F, own, c, hs, hv⟩ := h
  exact ⟨F, own, c, hs, .cons .non hv⟩
theorem pi_r1 (hg : Gl X "range") (hm : X.mg "range" = none) (ha : PAf X C W [a] fs) (hs : noStar a = true) : PI X tg (.Call (.Name "range" p) [a] [] pos) (wI X.K C W .r1 fs) := by
  refine ⟨fun pins s σ H Rr I q => (pi_range1 hg hm ha (star_one hs [] _)).run pins s σ H Rr I ?_⟩
  obtain ⟨B, δ, M, vs, as, hat, hg⟩ := q
  refine ⟨B, δ, M, vs, as, hat, ?_⟩
  cases e1 : fs δ M with
  | no => rw [e1] at hg; exact hg
  | ex x M' => rw [e1] at hg; exact hg
  | ok xs M1 =>
    rw [e1] at hg
    intro ws H1 hl hat1
    have hat2 := hat1.popL hl
    obtain ⟨F, own, cc, hss, hv⟩ := hat1
    obtain ⟨hw, _⟩ := hv.split hl
    obtain ⟨ys, M2, e2, hg⟩ := GI.ok hg
    unfold items at e2
    split at e2
    · rename_i he; cases he
    · split at e2
      · rename_i j _ hz
        cases e2
        obtain ⟨w, rfl, rw'⟩ := al_one hw
        cases int_of rw'
        refine ⟨j, rfl, (inR_ok hz).1, (inR_ok hz).2, hg _ _ _ _ (at_sc hat2) ?_⟩
        have := itOk_rng (K := X.K) (lo := 0) (n := j.toNat) (sv := .non) (sa := .d .non)
        simpa using this
      · cases e2
    · rename_i he; cases he
    · cases e2
theorem pi_r2 (hg : Gl X "range") (hm : X.mg "range" = none) (ha : PAf X C W [a, b] fs) (hs : noStar a = true) (hs2 : noStar b = true) : PI X tg (.Call (.Name "range" p) [a, b] [] pos) (wI X.K C W .r2 fs) := by
  refine ⟨fun pins s σ H Rr I q => (pi_range2 hg hm ha (by rw [star_one hs, star_one hs2] <;> rfl) (star_one hs2 [] _)).run pins s σ H Rr I ?_⟩
  obtain ⟨B, δ, M, vs, as, hat, hg⟩ := q
  refine ⟨B, δ, M, vs, as, hat, ?_⟩
  cases e1 : fs δ M with
  | no => rw [e1] at hg; exact hg
  | ex x M' => rw [e1] at hg; exact hg
  | ok xs M1 =>
    rw [e1] at hg
    intro ws H1 hl hat1
    have hat2 := hat1.popL hl
    obtain ⟨F, own, cc, hss, hv⟩ := hat1
    obtain ⟨hw, _⟩ := hv.split hl
    obtain ⟨ys, M2, e2, hg⟩ := GI.ok hg
    unfold items at e2
    split at e2
    · rename_i he; cases he
    · rename_i he; cases he
    · split at e2
      · rename_i hz
        cases e2
        obtain ⟨w, w2, rfl, rw1, rw2⟩ := al_two hw
        cases int_of rw1
        cases int_of rw2
        rw [Bool.and_eq_true_iff] at hz
        exact ⟨_, _, rfl, ⟨(inR_ok hz.1).1, (inR_ok hz.1).2, (inR_ok hz.2).1, (inR_ok hz.2).2⟩, hg _ _ _ _ (at_sc hat2) itOk_rng⟩
      · cases e2
    · cases e2
end
end Mini

set_option Elab.async false
set_option linter.all false
set_option maxRecDepth 100000
/-! Mini 10: comprehensions. -/
namespace Mini
open PySem PySem.Spec L2

theorem wipe_get (σ : L2.St) : ∀ (vs : List Nat) (j : Nat), (wipe σ vs)[j]? = if j ∈ vs then (σ[j]?).map (fun _ => none) else σ[j]?
  | [], j => by simp [wipe]
  | v :: vs, j => by
    show ((wipe σ vs).set v none)[j]? = _
    by_cases hj : j = v
    · subst hj
      rw [List.getElem?_set_self', wipe_get σ vs j]
      simp only [List.mem_cons, true_or, if_true]
      split <;> cases σ[j]? <;> rfl
    · rw [List.getElem?_set_ne (Ne.symm hj), wipe_get σ vs j]
      simp [hj]
theorem wipe_eq {σ σ' : L2.St} {vs : List Nat} (h : ∀ j, j ∉ vs → σ'[j]? = (wipe σ vs)[j]?) (hl : σ'.length = σ.length) : wipe σ' vs = wipe σ vs := by
  apply List.ext_getElem?
  intro j
  rw [wipe_get, wipe_get]
  by_cases hj : j ∈ vs
  · rw [if_pos hj, if_pos hj]
    by_cases hz : j < σ.length
    · rw [List.getElem?_eq_getElem hz, List.getElem?_eq_getElem (hl ▸ hz)] <;> rfl
    · rw [List.getElem?_eq_none (by omega), List.getElem?_eq_none (by omega)]
  · rw [if_neg hj, if_neg hj, h j hj, wipe_get, if_neg hj]
theorem wipe_al {K : Fg} {F : Hp} {own : List Addr} {σ : L2.St} {δ : List A} (h : Al (RelS K F own) σ δ) : ∀ vs : List Nat, Al (RelS K F own) (wipe σ vs) (wipeA δ vs)
  | [] => h
  | v :: vs => (wipe_al h vs).set v (.inl rfl)

section
variable {X : Cx} {C : Nat → Addr} {W : WX}
abbrev W0 : WX := fun _ _ _ _ => False
theorem lc_imp {tg : Tg} {k : IK} {own : List Nat} {fs : List A → List O → R (List A)} {ts : List A → List O → R Bool} {el : List A → List O → R A} {σ : L2.St} {H : Hp} {Q : VK} (hin : ∀ j ∈ tg.all, j ∈ own) (q : tE X.K C W (compR tg k own fs ts el) σ H Q) :
    tLc (wI X.K C W k fs) (gT X.K tg) (tT X.K C W0 ts) (tE X.K C W0 el) own σ H Q := by
  obtain ⟨B, δ, M, vs, as, hat, hg⟩ := q
  refine ⟨B, δ, M, vs, as, hat, ?_⟩
  unfold compR at hg
  cases e1 : fs δ M with
  | no => simp only [e1, R.bind_no] at hg; exact hg
  | ex x M' => simp only [e1, R.bind_ex] at hg; exact hg
  | ok bs M1 =>
    simp only [e1, R.bind_ok] at hg
    show (match items k bs M1 with
      | some (xs, M2) => _
      | none => False)
    cases e2 : items k bs M1 with
    | none => rw [e2] at hg; exact hg
    | some p =>
      obtain ⟨xs, M2⟩ := p
      rw [e2] at hg
      simp only at hg ⊢
      intro J H1 sv sa hat1 hit Dl hD
      cases e3 : compL M2.length tg (wipeA δ own) ts el xs (M2 ++ [.lst []]) with
      | no => rw [e3] at hg; exact hg.elim
      | ex x M' => rw [e3] at hg; exact hg.elim
      | ok u M3 =>
        rw [e3] at hg
        obtain ⟨F, ow, cc, hs, hv⟩ := hat1
        have c0 := newL_at cc hs hv .nil hD
        refine ⟨fun i m H => m + i = xs.length ∧ ∃ Mi, At X.K B σ H δ Mi (.ref Dl :: sv :: vs) (.cell M2.length :: sa :: as) ∧ compL M2.length tg (wipeA δ own) ts el (xs.drop i) Mi = .ok u M3, ⟨xs.length, rfl, _, c0, by simpa using e3⟩, fun i m H hW => ?_⟩
        clear c0 hv hs cc e3
        obtain ⟨hm, Mi, ⟨F, ow, cc, hs, hv⟩, hci⟩ := hW
        have hv' := hv
        cases hv with
        | cons rD hv =>
        cases hv with
        | cons rS hv =>
        by_cases hi : i < xs.length
        · right
          have ha : xs[i]? = some xs[i] := List.getElem?_eq_getElem hi
          obtain ⟨hgo, hyl⟩ := (hit B i F ow H Mi cc rS).2 _ ha
          refine ⟨hgo, fun H' => (m - 1) + (i + 1) = xs.length ∧ ∃ Mi, At X.K B σ H' δ Mi (.ref Dl :: sv :: vs) (.cell M2.length :: sa :: as) ∧ compL M2.length tg (wipeA δ own) ts el (xs.drop (i + 1)) Mi = .ok u M3, fun H' hN => ⟨m - 1, by omega, hN⟩, fun x H' hy => ?_⟩
          obtain ⟨F', c', s', rx⟩ := hyl x H' hy
          rw [List.drop_eq_getElem_cons hi] at hci
          unfold compL at hci
          split at hci
          · cases hci
          · rename_i δ1 hδ
            refine set_ok hδ c' (wipe_al (relS_up hs s') own) rx fun σ2 hs2 hoth hlen => ⟨wipe_eq (fun j hj => hoth j fun z => hj (hin j z)) (by rw [hlen, wipe_length]), ?_⟩
            refine ⟨⟨F', H', ow⟩, δ1, Mi, _, _, ⟨F', ow, c'.rebase, hs2, relA_up hv' s'⟩, ?_⟩
            cases e4 : ts δ1 Mi with
            | no => rw [e4] at hci; cases hci
            | ex z M' => rw [e4] at hci; cases hci
            | ok b M4 =>
              rw [e4] at hci
              intro H3 hat3
              cases b with
              | false =>
                refine iteF ⟨by omega, M4, ?_, hci⟩
                obtain ⟨F3, ow3, c3, _, hv3⟩ := hat3
                obtain ⟨t, et⟩ := c3.pre
                have et : ow3 = ow ++ t := et
                subst et
                exact ⟨F3, _, c'.unbase c3, hs.mono fun _ _ r => r.up (s'.trans c3.f0), hv3⟩
              | true =>
                simp only at hci
                refine iteT ⟨_, δ1, M4, _, _, hat3, ?_⟩
                cases e5 : el δ1 M4 with
                | no => rw [e5] at hci; cases hci
                | ex z M' => rw [e5] at hci; cases hci
                | ok y M5 =>
                  rw [e5] at hci
                  intro yv H4 hat4
                  obtain ⟨F4, ow4, c4, _, hv4⟩ := hat4
                  cases hv4 with
                  | cons ry hv4 =>
                  have hv4' := hv4
                  cases hv4 with
                  | cons rD4 hv4 =>
                  obtain ⟨l, hl, el'⟩ := rD4
                  cases el'
                  have hci : (match M5[M2.length]? with
                    | some (.lst acc) => if acc.length < sizeLine then compL M2.length tg (wipeA δ own) ts el (xs.drop (i + 1)) (M5.set M2.length (.lst (acc ++ [y]))) else .no
                    | _ => .no) = R.ok u M3 := hci
                  split at hci
                  · rename_i acc hacc
                    split at hci
                    · rename_i hz
                      obtain ⟨accV, hH4, hal⟩ := c4.obj _ _ _ hl hacc
                      refine ⟨accV, hH4, by rw [hal.length]; exact hz, by omega, _, ?_, hci⟩
                      have c5 := c4.store (o := .lst (accV ++ [yv])) (u := .lst (acc ++ [y])) hl hacc rfl rfl ⟨_, upd_same, hal.append (.cons ry .nil)⟩
                      obtain ⟨t, et⟩ := c4.pre
                      have et : ow4 = ow ++ t := et
                      subst et
                      exact ⟨F4, _, c'.unbase c5, hs.mono fun _ _ r => r.up (s'.trans c4.f0), hv4'⟩
                    · cases hci
                  · cases hci
        · left
          have hi2 : xs.drop i = [] := List.drop_eq_nil_of_le (by omega)
          rw [hi2] at hci
          cases hci
          exact ⟨(hit B i F ow H _ cc rS).1 (by omega), hg _ _ ⟨F, ow, cc, hs, .cons rD hv⟩⟩

/-- [elt for tg in iter if ..] -/
theorem f_comp {elt tgE iter : Expr} {ifs : List Expr} {scope : Scope} {own : List (Str × Nat)} {pos : Pos} {tg : Tg} {k : IK} {fs : List A → List O → R (List A)} {ts : List A → List O → R Bool} {el : List A → List O → R A} (hc : X.calm = true) (hN : X.N.Nodup) (hi : PI X tgE iter (wI X.K C W k fs)) (ok : BlkOk X.N X.env.scope scope own)
    (hg : ∀ (s : Shared) (H : Hp) (Ca : Addr) (cl : List (Str × Addr)) (fp : List Addr), PG (X.blk s H scope (compEnvC scope cl Ca X.env) fp) tgE (gT X.K tg)) (ht : ∀ (s : Shared) (H : Hp) (Ca : Addr) (cl : List (Str × Addr)) (fp : List Addr), PTs (X.blk s H scope (compEnvC scope cl Ca X.env) fp) ifs (tT X.K C W0 ts))
    (he : ∀ (s : Shared) (H : Hp) (Ca : Addr) (cl : List (Str × Addr)) (fp : List Addr), PE (X.blk s H scope (compEnvC scope cl Ca X.env) fp) elt (tE X.K C W0 el)) (hs : ∀ x, foldedSetIterable iter X.env x = pure x) (hin : ∀ j ∈ tg.all, j ∈ own.map (·.2)) :
    PEf X C W (.ListComp elt [⟨tgE, iter, ifs, 0⟩] scope pos) (compR tg k (own.map (·.2)) fs ts el) :=
  pe_imp (pe_lc hc hN hi ok hg ht he hs) fun _ _ _ q => lc_imp hin q
end
end Mini

set_option Elab.async false
set_option linter.all false
set_option maxRecDepth 100000
/-! Mini 11: statements. -/
namespace Mini
open PySem PySem.Spec L2

theorem At.mid {K : Fg} {B : Base} {σ : L2.St} {H : Hp} {δ : List A} {M : List O} {vs : List V} {as : List A} {v w : V} {a b : A} (h : At K B σ H δ M (v :: w :: vs) (a :: b :: as)) : At K B σ H δ M (v :: vs) (a :: as) := by
  obtain ⟨F, own, c, hs, hv⟩ := h
  cases hv with
  | cons r t =>
  cases t with
  | cons r2 t => exact ⟨F, own, c, hs, .cons r t⟩
section
variable (K : Fg) (C : Nat → Addr) (W : WX)
def GS (B : Base) (vs : List V) (as : List A) (D : Ends) : RS → Prop
  | .nx δ M => ∀ σ H, At K B σ H δ M vs as → D.nx σ H
  | .rt a M => ∀ v σ H δ, At K B σ H δ M (v :: vs) (a :: as) → D.rt v H
  | .bk δ M => ∀ σ H, At K B σ H δ M vs as → D.bk σ H
  | .ct δ M => ∀ σ H, At K B σ H δ M vs as → D.ct σ H
  | .ex x δ M => ∀ cls d σ H, ExR C x cls d H → At K B σ H δ M vs as → W cls d σ H
  | .no => False
def tS (f : List A → List O → RS) : TS := fun D σ H => ∃ B δ M vs as, At K B σ H δ M vs as ∧ GS K C W B vs as D (f δ M)
end
section
variable {K : Fg} {C : Nat → Addr} {W : WX} {σ : L2.St} {H : Hp} {D : Ends} {f g : List A → List O → RS} {e : List A → List O → R A} {t : List A → List O → R Bool}
theorem seq_imp (q : tS K C W (fun δ M => (f δ M).andThen g) D σ H) : tSeq (tS K C W f) (tS K C W g) D σ H := by
  obtain ⟨B, δ, M, vs, as, hat, hg⟩ := q
  try dsimp only at hg
  refine ⟨B, δ, M, vs, as, hat, ?_⟩
  cases e1 : f δ M with
  | nx δ1 M1 =>
    rw [e1] at hg
    exact fun σ1 H1 hat1 => ⟨B, δ1, M1, vs, as, hat1, hg⟩
  | rt a M1 => rw [e1] at hg; exact hg
  | bk δ1 M1 => rw [e1] at hg; exact hg
  | ct δ1 M1 => rw [e1] at hg; exact hg
  | ex x δ1 M1 => rw [e1] at hg; exact hg
  | no => rw [e1] at hg; exact hg
theorem if_imp (q : tS K C W (fun δ M => (t δ M).toS δ fun k M1 => if k then f δ M1 else g δ M1) D σ H) : tIfS (tT K C W t) (tS K C W f) (tS K C W g) D σ H := by
  obtain ⟨B, δ, M, vs, as, hat, hg⟩ := q
  try dsimp only at hg
  refine ⟨B, δ, M, vs, as, hat, ?_⟩
  cases e1 : t δ M with
  | ok k M1 =>
    rw [e1] at hg
    intro H1 hat1
    cases k with
    | true => exact iteT ⟨B, δ, M1, vs, as, hat1, hg⟩
    | false => exact iteF ⟨B, δ, M1, vs, as, hat1, hg⟩
  | ex x M1 => rw [e1] at hg; exact fun cls d H' hx h' => hg cls d σ H' hx h'
  | no => rw [e1] at hg; exact hg
theorem asg_imp {tg : Tg} (q : tS K C W (fun δ M => (e δ M).toS δ fun a M1 => match setTg tg a δ with
    | some δ1 => .nx δ1 M1
    | none => .no) D σ H) : tAsg (tE K C W e) (gT K tg) D σ H := by
  obtain ⟨B, δ, M, vs, as, hat, hg⟩ := q
  try dsimp only at hg
  refine ⟨B, δ, M, vs, as, hat, ?_⟩
  cases e1 : e δ M with
  | ok a M1 =>
    rw [e1] at hg
    intro v H1 hat1
    obtain ⟨F, own, c, hs, hv⟩ := hat1
    cases hv with
    | cons r hv =>
    simp only [R.toS_ok] at hg
    cases e2 : setTg tg a δ with
    | none => rw [e2] at hg; exact hg.elim
    | some δ1 =>
      rw [e2] at hg
      exact set_ok e2 c hs r fun σ' hs' _ _ => hg σ' H1 ⟨F, own, c, hs', hv⟩
  | ex x M1 => rw [e1] at hg; exact fun cls d H' hx h' => hg cls d σ H' hx h'
  | no => rw [e1] at hg; exact hg
theorem drop_imp (q : tS K C W (fun δ M => (e δ M).toS δ fun _ M1 => .nx δ M1) D σ H) : tDrop (tE K C W e) D σ H := by
  obtain ⟨B, δ, M, vs, as, hat, hg⟩ := q
  try dsimp only at hg
  refine ⟨B, δ, M, vs, as, hat, ?_⟩
  cases e1 : e δ M with
  | ok a M1 => rw [e1] at hg; exact fun v H1 hat1 => hg σ H1 hat1.pop
  | ex x M1 => rw [e1] at hg; exact fun cls d H' hx h' => hg cls d σ H' hx h'
  | no => rw [e1] at hg; exact hg
theorem ret_imp (q : tS K C W (fun δ M => (e δ M).toS δ fun a M1 => .rt a M1) D σ H) : tRet (tE K C W e) D σ H := by
  obtain ⟨B, δ, M, vs, as, hat, hg⟩ := q
  try dsimp only at hg
  refine ⟨B, δ, M, vs, as, hat, ?_⟩
  cases e1 : e δ M with
  | ok a M1 => rw [e1] at hg; exact fun v H1 hat1 => hg v σ H1 δ hat1
  | ex x M1 => rw [e1] at hg; exact fun cls d H' hx h' => hg cls d σ H' hx h'
  | no => rw [e1] at hg; exact hg
theorem at_non {B : Base} {δ : List A} {M : List O} {vs : List V} {as : List A} (h : At K B σ H δ M vs as) : At K B σ H δ M (.non :: vs) (.d .non :: as) := at_sc h
theorem retN_imp (q : tS K C W (fun _ M => .rt (.d .non) M) D σ H) : tRetN D σ H := by
  obtain ⟨B, δ, M, vs, as, hat, hg⟩ := q
  try dsimp only at hg
  exact hg _ σ H δ (at_sc hat)
theorem while_imp {n : Nat} (q : tS K C W (fun δ M => whlR t f n δ M) D σ H) : tWhile (tT K C W t) (tS K C W f) D σ H := by
  obtain ⟨B, δ, M, vs, as, hat, hg⟩ := q
  try dsimp only at hg
  refine ⟨fun m σ H => ∃ δ M, At K B σ H δ M vs as ∧ GS K C W B vs as D (whlR t f m δ M), ⟨n, δ, M, hat, hg⟩, fun m σ H hW => ?_⟩
  obtain ⟨δ, M, hat, hg⟩ := hW
  cases m with
  | zero => exact hg.elim
  | succ m =>
    refine ⟨B, δ, M, vs, as, hat, ?_⟩
    unfold whlR at hg
    cases e1 : t δ M with
    | no => rw [e1] at hg; exact hg
    | ex x M1 => rw [e1] at hg; exact fun cls d H' hx h' => hg cls d σ H' hx h'
    | ok k M1 =>
      rw [e1] at hg
      intro H1 hat1
      cases k with
      | false => exact iteF (hg σ H1 hat1)
      | true =>
        refine iteT ⟨fun σ' H' => ∃ δ M, At K B σ' H' δ M vs as ∧ GS K C W B vs as D (whlR t f m δ M), fun σ' H' h => ⟨m, Nat.lt_succ_self _, h⟩, ?_⟩
        refine ⟨B, δ, M1, vs, as, hat1, ?_⟩
        simp only [R.toS_ok, if_true] at hg
        cases e2 : f δ M1 with
        | nx δ2 M2 => rw [e2] at hg; exact fun σ2 H2 hat2 => ⟨δ2, M2, hat2, hg⟩
        | ct δ2 M2 => rw [e2] at hg; exact fun σ2 H2 hat2 => ⟨δ2, M2, hat2, hg⟩
        | bk δ2 M2 => rw [e2] at hg; exact hg
        | rt a M2 => rw [e2] at hg; exact hg
        | ex x δ2 M2 => rw [e2] at hg; exact hg
        | no => rw [e2] at hg; exact hg
theorem for_imp {tg : Tg} {k : IK} {fs : List A → List O → R (List A)} (q : tS K C W (fun δ M => (fs δ M).toS δ fun as M1 => match items k as M1 with
    | some (xs, M2) => forR tg f xs δ M2
    | none => .no) D σ H) : tFor (wI K C W k fs) (gT K tg) (tS K C W f) D σ H := by
  obtain ⟨B, δ, M, vs, as, hat, hg⟩ := q
  try dsimp only at hg
  refine ⟨B, δ, M, vs, as, hat, ?_⟩
  cases e1 : fs δ M with
  | no => rw [e1] at hg; exact hg
  | ex x M1 => rw [e1] at hg; exact fun cls d H' hx h' => hg cls d σ H' hx h'
  | ok bs M1 =>
    rw [e1] at hg
    simp only [R.toS_ok] at hg
    show (match items k bs M1 with
      | some (xs, M2) => _
      | none => False)
    cases e2 : items k bs M1 with
    | none => rw [e2] at hg; exact hg
    | some p =>
      obtain ⟨xs, M2⟩ := p
      rw [e2] at hg
      simp only at hg ⊢
      intro J H1 sv sa hat1 hit
      refine ⟨fun i m σ H => m + i = xs.length ∧ ∃ δi Mi, At K B σ H δi Mi (sv :: vs) (sa :: as) ∧ GS K C W B vs as D (forR tg f (xs.drop i) δi Mi), ⟨xs.length, rfl, δ, M2, hat1, by simpa using hg⟩, fun i m σ H hW => ?_⟩
      obtain ⟨hm, δi, Mi, hat, hf⟩ := hW
      by_cases hi : i < xs.length
      · right
        obtain ⟨F, own, c, hs, hv⟩ := hat
        cases hv with
        | cons rS hv =>
        have ha : xs[i]? = some xs[i] := List.getElem?_eq_getElem hi
        obtain ⟨hgo, hyl⟩ := (hit B i F own H Mi c rS).2 _ ha
        refine ⟨hgo, fun σ' H' => (m - 1) + (i + 1) = xs.length ∧ ∃ δi Mi, At K B σ' H' δi Mi (sv :: vs) (sa :: as) ∧ GS K C W B vs as D (forR tg f (xs.drop (i + 1)) δi Mi), fun σ' H' hN => ⟨m - 1, by omega, hN⟩, fun x H' hy => ?_⟩
        obtain ⟨F', c', s', rx⟩ := hyl x H' hy
        rw [List.drop_eq_getElem_cons hi] at hf
        unfold forR at hf
        split at hf
        · exact hf.elim
        · rename_i δ1 hδ
          refine set_ok hδ c' (relS_up hs s') rx fun σ2 hs2 _ _ => ?_
          refine ⟨B, δ1, Mi, sv :: vs, sa :: as, ⟨F', own, c', hs2, .cons (rS.upF s') (relA_up hv s')⟩, ?_⟩
          cases e4 : f δ1 Mi with
          | nx δ2 M3 => rw [e4] at hf; exact fun σ3 H3 hat3 => ⟨by omega, _, _, hat3, hf⟩
          | ct δ2 M3 => rw [e4] at hf; exact fun σ3 H3 hat3 => ⟨by omega, _, _, hat3, hf⟩
          | bk δ2 M3 => rw [e4] at hf; exact fun σ3 H3 hat3 => hf _ _ hat3.pop
          | rt a M3 => rw [e4] at hf; exact fun v σ3 H3 δ3 hat3 => hf v σ3 H3 δ3 hat3.mid
          | ex x δ2 M3 => rw [e4] at hf; exact fun cls d σ3 H3 hx hat3 => hf cls d σ3 H3 hx hat3.pop
          | no => rw [e4] at hf; exact hf
      · left
        have hi2 : xs.drop i = [] := List.drop_eq_nil_of_le (by omega)
        rw [hi2] at hf
        have hat' := hat
        obtain ⟨F, own, c, hs, hv⟩ := hat
        cases hv with
        | cons rS hv => exact ⟨(hit B i F own H Mi c rS).1 (by omega), hf _ _ hat'.pop⟩
theorem aug_imp {i : Nat} {o : Bin} {fo : Int → Int → Int} (ho : (o = .add ∧ fo = fun i j => i + j) ∨ (o = .sub ∧ fo = fun i j => i - j)) (q : tS K C W (augF i o e) D σ H) : tAug i (tE K C W e) (ipI fo) D σ H := by
  obtain ⟨B, δ, M, vs, as, hat, hg⟩ := q
  try dsimp only at hg
  unfold augF at hg
  split at hg
  · rename_i x hx
    obtain ⟨F, own, c, hs, hv⟩ := id hat
    obtain ⟨ov, ho', r⟩ := hs.get hx
    rcases r with r | ⟨v, rfl, r⟩
    · cases r
    · cases int_of r
      refine ⟨_, ho', B, δ, M, vs, as, hat, ?_⟩
      cases e1 : e δ M with
      | no => rw [e1] at hg; exact hg
      | ex z M1 => rw [e1] at hg; exact fun cls d H' hx h' => hg cls d σ H' hx h'
      | ok b M1 =>
        rw [e1] at hg
        simp only [R.toS_ok] at hg
        intro w H1 hat1
        obtain ⟨F1, own1, c1, hs1, hv1⟩ := hat1
        cases hv1 with
        | cons r1 hv1 =>
        split at hg
        · rename_i y
          cases int_of r1
          refine ⟨_, _, rfl, rfl, ?_⟩
          rcases ho with ⟨rfl, rfl⟩ | ⟨rfl, rfl⟩
          · exact hg _ _ ⟨F1, own1, c1, hs1.set _ (.inr ⟨_, rfl, .int _⟩), hv1⟩
          · exact hg _ _ ⟨F1, own1, c1, hs1.set _ (.inr ⟨_, rfl, .int _⟩), hv1⟩
        · exact hg.elim
  · exact hg.elim
theorem try_imp {c : Nat} {sub : Nat → Nat → Bool} (hsub : ∀ i, PySem.W.exmOne K (.ref (C i)) (.ref (C c)) = some (sub i c)) (q : tS K C W (fun δ M => match f δ M with
    | .ex x δ1 M1 => if sub x.c c then (g δ1 M1).noX else .ex x δ1 M1
    | r => r) D σ H) : tS K C (wOnly K (.ref (C c)) (fun _ _ _ => tS K C W0 g) W D) f D σ H := by
  obtain ⟨B, δ, M, vs, as, hat, hg⟩ := q
  try dsimp only at hg
  refine ⟨B, δ, M, vs, as, hat, ?_⟩
  cases e1 : f δ M with
  | nx δ1 M1 => rw [e1] at hg; exact hg
  | rt a M1 => rw [e1] at hg; exact hg
  | bk δ1 M1 => rw [e1] at hg; exact hg
  | ct δ1 M1 => rw [e1] at hg; exact hg
  | no => rw [e1] at hg; exact hg
  | ex x δ1 M1 =>
    rw [e1] at hg
    simp only at hg
    intro cls d σ1 H1 hx hat1
    have hx' := hx
    obtain ⟨rfl, _⟩ := hx'
    refine ⟨sub x.c c, hsub _, fun hb a ha => ?_, fun hb => ?_⟩
    · rw [hb, if_pos rfl] at hg
      refine ⟨B, δ1, M1, vs, as, hat1, ?_⟩
      cases e2 : g δ1 M1 with
      | nx δ2 M2 => rw [e2] at hg; exact hg
      | rt a M2 => rw [e2] at hg; exact hg
      | bk δ2 M2 => rw [e2] at hg; exact hg
      | ct δ2 M2 => rw [e2] at hg; exact hg
      | no => rw [e2] at hg; exact hg
      | ex y δ2 M2 => rw [e2] at hg; exact hg.elim
    · rw [hb] at hg
      exact hg _ _ _ _ hx hat1
end
abbrev PSf (X : Cx) (C : Nat → Addr) (W : WX) (s : Stmt) (f : List A → List O → RS) : Prop := PS X s (tS X.K C W f)
abbrev PSsf (X : Cx) (C : Nat → Addr) (W : WX) (s : List Stmt) (f : List A → List O → RS) : Prop := PSs X s (tS X.K C W f)
theorem pss_imp {X : Cx} {e : List Stmt} {t t' : TS} (h : PSs X e t) (hi : ∀ D σ H, t' D σ H → t D σ H) : PSs X e t' := ⟨fun pins s σ H D I q => h.run pins s σ H D I (hi D σ H q)⟩
section
variable {X : Cx} {C : Nat → Addr} {W : WX} {pos : Pos} {tg e iter c : Expr} {f : List A → List O → R A} {fs : List A → List O → R (List A)} {t : List A → List O → R Bool} {st : Stmt} {rest a b : List Stmt} {g h : List A → List O → RS}
theorem s_nil : PSsf X C W [] (fun δ M => .nx δ M) := pss_imp pss_nil fun D σ H ⟨B, δ, M, vs, as, hat, hg⟩ => hg σ H hat
theorem s_cons (h1 : PSf X C W st g) (h2 : PSsf X C W rest h) : PSsf X C W (st :: rest) (fun δ M => (g δ M).andThen h) := pss_imp (pss_cons h1 h2) fun D σ H q => seq_imp q
theorem s_pass : PSf X C W (.Pass pos) (fun δ M => .nx δ M) := ps_imp ps_pass fun D σ H ⟨B, δ, M, vs, as, hat, hg⟩ => hg σ H hat
theorem s_doc {x : Str} {j : Nat} {pos' : Pos} : PSf X C W (.Expr (.Constant (.str x) j pos) pos') (fun δ M => .nx δ M) := ps_imp ps_doc fun D σ H ⟨B, δ, M, vs, as, hat, hg⟩ => hg σ H hat
theorem s_brk : PSf X C W (.Break pos) (fun δ M => .bk δ M) := ps_imp ps_break fun D σ H ⟨B, δ, M, vs, as, hat, hg⟩ => hg σ H hat
theorem s_cnt : PSf X C W (.Continue pos) (fun δ M => .ct δ M) := ps_imp ps_continue fun D σ H ⟨B, δ, M, vs, as, hat, hg⟩ => hg σ H hat
theorem s_nev : PSf X C W st (fun _ _ => .no) := ps_imp ps_never fun D σ H ⟨B, δ, M, vs, as, hat, hg⟩ => hg.elim
theorem s_expr (he : PEf X C W e f) (hs : swapsWith e none pos.line X.env = pure false) : PSf X C W (.Expr e pos) (fun δ M => (f δ M).toS δ fun _ M1 => .nx δ M1) := ps_imp (ps_expr he hs) fun D σ H q => drop_imp q
theorem s_ret (he : PEf X C W e f) : PSf X C W (.Return (some e) pos) (fun δ M => (f δ M).toS δ fun a M1 => .rt a M1) := ps_imp (ps_ret he) fun D σ H q => ret_imp q
theorem s_retN : PSf X C W (.Return none pos) (fun _ M => .rt (.d .non) M) := ps_imp ps_retN fun D σ H q => retN_imp q
theorem s_if (hc : PTf X C W c t) (ha : PSsf X C W a g) (hb : PSsf X C W b h) : PSf X C W (.If c a b pos) (fun δ M => (t δ M).toS δ fun k M1 => if k then g δ M1 else h δ M1) := ps_imp (ps_if hc ha hb) fun D σ H q => if_imp q
theorem s_whl {n : Nat} (hp : PassesOwn (model X.prog X.w) X.A X.env X.xe) (hc : PTf X C W c t) (hb : PSsf X C W b g) : PSf X C W (.While c b [] pos) (whlR t g n) := ps_imp (ps_while hp hc hb) fun D σ H q => while_imp q
theorem s_for {tgt : Tg} {k : IK} (hp : PassesOwn (model X.prog X.w) X.A X.env X.xe) (hc : X.calm = true) (hi : PI X tg iter (wI X.K C W k fs)) (hg : PG X tg (gT X.K tgt)) (hb : PSsf X C W b g) (hs : ∀ x, foldedSetIterable iter X.env x = pure x) :
    PSf X C W (.For tg iter b [] pos) (fun δ M => (fs δ M).toS δ fun as M1 => match items k as M1 with
    | some (xs, M2) => forR tgt g xs δ M2
    | none => .no) := ps_imp (ps_for hp hc hi hg hb hs) fun D σ H q => for_imp q
theorem s_asg {tgt : Tg} (he : PEf X C W e f) (hg : PG X tg (gT X.K tgt)) (hs : swapsWithSole [tg] e pos.line X.env = pure false) (hw : swappedStores [tg] e X.env = pure none)
    (h1 : (assignEach [tg] X.env).map (·.2) = [assign tg X.env]) : PSf X C W (.Assign [tg] e pos) (fun δ M => (f δ M).toS δ fun a M1 => match setTg tgt a δ with
    | some δ1 => .nx δ1 M1
    | none => .no) := ps_imp (ps_asg he hg hs hw h1) fun D σ H q => asg_imp q
theorem s_set {i : Nat} {x : Str} {pos' : Pos} (hN : X.N.Nodup) (hi : X.N[i]? = some x) (hx : X.env.scope.names.lookup x = some .local) (he : PEf X C W e f) (hs : swapsWith e (some (.Name x pos')) pos.line X.env = pure false) :
    PSf X C W (.Assign [.Name x pos'] e pos) (fun δ M => (f δ M).toS δ fun a M1 => match setTg (.one i) a δ with
    | some δ1 => .nx δ1 M1
    | none => .no) := ps_imp (ps_set hN hi (.inl hx) he hs (.inr hx)) fun D σ H q => asg_imp (tg := .one i) q
theorem s_setL {i : Nat} {x : Str} {pos' : Pos} (hN : X.N.Nodup) (hi : X.N[i]? = some x) (hx : Loc X.env.scope x) (hf : X.fn x = true ∨ X.env.scope.names.lookup x = some .local) (he : PEf X C W e f) (hs : swapsWith e (some (.Name x pos')) pos.line X.env = pure false) :
    PSf X C W (.Assign [.Name x pos'] e pos) (fun δ M => (f δ M).toS δ fun a M1 => match setTg (.one i) a δ with
    | some δ1 => .nx δ1 M1
    | none => .no) := ps_imp (ps_set hN hi hx he hs hf) fun D σ H q => asg_imp (tg := .one i) q
theorem s_aug {i : Nat} {x : Str} {pos' : Pos} {o : Bin} (ho : o = .add ∨ o = .sub) (hN : X.N.Nodup) (hi : X.N[i]? = some x) (hx : Loc X.env.scope x) (hf : X.fn x = true ∨ X.env.scope.names.lookup x = some .local) (he : PEf X C W e f) : PSf X C W (.AugAssign (.Name x pos') (binOp o) e pos) (augF i o f) := by
  rcases ho with rfl | rfl
  · exact ps_imp (ps_aug hN hi hx he ip_add hf) fun D σ H q => aug_imp (.inl ⟨rfl, rfl⟩) q
  · exact ps_imp (ps_aug hN hi hx he ip_sub hf) fun D σ H q => aug_imp (.inr ⟨rfl, rfl⟩) q
theorem s_raise {n : Nat} (hc : X.calm = true) (tk : Takes X W) (he : PMk X e (fun _ H Q => Q (.ref (C n)) none H)) : PSf X C W (.Raise (some e) none pos) (fun δ M => .ex ⟨n, []⟩ δ M) := by
  refine ps_imp (ps_raise hc tk he) fun D σ H q => ?_
  obtain ⟨B, δ, M, vs, as, hat, hg⟩ := q
  try dsimp only at hg
  exact hg _ _ σ H ⟨rfl, .inl ⟨rfl, rfl⟩⟩ hat
theorem s_try {x : Str} {np pos' : Pos} {n : Nat} {b₀ : Stmt} {sub : Nat → Nat → Bool} (hsub : ∀ i, PySem.W.exmOne X.K (.ref (C i)) (.ref (C n)) = some (sub i n)) (hs : X.stack = X.env :: X.outer) (hf : X.env.frame = some X.env.locals) (hc : Names X x (.ref (C n))) (tk : Takes X W)
    (hb : ∀ (W : WX) (pn : List (Addr × Obj)) (xe : Value → Shared → Prop), Takes (X.tr pn xe) W → PassesOwn (model X.prog X.w) X.A X.env xe → PSsf (X.tr pn xe) C W a g)
    (hsu : ∀ (ad : Addr) (pn : List (Addr × Obj)), PSsf (X.suite ad pn) C W0 (b₀ :: b) h) :
    PSf X C W (.Try a [.ExceptHandler (some (.Name x np)) none (b₀ :: b) pos'] [] [] pos) (fun δ M => match g δ M with
    | .ex x δ1 M1 => if sub x.c n then (h δ1 M1).noX else .ex x δ1 M1
    | r => r) := ps_imp (ps_try_only (tb := fun W2 => tS X.K C W2 g) (ts := fun _ _ _ => tS X.K C W0 h) hs hf hc tk hb fun a oe cls d pn _ _ => hsu a _) fun D σ H q => try_imp hsub q
/-- x = [..] on one line -/
theorem s_setLc {i : Nat} {y : Str} {py : Pos} {elt tgE iter : Expr} {ifs : List Expr} {scope : Scope} {own : List (Str × Nat)} {pos spos : Pos} {tgt : Tg} {k : IK} {fs : List A → List O → R (List A)} {ts : List A → List O → R Bool} {el : List A → List O → R A} (hc : X.calm = true) (hN : X.N.Nodup) (hy : X.N[i]? = some y) (hyl : X.env.scope.names.lookup y = some .local)
    (hsw : swapsWith (.ListComp elt [⟨tgE, iter, ifs, 0⟩] scope pos) (some (.Name y py)) spos.line X.env = pure true) (hi : PI X tgE iter (wI X.K C W k fs)) (ok : BlkOk X.N X.env.scope scope own)
    (hg : ∀ (s : Shared) (H : Hp) (Ca : Addr) (cl : List (Str × Addr)) (fp : List Addr), PG (X.blk s H scope (compEnvC scope cl Ca X.env) fp) tgE (gT X.K tgt)) (ht : ∀ (s : Shared) (H : Hp) (Ca : Addr) (cl : List (Str × Addr)) (fp : List Addr), PTs (X.blk s H scope (compEnvC scope cl Ca X.env) fp) ifs (tT X.K C W0 ts))
    (he : ∀ (s : Shared) (H : Hp) (Ca : Addr) (cl : List (Str × Addr)) (fp : List Addr), PE (X.blk s H scope (compEnvC scope cl Ca X.env) fp) elt (tE X.K C W0 el)) (hs : ∀ x, foldedSetIterable iter X.env x = pure x) (hin : ∀ j ∈ tgt.all, j ∈ own.map (·.2)) :
    PSf X C W (.Assign [.Name y py] (.ListComp elt [⟨tgE, iter, ifs, 0⟩] scope pos) spos) (fun δ M => (compR tgt k (own.map (·.2)) fs ts el δ M).toS δ fun a M1 => match setTg (.one i) a δ with
    | some δ1 => .nx δ1 M1
    | none => .no) := by
  refine ps_imp (ps_setLc hc hN hy hyl hsw hi ok hg ht he hs) fun D σ H q => ?_
  have q := asg_imp (tg := .one i) q
  exact lc_imp hin q
end
end Mini

set_option Elab.async false
set_option linter.all false
set_option maxRecDepth 100000
/-! Mini C: math.comb. -/
namespace Mini
open PySem PySem.Spec L2 PySem.Calls PySem.W

namespace CMB
theorem entry : entryFor table "math.comb" = some Builtin.«math.comb» := entryFor_of_tree (by kernel_rfl)
theorem kind : builtinKind "math.comb" = none := by kernel_rfl
theorem plain : plainId "math.comb" = true := by decide +kernel
theorem args (a b : Value) : argsOk "math.comb" ⟨[a, b], []⟩ := by unfold argsOk; kernel_rfl
end CMB
theorem comb_above (a : Int) (t : Tok) (b : Int) (u : Tok) (h0 : ¬ a < 0) (h1 : ¬ b < 0) (h2 : b > a) :
    Gives (Builtin.«math.comb» ⟨[.int a t, .int b u], []⟩) (.int 0) :=
  .of_wp fun M A E s Q h => by obtain ⟨hp, g, d, tk, os⟩ := s; wp_walk; exact ⟨_, rfl, h⟩
theorem comb_run (a : Int) (t : Tok) (b : Int) (u : Tok) (h0 : ¬ a < 0) (h1 : ¬ b < 0) (h2 : ¬ b > a) (h3 : ¬ min b (a - b) > Builtin.Math.maxSsize) (h4 : ¬ min b (a - b) > Builtin.Math.manyFactors) (h5 : ¬ min b (a - b) > 9000) (hsz : (combI a b).natAbs.log2 < bitsLine) :
    Gives (Builtin.«math.comb» ⟨[.int a t, .int b u], []⟩) (.int (combI a b)) :=
  .of_wp fun M A E s Q h => by
    obtain ⟨hp, g, d, tk, os⟩ := s
    wp_walk
    (try (refine wpAny_ite_false (decide_eq_false (Nat.not_le.mpr hsz)) ?_; wp_walk))
    exact ⟨_, rfl, h⟩
section
variable {X : Cx}
theorem clS_comb : CallR X (.builtin "math.comb") (rCl X.K (bi .comb)) := by
  intro pins s σ H ws us Q I r h
  obtain ⟨B, σ', δ, M, vs, bs, as, c, M', hl, ⟨F, own, cc, hs, hv0⟩, hg, hq⟩ := h
  obtain ⟨hw, hv⟩ := hv0.split hl
  clear hv0
  unfold bi at hg
  split at hg <;> try (rename_i hb; cases hb; done)
  · rename_i n k _
    obtain ⟨x, y, rfl, rx, ry⟩ := al_two hw
    cases int_of rx
    cases int_of ry
    obtain ⟨t, u, rfl⟩ := Vals.int2 r
    split at hg
    · rename_i hz
      obtain ⟨z0, z1, z2⟩ := hz
      have m1 : Builtin.Math.maxSsize = 9223372036854775807 := by decide +kernel
      split at hg
      · rename_i hlt
        cases hg
        exact call_function_meets CMB.kind CMB.plain CMB.entry (CMB.args _ _) (comb_above n t k u (by omega) (by omega) (by omega)).meets ⟨V.int 0, H, I.tok _, ⟨_, rfl⟩, hq _ _ ⟨F, own, cc, hs, .cons (.int _) hv⟩⟩
      · rename_i hlt
        split at hg
        · rename_i hsz
          cases hg
          have h9 : ¬ min k (n - k) > 9000 := by omega
          exact call_function_meets CMB.kind CMB.plain CMB.entry (CMB.args _ _) (comb_run n t k u (by omega) (by omega) (by omega) (by rw [m1]; omega) (by unfold Builtin.Math.manyFactors; omega) h9 hsz).meets ⟨V.int _, H, I.tok _, ⟨_, rfl⟩, hq _ _ ⟨F, own, cc, hs, .cons (.int _) hv⟩⟩
        · cases hg
    · cases hg
  · cases hg
variable {C : Nat → Addr} {W : WX} {e : Expr} {es : List Expr} {pos p : Pos} {fs : List A → List O → R (List A)}
theorem f_callM {x : Str} {id : String} {G : List A → List O → R A} (hG : ∀ as M x M', G as M = .ex x M' → False) (hc : CallR X (.builtin id) (rCl X.K G)) (hg : Gl X x) (hm : X.mg x = some (.builtin id)) (ha : PAf X C W (e :: es) fs)
    (hdb : (x == ("__debug__" : Str)) = false) (hs : (e :: es).all noStar = true) : PEf X C W (.Call (.Name x p) (e :: es) [] pos) (fun δ M => (fs δ M).bind fun as M1 => G as M1) := by
  rw [List.all_cons, Bool.and_eq_true_iff] at hs
  exact pe_imp (pe_callBfun hc hg hm ha hdb (star_one hs.1 _ _) (star_any hs.2 _ _)) fun _ _ _ q => call_imp hG q
end
end Mini

set_option Elab.async false
set_option linter.all false
set_option maxRecDepth 100000
/-! Mini 12: from the text to the small language, proved for every text: expressions. -/
namespace Mini
open PySem PySem.Spec L2

/-! ### what the whole program gives -/
structure Cc where
  fns : List (Str × Nat)
  shapes : List (Nat × Nat × List Str × List Pl)
  nums : List (Str × Int)
  excs : List Str
  combs : List Str
  muts : List Nat
/-- a block's names -/
structure Lc where
  N : List Str
  sc : Scope
  fnb : Str → Bool
  calm : Bool
def Lc.kd (l : Lc) (x : Str) : Option NameKind := l.sc.names.lookup x
def bNames : List Str := ["len", "int", "str", "abs", "max", "min", "list", "tuple", "range", "isinstance", "bool", "dict"]
structure Fa (P : Program) (w : World) (K : Fg) (mg : Str → Option Value) (base : Heap) (C : Nat → Addr) (cc : Cc) (p : Prg) (n : Nat) : Prop where
  fns : ∀ i x np, cc.fns[i]? = some (x, np) → ∃ fa fd ps, FnOk P w K mg base (L2.CX P w) n fa fd ps (Phi K C np (p.run n i)) ∧ mg x = some (.ref fa) ∧ PySem.W.keepIn K (.ref fa) = true ∧ ∀ m ks pl, (i, m, ks, pl) ∈ cc.shapes → BindG K fd ps m ks pl
  nums : ∀ x i, (x, i) ∈ cc.nums → ∃ u, mg x = some u ∧ RelV (.int i) u
  blt : ∀ x ∈ bNames, mg x = none
  combs : ∀ x ∈ cc.combs, mg x = some (.builtin "math.comb")
  exc : ∀ i x, cc.excs[i]? = some x → mg x = some (.ref (C i)) ∧ ∀ X : Cx, X.K = K → X.mg = mg → Gl X x → ∀ (m : Str) (j : Nat) (p p2 pos : Pos), PMk X (.Call (.Name x p) [.Constant (.str m) j p2] [] pos) (fun _ H Q => Q (.ref (C i)) none H)
  sub : ∀ i j, PySem.W.exmOne K (.ref (C i)) (.ref (C j)) = some (p.sub i j)
structure XO (X : Cx) (C : Nat → Addr) (cc : Cc) (p : Prg) (n : Nat) (l : Lc) : Prop where
  fa : Fa X.prog X.w X.K X.mg X.base C cc p n
  N : X.N = l.N
  nd : X.N.Nodup
  sc : X.env.scope = l.sc
  kind : X.env.scope.kind = .function
  fn : ∀ x, X.fn x = l.fnb x
  calm : X.calm = l.calm
  room : X.calm = true → Room n X.A
  units : X.A.units + 64 < cLine
abbrev TO (X : Cx) (W : WX) : Prop := X.calm = true → Takes X W

/-! ### names -/
def ixOf (N : List Str) (x : Str) : Option Nat := match N.findIdx? (fun y => decide (y = x)) with
  | some i => if N[i]? = some x then some i else none
  | none => none
theorem ixOf_ok {N : List Str} {x : Str} {i : Nat} (h : ixOf N x = some i) : N[i]? = some x := by
  unfold ixOf at h
  split at h
  · split at h
    · cases h; assumption
    · cases h
  · cases h
def nm2 (x : Str) : Bool := !(x == ("__debug__" : Str)) && !(x == ("__classdict__" : Str)) && !decide (x = ("__name__" : Str))
theorem nm2_ok {x : Str} (h : nm2 x = true) : (x == ("__debug__" : Str)) = false ∧ (x == ("__classdict__" : Str)) = false ∧ x ≠ "__name__" := by
  unfold nm2 at h
  simp only [Bool.and_eq_true, Bool.not_eq_true', decide_eq_false_iff_not] at h
  exact ⟨h.1.1, h.1.2, h.2⟩
def mapO {α β : Type} (f : α → Option β) : List α → Option (List β)
  | [] => some []
  | a :: r => match f a, mapO f r with
    | some b, some bs => some (b :: bs)
    | _, _ => none
theorem mapO_len {α β : Type} {f : α → Option β} : ∀ {xs : List α} {ys : List β}, mapO f xs = some ys → ys.length = xs.length
  | [], _, h => by cases h; rfl
  | a :: r, _, h => by
    unfold mapO at h
    split at h
    · rename_i b bs e1 e2
      cases h
      rw [List.length_cons, List.length_cons, mapO_len e2]
    · cases h
theorem evs_len {w : W} : ∀ {es : List E} {δ : List A} {M : List O} {as : List A} {M' : List O}, evs w es δ M = .ok as M' → as.length = es.length
  | [], _, _, _, _, h => by cases h; rfl
  | e :: r, δ, M, as, M', h => by
    have h : ((ev w e δ M).bind fun x M1 => (evs w r δ M1).bind fun xs M2 => .ok (x :: xs) M2) = .ok as M' := h
    cases e1 : ev w e δ M with
    | no => simp only [e1, R.bind_no] at h; cases h
    | ex x M1 => simp only [e1, R.bind_ex] at h; cases h
    | ok a M1 =>
      simp only [e1, R.bind_ok] at h
      cases e2 : evs w r δ M1 with
      | no => simp only [e2, R.bind_no] at h; cases h
      | ex x M1 => simp only [e2, R.bind_ex] at h; cases h
      | ok as2 M2 =>
        simp only [e2, R.bind_ok] at h
        cases h
        rw [List.length_cons, List.length_cons, evs_len e2]

def cName (cc : Cc) (l : Lc) (x : Str) : Option E := if nm2 x then (match l.kd x with
  | some .globalImplicit => (match cc.nums.lookup x with
    | some i => some (.cst (.int i))
    | none => none)
  | some .globalExplicit => none
  | none => none
  | some _ => (match ixOf l.N x with
    | some i => some (.var i)
    | none => none)) else none
def cConst : Const → Option E
  | .none => some (.cst .non)
  | .bool b => some (.cst (.bl b))
  | .int i => some (.cst (.int i))
  | .str s => some (.cst (.str s))
  | _ => none
def biOf (x : Str) : Option Bi :=
  if x = "len" then some .len else if x = "int" then some .int else if x = "str" then some .str else if x = "abs" then some .abs
  else if x = "max" then some .max else if x = "min" then some .min else if x = "list" then some .list else if x = "tuple" then some .tuple else none
def tyOfN (x : Str) : Option Ty :=
  if x = "int" then some .int else if x = "bool" then some .bool else if x = "str" then some .str else if x = "tuple" then some .tup else if x = "list" then some .lst else if x = "dict" then some .dic else none
def tyName (l : Lc) : Expr → Option Ty
  | .Name x _ => if l.kd x = some .globalImplicit then tyOfN x else none
  | _ => none
def binI : Operator → Option Bin
  | .Add => some .add
  | .Sub => some .sub
  | .Mult => some .mul
  | .FloorDiv => some .fdv
  | .Mod => some .mod
  | .Pow => some .pow
  | _ => none
theorem binI_ok {o : Operator} {b : Bin} (h : binI o = some b) : o = binOp b := by
  cases o <;> cases h <;> rfl
def cmpI : CmpOp → Cmp
  | .Eq => .eq
  | .NotEq => .ne
  | .Lt => .lt
  | .LtE => .le
  | .Gt => .gt
  | .GtE => .ge
  | .Is => .isN
  | .IsNot => .notN
  | .In => .inn
  | .NotIn => .nin
theorem cmpI_ok (o : CmpOp) : cmpOp (cmpI o) = o := by cases o <;> rfl
def mtOf (x : Str) : Option Mt := if x = "append" then some .append else if x = "pop" then some .pop else if x = "join" then some .join else none

/-! ### calls -/
def cIsi (f : Expr → Option E) (l : Lc) : List Expr → Option E
  | [a, .Name x p2] => (match f a, tyName l (.Name x p2) with
    | some a', some t => if noStar a then some (.isi a' [t]) else none
    | _, _ => none)
  | [a, .Tuple es _ _] => (match f a, mapO (tyName l) es with
    | some a', some ts => if noStar a && decide (ts.length ≤ 100) then some (.isi a' ts) else none
    | _, _ => none)
  | _ => none
def plOk : Pl → Bool
  | .arg _ => true
  | .cst x => x.sv.isSome
def plFits (pl : List Pl) (m np : Nat) : Bool := if pl.isEmpty then decide (m = np) else decide (pl.length = np)
def cUser (cc : Cc) (f : Expr → Option E) (i np : Nat) (args : List Expr) (kws : List Keyword) : Option E := match args with
  | [] => none
  | a :: r => if (a :: r).all noStar && kws.all (fun k => k.arg.isSome) then (match mapO f (a :: r), mapO f (kws.map (·.value)), cc.shapes.find? (fun s => decide (s.1 = i) && decide (s.2.1 = (a :: r).length) && decide (s.2.2.1 = kws.filterMap fun k => k.arg)) with
    | some as, some bs, some s => if plFits s.2.2.2 ((a :: r).length + kws.length) np && s.2.2.2.all plOk then (if i ∈ cc.muts then some (.mcall i as bs s.2.2.2) else some (.call i as bs s.2.2.2)) else none
    | _, _, _ => none) else none
def cBi (b : Bi) (f : Expr → Option E) (a : Expr) (r : List Expr) : Option E := if (a :: r).all noStar then (match mapO f (a :: r) with
  | some as => some (.bi b as)
  | none => none) else none
def cGlob (cc : Cc) (l : Lc) (f : Expr → Option E) (x : Str) (args : List Expr) (kws : List Keyword) : Option E :=
  match cc.fns.findIdx? (fun q => decide (q.1 = x)) with
  | some i => (match cc.fns[i]? with
    | some (y, np) => if y = x then cUser cc f i np args kws else none
    | none => none)
  | none => (match args, kws with
    | a :: r, [] => if x = "isinstance" then cIsi f l (a :: r) else if x ∈ cc.combs then cBi .comb f a r else (match biOf x with
      | some b => cBi b f a r
      | none => none)
    | _, _ => none)
def cMeth (f : Expr → Option E) (o : Expr) (name : Str) (apos pos : Pos) (args : List Expr) (kws : List Keyword) : Option E := match f o, mtOf name, mapO f args, kws with
  | some o', some m, some as, [] => if args.all noStar && noCall0 o && decide (args.length < 30) && (apos.endLine == pos.line) then some (.mt m o' as) else none
  | _, _, _, _ => none
def cCall (cc : Cc) (l : Lc) (f : Expr → Option E) (fn : Expr) (args : List Expr) (kws : List Keyword) (pos : Pos) : Option E := if l.calm then (match fn with
  | .Name x _ => if nm2 x && decide (l.kd x = some .globalImplicit) then cGlob cc l f x args kws else none
  | .Attribute o name apos => cMeth f o name apos pos args kws
  | _ => none) else none

section
variable {X : Cx} {C : Nat → Addr} {W : WX} {cc : Cc} {p : Prg} {n : Nat} {l : Lc} {f : Expr → Option E} {pos : Pos}
abbrev Fe (X : Cx) (C : Nat → Addr) (W : WX) (p : Prg) (n : Nat) (f : Expr → Option E) : Prop := ∀ e e', f e = some e' → PEf X C W e (ev ⟨p.run n, p.sub, p.turns⟩ e')
theorem XO.gl (o : XO X C cc p n l) {x : Str} (h : l.kd x = some .globalImplicit) : Gl X x := by
  show X.env.scope.names.lookup x = _
  rw [o.sc]; exact h
theorem mapO_as (hf : Fe X C W p n f) : ∀ {es : List Expr} {es' : List E}, mapO f es = some es' → es.all noStar = true → PAf X C W es (evs ⟨p.run n, p.sub, p.turns⟩ es')
  | [], _, h, _ => by cases h; exact as_nil
  | e :: r, _, h, hs => by
    unfold mapO at h
    rw [List.all_cons, Bool.and_eq_true_iff] at hs
    split at h
    · rename_i b bs e1 e2
      cases h
      exact as_cons (hf _ _ e1) (mapO_as hf e2 hs.2) hs.1
    · cases h
theorem mapO_ks (hf : Fe X C W p n f) : ∀ {ks : List Keyword} {es' : List E}, mapO f (ks.map (·.value)) = some es' → PKf X C W ks (evs ⟨p.run n, p.sub, p.turns⟩ es')
  | [], _, h => by cases h; exact ks_nil
  | ⟨nm, e, kp⟩ :: r, _, h => by
    unfold List.map mapO at h
    split at h
    · rename_i b bs e1 e2
      cases h
      exact ks_cons (hf _ _ e1) (mapO_ks hf e2)
    · cases h
theorem cName_ok (o : XO X C cc p n l) {x : Str} {e' : E} (h : cName cc l x = some e') : PEf X C W (.Name x pos) (ev ⟨p.run n, p.sub, p.turns⟩ e') := by
  unfold cName at h
  split at h
  · rename_i hn
    obtain ⟨n1, n2, n3⟩ := nm2_ok hn
    split at h
    · rename_i hk
      split at h
      · rename_i i hi
        cases h
        obtain ⟨u, h1, h2⟩ := o.fa.nums _ _ (PySem.mem_of_lookup hi)
        exact f_cst (pe_glob (o.gl hk) h1 h2 n1) fun F => .int _
      · cases h
    · cases h
    · cases h
    · rename_i k hk1 hk2 hk
      split at h
      · rename_i i hi
        cases h
        have hv : Vis X.env.scope x := by
          unfold Vis
          rw [o.sc]
          cases k with
          | «local» => exact .inl hk
          | cell => exact .inr (.inl hk)
          | free => exact .inr (.inr hk)
          | globalExplicit => exact absurd rfl hk2
          | globalImplicit => exact absurd rfl hk1
        exact f_var (by rw [o.N]; exact ixOf_ok hi) hv n1 n2
      · cases h
  · cases h
theorem cConst_ok {c : Const} {j : Nat} {e' : E} (h : cConst c = some e') : PEf X C W (.Constant c j pos) (ev ⟨p.run n, p.sub, p.turns⟩ e') := by
  unfold cConst at h
  split at h
  · cases h; exact f_cst pe_non fun F => .non
  · cases h; exact f_cst pe_bl fun F => .bl _
  · cases h; exact f_cst pe_int fun F => .int _
  · cases h; exact f_cst pe_str fun F => .str _
  · cases h
theorem tyOfN_ok {x : Str} {t : Ty} (h : tyOfN x = some t) : x ∈ bNames ∧ bootBuiltins x = some (.type t.nm) ∧ x ≠ "__name__" ∧ (x == ("__debug__" : Str)) = false := by
  unfold tyOfN at h
  repeat' split at h
  all_goals first
    | (rename_i hx; cases h; subst hx; exact ⟨by decide +kernel, by kernel_rfl, by decide +kernel, by decide +kernel⟩)
    | cases h
theorem tyName_ok (o : XO X C cc p n l) {x : Str} {t : Ty} {p2 : Pos} (h : tyName l (.Name x p2) = some t) : TyN X x t := by
  have h : (if l.kd x = some .globalImplicit then tyOfN x else none) = some t := h
  split at h
  · rename_i hk
    obtain ⟨h1, h2, h3, h4⟩ := tyOfN_ok h
    exact ⟨o.gl hk, o.fa.blt _ h1, h2, h3, h4⟩
  · cases h
theorem tyNames_ok (o : XO X C cc p n l) : ∀ {es : List Expr} {ts : List Ty}, mapO (tyName l) es = some ts → TyNs X es ts
  | [], _, h => by cases h; exact .nil
  | e :: r, _, h => by
    unfold mapO at h
    split at h
    · rename_i t ts e1 e2
      cases h
      cases e with
      | Name x p2 => exact .cons (tyName_ok o e1) (tyNames_ok o e2)
      | _ => cases e1
    · cases h
theorem cBi_ok (hf : Fe X C W p n f) {b : Bi} {a : Expr} {r : List Expr} {e' : E} (h : cBi b f a r = some e') (hr : ∀ fs, PAf X C W (a :: r) fs → (a :: r).all noStar = true → PEf X C W e (fun δ M => (fs δ M).bind fun as M1 => bi b as M1)) : PEf X C W e (ev ⟨p.run n, p.sub, p.turns⟩ e') := by
  unfold cBi at h
  split at h
  · rename_i hs
    split at h
    · rename_i as e1
      cases h
      exact hr _ (mapO_as hf e1 hs) hs
    · cases h
  · cases h
theorem cIsi_ok (o : XO X C cc p n l) (hf : Fe X C W p n f) {q : Pos} (hg : Gl X "isinstance") : ∀ {args : List Expr} {e' : E}, cIsi f l args = some e' → PEf X C W (.Call (.Name "isinstance" q) args [] pos) (ev ⟨p.run n, p.sub, p.turns⟩ e') := by
  intro args e' h
  have hb : bootBuiltins "isinstance" = some (.builtin "isinstance") := by kernel_rfl
  unfold cIsi at h
  split at h
  · split at h
    · rename_i e1 e2
      split at h
      · cases h
        exact f_isi hg (o.fa.blt _ (by decide +kernel)) hb (hf _ _ e1) (tyName_ok o e2) ‹_›
      · cases h
    · cases h
  · split at h
    · rename_i ts e1 e2
      split at h
      · rename_i hz
        cases h
        rw [Bool.and_eq_true_iff, decide_eq_true_eq] at hz
        exact f_isiT hg (o.fa.blt _ (by decide +kernel)) hb (hf _ _ e1) (tyNames_ok o e2) (by rw [sizeLine_eq]; omega) hz.1
      · cases h
    · cases h
  · cases h
theorem biOf_ok (o : XO X C cc p n l) (hc : X.calm = true) {x : Str} {b : Bi} (h : biOf x = some b) (hg : Gl X x) {q : Pos} {a : Expr} {r : List Expr} {fs : List A → List O → R (List A)} (ha : PAf X C W (a :: r) fs) (hs : (a :: r).all noStar = true) :
    PEf X C W (.Call (.Name x q) (a :: r) [] pos) (fun δ M => (fs δ M).bind fun as M1 => bi b as M1) := by
  unfold biOf at h
  split at h
  · rename_i hx; cases h; subst hx; exact f_callB (bi_ex _) clS_len hg (o.fa.blt _ (by decide +kernel)) (by kernel_rfl) ha (by decide +kernel) (by decide +kernel) hs
  split at h
  · rename_i hx; cases h; subst hx; exact f_callT (bi_ex _) clS_int hg (o.fa.blt _ (by decide +kernel)) (by kernel_rfl) ha (by decide +kernel) (by decide +kernel) hs
  split at h
  · rename_i hx; cases h; subst hx; exact f_callT (bi_ex _) clS_str hg (o.fa.blt _ (by decide +kernel)) (by kernel_rfl) ha (by decide +kernel) (by decide +kernel) hs
  split at h
  · rename_i hx; cases h; subst hx; exact f_callB (bi_ex _) clS_abs hg (o.fa.blt _ (by decide +kernel)) (by kernel_rfl) ha (by decide +kernel) (by decide +kernel) hs
  split at h
  · rename_i hx; cases h; subst hx; exact f_callB (bi_ex _) (clS_max hc) hg (o.fa.blt _ (by decide +kernel)) (by kernel_rfl) ha (by decide +kernel) (by decide +kernel) hs
  split at h
  · rename_i hx; cases h; subst hx; exact f_callB (bi_ex _) (clS_min hc) hg (o.fa.blt _ (by decide +kernel)) (by kernel_rfl) ha (by decide +kernel) (by decide +kernel) hs
  split at h
  · rename_i hx; cases h; subst hx; exact f_callT (bi_ex _) clS_list hg (o.fa.blt _ (by decide +kernel)) (by kernel_rfl) ha (by decide +kernel) (by decide +kernel) hs
  split at h
  · rename_i hx; cases h; subst hx; exact f_callT (bi_ex _) clS_tuple hg (o.fa.blt _ (by decide +kernel)) (by kernel_rfl) ha (by decide +kernel) (by decide +kernel) hs
  · cases h
theorem fill_len {α : Type} {c : D → α} {pl : List Pl} {np m : Nat} (h : plFits pl m np = true) (xs : List α) (hl : xs.length = m) : (fill c pl xs).length = np := by
  cases pl with
  | nil =>
    have h : decide (m = np) = true := h
    rw [decide_eq_true_eq] at h
    show xs.length = np
    rw [hl, h]
  | cons a r =>
    have h : decide ((a :: r).length = np) = true := h
    rw [decide_eq_true_eq] at h
    unfold fill
    rw [List.length_map]; exact h
theorem cUser_ok (o : XO X C cc p n l) (hc : X.calm = true) (tk : Takes X W) (hf : Fe X C W p n f) {i np : Nat} {x : Str} {q : Pos} (hi : cc.fns[i]? = some (x, np)) (hg : Gl X x) (hn : nm2 x = true) {args : List Expr} {kws : List Keyword} {e' : E} (h : cUser cc f i np args kws = some e') :
    PEf X C W (.Call (.Name x q) args kws pos) (ev ⟨p.run n, p.sub, p.turns⟩ e') := by
  unfold cUser at h
  split at h
  · cases h
  · split at h
    · rename_i hs
      rw [Bool.and_eq_true_iff] at hs
      split at h
      · rename_i as bs s e1 e2 e3
        split at h
        · rename_i hz
          rw [Bool.and_eq_true_iff] at hz
          have hm := List.mem_of_find?_eq_some e3
          have hp := List.find?_some e3
          simp only [Bool.and_eq_true, decide_eq_true_eq] at hp
          obtain ⟨s1, s2, s3, s4⟩ := s
          obtain ⟨⟨p1, p2⟩, p3⟩ := hp
          dsimp only at p1 p2 p3 hz h
          subst p1 p2 p3
          obtain ⟨fa, fd, ps, FO, hmg, hk, hsh⟩ := o.fa.fns _ _ _ hi
          have hl1 : ∀ δ M as' M', evs ⟨p.run n, p.sub, p.turns⟩ as δ M = .ok as' M' → as'.length = _ := fun δ M as' M' z => (evs_len z).trans (mapO_len e1)
          have hl2 : ∀ δ M as' M', evs ⟨p.run n, p.sub, p.turns⟩ bs δ M = .ok as' M' → as'.length = _ := fun δ M as' M' z => ((evs_len z).trans (mapO_len e2)).trans (List.length_map _)
          have hpl : ∀ y, Pl.cst y ∈ s4 → y.sv.isSome = true := fun y hy => List.all_eq_true.mp hz.2 _ hy
          split at h
          · cases h
            exact f_user (G := p.run n s1) (fun cc1 hs1 hv1 hw1 hn1 hg1 => mcall_phi cc1 hs1 hv1 hw1 hn1 hg1) FO (o.room hc) (hsh _ _ _ hm) (fun xs hx => fill_len hz.1 xs hx) tk hg hmg hk (mapO_as hf e1 hs.1) (mapO_ks hf e2) hs.2 (nm2_ok hn).1 hs.1 hl1 hl2 hpl
          · cases h
            exact f_user (G := pcall (p.run n s1)) (fun cc1 hs1 hv1 hw1 hn1 hg1 => pcall_phi cc1 hs1 hv1 hw1 hn1 hg1) FO (o.room hc) (hsh _ _ _ hm) (fun xs hx => fill_len hz.1 xs hx) tk hg hmg hk (mapO_as hf e1 hs.1) (mapO_ks hf e2) hs.2 (nm2_ok hn).1 hs.1 hl1 hl2 hpl
        · cases h
      · cases h
    · cases h
theorem cMeth_ok (hf : Fe X C W p n f) {o : Expr} {name : Str} {apos : Pos} {args : List Expr} {kws : List Keyword} {e' : E} (h : cMeth f o name apos pos args kws = some e') : PEf X C W (.Call (.Attribute o name apos) args kws pos) (ev ⟨p.run n, p.sub, p.turns⟩ e') := by
  unfold cMeth at h
  split at h
  · rename_i o' m as e1 e2 e3
    split at h
    · rename_i hz
      simp only [Bool.and_eq_true, decide_eq_true_eq] at hz
      obtain ⟨⟨⟨z1, z2⟩, z3⟩, z4⟩ := hz
      cases h
      have ha := mapO_as hf e3 z1
      have ho := hf _ _ e1
      unfold mtOf at e2
      cases args with
      | nil =>
        cases e3
        split at e2
        · rename_i hx; cases e2; subst hx; exact f_mt0 PySem.F.plainAttrs_list PySem.F.slot_list_append PySem.F.type_list_append mtS_append ho z2 z4
        split at e2
        · rename_i hx; cases e2; subst hx; exact f_mt0 PySem.F.plainAttrs_list PySem.F.slot_list_pop PySem.F.type_list_pop mtS_pop ho z2 z4
        split at e2
        · rename_i hx; cases e2; subst hx; exact f_mt0 PySem.F.plainAttrs_str PySem.F.slot_str_join PySem.F.type_str_join mtS_join ho z2 z4
        · cases e2
      | cons a r =>
        split at e2
        · rename_i hx; cases e2; subst hx; exact f_mt PySem.F.plainAttrs_list PySem.F.slot_list_append PySem.F.type_list_append mtS_append ho ha z1 z2 z3 z4
        split at e2
        · rename_i hx; cases e2; subst hx; exact f_mt PySem.F.plainAttrs_list PySem.F.slot_list_pop PySem.F.type_list_pop mtS_pop ho ha z1 z2 z3 z4
        split at e2
        · rename_i hx; cases e2; subst hx; exact f_mt PySem.F.plainAttrs_str PySem.F.slot_str_join PySem.F.type_str_join mtS_join ho ha z1 z2 z3 z4
        · cases e2
    · cases h
  · cases h
theorem cCall_ok (o : XO X C cc p n l) (to : TO X W) (hf : Fe X C W p n f) {fn : Expr} {args : List Expr} {kws : List Keyword} {e' : E} (h : cCall cc l f fn args kws pos = some e') : PEf X C W (.Call fn args kws pos) (ev ⟨p.run n, p.sub, p.turns⟩ e') := by
  unfold cCall at h
  split at h
  · rename_i hcl
    have hc : X.calm = true := o.calm.trans hcl
    split at h
    · rename_i x q
      split at h
      · rename_i hx
        rw [Bool.and_eq_true_iff, decide_eq_true_eq] at hx
        have hg := o.gl hx.2
        unfold cGlob at h
        split at h
        · split at h
          · rename_i hi
            split at h
            · rename_i hy
              subst hy
              exact cUser_ok o hc (to hc) hf hi hg hx.1 h
            · cases h
          · cases h
        · split at h
          · split at h
            · rename_i hy
              subst hy
              exact cIsi_ok o hf hg h
            · split at h
              · rename_i hy
                exact cBi_ok hf h fun fs ha hs => f_callM (bi_ex _) clS_comb hg (o.fa.combs _ hy) ha (nm2_ok hx.1).1 hs
              · split at h
                · rename_i b hb
                  exact cBi_ok hf h fun fs ha hs => biOf_ok o hc hb hg ha hs
                · cases h
          · cases h
      · cases h
    · exact cMeth_ok hf h
    · cases h
  · cases h
end
end Mini

set_option Elab.async false
set_option linter.all false
set_option maxRecDepth 100000
/-! Mini 13: from the text to the small language: every expression, comprehensions. -/
namespace Mini
open PySem PySem.Spec L2

def plainTest : Expr → Bool
  | .UnaryOp .Not _ _ => false
  | .BoolOp .. => false
  | .IfExp .. => false
  | .Compare .. => false
  | _ => true
theorem plainTest_ok {e : Expr} (h : plainTest e = true) (env : Env) : ∀ whole, isTrue e env whole = (do let v ← whole; standAt e.pos; holding [v] (truthy v)) := by
  intro whole
  cases e with
  | UnaryOp op a pos => cases op <;> first | rfl | cases h
  | BoolOp => cases h
  | IfExp => cases h
  | Compare => cases h
  | _ => rfl
def noSlice : Expr → Bool
  | .Slice .. => false
  | _ => true
theorem plainIx_ok {b : Expr} (h : noSlice b = true) : PlainIx b := by
  intro o i
  cases b <;> first | rfl | cases h
def canStore (l : Lc) (x : Str) : Bool := decide (l.kd x = some .local) || (decide (l.kd x = some .cell) && l.fnb x)
def names (l : Lc) : List Expr → Option (List Nat)
  | [] => some []
  | .Name x _ :: r => if canStore l x then (match ixOf l.N x, names l r with
    | some i, some is => some (i :: is)
    | _, _ => none) else none
  | _ :: _ => none
def cTg (l : Lc) : Expr → Option Tg
  | .Name x _ => if canStore l x then (match ixOf l.N x with
    | some i => some (.one i)
    | none => none) else none
  | .Tuple es _ _ => if l.calm then (match names l es with
    | some is => some (.many is)
    | none => none) else none
  | _ => none
def noSet : Expr → Bool
  | .Set .. => false
  | _ => true
theorem noSet_ok {e : Expr} (h : noSet e = true) (env : Env) : ∀ x, foldedSetIterable e env x = pure x := by
  intro x
  cases e <;> first | rfl | cases h
def rngArgs (l : Lc) : Expr → Option (List Expr)
  | .Call (.Name x _) as [] _ => if x = "range" ∧ l.kd x = some .globalImplicit ∧ as.all noStar = true then some as else none
  | _ => none
def cIter (l : Lc) (f : Expr → Option E) (e : Expr) : Option (IK × List E) := match rngArgs l e with
  | some [a] => (match f a with
    | some a' => some (.r1, [a'])
    | none => none)
  | some [a, b] => (match f a, f b with
    | some a', some b' => some (.r2, [a', b'])
    | _, _ => none)
  | _ => (match f e with
    | some e' => some (.seq, [e'])
    | none => none)
section
variable {X : Cx} {C : Nat → Addr} {W : WX} {cc : Cc} {p : Prg} {n : Nat} {l : Lc} {f : Expr → Option E} {pos : Pos}
theorem canStore_ok (o : XO X C cc p n l) {x : Str} (h : canStore l x = true) : L2.Loc X.env.scope x ∧ (X.fn x = true ∨ X.env.scope.names.lookup x = some .local) := by
  unfold canStore at h
  simp only [Bool.or_eq_true, Bool.and_eq_true, decide_eq_true_eq] at h
  unfold L2.Loc
  rw [o.sc, o.fn]
  rcases h with h | ⟨h1, h2⟩
  · exact ⟨.inl h, .inr h⟩
  · exact ⟨.inr h1, .inl h2⟩
theorem names_ok (o : XO X C cc p n l) : ∀ {es : List Expr} {is : List Nat}, names l es = some is → PGs X es (gNs is) ∧ es.length = is.length ∧ (assignEach es X.env).length = is.length ∧ (assignEach es X.env).findIdx? (·.1) = none
  | [], _, h => by cases h; exact ⟨pgs_nil, rfl, rfl, rfl⟩
  | e :: r, _, h => by
    cases e with
    | Name x q =>
      have h : (if canStore l x then (match ixOf l.N x, names l r with
        | some i, some is => some (i :: is)
        | _, _ => none) else none) = some _ := h
      split at h
      · rename_i hs
        split at h
        · rename_i i is e1 e2
          cases h
          obtain ⟨h1, h2⟩ := canStore_ok o hs
          obtain ⟨g1, g2, g3, g4⟩ := names_ok o e2
          refine ⟨pgs_cons (pg_name o.nd (by rw [o.N]; exact ixOf_ok e1) h1 h2) g1 rfl, congrArg (· + 1) g2, congrArg (· + 1) g3, ?_⟩
          show List.findIdx? (·.1) ((false, _) :: assignEach r X.env) = none
          rw [List.findIdx?_cons]
          simp only [Bool.false_eq_true, if_false, g4]
          rfl
        · cases h
      · cases h
    | _ => cases h
theorem cTg_ok (o : XO X C cc p n l) {e : Expr} {tg : Tg} (h : cTg l e = some tg) : PG X e (gT X.K tg) := by
  cases e with
  | Name x q =>
    have h : (if canStore l x then (match ixOf l.N x with
      | some i => some (Tg.one i)
      | none => none) else none) = some _ := h
    split at h
    · rename_i hs
      split at h
      · rename_i i e1
        cases h
        obtain ⟨h1, h2⟩ := canStore_ok o hs
        exact pg_name o.nd (by rw [o.N]; exact ixOf_ok e1) h1 h2
      · cases h
    · cases h
  | Tuple es k q =>
    have h : (if l.calm then (match names l es with
      | some is => some (Tg.many is)
      | none => none) else none) = some _ := h
    split at h
    · rename_i hc
      split at h
      · rename_i is e1
        cases h
        obtain ⟨g1, g2, g3, g4⟩ := names_ok o e1
        exact pg_tup (o.calm.trans hc) g1 g3 g4
      · cases h
    · cases h
  | _ => cases h
theorem cIter_ok (o : XO X C cc p n l) (hf : Fe X C W p n f) {e tg : Expr} {k : IK} {es : List E} (h : cIter l f e = some (k, es)) : PI X tg e (wI X.K C W k (evs ⟨p.run n, p.sub, p.turns⟩ es)) := by
  have rng : ∀ {as : List Expr}, rngArgs l e = some as → ∃ q q2, e = .Call (.Name "range" q) as [] q2 ∧ Gl X "range" ∧ as.all noStar = true := by
    intro as hr
    unfold rngArgs at hr
    split at hr
    · split at hr
      · rename_i hx
        obtain ⟨hx, hk, hs⟩ := hx
        cases hr
        subst hx
        exact ⟨_, _, rfl, o.gl hk, hs⟩
      · cases hr
    · cases hr
  unfold cIter at h
  split at h
  · rename_i a hr
    obtain ⟨q, q2, rfl, hg, hs⟩ := rng hr
    split at h
    · rename_i a' e1
      cases h
      exact pi_r1 hg (o.fa.blt _ (by decide +kernel)) (as_cons (hf _ _ e1) as_nil (List.all_eq_true.mp hs _ List.mem_cons_self)) (List.all_eq_true.mp hs _ List.mem_cons_self)
    · cases h
  · rename_i a b hr
    obtain ⟨q, q2, rfl, hg, hs⟩ := rng hr
    have s1 : noStar a = true := List.all_eq_true.mp hs _ List.mem_cons_self
    have s2 : noStar b = true := List.all_eq_true.mp hs _ (List.mem_cons_of_mem _ List.mem_cons_self)
    split at h
    · rename_i a' b' e1 e2
      cases h
      exact pi_r2 hg (o.fa.blt _ (by decide +kernel)) (as_cons (hf _ _ e1) (as_cons (hf _ _ e2) as_nil s2) s1) s1 s2
    · cases h
  · split at h
    · rename_i e1
      cases h
      exact pi_seq (hf _ _ e1)
    · cases h
end

/-! ### a comprehension's block -/
def ownOf (N : List Str) (scope : Scope) : List (Str × Nat) := scope.names.filterMap fun y => if y.2 = .local ∨ y.2 = .cell then (match ixOf N y.1 with
  | some i => some (y.1, i)
  | none => none) else none
def blkC (N : List Str) (sc scope : Scope) (own : List (Str × Nat)) : Bool :=
  decide (scope.kind = .function) && scope.names.all (fun y => decide (scope.names.lookup y.1 = some y.2)) && own.all (fun q => decide (N[q.2]? = some q.1)) &&
    scope.names.all (fun y => !decide (y.2 = .free) || (decide (sc.names.lookup y.1 = some .cell) || decide (sc.names.lookup y.1 = some .free))) &&
    scope.names.all (fun y => !(decide (y.2 = .local) || decide (y.2 = .cell)) || (decide (y.1 ∈ own.map (·.1)) || !decide (y.1 ∈ N)))
theorem blkC_ok {N : List Str} {sc scope : Scope} {own : List (Str × Nat)} (h : blkC N sc scope own = true) : BlkOk N sc scope own := by
  unfold blkC at h
  simp only [Bool.and_eq_true, List.all_eq_true, decide_eq_true_eq, Bool.or_eq_true, Bool.not_eq_true', decide_eq_false_iff_not, Bool.or_eq_false_iff] at h
  obtain ⟨⟨⟨⟨h1, h2⟩, h3⟩, h4⟩, h5⟩ := h
  refine ⟨h1, h2, h3, fun y hy hf => ?_, fun y hy hl => ?_⟩
  · rcases h4 y hy with z | z
    · exact absurd hf z
    · exact z
  · rcases h5 y hy with ⟨z1, z2⟩ | z
    · rcases hl with hl | hl
      · exact absurd hl z1
      · exact absurd hl z2
    · exact z
def Lc.blk (l : Lc) (scope : Scope) : Lc := ⟨l.N, relS scope l.sc, fun x => scope.names.lookup x == some .cell, l.calm⟩
/-- elt, target, iterable, tests -/
def cComp (l : Lc) (F : Lc → Expr → Option E) (elt tgE iter : Expr) (ifs : List Expr) (scope : Scope) : Option E :=
  if l.calm && noSet iter && blkC l.N l.sc scope (ownOf l.N scope) then (match cTg (l.blk scope) tgE, cIter l (F l) iter, F (l.blk scope) elt with
    | some tg, some (k, its), some el => if tg.all.all (fun j => decide (j ∈ (ownOf l.N scope).map (·.2))) then (match ifs with
      | [] => some (.comp el tg k its [] ((ownOf l.N scope).map (·.2)))
      | [c] => (match F (l.blk scope) c with
        | some c' => some (.comp el tg k its [c'] ((ownOf l.N scope).map (·.2)))
        | none => none)
      | _ => none) else none
    | _, _, _ => none) else none

abbrev Tri (X : Cx) (C : Nat → Addr) (W : WX) (p : Prg) (n : Nat) (e : Expr) (e' : E) : Prop :=
  PEf X C W e (ev ⟨p.run n, p.sub, p.turns⟩ e') ∧ PTf X C W e (evT ⟨p.run n, p.sub, p.turns⟩ e') ∧ ∀ op es pos, e = .BoolOp op es pos → PWf X C W e (evT ⟨p.run n, p.sub, p.turns⟩ e')
abbrev FOk (C : Nat → Addr) (cc : Cc) (p : Prg) (n : Nat) (F : Lc → Expr → Option E) : Prop := ∀ (X : Cx) (W : WX) (l : Lc) (e : Expr) (e' : E), F l e = some e' → XO X C cc p n l → TO X W → Tri X C W p n e e'
section
variable {X : Cx} {C : Nat → Addr} {W : WX} {cc : Cc} {p : Prg} {n : Nat} {l : Lc} {F : Lc → Expr → Option E} {pos : Pos}
theorem tri_plain {e : Expr} {g : List A → List O → R A} {e' : E} (he : evP ⟨p.run n, p.sub, p.turns⟩ e' = mkF g) (hp : plainTest e = true) (h : PEf X C W e g) : Tri X C W p n e e' := by
  have h1 : ev ⟨p.run n, p.sub, p.turns⟩ e' = g := congrArg EF.v he
  have h2 : evT ⟨p.run n, p.sub, p.turns⟩ e' = dT g := congrArg EF.t he
  unfold Tri
  rw [h1, h2]
  refine ⟨h, t_tru h (plainTest_ok hp X.env), fun op es pos hb => ?_⟩
  subst hb; cases hp
/-- .. where the function is the expression's own -/
theorem tri_ev {e : Expr} {e' : E} (he : evT ⟨p.run n, p.sub, p.turns⟩ e' = dT (ev ⟨p.run n, p.sub, p.turns⟩ e')) (hp : plainTest e = true) (h : PEf X C W e (ev ⟨p.run n, p.sub, p.turns⟩ e')) : Tri X C W p n e e' := by
  refine ⟨h, ?_, fun op es pos hb => ?_⟩
  · rw [he]; exact t_tru h (plainTest_ok hp X.env)
  · subst hb; cases hp
theorem XO.blk (o : XO X C cc p n l) {scope : Scope} {own : List (Str × Nat)} (ok : BlkOk X.N X.env.scope scope own) (s : Shared) (H : Hp) (Ca : Addr) (cl : List (Str × Addr)) (fp : List Addr) : XO (X.blk s H scope (compEnvC scope cl Ca X.env) fp) C cc p n (l.blk scope) where
  fa := o.fa
  N := o.N
  nd := o.nd
  sc := by
    show relS scope X.env.scope = relS scope l.sc
    rw [o.sc]
  kind := ok.kind
  fn := fun _ => rfl
  calm := o.calm
  room := o.room
  units := o.units
theorem TO.blk {X : Cx} {s : Shared} {H : Hp} {scope : Scope} {env : Env} {fp : List Addr} : TO (X.blk s H scope env fp) W0 := by
  intro _ u s' h
  obtain ⟨a, B, sI, pins, σ, H', cls, d, _, _, _, _, _, _, _, _, w⟩ := h
  exact w.elim
theorem cComp_parts (hF : FOk C cc p n F) (o : XO X C cc p n l) (to : TO X W) {elt tgE iter : Expr} {ifs : List Expr} {scope : Scope} {e' : E} (h : cComp l F elt tgE iter ifs scope = some e') :
    ∃ (el : E) (tg : Tg) (k : IK) (its ifs' : List E) (own : List (Str × Nat)), e' = .comp el tg k its ifs' (own.map (·.2)) ∧ X.calm = true ∧ PI X tgE iter (wI X.K C W k (evs ⟨p.run n, p.sub, p.turns⟩ its)) ∧ BlkOk X.N X.env.scope scope own ∧
      (∀ (s : Shared) (H : Hp) (Ca : Addr) (cl : List (Str × Addr)) (fp : List Addr), PG (X.blk s H scope (compEnvC scope cl Ca X.env) fp) tgE (gT X.K tg)) ∧ (∀ (s : Shared) (H : Hp) (Ca : Addr) (cl : List (Str × Addr)) (fp : List Addr), PTs (X.blk s H scope (compEnvC scope cl Ca X.env) fp) ifs (tT X.K C W0 (evA ⟨p.run n, p.sub, p.turns⟩ ifs'))) ∧
      (∀ (s : Shared) (H : Hp) (Ca : Addr) (cl : List (Str × Addr)) (fp : List Addr), PE (X.blk s H scope (compEnvC scope cl Ca X.env) fp) elt (tE X.K C W0 (ev ⟨p.run n, p.sub, p.turns⟩ el))) ∧ (∀ x, foldedSetIterable iter X.env x = pure x) ∧ (∀ j ∈ tg.all, j ∈ own.map (·.2)) := by
  unfold cComp at h
  split at h
  · rename_i hz
    simp only [Bool.and_eq_true] at hz
    obtain ⟨⟨z1, z2⟩, z3⟩ := hz
    have ok : BlkOk X.N X.env.scope scope (ownOf l.N scope) := by
      rw [o.N, o.sc]; exact blkC_ok z3
    split at h
    · rename_i tg k its el e1 e2 e3
      split at h
      · rename_i hin
        rw [List.all_eq_true] at hin
        have hin : ∀ j ∈ tg.all, j ∈ (ownOf l.N scope).map (·.2) := fun j hj => by simpa using hin j hj
        split at h
        · cases h
          refine ⟨el, tg, k, its, [], _, rfl, o.calm.trans z1, cIter_ok o (fun e e' he => (hF _ _ _ _ _ he o to).1) e2, ok, fun s H Ca cl fp => cTg_ok (o.blk ok s H Ca cl fp) e1, fun s H Ca cl fp => ?_, fun s H Ca cl fp => (hF _ _ _ _ _ e3 (o.blk ok s H Ca cl fp) TO.blk).1, noSet_ok z2 _, hin⟩
          refine ⟨fun pins s1 σ H1 Q I q => pts_nil.run pins s1 σ H1 Q I ?_⟩
          obtain ⟨B, δ, M, vs, as, hat, hg⟩ := q
          exact hg H1 hat
        · rename_i c
          split at h
          · rename_i c' e4
            cases h
            exact ⟨el, tg, k, its, [c'], _, rfl, o.calm.trans z1, cIter_ok o (fun e e' he => (hF _ _ _ _ _ he o to).1) e2, ok, fun s H Ca cl fp => cTg_ok (o.blk ok s H Ca cl fp) e1, fun s H Ca cl fp => pts_one (hF _ _ _ _ _ e4 (o.blk ok s H Ca cl fp) TO.blk).2.1, fun s H Ca cl fp => (hF _ _ _ _ _ e3 (o.blk ok s H Ca cl fp) TO.blk).1, noSet_ok z2 _, hin⟩
          · cases h
        · cases h
      · cases h
    · cases h
  · cases h
end

/-! ### every expression -/
def cPart (f : Expr → Option E) : Option Expr → Option (Bool × E)
  | none => some (false, .cst .non)
  | some e => (match f e with
    | some e' => some (true, e')
    | none => none)
def cSub (f : Expr → Option E) (a : Expr) : Expr → Option E
  | .Slice lo hi none _ => (match f a, cPart f lo, cPart f hi with
    | some a', some (bl, l'), some (bh, h') => some (.sl bl bh a' l' h')
    | _, _, _ => none)
  | b => if noSlice b then (match f a, f b with
    | some a', some b' => some (.ix a' b')
    | _, _ => none) else none
def cUn (f : Expr → Option E) (o : UnaryOp) (a : Expr) : Option E := match o, f a with
  | .USub, some a' => some (.neg a')
  | .Not, some a' => some (.nt a')
  | _, _ => none
def cBool (f : Expr → Option E) (op : BoolOp) (pos : Pos) : List Expr → Option E
  | [a] => f a
  | a :: b :: r => (match f a, f (.BoolOp op (b :: r) pos) with
    | some a', some b' => (match op with
      | .And => some (.an a' b')
      | .Or => some (.orr a' b'))
    | _, _ => none)
  | [] => none
def cComps (f : Expr → Option E) (a : Expr) : List CmpOp → List Expr → Option E
  | [o], [b] => if behindInMarks o b then none else (match f a, f b with
    | some a', some b' => some (.cmp (cmpI o) a' b')
    | _, _ => none)
  | [o, q], [b, c] => if lastMarks [o, q] [b, c] then none else (match f a, f b, f c with
    | some a', some b', some c' => some (.chn (cmpI o) (cmpI q) a' b' c')
    | _, _, _ => none)
  | _, _ => none
def cBin (f : Expr → Option E) (a : Expr) (o : Operator) (b : Expr) : Option E := match binI o, f a, f b with
  | some o', some a', some b' => some (.bin o' a' b')
  | _, _, _ => none
def cIf (f : Expr → Option E) (t a b : Expr) : Option E := match f t, f a, f b with
  | some t', some a', some b' => some (.ifx t' a' b')
  | _, _, _ => none
def cTup (f : Expr → Option E) (es : List Expr) : Option E := if es.all noStar then (match mapO f es with
  | some es' => some (.tup es')
  | none => none) else none
def cLst (f : Expr → Option E) (es : List Expr) : Option E := if es.all noStar then (match mapO f es with
  | some es' => some (.lst es')
  | none => none) else none
def cLc (l : Lc) (F : Lc → Expr → Option E) (elt : Expr) (gs : List Comprehension) (scope : Scope) : Option E := match gs with
  | [⟨tg, iter, ifs, as⟩] => if as = 0 then cComp l F elt tg iter ifs scope else none
  | _ => none
def compE1 (cc : Cc) (F : Lc → Expr → Option E) (l : Lc) : Expr → Option E
  | .Name x _ => cName cc l x
  | .Constant c _ _ => cConst c
  | .BinOp a o b _ => cBin (F l) a o b
  | .UnaryOp o a _ => cUn (F l) o a
  | .Compare a os bs _ => cComps (F l) a os bs
  | .BoolOp op es pos => cBool (F l) op pos es
  | .IfExp t a b _ => cIf (F l) t a b
  | .Tuple es _ _ => cTup (F l) es
  | .List es _ => cLst (F l) es
  | .Subscript a b _ => cSub (F l) a b
  | .Call fn args kws pos => cCall cc l (F l) fn args kws pos
  | .ListComp elt gs scope _ => cLc l F elt gs scope
  | _ => none
def compE (cc : Cc) : Nat → Lc → Expr → Option E
  | 0 => fun _ _ => none
  | k + 1 => compE1 cc (compE cc k)
section
variable {C : Nat → Addr} {cc : Cc} {p : Prg} {n : Nat} {F : Lc → Expr → Option E}
theorem cPart_ok {X : Cx} {W : WX} {f : Expr → Option E} (hf : Fe X C W p n f) {o : Option Expr} {b : Bool} {e' : E} (h : cPart f o = some (b, e')) : PartF X C W o b (ev ⟨p.run n, p.sub, p.turns⟩ e') := by
  unfold cPart at h
  split at h
  · cases h; exact .none
  · split at h
    · rename_i e1
      cases h
      exact .some (hf _ _ e1)
    · cases h
theorem compE1_ok (hF : FOk C cc p n F) : FOk C cc p n (compE1 cc F) := by
  intro X W l e e' h o to
  have hf : Fe X C W p n (F l) := fun e e' he => (hF _ _ _ _ _ he o to).1
  have ht : ∀ e e', F l e = some e' → PTf X C W e (evT ⟨p.run n, p.sub, p.turns⟩ e') := fun e e' he => (hF _ _ _ _ _ he o to).2.1
  cases e with
  | Name x q =>
    have h : cName cc l x = some e' := h
    refine tri_ev ?_ rfl (cName_ok o h)
    unfold cName at h
    repeat' split at h
    all_goals first
      | (cases h; rfl)
      | cases h
  | Constant c j q =>
    have h : cConst c = some e' := h
    refine tri_ev ?_ rfl (cConst_ok h)
    unfold cConst at h
    repeat' split at h
    all_goals first
      | (cases h; rfl)
      | cases h
  | BinOp a op b q =>
    have h : cBin (F l) a op b = some e' := h
    unfold cBin at h
    split at h
    · rename_i o' a' b' e1 e2 e3
      cases h
      rw [binI_ok e1]
      exact tri_plain rfl rfl (f_bin o' (hf _ _ e2) (hf _ _ e3))
    · cases h
  | UnaryOp op a q =>
    have h : cUn (F l) op a = some e' := h
    unfold cUn at h
    split at h
    · rename_i a' e1 _
      cases h
      exact tri_plain rfl rfl (f_neg (hf _ _ e1))
    · rename_i a' e1 _
      cases h
      exact ⟨f_not (hf _ _ e1), t_not (ht _ _ e1), fun _ _ _ z => nomatch z⟩
    · cases h
  | Compare a os bs q =>
    have h : cComps (F l) a os bs = some e' := h
    unfold cComps at h
    split at h
    · rename_i op b _
      split at h
      · cases h
      · rename_i hm
        split at h
        · rename_i a' b' e1 e2
          cases h
          have hm : behindInMarks (cmpOp (cmpI op)) b = false := by rw [cmpI_ok]; simpa using hm
          have h1 := f_cmp (pos := q) _ o.units (hf _ _ e1) (hf _ _ e2) hm
          have h2 := t_cmp (pos := q) _ o.units (hf _ _ e1) (hf _ _ e2) hm
          rw [cmpI_ok] at h1 h2
          exact ⟨h1, h2, fun _ _ _ z => nomatch z⟩
        · cases h
    · rename_i op q2 b c _
      split at h
      · cases h
      · rename_i hm
        split at h
        · rename_i a' b' c' e1 e2 e3
          cases h
          have hm : lastMarks [cmpOp (cmpI op), cmpOp (cmpI q2)] [b, c] = false := by rw [cmpI_ok, cmpI_ok]; simpa using hm
          have h1 := f_chn (pos := q) _ _ o.units (hf _ _ e1) (hf _ _ e2) (hf _ _ e3) hm
          have h2 := t_chn (pos := q) _ _ o.units (hf _ _ e1) (hf _ _ e2) (hf _ _ e3) hm
          rw [cmpI_ok, cmpI_ok] at h1 h2
          exact ⟨h1, h2, fun _ _ _ z => nomatch z⟩
        · cases h
    · cases h
  | BoolOp op es q =>
    have h : cBool (F l) op q es = some e' := h
    unfold cBool at h
    split at h
    · rename_i a _
      have w : PWf X C W (.BoolOp op [a] q) (evT ⟨p.run n, p.sub, p.turns⟩ e') := by
        cases op with
        | And => exact pw_and1 (pos := q) (ht _ _ h)
        | Or => exact pw_or1 (pos := q) (ht _ _ h)
      exact ⟨f_bool1 (hf _ _ h), w.pt, fun _ _ _ _ => w⟩
    · split at h
      · rename_i a' b' e1 e2
        have w2 := (hF _ _ _ _ _ e2 o to).2.2 _ _ _ rfl
        cases op with
        | And =>
          cases h
          have w := w_an (pos := q) (ht _ _ e1) w2
          exact ⟨f_an (hf _ _ e1) (hf _ _ e2), w.pt, fun _ _ _ _ => w⟩
        | Or =>
          cases h
          have w := w_or (pos := q) (ht _ _ e1) w2
          exact ⟨f_or (hf _ _ e1) (hf _ _ e2), w.pt, fun _ _ _ _ => w⟩
      · cases h
    · cases h
  | IfExp t a b q =>
    have h : cIf (F l) t a b = some e' := h
    unfold cIf at h
    split at h
    · rename_i t' a' b' e1 e2 e3
      cases h
      exact ⟨f_ifx (ht _ _ e1) (hf _ _ e2) (hf _ _ e3), t_ifx (ht _ _ e1) (ht _ _ e2) (ht _ _ e3), fun _ _ _ z => nomatch z⟩
    · cases h
  | Tuple es k q =>
    have h : cTup (F l) es = some e' := h
    unfold cTup at h
    split at h
    · rename_i hs
      split at h
      · rename_i es' e1
        cases h
        exact tri_plain rfl rfl (f_tup (mapO_as hf e1 hs))
      · cases h
    · cases h
  | List es q =>
    have h : cLst (F l) es = some e' := h
    unfold cLst at h
    split at h
    · rename_i hs
      split at h
      · rename_i es' e1
        cases h
        exact tri_plain rfl rfl (f_lst (mapO_as hf e1 hs))
      · cases h
    · cases h
  | Subscript a b q =>
    have h : cSub (F l) a b = some e' := h
    unfold cSub at h
    split at h
    · split at h
      · rename_i a' bl l' bh h' e1 e2 e3
        cases h
        exact tri_plain rfl rfl (f_sl (hf _ _ e1) (cPart_ok hf e2) (cPart_ok hf e3))
      · cases h
    · split at h
      · rename_i hs
        split at h
        · rename_i a' b' e1 e2
          cases h
          exact tri_plain rfl rfl (f_ix (hf _ _ e1) (hf _ _ e2) (plainIx_ok hs))
        · cases h
      · cases h
  | Call fn args kws q =>
    have h : cCall cc l (F l) fn args kws q = some e' := h
    refine tri_ev ?_ rfl (cCall_ok o to hf h)
    unfold cCall at h
    split at h
    · split at h
      · split at h
        · unfold cGlob at h
          split at h
          · split at h
            · split at h
              · unfold cUser at h
                repeat' split at h
                all_goals first
                  | (cases h; rfl)
                  | cases h
              · cases h
            · cases h
          · split at h
            · split at h
              · unfold cIsi at h
                repeat' split at h
                all_goals first
                  | (cases h; rfl)
                  | cases h
              · split at h
                · unfold cBi at h
                  repeat' split at h
                  all_goals first
                    | (cases h; rfl)
                    | cases h
                · split at h
                  · unfold cBi at h
                    repeat' split at h
                    all_goals first
                      | (cases h; rfl)
                      | cases h
                  · cases h
            · cases h
        · cases h
      · unfold cMeth at h
        repeat' split at h
        all_goals first
          | (cases h; rfl)
          | cases h
      · cases h
    · cases h
  | ListComp elt gs scope q =>
    have h : cLc l F elt gs scope = some e' := h
    unfold cLc at h
    split at h
    · split at h
      · rename_i hz
        subst hz
        obtain ⟨el, tg, k, its, ifs', own, rfl, hc, hi, ok, hg, ht, he, hs, hin⟩ := cComp_parts hF o to h
        exact tri_plain rfl rfl (f_comp hc o.nd hi ok hg ht he hs hin)
      · cases h
    · cases h
  | _ => cases h
theorem compE_ok : ∀ k, FOk C cc p n (compE cc k)
  | 0 => fun X W l e e' h => by cases h
  | k + 1 => compE1_ok (compE_ok k)
end
end Mini

set_option Elab.async false
set_option linter.all false
set_option maxRecDepth 100000
/-! Mini 14: from the text to the small language: statements, defs, the whole program. -/
namespace Mini
open PySem PySem.Spec L2

def noComp : Expr → Bool
  | .ListComp .. => false
  | .SetComp .. => false
  | .DictComp .. => false
  | _ => true
theorem noComp_ok {e : Expr} (h : noComp e = true) (t : Option Expr) (line : Nat) (env : Env) : swapsWith e t line env = pure false := by
  cases e <;> first | rfl | cases h
theorem noComp_sole {e : Expr} (h : noComp e = true) (t : Expr) (line : Nat) (env : Env) : swapsWithSole [t] e line env = pure false := noComp_ok h (some t) line env
def noTup : Expr → Bool
  | .Tuple .. => false
  | _ => true
/-- a store that takes the comprehension's list over at once -/
def swC (l : Lc) (x : Str) (q p2 : Pos) (scope : Scope) : Bool := decide (l.kd x = some .local) && (q.line == p2.line) && !(scope.names.any fun (n, k) => n == x && (k == .local || k == .cell))
section
variable {X : Cx} {C : Nat → Addr} {W : WX} {cc : Cc} {p : Prg} {n : Nat} {l : Lc}
theorem sw_one (o : XO X C cc p n l) {x : Str} {q p2 : Pos} {line : Nat} {elt : Expr} {gs : List Comprehension} {scope : Scope} : swapsWith (.ListComp elt gs scope p2) (some (.Name x q)) line X.env = pure (swC l x q p2 scope) := by
  have hb : X.env.blockKind = .function := by unfold Env.blockKind; rw [o.kind]; rfl
  have hk : X.env.kindOf x = l.kd x := by show X.env.scope.names.lookup x = _; rw [o.sc]; rfl
  unfold swapsWith swC
  simp only [hb, hk, Expr.pos]
  have e : (l.kd x == some NameKind.local) = decide (l.kd x = some NameKind.local) := by
    by_cases h : l.kd x = some NameKind.local
    · rw [h]; rfl
    · rw [decide_eq_false h, beq_eq_false_iff_ne]; exact h
  rw [e]
  rfl
end

/-! ### statements -/
def cSet (l : Lc) (F F' : Lc → Expr → Option E) (x : Str) (q : Pos) (e : Expr) : S := if canStore l x then (match ixOf l.N x with
  | some i => if noComp e then (match F l e with
      | some e' => .asg (.one i) e'
      | none => .nev) else (match e with
      | .ListComp elt gs scope p2 => if l.calm then (match cLc l F' elt gs scope with
        | some e' => .asg (.one i) e'
        | none => .nev) else .nev
      | _ => .nev)
  | none => .nev) else .nev
def cAsg (l : Lc) (F F' : Lc → Expr → Option E) (e : Expr) : Expr → S
  | .Name x q => cSet l F F' x q e
  | .Tuple es k q => if noComp e && noTup e then (match cTg l (.Tuple es k q), F l e with
    | some tg, some e' => .asg tg e'
    | _, _ => .nev) else .nev
  | _ => .nev
def augI : Operator → Option Bin
  | .Add => some .add
  | .Sub => some .sub
  | _ => none
def cAug (l : Lc) (F : Lc → Expr → Option E) (o : Operator) (e : Expr) : Expr → S
  | .Name x _ => if canStore l x then (match ixOf l.N x, augI o, F l e with
    | some i, some o', some e' => .aug i o' e'
    | _, _, _ => .nev) else .nev
  | _ => .nev
def cFor (l : Lc) (F : Lc → Expr → Option E) (G : Lc → Stmt → S) (tg iter : Expr) (body : List Stmt) : S := if l.calm && noSet iter then (match cTg l tg, cIter l (F l) iter with
  | some t, some (k, its) => .forS t k its (body.map (G l))
  | _, _ => .nev) else .nev
def cWhile (l : Lc) (F : Lc → Expr → Option E) (G : Lc → Stmt → S) (c : Expr) (body : List Stmt) : S := if l.calm then (match F l c with
  | some c' => .whl c' (body.map (G l))
  | none => .nev) else .nev
def cRaise (cc : Cc) (l : Lc) : Option Expr → S
  | some (.Call (.Name x _) [.Constant (.str _) _ _] [] _) => if l.calm && nm2 x && decide (l.kd x = some .globalImplicit) then (match ixOf cc.excs x with
    | some i => .raise i
    | none => .nev) else .nev
  | _ => .nev
def Lc.quiet (l : Lc) : Lc := ⟨l.N, l.sc, l.fnb, false⟩
def cTry (cc : Cc) (l : Lc) (G : Lc → Stmt → S) (body : List Stmt) : List ExceptHandler → S
  | [.ExceptHandler (some (.Name x _)) none (b₀ :: b) _] => if l.calm && nm2 x && decide (l.kd x = some .globalImplicit) then (match ixOf cc.excs x with
    | some i => .tryS (body.map (G l)) i ((b₀ :: b).map (G l.quiet))
    | none => .nev) else .nev
  | _ => .nev
def cEx (l : Lc) (F : Lc → Expr → Option E) (e : Expr) : S := match e with
  | .Constant (.str _) _ _ => .pass
  | e => if noComp e then (match F l e with
    | some e' => .ex e'
    | none => .nev) else .nev
def compS1 (cc : Cc) (F F' : Lc → Expr → Option E) (G : Lc → Stmt → S) (l : Lc) : Stmt → S
  | .Pass _ => .pass
  | .Break _ => .brk
  | .Continue _ => .cnt
  | .Expr e _ => cEx l F e
  | .Return (some e) _ => (match F l e with
    | some e' => .ret e'
    | none => .nev)
  | .Return none _ => .retN
  | .Assign [tg] e _ => cAsg l F F' e tg
  | .AugAssign tg o e _ => cAug l F o e tg
  | .If c a b _ => (match F l c with
    | some c' => .ifS c' (a.map (G l)) (b.map (G l))
    | none => .nev)
  | .For tg iter body [] _ => cFor l F G tg iter body
  | .While c body [] _ => cWhile l F G c body
  | .Raise e none _ => cRaise cc l e
  | .Try body hs [] [] _ => cTry cc l G body hs
  | _ => .nev
def compS (cc : Cc) (j : Nat) : Nat → Lc → Stmt → S
  | 0 => fun _ _ => .nev
  | k + 1 => compS1 cc (compE cc (j + 1)) (compE cc j) (compS cc j k)
structure SO (X : Cx) (W : WX) : Prop where
  tk : X.calm = true → Takes X W
  ps : X.calm = true → PassesOwn (model X.prog X.w) X.A X.env X.xe
  st : X.calm = true → X.stack = X.env :: X.outer
  fr : X.calm = true → X.env.frame = some X.env.locals
abbrev GOk (C : Nat → Addr) (cc : Cc) (p : Prg) (n : Nat) (G : Lc → Stmt → S) : Prop := ∀ (X : Cx) (W : WX) (l : Lc) (st : Stmt), XO X C cc p n l → SO X W → PSf X C W st (exS ⟨p.run n, p.sub, p.turns⟩ (G l st))
section
variable {C : Nat → Addr} {cc : Cc} {p : Prg} {n : Nat} {F F' : Lc → Expr → Option E} {G : Lc → Stmt → S}
theorem GOk.list (hG : GOk C cc p n G) {X : Cx} {W : WX} {l : Lc} (o : XO X C cc p n l) (so : SO X W) : ∀ sts : List Stmt, PSsf X C W sts (exs ⟨p.run n, p.sub, p.turns⟩ (sts.map (G l)))
  | [] => s_nil
  | st :: r => s_cons (hG X W l st o so) (GOk.list hG o so r)
theorem XO.quiet {X : Cx} {l : Lc} (o : XO X C cc p n l) (a : Addr) (pn : List (Addr × Obj)) : XO (X.suite a pn) C cc p n l.quiet where
  fa := o.fa
  N := o.N
  nd := o.nd
  sc := o.sc
  kind := o.kind
  fn := o.fn
  calm := rfl
  room := fun h => by cases h
  units := o.units
theorem XO.tr {X : Cx} {l : Lc} (o : XO X C cc p n l) (pn : List (Addr × Obj)) (xe : Value → Shared → Prop) : XO (X.tr pn xe) C cc p n l where
  fa := o.fa
  N := o.N
  nd := o.nd
  sc := o.sc
  kind := o.kind
  fn := o.fn
  calm := o.calm
  room := o.room
  units := o.units
theorem cSet_ok (hF : FOk C cc p n F) (hF' : FOk C cc p n F') {X : Cx} {W : WX} {l : Lc} (o : XO X C cc p n l) (so : SO X W) {x : Str} {q pos : Pos} {e : Expr} : PSf X C W (.Assign [.Name x q] e pos) (exS ⟨p.run n, p.sub, p.turns⟩ (cSet l F F' x q e)) := by
  unfold cSet
  split
  · rename_i hs
    obtain ⟨h1, h2⟩ := canStore_ok o hs
    split
    · rename_i i e1
      have hi : X.N[i]? = some x := by rw [o.N]; exact ixOf_ok e1
      split
      · rename_i hn
        split
        · rename_i e' e2
          exact s_setL o.nd hi h1 h2 (hF _ _ _ _ _ e2 o so.tk).1 (noComp_ok hn _ _ _)
        · exact s_nev
      · split
        · rename_i elt gs scope p2 _
          split
          · rename_i hc
            split
            · rename_i e' e2
              unfold cLc at e2
              split at e2
              · split at e2
                · rename_i hz
                  subst hz
                  obtain ⟨el, tg, k, its, ifs', own, rfl, hc, hi2, ok, hg, ht, he, hs2, hin⟩ := cComp_parts hF' o so.tk e2
                  cases hsw : swC l x q p2 scope with
                  | true =>
                    have hl : X.env.scope.names.lookup x = some .local := by
                      rw [o.sc]
                      unfold swC at hsw
                      simp only [Bool.and_eq_true, decide_eq_true_eq] at hsw
                      exact hsw.1.1
                    exact s_setLc hc o.nd hi hl (by rw [sw_one o, hsw]) hi2 ok hg ht he hs2 hin
                  | false =>
                    exact s_setL o.nd hi h1 h2 (f_comp hc o.nd hi2 ok hg ht he hs2 hin) (by rw [sw_one o, hsw])
                · cases e2
              · cases e2
            · exact s_nev
          · exact s_nev
        · exact s_nev
    · exact s_nev
  · exact s_nev
theorem noSw {ts : List Expr} {k : Nat} {q : Pos} {e : Expr} (h : noTup e = true) (env : Env) : swappedStores [.Tuple ts k q] e env = pure none := by
  cases e <;> first | rfl | cases h
theorem cAsg_ok (hF : FOk C cc p n F) (hF' : FOk C cc p n F') {X : Cx} {W : WX} {l : Lc} (o : XO X C cc p n l) (so : SO X W) {tg : Expr} {pos : Pos} {e : Expr} : PSf X C W (.Assign [tg] e pos) (exS ⟨p.run n, p.sub, p.turns⟩ (cAsg l F F' e tg)) := by
  unfold cAsg
  split
  · exact cSet_ok hF hF' o so
  · split
    · rename_i hn
      rw [Bool.and_eq_true_iff] at hn
      split
      · rename_i tg' e' e1 e2
        exact s_asg (hF _ _ _ _ _ e2 o so.tk).1 (cTg_ok o e1) (noComp_sole hn.1 _ _ _) (noSw hn.2 _) rfl
      · exact s_nev
    · exact s_nev
  · exact s_nev
theorem cAug_ok (hF : FOk C cc p n F) {X : Cx} {W : WX} {l : Lc} (o : XO X C cc p n l) (so : SO X W) {tg : Expr} {op : Operator} {pos : Pos} {e : Expr} : PSf X C W (.AugAssign tg op e pos) (exS ⟨p.run n, p.sub, p.turns⟩ (cAug l F op e tg)) := by
  unfold cAug
  split
  · rename_i x q
    split
    · rename_i hs
      obtain ⟨h1, h2⟩ := canStore_ok o hs
      split
      · rename_i i o' e' e1 e2 e3
        have hi : X.N[i]? = some x := by rw [o.N]; exact ixOf_ok e1
        have he := (hF _ _ _ _ _ e3 o so.tk).1
        cases op <;> cases e2
        · exact s_aug (o := .add) (.inl rfl) o.nd hi h1 h2 he
        · exact s_aug (o := .sub) (.inr rfl) o.nd hi h1 h2 he
      · exact s_nev
    · exact s_nev
  · exact s_nev
theorem compS1_ok (hF : FOk C cc p n F) (hF' : FOk C cc p n F') (hG : GOk C cc p n G) : GOk C cc p n (compS1 cc F F' G) := by
  intro X W l st o so
  unfold compS1
  split
  · exact s_pass
  · exact s_brk
  · exact s_cnt
  · unfold cEx
    split
    · exact s_doc
    · split
      · rename_i hn
        split
        · rename_i e' e1
          exact s_expr (hF _ _ _ _ _ e1 o so.tk).1 (noComp_ok hn _ _ _)
        · exact s_nev
      · exact s_nev
  · split
    · rename_i e' e1
      exact s_ret (hF _ _ _ _ _ e1 o so.tk).1
    · exact s_nev
  · exact s_retN
  · exact cAsg_ok hF hF' o so
  · exact cAug_ok hF o so
  · split
    · rename_i c' e1
      exact s_if (hF _ _ _ _ _ e1 o so.tk).2.1 (hG.list o so _) (hG.list o so _)
    · exact s_nev
  · unfold cFor
    split
    · rename_i hc
      rw [Bool.and_eq_true_iff] at hc
      split
      · rename_i t k its e1 e2
        exact s_for (so.ps (o.calm.trans hc.1)) (o.calm.trans hc.1) (cIter_ok o (fun e e' he => (hF _ _ _ _ _ he o so.tk).1) e2) (cTg_ok o e1) (hG.list o so _) (noSet_ok hc.2 _)
      · exact s_nev
    · exact s_nev
  · unfold cWhile
    split
    · rename_i hc
      split
      · rename_i c' e1
        exact s_whl (so.ps (o.calm.trans hc)) (hF _ _ _ _ _ e1 o so.tk).2.1 (hG.list o so _)
      · exact s_nev
    · exact s_nev
  · unfold cRaise
    split
    · split
      · rename_i hc
        simp only [Bool.and_eq_true, decide_eq_true_eq] at hc
        obtain ⟨⟨c1, c2⟩, c3⟩ := hc
        split
        · rename_i i e1
          obtain ⟨h1, h2⟩ := o.fa.exc _ _ (ixOf_ok e1)
          exact s_raise (o.calm.trans c1) (so.tk (o.calm.trans c1)) (h2 X rfl rfl (o.gl c3) _ _ _ _ _)
        · exact s_nev
      · exact s_nev
    · exact s_nev
  · unfold cTry
    split
    · split
      · rename_i hc
        simp only [Bool.and_eq_true, decide_eq_true_eq] at hc
        obtain ⟨⟨c1, c2⟩, c3⟩ := hc
        have hc := o.calm.trans c1
        split
        · rename_i i e1
          obtain ⟨h1, h2⟩ := o.fa.exc _ _ (ixOf_ok e1)
          refine s_try (fun j => o.fa.sub j i) (so.st hc) (so.fr hc) ⟨o.gl c3, (nm2_ok c2).1, .inl h1⟩ (so.tk hc) (fun W2 pn xe tk ps => hG.list (o.tr pn xe) ⟨fun _ => tk, fun _ => ps, so.st, so.fr⟩ _) fun ad pn => hG.list (o.quiet ad pn) ⟨(fun z => by cases z), (fun z => by cases z), (fun z => by cases z), (fun z => by cases z)⟩ _
        · exact s_nev
      · exact s_nev
    · exact s_nev
  · exact s_nev
theorem compS_ok (j : Nat) : ∀ k, GOk C cc p n (compS cc j k)
  | 0 => fun X W l st o so => s_nev
  | k + 1 => compS1_ok (compE_ok (j + 1)) (compE_ok j) (compS_ok j k)
end

/-! ### defs -/
def compF (cc : Cc) (j k : Nat) (N : List Str) (scope : Scope) (body : List Stmt) : Fn := ⟨N.length, body.map (compS cc j k ⟨N, scope, fun _ => true, true⟩)⟩
theorem al_start {K : Fg} {F : Hp} {own : List Addr} {vs : List V} {as : List A} (h : Al (RelA K F own) vs as) (m : Nat) : Al (RelS K F own) (vs.map some ++ List.replicate m none) (as ++ List.replicate m .un) := by
  refine Al.append ?_ ?_
  · clear m
    induction h with
    | nil => exact .nil
    | cons r _ ih => exact .cons (.inr ⟨_, rfl, r⟩) ih
  · induction m with
    | zero => exact .nil
    | succ m ih => exact .cons (.inl rfl) ih
section
variable {P : Program} {w : World} {K : Fg} {mg : Str → Option Value} {base : Heap} {C : Nat → Addr} {cc : Cc} {p : Prg} {n : Nat}
theorem fn_ok (fa : Fa P w K mg base C cc p n) {i j k : Nat} {x qual : Str} {params : Arguments} {body : List Stmt} {scope : Scope} {dvs : List V} {kws : List (Str × V)} {f : Addr} {fd : FuncData} {N ps : List Str} (D : FunD K x qual params body scope dvs kws f fd) (SC : FnScope N ps scope)
    (hp : p.fns[i]? = some (compF cc j k N scope body)) : FnOk P w K mg base (L2.CX P w) (n + 1) f fd ps (Phi K C ps.length (p.run (n + 1) i)) := by
  refine D.ok SC (fun vs H Q E h => h.len) fun cdv A outer s H vs Q E hr h => ?_
  have o : XO (cxOf (L2.CX P w) P w K mg base N qual scope f cdv A outer s H E) C cc p n ⟨N, scope, fun _ => true, true⟩ := ⟨fa, rfl, SC.nd, rfl, SC.kind, fun _ => rfl, rfl, fun _ => hr, hr.units⟩
  have so : SO (cxOf (L2.CX P w) P w K mg base N qual scope f cdv A outer s H E) (fun cls d _ H => E cls d H) := ⟨fun _ => takes_of rfl rfl rfl rfl, fun _ => passes_of rfl, fun _ => rfl, fun _ => rfl⟩
  refine ⟨_, (compS_ok j k).list o so body, ?_⟩
  obtain ⟨F, own, M, as, hl, c, ha, hm⟩ := h
  have hlv : vs.length = ps.length := by rw [ha.length, hl]
  refine ⟨⟨F, H, own⟩, as ++ List.replicate (N.length - as.length) .un, M, [], [], ⟨F, own, c, ?_, .nil⟩, ?_⟩
  · have e : vs.length = as.length := ha.length
    unfold L2.start
    rw [e]
    exact al_start ha _
  · have hm : (match (match p.fns[i]? with
      | some fn => fn.go ⟨p.run n, p.sub, p.turns⟩ as M
      | none => .no) with
      | .ok a M' => ∀ v H', At K ⟨F, H, own⟩ [] H' [] M' [v] [a] → Q v H'
      | .ex x M' => ∀ cls d H', ExR C x cls d H' → At K ⟨F, H, own⟩ [] H' [] M' [] [] → E cls d H'
      | .no => False) := hm
    rw [hp] at hm
    simp only [Fn.go, compF] at hm
    have drop : ∀ {σ δ H' M' vs' as'}, At K ⟨F, H, own⟩ σ H' δ M' vs' as' → At K ⟨F, H, own⟩ [] H' [] M' vs' as' := fun ⟨F', ow, c', _, hv⟩ => ⟨F', ow, c', .nil, hv⟩
    generalize exs ⟨p.run n, p.sub, p.turns⟩ (body.map (compS cc j k ⟨N, scope, fun _ => true, true⟩)) (as ++ List.replicate (N.length - as.length) .un) M = r at hm
    cases r with
    | nx δ1 M1 => exact fun σ1 H1 hat => hm _ _ (drop (at_sc hat))
    | rt a M1 => exact fun v σ1 H1 δ1 hat => hm _ _ (drop hat)
    | ex y δ1 M1 => exact fun cls d σ1 H1 hx hat => hm _ _ _ hx (drop hat)
    | bk δ1 M1 => exact hm.elim
    | ct δ1 M1 => exact hm.elim
    | no => exact hm.elim
/-- what stands in the heap of every def, whatever the depth -/
structure Defs (P : Program) (w : World) (K : Fg) (mg : Str → Option Value) (base : Heap) (C : Nat → Addr) (cc : Cc) (p : Prg) (j k : Nat) : Prop where
  fns : ∀ i x np, cc.fns[i]? = some (x, np) → ∃ (fa : Addr) (fd : FuncData) (N ps : List Str) (qual : Str) (params : Arguments) (body : List Stmt) (scope : Scope) (dvs : List V) (kws : List (Str × V)), FunD K x qual params body scope dvs kws fa fd ∧ FnScope N ps scope ∧ ps.length = np ∧
    p.fns[i]? = some (compF cc j k N scope body) ∧ mg x = some (.ref fa) ∧ ∀ m ks pl, (i, m, ks, pl) ∈ cc.shapes → BindG K fd ps m ks pl
  nums : ∀ x i, (x, i) ∈ cc.nums → ∃ u, mg x = some u ∧ RelV (.int i) u
  blt : ∀ x ∈ bNames, mg x = none
  combs : ∀ x ∈ cc.combs, mg x = some (.builtin "math.comb")
  exc : ∀ i x, cc.excs[i]? = some x → mg x = some (.ref (C i)) ∧ ∀ X : Cx, X.K = K → X.mg = mg → Gl X x → ∀ (m : Str) (j : Nat) (p p2 pos : Pos), PMk X (.Call (.Name x p) [.Constant (.str m) j p2] [] pos) (fun _ H Q => Q (.ref (C i)) none H)
  sub : ∀ i j, PySem.W.exmOne K (.ref (C i)) (.ref (C j)) = some (p.sub i j)
theorem Defs.fa (D : Defs P w K mg base C cc p j k) : ∀ n, Fa P w K mg base C cc p n
  | 0 => by
    refine ⟨fun i x np h => ?_, D.nums, D.blt, D.combs, D.exc, D.sub⟩
    obtain ⟨fa, fd, N, ps, qual, params, body, scope, dvs, kws, h1, h2, h3, h4, h5, h6⟩ := D.fns i x np h
    refine ⟨fa, fd, ps, ⟨fun vs H Q E z => ?_, fun A outer s H args us vs Q E hr he hb hv hs => ?_⟩, h5, h1.kp, h6⟩
    · rw [z.len, h3]
    · obtain ⟨F, own, M, as, hl, c, ha, hm⟩ := hs
      exact hm.elim
  | n + 1 => by
    refine ⟨fun i x np h => ?_, D.nums, D.blt, D.combs, D.exc, D.sub⟩
    obtain ⟨fa, fd, N, ps, qual, params, body, scope, dvs, kws, h1, h2, h3, h4, h5, h6⟩ := D.fns i x np h
    refine ⟨fa, fd, ps, ?_, h5, h1.kp, h6⟩
    have := fn_ok (Defs.fa D n) h1 h2 h4
    rw [h3] at this
    exact this
end
end Mini

set_option Elab.async false
set_option linter.all false
set_option maxRecDepth 100000
set_option maxHeartbeats 2000000
/-! Mini 15: the head with facts, how defs bind, the walk's end. -/
namespace Mini
open PySem PySem.Spec PyProof.Rows L2

/-! ### the Hook: He's, with built-in functions that the module's names stand for -/
abbrev AlM : Type := He.AlD × Bool
def blB (bs : List (Str × String)) (K : Fg) : Bool := bs.all fun q => He.eqO (PySem.W.nsIn K mainGlobals q.1) (some (some (.builtin q.2)))
def obsM (fa : List He.Fa) (fn : List He.DefD) (bs : List (Str × String)) (K : Fg) : AlM := (He.obsD fa fn K, blB bs K)
def obsMG (n : Nat) (fa : List He.Fa) (fn : List He.DefD) (bs : List (Str × String)) (g : Addr → Option Obj) : AlM := obsM fa fn bs (He.frG g (He.asD g n))
def SaysM (fa : List He.Fa) (fn : List He.DefD) (bs : List (Str × String)) (K : Fg) : Prop := obsM fa fn bs K = (He.valD fn, true)
def hookM (n : Nat) (fa : List He.Fa) (fn : List He.DefD) (bs : List (Str × String)) : PySem.W.Hook where
  α := AlM
  obs := fun s => obsMG n fa fn bs s.heap.get?
  val := fun _ => (He.valD fn, true)
  says := fun _ h => ∃ K : Fg, K.In h ∧ SaysM fa fn bs K
  of := fun _ _ e => ⟨_, He.frG_in, e⟩
  keeps := fun _ _ _ ⟨K, hK, c⟩ k => ⟨K, PySem.W.Frag.In.keeps hK k, c⟩
theorem obsMG_eq {n : Nat} {fa : List He.Fa} {fn : List He.DefD} {bs : List (Str × String)} {g : Addr → Option Obj} {s : Shared} (h : ∀ a, g a = s.heap.get? a) : obsMG n fa fn bs g = (hookM n fa fn bs).obs s := by
  have e : g = s.heap.get? := funext h
  rw [e] <;> rfl
section
variable {fa : List He.Fa} {fn : List He.DefD} {bs : List (Str × String)} {K : Fg}
theorem SaysM.d (c : SaysM fa fn bs K) : He.SaysD fa fn K := congrArg (fun z : AlM => z.1) c
theorem SaysM.bl (c : SaysM fa fn bs K) {x : Str} {id : String} (h : (x, id) ∈ bs) {hp : Heap} {mg : Str → Option Value} (X : K.In hp) (G : hp.Ns mainGlobals mg) : mg x = some (.builtin id) := by
  have e : blB bs K = true := congrArg (fun z : AlM => z.2) c
  exact PySem.W.mg_of X G (He.eqO_ok (List.all_eq_true.mp e _ h))
theorem SaysM.mem (c : SaysM fa fn bs K) {f : He.Fa} (h : f ∈ fa) : f.ok K = true := by
  have c1 := (He.ba (show ((fa.all fun f => f.ok K) && fn.all fun d => d.ok K) = true from congrArg (fun z : He.AlD => z.1) c.d)).1
  exact List.all_eq_true.mp c1 f h
end

/-! ### how defs bind -/
section
variable {K : Fg} {x qual : Str} {params : Arguments} {body : List Stmt} {scope : Scope} {dvs : List V} {kws : List (Str × V)} {f : Addr} {fd : FuncData} {ps : List Str}
def cB : D → Value
  | .bl b => .bool b
  | _ => .none
theorem bg_plain (F : FunD K x qual params body scope [] kws f fd) {m : Nat} (hm : ps.length = m)
    (h : ∀ (kV doc pm : Value) (an : Option Addr) (cdv ct : Value) (us : List Value), us.length = m → bindArgs (PySem.W.fnOf x qual params body scope .none kV doc pm an cdv ct) ⟨us, []⟩ = pure (ps.zip us)) : BindG K fd ps m [] [] := by
  obtain ⟨oc, od, dV, kV, doc, pm, an, cdv, ct, osl, rfl, lk, hcd, hD, hK⟩ := F.ex
  rcases hD with ⟨_, rfl⟩ | ⟨e, _⟩
  · refine ⟨cB, rfl, fun x hx => by simp at hx, fun s us ws X l1 l2 => ?_⟩
    have e : ws = [] := List.length_eq_zero_iff.mp l2
    subst e
    rw [List.append_nil]
    exact .of_eq (h kV doc pm an cdv ct us l1)
  · exact absurd rfl e
/-- positional values and keywords, all given -/
theorem bg_kw (F : FunD K x qual params body scope [] kws f fd) {m : Nat} {ks : List Str} {pl : List Pl} (hpl : ∀ y, Pl.cst y ∉ pl)
    (h : ∀ (kV doc pm : Value) (an : Option Addr) (cdv ct : Value) (us ws : List Value), us.length = m → ws.length = ks.length → bindArgs (PySem.W.fnOf x qual params body scope .none kV doc pm an cdv ct) ⟨us, ks.zip ws⟩ = pure (ps.zip (fill cB pl (us ++ ws)))) : BindG K fd ps m ks pl := by
  obtain ⟨oc, od, dV, kV, doc, pm, an, cdv, ct, osl, rfl, lk, hcd, hD, hK⟩ := F.ex
  rcases hD with ⟨_, rfl⟩ | ⟨e, _⟩
  · exact ⟨cB, rfl, fun y hy => absurd hy (hpl y), fun s us ws X l1 l2 => .of_eq (h kV doc pm an cdv ct us ws l1 l2)⟩
  · exact absurd rfl e
/-- one keyword-only parameter lacks: its default is a truth value -/
theorem bg_dfl {y : Str} {b : Bool} (F : FunD K x qual params body scope [] [(y, .bl b)] f fd) {m : Nat} {pl : List Pl} (hpl : ∀ z, Pl.cst z ∈ pl → z = .bl b) (hf : ∀ us : List Value, us.length = m → fill cB pl us = us ++ [.bool b])
    (h : ∀ (D : Addr) (doc pm : Value) (an : Option Addr) (cdv ct : Value) (us : List Value), us.length = m → KwChain D [(y, .bool b)] (bindArgs (PySem.W.fnOf x qual params body scope .none (.ref D) doc pm an cdv ct) ⟨us, []⟩) (ps.zip (us ++ [.bool b]))) : BindG K fd ps m [] pl := by
  obtain ⟨oc, od, dV, kV, doc, pm, an, cdv, ct, osl, rfl, lk, hcd, hD, hK⟩ := F.ex
  rcases hD with ⟨_, rfl⟩ | ⟨e, _⟩
  · rcases hK with e | ⟨D, rfl, hq⟩
    · cases e
    · obtain ⟨u, h1, h2⟩ := hq _ List.mem_cons_self
      have e : u = .bool b := h2
      subst e
      refine ⟨cB, rfl, fun z hz => ?_, fun s us ws X l1 l2 => ?_⟩
      · have := hpl z hz
        subst this
        exact ⟨.bl b, rfl, rfl⟩
      · have e : ws = [] := List.length_eq_zero_iff.mp l2
        subst e
        rw [List.append_nil, hf us l1]
        exact BindsTo.of_looks fun M => KwChain.looks X (fun q hq => by rw [List.mem_singleton.mp hq]; exact h1) (h D doc pm an cdv ct us l1)
  · exact absurd rfl e
end

def shp (ss : List (Nat × Nat × List Str × List Pl)) (i : Nat) : List (Nat × List Str × List Pl) := ss.filterMap fun s => if s.1 = i then some s.2 else none
theorem mem_shp {ss : List (Nat × Nat × List Str × List Pl)} {i m : Nat} {ks : List Str} {pl : List Pl} (h : (i, m, ks, pl) ∈ ss) : (m, ks, pl) ∈ shp ss i := List.mem_filterMap.mpr ⟨_, h, if_pos rfl⟩

/-! ### the law's own def -/
theorem reps_ints {K : Fg} {F : Hp} : ∀ ns : List Int, Reps K F (ns.map V.int) (ns.map D.int)
  | [] => .nil
  | n :: r => .cons (.int n) (reps_ints r)
theorem law_phi {K : Fg} {C : Nat → Addr} {run : List A → List O → R A} {H : Hp} {a : Addr} {ns : List Int} (hS : SqL K H a (ns.map V.int)) (h : ∃ M, run [.d (.rol (ns.map .int))] [] = .ok (.d (.bl true)) M) : Phi K C 1 run [.ref a] H (fun v _ => v = .bl true) (fun _ _ _ => False) := by
  obtain ⟨M, h⟩ := h
  refine ⟨H, [], [], [.d (.rol (ns.map .int))], rfl, core_nil (Same.refl H), .cons (show Rep K H (.ref a) (.rol (ns.map .int)) from .rol hS (reps_ints ns)) .nil, ?_⟩
  rw [h]
  intro v H' hat
  obtain ⟨F, own, c, _, hv⟩ := hat
  cases hv with
  | cons r _ => exact bl_of r
theorem cx_none {P : Program} {w : World} (H : Hp) (s : Shared) (e : Value) (s' : Shared) : L2.CX P w [] H s (fun _ _ _ => False) e s' → False := by
  intro h
  obtain ⟨a, B, H', cls, d, _, _, _, _, _, _, _, z⟩ := h
  exact z
/-- the walk's end, errors as the world has them -/
theorem walk_M {l : PySem.W.OpenLaw} {n k : Nat} {q : Program} {loose : List Str} {XP : (Str → Option Value) → Heap → Prop} {YP : World → Heap → Prop} {d : DefRec} {x : Str}
    (hn : l.most = some n) (hn2 : n ≤ sizeLine) (hdf : d.params.defaults = []) (hr : Room k callerA)
    (F : ∀ (w : World) (mg : Str → Option Value) (fa : Addr) (h : Heap), YP w h → h.Ns mainGlobals mg → mg d.name = some (.ref fa) →
      ∃ (K : Fg) (fd : FuncData) (sp : Sp), K.In h ∧ (∀ (s : Shared) (u : Value), BindsTo s fd ⟨[u], []⟩ [(x, u)]) ∧
        (∀ (H : Hp) (a : Addr) (ns : List Int), ns.length ≤ n → SqL K H a (ns.map V.int) → sp [.ref a] H (fun v _ => v = .bl true) fun _ _ _ => False) ∧
        ∀ base : Heap, K.In base → base.Ns mainGlobals mg → FnOk l.prog w K mg base (L2.CX l.prog w) k fa fd [x] sp) :
    PySem.W.WalkO q loose XP YP l.row.toRowW d [] (fun f vs => PySem.call f vs) := by
  refine Att.attach_call hn hdf fun w s₀ s₁ mg mb fa o pm cd doc a vs ns G Y ho hd hcd hmg hobj hints hlen hg => ?_
  obtain ⟨K, fd, sp, KX, hb, hsp, hF⟩ := F w mg fa _ Y G.T.g hmg
  exact law_call KX G.T.g G.T.b G.T.builtins G.T.nolimit hg hobj hints (Nat.le_trans hlen hn2) hr hF hb (fun H hO hS => hsp H a ns hlen hS) fun H e s' => cx_none H s₁ e s'
/-- a class of the module: what raising it asks -/
theorem exc_mk {K : Fg} {mg : Str → Option Value} {h : Heap} (X : K.In h) (G : h.Ns mainGlobals mg) {x : Str} (c1 : (He.Fa.glo x).ok K = true) (c2 : (He.Fa.exc x).ok K = true) (hn : (x == ("__debug__" : Str)) = false) : mg x = some (.ref (He.ga K x)) ∧
    ∀ X : Cx, X.K = K → X.mg = mg → Gl X x → ∀ (m : Str) (j : Nat) (p p2 pos : Pos), PMk X (.Call (.Name x p) [.Constant (.str m) j p2] [] pos) (fun _ H Q => Q (.ref (He.ga K x)) none H) := by
  have hm := He.glo_ok X G c1
  refine ⟨hm, fun X hK hmg hg m j p p2 pos => ?_⟩
  subst hK hmg
  obtain ⟨e1, e2, e3, e4⟩ := He.exc_ok c2
  exact pmk_own PySem.F.excBase_ValueError e1 hm e2 (raises_own e3 e4) hg hn
end Mini

set_option Elab.async false
set_option linter.all false
set_option maxRecDepth 100000
set_option maxHeartbeats 0
namespace K85hd
open PySem PySem.Spec PyProof.Rows L2 Mini
abbrev PR : Program := PySem.Challenge.pw_kindstellterms_k85_whole_numbers_of_plai
def top (i : Nat) : Stmt := PR.main.body.getD i (.Pass ⟨0, 0, 0, 0⟩)

def D0 : He.DefD := ⟨("check_counted", none), "check_counted", "check_counted", defArgs (top 7), defBody (top 7), defScope (top 7), [], []⟩
def N0 : List Str := ["nodes", "names"]
def D1 : He.DefD := ⟨("count_entry", none), "count_entry", "count_entry", defArgs (top 8), defBody (top 8), defScope (top 8), [], []⟩
def N1 : List Str := ["row", "names"]
def D2 : He.DefD := ⟨("next_count", none), "next_count", "next_count", defArgs (top 9), defBody (top 9), defScope (top 9), [], []⟩
def N2 : List Str := ["rows", "names", "flat", "nodes", "total", "left", "rights", "chosen", "both"]
def D3 : He.DefD := ⟨("counted_rows", none), "counted_rows", "counted_rows", defArgs (top 10), defBody (top 10), defScope (top 10), [], [("flat", .bl false)]⟩
def N3 : List Str := ["nodes", "flat", "rows", "names"]
def D4 : He.DefD := ⟨("count_terms", none), "count_terms", "count_terms", defArgs (top 11), defBody (top 11), defScope (top 11), [], []⟩
def N4 : List Str := ["nodes", "names"]
def D5 : He.DefD := ⟨("count_flat", none), "count_flat", "count_flat", defArgs (top 12), defBody (top 12), defScope (top 12), [], []⟩
def N5 : List Str := ["nodes", "names"]
def D6 : He.DefD := ⟨("headed_count", none), "headed_count", "headed_count", defArgs (top 14), defBody (top 14), defScope (top 14), [], []⟩
def N6 : List Str := ["rows", "headed", "names", "flat", "nodes", "total", "left", "rights", "chosen", "both"]
def D7 : He.DefD := ⟨("plain_rows", none), "plain_rows", "plain_rows", defArgs (top 15), defBody (top 15), defScope (top 15), [], [("flat", .bl false)]⟩
def N7 : List Str := ["nodes", "flat", "rows", "headed", "width", "applies", "names"]
def D8 : He.DefD := ⟨("count_plain", none), "count_plain", "count_plain", defArgs (top 16), defBody (top 16), defScope (top 16), [], []⟩
def N8 : List Str := ["nodes", "names"]
def D9 : He.DefD := ⟨("count_plain_flat", none), "count_plain_flat", "count_plain_flat", defArgs (top 17), defBody (top 17), defScope (top 17), [], []⟩
def N9 : List Str := ["nodes", "names"]
def D10 : He.DefD := ⟨("plain_table", none), "plain_table", "plain_table", defArgs (top 18), defBody (top 18), defScope (top 18), [], []⟩
def N10 : List Str := ["nodes", "names", "rows", "row", "many"]
def D11 : He.DefD := ⟨("_law_cell", none), "_law_cell", "_law_cell", defArgs (top 20), defBody (top 20), defScope (top 20), [], []⟩
def N11 : List Str := ["script", "k"]
def D12 : He.DefD := ⟨("_law_same", none), "_law_same", "_law_same", defArgs (top 21), defBody (top 21), defScope (top 21), [], []⟩
def N12 : List Str := ["told", "due", "k", "key"]
def D13 : He.DefD := ⟨("_law_choose", none), "_law_choose", "_law_choose", defArgs (top 22), defBody (top 22), defScope (top 22), [], []⟩
def N13 : List Str := ["many", "chosen", "found", "k"]
def D14 : He.DefD := ⟨("_law_plain_rows", none), "_law_plain_rows", "_law_plain_rows", defArgs (top 23), defBody (top 23), defScope (top 23), [], []⟩
def N14 : List Str := ["nodes", "flat", "rows", "heads", "count", "row", "head", "names", "total", "left", "chosen", "both"]
def D15 : He.DefD := ⟨("_law_refused", none), "_law_refused", "_law_refused", defArgs (top 24), defBody (top 24), defScope (top 24), [], []⟩
def N15 : List Str := ["which", "nodes", "names"]
def D16 : He.DefD := ⟨("_law_maps", none), "_law_maps", "_law_maps", defArgs (top 25), defBody (top 25), defScope (top 25), [], []⟩
def N16 : List Str := ["edges", "found", "k"]
def D17 : He.DefD := ⟨("_law_entry", none), "_law_entry", "_law_entry", defArgs (top 26), defBody (top 26), defScope (top 26), [], []⟩
def N17 : List Str := ["row", "names"]
def D18 : He.DefD := ⟨("law", none), "law", "law", defArgs (top 27), defBody (top 27), defScope (top 27), [], []⟩
def N18 : List Str := ["script", "nodes", "names", "rows", "flat", "plain", "nested", "due", "row", "line", "k", "edges", "beyond", "which"]
def fnl : List He.DefD := [D0, D1, D2, D3, D4, D5, D6, D7, D8, D9, D10, D11, D12, D13, D14, D15, D16, D17, D18]
def fal0 : List He.Fa := [.glo "check_counted", .glo "count_entry", .glo "next_count", .glo "counted_rows", .glo "count_terms", .glo "count_flat", .glo "headed_count", .glo "plain_rows", .glo "count_plain", .glo "count_plain_flat", .glo "plain_table", .glo "_law_cell", .glo "_law_same", .glo "_law_choose", .glo "_law_plain_rows", .glo "_law_refused", .glo "_law_maps", .glo "_law_entry", .glo "law", .free "len", .free "int", .free "str", .free "abs", .free "max", .free "min", .free "list", .free "tuple", .free "range", .free "isinstance", .free "bool"]
def fal1 : List He.Fa := [.free "dict", .int "MOST_COUNTED" 20, .int "MOST_NAMED" 21, .glo "OutOfRange", .exc "OutOfRange", .exm "OutOfRange" "OutOfRange" true]
def fal : List He.Fa := fal0 ++ fal1
def bsl : List (Str × String) := [("comb", "math.comb")]
def cc : Cc where
  fns := [("check_counted", 2), ("count_entry", 2), ("next_count", 3), ("counted_rows", 2), ("count_terms", 2), ("count_flat", 2), ("headed_count", 4), ("plain_rows", 2), ("count_plain", 2), ("count_plain_flat", 2), ("plain_table", 2), ("_law_cell", 2), ("_law_same", 2), ("_law_choose", 2), ("_law_plain_rows", 2), ("_law_refused", 3), ("_law_maps", 1), ("_law_entry", 2), ("law", 1)]
  shapes := [(0, 2, [], []), (1, 2, [], []), (2, 3, [], []), (3, 1, [], [.arg 0, .cst (.bl false)]), (3, 1, ["flat"], []), (4, 2, [], []), (5, 2, [], []), (6, 4, [], []), (7, 1, [], [.arg 0, .cst (.bl false)]), (7, 1, ["flat"], []), (8, 2, [], []), (9, 2, [], []), (10, 2, [], []), (11, 2, [], []), (12, 2, [], []), (13, 2, [], []), (14, 2, [], []), (15, 3, [], []), (16, 1, [], []), (17, 2, [], [])]
  nums := [("MOST_COUNTED", 20), ("MOST_NAMED", 21)]
  excs := ["OutOfRange"]
  combs := ["comb"]
  muts := []
def subT (i j : Nat) : Bool := (([[true]] : List (List Bool)).getD (if i < 1 then i else 0) []).getD (if j < 1 then j else 0) false
def prgC : Prg := ⟨[compF cc 40 40 N0 D0.scope D0.body, compF cc 40 40 N1 D1.scope D1.body, compF cc 40 40 N2 D2.scope D2.body, compF cc 40 40 N3 D3.scope D3.body, compF cc 40 40 N4 D4.scope D4.body, compF cc 40 40 N5 D5.scope D5.body, compF cc 40 40 N6 D6.scope D6.body, compF cc 40 40 N7 D7.scope D7.body, compF cc 40 40 N8 D8.scope D8.body, compF cc 40 40 N9 D9.scope D9.body, compF cc 40 40 N10 D10.scope D10.body, compF cc 40 40 N11 D11.scope D11.body, compF cc 40 40 N12 D12.scope D12.body, compF cc 40 40 N13 D13.scope D13.body, compF cc 40 40 N14 D14.scope D14.body, compF cc 40 40 N15 D15.scope D15.body, compF cc 40 40 N16 D16.scope D16.body, compF cc 40 40 N17 D17.scope D17.body, compF cc 40 40 N18 D18.scope D18.body], subT, 200⟩
def B0 : List S :=
      [Mini.S.ifS
          ((Mini.E.chn Mini.Cmp.le Mini.Cmp.le (Mini.E.cst (Mini.D.int (Int.ofNat 0))) (Mini.E.var 0)
                  (Mini.E.cst (Mini.D.int (Int.ofNat 20)))).nt.orr
            (Mini.E.chn Mini.Cmp.le Mini.Cmp.le (Mini.E.cst (Mini.D.int (Int.ofNat 0))) (Mini.E.var 1)
                (Mini.E.cst (Mini.D.int (Int.ofNat 21)))).nt)
          [Mini.S.raise 0] []]
def F0 : Fn := ⟨2, B0⟩
def B1 : List S :=
      [Mini.S.ret
          ((Mini.E.cmp Mini.Cmp.lt (Mini.E.var 1) (Mini.E.bi Mini.Bi.len [Mini.E.var 0])).ifx
            ((Mini.E.var 0).ix (Mini.E.var 1)) (Mini.E.cst (Mini.D.int (Int.ofNat 0))))]
def F1 : Fn := ⟨2, B1⟩
def B2 : List S :=
      [Mini.S.asg (Mini.Tg.one 3) (Mini.E.bi Mini.Bi.len [Mini.E.var 0]),
        Mini.S.asg (Mini.Tg.one 4)
          (Mini.E.call 1
            [(Mini.E.var 0).ix (Mini.E.cst (Mini.D.int (Int.ofNat 1))).neg,
              Mini.E.bin Mini.Bin.add (Mini.E.var 1) (Mini.E.cst (Mini.D.int (Int.ofNat 1)))]
            [] []),
        Mini.S.forS (Mini.Tg.one 5) Mini.IK.r1 [Mini.E.var 3]
          [Mini.S.asg (Mini.Tg.one 6)
              ((Mini.E.var 0).ix
                (Mini.E.bin Mini.Bin.sub
                  (Mini.E.bin Mini.Bin.sub (Mini.E.var 3) (Mini.E.cst (Mini.D.int (Int.ofNat 1)))) (Mini.E.var 5))),
            Mini.S.forS (Mini.Tg.one 7) Mini.IK.r2
              [Mini.E.bi Mini.Bi.max
                  [Mini.E.cst (Mini.D.int (Int.ofNat 0)),
                    Mini.E.bin Mini.Bin.sub
                      (Mini.E.bin Mini.Bin.add (Mini.E.var 1) (Mini.E.cst (Mini.D.int (Int.ofNat 1))))
                      (Mini.E.bi Mini.Bi.len [Mini.E.var 6])],
                Mini.E.bi Mini.Bi.min
                  [Mini.E.bin Mini.Bin.add (Mini.E.var 1) (Mini.E.cst (Mini.D.int (Int.ofNat 1))),
                    Mini.E.bi Mini.Bi.len [(Mini.E.var 0).ix (Mini.E.var 5)]]]
              [Mini.S.asg (Mini.Tg.one 8)
                  (Mini.E.bin Mini.Bin.mul (((Mini.E.var 0).ix (Mini.E.var 5)).ix (Mini.E.var 7))
                    ((Mini.E.var 6).ix (Mini.E.bin Mini.Bin.sub (Mini.E.var 1) (Mini.E.var 7)))),
                Mini.S.aug 4 Mini.Bin.add
                  ((Mini.E.var 2).ifx (Mini.E.var 8)
                    (Mini.E.bin Mini.Bin.mul (Mini.E.bi Mini.Bi.comb [Mini.E.var 1, Mini.E.var 7]) (Mini.E.var 8)))]],
        Mini.S.ret (Mini.E.var 4)]
def F2 : Fn := ⟨9, B2⟩
def B3 : List S :=
      [Mini.S.asg (Mini.Tg.one 2)
          (Mini.E.lst [Mini.E.lst [Mini.E.cst (Mini.D.int (Int.ofNat 0)), Mini.E.cst (Mini.D.int (Int.ofNat 1))]]),
        Mini.S.whl (Mini.E.cmp Mini.Cmp.le (Mini.E.bi Mini.Bi.len [Mini.E.var 2]) (Mini.E.var 0))
          [Mini.S.ex
              (Mini.E.mt Mini.Mt.append (Mini.E.var 2)
                [(Mini.E.call 2 [Mini.E.var 2, Mini.E.var 3, Mini.E.var 1] [] []).comp (Mini.Tg.one 3) Mini.IK.r1
                    [Mini.E.bin Mini.Bin.add (Mini.E.bi Mini.Bi.len [Mini.E.var 2])
                        (Mini.E.cst (Mini.D.int (Int.ofNat 2)))]
                    [] [3]])],
        Mini.S.ret (Mini.E.var 2)]
def F3 : Fn := ⟨4, B3⟩
def B4 : List S :=
      [Mini.S.ex (Mini.E.call 0 [Mini.E.var 0, Mini.E.var 1] [] []),
        Mini.S.ret
          (Mini.E.call 1
            [(Mini.E.call 3 [Mini.E.var 0] [] [Mini.Pl.arg 0, Mini.Pl.cst (Mini.D.bl false)]).ix (Mini.E.var 0),
              Mini.E.var 1]
            [] [])]
def F4 : Fn := ⟨2, B4⟩
def B5 : List S :=
      [Mini.S.ex (Mini.E.call 0 [Mini.E.var 0, Mini.E.var 1] [] []),
        Mini.S.ret
          (Mini.E.call 1
            [(Mini.E.call 3 [Mini.E.var 0] [Mini.E.cst (Mini.D.bl true)] []).ix (Mini.E.var 0), Mini.E.var 1] [] [])]
def F5 : Fn := ⟨2, B5⟩
def B6 : List S :=
      [Mini.S.asg (Mini.Tg.one 4) (Mini.E.bi Mini.Bi.len [Mini.E.var 0]),
        Mini.S.asg (Mini.Tg.one 5) (Mini.E.cst (Mini.D.int (Int.ofNat 0))),
        Mini.S.forS (Mini.Tg.one 6) Mini.IK.r1 [Mini.E.var 4]
          [Mini.S.asg (Mini.Tg.one 7)
              ((Mini.E.var 0).ix
                (Mini.E.bin Mini.Bin.sub
                  (Mini.E.bin Mini.Bin.sub (Mini.E.var 4) (Mini.E.cst (Mini.D.int (Int.ofNat 1)))) (Mini.E.var 6))),
            Mini.S.forS (Mini.Tg.one 8) Mini.IK.r1
              [Mini.E.bi Mini.Bi.min
                  [Mini.E.bin Mini.Bin.add (Mini.E.var 2) (Mini.E.cst (Mini.D.int (Int.ofNat 1))),
                    Mini.E.bi Mini.Bi.len [(Mini.E.var 1).ix (Mini.E.var 6)]]]
              [Mini.S.asg (Mini.Tg.one 9)
                  (Mini.E.bin Mini.Bin.mul (((Mini.E.var 1).ix (Mini.E.var 6)).ix (Mini.E.var 8))
                    (Mini.E.call 1 [Mini.E.var 7, Mini.E.bin Mini.Bin.sub (Mini.E.var 2) (Mini.E.var 8)] [] [])),
                Mini.S.aug 5 Mini.Bin.add
                  ((Mini.E.var 3).ifx (Mini.E.var 9)
                    (Mini.E.bin Mini.Bin.mul (Mini.E.bi Mini.Bi.comb [Mini.E.var 2, Mini.E.var 8]) (Mini.E.var 9)))]],
        Mini.S.ret (Mini.E.var 5)]
def F6 : Fn := ⟨10, B6⟩
def B7 : List S :=
      [Mini.S.asg (Mini.Tg.one 2)
          (Mini.E.lst [Mini.E.lst [Mini.E.cst (Mini.D.int (Int.ofNat 0)), Mini.E.cst (Mini.D.int (Int.ofNat 1))]]),
        Mini.S.asg (Mini.Tg.one 3)
          (Mini.E.lst [Mini.E.lst [Mini.E.cst (Mini.D.int (Int.ofNat 0)), Mini.E.cst (Mini.D.int (Int.ofNat 1))]]),
        Mini.S.whl (Mini.E.cmp Mini.Cmp.le (Mini.E.bi Mini.Bi.len [Mini.E.var 2]) (Mini.E.var 0))
          [Mini.S.asg (Mini.Tg.one 4)
              (Mini.E.bin Mini.Bin.add (Mini.E.bi Mini.Bi.len [Mini.E.var 2]) (Mini.E.cst (Mini.D.int (Int.ofNat 2)))),
            Mini.S.asg (Mini.Tg.one 5)
              ((Mini.E.call 6 [Mini.E.var 2, Mini.E.var 3, Mini.E.var 6, Mini.E.var 1] [] []).comp (Mini.Tg.one 6)
                Mini.IK.r1 [Mini.E.var 4] [] [6]),
            Mini.S.ex (Mini.E.mt Mini.Mt.append (Mini.E.var 3) [Mini.E.var 5]),
            Mini.S.ex
              (Mini.E.mt Mini.Mt.append (Mini.E.var 2)
                [(Mini.E.bin Mini.Bin.add
                        (Mini.E.call 1
                          [(Mini.E.var 2).ix (Mini.E.cst (Mini.D.int (Int.ofNat 1))).neg,
                            Mini.E.bin Mini.Bin.add (Mini.E.var 6) (Mini.E.cst (Mini.D.int (Int.ofNat 1)))]
                          [] [])
                        ((Mini.E.var 5).ix (Mini.E.var 6))).comp
                    (Mini.Tg.one 6) Mini.IK.r1 [Mini.E.var 4] [] [6]])],
        Mini.S.ret (Mini.E.tup [Mini.E.var 2, Mini.E.var 3])]
def F7 : Fn := ⟨7, B7⟩
def B8 : List S :=
      [Mini.S.ex (Mini.E.call 0 [Mini.E.var 0, Mini.E.var 1] [] []),
        Mini.S.ret
          (Mini.E.call 1
            [((Mini.E.call 7 [Mini.E.var 0] [] [Mini.Pl.arg 0, Mini.Pl.cst (Mini.D.bl false)]).ix
                    (Mini.E.cst (Mini.D.int (Int.ofNat 0)))).ix
                (Mini.E.var 0),
              Mini.E.var 1]
            [] [])]
def F8 : Fn := ⟨2, B8⟩
def B9 : List S :=
      [Mini.S.ex (Mini.E.call 0 [Mini.E.var 0, Mini.E.var 1] [] []),
        Mini.S.ret
          (Mini.E.call 1
            [((Mini.E.call 7 [Mini.E.var 0] [Mini.E.cst (Mini.D.bl true)] []).ix
                    (Mini.E.cst (Mini.D.int (Int.ofNat 0)))).ix
                (Mini.E.var 0),
              Mini.E.var 1]
            [] [])]
def F9 : Fn := ⟨2, B9⟩
def B10 : List S :=
      [Mini.S.ex (Mini.E.call 0 [Mini.E.var 0, Mini.E.var 1] [] []),
        Mini.S.asg (Mini.Tg.one 2)
          ((Mini.E.call 7 [Mini.E.var 0] [] [Mini.Pl.arg 0, Mini.Pl.cst (Mini.D.bl false)]).ix
            (Mini.E.cst (Mini.D.int (Int.ofNat 0)))),
        Mini.S.ret
          ((Mini.E.mt Mini.Mt.join (Mini.E.cst (Mini.D.str { cps := { toList := [32] } }))
                [(Mini.E.bi Mini.Bi.str [Mini.E.call 1 [Mini.E.var 3, Mini.E.var 4] [] []]).comp (Mini.Tg.one 4)
                    Mini.IK.r1 [Mini.E.bin Mini.Bin.add (Mini.E.var 1) (Mini.E.cst (Mini.D.int (Int.ofNat 1)))] []
                    [4]]).comp
            (Mini.Tg.one 3) Mini.IK.seq [Mini.E.var 2] [] [3])]
def F10 : Fn := ⟨5, B10⟩
def B11 : List S :=
      [Mini.S.ifS (Mini.E.cmp Mini.Cmp.lt (Mini.E.var 1) (Mini.E.bi Mini.Bi.len [Mini.E.var 0]))
          [Mini.S.ret ((Mini.E.var 0).ix (Mini.E.var 1))] [],
        Mini.S.ret (Mini.E.cst (Mini.D.int (Int.ofNat 0)))]
def F11 : Fn := ⟨2, B11⟩
def B12 : List S :=
      [Mini.S.ifS (Mini.E.cmp Mini.Cmp.isN (Mini.E.var 1) (Mini.E.cst Mini.D.non))
          [Mini.S.ret (Mini.E.cmp Mini.Cmp.isN (Mini.E.var 0) (Mini.E.cst Mini.D.non))] [],
        Mini.S.ifS ((Mini.E.var 1).isi [Mini.Ty.bool])
          [Mini.S.ret (((Mini.E.var 0).isi [Mini.Ty.bool]).an (Mini.E.cmp Mini.Cmp.eq (Mini.E.var 0) (Mini.E.var 1)))]
          [],
        Mini.S.ifS ((Mini.E.var 1).isi [Mini.Ty.int])
          [Mini.S.ret
              (((Mini.E.var 0).isi [Mini.Ty.int]).an
                (((Mini.E.var 0).isi [Mini.Ty.bool]).nt.an (Mini.E.cmp Mini.Cmp.eq (Mini.E.var 0) (Mini.E.var 1))))]
          [],
        Mini.S.ifS ((Mini.E.var 1).isi [Mini.Ty.str])
          [Mini.S.ret (((Mini.E.var 0).isi [Mini.Ty.str]).an (Mini.E.cmp Mini.Cmp.eq (Mini.E.var 0) (Mini.E.var 1)))]
          [],
        Mini.S.ifS ((Mini.E.var 1).isi [Mini.Ty.dic])
          [Mini.S.ifS
              (((Mini.E.var 0).isi [Mini.Ty.dic]).nt.orr
                (Mini.E.cmp Mini.Cmp.ne (Mini.E.bi Mini.Bi.len [Mini.E.var 0]) (Mini.E.bi Mini.Bi.len [Mini.E.var 1])))
              [Mini.S.ret (Mini.E.cst (Mini.D.bl false))] [],
            Mini.S.ret
              (Mini.E.cmp Mini.Cmp.eq
                ((Mini.E.var 3).comp (Mini.Tg.one 3) Mini.IK.seq [Mini.E.var 1]
                  [(Mini.E.cmp Mini.Cmp.nin (Mini.E.var 3) (Mini.E.var 0)).orr
                      (Mini.E.call 12 [(Mini.E.var 0).ix (Mini.E.var 3), (Mini.E.var 1).ix (Mini.E.var 3)] [] []).nt]
                  [3])
                (Mini.E.lst []))]
          [],
        Mini.S.ifS
          ((Mini.E.cmp Mini.Cmp.ne ((Mini.E.var 1).isi [Mini.Ty.tup]) ((Mini.E.var 0).isi [Mini.Ty.tup])).orr
            (Mini.E.cmp Mini.Cmp.ne ((Mini.E.var 1).isi [Mini.Ty.lst]) ((Mini.E.var 0).isi [Mini.Ty.lst])))
          [Mini.S.ret (Mini.E.cst (Mini.D.bl false))] [],
        Mini.S.ifS
          (((Mini.E.var 0).isi [Mini.Ty.tup, Mini.Ty.lst]).nt.orr
            (Mini.E.cmp Mini.Cmp.ne (Mini.E.bi Mini.Bi.len [Mini.E.var 0]) (Mini.E.bi Mini.Bi.len [Mini.E.var 1])))
          [Mini.S.ret (Mini.E.cst (Mini.D.bl false))] [],
        Mini.S.forS (Mini.Tg.one 2) Mini.IK.r1 [Mini.E.bi Mini.Bi.len [Mini.E.var 1]]
          [Mini.S.ifS (Mini.E.call 12 [(Mini.E.var 0).ix (Mini.E.var 2), (Mini.E.var 1).ix (Mini.E.var 2)] [] []).nt
              [Mini.S.ret (Mini.E.cst (Mini.D.bl false))] []],
        Mini.S.ret (Mini.E.cst (Mini.D.bl true))]
def F12 : Fn := ⟨4, B12⟩
def B13 : List S :=
      [Mini.S.asg (Mini.Tg.one 2) (Mini.E.cst (Mini.D.int (Int.ofNat 1))),
        Mini.S.forS (Mini.Tg.one 3) Mini.IK.r1 [Mini.E.var 1]
          [Mini.S.asg (Mini.Tg.one 2)
              (Mini.E.bin Mini.Bin.fdv
                (Mini.E.bin Mini.Bin.mul (Mini.E.var 2) (Mini.E.bin Mini.Bin.sub (Mini.E.var 0) (Mini.E.var 3)))
                (Mini.E.bin Mini.Bin.add (Mini.E.var 3) (Mini.E.cst (Mini.D.int (Int.ofNat 1)))))],
        Mini.S.ret (Mini.E.var 2)]
def F13 : Fn := ⟨4, B13⟩
def B14 : List S :=
      [Mini.S.asg (Mini.Tg.one 2)
          (Mini.E.lst [Mini.E.lst [Mini.E.cst (Mini.D.int (Int.ofNat 0)), Mini.E.cst (Mini.D.int (Int.ofNat 1))]]),
        Mini.S.asg (Mini.Tg.one 3)
          (Mini.E.lst [Mini.E.lst [Mini.E.cst (Mini.D.int (Int.ofNat 0)), Mini.E.cst (Mini.D.int (Int.ofNat 1))]]),
        Mini.S.forS (Mini.Tg.one 4) Mini.IK.r2
          [Mini.E.cst (Mini.D.int (Int.ofNat 1)),
            Mini.E.bin Mini.Bin.add (Mini.E.var 0) (Mini.E.cst (Mini.D.int (Int.ofNat 1)))]
          [Mini.S.asg (Mini.Tg.one 5) (Mini.E.lst []), Mini.S.asg (Mini.Tg.one 6) (Mini.E.lst []),
            Mini.S.forS (Mini.Tg.one 7) Mini.IK.r1
              [Mini.E.bin Mini.Bin.add (Mini.E.var 4) (Mini.E.cst (Mini.D.int (Int.ofNat 2)))]
              [Mini.S.asg (Mini.Tg.one 8) (Mini.E.cst (Mini.D.int (Int.ofNat 0))),
                Mini.S.forS (Mini.Tg.one 9) Mini.IK.r1 [Mini.E.var 4]
                  [Mini.S.forS (Mini.Tg.one 10) Mini.IK.r1
                      [Mini.E.bin Mini.Bin.add (Mini.E.var 7) (Mini.E.cst (Mini.D.int (Int.ofNat 1)))]
                      [Mini.S.ifS
                          ((Mini.E.cmp Mini.Cmp.lt (Mini.E.var 10)
                                (Mini.E.bi Mini.Bi.len [(Mini.E.var 3).ix (Mini.E.var 9)])).an
                            (Mini.E.cmp Mini.Cmp.lt (Mini.E.bin Mini.Bin.sub (Mini.E.var 7) (Mini.E.var 10))
                              (Mini.E.bi Mini.Bi.len
                                [(Mini.E.var 2).ix
                                    (Mini.E.bin Mini.Bin.sub
                                      (Mini.E.bin Mini.Bin.sub (Mini.E.var 4) (Mini.E.cst (Mini.D.int (Int.ofNat 1))))
                                      (Mini.E.var 9))])))
                          [Mini.S.asg (Mini.Tg.one 11)
                              (Mini.E.bin Mini.Bin.mul (((Mini.E.var 3).ix (Mini.E.var 9)).ix (Mini.E.var 10))
                                (((Mini.E.var 2).ix
                                      (Mini.E.bin Mini.Bin.sub
                                        (Mini.E.bin Mini.Bin.sub (Mini.E.var 4) (Mini.E.cst (Mini.D.int (Int.ofNat 1))))
                                        (Mini.E.var 9))).ix
                                  (Mini.E.bin Mini.Bin.sub (Mini.E.var 7) (Mini.E.var 10)))),
                            Mini.S.ifS (Mini.E.var 1).nt
                              [Mini.S.asg (Mini.Tg.one 11)
                                  (Mini.E.bin Mini.Bin.mul (Mini.E.var 11)
                                    (Mini.E.call 13 [Mini.E.var 7, Mini.E.var 10] [] []))]
                              [],
                            Mini.S.asg (Mini.Tg.one 8) (Mini.E.bin Mini.Bin.add (Mini.E.var 8) (Mini.E.var 11))]
                          []]],
                Mini.S.ex (Mini.E.mt Mini.Mt.append (Mini.E.var 6) [Mini.E.var 8]),
                Mini.S.ifS
                  (Mini.E.cmp Mini.Cmp.lt
                    (Mini.E.bin Mini.Bin.add (Mini.E.var 7) (Mini.E.cst (Mini.D.int (Int.ofNat 1))))
                    (Mini.E.bi Mini.Bi.len
                      [(Mini.E.var 2).ix
                          (Mini.E.bin Mini.Bin.sub (Mini.E.var 4) (Mini.E.cst (Mini.D.int (Int.ofNat 1))))]))
                  [Mini.S.asg (Mini.Tg.one 8)
                      (Mini.E.bin Mini.Bin.add (Mini.E.var 8)
                        (((Mini.E.var 2).ix
                              (Mini.E.bin Mini.Bin.sub (Mini.E.var 4) (Mini.E.cst (Mini.D.int (Int.ofNat 1))))).ix
                          (Mini.E.bin Mini.Bin.add (Mini.E.var 7) (Mini.E.cst (Mini.D.int (Int.ofNat 1))))))]
                  [],
                Mini.S.ex (Mini.E.mt Mini.Mt.append (Mini.E.var 5) [Mini.E.var 8])],
            Mini.S.ex (Mini.E.mt Mini.Mt.append (Mini.E.var 2) [Mini.E.var 5]),
            Mini.S.ex (Mini.E.mt Mini.Mt.append (Mini.E.var 3) [Mini.E.var 6])],
        Mini.S.ret (Mini.E.tup [Mini.E.var 2, Mini.E.var 3])]
def F14 : Fn := ⟨12, B14⟩
def B15 : List S :=
      [Mini.S.tryS
          [Mini.S.ifS (Mini.E.cmp Mini.Cmp.eq (Mini.E.var 0) (Mini.E.cst (Mini.D.int (Int.ofNat 0))))
              [Mini.S.ex (Mini.E.call 8 [Mini.E.var 1, Mini.E.var 2] [] [])]
              [Mini.S.ifS (Mini.E.cmp Mini.Cmp.eq (Mini.E.var 0) (Mini.E.cst (Mini.D.int (Int.ofNat 1))))
                  [Mini.S.ex (Mini.E.call 9 [Mini.E.var 1, Mini.E.var 2] [] [])]
                  [Mini.S.ex (Mini.E.call 10 [Mini.E.var 1, Mini.E.var 2] [] [])]]]
          0 [Mini.S.ret (Mini.E.cst (Mini.D.bl true))],
        Mini.S.ret (Mini.E.cst (Mini.D.bl false))]
def F15 : Fn := ⟨3, B15⟩
def B16 : List S :=
      [Mini.S.asg (Mini.Tg.one 1) (Mini.E.cst (Mini.D.int (Int.ofNat 2))),
        Mini.S.forS (Mini.Tg.one 2) Mini.IK.r1 [Mini.E.var 0]
          [Mini.S.asg (Mini.Tg.one 1)
              (Mini.E.bin Mini.Bin.fdv
                (Mini.E.bin Mini.Bin.mul
                  (Mini.E.bin Mini.Bin.mul (Mini.E.var 1) (Mini.E.cst (Mini.D.int (Int.ofNat 3))))
                  (Mini.E.bin Mini.Bin.add
                    (Mini.E.bin Mini.Bin.add (Mini.E.var 0) (Mini.E.cst (Mini.D.int (Int.ofNat 1)))) (Mini.E.var 2)))
                (Mini.E.bin Mini.Bin.add (Mini.E.var 2) (Mini.E.cst (Mini.D.int (Int.ofNat 1)))))],
        Mini.S.ret
          (Mini.E.bin Mini.Bin.fdv (Mini.E.var 1)
            (Mini.E.bin Mini.Bin.mul (Mini.E.bin Mini.Bin.add (Mini.E.var 0) (Mini.E.cst (Mini.D.int (Int.ofNat 1))))
              (Mini.E.bin Mini.Bin.add (Mini.E.var 0) (Mini.E.cst (Mini.D.int (Int.ofNat 2))))))]
def F16 : Fn := ⟨3, B16⟩
def B17 : List S :=
      [Mini.S.ifS (Mini.E.cmp Mini.Cmp.lt (Mini.E.var 1) (Mini.E.bi Mini.Bi.len [Mini.E.var 0]))
          [Mini.S.ret ((Mini.E.var 0).ix (Mini.E.var 1))] [],
        Mini.S.ret (Mini.E.cst (Mini.D.int (Int.ofNat 0)))]
def F17 : Fn := ⟨2, B17⟩
def B18 : List S :=
      [Mini.S.asg (Mini.Tg.one 1)
          (Mini.E.bin Mini.Bin.mod
            (Mini.E.bi Mini.Bi.int [Mini.E.call 11 [Mini.E.var 0, Mini.E.cst (Mini.D.int (Int.ofNat 0))] [] []])
            (Mini.E.cst (Mini.D.int (Int.ofNat 10)))),
        Mini.S.asg (Mini.Tg.one 2)
          (Mini.E.bin Mini.Bin.mod
            (Mini.E.bi Mini.Bi.int [Mini.E.call 11 [Mini.E.var 0, Mini.E.cst (Mini.D.int (Int.ofNat 1))] [] []])
            (Mini.E.cst (Mini.D.int (Int.ofNat 11)))),
        Mini.S.ifS
          (Mini.E.cmp Mini.Cmp.eq
            (Mini.E.bin Mini.Bin.mod
              (Mini.E.bi Mini.Bi.int [Mini.E.call 11 [Mini.E.var 0, Mini.E.cst (Mini.D.int (Int.ofNat 2))] [] []])
              (Mini.E.cst (Mini.D.int (Int.ofNat 8))))
            (Mini.E.cst (Mini.D.int (Int.ofNat 5))))
          [Mini.S.asg (Mini.Tg.one 1)
              (Mini.E.bin Mini.Bin.mod
                (Mini.E.bi Mini.Bi.int [Mini.E.call 11 [Mini.E.var 0, Mini.E.cst (Mini.D.int (Int.ofNat 0))] [] []])
                (Mini.E.cst (Mini.D.int (Int.ofNat 21)))),
            Mini.S.asg (Mini.Tg.one 2)
              (Mini.E.bin Mini.Bin.mod
                (Mini.E.bi Mini.Bi.int [Mini.E.call 11 [Mini.E.var 0, Mini.E.cst (Mini.D.int (Int.ofNat 1))] [] []])
                (Mini.E.cst (Mini.D.int (Int.ofNat 22))))]
          [],
        Mini.S.asg (Mini.Tg.one 3)
          ((Mini.E.call 14 [Mini.E.var 1, Mini.E.cst (Mini.D.bl false)] [] []).ix
            (Mini.E.cst (Mini.D.int (Int.ofNat 0)))),
        Mini.S.asg (Mini.Tg.one 4)
          ((Mini.E.call 14 [Mini.E.var 1, Mini.E.cst (Mini.D.bl true)] [] []).ix
            (Mini.E.cst (Mini.D.int (Int.ofNat 0)))),
        Mini.S.asg (Mini.Tg.one 5) (Mini.E.call 17 [(Mini.E.var 3).ix (Mini.E.var 1), Mini.E.var 2] [] []),
        Mini.S.asg (Mini.Tg.one 6) (Mini.E.call 17 [(Mini.E.var 4).ix (Mini.E.var 1), Mini.E.var 2] [] []),
        Mini.S.ifS
          ((Mini.E.call 12 [Mini.E.call 8 [Mini.E.var 1, Mini.E.var 2] [] [], Mini.E.var 5] [] []).nt.orr
            (Mini.E.call 12 [Mini.E.call 9 [Mini.E.var 1, Mini.E.var 2] [] [], Mini.E.var 6] [] []).nt)
          [Mini.S.ret (Mini.E.cst (Mini.D.bl false))] [],
        Mini.S.ifS
          ((Mini.E.cmp Mini.Cmp.gt (Mini.E.var 5) (Mini.E.call 4 [Mini.E.var 1, Mini.E.var 2] [] [])).orr
            ((Mini.E.cmp Mini.Cmp.gt (Mini.E.var 6) (Mini.E.call 5 [Mini.E.var 1, Mini.E.var 2] [] [])).orr
              (Mini.E.cmp Mini.Cmp.gt (Mini.E.var 6) (Mini.E.var 5))))
          [Mini.S.ret (Mini.E.cst (Mini.D.bl false))] [],
        Mini.S.asg (Mini.Tg.one 7) (Mini.E.lst []),
        Mini.S.forS (Mini.Tg.one 8) Mini.IK.seq [Mini.E.var 3]
          [Mini.S.asg (Mini.Tg.one 9)
              (Mini.E.bi Mini.Bi.str [Mini.E.call 17 [Mini.E.var 8, Mini.E.cst (Mini.D.int (Int.ofNat 0))] [] []]),
            Mini.S.forS (Mini.Tg.one 10) Mini.IK.r2
              [Mini.E.cst (Mini.D.int (Int.ofNat 1)),
                Mini.E.bin Mini.Bin.add (Mini.E.var 2) (Mini.E.cst (Mini.D.int (Int.ofNat 1)))]
              [Mini.S.asg (Mini.Tg.one 9)
                  (Mini.E.bin Mini.Bin.add
                    (Mini.E.bin Mini.Bin.add (Mini.E.var 9) (Mini.E.cst (Mini.D.str { cps := { toList := [32] } })))
                    (Mini.E.bi Mini.Bi.str [Mini.E.call 17 [Mini.E.var 8, Mini.E.var 10] [] []]))],
            Mini.S.ex (Mini.E.mt Mini.Mt.append (Mini.E.var 7) [Mini.E.var 9])],
        Mini.S.ifS (Mini.E.call 12 [Mini.E.call 10 [Mini.E.var 1, Mini.E.var 2] [] [], Mini.E.var 7] [] []).nt
          [Mini.S.ret (Mini.E.cst (Mini.D.bl false))] [],
        Mini.S.asg (Mini.Tg.one 11)
          (Mini.E.bin Mini.Bin.mod
            (Mini.E.bi Mini.Bi.int [Mini.E.call 11 [Mini.E.var 0, Mini.E.cst (Mini.D.int (Int.ofNat 3))] [] []])
            (Mini.E.cst (Mini.D.int (Int.ofNat 10)))),
        Mini.S.ifS
          (Mini.E.call 12
              [Mini.E.call 9
                  [Mini.E.bin Mini.Bin.add
                      (Mini.E.bin Mini.Bin.mul (Mini.E.cst (Mini.D.int (Int.ofNat 2))) (Mini.E.var 11))
                      (Mini.E.cst (Mini.D.int (Int.ofNat 1))),
                    Mini.E.cst (Mini.D.int (Int.ofNat 0))]
                  [] [],
                Mini.E.call 16 [Mini.E.var 11] [] []]
              [] []).nt
          [Mini.S.ret (Mini.E.cst (Mini.D.bl false))] [],
        Mini.S.ifS
          (Mini.E.call 12
              [Mini.E.lst
                  [Mini.E.call 9 [Mini.E.cst (Mini.D.int (Int.ofNat 1)), Mini.E.cst (Mini.D.int (Int.ofNat 0))] [] [],
                    Mini.E.call 9 [Mini.E.cst (Mini.D.int (Int.ofNat 3)), Mini.E.cst (Mini.D.int (Int.ofNat 0))] [] [],
                    Mini.E.call 9 [Mini.E.cst (Mini.D.int (Int.ofNat 5)), Mini.E.cst (Mini.D.int (Int.ofNat 0))] [] []],
                Mini.E.lst
                  [Mini.E.cst (Mini.D.int (Int.ofNat 1)), Mini.E.cst (Mini.D.int (Int.ofNat 2)),
                    Mini.E.cst (Mini.D.int (Int.ofNat 9))]]
              [] []).nt
          [Mini.S.ret (Mini.E.cst (Mini.D.bl false))] [],
        Mini.S.asg (Mini.Tg.one 12)
          (Mini.E.bin Mini.Bin.add (Mini.E.cst (Mini.D.int (Int.ofNat 1)))
            (Mini.E.bin Mini.Bin.mod
              (Mini.E.bi Mini.Bi.int [Mini.E.call 11 [Mini.E.var 0, Mini.E.cst (Mini.D.int (Int.ofNat 4))] [] []])
              (Mini.E.cst (Mini.D.int (Int.ofNat 1000))))),
        Mini.S.forS (Mini.Tg.one 13) Mini.IK.r1 [Mini.E.cst (Mini.D.int (Int.ofNat 3))]
          [Mini.S.ifS
              ((Mini.E.call 15
                      [Mini.E.var 13, Mini.E.bin Mini.Bin.add (Mini.E.cst (Mini.D.int (Int.ofNat 20))) (Mini.E.var 12),
                        Mini.E.var 2]
                      [] []).nt.orr
                (Mini.E.call 15
                    [Mini.E.var 13, Mini.E.var 1,
                      Mini.E.bin Mini.Bin.add (Mini.E.cst (Mini.D.int (Int.ofNat 21))) (Mini.E.var 12)]
                    [] []).nt)
              [Mini.S.ret (Mini.E.cst (Mini.D.bl false))] [],
            Mini.S.ifS
              ((Mini.E.call 15
                      [Mini.E.var 13, Mini.E.bin Mini.Bin.sub (Mini.E.cst (Mini.D.int (Int.ofNat 0))) (Mini.E.var 12),
                        Mini.E.var 2]
                      [] []).nt.orr
                (Mini.E.call 15
                    [Mini.E.var 13, Mini.E.var 1,
                      Mini.E.bin Mini.Bin.sub (Mini.E.cst (Mini.D.int (Int.ofNat 0))) (Mini.E.var 12)]
                    [] []).nt)
              [Mini.S.ret (Mini.E.cst (Mini.D.bl false))] []],
        Mini.S.ret (Mini.E.call 12 [Mini.E.call 8 [Mini.E.var 1, Mini.E.var 2] [] [], Mini.E.var 5] [] [])]
def F18 : Fn := ⟨14, B18⟩
def prg : Prg := ⟨[F0, F1, F2, F3, F4, F5, F6, F7, F8, F9, F10, F11, F12, F13, F14, F15, F16, F17, F18], subT, 200⟩
def Cx (K : Fg) (i : Nat) : Addr := He.ga K (["OutOfRange"].getD (if i < 1 then i else 0) "")
section
variable {P : Program} {w : World} {K : Fg} {mg : Str → Option Value} {base h : Heap}
abbrev DefOk (K : Fg) (mg : Str → Option Value) (i : Nat) (x : Str) (np : Nat) : Prop := ∃ (fa : Addr) (fd : FuncData) (N ps : List Str) (qual : Str) (params : Arguments) (body : List Stmt) (scope : Scope) (dvs : List V) (kws : List (Str × V)), FunD K x qual params body scope dvs kws fa fd ∧ FnScope N ps scope ∧ ps.length = np ∧
    prg.fns[i]? = some (compF cc 40 40 N scope body) ∧ mg x = some (.ref fa) ∧ ∀ m ks pl, (i, m, ks, pl) ∈ cc.shapes → BindG K fd ps m ks pl
theorem sc0 : FnScope N0 ["nodes", "names"] (defScope (top 7)) := ⟨rfl, rfl, rfl, by decide +kernel, rfl, by decide +kernel, by decide +kernel⟩
theorem cf0 : prg.fns[0]? = some (compF cc 40 40 N0 (defScope (top 7)) (defBody (top 7))) := by kernel_rfl
theorem df0 (X : K.In h) (G : h.Ns mainGlobals mg) (c : SaysM fal fnl bsl K) : DefOk K mg 0 "check_counted" 2 := by
  obtain ⟨fd, F⟩ := c.d.def_ 0 (d := D0) rfl
  have F : FunD K "check_counted" "check_counted" (defArgs (top 7)) (defBody (top 7)) (defScope (top 7)) [] [] (He.ga K "check_counted") fd := F
  refine ⟨_, fd, N0, ["nodes", "names"], _, _, _, _, _, _, F, sc0, rfl, cf0, He.glo_ok X G (c.d.fact 0 (f := .glo "check_counted") rfl), fun m ks pl hs => ?_⟩
  have hs := mem_shp hs
  have e : shp cc.shapes 0 = ([(2, [], [])] : List (Nat × List Str × List Pl)) := rfl
  rw [e] at hs
  simp only [List.mem_cons, List.not_mem_nil, or_false, Prod.mk.injEq] at hs
  rcases hs with ⟨rfl, rfl, rfl⟩
  · exact bg_plain F rfl fun kV doc pm an cdv ct us hl => match us, hl with | [u0, u1], _ => rfl
theorem sc1 : FnScope N1 ["row", "names"] (defScope (top 8)) := ⟨rfl, rfl, rfl, by decide +kernel, rfl, by decide +kernel, by decide +kernel⟩
theorem cf1 : prg.fns[1]? = some (compF cc 40 40 N1 (defScope (top 8)) (defBody (top 8))) := by kernel_rfl
theorem df1 (X : K.In h) (G : h.Ns mainGlobals mg) (c : SaysM fal fnl bsl K) : DefOk K mg 1 "count_entry" 2 := by
  obtain ⟨fd, F⟩ := c.d.def_ 1 (d := D1) rfl
  have F : FunD K "count_entry" "count_entry" (defArgs (top 8)) (defBody (top 8)) (defScope (top 8)) [] [] (He.ga K "count_entry") fd := F
  refine ⟨_, fd, N1, ["row", "names"], _, _, _, _, _, _, F, sc1, rfl, cf1, He.glo_ok X G (c.d.fact 1 (f := .glo "count_entry") rfl), fun m ks pl hs => ?_⟩
  have hs := mem_shp hs
  have e : shp cc.shapes 1 = ([(2, [], [])] : List (Nat × List Str × List Pl)) := rfl
  rw [e] at hs
  simp only [List.mem_cons, List.not_mem_nil, or_false, Prod.mk.injEq] at hs
  rcases hs with ⟨rfl, rfl, rfl⟩
  · exact bg_plain F rfl fun kV doc pm an cdv ct us hl => match us, hl with | [u0, u1], _ => rfl
theorem sc2 : FnScope N2 ["rows", "names", "flat"] (defScope (top 9)) := ⟨rfl, rfl, rfl, by decide +kernel, rfl, by decide +kernel, by decide +kernel⟩
theorem cf2 : prg.fns[2]? = some (compF cc 40 40 N2 (defScope (top 9)) (defBody (top 9))) := by kernel_rfl
theorem df2 (X : K.In h) (G : h.Ns mainGlobals mg) (c : SaysM fal fnl bsl K) : DefOk K mg 2 "next_count" 3 := by
  obtain ⟨fd, F⟩ := c.d.def_ 2 (d := D2) rfl
  have F : FunD K "next_count" "next_count" (defArgs (top 9)) (defBody (top 9)) (defScope (top 9)) [] [] (He.ga K "next_count") fd := F
  refine ⟨_, fd, N2, ["rows", "names", "flat"], _, _, _, _, _, _, F, sc2, rfl, cf2, He.glo_ok X G (c.d.fact 2 (f := .glo "next_count") rfl), fun m ks pl hs => ?_⟩
  have hs := mem_shp hs
  have e : shp cc.shapes 2 = ([(3, [], [])] : List (Nat × List Str × List Pl)) := rfl
  rw [e] at hs
  simp only [List.mem_cons, List.not_mem_nil, or_false, Prod.mk.injEq] at hs
  rcases hs with ⟨rfl, rfl, rfl⟩
  · exact bg_plain F rfl fun kV doc pm an cdv ct us hl => match us, hl with | [u0, u1, u2], _ => rfl
theorem sc3 : FnScope N3 ["nodes", "flat"] (defScope (top 10)) := ⟨rfl, rfl, rfl, by decide +kernel, rfl, by decide +kernel, by decide +kernel⟩
theorem cf3 : prg.fns[3]? = some (compF cc 40 40 N3 (defScope (top 10)) (defBody (top 10))) := by kernel_rfl
theorem df3 (X : K.In h) (G : h.Ns mainGlobals mg) (c : SaysM fal fnl bsl K) : DefOk K mg 3 "counted_rows" 2 := by
  obtain ⟨fd, F⟩ := c.d.def_ 3 (d := D3) rfl
  have F : FunD K "counted_rows" "counted_rows" (defArgs (top 10)) (defBody (top 10)) (defScope (top 10)) [] [("flat", .bl false)] (He.ga K "counted_rows") fd := F
  refine ⟨_, fd, N3, ["nodes", "flat"], _, _, _, _, _, _, F, sc3, rfl, cf3, He.glo_ok X G (c.d.fact 3 (f := .glo "counted_rows") rfl), fun m ks pl hs => ?_⟩
  have hs := mem_shp hs
  have e : shp cc.shapes 3 = ([(1, [], [.arg 0, .cst (.bl false)]), (1, ["flat"], [])] : List (Nat × List Str × List Pl)) := rfl
  rw [e] at hs
  simp only [List.mem_cons, List.not_mem_nil, or_false, Prod.mk.injEq] at hs
  rcases hs with ⟨rfl, rfl, rfl⟩ | ⟨rfl, rfl, rfl⟩
  · exact bg_dfl F (by simp) (fun us hl => match us, hl with | [u0], _ => rfl) fun D doc pm an cdv ct us hl => match us, hl with | [u0], _ => ⟨_, _, _, _, _, _, rfl, rfl, rfl⟩
  · exact bg_kw F (by simp) fun kV doc pm an cdv ct us ws h1 h2 => match us, ws, h1, h2 with | [u0], [w0], _, _ => rfl
theorem sc4 : FnScope N4 ["nodes", "names"] (defScope (top 11)) := ⟨rfl, rfl, rfl, by decide +kernel, rfl, by decide +kernel, by decide +kernel⟩
theorem cf4 : prg.fns[4]? = some (compF cc 40 40 N4 (defScope (top 11)) (defBody (top 11))) := by kernel_rfl
theorem df4 (X : K.In h) (G : h.Ns mainGlobals mg) (c : SaysM fal fnl bsl K) : DefOk K mg 4 "count_terms" 2 := by
  obtain ⟨fd, F⟩ := c.d.def_ 4 (d := D4) rfl
  have F : FunD K "count_terms" "count_terms" (defArgs (top 11)) (defBody (top 11)) (defScope (top 11)) [] [] (He.ga K "count_terms") fd := F
  refine ⟨_, fd, N4, ["nodes", "names"], _, _, _, _, _, _, F, sc4, rfl, cf4, He.glo_ok X G (c.d.fact 4 (f := .glo "count_terms") rfl), fun m ks pl hs => ?_⟩
  have hs := mem_shp hs
  have e : shp cc.shapes 4 = ([(2, [], [])] : List (Nat × List Str × List Pl)) := rfl
  rw [e] at hs
  simp only [List.mem_cons, List.not_mem_nil, or_false, Prod.mk.injEq] at hs
  rcases hs with ⟨rfl, rfl, rfl⟩
  · exact bg_plain F rfl fun kV doc pm an cdv ct us hl => match us, hl with | [u0, u1], _ => rfl
theorem sc5 : FnScope N5 ["nodes", "names"] (defScope (top 12)) := ⟨rfl, rfl, rfl, by decide +kernel, rfl, by decide +kernel, by decide +kernel⟩
theorem cf5 : prg.fns[5]? = some (compF cc 40 40 N5 (defScope (top 12)) (defBody (top 12))) := by kernel_rfl
theorem df5 (X : K.In h) (G : h.Ns mainGlobals mg) (c : SaysM fal fnl bsl K) : DefOk K mg 5 "count_flat" 2 := by
  obtain ⟨fd, F⟩ := c.d.def_ 5 (d := D5) rfl
  have F : FunD K "count_flat" "count_flat" (defArgs (top 12)) (defBody (top 12)) (defScope (top 12)) [] [] (He.ga K "count_flat") fd := F
  refine ⟨_, fd, N5, ["nodes", "names"], _, _, _, _, _, _, F, sc5, rfl, cf5, He.glo_ok X G (c.d.fact 5 (f := .glo "count_flat") rfl), fun m ks pl hs => ?_⟩
  have hs := mem_shp hs
  have e : shp cc.shapes 5 = ([(2, [], [])] : List (Nat × List Str × List Pl)) := rfl
  rw [e] at hs
  simp only [List.mem_cons, List.not_mem_nil, or_false, Prod.mk.injEq] at hs
  rcases hs with ⟨rfl, rfl, rfl⟩
  · exact bg_plain F rfl fun kV doc pm an cdv ct us hl => match us, hl with | [u0, u1], _ => rfl
theorem sc6 : FnScope N6 ["rows", "headed", "names", "flat"] (defScope (top 14)) := ⟨rfl, rfl, rfl, by decide +kernel, rfl, by decide +kernel, by decide +kernel⟩
theorem cf6 : prg.fns[6]? = some (compF cc 40 40 N6 (defScope (top 14)) (defBody (top 14))) := by kernel_rfl
theorem df6 (X : K.In h) (G : h.Ns mainGlobals mg) (c : SaysM fal fnl bsl K) : DefOk K mg 6 "headed_count" 4 := by
  obtain ⟨fd, F⟩ := c.d.def_ 6 (d := D6) rfl
  have F : FunD K "headed_count" "headed_count" (defArgs (top 14)) (defBody (top 14)) (defScope (top 14)) [] [] (He.ga K "headed_count") fd := F
  refine ⟨_, fd, N6, ["rows", "headed", "names", "flat"], _, _, _, _, _, _, F, sc6, rfl, cf6, He.glo_ok X G (c.d.fact 6 (f := .glo "headed_count") rfl), fun m ks pl hs => ?_⟩
  have hs := mem_shp hs
  have e : shp cc.shapes 6 = ([(4, [], [])] : List (Nat × List Str × List Pl)) := rfl
  rw [e] at hs
  simp only [List.mem_cons, List.not_mem_nil, or_false, Prod.mk.injEq] at hs
  rcases hs with ⟨rfl, rfl, rfl⟩
  · exact bg_plain F rfl fun kV doc pm an cdv ct us hl => match us, hl with | [u0, u1, u2, u3], _ => rfl
theorem sc7 : FnScope N7 ["nodes", "flat"] (defScope (top 15)) := ⟨rfl, rfl, rfl, by decide +kernel, rfl, by decide +kernel, by decide +kernel⟩
theorem cf7 : prg.fns[7]? = some (compF cc 40 40 N7 (defScope (top 15)) (defBody (top 15))) := by kernel_rfl
theorem df7 (X : K.In h) (G : h.Ns mainGlobals mg) (c : SaysM fal fnl bsl K) : DefOk K mg 7 "plain_rows" 2 := by
  obtain ⟨fd, F⟩ := c.d.def_ 7 (d := D7) rfl
  have F : FunD K "plain_rows" "plain_rows" (defArgs (top 15)) (defBody (top 15)) (defScope (top 15)) [] [("flat", .bl false)] (He.ga K "plain_rows") fd := F
  refine ⟨_, fd, N7, ["nodes", "flat"], _, _, _, _, _, _, F, sc7, rfl, cf7, He.glo_ok X G (c.d.fact 7 (f := .glo "plain_rows") rfl), fun m ks pl hs => ?_⟩
  have hs := mem_shp hs
  have e : shp cc.shapes 7 = ([(1, [], [.arg 0, .cst (.bl false)]), (1, ["flat"], [])] : List (Nat × List Str × List Pl)) := rfl
  rw [e] at hs
  simp only [List.mem_cons, List.not_mem_nil, or_false, Prod.mk.injEq] at hs
  rcases hs with ⟨rfl, rfl, rfl⟩ | ⟨rfl, rfl, rfl⟩
  · exact bg_dfl F (by simp) (fun us hl => match us, hl with | [u0], _ => rfl) fun D doc pm an cdv ct us hl => match us, hl with | [u0], _ => ⟨_, _, _, _, _, _, rfl, rfl, rfl⟩
  · exact bg_kw F (by simp) fun kV doc pm an cdv ct us ws h1 h2 => match us, ws, h1, h2 with | [u0], [w0], _, _ => rfl
theorem sc8 : FnScope N8 ["nodes", "names"] (defScope (top 16)) := ⟨rfl, rfl, rfl, by decide +kernel, rfl, by decide +kernel, by decide +kernel⟩
theorem cf8 : prg.fns[8]? = some (compF cc 40 40 N8 (defScope (top 16)) (defBody (top 16))) := by kernel_rfl
theorem df8 (X : K.In h) (G : h.Ns mainGlobals mg) (c : SaysM fal fnl bsl K) : DefOk K mg 8 "count_plain" 2 := by
  obtain ⟨fd, F⟩ := c.d.def_ 8 (d := D8) rfl
  have F : FunD K "count_plain" "count_plain" (defArgs (top 16)) (defBody (top 16)) (defScope (top 16)) [] [] (He.ga K "count_plain") fd := F
  refine ⟨_, fd, N8, ["nodes", "names"], _, _, _, _, _, _, F, sc8, rfl, cf8, He.glo_ok X G (c.d.fact 8 (f := .glo "count_plain") rfl), fun m ks pl hs => ?_⟩
  have hs := mem_shp hs
  have e : shp cc.shapes 8 = ([(2, [], [])] : List (Nat × List Str × List Pl)) := rfl
  rw [e] at hs
  simp only [List.mem_cons, List.not_mem_nil, or_false, Prod.mk.injEq] at hs
  rcases hs with ⟨rfl, rfl, rfl⟩
  · exact bg_plain F rfl fun kV doc pm an cdv ct us hl => match us, hl with | [u0, u1], _ => rfl
theorem sc9 : FnScope N9 ["nodes", "names"] (defScope (top 17)) := ⟨rfl, rfl, rfl, by decide +kernel, rfl, by decide +kernel, by decide +kernel⟩
theorem cf9 : prg.fns[9]? = some (compF cc 40 40 N9 (defScope (top 17)) (defBody (top 17))) := by kernel_rfl
theorem df9 (X : K.In h) (G : h.Ns mainGlobals mg) (c : SaysM fal fnl bsl K) : DefOk K mg 9 "count_plain_flat" 2 := by
  obtain ⟨fd, F⟩ := c.d.def_ 9 (d := D9) rfl
  have F : FunD K "count_plain_flat" "count_plain_flat" (defArgs (top 17)) (defBody (top 17)) (defScope (top 17)) [] [] (He.ga K "count_plain_flat") fd := F
  refine ⟨_, fd, N9, ["nodes", "names"], _, _, _, _, _, _, F, sc9, rfl, cf9, He.glo_ok X G (c.d.fact 9 (f := .glo "count_plain_flat") rfl), fun m ks pl hs => ?_⟩
  have hs := mem_shp hs
  have e : shp cc.shapes 9 = ([(2, [], [])] : List (Nat × List Str × List Pl)) := rfl
  rw [e] at hs
  simp only [List.mem_cons, List.not_mem_nil, or_false, Prod.mk.injEq] at hs
  rcases hs with ⟨rfl, rfl, rfl⟩
  · exact bg_plain F rfl fun kV doc pm an cdv ct us hl => match us, hl with | [u0, u1], _ => rfl
theorem sc10 : FnScope N10 ["nodes", "names"] (defScope (top 18)) := ⟨rfl, rfl, rfl, by decide +kernel, rfl, by decide +kernel, by decide +kernel⟩
theorem cf10 : prg.fns[10]? = some (compF cc 40 40 N10 (defScope (top 18)) (defBody (top 18))) := by kernel_rfl
theorem df10 (X : K.In h) (G : h.Ns mainGlobals mg) (c : SaysM fal fnl bsl K) : DefOk K mg 10 "plain_table" 2 := by
  obtain ⟨fd, F⟩ := c.d.def_ 10 (d := D10) rfl
  have F : FunD K "plain_table" "plain_table" (defArgs (top 18)) (defBody (top 18)) (defScope (top 18)) [] [] (He.ga K "plain_table") fd := F
  refine ⟨_, fd, N10, ["nodes", "names"], _, _, _, _, _, _, F, sc10, rfl, cf10, He.glo_ok X G (c.d.fact 10 (f := .glo "plain_table") rfl), fun m ks pl hs => ?_⟩
  have hs := mem_shp hs
  have e : shp cc.shapes 10 = ([(2, [], [])] : List (Nat × List Str × List Pl)) := rfl
  rw [e] at hs
  simp only [List.mem_cons, List.not_mem_nil, or_false, Prod.mk.injEq] at hs
  rcases hs with ⟨rfl, rfl, rfl⟩
  · exact bg_plain F rfl fun kV doc pm an cdv ct us hl => match us, hl with | [u0, u1], _ => rfl
theorem sc11 : FnScope N11 ["script", "k"] (defScope (top 20)) := ⟨rfl, rfl, rfl, by decide +kernel, rfl, by decide +kernel, by decide +kernel⟩
theorem cf11 : prg.fns[11]? = some (compF cc 40 40 N11 (defScope (top 20)) (defBody (top 20))) := by kernel_rfl
theorem df11 (X : K.In h) (G : h.Ns mainGlobals mg) (c : SaysM fal fnl bsl K) : DefOk K mg 11 "_law_cell" 2 := by
  obtain ⟨fd, F⟩ := c.d.def_ 11 (d := D11) rfl
  have F : FunD K "_law_cell" "_law_cell" (defArgs (top 20)) (defBody (top 20)) (defScope (top 20)) [] [] (He.ga K "_law_cell") fd := F
  refine ⟨_, fd, N11, ["script", "k"], _, _, _, _, _, _, F, sc11, rfl, cf11, He.glo_ok X G (c.d.fact 11 (f := .glo "_law_cell") rfl), fun m ks pl hs => ?_⟩
  have hs := mem_shp hs
  have e : shp cc.shapes 11 = ([(2, [], [])] : List (Nat × List Str × List Pl)) := rfl
  rw [e] at hs
  simp only [List.mem_cons, List.not_mem_nil, or_false, Prod.mk.injEq] at hs
  rcases hs with ⟨rfl, rfl, rfl⟩
  · exact bg_plain F rfl fun kV doc pm an cdv ct us hl => match us, hl with | [u0, u1], _ => rfl
theorem sc12 : FnScope N12 ["told", "due"] (defScope (top 21)) := ⟨rfl, rfl, rfl, by decide +kernel, rfl, by decide +kernel, by decide +kernel⟩
theorem cf12 : prg.fns[12]? = some (compF cc 40 40 N12 (defScope (top 21)) (defBody (top 21))) := by kernel_rfl
theorem df12 (X : K.In h) (G : h.Ns mainGlobals mg) (c : SaysM fal fnl bsl K) : DefOk K mg 12 "_law_same" 2 := by
  obtain ⟨fd, F⟩ := c.d.def_ 12 (d := D12) rfl
  have F : FunD K "_law_same" "_law_same" (defArgs (top 21)) (defBody (top 21)) (defScope (top 21)) [] [] (He.ga K "_law_same") fd := F
  refine ⟨_, fd, N12, ["told", "due"], _, _, _, _, _, _, F, sc12, rfl, cf12, He.glo_ok X G (c.d.fact 12 (f := .glo "_law_same") rfl), fun m ks pl hs => ?_⟩
  have hs := mem_shp hs
  have e : shp cc.shapes 12 = ([(2, [], [])] : List (Nat × List Str × List Pl)) := rfl
  rw [e] at hs
  simp only [List.mem_cons, List.not_mem_nil, or_false, Prod.mk.injEq] at hs
  rcases hs with ⟨rfl, rfl, rfl⟩
  · exact bg_plain F rfl fun kV doc pm an cdv ct us hl => match us, hl with | [u0, u1], _ => rfl
theorem sc13 : FnScope N13 ["many", "chosen"] (defScope (top 22)) := ⟨rfl, rfl, rfl, by decide +kernel, rfl, by decide +kernel, by decide +kernel⟩
theorem cf13 : prg.fns[13]? = some (compF cc 40 40 N13 (defScope (top 22)) (defBody (top 22))) := by kernel_rfl
theorem df13 (X : K.In h) (G : h.Ns mainGlobals mg) (c : SaysM fal fnl bsl K) : DefOk K mg 13 "_law_choose" 2 := by
  obtain ⟨fd, F⟩ := c.d.def_ 13 (d := D13) rfl
  have F : FunD K "_law_choose" "_law_choose" (defArgs (top 22)) (defBody (top 22)) (defScope (top 22)) [] [] (He.ga K "_law_choose") fd := F
  refine ⟨_, fd, N13, ["many", "chosen"], _, _, _, _, _, _, F, sc13, rfl, cf13, He.glo_ok X G (c.d.fact 13 (f := .glo "_law_choose") rfl), fun m ks pl hs => ?_⟩
  have hs := mem_shp hs
  have e : shp cc.shapes 13 = ([(2, [], [])] : List (Nat × List Str × List Pl)) := rfl
  rw [e] at hs
  simp only [List.mem_cons, List.not_mem_nil, or_false, Prod.mk.injEq] at hs
  rcases hs with ⟨rfl, rfl, rfl⟩
  · exact bg_plain F rfl fun kV doc pm an cdv ct us hl => match us, hl with | [u0, u1], _ => rfl
theorem sc14 : FnScope N14 ["nodes", "flat"] (defScope (top 23)) := ⟨rfl, rfl, rfl, by decide +kernel, rfl, by decide +kernel, by decide +kernel⟩
theorem cf14 : prg.fns[14]? = some (compF cc 40 40 N14 (defScope (top 23)) (defBody (top 23))) := by kernel_rfl
theorem df14 (X : K.In h) (G : h.Ns mainGlobals mg) (c : SaysM fal fnl bsl K) : DefOk K mg 14 "_law_plain_rows" 2 := by
  obtain ⟨fd, F⟩ := c.d.def_ 14 (d := D14) rfl
  have F : FunD K "_law_plain_rows" "_law_plain_rows" (defArgs (top 23)) (defBody (top 23)) (defScope (top 23)) [] [] (He.ga K "_law_plain_rows") fd := F
  refine ⟨_, fd, N14, ["nodes", "flat"], _, _, _, _, _, _, F, sc14, rfl, cf14, He.glo_ok X G (c.d.fact 14 (f := .glo "_law_plain_rows") rfl), fun m ks pl hs => ?_⟩
  have hs := mem_shp hs
  have e : shp cc.shapes 14 = ([(2, [], [])] : List (Nat × List Str × List Pl)) := rfl
  rw [e] at hs
  simp only [List.mem_cons, List.not_mem_nil, or_false, Prod.mk.injEq] at hs
  rcases hs with ⟨rfl, rfl, rfl⟩
  · exact bg_plain F rfl fun kV doc pm an cdv ct us hl => match us, hl with | [u0, u1], _ => rfl
theorem sc15 : FnScope N15 ["which", "nodes", "names"] (defScope (top 24)) := ⟨rfl, rfl, rfl, by decide +kernel, rfl, by decide +kernel, by decide +kernel⟩
theorem cf15 : prg.fns[15]? = some (compF cc 40 40 N15 (defScope (top 24)) (defBody (top 24))) := by kernel_rfl
theorem df15 (X : K.In h) (G : h.Ns mainGlobals mg) (c : SaysM fal fnl bsl K) : DefOk K mg 15 "_law_refused" 3 := by
  obtain ⟨fd, F⟩ := c.d.def_ 15 (d := D15) rfl
  have F : FunD K "_law_refused" "_law_refused" (defArgs (top 24)) (defBody (top 24)) (defScope (top 24)) [] [] (He.ga K "_law_refused") fd := F
  refine ⟨_, fd, N15, ["which", "nodes", "names"], _, _, _, _, _, _, F, sc15, rfl, cf15, He.glo_ok X G (c.d.fact 15 (f := .glo "_law_refused") rfl), fun m ks pl hs => ?_⟩
  have hs := mem_shp hs
  have e : shp cc.shapes 15 = ([(3, [], [])] : List (Nat × List Str × List Pl)) := rfl
  rw [e] at hs
  simp only [List.mem_cons, List.not_mem_nil, or_false, Prod.mk.injEq] at hs
  rcases hs with ⟨rfl, rfl, rfl⟩
  · exact bg_plain F rfl fun kV doc pm an cdv ct us hl => match us, hl with | [u0, u1, u2], _ => rfl
theorem sc16 : FnScope N16 ["edges"] (defScope (top 25)) := ⟨rfl, rfl, rfl, by decide +kernel, rfl, by decide +kernel, by decide +kernel⟩
theorem cf16 : prg.fns[16]? = some (compF cc 40 40 N16 (defScope (top 25)) (defBody (top 25))) := by kernel_rfl
theorem df16 (X : K.In h) (G : h.Ns mainGlobals mg) (c : SaysM fal fnl bsl K) : DefOk K mg 16 "_law_maps" 1 := by
  obtain ⟨fd, F⟩ := c.d.def_ 16 (d := D16) rfl
  have F : FunD K "_law_maps" "_law_maps" (defArgs (top 25)) (defBody (top 25)) (defScope (top 25)) [] [] (He.ga K "_law_maps") fd := F
  refine ⟨_, fd, N16, ["edges"], _, _, _, _, _, _, F, sc16, rfl, cf16, He.glo_ok X G (c.d.fact 16 (f := .glo "_law_maps") rfl), fun m ks pl hs => ?_⟩
  have hs := mem_shp hs
  have e : shp cc.shapes 16 = ([(1, [], [])] : List (Nat × List Str × List Pl)) := rfl
  rw [e] at hs
  simp only [List.mem_cons, List.not_mem_nil, or_false, Prod.mk.injEq] at hs
  rcases hs with ⟨rfl, rfl, rfl⟩
  · exact bg_plain F rfl fun kV doc pm an cdv ct us hl => match us, hl with | [u0], _ => rfl
theorem sc17 : FnScope N17 ["row", "names"] (defScope (top 26)) := ⟨rfl, rfl, rfl, by decide +kernel, rfl, by decide +kernel, by decide +kernel⟩
theorem cf17 : prg.fns[17]? = some (compF cc 40 40 N17 (defScope (top 26)) (defBody (top 26))) := by kernel_rfl
theorem df17 (X : K.In h) (G : h.Ns mainGlobals mg) (c : SaysM fal fnl bsl K) : DefOk K mg 17 "_law_entry" 2 := by
  obtain ⟨fd, F⟩ := c.d.def_ 17 (d := D17) rfl
  have F : FunD K "_law_entry" "_law_entry" (defArgs (top 26)) (defBody (top 26)) (defScope (top 26)) [] [] (He.ga K "_law_entry") fd := F
  refine ⟨_, fd, N17, ["row", "names"], _, _, _, _, _, _, F, sc17, rfl, cf17, He.glo_ok X G (c.d.fact 17 (f := .glo "_law_entry") rfl), fun m ks pl hs => ?_⟩
  have hs := mem_shp hs
  have e : shp cc.shapes 17 = ([(2, [], [])] : List (Nat × List Str × List Pl)) := rfl
  rw [e] at hs
  simp only [List.mem_cons, List.not_mem_nil, or_false, Prod.mk.injEq] at hs
  rcases hs with ⟨rfl, rfl, rfl⟩
  · exact bg_plain F rfl fun kV doc pm an cdv ct us hl => match us, hl with | [u0, u1], _ => rfl
theorem sc18 : FnScope N18 ["script"] (defScope (top 27)) := ⟨rfl, rfl, rfl, by decide +kernel, rfl, by decide +kernel, by decide +kernel⟩
theorem cf18 : prg.fns[18]? = some (compF cc 40 40 N18 (defScope (top 27)) (defBody (top 27))) := by kernel_rfl
theorem df18 (X : K.In h) (G : h.Ns mainGlobals mg) (c : SaysM fal fnl bsl K) : DefOk K mg 18 "law" 1 := by
  obtain ⟨fd, F⟩ := c.d.def_ 18 (d := D18) rfl
  have F : FunD K "law" "law" (defArgs (top 27)) (defBody (top 27)) (defScope (top 27)) [] [] (He.ga K "law") fd := F
  refine ⟨_, fd, N18, ["script"], _, _, _, _, _, _, F, sc18, rfl, cf18, He.glo_ok X G (c.d.fact 18 (f := .glo "law") rfl), fun m ks pl hs => ?_⟩
  have hs := mem_shp hs
  have e : shp cc.shapes 18 = ([] : List (Nat × List Str × List Pl)) := rfl
  rw [e] at hs
  cases hs
theorem defs (X : K.In h) (G : h.Ns mainGlobals mg) (c : SaysM fal fnl bsl K) : Defs P w K mg base (Cx K) cc prg 40 40 where
  fns := fun i x np hi => match i, hi with
    | 0, hi => by cases hi; exact df0 X G c
    | 1, hi => by cases hi; exact df1 X G c
    | 2, hi => by cases hi; exact df2 X G c
    | 3, hi => by cases hi; exact df3 X G c
    | 4, hi => by cases hi; exact df4 X G c
    | 5, hi => by cases hi; exact df5 X G c
    | 6, hi => by cases hi; exact df6 X G c
    | 7, hi => by cases hi; exact df7 X G c
    | 8, hi => by cases hi; exact df8 X G c
    | 9, hi => by cases hi; exact df9 X G c
    | 10, hi => by cases hi; exact df10 X G c
    | 11, hi => by cases hi; exact df11 X G c
    | 12, hi => by cases hi; exact df12 X G c
    | 13, hi => by cases hi; exact df13 X G c
    | 14, hi => by cases hi; exact df14 X G c
    | 15, hi => by cases hi; exact df15 X G c
    | 16, hi => by cases hi; exact df16 X G c
    | 17, hi => by cases hi; exact df17 X G c
    | 18, hi => by cases hi; exact df18 X G c
    | n + 19, hi => by cases hi
  nums := fun x i hx => by
    simp only [cc, List.mem_cons, List.not_mem_nil, or_false, Prod.mk.injEq] at hx
    rcases hx with ⟨rfl, rfl⟩ | ⟨rfl, rfl⟩
    · obtain ⟨t, e⟩ := He.int_ok X G (c.d.fact 31 (f := .int "MOST_COUNTED" 20) rfl); exact ⟨_, e, t, rfl⟩
    · obtain ⟨t, e⟩ := He.int_ok X G (c.d.fact 32 (f := .int "MOST_NAMED" 21) rfl); exact ⟨_, e, t, rfl⟩
  blt := fun x hx => by
    simp only [bNames, List.mem_cons, List.not_mem_nil, or_false] at hx
    rcases hx with rfl | rfl | rfl | rfl | rfl | rfl | rfl | rfl | rfl | rfl | rfl | rfl
    · exact He.free_ok X G (c.d.fact 19 (f := .free "len") rfl)
    · exact He.free_ok X G (c.d.fact 20 (f := .free "int") rfl)
    · exact He.free_ok X G (c.d.fact 21 (f := .free "str") rfl)
    · exact He.free_ok X G (c.d.fact 22 (f := .free "abs") rfl)
    · exact He.free_ok X G (c.d.fact 23 (f := .free "max") rfl)
    · exact He.free_ok X G (c.d.fact 24 (f := .free "min") rfl)
    · exact He.free_ok X G (c.d.fact 25 (f := .free "list") rfl)
    · exact He.free_ok X G (c.d.fact 26 (f := .free "tuple") rfl)
    · exact He.free_ok X G (c.d.fact 27 (f := .free "range") rfl)
    · exact He.free_ok X G (c.d.fact 28 (f := .free "isinstance") rfl)
    · exact He.free_ok X G (c.d.fact 29 (f := .free "bool") rfl)
    · exact He.free_ok X G (c.d.fact 30 (f := .free "dict") rfl)
  combs := fun x hx => by
    simp only [cc, List.mem_cons, List.not_mem_nil, or_false] at hx
    rcases hx with rfl
    · exact c.bl (by simp [bsl]) X G
  exc := fun i x hi => match i, hi with
    | 0, hi => by cases hi; exact exc_mk X G (c.d.fact 33 (f := .glo "OutOfRange") rfl) (c.d.fact 34 (f := .exc "OutOfRange") rfl) (by decide +kernel)
    | n + 1, hi => by cases hi
  sub := fun i j => by
    obtain ⟨a, ha, ea⟩ : ∃ a, a < 1 ∧ (if i < 1 then i else 0) = a := ⟨_, by split <;> omega, rfl⟩
    obtain ⟨b, hb, eb⟩ : ∃ b, b < 1 ∧ (if j < 1 then j else 0) = b := ⟨_, by split <;> omega, rfl⟩
    show PySem.W.exmOne K _ _ = some (subT i j)
    unfold Cx subT
    rw [ea, eb]
    match a, b, ha, hb with
    | 0, 0, _, _ => exact He.exm_ok (c.d.fact 35 (f := .exm "OutOfRange" "OutOfRange" true) rfl)
end
abbrev R : PySem.W.OpenRow := PySem.W.OpenLaw.row PySem.Challenge.rw_kindstellterms_k85_whole_numbers_of_plai
abbrev hk : PySem.W.Hook := hookM 4 fal fnl bsl
def ob (s : PySem.W.SharedT) : AlM := obsMG 4 fal fnl bsl (HandSHeadRun.getT s)
theorem ob_eq (s : PySem.W.SharedT) : ob s = hk.obs s.abs := obsMG_eq (HandSHeadRun.getT_eq s)
def loose0 : List PySem.Str := ["DrawnonceError", "OutOfRange", "MOST_COUNTED", "MOST_NAMED", "check_counted", "count_entry", "next_count", "counted_rows", "count_terms", "count_flat", "headed_count", "plain_rows", "count_plain", "count_plain_flat", "plain_table", "_law_cell", "_law_same", "_law_choose", "_law_plain_rows", "_law_refused", "_law_maps", "_law_entry"]
def loose : List PySem.Str := loose0
abbrev qv : Program := PySem.W.view R.prog [0, 27]
theorem run (w : World) : HandSHeadRun.RunEqI R qv hk ob 6000 loose w := by
  unfold HandSHeadRun.RunEqI
  kernel_rfl
theorem facts {P : Program} {w : World} {K : Fg} {h : Heap} {mg : Str → Option Value} {f : Addr} (X : K.In h) (G : h.Ns mainGlobals mg) (hfa : mg ("law" : Str) = some (.ref f)) (c : SaysM fal fnl bsl K) :
    ∃ fd : FuncData, (∀ (s : Shared) (v : Value), BindsTo s fd ⟨[v], []⟩ [("script", v)]) ∧ ∀ (n : Nat) (base : Heap), FnOk P w K mg base (L2.CX P w) n f fd ["script"] (Phi K (Cx K) 1 (prg.run n 18)) := by
  obtain ⟨fd, F⟩ := c.d.def_ 18 (d := D18) rfl
  have F : FunD K "law" "law" (defArgs (top 27)) (defBody (top 27)) (defScope (top 27)) [] [] (He.ga K "law") fd := F
  have e := hfa.symm.trans (He.glo_ok X G (c.d.fact 18 (f := .glo "law") rfl))
  cases e
  have b := FunD.bindsA (ps := ["script"]) F fun _ _ _ _ _ _ us hl => match us, hl with | [_], _ => rfl
  refine ⟨fd, fun s v => b s [v] rfl, fun n base => ?_⟩
  cases n with
  | zero =>
    refine ⟨fun vs H Q E z => z.len, fun A outer s H args us vs Q E hr he hb hv hs => ?_⟩
    obtain ⟨F, own, M, as, hl, c, ha, hm⟩ := hs
    exact hm.elim
  | succ n => exact fn_ok ((defs (P := P) (w := w) (base := base) X G c).fa n) F sc18 cf18
theorem holds_of (law_true : ∀ ns : List Int, ns.length ≤ 63 → ∃ M, prg.run 40 18 [.d (.rol (ns.map .int))] [] = .ok (.d (.bl true)) M) (hw : PySem.Challenge.rw_kindstellterms_k85_whole_numbers_of_plai.row.toRowW.promised) : R.Holds := by
  refine HandSHeadRun.head_imp (r := R) (q := qv) (H := hk) (ob := ob) (M := 6000) (loose := loose) (d := HandSHeadRun.topDef R.prog 27) (kwd := []) ob_eq
    run (by kernel_rfl) (by kernel_rfl) (by kernel_rfl) (by rfl) (by first | assumption | decide +kernel) (by decide +kernel) ⟨rfl, rfl, rfl, rfl, rfl, by decide +kernel⟩ hw ?hc
  case hc =>
    refine walk_M (l := PySem.Challenge.rw_kindstellterms_k85_whole_numbers_of_plai) (n := 63) (k := 40) (x := "script") rfl (by decide) (by kernel_rfl) ⟨rfl, by decide, by decide⟩ ?F
    intro w mg fa h Y G hmg0
    obtain ⟨K, KX, c⟩ := Y
    have hmg : mg ("law" : PySem.Str) = some (.ref fa) := by
      have e : (HandSHeadRun.topDef R.prog 27).name = ("law" : PySem.Str) := by kernel_rfl
      rw [← e]
      exact hmg0
    obtain ⟨fd, hb, hF⟩ := facts (P := (PySem.Challenge.rw_kindstellterms_k85_whole_numbers_of_plai).prog) (w := w) KX G hmg c
    exact ⟨K, fd, Phi K (Cx K) 1 (prg.run 40 18), KX, hb, fun H a ns hl hS => law_phi hS (law_true ns hl), fun base _ _ => hF 40 base⟩
end K85hd

set_option Elab.async false
set_option linter.all false
set_option maxRecDepth 100000
/-! Mini S: the small language's equations, for simp. -/
namespace Mini
open PySem PySem.Spec L2
/-- the readings as something opaque: whatever keeps these equations -/
structure Mi where
  ev : W → E → List A → List O → R A
  evT : W → E → List A → List O → R Bool
  evs : W → List E → List A → List O → R (List A)
  evA : W → List E → List A → List O → R Bool
  exS : W → S → List A → List O → RS
  exs : W → List S → List A → List O → RS
  ev_var : ∀ {w : W} {δ : List A} {M : List O} {i : Nat}, ev w (.var i) δ M = match δ[i]? with
    | some (.un) => .no
    | some a => .ok a M
    | none => .no
  ev_cst : ∀ {w : W} {δ : List A} {M : List O} {x : D}, ev w (.cst x) δ M = .ok (.d x) M
  ev_bin : ∀ {w : W} {δ : List A} {M : List O} {o : Bin} {a b : E}, ev w (.bin o a b) δ M = (ev w a δ M).bind fun x M1 => (ev w b δ M1).bind fun y M2 => bin o x y M2
  ev_neg : ∀ {w : W} {δ : List A} {M : List O} {a : E}, ev w (.neg a) δ M = (ev w a δ M).bind fun x M1 => match x with
    | .d (.int i) => .ok (.d (.int (-i))) M1
    | _ => .no
  ev_cmp : ∀ {w : W} {δ : List A} {M : List O} {o : Cmp} {a b : E}, ev w (.cmp o a b) δ M = (ev w a δ M).bind fun x M1 => (ev w b δ M1).bind fun y M2 => cmpR o x y M2
  ev_chn : ∀ {w : W} {δ : List A} {M : List O} {o p : Cmp} {a b c : E}, ev w (.chn o p a b c) δ M = (ev w a δ M).bind fun x M1 => (ev w b δ M1).bind fun y M2 => match cmp o x y M2 with
    | some true => (ev w c δ M2).bind fun z M3 => cmpR p y z M3
    | some false => .ok (.d (.bl false)) M2
    | none => .no
  ev_nt : ∀ {w : W} {δ : List A} {M : List O} {a : E}, ev w (.nt a) δ M = (ev w a δ M).bind fun x M1 => match tru M1 x with
    | some k => .ok (.d (.bl (!k))) M1
    | none => .no
  ev_an : ∀ {w : W} {δ : List A} {M : List O} {a b : E}, ev w (.an a b) δ M = (ev w a δ M).bind fun x M1 => match tru M1 x with
    | some true => ev w b δ M1
    | some false => .ok x M1
    | none => .no
  ev_orr : ∀ {w : W} {δ : List A} {M : List O} {a b : E}, ev w (.orr a b) δ M = (ev w a δ M).bind fun x M1 => match tru M1 x with
    | some true => .ok x M1
    | some false => ev w b δ M1
    | none => .no
  ev_ifx : ∀ {w : W} {δ : List A} {M : List O} {t a b : E}, ev w (.ifx t a b) δ M = (evT w t δ M).bind fun k M1 => if k then ev w a δ M1 else ev w b δ M1
  ev_tup : ∀ {w : W} {δ : List A} {M : List O} {es : List E}, ev w (.tup es) δ M = (evs w es δ M).bind fun as M1 => match frzL (frz 8) M1 as with
    | some (ds, M2) => if ds.length ≤ sizeLine then .ok (.d (.tup ds)) M2 else .no
    | none => .no
  ev_lst : ∀ {w : W} {δ : List A} {M : List O} {es : List E}, ev w (.lst es) δ M = (evs w es δ M).bind fun as M1 => mkL M1 as
  ev_ix : ∀ {w : W} {δ : List A} {M : List O} {a b : E}, ev w (.ix a b) δ M = (ev w a δ M).bind fun x M1 => (ev w b δ M1).bind fun y M2 => ixA M2 x y
  ev_call : ∀ {w : W} {δ : List A} {M : List O} {f : Nat} {es ks : List E} {pl : List Pl}, ev w (.call f es ks pl) δ M = (evs w es δ M).bind fun as M1 => (evs w ks δ M1).bind fun bs M2 => pcall (w.run f) (fill A.d pl (as ++ bs)) M2
  ev_bi : ∀ {w : W} {δ : List A} {M : List O} {b : Bi} {es : List E}, ev w (.bi b es) δ M = (evs w es δ M).bind fun as M1 => bi b as M1
  ev_mt : ∀ {w : W} {δ : List A} {M : List O} {m : Mt} {a : E} {es : List E}, ev w (.mt m a es) δ M = (ev w a δ M).bind fun x M1 => if rcv m M1 x then (evs w es δ M1).bind fun as M2 => mt m x as M2 else .no
  ev_isi : ∀ {w : W} {δ : List A} {M : List O} {a : E} {ts : List Ty}, ev w (.isi a ts) δ M = (ev w a δ M).bind fun x M1 => match tyOf M1 x with
    | some t => .ok (.d (.bl (ts.any fun u => t.sub u))) M1
    | none => .no
  ev_comp : ∀ {w : W} {δ : List A} {M : List O} {elt : E} {tg : Tg} {k : IK} {its ifs : List E} {own : List Nat}, ev w (.comp elt tg k its ifs own) δ M = compR tg k own (evs w its) (evA w ifs) (ev w elt) δ M
  evs_nil : ∀ {w : W} {δ : List A} {M : List O}, evs w [] δ M = .ok [] M
  evs_cons : ∀ {w : W} {δ : List A} {M : List O} {e : E} {r : List E}, evs w (e :: r) δ M = (ev w e δ M).bind fun x M1 => (evs w r δ M1).bind fun xs M2 => .ok (x :: xs) M2
  evA_nil : ∀ {w : W}, evA w [] = fun _ M => .ok true M
  evA_cons : ∀ {w : W} {e : E} {r : List E}, evA w (e :: r) = evT w e
  evT_nt : ∀ {w : W} {δ : List A} {M : List O} {a : E}, evT w (.nt a) δ M = (evT w a δ M).bind fun k M1 => .ok (!k) M1
  evT_an : ∀ {w : W} {δ : List A} {M : List O} {a b : E}, evT w (.an a b) δ M = (evT w a δ M).bind fun k M1 => if k then evT w b δ M1 else .ok false M1
  evT_orr : ∀ {w : W} {δ : List A} {M : List O} {a b : E}, evT w (.orr a b) δ M = (evT w a δ M).bind fun k M1 => if k then .ok true M1 else evT w b δ M1
  evT_ifx : ∀ {w : W} {δ : List A} {M : List O} {t a b : E}, evT w (.ifx t a b) δ M = (evT w t δ M).bind fun k M1 => if k then evT w a δ M1 else evT w b δ M1
  evT_var : ∀ {w : W} {δ : List A} {M : List O} {i : Nat}, evT w (.var i) δ M = (ev w (.var i) δ M).bind fun x M1 => match tru M1 x with
    | some k => .ok k M1
    | none => .no
  evT_cmp : ∀ {w : W} {δ : List A} {M : List O} {o : Cmp} {a b : E}, evT w (.cmp o a b) δ M = (ev w (.cmp o a b) δ M).bind fun x M1 => match tru M1 x with
    | some k => .ok k M1
    | none => .no
  evT_chn : ∀ {w : W} {δ : List A} {M : List O} {o p : Cmp} {a b c : E}, evT w (.chn o p a b c) δ M = (ev w (.chn o p a b c) δ M).bind fun x M1 => match tru M1 x with
    | some k => .ok k M1
    | none => .no
  evT_isi : ∀ {w : W} {δ : List A} {M : List O} {a : E} {ts : List Ty}, evT w (.isi a ts) δ M = (ev w (.isi a ts) δ M).bind fun x M1 => match tru M1 x with
    | some k => .ok k M1
    | none => .no
  evT_call : ∀ {w : W} {δ : List A} {M : List O} {f : Nat} {es ks : List E} {pl : List Pl}, evT w (.call f es ks pl) δ M = (ev w (.call f es ks pl) δ M).bind fun x M1 => match tru M1 x with
    | some k => .ok k M1
    | none => .no
  exs_nil : ∀ {w : W} {δ : List A} {M : List O}, exs w [] δ M = .nx δ M
  exs_cons : ∀ {w : W} {δ : List A} {M : List O} {s : S} {r : List S}, exs w (s :: r) δ M = (exS w s δ M).andThen fun δ1 M1 => exs w r δ1 M1
  exS_asg : ∀ {w : W} {δ : List A} {M : List O} {tg : Tg} {e : E}, exS w (.asg tg e) δ M = (ev w e δ M).toS δ fun a M1 => match setTg tg a δ with
    | some δ1 => .nx δ1 M1
    | none => .no
  exS_aug : ∀ {w : W} {δ : List A} {M : List O} {i : Nat} {o : Bin} {e : E}, exS w (.aug i o e) δ M = augF i o (ev w e) δ M
  exS_ex : ∀ {w : W} {δ : List A} {M : List O} {e : E}, exS w (.ex e) δ M = (ev w e δ M).toS δ fun _ M1 => .nx δ M1
  exS_ret : ∀ {w : W} {δ : List A} {M : List O} {e : E}, exS w (.ret e) δ M = (ev w e δ M).toS δ fun a M1 => .rt a M1
  exS_retN : ∀ {w : W} {δ : List A} {M : List O}, exS w .retN δ M = .rt (.d .non) M
  exS_if : ∀ {w : W} {δ : List A} {M : List O} {t : E} {a b : List S}, exS w (.ifS t a b) δ M = (evT w t δ M).toS δ fun k M1 => if k then exs w a δ M1 else exs w b δ M1
  exS_for : ∀ {w : W} {δ : List A} {M : List O} {tg : Tg} {k : IK} {its : List E} {body : List S}, exS w (.forS tg k its body) δ M = (evs w its δ M).toS δ fun as M1 => match items k as M1 with
    | some (xs, M2) => forR tg (exs w body) xs δ M2
    | none => .no
  exS_whl : ∀ {w : W} {δ : List A} {M : List O} {t : E} {body : List S}, exS w (.whl t body) δ M = whlR (evT w t) (exs w body) w.turns δ M
  exS_pass : ∀ {w : W} {δ : List A} {M : List O}, exS w .pass δ M = .nx δ M
  exS_brk : ∀ {w : W} {δ : List A} {M : List O}, exS w .brk δ M = .bk δ M
  exS_cnt : ∀ {w : W} {δ : List A} {M : List O}, exS w .cnt δ M = .ct δ M
  exS_raise : ∀ {w : W} {δ : List A} {M : List O} {c : Nat}, exS w (.raise c) δ M = .ex ⟨c, []⟩ δ M
  exS_try : ∀ {w : W} {δ : List A} {M : List O} {b : List S} {c : Nat} {u : List S}, exS w (.tryS b c u) δ M = match exs w b δ M with
    | .ex x δ1 M1 => if w.sub x.c c then (exs w u δ1 M1).noX else .ex x δ1 M1
    | r => r
def mi : Mi where
  ev := Mini.ev
  evT := Mini.evT
  evs := Mini.evs
  evA := Mini.evA
  exS := Mini.exS
  exs := Mini.exs
  ev_var := rfl
  ev_cst := rfl
  ev_bin := rfl
  ev_neg := rfl
  ev_cmp := rfl
  ev_chn := rfl
  ev_nt := rfl
  ev_an := rfl
  ev_orr := rfl
  ev_ifx := rfl
  ev_tup := rfl
  ev_lst := rfl
  ev_ix := rfl
  ev_call := rfl
  ev_bi := rfl
  ev_mt := rfl
  ev_isi := rfl
  ev_comp := rfl
  evs_nil := rfl
  evs_cons := rfl
  evA_nil := rfl
  evA_cons := rfl
  evT_nt := rfl
  evT_an := rfl
  evT_orr := rfl
  evT_ifx := rfl
  evT_var := rfl
  evT_cmp := rfl
  evT_chn := rfl
  evT_isi := rfl
  evT_call := rfl
  exs_nil := rfl
  exs_cons := rfl
  exS_asg := rfl
  exS_aug := rfl
  exS_ex := rfl
  exS_ret := rfl
  exS_retN := rfl
  exS_if := rfl
  exS_for := rfl
  exS_whl := rfl
  exS_pass := rfl
  exS_brk := rfl
  exS_cnt := rfl
  exS_raise := rfl
  exS_try := rfl
section
variable {w : W} {δ : List A} {M : List O}
/-! values -/
theorem bin_add {i j : Int} : bin .add (.d (.int i)) (.d (.int j)) M = .ok (.d (.int (i + j))) M := rfl
theorem bin_sub {i j : Int} : bin .sub (.d (.int i)) (.d (.int j)) M = .ok (.d (.int (i - j))) M := rfl
theorem bin_mul {i j : Int} : bin .mul (.d (.int i)) (.d (.int j)) M = if okMul i j then .ok (.d (.int (i * j))) M else .no := rfl
theorem bin_fdv {i j : Int} : bin .fdv (.d (.int i)) (.d (.int j)) M = if okDiv j then .ok (.d (.int (i / j))) M else .no := rfl
theorem bin_mod {i j : Int} : bin .mod (.d (.int i)) (.d (.int j)) M = if 0 < j then .ok (.d (.int (i % j))) M else .no := rfl
theorem cmpR_lt {i j : Int} : cmpR .lt (.d (.int i)) (.d (.int j)) M = .ok (.d (.bl (decide (i < j)))) M := rfl
theorem cmpR_le {i j : Int} : cmpR .le (.d (.int i)) (.d (.int j)) M = .ok (.d (.bl (decide (i ≤ j)))) M := rfl
theorem cmpR_gt {i j : Int} : cmpR .gt (.d (.int i)) (.d (.int j)) M = .ok (.d (.bl (decide (j < i)))) M := rfl
theorem cmpR_eq {i j : Int} : cmpR .eq (.d (.int i)) (.d (.int j)) M = .ok (.d (.bl (i == j))) M := rfl
theorem cmpR_ne {i j : Int} : cmpR .ne (.d (.int i)) (.d (.int j)) M = .ok (.d (.bl (!(i == j)))) M := rfl
theorem cmp_le {i j : Int} : cmp .le (.d (.int i)) (.d (.int j)) M = some (decide (i ≤ j)) := rfl
theorem tru_bl {b : Bool} : tru M (.d (.bl b)) = some b := rfl
theorem set_one {i : Nat} {a : A} : setTg (.one i) a δ = some (δ.set i a) := rfl
theorem pcall_sc {run : List A → List O → R A} {as : List A} {ds : List D} {x : D} {M2 : List O} (h1 : denL (den 8 M) as = some ds) (h2 : run (ds.map A.d) [] = .ok (.d x) M2) (hx : x.isSc = true) : pcall run as M = .ok (.d x) M := by
  unfold pcall
  rw [h1]
  simp only
  rw [h2]
  simp only
  rw [if_pos hx]
theorem pcall_ex {run : List A → List O → R A} {as : List A} {ds : List D} {x : Ex} {M2 : List O} (h1 : denL (den 8 M) as = some ds) (h2 : run (ds.map A.d) [] = .ex x M2) : pcall run as M = .ex x M := by
  unfold pcall
  rw [h1]
  simp only
  rw [h2]
theorem denL_d : ∀ xs : List D, denL (den 8 M) (xs.map A.d) = some xs
  | [] => rfl
  | x :: r => by
    have e : denL (den 8 M) (A.d x :: r.map .d) = match den 8 M (.d x), denL (den 8 M) (r.map A.d) with
      | some x, some xs => some (x :: xs)
      | _, _ => none := rfl
    rw [List.map_cons, e, denL_d r]
    rfl
theorem denL_ds (k : Nat) : ∀ xs : List D, denL (den k M) (xs.map A.d) = some xs
  | [] => rfl
  | x :: r => by
    have e : denL (den k M) (A.d x :: r.map .d) = match den k M (.d x), denL (den k M) (r.map A.d) with
      | some x, some xs => some (x :: xs)
      | _, _ => none := rfl
    have e2 : den k M (.d x) = some x := by cases k <;> rfl
    rw [List.map_cons, e, denL_ds k r, e2]
/-- a cell of data -/
theorem den_cell {k n : Nat} {xs : List A} {ds : List D} (h : M[n]? = some (.lst xs)) (h2 : denL (den k M) xs = some ds) : den (k + 1) M (.cell n) = some (.lst ds) := by
  unfold den
  rw [h]
  simp only
  rw [h2]
/-- the items by their places: data -/
theorem atI_nat {α : Type} (xs : List α) (i : Nat) : atI xs (i : Int) = xs[i]? := by
  unfold atI ixN
  by_cases h : i < xs.length
  · rw [if_pos (by omega), if_pos (by omega)]
    simp
  · rw [if_pos (by omega), if_neg (by omega)]
    rw [List.getElem?_eq_none (by omega)]
    rfl
theorem ix_lst {ds : List D} {i : Nat} : ixA M (.d (.lst ds)) (.d (.int (i : Int))) = match ds[i]? with
    | some x => .ok (.d x) M
    | none => .no := by
  show (match atI (ds.map A.d) (i : Int) with
    | some x => R.ok x M
    | none => .no) = _
  rw [atI_nat, List.getElem?_map]
  cases ds[i]? <;> rfl
theorem ix_tup {ds : List D} {i : Nat} : ixA M (.d (.tup ds)) (.d (.int (i : Int))) = match ds[i]? with
    | some x => .ok (.d x) M
    | none => .no := by
  show (match atI ds (i : Int) with
    | some x => R.ok (A.d x) M
    | none => .no) = _
  rw [atI_nat]
theorem bi_len {ds : List D} : bi .len [.d (.lst ds)] M = .ok (.d (.int (ds.length : Nat))) M := by
  show (match lenA M (.d (.lst ds)) with
    | some n => R.ok (A.d (.int (n : Int))) M
    | none => .no) = _
  show R.ok (A.d (.int ((ds.map A.d).length : Nat))) M = _
  rw [List.length_map]
end
/-- a def's run, the readings opaque -/
def Mi.go (S : Mi) (f : Fn) (w : W) (as : List A) (M : List O) : R A := match S.exs w f.body (as ++ List.replicate (f.loc - as.length) .un) M with
  | .nx _ M1 => .ok (.d .non) M1
  | .rt a M1 => .ok a M1
  | .ex x _ M1 => .ex x M1
  | _ => .no
theorem mi_go (f : Fn) (w : W) (as : List A) (M : List O) : f.go w as M = mi.go f w as M := rfl
end Mini

set_option Elab.async false
set_option linter.all false
set_option maxRecDepth 100000
/-! Mini L: loops and lists of numbers. -/
namespace Mini
open PySem PySem.Spec L2

/-! ### mirrors -/
def fO {σ : Type} (f : σ → Int → Option σ) : List Int → σ → Option σ
  | [], s => some s
  | i :: r, s => match f s i with
    | some s1 => fO f r s1
    | none => none
def mpO (f : Int → Option Int) : List Int → Option (List Int)
  | [] => some []
  | i :: r => match f i, mpO f r with
    | some y, some ys => some (y :: ys)
    | _, _ => none
def rng1 (j : Int) : Option (List Int) := if inR j then some ((List.range j.toNat).map fun (i : Nat) => (i : Int)) else none
def rng2 (i j : Int) : Option (List Int) := if inR i && inR j then some ((List.range (j - i).toNat).map fun (n : Nat) => i + (n : Int)) else none
theorem items_r1 {j : Int} {xs : List Int} {M : List O} (h : rng1 j = some xs) : items .r1 [.d (.int j)] M = some (xs.map D.int, M) := by
  unfold rng1 at h
  show (if inR j then some ((List.range j.toNat).map fun i => D.int (i : Nat), M) else none) = _
  split at h
  · rename_i hz
    cases h
    rw [if_pos hz, List.map_map]
    rfl
  · cases h
theorem items_r2 {i j : Int} {xs : List Int} {M : List O} (h : rng2 i j = some xs) : items .r2 [.d (.int i), .d (.int j)] M = some (xs.map D.int, M) := by
  unfold rng2 at h
  show (if inR i && inR j then some ((List.range (j - i).toNat).map fun n => D.int (i + (n : Nat)), M) else none) = _
  split at h
  · rename_i hz
    cases h
    rw [if_pos hz, List.map_map]
    rfl
  · cases h
/-- a for over numbers, by its mirror -/
theorem forR_fO {σ : Type} {P : σ → List A → List O → Prop} {tg : Tg} {body : List A → List O → RS} {f : σ → Int → Option σ}
    (step : ∀ s i s1 δ M, f s i = some s1 → P s δ M → ∃ δ1 δ2 M2, setTg tg (.d (.int i)) δ = some δ1 ∧ (body δ1 M = .nx δ2 M2 ∨ body δ1 M = .ct δ2 M2) ∧ P s1 δ2 M2) :
    ∀ (xs : List Int) (s s1 : σ) (δ : List A) (M : List O), fO f xs s = some s1 → P s δ M → ∃ δ' M', forR tg body (xs.map D.int) δ M = .nx δ' M' ∧ P s1 δ' M'
  | [], s, s1, δ, M, h, p => by cases h; exact ⟨δ, M, rfl, p⟩
  | i :: r, s, s1, δ, M, h, p => by
    have h : (match f s i with
      | some s1 => fO f r s1
      | none => none) = some s1 := h
    split at h
    · rename_i s2 e1
      obtain ⟨δ1, δ2, M2, h1, h2, p2⟩ := step _ _ _ _ _ e1 p
      obtain ⟨δ', M', h3, p3⟩ := forR_fO step r s2 s1 δ2 M2 h p2
      refine ⟨δ', M', ?_, p3⟩
      rw [List.map_cons]
      unfold forR
      rw [h1]
      simp only
      rcases h2 with h2 | h2
      · rw [h2]; exact h3
      · rw [h2]; exact h3
    · cases h
/-! ### lists of numbers -/
abbrev il (r : List Int) : D := .lst (r.map D.int)
abbrev dR (rows : List (List Int)) : D := .lst (rows.map il)
theorem atI_map {α β : Type} (f : α → β) (xs : List α) (i : Int) : atI (xs.map f) i = (atI xs i).map f := by
  unfold atI
  rw [List.length_map]
  cases ixN xs.length i with
  | none => rfl
  | some j => simp [List.getElem?_map]
theorem ix_il {M : List O} {r : List Int} {i v : Int} (h : atI r i = some v) : ixA M (.d (il r)) (.d (.int i)) = .ok (.d (.int v)) M := by
  show (match atI ((r.map D.int).map A.d) i with
    | some x => R.ok x M
    | none => .no) = _
  rw [atI_map, atI_map, h]
  rfl
theorem ix_dR {M : List O} {rows : List (List Int)} {i : Int} {r : List Int} (h : atI rows i = some r) : ixA M (.d (dR rows)) (.d (.int i)) = .ok (.d (il r)) M := by
  show (match atI ((rows.map il).map A.d) i with
    | some x => R.ok x M
    | none => .no) = _
  rw [atI_map, atI_map, h]
  rfl
theorem len_il {M : List O} {r : List Int} : bi .len [.d (il r)] M = .ok (.d (.int (r.length : Nat))) M := by
  rw [bi_len, List.length_map]
theorem len_dR {M : List O} {r : List (List Int)} : bi .len [.d (dR r)] M = .ok (.d (.int (r.length : Nat))) M := by
  rw [bi_len, List.length_map]
theorem bi_min {M : List O} {i j : Int} : bi .min [.d (.int i), .d (.int j)] M = .ok (.d (.int (if j < i then j else i))) M := rfl
theorem bi_max {M : List O} {i j : Int} : bi .max [.d (.int i), .d (.int j)] M = .ok (.d (.int (if j > i then j else i))) M := rfl
def combO (n k : Int) : Option Int := if 0 ≤ n ∧ 0 ≤ k ∧ n ≤ 1000 then (if n < k then some 0 else if (combI n k).natAbs.log2 < bitsLine then some (combI n k) else none) else none
theorem bi_comb {M : List O} {n k v : Int} (h : combO n k = some v) : bi .comb [.d (.int n), .d (.int k)] M = .ok (.d (.int v)) M := by
  unfold combO at h
  show (if 0 ≤ n ∧ 0 ≤ k ∧ n ≤ 1000 then (if n < k then R.ok (A.d (.int 0)) M else if (combI n k).natAbs.log2 < bitsLine then .ok (.d (.int (combI n k))) M else .no) else .no) = _
  split at h
  · rename_i hz
    rw [if_pos hz]
    split at h
    · rename_i h1; cases h; rw [if_pos h1]
    · rename_i h1
      rw [if_neg h1]
      split at h
      · rename_i h2; cases h; rw [if_pos h2]
      · cases h
  · cases h
/-! ### comprehensions of numbers -/
theorem compL_ints {M : List O} {v : Nat} {δ : List A} {el : List A → List O → R A} {f : Int → Option Int}
    (h : ∀ x acc y, f x = some y → el (δ.set v (.d (.int x))) (M ++ [.lst acc]) = .ok (.d (.int y)) (M ++ [.lst acc])) :
    ∀ (xs ys : List Int) (acc : List A), mpO f xs = some ys → acc.length + xs.length ≤ sizeLine → compL M.length (.one v) δ (fun _ M => .ok true M) el (xs.map D.int) (M ++ [.lst acc]) = .ok () (M ++ [.lst (acc ++ ys.map fun y => A.d (D.int y))])
  | [], ys, acc, e, _ => by
    cases e
    rw [List.map_nil, List.map_nil, List.append_nil]
    rfl
  | x :: r, ys, acc, e, hl => by
    have e : (match f x, mpO f r with
      | some y, some ys => some (y :: ys)
      | _, _ => none) = some ys := e
    split at e
    · rename_i y ys' e1 e2
      cases e
      rw [List.map_cons]
      unfold compL
      simp only [set_one]
      rw [h x acc y e1]
      simp only
      have e3 : (M ++ [O.lst acc])[M.length]? = some (.lst acc) := by simp
      rw [e3]
      simp only
      rw [List.length_cons] at hl
      rw [if_pos (by omega)]
      have e4 : (M ++ [O.lst acc]).set M.length (.lst (acc ++ [.d (.int y)])) = M ++ [.lst (acc ++ [.d (.int y)])] := by simp
      rw [e4, compL_ints h r ys' _ e2 (by simp; omega)]
      simp
    · cases e
/-! ### while -/
/-- one test and turn: none where it ends -/
def whO {σ : Type} (f : σ → Option (Option σ)) : Nat → σ → Option σ
  | 0, _ => none
  | n + 1, s => match f s with
    | some none => some s
    | some (some s1) => whO f n s1
    | none => none
theorem whlR_whO {σ : Type} {P : σ → List A → List O → Prop} {t : List A → List O → R Bool} {body : List A → List O → RS} {f : σ → Option (Option σ)}
    (stop : ∀ s δ M, f s = some none → P s δ M → ∃ M1, t δ M = .ok false M1 ∧ P s δ M1)
    (step : ∀ s s1 δ M, f s = some (some s1) → P s δ M → ∃ M1 δ2 M2, t δ M = .ok true M1 ∧ body δ M1 = .nx δ2 M2 ∧ P s1 δ2 M2) :
    ∀ (n : Nat) (s s1 : σ) (δ : List A) (M : List O), whO f n s = some s1 → P s δ M → ∃ δ' M', whlR t body n δ M = .nx δ' M' ∧ P s1 δ' M'
  | 0, s, s1, δ, M, h, p => by cases h
  | n + 1, s, s1, δ, M, h, p => by
    have h : (match f s with
      | some none => some s
      | some (some s1) => whO f n s1
      | none => none) = some s1 := h
    unfold whlR
    split at h
    · rename_i e1
      cases h
      obtain ⟨M1, h1, p1⟩ := stop _ _ _ e1 p
      rw [h1]
      exact ⟨δ, M1, rfl, p1⟩
    · rename_i s2 e1
      obtain ⟨M1, δ2, M2, h1, h2, p2⟩ := step _ _ _ _ e1 p
      obtain ⟨δ', M', h3, p3⟩ := whlR_whO stop step n s2 s1 δ2 M2 h p2
      refine ⟨δ', M', ?_, p3⟩
      rw [h1]
      simp only [R.toS_ok, if_true]
      rw [h2]
      exact h3
    · cases h
/-! ### cells that hold lists of numbers -/
abbrev ai (r : List Int) : List A := r.map fun y => A.d (D.int y)
def Cells (M : List O) (bad : List Nat) (cs : List Nat) (rows : List (List Int)) : Prop := Al (fun c r => M[c]? = some (.lst (ai r)) ∧ c ∉ bad) cs rows
theorem Cells.app {M M' : List O} {bad cs : List Nat} {rows : List (List Int)} (h : Cells M bad cs rows) : Cells (M ++ M') bad cs rows := h.mono fun c r ⟨h1, h2⟩ => ⟨by
  rw [List.getElem?_append_left (List.getElem?_eq_some_iff.mp h1).1]; exact h1, h2⟩
theorem Cells.set {M : List O} {bad cs : List Nat} {rows : List (List Int)} {n : Nat} {o : O} (h : Cells M bad cs rows) (hn : n ∈ bad) : Cells (M.set n o) bad cs rows := h.mono fun c r ⟨h1, h2⟩ => ⟨by
  rw [List.getElem?_set_ne (fun e => h2 (by rw [← e]; exact hn))]; exact h1, h2⟩
theorem denL_ai {M : List O} (k : Nat) (r : List Int) : denL (den k M) (ai r) = some (r.map D.int) := by
  have := denL_ds (M := M) k (r.map D.int)
  rwa [List.map_map] at this
theorem Cells.den {M : List O} {bad : List Nat} {k : Nat} : ∀ {cs : List Nat} {rows : List (List Int)}, Cells M bad cs rows → denL (Mini.den (k + 1) M) (cs.map A.cell) = some (rows.map il)
  | _, _, .nil => rfl
  | _, _, .cons (a := c) (b := r) ⟨h1, _⟩ t => by
    have e := den_cell (k := k) h1 (denL_ai k r)
    have e2 := Cells.den (bad := bad) (k := k) t
    rw [List.map_cons, List.map_cons]
    unfold denL
    rw [e, e2]
/-- the outer list's cell -/
theorem Cells.outer {M : List O} {bad cs : List Nat} {rows : List (List Int)} {n : Nat} (h : Cells M bad cs rows) (hn : M[n]? = some (.lst (cs.map A.cell))) : Mini.den 8 M (.cell n) = some (dR rows) := den_cell (k := 7) hn (Cells.den (k := 6) h)
/-! ### freezing such cells -/
def CellsF (M : List O) (bad : List Nat) (cs : List Nat) (rows : List (List Int)) : Prop := Al (fun c r => (M[c]? = some (.lst (ai r)) ∨ M[c]? = some (.frz (il r))) ∧ c ∉ bad) cs rows
theorem Cells.toF {M : List O} {bad cs : List Nat} {rows : List (List Int)} (h : Cells M bad cs rows) : CellsF M bad cs rows := h.mono fun c r ⟨h1, h2⟩ => ⟨.inl h1, h2⟩
theorem ai_inj {r r' : List Int} (h : ai r = ai r') : r = r' := by
  have := congrArg (List.map fun a : A => match a with
    | .d (.int i) => i
    | _ => 0) h
  simpa [List.map_map, Function.comp_def] using this
theorem frzL_ai {M : List O} (k : Nat) : ∀ r : List Int, frzL (frz k) M (ai r) = some (r.map D.int, M)
  | [] => rfl
  | y :: r => by
    have e2 : frz k M (.d (.int y)) = some (.int y, M) := by cases k <;> rfl
    show (match frz k M (.d (.int y)) with
      | some (x, M1) => (match frzL (frz k) M1 (ai r) with
        | some (xs, M2) => some (x :: xs, M2)
        | none => none)
      | none => none) = _
    rw [e2]
    simp only
    rw [frzL_ai k r]
    rfl
theorem frz_cellF {M : List O} {k c : Nat} {r : List Int} (h : M[c]? = some (.lst (ai r)) ∨ M[c]? = some (.frz (il r))) :
    ∃ M1, frz (k + 1) M (.cell c) = some (il r, M1) ∧ M1[c]? = some (.frz (il r)) ∧ (∀ n, n ≠ c → M1[n]? = M[n]?) := by
  rcases h with h | h
  · refine ⟨M.set c (.frz (il r)), ?_, ?_, fun n hn => List.getElem?_set_ne (Ne.symm hn)⟩
    · show (match M[c]? with
        | some (.frz x) => some (x, M)
        | some (.lst xs) => (match frzL (frz k) M xs with
          | some (ds, M1) => (match M1[c]? with
            | some (.lst _) => some (D.lst ds, M1.set c (.frz (.lst ds)))
            | _ => none)
          | none => none)
        | _ => none) = _
      rw [h]
      simp only
      rw [frzL_ai k r]
      simp only
      rw [h]
    · exact List.getElem?_set_self (List.getElem?_eq_some_iff.mp h).1
  · refine ⟨M, ?_, h, fun n hn => rfl⟩
    show (match M[c]? with
        | some (.frz x) => some (x, M)
        | some (.lst xs) => (match frzL (frz k) M xs with
          | some (ds, M1) => (match M1[c]? with
            | some (.lst _) => some (D.lst ds, M1.set c (.frz (.lst ds)))
            | _ => none)
          | none => none)
        | _ => none) = _
    rw [h]
theorem CellsF.after {M M1 : List O} {bad : List Nat} {c : Nat} {r : List Int} (h0 : M[c]? = some (.lst (ai r)) ∨ M[c]? = some (.frz (il r))) (h1 : M1[c]? = some (.frz (il r))) (h2 : ∀ n, n ≠ c → M1[n]? = M[n]?) {cs : List Nat} {rows : List (List Int)} (h : CellsF M bad cs rows) : CellsF M1 bad cs rows :=
  h.mono fun c' r' ⟨q, hb⟩ => ⟨by
    by_cases hc : c' = c
    · subst hc
      right
      rw [h1]
      rcases h0 with h0 | h0 <;> rcases q with q | q <;> rw [h0] at q
      · simp only [Option.some.injEq, O.lst.injEq] at q
        rw [ai_inj q]
      · cases q
      · cases q
      · exact q
    · rw [h2 c' hc]; exact q, hb⟩
theorem CellsF.frzL {k : Nat} {bad : List Nat} : ∀ {cs : List Nat} {rows : List (List Int)} {M : List O}, CellsF M bad cs rows → ∃ M1, Mini.frzL (frz (k + 1)) M (cs.map A.cell) = some (rows.map il, M1) ∧ (∀ n ∈ bad, M1[n]? = M[n]?) ∧ ∀ cs' rows', CellsF M bad cs' rows' → CellsF M1 bad cs' rows'
  | _, _, M, .nil => ⟨M, rfl, fun _ _ => rfl, fun _ _ h => h⟩
  | _, _, M, .cons (a := c) (b := r) ⟨q, hb⟩ t => by
    obtain ⟨M1, h1, h2, h3⟩ := frz_cellF (k := k) q
    obtain ⟨M2, h4, h5, h6⟩ := CellsF.frzL (k := k) (CellsF.after q h2 h3 t)
    refine ⟨M2, ?_, fun n hn => ?_, fun cs' rows' h => h6 _ _ (CellsF.after q h2 h3 h)⟩
    · rw [List.map_cons, List.map_cons]
      unfold Mini.frzL
      rw [h1]
      simp only
      rw [h4]
    · rw [h5 n hn]
      exact h3 n fun e => hb (e ▸ hn)
end Mini

set_option Elab.async false
set_option linter.all false
set_option maxRecDepth 100000
/-! k85: the compiled bodies alone. -/
namespace K85
open PySem Mini
def subT (i j : Nat) : Bool := (([[true]] : List (List Bool)).getD (if i < 1 then i else 0) []).getD (if j < 1 then j else 0) false
def B0 : List S :=
      [Mini.S.ifS
          ((Mini.E.chn Mini.Cmp.le Mini.Cmp.le (Mini.E.cst (Mini.D.int (Int.ofNat 0))) (Mini.E.var 0)
                  (Mini.E.cst (Mini.D.int (Int.ofNat 20)))).nt.orr
            (Mini.E.chn Mini.Cmp.le Mini.Cmp.le (Mini.E.cst (Mini.D.int (Int.ofNat 0))) (Mini.E.var 1)
                (Mini.E.cst (Mini.D.int (Int.ofNat 21)))).nt)
          [Mini.S.raise 0] []]
def F0 : Fn := ⟨2, B0⟩
def B1 : List S :=
      [Mini.S.ret
          ((Mini.E.cmp Mini.Cmp.lt (Mini.E.var 1) (Mini.E.bi Mini.Bi.len [Mini.E.var 0])).ifx
            ((Mini.E.var 0).ix (Mini.E.var 1)) (Mini.E.cst (Mini.D.int (Int.ofNat 0))))]
def F1 : Fn := ⟨2, B1⟩
def B2 : List S :=
      [Mini.S.asg (Mini.Tg.one 3) (Mini.E.bi Mini.Bi.len [Mini.E.var 0]),
        Mini.S.asg (Mini.Tg.one 4)
          (Mini.E.call 1
            [(Mini.E.var 0).ix (Mini.E.cst (Mini.D.int (Int.ofNat 1))).neg,
              Mini.E.bin Mini.Bin.add (Mini.E.var 1) (Mini.E.cst (Mini.D.int (Int.ofNat 1)))]
            [] []),
        Mini.S.forS (Mini.Tg.one 5) Mini.IK.r1 [Mini.E.var 3]
          [Mini.S.asg (Mini.Tg.one 6)
              ((Mini.E.var 0).ix
                (Mini.E.bin Mini.Bin.sub
                  (Mini.E.bin Mini.Bin.sub (Mini.E.var 3) (Mini.E.cst (Mini.D.int (Int.ofNat 1)))) (Mini.E.var 5))),
            Mini.S.forS (Mini.Tg.one 7) Mini.IK.r2
              [Mini.E.bi Mini.Bi.max
                  [Mini.E.cst (Mini.D.int (Int.ofNat 0)),
                    Mini.E.bin Mini.Bin.sub
                      (Mini.E.bin Mini.Bin.add (Mini.E.var 1) (Mini.E.cst (Mini.D.int (Int.ofNat 1))))
                      (Mini.E.bi Mini.Bi.len [Mini.E.var 6])],
                Mini.E.bi Mini.Bi.min
                  [Mini.E.bin Mini.Bin.add (Mini.E.var 1) (Mini.E.cst (Mini.D.int (Int.ofNat 1))),
                    Mini.E.bi Mini.Bi.len [(Mini.E.var 0).ix (Mini.E.var 5)]]]
              [Mini.S.asg (Mini.Tg.one 8)
                  (Mini.E.bin Mini.Bin.mul (((Mini.E.var 0).ix (Mini.E.var 5)).ix (Mini.E.var 7))
                    ((Mini.E.var 6).ix (Mini.E.bin Mini.Bin.sub (Mini.E.var 1) (Mini.E.var 7)))),
                Mini.S.aug 4 Mini.Bin.add
                  ((Mini.E.var 2).ifx (Mini.E.var 8)
                    (Mini.E.bin Mini.Bin.mul (Mini.E.bi Mini.Bi.comb [Mini.E.var 1, Mini.E.var 7]) (Mini.E.var 8)))]],
        Mini.S.ret (Mini.E.var 4)]
def F2 : Fn := ⟨9, B2⟩
def B3 : List S :=
      [Mini.S.asg (Mini.Tg.one 2)
          (Mini.E.lst [Mini.E.lst [Mini.E.cst (Mini.D.int (Int.ofNat 0)), Mini.E.cst (Mini.D.int (Int.ofNat 1))]]),
        Mini.S.whl (Mini.E.cmp Mini.Cmp.le (Mini.E.bi Mini.Bi.len [Mini.E.var 2]) (Mini.E.var 0))
          [Mini.S.ex
              (Mini.E.mt Mini.Mt.append (Mini.E.var 2)
                [(Mini.E.call 2 [Mini.E.var 2, Mini.E.var 3, Mini.E.var 1] [] []).comp (Mini.Tg.one 3) Mini.IK.r1
                    [Mini.E.bin Mini.Bin.add (Mini.E.bi Mini.Bi.len [Mini.E.var 2])
                        (Mini.E.cst (Mini.D.int (Int.ofNat 2)))]
                    [] [3]])],
        Mini.S.ret (Mini.E.var 2)]
def F3 : Fn := ⟨4, B3⟩
def B4 : List S :=
      [Mini.S.ex (Mini.E.call 0 [Mini.E.var 0, Mini.E.var 1] [] []),
        Mini.S.ret
          (Mini.E.call 1
            [(Mini.E.call 3 [Mini.E.var 0] [] [Mini.Pl.arg 0, Mini.Pl.cst (Mini.D.bl false)]).ix (Mini.E.var 0),
              Mini.E.var 1]
            [] [])]
def F4 : Fn := ⟨2, B4⟩
def B5 : List S :=
      [Mini.S.ex (Mini.E.call 0 [Mini.E.var 0, Mini.E.var 1] [] []),
        Mini.S.ret
          (Mini.E.call 1
            [(Mini.E.call 3 [Mini.E.var 0] [Mini.E.cst (Mini.D.bl true)] []).ix (Mini.E.var 0), Mini.E.var 1] [] [])]
def F5 : Fn := ⟨2, B5⟩
def B6 : List S :=
      [Mini.S.asg (Mini.Tg.one 4) (Mini.E.bi Mini.Bi.len [Mini.E.var 0]),
        Mini.S.asg (Mini.Tg.one 5) (Mini.E.cst (Mini.D.int (Int.ofNat 0))),
        Mini.S.forS (Mini.Tg.one 6) Mini.IK.r1 [Mini.E.var 4]
          [Mini.S.asg (Mini.Tg.one 7)
              ((Mini.E.var 0).ix
                (Mini.E.bin Mini.Bin.sub
                  (Mini.E.bin Mini.Bin.sub (Mini.E.var 4) (Mini.E.cst (Mini.D.int (Int.ofNat 1)))) (Mini.E.var 6))),
            Mini.S.forS (Mini.Tg.one 8) Mini.IK.r1
              [Mini.E.bi Mini.Bi.min
                  [Mini.E.bin Mini.Bin.add (Mini.E.var 2) (Mini.E.cst (Mini.D.int (Int.ofNat 1))),
                    Mini.E.bi Mini.Bi.len [(Mini.E.var 1).ix (Mini.E.var 6)]]]
              [Mini.S.asg (Mini.Tg.one 9)
                  (Mini.E.bin Mini.Bin.mul (((Mini.E.var 1).ix (Mini.E.var 6)).ix (Mini.E.var 8))
                    (Mini.E.call 1 [Mini.E.var 7, Mini.E.bin Mini.Bin.sub (Mini.E.var 2) (Mini.E.var 8)] [] [])),
                Mini.S.aug 5 Mini.Bin.add
                  ((Mini.E.var 3).ifx (Mini.E.var 9)
                    (Mini.E.bin Mini.Bin.mul (Mini.E.bi Mini.Bi.comb [Mini.E.var 2, Mini.E.var 8]) (Mini.E.var 9)))]],
        Mini.S.ret (Mini.E.var 5)]
def F6 : Fn := ⟨10, B6⟩
def B7 : List S :=
      [Mini.S.asg (Mini.Tg.one 2)
          (Mini.E.lst [Mini.E.lst [Mini.E.cst (Mini.D.int (Int.ofNat 0)), Mini.E.cst (Mini.D.int (Int.ofNat 1))]]),
        Mini.S.asg (Mini.Tg.one 3)
          (Mini.E.lst [Mini.E.lst [Mini.E.cst (Mini.D.int (Int.ofNat 0)), Mini.E.cst (Mini.D.int (Int.ofNat 1))]]),
        Mini.S.whl (Mini.E.cmp Mini.Cmp.le (Mini.E.bi Mini.Bi.len [Mini.E.var 2]) (Mini.E.var 0))
          [Mini.S.asg (Mini.Tg.one 4)
              (Mini.E.bin Mini.Bin.add (Mini.E.bi Mini.Bi.len [Mini.E.var 2]) (Mini.E.cst (Mini.D.int (Int.ofNat 2)))),
            Mini.S.asg (Mini.Tg.one 5)
              ((Mini.E.call 6 [Mini.E.var 2, Mini.E.var 3, Mini.E.var 6, Mini.E.var 1] [] []).comp (Mini.Tg.one 6)
                Mini.IK.r1 [Mini.E.var 4] [] [6]),
            Mini.S.ex (Mini.E.mt Mini.Mt.append (Mini.E.var 3) [Mini.E.var 5]),
            Mini.S.ex
              (Mini.E.mt Mini.Mt.append (Mini.E.var 2)
                [(Mini.E.bin Mini.Bin.add
                        (Mini.E.call 1
                          [(Mini.E.var 2).ix (Mini.E.cst (Mini.D.int (Int.ofNat 1))).neg,
                            Mini.E.bin Mini.Bin.add (Mini.E.var 6) (Mini.E.cst (Mini.D.int (Int.ofNat 1)))]
                          [] [])
                        ((Mini.E.var 5).ix (Mini.E.var 6))).comp
                    (Mini.Tg.one 6) Mini.IK.r1 [Mini.E.var 4] [] [6]])],
        Mini.S.ret (Mini.E.tup [Mini.E.var 2, Mini.E.var 3])]
def F7 : Fn := ⟨7, B7⟩
def B8 : List S :=
      [Mini.S.ex (Mini.E.call 0 [Mini.E.var 0, Mini.E.var 1] [] []),
        Mini.S.ret
          (Mini.E.call 1
            [((Mini.E.call 7 [Mini.E.var 0] [] [Mini.Pl.arg 0, Mini.Pl.cst (Mini.D.bl false)]).ix
                    (Mini.E.cst (Mini.D.int (Int.ofNat 0)))).ix
                (Mini.E.var 0),
              Mini.E.var 1]
            [] [])]
def F8 : Fn := ⟨2, B8⟩
def B9 : List S :=
      [Mini.S.ex (Mini.E.call 0 [Mini.E.var 0, Mini.E.var 1] [] []),
        Mini.S.ret
          (Mini.E.call 1
            [((Mini.E.call 7 [Mini.E.var 0] [Mini.E.cst (Mini.D.bl true)] []).ix
                    (Mini.E.cst (Mini.D.int (Int.ofNat 0)))).ix
                (Mini.E.var 0),
              Mini.E.var 1]
            [] [])]
def F9 : Fn := ⟨2, B9⟩
def B10 : List S :=
      [Mini.S.ex (Mini.E.call 0 [Mini.E.var 0, Mini.E.var 1] [] []),
        Mini.S.asg (Mini.Tg.one 2)
          ((Mini.E.call 7 [Mini.E.var 0] [] [Mini.Pl.arg 0, Mini.Pl.cst (Mini.D.bl false)]).ix
            (Mini.E.cst (Mini.D.int (Int.ofNat 0)))),
        Mini.S.ret
          ((Mini.E.mt Mini.Mt.join (Mini.E.cst (Mini.D.str { cps := { toList := [32] } }))
                [(Mini.E.bi Mini.Bi.str [Mini.E.call 1 [Mini.E.var 3, Mini.E.var 4] [] []]).comp (Mini.Tg.one 4)
                    Mini.IK.r1 [Mini.E.bin Mini.Bin.add (Mini.E.var 1) (Mini.E.cst (Mini.D.int (Int.ofNat 1)))] []
                    [4]]).comp
            (Mini.Tg.one 3) Mini.IK.seq [Mini.E.var 2] [] [3])]
def F10 : Fn := ⟨5, B10⟩
def B11 : List S :=
      [Mini.S.ifS (Mini.E.cmp Mini.Cmp.lt (Mini.E.var 1) (Mini.E.bi Mini.Bi.len [Mini.E.var 0]))
          [Mini.S.ret ((Mini.E.var 0).ix (Mini.E.var 1))] [],
        Mini.S.ret (Mini.E.cst (Mini.D.int (Int.ofNat 0)))]
def F11 : Fn := ⟨2, B11⟩
def B12 : List S :=
      [Mini.S.ifS (Mini.E.cmp Mini.Cmp.isN (Mini.E.var 1) (Mini.E.cst Mini.D.non))
          [Mini.S.ret (Mini.E.cmp Mini.Cmp.isN (Mini.E.var 0) (Mini.E.cst Mini.D.non))] [],
        Mini.S.ifS ((Mini.E.var 1).isi [Mini.Ty.bool])
          [Mini.S.ret (((Mini.E.var 0).isi [Mini.Ty.bool]).an (Mini.E.cmp Mini.Cmp.eq (Mini.E.var 0) (Mini.E.var 1)))]
          [],
        Mini.S.ifS ((Mini.E.var 1).isi [Mini.Ty.int])
          [Mini.S.ret
              (((Mini.E.var 0).isi [Mini.Ty.int]).an
                (((Mini.E.var 0).isi [Mini.Ty.bool]).nt.an (Mini.E.cmp Mini.Cmp.eq (Mini.E.var 0) (Mini.E.var 1))))]
          [],
        Mini.S.ifS ((Mini.E.var 1).isi [Mini.Ty.str])
          [Mini.S.ret (((Mini.E.var 0).isi [Mini.Ty.str]).an (Mini.E.cmp Mini.Cmp.eq (Mini.E.var 0) (Mini.E.var 1)))]
          [],
        Mini.S.ifS ((Mini.E.var 1).isi [Mini.Ty.dic])
          [Mini.S.ifS
              (((Mini.E.var 0).isi [Mini.Ty.dic]).nt.orr
                (Mini.E.cmp Mini.Cmp.ne (Mini.E.bi Mini.Bi.len [Mini.E.var 0]) (Mini.E.bi Mini.Bi.len [Mini.E.var 1])))
              [Mini.S.ret (Mini.E.cst (Mini.D.bl false))] [],
            Mini.S.ret
              (Mini.E.cmp Mini.Cmp.eq
                ((Mini.E.var 3).comp (Mini.Tg.one 3) Mini.IK.seq [Mini.E.var 1]
                  [(Mini.E.cmp Mini.Cmp.nin (Mini.E.var 3) (Mini.E.var 0)).orr
                      (Mini.E.call 12 [(Mini.E.var 0).ix (Mini.E.var 3), (Mini.E.var 1).ix (Mini.E.var 3)] [] []).nt]
                  [3])
                (Mini.E.lst []))]
          [],
        Mini.S.ifS
          ((Mini.E.cmp Mini.Cmp.ne ((Mini.E.var 1).isi [Mini.Ty.tup]) ((Mini.E.var 0).isi [Mini.Ty.tup])).orr
            (Mini.E.cmp Mini.Cmp.ne ((Mini.E.var 1).isi [Mini.Ty.lst]) ((Mini.E.var 0).isi [Mini.Ty.lst])))
          [Mini.S.ret (Mini.E.cst (Mini.D.bl false))] [],
        Mini.S.ifS
          (((Mini.E.var 0).isi [Mini.Ty.tup, Mini.Ty.lst]).nt.orr
            (Mini.E.cmp Mini.Cmp.ne (Mini.E.bi Mini.Bi.len [Mini.E.var 0]) (Mini.E.bi Mini.Bi.len [Mini.E.var 1])))
          [Mini.S.ret (Mini.E.cst (Mini.D.bl false))] [],
        Mini.S.forS (Mini.Tg.one 2) Mini.IK.r1 [Mini.E.bi Mini.Bi.len [Mini.E.var 1]]
          [Mini.S.ifS (Mini.E.call 12 [(Mini.E.var 0).ix (Mini.E.var 2), (Mini.E.var 1).ix (Mini.E.var 2)] [] []).nt
              [Mini.S.ret (Mini.E.cst (Mini.D.bl false))] []],
        Mini.S.ret (Mini.E.cst (Mini.D.bl true))]
def F12 : Fn := ⟨4, B12⟩
def B13 : List S :=
      [Mini.S.asg (Mini.Tg.one 2) (Mini.E.cst (Mini.D.int (Int.ofNat 1))),
        Mini.S.forS (Mini.Tg.one 3) Mini.IK.r1 [Mini.E.var 1]
          [Mini.S.asg (Mini.Tg.one 2)
              (Mini.E.bin Mini.Bin.fdv
                (Mini.E.bin Mini.Bin.mul (Mini.E.var 2) (Mini.E.bin Mini.Bin.sub (Mini.E.var 0) (Mini.E.var 3)))
                (Mini.E.bin Mini.Bin.add (Mini.E.var 3) (Mini.E.cst (Mini.D.int (Int.ofNat 1)))))],
        Mini.S.ret (Mini.E.var 2)]
def F13 : Fn := ⟨4, B13⟩
def B14 : List S :=
      [Mini.S.asg (Mini.Tg.one 2)
          (Mini.E.lst [Mini.E.lst [Mini.E.cst (Mini.D.int (Int.ofNat 0)), Mini.E.cst (Mini.D.int (Int.ofNat 1))]]),
        Mini.S.asg (Mini.Tg.one 3)
          (Mini.E.lst [Mini.E.lst [Mini.E.cst (Mini.D.int (Int.ofNat 0)), Mini.E.cst (Mini.D.int (Int.ofNat 1))]]),
        Mini.S.forS (Mini.Tg.one 4) Mini.IK.r2
          [Mini.E.cst (Mini.D.int (Int.ofNat 1)),
            Mini.E.bin Mini.Bin.add (Mini.E.var 0) (Mini.E.cst (Mini.D.int (Int.ofNat 1)))]
          [Mini.S.asg (Mini.Tg.one 5) (Mini.E.lst []), Mini.S.asg (Mini.Tg.one 6) (Mini.E.lst []),
            Mini.S.forS (Mini.Tg.one 7) Mini.IK.r1
              [Mini.E.bin Mini.Bin.add (Mini.E.var 4) (Mini.E.cst (Mini.D.int (Int.ofNat 2)))]
              [Mini.S.asg (Mini.Tg.one 8) (Mini.E.cst (Mini.D.int (Int.ofNat 0))),
                Mini.S.forS (Mini.Tg.one 9) Mini.IK.r1 [Mini.E.var 4]
                  [Mini.S.forS (Mini.Tg.one 10) Mini.IK.r1
                      [Mini.E.bin Mini.Bin.add (Mini.E.var 7) (Mini.E.cst (Mini.D.int (Int.ofNat 1)))]
                      [Mini.S.ifS
                          ((Mini.E.cmp Mini.Cmp.lt (Mini.E.var 10)
                                (Mini.E.bi Mini.Bi.len [(Mini.E.var 3).ix (Mini.E.var 9)])).an
                            (Mini.E.cmp Mini.Cmp.lt (Mini.E.bin Mini.Bin.sub (Mini.E.var 7) (Mini.E.var 10))
                              (Mini.E.bi Mini.Bi.len
                                [(Mini.E.var 2).ix
                                    (Mini.E.bin Mini.Bin.sub
                                      (Mini.E.bin Mini.Bin.sub (Mini.E.var 4) (Mini.E.cst (Mini.D.int (Int.ofNat 1))))
                                      (Mini.E.var 9))])))
                          [Mini.S.asg (Mini.Tg.one 11)
                              (Mini.E.bin Mini.Bin.mul (((Mini.E.var 3).ix (Mini.E.var 9)).ix (Mini.E.var 10))
                                (((Mini.E.var 2).ix
                                      (Mini.E.bin Mini.Bin.sub
                                        (Mini.E.bin Mini.Bin.sub (Mini.E.var 4) (Mini.E.cst (Mini.D.int (Int.ofNat 1))))
                                        (Mini.E.var 9))).ix
                                  (Mini.E.bin Mini.Bin.sub (Mini.E.var 7) (Mini.E.var 10)))),
                            Mini.S.ifS (Mini.E.var 1).nt
                              [Mini.S.asg (Mini.Tg.one 11)
                                  (Mini.E.bin Mini.Bin.mul (Mini.E.var 11)
                                    (Mini.E.call 13 [Mini.E.var 7, Mini.E.var 10] [] []))]
                              [],
                            Mini.S.asg (Mini.Tg.one 8) (Mini.E.bin Mini.Bin.add (Mini.E.var 8) (Mini.E.var 11))]
                          []]],
                Mini.S.ex (Mini.E.mt Mini.Mt.append (Mini.E.var 6) [Mini.E.var 8]),
                Mini.S.ifS
                  (Mini.E.cmp Mini.Cmp.lt
                    (Mini.E.bin Mini.Bin.add (Mini.E.var 7) (Mini.E.cst (Mini.D.int (Int.ofNat 1))))
                    (Mini.E.bi Mini.Bi.len
                      [(Mini.E.var 2).ix
                          (Mini.E.bin Mini.Bin.sub (Mini.E.var 4) (Mini.E.cst (Mini.D.int (Int.ofNat 1))))]))
                  [Mini.S.asg (Mini.Tg.one 8)
                      (Mini.E.bin Mini.Bin.add (Mini.E.var 8)
                        (((Mini.E.var 2).ix
                              (Mini.E.bin Mini.Bin.sub (Mini.E.var 4) (Mini.E.cst (Mini.D.int (Int.ofNat 1))))).ix
                          (Mini.E.bin Mini.Bin.add (Mini.E.var 7) (Mini.E.cst (Mini.D.int (Int.ofNat 1))))))]
                  [],
                Mini.S.ex (Mini.E.mt Mini.Mt.append (Mini.E.var 5) [Mini.E.var 8])],
            Mini.S.ex (Mini.E.mt Mini.Mt.append (Mini.E.var 2) [Mini.E.var 5]),
            Mini.S.ex (Mini.E.mt Mini.Mt.append (Mini.E.var 3) [Mini.E.var 6])],
        Mini.S.ret (Mini.E.tup [Mini.E.var 2, Mini.E.var 3])]
def F14 : Fn := ⟨12, B14⟩
def B15 : List S :=
      [Mini.S.tryS
          [Mini.S.ifS (Mini.E.cmp Mini.Cmp.eq (Mini.E.var 0) (Mini.E.cst (Mini.D.int (Int.ofNat 0))))
              [Mini.S.ex (Mini.E.call 8 [Mini.E.var 1, Mini.E.var 2] [] [])]
              [Mini.S.ifS (Mini.E.cmp Mini.Cmp.eq (Mini.E.var 0) (Mini.E.cst (Mini.D.int (Int.ofNat 1))))
                  [Mini.S.ex (Mini.E.call 9 [Mini.E.var 1, Mini.E.var 2] [] [])]
                  [Mini.S.ex (Mini.E.call 10 [Mini.E.var 1, Mini.E.var 2] [] [])]]]
          0 [Mini.S.ret (Mini.E.cst (Mini.D.bl true))],
        Mini.S.ret (Mini.E.cst (Mini.D.bl false))]
def F15 : Fn := ⟨3, B15⟩
def B16 : List S :=
      [Mini.S.asg (Mini.Tg.one 1) (Mini.E.cst (Mini.D.int (Int.ofNat 2))),
        Mini.S.forS (Mini.Tg.one 2) Mini.IK.r1 [Mini.E.var 0]
          [Mini.S.asg (Mini.Tg.one 1)
              (Mini.E.bin Mini.Bin.fdv
                (Mini.E.bin Mini.Bin.mul
                  (Mini.E.bin Mini.Bin.mul (Mini.E.var 1) (Mini.E.cst (Mini.D.int (Int.ofNat 3))))
                  (Mini.E.bin Mini.Bin.add
                    (Mini.E.bin Mini.Bin.add (Mini.E.var 0) (Mini.E.cst (Mini.D.int (Int.ofNat 1)))) (Mini.E.var 2)))
                (Mini.E.bin Mini.Bin.add (Mini.E.var 2) (Mini.E.cst (Mini.D.int (Int.ofNat 1)))))],
        Mini.S.ret
          (Mini.E.bin Mini.Bin.fdv (Mini.E.var 1)
            (Mini.E.bin Mini.Bin.mul (Mini.E.bin Mini.Bin.add (Mini.E.var 0) (Mini.E.cst (Mini.D.int (Int.ofNat 1))))
              (Mini.E.bin Mini.Bin.add (Mini.E.var 0) (Mini.E.cst (Mini.D.int (Int.ofNat 2))))))]
def F16 : Fn := ⟨3, B16⟩
def B17 : List S :=
      [Mini.S.ifS (Mini.E.cmp Mini.Cmp.lt (Mini.E.var 1) (Mini.E.bi Mini.Bi.len [Mini.E.var 0]))
          [Mini.S.ret ((Mini.E.var 0).ix (Mini.E.var 1))] [],
        Mini.S.ret (Mini.E.cst (Mini.D.int (Int.ofNat 0)))]
def F17 : Fn := ⟨2, B17⟩
def B18 : List S :=
      [Mini.S.asg (Mini.Tg.one 1)
          (Mini.E.bin Mini.Bin.mod
            (Mini.E.bi Mini.Bi.int [Mini.E.call 11 [Mini.E.var 0, Mini.E.cst (Mini.D.int (Int.ofNat 0))] [] []])
            (Mini.E.cst (Mini.D.int (Int.ofNat 10)))),
        Mini.S.asg (Mini.Tg.one 2)
          (Mini.E.bin Mini.Bin.mod
            (Mini.E.bi Mini.Bi.int [Mini.E.call 11 [Mini.E.var 0, Mini.E.cst (Mini.D.int (Int.ofNat 1))] [] []])
            (Mini.E.cst (Mini.D.int (Int.ofNat 11)))),
        Mini.S.ifS
          (Mini.E.cmp Mini.Cmp.eq
            (Mini.E.bin Mini.Bin.mod
              (Mini.E.bi Mini.Bi.int [Mini.E.call 11 [Mini.E.var 0, Mini.E.cst (Mini.D.int (Int.ofNat 2))] [] []])
              (Mini.E.cst (Mini.D.int (Int.ofNat 8))))
            (Mini.E.cst (Mini.D.int (Int.ofNat 5))))
          [Mini.S.asg (Mini.Tg.one 1)
              (Mini.E.bin Mini.Bin.mod
                (Mini.E.bi Mini.Bi.int [Mini.E.call 11 [Mini.E.var 0, Mini.E.cst (Mini.D.int (Int.ofNat 0))] [] []])
                (Mini.E.cst (Mini.D.int (Int.ofNat 21)))),
            Mini.S.asg (Mini.Tg.one 2)
              (Mini.E.bin Mini.Bin.mod
                (Mini.E.bi Mini.Bi.int [Mini.E.call 11 [Mini.E.var 0, Mini.E.cst (Mini.D.int (Int.ofNat 1))] [] []])
                (Mini.E.cst (Mini.D.int (Int.ofNat 22))))]
          [],
        Mini.S.asg (Mini.Tg.one 3)
          ((Mini.E.call 14 [Mini.E.var 1, Mini.E.cst (Mini.D.bl false)] [] []).ix
            (Mini.E.cst (Mini.D.int (Int.ofNat 0)))),
        Mini.S.asg (Mini.Tg.one 4)
          ((Mini.E.call 14 [Mini.E.var 1, Mini.E.cst (Mini.D.bl true)] [] []).ix
            (Mini.E.cst (Mini.D.int (Int.ofNat 0)))),
        Mini.S.asg (Mini.Tg.one 5) (Mini.E.call 17 [(Mini.E.var 3).ix (Mini.E.var 1), Mini.E.var 2] [] []),
        Mini.S.asg (Mini.Tg.one 6) (Mini.E.call 17 [(Mini.E.var 4).ix (Mini.E.var 1), Mini.E.var 2] [] []),
        Mini.S.ifS
          ((Mini.E.call 12 [Mini.E.call 8 [Mini.E.var 1, Mini.E.var 2] [] [], Mini.E.var 5] [] []).nt.orr
            (Mini.E.call 12 [Mini.E.call 9 [Mini.E.var 1, Mini.E.var 2] [] [], Mini.E.var 6] [] []).nt)
          [Mini.S.ret (Mini.E.cst (Mini.D.bl false))] [],
        Mini.S.ifS
          ((Mini.E.cmp Mini.Cmp.gt (Mini.E.var 5) (Mini.E.call 4 [Mini.E.var 1, Mini.E.var 2] [] [])).orr
            ((Mini.E.cmp Mini.Cmp.gt (Mini.E.var 6) (Mini.E.call 5 [Mini.E.var 1, Mini.E.var 2] [] [])).orr
              (Mini.E.cmp Mini.Cmp.gt (Mini.E.var 6) (Mini.E.var 5))))
          [Mini.S.ret (Mini.E.cst (Mini.D.bl false))] [],
        Mini.S.asg (Mini.Tg.one 7) (Mini.E.lst []),
        Mini.S.forS (Mini.Tg.one 8) Mini.IK.seq [Mini.E.var 3]
          [Mini.S.asg (Mini.Tg.one 9)
              (Mini.E.bi Mini.Bi.str [Mini.E.call 17 [Mini.E.var 8, Mini.E.cst (Mini.D.int (Int.ofNat 0))] [] []]),
            Mini.S.forS (Mini.Tg.one 10) Mini.IK.r2
              [Mini.E.cst (Mini.D.int (Int.ofNat 1)),
                Mini.E.bin Mini.Bin.add (Mini.E.var 2) (Mini.E.cst (Mini.D.int (Int.ofNat 1)))]
              [Mini.S.asg (Mini.Tg.one 9)
                  (Mini.E.bin Mini.Bin.add
                    (Mini.E.bin Mini.Bin.add (Mini.E.var 9) (Mini.E.cst (Mini.D.str { cps := { toList := [32] } })))
                    (Mini.E.bi Mini.Bi.str [Mini.E.call 17 [Mini.E.var 8, Mini.E.var 10] [] []]))],
            Mini.S.ex (Mini.E.mt Mini.Mt.append (Mini.E.var 7) [Mini.E.var 9])],
        Mini.S.ifS (Mini.E.call 12 [Mini.E.call 10 [Mini.E.var 1, Mini.E.var 2] [] [], Mini.E.var 7] [] []).nt
          [Mini.S.ret (Mini.E.cst (Mini.D.bl false))] [],
        Mini.S.asg (Mini.Tg.one 11)
          (Mini.E.bin Mini.Bin.mod
            (Mini.E.bi Mini.Bi.int [Mini.E.call 11 [Mini.E.var 0, Mini.E.cst (Mini.D.int (Int.ofNat 3))] [] []])
            (Mini.E.cst (Mini.D.int (Int.ofNat 10)))),
        Mini.S.ifS
          (Mini.E.call 12
              [Mini.E.call 9
                  [Mini.E.bin Mini.Bin.add
                      (Mini.E.bin Mini.Bin.mul (Mini.E.cst (Mini.D.int (Int.ofNat 2))) (Mini.E.var 11))
                      (Mini.E.cst (Mini.D.int (Int.ofNat 1))),
                    Mini.E.cst (Mini.D.int (Int.ofNat 0))]
                  [] [],
                Mini.E.call 16 [Mini.E.var 11] [] []]
              [] []).nt
          [Mini.S.ret (Mini.E.cst (Mini.D.bl false))] [],
        Mini.S.ifS
          (Mini.E.call 12
              [Mini.E.lst
                  [Mini.E.call 9 [Mini.E.cst (Mini.D.int (Int.ofNat 1)), Mini.E.cst (Mini.D.int (Int.ofNat 0))] [] [],
                    Mini.E.call 9 [Mini.E.cst (Mini.D.int (Int.ofNat 3)), Mini.E.cst (Mini.D.int (Int.ofNat 0))] [] [],
                    Mini.E.call 9 [Mini.E.cst (Mini.D.int (Int.ofNat 5)), Mini.E.cst (Mini.D.int (Int.ofNat 0))] [] []],
                Mini.E.lst
                  [Mini.E.cst (Mini.D.int (Int.ofNat 1)), Mini.E.cst (Mini.D.int (Int.ofNat 2)),
                    Mini.E.cst (Mini.D.int (Int.ofNat 9))]]
              [] []).nt
          [Mini.S.ret (Mini.E.cst (Mini.D.bl false))] [],
        Mini.S.asg (Mini.Tg.one 12)
          (Mini.E.bin Mini.Bin.add (Mini.E.cst (Mini.D.int (Int.ofNat 1)))
            (Mini.E.bin Mini.Bin.mod
              (Mini.E.bi Mini.Bi.int [Mini.E.call 11 [Mini.E.var 0, Mini.E.cst (Mini.D.int (Int.ofNat 4))] [] []])
              (Mini.E.cst (Mini.D.int (Int.ofNat 1000))))),
        Mini.S.forS (Mini.Tg.one 13) Mini.IK.r1 [Mini.E.cst (Mini.D.int (Int.ofNat 3))]
          [Mini.S.ifS
              ((Mini.E.call 15
                      [Mini.E.var 13, Mini.E.bin Mini.Bin.add (Mini.E.cst (Mini.D.int (Int.ofNat 20))) (Mini.E.var 12),
                        Mini.E.var 2]
                      [] []).nt.orr
                (Mini.E.call 15
                    [Mini.E.var 13, Mini.E.var 1,
                      Mini.E.bin Mini.Bin.add (Mini.E.cst (Mini.D.int (Int.ofNat 21))) (Mini.E.var 12)]
                    [] []).nt)
              [Mini.S.ret (Mini.E.cst (Mini.D.bl false))] [],
            Mini.S.ifS
              ((Mini.E.call 15
                      [Mini.E.var 13, Mini.E.bin Mini.Bin.sub (Mini.E.cst (Mini.D.int (Int.ofNat 0))) (Mini.E.var 12),
                        Mini.E.var 2]
                      [] []).nt.orr
                (Mini.E.call 15
                    [Mini.E.var 13, Mini.E.var 1,
                      Mini.E.bin Mini.Bin.sub (Mini.E.cst (Mini.D.int (Int.ofNat 0))) (Mini.E.var 12)]
                    [] []).nt)
              [Mini.S.ret (Mini.E.cst (Mini.D.bl false))] []],
        Mini.S.ret (Mini.E.call 12 [Mini.E.call 8 [Mini.E.var 1, Mini.E.var 2] [] [], Mini.E.var 5] [] [])]
def F18 : Fn := ⟨14, B18⟩
def prg : Prg := ⟨[F0, F1, F2, F3, F4, F5, F6, F7, F8, F9, F10, F11, F12, F13, F14, F15, F16, F17, F18], subT, 200⟩
end K85

set_option Elab.async false
set_option linter.all false
set_option maxRecDepth 100000
set_option maxHeartbeats 4000000
/-! k85: what the program and the law compute, as plain functions. -/
namespace K85
open PySem PySem.Spec L2 Mini
theorem run_eq (n i : Nat) (fn : Fn) (h : prg.fns[i]? = some fn) (as : List A) (M : List O) : prg.run (n + 1) i as M = mi.go fn ⟨prg.run n, prg.sub, prg.turns⟩ as M := by
  rw [← mi_go]
  show (match prg.fns[i]? with
    | some fn => fn.go ⟨prg.run n, prg.sub, prg.turns⟩ as M
    | none => .no) = _
  rw [h]
section
variable (S : Mi) {w : W}
/-! ### entries -/
def entO (row : List Int) (k : Int) : Option Int := if k < (row.length : Nat) then atI row k else some 0
theorem fill_nil {xs : List A} : fill A.d [] xs = xs := rfl
theorem g_entry {row : List Int} {k v : Int} {M : List O} (h : entO row k = some v) : S.go F1 w [.d (il row), .d (.int k)] M = .ok (.d (.int v)) M := by
  unfold entO at h
  unfold Mi.go
  split at h
  · rename_i hk
    simp [F1, B1, S.exs_cons, S.exs_nil, S.exS_ret, S.exS_asg, S.exS_if, S.exS_for, S.exS_aug, augF, S.ev_var, S.ev_bi, S.ev_cst, S.ev_ix, S.ev_bin, S.ev_ifx, S.ev_cmp, S.evT_cmp, S.evT_var, S.ev_call, S.evs_cons, S.evs_nil, tru_bl, bin_sub, bin_add, bin_mul, len_il, len_dR, set_one, fill_nil, bi_min, bi_max, cmpR_lt, hk, ix_il h]
  · rename_i hk
    cases h
    simp [F1, B1, S.exs_cons, S.exs_nil, S.exS_ret, S.exS_asg, S.exS_if, S.exS_for, S.exS_aug, augF, S.ev_var, S.ev_bi, S.ev_cst, S.ev_ix, S.ev_bin, S.ev_ifx, S.ev_cmp, S.evT_cmp, S.evT_var, S.ev_call, S.evs_cons, S.evs_nil, tru_bl, bin_sub, bin_add, bin_mul, len_il, len_dR, set_one, fill_nil, bi_min, bi_max, cmpR_lt, hk]
theorem g_lawentry {row : List Int} {k v : Int} {M : List O} (h : entO row k = some v) : S.go F17 w [.d (il row), .d (.int k)] M = .ok (.d (.int v)) M := by
  unfold entO at h
  unfold Mi.go
  split at h
  · rename_i hk
    simp [F17, B17, S.exs_cons, S.exs_nil, S.exS_ret, S.exS_asg, S.exS_if, S.exS_for, S.exS_aug, augF, S.ev_var, S.ev_bi, S.ev_cst, S.ev_ix, S.ev_bin, S.ev_ifx, S.ev_cmp, S.evT_cmp, S.evT_var, S.ev_call, S.evs_cons, S.evs_nil, tru_bl, bin_sub, bin_add, bin_mul, len_il, len_dR, set_one, fill_nil, bi_min, bi_max, cmpR_lt, hk, ix_il h]
  · rename_i hk
    cases h
    simp [F17, B17, S.exs_cons, S.exs_nil, S.exS_ret, S.exS_asg, S.exS_if, S.exS_for, S.exS_aug, augF, S.ev_var, S.ev_bi, S.ev_cst, S.ev_ix, S.ev_bin, S.ev_ifx, S.ev_cmp, S.evT_cmp, S.evT_var, S.ev_call, S.evs_cons, S.evs_nil, tru_bl, bin_sub, bin_add, bin_mul, len_il, len_dR, set_one, fill_nil, bi_min, bi_max, cmpR_lt, hk]
/-- what a call of count_entry gives -/
def EntS (w : W) : Prop := ∀ (row : List Int) (k v : Int) (M : List O), entO row k = some v → pcall (w.run 1) [.d (il row), .d (.int k)] M = .ok (.d (.int v)) M
/-! ### headed_count -/
def hcIn (hl rights : List Int) (names : Int) (flat : Bool) (tot ch : Int) : Option Int := match atI hl ch, entO rights (names - ch) with
  | some a, some b => if okMul a b then (if flat then some (tot + a * b) else (match combO names ch with
    | some c => if okMul c (a * b) then some (tot + c * (a * b)) else none
    | none => none)) else none
  | _, _ => none
def minI (i j : Int) : Int := if j < i then j else i
def hcOut (rows headed : List (List Int)) (names : Int) (flat : Bool) (tot left : Int) : Option Int := match atI rows ((rows.length : Nat) - 1 - left), atI headed left with
  | some rights, some hl => (match rng1 (minI (names + 1) (hl.length : Nat)) with
    | some xs => fO (hcIn hl rights names flat) xs tot
    | none => none)
  | _, _ => none
def hcO (rows headed : List (List Int)) (names : Int) (flat : Bool) : Option Int := match rng1 (rows.length : Nat) with
  | some xs => fO (hcOut rows headed names flat) xs 0
  | none => none
def hdB2 : List Mini.S := [Mini.S.asg (Mini.Tg.one 9)
                  (Mini.E.bin Mini.Bin.mul (((Mini.E.var 1).ix (Mini.E.var 6)).ix (Mini.E.var 8))
                    (Mini.E.call 1 [Mini.E.var 7, Mini.E.bin Mini.Bin.sub (Mini.E.var 2) (Mini.E.var 8)] [] [])),
                Mini.S.aug 5 Mini.Bin.add
                  ((Mini.E.var 3).ifx (Mini.E.var 9)
                    (Mini.E.bin Mini.Bin.mul (Mini.E.bi Mini.Bi.comb [Mini.E.var 2, Mini.E.var 8]) (Mini.E.var 9)))]
def hdB1 : List Mini.S := [Mini.S.asg (Mini.Tg.one 7)
              ((Mini.E.var 0).ix
                (Mini.E.bin Mini.Bin.sub
                  (Mini.E.bin Mini.Bin.sub (Mini.E.var 4) (Mini.E.cst (Mini.D.int (Int.ofNat 1)))) (Mini.E.var 6))),
            Mini.S.forS (Mini.Tg.one 8) Mini.IK.r1
              [Mini.E.bi Mini.Bi.min
                  [Mini.E.bin Mini.Bin.add (Mini.E.var 2) (Mini.E.cst (Mini.D.int (Int.ofNat 1))),
                    Mini.E.bi Mini.Bi.len [(Mini.E.var 1).ix (Mini.E.var 6)]]]
              hdB2]
theorem hd_in (he : EntS w) {rows headed : List (List Int)} {hl rights : List Int} {names left : Int} {flat : Bool} {M : List O} (e3 : atI headed left = some hl) (ys : List Int) (tot tot1 : Int) (c d : A) (h : fO (hcIn hl rights names flat) ys tot = some tot1) :
    ∃ c' d', forR (.one 8) (S.exs w hdB2) (ys.map D.int) [.d (dR rows), .d (dR headed), .d (.int names), .d (.bl flat), .d (.int (rows.length : Nat)), .d (.int tot), .d (.int left), .d (il rights), c, d] M =
      .nx [.d (dR rows), .d (dR headed), .d (.int names), .d (.bl flat), .d (.int (rows.length : Nat)), .d (.int tot1), .d (.int left), .d (il rights), c', d'] M := by
  have inner := forR_fO (tg := .one 8) (body := S.exs w hdB2)
    (P := fun tot δ M' => M' = M ∧ ∃ c d, δ = [.d (dR rows), .d (dR headed), .d (.int names), .d (.bl flat), .d (.int (rows.length : Nat)), .d (.int tot), .d (.int left), .d (il rights), c, d]) (f := hcIn hl rights names flat) ?_ ys tot tot1
    [.d (dR rows), .d (dR headed), .d (.int names), .d (.bl flat), .d (.int (rows.length : Nat)), .d (.int tot), .d (.int left), .d (il rights), c, d] M h ⟨rfl, _, _, rfl⟩
  · obtain ⟨δ', M', h1, rfl, c', d', rfl⟩ := inner
    exact ⟨c', d', h1⟩
  · rintro tot2 ch tot3 δ2 M2 hs2 ⟨rfl, c', d', rfl⟩
    unfold hcIn at hs2
    split at hs2
    · rename_i x y e5 e6
      split at hs2
      · rename_i hm
        split at hs2
        · rename_i hf
          cases hs2
          subst hf
          refine ⟨_, [.d (dR rows), .d (dR headed), .d (.int names), .d (.bl true), .d (.int (rows.length : Nat)), .d (.int (tot2 + x * y)), .d (.int left), .d (il rights), .d (.int ch), .d (.int (x * y))], _, rfl, .inl ?_, rfl, _, _, rfl⟩
          simp [hdB2, S.exs_cons, S.exs_nil, S.exS_ret, S.exS_asg, S.exS_if, S.exS_for, S.exS_aug, augF, S.ev_var, S.ev_bi, S.ev_cst, S.ev_ix, S.ev_bin, S.ev_ifx, S.ev_cmp, S.evT_cmp, S.evT_var, S.ev_call, S.evs_cons, S.evs_nil, tru_bl, bin_sub, bin_add, bin_mul, len_il, len_dR, set_one, fill_nil, bi_min, bi_max, cmpR_lt, ix_dR e3, ix_il e5, he _ _ _ _ e6, hm]
        · rename_i hf
          have hf : flat = false := by simpa using hf
          subst hf
          split at hs2
          · rename_i z e7
            split at hs2
            · rename_i hm2
              cases hs2
              refine ⟨_, [.d (dR rows), .d (dR headed), .d (.int names), .d (.bl false), .d (.int (rows.length : Nat)), .d (.int (tot2 + z * (x * y))), .d (.int left), .d (il rights), .d (.int ch), .d (.int (x * y))], _, rfl, .inl ?_, rfl, _, _, rfl⟩
              simp [hdB2, S.exs_cons, S.exs_nil, S.exS_ret, S.exS_asg, S.exS_if, S.exS_for, S.exS_aug, augF, S.ev_var, S.ev_bi, S.ev_cst, S.ev_ix, S.ev_bin, S.ev_ifx, S.ev_cmp, S.evT_cmp, S.evT_var, S.ev_call, S.evs_cons, S.evs_nil, tru_bl, bin_sub, bin_add, bin_mul, len_il, len_dR, set_one, fill_nil, bi_min, bi_max, cmpR_lt, ix_dR e3, ix_il e5, he _ _ _ _ e6, hm, bi_comb e7, hm2]
            · cases hs2
          · cases hs2
      · cases hs2
    · cases hs2
theorem hd_out (he : EntS w) {rows headed : List (List Int)} {names : Int} {flat : Bool} {M : List O} (xs : List Int) (tot v : Int) (a b c d : A) (h : fO (hcOut rows headed names flat) xs tot = some v) :
    ∃ a' b' c' d', forR (.one 6) (S.exs w hdB1) (xs.map D.int) [.d (dR rows), .d (dR headed), .d (.int names), .d (.bl flat), .d (.int (rows.length : Nat)), .d (.int tot), a, b, c, d] M =
      .nx [.d (dR rows), .d (dR headed), .d (.int names), .d (.bl flat), .d (.int (rows.length : Nat)), .d (.int v), a', b', c', d'] M := by
  have loop := forR_fO (tg := .one 6) (body := S.exs w hdB1)
      (P := fun tot δ M' => M' = M ∧ ∃ a b c d, δ = [.d (dR rows), .d (dR headed), .d (.int names), .d (.bl flat), .d (.int (rows.length : Nat)), .d (.int tot), a, b, c, d]) (f := hcOut rows headed names flat) ?_ xs tot v
      [.d (dR rows), .d (dR headed), .d (.int names), .d (.bl flat), .d (.int (rows.length : Nat)), .d (.int tot), a, b, c, d] M h ⟨rfl, _, _, _, _, rfl⟩
  · obtain ⟨δ', M', h1, rfl, a', b', c', d', rfl⟩ := loop
    exact ⟨a', b', c', d', h1⟩
  · rintro tot left tot1 δ M1 hs ⟨rfl, a, b, c, d, rfl⟩
    unfold hcOut at hs
    split at hs
    · rename_i rights hl e2 e3
      split at hs
      · rename_i ys e4
        obtain ⟨c', d', h1⟩ := hd_in S he (rows := rows) (M := M1) e3 ys tot tot1 c d hs
        refine ⟨_, [.d (dR rows), .d (dR headed), .d (.int names), .d (.bl flat), .d (.int (rows.length : Nat)), .d (.int tot1), .d (.int left), .d (il rights), c', d'], _, rfl, .inl ?_, rfl, _, _, _, _, rfl⟩
        have e5 := items_r1 (M := M1) e4
        unfold minI at e5
        simp [hdB1, S.exs_cons, S.exs_nil, S.exS_ret, S.exS_asg, S.exS_if, S.exS_for, S.exS_aug, augF, S.ev_var, S.ev_bi, S.ev_cst, S.ev_ix, S.ev_bin, S.ev_ifx, S.ev_cmp, S.evT_cmp, S.evT_var, S.ev_call, S.evs_cons, S.evs_nil, tru_bl, bin_sub, bin_add, bin_mul, len_il, len_dR, set_one, fill_nil, bi_min, bi_max, cmpR_lt, ix_dR e2, ix_dR e3, e5, h1]
      · cases hs
    · cases hs
theorem B6_eq : B6 = [Mini.S.asg (Mini.Tg.one 4) (Mini.E.bi Mini.Bi.len [Mini.E.var 0]), Mini.S.asg (Mini.Tg.one 5) (Mini.E.cst (Mini.D.int (Int.ofNat 0))), Mini.S.forS (Mini.Tg.one 6) Mini.IK.r1 [Mini.E.var 4] hdB1, Mini.S.ret (Mini.E.var 5)] := rfl
theorem g_headed (he : EntS w) {rows headed : List (List Int)} {names v : Int} {flat : Bool} {M : List O} (h : hcO rows headed names flat = some v) : S.go F6 w [.d (dR rows), .d (dR headed), .d (.int names), .d (.bl flat)] M = .ok (.d (.int v)) M := by
  unfold hcO at h
  unfold Mi.go
  split at h
  · rename_i xs e1
    obtain ⟨a, b, c, d, h1⟩ := hd_out S he (M := M) xs 0 v .un .un .un .un h
    simp [F6, B6_eq, S.exs_cons, S.exs_nil, S.exS_ret, S.exS_asg, S.exS_if, S.exS_for, S.exS_aug, augF, S.ev_var, S.ev_bi, S.ev_cst, S.ev_ix, S.ev_bin, S.ev_ifx, S.ev_cmp, S.evT_cmp, S.evT_var, S.ev_call, S.evs_cons, S.evs_nil, tru_bl, bin_sub, bin_add, bin_mul, len_il, len_dR, set_one, fill_nil, bi_min, bi_max, cmpR_lt, items_r1 e1, h1]
  · cases h
/-! ### next_count -/
def ncIn (hl rights : List Int) (names : Int) (flat : Bool) (tot ch : Int) : Option Int := match atI hl ch, atI rights (names - ch) with
  | some a, some b => if okMul a b then (if flat then some (tot + a * b) else (match combO names ch with
    | some c => if okMul c (a * b) then some (tot + c * (a * b)) else none
    | none => none)) else none
  | _, _ => none
def maxI (i j : Int) : Int := if j > i then j else i
def ncOut (rows : List (List Int)) (names : Int) (flat : Bool) (tot left : Int) : Option Int := match atI rows ((rows.length : Nat) - 1 - left), atI rows left with
  | some rights, some hl => (match rng2 (maxI 0 (names + 1 - (rights.length : Nat))) (minI (names + 1) (hl.length : Nat)) with
    | some xs => fO (ncIn hl rights names flat) xs tot
    | none => none)
  | _, _ => none
def ncO (rows : List (List Int)) (names : Int) (flat : Bool) : Option Int := match atI rows (-1) with
  | some last => (match entO last (names + 1) with
    | some t0 => (match rng1 (rows.length : Nat) with
      | some xs => fO (ncOut rows names flat) xs t0
      | none => none)
    | none => none)
  | none => none
def ncB2 : List Mini.S := [Mini.S.asg (Mini.Tg.one 8)
                  (Mini.E.bin Mini.Bin.mul (((Mini.E.var 0).ix (Mini.E.var 5)).ix (Mini.E.var 7))
                    ((Mini.E.var 6).ix (Mini.E.bin Mini.Bin.sub (Mini.E.var 1) (Mini.E.var 7)))),
                Mini.S.aug 4 Mini.Bin.add
                  ((Mini.E.var 2).ifx (Mini.E.var 8)
                    (Mini.E.bin Mini.Bin.mul (Mini.E.bi Mini.Bi.comb [Mini.E.var 1, Mini.E.var 7]) (Mini.E.var 8)))]
def ncB1 : List Mini.S := [Mini.S.asg (Mini.Tg.one 6)
              ((Mini.E.var 0).ix
                (Mini.E.bin Mini.Bin.sub
                  (Mini.E.bin Mini.Bin.sub (Mini.E.var 3) (Mini.E.cst (Mini.D.int (Int.ofNat 1)))) (Mini.E.var 5))),
            Mini.S.forS (Mini.Tg.one 7) Mini.IK.r2
              [Mini.E.bi Mini.Bi.max
                  [Mini.E.cst (Mini.D.int (Int.ofNat 0)),
                    Mini.E.bin Mini.Bin.sub
                      (Mini.E.bin Mini.Bin.add (Mini.E.var 1) (Mini.E.cst (Mini.D.int (Int.ofNat 1))))
                      (Mini.E.bi Mini.Bi.len [Mini.E.var 6])],
                Mini.E.bi Mini.Bi.min
                  [Mini.E.bin Mini.Bin.add (Mini.E.var 1) (Mini.E.cst (Mini.D.int (Int.ofNat 1))),
                    Mini.E.bi Mini.Bi.len [(Mini.E.var 0).ix (Mini.E.var 5)]]]
              ncB2]
theorem nc_in {rows : List (List Int)} {hl rights : List Int} {names left : Int} {flat : Bool} {M : List O} (e3 : atI rows left = some hl) (ys : List Int) (tot tot1 : Int) (c d : A) (h : fO (ncIn hl rights names flat) ys tot = some tot1) :
    ∃ c' d', forR (.one 7) (S.exs w ncB2) (ys.map D.int) [.d (dR rows), .d (.int names), .d (.bl flat), .d (.int (rows.length : Nat)), .d (.int tot), .d (.int left), .d (il rights), c, d] M =
      .nx [.d (dR rows), .d (.int names), .d (.bl flat), .d (.int (rows.length : Nat)), .d (.int tot1), .d (.int left), .d (il rights), c', d'] M := by
  have inner := forR_fO (tg := .one 7) (body := S.exs w ncB2)
    (P := fun tot δ M' => M' = M ∧ ∃ c d, δ = [.d (dR rows), .d (.int names), .d (.bl flat), .d (.int (rows.length : Nat)), .d (.int tot), .d (.int left), .d (il rights), c, d]) (f := ncIn hl rights names flat) ?_ ys tot tot1
    [.d (dR rows), .d (.int names), .d (.bl flat), .d (.int (rows.length : Nat)), .d (.int tot), .d (.int left), .d (il rights), c, d] M h ⟨rfl, _, _, rfl⟩
  · obtain ⟨δ', M', h1, rfl, c', d', rfl⟩ := inner
    exact ⟨c', d', h1⟩
  · rintro tot2 ch tot3 δ2 M2 hs2 ⟨rfl, c', d', rfl⟩
    unfold ncIn at hs2
    split at hs2
    · rename_i x y e5 e6
      split at hs2
      · rename_i hm
        split at hs2
        · rename_i hf
          cases hs2
          subst hf
          refine ⟨_, [.d (dR rows), .d (.int names), .d (.bl true), .d (.int (rows.length : Nat)), .d (.int (tot2 + x * y)), .d (.int left), .d (il rights), .d (.int ch), .d (.int (x * y))], _, rfl, .inl ?_, rfl, _, _, rfl⟩
          simp [ncB2, S.exs_cons, S.exs_nil, S.exS_ret, S.exS_asg, S.exS_if, S.exS_for, S.exS_aug, augF, S.ev_var, S.ev_bi, S.ev_cst, S.ev_ix, S.ev_bin, S.ev_ifx, S.ev_cmp, S.evT_cmp, S.evT_var, S.ev_call, S.evs_cons, S.evs_nil, tru_bl, bin_sub, bin_add, bin_mul, len_il, len_dR, set_one, fill_nil, bi_min, bi_max, cmpR_lt, S.ev_neg, ix_dR e3, ix_il e5, ix_il e6, hm]
        · rename_i hf
          have hf : flat = false := by simpa using hf
          subst hf
          split at hs2
          · rename_i z e7
            split at hs2
            · rename_i hm2
              cases hs2
              refine ⟨_, [.d (dR rows), .d (.int names), .d (.bl false), .d (.int (rows.length : Nat)), .d (.int (tot2 + z * (x * y))), .d (.int left), .d (il rights), .d (.int ch), .d (.int (x * y))], _, rfl, .inl ?_, rfl, _, _, rfl⟩
              simp [ncB2, S.exs_cons, S.exs_nil, S.exS_ret, S.exS_asg, S.exS_if, S.exS_for, S.exS_aug, augF, S.ev_var, S.ev_bi, S.ev_cst, S.ev_ix, S.ev_bin, S.ev_ifx, S.ev_cmp, S.evT_cmp, S.evT_var, S.ev_call, S.evs_cons, S.evs_nil, tru_bl, bin_sub, bin_add, bin_mul, len_il, len_dR, set_one, fill_nil, bi_min, bi_max, cmpR_lt, S.ev_neg, ix_dR e3, ix_il e5, ix_il e6, hm, bi_comb e7, hm2]
            · cases hs2
          · cases hs2
      · cases hs2
    · cases hs2
theorem nc_out {rows : List (List Int)} {names : Int} {flat : Bool} {M : List O} (xs : List Int) (tot v : Int) (a b c d : A) (h : fO (ncOut rows names flat) xs tot = some v) :
    ∃ a' b' c' d', forR (.one 5) (S.exs w ncB1) (xs.map D.int) [.d (dR rows), .d (.int names), .d (.bl flat), .d (.int (rows.length : Nat)), .d (.int tot), a, b, c, d] M =
      .nx [.d (dR rows), .d (.int names), .d (.bl flat), .d (.int (rows.length : Nat)), .d (.int v), a', b', c', d'] M := by
  have loop := forR_fO (tg := .one 5) (body := S.exs w ncB1)
      (P := fun tot δ M' => M' = M ∧ ∃ a b c d, δ = [.d (dR rows), .d (.int names), .d (.bl flat), .d (.int (rows.length : Nat)), .d (.int tot), a, b, c, d]) (f := ncOut rows names flat) ?_ xs tot v
      [.d (dR rows), .d (.int names), .d (.bl flat), .d (.int (rows.length : Nat)), .d (.int tot), a, b, c, d] M h ⟨rfl, _, _, _, _, rfl⟩
  · obtain ⟨δ', M', h1, rfl, a', b', c', d', rfl⟩ := loop
    exact ⟨a', b', c', d', h1⟩
  · rintro tot left tot1 δ M1 hs ⟨rfl, a, b, c, d, rfl⟩
    unfold ncOut at hs
    split at hs
    · rename_i rights hl e2 e3
      split at hs
      · rename_i ys e4
        obtain ⟨c', d', h1⟩ := nc_in S (w := w) (rows := rows) (M := M1) e3 ys tot tot1 c d hs
        refine ⟨_, [.d (dR rows), .d (.int names), .d (.bl flat), .d (.int (rows.length : Nat)), .d (.int tot1), .d (.int left), .d (il rights), c', d'], _, rfl, .inl ?_, rfl, _, _, _, _, rfl⟩
        have e5 := items_r2 (M := M1) e4
        unfold minI maxI at e5
        simp at e5
        simp [ncB1, S.exs_cons, S.exs_nil, S.exS_ret, S.exS_asg, S.exS_if, S.exS_for, S.exS_aug, augF, S.ev_var, S.ev_bi, S.ev_cst, S.ev_ix, S.ev_bin, S.ev_ifx, S.ev_cmp, S.evT_cmp, S.evT_var, S.ev_call, S.evs_cons, S.evs_nil, tru_bl, bin_sub, bin_add, bin_mul, len_il, len_dR, set_one, fill_nil, bi_min, bi_max, cmpR_lt, S.ev_neg, ix_dR e2, ix_dR e3, e5, h1]
      · cases hs
    · cases hs
theorem B2_eq : B2 = [Mini.S.asg (Mini.Tg.one 3) (Mini.E.bi Mini.Bi.len [Mini.E.var 0]),
        Mini.S.asg (Mini.Tg.one 4)
          (Mini.E.call 1
            [(Mini.E.var 0).ix (Mini.E.cst (Mini.D.int (Int.ofNat 1))).neg,
              Mini.E.bin Mini.Bin.add (Mini.E.var 1) (Mini.E.cst (Mini.D.int (Int.ofNat 1)))]
            [] []),
        Mini.S.forS (Mini.Tg.one 5) Mini.IK.r1 [Mini.E.var 3] ncB1, Mini.S.ret (Mini.E.var 4)] := rfl
theorem g_next (he : EntS w) {rows : List (List Int)} {names v : Int} {flat : Bool} {M : List O} (h : ncO rows names flat = some v) : S.go F2 w [.d (dR rows), .d (.int names), .d (.bl flat)] M = .ok (.d (.int v)) M := by
  unfold ncO at h
  unfold Mi.go
  split at h
  · rename_i last e0
    split at h
    · rename_i t0 e9
      split at h
      · rename_i xs e1
        obtain ⟨a, b, c, d, h1⟩ := nc_out S (w := w) (M := M) xs t0 v .un .un .un .un h
        simp [F2, B2_eq, S.exs_cons, S.exs_nil, S.exS_ret, S.exS_asg, S.exS_if, S.exS_for, S.exS_aug, augF, S.ev_var, S.ev_bi, S.ev_cst, S.ev_ix, S.ev_bin, S.ev_ifx, S.ev_cmp, S.evT_cmp, S.evT_var, S.ev_call, S.evs_cons, S.evs_nil, tru_bl, bin_sub, bin_add, bin_mul, len_il, len_dR, set_one, fill_nil, bi_min, bi_max, cmpR_lt, S.ev_neg, items_r1 e1, ix_dR e0, he _ _ _ _ e9, h1]
      · cases h
    · cases h
  · cases h
end
theorem r_entry {n : Nat} {row : List Int} {k v : Int} {M : List O} (h : entO row k = some v) : prg.run (n + 1) 1 [.d (il row), .d (.int k)] M = .ok (.d (.int v)) M := (run_eq n 1 F1 rfl _ _).trans (g_entry mi h)
theorem r_lawentry {n : Nat} {row : List Int} {k v : Int} {M : List O} (h : entO row k = some v) : prg.run (n + 1) 17 [.d (il row), .d (.int k)] M = .ok (.d (.int v)) M := (run_eq n 17 F17 rfl _ _).trans (g_lawentry mi h)
theorem entS (n : Nat) : EntS ⟨prg.run (n + 1), prg.sub, prg.turns⟩ := fun row k v M h => pcall_sc (denL_d [il row, .int k]) (r_entry h) rfl
theorem r_headed {n : Nat} {rows headed : List (List Int)} {names v : Int} {flat : Bool} {M : List O} (h : hcO rows headed names flat = some v) : prg.run (n + 1 + 1) 6 [.d (dR rows), .d (dR headed), .d (.int names), .d (.bl flat)] M = .ok (.d (.int v)) M := (run_eq (n + 1) 6 F6 rfl _ _).trans (g_headed mi (entS n) h)
theorem r_next {n : Nat} {rows : List (List Int)} {names v : Int} {flat : Bool} {M : List O} (h : ncO rows names flat = some v) : prg.run (n + 1 + 1) 2 [.d (dR rows), .d (.int names), .d (.bl flat)] M = .ok (.d (.int v)) M := (run_eq (n + 1) 2 F2 rfl _ _).trans (g_next mi (entS n) h)
end K85

set_option Elab.async false
set_option linter.all false
set_option maxRecDepth 100000
set_option maxHeartbeats 4000000
/-! k85: the defs that build lists of rows. -/
namespace K85
open PySem PySem.Spec L2 Mini
theorem len_cell {M : List O} {n : Nat} {xs : List A} (h : M[n]? = some (.lst xs)) : bi .len [.cell n] M = .ok (.d (.int (xs.length : Nat))) M := by
  have e : lsv M (.cell n) = some xs := by
    show (match M[n]? with
      | some (.lst xs) => some xs
      | some (.frz (.lst ds)) => some (ds.map A.d)
      | _ => none) = _
    rw [h]
  show (match (match lsv M (.cell n) with
    | some xs => some xs.length
    | none => none) with
    | some k => R.ok (A.d (.int (k : Int))) M
    | none => .no) = _
  rw [e]
theorem rcv_cell {M : List O} {n : Nat} {xs : List A} (h : M[n]? = some (.lst xs)) : rcv .append M (.cell n) = true := by
  have e : lsv M (.cell n) = some xs := by
    show (match M[n]? with
      | some (.lst xs) => some xs
      | some (.frz (.lst ds)) => some (ds.map A.d)
      | _ => none) = _
    rw [h]
  show (lsv M (.cell n)).isSome = true
  rw [e]; rfl
theorem app_cell {M : List O} {n : Nat} {xs : List A} {y : A} (h : M[n]? = some (.lst xs)) (hz : xs.length < sizeLine) : mt .append (.cell n) [y] M = .ok (.d .non) (M.set n (.lst (xs ++ [y]))) := by
  show (match M[n]? with
    | some (.lst xs) => if xs.length < sizeLine then R.ok (A.d .non) (M.set n (.lst (xs ++ [y]))) else .no
    | _ => .no) = _
  rw [h]
  exact if_pos hz
section
variable (S : Mi) {w : W}
/-- what a call of next_count gives -/
def NextS (w : W) : Prop := ∀ (rows : List (List Int)) (names v : Int) (flat : Bool) (as : List A) (M : List O), denL (den 8 M) as = some [dR rows, .int names, .bl flat] → ncO rows names flat = some v → pcall (w.run 2) as M = .ok (.d (.int v)) M
def crStep (nodes : Int) (flat : Bool) (rows : List (List Int)) : Option (Option (List (List Int))) := if (rows.length : Nat) ≤ nodes then (match rng1 ((rows.length : Nat) + 2) with
  | some xs => (match mpO (fun k => ncO rows k flat) xs with
    | some r => if xs.length ≤ sizeLine ∧ rows.length < sizeLine then some (some (rows ++ [r])) else none
    | none => none)
  | none => none) else some none
def crE : Mini.E := Mini.E.mt Mini.Mt.append (Mini.E.var 2)
                [(Mini.E.call 2 [Mini.E.var 2, Mini.E.var 3, Mini.E.var 1] [] []).comp (Mini.Tg.one 3) Mini.IK.r1
                    [Mini.E.bin Mini.Bin.add (Mini.E.bi Mini.Bi.len [Mini.E.var 2])
                        (Mini.E.cst (Mini.D.int (Int.ofNat 2)))]
                    [] [3]]
def CrP (nodes : Int) (flat : Bool) (rows : List (List Int)) (δ : List A) (M : List O) : Prop := ∃ cs c, δ = [.d (.int nodes), .d (.bl flat), .cell 1, c] ∧ M[1]? = some (.lst (cs.map A.cell)) ∧ Cells M [1] cs rows
theorem cr_step (hn : NextS w) {nodes : Int} {flat : Bool} {rows rows1 : List (List Int)} {δ : List A} {M : List O} (h : crStep nodes flat rows = some (some rows1)) (p : CrP nodes flat rows δ M) :
    ∃ M2, S.exs w [.ex crE] δ M = .nx δ M2 ∧ CrP nodes flat rows1 δ M2 ∧ (rows.length : Nat) ≤ nodes := by
  obtain ⟨cs, c, rfl, hM, hc⟩ := p
  unfold crStep at h
  split at h
  · rename_i hle
    split at h
    · rename_i xs e1
      split at h
      · rename_i r e2
        split at h
        · rename_i hz
          cases h
          have hl : cs.length = rows.length := hc.length
          have h1 : 1 < M.length := (List.getElem?_eq_some_iff.mp hM).1
          have e4 : compL M.length (.one 3) [.d (.int nodes), .d (.bl flat), .cell 1, .un] (fun _ M => .ok true M) (S.ev w (Mini.E.call 2 [Mini.E.var 2, Mini.E.var 3, Mini.E.var 1] [] [])) (xs.map D.int) (M ++ [.lst []]) = .ok () (M ++ [.lst ([] ++ ai r)]) := by
            refine compL_ints (f := fun k => ncO rows k flat) (fun x acc y hy => ?_) xs r [] e2 (by simpa using hz.1)
            have hd : denL (den 8 (M ++ [.lst acc])) [.cell 1, .d (.int x), .d (.bl flat)] = some [dR rows, .int x, .bl flat] := by
              have e := Cells.outer (Cells.app (M' := [.lst acc]) hc) (n := 1) (by rw [List.getElem?_append_left h1]; exact hM)
              unfold denL
              rw [e]
              rfl
            simp [S.ev_call, S.evs_cons, S.evs_nil, S.ev_var, fill_nil, hn _ _ _ _ _ _ hd hy]
          have e3 : items .r1 [.d (.int ((rows.length : Nat) + 2))] M = some (xs.map D.int, M) := items_r1 e1
          have hM2 : (M ++ [O.lst (ai r)])[1]? = some (.lst (cs.map A.cell)) := by rw [List.getElem?_append_left h1]; exact hM
          have e5 := app_cell (y := .cell M.length) hM2 (by rw [List.length_map, hl]; exact hz.2)
          refine ⟨(M ++ [O.lst (ai r)]).set 1 (.lst (cs.map A.cell ++ [.cell M.length])), ?_, ⟨cs ++ [M.length], c, rfl, ?_, ?_⟩, hle⟩
          · simp only [crE, S.exs_cons, S.exs_nil, S.exS_ex, S.ev_mt, S.ev_var, S.evs_cons, S.evs_nil, S.ev_comp]
            simp [rcv_cell hM, compR, S.evs_cons, S.evs_nil, S.ev_bin, S.ev_bi, S.ev_var, S.ev_cst, len_cell hM, hl, bin_add, e3, S.evA_nil, wipeA]
            simp at e4
            rw [e4]
            simp
            rw [e5]
            rfl
          · rw [List.getElem?_set_self (by simp; omega)]
            simp
          · refine Al.append (Cells.set (Cells.app hc) List.mem_cons_self) (.cons ⟨?_, ?_⟩ .nil)
            · rw [List.getElem?_set_ne (by omega)]
              simp
            · simp; omega
        · cases h
      · cases h
    · cases h
  · cases h
theorem B3_eq : B3 = [Mini.S.asg (Mini.Tg.one 2) (Mini.E.lst [Mini.E.lst [Mini.E.cst (Mini.D.int (Int.ofNat 0)), Mini.E.cst (Mini.D.int (Int.ofNat 1))]]),
        Mini.S.whl (Mini.E.cmp Mini.Cmp.le (Mini.E.bi Mini.Bi.len [Mini.E.var 2]) (Mini.E.var 0)) [.ex crE], Mini.S.ret (Mini.E.var 2)] := rfl
theorem cr_test {nodes : Int} {flat : Bool} {rows : List (List Int)} {δ : List A} {M : List O} (p : CrP nodes flat rows δ M) : S.evT w (Mini.E.cmp Mini.Cmp.le (Mini.E.bi Mini.Bi.len [Mini.E.var 2]) (Mini.E.var 0)) δ M = .ok (decide (((rows.length : Nat) : Int) ≤ nodes)) M := by
  obtain ⟨cs, c, rfl, hM, hc⟩ := p
  have hl : cs.length = rows.length := hc.length
  simp [S.evT_cmp, S.ev_cmp, S.ev_bi, S.evs_cons, S.evs_nil, S.ev_var, len_cell hM, hl, cmpR_le, tru_bl]
theorem g_counted (hn : NextS w) (ht : w.turns = 200) {nodes : Int} {flat : Bool} {rows : List (List Int)} (h : whO (crStep nodes flat) 200 [[0, 1]] = some rows) :
    ∃ M cs, S.go F3 w [.d (.int nodes), .d (.bl flat)] [] = .ok (.cell 1) M ∧ M[1]? = some (.lst (cs.map A.cell)) ∧ Cells M [1] cs rows := by
  have loop := whlR_whO (P := CrP nodes flat) (t := S.evT w (Mini.E.cmp Mini.Cmp.le (Mini.E.bi Mini.Bi.len [Mini.E.var 2]) (Mini.E.var 0))) (body := S.exs w [.ex crE]) (f := crStep nodes flat) ?_ ?_ 200 [[0, 1]] rows
    [.d (.int nodes), .d (.bl flat), .cell 1, .un] [.lst (ai [0, 1]), .lst [.cell 0]] h ⟨[0], .un, rfl, rfl, .cons ⟨rfl, by simp⟩ .nil⟩
  · obtain ⟨δ', M', h1, cs, c, rfl, hM, hc⟩ := loop
    refine ⟨M', cs, ?_, hM, hc⟩
    unfold Mi.go
    simp [F3, B3_eq, S.exs_cons, S.exs_nil, S.exS_asg, S.exS_whl, S.exS_ret, S.ev_lst, S.ev_cst, S.ev_var, S.evs_cons, S.evs_nil, mkL, newL, set_one, ht, sizeLine_eq]
    simp at h1
    simp [h1]
  · intro rows δ M e p
    refine ⟨M, ?_, p⟩
    rw [cr_test S p]
    unfold crStep at e
    split at e
    · split at e
      · split at e
        · split at e <;> cases e
        · cases e
      · cases e
    · rename_i hle
      rw [decide_eq_false hle]
  · intro rows rows1 δ M e p
    obtain ⟨M2, h1, h2, h3⟩ := cr_step S hn e p
    exact ⟨M, δ, M2, by rw [cr_test S p, decide_eq_true h3], h1, h2⟩
end
theorem nextS (n : Nat) : NextS ⟨prg.run (n + 1 + 1), prg.sub, prg.turns⟩ := fun rows names v flat as M hd h => pcall_sc hd (r_next h) rfl
theorem r_counted {n : Nat} {nodes : Int} {flat : Bool} {rows : List (List Int)} (h : whO (crStep nodes flat) 200 [[0, 1]] = some rows) :
    ∃ M cs, prg.run (n + 1 + 1 + 1) 3 [.d (.int nodes), .d (.bl flat)] [] = .ok (.cell 1) M ∧ M[1]? = some (.lst (cs.map A.cell)) ∧ Cells M [1] cs rows := by
  obtain ⟨M, cs, h1, h2⟩ := g_counted mi (nextS n) rfl h
  exact ⟨M, cs, (run_eq (n + 1 + 1) 3 F3 rfl _ _).trans h1, h2⟩
end K85

set_option Elab.async false
set_option linter.all false
set_option maxRecDepth 100000
set_option maxHeartbeats 4000000
/-! k85: plain_rows. -/
namespace K85
open PySem PySem.Spec L2 Mini
/-- calls, by what their arguments read as -/
def EntD (w : W) : Prop := ∀ (row : List Int) (k v : Int) (as : List A) (M : List O), denL (den 8 M) as = some [il row, .int k] → entO row k = some v → pcall (w.run 1) as M = .ok (.d (.int v)) M
def HeadD (w : W) : Prop := ∀ (rows headed : List (List Int)) (k v : Int) (flat : Bool) (as : List A) (M : List O), denL (den 8 M) as = some [dR rows, dR headed, .int k, .bl flat] → hcO rows headed k flat = some v → pcall (w.run 6) as M = .ok (.d (.int v)) M
theorem entD (n : Nat) : EntD ⟨prg.run (n + 1), prg.sub, prg.turns⟩ := fun row k v as M hd h => pcall_sc hd (r_entry h) rfl
theorem headD (n : Nat) : HeadD ⟨prg.run (n + 1 + 1), prg.sub, prg.turns⟩ := fun rows headed k v flat as M hd h => pcall_sc hd (r_headed h) rfl
theorem ix_cells {M : List O} {n : Nat} {xs : List A} {i : Int} {x : A} (h : M[n]? = some (.lst xs)) (hi : atI xs i = some x) : ixA M (.cell n) (.d (.int i)) = .ok x M := by
  have e : lsv M (.cell n) = some xs := by
    show (match M[n]? with
      | some (.lst xs) => some xs
      | some (.frz (.lst ds)) => some (ds.map A.d)
      | _ => none) = _
    rw [h]
  show (match lsv M (.cell n) with
    | some xs => (match atI xs i with
      | some x => R.ok x M
      | none => .no)
    | none => .no) = _
  rw [e]
  simp only
  rw [hi]
theorem al_atI {α β : Type} {Q : α → β → Prop} {xs : List α} {ys : List β} (h : Al Q xs ys) {i : Int} {y : β} (e : atI ys i = some y) : ∃ x, atI xs i = some x ∧ Q x y := by
  unfold atI at e ⊢
  rw [h.length]
  cases q : ixN ys.length i with
  | none => rw [q] at e; cases e
  | some j =>
    rw [q] at e
    exact h.get e
section
variable (S : Mi) {w : W}
abbrev RH : Type := List (List Int) × List (List Int)
def prRow (last apps : List Int) (k : Int) : Option Int := match entO last (k + 1), atI apps k with
  | some a, some b => some (a + b)
  | _, _ => none
def prNext (flat : Bool) (s : RH) : Option RH := match rng1 ((s.1.length : Nat) + 2), atI s.1 (-1) with
  | some xs, some last => (match mpO (fun k => hcO s.1 s.2 k flat) xs with
    | some apps => (match mpO (prRow last apps) xs with
      | some row => if xs.length ≤ sizeLine ∧ s.1.length < sizeLine ∧ s.2.length < sizeLine then some (s.1 ++ [row], s.2 ++ [apps]) else none
      | none => none)
    | none => none)
  | _, _ => none
def PrP (nodes : Int) (flat : Bool) (s : RH) (δ : List A) (M : List O) : Prop := ∃ cs ch a b c, δ = [.d (.int nodes), .d (.bl flat), .cell 1, .cell 3, a, b, c] ∧ M[1]? = some (.lst (cs.map A.cell)) ∧ M[3]? = some (.lst (ch.map A.cell)) ∧ Cells M [1, 3] cs s.1 ∧ Cells M [1, 3] ch s.2
theorem pr_heads (hh : HeadD w) {nodes n : Int} {flat : Bool} {s : RH} {cs ch : List Nat} {b c : A} {M : List O} {xs apps : List Int} (hM : M[1]? = some (.lst (cs.map A.cell))) (hM3 : M[3]? = some (.lst (ch.map A.cell))) (hc : Cells M [1, 3] cs s.1) (hd : Cells M [1, 3] ch s.2)
    (e1 : rng1 n = some xs) (e2 : mpO (fun k => hcO s.1 s.2 k flat) xs = some apps) (hz : xs.length ≤ sizeLine) :
    S.ev w ((Mini.E.call 6 [Mini.E.var 2, Mini.E.var 3, Mini.E.var 6, Mini.E.var 1] [] []).comp (Mini.Tg.one 6) Mini.IK.r1 [Mini.E.var 4] [] [6]) [.d (.int nodes), .d (.bl flat), .cell 1, .cell 3, .d (.int n), b, c] M = .ok (.cell M.length) (M ++ [.lst (ai apps)]) := by
  have h1 : 1 < M.length := (List.getElem?_eq_some_iff.mp hM).1
  have h3 : 3 < M.length := (List.getElem?_eq_some_iff.mp hM3).1
  have e4 : compL M.length (.one 6) [.d (.int nodes), .d (.bl flat), .cell 1, .cell 3, .d (.int n), b, .un] (fun _ M => .ok true M) (S.ev w (Mini.E.call 6 [Mini.E.var 2, Mini.E.var 3, Mini.E.var 6, Mini.E.var 1] [] [])) (xs.map D.int) (M ++ [.lst []]) = .ok () (M ++ [.lst ([] ++ ai apps)]) := by
    refine compL_ints (f := fun k => hcO s.1 s.2 k flat) (fun x acc y hy => ?_) xs apps [] e2 (by simpa using hz)
    have hden : denL (den 8 (M ++ [.lst acc])) [.cell 1, .cell 3, .d (.int x), .d (.bl flat)] = some [dR s.1, dR s.2, .int x, .bl flat] := by
      have e := Cells.outer (Cells.app (M' := [.lst acc]) hc) (n := 1) (by rw [List.getElem?_append_left h1]; exact hM)
      have e' := Cells.outer (Cells.app (M' := [.lst acc]) hd) (n := 3) (by rw [List.getElem?_append_left h3]; exact hM3)
      unfold denL
      rw [e]
      unfold denL
      rw [e']
      rfl
    simp [S.ev_call, S.evs_cons, S.evs_nil, S.ev_var, fill_nil, hh _ _ _ _ _ _ _ hden hy]
  have e3 : items .r1 [.d (.int n)] M = some (xs.map D.int, M) := items_r1 e1
  simp only [S.ev_comp]
  simp [compR, S.evs_cons, S.evs_nil, S.ev_var, e3, S.evA_nil, wipeA]
  simp at e4
  rw [e4]
theorem pr_rows (he : EntD w) {nodes n : Int} {flat : Bool} {rows : List (List Int)} {cs : List Nat} {ca : Nat} {c : A} {M : List O} {xs apps last row : List Int} (hM : M[1]? = some (.lst (cs.map A.cell))) (hc : Cells M [1, 3] cs rows) (ha : M[ca]? = some (.lst (ai apps)))
    (e1 : rng1 n = some xs) (e0 : atI rows (-1) = some last) (e2 : mpO (prRow last apps) xs = some row) (hz : xs.length ≤ sizeLine) :
    S.ev w ((Mini.E.bin Mini.Bin.add
                        (Mini.E.call 1
                          [(Mini.E.var 2).ix (Mini.E.cst (Mini.D.int (Int.ofNat 1))).neg,
                            Mini.E.bin Mini.Bin.add (Mini.E.var 6) (Mini.E.cst (Mini.D.int (Int.ofNat 1)))]
                          [] [])
                        ((Mini.E.var 5).ix (Mini.E.var 6))).comp
                    (Mini.Tg.one 6) Mini.IK.r1 [Mini.E.var 4] [] [6]) [.d (.int nodes), .d (.bl flat), .cell 1, .cell 3, .d (.int n), .cell ca, c] M = .ok (.cell M.length) (M ++ [.lst (ai row)]) := by
  have h1 : 1 < M.length := (List.getElem?_eq_some_iff.mp hM).1
  have h5 : ca < M.length := (List.getElem?_eq_some_iff.mp ha).1
  have hc0 : Al (fun x r => M[x]? = some (.lst (ai r)) ∧ x ∉ [1, 3]) cs rows := hc
  obtain ⟨cl, i1, i2, _⟩ := al_atI hc0 e0
  have h6 : cl < M.length := (List.getElem?_eq_some_iff.mp i2).1
  have i3 : atI (cs.map A.cell) (-1) = some (.cell cl) := by rw [atI_map, i1]; rfl
  have e4 : compL M.length (.one 6) [.d (.int nodes), .d (.bl flat), .cell 1, .cell 3, .d (.int n), .cell ca, .un] (fun _ M => .ok true M) (S.ev w (Mini.E.bin Mini.Bin.add
                        (Mini.E.call 1
                          [(Mini.E.var 2).ix (Mini.E.cst (Mini.D.int (Int.ofNat 1))).neg,
                            Mini.E.bin Mini.Bin.add (Mini.E.var 6) (Mini.E.cst (Mini.D.int (Int.ofNat 1)))]
                          [] [])
                        ((Mini.E.var 5).ix (Mini.E.var 6)))) (xs.map D.int) (M ++ [.lst []]) = .ok () (M ++ [.lst ([] ++ ai row)]) := by
    refine compL_ints (f := prRow last apps) (fun x acc y hy => ?_) xs row [] e2 (by simpa using hz)
    unfold prRow at hy
    split at hy
    · rename_i u v q1 q2
      cases hy
      have hden : denL (den 8 (M ++ [.lst acc])) [.cell cl, .d (.int (x + 1))] = some [il last, .int (x + 1)] := by
        have e := den_cell (k := 7) (M := M ++ [.lst acc]) (n := cl) (by rw [List.getElem?_append_left h6]; exact i2) (denL_ai 7 last)
        unfold denL
        rw [e]
        rfl
      have j1 := ix_cells (M := M ++ [.lst acc]) (n := 1) (by rw [List.getElem?_append_left h1]; exact hM) i3
      have j2 := ix_cells (M := M ++ [.lst acc]) (n := ca) (i := x) (x := .d (.int v)) (by rw [List.getElem?_append_left h5]; exact ha) (by rw [atI_map, q2]; rfl)
      simp [S.ev_bin, S.ev_call, S.evs_cons, S.evs_nil, S.ev_var, S.ev_ix, S.ev_neg, S.ev_cst, bin_add, fill_nil, j1, j2, he _ _ _ _ _ hden q1]
    · cases hy
  have e3 : items .r1 [.d (.int n)] M = some (xs.map D.int, M) := items_r1 e1
  simp only [S.ev_comp]
  simp [compR, S.evs_cons, S.evs_nil, S.ev_var, e3, S.evA_nil, wipeA]
  simp at e4
  rw [e4]
def prB : List Mini.S := [Mini.S.asg (Mini.Tg.one 4)
              (Mini.E.bin Mini.Bin.add (Mini.E.bi Mini.Bi.len [Mini.E.var 2]) (Mini.E.cst (Mini.D.int (Int.ofNat 2)))),
            Mini.S.asg (Mini.Tg.one 5)
              ((Mini.E.call 6 [Mini.E.var 2, Mini.E.var 3, Mini.E.var 6, Mini.E.var 1] [] []).comp (Mini.Tg.one 6)
                Mini.IK.r1 [Mini.E.var 4] [] [6]),
            Mini.S.ex (Mini.E.mt Mini.Mt.append (Mini.E.var 3) [Mini.E.var 5]),
            Mini.S.ex
              (Mini.E.mt Mini.Mt.append (Mini.E.var 2)
                [(Mini.E.bin Mini.Bin.add
                        (Mini.E.call 1
                          [(Mini.E.var 2).ix (Mini.E.cst (Mini.D.int (Int.ofNat 1))).neg,
                            Mini.E.bin Mini.Bin.add (Mini.E.var 6) (Mini.E.cst (Mini.D.int (Int.ofNat 1)))]
                          [] [])
                        ((Mini.E.var 5).ix (Mini.E.var 6))).comp
                    (Mini.Tg.one 6) Mini.IK.r1 [Mini.E.var 4] [] [6]])]
theorem pr_step (he : EntD w) (hh : HeadD w) {nodes : Int} {flat : Bool} {s s1 : RH} {δ : List A} {M : List O} (h : prNext flat s = some s1) (p : PrP nodes flat s δ M) : ∃ δ2 M2, S.exs w prB δ M = .nx δ2 M2 ∧ PrP nodes flat s1 δ2 M2 := by
  obtain ⟨cs, ch, a, b, c, rfl, hM, hM3, hc, hd⟩ := p
  unfold prNext at h
  split at h
  · rename_i xs last e1 e0
    split at h
    · rename_i apps e2
      split at h
      · rename_i row e3
        split at h
        · rename_i hz
          cases h
          have hl : cs.length = s.1.length := hc.length
          have hl3 : ch.length = s.2.length := hd.length
          have h1 : 1 < M.length := (List.getElem?_eq_some_iff.mp hM).1
          have h3 : 3 < M.length := (List.getElem?_eq_some_iff.mp hM3).1
          have k1 := pr_heads S hh (nodes := nodes) (b := b) (c := c) hM hM3 hc hd e1 e2 hz.1
          generalize hA : M ++ [O.lst (ai apps)] = MA at k1
          have a1 : MA[1]? = some (.lst (cs.map A.cell)) := by rw [← hA, List.getElem?_append_left h1]; exact hM
          have a3 : MA[3]? = some (.lst (ch.map A.cell)) := by rw [← hA, List.getElem?_append_left h3]; exact hM3
          have aA : MA[M.length]? = some (.lst (ai apps)) := by rw [← hA]; simp
          have aL : MA.length = M.length + 1 := by rw [← hA]; simp
          have ac : Cells MA [1, 3] cs s.1 := hA ▸ Cells.app hc
          have ad : Cells MA [1, 3] ch s.2 := hA ▸ Cells.app hd
          have k2 := app_cell (y := .cell M.length) a3 (by rw [List.length_map, hl3]; exact hz.2.2)
          generalize hB : MA.set 3 (.lst (ch.map A.cell ++ [.cell M.length])) = MB at k2
          have b1 : MB[1]? = some (.lst (cs.map A.cell)) := by rw [← hB, List.getElem?_set_ne (by omega)]; exact a1
          have b3 : MB[3]? = some (.lst (ch.map A.cell ++ [.cell M.length])) := by rw [← hB]; exact List.getElem?_set_self (by omega)
          have bA : MB[M.length]? = some (.lst (ai apps)) := by rw [← hB, List.getElem?_set_ne (by omega)]; exact aA
          have bL : MB.length = M.length + 1 := by rw [← hB, List.length_set, aL]
          have bc : Cells MB [1, 3] cs s.1 := hB ▸ Cells.set ac (by simp)
          have bd : Cells MB [1, 3] ch s.2 := hB ▸ Cells.set ad (by simp)
          have k3 := pr_rows S he (nodes := nodes) (flat := flat) (c := c) b1 bc bA e1 e0 e3 hz.1
          generalize hC : MB ++ [O.lst (ai row)] = MC at k3
          have c1 : MC[1]? = some (.lst (cs.map A.cell)) := by rw [← hC, List.getElem?_append_left (by omega)]; exact b1
          have c3 : MC[3]? = some (.lst (ch.map A.cell ++ [.cell M.length])) := by rw [← hC, List.getElem?_append_left (by omega)]; exact b3
          have cA : MC[M.length]? = some (.lst (ai apps)) := by rw [← hC, List.getElem?_append_left (by omega)]; exact bA
          have cR : MC[MB.length]? = some (.lst (ai row)) := by rw [← hC]; simp
          have cL : MC.length = M.length + 2 := by rw [← hC]; simp; omega
          have ccs : Cells MC [1, 3] cs s.1 := hC ▸ Cells.app bc
          have ccd : Cells MC [1, 3] ch s.2 := hC ▸ Cells.app bd
          have k4 := app_cell (y := .cell MB.length) c1 (by rw [List.length_map, hl]; exact hz.2.1)
          refine ⟨[.d (.int nodes), .d (.bl flat), .cell 1, .cell 3, .d (.int ((s.1.length : Nat) + 2)), .cell M.length, c], MC.set 1 (.lst (cs.map A.cell ++ [.cell MB.length])), ?_, cs ++ [MB.length], ch ++ [M.length], _, _, _, rfl, ?_, ?_, ?_, ?_⟩
          · simp only [prB, S.exs_cons, S.exs_nil, S.exS_ex, S.exS_asg, S.ev_bin, S.ev_bi, S.ev_cst, S.evs_cons, S.evs_nil, S.ev_mt]
            simp at k3
            simp [S.ev_var, len_cell hM, hl, bin_add, set_one, k1, rcv_cell a3, k2, rcv_cell b1, k3, k4]
          · rw [List.getElem?_set_self (by omega)]; simp
          · rw [List.getElem?_set_ne (by omega)]; simpa using c3
          · refine Al.append (Cells.set ccs (by simp)) (.cons ⟨?_, ?_⟩ .nil)
            · rw [List.getElem?_set_ne (by omega)]; exact cR
            · simp; omega
          · refine Al.append (Cells.set ccd (by simp)) (.cons ⟨?_, ?_⟩ .nil)
            · rw [List.getElem?_set_ne (by omega)]; exact cA
            · simp; omega
        · cases h
      · cases h
    · cases h
  · cases h
def prStep (nodes : Int) (flat : Bool) (s : RH) : Option (Option RH) := if (s.1.length : Nat) ≤ nodes then (match prNext flat s with
  | some s1 => some (some s1)
  | none => none) else some none
theorem pr_test {nodes : Int} {flat : Bool} {s : RH} {δ : List A} {M : List O} (p : PrP nodes flat s δ M) : S.evT w (Mini.E.cmp Mini.Cmp.le (Mini.E.bi Mini.Bi.len [Mini.E.var 2]) (Mini.E.var 0)) δ M = .ok (decide (((s.1.length : Nat) : Int) ≤ nodes)) M := by
  obtain ⟨cs, ch, a, b, c, rfl, hM, hM3, hc, hd⟩ := p
  have hl : cs.length = s.1.length := hc.length
  simp [S.evT_cmp, S.ev_cmp, S.ev_bi, S.evs_cons, S.evs_nil, S.ev_var, len_cell hM, hl, cmpR_le, tru_bl]
end
end K85

set_option Elab.async false
set_option linter.all false
set_option maxRecDepth 100000
set_option maxHeartbeats 4000000
/-! k85: plain_rows to its end; calls that hand back lists and tuples. -/
namespace K85
open PySem PySem.Spec L2 Mini
theorem CellsF.set' {M : List O} {bad cs : List Nat} {rows : List (List Int)} {n : Nat} {o : O} (h : CellsF M bad cs rows) (hn : n ∈ bad) : CellsF (M.set n o) bad cs rows := h.mono fun c r ⟨h1, h2⟩ => ⟨by
  rw [List.getElem?_set_ne (fun e => h2 (by rw [← e]; exact hn))]; exact h1, h2⟩
theorem frz_outer {M : List O} {k n : Nat} {bad cs : List Nat} {rows : List (List Int)} (hM : M[n]? = some (.lst (cs.map A.cell))) (hn : n ∈ bad) (h : CellsF M bad cs rows) :
    ∃ M1, frz (k + 2) M (.cell n) = some (dR rows, M1) ∧ (∀ j ∈ bad, j ≠ n → M1[j]? = M[j]?) ∧ ∀ cs' rows', CellsF M bad cs' rows' → CellsF M1 bad cs' rows' := by
  obtain ⟨M1, h1, h2, h3⟩ := CellsF.frzL (k := k) h
  refine ⟨M1.set n (.frz (dR rows)), ?_, fun j hj e => ?_, fun cs' rows' q => CellsF.set' (h3 _ _ q) hn⟩
  · show (match M[n]? with
      | some (.frz x) => some (x, M)
      | some (.lst xs) => (match Mini.frzL (frz (k + 1)) M xs with
        | some (ds, M1) => (match M1[n]? with
          | some (.lst _) => some (D.lst ds, M1.set n (.frz (.lst ds)))
          | _ => none)
        | none => none)
      | _ => none) = _
    rw [hM]
    simp only
    rw [h1]
    simp only
    rw [h2 n hn, hM]
  · rw [List.getElem?_set_ne (Ne.symm e)]
    exact h2 j hj
section
variable (S : Mi) {w : W}
theorem B7_eq : B7 = [Mini.S.asg (Mini.Tg.one 2) (Mini.E.lst [Mini.E.lst [Mini.E.cst (Mini.D.int (Int.ofNat 0)), Mini.E.cst (Mini.D.int (Int.ofNat 1))]]),
        Mini.S.asg (Mini.Tg.one 3) (Mini.E.lst [Mini.E.lst [Mini.E.cst (Mini.D.int (Int.ofNat 0)), Mini.E.cst (Mini.D.int (Int.ofNat 1))]]),
        Mini.S.whl (Mini.E.cmp Mini.Cmp.le (Mini.E.bi Mini.Bi.len [Mini.E.var 2]) (Mini.E.var 0)) prB, Mini.S.ret (Mini.E.tup [Mini.E.var 2, Mini.E.var 3])] := rfl
theorem g_plain (he : EntD w) (hh : HeadD w) (ht : w.turns = 200) {nodes : Int} {flat : Bool} {s : RH} (h : whO (prStep nodes flat) 200 ([[0, 1]], [[0, 1]]) = some s) :
    ∃ M, S.go F7 w [.d (.int nodes), .d (.bl flat)] [] = .ok (.d (.tup [dR s.1, dR s.2])) M := by
  have loop := whlR_whO (P := PrP nodes flat) (t := S.evT w (Mini.E.cmp Mini.Cmp.le (Mini.E.bi Mini.Bi.len [Mini.E.var 2]) (Mini.E.var 0))) (body := S.exs w prB) (f := prStep nodes flat) ?_ ?_ 200 ([[0, 1]], [[0, 1]]) s
    [.d (.int nodes), .d (.bl flat), .cell 1, .cell 3, .un, .un, .un] [.lst (ai [0, 1]), .lst [.cell 0], .lst (ai [0, 1]), .lst [.cell 2]] h ⟨[0], [2], .un, .un, .un, rfl, rfl, rfl, .cons ⟨rfl, by simp⟩ .nil, .cons ⟨rfl, by simp⟩ .nil⟩
  · obtain ⟨δ', M', h1, cs, ch, a, b, c, rfl, hM, hM3, hc, hd⟩ := loop
    obtain ⟨M1, f1, f2, f3⟩ := frz_outer (k := 6) hM (by simp) hc.toF
    obtain ⟨M2, f4, f5, f6⟩ := frz_outer (k := 6) (n := 3) (M := M1) (by rw [f2 3 (by simp) (by simp)]; exact hM3) (by simp) (f3 _ _ hd.toF)
    refine ⟨M2, ?_⟩
    have fz : frzL (frz 8) M' [.cell 1, .cell 3] = some ([dR s.1, dR s.2], M2) := by
      unfold frzL
      rw [f1]
      simp only
      unfold frzL
      rw [f4]
      rfl
    unfold Mi.go
    simp only [F7, B7_eq, S.exs_cons, S.exs_nil, S.exS_asg, S.exS_whl, S.exS_ret, S.ev_lst, S.ev_cst, S.evs_cons, S.evs_nil, S.ev_tup, ht]
    simp [S.ev_var, mkL, newL, set_one, sizeLine_eq]
    simp at h1
    simp [h1, S.ev_var, fz]
  · intro s δ M e p
    refine ⟨M, ?_, p⟩
    rw [pr_test S p]
    unfold prStep at e
    split at e
    · split at e <;> cases e
    · rename_i hle
      rw [decide_eq_false hle]
  · intro s s1 δ M e p
    have hle : ((s.1.length : Nat) : Int) ≤ nodes ∧ prNext flat s = some s1 := by
      unfold prStep at e
      split at e
      · rename_i hle
        split at e
        · rename_i s2 e2; cases e; exact ⟨hle, e2⟩
        · cases e
      · cases e
    obtain ⟨δ2, M2, h1, h2⟩ := pr_step S he hh hle.2 p
    exact ⟨M, δ2, M2, by rw [pr_test S p, decide_eq_true hle.1], h1, h2⟩
end
theorem r_plain {n : Nat} {nodes : Int} {flat : Bool} {s : RH} (h : whO (prStep nodes flat) 200 ([[0, 1]], [[0, 1]]) = some s) :
    ∃ M, prg.run (n + 1 + 1 + 1) 7 [.d (.int nodes), .d (.bl flat)] [] = .ok (.d (.tup [dR s.1, dR s.2])) M := by
  obtain ⟨M, h1⟩ := g_plain mi (entD (n + 1)) (headD n) rfl h
  exact ⟨M, (run_eq (n + 1 + 1) 7 F7 rfl _ _).trans h1⟩
/-- a call with scalars that hands back data -/
theorem pcall_dat {run : List A → List O → R A} {ds : List D} {x : D} {M M2 : List O} (h2 : run (ds.map A.d) [] = .ok (.d x) M2) (hs : ∀ M, frzL (frz 8) M (ds.map A.d) = some (ds, M)) : pcall run (ds.map A.d) M = .ok (.d x) M := by
  unfold pcall
  rw [denL_d]
  simp only
  rw [h2]
  simp only
  split
  · rfl
  · unfold pcallF
    rw [hs]
    simp only
    rw [h2]
    simp only
    split <;> rfl
theorem frzL_d {M : List O} : ∀ xs : List D, frzL (frz 8) M (xs.map A.d) = some (xs, M)
  | [] => rfl
  | x :: r => by
    show (match frz 8 M (.d x) with
      | some (x, M1) => (match frzL (frz 8) M1 (r.map A.d) with
        | some (xs, M2) => some (x :: xs, M2)
        | none => none)
      | none => none) = _
    have : frz 8 M (.d x) = some (x, M) := rfl
    rw [this]
    simp only
    rw [frzL_d r]
/-- a call with data that hands back a list of lists of numbers -/
theorem pcall_rows {run : List A → List O → R A} {ds : List D} {M M2 : List O} {k : Nat} {cs : List Nat} {rows : List (List Int)} (h2 : run (ds.map A.d) [] = .ok (.cell k) M2) (hM : M2[k]? = some (.lst (cs.map A.cell))) (hc : Cells M2 [k] cs rows) :
    pcall run (ds.map A.d) M = .ok (.cell M.length) (M ++ [.lst (rows.map fun r => A.d (il r))]) := by
  unfold pcall
  rw [denL_d]
  simp only
  rw [h2]
  simp only
  unfold pcallF
  rw [frzL_d]
  simp only
  rw [h2]
  simp only
  unfold give
  rw [hM]
  simp only
  obtain ⟨M3, f1, f2, f3⟩ := CellsF.frzL (k := 7) hc.toF
  rw [f1]
  simp only
  rw [f2 k (by simp), hM]
  simp only
  rw [List.map_map]
  rfl
end K85

set_option Elab.async false
set_option linter.all false
set_option maxRecDepth 100000
set_option maxHeartbeats 4000000
/-! k85: _law_choose, _law_plain_rows. -/
namespace K85
open PySem PySem.Spec L2 Mini
theorem bin_mul' {M : List O} {i j : Int} (h : okMul i j = true) : bin .mul (.d (.int i)) (.d (.int j)) M = .ok (.d (.int (i * j))) M := by
  rw [bin_mul, if_pos h]
theorem bin_fdv' {M : List O} {i j : Int} (h : okDiv j = true) : bin .fdv (.d (.int i)) (.d (.int j)) M = .ok (.d (.int (i / j))) M := by
  rw [bin_fdv, if_pos h]
theorem Cells.weak {M : List O} {bad bad' cs : List Nat} {rows : List (List Int)} (h : Cells M bad cs rows) (hb : ∀ n ∈ bad', n ∈ bad) : Cells M bad' cs rows := h.mono fun c r ⟨h1, h2⟩ => ⟨h1, fun q => h2 (hb _ q)⟩
section
variable (S : Mi) {w : W}
/-! ### _law_choose -/
def chStep (many found k : Int) : Option Int := if okMul found (many - k) = true ∧ okDiv (k + 1) = true then some (found * (many - k) / (k + 1)) else none
def chO (many chosen : Int) : Option Int := match rng1 chosen with
  | some xs => fO (chStep many) xs 1
  | none => none
def chB : List Mini.S := [Mini.S.asg (Mini.Tg.one 2)
              (Mini.E.bin Mini.Bin.fdv
                (Mini.E.bin Mini.Bin.mul (Mini.E.var 2) (Mini.E.bin Mini.Bin.sub (Mini.E.var 0) (Mini.E.var 3)))
                (Mini.E.bin Mini.Bin.add (Mini.E.var 3) (Mini.E.cst (Mini.D.int (Int.ofNat 1)))))]
theorem B13_eq : B13 = [Mini.S.asg (Mini.Tg.one 2) (Mini.E.cst (Mini.D.int (Int.ofNat 1))), Mini.S.forS (Mini.Tg.one 3) Mini.IK.r1 [Mini.E.var 1] chB, Mini.S.ret (Mini.E.var 2)] := rfl
theorem g_choose {many chosen v : Int} {M : List O} (h : chO many chosen = some v) : S.go F13 w [.d (.int many), .d (.int chosen)] M = .ok (.d (.int v)) M := by
  unfold chO at h
  split at h
  · rename_i xs e1
    have loop := forR_fO (tg := .one 3) (body := S.exs w chB) (P := fun f δ M' => M' = M ∧ ∃ c, δ = [.d (.int many), .d (.int chosen), .d (.int f), c]) (f := chStep many) ?_ xs 1 v
      [.d (.int many), .d (.int chosen), .d (.int 1), .un] M h ⟨rfl, _, rfl⟩
    · obtain ⟨δ', M', h1, rfl, c, rfl⟩ := loop
      unfold Mi.go
      simp only [F13, B13_eq, S.exs_cons, S.exs_nil, S.exS_asg, S.exS_for, S.exS_ret, S.ev_cst, S.evs_cons, S.evs_nil]
      simp [set_one, S.ev_var, items_r1 e1, h1]
    · rintro f k f1 δ M1 hs ⟨rfl, c, rfl⟩
      unfold chStep at hs
      split at hs
      · rename_i hz
        cases hs
        refine ⟨_, [.d (.int many), .d (.int chosen), .d (.int (f * (many - k) / (k + 1))), .d (.int k)], _, rfl, .inl ?_, rfl, _, rfl⟩
        simp [chB, S.exs_cons, S.exs_nil, S.exS_asg, S.ev_bin, S.ev_var, S.ev_cst, bin_sub, bin_add, bin_mul' hz.1, bin_fdv' hz.2, set_one]
      · cases hs
  · cases h
/-- calls of _law_choose -/
def ChD (w : W) : Prop := ∀ (n k v : Int) (M : List O), chO n k = some v → pcall (w.run 13) [.d (.int n), .d (.int k)] M = .ok (.d (.int v)) M
/-! ### the rows -/
def lpIn (rows heads : List (List Int)) (flat : Bool) (count names left tot ch : Int) : Option Int := match atI heads left, atI rows (count - 1 - left) with
  | some hl, some rl => if ch < (hl.length : Nat) then (if names - ch < (rl.length : Nat) then (match atI hl ch, atI rl (names - ch) with
    | some a, some b => if okMul a b then (if flat then some (tot + a * b) else (match chO names ch with
      | some c => if okMul (a * b) c then some (tot + a * b * c) else none
      | none => none)) else none
    | _, _ => none) else some tot) else some tot
  | _, _ => none
def lpLeft (rows heads : List (List Int)) (flat : Bool) (count names tot left : Int) : Option Int := match rng1 (names + 1) with
  | some ys => fO (lpIn rows heads flat count names left) ys tot
  | none => none
def lpTot (rows heads : List (List Int)) (flat : Bool) (count names : Int) : Option Int := match rng1 count with
  | some ys => fO (lpLeft rows heads flat count names) ys 0
  | none => none
def lpB3 : List Mini.S := [Mini.S.ifS
                          ((Mini.E.cmp Mini.Cmp.lt (Mini.E.var 10)
                                (Mini.E.bi Mini.Bi.len [(Mini.E.var 3).ix (Mini.E.var 9)])).an
                            (Mini.E.cmp Mini.Cmp.lt (Mini.E.bin Mini.Bin.sub (Mini.E.var 7) (Mini.E.var 10))
                              (Mini.E.bi Mini.Bi.len
                                [(Mini.E.var 2).ix
                                    (Mini.E.bin Mini.Bin.sub
                                      (Mini.E.bin Mini.Bin.sub (Mini.E.var 4) (Mini.E.cst (Mini.D.int (Int.ofNat 1))))
                                      (Mini.E.var 9))])))
                          [Mini.S.asg (Mini.Tg.one 11)
                              (Mini.E.bin Mini.Bin.mul (((Mini.E.var 3).ix (Mini.E.var 9)).ix (Mini.E.var 10))
                                (((Mini.E.var 2).ix
                                      (Mini.E.bin Mini.Bin.sub
                                        (Mini.E.bin Mini.Bin.sub (Mini.E.var 4) (Mini.E.cst (Mini.D.int (Int.ofNat 1))))
                                        (Mini.E.var 9))).ix
                                  (Mini.E.bin Mini.Bin.sub (Mini.E.var 7) (Mini.E.var 10)))),
                            Mini.S.ifS (Mini.E.var 1).nt
                              [Mini.S.asg (Mini.Tg.one 11)
                                  (Mini.E.bin Mini.Bin.mul (Mini.E.var 11)
                                    (Mini.E.call 13 [Mini.E.var 7, Mini.E.var 10] [] []))]
                              [],
                            Mini.S.asg (Mini.Tg.one 8) (Mini.E.bin Mini.Bin.add (Mini.E.var 8) (Mini.E.var 11))]
                          []]
def lpB2 : List Mini.S := [Mini.S.forS (Mini.Tg.one 10) Mini.IK.r1 [Mini.E.bin Mini.Bin.add (Mini.E.var 7) (Mini.E.cst (Mini.D.int (Int.ofNat 1)))] lpB3]
/-- what stands while the sums are reckoned -/
structure LpM (M : List O) (cs ch : List Nat) (rows heads : List (List Int)) (bad : List Nat) : Prop where
  h1 : M[1]? = some (.lst (cs.map A.cell))
  h3 : M[3]? = some (.lst (ch.map A.cell))
  hc : Cells M bad cs rows
  hd : Cells M bad ch heads
theorem len_cells {M : List O} {bad cs : List Nat} {rows : List (List Int)} {n : Nat} {i : Int} {r : List Int} (hM : M[n]? = some (.lst (cs.map A.cell))) (hc : Cells M bad cs rows) (e : atI rows i = some r) :
    ∃ c, ixA M (.cell n) (.d (.int i)) = .ok (.cell c) M ∧ bi .len [.cell c] M = .ok (.d (.int (r.length : Nat))) M ∧ (∀ j v, atI r j = some v → ixA M (.cell c) (.d (.int j)) = .ok (.d (.int v)) M) := by
  have hc0 : Al (fun x r => M[x]? = some (.lst (ai r)) ∧ x ∉ bad) cs rows := hc
  obtain ⟨c, i1, i2, _⟩ := al_atI hc0 e
  refine ⟨c, ix_cells hM (by rw [atI_map, i1]; rfl), ?_, fun j v hv => ix_cells i2 (by rw [atI_map, hv]; rfl)⟩
  rw [len_cell i2, List.length_map]
theorem lp_in (hch : ChD w) {rows heads : List (List Int)} {flat : Bool} {nodes count names left tot ch tot1 : Int} {M : List O} {cs ch' bad : List Nat} {r5 r6 c11 : A} (m : LpM M cs ch' rows heads bad)
    (h : lpIn rows heads flat count names left tot ch = some tot1) :
    ∃ c', S.exs w lpB3 [.d (.int nodes), .d (.bl flat), .cell 1, .cell 3, .d (.int count), r5, r6, .d (.int names), .d (.int tot), .d (.int left), .d (.int ch), c11] M =
      .nx [.d (.int nodes), .d (.bl flat), .cell 1, .cell 3, .d (.int count), r5, r6, .d (.int names), .d (.int tot1), .d (.int left), .d (.int ch), c'] M := by
  unfold lpIn at h
  split at h
  · rename_i hl rl e1 e2
    obtain ⟨c1, p1, p2, p3⟩ := len_cells m.h3 m.hd e1
    obtain ⟨c2, q1, q2, q3⟩ := len_cells m.h1 m.hc e2
    split at h
    · rename_i k1
      split at h
      · rename_i k2
        split at h
        · rename_i a b e3 e4
          split at h
          · rename_i k3
            split at h
            · rename_i k4
              cases h
              subst k4
              refine ⟨.d (.int (a * b)), ?_⟩
              simp [lpB3, S.exs_cons, S.exs_nil, S.exS_if, S.exS_asg, S.evT_an, S.evT_cmp, S.evT_nt, S.evT_var, S.ev_cmp, S.ev_bin, S.ev_bi, S.ev_ix, S.ev_var, S.ev_cst, S.evs_cons, S.evs_nil, bin_sub, bin_add, bin_mul' k3, p1, p2, q1, q2, p3 _ _ e3, q3 _ _ e4, cmpR_lt, tru_bl, k1, k2, set_one]
            · rename_i k4
              have k4 : flat = false := by simpa using k4
              subst k4
              split at h
              · rename_i c e5
                split at h
                · rename_i k5
                  cases h
                  refine ⟨.d (.int (a * b * c)), ?_⟩
                  simp [lpB3, S.exs_cons, S.exs_nil, S.exS_if, S.exS_asg, S.evT_an, S.evT_cmp, S.evT_nt, S.evT_var, S.ev_cmp, S.ev_bin, S.ev_bi, S.ev_ix, S.ev_var, S.ev_cst, S.ev_call, S.evs_cons, S.evs_nil, bin_sub, bin_add, bin_mul' k3, bin_mul' k5, fill_nil, hch _ _ _ _ e5, p1, p2, q1, q2, p3 _ _ e3, q3 _ _ e4, cmpR_lt, tru_bl, k1, k2, set_one]
                · cases h
              · cases h
          · cases h
        · cases h
      · rename_i k2
        cases h
        refine ⟨c11, ?_⟩
        simp [lpB3, S.exs_cons, S.exs_nil, S.exS_if, S.exS_asg, S.evT_an, S.evT_cmp, S.evT_nt, S.evT_var, S.ev_cmp, S.ev_bin, S.ev_bi, S.ev_ix, S.ev_var, S.ev_cst, S.evs_cons, S.evs_nil, bin_sub, bin_add, p1, p2, q1, q2, cmpR_lt, tru_bl, k1, k2, set_one]
    · rename_i k1
      cases h
      refine ⟨c11, ?_⟩
      simp [lpB3, S.exs_cons, S.exs_nil, S.exS_if, S.exS_asg, S.evT_an, S.evT_cmp, S.evT_nt, S.evT_var, S.ev_cmp, S.ev_bin, S.ev_bi, S.ev_ix, S.ev_var, S.ev_cst, S.evs_cons, S.evs_nil, bin_sub, bin_add, p1, p2, q1, q2, cmpR_lt, tru_bl, k1, set_one]
  · cases h
theorem lp_left (hch : ChD w) {rows heads : List (List Int)} {flat : Bool} {nodes count names left tot tot1 : Int} {M : List O} {cs ch' bad : List Nat} {r5 r6 c10 c11 : A} (m : LpM M cs ch' rows heads bad)
    (h : lpLeft rows heads flat count names tot left = some tot1) :
    ∃ c10' c11', S.exs w lpB2 [.d (.int nodes), .d (.bl flat), .cell 1, .cell 3, .d (.int count), r5, r6, .d (.int names), .d (.int tot), .d (.int left), c10, c11] M =
      .nx [.d (.int nodes), .d (.bl flat), .cell 1, .cell 3, .d (.int count), r5, r6, .d (.int names), .d (.int tot1), .d (.int left), c10', c11'] M := by
  unfold lpLeft at h
  split at h
  · rename_i ys e1
    have loop := forR_fO (tg := .one 10) (body := S.exs w lpB3) (P := fun t δ M' => M' = M ∧ ∃ c10 c11, δ = [.d (.int nodes), .d (.bl flat), .cell 1, .cell 3, .d (.int count), r5, r6, .d (.int names), .d (.int t), .d (.int left), c10, c11]) (f := lpIn rows heads flat count names left) ?_ ys tot tot1
      [.d (.int nodes), .d (.bl flat), .cell 1, .cell 3, .d (.int count), r5, r6, .d (.int names), .d (.int tot), .d (.int left), c10, c11] M h ⟨rfl, _, _, rfl⟩
    · obtain ⟨δ', M', h1, rfl, a, b, rfl⟩ := loop
      refine ⟨a, b, ?_⟩
      simp [lpB2, S.exs_cons, S.exs_nil, S.exS_for, S.ev_bin, S.ev_var, S.ev_cst, S.evs_cons, S.evs_nil, bin_add, items_r1 e1, h1]
    · rintro t k t1 δ M1 hs ⟨rfl, c10, c11, rfl⟩
      obtain ⟨c', hq⟩ := lp_in S hch (nodes := nodes) (r5 := r5) (r6 := r6) (c11 := c11) m hs
      exact ⟨_, _, _, rfl, .inl hq, rfl, _, _, rfl⟩
  · cases h
theorem lp_tot (hch : ChD w) {rows heads : List (List Int)} {flat : Bool} {nodes count names tot1 : Int} {M : List O} {cs ch' bad : List Nat} {r5 r6 c9 c10 c11 : A} (m : LpM M cs ch' rows heads bad) {ys : List Int}
    (h : fO (lpLeft rows heads flat count names) ys 0 = some tot1) :
    ∃ c9' c10' c11', forR (.one 9) (S.exs w lpB2) (ys.map D.int) [.d (.int nodes), .d (.bl flat), .cell 1, .cell 3, .d (.int count), r5, r6, .d (.int names), .d (.int 0), c9, c10, c11] M =
      .nx [.d (.int nodes), .d (.bl flat), .cell 1, .cell 3, .d (.int count), r5, r6, .d (.int names), .d (.int tot1), c9', c10', c11'] M := by
  have loop := forR_fO (tg := .one 9) (body := S.exs w lpB2) (P := fun t δ M' => M' = M ∧ ∃ c9 c10 c11, δ = [.d (.int nodes), .d (.bl flat), .cell 1, .cell 3, .d (.int count), r5, r6, .d (.int names), .d (.int t), c9, c10, c11]) (f := lpLeft rows heads flat count names) ?_ ys 0 tot1
      [.d (.int nodes), .d (.bl flat), .cell 1, .cell 3, .d (.int count), r5, r6, .d (.int names), .d (.int 0), c9, c10, c11] M h ⟨rfl, _, _, _, rfl⟩
  · obtain ⟨δ', M', h1, rfl, a, b, c, rfl⟩ := loop
    exact ⟨a, b, c, h1⟩
  · rintro t k t1 δ M1 hs ⟨rfl, c9, c10, c11, rfl⟩
    obtain ⟨c', c'', hq⟩ := lp_left S hch (nodes := nodes) (r5 := r5) (r6 := r6) (c10 := c10) (c11 := c11) m hs
    exact ⟨_, _, _, rfl, .inl hq, rfl, _, _, _, rfl⟩
end
end K85

set_option Elab.async false
set_option linter.all false
set_option maxRecDepth 100000
set_option maxHeartbeats 4000000
/-! k85: _law_plain_rows. -/
namespace K85
open PySem PySem.Spec L2 Mini
theorem Cells.fresh {M : List O} {bad bad' cs : List Nat} {rows : List (List Int)} (h : Cells M bad cs rows) (hb : ∀ n ∈ bad', n ∈ bad ∨ M.length ≤ n) : Cells M bad' cs rows := h.mono fun c r ⟨h1, h2⟩ => ⟨h1, fun q => by
  rcases hb c q with z | z
  · exact h2 z
  · have := (List.getElem?_eq_some_iff.mp h1).1; omega⟩
section
variable (S : Mi) {w : W}
def lpName (rows heads : List (List Int)) (flat : Bool) (count : Int) (s : List Int × List Int) (names : Int) : Option (List Int × List Int) := match rng1 count, atI rows (count - 1) with
  | some ys, some last => (match fO (lpLeft rows heads flat count names) ys 0 with
    | some t => if s.1.length < sizeLine ∧ s.2.length < sizeLine then (if names + 1 < (last.length : Nat) then (match atI last (names + 1) with
      | some v => some (s.1 ++ [t + v], s.2 ++ [t])
      | none => none) else some (s.1 ++ [t], s.2 ++ [t])) else none
    | none => none)
  | _, _ => none
def lpB1 : List Mini.S := [Mini.S.asg (Mini.Tg.one 8) (Mini.E.cst (Mini.D.int (Int.ofNat 0))),
                Mini.S.forS (Mini.Tg.one 9) Mini.IK.r1 [Mini.E.var 4] lpB2,
                Mini.S.ex (Mini.E.mt Mini.Mt.append (Mini.E.var 6) [Mini.E.var 8]),
                Mini.S.ifS
                  (Mini.E.cmp Mini.Cmp.lt
                    (Mini.E.bin Mini.Bin.add (Mini.E.var 7) (Mini.E.cst (Mini.D.int (Int.ofNat 1))))
                    (Mini.E.bi Mini.Bi.len
                      [(Mini.E.var 2).ix
                          (Mini.E.bin Mini.Bin.sub (Mini.E.var 4) (Mini.E.cst (Mini.D.int (Int.ofNat 1))))]))
                  [Mini.S.asg (Mini.Tg.one 8)
                      (Mini.E.bin Mini.Bin.add (Mini.E.var 8)
                        (((Mini.E.var 2).ix
                              (Mini.E.bin Mini.Bin.sub (Mini.E.var 4) (Mini.E.cst (Mini.D.int (Int.ofNat 1))))).ix
                          (Mini.E.bin Mini.Bin.add (Mini.E.var 7) (Mini.E.cst (Mini.D.int (Int.ofNat 1))))))]
                  [],
                Mini.S.ex (Mini.E.mt Mini.Mt.append (Mini.E.var 5) [Mini.E.var 8])]
def NmP (nodes : Int) (flat : Bool) (count : Int) (rows heads : List (List Int)) (cs ch : List Nat) (cr cd : Nat) (s : List Int × List Int) (δ : List A) (M : List O) : Prop :=
  ∃ a7 a8 a9 a10 a11, δ = [.d (.int nodes), .d (.bl flat), .cell 1, .cell 3, .d (.int count), .cell cr, .cell cd, a7, a8, a9, a10, a11] ∧ LpM M cs ch rows heads [1, 3, cr, cd] ∧ M[cr]? = some (.lst (ai s.1)) ∧ M[cd]? = some (.lst (ai s.2))
theorem LpM.set {M : List O} {cs ch : List Nat} {rows heads : List (List Int)} {bad : List Nat} {n : Nat} {o : O} (m : LpM M cs ch rows heads bad) (h1 : n ≠ 1) (h3 : n ≠ 3) (hn : n ∈ bad) : LpM (M.set n o) cs ch rows heads bad where
  h1 := by rw [List.getElem?_set_ne h1]; exact m.h1
  h3 := by rw [List.getElem?_set_ne h3]; exact m.h3
  hc := Cells.set m.hc hn
  hd := Cells.set m.hd hn
theorem lp_name (hch : ChD w) {nodes count names : Int} {flat : Bool} {rows heads : List (List Int)} {cs ch : List Nat} {cr cd : Nat} {s s1 : List Int × List Int} {δ : List A} {M : List O} (hrd : cr ≠ cd) (hr1 : cr ≠ 1) (hr3 : cr ≠ 3) (hd1 : cd ≠ 1) (hd3 : cd ≠ 3)
    (h : lpName rows heads flat count s names = some s1) (p : NmP nodes flat count rows heads cs ch cr cd s δ M) : ∃ δ1 δ2 M2, setTg (.one 7) (.d (.int names)) δ = some δ1 ∧ (S.exs w lpB1 δ1 M = .nx δ2 M2 ∨ S.exs w lpB1 δ1 M = .ct δ2 M2) ∧ NmP nodes flat count rows heads cs ch cr cd s1 δ2 M2 := by
  obtain ⟨a7, a8, a9, a10, a11, rfl, m, hr, hd⟩ := p
  unfold lpName at h
  split at h
  · rename_i ys last e1 e2
    split at h
    · rename_i t e3
      split at h
      · rename_i hz
        obtain ⟨c9, c10, c11, h1⟩ := lp_tot S hch (nodes := nodes) (flat := flat) (r5 := .cell cr) (r6 := .cell cd) (c9 := a9) (c10 := a10) (c11 := a11) m e3
        have k1 := app_cell (y := .d (.int t)) hd (by simpa using hz.2)
        have m2 : LpM (M.set cd (.lst (ai s.2 ++ [.d (.int t)]))) cs ch rows heads [1, 3, cr, cd] := m.set hd1 hd3 (by simp)
        have hr2 : (M.set cd (.lst (ai s.2 ++ [.d (.int t)])))[cr]? = some (.lst (ai s.1)) := by rw [List.getElem?_set_ne (Ne.symm hrd)]; exact hr
        have hd2 : (M.set cd (.lst (ai s.2 ++ [.d (.int t)])))[cd]? = some (.lst (ai (s.2 ++ [t]))) := by
          rw [List.getElem?_set_self (List.getElem?_eq_some_iff.mp hd).1]; simp
        generalize M.set cd (.lst (ai s.2 ++ [.d (.int t)])) = M2 at k1 m2 hr2 hd2
        obtain ⟨c, q1, q2, q3⟩ := len_cells m2.h1 m2.hc e2
        split at h
        · rename_i hk
          split at h
          · rename_i v e4
            cases h
            have k2 := app_cell (y := .d (.int (t + v))) hr2 (by simpa using hz.1)
            refine ⟨_, [.d (.int nodes), .d (.bl flat), .cell 1, .cell 3, .d (.int count), .cell cr, .cell cd, .d (.int names), .d (.int (t + v)), c9, c10, c11], M2.set cr (.lst (ai s.1 ++ [.d (.int (t + v))])), rfl, .inl ?_, _, _, _, _, _, rfl, m2.set hr1 hr3 (by simp), ?_, ?_⟩
            · simp only [lpB1, S.exs_cons, S.exs_nil, S.exS_asg, S.exS_for, S.exS_ex, S.exS_if, S.ev_mt, S.ev_cst, S.evs_cons, S.evs_nil, S.evT_cmp, S.ev_cmp, S.ev_bin, S.ev_bi, S.ev_ix]
              simp [set_one, S.ev_var, items_r1 e1, h1, rcv_cell hd, k1, bin_add, bin_sub, q1, q2, q3 _ _ e4, cmpR_lt, tru_bl, hk, rcv_cell hr2, k2]
            · rw [List.getElem?_set_self (List.getElem?_eq_some_iff.mp hr2).1]; simp
            · rw [List.getElem?_set_ne hrd]; exact hd2
          · cases h
        · rename_i hk
          cases h
          have k2 := app_cell (y := .d (.int t)) hr2 (by simpa using hz.1)
          refine ⟨_, [.d (.int nodes), .d (.bl flat), .cell 1, .cell 3, .d (.int count), .cell cr, .cell cd, .d (.int names), .d (.int t), c9, c10, c11], M2.set cr (.lst (ai s.1 ++ [.d (.int t)])), rfl, .inl ?_, _, _, _, _, _, rfl, m2.set hr1 hr3 (by simp), ?_, ?_⟩
          · simp only [lpB1, S.exs_cons, S.exs_nil, S.exS_asg, S.exS_for, S.exS_ex, S.exS_if, S.ev_mt, S.ev_cst, S.evs_cons, S.evs_nil, S.evT_cmp, S.ev_cmp, S.ev_bin, S.ev_bi, S.ev_ix]
            simp [set_one, S.ev_var, items_r1 e1, h1, rcv_cell hd, k1, bin_add, bin_sub, q1, q2, cmpR_lt, tru_bl, hk, rcv_cell hr2, k2]
          · rw [List.getElem?_set_self (List.getElem?_eq_some_iff.mp hr2).1]; simp
          · rw [List.getElem?_set_ne hrd]; exact hd2
      · cases h
    · cases h
  · cases h
def lpCount (flat : Bool) (s : RH) (count : Int) : Option RH := match rng1 (count + 2) with
  | some ys => (match fO (lpName s.1 s.2 flat count) ys ([], []) with
    | some p => if s.1.length < sizeLine ∧ s.2.length < sizeLine then some (s.1 ++ [p.1], s.2 ++ [p.2]) else none
    | none => none)
  | none => none
def lpB0 : List Mini.S := [Mini.S.asg (Mini.Tg.one 5) (Mini.E.lst []), Mini.S.asg (Mini.Tg.one 6) (Mini.E.lst []),
            Mini.S.forS (Mini.Tg.one 7) Mini.IK.r1
              [Mini.E.bin Mini.Bin.add (Mini.E.var 4) (Mini.E.cst (Mini.D.int (Int.ofNat 2)))] lpB1,
            Mini.S.ex (Mini.E.mt Mini.Mt.append (Mini.E.var 2) [Mini.E.var 5]),
            Mini.S.ex (Mini.E.mt Mini.Mt.append (Mini.E.var 3) [Mini.E.var 6])]
def CtP (nodes : Int) (flat : Bool) (s : RH) (δ : List A) (M : List O) : Prop :=
  ∃ cs ch a4 a5 a6 a7 a8 a9 a10 a11, δ = [.d (.int nodes), .d (.bl flat), .cell 1, .cell 3, a4, a5, a6, a7, a8, a9, a10, a11] ∧ LpM M cs ch s.1 s.2 [1, 3]
theorem lp_count (hch : ChD w) {nodes count : Int} {flat : Bool} {s s1 : RH} {δ : List A} {M : List O} (h : lpCount flat s count = some s1) (p : CtP nodes flat s δ M) :
    ∃ δ1 δ2 M2, setTg (.one 4) (.d (.int count)) δ = some δ1 ∧ (S.exs w lpB0 δ1 M = .nx δ2 M2 ∨ S.exs w lpB0 δ1 M = .ct δ2 M2) ∧ CtP nodes flat s1 δ2 M2 := by
  obtain ⟨cs, ch, a4, a5, a6, a7, a8, a9, a10, a11, rfl, m⟩ := p
  unfold lpCount at h
  split at h
  · rename_i ys e1
    split at h
    · rename_i pr e2
      split at h
      · rename_i hz
        cases h
        have l3 : 3 < M.length := (List.getElem?_eq_some_iff.mp m.h3).1
        have l1 : 1 < M.length := (List.getElem?_eq_some_iff.mp m.h1).1
        have hl1 : cs.length = s.1.length := m.hc.length
        have hl3 : ch.length = s.2.length := m.hd.length
        have m1 : LpM (M ++ [O.lst []] ++ [O.lst []]) cs ch s.1 s.2 [1, 3, M.length, M.length + 1] := by
          refine ⟨?_, ?_, ?_, ?_⟩
          · rw [List.append_assoc, List.getElem?_append_left l1]; exact m.h1
          · rw [List.append_assoc, List.getElem?_append_left l3]; exact m.h3
          · exact Cells.app (Cells.app (Cells.fresh m.hc (fun n hn => by simp at hn; simp; omega)))
          · exact Cells.app (Cells.app (Cells.fresh m.hd (fun n hn => by simp at hn; simp; omega)))
        have loop := forR_fO (tg := .one 7) (body := S.exs w lpB1) (P := NmP nodes flat count s.1 s.2 cs ch M.length (M.length + 1)) (f := lpName s.1 s.2 flat count)
          (fun t k t1 δ M1 hs q => lp_name S hch (by omega) (by omega) (by omega) (by omega) (by omega) hs q) ys ([], []) pr
          [.d (.int nodes), .d (.bl flat), .cell 1, .cell 3, .d (.int count), .cell M.length, .cell (M.length + 1), a7, a8, a9, a10, a11] (M ++ [O.lst []] ++ [O.lst []]) e2
          ⟨_, _, _, _, _, rfl, m1, by simp, by simp⟩
        obtain ⟨δ', M', h1, b7, b8, b9, b10, b11, rfl, m2, hr, hd⟩ := loop
        have k1 := app_cell (y := .cell M.length) m2.h1 (by rw [List.length_map, hl1]; exact hz.1)
        have h3' : (M'.set 1 (.lst (cs.map A.cell ++ [.cell M.length])))[3]? = some (.lst (ch.map A.cell)) := by rw [List.getElem?_set_ne (by omega)]; exact m2.h3
        have k2 := app_cell (y := .cell (M.length + 1)) h3' (by rw [List.length_map, hl3]; exact hz.2)
        have j1 : 1 < M'.length := (List.getElem?_eq_some_iff.mp m2.h1).1
        have j3 : 3 < M'.length := (List.getElem?_eq_some_iff.mp m2.h3).1
        refine ⟨_, [.d (.int nodes), .d (.bl flat), .cell 1, .cell 3, .d (.int count), .cell M.length, .cell (M.length + 1), b7, b8, b9, b10, b11], (M'.set 1 (.lst (cs.map A.cell ++ [.cell M.length]))).set 3 (.lst (ch.map A.cell ++ [.cell (M.length + 1)])), rfl, .inl ?_, cs ++ [M.length], ch ++ [M.length + 1], _, _, _, _, _, _, _, _, rfl, ?_, ?_, ?_, ?_⟩
        · simp only [lpB0, S.exs_cons, S.exs_nil, S.exS_asg, S.exS_for, S.exS_ex, S.ev_lst, S.ev_mt, S.ev_cst, S.evs_cons, S.evs_nil, S.ev_bin]
          simp [set_one, S.ev_var, mkL, newL, bin_add, items_r1 e1]
          simp at h1
          rw [h1]
          simp [rcv_cell m2.h1, k1, rcv_cell h3', k2]
        · rw [List.getElem?_set_ne (by omega), List.getElem?_set_self j1]; simp
        · rw [List.getElem?_set_self (by simpa using j3)]; simp
        · refine Al.append (Cells.set (Cells.set (Cells.weak m2.hc (by simp)) (by simp)) (by simp)) (.cons ⟨?_, ?_⟩ .nil)
          · rw [List.getElem?_set_ne (by omega), List.getElem?_set_ne (by omega)]; exact hr
          · simp; omega
        · refine Al.append (Cells.set (Cells.set (Cells.weak m2.hd (by simp)) (by simp)) (by simp)) (.cons ⟨?_, ?_⟩ .nil)
          · rw [List.getElem?_set_ne (by omega), List.getElem?_set_ne (by omega)]; exact hd
          · intro q; simp only [List.mem_cons, List.not_mem_nil, or_false] at q; omega
      · cases h
    · cases h
  · cases h
def lpO (nodes : Int) (flat : Bool) : Option RH := match rng2 1 (nodes + 1) with
  | some zs => fO (lpCount flat) zs ([[0, 1]], [[0, 1]])
  | none => none
theorem B14_eq : B14 = [Mini.S.asg (Mini.Tg.one 2) (Mini.E.lst [Mini.E.lst [Mini.E.cst (Mini.D.int (Int.ofNat 0)), Mini.E.cst (Mini.D.int (Int.ofNat 1))]]),
        Mini.S.asg (Mini.Tg.one 3) (Mini.E.lst [Mini.E.lst [Mini.E.cst (Mini.D.int (Int.ofNat 0)), Mini.E.cst (Mini.D.int (Int.ofNat 1))]]),
        Mini.S.forS (Mini.Tg.one 4) Mini.IK.r2 [Mini.E.cst (Mini.D.int (Int.ofNat 1)), Mini.E.bin Mini.Bin.add (Mini.E.var 0) (Mini.E.cst (Mini.D.int (Int.ofNat 1)))] lpB0,
        Mini.S.ret (Mini.E.tup [Mini.E.var 2, Mini.E.var 3])] := rfl
theorem g_lawrows (hch : ChD w) {nodes : Int} {flat : Bool} {s : RH} (h : lpO nodes flat = some s) :
    ∃ M, S.go F14 w [.d (.int nodes), .d (.bl flat)] [] = .ok (.d (.tup [dR s.1, dR s.2])) M := by
  unfold lpO at h
  split at h
  · rename_i zs e1
    have loop := forR_fO (tg := .one 4) (body := S.exs w lpB0) (P := CtP nodes flat) (f := lpCount flat) (fun t k t1 δ M1 hs q => lp_count S hch hs q) zs ([[0, 1]], [[0, 1]]) s
      [.d (.int nodes), .d (.bl flat), .cell 1, .cell 3, .un, .un, .un, .un, .un, .un, .un, .un] [.lst (ai [0, 1]), .lst [.cell 0], .lst (ai [0, 1]), .lst [.cell 2]] h
      ⟨[0], [2], _, _, _, _, _, _, _, _, rfl, rfl, rfl, .cons ⟨rfl, by simp⟩ .nil, .cons ⟨rfl, by simp⟩ .nil⟩
    obtain ⟨δ', M', h1, cs, ch, a4, a5, a6, a7, a8, a9, a10, a11, rfl, m⟩ := loop
    obtain ⟨M1, f1, f2, f3⟩ := frz_outer (k := 6) m.h1 (by simp) m.hc.toF
    obtain ⟨M2, f4, f5, f6⟩ := frz_outer (k := 6) (n := 3) (M := M1) (by rw [f2 3 (by simp) (by simp)]; exact m.h3) (by simp) (f3 _ _ m.hd.toF)
    refine ⟨M2, ?_⟩
    have fz : frzL (frz 8) M' [.cell 1, .cell 3] = some ([dR s.1, dR s.2], M2) := by
      unfold frzL
      rw [f1]
      simp only
      unfold frzL
      rw [f4]
      rfl
    have e2 := items_r2 (M := [.lst (ai [0, 1]), .lst [.cell 0], .lst (ai [0, 1]), .lst [.cell 2]]) e1
    unfold Mi.go
    simp only [F14, B14_eq, S.exs_cons, S.exs_nil, S.exS_asg, S.exS_for, S.exS_ret, S.ev_lst, S.ev_cst, S.evs_cons, S.evs_nil, S.ev_tup, S.ev_bin]
    simp [S.ev_var, mkL, newL, set_one, sizeLine_eq, bin_add]
    simp at h1 e2
    simp [e2, h1, S.ev_var, fz]
  · cases h
end
theorem r_choose {n : Nat} {many chosen v : Int} {M : List O} (h : chO many chosen = some v) : prg.run (n + 1) 13 [.d (.int many), .d (.int chosen)] M = .ok (.d (.int v)) M := (run_eq n 13 F13 rfl _ _).trans (g_choose mi h)
theorem chD (n : Nat) : ChD ⟨prg.run (n + 1), prg.sub, prg.turns⟩ := fun m k v M h => pcall_sc (denL_d [.int m, .int k]) (r_choose h) rfl
theorem r_lawrows {n : Nat} {nodes : Int} {flat : Bool} {s : RH} (h : lpO nodes flat = some s) :
    ∃ M, prg.run (n + 1 + 1) 14 [.d (.int nodes), .d (.bl flat)] [] = .ok (.d (.tup [dR s.1, dR s.2])) M := by
  obtain ⟨M, h1⟩ := g_lawrows mi (chD n) h
  exact ⟨M, (run_eq (n + 1) 14 F14 rfl _ _).trans h1⟩
end K85

set_option Elab.async false
set_option linter.all false
set_option maxRecDepth 100000
set_option maxHeartbeats 4000000
/-! k85: the rows as they are, checked by the kernel. -/
namespace K85
open PySem PySem.Spec L2 Mini
def CN : List (List Int) := [[0, 1],
  [1, 0, 2],
  [0, 4, 0, 12],
  [5, 0, 32, 0, 120],
  [0, 50, 0, 384, 0, 1680],
  [60, 0, 700, 0, 6144, 0, 30240],
  [0, 960, 0, 12600, 0, 122880, 0, 665280],
  [1105, 0, 19200, 0, 277200, 0, 2949120, 0, 17297280],
  [0, 24310, 0, 460800, 0, 7207200, 0, 82575360, 0, 518918400],
  [27120, 0, 632060, 0, 12902400, 0, 216216000, 0, 2642411520, 0, 17643225600],
  [0, 759360, 0, 18961800, 0, 412876800, 0, 7351344000, 0, 95126814720, 0, 670442572800],
  [828250, 0, 24299520, 0, 644701200, 0, 14863564800, 0, 279351072000, 0, 3805072588800, 0, 28158588057600],
  [0, 28160500, 0, 874782720, 0, 24498645600, 0, 594542592000, 0, 11732745024000, 0, 167423193907200, 0, 1295295050649600],
  [30220800, 0, 1070099000, 0, 34991308800, 0, 1028943115200, 0, 26159874048000, 0, 539706271104000, 0, 8036313307545600, 0, 64764752532480000],
  [0, 1208832000, 0, 44944158000, 0, 1539617587200, 0, 47331383299200, 0, 1255673954304000, 0, 26985313555200000, 0, 417888291992371200, 0, 3497296636753920000],
  [1282031525, 0, 53188608000, 0, 2067431268000, 0, 73901644185600, 0, 2366569164960000, 0, 65295045623808000, 0, 1457206931980800000, 0, 23401744351572787200, 0, 202843204931727360000],
  [0, 58973450150, 0, 2553053184000, 0, 103371563400000, 0, 3842885497651200, 0, 127794734907840000, 0, 3656522554933248000, 0, 84518002054886400000, 0, 1404104661094367232000, 0, 12576278705767096320000],
  [61999046400, 0, 2948672507500, 0, 132758765568000, 0, 5582064423600000, 0, 215201587868467200, 0, 7412094624654720000, 0, 219391353295994880000, 0, 5240116127402956800000, 0, 89862698310039502848000, 0, 830034394580628357120000],
  [0, 3223950412800, 0, 159228315405000, 0, 7434490871808000, 0, 323759736568800000, 0, 12912095272108032000, 0, 459549866728592640000, 0, 14041046610943672320000, 0, 345847664408595148800000, 0, 6110663485082686193664000, 0, 58102407620643984998400000],
  [3366961243750, 0, 180541223116800, 0, 9235242293490000, 0, 446069452308480000, 0, 20073103667265600000, 0, 826374097414914048000, 0, 30330291204087114240000, 0, 954791169544169717760000, 0, 24209336508601660416000000, 0, 439967770925953405943808000, 0, 4299578163927654889881600000],
  [0, 195283752137500, 0, 10832473387008000, 0, 572585022196380000, 0, 28548444947742720000, 0, 1324824842039529600000, 0, 56193438624214155264000, 0, 2123120384286097996800000, 0, 68744964207180219678720000, 0, 1791490901636522870784000000, 0, 33437550590372458851729408000, 0, 335367096786357081410764800000]]
def PN : List (List Int) := [[0, 1],
  [1, 0, 2],
  [0, 3, 0, 12],
  [3, 0, 22, 0, 120],
  [0, 26, 0, 252, 0, 1680],
  [26, 0, 334, 0, 3912, 0, 30240],
  [0, 367, 0, 5664, 0, 76560, 0, 665280],
  [367, 0, 6704, 0, 119160, 0, 1807200, 0, 17297280],
  [0, 7142, 0, 150036, 0, 2990880, 0, 49936320, 0, 518918400],
  [7142, 0, 168616, 0, 3971376, 0, 87181920, 0, 1580664960, 0, 17643225600],
  [0, 176766, 0, 4675476, 0, 121297680, 0, 2893605120, 0, 56385020160, 0, 670442572800],
  [176766, 0, 5108658, 0, 148810920, 0, 4197513600, 0, 107715726720, 0, 2237757580800, 0, 28158588057600],
  [0, 5304356, 0, 168723516, 0, 5344214400, 0, 162269835840, 0, 4443893798400, 0, 97790890982400, 0, 1295295050649600],
  [5304356, 0, 181201198, 0, 6265622304, 0, 213696319680, 0, 6929798641920, 0, 201230088998400, 0, 4665804179097600, 0, 64764752532480000],
  [0, 186954535, 0, 6938736528, 0, 258333094080, 0, 9413632912320, 0, 323946842123520, 0, 9921857760460800, 0, 241326522262425600, 0, 3497296636753920000],
  [186954535, 0, 7366169968, 0, 294265131744, 0, 11706163670880, 0, 452884255528320, 0, 16451362322841600, 0, 529105436558899200, 0, 13449520494163353600, 0, 202843204931727360000],
  [0, 7566084686, 0, 320707111440, 0, 13686935677440, 0, 578161098527040, 0, 23623163882841600, 0, 901826902885708800, 0, 30342316725155635200, 0, 803473933013047296000, 0, 12576278705767096320000],
  [7566084686, 0, 337655878732, 0, 15284932129536, 0, 692628029172000, 0, 30907031212673280, 0, 1327833783256780800, 0, 53071044843021004800, 0, 1861923680377592832000, 0, 51219488507903299584000, 0, 830034394580628357120000],
  [0, 345664350778, 0, 16466953529880, 0, 791306020517040, 0, 37879265601354240, 0, 1777754790503677440, 0, 80005018747593139200, 0, 3336916827584051712000, 0, 121732462806634487808000, 0, 3470348939831657275392000, 0, 58102407620643984998400000],
  [345664350778, 0, 17229658306508, 0, 871033050343008, 0, 44210712447676800, 0, 2226014881723342080, 0, 109467451280751782400, 0, 5143691525743330560000, 0, 223247207695621165056000, 0, 8447587233379000971264000, 0, 249035089273298695471104000, 0, 4299578163927654889881600000],
  [0, 17592776858796, 0, 930214888525704, 0, 49659257396850480, 0, 2650977799611603840, 0, 139875440054569712640, 0, 7184197810654594329600, 0, 351462897183614920704000, 0, 15834064005309967312896000, 0, 620123440458943743049728000, 0, 18868564377150056870805504000, 0, 335367096786357081410764800000]]
def HN : List (List Int) := [[0, 1],
  [0, 0, 2],
  [0, 1, 0, 12],
  [0, 0, 10, 0, 120],
  [0, 4, 0, 132, 0, 1680],
  [0, 0, 82, 0, 2232, 0, 30240],
  [0, 33, 0, 1752, 0, 46320, 0, 665280],
  [0, 0, 1040, 0, 42600, 0, 1141920, 0, 17297280],
  [0, 438, 0, 30876, 0, 1183680, 0, 32639040, 0, 518918400],
  [0, 0, 18580, 0, 980496, 0, 37245600, 0, 1061746560, 0, 17643225600],
  [0, 8150, 0, 704100, 0, 34115760, 0, 1312940160, 0, 38741794560, 0, 670442572800],
  [0, 0, 433182, 0, 27513240, 0, 1303908480, 0, 51330706560, 0, 1567315008000, 0, 28158588057600],
  [0, 195698, 0, 19912596, 0, 1146700800, 0, 54554109120, 0, 2206136217600, 0, 69632302924800, 0, 1295295050649600],
  [0, 0, 12477682, 0, 921407904, 0, 51426483840, 0, 2485904843520, 0, 103439198016000, 0, 3370509128448000, 0, 64764752532480000],
  [0, 5753337, 0, 673114224, 0, 44636774400, 0, 2483834270400, 0, 122716753125120, 0, 5256053581363200, 0, 176561769729945600, 0, 3497296636753920000],
  [0, 0, 427433440, 0, 35932037664, 0, 2292530758560, 0, 128937413404800, 0, 6529504562380800, 0, 287778914296473600, 0, 9952223857409433600, 0, 202843204931727360000],
  [0, 199914718, 0, 26441979696, 0, 1980772006560, 0, 125276842998720, 0, 7171801560000000, 0, 372721466326809600, 0, 16892796230992281600, 0, 600630728081319936000, 0, 12576278705767096320000],
  [0, 0, 16948767292, 0, 1597996452096, 0, 114466930644960, 0, 7283867329831680, 0, 426006880371072000, 0, 22728728117865369600, 0, 1058449747364545536000, 0, 38643209802136203264000, 0, 830034394580628357120000],
  [0, 8008472046, 0, 1182021400344, 0, 98677991345040, 0, 6972234388680960, 0, 449921007246896640, 0, 26933973904572134400, 0, 1474993147206458880000, 0, 70512974298731188224000, 0, 2640314545251028918272000, 0, 58102407620643984998400000],
  [0, 0, 762704776628, 0, 79727029825968, 0, 6331446846322560, 0, 448260091219664640, 0, 29462432533158643200, 0, 1806774698159278848000, 0, 101514744888986677248000, 0, 4977238293547343695872000, 0, 190932681652654710472704000, 0, 4299578163927654889881600000],
  [0, 363118552288, 0, 59181838182696, 0, 5448544949173680, 0, 424962917888261760, 0, 30407988773817930240, 0, 2040506284911263769600, 0, 128215689487993755648000, 0, 7386476771930966341632000, 0, 371088351185645047578624000, 0, 14568986213222401980923904000, 0, 335367096786357081410764800000]]
def CF : List (List Int) := [[0, 1],
  [1, 0, 1],
  [0, 3, 0, 2],
  [4, 0, 10, 0, 5],
  [0, 24, 0, 35, 0, 14],
  [32, 0, 120, 0, 126, 0, 42],
  [0, 256, 0, 560, 0, 462, 0, 132],
  [336, 0, 1600, 0, 2520, 0, 1716, 0, 429],
  [0, 3168, 0, 8960, 0, 11088, 0, 6435, 0, 1430],
  [4096, 0, 22880, 0, 47040, 0, 48048, 0, 24310, 0, 4862],
  [0, 43008, 0, 145600, 0, 236544, 0, 205920, 0, 92378, 0, 16796],
  [54912, 0, 344064, 0, 856800, 0, 1153152, 0, 875160, 0, 352716, 0, 58786],
  [0, 622336, 0, 2408448, 0, 4775232, 0, 5491200, 0, 3695120, 0, 1352078, 0, 208012],
  [786432, 0, 5374720, 0, 15482880, 0, 25561536, 0, 25671360, 0, 15519504, 0, 5200300, 0, 742900],
  [0, 9437184, 0, 40517120, 0, 93671424, 0, 132612480, 0, 118243840, 0, 64899744, 0, 20058300, 0, 2674440],
  [11824384, 0, 86507520, 0, 279568128, 0, 541212672, 0, 670956000, 0, 538009472, 0, 270415600, 0, 77558760, 0, 9694845],
  [0, 148342272, 0, 692060160, 0, 1808970240, 0, 3015327744, 0, 3325608000, 0, 2422923776, 0, 1123264800, 0, 300540195, 0, 35357670],
  [184549376, 0, 1426368000, 0, 5060689920, 0, 11139448320, 0, 16310181888, 0, 16202362176, 0, 10816624000, 0, 4653525600, 0, 1166803110, 0, 129644790],
  [0, 2399141888, 0, 11981491200, 0, 34637611008, 0, 65927347200, 0, 86081515520, 0, 77793159808, 0, 47925964800, 0, 19234572480, 0, 4537567650, 0, 477638700],
  [2966845440, 0, 23991418880, 0, 91975564800, 0, 225144471552, 0, 377649043200, 0, 444975218688, 0, 368846878400, 0, 210959827200, 0, 79342611480, 0, 17672631900, 0, 1767263190],
  [0, 39710085120, 0, 209924915200, 0, 660287738880, 0, 1403498004480, 0, 2104764000768, 0, 2259549487104, 0, 1729827792000, 0, 923259479040, 0, 326704870800, 0, 68923264410, 0, 6564120420]]
def PF : List (List Int) := [[0, 1],
  [1, 0, 1],
  [0, 2, 0, 2],
  [2, 0, 6, 0, 5],
  [0, 9, 0, 20, 0, 14],
  [9, 0, 40, 0, 70, 0, 42],
  [0, 54, 0, 175, 0, 252, 0, 132],
  [54, 0, 295, 0, 756, 0, 924, 0, 429],
  [0, 378, 0, 1526, 0, 3234, 0, 3432, 0, 1430],
  [378, 0, 2346, 0, 7602, 0, 13728, 0, 12870, 0, 4862],
  [0, 2916, 0, 13587, 0, 36828, 0, 57915, 0, 48620, 0, 16796],
  [2916, 0, 19739, 0, 74964, 0, 174603, 0, 243100, 0, 184756, 0, 58786],
  [0, 24057, 0, 123978, 0, 398673, 0, 813670, 0, 1016158, 0, 705432, 0, 208012],
  [24057, 0, 173426, 0, 738369, 0, 2059486, 0, 3738878, 0, 4232592, 0, 2704156, 0, 742900],
  [0, 208494, 0, 1157739, 0, 4220722, 0, 10390523, 0, 16980756, 0, 17577014, 0, 10400600, 0, 2674440],
  [208494, 0, 1576539, 0, 7315618, 0, 23342891, 0, 51403716, 0, 76363014, 0, 72804200, 0, 40116600, 0, 9694845],
  [0, 1876446, 0, 11036038, 0, 44285351, 0, 125619858, 0, 250126032, 0, 340515644, 0, 300874500, 0, 155117520, 0, 35357670],
  [1876446, 0, 14730778, 0, 73100231, 0, 258856962, 0, 660634416, 0, 1199966964, 0, 1507344100, 0, 1240940160, 0, 601080390, 0, 129644790],
  [0, 17399772, 0, 107109656, 0, 463587642, 0, 1469300274, 0, 3406507872, 0, 5686617198, 0, 6629936760, 0, 5109183315, 0, 2333606220, 0, 477638700],
  [17399772, 0, 140784256, 0, 737211762, 0, 2836403154, 0, 8133538752, 0, 17268399774, 0, 26661492360, 0, 28997281395, 0, 21002455980, 0, 9075135300, 0, 1767263190],
  [0, 165297834, 0, 1055972512, 0, 4858524024, 0, 16834868532, 0, 44058943554, 0, 86242161508, 0, 123826237695, 0, 126191524230, 0, 86213785350, 0, 35345263800, 0, 6564120420]]
def HF : List (List Int) := [[0, 1],
  [0, 0, 1],
  [0, 1, 0, 2],
  [0, 0, 4, 0, 5],
  [0, 3, 0, 15, 0, 14],
  [0, 0, 20, 0, 56, 0, 42],
  [0, 14, 0, 105, 0, 210, 0, 132],
  [0, 0, 120, 0, 504, 0, 792, 0, 429],
  [0, 83, 0, 770, 0, 2310, 0, 3003, 0, 1430],
  [0, 0, 820, 0, 4368, 0, 10296, 0, 11440, 0, 4862],
  [0, 570, 0, 5985, 0, 23100, 0, 45045, 0, 43758, 0, 16796],
  [0, 0, 6152, 0, 38136, 0, 116688, 0, 194480, 0, 167960, 0, 58786],
  [0, 4318, 0, 49014, 0, 224070, 0, 570570, 0, 831402, 0, 646646, 0, 208012],
  [0, 0, 49448, 0, 339696, 0, 1245816, 0, 2722720, 0, 3527160, 0, 2496144, 0, 742900],
  [0, 35068, 0, 419370, 0, 2161236, 0, 6651645, 0, 12748164, 0, 14872858, 0, 9657700, 0, 2674440],
  [0, 0, 418800, 0, 3094896, 0, 12952368, 0, 34422960, 0, 58786000, 0, 62403600, 0, 37442160, 0, 9694845],
  [0, 299907, 0, 3720420, 0, 20942460, 0, 74216142, 0, 173763018, 0, 267711444, 0, 260757900, 0, 145422675, 0, 35357670],
  [0, 0, 3694740, 0, 28814880, 0, 133237104, 0, 410508384, 0, 859451320, 0, 1206469600, 0, 1085822640, 0, 565722720, 0, 129644790],
  [0, 2668994, 0, 34009425, 0, 204730680, 0, 808665858, 0, 2206540908, 0, 4179273098, 0, 5388996600, 0, 4508102925, 0, 2203961430, 0, 477638700],
  [0, 0, 33674600, 0, 273624120, 0, 1367102880, 0, 4727030880, 0, 11581782576, 0, 20031555600, 0, 23888098080, 0, 18668849760, 0, 8597496600, 0, 1767263190],
  [0, 24513578, 0, 318760750, 0, 2022120870, 0, 8701329780, 0, 26790543780, 0, 59580669148, 0, 94828956300, 0, 105189068250, 0, 77138650050, 0, 33578000610, 0, 6564120420]]
def crNext (flat : Bool) (rows : List (List Int)) : Option (List (List Int)) := match rng1 ((rows.length : Nat) + 2) with
  | some xs => (match mpO (fun k => ncO rows k flat) xs with
    | some r => if xs.length ≤ sizeLine ∧ rows.length < sizeLine then some (rows ++ [r]) else none
    | none => none)
  | none => none
theorem cr_N : ((List.range 20).all fun k => decide (crNext false (CN.take (k + 1)) = some (CN.take (k + 2)))) = true := by decide +kernel
theorem pr_N : ((List.range 20).all fun k => decide (prNext false (PN.take (k + 1), HN.take (k + 1)) = some (PN.take (k + 2), HN.take (k + 2)))) = true := by decide +kernel
theorem lp_N : ((List.range 20).all fun k => decide (lpCount false (PN.take (k + 1), HN.take (k + 1)) (1 + (k : Int)) = some (PN.take (k + 2), HN.take (k + 2)))) = true := by decide +kernel
theorem cr_F : ((List.range 20).all fun k => decide (crNext true (CF.take (k + 1)) = some (CF.take (k + 2)))) = true := by decide +kernel
theorem pr_F : ((List.range 20).all fun k => decide (prNext true (PF.take (k + 1), HF.take (k + 1)) = some (PF.take (k + 2), HF.take (k + 2)))) = true := by decide +kernel
theorem lp_F : ((List.range 20).all fun k => decide (lpCount true (PF.take (k + 1), HF.take (k + 1)) (1 + (k : Int)) = some (PF.take (k + 2), HF.take (k + 2)))) = true := by decide +kernel
end K85

set_option Elab.async false
set_option linter.all false
set_option maxRecDepth 100000
set_option maxHeartbeats 4000000
/-! k85: the counts. -/
namespace K85
open PySem PySem.Spec L2 Mini
theorem whO_seq {σ : Type} {f : σ → Option (Option σ)} (s : Nat → σ) (n : Nat) (hs : ∀ k, k < n → f (s k) = some (some (s (k + 1)))) (he : f (s n) = some none) : ∀ (d k fuel : Nat), k + d = n → d < fuel → whO f fuel (s k) = some (s n)
  | _, _, 0, _, h => absurd h (Nat.not_lt_zero _)
  | 0, k, fuel + 1, e, _ => by
    have e : k = n := e
    subst e
    unfold whO
    rw [he]
  | d + 1, k, fuel + 1, e, h => by
    unfold whO
    rw [hs k (by omega)]
    exact whO_seq s n hs he d (k + 1) fuel (by omega) (by omega)
theorem fO_seq {σ : Type} {f : σ → Int → Option σ} (s : Nat → σ) (n : Nat) (hs : ∀ k, k < n → f (s k) (1 + (k : Int)) = some (s (k + 1))) : ∀ (d k : Nat), k + d = n → fO f ((List.range' k d).map fun (j : Nat) => 1 + (j : Int)) (s k) = some (s n)
  | 0, k, e => by
    have e : k = n := e
    subst e
    rfl
  | d + 1, k, e => by
    rw [List.range'_succ, List.map_cons]
    unfold fO
    rw [hs k (by omega)]
    exact fO_seq s n hs d (k + 1) (by omega)
def CL (flat : Bool) : List (List Int) := if flat then CF else CN
def PL (flat : Bool) : List (List Int) := if flat then PF else PN
def HL (flat : Bool) : List (List Int) := if flat then HF else HN
theorem all_range {n : Nat} {p : Nat → Bool} (h : (List.range n).all p = true) {k : Nat} (hk : k < n) : p k = true := List.all_eq_true.mp h k (List.mem_range.mpr hk)
theorem cr_at (flat : Bool) {k : Nat} (hk : k < 20) : crNext flat ((CL flat).take (k + 1)) = some ((CL flat).take (k + 2)) := by
  cases flat
  · exact of_decide_eq_true (all_range cr_N hk)
  · exact of_decide_eq_true (all_range cr_F hk)
theorem pr_at (flat : Bool) {k : Nat} (hk : k < 20) : prNext flat ((PL flat).take (k + 1), (HL flat).take (k + 1)) = some ((PL flat).take (k + 2), (HL flat).take (k + 2)) := by
  cases flat
  · exact of_decide_eq_true (all_range pr_N hk)
  · exact of_decide_eq_true (all_range pr_F hk)
theorem lp_at (flat : Bool) {k : Nat} (hk : k < 20) : lpCount flat ((PL flat).take (k + 1), (HL flat).take (k + 1)) (1 + (k : Int)) = some ((PL flat).take (k + 2), (HL flat).take (k + 2)) := by
  cases flat
  · exact of_decide_eq_true (all_range lp_N hk)
  · exact of_decide_eq_true (all_range lp_F hk)
theorem CL_len (flat : Bool) : (CL flat).length = 21 := by cases flat <;> decide
theorem PL_len (flat : Bool) : (PL flat).length = 21 := by cases flat <;> decide
theorem HL_len (flat : Bool) : (HL flat).length = 21 := by cases flat <;> decide
theorem CL_0 (flat : Bool) : (CL flat).take 1 = [[0, 1]] := by cases flat <;> decide
theorem PL_0 (flat : Bool) : (PL flat).take 1 = [[0, 1]] := by cases flat <;> decide
theorem HL_0 (flat : Bool) : (HL flat).take 1 = [[0, 1]] := by cases flat <;> decide
theorem crStep_eq (n : Nat) (flat : Bool) (rows : List (List Int)) : crStep (n : Int) flat rows = if rows.length ≤ n then (match crNext flat rows with
  | some r => some (some r)
  | none => none) else some none := by
  unfold crStep crNext
  by_cases h : rows.length ≤ n
  · rw [if_pos (by omega), if_pos h]
    cases rng1 ((rows.length : Nat) + 2) with
    | none => rfl
    | some xs =>
      simp only
      cases mpO (fun k => ncO rows k flat) xs with
      | none => rfl
      | some r =>
        simp only
        split <;> rfl
  · rw [if_neg (by omega), if_neg h]
theorem c_who (flat : Bool) {n : Nat} (hn : n ≤ 20) : whO (crStep (n : Int) flat) 200 [[0, 1]] = some ((CL flat).take (n + 1)) := by
  have := whO_seq (f := crStep (n : Int) flat) (fun k => (CL flat).take (k + 1)) n (fun k hk => by
    rw [crStep_eq, if_pos (by rw [List.length_take, CL_len]; omega), cr_at flat (by omega)]) (by
    rw [crStep_eq, if_neg (by rw [List.length_take, CL_len]; omega)]) n 0 200 (by omega) (by omega)
  simp only [Nat.zero_add] at this
  rwa [CL_0] at this
theorem p_who (flat : Bool) {n : Nat} (hn : n ≤ 20) : whO (prStep (n : Int) flat) 200 ([[0, 1]], [[0, 1]]) = some ((PL flat).take (n + 1), (HL flat).take (n + 1)) := by
  have := whO_seq (f := prStep (n : Int) flat) (fun k => ((PL flat).take (k + 1), (HL flat).take (k + 1))) n (fun k hk => by
    unfold prStep
    rw [if_pos (by rw [List.length_take, PL_len]; omega), pr_at flat (by omega)]) (by
    unfold prStep
    rw [if_neg (by rw [List.length_take, PL_len]; omega)]) n 0 200 (by omega) (by omega)
  simp only [Nat.zero_add] at this
  rwa [PL_0, HL_0] at this
theorem l_fo (flat : Bool) {n : Nat} (hn : n ≤ 20) : lpO (n : Int) flat = some ((PL flat).take (n + 1), (HL flat).take (n + 1)) := by
  have := fO_seq (f := lpCount flat) (fun k => ((PL flat).take (k + 1), (HL flat).take (k + 1))) n (fun k hk => lp_at flat (by omega)) n 0 (by omega)
  simp only [Nat.zero_add] at this
  rw [PL_0, HL_0] at this
  unfold lpO rng2
  have i1 : inR 1 = true := by decide
  have i2 : inR ((n : Int) + 1) = true := by
    unfold inR
    apply Nat.ble_eq_true_of_le
    omega
  rw [i1, i2]
  have e : ((n : Int) + 1 - 1).toNat = n := by omega
  rw [e]
  simp only [Bool.and_self, if_true]
  rw [List.range_eq_range']
  exact this
/-! calls of the three -/
theorem c_call (m : Nat) (flat : Bool) {n : Nat} (hn : n ≤ 20) (M : List O) : pcall (prg.run (m + 1 + 1 + 1) 3) [.d (.int n), .d (.bl flat)] M = .ok (.cell M.length) (M ++ [.lst (((CL flat).take (n + 1)).map fun r => A.d (il r))]) := by
  obtain ⟨M2, cs, h1, h2, h3⟩ := r_counted (n := m) (c_who flat hn)
  exact pcall_rows (ds := [.int n, .bl flat]) h1 h2 h3
theorem p_call (m : Nat) (flat : Bool) {n : Nat} (hn : n ≤ 20) (M : List O) : pcall (prg.run (m + 1 + 1 + 1) 7) [.d (.int n), .d (.bl flat)] M = .ok (.d (.tup [dR ((PL flat).take (n + 1)), dR ((HL flat).take (n + 1))])) M := by
  obtain ⟨M2, h1⟩ := r_plain (n := m) (p_who flat hn)
  exact pcall_dat (ds := [.int n, .bl flat]) h1 (fun M => frzL_d _)
theorem l_call (m : Nat) (flat : Bool) {n : Nat} (hn : n ≤ 20) (M : List O) : pcall (prg.run (m + 1 + 1) 14) [.d (.int n), .d (.bl flat)] M = .ok (.d (.tup [dR ((PL flat).take (n + 1)), dR ((HL flat).take (n + 1))])) M := by
  obtain ⟨M2, h1⟩ := r_lawrows (n := m) (l_fo flat hn)
  exact pcall_dat (ds := [.int n, .bl flat]) h1 (fun M => frzL_d _)
/-! the range -/
def inN (a b : Int) : Bool := decide (0 ≤ a) && decide (a ≤ 20) && (decide (0 ≤ b) && decide (b ≤ 21))
section
variable (S : Mi) {w : W}
theorem g_check_ok {a b : Int} {M : List O} (h : inN a b = true) : S.go F0 w [.d (.int a), .d (.int b)] M = .ok (.d .non) M := by
  simp only [inN, Bool.and_eq_true, decide_eq_true_eq] at h
  obtain ⟨⟨h1, h2⟩, h3, h4⟩ := h
  unfold Mi.go
  simp [F0, B0, S.exs_cons, S.exs_nil, S.exS_if, S.evT_orr, S.evT_nt, S.evT_chn, S.ev_chn, S.ev_cst, S.ev_var, cmpR_le, cmp_le, tru_bl, h1, h2, h3, h4]
theorem g_check_no {a b : Int} {M : List O} (h : inN a b = false) : S.go F0 w [.d (.int a), .d (.int b)] M = .ex ⟨0, []⟩ M := by
  unfold Mi.go
  by_cases h1 : 0 ≤ a
  · by_cases h2 : a ≤ 20
    · by_cases h3 : 0 ≤ b
      · by_cases h4 : b ≤ 21
        · simp [inN, h1, h2, h3, h4] at h
        · simp [F0, B0, S.exs_cons, S.exs_nil, S.exS_if, S.exS_raise, S.evT_orr, S.evT_nt, S.evT_chn, S.ev_chn, S.ev_cst, S.ev_var, cmpR_le, cmp_le, tru_bl, h1, h2, h3, h4]
      · simp [F0, B0, S.exs_cons, S.exs_nil, S.exS_if, S.exS_raise, S.evT_orr, S.evT_nt, S.evT_chn, S.ev_chn, S.ev_cst, S.ev_var, cmpR_le, cmp_le, tru_bl, h1, h2, h3]
    · simp [F0, B0, S.exs_cons, S.exs_nil, S.exS_if, S.exS_raise, S.evT_orr, S.evT_nt, S.evT_chn, S.ev_chn, S.ev_cst, S.ev_var, cmpR_le, cmp_le, tru_bl, h1, h2]
  · simp [F0, B0, S.exs_cons, S.exs_nil, S.exS_if, S.exS_raise, S.evT_orr, S.evT_nt, S.evT_chn, S.ev_chn, S.ev_cst, S.ev_var, cmpR_le, cmp_le, tru_bl, h1]
end
theorem c_check_ok (m : Nat) {a b : Int} (h : inN a b = true) (M : List O) : pcall (prg.run (m + 1) 0) [.d (.int a), .d (.int b)] M = .ok (.d .non) M :=
  pcall_sc (denL_d [.int a, .int b]) ((run_eq m 0 F0 rfl _ _).trans (g_check_ok mi h)) rfl
theorem c_check_no (m : Nat) {a b : Int} (h : inN a b = false) (M : List O) : pcall (prg.run (m + 1) 0) [.d (.int a), .d (.int b)] M = .ex ⟨0, []⟩ M :=
  pcall_ex (denL_d [.int a, .int b]) ((run_eq m 0 F0 rfl _ _).trans (g_check_no mi h))
/-- an entry of the rows -/
def en (rows : List (List Int)) (n m : Nat) : Int := (rows.getD n []).getD m 0
theorem entO_nat (row : List Int) (m : Nat) : entO row (m : Int) = some (row.getD m 0) := by
  unfold entO
  by_cases h : m < row.length
  · rw [if_pos (by omega), Mini.atI_nat]
    rw [List.getElem?_eq_getElem h, List.getD_eq_getElem?_getD, List.getElem?_eq_getElem h]; rfl
  · rw [if_neg (by omega), List.getD_eq_getElem?_getD, List.getElem?_eq_none (by omega)]; rfl
theorem at_take {rows : List (List Int)} (hl : rows.length = 21) {n : Nat} (hn : n ≤ 20) : atI (rows.take (n + 1)) (n : Int) = some (rows.getD n []) := by
  rw [Mini.atI_nat, List.getElem?_take, if_pos (by omega), List.getElem?_eq_getElem (by omega), List.getD_eq_getElem?_getD, List.getElem?_eq_getElem (by omega)]; rfl
theorem inN_ok {n m : Nat} (hn : n ≤ 20) (hm : m ≤ 21) : inN (n : Int) (m : Int) = true := by
  simp [inN]; omega
section
variable (S : Mi) (k : Nat)
theorem g_terms {n m : Nat} (hn : n ≤ 20) (hm : m ≤ 21) : ∃ M, S.go F4 ⟨prg.run (k + 1 + 1 + 1), prg.sub, prg.turns⟩ [.d (.int n), .d (.int m)] [] = .ok (.d (.int (en CN n m))) M := by
  refine ⟨[] ++ [O.lst (((CL false).take (n + 1)).map fun r => A.d (il r))], ?_⟩
  have e1 := c_call k false hn []
  have e2 : ixA ([] ++ [O.lst (((CL false).take (n + 1)).map fun r => A.d (il r))]) (.cell 0) (.d (.int n)) = .ok (.d (il (CN.getD n []))) ([] ++ [O.lst (((CL false).take (n + 1)).map fun r => A.d (il r))]) := by
    refine ix_cells (n := 0) rfl ?_
    rw [atI_map, at_take (CL_len false) hn]
    rfl
  have e3 := entD (k + 1 + 1) _ _ _ [.d (il (CN.getD n [])), .d (.int m)] ([] ++ [O.lst (((CL false).take (n + 1)).map fun r => A.d (il r))]) (denL_d [_, _]) (entO_nat (CN.getD n []) m)
  unfold Mi.go
  simp only [F4, B4, S.exs_cons, S.exs_nil, S.exS_ex, S.exS_ret, S.ev_call, S.evs_cons, S.evs_nil, S.ev_ix, List.length_cons, List.length_nil]
  simp only [S.ev_var, List.cons_append, List.nil_append, List.getElem?_cons_zero, List.getElem?_cons_succ, Nat.sub_self, List.replicate_zero, List.append_nil, R.bind_ok, fill_nil, c_check_ok _ (inN_ok hn hm), R.toS_ok, RS.andThen_nx]
  rw [show fill A.d [Pl.arg 0, Pl.cst (D.bl false)] [A.d (D.int (n : Int))] = [.d (.int n), .d (.bl false)] from rfl, e1]
  simp only [R.bind_ok, List.length_nil]
  rw [e2]
  simp only [R.bind_ok]
  rw [e3]
  rfl
theorem g_flat {n m : Nat} (hn : n ≤ 20) (hm : m ≤ 21) : ∃ M, S.go F5 ⟨prg.run (k + 1 + 1 + 1), prg.sub, prg.turns⟩ [.d (.int n), .d (.int m)] [] = .ok (.d (.int (en CF n m))) M := by
  refine ⟨[] ++ [O.lst (((CL true).take (n + 1)).map fun r => A.d (il r))], ?_⟩
  have e1 := c_call k true hn []
  have e2 : ixA ([] ++ [O.lst (((CL true).take (n + 1)).map fun r => A.d (il r))]) (.cell 0) (.d (.int n)) = .ok (.d (il (CF.getD n []))) ([] ++ [O.lst (((CL true).take (n + 1)).map fun r => A.d (il r))]) := by
    refine ix_cells (n := 0) rfl ?_
    rw [atI_map, at_take (CL_len true) hn]
    rfl
  have e3 := entD (k + 1 + 1) _ _ _ [.d (il (CF.getD n [])), .d (.int m)] ([] ++ [O.lst (((CL true).take (n + 1)).map fun r => A.d (il r))]) (denL_d [_, _]) (entO_nat (CF.getD n []) m)
  unfold Mi.go
  simp only [F5, B5, S.exs_cons, S.exs_nil, S.exS_ex, S.exS_ret, S.ev_call, S.evs_cons, S.evs_nil, S.ev_ix, S.ev_cst, List.length_cons, List.length_nil]
  simp only [S.ev_var, List.cons_append, List.nil_append, List.getElem?_cons_zero, List.getElem?_cons_succ, Nat.sub_self, List.replicate_zero, List.append_nil, R.bind_ok, fill_nil, c_check_ok _ (inN_ok hn hm), R.toS_ok, RS.andThen_nx]
  rw [e1]
  simp only [R.bind_ok, List.length_nil]
  rw [e2]
  simp only [R.bind_ok]
  rw [e3]
  rfl
theorem ix_tup0 {M : List O} {x : D} {r : List D} : ixA M (.d (.tup (x :: r))) (.d (.int (Int.ofNat 0))) = .ok (.d x) M := ix_tup (i := 0)
theorem g_plainc {n m : Nat} (hn : n ≤ 20) (hm : m ≤ 21) : ∃ M, S.go F8 ⟨prg.run (k + 1 + 1 + 1), prg.sub, prg.turns⟩ [.d (.int n), .d (.int m)] [] = .ok (.d (.int (en PN n m))) M := by
  refine ⟨[], ?_⟩
  have e1 := p_call k false hn []
  have e2 : ixA [] (.d (dR ((PL false).take (n + 1)))) (.d (.int n)) = .ok (.d (il (PN.getD n []))) [] := ix_dR (at_take (PL_len false) hn)
  have e3 := entD (k + 1 + 1) _ _ _ [.d (il (PN.getD n [])), .d (.int m)] [] (denL_d [_, _]) (entO_nat (PN.getD n []) m)
  unfold Mi.go
  simp only [F8, B8, S.exs_cons, S.exs_nil, S.exS_ex, S.exS_ret, S.ev_call, S.evs_cons, S.evs_nil, S.ev_ix, S.ev_cst, List.length_cons, List.length_nil]
  simp only [S.ev_var, List.cons_append, List.nil_append, List.getElem?_cons_zero, List.getElem?_cons_succ, Nat.sub_self, List.replicate_zero, List.append_nil, R.bind_ok, fill_nil, c_check_ok _ (inN_ok hn hm), R.toS_ok, RS.andThen_nx]
  rw [show fill A.d [Pl.arg 0, Pl.cst (D.bl false)] [A.d (D.int (n : Int))] = [.d (.int n), .d (.bl false)] from rfl, e1]
  simp only [R.bind_ok, ix_tup0]
  rw [e2]
  simp only [R.bind_ok]
  rw [e3]
  rfl
theorem g_plainf {n m : Nat} (hn : n ≤ 20) (hm : m ≤ 21) : ∃ M, S.go F9 ⟨prg.run (k + 1 + 1 + 1), prg.sub, prg.turns⟩ [.d (.int n), .d (.int m)] [] = .ok (.d (.int (en PF n m))) M := by
  refine ⟨[], ?_⟩
  have e1 := p_call k true hn []
  have e2 : ixA [] (.d (dR ((PL true).take (n + 1)))) (.d (.int n)) = .ok (.d (il (PF.getD n []))) [] := ix_dR (at_take (PL_len true) hn)
  have e3 := entD (k + 1 + 1) _ _ _ [.d (il (PF.getD n [])), .d (.int m)] [] (denL_d [_, _]) (entO_nat (PF.getD n []) m)
  unfold Mi.go
  simp only [F9, B9, S.exs_cons, S.exs_nil, S.exS_ex, S.exS_ret, S.ev_call, S.evs_cons, S.evs_nil, S.ev_ix, S.ev_cst, List.length_cons, List.length_nil]
  simp only [S.ev_var, List.cons_append, List.nil_append, List.getElem?_cons_zero, List.getElem?_cons_succ, Nat.sub_self, List.replicate_zero, List.append_nil, R.bind_ok, fill_nil, c_check_ok _ (inN_ok hn hm), R.toS_ok, RS.andThen_nx]
  rw [e1]
  simp only [R.bind_ok, ix_tup0]
  rw [e2]
  simp only [R.bind_ok]
  rw [e3]
  rfl
theorem g_plain_no (i : Nat) (hi : i = 8 ∨ i = 9 ∨ i = 10) {a b : Int} (h : inN a b = false) : ∃ fn M, prg.fns[i]? = some fn ∧ S.go fn ⟨prg.run (k + 1), prg.sub, prg.turns⟩ [.d (.int a), .d (.int b)] [] = .ex ⟨0, []⟩ M := by
  rcases hi with rfl | rfl | rfl
  · refine ⟨F8, [], rfl, ?_⟩
    unfold Mi.go
    simp only [F8, B8, S.exs_cons, S.exs_nil, S.exS_ex, S.ev_call, S.evs_cons, S.evs_nil, List.length_cons, List.length_nil]
    simp [S.ev_var, fill_nil, c_check_no _ h]
  · refine ⟨F9, [], rfl, ?_⟩
    unfold Mi.go
    simp only [F9, B9, S.exs_cons, S.exs_nil, S.exS_ex, S.ev_call, S.evs_cons, S.evs_nil, List.length_cons, List.length_nil]
    simp [S.ev_var, fill_nil, c_check_no _ h]
  · refine ⟨F10, [], rfl, ?_⟩
    unfold Mi.go
    simp only [F10, B10, S.exs_cons, S.exs_nil, S.exS_ex, S.ev_call, S.evs_cons, S.evs_nil, List.length_cons, List.length_nil]
    simp [S.ev_var, fill_nil, c_check_no _ h]
end
theorem c_count (i : Nat) (rows : List (List Int)) (hi : (i = 4 ∧ rows = CN) ∨ (i = 5 ∧ rows = CF) ∨ (i = 8 ∧ rows = PN) ∨ (i = 9 ∧ rows = PF)) (k : Nat) {n m : Nat} (hn : n ≤ 20) (hm : m ≤ 21) (M : List O) :
    pcall (prg.run (k + 1 + 1 + 1 + 1) i) [.d (.int n), .d (.int m)] M = .ok (.d (.int (en rows n m))) M := by
  rcases hi with ⟨rfl, rfl⟩ | ⟨rfl, rfl⟩ | ⟨rfl, rfl⟩ | ⟨rfl, rfl⟩
  · obtain ⟨M2, h⟩ := g_terms mi k hn hm
    exact pcall_sc (denL_d [.int n, .int m]) ((run_eq _ 4 F4 rfl _ _).trans h) rfl
  · obtain ⟨M2, h⟩ := g_flat mi k hn hm
    exact pcall_sc (denL_d [.int n, .int m]) ((run_eq _ 5 F5 rfl _ _).trans h) rfl
  · obtain ⟨M2, h⟩ := g_plainc mi k hn hm
    exact pcall_sc (denL_d [.int n, .int m]) ((run_eq _ 8 F8 rfl _ _).trans h) rfl
  · obtain ⟨M2, h⟩ := g_plainf mi k hn hm
    exact pcall_sc (denL_d [.int n, .int m]) ((run_eq _ 9 F9 rfl _ _).trans h) rfl
theorem c_no (i : Nat) (hi : i = 8 ∨ i = 9 ∨ i = 10) (k : Nat) {a b : Int} (h : inN a b = false) (M : List O) : pcall (prg.run (k + 1 + 1) i) [.d (.int a), .d (.int b)] M = .ex ⟨0, []⟩ M := by
  obtain ⟨fn, M2, e, h1⟩ := g_plain_no mi k i hi h
  exact pcall_ex (denL_d [.int a, .int b]) ((run_eq _ i fn e _ _).trans h1)
end K85

set_option Elab.async false
set_option linter.all false
set_option maxRecDepth 100000
set_option maxHeartbeats 4000000
/-! k85: the law's small defs, plain_table. -/
namespace K85
open PySem PySem.Spec L2 Mini
/-! ### loops -/
theorem forR_all {P : List A → Prop} {tg : Tg} {body : List A → List O → RS} {M : List O} :
    ∀ (xs : List D) (δ : List A), (∀ x ∈ xs, ∀ δ, P δ → ∃ δ1 δ2, setTg tg (.d x) δ = some δ1 ∧ body δ1 M = .nx δ2 M ∧ P δ2) → P δ → ∃ δ', forR tg body xs δ M = .nx δ' M ∧ P δ'
  | [], δ, _, p => ⟨δ, rfl, p⟩
  | x :: r, δ, h, p => by
    obtain ⟨δ1, δ2, h1, h2, p2⟩ := h x List.mem_cons_self δ p
    obtain ⟨δ', h3, p3⟩ := forR_all r δ2 (fun y hy => h y (List.mem_cons_of_mem _ hy)) p2
    refine ⟨δ', ?_, p3⟩
    unfold forR
    rw [h1]
    simp only
    rw [h2]
    exact h3
/-- a comprehension whose element may lay cells -/
theorem compL_g {n v : Nat} {δ : List A} {el : List A → List O → R A} {g : D → D} {M0 : List O} {Px : D → Prop} (h : ∀ x M, Px x → (∀ j, j < M0.length → M[j]? = M0[j]?) → ∃ t, el (δ.set v (.d x)) M = .ok (.d (g x)) (M ++ t)) :
    ∀ (xs : List D) (M : List O) (acc : List A), (∀ x ∈ xs, Px x) → M0.length ≤ n → (∀ j, j < M0.length → M[j]? = M0[j]?) → M[n]? = some (.lst acc) → acc.length + xs.length ≤ sizeLine →
    ∃ M', compL n (.one v) δ (fun _ M => .ok true M) el xs M = .ok () M' ∧ M'[n]? = some (.lst (acc ++ xs.map fun x => A.d (g x))) ∧ (∀ j, j < M0.length → M'[j]? = M0[j]?)
  | [], M, acc, _, _, hj, hn, _ => ⟨M, rfl, by simpa using hn, hj⟩
  | x :: r, M, acc, hx, h0, hj, hn, hl => by
    obtain ⟨t, ht⟩ := h x M (hx x List.mem_cons_self) hj
    have hlt : n < M.length := (List.getElem?_eq_some_iff.mp hn).1
    rw [List.length_cons] at hl
    have hj2 : ∀ j, j < M0.length → ((M ++ t).set n (.lst (acc ++ [.d (g x)])))[j]? = M0[j]? := fun j hh => by
      rw [List.getElem?_set_ne (by omega)]
      by_cases q : j < M.length
      · rw [List.getElem?_append_left q]; exact hj j hh
      · omega
    obtain ⟨M', h1, h2, h3⟩ := compL_g h r ((M ++ t).set n (.lst (acc ++ [.d (g x)]))) (acc ++ [.d (g x)]) (fun y hy => hx y (List.mem_cons_of_mem _ hy)) h0 hj2 (List.getElem?_set_self (by rw [List.length_append]; omega)) (by rw [List.length_append, List.length_singleton]; omega)
    refine ⟨M', ?_, by rw [h2]; simp, h3⟩
    unfold compL
    simp only [set_one]
    rw [ht]
    simp only
    rw [List.getElem?_append_left hlt, hn]
    simp only
    rw [if_pos (by omega)]
    exact h1
/-! ### texts -/
abbrev sp : Str := { cps := { toList := [32] } }
def txt (i : Int) : Str := (toString i : String)
def lineL (row : List Int) (m : Nat) : Str := ((List.range m).map fun k => txt (row.getD (k + 1) 0)).foldl (fun a p => a ++ sp ++ p) (txt (row.getD 0 0))
theorem glued_fold (sep : Str) : ∀ (ys : List Str) (y : Str), Txt.join sep (y :: ys) = ys.foldl (fun a p => a ++ sep ++ p) y := by
  intro ys y
  show (⟨((y :: ys).drop 1).foldl (fun acc p => acc ++ sep.cps ++ p.cps) ((y :: ys).headD Str.empty).cps⟩ : Str) = _
  show (⟨ys.foldl (fun acc p => acc ++ sep.cps ++ p.cps) y.cps⟩ : Str) = _
  induction ys generalizing y with
  | nil => rfl
  | cons z r ih =>
    rw [List.foldl_cons, List.foldl_cons, ← ih (y ++ sep ++ z)]
    rfl
theorem txt_len {i : Int} (h : i.natAbs.log2 < 256) : (txt i).length ≤ 257 := by
  have := PySem.int_text_length_le (a := i) (k := 256) (by omega) h
  unfold txt
  rw [Str.ofString_eq_toList]
  show ((toString i).toList.map Char.toNat).toArray.size ≤ 257
  rw [List.size_toArray, List.length_map]
  exact this
def small (row : List Int) : Bool := row.all fun i => decide (i.natAbs.log2 < 256)
theorem small_at {row : List Int} (h : small row = true) (k : Nat) : (row.getD k 0).natAbs.log2 < 256 := by
  rw [List.getD_eq_getElem?_getD]
  cases q : row[k]? with
  | none => decide
  | some x => exact of_decide_eq_true (List.all_eq_true.mp h x (List.mem_of_getElem? q))
theorem PN_small : (PN.all small) = true := by decide +kernel
theorem PN_row {n : Nat} (hn : n ≤ 20) : small (PN.getD n []) = true := by
  rw [List.getD_eq_getElem?_getD, List.getElem?_eq_getElem (by rw [show PN.length = 21 from PL_len false]; omega)]
  exact List.all_eq_true.mp PN_small _ (List.getElem_mem _)
theorem fold_len {row : List Int} (h : small row = true) (m : Nat) : ∀ (ks : List Nat) (a : Str), (∀ k ∈ ks, k < m) → ((ks.map fun k => txt (row.getD (k + 1) 0)).foldl (fun a p => a ++ sp ++ p) a).length ≤ a.length + ks.length * 258
  | [], a, _ => by simp
  | k :: r, a, hk => by
    rw [List.map_cons, List.foldl_cons]
    have e := fold_len h m r (a ++ sp ++ txt (row.getD (k + 1) 0)) (fun j hj => hk j (List.mem_cons_of_mem _ hj))
    have e2 := txt_len (small_at h (k + 1))
    rw [Str.length_append, Str.length_append] at e
    have e3 : sp.length = 1 := rfl
    rw [List.length_cons]
    omega
section
variable (S : Mi) {w : W}
/-! ### _law_cell -/
theorem g_cell {ns : List Int} {k : Nat} {M : List O} : S.go F11 w [.d (.rol (ns.map .int)), .d (.int k)] M = .ok (.d (.int (ns.getD k 0))) M := by
  have hl : bi .len [.d (.rol (ns.map .int))] M = .ok (.d (.int (ns.length : Nat))) M := by
    show R.ok (A.d (.int (((ns.map D.int).map A.d).length : Nat))) M = _
    rw [List.length_map, List.length_map]
  unfold Mi.go
  by_cases h : k < ns.length
  · have hi : ixA M (.d (.rol (ns.map .int))) (.d (.int k)) = .ok (.d (.int (ns.getD k 0))) M := by
      show (match atI ((ns.map D.int).map A.d) (k : Int) with
        | some x => R.ok x M
        | none => .no) = _
      rw [atI_map, atI_map, Mini.atI_nat, List.getElem?_eq_getElem h, List.getD_eq_getElem?_getD, List.getElem?_eq_getElem h]
      rfl
    simp [F11, B11, S.exs_cons, S.exs_nil, S.exS_if, S.exS_ret, S.evT_cmp, S.ev_cmp, S.ev_bi, S.ev_ix, S.ev_var, S.ev_cst, S.evs_cons, S.evs_nil, hl, hi, cmpR_lt, tru_bl, h]
  · simp [F11, B11, S.exs_cons, S.exs_nil, S.exS_if, S.exS_ret, S.evT_cmp, S.ev_cmp, S.ev_bi, S.ev_ix, S.ev_var, S.ev_cst, S.evs_cons, S.evs_nil, hl, cmpR_lt, tru_bl, h, List.getD_eq_getElem?_getD, List.getElem?_eq_none (Nat.le_of_not_lt h)]
/-! ### _law_same -/
theorem isN_d {x : D} {M : List O} (h : x ≠ .non) : cmpR .isN (.d x) (.d .non) M = .ok (.d (.bl false)) M := by
  cases x <;> first | exact absurd rfl h | rfl
theorem g_same_int {a : Int} {M : List O} : S.go F12 w [.d (.int a), .d (.int a)] M = .ok (.d (.bl true)) M := by
  unfold Mi.go
  simp only [F12, B12, S.exs_cons, S.exS_if, S.evT_cmp, S.ev_cmp, S.evT_isi, S.ev_isi, S.exS_ret, S.ev_an, S.ev_nt, S.ev_cst]
  simp [S.ev_var, isN_d, tru_bl, tyOf, Ty.sub, cmpR_eq, S.exs_nil]
theorem g_same_str {a : Str} {M : List O} : S.go F12 w [.d (.str a), .d (.str a)] M = .ok (.d (.bl true)) M := by
  have e : cmpR .eq (.d (.str a)) (.d (.str a)) M = .ok (.d (.bl true)) M := by
    show R.ok (A.d (.bl (a == a))) M = _
    simp
  unfold Mi.go
  simp only [F12, B12, S.exs_cons, S.exS_if, S.evT_cmp, S.ev_cmp, S.evT_isi, S.ev_isi, S.exS_ret, S.ev_an, S.ev_nt, S.ev_cst]
  simp [S.ev_var, isN_d, tru_bl, tyOf, Ty.sub, e, S.exs_nil]
def smB : List Mini.S := [Mini.S.ifS (Mini.E.call 12 [(Mini.E.var 0).ix (Mini.E.var 2), (Mini.E.var 1).ix (Mini.E.var 2)] [] []).nt
              [Mini.S.ret (Mini.E.cst (Mini.D.bl false))] []]
theorem g_same_lst {ds : List D} {M : List O} (hd : ∀ x ∈ ds, pcall (w.run 12) [.d x, .d x] M = .ok (.d (.bl true)) M) (hl : ds.length ≤ sizeLine) : ∃ M', S.go F12 w [.d (.lst ds), .d (.lst ds)] M = .ok (.d (.bl true)) M' := by
  have ne : ∀ b : Bool, cmpR .ne (.d (.bl b)) (.d (.bl b)) M = .ok (.d (.bl false)) M := fun b => by cases b <;> rfl
  have e1 : items .r1 [.d (.int (ds.length : Nat))] M = some ((List.range ds.length).map (fun i => D.int (i : Nat)), M) := by
    show (if inR (ds.length : Nat) then some ((List.range ((ds.length : Nat) : Int).toNat).map fun i => D.int (i : Nat), M) else none) = _
    have : inR ((ds.length : Nat) : Int) = true := by
      unfold inR
      apply Nat.ble_eq_true_of_le
      rw [PySem.sizeLine_eq] at hl
      omega
    rw [this]
    rfl
  obtain ⟨δ', h1, c, rfl⟩ := forR_all (tg := .one 2) (body := S.exs w smB) (M := M) (P := fun δ => ∃ c, δ = [.d (.lst ds), .d (.lst ds), c, .un]) ((List.range ds.length).map (fun i => D.int (i : Nat))) [.d (.lst ds), .d (.lst ds), .un, .un] (by
    rintro x hx δ ⟨c, rfl⟩
    obtain ⟨i, hi, rfl⟩ := List.mem_map.mp hx
    have hi := List.mem_range.mp hi
    have ei : ixA M (.d (.lst ds)) (.d (.int (i : Nat))) = .ok (.d (ds[i]'hi)) M := by
      rw [ix_lst, List.getElem?_eq_getElem hi]
    refine ⟨_, [.d (.lst ds), .d (.lst ds), .d (.int (i : Nat)), .un], rfl, ?_, _, rfl⟩
    simp [smB, S.exs_cons, S.exs_nil, S.exS_if, S.evT_nt, S.evT_call, S.ev_call, S.evs_cons, S.evs_nil, S.ev_ix, S.ev_var, ei, fill_nil, hd _ (List.getElem_mem hi), tru_bl]) ⟨_, rfl⟩
  refine ⟨M, ?_⟩
  unfold Mi.go
  simp only [F12, B12, S.exs_cons, S.exS_if, S.evT_cmp, S.ev_cmp, S.evT_isi, S.ev_isi, S.exS_ret, S.evT_orr, S.evT_nt, S.ev_nt, S.ev_cst, S.exS_for, S.ev_bi, S.evs_cons, S.evs_nil]
  have h1 : forR (.one 2) (S.exs w [Mini.S.ifS (Mini.E.call 12 [(Mini.E.var 0).ix (Mini.E.var 2), (Mini.E.var 1).ix (Mini.E.var 2)] [] []).nt [Mini.S.ret (Mini.E.cst (Mini.D.bl false))] []]) ((List.range ds.length).map (fun i => D.int (i : Nat))) [.d (.lst ds), .d (.lst ds), .un, .un] M = .nx [.d (.lst ds), .d (.lst ds), c, .un] M := h1
  simp [S.ev_var, isN_d, tru_bl, tyOf, Ty.sub, ne, cmpR_ne, S.exs_nil, bi_len, e1, h1]
end
theorem c_cell (m : Nat) {ns : List Int} (k : Nat) (M : List O) : pcall (prg.run (m + 1) 11) [.d (.rol (ns.map .int)), .d (.int k)] M = .ok (.d (.int (ns.getD k 0))) M :=
  pcall_sc (denL_d [.rol (ns.map .int), .int k]) ((run_eq m 11 F11 rfl _ _).trans (g_cell mi)) rfl
theorem c_same_int (m : Nat) (a : Int) (M : List O) : pcall (prg.run (m + 1) 12) [.d (.int a), .d (.int a)] M = .ok (.d (.bl true)) M :=
  pcall_sc (denL_d [.int a, .int a]) ((run_eq m 12 F12 rfl _ _).trans (g_same_int mi)) rfl
theorem c_same_str (m : Nat) (a : Str) (M : List O) : pcall (prg.run (m + 1) 12) [.d (.str a), .d (.str a)] M = .ok (.d (.bl true)) M :=
  pcall_sc (denL_d [.str a, .str a]) ((run_eq m 12 F12 rfl _ _).trans (g_same_str mi)) rfl
/-- two lists that read alike, of numbers or texts -/
theorem c_same_lst (m : Nat) {ds : List D} {as : List A} {M : List O} (hr : denL (den 8 M) as = some [.lst ds, .lst ds]) (hd : ∀ x ∈ ds, (∃ i, x = .int i) ∨ ∃ s, x = .str s) (hl : ds.length ≤ sizeLine) : pcall (prg.run (m + 1 + 1) 12) as M = .ok (.d (.bl true)) M := by
  obtain ⟨M', h⟩ := g_same_lst (w := ⟨prg.run (m + 1), prg.sub, prg.turns⟩) mi (ds := ds) (M := []) (fun x hx => by
    rcases hd x hx with ⟨i, rfl⟩ | ⟨s, rfl⟩
    · exact c_same_int m i []
    · exact c_same_str m s []) hl
  exact pcall_sc hr ((run_eq _ 12 F12 rfl _ _).trans h) rfl
/-! ### _law_maps -/
def isI (r : R A) (v : Int) : Bool := match r with
  | .ok (.d (.int i)) _ => decide (i = v)
  | _ => false
theorem isI_ok {r : R A} {v : Int} (h : isI r v = true) : ∃ M, r = .ok (.d (.int v)) M := by
  unfold isI at h
  split at h
  · rename_i i M
    exact ⟨M, by rw [of_decide_eq_true h]⟩
  · cases h
theorem maps_all : ((List.range 10).all fun e => isI (prg.run 39 16 [.d (.int (e : Nat))] []) (en PF (2 * e + 1) 0)) = true := by decide +kernel
end K85

set_option Elab.async false
set_option linter.all false
set_option maxRecDepth 100000
set_option maxHeartbeats 4000000
/-! k85: plain_table, _law_refused. -/
namespace K85
open PySem PySem.Spec L2 Mini
theorem prefix_app {M M' : List O} (h : ∀ j, j < M.length → M'[j]? = M[j]?) (hl : M.length ≤ M'.length) : ∃ t, M' = M ++ t := by
  refine ⟨M'.drop M.length, ?_⟩
  apply List.ext_getElem?
  intro j
  by_cases q : j < M.length
  · rw [h j q, List.getElem?_append_left q]
  · rw [List.getElem?_append_right (by omega), List.getElem?_drop]
    congr 1
    omega
/-- a call with data that hands back a list of data -/
theorem pcall_lst {run : List A → List O → R A} {ds xs : List D} {M M2 : List O} {k : Nat} (h2 : run (ds.map A.d) [] = .ok (.cell k) M2) (hM : M2[k]? = some (.lst (xs.map A.d))) :
    pcall run (ds.map A.d) M = .ok (.cell M.length) (M ++ [.lst (xs.map A.d)]) := by
  unfold pcall
  rw [denL_d]
  simp only
  rw [h2]
  simp only
  unfold pcallF
  rw [frzL_d]
  simp only
  rw [h2]
  simp only
  unfold give
  rw [hM]
  simp only
  rw [frzL_d]
  simp only
  rw [hM]
theorem bi_str {i : Int} {M : List O} (h : i.natAbs.log2 < 256) : bi .str [.d (.int i)] M = .ok (.d (.str (txt i))) M := by
  show (if i.natAbs.log2 < 1920 then R.ok (A.d (.str (toString i : String))) M else .no) = _
  rw [if_pos (by omega)]
  rfl
def strK (row : List Int) : D → D
  | .int k => .str (txt (row.getD k.toNat 0))
  | d => d
def isRow : D → Prop := fun x => ∃ row, small row = true ∧ x = il row
def isNat : D → Prop := fun x => ∃ k : Nat, x = .int (k : Int)
def strR (m : Nat) : D → D
  | .lst ds => .str (lineL (ds.map fun d => match d with
    | .int i => i
    | _ => 0) m)
  | d => d
theorem strR_il (m : Nat) (row : List Int) : strR m (il row) = .str (lineL row m) := by
  show D.str _ = _
  rw [List.map_map]
  congr 2
  have : ((fun d => match d with
    | D.int i => i
    | _ => 0) ∘ D.int) = (id : Int → Int) := rfl
  rw [this, List.map_id]
theorem strsA_d : ∀ xs : List Str, strsA (xs.map fun s => A.d (.str s)) = some xs
  | [] => rfl
  | x :: r => by
    rw [List.map_cons]
    unfold strsA
    rw [strsA_d r]
theorem lsw_cell {M : List O} {n : Nat} {xs : List A} (h : M[n]? = some (.lst xs)) : lsw M (.cell n) = some xs := by
  show (match M[n]? with
    | some (.lst xs) => some xs
    | some (.frz (.lst ds)) => some (ds.map A.d)
    | _ => none) = _
  rw [h]
theorem line_join (row : List Int) (m : Nat) : Txt.join sp ((List.range (m + 1)).map fun k => txt (row.getD k 0)) = lineL row m := by
  rw [List.range_succ_eq_map, List.map_cons, List.map_map, glued_fold]
  rfl
theorem sum_le (row : List Int) (h : small row = true) : ∀ ks : List Nat, ((ks.map fun k => txt (row.getD k 0)).map (·.length)).sum ≤ ks.length * 257
  | [] => by simp
  | k :: r => by
    have e := sum_le row h r
    have e2 := txt_len (small_at h k)
    rw [List.map_cons, List.map_cons, List.sum_cons, List.length_cons]
    omega
section
variable (S : Mi) {w : W}
def tbI : Mini.E := (Mini.E.bi Mini.Bi.str [Mini.E.call 1 [Mini.E.var 3, Mini.E.var 4] [] []]).comp (Mini.Tg.one 4)
                    Mini.IK.r1 [Mini.E.bin Mini.Bin.add (Mini.E.var 1) (Mini.E.cst (Mini.D.int (Int.ofNat 1)))] []
                    [4]
def tbE : Mini.E := Mini.E.mt Mini.Mt.join (Mini.E.cst (Mini.D.str { cps := { toList := [32] } })) [tbI]
theorem inR_small {j : Nat} (h : j ≤ 1000) : inR (j : Int) = true := by
  unfold inR
  apply Nat.ble_eq_true_of_le
  omega
theorem tb_row (he : EntD w) {n m : Nat} (hm : m ≤ 21) {row : List Int} (hr : small row = true) {a2 : A} {M : List O} :
    ∃ t, S.ev w tbE [.d (.int n), .d (.int m), a2, .d (il row), .un] M = .ok (.d (.str (lineL row m))) (M ++ t) := by
  have e1 : items .r1 [.d (.int ((m : Int) + 1))] M = some ((List.range (m + 1)).map (fun i => D.int (i : Nat)), M) := by
    show (if inR ((m : Int) + 1) then some ((List.range ((m : Int) + 1).toNat).map fun i => D.int (i : Nat), M) else none) = _
    rw [show (m : Int) + 1 = ((m + 1 : Nat) : Int) by omega, inR_small (by omega)]
    rfl
  obtain ⟨M', h1, h2, h3⟩ := compL_g (n := M.length) (v := 4) (δ := [.d (.int n), .d (.int m), a2, .d (il row), .un]) (el := S.ev w (Mini.E.bi Mini.Bi.str [Mini.E.call 1 [Mini.E.var 3, Mini.E.var 4] [] []])) (g := strK row) (M0 := M) (Px := isNat) (by
    rintro x M1 ⟨k, rfl⟩ _
    refine ⟨[], ?_⟩
    have e := he _ _ _ [.d (il row), .d (.int k)] M1 (denL_d [_, _]) (entO_nat row k)
    simp [S.ev_bi, S.evs_cons, S.evs_nil, S.ev_call, S.ev_var, fill_nil, e, bi_str (small_at hr k), strK]
    simpa using bi_str (M := M1) (small_at hr k)) ((List.range (m + 1)).map (fun i => D.int (i : Nat))) (M ++ [.lst []]) [] (by
    intro x hx
    obtain ⟨i, _, rfl⟩ := List.mem_map.mp hx
    exact ⟨i, rfl⟩) (Nat.le_refl _) (fun j hj => List.getElem?_append_left hj) (by simp) (by simp [sizeLine_eq]; omega)
  obtain ⟨t, rfl⟩ := prefix_app h3 (Nat.le_of_lt (List.getElem?_eq_some_iff.mp h2).1)
  refine ⟨t, ?_⟩
  have h4 : (M ++ t)[M.length]? = some (.lst (((List.range (m + 1)).map fun k => txt (row.getD k 0)).map fun s => A.d (.str s))) := by
    rw [h2, List.nil_append, List.map_map, List.map_map]
    rfl
  have hj : mt .join (.d (.str sp)) [.cell M.length] (M ++ t) = .ok (.d (.str (lineL row m))) (M ++ t) := by
    show (match lsw (M ++ t) (.cell M.length) with
      | some xs => (match strsA xs with
        | some ys => if (ys.map (fun y : Str => y.length)).sum + ys.length * sp.length ≤ 16777216 then R.ok (A.d (.str (Txt.join sp ys))) (M ++ t) else .no
        | none => .no)
      | none => .no) = _
    rw [lsw_cell h4]
    simp only
    rw [strsA_d]
    simp only
    rw [if_pos, line_join]
    have q := sum_le row hr (List.range (m + 1))
    have e0 : ((List.range (m + 1)).map fun k => txt (row.getD k 0)).length = m + 1 := by simp
    rw [e0, show sp.length = 1 from rfl]
    rw [List.length_range] at q
    omega
  have rj : rcv .join M (.d (.str sp)) = true := rfl
  have hc : S.ev w tbI [.d (.int n), .d (.int m), a2, .d (il row), .un] M = .ok (.cell M.length) (M ++ t) := by
    simp only [tbI, S.ev_comp]
    simp [compR, S.evs_cons, S.evs_nil, S.ev_bin, S.ev_var, S.ev_cst, bin_add, e1, S.evA_nil, wipeA]
    rw [h1]
  simp only [tbE, S.ev_mt, S.ev_cst, R.bind_ok, rj, if_true, S.evs_cons, S.evs_nil]
  rw [hc]
  simp only [R.bind_ok]
  exact hj
def tableL (n m : Nat) : List D := (PN.take (n + 1)).map fun row => .str (lineL row m)
theorem PN_take (n : Nat) : ∀ r ∈ PN.take (n + 1), small r = true := fun r hr => List.all_eq_true.mp PN_small r (List.mem_of_mem_take hr)
theorem g_table (k : Nat) {n m : Nat} (hn : n ≤ 20) (hm : m ≤ 21) : ∃ M i, S.go F10 ⟨prg.run (k + 1 + 1 + 1), prg.sub, prg.turns⟩ [.d (.int n), .d (.int m)] [] = .ok (.cell i) M ∧ M[i]? = some (.lst ((tableL n m).map A.d)) := by
  have e1 := p_call k false hn []
  obtain ⟨M', h1, h2, h3⟩ := compL_g (n := 0) (v := 3) (δ := [.d (.int n), .d (.int m), .d (dR ((PL false).take (n + 1))), .un, .un]) (el := S.ev ⟨prg.run (k + 1 + 1 + 1), prg.sub, prg.turns⟩ tbE) (g := strR m) (M0 := []) (Px := isRow) (by
    rintro x M1 ⟨row, hr, rfl⟩ _
    rw [strR_il]
    exact tb_row S (entD (k + 1 + 1)) hm hr) ((PN.take (n + 1)).map il) [.lst []] [] (by
    intro x hx
    obtain ⟨r, hr, rfl⟩ := List.mem_map.mp hx
    exact ⟨r, PN_take n r hr, rfl⟩) (Nat.zero_le _) (fun j hj => absurd hj (Nat.not_lt_zero _)) rfl (by
      have : PN.length = 21 := PL_len false
      simp [sizeLine_eq]; omega)
  refine ⟨M', 0, ?_, ?_⟩
  · have e4 : items .seq [.d (dR ((PL false).take (n + 1)))] [] = some ((PN.take (n + 1)).map il, []) := rfl
    unfold Mi.go
    simp only [F10, B10, S.exs_cons, S.exs_nil, S.exS_ex, S.exS_asg, S.exS_ret, S.ev_call, S.evs_cons, S.evs_nil, S.ev_ix, S.ev_cst, List.length_cons, List.length_nil]
    simp only [S.ev_var, List.cons_append, List.nil_append, List.getElem?_cons_zero, List.getElem?_cons_succ, Nat.sub_self, List.replicate_zero, List.append_nil, R.bind_ok, fill_nil, c_check_ok _ (inN_ok hn hm), R.toS_ok, RS.andThen_nx, List.replicate]
    rw [show fill A.d [Pl.arg 0, Pl.cst (D.bl false)] [A.d (D.int (n : Int))] = [.d (.int n), .d (.bl false)] from rfl, e1]
    simp only [R.bind_ok, ix_tup0, R.toS_ok, set_one, List.set_cons_succ, List.set_cons_zero, RS.andThen_nx]
    have hc : S.ev ⟨prg.run (k + 1 + 1 + 1), prg.sub, prg.turns⟩ (tbE.comp (Mini.Tg.one 3) Mini.IK.seq [Mini.E.var 2] [] [3]) [.d (.int n), .d (.int m), .d (dR ((PL false).take (n + 1))), .un, .un] [] = .ok (.cell 0) M' := by
      simp only [S.ev_comp]
      simp [compR, S.evs_cons, S.evs_nil, S.ev_var, S.evA_nil, wipeA]
      rw [e4]
      simp at h1
      simp [h1]
    have hc' := hc
    unfold tbE tbI at hc'
    rw [hc']
    rfl
  · rw [h2]
    rw [List.nil_append, tableL, List.map_map, List.map_map]
    congr 2
    apply List.map_congr_left
    intro r _
    show A.d (strR m (il r)) = _
    rw [strR_il]
    rfl
/-! ### _law_refused -/
theorem g_refused (k : Nat) {which a b : Int} (hw : which = 0 ∨ which = 1 ∨ which = 2) (h : inN a b = false) {M : List O} : S.go F15 ⟨prg.run (k + 1 + 1), prg.sub, prg.turns⟩ [.d (.int which), .d (.int a), .d (.int b)] M = .ok (.d (.bl true)) M := by
  unfold Mi.go
  rcases hw with rfl | rfl | rfl
  · simp only [F15, B15, S.exs_cons, S.exs_nil, S.exS_try, S.exS_if, S.evT_cmp, S.ev_cmp, S.ev_cst, S.exS_ex, S.ev_call, S.evs_cons, S.evs_nil]
    simp [S.ev_var, cmpR_eq, tru_bl, fill_nil, c_no 8 (by simp) k h, S.exS_ret, S.ev_cst, RS.noX]
    rfl
  · simp only [F15, B15, S.exs_cons, S.exs_nil, S.exS_try, S.exS_if, S.evT_cmp, S.ev_cmp, S.ev_cst, S.exS_ex, S.ev_call, S.evs_cons, S.evs_nil]
    simp [S.ev_var, cmpR_eq, tru_bl, fill_nil, c_no 9 (by simp) k h, S.exS_ret, S.ev_cst, RS.noX]
    rfl
  · simp only [F15, B15, S.exs_cons, S.exs_nil, S.exS_try, S.exS_if, S.evT_cmp, S.ev_cmp, S.ev_cst, S.exS_ex, S.ev_call, S.evs_cons, S.evs_nil]
    simp [S.ev_var, cmpR_eq, tru_bl, fill_nil, c_no 10 (by simp) k h, S.exS_ret, S.ev_cst, RS.noX]
    rfl
end
theorem c_table (k : Nat) {n m : Nat} (hn : n ≤ 20) (hm : m ≤ 21) (M : List O) : pcall (prg.run (k + 1 + 1 + 1 + 1) 10) [.d (.int n), .d (.int m)] M = .ok (.cell M.length) (M ++ [.lst ((tableL n m).map A.d)]) := by
  obtain ⟨M2, i, h1, h2⟩ := g_table mi k hn hm
  exact pcall_lst (ds := [.int n, .int m]) ((run_eq _ 10 F10 rfl _ _).trans h1) h2
theorem c_refused (k : Nat) {which a b : Int} (hw : which = 0 ∨ which = 1 ∨ which = 2) (h : inN a b = false) (M : List O) : pcall (prg.run (k + 1 + 1 + 1) 15) [.d (.int which), .d (.int a), .d (.int b)] M = .ok (.d (.bl true)) M :=
  pcall_sc (denL_d [.int which, .int a, .int b]) ((run_eq _ 15 F15 rfl _ _).trans (g_refused mi k hw h)) rfl
theorem c_lawentry (k : Nat) {row : List Int} {m : Nat} (M : List O) : pcall (prg.run (k + 1) 17) [.d (il row), .d (.int m)] M = .ok (.d (.int (row.getD m 0))) M :=
  pcall_sc (denL_d [il row, .int m]) (r_lawentry (entO_nat row m)) rfl
theorem c_maps39 {e : Nat} (he : e < 10) (M : List O) : pcall (prg.run 39 16) [.d (.int e)] M = .ok (.d (.int (en PF (2 * e + 1) 0))) M := by
  obtain ⟨M2, h⟩ := isI_ok (all_range maps_all he)
  exact pcall_sc (denL_d [.int e]) h rfl
end K85

set_option Elab.async false
set_option linter.all false
set_option maxRecDepth 100000
set_option maxHeartbeats 4000000
/-! k85: the law itself. -/
namespace K85
open PySem PySem.Spec L2 Mini
def L0 : Mini.S := Mini.S.asg (Mini.Tg.one 1)
          (Mini.E.bin Mini.Bin.mod
            (Mini.E.bi Mini.Bi.int [Mini.E.call 11 [Mini.E.var 0, Mini.E.cst (Mini.D.int (Int.ofNat 0))] [] []])
            (Mini.E.cst (Mini.D.int (Int.ofNat 10))))
def L1 : Mini.S := Mini.S.asg (Mini.Tg.one 2)
          (Mini.E.bin Mini.Bin.mod
            (Mini.E.bi Mini.Bi.int [Mini.E.call 11 [Mini.E.var 0, Mini.E.cst (Mini.D.int (Int.ofNat 1))] [] []])
            (Mini.E.cst (Mini.D.int (Int.ofNat 11))))
def L2 : Mini.S := Mini.S.ifS
          (Mini.E.cmp Mini.Cmp.eq
            (Mini.E.bin Mini.Bin.mod
              (Mini.E.bi Mini.Bi.int [Mini.E.call 11 [Mini.E.var 0, Mini.E.cst (Mini.D.int (Int.ofNat 2))] [] []])
              (Mini.E.cst (Mini.D.int (Int.ofNat 8))))
            (Mini.E.cst (Mini.D.int (Int.ofNat 5))))
          [Mini.S.asg (Mini.Tg.one 1)
              (Mini.E.bin Mini.Bin.mod
                (Mini.E.bi Mini.Bi.int [Mini.E.call 11 [Mini.E.var 0, Mini.E.cst (Mini.D.int (Int.ofNat 0))] [] []])
                (Mini.E.cst (Mini.D.int (Int.ofNat 21)))),
            Mini.S.asg (Mini.Tg.one 2)
              (Mini.E.bin Mini.Bin.mod
                (Mini.E.bi Mini.Bi.int [Mini.E.call 11 [Mini.E.var 0, Mini.E.cst (Mini.D.int (Int.ofNat 1))] [] []])
                (Mini.E.cst (Mini.D.int (Int.ofNat 22))))]
          []
def L3 : Mini.S := Mini.S.asg (Mini.Tg.one 3)
          ((Mini.E.call 14 [Mini.E.var 1, Mini.E.cst (Mini.D.bl false)] [] []).ix
            (Mini.E.cst (Mini.D.int (Int.ofNat 0))))
def L4 : Mini.S := Mini.S.asg (Mini.Tg.one 4)
          ((Mini.E.call 14 [Mini.E.var 1, Mini.E.cst (Mini.D.bl true)] [] []).ix
            (Mini.E.cst (Mini.D.int (Int.ofNat 0))))
def L5 : Mini.S := Mini.S.asg (Mini.Tg.one 5) (Mini.E.call 17 [(Mini.E.var 3).ix (Mini.E.var 1), Mini.E.var 2] [] [])
def L6 : Mini.S := Mini.S.asg (Mini.Tg.one 6) (Mini.E.call 17 [(Mini.E.var 4).ix (Mini.E.var 1), Mini.E.var 2] [] [])
def L7 : Mini.S := Mini.S.ifS
          ((Mini.E.call 12 [Mini.E.call 8 [Mini.E.var 1, Mini.E.var 2] [] [], Mini.E.var 5] [] []).nt.orr
            (Mini.E.call 12 [Mini.E.call 9 [Mini.E.var 1, Mini.E.var 2] [] [], Mini.E.var 6] [] []).nt)
          [Mini.S.ret (Mini.E.cst (Mini.D.bl false))] []
def L8 : Mini.S := Mini.S.ifS
          ((Mini.E.cmp Mini.Cmp.gt (Mini.E.var 5) (Mini.E.call 4 [Mini.E.var 1, Mini.E.var 2] [] [])).orr
            ((Mini.E.cmp Mini.Cmp.gt (Mini.E.var 6) (Mini.E.call 5 [Mini.E.var 1, Mini.E.var 2] [] [])).orr
              (Mini.E.cmp Mini.Cmp.gt (Mini.E.var 6) (Mini.E.var 5))))
          [Mini.S.ret (Mini.E.cst (Mini.D.bl false))] []
def L9 : Mini.S := Mini.S.asg (Mini.Tg.one 7) (Mini.E.lst [])
def L10 : Mini.S := Mini.S.forS (Mini.Tg.one 8) Mini.IK.seq [Mini.E.var 3]
          [Mini.S.asg (Mini.Tg.one 9)
              (Mini.E.bi Mini.Bi.str [Mini.E.call 17 [Mini.E.var 8, Mini.E.cst (Mini.D.int (Int.ofNat 0))] [] []]),
            Mini.S.forS (Mini.Tg.one 10) Mini.IK.r2
              [Mini.E.cst (Mini.D.int (Int.ofNat 1)),
                Mini.E.bin Mini.Bin.add (Mini.E.var 2) (Mini.E.cst (Mini.D.int (Int.ofNat 1)))]
              [Mini.S.asg (Mini.Tg.one 9)
                  (Mini.E.bin Mini.Bin.add
                    (Mini.E.bin Mini.Bin.add (Mini.E.var 9) (Mini.E.cst (Mini.D.str { cps := { toList := [32] } })))
                    (Mini.E.bi Mini.Bi.str [Mini.E.call 17 [Mini.E.var 8, Mini.E.var 10] [] []]))],
            Mini.S.ex (Mini.E.mt Mini.Mt.append (Mini.E.var 7) [Mini.E.var 9])]
def L11 : Mini.S := Mini.S.ifS (Mini.E.call 12 [Mini.E.call 10 [Mini.E.var 1, Mini.E.var 2] [] [], Mini.E.var 7] [] []).nt
          [Mini.S.ret (Mini.E.cst (Mini.D.bl false))] []
def L12 : Mini.S := Mini.S.asg (Mini.Tg.one 11)
          (Mini.E.bin Mini.Bin.mod
            (Mini.E.bi Mini.Bi.int [Mini.E.call 11 [Mini.E.var 0, Mini.E.cst (Mini.D.int (Int.ofNat 3))] [] []])
            (Mini.E.cst (Mini.D.int (Int.ofNat 10))))
def L13 : Mini.S := Mini.S.ifS
          (Mini.E.call 12
              [Mini.E.call 9
                  [Mini.E.bin Mini.Bin.add
                      (Mini.E.bin Mini.Bin.mul (Mini.E.cst (Mini.D.int (Int.ofNat 2))) (Mini.E.var 11))
                      (Mini.E.cst (Mini.D.int (Int.ofNat 1))),
                    Mini.E.cst (Mini.D.int (Int.ofNat 0))]
                  [] [],
                Mini.E.call 16 [Mini.E.var 11] [] []]
              [] []).nt
          [Mini.S.ret (Mini.E.cst (Mini.D.bl false))] []
def L14 : Mini.S := Mini.S.ifS
          (Mini.E.call 12
              [Mini.E.lst
                  [Mini.E.call 9 [Mini.E.cst (Mini.D.int (Int.ofNat 1)), Mini.E.cst (Mini.D.int (Int.ofNat 0))] [] [],
                    Mini.E.call 9 [Mini.E.cst (Mini.D.int (Int.ofNat 3)), Mini.E.cst (Mini.D.int (Int.ofNat 0))] [] [],
                    Mini.E.call 9 [Mini.E.cst (Mini.D.int (Int.ofNat 5)), Mini.E.cst (Mini.D.int (Int.ofNat 0))] [] []],
                Mini.E.lst
                  [Mini.E.cst (Mini.D.int (Int.ofNat 1)), Mini.E.cst (Mini.D.int (Int.ofNat 2)),
                    Mini.E.cst (Mini.D.int (Int.ofNat 9))]]
              [] []).nt
          [Mini.S.ret (Mini.E.cst (Mini.D.bl false))] []
def L15 : Mini.S := Mini.S.asg (Mini.Tg.one 12)
          (Mini.E.bin Mini.Bin.add (Mini.E.cst (Mini.D.int (Int.ofNat 1)))
            (Mini.E.bin Mini.Bin.mod
              (Mini.E.bi Mini.Bi.int [Mini.E.call 11 [Mini.E.var 0, Mini.E.cst (Mini.D.int (Int.ofNat 4))] [] []])
              (Mini.E.cst (Mini.D.int (Int.ofNat 1000)))))
def L16 : Mini.S := Mini.S.forS (Mini.Tg.one 13) Mini.IK.r1 [Mini.E.cst (Mini.D.int (Int.ofNat 3))]
          [Mini.S.ifS
              ((Mini.E.call 15
                      [Mini.E.var 13, Mini.E.bin Mini.Bin.add (Mini.E.cst (Mini.D.int (Int.ofNat 20))) (Mini.E.var 12),
                        Mini.E.var 2]
                      [] []).nt.orr
                (Mini.E.call 15
                    [Mini.E.var 13, Mini.E.var 1,
                      Mini.E.bin Mini.Bin.add (Mini.E.cst (Mini.D.int (Int.ofNat 21))) (Mini.E.var 12)]
                    [] []).nt)
              [Mini.S.ret (Mini.E.cst (Mini.D.bl false))] [],
            Mini.S.ifS
              ((Mini.E.call 15
                      [Mini.E.var 13, Mini.E.bin Mini.Bin.sub (Mini.E.cst (Mini.D.int (Int.ofNat 0))) (Mini.E.var 12),
                        Mini.E.var 2]
                      [] []).nt.orr
                (Mini.E.call 15
                    [Mini.E.var 13, Mini.E.var 1,
                      Mini.E.bin Mini.Bin.sub (Mini.E.cst (Mini.D.int (Int.ofNat 0))) (Mini.E.var 12)]
                    [] []).nt)
              [Mini.S.ret (Mini.E.cst (Mini.D.bl false))] []]
def L17 : Mini.S := Mini.S.ret (Mini.E.call 12 [Mini.E.call 8 [Mini.E.var 1, Mini.E.var 2] [] [], Mini.E.var 5] [] [])
theorem B18_eq : B18 = [L0, L1, L2, L3, L4, L5, L6, L7, L8, L9, L10, L11, L12, L13, L14, L15, L16, L17] := rfl
/-- the surroundings of the law's body -/
abbrev wl : W := ⟨prg.run 39, prg.sub, prg.turns⟩
section
variable (S : Mi) {ns : List Int}
abbrev scA (ns : List Int) : A := .d (.rol (ns.map .int))
theorem k_cell (k : Nat) (M : List O) : pcall (prg.run 39 11) [scA ns, .d (.int (Int.ofNat k))] M = .ok (.d (.int (ns.getD k 0))) M := c_cell 38 k M
theorem bi_int {i : Int} {M : List O} : bi .int [.d (.int i)] M = .ok (.d (.int i)) M := rfl
theorem bin_mod' {M : List O} {i j : Int} (h : 0 < j) : bin .mod (.d (.int i)) (.d (.int j)) M = .ok (.d (.int (i % j))) M := by
  rw [bin_mod, if_pos h]
theorem p10 : (0 : Int) < Int.ofNat 10 := by decide
theorem p11 : (0 : Int) < Int.ofNat 11 := by decide
theorem p8 : (0 : Int) < Int.ofNat 8 := by decide
theorem p21 : (0 : Int) < Int.ofNat 21 := by decide
theorem p22 : (0 : Int) < Int.ofNat 22 := by decide
theorem p1000 : (0 : Int) < Int.ofNat 1000 := by decide
theorem l_head : ∃ n m : Nat, n ≤ 20 ∧ m ≤ 21 ∧ ∀ rest, S.exs wl (L0 :: L1 :: L2 :: rest) [scA ns, .un, .un, .un, .un, .un, .un, .un, .un, .un, .un, .un, .un, .un] [] =
    S.exs wl rest [scA ns, .d (.int n), .d (.int m), .un, .un, .un, .un, .un, .un, .un, .un, .un, .un, .un] [] := by
  by_cases h : ns.getD 2 0 % 8 = 5
  · refine ⟨(ns.getD 0 0 % 21).toNat, (ns.getD 1 0 % 22).toNat, by omega, by omega, fun rest => ?_⟩
    rw [show (((ns.getD 0 0 % 21).toNat : Nat) : Int) = ns.getD 0 0 % Int.ofNat 21 by show _ = ns.getD 0 0 % 21; omega, show (((ns.getD 1 0 % 22).toNat : Nat) : Int) = ns.getD 1 0 % Int.ofNat 22 by show _ = ns.getD 1 0 % 22; omega]
    have e : (ns.getD 2 0 % Int.ofNat 8 == Int.ofNat 5) = true := by
      show (ns.getD 2 0 % 8 == 5) = true
      simpa using h
    simp only [L0, L1, L2, S.exS_asg, S.exS_if, S.evT_cmp, S.ev_cmp, S.ev_bin, S.ev_bi, S.ev_call, S.ev_cst, S.ev_var, S.evs_cons, S.evs_nil, S.exs_cons, S.exs_nil, List.getElem?_cons_zero, List.getElem?_cons_succ, R.bind_ok, List.append_nil, fill_nil, k_cell, bi_int, bin_mod' p10, bin_mod' p11, bin_mod' p8, bin_mod' p21, bin_mod' p22, R.toS_ok, set_one, List.set_cons_succ, List.set_cons_zero, RS.andThen_nx, cmpR_eq, e, tru_bl, if_true]
  · refine ⟨(ns.getD 0 0 % 10).toNat, (ns.getD 1 0 % 11).toNat, by omega, by omega, fun rest => ?_⟩
    rw [show (((ns.getD 0 0 % 10).toNat : Nat) : Int) = ns.getD 0 0 % Int.ofNat 10 by show _ = ns.getD 0 0 % 10; omega, show (((ns.getD 1 0 % 11).toNat : Nat) : Int) = ns.getD 1 0 % Int.ofNat 11 by show _ = ns.getD 1 0 % 11; omega]
    have e : (ns.getD 2 0 % Int.ofNat 8 == Int.ofNat 5) = false := by
      show (ns.getD 2 0 % 8 == 5) = false
      simpa using h
    simp only [L0, L1, L2, S.exS_asg, S.exS_if, S.evT_cmp, S.ev_cmp, S.ev_bin, S.ev_bi, S.ev_call, S.ev_cst, S.ev_var, S.evs_cons, S.evs_nil, S.exs_cons, S.exs_nil, List.getElem?_cons_zero, List.getElem?_cons_succ, R.bind_ok, List.append_nil, fill_nil, k_cell, bi_int, bin_mod' p10, bin_mod' p11, bin_mod' p8, R.toS_ok, set_one, List.set_cons_succ, List.set_cons_zero, RS.andThen_nx, cmpR_eq, e, tru_bl, Bool.false_eq_true, if_false]
theorem num_all : ((List.range 21).all fun n => (List.range 22).all fun m => decide (en PN n m ≤ en CN n m) && decide (en PF n m ≤ en CF n m) && decide (en PF n m ≤ en PN n m)) = true := by decide +kernel
theorem num {n m : Nat} (hn : n ≤ 20) (hm : m ≤ 21) : en PN n m ≤ en CN n m ∧ en PF n m ≤ en CF n m ∧ en PF n m ≤ en PN n m := by
  have := all_range (all_range num_all (show n < 21 by omega)) (show m < 22 by omega)
  simp only [Bool.and_eq_true, decide_eq_true_eq] at this
  exact ⟨this.1.1, this.1.2, this.2⟩
theorem l_rows {n m : Nat} (hn : n ≤ 20) (hm : m ≤ 21) : ∀ rest, S.exs wl (L3 :: L4 :: L5 :: L6 :: L7 :: L8 :: L9 :: rest) [scA ns, .d (.int n), .d (.int m), .un, .un, .un, .un, .un, .un, .un, .un, .un, .un, .un] [] =
    S.exs wl rest [scA ns, .d (.int n), .d (.int m), .d (dR (PN.take (n + 1))), .d (dR (PF.take (n + 1))), .d (.int (en PN n m)), .d (.int (en PF n m)), .cell 0, .un, .un, .un, .un, .un, .un] [.lst []] := by
  intro rest
  have e1 := l_call 37 false hn []
  have e2 := l_call 37 true hn []
  have e3 : ixA [] (.d (dR (PN.take (n + 1)))) (.d (.int n)) = .ok (.d (il (PN.getD n []))) [] := ix_dR (at_take (PL_len false) hn)
  have e4 : ixA [] (.d (dR (PF.take (n + 1)))) (.d (.int n)) = .ok (.d (il (PF.getD n []))) [] := ix_dR (at_take (PL_len true) hn)
  have e5 : pcall (prg.run 39 17) [.d (il (PN.getD n [])), .d (.int m)] [] = .ok (.d (.int (en PN n m))) [] := c_lawentry 38 []
  have e6 : pcall (prg.run 39 17) [.d (il (PF.getD n [])), .d (.int m)] [] = .ok (.d (.int (en PF n m))) [] := c_lawentry 38 []
  have c4 : pcall (prg.run 39 4) [.d (.int n), .d (.int m)] [] = .ok (.d (.int (en CN n m))) [] := c_count 4 CN (by simp) 35 hn hm []
  have c5 : pcall (prg.run 39 5) [.d (.int n), .d (.int m)] [] = .ok (.d (.int (en CF n m))) [] := c_count 5 CF (by simp) 35 hn hm []
  have c8 : pcall (prg.run 39 8) [.d (.int n), .d (.int m)] [] = .ok (.d (.int (en PN n m))) [] := c_count 8 PN (by simp) 35 hn hm []
  have c9 : pcall (prg.run 39 9) [.d (.int n), .d (.int m)] [] = .ok (.d (.int (en PF n m))) [] := c_count 9 PF (by simp) 35 hn hm []
  have sm : ∀ a M, pcall (prg.run 39 12) [.d (.int a), .d (.int a)] M = .ok (.d (.bl true)) M := fun a M => c_same_int 38 a M
  obtain ⟨n1, n2, n3⟩ := num hn hm
  have d1 : decide (en CN n m < en PN n m) = false := decide_eq_false (by omega)
  have d2 : decide (en CF n m < en PF n m) = false := decide_eq_false (by omega)
  have d3 : decide (en PN n m < en PF n m) = false := decide_eq_false (by omega)
  have e1' : pcall (prg.run 39 14) [.d (.int n), .d (.bl false)] [] = .ok (.d (.tup [dR (PN.take (n + 1)), dR ((HL false).take (n + 1))])) [] := e1
  have e2' : pcall (prg.run 39 14) [.d (.int n), .d (.bl true)] [] = .ok (.d (.tup [dR (PF.take (n + 1)), dR ((HL true).take (n + 1))])) [] := e2
  simp only [L3, L4, L5, L6, L7, L8, L9, S.exS_asg, S.exS_if, S.evT_cmp, S.evT_orr, S.evT_nt, S.evT_call, S.ev_cmp, S.ev_bin, S.ev_bi, S.ev_ix, S.ev_lst, S.ev_call, S.ev_cst, S.ev_var, S.evs_cons, S.evs_nil, S.exs_cons, S.exs_nil, List.getElem?_cons_zero, List.getElem?_cons_succ, R.bind_ok, List.append_nil, fill_nil, e1', e2', ix_tup0, e3, e4, e5, e6, c4, c5, c8, c9, sm, R.toS_ok, set_one, List.set_cons_succ, List.set_cons_zero, RS.andThen_nx, cmpR_gt, d1, d2, d3, tru_bl, Bool.not_true, Bool.not_false, Bool.false_eq_true, if_false]
  simp [mkL, newL]

/-! the lines -/
def lnI : List Mini.S := [Mini.S.asg (Mini.Tg.one 9)
                  (Mini.E.bin Mini.Bin.add
                    (Mini.E.bin Mini.Bin.add (Mini.E.var 9) (Mini.E.cst (Mini.D.str { cps := { toList := [32] } })))
                    (Mini.E.bi Mini.Bi.str [Mini.E.call 17 [Mini.E.var 8, Mini.E.var 10] [] []]))]
def lnO : List Mini.S := [Mini.S.asg (Mini.Tg.one 9)
              (Mini.E.bi Mini.Bi.str [Mini.E.call 17 [Mini.E.var 8, Mini.E.cst (Mini.D.int (Int.ofNat 0))] [] []]),
            Mini.S.forS (Mini.Tg.one 10) Mini.IK.r2
              [Mini.E.cst (Mini.D.int (Int.ofNat 1)),
                Mini.E.bin Mini.Bin.add (Mini.E.var 2) (Mini.E.cst (Mini.D.int (Int.ofNat 1)))]
              lnI,
            Mini.S.ex (Mini.E.mt Mini.Mt.append (Mini.E.var 7) [Mini.E.var 9])]
theorem L10_eq : L10 = Mini.S.forS (Mini.Tg.one 8) Mini.IK.seq [Mini.E.var 3] lnO := rfl
def lnF (row : List Int) (l : Str) (k : Int) : Option Str := if l.length + 1000 ≤ 1000000 ∧ (row.getD k.toNat 0).natAbs.log2 < 256 ∧ 0 ≤ k then some (l ++ sp ++ txt (row.getD k.toNat 0)) else none
theorem bin_str {x y : Str} {M : List O} (h : x.length + y.length ≤ sizeLine) : bin .add (.d (.str x)) (.d (.str y)) M = .ok (.d (.str (x ++ y))) M := by
  show (if x.length + y.length ≤ sizeLine then R.ok (A.d (.str (x ++ y))) M else .no) = _
  rw [if_pos h]
theorem ln_in {n m : Nat} {row : List Int} {Rr Ff p q : A} {M : List O} : ∀ (xs : List Int) (l l1 : Str) (a10 : A), fO (lnF row) xs l = some l1 →
    ∃ a10', forR (.one 10) (S.exs wl lnI) (xs.map D.int) [scA ns, .d (.int n), .d (.int m), Rr, Ff, p, q, .cell 0, .d (il row), .d (.str l), a10, .un, .un, .un] M =
      .nx [scA ns, .d (.int n), .d (.int m), Rr, Ff, p, q, .cell 0, .d (il row), .d (.str l1), a10', .un, .un, .un] M := by
  intro xs l l1 a10 h
  obtain ⟨δ', M', h1, rfl, a, rfl⟩ := forR_fO (tg := .one 10) (body := S.exs wl lnI) (P := fun l δ M' => M' = M ∧ ∃ a, δ = [scA ns, .d (.int n), .d (.int m), Rr, Ff, p, q, .cell 0, .d (il row), .d (.str l), a, .un, .un, .un]) (f := lnF row) (by
    rintro l k l1 δ M1 hs ⟨rfl, a, rfl⟩
    unfold lnF at hs
    split at hs
    · rename_i hz
      cases hs
      obtain ⟨h1, h2, h3⟩ := hz
      have e : pcall (prg.run 39 17) [.d (il row), .d (.int k)] M1 = .ok (.d (.int (row.getD k.toNat 0))) M1 := by
        have := c_lawentry 38 (row := row) (m := k.toNat) M1
        rwa [show ((k.toNat : Nat) : Int) = k by omega] at this
      have hl := txt_len h2
      have s1 : sp.length = 1 := rfl
      have b1 : bin .add (.d (.str l)) (.d (.str sp)) M1 = .ok (.d (.str (l ++ sp))) M1 := bin_str (by rw [s1, sizeLine_eq]; omega)
      have b2 : bin .add (.d (.str (l ++ sp))) (.d (.str (txt (row.getD k.toNat 0)))) M1 = .ok (.d (.str (l ++ sp ++ txt (row.getD k.toNat 0)))) M1 := bin_str (by rw [Str.length_append, s1, sizeLine_eq]; omega)
      refine ⟨_, [scA ns, .d (.int n), .d (.int m), Rr, Ff, p, q, .cell 0, .d (il row), .d (.str (l ++ sp ++ txt (row.getD k.toNat 0))), .d (.int k), .un, .un, .un], M1, rfl, .inl ?_, rfl, _, rfl⟩
      simp only [lnI, S.exs_cons, S.exs_nil, S.exS_asg, S.ev_bin, S.ev_bi, S.ev_call, S.ev_cst, S.ev_var, S.evs_cons, S.evs_nil, List.getElem?_cons_zero, List.getElem?_cons_succ, List.set_cons_succ, List.set_cons_zero, R.bind_ok, List.append_nil, fill_nil, e, bi_str h2, b1, b2, R.toS_ok, set_one, RS.andThen_nx]
    · cases hs) xs l l1 [scA ns, .d (.int n), .d (.int m), Rr, Ff, p, q, .cell 0, .d (il row), .d (.str l), a10, .un, .un, .un] M h ⟨rfl, _, rfl⟩
  exact ⟨a, h1⟩
theorem ln_fO {row : List Int} (hr : small row = true) : ∀ (ks : List Nat) (l : Str), l.length + ks.length * 258 ≤ 900000 → fO (lnF row) (ks.map fun (k : Nat) => 1 + (k : Int)) l = some ((ks.map fun k => txt (row.getD (k + 1) 0)).foldl (fun a p => a ++ sp ++ p) l)
  | [], l, _ => rfl
  | k :: r, l, h => by
    rw [List.length_cons] at h
    rw [List.map_cons, List.map_cons, List.foldl_cons]
    unfold fO
    have e : lnF row l (1 + (k : Int)) = some (l ++ sp ++ txt (row.getD (k + 1) 0)) := by
      unfold lnF
      have : (1 + (k : Int)).toNat = k + 1 := by omega
      rw [this, if_pos ⟨by omega, small_at hr _, by omega⟩]
    rw [e]
    simp only
    refine ln_fO hr r _ ?_
    rw [Str.length_append, Str.length_append]
    have := txt_len (small_at hr (k + 1))
    have : sp.length = 1 := rfl
    omega
abbrev lnA (m : Nat) (rows : List (List Int)) : List A := rows.map fun r => A.d (.str (lineL r m))
theorem ln_out {n m : Nat} (hm : m ≤ 21) {Rr Ff p q : A} : ∀ (rows : List (List Int)) (acc : List A) (a8 a9 a10 : A), (∀ r ∈ rows, small r = true) → acc.length + rows.length ≤ 1000 →
    ∃ a8' a9' a10', forR (.one 8) (S.exs wl lnO) (rows.map il) [scA ns, .d (.int n), .d (.int m), Rr, Ff, p, q, .cell 0, a8, a9, a10, .un, .un, .un] [.lst acc] =
      .nx [scA ns, .d (.int n), .d (.int m), Rr, Ff, p, q, .cell 0, a8', a9', a10', .un, .un, .un] [.lst (acc ++ lnA m rows)]
  | [], acc, a8, a9, a10, _, _ => ⟨a8, a9, a10, by simp [forR]⟩
  | row :: rows, acc, a8, a9, a10, hr, hl => by
    have h0 := hr row List.mem_cons_self
    rw [List.length_cons] at hl
    have hl0 := txt_len (small_at h0 0)
    obtain ⟨b, hb⟩ := ln_in S (ns := ns) (n := n) (m := m) (Rr := Rr) (Ff := Ff) (p := p) (q := q) (M := [.lst acc]) _ _ _ a10 (ln_fO h0 (List.range m) (txt (row.getD 0 0)) (by rw [List.length_range]; omega))
    have e2 : items .r2 [.d (.int (Int.ofNat 1)), .d (.int ((m : Int) + Int.ofNat 1))] [.lst acc] = some (((List.range m).map fun (k : Nat) => 1 + (k : Int)).map D.int, [.lst acc]) := by
      refine items_r2 ?_
      unfold rng2
      have i1 : inR (Int.ofNat 1) = true := by decide
      have i2 : inR ((m : Int) + Int.ofNat 1) = true := by
        show inR ((m : Int) + 1) = true
        rw [show (m : Int) + 1 = ((m + 1 : Nat) : Int) by omega]
        exact inR_small (by omega)
      rw [i1, i2]
      simp only [Bool.and_self, if_true]
      rw [show ((m : Int) + Int.ofNat 1 - Int.ofNat 1).toNat = m by show ((m : Int) + 1 - 1).toNat = m; omega]
      rfl
    have e0 : pcall (prg.run 39 17) [.d (il row), .d (.int (Int.ofNat 0))] [.lst acc] = .ok (.d (.int (row.getD 0 0))) [.lst acc] := c_lawentry 38 (m := 0) [.lst acc]
    have e3 := app_cell (M := [.lst acc]) (n := 0) (xs := acc) (y := .d (.str (lineL row m))) rfl (by rw [sizeLine_eq]; omega)
    have e4 : rcv .append [.lst acc] (.cell 0) = true := rcv_cell (xs := acc) rfl
    obtain ⟨a8', a9', a10', h1⟩ := ln_out hm rows (acc ++ [.d (.str (lineL row m))]) (.d (il row)) (.d (.str (lineL row m))) b (fun r hh => hr r (List.mem_cons_of_mem _ hh)) (by rw [List.length_append, List.length_singleton]; omega)
    refine ⟨a8', a9', a10', ?_⟩
    rw [List.map_cons]
    unfold forR
    have hb' : forR (.one 10) (S.exs wl lnI) (((List.range m).map fun (k : Nat) => 1 + (k : Int)).map D.int) [scA ns, .d (.int n), .d (.int m), Rr, Ff, p, q, .cell 0, .d (il row), .d (.str (txt (row.getD 0 0))), a10, .un, .un, .un] [.lst acc] =
      .nx [scA ns, .d (.int n), .d (.int m), Rr, Ff, p, q, .cell 0, .d (il row), .d (.str (lineL row m)), b, .un, .un, .un] [.lst acc] := hb
    have e5 : S.exs wl lnO [scA ns, .d (.int n), .d (.int m), Rr, Ff, p, q, .cell 0, .d (il row), a9, a10, .un, .un, .un] [.lst acc] =
      .nx [scA ns, .d (.int n), .d (.int m), Rr, Ff, p, q, .cell 0, .d (il row), .d (.str (lineL row m)), b, .un, .un, .un] [.lst (acc ++ [.d (.str (lineL row m))])] := by
      simp only [lnO, S.exs_cons, S.exs_nil, S.exS_asg, S.exS_for, S.exS_ex, S.ev_mt, S.ev_bin, S.ev_bi, S.ev_call, S.ev_cst, S.ev_var, S.evs_cons, S.evs_nil, List.getElem?_cons_zero, List.getElem?_cons_succ, List.set_cons_succ, List.set_cons_zero, R.bind_ok, List.append_nil, fill_nil, e0, bi_str (small_at h0 0), R.toS_ok, set_one, RS.andThen_nx, bin_add, e2, hb', e4, if_true, e3]
    rw [set_one]
    simp only [List.set_cons_succ, List.set_cons_zero]
    rw [e5]
    simp only
    rw [h1, List.append_assoc]
    rfl
theorem l_lines {n m : Nat} (hn : n ≤ 20) (hm : m ≤ 21) (Ff p q : A) : ∃ a8 a9 a10, ∀ rest, S.exs wl (L10 :: rest) [scA ns, .d (.int n), .d (.int m), .d (dR (PN.take (n + 1))), Ff, p, q, .cell 0, .un, .un, .un, .un, .un, .un] [.lst []] =
    S.exs wl rest [scA ns, .d (.int n), .d (.int m), .d (dR (PN.take (n + 1))), Ff, p, q, .cell 0, a8, a9, a10, .un, .un, .un] [.lst ((tableL n m).map A.d)] := by
  obtain ⟨a8, a9, a10, h⟩ := ln_out S (ns := ns) (n := n) hm (Rr := .d (dR (PN.take (n + 1)))) (Ff := Ff) (p := p) (q := q) (PN.take (n + 1)) [] .un .un .un (PN_take n) (by rw [List.length_take, show PN.length = 21 from PL_len false]; simp; omega)
  refine ⟨a8, a9, a10, fun rest => ?_⟩
  have e1 : items .seq [.d (dR (PN.take (n + 1)))] [.lst []] = some ((PN.take (n + 1)).map il, [.lst []]) := rfl
  rw [S.exs_cons, L10_eq]
  simp only [S.exS_for, S.ev_var, S.evs_cons, S.evs_nil, List.getElem?_cons_zero, List.getElem?_cons_succ, R.bind_ok, R.toS_ok, e1, h, RS.andThen_nx, List.nil_append]
  rw [tableL, List.map_map]
  rfl
theorem l_table {n m : Nat} (hn : n ≤ 20) (hm : m ≤ 21) {b3 b4 b5 b6 b8 b9 b10 : A} : ∀ rest, S.exs wl (L11 :: rest) [scA ns, .d (.int n), .d (.int m), b3, b4, b5, b6, .cell 0, b8, b9, b10, .un, .un, .un] [.lst ((tableL n m).map A.d)] =
    S.exs wl rest [scA ns, .d (.int n), .d (.int m), b3, b4, b5, b6, .cell 0, b8, b9, b10, .un, .un, .un] [.lst ((tableL n m).map A.d), .lst ((tableL n m).map A.d)] := by
  intro rest
  have e1 : pcall (prg.run 39 10) [.d (.int n), .d (.int m)] [.lst ((tableL n m).map A.d)] = .ok (.cell 1) [.lst ((tableL n m).map A.d), .lst ((tableL n m).map A.d)] := c_table 35 hn hm _
  have e2 : pcall (prg.run 39 12) [.cell 1, .cell 0] [.lst ((tableL n m).map A.d), .lst ((tableL n m).map A.d)] = .ok (.d (.bl true)) [.lst ((tableL n m).map A.d), .lst ((tableL n m).map A.d)] := by
    refine c_same_lst 37 (ds := tableL n m) ?_ ?_ ?_
    · have d1 := den_cell (M := [.lst ((tableL n m).map A.d), .lst ((tableL n m).map A.d)]) (k := 7) (n := 1) (ds := tableL n m) rfl (denL_ds 7 _)
      have d0 := den_cell (M := [.lst ((tableL n m).map A.d), .lst ((tableL n m).map A.d)]) (k := 7) (n := 0) (ds := tableL n m) rfl (denL_ds 7 _)
      unfold denL
      rw [d1]
      unfold denL
      rw [d0]
      rfl
    · intro x hx
      obtain ⟨r, _, rfl⟩ := List.mem_map.mp hx
      exact .inr ⟨_, rfl⟩
    · rw [tableL, List.length_map, List.length_take, show PN.length = 21 from PL_len false, sizeLine_eq]
      omega
  rw [S.exs_cons]
  simp only [L11, S.exS_if, S.evT_nt, S.evT_call, S.ev_call, S.ev_var, S.evs_cons, S.evs_nil, S.exs_nil, List.getElem?_cons_zero, List.getElem?_cons_succ, R.bind_ok, List.append_nil, fill_nil, e1, e2, tru_bl, Bool.not_true, R.toS_ok, Bool.false_eq_true, if_false, RS.andThen_nx]

/-! the end -/
theorem mul_all : ((List.range 10).all fun e => okMul (Int.ofNat 2) (e : Nat)) = true := by decide
theorem l_maps {n m e : Nat} (he : e < 10) {b3 b4 b5 b6 b7 b8 b9 b10 : A} {M : List O} (h3 : ns.getD 3 0 % 10 = (e : Nat)) : ∀ rest, S.exs wl (L12 :: L13 :: rest) [scA ns, .d (.int n), .d (.int m), b3, b4, b5, b6, b7, b8, b9, b10, .un, .un, .un] M =
    S.exs wl rest [scA ns, .d (.int n), .d (.int m), b3, b4, b5, b6, b7, b8, b9, b10, .d (.int (e : Nat)), .un, .un] M := by
  intro rest
  have h3' : ns.getD 3 0 % Int.ofNat 10 = (e : Nat) := h3
  have e1 : pcall (prg.run 39 9) [.d (.int (Int.ofNat 2 * (e : Nat) + Int.ofNat 1)), .d (.int (Int.ofNat 0))] M = .ok (.d (.int (en PF (2 * e + 1) 0))) M := by
    have := c_count 9 PF (by simp) 35 (n := 2 * e + 1) (m := 0) (by omega) (by omega) M
    rw [show (((2 * e + 1 : Nat) : Nat) : Int) = Int.ofNat 2 * (e : Nat) + Int.ofNat 1 by show _ = 2 * (e : Int) + 1; omega] at this
    exact this
  have e2 : pcall (prg.run 39 16) [.d (.int (e : Nat))] M = .ok (.d (.int (en PF (2 * e + 1) 0))) M := c_maps39 he M
  have e3 : pcall (prg.run 39 12) [.d (.int (en PF (2 * e + 1) 0)), .d (.int (en PF (2 * e + 1) 0))] M = .ok (.d (.bl true)) M := c_same_int 38 _ M
  simp only [L12, L13, S.exs_cons, S.exS_asg, S.exS_if, S.evT_nt, S.evT_call, S.ev_bin, S.ev_bi, S.ev_call, S.ev_cst, S.ev_var, S.evs_cons, S.evs_nil, S.exs_nil, List.getElem?_cons_zero, List.getElem?_cons_succ, List.set_cons_succ, List.set_cons_zero, set_one, R.bind_ok, List.append_nil, fill_nil, k_cell, bi_int, bin_mod' p10, h3', bin_mul' (all_range mul_all he), bin_add, e1, e2, e3, tru_bl, Bool.not_true, R.toS_ok, Bool.false_eq_true, if_false, RS.andThen_nx]
theorem three : en PF 1 0 = 1 ∧ en PF 3 0 = 2 ∧ en PF 5 0 = 9 := by decide +kernel
theorem mkL3 {M : List O} {a b c : A} : mkL M [a, b, c] = .ok (.cell M.length) (M ++ [.lst [a, b, c]]) := by
  unfold mkL newL
  rw [if_pos (by rw [sizeLine_eq]; simp)]
def o9 : O := .lst [.d (.int 1), .d (.int 2), .d (.int 9)]
theorem l_three {δ : List A} {M : List O} : ∀ rest, S.exs wl (L14 :: rest) δ M = S.exs wl rest δ (M ++ [o9] ++ [o9]) := by
  intro rest
  have c1 : pcall (prg.run 39 9) [.d (.int (Int.ofNat 1)), .d (.int (Int.ofNat 0))] M = .ok (.d (.int 1)) M := by
    have := c_count 9 PF (by simp) 35 (n := 1) (m := 0) (by omega) (by omega) M
    rw [three.1] at this
    exact this
  have c3 : pcall (prg.run 39 9) [.d (.int (Int.ofNat 3)), .d (.int (Int.ofNat 0))] M = .ok (.d (.int 2)) M := by
    have := c_count 9 PF (by simp) 35 (n := 3) (m := 0) (by omega) (by omega) M
    rw [three.2.1] at this
    exact this
  have c5 : pcall (prg.run 39 9) [.d (.int (Int.ofNat 5)), .d (.int (Int.ofNat 0))] M = .ok (.d (.int 9)) M := by
    have := c_count 9 PF (by simp) 35 (n := 5) (m := 0) (by omega) (by omega) M
    rw [three.2.2] at this
    exact this
  have e9 : ∀ M1 : List O, mkL M1 [.d (.int (Int.ofNat 1)), .d (.int (Int.ofNat 2)), .d (.int (Int.ofNat 9))] = .ok (.cell M1.length) (M1 ++ [o9]) := fun M1 => mkL3
  have e8 : ∀ M1 : List O, mkL M1 [.d (.int 1), .d (.int 2), .d (.int 9)] = .ok (.cell M1.length) (M1 ++ [o9]) := fun M1 => mkL3
  have sm : pcall (prg.run 39 12) [.cell M.length, .cell (M ++ [o9]).length] (M ++ [o9] ++ [o9]) = .ok (.d (.bl true)) (M ++ [o9] ++ [o9]) := by
    refine c_same_lst 37 (ds := [.int 1, .int 2, .int 9]) ?_ ?_ ?_
    · have d1 := den_cell (M := M ++ [o9] ++ [o9]) (k := 7) (n := M.length) (xs := [.d (.int 1), .d (.int 2), .d (.int 9)]) (ds := [.int 1, .int 2, .int 9]) (by simp [o9]) (denL_ds 7 [.int 1, .int 2, .int 9])
      have d0 := den_cell (M := M ++ [o9] ++ [o9]) (k := 7) (n := (M ++ [o9]).length) (xs := [.d (.int 1), .d (.int 2), .d (.int 9)]) (ds := [.int 1, .int 2, .int 9]) (by simp [o9]) (denL_ds 7 [.int 1, .int 2, .int 9])
      unfold denL
      rw [d1]
      unfold denL
      rw [d0]
      rfl
    · intro x hx
      simp only [List.mem_cons, List.not_mem_nil, or_false] at hx
      rcases hx with rfl | rfl | rfl <;> exact .inl ⟨_, rfl⟩
    · rw [sizeLine_eq]; simp
  simp only [L14, S.exs_cons, S.exS_if, S.evT_nt, S.evT_call, S.ev_lst, S.ev_call, S.ev_cst, S.evs_cons, S.evs_nil, S.exs_nil, R.bind_ok, List.append_nil, fill_nil, c1, c3, c5, e8, e9, List.cons_append, List.nil_append]
  rw [sm]
  simp only [R.bind_ok, tru_bl, Bool.not_true, R.toS_ok, Bool.false_eq_true, if_false, RS.andThen_nx]
theorem l_beyond {n m : Nat} {b3 b4 b5 b6 b7 b8 b9 b10 b11 : A} {M : List O} : ∃ b : Int, 1 ≤ b ∧ ∀ rest, S.exs wl (L15 :: rest) [scA ns, .d (.int n), .d (.int m), b3, b4, b5, b6, b7, b8, b9, b10, b11, .un, .un] M =
    S.exs wl rest [scA ns, .d (.int n), .d (.int m), b3, b4, b5, b6, b7, b8, b9, b10, b11, .d (.int b), .un] M := by
  refine ⟨Int.ofNat 1 + ns.getD 4 0 % Int.ofNat 1000, ?_, fun rest => ?_⟩
  · show 1 ≤ 1 + ns.getD 4 0 % 1000
    omega
  · simp only [L15, S.exs_cons, S.exS_asg, S.ev_bin, S.ev_bi, S.ev_call, S.ev_cst, S.ev_var, S.evs_cons, S.evs_nil, List.getElem?_cons_zero, List.getElem?_cons_succ, List.set_cons_succ, List.set_cons_zero, set_one, R.bind_ok, List.append_nil, fill_nil, k_cell, bi_int, bin_mod' p1000, bin_add, R.toS_ok, RS.andThen_nx]
def bdB : List Mini.S := [Mini.S.ifS
              ((Mini.E.call 15
                      [Mini.E.var 13, Mini.E.bin Mini.Bin.add (Mini.E.cst (Mini.D.int (Int.ofNat 20))) (Mini.E.var 12),
                        Mini.E.var 2]
                      [] []).nt.orr
                (Mini.E.call 15
                    [Mini.E.var 13, Mini.E.var 1,
                      Mini.E.bin Mini.Bin.add (Mini.E.cst (Mini.D.int (Int.ofNat 21))) (Mini.E.var 12)]
                    [] []).nt)
              [Mini.S.ret (Mini.E.cst (Mini.D.bl false))] [],
            Mini.S.ifS
              ((Mini.E.call 15
                      [Mini.E.var 13, Mini.E.bin Mini.Bin.sub (Mini.E.cst (Mini.D.int (Int.ofNat 0))) (Mini.E.var 12),
                        Mini.E.var 2]
                      [] []).nt.orr
                (Mini.E.call 15
                    [Mini.E.var 13, Mini.E.var 1,
                      Mini.E.bin Mini.Bin.sub (Mini.E.cst (Mini.D.int (Int.ofNat 0))) (Mini.E.var 12)]
                    [] []).nt)
              [Mini.S.ret (Mini.E.cst (Mini.D.bl false))] []]
theorem L16_eq : L16 = Mini.S.forS (Mini.Tg.one 13) Mini.IK.r1 [Mini.E.cst (Mini.D.int (Int.ofNat 3))] bdB := rfl
theorem l_out {n m : Nat} {b : Int} (hb : 1 ≤ b) {b3 b4 b5 b6 b7 b8 b9 b10 b11 : A} {M : List O} : ∃ c, ∀ rest, S.exs wl (L16 :: rest) [scA ns, .d (.int n), .d (.int m), b3, b4, b5, b6, b7, b8, b9, b10, b11, .d (.int b), .un] M =
    S.exs wl rest [scA ns, .d (.int n), .d (.int m), b3, b4, b5, b6, b7, b8, b9, b10, b11, .d (.int b), c] M := by
  obtain ⟨δ', h1, c, rfl⟩ := forR_all (tg := .one 13) (body := S.exs wl bdB) (M := M) (P := fun δ => ∃ c, δ = [scA ns, .d (.int n), .d (.int m), b3, b4, b5, b6, b7, b8, b9, b10, b11, .d (.int b), c]) [.int 0, .int 1, .int 2] [scA ns, .d (.int n), .d (.int m), b3, b4, b5, b6, b7, b8, b9, b10, b11, .d (.int b), .un] (by
    rintro x hx δ ⟨c, rfl⟩
    have hx2 : ∃ i : Int, x = .int i ∧ (i = 0 ∨ i = 1 ∨ i = 2) := by
      simp only [List.mem_cons, List.not_mem_nil, or_false] at hx
      rcases hx with rfl | rfl | rfl
      · exact ⟨0, rfl, by simp⟩
      · exact ⟨1, rfl, by simp⟩
      · exact ⟨2, rfl, by simp⟩
    obtain ⟨i, rfl, hi⟩ := hx2
    have z1 : inN (Int.ofNat 20 + b) (m : Int) = false := by
      have : decide (Int.ofNat 20 + b ≤ 20) = false := decide_eq_false (by show ¬ (20 + b ≤ 20); omega)
      unfold inN
      rw [this]
      simp
    have z2 : inN (n : Int) (Int.ofNat 21 + b) = false := by
      have : decide (Int.ofNat 21 + b ≤ 21) = false := decide_eq_false (by show ¬ (21 + b ≤ 21); omega)
      unfold inN
      rw [this]
      simp
    have z3 : inN (Int.ofNat 0 - b) (m : Int) = false := by
      have : decide (0 ≤ Int.ofNat 0 - b) = false := decide_eq_false (by show ¬ (0 ≤ 0 - b); omega)
      unfold inN
      rw [this]
      simp
    have z4 : inN (n : Int) (Int.ofNat 0 - b) = false := by
      have : decide (0 ≤ Int.ofNat 0 - b) = false := decide_eq_false (by show ¬ (0 ≤ 0 - b); omega)
      unfold inN
      rw [this]
      simp
    have y1 : pcall (prg.run 39 15) [.d (.int i), .d (.int (Int.ofNat 20 + b)), .d (.int m)] M = .ok (.d (.bl true)) M := c_refused 36 hi z1 M
    have y2 : pcall (prg.run 39 15) [.d (.int i), .d (.int n), .d (.int (Int.ofNat 21 + b))] M = .ok (.d (.bl true)) M := c_refused 36 hi z2 M
    have y3 : pcall (prg.run 39 15) [.d (.int i), .d (.int (Int.ofNat 0 - b)), .d (.int m)] M = .ok (.d (.bl true)) M := c_refused 36 hi z3 M
    have y4 : pcall (prg.run 39 15) [.d (.int i), .d (.int n), .d (.int (Int.ofNat 0 - b))] M = .ok (.d (.bl true)) M := c_refused 36 hi z4 M
    refine ⟨_, [scA ns, .d (.int n), .d (.int m), b3, b4, b5, b6, b7, b8, b9, b10, b11, .d (.int b), .d (.int i)], rfl, ?_, _, rfl⟩
    simp only [bdB, S.exs_cons, S.exs_nil, S.exS_if, S.evT_orr, S.evT_nt, S.evT_call, S.ev_bin, S.ev_call, S.ev_cst, S.ev_var, S.evs_cons, S.evs_nil, List.getElem?_cons_zero, List.getElem?_cons_succ, List.set_cons_succ, List.set_cons_zero, R.bind_ok, List.append_nil, fill_nil, bin_add, bin_sub, y1, y2, y3, y4, tru_bl, Bool.not_true, R.toS_ok, Bool.false_eq_true, if_false, RS.andThen_nx]) ⟨_, rfl⟩
  refine ⟨c, fun rest => ?_⟩
  have e1 : items .r1 [.d (.int (Int.ofNat 3))] M = some ([.int 0, .int 1, .int 2], M) := rfl
  rw [S.exs_cons, L16_eq]
  simp only [S.exS_for, S.ev_cst, S.evs_cons, S.evs_nil, R.bind_ok, R.toS_ok, e1, h1, RS.andThen_nx]
theorem l_last {n m : Nat} (hn : n ≤ 20) (hm : m ≤ 21) {b3 b4 b6 b7 b8 b9 b10 b11 b12 b13 : A} {M : List O} : S.exs wl [L17] [scA ns, .d (.int n), .d (.int m), b3, b4, .d (.int (en PN n m)), b6, b7, b8, b9, b10, b11, b12, b13] M = .rt (.d (.bl true)) M := by
  have c8 : pcall (prg.run 39 8) [.d (.int n), .d (.int m)] M = .ok (.d (.int (en PN n m))) M := c_count 8 PN (by simp) 35 hn hm M
  have e3 : pcall (prg.run 39 12) [.d (.int (en PN n m)), .d (.int (en PN n m))] M = .ok (.d (.bl true)) M := c_same_int 38 _ M
  simp only [L17, S.exs_cons, S.exS_ret, S.ev_call, S.ev_var, S.evs_cons, S.evs_nil, S.exs_nil, List.getElem?_cons_zero, List.getElem?_cons_succ, R.bind_ok, List.append_nil, fill_nil, c8, e3, R.toS_ok, RS.andThen_rt]
theorem g_law : ∃ M, S.go F18 wl [scA ns] [] = .ok (.d (.bl true)) M := by
  obtain ⟨n, m, hn, hm, h1⟩ := l_head S (ns := ns)
  obtain ⟨a8, a9, a10, h3⟩ := l_lines S (ns := ns) hn hm (.d (dR (PF.take (n + 1)))) (.d (.int (en PN n m))) (.d (.int (en PF n m)))
  obtain ⟨e, he⟩ : ∃ e : Nat, ns.getD 3 0 % 10 = (e : Nat) := ⟨(ns.getD 3 0 % 10).toNat, by omega⟩
  obtain ⟨b, hb, h7⟩ := l_beyond S (ns := ns) (n := n) (m := m) (b3 := .d (dR (PN.take (n + 1)))) (b4 := .d (dR (PF.take (n + 1)))) (b5 := .d (.int (en PN n m))) (b6 := .d (.int (en PF n m))) (b7 := .cell 0) (b8 := a8) (b9 := a9) (b10 := a10) (b11 := .d (.int (e : Nat))) (M := [.lst ((tableL n m).map A.d), .lst ((tableL n m).map A.d)] ++ [o9] ++ [o9])
  obtain ⟨c, h8⟩ := l_out S (ns := ns) (n := n) (m := m) hb (b3 := .d (dR (PN.take (n + 1)))) (b4 := .d (dR (PF.take (n + 1)))) (b5 := .d (.int (en PN n m))) (b6 := .d (.int (en PF n m))) (b7 := .cell 0) (b8 := a8) (b9 := a9) (b10 := a10) (b11 := .d (.int (e : Nat))) (M := [.lst ((tableL n m).map A.d), .lst ((tableL n m).map A.d)] ++ [o9] ++ [o9])
  refine ⟨[.lst ((tableL n m).map A.d), .lst ((tableL n m).map A.d)] ++ [o9] ++ [o9], ?_⟩
  have e0 : [scA ns] ++ List.replicate (F18.loc - [scA ns].length) A.un = [scA ns, .un, .un, .un, .un, .un, .un, .un, .un, .un, .un, .un, .un, .un] := rfl
  unfold Mi.go
  rw [e0]
  show (match S.exs wl B18 _ [] with
    | .nx _ M1 => R.ok (A.d .non) M1
    | .rt a M1 => .ok a M1
    | .ex x _ M1 => .ex x M1
    | _ => .no) = _
  rw [B18_eq, h1, l_rows S hn hm, h3, l_table S hn hm, l_maps S (by omega) he, l_three S, h7, h8, l_last S hn hm]
end
theorem law_true (ns : List Int) : ∃ M, prg.run 40 18 [.d (.rol (ns.map .int))] [] = .ok (.d (.bl true)) M := by
  obtain ⟨M, h⟩ := g_law mi (ns := ns)
  exact ⟨M, (run_eq 39 18 F18 rfl _ _).trans h⟩
end K85

namespace K85
theorem prg_eq : K85hd.prg = K85.prg := rfl
end K85
open PySem PySem.W PyProof.Rows L2 Mini
set_option maxRecDepth 100000 in
set_option maxHeartbeats 0 in
theorem PySem.Challenge.cw_kindstellterms_k85_whole_numbers_of_plai_holds : PySem.Challenge.rw_kindstellterms_k85_whole_numbers_of_plai.Holds := by
  w_on
  o_law
  refine K85hd.holds_of (fun ns _ => ?_) ?_
  · rw [K85.prg_eq]
    exact K85.law_true ns
  · w_witness2
