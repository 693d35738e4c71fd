import PyProof.Rows.All
import Wide.All
import OpenK.AllK
import Wide.FinOn
import HandS.ForMost
import HandS.IsInst
import HandS.Style
import HandS.TupMul
import HandS.Zip
import HandS.Conv
import HandS.Flow
import HandS.WideBits
import KE.DataEq
import HandS.TupAny
import HandS.TupLe
import PyProof.EnumMake
import KE.GoesMore
import HandS.SetFor
import HandS.Strs
import HandS.SortInts
import HandS.TupSets
import HandS.Text
import PySem.Challenge.RW_channelshared_k02_whole_one_more_sender
set_option Elab.async false
set_option linter.all false
set_option maxRecDepth 100000
set_option maxHeartbeats 4000000
/-! J1: data, slots, the store; what they say of the abstract heap; judgements. -/
namespace J
open PySem PySem.Spec PyProof.Rows L2

inductive D where
  | non | bl (b : Bool) | int (i : Int) | str (x : Str) | tup (xs : List D) | lst (xs : List D) | fz (xs : List D) | ref (n : Nat)

/-- an object that may change -/
inductive Ob where
  | lst (xs : List D)
  | dct (kvs : List (D × D))
  | dtt (kvs : List (D × D))
  | ins (c : Str) (fs : List (Str × D))

/-- a local name: nothing known; a value for ever; an object of its own -/
inductive Sl where
  | no | im (d : D) | ow (o : Ob)

abbrev Env := List Sl
abbrev Sto := List Ob

section
variable (K : PySem.W.Frag)
mutual
inductive RD (F : Hp) (A : List Addr) : V → D → Prop
  | non : RD F A .non .non
  | bl (b : Bool) : RD F A (.bl b) (.bl b)
  | int (i : Int) : RD F A (.int i) (.int i)
  | str (x : Str) : RD F A (.str x) (.str x)
  | tup {a : Addr} {vs : List V} {ds : List D} : SqT K F a vs → RDs F A vs ds → RD F A (.ref a) (.tup ds)
  | lst {a : Addr} {vs : List V} {ds : List D} : F a = some (.lst vs) → RDs F A vs ds → RD F A (.ref a) (.lst ds)
  | fz {a : Addr} {vs : List V} {ds : List D} : SqL K F a vs → RDs F A vs ds → RD F A (.ref a) (.fz ds)
  | ref {a : Addr} {n : Nat} : A[n]? = some a → RD F A (.ref a) (.ref n)
inductive RDs (F : Hp) (A : List Addr) : List V → List D → Prop
  | nil : RDs F A [] []
  | cons {v : V} {vs : List V} {d : D} {ds : List D} : RD F A v d → RDs F A vs ds → RDs F A (v :: vs) (d :: ds)
end
end
section
variable {K : PySem.W.Frag} {F F' : Hp} {A A' : List Addr}
theorem seqT_mono {a : Addr} {vs : List V} (h : ∀ b o, F b = some o → F' b = some o) (x : SqT K F a vs) : SqT K F' a vs := by
  rcases x with (x | ⟨o, x⟩) | x
  · exact .inl (.inl (h _ _ x))
  · exact .inl (.inr ⟨o, h _ _ x⟩)
  · exact .inr x
theorem seqL_mono {a : Addr} {vs : List V} (h : ∀ b o, F b = some o → F' b = some o) (x : SqL K F a vs) : SqL K F' a vs := by
  rcases x with (x | ⟨o, x⟩) | x
  · exact .inl (.inl (h _ _ x))
  · exact .inl (.inr ⟨o, h _ _ x⟩)
  · exact .inr x
theorem get_pre {A A' : List Addr} (h : A <+: A') {n : Nat} {a : Addr} (e : A[n]? = some a) : A'[n]? = some a := by
  obtain ⟨t, rfl⟩ := h
  rw [List.getElem?_append_left (List.getElem?_eq_some_iff.mp e).1]
  exact e
mutual
theorem RD.mono (h : ∀ b o, F b = some o → F' b = some o) (hA : A <+: A') : ∀ {v : V} {d : D}, RD K F A v d → RD K F' A' v d
  | _, _, .non => .non
  | _, _, .bl b => .bl b
  | _, _, .int i => .int i
  | _, _, .str x => .str x
  | _, _, .tup s r => .tup (seqT_mono h s) (RDs.mono h hA r)
  | _, _, .lst s r => .lst (h _ _ s) (RDs.mono h hA r)
  | _, _, .fz s r => .fz (seqL_mono h s) (RDs.mono h hA r)
  | _, _, .ref e => .ref (get_pre hA e)
theorem RDs.mono (h : ∀ b o, F b = some o → F' b = some o) (hA : A <+: A') : ∀ {v : List V} {d : List D}, RDs K F A v d → RDs K F' A' v d
  | _, _, .nil => .nil
  | _, _, .cons r t => .cons (RD.mono h hA r) (RDs.mono h hA t)
end
theorem RDs.length : ∀ {vs : List V} {ds : List D}, RDs K F A vs ds → vs.length = ds.length
  | _, _, .nil => rfl
  | _, _, .cons _ t => by simp [RDs.length t]
theorem RDs.get : ∀ {vs : List V} {ds : List D} {i : Nat} {d : D}, RDs K F A vs ds → ds[i]? = some d → ∃ v, vs[i]? = some v ∧ RD K F A v d
  | _, _, _, _, .nil, e => by simp at e
  | _, _, 0, _, .cons r _, e => by simp at e; subst e; exact ⟨_, rfl, r⟩
  | _, _, i + 1, _, .cons _ t, e => by
    obtain ⟨v, h1, h2⟩ := RDs.get (i := i) t (by simpa using e)
    exact ⟨v, by simpa using h1, h2⟩
theorem RDs.append : ∀ {vs ws : List V} {ds es : List D}, RDs K F A vs ds → RDs K F A ws es → RDs K F A (vs ++ ws) (ds ++ es)
  | _, _, _, _, .nil, s => s
  | _, _, _, _, .cons r t, s => .cons r (RDs.append t s)
theorem RDs.take : ∀ {vs : List V} {ds : List D} (n : Nat), RDs K F A vs ds → RDs K F A (vs.take n) (ds.take n)
  | _, _, 0, _ => .nil
  | _, _, _ + 1, .nil => .nil
  | _, _, n + 1, .cons r t => .cons r (RDs.take n t)
theorem RDs.drop : ∀ {vs : List V} {ds : List D} (n : Nat), RDs K F A vs ds → RDs K F A (vs.drop n) (ds.drop n)
  | _, _, 0, r => r
  | _, _, _ + 1, .nil => .nil
  | _, _, n + 1, .cons _ t => RDs.drop n t
theorem RDs.reverse {vs : List V} {ds : List D} (h : RDs K F A vs ds) : RDs K F A vs.reverse ds.reverse := by
  induction vs generalizing ds with
  | nil => cases h; exact .nil
  | cons v vs ih =>
    cases h with
    | cons r t =>
      rw [List.reverse_cons, List.reverse_cons]
      exact (ih t).append (.cons r .nil)
theorem RDs.set : ∀ {vs : List V} {ds : List D} (i : Nat) {v : V} {d : D}, RDs K F A vs ds → RD K F A v d → RDs K F A (vs.set i v) (ds.set i d)
  | _, _, _, _, _, .nil, _ => .nil
  | _, _, 0, _, _, .cons _ t, r => .cons r t
  | _, _, i + 1, _, _, .cons q t, r => .cons q (RDs.set i t r)
theorem RDs.eraseIdx : ∀ {vs : List V} {ds : List D} (i : Nat), RDs K F A vs ds → RDs K F A (vs.eraseIdx i) (ds.eraseIdx i)
  | _, _, _, .nil => .nil
  | _, _, 0, .cons _ t => t
  | _, _, i + 1, .cons q t => .cons q (RDs.eraseIdx i t)
theorem RDs.ints {ns : List Int} {vs : List V} (h : RDs K F A vs (ns.map D.int)) : vs = ns.map V.int := by
  induction ns generalizing vs with
  | nil => cases h; rfl
  | cons n ns ih =>
    cases h with
    | cons r t =>
      cases r
      rw [ih t]
      rfl
theorem RDs.ofInts (ns : List Int) : RDs K F A (ns.map V.int) (ns.map D.int) := by
  induction ns with
  | nil => exact .nil
  | cons n ns ih => exact .cons (.int n) ih
theorem RDs.bls {ns : List Bool} {vs : List V} (h : RDs K F A vs (ns.map D.bl)) : vs = ns.map V.bl := by
  induction ns generalizing vs with
  | nil => cases h; rfl
  | cons n ns ih =>
    cases h with
    | cons r t =>
      cases r
      rw [ih t]
      rfl
theorem RDs.strs {ns : List Str} {vs : List V} (h : RDs K F A vs (ns.map D.str)) : vs = ns.map V.str := by
  induction ns generalizing vs with
  | nil => cases h; rfl
  | cons n ns ih =>
    cases h with
    | cons r t =>
      cases r
      rw [ih t]
      rfl
end

/-! ### objects -/
/-- keys of dicts: ints and texts, or tuples of them -/
def keyD : D → Option Key
  | .int i => some (.inl i)
  | .str x => some (.inr x)
  | _ => none
def keyT : D → Option (List Key)
  | .tup ds => ds.mapM keyD
  | _ => none
section
variable (K : PySem.W.Frag) (F : Hp) (A : List Addr)
def FldR : List (Str × V) → List (Str × D) → Prop := Paired fun p q => p.1 = q.1 ∧ RD K F A p.2 q.2
def DkR : List (Key × V) → List (D × D) → Prop := Paired fun p q => keyD q.1 = some p.1 ∧ RD K F A p.2 q.2
def DtR : List (List Key × V) → List (D × D) → Prop := Paired fun p q => keyT q.1 = some p.1 ∧ RD K F A p.2 q.2
/-- at a, in H, stands the object -/
def ObR (CA : Str → Addr) (H : Hp) (a : Addr) : Ob → Prop
  | .lst xs => ∃ vs, H a = some (.lst vs) ∧ RDs K F A vs xs
  | .dct kvs => ∃ ws, H a = some (.dK ws) ∧ DkR K F A ws kvs
  | .dtt kvs => ∃ ws, H a = some (.dT ws) ∧ DtR K F A ws kvs
  | .ins c fs => ∃ dx ws, H a = some (.ins (CA c) dx ws) ∧ FldR K F A ws fs
end
section
variable {K : PySem.W.Frag} {F F' : Hp} {A A' : List Addr} {CA : Str → Addr} {H H' : Hp} {a : Addr} {o : Ob}
theorem pmap {α β : Type} {R S : α → β → Prop} (h : ∀ a b, R a b → S a b) : ∀ {l : List α} {m : List β}, Paired R l m → Paired S l m
  | _, _, .nil => .nil
  | _, _, .cons r t => .cons (h _ _ r) (pmap h t)
theorem ObR.mono (hF : ∀ b o, F b = some o → F' b = some o) (hA : A <+: A') (hH : H' a = H a) (x : ObR K F A CA H a o) : ObR K F' A' CA H' a o := by
  cases o with
  | lst xs => obtain ⟨vs, e, r⟩ := x; exact ⟨vs, hH.trans e, r.mono hF hA⟩
  | dct kvs => obtain ⟨ws, e, r⟩ := x; exact ⟨ws, hH.trans e, pmap (fun _ _ q => ⟨q.1, q.2.mono hF hA⟩) r⟩
  | dtt kvs => obtain ⟨ws, e, r⟩ := x; exact ⟨ws, hH.trans e, pmap (fun _ _ q => ⟨q.1, q.2.mono hF hA⟩) r⟩
  | ins c fs => obtain ⟨dx, ws, e, r⟩ := x; exact ⟨dx, ws, hH.trans e, pmap (fun _ _ q => ⟨q.1, q.2.mono hF hA⟩) r⟩
theorem ObR.there (x : ObR K F A CA H a o) : ∃ u, H a = some u := by
  cases o with
  | lst xs => obtain ⟨vs, e, r⟩ := x; exact ⟨_, e⟩
  | dct kvs => obtain ⟨ws, e, r⟩ := x; exact ⟨_, e⟩
  | dtt kvs => obtain ⟨ws, e, r⟩ := x; exact ⟨_, e⟩
  | ins c fs => obtain ⟨dx, ws, e, r⟩ := x; exact ⟨_, e⟩
end

def isOw : Option Sl → Bool
  | some (.ow _) => true
  | _ => false
def SlR (K : PySem.W.Frag) (F : Hp) (A : List Addr) (CA : Str → Addr) (H : Hp) (v : Option (Option V)) : Sl → Prop
  | .no => True
  | .im d => ∃ x, v = some (some x) ∧ RD K F A x d
  | .ow o => ∃ a, v = some (some (.ref a)) ∧ ObR K F A CA H a o

/-- static things: the written part, where classes stand -/
structure Stc where
  K : PySem.W.Frag
  CA : Str → Addr

/-- P: what is to be kept; F: what never changes; A: where the store's objects stand; S: the store; Γ: what is known of the slots σ; H: the abstract heap -/
structure Rel (C : Stc) (P F : Hp) (A : List Addr) (S : Sto) (Γ : Env) (σ : L2.St) (H : Hp) : Prop where
  subF : ∀ b o, F b = some o → H b = some o
  subP : ∀ b o, P b = some o → H b = some o
  dis : ∀ b o, F b = some o → P b = none
  len : A.length = S.length
  sz : Γ.length = σ.length
  nd : A.Nodup
  free : ∀ a ∈ A, F a = none ∧ P a = none
  obj : ∀ (n : Nat) (a : Addr) (o : Ob), A[n]? = some a → S[n]? = some o → ObR C.K F A C.CA H a o
  slot : ∀ (i : Nat) (s : Sl), Γ[i]? = some s → SlR C.K F A C.CA H σ[i]? s
  own : ∀ (i : Nat) (a : Addr), isOw Γ[i]? = true → σ[i]? = some (some (.ref a)) → a ∉ A ∧ F a = none ∧ P a = none
  apart : ∀ (i j : Nat) (a : Addr), isOw Γ[i]? = true → isOw Γ[j]? = true → σ[i]? = some (some (.ref a)) → σ[j]? = some (some (.ref a)) → i = j

/-- what a step leaves: F and A grow -/
structure Ex (F : Hp) (A : List Addr) (F' : Hp) (A' : List Addr) : Prop where
  f : ∀ b o, F b = some o → F' b = some o
  a : A <+: A'
theorem Ex.refl {F : Hp} {A : List Addr} : Ex F A F A := ⟨fun _ _ h => h, List.prefix_refl _⟩
theorem Ex.trans {F F1 F2 : Hp} {A A1 A2 : List Addr} (x : Ex F A F1 A1) (y : Ex F1 A1 F2 A2) : Ex F A F2 A2 := ⟨fun b o h => y.f b o (x.f b o h), x.a.trans y.a⟩
theorem RD.ex {K : PySem.W.Frag} {F F' : Hp} {A A' : List Addr} {v : V} {d : D} (h : RD K F A v d) (x : Ex F A F' A') : RD K F' A' v d := h.mono x.f x.a
theorem RDs.ex {K : PySem.W.Frag} {F F' : Hp} {A A' : List Addr} {v : List V} {d : List D} (h : RDs K F A v d) (x : Ex F A F' A') : RDs K F' A' v d := h.mono x.f x.a

section
variable {C : Stc} {P F : Hp} {A : List Addr} {S : Sto} {Γ : Env} {σ : L2.St} {H : Hp}
/-- a new thing that never changes -/
theorem Rel.lay (R : Rel C P F A S Γ σ H) {p : Addr} (hp : H p = none) (o : HO) : Rel C P (upd F p o) A S Γ σ (upd H p o) := by
  have nF : F p = none := by
    cases e : F p with
    | none => rfl
    | some u => rw [R.subF _ _ e] at hp; cases hp
  have nP : P p = none := by
    cases e : P p with
    | none => rfl
    | some u => rw [R.subP _ _ e] at hp; cases hp
  have mF : ∀ b u, F b = some u → upd F p o b = some u := fun b u e => by
    rw [upd_ne (ne_of_none e nF)]; exact e
  have nA : p ∉ A := fun h => by
    obtain ⟨n, hn⟩ := List.getElem?_of_mem h
    have hl : n < S.length := by rw [← R.len]; exact (List.getElem?_eq_some_iff.mp hn).1
    obtain ⟨u, e⟩ := (R.obj n p _ hn (List.getElem?_eq_getElem hl)).there
    rw [hp] at e; cases e
  have obH : ∀ {a : Addr} {ob : Ob}, ObR C.K F A C.CA H a ob → ObR C.K (upd F p o) A C.CA (upd H p o) a ob := fun {a ob} x => by
    refine x.mono mF (List.prefix_refl _) ?_
    obtain ⟨u, e⟩ := x.there
    exact upd_ne (ne_of_none e hp)
  refine ⟨fun b u e => ?_, fun b u e => ?_, fun b u e => ?_, R.len, R.sz, R.nd, fun a ha => ⟨?_, (R.free a ha).2⟩, fun n a ob h1 h2 => obH (R.obj n a ob h1 h2), fun i s e => ?_, fun i a h1 h2 => ?_, R.apart⟩
  · by_cases hb : b = p
    · subst hb; rw [upd_same] at e ⊢; exact e
    · rw [upd_ne hb] at e ⊢; exact R.subF b u e
  · by_cases hb : b = p
    · subst hb; rw [nP] at e; cases e
    · rw [upd_ne hb]; exact R.subP b u e
  · by_cases hb : b = p
    · subst hb; exact nP
    · rw [upd_ne hb] at e; exact R.dis b u e
  · rw [upd_ne (show a ≠ p from fun e => nA (e ▸ ha))]; exact (R.free a ha).1
  · have q := R.slot i s e
    cases s with
    | no => trivial
    | im d => obtain ⟨x, e1, r⟩ := q; exact ⟨x, e1, r.mono mF (List.prefix_refl _)⟩
    | ow ob => obtain ⟨a, e1, r⟩ := q; exact ⟨a, e1, obH r⟩
  · obtain ⟨x1, x2, x3⟩ := R.own i a h1 h2
    refine ⟨x1, ?_, x3⟩
    have : a ≠ p := by
      cases hs : Γ[i]? with
      | none => rw [hs] at h1; cases h1
      | some s =>
        rw [hs] at h1
        cases s with
        | no => cases h1
        | im d => cases h1
        | ow ob =>
          obtain ⟨a', e1, r⟩ := R.slot i _ hs
          rw [h2] at e1
          cases e1
          obtain ⟨u, e⟩ := r.there
          exact ne_of_none e hp
    rw [upd_ne this]; exact x2
theorem Ex.lay (R : Rel C P F A S Γ σ H) {p : Addr} (hp : H p = none) (o : HO) : Ex F A (upd F p o) A := by
  refine ⟨fun b u e => ?_, List.prefix_refl _⟩
  have hb : b ≠ p := fun z => by
    have := R.subF b u e
    rw [z, hp] at this; cases this
  rw [upd_ne hb]; exact e
/-- a new thing that is not spoken of -/
theorem Rel.more (R : Rel C P F A S Γ σ H) {p : Addr} (hp : H p = none) (o : HO) : Rel C P F A S Γ σ (upd H p o) := by
  have ne : ∀ b u, H b = some u → b ≠ p := fun b u e => ne_of_none e hp
  have obH : ∀ {a : Addr} {ob : Ob}, ObR C.K F A C.CA H a ob → ObR C.K F A C.CA (upd H p o) a ob := fun {a ob} x => by
    refine x.mono (fun _ _ h => h) (List.prefix_refl _) ?_
    obtain ⟨u, e⟩ := x.there
    exact upd_ne (ne_of_none e hp)
  refine ⟨fun b u e => ?_, fun b u e => ?_, R.dis, R.len, R.sz, R.nd, R.free, fun n a ob h1 h2 => obH (R.obj n a ob h1 h2), fun i s e => ?_, R.own, R.apart⟩
  · rw [upd_ne (ne b u (R.subF b u e))]; exact R.subF b u e
  · rw [upd_ne (ne b u (R.subP b u e))]; exact R.subP b u e
  · have q := R.slot i s e
    cases s with
    | no => trivial
    | im d => exact q
    | ow ob => obtain ⟨a, e1, r⟩ := q; exact ⟨a, e1, obH r⟩
/-- what is to be kept grows by a thing that is not spoken of -/
theorem Rel.hold (R : Rel C P F A S Γ σ H) {p : Addr} {o : HO} (hp : H p = some o) (nF : F p = none) (nA : p ∉ A) (nO : ∀ i : Nat, isOw Γ[i]? = true → σ[i]? ≠ some (some (V.ref p))) : Rel C (upd P p o) F A S Γ σ H := by
  refine ⟨R.subF, fun b u e => ?_, fun b u e => ?_, R.len, R.sz, R.nd, fun a ha => ⟨(R.free a ha).1, ?_⟩, R.obj, R.slot, fun i a h1 h2 => ?_, R.apart⟩
  · by_cases hb : b = p
    · subst hb; rw [upd_same] at e; rw [hp]; exact e
    · rw [upd_ne hb] at e; exact R.subP b u e
  · have hb : b ≠ p := ne_of_none e nF
    rw [upd_ne hb]; exact R.dis b u e
  · rw [upd_ne (show a ≠ p from fun e => nA (e ▸ ha))]; exact (R.free a ha).2
  · obtain ⟨x1, x2, x3⟩ := R.own i a h1 h2
    refine ⟨x1, x2, ?_⟩
    rw [upd_ne (show a ≠ p from fun e => nO i h1 (e ▸ h2))]; exact x3
/-- what is to be kept, less -/
theorem Rel.less {P' : Hp} (R : Rel C P' F A S Γ σ H) (h : ∀ b o, P b = some o → P' b = some o) : Rel C P F A S Γ σ H := by
  have hn : ∀ b, P' b = none → P b = none := fun b e => by
    cases q : P b with
    | none => rfl
    | some o => rw [h b o q] at e; cases e
  exact ⟨R.subF, fun b o e => R.subP b o (h b o e), fun b o e => hn b (R.dis b o e), R.len, R.sz, R.nd, fun a ha => ⟨(R.free a ha).1, hn a (R.free a ha).2⟩, R.obj, R.slot,
    fun i a h1 h2 => let ⟨x1, x2, x3⟩ := R.own i a h1 h2; ⟨x1, x2, hn a x3⟩, R.apart⟩
/-- slots forgotten -/
theorem Rel.forget (R : Rel C P F A S Γ σ H) : Rel C P F A S [] [] H :=
  ⟨R.subF, R.subP, R.dis, R.len, rfl, R.nd, R.free, R.obj, fun i s e => by simp at e, fun i a h => by simp [isOw] at h, fun i j a h => by simp [isOw] at h⟩
/-- a slot takes a value for ever -/
theorem Rel.put (R : Rel C P F A S Γ σ H) (i : Nat) {v : V} {d : D} (r : RD C.K F A v d) : Rel C P F A S (Γ.set i (.im d)) (σ.set i (some v)) H := by
  have low : ∀ j : Nat, isOw (Γ.set i (.im d))[j]? = true → j ≠ i ∧ isOw Γ[j]? = true := fun j h => by
    by_cases e : i = j
    · subst e
      by_cases hi : i < Γ.length
      · rw [List.getElem?_set_self hi] at h; cases h
      · rw [List.getElem?_eq_none (by simpa using hi)] at h; cases h
    · rw [List.getElem?_set_ne e] at h
      exact ⟨fun z => e z.symm, h⟩
  have sg : ∀ {j : Nat}, j ≠ i → (σ.set i (some v))[j]? = σ[j]? := fun {j} h => List.getElem?_set_ne (fun e => h e.symm)
  refine ⟨R.subF, R.subP, R.dis, R.len, by simpa using R.sz, R.nd, R.free, R.obj, fun j s e => ?_, fun j a h1 h2 => ?_, fun j k a h1 h2 h3 h4 => ?_⟩
  · by_cases hj : i = j
    · subst hj
      have hi : i < Γ.length := by
        have := (List.getElem?_eq_some_iff.mp e).1
        simpa using this
      rw [List.getElem?_set_self hi] at e
      cases e
      exact ⟨v, List.getElem?_set_self (by rw [← R.sz]; exact hi), r⟩
    · rw [List.getElem?_set_ne hj] at e
      rw [sg (fun z => hj z.symm)]
      exact R.slot j s e
  · obtain ⟨hj, h1⟩ := low j h1
    rw [sg hj] at h2
    exact R.own j a h1 h2
  · obtain ⟨hj, h1⟩ := low j h1
    obtain ⟨hk, h2⟩ := low k h2
    rw [sg hj] at h3
    rw [sg hk] at h4
    exact R.apart j k a h1 h2 h3 h4
/-- a slot takes an object of its own -/
theorem Rel.putOw (R : Rel C P F A S Γ σ H) (i : Nat) {a : Addr} {o : Ob} (r : ObR C.K F A C.CA H a o) (nA : a ∉ A) (nF : F a = none) (nP : P a = none) (nO : ∀ j : Nat, isOw Γ[j]? = true → σ[j]? ≠ some (some (V.ref a))) :
    Rel C P F A S (Γ.set i (.ow o)) (σ.set i (some (.ref a))) H := by
  have sg : ∀ {j : Nat}, j ≠ i → (σ.set i (some (.ref a)))[j]? = σ[j]? := fun {j} h => List.getElem?_set_ne (fun e => h e.symm)
  have gg : ∀ {j : Nat}, j ≠ i → (Γ.set i (.ow o))[j]? = Γ[j]? := fun {j} h => List.getElem?_set_ne (fun e => h e.symm)
  have ss : i < Γ.length → (σ.set i (some (.ref a)))[i]? = some (some (V.ref a)) := fun h => List.getElem?_set_self (by rw [← R.sz]; exact h)
  have ow : isOw (Γ.set i (.ow o))[i]? = true → i < Γ.length := fun h => by
    by_cases hi : i < Γ.length
    · exact hi
    · rw [List.getElem?_eq_none (by simpa using hi)] at h; cases h
  refine ⟨R.subF, R.subP, R.dis, R.len, by simpa using R.sz, R.nd, R.free, R.obj, fun j s e => ?_, fun j b h1 h2 => ?_, fun j k b h1 h2 h3 h4 => ?_⟩
  · by_cases hj : j = i
    · subst hj
      have hi : j < Γ.length := by
        have := (List.getElem?_eq_some_iff.mp e).1
        simpa using this
      rw [List.getElem?_set_self hi] at e
      cases e
      exact ⟨a, ss hi, r⟩
    · rw [gg hj] at e
      rw [sg hj]
      exact R.slot j s e
  · by_cases hj : j = i
    · subst hj
      rw [ss (ow h1)] at h2
      cases h2
      exact ⟨nA, nF, nP⟩
    · rw [sg hj] at h2; rw [gg hj] at h1
      exact R.own j b h1 h2
  · by_cases hj : j = i
    · by_cases hk : k = i
      · rw [hj, hk]
      · subst hj
        rw [ss (ow h1)] at h3
        cases h3
        rw [gg hk] at h2
        rw [sg hk] at h4
        exact absurd h4 (nO k h2)
    · by_cases hk : k = i
      · subst hk
        rw [ss (ow h2)] at h4
        cases h4
        rw [gg hj] at h1
        rw [sg hj] at h3
        exact absurd h3 (nO j h1)
      · rw [sg hj] at h3; rw [gg hj] at h1
        rw [sg hk] at h4; rw [gg hk] at h2
        exact R.apart j k b h1 h2 h3 h4
/-- an object that nothing speaks of may change -/
theorem Rel.poke (R : Rel C P F A S Γ σ H) {p : Addr} (o : HO) (nA : p ∉ A) (nF : F p = none) (nP : P p = none) (nO : ∀ j : Nat, isOw Γ[j]? = true → σ[j]? ≠ some (some (V.ref p))) : Rel C P F A S Γ σ (upd H p o) := by
  refine ⟨fun b u e => ?_, fun b u e => ?_, R.dis, R.len, R.sz, R.nd, R.free, fun n a ob h1 h2 => ?_, fun i s e => ?_, R.own, R.apart⟩
  · rw [upd_ne (ne_of_none e nF)]; exact R.subF b u e
  · rw [upd_ne (ne_of_none e nP)]; exact R.subP b u e
  · refine (R.obj n a ob h1 h2).mono (fun _ _ h => h) (List.prefix_refl _) (upd_ne ?_)
    exact fun z => nA (z ▸ List.mem_of_getElem? h1)
  · have q := R.slot i s e
    cases s with
    | no => trivial
    | im d => exact q
    | ow ob =>
      obtain ⟨a, e1, r⟩ := q
      refine ⟨a, e1, r.mono (fun _ _ h => h) (List.prefix_refl _) (upd_ne ?_)⟩
      exact fun z => nO i (by rw [e]; rfl) (z ▸ e1)
/-- an object that nothing else speaks of stands still from now on -/
theorem Rel.freeze (R : Rel C P F A S Γ σ H) {p : Addr} {o : HO} (hp : H p = some o) (nA : p ∉ A) (nF : F p = none) (nP : P p = none) (nO : ∀ j : Nat, isOw Γ[j]? = true → σ[j]? ≠ some (some (V.ref p))) : Rel C P (upd F p o) A S Γ σ H := by
  have mF : ∀ b u, F b = some u → upd F p o b = some u := fun b u e => by
    rw [upd_ne (ne_of_none e nF)]; exact e
  refine ⟨fun b u e => ?_, R.subP, fun b u e => ?_, R.len, R.sz, R.nd, fun a ha => ⟨?_, (R.free a ha).2⟩, fun n a ob h1 h2 => (R.obj n a ob h1 h2).mono mF (List.prefix_refl _) rfl, fun i s e => ?_, fun i a h1 h2 => ?_, R.apart⟩
  · by_cases hb : b = p
    · subst hb; rw [upd_same] at e; rw [hp]; exact e
    · rw [upd_ne hb] at e; exact R.subF b u e
  · by_cases hb : b = p
    · subst hb; exact nP
    · rw [upd_ne hb] at e; exact R.dis b u e
  · rw [upd_ne (show a ≠ p from fun e => nA (e ▸ ha))]; exact (R.free a ha).1
  · have q := R.slot i s e
    cases s with
    | no => trivial
    | im d => obtain ⟨x, e1, r⟩ := q; exact ⟨x, e1, r.mono mF (List.prefix_refl _)⟩
    | ow ob => obtain ⟨a, e1, r⟩ := q; exact ⟨a, e1, r.mono mF (List.prefix_refl _) rfl⟩
  · obtain ⟨x1, x2, x3⟩ := R.own i a h1 h2
    refine ⟨x1, ?_, x3⟩
    rw [upd_ne (show a ≠ p from fun e => nO i h1 (e ▸ h2))]; exact x2
theorem Ex.freeze {p : Addr} {o : HO} (nF : F p = none) : Ex F A (upd F p o) A := ⟨fun b u e => by rw [upd_ne (ne_of_none e nF)]; exact e, List.prefix_refl _⟩
end
end J
/-! J2: judgements and rules for expressions. -/
namespace J
open PySem PySem.Spec PyProof.Rows L2

abbrev Me := Env → Sto → Option (D × Sto)
abbrev Mt := Env → Sto → Option (Bool × Sto)
abbrev Ma := Env → Sto → Option (List D × Sto)
/-- what a reading asks: the state is as told, the meaning f gives d; what follows holds for all that stand for d -/
def Gx (C : Stc) {α β : Type} (R : Hp → List Addr → β → α → Prop) (f : Env → Sto → Option (α × Sto)) : L2.St → Hp → (β → Hp → Prop) → Prop := fun σ H Q =>
  ∃ P F A S Γ d S', Rel C P F A S Γ σ H ∧ f Γ S = some (d, S') ∧ ∀ v F' A' H', Rel C P F' A' S' Γ σ H' → Ex F A F' A' → R F' A' v d → Q v H'
abbrev cx (CA : Str → Addr) (X : Cx) : Stc := ⟨X.K, CA⟩
abbrev tBool : Hp → List Addr → Bool → Bool → Prop := fun _ _ b c => b = c
def JE (CA : Str → Addr) (X : Cx) (e : Expr) (f : Me) : Prop := PE X e (Gx (cx CA X) (RD X.K) f)
def JT (CA : Str → Addr) (X : Cx) (e : Expr) (f : Mt) : Prop := PT X e (Gx (cx CA X) tBool f)
def JW (CA : Str → Addr) (X : Cx) (e : Expr) (f : Mt) : Prop := PW X e (Gx (cx CA X) tBool f)
def JA (CA : Str → Addr) (X : Cx) (es : List Expr) (f : Ma) : Prop := PA X es (Gx (cx CA X) (RDs X.K) f)
section
variable {CA : Str → Addr} {X : Cx} {e : Expr} {es : List Expr}
theorem peI {t t' : TE} (h : PE X e t) (w : ∀ σ H Q, t' σ H Q → t σ H Q) : PE X e t' := ⟨fun pins s σ H Q I hq => h.run pins s σ H Q I (w σ H Q hq)⟩
theorem ptI {t t' : TT} (h : PT X e t) (w : ∀ σ H Q, t' σ H Q → t σ H Q) : PT X e t' := ⟨fun pins s σ H Q I hq => h.run pins s σ H Q I (w σ H Q hq)⟩
theorem pwI {t t' : TT} (h : PW X e t) (w : ∀ σ H Q, t' σ H Q → t σ H Q) : PW X e t' := ⟨fun wh pins s σ H Q I hq => h.run wh pins s σ H Q I (w σ H Q hq)⟩
theorem paI {t t' : TA} (h : PA X es t) (w : ∀ σ H Q, t' σ H Q → t σ H Q) : PA X es t' := ⟨fun pos pins s σ H Q I hq => h.run pos pins s σ H Q I (w σ H Q hq)⟩
end

/-! ### meanings -/
def eC (d : D) : Me := fun _ S => some (d, S)
def eV (i : Nat) : Me := fun Γ S => match Γ[i]? with
  | some (.im d) => some (d, S)
  | _ => none
def eB (g : D → D → Option D) (a b : Me) : Me := fun Γ S => (a Γ S).bind fun r => (b Γ r.2).bind fun q => (g r.1 q.1).map fun z => (z, q.2)
def eU (g : D → Option D) (a : Me) : Me := fun Γ S => (a Γ S).bind fun r => (g r.1).map fun z => (z, r.2)
def eF (g : List D → Option D) (a : Ma) : Me := fun Γ S => (a Γ S).bind fun r => (g r.1).map fun z => (z, r.2)
def tV (g : D → Option Bool) (a : Me) : Mt := fun Γ S => (a Γ S).bind fun r => (g r.1).map fun z => (z, r.2)
def aN : Ma := fun _ S => some ([], S)
def aC (a : Me) (r : Ma) : Ma := fun Γ S => (a Γ S).bind fun x => (r Γ x.2).map fun y => (x.1 :: y.1, y.2)
def tAnd (a b : Mt) : Mt := fun Γ S => (a Γ S).bind fun r => if r.1 = true then b Γ r.2 else some (false, r.2)
def tOr (a b : Mt) : Mt := fun Γ S => (a Γ S).bind fun r => if r.1 = true then some (true, r.2) else b Γ r.2
def tNot (a : Mt) : Mt := fun Γ S => (a Γ S).map fun r => (!r.1, r.2)
def eIf (c : Mt) (a b : Me) : Me := fun Γ S => (c Γ S).bind fun r => if r.1 = true then a Γ r.2 else b Γ r.2
def gB : D → Option Bool
  | .bl b => some b
  | _ => none
def gTru : D → Option Bool
  | .non => some false
  | .bl b => some b
  | .int i => some (i != 0)
  | .str x => if x.length ≤ 16777216 then some (x.length != 0) else none
  | .tup xs => some (!xs.isEmpty)
  | .lst xs => some (!xs.isEmpty)
  | .fz xs => some (!xs.isEmpty)
  | .ref _ => none
/-- and, or as values, by truth -/
def eAnd (a b : Me) : Me := fun Γ S => (a Γ S).bind fun r => (gTru r.1).bind fun k => if k = true then b Γ r.2 else some r
def eOr (a b : Me) : Me := fun Γ S => (a Γ S).bind fun r => (gTru r.1).bind fun k => if k = true then some r else b Γ r.2

section
variable {CA : Str → Addr} {X : Cx} {e a b c : Expr} {es rest : List Expr} {f fa fb : Me} {pos : Pos}
theorem gx_bind {C : Stc} {α β : Type} {R : Hp → List Addr → β → α → Prop} {f : Env → Sto → Option (α × Sto)} {γ : Type} {k : α × Sto → Option γ} {Γ : Env} {S : Sto} {z : γ} (h : (f Γ S).bind k = some z) : ∃ d S1, f Γ S = some (d, S1) ∧ k (d, S1) = some z := by
  cases e : f Γ S with
  | none => rw [e] at h; cases h
  | some r => rw [e] at h; exact ⟨r.1, r.2, rfl, h⟩
theorem obind {α γ : Type} {o : Option (α × Sto)} {k : α × Sto → Option γ} {z : γ} (h : o.bind k = some z) : ∃ d S1, o = some (d, S1) ∧ k (d, S1) = some z := by
  cases e : o with
  | none => rw [e] at h; cases h
  | some r => rw [e] at h; exact ⟨r.1, r.2, rfl, h⟩
theorem omap {α γ : Type} {o : Option α} {k : α → γ} {z : γ} (h : o.map k = some z) : ∃ d, o = some d ∧ k d = z := by
  cases e : o with
  | none => rw [e] at h; cases h
  | some r => rw [e] at h; exact ⟨r, rfl, Option.some.inj h⟩

theorem je_int {i : Int} {j pos} : JE CA X (.Constant (.int i) j pos) (eC (.int i)) := peI pe_int fun σ H Q ⟨P, F, A, S, Γ, d, S', R, h, q⟩ => by
  cases h
  exact q _ F A H R Ex.refl (.int i)
theorem je_bl {b j pos} : JE CA X (.Constant (.bool b) j pos) (eC (.bl b)) := peI pe_bl fun σ H Q ⟨P, F, A, S, Γ, d, S', R, h, q⟩ => by
  cases h
  exact q _ F A H R Ex.refl (.bl b)
theorem je_non {j pos} : JE CA X (.Constant .none j pos) (eC .non) := peI pe_non fun σ H Q ⟨P, F, A, S, Γ, d, S', R, h, q⟩ => by
  cases h
  exact q _ F A H R Ex.refl .non
theorem je_str {x j pos} : JE CA X (.Constant (.str x) j pos) (eC (.str x)) := peI pe_str fun σ H Q ⟨P, F, A, S, Γ, d, S', R, h, q⟩ => by
  cases h
  exact q _ F A H R Ex.refl (.str x)
/-- the name in slot i -/
theorem je_v (i : Nat) {x : Str} {pos : Pos} (hN : X.N[i]? = some x := by rfl) (hv : Vis X.env.scope x := by first | exact Or.inl rfl | exact Or.inr (Or.inl rfl) | exact Or.inr (Or.inr rfl)) (hd : (x == ("__debug__" : Str)) = false := by decide)
    (hcd : (x == ("__classdict__" : Str)) = false := by decide) : JE CA X (.Name x pos) (eV i) := peI (pe_var hN hv hd hcd) fun σ H Q ⟨P, F, A, S, Γ, d, S', R, h, q⟩ => by
  unfold eV at h
  split at h
  · next d' e =>
    cases h
    obtain ⟨x, e1, r⟩ := R.slot i _ e
    exact ⟨x, e1, q x F A H R Ex.refl r⟩
  · cases h
/-- a constant of the module: an int or a text -/
theorem je_glob {x : Str} {v : V} {d : D} {u : Value} {pos : Pos} (hg : Gl X x) (hm : X.mg x = some u) (r : RelV v u) (rd : ∀ F A, RD X.K F A v d) (hd : (x == ("__debug__" : Str)) = false := by decide) : JE CA X (.Name x pos) (eC d) :=
  peI (pe_glob hg hm r hd) fun σ H Q ⟨P, F, A, S, Γ, d, S', R, h, q⟩ => by
  cases h
  exact q _ F A H R Ex.refl (rd F A)

/-- an operator on two values -/
def Op2 (C : Stc) (r : R2) (g : D → D → Option D) : Prop := ∀ P F A S Γ σ H x y d e z, Rel C P F A S Γ σ H → RD C.K F A x d → RD C.K F A y e → g d e = some z →
  ∀ Q : VK, (∀ v F' A' H', Rel C P F' A' S Γ σ H' → Ex F A F' A' → RD C.K F' A' v z → Q v H') → r x y H Q
theorem gx_op {t : TE} {ta tb : TE} {r : R2} {g : D → D → Option D} (ho : Op2 (cx CA X) r g) (σ : L2.St) (H : Hp) (Q : VK) (h : Gx (cx CA X) (RD X.K) (eB g fa fb) σ H Q) :
    tOp r (Gx (cx CA X) (RD X.K) fa) (Gx (cx CA X) (RD X.K) fb) σ H Q := by
  obtain ⟨P, F, A, S, Γ, d, S', R, h, q⟩ := h
  obtain ⟨d1, S1, h1, h⟩ := obind h
  obtain ⟨d2, S2, h2, h⟩ := obind h
  obtain ⟨z, h3, h⟩ := omap h
  cases h
  refine ⟨P, F, A, S, Γ, d1, S1, R, h1, fun v F1 A1 H1 R1 E1 r1 => ⟨P, F1, A1, S1, Γ, d2, S2, R1, h2, fun u F2 A2 H2 R2 E2 r2 => ?_⟩⟩
  exact ho P F2 A2 S2 Γ σ H2 v u d1 d2 _ R2 (r1.ex E2) r2 h3 Q fun v F' A' H' R' E' r' => q v F' A' H' R' (E1.trans (E2.trans E')) r'
theorem je_op {op : Operator} {r : R2} {g : D → D → Option D} (h : OpR X (binaryOp op) r) (ho : Op2 (cx CA X) r g) (ha : JE CA X a fa) (hb : JE CA X b fb) : JE CA X (.BinOp a op b pos) (eB g fa fb) :=
  peI (pe_op h ha hb) fun σ H Q q => gx_op (t := fun _ _ _ => True) (ta := fun _ _ _ => True) (tb := fun _ _ _ => True) ho σ H Q q
theorem je_cmp {op : CmpOp} {r : R2} {g : D → D → Option D} (h : OpR X (compareOp op) r) (ho : Op2 (cx CA X) r g) (ha : JE CA X a fa) (hb : JE CA X b fb) (hm : behindInMarks op b = false) : JE CA X (.Compare a [op] [b] pos) (eB g fa fb) :=
  peI (pe_cmpR h ha hb hm) fun σ H Q q => gx_op (t := fun _ _ _ => True) (ta := fun _ _ _ => True) (tb := fun _ _ _ => True) ho σ H Q q
theorem gx_bool {f : Me} {σ : L2.St} {H : Hp} {Q : Bool → Hp → Prop} (h : Gx (cx CA X) tBool (tV gB f) σ H Q) : Gx (cx CA X) (RD X.K) f σ H fun x H' => ∃ k, x = .bl k ∧ Q k H' := by
  obtain ⟨P, F, A, S, Γ, d, S', R, h, q⟩ := h
  obtain ⟨d1, S1, h1, h⟩ := obind h
  obtain ⟨z, h2, h⟩ := omap h
  cases h
  refine ⟨P, F, A, S, Γ, d1, S1, R, h1, fun v F1 A1 H1 R1 E1 r1 => ?_⟩
  cases d1 with
  | bl b => cases h2; cases r1; exact ⟨_, rfl, q _ F1 A1 H1 R1 E1 rfl⟩
  | _ => cases h2
theorem jt_cmp {op : CmpOp} {r : R2} {g : D → D → Option D} (h : OpR X (compareOp op) r) (ho : Op2 (cx CA X) r g) (ha : JE CA X a fa) (hb : JE CA X b fb) (hm : behindInMarks op b = false) : JT CA X (.Compare a [op] [b] pos) (tV gB (eB g fa fb)) :=
  ptI (pt_cmpR h ha hb hm) fun σ H Q q => by
    have q := gx_bool q
    exact gx_op (t := fun _ _ _ => True) (ta := fun _ _ _ => True) (tb := fun _ _ _ => True) ho σ H _ q
theorem tru_of {C : Stc} {P F : Hp} {A : List Addr} {S : Sto} {Γ : Env} {σ : L2.St} {H : Hp} {x : V} {d : D} {k : Bool} (R : Rel C P F A S Γ σ H) (r : RD C.K F A x d) (h : gTru d = some k) : TruV C.K x H k := by
  have ie : ∀ {vs : List V} {ds : List D}, RDs C.K F A vs ds → (!vs.isEmpty) = !ds.isEmpty := fun {vs ds} q => by cases q <;> rfl
  cases r with
  | non => cases h; rfl
  | bl b => cases h; rfl
  | int i => cases h; rfl
  | str y =>
    simp only [gTru] at h
    split at h
    · next hy =>
      cases h
      refine ⟨by rw [sizeLine_eq]; exact hy, ?_⟩
      rw [Bool.eq_iff_iff]
      simp only [bne_iff_ne, ne_eq]
      omega
    · cases h
  | tup s q => cases h; exact .inr (.inl ⟨_, seqT_mono R.subF s, (ie q).symm⟩)
  | lst s q => cases h; exact .inl ⟨_, .inl (.inl (R.subF _ _ s)), (ie q).symm⟩
  | fz s q => cases h; exact .inl ⟨_, seqL_mono R.subF s, (ie q).symm⟩
  | ref q => cases h
theorem jt_tru {f : Me} (ha : JE CA X a f) (he : ∀ whole, isTrue a X.env whole = (do let v ← whole; standAt a.pos; holding [v] (truthy v)) := by intro _; rfl) : JT CA X a (tV gTru f) :=
  ptI (pt_truth ha he) fun σ H Q ⟨P, F, A, S, Γ, d, S', R, h, q⟩ => by
    obtain ⟨d1, S1, h1, h⟩ := obind h
    obtain ⟨z, h2, h⟩ := omap h
    cases h
    exact ⟨P, F, A, S, Γ, d1, S1, R, h1, fun v F1 A1 H1 R1 E1 r1 => ⟨_, tru_of R1 r1 h2, q _ F1 A1 H1 R1 E1 rfl⟩⟩
theorem jw_and1 {t : Mt} (ha : JT CA X a t) : JW CA X (.BoolOp .And [a] pos) t := pw_and1 ha
theorem jw_or1 {t : Mt} (ha : JT CA X a t) : JW CA X (.BoolOp .Or [a] pos) t := pw_or1 ha
theorem jw_and {t u : Mt} (ha : JT CA X a t) (hb : JW CA X (.BoolOp .And (b :: rest) pos) u) : JW CA X (.BoolOp .And (a :: b :: rest) pos) (tAnd t u) :=
  pwI (pw_and ha hb) fun σ H Q ⟨P, F, A, S, Γ, d, S', R, h, q⟩ => by
    obtain ⟨d1, S1, h1, h⟩ := obind h
    refine ⟨P, F, A, S, Γ, d1, S1, R, h1, fun v F1 A1 H1 R1 E1 r1 => ?_⟩
    cases r1
    by_cases hc : d1 = true
    · rw [if_pos hc]
      simp only [hc, if_true] at h
      exact ⟨P, F1, A1, S1, Γ, d, S', R1, h, fun u F2 A2 H2 R2 E2 r2 => q u F2 A2 H2 R2 (E1.trans E2) r2⟩
    · rw [if_neg hc]
      simp only [hc, if_false] at h
      cases h
      exact q _ F1 A1 H1 R1 E1 rfl
theorem jw_or {t u : Mt} (ha : JT CA X a t) (hb : JW CA X (.BoolOp .Or (b :: rest) pos) u) : JW CA X (.BoolOp .Or (a :: b :: rest) pos) (tOr t u) :=
  pwI (pw_or ha hb) fun σ H Q ⟨P, F, A, S, Γ, d, S', R, h, q⟩ => by
    obtain ⟨d1, S1, h1, h⟩ := obind h
    refine ⟨P, F, A, S, Γ, d1, S1, R, h1, fun v F1 A1 H1 R1 E1 r1 => ?_⟩
    cases r1
    by_cases hc : d1 = true
    · rw [if_pos hc]
      simp only [hc, if_true] at h
      cases h
      exact q _ F1 A1 H1 R1 E1 rfl
    · rw [if_neg hc]
      simp only [hc, if_false] at h
      exact ⟨P, F1, A1, S1, Γ, d, S', R1, h, fun u F2 A2 H2 R2 E2 r2 => q u F2 A2 H2 R2 (E1.trans E2) r2⟩
theorem jt_w {t : Mt} (h : JW CA X a t) : JT CA X a t := PW.pt h
theorem jt_not {t : Mt} (ha : JT CA X a t) : JT CA X (.UnaryOp .Not a pos) (tNot t) :=
  ptI (pt_not ha) fun σ H Q ⟨P, F, A, S, Γ, d, S', R, h, q⟩ => by
    obtain ⟨⟨d1, S1⟩, h1, h⟩ := omap h
    cases h
    exact ⟨P, F, A, S, Γ, d1, S1, R, h1, fun v F1 A1 H1 R1 E1 r1 => q _ F1 A1 H1 R1 E1 (by cases r1; rfl)⟩
theorem je_if {t : Mt} (hc : JT CA X c t) (ha : JE CA X a fa) (hb : JE CA X b fb) : JE CA X (.IfExp c a b pos) (eIf t fa fb) :=
  peI (pe_ifExp hc ha hb) fun σ H Q ⟨P, F, A, S, Γ, d, S', R, h, q⟩ => by
    obtain ⟨d1, S1, h1, h⟩ := obind h
    refine ⟨P, F, A, S, Γ, d1, S1, R, h1, fun v F1 A1 H1 R1 E1 r1 => ?_⟩
    cases r1
    by_cases hk : d1 = true
    · rw [if_pos hk]
      simp only [hk, if_true] at h
      exact ⟨P, F1, A1, S1, Γ, d, S', R1, h, fun u F2 A2 H2 R2 E2 r2 => q u F2 A2 H2 R2 (E1.trans E2) r2⟩
    · rw [if_neg hk]
      simp only [hk, if_false] at h
      exact ⟨P, F1, A1, S1, Γ, d, S', R1, h, fun u F2 A2 H2 R2 E2 r2 => q u F2 A2 H2 R2 (E1.trans E2) r2⟩
theorem je_one {op} (h : JE CA X a fa) : JE CA X (.BoolOp op [a] pos) fa := pe_one h
theorem je_and (ha : JE CA X a fa) (hb : JE CA X (.BoolOp .And (b :: rest) pos) fb) : JE CA X (.BoolOp .And (a :: b :: rest) pos) (eAnd fa fb) :=
  peI (pe_andT ha hb) fun σ H Q ⟨P, F, A, S, Γ, d, S', R, h, q⟩ => by
    obtain ⟨d1, S1, h1, h⟩ := obind h
    refine ⟨P, F, A, S, Γ, d1, S1, R, h1, fun v F1 A1 H1 R1 E1 r1 => ?_⟩
    cases hk : gTru d1 with
    | none => simp only [hk] at h; cases h
    | some k =>
      refine ⟨k, tru_of R1 r1 hk, ?_⟩
      simp only [hk, Option.bind_some] at h
      by_cases hc : k = true
      · rw [if_pos hc] at h ⊢
        exact ⟨P, F1, A1, S1, Γ, d, S', R1, h, fun u F2 A2 H2 R2 E2 r2 => q u F2 A2 H2 R2 (E1.trans E2) r2⟩
      · rw [if_neg hc] at h ⊢
        cases h
        exact q v F1 A1 H1 R1 E1 r1
theorem je_or (ha : JE CA X a fa) (hb : JE CA X (.BoolOp .Or (b :: rest) pos) fb) : JE CA X (.BoolOp .Or (a :: b :: rest) pos) (eOr fa fb) :=
  peI (pe_orT ha hb) fun σ H Q ⟨P, F, A, S, Γ, d, S', R, h, q⟩ => by
    obtain ⟨d1, S1, h1, h⟩ := obind h
    refine ⟨P, F, A, S, Γ, d1, S1, R, h1, fun v F1 A1 H1 R1 E1 r1 => ?_⟩
    cases hk : gTru d1 with
    | none => simp only [hk] at h; cases h
    | some k =>
      refine ⟨k, tru_of R1 r1 hk, ?_⟩
      simp only [hk, Option.bind_some] at h
      by_cases hc : k = true
      · rw [if_pos hc] at h ⊢
        cases h
        exact q v F1 A1 H1 R1 E1 r1
      · rw [if_neg hc] at h ⊢
        exact ⟨P, F1, A1, S1, Γ, d, S', R1, h, fun u F2 A2 H2 R2 E2 r2 => q u F2 A2 H2 R2 (E1.trans E2) r2⟩
theorem je_not (ha : JE CA X a fa) : JE CA X (.UnaryOp .Not a pos) (eU (fun d => (gTru d).map fun k => .bl (!k)) fa) :=
  peI (pe_notT ha) fun σ H Q ⟨P, F, A, S, Γ, d, S', R, h, q⟩ => by
    obtain ⟨d1, S1, h1, h⟩ := obind h
    obtain ⟨z, h2, h⟩ := omap h
    obtain ⟨k, h3, h2⟩ := omap h2
    cases h
    cases h2
    exact ⟨P, F, A, S, Γ, d1, S1, R, h1, fun v F1 A1 H1 R1 E1 r1 => ⟨k, tru_of R1 r1 h3, q _ F1 A1 H1 R1 E1 (.bl _)⟩⟩

theorem ja_nil : JA CA X [] aN := paI pa_nil fun σ H Q ⟨P, F, A, S, Γ, d, S', R, h, q⟩ => by
  cases h
  exact q [] F A H R Ex.refl .nil
theorem ja_cons {r : Ma} (ha : JE CA X e f) (hr : JA CA X es r) (hs : starEach (e :: es) X.env = (false, eval e X.env) :: starEach es X.env := by rfl) : JA CA X (e :: es) (aC f r) :=
  paI (pa_cons ha hr hs) fun σ H Q ⟨P, F, A, S, Γ, d, S', R, h, q⟩ => by
    obtain ⟨d1, S1, h1, h⟩ := obind h
    obtain ⟨⟨ds, S2⟩, h2, h⟩ := omap h
    cases h
    exact ⟨P, F, A, S, Γ, d1, S1, R, h1, fun v F1 A1 H1 R1 E1 r1 => ⟨P, F1, A1, S1, Γ, ds, S2, R1, h2, fun vs F2 A2 H2 R2 E2 r2 => q (v :: vs) F2 A2 H2 R2 (E1.trans E2) (.cons (r1.ex E2) r2)⟩⟩
def gTup : List D → Option D := fun ds => if ds.length ≤ 16777216 then some (.tup ds) else none
def gLst : List D → Option D := fun ds => if ds.length ≤ 16777216 then some (.lst ds) else none
theorem je_tup {r : Ma} {x1} (h : JA CA X es r) : JE CA X (.Tuple es x1 pos) (eF gTup r) :=
  peI (pe_tup h) fun σ H Q ⟨P, F, A, S, Γ, d, S', R, h, q⟩ => by
    obtain ⟨ds, S1, h1, h⟩ := obind h
    obtain ⟨z, h2, h⟩ := omap h
    cases h
    refine ⟨P, F, A, S, Γ, ds, S1, R, h1, fun vs F1 A1 H1 R1 E1 r1 => ?_⟩
    unfold gTup at h2
    split at h2
    · next hl =>
      cases h2
      refine ⟨by rw [r1.length, sizeLine_eq]; exact hl, fun p hp => ?_⟩
      exact q _ _ _ _ (R1.lay hp _) (E1.trans (Ex.lay R1 hp _)) (.tup (.inl (.inl upd_same)) (r1.ex (Ex.lay R1 hp _)))
    · cases h2
theorem je_lst {r : Ma} (h : JA CA X es r) : JE CA X (.List es pos) (eF gLst r) :=
  peI (pe_lst h) fun σ H Q ⟨P, F, A, S, Γ, d, S', R, h, q⟩ => by
    obtain ⟨ds, S1, h1, h⟩ := obind h
    obtain ⟨z, h2, h⟩ := omap h
    cases h
    refine ⟨P, F, A, S, Γ, ds, S1, R, h1, fun vs F1 A1 H1 R1 E1 r1 => ?_⟩
    unfold gLst at h2
    split at h2
    · next hl =>
      cases h2
      refine ⟨by rw [r1.length, sizeLine_eq]; exact hl, fun p hp => ?_⟩
      exact q _ _ _ _ (R1.lay hp _) (E1.trans (Ex.lay R1 hp _)) (.lst upd_same (r1.ex (Ex.lay R1 hp _)))
    · cases h2
/-- a built-in function by values -/
def Fn1 (C : Stc) (r : List V → Hp → VK → Prop) (g : List D → Option D) : Prop := ∀ P F A S Γ σ H xs ds z, Rel C P F A S Γ σ H → RDs C.K F A xs ds → g ds = some z →
  ∀ Q : VK, (∀ v F' A' H', Rel C P F' A' S Γ σ H' → Ex F A F' A' → RD C.K F' A' v z → Q v H') → r xs H Q
theorem gx_fn {r : List V → Hp → VK → Prop} {g : List D → Option D} {fs : Ma} (ho : Fn1 (cx CA X) r g) (σ : L2.St) (H : Hp) (Q : VK) (h : Gx (cx CA X) (RD X.K) (eF g fs) σ H Q) : tCB r (Gx (cx CA X) (RDs X.K) fs) σ H Q := by
  obtain ⟨P, F, A, S, Γ, d, S', R, h, q⟩ := h
  obtain ⟨ds, S1, h1, h⟩ := obind h
  obtain ⟨z, h2, h⟩ := omap h
  cases h
  refine ⟨P, F, A, S, Γ, ds, S1, R, h1, fun vs F1 A1 H1 R1 E1 r1 => ?_⟩
  exact ho P F1 A1 S1 Γ σ H1 vs ds _ R1 r1 h2 Q fun v F' A' H' R' E' r' => q v F' A' H' R' (E1.trans E') r'
theorem je_callB {x : Str} {p : Pos} {id : String} {r : List V → Hp → VK → Prop} {g : List D → Option D} {fs : Ma} (hc : CallR X (.builtin id) r) (ho : Fn1 (cx CA X) r g) (hg : Gl X x) (hm : X.mg x = none) (hv : bootBuiltins x = some (.builtin id)) (ha : JA CA X (e :: es) fs) (hn : x ≠ "__name__" := by decide) (hdb : (x == ("__debug__" : Str)) = false := by decide)
    (he : starEach (e :: es) X.env = (false, eval e X.env) :: starEach es X.env := by rfl) (hpl : (backTo pos (starEach es X.env)).any (·.1) = false := by rfl) : JE CA X (.Call (.Name x p) (e :: es) [] pos) (eF g fs) :=
  peI (pe_callB hc hg hm hv ha hn hdb he hpl) fun σ H Q q => gx_fn ho σ H Q q
theorem je_callTy {x : Str} {p : Pos} {T : String} {r : List V → Hp → VK → Prop} {g : List D → Option D} {fs : Ma} (hc : CallR X (.type T) r) (ho : Fn1 (cx CA X) r g) (hg : Gl X x) (hm : X.mg x = none) (hv : bootBuiltins x = some (.type T)) (ha : JA CA X (e :: es) fs) (hn : x ≠ "__name__" := by decide) (hdb : (x == ("__debug__" : Str)) = false := by decide)
    (he : starEach (e :: es) X.env = (false, eval e X.env) :: starEach es X.env := by rfl) (hpl : (backTo pos (starEach es X.env)).any (·.1) = false := by rfl) : JE CA X (.Call (.Name x p) (e :: es) [] pos) (eF g fs) :=
  peI (pe_callTy hc hg hm hv ha hn hdb he hpl) fun σ H Q q => gx_fn ho σ H Q q
/-- a[b] by values -/
theorem je_ix {r : R2} {g : D → D → Option D} (hr : IxR X r) (ho : Op2 (cx CA X) r g) (ha : JE CA X a fa) (hb : JE CA X b fb) (hs : PlainIx b := by exact fun _ _ => rfl) : JE CA X (.Subscript a b pos) (eB g fa fb) :=
  peI (pe_ix hr ha hb hs) fun σ H Q q => gx_op (t := fun _ _ _ => True) (ta := fun _ _ _ => True) (tb := fun _ _ _ => True) ho σ H Q q
/-- -a, ~a -/
def Un1 (C : Stc) (r : V → Hp → VK → Prop) (g : D → Option D) : Prop := ∀ P F A S Γ σ H x d z, Rel C P F A S Γ σ H → RD C.K F A x d → g d = some z →
  ∀ Q : VK, (∀ v F' A' H', Rel C P F' A' S Γ σ H' → Ex F A F' A' → RD C.K F' A' v z → Q v H') → r x H Q
theorem je_un {op : UnaryOp} {r : V → Hp → VK → Prop} {g : D → Option D} (h : UnR X (unaryOp op) r) (ho : Un1 (cx CA X) r g) (ha : JE CA X a fa) : JE CA X (.UnaryOp op a pos) (eU g fa) :=
  peI (pe_un h ha) fun σ H Q ⟨P, F, A, S, Γ, d, S', R, h, q⟩ => by
    obtain ⟨d1, S1, h1, h⟩ := obind h
    obtain ⟨z, h2, h⟩ := omap h
    cases h
    exact ⟨P, F, A, S, Γ, d1, S1, R, h1, fun v F1 A1 H1 R1 E1 r1 => ho P F1 A1 S1 Γ σ H1 v d1 _ R1 r1 h2 Q fun v F' A' H' R' E' r' => q v F' A' H' R' (E1.trans E') r'⟩
end

/-! ### two comparisons in a row -/
def eChain (g g' : D → D → Option D) (a b c : Me) : Me := fun Γ S => (a Γ S).bind fun x => (b Γ x.2).bind fun y => (g x.1 y.1).bind fun k => match k with
  | .bl true => (c Γ y.2).bind fun z => (g' y.1 z.1).map fun w => (w, z.2)
  | .bl false => some (.bl false, y.2)
  | _ => none
end J
/-! J3: operators, equality, in, subscripts, slices, built-in functions by values. -/
namespace J
open PySem PySem.Spec PyProof.Rows L2

/-! ### data as PyData, equality -/
mutual
def py : D → PyData
  | .non => .none
  | .bl b => .bool b
  | .int i => .int i
  | .str x => .str x
  | .tup xs => .tuple (pys xs)
  | .lst xs => .list (pys xs)
  | .fz xs => .list (pys xs)
  | .ref _ => .none
def pys : List D → List PyData
  | [] => []
  | d :: ds => py d :: pys ds
end
def all2 {α : Type} (f : α → α → Bool) : List α → List α → Bool
  | [], [] => true
  | x :: xs, y :: ys => f x y && all2 f xs ys
  | [], _ :: _ => false
  | _ :: _, [] => false
/-- d == e, to a depth -/
def D.eq : Nat → D → D → Bool
  | _, .non, .non => true
  | _, .bl a, .bl b => a == b
  | _, .bl a, .int j => (if a then 1 else 0) == j
  | _, .int i, .bl b => i == (if b then 1 else 0)
  | _, .int i, .int j => i == j
  | _, .str x, .str y => x == y
  | n + 1, .tup xs, .tup ys => all2 (D.eq n) xs ys
  | n + 1, .lst xs, .lst ys => all2 (D.eq n) xs ys
  | _, _, _ => false
/-- plain data of at most that depth -/
def D.fl : Nat → D → Bool
  | _, .non => true
  | _, .bl _ => true
  | _, .int _ => true
  | _, .str _ => true
  | n + 1, .tup xs => xs.all (D.fl n)
  | n + 1, .lst xs => xs.all (D.fl n)
  | _, _ => false

theorem eqvAll_all2 {n : Nat} (ih : ∀ d e, D.fl n d = true → D.fl n e = true → PyData.eqv (py d) (py e) = D.eq n d e) : ∀ xs ys : List D, xs.all (D.fl n) = true → ys.all (D.fl n) = true → PyData.eqvAll (pys xs) (pys ys) = all2 (D.eq n) xs ys
  | [], [], _, _ => rfl
  | [], _ :: _, _, _ => rfl
  | _ :: _, [], _, _ => rfl
  | x :: xs, y :: ys, h, k => by
    simp only [List.all_cons, Bool.and_eq_true] at h k
    show (PyData.eqv (py x) (py y) && PyData.eqvAll (pys xs) (pys ys)) = (D.eq n x y && all2 (D.eq n) xs ys)
    rw [ih x y h.1 k.1, eqvAll_all2 ih xs ys h.2 k.2]
theorem eqv_py : ∀ (n : Nat) (d e : D), D.fl n d = true → D.fl n e = true → PyData.eqv (py d) (py e) = D.eq n d e
  | 0, d, e, h, k => by cases d <;> cases e <;> first | rfl | (simp [D.fl] at h; done) | (simp [D.fl] at k; done)
  | n + 1, d, e, h, k => by
    cases d <;> cases e <;> first
      | rfl
      | (simp [D.fl] at h; done)
      | (simp [D.fl] at k; done)
      | exact eqvAll_all2 (eqv_py n) _ _ (by simpa [D.fl] using h) (by simpa [D.fl] using k)
theorem plainAll_py {n : Nat} (ih : ∀ d, D.fl n d = true → (py d).plain = true) : ∀ xs : List D, xs.all (D.fl n) = true → PyData.plainAll (pys xs) = true
  | [], _ => rfl
  | x :: xs, h => by
    simp only [List.all_cons, Bool.and_eq_true] at h
    show ((py x).plain && PyData.plainAll (pys xs)) = true
    rw [ih x h.1, plainAll_py ih xs h.2]
    rfl
theorem plain_py : ∀ (n : Nat) (d : D), D.fl n d = true → (py d).plain = true
  | 0, d, h => by cases d <;> first | rfl | (simp [D.fl] at h)
  | n + 1, d, h => by
    cases d <;> first
      | rfl
      | (simp [D.fl] at h; done)
      | exact plainAll_py (plain_py n) _ (by simpa [D.fl] using h)
theorem depthAll_py {n : Nat} (ih : ∀ d, D.fl n d = true → (py d).depth ≤ n) : ∀ xs : List D, xs.all (D.fl n) = true → PyData.depthAll (pys xs) ≤ n
  | [], _ => Nat.zero_le _
  | x :: xs, h => by
    simp only [List.all_cons, Bool.and_eq_true] at h
    have h1 := ih x h.1
    have h2 := depthAll_py ih xs h.2
    simp only [pys, PyData.depthAll]
    omega
theorem depth_py : ∀ (n : Nat) (d : D), D.fl n d = true → (py d).depth ≤ n
  | 0, d, h => by cases d <;> first | exact Nat.le_refl _ | (simp [D.fl] at h)
  | n + 1, d, h => by
    have ih := depthAll_py (depth_py n)
    cases d with
    | tup xs => have := ih xs (by simpa [D.fl] using h); simp only [py, PyData.depth]; omega
    | lst xs => have := ih xs (by simpa [D.fl] using h); simp only [py, PyData.depth]; omega
    | fz xs => simp [D.fl] at h
    | ref m => simp [D.fl] at h
    | _ => simp [py, PyData.depth]

section
variable {X : Cx} {pins : List (Addr × Obj)} {σ σ' : L2.St} {H F : Hp} {A : List Addr} {s : Shared}
mutual
theorem RD.reads (I : Inv X pins σ H s) (sub : ∀ b o, F b = some o → H b = some o) : ∀ (n : Nat) (d : D) (v : V) (u : Value), D.fl n d = true → RD X.K F A v d → RelV v u → ∃ as, Reads s.heap u (py d) as
  | _, .non, _, _, _, h, r => by cases h; cases r; exact ⟨_, Reads.none⟩
  | _, .bl b, _, _, _, h, r => by cases h; cases r; exact ⟨_, Reads.bool b⟩
  | _, .int i, _, _, _, h, r => by cases h; obtain ⟨t, rfl⟩ := r; exact ⟨_, Reads.int i t⟩
  | _, .str x, _, _, _, h, r => by cases h; obtain ⟨t, rfl⟩ := r; exact ⟨_, Reads.str x t⟩
  | 0, .tup ds, _, _, f, _, _ => by simp [D.fl] at f
  | n + 1, .tup ds, _, _, f, h, r => by
    cases h with
    | tup hs ha =>
      cases r
      obtain ⟨its, rv, ⟨o, ho, hc, n', hd⟩, _⟩ := I.tuple (seqT_mono sub hs)
      obtain ⟨as, hr⟩ := RDs.reads I sub n ds _ its (by simpa [D.fl] using f) ha rv
      exact ⟨_, Reads.tuple ho hc hd hr⟩
  | 0, .lst ds, _, _, f, _, _ => by simp [D.fl] at f
  | n + 1, .lst ds, _, _, f, h, r => by
    cases h with
    | lst hs ha =>
      cases r
      obtain ⟨its, rv, ⟨o, n', ho, hc, _, hd⟩, _⟩ := I.list (.inl (.inl (sub _ _ hs)))
      obtain ⟨as, hr⟩ := RDs.reads I sub n ds _ its (by simpa [D.fl] using f) ha rv
      exact ⟨_, Reads.list ho hc hd hr⟩
  | n, .fz ds, _, _, f, _, _ => by cases n <;> simp [D.fl] at f
  | n, .ref m, _, _, f, _, _ => by cases n <;> simp [D.fl] at f
theorem RDs.reads (I : Inv X pins σ H s) (sub : ∀ b o, F b = some o → H b = some o) : ∀ (n : Nat) (ds : List D) (vs : List V) (us : List Value), ds.all (D.fl n) = true → RDs X.K F A vs ds → Vals vs us → ∃ as, ReadsAll s.heap us (pys ds) as
  | _, [], _, _, _, h, r => by cases h; cases r; exact ⟨_, ReadsAll.nil⟩
  | n, d :: ds, _, _, f, h, r => by
    simp only [List.all_cons, Bool.and_eq_true] at f
    cases h with
    | cons h1 h2 =>
      cases r with
      | cons r1 r2 =>
        obtain ⟨as, q1⟩ := RD.reads I sub n d _ _ f.1 h1 r1
        obtain ⟨bs, q2⟩ := RDs.reads I sub n ds _ _ f.2 h2 r2
        exact ⟨_, ReadsAll.cons q1 q2⟩
end
end

def gEq (d e : D) : Option D := if (D.fl 40 d && D.fl 40 e) = true then some (.bl (D.eq 40 d e)) else none
def gNe (d e : D) : Option D := if (D.fl 40 d && D.fl 40 e) = true then some (.bl (!D.eq 40 d e)) else none
/-- what op_eq asks, of data -/
def rEqJ (K : PySem.W.Frag) (neg : Bool) : R2 := fun x y H Q => ∃ (F : Hp) (A : List Addr) (d e : D), (∀ b o, F b = some o → H b = some o) ∧ RD K F A x d ∧ RD K F A y e ∧ D.fl 40 d = true ∧ D.fl 40 e = true ∧ Q (.bl (if neg then !D.eq 40 d e else D.eq 40 d e)) H
section
variable {CA : Str → Addr} {X : Cx}
theorem op_eqJ (hu : X.A.units + 64 < cLine) : OpR X (compareOp .Eq) (rEqJ X.K false) := by
  intro pins s σ H x y v u Q I rx ry h
  obtain ⟨F, A, d, e, sub, hd, he, fd, fe, q⟩ := h
  obtain ⟨as, r1⟩ := RD.reads I sub 40 d x v fd hd rx
  obtain ⟨bs, r2⟩ := RD.reads I sub 40 e y u fe he ry
  have h1 := depth_py 40 d fd
  refine SeqAt.eq_plain r1 r2 (plain_py 40 d fd) (plain_py 40 e fe) (by have := Nat.min_le_left (py d).depth (py e).depth; omega) ?_
  rw [eqv_py 40 d e fd fe]
  exact ⟨.bl _, H, I, rfl, q⟩
theorem op_neJ (hu : X.A.units + 64 < cLine) : OpR X (compareOp .NotEq) (rEqJ X.K true) := by
  intro pins s σ H x y v u Q I rx ry h
  obtain ⟨F, A, d, e, sub, hd, he, fd, fe, q⟩ := h
  obtain ⟨as, r1⟩ := RD.reads I sub 40 d x v fd hd rx
  obtain ⟨bs, r2⟩ := RD.reads I sub 40 e y u fe he ry
  have h1 := depth_py 40 d fd
  refine SeqAt.ne_plain r1 r2 (plain_py 40 d fd) (plain_py 40 e fe) (by have := Nat.min_le_left (py d).depth (py e).depth; omega) ?_
  rw [eqv_py 40 d e fd fe]
  exact ⟨.bl _, H, I, rfl, q⟩
theorem o_eq {C : Stc} : Op2 C (rEqJ C.K false) gEq := fun P F A S Γ σ H x y d e z R rd re h Q q => by
  unfold gEq at h
  split at h
  · next hf =>
    simp only [Bool.and_eq_true] at hf
    cases h
    exact ⟨F, A, d, e, R.subF, rd, re, hf.1, hf.2, q _ F A H R Ex.refl (.bl _)⟩
  · cases h
theorem o_ne {C : Stc} : Op2 C (rEqJ C.K true) gNe := fun P F A S Γ σ H x y d e z R rd re h Q q => by
  unfold gNe at h
  split at h
  · next hf =>
    simp only [Bool.and_eq_true] at hf
    cases h
    exact ⟨F, A, d, e, R.subF, rd, re, hf.1, hf.2, q _ F A H R Ex.refl (.bl _)⟩
  · cases h
/-- in, not in: a tuple or a list of data; a text in a text -/
def strIn (x y : Str) : Bool := !(Builtin.Str.occurrences y x 0 y.length 1).isEmpty
def gInS (d : D) (ys : List D) : Option Bool := if (D.fl 39 d && ys.all (D.fl 39)) = true then some (ys.any fun y => D.eq 39 y d) else none
def gIn0 : D → D → Option Bool
  | d, .tup ys => gInS d ys
  | d, .lst ys => gInS d ys
  | .str x, .str y => some (strIn x y)
  | _, _ => none
def gIn (d e : D) : Option D := (gIn0 d e).map .bl
def gNi (d e : D) : Option D := (gIn0 d e).map fun b => .bl (!b)
def rInJ (K : PySem.W.Frag) (neg : Bool) : R2 := fun x y H Q => ∃ (F : Hp) (A : List Addr) (d e : D) (b : Bool), (∀ b o, F b = some o → H b = some o) ∧ RD K F A x d ∧ RD K F A y e ∧ gIn0 d e = some b ∧ Q (.bl (if neg then !b else b)) H
theorem any_py {d : D} (fd : D.fl 39 d = true) : ∀ ys : List D, ys.all (D.fl 39) = true → ((pys ys).any fun z => PyData.eqv z (py d)) = ys.any fun y => D.eq 39 y d
  | [], _ => rfl
  | y :: ys, h => by
    simp only [List.all_cons, Bool.and_eq_true] at h
    show (PyData.eqv (py y) (py d) || (pys ys).any fun z => PyData.eqv z (py d)) = (D.eq 39 y d || ys.any fun y => D.eq 39 y d)
    rw [eqv_py 39 y d h.1 fd, any_py fd ys h.2]
theorem fl_up : ∀ (n : Nat) (d : D), D.fl n d = true → D.fl (n + 1) d = true
  | 0, d, h => by cases d <;> first | rfl | (simp [D.fl] at h)
  | n + 1, d, h => by
    cases d with
    | tup xs =>
      simp only [D.fl, List.all_eq_true] at h ⊢
      exact fun x hx => fl_up n x (h x hx)
    | lst xs =>
      simp only [D.fl, List.all_eq_true] at h ⊢
      exact fun x hx => fl_up n x (h x hx)
    | fz xs => simp [D.fl] at h
    | ref m => simp [D.fl] at h
    | _ => rfl
theorem op_inJ (hu : X.A.units + 64 < cLine) : OpR X (compareOp .In) (rInJ X.K false) := by
  intro pins s σ H x y v u Q I rx ry h
  obtain ⟨F, A, d, e, b, sub, hd, he, hb, q⟩ := h
  have fin : EP X pins σ Q (.bool b) s := ⟨.bl b, H, I, rfl, q⟩
  have seq : ∀ ys, gInS d ys = some b → D.fl 39 d = true ∧ ys.all (D.fl 39) = true ∧ b = ys.any fun y => D.eq 39 y d := fun ys h => by
    unfold gInS at h
    split at h
    · next hf => simp only [Bool.and_eq_true] at hf; exact ⟨hf.1, hf.2, (Option.some.inj h).symm⟩
    · cases h
  cases e with
  | tup ys =>
    obtain ⟨f1, f2, e3⟩ := seq ys (by simpa [gIn0] using hb)
    obtain ⟨as, r1⟩ := RD.reads I sub 39 d x v f1 hd rx
    obtain ⟨bs, r2⟩ := RD.reads I sub 40 (.tup ys) y u (by simpa [D.fl] using f2) he ry
    refine SeqAt.in_tuple_data r2 r1 (plainAll_py (plain_py 39) ys f2) (plain_py 39 d f1) (by have := depth_py 39 d f1; have := Nat.min_le_right (PyData.depthAll (pys ys)) (py d).depth; omega) ?_
    rw [any_py f1 ys f2, ← e3]
    exact fin
  | lst ys =>
    obtain ⟨f1, f2, e3⟩ := seq ys (by simpa [gIn0] using hb)
    obtain ⟨as, r1⟩ := RD.reads I sub 39 d x v f1 hd rx
    obtain ⟨bs, r2⟩ := RD.reads I sub 40 (.lst ys) y u (by simpa [D.fl] using f2) he ry
    refine SeqAt.in_list_data r2 r1 (plainAll_py (plain_py 39) ys f2) (plain_py 39 d f1) (by have := depth_py 39 d f1; have := Nat.min_le_right (PyData.depthAll (pys ys)) (py d).depth; omega) ?_
    rw [any_py f1 ys f2, ← e3]
    exact fin
  | str z =>
    cases d with
    | str w =>
      cases hd
      cases he
      have e3 : strIn w z = b := by simpa [gIn0] using hb
      refine op_in_str pins s σ H _ _ v u Q I rx ry ⟨w, z, rfl, rfl, ?_⟩
      have : (!(Builtin.Str.occurrences z w 0 z.length 1).isEmpty) = b := e3
      rw [this]; exact q
    | _ => simp [gIn0] at hb
  | _ => cases d <;> simp [gIn0] at hb
theorem op_niJ (hu : X.A.units + 64 < cLine) : OpR X (compareOp .NotIn) (rInJ X.K true) := by
  intro pins s σ H x y v u Q I rx ry h
  obtain ⟨F, A, d, e, b, sub, hd, he, hb, q⟩ := h
  have fin : EP X pins σ Q (.bool (!b)) s := ⟨.bl (!b), H, I, rfl, q⟩
  have seq : ∀ ys, gInS d ys = some b → D.fl 39 d = true ∧ ys.all (D.fl 39) = true ∧ b = ys.any fun y => D.eq 39 y d := fun ys h => by
    unfold gInS at h
    split at h
    · next hf => simp only [Bool.and_eq_true] at hf; exact ⟨hf.1, hf.2, (Option.some.inj h).symm⟩
    · cases h
  cases e with
  | tup ys =>
    obtain ⟨f1, f2, e3⟩ := seq ys (by simpa [gIn0] using hb)
    obtain ⟨as, r1⟩ := RD.reads I sub 39 d x v f1 hd rx
    obtain ⟨bs, r2⟩ := RD.reads I sub 40 (.tup ys) y u (by simpa [D.fl] using f2) he ry
    refine SeqAt.notIn_tuple_data r2 r1 (plainAll_py (plain_py 39) ys f2) (plain_py 39 d f1) (by have := depth_py 39 d f1; have := Nat.min_le_right (PyData.depthAll (pys ys)) (py d).depth; omega) ?_
    rw [any_py f1 ys f2, ← e3]
    exact fin
  | lst ys =>
    obtain ⟨f1, f2, e3⟩ := seq ys (by simpa [gIn0] using hb)
    obtain ⟨as, r1⟩ := RD.reads I sub 39 d x v f1 hd rx
    obtain ⟨bs, r2⟩ := RD.reads I sub 40 (.lst ys) y u (by simpa [D.fl] using f2) he ry
    refine SeqAt.notIn_list_data r2 r1 (plainAll_py (plain_py 39) ys f2) (plain_py 39 d f1) (by have := depth_py 39 d f1; have := Nat.min_le_right (PyData.depthAll (pys ys)) (py d).depth; omega) ?_
    rw [any_py f1 ys f2, ← e3]
    exact fin
  | str z =>
    cases d with
    | str w =>
      cases hd
      cases he
      have e3 : strIn w z = b := by simpa [gIn0] using hb
      refine op_notIn_str pins s σ H _ _ v u Q I rx ry ⟨w, z, rfl, rfl, ?_⟩
      have : (!(Builtin.Str.occurrences z w 0 z.length 1).isEmpty) = b := e3
      rw [this]; exact q
    | _ => simp [gIn0] at hb
  | _ => cases d <;> simp [gIn0] at hb
theorem o_in {C : Stc} : Op2 C (rInJ C.K false) gIn := fun P F A S Γ σ H x y d e z R rd re h Q q => by
  obtain ⟨b, h1, h2⟩ := omap h
  cases h2
  exact ⟨F, A, d, e, b, R.subF, rd, re, h1, q _ F A H R Ex.refl (.bl _)⟩
theorem o_ni {C : Stc} : Op2 C (rInJ C.K true) gNi := fun P F A S Γ σ H x y d e z R rd re h Q q => by
  obtain ⟨b, h1, h2⟩ := omap h
  cases h2
  exact ⟨F, A, d, e, b, R.subF, rd, re, h1, q _ F A H R Ex.refl (.bl _)⟩

/-! ### arithmetic -/
def gI (c : Int → Int → Bool) (g : Int → Int → D) : D → D → Option D
  | .int i, .int j => if c i j = true then some (g i j) else none
  | _, _ => none
theorem o_int {C : Stc} {p : Int → Int → Prop} {c : Int → Int → Bool} {g : Int → Int → Int} (hc : ∀ i j, c i j = true → p i j) : Op2 C (rI p fun i j => .int (g i j)) (gI c fun i j => .int (g i j)) := fun P F A S Γ σ H x y d e z R rd re h Q q => by
  cases d with
  | int i =>
    cases e with
    | int j =>
      cases rd; cases re
      simp only [gI] at h
      split at h
      · next hh => cases h; exact ⟨i, j, rfl, rfl, hc i j hh, q _ F A H R Ex.refl (.int _)⟩
      · cases h
    | _ => simp [gI] at h
  | _ => cases e <;> simp [gI] at h
theorem o_int0 {C : Stc} {g : Int → Int → Int} : Op2 C (rI0 fun i j => .int (g i j)) (gI (fun _ _ => true) fun i j => .int (g i j)) := fun P F A S Γ σ H x y d e z R rd re h Q q => by
  cases d with
  | int i =>
    cases e with
    | int j =>
      cases rd; cases re
      simp only [gI, if_true] at h
      cases h
      exact ⟨i, j, rfl, rfl, q _ F A H R Ex.refl (.int _)⟩
    | _ => simp [gI] at h
  | _ => cases e <;> simp [gI] at h
theorem o_intB {C : Stc} {g : Int → Int → Bool} : Op2 C (rI0 fun i j => .bl (g i j)) (gI (fun _ _ => true) fun i j => .bl (g i j)) := fun P F A S Γ σ H x y d e z R rd re h Q q => by
  cases d with
  | int i =>
    cases e with
    | int j =>
      cases rd; cases re
      simp only [gI, if_true] at h
      cases h
      exact ⟨i, j, rfl, rfl, q _ F A H R Ex.refl (.bl _)⟩
    | _ => simp [gI] at h
  | _ => cases e <;> simp [gI] at h
def gSub : D → D → Option D := gI (fun _ _ => true) fun i j => .int (i - j)
def cMul (i j : Int) : Bool := decide (i.natAbs < 18446744073709551616) || decide (j.natAbs < 18446744073709551616)
def gMul : D → D → Option D := gI cMul fun i j => .int (i * j)
def gDiv : D → D → Option D := gI (fun _ j => decide (0 < j ∧ j.toNat < 1073741824)) fun i j => .int (i / j)
def gMod : D → D → Option D := gI (fun _ j => decide (0 < j)) fun i j => .int (i % j)
def gPow : D → D → Option D := gI (fun i j => decide (0 ≤ j ∧ j.toNat ≤ 1000000 ∧ i.natAbs < 18446744073709551616)) fun i j => .int (i ^ j.toNat)
def gShl : D → D → Option D := gI (fun i j => decide (0 ≤ j ∧ j.toNat ≤ 1000000 ∧ i.natAbs < 18446744073709551616)) fun i j => .int (i * 2 ^ j.toNat)
def gLtI : D → D → Option D := gI (fun _ _ => true) fun i j => .bl (decide (i < j))
def gLeI : D → D → Option D := gI (fun _ _ => true) fun i j => .bl (decide (i ≤ j))
def gGtI : D → D → Option D := gI (fun _ _ => true) fun i j => .bl (decide (j < i))
def gGeI : D → D → Option D := gI (fun _ _ => true) fun i j => .bl (decide (j ≤ i))
theorem o_sub {C : Stc} : Op2 C (rI0 fun i j => .int (i - j)) gSub := o_int0
theorem o_mul {C : Stc} : Op2 C (rI CMul fun i j => .int (i * j)) gMul := o_int fun i j h => by
  simp only [cMul, Bool.or_eq_true, decide_eq_true_eq] at h
  unfold CMul
  have e : (2 : Int) ^ 64 = 18446744073709551616 := by decide
  rw [e]
  omega
theorem o_div {C : Stc} : Op2 C (rI CDiv fun i j => .int (i / j)) gDiv := o_int fun i j h => by
  have h := of_decide_eq_true h
  unfold CDiv
  omega
theorem o_mod {C : Stc} : Op2 C (rI (fun _ j => 0 < j) fun i j => .int (i % j)) gMod := o_int fun i j h => by simpa using h
theorem o_pow {C : Stc} : Op2 C (rI CPow fun i j => .int (i ^ j.toNat)) gPow := o_int fun i j h => by
  have h := of_decide_eq_true h
  unfold CPow
  omega
theorem o_shl {C : Stc} : Op2 C (rI CPow fun i j => .int (i * 2 ^ j.toNat)) gShl := o_int fun i j h => by
  have h := of_decide_eq_true h
  unfold CPow
  omega
theorem o_ltI {C : Stc} : Op2 C (rI0 fun i j => .bl (decide (i < j))) gLtI := o_intB
theorem o_leI {C : Stc} : Op2 C (rI0 fun i j => .bl (decide (i ≤ j))) gLeI := o_intB
theorem o_gtI {C : Stc} : Op2 C (rI0 fun i j => .bl (decide (j < i))) gGtI := o_intB
theorem o_geI {C : Stc} : Op2 C (rI0 fun i j => .bl (decide (j ≤ i))) gGeI := o_intB
theorem Op2.or {C : Stc} {r r' : R2} {g g' k : D → D → Option D} (h : Op2 C r g) (h' : Op2 C r' g') (hk : ∀ d e z, k d e = some z → g d e = some z ∨ g' d e = some z) : Op2 C (fun x y H Q => r x y H Q ∨ r' x y H Q) k :=
  fun P F A S Γ σ H x y d e z R rd re hz Q q => by
    rcases hk d e z hz with w | w
    · exact .inl (h P F A S Γ σ H x y d e z R rd re w Q q)
    · exact .inr (h' P F A S Γ σ H x y d e z R rd re w Q q)
def gAddS : D → D → Option D
  | .str i, .str j => if i.length + j.length ≤ 16777216 then some (.str (i ++ j)) else none
  | _, _ => none
def gAddT : D → D → Option D
  | .tup i, .tup j => if i.length + j.length ≤ 16777216 then some (.tup (i ++ j)) else none
  | _, _ => none
def gAddL : D → D → Option D
  | .lst i, .lst j => if i.length + j.length ≤ 16777216 then some (.lst (i ++ j)) else none
  | _, _ => none
def gAdd : D → D → Option D
  | .int i, .int j => some (.int (i + j))
  | .str i, .str j => if i.length + j.length ≤ 16777216 then some (.str (i ++ j)) else none
  | .tup i, .tup j => if i.length + j.length ≤ 16777216 then some (.tup (i ++ j)) else none
  | .lst i, .lst j => if i.length + j.length ≤ 16777216 then some (.lst (i ++ j)) else none
  | _, _ => none
def rAddS : R2 := fun x y H Q => ∃ i j, x = .str i ∧ y = .str j ∧ i.length + j.length ≤ sizeLine ∧ Q (.str (i ++ j)) H
theorem o_addS {C : Stc} : Op2 C rAddS gAddS := fun P F A S Γ σ H x y d e z R rd re h Q q => by
  cases d with
  | str i =>
    cases e with
    | str j =>
      cases rd; cases re
      simp only [gAddS] at h
      split at h
      · next hh => cases h; exact ⟨i, j, rfl, rfl, by rw [sizeLine_eq]; exact hh, q _ F A H R Ex.refl (.str _)⟩
      · cases h
    | _ => simp [gAddS] at h
  | _ => cases e <;> simp [gAddS] at h
theorem RD.notLst {K : PySem.W.Frag} {F : Hp} {A : List Addr} {x : V} {xs : List D} (h : RD K F A x (.lst xs)) : ∃ a vs, x = .ref a ∧ F a = some (.lst vs) ∧ RDs K F A vs xs := by
  cases h with
  | lst e r => exact ⟨_, _, rfl, e, r⟩
theorem RD.isTup {K : PySem.W.Frag} {F : Hp} {A : List Addr} {x : V} {xs : List D} (h : RD K F A x (.tup xs)) : ∃ a vs, x = .ref a ∧ SqT K F a vs ∧ RDs K F A vs xs := by
  cases h with
  | tup e r => exact ⟨_, _, rfl, e, r⟩
theorem nil_iff {K : PySem.W.Frag} {F : Hp} {A : List Addr} {vs : List V} {ds : List D} (h : RDs K F A vs ds) : vs = [] ↔ ds = [] := by
  cases h <;> simp
theorem o_addT {C : Stc} : Op2 C (rCatA C.K) gAddT := fun P F A S Γ σ H x y d e z R rd re h Q q => by
  cases d with
  | tup i =>
    cases e with
    | tup j =>
      obtain ⟨a, vs, rfl, h1, r1⟩ := rd.isTup
      obtain ⟨b, ws, rfl, h2, r2⟩ := re.isTup
      simp only [gAddT] at h
      split at h
      · next hh =>
        cases h
        refine ⟨a, b, vs, ws, rfl, rfl, seqT_mono R.subF h1, seqT_mono R.subF h2, by rw [r1.length, r2.length, sizeLine_eq]; exact hh, fun e0 => ?_, fun e0 e1 => ?_, fun e0 e1 p hp => ?_⟩
        · have e0' := (nil_iff r1).mp e0
          subst e0'
          exact q _ F A H R Ex.refl re
        · have e1' := (nil_iff r2).mp e1
          subst e1'
          rw [List.append_nil] at q
          exact q _ F A H R Ex.refl rd
        · exact q _ _ A _ (R.lay hp _) (Ex.lay R hp _) (.tup (.inl (.inl upd_same)) ((r1.append r2).ex (Ex.lay R hp _)))
      · cases h
    | _ => simp [gAddT] at h
  | _ => cases e <;> simp [gAddT] at h
theorem o_addL {C : Stc} : Op2 C rCat gAddL := fun P F A S Γ σ H x y d e z R rd re h Q q => by
  cases d with
  | lst i =>
    cases e with
    | lst j =>
      obtain ⟨a, vs, rfl, h1, r1⟩ := rd.notLst
      obtain ⟨b, ws, rfl, h2, r2⟩ := re.notLst
      simp only [gAddL] at h
      split at h
      · next hh =>
        cases h
        refine ⟨a, b, vs, ws, rfl, rfl, R.subF _ _ h1, R.subF _ _ h2, by rw [r1.length, r2.length, sizeLine_eq]; exact hh, fun p hp => ?_⟩
        exact q _ _ A _ (R.lay hp _) (Ex.lay R hp _) (.lst upd_same ((r1.append r2).ex (Ex.lay R hp _)))
      · cases h
    | _ => simp [gAddL] at h
  | _ => cases e <;> simp [gAddL] at h
def rAddJ (K : PySem.W.Frag) : R2 := fun x y H Q => (rI0 fun i j => .int (i + j)) x y H Q ∨ rAddS x y H Q ∨ rCatA K x y H Q ∨ rCat x y H Q
theorem op_addJ : OpR X (binaryOp .Add) (rAddJ X.K) := op_add.or (op_add_str.or (op_catA.or op_cat))
theorem o_add {C : Stc} : Op2 C (rAddJ C.K) gAdd := fun P F A S Γ σ H x y d e z R rd re h Q q => by
  cases d with
  | int i =>
    cases e with
    | int j => exact .inl (o_int0 (C := C) (g := fun i j => i + j) P F A S Γ σ H x y _ _ z R rd re (by simpa [gI, gAdd] using h) Q q)
    | _ => simp [gAdd] at h
  | str i =>
    cases e with
    | str j => exact .inr (.inl (o_addS P F A S Γ σ H x y _ _ z R rd re (by simpa [gAddS, gAdd] using h) Q q))
    | _ => simp [gAdd] at h
  | tup i =>
    cases e with
    | tup j => exact .inr (.inr (.inl (o_addT P F A S Γ σ H x y _ _ z R rd re (by simpa [gAddT, gAdd] using h) Q q)))
    | _ => simp [gAdd] at h
  | lst i =>
    cases e with
    | lst j => exact .inr (.inr (.inr (o_addL P F A S Γ σ H x y _ _ z R rd re (by simpa [gAddL, gAdd] using h) Q q)))
    | _ => simp [gAdd] at h
  | _ => cases e <;> simp [gAdd] at h

/-! ### a[i] -/
def gIx : D → D → Option D
  | .tup xs, .int i => atI xs i
  | .lst xs, .int i => atI xs i
  | .fz xs, .int i => atI xs i
  | .str z, .int i => if z.length ≤ 16777216 then (atI z.cps.toList i).map fun c => .str ⟨#[c]⟩ else none
  | _, _ => none
theorem atI_rd {K : PySem.W.Frag} {F : Hp} {A : List Addr} {vs : List V} {ds : List D} {i : Int} {d : D} (h : RDs K F A vs ds) (e : atI ds i = some d) : ∃ v, atI vs i = some v ∧ RD K F A v d := by
  unfold atI at e ⊢
  rw [h.length]
  cases q : ixN ds.length i with
  | none => rw [q] at e; cases e
  | some j =>
    rw [q] at e
    exact h.get e
theorem o_ix {C : Stc} : Op2 C (rIx C.K) gIx := fun P F A S Γ σ H x y d e z R rd re h Q q => by
  cases e with
  | int i =>
    cases re
    cases d with
    | tup xs =>
      obtain ⟨a, vs, rfl, h1, r1⟩ := rd.isTup
      obtain ⟨v, h2, h3⟩ := atI_rd r1 (show atI xs i = some z from h)
      exact .inr (.inl ⟨a, vs, i, v, rfl, rfl, seqT_mono R.subF h1, h2, q v F A H R Ex.refl h3⟩)
    | lst xs =>
      obtain ⟨a, vs, rfl, h1, r1⟩ := rd.notLst
      obtain ⟨v, h2, h3⟩ := atI_rd r1 (show atI xs i = some z from h)
      exact .inl ⟨a, vs, i, v, rfl, rfl, .inl (.inl (R.subF _ _ h1)), h2, q v F A H R Ex.refl h3⟩
    | fz xs =>
      cases rd with
      | fz h1 r1 =>
        obtain ⟨v, h2, h3⟩ := atI_rd r1 (show atI xs i = some z from h)
        exact .inl ⟨_, _, i, v, rfl, rfl, seqL_mono R.subF h1, h2, q v F A H R Ex.refl h3⟩
    | str y =>
      cases rd
      simp only [gIx] at h
      split at h
      · next hh =>
        obtain ⟨c, h1, h2⟩ := omap h
        cases h2
        exact .inr (.inr ⟨y, i, c, rfl, rfl, by rw [sizeLine_eq]; exact hh, h1, q _ F A H R Ex.refl (.str _)⟩)
      · cases h
    | _ => simp [gIx] at h
  | _ => cases d <;> simp [gIx] at h

/-! ### a[lo:hi] -/
def gPart : D → Option (Option Int)
  | .int i => some (some i)
  | _ => none
abbrev Mo := Env → Sto → Option (Option Int × Sto)
def oN : Mo := fun _ S => some (none, S)
def oS (f : Me) : Mo := fun Γ S => (f Γ S).bind fun r => (gPart r.1).map fun z => (z, r.2)
def JO (CA : Str → Addr) (X : Cx) (e : Option Expr) (f : Mo) : Prop := PO X e (Gx (cx CA X) (fun _ _ (a b : Option Int) => a = b) f)
theorem poI {e : Option Expr} {t t' : TO} (h : PO X e t) (w : ∀ σ H Q, t' σ H Q → t σ H Q) : PO X e t' := ⟨fun pins s σ H Q I hq => h.run pins s σ H Q I (w σ H Q hq)⟩
theorem jo_none : JO CA X none oN := poI po_none fun σ H Q ⟨P, F, A, S, Γ, d, S', R, h, q⟩ => by
  cases h
  exact q none F A H R Ex.refl rfl
theorem jo_some {e : Expr} {f : Me} (he : JE CA X e f) : JO CA X (some e) (oS f) := poI (po_some he) fun σ H Q ⟨P, F, A, S, Γ, d, S', R, h, q⟩ => by
  obtain ⟨d1, S1, h1, h⟩ := obind h
  obtain ⟨z, h2, h⟩ := omap h
  cases h
  refine ⟨P, F, A, S, Γ, d1, S1, R, h1, fun v F1 A1 H1 R1 E1 r1 => ?_⟩
  cases d1 with
  | int i => cases h2; cases r1; exact ⟨i, rfl, q _ F1 A1 H1 R1 E1 rfl⟩
  | _ => cases h2
def cut {α : Type} (xs : List α) (lo hi : Option Int) : List α := (xs.drop (HT.sIx xs.length 0 lo)).take (HT.sIx xs.length xs.length hi - HT.sIx xs.length 0 lo)
def gSl (d : D) (lo hi : Option Int) : Option D := match d with
  | .tup xs => some (.tup (cut xs lo hi))
  | .lst xs => some (.lst (cut xs lo hi))
  | .fz xs => some (.lst (cut xs lo hi))
  | .str z => if z.length ≤ 16777216 then some (.str (cutS z lo hi)) else none
  | _ => none
def eSl (f : Me) (l h : Mo) : Me := fun Γ S => (f Γ S).bind fun x => (l Γ x.2).bind fun y => (h Γ y.2).bind fun z => (gSl x.1 y.1 z.1).map fun d => (d, z.2)
theorem cut_rd {K : PySem.W.Frag} {F : Hp} {A : List Addr} {vs : List V} {ds : List D} (h : RDs K F A vs ds) (lo hi : Option Int) : RDs K F A (cutV vs lo hi) (cut ds lo hi) := by
  unfold cut cutV
  rw [h.length]
  exact (h.drop _).take _
def rSlJ (K : PySem.W.Frag) : V → Option Int → Option Int → Hp → VK → Prop := fun x lo hi H Q => rSlA K x lo hi H Q ∨ rSlL K x lo hi H Q ∨ rSlS x lo hi H Q
theorem je_slice {e : Expr} {lo hi : Option Expr} {p2 pos : Pos} {f : Me} {l h : Mo} (he : JE CA X e f) (hl : JO CA X lo l) (hh : JO CA X hi h) : JE CA X (.Subscript e (.Slice lo hi none p2) pos) (eSl f l h) :=
  peI (pe_slice (r := rSlJ X.K) (sl_tupA.or (sl_list.or sl_str)) he hl hh) fun σ H Q ⟨P, F, A, S, Γ, d, S', R, w, q⟩ => by
  obtain ⟨d1, S1, h1, w⟩ := obind w
  obtain ⟨a, S2, h2, w⟩ := obind w
  obtain ⟨b, S3, h3, w⟩ := obind w
  obtain ⟨z, h4, w⟩ := omap w
  cases w
  refine ⟨P, F, A, S, Γ, d1, S1, R, h1, fun v F1 A1 H1 R1 E1 r1 => ⟨P, F1, A1, S1, Γ, a, S2, R1, h2, fun a' F2 A2 H2 R2 E2 ea => ⟨P, F2, A2, S2, Γ, b, S3, R2, h3, fun b' F3 A3 H3 R3 E3 eb => ?_⟩⟩⟩
  have ea : a' = a := ea
  have eb : b' = b := eb
  subst ea eb
  have E13 := E1.trans (E2.trans E3)
  have r3 := r1.ex (E2.trans E3)
  cases d1 with
  | tup xs =>
    obtain ⟨p, vs, rfl, s1, t1⟩ := r3.isTup
    cases h4
    refine .inl ⟨p, vs, rfl, seqT_mono R3.subF s1, fun hw => ?_, fun hw n hn => ?_⟩
    · have e : cut xs a' b' = xs := by
        unfold cut
        rw [← t1.length, hw.1, hw.2, List.drop_zero, Nat.sub_zero, List.take_of_length_le (by rw [t1.length]; exact Nat.le_refl _)]
      rw [e] at q
      exact q _ F3 A3 H3 R3 E13 r3
    · exact q _ _ A3 _ (R3.lay hn _) (E13.trans (Ex.lay R3 hn _)) (.tup (.inl (.inl upd_same)) ((cut_rd t1 a' b').ex (Ex.lay R3 hn _)))
  | lst xs =>
    obtain ⟨p, vs, rfl, s1, t1⟩ := r3.notLst
    cases h4
    refine .inr (.inl ⟨p, vs, rfl, .inl (.inl (R3.subF _ _ s1)), fun n hn => ?_⟩)
    exact q _ _ A3 _ (R3.lay hn _) (E13.trans (Ex.lay R3 hn _)) (.lst upd_same ((cut_rd t1 a' b').ex (Ex.lay R3 hn _)))
  | fz xs =>
    cases r3 with
    | fz s1 t1 =>
      cases h4
      refine .inr (.inl ⟨_, _, rfl, seqL_mono R3.subF s1, fun n hn => ?_⟩)
      exact q _ _ A3 _ (R3.lay hn _) (E13.trans (Ex.lay R3 hn _)) (.lst upd_same ((cut_rd t1 a' b').ex (Ex.lay R3 hn _)))
  | str y =>
    cases r3
    simp only [gSl] at h4
    split at h4
    · next hh' =>
      cases h4
      exact .inr (.inr ⟨y, rfl, by rw [sizeLine_eq]; exact hh', q _ F3 A3 H3 R3 E13 (.str _)⟩)
    · cases h4
  | _ => cases h4

/-! ### is, is not -/
def D.isNon : D → Bool
  | .non => true
  | _ => false
def gIsN : D → D → Option D
  | d, .non => some (.bl d.isNon)
  | .bl a, .bl b => some (.bl (a == b))
  | _, _ => none
def gNoN : D → D → Option D
  | d, .non => some (.bl (!d.isNon))
  | .bl a, .bl b => some (.bl (!(a == b)))
  | _, _ => none
def rIsJ : R2 := fun x y H Q => (y = .non ∧ Q (.bl (decide (x = .non))) H) ∨ rIsB x y H Q
def rNoJ : R2 := fun x y H Q => (y = .non ∧ Q (.bl (!decide (x = .non))) H) ∨ rNotB x y H Q
theorem op_isJ : OpR X (compareOp .Is) rIsJ := op_isN.or op_isBl
theorem op_noJ : OpR X (compareOp .IsNot) rNoJ := op_notN.or op_notBl
theorem isnon {K : PySem.W.Frag} {F : Hp} {A : List Addr} {x : V} {d : D} (h : RD K F A x d) : decide (x = .non) = d.isNon := by
  cases h <;> simp [D.isNon]
theorem o_is {C : Stc} : Op2 C rIsJ gIsN := fun P F A S Γ σ H x y d e z R rd re h Q q => by
  cases e with
  | non =>
    cases re
    simp only [gIsN] at h
    cases h
    exact .inl ⟨rfl, by rw [isnon rd]; exact q _ F A H R Ex.refl (.bl _)⟩
  | bl b =>
    cases d with
    | bl a =>
      cases rd; cases re
      simp only [gIsN] at h
      cases h
      refine .inr ⟨a, b, rfl, rfl, ?_⟩
      rw [show decide (a = b) = (a == b) by cases a <;> cases b <;> rfl]
      exact q _ F A H R Ex.refl (.bl _)
    | _ => simp [gIsN] at h
  | _ => cases d <;> simp [gIsN] at h
theorem o_isnot {C : Stc} : Op2 C rNoJ gNoN := fun P F A S Γ σ H x y d e z R rd re h Q q => by
  cases e with
  | non =>
    cases re
    simp only [gNoN] at h
    cases h
    exact .inl ⟨rfl, by rw [isnon rd]; exact q _ F A H R Ex.refl (.bl _)⟩
  | bl b =>
    cases d with
    | bl a =>
      cases rd; cases re
      simp only [gNoN] at h
      cases h
      refine .inr ⟨a, b, rfl, rfl, ?_⟩
      rw [show decide (a = b) = (a == b) by cases a <;> cases b <;> rfl]
      exact q _ F A H R Ex.refl (.bl _)
    | _ => simp [gNoN] at h
  | _ => cases d <;> simp [gNoN] at h

/-! ### built-in functions -/
def gLen : List D → Option D
  | [.tup xs] => some (.int xs.length)
  | [.lst xs] => some (.int xs.length)
  | [.fz xs] => some (.int xs.length)
  | [.str z] => if z.length ≤ 16777216 then some (.int z.length) else none
  | _ => none
theorem rds1 {K : PySem.W.Frag} {F : Hp} {A : List Addr} {xs : List V} {d : D} (h : RDs K F A xs [d]) : ∃ x, xs = [x] ∧ RD K F A x d := by
  cases h with
  | cons r t => cases t; exact ⟨_, rfl, r⟩
theorem rds2 {K : PySem.W.Frag} {F : Hp} {A : List Addr} {xs : List V} {d e : D} (h : RDs K F A xs [d, e]) : ∃ x y, xs = [x, y] ∧ RD K F A x d ∧ RD K F A y e := by
  cases h with
  | cons r t => obtain ⟨y, rfl, r2⟩ := rds1 t; exact ⟨_, _, rfl, r, r2⟩
theorem f_len {C : Stc} : Fn1 C (fun xs H Q => ∃ x n, xs = [x] ∧ LenV C.K x H n ∧ Q (.int n) H) gLen := fun P F A S Γ σ H xs ds z R r h Q q => by
  match ds, h with
  | [d], h =>
    obtain ⟨x, rfl, rd⟩ := rds1 r
    cases d with
    | tup ys =>
      obtain ⟨a, vs, rfl, h1, r1⟩ := rd.isTup
      cases h
      exact ⟨_, ys.length, rfl, .inr ⟨vs, seqT_mono R.subF h1, r1.length.symm⟩, q _ F A H R Ex.refl (.int _)⟩
    | lst ys =>
      obtain ⟨a, vs, rfl, h1, r1⟩ := rd.notLst
      cases h
      exact ⟨_, ys.length, rfl, .inl ⟨vs, .inl (.inl (R.subF _ _ h1)), r1.length.symm⟩, q _ F A H R Ex.refl (.int _)⟩
    | fz ys =>
      cases rd with
      | fz h1 r1 =>
        cases h
        exact ⟨_, ys.length, rfl, .inl ⟨_, seqL_mono R.subF h1, r1.length.symm⟩, q _ F A H R Ex.refl (.int _)⟩
    | str y =>
      cases rd
      simp only [gLen] at h
      split at h
      · next hh => cases h; exact ⟨_, y.length, rfl, ⟨by rw [sizeLine_eq]; exact hh, rfl⟩, q _ F A H R Ex.refl (.int _)⟩
      · cases h
    | _ => simp [gLen] at h
  | [], h => simp [gLen] at h
  | _ :: _ :: _, h => simp [gLen] at h
/-- tuple(x) -/
def gTupOf : List D → Option D
  | [.tup xs] => some (.tup xs)
  | [.lst xs] => some (.tup xs)
  | [.fz xs] => some (.tup xs)
  | _ => none
theorem f_tuple {C : Stc} : Fn1 C (fun xs H Q => ∃ p ys, xs = [.ref p] ∧ ((SqL C.K H p ys ∧ ∀ l, H l = none → Q (.ref l) (upd H l (.tup ys))) ∨ (SqT C.K H p ys ∧ Q (.ref p) H))) gTupOf := fun P F A S Γ σ H xs ds z R r h Q q => by
  match ds, h with
  | [d], h =>
    obtain ⟨x, rfl, rd⟩ := rds1 r
    cases d with
    | tup ys =>
      obtain ⟨a, vs, rfl, h1, r1⟩ := rd.isTup
      cases h
      exact ⟨a, vs, rfl, .inr ⟨seqT_mono R.subF h1, q _ F A H R Ex.refl rd⟩⟩
    | lst ys =>
      obtain ⟨a, vs, rfl, h1, r1⟩ := rd.notLst
      cases h
      exact ⟨a, vs, rfl, .inl ⟨.inl (.inl (R.subF _ _ h1)), fun p hp => q _ _ A _ (R.lay hp _) (Ex.lay R hp _) (.tup (.inl (.inl upd_same)) (r1.ex (Ex.lay R hp _)))⟩⟩
    | fz ys =>
      cases rd with
      | fz h1 r1 =>
        cases h
        exact ⟨_, _, rfl, .inl ⟨seqL_mono R.subF h1, fun p hp => q _ _ A _ (R.lay hp _) (Ex.lay R hp _) (.tup (.inl (.inl upd_same)) (r1.ex (Ex.lay R hp _)))⟩⟩
    | _ => simp [gTupOf] at h
  | [], h => simp [gTupOf] at h
  | _ :: _ :: _, h => simp [gTupOf] at h
/-- list(x) -/
def gLstOf : List D → Option D
  | [.tup xs] => some (.lst xs)
  | [.lst xs] => some (.lst xs)
  | [.fz xs] => some (.lst xs)
  | _ => none
theorem f_list {C : Stc} : Fn1 C (fun xs H Q => ∃ p ys, xs = [.ref p] ∧ (SqL C.K H p ys ∨ SqT C.K H p ys) ∧ ∀ l, H l = none → Q (.ref l) (upd H l (.lst ys))) gLstOf := fun P F A S Γ σ H xs ds z R r h Q q => by
  match ds, h with
  | [d], h =>
    obtain ⟨x, rfl, rd⟩ := rds1 r
    cases d with
    | tup ys =>
      obtain ⟨a, vs, rfl, h1, r1⟩ := rd.isTup
      cases h
      exact ⟨a, vs, rfl, .inr (seqT_mono R.subF h1), fun p hp => q _ _ A _ (R.lay hp _) (Ex.lay R hp _) (.lst upd_same (r1.ex (Ex.lay R hp _)))⟩
    | lst ys =>
      obtain ⟨a, vs, rfl, h1, r1⟩ := rd.notLst
      cases h
      exact ⟨a, vs, rfl, .inl (.inl (.inl (R.subF _ _ h1))), fun p hp => q _ _ A _ (R.lay hp _) (Ex.lay R hp _) (.lst upd_same (r1.ex (Ex.lay R hp _)))⟩
    | fz ys =>
      cases rd with
      | fz h1 r1 =>
        cases h
        exact ⟨_, _, rfl, .inl (seqL_mono R.subF h1), fun p hp => q _ _ A _ (R.lay hp _) (Ex.lay R hp _) (.lst upd_same (r1.ex (Ex.lay R hp _)))⟩
    | _ => simp [gLstOf] at h
  | [], h => simp [gLstOf] at h
  | _ :: _ :: _, h => simp [gLstOf] at h
/-- int(x) of an int or a bool; min, max of two ints -/
def gInt : List D → Option D
  | [.int i] => some (.int i)
  | [.bl b] => some (.int (if b then 1 else 0))
  | _ => none
theorem f_int {C : Stc} : Fn1 C (fun xs H Q => (∃ i, xs = [.int i] ∧ Q (.int i) H) ∨ ∃ k, xs = [.bl k] ∧ Q (.int (if k then 1 else 0)) H) gInt := fun P F A S Γ σ H xs ds z R r h Q q => by
  match ds, h with
  | [.int i], h => obtain ⟨x, rfl, rd⟩ := rds1 r; cases rd; cases h; exact .inl ⟨i, rfl, q _ F A H R Ex.refl (.int _)⟩
  | [.bl b], h => obtain ⟨x, rfl, rd⟩ := rds1 r; cases rd; cases h; exact .inr ⟨b, rfl, q _ F A H R Ex.refl (.int _)⟩
  | [], h => simp [gInt] at h
  | _ :: _ :: _, h => simp [gInt] at h
  | [.non], h => simp [gInt] at h
  | [.str _], h => simp [gInt] at h
  | [.tup _], h => simp [gInt] at h
  | [.lst _], h => simp [gInt] at h
  | [.fz _], h => simp [gInt] at h
  | [.ref _], h => simp [gInt] at h
def gII (g : Int → Int → Int) : List D → Option D
  | [.int i, .int j] => some (.int (g i j))
  | _ => none
theorem gII_of {g : Int → Int → Int} {ds : List D} {z : D} (h : gII g ds = some z) : ∃ i j, ds = [.int i, .int j] ∧ z = .int (g i j) := by
  unfold gII at h
  split at h
  · cases h; exact ⟨_, _, rfl, rfl⟩
  · cases h
def gMax2 : List D → Option D := gII fun i j => if j > i then j else i
def gMin2 : List D → Option D := gII fun i j => if j < i then j else i
theorem f_max2 {C : Stc} : Fn1 C (fun xs H Q => ∃ i j, xs = [.int i, .int j] ∧ Q (.int (if j > i then j else i)) H) gMax2 := fun P F A S Γ σ H xs ds z R r h Q q => by
  obtain ⟨i, j, rfl, rfl⟩ := gII_of h
  obtain ⟨x, y, rfl, r1, r2⟩ := rds2 r
  cases r1; cases r2
  exact ⟨i, j, rfl, q _ F A H R Ex.refl (.int _)⟩
theorem f_min2 {C : Stc} : Fn1 C (fun xs H Q => ∃ i j, xs = [.int i, .int j] ∧ Q (.int (if j < i then j else i)) H) gMin2 := fun P F A S Γ σ H xs ds z R r h Q q => by
  obtain ⟨i, j, rfl, rfl⟩ := gII_of h
  obtain ⟨x, y, rfl, r1, r2⟩ := rds2 r
  cases r1; cases r2
  exact ⟨i, j, rfl, q _ F A H R Ex.refl (.int _)⟩
/-- the ints, the bools, the texts of a list -/
def intsD : List D → Option (List Int)
  | [] => some []
  | .int i :: ds => (intsD ds).map (i :: ·)
  | _ :: _ => none
def blsD : List D → Option (List Bool)
  | [] => some []
  | .bl i :: ds => (blsD ds).map (i :: ·)
  | _ :: _ => none
def strsD : List D → Option (List Str)
  | [] => some []
  | .str i :: ds => (strsD ds).map (i :: ·)
  | _ :: _ => none
theorem intsD_of : ∀ {ds : List D} {ns : List Int}, intsD ds = some ns → ds = ns.map D.int
  | [], ns, h => by cases h; rfl
  | .int i :: ds, ns, h => by
    obtain ⟨ms, h1, h2⟩ := omap (show (intsD ds).map (i :: ·) = some ns from h)
    subst h2
    rw [intsD_of h1]; rfl
theorem blsD_of : ∀ {ds : List D} {ns : List Bool}, blsD ds = some ns → ds = ns.map D.bl
  | [], ns, h => by cases h; rfl
  | .bl i :: ds, ns, h => by
    obtain ⟨ms, h1, h2⟩ := omap (show (blsD ds).map (i :: ·) = some ns from h)
    subst h2
    rw [blsD_of h1]; rfl
theorem strsD_of : ∀ {ds : List D} {ns : List Str}, strsD ds = some ns → ds = ns.map D.str
  | [], ns, h => by cases h; rfl
  | .str i :: ds, ns, h => by
    obtain ⟨ms, h1, h2⟩ := omap (show (strsD ds).map (i :: ·) = some ns from h)
    subst h2
    rw [strsD_of h1]; rfl
theorem intsD_map : ∀ ns : List Int, intsD (ns.map D.int) = some ns
  | [] => rfl
  | n :: ns => by show (intsD (ns.map D.int)).map (n :: ·) = _; rw [intsD_map ns]; rfl
theorem blsD_map : ∀ ns : List Bool, blsD (ns.map D.bl) = some ns
  | [] => rfl
  | n :: ns => by show (blsD (ns.map D.bl)).map (n :: ·) = _; rw [blsD_map ns]; rfl
theorem strsD_map : ∀ ns : List Str, strsD (ns.map D.str) = some ns
  | [] => rfl
  | n :: ns => by show (strsD (ns.map D.str)).map (n :: ·) = _; rw [strsD_map ns]; rfl
def onLst (k : List D → Option D) : List D → Option D
  | [.lst xs] => k xs
  | _ => none
def gAll : List D → Option D := onLst fun xs => (blsD xs).map fun bs => .bl (bs.all id)
def gAny : List D → Option D := onLst fun xs => (blsD xs).map fun bs => .bl (bs.any id)
def gSum : List D → Option D := onLst fun xs => (intsD xs).map fun bs => .int bs.sum
theorem lst1 {k : List D → Option D} {ds : List D} {z : D} (h : onLst k ds = some z) : ∃ xs, ds = [.lst xs] ∧ k xs = some z := by
  unfold onLst at h
  split at h
  · exact ⟨_, rfl, h⟩
  · cases h
theorem f_all {C : Stc} : Fn1 C (rAll C.K) gAll := fun P F A S Γ σ H xs ds z R r h Q q => by
  obtain ⟨ys, rfl, h⟩ := lst1 (k := fun xs => (blsD xs).map fun (bs : List Bool) => D.bl (bs.all id)) h
  obtain ⟨bs, h1, h2⟩ := omap h
  obtain ⟨x, rfl, rd⟩ := rds1 r
  obtain ⟨a, vs, rfl, h3, r1⟩ := rd.notLst
  rw [blsD_of h1] at r1
  rw [r1.bls] at h3
  cases h2
  exact ⟨a, bs, rfl, .inl (.inl (R.subF _ _ h3)), q _ F A H R Ex.refl (.bl _)⟩
theorem f_any {C : Stc} : Fn1 C (rAny C.K) gAny := fun P F A S Γ σ H xs ds z R r h Q q => by
  obtain ⟨ys, rfl, h⟩ := lst1 (k := fun xs => (blsD xs).map fun (bs : List Bool) => D.bl (bs.any id)) h
  obtain ⟨bs, h1, h2⟩ := omap h
  obtain ⟨x, rfl, rd⟩ := rds1 r
  obtain ⟨a, vs, rfl, h3, r1⟩ := rd.notLst
  rw [blsD_of h1] at r1
  rw [r1.bls] at h3
  cases h2
  exact ⟨a, bs, rfl, .inl (.inl (R.subF _ _ h3)), q _ F A H R Ex.refl (.bl _)⟩
theorem f_sum {C : Stc} : Fn1 C (rSum C.K) gSum := fun P F A S Γ σ H xs ds z R r h Q q => by
  obtain ⟨ys, rfl, h⟩ := lst1 (k := fun xs => (intsD xs).map fun (bs : List Int) => D.int bs.sum) h
  obtain ⟨bs, h1, h2⟩ := omap h
  obtain ⟨x, rfl, rd⟩ := rds1 r
  obtain ⟨a, vs, rfl, h3, r1⟩ := rd.notLst
  rw [intsD_of h1] at r1
  rw [r1.ints] at h3
  cases h2
  exact ⟨a, bs, rfl, .inl (.inl (R.subF _ _ h3)), q _ F A H R Ex.refl (.int _)⟩

/-! ### isinstance(x, T) -/
def tyD : D → Option String
  | .non => some "NoneType"
  | .bl _ => some "bool"
  | .int _ => some "int"
  | .str _ => some "str"
  | .tup _ => some "tuple"
  | .lst _ => some "list"
  | .fz _ => some "list"
  | .ref _ => none
def isT (T : String) (d : D) : Option D := (tyD d).map fun t => .bl (t == T || (T == "int" && t == "bool"))
theorem kit_all (T : String) (hT : T = "int" ∨ T = "bool" ∨ T = "str" ∨ T = "tuple" ∨ T = "list") (t : String) (ht : t = "NoneType" ∨ t = "bool" ∨ t = "int" ∨ t = "str" ∨ t = "tuple" ∨ t = "list") : kitB t T = some (t == T || (T == "int" && t == "bool")) := by
  rcases hT with rfl | rfl | rfl | rfl | rfl <;> rcases ht with rfl | rfl | rfl | rfl | rfl | rfl <;> decide +kernel
theorem tyx_of {C : Stc} {P F : Hp} {A : List Addr} {S : Sto} {Γ : Env} {σ : L2.St} {H : Hp} {x : V} {d : D} {t : String} (R : Rel C P F A S Γ σ H) (r : RD C.K F A x d) (h : tyD d = some t) : TyX C.K H x (.type t) ∧ (t = "NoneType" ∨ t = "bool" ∨ t = "int" ∨ t = "str" ∨ t = "tuple" ∨ t = "list") := by
  have lst : ∀ {a : Addr} {vs : List V}, SqL C.K H a vs → TyX C.K H (.ref a) (.type "list") := fun {a vs} s => by
    rcases s with (s | ⟨o, s⟩) | ⟨o, its, n, hk, hc, _⟩
    · exact .base (.lst s)
    · exact .base (.frz s)
    · exact .kList hk hc
  cases r with
  | non => cases h; exact ⟨.base .non, by simp⟩
  | bl b => cases h; exact ⟨.base (.bl b), by simp⟩
  | int i => cases h; exact ⟨.base (.int i), by simp⟩
  | str y => cases h; exact ⟨.base (.str y), by simp⟩
  | tup s q =>
    cases h
    refine ⟨?_, by simp⟩
    rcases seqT_mono R.subF s with (s | ⟨o, s⟩) | ⟨o, its, n, hk, hc, _⟩
    · exact .base (.tup s)
    · exact .fTuple s
    · exact .kTuple hk hc
  | lst s q => cases h; exact ⟨lst (.inl (.inl (R.subF _ _ s))), by simp⟩
  | fz s q => cases h; exact ⟨lst (seqL_mono R.subF s), by simp⟩
  | ref q => cases h
theorem je_isi {e : Expr} {f : Me} {p p2 pos : Pos} {T : Str} {n : String} (hT : n = "int" ∨ n = "bool" ∨ n = "str" ∨ n = "tuple" ∨ n = "list") (he : JE CA X e f) (hg : Gl X "isinstance") (hm : X.mg "isinstance" = none) (hg2 : Gl X T) (hm2 : X.mg T = none) (hv2 : bootBuiltins T = some (.type n)) (hn2 : T ≠ "__name__" := by decide) (hd2 : (T == ("__debug__" : Str)) = false := by decide)
    (hs1 : starEach [e, .Name T p2] X.env = (false, eval e X.env) :: starEach [.Name T p2] X.env := by rfl) (hs2 : starEach [.Name T p2] X.env = (false, eval (.Name T p2) X.env) :: starEach [] X.env := by rfl) (hpl : (backTo pos (starEach [.Name T p2] X.env)).any (·.1) = false := by rfl) :
    JE CA X (.Call (.Name "isinstance" p) [e, .Name T p2] [] pos) (eU (isT n) f) :=
  peI (pe_callB call_isi hg hm (by decide +kernel) (pa_cons he (pa_cons (pe_bltn (v := .ty n) hg2 hm2 hv2 rfl hn2 hd2) pa_nil hs2) hs1) (he := hs1) (hpl := hpl)) fun σ H Q ⟨P, F, A, S, Γ, d, S', R, h, q⟩ => by
  obtain ⟨d1, S1, h1, h⟩ := obind h
  obtain ⟨z, h2, h⟩ := omap h
  obtain ⟨t, h3, h2⟩ := omap h2
  cases h
  cases h2
  refine ⟨P, F, A, S, Γ, d1, S1, R, h1, fun v F1 A1 H1 R1 E1 r1 => ?_⟩
  obtain ⟨ty, ht⟩ := tyx_of R1 r1 h3
  exact ⟨v, .ty n, .type t, .type n, _, rfl, .ty n, ty, kit_ty (kit_all n hT t ht), q _ F1 A1 H1 R1 E1 (.bl _)⟩
end
end J
/-! J4: calls of own defs, statements, loops, comprehensions. -/
namespace J
open PySem PySem.Spec PyProof.Rows L2

/-! ### own defs -/
abbrev Mf := List D → Sto → Option (D × Sto)
/-- a def's promise by its meaning -/
def spD (C : Stc) (n : Nat) (g : Mf) : Sp := fun vs H Q _ => ∃ P F A S ds d S', vs.length = n ∧ Rel C P F A S [] [] H ∧ RDs C.K F A vs ds ∧ g ds S = some (d, S') ∧
  ∀ v F' A' H', Rel C P F' A' S' [] [] H' → Ex F A F' A' → RD C.K F' A' v d → Q v H'
def eCall (g : Mf) (a : Ma) : Me := fun Γ S => (a Γ S).bind fun r => g r.1 r.2
/-- what a callee is to keep: all that is neither told for ever nor in the store -/
def rest (F H : Hp) (A : List Addr) : Hp := fun b => if F b = none ∧ b ∉ A then H b else none
section
variable {C : Stc} {P F F' : Hp} {A A' : List Addr} {S S' : Sto} {Γ : Env} {σ : L2.St} {H H' : Hp}
theorem rest_some {b : Addr} {o : HO} (h : rest F H A b = some o) : F b = none ∧ b ∉ A ∧ H b = some o := by
  unfold rest at h
  split at h
  · next q => exact ⟨q.1, q.2, h⟩
  · cases h
theorem rest_of {b : Addr} (h1 : F b = none) (h2 : b ∉ A) : rest F H A b = H b := by
  unfold rest; rw [if_pos ⟨h1, h2⟩]
theorem Rel.callee (R : Rel C P F A S Γ σ H) : Rel C (rest F H A) F A S [] [] H := by
  have R0 := R.forget
  refine ⟨R0.subF, fun b o e => (rest_some e).2.2, fun b o e => ?_, R0.len, rfl, R0.nd, fun a ha => ⟨(R0.free a ha).1, ?_⟩, R0.obj, R0.slot, fun i a h => by simp [isOw] at h, fun i j a h => by simp [isOw] at h⟩
  · unfold rest; rw [if_neg]; rintro ⟨q, _⟩; rw [e] at q; cases q
  · unfold rest; rw [if_neg]; rintro ⟨_, q⟩; exact q ha
theorem Rel.back (R : Rel C P F A S Γ σ H) (R' : Rel C (rest F H A) F' A' S' [] [] H') (E : Ex F A F' A') : Rel C P F' A' S' Γ σ H' := by
  have pr : ∀ b o, P b = some o → rest F H A b = some o := fun b o e => by
    have h1 : F b = none := by
      cases q : F b with
      | none => rfl
      | some u => rw [R.dis b u q] at e; cases e
    have h2 : b ∉ A := fun hb => by rw [(R.free b hb).2] at e; cases e
    rw [rest_of h1 h2]; exact R.subP b o e
  have pn : ∀ b, rest F H A b = none → P b = none := fun b e => by
    cases q : P b with
    | none => rfl
    | some o => rw [pr b o q] at e; cases e
  -- what an owned object's address is worth
  have own : ∀ {i : Nat} {a : Addr}, isOw Γ[i]? = true → σ[i]? = some (some (.ref a)) → H' a = H a ∧ a ∉ A' ∧ F' a = none := fun {i a} h1 h2 => by
    obtain ⟨x1, x2, x3⟩ := R.own i a h1 h2
    have hs : ∃ u, H a = some u := by
      cases hs : Γ[i]? with
      | none => rw [hs] at h1; cases h1
      | some s =>
        rw [hs] at h1
        cases s with
        | ow ob =>
          obtain ⟨a', e1, r⟩ := R.slot i _ hs
          rw [h2] at e1; cases e1
          exact r.there
        | _ => cases h1
    obtain ⟨u, hu⟩ := hs
    have hr : rest F H A a = some u := by rw [rest_of x2 x1]; exact hu
    refine ⟨(R'.subP a u hr).trans hu.symm, fun hm => ?_, ?_⟩
    · rw [(R'.free a hm).2] at hr; cases hr
    · cases q : F' a with
      | none => rfl
      | some w => rw [R'.dis a w q] at hr; cases hr
  refine ⟨R'.subF, fun b o e => R'.subP b o (pr b o e), fun b o e => pn b (R'.dis b o e), R'.len, R.sz, R'.nd, fun a ha => ⟨(R'.free a ha).1, pn a (R'.free a ha).2⟩, R'.obj, fun i s e => ?_, fun i a h1 h2 => ?_, R.apart⟩
  · have q := R.slot i s e
    cases s with
    | no => trivial
    | im d => obtain ⟨x, e1, r⟩ := q; exact ⟨x, e1, r.ex E⟩
    | ow ob =>
      obtain ⟨a, e1, r⟩ := q
      obtain ⟨h1, _, _⟩ := own (by rw [e]; rfl) e1
      exact ⟨a, e1, r.mono E.f E.a h1⟩
  · obtain ⟨_, h3, h4⟩ := own h1 h2
    exact ⟨h3, h4, (R.own i a h1 h2).2.2⟩
end
section
variable {CA : Str → Addr} {X : Cx} {e : Expr} {es : List Expr} {k : Nat} {f : Addr} {fd : FuncData} {ps : List Str} {g : Mf} {fs : Ma} {x : Str} {p pos : Pos} {n : Nat}
theorem gx_call {σ : L2.St} {H : Hp} {Q : VK} {E : XK} (h : Gx (cx CA X) (RD X.K) (eCall g fs) σ H Q) (hn : ∀ Γ S ds S', fs Γ S = some (ds, S') → ds.length = n) : tCall (spD (cx CA X) n g) [] E (Gx (cx CA X) (RDs X.K) fs) σ H Q := by
  obtain ⟨P, F, A, S, Γ, d, S', R, h, q⟩ := h
  obtain ⟨ds, S1, h1, h⟩ := obind h
  refine ⟨P, F, A, S, Γ, ds, S1, R, h1, fun vs F1 A1 H1 R1 E1 r1 => ?_⟩
  refine ⟨rest F1 H1 A1, F1, A1, S1, ds, d, S', ?_, R1.callee, by rw [List.append_nil]; exact r1, h, fun v F2 A2 H2 R2 E2 r2 => ?_⟩
  · rw [List.append_nil, r1.length]; exact hn _ _ _ _ h1
  · exact q v F2 A2 H2 (R1.back R2 E2) (E1.trans E2) r2
theorem aN_len : ∀ Γ S ds S', aN Γ S = some (ds, S') → ds.length = 0 := fun Γ S ds S' h => by cases h; rfl
theorem aC_len {a : Me} {r : Ma} {n : Nat} (h : ∀ Γ S ds S', r Γ S = some (ds, S') → ds.length = n) : ∀ Γ S ds S', aC a r Γ S = some (ds, S') → ds.length = n + 1 := fun Γ S ds S' q => by
  obtain ⟨d1, S1, h1, q⟩ := obind q
  obtain ⟨⟨es, S2⟩, h2, q⟩ := omap q
  cases q
  rw [List.length_cons, h _ _ _ _ h2]
theorem je_call (G : FnOk X.prog X.w X.K X.mg X.base CX0 k f fd ps (spD (cx CA X) n g)) (hr : Room k X.A) (hg : Gl X x) (hm : X.mg x = some (.ref f)) (hk : PySem.W.keepIn X.K (.ref f) = true) (hb : Binds X.K fd ps [])
    (hn : ∀ Γ S ds S', fs Γ S = some (ds, S') → ds.length = n) (ha : JA CA X (e :: es) fs) (hdb : (x == ("__debug__" : Str)) = false := by decide) (he : starEach (e :: es) X.env = (false, eval e X.env) :: starEach es X.env := by rfl) (hpl : (backTo pos (starEach es X.env)).any (·.1) = false := by rfl) :
    JE CA X (.Call (.Name x p) (e :: es) [] pos) (eCall g fs) :=
  peI (pe_call G hr hg hm hk hb .nil pass0 ha hdb he hpl) fun σ H Q q => gx_call q hn
end

/-! ### statements -/
inductive Out where
  | nx | bk | ct | rt (d : D)
abbrev Ms := Env → Sto → Option (Out × Env × Sto)
def OutOk (C : Stc) (P F : Hp) (A : List Addr) (S' : Sto) (Γ' : Env) (Dn : Ends) : Out → Prop
  | .nx => ∀ σ' F' A' H', Rel C P F' A' S' Γ' σ' H' → Ex F A F' A' → Dn.nx σ' H'
  | .bk => ∀ σ' F' A' H', Rel C P F' A' S' Γ' σ' H' → Ex F A F' A' → Dn.bk σ' H'
  | .ct => ∀ σ' F' A' H', Rel C P F' A' S' Γ' σ' H' → Ex F A F' A' → Dn.ct σ' H'
  | .rt d => ∀ v F' A' H', Rel C P F' A' S' [] [] H' → Ex F A F' A' → RD C.K F' A' v d → Dn.rt v H'
def Sx (C : Stc) (f : Ms) : TS := fun Dn σ H => ∃ P F A S Γ o Γ' S', Rel C P F A S Γ σ H ∧ f Γ S = some (o, Γ', S') ∧ OutOk C P F A S' Γ' Dn o
def JS (CA : Str → Addr) (X : Cx) (st : Stmt) (f : Ms) : Prop := PS X st (Sx (cx CA X) f)
def JSs (CA : Str → Addr) (X : Cx) (st : List Stmt) (f : Ms) : Prop := PSs X st (Sx (cx CA X) f)
theorem OutOk.ex {C : Stc} {P F F1 : Hp} {A A1 : List Addr} {S' : Sto} {Γ' : Env} {Dn : Ends} {o : Out} (h : OutOk C P F A S' Γ' Dn o) (E : Ex F A F1 A1) : OutOk C P F1 A1 S' Γ' Dn o := by
  cases o with
  | nx => exact fun σ' F' A' H' R q => h σ' F' A' H' R (E.trans q)
  | bk => exact fun σ' F' A' H' R q => h σ' F' A' H' R (E.trans q)
  | ct => exact fun σ' F' A' H' R q => h σ' F' A' H' R (E.trans q)
  | rt d => exact fun v F' A' H' R q => h v F' A' H' R (E.trans q)

def sNil : Ms := fun Γ S => some (.nx, Γ, S)
def sSeq (a b : Ms) : Ms := fun Γ S => (a Γ S).bind fun r => match r.1 with
  | .nx => b r.2.1 r.2.2
  | _ => some r
def sDrop (e : Me) : Ms := fun Γ S => (e Γ S).map fun r => (.nx, Γ, r.2)
def sRet (e : Me) : Ms := fun Γ S => (e Γ S).map fun r => (.rt r.1, [], r.2)
def sRetN : Ms := fun _ S => some (.rt .non, [], S)
def sIf (c : Mt) (a b : Ms) : Ms := fun Γ S => (c Γ S).bind fun r => if r.1 = true then a Γ r.2 else b Γ r.2
def sNever : Ms := fun _ _ => none
def sBrk : Ms := fun Γ S => some (.bk, Γ, S)
def sCnt : Ms := fun Γ S => some (.ct, Γ, S)
def sSet (i : Nat) (e : Me) : Ms := fun Γ S => (e Γ S).map fun r => (.nx, Γ.set i (.im r.1), r.2)
/-- the meaning of a def: its slots, its body -/
def fnS (n : Nat) (b : Ms) : Mf := fun ds S => match b (ds.map .im ++ List.replicate (n - ds.length) .no) S with
  | some (.rt d, _, S') => some (d, S')
  | some (.nx, _, S') => some (.non, S')
  | _ => none

section
variable {CA : Str → Addr} {X : Cx} {e c : Expr} {st : Stmt} {sts body a b : List Stmt} {f fa fb : Ms} {pos : Pos}
theorem psI {t t' : TS} (h : PS X st t) (w : ∀ Dn σ H, t' Dn σ H → t Dn σ H) : PS X st t' := ⟨fun pins s σ H Dn I hq => h.run pins s σ H Dn I (w Dn σ H hq)⟩
theorem pssI {t t' : TS} (h : PSs X sts t) (w : ∀ Dn σ H, t' Dn σ H → t Dn σ H) : PSs X sts t' := ⟨fun pins s σ H Dn I hq => h.run pins s σ H Dn I (w Dn σ H hq)⟩
theorem jss_nil : JSs CA X [] sNil := pssI pss_nil fun Dn σ H ⟨P, F, A, S, Γ, o, Γ', S', R, h, q⟩ => by
  cases h
  exact q σ F A H R Ex.refl
theorem jss_cons (h1 : JS CA X st fa) (h2 : JSs CA X sts fb) : JSs CA X (st :: sts) (sSeq fa fb) :=
  pssI (pss_cons h1 h2) fun Dn σ H ⟨P, F, A, S, Γ, o, Γ', S', R, h, q⟩ => by
  unfold sSeq at h
  cases e1 : fa Γ S with
  | none => rw [e1] at h; cases h
  | some r =>
    obtain ⟨o1, Γ1, S1⟩ := r
    rw [e1] at h
    refine ⟨P, F, A, S, Γ, o1, Γ1, S1, R, e1, ?_⟩
    cases o1 with
    | nx => exact fun σ1 F1 A1 H1 R1 E1 => ⟨P, F1, A1, S1, Γ1, o, Γ', S', R1, h, q.ex E1⟩
    | bk => cases h; exact q
    | ct => cases h; exact q
    | rt d => cases h; exact q
theorem jss_one (h1 : JS CA X st fa) : JSs CA X [st] fa := pss_one h1
theorem js_expr {m : Me} (he : JE CA X e m) (hs : swapsWith e none pos.line X.env = pure false := by rfl) : JS CA X (.Expr e pos) (sDrop m) :=
  psI (ps_expr he hs) fun Dn σ H ⟨P, F, A, S, Γ, o, Γ', S', R, h, q⟩ => by
  obtain ⟨⟨d, S1⟩, h1, h⟩ := omap h
  cases h
  exact ⟨P, F, A, S, Γ, d, S1, R, h1, fun v F1 A1 H1 R1 E1 r1 => q σ F1 A1 H1 R1 E1⟩
theorem js_doc {x j pos pos'} : JS CA X (.Expr (.Constant (.str x) j pos) pos') sNil := psI ps_doc fun Dn σ H ⟨P, F, A, S, Γ, o, Γ', S', R, h, q⟩ => by
  cases h
  exact q σ F A H R Ex.refl
theorem js_pass : JS CA X (.Pass pos) sNil := psI ps_pass fun Dn σ H ⟨P, F, A, S, Γ, o, Γ', S', R, h, q⟩ => by
  cases h
  exact q σ F A H R Ex.refl
theorem js_ret {m : Me} (he : JE CA X e m) : JS CA X (.Return (some e) pos) (sRet m) :=
  psI (ps_ret he) fun Dn σ H ⟨P, F, A, S, Γ, o, Γ', S', R, h, q⟩ => by
  obtain ⟨⟨d, S1⟩, h1, h⟩ := omap h
  cases h
  exact ⟨P, F, A, S, Γ, d, S1, R, h1, fun v F1 A1 H1 R1 E1 r1 => q v F1 A1 H1 R1.forget E1 r1⟩
theorem js_retN : JS CA X (.Return none pos) sRetN := psI ps_retN fun Dn σ H ⟨P, F, A, S, Γ, o, Γ', S', R, h, q⟩ => by
  cases h
  exact q .non F A H R.forget Ex.refl .non
theorem js_brk : JS CA X (.Break pos) sBrk := psI ps_break fun Dn σ H ⟨P, F, A, S, Γ, o, Γ', S', R, h, q⟩ => by
  cases h
  exact q σ F A H R Ex.refl
theorem js_cnt : JS CA X (.Continue pos) sCnt := psI ps_continue fun Dn σ H ⟨P, F, A, S, Γ, o, Γ', S', R, h, q⟩ => by
  cases h
  exact q σ F A H R Ex.refl
theorem js_never : JS CA X st sNever := psI ps_never fun Dn σ H ⟨P, F, A, S, Γ, o, Γ', S', R, h, q⟩ => by cases h
theorem js_if {t : Mt} (hc : JT CA X c t) (ha : JSs CA X a fa) (hb : JSs CA X b fb) : JS CA X (.If c a b pos) (sIf t fa fb) :=
  psI (ps_if hc ha hb) fun Dn σ H ⟨P, F, A, S, Γ, o, Γ', S', R, h, q⟩ => by
  obtain ⟨d1, S1, h1, h⟩ := obind h
  refine ⟨P, F, A, S, Γ, d1, S1, R, h1, fun v F1 A1 H1 R1 E1 r1 => ?_⟩
  cases r1
  by_cases hk : d1 = true
  · rw [if_pos hk]
    simp only [hk, if_true] at h
    exact ⟨P, F1, A1, S1, Γ, o, Γ', S', R1, h, q.ex E1⟩
  · rw [if_neg hk]
    simp only [hk, if_false] at h
    exact ⟨P, F1, A1, S1, Γ, o, Γ', S', R1, h, q.ex E1⟩
/-- x = e, a value -/
theorem js_set {i : Nat} {x : Str} {m : Me} {pos' : Pos} (hN : X.N.Nodup) (hi : X.N[i]? = some x) (hx : Loc X.env.scope x) (he : JE CA X e m) (hs : swapsWith e (some (.Name x pos')) pos.line X.env = pure false := by rfl) (hf : X.fn x = true ∨ X.env.scope.names.lookup x = some .local := by first | exact .inl rfl | exact .inr rfl | assumption) :
    JS CA X (.Assign [.Name x pos'] e pos) (sSet i m) :=
  psI (ps_set hN hi hx he hs hf) fun Dn σ H ⟨P, F, A, S, Γ, o, Γ', S', R, h, q⟩ => by
  obtain ⟨⟨d, S1⟩, h1, h⟩ := omap h
  cases h
  exact ⟨P, F, A, S, Γ, d, S1, R, h1, fun v F1 A1 H1 R1 E1 r1 => q _ F1 A1 H1 (R1.put i r1) E1⟩
/-- a def keeps its promise, by its body's meaning -/
theorem jok {P : Program} {w : World} {K : PySem.W.Frag} {mg : Str → Option Value} {base : Heap} {x qual : Str} {st : Stmt} {f : Addr} {fd : FuncData} {N ps : List Str} {k : Nat} (F : Fun K x qual st f fd) (Sc : FnScope N ps (defScope st)) {b : Ms}
    (hb : ∀ (cdv : Value) (A : Around) (outer : List PySem.Env) (s : Shared) (H : Hp) (E : XK), Room k (A.deeper (envOfC qual (defScope st) s.heap.objs.size f cdv)) →
      JSs CA (cxOf CX0 P w K mg base N qual (defScope st) f cdv A outer s H E).nox (defBody st) b) :
    FnOk P w K mg base CX0 (k + 1) f fd ps (spD ⟨K, CA⟩ ps.length (fnS N.length b)) := by
  refine F.ok Sc (fun vs H Q E h => ?_) (fun cdv A outer s H vs Q E hr h => ?_)
  · obtain ⟨_, _, _, _, _, _, _, h, _⟩ := h
    exact h
  · obtain ⟨P', F', A', S, ds, d, S', hl, R, r, h, q⟩ := h
    have hpl : ps.length ≤ N.length := by have := congrArg List.length Sc.pre; rw [List.length_take] at this; omega
    have hld : ds.length = vs.length := r.length.symm
    refine ⟨_, hb cdv A outer s H E hr, ?_⟩
    unfold fnS at h
    generalize hG : ds.map Sl.im ++ List.replicate (N.length - ds.length) Sl.no = Γ at h
    have hno : ∀ i : Nat, isOw Γ[i]? = false := fun i => by
      rw [← hG]
      by_cases hi : i < ds.length
      · rw [List.getElem?_append_left (by simpa using hi), List.getElem?_map]
        cases ds[i]? <;> rfl
      · rw [List.getElem?_append_right (by simpa using hi), List.getElem?_replicate]
        split <;> rfl
    have R1 : Rel ⟨K, CA⟩ P' F' A' S Γ (L2.start N vs) H := by
      refine ⟨R.subF, R.subP, R.dis, R.len, ?_, R.nd, R.free, R.obj, fun i s e => ?_, fun i a h1 => absurd (h1.symm.trans (hno i)) (by decide), fun i j a h1 => absurd (h1.symm.trans (hno i)) (by decide)⟩
      · rw [← hG]
        unfold L2.start
        simp only [List.length_append, List.length_map, List.length_replicate]
        omega
      · rw [← hG] at e
        by_cases hi : i < ds.length
        · rw [List.getElem?_append_left (by simpa using hi), List.getElem?_map] at e
          cases hd : ds[i]? with
          | none => rw [hd] at e; cases e
          | some d' =>
            rw [hd] at e
            cases e
            obtain ⟨v, hv, rv⟩ := r.get hd
            refine ⟨v, ?_, rv⟩
            unfold L2.start
            rw [List.getElem?_append_left (by simpa [← hld] using hi), List.getElem?_map, hv]
            rfl
        · rw [List.getElem?_append_right (by simpa using hi), List.getElem?_replicate] at e
          split at e
          · cases e; trivial
          · cases e
    cases hbΓ : b Γ S with
    | none => rw [hbΓ] at h; cases h
    | some o =>
      obtain ⟨o, Γ', S''⟩ := o
      rw [hbΓ] at h
      refine ⟨P', F', A', S, Γ, o, Γ', S'', R1, hbΓ, ?_⟩
      cases o with
      | nx =>
        cases h
        exact fun σ' F2 A2 H2 R2 E2 => q .non F2 A2 H2 R2.forget E2 .non
      | rt d' =>
        cases h
        exact fun v F2 A2 H2 R2 E2 r2 => q v F2 A2 H2 R2 E2 r2
      | bk => cases h
      | ct => cases h
end

/-! ### two comparisons in a row -/
section
variable {CA : Str → Addr} {X : Cx} {a b c : Expr} {fa fb fc : Me} {pos : Pos}
theorem gx_chain {r r' : R2} {g g' : D → D → Option D} (ho : Op2 (cx CA X) r g) (ho' : Op2 (cx CA X) r' g') {σ : L2.St} {H : Hp} {Q : VK} (h : Gx (cx CA X) (RD X.K) (eChain g g' fa fb fc) σ H Q) :
    tChain r r' (Gx (cx CA X) (RD X.K) fa) (Gx (cx CA X) (RD X.K) fb) (Gx (cx CA X) (RD X.K) fc) σ H Q := by
  obtain ⟨P, F, A, S, Γ, d, S', R, h, q⟩ := h
  obtain ⟨d1, S1, h1, h⟩ := obind h
  obtain ⟨d2, S2, h2, h⟩ := obind h
  cases h3 : g d1 d2 with
  | none => rw [h3] at h; cases h
  | some z =>
    rw [h3] at h
    refine ⟨P, F, A, S, Γ, d1, S1, R, h1, fun v F1 A1 H1 R1 E1 r1 => ⟨P, F1, A1, S1, Γ, d2, S2, R1, h2, fun u F2 A2 H2 R2 E2 r2 => ?_⟩⟩
    refine ho P F2 A2 S2 Γ σ H2 v u d1 d2 z R2 (r1.ex E2) r2 h3 _ fun k F3 A3 H3 R3 E3 r3 => ?_
    cases z with
    | bl t =>
      cases r3
      cases t with
      | true =>
        refine ⟨true, rfl, ?_⟩
        rw [if_pos rfl]
        obtain ⟨d3, S3, h4, h⟩ := obind h
        obtain ⟨z2, h5, h⟩ := omap h
        cases h
        refine ⟨P, F3, A3, S2, Γ, d3, S3, R3, h4, fun w F4 A4 H4 R4 E4 r4 => ?_⟩
        exact ho' P F4 A4 S3 Γ σ H4 u w d2 d3 _ R4 (r2.ex (E3.trans E4)) r4 h5 Q fun k F5 A5 H5 R5 E5 r5 => q k F5 A5 H5 R5 (E1.trans (E2.trans (E3.trans (E4.trans E5)))) r5
      | false =>
        refine ⟨false, rfl, ?_⟩
        rw [if_neg (by decide)]
        cases h
        exact q _ F3 A3 H3 R3 (E1.trans (E2.trans E3)) (.bl false)
    | _ => cases h
theorem je_chain {op op' : CmpOp} {r r' : R2} {g g' : D → D → Option D} (h : OpR X (compareOp op) r) (h' : OpR X (compareOp op') r') (ho : Op2 (cx CA X) r g) (ho' : Op2 (cx CA X) r' g') (ha : JE CA X a fa) (hb : JE CA X b fb) (hc : JE CA X c fc)
    (hm : lastMarks [op, op'] [b, c] = false := by with_unfolding_all rfl) : JE CA X (.Compare a [op, op'] [b, c] pos) (eChain g g' fa fb fc) :=
  peI (pe_chain h h' ha hb hc hm) fun σ H Q q => gx_chain ho ho' q
theorem jt_chain {op op' : CmpOp} {r r' : R2} {g g' : D → D → Option D} (h : OpR X (compareOp op) r) (h' : OpR X (compareOp op') r') (ho : Op2 (cx CA X) r g) (ho' : Op2 (cx CA X) r' g') (ha : JE CA X a fa) (hb : JE CA X b fb) (hc : JE CA X c fc)
    (hm : lastMarks [op, op'] [b, c] = false := by with_unfolding_all rfl) : JT CA X (.Compare a [op, op'] [b, c] pos) (tV gB (eChain g g' fa fb fc)) :=
  ptI (pt_chain h h' ha hb hc hm) fun σ H Q q => gx_chain ho ho' (gx_bool q)
end
end J
/-! J5: targets, what is walked, for, while, new objects, comprehensions. -/
namespace J
open PySem PySem.Spec PyProof.Rows L2

/-! ### targets -/
abbrev Mg := D → Env → Option Env
abbrev Mgs := List D → Env → Option Env
def Same1 (ws : List Nat) (σ σ' : L2.St) : Prop := σ'.length = σ.length ∧ ∀ j : Nat, j ∉ ws → σ'[j]? = σ[j]?
def GJ (C : Stc) (ws : List Nat) (g : Mg) : TG := fun v σ H Q => ∃ P F A S Γ d Γ', Rel C P F A S Γ σ H ∧ RD C.K F A v d ∧ g d Γ = some Γ' ∧ ∀ σ', Rel C P F A S Γ' σ' H → Same1 ws σ σ' → Q σ' H
def GJs (C : Stc) (ws : List Nat) (g : Mgs) : TGs := fun v σ H Q => ∃ P F A S Γ d Γ', Rel C P F A S Γ σ H ∧ RDs C.K F A v d ∧ g d Γ = some Γ' ∧ ∀ σ', Rel C P F A S Γ' σ' H → Same1 ws σ σ' → Q σ' H
structure JG (CA : Str → Addr) (X : Cx) (tg : Expr) (ws : List Nat) (g : Mg) : Prop where
  pg : PG X tg (GJ (cx CA X) ws g)
  out : ∀ d Γ Γ', g d Γ = some Γ' → Γ'.length = Γ.length ∧ ∀ j : Nat, j ∉ ws → Γ'[j]? = Γ[j]?
structure JGs (CA : Str → Addr) (X : Cx) (tg : List Expr) (ws : List Nat) (g : Mgs) : Prop where
  pg : PGs X tg (GJs (cx CA X) ws g)
  out : ∀ d Γ Γ', g d Γ = some Γ' → Γ'.length = Γ.length ∧ ∀ j : Nat, j ∉ ws → Γ'[j]? = Γ[j]?
def gNm (i : Nat) : Mg := fun d Γ => some (Γ.set i (.im d))
def gsN : Mgs := fun ds Γ => match ds with
  | [] => some Γ
  | _ => none
def gsC (g : Mg) (r : Mgs) : Mgs := fun ds Γ => match ds with
  | d :: ds => (g d Γ).bind fun Γ' => r ds Γ'
  | [] => none
def gTp (n : Nat) (r : Mgs) : Mg := fun d Γ => match d with
  | .tup ds => if ds.length = n then r ds Γ else none
  | _ => none
section
variable {CA : Str → Addr} {X : Cx} {e : Expr} {es : List Expr} {pos : Pos} {ws ws' : List Nat} {g : Mg} {gs : Mgs}
theorem pgI {t t' : TG} (h : PG X e t) (w : ∀ v σ H Q, t' v σ H Q → t v σ H Q) : PG X e t' := ⟨fun pins s σ H v u Q I r hq => h.run pins s σ H v u Q I r (w v σ H Q hq)⟩
theorem pgsI {t t' : TGs} (h : PGs X es t) (w : ∀ v σ H Q, t' v σ H Q → t v σ H Q) : PGs X es t' := ⟨fun pins s σ H v u Q I r hq => h.run pins s σ H v u Q I r (w v σ H Q hq)⟩
theorem jg_name {i : Nat} {x : Str} (hN : X.N.Nodup) (hi : X.N[i]? = some x) (hx : Loc X.env.scope x) (hf : X.fn x = true ∨ X.env.scope.names.lookup x = some .local := by first | exact .inl rfl | exact .inr rfl | assumption) : JG CA X (.Name x pos) [i] (gNm i) := by
  refine ⟨pgI (pg_name hN hi hx hf) fun v σ H Q ⟨P, F, A, S, Γ, d, Γ', R, r, h, q⟩ => ?_, fun d Γ Γ' h => ?_⟩
  · cases h
    refine q _ (R.put i r) ⟨by simp, fun j hj => ?_⟩
    exact List.getElem?_set_ne (fun e => hj (by simp [e]))
  · cases h
    refine ⟨by simp, fun j hj => ?_⟩
    exact List.getElem?_set_ne (fun e => hj (by simp [e]))
theorem jgs_nil : JGs CA X [] [] gsN := by
  refine ⟨pgsI pgs_nil fun v σ H Q ⟨P, F, A, S, Γ, d, Γ', R, r, h, q⟩ => ?_, fun d Γ Γ' h => ?_⟩
  · cases d with
    | nil => cases h; cases r; exact ⟨rfl, q σ R ⟨rfl, fun _ _ => rfl⟩⟩
    | cons => cases h
  · cases d with
    | nil => cases h; exact ⟨rfl, fun _ _ => rfl⟩
    | cons => cases h
theorem jgs_cons (h1 : JG CA X e ws g) (h2 : JGs CA X es ws' gs) (hs : (assignEach (e :: es) X.env).map (·.2) = assign e X.env :: (assignEach es X.env).map (·.2) := by rfl) : JGs CA X (e :: es) (ws ++ ws') (gsC g gs) := by
  refine ⟨pgsI (pgs_cons h1.pg h2.pg hs) fun v σ H Q ⟨P, F, A, S, Γ, d, Γ', R, r, h, q⟩ => ?_, fun d Γ Γ' h => ?_⟩
  · cases r with
    | nil => cases h
    | cons r rr =>
      simp only [gsC] at h
      cases h0 : g _ Γ with
      | none => rw [h0] at h; cases h
      | some Γ1 =>
        rw [h0] at h
        refine ⟨_, _, rfl, P, F, A, S, Γ, _, Γ1, R, r, h0, fun σ1 R1 s1 => ⟨P, F, A, S, Γ1, _, Γ', R1, rr, h, fun σ2 R2 s2 => q σ2 R2 ⟨s2.1.trans s1.1, fun j hj => ?_⟩⟩⟩
        simp only [List.mem_append, not_or] at hj
        exact (s2.2 j hj.2).trans (s1.2 j hj.1)
  · cases d with
    | nil => cases h
    | cons d ds =>
      simp only [gsC] at h
      cases h0 : g d Γ with
      | none => rw [h0] at h; cases h
      | some Γ1 =>
        rw [h0] at h
        obtain ⟨x1, x2⟩ := h1.out _ _ _ h0
        obtain ⟨y1, y2⟩ := h2.out _ _ _ h
        refine ⟨y1.trans x1, fun j hj => ?_⟩
        simp only [List.mem_append, not_or] at hj
        exact (y2 j hj.2).trans (x2 j hj.1)
theorem jg_tup {k n : Nat} (hc : X.calm = true) (h : JGs CA X es ws gs) (hn : (assignEach es X.env).length = n := by rfl) (hst : (assignEach es X.env).findIdx? (·.1) = none := by rfl) : JG CA X (.Tuple es k pos) ws (gTp n gs) := by
  refine ⟨pgI (pg_tup hc h.pg hn hst) fun v σ H Q ⟨P, F, A, S, Γ, d, Γ', R, r, w, q⟩ => ?_, fun d Γ Γ' w => ?_⟩
  · cases d with
    | tup ds =>
      simp only [gTp] at w
      split at w
      · next hl =>
        obtain ⟨a, vs, rfl, s1, r1⟩ := r.isTup
        exact ⟨a, vs, rfl, seqT_mono R.subF s1, by rw [r1.length]; exact hl, P, F, A, S, Γ, ds, Γ', R, r1, w, q⟩
      · cases w
    | _ => cases w
  · cases d with
    | tup ds =>
      simp only [gTp] at w
      split at w
      · exact h.out _ _ _ w
      · cases w
    | _ => cases w
end
/-- target = value -/
def sAsg (m : Me) (g : Mg) : Ms := fun Γ S => (m Γ S).bind fun r => (g r.1 Γ).map fun Γ' => (.nx, Γ', r.2)
theorem js_asg {CA : Str → Addr} {X : Cx} {tg e : Expr} {pos : Pos} {m : Me} {g : Mg} {ws : List Nat} (he : JE CA X e m) (hg : JG CA X tg ws g) (hs : swapsWithSole [tg] e pos.line X.env = pure false := by rfl) (hw : swappedStores [tg] e X.env = pure none := by rfl)
    (h1 : (assignEach [tg] X.env).map (·.2) = [assign tg X.env] := by rfl) : JS CA X (.Assign [tg] e pos) (sAsg m g) :=
  psI (ps_asg he hg.pg hs hw h1) fun Dn σ H ⟨P, F, A, S, Γ, o, Γ', S', R, h, q⟩ => by
  obtain ⟨d, S1, h2, h⟩ := obind h
  obtain ⟨Γ1, h3, h⟩ := omap h
  cases h
  exact ⟨P, F, A, S, Γ, d, S1, R, h2, fun v F1 A1 H1 R1 E1 r1 => ⟨P, F1, A1, S1, Γ, d, Γ', R1, r1, h3, fun σ2 R2 _ => q σ2 F1 A1 H1 R2 E1⟩⟩

/-! ### what is walked -/
/-- x stands for d in H', where at most a new tuple was laid -/
def Yd (K : PySem.W.Frag) (F : Hp) (A : List Addr) (H : Hp) (x : V) (H' : Hp) (d : D) : Prop :=
  (H' = H ∧ RD K F A x d) ∨ ∃ (T : Addr) (vs : List V) (ds : List D), x = .ref T ∧ H T = none ∧ H' = upd H T (.tup vs) ∧ d = .tup ds ∧ RDs K F A vs ds
def ItD (K : PySem.W.Frag) (J : It) (F : Hp) (A : List Addr) (ds : List D) : Prop := ∀ (i : Nat) (H : Hp), (∀ b o, F b = some o → H b = some o) →
  (∀ d, ds[i]? = some d → J.go i H ∧ ∀ x H', J.yld i H x H' → Yd K F A H x H' d) ∧ (ds.length ≤ i → J.stop i H)
def IJ (C : Stc) (f : Ma) : TI := fun σ H Q => ∃ P F A S Γ ds S', Rel C P F A S Γ σ H ∧ f Γ S = some (ds, S') ∧ ∀ J F' A' H', Rel C P F' A' S' Γ σ H' → Ex F A F' A' → ItD C.K J F' A' ds → Q J H'
def JI (CA : Str → Addr) (X : Cx) (tg iter : Expr) (f : Ma) : Prop := PI X tg iter (IJ (cx CA X) f)
/-- the items of a value -/
def gItems : D → Option (List D)
  | .tup xs => some xs
  | .lst xs => some xs
  | .fz xs => some xs
  | .str z => some (z.cps.toList.map fun c => .str ⟨#[c]⟩)
  | _ => none
def iV (g : D → Option (List D)) (f : Me) : Ma := fun Γ S => (f Γ S).bind fun r => (g r.1).map fun ds => (ds, r.2)
def gTupI : D → Option (List D)
  | .tup xs => some xs
  | _ => none
def gLstI : D → Option (List D)
  | .lst xs => some xs
  | .fz xs => some xs
  | _ => none
def gStrI : D → Option (List D)
  | .str z => some (z.cps.toList.map fun c => .str ⟨#[c]⟩)
  | _ => none
section
variable {CA : Str → Addr} {X : Cx} {tg e : Expr} {f : Me} {K : PySem.W.Frag} {F : Hp} {A : List Addr} {vs : List V} {ds : List D} {a : Addr}
theorem piI {iter : Expr} {t t' : TI} (h : PI X tg iter t) (w : ∀ σ H Q, t' σ H Q → t σ H Q) : PI X tg iter t' := ⟨fun pins s σ H Q I hq => h.run pins s σ H Q I (w σ H Q hq)⟩
theorem itd_tup (s : SqT K F a vs) (r : RDs K F A vs ds) : ItD K (Itt K a) F A ds := fun i H sub => by
  have s' := seqT_mono sub s
  refine ⟨fun d hd => ?_, fun hl => ⟨vs, s', by rw [r.length]; exact hl⟩⟩
  obtain ⟨v, hv, rv⟩ := r.get hd
  exact ⟨⟨vs, v, s', hv⟩, fun x H' ⟨e1, e2⟩ => .inl ⟨e1, by have := e2 vs s'; rw [hv] at this; cases this; exact rv⟩⟩
theorem itd_lst (s : SqL K F a vs) (r : RDs K F A vs ds) : ItD K (Itl K a) F A ds := fun i H sub => by
  have s' := seqL_mono sub s
  refine ⟨fun d hd => ?_, fun hl => ⟨vs, s', by rw [r.length]; exact hl⟩⟩
  obtain ⟨v, hv, rv⟩ := r.get hd
  exact ⟨⟨vs, v, s', hv⟩, fun x H' ⟨e1, e2⟩ => .inl ⟨e1, by have := e2 vs s'; rw [hv] at this; cases this; exact rv⟩⟩
theorem itd_str {z : Str} : ItD K (Its z) F A (z.cps.toList.map fun c => .str ⟨#[c]⟩) := fun i H sub => by
  refine ⟨fun d hd => ?_, fun hl => by show z.cps.size ≤ i; simpa using hl⟩
  rw [List.getElem?_map] at hd
  obtain ⟨c, hc, hd⟩ := omap hd
  have hi : i < z.cps.size := by have := (List.getElem?_eq_some_iff.mp hc).1; simpa using this
  refine ⟨hi, fun x H' ⟨e1, c', e2, e3⟩ => .inl ⟨e1, ?_⟩⟩
  subst e3
  rw [Array.getElem?_toList] at hc
  rw [hc] at e2
  cases e2
  rw [← hd]
  exact .str _
def rngD (lo : Int) (n : Nat) : List D := (List.range n).map fun (k : Nat) => D.int (lo + k)
theorem itd_rng {lo : Int} {n : Nat} : ItD K (Itr lo n) F A (rngD lo n) := fun i H sub => by
  refine ⟨fun d hd => ?_, fun hl => by show n ≤ i; simpa [rngD] using hl⟩
  unfold rngD at hd
  rw [List.getElem?_map] at hd
  obtain ⟨c, hc, hd⟩ := omap hd
  obtain ⟨h1, h2⟩ := List.getElem?_eq_some_iff.mp hc
  simp at h1 h2
  subst h2
  refine ⟨h1, fun x H' ⟨e1, e2⟩ => .inl ⟨e1, ?_⟩⟩
  subst e2
  rw [← hd]
  exact .int _
theorem ji_tup (he : JE CA X e f) : JI CA X tg e (iV gTupI f) := piI (pi_tup he) fun σ H Q ⟨P, F, A, S, Γ, ds, S', R, h, q⟩ => by
  obtain ⟨d1, S1, h1, h⟩ := obind h
  obtain ⟨z, h2, h⟩ := omap h
  cases h
  refine ⟨P, F, A, S, Γ, d1, S1, R, h1, fun v F1 A1 H1 R1 E1 r1 => ?_⟩
  cases d1 with
  | tup xs =>
    cases h2
    obtain ⟨a, vs, rfl, s, r⟩ := r1.isTup
    exact ⟨a, rfl, ⟨vs, seqT_mono R1.subF s⟩, q _ F1 A1 H1 R1 E1 (itd_tup s r)⟩
  | _ => cases h2
theorem ji_lst (he : JE CA X e f) : JI CA X tg e (iV gLstI f) := piI (pi_list he) fun σ H Q ⟨P, F, A, S, Γ, ds, S', R, h, q⟩ => by
  obtain ⟨d1, S1, h1, h⟩ := obind h
  obtain ⟨z, h2, h⟩ := omap h
  cases h
  refine ⟨P, F, A, S, Γ, d1, S1, R, h1, fun v F1 A1 H1 R1 E1 r1 => ?_⟩
  cases d1 with
  | lst xs =>
    cases h2
    obtain ⟨a, vs, rfl, s, r⟩ := r1.notLst
    exact ⟨a, rfl, ⟨vs, .inl (.inl (R1.subF _ _ s))⟩, q _ F1 A1 H1 R1 E1 (itd_lst (.inl (.inl s)) r)⟩
  | fz xs =>
    cases h2
    cases r1 with
    | fz s r => exact ⟨_, rfl, ⟨_, seqL_mono R1.subF s⟩, q _ F1 A1 H1 R1 E1 (itd_lst s r)⟩
  | _ => cases h2
theorem ji_str (he : JE CA X e f) : JI CA X tg e (iV gStrI f) := piI (pi_str he) fun σ H Q ⟨P, F, A, S, Γ, ds, S', R, h, q⟩ => by
  obtain ⟨d1, S1, h1, h⟩ := obind h
  obtain ⟨z, h2, h⟩ := omap h
  cases h
  refine ⟨P, F, A, S, Γ, d1, S1, R, h1, fun v F1 A1 H1 R1 E1 r1 => ?_⟩
  cases d1 with
  | str y =>
    cases h2
    cases r1
    exact ⟨y, rfl, q _ F1 A1 H1 R1 E1 itd_str⟩
  | _ => cases h2
def gR1 : List D → Option (List D)
  | [.int j] => if j.natAbs < 4611686018427387904 then some (rngD 0 j.toNat) else none
  | _ => none
def gR2 : List D → Option (List D)
  | [.int i, .int j] => if i.natAbs < 4611686018427387904 ∧ j.natAbs < 4611686018427387904 then some (rngD i (j - i).toNat) else none
  | _ => none
def iA (g : List D → Option (List D)) (f : Ma) : Ma := fun Γ S => (f Γ S).bind fun r => (g r.1).map fun ds => (ds, r.2)
theorem gR1_of {ds zs : List D} (h : gR1 ds = some zs) : ∃ j, ds = [.int j] ∧ (-4611686018427387904 ≤ j ∧ j < 4611686018427387904) ∧ zs = rngD 0 j.toNat := by
  unfold gR1 at h
  split at h
  · split at h
    · next hj => cases h; exact ⟨_, rfl, ⟨by omega, by omega⟩, rfl⟩
    · cases h
  · cases h
theorem gR2_of {ds zs : List D} (h : gR2 ds = some zs) : ∃ i j, ds = [.int i, .int j] ∧ ((-4611686018427387904 ≤ i ∧ i < 4611686018427387904) ∧ -4611686018427387904 ≤ j ∧ j < 4611686018427387904) ∧ zs = rngD i (j - i).toNat := by
  unfold gR2 at h
  split at h
  · split at h
    · next hj => cases h; exact ⟨_, _, rfl, ⟨⟨by omega, by omega⟩, by omega, by omega⟩, rfl⟩
    · cases h
  · cases h
theorem ji_r1 {a : Expr} {fa : Ma} {p pos : Pos} (hg : Gl X "range") (hm : X.mg "range" = none) (ha : JA CA X [a] fa) (hs : starEach [a] X.env = [(false, eval a X.env)] := by rfl) : JI CA X tg (.Call (.Name "range" p) [a] [] pos) (iA gR1 fa) :=
  piI (pi_range1 hg hm ha hs) fun σ H Q ⟨P, F, A, S, Γ, ds, S', R, h, q⟩ => by
  obtain ⟨d1, S1, h1, h⟩ := obind h
  obtain ⟨z, h2, h⟩ := omap h
  cases h
  refine ⟨P, F, A, S, Γ, d1, S1, R, h1, fun v F1 A1 H1 R1 E1 r1 => ?_⟩
  obtain ⟨j, rfl, hj, rfl⟩ := gR1_of h2
  obtain ⟨x, rfl, rd⟩ := rds1 r1
  cases rd
  have e : (2 : Int) ^ 62 = 4611686018427387904 := by decide
  refine ⟨j, rfl, ?_, ?_, q _ F1 A1 H1 R1 E1 itd_rng⟩
  · rw [e]; exact hj.1
  · rw [e]; exact hj.2
theorem ji_r2 {a b : Expr} {fa : Ma} {p pos : Pos} (hg : Gl X "range") (hm : X.mg "range" = none) (ha : JA CA X [a, b] fa) (hs : starEach [a, b] X.env = [(false, eval a X.env), (false, eval b X.env)] := by rfl) (hs2 : starEach [b] X.env = [(false, eval b X.env)] := by rfl) : JI CA X tg (.Call (.Name "range" p) [a, b] [] pos) (iA gR2 fa) :=
  piI (pi_range2 hg hm ha hs hs2) fun σ H Q ⟨P, F, A, S, Γ, ds, S', R, h, q⟩ => by
  obtain ⟨d1, S1, h1, h⟩ := obind h
  obtain ⟨z, h2, h⟩ := omap h
  cases h
  refine ⟨P, F, A, S, Γ, d1, S1, R, h1, fun v F1 A1 H1 R1 E1 r1 => ?_⟩
  obtain ⟨i, j, rfl, hj, rfl⟩ := gR2_of h2
  obtain ⟨x, y, rfl, rd, re⟩ := rds2 r1
  cases rd
  cases re
  have e : (2 : Int) ^ 62 = 4611686018427387904 := by decide
  refine ⟨i, j, rfl, ?_, q _ F1 A1 H1 R1 E1 itd_rng⟩
  rw [e]
  exact ⟨hj.1.1, hj.1.2, hj.2.1, hj.2.2⟩
end
/-- one yield: the state behind it -/
theorem Rel.yd {C : Stc} {P F : Hp} {A : List Addr} {S : Sto} {Γ : Env} {σ : L2.St} {H H' : Hp} {x : V} {d : D} (R : Rel C P F A S Γ σ H) (y : Yd C.K F A H x H' d) : ∃ F', Rel C P F' A S Γ σ H' ∧ Ex F A F' A ∧ RD C.K F' A x d ∧ ∀ p u, H p = some u → F p = none → H' p = some u ∧ F' p = none := by
  rcases y with ⟨rfl, r⟩ | ⟨T, vs, ds, rfl, hT, rfl, rfl, r⟩
  · exact ⟨F, R, Ex.refl, r, fun p u h1 h2 => ⟨h1, h2⟩⟩
  · refine ⟨_, R.lay hT _, Ex.lay R hT _, .tup (.inl (.inl upd_same)) (r.ex (Ex.lay R hT _)), fun p u h1 h2 => ?_⟩
    have hp : p ≠ T := ne_of_none h1 hT
    rw [upd_ne hp, upd_ne hp]
    exact ⟨h1, h2⟩
theorem ItD.ex {K : PySem.W.Frag} {J : It} {F F' : Hp} {A A' : List Addr} {ds : List D} (h : ItD K J F A ds) (E : Ex F A F' A') : ItD K J F' A' ds := fun i H sub => by
  obtain ⟨h1, h2⟩ := h i H fun b o e => sub b o (E.f b o e)
  refine ⟨fun d hd => ?_, h2⟩
  obtain ⟨h3, h4⟩ := h1 d hd
  refine ⟨h3, fun x H' hy => ?_⟩
  rcases h4 x H' hy with ⟨e, r⟩ | ⟨T, vs, es, e1, e2, e3, e4, r⟩
  · exact .inl ⟨e, r.ex E⟩
  · exact .inr ⟨T, vs, es, e1, e2, e3, e4, r.ex E⟩

/-! ### for -/
def forGo (g : Mg) (b : Ms) : List D → Ms
  | [], Γ, S => some (.nx, Γ, S)
  | d :: ds, Γ, S => (g d Γ).bind fun Γ1 => (b Γ1 S).bind fun r => match r.1 with
    | .nx => forGo g b ds r.2.1 r.2.2
    | .ct => forGo g b ds r.2.1 r.2.2
    | .bk => some (.nx, r.2)
    | .rt d => some (.rt d, r.2)
def sFor (it : Ma) (g : Mg) (b : Ms) : Ms := fun Γ S => (it Γ S).bind fun r => forGo g b r.1 Γ r.2
section
variable {CA : Str → Addr} {X : Cx} {tg iter c : Expr} {body : List Stmt} {pos : Pos} {it : Ma} {g : Mg} {b : Ms} {ws : List Nat}
theorem js_for (hp : PassesOwn (model X.prog X.w) X.A X.env X.xe) (hc : X.calm = true) (hi : JI CA X tg iter it) (hg : JG CA X tg ws g) (hb : JSs CA X body b)
    (hs : ∀ x, foldedSetIterable iter X.env x = pure x := by intro _; rfl) : JS CA X (.For tg iter body [] pos) (sFor it g b) :=
  psI (ps_for hp hc hi hg.pg hb hs) fun Dn σ H ⟨P, F, A, S, Γ, o, Γ', S', R, h, q⟩ => by
  obtain ⟨ds, S1, h1, h⟩ := obind h
  refine ⟨P, F, A, S, Γ, ds, S1, R, h1, fun J F1 A1 H1 R1 E1 iD => ?_⟩
  refine ⟨fun i m σ H => i ≤ ds.length ∧ m = ds.length - i ∧ ∃ F2 A2 S2 Γ2, Rel (cx CA X) P F2 A2 S2 Γ2 σ H ∧ Ex F1 A1 F2 A2 ∧ forGo g b (ds.drop i) Γ2 S2 = some (o, Γ', S'),
    ⟨ds.length, Nat.zero_le _, rfl, F1, A1, S1, Γ, R1, Ex.refl, by simpa using h⟩, ?_⟩
  rintro i m σ2 H2 ⟨hi, rfl, F2, A2, S2, Γ2, R2, E2, h2⟩
  obtain ⟨hgo, hstop⟩ := iD.ex E2 i H2 R2.subF
  by_cases hl : i < ds.length
  · obtain ⟨g1, g2⟩ := hgo _ (List.getElem?_eq_getElem hl)
    rw [List.drop_eq_getElem_cons hl] at h2
    simp only [forGo] at h2
    cases h3 : g ds[i] Γ2 with
    | none => rw [h3] at h2; cases h2
    | some Γ3 =>
      rw [h3] at h2
      simp only [Option.bind_some] at h2
      cases h4 : b Γ3 S2 with
      | none => rw [h4] at h2; cases h2
      | some r =>
        obtain ⟨o4, Γ4, S4⟩ := r
        rw [h4] at h2
        simp only [Option.bind_some] at h2
        refine .inr ⟨g1, fun σ' H' => ∃ F5 A5 S5 Γ5, Rel (cx CA X) P F5 A5 S5 Γ5 σ' H' ∧ Ex F1 A1 F5 A5 ∧ forGo g b (ds.drop (i + 1)) Γ5 S5 = some (o, Γ', S'), fun σ' H' w => ⟨ds.length - (i + 1), by omega, hl, rfl, w⟩, fun x H3 hy => ?_⟩
        obtain ⟨F3, R3, E3, r3, _⟩ := R2.yd (g2 x H3 hy)
        refine ⟨P, F3, A2, S2, Γ2, ds[i], Γ3, R3, r3, h3, fun σ4 R4 _ => ?_⟩
        refine ⟨P, F3, A2, S2, Γ3, o4, Γ4, S4, R4, h4, ?_⟩
        have E13 := E2.trans E3
        cases o4 with
        | nx => exact fun σ5 F5 A5 H5 R5 E5 => ⟨F5, A5, S4, Γ4, R5, E13.trans E5, h2⟩
        | ct => exact fun σ5 F5 A5 H5 R5 E5 => ⟨F5, A5, S4, Γ4, R5, E13.trans E5, h2⟩
        | bk =>
          cases h2
          exact fun σ5 F5 A5 H5 R5 E5 => q σ5 F5 A5 H5 R5 (E1.trans (E13.trans E5))
        | rt d =>
          cases h2
          exact fun v F5 A5 H5 R5 E5 r5 => q v F5 A5 H5 R5 (E1.trans (E13.trans E5)) r5
  · refine .inl ⟨hstop (by omega), ?_⟩
    rw [List.drop_eq_nil_of_le (by omega)] at h2
    cases h2
    exact q σ2 F2 A2 H2 R2 (E1.trans E2)

/-! ### while, with a number of turns that is enough -/
def whGo (c : Mt) (b : Ms) : Nat → Ms
  | 0, _, _ => none
  | n + 1, Γ, S => (c Γ S).bind fun k => if k.1 = true then (b Γ k.2).bind fun r => match r.1 with
      | .nx => whGo c b n r.2.1 r.2.2
      | .ct => whGo c b n r.2.1 r.2.2
      | .bk => some (.nx, r.2)
      | .rt d => some (.rt d, r.2)
    else some (.nx, Γ, k.2)
def sWh (n : Nat) (c : Mt) (b : Ms) : Ms := whGo c b n
theorem js_wh (n : Nat) {t : Mt} (hp : PassesOwn (model X.prog X.w) X.A X.env X.xe) (hc : JT CA X c t) (hb : JSs CA X body b) : JS CA X (.While c body [] pos) (sWh n t b) :=
  psI (ps_while hp hc hb) fun Dn σ H ⟨P, F, A, S, Γ, o, Γ', S', R, h, q⟩ => by
  refine ⟨fun m σ H => ∃ F2 A2 S2 Γ2, Rel (cx CA X) P F2 A2 S2 Γ2 σ H ∧ Ex F A F2 A2 ∧ whGo t b m Γ2 S2 = some (o, Γ', S'), ⟨n, F, A, S, Γ, R, Ex.refl, h⟩, ?_⟩
  rintro m σ2 H2 ⟨F2, A2, S2, Γ2, R2, E2, h2⟩
  cases m with
  | zero => cases h2
  | succ m =>
    simp only [whGo] at h2
    obtain ⟨k, S3, h3, h2⟩ := obind h2
    refine ⟨P, F2, A2, S2, Γ2, k, S3, R2, h3, fun k' F3 A3 H3 R3 E3 rk => ?_⟩
    cases rk
    by_cases hk : k = true
    · rw [if_pos hk]
      simp only [hk, if_true] at h2
      cases h4 : b Γ2 S3 with
      | none => rw [h4] at h2; cases h2
      | some r =>
        obtain ⟨o4, Γ4, S4⟩ := r
        rw [h4] at h2
        simp only [Option.bind_some] at h2
        refine ⟨fun σ' H' => ∃ F5 A5 S5 Γ5, Rel (cx CA X) P F5 A5 S5 Γ5 σ' H' ∧ Ex F A F5 A5 ∧ whGo t b m Γ5 S5 = some (o, Γ', S'), fun σ' H' w => ⟨m, Nat.lt_succ_self m, w⟩, ?_⟩
        refine ⟨P, F3, A3, S3, Γ2, o4, Γ4, S4, R3, h4, ?_⟩
        have E13 := E2.trans E3
        cases o4 with
        | nx => exact fun σ5 F5 A5 H5 R5 E5 => ⟨F5, A5, S4, Γ4, R5, E13.trans E5, h2⟩
        | ct => exact fun σ5 F5 A5 H5 R5 E5 => ⟨F5, A5, S4, Γ4, R5, E13.trans E5, h2⟩
        | bk =>
          cases h2
          exact fun σ5 F5 A5 H5 R5 E5 => q σ5 F5 A5 H5 R5 (E13.trans E5)
        | rt d =>
          cases h2
          exact fun v F5 A5 H5 R5 E5 r5 => q v F5 A5 H5 R5 (E13.trans E5) r5
    · rw [if_neg hk]
      simp only [hk, if_false] at h2
      cases h2
      exact q σ2 F3 A3 H3 R3 (E2.trans E3)
end

/-! ### new objects -/
def Nown (Γ : Env) (σ : L2.St) (a : Addr) : Prop := ∀ j : Nat, isOw Γ[j]? = true → σ[j]? ≠ some (some (V.ref a))
def RSl (C : Stc) (P F : Hp) (A : List Addr) (Γ : Env) (σ : L2.St) (H : Hp) (v : V) : Sl → Prop
  | .no => False
  | .im d => RD C.K F A v d
  | .ow o => ∃ a, v = .ref a ∧ ObR C.K F A C.CA H a o ∧ a ∉ A ∧ F a = none ∧ P a = none ∧ Nown Γ σ a
abbrev Mv := Env → Sto → Option (Sl × Sto)
def Gv (C : Stc) (f : Mv) : TE := fun σ H Q => ∃ P F A S Γ s S', Rel C P F A S Γ σ H ∧ f Γ S = some (s, S') ∧ ∀ v F' A' H', Rel C P F' A' S' Γ σ H' → Ex F A F' A' → RSl C P F' A' Γ σ H' v s → Q v H'
def JV (CA : Str → Addr) (X : Cx) (e : Expr) (f : Mv) : Prop := PE X e (Gv (cx CA X) f)
def vI (m : Me) : Mv := fun Γ S => (m Γ S).map fun r => (.im r.1, r.2)
def gvL : List D → Option Sl := fun ds => if ds.length ≤ 16777216 then some (.ow (.lst ds)) else none
def vL (a : Ma) : Mv := fun Γ S => (a Γ S).bind fun r => (gvL r.1).map fun z => (z, r.2)
def vC (s : Sl) : Mv := fun _ S => some (s, S)
def frzS : Sl → Option D
  | .im d => some d
  | .ow (.lst xs) => some (.lst xs)
  | _ => none
/-- a new list, never to change -/
def eFz (f : Mv) : Me := fun Γ S => (f Γ S).bind fun r => (frzS r.1).map fun d => (d, r.2)
def sSetV (i : Nat) (f : Mv) : Ms := fun Γ S => (f Γ S).map fun r => (.nx, Γ.set i r.1, r.2)
section
variable {CA : Str → Addr} {X : Cx} {e : Expr} {es : List Expr} {pos : Pos} {f : Mv} {m : Me} {fa : Ma}
theorem Rel.nown {C : Stc} {P F : Hp} {A : List Addr} {S : Sto} {Γ : Env} {σ : L2.St} {H : Hp} (R : Rel C P F A S Γ σ H) {p : Addr} (hp : H p = none) : p ∉ A ∧ F p = none ∧ P p = none ∧ Nown Γ σ p := by
  refine ⟨fun h => ?_, ?_, ?_, fun j h1 h2 => ?_⟩
  · obtain ⟨n, hn⟩ := List.getElem?_of_mem h
    have hl : n < S.length := by rw [← R.len]; exact (List.getElem?_eq_some_iff.mp hn).1
    obtain ⟨u, e⟩ := (R.obj n p _ hn (List.getElem?_eq_getElem hl)).there
    rw [hp] at e; cases e
  · cases e : F p with
    | none => rfl
    | some u => rw [R.subF _ _ e] at hp; cases hp
  · cases e : P p with
    | none => rfl
    | some u => rw [R.subP _ _ e] at hp; cases hp
  · cases hs : Γ[j]? with
    | none => rw [hs] at h1; cases h1
    | some s =>
      rw [hs] at h1
      cases s with
      | ow ob =>
        obtain ⟨a', e1, r⟩ := R.slot j _ hs
        rw [h2] at e1; cases e1
        obtain ⟨u, e⟩ := r.there
        rw [hp] at e; cases e
      | _ => cases h1
theorem jv_im (h : JE CA X e m) : JV CA X e (vI m) := peI h fun σ H Q ⟨P, F, A, S, Γ, s, S', R, h, q⟩ => by
  obtain ⟨⟨d, S1⟩, h1, h⟩ := omap h
  cases h
  exact ⟨P, F, A, S, Γ, d, S1, R, h1, fun v F1 A1 H1 R1 E1 r1 => q v F1 A1 H1 R1 E1 r1⟩
theorem jv_lst (h : JA CA X es fa) : JV CA X (.List es pos) (vL fa) := peI (pe_lst h) fun σ H Q ⟨P, F, A, S, Γ, s, S', R, h, q⟩ => by
  obtain ⟨ds, S1, h1, h⟩ := obind h
  obtain ⟨z, h2, h⟩ := omap h
  cases h
  refine ⟨P, F, A, S, Γ, ds, S1, R, h1, fun vs F1 A1 H1 R1 E1 r1 => ?_⟩
  unfold gvL at h2
  split at h2
  · next hl =>
    cases h2
    refine ⟨by rw [r1.length, sizeLine_eq]; exact hl, fun p hp => ?_⟩
    obtain ⟨n1, n2, n3, n4⟩ := R1.nown hp
    exact q _ F1 A1 _ (R1.more hp _) E1 ⟨p, rfl, ⟨vs, upd_same, r1⟩, n1, n2, n3, n4⟩
  · cases h2
theorem jv_dK : JV CA X (.Dict [] [] pos) (vC (.ow (.dct []))) := peI pe_dnewK fun σ H Q ⟨P, F, A, S, Γ, s, S', R, h, q⟩ => by
  cases h
  intro p hp
  obtain ⟨n1, n2, n3, n4⟩ := R.nown hp
  exact q _ F A _ (R.more hp _) Ex.refl ⟨p, rfl, ⟨[], upd_same, .nil⟩, n1, n2, n3, n4⟩
theorem jv_dT : JV CA X (.Dict [] [] pos) (vC (.ow (.dtt []))) := peI pe_dnewT fun σ H Q ⟨P, F, A, S, Γ, s, S', R, h, q⟩ => by
  cases h
  intro p hp
  obtain ⟨n1, n2, n3, n4⟩ := R.nown hp
  exact q _ F A _ (R.more hp _) Ex.refl ⟨p, rfl, ⟨[], upd_same, .nil⟩, n1, n2, n3, n4⟩
theorem je_fz (h : JV CA X e f) : JE CA X e (eFz f) := peI h fun σ H Q ⟨P, F, A, S, Γ, d, S', R, h, q⟩ => by
  obtain ⟨s, S1, h1, h⟩ := obind h
  obtain ⟨z, h2, h⟩ := omap h
  cases h
  refine ⟨P, F, A, S, Γ, s, S1, R, h1, fun v F1 A1 H1 R1 E1 r1 => ?_⟩
  cases s with
  | no => cases h2
  | im d => cases h2; exact q v F1 A1 H1 R1 E1 r1
  | ow o =>
    cases o with
    | lst xs =>
      cases h2
      obtain ⟨a, rfl, ⟨vs, e1, rv⟩, n1, n2, n3, n4⟩ := r1
      exact q _ _ A1 H1 (R1.freeze e1 n1 n2 n3 n4) (E1.trans (Ex.freeze n2)) (.lst upd_same (rv.ex (Ex.freeze n2)))
    | _ => cases h2
/-- x = e, a new object or a value -/
theorem putSl {C : Stc} {P F : Hp} {A : List Addr} {S : Sto} {Γ : Env} {σ : L2.St} {H : Hp} {v : V} {s : Sl} (R : Rel C P F A S Γ σ H) (i : Nat) (r : RSl C P F A Γ σ H v s) : Rel C P F A S (Γ.set i s) (σ.set i (some v)) H := by
  cases s with
  | no => cases r
  | im d => exact R.put i r
  | ow o =>
    obtain ⟨a, rfl, ro, n1, n2, n3, n4⟩ := r
    exact R.putOw i ro n1 n2 n3 n4
theorem js_setV {i : Nat} {x : Str} {pos' : Pos} (hN : X.N.Nodup) (hi : X.N[i]? = some x) (hx : Loc X.env.scope x) (he : JV CA X e f) (hs : swapsWith e (some (.Name x pos')) pos.line X.env = pure false := by rfl) (hf : X.fn x = true ∨ X.env.scope.names.lookup x = some .local := by first | exact .inl rfl | exact .inr rfl | assumption) :
    JS CA X (.Assign [.Name x pos'] e pos) (sSetV i f) :=
  psI (ps_set hN hi hx he hs hf) fun Dn σ H ⟨P, F, A, S, Γ, o, Γ', S', R, h, q⟩ => by
  obtain ⟨⟨s, S1⟩, h1, h⟩ := omap h
  cases h
  exact ⟨P, F, A, S, Γ, s, S1, R, h1, fun v F1 A1 H1 R1 E1 r1 => q _ F1 A1 H1 (putSl R1 i r1) E1⟩
end
end J
/-! J6: comprehensions. -/
namespace J
open PySem PySem.Spec PyProof.Rows L2

def wipeE (Γ : Env) : List Nat → Env
  | [] => Γ
  | v :: vs => (wipeE Γ vs).set v .no
theorem wipeE_length (Γ : Env) : ∀ vs : List Nat, (wipeE Γ vs).length = Γ.length
  | [] => rfl
  | v :: vs => by unfold wipeE; rw [List.length_set, wipeE_length Γ vs]
theorem wipeE_out {Γ : Env} {i : Nat} : ∀ {vs : List Nat}, i ∉ vs → (wipeE Γ vs)[i]? = Γ[i]?
  | [], _ => rfl
  | v :: vs, h => by
    simp only [List.mem_cons, not_or] at h
    unfold wipeE
    rw [List.getElem?_set_ne (fun e => h.1 e.symm), wipeE_out h.2]
theorem wipeE_in {Γ : Env} {i : Nat} {s : Sl} : ∀ {vs : List Nat}, i ∈ vs → (wipeE Γ vs)[i]? = some s → s = .no
  | v :: vs, h, e => by
    unfold wipeE at e
    by_cases hi : v = i
    · subst hi
      have hv : v < (wipeE Γ vs).length := by
        have := (List.getElem?_eq_some_iff.mp e).1
        simpa using this
      rw [List.getElem?_set_self hv] at e
      cases e; rfl
    · rw [List.getElem?_set_ne hi] at e
      exact wipeE_in ((List.mem_cons.mp h).resolve_left fun z => hi z.symm) e
theorem wipe_out' {σ : L2.St} {i : Nat} : ∀ {vs : List Nat}, i ∉ vs → (wipe σ vs)[i]? = σ[i]?
  | [], _ => rfl
  | v :: vs, h => by
    simp only [List.mem_cons, not_or] at h
    unfold wipe
    rw [List.getElem?_set_ne (fun e => h.1 e.symm), wipe_out' h.2]
theorem wipe_in' {σ : L2.St} {i : Nat} : ∀ {vs : List Nat}, i ∈ vs → i < σ.length → (wipe σ vs)[i]? = some none
  | v :: vs, h, e => by
    unfold wipe
    by_cases hi : v = i
    · subst hi
      exact List.getElem?_set_self (by rw [wipe_length]; exact e)
    · rw [List.getElem?_set_ne hi]
      exact wipe_in' ((List.mem_cons.mp h).resolve_left fun z => hi z.symm) e
theorem wipe_ext {σ σ' : L2.St} {vs : List Nat} (hl : σ'.length = σ.length) (h : ∀ j : Nat, j ∉ vs → σ'[j]? = σ[j]?) : wipe σ' vs = wipe σ vs := by
  apply List.ext_getElem?
  intro i
  by_cases hi : i ∈ vs
  · by_cases hb : i < σ.length
    · rw [wipe_in' hi hb, wipe_in' hi (by rw [hl]; exact hb)]
    · rw [List.getElem?_eq_none (by rw [wipe_length]; omega), List.getElem?_eq_none (by rw [wipe_length]; omega)]
  · rw [wipe_out' hi, wipe_out' hi, h i hi]
section
variable {C : Stc} {P P' F F' : Hp} {A A' : List Addr} {S S' : Sto} {Γ Γ' : Env} {σ σ' : L2.St} {H H' : Hp}
theorem Rel.weak (R : Rel C P F A S Γ σ H) (hs : Γ'.length = σ'.length) (h : ∀ (i : Nat) (s : Sl), Γ'[i]? = some s → s = .no ∨ (Γ[i]? = some s ∧ σ'[i]? = σ[i]?)) : Rel C P F A S Γ' σ' H := by
  have low : ∀ i : Nat, isOw Γ'[i]? = true → isOw Γ[i]? = true ∧ σ'[i]? = σ[i]? := fun i e => by
    cases hs : Γ'[i]? with
    | none => rw [hs] at e; cases e
    | some s =>
      rw [hs] at e
      rcases h i s hs with rfl | ⟨h1, h2⟩
      · cases e
      · exact ⟨by rw [h1]; exact e, h2⟩
  refine ⟨R.subF, R.subP, R.dis, R.len, hs, R.nd, R.free, R.obj, fun i s e => ?_, fun i a h1 h2 => ?_, fun i j a h1 h2 h3 h4 => ?_⟩
  · rcases h i s e with rfl | ⟨h1, h2⟩
    · trivial
    · rw [h2]; exact R.slot i s h1
  · obtain ⟨l1, l2⟩ := low i h1
    exact R.own i a l1 (l2 ▸ h2)
  · obtain ⟨l1, l2⟩ := low i h1
    obtain ⟨m1, m2⟩ := low j h2
    exact R.apart i j a l1 m1 (l2 ▸ h3) (m2 ▸ h4)
theorem Rel.wiped (R : Rel C P F A S Γ σ H) (vs : List Nat) : Rel C P F A S (wipeE Γ vs) (wipe σ vs) H := by
  refine R.weak (by rw [wipeE_length, wipe_length]; exact R.sz) fun i s e => ?_
  by_cases hi : i ∈ vs
  · exact .inl (wipeE_in hi e)
  · rw [wipeE_out hi] at e
    exact .inr ⟨e, wipe_out' hi⟩
/-- out of a block: what was known of the slots is known again -/
theorem Rel.unblk (R : Rel C P F A S Γ σ H) (R' : Rel C P' F' A' S' Γ' σ' H') (hP : ∀ b o, P b = some o → P' b = some o) (E : Ex F A F' A') (h : ∀ i : Nat, isOw Γ[i]? = true → Γ'[i]? = Γ[i]? ∧ σ'[i]? = σ[i]?) : Rel C P F' A' S' Γ σ H' := by
  have R'' := R'.less hP
  refine ⟨R''.subF, R''.subP, R''.dis, R''.len, R.sz, R''.nd, R''.free, R''.obj, fun i s e => ?_, fun i a h1 h2 => ?_, R.apart⟩
  · cases s with
    | no => trivial
    | im d => obtain ⟨x, e1, r⟩ := R.slot i _ e; exact ⟨x, e1, r.ex E⟩
    | ow o =>
      obtain ⟨h1, h2⟩ := h i (by rw [e]; rfl)
      have q := R''.slot i (.ow o) (h1.trans e)
      rw [h2] at q
      exact q
  · obtain ⟨h3, h4⟩ := h i h1
    exact R''.own i a (by rw [h3]; exact h1) (h4.trans h2)
end

/-! ### [e for x in xs if t] -/
def JTs (CA : Str → Addr) (X : Cx) (ifs : List Expr) (t : Mt) : Prop := PTs X ifs (Gx (cx CA X) tBool t)
def tYs : Mt := fun _ S => some (true, S)
theorem ptsI {X : Cx} {ifs : List Expr} {t t' : TT} (h : PTs X ifs t) (w : ∀ σ H Q, t' σ H Q → t σ H Q) : PTs X ifs t' := ⟨fun pins s σ H Q I hq => h.run pins s σ H Q I (w σ H Q hq)⟩
theorem jts_nil {CA : Str → Addr} {X : Cx} : JTs CA X [] tYs := ptsI pts_nil fun σ H Q ⟨P, F, A, S, Γ, d, S', R, h, q⟩ => by
  cases h
  exact q true F A H R Ex.refl rfl
theorem jts_one {CA : Str → Addr} {X : Cx} {c : Expr} {t : Mt} (h : JT CA X c t) : JTs CA X [c] t := pts_one h
def lcGo (g : Mg) (t : Mt) (m : Me) : List D → Ma
  | [], _, S => some ([], S)
  | d :: ds, Γ, S => (g d Γ).bind fun Γ1 => (t Γ1 S).bind fun b => if b.1 = true then (m Γ1 b.2).bind fun y => (lcGo g t m ds Γ y.2).map fun r => (y.1 :: r.1, r.2) else lcGo g t m ds Γ b.2
def okW (vs : List Nat) (Γ : Env) : Bool := vs.all fun i => !isOw Γ[i]?
def vLc (vs : List Nat) (it : Ma) (g : Mg) (t : Mt) (m : Me) : Mv := fun Γ S => if okW vs Γ = true then (it Γ S).bind fun r =>
    if r.1.length ≤ 16777216 then (lcGo g t m r.1 (wipeE Γ vs) r.2).map fun q => (.ow (.lst q.1), q.2) else none
  else none
theorem gv_lc {C : Stc} {vs ws : List Nat} {it : Ma} {g : Mg} {t : Mt} {m : Me} (hw : ∀ i ∈ ws, i ∈ vs) (hout : ∀ d Γ Γ', g d Γ = some Γ' → Γ'.length = Γ.length ∧ ∀ j : Nat, j ∉ ws → Γ'[j]? = Γ[j]?) (σ : L2.St) (H : Hp) (Q : VK) (h : Gv C (vLc vs it g t m) σ H Q) :
    tLc (IJ C it) (GJ C ws g) (Gx C tBool t) (Gx C (RD C.K) m) vs σ H Q := by
  obtain ⟨P, F, A, S, Γ, s, S', R, h, q⟩ := h
  unfold vLc at h
  split at h
  case isFalse => cases h
  case isTrue hok =>
  obtain ⟨ds, S1, h1, h⟩ := obind h
  simp only at h
  split at h
  case isFalse => cases h
  case isTrue hlen =>
  obtain ⟨⟨out, S2⟩, h2, h⟩ := omap h
  cases h
  refine ⟨P, F, A, S, Γ, ds, S1, R, h1, fun J F1 A1 H1 R1 E1 iD D hD => ?_⟩
  have hOw : ∀ i : Nat, isOw Γ[i]? = true → i ∉ vs := fun i e hi => by
    unfold okW at hok
    rw [List.all_eq_true] at hok
    have := hok i hi
    rw [e] at this
    cases this
  obtain ⟨n1, n2, n3, n4⟩ := R1.nown hD
  refine ⟨fun i mm H => i ≤ ds.length ∧ mm = ds.length - i ∧ ∃ F2 A2 S3 acc accD r, Rel C P F2 A2 S3 Γ σ H ∧ Ex F1 A1 F2 A2 ∧ H D = some (.lst acc) ∧ RDs C.K F2 A2 acc accD ∧ D ∉ A2 ∧ F2 D = none ∧ acc.length ≤ i ∧ lcGo g t m (ds.drop i) (wipeE Γ vs) S3 = some (r, S2) ∧ accD ++ r = out,
    ⟨ds.length, Nat.zero_le _, rfl, F1, A1, S1, [], [], out, R1.more hD _, Ex.refl, upd_same, .nil, n1, n2, Nat.le_refl _, by simpa using h2, rfl⟩, ?_⟩
  rintro i mm H2 ⟨hi, rfl, F2, A2, S3, acc, accD, r, R2, E2, hDl, racc, nA, nF, hal, h3, hfin⟩
  obtain ⟨hgo, hstop⟩ := iD.ex E2 i H2 R2.subF
  by_cases hl : i < ds.length
  · obtain ⟨g1, g2⟩ := hgo _ (List.getElem?_eq_getElem hl)
    rw [List.drop_eq_getElem_cons hl] at h3
    simp only [lcGo] at h3
    refine .inr ⟨g1, fun H' => ∃ F2 A2 S3 acc accD r, Rel C P F2 A2 S3 Γ σ H' ∧ Ex F1 A1 F2 A2 ∧ H' D = some (.lst acc) ∧ RDs C.K F2 A2 acc accD ∧ D ∉ A2 ∧ F2 D = none ∧ acc.length ≤ i + 1 ∧ lcGo g t m (ds.drop (i + 1)) (wipeE Γ vs) S3 = some (r, S2) ∧ accD ++ r = out,
      fun H' w => ⟨ds.length - (i + 1), by omega, hl, rfl, w⟩, fun x H3 hy => ?_⟩
    obtain ⟨F3, R3, E3, r3, keep⟩ := R2.yd (g2 x H3 hy)
    obtain ⟨hD3, nF3⟩ := keep D _ hDl nF
    cases h4 : g ds[i] (wipeE Γ vs) with
    | none => rw [h4] at h3; cases h3
    | some Γ4 =>
      rw [h4] at h3
      simp only [Option.bind_some] at h3
      have RB := (R3.hold hD3 nF3 nA n4).wiped vs
      refine ⟨upd P D (.lst acc), F3, A2, S3, wipeE Γ vs, ds[i], Γ4, RB, r3, h4, fun σ4 R4 sm => ?_⟩
      have hwipe : wipe σ4 vs = wipe σ vs := by
        refine wipe_ext (by rw [sm.1, wipe_length]) fun j hj => ?_
        rw [sm.2 j (fun z => hj (hw j z)), wipe_out' hj]
      refine ⟨hwipe, ?_⟩
      -- what an owned slot is within the block
      have blk : ∀ i : Nat, isOw Γ[i]? = true → Γ4[i]? = Γ[i]? ∧ σ4[i]? = σ[i]? := fun j hj => by
        have hjv := hOw j hj
        refine ⟨?_, ?_⟩
        · rw [(hout _ _ _ h4).2 j (fun z => hjv (hw j z)), wipeE_out hjv]
        · rw [sm.2 j (fun z => hjv (hw j z)), wipe_out' hjv]
      have nP4 : ∀ b o, P b = some o → upd P D (.lst acc) b = some o := fun b o e => by
        rw [upd_ne (ne_of_none e n3)]; exact e
      cases h5 : t Γ4 S3 with
      | none => rw [h5] at h3; cases h3
      | some b =>
        obtain ⟨b, S5⟩ := b
        rw [h5] at h3
        simp only [Option.bind_some] at h3
        refine ⟨upd P D (.lst acc), F3, A2, S3, Γ4, b, S5, R4, h5, fun b' F5 A5 H5 R5 E5 rb => ?_⟩
        cases rb
        by_cases hb : b = true
        · rw [if_pos hb]
          simp only [hb, if_true] at h3
          cases h6 : m Γ4 S5 with
          | none => rw [h6] at h3; cases h3
          | some y =>
            obtain ⟨y, S6⟩ := y
            rw [h6] at h3
            simp only [Option.bind_some] at h3
            obtain ⟨⟨r', S7⟩, h7, h3⟩ := omap h3
            cases h3
            refine ⟨upd P D (.lst acc), F5, A5, S5, Γ4, y, S6, R5, h6, fun yv F6 A6 H6 R6 E6 ry => ?_⟩
            have hD6 : H6 D = some (.lst acc) := R6.subP D _ upd_same
            have nF6 : F6 D = none := by
              cases z : F6 D with
              | none => rfl
              | some u => have := R6.dis D u z; rw [upd_same] at this; cases this
            have nA6 : D ∉ A6 := fun z => by have := (R6.free D z).2; rw [upd_same] at this; cases this
            have E36 := E3.trans (E5.trans E6)
            have R7 : Rel C P F6 A6 S6 Γ σ H6 := R2.unblk R6 nP4 E36 blk
            refine ⟨acc, hD6, by rw [sizeLine_eq]; omega, F6, A6, S6, acc ++ [yv], accD ++ [y], r', R7.poke _ nA6 nF6 n3 n4, E2.trans E36, upd_same, (racc.ex E36).append (.cons ry .nil), nA6, nF6, by rw [List.length_append]; simp; omega, h7, ?_⟩
            rw [List.append_assoc]
            exact hfin
        · rw [if_neg hb]
          simp only [hb, if_false] at h3
          have hD5 : H5 D = some (.lst acc) := R5.subP D _ upd_same
          have nF5 : F5 D = none := by
            cases z : F5 D with
            | none => rfl
            | some u => have := R5.dis D u z; rw [upd_same] at this; cases this
          have nA5 : D ∉ A5 := fun z => by have := (R5.free D z).2; rw [upd_same] at this; cases this
          have E35 := E3.trans E5
          exact ⟨F5, A5, S5, acc, accD, r, R2.unblk R5 nP4 E35 blk, E2.trans E35, hD5, racc.ex E35, nA5, nF5, by omega, h3, hfin⟩
  · refine .inl ⟨hstop (by omega), ?_⟩
    rw [List.drop_eq_nil_of_le (by omega)] at h3
    cases h3
    rw [List.append_nil] at hfin
    subst hfin
    exact q (.ref D) F2 A2 H2 R2 (E1.trans E2) ⟨D, rfl, ⟨acc, hDl, racc⟩, nA, nF, n3, n4⟩
section
variable {CA : Str → Addr} {X : Cx} {elt tg iter : Expr} {ifs : List Expr} {scope : Scope} {own : List (Str × Nat)} {pos : Pos} {ws : List Nat} {it : Ma} {g : Mg} {t : Mt} {m : Me}
theorem jv_lc (hc : X.calm = true) (hN : X.N.Nodup) (hi : JI CA X tg iter it) (ok : BlkOk X.N X.env.scope scope own)
    (hg : ∀ (s : Shared) (H : Hp) (C : Addr) (cl : List (Str × Addr)) (fp : List Addr), JG CA (X.blk s H scope (compEnvC scope cl C X.env) fp) tg ws g) (ht : ∀ (s : Shared) (H : Hp) (C : Addr) (cl : List (Str × Addr)) (fp : List Addr), JTs CA (X.blk s H scope (compEnvC scope cl C X.env) fp) ifs t)
    (he : ∀ (s : Shared) (H : Hp) (C : Addr) (cl : List (Str × Addr)) (fp : List Addr), JE CA (X.blk s H scope (compEnvC scope cl C X.env) fp) elt m) (hw : ∀ i ∈ ws, i ∈ own.map (·.2) := by decide) (hs : ∀ x, foldedSetIterable iter X.env x = pure x := by intro _; rfl) :
    JV CA X (.ListComp elt [⟨tg, iter, ifs, 0⟩] scope pos) (vLc (own.map (·.2)) it g t m) :=
  peI (pe_lc hc hN hi ok (g := GJ (cx CA X) ws g) (tt := Gx (cx CA X) tBool t) (te := Gx (cx CA X) (RD X.K) m) (fun s H C cl fp => (hg s H C cl fp).pg) ht he hs) fun σ H Q q => gv_lc hw (fun d Γ Γ' h => (hg ({} : Shared) (fun _ => none) 0 [] []).out d Γ Γ' h) σ H Q q
/-- y = [..] where the name is stored within the block -/
theorem js_setLc {i : Nat} {y : Str} {py spos : Pos} (hc : X.calm = true) (hN : X.N.Nodup) (hy : X.N[i]? = some y) (hyl : X.env.scope.names.lookup y = some .local)
    (hsw : swapsWith (.ListComp elt [⟨tg, iter, ifs, 0⟩] scope pos) (some (.Name y py)) spos.line X.env = pure true) (hi : JI CA X tg iter it) (ok : BlkOk X.N X.env.scope scope own)
    (hg : ∀ (s : Shared) (H : Hp) (C : Addr) (cl : List (Str × Addr)) (fp : List Addr), JG CA (X.blk s H scope (compEnvC scope cl C X.env) fp) tg ws g) (ht : ∀ (s : Shared) (H : Hp) (C : Addr) (cl : List (Str × Addr)) (fp : List Addr), JTs CA (X.blk s H scope (compEnvC scope cl C X.env) fp) ifs t)
    (he : ∀ (s : Shared) (H : Hp) (C : Addr) (cl : List (Str × Addr)) (fp : List Addr), JE CA (X.blk s H scope (compEnvC scope cl C X.env) fp) elt m) (hw : ∀ i ∈ ws, i ∈ own.map (·.2) := by decide) (hs : ∀ x, foldedSetIterable iter X.env x = pure x := by intro _; rfl) :
    JS CA X (.Assign [.Name y py] (.ListComp elt [⟨tg, iter, ifs, 0⟩] scope pos) spos) (sSetV i (vLc (own.map (·.2)) it g t m)) :=
  psI (ps_setLc hc hN hy hyl hsw hi ok (g := GJ (cx CA X) ws g) (tt := Gx (cx CA X) tBool t) (te := Gx (cx CA X) (RD X.K) m) (fun s H C cl fp => (hg s H C cl fp).pg) ht he hs) fun Dn σ H ⟨P, F, A, S, Γ, o, Γ', S', R, h, q⟩ => by
  obtain ⟨⟨s, S1⟩, h1, h⟩ := omap h
  cases h
  refine gv_lc hw (fun d Γ Γ' h => (hg ({} : Shared) (fun _ => none) 0 [] []).out d Γ Γ' h) σ H (fun x H1 => gName i x σ H1 Dn.nx) ?_
  exact ⟨P, F, A, S, Γ, s, S1, R, h1, fun v F1 A1 H1 R1 E1 r1 => q _ F1 A1 H1 (putSl R1 i r1) E1⟩
end
end J
/-! J7: objects that change: lists by a name of their own or in the store. -/
namespace J
open PySem PySem.Spec PyProof.Rows L2

/-- where an object that changes is held: a slot's own, or the store's n-th -/
inductive Hd where
  | sl (i : Nat) | st (n : Nat)
def Hd.get (h : Hd) (Γ : Env) (S : Sto) : Option Ob := match h with
  | .sl i => match Γ[i]? with
    | some (.ow o) => some o
    | _ => none
  | .st n => S[n]?
def Hd.set (h : Hd) (o : Ob) (Γ : Env) (S : Sto) : Env × Sto := match h with
  | .sl i => (Γ.set i (.ow o), S)
  | .st n => (Γ, S.set n o)
def HdR (σ : L2.St) (Γ : Env) (A : List Addr) (h : Hd) (a : Addr) : Prop := match h with
  | .sl i => σ[i]? = some (some (V.ref a)) ∧ isOw Γ[i]? = true
  | .st n => A[n]? = some a
section
variable {C : Stc} {P F F' : Hp} {A A' : List Addr} {S S' : Sto} {Γ : Env} {σ : L2.St} {H H' : Hp} {h : Hd} {a : Addr} {o o' : Ob}
theorem HdR.ex (x : HdR σ Γ A h a) (E : Ex F A F' A') : HdR σ Γ A' h a := by
  cases h with
  | sl i => exact x
  | st n => exact get_pre E.a x
theorem Rel.at (R : Rel C P F A S Γ σ H) (x : HdR σ Γ A h a) (e : h.get Γ S = some o) : ObR C.K F A C.CA H a o := by
  cases h with
  | sl i =>
    simp only [Hd.get] at e
    split at e
    · next o1 e1 =>
      cases e
      obtain ⟨a', h1, h2⟩ := R.slot i _ e1
      rw [x.1] at h1
      cases h1
      exact h2
    · cases e
  | st n => exact R.obj n a o x e
theorem Rel.apartF (R : Rel C P F A S Γ σ H) (x : HdR σ Γ A h a) : F a = none ∧ P a = none := by
  cases h with
  | sl i => exact ⟨(R.own i a x.2 x.1).2.1, (R.own i a x.2 x.1).2.2⟩
  | st n => exact R.free a (List.mem_of_getElem? x)
/-- the object is changed -/
theorem Rel.write (R : Rel C P F A S Γ σ H) (x : HdR σ Γ A h a) (e : h.get Γ S = some o) {u : HO} (r : ObR C.K F A C.CA (upd H a u) a o') : Rel C P F A (h.set o' Γ S).2 (h.set o' Γ S).1 σ (upd H a u) := by
  obtain ⟨nF, nP⟩ := R.apartF x
  have subF : ∀ b w, F b = some w → upd H a u b = some w := fun b w q => by rw [upd_ne (ne_of_none q nF)]; exact R.subF b w q
  have subP : ∀ b w, P b = some w → upd H a u b = some w := fun b w q => by rw [upd_ne (ne_of_none q nP)]; exact R.subP b w q
  have keep : ∀ {b : Addr} {ob : Ob}, b ≠ a → ObR C.K F A C.CA H b ob → ObR C.K F A C.CA (upd H a u) b ob := fun {b ob} hb q => q.mono (fun _ _ h => h) (List.prefix_refl _) (upd_ne hb)
  cases h with
  | sl i =>
    have hi : i < Γ.length := by
      cases q : Γ[i]? with
      | none => have := x.2; rw [q] at this; cases this
      | some s => exact (List.getElem?_eq_some_iff.mp q).1
    have nA : a ∉ A := (R.own i a x.2 x.1).1
    have gi : (Γ.set i (Sl.ow o'))[i]? = some (.ow o') := List.getElem?_set_self hi
    have gg : ∀ {j : Nat}, j ≠ i → (Γ.set i (Sl.ow o'))[j]? = Γ[j]? := fun {j} h => List.getElem?_set_ne (fun e => h e.symm)
    have iso : ∀ j : Nat, isOw (Γ.set i (Sl.ow o'))[j]? = isOw Γ[j]? := fun j => by
      by_cases hj : j = i
      · subst hj; rw [gi, x.2]; rfl
      · rw [gg hj]
    show Rel C P F A S (Γ.set i (.ow o')) σ (upd H a u)
    refine ⟨subF, subP, R.dis, R.len, by rw [List.length_set]; exact R.sz, R.nd, R.free, fun n b ob h1 h2 => keep (fun z => nA (z ▸ List.mem_of_getElem? h1)) (R.obj n b ob h1 h2), fun j s q => ?_, fun j b h1 h2 => ?_, fun j k b h1 h2 h3 h4 => ?_⟩
    · by_cases hj : j = i
      · subst hj
        rw [gi] at q
        cases q
        exact ⟨a, x.1, r⟩
      · rw [gg hj] at q
        have w := R.slot j s q
        cases s with
        | no => trivial
        | im d => exact w
        | ow ob =>
          obtain ⟨b, e1, r1⟩ := w
          refine ⟨b, e1, keep (fun z => ?_) r1⟩
          subst z
          exact hj (R.apart j i b (by rw [q]; rfl) x.2 e1 x.1)
    · rw [iso] at h1
      exact R.own j b h1 h2
    · rw [iso] at h1 h2
      exact R.apart j k b h1 h2 h3 h4
  | st n =>
    have hn : n < S.length := by rw [← R.len]; exact (List.getElem?_eq_some_iff.mp x).1
    show Rel C P F A (S.set n o') Γ σ (upd H a u)
    refine ⟨subF, subP, R.dis, by rw [List.length_set]; exact R.len, R.sz, R.nd, R.free, fun k b ob h1 h2 => ?_, fun j s q => ?_, R.own, R.apart⟩
    · by_cases hk : k = n
      · subst hk
        rw [List.getElem?_set_self hn] at h2
        cases h2
        have ea : b = a := Option.some.inj (h1.symm.trans x)
        subst ea
        exact r
      · rw [List.getElem?_set_ne (fun z => hk z.symm)] at h2
        refine keep (fun z => hk ?_) (R.obj k b ob h1 h2)
        subst z
        obtain ⟨l1, e1⟩ := List.getElem?_eq_some_iff.mp h1
        obtain ⟨l2, e2⟩ := List.getElem?_eq_some_iff.mp x
        exact (List.getElem_inj R.nd).mp (e1.trans e2.symm)
    · have w := R.slot j s q
      cases s with
      | no => trivial
      | im d => exact w
      | ow ob =>
        obtain ⟨b, e1, r1⟩ := w
        refine ⟨b, e1, keep (fun z => ?_) r1⟩
        subst z
        exact (R.own j b (by rw [q]; rfl) e1).1 (List.mem_of_getElem? x)
end

abbrev Mp := Env → Sto → Option (Hd × Sto)
def Gp (C : Stc) (f : Mp) : TE := fun σ H Q => ∃ P F A S Γ h S', Rel C P F A S Γ σ H ∧ f Γ S = some (h, S') ∧ ∀ a F' A' H', Rel C P F' A' S' Γ σ H' → Ex F A F' A' → HdR σ Γ A' h a → Q (.ref a) H'
/-- an expression that is such an object -/
def JP (CA : Str → Addr) (X : Cx) (e : Expr) (f : Mp) : Prop := PE X e (Gp (cx CA X) f)
def pO (i : Nat) : Mp := fun Γ S => if isOw Γ[i]? = true then some (.sl i, S) else none
def pR (m : Me) : Mp := fun Γ S => (m Γ S).bind fun r => match r.1 with
  | .ref n => some (.st n, r.2)
  | _ => none
/-- reading -/
def eP1 (g : Ob → Option D) (p : Mp) : Me := fun Γ S => (p Γ S).bind fun r => (r.1.get Γ r.2).bind fun o => (g o).map fun d => (d, r.2)
def eP2 (g : Ob → D → Option D) (p : Mp) (m : Me) : Me := fun Γ S => (p Γ S).bind fun r => (m Γ r.2).bind fun q => (r.1.get Γ q.2).bind fun o => (g o q.1).map fun d => (d, q.2)
def eQ2 (g : D → Ob → Option D) (m : Me) (p : Mp) : Me := fun Γ S => (m Γ S).bind fun q => (p Γ q.2).bind fun r => (r.1.get Γ r.2).bind fun o => (g q.1 o).map fun d => (d, r.2)
/-- writing, as statements: a method's argument; an item -/
def Ob.isL : Ob → Bool
  | .lst _ => true
  | _ => false
def sP1 (k : Ob → Bool) (g : Ob → D → Option Ob) (p : Mp) (m : Me) : Ms := fun Γ S => (p Γ S).bind fun r => (r.1.get Γ r.2).bind fun o0 => if k o0 = true then (m Γ r.2).bind fun q => (r.1.get Γ q.2).bind fun o => (g o q.1).map fun o' => (.nx, r.1.set o' Γ q.2) else none
def sP2 (g : Ob → D → D → Option Ob) (m : Me) (p : Mp) (k : Me) : Ms := fun Γ S => (m Γ S).bind fun v => (p Γ v.2).bind fun r => (k Γ r.2).bind fun q => (r.1.get Γ q.2).bind fun o => (g o q.1 v.1).map fun o' => (.nx, r.1.set o' Γ q.2)
section
variable {CA : Str → Addr} {X : Cx} {e o : Expr} {es : List Expr} {pos : Pos} {p : Mp} {m : Me}
theorem jp_o (i : Nat) {x : Str} {pos : Pos} (hN : X.N[i]? = some x := by rfl) (hv : Vis X.env.scope x := by first | exact Or.inl rfl | exact Or.inr (Or.inl rfl) | exact Or.inr (Or.inr rfl)) (hd : (x == ("__debug__" : Str)) = false := by decide)
    (hcd : (x == ("__classdict__" : Str)) = false := by decide) : JP CA X (.Name x pos) (pO i) := peI (pe_var hN hv hd hcd) fun σ H Q ⟨P, F, A, S, Γ, h, S', R, w, q⟩ => by
  unfold pO at w
  split at w
  · next hi =>
    cases w
    cases hs : Γ[i]? with
    | none => rw [hs] at hi; cases hi
    | some s =>
      cases s with
      | ow ob =>
        obtain ⟨a, e1, r⟩ := R.slot i _ hs
        exact ⟨_, e1, q a F A H R Ex.refl ⟨e1, hi⟩⟩
      | _ => rw [hs] at hi; cases hi
  · cases w
theorem jp_r (h : JE CA X e m) : JP CA X e (pR m) := peI h fun σ H Q ⟨P, F, A, S, Γ, h, S', R, w, q⟩ => by
  obtain ⟨d, S1, h1, w⟩ := obind w
  refine ⟨P, F, A, S, Γ, d, S1, R, h1, fun v F1 A1 H1 R1 E1 r1 => ?_⟩
  cases d with
  | ref n =>
    cases w
    cases r1 with
    | ref e1 => exact q _ F1 A1 H1 R1 E1 e1
  | _ => cases w
/-! a[i], len(a), a list -/
def gIxP : Ob → D → Option D
  | .lst xs, .int i => atI xs i
  | _, _ => none
def gLenP : Ob → Option D
  | .lst xs => some (.int xs.length)
  | _ => none
theorem ObR.isLst {K : PySem.W.Frag} {F : Hp} {A : List Addr} {H : Hp} {a : Addr} {xs : List D} (h : ObR K F A CA H a (.lst xs)) : ∃ vs, H a = some (.lst vs) ∧ RDs K F A vs xs := h
theorem je_ixP (ho : JP CA X o p) (he : JE CA X e m) (hs : PlainIx e := by exact fun _ _ => rfl) : JE CA X (.Subscript o e pos) (eP2 gIxP p m) :=
  peI (pe_ix ix_list ho he hs) fun σ H Q ⟨P, F, A, S, Γ, d, S', R, w, q⟩ => by
  obtain ⟨h, S1, h1, w⟩ := obind w
  obtain ⟨k, S2, h2, w⟩ := obind w
  refine ⟨P, F, A, S, Γ, h, S1, R, h1, fun a F1 A1 H1 R1 E1 r1 => ⟨P, F1, A1, S1, Γ, k, S2, R1, h2, fun v F2 A2 H2 R2 E2 r2 => ?_⟩⟩
  cases ho : h.get Γ S2 with
  | none => rw [ho] at w; cases w
  | some ob =>
    rw [ho] at w
    obtain ⟨z, h3, w⟩ := omap w
    cases w
    cases ob with
    | lst xs =>
      cases k with
      | int i =>
        cases r2
        obtain ⟨vs, e1, rv⟩ := ObR.isLst (R2.at (r1.ex E2) ho)
        obtain ⟨v, h4, h5⟩ := atI_rd rv (show atI xs i = some _ from h3)
        exact ⟨a, vs, i, v, rfl, rfl, .inl (.inl e1), h4, q v F2 A2 H2 R2 (E1.trans E2) h5⟩
      | _ => cases h3
    | _ => cases h3
theorem je_lenP {x : Pos} (hg : Gl X "len") (hm : X.mg "len" = none) (ho : JP CA X o p) (he : starEach [o] X.env = (false, eval o X.env) :: starEach [] X.env := by rfl) (hpl : (backTo pos (starEach [] X.env)).any (·.1) = false := by rfl) : JE CA X (.Call (.Name "len" x) [o] [] pos) (eP1 gLenP p) :=
  peI (pe_callB call_len hg hm PySem.boot_len (pa_cons ho pa_nil he) (he := he) (hpl := hpl)) fun σ H Q ⟨P, F, A, S, Γ, d, S', R, w, q⟩ => by
  obtain ⟨h, S1, h1, w⟩ := obind w
  refine ⟨P, F, A, S, Γ, h, S1, R, h1, fun a F1 A1 H1 R1 E1 r1 => ?_⟩
  cases ho : h.get Γ S1 with
  | none => simp only [ho] at w; cases w
  | some ob =>
    simp only [ho, Option.bind_some] at w
    obtain ⟨z, h3, w⟩ := omap w
    cases w
    cases ob with
    | lst xs =>
      cases h3
      obtain ⟨vs, e1, rv⟩ := ObR.isLst (R1.at r1 ho)
      exact ⟨_, xs.length, rfl, .inl ⟨vs, .inl (.inl e1), rv.length.symm⟩, q _ F1 A1 H1 R1 E1 (.int _)⟩
    | _ => cases h3
/-! x in a, x not in a: a list -/
def gInP : D → Ob → Option D
  | d, .lst xs => gIn d (.lst xs)
  | _, _ => none
def gNiP : D → Ob → Option D
  | d, .lst xs => gNi d (.lst xs)
  | _, _ => none
/-- a list read for a moment as one that stands still -/
theorem Rel.temp {C : Stc} {P F : Hp} {A : List Addr} {S : Sto} {Γ : Env} {σ : L2.St} {H : Hp} {a : Addr} {vs : List V} {xs : List D} (R : Rel C P F A S Γ σ H) (nF : F a = none) (h : H a = some (.lst vs)) (r : RDs C.K F A vs xs) :
    (∀ b u, upd F a (.lst vs) b = some u → H b = some u) ∧ (∀ b u, F b = some u → upd F a (.lst vs) b = some u) ∧ RD C.K (upd F a (.lst vs)) A (.ref a) (.lst xs) := by
  have mF : ∀ b u, F b = some u → upd F a (.lst vs) b = some u := fun b u e => by rw [upd_ne (ne_of_none e nF)]; exact e
  refine ⟨fun b u e => ?_, mF, .lst upd_same (r.mono mF (List.prefix_refl _))⟩
  by_cases hb : b = a
  · subst hb; rw [upd_same] at e; rw [h]; exact e
  · rw [upd_ne hb] at e; exact R.subF b u e
theorem je_inP (hu : X.A.units + 64 < cLine) (he : JE CA X e m) (ho : JP CA X o p) (hm : behindInMarks .In o = false := by rfl) : JE CA X (.Compare e [.In] [o] pos) (eQ2 gInP m p) :=
  peI (pe_cmpR (op_inJ hu) he ho hm) fun σ H Q ⟨P, F, A, S, Γ, d, S', R, w, q⟩ => by
  obtain ⟨k, S1, h1, w⟩ := obind w
  obtain ⟨h, S2, h2, w⟩ := obind w
  refine ⟨P, F, A, S, Γ, k, S1, R, h1, fun v F1 A1 H1 R1 E1 r1 => ⟨P, F1, A1, S1, Γ, h, S2, R1, h2, fun a F2 A2 H2 R2 E2 r2 => ?_⟩⟩
  cases ho : h.get Γ S2 with
  | none => simp only [ho] at w; cases w
  | some ob =>
    simp only [ho, Option.bind_some] at w
    obtain ⟨z, h3, w⟩ := omap w
    cases w
    cases ob with
    | lst xs =>
      obtain ⟨vs, e1, rv⟩ := ObR.isLst (R2.at r2 ho)
      obtain ⟨t1, t2, t3⟩ := R2.temp (R2.apartF r2).1 e1 rv
      obtain ⟨b, h4, h5⟩ := omap (show (gIn0 k (.lst xs)).map D.bl = some _ from h3)
      cases h5
      exact ⟨_, A2, k, .lst xs, b, t1, (r1.ex E2).mono t2 (List.prefix_refl _), t3, h4, q _ F2 A2 H2 R2 (E1.trans E2) (.bl _)⟩
    | _ => cases h3
theorem je_niP (hu : X.A.units + 64 < cLine) (he : JE CA X e m) (ho : JP CA X o p) (hm : behindInMarks .NotIn o = false := by rfl) : JE CA X (.Compare e [.NotIn] [o] pos) (eQ2 gNiP m p) :=
  peI (pe_cmpR (op_niJ hu) he ho hm) fun σ H Q ⟨P, F, A, S, Γ, d, S', R, w, q⟩ => by
  obtain ⟨k, S1, h1, w⟩ := obind w
  obtain ⟨h, S2, h2, w⟩ := obind w
  refine ⟨P, F, A, S, Γ, k, S1, R, h1, fun v F1 A1 H1 R1 E1 r1 => ⟨P, F1, A1, S1, Γ, h, S2, R1, h2, fun a F2 A2 H2 R2 E2 r2 => ?_⟩⟩
  cases ho : h.get Γ S2 with
  | none => simp only [ho] at w; cases w
  | some ob =>
    simp only [ho, Option.bind_some] at w
    obtain ⟨z, h3, w⟩ := omap w
    cases w
    cases ob with
    | lst xs =>
      obtain ⟨vs, e1, rv⟩ := ObR.isLst (R2.at r2 ho)
      obtain ⟨t1, t2, t3⟩ := R2.temp (R2.apartF r2).1 e1 rv
      obtain ⟨b, h4, h5⟩ := omap (show (gIn0 k (.lst xs)).map (fun b => D.bl (!b)) = some _ from h3)
      cases h5
      exact ⟨_, A2, k, .lst xs, b, t1, (r1.ex E2).mono t2 (List.prefix_refl _), t3, h4, q _ F2 A2 H2 R2 (E1.trans E2) (.bl _)⟩
    | _ => cases h3
/-! a.append(e), a.extend(e), a[i] = e -/
def gApp : Ob → D → Option Ob
  | .lst xs, d => if xs.length < 16777216 then some (.lst (xs ++ [d])) else none
  | _, _ => none
def gExt : Ob → D → Option Ob
  | .lst xs, .lst ys => if xs.length + ys.length ≤ 16777216 then some (.lst (xs ++ ys)) else none
  | _, _ => none
def gPut : Ob → D → D → Option Ob
  | .lst xs, .int i, d => (ixN xs.length i).map fun j => .lst (xs.set j d)
  | _, _, _ => none
theorem isL_of {o : Ob} (h : o.isL = true) : ∃ xs, o = .lst xs := by
  cases o with
  | lst xs => exact ⟨xs, rfl⟩
  | _ => cases h
theorem some3 {α : Type} {o o' : α} {Γ' : Env} {S' : Sto} {x : Env × Sto} (h : some (o, x) = some (o', Γ', S')) : o' = o ∧ Γ' = x.1 ∧ S' = x.2 := by
  have e := Option.some.inj h
  exact ⟨(congrArg Prod.fst e).symm, (congrArg (fun z => z.2.1) e).symm, (congrArg (fun z => z.2.2) e).symm⟩
/-- what a method that changes a list by one argument asks -/
theorem sx_p1 {r : V → List V → Hp → VK → Prop} {g : Ob → D → Option Ob}
    (hr : ∀ (F A : _) (H : Hp) (a : Addr) (v : V) (o o' : Ob) (d : D) (K : PySem.W.Frag) (Q : VK), (∀ b u, F b = some u → H b = some u) → F a = none → ObR K F A CA H a o → RD K F A v d → g o d = some o' →
      (∀ x u, ObR K F A CA (upd H a u) a o' → Q x (upd H a u)) → r (.ref a) [v] H Q) {Dn : Ends} {σ : L2.St} {H : Hp} (w : Sx (cx CA X) (sP1 Ob.isL g p m) Dn σ H) :
    tDrop (tBM X.K "list" r (Gp (cx CA X) p) (tCons (Gx (cx CA X) (RD X.K) m) tNil)) Dn σ H := by
  obtain ⟨P, F, A, S, Γ, oo, Γ', S', R, w, q⟩ := w
  obtain ⟨h, S1, h1, w⟩ := obind w
  cases h0 : h.get Γ S1 with
  | none => simp only [h0] at w; cases w
  | some o0 =>
    simp only [h0, Option.bind_some] at w
    split at w
    case isFalse => cases w
    case isTrue hl0 =>
    obtain ⟨k, S2, h2, w⟩ := obind w
    cases ho : h.get Γ S2 with
    | none => simp only [ho] at w; cases w
    | some ob =>
      simp only [ho, Option.bind_some] at w
      obtain ⟨ob', h3, w⟩ := omap w
      obtain ⟨rfl, rfl, rfl⟩ := some3 (congrArg some w)
      refine ⟨P, F, A, S, Γ, h, S1, R, h1, fun a F1 A1 H1 R1 E1 r1 => ⟨?_, P, F1, A1, S1, Γ, k, S2, R1, h2, fun v F2 A2 H2 R2 E2 r2 => ?_⟩⟩
      · obtain ⟨xs, rfl⟩ := isL_of hl0
        obtain ⟨vs, e1, rv⟩ := ObR.isLst (R1.at r1 h0)
        exact .inl ⟨rfl, vs, .inl (.inl e1)⟩
      · have r1' := r1.ex E2
        exact hr F2 A2 H2 a v ob ob' k X.K _ R2.subF (R2.apartF r1').1 (R2.at r1' ho) r2 h3 fun x u hu => q σ F2 A2 _ (R2.write r1' ho hu) (E1.trans E2)
theorem js_app {apos cpos epos : Pos} (ho : JP CA X o p) (he : JE CA X e m)
    (hpe : ∀ (to te : TE), PE X o to → PE X e te → PE X (.Call (.Attribute o "append" apos) [e] [] cpos) (tBM X.K "list" rAppend to (tCons te tNil)) := by
      exact fun to te h1 h2 => pe_bm PySem.F.plainAttrs_list PySem.F.slot_list_append PySem.F.type_list_append mt_append h1 (pa_cons h2 pa_nil))
    (hs : swapsWith (.Call (.Attribute o "append" apos) [e] [] cpos) none epos.line X.env = pure false := by rfl) : JS CA X (.Expr (.Call (.Attribute o "append" apos) [e] [] cpos) epos) (sP1 Ob.isL gApp p m) :=
  psI (ps_expr (hpe _ _ ho he) hs) fun Dn σ H w => sx_p1 (fun F A H a v o o' d K Q sub nF ro rd hg q => by
    cases o with
    | lst xs =>
      simp only [gApp] at hg
      split at hg
      · next hl =>
        cases hg
        obtain ⟨vs, e1, rv⟩ := ObR.isLst ro
        exact ⟨a, vs, v, rfl, rfl, e1, by rw [rv.length, sizeLine_eq]; exact hl, q _ _ ⟨vs ++ [v], upd_same, rv.append (.cons rd .nil)⟩⟩
      · cases hg
    | _ => cases hg) w
theorem js_ext {apos cpos epos : Pos} (ho : JP CA X o p) (he : JE CA X e m)
    (hpe : ∀ (to te : TE), PE X o to → PE X e te → PE X (.Call (.Attribute o "extend" apos) [e] [] cpos) (tBM X.K "list" rExtend to (tCons te tNil)) := by
      exact fun to te h1 h2 => pe_bm PySem.F.plainAttrs_list PySem.F.slot_list_extend PySem.F.type_list_extend mt_extend h1 (pa_cons h2 pa_nil))
    (hs : swapsWith (.Call (.Attribute o "extend" apos) [e] [] cpos) none epos.line X.env = pure false := by rfl) : JS CA X (.Expr (.Call (.Attribute o "extend" apos) [e] [] cpos) epos) (sP1 Ob.isL gExt p m) :=
  psI (ps_expr (hpe _ _ ho he) hs) fun Dn σ H w => sx_p1 (fun F A H a v o o' d K Q sub nF ro rd hg q => by
    cases o with
    | lst xs =>
      cases d with
      | lst ys =>
        simp only [gExt] at hg
        split at hg
        · next hl =>
          cases hg
          obtain ⟨vs, e1, rv⟩ := ObR.isLst ro
          obtain ⟨b, ws, rfl, e2, rw'⟩ := rd.notLst
          exact ⟨a, b, vs, ws, rfl, rfl, e1, sub _ _ e2, by rw [rv.length, rw'.length, sizeLine_eq]; exact hl, q _ _ ⟨vs ++ ws, upd_same, rv.append rw'⟩⟩
        · cases hg
      | _ => cases hg
    | _ => cases hg) w
/-- a[i] = e -/
theorem js_put {ipos : Pos} {i : Expr} {mv mi : Me} (hv : JE CA X e mv) (ho : JP CA X o p) (hi : JE CA X i mi)
    (hs : swapsWithSole [.Subscript o i ipos] e pos.line X.env = pure false := by rfl) (hw : swappedStores [.Subscript o i ipos] e X.env = pure none := by rfl)
    (h1 : (assignEach [.Subscript o i ipos] X.env).map (·.2) = [assign (.Subscript o i ipos) X.env] := by rfl)
    (ha : ∀ v, assign (.Subscript o i ipos) X.env v = (do
      let ov ← holding [v] (eval o X.env)
      let iv ← holding [v, ov] (eval i X.env)
      standAt ipos
      holding [v, ov, iv] (setItem ov iv v)
      release [v, ov, iv] []) := by intro _; rfl) : JS CA X (.Assign [.Subscript o i ipos] e pos) (sP2 gPut mv p mi) :=
  psI (ps_asg hv (pg_sub ho hi set_list ha) hs hw h1) fun Dn σ H ⟨P, F, A, S, Γ, oo, Γ', S', R, w, q⟩ => by
  obtain ⟨dv, S1, h1, w⟩ := obind w
  obtain ⟨h, S2, h2, w⟩ := obind w
  obtain ⟨di, S3, h3, w⟩ := obind w
  cases ho : h.get Γ S3 with
  | none => simp only [ho] at w; cases w
  | some ob =>
    simp only [ho, Option.bind_some] at w
    obtain ⟨ob', h4, w⟩ := omap w
    obtain ⟨rfl, rfl, rfl⟩ := some3 (congrArg some w)
    refine ⟨P, F, A, S, Γ, dv, S1, R, h1, fun v F1 A1 H1 R1 E1 r1 => ⟨P, F1, A1, S1, Γ, h, S2, R1, h2, fun a F2 A2 H2 R2 E2 r2 => ⟨P, F2, A2, S2, Γ, di, S3, R2, h3, fun iv F3 A3 H3 R3 E3 r3 => ?_⟩⟩⟩
    cases ob with
    | lst xs =>
      cases di with
      | int k =>
        obtain ⟨j, h5, h6⟩ := omap (show (ixN xs.length k).map (fun j => Ob.lst (xs.set j dv)) = some ob' from h4)
        subst h6
        cases r3
        obtain ⟨vs, e1, rv⟩ := ObR.isLst (R3.at (r2.ex E3) ho)
        refine ⟨a, vs, k, j, rfl, rfl, e1, by rw [rv.length]; exact h5, ?_⟩
        exact q σ F3 A3 _ (R3.write (r2.ex E3) ho (o' := .lst (xs.set j dv)) ⟨vs.set j v, upd_same, rv.set j (r1.ex (E2.trans E3))⟩) (E1.trans (E2.trans E3))
      | _ => cases h4
    | _ => cases h4
/-- x = [..]: a new list in the store -/
def sNew (i : Nat) (a : Ma) : Ms := fun Γ S => (a Γ S).bind fun r => if r.1.length ≤ 16777216 then some (.nx, Γ.set i (.im (.ref r.2.length)), r.2 ++ [.lst r.1]) else none
theorem Rel.alloc {C : Stc} {P F : Hp} {A : List Addr} {S : Sto} {Γ : Env} {σ : L2.St} {H : Hp} {a : Addr} {ob : Ob} (R : Rel C P F A S Γ σ H) (r : ObR C.K F A C.CA H a ob) (nA : a ∉ A) (nF : F a = none) (nP : P a = none) (nO : Nown Γ σ a) : Rel C P F (A ++ [a]) (S ++ [ob]) Γ σ H := by
  have mA : A <+: A ++ [a] := List.prefix_append _ _
  refine ⟨R.subF, R.subP, R.dis, by simp [R.len], R.sz, ?_, fun b hb => ?_, fun n b o h1 h2 => ?_, fun i s e => ?_, fun i b h1 h2 => ?_, R.apart⟩
  · rw [List.nodup_append]
    refine ⟨R.nd, by simp, fun x hx y hy => ?_⟩
    rw [List.mem_singleton] at hy
    subst hy
    exact fun z => nA (z ▸ hx)
  · rcases List.mem_append.mp hb with h | h
    · exact R.free b h
    · rw [List.mem_singleton] at h; subst h; exact ⟨nF, nP⟩
  · by_cases hn : n < A.length
    · rw [List.getElem?_append_left hn] at h1
      rw [List.getElem?_append_left (by rw [← R.len]; exact hn)] at h2
      exact (R.obj n b o h1 h2).mono (fun _ _ h => h) mA rfl
    · rw [List.getElem?_append_right (by omega)] at h1
      rw [List.getElem?_append_right (by rw [← R.len]; omega), ← R.len] at h2
      cases hk : n - A.length with
      | zero => rw [hk] at h1 h2; cases h1; cases h2; exact r.mono (fun _ _ h => h) mA rfl
      | succ k => rw [hk] at h1; cases h1
  · have q := R.slot i s e
    cases s with
    | no => trivial
    | im d => obtain ⟨x, e1, r⟩ := q; exact ⟨x, e1, r.mono (fun _ _ h => h) mA⟩
    | ow o => obtain ⟨b, e1, r⟩ := q; exact ⟨b, e1, r.mono (fun _ _ h => h) mA rfl⟩
  · obtain ⟨x1, x2, x3⟩ := R.own i b h1 h2
    refine ⟨fun hb => ?_, x2, x3⟩
    rcases List.mem_append.mp hb with h | h
    · exact x1 h
    · rw [List.mem_singleton] at h; subst h; exact nO i h1 h2
theorem js_new {es : List Expr} {fa : Ma} {i : Nat} {x : Str} {pos' lpos : Pos} (hN : X.N.Nodup) (hi : X.N[i]? = some x) (hx : Loc X.env.scope x) (he : JA CA X es fa) (hs : swapsWith (.List es lpos) (some (.Name x pos')) pos.line X.env = pure false := by rfl) (hf : X.fn x = true ∨ X.env.scope.names.lookup x = some .local := by first | exact .inl rfl | exact .inr rfl | assumption) :
    JS CA X (.Assign [.Name x pos'] (.List es lpos) pos) (sNew i fa) :=
  psI (ps_set hN hi hx (pe_lst he) hs hf) fun Dn σ H ⟨P, F, A, S, Γ, o, Γ', S', R, h, q⟩ => by
  obtain ⟨ds, S1, h1, h⟩ := obind h
  simp only at h
  split at h
  case isFalse => cases h
  case isTrue hl =>
  cases h
  refine ⟨P, F, A, S, Γ, ds, S1, R, h1, fun vs F1 A1 H1 R1 E1 r1 => ⟨by rw [r1.length, sizeLine_eq]; exact hl, fun a ha => ?_⟩⟩
  obtain ⟨n1, n2, n3, n4⟩ := R1.nown ha
  have R2 := (R1.more ha (.lst vs)).alloc (ob := .lst ds) ⟨vs, upd_same, r1⟩ n1 n2 n3 n4
  refine q _ F1 (A1 ++ [a]) _ (R2.put i (.ref ?_)) (E1.trans ⟨fun _ _ h => h, List.prefix_append _ _⟩)
  rw [← R1.len, List.getElem?_append_right (Nat.le_refl _), Nat.sub_self]
  rfl
/-! slots frozen, moved -/
def frzE (i : Nat) (Γ : Env) : Env := match Γ[i]? with
  | some (.ow (.lst xs)) => Γ.set i (.im (.lst xs))
  | _ => Γ
/-- the list of slot i stands still from here on -/
def sFrz (i : Nat) (b : Ms) : Ms := fun Γ S => b (frzE i Γ) S
theorem Rel.frz {C : Stc} {P F : Hp} {A : List Addr} {S : Sto} {Γ : Env} {σ : L2.St} {H : Hp} (R : Rel C P F A S Γ σ H) (i : Nat) : ∃ F', Rel C P F' A S (frzE i Γ) σ H ∧ Ex F A F' A := by
  unfold frzE
  split
  · next xs hs =>
    obtain ⟨a, e1, r⟩ := R.slot i _ hs
    obtain ⟨vs, e2, rv⟩ := ObR.isLst r
    have ho : isOw Γ[i]? = true := by rw [hs]; rfl
    obtain ⟨x1, x2, x3⟩ := R.own i a ho e1
    -- first the slot is forgotten, then the list frozen, then the slot filled
    have R1 : Rel C P F A S (Γ.set i .no) σ H := R.weak (by rw [List.length_set]; exact R.sz) fun j s e => by
      by_cases hj : i = j
      · subst hj
        have hl := (List.getElem?_eq_some_iff.mp hs).1
        rw [List.getElem?_set_self hl] at e
        cases e; exact .inl rfl
      · rw [List.getElem?_set_ne hj] at e
        exact .inr ⟨e, rfl⟩
    have R2 := R1.freeze (p := a) e2 x1 x2 x3 fun j h1 h2 => by
      by_cases hj : i = j
      · subst hj
        have hl := (List.getElem?_eq_some_iff.mp hs).1
        rw [List.getElem?_set_self hl] at h1
        cases h1
      · rw [List.getElem?_set_ne hj] at h1
        exact hj (R.apart i j a ho h1 e1 h2)
    have E : Ex F A (upd F a (.lst vs)) A := Ex.freeze x2
    have R3 := R2.put i (v := .ref a) (d := .lst xs) (.lst upd_same (rv.ex E))
    have es : σ.set i (some (.ref a)) = σ := by
      apply List.ext_getElem?
      intro j
      by_cases hj : i = j
      · subst hj
        have hl := (List.getElem?_eq_some_iff.mp e1).1
        rw [List.getElem?_set_self hl, e1]
      · rw [List.getElem?_set_ne hj]
    rw [es, List.set_set] at R3
    exact ⟨_, R3, E⟩
  · exact ⟨F, R, Ex.refl⟩
theorem js_frz {st : Stmt} {b : Ms} (i : Nat) (h : JS CA X st b) : JS CA X st (sFrz i b) := psI h fun Dn σ H ⟨P, F, A, S, Γ, o, Γ', S', R, w, q⟩ => by
  obtain ⟨F', R', E⟩ := R.frz i
  exact ⟨P, F', A, S, frzE i Γ, o, Γ', S', R', w, q.ex E⟩
/-- the value of an owned list is moved: y = x, x known no more -/
def sMov (j i : Nat) : Ms := fun Γ S => match Γ[i]? with
  | some (.ow o) => if i = j then none else some (.nx, (Γ.set i .no).set j (.ow o), S)
  | _ => none
theorem js_mov {x y : Str} {i j : Nat} {xp pos' : Pos} (hN : X.N.Nodup) (hj : X.N[j]? = some y) (hy : Loc X.env.scope y) (hi : X.N[i]? = some x := by rfl) (hv : Vis X.env.scope x := by first | exact Or.inl rfl | exact Or.inr (Or.inl rfl) | exact Or.inr (Or.inr rfl)) (hd : (x == ("__debug__" : Str)) = false := by decide)
    (hcd : (x == ("__classdict__" : Str)) = false := by decide) (hs : swapsWith (.Name x xp) (some (.Name y pos')) pos.line X.env = pure false := by rfl) (hf : X.fn y = true ∨ X.env.scope.names.lookup y = some .local := by first | exact .inl rfl | exact .inr rfl | assumption) :
    JS CA X (.Assign [.Name y pos'] (.Name x xp) pos) (sMov j i) :=
  psI (ps_set hN hj hy (pe_var hi hv hd hcd) hs hf) fun Dn σ H ⟨P, F, A, S, Γ, o, Γ', S', R, w, q⟩ => by
  unfold sMov at w
  split at w
  · next ob hs =>
    split at w
    · cases w
    · next hij =>
      cases w
      obtain ⟨a, e1, r⟩ := R.slot i _ hs
      have ho : isOw Γ[i]? = true := by rw [hs]; rfl
      obtain ⟨x1, x2, x3⟩ := R.own i a ho e1
      have R1 : Rel (cx CA X) P F A S (Γ.set i .no) σ H := R.weak (by rw [List.length_set]; exact R.sz) fun j s e => by
        by_cases hj : i = j
        · subst hj
          have hl := (List.getElem?_eq_some_iff.mp hs).1
          rw [List.getElem?_set_self hl] at e
          cases e; exact .inl rfl
        · rw [List.getElem?_set_ne hj] at e
          exact .inr ⟨e, rfl⟩
      refine ⟨_, e1, ?_⟩
      refine q _ F A H (R1.putOw j r x1 x2 x3 fun k h1 h2 => ?_) Ex.refl
      by_cases hk : i = k
      · subst hk
        have hl := (List.getElem?_eq_some_iff.mp hs).1
        rw [List.getElem?_set_self hl] at h1
        cases h1
      · rw [List.getElem?_set_ne hk] at h1
        exact hk (R.apart i k a ho h1 e1 h2)
  · cases w
end
end J
/-! J8: enumerate and zip of tuples and lists; tuple times int; tuple[::-1]; further statements. -/
namespace JE
open PySem PySem.Spec PyProof.Rows L2
open PySem.Sem (wp)
open PySem.AutoSeq1 (wpAny_loadPart')
/-! ### enumerate(tuple): as the library does for lists -/
section
variable {prog : Program} {w : World} {A : Around} {E : Value → Shared → Prop} {s : Shared}
theorem enumT_new (t : Addr) (its : Array Value) :
    Meets (Builtin.«enumerate.__new__» ⟨[.type "enumerate", .ref t], []⟩) (fun _ R s => s.heap.IsTuple t its ∧
      R (.ok (.ret (.ref (s.heap.push { cls := .type "tuple_iterator", data := .fields #[.ref t, .int 0 0] }).objs.size)))
        { s with heap := (s.heap.push { cls := .type "tuple_iterator", data := .fields #[.ref t, .int 0 0] }).push { cls := .type "enumerate", data := .fields #[.none, .bool false, .ref s.heap.objs.size, rawInt 0, .none, .none] } }) :=
  .of_wp fun prog w A R s q => by
    obtain ⟨hp, g, d, tk, os⟩ := s
    obtain ⟨ht, q⟩ := q
    have su := sub_enumerate
    have hT : Heap.IsTuple (Shared.heap ⟨hp, g, d, tk, os⟩) t its := ht
    obtain ⟨ot, hot, _⟩ := id ht
    wp_walk using wpAny_loadPart' hot
    refine wpAny_stack_any fun st => wpAny_pure ?_
    split
    · rename_i c _ _ _ _ _
      cases (c == Value.type "enumerate")
      · wp_walk using wpAny_loadPart' hot, wpAny_pyIter_tuple hT
        exact ⟨_, rfl, q⟩
      · wp_walk using wpAny_loadPart' hot, wpAny_pyIter_tuple hT
        exact ⟨_, rfl, q⟩
    · wp_walk using wpAny_loadPart' hot, wpAny_pyIter_tuple hT
      exact ⟨_, rfl, q⟩
theorem call_enumT {t : Addr} {its : Array Value} {Q : Value → Shared → Prop} (ht : s.heap.IsTuple t its)
    (q : ∀ h', IsEnum h' (s.heap.objs.size + 1) s.heap.objs.size 0 .none → h'.IsTupleIter s.heap.objs.size t 0 → h'.objs.size = s.heap.objs.size + 2 →
      (∀ b o, s.heap.get? b = some o → h'.get? b = some o) → Q (.ref (s.heap.objs.size + 1)) { s with heap := h' }) :
    wpAny (model prog w) A (call (.type "enumerate") [.ref t]) Q E s := by
  refine callType_new F.called_enumerate (by decide) (F.typeCall_enumerate_1 _) (F.newCall_enumerate_1 _) (fun obj => F.args_object_init_2 obj _) F.entry_enumerate_new (enumT_new t its) ⟨ht, ?_⟩
  have z1 : (s.heap.push { cls := .type "tuple_iterator", data := .fields #[.ref t, .int 0 0] }).objs.size = s.heap.objs.size + 1 := Heap.size_push ..
  show _ ∧ _
  rw [z1]
  have he : IsEnum ((s.heap.push { cls := .type "tuple_iterator", data := .fields #[.ref t, .int 0 0] }).push { cls := .type "enumerate", data := .fields #[.none, .bool false, .ref s.heap.objs.size, rawInt 0, .none, .none] }) (s.heap.objs.size + 1) s.heap.objs.size 0 .none := by
    have g := Heap.get?_push_size (s.heap.push { cls := .type "tuple_iterator", data := .fields #[.ref t, .int 0 0] }) (o := { cls := .type "enumerate", data := .fields #[.none, .bool false, .ref s.heap.objs.size, rawInt 0, .none, .none] }) rfl
    rw [z1] at g
    exact g
  exact ⟨⟨_, he, rfl⟩, q _ he ⟨_, Heap.get?_push_of_some _ (Heap.get?_push_size _ rfl), rfl, rfl⟩ (by rw [Heap.size_push, z1]) fun b o x => Heap.get?_push_of_some _ (Heap.get?_push_of_some _ x)⟩
/-- the tuple at a as it stands at each turn, each item in a new pair -/
def ItT (K : PySem.W.Frag) (a : Addr) : It :=
  ⟨fun i H => ∃ (xs : List V) (x : V), SqT K H a xs ∧ xs[i]? = some x, fun i H v H' => ∃ T x, v = .ref T ∧ H T = none ∧ H' = upd H T (.tup [.int (i : Nat), x]) ∧ ∀ xs, SqT K H a xs → xs[i]? = some x, fun i H => ∃ xs : List V, SqT K H a xs ∧ xs.length ≤ i⟩
theorem turnT {P : Program} {w : World} {K : PySem.W.Frag} {elts : List Expr} {kk : Nat} {tpos : Pos} (a e it : Addr) :
    Turn P w K (.Tuple elts kk tpos) (ItT K a) [e, it] e (fun i h => (∃ old, IsEnum h e it ((i : Nat) : Int) old) ∧ h.IsTupleIter it a i ∧ e ≠ it) where
  mem := List.mem_cons_self
  obj := fun i h st b hb => by
    obtain ⟨⟨old, he⟩, ⟨o, ho, hc, hd⟩, _⟩ := st
    have z : b = e ∨ b = it := by simpa using hb
    rcases z with z | z
    · subst z; exact ⟨_, he, fun v q => nomatch q⟩
    · subst z; exact ⟨o, ho, fun v q => by rw [hd] at q; cases q⟩
  keep := fun i h h' st k => by
    obtain ⟨⟨old, he⟩, hi, ne⟩ := st
    exact ⟨⟨old, k e (by simp) _ he⟩, hi.at fun o q => k it (by simp) o q, ne⟩
  item := by
    intro X hP hw hK hc i pins s σ H E I hf st hg
    subst hP hw hK
    obtain ⟨⟨old, he⟩, hit, ne⟩ := st
    obtain ⟨xs, x, hq, hx⟩ := hg
    obtain ⟨its, rv, p, hz⟩ := I.tuple hq
    obtain ⟨u, hu, ru⟩ := rv.get hx
    have hel : e < s.heap.objs.size := Heap.lt_size he
    have hil : it < s.heap.objs.size := by obtain ⟨_, q, _⟩ := hit; exact Heap.lt_size q
    have hT : s.heap.IsTuple a its.toArray := p
    have nea : e ≠ a := fun z => by
      obtain ⟨o, ho, hc', _⟩ := p
      rw [← z, he] at ho
      cases ho
      exact absurd (Value.type.inj hc') (by decide)
    have nia : a ≠ it := fun z => by
      obtain ⟨o, ho, hc', _⟩ := p
      obtain ⟨o2, ho2, hc2, _⟩ := hit
      rw [z, ho2] at ho
      cases ho
      rw [hc2] at hc'
      exact absurd (Value.type.inj hc') (by decide)
    have hi : i < its.toArray.size := by
      have := (List.getElem?_eq_some_iff.mp hu).1
      simpa using this
    refine wpAny_pyNext_enum_itemD (Draws.tuple (prog := X.prog) (w := X.w) (A := X.A.in1) (I.ok.hd hc) it a nia its.toArray) he ⟨hit, hT⟩ hi ne (by simp [ne, nea]) fun y h' tk hy ho hit' hT' hsz hk => ?_
    have ey : y = u := by
      have : its[i]? = some y := by simpa using hy
      rw [hu] at this
      exact (Option.some.inj this).symm
    subst ey
    refine ⟨_, rfl, wpAny_letOwnedTupleGo_enum (s := { s with heap := h', toks := tk + 1 }) ho fun h'' he' sb => ?_⟩
    have hT2 : h''.get? s.heap.objs.size = some { cls := .type "tuple", data := .seq #[.int i tk, y] } := (sb.2 _ (Nat.ne_of_gt hel)).trans hT'
    have new : ObjOk X.prog X.w (upd H s.heap.objs.size (.tup [.int (i : Nat), x])) h'' s.heap.objs.size (.tup [.int (i : Nat), x]) :=
      ⟨by show 2 ≤ sizeLine; decide, [.int i tk, y], .cons ⟨_, rfl⟩ (.cons ru .nil), ⟨_, hT2, rfl, _, rfl⟩⟩
    have I1 : Inv X pins σ (upd H s.heap.objs.size (.tup [.int (i : Nat), x])) { s with heap := h'', toks := tk + 1 } :=
      I.turnedNew (ch := [e, it]) (fun b ob hb q => by
        have n1 : b ≠ e := fun z => hb (by simp [z])
        have n2 : b ≠ it := fun z => hb (by simp [z])
        exact (sb.2 b n1).trans (hk b ob n1 n2 q)) hf (Nat.le_refl _) new
    refine ⟨.ref s.heap.objs.size, _, I1, rfl, ⟨_, x, rfl, I.hok.fresh (Nat.le_refl _), rfl, fun ys hy => by rw [I.tuple_inj hy hq]; exact hx⟩, ⟨⟨y, ?_⟩, hit'.1.at fun o q => (sb.2 it (Ne.symm ne)).trans q, ne⟩, fun b hb => ?_⟩
    · have e1 : ((i + 1 : Nat) : Int) = (i : Int) + 1 := by omega
      rw [e1]
      exact he'
    · have hb' : b < s.heap.objs.size := by
        have z : b = e ∨ b = it := by simpa using hb
        rcases z with z | z
        · subst z; exact hel
        · subst z; exact hil
      rw [upd_ne (Nat.ne_of_lt hb')]
      exact (hf b hb).1
  done := by
    intro X hP hw hK hc i pins s σ H E I hf st hg
    subst hP hw hK
    obtain ⟨⟨old, he⟩, hit, ne⟩ := st
    obtain ⟨xs, hq, hx⟩ := hg
    obtain ⟨its, rv, p, hz⟩ := I.tuple hq
    obtain ⟨f0, f1, f2, f3, f4, f5⟩ := hf it (by simp)
    have hl := rv.length
    have hT : s.heap.IsTuple a its.toArray := p
    have nia : a ≠ it := fun z => by
      obtain ⟨o, ho, hc', _⟩ := p
      obtain ⟨o2, ho2, hc2, _⟩ := hit
      rw [z, ho2] at ho
      cases ho
      rw [hc2] at hc'
      exact absurd (Value.type.inj hc') (by decide)
    have hT0 : its.toArray[i]? = none := by simp; omega
    have hsT : s.TypeIs (.ref e) "enumerate" := ⟨_, he, rfl⟩
    unfold pyNext
    refine wpAny_bind (wpAny_attempt (wpAny_callSpecial?_slot (name := Str.ofString "__next__") hsT F.slot_enumerate_next
      (wpAny_call_entry F.slot_enumerate_next hsT F.entry_enumerate_next ?_ (F.args_enumerate_next_1 _))))
    show wpAny _ _ (field (.ref e) 2 >>= _) _ _ _
    refine wpAny_bind (wpAny_field he rfl (x := .ref it) rfl ?_)
    refine wpAny_bind (RZ.nextOf_tuple_end (I.ok.hd hc) hit hT hT0 fun h' x he' hx' => ?_)
    obtain ⟨o, ho, hco⟩ := hx'
    refine wpAny_bind (wpAny_isInstance (T := "StopIteration") (b := true) ⟨o, ho, hco⟩ isSubtype_stop ?_)
    exact wpAny_pure ⟨rfl, I.turned (t' := s.toks) (fun b o hb q => he' b o hb q) f0 f1 f3 f4 f5⟩
  self := fun A i s Q E st h => by
    obtain ⟨⟨_, he⟩, _⟩ := st
    exact wpAny_pyIter_enum he h
def iEnT (K : PySem.W.Frag) (ta : TA) : TI := fun σ H R => ta σ H fun vs H1 => ∃ a xs, vs = [.ref a] ∧ ((SqL K H1 a xs ∧ R (Ite K a) H1) ∨ (SqT K H1 a xs ∧ R (ItT K a) H1))
theorem pi_enumA {X : Cx} {e : Expr} {ta : TA} {p pos tpos : Pos} {elts : List Expr} {kk : Nat} (hg : Gl X "enumerate") (hm : X.mg "enumerate" = none) (ha : PA X [e] ta) (hs : starEach [e] X.env = [(false, eval e X.env)] := by rfl) :
    PI X (.Tuple elts kk tpos) (.Call (.Name "enumerate" p) [e] [] pos) (iEnT X.K ta) := by
  refine ⟨fun pins s σ H R I h => ?_⟩
  refine Call_ (ld_blt I hg hm boot_enumerate (PyProof.Rows.callWith_type1 (thn (ha.run pos pins s σ H _ I h) fun us s1 ⟨vs, H1, I1, r1, q1⟩ => ?_) hs rfl))
  obtain ⟨a, xs, ex, q1⟩ := q1
  subst ex
  have hu : us = [Value.ref a] := Vals.ref1 r1
  subst hu
  have fre : ∀ {h' : Heap}, (∀ b o, s1.heap.get? b = some o → h'.get? b = some o) → ∀ b ∈ [s1.heap.objs.size + 1, s1.heap.objs.size], FpOk X pins H1 b := fun {h'} hk b hb => by
    have z : b = s1.heap.objs.size + 1 ∨ b = s1.heap.objs.size := by simpa using hb
    have hle : s1.heap.objs.size ≤ b := by omega
    exact I1.fpOk hle (I1.hok.fresh hle)
  rcases q1 with ⟨hq, q⟩ | ⟨hq, q⟩
  · obtain ⟨its, rv, p', hz⟩ := I1.list hq
    refine call_enumerate_list p'.isList fun h' he hit hsz hk => wpAny_pyIter_enum he ?_
    have I2 : Inv X pins σ H1 { s1 with heap := h' } := I1.kept (t' := s1.toks) hk
    exact ⟨s1.heap.objs.size + 1, [s1.heap.objs.size + 1, s1.heap.objs.size], _, _, H1, rfl, I2, turn_enum a (s1.heap.objs.size + 1) s1.heap.objs.size, ⟨⟨.none, he⟩, hit, Nat.succ_ne_self _⟩, fre hk, q⟩
  · obtain ⟨its, rv, p', hz⟩ := I1.tuple hq
    refine call_enumT (show s1.heap.IsTuple a its.toArray from p') fun h' he hit hsz hk => wpAny_pyIter_enum he ?_
    have I2 : Inv X pins σ H1 { s1 with heap := h' } := I1.kept (t' := s1.toks) hk
    exact ⟨s1.heap.objs.size + 1, [s1.heap.objs.size + 1, s1.heap.objs.size], _, _, H1, rfl, I2, turnT a (s1.heap.objs.size + 1) s1.heap.objs.size, ⟨⟨.none, he⟩, hit, Nat.succ_ne_self _⟩, fre hk, q⟩
end
end JE
namespace J
open PySem PySem.Spec PyProof.Rows L2
def enD : Nat → List D → List D
  | _, [] => []
  | i, d :: ds => .tup [.int i, d] :: enD (i + 1) ds
theorem enD_get : ∀ (ds : List D) (k i : Nat), (enD k ds)[i]? = ds[i]?.map fun d => .tup [.int (k + i : Nat), d]
  | [], _, _ => by simp [enD]
  | d :: ds, k, 0 => by simp [enD]
  | d :: ds, k, i + 1 => by
    simp only [enD, List.getElem?_cons_succ]
    rw [enD_get ds (k + 1) i]
    congr 2
    funext d
    rw [show k + 1 + i = k + (i + 1) by omega]
theorem enD_len : ∀ (ds : List D) (k : Nat), (enD k ds).length = ds.length
  | [], _ => rfl
  | d :: ds, k => by simp [enD, enD_len ds]
def gEn : List D → Option (List D)
  | [.tup xs] => some (enD 0 xs)
  | [.lst xs] => some (enD 0 xs)
  | _ => none
theorem gEn_of {ds zs : List D} (h : gEn ds = some zs) : (∃ xs, ds = [.tup xs] ∧ zs = enD 0 xs) ∨ ∃ xs, ds = [.lst xs] ∧ zs = enD 0 xs := by
  unfold gEn at h
  split at h
  · cases h; exact .inl ⟨_, rfl, rfl⟩
  · cases h; exact .inr ⟨_, rfl, rfl⟩
  · cases h
section
variable {CA : Str → Addr} {X : Cx} {tg e : Expr} {fa : Ma} {K : PySem.W.Frag} {F : Hp} {A : List Addr} {vs ws : List V} {ds es : List D} {a b : Addr}
theorem itd_enT (s : SqT K F a vs) (r : RDs K F A vs ds) : ItD K (JE.ItT K a) F A (enD 0 ds) := fun i H sub => by
  have s' := seqT_mono sub s
  refine ⟨fun d hd => ?_, fun hl => ⟨vs, s', by rw [r.length]; rw [enD_len] at hl; exact hl⟩⟩
  rw [enD_get] at hd
  obtain ⟨d', hd', e1⟩ := omap hd
  obtain ⟨v, hv, rv⟩ := r.get hd'
  refine ⟨⟨vs, v, s', hv⟩, fun x H' ⟨T, y, e2, e3, e4, e5⟩ => .inr ⟨T, _, [.int (i : Nat), d'], e2, e3, e4, by rw [← e1]; simp, ?_⟩⟩
  have := e5 vs s'
  rw [hv] at this
  cases this
  exact .cons (.int _) (.cons rv .nil)
theorem itd_enL (s : SqL K F a vs) (r : RDs K F A vs ds) : ItD K (Ite K a) F A (enD 0 ds) := fun i H sub => by
  have s' := seqL_mono sub s
  refine ⟨fun d hd => ?_, fun hl => ⟨vs, s', by rw [r.length]; rw [enD_len] at hl; exact hl⟩⟩
  rw [enD_get] at hd
  obtain ⟨d', hd', e1⟩ := omap hd
  obtain ⟨v, hv, rv⟩ := r.get hd'
  refine ⟨⟨vs, v, s', hv⟩, fun x H' ⟨T, y, e2, e3, e4, e5⟩ => .inr ⟨T, _, [.int (i : Nat), d'], e2, e3, e4, by rw [← e1]; simp, ?_⟩⟩
  have := e5 vs s'
  rw [hv] at this
  cases this
  exact .cons (.int _) (.cons rv .nil)
theorem ji_en {p pos tpos : Pos} {elts : List Expr} {kk : Nat} (hg : Gl X "enumerate") (hm : X.mg "enumerate" = none) (ha : JA CA X [e] fa) (hs : starEach [e] X.env = [(false, eval e X.env)] := by rfl) :
    JI CA X (.Tuple elts kk tpos) (.Call (.Name "enumerate" p) [e] [] pos) (iA gEn fa) :=
  piI (JE.pi_enumA hg hm ha hs) fun σ H Q ⟨P, F, A, S, Γ, ds, S', R, h, q⟩ => by
  obtain ⟨d1, S1, h1, h⟩ := obind h
  obtain ⟨z, h2, h⟩ := omap h
  cases h
  refine ⟨P, F, A, S, Γ, d1, S1, R, h1, fun v F1 A1 H1 R1 E1 r1 => ?_⟩
  rcases gEn_of h2 with ⟨xs, rfl, rfl⟩ | ⟨xs, rfl, rfl⟩
  · obtain ⟨x, rfl, rd⟩ := rds1 r1
    obtain ⟨a, vs, rfl, s, r⟩ := rd.isTup
    exact ⟨a, vs, rfl, .inr ⟨seqT_mono R1.subF s, q _ F1 A1 H1 R1 E1 (itd_enT s r)⟩⟩
  · obtain ⟨x, rfl, rd⟩ := rds1 r1
    obtain ⟨a, vs, rfl, s, r⟩ := rd.notLst
    exact ⟨a, vs, rfl, .inl ⟨.inl (.inl (R1.subF _ _ s)), q _ F1 A1 H1 R1 E1 (itd_enL (.inl (.inl s)) r)⟩⟩
/-! ### zip -/
def zipD : List D → List D → List D
  | d :: ds, e :: es => .tup [d, e] :: zipD ds es
  | _, _ => []
theorem zipD_get : ∀ (ds es : List D) (i : Nat) (z : D), (zipD ds es)[i]? = some z → ∃ d e, ds[i]? = some d ∧ es[i]? = some e ∧ z = .tup [d, e]
  | d :: ds, e :: es, 0, z, h => by simp [zipD] at h; exact ⟨d, e, rfl, rfl, h.symm⟩
  | d :: ds, e :: es, i + 1, z, h => by simp [zipD] at h; simpa using zipD_get ds es i z h
  | [], _, _, _, h => by simp [zipD] at h
  | _ :: _, [], _, _, h => by simp [zipD] at h
theorem zipD_len : ∀ ds es : List D, (zipD ds es).length = min ds.length es.length
  | d :: ds, e :: es => by simp [zipD, zipD_len ds es]
  | [], _ => by simp [zipD]
  | _ :: _, [] => by simp [zipD]
def gZp : List D → Option (List D)
  | [.tup xs, .tup ys] => some (zipD xs ys)
  | [.lst xs, .lst ys] => some (zipD xs ys)
  | _ => none
theorem gZp_of {ds zs : List D} (h : gZp ds = some zs) : (∃ xs ys, ds = [.tup xs, .tup ys] ∧ zs = zipD xs ys) ∨ ∃ xs ys, ds = [.lst xs, .lst ys] ∧ zs = zipD xs ys := by
  unfold gZp at h
  split at h
  · cases h; exact .inl ⟨_, _, rfl, rfl⟩
  · cases h; exact .inr ⟨_, _, rfl, rfl⟩
  · cases h
theorem itd_zT (s : SqT K F a vs) (r : RDs K F A vs ds) (s2 : SqT K F b ws) (r2 : RDs K F A ws es) : ItD K (RZ.ItzT K a b) F A (zipD ds es) := fun i H sub => by
  have s' := seqT_mono sub s
  have s2' := seqT_mono sub s2
  refine ⟨fun z hz => ?_, fun hl => ⟨vs, ws, s', s2', by rw [zipD_len] at hl; rw [r.length, r2.length]; omega⟩⟩
  obtain ⟨d, e, hd, he, rfl⟩ := zipD_get _ _ _ _ hz
  obtain ⟨v, hv, rv⟩ := r.get hd
  obtain ⟨w, hw, rw'⟩ := r2.get he
  refine ⟨⟨vs, ws, v, w, s', s2', hv, hw⟩, fun x H' ⟨T, y, y2, e2, e3, e4, e5, e6⟩ => .inr ⟨T, _, _, e2, e3, e4, rfl, ?_⟩⟩
  have h1 := e5 vs s'
  rw [hv] at h1
  cases h1
  have h2 := e6 ws s2'
  rw [hw] at h2
  cases h2
  exact .cons rv (.cons rw' .nil)
theorem itd_zL (s : SqL K F a vs) (r : RDs K F A vs ds) (s2 : SqL K F b ws) (r2 : RDs K F A ws es) : ItD K (Itz K a b) F A (zipD ds es) := fun i H sub => by
  have s' := seqL_mono sub s
  have s2' := seqL_mono sub s2
  refine ⟨fun z hz => ?_, fun hl => ⟨vs, ws, s', s2', by rw [zipD_len] at hl; rw [r.length, r2.length]; omega⟩⟩
  obtain ⟨d, e, hd, he, rfl⟩ := zipD_get _ _ _ _ hz
  obtain ⟨v, hv, rv⟩ := r.get hd
  obtain ⟨w, hw, rw'⟩ := r2.get he
  refine ⟨⟨vs, ws, v, w, s', s2', hv, hw⟩, fun x H' ⟨T, y, y2, e2, e3, e4, e5, e6⟩ => .inr ⟨T, _, _, e2, e3, e4, rfl, ?_⟩⟩
  have h1 := e5 vs s'
  rw [hv] at h1
  cases h1
  have h2 := e6 ws s2'
  rw [hw] at h2
  cases h2
  exact .cons rv (.cons rw' .nil)
theorem ji_zip {e2 : Expr} {p pos tpos : Pos} {elts : List Expr} {kk : Nat} (hg : Gl X "zip") (hm : X.mg "zip" = none) (ha : JA CA X [e, e2] fa)
    (hs : starEach [e, e2] X.env = (false, eval e X.env) :: starEach [e2] X.env := by rfl) (hpl : (backTo pos (starEach [e2] X.env)).any (·.1) = false := by rfl) :
    JI CA X (.Tuple elts kk tpos) (.Call (.Name "zip" p) [e, e2] [] pos) (iA gZp fa) :=
  piI (RZ.pi_zipA hg hm ha hs hpl) fun σ H Q ⟨P, F, A, S, Γ, ds, S', R, h, q⟩ => by
  obtain ⟨d1, S1, h1, h⟩ := obind h
  obtain ⟨z, h2, h⟩ := omap h
  cases h
  refine ⟨P, F, A, S, Γ, d1, S1, R, h1, fun v F1 A1 H1 R1 E1 r1 => ?_⟩
  rcases gZp_of h2 with ⟨xs, ys, rfl, rfl⟩ | ⟨xs, ys, rfl, rfl⟩
  · obtain ⟨x, y, rfl, rd, re⟩ := rds2 r1
    obtain ⟨a, vs, rfl, s, r⟩ := rd.isTup
    obtain ⟨b, ws, rfl, s2, r2⟩ := re.isTup
    exact ⟨a, b, vs, ws, rfl, .inr ⟨seqT_mono R1.subF s, seqT_mono R1.subF s2, q _ F1 A1 H1 R1 E1 (itd_zT s r s2 r2)⟩⟩
  · obtain ⟨x, y, rfl, rd, re⟩ := rds2 r1
    obtain ⟨a, vs, rfl, s, r⟩ := rd.notLst
    obtain ⟨b, ws, rfl, s2, r2⟩ := re.notLst
    exact ⟨a, b, vs, ws, rfl, .inl ⟨.inl (.inl (R1.subF _ _ s)), .inl (.inl (R1.subF _ _ s2)), q _ F1 A1 H1 R1 E1 (itd_zL (.inl (.inl s)) r (.inl (.inl s2)) r2)⟩⟩
end
end J
/-! J9: tuple * int, tuple[::-1], x op= e, several targets at once. -/
namespace JT
open PySem PySem.Spec PyProof.Rows L2
section
variable {prog : Program} {w : World} {A : Around} {E : Value → Shared → Prop} {s : Shared}
/-- the tuple itself: nothing in it, or once -/
theorem mul_self (l : Addr) (its : Array Value) (n : Nat) (dd : Option Addr) (sl : Array (Option Value)) (x : Int) (u : Tok) (c0 : (decide (x < -(2 ^ 63)) || decide (x ≥ 2 ^ 63)) = false) (c1 : (its.isEmpty || x == 1) = true) :
    Meets (Builtin.«tuple.__mul__» ⟨[.ref l, .int x u], []⟩) (fun _ R s => s.heap.get? l = some { cls := .type "tuple", dict := dd, data := .seq its n, slots := sl } ∧ R (.ok (.ret (Value.ref l))) s) :=
  .of_wp fun prog w A R s h => by
    obtain ⟨hp, g, d, tk, os⟩ := s
    obtain ⟨hl, h⟩ := h
    have f1 := AutoSeq1.idx_int
    wp_walk using wpAny_loadPart' hl
    repeat (first
      | (refine wpAny_ite_false (decide_eq_false (by rw [c0]; exact Bool.false_ne_true)) ?_; wp_walk using wpAny_loadPart' hl)
      | (refine wpAny_ite_true (decide_eq_true c1) ?_; wp_walk using wpAny_loadPart' hl))
    exact ⟨_, rfl, h⟩
/-- nothing: a number that is not positive -/
theorem mul_none (l : Addr) (its : Array Value) (n : Nat) (dd : Option Addr) (sl : Array (Option Value)) (x : Int) (u : Tok) (c0 : (decide (x < -(2 ^ 63)) || decide (x ≥ 2 ^ 63)) = false) (c1 : (its.isEmpty || x == 1) = false) (c2 : (decide (x ≤ 0) || its.isEmpty) = true) :
    Meets (Builtin.«tuple.__mul__» ⟨[.ref l, .int x u], []⟩) (fun _ R s => s.heap.get? l = some { cls := .type "tuple", dict := dd, data := .seq its n, slots := sl } ∧
      R (.ok (.ret (Value.ref s.heap.objs.size))) { s with heap := s.heap.push { cls := Value.type "tuple", data := Data.seq #[] }, toks := s.toks }) :=
  .of_wp fun prog w A R s h => by
    obtain ⟨hp, g, d, tk, os⟩ := s
    obtain ⟨hl, h⟩ := h
    have f1 := AutoSeq1.idx_int
    wp_walk using wpAny_loadPart' hl
    repeat (first
      | (refine wpAny_ite_false (decide_eq_false (by rw [c0]; exact Bool.false_ne_true)) ?_; wp_walk using wpAny_loadPart' hl)
      | (refine wpAny_ite_false (decide_eq_false (by rw [c1]; exact Bool.false_ne_true)) ?_; wp_walk using wpAny_loadPart' hl)
      | (refine wpAny_ite_true (decide_eq_true c2) ?_; wp_walk using wpAny_loadPart' hl))
    exact ⟨_, rfl, h⟩
end
section
variable {X : Cx}
/-- tuple * int, at most a thousand times a thousand -/
def rRepA (K : PySem.W.Frag) : R2 := fun x y H Q => ∃ l k xs, x = .ref l ∧ y = .int k ∧ SqT K H l xs ∧ -1000 ≤ k ∧ k ≤ 1000 ∧ xs.length ≤ 1000 ∧
  (xs = [] ∨ k = 1 → Q (.ref l) H) ∧ (¬ (xs = [] ∨ k = 1) → ∀ p, H p = none → Q (.ref p) (upd H p (.tup (List.replicate k.toNat xs).flatten)))
theorem op_repA : OpR X (binaryOp .Mult) (rRepA X.K) := by
  intro pins s σ H x y v u Q I rx ry h
  obtain ⟨l, k, xs, rfl, rfl, hT, h1, h2, hz, q1, q2⟩ := h
  by_cases hc : xs = [] ∨ k = 1
  · cases rx
    obtain ⟨t, rfl⟩ := ry
    obtain ⟨its, r, ⟨⟨cls, dd, data, sl⟩, ho, hcl, n, hd⟩, hs⟩ := I.tuple hT
    simp only at hcl hd
    subst hcl hd
    have c0 : (decide (k < -(2 ^ 63)) || decide (k ≥ 2 ^ 63)) = false := by
      rw [decide_eq_false (by omega), decide_eq_false (by omega)] <;> rfl
    have c1 : (its.toArray.isEmpty || k == 1) = true := by
      rcases hc with e | e
      · subst e; cases r; rfl
      · subst e; simp
    refine wpAny_binaryOp_repeat_ref (T := "tuple") (U := "int") (by decide) ⟨_, ho, rfl⟩ (fun s' => typeIs_int s' k t) noFill_tuple_mul F.fills_int_mul F.slot_int_rmul repeat_tuple F.slot_int_index.lookup
      (call_meets F.slot_int_rmul (typeIs_int s k t) F.entry_int_rmul (F.args_int_rmul_2 _ _) (int_rmul_tuple k t l its.toArray n dd sl)
        ⟨ho, rfl, ⟨_, ho, rfl⟩, call_meets F.slot_tuple_mul ⟨_, ho, rfl⟩ F.entry_tuple_mul (F.args_tuple_mul_2 _ _) (mul_self l its.toArray n dd sl k t c0 c1) ⟨ho, ?_⟩⟩)
    exact ⟨.ref l, H, I, rfl, q1 hc⟩
  · by_cases hk : 2 ≤ k
    · exact op_repT pins s σ H _ _ v u Q I rx ry ⟨l, k, xs, rfl, rfl, hT, fun e => hc (.inl e), hk, h2, hz, q2 hc⟩
    · cases rx
      obtain ⟨t, rfl⟩ := ry
      obtain ⟨its, r, ⟨⟨cls, dd, data, sl⟩, ho, hcl, n, hd⟩, hs⟩ := I.tuple hT
      simp only at hcl hd
      subst hcl hd
      have hk0 : k ≤ 0 := by
        have : k ≠ 1 := fun e => hc (.inr e)
        omega
      have c0 : (decide (k < -(2 ^ 63)) || decide (k ≥ 2 ^ 63)) = false := by
        rw [decide_eq_false (by omega), decide_eq_false (by omega)] <;> rfl
      have hn : its ≠ [] := fun e => hc (.inl (by subst e; cases r; rfl))
      have hi : its.toArray.isEmpty = false := by
        cases its with
        | nil => exact absurd rfl hn
        | cons a b => rfl
      have c1 : (its.toArray.isEmpty || k == 1) = false := by
        rw [hi, Bool.false_or]
        exact beq_eq_false_iff_ne.mpr (fun e => hc (.inr e))
      have c2 : (decide (k ≤ 0) || its.toArray.isEmpty) = true := by
        rw [decide_eq_true hk0]; rfl
      refine wpAny_binaryOp_repeat_ref (T := "tuple") (U := "int") (by decide) ⟨_, ho, rfl⟩ (fun s' => typeIs_int s' k t) noFill_tuple_mul F.fills_int_mul F.slot_int_rmul repeat_tuple F.slot_int_index.lookup
        (call_meets F.slot_int_rmul (typeIs_int s k t) F.entry_int_rmul (F.args_int_rmul_2 _ _) (int_rmul_tuple k t l its.toArray n dd sl)
          ⟨ho, rfl, ⟨_, ho, rfl⟩, call_meets F.slot_tuple_mul ⟨_, ho, rfl⟩ F.entry_tuple_mul (F.args_tuple_mul_2 _ _) (mul_none l its.toArray n dd sl k t c0 c1 c2) ⟨ho, ?_⟩⟩)
      have e0 : (List.replicate k.toNat xs).flatten = [] := by
        rw [show k.toNat = 0 by omega]; rfl
      have q := q2 hc
      rw [e0] at q
      refine ⟨.ref s.heap.objs.size, _, I.laid (t' := s.toks) (o := .tup []) (fun b ob q => Heap.get?_push_of_some _ q) (Nat.le_refl _) ?_, rfl, q _ (I.hok.fresh (Nat.le_refl _))⟩
      exact ⟨Nat.zero_le _, [], .nil, IsTup.new _ #[]⟩
/-! ### t[::-1] -/
theorem rev_pick (xs : Array Value) (hn : xs.size ≤ sizeLine) : ((List.range xs.size).filterMap fun (k : Nat) => xs[((xs.size : Int) - 1 + (k : Int) * -1).toNat]?).toArray = xs.toList.reverse.toArray := by
  congr 1
  have e : (List.range xs.size).filterMap (fun (k : Nat) => xs[((xs.size : Int) - 1 + (k : Int) * -1).toNat]?) = (List.range xs.size).filterMap fun k => xs.toList.reverse[k]? := by
    have cg : ∀ (l : List Nat) (f g : Nat → Option Value), (∀ k ∈ l, f k = g k) → l.filterMap f = l.filterMap g := fun l f g hfg => by
      induction l with
      | nil => rfl
      | cons a l ih => rw [List.filterMap_cons, List.filterMap_cons, hfg a List.mem_cons_self, ih fun k hk => hfg k (List.mem_cons_of_mem _ hk)]
    apply cg
    intro k hk
    have hk := List.mem_range.mp hk
    have e1 : ((xs.size : Int) - 1 + (k : Int) * -1).toNat = xs.size - 1 - k := by omega
    rw [e1, List.getElem?_reverse (by simpa using hk)]
    simp
  rw [e]
  have h : ∀ (l : List Value), (List.range l.length).filterMap (fun k => l[k]?) = l := fun l => by
    induction l with
    | nil => rfl
    | cons a l ih =>
      rw [List.length_cons, List.range_succ_eq_map, List.filterMap_cons]
      simp only [List.getElem?_cons_zero, List.filterMap_map]
      congr 1
  have := h xs.toList.reverse
  rwa [List.length_reverse, Array.length_toList] at this
theorem getRev {prog : Program} {w : World} {A : Around} {E : Value → Shared → Prop} {s : Shared} {t sl : Addr} {items : Array Value} {vs : Value} {Q : Value → Shared → Prop} (ht : IsTup s.heap t items) (hs : s.heap.IsSliceOf sl .none .none vs) (ps : IsPart vs (some (-1)))
    (h : Q (.ref s.heap.objs.size) { s with heap := s.heap.push { cls := .type "tuple", data := .seq items.toList.reverse.toArray } })
    (hsz : items.size ≤ sizeLine) : wpAny (model prog w) A (getItem (.ref t) (.ref sl)) Q E s := by
  have fits : sizeOk (.seq items.toList.reverse.toArray) := by
    show items.toList.reverse.toArray.size ≤ sizeLine
    rw [List.size_toArray, List.length_reverse, Array.length_toList]
    exact hsz
  obtain ⟨os, hos, hcs, hds⟩ := id hs
  have hTs : s.TypeIs (.ref sl) "slice" := ⟨os, hos, hcs⟩
  unfold getItem
  try with_reducible refine wpAny_holding ?_
  first | refine wpAny_bind (wpAny_pure ?_) | skip
  refine wpAny_bind (wpAny_sequenceKey ht.typeIs (by decide) ?_)
  refine wpAny_bind (wpAny_callSpecial?_slot (name := Str.ofString "__getitem__") ht.typeIs PyProof.Rows.slot_tuple_getitem
    (wpAny_call_entry PyProof.Rows.slot_tuple_getitem ht.typeIs entry_tuple_getitem ?_ (args_tuple_getitem _ _)))
  show wpAny _ _ (Builtin.Tuple.tupleItemsOf (.ref t) >>= _) _ _ s
  refine wpAny_bind (tupleItemsOf_ ht ?_)
  refine wpAny_bind (wpAny_typeOf hTs ?_)
  rw [if_pos (by decide)]
  refine wpAny_bind ?_
  unfold Builtin.Slice.sliceApplied Builtin.Slice.sliceFields
  refine wpAny_bind (wpAny_bind (wpAny_field hos hds (x := .none) rfl (wpAny_bind (wpAny_field hos hds (x := .none) rfl (wpAny_bind (wpAny_field hos hds (x := vs) rfl (wpAny_pure ?_)))))))
  refine wpAny_bind (HT.slicePart_ ps ?_)
  show wpAny _ _ (if ((-1 : Int) == 0) = true then _ else _) _ _ s
  rw [if_neg (by decide)]
  refine wpAny_bind (HT.slicePart_ .none (wpAny_bind (HT.slicePart_ .none (wpAny_bind (wpAny_pure ?_)))))
  show wpAny _ _ (pure ((items.size : Int) - 1, (-1 : Int), Builtin.Slice.slicePlaces ((items.size : Int) - 1) (-1) (-1))) _ _ s
  have pl : Builtin.Slice.slicePlaces ((items.size : Int) - 1) (-1) (-1) = items.size := by
    unfold Builtin.Slice.slicePlaces
    have h1 : ¬ ((-1 : Int) > 0) := by omega
    simp only [h1, if_false]
    split
    · simp
    · omega
  rw [pl]
  refine wpAny_pure ?_
  have no : ¬ (((items.size : Int) - 1 == 0 && (-1 : Int) == 1 && items.size == items.size) = true) := by simp
  show wpAny _ _ (if ((items.size : Int) - 1 == 0 && (-1 : Int) == 1 && items.size == items.size) = true then _ else _) _ _ s
  rw [if_neg no, rev_pick items hsz]
  first
    | exact wpAny_bind (m := Builtin.Tuple.tupleExact _) (wpAny_newObj_type (wpAny_pure ⟨_, rfl, wpAny_pure h⟩) fits)
    | exact wpAny_bind (m := Builtin.Tuple.tupleExact _) (wpAny_newObj_type (wpAny_bind (wpAny_pure (wpAny_pure ⟨_, rfl, wpAny_pure h⟩))) fits)
    | exact wpAny_bind (wpAny_bind (m := Builtin.Tuple.tupleExact _) (wpAny_newObj_type (wpAny_pure (wpAny_pure ⟨_, rfl, wpAny_pure h⟩)) fits))
    | exact wpAny_bind (wpAny_bind (m := Builtin.Tuple.tupleExact _) (wpAny_newObj_type (wpAny_pure ⟨_, rfl, wpAny_pure h⟩) fits))
def tRevT (K : PySem.W.Frag) (te : TE) : TE := fun σ H Q => te σ H fun x H1 => ∃ a xs, x = .ref a ∧ SqT K H1 a xs ∧ ∀ p, H1 p = none → Q (.ref p) (upd H1 p (.tup xs.reverse))
theorem pe_revT {e : Expr} {te : TE} {k : Nat} {p1 p2 p3 pos : Pos} (he : PE X e te) : PE X (.Subscript e (.Slice none none (some (.UnaryOp .USub (.Constant (.int 1) k p1) p2)) p3) pos) (tRevT X.K te) := by
  refine ⟨fun pins s σ H Q I h => ?_⟩
  refine Subscript_ (thn (he.run pins s σ H _ I h) fun v s1 ⟨x, H1, I1, r1, q1⟩ => ?_)
  obtain ⟨a, xs, ex, hx, q⟩ := q1
  subst ex
  cases r1
  have hst : PO X (some (.UnaryOp .USub (.Constant (.int 1) k p1) p2)) (tPart (tUn (rU fun i => .int (-i)) (tC (.int 1)))) := po_some (pe_un un_neg pe_int)
  refine wpAny_Slice (thn (po_none.run pins s1 σ H1 (fun o H2 => o = none ∧ H2 = H1) I1 ⟨rfl, rfl⟩) fun vl s2 ⟨l, H2, I2, pl, el, e2⟩ => ?_)
  subst el e2
  refine thn (po_none.run pins s2 σ H2 (fun o H3 => o = none ∧ H3 = H2) I2 ⟨rfl, rfl⟩) fun vu s3 ⟨u, H3, I3, pu, eu, e3⟩ => ?_
  subst eu e3
  refine thn (hst.run pins s3 σ H3 (fun o H4 => o = some (-1) ∧ H4 = H3) I3 ⟨1, rfl, -1, rfl, rfl, rfl⟩) fun vs s4 ⟨o, H4, I4, ps, eo, e4⟩ => ?_
  subst eo e4
  have I5 : Inv X pins σ H4 { s4 with heap := s4.heap.push { cls := .type "slice", data := .fields #[vl, vu, vs] } } := I4.kept (t' := s4.toks) fun b ob q => Heap.get?_push_of_some _ q
  obtain ⟨its, r, ht, hz⟩ := I5.tuple hx
  have hlen := r.length
  have evl : vl = .none := by cases pl; rfl
  have evu : vu = .none := by cases pu; rfl
  subst evl evu
  show wpAny (model X.prog X.w) X.A (subscriptTail e (.Slice none none (some (.UnaryOp .USub (.Constant (.int 1) k p1) p2)) p3) (.ref a) (.ref s4.heap.objs.size)) (EP X pins σ Q) X.xe { s4 with heap := s4.heap.push { cls := .type "slice", data := .fields #[.none, .none, vs] } }
  refine tail_any (ops := [.ref a, .ref s4.heap.objs.size]) ht.typeIs PyProof.Rows.slot_tuple_getitem.lookup ?_ (by with_unfolding_all rfl)
  refine getRev ht (Heap.IsSliceOf.new _ .none .none vs) ps ?_ (by rw [List.size_toArray]; omega)
  refine ⟨.ref _, _, I5.laid (t' := s4.toks) (o := .tup xs.reverse) (fun b ob q => Heap.get?_push_of_some _ q) (Nat.le_refl _) ?_, rfl, q _ (I5.hok.fresh (Nat.le_refl _))⟩
  exact ⟨by rw [List.length_reverse]; exact hz, _, r.reverse, IsTup.new _ _⟩
end
end JT
namespace J
open PySem PySem.Spec PyProof.Rows L2
def gMulT : D → D → Option D
  | .tup xs, .int k => if k.natAbs ≤ 1000 ∧ xs.length ≤ 1000 then some (.tup (List.replicate k.toNat xs).flatten) else none
  | _, _ => none
theorem RDs.rep {K : PySem.W.Frag} {F : Hp} {A : List Addr} {vs : List V} {ds : List D} (h : RDs K F A vs ds) : ∀ n : Nat, RDs K F A (List.replicate n vs).flatten (List.replicate n ds).flatten
  | 0 => .nil
  | n + 1 => by rw [List.replicate_succ, List.replicate_succ, List.flatten_cons, List.flatten_cons]; exact h.append (RDs.rep h n)
theorem o_mulT {C : Stc} : Op2 C (JT.rRepA C.K) gMulT := fun P F A S Γ σ H x y d e z R rd re h Q q => by
  cases d with
  | tup xs =>
    cases e with
    | int k =>
      obtain ⟨a, vs, rfl, h1, r1⟩ := rd.isTup
      cases re
      simp only [gMulT] at h
      split at h
      · next hh =>
        cases h
        refine ⟨a, k, vs, rfl, rfl, seqT_mono R.subF h1, by omega, by omega, by rw [r1.length]; exact hh.2, fun hc => ?_, fun hc p hp => ?_⟩
        · have e : (List.replicate k.toNat xs).flatten = xs := by
            rcases hc with e | e
            · have := (nil_iff r1).mp e
              subst this
              simp
            · subst e; simp
          rw [e] at q
          exact q _ F A H R Ex.refl rd
        · exact q _ _ A _ (R.lay hp _) (Ex.lay R hp _) (.tup (.inl (.inl upd_same)) ((r1.rep _).ex (Ex.lay R hp _)))
      · cases h
    | _ => simp [gMulT] at h
  | _ => cases e <;> simp [gMulT] at h
def gMulA : D → D → Option D
  | .int i, .int j => gMul (.int i) (.int j)
  | .tup xs, .int k => gMulT (.tup xs) (.int k)
  | _, _ => none
def rMulJ (K : PySem.W.Frag) : R2 := fun x y H Q => (rI CMul fun i j => .int (i * j)) x y H Q ∨ JT.rRepA K x y H Q
theorem op_mulJ {X : Cx} : OpR X (binaryOp .Mult) (rMulJ X.K) := op_mul.or JT.op_repA
theorem o_mulA {C : Stc} : Op2 C (rMulJ C.K) gMulA := o_mul.or o_mulT fun d e z h => by
  cases d with
  | int i => cases e with
    | int j => exact .inl h
    | _ => cases h
  | tup xs => cases e with
    | int j => exact .inr h
    | _ => cases h
  | _ => cases h
def gRev : D → Option D
  | .tup xs => some (.tup xs.reverse)
  | _ => none
def gRevL : D → Option D
  | .lst xs => some (.lst xs.reverse)
  | _ => none
section
variable {CA : Str → Addr} {X : Cx} {e a b c : Expr} {m : Me} {pos : Pos}
theorem je_revT {k : Nat} {p1 p2 p3 : Pos} (he : JE CA X e m) : JE CA X (.Subscript e (.Slice none none (some (.UnaryOp .USub (.Constant (.int 1) k p1) p2)) p3) pos) (eU gRev m) :=
  peI (JT.pe_revT he) fun σ H Q ⟨P, F, A, S, Γ, d, S', R, h, q⟩ => by
  obtain ⟨d1, S1, h1, h⟩ := obind h
  obtain ⟨z, h2, h⟩ := omap h
  cases h
  refine ⟨P, F, A, S, Γ, d1, S1, R, h1, fun v F1 A1 H1 R1 E1 r1 => ?_⟩
  cases d1 with
  | tup xs =>
    cases h2
    obtain ⟨a, vs, rfl, s1, t1⟩ := r1.isTup
    exact ⟨a, vs, rfl, seqT_mono R1.subF s1, fun p hp => q _ _ A1 _ (R1.lay hp _) (E1.trans (Ex.lay R1 hp _)) (.tup (.inl (.inl upd_same)) (t1.reverse.ex (Ex.lay R1 hp _)))⟩
  | _ => cases h2
theorem je_revL {k : Nat} {p1 p2 p3 : Pos} (he : JE CA X e m) : JE CA X (.Subscript e (.Slice none none (some (.UnaryOp .USub (.Constant (.int 1) k p1) p2)) p3) pos) (eU gRevL m) :=
  peI (pe_revL he) fun σ H Q ⟨P, F, A, S, Γ, d, S', R, h, q⟩ => by
  obtain ⟨d1, S1, h1, h⟩ := obind h
  obtain ⟨z, h2, h⟩ := omap h
  cases h
  refine ⟨P, F, A, S, Γ, d1, S1, R, h1, fun v F1 A1 H1 R1 E1 r1 => ?_⟩
  cases d1 with
  | lst xs =>
    cases h2
    obtain ⟨a, vs, rfl, s1, t1⟩ := r1.notLst
    exact ⟨a, vs, rfl, .inl (.inl (R1.subF _ _ s1)), fun p hp => q _ _ A1 _ (R1.lay hp _) (E1.trans (Ex.lay R1 hp _)) (.lst upd_same (t1.reverse.ex (Ex.lay R1 hp _)))⟩
  | _ => cases h2
/-! ### x op= e -/
def sAug (i : Nat) (g : D → D → Option D) (m : Me) : Ms := fun Γ S => match Γ[i]? with
  | some (.im d) => (m Γ S).bind fun r => (g d r.1).map fun z => (.nx, Γ.set i (.im z), r.2)
  | _ => none
theorem js_aug {i : Nat} {x : Str} {op : Operator} {r : R2} {g : D → D → Option D} {pos' : Pos} (h : OpR X (inplaceOp op) r) (ho : Op2 (cx CA X) r g) (hN : X.N.Nodup) (hi : X.N[i]? = some x) (hx : Loc X.env.scope x) (he : JE CA X e m) (hf : X.fn x = true ∨ X.env.scope.names.lookup x = some .local := by first | exact .inl rfl | exact .inr rfl | assumption) :
    JS CA X (.AugAssign (.Name x pos') op e pos) (sAug i g m) :=
  psI (ps_aug hN hi hx he (fun pins s σ H x y v u Q I r1 r2 q => h pins s σ H x y v u Q I r1 r2 q) hf) fun Dn σ H ⟨P, F, A, S, Γ, o, Γ', S', R, w, q⟩ => by
  unfold sAug at w
  split at w
  · next d hd =>
    obtain ⟨d2, S1, h1, w⟩ := obind w
    obtain ⟨z, h2, w⟩ := omap w
    cases w
    obtain ⟨v, e1, rv⟩ := R.slot i _ hd
    refine ⟨v, e1, P, F, A, S, Γ, d2, S1, R, h1, fun u F1 A1 H1 R1 E1 r1 => ?_⟩
    exact ho P F1 A1 S1 Γ σ H1 v u d d2 z R1 (rv.ex E1) r1 h2 _ fun k F2 A2 H2 R2 E2 r2 => q _ F2 A2 H2 (R2.put i r2) (E1.trans E2)
  · cases w
def gAddN : D → D → Option D
  | .int i, .int j => some (.int (i + j))
  | .str i, .str j => if i.length + j.length ≤ 16777216 then some (.str (i ++ j)) else none
  | _, _ => none
def rAddN : R2 := fun x y H Q => (rI0 fun i j => .int (i + j)) x y H Q ∨ rAddS x y H Q
theorem op_iadd : OpR X (inplaceOp .Add) rAddN := iop_add.or iop_add_str
theorem o_addN {C : Stc} : Op2 C rAddN gAddN := (o_int0 (g := fun i j => i + j)).or o_addS fun d e z h => by
  cases d with
  | int i => cases e with
    | int j => exact .inl (by simpa [gI, gAddN] using h)
    | _ => cases h
  | str i => cases e with
    | str j => exact .inr (by simpa [gAddS, gAddN] using h)
    | _ => cases h
  | _ => cases h
/-! ### several names at once -/
abbrev Mvs := Env → Sto → Option (List Sl × Sto)
def prot (P H : Hp) (v : V) : Sl → Hp
  | .ow _ => match v with
    | .ref a => fun b => if b = a then H a else P b
    | _ => P
  | _ => P
def RSls (C : Stc) (F : Hp) (A : List Addr) (Γ : Env) (σ : L2.St) (H : Hp) : Hp → List V → List Sl → Prop
  | _, [], [] => True
  | P, v :: vs, s :: ss => RSl C P F A Γ σ H v s ∧ RSls C F A Γ σ H (prot P H v s) vs ss
  | _, _, _ => False
def Gvs (C : Stc) (f : Mvs) : TA := fun σ H Q => ∃ P F A S Γ ss S', Rel C P F A S Γ σ H ∧ f Γ S = some (ss, S') ∧ ∀ vs F' A' H', Rel C P F' A' S' Γ σ H' → Ex F A F' A' → RSls C F' A' Γ σ H' P vs ss → Q vs H'
def JVs (CA : Str → Addr) (X : Cx) (es : List Expr) (f : Mvs) : Prop := PA X es (Gvs (cx CA X) f)
def vN : Mvs := fun _ S => some ([], S)
def vCs (f : Mv) (r : Mvs) : Mvs := fun Γ S => (f Γ S).bind fun x => (r Γ x.2).map fun y => (x.1 :: y.1, y.2)
theorem jvs_nil : JVs CA X [] vN := paI pa_nil fun σ H Q ⟨P, F, A, S, Γ, d, S', R, h, q⟩ => by
  cases h
  exact q [] F A H R Ex.refl trivial
theorem prot_ow {P H : Hp} {a : Addr} {o : Ob} : prot P H (.ref a) (.ow o) = fun b => if b = a then H a else P b := rfl
theorem prot_upd {P H : Hp} {a : Addr} {u : HO} (h : H a = some u) : (fun b => if b = a then H a else P b) = upd P a u := by
  funext b
  unfold upd
  split
  · exact h
  · rfl
theorem jvs_cons {es : List Expr} {f : Mv} {r : Mvs} (ha : JV CA X e f) (hr : JVs CA X es r) (hs : starEach (e :: es) X.env = (false, eval e X.env) :: starEach es X.env := by rfl) : JVs CA X (e :: es) (vCs f r) :=
  paI (pa_cons ha hr hs) fun σ H Q ⟨P, F, A, S, Γ, d, S', R, h, q⟩ => by
  obtain ⟨s, S1, h1, h⟩ := obind h
  obtain ⟨⟨ss, S2⟩, h2, h⟩ := omap h
  cases h
  refine ⟨P, F, A, S, Γ, s, S1, R, h1, fun v F1 A1 H1 R1 E1 r1 => ?_⟩
  cases s with
  | no => cases r1
  | im d => exact ⟨P, F1, A1, S1, Γ, ss, S2, R1, h2, fun vs F2 A2 H2 R2 E2 r2 => q (v :: vs) F2 A2 H2 R2 (E1.trans E2) ⟨RD.ex r1 E2, r2⟩⟩
  | ow o =>
    obtain ⟨a, rfl, ro, n1, n2, n3, n4⟩ := r1
    obtain ⟨u, hu⟩ := ro.there
    refine ⟨upd P a u, F1, A1, S1, Γ, ss, S2, R1.hold hu n2 n1 n4, h2, fun vs F2 A2 H2 R2 E2 r2 => ?_⟩
    have hP : ∀ b w, P b = some w → upd P a u b = some w := fun b w z => by rw [upd_ne (ne_of_none z n3)]; exact z
    have h2a : H2 a = some u := R2.subP a u upd_same
    have nF : F2 a = none := by
      cases z : F2 a with
      | none => rfl
      | some w => have := R2.dis a w z; rw [upd_same] at this; cases this
    have nA : a ∉ A2 := fun z => by have := (R2.free a z).2; rw [upd_same] at this; cases this
    refine q (.ref a :: vs) F2 A2 H2 (R2.less hP) (E1.trans E2) ⟨⟨a, rfl, ro.mono E2.f E2.a (h2a.trans hu.symm), nA, nF, n3, n4⟩, ?_⟩
    rw [prot_ow, prot_upd h2a]
    exact r2
def setSl (Γ : Env) : List Nat → List Sl → Env
  | i :: is, s :: ss => setSl (Γ.set i s) is ss
  | _, _ => Γ
def setV (σ : L2.St) : List Nat → List V → L2.St
  | i :: is, v :: vs => setV (σ.set i (some v)) is vs
  | _, _ => σ
/-- all values are stored, one behind the other -/
theorem putSls {C : Stc} {F : Hp} {A : List Addr} {S : Sto} {H : Hp} : ∀ {P : Hp} {Γ : Env} {σ : L2.St} {vs : List V} {ss : List Sl} (is : List Nat), Rel C P F A S Γ σ H → RSls C F A Γ σ H P vs ss → is.length = ss.length →
    Rel C P F A S (setSl Γ is ss) (setV σ is vs) H
  | P, Γ, σ, [], [], [], R, _, _ => R
  | P, Γ, σ, v :: vs, s :: ss, i :: is, R, r, hl => by
    obtain ⟨r1, r2⟩ := r
    have R1 := putSl R i r1
    have low : ∀ {vs : List V} {ss : List Sl} {P0 : Hp}, (∀ b o, prot P H v s b = some o → P0 b = some o) → (∀ a o, s = .ow o → v = .ref a → P0 a ≠ none) → RSls C F A Γ σ H P0 vs ss → RSls C F A (Γ.set i s) (σ.set i (some v)) H P0 vs ss := by
      intro vs
      induction vs with
      | nil => intro ss P0 _ _ h; cases ss <;> first | trivial | cases h
      | cons w vs ih =>
        intro ss P0 hp0 hp1 h
        cases ss with
        | nil => cases h
        | cons t ss =>
          obtain ⟨h1, h2⟩ := h
          refine ⟨?_, ih (fun b o z => ?_) (fun a o e1 e2 => ?_) h2⟩
          · cases t with
            | no => exact h1
            | im d => exact h1
            | ow o2 =>
              obtain ⟨a, rfl, ro, n1, n2, n3, n4⟩ := h1
              refine ⟨a, rfl, ro, n1, n2, n3, fun j e1 e2 => ?_⟩
              by_cases hj : i = j
              · subst hj
                have hi : i < Γ.length := by
                  cases z : (Γ.set i s)[i]? with
                  | none => rw [z] at e1; cases e1
                  | some q => have := (List.getElem?_eq_some_iff.mp z).1; simpa using this
                rw [List.getElem?_set_self hi] at e1
                rw [List.getElem?_set_self (by rw [← R.sz]; exact hi)] at e2
                cases e2
                cases s with
                | ow o3 => exact hp1 a o3 rfl rfl n3
                | _ => cases e1
              · rw [List.getElem?_set_ne hj] at e1 e2
                exact n4 j e1 e2
          · have z' := hp0 b o z
            cases t with
            | ow o2 =>
              obtain ⟨a, rfl, ro, n1, n2, n3, n4⟩ := h1
              show (if b = a then H a else P0 b) = some o
              rw [if_neg (ne_of_none z' n3)]
              exact z'
            | _ => exact z'
          · cases t with
            | ow o2 =>
              obtain ⟨a', rfl, ro, n1, n2, n3, n4⟩ := h1
              show (if a = a' then H a' else P0 a) ≠ none
              split
              · obtain ⟨u, hu⟩ := ro.there
                rw [hu]; simp
              · exact hp1 a o e1 e2
            | _ => exact hp1 a o e1 e2
    have r3 := low (P0 := prot P H v s) (fun _ _ h => h) (fun a o e1 e2 => by
      subst e1 e2
      obtain ⟨a', e, ro, _⟩ := r1
      cases e
      obtain ⟨u, hu⟩ := ro.there
      show (if a = a then H a else P a) ≠ none
      rw [if_pos rfl, hu]; simp) r2
    -- back to P for the rest: what is asked of P only grows less
    have weak : ∀ {vs : List V} {ss : List Sl} {P0 P1 : Hp} {Γ : Env} {σ : L2.St}, (∀ b, P1 b = none → P0 b = none) → RSls C F A Γ σ H P1 vs ss → RSls C F A Γ σ H P0 vs ss := by
      intro vs
      induction vs with
      | nil => intro ss P0 P1 Γ σ _ h; cases ss <;> first | trivial | cases h
      | cons w vs ih =>
        intro ss P0 P1 Γ σ hp h
        cases ss with
        | nil => cases h
        | cons t ss =>
          obtain ⟨h1, h2⟩ := h
          refine ⟨?_, ih (fun b z => ?_) h2⟩
          · cases t with
            | no => exact h1
            | im d => exact h1
            | ow o2 =>
              obtain ⟨a, e, ro, n1, n2, n3, n4⟩ := h1
              exact ⟨a, e, ro, n1, n2, hp a n3, n4⟩
          · cases t with
            | ow o2 =>
              obtain ⟨a, rfl, ro, n1, n2, n3, n4⟩ := h1
              have z' : (if b = a then H a else P1 b) = none := z
              show (if b = a then H a else P0 b) = none
              by_cases hb : b = a
              · rw [if_pos hb] at z' ⊢; exact z'
              · rw [if_neg hb] at z' ⊢; exact hp b z'
            | _ => exact hp b z
    have r4 : RSls C F A (Γ.set i s) (σ.set i (some v)) H P vs ss := weak (fun b z => by
      cases s with
      | ow o =>
        obtain ⟨a, rfl, ro, n1, n2, n3, n4⟩ := r1
        have z' : (if b = a then H a else P b) = none := z
        by_cases hb : b = a
        · subst hb; exact n3
        · rw [if_neg hb] at z'; exact z'
      | _ => exact z) r3
    exact putSls (vs := vs) (ss := ss) is R1 r4 (by simpa using hl)
  | _, _, _, [], _ :: _, _, _, r, _ => by cases r
  | _, _, _, _ :: _, [], _, _, r, _ => by cases r
  | _, _, _, [], [], _ :: _, _, _, hl => by cases hl
  | _, _, _, _ :: _, _ :: _, [], _, _, hl => by cases hl
theorem RSls.len {C : Stc} {F : Hp} {A : List Addr} {H : Hp} {Γ : Env} {σ : L2.St} : ∀ {P : Hp} {vs : List V} {ss : List Sl}, RSls C F A Γ σ H P vs ss → vs.length = ss.length
  | _, [], [], _ => rfl
  | _, _ :: vs, _ :: ss, h => by rw [List.length_cons, List.length_cons, RSls.len h.2]
  | _, [], _ :: _, h => by cases h
  | _, _ :: _, [], h => by cases h
def sPar (is : List Nat) (f : Mvs) : Ms := fun Γ S => (f Γ S).bind fun r => if r.1.length = is.length then some (.nx, setSl Γ is r.1, r.2) else none
theorem js_par2 {i j : Nat} {x y : Str} {fa : Mvs} {px py pt : Pos} {kt k2 pt2} (hc : X.calm = true) (hN : X.N.Nodup) (hi : X.N[i]? = some x) (hj : X.N[j]? = some y) (hij : i ≠ j)
    (hx : X.env.scope.names.lookup x = some .local) (hy : X.env.scope.names.lookup y = some .local) (ha : JVs CA X [a, b] fa)
    (hw : swappedStores [.Tuple [.Name x px, .Name y py] kt pt] (.Tuple [a, b] k2 pt2) X.env = pure (some [x, y]) := by rfl)
    (hs : swapsWithSole [.Tuple [.Name x px, .Name y py] kt pt] (.Tuple [a, b] k2 pt2) pos.line X.env = pure false := by rfl) :
    JS CA X (.Assign [.Tuple [.Name x px, .Name y py] kt pt] (.Tuple [a, b] k2 pt2) pos) (sPar [i, j] fa) :=
  psI (ps_par hc hN hi hj hij hx hy ha hw hs) fun Dn σ H ⟨P, F, A, S, Γ, o, Γ', S', R, h, q⟩ => by
  obtain ⟨ss, S1, h1, h⟩ := obind h
  simp only at h
  split at h
  case isFalse => cases h
  case isTrue hl =>
  cases h
  refine ⟨P, F, A, S, Γ, ss, _, R, h1, fun vs F1 A1 H1 R1 E1 r1 => ?_⟩
  have hlv := r1.len
  rw [hl] at hlv
  match vs, hlv with
  | [v, w], _ =>
    have R2 := putSls [i, j] R1 r1 (by rw [hl])
    exact ⟨v, w, rfl, q _ F1 A1 H1 R2 E1⟩
theorem js_par3 {i j l : Nat} {x y z : Str} {fa : Mvs} {px py pz pt : Pos} {kt k2 pt2} (hc : X.calm = true) (hN : X.N.Nodup) (hi : X.N[i]? = some x) (hj : X.N[j]? = some y) (hk : X.N[l]? = some z) (hij : i ≠ j) (hil : i ≠ l) (hjl : j ≠ l)
    (hx : X.env.scope.names.lookup x = some .local) (hy : X.env.scope.names.lookup y = some .local) (hz : X.env.scope.names.lookup z = some .local) (ha : JVs CA X [a, b, c] fa)
    (hw : swappedStores [.Tuple [.Name x px, .Name y py, .Name z pz] kt pt] (.Tuple [a, b, c] k2 pt2) X.env = pure (some [x, y, z]) := by rfl)
    (hs : swapsWithSole [.Tuple [.Name x px, .Name y py, .Name z pz] kt pt] (.Tuple [a, b, c] k2 pt2) pos.line X.env = pure false := by rfl) :
    JS CA X (.Assign [.Tuple [.Name x px, .Name y py, .Name z pz] kt pt] (.Tuple [a, b, c] k2 pt2) pos) (sPar [i, j, l] fa) :=
  psI (ps_par3 hc hN hi hj hk hij hil hjl hx hy hz ha hw hs) fun Dn σ H ⟨P, F, A, S, Γ, o, Γ', S', R, h, q⟩ => by
  obtain ⟨ss, S1, h1, h⟩ := obind h
  simp only at h
  split at h
  case isFalse => cases h
  case isTrue hl =>
  cases h
  refine ⟨P, F, A, S, Γ, ss, _, R, h1, fun vs F1 A1 H1 R1 E1 r1 => ?_⟩
  have hlv := r1.len
  rw [hl] at hlv
  match vs, hlv with
  | [u, v, w], _ =>
    have R2 := putSls [i, j, l] R1 r1 (by rw [hl])
    exact ⟨u, v, w, rfl, q _ F1 A1 H1 R2 E1⟩
/-- any names, by a tuple that is made and taken apart -/
def gNames : List Nat → TGs
  | [] => gNil
  | i :: is => gCons (gName i) (gNames is)
theorem gNames_of {H : Hp} {Q : L2.St → Hp → Prop} : ∀ {is : List Nat} {vs : List V} {σ : L2.St}, vs.length = is.length → Q (setV σ is vs) H → gNames is vs σ H Q
  | [], [], σ, _, q => ⟨rfl, q⟩
  | i :: is, v :: vs, σ, hl, q => ⟨v, vs, rfl, gNames_of (σ := σ.set i (some v)) (by simpa using hl) q⟩
  | [], _ :: _, _, hl, _ => by cases hl
  | _ :: _, [], _, hl, _ => by cases hl
theorem RSls.more {C : Stc} {F : Hp} {A : List Addr} {Γ : Env} {σ : L2.St} {H : Hp} {p : Addr} {u : HO} (hp : H p = none) : ∀ {vs : List V} {ss : List Sl} {P : Hp}, RSls C F A Γ σ H P vs ss → RSls C F A Γ σ (upd H p u) P vs ss
  | [], [], _, _ => trivial
  | v :: vs, s :: ss, P, ⟨h1, h2⟩ => by
    cases s with
    | no => exact ⟨h1, RSls.more hp h2⟩
    | im d => exact ⟨h1, RSls.more hp h2⟩
    | ow o =>
      obtain ⟨a, rfl, ro, n1, n2, n3, n4⟩ := h1
      obtain ⟨w, hw⟩ := ro.there
      have ne : a ≠ p := ne_of_none hw hp
      have e : upd H p u a = H a := upd_ne ne
      refine ⟨⟨a, rfl, ro.mono (fun _ _ h => h) (List.prefix_refl _) e, n1, n2, n3, n4⟩, ?_⟩
      have q := RSls.more (u := u) hp h2
      have e2 : prot P (upd H p u) (.ref a) (.ow o) = prot P H (.ref a) (.ow o) := by
        rw [prot_ow, prot_ow, e]
      rw [e2]
      exact q
  | [], _ :: _, _, h => by cases h
  | _ :: _, [], _, h => by cases h
theorem js_parN {is : List Nat} {es ts : List Expr} {fa : Mvs} {pt : Pos} {kt k2 pt2} (hc : X.calm = true) (ha : JVs CA X es fa) (hg : PGs X ts (gNames is)) (hsm : is.length ≤ 1000 := by decide) (hn : (assignEach ts X.env).length = is.length := by rfl) (hst : (assignEach ts X.env).findIdx? (·.1) = none := by rfl)
    (hs : swapsWithSole [.Tuple ts kt pt] (.Tuple es k2 pt2) pos.line X.env = pure false := by rfl) (hw : swappedStores [.Tuple ts kt pt] (.Tuple es k2 pt2) X.env = pure none := by rfl)
    (h1 : (assignEach [.Tuple ts kt pt] X.env).map (·.2) = [assign (.Tuple ts kt pt) X.env] := by rfl) : JS CA X (.Assign [.Tuple ts kt pt] (.Tuple es k2 pt2) pos) (sPar is fa) :=
  psI (ps_asg (pe_tup ha) (pg_tup hc hg hn hst) hs hw h1) fun Dn σ H ⟨P, F, A, S, Γ, o, Γ', S', R, h, q⟩ => by
  obtain ⟨ss, S1, h1, h⟩ := obind h
  simp only at h
  split at h
  case isFalse => cases h
  case isTrue hl =>
  cases h
  refine ⟨P, F, A, S, Γ, ss, _, R, h1, fun vs F1 A1 H1 R1 E1 r1 => ?_⟩
  have hlv := r1.len
  rw [hl] at hlv
  refine ⟨by rw [hlv, sizeLine_eq]; omega, fun p hp => ⟨p, vs, rfl, .inl (.inl upd_same), hlv, ?_⟩⟩
  refine gNames_of hlv (q _ F1 A1 _ ?_ E1)
  exact putSls is (R1.more hp _) (r1.more hp) hl.symm
end
end J
/-! J10: order of ints, texts, tuples of ints; -x; tests over lists that change; tuple(range), list(range). -/
namespace J
open PySem PySem.Spec PyProof.Rows L2
def gLt : D → D → Option D
  | .int i, .int j => some (.bl (decide (i < j)))
  | .str i, .str j => some (.bl (decide (i.cps.toList < j.cps.toList)))
  | .tup xs, .tup ys => match intsD xs, intsD ys with
    | some ns, some ms => some (.bl (HT.lexLt ns ms))
    | _, _ => none
  | _, _ => none
def gLe : D → D → Option D
  | .int i, .int j => some (.bl (decide (i ≤ j)))
  | .str i, .str j => some (.bl (!decide (j.cps.toList < i.cps.toList)))
  | _, _ => none
def rLtS : R2 := fun x y H Q => ∃ i j, x = .str i ∧ y = .str j ∧ Q (.bl (decide (i.cps.toList < j.cps.toList))) H
def rLeS : R2 := fun x y H Q => ∃ i j, x = .str i ∧ y = .str j ∧ Q (.bl (!decide (j.cps.toList < i.cps.toList))) H
def rLtJ (K : PySem.W.Frag) : R2 := fun x y H Q => (rI0 fun i j => .bl (decide (i < j))) x y H Q ∨ rLtS x y H Q ∨ rLtT K x y H Q
def rLeJ : R2 := fun x y H Q => (rI0 fun i j => .bl (decide (i ≤ j))) x y H Q ∨ rLeS x y H Q
section
variable {CA : Str → Addr} {X : Cx} {e o : Expr} {m : Me} {p : Mp} {pos : Pos}
theorem op_ltJ (hu : X.A.units + 64 < cLine) : OpR X (compareOp .Lt) (rLtJ X.K) := op_lt.or (op_lt_str.or (op_ltT (by omega)))
theorem op_leJ : OpR X (compareOp .LtE) rLeJ := op_le.or op_le_str
theorem o_lt {C : Stc} : Op2 C (rLtJ C.K) gLt := fun P F A S Γ σ H x y d e z R rd re h Q q => by
  cases d with
  | int i =>
    cases e with
    | int j => cases h; cases rd; cases re; exact .inl ⟨i, j, rfl, rfl, q _ F A H R Ex.refl (.bl _)⟩
    | _ => cases h
  | str i =>
    cases e with
    | str j => cases h; cases rd; cases re; exact .inr (.inl ⟨i, j, rfl, rfl, q _ F A H R Ex.refl (.bl _)⟩)
    | _ => cases h
  | tup xs =>
    cases e with
    | tup ys =>
      simp only [gLt] at h
      cases h1 : intsD xs with
      | none => rw [h1] at h; cases h
      | some ns =>
        cases h2 : intsD ys with
        | none => rw [h1, h2] at h; cases h
        | some ms =>
          rw [h1, h2] at h
          cases h
          obtain ⟨a, vs, rfl, s1, r1⟩ := rd.isTup
          obtain ⟨b, ws, rfl, s2, r2⟩ := re.isTup
          rw [intsD_of h1] at r1
          rw [intsD_of h2] at r2
          rw [r1.ints] at s1
          rw [r2.ints] at s2
          exact .inr (.inr ⟨a, b, ns, ms, rfl, rfl, seqT_mono R.subF s1, seqT_mono R.subF s2, q _ F A H R Ex.refl (.bl _)⟩)
    | _ => cases h
  | _ => cases e <;> cases h
theorem o_le {C : Stc} : Op2 C rLeJ gLe := fun P F A S Γ σ H x y d e z R rd re h Q q => by
  cases d with
  | int i =>
    cases e with
    | int j => cases h; cases rd; cases re; exact .inl ⟨i, j, rfl, rfl, q _ F A H R Ex.refl (.bl _)⟩
    | _ => cases h
  | str i =>
    cases e with
    | str j => cases h; cases rd; cases re; exact .inr ⟨i, j, rfl, rfl, q _ F A H R Ex.refl (.bl _)⟩
    | _ => cases h
  | _ => cases e <;> cases h
def gNeg : D → Option D
  | .int i => some (.int (-i))
  | _ => none
theorem u_neg {C : Stc} : Un1 C (rU fun i => .int (-i)) gNeg := fun P F A S Γ σ H x d z R rd h Q q => by
  cases d with
  | int i => cases h; cases rd; exact ⟨i, rfl, q _ F A H R Ex.refl (.int _)⟩
  | _ => cases h
theorem jt_inP (hu : X.A.units + 64 < cLine) (he : JE CA X e m) (ho : JP CA X o p) (hm : behindInMarks .In o = false := by rfl) : JT CA X (.Compare e [.In] [o] pos) (tV gB (eQ2 gInP m p)) :=
  ptI (pt_cmpR (op_inJ hu) he ho hm) fun σ H Q w => by
  obtain ⟨P, F, A, S, Γ, d, S', R, w, q⟩ := gx_bool w
  obtain ⟨k, S1, h1, w⟩ := obind w
  obtain ⟨h, S2, h2, w⟩ := obind w
  refine ⟨P, F, A, S, Γ, k, S1, R, h1, fun v F1 A1 H1 R1 E1 r1 => ⟨P, F1, A1, S1, Γ, h, S2, R1, h2, fun a F2 A2 H2 R2 E2 r2 => ?_⟩⟩
  cases ho : h.get Γ S2 with
  | none => simp only [ho] at w; cases w
  | some ob =>
    simp only [ho, Option.bind_some] at w
    obtain ⟨z, h3, w⟩ := omap w
    cases w
    cases ob with
    | lst xs =>
      obtain ⟨vs, e1, rv⟩ := ObR.isLst (R2.at r2 ho)
      obtain ⟨t1, t2, t3⟩ := R2.temp (R2.apartF r2).1 e1 rv
      obtain ⟨b, h4, h5⟩ := omap (show (gIn0 k (.lst xs)).map D.bl = some _ from h3)
      cases h5
      exact ⟨_, A2, k, .lst xs, b, t1, (r1.ex E2).mono t2 (List.prefix_refl _), t3, h4, q _ F2 A2 H2 R2 (E1.trans E2) (.bl _)⟩
    | _ => cases h3
theorem jt_niP (hu : X.A.units + 64 < cLine) (he : JE CA X e m) (ho : JP CA X o p) (hm : behindInMarks .NotIn o = false := by rfl) : JT CA X (.Compare e [.NotIn] [o] pos) (tV gB (eQ2 gNiP m p)) :=
  ptI (pt_cmpR (op_niJ hu) he ho hm) fun σ H Q w => by
  obtain ⟨P, F, A, S, Γ, d, S', R, w, q⟩ := gx_bool w
  obtain ⟨k, S1, h1, w⟩ := obind w
  obtain ⟨h, S2, h2, w⟩ := obind w
  refine ⟨P, F, A, S, Γ, k, S1, R, h1, fun v F1 A1 H1 R1 E1 r1 => ⟨P, F1, A1, S1, Γ, h, S2, R1, h2, fun a F2 A2 H2 R2 E2 r2 => ?_⟩⟩
  cases ho : h.get Γ S2 with
  | none => simp only [ho] at w; cases w
  | some ob =>
    simp only [ho, Option.bind_some] at w
    obtain ⟨z, h3, w⟩ := omap w
    cases w
    cases ob with
    | lst xs =>
      obtain ⟨vs, e1, rv⟩ := ObR.isLst (R2.at r2 ho)
      obtain ⟨t1, t2, t3⟩ := R2.temp (R2.apartF r2).1 e1 rv
      obtain ⟨b, h4, h5⟩ := omap (show (gIn0 k (.lst xs)).map (fun b => D.bl (!b)) = some _ from h3)
      cases h5
      exact ⟨_, A2, k, .lst xs, b, t1, (r1.ex E2).mono t2 (List.prefix_refl _), t3, h4, q _ F2 A2 H2 R2 (E1.trans E2) (.bl _)⟩
    | _ => cases h3
end
/-! ### tuple(range(..)), list(range(..)) -/
abbrev Mr := Env → Sto → Option ((Int × Int) × Sto)
def Gr (C : Stc) (f : Mr) : L2.St → Hp → (Int → Int → Hp → Prop) → Prop := fun σ H Q => ∃ P F A S Γ i j S', Rel C P F A S Γ σ H ∧ f Γ S = some ((i, j), S') ∧ ∀ F' A' H', Rel C P F' A' S' Γ σ H' → Ex F A F' A' → Q i j H'
def JR (CA : Str → Addr) (X : Cx) (e : Expr) (f : Mr) : Prop := PRg X e (Gr (cx CA X) f)
def mI : D → Option Int
  | .int i => some i
  | _ => none
def mR1 (a : Me) : Mr := fun Γ S => (a Γ S).bind fun x => (mI x.1).map fun i => ((0, i), x.2)
def mR2 (a b : Me) : Mr := fun Γ S => (a Γ S).bind fun x => (b Γ x.2).bind fun y => (mI x.1).bind fun i => (mI y.1).map fun j => ((i, j), y.2)
def okR (i j : Int) : Bool := decide (i.natAbs < 4611686018427387904 ∧ j.natAbs < 4611686018427387904 ∧ (j - i).toNat ≤ 16777216)
def eRT (m : Mr) : Me := fun Γ S => (m Γ S).bind fun r => if okR r.1.1 r.1.2 = true then some (.tup (rngD r.1.1 (r.1.2 - r.1.1).toNat), r.2) else none
def eRL (m : Mr) : Me := fun Γ S => (m Γ S).bind fun r => if okR r.1.1 r.1.2 = true then some (.lst (rngD r.1.1 (r.1.2 - r.1.1).toNat), r.2) else none
theorem mI_of {d : D} {i : Int} (h : mI d = some i) : d = .int i := by
  cases d with
  | int j => cases h; rfl
  | _ => cases h
theorem okR_of {i j : Int} (h : okR i j = true) : L2.RgOk i j := by
  have h := of_decide_eq_true h
  have e : (2 : Int) ^ 62 = 4611686018427387904 := by decide
  unfold L2.RgOk
  rw [e]
  exact ⟨by omega, by omega, by omega, by omega, by omega⟩
theorem rds_rng {K : PySem.W.Frag} {F : Hp} {A : List Addr} (lo : Int) : ∀ l : List Nat, RDs K F A (l.map fun i => V.int (lo + (i : Nat))) (l.map fun (k : Nat) => D.int (lo + k))
  | [] => .nil
  | _ :: l => .cons (.int _) (rds_rng lo l)
section
variable {CA : Str → Addr} {X : Cx} {e a b : Expr} {fa fb : Me} {f : Mr} {p pos : Pos}
theorem jr_1 (hg : Gl X "range") (hm : X.mg "range" = none) (ha : JE CA X a fa) (na : starEach [a] X.env = (false, eval a X.env) :: starEach [] X.env := by rfl) : JR CA X (.Call (.Name "range" p) [a] [] pos) (mR1 fa) := by
  intro pins s σ H Q I ⟨P, F, A, S, Γ, i, j, S', R, h, q⟩
  refine L2.prg_1 hg hm ha na pins s σ H Q I ?_
  obtain ⟨d1, S1, h1, h⟩ := obind h
  obtain ⟨n, h2, h⟩ := omap h
  cases h
  cases mI_of h2
  refine ⟨P, F, A, S, Γ, _, S1, R, h1, fun v F1 A1 H1 R1 E1 r1 => ?_⟩
  cases r1
  exact ⟨_, rfl, q F1 A1 H1 R1 E1⟩
theorem jr_2 (hg : Gl X "range") (hm : X.mg "range" = none) (ha : JE CA X a fa) (hb : JE CA X b fb) (na : starEach [a, b] X.env = (false, eval a X.env) :: starEach [b] X.env := by rfl)
    (nb : starEach [b] X.env = (false, eval b X.env) :: starEach [] X.env := by rfl) (hp : (backTo pos (starEach [b] X.env)).any (·.1) = false := by rfl) : JR CA X (.Call (.Name "range" p) [a, b] [] pos) (mR2 fa fb) := by
  intro pins s σ H Q I ⟨P, F, A, S, Γ, i, j, S', R, h, q⟩
  refine L2.prg_2 hg hm ha hb na nb hp pins s σ H Q I ?_
  obtain ⟨d1, S1, h1, h⟩ := obind h
  obtain ⟨d2, S2, h2, h⟩ := obind h
  obtain ⟨n, h3, h⟩ := Option.bind_eq_some_iff.mp h
  obtain ⟨m, h4, h⟩ := omap h
  cases h
  cases mI_of h3
  cases mI_of h4
  refine ⟨P, F, A, S, Γ, _, S1, R, h1, fun v F1 A1 H1 R1 E1 r1 => ⟨P, F1, A1, S1, Γ, _, S2, R1, h2, fun u F2 A2 H2 R2 E2 r2 => ?_⟩⟩
  cases r1
  cases r2
  exact ⟨_, _, rfl, rfl, q F2 A2 H2 R2 (E1.trans E2)⟩
theorem je_tupRg (hc : X.calm = true) (hg : Gl X "tuple") (hm : X.mg "tuple" = none) (he : JR CA X e f) (na : starEach [e] X.env = (false, eval e X.env) :: starEach [] X.env := by rfl) : JE CA X (.Call (.Name "tuple" p) [e] [] pos) (eRT f) :=
  peI (L2.pe_tupRg hc hg hm he na) fun σ H Q ⟨P, F, A, S, Γ, d, S', R, h, q⟩ => by
  obtain ⟨⟨i, j⟩, S1, h1, h⟩ := obind h
  simp only at h
  split at h
  case isFalse => cases h
  case isTrue hk =>
  cases h
  refine ⟨P, F, A, S, Γ, i, j, _, R, h1, fun F1 A1 H1 R1 E1 => ⟨okR_of hk, fun b hb => ?_⟩⟩
  exact q _ _ _ _ (R1.lay hb _) (E1.trans (Ex.lay R1 hb _)) (.tup (.inl (.inl upd_same)) (rds_rng _ _))
theorem je_lstRg (hc : X.calm = true) (hg : Gl X "list") (hm : X.mg "list" = none) (he : JR CA X e f) (na : starEach [e] X.env = (false, eval e X.env) :: starEach [] X.env := by rfl) : JE CA X (.Call (.Name "list" p) [e] [] pos) (eRL f) :=
  peI (L2.pe_listRg hc hg hm he na) fun σ H Q ⟨P, F, A, S, Γ, d, S', R, h, q⟩ => by
  obtain ⟨⟨i, j⟩, S1, h1, h⟩ := obind h
  simp only at h
  split at h
  case isFalse => cases h
  case isTrue hk =>
  cases h
  refine ⟨P, F, A, S, Γ, i, j, _, R, h1, fun F1 A1 H1 R1 E1 => ⟨okR_of hk, fun b hb => ?_⟩⟩
  exact q _ _ _ _ (R1.lay hb _) (E1.trans (Ex.lay R1 hb _)) (.lst upd_same (rds_rng _ _))
end
end J
/-! J11: what is walked and turned round, whatever it is; the law's own entry. -/
namespace J
open PySem PySem.Spec PyProof.Rows L2
section
variable {CA : Str → Addr} {X : Cx} {tg e : Expr} {f : Me} {pos : Pos}
def gIt : D → Option (List D)
  | .tup xs => some xs
  | .lst xs => some xs
  | .fz xs => some xs
  | .str x => gStrI (.str x)
  | _ => none
theorem gIt_of {d : D} {ds : List D} (h : gIt d = some ds) : gTupI d = some ds ∨ gLstI d = some ds ∨ gStrI d = some ds := by
  cases d with
  | tup xs => exact .inl h
  | lst xs => exact .inr (.inl h)
  | fz xs => exact .inr (.inl h)
  | str x => exact .inr (.inr h)
  | _ => cases h
theorem ji_any (he : JE CA X e f) : JI CA X tg e (iV gIt f) := by
  have h1 : JI CA X tg e (iV gTupI f) := ji_tup he
  have h2 : JI CA X tg e (iV gLstI f) := ji_lst he
  have h3 : JI CA X tg e (iV gStrI f) := ji_str he
  refine ⟨fun pins s σ H Q I hq => ?_⟩
  obtain ⟨P, F, A, S, Γ, ds, S', R, h, q⟩ := hq
  obtain ⟨d1, S1, g1, h⟩ := obind h
  obtain ⟨z, g2, h⟩ := omap h
  cases h
  rcases gIt_of g2 with g | g | g
  · exact h1.run pins s σ H Q I ⟨P, F, A, S, Γ, _, _, R, by unfold iV; simp only [g1, g, Option.bind_some, Option.map_some], q⟩
  · exact h2.run pins s σ H Q I ⟨P, F, A, S, Γ, _, _, R, by unfold iV; simp only [g1, g, Option.bind_some, Option.map_some], q⟩
  · exact h3.run pins s σ H Q I ⟨P, F, A, S, Γ, _, _, R, by unfold iV; simp only [g1, g, Option.bind_some, Option.map_some], q⟩
def gRv (d : D) : Option D := match d with
  | .tup _ => gRev d
  | _ => gRevL d
theorem gRv_of {d z : D} (h : gRv d = some z) : gRev d = some z ∨ gRevL d = some z := by
  cases d <;> first | exact .inl h | exact .inr h
theorem je_rev {k : Nat} {p1 p2 p3 : Pos} (he : JE CA X e f) : JE CA X (.Subscript e (.Slice none none (some (.UnaryOp .USub (.Constant (.int 1) k p1) p2)) p3) pos) (eU gRv f) := by
  have h1 := je_revT (pos := pos) (k := k) (p1 := p1) (p2 := p2) (p3 := p3) he
  have h2 := je_revL (pos := pos) (k := k) (p1 := p1) (p2 := p2) (p3 := p3) he
  refine ⟨fun pins s σ H Q I hq => ?_⟩
  obtain ⟨P, F, A, S, Γ, ds, S', R, h, q⟩ := hq
  obtain ⟨d1, S1, g1, h⟩ := obind h
  obtain ⟨z, g2, h⟩ := omap h
  cases h
  rcases gRv_of g2 with g | g
  · exact h1.run pins s σ H Q I ⟨P, F, A, S, Γ, _, _, R, by unfold eU; simp only [g1, g, Option.bind_some, Option.map_some], q⟩
  · exact h2.run pins s σ H Q I ⟨P, F, A, S, Γ, _, _, R, by unfold eU; simp only [g1, g, Option.bind_some, Option.map_some], q⟩
/-- a number kept at the top -/
theorem je_gi {x : Str} {i : Int} {u : Value} {p : Pos} (hg : Gl X x) (hm : X.mg x = some u) (r : RelV (.int i) u) (hd : (x == ("__debug__" : Str)) = false := by decide) : JE CA X (.Name x p) (eC (.int i)) :=
  je_glob hg hm r (fun F A => .int i) hd
theorem je_gs {x y : Str} {u : Value} {p : Pos} (hg : Gl X x) (hm : X.mg x = some u) (r : RelV (.str y) u) (hd : (x == ("__debug__" : Str)) = false := by decide) : JE CA X (.Name x p) (eC (.str y)) :=
  je_glob hg hm r (fun F A => .str y) hd
end
/-- the law's own entry -/
theorem rds_ints {K : PySem.W.Frag} {F : Hp} {A : List Addr} : ∀ ns : List Int, RDs K F A (ns.map V.int) (ns.map D.int)
  | [] => .nil
  | n :: ns => .cons (.int n) (rds_ints ns)
theorem law_sp {K : PySem.W.Frag} {CA : Str → Addr} {f : Mf} {H : Hp} {a : Addr} {ns : List Int} (hS : SqL K H a (ns.map V.int)) {S' : Sto} (h : f [.fz (ns.map D.int)] [] = some (.bl true, S')) :
    spD ⟨K, CA⟩ 1 f [.ref a] H (fun v _ => v = .bl true) (fun _ _ _ => False) := by
  refine ⟨fun _ => none, H, [], [], _, _, _, rfl, ?_, .cons (.fz hS (rds_ints ns)) .nil, h, fun v F' A' H' R E r => by cases r; rfl⟩
  refine ⟨fun _ _ h => h, fun _ _ h => (by cases h), fun _ _ _ => rfl, rfl, rfl, List.nodup_nil, fun a h => (by cases h), fun n b o h => (by simp at h), fun i s e => (by simp at e), fun i a h => (by simp [isOw] at h), fun i j a h => (by simp [isOw] at h)⟩
end J
/-! J12: reckoning with meanings. -/
namespace J
open PySem PySem.Spec PyProof.Rows L2
section
variable {Γ : Env} {S : Sto} {d : D} {i j : Nat} {a b : Me} {g : D → D → Option D} {u : D → Option D} {f : List D → Option D} {m : Ma} {t t' : Mt} {p : Mp} {x y : Ms}
@[simp] theorem eC_ap : eC d Γ S = some (d, S) := rfl
@[simp] theorem eV_ap : eV i Γ S = match Γ[i]? with | some (.im d) => some (d, S) | _ => none := rfl
@[simp] theorem eB_ap : eB g a b Γ S = (a Γ S).bind fun r => (b Γ r.2).bind fun q => (g r.1 q.1).map fun z => (z, q.2) := rfl
@[simp] theorem eU_ap : eU u a Γ S = (a Γ S).bind fun r => (u r.1).map fun z => (z, r.2) := rfl
@[simp] theorem eF_ap : eF f m Γ S = (m Γ S).bind fun r => (f r.1).map fun z => (z, r.2) := rfl
@[simp] theorem tV_ap {k : D → Option Bool} : tV k a Γ S = (a Γ S).bind fun r => (k r.1).map fun z => (z, r.2) := rfl
@[simp] theorem aN_ap : aN Γ S = some ([], S) := rfl
@[simp] theorem aC_ap : aC a m Γ S = (a Γ S).bind fun x => (m Γ x.2).map fun y => (x.1 :: y.1, y.2) := rfl
@[simp] theorem tAnd_ap : tAnd t t' Γ S = (t Γ S).bind fun r => if r.1 = true then t' Γ r.2 else some (false, r.2) := rfl
@[simp] theorem tOr_ap : tOr t t' Γ S = (t Γ S).bind fun r => if r.1 = true then some (true, r.2) else t' Γ r.2 := rfl
@[simp] theorem tNot_ap : tNot t Γ S = (t Γ S).map fun r => (!r.1, r.2) := rfl
@[simp] theorem eIf_ap : eIf t a b Γ S = (t Γ S).bind fun r => if r.1 = true then a Γ r.2 else b Γ r.2 := rfl
@[simp] theorem eAnd_ap : eAnd a b Γ S = (a Γ S).bind fun r => (gTru r.1).bind fun k => if k = true then b Γ r.2 else some r := rfl
@[simp] theorem eOr_ap : eOr a b Γ S = (a Γ S).bind fun r => (gTru r.1).bind fun k => if k = true then some r else b Γ r.2 := rfl
@[simp] theorem eChain_ap {g' : D → D → Option D} {c : Me} : eChain g g' a b c Γ S = (a Γ S).bind fun x => (b Γ x.2).bind fun y => (g x.1 y.1).bind fun k => match k with
    | .bl true => (c Γ y.2).bind fun z => (g' y.1 z.1).map fun d => (d, z.2)
    | .bl false => some (.bl false, y.2)
    | _ => none := rfl
@[simp] theorem eCall_ap {M : Mf} : eCall M m Γ S = (m Γ S).bind fun r => M r.1 r.2 := rfl
@[simp] theorem sNil_ap : sNil Γ S = some (.nx, Γ, S) := rfl
@[simp] theorem sSeq_ap : sSeq x y Γ S = (x Γ S).bind fun r => match r.1 with | .nx => y r.2.1 r.2.2 | _ => some r := rfl
@[simp] theorem sDrop_ap : sDrop a Γ S = (a Γ S).map fun r => (.nx, Γ, r.2) := rfl
@[simp] theorem sRet_ap : sRet a Γ S = (a Γ S).map fun r => (.rt r.1, [], r.2) := rfl
@[simp] theorem sRetN_ap : sRetN Γ S = some (.rt .non, [], S) := rfl
@[simp] theorem sIf_ap : sIf t x y Γ S = (t Γ S).bind fun r => if r.1 = true then x Γ r.2 else y Γ r.2 := rfl
@[simp] theorem sBrk_ap : sBrk Γ S = some (.bk, Γ, S) := rfl
@[simp] theorem sCnt_ap : sCnt Γ S = some (.ct, Γ, S) := rfl
@[simp] theorem sSet_ap : sSet i a Γ S = (a Γ S).map fun r => (.nx, Γ.set i (.im r.1), r.2) := rfl
@[simp] theorem sSetV_ap {v : Mv} : sSetV i v Γ S = (v Γ S).map fun r => (.nx, Γ.set i r.1, r.2) := rfl
@[simp] theorem sAsg_ap {h : Mg} : sAsg a h Γ S = (a Γ S).bind fun r => (h r.1 Γ).map fun Γ' => (.nx, Γ', r.2) := rfl
@[simp] theorem sAug_ap : sAug i g a Γ S = match Γ[i]? with | some (.im d) => (a Γ S).bind fun r => (g d r.1).map fun z => (.nx, Γ.set i (.im z), r.2) | _ => none := rfl
@[simp] theorem sPar_ap {is : List Nat} {vs : Mvs} : sPar is vs Γ S = (vs Γ S).bind fun r => if r.1.length = is.length then some (.nx, setSl Γ is r.1, r.2) else none := rfl
@[simp] theorem setSl_c {k : Nat} {is : List Nat} {s : Sl} {ss : List Sl} : setSl Γ (k :: is) (s :: ss) = setSl (Γ.set k s) is ss := rfl
@[simp] theorem setSl_n : setSl Γ [] [] = Γ := rfl
@[simp] theorem vN_ap : vN Γ S = some ([], S) := rfl
@[simp] theorem vCs_ap {v : Mv} {r : Mvs} : vCs v r Γ S = (v Γ S).bind fun x => (r Γ x.2).map fun y => (x.1 :: y.1, y.2) := rfl
@[simp] theorem vI_ap : vI a Γ S = (a Γ S).map fun r => (.im r.1, r.2) := rfl
@[simp] theorem vL_ap : vL m Γ S = (m Γ S).bind fun r => (gvL r.1).map fun z => (z, r.2) := rfl
@[simp] theorem gvL_nil : gvL [] = some (.ow (.lst [])) := rfl
@[simp] theorem eFz_ap {v : Mv} : eFz v Γ S = (v Γ S).bind fun r => (frzS r.1).map fun d => (d, r.2) := rfl
@[simp] theorem frzS_l {xs : List D} : frzS (.ow (.lst xs)) = some (.lst xs) := rfl
@[simp] theorem frzS_i : frzS (.im d) = some d := rfl
@[simp] theorem oN_ap : oN Γ S = some (none, S) := rfl
@[simp] theorem oS_ap : oS a Γ S = (a Γ S).bind fun r => (gPart r.1).map fun z => (z, r.2) := rfl
@[simp] theorem gPart_i {n : Int} : gPart (.int n) = some (some n) := rfl
@[simp] theorem eSl_ap {l h : Mo} : eSl a l h Γ S = (a Γ S).bind fun x => (l Γ x.2).bind fun y => (h Γ y.2).bind fun z => (gSl x.1 y.1 z.1).map fun d => (d, z.2) := rfl
@[simp] theorem pO_ap : pO i Γ S = if isOw Γ[i]? = true then some (.sl i, S) else none := rfl
@[simp] theorem pR_im : pR a Γ S = (a Γ S).bind fun r => match r.1 with | .ref n => some (.st n, r.2) | _ => none := rfl
@[simp] theorem eP1_ap {k : Ob → Option D} : eP1 k p Γ S = (p Γ S).bind fun r => (r.1.get Γ r.2).bind fun o => (k o).map fun d => (d, r.2) := rfl
@[simp] theorem eP2_ap {k : Ob → D → Option D} : eP2 k p a Γ S = (p Γ S).bind fun r => (a Γ r.2).bind fun q => (r.1.get Γ q.2).bind fun o => (k o q.1).map fun d => (d, q.2) := rfl
@[simp] theorem eQ2_ap {k : D → Ob → Option D} : eQ2 k a p Γ S = (a Γ S).bind fun q => (p Γ q.2).bind fun r => (r.1.get Γ r.2).bind fun o => (k q.1 o).map fun d => (d, r.2) := rfl
@[simp] theorem sP1_ap {k : Ob → Bool} {h : Ob → D → Option Ob} : sP1 k h p a Γ S = (p Γ S).bind fun r => (r.1.get Γ r.2).bind fun o0 => if k o0 = true then (a Γ r.2).bind fun q => (r.1.get Γ q.2).bind fun o => (h o q.1).map fun o' => (.nx, r.1.set o' Γ q.2) else none := rfl
@[simp] theorem sP2_ap {h : Ob → D → D → Option Ob} : sP2 h a p b Γ S = (a Γ S).bind fun v => (p Γ v.2).bind fun r => (b Γ r.2).bind fun q => (r.1.get Γ q.2).bind fun o => (h o q.1 v.1).map fun o' => (.nx, r.1.set o' Γ q.2) := rfl
@[simp] theorem sNew_ap : sNew i m Γ S = (m Γ S).bind fun r => if r.1.length ≤ 16777216 then some (.nx, Γ.set i (.im (.ref r.2.length)), r.2 ++ [.lst r.1]) else none := rfl
@[simp] theorem sFrz_ap : sFrz i x Γ S = x (frzE i Γ) S := rfl
@[simp] theorem sFor_ap {it : Ma} {h : Mg} : sFor it h x Γ S = (it Γ S).bind fun r => forGo h x r.1 Γ r.2 := rfl
@[simp] theorem iV_ap {k : D → Option (List D)} : iV k a Γ S = (a Γ S).bind fun r => (k r.1).map fun ds => (ds, r.2) := rfl
@[simp] theorem iA_ap {k : List D → Option (List D)} : iA k m Γ S = (m Γ S).bind fun r => (k r.1).map fun ds => (ds, r.2) := rfl
@[simp] theorem gNm_ap : gNm i d Γ = some (Γ.set i (.im d)) := rfl
@[simp] theorem gsN_ap : gsN [] Γ = some Γ := rfl
@[simp] theorem gsC_ap {h : Mg} {r : Mgs} {ds : List D} : gsC h r (d :: ds) Γ = (h d Γ).bind fun Γ' => r ds Γ' := rfl
@[simp] theorem gTp_ap {n : Nat} {r : Mgs} {ds : List D} : gTp n r (.tup ds) Γ = if ds.length = n then r ds Γ else none := rfl
@[simp] theorem tYs_ap : tYs Γ S = some (true, S) := rfl
@[simp] theorem mR1_ap : mR1 a Γ S = (a Γ S).bind fun x => (mI x.1).map fun i => ((0, i), x.2) := rfl
@[simp] theorem mR2_ap : mR2 a b Γ S = (a Γ S).bind fun x => (b Γ x.2).bind fun y => (mI x.1).bind fun i => (mI y.1).map fun j => ((i, j), y.2) := rfl
@[simp] theorem mI_i {n : Int} : mI (.int n) = some n := rfl
theorem eRT_of {r : Mr} {S' : Sto} {i j : Int} (h : r Γ S = some ((i, j), S')) (ok : okR i j = true) : eRT r Γ S = some (.tup (rngD i (j - i).toNat), S') := by
  unfold eRT
  rw [h, Option.bind_some, if_pos ok]
theorem eRL_of {r : Mr} {S' : Sto} {i j : Int} (h : r Γ S = some ((i, j), S')) (ok : okR i j = true) : eRL r Γ S = some (.lst (rngD i (j - i).toNat), S') := by
  unfold eRL
  rw [h, Option.bind_some, if_pos ok]
end
section
variable {i j : Int} {b c : Bool} {d e : D} {xs ys : List D} {Γ : Env} {S : Sto}
@[simp] theorem gB_b : gB (.bl b) = some b := rfl
@[simp] theorem gTru_b : gTru (.bl b) = some b := rfl
@[simp] theorem gTru_i : gTru (.int i) = some (i != 0) := rfl
@[simp] theorem gTru_n : gTru .non = some false := rfl
@[simp] theorem gTru_t : gTru (.tup xs) = some (!xs.isEmpty) := rfl
@[simp] theorem gTru_l : gTru (.lst xs) = some (!xs.isEmpty) := rfl
@[simp] theorem gSub_i : gSub (.int i) (.int j) = some (.int (i - j)) := rfl
@[simp] theorem gAdd_i : gAdd (.int i) (.int j) = some (.int (i + j)) := rfl
@[simp] theorem gAddN_i : gAddN (.int i) (.int j) = some (.int (i + j)) := rfl
@[simp] theorem gNeg_i : gNeg (.int i) = some (.int (-i)) := rfl
theorem gMod_i (h : 0 < j) : gMod (.int i) (.int j) = some (.int (i % j)) := by simp [gMod, gI, h]
theorem gDiv_i (h : 0 < j) (h2 : j < 1073741824) : gDiv (.int i) (.int j) = some (.int (i / j)) := by
  simp only [gDiv, gI]
  rw [if_pos (decide_eq_true (by omega))]
theorem gMul_i (h : cMul i j = true) : gMulA (.int i) (.int j) = some (.int (i * j)) := by simp [gMulA, gMul, gI, h]
theorem gMul_r (h : -18446744073709551616 < j ∧ j < 18446744073709551616) : gMulA (.int i) (.int j) = some (.int (i * j)) := gMul_i (by unfold cMul; rw [Bool.or_eq_true, decide_eq_true_eq, decide_eq_true_eq]; omega)
theorem gMul_l (h : -18446744073709551616 < i ∧ i < 18446744073709551616) : gMulA (.int i) (.int j) = some (.int (i * j)) := gMul_i (by unfold cMul; rw [Bool.or_eq_true, decide_eq_true_eq, decide_eq_true_eq]; omega)
@[simp] theorem gLt_i : gLt (.int i) (.int j) = some (.bl (decide (i < j))) := rfl
@[simp] theorem gLe_i : gLe (.int i) (.int j) = some (.bl (decide (i ≤ j))) := rfl
@[simp] theorem gGt_i : gGtI (.int i) (.int j) = some (.bl (decide (j < i))) := rfl
@[simp] theorem gGe_i : gGeI (.int i) (.int j) = some (.bl (decide (j ≤ i))) := rfl
@[simp] theorem gEq_i : gEq (.int i) (.int j) = some (.bl (i == j)) := rfl
@[simp] theorem gNe_i : gNe (.int i) (.int j) = some (.bl (!(i == j))) := rfl
@[simp] theorem gEq_b : gEq (.bl b) (.bl c) = some (.bl (b == c)) := rfl
@[simp] theorem gNe_b : gNe (.bl b) (.bl c) = some (.bl (!(b == c))) := rfl
@[simp] theorem gIs_n : gIsN d .non = some (.bl d.isNon) := rfl
@[simp] theorem gIs_b : gIsN (.bl b) (.bl c) = some (.bl (b == c)) := rfl
@[simp] theorem gNo_n : gNoN d .non = some (.bl (!d.isNon)) := rfl
@[simp] theorem gNo_b : gNoN (.bl b) (.bl c) = some (.bl (!(b == c))) := rfl
@[simp] theorem isNon_n : D.isNon .non = true := rfl
@[simp] theorem isNon_t : D.isNon (.tup xs) = false := rfl
@[simp] theorem isNon_i : D.isNon (.int i) = false := rfl
@[simp] theorem gIx_t : gIx (.tup xs) (.int i) = atI xs i := rfl
@[simp] theorem gIx_l : gIx (.lst xs) (.int i) = atI xs i := rfl
@[simp] theorem gIx_f : gIx (.fz xs) (.int i) = atI xs i := rfl
@[simp] theorem gIxP_l : gIxP (.lst xs) (.int i) = atI xs i := rfl
@[simp] theorem gLenP_l : gLenP (.lst xs) = some (.int xs.length) := rfl
@[simp] theorem gSl_t {lo hi : Option Int} : gSl (.tup xs) lo hi = some (.tup (cut xs lo hi)) := rfl
@[simp] theorem gSl_l {lo hi : Option Int} : gSl (.lst xs) lo hi = some (.lst (cut xs lo hi)) := rfl
@[simp] theorem gRv_t : gRv (.tup xs) = some (.tup xs.reverse) := rfl
@[simp] theorem gRv_l : gRv (.lst xs) = some (.lst xs.reverse) := rfl
@[simp] theorem gLen_t : gLen [.tup xs] = some (.int xs.length) := rfl
@[simp] theorem gLen_l : gLen [.lst xs] = some (.int xs.length) := rfl
@[simp] theorem gLen_f : gLen [.fz xs] = some (.int xs.length) := rfl
@[simp] theorem gTupOf_t : gTupOf [.tup xs] = some (.tup xs) := rfl
@[simp] theorem gTupOf_l : gTupOf [.lst xs] = some (.tup xs) := rfl
@[simp] theorem gLstOf_t : gLstOf [.tup xs] = some (.lst xs) := rfl
@[simp] theorem gLstOf_l : gLstOf [.lst xs] = some (.lst xs) := rfl
@[simp] theorem gInt_i : gInt [.int i] = some (.int i) := rfl
@[simp] theorem gInt_b : gInt [.bl b] = some (.int (if b then 1 else 0)) := rfl
@[simp] theorem gMax_i : gMax2 [.int i, .int j] = some (.int (max i j)) := by
  show some (D.int (if j > i then j else i)) = _
  congr 2
  split <;> omega
@[simp] theorem gMin_i : gMin2 [.int i, .int j] = some (.int (min i j)) := by
  show some (D.int (if j < i then j else i)) = _
  congr 2
  split <;> omega
@[simp] theorem isT_int (T : String) : isT T (.int i) = some (.bl ("int" == T || (T == "int" && "int" == "bool"))) := rfl
@[simp] theorem isT_bl (T : String) : isT T (.bl b) = some (.bl ("bool" == T || (T == "int" && "bool" == "bool"))) := rfl
@[simp] theorem isT_tup (T : String) : isT T (.tup xs) = some (.bl ("tuple" == T || (T == "int" && "tuple" == "bool"))) := rfl
@[simp] theorem isT_str (T : String) {s : PySem.Str} : isT T (.str s) = some (.bl ("str" == T || (T == "int" && "str" == "bool"))) := rfl
@[simp] theorem isT_non (T : String) : isT T .non = some (.bl ("NoneType" == T || (T == "int" && "NoneType" == "bool"))) := rfl
@[simp] theorem gIt_t : gIt (.tup xs) = some xs := rfl
@[simp] theorem gIt_l : gIt (.lst xs) = some xs := rfl
@[simp] theorem gIt_f : gIt (.fz xs) = some xs := rfl
@[simp] theorem gEn_t : gEn [.tup xs] = some (enD 0 xs) := rfl
@[simp] theorem gEn_l : gEn [.lst xs] = some (enD 0 xs) := rfl
@[simp] theorem gZp_t : gZp [.tup xs, .tup ys] = some (zipD xs ys) := rfl
@[simp] theorem gZp_l : gZp [.lst xs, .lst ys] = some (zipD xs ys) := rfl
theorem gTup_of (h : xs.length ≤ 16777216) : gTup xs = some (.tup xs) := by unfold gTup; rw [if_pos h]
theorem gLst_of (h : xs.length ≤ 16777216) : gLst xs = some (.lst xs) := by unfold gLst; rw [if_pos h]
@[simp] theorem gTup0 : gTup [] = some (.tup []) := rfl
@[simp] theorem gTup1 {a : D} : gTup [a] = some (.tup [a]) := rfl
@[simp] theorem gTup2 {a b : D} : gTup [a, b] = some (.tup [a, b]) := rfl
@[simp] theorem gTup3 {a b c : D} : gTup [a, b, c] = some (.tup [a, b, c]) := rfl
@[simp] theorem gLst0 : gLst [] = some (.lst []) := rfl
@[simp] theorem gLst1 {a : D} : gLst [a] = some (.lst [a]) := rfl
@[simp] theorem gLst4 {a b c e : D} : gLst [a, b, c, e] = some (.lst [a, b, c, e]) := rfl
theorem gAdd_t (h : xs.length + ys.length ≤ 16777216) : gAdd (.tup xs) (.tup ys) = some (.tup (xs ++ ys)) := by simp [gAdd, h]
theorem gAdd_l (h : xs.length + ys.length ≤ 16777216) : gAdd (.lst xs) (.lst ys) = some (.lst (xs ++ ys)) := by simp [gAdd, h]
theorem gMul_t {k : Int} (h : -1000 ≤ k ∧ k ≤ 1000) (h2 : xs.length ≤ 1000) : gMulA (.tup xs) (.int k) = some (.tup (List.replicate k.toNat xs).flatten) := by
  simp only [gMulA, gMulT]
  rw [if_pos (by omega)]
theorem gApp_l (h : xs.length < 16777216) : gApp (.lst xs) d = some (.lst (xs ++ [d])) := by simp [gApp, h]
theorem gExt_l (h : xs.length + ys.length ≤ 16777216) : gExt (.lst xs) (.lst ys) = some (.lst (xs ++ ys)) := by simp [gExt, h]
@[simp] theorem isL_l : Ob.isL (.lst xs) = true := rfl
@[simp] theorem isOw_o {o : Ob} : isOw (some (.ow o)) = true := rfl
@[simp] theorem isOw_i : isOw (some (.im d)) = false := rfl
@[simp] theorem isOw_n : isOw (some .no) = false := rfl
@[simp] theorem get_sl {k : Nat} : Hd.get (.sl k) Γ S = match Γ[k]? with | some (.ow o) => some o | _ => none := rfl
@[simp] theorem get_st {k : Nat} : Hd.get (.st k) Γ S = S[k]? := rfl
@[simp] theorem set_sl {k : Nat} {o : Ob} : Hd.set (.sl k) o Γ S = (Γ.set k (.ow o), S) := rfl
@[simp] theorem set_st {k : Nat} {o : Ob} : Hd.set (.st k) o Γ S = (Γ, S.set k o) := rfl
end

/-! ### o gives a value with Q -/
def Wp {α : Type} (o : Option α) (Q : α → Prop) : Prop := ∃ a, o = some a ∧ Q a
section
variable {α β : Type} {o : Option α} {Q R : α → Prop} {a : α}
@[simp] theorem wp_some : Wp (some a) Q ↔ Q a := ⟨fun ⟨b, h, q⟩ => (by cases h; exact q), fun q => ⟨a, rfl, q⟩⟩
@[simp] theorem wp_none : Wp (none : Option α) Q ↔ False := ⟨fun ⟨b, h, q⟩ => (by cases h), fun q => False.elim q⟩
theorem wp_bind {f : α → Option β} {Q : β → Prop} : Wp (o.bind f) Q ↔ Wp o fun a => Wp (f a) Q := by
  cases o with
  | none => exact ⟨fun ⟨b, h, q⟩ => (by cases h), fun ⟨b, h, q⟩ => (by cases h)⟩
  | some x => rw [Option.bind_some, wp_some]
theorem wp_map {f : α → β} {Q : β → Prop} : Wp (o.map f) Q ↔ Wp o fun a => Q (f a) := by
  cases o with
  | none => exact ⟨fun ⟨b, h, q⟩ => (by cases h), fun ⟨b, h, q⟩ => (by cases h)⟩
  | some x => rw [Option.map_some, wp_some, wp_some]
theorem Wp.mono (h : Wp o Q) (w : ∀ a, Q a → R a) : Wp o R := let ⟨a, e, q⟩ := h; ⟨a, e, w a q⟩
theorem Wp.of_eq (h : o = some a) (q : Q a) : Wp o Q := ⟨a, h, q⟩
theorem Wp.bind {f : α → Option β} {Q' : β → Prop} (h : Wp o Q) (w : ∀ a, Q a → Wp (f a) Q') : Wp (o.bind f) Q' := wp_bind.mpr (h.mono w)
theorem Wp.map {f : α → β} {Q' : β → Prop} (h : Wp o Q) (w : ∀ a, Q a → Q' (f a)) : Wp (o.map f) Q' := wp_map.mpr (h.mono w)
end
/-- one statement behind the other -/
theorem wp_seq {x y : Ms} {Γ : Env} {S : Sto} {Q : Out × Env × Sto → Prop} {M : Env → Sto → Prop} (h : Wp (x Γ S) fun r => r.1 = .nx ∧ M r.2.1 r.2.2) (w : ∀ Γ' S', M Γ' S' → Wp (y Γ' S') Q) : Wp (sSeq x y Γ S) Q := by
  obtain ⟨⟨o, Γ', S'⟩, e, h1, h2⟩ := h
  cases h1
  rw [sSeq_ap, e]
  exact w _ _ h2
theorem seq_nx {x y : Ms} {Γ Γ' : Env} {S S' : Sto} (h : x Γ S = some (.nx, Γ', S')) : sSeq x y Γ S = y Γ' S' := by rw [sSeq_ap, h]; rfl
/-- a def's meaning, by its body's -/
theorem fn_rt {n : Nat} {b : Ms} {ds : List D} {S S' : Sto} {Γ' : Env} {d : D} (h : b (ds.map .im ++ List.replicate (n - ds.length) .no) S = some (.rt d, Γ', S')) : fnS n b ds S = some (d, S') := by unfold fnS; rw [h]
theorem fn_nx {n : Nat} {b : Ms} {ds : List D} {S S' : Sto} {Γ' : Env} (h : b (ds.map .im ++ List.replicate (n - ds.length) .no) S = some (.nx, Γ', S')) : fnS n b ds S = some (.non, S') := by unfold fnS; rw [h]
theorem fn_wp {n : Nat} {b : Ms} {ds : List D} {S : Sto} {Q : D × Sto → Prop} (h : Wp (b (ds.map .im ++ List.replicate (n - ds.length) .no) S) fun r => match r.1 with | .rt d => Q (d, r.2.2) | .nx => Q (.non, r.2.2) | _ => False) : Wp (fnS n b ds S) Q := by
  obtain ⟨⟨o, Γ', S'⟩, e, h⟩ := h
  unfold fnS
  rw [e]
  cases o with
  | nx => exact ⟨_, rfl, h⟩
  | rt d => exact ⟨_, rfl, h⟩
  | bk => exact False.elim h
  | ct => exact False.elim h
/-- for: each step keeps I -/
theorem for_wp {g : Mg} {b : Ms} (I : Nat → Env → Sto → Prop) (ds : List D) : ∀ (i : Nat) (Γ : Env) (S : Sto), I i Γ S →
    (∀ k d Γ S, ds[k]? = some d → I (i + k) Γ S → Wp (g d Γ) fun Γ1 => Wp (b Γ1 S) fun r => (r.1 = .nx ∨ r.1 = .ct) ∧ I (i + k + 1) r.2.1 r.2.2) →
    Wp (forGo g b ds Γ S) fun r => r.1 = .nx ∧ I (i + ds.length) r.2.1 r.2.2 := by
  induction ds with
  | nil => intro i Γ S h _; exact ⟨_, rfl, rfl, h⟩
  | cons d ds ih =>
    intro i Γ S h w
    obtain ⟨Γ1, e1, ⟨o, Γ2, S2⟩, e2, h1, h2⟩ := w 0 d Γ S rfl h
    have q := ih (i + 1) Γ2 S2 h2 fun k d' Γ' S' hk hI => by
      have := w (k + 1) d' Γ' S' (by simpa using hk) (by rw [show i + (k + 1) = i + 1 + k by omega]; exact hI)
      rw [show i + (k + 1) + 1 = i + 1 + k + 1 by omega] at this
      exact this
    rw [show i + (d :: ds).length = i + 1 + ds.length by simp; omega]
    unfold forGo
    rw [e1, Option.bind_some, e2, Option.bind_some]
    rcases h1 with rfl | rfl <;> exact q
theorem for_all {g : Mg} {b : Ms} (I : Env → Sto → Prop) (ds : List D) (Γ : Env) (S : Sto) (h : I Γ S)
    (w : ∀ d ∈ ds, ∀ Γ S, I Γ S → Wp (g d Γ) fun Γ1 => Wp (b Γ1 S) fun r => (r.1 = .nx ∨ r.1 = .ct) ∧ I r.2.1 r.2.2) :
    Wp (forGo g b ds Γ S) fun r => r.1 = .nx ∧ I r.2.1 r.2.2 :=
  for_wp (fun _ => I) ds 0 Γ S h fun k d Γ S hk hI => w d (List.mem_of_getElem? hk) Γ S hI
/-- comprehension, no clause if: a map -/
theorem lc_map {g : Mg} {m : Me} {Γ : Env} {S : Sto} (h : D → D) : ∀ ds : List D, (∀ d ∈ ds, ∃ Γ1, g d Γ = some Γ1 ∧ m Γ1 S = some (h d, S)) → lcGo g tYs m ds Γ S = some (ds.map h, S)
  | [], _ => rfl
  | d :: ds, w => by
    obtain ⟨Γ1, e1, e2⟩ := w d (by simp)
    have q := lc_map h ds fun d' hd => w d' (by simp [hd])
    unfold lcGo
    rw [e1]
    simp [e2, q]
inductive F2 {α β : Type} (Q : α → β → Prop) : List α → List β → Prop
  | nil : F2 Q [] []
  | cons {a : α} {b : β} {as : List α} {bs : List β} : Q a b → F2 Q as bs → F2 Q (a :: as) (b :: bs)
/-- comprehension whose turns keep I, each value with its place's Q -/
theorem lc_wp {g : Mg} {t : Mt} {m : Me} {Γ : Env} (I : Sto → Prop) (Q : D → D → Prop) : ∀ (ds : List D) (S : Sto), I S → (∀ d ∈ ds, ∀ S, I S → Wp (g d Γ) fun Γ1 => Wp (t Γ1 S) fun b => b.1 = true ∧ Wp (m Γ1 b.2) fun r => Q d r.1 ∧ I r.2) →
    Wp (lcGo g t m ds Γ S) fun r => F2 Q ds r.1 ∧ I r.2
  | [], S, h, _ => ⟨_, rfl, .nil, h⟩
  | d :: ds, S, h, w => by
    obtain ⟨Γ1, e1, ⟨b, S1⟩, e2, hb, ⟨y, S2⟩, e3, q, h2⟩ := w d (by simp) S h
    cases hb
    obtain ⟨⟨ys, S3⟩, e4, f, h3⟩ := lc_wp I Q ds S2 h2 fun d' hd => w d' (by simp [hd])
    refine ⟨(y :: ys, S3), ?_, .cons q f, h3⟩
    unfold lcGo
    rw [e1, Option.bind_some, e2, Option.bind_some, if_pos rfl, e3, Option.bind_some, e4]
    rfl
/-- with a clause if: some of the values -/
theorem lc_sub {g : Mg} {t : Mt} {m : Me} {Γ : Env} (I : Sto → Prop) (h : D → D) : ∀ (ds : List D) (S : Sto), I S → (∀ d ∈ ds, ∀ S, I S → Wp (g d Γ) fun Γ1 => Wp (t Γ1 S) fun b => I b.2 ∧ ∀ S, I S → Wp (m Γ1 S) fun r => r.1 = h d ∧ I r.2) →
    Wp (lcGo g t m ds Γ S) fun r => (∃ es, List.Sublist es ds ∧ r.1 = es.map h) ∧ I r.2
  | [], S, hI, _ => ⟨_, rfl, ⟨[], .slnil, rfl⟩, hI⟩
  | d :: ds, S, hI, w => by
    obtain ⟨Γ1, e1, ⟨b, S1⟩, e2, h1, w2⟩ := w d (by simp) S hI
    cases b with
    | true =>
      obtain ⟨⟨y, S2⟩, e3, q, h2⟩ := w2 S1 h1
      obtain ⟨⟨ys, S3⟩, e4, ⟨es, s, e5⟩, h3⟩ := lc_sub I h ds S2 h2 fun d' hd => w d' (by simp [hd])
      refine ⟨(y :: ys, S3), ?_, ⟨d :: es, s.cons₂ d, ?_⟩, h3⟩
      · unfold lcGo
        rw [e1, Option.bind_some, e2, Option.bind_some, if_pos rfl, e3, Option.bind_some, e4]
        rfl
      · simp only at q e5 ⊢
        rw [q, e5]; rfl
    | false =>
      obtain ⟨⟨ys, S3⟩, e4, ⟨es, s, e5⟩, h3⟩ := lc_sub I h ds S1 h1 fun d' hd => w d' (by simp [hd])
      refine ⟨(ys, S3), ?_, ⟨es, s.cons d, e5⟩, h3⟩
      unfold lcGo
      rw [e1, Option.bind_some, e2, Option.bind_some, if_neg (by simp), e4]
theorem vlc_wp {vs : List Nat} {it : Ma} {g : Mg} {t : Mt} {m : Me} {Γ : Env} {S S1 : Sto} {ds : List D} {Q : Sl × Sto → Prop} (ho : okW vs Γ = true) (hi : it Γ S = some (ds, S1)) (hl : ds.length ≤ 16777216) (h : Wp (lcGo g t m ds (wipeE Γ vs) S1) fun q => Q (.ow (.lst q.1), q.2)) : Wp (vLc vs it g t m Γ S) Q := by
  unfold vLc
  rw [if_pos ho, hi, Option.bind_some, if_pos hl]
  exact wp_map.mpr h
theorem vlc_eq {vs : List Nat} {it : Ma} {g : Mg} {t : Mt} {m : Me} {Γ : Env} {S S1 S2 : Sto} {ds ys : List D} (ho : okW vs Γ = true) (hi : it Γ S = some (ds, S1)) (hl : ds.length ≤ 16777216) (h : lcGo g t m ds (wipeE Γ vs) S1 = some (ys, S2)) : vLc vs it g t m Γ S = some (.ow (.lst ys), S2) := by
  unfold vLc
  rw [if_pos ho, hi, Option.bind_some, if_pos hl, h]
  rfl
@[simp] theorem wipe_n {Γ : Env} : wipeE Γ [] = Γ := rfl
@[simp] theorem wipe_c {Γ : Env} {v : Nat} {vs : List Nat} : wipeE Γ (v :: vs) = (wipeE Γ vs).set v .no := rfl
@[simp] theorem okW_n {Γ : Env} : okW [] Γ = true := rfl
@[simp] theorem okW_c {Γ : Env} {v : Nat} {vs : List Nat} : okW (v :: vs) Γ = (!isOw Γ[v]? && okW vs Γ) := rfl
/-! ### rows -/
theorem rngD_len (lo : Int) (n : Nat) : (rngD lo n).length = n := by simp [rngD]
theorem rngD_get {lo : Int} {n k : Nat} {d : D} (h : (rngD lo n)[k]? = some d) : k < n ∧ d = .int (lo + k) := by
  unfold rngD at h
  rw [List.getElem?_map] at h
  obtain ⟨c, hc, hd⟩ := omap h
  obtain ⟨h1, h2⟩ := List.getElem?_eq_some_iff.mp hc
  simp at h1 h2
  subst h2
  exact ⟨h1, hd.symm⟩
theorem mem_rngD {lo : Int} {n : Nat} {d : D} (h : d ∈ rngD lo n) : ∃ k : Nat, k < n ∧ d = .int (lo + k) := by
  obtain ⟨k, hk⟩ := List.mem_iff_getElem?.mp h
  exact ⟨k, rngD_get hk⟩
theorem gR1_i {j : Int} (h : -4611686018427387904 < j ∧ j < 4611686018427387904) : gR1 [.int j] = some (rngD 0 j.toNat) := by
  simp only [gR1]
  rw [if_pos (by omega)]
theorem gR2_i {i j : Int} (h : (-4611686018427387904 < i ∧ i < 4611686018427387904) ∧ -4611686018427387904 < j ∧ j < 4611686018427387904) : gR2 [.int i, .int j] = some (rngD i (j - i).toNat) := by
  simp only [gR2]
  rw [if_pos (by omega)]
theorem atI_nn {α : Type} {xs : List α} {k : Nat} : atI xs (k : Int) = xs[k]? := by
  unfold atI ixN
  rw [if_pos (Int.natCast_nonneg k)]
  by_cases h : k < xs.length
  · rw [if_pos (by omega)]; simp
  · rw [if_neg (by omega)]; simp; omega
theorem gAll_b (bs : List Bool) : gAll [.lst (bs.map .bl)] = some (.bl (bs.all id)) := by
  show (blsD (bs.map D.bl)).map (fun bs => D.bl (bs.all id)) = _
  rw [blsD_map]; rfl
theorem fl_ints : ∀ (n : Nat) (xs : List Int), (xs.map D.int).all (D.fl n) = true := fun n xs => by
  simp only [List.all_map, List.all_eq_true, Function.comp]
  intro x _
  cases n <;> rfl
theorem eq_ints : ∀ (n : Nat) (xs ys : List Int), all2 (D.eq n) (xs.map D.int) (ys.map D.int) = decide (xs = ys)
  | n, [], [] => by simp [all2]
  | n, [], y :: ys => by simp [all2]
  | n, x :: xs, [] => by simp [all2]
  | n, x :: xs, y :: ys => by
    have e : D.eq n (.int x) (.int y) = (x == y) := by cases n <;> rfl
    simp only [List.map_cons, all2]
    rw [eq_ints n xs ys, e]
    by_cases h : x = y <;> by_cases h2 : xs = ys <;> simp [h, h2]
theorem eq_refl : ∀ (n : Nat) (d : D), D.fl n d = true → D.eq n d d = true := by
  intro n
  induction n with
  | zero => intro d h; cases d <;> simp_all [D.fl, D.eq]
  | succ n ih =>
    have ls : ∀ xs : List D, xs.all (D.fl n) = true → all2 (D.eq n) xs xs = true := fun xs => by
      induction xs with
      | nil => intro _; rfl
      | cons x xs ihx =>
        intro h
        simp only [List.all_cons, Bool.and_eq_true] at h
        simp only [all2, Bool.and_eq_true]
        exact ⟨ih x h.1, ihx h.2⟩
    intro d h
    cases d with
    | tup xs => exact ls xs h
    | lst xs => exact ls xs h
    | _ => simp_all [D.fl, D.eq]
theorem gNe_same {d e : D} (h : d = e) (hf : D.fl 40 d = true) : gNe d e = some (.bl false) := by
  subst h
  unfold gNe
  rw [hf, eq_refl 40 d hf]
  rfl
theorem gEq_same {d e : D} (h : d = e) (hf : D.fl 40 d = true) : gEq d e = some (.bl true) := by
  subst h
  unfold gEq
  rw [hf, eq_refl 40 d hf]
  rfl
theorem gEq_lst {xs ys : List Int} : gEq (.lst (xs.map .int)) (.lst (ys.map .int)) = some (.bl (decide (xs = ys))) := by
  show (if ((xs.map D.int).all (D.fl 39) && (ys.map D.int).all (D.fl 39)) = true then some (D.bl (all2 (D.eq 39) (xs.map .int) (ys.map .int))) else none) = _
  rw [fl_ints, fl_ints, eq_ints]
  rfl
theorem gNe_lst {xs ys : List Int} : gNe (.lst (xs.map .int)) (.lst (ys.map .int)) = some (.bl (!decide (xs = ys))) := by
  show (if ((xs.map D.int).all (D.fl 39) && (ys.map D.int).all (D.fl 39)) = true then some (D.bl (!all2 (D.eq 39) (xs.map .int) (ys.map .int))) else none) = _
  rw [fl_ints, fl_ints, eq_ints]
  rfl
end J
/-! J13: the laws' own drawing. -/
namespace J
open PySem PySem.Spec PyProof.Rows L2
abbrev tk : Ms := (sSeq (sIf (tV gB (eB gGtI (eP2 gIxP (pR (eV 0)) (eC (.int 3))) (eC (.int 0)))) (sSeq (sSet 2 (eB gMod (eF gInt (aC (eP2 gIxP (pR (eV 0)) (eC (.int 3))) aN)) (eV 1)))
    (sSeq (sP2 gPut (eB gDiv (eP2 gIxP (pR (eV 0)) (eC (.int 3))) (eV 1)) (pR (eV 0)) (eC (.int 3)))
    (sRet (eV 2)))) sNil)
    (sSeq (sP2 gPut (eB gAdd (eP2 gIxP (pR (eV 0)) (eC (.int 1))) (eC (.int 1))) (pR (eV 0)) (eC (.int 1)))
    (sSeq (sIf (tV gB (eB gGtI (eP2 gIxP (pR (eV 0)) (eC (.int 1))) (eF gLen (aC (eP2 gIxP (pR (eV 0)) (eC (.int 0))) aN)))) (sSeq (sP2 gPut (eB gMod (eF gInt (aC (eB gAdd (eB gMulA (eP2 gIxP (pR (eV 0)) (eC (.int 2))) (eC (.int 48271))) (eC (.int 11))) aN)) (eC (.int 2147483647))) (pR (eV 0)) (eC (.int 2)))
    (sRet (eB gMod (eF gInt (aC (eB gDiv (eP2 gIxP (pR (eV 0)) (eC (.int 2))) (eC (.int 7))) aN)) (eV 1)))) sNil)
    (sSeq (sSet 3 (eB gIx (eP2 gIxP (pR (eV 0)) (eC (.int 0))) (eB gSub (eP2 gIxP (pR (eV 0)) (eC (.int 1))) (eC (.int 1)))))
    (sSeq (sP2 gPut (eB gMod (eF gInt (aC (eB gAdd (eB gAdd (eB gMulA (eP2 gIxP (pR (eV 0)) (eC (.int 2))) (eC (.int 48271))) (eF gInt (aC (eV 3) aN))) (eC (.int 11))) aN)) (eC (.int 2147483647))) (pR (eV 0)) (eC (.int 2)))
    (sSeq (sIf (tV gB (eB gGeI (eV 3) (eB gPow (eC (.int 10)) (eC (.int 18))))) (sP2 gPut (eB gDiv (eF gInt (aC (eB gMod (eF gInt (aC (eV 3) aN)) (eB gPow (eC (.int 10)) (eC (.int 90)))) aN)) (eV 1)) (pR (eV 0)) (eC (.int 3))) sNil)
    (sRet (eB gMod (eF gInt (aC (eV 3) aN)) (eV 1)))))))))

def RowS (ns : List Int) (S : Sto) : Prop := ∃ i r q : Int, 0 ≤ i ∧ 0 ≤ q ∧ S = [.lst [.fz (ns.map .int), .int i, .int r, .int q]]
theorem at0 {α : Type} {a : α} {l : List α} : atI (a :: l) 0 = some a := by
  show atI (a :: l) ((0 : Nat) : Int) = _
  rw [atI_nn]; rfl
theorem at1 {α : Type} {a b : α} {l : List α} : atI (a :: b :: l) 1 = some b := by
  show atI (a :: b :: l) ((1 : Nat) : Int) = _
  rw [atI_nn]; rfl
theorem at2 {α : Type} {a b c : α} {l : List α} : atI (a :: b :: c :: l) 2 = some c := by
  show atI (a :: b :: c :: l) ((2 : Nat) : Int) = _
  rw [atI_nn]; rfl
theorem at3 {α : Type} {a b c d : α} {l : List α} : atI (a :: b :: c :: d :: l) 3 = some d := by
  show atI (a :: b :: c :: d :: l) ((3 : Nat) : Int) = _
  rw [atI_nn]; rfl
theorem gPut4 {a b c d x : D} {k : Nat} (h : k < 4) : gPut (.lst [a, b, c, d]) (.int k) x = some (.lst ([a, b, c, d].set k x)) := by
  have e : ixN 4 (k : Int) = some k := by
    unfold ixN
    rw [if_pos (Int.natCast_nonneg k), if_pos (by omega)]
    simp
  show (ixN 4 (k : Int)).map _ = _
  rw [e]; rfl
theorem gPut4_1 {a b c d x : D} : gPut (.lst [a, b, c, d]) (.int 1) x = some (.lst [a, x, c, d]) := gPut4 (k := 1) (by omega)
theorem gPut4_2 {a b c d x : D} : gPut (.lst [a, b, c, d]) (.int 2) x = some (.lst [a, b, x, d]) := gPut4 (k := 2) (by omega)
theorem gPut4_3 {a b c d x : D} : gPut (.lst [a, b, c, d]) (.int 3) x = some (.lst [a, b, c, x]) := gPut4 (k := 3) (by omega)
theorem gPow18 : gPow (.int 10) (.int 18) = some (.int 1000000000000000000) := by
  simp only [gPow, gI]
  rw [if_pos (by decide +kernel), show (10 : Int) ^ (18 : Int).toNat = 1000000000000000000 by decide +kernel]
theorem gPow90 : ∃ z : Int, 0 < z ∧ gPow (.int 10) (.int 90) = some (.int z) := ⟨(10 : Int) ^ (90 : Int).toNat, by decide +kernel, by
  simp only [gPow, gI]
  rw [if_pos (by decide +kernel)]⟩
theorem tk_spec {ns : List Int} {S : Sto} {m : Int} (h : RowS ns S) (h0 : 0 < m) (h1 : m < 1073741824) : Wp (fnS 4 tk [.ref 0, .int m] S) fun r => ∃ t, r.1 = .int t ∧ 0 ≤ t ∧ t < m ∧ RowS ns r.2 := by
  obtain ⟨i, r, q, hi, hq, rfl⟩ := h
  obtain ⟨z90, hz, e90⟩ := gPow90
  have m0 : ∀ x : Int, 0 ≤ x % m := fun x => Int.emod_nonneg _ (by omega)
  have m1 : ∀ x : Int, x % m < m := fun x => Int.emod_lt_of_pos _ h0
  refine fn_wp ?_
  by_cases c1 : 0 < q
  · simp [at0, at1, at2, at3, c1, gMod_i h0, gDiv_i h0 h1, gPut4_3]
    exact ⟨m0 q, m1 q, i, r, q / m, hi, Int.ediv_nonneg hq (by omega), rfl⟩
  · by_cases c2 : (ns.length : Int) < i + 1
    · simp [at0, at1, at2, at3, c1, c2, gMod_i h0, gDiv_i h0 h1, gPut4_1, gPut4_2, gPut4_3, gMul_r, gMod_i, gDiv_i]
      exact ⟨m0 _, m1 _, i + 1, _, q, by omega, hq, rfl⟩
    · obtain ⟨k, rfl⟩ := Int.eq_ofNat_of_zero_le hi
      have hk : k < ns.length := by omega
      have ec : atI (ns.map D.int) (k : Int) = some (.int ns[k]) := by
        rw [atI_nn, List.getElem?_map, List.getElem?_eq_getElem hk]; rfl
      by_cases c3 : (1000000000000000000 : Int) ≤ ns[k]
      · simp [at0, at1, at2, at3, c1, c2, c3, ec, e90, gMod_i h0, gMod_i hz, gDiv_i h0 h1, gPut4_1, gPut4_2, gPut4_3, gMul_r, gMod_i, gDiv_i, gPow18]
        exact ⟨m0 _, m1 _, _, _, _, by omega, Int.ediv_nonneg (Int.emod_nonneg _ (by omega)) (by omega), rfl⟩
      · simp [at0, at1, at2, at3, c1, c2, c3, ec, e90, gMod_i h0, gMod_i hz, gDiv_i h0 h1, gPut4_1, gPut4_2, gPut4_3, gMul_r, gMod_i, gDiv_i, gPow18]
        exact ⟨m0 _, m1 _, _, _, _, by omega, hq, rfl⟩
end J
/-! J14: more of rows. -/
namespace J
open PySem PySem.Spec PyProof.Rows L2
theorem cut_from {α : Type} (xs : List α) (k : Nat) : cut xs (some (k : Int)) none = xs.drop k := by
  unfold cut
  rw [HT.sIx_nat, HT.sIx_none]
  by_cases h : k ≤ xs.length
  · rw [Nat.min_eq_left h]
    exact List.take_of_length_le (by rw [List.length_drop]; exact Nat.le_refl _)
  · rw [Nat.min_eq_right (by omega), List.drop_length, List.drop_eq_nil_of_le (by omega), List.take_nil]
theorem cut_to {α : Type} (xs : List α) (k : Nat) : cut xs none (some (k : Int)) = xs.take k := by
  unfold cut
  rw [HT.sIx_nat, HT.sIx_none, List.drop_zero, Nat.sub_zero]
  by_cases h : k ≤ xs.length
  · rw [Nat.min_eq_left h]
  · rw [Nat.min_eq_right (by omega), List.take_length, List.take_of_length_le (by omega)]
theorem cut1 {α : Type} (xs : List α) : cut xs (some 1) none = xs.drop 1 := cut_from xs 1
theorem lc_true {g : Mg} {m : Me} {Γ : Env} {S : Sto} : ∀ ds : List D, (∀ d ∈ ds, ∃ Γ1, g d Γ = some Γ1 ∧ m Γ1 S = some (.bl true, S)) → lcGo g tYs m ds Γ S = some ((ds.map fun _ => true).map .bl, S) := fun ds h => by
  rw [List.map_map]
  exact lc_map (fun _ => D.bl true) ds h
theorem all_true {α : Type} (ds : List α) : (ds.map fun _ => true).all id = true := by simp
/-- all([.. for ..]), each of them true -/
theorem all_lc {vs : List Nat} {it : Ma} {g : Mg} {m : Me} {Γ : Env} {S : Sto} {ds : List D} (hi : it Γ S = some (ds, S)) (hl : ds.length ≤ 16777216) (ho : okW vs Γ = true)
    (h : ∀ d ∈ ds, ∃ Γ1, g d (wipeE Γ vs) = some Γ1 ∧ m Γ1 S = some (.bl true, S)) : eF gAll (aC (eFz (vLc vs it g tYs m)) aN) Γ S = some (.bl true, S) := by
  have q := vlc_eq (t := tYs) ho hi hl (lc_true ds h)
  simp only [eF_ap, aC_ap, eFz_ap, q, Option.bind_some, frzS_l, Option.map_some, aN_ap, gAll_b, all_true]
/-- tuple([.. for ..]) -/
theorem tup_lc {vs : List Nat} {it : Ma} {g : Mg} {m : Me} {Γ : Env} {S : Sto} {ds : List D} (k : D → D) (hi : it Γ S = some (ds, S)) (hl : ds.length ≤ 16777216) (ho : okW vs Γ = true)
    (h : ∀ d ∈ ds, ∃ Γ1, g d (wipeE Γ vs) = some Γ1 ∧ m Γ1 S = some (k d, S)) : eF gTupOf (aC (eFz (vLc vs it g tYs m)) aN) Γ S = some (.tup (ds.map k), S) := by
  have q := vlc_eq (t := tYs) ho hi hl (lc_map k ds h)
  simp only [eF_ap, aC_ap, eFz_ap, q, Option.bind_some, frzS_l, Option.map_some, aN_ap, gTupOf_l]
theorem fz_lc {vs : List Nat} {it : Ma} {g : Mg} {m : Me} {Γ : Env} {S : Sto} {ds : List D} (k : D → D) (hi : it Γ S = some (ds, S)) (hl : ds.length ≤ 16777216) (ho : okW vs Γ = true)
    (h : ∀ d ∈ ds, ∃ Γ1, g d (wipeE Γ vs) = some Γ1 ∧ m Γ1 S = some (k d, S)) : eFz (vLc vs it g tYs m) Γ S = some (.lst (ds.map k), S) := by
  have q := vlc_eq (t := tYs) ho hi hl (lc_map k ds h)
  simp only [eFz_ap, q, Option.bind_some, frzS_l, Option.map_some]
/-- the same with what the turns draw -/
theorem tup_wp {vs : List Nat} {it : Ma} {g : Mg} {m : Me} {Γ : Env} {S : Sto} {ds : List D} (I : Sto → Prop) (Q : D → D → Prop) (hI : I S) (hi : it Γ S = some (ds, S)) (hl : ds.length ≤ 16777216) (ho : okW vs Γ = true)
    (h : ∀ d ∈ ds, ∀ S, I S → Wp (g d (wipeE Γ vs)) fun Γ1 => Wp (m Γ1 S) fun r => Q d r.1 ∧ I r.2) : Wp (eF gTupOf (aC (eFz (vLc vs it g tYs m)) aN) Γ S) fun r => (∃ ys, r.1 = .tup ys ∧ F2 Q ds ys) ∧ I r.2 := by
  obtain ⟨⟨ys, S'⟩, e, f, h'⟩ := lc_wp (g := g) (t := tYs) (m := m) (Γ := wipeE Γ vs) I Q ds S hI fun d hd S hS => (h d hd S hS).mono fun Γ1 w => ⟨_, rfl, rfl, w⟩
  have q := vlc_eq (t := tYs) ho hi hl e
  refine ⟨(.tup ys, S'), ?_, ⟨ys, rfl, f⟩, h'⟩
  simp only [eF_ap, aC_ap, eFz_ap, q, Option.bind_some, frzS_l, Option.map_some, aN_ap, gTupOf_l]
theorem tup_sub {vs : List Nat} {it : Ma} {g : Mg} {t : Mt} {m : Me} {Γ : Env} {S : Sto} {ds : List D} (I : Sto → Prop) (k : D → D) (hI : I S) (hi : it Γ S = some (ds, S)) (hl : ds.length ≤ 16777216) (ho : okW vs Γ = true)
    (h : ∀ d ∈ ds, ∀ S, I S → Wp (g d (wipeE Γ vs)) fun Γ1 => Wp (t Γ1 S) fun b => I b.2 ∧ ∀ S, I S → Wp (m Γ1 S) fun r => r.1 = k d ∧ I r.2) : Wp (eF gTupOf (aC (eFz (vLc vs it g t m)) aN) Γ S) fun r => (∃ es, List.Sublist es ds ∧ r.1 = .tup (es.map k)) ∧ I r.2 := by
  obtain ⟨⟨ys, S'⟩, e, ⟨es, s, f⟩, h'⟩ := lc_sub (g := g) (t := t) (m := m) (Γ := wipeE Γ vs) I k ds S hI h
  have q := vlc_eq (t := t) ho hi hl e
  refine ⟨(.tup ys, S'), ?_, ⟨es, s, by simp only at f; rw [f]⟩, h'⟩
  simp only [eF_ap, aC_ap, eFz_ap, q, Option.bind_some, frzS_l, Option.map_some, aN_ap, gTupOf_l]
/-- the same of the comprehension alone -/
theorem all_v {vs : List Nat} {it : Ma} {g : Mg} {m : Me} {Γ : Env} {S : Sto} (ds : List D) (hi : it Γ S = some (ds, S)) (hl : ds.length ≤ 16777216) (ho : okW vs Γ = true)
    (h : ∀ d ∈ ds, ∃ Γ1, g d (wipeE Γ vs) = some Γ1 ∧ m Γ1 S = some (.bl true, S)) : ∃ ys, vLc vs it g tYs m Γ S = some (.ow (.lst ys), S) ∧ gAll [.lst ys] = some (.bl true) :=
  ⟨_, vlc_eq (t := tYs) ho hi hl (lc_true ds h), by rw [gAll_b, all_true]⟩
theorem map_v {vs : List Nat} {it : Ma} {g : Mg} {m : Me} {Γ : Env} {S : Sto} (ds : List D) (k : D → D) (hi : it Γ S = some (ds, S)) (hl : ds.length ≤ 16777216) (ho : okW vs Γ = true)
    (h : ∀ d ∈ ds, ∃ Γ1, g d (wipeE Γ vs) = some Γ1 ∧ m Γ1 S = some (k d, S)) : vLc vs it g tYs m Γ S = some (.ow (.lst (ds.map k)), S) :=
  vlc_eq (t := tYs) ho hi hl (lc_map k ds h)
theorem wp_v {vs : List Nat} {it : Ma} {g : Mg} {m : Me} {Γ : Env} {S : Sto} (ds : List D) (I : Sto → Prop) (Q : D → D → Prop) (hI : I S) (hi : it Γ S = some (ds, S)) (hl : ds.length ≤ 16777216) (ho : okW vs Γ = true)
    (h : ∀ d ∈ ds, ∀ S, I S → Wp (g d (wipeE Γ vs)) fun Γ1 => Wp (m Γ1 S) fun r => Q d r.1 ∧ I r.2) : ∃ ys S', vLc vs it g tYs m Γ S = some (.ow (.lst ys), S') ∧ F2 Q ds ys ∧ I S' := by
  obtain ⟨⟨ys, S'⟩, e, f, h'⟩ := lc_wp (g := g) (t := tYs) (m := m) (Γ := wipeE Γ vs) I Q ds S hI fun d hd S hS => (h d hd S hS).mono fun Γ1 w => ⟨_, rfl, rfl, w⟩
  exact ⟨ys, S', vlc_eq (t := tYs) ho hi hl e, f, h'⟩
theorem sub_v {vs : List Nat} {it : Ma} {g : Mg} {t : Mt} {m : Me} {Γ : Env} {S : Sto} (ds : List D) (I : Sto → Prop) (k : D → D) (hI : I S) (hi : it Γ S = some (ds, S)) (hl : ds.length ≤ 16777216) (ho : okW vs Γ = true)
    (h : ∀ d ∈ ds, ∀ S, I S → Wp (g d (wipeE Γ vs)) fun Γ1 => Wp (t Γ1 S) fun b => I b.2 ∧ ∀ S, I S → Wp (m Γ1 S) fun r => r.1 = k d ∧ I r.2) : ∃ es S', vLc vs it g t m Γ S = some (.ow (.lst (es.map k)), S') ∧ List.Sublist es ds ∧ I S' := by
  obtain ⟨⟨ys, S'⟩, e, ⟨es, s, f⟩, h'⟩ := lc_sub (g := g) (t := t) (m := m) (Γ := wipeE Γ vs) I k ds S hI h
  simp only at f
  subst f
  exact ⟨es, S', vlc_eq (t := t) ho hi hl e, s, h'⟩
theorem mem_zip1 {xs : List Int} (h : xs.Pairwise (· < ·)) {d : D} : d ∈ zipD (xs.map .int) ((xs.map D.int).drop 1) → ∃ a b : Int, a < b ∧ d = .tup [.int a, .int b] := by
  induction xs with
  | nil => intro k; cases k
  | cons x xs ih =>
    cases xs with
    | nil => intro k; cases k
    | cons y ys =>
      intro k
      rw [List.pairwise_cons] at h
      have k : d ∈ D.tup [.int x, .int y] :: zipD ((y :: ys).map .int) (((y :: ys).map D.int).drop 1) := k
      rcases List.mem_cons.mp k with k | k
      · exact ⟨x, y, h.1 y (by simp), k⟩
      · exact ih h.2 k
theorem mem_enD {ds : List D} {d : D} : ∀ {k : Nat}, d ∈ enD k ds → ∃ (i : Nat) (e : D), ds[i]? = some e ∧ d = .tup [.int (k + i : Nat), e] := by
  induction ds with
  | nil => intro k h; cases h
  | cons e es ih =>
    intro k h
    rcases List.mem_cons.mp (show d ∈ D.tup [.int (k : Nat), e] :: enD (k + 1) es from h) with h | h
    · exact ⟨0, e, rfl, h⟩
    · obtain ⟨i, e', h1, h2⟩ := ih h
      exact ⟨i + 1, e', h1, by rw [h2, show k + 1 + i = k + (i + 1) by omega]⟩
theorem enD_le {ds : List D} {k n : Nat} (h : ds.length ≤ n) : (enD k ds).length ≤ n := by rw [enD_len]; exact h
theorem F2.len {α β : Type} {Q : α → β → Prop} : ∀ {as : List α} {bs : List β}, F2 Q as bs → as.length = bs.length
  | _, _, .nil => rfl
  | _, _, .cons _ t => by rw [List.length_cons, List.length_cons, t.len]
theorem F2.mem {α β : Type} {Q : α → β → Prop} {b : β} : ∀ {as : List α} {bs : List β}, F2 Q as bs → b ∈ bs → ∃ a ∈ as, Q a b
  | _, _, .nil, h => by cases h
  | _, _, .cons (a := a) q t, h => by
    rcases List.mem_cons.mp h with rfl | h
    · exact ⟨a, by simp, q⟩
    · obtain ⟨a', ha, q'⟩ := t.mem h
      exact ⟨a', by simp [ha], q'⟩
end J
/-! J15: sorted, sorted(set(..)), join. -/
namespace J
open PySem PySem.Spec PyProof.Rows L2
/-! ### rows in order of a key -/
section
variable {α : Type} (k : α → Int)
def insK (x : α) : List α → List α
  | [] => [x]
  | y :: ys => if k x ≤ k y then x :: y :: ys else y :: insK x ys
def isort : List α → List α
  | [] => []
  | x :: xs => insK k x (isort xs)
theorem insK_perm (x : α) : ∀ ys : List α, (insK k x ys).Perm (x :: ys)
  | [] => .refl _
  | y :: ys => by
    unfold insK
    split
    · exact .refl _
    · exact ((insK_perm x ys).cons y).trans (.swap x y ys)
theorem isort_perm : ∀ xs : List α, (isort k xs).Perm xs
  | [] => .refl _
  | x :: xs => (insK_perm k x _).trans ((isort_perm xs).cons x)
theorem insK_srt (x : α) : ∀ ys : List α, ys.Pairwise (fun a b => k a ≤ k b) → (insK k x ys).Pairwise (fun a b => k a ≤ k b)
  | [], _ => List.pairwise_singleton _ _
  | y :: ys, h => by
    unfold insK
    rw [List.pairwise_cons] at h
    split
    · next c =>
      refine .cons (fun b hb => ?_) (List.pairwise_cons.mpr h)
      rcases List.mem_cons.mp hb with rfl | hb
      · exact c
      · exact Int.le_trans c (h.1 b hb)
    · next c =>
      refine .cons (fun b hb => ?_) (insK_srt x ys h.2)
      rcases List.mem_cons.mp ((insK_perm k x ys).mem_iff.mp hb) with rfl | hb
      · omega
      · exact h.1 b hb
theorem isort_srt : ∀ xs : List α, (isort k xs).Pairwise (fun a b => k a ≤ k b)
  | [] => .nil
  | x :: xs => insK_srt k x _ (isort_srt xs)
theorem srt_uniq : ∀ {l m : List α}, l.Perm m → l.Pairwise (fun a b => k a ≤ k b) → m.Pairwise (fun a b => k a ≤ k b) → (∀ a ∈ l, ∀ b ∈ l, k a = k b → a = b) → l = m
  | [], m, p, _, _, _ => by rw [List.nil_perm.mp p]
  | a :: l, [], p, _, _, _ => by have := p.length_eq; simp at this
  | a :: l, b :: m, p, hl, hm, inj => by
    have ha : a ∈ b :: m := p.mem_iff.mp (by simp)
    have hb : b ∈ a :: l := p.mem_iff.mpr (by simp)
    rw [List.pairwise_cons] at hl hm
    have e : a = b := by
      rcases List.mem_cons.mp ha with h | h
      · exact h
      · rcases List.mem_cons.mp hb with h' | h'
        · exact h'.symm
        · exact inj a (by simp) b hb (Int.le_antisymm (hl.1 b h') (hm.1 a h))
    subst e
    rw [srt_uniq (List.perm_cons a |>.mp p) hl.2 hm.2 fun x hx y hy => inj x (by simp [hx]) y (by simp [hy])]
theorem mem_isort {x : α} {xs : List α} : x ∈ isort k xs ↔ x ∈ xs := (isort_perm k xs).mem_iff
theorem isort_len (xs : List α) : (isort k xs).length = xs.length := (isort_perm k xs).length_eq
theorem isort_id {xs : List α} (h : xs.Pairwise (fun a b => k a ≤ k b)) (inj : ∀ a ∈ xs, ∀ b ∈ xs, k a = k b → a = b) : isort k xs = xs :=
  srt_uniq k (isort_perm k xs) (isort_srt k xs) h fun a ha b hb => inj a ((mem_isort k).mp ha) b ((mem_isort k).mp hb)
end
def dd : List Int → List Int
  | [] => []
  | x :: xs => if x ∈ xs then dd xs else x :: dd xs
theorem mem_dd {x : Int} : ∀ {xs : List Int}, x ∈ dd xs ↔ x ∈ xs
  | [] => Iff.rfl
  | y :: ys => by
    unfold dd
    split
    · next h => rw [mem_dd, List.mem_cons]; exact ⟨.inr, fun q => q.elim (fun e => e ▸ h) _root_.id⟩
    · rw [List.mem_cons, List.mem_cons, mem_dd]
theorem dd_nodup : ∀ xs : List Int, (dd xs).Nodup
  | [] => .nil
  | y :: ys => by
    unfold dd
    split
    · exact dd_nodup ys
    · next h => exact List.nodup_cons.mpr ⟨fun q => h (mem_dd.mp q), dd_nodup ys⟩
/-- the members of a row, each once, rising -/
def sortU (ns : List Int) : List Int := isort _root_.id (dd ns)
theorem mem_sortU {x : Int} {ns : List Int} : x ∈ sortU ns ↔ x ∈ ns := (mem_isort _).trans mem_dd
theorem sortU_lt (ns : List Int) : (sortU ns).Pairwise (· < ·) := by
  have h1 := isort_srt _root_.id (dd ns)
  have h2 : (sortU ns).Nodup := (isort_perm _root_.id (dd ns)).nodup_iff.mpr (dd_nodup ns)
  exact (List.Pairwise.and h1 h2).imp fun ⟨a, b⟩ => by
    exact Int.lt_iff_le_and_ne.mpr ⟨a, b⟩
theorem lt_uniq {l m : List Int} (hl : l.Pairwise (· < ·)) (hm : m.Pairwise (· < ·)) (h : ∀ x, x ∈ l ↔ x ∈ m) : l = m := by
  have nl : l.Nodup := hl.imp fun h e => by omega
  have nm : m.Nodup := hm.imp fun h e => by omega
  exact srt_uniq _root_.id ((List.perm_ext_iff_of_nodup nl nm).mpr h) (hl.imp fun h => Int.le_of_lt h) (hm.imp fun h => Int.le_of_lt h) fun a _ b _ e => e
/-! ### pairs -/
def pk (p : Int × Int) : Int := p.1 * 64 + p.2
def dP (p : Int × Int) : D := .tup [.int p.1, .int p.2]
def pairOf : D → Option (Int × Int)
  | .tup [.int i, .int j] => if 0 ≤ i ∧ i < 64 ∧ 0 ≤ j ∧ j < 64 then some (i, j) else none
  | _ => none
theorem pairOf_of {d : D} {p : Int × Int} (h : pairOf d = some p) : d = dP p ∧ 0 ≤ p.1 ∧ p.1 < 64 ∧ 0 ≤ p.2 ∧ p.2 < 64 := by
  unfold pairOf at h
  split at h
  · split at h
    · next hh => cases h; exact ⟨rfl, hh⟩
    · cases h
  · cases h
def pairsD : List D → Option (List (Int × Int))
  | [] => some []
  | d :: ds => (pairOf d).bind fun p => (pairsD ds).map fun ps => p :: ps
theorem pairsD_of : ∀ {ds : List D} {ps : List (Int × Int)}, pairsD ds = some ps → ds = ps.map dP ∧ ∀ p ∈ ps, 0 ≤ p.1 ∧ p.1 < 64 ∧ 0 ≤ p.2 ∧ p.2 < 64
  | [], ps, h => by cases h; exact ⟨rfl, by simp⟩
  | d :: ds, ps, h => by
    obtain ⟨p, h1, h⟩ := Option.bind_eq_some_iff.mp (show (pairOf d).bind (fun p => (pairsD ds).map fun ps => p :: ps) = some ps from h)
    obtain ⟨qs, h2, h⟩ := omap h
    subst h
    obtain ⟨e1, b⟩ := pairOf_of h1
    obtain ⟨e2, bs⟩ := pairsD_of h2
    refine ⟨by rw [e1, e2]; rfl, fun q hq => ?_⟩
    rcases List.mem_cons.mp hq with rfl | hq
    · exact b
    · exact bs q hq
theorem pairsD_map : ∀ ps : List (Int × Int), (∀ p ∈ ps, 0 ≤ p.1 ∧ p.1 < 64 ∧ 0 ≤ p.2 ∧ p.2 < 64) → pairsD (ps.map dP) = some ps
  | [], _ => rfl
  | p :: ps, h => by
    show (pairOf (dP p)).bind (fun p => (pairsD (ps.map dP)).map fun ps => p :: ps) = _
    have e : pairOf (dP p) = some p := by
      show (if 0 ≤ p.1 ∧ p.1 < 64 ∧ 0 ≤ p.2 ∧ p.2 < 64 then some (p.1, p.2) else none) = _
      rw [if_pos (h p (by simp))]
    rw [e, pairsD_map ps fun q hq => h q (by simp [hq])]
    rfl
def gSortI : List D → Option D := onLst fun xs => (intsD xs).map fun ns => .lst ((isort _root_.id ns).map .int)
def gSortP : List D → Option D := onLst fun xs => (pairsD xs).bind fun ps => if ps.length < 64 then some (.lst ((isort pk ps).map dP)) else none
def gSort (ds : List D) : Option D := match gSortI ds with
  | some z => some z
  | none => gSortP ds
theorem f_sortI {C : Stc} : Fn1 C (rSortedI C.K) gSortI := fun P F A S Γ σ H xs ds z R r h Q q => by
  obtain ⟨ys, rfl, h⟩ := lst1 (k := fun xs => (intsD xs).map fun ns => D.lst ((isort _root_.id ns).map .int)) h
  obtain ⟨ns, h1, h2⟩ := omap h
  obtain ⟨x, rfl, rd⟩ := rds1 r
  obtain ⟨a, vs, rfl, h3, r1⟩ := rd.notLst
  rw [intsD_of h1] at r1
  have ev : vs = ns.map V.int := r1.ints
  subst ev
  refine ⟨a, ns, rfl, .inl (.inl (R.subF _ _ h3)), fun ns' p hp hs hn => ?_⟩
  have e : ns' = isort _root_.id ns := srt_uniq _root_.id (hp.trans (isort_perm _root_.id ns).symm) hs (isort_srt _root_.id ns) fun a _ b _ e => e
  subst e
  subst h2
  exact q _ _ A _ (R.lay hn _) (Ex.lay R hn _) (.lst upd_same (rds_ints _))

theorem RDs.mem {K : PySem.W.Frag} {F : Hp} {A : List Addr} {x : V} : ∀ {vs : List V} {ds : List D}, RDs K F A vs ds → x ∈ vs → ∃ d ∈ ds, RD K F A x d
  | _, _, .nil, h => by cases h
  | _, _, .cons r t, h => by
    rcases List.mem_cons.mp h with rfl | h
    · exact ⟨_, by simp, r⟩
    · obtain ⟨d, hd, r'⟩ := t.mem h
      exact ⟨d, by simp [hd], r'⟩
theorem RDs.permP {K : PySem.W.Frag} {F : Hp} {A : List Addr} {vs ys : List V} (h : vs.Perm ys) : ∀ {ps : List (Int × Int)}, RDs K F A vs (ps.map dP) → ∃ qs : List (Int × Int), qs.Perm ps ∧ RDs K F A ys (qs.map dP) := by
  induction h with
  | nil =>
    intro ps r
    exact ⟨ps, .refl _, r⟩
  | cons x _ ih =>
    intro ps r
    cases ps with
    | nil => cases r
    | cons p ps =>
      cases r with
      | cons r t =>
        obtain ⟨qs, h1, h2⟩ := ih t
        exact ⟨p :: qs, h1.cons p, .cons r h2⟩
  | swap x y l =>
    intro ps r
    match ps, r with
    | p :: q :: ps, .cons r1 (.cons r2 t) => exact ⟨q :: p :: ps, .swap p q ps, .cons r2 (.cons r1 t)⟩
  | trans _ _ ih1 ih2 =>
    intro ps r
    obtain ⟨qs, h1, h2⟩ := ih1 r
    obtain ⟨rs, h3, h4⟩ := ih2 h2
    exact ⟨rs, h3.trans h1, h4⟩
theorem RDs.pwP {K : PySem.W.Frag} {F : Hp} {A : List Addr} {R : V → V → Prop} {T : Int × Int → Int × Int → Prop} (w : ∀ x y p q, RD K F A x (dP p) → RD K F A y (dP q) → R x y → T p q) : ∀ {vs : List V} {ps : List (Int × Int)}, RDs K F A vs (ps.map dP) → vs.Pairwise R → ps.Pairwise T
  | [], [], _, _ => .nil
  | [], _ :: _, r, _ => by cases r
  | _ :: _, [], r, _ => by cases r
  | x :: vs, p :: ps, .cons r t, h => by
    rw [List.pairwise_cons] at h
    refine .cons (fun q hq => ?_) (RDs.pwP w t h.2)
    have back : ∀ {vs : List V} {ps : List (Int × Int)}, RDs K F A vs (ps.map dP) → q ∈ ps → ∃ y ∈ vs, RD K F A y (dP q) := by
      intro vs ps
      induction ps generalizing vs with
      | nil => intro _ h; cases h
      | cons p ps ih =>
        intro r h
        cases r with
        | cons r t =>
          rcases List.mem_cons.mp h with rfl | h
          · exact ⟨_, by simp, r⟩
          · obtain ⟨y, hy, r'⟩ := ih t h
            exact ⟨y, by simp [hy], r'⟩
    obtain ⟨y, hy, r'⟩ := back t hq
    exact w x y p q r r' (h.1 y hy)
theorem RD.pair {K : PySem.W.Frag} {F : Hp} {A : List Addr} {x : V} {p : Int × Int} (h : RD K F A x (dP p)) : TupI K F x [p.1, p.2] := by
  obtain ⟨t, ws, rfl, s, r⟩ := h.isTup
  have e : ws = [p.1, p.2].map V.int := RDs.ints (ns := [p.1, p.2]) r
  subst e
  exact ⟨t, rfl, s⟩
theorem pk_inj {p q : Int × Int} (hp : 0 ≤ p.1 ∧ p.1 < 64 ∧ 0 ≤ p.2 ∧ p.2 < 64) (hq : 0 ≤ q.1 ∧ q.1 < 64 ∧ 0 ≤ q.2 ∧ q.2 < 64) (h : pk p = pk q) : p = q := by
  unfold pk at h
  exact Prod.ext (by omega) (by omega)
theorem f_sortP {C : Stc} : Fn1 C (rSortU C.K 2 64) gSortP := fun P F A S Γ σ H xs ds z R r h Q q => by
  obtain ⟨ys, rfl, h⟩ := lst1 (k := fun xs => (pairsD xs).bind fun ps => if ps.length < 64 then some (D.lst ((isort pk ps).map dP)) else none) h
  obtain ⟨ps, h1, h2⟩ := Option.bind_eq_some_iff.mp h
  obtain ⟨x, rfl, rd⟩ := rds1 r
  obtain ⟨a, vs, rfl, h3, r1⟩ := rd.notLst
  obtain ⟨e, bd⟩ := pairsD_of h1
  subst e
  split at h2
  case isFalse => cases h2
  case isTrue hlen =>
  cases h2
  refine ⟨a, vs, rfl, .inl (.inl (R.subF _ _ h3)), by rw [r1.length, List.length_map]; exact hlen, fun x hx => ?_, fun zs p hp hs hn => ?_⟩
  · obtain ⟨d, hd, rx⟩ := r1.mem hx
    obtain ⟨p, hp, rfl⟩ := List.mem_map.mp hd
    obtain ⟨t, e, s⟩ := rx.pair
    have := bd p hp
    refine ⟨[p.1, p.2], ⟨t, e, seqT_mono R.subF s⟩, rfl, fun m hm => ?_⟩
    rcases List.mem_cons.mp hm with rfl | hm
    · omega
    · rw [List.mem_singleton] at hm; subst hm; omega
  · obtain ⟨qs, hq, rq⟩ := RDs.permP hp.symm r1
    have srt := RDs.pwP (T := fun p q => pk p ≤ pk q) (fun x y p q rx ry h => by
      obtain ⟨t, e, s⟩ := rx.pair
      obtain ⟨t', e', s'⟩ := ry.pair
      have := h [p.1, p.2] [q.1, q.2] ⟨t, e, seqT_mono R.subF s⟩ ⟨t', e', seqT_mono R.subF s'⟩
      rw [code_pair, code_pair] at this
      exact this) rq hs
    have e : qs = isort pk ps := srt_uniq pk (hq.trans (isort_perm pk ps).symm) srt (isort_srt pk ps) fun a ha b hb => pk_inj (bd a (hq.mem_iff.mp ha)) (bd b (hq.mem_iff.mp hb))
    subst e
    exact q _ _ A _ (R.lay hn _) (Ex.lay R hn _) (.lst upd_same (rq.ex (Ex.lay R hn _)))
theorem f_sort {C : Stc} : Fn1 C (fun xs H Q => rSortedI C.K xs H Q ∨ rSortU C.K 2 64 xs H Q) gSort := fun P F A S Γ σ H xs ds z R r h Q q => by
  unfold gSort at h
  cases e : gSortI ds with
  | some z' => rw [e] at h; cases h; exact .inl (f_sortI P F A S Γ σ H xs ds _ R r e Q q)
  | none => rw [e] at h; exact .inr (f_sortP P F A S Γ σ H xs ds _ R r h Q q)
theorem cr_sortJ {X : Cx} : CallR X (.builtin "sorted") (fun xs H Q => rSortedI X.K xs H Q ∨ rSortU X.K 2 64 xs H Q) := cr_sortedI.or (cr_sortT (by decide))
@[simp] theorem gSort_i (ns : List Int) : gSort [.lst (ns.map .int)] = some (.lst ((isort _root_.id ns).map .int)) := by
  have e : gSortI [.lst (ns.map .int)] = some (.lst ((isort _root_.id ns).map .int)) := by
    show (intsD (ns.map D.int)).map _ = _
    rw [intsD_map]; rfl
  unfold gSort
  rw [e]
theorem gSort_p {ps : List (Int × Int)} (h : ∀ p ∈ ps, 0 ≤ p.1 ∧ p.1 < 64 ∧ 0 ≤ p.2 ∧ p.2 < 64) (hl : ps.length < 64) : gSort [.lst (ps.map dP)] = some (.lst ((isort pk ps).map dP)) := by
  have ep : gSortP [.lst (ps.map dP)] = some (.lst ((isort pk ps).map dP)) := by
    show (pairsD (ps.map dP)).bind _ = _
    rw [pairsD_map ps h, Option.bind_some, if_pos hl]
  cases ps with
  | nil => rfl
  | cons p ps =>
    unfold gSort
    rw [show gSortI [.lst ((p :: ps).map dP)] = none from rfl]
    exact ep
/-! ### sorted(set(a row of ints)) -/
def gSU : D → Option D
  | .tup xs => (intsD xs).bind fun ns => if ns.length ≤ 60 then some (.lst ((sortU ns).map .int)) else none
  | _ => none
@[simp] theorem gSU_t {ns : List Int} : gSU (.tup (ns.map .int)) = if ns.length ≤ 60 then some (.lst ((sortU ns).map .int)) else none := by
  show (intsD (ns.map D.int)).bind _ = _
  rw [intsD_map]; rfl
section
variable {CA : Str → Addr} {X : Cx} {e o : Expr} {f fo : Me} {p p2 q pos apos : Pos}
theorem je_sortSet (hc : X.calm = true) (hg : Gl X "sorted") (hm : X.mg "sorted" = none) (hg2 : Gl X "set") (hm2 : X.mg "set" = none) (ha : JE CA X e f) (na : starEach [e] X.env = (false, eval e X.env) :: starEach [] X.env := by rfl) :
    JE CA X (.Call (.Name "sorted" p) [.Call (.Name "set" p2) [e] [] q] [] pos) (eU gSU f) := by
  refine ⟨fun pins s σ H Q I ⟨P, F, A, S, Γ, d, S', R, h, qq⟩ => ?_⟩
  obtain ⟨d1, S1, h1, h⟩ := obind h
  obtain ⟨z, h2, h⟩ := omap h
  cases h
  refine Call_ (ld_blt I hg hm (show bootBuiltins "sorted" = some (.builtin "sorted") by decide +kernel) ?_)
  refine PyProof.Rows.callWith_builtin1 (PyProof.Rows.args_cons ?_ rfl) rfl rfl
  refine Call_ (ld_blt I hg2 hm2 PyProof.Rows.boot_set ?_)
  refine PyProof.Rows.callWith_type1 (PyProof.Rows.args_cons (thn (ha.run pins s σ H (fun x H1 => ∃ l ns, x = .ref l ∧ SqT X.K H1 l (ns.map V.int) ∧ ns.length ≤ 60 ∧ ∀ (b : Addr) (o : HO), H1 b = none → ∀ p, upd H1 b o p = none → Q (.ref p) (upd (upd H1 b o) p (.lst ((sortU ns).map V.int)))) I ⟨P, F, A, S, Γ, d1, _, R, h1, fun v F1 A1 H1 R1 E1 r1 => ?_⟩) fun v s1 ⟨x, H1, I1, r1, q1⟩ => PyProof.Rows.args_nil ?_) na) na rfl
  · cases d1 with
    | tup xs =>
      obtain ⟨ns, h3, h4⟩ := Option.bind_eq_some_iff.mp (show (intsD xs).bind (fun ns => if ns.length ≤ 60 then some (D.lst ((sortU ns).map .int)) else none) = some _ from h2)
      split at h4
      case isFalse => cases h4
      case isTrue hl =>
      cases h4
      obtain ⟨a, vs, rfl, s1, t1⟩ := r1.isTup
      rw [intsD_of h3] at t1
      have ev := t1.ints
      subst ev
      refine ⟨a, ns, rfl, seqT_mono R1.subF s1, hl, fun b o hb p hp => ?_⟩
      have R2 := R1.lay hb o
      have E2 := Ex.lay R1 hb o
      exact qq _ _ _ _ (R2.lay hp _) ((E1.trans E2).trans (Ex.lay R2 hp _)) (.lst upd_same (rds_ints _))
    | _ => cases h2
  · obtain ⟨l, ns, rfl, hq, hl, q1⟩ := q1
    cases r1
    obtain ⟨its, r, pl, hz⟩ := I1.tuple hq
    refine call_set_tupI ns (I1.ok.hd hc) pl (by simpa using RZ.intsAre_vals r) (by unfold scanBound; omega) fun h' tk c hS hcl hk => ?_
    refine PyProof.Rows.args_nil ?_
    have hn : H1 s1.heap.objs.size = none := I1.hok.fresh (Nat.le_refl _)
    have I2 : L2.Inv X pins σ (upd H1 s1.heap.objs.size (SetO X.w s1.heap.objs.size (fun j => decide (j ∈ ns)) c)) { s1 with heap := h', toks := tk } := I1.laid (t' := tk) (fun b o e => hk b o e) (Nat.le_refl _) (setO_new hS)
    refine cr_sortedSet hc pins _ σ _ [.ref s1.heap.objs.size] [.ref s1.heap.objs.size] Q I2 (.cons rfl .nil) ⟨_, _, c, rfl, upd_same, by omega, fun out p hp hm hlen hpn => ?_⟩
    have e : out = sortU ns := lt_uniq hp (sortU_lt ns) fun x => by rw [hm, mem_sortU, decide_eq_true_eq]
    subst e
    exact q1 _ _ hn p hpn
/-- sep.join(xs) -/
def gJoin (a b : D) : Option D := match a, b with
  | .str y, .lst xs => (strsD xs).bind fun zs => if (zs.map (·.length)).sum + zs.length * y.length ≤ 16777216 then some (.str (Txt.join y zs)) else none
  | .str y, .tup xs => (strsD xs).bind fun zs => if (zs.map (·.length)).sum + zs.length * y.length ≤ 16777216 then some (.str (Txt.join y zs)) else none
  | _, _ => none
theorem je_join (ho : JE CA X o fo) (he : JE CA X e f) (hs : starEach [e] X.env = [(false, eval e X.env)] := by rfl) (hbase : attributeBase o "join" X.env (eval o X.env) = eval o X.env := by rfl) (hline : (apos.endLine == pos.line) = true := by rfl) :
    JE CA X (.Call (.Attribute o "join" apos) [e] [] pos) (eB gJoin fo f) :=
  peI (pe_join ho he hs hbase hline) fun σ H Q ⟨P, F, A, S, Γ, d, S', R, h, q⟩ => by
  obtain ⟨d1, S1, h1, h⟩ := obind h
  obtain ⟨d2, S2, h2, h⟩ := obind h
  obtain ⟨z, h3, h⟩ := omap h
  cases h
  refine ⟨P, F, A, S, Γ, d1, S1, R, h1, fun v F1 A1 H1 R1 E1 r1 => ?_⟩
  cases d1 with
  | str y =>
    cases r1
    refine ⟨⟨y, rfl⟩, P, F1, A1, S1, Γ, d2, _, R1, h2, fun u F2 A2 H2 R2 E2 r2 => ?_⟩
    cases d2 with
    | lst xs =>
      obtain ⟨zs, h4, h5⟩ := Option.bind_eq_some_iff.mp (show (strsD xs).bind _ = some _ from h3)
      split at h5
      case isFalse => cases h5
      case isTrue hl =>
      cases h5
      obtain ⟨a, vs, rfl, s1, t1⟩ := r2.notLst
      rw [strsD_of h4] at t1
      have ev := t1.strs
      subst ev
      exact ⟨y, a, zs, rfl, rfl, .inl (.inl (.inl (R2.subF _ _ s1))), hl, q _ F2 A2 H2 R2 (E1.trans E2) (.str _)⟩
    | tup xs =>
      obtain ⟨zs, h4, h5⟩ := Option.bind_eq_some_iff.mp (show (strsD xs).bind _ = some _ from h3)
      split at h5
      case isFalse => cases h5
      case isTrue hl =>
      cases h5
      obtain ⟨a, vs, rfl, s1, t1⟩ := r2.isTup
      rw [strsD_of h4] at t1
      have ev := t1.strs
      subst ev
      exact ⟨y, a, zs, rfl, rfl, .inr (seqT_mono R2.subF s1), hl, q _ F2 A2 H2 R2 (E1.trans E2) (.str _)⟩
    | _ => cases h3
  | _ => cases h3
end
end J
/-! J16: defs that call themselves, by a bound on the depth. -/
namespace J
open PySem PySem.Spec PyProof.Rows L2
theorem jss_never {CA : Str → Addr} {X : Cx} {sts : List Stmt} : JSs CA X sts (fun _ _ => none) := ⟨fun pins s σ H Dn I hq => by
  obtain ⟨P, F, A, S, Γ, o, Γ', S', R, h, q⟩ := hq
  cases h⟩
theorem never_ok {P : Program} {w : World} {K : PySem.W.Frag} {mg : Str → Option Value} {base : Heap} {CA : Str → Addr} {x qual : Str} {st : Stmt} {f : Addr} {fd : FuncData} {N ps : List Str} {k : Nat} (F : Fun K x qual st f fd) (Sc : FnScope N ps (defScope st)) :
    FnOk P w K mg base CX0 (k + 1) f fd ps (spD ⟨K, CA⟩ ps.length (fun _ _ => none)) :=
  jok (b := fun _ _ => none) F Sc fun _ _ _ _ _ _ _ => jss_never
end J
/-! J17: members, rows with a clause, texts of letters. -/
namespace J
open PySem PySem.Spec PyProof.Rows L2
theorem any_int (n : Nat) (a : Int) (xs : List Int) : ((xs.map D.int).any fun y => D.eq n y (.int a)) = decide (a ∈ xs) := by
  induction xs with
  | nil => simp
  | cons x xs ih =>
    have e : D.eq n (.int x) (.int a) = (x == a) := by cases n <;> rfl
    rw [List.map_cons, List.any_cons, ih, e]
    by_cases h : x = a
    · simp [h]
    · have h' : ¬ a = x := fun q => h q.symm
      simp [h, h']
@[simp] theorem gIn_it {a : Int} {xs : List Int} : gIn (.int a) (.tup (xs.map .int)) = some (.bl (decide (a ∈ xs))) := by
  show (gInS (.int a) (xs.map .int)).map D.bl = _
  unfold gInS
  rw [fl_ints, any_int]; rfl
@[simp] theorem gNi_it {a : Int} {xs : List Int} : gNi (.int a) (.tup (xs.map .int)) = some (.bl (decide (a ∉ xs))) := by
  show (gInS (.int a) (xs.map .int)).map (fun b => D.bl (!b)) = _
  unfold gInS
  rw [fl_ints, any_int, show D.fl 39 (.int a) = true from rfl]
  simp
@[simp] theorem gIn_il {a : Int} {xs : List Int} : gIn (.int a) (.lst (xs.map .int)) = some (.bl (decide (a ∈ xs))) := by
  show (gInS (.int a) (xs.map .int)).map D.bl = _
  unfold gInS
  rw [fl_ints, any_int]; rfl
theorem fl_pairs (n : Nat) (ps : List (Int × Int)) : (ps.map dP).all (D.fl (n + 1)) = true := by
  simp only [List.all_map, List.all_eq_true, Function.comp]
  intro p _
  show ([D.int p.1, D.int p.2]).all (D.fl n) = true
  exact fl_ints n [p.1, p.2]
theorem eq_pair (n : Nat) (p q : Int × Int) : D.eq (n + 1) (dP p) (dP q) = decide (p = q) := by
  show all2 (D.eq n) ([p.1, p.2].map D.int) ([q.1, q.2].map D.int) = _
  rw [eq_ints]
  by_cases h : p = q
  · subst h; simp
  · have : ¬ [p.1, p.2] = [q.1, q.2] := fun e => h (by simp at e; exact Prod.ext e.1 e.2)
    simp [h, this]
theorem any_pair (n : Nat) (a : Int × Int) (xs : List (Int × Int)) : ((xs.map dP).any fun y => D.eq (n + 1) y (dP a)) = decide (a ∈ xs) := by
  induction xs with
  | nil => simp
  | cons x xs ih =>
    rw [List.map_cons, List.any_cons, ih, eq_pair]
    by_cases h : x = a
    · simp [h]
    · have h' : ¬ a = x := fun q => h q.symm
      simp [h, h']
theorem gIn_pt {a : Int × Int} {xs : List (Int × Int)} : gIn (dP a) (.tup (xs.map dP)) = some (.bl (decide (a ∈ xs))) := by
  show (gInS (dP a) (xs.map dP)).map D.bl = _
  unfold gInS
  rw [fl_pairs 38, any_pair 38, show D.fl 39 (dP a) = true from fl_ints 38 [a.1, a.2]]
  rfl
theorem eq_pairs (n : Nat) : ∀ (xs ys : List (Int × Int)), all2 (D.eq (n + 1)) (xs.map dP) (ys.map dP) = decide (xs = ys)
  | [], [] => by simp [all2]
  | [], y :: ys => by simp [all2]
  | x :: xs, [] => by simp [all2]
  | x :: xs, y :: ys => by
    simp only [List.map_cons, all2]
    rw [eq_pairs n xs ys, eq_pair]
    by_cases h : x = y <;> by_cases h2 : xs = ys <;> simp [h, h2]
theorem gNe_pt {xs ys : List (Int × Int)} : gNe (.tup (xs.map dP)) (.tup (ys.map dP)) = some (.bl (!decide (xs = ys))) := by
  show (if ((xs.map dP).all (D.fl 39) && (ys.map dP).all (D.fl 39)) = true then some (D.bl (!all2 (D.eq 39) (xs.map dP) (ys.map dP))) else none) = _
  rw [fl_pairs 38, fl_pairs 38, eq_pairs 38]; rfl
theorem gNe_pl {xs ys : List (Int × Int)} : gNe (.lst (xs.map dP)) (.lst (ys.map dP)) = some (.bl (!decide (xs = ys))) := by
  show (if ((xs.map dP).all (D.fl 39) && (ys.map dP).all (D.fl 39)) = true then some (D.bl (!all2 (D.eq 39) (xs.map dP) (ys.map dP))) else none) = _
  rw [fl_pairs 38, fl_pairs 38, eq_pairs 38]; rfl
theorem gEq_it {xs ys : List Int} : gEq (.tup (xs.map .int)) (.tup (ys.map .int)) = some (.bl (decide (xs = ys))) := by
  show (if ((xs.map D.int).all (D.fl 39) && (ys.map D.int).all (D.fl 39)) = true then some (D.bl (all2 (D.eq 39) (xs.map .int) (ys.map .int))) else none) = _
  rw [fl_ints, fl_ints, eq_ints]; rfl
/-- comprehension with a clause, nothing drawn -/
theorem lc_filt {g : Mg} {t : Mt} {m : Me} {Γ : Env} {S : Sto} {α : Type} (c : α → D) (p : α → Bool) (h : α → D) : ∀ xs : List α, (∀ x ∈ xs, ∃ Γ1, g (c x) Γ = some Γ1 ∧ t Γ1 S = some (p x, S) ∧ m Γ1 S = some (h x, S)) → lcGo g t m (xs.map c) Γ S = some ((xs.filter p).map h, S)
  | [], _ => rfl
  | x :: xs, w => by
    obtain ⟨Γ1, e1, e2, e3⟩ := w x (by simp)
    have q := lc_filt (g := g) (t := t) (m := m) (Γ := Γ) (S := S) c p h xs fun y hy => w y (by simp [hy])
    rw [List.map_cons]
    unfold lcGo
    rw [e1, Option.bind_some, e2, Option.bind_some]
    by_cases hp : p x = true
    · rw [if_pos (by exact hp), e3, Option.bind_some, q, List.filter_cons_of_pos hp]; rfl
    · rw [if_neg (by exact hp), q, List.filter_cons_of_neg hp]
theorem filt_v {vs : List Nat} {it : Ma} {g : Mg} {t : Mt} {m : Me} {Γ : Env} {S : Sto} {α : Type} (xs : List α) (c : α → D) (p : α → Bool) (h : α → D) (hi : it Γ S = some (xs.map c, S)) (hl : xs.length ≤ 16777216) (ho : okW vs Γ = true)
    (w : ∀ x ∈ xs, ∃ Γ1, g (c x) (wipeE Γ vs) = some Γ1 ∧ t Γ1 S = some (p x, S) ∧ m Γ1 S = some (h x, S)) : vLc vs it g t m Γ S = some (.ow (.lst ((xs.filter p).map h)), S) :=
  vlc_eq ho hi (by rw [List.length_map]; exact hl) (lc_filt c p h xs w)
theorem map2_v {vs : List Nat} {it : Ma} {g : Mg} {m : Me} {Γ : Env} {S : Sto} {α : Type} (xs : List α) (c : α → D) (h : α → D) (hi : it Γ S = some (xs.map c, S)) (hl : xs.length ≤ 16777216) (ho : okW vs Γ = true)
    (w : ∀ x ∈ xs, ∃ Γ1, g (c x) (wipeE Γ vs) = some Γ1 ∧ m Γ1 S = some (h x, S)) : vLc vs it g tYs m Γ S = some (.ow (.lst (xs.map h)), S) := by
  have := filt_v (t := tYs) xs c (fun _ => true) h hi hl ho fun x hx => by
    obtain ⟨Γ1, e1, e2⟩ := w x hx
    exact ⟨Γ1, e1, rfl, e2⟩
  rw [List.filter_eq_self.mpr (fun _ _ => rfl)] at this
  exact this
/-! ### the numbers from 0 on -/
def upN (lo : Int) : Nat → List Int
  | 0 => []
  | n + 1 => lo :: upN (lo + 1) n
theorem upN_len : ∀ (w : Int) (n : Nat), (upN w n).length = n
  | _, 0 => rfl
  | w, n + 1 => by simp [upN, upN_len (w + 1) n]
theorem upN_map (w : Int) : ∀ n : Nat, upN w n = (List.range n).map fun (k : Nat) => w + (k : Int) := by
  intro n
  induction n generalizing w with
  | zero => rfl
  | succ n ih =>
    rw [List.range_succ_eq_map, List.map_cons, List.map_map, upN, ih (w + 1)]
    congr 1
    · simp
    · congr 1
      funext k
      simp only [Function.comp]
      omega
theorem rng_upN (lo : Int) (n : Nat) : rngD lo n = (upN lo n).map .int := by
  rw [upN_map, List.map_map]; rfl
theorem mem_upN {lo a : Int} {n : Nat} : a ∈ upN lo n ↔ lo ≤ a ∧ a < lo + n := by
  rw [upN_map, List.mem_map]
  constructor
  · rintro ⟨k, hk, rfl⟩
    have := List.mem_range.mp hk
    omega
  · intro h
    exact ⟨(a - lo).toNat, List.mem_range.mpr (by omega), by omega⟩
theorem upN_pw : ∀ (n : Nat) (lo : Int), (upN lo n).Pairwise (· < ·)
  | 0, _ => .nil
  | n + 1, lo => .cons (fun a ha => by have := mem_upN.mp ha; omega) (upN_pw n (lo + 1))
/-! ### texts of the letters a .. g -/
def isAG (c : Nat) : Prop := 97 ≤ c ∧ c ≤ 103
theorem ag_in {c : Nat} (h : isAG c) : gIn (.str ⟨#[c]⟩) (.str (PySem.Str.ofString "abcdefg")) = some (.bl true) := by
  have : c = 97 ∨ c = 98 ∨ c = 99 ∨ c = 100 ∨ c = 101 ∨ c = 102 ∨ c = 103 := by unfold isAG at h; omega
  have k : ∀ c : Nat, strIn ⟨#[c]⟩ (PySem.Str.ofString "abcdefg") = true → gIn (.str ⟨#[c]⟩) (.str (PySem.Str.ofString "abcdefg")) = some (.bl true) := fun c h => by
    show some (D.bl (strIn ⟨#[c]⟩ (PySem.Str.ofString "abcdefg"))) = _
    rw [h]
  rcases this with rfl | rfl | rfl | rfl | rfl | rfl | rfl <;> exact k _ (by decide +kernel)
/-- a text of n letters -/
def Lab (n : Nat) (x : Str) : Prop := (TL.tl x).length = n ∧ ∀ c ∈ TL.tl x, isAG c
theorem Lab.len {n : Nat} {x : Str} (h : Lab n x) : x.length = n := by rw [TL.len_tl]; exact h.1
theorem joinL_nil : ∀ ps : List (List Nat), TL.joinL [] ps = ps.flatten
  | [] => rfl
  | [p] => by simp [TL.joinL]
  | p :: q :: r => by
    show p ++ ([] ++ TL.joinL [] (q :: r)) = _
    rw [joinL_nil (q :: r), List.nil_append]; rfl
theorem lab_join {zs : List Str} (h : ∀ z ∈ zs, Lab 1 z) : Lab zs.length (Txt.join (PySem.Str.ofString "") zs) := by
  have e : TL.tl (Txt.join (PySem.Str.ofString "") zs) = (zs.map TL.tl).flatten := by
    rw [TL.join_eq, TL.tl_join, show TL.tl (PySem.Str.ofString "") = [] by decide +kernel, joinL_nil]
  constructor
  · rw [e]
    clear e
    induction zs with
    | nil => rfl
    | cons z zs ih =>
      rw [List.map_cons, List.flatten_cons, List.length_append, (h z (by simp)).1, ih fun y hy => h y (by simp [hy]), List.length_cons]
      omega
  · intro c hc
    rw [e] at hc
    obtain ⟨p, hp, hc⟩ := List.mem_flatten.mp hc
    obtain ⟨z, hz, rfl⟩ := List.mem_map.mp hp
    exact (h z hz).2 c hc
end J
namespace Lk02
open PySem PySem.Spec PyProof.Rows L2 J
def topS (i : Nat) : Stmt := PySem.Challenge.pw_channelshared_k02_whole_one_more_sender.main.body.getD i (.Pass ⟨0, 0, 0, 0⟩)
abbrev s__law_taken : Stmt := topS 29
abbrev s__law_pick : Stmt := topS 30
abbrev s__law_net : Stmt := topS 32
abbrev s_need : Stmt := topS 3
abbrev s_are_letters : Stmt := topS 9
abbrev s_is_number : Stmt := topS 7
abbrev s_is_rising : Stmt := topS 8
abbrev s_is_station_row : Stmt := topS 10
abbrev s_is_net : Stmt := topS 11
abbrev s_check_net : Stmt := topS 12
abbrev s_check_senders : Stmt := topS 19
abbrev s_heard_by : Stmt := topS 20
abbrev s_heard : Stmt := topS 21
abbrev s_all_links : Stmt := topS 27
abbrev s_links : Stmt := topS 26
abbrev s_is_link : Stmt := topS 13
abbrev s_check_link : Stmt := topS 14
abbrev s_spoilers : Stmt := topS 24
abbrev s__law_alike : Stmt := topS 31
abbrev s_clear_links : Stmt := topS 22
abbrev s_clear : Stmt := topS 23
abbrev s_law : Stmt := topS 33
theorem sc__law_taken : FnScope ["row", "many", "found", "cell"] ["row", "many"] (defScope s__law_taken) := ⟨rfl, rfl, rfl, by decide +kernel, rfl, by decide +kernel, by decide +kernel⟩
theorem sc__law_pick : FnScope ["row", "some"] ["row", "some"] (defScope s__law_pick) := ⟨rfl, rfl, rfl, by decide +kernel, rfl, by decide +kernel, by decide +kernel⟩
theorem sc__law_net : FnScope ["row", "most", "many", "letters", "ears", "labels", "at", "bits", "thin", "some", "own"] ["row", "most"] (defScope s__law_net) := ⟨rfl, rfl, rfl, by decide +kernel, rfl, by decide +kernel, by decide +kernel⟩
theorem sc_need : FnScope ["is_valid", "name"] ["is_valid", "name"] (defScope s_need) := ⟨rfl, rfl, rfl, by decide +kernel, rfl, by decide +kernel, by decide +kernel⟩
theorem sc_are_letters : FnScope ["value", "own"] ["value"] (defScope s_are_letters) := ⟨rfl, rfl, rfl, by decide +kernel, rfl, by decide +kernel, by decide +kernel⟩
theorem sc_is_number : FnScope ["value", "least", "most"] ["value", "least", "most"] (defScope s_is_number) := ⟨rfl, rfl, rfl, by decide +kernel, rfl, by decide +kernel, by decide +kernel⟩
theorem sc_is_rising : FnScope ["row", "one", "other"] ["row"] (defScope s_is_rising) := ⟨rfl, rfl, rfl, by decide +kernel, rfl, by decide +kernel, by decide +kernel⟩
theorem sc_is_station_row : FnScope ["value", "many", "own"] ["value", "many"] (defScope s_is_station_row) := ⟨rfl, rfl, rfl, by decide +kernel, rfl, by decide +kernel, by decide +kernel⟩
theorem sc_is_net : FnScope ["value", "labels", "ears", "at", "own"] ["value"] (defScope s_is_net) := ⟨rfl, rfl, rfl, by decide +kernel, rfl, by decide +kernel, by decide +kernel⟩
theorem sc_check_net : FnScope ["net"] ["net"] (defScope s_check_net) := ⟨rfl, rfl, rfl, by decide +kernel, rfl, by decide +kernel, by decide +kernel⟩
theorem sc_check_senders : FnScope ["net", "senders"] ["net", "senders"] (defScope s_check_senders) := ⟨rfl, rfl, rfl, by decide +kernel, rfl, by decide +kernel, by decide +kernel⟩
theorem sc_heard_by : FnScope ["net", "station", "senders", "some", "own"] ["net", "station", "senders"] (defScope s_heard_by) := ⟨rfl, rfl, rfl, by decide +kernel, rfl, by decide +kernel, by decide +kernel⟩
theorem sc_heard : FnScope ["net", "senders", "station"] ["net", "senders"] (defScope s_heard) := ⟨rfl, rfl, rfl, by decide +kernel, rfl, by decide +kernel, by decide +kernel⟩
theorem sc_all_links : FnScope ["net", "found", "listener", "row", "own"] ["net"] (defScope s_all_links) := ⟨rfl, rfl, rfl, by decide +kernel, rfl, by decide +kernel, by decide +kernel⟩
theorem sc_links : FnScope ["net"] ["net"] (defScope s_links) := ⟨rfl, rfl, rfl, by decide +kernel, rfl, by decide +kernel, by decide +kernel⟩
theorem sc_is_link : FnScope ["net", "value", "own"] ["net", "value"] (defScope s_is_link) := ⟨rfl, rfl, rfl, by decide +kernel, rfl, by decide +kernel, by decide +kernel⟩
theorem sc_check_link : FnScope ["net", "link", "name"] ["net", "link", "name"] (defScope s_check_link) := ⟨rfl, rfl, rfl, by decide +kernel, rfl, by decide +kernel, by decide +kernel⟩
theorem sc_spoilers : FnScope ["net", "link", "senders", "speaker", "listener", "own"] ["net", "link", "senders"] (defScope s_spoilers) := ⟨rfl, rfl, rfl, by decide +kernel, rfl, by decide +kernel, by decide +kernel⟩
theorem sc__law_alike : FnScope ["found", "due", "at"] ["found", "due"] (defScope s__law_alike) := ⟨rfl, rfl, rfl, by decide +kernel, rfl, by decide +kernel, by decide +kernel⟩
theorem sc_clear_links : FnScope ["net", "senders", "found", "station", "own"] ["net", "senders"] (defScope s_clear_links) := ⟨rfl, rfl, rfl, by decide +kernel, rfl, by decide +kernel, by decide +kernel⟩
theorem sc_clear : FnScope ["net", "senders"] ["net", "senders"] (defScope s_clear) := ⟨rfl, rfl, rfl, by decide +kernel, rfl, by decide +kernel, by decide +kernel⟩
theorem sc_law : FnScope ["script", "row", "turn", "net", "many", "senders", "new", "more", "before", "behind", "at", "hears", "due", "link", "some", "rest", "both", "own"] ["script"] (defScope s_law) := ⟨rfl, rfl, rfl, by decide +kernel, rfl, by decide +kernel, by decide +kernel⟩
/-! ### the meanings -/
/- def _law_taken(row, many): -/
abbrev B__law_taken : Ms := (sSeq (sIf (tV gB (eB gGtI (eP2 gIxP (pR (eV 0)) (eC (.int 3))) (eC (.int 0)))) (sSeq (sSet 2 (eB gMod (eF gInt (aC (eP2 gIxP (pR (eV 0)) (eC (.int 3))) aN)) (eV 1)))
    (sSeq (sP2 gPut (eB gDiv (eP2 gIxP (pR (eV 0)) (eC (.int 3))) (eV 1)) (pR (eV 0)) (eC (.int 3)))
    (sRet (eV 2)))) sNil)
    (sSeq (sP2 gPut (eB gAdd (eP2 gIxP (pR (eV 0)) (eC (.int 1))) (eC (.int 1))) (pR (eV 0)) (eC (.int 1)))
    (sSeq (sIf (tV gB (eB gGtI (eP2 gIxP (pR (eV 0)) (eC (.int 1))) (eF gLen (aC (eP2 gIxP (pR (eV 0)) (eC (.int 0))) aN)))) (sSeq (sP2 gPut (eB gMod (eF gInt (aC (eB gAdd (eB gMulA (eP2 gIxP (pR (eV 0)) (eC (.int 2))) (eC (.int 48271))) (eC (.int 11))) aN)) (eC (.int 2147483647))) (pR (eV 0)) (eC (.int 2)))
    (sRet (eB gMod (eF gInt (aC (eB gDiv (eP2 gIxP (pR (eV 0)) (eC (.int 2))) (eC (.int 7))) aN)) (eV 1)))) sNil)
    (sSeq (sSet 3 (eB gIx (eP2 gIxP (pR (eV 0)) (eC (.int 0))) (eB gSub (eP2 gIxP (pR (eV 0)) (eC (.int 1))) (eC (.int 1)))))
    (sSeq (sP2 gPut (eB gMod (eF gInt (aC (eB gAdd (eB gAdd (eB gMulA (eP2 gIxP (pR (eV 0)) (eC (.int 2))) (eC (.int 48271))) (eF gInt (aC (eV 3) aN))) (eC (.int 11))) aN)) (eC (.int 2147483647))) (pR (eV 0)) (eC (.int 2)))
    (sSeq (sIf (tV gB (eB gGeI (eV 3) (eB gPow (eC (.int 10)) (eC (.int 18))))) (sP2 gPut (eB gDiv (eF gInt (aC (eB gMod (eF gInt (aC (eV 3) aN)) (eB gPow (eC (.int 10)) (eC (.int 90)))) aN)) (eV 1)) (pR (eV 0)) (eC (.int 3))) sNil)
    (sRet (eB gMod (eF gInt (aC (eV 3) aN)) (eV 1)))))))))
def M__law_taken : Mf := fnS 4 B__law_taken
/- def _law_pick(row, some): -/
abbrev B__law_pick : Ms := (sRet (eB gIx (eV 1) (eCall M__law_taken (aC (eV 0) (aC (eF gLen (aC (eV 1) aN)) aN)))))
def M__law_pick : Mf := fnS 2 B__law_pick
/- def _law_net(row, most): -/
abbrev b__law_net_0 : Ms := (sSeq (sPar [7, 8] (vCs (vI (eCall M__law_taken (aC (eV 0) (aC (eC (.int 128)) aN)))) (vCs (vI (eIf (tV gB (eB gEq (eCall M__law_taken (aC (eV 0) (aC (eC (.int 2)) aN))) (eC (.int 0)))) (eCall M__law_taken (aC (eV 0) (aC (eC (.int 128)) aN))) (eC (.int 127)))) vN)))
    (sSeq (sSetV 9 (vLc [10] (iA gR1 (aC (eV 2) aN)) (gNm 10) (tV gB (eB gEq (eB gMod (eF gInt (aC (eB gDiv (eV 7) (eB gIx (eF gTup (aC (eC (.int 1)) (aC (eC (.int 2)) (aC (eC (.int 4)) (aC (eC (.int 8)) (aC (eC (.int 16)) (aC (eC (.int 32)) (aC (eC (.int 64)) aN)))))))) (eV 10))) aN)) (eC (.int 2))) (eC (.int 1)))) (eV 10)))
    (sFrz 9 (sP1 Ob.isL gApp (pO 4) (eF gTupOf (aC (eFz (vLc [10] (iV gIt (eV 9)) (gNm 10) (tAnd (tV gB (eB gNe (eV 10) (eV 6))) (tV gB (eB gEq (eB gMod (eF gInt (aC (eB gDiv (eV 8) (eB gIx (eF gTup (aC (eC (.int 1)) (aC (eC (.int 2)) (aC (eC (.int 4)) (aC (eC (.int 8)) (aC (eC (.int 16)) (aC (eC (.int 32)) (aC (eC (.int 64)) aN)))))))) (eV 10))) aN)) (eC (.int 2))) (eC (.int 1))))) (eV 10))) aN))))))
abbrev B__law_net : Ms := (sSeq (sSet 2 (eB gAdd (eC (.int 1)) (eCall M__law_taken (aC (eV 0) (aC (eV 1) aN)))))
    (sSeq (sPar [3, 4] (vCs (vI (eCall M__law_pick (aC (eV 0) (aC (eF gLst (aC (eC (.str (PySem.Str.ofString "ab"))) (aC (eC (.str (PySem.Str.ofString "abc"))) (aC (eC (.str (PySem.Str.ofString "abcdefg"))) (aC (eC (.str (PySem.Str.ofString "gfedcba"))) (aC (eC (.str (PySem.Str.ofString "a"))) aN)))))) aN)))) (vCs (vL aN) vN)))
    (sSeq (sSet 5 (eB gJoin (eC (.str (PySem.Str.ofString ""))) (eFz (vLc [6] (iA gR1 (aC (eV 2) aN)) (gNm 6) tYs (eCall M__law_pick (aC (eV 0) (aC (eV 3) aN)))))))
    (sSeq (sIf (tV gB (eB gEq (eCall M__law_taken (aC (eV 0) (aC (eC (.int 3)) aN))) (eC (.int 0)))) (sSet 5 (eSl (eC (.str (PySem.Str.ofString "cgbeafd"))) oN (oS (eV 2)))) sNil)
    (sSeq (sFor (iA gR1 (aC (eV 2) aN)) (gNm 6) b__law_net_0)
    (sFrz 4 (sRet (eF gTup (aC (eV 5) (aC (eF gTupOf (aC (eV 4) aN)) aN))))))))))
def M__law_net : Mf := fnS 11 B__law_net
/- def need(is_valid, name): -/
abbrev B_need : Ms := (sIf (tNot (tV gTru (eV 0))) sNever sNil)
def M_need : Mf := fnS 2 B_need
/- def are_letters(value): -/
abbrev B_are_letters : Ms := (sRet (eAnd (eU (isT "str") (eV 0)) (eF gAll (aC (eFz (vLc [1] (iV gIt (eV 0)) (gNm 1) tYs (eB gIn (eV 1) (eC (.str (PySem.Str.ofString "abcdefg")))))) aN))))
def M_are_letters : Mf := fnS 2 B_are_letters
/- def is_number(value, least, most): -/
abbrev B_is_number : Ms := (sRet (eAnd (eU (isT "int") (eV 0)) (eAnd (eU (fun d => (gTru d).map fun k => .bl (!k)) (eU (isT "bool") (eV 0))) (eChain gLe gLe (eV 1) (eV 0) (eV 2)))))
def M_is_number : Mf := fnS 3 B_is_number
/- def is_rising(row): -/
abbrev B_is_rising : Ms := (sRet (eF gAll (aC (eFz (vLc [1, 2] (iA gZp (aC (eV 0) (aC (eSl (eV 0) (oS (eC (.int 1))) oN) aN))) (gTp 2 (gsC (gNm 1) (gsC (gNm 2) gsN))) tYs (eB gLt (eV 1) (eV 2)))) aN)))
def M_is_rising : Mf := fnS 3 B_is_rising
/- def is_station_row(value, many): -/
abbrev B_is_station_row : Ms := (sRet (eAnd (eU (isT "tuple") (eV 0)) (eAnd (eF gAll (aC (eFz (vLc [2] (iV gIt (eV 0)) (gNm 2) tYs (eCall M_is_number (aC (eV 2) (aC (eC (.int 0)) (aC (eB gSub (eV 1) (eC (.int 1))) aN)))))) aN)) (eCall M_is_rising (aC (eV 0) aN)))))
def M_is_station_row : Mf := fnS 3 B_is_station_row
/- def is_net(value): -/
abbrev B_is_net : Ms := (sSeq (sIf (tNot (tAnd (tV gTru (eU (isT "tuple") (eV 0))) (tV gB (eB gEq (eF gLen (aC (eV 0) aN)) (eC (.int 2)))))) (sRet (eC (.bl false))) sNil)
    (sSeq (sAsg (eV 0) (gTp 2 (gsC (gNm 1) (gsC (gNm 2) gsN))))
    (sSeq (sIf (tOr (tNot (tV gTru (eCall M_are_letters (aC (eV 1) aN)))) (tNot (tV gB (eChain gLe gLe (eC (.int 1)) (eF gLen (aC (eV 1) aN)) (eC (.int 7)))))) (sRet (eC (.bl false))) sNil)
    (sSeq (sIf (tNot (tAnd (tV gTru (eU (isT "tuple") (eV 2))) (tV gB (eB gEq (eF gLen (aC (eV 2) aN)) (eF gLen (aC (eV 1) aN)))))) (sRet (eC (.bl false))) sNil)
    (sRet (eF gAll (aC (eFz (vLc [3, 4] (iA gEn (aC (eV 2) aN)) (gTp 2 (gsC (gNm 3) (gsC (gNm 4) gsN))) tYs (eAnd (eCall M_is_station_row (aC (eV 4) (aC (eF gLen (aC (eV 1) aN)) aN))) (eB gNi (eV 3) (eV 4))))) aN)))))))
def M_is_net : Mf := fnS 5 B_is_net
/- def check_net(net): -/
abbrev B_check_net : Ms := (sDrop (eCall M_need (aC (eCall M_is_net (aC (eV 0) aN)) (aC (eC (.str (PySem.Str.ofString "net"))) aN))))
def M_check_net : Mf := fnS 1 B_check_net
/- def check_senders(net, senders): -/
abbrev B_check_senders : Ms := (sDrop (eCall M_need (aC (eCall M_is_station_row (aC (eV 1) (aC (eF gLen (aC (eB gIx (eV 0) (eC (.int 0))) aN)) aN))) (aC (eC (.str (PySem.Str.ofString "senders"))) aN))))
def M_check_senders : Mf := fnS 2 B_check_senders
/- def heard_by(net, station, senders): -/
abbrev B_heard_by : Ms := (sSeq (sIf (tV gB (eB gIn (eV 1) (eV 2))) (sRet (eC (.int (-3)))) sNil)
    (sSeq (sSetV 3 (vLc [4] (iV gIt (eB gIx (eB gIx (eV 0) (eC (.int 1))) (eV 1))) (gNm 4) (tV gB (eB gIn (eV 4) (eV 2))) (eV 4)))
    (sSeq (sIf (tV gB (eB gEq (eP1 gLenP (pO 3)) (eC (.int 1)))) (sRet (eP2 gIxP (pO 3) (eC (.int 0)))) sNil)
    (sFrz 3 (sRet (eIf (tV gTru (eV 3)) (eC (.int (-2))) (eC (.int (-1)))))))))
def M_heard_by : Mf := fnS 5 B_heard_by
/- def heard(net, senders): -/
abbrev B_heard : Ms := (sSeq (sDrop (eCall M_check_net (aC (eV 0) aN)))
    (sSeq (sDrop (eCall M_check_senders (aC (eV 0) (aC (eV 1) aN))))
    (sRet (eF gTupOf (aC (eFz (vLc [2] (iA gR1 (aC (eF gLen (aC (eB gIx (eV 0) (eC (.int 0))) aN)) aN)) (gNm 2) tYs (eCall M_heard_by (aC (eV 0) (aC (eV 2) (aC (eV 1) aN)))))) aN)))))
def M_heard : Mf := fnS 3 B_heard
/- def all_links(net): -/
abbrev b_all_links_0 : Ms := (sP1 Ob.isL gExt (pO 1) (eFz (vLc [4] (iV gIt (eV 3)) (gNm 4) tYs (eF gTup (aC (eV 4) (aC (eV 2) aN))))))
abbrev B_all_links : Ms := (sSeq (sSetV 1 (vL aN))
    (sSeq (sFor (iA gEn (aC (eB gIx (eV 0) (eC (.int 1))) aN)) (gTp 2 (gsC (gNm 2) (gsC (gNm 3) gsN))) b_all_links_0)
    (sFrz 1 (sRet (eF gTupOf (aC (eF gSort (aC (eV 1) aN)) aN))))))
def M_all_links : Mf := fnS 5 B_all_links
/- def links(net): -/
abbrev B_links : Ms := (sSeq (sDrop (eCall M_check_net (aC (eV 0) aN)))
    (sRet (eCall M_all_links (aC (eV 0) aN))))
def M_links : Mf := fnS 1 B_links
/- def is_link(net, value): -/
abbrev B_is_link : Ms := (sSeq (sIf (tNot (tAnd (tV gTru (eU (isT "tuple") (eV 1))) (tV gB (eB gEq (eF gLen (aC (eV 1) aN)) (eC (.int 2)))))) (sRet (eC (.bl false))) sNil)
    (sRet (eAnd (eF gAll (aC (eFz (vLc [2] (iV gIt (eV 1)) (gNm 2) tYs (eCall M_is_number (aC (eV 2) (aC (eC (.int 0)) (aC (eB gSub (eF gLen (aC (eB gIx (eV 0) (eC (.int 0))) aN)) (eC (.int 1))) aN)))))) aN)) (eB gIn (eB gIx (eV 1) (eC (.int 0))) (eB gIx (eB gIx (eV 0) (eC (.int 1))) (eB gIx (eV 1) (eC (.int 1))))))))
def M_is_link : Mf := fnS 3 B_is_link
/- def check_link(net, link, name): -/
abbrev B_check_link : Ms := (sDrop (eCall M_need (aC (eCall M_is_link (aC (eV 0) (aC (eV 1) aN))) (aC (eV 2) aN))))
def M_check_link : Mf := fnS 3 B_check_link
/- def spoilers(net, link, senders): -/
abbrev B_spoilers : Ms := (sSeq (sDrop (eCall M_check_net (aC (eV 0) aN)))
    (sSeq (sDrop (eCall M_check_link (aC (eV 0) (aC (eV 1) (aC (eC (.str (PySem.Str.ofString "link"))) aN)))))
    (sSeq (sDrop (eCall M_check_senders (aC (eV 0) (aC (eV 2) aN))))
    (sSeq (sAsg (eV 1) (gTp 2 (gsC (gNm 3) (gsC (gNm 4) gsN))))
    (sRet (eF gTupOf (aC (eFz (vLc [5] (iV gIt (eV 2)) (gNm 5) (tAnd (tV gB (eB gNe (eV 5) (eV 3))) (tOr (tV gB (eB gEq (eV 5) (eV 4))) (tV gB (eB gIn (eV 5) (eB gIx (eB gIx (eV 0) (eC (.int 1))) (eV 4)))))) (eV 5))) aN)))))))
def M_spoilers : Mf := fnS 6 B_spoilers
/- def _law_alike(found, due): -/
abbrev B__law_alike (Mr : Mf) : Ms := (sSeq (sIf (tV gTru (eU (isT "tuple") (eV 1))) (sSeq (sIf (tOr (tNot (tV gTru (eU (isT "tuple") (eV 0)))) (tV gB (eB gNe (eF gLen (aC (eV 0) aN)) (eF gLen (aC (eV 1) aN))))) (sRet (eC (.bl false))) sNil)
    (sRet (eB gEq (eFz (vLc [2] (iA gR1 (aC (eF gLen (aC (eV 1) aN)) aN)) (gNm 2) (tNot (tV gTru (eCall Mr (aC (eB gIx (eV 0) (eV 2)) (aC (eB gIx (eV 1) (eV 2)) aN))))) (eV 2))) (eF gLst aN)))) sNil)
    (sSeq (sIf (tOr (tV gB (eB gIsN (eV 1) (eC .non))) (tV gTru (eU (isT "str") (eV 1)))) (sRet (eAnd (eB gEq (eV 0) (eV 1)) (eB gEq (eU (isT "str") (eV 0)) (eU (isT "str") (eV 1))))) sNil)
    (sRet (eAnd (eU (isT "int") (eV 0)) (eAnd (eB gEq (eU (isT "bool") (eV 0)) (eU (isT "bool") (eV 1))) (eB gEq (eV 0) (eV 1)))))))
def M__law_alike : Nat → Mf
  | 0 => fun _ _ => none
  | n + 1 => fnS 3 (B__law_alike (M__law_alike n))
/- def clear_links(net, senders): -/
abbrev b_clear_links_0 : Ms := (sSeq (sSet 4 (eCall M_heard_by (aC (eV 0) (aC (eV 3) (aC (eV 1) aN)))))
    (sIf (tV gB (eB gGeI (eV 4) (eC (.int 0)))) (sP1 Ob.isL gApp (pO 2) (eF gTup (aC (eV 4) (aC (eV 3) aN)))) sNil))
abbrev B_clear_links : Ms := (sSeq (sSetV 2 (vL aN))
    (sSeq (sFor (iA gR1 (aC (eF gLen (aC (eB gIx (eV 0) (eC (.int 0))) aN)) aN)) (gNm 3) b_clear_links_0)
    (sFrz 2 (sRet (eF gTupOf (aC (eF gSort (aC (eV 2) aN)) aN))))))
def M_clear_links : Mf := fnS 5 B_clear_links
/- def clear(net, senders): -/
abbrev B_clear : Ms := (sSeq (sDrop (eCall M_check_net (aC (eV 0) aN)))
    (sSeq (sDrop (eCall M_check_senders (aC (eV 0) (aC (eV 1) aN))))
    (sRet (eCall M_clear_links (aC (eV 0) (aC (eV 1) aN))))))
def M_clear : Mf := fnS 2 B_clear
/- def law(script): -/
abbrev b_law_0 : Ms := (sSeq (sIf (tAnd (tV gB (eB gIn (eV 6) (eV 5))) (tV gB (eB gNe (eB gIx (eV 8) (eV 10)) (eB gIx (eV 9) (eV 10))))) (sRet (eC (.bl false))) sNil)
    (sSeq (sIf (tAnd (tV gB (eB gNi (eV 6) (eV 5))) (tV gB (eB gNe (eV 10) (eV 6)))) (sSeq (sSet 11 (eB gIn (eV 6) (eB gIx (eB gIx (eV 3) (eC (.int 1))) (eV 10))))
    (sSeq (sSet 12 (eB gIx (eV 8) (eV 10)))
    (sSeq (sIf (tAnd (tV gB (eB gNi (eV 10) (eV 5))) (tV gTru (eV 11))) (sSet 12 (eIf (tV gB (eB gEq (eB gIx (eV 8) (eV 10)) (eU gNeg (eC (.int 1))))) (eV 6) (eU gNeg (eC (.int 2))))) sNil)
    (sIf (tV gB (eB gNe (eB gIx (eV 9) (eV 10)) (eV 12))) (sRet (eC (.bl false))) sNil)))) sNil)
    (sIf (tAnd (tV gB (eB gEq (eV 10) (eV 6))) (tV gB (eB gNe (eB gIx (eV 9) (eV 10)) (eU gNeg (eC (.int 3)))))) (sRet (eC (.bl false))) sNil)))
abbrev b_law_1 : Ms := (sSeq (sSet 14 (eCall M_spoilers (aC (eV 3) (aC (eV 13) (aC (eV 7) aN)))))
    (sSeq (sIf (tNot (tV gTru (eCall (M__law_alike 4) (aC (eV 14) (aC (eF gTupOf (aC (eU gSU (eB gAdd (eCall M_spoilers (aC (eV 3) (aC (eV 13) (aC (eV 5) aN)))) (eCall M_spoilers (aC (eV 3) (aC (eV 13) (aC (eF gTup (aC (eV 6) aN)) aN)))))) aN)) aN))))) (sRet (eC (.bl false))) sNil)
    (sIf (tV gB (eB gNe (eB gIn (eV 13) (eCall M_clear (aC (eV 3) (aC (eV 7) aN)))) (eAnd (eB gIn (eB gIx (eV 13) (eC (.int 0))) (eV 7)) (eB gEq (eV 14) (eF gTup aN))))) (sRet (eC (.bl false))) sNil)))
abbrev b_law_2 : Ms := (sSeq (sSet 3 (eCall M__law_net (aC (eV 1) (aC (eC (.int 7)) aN))))
    (sSeq (sSet 4 (eF gLen (aC (eB gIx (eV 3) (eC (.int 0))) aN)))
    (sSeq (sSet 5 (eF gTupOf (aC (eFz (vLc [10] (iA gR1 (aC (eV 4) aN)) (gNm 10) (tV gB (eB gEq (eCall M__law_taken (aC (eV 1) (aC (eC (.int 3)) aN))) (eC (.int 0)))) (eV 10))) aN)))
    (sSeq (sSet 6 (eCall M__law_taken (aC (eV 1) (aC (eV 4) aN))))
    (sSeq (sSet 7 (eF gTupOf (aC (eU gSU (eB gAdd (eV 5) (eF gTup (aC (eV 6) aN)))) aN)))
    (sSeq (sPar [8, 9] (vCs (vI (eCall M_heard (aC (eV 3) (aC (eV 5) aN)))) (vCs (vI (eCall M_heard (aC (eV 3) (aC (eV 7) aN)))) vN)))
    (sSeq (sFor (iA gR1 (aC (eV 4) aN)) (gNm 10) b_law_0)
    (sSeq (sFor (iV gIt (eCall M_links (aC (eV 3) aN))) (gNm 13) b_law_1)
    (sSeq (sIf (tNot (tV gTru (eCall (M__law_alike 4) (aC (eCall M_clear (aC (eV 3) (aC (eF gTup (aC (eV 6) aN)) aN))) (aC (eF gTupOf (aC (eFz (vLc [17] (iV gIt (eCall M_links (aC (eV 3) aN))) (gNm 17) (tV gB (eB gEq (eB gIx (eV 17) (eC (.int 0))) (eV 6))) (eV 17))) aN)) aN))))) (sRet (eC (.bl false))) sNil)
    (sSeq (sIf (tOr (tV gB (eB gNe (eCall M_clear (aC (eV 3) (aC (eRT (mR1 (eV 4))) aN))) (eF gTup aN))) (tOr (tV gB (eB gNe (eCall M_clear (aC (eV 3) (aC (eF gTup aN) aN))) (eF gTup aN))) (tV gB (eB gNe (eFz (vLc [17] (iV gIt (eCall M_heard (aC (eV 3) (aC (eF gTup aN) aN)))) (gNm 17) (tV gB (eB gNe (eV 17) (eU gNeg (eC (.int 1))))) (eV 17))) (eF gLst aN))))) (sRet (eC (.bl false))) sNil)
    (sSeq (sSet 15 (eF gTupOf (aC (eFz (vLc [10] (iA gR1 (aC (eV 4) aN)) (gNm 10) (tV gB (eB gNi (eV 10) (eV 5))) (eV 10))) aN)))
    (sSeq (sSetV 16 (vLc [17] (iV gIt (eCall M_clear (aC (eV 3) (aC (eV 5) aN)))) (gNm 17) (tV gB (eB gIn (eV 17) (eCall M_clear (aC (eV 3) (aC (eV 15) aN))))) (eV 17)))
    (sFrz 16 (sIf (tOr (tV gB (eB gNe (eV 16) (eF gLst aN))) (tV gB (eB gGtI (eF gLen (aC (eCall M_clear (aC (eV 3) (aC (eV 5) aN))) aN)) (eF gLen (aC (eV 15) aN))))) (sRet (eC (.bl false))) sNil))))))))))))))
abbrev B_law : Ms := (sSeq (sNew 1 (aC (eV 0) (aC (eC (.int 0)) (aC (eC (.int 226021)) (aC (eC (.int 0)) aN)))))
    (sSeq (sFor (iA gR1 (aC (eC (.int 12)) aN)) (gNm 2) b_law_2)
    (sRet (eC (.bl true)))))
def M_law : Mf := fnS 18 B_law
/-! ### what the top has written -/
structure Txt (K : PySem.W.Frag) (mg : Str → Option Value) : Type where
  a__law_taken : Addr
  d__law_taken : FuncData
  F__law_taken : Fun K "_law_taken" "_law_taken" s__law_taken a__law_taken d__law_taken
  B__law_taken : Binds K d__law_taken ["row", "many"] []
  a__law_pick : Addr
  d__law_pick : FuncData
  F__law_pick : Fun K "_law_pick" "_law_pick" s__law_pick a__law_pick d__law_pick
  B__law_pick : Binds K d__law_pick ["row", "some"] []
  a__law_net : Addr
  d__law_net : FuncData
  F__law_net : Fun K "_law_net" "_law_net" s__law_net a__law_net d__law_net
  B__law_net : Binds K d__law_net ["row", "most"] []
  a_need : Addr
  d_need : FuncData
  F_need : Fun K "need" "need" s_need a_need d_need
  B_need : Binds K d_need ["is_valid", "name"] []
  a_are_letters : Addr
  d_are_letters : FuncData
  F_are_letters : Fun K "are_letters" "are_letters" s_are_letters a_are_letters d_are_letters
  B_are_letters : Binds K d_are_letters ["value"] []
  a_is_number : Addr
  d_is_number : FuncData
  F_is_number : Fun K "is_number" "is_number" s_is_number a_is_number d_is_number
  B_is_number : Binds K d_is_number ["value", "least", "most"] []
  a_is_rising : Addr
  d_is_rising : FuncData
  F_is_rising : Fun K "is_rising" "is_rising" s_is_rising a_is_rising d_is_rising
  B_is_rising : Binds K d_is_rising ["row"] []
  a_is_station_row : Addr
  d_is_station_row : FuncData
  F_is_station_row : Fun K "is_station_row" "is_station_row" s_is_station_row a_is_station_row d_is_station_row
  B_is_station_row : Binds K d_is_station_row ["value", "many"] []
  a_is_net : Addr
  d_is_net : FuncData
  F_is_net : Fun K "is_net" "is_net" s_is_net a_is_net d_is_net
  B_is_net : Binds K d_is_net ["value"] []
  a_check_net : Addr
  d_check_net : FuncData
  F_check_net : Fun K "check_net" "check_net" s_check_net a_check_net d_check_net
  B_check_net : Binds K d_check_net ["net"] []
  a_check_senders : Addr
  d_check_senders : FuncData
  F_check_senders : Fun K "check_senders" "check_senders" s_check_senders a_check_senders d_check_senders
  B_check_senders : Binds K d_check_senders ["net", "senders"] []
  a_heard_by : Addr
  d_heard_by : FuncData
  F_heard_by : Fun K "heard_by" "heard_by" s_heard_by a_heard_by d_heard_by
  B_heard_by : Binds K d_heard_by ["net", "station", "senders"] []
  a_heard : Addr
  d_heard : FuncData
  F_heard : Fun K "heard" "heard" s_heard a_heard d_heard
  B_heard : Binds K d_heard ["net", "senders"] []
  a_all_links : Addr
  d_all_links : FuncData
  F_all_links : Fun K "all_links" "all_links" s_all_links a_all_links d_all_links
  B_all_links : Binds K d_all_links ["net"] []
  a_links : Addr
  d_links : FuncData
  F_links : Fun K "links" "links" s_links a_links d_links
  B_links : Binds K d_links ["net"] []
  a_is_link : Addr
  d_is_link : FuncData
  F_is_link : Fun K "is_link" "is_link" s_is_link a_is_link d_is_link
  B_is_link : Binds K d_is_link ["net", "value"] []
  a_check_link : Addr
  d_check_link : FuncData
  F_check_link : Fun K "check_link" "check_link" s_check_link a_check_link d_check_link
  B_check_link : Binds K d_check_link ["net", "link", "name"] []
  a_spoilers : Addr
  d_spoilers : FuncData
  F_spoilers : Fun K "spoilers" "spoilers" s_spoilers a_spoilers d_spoilers
  B_spoilers : Binds K d_spoilers ["net", "link", "senders"] []
  a__law_alike : Addr
  d__law_alike : FuncData
  F__law_alike : Fun K "_law_alike" "_law_alike" s__law_alike a__law_alike d__law_alike
  B__law_alike : Binds K d__law_alike ["found", "due"] []
  a_clear_links : Addr
  d_clear_links : FuncData
  F_clear_links : Fun K "clear_links" "clear_links" s_clear_links a_clear_links d_clear_links
  B_clear_links : Binds K d_clear_links ["net", "senders"] []
  a_clear : Addr
  d_clear : FuncData
  F_clear : Fun K "clear" "clear" s_clear a_clear d_clear
  B_clear : Binds K d_clear ["net", "senders"] []
  m__law_net : mg "_law_net" = some (.ref a__law_net)
  m__law_taken : mg "_law_taken" = some (.ref a__law_taken)
  m_heard : mg "heard" = some (.ref a_heard)
  m_links : mg "links" = some (.ref a_links)
  m_spoilers : mg "spoilers" = some (.ref a_spoilers)
  m__law_alike : mg "_law_alike" = some (.ref a__law_alike)
  m_clear : mg "clear" = some (.ref a_clear)
  m__law_pick : mg "_law_pick" = some (.ref a__law_pick)
  m_check_net : mg "check_net" = some (.ref a_check_net)
  m_check_senders : mg "check_senders" = some (.ref a_check_senders)
  m_heard_by : mg "heard_by" = some (.ref a_heard_by)
  m_need : mg "need" = some (.ref a_need)
  m_is_net : mg "is_net" = some (.ref a_is_net)
  m_are_letters : mg "are_letters" = some (.ref a_are_letters)
  m_is_station_row : mg "is_station_row" = some (.ref a_is_station_row)
  m_is_number : mg "is_number" = some (.ref a_is_number)
  m_is_rising : mg "is_rising" = some (.ref a_is_rising)
  m_all_links : mg "all_links" = some (.ref a_all_links)
  m_check_link : mg "check_link" = some (.ref a_check_link)
  m_is_link : mg "is_link" = some (.ref a_is_link)
  m_clear_links : mg "clear_links" = some (.ref a_clear_links)
  t_MOST_STATIONS : Tok
  c_MOST_STATIONS : mg "MOST_STATIONS" = some (.int 7 t_MOST_STATIONS)
  t_LETTERS : Tok
  c_LETTERS : mg "LETTERS" = some (.str (PySem.Str.ofString "abcdefg") t_LETTERS)
  t_SENDS : Tok
  c_SENDS : mg "SENDS" = some (.int (-3) t_SENDS)
  t_NOISE : Tok
  c_NOISE : mg "NOISE" = some (.int (-2) t_NOISE)
  t_SILENCE : Tok
  c_SILENCE : mg "SILENCE" = some (.int (-1) t_SILENCE)
  z_all : mg "all" = none
  z_bool : mg "bool" = none
  z_enumerate : mg "enumerate" = none
  z_int : mg "int" = none
  z_isinstance : mg "isinstance" = none
  z_len : mg "len" = none
  z_range : mg "range" = none
  z_set : mg "set" = none
  z_sorted : mg "sorted" = none
  z_str : mg "str" = none
  z_tuple : mg "tuple" = none
  z_zip : mg "zip" = none
variable {P : Program} {w : World} {K : PySem.W.Frag} {mg : Str → Option Value} {base : Heap} {CA : Str → Addr}
theorem ok__law_taken (T : Txt K mg) : FnOk P w K mg base CX0 2 T.a__law_taken T.d__law_taken ["row", "many"] (spD ⟨K, CA⟩ 2 M__law_taken) :=
  jok T.F__law_taken sc__law_taken fun cdv A outer s H E hr => have hu := hr.units; ((jss_cons (js_if (jt_cmp op_gt o_gtI (je_ixP (jp_r (je_v 0)) je_int) je_int (by with_unfolding_all rfl)) (jss_cons (js_set (i := 2) sc__law_taken.nd rfl (by first | exact .inl rfl | exact .inr rfl) (je_op op_mod o_mod (je_callTy call_int1 f_int (by rfl) T.z_int (by decide +kernel) (ja_cons (je_ixP (jp_r (je_v 0)) je_int) ja_nil)) (je_v 1)))
    (jss_cons (js_put (je_op op_fdiv o_div (je_ixP (jp_r (je_v 0)) je_int) (je_v 1)) (jp_r (je_v 0)) je_int)
    (jss_one (js_ret (je_v 2))))) jss_nil)
    (jss_cons (js_put (je_op op_addJ o_add (je_ixP (jp_r (je_v 0)) je_int) je_int) (jp_r (je_v 0)) je_int)
    (jss_cons (js_if (jt_cmp op_gt o_gtI (je_ixP (jp_r (je_v 0)) je_int) (je_callB call_len f_len (by rfl) T.z_len (by decide +kernel) (ja_cons (je_ixP (jp_r (je_v 0)) je_int) ja_nil)) (by with_unfolding_all rfl)) (jss_cons (js_put (je_op op_mod o_mod (je_callTy call_int1 f_int (by rfl) T.z_int (by decide +kernel) (ja_cons (je_op op_addJ o_add (je_op op_mulJ o_mulA (je_ixP (jp_r (je_v 0)) je_int) je_int) je_int) ja_nil)) je_int) (jp_r (je_v 0)) je_int)
    (jss_one (js_ret (je_op op_mod o_mod (je_callTy call_int1 f_int (by rfl) T.z_int (by decide +kernel) (ja_cons (je_op op_fdiv o_div (je_ixP (jp_r (je_v 0)) je_int) je_int) ja_nil)) (je_v 1))))) jss_nil)
    (jss_cons (js_set (i := 3) sc__law_taken.nd rfl (by first | exact .inl rfl | exact .inr rfl) (je_ix ix_seq o_ix (je_ixP (jp_r (je_v 0)) je_int) (je_op op_sub o_sub (je_ixP (jp_r (je_v 0)) je_int) je_int)))
    (jss_cons (js_put (je_op op_mod o_mod (je_callTy call_int1 f_int (by rfl) T.z_int (by decide +kernel) (ja_cons (je_op op_addJ o_add (je_op op_addJ o_add (je_op op_mulJ o_mulA (je_ixP (jp_r (je_v 0)) je_int) je_int) (je_callTy call_int1 f_int (by rfl) T.z_int (by decide +kernel) (ja_cons (je_v 3) ja_nil))) je_int) ja_nil)) je_int) (jp_r (je_v 0)) je_int)
    (jss_cons (js_if (jt_cmp op_ge o_geI (je_v 3) (je_op op_pow o_pow je_int je_int) (by with_unfolding_all rfl)) (jss_one (js_put (je_op op_fdiv o_div (je_callTy call_int1 f_int (by rfl) T.z_int (by decide +kernel) (ja_cons (je_op op_mod o_mod (je_callTy call_int1 f_int (by rfl) T.z_int (by decide +kernel) (ja_cons (je_v 3) ja_nil)) (je_op op_pow o_pow je_int je_int)) ja_nil)) (je_v 1)) (jp_r (je_v 0)) je_int)) jss_nil)
    (jss_one (js_ret (je_op op_mod o_mod (je_callTy call_int1 f_int (by rfl) T.z_int (by decide +kernel) (ja_cons (je_v 3) ja_nil)) (je_v 1)))))))))) : JSs CA (cxOf CX0 P w K mg base _ _ _ _ cdv A outer s H E).nox (defBody s__law_taken) B__law_taken)
theorem ok__law_pick (T : Txt K mg) : FnOk P w K mg base CX0 3 T.a__law_pick T.d__law_pick ["row", "some"] (spD ⟨K, CA⟩ 2 M__law_pick) :=
  jok T.F__law_pick sc__law_pick fun cdv A outer s H E hr => have hu := hr.units; ((jss_one (js_ret (je_ix ix_seq o_ix (je_v 1) (je_call (ok__law_taken T) (hr.mono (by omega)) (by rfl) T.m__law_taken T.F__law_taken.kp T.B__law_taken (aC_len (aC_len aN_len)) (ja_cons (je_v 0) (ja_cons (je_callB call_len f_len (by rfl) T.z_len (by decide +kernel) (ja_cons (je_v 1) ja_nil)) ja_nil)))))) : JSs CA (cxOf CX0 P w K mg base _ _ _ _ cdv A outer s H E).nox (defBody s__law_pick) B__law_pick)
theorem ok__law_net (T : Txt K mg) : FnOk P w K mg base CX0 4 T.a__law_net T.d__law_net ["row", "most"] (spD ⟨K, CA⟩ 2 M__law_net) :=
  jok T.F__law_net sc__law_net fun cdv A outer s H E hr => have hu := hr.units; ((jss_cons (js_set (i := 2) sc__law_net.nd rfl (by first | exact .inl rfl | exact .inr rfl) (je_op op_addJ o_add je_int (je_call (ok__law_taken T) (hr.mono (by omega)) (by rfl) T.m__law_taken T.F__law_taken.kp T.B__law_taken (aC_len (aC_len aN_len)) (ja_cons (je_v 0) (ja_cons (je_v 1) ja_nil)))))
    (jss_cons (by first | exact js_par2 (i := 3) (j := 4) rfl sc__law_net.nd rfl rfl (by decide) rfl rfl (jvs_cons (jv_im (je_call (ok__law_pick T) (hr.mono (by omega)) (by rfl) T.m__law_pick T.F__law_pick.kp T.B__law_pick (aC_len (aC_len aN_len)) (ja_cons (je_v 0) (ja_cons (je_lst (ja_cons je_str (ja_cons je_str (ja_cons je_str (ja_cons je_str (ja_cons je_str ja_nil)))))) ja_nil)))) (jvs_cons (jv_lst ja_nil) jvs_nil)) | exact js_parN (is := [3, 4]) rfl (jvs_cons (jv_im (je_call (ok__law_pick T) (hr.mono (by omega)) (by rfl) T.m__law_pick T.F__law_pick.kp T.B__law_pick (aC_len (aC_len aN_len)) (ja_cons (je_v 0) (ja_cons (je_lst (ja_cons je_str (ja_cons je_str (ja_cons je_str (ja_cons je_str (ja_cons je_str ja_nil)))))) ja_nil)))) (jvs_cons (jv_lst ja_nil) jvs_nil)) (pgs_cons (pg_name (i := 3) sc__law_net.nd rfl (by first | exact .inl rfl | exact .inr rfl)) (pgs_cons (pg_name (i := 4) sc__law_net.nd rfl (by first | exact .inl rfl | exact .inr rfl)) pgs_nil)))
    (jss_cons (js_set (i := 5) sc__law_net.nd rfl (by first | exact .inl rfl | exact .inr rfl) (je_join je_str (je_fz (jv_lc (own := [("at", 6)]) rfl sc__law_net.nd (ji_r1 (by rfl) T.z_range (ja_cons (je_v 2) ja_nil)) (blkOk_by (N := ["row", "most", "many", "letters", "ears", "labels", "at", "bits", "thin", "some", "own"]) (sc := defScope s__law_net) (own := [("at", 6)]) (by decide +kernel)) (fun _ _ _ _ _ => (jg_name (i := 6) sc__law_net.nd rfl (by first | exact .inl rfl | exact .inr rfl))) (fun _ _ _ _ _ => jts_nil) (fun _ _ _ _ _ => (je_call (ok__law_pick T) (hr.mono (by omega)) (by rfl) T.m__law_pick T.F__law_pick.kp T.B__law_pick (aC_len (aC_len aN_len)) (ja_cons (je_v 0) (ja_cons (je_v 3) ja_nil))))))))
    (jss_cons (js_if (jt_cmp (op_eqJ hu) o_eq (je_call (ok__law_taken T) (hr.mono (by omega)) (by rfl) T.m__law_taken T.F__law_taken.kp T.B__law_taken (aC_len (aC_len aN_len)) (ja_cons (je_v 0) (ja_cons je_int ja_nil))) je_int (by with_unfolding_all rfl)) (jss_one (js_set (i := 5) sc__law_net.nd rfl (by first | exact .inl rfl | exact .inr rfl) (je_slice je_str jo_none (jo_some (je_v 2))))) jss_nil)
    (jss_cons (js_for PassesOwn.never rfl (ji_r1 (by rfl) T.z_range (ja_cons (je_v 2) ja_nil)) (jg_name (i := 6) sc__law_net.nd rfl (by first | exact .inl rfl | exact .inr rfl)) (jss_cons (by first | exact js_par2 (i := 7) (j := 8) rfl sc__law_net.nd rfl rfl (by decide) rfl rfl (jvs_cons (jv_im (je_call (ok__law_taken T) (hr.mono (by omega)) (by rfl) T.m__law_taken T.F__law_taken.kp T.B__law_taken (aC_len (aC_len aN_len)) (ja_cons (je_v 0) (ja_cons je_int ja_nil)))) (jvs_cons (jv_im (je_if (jt_cmp (op_eqJ hu) o_eq (je_call (ok__law_taken T) (hr.mono (by omega)) (by rfl) T.m__law_taken T.F__law_taken.kp T.B__law_taken (aC_len (aC_len aN_len)) (ja_cons (je_v 0) (ja_cons je_int ja_nil))) je_int (by with_unfolding_all rfl)) (je_call (ok__law_taken T) (hr.mono (by omega)) (by rfl) T.m__law_taken T.F__law_taken.kp T.B__law_taken (aC_len (aC_len aN_len)) (ja_cons (je_v 0) (ja_cons je_int ja_nil))) je_int)) jvs_nil)) | exact js_parN (is := [7, 8]) rfl (jvs_cons (jv_im (je_call (ok__law_taken T) (hr.mono (by omega)) (by rfl) T.m__law_taken T.F__law_taken.kp T.B__law_taken (aC_len (aC_len aN_len)) (ja_cons (je_v 0) (ja_cons je_int ja_nil)))) (jvs_cons (jv_im (je_if (jt_cmp (op_eqJ hu) o_eq (je_call (ok__law_taken T) (hr.mono (by omega)) (by rfl) T.m__law_taken T.F__law_taken.kp T.B__law_taken (aC_len (aC_len aN_len)) (ja_cons (je_v 0) (ja_cons je_int ja_nil))) je_int (by with_unfolding_all rfl)) (je_call (ok__law_taken T) (hr.mono (by omega)) (by rfl) T.m__law_taken T.F__law_taken.kp T.B__law_taken (aC_len (aC_len aN_len)) (ja_cons (je_v 0) (ja_cons je_int ja_nil))) je_int)) jvs_nil)) (pgs_cons (pg_name (i := 7) sc__law_net.nd rfl (by first | exact .inl rfl | exact .inr rfl)) (pgs_cons (pg_name (i := 8) sc__law_net.nd rfl (by first | exact .inl rfl | exact .inr rfl)) pgs_nil)))
    (jss_cons (by first | exact js_setLc (own := [("own", 10)]) (i := 9) rfl sc__law_net.nd rfl rfl rfl (ji_r1 (by rfl) T.z_range (ja_cons (je_v 2) ja_nil)) (blkOk_by (N := ["row", "most", "many", "letters", "ears", "labels", "at", "bits", "thin", "some", "own"]) (sc := defScope s__law_net) (own := [("own", 10)]) (by decide +kernel)) (fun _ _ _ _ _ => (jg_name (i := 10) sc__law_net.nd rfl (by first | exact .inl rfl | exact .inr rfl))) (fun _ _ _ _ _ => (jts_one (jt_cmp (op_eqJ hu) o_eq (je_op op_mod o_mod (je_callTy call_int1 f_int (by rfl) T.z_int (by decide +kernel) (ja_cons (je_op op_fdiv o_div (je_v 7) (je_ix ix_seq o_ix (je_tup (ja_cons je_int (ja_cons je_int (ja_cons je_int (ja_cons je_int (ja_cons je_int (ja_cons je_int (ja_cons je_int ja_nil)))))))) (je_v 10))) ja_nil)) je_int) je_int (by with_unfolding_all rfl)))) (fun _ _ _ _ _ => (je_v 10)) | exact js_setV (i := 9) sc__law_net.nd rfl (by first | exact .inl rfl | exact .inr rfl) (jv_lc (own := [("own", 10)]) rfl sc__law_net.nd (ji_r1 (by rfl) T.z_range (ja_cons (je_v 2) ja_nil)) (blkOk_by (N := ["row", "most", "many", "letters", "ears", "labels", "at", "bits", "thin", "some", "own"]) (sc := defScope s__law_net) (own := [("own", 10)]) (by decide +kernel)) (fun _ _ _ _ _ => (jg_name (i := 10) sc__law_net.nd rfl (by first | exact .inl rfl | exact .inr rfl))) (fun _ _ _ _ _ => (jts_one (jt_cmp (op_eqJ hu) o_eq (je_op op_mod o_mod (je_callTy call_int1 f_int (by rfl) T.z_int (by decide +kernel) (ja_cons (je_op op_fdiv o_div (je_v 7) (je_ix ix_seq o_ix (je_tup (ja_cons je_int (ja_cons je_int (ja_cons je_int (ja_cons je_int (ja_cons je_int (ja_cons je_int (ja_cons je_int ja_nil)))))))) (je_v 10))) ja_nil)) je_int) je_int (by with_unfolding_all rfl)))) (fun _ _ _ _ _ => (je_v 10))))
    (jss_one (js_frz 9 (js_app (jp_o 4) (je_callTy call_tuple_of f_tuple (by rfl) T.z_tuple (by decide +kernel) (ja_cons (je_fz (jv_lc (own := [("own", 10)]) rfl sc__law_net.nd (ji_any (je_v 9)) (blkOk_by (N := ["row", "most", "many", "letters", "ears", "labels", "at", "bits", "thin", "some", "own"]) (sc := defScope s__law_net) (own := [("own", 10)]) (by decide +kernel)) (fun _ _ _ _ _ => (jg_name (i := 10) sc__law_net.nd rfl (by first | exact .inl rfl | exact .inr rfl))) (fun _ _ _ _ _ => (jts_one (jt_w (jw_and (jt_cmp (op_neJ hu) o_ne (je_v 10) (je_v 6) (by with_unfolding_all rfl)) (jw_and1 (jt_cmp (op_eqJ hu) o_eq (je_op op_mod o_mod (je_callTy call_int1 f_int (by rfl) T.z_int (by decide +kernel) (ja_cons (je_op op_fdiv o_div (je_v 8) (je_ix ix_seq o_ix (je_tup (ja_cons je_int (ja_cons je_int (ja_cons je_int (ja_cons je_int (ja_cons je_int (ja_cons je_int (ja_cons je_int ja_nil)))))))) (je_v 10))) ja_nil)) je_int) je_int (by with_unfolding_all rfl))))))) (fun _ _ _ _ _ => (je_v 10)))) ja_nil))))))))
    (jss_one (js_frz 4 (js_ret (je_tup (ja_cons (je_v 5) (ja_cons (je_callTy call_tuple_of f_tuple (by rfl) T.z_tuple (by decide +kernel) (ja_cons (je_v 4) ja_nil)) ja_nil))))))))))) : JSs CA (cxOf CX0 P w K mg base _ _ _ _ cdv A outer s H E).nox (defBody s__law_net) B__law_net)
theorem ok_need (T : Txt K mg) : FnOk P w K mg base CX0 2 T.a_need T.d_need ["is_valid", "name"] (spD ⟨K, CA⟩ 2 M_need) :=
  jok T.F_need sc_need fun cdv A outer s H E hr => have hu := hr.units; ((jss_one (js_if (jt_not (jt_tru (je_v 0))) (jss_one js_never) jss_nil)) : JSs CA (cxOf CX0 P w K mg base _ _ _ _ cdv A outer s H E).nox (defBody s_need) B_need)
theorem ok_are_letters (T : Txt K mg) : FnOk P w K mg base CX0 2 T.a_are_letters T.d_are_letters ["value"] (spD ⟨K, CA⟩ 1 M_are_letters) :=
  jok T.F_are_letters sc_are_letters fun cdv A outer s H E hr => have hu := hr.units; ((jss_one (js_ret (je_and (je_isi (by decide) (je_v 0) (by rfl) T.z_isinstance (by rfl) T.z_str (by decide +kernel)) (je_one (je_callB (cr_all rfl) f_all (by rfl) T.z_all (by decide +kernel) (ja_cons (je_fz (jv_lc (own := [("own", 1)]) rfl sc_are_letters.nd (ji_any (je_v 0)) (blkOk_by (N := ["value", "own"]) (sc := defScope s_are_letters) (own := [("own", 1)]) (by decide +kernel)) (fun _ _ _ _ _ => (jg_name (i := 1) sc_are_letters.nd rfl (by first | exact .inl rfl | exact .inr rfl))) (fun _ _ _ _ _ => jts_nil) (fun _ _ _ _ _ => (je_cmp (op_inJ hu) o_in (je_v 1) (je_gs (by rfl) T.c_LETTERS ⟨_, rfl⟩) (by with_unfolding_all rfl))))) ja_nil)))))) : JSs CA (cxOf CX0 P w K mg base _ _ _ _ cdv A outer s H E).nox (defBody s_are_letters) B_are_letters)
theorem ok_is_number (T : Txt K mg) : FnOk P w K mg base CX0 2 T.a_is_number T.d_is_number ["value", "least", "most"] (spD ⟨K, CA⟩ 3 M_is_number) :=
  jok T.F_is_number sc_is_number fun cdv A outer s H E hr => have hu := hr.units; ((jss_one (js_ret (je_and (je_isi (by decide) (je_v 0) (by rfl) T.z_isinstance (by rfl) T.z_int (by decide +kernel)) (je_and (je_not (je_isi (by decide) (je_v 0) (by rfl) T.z_isinstance (by rfl) T.z_bool (by decide +kernel))) (je_one (je_chain op_leJ op_leJ o_le o_le (je_v 1) (je_v 0) (je_v 2))))))) : JSs CA (cxOf CX0 P w K mg base _ _ _ _ cdv A outer s H E).nox (defBody s_is_number) B_is_number)
theorem ok_is_rising (T : Txt K mg) : FnOk P w K mg base CX0 2 T.a_is_rising T.d_is_rising ["row"] (spD ⟨K, CA⟩ 1 M_is_rising) :=
  jok T.F_is_rising sc_is_rising fun cdv A outer s H E hr => have hu := hr.units; ((jss_one (js_ret (je_callB (cr_all rfl) f_all (by rfl) T.z_all (by decide +kernel) (ja_cons (je_fz (jv_lc (own := [("one", 1), ("other", 2)]) rfl sc_is_rising.nd (ji_zip (by rfl) T.z_zip (ja_cons (je_v 0) (ja_cons (je_slice (je_v 0) (jo_some je_int) jo_none) ja_nil))) (blkOk_by (N := ["row", "one", "other"]) (sc := defScope s_is_rising) (own := [("one", 1), ("other", 2)]) (by decide +kernel)) (fun _ _ _ _ _ => (jg_tup rfl (jgs_cons (jg_name (i := 1) sc_is_rising.nd rfl (by first | exact .inl rfl | exact .inr rfl)) (jgs_cons (jg_name (i := 2) sc_is_rising.nd rfl (by first | exact .inl rfl | exact .inr rfl)) jgs_nil)))) (fun _ _ _ _ _ => jts_nil) (fun _ _ _ _ _ => (je_cmp (op_ltJ hu) o_lt (je_v 1) (je_v 2) (by with_unfolding_all rfl))))) ja_nil)))) : JSs CA (cxOf CX0 P w K mg base _ _ _ _ cdv A outer s H E).nox (defBody s_is_rising) B_is_rising)
theorem ok_is_station_row (T : Txt K mg) : FnOk P w K mg base CX0 3 T.a_is_station_row T.d_is_station_row ["value", "many"] (spD ⟨K, CA⟩ 2 M_is_station_row) :=
  jok T.F_is_station_row sc_is_station_row fun cdv A outer s H E hr => have hu := hr.units; ((jss_one (js_ret (je_and (je_isi (by decide) (je_v 0) (by rfl) T.z_isinstance (by rfl) T.z_tuple (by decide +kernel)) (je_and (je_callB (cr_all rfl) f_all (by rfl) T.z_all (by decide +kernel) (ja_cons (je_fz (jv_lc (own := [("own", 2)]) rfl sc_is_station_row.nd (ji_any (je_v 0)) (blkOk_by (N := ["value", "many", "own"]) (sc := defScope s_is_station_row) (own := [("own", 2)]) (by decide +kernel)) (fun _ _ _ _ _ => (jg_name (i := 2) sc_is_station_row.nd rfl (by first | exact .inl rfl | exact .inr rfl))) (fun _ _ _ _ _ => jts_nil) (fun _ _ _ _ _ => (je_call (ok_is_number T) (hr.mono (by omega)) (by rfl) T.m_is_number T.F_is_number.kp T.B_is_number (aC_len (aC_len (aC_len aN_len))) (ja_cons (je_v 2) (ja_cons je_int (ja_cons (je_op op_sub o_sub (je_v 1) je_int) ja_nil))))))) ja_nil)) (je_one (je_call (ok_is_rising T) (hr.mono (by omega)) (by rfl) T.m_is_rising T.F_is_rising.kp T.B_is_rising (aC_len aN_len) (ja_cons (je_v 0) ja_nil))))))) : JSs CA (cxOf CX0 P w K mg base _ _ _ _ cdv A outer s H E).nox (defBody s_is_station_row) B_is_station_row)
theorem ok_is_net (T : Txt K mg) : FnOk P w K mg base CX0 4 T.a_is_net T.d_is_net ["value"] (spD ⟨K, CA⟩ 1 M_is_net) :=
  jok T.F_is_net sc_is_net fun cdv A outer s H E hr => have hu := hr.units; ((jss_cons (js_if (jt_not (jt_w (jw_and (jt_tru (je_isi (by decide) (je_v 0) (by rfl) T.z_isinstance (by rfl) T.z_tuple (by decide +kernel))) (jw_and1 (jt_cmp (op_eqJ hu) o_eq (je_callB call_len f_len (by rfl) T.z_len (by decide +kernel) (ja_cons (je_v 0) ja_nil)) je_int (by with_unfolding_all rfl)))))) (jss_one (js_ret je_bl)) jss_nil)
    (jss_cons (js_asg (je_v 0) (jg_tup rfl (jgs_cons (jg_name (i := 1) sc_is_net.nd rfl (by first | exact .inl rfl | exact .inr rfl)) (jgs_cons (jg_name (i := 2) sc_is_net.nd rfl (by first | exact .inl rfl | exact .inr rfl)) jgs_nil))))
    (jss_cons (js_if (jt_w (jw_or (jt_not (jt_tru (je_call (ok_are_letters T) (hr.mono (by omega)) (by rfl) T.m_are_letters T.F_are_letters.kp T.B_are_letters (aC_len aN_len) (ja_cons (je_v 1) ja_nil)))) (jw_or1 (jt_not (jt_chain op_leJ op_leJ o_le o_le je_int (je_callB call_len f_len (by rfl) T.z_len (by decide +kernel) (ja_cons (je_v 1) ja_nil)) (je_gi (by rfl) T.c_MOST_STATIONS ⟨_, rfl⟩)))))) (jss_one (js_ret je_bl)) jss_nil)
    (jss_cons (js_if (jt_not (jt_w (jw_and (jt_tru (je_isi (by decide) (je_v 2) (by rfl) T.z_isinstance (by rfl) T.z_tuple (by decide +kernel))) (jw_and1 (jt_cmp (op_eqJ hu) o_eq (je_callB call_len f_len (by rfl) T.z_len (by decide +kernel) (ja_cons (je_v 2) ja_nil)) (je_callB call_len f_len (by rfl) T.z_len (by decide +kernel) (ja_cons (je_v 1) ja_nil)) (by with_unfolding_all rfl)))))) (jss_one (js_ret je_bl)) jss_nil)
    (jss_one (js_ret (je_callB (cr_all rfl) f_all (by rfl) T.z_all (by decide +kernel) (ja_cons (je_fz (jv_lc (own := [("at", 3), ("own", 4)]) rfl sc_is_net.nd (ji_en (by rfl) T.z_enumerate (ja_cons (je_v 2) ja_nil)) (blkOk_by (N := ["value", "labels", "ears", "at", "own"]) (sc := defScope s_is_net) (own := [("at", 3), ("own", 4)]) (by decide +kernel)) (fun _ _ _ _ _ => (jg_tup rfl (jgs_cons (jg_name (i := 3) sc_is_net.nd rfl (by first | exact .inl rfl | exact .inr rfl)) (jgs_cons (jg_name (i := 4) sc_is_net.nd rfl (by first | exact .inl rfl | exact .inr rfl)) jgs_nil)))) (fun _ _ _ _ _ => jts_nil) (fun _ _ _ _ _ => (je_and (je_call (ok_is_station_row T) (hr.mono (by omega)) (by rfl) T.m_is_station_row T.F_is_station_row.kp T.B_is_station_row (aC_len (aC_len aN_len)) (ja_cons (je_v 4) (ja_cons (je_callB call_len f_len (by rfl) T.z_len (by decide +kernel) (ja_cons (je_v 1) ja_nil)) ja_nil))) (je_one (je_cmp (op_niJ hu) o_ni (je_v 3) (je_v 4) (by with_unfolding_all rfl))))))) ja_nil)))))))) : JSs CA (cxOf CX0 P w K mg base _ _ _ _ cdv A outer s H E).nox (defBody s_is_net) B_is_net)
theorem ok_check_net (T : Txt K mg) : FnOk P w K mg base CX0 5 T.a_check_net T.d_check_net ["net"] (spD ⟨K, CA⟩ 1 M_check_net) :=
  jok T.F_check_net sc_check_net fun cdv A outer s H E hr => have hu := hr.units; ((jss_one (js_expr (je_call (ok_need T) (hr.mono (by omega)) (by rfl) T.m_need T.F_need.kp T.B_need (aC_len (aC_len aN_len)) (ja_cons (je_call (ok_is_net T) (hr.mono (by omega)) (by rfl) T.m_is_net T.F_is_net.kp T.B_is_net (aC_len aN_len) (ja_cons (je_v 0) ja_nil)) (ja_cons je_str ja_nil))))) : JSs CA (cxOf CX0 P w K mg base _ _ _ _ cdv A outer s H E).nox (defBody s_check_net) B_check_net)
theorem ok_check_senders (T : Txt K mg) : FnOk P w K mg base CX0 4 T.a_check_senders T.d_check_senders ["net", "senders"] (spD ⟨K, CA⟩ 2 M_check_senders) :=
  jok T.F_check_senders sc_check_senders fun cdv A outer s H E hr => have hu := hr.units; ((jss_one (js_expr (je_call (ok_need T) (hr.mono (by omega)) (by rfl) T.m_need T.F_need.kp T.B_need (aC_len (aC_len aN_len)) (ja_cons (je_call (ok_is_station_row T) (hr.mono (by omega)) (by rfl) T.m_is_station_row T.F_is_station_row.kp T.B_is_station_row (aC_len (aC_len aN_len)) (ja_cons (je_v 1) (ja_cons (je_callB call_len f_len (by rfl) T.z_len (by decide +kernel) (ja_cons (je_ix ix_seq o_ix (je_v 0) je_int) ja_nil)) ja_nil))) (ja_cons je_str ja_nil))))) : JSs CA (cxOf CX0 P w K mg base _ _ _ _ cdv A outer s H E).nox (defBody s_check_senders) B_check_senders)
theorem ok_heard_by (T : Txt K mg) : FnOk P w K mg base CX0 2 T.a_heard_by T.d_heard_by ["net", "station", "senders"] (spD ⟨K, CA⟩ 3 M_heard_by) :=
  jok T.F_heard_by sc_heard_by fun cdv A outer s H E hr => have hu := hr.units; ((jss_cons (js_if (jt_cmp (op_inJ hu) o_in (je_v 1) (je_v 2) (by with_unfolding_all rfl)) (jss_one (js_ret (je_gi (by rfl) T.c_SENDS ⟨_, rfl⟩))) jss_nil)
    (jss_cons (by first | exact js_setLc (own := [("own", 4)]) (i := 3) rfl sc_heard_by.nd rfl rfl rfl (ji_any (je_ix ix_seq o_ix (je_ix ix_seq o_ix (je_v 0) je_int) (je_v 1))) (blkOk_by (N := ["net", "station", "senders", "some", "own"]) (sc := defScope s_heard_by) (own := [("own", 4)]) (by decide +kernel)) (fun _ _ _ _ _ => (jg_name (i := 4) sc_heard_by.nd rfl (by first | exact .inl rfl | exact .inr rfl))) (fun _ _ _ _ _ => (jts_one (jt_cmp (op_inJ hu) o_in (je_v 4) (je_v 2) (by with_unfolding_all rfl)))) (fun _ _ _ _ _ => (je_v 4)) | exact js_setV (i := 3) sc_heard_by.nd rfl (by first | exact .inl rfl | exact .inr rfl) (jv_lc (own := [("own", 4)]) rfl sc_heard_by.nd (ji_any (je_ix ix_seq o_ix (je_ix ix_seq o_ix (je_v 0) je_int) (je_v 1))) (blkOk_by (N := ["net", "station", "senders", "some", "own"]) (sc := defScope s_heard_by) (own := [("own", 4)]) (by decide +kernel)) (fun _ _ _ _ _ => (jg_name (i := 4) sc_heard_by.nd rfl (by first | exact .inl rfl | exact .inr rfl))) (fun _ _ _ _ _ => (jts_one (jt_cmp (op_inJ hu) o_in (je_v 4) (je_v 2) (by with_unfolding_all rfl)))) (fun _ _ _ _ _ => (je_v 4))))
    (jss_cons (js_if (jt_cmp (op_eqJ hu) o_eq (je_lenP (by rfl) T.z_len (jp_o 3)) je_int (by with_unfolding_all rfl)) (jss_one (js_ret (je_ixP (jp_o 3) je_int))) jss_nil)
    (jss_one (js_frz 3 (js_ret (je_if (jt_tru (je_v 3)) (je_gi (by rfl) T.c_NOISE ⟨_, rfl⟩) (je_gi (by rfl) T.c_SILENCE ⟨_, rfl⟩)))))))) : JSs CA (cxOf CX0 P w K mg base _ _ _ _ cdv A outer s H E).nox (defBody s_heard_by) B_heard_by)
theorem ok_heard (T : Txt K mg) : FnOk P w K mg base CX0 6 T.a_heard T.d_heard ["net", "senders"] (spD ⟨K, CA⟩ 2 M_heard) :=
  jok T.F_heard sc_heard fun cdv A outer s H E hr => have hu := hr.units; ((jss_cons (js_expr (je_call (ok_check_net T) (hr.mono (by omega)) (by rfl) T.m_check_net T.F_check_net.kp T.B_check_net (aC_len aN_len) (ja_cons (je_v 0) ja_nil)))
    (jss_cons (js_expr (je_call (ok_check_senders T) (hr.mono (by omega)) (by rfl) T.m_check_senders T.F_check_senders.kp T.B_check_senders (aC_len (aC_len aN_len)) (ja_cons (je_v 0) (ja_cons (je_v 1) ja_nil))))
    (jss_one (js_ret (je_callTy call_tuple_of f_tuple (by rfl) T.z_tuple (by decide +kernel) (ja_cons (je_fz (jv_lc (own := [("station", 2)]) rfl sc_heard.nd (ji_r1 (by rfl) T.z_range (ja_cons (je_callB call_len f_len (by rfl) T.z_len (by decide +kernel) (ja_cons (je_ix ix_seq o_ix (je_v 0) je_int) ja_nil)) ja_nil)) (blkOk_by (N := ["net", "senders", "station"]) (sc := defScope s_heard) (own := [("station", 2)]) (by decide +kernel)) (fun _ _ _ _ _ => (jg_name (i := 2) sc_heard.nd rfl (by first | exact .inl rfl | exact .inr rfl))) (fun _ _ _ _ _ => jts_nil) (fun _ _ _ _ _ => (je_call (ok_heard_by T) (hr.mono (by omega)) (by rfl) T.m_heard_by T.F_heard_by.kp T.B_heard_by (aC_len (aC_len (aC_len aN_len))) (ja_cons (je_v 0) (ja_cons (je_v 2) (ja_cons (je_v 1) ja_nil))))))) ja_nil)))))) : JSs CA (cxOf CX0 P w K mg base _ _ _ _ cdv A outer s H E).nox (defBody s_heard) B_heard)
theorem ok_all_links (T : Txt K mg) : FnOk P w K mg base CX0 2 T.a_all_links T.d_all_links ["net"] (spD ⟨K, CA⟩ 1 M_all_links) :=
  jok T.F_all_links sc_all_links fun cdv A outer s H E hr => have hu := hr.units; ((jss_cons (js_setV (i := 1) sc_all_links.nd rfl (by first | exact .inl rfl | exact .inr rfl) (jv_lst ja_nil))
    (jss_cons (js_for PassesOwn.never rfl (ji_en (by rfl) T.z_enumerate (ja_cons (je_ix ix_seq o_ix (je_v 0) je_int) ja_nil)) (jg_tup rfl (jgs_cons (jg_name (i := 2) sc_all_links.nd rfl (by first | exact .inl rfl | exact .inr rfl)) (jgs_cons (jg_name (i := 3) sc_all_links.nd rfl (by first | exact .inl rfl | exact .inr rfl)) jgs_nil))) (jss_one (js_ext (jp_o 1) (je_fz (jv_lc (own := [("own", 4)]) rfl sc_all_links.nd (ji_any (je_v 3)) (blkOk_by (N := ["net", "found", "listener", "row", "own"]) (sc := defScope s_all_links) (own := [("own", 4)]) (by decide +kernel)) (fun _ _ _ _ _ => (jg_name (i := 4) sc_all_links.nd rfl (by first | exact .inl rfl | exact .inr rfl))) (fun _ _ _ _ _ => jts_nil) (fun _ _ _ _ _ => (je_tup (ja_cons (je_v 4) (ja_cons (je_v 2) ja_nil)))))))))
    (jss_one (js_frz 1 (js_ret (je_callTy call_tuple_of f_tuple (by rfl) T.z_tuple (by decide +kernel) (ja_cons (je_callB cr_sortJ f_sort (by rfl) T.z_sorted (by decide +kernel) (ja_cons (je_v 1) ja_nil)) ja_nil))))))) : JSs CA (cxOf CX0 P w K mg base _ _ _ _ cdv A outer s H E).nox (defBody s_all_links) B_all_links)
theorem ok_links (T : Txt K mg) : FnOk P w K mg base CX0 6 T.a_links T.d_links ["net"] (spD ⟨K, CA⟩ 1 M_links) :=
  jok T.F_links sc_links fun cdv A outer s H E hr => have hu := hr.units; ((jss_cons (js_expr (je_call (ok_check_net T) (hr.mono (by omega)) (by rfl) T.m_check_net T.F_check_net.kp T.B_check_net (aC_len aN_len) (ja_cons (je_v 0) ja_nil)))
    (jss_one (js_ret (je_call (ok_all_links T) (hr.mono (by omega)) (by rfl) T.m_all_links T.F_all_links.kp T.B_all_links (aC_len aN_len) (ja_cons (je_v 0) ja_nil))))) : JSs CA (cxOf CX0 P w K mg base _ _ _ _ cdv A outer s H E).nox (defBody s_links) B_links)
theorem ok_is_link (T : Txt K mg) : FnOk P w K mg base CX0 3 T.a_is_link T.d_is_link ["net", "value"] (spD ⟨K, CA⟩ 2 M_is_link) :=
  jok T.F_is_link sc_is_link fun cdv A outer s H E hr => have hu := hr.units; ((jss_cons (js_if (jt_not (jt_w (jw_and (jt_tru (je_isi (by decide) (je_v 1) (by rfl) T.z_isinstance (by rfl) T.z_tuple (by decide +kernel))) (jw_and1 (jt_cmp (op_eqJ hu) o_eq (je_callB call_len f_len (by rfl) T.z_len (by decide +kernel) (ja_cons (je_v 1) ja_nil)) je_int (by with_unfolding_all rfl)))))) (jss_one (js_ret je_bl)) jss_nil)
    (jss_one (js_ret (je_and (je_callB (cr_all rfl) f_all (by rfl) T.z_all (by decide +kernel) (ja_cons (je_fz (jv_lc (own := [("own", 2)]) rfl sc_is_link.nd (ji_any (je_v 1)) (blkOk_by (N := ["net", "value", "own"]) (sc := defScope s_is_link) (own := [("own", 2)]) (by decide +kernel)) (fun _ _ _ _ _ => (jg_name (i := 2) sc_is_link.nd rfl (by first | exact .inl rfl | exact .inr rfl))) (fun _ _ _ _ _ => jts_nil) (fun _ _ _ _ _ => (je_call (ok_is_number T) (hr.mono (by omega)) (by rfl) T.m_is_number T.F_is_number.kp T.B_is_number (aC_len (aC_len (aC_len aN_len))) (ja_cons (je_v 2) (ja_cons je_int (ja_cons (je_op op_sub o_sub (je_callB call_len f_len (by rfl) T.z_len (by decide +kernel) (ja_cons (je_ix ix_seq o_ix (je_v 0) je_int) ja_nil)) je_int) ja_nil))))))) ja_nil)) (je_one (je_cmp (op_inJ hu) o_in (je_ix ix_seq o_ix (je_v 1) je_int) (je_ix ix_seq o_ix (je_ix ix_seq o_ix (je_v 0) je_int) (je_ix ix_seq o_ix (je_v 1) je_int)) (by with_unfolding_all rfl))))))) : JSs CA (cxOf CX0 P w K mg base _ _ _ _ cdv A outer s H E).nox (defBody s_is_link) B_is_link)
theorem ok_check_link (T : Txt K mg) : FnOk P w K mg base CX0 4 T.a_check_link T.d_check_link ["net", "link", "name"] (spD ⟨K, CA⟩ 3 M_check_link) :=
  jok T.F_check_link sc_check_link fun cdv A outer s H E hr => have hu := hr.units; ((jss_one (js_expr (je_call (ok_need T) (hr.mono (by omega)) (by rfl) T.m_need T.F_need.kp T.B_need (aC_len (aC_len aN_len)) (ja_cons (je_call (ok_is_link T) (hr.mono (by omega)) (by rfl) T.m_is_link T.F_is_link.kp T.B_is_link (aC_len (aC_len aN_len)) (ja_cons (je_v 0) (ja_cons (je_v 1) ja_nil))) (ja_cons (je_v 2) ja_nil))))) : JSs CA (cxOf CX0 P w K mg base _ _ _ _ cdv A outer s H E).nox (defBody s_check_link) B_check_link)
theorem ok_spoilers (T : Txt K mg) : FnOk P w K mg base CX0 6 T.a_spoilers T.d_spoilers ["net", "link", "senders"] (spD ⟨K, CA⟩ 3 M_spoilers) :=
  jok T.F_spoilers sc_spoilers fun cdv A outer s H E hr => have hu := hr.units; ((jss_cons (js_expr (je_call (ok_check_net T) (hr.mono (by omega)) (by rfl) T.m_check_net T.F_check_net.kp T.B_check_net (aC_len aN_len) (ja_cons (je_v 0) ja_nil)))
    (jss_cons (js_expr (je_call (ok_check_link T) (hr.mono (by omega)) (by rfl) T.m_check_link T.F_check_link.kp T.B_check_link (aC_len (aC_len (aC_len aN_len))) (ja_cons (je_v 0) (ja_cons (je_v 1) (ja_cons je_str ja_nil)))))
    (jss_cons (js_expr (je_call (ok_check_senders T) (hr.mono (by omega)) (by rfl) T.m_check_senders T.F_check_senders.kp T.B_check_senders (aC_len (aC_len aN_len)) (ja_cons (je_v 0) (ja_cons (je_v 2) ja_nil))))
    (jss_cons (js_asg (je_v 1) (jg_tup rfl (jgs_cons (jg_name (i := 3) sc_spoilers.nd rfl (by first | exact .inl rfl | exact .inr rfl)) (jgs_cons (jg_name (i := 4) sc_spoilers.nd rfl (by first | exact .inl rfl | exact .inr rfl)) jgs_nil))))
    (jss_one (js_ret (je_callTy call_tuple_of f_tuple (by rfl) T.z_tuple (by decide +kernel) (ja_cons (je_fz (jv_lc (own := [("own", 5)]) rfl sc_spoilers.nd (ji_any (je_v 2)) (blkOk_by (N := ["net", "link", "senders", "speaker", "listener", "own"]) (sc := defScope s_spoilers) (own := [("own", 5)]) (by decide +kernel)) (fun _ _ _ _ _ => (jg_name (i := 5) sc_spoilers.nd rfl (by first | exact .inl rfl | exact .inr rfl))) (fun _ _ _ _ _ => (jts_one (jt_w (jw_and (jt_cmp (op_neJ hu) o_ne (je_v 5) (je_v 3) (by with_unfolding_all rfl)) (jw_and1 (jt_w (jw_or (jt_cmp (op_eqJ hu) o_eq (je_v 5) (je_v 4) (by with_unfolding_all rfl)) (jw_or1 (jt_cmp (op_inJ hu) o_in (je_v 5) (je_ix ix_seq o_ix (je_ix ix_seq o_ix (je_v 0) je_int) (je_v 4)) (by with_unfolding_all rfl)))))))))) (fun _ _ _ _ _ => (je_v 5)))) ja_nil)))))))) : JSs CA (cxOf CX0 P w K mg base _ _ _ _ cdv A outer s H E).nox (defBody s_spoilers) B_spoilers)
theorem ok__law_alike (T : Txt K mg) : ∀ n : Nat, FnOk P w K mg base CX0 (n + 0 + 1) T.a__law_alike T.d__law_alike ["found", "due"] (spD ⟨K, CA⟩ 2 (M__law_alike n))
  | 0 => never_ok T.F__law_alike sc__law_alike
  | n + 1 => jok (k := n + 1 + 0) T.F__law_alike sc__law_alike fun cdv A outer s H E hr => have hu := hr.units; ((jss_cons (js_if (jt_tru (je_isi (by decide) (je_v 1) (by rfl) T.z_isinstance (by rfl) T.z_tuple (by decide +kernel))) (jss_cons (js_if (jt_w (jw_or (jt_not (jt_tru (je_isi (by decide) (je_v 0) (by rfl) T.z_isinstance (by rfl) T.z_tuple (by decide +kernel)))) (jw_or1 (jt_cmp (op_neJ hu) o_ne (je_callB call_len f_len (by rfl) T.z_len (by decide +kernel) (ja_cons (je_v 0) ja_nil)) (je_callB call_len f_len (by rfl) T.z_len (by decide +kernel) (ja_cons (je_v 1) ja_nil)) (by with_unfolding_all rfl))))) (jss_one (js_ret je_bl)) jss_nil)
    (jss_one (js_ret (je_cmp (op_eqJ hu) o_eq (je_fz (jv_lc (own := [("at", 2)]) rfl sc__law_alike.nd (ji_r1 (by rfl) T.z_range (ja_cons (je_callB call_len f_len (by rfl) T.z_len (by decide +kernel) (ja_cons (je_v 1) ja_nil)) ja_nil)) (blkOk_by (N := ["found", "due", "at"]) (sc := defScope s__law_alike) (own := [("at", 2)]) (by decide +kernel)) (fun _ _ _ _ _ => (jg_name (i := 2) sc__law_alike.nd rfl (by first | exact .inl rfl | exact .inr rfl))) (fun _ _ _ _ _ => (jts_one (jt_not (jt_tru (je_call (ok__law_alike T n) (hr.mono (by omega)) (by rfl) T.m__law_alike T.F__law_alike.kp T.B__law_alike (aC_len (aC_len aN_len)) (ja_cons (je_ix ix_seq o_ix (je_v 0) (je_v 2)) (ja_cons (je_ix ix_seq o_ix (je_v 1) (je_v 2)) ja_nil))))))) (fun _ _ _ _ _ => (je_v 2)))) (je_lst ja_nil) (by with_unfolding_all rfl))))) jss_nil)
    (jss_cons (js_if (jt_w (jw_or (jt_cmp op_isJ o_is (je_v 1) je_non (by with_unfolding_all rfl)) (jw_or1 (jt_tru (je_isi (by decide) (je_v 1) (by rfl) T.z_isinstance (by rfl) T.z_str (by decide +kernel)))))) (jss_one (js_ret (je_and (je_cmp (op_eqJ hu) o_eq (je_v 0) (je_v 1) (by with_unfolding_all rfl)) (je_one (je_cmp (op_eqJ hu) o_eq (je_isi (by decide) (je_v 0) (by rfl) T.z_isinstance (by rfl) T.z_str (by decide +kernel)) (je_isi (by decide) (je_v 1) (by rfl) T.z_isinstance (by rfl) T.z_str (by decide +kernel)) (by with_unfolding_all rfl)))))) jss_nil)
    (jss_one (js_ret (je_and (je_isi (by decide) (je_v 0) (by rfl) T.z_isinstance (by rfl) T.z_int (by decide +kernel)) (je_and (je_cmp (op_eqJ hu) o_eq (je_isi (by decide) (je_v 0) (by rfl) T.z_isinstance (by rfl) T.z_bool (by decide +kernel)) (je_isi (by decide) (je_v 1) (by rfl) T.z_isinstance (by rfl) T.z_bool (by decide +kernel)) (by with_unfolding_all rfl)) (je_one (je_cmp (op_eqJ hu) o_eq (je_v 0) (je_v 1) (by with_unfolding_all rfl))))))))) : JSs CA (cxOf CX0 P w K mg base _ _ _ _ cdv A outer s H E).nox (defBody s__law_alike) (B__law_alike (M__law_alike n)))
theorem ok_clear_links (T : Txt K mg) : FnOk P w K mg base CX0 3 T.a_clear_links T.d_clear_links ["net", "senders"] (spD ⟨K, CA⟩ 2 M_clear_links) :=
  jok T.F_clear_links sc_clear_links fun cdv A outer s H E hr => have hu := hr.units; ((jss_cons (js_setV (i := 2) sc_clear_links.nd rfl (by first | exact .inl rfl | exact .inr rfl) (jv_lst ja_nil))
    (jss_cons (js_for PassesOwn.never rfl (ji_r1 (by rfl) T.z_range (ja_cons (je_callB call_len f_len (by rfl) T.z_len (by decide +kernel) (ja_cons (je_ix ix_seq o_ix (je_v 0) je_int) ja_nil)) ja_nil)) (jg_name (i := 3) sc_clear_links.nd rfl (by first | exact .inl rfl | exact .inr rfl)) (jss_cons (js_set (i := 4) sc_clear_links.nd rfl (by first | exact .inl rfl | exact .inr rfl) (je_call (ok_heard_by T) (hr.mono (by omega)) (by rfl) T.m_heard_by T.F_heard_by.kp T.B_heard_by (aC_len (aC_len (aC_len aN_len))) (ja_cons (je_v 0) (ja_cons (je_v 3) (ja_cons (je_v 1) ja_nil)))))
    (jss_one (js_if (jt_cmp op_ge o_geI (je_v 4) je_int (by with_unfolding_all rfl)) (jss_one (js_app (jp_o 2) (je_tup (ja_cons (je_v 4) (ja_cons (je_v 3) ja_nil))))) jss_nil))))
    (jss_one (js_frz 2 (js_ret (je_callTy call_tuple_of f_tuple (by rfl) T.z_tuple (by decide +kernel) (ja_cons (je_callB cr_sortJ f_sort (by rfl) T.z_sorted (by decide +kernel) (ja_cons (je_v 2) ja_nil)) ja_nil))))))) : JSs CA (cxOf CX0 P w K mg base _ _ _ _ cdv A outer s H E).nox (defBody s_clear_links) B_clear_links)
theorem ok_clear (T : Txt K mg) : FnOk P w K mg base CX0 6 T.a_clear T.d_clear ["net", "senders"] (spD ⟨K, CA⟩ 2 M_clear) :=
  jok T.F_clear sc_clear fun cdv A outer s H E hr => have hu := hr.units; ((jss_cons (js_expr (je_call (ok_check_net T) (hr.mono (by omega)) (by rfl) T.m_check_net T.F_check_net.kp T.B_check_net (aC_len aN_len) (ja_cons (je_v 0) ja_nil)))
    (jss_cons (js_expr (je_call (ok_check_senders T) (hr.mono (by omega)) (by rfl) T.m_check_senders T.F_check_senders.kp T.B_check_senders (aC_len (aC_len aN_len)) (ja_cons (je_v 0) (ja_cons (je_v 1) ja_nil))))
    (jss_one (js_ret (je_call (ok_clear_links T) (hr.mono (by omega)) (by rfl) T.m_clear_links T.F_clear_links.kp T.B_clear_links (aC_len (aC_len aN_len)) (ja_cons (je_v 0) (ja_cons (je_v 1) ja_nil))))))) : JSs CA (cxOf CX0 P w K mg base _ _ _ _ cdv A outer s H E).nox (defBody s_clear) B_clear)
theorem ok_law {fa : Addr} {fd : FuncData} (T : Txt K mg) (F : Fun K "law" "law" s_law fa fd) : FnOk P w K mg base CX0 7 fa fd ["script"] (spD ⟨K, CA⟩ 1 M_law) :=
  jok F sc_law fun cdv A outer s H E hr => have hu := hr.units; ((jss_cons (js_new (i := 1) sc_law.nd rfl (by first | exact .inl rfl | exact .inr rfl) (ja_cons (je_v 0) (ja_cons je_int (ja_cons je_int (ja_cons je_int ja_nil)))))
    (jss_cons (js_for PassesOwn.never rfl (ji_r1 (by rfl) T.z_range (ja_cons je_int ja_nil)) (jg_name (i := 2) sc_law.nd rfl (by first | exact .inl rfl | exact .inr rfl)) (jss_cons (js_set (i := 3) sc_law.nd rfl (by first | exact .inl rfl | exact .inr rfl) (je_call (ok__law_net T) (hr.mono (by omega)) (by rfl) T.m__law_net T.F__law_net.kp T.B__law_net (aC_len (aC_len aN_len)) (ja_cons (je_v 1) (ja_cons je_int ja_nil))))
    (jss_cons (js_set (i := 4) sc_law.nd rfl (by first | exact .inl rfl | exact .inr rfl) (je_callB call_len f_len (by rfl) T.z_len (by decide +kernel) (ja_cons (je_ix ix_seq o_ix (je_v 3) je_int) ja_nil)))
    (jss_cons (js_set (i := 5) sc_law.nd rfl (by first | exact .inl rfl | exact .inr rfl) (je_callTy call_tuple_of f_tuple (by rfl) T.z_tuple (by decide +kernel) (ja_cons (je_fz (jv_lc (own := [("at", 10)]) rfl sc_law.nd (ji_r1 (by rfl) T.z_range (ja_cons (je_v 4) ja_nil)) (blkOk_by (N := ["script", "row", "turn", "net", "many", "senders", "new", "more", "before", "behind", "at", "hears", "due", "link", "some", "rest", "both", "own"]) (sc := defScope s_law) (own := [("at", 10)]) (by decide +kernel)) (fun _ _ _ _ _ => (jg_name (i := 10) sc_law.nd rfl (by first | exact .inl rfl | exact .inr rfl))) (fun _ _ _ _ _ => (jts_one (jt_cmp (op_eqJ hu) o_eq (je_call (ok__law_taken T) (hr.mono (by omega)) (by rfl) T.m__law_taken T.F__law_taken.kp T.B__law_taken (aC_len (aC_len aN_len)) (ja_cons (je_v 1) (ja_cons je_int ja_nil))) je_int (by with_unfolding_all rfl)))) (fun _ _ _ _ _ => (je_v 10)))) ja_nil)))
    (jss_cons (js_set (i := 6) sc_law.nd rfl (by first | exact .inl rfl | exact .inr rfl) (je_call (ok__law_taken T) (hr.mono (by omega)) (by rfl) T.m__law_taken T.F__law_taken.kp T.B__law_taken (aC_len (aC_len aN_len)) (ja_cons (je_v 1) (ja_cons (je_v 4) ja_nil))))
    (jss_cons (js_set (i := 7) sc_law.nd rfl (by first | exact .inl rfl | exact .inr rfl) (je_callTy call_tuple_of f_tuple (by rfl) T.z_tuple (by decide +kernel) (ja_cons (je_sortSet rfl (by rfl) T.z_sorted (by rfl) T.z_set (je_op op_addJ o_add (je_v 5) (je_tup (ja_cons (je_v 6) ja_nil)))) ja_nil)))
    (jss_cons (by first | exact js_par2 (i := 8) (j := 9) rfl sc_law.nd rfl rfl (by decide) rfl rfl (jvs_cons (jv_im (je_call (ok_heard T) (hr.mono (by omega)) (by rfl) T.m_heard T.F_heard.kp T.B_heard (aC_len (aC_len aN_len)) (ja_cons (je_v 3) (ja_cons (je_v 5) ja_nil)))) (jvs_cons (jv_im (je_call (ok_heard T) (hr.mono (by omega)) (by rfl) T.m_heard T.F_heard.kp T.B_heard (aC_len (aC_len aN_len)) (ja_cons (je_v 3) (ja_cons (je_v 7) ja_nil)))) jvs_nil)) | exact js_parN (is := [8, 9]) rfl (jvs_cons (jv_im (je_call (ok_heard T) (hr.mono (by omega)) (by rfl) T.m_heard T.F_heard.kp T.B_heard (aC_len (aC_len aN_len)) (ja_cons (je_v 3) (ja_cons (je_v 5) ja_nil)))) (jvs_cons (jv_im (je_call (ok_heard T) (hr.mono (by omega)) (by rfl) T.m_heard T.F_heard.kp T.B_heard (aC_len (aC_len aN_len)) (ja_cons (je_v 3) (ja_cons (je_v 7) ja_nil)))) jvs_nil)) (pgs_cons (pg_name (i := 8) sc_law.nd rfl (by first | exact .inl rfl | exact .inr rfl)) (pgs_cons (pg_name (i := 9) sc_law.nd rfl (by first | exact .inl rfl | exact .inr rfl)) pgs_nil)))
    (jss_cons (js_for PassesOwn.never rfl (ji_r1 (by rfl) T.z_range (ja_cons (je_v 4) ja_nil)) (jg_name (i := 10) sc_law.nd rfl (by first | exact .inl rfl | exact .inr rfl)) (jss_cons (js_if (jt_w (jw_and (jt_cmp (op_inJ hu) o_in (je_v 6) (je_v 5) (by with_unfolding_all rfl)) (jw_and1 (jt_cmp (op_neJ hu) o_ne (je_ix ix_seq o_ix (je_v 8) (je_v 10)) (je_ix ix_seq o_ix (je_v 9) (je_v 10)) (by with_unfolding_all rfl))))) (jss_one (js_ret je_bl)) jss_nil)
    (jss_cons (js_if (jt_w (jw_and (jt_cmp (op_niJ hu) o_ni (je_v 6) (je_v 5) (by with_unfolding_all rfl)) (jw_and1 (jt_cmp (op_neJ hu) o_ne (je_v 10) (je_v 6) (by with_unfolding_all rfl))))) (jss_cons (js_set (i := 11) sc_law.nd rfl (by first | exact .inl rfl | exact .inr rfl) (je_cmp (op_inJ hu) o_in (je_v 6) (je_ix ix_seq o_ix (je_ix ix_seq o_ix (je_v 3) je_int) (je_v 10)) (by with_unfolding_all rfl)))
    (jss_cons (js_set (i := 12) sc_law.nd rfl (by first | exact .inl rfl | exact .inr rfl) (je_ix ix_seq o_ix (je_v 8) (je_v 10)))
    (jss_cons (js_if (jt_w (jw_and (jt_cmp (op_niJ hu) o_ni (je_v 10) (je_v 5) (by with_unfolding_all rfl)) (jw_and1 (jt_tru (je_v 11))))) (jss_one (js_set (i := 12) sc_law.nd rfl (by first | exact .inl rfl | exact .inr rfl) (je_if (jt_cmp (op_eqJ hu) o_eq (je_ix ix_seq o_ix (je_v 8) (je_v 10)) (je_un un_neg u_neg je_int) (by with_unfolding_all rfl)) (je_v 6) (je_un un_neg u_neg je_int)))) jss_nil)
    (jss_one (js_if (jt_cmp (op_neJ hu) o_ne (je_ix ix_seq o_ix (je_v 9) (je_v 10)) (je_v 12) (by with_unfolding_all rfl)) (jss_one (js_ret je_bl)) jss_nil))))) jss_nil)
    (jss_one (js_if (jt_w (jw_and (jt_cmp (op_eqJ hu) o_eq (je_v 10) (je_v 6) (by with_unfolding_all rfl)) (jw_and1 (jt_cmp (op_neJ hu) o_ne (je_ix ix_seq o_ix (je_v 9) (je_v 10)) (je_un un_neg u_neg je_int) (by with_unfolding_all rfl))))) (jss_one (js_ret je_bl)) jss_nil)))))
    (jss_cons (js_for PassesOwn.never rfl (ji_any (je_call (ok_links T) (hr.mono (by omega)) (by rfl) T.m_links T.F_links.kp T.B_links (aC_len aN_len) (ja_cons (je_v 3) ja_nil))) (jg_name (i := 13) sc_law.nd rfl (by first | exact .inl rfl | exact .inr rfl)) (jss_cons (js_set (i := 14) sc_law.nd rfl (by first | exact .inl rfl | exact .inr rfl) (je_call (ok_spoilers T) (hr.mono (by omega)) (by rfl) T.m_spoilers T.F_spoilers.kp T.B_spoilers (aC_len (aC_len (aC_len aN_len))) (ja_cons (je_v 3) (ja_cons (je_v 13) (ja_cons (je_v 7) ja_nil)))))
    (jss_cons (js_if (jt_not (jt_tru (je_call (ok__law_alike T 4) (hr.mono (by omega)) (by rfl) T.m__law_alike T.F__law_alike.kp T.B__law_alike (aC_len (aC_len aN_len)) (ja_cons (je_v 14) (ja_cons (je_callTy call_tuple_of f_tuple (by rfl) T.z_tuple (by decide +kernel) (ja_cons (je_sortSet rfl (by rfl) T.z_sorted (by rfl) T.z_set (je_op op_addJ o_add (je_call (ok_spoilers T) (hr.mono (by omega)) (by rfl) T.m_spoilers T.F_spoilers.kp T.B_spoilers (aC_len (aC_len (aC_len aN_len))) (ja_cons (je_v 3) (ja_cons (je_v 13) (ja_cons (je_v 5) ja_nil)))) (je_call (ok_spoilers T) (hr.mono (by omega)) (by rfl) T.m_spoilers T.F_spoilers.kp T.B_spoilers (aC_len (aC_len (aC_len aN_len))) (ja_cons (je_v 3) (ja_cons (je_v 13) (ja_cons (je_tup (ja_cons (je_v 6) ja_nil)) ja_nil)))))) ja_nil)) ja_nil))))) (jss_one (js_ret je_bl)) jss_nil)
    (jss_one (js_if (jt_cmp (op_neJ hu) o_ne (je_cmp (op_inJ hu) o_in (je_v 13) (je_call (ok_clear T) (hr.mono (by omega)) (by rfl) T.m_clear T.F_clear.kp T.B_clear (aC_len (aC_len aN_len)) (ja_cons (je_v 3) (ja_cons (je_v 7) ja_nil))) (by with_unfolding_all rfl)) (je_and (je_cmp (op_inJ hu) o_in (je_ix ix_seq o_ix (je_v 13) je_int) (je_v 7) (by with_unfolding_all rfl)) (je_one (je_cmp (op_eqJ hu) o_eq (je_v 14) (je_tup ja_nil) (by with_unfolding_all rfl)))) (by with_unfolding_all rfl)) (jss_one (js_ret je_bl)) jss_nil)))))
    (jss_cons (js_if (jt_not (jt_tru (je_call (ok__law_alike T 4) (hr.mono (by omega)) (by rfl) T.m__law_alike T.F__law_alike.kp T.B__law_alike (aC_len (aC_len aN_len)) (ja_cons (je_call (ok_clear T) (hr.mono (by omega)) (by rfl) T.m_clear T.F_clear.kp T.B_clear (aC_len (aC_len aN_len)) (ja_cons (je_v 3) (ja_cons (je_tup (ja_cons (je_v 6) ja_nil)) ja_nil))) (ja_cons (je_callTy call_tuple_of f_tuple (by rfl) T.z_tuple (by decide +kernel) (ja_cons (je_fz (jv_lc (own := [("own", 17)]) rfl sc_law.nd (ji_any (je_call (ok_links T) (hr.mono (by omega)) (by rfl) T.m_links T.F_links.kp T.B_links (aC_len aN_len) (ja_cons (je_v 3) ja_nil))) (blkOk_by (N := ["script", "row", "turn", "net", "many", "senders", "new", "more", "before", "behind", "at", "hears", "due", "link", "some", "rest", "both", "own"]) (sc := defScope s_law) (own := [("own", 17)]) (by decide +kernel)) (fun _ _ _ _ _ => (jg_name (i := 17) sc_law.nd rfl (by first | exact .inl rfl | exact .inr rfl))) (fun _ _ _ _ _ => (jts_one (jt_cmp (op_eqJ hu) o_eq (je_ix ix_seq o_ix (je_v 17) je_int) (je_v 6) (by with_unfolding_all rfl)))) (fun _ _ _ _ _ => (je_v 17)))) ja_nil)) ja_nil))))) (jss_one (js_ret je_bl)) jss_nil)
    (jss_cons (js_if (jt_w (jw_or (jt_cmp (op_neJ hu) o_ne (je_call (ok_clear T) (hr.mono (by omega)) (by rfl) T.m_clear T.F_clear.kp T.B_clear (aC_len (aC_len aN_len)) (ja_cons (je_v 3) (ja_cons (je_tupRg rfl (by rfl) T.z_tuple (jr_1 (by rfl) T.z_range (je_v 4))) ja_nil))) (je_tup ja_nil) (by with_unfolding_all rfl)) (jw_or (jt_cmp (op_neJ hu) o_ne (je_call (ok_clear T) (hr.mono (by omega)) (by rfl) T.m_clear T.F_clear.kp T.B_clear (aC_len (aC_len aN_len)) (ja_cons (je_v 3) (ja_cons (je_tup ja_nil) ja_nil))) (je_tup ja_nil) (by with_unfolding_all rfl)) (jw_or1 (jt_cmp (op_neJ hu) o_ne (je_fz (jv_lc (own := [("own", 17)]) rfl sc_law.nd (ji_any (je_call (ok_heard T) (hr.mono (by omega)) (by rfl) T.m_heard T.F_heard.kp T.B_heard (aC_len (aC_len aN_len)) (ja_cons (je_v 3) (ja_cons (je_tup ja_nil) ja_nil)))) (blkOk_by (N := ["script", "row", "turn", "net", "many", "senders", "new", "more", "before", "behind", "at", "hears", "due", "link", "some", "rest", "both", "own"]) (sc := defScope s_law) (own := [("own", 17)]) (by decide +kernel)) (fun _ _ _ _ _ => (jg_name (i := 17) sc_law.nd rfl (by first | exact .inl rfl | exact .inr rfl))) (fun _ _ _ _ _ => (jts_one (jt_cmp (op_neJ hu) o_ne (je_v 17) (je_un un_neg u_neg je_int) (by with_unfolding_all rfl)))) (fun _ _ _ _ _ => (je_v 17)))) (je_lst ja_nil) (by with_unfolding_all rfl)))))) (jss_one (js_ret je_bl)) jss_nil)
    (jss_cons (js_set (i := 15) sc_law.nd rfl (by first | exact .inl rfl | exact .inr rfl) (je_callTy call_tuple_of f_tuple (by rfl) T.z_tuple (by decide +kernel) (ja_cons (je_fz (jv_lc (own := [("at", 10)]) rfl sc_law.nd (ji_r1 (by rfl) T.z_range (ja_cons (je_v 4) ja_nil)) (blkOk_by (N := ["script", "row", "turn", "net", "many", "senders", "new", "more", "before", "behind", "at", "hears", "due", "link", "some", "rest", "both", "own"]) (sc := defScope s_law) (own := [("at", 10)]) (by decide +kernel)) (fun _ _ _ _ _ => (jg_name (i := 10) sc_law.nd rfl (by first | exact .inl rfl | exact .inr rfl))) (fun _ _ _ _ _ => (jts_one (jt_cmp (op_niJ hu) o_ni (je_v 10) (je_v 5) (by with_unfolding_all rfl)))) (fun _ _ _ _ _ => (je_v 10)))) ja_nil)))
    (jss_cons (by first | exact js_setLc (own := [("own", 17)]) (i := 16) rfl sc_law.nd rfl rfl rfl (ji_any (je_call (ok_clear T) (hr.mono (by omega)) (by rfl) T.m_clear T.F_clear.kp T.B_clear (aC_len (aC_len aN_len)) (ja_cons (je_v 3) (ja_cons (je_v 5) ja_nil)))) (blkOk_by (N := ["script", "row", "turn", "net", "many", "senders", "new", "more", "before", "behind", "at", "hears", "due", "link", "some", "rest", "both", "own"]) (sc := defScope s_law) (own := [("own", 17)]) (by decide +kernel)) (fun _ _ _ _ _ => (jg_name (i := 17) sc_law.nd rfl (by first | exact .inl rfl | exact .inr rfl))) (fun _ _ _ _ _ => (jts_one (jt_cmp (op_inJ hu) o_in (je_v 17) (je_call (ok_clear T) (hr.mono (by omega)) (by rfl) T.m_clear T.F_clear.kp T.B_clear (aC_len (aC_len aN_len)) (ja_cons (je_v 3) (ja_cons (je_v 15) ja_nil))) (by with_unfolding_all rfl)))) (fun _ _ _ _ _ => (je_v 17)) | exact js_setV (i := 16) sc_law.nd rfl (by first | exact .inl rfl | exact .inr rfl) (jv_lc (own := [("own", 17)]) rfl sc_law.nd (ji_any (je_call (ok_clear T) (hr.mono (by omega)) (by rfl) T.m_clear T.F_clear.kp T.B_clear (aC_len (aC_len aN_len)) (ja_cons (je_v 3) (ja_cons (je_v 5) ja_nil)))) (blkOk_by (N := ["script", "row", "turn", "net", "many", "senders", "new", "more", "before", "behind", "at", "hears", "due", "link", "some", "rest", "both", "own"]) (sc := defScope s_law) (own := [("own", 17)]) (by decide +kernel)) (fun _ _ _ _ _ => (jg_name (i := 17) sc_law.nd rfl (by first | exact .inl rfl | exact .inr rfl))) (fun _ _ _ _ _ => (jts_one (jt_cmp (op_inJ hu) o_in (je_v 17) (je_call (ok_clear T) (hr.mono (by omega)) (by rfl) T.m_clear T.F_clear.kp T.B_clear (aC_len (aC_len aN_len)) (ja_cons (je_v 3) (ja_cons (je_v 15) ja_nil))) (by with_unfolding_all rfl)))) (fun _ _ _ _ _ => (je_v 17))))
    (jss_one (js_frz 16 (js_if (jt_w (jw_or (jt_cmp (op_neJ hu) o_ne (je_v 16) (je_lst ja_nil) (by with_unfolding_all rfl)) (jw_or1 (jt_cmp op_gt o_gtI (je_callB call_len f_len (by rfl) T.z_len (by decide +kernel) (ja_cons (je_call (ok_clear T) (hr.mono (by omega)) (by rfl) T.m_clear T.F_clear.kp T.B_clear (aC_len (aC_len aN_len)) (ja_cons (je_v 3) (ja_cons (je_v 5) ja_nil))) ja_nil)) (je_callB call_len f_len (by rfl) T.z_len (by decide +kernel) (ja_cons (je_v 15) ja_nil)) (by with_unfolding_all rfl))))) (jss_one (js_ret je_bl)) jss_nil))))))))))))))))
    (jss_one (js_ret je_bl)))) : JSs CA (cxOf CX0 P w K mg base _ _ _ _ cdv A outer s H E).nox (defBody s_law) B_law)
/-! ### what the top has written, found -/
theorem all_mk {l : PySem.W.OpenLaw} {w : World} {K : PySem.W.Frag} {h : Heap} {mg : Str → Option Value} {fa : Addr} (X : K.In h) (G : h.Ns mainGlobals mg) (hfa : mg "law" = some (.ref fa)) (CA : Str → Addr)
    {od0 an0 : Option Addr} {sl0 : Array (Option Value)} {oc0 kV0 dc0 pm0 cd0 ct0 : Value} {f0 : Addr}
    {od1 an1 : Option Addr} {sl1 : Array (Option Value)} {oc1 kV1 dc1 pm1 cd1 ct1 : Value} {f1 : Addr}
    {od2 an2 : Option Addr} {sl2 : Array (Option Value)} {oc2 kV2 dc2 pm2 cd2 ct2 : Value} {f2 : Addr}
    {od3 an3 : Option Addr} {sl3 : Array (Option Value)} {oc3 kV3 dc3 pm3 cd3 ct3 : Value} {f3 : Addr}
    {od4 an4 : Option Addr} {sl4 : Array (Option Value)} {oc4 kV4 dc4 pm4 cd4 ct4 : Value} {f4 : Addr}
    {od5 an5 : Option Addr} {sl5 : Array (Option Value)} {oc5 kV5 dc5 pm5 cd5 ct5 : Value} {f5 : Addr}
    {od6 an6 : Option Addr} {sl6 : Array (Option Value)} {oc6 kV6 dc6 pm6 cd6 ct6 : Value} {f6 : Addr}
    {od7 an7 : Option Addr} {sl7 : Array (Option Value)} {oc7 kV7 dc7 pm7 cd7 ct7 : Value} {f7 : Addr}
    {od8 an8 : Option Addr} {sl8 : Array (Option Value)} {oc8 kV8 dc8 pm8 cd8 ct8 : Value} {f8 : Addr}
    {od9 an9 : Option Addr} {sl9 : Array (Option Value)} {oc9 kV9 dc9 pm9 cd9 ct9 : Value} {f9 : Addr}
    {od10 an10 : Option Addr} {sl10 : Array (Option Value)} {oc10 kV10 dc10 pm10 cd10 ct10 : Value} {f10 : Addr}
    {od11 an11 : Option Addr} {sl11 : Array (Option Value)} {oc11 kV11 dc11 pm11 cd11 ct11 : Value} {f11 : Addr}
    {od12 an12 : Option Addr} {sl12 : Array (Option Value)} {oc12 kV12 dc12 pm12 cd12 ct12 : Value} {f12 : Addr}
    {od13 an13 : Option Addr} {sl13 : Array (Option Value)} {oc13 kV13 dc13 pm13 cd13 ct13 : Value} {f13 : Addr}
    {od14 an14 : Option Addr} {sl14 : Array (Option Value)} {oc14 kV14 dc14 pm14 cd14 ct14 : Value} {f14 : Addr}
    {od15 an15 : Option Addr} {sl15 : Array (Option Value)} {oc15 kV15 dc15 pm15 cd15 ct15 : Value} {f15 : Addr}
    {od16 an16 : Option Addr} {sl16 : Array (Option Value)} {oc16 kV16 dc16 pm16 cd16 ct16 : Value} {f16 : Addr}
    {od17 an17 : Option Addr} {sl17 : Array (Option Value)} {oc17 kV17 dc17 pm17 cd17 ct17 : Value} {f17 : Addr}
    {od18 an18 : Option Addr} {sl18 : Array (Option Value)} {oc18 kV18 dc18 pm18 cd18 ct18 : Value} {f18 : Addr}
    {od19 an19 : Option Addr} {sl19 : Array (Option Value)} {oc19 kV19 dc19 pm19 cd19 ct19 : Value} {f19 : Addr}
    {od20 an20 : Option Addr} {sl20 : Array (Option Value)} {oc20 kV20 dc20 pm20 cd20 ct20 : Value} {f20 : Addr}
    {od21 an21 : Option Addr} {sl21 : Array (Option Value)} {oc21 kV21 dc21 pm21 cd21 ct21 : Value} {f21 : Addr}
    {t21 : Tok}
    {t22 : Tok}
    {t23 : Tok}
    {t24 : Tok}
    {t25 : Tok}
    (a0 : PySem.W.nsIn K mainGlobals "_law_taken" = some (some (.ref f0)))
    (l0 : K.lookup f0 = some ⟨oc0, od0, .func (PySem.W.fnOf "_law_taken" "_law_taken" (defArgs s__law_taken) (defBody s__law_taken) (defScope s__law_taken) .none kV0 dc0 pm0 an0 cd0 ct0), sl0⟩) (c0 : PySem.W.codeIn K cd0 "_law_taken" = true) (k0 : PySem.W.keepIn K (.ref f0) = true)
    (a1 : PySem.W.nsIn K mainGlobals "_law_pick" = some (some (.ref f1)))
    (l1 : K.lookup f1 = some ⟨oc1, od1, .func (PySem.W.fnOf "_law_pick" "_law_pick" (defArgs s__law_pick) (defBody s__law_pick) (defScope s__law_pick) .none kV1 dc1 pm1 an1 cd1 ct1), sl1⟩) (c1 : PySem.W.codeIn K cd1 "_law_pick" = true) (k1 : PySem.W.keepIn K (.ref f1) = true)
    (a2 : PySem.W.nsIn K mainGlobals "_law_net" = some (some (.ref f2)))
    (l2 : K.lookup f2 = some ⟨oc2, od2, .func (PySem.W.fnOf "_law_net" "_law_net" (defArgs s__law_net) (defBody s__law_net) (defScope s__law_net) .none kV2 dc2 pm2 an2 cd2 ct2), sl2⟩) (c2 : PySem.W.codeIn K cd2 "_law_net" = true) (k2 : PySem.W.keepIn K (.ref f2) = true)
    (a3 : PySem.W.nsIn K mainGlobals "need" = some (some (.ref f3)))
    (l3 : K.lookup f3 = some ⟨oc3, od3, .func (PySem.W.fnOf "need" "need" (defArgs s_need) (defBody s_need) (defScope s_need) .none kV3 dc3 pm3 an3 cd3 ct3), sl3⟩) (c3 : PySem.W.codeIn K cd3 "need" = true) (k3 : PySem.W.keepIn K (.ref f3) = true)
    (a4 : PySem.W.nsIn K mainGlobals "are_letters" = some (some (.ref f4)))
    (l4 : K.lookup f4 = some ⟨oc4, od4, .func (PySem.W.fnOf "are_letters" "are_letters" (defArgs s_are_letters) (defBody s_are_letters) (defScope s_are_letters) .none kV4 dc4 pm4 an4 cd4 ct4), sl4⟩) (c4 : PySem.W.codeIn K cd4 "are_letters" = true) (k4 : PySem.W.keepIn K (.ref f4) = true)
    (a5 : PySem.W.nsIn K mainGlobals "is_number" = some (some (.ref f5)))
    (l5 : K.lookup f5 = some ⟨oc5, od5, .func (PySem.W.fnOf "is_number" "is_number" (defArgs s_is_number) (defBody s_is_number) (defScope s_is_number) .none kV5 dc5 pm5 an5 cd5 ct5), sl5⟩) (c5 : PySem.W.codeIn K cd5 "is_number" = true) (k5 : PySem.W.keepIn K (.ref f5) = true)
    (a6 : PySem.W.nsIn K mainGlobals "is_rising" = some (some (.ref f6)))
    (l6 : K.lookup f6 = some ⟨oc6, od6, .func (PySem.W.fnOf "is_rising" "is_rising" (defArgs s_is_rising) (defBody s_is_rising) (defScope s_is_rising) .none kV6 dc6 pm6 an6 cd6 ct6), sl6⟩) (c6 : PySem.W.codeIn K cd6 "is_rising" = true) (k6 : PySem.W.keepIn K (.ref f6) = true)
    (a7 : PySem.W.nsIn K mainGlobals "is_station_row" = some (some (.ref f7)))
    (l7 : K.lookup f7 = some ⟨oc7, od7, .func (PySem.W.fnOf "is_station_row" "is_station_row" (defArgs s_is_station_row) (defBody s_is_station_row) (defScope s_is_station_row) .none kV7 dc7 pm7 an7 cd7 ct7), sl7⟩) (c7 : PySem.W.codeIn K cd7 "is_station_row" = true) (k7 : PySem.W.keepIn K (.ref f7) = true)
    (a8 : PySem.W.nsIn K mainGlobals "is_net" = some (some (.ref f8)))
    (l8 : K.lookup f8 = some ⟨oc8, od8, .func (PySem.W.fnOf "is_net" "is_net" (defArgs s_is_net) (defBody s_is_net) (defScope s_is_net) .none kV8 dc8 pm8 an8 cd8 ct8), sl8⟩) (c8 : PySem.W.codeIn K cd8 "is_net" = true) (k8 : PySem.W.keepIn K (.ref f8) = true)
    (a9 : PySem.W.nsIn K mainGlobals "check_net" = some (some (.ref f9)))
    (l9 : K.lookup f9 = some ⟨oc9, od9, .func (PySem.W.fnOf "check_net" "check_net" (defArgs s_check_net) (defBody s_check_net) (defScope s_check_net) .none kV9 dc9 pm9 an9 cd9 ct9), sl9⟩) (c9 : PySem.W.codeIn K cd9 "check_net" = true) (k9 : PySem.W.keepIn K (.ref f9) = true)
    (a10 : PySem.W.nsIn K mainGlobals "check_senders" = some (some (.ref f10)))
    (l10 : K.lookup f10 = some ⟨oc10, od10, .func (PySem.W.fnOf "check_senders" "check_senders" (defArgs s_check_senders) (defBody s_check_senders) (defScope s_check_senders) .none kV10 dc10 pm10 an10 cd10 ct10), sl10⟩) (c10 : PySem.W.codeIn K cd10 "check_senders" = true) (k10 : PySem.W.keepIn K (.ref f10) = true)
    (a11 : PySem.W.nsIn K mainGlobals "heard_by" = some (some (.ref f11)))
    (l11 : K.lookup f11 = some ⟨oc11, od11, .func (PySem.W.fnOf "heard_by" "heard_by" (defArgs s_heard_by) (defBody s_heard_by) (defScope s_heard_by) .none kV11 dc11 pm11 an11 cd11 ct11), sl11⟩) (c11 : PySem.W.codeIn K cd11 "heard_by" = true) (k11 : PySem.W.keepIn K (.ref f11) = true)
    (a12 : PySem.W.nsIn K mainGlobals "heard" = some (some (.ref f12)))
    (l12 : K.lookup f12 = some ⟨oc12, od12, .func (PySem.W.fnOf "heard" "heard" (defArgs s_heard) (defBody s_heard) (defScope s_heard) .none kV12 dc12 pm12 an12 cd12 ct12), sl12⟩) (c12 : PySem.W.codeIn K cd12 "heard" = true) (k12 : PySem.W.keepIn K (.ref f12) = true)
    (a13 : PySem.W.nsIn K mainGlobals "all_links" = some (some (.ref f13)))
    (l13 : K.lookup f13 = some ⟨oc13, od13, .func (PySem.W.fnOf "all_links" "all_links" (defArgs s_all_links) (defBody s_all_links) (defScope s_all_links) .none kV13 dc13 pm13 an13 cd13 ct13), sl13⟩) (c13 : PySem.W.codeIn K cd13 "all_links" = true) (k13 : PySem.W.keepIn K (.ref f13) = true)
    (a14 : PySem.W.nsIn K mainGlobals "links" = some (some (.ref f14)))
    (l14 : K.lookup f14 = some ⟨oc14, od14, .func (PySem.W.fnOf "links" "links" (defArgs s_links) (defBody s_links) (defScope s_links) .none kV14 dc14 pm14 an14 cd14 ct14), sl14⟩) (c14 : PySem.W.codeIn K cd14 "links" = true) (k14 : PySem.W.keepIn K (.ref f14) = true)
    (a15 : PySem.W.nsIn K mainGlobals "is_link" = some (some (.ref f15)))
    (l15 : K.lookup f15 = some ⟨oc15, od15, .func (PySem.W.fnOf "is_link" "is_link" (defArgs s_is_link) (defBody s_is_link) (defScope s_is_link) .none kV15 dc15 pm15 an15 cd15 ct15), sl15⟩) (c15 : PySem.W.codeIn K cd15 "is_link" = true) (k15 : PySem.W.keepIn K (.ref f15) = true)
    (a16 : PySem.W.nsIn K mainGlobals "check_link" = some (some (.ref f16)))
    (l16 : K.lookup f16 = some ⟨oc16, od16, .func (PySem.W.fnOf "check_link" "check_link" (defArgs s_check_link) (defBody s_check_link) (defScope s_check_link) .none kV16 dc16 pm16 an16 cd16 ct16), sl16⟩) (c16 : PySem.W.codeIn K cd16 "check_link" = true) (k16 : PySem.W.keepIn K (.ref f16) = true)
    (a17 : PySem.W.nsIn K mainGlobals "spoilers" = some (some (.ref f17)))
    (l17 : K.lookup f17 = some ⟨oc17, od17, .func (PySem.W.fnOf "spoilers" "spoilers" (defArgs s_spoilers) (defBody s_spoilers) (defScope s_spoilers) .none kV17 dc17 pm17 an17 cd17 ct17), sl17⟩) (c17 : PySem.W.codeIn K cd17 "spoilers" = true) (k17 : PySem.W.keepIn K (.ref f17) = true)
    (a18 : PySem.W.nsIn K mainGlobals "_law_alike" = some (some (.ref f18)))
    (l18 : K.lookup f18 = some ⟨oc18, od18, .func (PySem.W.fnOf "_law_alike" "_law_alike" (defArgs s__law_alike) (defBody s__law_alike) (defScope s__law_alike) .none kV18 dc18 pm18 an18 cd18 ct18), sl18⟩) (c18 : PySem.W.codeIn K cd18 "_law_alike" = true) (k18 : PySem.W.keepIn K (.ref f18) = true)
    (a19 : PySem.W.nsIn K mainGlobals "clear_links" = some (some (.ref f19)))
    (l19 : K.lookup f19 = some ⟨oc19, od19, .func (PySem.W.fnOf "clear_links" "clear_links" (defArgs s_clear_links) (defBody s_clear_links) (defScope s_clear_links) .none kV19 dc19 pm19 an19 cd19 ct19), sl19⟩) (c19 : PySem.W.codeIn K cd19 "clear_links" = true) (k19 : PySem.W.keepIn K (.ref f19) = true)
    (a20 : PySem.W.nsIn K mainGlobals "clear" = some (some (.ref f20)))
    (l20 : K.lookup f20 = some ⟨oc20, od20, .func (PySem.W.fnOf "clear" "clear" (defArgs s_clear) (defBody s_clear) (defScope s_clear) .none kV20 dc20 pm20 an20 cd20 ct20), sl20⟩) (c20 : PySem.W.codeIn K cd20 "clear" = true) (k20 : PySem.W.keepIn K (.ref f20) = true)
    (a21 : PySem.W.nsIn K mainGlobals "law" = some (some (.ref f21)))
    (l21 : K.lookup f21 = some ⟨oc21, od21, .func (PySem.W.fnOf "law" "law" (defArgs s_law) (defBody s_law) (defScope s_law) .none kV21 dc21 pm21 an21 cd21 ct21), sl21⟩) (c21 : PySem.W.codeIn K cd21 "law" = true) (k21 : PySem.W.keepIn K (.ref f21) = true)
    (m0 : PySem.W.nsIn K mainGlobals "_law_net" = some (some (.ref f2)))
    (m1 : PySem.W.nsIn K mainGlobals "_law_taken" = some (some (.ref f0)))
    (m2 : PySem.W.nsIn K mainGlobals "heard" = some (some (.ref f12)))
    (m3 : PySem.W.nsIn K mainGlobals "links" = some (some (.ref f14)))
    (m4 : PySem.W.nsIn K mainGlobals "spoilers" = some (some (.ref f17)))
    (m5 : PySem.W.nsIn K mainGlobals "_law_alike" = some (some (.ref f18)))
    (m6 : PySem.W.nsIn K mainGlobals "clear" = some (some (.ref f20)))
    (m7 : PySem.W.nsIn K mainGlobals "_law_pick" = some (some (.ref f1)))
    (m8 : PySem.W.nsIn K mainGlobals "check_net" = some (some (.ref f9)))
    (m9 : PySem.W.nsIn K mainGlobals "check_senders" = some (some (.ref f10)))
    (m10 : PySem.W.nsIn K mainGlobals "heard_by" = some (some (.ref f11)))
    (m11 : PySem.W.nsIn K mainGlobals "need" = some (some (.ref f3)))
    (m12 : PySem.W.nsIn K mainGlobals "is_net" = some (some (.ref f8)))
    (m13 : PySem.W.nsIn K mainGlobals "are_letters" = some (some (.ref f4)))
    (m14 : PySem.W.nsIn K mainGlobals "is_station_row" = some (some (.ref f7)))
    (m15 : PySem.W.nsIn K mainGlobals "is_number" = some (some (.ref f5)))
    (m16 : PySem.W.nsIn K mainGlobals "is_rising" = some (some (.ref f6)))
    (m17 : PySem.W.nsIn K mainGlobals "all_links" = some (some (.ref f13)))
    (m18 : PySem.W.nsIn K mainGlobals "check_link" = some (some (.ref f16)))
    (m19 : PySem.W.nsIn K mainGlobals "is_link" = some (some (.ref f15)))
    (m20 : PySem.W.nsIn K mainGlobals "clear_links" = some (some (.ref f19)))
    (m21 : PySem.W.nsIn K mainGlobals "MOST_STATIONS" = some (some (.int 7 t21)))
    (m22 : PySem.W.nsIn K mainGlobals "LETTERS" = some (some (.str (PySem.Str.ofString "abcdefg") t22)))
    (m23 : PySem.W.nsIn K mainGlobals "SENDS" = some (some (.int (-3) t23)))
    (m24 : PySem.W.nsIn K mainGlobals "NOISE" = some (some (.int (-2) t24)))
    (m25 : PySem.W.nsIn K mainGlobals "SILENCE" = some (some (.int (-1) t25)))
    (m26 : PySem.W.nsIn K mainGlobals "all" = some none)
    (m27 : PySem.W.nsIn K mainGlobals "bool" = some none)
    (m28 : PySem.W.nsIn K mainGlobals "enumerate" = some none)
    (m29 : PySem.W.nsIn K mainGlobals "int" = some none)
    (m30 : PySem.W.nsIn K mainGlobals "isinstance" = some none)
    (m31 : PySem.W.nsIn K mainGlobals "len" = some none)
    (m32 : PySem.W.nsIn K mainGlobals "range" = some none)
    (m33 : PySem.W.nsIn K mainGlobals "set" = some none)
    (m34 : PySem.W.nsIn K mainGlobals "sorted" = some none)
    (m35 : PySem.W.nsIn K mainGlobals "str" = some none)
    (m36 : PySem.W.nsIn K mainGlobals "tuple" = some none)
    (m37 : PySem.W.nsIn K mainGlobals "zip" = some none) :
    ∃ fd : FuncData, (∀ (s : Shared) (v : Value), BindsTo s fd ⟨[v], []⟩ [("script", v)]) ∧ ∀ base : Heap, K.In base → base.Ns mainGlobals mg → FnOk l.prog w K mg base CX0 7 fa fd ["script"] (spD ⟨K, CA⟩ 1 M_law) := by
  have e := hfa.symm.trans (PySem.W.mg_of X G a21)
  cases e
  have F0 := fun_mk (st := s__law_taken) l0 c0 k0
  have b0 := F0.binds (ps := ["row", "many"]) fun _ _ _ _ _ _ us hl => match us, hl with | [_, _], _ => rfl
  have F1 := fun_mk (st := s__law_pick) l1 c1 k1
  have b1 := F1.binds (ps := ["row", "some"]) fun _ _ _ _ _ _ us hl => match us, hl with | [_, _], _ => rfl
  have F2 := fun_mk (st := s__law_net) l2 c2 k2
  have b2 := F2.binds (ps := ["row", "most"]) fun _ _ _ _ _ _ us hl => match us, hl with | [_, _], _ => rfl
  have F3 := fun_mk (st := s_need) l3 c3 k3
  have b3 := F3.binds (ps := ["is_valid", "name"]) fun _ _ _ _ _ _ us hl => match us, hl with | [_, _], _ => rfl
  have F4 := fun_mk (st := s_are_letters) l4 c4 k4
  have b4 := F4.binds (ps := ["value"]) fun _ _ _ _ _ _ us hl => match us, hl with | [_], _ => rfl
  have F5 := fun_mk (st := s_is_number) l5 c5 k5
  have b5 := F5.binds (ps := ["value", "least", "most"]) fun _ _ _ _ _ _ us hl => match us, hl with | [_, _, _], _ => rfl
  have F6 := fun_mk (st := s_is_rising) l6 c6 k6
  have b6 := F6.binds (ps := ["row"]) fun _ _ _ _ _ _ us hl => match us, hl with | [_], _ => rfl
  have F7 := fun_mk (st := s_is_station_row) l7 c7 k7
  have b7 := F7.binds (ps := ["value", "many"]) fun _ _ _ _ _ _ us hl => match us, hl with | [_, _], _ => rfl
  have F8 := fun_mk (st := s_is_net) l8 c8 k8
  have b8 := F8.binds (ps := ["value"]) fun _ _ _ _ _ _ us hl => match us, hl with | [_], _ => rfl
  have F9 := fun_mk (st := s_check_net) l9 c9 k9
  have b9 := F9.binds (ps := ["net"]) fun _ _ _ _ _ _ us hl => match us, hl with | [_], _ => rfl
  have F10 := fun_mk (st := s_check_senders) l10 c10 k10
  have b10 := F10.binds (ps := ["net", "senders"]) fun _ _ _ _ _ _ us hl => match us, hl with | [_, _], _ => rfl
  have F11 := fun_mk (st := s_heard_by) l11 c11 k11
  have b11 := F11.binds (ps := ["net", "station", "senders"]) fun _ _ _ _ _ _ us hl => match us, hl with | [_, _, _], _ => rfl
  have F12 := fun_mk (st := s_heard) l12 c12 k12
  have b12 := F12.binds (ps := ["net", "senders"]) fun _ _ _ _ _ _ us hl => match us, hl with | [_, _], _ => rfl
  have F13 := fun_mk (st := s_all_links) l13 c13 k13
  have b13 := F13.binds (ps := ["net"]) fun _ _ _ _ _ _ us hl => match us, hl with | [_], _ => rfl
  have F14 := fun_mk (st := s_links) l14 c14 k14
  have b14 := F14.binds (ps := ["net"]) fun _ _ _ _ _ _ us hl => match us, hl with | [_], _ => rfl
  have F15 := fun_mk (st := s_is_link) l15 c15 k15
  have b15 := F15.binds (ps := ["net", "value"]) fun _ _ _ _ _ _ us hl => match us, hl with | [_, _], _ => rfl
  have F16 := fun_mk (st := s_check_link) l16 c16 k16
  have b16 := F16.binds (ps := ["net", "link", "name"]) fun _ _ _ _ _ _ us hl => match us, hl with | [_, _, _], _ => rfl
  have F17 := fun_mk (st := s_spoilers) l17 c17 k17
  have b17 := F17.binds (ps := ["net", "link", "senders"]) fun _ _ _ _ _ _ us hl => match us, hl with | [_, _, _], _ => rfl
  have F18 := fun_mk (st := s__law_alike) l18 c18 k18
  have b18 := F18.binds (ps := ["found", "due"]) fun _ _ _ _ _ _ us hl => match us, hl with | [_, _], _ => rfl
  have F19 := fun_mk (st := s_clear_links) l19 c19 k19
  have b19 := F19.binds (ps := ["net", "senders"]) fun _ _ _ _ _ _ us hl => match us, hl with | [_, _], _ => rfl
  have F20 := fun_mk (st := s_clear) l20 c20 k20
  have b20 := F20.binds (ps := ["net", "senders"]) fun _ _ _ _ _ _ us hl => match us, hl with | [_, _], _ => rfl
  have F21 := fun_mk (st := s_law) l21 c21 k21
  exact ⟨PySem.W.fnOf "law" "law" (defArgs s_law) (defBody s_law) (defScope s_law) .none kV21 dc21 pm21 an21 cd21 ct21, fun s v => .of_eq rfl, fun base _ _ => ok_law ⟨_, _, F0, b0, _, _, F1, b1, _, _, F2, b2, _, _, F3, b3, _, _, F4, b4, _, _, F5, b5, _, _, F6, b6, _, _, F7, b7, _, _, F8, b8, _, _, F9, b9, _, _, F10, b10, _, _, F11, b11, _, _, F12, b12, _, _, F13, b13, _, _, F14, b14, _, _, F15, b15, _, _, F16, b16, _, _, F17, b17, _, _, F18, b18, _, _, F19, b19, _, _, F20, b20, PySem.W.mg_of X G m0, PySem.W.mg_of X G m1, PySem.W.mg_of X G m2, PySem.W.mg_of X G m3, PySem.W.mg_of X G m4, PySem.W.mg_of X G m5, PySem.W.mg_of X G m6, PySem.W.mg_of X G m7, PySem.W.mg_of X G m8, PySem.W.mg_of X G m9, PySem.W.mg_of X G m10, PySem.W.mg_of X G m11, PySem.W.mg_of X G m12, PySem.W.mg_of X G m13, PySem.W.mg_of X G m14, PySem.W.mg_of X G m15, PySem.W.mg_of X G m16, PySem.W.mg_of X G m17, PySem.W.mg_of X G m18, PySem.W.mg_of X G m19, PySem.W.mg_of X G m20, _, PySem.W.mg_of X G m21, _, PySem.W.mg_of X G m22, _, PySem.W.mg_of X G m23, _, PySem.W.mg_of X G m24, _, PySem.W.mg_of X G m25, PySem.W.mg_none_of X G m26, PySem.W.mg_none_of X G m27, PySem.W.mg_none_of X G m28, PySem.W.mg_none_of X G m29, PySem.W.mg_none_of X G m30, PySem.W.mg_none_of X G m31, PySem.W.mg_none_of X G m32, PySem.W.mg_none_of X G m33, PySem.W.mg_none_of X G m34, PySem.W.mg_none_of X G m35, PySem.W.mg_none_of X G m36, PySem.W.mg_none_of X G m37⟩ F21⟩
end Lk02
namespace Lk02
open PySem PySem.Spec PyProof.Rows L2 J
theorem tk_is {ns : List Int} {S : Sto} {m : Int} (h : RowS ns S) (h0 : 0 < m) (h1 : m < 1073741824) : Wp (M__law_taken [.ref 0, .int m] S) fun r => ∃ t, r.1 = .int t ∧ 0 ≤ t ∧ t < m ∧ RowS ns r.2 := tk_spec h h0 h1
theorem need_is {x : D} {S : Sto} : M_need [.bl true, x] S = some (.non, S) := fn_nx (Γ' := [.im (.bl true), .im x]) (by simp)
theorem num_is {v a b : Int} {S : Sto} (h : a ≤ v) (h2 : v ≤ b) : M_is_number [.int v, .int a, .int b] S = some (.bl true, S) := fn_rt (Γ' := []) (by simp [h, h2])
theorem wp_step {x y : Ms} {Γ Γ' : J.Env} {S S' : Sto} {Q : J.Out × J.Env × Sto → Prop} (h : x Γ S = some (.nx, Γ', S')) (k : Wp (y Γ' S') Q) : Wp (sSeq x y Γ S) Q := by rw [seq_nx h]; exact k
theorem wp_last {x : Ms} {Γ Γ' : J.Env} {S S' : Sto} {Q : J.Out × J.Env × Sto → Prop} (h : x Γ S = some (.nx, Γ', S')) (k : Q (.nx, Γ', S')) : Wp (x Γ S) Q := ⟨_, h, k⟩
theorem rising_is {xs : List Int} {S : Sto} (hs : xs.length ≤ 1000000) (h : xs.Pairwise (· < ·)) : M_is_rising [.tup (xs.map .int)] S = some (.bl true, S) := by
  refine fn_rt (Γ' := []) ?_
  obtain ⟨ys, q1, q2⟩ := all_v (vs := [1, 2]) (it := iA gZp (aC (eV 0) (aC (eSl (eV 0) (oS (eC (.int 1))) oN) aN))) (g := gTp 2 (gsC (gNm 1) (gsC (gNm 2) gsN))) (m := eB gLt (eV 1) (eV 2)) (Γ := [.im (.tup (xs.map .int)), .no, .no]) (S := S)
    (zipD (xs.map .int) ((xs.map D.int).drop 1)) (by simp [cut1]) (by rw [zipD_len]; simp; omega) (by simp) fun d hd => by
    obtain ⟨a, b, hab, rfl⟩ := mem_zip1 h hd
    exact ⟨_, by simp; rfl, by simp [hab]⟩
  simp [q1, q2]
/-- a rising row of stations below n -/
structure Row (n : Nat) (r : List Int) : Prop where
  up : r.Pairwise (· < ·)
  mem : ∀ a ∈ r, 0 ≤ a ∧ a < n
theorem Row.len {n : Nat} {r : List Int} (h : Row n r) : r.length ≤ n := by
  have nd : r.Nodup := h.up.imp fun h e => by omega
  have sub : r ⊆ upN 0 n := fun a ha => mem_upN.mpr (by have := h.mem a ha; omega)
  have := nd.length_le_of_subset sub
  rwa [upN_len] at this
theorem srow_is {n : Nat} {r : List Int} {S : Sto} (hn : n ≤ 1000) (h : Row n r) : M_is_station_row [.tup (r.map .int), .int n] S = some (.bl true, S) := by
  refine fn_rt (Γ' := []) ?_
  have hl := h.len
  obtain ⟨ys, q1, q2⟩ := all_v (vs := [2]) (it := iV gIt (eV 0)) (g := gNm 2) (m := eCall M_is_number (aC (eV 2) (aC (eC (.int 0)) (aC (eB J.gSub (eV 1) (eC (.int 1))) aN)))) (Γ := [.im (.tup (r.map .int)), .im (.int n), .no]) (S := S)
    (r.map .int) (by simp) (by simp; omega) (by simp) fun d hd => by
    obtain ⟨a, ha, rfl⟩ := List.mem_map.mp hd
    have := h.mem a ha
    exact ⟨_, rfl, by simp [num_is this.1 (show a ≤ (n : Int) - 1 by omega)]⟩
  simp [q1, q2, rising_is (S := S) (by omega) h.up]
def dRow (r : List Int) : D := .tup (r.map .int)
def dN (lab : Str) (ears : List (List Int)) : D := .tup [.str lab, .tup (ears.map dRow)]
structure Net (lab : Str) (ears : List (List Int)) : Prop where
  lab : Lab ears.length lab
  big : 1 ≤ ears.length ∧ ears.length ≤ 7
  row : ∀ (k : Nat) (r : List Int), ears[k]? = some r → Row ears.length r ∧ (k : Int) ∉ r
theorem letters_is {n : Nat} {lab : Str} {S : Sto} (hn : n ≤ 7) (h : Lab n lab) : M_are_letters [.str lab] S = some (.bl true, S) := by
  refine fn_rt (Γ' := []) ?_
  obtain ⟨ys, q1, q2⟩ := all_v (vs := [1]) (it := iV gIt (eV 0)) (g := gNm 1) (m := eB gIn (eV 1) (eC (.str (PySem.Str.ofString "abcdefg")))) (Γ := [.im (.str lab), .no]) (S := S)
    ((TL.tl lab).map fun c => .str ⟨#[c]⟩) (by simp [gIt, gStrI]) (by rw [List.length_map, h.1]; omega) (by simp) fun d hd => by
    obtain ⟨c, hc, rfl⟩ := List.mem_map.mp hd
    exact ⟨_, rfl, by simp [ag_in (h.2 c hc)]⟩
  simp [q1, q2]
theorem gLen_s {x : Str} (h : x.length ≤ 1000) : gLen [.str x] = some (.int x.length) := by
  show (if x.length ≤ 16777216 then some (D.int x.length) else none) = _
  rw [if_pos (by omega)]
theorem net_is {lab : Str} {ears : List (List Int)} {S : Sto} (N : Net lab ears) : M_is_net [dN lab ears] S = some (.bl true, S) := by
  refine fn_rt (Γ' := []) ?_
  have b := N.big
  have gl := gLen_s (x := lab) (by rw [N.lab.len]; omega)
  rw [N.lab.len] at gl
  obtain ⟨ys, q1, q2⟩ := all_v (vs := [3, 4]) (it := iA gEn (aC (eV 2) aN)) (g := gTp 2 (gsC (gNm 3) (gsC (gNm 4) gsN))) (m := eAnd (eCall M_is_station_row (aC (eV 4) (aC (eF gLen (aC (eV 1) aN)) aN))) (eB gNi (eV 3) (eV 4))) (Γ := [.im (dN lab ears), .im (.str lab), .im (.tup (ears.map dRow)), .no, .no]) (S := S)
    (enD 0 (ears.map dRow)) (by simp) (by rw [enD_len]; simp; omega) (by simp) fun d hd => by
    obtain ⟨i, e, h1, rfl⟩ := mem_enD hd
    rw [List.getElem?_map] at h1
    obtain ⟨r, h2, rfl⟩ := omap h1
    obtain ⟨ok, no⟩ := N.row i r h2
    exact ⟨_, by simp; rfl, by simp [gl, dRow, srow_is (S := S) (by omega) ok, no]⟩
  rw [dN] at *
  simp [q1, q2, gl, letters_is (S := S) b.2 N.lab, b.2, show (1 : Int) ≤ ears.length by omega, show (ears.length : Int) ≤ 7 by omega]
theorem cnet_is {lab : Str} {ears : List (List Int)} {S : Sto} (N : Net lab ears) : M_check_net [dN lab ears] S = some (.non, S) :=
  fn_nx (Γ' := [.im (dN lab ears)]) (by simp [net_is N, need_is])
theorem at0N {lab : Str} {ears : List (List Int)} : gIx (dN lab ears) (.int 0) = some (.str lab) := at0
theorem at1N {lab : Str} {ears : List (List Int)} : gIx (dN lab ears) (.int 1) = some (.tup (ears.map dRow)) := at1
theorem csend_is {lab : Str} {ears : List (List Int)} {s : List Int} {S : Sto} (N : Net lab ears) (h : Row ears.length s) : M_check_senders [dN lab ears, dRow s] S = some (.non, S) := by
  have b := N.big
  have gl := gLen_s (x := lab) (by rw [N.lab.len]; omega)
  rw [N.lab.len] at gl
  exact fn_nx (Γ' := [.im (dN lab ears), .im (dRow s)]) (by simp [at0N, gl, dRow, srow_is (S := S) (by omega) h, need_is])
/-! ### what is heard -/
def ear (ears : List (List Int)) (st : Int) : List Int := (ears[st.toNat]?).getD []
def hf (ears : List (List Int)) (st : Int) (s : List Int) : List Int := (ear ears st).filter fun a => decide (a ∈ s)
def hb (ears : List (List Int)) (st : Int) (s : List Int) : Int := if st ∈ s then -3 else match hf ears st s with
  | [] => -1
  | [x] => x
  | _ => -2
theorem ear_row {lab : Str} {ears : List (List Int)} (N : Net lab ears) {st : Int} (h : 0 ≤ st ∧ st < ears.length) : Row ears.length (ear ears st) ∧ st ∉ ear ears st ∧ atI (ears.map dRow) st = some (dRow (ear ears st)) := by
  obtain ⟨k, rfl⟩ := Int.eq_ofNat_of_zero_le h.1
  have hk : k < ears.length := by omega
  have e : ear ears (k : Int) = ears[k] := by unfold ear; rw [Int.toNat_natCast, List.getElem?_eq_getElem hk]; rfl
  have := N.row k ears[k] (List.getElem?_eq_getElem hk)
  rw [e, atI_nn, List.getElem?_map, List.getElem?_eq_getElem hk]
  exact ⟨this.1, this.2, rfl⟩
theorem hb_is {lab : Str} {ears : List (List Int)} {s : List Int} {st : Int} {S : Sto} (N : Net lab ears) (h : 0 ≤ st ∧ st < ears.length) : M_heard_by [dN lab ears, .int st, dRow s] S = some (.int (hb ears st s), S) := by
  refine fn_rt (Γ' := []) ?_
  obtain ⟨er, no, ea⟩ := ear_row N h
  have b := N.big
  have el := er.len
  have q := filt_v (vs := [4]) (it := iV gIt (eB gIx (eB gIx (eV 0) (eC (.int 1))) (eV 1))) (g := gNm 4) (t := tV gB (eB gIn (eV 4) (eV 2))) (m := eV 4) (Γ := [.im (dN lab ears), .im (.int st), .im (dRow s), .no, .no]) (S := S)
    (ear ears st) D.int (fun a => decide (a ∈ s)) D.int (by simp [at1N, ea, dRow]) (by omega) (by simp) fun a ha => ⟨_, rfl, by simp [dRow], by simp⟩
  unfold hb
  by_cases c : st ∈ s
  · simp [dRow, c]
  · have e : (ear ears st).filter (fun a => decide (a ∈ s)) = hf ears st s := rfl
    rw [e] at q
    rw [if_neg c]
    simp only [dRow] at q
    cases hh : hf ears st s with
    | nil => rw [hh] at q; simp at q; simp [dRow, c, q, frzE]
    | cons x xs =>
      cases xs with
      | nil => rw [hh] at q; simp at q; simp [dRow, c, q, frzE, at0]
      | cons y ys =>
        rw [hh] at q
        simp only [List.map_cons] at q
        have ne : ¬ ((ys.length : Int) + 1 + 1 = 1) := by omega
        simp [dRow, c, q, frzE, ne]
end Lk02
namespace Lk02
open PySem PySem.Spec PyProof.Rows L2 J
section
variable {lab : Str} {ears : List (List Int)} {s : List Int} {S : Sto}
theorem lenN (N : Net lab ears) : gLen [.str lab] = some (.int ears.length) := by
  have gl := gLen_s (x := lab) (by have := N.big; rw [N.lab.len]; omega)
  rw [N.lab.len] at gl
  exact gl
theorem gR1_n {n : Nat} (h : n ≤ 1000) : gR1 [.int (n : Int)] = some ((upN 0 n).map .int) := by
  rw [gR1_i (by omega), Int.toNat_natCast, rng_upN]
def hd (ears : List (List Int)) (s : List Int) : List Int := (upN 0 ears.length).map fun st => hb ears st s
theorem heard_is (N : Net lab ears) (h : Row ears.length s) : M_heard [dN lab ears, dRow s] S = some (.tup ((hd ears s).map .int), S) := by
  refine fn_rt (Γ' := []) ?_
  have b := N.big
  have q := map2_v (vs := [2]) (it := iA gR1 (aC (eF gLen (aC (eB gIx (eV 0) (eC (.int 0))) aN)) aN)) (g := gNm 2) (m := eCall M_heard_by (aC (eV 0) (aC (eV 2) (aC (eV 1) aN)))) (Γ := [.im (dN lab ears), .im (dRow s), .no]) (S := S)
    (upN 0 ears.length) D.int (fun st => .int (hb ears st s)) (by simp [at0N, lenN N, gR1_n (show ears.length ≤ 1000 by omega)]) (by rw [upN_len]; omega) (by simp) fun st hst => by
      have := mem_upN.mp hst
      exact ⟨_, rfl, by simp [hb_is (S := S) N (show 0 ≤ st ∧ st < ears.length by omega)]⟩
  rw [show (upN 0 ears.length).map (fun st => D.int (hb ears st s)) = (hd ears s).map .int by unfold hd; rw [List.map_map]; rfl] at q
  simp [cnet_is N, csend_is N h, q]
/-! ### links -/
def alk : Nat → List (List Int) → List (Int × Int)
  | _, [] => []
  | k, r :: rs => r.map (fun o => (o, (k : Int))) ++ alk (k + 1) rs
theorem alk_len {n : Nat} : ∀ (rs : List (List Int)) (k : Nat), (∀ r ∈ rs, r.length ≤ n) → (alk k rs).length ≤ n * rs.length
  | [], _, _ => by simp [alk]
  | r :: rs, k, h => by
    have := alk_len rs (k + 1) fun r' hr => h r' (by simp [hr])
    have := h r (by simp)
    simp only [alk, List.length_append, List.length_map, List.length_cons, Nat.mul_add, Nat.mul_one]
    omega
theorem mem_alk {a b : Int} : ∀ {rs : List (List Int)} {k : Nat}, (a, b) ∈ alk k rs ↔ ∃ (i : Nat) (r : List Int), rs[i]? = some r ∧ b = (k : Int) + i ∧ a ∈ r
  | [], k => by simp [alk]
  | r :: rs, k => by
    rw [alk, List.mem_append, mem_alk (rs := rs)]
    constructor
    · rintro (h | ⟨i, r', h1, h2, h3⟩)
      · obtain ⟨o, ho, e⟩ := List.mem_map.mp h
        cases e
        exact ⟨0, r, rfl, by simp, ho⟩
      · exact ⟨i + 1, r', by simpa using h1, by omega, h3⟩
    · rintro ⟨i, r', h1, h2, h3⟩
      cases i with
      | zero =>
        simp at h1
        subst h1
        exact .inl (List.mem_map.mpr ⟨a, h3, by rw [h2]; simp⟩)
      | succ i => exact .inr ⟨i, r', by simpa using h1, by omega, h3⟩
theorem alk_nd : ∀ (rs : List (List Int)) (k : Nat), (∀ r ∈ rs, r.Nodup) → (alk k rs).Nodup
  | [], _, _ => .nil
  | r :: rs, k, h => by
    rw [alk, List.nodup_append]
    refine ⟨?_, alk_nd rs (k + 1) fun r' hr => h r' (by simp [hr]), ?_⟩
    · have := h r (by simp)
      exact List.pairwise_map.mpr (this.imp fun ne e => ne (by cases e; rfl))
    · intro p hp q hq e
      subst e
      obtain ⟨o, _, rfl⟩ := List.mem_map.mp hp
      obtain ⟨i, r', _, h2, _⟩ := mem_alk.mp hq
      omega
def al (ears : List (List Int)) : List (Int × Int) := isort pk (alk 0 ears)
theorem rows_of (N : Net lab ears) {r : List Int} (h : r ∈ ears) : Row ears.length r := by
  obtain ⟨k, hk⟩ := List.mem_iff_getElem?.mp h
  exact (N.row k r hk).1
theorem mem_al (N : Net lab ears) {a b : Int} : (a, b) ∈ al ears ↔ (0 ≤ b ∧ b < ears.length) ∧ a ∈ ear ears b := by
  unfold al
  rw [mem_isort, mem_alk]
  constructor
  · rintro ⟨i, r, h1, h2, h3⟩
    have hi := (List.getElem?_eq_some_iff.mp h1).1
    refine ⟨by omega, ?_⟩
    unfold ear
    rw [show b.toNat = i by omega, h1]
    exact h3
  · rintro ⟨h1, h2⟩
    have hk : b.toNat < ears.length := by omega
    unfold ear at h2
    rw [List.getElem?_eq_getElem hk] at h2
    exact ⟨b.toNat, ears[b.toNat], List.getElem?_eq_getElem hk, by omega, h2⟩
theorem al_bd (N : Net lab ears) : ∀ p ∈ alk 0 ears, 0 ≤ p.1 ∧ p.1 < 64 ∧ 0 ≤ p.2 ∧ p.2 < 64 := fun p hp => by
  obtain ⟨i, r, h1, h2, h3⟩ := mem_alk.mp (show (p.1, p.2) ∈ alk 0 ears from hp)
  have hi := (List.getElem?_eq_some_iff.mp h1).1
  have := (N.row i r h1).1.mem p.1 h3
  have := N.big
  omega
theorem al_len (N : Net lab ears) : (alk 0 ears).length < 64 := by
  have := alk_len (n := 7) ears 0 fun r hr => by have := (rows_of N hr).len; have := N.big; omega
  have := N.big
  omega
theorem links_loop : ∀ (rs : List (List Int)) (k : Nat) (found : List (Int × Int)) {x0 x2 x3 : Sl}, found.length + (alk k rs).length ≤ 1000 → (∀ r ∈ rs, r.length ≤ 1000) → ∃ x2' x3',
    forGo (gTp 2 (gsC (gNm 2) (gsC (gNm 3) gsN))) b_all_links_0 (enD k (rs.map dRow)) [x0, .ow (.lst (found.map dP)), x2, x3, .no] S = some (.nx, [x0, .ow (.lst ((found ++ alk k rs).map dP)), x2', x3', .no], S)
  | [], k, found, x0, x2, x3, _, _ => ⟨x2, x3, by simp [forGo, alk, enD]⟩
  | r :: rs, k, found, x0, x2, x3, hl, hr => by
    rw [alk, List.length_append, List.length_map] at hl
    obtain ⟨y2, y3, e⟩ := links_loop rs (k + 1) (found ++ r.map fun o => (o, (k : Int))) (x0 := x0) (x2 := .im (.int k)) (x3 := .im (dRow r)) (by simp; omega) (fun r' h => hr r' (by simp [h]))
    refine ⟨y2, y3, ?_⟩
    have q := map2_v (vs := [4]) (it := iV gIt (eV 3)) (g := gNm 4) (m := eF gTup (aC (eV 4) (aC (eV 2) aN))) (Γ := [x0, .ow (.lst (found.map dP)), .im (.int k), .im (dRow r), .no]) (S := S)
      r D.int (fun o => dP (o, (k : Int))) (by simp [dRow]) (by have := hr r (by simp); omega) (by simp) fun o ho => ⟨_, rfl, by simp [dP]⟩
    rw [show r.map (fun o => dP (o, (k : Int))) = (r.map fun o => (o, (k : Int))).map dP by rw [List.map_map]; rfl] at q
    rw [alk, ← List.append_assoc]
    have lb : (r.map fun o => (o, (k : Int))).length ≤ 1000 := by rw [List.length_map]; exact hr r (by simp)
    have lf : found.length ≤ 1000 := by omega
    generalize (r.map fun o => (o, (k : Int))) = bs at *
    have g := gExt_l (xs := found.map dP) (ys := bs.map dP) (by rw [List.length_map, List.length_map]; omega)
    rw [← List.map_append] at g
    generalize found ++ bs = fb at *
    simp only [List.map_cons, enD, forGo, gTp_ap, gsC_ap, gsN_ap, gNm_ap, List.length_cons, List.length_nil, if_true, Option.bind_some, List.set]
    rw [List.map_append] at e
    simp [b_all_links_0, q, g]
    exact e
theorem all_is (N : Net lab ears) : M_all_links [dN lab ears] S = some (.tup ((al ears).map dP), S) := by
  refine fn_rt (Γ' := []) ?_
  obtain ⟨y2, y3, e⟩ := links_loop (S := S) ears 0 [] (x0 := .im (dN lab ears)) (x2 := .no) (x3 := .no) (by have := al_len N; simp; omega) (fun r hr => by have := (rows_of N hr).len; have := N.big; omega)
  have g := gSort_p (al_bd N) (al_len N)
  simp only [List.map_nil, List.nil_append] at e
  rw [show isort pk (alk 0 ears) = al ears from rfl] at g
  generalize alk 0 ears = bs at *
  simp [at1N, e, frzE, g]
theorem links_is (N : Net lab ears) : M_links [dN lab ears] S = some (.tup ((al ears).map dP), S) :=
  fn_rt (Γ' := []) (by simp [cnet_is N, all_is N])
/-! ### clear links -/
def clp (ears : List (List Int)) (s : List Int) (L : List Int) : List (Int × Int) := (L.filter fun st => decide (0 ≤ hb ears st s)).map fun st => (hb ears st s, st)
def cl (ears : List (List Int)) (s : List Int) : List (Int × Int) := isort pk (clp ears s (upN 0 ears.length))
theorem clear_loop (N : Net lab ears) : ∀ (L : List Int) (found : List (Int × Int)) {x3 x4 : Sl}, (∀ st ∈ L, 0 ≤ st ∧ st < ears.length) → found.length + L.length ≤ 1000 → ∃ x3' x4',
    forGo (gNm 3) b_clear_links_0 (L.map .int) [.im (dN lab ears), .im (dRow s), .ow (.lst (found.map dP)), x3, x4] S = some (.nx, [.im (dN lab ears), .im (dRow s), .ow (.lst ((found ++ clp ears s L).map dP)), x3', x4'], S)
  | [], found, x3, x4, _, _ => ⟨x3, x4, by simp [forGo, clp]⟩
  | st :: L, found, x3, x4, hL, hl => by
    simp only [List.length_cons] at hl
    have h0 := hL st (by simp)
    by_cases c : 0 ≤ hb ears st s
    · obtain ⟨y3, y4, e⟩ := clear_loop N L (found ++ [(hb ears st s, st)]) (x3 := .im (.int st)) (x4 := .im (.int (hb ears st s))) (fun t ht => hL t (by simp [ht])) (by simp; omega)
      refine ⟨y3, y4, ?_⟩
      have g := gApp_l (xs := found.map dP) (d := dP (hb ears st s, st)) (by rw [List.length_map]; omega)
      have e2 : clp ears s (st :: L) = (hb ears st s, st) :: clp ears s L := by unfold clp; rw [List.filter_cons_of_pos (by simpa using c)]; rfl
      rw [e2]
      rw [List.append_assoc, List.singleton_append] at e
      generalize found ++ (hb ears st s, st) :: clp ears s L = ff at *
      rw [List.map_append, List.map_cons, List.map_nil] at e
      simp only [dP] at g e
      simp [forGo, hb_is (S := S) N h0, c, g]
      exact e
    · obtain ⟨y3, y4, e⟩ := clear_loop N L found (x3 := .im (.int st)) (x4 := .im (.int (hb ears st s))) (fun t ht => hL t (by simp [ht])) (by omega)
      refine ⟨y3, y4, ?_⟩
      have e2 : clp ears s (st :: L) = clp ears s L := by unfold clp; rw [List.filter_cons_of_neg (by simpa using c)]
      rw [e2]
      generalize found ++ clp ears s L = ff at *
      simp [forGo, hb_is (S := S) N h0, c]
      exact e
theorem hb_pos {st : Int} (h : 0 ≤ hb ears st s) : st ∉ s ∧ hf ears st s = [hb ears st s] := by
  unfold hb at h ⊢
  split at h
  · omega
  · next c =>
    rw [if_neg c]
    refine ⟨c, ?_⟩
    split at h
    · omega
    · next x e => rw [e]
    · omega
theorem hb_mem {st : Int} (h : 0 ≤ hb ears st s) : hb ears st s ∈ ear ears st ∧ hb ears st s ∈ s := by
  have := (hb_pos h).2
  have m : hb ears st s ∈ hf ears st s := by rw [this]; simp
  simpa [hf] using m
theorem clp_bd (N : Net lab ears) : ∀ p ∈ clp ears s (upN 0 ears.length), 0 ≤ p.1 ∧ p.1 < 64 ∧ 0 ≤ p.2 ∧ p.2 < 64 := fun p hp => by
  unfold clp at hp
  obtain ⟨st, hst, rfl⟩ := List.mem_map.mp hp
  rw [List.mem_filter] at hst
  have h1 := mem_upN.mp hst.1
  have h2 : 0 ≤ hb ears st s := by simpa using hst.2
  have := (ear_row N (show 0 ≤ st ∧ st < ears.length by omega)).1.mem _ (hb_mem h2).1
  have := N.big
  simp only
  omega
theorem clp_len (L : List Int) : (clp ears s L).length ≤ L.length := by
  unfold clp
  rw [List.length_map]
  exact List.length_filter_le _ _
theorem clinks_is (N : Net lab ears) : M_clear_links [dN lab ears, dRow s] S = some (.tup ((cl ears s).map dP), S) := by
  refine fn_rt (Γ' := []) ?_
  have b := N.big
  obtain ⟨y3, y4, e⟩ := clear_loop (S := S) (s := s) N (upN 0 ears.length) [] (x3 := .no) (x4 := .no) (fun st h => by have := mem_upN.mp h; omega) (by rw [upN_len]; simp; omega)
  have g := gSort_p (clp_bd (s := s) N) (by have := clp_len (ears := ears) (s := s) (upN 0 ears.length); rw [upN_len] at this; omega)
  simp only [List.map_nil, List.nil_append] at e
  rw [show isort pk (clp ears s (upN 0 ears.length)) = cl ears s from rfl] at g
  generalize clp ears s (upN 0 ears.length) = bs at *
  simp [at0N, lenN N, gR1_n (show ears.length ≤ 1000 by omega), e, frzE, g]
theorem clear_is (N : Net lab ears) (h : Row ears.length s) : M_clear [dN lab ears, dRow s] S = some (.tup ((cl ears s).map dP), S) :=
  fn_rt (Γ' := []) (by simp [cnet_is N, csend_is N h, clinks_is N])
theorem mem_cl {a b : Int} : (a, b) ∈ cl ears s ↔ (0 ≤ b ∧ b < ears.length) ∧ 0 ≤ hb ears b s ∧ a = hb ears b s := by
  unfold cl clp
  rw [mem_isort, List.mem_map]
  constructor
  · rintro ⟨st, h, e⟩
    cases e
    rw [List.mem_filter] at h
    have := mem_upN.mp h.1
    exact ⟨by omega, by simpa using h.2, rfl⟩
  · rintro ⟨h1, h2, rfl⟩
    exact ⟨b, List.mem_filter.mpr ⟨mem_upN.mpr (by omega), by simpa using h2⟩, rfl⟩
/-! ### spoilers -/
theorem clink_is (N : Net lab ears) {a b : Int} {x : D} (h : (a, b) ∈ al ears) : M_check_link [dN lab ears, dP (a, b), x] S = some (.non, S) := by
  obtain ⟨h1, h2⟩ := (mem_al N).mp h
  obtain ⟨er, no, ea⟩ := ear_row N h1
  have ha := er.mem a h2
  obtain ⟨ys, q1, q2⟩ := all_v (vs := [2]) (it := iV gIt (eV 1)) (g := gNm 2) (m := eCall M_is_number (aC (eV 2) (aC (eC (.int 0)) (aC (eB J.gSub (eF gLen (aC (eB gIx (eV 0) (eC (.int 0))) aN)) (eC (.int 1))) aN)))) (Γ := [.im (dN lab ears), .im (dP (a, b)), .no]) (S := S)
    ([a, b].map .int) (by simp [dP]) (by simp) (by simp) fun d hd => by
    obtain ⟨c, hc, rfl⟩ := List.mem_map.mp hd
    have hc2 : 0 ≤ c ∧ c ≤ (ears.length : Int) - 1 := by
      simp at hc
      rcases hc with rfl | rfl <;> omega
    exact ⟨_, rfl, by simp [at0N, lenN N, num_is hc2.1 hc2.2]⟩
  have il : M_is_link [dN lab ears, dP (a, b)] S = some (.bl true, S) := by
    refine fn_rt (Γ' := []) ?_
    simp only [dP] at q1
    simp [dP, q1, q2, at0, at1, at1N, ea, dRow, h2]
  exact fn_nx (Γ' := [.im (dN lab ears), .im (dP (a, b)), .im x]) (by simp [il, need_is])
def sp (ears : List (List Int)) (l : Int × Int) (s : List Int) : List Int := s.filter fun o => !(o == l.1) && (o == l.2 || decide (o ∈ ear ears l.2))
theorem spoil_is (N : Net lab ears) {a b : Int} (h : (a, b) ∈ al ears) (hs : Row ears.length s) : M_spoilers [dN lab ears, dP (a, b), dRow s] S = some (.tup ((sp ears (a, b) s).map .int), S) := by
  refine fn_rt (Γ' := []) ?_
  obtain ⟨h1, h2⟩ := (mem_al N).mp h
  obtain ⟨er, no, ea⟩ := ear_row N h1
  have q := filt_v (vs := [5]) (it := iV gIt (eV 2)) (g := gNm 5) (t := tAnd (tV gB (eB gNe (eV 5) (eV 3))) (tOr (tV gB (eB gEq (eV 5) (eV 4))) (tV gB (eB gIn (eV 5) (eB gIx (eB gIx (eV 0) (eC (.int 1))) (eV 4)))))) (m := eV 5) (Γ := [.im (dN lab ears), .im (dP (a, b)), .im (dRow s), .im (.int a), .im (.int b), .no]) (S := S)
    s D.int (fun o => !(o == a) && (o == b || decide (o ∈ ear ears b))) D.int (by simp [dRow]) (by have := hs.len; have := N.big; omega) (by simp) fun o ho => ⟨_, rfl, by
      by_cases c1 : o = a
      · simp [c1]
      · by_cases c2 : o = b
        · subst c2; simp [c1]
        · have e1 : (o == a) = false := by simp [c1]
          have e2 : (o == b) = false := by simp [c2]
          simp [e1, e2, c1, c2, at1N, ea, dRow], by simp⟩
  rw [show s.filter (fun o => !(o == a) && (o == b || decide (o ∈ ear ears b))) = sp ears (a, b) s from rfl] at q
  simp only [dP] at q
  have cl' := clink_is (S := S) (x := .str (PySem.Str.ofString "link")) N h
  simp only [dP] at cl'
  simp [dP, cnet_is N, cl', csend_is N hs, q]
/-! ### alike -/
theorem alike_i {n : Nat} {a : Int} : M__law_alike (n + 1) [.int a, .int a] S = some (.bl true, S) := fn_rt (Γ' := []) (by simp)
theorem alike_t {n : Nat} {ds : List D} (hl : ds.length ≤ 1000) (h : ∀ d ∈ ds, M__law_alike n [d, d] S = some (.bl true, S)) : M__law_alike (n + 1) [.tup ds, .tup ds] S = some (.bl true, S) := by
  refine fn_rt (Γ' := []) ?_
  have q := filt_v (vs := [2]) (it := iA gR1 (aC (eF gLen (aC (eV 1) aN)) aN)) (g := gNm 2) (t := tNot (tV gTru (eCall (M__law_alike n) (aC (eB gIx (eV 0) (eV 2)) (aC (eB gIx (eV 1) (eV 2)) aN))))) (m := eV 2) (Γ := [.im (.tup ds), .im (.tup ds), .no]) (S := S)
    (upN 0 ds.length) D.int (fun _ => false) D.int (by simp [gR1_n hl]) (by rw [upN_len]; omega) (by simp) fun a ha => by
      have := mem_upN.mp ha
      obtain ⟨k, rfl⟩ := Int.eq_ofNat_of_zero_le this.1
      have hk : k < ds.length := by omega
      have e : atI ds (k : Int) = some ds[k] := by rw [atI_nn, List.getElem?_eq_getElem hk]
      exact ⟨_, rfl, by simp [e, h ds[k] (List.getElem_mem hk)], by simp⟩
  rw [show (upN 0 ds.length).filter (fun _ => false) = [] from by simp] at q
  have ge : gEq (.lst []) (.lst []) = some (.bl true) := rfl
  simp [q, ge]
theorem alike_ints {n : Nat} {xs : List Int} (hl : xs.length ≤ 1000) : M__law_alike (n + 2) [.tup (xs.map .int), .tup (xs.map .int)] S = some (.bl true, S) :=
  alike_t (by simpa using hl) fun d hd => by obtain ⟨a, _, rfl⟩ := List.mem_map.mp hd; exact alike_i
theorem alike_pairs {n : Nat} {xs : List (Int × Int)} (hl : xs.length ≤ 1000) : M__law_alike (n + 3) [.tup (xs.map dP), .tup (xs.map dP)] S = some (.bl true, S) :=
  alike_t (by simpa using hl) fun d hd => by obtain ⟨a, _, rfl⟩ := List.mem_map.mp hd; exact alike_ints (xs := [a.1, a.2]) (by simp)
end
end Lk02
namespace Lk02
open PySem PySem.Spec PyProof.Rows L2 J
theorem pick_is {ns : List Int} {S : Sto} {xs : List D} (h : RowS ns S) (h0 : 0 < xs.length) (h1 : xs.length < 1000) : ∃ x S', M__law_pick [.ref 0, .lst xs] S = some (x, S') ∧ x ∈ xs ∧ RowS ns S' := by
  obtain ⟨⟨t, S1⟩, e, t', rfl, t0, t1, h'⟩ := tk_is (m := xs.length) h (by omega) (by omega)
  obtain ⟨k, rfl⟩ := Int.eq_ofNat_of_zero_le t0
  have hk : k < xs.length := by simp at t1; omega
  refine ⟨xs[k], S1, fn_rt (Γ' := []) ?_, List.getElem_mem hk, h'⟩
  have ea : atI xs (k : Int) = some xs[k] := by rw [atI_nn, List.getElem?_eq_getElem hk]
  simp [e, ea]
theorem pick_s {ns : List Int} {S : Sto} {n : Nat} {x : Str} (h : RowS ns S) (hx : Lab n x) (h0 : 0 < n) (h1 : n < 1000) : ∃ z S', M__law_pick [.ref 0, .str x] S = some (.str z, S') ∧ Lab 1 z ∧ RowS ns S' := by
  obtain ⟨⟨t, S1⟩, e, t', rfl, t0, t1, h'⟩ := tk_is (m := n) h (by omega) (by omega)
  obtain ⟨k, rfl⟩ := Int.eq_ofNat_of_zero_le t0
  have hk : k < (TL.tl x).length := by rw [hx.1]; simp at t1; omega
  have gl := gLen_s (x := x) (by rw [hx.len]; omega)
  rw [hx.len] at gl
  refine ⟨⟨#[(TL.tl x)[k]]⟩, S1, fn_rt (Γ' := []) ?_, ⟨rfl, fun c hc => ?_⟩, h'⟩
  · have ea : gIx (.str x) (.int (k : Int)) = some (.str ⟨#[(TL.tl x)[k]]⟩) := by
      show (if x.length ≤ 16777216 then (atI x.cps.toList (k : Int)).map fun c => D.str ⟨#[c]⟩ else none) = _
      rw [if_pos (by rw [hx.len]; omega), atI_nn, List.getElem?_eq_getElem hk]; rfl
    simp [gl, e, ea]
  · have : c = (TL.tl x)[k] := by simpa [TL.tl] using hc
    rw [this]
    exact hx.2 _ (List.getElem_mem hk)
theorem lab1 : Lab 2 (PySem.Str.ofString "ab") := ⟨by decide +kernel, by unfold isAG; decide +kernel⟩
theorem lab2 : Lab 3 (PySem.Str.ofString "abc") := ⟨by decide +kernel, by unfold isAG; decide +kernel⟩
theorem lab3 : Lab 7 (PySem.Str.ofString "abcdefg") := ⟨by decide +kernel, by unfold isAG; decide +kernel⟩
theorem lab4 : Lab 7 (PySem.Str.ofString "gfedcba") := ⟨by decide +kernel, by unfold isAG; decide +kernel⟩
theorem lab5 : Lab 1 (PySem.Str.ofString "a") := ⟨by decide +kernel, by unfold isAG; decide +kernel⟩
theorem lab6 : Lab 7 (PySem.Str.ofString "cgbeafd") := ⟨by decide +kernel, by unfold isAG; decide +kernel⟩
theorem lab_cut {n : Nat} {x : Str} (h : Lab 7 x) (hn : n ≤ 7) : gSl (.str x) none (some (n : Int)) = some (.str (cutS x none (some (n : Int)))) ∧ Lab n (cutS x none (some (n : Int))) := by
  constructor
  · show (if x.length ≤ 16777216 then some (D.str (cutS x none (some (n : Int)))) else none) = _
    rw [if_pos (by rw [h.len]; omega)]
  · have e : TL.tl (cutS x none (some (n : Int))) = (TL.tl x).take n := by
      show (((x.cps.toList.drop (HT.sIx x.length 0 none)).take (HT.sIx x.length x.length (some (n : Int)) - HT.sIx x.length 0 none)).toArray).toList = _
      rw [HT.sIx_none, HT.sIx_nat, h.len, Nat.sub_zero, List.drop_zero, Nat.min_eq_left hn]
    constructor
    · rw [e, List.length_take, h.1]; omega
    · intro c hc
      rw [e] at hc
      exact h.2 c (List.mem_of_mem_take hc)
theorem gJoin_l {zs : List Str} (h : ∀ z ∈ zs, Lab 1 z) (hl : zs.length ≤ 1000) : gJoin (.str (PySem.Str.ofString "")) (.lst (zs.map .str)) = some (.str (Txt.join (PySem.Str.ofString "") zs)) := by
  show (strsD (zs.map D.str)).bind _ = _
  rw [strsD_map, Option.bind_some]
  have e : ∀ ys : List Str, (∀ z ∈ ys, Lab 1 z) → (ys.map (·.length)).sum = ys.length := fun ys => by
    induction ys with
    | nil => intro _; rfl
    | cons y ys ih =>
      intro h
      rw [List.map_cons, List.sum_cons, (h y (by simp)).len, ih fun z hz => h z (by simp [hz]), List.length_cons]
      omega
  rw [if_pos (by rw [e zs h, show (PySem.Str.ofString "").length = 0 by decide +kernel]; omega)]
theorem f2_strs {ds ys : List D} (h : F2 (fun _ y => ∃ z : Str, y = .str z ∧ Lab 1 z) ds ys) : ∃ zs : List Str, zs.length = ds.length ∧ ys = zs.map .str ∧ ∀ z ∈ zs, Lab 1 z := by
  induction h with
  | nil => exact ⟨[], rfl, rfl, by simp⟩
  | cons q _ ih =>
    obtain ⟨z, rfl, hz⟩ := q
    obtain ⟨zs, h1, h2, h3⟩ := ih
    refine ⟨z :: zs, by simp [h1], by rw [h2]; rfl, fun r hr => ?_⟩
    rcases List.mem_cons.mp hr with rfl | hr
    · exact hz
    · exact h3 r hr
def pw (o : Int) : Int := (([1, 2, 4, 8, 16, 32, 64] : List Int)[o.toNat]?).getD 1
theorem pw_is {o : Int} (h : 0 ≤ o ∧ o < 7) : gIx (.tup [.int 1, .int 2, .int 4, .int 8, .int 16, .int 32, .int 64]) (.int o) = some (.int (pw o)) ∧ 0 < pw o ∧ pw o < 1073741824 := by
  have : o = 0 ∨ o = 1 ∨ o = 2 ∨ o = 3 ∨ o = 4 ∨ o = 5 ∨ o = 6 := by omega
  rcases this with rfl | rfl | rfl | rfl | rfl | rfl | rfl <;> exact ⟨rfl, by decide, by decide⟩
theorem gTup7 {a b c d e f g : D} : gTup [a, b, c, d, e, f, g] = some (.tup [a, b, c, d, e, f, g]) := rfl
theorem gLst5 {a b c d e : D} : gLst [a, b, c, d, e] = some (.lst [a, b, c, d, e]) := rfl
theorem row_sub {n : Nat} {r : List Int} (h : List.Sublist r (upN 0 n)) : Row n r := ⟨(upN_pw n 0).sublist h, fun a ha => by have := mem_upN.mp (h.subset ha); omega⟩
def bitq (bits o : Int) : Bool := (bits / pw o) % 2 == 1
theorem net_body {ns : List Int} {S : Sto} {n k : Nat} {es : List (List Int)} {x1 x3 x5 x7 x8 x9 : Sl} (hS : RowS ns S) (hn : n ≤ 7) (hk : k < n) (hlen : es.length = k) :
    Wp (b__law_net_0 [.im (.ref 0), x1, .im (.int n), x3, .ow (.lst (es.map dRow)), x5, .im (.int k), x7, x8, x9, .no] S) fun r => r.1 = .nx ∧ ∃ (rw : List Int) (x7 x8 x9 : Sl), Row n rw ∧ (k : Int) ∉ rw ∧ r.2.1 = [.im (.ref 0), x1, .im (.int n), x3, .ow (.lst ((es ++ [rw]).map dRow)), x5, .im (.int k), x7, x8, x9, .no] ∧ RowS ns r.2.2 := by
  unfold b__law_net_0
  obtain ⟨⟨_, S1⟩, e1, bits, rfl, a1, a2, hS1⟩ := tk_is (m := 128) hS (by omega) (by omega)
  obtain ⟨⟨_, S2⟩, e2, t2, rfl, b1, b2, hS2⟩ := tk_is (m := 2) hS1 (by omega) (by omega)
  simp only at e2 hS2
  have hth : ∃ thin S3, RowS ns S3 ∧ sPar [7, 8] (vCs (vI (eCall M__law_taken (aC (eV 0) (aC (eC (.int 128)) aN)))) (vCs (vI (eIf (tV gB (eB gEq (eCall M__law_taken (aC (eV 0) (aC (eC (.int 2)) aN))) (eC (.int 0)))) (eCall M__law_taken (aC (eV 0) (aC (eC (.int 128)) aN))) (eC (.int 127)))) vN)) [.im (.ref 0), x1, .im (.int n), x3, .ow (.lst (es.map dRow)), x5, .im (.int k), x7, x8, x9, .no] S =
      some (.nx, [.im (.ref 0), x1, .im (.int n), x3, .ow (.lst (es.map dRow)), x5, .im (.int k), .im (.int bits), .im (.int thin), x9, .no], S3) := by
    by_cases c : t2 = 0
    · subst c
      obtain ⟨⟨_, S3⟩, e3, thin, rfl, c1, c2, hS3⟩ := tk_is (m := 128) hS2 (by omega) (by omega)
      exact ⟨thin, S3, hS3, by simp [e1, e2, e3]⟩
    · exact ⟨127, S2, hS2, by simp [e1, e2, c]⟩
  obtain ⟨thin, S3, hS3, e3⟩ := hth
  refine wp_step e3 ?_
  have er := gR1_n (n := n) (by omega)
  have q1 := filt_v (vs := [10]) (it := iA gR1 (aC (eV 2) aN)) (g := gNm 10) (t := tV gB (eB gEq (eB gMod (eF gInt (aC (eB gDiv (eV 7) (eB gIx (eF gTup (aC (eC (.int 1)) (aC (eC (.int 2)) (aC (eC (.int 4)) (aC (eC (.int 8)) (aC (eC (.int 16)) (aC (eC (.int 32)) (aC (eC (.int 64)) aN)))))))) (eV 10))) aN)) (eC (.int 2))) (eC (.int 1)))) (m := eV 10)
    (Γ := [.im (.ref 0), x1, .im (.int n), x3, .ow (.lst (es.map dRow)), x5, .im (.int k), .im (.int bits), .im (.int thin), x9, .no]) (S := S3) (upN 0 n) D.int (bitq bits) D.int (by simp [er]) (by rw [upN_len]; omega) (by simp) fun o ho => by
      have := mem_upN.mp ho
      obtain ⟨p1, p2, p3⟩ := pw_is (show 0 ≤ o ∧ o < 7 by omega)
      exact ⟨_, rfl, by simp [gTup7, p1, gDiv_i p2 p3, gMod_i, bitq], by simp⟩
  generalize hsome : (upN 0 n).filter (bitq bits) = some' at q1
  have hsub : List.Sublist some' (upN 0 n) := by rw [← hsome]; exact List.filter_sublist
  refine wp_step (Γ' := [.im (.ref 0), x1, .im (.int n), x3, .ow (.lst (es.map dRow)), x5, .im (.int k), .im (.int bits), .im (.int thin), .ow (.lst (some'.map .int)), .no]) (S' := S3) (by simp [q1]) ?_
  have q2 := filt_v (vs := [10]) (it := iV gIt (eV 9)) (g := gNm 10) (t := tAnd (tV gB (eB gNe (eV 10) (eV 6))) (tV gB (eB gEq (eB gMod (eF gInt (aC (eB gDiv (eV 8) (eB gIx (eF gTup (aC (eC (.int 1)) (aC (eC (.int 2)) (aC (eC (.int 4)) (aC (eC (.int 8)) (aC (eC (.int 16)) (aC (eC (.int 32)) (aC (eC (.int 64)) aN)))))))) (eV 10))) aN)) (eC (.int 2))) (eC (.int 1))))) (m := eV 10)
    (Γ := [.im (.ref 0), x1, .im (.int n), x3, .ow (.lst (es.map dRow)), x5, .im (.int k), .im (.int bits), .im (.int thin), .im (.lst (some'.map .int)), .no]) (S := S3) some' D.int (fun o => !(o == (k : Int)) && bitq thin o) D.int (by simp) (by have := hsub.length_le; rw [upN_len] at this; omega) (by simp) fun o ho => by
      have := mem_upN.mp (hsub.subset ho)
      obtain ⟨p1, p2, p3⟩ := pw_is (show 0 ≤ o ∧ o < 7 by omega)
      refine ⟨_, rfl, ?_, by simp⟩
      by_cases c : o = (k : Int)
      · simp [c]
      · have e : (o == (k : Int)) = false := by simp [c]
        simp [e, gTup7, p1, gDiv_i p2 p3, gMod_i, bitq]
  generalize hrow : some'.filter (fun o => !(o == (k : Int)) && bitq thin o) = rw' at q2
  have hsub2 : List.Sublist rw' (upN 0 n) := by rw [← hrow]; exact List.filter_sublist.trans hsub
  have hno : (k : Int) ∉ rw' := fun h => by rw [← hrow, List.mem_filter] at h; simp at h
  have g := gApp_l (xs := es.map dRow) (d := dRow rw') (by rw [List.length_map]; omega)
  refine ⟨(.nx, [.im (.ref 0), x1, .im (.int n), x3, .ow (.lst ((es ++ [rw']).map dRow)), x5, .im (.int k), .im (.int bits), .im (.int thin), .im (.lst (some'.map .int)), .no], S3), ?_, rfl, rw', _, _, _, row_sub hsub2, hno, rfl, hS3⟩
  simp only [dRow] at g
  simp [frzE, q2, g, dRow]
theorem drawn {ns : List Int} {S : Sto} (hS : RowS ns S) : ∃ lab ears S', M__law_net [.ref 0, .int 7] S = some (dN lab ears, S') ∧ Net lab ears ∧ RowS ns S' := by
  obtain ⟨⟨_, S1⟩, e1, t, rfl, a1, a2, hS1⟩ := tk_is (m := 7) hS (by omega) (by omega)
  obtain ⟨n, hn⟩ := Int.eq_ofNat_of_zero_le (show 0 ≤ 1 + t by omega)
  have hn1 : 1 ≤ n ∧ n ≤ 7 := by omega
  simp only at hS1
  obtain ⟨lt, S2, e2, hmem, hS2⟩ := pick_is (xs := [.str (PySem.Str.ofString "ab"), .str (PySem.Str.ofString "abc"), .str (PySem.Str.ofString "abcdefg"), .str (PySem.Str.ofString "gfedcba"), .str (PySem.Str.ofString "a")]) hS1 (by simp) (by simp)
  obtain ⟨x, m, rfl, hx, hm⟩ : ∃ (x : Str) (m : Nat), lt = .str x ∧ Lab m x ∧ 0 < m ∧ m < 1000 := by
    simp only [List.mem_cons, List.not_mem_nil, or_false] at hmem
    rcases hmem with rfl | rfl | rfl | rfl | rfl
    · exact ⟨_, _, rfl, lab1, by omega, by omega⟩
    · exact ⟨_, _, rfl, lab2, by omega, by omega⟩
    · exact ⟨_, _, rfl, lab3, by omega, by omega⟩
    · exact ⟨_, _, rfl, lab4, by omega, by omega⟩
    · exact ⟨_, _, rfl, lab5, by omega, by omega⟩
  have er : gR1 [.int (n : Int)] = some (rngD 0 n) := by rw [gR1_i (by omega), Int.toNat_natCast]
  obtain ⟨ys, S3, e3, f3, hS3⟩ := wp_v (vs := [6]) (it := iA gR1 (aC (eV 2) aN)) (g := gNm 6) (m := eCall M__law_pick (aC (eV 0) (aC (eV 3) aN))) (Γ := [.im (.ref 0), .im (.int 7), .im (.int n), .im (.str x), .ow (.lst []), .no, .no, .no, .no, .no, .no]) (S := S2)
    (rngD 0 n) (RowS ns) (fun _ y => ∃ z : Str, y = .str z ∧ Lab 1 z) hS2 (by simp [er]) (by rw [rngD_len]; omega) (by simp) fun d hd S hS => by
      obtain ⟨z, S', e, hz, h'⟩ := pick_s hS hx hm.1 hm.2
      exact ⟨_, rfl, (.str z, S'), by simp [e], ⟨z, rfl, hz⟩, h'⟩
  obtain ⟨zs, lz, rfl, hz⟩ := f2_strs f3
  rw [rngD_len] at lz
  have gj := gJoin_l hz (by omega)
  have lj := lab_join hz
  rw [lz] at lj
  generalize Txt.join (PySem.Str.ofString "") zs = lab0 at *
  obtain ⟨⟨_, S4⟩, e4, t4, rfl, b1, b2, hS4⟩ := tk_is (m := 3) hS3 (by omega) (by omega)
  simp only at hS4
  obtain ⟨c1, c2⟩ := lab_cut (n := n) lab6 hn1.2
  -- the labels
  obtain ⟨lab, hlab, e5⟩ : ∃ lab, Lab n lab ∧ sIf (tV gB (eB gEq (eCall M__law_taken (aC (eV 0) (aC (eC (.int 3)) aN))) (eC (.int 0)))) (sSet 5 (eSl (eC (.str (PySem.Str.ofString "cgbeafd"))) oN (oS (eV 2)))) sNil [.im (.ref 0), .im (.int 7), .im (.int n), .im (.str x), .ow (.lst []), .im (.str lab0), .no, .no, .no, .no, .no] S3 =
      some (.nx, [.im (.ref 0), .im (.int 7), .im (.int n), .im (.str x), .ow (.lst []), .im (.str lab), .no, .no, .no, .no, .no], S4) := by
    by_cases c : t4 = 0
    · exact ⟨_, c2, by simp [e4, c, c1]⟩
    · exact ⟨lab0, lj, by simp [e4, c]⟩
  have W := for_wp (g := gNm 6) (b := b__law_net_0) (fun k Γ S => ∃ (es : List (List Int)) (x6 x7 x8 x9 : Sl), es.length = k ∧ (∀ (i : Nat) (r : List Int), es[i]? = some r → Row n r ∧ (i : Int) ∉ r) ∧ Γ = [.im (.ref 0), .im (.int 7), .im (.int n), .im (.str x), .ow (.lst (es.map dRow)), .im (.str lab), x6, x7, x8, x9, .no] ∧ RowS ns S) (rngD 0 n) 0 [.im (.ref 0), .im (.int 7), .im (.int n), .im (.str x), .ow (.lst []), .im (.str lab), .no, .no, .no, .no, .no] S4
    ⟨[], _, _, _, _, rfl, fun i r h => by simp at h, rfl, hS4⟩ ?_
  · obtain ⟨⟨o, Γ', S5⟩, e6, ho, es, x6, x7, x8, x9, h1, h2, h3, h4⟩ := W
    simp only at ho h3 h4
    subst ho h3
    rw [rngD_len, Nat.zero_add] at h1
    refine ⟨lab, es, S5, fn_rt (Γ' := []) ?_, ⟨by rw [h1]; exact hlab, by omega, fun k r hk => by rw [h1]; exact h2 k r hk⟩, h4⟩
    rw [show ([D.ref 0, D.int 7].map Sl.im ++ List.replicate (11 - [D.ref 0, D.int 7].length) Sl.no) = [.im (.ref 0), .im (.int 7), .no, .no, .no, .no, .no, .no, .no, .no, .no] from rfl]
    unfold B__law_net
    rw [seq_nx (Γ' := [.im (.ref 0), .im (.int 7), .im (.int n), .no, .no, .no, .no, .no, .no, .no, .no]) (S' := S1) (by simp [e1, hn])]
    rw [seq_nx (Γ' := [.im (.ref 0), .im (.int 7), .im (.int n), .im (.str x), .ow (.lst []), .no, .no, .no, .no, .no, .no]) (S' := S2) (by simp [gLst5, e2])]
    rw [seq_nx (Γ' := [.im (.ref 0), .im (.int 7), .im (.int n), .im (.str x), .ow (.lst []), .im (.str lab0), .no, .no, .no, .no, .no]) (S' := S3) (by simp [e3, gj])]
    rw [seq_nx e5]
    rw [seq_nx (Γ' := [.im (.ref 0), .im (.int 7), .im (.int n), .im (.str x), .ow (.lst (es.map dRow)), .im (.str lab), x6, x7, x8, x9, .no]) (S' := S5) (by rw [← e6]; simp [er])]
    simp [frzE, dN]
  rintro k d Γ S hk ⟨es, x6, x7, x8, x9, hlen, ok, rfl, hS⟩
  obtain ⟨hkn, rfl⟩ := rngD_get hk
  rw [Int.zero_add]
  refine ⟨_, rfl, ?_⟩
  simp only [List.set]
  refine (net_body (x1 := .im (.int 7)) (x3 := .im (.str x)) (x5 := .im (.str lab)) (x7 := x7) (x8 := x8) (x9 := x9) hS hn1.2 hkn (by omega)).mono ?_
  rintro ⟨o, Γ', S'⟩ ⟨h1, rw', y7, y8, y9, hr, hno, h3, h4⟩
  refine ⟨.inl h1, es ++ [rw'], _, _, _, _, by simp; omega, fun i r hi => ?_, h3, h4⟩
  by_cases c : i < es.length
  · rw [List.getElem?_append_left c] at hi
    exact ok i r hi
  · rw [List.getElem?_append_right (by omega)] at hi
    have hik : i = k := by
      have := (List.getElem?_eq_some_iff.mp hi).1
      simp at this
      omega
    subst hik
    have hr' := List.mem_of_getElem? hi
    simp at hr'
    subst hr'
    exact ⟨hr, hno⟩
end Lk02
namespace Lk02
open PySem PySem.Spec PyProof.Rows L2 J
section
variable {lab : Str} {ears : List (List Int)} {s : List Int}
theorem hf_congr {s s' : List Int} (h : ∀ a, a ∈ s ↔ a ∈ s') (st : Int) : hf ears st s = hf ears st s' := by
  unfold hf
  congr 1
  funext a
  exact decide_eq_decide.mpr (h a)
theorem hb_congr {s s' : List Int} (h : ∀ a, a ∈ s ↔ a ∈ s') (st : Int) : hb ears st s = hb ears st s' := by
  unfold hb
  rw [hf_congr h st]
  simp only [h st]
/-- one sender more -/
theorem hf_more {s' : List Int} {new st : Int} (nd : (ear ears st).Nodup) (h : ∀ a, a ∈ s' ↔ a ∈ s ∨ a = new) (hn : new ∉ s) : (new ∉ ear ears st ∧ hf ears st s' = hf ears st s) ∨ (new ∈ ear ears st ∧ new ∈ hf ears st s' ∧ (hf ears st s').length = (hf ears st s).length + 1) := by
  unfold hf
  generalize ear ears st = r at *
  induction r with
  | nil => exact .inl ⟨by simp, rfl⟩
  | cons x r ih =>
    rw [List.nodup_cons] at nd
    have ih := ih nd.2
    by_cases e : x = new
    · subst e
      refine .inr ⟨by simp, ?_, ?_⟩
      · rw [List.filter_cons_of_pos (by simp [h])]; simp
      · rw [List.filter_cons_of_pos (by simp [h]), List.filter_cons_of_neg (by simpa using hn), List.length_cons]
        rcases ih with ⟨_, ih⟩ | ⟨q, _⟩
        · rw [ih]
        · exact absurd q nd.1
    · have hx : x ∈ s' ↔ x ∈ s := by rw [h]; simp [e]
      have hne : ¬ new = x := fun q => e q.symm
      by_cases c : x ∈ s
      · rw [List.filter_cons_of_pos (by simpa using hx.mpr c), List.filter_cons_of_pos (by simpa using c)]
        rcases ih with ⟨q, ih⟩ | ⟨q, q2, ih⟩
        · exact .inl ⟨by simp [q, hne], by rw [ih]⟩
        · exact .inr ⟨by simp [q], by simp only [List.mem_cons]; exact .inr q2, by rw [List.length_cons, List.length_cons, ih]⟩
      · rw [List.filter_cons_of_neg (by simpa using fun q => c (hx.mp q)), List.filter_cons_of_neg (by simpa using c)]
        rcases ih with ⟨q, ih⟩ | ⟨q, q2, ih⟩
        · exact .inl ⟨by simp [q, hne], ih⟩
        · exact .inr ⟨by simp [q], q2, ih⟩
theorem hb_cases (st : Int) : (st ∈ s ∧ hb ears st s = -3) ∨ (st ∉ s ∧ hf ears st s = [] ∧ hb ears st s = -1) ∨ (st ∉ s ∧ (∃ x, hf ears st s = [x] ∧ hb ears st s = x)) ∨ (st ∉ s ∧ 2 ≤ (hf ears st s).length ∧ hb ears st s = -2) := by
  unfold hb
  by_cases c : st ∈ s
  · exact .inl ⟨c, by rw [if_pos c]⟩
  · rw [if_neg c]
    refine .inr ?_
    cases hh : hf ears st s with
    | nil => exact .inl ⟨c, rfl, rfl⟩
    | cons x xs =>
      cases xs with
      | nil => exact .inr (.inl ⟨c, x, rfl, rfl⟩)
      | cons y ys => exact .inr (.inr ⟨c, by simp, rfl⟩)
theorem ear_nd (N : Net lab ears) {st : Int} (h : 0 ≤ st ∧ st < ears.length) : (ear ears st).Nodup := (ear_row N h).1.up.imp fun h e => by omega
theorem hf_pos (N : Net lab ears) {st x : Int} (h : 0 ≤ st ∧ st < ears.length) (hx : x ∈ hf ears st s) : 0 ≤ x ∧ x ∈ ear ears st ∧ x ∈ s := by
  have hx : x ∈ ear ears st ∧ x ∈ s := by simpa [hf] using hx
  exact ⟨((ear_row N h).1.mem x hx.1).1, hx⟩
theorem hb_more (N : Net lab ears) {s' : List Int} {new st : Int} (hst : 0 ≤ st ∧ st < ears.length) (h : ∀ a, a ∈ s' ↔ a ∈ s ∨ a = new) (hn : new ∉ s) (hne : st ≠ new) :
    hb ears st s' = if st ∉ s ∧ new ∈ ear ears st then (if hb ears st s = -1 then new else -2) else hb ears st s := by
  have hs : st ∈ s' ↔ st ∈ s := by rw [h]; simp [hne]
  rcases hf_more (ears := ears) (st := st) (ear_nd N hst) h hn with ⟨a1, a2⟩ | ⟨a1, a2, a3⟩
  · rw [if_neg (by simp [a1])]
    unfold hb
    rw [a2]
    simp only [hs]
  · by_cases c : st ∈ s
    · rw [if_neg (by simp [c])]
      unfold hb
      rw [if_pos c, if_pos (hs.mpr c)]
    · rw [if_pos ⟨c, a1⟩]
      have c' : st ∉ s' := fun q => c (hs.mp q)
      rcases hb_cases (ears := ears) (s := s) st with h0 | h0 | ⟨_, x, h0, h1⟩ | h0
      · exact absurd h0.1 c
      · rw [if_pos h0.2.2]
        have l1 : (hf ears st s').length = 1 := by rw [a3, h0.2.1]; rfl
        match hh : hf ears st s', l1 with
        | [y], _ =>
          rw [hh] at a2
          simp at a2
          unfold hb
          rw [if_neg c', hh, a2]
      · have hx := hf_pos N hst (show x ∈ hf ears st s by rw [h0]; simp)
        rw [if_neg (by rw [h1]; omega)]
        have l2 : (hf ears st s').length = 2 := by rw [a3, h0]; rfl
        match hh : hf ears st s', l2 with
        | [y, z], _ => unfold hb; rw [if_neg c', hh]
      · rw [if_neg (by rw [h0.2.2]; omega)]
        have l2 : 2 ≤ (hf ears st s').length := by omega
        match hh : hf ears st s', l2 with
        | y :: z :: t, _ => unfold hb; rw [if_neg c', hh]
theorem hb_in {st : Int} (h : st ∈ s) : hb ears st s = -3 := by unfold hb; rw [if_pos h]
theorem hb_none (st : Int) : hb ears st [] = -1 := by
  unfold hb
  rw [if_neg (by simp), show hf ears st [] = [] by unfold hf; simp]
theorem cl_of_none {s : List Int} (h : ∀ st : Int, 0 ≤ st → st < ears.length → hb ears st s < 0) : cl ears s = [] := by
  unfold cl clp
  rw [List.filter_eq_nil_iff.mpr fun st hst => by
    have := mem_upN.mp hst
    have := h st (by omega) (by omega)
    simp; omega]
  rfl
/-- when a link is clear -/
theorem clear_iff (N : Net lab ears) {a b : Int} (hl : (a, b) ∈ al ears) : (a, b) ∈ cl ears s ↔ a ∈ s ∧ sp ears (a, b) s = [] := by
  obtain ⟨hb0, ha⟩ := (mem_al N).mp hl
  obtain ⟨er, no, _⟩ := ear_row N hb0
  have hne : a ≠ b := fun e => no (e ▸ ha)
  rw [mem_cl]
  have spn : sp ears (a, b) s = [] ↔ b ∉ s ∧ ∀ o ∈ hf ears b s, o = a := by
    unfold sp
    rw [List.filter_eq_nil_iff]
    constructor
    · intro h
      refine ⟨fun hb => ?_, fun o ho => ?_⟩
      · have := h b hb
        simp [Ne.symm hne] at this
      · have ho : o ∈ ear ears b ∧ o ∈ s := by simpa [hf] using ho
        have := h o ho.2
        by_cases e : o = a
        · exact e
        · simp [e, ho.1] at this
    · rintro ⟨h1, h2⟩ o ho
      by_cases e : o = a
      · simp [e]
      · have hob : ¬ o = b := fun q => h1 (q ▸ ho)
        have : o ∉ ear ears b := fun q => e (h2 o (by simp [hf, q, ho]))
        simp [e, hob, this]
  rw [spn]
  constructor
  · rintro ⟨_, h1, h2⟩
    obtain ⟨p1, p2⟩ := hb_pos h1
    rw [h2]
    exact ⟨(hb_mem h1).2, p1, fun o ho => by rw [p2] at ho; simpa using ho⟩
  · rintro ⟨h1, h2, h3⟩
    have hm : a ∈ hf ears b s := by simp [hf, ha, h1]
    have nd : (hf ears b s).Nodup := List.Pairwise.sublist List.filter_sublist (ear_nd N hb0)
    have e : hf ears b s = [a] := by
      match hh : hf ears b s with
      | [] => rw [hh] at hm; simp at hm
      | [x] => rw [hh] at hm; simp at hm; rw [hm]
      | x :: y :: t =>
        have e1 := h3 x (by rw [hh]; simp)
        have e2 := h3 y (by rw [hh]; simp)
        rw [hh, List.nodup_cons] at nd
        exact absurd (by simp [e1, e2]) nd.1
    have e4 : hb ears b s = a := by unfold hb; rw [if_neg h2, e]
    rw [e4]
    exact ⟨hb0, (er.mem a ha).1, rfl⟩
theorem clp_nd : (clp ears s (upN 0 ears.length)).Nodup := by
  unfold clp
  have nd : (upN 0 ears.length).Nodup := (upN_pw _ _).imp fun h e => by omega
  exact List.pairwise_map.mpr ((List.Pairwise.sublist List.filter_sublist nd).imp fun ne e => ne (congrArg Prod.snd e))
theorem al_srt (N : Net lab ears) : (al ears).Pairwise (fun p q => pk p ≤ pk q) := isort_srt pk _
/-- what one sender alone makes clear -/
theorem cl_one (N : Net lab ears) {new : Int} : cl ears [new] = (al ears).filter fun l => l.1 == new := by
  have nd1 : (cl ears [new]).Nodup := (isort_perm pk _).nodup_iff.mpr clp_nd
  have nd0 : (al ears).Nodup := (isort_perm pk _).nodup_iff.mpr (alk_nd ears 0 fun r hr => (rows_of N hr).up.imp fun h e => by omega)
  have nd2 : ((al ears).filter fun l => l.1 == new).Nodup := List.Pairwise.sublist List.filter_sublist nd0
  refine srt_uniq pk ((List.perm_ext_iff_of_nodup nd1 nd2).mpr fun p => ?_) (isort_srt pk _) (List.Pairwise.sublist List.filter_sublist (al_srt N)) fun p hp q hq e => pk_inj (clp_bd N p ((mem_isort pk).mp hp)) (clp_bd N q ((mem_isort pk).mp hq)) e
  obtain ⟨a, b⟩ := p
  rw [List.mem_filter]
  constructor
  · intro h
    obtain ⟨h1, h2, h3⟩ := mem_cl.mp h
    obtain ⟨m1, m2⟩ := hb_mem h2
    rw [← h3] at m1 m2
    exact ⟨(mem_al N).mpr ⟨h1, m1⟩, by simpa using m2⟩
  · rintro ⟨h1, h2⟩
    have e : a = new := by simpa using h2
    subst e
    rw [clear_iff N h1]
    obtain ⟨hb0, ha⟩ := (mem_al N).mp h1
    have hne : a ≠ b := fun e => (ear_row N hb0).2.1 (e ▸ ha)
    refine ⟨by simp, ?_⟩
    unfold sp
    rw [List.filter_eq_nil_iff]
    intro o ho
    simp at ho
    simp [ho]
/-- spoilers of one sender more -/
theorem sp_more {s' : List Int} {new : Int} {l : Int × Int} (h : ∀ a, a ∈ s' ↔ a ∈ s ∨ a = new) (hs' : s'.Pairwise (· < ·)) : sp ears l s' = sortU (sp ears l s ++ sp ears l [new]) := by
  refine lt_uniq (List.Pairwise.sublist List.filter_sublist hs') (sortU_lt _) fun x => ?_
  rw [mem_sortU, List.mem_append]
  unfold sp
  rw [List.mem_filter, List.mem_filter, List.mem_filter, h, List.mem_singleton]
  constructor
  · rintro ⟨h1 | h1, h2⟩
    · exact .inl ⟨h1, h2⟩
    · exact .inr ⟨h1, h2⟩
  · rintro (⟨h1, h2⟩ | ⟨h1, h2⟩)
    · exact ⟨.inl h1, h2⟩
    · exact ⟨.inr h1, h2⟩
def oth (n : Nat) (s : List Int) : List Int := (upN 0 n).filter fun a => decide (a ∉ s)
theorem both_none (N : Net lab ears) : (cl ears s).filter (fun l => decide (l ∈ cl ears (oth ears.length s))) = [] := by
  rw [List.filter_eq_nil_iff]
  rintro ⟨a, b⟩ h1 h2
  have h2 : (a, b) ∈ cl ears (oth ears.length s) := by simpa using h2
  obtain ⟨p1, p2, p3⟩ := mem_cl.mp h1
  obtain ⟨q1, q2, q3⟩ := mem_cl.mp h2
  have a1 := (hb_mem p2).2
  have a2 := (hb_mem q2).2
  rw [← p3] at a1
  rw [← q3] at a2
  unfold oth at a2
  rw [List.mem_filter] at a2
  simp [a1] at a2
theorem cl_few : (cl ears s).length ≤ (oth ears.length s).length := by
  unfold cl oth
  rw [isort_len]
  unfold clp
  rw [List.length_map]
  generalize upN 0 ears.length = L
  induction L with
  | nil => simp
  | cons x L ih =>
    by_cases c : 0 ≤ hb ears x s
    · have := (hb_pos c).1
      rw [List.filter_cons_of_pos (by simpa using c), List.filter_cons_of_pos (by simpa using this), List.length_cons, List.length_cons]
      omega
    · rw [List.filter_cons_of_neg (by simpa using c)]
      refine Nat.le_trans ih ?_
      by_cases d : x ∈ s
      · rw [List.filter_cons_of_neg (by simpa using d)]; exact Nat.le_refl _
      · rw [List.filter_cons_of_pos (by simpa using d), List.length_cons]; omega
end
end Lk02
namespace Lk02
open PySem PySem.Spec PyProof.Rows L2 J
theorem gIn_r {a : Int} {s : List Int} : gIn (.int a) (dRow s) = some (.bl (decide (a ∈ s))) := gIn_it
theorem gNi_r {a : Int} {s : List Int} : gNi (.int a) (dRow s) = some (.bl (decide (a ∉ s))) := gNi_it
theorem gIt_r {s : List Int} : gIt (dRow s) = some (s.map .int) := rfl
theorem p0 {p : Int × Int} : gIx (dP p) (.int 0) = some (.int p.1) := at0
theorem sub_row {n : Nat} {r : List Int} (h : List.Sublist r (upN 0 n)) : Row n r := row_sub h
theorem hd_at {ears : List (List Int)} {s : List Int} {st : Int} (h : 0 ≤ st ∧ st < ears.length) : atI ((hd ears s).map D.int) st = some (.int (hb ears st s)) := by
  obtain ⟨k, rfl⟩ := Int.eq_ofNat_of_zero_le h.1
  have hk : k < ears.length := by omega
  rw [atI_nn, List.getElem?_map]
  unfold hd
  rw [List.getElem?_map, upN_map, List.getElem?_map, List.getElem?_range hk]
  simp
theorem loop0 {ns : List Int} {S : Sto} {lab : Str} {ears : List (List Int)} {s s' : List Int} {new : Int} (N : Net lab ears) (h : ∀ a, a ∈ s' ↔ a ∈ s ∨ a = new) {x2 x3 x4 x5 x6 x7 x8 x9 x10 x11 x12 x13 x14 x15 x16 : Sl} (h10 : isOw (some x10) = false) :
    Wp (forGo (gNm 10) b_law_0 ((upN 0 ears.length).map .int) [.im (.fz (ns.map .int)), .im (.ref 0), x2, .im (dN lab ears), x4, .im (dRow s), .im (.int new), x7, .im (.tup ((hd ears s).map .int)), .im (.tup ((hd ears s').map .int)), x10, x11, x12, x13, x14, x15, x16, .no] S) fun r => r.1 = .nx ∧ (∃ x10 x11 x12, isOw (some x10) = false ∧ r.2.1 = [.im (.fz (ns.map .int)), .im (.ref 0), x2, .im (dN lab ears), x4, .im (dRow s), .im (.int new), x7, .im (.tup ((hd ears s).map .int)), .im (.tup ((hd ears s').map .int)), x10, x11, x12, x13, x14, x15, x16, .no]) ∧ r.2.2 = S := by
  refine for_all (g := gNm 10) (b := b_law_0) (fun Γ S' => (∃ x10 x11 x12, isOw (some x10) = false ∧ Γ = [.im (.fz (ns.map .int)), .im (.ref 0), x2, .im (dN lab ears), x4, .im (dRow s), .im (.int new), x7, .im (.tup ((hd ears s).map .int)), .im (.tup ((hd ears s').map .int)), x10, x11, x12, x13, x14, x15, x16, .no]) ∧ S' = S) _ _ _ ⟨⟨x10, x11, x12, h10, rfl⟩, rfl⟩ ?_
  rintro d hd' Γ S' ⟨⟨x10, x11, x12, h10, rfl⟩, rfl⟩
  obtain ⟨st, hst, rfl⟩ := List.mem_map.mp hd'
  have hst := mem_upN.mp hst
  have hs2 : 0 ≤ st ∧ st < ears.length := by omega
  refine ⟨_, rfl, ?_⟩
  simp only [List.set]
  have e8 := hd_at (s := s) hs2
  have e9 := hd_at (s := s') hs2
  obtain ⟨er, no, ea⟩ := ear_row N hs2
  by_cases c1 : new ∈ s
  · have eq := hb_congr (ears := ears) (s := s') (s' := s) (fun a => by rw [h]; exact ⟨fun q => q.elim _root_.id (fun e => e ▸ c1), .inl⟩) st
    rw [eq] at e9
    have c3 : st = new → hb ears st s = -3 := fun e => hb_in (e ▸ c1)
    generalize hb ears st s = B at *
    refine ⟨(.nx, [.im (.fz (ns.map .int)), .im (.ref 0), x2, .im (dN lab ears), x4, .im (dRow s), .im (.int new), x7, .im (.tup ((hd ears s).map .int)), .im (.tup ((hd ears s').map .int)), .im (.int st), x11, x12, x13, x14, x15, x16, .no], S'), ?_, .inl rfl, ⟨_, _, _, rfl, rfl⟩, rfl⟩
    by_cases c2 : st = new
    · have := c3 c2
      subst this
      subst c2
      simp [gIn_r, gNi_r, c1, e8, e9]
    · simp [gIn_r, gNi_r, c1, c2, e8, e9]
  · by_cases c2 : st = new
    · subst c2
      have e3 : hb ears st s' = -3 := hb_in ((h st).mpr (.inr rfl))
      rw [e3] at e9
      generalize hb ears st s = B at *
      exact ⟨(.nx, [.im (.fz (ns.map .int)), .im (.ref 0), x2, .im (dN lab ears), x4, .im (dRow s), .im (.int st), x7, .im (.tup ((hd ears s).map .int)), .im (.tup ((hd ears s').map .int)), .im (.int st), x11, x12, x13, x14, x15, x16, .no], S'), by simp [gIn_r, gNi_r, c1, e8, e9], .inl rfl, ⟨_, _, _, rfl, rfl⟩, rfl⟩
    · have e3 := hb_more N hs2 h c1 c2
      rw [e3] at e9
      by_cases c3 : st ∈ s
      · rw [if_neg (by simp [c3])] at e9
        generalize hb ears st s = B at *
        exact ⟨(.nx, [.im (.fz (ns.map .int)), .im (.ref 0), x2, .im (dN lab ears), x4, .im (dRow s), .im (.int new), x7, .im (.tup ((hd ears s).map .int)), .im (.tup ((hd ears s').map .int)), .im (.int st), .im (.bl (decide (new ∈ ear ears st))), .im (.int B), x13, x14, x15, x16, .no], S'), by simp [gIn_r, gNi_r, c1, c2, c3, e8, e9, at1N, ea], .inl rfl, ⟨_, _, _, rfl, rfl⟩, rfl⟩
      · by_cases c4 : new ∈ ear ears st
        · rw [if_pos ⟨c3, c4⟩] at e9
          generalize hb ears st s = B at *
          refine ⟨(.nx, [.im (.fz (ns.map .int)), .im (.ref 0), x2, .im (dN lab ears), x4, .im (dRow s), .im (.int new), x7, .im (.tup ((hd ears s).map .int)), .im (.tup ((hd ears s').map .int)), .im (.int st), .im (.bl true), .im (.int (if B = -1 then new else -2)), x13, x14, x15, x16, .no], S'), ?_, .inl rfl, ⟨_, _, _, rfl, rfl⟩, rfl⟩
          by_cases c5 : B = -1
          · rw [if_pos c5] at e9
            subst c5
            simp [gIn_r, gNi_r, c1, c2, c3, c4, e8, e9, at1N, ea]
          · rw [if_neg c5] at e9
            simp [gIn_r, gNi_r, c1, c2, c3, c4, c5, e8, e9, at1N, ea]
        · rw [if_neg (by simp [c4])] at e9
          generalize hb ears st s = B at *
          exact ⟨(.nx, [.im (.fz (ns.map .int)), .im (.ref 0), x2, .im (dN lab ears), x4, .im (dRow s), .im (.int new), x7, .im (.tup ((hd ears s).map .int)), .im (.tup ((hd ears s').map .int)), .im (.int st), .im (.bl false), .im (.int B), x13, x14, x15, x16, .no], S'), by simp [gIn_r, gNi_r, c1, c2, c3, c4, e8, e9, at1N, ea], .inl rfl, ⟨_, _, _, rfl, rfl⟩, rfl⟩
theorem loop1 {ns : List Int} {S : Sto} {lab : Str} {ears : List (List Int)} {s s' : List Int} {new : Int} (N : Net lab ears) (h : ∀ a, a ∈ s' ↔ a ∈ s ∨ a = new) (hs : Row ears.length s) (hs' : Row ears.length s') (hnew : Row ears.length [new]) {x2 x3 x4 x5 x6 x7 x8 x9 x10 x11 x12 x13 x14 x15 x16 : Sl} :
    Wp (forGo (gNm 13) b_law_1 ((al ears).map dP) [.im (.fz (ns.map .int)), .im (.ref 0), x2, .im (dN lab ears), x4, .im (dRow s), .im (.int new), .im (dRow s'), x8, x9, x10, x11, x12, x13, x14, x15, x16, .no] S) fun r => r.1 = .nx ∧ (∃ x13 x14, r.2.1 = [.im (.fz (ns.map .int)), .im (.ref 0), x2, .im (dN lab ears), x4, .im (dRow s), .im (.int new), .im (dRow s'), x8, x9, x10, x11, x12, x13, x14, x15, x16, .no]) ∧ r.2.2 = S := by
  refine for_all (g := gNm 13) (b := b_law_1) (fun Γ S' => (∃ x13 x14, Γ = [.im (.fz (ns.map .int)), .im (.ref 0), x2, .im (dN lab ears), x4, .im (dRow s), .im (.int new), .im (dRow s'), x8, x9, x10, x11, x12, x13, x14, x15, x16, .no]) ∧ S' = S) _ _ _ ⟨⟨x13, x14, rfl⟩, rfl⟩ ?_
  rintro d hd' Γ S' ⟨⟨x13, x14, rfl⟩, rfl⟩
  obtain ⟨⟨a, b⟩, hl, rfl⟩ := List.mem_map.mp hd'
  refine ⟨_, rfl, ?_⟩
  simp only [List.set]
  have big := N.big
  have s1 := spoil_is (S := S') N hl hs'
  have s2 := spoil_is (S := S') N hl hs
  have s3 : M_spoilers [dN lab ears, dP (a, b), .tup [.int new]] S' = some (.tup ((sp ears (a, b) [new]).map .int), S') := spoil_is (S := S') N hl hnew
  have c1 := clear_is (S := S') N hs'
  have ci := clear_iff (s := s') N hl
  rw [sp_more h hs'.up] at s1 ci
  have l1 : (sp ears (a, b) s).length ≤ 7 := Nat.le_trans (List.length_filter_le _ _) (by have := hs.len; omega)
  have l2 : (sp ears (a, b) [new]).length ≤ 1 := List.length_filter_le _ _
  have g := gAdd_t (xs := (sp ears (a, b) s).map D.int) (ys := (sp ears (a, b) [new]).map D.int) (by simp; omega)
  rw [← List.map_append] at g
  have lz : (sp ears (a, b) s ++ sp ears (a, b) [new]).length ≤ 60 := by rw [List.length_append]; omega
  generalize sp ears (a, b) s ++ sp ears (a, b) [new] = z at *
  have gs : gSU (.tup (z.map .int)) = some (.lst ((sortU z).map .int)) := by rw [gSU_t, if_pos lz]
  have lq : (sortU z).length ≤ 1000 := by
    have : (sortU z).length ≤ z.length := by
      have nd : (sortU z).Nodup := (sortU_lt z).imp fun h e => by omega
      exact nd.length_le_of_subset fun x hx => mem_sortU.mp hx
    omega
  generalize sortU z = q at *
  have al1 := alike_ints (S := S') (n := 2) lq
  have ge : gEq (.tup (q.map .int)) (.tup []) = some (.bl (decide (q = []))) := gEq_it (ys := [])
  have gi := gIn_pt (a := (a, b)) (xs := cl ears s')
  generalize (cl ears s').map dP = cc at *
  have hdP : gIx (dP (a, b)) (.int 0) = some (.int a) := p0
  generalize dP (a, b) = dl at *
  refine ⟨(.nx, [.im (.fz (ns.map .int)), .im (.ref 0), x2, .im (dN lab ears), x4, .im (dRow s), .im (.int new), .im (dRow s'), x8, x9, x10, x11, x12, .im dl, .im (.tup (q.map .int)), x15, x16, .no], S'), ?_, .inl rfl, ⟨_, _, rfl⟩, rfl⟩
  have k1 : decide ((a, b) ∈ cl ears s') = (decide (a ∈ s') && decide (q = [])) := by
    rw [Bool.eq_iff_iff]
    simp [ci]
  rw [k1] at gi
  by_cases c2 : a ∈ s'
  · by_cases c3 : q = []
    · subst c3
      simp only [List.map_nil] at *
      simp [s1, s2, s3, g, gs, al1, c1, gi, hdP, gIn_r, c2, ge]
    · simp [s1, s2, s3, g, gs, al1, c1, gi, hdP, gIn_r, c2, c3, ge]
  · simp [s1, s2, s3, g, gs, al1, c1, gi, hdP, gIn_r, c2]
end Lk02
namespace Lk02
open PySem PySem.Spec PyProof.Rows L2 J
def I02 (ns : List Int) (Γ : J.Env) (S : Sto) : Prop := (∃ x2 x3 x4 x5 x6 x7 x8 x9 x10 x11 x12 x13 x14 x15 x16, isOw (some x10) = false ∧ Γ = [.im (.fz (ns.map .int)), .im (.ref 0), x2, x3, x4, x5, x6, x7, x8, x9, x10, x11, x12, x13, x14, x15, x16, .no]) ∧ RowS ns S
abbrev Q02 (ns : List Int) : J.Out × J.Env × Sto → Prop := fun r => (r.1 = .nx ∨ r.1 = .ct) ∧ I02 ns r.2.1 r.2.2
theorem Q02.of {ns : List Int} {S : Sto} {x2 x3 x4 x5 x6 x7 x8 x9 x10 x11 x12 x13 x14 x15 x16 : Sl} (h10 : isOw (some x10) = false) (h : RowS ns S) : Q02 ns (.nx, [.im (.fz (ns.map .int)), .im (.ref 0), x2, x3, x4, x5, x6, x7, x8, x9, x10, x11, x12, x13, x14, x15, x16, .no], S) := ⟨.inl rfl, ⟨_, _, _, _, _, _, _, _, _, _, _, _, _, _, _, h10, rfl⟩, h⟩
theorem turn {ns : List Int} {S : Sto} {d : D} (hS : RowS ns S) {x2 x3 x4 x5 x6 x7 x8 x9 x10 x11 x12 x13 x14 x15 x16 : Sl} (h10 : isOw (some x10) = false) : Wp (b_law_2 [.im (.fz (ns.map .int)), .im (.ref 0), .im d, x3, x4, x5, x6, x7, x8, x9, x10, x11, x12, x13, x14, x15, x16, .no] S) (Q02 ns) := by
  unfold b_law_2
  generalize Sl.im d = x2
  obtain ⟨lab, ears, S1, e1, N, hS1⟩ := drawn hS
  refine wp_step (Γ' := [.im (.fz (ns.map .int)), .im (.ref 0), x2, .im (dN lab ears), x4, x5, x6, x7, x8, x9, x10, x11, x12, x13, x14, x15, x16, .no]) (S' := S1) (by simp [e1]) ?_
  have big := N.big
  generalize hn : ears.length = n at *
  have lN := lenN N
  rw [hn] at lN
  refine wp_step (Γ' := [.im (.fz (ns.map .int)), .im (.ref 0), x2, .im (dN lab ears), .im (.int n), x5, x6, x7, x8, x9, x10, x11, x12, x13, x14, x15, x16, .no]) (S' := S1) (by simp [at0N, lN]) ?_
  have er : gR1 [.int (n : Int)] = some (rngD 0 n) := by rw [gR1_i (by omega), Int.toNat_natCast]
  have eru := gR1_n (n := n) (by omega)
  obtain ⟨es, S2, e2, hsub, hS2⟩ := sub_v (vs := [10]) (it := iA gR1 (aC (eV 4) aN)) (g := gNm 10) (t := tV gB (eB gEq (eCall M__law_taken (aC (eV 1) (aC (eC (.int 3)) aN))) (eC (.int 0)))) (m := eV 10)
    (Γ := [.im (.fz (ns.map .int)), .im (.ref 0), x2, .im (dN lab ears), .im (.int n), x5, x6, x7, x8, x9, x10, x11, x12, x13, x14, x15, x16, .no]) (S := S1) (rngD 0 n) (RowS ns) (fun d => d) hS1 (by simp [er]) (by rw [rngD_len]; omega) (by simp [h10]) fun d hd S hS => by
      obtain ⟨⟨t, S1⟩, e, t', rfl, t0, t1, h'⟩ := tk_is (m := 3) hS (by omega) (by omega)
      refine ⟨_, rfl, ⟨(t' == 0, S1), by simp [e], h', fun S hS => ⟨(d, S), by simp, rfl, hS⟩⟩⟩
  rw [rng_upN] at hsub
  obtain ⟨s, hs1, rfl⟩ := List.sublist_map_iff.mp hsub
  simp only [List.map_id'] at e2
  have hs : Row n s := sub_row hs1
  refine wp_step (Γ' := [.im (.fz (ns.map .int)), .im (.ref 0), x2, .im (dN lab ears), .im (.int n), .im (dRow s), x6, x7, x8, x9, x10, x11, x12, x13, x14, x15, x16, .no]) (S' := S2) (by simp [e2, dRow]) ?_
  obtain ⟨⟨_, S3⟩, e3, new, rfl, n0, n1, hS3⟩ := tk_is (m := n) hS2 (by omega) (by omega)
  simp only at hS3
  refine wp_step (Γ' := [.im (.fz (ns.map .int)), .im (.ref 0), x2, .im (dN lab ears), .im (.int n), .im (dRow s), .im (.int new), x7, x8, x9, x10, x11, x12, x13, x14, x15, x16, .no]) (S' := S3) (by simp [e3]) ?_
  -- one sender more
  have ls := hs.len
  have ga := gAdd_t (xs := s.map D.int) (ys := [.int new]) (by simp; omega)
  rw [show s.map D.int ++ [D.int new] = (s ++ [new]).map .int by simp] at ga
  have hmem : ∀ a, a ∈ sortU (s ++ [new]) ↔ a ∈ s ∨ a = new := fun a => by rw [mem_sortU]; simp
  have lz : (s ++ [new]).length ≤ 60 := by simp; omega
  have up' := sortU_lt (s ++ [new])
  have gs : gSU (.tup ((s ++ [new]).map .int)) = some (.lst ((sortU (s ++ [new])).map .int)) := by rw [gSU_t, if_pos lz]
  generalize sortU (s ++ [new]) = s' at *
  generalize s ++ [new] = z at *
  have hs' : Row n s' := ⟨up', fun a ha => by
    rcases (hmem a).mp ha with h | h
    · exact hs.mem a h
    · omega⟩
  have hnew : Row n [new] := ⟨List.pairwise_singleton _ _, fun a ha => by rw [List.mem_singleton] at ha; omega⟩
  have ga' : gAdd (dRow s) (.tup [.int new]) = some (.tup (z.map .int)) := ga
  refine wp_step (Γ' := [.im (.fz (ns.map .int)), .im (.ref 0), x2, .im (dN lab ears), .im (.int n), .im (dRow s), .im (.int new), .im (dRow s'), x8, x9, x10, x11, x12, x13, x14, x15, x16, .no]) (S' := S3) (by simp [ga, gs, dRow]) ?_
  subst hn
  have h1 := heard_is (S := S3) N hs
  have h2 := heard_is (S := S3) N hs'
  refine wp_step (Γ' := [.im (.fz (ns.map .int)), .im (.ref 0), x2, .im (dN lab ears), .im (.int ears.length), .im (dRow s), .im (.int new), .im (dRow s'), .im (.tup ((hd ears s).map .int)), .im (.tup ((hd ears s').map .int)), x10, x11, x12, x13, x14, x15, x16, .no]) (S' := S3) (by simp [h1, h2]) ?_
  obtain ⟨⟨o, Γ', S'⟩, e5, ho, ⟨y10, y11, y12, h10', hΓ⟩, hS'⟩ := loop0 (ns := ns) (S := S3) N hmem (x2 := x2) (x3 := .no) (x4 := .im (.int ears.length)) (x5 := .no) (x6 := .no) (x7 := .im (dRow s')) (x8 := .no) (x9 := .no) (x10 := x10) (x11 := x11) (x12 := x12) (x13 := x13) (x14 := x14) (x15 := x15) (x16 := x16) h10
  simp only at ho hΓ hS'
  subst ho hΓ hS'
  refine wp_step (by rw [← e5]; simp [eru]) ?_
  clear h10
  generalize y10 = x10 at *
  generalize y11 = x11 at *
  generalize y12 = x12 at *
  generalize Sl.im (.tup ((hd ears s).map .int)) = x8 at *
  generalize Sl.im (.tup ((hd ears s').map .int)) = x9 at *
  obtain ⟨⟨o, Γ', S''⟩, e6, ho, ⟨y13, y14, hΓ⟩, hS''⟩ := loop1 (ns := ns) (S := S') N hmem hs hs' hnew (x2 := x2) (x3 := .no) (x4 := .im (.int ears.length)) (x5 := .no) (x6 := .no) (x7 := .no) (x8 := x8) (x9 := x9) (x10 := x10) (x11 := x11) (x12 := x12) (x13 := x13) (x14 := x14) (x15 := x15) (x16 := x16)
  simp only at ho hΓ hS''
  subst ho hΓ hS''
  have lk := links_is (S := S'') N
  refine wp_step (by rw [← e6]; simp [lk]) ?_
  generalize y13 = x13 at *
  generalize y14 = x14 at *
  generalize Sl.im (dRow s') = x7 at *
  -- one sender alone
  have lal : (al ears).length < 64 := by unfold al; rw [isort_len]; exact al_len N
  have q9 := filt_v (vs := [17]) (it := iV gIt (eCall M_links (aC (eV 3) aN))) (g := gNm 17) (t := tV gB (eB gEq (eB gIx (eV 17) (eC (.int 0))) (eV 6))) (m := eV 17)
    (Γ := [.im (.fz (ns.map .int)), .im (.ref 0), x2, .im (dN lab ears), .im (.int ears.length), .im (dRow s), .im (.int new), x7, x8, x9, x10, x11, x12, x13, x14, x15, x16, .no]) (S := S'') (al ears) dP (fun l => l.1 == new) dP (by simp [lk]) (by omega) (by simp) fun l hl => ⟨_, rfl, by simp [p0], by simp⟩
  rw [← cl_one N] at q9
  have c9 : M_clear [dN lab ears, .tup [.int new]] S'' = some (.tup ((cl ears [new]).map dP), S'') := clear_is (S := S'') N hnew
  have lc : (cl ears [new]).length ≤ 1000 := by
    have := cl_few (ears := ears) (s := [new])
    have := List.length_filter_le (fun a => decide (a ∉ [new])) (upN 0 ears.length)
    unfold oth at *
    rw [upN_len] at this
    omega
  have a9 := alike_pairs (S := S'') (n := 1) lc
  generalize (cl ears [new]).map dP = cc at *
  refine wp_step (Γ' := [.im (.fz (ns.map .int)), .im (.ref 0), x2, .im (dN lab ears), .im (.int ears.length), .im (dRow s), .im (.int new), x7, x8, x9, x10, x11, x12, x13, x14, x15, x16, .no]) (S' := S'') (by simp [c9, q9, a9]) ?_
  -- all, and none
  have hall : Row ears.length (upN 0 ears.length) := sub_row (List.Sublist.refl _)
  have hnil : Row ears.length [] := ⟨.nil, fun a ha => by cases ha⟩
  have ca := clear_is (S := S'') N hall
  rw [cl_of_none fun st h0 h1 => by rw [hb_in (mem_upN.mpr (by omega))]; omega] at ca
  have cn : M_clear [dN lab ears, .tup []] S'' = some (.tup ((cl ears []).map dP), S'') := clear_is (S := S'') N hnil
  rw [cl_of_none fun st h0 h1 => by rw [hb_none]; omega] at cn
  have hnn : M_heard [dN lab ears, .tup []] S'' = some (.tup ((hd ears []).map .int), S'') := heard_is (S := S'') N hnil
  have er2 := eRT_of (r := mR1 (eV 4)) (Γ := [.im (.fz (ns.map .int)), .im (.ref 0), x2, .im (dN lab ears), .im (.int ears.length), .im (dRow s), .im (.int new), x7, x8, x9, x10, x11, x12, x13, x14, x15, x16, .no]) (S := S'') (i := 0) (j := ears.length) (S' := S'') (by simp) (decide_eq_true (by omega))
  rw [Int.sub_zero, Int.toNat_natCast, rng_upN, show D.tup ((upN 0 ears.length).map .int) = dRow (upN 0 ears.length) from rfl] at er2
  have q10 := filt_v (vs := [17]) (it := iV gIt (eCall M_heard (aC (eV 3) (aC (eF gTup aN) aN)))) (g := gNm 17) (t := tV gB (eB gNe (eV 17) (eU gNeg (eC (.int 1))))) (m := eV 17)
    (Γ := [.im (.fz (ns.map .int)), .im (.ref 0), x2, .im (dN lab ears), .im (.int ears.length), .im (dRow s), .im (.int new), x7, x8, x9, x10, x11, x12, x13, x14, x15, x16, .no]) (S := S'') (hd ears []) D.int (fun a => !(a == -1)) D.int (by simp [hnn]) (by unfold hd; rw [List.length_map, upN_len]; omega) (by simp) fun l hl => ⟨_, rfl, by simp, by simp⟩
  rw [show (hd ears []).filter (fun a => !(a == -1)) = [] by
    rw [List.filter_eq_nil_iff]
    intro a ha
    unfold hd at ha
    obtain ⟨st, _, rfl⟩ := List.mem_map.mp ha
    rw [hb_none]
    simp] at q10
  simp only [List.map_nil] at q10 ca cn
  have gn1 : gNe (.tup []) (.tup []) = some (.bl false) := rfl
  have gn2 : gNe (.lst []) (.lst []) = some (.bl false) := rfl
  refine wp_step (Γ' := [.im (.fz (ns.map .int)), .im (.ref 0), x2, .im (dN lab ears), .im (.int ears.length), .im (dRow s), .im (.int new), x7, x8, x9, x10, x11, x12, x13, x14, x15, x16, .no]) (S' := S'') (by simp [er2, ca, cn, q10, gn1, gn2]) ?_
  -- the others
  have q11 := filt_v (vs := [10]) (it := iA gR1 (aC (eV 4) aN)) (g := gNm 10) (t := tV gB (eB gNi (eV 10) (eV 5))) (m := eV 10)
    (Γ := [.im (.fz (ns.map .int)), .im (.ref 0), x2, .im (dN lab ears), .im (.int ears.length), .im (dRow s), .im (.int new), x7, x8, x9, x10, x11, x12, x13, x14, x15, x16, .no]) (S := S'') (upN 0 ears.length) D.int (fun a => decide (a ∉ s)) D.int (by simp [eru]) (by rw [upN_len]; omega) (by simp [h10']) fun a ha => ⟨_, rfl, by simp [gNi_r], by simp⟩
  rw [show (upN 0 ears.length).filter (fun a => decide (a ∉ s)) = oth ears.length s from rfl] at q11
  refine wp_step (Γ' := [.im (.fz (ns.map .int)), .im (.ref 0), x2, .im (dN lab ears), .im (.int ears.length), .im (dRow s), .im (.int new), x7, x8, x9, x10, x11, x12, x13, x14, .im (dRow (oth ears.length s)), x16, .no]) (S' := S'') (by simp [q11]; rfl) ?_
  have hoth : Row ears.length (oth ears.length s) := sub_row List.filter_sublist
  have cs := clear_is (S := S'') N hs
  have co := clear_is (S := S'') N hoth
  have few := cl_few (ears := ears) (s := s)
  have lo : (oth ears.length s).length ≤ ears.length := hoth.len
  have q12 := filt_v (vs := [17]) (it := iV gIt (eCall M_clear (aC (eV 3) (aC (eV 5) aN)))) (g := gNm 17) (t := tV gB (eB gIn (eV 17) (eCall M_clear (aC (eV 3) (aC (eV 15) aN))))) (m := eV 17)
    (Γ := [.im (.fz (ns.map .int)), .im (.ref 0), x2, .im (dN lab ears), .im (.int ears.length), .im (dRow s), .im (.int new), x7, x8, x9, x10, x11, x12, x13, x14, .im (dRow (oth ears.length s)), x16, .no]) (S := S'') (cl ears s) dP (fun l => decide (l ∈ cl ears (oth ears.length s))) dP (by simp [cs]) (by omega) (by simp) fun l hl => by
      have gi := gIn_pt (a := l) (xs := cl ears (oth ears.length s))
      generalize (cl ears (oth ears.length s)).map dP = cc2 at *
      exact ⟨_, rfl, by simp [co, gi], by simp⟩
  rw [both_none N] at q12
  refine wp_step (Γ' := [.im (.fz (ns.map .int)), .im (.ref 0), x2, .im (dN lab ears), .im (.int ears.length), .im (dRow s), .im (.int new), x7, x8, x9, x10, x11, x12, x13, x14, .im (dRow (oth ears.length s)), .ow (.lst []), .no]) (S' := S'') (by simp only [sSetV_ap, q12, Option.map_some, List.set, List.map_nil]) ?_
  have gl : gLen [dRow (oth ears.length s)] = some (.int (oth ears.length s).length) := by unfold dRow; rw [gLen_t, List.length_map]
  have nlt : ¬ ((oth ears.length s).length : Int) < (cl ears s).length := by omega
  refine wp_last (Γ' := [.im (.fz (ns.map .int)), .im (.ref 0), x2, .im (dN lab ears), .im (.int ears.length), .im (dRow s), .im (.int new), x7, x8, x9, x10, x11, x12, x13, x14, .im (dRow (oth ears.length s)), .im (.lst []), .no]) (S' := S'') ?_ (Q02.of h10' hS3)
  simp [frzE, gn2, cs, gl]
  omega
theorem law_true (ns : List Int) (h : ns.length ≤ 63) : ∃ S, M_law [.fz (ns.map D.int)] [] = some (.bl true, S) := by
  have w : Wp (forGo (gNm 2) b_law_2 (rngD 0 12) [.im (.fz (ns.map .int)), .im (.ref 0), .no, .no, .no, .no, .no, .no, .no, .no, .no, .no, .no, .no, .no, .no, .no, .no] [.lst [.fz (ns.map .int), .int 0, .int 226021, .int 0]]) fun r => r.1 = .nx ∧ I02 ns r.2.1 r.2.2 :=
    for_all (I02 ns) (rngD 0 12) _ _ ⟨⟨_, _, _, _, _, _, _, _, _, _, _, _, _, _, _, rfl, rfl⟩, 0, 226021, 0, by omega, by omega, rfl⟩ fun d hd Γ S ⟨⟨x2, x3, x4, x5, x6, x7, x8, x9, x10, x11, x12, x13, x14, x15, x16, h10, e⟩, hS⟩ => by
      subst e
      exact ⟨_, rfl, turn (x2 := x2) hS h10⟩
  obtain ⟨⟨o, Γ', S'⟩, e, ho, _⟩ := w
  simp only at ho
  subst ho
  refine ⟨S', fn_rt (Γ' := []) ?_⟩
  have e14 : gR1 [.int 12] = some (rngD 0 12) := gR1_i (by omega)
  simp [e14, e]
end Lk02
open PySem PySem.W PyProof.Rows
set_option maxRecDepth 100000 in
set_option maxHeartbeats 0 in
theorem PySem.Challenge.cw_channelshared_k02_whole_one_more_sender_holds : PySem.Challenge.rw_channelshared_k02_whole_one_more_sender.Holds := by
  w_on; o_law; k_head; (case hw => w_witness2)
  k_fill
  refine L2.walk_of (l := PySem.Challenge.rw_channelshared_k02_whole_one_more_sender) (n := 63) (k := 7) (x := "script") (CX := fun _ => L2.CX0) (sp := fun w => J.spD ⟨_, fun _ => 0⟩ 1 Lk02.M_law) rfl (by decide) rfl ⟨rfl, by decide, by decide⟩ (fun w h Y => PySem.W.kIn_of Y) ?F
    (fun _ _ a ns hl _ hS => let ⟨_, h⟩ := Lk02.law_true ns hl; J.law_sp hS h) (fun _ _ _ _ _ h => h)
  case F =>
    intro w mg fa h KX G hmg
    refine' Lk02.all_mk KX G hmg _ ?a0 ?l0 ?c0 ?k0 ?a1 ?l1 ?c1 ?k1 ?a2 ?l2 ?c2 ?k2 ?a3 ?l3 ?c3 ?k3 ?a4 ?l4 ?c4 ?k4 ?a5 ?l5 ?c5 ?k5 ?a6 ?l6 ?c6 ?k6 ?a7 ?l7 ?c7 ?k7 ?a8 ?l8 ?c8 ?k8 ?a9 ?l9 ?c9 ?k9 ?a10 ?l10 ?c10 ?k10 ?a11 ?l11 ?c11 ?k11 ?a12 ?l12 ?c12 ?k12 ?a13 ?l13 ?c13 ?k13 ?a14 ?l14 ?c14 ?k14 ?a15 ?l15 ?c15 ?k15 ?a16 ?l16 ?c16 ?k16 ?a17 ?l17 ?c17 ?k17 ?a18 ?l18 ?c18 ?k18 ?a19 ?l19 ?c19 ?k19 ?a20 ?l20 ?c20 ?k20 ?a21 ?l21 ?c21 ?k21 ?m0 ?m1 ?m2 ?m3 ?m4 ?m5 ?m6 ?m7 ?m8 ?m9 ?m10 ?m11 ?m12 ?m13 ?m14 ?m15 ?m16 ?m17 ?m18 ?m19 ?m20 ?m21 ?m22 ?m23 ?m24 ?m25 ?m26 ?m27 ?m28 ?m29 ?m30 ?m31 ?m32 ?m33 ?m34 ?m35 ?m36 ?m37
    (case a0 => k_is); (case l0 => k_is); (case c0 => k_is); (case k0 => k_is); (case a1 => k_is); (case l1 => k_is); (case c1 => k_is); (case k1 => k_is); (case a2 => k_is); (case l2 => k_is); (case c2 => k_is); (case k2 => k_is); (case a3 => k_is); (case l3 => k_is); (case c3 => k_is); (case k3 => k_is); (case a4 => k_is); (case l4 => k_is); (case c4 => k_is); (case k4 => k_is); (case a5 => k_is); (case l5 => k_is); (case c5 => k_is); (case k5 => k_is); (case a6 => k_is); (case l6 => k_is); (case c6 => k_is); (case k6 => k_is); (case a7 => k_is); (case l7 => k_is); (case c7 => k_is); (case k7 => k_is); (case a8 => k_is); (case l8 => k_is); (case c8 => k_is); (case k8 => k_is); (case a9 => k_is); (case l9 => k_is); (case c9 => k_is); (case k9 => k_is); (case a10 => k_is); (case l10 => k_is); (case c10 => k_is); (case k10 => k_is); (case a11 => k_is); (case l11 => k_is); (case c11 => k_is); (case k11 => k_is); (case a12 => k_is); (case l12 => k_is); (case c12 => k_is); (case k12 => k_is); (case a13 => k_is); (case l13 => k_is); (case c13 => k_is); (case k13 => k_is); (case a14 => k_is); (case l14 => k_is); (case c14 => k_is); (case k14 => k_is); (case a15 => k_is); (case l15 => k_is); (case c15 => k_is); (case k15 => k_is); (case a16 => k_is); (case l16 => k_is); (case c16 => k_is); (case k16 => k_is); (case a17 => k_is); (case l17 => k_is); (case c17 => k_is); (case k17 => k_is); (case a18 => k_is); (case l18 => k_is); (case c18 => k_is); (case k18 => k_is); (case a19 => k_is); (case l19 => k_is); (case c19 => k_is); (case k19 => k_is); (case a20 => k_is); (case l20 => k_is); (case c20 => k_is); (case k20 => k_is); (case a21 => k_is); (case l21 => k_is); (case c21 => k_is); (case k21 => k_is); (case m0 => k_is); (case m1 => k_is); (case m2 => k_is); (case m3 => k_is); (case m4 => k_is); (case m5 => k_is); (case m6 => k_is); (case m7 => k_is); (case m8 => k_is); (case m9 => k_is); (case m10 => k_is); (case m11 => k_is); (case m12 => k_is); (case m13 => k_is); (case m14 => k_is); (case m15 => k_is); (case m16 => k_is); (case m17 => k_is); (case m18 => k_is); (case m19 => k_is); (case m20 => k_is); (case m21 => k_is); (case m22 => k_is); (case m23 => k_is); (case m24 => k_is); (case m25 => k_is); (case m26 => k_is); (case m27 => k_is); (case m28 => k_is); (case m29 => k_is); (case m30 => k_is); (case m31 => k_is); (case m32 => k_is); (case m33 => k_is); (case m34 => k_is); (case m35 => k_is); (case m36 => k_is); (case m37 => k_is)
