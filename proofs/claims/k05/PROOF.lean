import PyProof.Rows.All
import Wide.All
import OpenK.AllK
import Wide.FinOn
import HandS.ForMost
import HandS.ForExc
import HandS.Wide
import HandS.IsInst
import HandS.Style
import HandS.ExcIs
import HandS.EndBits
import HandS.Comp
import PySem.Challenge.RW_linesaid_k05_between_and_crossing
set_option Elab.async false
set_option linter.all false
set_option maxRecDepth 100000
/-! A value semantics over the hand layer: data as trees, locals as slots, ownership of what may change. -/
namespace DX
open PySem PySem.Spec L2
open PyProof.Rows hiding St

/-- plain data -/
inductive D where
  | non | bl (b : Bool) | int (i : Int) | str (s : Str)
  | tup (xs : List D) | lst (xs : List D)
  | dK (kvs : List (Key × D)) | dT (kvs : List (List Key × D))
  /-- the law's script -/
  | scr (ns : List Int)

instance : Inhabited D := ⟨.non⟩

section rep
variable (K : PySem.W.Frag)
/-- v stands for d, all of it in the part F of the heap that doesn't change any more -/
inductive Rep (F : Hp) : V → D → Prop
  | non : Rep F .non .non
  | bl (b : Bool) : Rep F (.bl b) (.bl b)
  | int (i : Int) : Rep F (.int i) (.int i)
  | str (s : Str) : Rep F (.str s) (.str s)
  | tup {a : Addr} {vs : List V} {xs : List D} (h : SqT K F a vs) (hl : vs.length = xs.length)
      (hi : ∀ (i : Nat) (v : V) (x : D), vs[i]? = some v → xs[i]? = some x → Rep F v x) : Rep F (.ref a) (.tup xs)
  | scr {a : Addr} {ns : List Int} (h : SqL K F a (ns.map V.int)) : Rep F (.ref a) (.scr ns)
  | lst {a : Addr} {vs : List V} {xs : List D} (h : Rd F a (.lst vs)) (hl : vs.length = xs.length)
      (hi : ∀ (i : Nat) (v : V) (x : D), vs[i]? = some v → xs[i]? = some x → Rep F v x) : Rep F (.ref a) (.lst xs)
  | dK {a : Addr} {kvs : List (Key × V)} {ds : List (Key × D)} (h : Rd F a (.dK kvs)) (hl : kvs.map (·.1) = ds.map (·.1))
      (hi : ∀ (i : Nat) (v : Key × V) (x : Key × D), kvs[i]? = some v → ds[i]? = some x → Rep F v.2 x.2) : Rep F (.ref a) (.dK ds)
  | dT {a : Addr} {kvs : List (List Key × V)} {ds : List (List Key × D)} (h : Rd F a (.dT kvs)) (hl : kvs.map (·.1) = ds.map (·.1))
      (hi : ∀ (i : Nat) (v : List Key × V) (x : List Key × D), kvs[i]? = some v → ds[i]? = some x → Rep F v.2 x.2) : Rep F (.ref a) (.dT ds)
def Reps (F : Hp) (vs : List V) (xs : List D) : Prop := vs.length = xs.length ∧ ∀ (i : Nat) (v : V) (x : D), vs[i]? = some v → xs[i]? = some x → Rep K F v x
def RepKs {κ : Type} (F : Hp) (vs : List (κ × V)) (xs : List (κ × D)) : Prop := vs.map (·.1) = xs.map (·.1) ∧ ∀ (i : Nat) (v : κ × V) (x : κ × D), vs[i]? = some v → xs[i]? = some x → Rep K F v.2 x.2
/-- the same, the topmost object in H -/
inductive RepH (H F : Hp) : V → D → Prop
  | non : RepH H F .non .non
  | bl (b : Bool) : RepH H F (.bl b) (.bl b)
  | int (i : Int) : RepH H F (.int i) (.int i)
  | str (s : Str) : RepH H F (.str s) (.str s)
  | tup {a : Addr} {vs : List V} {xs : List D} (h : SqT K H a vs) (hi : Reps K F vs xs) : RepH H F (.ref a) (.tup xs)
  | scr {a : Addr} {ns : List Int} (h : SqL K H a (ns.map V.int)) : RepH H F (.ref a) (.scr ns)
  | lst {a : Addr} {vs : List V} {xs : List D} (h : Rd H a (.lst vs)) (hi : Reps K F vs xs) : RepH H F (.ref a) (.lst xs)
  | dK {a : Addr} {kvs : List (Key × V)} {ds : List (Key × D)} (h : Rd H a (.dK kvs)) (hi : RepKs K F kvs ds) : RepH H F (.ref a) (.dK ds)
  | dT {a : Addr} {kvs : List (List Key × V)} {ds : List (List Key × D)} (h : Rd H a (.dT kvs)) (hi : RepKs K F kvs ds) : RepH H F (.ref a) (.dT ds)
/-- owned: the topmost object is tracked in H, at L, and nobody else has it -/
inductive RepO (H F : Hp) : V → D → List Addr → Prop
  | lst {a : Addr} {vs : List V} {xs : List D} (h : H a = some (.lst vs)) (hi : Reps K F vs xs) : RepO H F (.ref a) (.lst xs) [a]
  | dK {a : Addr} {kvs : List (Key × V)} {ds : List (Key × D)} (h : H a = some (.dK kvs)) (hi : RepKs K F kvs ds) : RepO H F (.ref a) (.dK ds) [a]
  | dT {a : Addr} {kvs : List (List Key × V)} {ds : List (List Key × D)} (h : H a = some (.dT kvs)) (hi : RepKs K F kvs ds) : RepO H F (.ref a) (.dT ds) [a]
end rep

section
variable {K : PySem.W.Frag} {H H' F F' G : Hp} {v : V} {d : D} {L : List Addr}
theorem Rd.mono {a : Addr} {u : HO} (e : Same H H') (h : Rd H a u) : Rd H' a u := by
  rcases h with h | ⟨o, h⟩
  · exact .inl (e _ _ h)
  · exact .inr ⟨o, e _ _ h⟩
theorem SqT.mono {a : Addr} {xs : List V} (e : Same H H') (h : SqT K H a xs) : SqT K H' a xs := by
  rcases h with h | h
  · exact .inl (Rd.mono e h)
  · exact .inr h
theorem SqL.mono {a : Addr} {xs : List V} (e : Same H H') (h : SqL K H a xs) : SqL K H' a xs := by
  rcases h with h | h
  · exact .inl (Rd.mono e h)
  · exact .inr h
theorem Rep.mono (e : Same F F') (h : Rep K F v d) : Rep K F' v d := by
  induction h with
  | non => exact .non
  | bl b => exact .bl b
  | int i => exact .int i
  | str s => exact .str s
  | tup h hl hi ih => exact .tup (SqT.mono e h) hl ih
  | scr h => exact .scr (SqL.mono e h)
  | lst h hl hi ih => exact .lst (Rd.mono e h) hl ih
  | dK h hl hi ih => exact .dK (Rd.mono e h) hl ih
  | dT h hl hi ih => exact .dT (Rd.mono e h) hl ih
theorem Reps.mono {vs : List V} {xs : List D} (e : Same F F') (h : Reps K F vs xs) : Reps K F' vs xs := ⟨h.1, fun i v x a b => (h.2 i v x a b).mono e⟩
theorem RepKs.mono {κ : Type} {vs : List (κ × V)} {xs : List (κ × D)} (e : Same F F') (h : RepKs K F vs xs) : RepKs K F' vs xs := ⟨h.1, fun i v x a b => (h.2 i v x a b).mono e⟩
theorem Rep.toH (e : Same F H) (h : Rep K F v d) : RepH K H F v d := by
  cases h with
  | non => exact .non
  | bl b => exact .bl b
  | int i => exact .int i
  | str s => exact .str s
  | tup h hl hi => exact .tup (SqT.mono e h) ⟨hl, hi⟩
  | scr h => exact .scr (SqL.mono e h)
  | lst h hl hi => exact .lst (Rd.mono e h) ⟨hl, hi⟩
  | dK h hl hi => exact .dK (Rd.mono e h) ⟨hl, hi⟩
  | dT h hl hi => exact .dT (Rd.mono e h) ⟨hl, hi⟩
theorem RepH.mono (e : Same H H') (e2 : Same F F') (h : RepH K H F v d) : RepH K H' F' v d := by
  cases h with
  | non => exact .non
  | bl b => exact .bl b
  | int i => exact .int i
  | str s => exact .str s
  | tup h hi => exact .tup (SqT.mono e h) (hi.mono e2)
  | scr h => exact .scr (SqL.mono e h)
  | lst h hi => exact .lst (Rd.mono e h) (hi.mono e2)
  | dK h hi => exact .dK (Rd.mono e h) (hi.mono e2)
  | dT h hi => exact .dT (Rd.mono e h) (hi.mono e2)
theorem RepO.toH (h : RepO K H F v d L) : RepH K H F v d := by
  cases h with
  | lst h hi => exact .lst (.inl h) hi
  | dK h hi => exact .dK (.inl h) hi
  | dT h hi => exact .dT (.inl h) hi
theorem RepO.keep (e : ∀ a ∈ L, H' a = H a) (e2 : Same F F') (h : RepO K H F v d L) : RepO K H' F' v d L := by
  cases h with
  | lst h hi => exact .lst ((e _ List.mem_cons_self).trans h) (hi.mono e2)
  | dK h hi => exact .dK ((e _ List.mem_cons_self).trans h) (hi.mono e2)
  | dT h hi => exact .dT ((e _ List.mem_cons_self).trans h) (hi.mono e2)
theorem RepO.there (h : RepO K H F v d L) : ∀ a ∈ L, ∃ o, H a = some o := by
  cases h with
  | lst h hi => intro a ha; obtain rfl := List.mem_singleton.mp ha; exact ⟨_, h⟩
  | dK h hi => intro a ha; obtain rfl := List.mem_singleton.mp ha; exact ⟨_, h⟩
  | dT h hi => intro a ha; obtain rfl := List.mem_singleton.mp ha; exact ⟨_, h⟩
/-- what is owned is laid down for good -/
theorem RepO.freeze (e : Same F H) (h : RepO K H F v d L) (hn : ∀ a ∈ L, F a = none) : ∃ F', Same F F' ∧ Same F' H ∧ (∀ a, F' a ≠ none → F a ≠ none ∨ a ∈ L) ∧ Rep K F' v d := by
  have core : ∀ {a : Addr} {o : HO}, H a = some o → F a = none → Same F (upd F a o) ∧ Same (upd F a o) H ∧ (∀ b, (upd F a o) b ≠ none → F b ≠ none ∨ b ∈ [a]) := fun {a o} h n => by
    refine ⟨fun b u q => ?_, fun b u q => ?_, fun b q => ?_⟩
    · rw [upd_ne (ne_of_none q n)]; exact q
    · by_cases hb : b = a
      · subst hb; rw [upd_same] at q; cases q; exact h
      · rw [upd_ne hb] at q; exact e _ _ q
    · by_cases hb : b = a
      · exact .inr (by simp [hb])
      · rw [upd_ne hb] at q; exact .inl q
  cases h with
  | lst h hi =>
    obtain ⟨c1, c2, c3⟩ := core h (hn _ List.mem_cons_self)
    have hi' := hi.mono c1
    exact ⟨_, c1, c2, c3, .lst (.inl upd_same) hi'.1 hi'.2⟩
  | dK h hi =>
    obtain ⟨c1, c2, c3⟩ := core h (hn _ List.mem_cons_self)
    have hi' := hi.mono c1
    exact ⟨_, c1, c2, c3, .dK (.inl upd_same) hi'.1 hi'.2⟩
  | dT h hi =>
    obtain ⟨c1, c2, c3⟩ := core h (hn _ List.mem_cons_self)
    have hi' := hi.mono c1
    exact ⟨_, c1, c2, c3, .dT (.inl upd_same) hi'.1 hi'.2⟩
end

/-! ### slots -/
inductive Mode where
  | fz | ow | io | rd
  deriving DecidableEq
inductive Slot where
  | un
  | pin
  | v (m : Mode) (d : D)
instance : Inhabited Slot := ⟨.un⟩
abbrev DEnv := List Slot

/-- the frame's values against the slots: P what the parameters were at the entry (io: pinned), G what stays, L what is owned -/
inductive EnvR (K : PySem.W.Frag) (R H F : Hp) : List (Option V) → St → DEnv → List Addr → Prop
  | nil {P : List (Option V)} : EnvR K R H F P [] [] []
  | un {P : List (Option V)} {o : Option V} {σ : St} {env : DEnv} {L : List Addr} (t : EnvR K R H F P.tail σ env L) : EnvR K R H F P (o :: σ) (.un :: env) L
  | pin {P : List (Option V)} {v : V} {σ : St} {env : DEnv} {L : List Addr} (p : P.head? = some (some v)) (t : EnvR K R H F P.tail σ env L) : EnvR K R H F P (some v :: σ) (.pin :: env) L
  | fz {P : List (Option V)} {v : V} {d : D} {σ : St} {env : DEnv} {L : List Addr} (r : Rep K F v d) (t : EnvR K R H F P.tail σ env L) : EnvR K R H F P (some v :: σ) (.v .fz d :: env) L
  | rd {P : List (Option V)} {v : V} {d : D} {σ : St} {env : DEnv} {L : List Addr} (r : RepH K R F v d) (t : EnvR K R H F P.tail σ env L) : EnvR K R H F P (some v :: σ) (.v .rd d :: env) L
  | ow {P : List (Option V)} {v : V} {d : D} {σ : St} {env : DEnv} {L1 L : List Addr} (r : RepO K H F v d L1) (t : EnvR K R H F P.tail σ env L) : EnvR K R H F P (some v :: σ) (.v .ow d :: env) (L1 ++ L)
  | io {P : List (Option V)} {v : V} {d : D} {σ : St} {env : DEnv} {L1 L : List Addr} (p : P.head? = some (some v)) (r : RepO K H F v d L1) (t : EnvR K R H F P.tail σ env L) : EnvR K R H F P (some v :: σ) (.v .io d :: env) (L1 ++ L)

section
variable {K : PySem.W.Frag} {R H H' F F' : Hp} {P : List (Option V)} {σ : St} {env : DEnv} {L : List Addr} {v : V} {d : D} {i : Nat}
theorem EnvR.len (h : EnvR K R H F P σ env L) : σ.length = env.length := by
  induction h with
  | nil => rfl
  | _ => simp_all
theorem EnvR.get (gh : Same R H) (fh : Same F H) (h : EnvR K R H F P σ env L) : ∀ {i : Nat} {m : Mode} {d : D}, env[i]? = some (.v m d) → ∃ v, σ[i]? = some (some v) ∧ RepH K H F v d := by
  induction h with
  | nil => intro i m d e; simp at e
  | un t ih => intro i m d e; cases i with
    | zero => simp at e
    | succ i => exact ih (by simpa using e)
  | pin p t ih => intro i m d e; cases i with
    | zero => simp at e
    | succ i => exact ih (by simpa using e)
  | fz r t ih => intro i m d e; cases i with
    | zero => simp at e; obtain ⟨_, rfl⟩ := e; exact ⟨_, rfl, r.toH fh⟩
    | succ i => exact ih (by simpa using e)
  | rd r t ih => intro i m d e; cases i with
    | zero => simp at e; obtain ⟨_, rfl⟩ := e; exact ⟨_, rfl, r.mono gh (fun _ _ q => q)⟩
    | succ i => exact ih (by simpa using e)
  | ow r t ih => intro i m d e; cases i with
    | zero => simp at e; obtain ⟨_, rfl⟩ := e; exact ⟨_, rfl, r.toH⟩
    | succ i => exact ih (by simpa using e)
  | io p r t ih => intro i m d e; cases i with
    | zero => simp at e; obtain ⟨_, rfl⟩ := e; exact ⟨_, rfl, r.toH⟩
    | succ i => exact ih (by simpa using e)
theorem EnvR.getFz (h : EnvR K R H F P σ env L) : ∀ {i : Nat} {d : D}, env[i]? = some (.v .fz d) → ∃ v, σ[i]? = some (some v) ∧ Rep K F v d := by
  induction h with
  | nil => intro i d e; simp at e
  | un t ih => intro i d e; cases i with
    | zero => simp at e
    | succ i => exact ih (by simpa using e)
  | pin p t ih => intro i d e; cases i with
    | zero => simp at e
    | succ i => exact ih (by simpa using e)
  | fz r t ih => intro i d e; cases i with
    | zero => simp at e; subst e; exact ⟨_, rfl, r⟩
    | succ i => exact ih (by simpa using e)
  | rd r t ih => intro i d e; cases i with
    | zero => simp at e
    | succ i => exact ih (by simpa using e)
  | ow r t ih => intro i d e; cases i with
    | zero => simp at e
    | succ i => exact ih (by simpa using e)
  | io p r t ih => intro i d e; cases i with
    | zero => simp at e
    | succ i => exact ih (by simpa using e)
/-- the heap has changed, but not at what is owned -/
theorem EnvR.keep (fh : Same F F') (h : EnvR K R H F P σ env L) (e : ∀ a ∈ L, H' a = H a) : EnvR K R H' F' P σ env L := by
  induction h with
  | nil => exact .nil
  | @un _ o _ _ _ t ih => exact .un (o := o) (ih e)
  | pin p t ih => exact .pin p (ih e)
  | fz r t ih => exact .fz (r.mono fh) (ih e)
  | rd r t ih => exact .rd (r.mono (Same.refl R) fh) (ih e)
  | ow r t ih => exact .ow (r.keep (fun a ha => e a (List.mem_append_left _ ha)) fh) (ih fun a ha => e a (List.mem_append_right _ ha))
  | io p r t ih => exact .io p (r.keep (fun a ha => e a (List.mem_append_left _ ha)) fh) (ih fun a ha => e a (List.mem_append_right _ ha))
theorem EnvR.sub (h : EnvR K R H F P σ env L) : ∀ a ∈ L, ∃ o, H a = some o := by
  induction h with
  | nil => intro a ha; cases ha
  | un t ih => exact ih
  | pin p t ih => exact ih
  | fz r t ih => exact ih
  | rd r t ih => exact ih
  | ow r t ih => intro a ha; exact (List.mem_append.mp ha).elim (r.there a) (ih a)
  | io p r t ih => intro a ha; exact (List.mem_append.mp ha).elim (r.there a) (ih a)
/-- a slot is stored anew -/
theorem EnvR.set {s : Slot} {Lr : List Addr} {o : Option V} (h : EnvR K R H F P σ env L)
    (hs : ∀ (P' : List (Option V)) (σ' : St) (env' : DEnv) (L' : List Addr), EnvR K R H F P'.tail σ' env' L' → EnvR K R H F P' (o :: σ') (s :: env') (Lr ++ L')) :
    ∀ {i : Nat}, i < env.length → ∃ L', EnvR K R H F P (σ.set i o) (env.set i s) L' ∧ (∀ a ∈ L', a ∈ Lr ∨ a ∈ L) ∧ ((Lr ++ L).Nodup → L'.Nodup) := by
  induction h with
  | nil => intro i hi; simp at hi
  | un t ih => intro i hi; cases i with
    | zero => exact ⟨_, hs _ _ _ _ t, fun a ha => List.mem_append.mp ha, fun n => n⟩
    | succ i =>
      obtain ⟨L', e, m, n⟩ := ih (i := i) (by simpa using hi)
      exact ⟨L', .un e, m, n⟩
  | pin p t ih => intro i hi; cases i with
    | zero => exact ⟨_, hs _ _ _ _ t, fun a ha => List.mem_append.mp ha, fun n => n⟩
    | succ i =>
      obtain ⟨L', e, m, n⟩ := ih (i := i) (by simpa using hi)
      exact ⟨L', .pin p e, m, n⟩
  | fz r t ih => intro i hi; cases i with
    | zero => exact ⟨_, hs _ _ _ _ t, fun a ha => List.mem_append.mp ha, fun n => n⟩
    | succ i =>
      obtain ⟨L', e, m, n⟩ := ih (i := i) (by simpa using hi)
      exact ⟨L', .fz r e, m, n⟩
  | rd r t ih => intro i hi; cases i with
    | zero => exact ⟨_, hs _ _ _ _ t, fun a ha => List.mem_append.mp ha, fun n => n⟩
    | succ i =>
      obtain ⟨L', e, m, n⟩ := ih (i := i) (by simpa using hi)
      exact ⟨L', .rd r e, m, n⟩
  | @ow _ _ _ _ _ L1 L r t ih => intro i hi; cases i with
    | zero =>
      refine ⟨_, hs _ _ _ _ t, fun a ha => (List.mem_append.mp ha).imp id fun q => List.mem_append_right _ q, fun n => ?_⟩
      exact List.Nodup.sublist (List.Sublist.append (List.Sublist.refl _) (List.sublist_append_right L1 L)) n
    | succ i =>
      obtain ⟨L', e, m, n⟩ := ih (i := i) (by simpa using hi)
      refine ⟨L1 ++ L', .ow r e, fun a ha => ?_, fun nn => ?_⟩
      · rcases List.mem_append.mp ha with q | q
        · exact .inr (List.mem_append_left _ q)
        · exact (m a q).imp id fun z => List.mem_append_right _ z
      · rw [List.nodup_append] at nn ⊢
        obtain ⟨n1, n2, n3⟩ := nn
        rw [List.nodup_append] at n2
        refine ⟨n2.1, n ?_, fun a ha b hb => ?_⟩
        · rw [List.nodup_append]
          exact ⟨n1, n2.2.1, fun a ha b hb => n3 a ha b (List.mem_append_right _ hb)⟩
        · rcases m b hb with q | q
          · exact fun z => n3 b q a (List.mem_append_left _ ha) z.symm
          · exact n2.2.2 a ha b q
  | @io _ _ _ _ _ L1 L p r t ih => intro i hi; cases i with
    | zero =>
      refine ⟨_, hs _ _ _ _ t, fun a ha => (List.mem_append.mp ha).imp id fun q => List.mem_append_right _ q, fun n => ?_⟩
      exact List.Nodup.sublist (List.Sublist.append (List.Sublist.refl _) (List.sublist_append_right L1 L)) n
    | succ i =>
      obtain ⟨L', e, m, n⟩ := ih (i := i) (by simpa using hi)
      refine ⟨L1 ++ L', .io p r e, fun a ha => ?_, fun nn => ?_⟩
      · rcases List.mem_append.mp ha with q | q
        · exact .inr (List.mem_append_left _ q)
        · exact (m a q).imp id fun z => List.mem_append_right _ z
      · rw [List.nodup_append] at nn ⊢
        obtain ⟨n1, n2, n3⟩ := nn
        rw [List.nodup_append] at n2
        refine ⟨n2.1, n ?_, fun a ha b hb => ?_⟩
        · rw [List.nodup_append]
          exact ⟨n1, n2.2.1, fun a ha b hb => n3 a ha b (List.mem_append_right _ hb)⟩
        · rcases m b hb with q | q
          · exact fun z => n3 b q a (List.mem_append_left _ ha) z.symm
          · exact n2.2.2 a ha b q
end

/-! ### the frame -/
structure FI (K : PySem.W.Frag) (R : Hp) (P : List (Option V)) (G H F : Hp) (σ : St) (env : DEnv) (L : List Addr) : Prop where
  fh : Same F H
  gh : Same G H
  rg : Same R G
  er : EnvR K R H F P σ env L
  nd : L.Nodup
  fr : ∀ a ∈ L, F a = none ∧ G a = none
/-- what was laid down since: not at what stays -/
def NewF (G F F' : Hp) : Prop := ∀ a, F' a ≠ none → F a ≠ none ∨ G a = none
theorem NewF.refl {G F : Hp} : NewF G F F := fun _ h => .inl h
theorem NewF.trans {G F F' F'' : Hp} (a : NewF G F F') (b : NewF G F' F'') : NewF G F F'' := fun x h => (b x h).elim (a x) .inr

inductive Val where
  | fz (d : D) | tmp (d : D) | br (i : Nat)
def RepVal (K : PySem.W.Frag) (H F : Hp) (σ : St) (v : V) : Val → List Addr → Prop
  | .fz d, L => L = [] ∧ Rep K F v d
  | .tmp d, L => RepO K H F v d L
  | .br i, L => L = [] ∧ σ[i]? = some (some v)
inductive ER where
  | ok (v : Val) (env : DEnv) | raise (c : Str) (env : DEnv) | err
def ER.bind (r : ER) (f : Val → DEnv → ER) : ER := match r with
  | .ok v env => f v env
  | .raise c env => .raise c env
  | .err => .err
inductive AR where
  | ok (vs : List Val) (env : DEnv) | raise (c : Str) (env : DEnv) | err
inductive FR where
  | next (env : DEnv) | ret (v : Val) (env : DEnv) | brk (env : DEnv) | cnt (env : DEnv) | raise (c : Str) (env : DEnv) | err
def ER.thn (r : ER) (f : Val → DEnv → FR) : FR := match r with
  | .ok v env => f v env
  | .raise c env => .raise c env
  | .err => .err
def AR.bind (r : AR) (f : List Val → DEnv → ER) : ER := match r with
  | .ok v env => f v env
  | .raise c env => .raise c env
  | .err => .err
def AR.thn (r : AR) (f : List Val → DEnv → FR) : FR := match r with
  | .ok v env => f v env
  | .raise c env => .raise c env
  | .err => .err
def FR.bind (r : FR) (f : DEnv → FR) : FR := match r with
  | .next env => f env
  | .ret v env => .ret v env
  | .brk env => .brk env
  | .cnt env => .cnt env
  | .raise c env => .raise c env
  | .err => .err

/-- a value that is read -/
def rdV (env : DEnv) : Val → Option D
  | .fz d => some d
  | .tmp d => some d
  | .br i => match env[i]? with
    | some (.v _ d) => some d
    | _ => none

section
variable (X : Cx) (W : WX) (R : Hp) (P : List (Option V)) (G : Hp)
def PRaise (F : Hp) (σ : St) (c : Str) (env : DEnv) : Prop := ∀ (C : Addr) (H' F' : Hp) (L' : List Addr), X.mg c = some (.ref C) → FI X.K R P G H' F' σ env L' → Same F F' → NewF G F F' → W (.ref C) none σ H'
def POk (F : Hp) (σ : St) (rv : Val) (env : DEnv) (Q : VK) : Prop := ∀ (v : V) (H' F' : Hp) (L' Lr : List Addr), FI X.K R P G H' F' σ env L' → Same F F' → NewF G F F' → RepVal X.K H' F' σ v rv Lr → (Lr ++ L').Nodup → (∀ a ∈ Lr, F' a = none ∧ G a = none) → Q v H'
def PostV (F : Hp) (σ : St) (r : ER) (Q : VK) : Prop := match r with
  | .ok rv env => POk X R P G F σ rv env Q
  | .raise c env => PRaise X W R P G F σ c env
  | .err => False
end
/-- canonical readings -/
def tW (X : Cx) (e : Expr) : TE := fun σ H Q => ∀ (pins : List (Addr × Obj)) (s : Shared), Inv X pins σ H s → wpAny (model X.prog X.w) X.A (eval e X.env) (EP X pins σ Q) X.xe s
theorem pe_w {X : Cx} {e : Expr} : PE X e (tW X e) := ⟨fun pins s σ H Q I h => h pins s I⟩
theorem w_of {X : Cx} {e : Expr} {t : TE} {σ : St} {H : Hp} {Q : VK} (h : PE X e t) (q : t σ H Q) : tW X e σ H Q := fun pins s I => h.run pins s σ H Q I q
theorem tW_mono {X : Cx} {e : Expr} {σ : St} {H : Hp} {Q Q' : VK} (h : tW X e σ H Q) (q : ∀ v H', Q v H' → Q' v H') : tW X e σ H Q' := fun pins s I =>
  thn (h pins s I) fun _ _ ⟨v, H', I', r, z⟩ => ⟨v, H', I', r, q v H' z⟩
def tWt (X : Cx) (e : Expr) : TT := fun σ H Q => ∀ (pins : List (Addr × Obj)) (s : Shared), Inv X pins σ H s → wpAny (model X.prog X.w) X.A (isTrue e X.env (eval e X.env)) (TP X pins σ Q) X.xe s
theorem pt_w {X : Cx} {e : Expr} : PT X e (tWt X e) := ⟨fun pins s σ H Q I h => h pins s I⟩
theorem wt_of {X : Cx} {e : Expr} {t : TT} {σ : St} {H : Hp} {Q : Bool → Hp → Prop} (h : PT X e t) (q : t σ H Q) : tWt X e σ H Q := fun pins s I => h.run pins s σ H Q I q
def tWs (X : Cx) (st : Stmt) : TS := fun D σ H => ∀ (pins : List (Addr × Obj)) (s : Shared), Inv X pins σ H s → wpAny (model X.prog X.w) X.A (exec st X.env) (SP X pins D) X.xe s
theorem ps_w {X : Cx} {st : Stmt} : PS X st (tWs X st) := ⟨fun pins s σ H D I h => h pins s I⟩
theorem ws_of {X : Cx} {e : Stmt} {t : TS} {σ : St} {H : Hp} {D : Ends} (h : PS X e t) (q : t D σ H) : tWs X e D σ H := fun pins s I => h.run pins s σ H D I q
def tWss (X : Cx) (sts : List Stmt) : TS := fun D σ H => ∀ (pins : List (Addr × Obj)) (s : Shared), Inv X pins σ H s → wpAny (model X.prog X.w) X.A (execs sts X.env) (SP X pins D) X.xe s
theorem pss_w {X : Cx} {sts : List Stmt} : PSs X sts (tWss X sts) := ⟨fun pins s σ H D I h => h pins s I⟩
theorem wss_of {X : Cx} {e : List Stmt} {t : TS} {σ : St} {H : Hp} {D : Ends} (h : PSs X e t) (q : t D σ H) : tWss X e D σ H := fun pins s I => h.run pins s σ H D I q
def tWa (X : Cx) : List Expr → TA
  | [] => tNil
  | e :: es => tCons (tW X e) (tWa X es)

theorem tWa_mono {X : Cx} {σ : St} : ∀ {es : List Expr} {H : Hp} {k k' : List V → Hp → Prop}, tWa X es σ H k → (∀ vs H', k vs H' → k' vs H') → tWa X es σ H k'
  | [], H, k, k', h, q => q _ _ h
  | e :: es, H, k, k', h, q => tW_mono (e := e) (Q := fun x H1 => tWa X es σ H1 fun xs H2 => k (x :: xs) H2) h fun x H1 h1 => tWa_mono h1 fun vs H' z => q _ _ z
/-- an expression computes m -/
def ME (X : Cx) (W : WX) (R : Hp) (P : List (Option V)) (e : Expr) (m : DEnv → ER) : Prop :=
  ∀ (G H F : Hp) (σ : St) (env : DEnv) (L : List Addr) (Q : VK), FI X.K R P G H F σ env L → PostV X W R P G F σ (m env) Q → tW X e σ H Q

section
variable {X : Cx} {W : WX} {R G G' : Hp} {P : List (Option V)} {H H' F F' : Hp} {σ : St} {env : DEnv} {L : List Addr} {Q : VK}
theorem NewF.less (e : ∀ a, G' a = none → G a = none) (h : NewF G' F F') : NewF G F F' := fun a q => (h a q).imp id (e a)
theorem PostV.later {r : ER} (e : Same F F') (n : NewF G F F') (h : PostV X W R P G F σ r Q) : PostV X W R P G F' σ r Q := by
  cases r with
  | ok rv env => exact fun v H' F'' L' Lr I s n' r nd fr => h v H' F'' L' Lr I (e.trans s) (n.trans n') r nd fr
  | raise c env => exact fun C H' F'' L' g I s n' => h C H' F'' L' g I (e.trans s) (n.trans n')
  | err => exact h
theorem PRaise.later {c : Str} {env : DEnv} (e : Same F F') (n : NewF G F F') (h : PRaise X W R P G F σ c env) : PRaise X W R P G F' σ c env :=
  fun C H' F'' L' g I s n' => h C H' F'' L' g I (e.trans s) (n.trans n')
/-- only new objects -/
theorem FI.ext (I : FI X.K R P G H F σ env L) (hh : Same H H') (ff : Same F F') (fh : Same F' H') (nw : ∀ a, F' a ≠ none → F a ≠ none ∨ H a = none) : FI X.K R P G H' F' σ env L := by
  have st := I.er.sub
  refine ⟨fh, I.gh.trans hh, I.rg, I.er.keep ff (fun a ha => ?_), I.nd, fun a ha => ⟨?_, (I.fr a ha).2⟩⟩
  · obtain ⟨o, e⟩ := st a ha
    rw [e]; exact hh _ _ e
  · obtain ⟨o, e⟩ := st a ha
    cases q : F' a with
    | none => rfl
    | some u =>
      rcases nw a (by rw [q]; simp) with z | z
      · exact absurd (I.fr a ha).1 z
      · rw [e] at z; cases z
theorem FI.newF (I : FI X.K R P G H F σ env L) (nw : ∀ a, F' a ≠ none → F a ≠ none ∨ H a = none) : NewF G F F' := fun a q => (nw a q).imp id fun z => I.gh.free z
/-- more stays -/
theorem FI.more (I : FI X.K R P G H F σ env L) (gg : Same G G') (gh : Same G' H) (n : ∀ a ∈ L, G' a = none) : FI X.K R P G' H F σ env L :=
  ⟨I.fh, gh, I.rg.trans gg, I.er, I.nd, fun a ha => ⟨(I.fr a ha).1, n a ha⟩⟩
/-- less stays -/
theorem FI.less (I : FI X.K R P G' H F σ env L) (gg : Same G G') (rg : Same R G) : FI X.K R P G H F σ env L :=
  ⟨I.fh, gg.trans I.gh, rg, I.er, I.nd, fun a ha => ⟨(I.fr a ha).1, gg.free (I.fr a ha).2⟩⟩
end
end DX

namespace DX
open PySem PySem.Spec L2
open PyProof.Rows hiding St

section
variable {X : Cx} {W : WX} {R G G' : Hp} {P : List (Option V)} {H H' F F' : Hp} {σ : St} {env : DEnv} {L Lr : List Addr} {Q : VK} {v : V} {rv : Val}

theorem RepVal.there (h : RepVal X.K H F σ v rv Lr) : ∀ a ∈ Lr, ∃ o, H a = some o := by
  cases rv with
  | fz d => obtain ⟨rfl, _⟩ := h; intro a ha; cases ha
  | tmp d => exact RepO.there h
  | br i => obtain ⟨rfl, _⟩ := h; intro a ha; cases ha
theorem RepVal.keep (h : RepVal X.K H F σ v rv Lr) (ff : Same F F') (e : ∀ a ∈ Lr, H' a = H a) : RepVal X.K H' F' σ v rv Lr := by
  cases rv with
  | fz d => exact ⟨h.1, h.2.mono ff⟩
  | tmp d => exact RepO.keep e ff h
  | br i => exact h
/-- what is held stays, too -/
def addG (G H : Hp) (L : List Addr) : Hp := fun a => if a ∈ L then H a else G a
theorem addG_in {G H : Hp} {L : List Addr} {a : Addr} (h : a ∈ L) : addG G H L a = H a := if_pos h
theorem addG_out {G H : Hp} {L : List Addr} {a : Addr} (h : a ∉ L) : addG G H L a = G a := if_neg h
theorem addG_same {G H : Hp} {L : List Addr} (fr : ∀ a ∈ L, G a = none) : Same G (addG G H L) := fun b o e => by
  rw [addG_out fun z => by rw [fr b z] at e; cases e]; exact e
theorem FI.held (I : FI X.K R P G H F σ env L) (dj : (Lr ++ L).Nodup) (fr : ∀ a ∈ Lr, F a = none ∧ G a = none) : FI X.K R P (addG G H Lr) H F σ env L := by
  refine I.more (addG_same fun a h => (fr a h).2) (fun b o e => ?_) fun a ha => ?_
  · by_cases hb : b ∈ Lr
    · rw [addG_in hb] at e; exact e
    · rw [addG_out hb] at e; exact I.gh _ _ e
  · rw [addG_out fun z => (List.nodup_append.mp dj).2.2 a z a ha rfl]
    exact (I.fr a ha).2
/-- behind a further evaluation -/
theorem held_back {env' : DEnv} {L' : List Addr} (I : FI X.K R P G H F σ env L) (h : RepVal X.K H F σ v rv Lr) (fr : ∀ a ∈ Lr, F a = none ∧ G a = none)
    (I' : FI X.K R P (addG G H Lr) H' F' σ env' L') (ff : Same F F') (nw : NewF (addG G H Lr) F F') :
    FI X.K R P G H' F' σ env' L' ∧ NewF G F F' ∧ RepVal X.K H' F' σ v rv Lr ∧ (Lr.Nodup → (Lr ++ L').Nodup) ∧ (∀ a ∈ Lr, F' a = none ∧ G a = none) ∧ (∀ a ∈ Lr, addG G H Lr a ≠ none) := by
  have gg : Same G (addG G H Lr) := addG_same fun a q => (fr a q).2
  have nn : ∀ a ∈ Lr, addG G H Lr a ≠ none := fun a ha => by
    rw [addG_in ha]; obtain ⟨o, e⟩ := h.there a ha; rw [e]; simp
  refine ⟨I'.less gg I.rg, nw.less fun a => gg.free, h.keep ff fun a ha => ?_, fun nd => ?_, fun a ha => ⟨?_, (fr a ha).2⟩, nn⟩
  · obtain ⟨o, e⟩ := h.there a ha
    rw [e]; exact I'.gh _ _ ((addG_in ha).trans e)
  · refine List.nodup_append.mpr ⟨nd, I'.nd, fun a ha b hb z => ?_⟩
    subst z
    exact nn a ha (I'.fr a hb).2
  · cases q : F' a with
    | none => rfl
    | some u =>
      rcases nw a (by rw [q]; simp) with z | z
      · exact absurd (fr a ha).1 z
      · exact absurd z (nn a ha)

/-! ### argument lists -/
inductive HeldR (K : PySem.W.Frag) (H F : Hp) (σ : St) : List V → List Val → List Addr → Prop
  | nil : HeldR K H F σ [] [] []
  | cons {v : V} {rv : Val} {L1 : List Addr} {vs : List V} {rvs : List Val} {L : List Addr} (h : RepVal K H F σ v rv L1) (t : HeldR K H F σ vs rvs L) : HeldR K H F σ (v :: vs) (rv :: rvs) (L1 ++ L)
def mArgs : List (DEnv → ER) → DEnv → AR
  | [], env => .ok [] env
  | m :: ms, env => match m env with
    | .ok v env1 => match mArgs ms env1 with
      | .ok vs env2 => .ok (v :: vs) env2
      | .raise c e => .raise c e
      | .err => .err
    | .raise c e => .raise c e
    | .err => .err
inductive MEs (X : Cx) (W : WX) (R : Hp) (P : List (Option V)) : List Expr → List (DEnv → ER) → Prop
  | nil : MEs X W R P [] []
  | cons {e : Expr} {m : DEnv → ER} {es : List Expr} {ms : List (DEnv → ER)} (h : ME X W R P e m) (t : MEs X W R P es ms) : MEs X W R P (e :: es) (m :: ms)
def AOk (X : Cx) (R : Hp) (P : List (Option V)) (G F : Hp) (σ : St) (rvs : List Val) (env : DEnv) (k : List V → Hp → Prop) : Prop :=
  ∀ (vs : List V) (H' F' : Hp) (L' Lr : List Addr), FI X.K R P G H' F' σ env L' → Same F F' → NewF G F F' → HeldR X.K H' F' σ vs rvs Lr → (Lr ++ L').Nodup → (∀ a ∈ Lr, F' a = none ∧ G a = none) → k vs H'
def PostA (X : Cx) (W : WX) (R : Hp) (P : List (Option V)) (G F : Hp) (σ : St) (r : AR) (k : List V → Hp → Prop) : Prop := match r with
  | .ok rvs env => AOk X R P G F σ rvs env k
  | .raise c env => PRaise X W R P G F σ c env
  | .err => False
theorem PRaise.less {c : Str} {env : DEnv} (gg : Same G G') (rg : Same R G) (h : PRaise X W R P G F σ c env) : PRaise X W R P G' F σ c env :=
  fun C H' F' L' g I s n => h C H' F' L' g (I.less gg rg) s (n.less fun a => gg.free)
theorem run_args : ∀ {es : List Expr} {ms : List (DEnv → ER)}, MEs X W R P es ms → ∀ {G H F : Hp} {env : DEnv} {L : List Addr} {k : List V → Hp → Prop},
    FI X.K R P G H F σ env L → PostA X W R P G F σ (mArgs ms env) k → tWa X es σ H k := by
  intro es ms hm
  induction hm with
  | nil =>
    intro G H F env L k I h
    exact h [] H F L [] I (Same.refl F) NewF.refl .nil (by simpa using I.nd) (fun a z => nomatch z)
  | @cons e m es ms hm ht ih =>
    intro G H F env L k I h
    show tW X e σ H fun x H1 => tWa X es σ H1 fun xs H2 => k (x :: xs) H2
    refine hm G H F σ env L _ I ?_
    unfold mArgs at h
    cases em : m env with
    | err => rw [em] at h; exact h
    | raise c env' => rw [em] at h; exact h
    | ok rv env1 =>
      rw [em] at h
      intro v H1 F1 L1 Lr I1 s1 n1 r1 nd1 fr1
      have ndr : Lr.Nodup := (List.nodup_append.mp nd1).1
      refine ih (I1.held nd1 fr1) ?_
      dsimp only at h
      cases ea : mArgs ms env1 with
      | err => rw [ea] at h; exact h
      | raise c env' =>
        rw [ea] at h
        exact PRaise.less (addG_same fun a q => (fr1 a q).2) I1.rg (PRaise.later s1 n1 h)
      | ok rvs env2 =>
        rw [ea] at h
        intro vs H2 F2 L2 Ls I2 s2 n2 hs nd2 fr2
        obtain ⟨J, n', rk, nk, frk, nn⟩ := held_back I1 r1 fr1 I2 s2 n2
        have dj : ∀ a ∈ Lr, ∀ b ∈ Ls, a ≠ b := fun a ha b hb z => by
          subst z
          exact nn a ha (fr2 a hb).2
        refine h (v :: vs) H2 F2 L2 (Lr ++ Ls) J (s1.trans s2) (n1.trans n') (.cons rk hs) ?_ fun a ha => ?_
        · rw [List.append_assoc]
          have q1 := List.nodup_append.mp (nk ndr)
          refine List.nodup_append.mpr ⟨ndr, nd2, fun a ha b hb => ?_⟩
          rcases List.mem_append.mp hb with z | z
          · exact dj a ha b z
          · exact q1.2.2 a ha b z
        · rcases List.mem_append.mp ha with z | z
          · exact frk a z
          · exact ⟨(fr2 a z).1, (addG_same fun a q => (fr1 a q).2).free (fr2 a z).2⟩

/-! ### reading values -/
theorem rdV_ok (I : FI X.K R P G H F σ env L) (h : RepVal X.K H F σ v rv Lr) {d : D} (e : rdV env rv = some d) : RepH X.K H F v d := by
  cases rv with
  | fz d' => cases e; exact h.2.toH I.fh
  | tmp d' => cases e; exact RepO.toH h
  | br i =>
    cases q : env[i]? with
    | none => simp only [rdV, q] at e; cases e
    | some s =>
      simp only [rdV, q] at e
      cases s with
      | un => cases e
      | pin => cases e
      | v m d' =>
        cases e
        obtain ⟨u, e1, r⟩ := I.er.get (I.rg.trans I.gh) I.fh q
        have e2 := h.2
        rw [e1] at e2
        cases e2
        exact r
def rdVs (env : DEnv) : List Val → Option (List D)
  | [] => some []
  | v :: vs => match rdV env v, rdVs env vs with
    | some d, some ds => some (d :: ds)
    | _, _ => none
inductive RepHs (K : PySem.W.Frag) (H F : Hp) : List V → List D → Prop
  | nil : RepHs K H F [] []
  | cons {v : V} {d : D} {vs : List V} {ds : List D} (h : RepH K H F v d) (t : RepHs K H F vs ds) : RepHs K H F (v :: vs) (d :: ds)
theorem rdVs_ok (I : FI X.K R P G H F σ env L) : ∀ {vs : List V} {rvs : List Val} {Lr : List Addr} {ds : List D}, HeldR X.K H F σ vs rvs Lr → rdVs env rvs = some ds → RepHs X.K H F vs ds
  | _, _, _, _, .nil, e => by cases e; exact .nil
  | _, _, _, ds, .cons (v := v) (rv := rv) (vs := vs) (rvs := rvs) h t, e => by
    unfold rdVs at e
    cases e1 : rdV env rv with
    | none => rw [e1] at e; cases e
    | some d =>
      cases e2 : rdVs env rvs with
      | none => rw [e1, e2] at e; cases e
      | some ds' =>
        rw [e1, e2] at e
        cases e
        exact .cons (rdV_ok I h e1) (rdVs_ok I t e2)

/-! ### what a primitive gives -/
/-- new objects alone -/
def GivesV (K : PySem.W.Frag) (H F : Hp) (σ : St) (rv : Val) (Q : VK) : Prop := ∀ (v : V) (H' F' : Hp) (Lr : List Addr), Same H H' → Same F F' → Same F' H' → (∀ a, F' a ≠ none → F a ≠ none ∨ H a = none) →
  RepVal K H' F' σ v rv Lr → Lr.Nodup → (∀ a ∈ Lr, H a = none ∧ F' a = none) → Q v H'
theorem gives_of (I : FI X.K R P G H F σ env L) (h : POk X R P G F σ rv env Q) : GivesV X.K H F σ rv Q := fun v H' F' Lr hh ff fh nw r nd fr => by
  have I' := I.ext hh ff fh nw
  refine h v H' F' L Lr I' ff (I.newF nw) r ?_ fun a ha => ⟨(fr a ha).2, I.gh.free (fr a ha).1⟩
  refine List.nodup_append.mpr ⟨nd, I.nd, fun a ha b hb z => ?_⟩
  subst z
  obtain ⟨o, e⟩ := I.er.sub a hb
  rw [(fr a ha).1] at e
  cases e
theorem GivesV.atom {d : D} (fh : Same F H) (h : GivesV X.K H F σ (.fz d) Q) (r : Rep X.K F v d) : Q v H :=
  h v H F [] (Same.refl H) (Same.refl F) fh (fun _ q => .inl q) ⟨rfl, r⟩ List.nodup_nil (fun _ z => nomatch z)
theorem same_upd {H : Hp} {p : Addr} {o : HO} (h : H p = none) : Same H (upd H p o) := fun b x e => by rw [upd_ne (ne_of_none e h)]; exact e
theorem upd_sub {H F : Hp} {p : Addr} {o : HO} (fh : Same F H) (h : H p = none) : Same (upd F p o) (upd H p o) := fun b x e => by
  by_cases hb : b = p
  · subst hb; rw [upd_same] at e ⊢; exact e
  · rw [upd_ne hb] at e ⊢; exact fh _ _ e
theorem upd_new {H F : Hp} {p : Addr} {o : HO} (h : H p = none) : ∀ a, (upd F p o) a ≠ none → F a ≠ none ∨ H a = none := fun a q => by
  by_cases ha : a = p
  · subst ha; exact .inr h
  · rw [upd_ne ha] at q; exact .inl q
/-- a new frozen object -/
theorem GivesV.new {d : D} {p : Addr} {o : HO} (fh : Same F H) (h : GivesV X.K H F σ (.fz d) Q) (n : H p = none) (r : Rep X.K (upd F p o) (.ref p) d) : Q (.ref p) (upd H p o) :=
  h (.ref p) (upd H p o) (upd F p o) [] (same_upd n) (same_upd (fh.free n)) (upd_sub fh n) (upd_new n) ⟨rfl, r⟩ List.nodup_nil (fun _ z => nomatch z)
/-- a new owned object -/
theorem GivesV.own {d : D} {p : Addr} {o : HO} (fh : Same F H) (h : GivesV X.K H F σ (.tmp d) Q) (n : H p = none) (r : RepO X.K (upd H p o) F (.ref p) d [p]) : Q (.ref p) (upd H p o) :=
  h (.ref p) (upd H p o) F [p] (same_upd n) (Same.refl F) (fh.trans (same_upd n)) (fun _ q => .inl q) r (by simp) fun a ha => by
    obtain rfl := List.mem_singleton.mp ha
    exact ⟨n, fh.free n⟩

/-! ### freezing -/
theorem EnvR.focus {K : PySem.W.Frag} (h : EnvR K R H F P σ env L) : ∀ {i : Nat} {m : Mode} {d : D}, L.Nodup → (m = .ow ∨ m = .io) → env[i]? = some (.v m d) → ∃ v La L', σ[i]? = some (some v) ∧ RepO K H F v d La ∧ (La ++ L').Nodup ∧ (∀ a, a ∈ L ↔ a ∈ La ∨ a ∈ L') ∧
    (∀ (H' F' : Hp), Same F F' → (∀ a ∈ L', H' a = H a) → (EnvR K R H' F' P σ (env.set i .un) L' ∧
      (∀ d', Rep K F' v d' → EnvR K R H' F' P σ (env.set i (.v .fz d')) L') ∧
      (∀ d' Lb, RepO K H' F' v d' Lb → ∃ L'', EnvR K R H' F' P σ (env.set i (.v m d')) L'' ∧ (∀ a, a ∈ L'' ↔ a ∈ Lb ∨ a ∈ L') ∧ ((Lb ++ L').Nodup → L''.Nodup)))) := by
  induction h with
  | nil => intro i m d nd hm e; simp at e
  | @un P' o σ' env' L1 t ih => intro i m d nd hm e; cases i with
    | zero => simp at e
    | succ i =>
      obtain ⟨v, La, L', e1, e2, e3, e4, e5⟩ := ih nd hm (by simpa using e)
      refine ⟨v, La, L', e1, e2, e3, e4, fun H' F' ff hh => ?_⟩
      obtain ⟨k1, k2, k3⟩ := e5 H' F' ff hh
      exact ⟨.un (o := o) k1, fun d' r => .un (o := o) (k2 d' r), fun d' Lb r => let ⟨L'', a1, a2, a3⟩ := k3 d' Lb r; ⟨L'', .un (o := o) a1, a2, a3⟩⟩
  | pin p t ih => intro i m d nd hm e; cases i with
    | zero => simp at e
    | succ i =>
      obtain ⟨v, La, L', e1, e2, e3, e4, e5⟩ := ih nd hm (by simpa using e)
      refine ⟨v, La, L', e1, e2, e3, e4, fun H' F' ff hh => ?_⟩
      obtain ⟨k1, k2, k3⟩ := e5 H' F' ff hh
      exact ⟨.pin p k1, fun d' q => .pin p (k2 d' q), fun d' Lb q => let ⟨L'', a1, a2, a3⟩ := k3 d' Lb q; ⟨L'', .pin p a1, a2, a3⟩⟩
  | fz r t ih => intro i m d nd hm e; cases i with
    | zero => simp at e; rcases hm with rfl | rfl <;> simp at e
    | succ i =>
      obtain ⟨v, La, L', e1, e2, e3, e4, e5⟩ := ih nd hm (by simpa using e)
      refine ⟨v, La, L', e1, e2, e3, e4, fun H' F' ff hh => ?_⟩
      obtain ⟨k1, k2, k3⟩ := e5 H' F' ff hh
      exact ⟨.fz (r.mono ff) k1, fun d' q => .fz (r.mono ff) (k2 d' q), fun d' Lb q => let ⟨L'', a1, a2, a3⟩ := k3 d' Lb q; ⟨L'', .fz (r.mono ff) a1, a2, a3⟩⟩
  | rd r t ih => intro i m d nd hm e; cases i with
    | zero => simp at e; rcases hm with rfl | rfl <;> simp at e
    | succ i =>
      obtain ⟨v, La, L', e1, e2, e3, e4, e5⟩ := ih nd hm (by simpa using e)
      refine ⟨v, La, L', e1, e2, e3, e4, fun H' F' ff hh => ?_⟩
      obtain ⟨k1, k2, k3⟩ := e5 H' F' ff hh
      exact ⟨.rd (r.mono (Same.refl _) ff) k1, fun d' q => .rd (r.mono (Same.refl _) ff) (k2 d' q), fun d' Lb q => let ⟨L'', a1, a2, a3⟩ := k3 d' Lb q; ⟨L'', .rd (r.mono (Same.refl _) ff) a1, a2, a3⟩⟩
  | @ow P' v0 d0 σ' env' L1 L2 r t ih => intro i m d nd hm e; cases i with
    | zero =>
      simp at e
      obtain ⟨rfl, rfl⟩ := e
      refine ⟨v0, L1, L2, rfl, r, nd, fun a => List.mem_append, fun H' F' ff hh => ?_⟩
      have t' := t.keep (H' := H') ff hh
      exact ⟨.un t', fun d' q => .fz q t', fun d' Lb q => ⟨Lb ++ L2, .ow q t', fun a => List.mem_append, fun n => n⟩⟩
    | succ i =>
      obtain ⟨n1, n2, n3⟩ := List.nodup_append.mp nd
      obtain ⟨v, La, L', e1, e2, e3, e4, e5⟩ := ih n2 hm (by simpa using e)
      refine ⟨v, La, L1 ++ L', e1, e2, ?_, fun a => ?_, fun H' F' ff hh => ?_⟩
      · obtain ⟨m1, m2, m3⟩ := List.nodup_append.mp e3
        refine List.nodup_append.mpr ⟨m1, List.nodup_append.mpr ⟨n1, m2, fun a ha b hb => n3 a ha b ((e4 b).mpr (.inr hb))⟩, fun a ha b hb => ?_⟩
        rcases List.mem_append.mp hb with z | z
        · exact fun q => n3 b z a ((e4 a).mpr (.inl ha)) q.symm
        · exact m3 a ha b z
      · rw [List.mem_append, List.mem_append, e4]; constructor <;> intro q <;> rcases q with q | q | q <;> simp [q]
      · obtain ⟨k1, k2, k3⟩ := e5 H' F' ff fun a ha => hh a (List.mem_append_right _ ha)
        have r' := r.keep (H' := H') (fun a ha => hh a (List.mem_append_left _ ha)) ff
        refine ⟨.ow r' k1, fun d' q => .ow r' (k2 d' q), fun d' Lb q => ?_⟩
        obtain ⟨L'', a1, a2, a3⟩ := k3 d' Lb q
        refine ⟨L1 ++ L'', .ow r' a1, fun a => ?_, fun nn => ?_⟩
        · rw [List.mem_append, List.mem_append, a2]; constructor <;> intro q <;> rcases q with q | q | q <;> simp [q]
        · obtain ⟨m1, m2, m3⟩ := List.nodup_append.mp nn
          obtain ⟨m4, m5, m6⟩ := List.nodup_append.mp m2
          refine List.nodup_append.mpr ⟨n1, a3 (List.nodup_append.mpr ⟨m1, m5, fun a ha b hb => m3 a ha b (List.mem_append_right _ hb)⟩), fun a ha b hb => ?_⟩
          rcases (a2 b).mp hb with z | z
          · exact fun q => m3 b z a (List.mem_append_left _ ha) q.symm
          · exact m6 a ha b z
  | @io P' v0 d0 σ' env' L1 L2 p r t ih => intro i m d nd hm e; cases i with
    | zero =>
      simp at e
      obtain ⟨rfl, rfl⟩ := e
      refine ⟨v0, L1, L2, rfl, r, nd, fun a => List.mem_append, fun H' F' ff hh => ?_⟩
      have t' := t.keep (H' := H') ff hh
      exact ⟨.un t', fun d' q => .fz q t', fun d' Lb q => ⟨Lb ++ L2, .io p q t', fun a => List.mem_append, fun n => n⟩⟩
    | succ i =>
      obtain ⟨n1, n2, n3⟩ := List.nodup_append.mp nd
      obtain ⟨v, La, L', e1, e2, e3, e4, e5⟩ := ih n2 hm (by simpa using e)
      refine ⟨v, La, L1 ++ L', e1, e2, ?_, fun a => ?_, fun H' F' ff hh => ?_⟩
      · obtain ⟨m1, m2, m3⟩ := List.nodup_append.mp e3
        refine List.nodup_append.mpr ⟨m1, List.nodup_append.mpr ⟨n1, m2, fun a ha b hb => n3 a ha b ((e4 b).mpr (.inr hb))⟩, fun a ha b hb => ?_⟩
        rcases List.mem_append.mp hb with z | z
        · exact fun q => n3 b z a ((e4 a).mpr (.inl ha)) q.symm
        · exact m3 a ha b z
      · rw [List.mem_append, List.mem_append, e4]; constructor <;> intro q <;> rcases q with q | q | q <;> simp [q]
      · obtain ⟨k1, k2, k3⟩ := e5 H' F' ff fun a ha => hh a (List.mem_append_right _ ha)
        have r' := r.keep (H' := H') (fun a ha => hh a (List.mem_append_left _ ha)) ff
        refine ⟨.io p r' k1, fun d' q => .io p r' (k2 d' q), fun d' Lb q => ?_⟩
        obtain ⟨L'', a1, a2, a3⟩ := k3 d' Lb q
        refine ⟨L1 ++ L'', .io p r' a1, fun a => ?_, fun nn => ?_⟩
        · rw [List.mem_append, List.mem_append, a2]; constructor <;> intro q <;> rcases q with q | q | q <;> simp [q]
        · obtain ⟨m1, m2, m3⟩ := List.nodup_append.mp nn
          obtain ⟨m4, m5, m6⟩ := List.nodup_append.mp m2
          refine List.nodup_append.mpr ⟨n1, a3 (List.nodup_append.mpr ⟨m1, m5, fun a ha b hb => m3 a ha b (List.mem_append_right _ hb)⟩), fun a ha b hb => ?_⟩
          rcases (a2 b).mp hb with z | z
          · exact fun q => m3 b z a (List.mem_append_left _ ha) q.symm
          · exact m6 a ha b z

def frzV (env : DEnv) : Val → Option (D × DEnv)
  | .fz d => some (d, env)
  | .tmp d => some (d, env)
  | .br i => match env[i]? with
    | some (.v .fz d) => some (d, env)
    | some (.v .ow d) => some (d, env.set i (.v .fz d))
    | _ => none
theorem frzV_ok (I : FI X.K R P G H F σ env L) (h : RepVal X.K H F σ v rv Lr) (nd : (Lr ++ L).Nodup) (fr : ∀ a ∈ Lr, F a = none ∧ G a = none) {d : D} {env' : DEnv} (e : frzV env rv = some (d, env')) :
    ∃ F' L', FI X.K R P G H F' σ env' L' ∧ Same F F' ∧ NewF G F F' ∧ Rep X.K F' v d ∧ (∀ a ∈ L', a ∈ L) ∧ (∀ a, F' a ≠ none → F a ≠ none ∨ a ∈ Lr ∨ a ∈ L) := by
  cases rv with
  | fz d' =>
    cases e
    exact ⟨F, L, I, Same.refl F, NewF.refl, h.2, fun _ q => q, fun _ q => .inl q⟩
  | tmp d' =>
    cases e
    obtain ⟨F', ff, fh, nw, r⟩ := RepO.freeze I.fh h fun a ha => (fr a ha).1
    refine ⟨F', L, ⟨fh, I.gh, I.rg, I.er.keep ff fun _ _ => rfl, I.nd, fun a ha => ⟨?_, (I.fr a ha).2⟩⟩, ff, fun a q => (nw a q).imp id fun z => (fr a z).2, r, fun _ q => q, fun a q => (nw a q).imp id .inl⟩
    cases q : F' a with
    | none => rfl
    | some u =>
      rcases nw a (by rw [q]; simp) with z | z
      · exact absurd (I.fr a ha).1 z
      · exact absurd rfl ((List.nodup_append.mp nd).2.2 a z a ha)
  | br i =>
    cases q : env[i]? with
    | none => simp only [frzV, q] at e; cases e
    | some s =>
      simp only [frzV, q] at e
      cases s with
      | un => cases e
      | pin => cases e
      | v m d' =>
        cases m with
        | fz =>
          cases e
          obtain ⟨u, e1, r⟩ := I.er.getFz q
          have e2 := h.2
          rw [e1] at e2
          cases e2
          exact ⟨F, L, I, Same.refl F, NewF.refl, r, fun _ q => q, fun _ q => .inl q⟩
        | ow =>
          cases e
          obtain ⟨u, La, L', e1, ro, ndA, mem, put⟩ := I.er.focus I.nd (.inl rfl) q
          have e2 := h.2
          rw [e1] at e2
          cases e2
          have inL : ∀ a ∈ La, a ∈ L := fun a ha => (mem a).mpr (.inl ha)
          obtain ⟨F', ff, fh, nw, r⟩ := RepO.freeze I.fh ro fun a ha => (I.fr a (inL a ha)).1
          obtain ⟨_, pz, _⟩ := put H F' ff fun _ _ => rfl
          refine ⟨F', L', ⟨fh, I.gh, I.rg, pz _ r, (List.nodup_append.mp ndA).2.1, fun a ha => ?_⟩, ff, fun a q => (nw a q).imp id fun z => (I.fr a (inL a z)).2, r, fun a ha => (mem a).mpr (.inr ha), fun a q => (nw a q).imp id fun z => .inr (inL a z)⟩
          have z := I.fr a ((mem a).mpr (.inr ha))
          refine ⟨?_, z.2⟩
          cases q : F' a with
          | none => rfl
          | some u =>
            rcases nw a (by rw [q]; simp) with y | y
            · exact absurd z.1 y
            · exact absurd rfl ((List.nodup_append.mp ndA).2.2 a y a ha)
        | io => cases e
        | rd => cases e
def frzVs (env : DEnv) : List Val → Option (List D × DEnv)
  | [] => some ([], env)
  | v :: vs => match frzV env v with
    | some (d, env1) => match frzVs env1 vs with
      | some (ds, env2) => some (d :: ds, env2)
      | none => none
    | none => none
theorem HeldR.there : ∀ {vs : List V} {rvs : List Val} {Lr : List Addr}, HeldR X.K H F σ vs rvs Lr → ∀ a ∈ Lr, ∃ o, H a = some o
  | _, _, _, .nil, a, ha => nomatch ha
  | _, _, _, .cons h t, a, ha => (List.mem_append.mp ha).elim (h.there a) (t.there a)
theorem HeldR.keep : ∀ {vs : List V} {rvs : List Val} {Lr : List Addr}, HeldR X.K H F σ vs rvs Lr → Same F F' → (∀ a ∈ Lr, H' a = H a) → HeldR X.K H' F' σ vs rvs Lr
  | _, _, _, .nil, _, _ => .nil
  | _, _, _, .cons h t, ff, e => .cons (h.keep ff fun a ha => e a (List.mem_append_left _ ha)) (t.keep ff fun a ha => e a (List.mem_append_right _ ha))
theorem frzVs_ok : ∀ {rvs : List Val} {vs : List V} {Lr L : List Addr} {F : Hp} {env env' : DEnv} {ds : List D}, FI X.K R P G H F σ env L → HeldR X.K H F σ vs rvs Lr → (Lr ++ L).Nodup → (∀ a ∈ Lr, F a = none ∧ G a = none) → frzVs env rvs = some (ds, env') →
    ∃ F' L', FI X.K R P G H F' σ env' L' ∧ Same F F' ∧ NewF G F F' ∧ Reps X.K F' vs ds ∧ (∀ a ∈ L', a ∈ L)
  | [], _, Lr, L, F, env, env', ds, I, h0, nd, fr, e => by
    cases h0
    cases e
    exact ⟨F, L, I, Same.refl F, NewF.refl, ⟨rfl, fun i v x h => by simp at h⟩, fun _ q => q⟩
  | rv :: rvs, _, _, L, F, env, env', ds, I, .cons (v := v) (L1 := L1) (vs := vs) (L := L2) h t, nd, fr, e => by
    unfold frzVs at e
    cases e1 : frzV env rv with
    | none => rw [e1] at e; cases e
    | some p =>
      obtain ⟨d, env1⟩ := p
      rw [e1] at e
      dsimp only at e
      cases e2 : frzVs env1 rvs with
      | none => rw [e2] at e; cases e
      | some p2 =>
        obtain ⟨ds2, env2⟩ := p2
        rw [e2] at e
        cases e
        rw [List.append_assoc] at nd
        obtain ⟨m1, m2, m3⟩ := List.nodup_append.mp nd
        have nd1 : (L1 ++ L).Nodup := List.nodup_append.mpr ⟨m1, (List.nodup_append.mp m2).2.1, fun a ha b hb => m3 a ha b (List.mem_append_right _ hb)⟩
        obtain ⟨F1, L1', I1, ff1, nw1, r1, sub1, loc1⟩ := frzV_ok I h nd1 (fun a ha => fr a (List.mem_append_left _ ha)) e1
        have fr2 : ∀ a ∈ L2, F1 a = none ∧ G a = none := fun a ha => by
          have z := fr a (List.mem_append_right _ ha)
          refine ⟨?_, z.2⟩
          cases q : F1 a with
          | none => rfl
          | some u =>
            rcases loc1 a (by rw [q]; simp) with y | y | y
            · exact absurd z.1 y
            · exact absurd rfl (m3 a y a (List.mem_append_left _ ha))
            · exact absurd rfl ((List.nodup_append.mp m2).2.2 a ha a y)
        have nd2 : (L2 ++ L1').Nodup := List.nodup_append.mpr ⟨(List.nodup_append.mp m2).1, I1.nd, fun a ha b hb => (List.nodup_append.mp m2).2.2 a ha b (sub1 b hb)⟩
        obtain ⟨F2, L2', I2, ff2, nw2, r2, sub2⟩ := frzVs_ok I1 (t.keep ff1 fun _ _ => rfl) nd2 fr2 e2
        refine ⟨F2, L2', I2, ff1.trans ff2, nw1.trans nw2, ⟨by simp [r2.1], fun i v x hv hx => ?_⟩, fun a ha => sub1 a (sub2 a ha)⟩
        cases i with
        | zero => simp at hv hx; subst hv; subst hx; exact r1.mono ff2
        | succ i => exact r2.2 i v x (by simpa using hv) (by simpa using hx)
end
end DX

namespace DX
open PySem PySem.Spec L2
open PyProof.Rows hiding St

/-! ### expressions -/
def dVar (i : Nat) : DEnv → ER := fun env => match env[i]? with
  | some (.v .fz d) => .ok (.fz d) env
  | some (.v _ _) => .ok (.br i) env
  | _ => .err
def dC (d : D) : DEnv → ER := fun env => .ok (.fz d) env
/-- a primitive of values that are read -/
def dPrim (g : List D → Option Val) (ms : List (DEnv → ER)) : DEnv → ER := fun env => (mArgs ms env).bind fun vs env' => match rdVs env' vs with
  | some ds => match g ds with
    | some rv => .ok rv env'
    | none => .err
  | none => .err
/-- a primitive of values that are laid down in what it makes -/
def dMake (g : List D → Option Val) (ms : List (DEnv → ER)) : DEnv → ER := fun env => (mArgs ms env).bind fun vs env' => match frzVs env' vs with
  | some (ds, env'') => match g ds with
    | some rv => .ok rv env''
    | none => .err
  | none => .err
section
variable {X : Cx} {W : WX} {R G G' : Hp} {P : List (Option V)} {H H' F F' : Hp} {σ : St} {env : DEnv} {L Lr : List Addr} {Q : VK} {v : V} {rv : Val}
theorem FI.disj (I : FI X.K R P G H F σ env L) : (([] : List Addr) ++ L).Nodup := by simpa using I.nd
theorem POk.now {d : D} (h : POk X R P G F σ (.fz d) env Q) (I : FI X.K R P G H F σ env L) (r : Rep X.K F v d) : Q v H :=
  h v H F L [] I (Same.refl F) NewF.refl ⟨rfl, r⟩ I.disj (fun _ z => nomatch z)
theorem me_var {i : Nat} {x : Str} {pos : Pos} (hN : X.N[i]? = some x := by rfl) (hv : Vis X.env.scope x := by first | exact Or.inl rfl | exact Or.inr (Or.inl rfl) | exact Or.inr (Or.inr rfl))
    (hd : (x == ("__debug__" : Str)) = false := by decide) (hcd : (x == ("__classdict__" : Str)) = false := by decide) : ME X W R P (.Name x pos) (dVar i) := by
  intro G H F σ env L Q I h
  refine w_of (pe_var hN hv hd hcd) ?_
  unfold dVar at h
  cases q : env[i]? with
  | none => rw [q] at h; exact h.elim
  | some s =>
    rw [q] at h
    cases s with
    | un => exact h.elim
    | pin => exact h.elim
    | v m d =>
      obtain ⟨u, e1, r⟩ := I.er.get (I.rg.trans I.gh) I.fh q
      refine ⟨u, e1, ?_⟩
      have br : POk X R P G F σ (.br i) env Q → Q u H := fun h => h u H F L [] I (Same.refl F) NewF.refl ⟨rfl, e1⟩ I.disj (fun _ z => nomatch z)
      cases m with
      | fz =>
        obtain ⟨u', e2, r'⟩ := I.er.getFz q
        rw [e1] at e2
        cases e2
        exact POk.now h I r'
      | ow => exact br h
      | io => exact br h
      | rd => exact br h
theorem me_int {i j pos} : ME X W R P (.Constant (.int i) j pos) (dC (.int i)) := fun G H F σ env L Q I h => w_of pe_int (POk.now h I (.int i))
theorem me_bl {b j pos} : ME X W R P (.Constant (.bool b) j pos) (dC (.bl b)) := fun G H F σ env L Q I h => w_of pe_bl (POk.now h I (.bl b))
theorem me_non {j pos} : ME X W R P (.Constant .none j pos) (dC .non) := fun G H F σ env L Q I h => w_of pe_non (POk.now h I .non)
theorem me_str {x j pos} : ME X W R P (.Constant (.str x) j pos) (dC (.str x)) := fun G H F σ env L Q I h => w_of pe_str (POk.now h I (.str x))

/-- arguments, then a primitive -/
theorem run_prim {es : List Expr} {ms : List (DEnv → ER)} {g : List D → Option Val} (hm : MEs X W R P es ms) (I : FI X.K R P G H F σ env L) (h : PostV X W R P G F σ (dPrim g ms env) Q) :
    tWa X es σ H (fun vs H' => ∃ F' ds rv, Same F' H' ∧ RepHs X.K H' F' vs ds ∧ g ds = some rv ∧ GivesV X.K H' F' σ rv Q) := by
  refine run_args hm I ?_
  unfold dPrim at h
  cases e : mArgs ms env with
  | err => rw [e] at h; exact h
  | raise c env' => rw [e] at h; exact h
  | ok rvs env' =>
    rw [e] at h
    intro vs H' F' L' Lr I' s n hs nd fr
    dsimp only [AR.bind] at h
    cases e2 : rdVs env' rvs with
    | none => rw [e2] at h; exact h.elim
    | some ds =>
      rw [e2] at h
      dsimp only at h
      cases e3 : g ds with
      | none => rw [e3] at h; exact h.elim
      | some rv =>
        rw [e3] at h
        exact ⟨F', ds, rv, I'.fh, rdVs_ok I' hs e2, e3, gives_of I' (PostV.later (r := .ok rv env') s n h)⟩
theorem run_make {es : List Expr} {ms : List (DEnv → ER)} {g : List D → Option Val} (hm : MEs X W R P es ms) (I : FI X.K R P G H F σ env L) (h : PostV X W R P G F σ (dMake g ms env) Q) :
    tWa X es σ H (fun vs H' => ∃ F' ds rv, Same F' H' ∧ Reps X.K F' vs ds ∧ g ds = some rv ∧ GivesV X.K H' F' σ rv Q) := by
  refine run_args hm I ?_
  unfold dMake at h
  cases e : mArgs ms env with
  | err => rw [e] at h; exact h
  | raise c env' => rw [e] at h; exact h
  | ok rvs env' =>
    rw [e] at h
    intro vs H' F' L' Lr I' s n hs nd fr
    dsimp only [AR.bind] at h
    cases e2 : frzVs env' rvs with
    | none => rw [e2] at h; exact h.elim
    | some p =>
      obtain ⟨ds, env2⟩ := p
      rw [e2] at h
      dsimp only at h
      cases e3 : g ds with
      | none => rw [e3] at h; exact h.elim
      | some rv =>
        rw [e3] at h
        obtain ⟨F2, L2, I2, ff2, nw2, r2, _⟩ := frzVs_ok I' hs nd fr e2
        exact ⟨F2, ds, rv, I2.fh, r2, e3, gives_of I2 (PostV.later (r := .ok rv env2) (s.trans ff2) (n.trans nw2) h)⟩
def dTup : List D → Option Val := fun ds => if ds.length ≤ sizeLine then some (.fz (.tup ds)) else none
def dLst : List D → Option Val := fun ds => if ds.length ≤ sizeLine then some (.tmp (.lst ds)) else none
theorem me_tup {es : List Expr} {ms : List (DEnv → ER)} {x1 pos} (hm : MEs X W R P es ms) (hp : PA X es (tWa X es)) : ME X W R P (.Tuple es x1 pos) (dMake dTup ms) := by
  intro G H F σ env L Q I h
  refine w_of (pe_tup hp) ?_
  refine tWa_mono (run_make hm I h) fun vs H' ⟨F', ds, rv, fh, r, e, k⟩ => ?_
  unfold dTup at e
  split at e
  · rename_i hl
    cases e
    refine ⟨by rw [r.1]; exact hl, fun p n => ?_⟩
    have r' := r.mono (same_upd (fh.free n) (o := .tup vs))
    exact k.new fh n (.tup (.inl (.inl upd_same)) r'.1 r'.2)
  · cases e
theorem me_lst {es : List Expr} {ms : List (DEnv → ER)} {pos} (hm : MEs X W R P es ms) (hp : PA X es (tWa X es)) : ME X W R P (.List es pos) (dMake dLst ms) := by
  intro G H F σ env L Q I h
  refine w_of (pe_lst hp) ?_
  refine tWa_mono (run_make hm I h) fun vs H' ⟨F', ds, rv, fh, r, e, k⟩ => ?_
  unfold dLst at e
  split at e
  · rename_i hl
    cases e
    refine ⟨by rw [r.1]; exact hl, fun p n => ?_⟩
    exact k.own fh n (.lst upd_same r)
  · cases e
end
end DX

namespace DX
open PySem PySem.Spec L2
open PyProof.Rows hiding St

/-! ### == of data -/
def deqL (f : D → D → Option Bool) : List D → List D → Option Bool
  | [], [] => some true
  | x :: xs, y :: ys => match f x y with
    | some b => match deqL f xs ys with
      | some c => some (b && c)
      | none => none
    | none => none
  | [], _ :: _ => some false
  | _ :: _, [] => some false
/-- none, bools, ints, texts -/
def flatD : D → Bool
  | .non => true
  | .bl _ => true
  | .int _ => true
  | .str _ => true
  | _ => false
def deqF : D → D → Bool
  | .non, .non => true
  | .bl a, .bl b => a == b
  | .bl a, .int b => (if a then 1 else 0) == b
  | .int a, .bl b => a == (if b then 1 else 0)
  | .int a, .int b => a == b
  | .str a, .str b => a == b
  | _, _ => false
def deqN : Nat → D → D → Option Bool
  | 0, _, _ => none
  | n + 1, x, y => match x, y with
    | .tup xs, .tup ys => deqL (deqN n) xs ys
    | .lst xs, .lst ys => if xs.length = ys.length then deqL (deqN n) xs ys else some false
    | .tup _, .lst _ => some false
    | .lst _, .tup _ => some false
    | .tup _, y => if flatD y then some false else none
    | .lst _, y => if flatD y then some false else none
    | x, .tup _ => if flatD x then some false else none
    | x, .lst _ => if flatD x then some false else none
    | x, y => if flatD x && flatD y then some (deqF x y) else none
section
variable {X : Cx} {R G : Hp} {P : List (Option V)} {H F : Hp} {σ : St} {env : DEnv} {pins : List (Addr × Obj)} {s : Shared}

theorem items_rep {K : PySem.W.Frag} {F : Hp} {vs : List V} {xs : List D} {its : List Value} (r : Vals vs its) (h : Reps K F vs xs) {j : Nat} (hj : j < its.length) : ∃ v x, vs[j]? = some v ∧ xs[j]? = some x ∧ RelV v its[j] ∧ Rep K F v x := by
  have e1 := r.length
  have h1 : j < vs.length := by omega
  have h2 : j < xs.length := by have := h.1; omega
  obtain ⟨u, hu, rv⟩ := r.get (i := j) (List.getElem?_eq_getElem h1)
  rw [List.getElem?_eq_getElem hj] at hu
  cases hu
  exact ⟨vs[j], xs[j], List.getElem?_eq_getElem h1, List.getElem?_eq_getElem h2, rv, h.2 j _ _ (List.getElem?_eq_getElem h1) (List.getElem?_eq_getElem h2)⟩
theorem rep_lst (I : Inv X pins σ H s) {a : Addr} {xs : List D} (h : RepH X.K H F (.ref a) (.lst xs)) : ∃ vs its, Vals vs its ∧ Reps X.K F vs xs ∧ s.heap.IsList a its.toArray ∧ its.length = xs.length := by
  cases h with
  | lst h hi =>
    obtain ⟨its, r, p, _⟩ := I.list (.inl h)
    exact ⟨_, its, r, hi, p.isList, by rw [← r.length]; exact hi.1⟩
theorem rep_tup (I : Inv X pins σ H s) {a : Addr} {xs : List D} (h : RepH X.K H F (.ref a) (.tup xs)) : ∃ vs its, Vals vs its ∧ Reps X.K F vs xs ∧ s.heap.IsTuple a its.toArray ∧ its.length = xs.length := by
  cases h with
  | tup h hi =>
    obtain ⟨its, r, p, _⟩ := I.tuple h
    exact ⟨_, its, r, hi, p, by rw [← r.length]; exact hi.1⟩
def vOf : D → V
  | .bl b => .bl b
  | .int i => .int i
  | .str s => .str s
  | _ => .non
theorem flat_v {K : PySem.W.Frag} {H F : Hp} {v : V} {d : D} (h : RepH K H F v d) (f : flatD d = true) : v = vOf d := by
  cases h with
  | non => rfl
  | bl => rfl
  | int => rfl
  | str => rfl
  | _ => cases f
theorem flat_eqV {d e : D} (f : flatD d = true) (g : flatD e = true) : eqV (vOf d) (vOf e) = deqF d e := by
  cases d <;> cases e <;> first | rfl | (cases f; done) | (cases g; done)
theorem flat_flatV {d : D} (f : flatD d = true) : flatV (vOf d) = true := by cases d <;> first | rfl | cases f
theorem rc_flat {A : Around} {v v' : V} {u u' : Value} {d e : D} (f : flatD d = true) (g : flatD e = true) (hv : v = vOf d) (hv' : v' = vOf e) (r : RelV v u) (r' : RelV v' u') : SeqAt.RcAt A s u u' (deqF d e) := by
  subst hv; subst hv'
  cases d with
  | non => cases r; cases e with
    | non => cases r'; exact .none_none
    | bl => cases r'; exact .none_bool _
    | int => obtain ⟨t, rfl⟩ := r'; exact .none_int _ _
    | str => obtain ⟨t, rfl⟩ := r'; exact .none_str _ _
    | _ => cases g
  | bl a => cases r; cases e with
    | non => cases r'; exact .bool_none _
    | bl => cases r'; exact .bool_bool _ _
    | int => obtain ⟨t, rfl⟩ := r'; exact .bool_int _ _ _
    | str => obtain ⟨t, rfl⟩ := r'; exact .bool_str _ _ _
    | _ => cases g
  | int a => obtain ⟨t0, rfl⟩ := r; cases e with
    | non => cases r'; exact .int_none _ _
    | bl => cases r'; exact .int_bool _ _ _
    | int => obtain ⟨t, rfl⟩ := r'; exact .int_int _ _ _ _
    | str => obtain ⟨t, rfl⟩ := r'; exact .int_str _ _ _ _
    | _ => cases g
  | str a => obtain ⟨t0, rfl⟩ := r; cases e with
    | non => cases r'; exact .str_none _ _
    | bl => cases r'; exact .str_bool _ _ _
    | int => obtain ⟨t, rfl⟩ := r'; exact .str_int _ _ _ _
    | str => obtain ⟨t, rfl⟩ := r'; exact .str_str _ _ _ _
    | _ => cases g
  | _ => cases f
theorem rn_flat {A : Around} {v v' : V} {u u' : Value} {d e : D} (f : flatD d = true) (g : flatD e = true) (hv : v = vOf d) (hv' : v' = vOf e) (r : RelV v u) (r' : RelV v' u') : SeqAt.RcNeAt A s u u' (!deqF d e) := by
  subst hv; subst hv'
  cases d with
  | non => cases r; cases e with
    | non => cases r'; exact .none_none
    | bl => cases r'; exact .none_bool _
    | int => obtain ⟨t, rfl⟩ := r'; exact .none_int _ _
    | str => obtain ⟨t, rfl⟩ := r'; exact .none_str _ _
    | _ => cases g
  | bl a => cases r; cases e with
    | non => cases r'; exact .bool_none _
    | bl => cases r'; exact .bool_bool _ _
    | int => obtain ⟨t, rfl⟩ := r'; exact .bool_int _ _ _
    | str => obtain ⟨t, rfl⟩ := r'; exact .bool_str _ _ _
    | _ => cases g
  | int a => obtain ⟨t0, rfl⟩ := r; cases e with
    | non => cases r'; exact .int_none _ _
    | bl => cases r'; exact .int_bool _ _ _
    | int => obtain ⟨t, rfl⟩ := r'; exact .int_int _ _ _ _
    | str => obtain ⟨t, rfl⟩ := r'; exact .int_str _ _ _ _
    | _ => cases g
  | str a => obtain ⟨t0, rfl⟩ := r; cases e with
    | non => cases r'; exact .str_none _ _
    | bl => cases r'; exact .str_bool _ _ _
    | int => obtain ⟨t, rfl⟩ := r'; exact .str_int _ _ _ _
    | str => obtain ⟨t, rfl⟩ := r'; exact .str_str _ _ _ _
    | _ => cases g
  | _ => cases f

/-- the element-wise outcome -/
theorem deqL_all {f : D → D → Option Bool} : ∀ {xs ys : List D} {b : Bool}, deqL f xs ys = some b → ∃ e : Nat → Bool, (∀ j x y, xs[j]? = some x → ys[j]? = some y → f x y = some (e j)) ∧ ((List.range (min xs.length ys.length)).all e && xs.length == ys.length) = b
  | [], [], b, h => by cases h; exact ⟨fun _ => true, fun j x y h => by simp at h, by simp⟩
  | [], y :: ys, b, h => by cases h; exact ⟨fun _ => true, fun j x y h => by simp at h, by simp⟩
  | x :: xs, [], b, h => by cases h; exact ⟨fun _ => true, fun j x y _ h => by simp at h, by simp⟩
  | x :: xs, y :: ys, b, h => by
    unfold deqL at h
    cases e1 : f x y with
    | none => rw [e1] at h; cases h
    | some c =>
      cases e2 : deqL f xs ys with
      | none => rw [e1, e2] at h; cases h
      | some d =>
        rw [e1, e2] at h
        cases h
        obtain ⟨e, p, q⟩ := deqL_all e2
        refine ⟨fun j => match j with | 0 => c | j + 1 => e j, fun j x' y' hx hy => ?_, ?_⟩
        · cases j with
          | zero => simp at hx hy; subst hx; subst hy; exact e1
          | succ j => exact p j x' y' (by simpa using hx) (by simpa using hy)
        · rw [← q]
          simp only [List.length_cons]
          rw [show min (xs.length + 1) (ys.length + 1) = min xs.length ys.length + 1 by omega, List.range_succ_eq_map, List.all_cons, List.all_map]
          have e3 : ((fun j => match j with | 0 => c | j + 1 => e j) ∘ Nat.succ) = e := by funext j; rfl
          rw [e3]
          have e4 : (xs.length + 1 == ys.length + 1) = (xs.length == ys.length) := by simp
          rw [e4, Bool.and_assoc]
theorem Rep.uniq (I : Inv X pins σ H s) (fh : Same F H) {v : V} {d : D} (h : Rep X.K F v d) : ∀ {d' : D}, Rep X.K F v d' → ∀ {n : Nat} {b : Bool}, deqN n d d' = some b → b = true := by
  have items : ∀ {vs : List V} {xs ys : List D}, vs.length = xs.length → vs.length = ys.length → (∀ (i : Nat) (v : V) (x : D), vs[i]? = some v → xs[i]? = some x → ∀ {d' : D}, Rep X.K F v d' → ∀ {n : Nat} {b : Bool}, deqN n x d' = some b → b = true) →
      (∀ (i : Nat) (v : V) (x : D), vs[i]? = some v → ys[i]? = some x → Rep X.K F v x) → ∀ {n : Nat} {b : Bool}, deqL (deqN n) xs ys = some b → b = true := by
    intro vs xs ys h1 h2 ih hi n b hb
    obtain ⟨e, p, q⟩ := deqL_all hb
    rw [← q]
    have el : xs.length = ys.length := by omega
    rw [el, beq_self_eq_true, Bool.and_true, List.all_eq_true]
    intro j hj
    have hj' : j < ys.length := by simpa using hj
    have a1 : vs[j]? = some vs[j] := List.getElem?_eq_getElem (by omega)
    have a2 : xs[j]? = some xs[j] := List.getElem?_eq_getElem (by omega)
    have a3 : ys[j]? = some ys[j] := List.getElem?_eq_getElem hj'
    exact ih j _ _ a1 a2 (hi j _ _ a1 a3) (p j _ _ a2 a3)
  induction h with
  | non => intro d' h' n b e; cases h'; cases n <;> simp [deqN, flatD, deqF] at e; exact e
  | bl c => intro d' h' n b e; cases h'; cases n <;> simp [deqN, flatD, deqF] at e; exact e
  | int c => intro d' h' n b e; cases h'; cases n <;> simp [deqN, flatD, deqF] at e; exact e
  | str c => intro d' h' n b e; cases h'; cases n <;> simp [deqN, flatD, deqF] at e; exact e
  | @tup a vs xs h hl hi ih =>
    intro d' h' n b e
    cases n with
    | zero => cases e
    | succ n =>
      cases h' with
      | @tup _ vs' xs' k kl ki =>
        have ev : vs = vs' := I.tuple_inj (SqT.mono fh h) (SqT.mono fh k)
        subst ev
        exact items hl kl (fun i v x a b => ih i v x a b) ki e
      | @lst _ vs' xs' k kl ki =>
        obtain ⟨its, _, ⟨o, n1, e1, c1, _⟩, _⟩ := I.list (.inl (Rd.mono fh k))
        obtain ⟨its2, _, ⟨o2, e2, c2, _⟩, _⟩ := I.tuple (SqT.mono fh h)
        rw [e1] at e2; cases e2; rw [c1] at c2; injection c2 with c3; exact absurd c3 (by decide)
      | _ => cases e
  | @lst a vs xs h hl hi ih =>
    intro d' h' n b e
    cases n with
    | zero => cases e
    | succ n =>
      cases h' with
      | @lst _ vs' xs' k kl ki =>
        have ev : vs = vs' := I.list_inj (.inl (Rd.mono fh h)) (.inl (Rd.mono fh k))
        subst ev
        have el : xs.length = xs'.length := by omega
        simp only [deqN, el, if_true] at e
        exact items hl kl (fun i v x a b => ih i v x a b) ki e
      | @tup _ vs' xs' k kl ki =>
        obtain ⟨its, _, ⟨o, n1, e1, c1, _⟩, _⟩ := I.list (.inl (Rd.mono fh h))
        obtain ⟨its2, _, ⟨o2, e2, c2, _⟩, _⟩ := I.tuple (SqT.mono fh k)
        rw [e1] at e2; cases e2; rw [c1] at c2; injection c2 with c3; exact absurd c3 (by decide)
      | _ => cases e
  | scr h => intro d' h' n b e; cases h' <;> cases n <;> simp [deqN, flatD] at e
  | dK h hl hi ih => intro d' h' n b e; cases h' <;> cases n <;> simp [deqN, flatD] at e
  | dT h hl hi ih => intro d' h' n b e; cases h' <;> cases n <;> simp [deqN, flatD] at e

theorem all_eq {e e' : Nat → Bool} {n : Nat} (h : ∀ j, j < n → e j = e' j) : (List.range n).all e = (List.range n).all e' := by
  rw [Bool.eq_iff_iff, List.all_eq_true, List.all_eq_true]
  constructor
  · intro q j hj; rw [← h j (by simpa using hj)]; exact q j hj
  · intro q j hj; rw [h j (by simpa using hj)]; exact q j hj
section
variable {A : Around} {v v' : V} {u u' : Value}
theorem rc_step (I : Inv X pins σ H s) {n : Nat} (hu : A.units < cLine) (it : ∀ {v v' : V} {u u' : Value} {d d' : D} {b : Bool}, Rep X.K F v d → Rep X.K F v' d' → RelV v u → RelV v' u' → deqN n d d' = some b → SeqAt.EqAt A.in1 s u u' b)
    {d d' : D} {b : Bool} (h : RepH X.K H F v d) (h' : RepH X.K H F v' d') (r : RelV v u) (r' : RelV v' u') (e : deqN (n + 1) d d' = some b) : SeqAt.RcAt A s u u' b := by
  have flats : flatD d = true → flatD d' = true → SeqAt.RcAt A s u u' b := fun f g => by
    have e2 : b = deqF d d' := by
      cases d <;> cases d' <;> first | (cases f; done) | (cases g; done) | (simp [deqN, flatD] at e; exact e.symm)
    rw [e2]
    exact rc_flat f g (flat_v h f) (flat_v h' g) r r'
  cases d with
  | non => cases d' with
    | non => exact flats rfl rfl
    | bl => exact flats rfl rfl
    | int => exact flats rfl rfl
    | str => exact flats rfl rfl
    | tup ys => cases h; cases r; cases h' with | tup k ki => cases r'; obtain ⟨_, its, _, _, p, _⟩ := rep_tup I (RepH.tup k ki); cases e; exact .none_tuple p hu
    | lst ys => cases h; cases r; cases h' with | lst k ki => cases r'; obtain ⟨_, its, _, _, p, _⟩ := rep_lst I (RepH.lst k ki); cases e; exact .none_list p hu
    | _ => cases e
  | bl c => cases d' with
    | non => exact flats rfl rfl
    | bl => exact flats rfl rfl
    | int => exact flats rfl rfl
    | str => exact flats rfl rfl
    | tup ys => cases h; cases r; cases h' with | tup k ki => cases r'; obtain ⟨_, its, _, _, p, _⟩ := rep_tup I (RepH.tup k ki); cases e; exact .bool_tuple _ p hu
    | lst ys => cases h; cases r; cases h' with | lst k ki => cases r'; obtain ⟨_, its, _, _, p, _⟩ := rep_lst I (RepH.lst k ki); cases e; exact .bool_list _ p hu
    | _ => cases e
  | int c => cases d' with
    | non => exact flats rfl rfl
    | bl => exact flats rfl rfl
    | int => exact flats rfl rfl
    | str => exact flats rfl rfl
    | tup ys => cases h; obtain ⟨t0, rfl⟩ := r; cases h' with | tup k ki => cases r'; obtain ⟨_, its, _, _, p, _⟩ := rep_tup I (RepH.tup k ki); cases e; exact .int_tuple _ _ p hu
    | lst ys => cases h; obtain ⟨t0, rfl⟩ := r; cases h' with | lst k ki => cases r'; obtain ⟨_, its, _, _, p, _⟩ := rep_lst I (RepH.lst k ki); cases e; exact .int_list _ _ p hu
    | _ => cases e
  | str c => cases d' with
    | non => exact flats rfl rfl
    | bl => exact flats rfl rfl
    | int => exact flats rfl rfl
    | str => exact flats rfl rfl
    | tup ys => cases h; obtain ⟨t0, rfl⟩ := r; cases h' with | tup k ki => cases r'; obtain ⟨_, its, _, _, p, _⟩ := rep_tup I (RepH.tup k ki); cases e; exact .str_tuple _ _ p hu
    | lst ys => cases h; obtain ⟨t0, rfl⟩ := r; cases h' with | lst k ki => cases r'; obtain ⟨_, its, _, _, p, _⟩ := rep_lst I (RepH.lst k ki); cases e; exact .str_list _ _ p hu
    | _ => cases e
  | tup xs => cases h with | tup k ki => cases r; obtain ⟨vs, its, rv, hr, p, hl⟩ := rep_tup I (RepH.tup k ki); cases d' with
    | non => cases h'; cases r'; cases e; exact .tuple_none p hu
    | bl => cases h'; cases r'; cases e; exact .tuple_bool _ p hu
    | int => cases h'; obtain ⟨t, rfl⟩ := r'; cases e; exact .tuple_int _ _ p hu
    | str => cases h'; obtain ⟨t, rfl⟩ := r'; cases e; exact .tuple_str _ _ p hu
    | tup ys =>
      cases h' with | tup k' ki' =>
      cases r'
      obtain ⟨vs', its', rv', hr', p', hl'⟩ := rep_tup I (RepH.tup k' ki')
      obtain ⟨ef, q1, q2⟩ := deqL_all (f := deqN n) e
      have z := SeqAt.RcAt.tuples (A := A) (e := ef) p p' hu fun j h1 h2 => ?_
      · rw [← q2]
        simpa [hl, hl'] using z
      · have j1 : j < its.length := by simpa using h1
        have j2 : j < its'.length := by simpa using h2
        obtain ⟨v1, x1, a1, b1, c1, d1⟩ := items_rep rv hr j1
        obtain ⟨v2, x2, a2, b2, c2, d2⟩ := items_rep rv' hr' j2
        simpa using it d1 d2 c1 c2 (q1 j _ _ b1 b2)
    | lst ys =>
      cases h' with | lst k' ki' =>
      cases r'
      obtain ⟨vs', its', rv', hr', p', hl'⟩ := rep_lst I (RepH.lst k' ki')
      cases e
      exact .tuple_list p p' hu
    | _ => cases e
  | lst xs => cases h with | lst k ki => cases r; obtain ⟨vs, its, rv, hr, p, hl⟩ := rep_lst I (RepH.lst k ki); cases d' with
    | non => cases h'; cases r'; cases e; exact .list_none p hu
    | bl => cases h'; cases r'; cases e; exact .list_bool _ p hu
    | int => cases h'; obtain ⟨t, rfl⟩ := r'; cases e; exact .list_int _ _ p hu
    | str => cases h'; obtain ⟨t, rfl⟩ := r'; cases e; exact .list_str _ _ p hu
    | lst ys =>
      cases h' with | lst k' ki' =>
      cases r'
      obtain ⟨vs', its', rv', hr', p', hl'⟩ := rep_lst I (RepH.lst k' ki')
      by_cases el : xs.length = ys.length
      · simp only [deqN, el, if_true] at e
        obtain ⟨ef, q1, q2⟩ := deqL_all (f := deqN n) e
        have z := SeqAt.RcAt.lists (A := A) (e := ef) p p' (by simp [hl, hl', el]) hu fun j h1 h2 => ?_
        · rw [← q2]
          simpa [hl, hl', el] using z
        · have j1 : j < its.length := by simpa using h1
          have j2 : j < its'.length := by simpa using h2
          obtain ⟨v1, x1, a1, b1, c1, d1⟩ := items_rep rv hr j1
          obtain ⟨v2, x2, a2, b2, c2, d2⟩ := items_rep rv' hr' j2
          simpa using it d1 d2 c1 c2 (q1 j _ _ b1 b2)
      · simp only [deqN, el, if_false] at e
        cases e
        exact SeqAt.RcAt.lists_lengths p p' (by simp [hl, hl', el]) hu
    | tup ys =>
      cases h' with | tup k' ki' =>
      cases r'
      obtain ⟨vs', its', rv', hr', p', hl'⟩ := rep_tup I (RepH.tup k' ki')
      cases e
      exact .list_tuple p p' hu
    | _ => cases e
  | scr ns => cases d' <;> cases e
  | dK ns => cases d' <;> cases e
  | dT ns => cases d' <;> cases e
theorem rn_step (I : Inv X pins σ H s) {n : Nat} (hu : A.units < cLine) (it : ∀ {v v' : V} {u u' : Value} {d d' : D} {b : Bool}, Rep X.K F v d → Rep X.K F v' d' → RelV v u → RelV v' u' → deqN n d d' = some b → SeqAt.EqAt A.in1 s u u' b)
    {d d' : D} {b : Bool} (h : RepH X.K H F v d) (h' : RepH X.K H F v' d') (r : RelV v u) (r' : RelV v' u') (e : deqN (n + 1) d d' = some b) : SeqAt.RcNeAt A s u u' (!b) := by
  have flats : flatD d = true → flatD d' = true → SeqAt.RcNeAt A s u u' (!b) := fun f g => by
    have e2 : b = deqF d d' := by
      cases d <;> cases d' <;> first | (cases f; done) | (cases g; done) | (simp [deqN, flatD] at e; exact e.symm)
    rw [e2]
    exact rn_flat f g (flat_v h f) (flat_v h' g) r r'
  cases d with
  | non => cases d' with
    | non => exact flats rfl rfl
    | bl => exact flats rfl rfl
    | int => exact flats rfl rfl
    | str => exact flats rfl rfl
    | tup ys => cases h; cases r; cases h' with | tup k ki => cases r'; obtain ⟨_, its, _, _, p, _⟩ := rep_tup I (RepH.tup k ki); cases e; exact .none_tuple p hu
    | lst ys => cases h; cases r; cases h' with | lst k ki => cases r'; obtain ⟨_, its, _, _, p, _⟩ := rep_lst I (RepH.lst k ki); cases e; exact .none_list p hu
    | _ => cases e
  | bl c => cases d' with
    | non => exact flats rfl rfl
    | bl => exact flats rfl rfl
    | int => exact flats rfl rfl
    | str => exact flats rfl rfl
    | tup ys => cases h; cases r; cases h' with | tup k ki => cases r'; obtain ⟨_, its, _, _, p, _⟩ := rep_tup I (RepH.tup k ki); cases e; exact .bool_tuple _ p hu
    | lst ys => cases h; cases r; cases h' with | lst k ki => cases r'; obtain ⟨_, its, _, _, p, _⟩ := rep_lst I (RepH.lst k ki); cases e; exact .bool_list _ p hu
    | _ => cases e
  | int c => cases d' with
    | non => exact flats rfl rfl
    | bl => exact flats rfl rfl
    | int => exact flats rfl rfl
    | str => exact flats rfl rfl
    | tup ys => cases h; obtain ⟨t0, rfl⟩ := r; cases h' with | tup k ki => cases r'; obtain ⟨_, its, _, _, p, _⟩ := rep_tup I (RepH.tup k ki); cases e; exact .int_tuple _ _ p hu
    | lst ys => cases h; obtain ⟨t0, rfl⟩ := r; cases h' with | lst k ki => cases r'; obtain ⟨_, its, _, _, p, _⟩ := rep_lst I (RepH.lst k ki); cases e; exact .int_list _ _ p hu
    | _ => cases e
  | str c => cases d' with
    | non => exact flats rfl rfl
    | bl => exact flats rfl rfl
    | int => exact flats rfl rfl
    | str => exact flats rfl rfl
    | tup ys => cases h; obtain ⟨t0, rfl⟩ := r; cases h' with | tup k ki => cases r'; obtain ⟨_, its, _, _, p, _⟩ := rep_tup I (RepH.tup k ki); cases e; exact .str_tuple _ _ p hu
    | lst ys => cases h; obtain ⟨t0, rfl⟩ := r; cases h' with | lst k ki => cases r'; obtain ⟨_, its, _, _, p, _⟩ := rep_lst I (RepH.lst k ki); cases e; exact .str_list _ _ p hu
    | _ => cases e
  | tup xs => cases h with | tup k ki => cases r; obtain ⟨vs, its, rv, hr, p, hl⟩ := rep_tup I (RepH.tup k ki); cases d' with
    | non => cases h'; cases r'; cases e; exact .tuple_none p hu
    | bl => cases h'; cases r'; cases e; exact .tuple_bool _ p hu
    | int => cases h'; obtain ⟨t, rfl⟩ := r'; cases e; exact .tuple_int _ _ p hu
    | str => cases h'; obtain ⟨t, rfl⟩ := r'; cases e; exact .tuple_str _ _ p hu
    | tup ys =>
      cases h' with | tup k' ki' =>
      cases r'
      obtain ⟨vs', its', rv', hr', p', hl'⟩ := rep_tup I (RepH.tup k' ki')
      obtain ⟨ef, q1, q2⟩ := deqL_all (f := deqN n) e
      have z := SeqAt.RcNeAt.tuples (A := A) (e := ef) p p' hu fun j h1 h2 => ?_
      · rw [← q2]
        simpa [hl, hl'] using z
      · have j1 : j < its.length := by simpa using h1
        have j2 : j < its'.length := by simpa using h2
        obtain ⟨v1, x1, a1, b1, c1, d1⟩ := items_rep rv hr j1
        obtain ⟨v2, x2, a2, b2, c2, d2⟩ := items_rep rv' hr' j2
        simpa using it d1 d2 c1 c2 (q1 j _ _ b1 b2)
    | lst ys =>
      cases h' with | lst k' ki' =>
      cases r'
      obtain ⟨vs', its', rv', hr', p', hl'⟩ := rep_lst I (RepH.lst k' ki')
      cases e
      exact .tuple_list p p' hu
    | _ => cases e
  | lst xs => cases h with | lst k ki => cases r; obtain ⟨vs, its, rv, hr, p, hl⟩ := rep_lst I (RepH.lst k ki); cases d' with
    | non => cases h'; cases r'; cases e; exact .list_none p hu
    | bl => cases h'; cases r'; cases e; exact .list_bool _ p hu
    | int => cases h'; obtain ⟨t, rfl⟩ := r'; cases e; exact .list_int _ _ p hu
    | str => cases h'; obtain ⟨t, rfl⟩ := r'; cases e; exact .list_str _ _ p hu
    | lst ys =>
      cases h' with | lst k' ki' =>
      cases r'
      obtain ⟨vs', its', rv', hr', p', hl'⟩ := rep_lst I (RepH.lst k' ki')
      by_cases el : xs.length = ys.length
      · simp only [deqN, el, if_true] at e
        obtain ⟨ef, q1, q2⟩ := deqL_all (f := deqN n) e
        have z := SeqAt.RcNeAt.lists (A := A) (e := ef) p p' (by simp [hl, hl', el]) hu fun j h1 h2 => ?_
        · rw [← q2]
          simpa [hl, hl', el] using z
        · have j1 : j < its.length := by simpa using h1
          have j2 : j < its'.length := by simpa using h2
          obtain ⟨v1, x1, a1, b1, c1, d1⟩ := items_rep rv hr j1
          obtain ⟨v2, x2, a2, b2, c2, d2⟩ := items_rep rv' hr' j2
          simpa using it d1 d2 c1 c2 (q1 j _ _ b1 b2)
      · simp only [deqN, el, if_false] at e
        cases e
        exact SeqAt.RcNeAt.lists_lengths p p' (by simp [hl, hl', el]) hu
    | tup ys =>
      cases h' with | tup k' ki' =>
      cases r'
      obtain ⟨vs', its', rv', hr', p', hl'⟩ := rep_tup I (RepH.tup k' ki')
      cases e
      exact .list_tuple p p' hu
    | _ => cases e
  | scr ns => cases d' <;> cases e
  | dK ns => cases d' <;> cases e
  | dT ns => cases d' <;> cases e

end
theorem eqAt_rep (I : Inv X pins σ H s) (fh : Same F H) : ∀ {n : Nat} {A : Around} {v v' : V} {u u' : Value} {d d' : D} {b : Bool}, A.units + n < cLine → Rep X.K F v d → Rep X.K F v' d' → RelV v u → RelV v' u' → deqN n d d' = some b → SeqAt.EqAt A s u u' b
  | 0, A, v, v', u, u', d, d', b, hu, h, h', r, r', e => by cases e
  | n + 1, A, v, v', u, u', d, d', b, hu, h, h', r, r', e => by
    by_cases f : flatD d = true ∧ flatD d' = true
    · have e2 : b = deqF d d' := by
        obtain ⟨f, g⟩ := f
        cases d <;> cases d' <;> first | (cases f; done) | (cases g; done) | (simp [deqN, flatD] at e; exact e.symm)
      have hv := flat_v (h.toH fh) f.1
      have hv' := flat_v (h'.toH fh) f.2
      subst hv; subst hv'
      have z := eqAt_V (A := A) (s := s) r r' (flat_flatV f.1) (flat_flatV f.2)
      rw [flat_eqV f.1 f.2, ← e2] at z
      exact z
    · have rc : SeqAt.RcAt A s u u' b := rc_step I (by omega) (fun a b c d e => eqAt_rep I fh (n := n) (by show A.units + 1 + n < cLine; omega) a b c d e) (h.toH fh) (h'.toH fh) r r' e
      -- a reference among them
      have ref_of : ∀ {v : V} {u : Value} {d : D}, Rep X.K F v d → RelV v u → flatD d ≠ true → ∃ a, v = .ref a ∧ u = .ref a := fun h r f => by
        cases h <;> first | exact absurd rfl f | exact ⟨_, rfl, r⟩
      by_cases g : flatD d = true
      · obtain ⟨a', e1, e2⟩ := ref_of h' r' (fun z => f ⟨g, z⟩)
        have hv := flat_v (h.toH fh) g
        subst e2
        subst hv
        cases d with
        | non => cases r; intro prog w E Q hq; unfold eqBool; exact wpAny_holding (wpAny_ite_split (fun hab => nomatch eq_of_beq hab) fun _ => wpAny_bind (rc prog w E _ (wpAny_truthy_bool hq)))
        | bl => cases r; intro prog w E Q hq; unfold eqBool; exact wpAny_holding (wpAny_ite_split (fun hab => nomatch eq_of_beq hab) fun _ => wpAny_bind (rc prog w E _ (wpAny_truthy_bool hq)))
        | int => obtain ⟨t, rfl⟩ := r; intro prog w E Q hq; unfold eqBool; exact wpAny_holding (wpAny_ite_split (fun hab => nomatch eq_of_beq hab) fun _ => wpAny_bind (rc prog w E _ (wpAny_truthy_bool hq)))
        | str => obtain ⟨t, rfl⟩ := r; intro prog w E Q hq; unfold eqBool; exact wpAny_holding (wpAny_ite_split (fun hab => nomatch eq_of_beq hab) fun _ => wpAny_bind (rc prog w E _ (wpAny_truthy_bool hq)))
        | _ => cases g
      · obtain ⟨a, e1, e2⟩ := ref_of h r g
        by_cases g' : flatD d' = true
        · have hv := flat_v (h'.toH fh) g'
          subst e2
          subst hv
          cases d' with
          | non => cases r'; intro prog w E Q hq; unfold eqBool; exact wpAny_holding (wpAny_ite_split (fun hab => nomatch eq_of_beq hab) fun _ => wpAny_bind (rc prog w E _ (wpAny_truthy_bool hq)))
          | bl => cases r'; intro prog w E Q hq; unfold eqBool; exact wpAny_holding (wpAny_ite_split (fun hab => nomatch eq_of_beq hab) fun _ => wpAny_bind (rc prog w E _ (wpAny_truthy_bool hq)))
          | int => obtain ⟨t, rfl⟩ := r'; intro prog w E Q hq; unfold eqBool; exact wpAny_holding (wpAny_ite_split (fun hab => nomatch eq_of_beq hab) fun _ => wpAny_bind (rc prog w E _ (wpAny_truthy_bool hq)))
          | str => obtain ⟨t, rfl⟩ := r'; intro prog w E Q hq; unfold eqBool; exact wpAny_holding (wpAny_ite_split (fun hab => nomatch eq_of_beq hab) fun _ => wpAny_bind (rc prog w E _ (wpAny_truthy_bool hq)))
          | _ => cases g'
        · obtain ⟨a', e3, e4⟩ := ref_of h' r' g'
          subst e1; subst e2; subst e3; subst e4
          by_cases ea : a = a'
          · subst ea
            rw [Rep.uniq I fh h h' e]
            exact .same _
          · exact .of_refs ea rc
def deq := deqN 20
end
end DX

namespace DX
open PySem PySem.Spec L2
open PyProof.Rows hiding St

/-! ### lists of data -/
section
variable {K : PySem.W.Frag} {F : Hp} {vs ws : List V} {xs ys : List D}
theorem Reps.nil : Reps K F [] [] := ⟨rfl, fun i v x h => by simp at h⟩
theorem Reps.cons {v : V} {x : D} (h : Rep K F v x) (t : Reps K F vs xs) : Reps K F (v :: vs) (x :: xs) := ⟨by simp [t.1], fun i v' x' a b => by
  cases i with
  | zero => simp at a b; subst a; subst b; exact h
  | succ i => exact t.2 i _ _ (by simpa using a) (by simpa using b)⟩
theorem Reps.append (h : Reps K F vs xs) (t : Reps K F ws ys) : Reps K F (vs ++ ws) (xs ++ ys) := ⟨by simp [h.1, t.1], fun i v x a b => by
  by_cases hi : i < vs.length
  · rw [List.getElem?_append_left hi] at a
    rw [List.getElem?_append_left (by have := h.1; omega)] at b
    exact h.2 i v x a b
  · rw [List.getElem?_append_right (by omega)] at a
    rw [List.getElem?_append_right (by have := h.1; omega)] at b
    rw [← h.1] at b
    exact t.2 _ v x a b⟩
theorem Reps.drop (n : Nat) (h : Reps K F vs xs) : Reps K F (vs.drop n) (xs.drop n) := ⟨by simp [h.1], fun i v x a b => by
  rw [List.getElem?_drop] at a b
  exact h.2 _ v x a b⟩
theorem Reps.take (n : Nat) (h : Reps K F vs xs) : Reps K F (vs.take n) (xs.take n) := ⟨by simp [h.1], fun i v x a b => by
  rw [List.getElem?_take] at a b
  by_cases hi : i < n
  · rw [if_pos hi] at a b; exact h.2 i v x a b
  · rw [if_neg hi] at a; cases a⟩
theorem Reps.set {v : V} {x : D} (j : Nat) (r : Rep K F v x) (h : Reps K F vs xs) : Reps K F (vs.set j v) (xs.set j x) := ⟨by simp [h.1], fun i v' x' a b => by
  rw [List.getElem?_set] at a b
  by_cases hj : j = i
  · rw [if_pos hj] at a b
    split at a
    · split at b
      · cases a; cases b; exact r
      · cases b
    · cases a
  · rw [if_neg hj] at a b; exact h.2 i v' x' a b⟩
theorem Reps.reverse (h : Reps K F vs xs) : Reps K F vs.reverse xs.reverse := ⟨by simp [h.1], fun i v x a b => by
  have hi : i < vs.length := by
    have := (List.getElem?_eq_some_iff.mp a).1
    simpa using this
  have hx : i < xs.length := by have := h.1; omega
  rw [List.getElem?_reverse hi] at a
  rw [List.getElem?_reverse hx] at b
  rw [← h.1] at b
  exact h.2 _ v x a b⟩
theorem Reps.get {j : Nat} {x : D} (h : Reps K F vs xs) (e : xs[j]? = some x) : ∃ v, vs[j]? = some v ∧ Rep K F v x := by
  have hj : j < vs.length := by rw [h.1]; exact (List.getElem?_eq_some_iff.mp e).1
  exact ⟨vs[j], List.getElem?_eq_getElem hj, h.2 j _ _ (List.getElem?_eq_getElem hj) e⟩
theorem Reps.eraseIdx (j : Nat) (h : Reps K F vs xs) : Reps K F (vs.eraseIdx j) (xs.eraseIdx j) := ⟨by rw [List.length_eraseIdx, List.length_eraseIdx, h.1], fun i v x a b => by
  rw [List.getElem?_eraseIdx] at a b
  split at a
  · rename_i hij; rw [if_pos hij] at b; exact h.2 i v x a b
  · rename_i hij; rw [if_neg hij] at b; exact h.2 _ v x a b⟩
theorem Reps.dropLast (h : Reps K F vs xs) : Reps K F vs.dropLast xs.dropLast := by
  rw [List.dropLast_eq_take, List.dropLast_eq_take, h.1]; exact h.take _
theorem Reps.ints : ∀ {vs : List V} {ns : List Int}, Reps K F vs (ns.map D.int) → vs = ns.map V.int
  | [], [], _ => rfl
  | [], _ :: _, h => by have := h.1; simp at this
  | _ :: _, [], h => by have := h.1; simp at this
  | v :: vs, n :: ns, h => by
    have h0 := h.2 0 v (.int n) rfl rfl
    cases h0
    rw [List.map_cons, Reps.ints (vs := vs) (ns := ns) ⟨by have := h.1; simpa using this, fun i v x a b => h.2 (i + 1) v x (by simpa using a) (by simpa using b)⟩]
theorem Reps.bls : ∀ {vs : List V} {ns : List Bool}, Reps K F vs (ns.map D.bl) → vs = ns.map V.bl
  | [], [], _ => rfl
  | [], _ :: _, h => by have := h.1; simp at this
  | _ :: _, [], h => by have := h.1; simp at this
  | v :: vs, n :: ns, h => by
    have h0 := h.2 0 v (.bl n) rfl rfl
    cases h0
    rw [List.map_cons, Reps.bls (vs := vs) (ns := ns) ⟨by have := h.1; simpa using this, fun i v x a b => h.2 (i + 1) v x (by simpa using a) (by simpa using b)⟩]
theorem Reps.strs : ∀ {vs : List V} {ns : List Str}, Reps K F vs (ns.map D.str) → vs = ns.map V.str
  | [], [], _ => rfl
  | [], _ :: _, h => by have := h.1; simp at this
  | _ :: _, [], h => by have := h.1; simp at this
  | v :: vs, n :: ns, h => by
    have h0 := h.2 0 v (.str n) rfl rfl
    cases h0
    rw [List.map_cons, Reps.strs (vs := vs) (ns := ns) ⟨by have := h.1; simpa using this, fun i v x a b => h.2 (i + 1) v x (by simpa using a) (by simpa using b)⟩]
end
def asInts : List D → Option (List Int)
  | [] => some []
  | .int i :: r => (asInts r).map (i :: ·)
  | _ => none
theorem asInts_map : ∀ {xs : List D} {ns : List Int}, asInts xs = some ns → xs = ns.map D.int
  | [], ns, h => by cases h; rfl
  | x :: r, ns, h => by
    cases x <;> simp [asInts] at h
    obtain ⟨m, e, rfl⟩ := h
    rw [List.map_cons, ← asInts_map e]
def asBls : List D → Option (List Bool)
  | [] => some []
  | .bl i :: r => (asBls r).map (i :: ·)
  | _ => none
theorem asBls_map : ∀ {xs : List D} {ns : List Bool}, asBls xs = some ns → xs = ns.map D.bl
  | [], ns, h => by cases h; rfl
  | x :: r, ns, h => by
    cases x <;> simp [asBls] at h
    obtain ⟨m, e, rfl⟩ := h
    rw [List.map_cons, ← asBls_map e]
theorem asBls_of (ns : List Bool) : asBls (ns.map D.bl) = some ns := by
  induction ns with
  | nil => rfl
  | cons n ns ih => simp [asBls, ih]
theorem asInts_of (ns : List Int) : asInts (ns.map D.int) = some ns := by
  induction ns with
  | nil => rfl
  | cons n ns ih => simp [asInts, ih]
def asStrs : List D → Option (List Str)
  | [] => some []
  | .str i :: r => (asStrs r).map (i :: ·)
  | _ => none
theorem asStrs_map : ∀ {xs : List D} {ns : List Str}, asStrs xs = some ns → xs = ns.map D.str
  | [], ns, h => by cases h; rfl
  | x :: r, ns, h => by
    cases x <;> simp [asStrs] at h
    obtain ⟨m, e, rfl⟩ := h
    rw [List.map_cons, ← asStrs_map e]
theorem asStrs_of (ns : List Str) : asStrs (ns.map D.str) = some ns := by
  induction ns with
  | nil => rfl
  | cons n ns ih => simp [asStrs, ih]

/-! ### primitives by readings -/
/-- what is asked of the values: they stand for data on which g is told, and its outcome is wanted -/
def rG (K : PySem.W.Frag) (g : List D → Option Val) : List V → Hp → VK → Prop := fun vs H Q => ∃ (σ : St) (F : Hp) (ds : List D) (rv : Val), Same F H ∧ RepHs K H F vs ds ∧ g ds = some rv ∧ GivesV K H F σ rv Q
def r2G (K : PySem.W.Frag) (g : List D → Option Val) : R2 := fun x y H Q => rG K g [x, y] H Q
theorem opImp {X : Cx} {f : Value → Value → Sem Value} {r r' : R2} (h : OpR X f r) (i : ∀ x y H Q, r' x y H Q → r x y H Q) : OpR X f r' :=
  fun pins s σ H x y v u Q I rx ry q => h pins s σ H x y v u Q I rx ry (i x y H Q q)
theorem callImp {X : Cx} {f : Value} {r r' : List V → Hp → VK → Prop} (h : CallR X f r) (i : ∀ vs H Q, r' vs H Q → r vs H Q) : CallR X f r' :=
  fun pins s σ H xs us Q I r q => h pins s σ H xs us Q I r (i xs H Q q)
theorem ixImp {X : Cx} {r r' : R2} (h : IxR X r) (i : ∀ x y H Q, r' x y H Q → r x y H Q) : IxR X r' :=
  fun value slice pins s σ H x y v u Q I rx ry q hs => h value slice pins s σ H x y v u Q I rx ry (i x y H Q q) hs
section
variable {X : Cx} {W : WX} {R : Hp} {P : List (Option V)} {a b : Expr} {ma mb : DEnv → ER} {g : List D → Option Val} {pos : Pos}
theorem two {G H F : Hp} {σ : St} {env : DEnv} {L : List Addr} {Q : VK} (ha : ME X W R P a ma) (hb : ME X W R P b mb) (I : FI X.K R P G H F σ env L) (h : PostV X W R P G F σ (dPrim g [ma, mb] env) Q) :
    tOp (r2G X.K g) (tW X a) (tW X b) σ H Q := by
  have z := run_prim (.cons ha (.cons hb .nil)) I h
  exact tW_mono (Q := fun x H1 => tW X b σ H1 fun y H2 => _) z fun x H1 h1 => tW_mono h1 fun y H2 ⟨F', ds, rv, a, b, c, d⟩ => ⟨σ, F', ds, rv, a, b, c, d⟩
theorem me_bin {op : Operator} (ho : OpR X (binaryOp op) (r2G X.K g)) (ha : ME X W R P a ma) (hb : ME X W R P b mb) : ME X W R P (.BinOp a op b pos) (dPrim g [ma, mb]) :=
  fun G H F σ env L Q I h => w_of (pe_op ho pe_w pe_w) (two ha hb I h)
theorem me_cmp {op : CmpOp} (ho : OpR X (compareOp op) (r2G X.K g)) (ha : ME X W R P a ma) (hb : ME X W R P b mb) (hm : behindInMarks op b = false := by first | rfl | exact nomark _) : ME X W R P (.Compare a [op] [b] pos) (dPrim g [ma, mb]) :=
  fun G H F σ env L Q I h => w_of (pe_cmpR ho pe_w pe_w hm) (two ha hb I h)
theorem me_ix (ho : IxR X (r2G X.K g)) (ha : ME X W R P a ma) (hb : ME X W R P b mb) (hs : PlainIx b := by exact fun _ _ => rfl) : ME X W R P (.Subscript a b pos) (dPrim g [ma, mb]) :=
  fun G H F σ env L Q I h => w_of (pe_ix ho pe_w pe_w hs) (two ha hb I h)
theorem me_un {op : UnaryOp} {r : V → Hp → VK → Prop} (ho : UnR X (unaryOp op) r) (hr : ∀ x H Q, rG X.K g [x] H Q → r x H Q) (ha : ME X W R P a ma) : ME X W R P (.UnaryOp op a pos) (dPrim g [ma]) := by
  intro G H F σ env L Q I h
  refine w_of (pe_un ho pe_w) ?_
  exact tW_mono (Q := fun x H1 => ∃ F' ds rv, _) (run_prim (.cons ha .nil) I h) fun x H1 ⟨F', ds, rv, a, b, c, d⟩ => hr x H1 Q ⟨σ, F', ds, rv, a, b, c, d⟩
theorem me_callB {x : Str} {p : Pos} {e : Expr} {es : List Expr} {ms : List (DEnv → ER)} {id : String} (hc : CallR X (.builtin id) (rG X.K g)) (hg : Gl X x) (hm : X.mg x = none) (hv : bootBuiltins x = some (.builtin id)) (hs : MEs X W R P (e :: es) ms) (ha : PA X (e :: es) (tWa X (e :: es)))
    (hn : x ≠ "__name__" := by decide) (hdb : (x == ("__debug__" : Str)) = false := by decide) (he : starEach (e :: es) X.env = (false, eval e X.env) :: starEach es X.env := by rfl) (hpl : (backTo pos (starEach es X.env)).any (·.1) = false := by rfl) :
    ME X W R P (.Call (.Name x p) (e :: es) [] pos) (dPrim g ms) := fun G H F σ env L Q I h =>
  w_of (pe_callB hc hg hm hv ha hn hdb he hpl) (tWa_mono (run_prim hs I h) fun vs H1 ⟨F', ds, rv, a, b, c, d⟩ => ⟨σ, F', ds, rv, a, b, c, d⟩)
theorem me_callTy {x : Str} {p : Pos} {e : Expr} {es : List Expr} {ms : List (DEnv → ER)} {T : String} (hc : CallR X (.type T) (rG X.K g)) (hg : Gl X x) (hm : X.mg x = none) (hv : bootBuiltins x = some (.type T)) (hs : MEs X W R P (e :: es) ms) (ha : PA X (e :: es) (tWa X (e :: es)))
    (hn : x ≠ "__name__" := by decide) (hdb : (x == ("__debug__" : Str)) = false := by decide) (he : starEach (e :: es) X.env = (false, eval e X.env) :: starEach es X.env := by rfl) (hpl : (backTo pos (starEach es X.env)).any (·.1) = false := by rfl) :
    ME X W R P (.Call (.Name x p) (e :: es) [] pos) (dPrim g ms) := fun G H F σ env L Q I h =>
  w_of (pe_callTy hc hg hm hv ha hn hdb he hpl) (tWa_mono (run_prim hs I h) fun vs H1 ⟨F', ds, rv, a, b, c, d⟩ => ⟨σ, F', ds, rv, a, b, c, d⟩)
end

/-! ### numbers -/
def gAdd : List D → Option Val
  | [.int a, .int b] => some (.fz (.int (a + b)))
  | [.str a, .str b] => if a.length + b.length ≤ sizeLine then some (.fz (.str (a ++ b))) else none
  | [.lst a, .lst b] => if a.length + b.length ≤ sizeLine then some (.tmp (.lst (a ++ b))) else none
  | _ => none
def gSub : List D → Option Val
  | [.int a, .int b] => some (.fz (.int (a - b)))
  | _ => none
abbrev MulOk (a b : Int) : Prop := a.natAbs.log2 + b.natAbs.log2 < 134217720
def gMul : List D → Option Val
  | [.int a, .int b] => if MulOk a b then some (.fz (.int (a * b))) else none
  | _ => none
abbrev DivOk (b : Int) : Prop := 0 < b ∧ b.natAbs.log2 < 9000
def gDiv : List D → Option Val
  | [.int a, .int b] => if DivOk b then some (.fz (.int (a / b))) else none
  | _ => none
def gMod : List D → Option Val
  | [.int a, .int b] => if 0 < b then some (.fz (.int (a % b))) else none
  | _ => none
def gPow : List D → Option Val
  | [.int a, .int b] => if 0 ≤ b ∧ b ≤ 1000000 ∧ a.natAbs < 2 ^ 64 then some (.fz (.int (a ^ b.toNat))) else none
  | _ => none
def gNeg : List D → Option Val
  | [.int a] => some (.fz (.int (-a)))
  | _ => none
def gCmp (p : Int → Int → Bool) (q : Str → Str → Bool) : List D → Option Val
  | [.int a, .int b] => some (.fz (.bl (p a b)))
  | [.str a, .str b] => some (.fz (.bl (q a b)))
  | _ => none
abbrev strLt (a b : Str) : Bool := decide (a.cps.toList < b.cps.toList)
def gLt := gCmp (fun a b => decide (a < b)) strLt
def gGt := gCmp (fun a b => decide (b < a)) (fun a b => strLt b a)
def gLe := gCmp (fun a b => decide (a ≤ b)) (fun a b => !strLt b a)
def gGe := gCmp (fun a b => decide (b ≤ a)) (fun a b => !strLt a b)
def gEq : List D → Option Val
  | [a, b] => (deq a b).map fun r => .fz (.bl r)
  | _ => none
def gNe : List D → Option Val
  | [a, b] => (deq a b).map fun r => .fz (.bl (!r))
  | _ => none
section
variable {X : Cx}
theorem rd2 {K : PySem.W.Frag} {H F : Hp} {x y : V} {ds : List D} (h : RepHs K H F [x, y] ds) : ∃ dx dy, ds = [dx, dy] ∧ RepH K H F x dx ∧ RepH K H F y dy := by
  cases h with | cons a t => cases t with | cons b t => cases t; exact ⟨_, _, rfl, a, b⟩
theorem rd1 {K : PySem.W.Frag} {H F : Hp} {x : V} {ds : List D} (h : RepHs K H F [x] ds) : ∃ dx, ds = [dx] ∧ RepH K H F x dx := by
  cases h with | cons a t => cases t; exact ⟨_, rfl, a⟩
theorem MulOk.ok {i j : Int} (h : MulOk i j) : IntMulOk i j := by
  have b : ∀ x : Int, Builtin.Int.intBits x ≤ x.natAbs.log2 + 1 := fun x => by
    unfold Builtin.Int.intBits
    split <;> omega
  have h1 := b i
  have h2 := b j
  have h3 : i.natAbs.log2 + j.natAbs.log2 < 134217720 := h
  have e : bitsLine = 134217728 := by decide
  unfold IntMulOk
  intro z
  rw [Bool.and_eq_true] at z
  have z2 := z.2
  unfold Builtin.Int.intTooBig at z2
  have z3 := of_decide_eq_true z2
  rw [e] at z3
  omega
theorem op_mulD : OpR X (binaryOp .Mult) (rI MulOk fun i j => .int (i * j)) := opI fun _ _ _ _ _ _ _ hc q => mul_int q hc.ok
theorem opd_sub : OpR X (binaryOp .Sub) (r2G X.K gSub) := opImp op_sub fun x y H Q ⟨σ, F, ds, rv, fh, h, e, k⟩ => by
  obtain ⟨dx, dy, rfl, hx, hy⟩ := rd2 h
  cases hx <;> cases hy <;> simp [gSub] at e
  subst e
  exact ⟨_, _, rfl, rfl, k.atom (X := X) fh (.int _)⟩
theorem opd_mul : OpR X (binaryOp .Mult) (r2G X.K gMul) := opImp op_mulD fun x y H Q ⟨σ, F, ds, rv, fh, h, e, k⟩ => by
  obtain ⟨dx, dy, rfl, hx, hy⟩ := rd2 h
  cases hx <;> cases hy <;> simp only [gMul] at e <;> first | (cases e; done) | skip
  split at e
  · rename_i hm
    cases e
    exact ⟨_, _, rfl, rfl, hm, k.atom (X := X) fh (.int _)⟩
  · cases e
theorem opd_div : OpR X (binaryOp .FloorDiv) (r2G X.K gDiv) := opImp op_fdivW fun x y H Q ⟨σ, F, ds, rv, fh, h, e, k⟩ => by
  obtain ⟨dx, dy, rfl, hx, hy⟩ := rd2 h
  cases hx <;> cases hy <;> simp only [gDiv] at e <;> first | (cases e; done) | skip
  split at e
  · rename_i hm
    cases e
    exact ⟨_, _, rfl, rfl, hm, k.atom (X := X) fh (.int _)⟩
  · cases e
theorem opd_mod : OpR X (binaryOp .Mod) (r2G X.K gMod) := opImp op_mod fun x y H Q ⟨σ, F, ds, rv, fh, h, e, k⟩ => by
  obtain ⟨dx, dy, rfl, hx, hy⟩ := rd2 h
  cases hx <;> cases hy <;> simp only [gMod] at e <;> first | (cases e; done) | skip
  split at e
  · rename_i hm
    cases e
    exact ⟨_, _, rfl, rfl, hm, k.atom (X := X) fh (.int _)⟩
  · cases e
theorem opd_pow : OpR X (binaryOp .Pow) (r2G X.K gPow) := opImp op_pow fun x y H Q ⟨σ, F, ds, rv, fh, h, e, k⟩ => by
  obtain ⟨dx, dy, rfl, hx, hy⟩ := rd2 h
  cases hx <;> cases hy <;> simp only [gPow] at e <;> first | (cases e; done) | skip
  split at e
  · rename_i hm
    cases e
    exact ⟨_, _, rfl, rfl, hm, k.atom (X := X) fh (.int _)⟩
  · cases e
/-- two lists, as they stand -/
def rCatR : R2 := fun x y H Q => ∃ l b xs zs, x = .ref l ∧ y = .ref b ∧ Rd H l (.lst xs) ∧ Rd H b (.lst zs) ∧ xs.length + zs.length ≤ sizeLine ∧ ∀ p, H p = none → Q (.ref p) (upd H p (.lst (xs ++ zs)))
theorem lstR {pins : List (Addr × Obj)} {σ : St} {H : Hp} {s : Shared} {l : Addr} {xs : List V} (I : Inv X pins σ H s) (hH : Rd H l (.lst xs)) : xs.length ≤ sizeLine ∧ ∃ (its : List Value) (n : Nat), Vals xs its ∧ xs.length = its.length ∧ s.heap.get? l = some { cls := .type "list", data := .seq its.toArray n } := by
  obtain ⟨z, its, n, r, e⟩ := hH.ok I.hok
  exact ⟨z, its, n, r, r.length, e⟩
theorem op_catR : OpR X (binaryOp .Add) rCatR := by
  intro pins s σ H x y v u Q I rx ry h
  obtain ⟨l, b, xs, zs, rfl, rfl, hH, hB, hz, q⟩ := h
  cases rx
  cases ry
  obtain ⟨z, its, n, r, hl, e⟩ := lstR I hH
  obtain ⟨z2, its2, n2, r2, hl2, e2⟩ := lstR I hB
  refine PySem.P.add_list e e2 ?_ (by rw [List.size_toArray, List.size_toArray]; omega)
  have ea : its.toArray ++ its2.toArray = (its ++ its2).toArray := by simp
  rw [ea]
  exact ⟨.ref _, _, I.lnew (t' := s.toks) (r.append r2) (by rw [List.length_append]; omega), rfl, q _ I.fresh⟩
theorem opd_add : OpR X (binaryOp .Add) (r2G X.K gAdd) := opImp (OpR.or op_add (OpR.or op_add_str op_catR)) fun x y H Q ⟨σ, F, ds, rv, fh, h, e, k⟩ => by
  obtain ⟨dx, dy, rfl, hx, hy⟩ := rd2 h
  cases hx with
  | int i => cases hy <;> simp only [gAdd] at e <;> first | (cases e; done) | skip
             cases e; exact .inl ⟨_, _, rfl, rfl, k.atom (X := X) fh (.int _)⟩
  | str i =>
    cases hy <;> simp only [gAdd] at e <;> first | (cases e; done) | skip
    split at e
    · rename_i hl; cases e; exact .inr (.inl ⟨_, _, rfl, rfl, hl, k.atom (X := X) fh (.str _)⟩)
    · cases e
  | lst ha hi =>
    cases hy with
    | lst hb hj =>
      simp only [gAdd] at e
      split at e
      · rename_i hl
        cases e
        refine .inr (.inr ⟨_, _, _, _, rfl, rfl, ha, hb, by rw [hi.1, hj.1]; exact hl, fun p n => ?_⟩)
        exact k.own (X := X) fh n (.lst upd_same (hi.append hj))
      · cases e
    | _ => cases e
  | _ => cases hy <;> cases e
theorem opd_neg : UnR X (unaryOp .USub) (rU fun i => .int (-i)) := un_neg
theorem neg_imp (x : V) (H : Hp) (Q : VK) (h : rG X.K gNeg [x] H Q) : rU (fun i => .int (-i)) x H Q := by
  obtain ⟨σ, F, ds, rv, fh, h, e, k⟩ := h
  obtain ⟨dx, rfl, hx⟩ := rd1 h
  cases hx <;> simp [gNeg] at e
  subst e
  exact ⟨_, rfl, k.atom (X := X) fh (.int _)⟩
theorem cmp_imp {op : CmpOp} {p : Int → Int → Bool} {q : Str → Str → Bool} (h1 : OpR X (compareOp op) (rI0 fun i j => .bl (p i j))) (h2 : OpR X (compareOp op) (fun x y H Q => ∃ i j, x = .str i ∧ y = .str j ∧ Q (.bl (q i j)) H)) :
    OpR X (compareOp op) (r2G X.K (gCmp p q)) := opImp (OpR.or h1 h2) fun x y H Q ⟨σ, F, ds, rv, fh, h, e, k⟩ => by
  obtain ⟨dx, dy, rfl, hx, hy⟩ := rd2 h
  cases hx <;> cases hy <;> simp only [gCmp] at e <;> first | (cases e; done) | skip
  · cases e; exact .inl ⟨_, _, rfl, rfl, k.atom (X := X) fh (.bl _)⟩
  · cases e; exact .inr ⟨_, _, rfl, rfl, k.atom (X := X) fh (.bl _)⟩
theorem opd_lt : OpR X (compareOp .Lt) (r2G X.K gLt) := cmp_imp op_lt op_lt_str
theorem opd_gt : OpR X (compareOp .Gt) (r2G X.K gGt) := cmp_imp op_gt op_gt_str
theorem opd_le : OpR X (compareOp .LtE) (r2G X.K gLe) := cmp_imp op_le op_le_str
theorem opd_ge : OpR X (compareOp .GtE) (r2G X.K gGe) := cmp_imp op_ge op_ge_str
theorem opd_eq (hu : X.A.units + 64 < cLine) : OpR X (compareOp .Eq) (r2G X.K gEq) := by
  intro pins s σ H x y v u Q I rx ry ⟨σ', F, ds, rv, fh, h, e, k⟩
  obtain ⟨dx, dy, rfl, hx, hy⟩ := rd2 h
  simp only [gEq] at e
  cases ed : deq dx dy with
  | none => rw [ed] at e; cases e
  | some b =>
    rw [ed] at e
    cases e
    exact rc_step I (by omega) (fun a b c d e => eqAt_rep I fh (n := 19) (by show X.A.units + 1 + 19 < cLine; omega) a b c d e) hx hy rx ry ed X.prog X.w X.xe _ ⟨.bl b, H, I, rfl, k.atom (X := X) fh (.bl _)⟩
theorem opd_ne (hu : X.A.units + 64 < cLine) : OpR X (compareOp .NotEq) (r2G X.K gNe) := by
  intro pins s σ H x y v u Q I rx ry ⟨σ', F, ds, rv, fh, h, e, k⟩
  obtain ⟨dx, dy, rfl, hx, hy⟩ := rd2 h
  simp only [gNe] at e
  cases ed : deq dx dy with
  | none => rw [ed] at e; cases e
  | some b =>
    rw [ed] at e
    cases e
    exact rn_step I (by omega) (fun a b c d e => eqAt_rep I fh (n := 19) (by show X.A.units + 1 + 19 < cLine; omega) a b c d e) hx hy rx ry ed X.prog X.w X.xe _ ⟨.bl (!b), H, I, rfl, k.atom (X := X) fh (.bl _)⟩
end
end DX

namespace DX
open PySem PySem.Spec L2
open PyProof.Rows hiding St

def gIx : List D → Option Val
  | [.lst xs, .int i] => (atI xs i).map .fz
  | [.tup xs, .int i] => (atI xs i).map .fz
  | [.scr xs, .int i] => (atI xs i).map fun n => .fz (.int n)
  | [.str z, .int i] => if z.length ≤ sizeLine then (atI z.cps.toList i).map fun c => .fz (.str ⟨#[c]⟩) else none
  | _ => none
def cutL {α : Type} (xs : List α) (lo hi : Option Int) : List α := (xs.drop (HT.sIx xs.length 0 lo)).take (HT.sIx xs.length xs.length hi - HT.sIx xs.length 0 lo)
def gLen : List D → Option Val
  | [.lst xs] => some (.fz (.int xs.length))
  | [.tup xs] => some (.fz (.int xs.length))
  | [.scr xs] => some (.fz (.int xs.length))
  | [.str z] => if z.length ≤ sizeLine then some (.fz (.int z.length)) else none
  | _ => none
def gAbs : List D → Option Val
  | [.int a] => some (.fz (.int (if a < 0 then -a else a)))
  | _ => none
def gMax : List D → Option Val
  | [.int i, .int j] => some (.fz (.int (if j > i then j else i)))
  | _ => none
def gMin : List D → Option Val
  | [.int i, .int j] => some (.fz (.int (if j < i then j else i)))
  | _ => none
def gInt : List D → Option Val
  | [.int i] => some (.fz (.int i))
  | [.bl b] => some (.fz (.int (if b then 1 else 0)))
  | _ => none
def gTuple : List D → Option Val
  | [.lst xs] => some (.fz (.tup xs))
  | _ => none
def gList : List D → Option Val
  | [.lst xs] => some (.tmp (.lst xs))
  | [.tup xs] => some (.tmp (.lst xs))
  | _ => none
def isNon : D → Bool
  | .non => true
  | _ => false
def gIsN : List D → Option Val
  | [x, .non] => some (.fz (.bl (isNon x)))
  | _ => none
def gNotN : List D → Option Val
  | [x, .non] => some (.fz (.bl (!isNon x)))
  | _ => none
def gAll : List D → Option Val
  | [.lst xs] => (asBls xs).map fun bs => .fz (.bl (bs.all id))
  | _ => none
def gAny : List D → Option Val
  | [.lst xs] => (asBls xs).map fun bs => .fz (.bl (bs.any id))
  | _ => none
theorem Reps.tupNew {K : PySem.W.Frag} {F : Hp} {vs : List V} {xs : List D} {p : Addr} (h : Reps K F vs xs) (n : F p = none) : Rep K (upd F p (.tup vs)) (.ref p) (.tup xs) :=
  let h' := h.mono (same_upd n); .tup (.inl (.inl upd_same)) h'.1 h'.2
section
variable {X : Cx} {W : WX} {R : Hp} {P : List (Option V)} {g : List D → Option Val} {pos : Pos}
theorem ixN_lt {n : Nat} {i : Int} {j : Nat} (h : ixN n i = some j) : j < n := (ixN_seq h).2.1
theorem atI_rep {K : PySem.W.Frag} {F : Hp} {vs : List V} {xs : List D} {i : Int} {x : D} (h : Reps K F vs xs) (e : atI xs i = some x) : ∃ v, atI vs i = some v ∧ Rep K F v x := by
  unfold atI at e ⊢
  rw [← h.1] at e
  cases q : ixN vs.length i with
  | none => rw [q] at e; cases e
  | some j =>
    rw [q] at e
    exact h.get e
theorem ixd : IxR X (r2G X.K gIx) := ixImp ix_seq fun x y H Q ⟨σ, F, ds, rv, fh, h, e, k⟩ => by
  obtain ⟨dx, dy, rfl, hx, hy⟩ := rd2 h
  cases hy with
  | int i =>
    cases hx with
    | @lst a vs xs ha hi =>
      simp only [gIx] at e
      cases q : atI xs i with
      | none => rw [q] at e; cases e
      | some d =>
        rw [q] at e; cases e
        obtain ⟨v, q1, q2⟩ := atI_rep hi q
        exact .inl ⟨_, _, _, _, rfl, rfl, .inl ha, q1, k.atom (X := X) fh q2⟩
    | @tup a vs xs ha hi =>
      simp only [gIx] at e
      cases q : atI xs i with
      | none => rw [q] at e; cases e
      | some d =>
        rw [q] at e; cases e
        obtain ⟨v, q1, q2⟩ := atI_rep hi q
        exact .inr (.inl ⟨_, _, _, _, rfl, rfl, ha, q1, k.atom (X := X) fh q2⟩)
    | @scr a ns ha =>
      simp only [gIx] at e
      cases q : atI ns i with
      | none => rw [q] at e; cases e
      | some d =>
        rw [q] at e; cases e
        refine .inl ⟨_, _, _, .int d, rfl, rfl, ha, ?_, k.atom (X := X) fh (.int d)⟩
        unfold atI at q ⊢
        rw [List.length_map]
        cases z : ixN ns.length i with
        | none => rw [z] at q; cases q
        | some j =>
          rw [z] at q
          show (ns.map V.int)[j]? = _
          rw [List.getElem?_map, show ns[j]? = some d from q]; rfl
    | str z =>
      simp only [gIx] at e
      split at e
      · rename_i hl
        cases q : atI z.cps.toList i with
        | none => rw [q] at e; cases e
        | some d =>
          rw [q] at e; cases e
          exact .inr (.inr ⟨_, _, _, rfl, rfl, hl, q, k.atom (X := X) fh (.str _)⟩)
      · cases e
    | _ => cases e
  | _ => cases hx <;> cases e
theorem callLen : CallR X (.builtin "len") (rG X.K gLen) := callImp call_len fun vs H Q ⟨σ, F, ds, rv, fh, h, e, k⟩ => by
  cases h with
  | nil => cases e
  | cons h t =>
    cases t with
    | cons h2 t2 => cases h <;> cases e
    | nil =>
      cases h with
      | lst ha hi => cases e; exact ⟨_, _, rfl, .inl ⟨_, .inl ha, hi.1.symm⟩, k.atom (X := X) fh (.int _)⟩
      | scr ha => cases e; exact ⟨_, _, rfl, .inl ⟨_, ha, by simp⟩, k.atom (X := X) fh (.int _)⟩
      | tup ha hi => cases e; exact ⟨_, _, rfl, .inr ⟨_, ha, hi.1.symm⟩, k.atom (X := X) fh (.int _)⟩
      | str z =>
        simp only [gLen] at e
        split at e
        · rename_i hl; cases e; exact ⟨_, _, rfl, ⟨hl, rfl⟩, k.atom (X := X) fh (.int _)⟩
        · cases e
      | _ => cases e
theorem one {K : PySem.W.Frag} {H F : Hp} {vs : List V} {d : D} (h : RepHs K H F vs [d]) : ∃ x, vs = [x] ∧ RepH K H F x d := by
  cases h with | cons a t => cases t; exact ⟨_, rfl, a⟩
theorem twoH {K : PySem.W.Frag} {H F : Hp} {vs : List V} {d e : D} (h : RepHs K H F vs [d, e]) : ∃ x y, vs = [x, y] ∧ RepH K H F x d ∧ RepH K H F y e := by
  cases h with | cons a t => cases t with | cons b t => cases t; exact ⟨_, _, rfl, a, b⟩
theorem callAbs : CallR X (.builtin "abs") (rG X.K gAbs) := callImp call_abs fun vs H Q ⟨σ, F, ds, rv, fh, h, e, k⟩ => by
  unfold gAbs at e; split at e
  · cases e; obtain ⟨x, rfl, hx⟩ := one h; cases hx; exact ⟨_, rfl, k.atom (X := X) fh (.int _)⟩
  · cases e
theorem callMax (hc : X.calm = true) : CallR X (.builtin "max") (rG X.K gMax) := callImp (call_max2 hc) fun vs H Q ⟨σ, F, ds, rv, fh, h, e, k⟩ => by
  unfold gMax at e; split at e
  · cases e; obtain ⟨x, y, rfl, hx, hy⟩ := twoH h; cases hx; cases hy; exact ⟨_, _, rfl, k.atom (X := X) fh (.int _)⟩
  · cases e
theorem callMin (hc : X.calm = true) : CallR X (.builtin "min") (rG X.K gMin) := callImp (call_min2 hc) fun vs H Q ⟨σ, F, ds, rv, fh, h, e, k⟩ => by
  unfold gMin at e; split at e
  · cases e; obtain ⟨x, y, rfl, hx, hy⟩ := twoH h; cases hx; cases hy; exact ⟨_, _, rfl, k.atom (X := X) fh (.int _)⟩
  · cases e
theorem callInt : CallR X (.type "int") (rG X.K gInt) := callImp call_int1 fun vs H Q ⟨σ, F, ds, rv, fh, h, e, k⟩ => by
  unfold gInt at e; split at e
  · cases e; obtain ⟨x, rfl, hx⟩ := one h; cases hx; exact .inl ⟨_, rfl, k.atom (X := X) fh (.int _)⟩
  · cases e; obtain ⟨x, rfl, hx⟩ := one h; cases hx; exact .inr ⟨_, rfl, k.atom (X := X) fh (.int _)⟩
  · cases e
theorem callTuple : CallR X (.type "tuple") (rG X.K gTuple) := callImp call_tuple_of fun vs H Q ⟨σ, F, ds, rv, fh, h, e, k⟩ => by
  unfold gTuple at e; split at e
  · cases e; obtain ⟨x, rfl, hx⟩ := one h
    cases hx with
    | lst ha hi =>
      refine ⟨_, _, rfl, .inl ⟨.inl ha, fun l n => ?_⟩⟩
      exact k.new (X := X) fh n (hi.tupNew (fh.free n))
  · cases e
theorem callList : CallR X (.type "list") (rG X.K gList) := callImp call_list_of fun vs H Q ⟨σ, F, ds, rv, fh, h, e, k⟩ => by
  unfold gList at e; split at e
  · cases e; obtain ⟨x, rfl, hx⟩ := one h
    cases hx with | lst ha hi => exact ⟨_, _, rfl, .inl (.inl ha), fun l n => k.own (X := X) fh n (.lst upd_same hi)⟩
  · cases e; obtain ⟨x, rfl, hx⟩ := one h
    cases hx with | tup ha hi => exact ⟨_, _, rfl, .inr ha, fun l n => k.own (X := X) fh n (.lst upd_same hi)⟩
  · cases e
theorem callAll (hc : X.calm = true) : CallR X (.builtin "all") (rG X.K gAll) := callImp (cr_all hc) fun vs H Q ⟨σ, F, ds, rv, fh, h, e, k⟩ => by
  unfold gAll at e; split at e
  · rename_i xs
    cases q : asBls xs with
    | none => rw [q] at e; cases e
    | some bs =>
      rw [q] at e; cases e
      obtain ⟨x, rfl, hx⟩ := one h
      have e2 := asBls_map q
      subst e2
      cases hx with | lst ha hi => have e3 := Reps.bls hi; subst e3; exact ⟨_, _, rfl, .inl ha, k.atom (X := X) fh (.bl _)⟩
  · cases e
theorem callAny (hc : X.calm = true) : CallR X (.builtin "any") (rG X.K gAny) := callImp (cr_any hc) fun vs H Q ⟨σ, F, ds, rv, fh, h, e, k⟩ => by
  unfold gAny at e; split at e
  · rename_i xs
    cases q : asBls xs with
    | none => rw [q] at e; cases e
    | some bs =>
      rw [q] at e; cases e
      obtain ⟨x, rfl, hx⟩ := one h
      have e2 := asBls_map q
      subst e2
      cases hx with | lst ha hi => have e3 := Reps.bls hi; subst e3; exact ⟨_, _, rfl, .inl ha, k.atom (X := X) fh (.bl _)⟩
  · cases e
theorem isN_dec {K : PySem.W.Frag} {H F : Hp} {x : V} {d : D} (h : RepH K H F x d) : decide (x = .non) = isNon d := by
  cases h <;> simp [isNon]
theorem opd_isN : OpR X (compareOp .Is) (r2G X.K gIsN) := opImp op_isN fun x y H Q ⟨σ, F, ds, rv, fh, h, e, k⟩ => by
  obtain ⟨dx, dy, rfl, hx, hy⟩ := rd2 h
  unfold gIsN at e; split at e
  · rename_i q; cases q; cases e; cases hy; refine ⟨rfl, ?_⟩; rw [isN_dec hx]; exact k.atom (X := X) fh (.bl _)
  · cases e
theorem opd_notN : OpR X (compareOp .IsNot) (r2G X.K gNotN) := opImp op_notN fun x y H Q ⟨σ, F, ds, rv, fh, h, e, k⟩ => by
  obtain ⟨dx, dy, rfl, hx, hy⟩ := rd2 h
  unfold gNotN at e; split at e
  · rename_i q; cases q; cases e; cases hy; refine ⟨rfl, ?_⟩; rw [isN_dec hx]; exact k.atom (X := X) fh (.bl _)
  · cases e

/-! ### slices -/
def gSlice (lo hi : Option Int) : D → Option Val
  | .lst xs => some (.tmp (.lst (cutL xs lo hi)))
  | .scr ns => some (.tmp (.lst ((cutL ns lo hi).map D.int)))
  | .str z => if z.length ≤ sizeLine then some (.fz (.str (cutS z lo hi))) else none
  | _ => none
theorem cut_map {α β : Type} (f : α → β) (xs : List α) (lo hi : Option Int) : cutL (xs.map f) lo hi = (cutL xs lo hi).map f := by
  unfold cutL; rw [List.length_map, List.map_take, List.map_drop]
theorem Reps.cut {K : PySem.W.Frag} {F : Hp} {vs : List V} {xs : List D} (lo hi : Option Int) (h : Reps K F vs xs) : Reps K F (cutV vs lo hi) (cutL xs lo hi) := by
  unfold cutV cutL; rw [h.1]; exact (h.drop _).take _
theorem Reps.ofInts {K : PySem.W.Frag} {F : Hp} (ns : List Int) : Reps K F (ns.map V.int) (ns.map D.int) := ⟨by simp, fun i v x a b => by
  rw [List.getElem?_map] at a b
  cases q : ns[i]? with
  | none => rw [q] at a; cases a
  | some n => rw [q] at a b; cases a; cases b; exact .int n⟩
def rSlD (K : PySem.W.Frag) : V → Option Int → Option Int → Hp → VK → Prop := fun x lo hi H Q => ∃ σ F d rv, Same F H ∧ RepH K H F x d ∧ gSlice lo hi d = some rv ∧ GivesV K H F σ rv Q
theorem slImp {r r' : V → Option Int → Option Int → Hp → VK → Prop} (h : SlR X r) (i : ∀ x lo hi H Q, r' x lo hi H Q → r x lo hi H Q) : SlR X r' :=
  fun pins s σ H x v vl vu lo hi sl Q I rx hs pl pu q => h pins s σ H x v vl vu lo hi sl Q I rx hs pl pu (i x lo hi H Q q)
theorem sl_d : SlR X (rSlD X.K) := slImp (SlR.or sl_list sl_str) fun x lo hi H Q ⟨σ, F, d, rv, fh, h, e, k⟩ => by
  cases h with
  | lst ha hj => cases e; exact .inl ⟨_, _, rfl, .inl ha, fun p n => k.own (X := X) fh n (.lst upd_same (hj.cut lo hi))⟩
  | @scr a ns ha =>
    cases e
    refine .inl ⟨_, _, rfl, ha, fun p n => k.own (X := X) fh n (.lst upd_same ?_)⟩
    have e2 : cutV (ns.map V.int) lo hi = (cutL ns lo hi).map V.int := cut_map V.int ns lo hi
    rw [e2]
    exact Reps.ofInts _
  | str z =>
    simp only [gSlice] at e
    split at e
    · rename_i hl; cases e; exact .inr ⟨_, rfl, hl, k.atom (X := X) fh (.str _)⟩
    · cases e
  | _ => cases e
/-- an evaluation while a value is held -/
theorem hold {G H F : Hp} {σ : St} {env : DEnv} {L Lr : List Addr} {Q Q' : VK} {v : V} {rv : Val} {b : Expr} {mb : DEnv → ER} {f : Val → DEnv → ER} (hb : ME X W R P b mb) (I : FI X.K R P G H F σ env L) (r : RepVal X.K H F σ v rv Lr) (nd : (Lr ++ L).Nodup) (fr : ∀ a ∈ Lr, F a = none ∧ G a = none)
    (h : PostV X W R P G F σ ((mb env).bind f) Q') (k : ∀ rw env' w H' F' L' Lw, mb env = .ok rw env' → FI X.K R P G H' F' σ env' L' → Same F F' → NewF G F F' → RepVal X.K H' F' σ v rv Lr → RepVal X.K H' F' σ w rw Lw → (Lr ++ (Lw ++ L')).Nodup →
      (∀ a ∈ Lr, F' a = none ∧ G a = none) → (∀ a ∈ Lw, F' a = none ∧ G a = none) → PostV X W R P G F' σ (f rw env') Q' → Q w H') : tW X b σ H Q := by
  have ndr : Lr.Nodup := (List.nodup_append.mp nd).1
  refine hb (addG G H Lr) H F σ env L Q (I.held nd fr) ?_
  cases e : mb env with
  | err => rw [e] at h; exact h
  | raise c env' => rw [e] at h; exact PRaise.less (addG_same fun a q => (fr a q).2) I.rg h
  | ok rw env' =>
    rw [e] at h
    intro w H' F' L' Lw I' s n rw' nd' fr'
    obtain ⟨J, n', rk, nk, frk, nn⟩ := held_back I r fr I' s n
    refine k rw env' w H' F' L' Lw e J s n' rk rw' ?_ frk (fun a ha => ⟨(fr' a ha).1, (addG_same fun a q => (fr a q).2).free (fr' a ha).2⟩) (PostV.later s n' h)
    have q1 := List.nodup_append.mp (nk ndr)
    refine List.nodup_append.mpr ⟨ndr, nd', fun a ha b hb => ?_⟩
    rcases List.mem_append.mp hb with z | z
    · exact fun q => nn a ha (by rw [q]; exact (fr' b z).2)
    · exact q1.2.2 a ha b z
/-- an evaluation, then what stands behind it -/
theorem then_ {G H F : Hp} {σ : St} {env : DEnv} {L : List Addr} {Q Q' : VK} {b : Expr} {mb : DEnv → ER} {f : Val → DEnv → ER} (hb : ME X W R P b mb) (I : FI X.K R P G H F σ env L)
    (h : PostV X W R P G F σ ((mb env).bind f) Q') (k : ∀ rw env' w H' F' L' Lw, mb env = .ok rw env' → FI X.K R P G H' F' σ env' L' → Same F F' → NewF G F F' → RepVal X.K H' F' σ w rw Lw → (Lw ++ L').Nodup →
      (∀ a ∈ Lw, F' a = none ∧ G a = none) → PostV X W R P G F' σ (f rw env') Q' → Q w H') : tW X b σ H Q := by
  refine hb G H F σ env L Q I ?_
  cases e : mb env with
  | err => rw [e] at h; exact h
  | raise c env' => rw [e] at h; exact h
  | ok rw env' =>
    rw [e] at h
    intro w H' F' L' Lw I' s n r nd fr
    exact k rw env' w H' F' L' Lw e I' s n r nd fr (PostV.later s n h)
def dFin (r : Option Val) (env : DEnv) : ER := match r with
  | some rv => .ok rv env
  | none => .err
def dSl2 (me ml mh : DEnv → ER) : DEnv → ER := fun env => (me env).bind fun ve e1 => (ml e1).bind fun vl e2 => match vl with
  | .fz (.int i) => (mh e2).bind fun vh e3 => match vh with
    | .fz (.int j) => dFin ((rdV e3 ve).bind (gSlice (some i) (some j))) e3
    | _ => .err
  | _ => .err
def dSlL (me ml : DEnv → ER) : DEnv → ER := fun env => (me env).bind fun ve e1 => (ml e1).bind fun vl e2 => match vl with
  | .fz (.int i) => dFin ((rdV e2 ve).bind (gSlice (some i) none)) e2
  | _ => .err
def dSlH (me ml : DEnv → ER) : DEnv → ER := fun env => (me env).bind fun ve e1 => (ml e1).bind fun vl e2 => match vl with
  | .fz (.int i) => dFin ((rdV e2 ve).bind (gSlice none (some i))) e2
  | _ => .err
theorem fin_ok {G H F : Hp} {σ : St} {env : DEnv} {L Lr : List Addr} {Q : VK} {v : V} {rv : Val} {lo hi : Option Int} (I : FI X.K R P G H F σ env L) (r : RepVal X.K H F σ v rv Lr)
    (h : PostV X W R P G F σ (dFin ((rdV env rv).bind (gSlice lo hi)) env) Q) : rSlD X.K v lo hi H Q := by
  cases e : rdV env rv with
  | none => rw [e] at h; exact h.elim
  | some d =>
    rw [e] at h
    cases e2 : gSlice lo hi d with
    | none => simp only [Option.bind, dFin, e2] at h; exact h.elim
    | some rw => simp only [Option.bind, dFin, e2] at h; exact ⟨σ, F, d, rw, I.fh, rdV_ok I r e, e2, gives_of I h⟩
theorem me_sl2 {e l h : Expr} {me ml mh : DEnv → ER} {p2 pos : Pos} (he : ME X W R P e me) (hl : ME X W R P l ml) (hh : ME X W R P h mh) : ME X W R P (.Subscript e (.Slice (some l) (some h) none p2) pos) (dSl2 me ml mh) := by
  intro G H F σ env L Q I q
  refine w_of (pe_slice sl_d pe_w (po_some pe_w) (po_some pe_w)) ?_
  refine then_ he I q fun ve e1 v H1 F1 L1 Lv _ I1 s1 n1 r1 nd1 fr1 q1 => ?_
  refine hold hl I1 r1 nd1 fr1 q1 fun vl e2 w H2 F2 L2 Lw _ I2 s2 n2 r2 rw2 nd2 fr2 frw q2 => ?_
  cases vl with
  | fz d =>
    cases d with
    | int i =>
      obtain ⟨rfl, rr⟩ := rw2
      cases rr
      refine ⟨i, rfl, ?_⟩
      refine hold hh I2 r2 (by simpa using nd2) fr2 q2 fun vh e3 w H3 F3 L3 Lw3 _ I3 s3 n3 r3 rw3 nd3 fr3 frw3 q3 => ?_
      cases vh with
      | fz d =>
        cases d with
        | int j =>
          obtain ⟨rfl, rr⟩ := rw3
          cases rr
          exact ⟨j, rfl, fin_ok I3 r3 q3⟩
        | _ => exact q3.elim
      | _ => exact q3.elim
    | _ => exact q2.elim
  | _ => exact q2.elim
theorem me_slL {e l : Expr} {me ml : DEnv → ER} {p2 pos : Pos} (he : ME X W R P e me) (hl : ME X W R P l ml) : ME X W R P (.Subscript e (.Slice (some l) none none p2) pos) (dSlL me ml) := by
  intro G H F σ env L Q I q
  refine w_of (pe_slice sl_d pe_w (po_some pe_w) po_none) ?_
  refine then_ he I q fun ve e1 v H1 F1 L1 Lv _ I1 s1 n1 r1 nd1 fr1 q1 => ?_
  refine hold hl I1 r1 nd1 fr1 q1 fun vl e2 w H2 F2 L2 Lw _ I2 s2 n2 r2 rw2 nd2 fr2 frw q2 => ?_
  cases vl with
  | fz d =>
    cases d with
    | int i =>
      obtain ⟨rfl, rr⟩ := rw2
      cases rr
      exact ⟨i, rfl, fin_ok I2 r2 q2⟩
    | _ => exact q2.elim
  | _ => exact q2.elim
theorem me_slH {e l : Expr} {me ml : DEnv → ER} {p2 pos : Pos} (he : ME X W R P e me) (hl : ME X W R P l ml) : ME X W R P (.Subscript e (.Slice none (some l) none p2) pos) (dSlH me ml) := by
  intro G H F σ env L Q I q
  refine w_of (pe_slice sl_d pe_w po_none (po_some pe_w)) ?_
  refine then_ he I q fun ve e1 v H1 F1 L1 Lv _ I1 s1 n1 r1 nd1 fr1 q1 => ?_
  refine hold hl I1 r1 nd1 fr1 q1 fun vl e2 w H2 F2 L2 Lw _ I2 s2 n2 r2 rw2 nd2 fr2 frw q2 => ?_
  cases vl with
  | fz d =>
    cases d with
    | int i =>
      obtain ⟨rfl, rr⟩ := rw2
      cases rr
      exact ⟨i, rfl, fin_ok I2 r2 q2⟩
    | _ => exact q2.elim
  | _ => exact q2.elim
/-- xs[::-1] -/
def gRev : List D → Option Val
  | [.lst xs] => some (.tmp (.lst xs.reverse))
  | _ => none
theorem me_rev {e : Expr} {me : DEnv → ER} {k : Nat} {p1 p2 p3 pos : Pos} (he : ME X W R P e me) : ME X W R P (.Subscript e (.Slice none none (some (.UnaryOp .USub (.Constant (.int 1) k p1) p2)) p3) pos) (dPrim gRev [me]) := by
  intro G H F σ env L Q I q
  refine w_of (pe_revL pe_w) ?_
  refine tW_mono (Q := fun x H1 => ∃ F' ds rv, _) (run_prim (.cons he .nil) I q) fun x H1 ⟨F', ds, rv, fh, h, e, k⟩ => ?_
  unfold gRev at e; split at e
  · cases e
    obtain ⟨x, ex, hx⟩ := one h
    cases ex
    cases hx with | lst ha hi => exact ⟨_, _, rfl, .inl ha, fun p n => k.own (X := X) fh n (.lst upd_same hi.reverse)⟩
  · cases e
end
end DX

namespace DX
open PySem PySem.Spec L2
open PyProof.Rows hiding St

/-! ### tests -/
inductive TR where
  | ok (b : Bool) (env : DEnv) | raise (c : Str) (env : DEnv) | err
def TOk (X : Cx) (R : Hp) (P : List (Option V)) (G F : Hp) (σ : St) (b : Bool) (env : DEnv) (Q : Bool → Hp → Prop) : Prop :=
  ∀ (H' F' : Hp) (L' : List Addr), FI X.K R P G H' F' σ env L' → Same F F' → NewF G F F' → Q b H'
def PostT (X : Cx) (W : WX) (R : Hp) (P : List (Option V)) (G F : Hp) (σ : St) (r : TR) (Q : Bool → Hp → Prop) : Prop := match r with
  | .ok b env => TOk X R P G F σ b env Q
  | .raise c env => PRaise X W R P G F σ c env
  | .err => False
def MT (X : Cx) (W : WX) (R : Hp) (P : List (Option V)) (e : Expr) (m : DEnv → TR) : Prop :=
  ∀ (G H F : Hp) (σ : St) (env : DEnv) (L : List Addr) (Q : Bool → Hp → Prop), FI X.K R P G H F σ env L → PostT X W R P G F σ (m env) Q → tWt X e σ H Q
/-- whatever its 'whole' is -/
def tWw (X : Cx) (e : Expr) : TT := fun σ H Q => ∀ (whole : Sem Value) (pins : List (Addr × Obj)) (s : Shared), Inv X pins σ H s → wpAny (model X.prog X.w) X.A (isTrue e X.env whole) (TP X pins σ Q) X.xe s
theorem pw_w {X : Cx} {e : Expr} : PW X e (tWw X e) := ⟨fun wh pins s σ H Q I h => h wh pins s I⟩
theorem ww_of {X : Cx} {e : Expr} {t : TT} {σ : St} {H : Hp} {Q : Bool → Hp → Prop} (h : PW X e t) (q : t σ H Q) : tWw X e σ H Q := fun wh pins s I => h.run wh pins s σ H Q I q
def MW (X : Cx) (W : WX) (R : Hp) (P : List (Option V)) (e : Expr) (m : DEnv → TR) : Prop :=
  ∀ (G H F : Hp) (σ : St) (env : DEnv) (L : List Addr) (Q : Bool → Hp → Prop), FI X.K R P G H F σ env L → PostT X W R P G F σ (m env) Q → tWw X e σ H Q
def TR.bind (r : TR) (f : Bool → DEnv → TR) : TR := match r with
  | .ok b env => f b env
  | .raise c env => .raise c env
  | .err => .err
def TR.thn (r : TR) (f : Bool → DEnv → FR) : FR := match r with
  | .ok b env => f b env
  | .raise c env => .raise c env
  | .err => .err
def TR.thenE (r : TR) (f : Bool → DEnv → ER) : ER := match r with
  | .ok b env => f b env
  | .raise c env => .raise c env
  | .err => .err
def dTst (m : DEnv → ER) : DEnv → TR := fun env => match m env with
  | .ok (.fz (.bl b)) env => .ok b env
  | .raise c env => .raise c env
  | _ => .err
def dNotT (m : DEnv → TR) : DEnv → TR := fun env => (m env).bind fun b e => .ok (!b) e
def dAndT (ma mb : DEnv → TR) : DEnv → TR := fun env => (ma env).bind fun b e => if b then mb e else .ok false e
def dOrT (ma mb : DEnv → TR) : DEnv → TR := fun env => (ma env).bind fun b e => if b then .ok true e else mb e
section
variable {X : Cx} {W : WX} {R : Hp} {P : List (Option V)} {a b : Expr} {rest : List Expr} {pos : Pos}
theorem PostT.later {G F F' : Hp} {σ : St} {r : TR} {Q : Bool → Hp → Prop} (e : Same F F') (n : NewF G F F') (h : PostT X W R P G F σ r Q) : PostT X W R P G F' σ r Q := by
  cases r with
  | ok b env => exact fun H' F'' L' I s n' => h H' F'' L' I (e.trans s) (n.trans n')
  | raise c env => exact PRaise.later e n h
  | err => exact h
theorem tst_post {m : DEnv → ER} {G F : Hp} {σ : St} {env : DEnv} {Q : Bool → Hp → Prop} (q : PostT X W R P G F σ (dTst m env) Q) : PostV X W R P G F σ (m env) (fun x H' => ∃ c, x = .bl c ∧ Q c H') := by
  unfold dTst at q
  cases e : m env with
  | err => rw [e] at q; exact q
  | raise c env' => rw [e] at q; exact q
  | ok rv env' =>
    rw [e] at q
    cases rv with
    | fz d =>
      cases d with
      | bl c =>
        intro v H' F' L' Lr I' s n r nd fr
        obtain ⟨rfl, r⟩ := r
        cases r
        exact ⟨c, rfl, q H' F' L' I' s n⟩
      | _ => exact q.elim
    | _ => exact q.elim
theorem mt_val {m : DEnv → ER} (h : ME X W R P a m) (he : ∀ whole, isTrue a X.env whole = (do let v ← whole; standAt a.pos; holding [v] (truthy v)) := by intro _; rfl) : MT X W R P a (dTst m) := by
  intro G H F σ env L Q I q
  exact wt_of (pt_val pe_w he) (h G H F σ env L _ I (tst_post q))
theorem mt_cmp {op : CmpOp} {ma mb : DEnv → ER} {g : List D → Option Val} (ho : OpR X (compareOp op) (r2G X.K g)) (ha : ME X W R P a ma) (hb : ME X W R P b mb) (hm : behindInMarks op b = false := by first | rfl | exact nomark _) : MT X W R P (.Compare a [op] [b] pos) (dTst (dPrim g [ma, mb])) := by
  intro G H F σ env L Q I q
  exact wt_of (pt_cmpR ho pe_w pe_w hm) (two ha hb I (tst_post q))
theorem mt_bind {m : DEnv → TR} {f : Bool → DEnv → TR} {G H F : Hp} {σ : St} {env : DEnv} {L : List Addr} {Q Q' : Bool → Hp → Prop} (h : MT X W R P a m) (I : FI X.K R P G H F σ env L) (q : PostT X W R P G F σ ((m env).bind f) Q')
    (k : ∀ c env' H' F' L', m env = .ok c env' → FI X.K R P G H' F' σ env' L' → Same F F' → NewF G F F' → PostT X W R P G F' σ (f c env') Q' → Q c H') : tWt X a σ H Q := by
  refine h G H F σ env L Q I ?_
  cases e : m env with
  | err => rw [e] at q; exact q
  | raise c env' => rw [e] at q; exact q
  | ok c env' => rw [e] at q; exact fun H' F' L' I' s n => k c env' H' F' L' e I' s n (PostT.later s n q)
theorem PostT.now {G H F : Hp} {σ : St} {env : DEnv} {L : List Addr} {Q : Bool → Hp → Prop} {c : Bool} (I : FI X.K R P G H F σ env L) (h : PostT X W R P G F σ (.ok c env) Q) : Q c H := h H F L I (Same.refl F) NewF.refl
theorem mt_not {m : DEnv → TR} (h : MT X W R P a m) : MT X W R P (.UnaryOp .Not a pos) (dNotT m) := by
  intro G H F σ env L Q I q
  exact wt_of (pt_not pt_w) (mt_bind h I q fun c env' H' F' L' _ I' s n q' => PostT.now I' q')
theorem mw_and1 {m : DEnv → TR} (h : MT X W R P a m) : MW X W R P (.BoolOp .And [a] pos) m := fun G H F σ env L Q I q => ww_of (pw_and1 pt_w) (h G H F σ env L Q I q)
theorem mw_or1 {m : DEnv → TR} (h : MT X W R P a m) : MW X W R P (.BoolOp .Or [a] pos) m := fun G H F σ env L Q I q => ww_of (pw_or1 pt_w) (h G H F σ env L Q I q)
theorem mw_and {ma mb : DEnv → TR} (h : MT X W R P a ma) (h2 : MW X W R P (.BoolOp .And (b :: rest) pos) mb) : MW X W R P (.BoolOp .And (a :: b :: rest) pos) (dAndT ma mb) := by
  intro G H F σ env L Q I q
  refine ww_of (pw_and pt_w pw_w) ?_
  refine mt_bind h I q fun c env' H' F' L' _ I' s n q' => ?_
  cases c with
  | true => exact iteT (h2 G H' F' σ env' L' Q I' q')
  | false => exact iteF (PostT.now I' q')
theorem mw_or {ma mb : DEnv → TR} (h : MT X W R P a ma) (h2 : MW X W R P (.BoolOp .Or (b :: rest) pos) mb) : MW X W R P (.BoolOp .Or (a :: b :: rest) pos) (dOrT ma mb) := by
  intro G H F σ env L Q I q
  refine ww_of (pw_or pt_w pw_w) ?_
  refine mt_bind h I q fun c env' H' F' L' _ I' s n q' => ?_
  cases c with
  | true => exact iteT (PostT.now I' q')
  | false => exact iteF (h2 G H' F' σ env' L' Q I' q')
theorem mt_w {m : DEnv → TR} (h : MW X W R P a m) : MT X W R P a m := fun G H F σ env L Q I q pins s J => h G H F σ env L Q I q _ pins s J
end
def dNotV (m : DEnv → ER) : DEnv → ER := fun env => (dTst m env).thenE fun b e => .ok (.fz (.bl (!b))) e
def dAndV (ma mb : DEnv → ER) : DEnv → ER := fun env => (dTst ma env).thenE fun b e => if b then mb e else .ok (.fz (.bl false)) e
def dOrV (ma mb : DEnv → ER) : DEnv → ER := fun env => (dTst ma env).thenE fun b e => if b then .ok (.fz (.bl true)) e else mb e
def dIfE (mc : DEnv → TR) (ma mb : DEnv → ER) : DEnv → ER := fun env => (mc env).thenE fun b e => if b then ma e else mb e
section
variable {X : Cx} {W : WX} {R : Hp} {P : List (Option V)} {a b c : Expr} {rest : List Expr} {pos : Pos}
theorem mv_bind {m : DEnv → ER} {f : Bool → DEnv → ER} {G H F : Hp} {σ : St} {env : DEnv} {L : List Addr} {Q Q' : VK} (h : ME X W R P a m) (I : FI X.K R P G H F σ env L) (q : PostV X W R P G F σ ((dTst m env).thenE f) Q')
    (k : ∀ c env' H' F' L', FI X.K R P G H' F' σ env' L' → Same F F' → NewF G F F' → PostV X W R P G F' σ (f c env') Q' → Q (.bl c) H') : tW X a σ H Q := by
  refine h G H F σ env L Q I ?_
  unfold dTst at q
  cases e : m env with
  | err => rw [e] at q; exact q
  | raise c env' => rw [e] at q; exact q
  | ok rv env' =>
    rw [e] at q
    cases rv with
    | fz d =>
      cases d with
      | bl c =>
        intro v H' F' L' Lr I' s n r nd fr
        obtain ⟨rfl, r⟩ := r
        cases r
        exact k c env' H' F' L' I' s n (PostV.later s n q)
      | _ => exact q.elim
    | _ => exact q.elim
theorem PostV.now {G H F : Hp} {σ : St} {env : DEnv} {L : List Addr} {Q : VK} {d : D} {v : V} (I : FI X.K R P G H F σ env L) (h : PostV X W R P G F σ (.ok (.fz d) env) Q) (r : Rep X.K F v d) : Q v H := POk.now h I r
theorem me_not {m : DEnv → ER} (h : ME X W R P a m) : ME X W R P (.UnaryOp .Not a pos) (dNotV m) := by
  intro G H F σ env L Q I q
  exact w_of (pe_not pe_w) (mv_bind h I q fun c env' H' F' L' I' s n q' => ⟨c, rfl, PostV.now I' q' (.bl _)⟩)
theorem me_one {op} {m : DEnv → ER} (h : ME X W R P a m) : ME X W R P (.BoolOp op [a] pos) m := fun G H F σ env L Q I q => w_of (pe_one pe_w) (h G H F σ env L Q I q)
theorem me_and {ma mb : DEnv → ER} (h : ME X W R P a ma) (h2 : ME X W R P (.BoolOp .And (b :: rest) pos) mb) : ME X W R P (.BoolOp .And (a :: b :: rest) pos) (dAndV ma mb) := by
  intro G H F σ env L Q I q
  refine w_of (pe_and pe_w pe_w) ?_
  refine mv_bind h I q fun c env' H' F' L' I' s n q' => ⟨c, rfl, ?_⟩
  cases c with
  | true => exact iteT (h2 G H' F' σ env' L' Q I' q')
  | false => exact iteF (PostV.now I' q' (.bl _))
theorem me_or {ma mb : DEnv → ER} (h : ME X W R P a ma) (h2 : ME X W R P (.BoolOp .Or (b :: rest) pos) mb) : ME X W R P (.BoolOp .Or (a :: b :: rest) pos) (dOrV ma mb) := by
  intro G H F σ env L Q I q
  refine w_of (pe_or pe_w pe_w) ?_
  refine mv_bind h I q fun c env' H' F' L' I' s n q' => ⟨c, rfl, ?_⟩
  cases c with
  | true => exact iteT (PostV.now I' q' (.bl _))
  | false => exact iteF (h2 G H' F' σ env' L' Q I' q')
theorem me_ifE {mc : DEnv → TR} {ma mb : DEnv → ER} (hc : MT X W R P c mc) (h : ME X W R P a ma) (h2 : ME X W R P b mb) : ME X W R P (.IfExp c a b pos) (dIfE mc ma mb) := by
  intro G H F σ env L Q I q
  refine w_of (pe_ifExp pt_w pe_w pe_w) ?_
  refine hc G H F σ env L _ I ?_
  unfold dIfE at q
  cases e : mc env with
  | err => rw [e] at q; exact q
  | raise c env' => rw [e] at q; exact q
  | ok c env' =>
    rw [e] at q
    intro H' F' L' I' s n
    have q' := PostV.later s n q
    cases c with
    | true => exact iteT (h G H' F' σ env' L' Q I' q')
    | false => exact iteF (h2 G H' F' σ env' L' Q I' q')
end

/-! ### statements -/
def NOk (X : Cx) (R : Hp) (P : List (Option V)) (G F : Hp) (env : DEnv) (k : St → Hp → Prop) : Prop :=
  ∀ (σ' : St) (H' F' : Hp) (L' : List Addr), FI X.K R P G H' F' σ' env L' → Same F F' → NewF G F F' → k σ' H'
def PostS (X : Cx) (W : WX) (R : Hp) (P : List (Option V)) (G F : Hp) (r : FR) (D : Ends) : Prop := match r with
  | .next env => NOk X R P G F env D.nx
  | .brk env => NOk X R P G F env D.bk
  | .cnt env => NOk X R P G F env D.ct
  | .ret rv env => ∀ (v : V) (σ' : St) (H' F' : Hp) (L' Lr : List Addr), FI X.K R P G H' F' σ' env L' → Same F F' → NewF G F F' → RepVal X.K H' F' σ' v rv Lr → (Lr ++ L').Nodup → (∀ a ∈ Lr, F' a = none ∧ G a = none) → D.rt v H'
  | .raise c env => ∀ (C : Addr) (σ' : St) (H' F' : Hp) (L' : List Addr), X.mg c = some (.ref C) → FI X.K R P G H' F' σ' env L' → Same F F' → NewF G F F' → W (.ref C) none σ' H'
  | .err => False
def MS (X : Cx) (W : WX) (R : Hp) (P : List (Option V)) (st : Stmt) (m : DEnv → FR) : Prop :=
  ∀ (G H F : Hp) (σ : St) (env : DEnv) (L : List Addr) (D : Ends), FI X.K R P G H F σ env L → PostS X W R P G F (m env) D → tWs X st D σ H
def MSs (X : Cx) (W : WX) (R : Hp) (P : List (Option V)) (st : List Stmt) (m : DEnv → FR) : Prop :=
  ∀ (G H F : Hp) (σ : St) (env : DEnv) (L : List Addr) (D : Ends), FI X.K R P G H F σ env L → PostS X W R P G F (m env) D → tWss X st D σ H
section
variable {X : Cx} {W : WX} {R : Hp} {P : List (Option V)} {pos : Pos} {st : Stmt} {sts : List Stmt}
theorem PostS.later {G F F' : Hp} {r : FR} {D : Ends} (e : Same F F') (n : NewF G F F') (h : PostS X W R P G F r D) : PostS X W R P G F' r D := by
  cases r with
  | next env => exact fun σ' H' F'' L' I s n' => h σ' H' F'' L' I (e.trans s) (n.trans n')
  | brk env => exact fun σ' H' F'' L' I s n' => h σ' H' F'' L' I (e.trans s) (n.trans n')
  | cnt env => exact fun σ' H' F'' L' I s n' => h σ' H' F'' L' I (e.trans s) (n.trans n')
  | ret rv env => exact fun v σ' H' F'' L' Lr I s n' r nd fr => h v σ' H' F'' L' Lr I (e.trans s) (n.trans n') r nd fr
  | raise c env => exact fun C σ' H' F'' L' g I s n' => h C σ' H' F'' L' g I (e.trans s) (n.trans n')
  | err => exact h
theorem PostS.less {G G' F : Hp} {r : FR} {D : Ends} (gg : Same G G') (rg : Same R G) (h : PostS X W R P G F r D) : PostS X W R P G' F r D := by
  have nf : ∀ a, G' a = none → G a = none := fun a => gg.free
  cases r with
  | next env => exact fun σ' H' F'' L' I s n' => h σ' H' F'' L' (I.less gg rg) s (n'.less nf)
  | brk env => exact fun σ' H' F'' L' I s n' => h σ' H' F'' L' (I.less gg rg) s (n'.less nf)
  | cnt env => exact fun σ' H' F'' L' I s n' => h σ' H' F'' L' (I.less gg rg) s (n'.less nf)
  | ret rv env => exact fun v σ' H' F'' L' Lr I s n' r nd fr => h v σ' H' F'' L' Lr (I.less gg rg) s (n'.less nf) r nd fun a ha => ⟨(fr a ha).1, nf a (fr a ha).2⟩
  | raise c env => exact fun C σ' H' F'' L' g I s n' => h C σ' H' F'' L' g (I.less gg rg) s (n'.less nf)
  | err => exact h
/-- other ends, where these say more -/
theorem PostS.ends {G F : Hp} {r : FR} {D D' : Ends} (h : PostS X W R P G F r D) (n : ∀ σ H, D.nx σ H → D'.nx σ H) (rt : ∀ v H, D.rt v H → D'.rt v H) (bk : ∀ σ H, D.bk σ H → D'.bk σ H) (ct : ∀ σ H, D.ct σ H → D'.ct σ H) : PostS X W R P G F r D' := by
  cases r with
  | next env => exact fun σ' H' F'' L' I s n' => n _ _ (h σ' H' F'' L' I s n')
  | brk env => exact fun σ' H' F'' L' I s n' => bk _ _ (h σ' H' F'' L' I s n')
  | cnt env => exact fun σ' H' F'' L' I s n' => ct _ _ (h σ' H' F'' L' I s n')
  | ret rv env => exact fun v σ' H' F'' L' Lr I s n' r nd fr => rt _ _ (h v σ' H' F'' L' Lr I s n' r nd fr)
  | raise c env => exact h
  | err => exact h
theorem NOk.now {G H F : Hp} {σ : St} {env : DEnv} {L : List Addr} {k : St → Hp → Prop} (I : FI X.K R P G H F σ env L) (h : NOk X R P G F env k) : k σ H := h σ H F L I (Same.refl F) NewF.refl
theorem mss_nil : MSs X W R P [] (fun env => .next env) := fun G H F σ env L D I q => wss_of pss_nil (NOk.now I q)
def dSeq (ma mb : DEnv → FR) : DEnv → FR := fun env => (ma env).bind mb
theorem mss_cons {ma mb : DEnv → FR} (h : MS X W R P st ma) (h2 : MSs X W R P sts mb) : MSs X W R P (st :: sts) (dSeq ma mb) := by
  intro G H F σ env L D I q
  refine wss_of (pss_cons ps_w pss_w) ?_
  refine h G H F σ env L _ I ?_
  unfold dSeq at q
  cases e : ma env with
  | next env' => rw [e] at q; exact fun σ' H' F' L' I' s n => h2 G H' F' σ' env' L' D I' (PostS.later s n q)
  | brk env' => rw [e] at q; exact q
  | cnt env' => rw [e] at q; exact q
  | ret rv env' => rw [e] at q; exact q
  | raise c env' => rw [e] at q; exact q
  | err => rw [e] at q; exact q
theorem mss_one {ma : DEnv → FR} (h : MS X W R P st ma) : MSs X W R P [st] ma := by
  intro G H F σ env L D I q
  exact wss_of (pss_one ps_w) (h G H F σ env L D I q)
/-- an expression, then a statement's rest -/
theorem me_thn {e : Expr} {m : DEnv → ER} {f : Val → DEnv → FR} {G H F : Hp} {σ : St} {env : DEnv} {L : List Addr} {Q : VK} {D : Ends} (h : ME X W R P e m) (I : FI X.K R P G H F σ env L) (q : PostS X W R P G F ((m env).thn f) D)
    (k : ∀ rv env' v H' F' L' Lr, FI X.K R P G H' F' σ env' L' → Same F F' → NewF G F F' → RepVal X.K H' F' σ v rv Lr → (Lr ++ L').Nodup → (∀ a ∈ Lr, F' a = none ∧ G a = none) → PostS X W R P G F' (f rv env') D → Q v H') : tW X e σ H Q := by
  refine h G H F σ env L Q I ?_
  cases em : m env with
  | err => rw [em] at q; exact q
  | raise c env' => rw [em] at q; exact fun C H' F' L' g I' s n => q C σ H' F' L' g I' s n
  | ok rv env' => rw [em] at q; exact fun v H' F' L' Lr I' s n r nd fr => k rv env' v H' F' L' Lr I' s n r nd fr (PostS.later s n q)
def dDrop (m : DEnv → ER) : DEnv → FR := fun env => (m env).thn fun _ e => .next e
theorem ms_expr {e : Expr} {m : DEnv → ER} (h : ME X W R P e m) (hs : swapsWith e none pos.line X.env = pure false := by rfl) : MS X W R P (.Expr e pos) (dDrop m) := by
  intro G H F σ env L D I q
  exact ws_of (ps_expr pe_w hs) (me_thn h I q fun rv env' v H' F' L' Lr I' s n r nd fr q' => NOk.now I' q')
theorem ms_doc {x j pos'} : MS X W R P (.Expr (.Constant (.str x) j pos) pos') (fun env => .next env) := fun G H F σ env L D I q => ws_of ps_doc (NOk.now I q)
theorem ms_pass : MS X W R P (.Pass pos) (fun env => .next env) := fun G H F σ env L D I q => ws_of ps_pass (NOk.now I q)
theorem ms_break : MS X W R P (.Break pos) (fun env => .brk env) := fun G H F σ env L D I q => ws_of ps_break (NOk.now I q)
theorem ms_continue : MS X W R P (.Continue pos) (fun env => .cnt env) := fun G H F σ env L D I q => ws_of ps_continue (NOk.now I q)
def dRet (m : DEnv → ER) : DEnv → FR := fun env => (m env).thn fun v e => .ret v e
theorem ms_ret {e : Expr} {m : DEnv → ER} (h : ME X W R P e m) : MS X W R P (.Return (some e) pos) (dRet m) := by
  intro G H F σ env L D I q
  exact ws_of (ps_ret pe_w) (me_thn h I q fun rv env' v H' F' L' Lr I' s n r nd fr q' => q' v σ H' F' L' Lr I' (Same.refl F') NewF.refl r nd fr)
theorem ms_retN : MS X W R P (.Return none pos) (fun env => .ret (.fz .non) env) := fun G H F σ env L D I q => ws_of ps_retN (q .non σ H F L [] I (Same.refl F) NewF.refl ⟨rfl, .non⟩ I.disj fun _ z => nomatch z)
def dIf (mc : DEnv → TR) (ma mb : DEnv → FR) : DEnv → FR := fun env => (mc env).thn fun b e => if b then ma e else mb e
theorem ms_if {c : Expr} {a b : List Stmt} {mc : DEnv → TR} {ma mb : DEnv → FR} (hc : MT X W R P c mc) (ha : MSs X W R P a ma) (hb : MSs X W R P b mb) : MS X W R P (.If c a b pos) (dIf mc ma mb) := by
  intro G H F σ env L D I q
  refine ws_of (ps_if pt_w pss_w pss_w) ?_
  refine hc G H F σ env L _ I ?_
  unfold dIf at q
  cases e : mc env with
  | err => rw [e] at q; exact q
  | raise c env' => rw [e] at q; exact fun C H' F' L' g I' s n => q C σ H' F' L' g I' s n
  | ok c env' =>
    rw [e] at q
    intro H' F' L' I' s n
    have q' := PostS.later s n q
    cases c with
    | true => exact iteT (ha G H' F' σ env' L' D I' q')
    | false => exact iteF (hb G H' F' σ env' L' D I' q')

/-! ### assignment -/
/-- a slot is stored -/
def putRaw (env : DEnv) (i : Nat) : Val → Option DEnv
  | .fz d => some (env.set i (.v .fz d))
  | .tmp d => some (env.set i (.v .ow d))
  | .br j => match env[j]? with
    | some (.v .rd d) => some (env.set i (.v .rd d))
    | _ => match frzV env (.br j) with
      | some (d, env') => some (env'.set i (.v .fz d))
      | none => none
def putV (env : DEnv) (i : Nat) (rv : Val) : Option DEnv := match env[i]? with
  | some (.v .io _) => none
  | some .pin => none
  | none => none
  | _ => putRaw env i rv
theorem getElem?_lt {α : Type} {l : List α} {i : Nat} {x : α} (h : l[i]? = some x) : i < l.length := (List.getElem?_eq_some_iff.mp h).1
theorem FI.putFz {G H F : Hp} {σ : St} {env : DEnv} {L : List Addr} {i : Nat} {v : V} {d : D} (I : FI X.K R P G H F σ env L) (r : Rep X.K F v d) (hi : i < env.length) :
    ∃ L', FI X.K R P G H F (σ.set i (some v)) (env.set i (.v .fz d)) L' ∧ ∀ a ∈ L', a ∈ L := by
  obtain ⟨L', e, m, n⟩ := I.er.set (Lr := []) (o := some v) (s := .v .fz d) (fun _ _ _ _ t => .fz r t) hi
  have m' : ∀ a ∈ L', a ∈ L := fun a ha => (m a ha).elim (fun z => nomatch z) id
  exact ⟨L', ⟨I.fh, I.gh, I.rg, e, n (by simpa using I.nd), fun a ha => I.fr a (m' a ha)⟩, m'⟩
theorem putV_ok {G H F : Hp} {σ : St} {env env' : DEnv} {L Lr : List Addr} {i : Nat} {v : V} {rv : Val} (I : FI X.K R P G H F σ env L) (r : RepVal X.K H F σ v rv Lr) (nd : (Lr ++ L).Nodup) (fr : ∀ a ∈ Lr, F a = none ∧ G a = none) (e : putV env i rv = some env') :
    ∃ F' L', FI X.K R P G H F' (σ.set i (some v)) env' L' ∧ Same F F' ∧ NewF G F F' := by
  unfold putV at e
  have main : i < env.length → putRaw env i rv = some env' → ∃ F' L', FI X.K R P G H F' (σ.set i (some v)) env' L' ∧ Same F F' ∧ NewF G F F' := by
    intro hi e
    cases rv with
    | fz d =>
      cases e
      obtain ⟨L', I', _⟩ := I.putFz r.2 hi
      exact ⟨F, L', I', Same.refl F, NewF.refl⟩
    | tmp d =>
      cases e
      obtain ⟨L', e, m, n⟩ := I.er.set (Lr := Lr) (o := some v) (s := .v .ow d) (fun _ _ _ _ t => .ow r t) hi
      refine ⟨F, L', ⟨I.fh, I.gh, I.rg, e, n nd, fun a ha => (m a ha).elim (fr a) (I.fr a)⟩, Same.refl F, NewF.refl⟩
    | br j =>
      cases ej : env[j]? with
      | none => simp only [putRaw, ej, frzV] at e; cases e
      | some s =>
        have frz : (match frzV env (.br j) with | some (d, env') => some (env'.set i (.v .fz d)) | none => none) = some env' → ∃ F' L', FI X.K R P G H F' (σ.set i (some v)) env' L' ∧ Same F F' ∧ NewF G F F' := by
          intro e
          cases q : frzV env (.br j) with
          | none => rw [q] at e; cases e
          | some p =>
            obtain ⟨d, env1⟩ := p
            rw [q] at e
            cases e
            obtain ⟨F', L', I', ff, nf, r', _, _⟩ := frzV_ok I r nd fr q
            have hl : env1.length = env.length := by rw [← I'.er.len, I.er.len]
            obtain ⟨L2, I2, _⟩ := I'.putFz (i := i) r' (by rw [hl]; exact hi)
            exact ⟨F', L2, I2, ff, nf⟩
        cases s with
        | un => simp only [putRaw, ej] at e; exact frz e
        | pin => simp only [putRaw, ej] at e; exact frz e
        | v m d =>
          cases m with
          | fz => simp only [putRaw, ej] at e; exact frz e
          | ow => simp only [putRaw, ej] at e; exact frz e
          | io => simp only [putRaw, ej] at e; exact frz e
          | rd =>
            simp only [putRaw, ej] at e
            cases e
            -- an alias of what is read
            have rr : RepH X.K R F v d := by
              obtain ⟨_, rs⟩ := r
              have go : ∀ {P : List (Option V)} {σ : St} {env : DEnv} {L : List Addr}, EnvR X.K R H F P σ env L → ∀ {j : Nat}, env[j]? = some (.v .rd d) → σ[j]? = some (some v) → RepH X.K R F v d := by
                intro P σ env L h
                induction h with
                | nil => intro j a b; simp at a
                | un t ih => intro j a b; cases j with
                  | zero => simp at a
                  | succ j => exact ih (by simpa using a) (by simpa using b)
                | pin p t ih => intro j a b; cases j with
                  | zero => simp at a
                  | succ j => exact ih (by simpa using a) (by simpa using b)
                | fz r t ih => intro j a b; cases j with
                  | zero => simp at a
                  | succ j => exact ih (by simpa using a) (by simpa using b)
                | rd r t ih => intro j a b; cases j with
                  | zero => simp at a b; subst a; subst b; exact r
                  | succ j => exact ih (by simpa using a) (by simpa using b)
                | ow r t ih => intro j a b; cases j with
                  | zero => simp at a
                  | succ j => exact ih (by simpa using a) (by simpa using b)
                | io p r t ih => intro j a b; cases j with
                  | zero => simp at a
                  | succ j => exact ih (by simpa using a) (by simpa using b)
              exact go I.er ej rs
            obtain ⟨L', e, m, n⟩ := I.er.set (Lr := []) (o := some v) (s := .v .rd d) (fun _ _ _ _ t => .rd rr t) hi
            have m' : ∀ a ∈ L', a ∈ L := fun a ha => (m a ha).elim (fun z => nomatch z) id
            exact ⟨F, L', ⟨I.fh, I.gh, I.rg, e, n (by simpa using I.nd), fun a ha => I.fr a (m' a ha)⟩, Same.refl F, NewF.refl⟩
  cases ei : env[i]? with
  | none => rw [ei] at e; cases e
  | some s =>
    have hi := getElem?_lt ei
    rw [ei] at e
    cases s with
    | un => exact main hi e
    | pin => cases e
    | v m d => cases m <;> first | (cases e; done) | exact main hi e
def dSet (i : Nat) (m : DEnv → ER) : DEnv → FR := fun env => (m env).thn fun rv e => match putV e i rv with
  | some e' => .next e'
  | none => .err
theorem ms_set {i : Nat} {x : Str} {e : Expr} {m : DEnv → ER} {pos' : Pos} (hN : X.N.Nodup) (h : ME X W R P e m) (hi : X.N[i]? = some x := by rfl) (hx : Loc X.env.scope x := by first | exact .inl rfl | exact .inr rfl) (hs : swapsWith e (some (.Name x pos')) pos.line X.env = pure false := by rfl)
    (hf : X.fn x = true ∨ X.env.scope.names.lookup x = some .local := by first | exact .inl rfl | exact .inr rfl | assumption) : MS X W R P (.Assign [.Name x pos'] e pos) (dSet i m) := by
  intro G H F σ env L D I q
  refine ws_of (ps_set hN hi hx pe_w hs hf) ?_
  refine me_thn h I q fun rv env' v H' F' L' Lr I' s n r nd fr q' => ?_
  cases ep : putV env' i rv with
  | none => rw [ep] at q'; exact q'.elim
  | some e2 =>
    rw [ep] at q'
    obtain ⟨F2, L2, I2, ff, nf⟩ := putV_ok I' r nd fr ep
    exact q' _ _ F2 L2 I2 ff nf

/-! ### targets -/
def tWg (X : Cx) (tg : Expr) : TG := fun v σ H Q => ∀ (pins : List (Addr × Obj)) (s : Shared) (u : Value), Inv X pins σ H s → RelV v u → wpAny (model X.prog X.w) X.A (assign tg X.env u) (fun _ s' => ∃ σ' H', Inv X pins σ' H' s' ∧ Q σ' H') X.xe s
theorem pg_w {tg : Expr} : PG X tg (tWg X tg) := ⟨fun pins s σ H v u Q I r h => h pins s u I r⟩
theorem wg_of {tg : Expr} {g : TG} {v : V} {σ : St} {H : Hp} {Q : St → Hp → Prop} (h : PG X tg g) (q : g v σ H Q) : tWg X tg v σ H Q := fun pins s u I r => h.run pins s σ H v u Q I r q
def MG (X : Cx) (R : Hp) (P : List (Option V)) (tg : Expr) (t : D → DEnv → Option DEnv) : Prop :=
  ∀ (G H F : Hp) (σ : St) (env env' : DEnv) (L : List Addr) (v : V) (d : D) (k : St → Hp → Prop), FI X.K R P G H F σ env L → Rep X.K F v d → t d env = some env' → NOk X R P G F env' k → tWg X tg v σ H k
inductive MGs (X : Cx) (R : Hp) (P : List (Option V)) : List Expr → List (D → DEnv → Option DEnv) → Prop
  | nil : MGs X R P [] []
  | cons {e : Expr} {t : D → DEnv → Option DEnv} {es : List Expr} {ts : List (D → DEnv → Option DEnv)} (h : MG X R P e t) (r : MGs X R P es ts) : MGs X R P (e :: es) (t :: ts)
def gNm (i : Nat) : D → DEnv → Option DEnv := fun d env => putV env i (.fz d)
theorem mg_name {i : Nat} {x : Str} (hN : X.N.Nodup) (hi : X.N[i]? = some x := by rfl) (hx : Loc X.env.scope x := by first | exact .inl rfl | exact .inr rfl) (hf : X.fn x = true ∨ X.env.scope.names.lookup x = some .local := by first | exact .inl rfl | exact .inr rfl | assumption) :
    MG X R P (.Name x pos) (gNm i) := by
  intro G H F σ env env' L v d k I r e q
  refine wg_of (pg_name hN hi hx hf) ?_
  obtain ⟨F2, L2, I2, ff, nf⟩ := putV_ok I (rv := .fz d) (Lr := []) ⟨rfl, r⟩ I.disj (fun _ z => nomatch z) e
  exact q _ _ F2 L2 I2 ff nf
def gEach : List (D → DEnv → Option DEnv) → List D → DEnv → Option DEnv
  | [], [], env => some env
  | t :: ts, d :: ds, env => match t d env with
    | some env' => gEach ts ds env'
    | none => none
  | _, _, _ => none
def gTp (ts : List (D → DEnv → Option DEnv)) : D → DEnv → Option DEnv := fun d env => match d with
  | .tup ds => gEach ts ds env
  | _ => none
def gLs (ts : List (D → DEnv → Option DEnv)) : D → DEnv → Option DEnv := fun d env => match d with
  | .lst ds => gEach ts ds env
  | _ => none
def tWgs (X : Cx) : List Expr → TGs
  | [] => gNil
  | e :: es => gCons (tWg X e) (tWgs X es)
theorem mgs_ok {es : List Expr} {ts : List (D → DEnv → Option DEnv)} (h : MGs X R P es ts) : ∀ {G H F : Hp} {σ : St} {env env' : DEnv} {L : List Addr} {vs : List V} {ds : List D} {k : St → Hp → Prop}, FI X.K R P G H F σ env L → Reps X.K F vs ds → gEach ts ds env = some env' → NOk X R P G F env' k → tWgs X es vs σ H k ∧ vs.length = es.length := by
  induction h with
  | nil =>
    intro G H F σ env env' L vs ds k I r e q
    cases ds with
    | nil => cases e; cases vs with
      | nil => exact ⟨⟨rfl, NOk.now I q⟩, rfl⟩
      | cons v vs => have := r.1; simp at this
    | cons d ds => cases e
  | @cons e0 t es ts h hr ih =>
    intro G H F σ env env' L vs ds k I r e q
    cases ds with
    | nil => cases e
    | cons d ds =>
      cases vs with
      | nil => have := r.1; simp at this
      | cons v vs =>
        unfold gEach at e
        cases e1 : t d env with
        | none => rw [e1] at e; cases e
        | some env1 =>
          rw [e1] at e
          have r0 := r.2 0 v d rfl rfl
          have rr : Reps X.K F vs ds := ⟨by have := r.1; simpa using this, fun i v x a b => r.2 (i + 1) v x (by simpa using a) (by simpa using b)⟩
          have hlen : ∀ (vs : List V) (es : List Expr), vs.length = es.length → (v :: vs).length = (e0 :: es).length := fun vs es h => by simp [h]
          have lenE : vs.length = es.length := by
            have l1 : ∀ {ts : List (D → DEnv → Option DEnv)} {ds : List D} {env env' : DEnv}, gEach ts ds env = some env' → ts.length = ds.length := by
              intro ts
              induction ts with
              | nil => intro ds env env' e; cases ds with
                | nil => rfl
                | cons => cases e
              | cons t ts ih => intro ds env env' e; cases ds with
                | nil => cases e
                | cons d ds =>
                  unfold gEach at e
                  cases q : t d env with
                  | none => rw [q] at e; cases e
                  | some z => rw [q] at e; simp [ih e]
            have l2 : ∀ {es : List Expr} {ts : List (D → DEnv → Option DEnv)}, MGs X R P es ts → es.length = ts.length := fun h => by
              induction h with
              | nil => rfl
              | cons _ _ ih => simp [ih]
            rw [rr.1, ← l1 e, l2 hr]
          refine ⟨⟨v, vs, rfl, h G H F σ env env1 L v d _ I r0 e1 fun σ' H' F' L' I' s n => ?_⟩, hlen _ _ lenE⟩
          exact (ih I' (rr.mono s) e (fun σ'' H'' F'' L'' J s' n' => q σ'' H'' F'' L'' J (s.trans s') (n.trans n'))).1
theorem mg_tup {es : List Expr} {k : Nat} {ts : List (D → DEnv → Option DEnv)} (hc : X.calm = true) (h : MGs X R P es ts) (hp : PGs X es (tWgs X es)) (hn : (assignEach es X.env).length = es.length := by rfl) (hst : (assignEach es X.env).findIdx? (·.1) = none := by rfl) : MG X R P (.Tuple es k pos) (gTp ts) := by
  intro G H F σ env env' L v d k I r e q
  refine wg_of (pg_tup hc hp hn hst) ?_
  cases r with
  | tup hs hl hi =>
    obtain ⟨q1, q2⟩ := mgs_ok h I ⟨hl, hi⟩ e q
    exact ⟨_, _, rfl, SqT.mono I.fh hs, q2, q1⟩
  | _ => cases e
theorem mg_lst {es : List Expr} {k : Nat} {ts : List (D → DEnv → Option DEnv)} (hc : X.calm = true) (h : MGs X R P es ts) (hp : PGs X es (tWgs X es)) (hn : (assignEach es X.env).length = es.length := by rfl) (hst : (assignEach es X.env).findIdx? (·.1) = none := by rfl) : MG X R P (.Tuple es k pos) (gLs ts) := by
  intro G H F σ env env' L v d k I r e q
  refine wg_of (pg_lst hc hp hn hst) ?_
  cases r with
  | lst hs hl hi =>
    obtain ⟨q1, q2⟩ := mgs_ok h I ⟨hl, hi⟩ e q
    exact ⟨_, _, rfl, .inl (Rd.mono I.fh hs), q2, q1⟩
  | _ => cases e
/-- a target that is no name: the value is laid down first -/
def dAsg (t : D → DEnv → Option DEnv) (m : DEnv → ER) : DEnv → FR := fun env => (m env).thn fun rv e => match frzV e rv with
  | some (d, e1) => match t d e1 with
    | some e2 => .next e2
    | none => .err
  | none => .err
theorem ms_asg {tg e : Expr} {m : DEnv → ER} {t : D → DEnv → Option DEnv} (h : ME X W R P e m) (hg : MG X R P tg t) (hs : swapsWithSole [tg] e pos.line X.env = pure false := by rfl) (hw : swappedStores [tg] e X.env = pure none := by rfl)
    (h1 : (assignEach [tg] X.env).map (·.2) = [assign tg X.env] := by rfl) : MS X W R P (.Assign [tg] e pos) (dAsg t m) := by
  intro G H F σ env L D I q
  refine ws_of (ps_asg pe_w pg_w hs hw h1) ?_
  refine me_thn h I q fun rv env' v H' F' L' Lr I' s n r nd fr q' => ?_
  cases ef : frzV env' rv with
  | none => rw [ef] at q'; exact q'.elim
  | some p =>
    obtain ⟨d, e1⟩ := p
    rw [ef] at q'
    dsimp only at q'
    cases et : t d e1 with
    | none => rw [et] at q'; exact q'.elim
    | some e2 =>
      rw [et] at q'
      obtain ⟨F2, L2, I2, ff, nf, r2, _, _⟩ := frzV_ok I' r nd fr ef
      exact hg G H' F2 σ e1 e2 L2 v d D.nx I2 r2 et (fun σ'' H'' F'' L'' J s' n' => q' σ'' H'' F'' L'' J (ff.trans s') (nf.trans n'))
/-- a, b = x, y with plain local names -/
def dPar (i j : Nat) (ma mb : DEnv → ER) : DEnv → FR := fun env => (mArgs [ma, mb] env).thn fun vs e => match vs with
  | [v, w] => match frzVs e [v, w] with
    | some ([d, d'], e1) => match putV e1 i (.fz d) with
      | some e2 => match putV e2 j (.fz d') with
        | some e3 => .next e3
        | none => .err
      | none => .err
    | _ => .err
  | _ => .err
end
end DX

namespace DX
open PySem PySem.Spec L2
open PyProof.Rows hiding St

def forget : List Nat → DEnv → DEnv
  | [], env => env
  | i :: is, env => forget is (env.set i .un)
/-- a for over data -/
def forL (t : D → DEnv → Option DEnv) (dead : List Nat) (body : DEnv → FR) : List D → DEnv → FR
  | [], env => .next (forget dead env)
  | x :: xs, env => match t x (forget dead env) with
    | none => .err
    | some e1 => match body e1 with
      | .next e2 => forL t dead body xs e2
      | .cnt e2 => forL t dead body xs e2
      | .brk e2 => .next (forget dead e2)
      | .ret v e2 => .ret v e2
      | .raise c e2 => .raise c e2
      | .err => .err
structure Walks (K : PySem.W.Frag) (J : It) (xs : List D) (G F0 : Hp) : Prop where
  go : ∀ i H, i < xs.length → Same G H → Same F0 H → J.go i H
  stop : ∀ i H, xs.length ≤ i → Same G H → Same F0 H → J.stop i H
  yld : ∀ i H F x H' d, Same G H → Same F0 F → Same F H → J.yld i H x H' → xs[i]? = some d → ∃ F', Same H H' ∧ Same F F' ∧ Same F' H' ∧ (∀ a, F' a ≠ none → F a ≠ none ∨ H a = none) ∧ Rep K F' x d
section
variable {X : Cx} {W : WX} {R : Hp} {P : List (Option V)} {pos : Pos} {G H F : Hp} {σ : St} {env : DEnv} {L : List Addr}
theorem FI.drop (I : FI X.K R P G H F σ env L) (i : Nat) : ∃ L', FI X.K R P G H F σ (env.set i .un) L' := by
  by_cases hi : i < env.length
  · have hs : i < σ.length := by rw [I.er.len]; exact hi
    obtain ⟨L', e, m, n⟩ := I.er.set (Lr := []) (o := σ[i]) (s := .un) (fun _ _ _ _ t => .un t) hi
    rw [List.set_getElem_self] at e
    have m' : ∀ a ∈ L', a ∈ L := fun a ha => (m a ha).elim (fun z => nomatch z) id
    exact ⟨L', I.fh, I.gh, I.rg, e, n (by simpa using I.nd), fun a ha => I.fr a (m' a ha)⟩
  · rw [List.set_eq_of_length_le (by omega)]
    exact ⟨L, I⟩
theorem FI.forget : ∀ {dead : List Nat} {env : DEnv} {L : List Addr}, FI X.K R P G H F σ env L → ∃ L', FI X.K R P G H F σ (DX.forget dead env) L'
  | [], env, L, I => ⟨L, I⟩
  | i :: is, env, L, I => let ⟨L', I'⟩ := I.drop i; I'.forget (dead := is)
theorem NOk.unforget {dead : List Nat} {k : St → Hp → Prop} (h : NOk X R P G F (forget dead env) k) : NOk X R P G F env k := fun σ' H' F' L' I s n =>
  let ⟨L2, I2⟩ := I.forget (dead := dead); h σ' H' F' L2 I2 s n
theorem for_go {J : It} {xs : List D} {t : D → DEnv → Option DEnv} {dead : List Nat} {mb : DEnv → FR} {tg : Expr} {body : List Stmt} {D : Ends} (Wk : Walks X.K J xs G F) (hg : MG X R P tg t) (hb : MSs X W R P body mb) (I : FI X.K R P G H F σ env L)
    (q : PostS X W R P G F (forL t dead mb xs env) D) :
    ∃ W' : Nat → Nat → St → Hp → Prop, (∃ m, W' 0 m σ H) ∧ ∀ i m σ H, W' i m σ H → (J.stop i H ∧ D.nx σ H) ∨ (J.go i H ∧ ∃ N : St → Hp → Prop, (∀ σ' H', N σ' H' → ∃ m', m' < m ∧ W' (i + 1) m' σ' H') ∧
      ∀ x H', J.yld i H x H' → tWg X tg x σ H' fun σ2 H2 => tWss X body { D with nx := N, ct := N, bk := D.nx } σ2 H2) := by
  refine ⟨fun i m σ H => m = xs.length - i ∧ i ≤ xs.length ∧ ∃ env F1 L, FI X.K R P G H F1 σ env L ∧ Same F F1 ∧ PostS X W R P G F1 (forL t dead mb (xs.drop i) env) D, ⟨_, rfl, Nat.zero_le _, env, F, L, I, Same.refl F, by simpa using q⟩, ?_⟩
  rintro i m σ H ⟨rfl, hi, env, F1, L, I, ff, q⟩
  by_cases hlt : i < xs.length
  · refine .inr ⟨Wk.go i H hlt I.gh (ff.trans I.fh), _, fun σ' H' (h : i + 1 ≤ xs.length ∧ ∃ env F1 L, FI X.K R P G H' F1 σ' env L ∧ Same F F1 ∧ PostS X W R P G F1 (forL t dead mb (xs.drop (i + 1)) env) D) => ⟨xs.length - (i + 1), by omega, rfl, h⟩, fun x H' y => ?_⟩
    have ed : xs.drop i = xs[i] :: xs.drop (i + 1) := List.drop_eq_getElem_cons hlt
    rw [ed] at q
    unfold forL at q
    obtain ⟨F2, hh, f2, fh2, nw2, r2⟩ := Wk.yld i H F1 x H' xs[i] I.gh ff I.fh y (List.getElem?_eq_getElem hlt)
    have I2 := I.ext hh f2 fh2 nw2
    have n2 := I.newF nw2
    obtain ⟨L3, I3⟩ := I2.forget (dead := dead)
    cases et : t xs[i] (forget dead env) with
    | none => rw [et] at q; exact q.elim
    | some e1 =>
      rw [et] at q
      dsimp only at q
      refine hg G H' F2 σ _ e1 L3 x xs[i] _ I3 r2 et fun σ4 H4 F4 L4 I4 s4 n4 => ?_
      refine hb G H4 F4 σ4 e1 L4 _ I4 ?_
      have s' := f2.trans s4
      have n' := n2.trans n4
      cases eb : mb e1 with
      | next e2 => rw [eb] at q; exact fun σ5 H5 F5 L5 I5 s5 n5 => ⟨hlt, e2, F5, L5, I5, (ff.trans s').trans s5, PostS.later (s'.trans s5) (n'.trans n5) q⟩
      | cnt e2 => rw [eb] at q; exact fun σ5 H5 F5 L5 I5 s5 n5 => ⟨hlt, e2, F5, L5, I5, (ff.trans s').trans s5, PostS.later (s'.trans s5) (n'.trans n5) q⟩
      | brk e2 => rw [eb] at q; exact NOk.unforget (dead := dead) (PostS.later (r := .next (forget dead e2)) s' n' q)
      | ret v e2 => rw [eb] at q; exact PostS.later (r := .ret v e2) s' n' q
      | raise c e2 => rw [eb] at q; exact PostS.later (r := .raise c e2) s' n' q
      | err => rw [eb] at q; exact q.elim
  · have e : i = xs.length := by omega
    subst e
    rw [List.drop_length] at q
    exact .inl ⟨Wk.stop _ H (Nat.le_refl _) I.gh (ff.trans I.fh), NOk.now I (NOk.unforget (dead := dead) q)⟩

/-! ### what is walked -/
theorem walks_list {K : PySem.W.Frag} {G F : Hp} {a : Addr} {vs : List V} {xs : List D} (hl : ∀ H, Same G H → Same F H → SqL K H a vs) (hr : Reps K F vs xs) : Walks K (Itl K a) xs G F where
  go := fun i H hi gh fh => ⟨vs, vs[i]'(by rw [hr.1]; exact hi), hl H gh fh, List.getElem?_eq_getElem _⟩
  stop := fun i H hi gh fh => ⟨vs, hl H gh fh, by rw [hr.1]; exact hi⟩
  yld := fun i H F1 x H' d gh f1 fh y e => by
    obtain ⟨rfl, y⟩ := y
    have ev := y vs (hl H' gh (f1.trans fh))
    exact ⟨F1, Same.refl _, Same.refl _, fh, fun a q => .inl q, (hr.2 i x d ev e).mono f1⟩
theorem walks_tup {K : PySem.W.Frag} {G F : Hp} {a : Addr} {vs : List V} {xs : List D} (hl : ∀ H, Same G H → Same F H → SqT K H a vs) (hr : Reps K F vs xs) : Walks K (Itt K a) xs G F where
  go := fun i H hi gh fh => ⟨vs, vs[i]'(by rw [hr.1]; exact hi), hl H gh fh, List.getElem?_eq_getElem _⟩
  stop := fun i H hi gh fh => ⟨vs, hl H gh fh, by rw [hr.1]; exact hi⟩
  yld := fun i H F1 x H' d gh f1 fh y e => by
    obtain ⟨rfl, y⟩ := y
    have ev := y vs (hl H' gh (f1.trans fh))
    exact ⟨F1, Same.refl _, Same.refl _, fh, fun a q => .inl q, (hr.2 i x d ev e).mono f1⟩
theorem walks_range {K : PySem.W.Frag} {G F : Hp} {lo : Int} {n : Nat} : Walks K (Itr lo n) ((List.range n).map fun k => D.int (lo + (k : Nat))) G F where
  go := fun i H hi _ _ => by show i < n; simpa using hi
  stop := fun i H hi _ _ => by show n ≤ i; simpa using hi
  yld := fun i H F1 x H' d gh f1 fh y e => by
    obtain ⟨rfl, rfl⟩ := y
    rw [List.getElem?_map] at e
    cases q : (List.range n)[i]? with
    | none => rw [q] at e; cases e
    | some k =>
      rw [q] at e
      cases e
      have : k = i := by
        obtain ⟨h1, h2⟩ := List.getElem?_eq_some_iff.mp q
        simpa using h2.symm
      subst this
      exact ⟨F1, Same.refl _, Same.refl _, fh, fun a q => .inl q, .int _⟩
/-- what is read without being one's own -/
def rdMode (env : DEnv) : Val → Option D
  | .br j => match env[j]? with
    | some (.v .rd d) => some d
    | _ => none
  | _ => none
/-- a list to be walked -/
def itL (env : DEnv) (rv : Val) : Option (List D × DEnv) := match rdMode env rv with
  | some (.lst xs) => some (xs, env)
  | _ => match frzV env rv with
    | some (.lst xs, e) => some (xs, e)
    | _ => none
def itT (env : DEnv) (rv : Val) : Option (List D × DEnv) := match frzV env rv with
  | some (.tup xs, e) => some (xs, e)
  | _ => none
theorem rd_slot {P : List (Option V)} {σ : St} {env : DEnv} {L : List Addr} {v : V} {d : D} (h : EnvR X.K R H F P σ env L) : ∀ {j : Nat}, env[j]? = some (.v .rd d) → σ[j]? = some (some v) → RepH X.K R F v d := by
  induction h with
  | nil => intro j a b; simp at a
  | un t ih => intro j a b; cases j with
    | zero => simp at a
    | succ j => exact ih (by simpa using a) (by simpa using b)
  | pin p t ih => intro j a b; cases j with
    | zero => simp at a
    | succ j => exact ih (by simpa using a) (by simpa using b)
  | fz r t ih => intro j a b; cases j with
    | zero => simp at a
    | succ j => exact ih (by simpa using a) (by simpa using b)
  | rd r t ih => intro j a b; cases j with
    | zero => simp at a b; subst a; subst b; exact r
    | succ j => exact ih (by simpa using a) (by simpa using b)
  | ow r t ih => intro j a b; cases j with
    | zero => simp at a
    | succ j => exact ih (by simpa using a) (by simpa using b)
  | io p r t ih => intro j a b; cases j with
    | zero => simp at a
    | succ j => exact ih (by simpa using a) (by simpa using b)
theorem itL_ok {Lr : List Addr} {v : V} {rv : Val} {xs : List D} {env' : DEnv} (I : FI X.K R P G H F σ env L) (r : RepVal X.K H F σ v rv Lr) (nd : (Lr ++ L).Nodup) (fr : ∀ a ∈ Lr, F a = none ∧ G a = none) (e : itL env rv = some (xs, env')) :
    ∃ a vs F' L', v = .ref a ∧ FI X.K R P G H F' σ env' L' ∧ Same F F' ∧ NewF G F F' ∧ Reps X.K F' vs xs ∧ ∀ H, Same G H → Same F' H → SqL X.K H a vs := by
  unfold itL at e
  have second : (match frzV env rv with | some (.lst xs, e) => some (xs, e) | _ => none) = some (xs, env') → ∃ a vs F' L', v = .ref a ∧ FI X.K R P G H F' σ env' L' ∧ Same F F' ∧ NewF G F F' ∧ Reps X.K F' vs xs ∧ ∀ H, Same G H → Same F' H → SqL X.K H a vs := by
    intro e
    cases q : frzV env rv with
    | none => rw [q] at e; cases e
    | some p =>
      obtain ⟨d, e1⟩ := p
      rw [q] at e
      cases d with
      | lst ys =>
        cases e
        obtain ⟨F', L', I', ff, nf, r', _, _⟩ := frzV_ok I r nd fr q
        cases r' with
        | lst h hl hi => exact ⟨_, _, F', L', rfl, I', ff, nf, ⟨hl, hi⟩, fun H _ fh => .inl (Rd.mono fh h)⟩
      | _ => cases e
  cases q : rdMode env rv with
  | none => rw [q] at e; exact second e
  | some d =>
    rw [q] at e
    cases d with
    | lst ys =>
      cases e
      cases rv with
      | br j =>
        simp only [rdMode] at q
        have ej : env[j]? = some (.v .rd (.lst xs)) := by
          split at q
          · rename_i h; cases q; exact h
          · cases q
        have rr := rd_slot I.er ej r.2
        cases rr with
        | lst h hi => exact ⟨_, _, F, L, rfl, I, Same.refl F, NewF.refl, hi, fun H gh _ => .inl (Rd.mono (I.rg.trans gh) h)⟩
      | _ => cases q
    | _ => exact second e
def dFor (it : DEnv → Val → Option (List D × DEnv)) (m : DEnv → ER) (t : D → DEnv → Option DEnv) (dead : List Nat) (mb : DEnv → FR) : DEnv → FR := fun env => (m env).thn fun rv e1 => match it e1 rv with
  | some (xs, e2) => forL t dead mb xs e2
  | none => .err
theorem ms_forL {iter tg : Expr} {body : List Stmt} {m : DEnv → ER} {t : D → DEnv → Option DEnv} {dead : List Nat} {mb : DEnv → FR} (hp : PassesOwn (model X.prog X.w) X.A X.env X.xe) (hc : X.calm = true) (hi : ME X W R P iter m) (hg : MG X R P tg t) (hb : MSs X W R P body mb)
    (hs : ∀ x, foldedSetIterable iter X.env x = pure x := by intro _; rfl) : MS X W R P (.For tg iter body [] pos) (dFor itL m t dead mb) := by
  intro G H F σ env L D I q
  refine ws_of (ps_for hp hc (pi_list pe_w) pg_w pss_w hs) ?_
  refine me_thn hi I q fun rv env' v H' F' L' Lr I' s n r nd fr q' => ?_
  cases e : itL env' rv with
  | none => rw [e] at q'; exact q'.elim
  | some p =>
    obtain ⟨xs, e2⟩ := p
    rw [e] at q'
    obtain ⟨a, vs, F2, L2, rfl, I2, ff, nf, hr, hl⟩ := itL_ok I' r nd fr e
    exact ⟨a, rfl, ⟨vs, hl H' I2.gh I2.fh⟩, for_go (walks_list hl hr) hg hb I2 (PostS.later ff nf q')⟩
theorem ms_forT {iter tg : Expr} {body : List Stmt} {m : DEnv → ER} {t : D → DEnv → Option DEnv} {dead : List Nat} {mb : DEnv → FR} (hp : PassesOwn (model X.prog X.w) X.A X.env X.xe) (hc : X.calm = true) (hi : ME X W R P iter m) (hg : MG X R P tg t) (hb : MSs X W R P body mb)
    (hs : ∀ x, foldedSetIterable iter X.env x = pure x := by intro _; rfl) : MS X W R P (.For tg iter body [] pos) (dFor itT m t dead mb) := by
  intro G H F σ env L D I q
  refine ws_of (ps_for hp hc (pi_tup pe_w) pg_w pss_w hs) ?_
  refine me_thn hi I q fun rv env' v H' F' L' Lr I' s n r nd fr q' => ?_
  unfold itT at q'
  cases e : frzV env' rv with
  | none => rw [e] at q'; exact q'.elim
  | some p =>
    obtain ⟨d, e2⟩ := p
    rw [e] at q'
    cases d with
    | tup xs =>
      obtain ⟨F2, L2, I2, ff, nf, r2, _, _⟩ := frzV_ok I' r nd fr e
      cases r2 with
      | tup h hl hi =>
        have hS : ∀ H, Same G H → Same F2 H → SqT X.K H _ _ := fun H _ fh => SqT.mono fh h
        exact ⟨_, rfl, ⟨_, hS H' I2.gh I2.fh⟩, for_go (walks_tup hS ⟨hl, hi⟩) hg hb I2 (PostS.later ff nf q')⟩
    | _ => exact q'.elim
noncomputable def dForR1 (m : DEnv → ER) (t : D → DEnv → Option DEnv) (dead : List Nat) (mb : DEnv → FR) : DEnv → FR := fun env => (m env).thn fun rv e1 => match rv with
  | .fz (.int j) => @ite _ (-(2 ^ 62) ≤ j ∧ j < 2 ^ 62) (Classical.propDecidable _) (forL t dead mb ((List.range j.toNat).map fun k => D.int (0 + (k : Nat))) e1) .err
  | _ => .err
theorem ms_forR1 {a tg : Expr} {body : List Stmt} {m : DEnv → ER} {t : D → DEnv → Option DEnv} {dead : List Nat} {mb : DEnv → FR} {p pos' : Pos} (hp : PassesOwn (model X.prog X.w) X.A X.env X.xe) (hc : X.calm = true) (hm : X.mg "range" = none) (hi : ME X W R P a m) (hg : MG X R P tg t) (hb : MSs X W R P body mb)
    (hgl : Gl X "range" := by rfl) (hst : starEach [a] X.env = [(false, eval a X.env)] := by rfl) (hs : ∀ x, foldedSetIterable (.Call (.Name "range" p) [a] [] pos') X.env x = pure x := by intro _; rfl) : MS X W R P (.For tg (.Call (.Name "range" p) [a] [] pos') body [] pos) (dForR1 m t dead mb) := by
  intro G H F σ env L D I q
  refine ws_of (ps_for hp hc (pi_range1 hgl hm (pa_cons pe_w pa_nil hst) hst) pg_w pss_w hs) ?_
  show tW X a σ H fun x H1 => _
  refine me_thn hi I q fun rv env' v H' F' L' Lr I' s n r nd fr q' => ?_
  cases rv with
  | fz d =>
    cases d with
    | int j =>
      obtain ⟨rfl, r⟩ := r
      cases r
      dsimp only at q'
      split at q'
      · rename_i hj
        refine ⟨j, rfl, hj.1, hj.2, for_go walks_range hg hb I' q'⟩
      · exact q'.elim
    | _ => exact q'.elim
  | _ => exact q'.elim
noncomputable def dForR2 (ma mb' : DEnv → ER) (t : D → DEnv → Option DEnv) (dead : List Nat) (mb : DEnv → FR) : DEnv → FR := fun env => (mArgs [ma, mb'] env).thn fun vs e1 => match vs with
  | [.fz (.int i), .fz (.int j)] => @ite _ (-(2 ^ 62) ≤ i ∧ i < 2 ^ 62 ∧ -(2 ^ 62) ≤ j ∧ j < 2 ^ 62) (Classical.propDecidable _) (forL t dead mb ((List.range (j - i).toNat).map fun k => D.int (i + (k : Nat))) e1) .err
  | _ => .err
theorem ms_forR2 {a b tg : Expr} {body : List Stmt} {ma mb' : DEnv → ER} {t : D → DEnv → Option DEnv} {dead : List Nat} {mb : DEnv → FR} {p pos' : Pos} (hp : PassesOwn (model X.prog X.w) X.A X.env X.xe) (hc : X.calm = true) (hm : X.mg "range" = none) (hi : ME X W R P a ma) (hi2 : ME X W R P b mb') (hg : MG X R P tg t) (hb : MSs X W R P body mb)
    (hgl : Gl X "range" := by rfl) (hst : starEach [a, b] X.env = [(false, eval a X.env), (false, eval b X.env)] := by rfl) (hst2 : starEach [b] X.env = [(false, eval b X.env)] := by rfl) (hs : ∀ x, foldedSetIterable (.Call (.Name "range" p) [a, b] [] pos') X.env x = pure x := by intro _; rfl) :
    MS X W R P (.For tg (.Call (.Name "range" p) [a, b] [] pos') body [] pos) (dForR2 ma mb' t dead mb) := by
  intro G H F σ env L D I q
  refine ws_of (ps_for hp hc (pi_range2 hgl hm (pa_cons pe_w (pa_cons pe_w pa_nil hst2) (hst.trans (by rw [hst2]))) hst hst2) pg_w pss_w hs) ?_
  show tWa X [a, b] σ H _
  refine run_args (.cons hi (.cons hi2 .nil)) I ?_
  unfold dForR2 at q
  cases e : mArgs [ma, mb'] env with
  | err => rw [e] at q; exact q
  | raise c env' => rw [e] at q; exact fun C H' F' L' g I' s n => q C σ H' F' L' g I' s n
  | ok rvs env' =>
    rw [e] at q
    intro vs H' F' L' Lr I' s n hs nd fr
    dsimp only [AR.thn] at q
    split at q
    · rename_i i j
      cases hs with
      | cons h1 t1 =>
        cases t1 with
        | cons h2 t2 =>
          cases t2
          obtain ⟨rfl, r1⟩ := h1
          obtain ⟨rfl, r2⟩ := h2
          cases r1; cases r2
          split at q
          · rename_i hj
            exact ⟨i, j, rfl, hj, for_go walks_range hg hb I' (PostS.later s n q)⟩
          · exact q.elim
    · exact q.elim

/-! ### while -/
def whileN (c : DEnv → TR) (dead : List Nat) (body : DEnv → FR) : Nat → DEnv → FR
  | 0, _ => .err
  | n + 1, env => match c (forget dead env) with
    | .ok true e1 => match body e1 with
      | .next e2 => whileN c dead body n e2
      | .cnt e2 => whileN c dead body n e2
      | .brk e2 => .next (forget dead e2)
      | .ret v e2 => .ret v e2
      | .raise x e2 => .raise x e2
      | .err => .err
    | .ok false e1 => .next (forget dead e1)
    | .raise x e1 => .raise x e1
    | .err => .err
open Classical in
noncomputable def dWhile (c : DEnv → TR) (dead : List Nat) (body : DEnv → FR) : DEnv → FR := fun env =>
  if h : ∃ n, whileN c dead body n env ≠ .err then whileN c dead body h.choose env else .err
theorem whileN_mono {c : DEnv → TR} {dead : List Nat} {body : DEnv → FR} : ∀ {n : Nat} {env : DEnv}, whileN c dead body n env ≠ .err → whileN c dead body (n + 1) env = whileN c dead body n env
  | 0, env, h => absurd rfl h
  | n + 1, env, h => by
    rw [whileN]
    rw [whileN] at h
    conv => rhs; rw [whileN]
    cases e : c (forget dead env) with
    | ok b e1 =>
      cases b with
      | false => rfl
      | true =>
        rw [e] at h
        dsimp only at h ⊢
        cases eb : body e1 with
        | next e2 => rw [eb] at h; exact whileN_mono h
        | cnt e2 => rw [eb] at h; exact whileN_mono h
        | _ => rfl
    | _ => rfl
theorem whileN_le {c : DEnv → TR} {dead : List Nat} {body : DEnv → FR} {n m : Nat} {env : DEnv} (h : whileN c dead body n env ≠ .err) (hm : n ≤ m) : whileN c dead body m env = whileN c dead body n env := by
  induction hm with
  | refl => rfl
  | step _ ih => rw [whileN_mono (by rw [ih]; exact h), ih]
/-- what a while gives, by any number of turns that is enough -/
theorem dWhile_of {c : DEnv → TR} {dead : List Nat} {body : DEnv → FR} {n : Nat} {env : DEnv} {r : FR} (h : whileN c dead body n env = r) (hr : r ≠ .err) : dWhile c dead body env = r := by
  have hex : ∃ n, whileN c dead body n env ≠ .err := ⟨n, by rw [h]; exact hr⟩
  unfold dWhile
  rw [dif_pos hex]
  have h1 := hex.choose_spec
  rcases Nat.le_total n hex.choose with q | q
  · rw [whileN_le (by rw [h]; exact hr) q, h]
  · rw [← whileN_le h1 q, h]
theorem ms_while {c : Expr} {body : List Stmt} {mc : DEnv → TR} {dead : List Nat} {mb : DEnv → FR} (hp : PassesOwn (model X.prog X.w) X.A X.env X.xe) (hc : MT X W R P c mc) (hb : MSs X W R P body mb) : MS X W R P (.While c body [] pos) (dWhile mc dead mb) := by
  intro G H F σ env L D I q
  refine ws_of (ps_while hp pt_w pss_w) ?_
  unfold dWhile at q
  split at q
  · rename_i hex
    refine ⟨fun m σ H => ∃ env F1 L, FI X.K R P G H F1 σ env L ∧ PostS X W R P G F1 (whileN mc dead mb m env) D, ⟨_, env, F, L, I, q⟩, ?_⟩
    rintro m σ H ⟨env, F1, L, I, q⟩
    cases m with
    | zero => exact q.elim
    | succ m =>
      unfold whileN at q
      obtain ⟨L2, I2⟩ := I.forget (dead := dead)
      refine hc G H F1 σ _ L2 _ I2 ?_
      cases e : mc (forget dead env) with
      | err => rw [e] at q; exact q
      | raise x e1 => rw [e] at q; exact fun C H' F' L' g I' s n => q C σ H' F' L' g I' s n
      | ok b e1 =>
        rw [e] at q
        intro H3 F3 L3 I3 s3 n3
        cases b with
        | false => exact iteF (NOk.now I3 (NOk.unforget (dead := dead) (PostS.later (r := .next (forget dead e1)) s3 n3 q)))
        | true =>
          refine iteT ⟨_, fun σ' H' (h : ∃ env F1 L, FI X.K R P G H' F1 σ' env L ∧ PostS X W R P G F1 (whileN mc dead mb m env) D) => ⟨m, Nat.lt_succ_self m, h⟩, ?_⟩
          refine hb G H3 F3 σ e1 L3 _ I3 ?_
          dsimp only at q
          cases eb : mb e1 with
          | next e2 => rw [eb] at q; exact fun σ5 H5 F5 L5 I5 s5 n5 => ⟨e2, F5, L5, I5, PostS.later (s3.trans s5) (n3.trans n5) q⟩
          | cnt e2 => rw [eb] at q; exact fun σ5 H5 F5 L5 I5 s5 n5 => ⟨e2, F5, L5, I5, PostS.later (s3.trans s5) (n3.trans n5) q⟩
          | brk e2 => rw [eb] at q; exact NOk.unforget (dead := dead) (PostS.later (r := .next (forget dead e2)) s3 n3 q)
          | ret v e2 => rw [eb] at q; exact PostS.later (r := .ret v e2) s3 n3 q
          | raise c e2 => rw [eb] at q; exact PostS.later (r := .raise c e2) s3 n3 q
          | err => rw [eb] at q; exact q.elim
  · exact q.elim
end
end DX

namespace DX
open PySem PySem.Spec L2
open PyProof.Rows hiding St

/-! ### what a def does: its slots at the entry, its value, its slots behind -/
inductive FnR where
  | ok (v : Val) (args : DEnv) | raise (c : Str) (args : DEnv) | err
def keepIo : Slot → Slot
  | .v .io d => .v .io d
  | _ => .un
def finS : Nat → DEnv → DEnv
  | 0, _ => []
  | n + 1, [] => .un :: finS n []
  | n + 1, s :: env => keepIo s :: finS n env
def runFn (M : DEnv → FR) (N : Nat) (args : DEnv) : FnR := match M (args ++ List.replicate (N - args.length) .un) with
  | .next env => .ok (.fz .non) (finS args.length env)
  | .ret (.fz d) env => .ok (.fz d) (finS args.length env)
  | .ret (.tmp d) env => .ok (.tmp d) (finS args.length env)
  | .ret (.br i) env => match env[i]? with
    | some (.v .ow d) => .ok (.tmp d) (finS args.length (env.set i .un))
    | some (.v .fz d) => .ok (.fz d) (finS args.length env)
    | _ => .err
  | .raise c env => .raise c (finS args.length env)
  | _ => .err
def PostF (K : PySem.W.Frag) (mg : Str → Option Value) (R : Hp) (P : List (Option V)) (G F : Hp) (r : FnR) (Q : VK) (E : XK) : Prop := match r with
  | .ok rv args => ∀ (v : V) (H' F' : Hp) (L' Lr : List Addr), FI K R P G H' F' P args L' → Same F F' → NewF G F F' → RepVal K H' F' [] v rv Lr → (Lr ++ L').Nodup → (∀ a ∈ Lr, F' a = none ∧ G a = none) → Q v H'
  | .raise c args => ∀ (C : Addr) (H' F' : Hp) (L' : List Addr), mg c = some (.ref C) → FI K R P G H' F' P args L' → Same F F' → NewF G F F' → E (.ref C) none H'
  | .err => False
def spF (K : PySem.W.Frag) (mg : Str → Option Value) (n : Nat) (f : DEnv → FnR) : Sp := fun vs H Q E => ∃ (R G F : Hp) (args : DEnv) (L : List Addr), vs.length = n ∧ FI K R (vs.map some) G H F (vs.map some) args L ∧ PostF K mg R (vs.map some) G F (f args) Q E
section
variable {K : PySem.W.Frag} {mg : Str → Option Value} {R G H F : Hp}
theorem EnvR.more : ∀ {P : List (Option V)} {σ : St} {env : DEnv} {L : List Addr} (k : Nat), EnvR K R H F P σ env L → EnvR K R H F P (σ ++ List.replicate k none) (env ++ List.replicate k .un) L := by
  intro P σ env L k h
  have base : ∀ (k : Nat) (P : List (Option V)), EnvR K R H F P (List.replicate k none) (List.replicate k .un) [] := by
    intro k
    induction k with
    | zero => intro P; exact .nil
    | succ k ih => intro P; rw [List.replicate_succ, List.replicate_succ]; exact .un (ih _)
  induction h with
  | nil => simpa using base k _
  | un t ih => exact .un ih
  | pin p t ih => exact .pin p ih
  | fz r t ih => exact .fz r ih
  | rd r t ih => exact .rd r ih
  | ow r t ih => exact .ow r ih
  | io p r t ih => exact .io p r ih
theorem EnvR.fin : ∀ (vs : List V) {P : List (Option V)} {σ : St} {env : DEnv} {L : List Addr}, P = vs.map some → EnvR K R H F P σ env L → L.Nodup → ∃ L', EnvR K R H F P P (finS vs.length env) L' ∧ (∀ a ∈ L', a ∈ L) ∧ L'.Nodup
  | [], P, σ, env, L, e, h, nd => ⟨[], by subst e; exact EnvR.nil, fun a z => absurd z (by simp), List.nodup_nil⟩
  | v :: vs, P, σ, env, L, e, h, nd => by
    subst e
    cases h with
    | nil =>
      obtain ⟨L2, e2, m2, n2⟩ := EnvR.fin vs (P := vs.map some) (σ := []) (env := []) (L := []) rfl .nil nd
      refine ⟨L2, ?_, m2, n2⟩
      show EnvR K R H F (some v :: vs.map some) (some v :: vs.map some) (.un :: finS vs.length []) L2
      exact .un e2
    | @un _ o σ' env' L' t =>
      obtain ⟨L2, e2, m2, n2⟩ := EnvR.fin vs (P := vs.map some) rfl t nd
      refine ⟨L2, ?_, m2, n2⟩
      show EnvR K R H F (some v :: vs.map some) (some v :: vs.map some) (keepIo .un :: finS vs.length env') L2
      exact .un e2
    | @pin _ v' σ' env' L' p t =>
      obtain ⟨L2, e2, m2, n2⟩ := EnvR.fin vs (P := vs.map some) rfl t nd
      refine ⟨L2, ?_, m2, n2⟩
      show EnvR K R H F (some v :: vs.map some) (some v :: vs.map some) (keepIo .pin :: finS vs.length env') L2
      exact .un e2
    | @fz _ v' d σ' env' L' r t =>
      obtain ⟨L2, e2, m2, n2⟩ := EnvR.fin vs (P := vs.map some) rfl t nd
      refine ⟨L2, ?_, m2, n2⟩
      show EnvR K R H F (some v :: vs.map some) (some v :: vs.map some) (keepIo (.v .fz d) :: finS vs.length env') L2
      exact .un e2
    | @rd _ v' d σ' env' L' r t =>
      obtain ⟨L2, e2, m2, n2⟩ := EnvR.fin vs (P := vs.map some) rfl t nd
      refine ⟨L2, ?_, m2, n2⟩
      show EnvR K R H F (some v :: vs.map some) (some v :: vs.map some) (keepIo (.v .rd d) :: finS vs.length env') L2
      exact .un e2
    | @ow _ v' d σ' env' L1 L' r t =>
      obtain ⟨L2, e2, m2, n2⟩ := EnvR.fin vs (P := vs.map some) rfl t (List.nodup_append.mp nd).2.1
      refine ⟨L2, ?_, fun a ha => List.mem_append_right _ (m2 a ha), n2⟩
      show EnvR K R H F (some v :: vs.map some) (some v :: vs.map some) (keepIo (.v .ow d) :: finS vs.length env') L2
      exact .un e2
    | @io _ v' d σ' env' L1 L' p r t =>
      obtain ⟨L2, e2, m2, n2⟩ := EnvR.fin vs (P := vs.map some) rfl t (List.nodup_append.mp nd).2.1
      refine ⟨L1 ++ L2, ?_, fun a ha => ?_, ?_⟩
      · show EnvR K R H F (some v :: vs.map some) (some v :: vs.map some) (.v .io d :: finS vs.length env') (L1 ++ L2)
        simp only [List.map_cons, List.head?_cons, Option.some.injEq] at p
        subst p
        exact .io rfl r e2
      · exact (List.mem_append.mp ha).elim (List.mem_append_left _) fun z => List.mem_append_right _ (m2 a z)
      · obtain ⟨m1, _, m3⟩ := List.nodup_append.mp nd
        exact List.nodup_append.mpr ⟨m1, n2, fun a ha b hb => m3 a ha b (m2 b hb)⟩
theorem FI.fin {vs : List V} {σ : St} {env : DEnv} {L : List Addr} (I : FI K R (vs.map some) G H F σ env L) : ∃ L', FI K R (vs.map some) G H F (vs.map some) (finS vs.length env) L' ∧ ∀ a ∈ L', a ∈ L :=
  let ⟨L', e, m, n⟩ := I.er.fin vs rfl I.nd; ⟨L', ⟨I.fh, I.gh, I.rg, e, n, fun a ha => I.fr a (m a ha)⟩, m⟩
end

/-- a body computes M, wherever it runs -/
def BodyOk (P : Program) (w : World) (K : PySem.W.Frag) (mg : Str → Option Value) (base : Heap) (N : List Str) (qual : Str) (st : Stmt) (f : Addr) (k : Nat) (M : DEnv → FR) : Prop :=
  ∀ (cdv : Value) (A : Around) (outer : List Env) (s : Shared) (H : Hp) (E : XK) (R : Hp) (Pn : List (Option V)), Room k (A.deeper (envOfC qual (defScope st) s.heap.objs.size f cdv)) →
    MSs (cxOf (L2.CX P w) P w K mg base N qual (defScope st) f cdv A outer s H E) (fun cls d _ H => E cls d H) R Pn (defBody st) M
theorem fn_ok {P : Program} {w : World} {K : PySem.W.Frag} {mg : Str → Option Value} {base : Heap} {x qual : Str} {st : Stmt} {f : Addr} {fd : FuncData} {N ps : List Str} {k : Nat} {M : DEnv → FR} (F : Fun K x qual st f fd) (S : FnScope N ps (defScope st))
    (hM : BodyOk P w K mg base N qual st f k M) : FnOk P w K mg base (L2.CX P w) (k + 1) f fd ps (spF K mg ps.length (runFn M N.length)) := by
  refine F.okX S (fun vs H Q E ⟨_, _, _, _, _, h, _⟩ => h) (fun cdv A outer s H vs Q E hr h => ?_)
  obtain ⟨R, G, F0, args, L, hl, I, q⟩ := h
  refine ⟨_, pss_w, ?_⟩
  have al : args.length = vs.length := by rw [← I.er.len]; simp
  have I2 : FI K R (vs.map some) G H F0 (start N vs) (args ++ List.replicate (N.length - args.length) .un) L := by
    refine ⟨I.fh, I.gh, I.rg, ?_, I.nd, I.fr⟩
    have e := I.er.more (N.length - args.length)
    rw [al] at e ⊢
    exact e
  refine hM cdv A outer s H E R (vs.map some) hr G H F0 _ _ L _ I2 ?_
  unfold runFn at q
  have ap : ∀ {L L' Lr : List Addr}, (Lr ++ L).Nodup → (∀ a ∈ L', a ∈ L) → L'.Nodup → (Lr ++ L').Nodup := fun nd m n =>
    List.nodup_append.mpr ⟨(List.nodup_append.mp nd).1, n, fun a ha b hb => (List.nodup_append.mp nd).2.2 a ha b (m b hb)⟩
  cases e : M (args ++ List.replicate (N.length - args.length) .un) with
  | next env =>
    rw [e] at q
    intro σ' H' F' L' J s n
    obtain ⟨L2, J2, m2⟩ := J.fin
    exact q .non H' F' L2 [] (by rw [al]; exact J2) s n ⟨rfl, .non⟩ (by simpa using J2.nd) (fun a z => nomatch z)
  | brk env => rw [e] at q; exact q.elim
  | cnt env => rw [e] at q; exact q.elim
  | err => rw [e] at q; exact q.elim
  | raise c env =>
    rw [e] at q
    intro C σ' H' F' L' g J s n
    obtain ⟨L2, J2, m2⟩ := J.fin
    exact q C H' F' L2 g (by rw [al]; exact J2) s n
  | ret rv env =>
    rw [e] at q
    intro v σ' H' F' L' Lr J s n r nd fr
    cases rv with
    | fz d =>
      obtain ⟨L2, J2, m2⟩ := J.fin
      exact q v H' F' L2 Lr (by rw [al]; exact J2) s n r (ap nd m2 J2.nd) fr
    | tmp d =>
      obtain ⟨L2, J2, m2⟩ := J.fin
      exact q v H' F' L2 Lr (by rw [al]; exact J2) s n r (ap nd m2 J2.nd) fr
    | br i =>
      dsimp only at q
      obtain ⟨rfl, es⟩ := r
      split at q
      · rename_i d ei
        obtain ⟨u, La, L3, e1, ro, ndA, mem, put⟩ := J.er.focus J.nd (.inl rfl) ei
        rw [es] at e1
        cases e1
        obtain ⟨k1, _, _⟩ := put H' F' (Same.refl _) fun _ _ => rfl
        have J1 : FI K R (vs.map some) G H' F' σ' (env.set i .un) L3 := ⟨J.fh, J.gh, J.rg, k1, (List.nodup_append.mp ndA).2.1, fun a ha => J.fr a ((mem a).mpr (.inr ha))⟩
        obtain ⟨L2, J2, m2⟩ := J1.fin
        exact q v H' F' L2 La (by rw [al]; exact J2) s n ro (ap ndA m2 J2.nd) (fun a ha => J.fr a ((mem a).mpr (.inl ha)))
      · rename_i d ei
        obtain ⟨u, e1, rr⟩ := J.er.getFz ei
        rw [es] at e1
        cases e1
        obtain ⟨L2, J2, m2⟩ := J.fin
        exact q v H' F' L2 [] (by rw [al]; exact J2) s n ⟨rfl, rr⟩ (by simpa using J2.nd) (fun a z => nomatch z)
      · exact q.elim
end DX

namespace DX
open PySem PySem.Spec L2
open PyProof.Rows hiding St

/-- how an argument is handed over: laid down, or read -/
inductive PM where
  | va | rd
def mkSlots : List PM → List Val → DEnv → Option (DEnv × DEnv)
  | [], [], env => some ([], env)
  | .va :: ps, rv :: rvs, env => match frzV env rv with
    | some (d, e1) => match mkSlots ps rvs e1 with
      | some (ss, e2) => some (.v .fz d :: ss, e2)
      | none => none
    | none => none
  | .rd :: ps, rv :: rvs, env => match rdV env rv with
    | some d => match mkSlots ps rvs env with
      | some (ss, e2) => some (.v .rd d :: ss, e2)
      | none => none
    | none => none
  | _, _, _ => none
def dCall (sig : List PM) (f : DEnv → FnR) (ms : List (DEnv → ER)) : DEnv → ER := fun env => (mArgs ms env).bind fun rvs e1 => match mkSlots sig rvs e1 with
  | some (ss, e2) => match f ss with
    | .ok rv _ => .ok rv e2
    | .raise c _ => .raise c e2
    | .err => .err
  | none => .err
section
variable {X : Cx} {W : WX} {R : Hp} {P : List (Option V)} {pos : Pos} {G H F : Hp} {σ : St} {env : DEnv} {L : List Addr}
theorem mkSlots_ok : ∀ {sig : List PM} {rvs : List Val} {vs : List V} {Lr L : List Addr} {F : Hp} {env env' ss : DEnv}, FI X.K R P G H F σ env L → HeldR X.K H F σ vs rvs Lr → (Lr ++ L).Nodup → (∀ a ∈ Lr, F a = none ∧ G a = none) → mkSlots sig rvs env = some (ss, env') →
    ∃ F' L', FI X.K R P G H F' σ env' L' ∧ Same F F' ∧ NewF G F F' ∧ ∀ Pc : List (Option V), EnvR X.K H H F' Pc (vs.map some) ss []
  | [], _, _, _, L, F, env, env', ss, I, .nil, nd, fr, e => by
    cases e
    exact ⟨F, L, I, Same.refl F, NewF.refl, fun _ => .nil⟩
  | .va :: ps, _, _, _, L, F, env, env', ss, I, .cons (v := v) (rv := rv) (L1 := L1) (vs := vs) (rvs := rvs) (L := L2) h t, nd, fr, e => by
    unfold mkSlots at e
    cases e1 : frzV env rv with
    | none => rw [e1] at e; cases e
    | some p =>
      obtain ⟨d, env1⟩ := p
      rw [e1] at e
      dsimp only at e
      cases e2 : mkSlots ps rvs env1 with
      | none => rw [e2] at e; cases e
      | some p2 =>
        obtain ⟨ss2, env2⟩ := p2
        rw [e2] at e
        cases e
        rw [List.append_assoc] at nd
        obtain ⟨m1, m2, m3⟩ := List.nodup_append.mp nd
        have nd1 : (L1 ++ L).Nodup := List.nodup_append.mpr ⟨m1, (List.nodup_append.mp m2).2.1, fun a ha b hb => m3 a ha b (List.mem_append_right _ hb)⟩
        obtain ⟨F1, L1', I1, ff1, nw1, r1, sub1, loc1⟩ := frzV_ok I h nd1 (fun a ha => fr a (List.mem_append_left _ ha)) e1
        have fr2 : ∀ a ∈ L2, F1 a = none ∧ G a = none := fun a ha => by
          have z := fr a (List.mem_append_right _ ha)
          refine ⟨?_, z.2⟩
          cases q : F1 a with
          | none => rfl
          | some u =>
            rcases loc1 a (by rw [q]; simp) with y | y | y
            · exact absurd z.1 y
            · exact absurd rfl (m3 a y a (List.mem_append_left _ ha))
            · exact absurd rfl ((List.nodup_append.mp m2).2.2 a ha a y)
        have nd2 : (L2 ++ L1').Nodup := List.nodup_append.mpr ⟨(List.nodup_append.mp m2).1, I1.nd, fun a ha b hb => (List.nodup_append.mp m2).2.2 a ha b (sub1 b hb)⟩
        obtain ⟨F2, L2', I2, ff2, nw2, er⟩ := mkSlots_ok (sig := ps) I1 (t.keep ff1 fun _ _ => rfl) nd2 fr2 e2
        exact ⟨F2, L2', I2, ff1.trans ff2, nw1.trans nw2, fun Pc => .fz (r1.mono ff2) (er _)⟩
  | .rd :: ps, _, _, _, L, F, env, env', ss, I, .cons (v := v) (rv := rv) (L1 := L1) (vs := vs) (rvs := rvs) (L := L2) h t, nd, fr, e => by
    unfold mkSlots at e
    cases e1 : rdV env rv with
    | none => rw [e1] at e; cases e
    | some d =>
      rw [e1] at e
      dsimp only at e
      cases e2 : mkSlots ps rvs env with
      | none => rw [e2] at e; cases e
      | some p2 =>
        obtain ⟨ss2, env2⟩ := p2
        rw [e2] at e
        cases e
        have r1 := rdV_ok I h e1
        have nd2 : (L2 ++ L).Nodup := by rw [List.append_assoc] at nd; exact (List.nodup_append.mp nd).2.1
        obtain ⟨F2, L2', I2, ff2, nw2, er⟩ := mkSlots_ok (sig := ps) I t nd2 (fun a ha => fr a (List.mem_append_right _ ha)) e2
        exact ⟨F2, L2', I2, ff2, nw2, fun Pc => .rd (r1.mono (Same.refl _) ff2) (er _)⟩
theorem call_ok {sig : List PM} {f : DEnv → FnR} {rvs : List Val} {vs : List V} {Lr : List Addr} {Q : VK} {n : Nat} (hn : sig.length = n) (I : FI X.K R P G H F σ env L) (hs : HeldR X.K H F σ vs rvs Lr) (nd : (Lr ++ L).Nodup) (fr : ∀ a ∈ Lr, F a = none ∧ G a = none)
    (h : PostV X W R P G F σ (match mkSlots sig rvs env with
      | some (ss, e2) => match f ss with
        | .ok rv _ => .ok rv e2
        | .raise c _ => .raise c e2
        | .err => .err
      | none => .err) Q) : spF X.K X.mg n f vs H Q (fun cls d H' => W cls d σ H') := by
  cases e : mkSlots sig rvs env with
  | none => rw [e] at h; exact h.elim
  | some p =>
    obtain ⟨ss, e2⟩ := p
    rw [e] at h
    dsimp only at h
    obtain ⟨F1, L1, I1, ff1, nw1, er⟩ := mkSlots_ok I hs nd fr e
    have lens : ∀ {sig : List PM} {rvs : List Val} {env env' ss : DEnv}, mkSlots sig rvs env = some (ss, env') → rvs.length = sig.length := by
      intro sig
      induction sig with
      | nil => intro rvs env env' ss e; cases rvs with
        | nil => rfl
        | cons => cases e
      | cons p ps ih => intro rvs env env' ss e; cases rvs with
        | nil => cases p <;> cases e
        | cons rv rvs =>
          cases p <;> unfold mkSlots at e
          · split at e
            · split at e
              · rename_i q; simp [ih q]
              · cases e
            · cases e
          · split at e
            · split at e
              · rename_i q; simp [ih q]
              · cases e
            · cases e
    have lenH : ∀ {vs : List V} {rvs : List Val} {Lr : List Addr} {H F : Hp}, HeldR X.K H F σ vs rvs Lr → vs.length = rvs.length := fun h => by
      induction h with
      | nil => rfl
      | cons _ _ ih => simp [ih]
    refine ⟨H, H, F1, ss, [], by rw [lenH hs, lens e, hn], ⟨I1.fh, Same.refl H, Same.refl H, er _, List.nodup_nil, fun a z => nomatch z⟩, ?_⟩
    have h' := PostV.later ff1 nw1 h
    cases ef : f ss with
    | err => rw [ef] at h'; exact h'
    | raise c ar =>
      rw [ef] at h'
      intro C H' F' L' g J s nw
      have J' := I1.ext J.gh s J.fh nw
      exact h' C H' F' L1 g J' s (I1.newF nw)
    | ok rv ar =>
      rw [ef] at h'
      intro v H' F' L' Lq J s nw r ndq frq
      refine gives_of I1 h' v H' F' Lq J.gh s J.fh nw ?_ (List.nodup_append.mp ndq).1 fun a ha => ⟨(frq a ha).2, (frq a ha).1⟩
      cases rv with
      | fz d => exact r
      | tmp d => exact r
      | br i => exact absurd r.2 (by simp)
theorem me_call {k : Nat} {f : Addr} {fd : FuncData} {ps : List Str} {x : Str} {p : Pos} {e : Expr} {es : List Expr} {ms : List (DEnv → ER)} {sig : List PM} {fn : DEnv → FnR} {n : Nat} (FO : FnOk X.prog X.w X.K X.mg X.base (L2.CX X.prog X.w) k f fd ps (spF X.K X.mg n fn)) (hr : Room k X.A) (hn : sig.length = n)
    (hm : X.mg x = some (.ref f)) (hk : PySem.W.keepIn X.K (.ref f) = true) (hb : Binds X.K fd ps []) (tk : Takes X W) (hs : MEs X W R P (e :: es) ms) (ha : PA X (e :: es) (tWa X (e :: es))) (hg : Gl X x := by rfl) (hdb : (x == ("__debug__" : Str)) = false := by decide)
    (he : starEach (e :: es) X.env = (false, eval e X.env) :: starEach es X.env := by rfl) (hpl : (backTo pos (starEach es X.env)).any (·.1) = false := by rfl) : ME X W R P (.Call (.Name x p) (e :: es) [] pos) (dCall sig fn ms) := by
  intro G H F σ env L Q I q
  refine w_of (pe_callS FO hr hg hm hk hb (fun σ => passAt tk σ) ha hdb he hpl) ?_
  refine run_args hs I ?_
  unfold dCall at q
  cases em : mArgs ms env with
  | err => rw [em] at q; exact q
  | raise c env' => rw [em] at q; exact q
  | ok rvs env' =>
    rw [em] at q
    intro vs H' F' L' Lr I' s nw hh nd fr
    exact call_ok hn I' hh nd fr (PostV.later s nw q)

/-! ### two names at once -/
theorem ms_par {i j : Nat} {x y : Str} {a b : Expr} {ma mb : DEnv → ER} {px py pt : Pos} {kt k2 pt2} (hc : X.calm = true) (hN : X.N.Nodup) (hij : i ≠ j) (ha : ME X W R P a ma) (hb : ME X W R P b mb) (hi : X.N[i]? = some x := by rfl) (hj : X.N[j]? = some y := by rfl)
    (hx : X.env.scope.names.lookup x = some .local := by rfl) (hy : X.env.scope.names.lookup y = some .local := by rfl) (hp : PA X [a, b] (tWa X [a, b]) := by exact pa_cons pe_w (pa_cons pe_w pa_nil))
    (hw : swappedStores [.Tuple [.Name x px, .Name y py] kt pt] (.Tuple [a, b] k2 pt2) X.env = pure (some [x, y]) := by rfl)
    (hs : swapsWithSole [.Tuple [.Name x px, .Name y py] kt pt] (.Tuple [a, b] k2 pt2) pos.line X.env = pure false := by rfl) :
    MS X W R P (.Assign [.Tuple [.Name x px, .Name y py] kt pt] (.Tuple [a, b] k2 pt2) pos) (dPar i j ma mb) := by
  intro G H F σ env L D I q
  refine ws_of (ps_par hc hN hi hj hij hx hy hp hw hs) ?_
  refine run_args (.cons ha (.cons hb .nil)) I ?_
  unfold dPar at q
  cases em : mArgs [ma, mb] env with
  | err => rw [em] at q; exact q
  | raise c env' => rw [em] at q; exact fun C H' F' L' g I' s n => q C σ H' F' L' g I' s n
  | ok rvs env' =>
    rw [em] at q
    intro vs H' F' L' Lr I' s nw hh nd fr
    dsimp only [AR.thn] at q
    cases hh with
    | nil => exact q.elim
    | cons h1 t1 => cases t1 with
      | nil => exact q.elim
      | cons h2 t2 => cases t2 with
        | cons => exact q.elim
        | nil =>
          rename_i v1 rv1 La v2 rv2 Lb
          refine ⟨v1, v2, rfl, ?_⟩
          dsimp only at q
          split at q
          · rename_i d d' e1 ef
            obtain ⟨F2, L2, I2, ff, nf, rr, _⟩ := frzVs_ok I' (.cons h1 (.cons h2 .nil)) nd fr ef
            split at q
            · rename_i e2 ep
              split at q
              · rename_i e3 ep2
                obtain ⟨F3, L3, I3, f3, n3⟩ := putV_ok I2 (rv := .fz d) (Lr := []) ⟨rfl, rr.2 0 _ _ rfl rfl⟩ I2.disj (fun a z => nomatch z) ep
                obtain ⟨F4, L4, I4, f4, n4⟩ := putV_ok I3 (rv := .fz d') (Lr := []) ⟨rfl, (rr.2 1 _ _ rfl rfl).mono f3⟩ I3.disj (fun a z => nomatch z) ep2
                exact q _ _ F4 L4 I4 (s.trans (ff.trans (f3.trans f4))) (nw.trans (nf.trans (n3.trans n4)))
              · exact q.elim
            · exact q.elim
          · exact q.elim

/-! ### raise -/
structure ErrC (K : PySem.W.Frag) (mg : Str → Option Value) (c : Str) (C : Addr) : Prop where
  g : mg c = some (.ref C)
  x : PySem.W.excIn K C [.type "ValueError", .type "Exception", .type "BaseException", .type "object"] "ValueError.__new__" = true
  k : PySem.W.keepIn K (.ref C) = true
  b : PySem.W.subIn K (.ref C) (.type "BaseException") = some true
  t : PySem.W.typeIn K (.ref C) = some (.type "type")
theorem ms_raise {x m : Str} {C : Addr} {j : Nat} {p p2 pos2 : Pos} (hc : X.calm = true) (tk : Takes X W) (E : ErrC X.K X.mg x C) (hg : Gl X x := by rfl) (hd : (x == ("__debug__" : Str)) = false := by decide) :
    MS X W R P (.Raise (some (.Call (.Name x p) [.Constant (.str m) j p2] [] pos)) none pos2) (fun env => .raise x env) := by
  intro G H F σ env L D I q
  refine ws_of (ps_raise hc tk (pmk_own PySem.F.excBase_ValueError E.x E.g E.k (raises_own E.b E.t) hg hd)) ?_
  exact q C σ H F L E.g I (Same.refl F) NewF.refl
end
end DX

namespace DX
open PySem PySem.Spec L2
open PyProof.Rows hiding St

section
variable {X : Cx} {W : WX} {R : Hp} {P : List (Option V)} {pos : Pos} {G H F : Hp} {σ : St} {env : DEnv} {L : List Addr}
/-- what is owned is changed -/
theorem FI.mutate {i : Nat} {m : Mode} {d : D} (I : FI X.K R P G H F σ env L) (hm : m = .ow ∨ m = .io) (e : env[i]? = some (.v m d)) : ∃ a, σ[i]? = some (some (.ref a)) ∧ RepO X.K H F (.ref a) d [a] ∧
    ∀ o' d', RepO X.K (upd H a o') F (.ref a) d' [a] → ∃ L', FI X.K R P G (upd H a o') F σ (env.set i (.v m d')) L' := by
  obtain ⟨u, La, L', e1, ro, ndA, mem, put⟩ := I.er.focus I.nd hm e
  have one : ∃ a, u = .ref a ∧ La = [a] := by cases ro <;> exact ⟨_, rfl, rfl⟩
  obtain ⟨a, rfl, rfl⟩ := one
  have inL : a ∈ L := (mem a).mpr (.inl (by simp))
  refine ⟨a, e1, ro, fun o' d' r' => ?_⟩
  have na : a ∉ L' := fun z => (List.nodup_append.mp ndA).2.2 a (by simp) a z rfl
  obtain ⟨_, _, pz⟩ := put (upd H a o') F (Same.refl F) fun b hb => upd_ne fun z => na (z ▸ hb)
  obtain ⟨L'', k1, k2, k3⟩ := pz d' [a] r'
  have keep : ∀ {G : Hp}, Same G H → G a = none → Same G (upd H a o') := fun gh n b x q => by rw [upd_ne (ne_of_none q n)]; exact gh _ _ q
  refine ⟨L'', keep I.fh (I.fr a inL).1, keep I.gh (I.fr a inL).2, I.rg, k1, k3 ndA, fun b hb => ?_⟩
  rcases (k2 b).mp hb with z | z
  · obtain rfl := List.mem_singleton.mp z; exact I.fr _ inL
  · exact I.fr b ((mem b).mpr (.inr z))
/-- a list's method that changes it: from its items and the arguments (laid down) the value and the items behind -/
def dMutL (i : Nat) (g : List D → List D → Option (D × List D)) (ms : List (DEnv → ER)) : DEnv → ER := fun env => match env[i]? with
  | some (.v _ (.lst _)) => (mArgs ms env).bind fun rvs e1 => match frzVs e1 rvs with
    | some (ds, e2) => match e2[i]? with
      | some (.v .ow (.lst xs)) => match g xs ds with
        | some (r, ys) => .ok (.fz r) (e2.set i (.v .ow (.lst ys)))
        | none => .err
      | some (.v .io (.lst xs)) => match g xs ds with
        | some (r, ys) => .ok (.fz r) (e2.set i (.v .io (.lst ys)))
        | none => .err
      | _ => .err
    | none => .err
  | _ => .err
/-- what a rule of a list's method must allow -/
def LMut (K : PySem.W.Frag) (r : V → List V → Hp → VK → Prop) (g : List D → List D → Option (D × List D)) : Prop :=
  ∀ (a : Addr) (xs : List V) (vs : List V) (ds as : List D) (rd : D) (ys : List D) (F H : Hp) (Q : VK), H a = some (.lst xs) → Reps K F xs ds → Reps K F vs as → g ds as = some (rd, ys) → (∀ v zs, Rep K F v rd → Reps K F zs ys → Q v (upd H a (.lst zs))) → r (.ref a) vs H Q
theorem mutL_core {i : Nat} {g : List D → List D → Option (D × List D)} {r : V → List V → Hp → VK → Prop} {es : List Expr} {ms : List (DEnv → ER)} {Q : VK} (hr : LMut X.K r g) (hs : MEs X W R P es ms) (I : FI X.K R P G H F σ env L) (q : PostV X W R P G F σ (dMutL i g ms env) Q) :
    ∃ v, σ[i]? = some (some v) ∧ tyV X.K "list" v H ∧ tWa X es σ H fun vs H2 => r v vs H2 Q := by
  unfold dMutL at q
  split at q
  · rename_i m xs0 e0
    obtain ⟨u, e1, r1⟩ := I.er.get (I.rg.trans I.gh) I.fh e0
    have ty : tyV X.K "list" u H := by cases r1 with | lst h hi => exact .inl ⟨rfl, _, .inl h⟩
    refine ⟨u, e1, ty, run_args hs I ?_⟩
    cases em : mArgs ms env with
    | err => rw [em] at q; exact q
    | raise c env' => rw [em] at q; exact q
    | ok rvs env1 =>
      rw [em] at q
      intro vs H' F' L' Lr I' s n hh nd fr
      dsimp only [AR.bind] at q
      cases ef : frzVs env1 rvs with
      | none => rw [ef] at q; exact q.elim
      | some p =>
        obtain ⟨ds, env2⟩ := p
        rw [ef] at q
        dsimp only at q
        obtain ⟨F2, L2, I2, ff, nf, rr, _⟩ := frzVs_ok I' hh nd fr ef
        have fin : ∀ {m : Mode} {xs : List D}, (m = .ow ∨ m = .io) → env2[i]? = some (.v m (.lst xs)) → PostV X W R P G F σ (match g xs ds with | some (r, ys) => .ok (.fz r) (env2.set i (.v m (.lst ys))) | none => .err) Q → r u vs H' Q := by
          intro m xs hm e2 q
          cases eg : g xs ds with
          | none => rw [eg] at q; exact q.elim
          | some p =>
            obtain ⟨rd, ys⟩ := p
            rw [eg] at q
            obtain ⟨a, ea, ro, put⟩ := I2.mutate hm e2
            rw [e1] at ea
            cases ea
            cases ro with
            | lst h hi =>
              refine hr a _ vs xs ds rd ys F2 H' Q h hi rr eg fun v zs rv rz => ?_
              obtain ⟨L3, I3⟩ := put (.lst zs) (.lst ys) (.lst upd_same rz)
              exact POk.now (PostV.later (r := .ok (.fz rd) _) (s.trans ff) (n.trans nf) q) I3 rv
        split at q
        · rename_i xs e2; exact fin (.inl rfl) e2 q
        · rename_i xs e2; exact fin (.inr rfl) e2 q
        · exact q.elim
  · exact q.elim
theorem me_mutL {i : Nat} {x : Str} {id : String} {name : Str} {g : List D → List D → Option (D × List D)} {r : V → List V → Hp → VK → Prop} {e : Expr} {es : List Expr} {ms : List (DEnv → ER)} {xp apos cpos : Pos} (slot : PySem.Slot "list" name id) (hty : typeOf (.builtin id) = pure (.type "method_descriptor")) (hm : MtR X id r) (hr : LMut X.K r g)
    (hs : MEs X W R P (e :: es) ms) (ha : PA X (e :: es) (tWa X (e :: es))) (hN : X.N[i]? = some x := by rfl) (hv : Vis X.env.scope x := by first | exact Or.inl rfl | exact Or.inr (Or.inl rfl) | exact Or.inr (Or.inr rfl))
    (hd : (x == ("__debug__" : Str)) = false := by decide) (hcd : (x == ("__classdict__" : Str)) = false := by decide)
    (hbase : attributeBase (.Name x xp) name X.env (eval (.Name x xp) X.env) = eval (.Name x xp) X.env := by rfl)
    (hfew : ((backTo cpos (starEach (e :: es) X.env)).all (fun x => !x.1) && (backToKw cpos (keywordEach [] X.env)).all (fun x => x.1.isSome)
      && decide ((e :: es).length + ([] : List Keyword).length + (if ([] : List Keyword).isEmpty then 0 else 1) < 30)) = true := by rfl)
    (hline : (apos.endLine == cpos.line) = true := by rfl) (hst : starEach (e :: es) X.env = (false, eval e X.env) :: starEach es X.env := by rfl) (hplain : (backTo cpos (starEach es X.env)).any (·.1) = false := by rfl) :
    ME X W R P (.Call (.Attribute (.Name x xp) name apos) (e :: es) [] cpos) (dMutL i g ms) := by
  intro G H F σ env L Q I q
  refine w_of (pe_bm PySem.F.plainAttrs_list slot hty hm (pe_var hN hv hd hcd) ha hbase hfew hline hst hplain) ?_
  obtain ⟨v, e1, ty, t⟩ := mutL_core hr hs I q
  exact ⟨v, e1, ty, t⟩
theorem me_mutL0 {i : Nat} {x : Str} {id : String} {name : Str} {g : List D → List D → Option (D × List D)} {r : V → List V → Hp → VK → Prop} {xp apos cpos : Pos} (slot : PySem.Slot "list" name id) (hty : typeOf (.builtin id) = pure (.type "method_descriptor")) (hm : MtR X id r) (hr : LMut X.K r g)
    (hN : X.N[i]? = some x := by rfl) (hv : Vis X.env.scope x := by first | exact Or.inl rfl | exact Or.inr (Or.inl rfl) | exact Or.inr (Or.inr rfl))
    (hd : (x == ("__debug__" : Str)) = false := by decide) (hcd : (x == ("__classdict__" : Str)) = false := by decide)
    (hbase : attributeBase (.Name x xp) name X.env (eval (.Name x xp) X.env) = eval (.Name x xp) X.env := by rfl) (hline : (apos.endLine == cpos.line) = true := by rfl) :
    ME X W R P (.Call (.Attribute (.Name x xp) name apos) [] [] cpos) (dMutL i g []) := by
  intro G H F σ env L Q I q
  refine w_of (pe_bm0 PySem.F.plainAttrs_list slot hty hm (pe_var hN hv hd hcd) hbase hline) ?_
  obtain ⟨v, e1, ty, t⟩ := mutL_core hr .nil I q
  exact ⟨v, e1, ty, t⟩
def gAppend : List D → List D → Option (D × List D) := fun xs as => match as with
  | [y] => if xs.length < sizeLine then some (.non, xs ++ [y]) else none
  | _ => none
noncomputable def gPopAt : List D → List D → Option (D × List D) := fun xs as => match as with
  | [.int i] => @ite _ (-(2 ^ 63) ≤ i ∧ i < 2 ^ 63) (Classical.propDecidable _) (match seqIndex? i xs.length with
    | some k => (xs[k]?).map fun y => (y, xs.eraseIdx k)
    | none => none) none
  | _ => none
def gPop : List D → List D → Option (D × List D) := fun xs as => match as with
  | [] => (xs[xs.length - 1]?).map fun y => (y, xs.dropLast)
  | _ => none
def gClear : List D → List D → Option (D × List D) := fun _ as => match as with
  | [] => some (.non, [])
  | _ => none
def gReverse : List D → List D → Option (D × List D) := fun xs as => match as with
  | [] => some (.non, xs.reverse)
  | _ => none
theorem Reps.one {K : PySem.W.Frag} {F : Hp} {vs : List V} {d : D} (h : Reps K F vs [d]) : ∃ v, vs = [v] ∧ Rep K F v d := by
  cases vs with
  | nil => have := h.1; simp at this
  | cons v vs => cases vs with
    | nil => exact ⟨v, rfl, h.2 0 v d rfl rfl⟩
    | cons => have := h.1; simp at this
theorem Reps.nilV {K : PySem.W.Frag} {F : Hp} {vs : List V} (h : Reps K F vs []) : vs = [] := by
  cases vs with
  | nil => rfl
  | cons => have := h.1; simp at this
theorem lm_append : LMut X.K rAppend gAppend := fun a xs vs ds as rd ys F H Q h hi ha e k => by
  unfold gAppend at e
  split at e
  · split at e
    · rename_i hl
      cases e
      obtain ⟨v, rfl, rv⟩ := ha.one
      exact ⟨a, xs, v, rfl, rfl, h, by rw [hi.1]; exact hl, k _ _ .non (hi.append (.cons rv .nil))⟩
    · cases e
  · cases e
theorem lm_popAt : LMut X.K rPopAt gPopAt := fun a xs vs ds as rd ys F H Q h hi ha e k => by
  unfold gPopAt at e
  split at e
  · rename_i i
    split at e
    · rename_i hb
      split at e
      · rename_i k' hk
        cases ek : ds[k']? with
        | none => rw [ek] at e; cases e
        | some y =>
          rw [ek] at e
          cases e
          obtain ⟨v, rfl, rv⟩ := ha.one
          cases rv
          obtain ⟨w, hw, rw'⟩ := hi.get ek
          exact ⟨a, xs, i, k', w, rfl, rfl, h, hb.1, hb.2, by rw [hi.1]; exact hk, hw, k _ _ rw' (hi.eraseIdx _)⟩
      · cases e
    · cases e
  · cases e
theorem lm_pop : LMut X.K rPop gPop := fun a xs vs ds as rd ys F H Q h hi ha e k => by
  unfold gPop at e
  split at e
  · cases ek : ds[ds.length - 1]? with
    | none => rw [ek] at e; cases e
    | some y =>
      rw [ek] at e
      cases e
      have hv := ha.nilV
      obtain ⟨w, hw, rw'⟩ := hi.get ek
      exact ⟨a, xs, w, rfl, hv, h, by rw [hi.1]; exact hw, k _ _ rw' hi.dropLast⟩
  · cases e
theorem lm_clear : LMut X.K rClear gClear := fun a xs vs ds as rd ys F H Q h hi ha e k => by
  unfold gClear at e
  split at e
  · cases e; exact ⟨a, xs, rfl, ha.nilV, h, k _ _ .non .nil⟩
  · cases e
theorem lm_reverse : LMut X.K rReverse gReverse := fun a xs vs ds as rd ys F H Q h hi ha e k => by
  unfold gReverse at e
  split at e
  · cases e; exact ⟨a, xs, rfl, ha.nilV, h, k _ _ .non hi.reverse⟩
  · cases e

/-! ### isinstance of a built-in class -/
inductive Ty where
  | int | bool | str | tuple | list | dict
def Ty.nm : Ty → String
  | .int => "int" | .bool => "bool" | .str => "str" | .tuple => "tuple" | .list => "list" | .dict => "dict"
def isiD : Ty → D → Bool
  | .int, .int _ => true
  | .int, .bl _ => true
  | .bool, .bl _ => true
  | .str, .str _ => true
  | .tuple, .tup _ => true
  | .list, .lst _ => true
  | .dict, .dK _ => true
  | .dict, .dT _ => true
  | _, _ => false
def tyD : D → Option String
  | .non => some "NoneType" | .bl _ => some "bool" | .int _ => some "int" | .str _ => some "str" | .tup _ => some "tuple" | .lst _ => some "list" | .dK _ => some "dict" | _ => none
theorem tyD_x {K : PySem.W.Frag} {H F : Hp} {v : V} {d : D} {n : String} (h : RepH K H F v d) (e : tyD d = some n) : TyX K H v (.type n) := by
  cases h with
  | non => cases e; exact .base .non
  | bl => cases e; exact .base (.bl _)
  | int => cases e; exact .base (.int _)
  | str => cases e; exact .base (.str _)
  | tup h hi =>
    cases e
    rcases h with (h | ⟨o, h⟩) | ⟨o, its, m, h1, h2, _⟩
    · exact .base (.tup h)
    · exact .fTuple h
    · exact .kTuple h1 h2
  | lst h hi =>
    cases e
    rcases h with h | ⟨o, h⟩
    · exact .base (.lst h)
    · exact .base (.frz h)
  | dK h hi =>
    cases e
    rcases h with h | ⟨o, h⟩
    · exact .base (.dK h)
    · exact .fDict h
  | _ => cases e
theorem isi_kit {d : D} {n : String} (T : Ty) (e : tyD d = some n) : kitB n T.nm = some (isiD T d) := by
  cases T <;> cases d <;> cases e <;> first | (show kitB _ _ = some true; decide +kernel) | (show kitB _ _ = some false; decide +kernel)
def gIsi (T : Ty) : List D → Option Val
  | [d] => match tyD d with
    | some _ => some (.fz (.bl (isiD T d)))
    | none => none
  | _ => none
theorem me_isi {e : Expr} {m : DEnv → ER} {p p2 : Pos} {t : Str} (T : Ty) (ht : t = (T.nm : Str)) (hi : X.mg "isinstance" = none) (hmT : X.mg t = none) (h : ME X W R P e m) (hg : Gl X "isinstance" := by rfl) (hgT : Gl X t := by rfl) (hb : bootBuiltins t = some (.type T.nm) := by decide +kernel)
    (hn : t ≠ "__name__" := by decide) (hd : (t == ("__debug__" : Str)) = false := by decide) (hs1 : starEach [e, .Name t p2] X.env = (false, eval e X.env) :: starEach [.Name t p2] X.env := by rfl) (hs2 : starEach [Expr.Name t p2] X.env = (false, eval (.Name t p2) X.env) :: starEach [] X.env := by rfl)
    (hpl : (backTo pos (starEach [.Name t p2] X.env)).any (·.1) = false := by rfl) : ME X W R P (.Call (.Name "isinstance" p) [e, .Name t p2] [] pos) (dPrim (gIsi T) [m]) := by
  intro G H F σ env L Q I q
  refine w_of (pe_callB call_isi hg hi PyProof.Rows.boot_isinstance (pa_cons pe_w (pa_cons (pe_bltn (v := .ty T.nm) hgT hmT hb rfl hn hd) pa_nil hs2) hs1) (by decide) (by decide) hs1 hpl) ?_
  refine tW_mono (Q := fun x H1 => ∃ F' ds rv, _) (run_prim (.cons h .nil) I q) fun x H1 ⟨F', ds, rv, fh, hh, e, k⟩ => ?_
  obtain ⟨d, rfl, hx⟩ := rd1 hh
  unfold gIsi at e
  dsimp only at e
  split at e
  · rename_i n et
    cases e
    exact ⟨x, .ty T.nm, .type n, .type T.nm, isiD T d, rfl, .ty _, tyD_x hx et, kit_ty (isi_kit T et), k.atom (X := X) fh (.bl _)⟩
  · cases e
end
end DX

namespace DX
open PySem PySem.Spec L2
open PyProof.Rows hiding St

/-! ### the clause's name holds the error -/
def setP : List (Option V) → Nat → V → List (Option V)
  | P, 0, v => some v :: P.tail
  | P, i + 1, v => P.headD none :: setP P.tail i v
section
variable {K : PySem.W.Frag} {R G H F : Hp}
theorem setP_head {P : List (Option V)} {x v : V} {i : Nat} (h : P.head? = some (some x)) : (setP P (i + 1) v).head? = some (some x) := by
  cases P with
  | nil => simp at h
  | cons p P => simpa [setP] using h
theorem EnvR.repin : ∀ {i : Nat} {P : List (Option V)} {σ : St} {env : DEnv} {L : List Addr} {v : V}, EnvR K R H F P σ env L → i < env.length → L.Nodup → ∃ L', EnvR K R H F (setP P i v) (σ.set i (some v)) (env.set i .pin) L' ∧ (∀ a ∈ L', a ∈ L) ∧ L'.Nodup
  | 0, P, _, _, _, v, h, hi, nd => by
    have hd : (setP P 0 v).head? = some (some v) := rfl
    cases h with
    | nil => simp at hi
    | un t => exact ⟨_, .pin hd t, fun a q => q, nd⟩
    | pin p t => exact ⟨_, .pin hd t, fun a q => q, nd⟩
    | fz r t => exact ⟨_, .pin hd t, fun a q => q, nd⟩
    | rd r t => exact ⟨_, .pin hd t, fun a q => q, nd⟩
    | ow r t => exact ⟨_, .pin hd t, fun a q => List.mem_append_right _ q, (List.nodup_append.mp nd).2.1⟩
    | io p r t => exact ⟨_, .pin hd t, fun a q => List.mem_append_right _ q, (List.nodup_append.mp nd).2.1⟩
  | i + 1, P, _, _, _, v, h, hi, nd => by
    cases h with
    | nil => simp at hi
    | @un _ o _ _ _ t =>
      obtain ⟨L', e, m, n⟩ := EnvR.repin (i := i) (v := v) t (by simpa using hi) nd
      exact ⟨L', .un (o := o) e, m, n⟩
    | pin p t =>
      obtain ⟨L', e, m, n⟩ := EnvR.repin (i := i) (v := v) t (by simpa using hi) nd
      exact ⟨L', .pin (setP_head p) e, m, n⟩
    | fz r t =>
      obtain ⟨L', e, m, n⟩ := EnvR.repin (i := i) (v := v) t (by simpa using hi) nd
      exact ⟨L', .fz r e, m, n⟩
    | rd r t =>
      obtain ⟨L', e, m, n⟩ := EnvR.repin (i := i) (v := v) t (by simpa using hi) nd
      exact ⟨L', .rd r e, m, n⟩
    | @ow _ _ _ _ _ L1 L2 r t =>
      obtain ⟨n1, n2, n3⟩ := List.nodup_append.mp nd
      obtain ⟨L', e, m, n⟩ := EnvR.repin (i := i) (v := v) t (by simpa using hi) n2
      exact ⟨L1 ++ L', .ow r e, fun a q => (List.mem_append.mp q).elim (List.mem_append_left _) fun z => List.mem_append_right _ (m a z), List.nodup_append.mpr ⟨n1, n, fun a ha b hb => n3 a ha b (m b hb)⟩⟩
    | @io _ _ _ _ _ L1 L2 p r t =>
      obtain ⟨n1, n2, n3⟩ := List.nodup_append.mp nd
      obtain ⟨L', e, m, n⟩ := EnvR.repin (i := i) (v := v) t (by simpa using hi) n2
      exact ⟨L1 ++ L', .io (setP_head p) r e, fun a q => (List.mem_append.mp q).elim (List.mem_append_left _) fun z => List.mem_append_right _ (m a z), List.nodup_append.mpr ⟨n1, n, fun a ha b hb => n3 a ha b (m b hb)⟩⟩
/-- the name gone again. The pinned places but i stand as in P, where P has them -/
theorem EnvR.unpin : ∀ {i : Nat} {P : List (Option V)} {σ : St} {env : DEnv} {L : List Addr} {v : V} {o : Option V}, EnvR K R H F (setP P i v) σ env L → L.Nodup → ∃ L', EnvR K R H F P (σ.set i o) (env.set i .un) L' ∧ (∀ a ∈ L', a ∈ L) ∧ L'.Nodup
  | 0, P, _, _, _, v, o, h, nd => by
    cases h with
    | nil => exact ⟨[], .nil, fun a q => q, nd⟩
    | un t => exact ⟨_, .un t, fun a q => q, nd⟩
    | pin p t => exact ⟨_, .un t, fun a q => q, nd⟩
    | fz r t => exact ⟨_, .un t, fun a q => q, nd⟩
    | rd r t => exact ⟨_, .un t, fun a q => q, nd⟩
    | ow r t => exact ⟨_, .un t, fun a q => List.mem_append_right _ q, (List.nodup_append.mp nd).2.1⟩
    | io p r t => exact ⟨_, .un t, fun a q => List.mem_append_right _ q, (List.nodup_append.mp nd).2.1⟩
  | i + 1, P, _, _, _, v, o, h, nd => by
    have back : ∀ {x : V}, (setP P (i + 1) v).head? = some (some x) → P.head? = some (some x) := fun {x} q => by
      cases P with
      | nil => simp [setP] at q
      | cons p P => simpa [setP] using q
    cases h with
    | nil => exact ⟨[], .nil, fun a q => q, nd⟩
    | @un _ o' _ _ _ t =>
      obtain ⟨L', e, m, n⟩ := EnvR.unpin (i := i) (v := v) (o := o) t nd
      exact ⟨L', .un (o := o') e, m, n⟩
    | pin p t =>
      obtain ⟨L', e, m, n⟩ := EnvR.unpin (i := i) (v := v) (o := o) t nd
      exact ⟨L', .pin (back p) e, m, n⟩
    | fz r t =>
      obtain ⟨L', e, m, n⟩ := EnvR.unpin (i := i) (v := v) (o := o) t nd
      exact ⟨L', .fz r e, m, n⟩
    | rd r t =>
      obtain ⟨L', e, m, n⟩ := EnvR.unpin (i := i) (v := v) (o := o) t nd
      exact ⟨L', .rd r e, m, n⟩
    | @ow _ _ _ _ _ L1 L2 r t =>
      obtain ⟨n1, n2, n3⟩ := List.nodup_append.mp nd
      obtain ⟨L', e, m, n⟩ := EnvR.unpin (i := i) (v := v) (o := o) t n2
      exact ⟨L1 ++ L', .ow r e, fun a q => (List.mem_append.mp q).elim (List.mem_append_left _) fun z => List.mem_append_right _ (m a z), List.nodup_append.mpr ⟨n1, n, fun a ha b hb => n3 a ha b (m b hb)⟩⟩
    | @io _ _ _ _ _ L1 L2 p r t =>
      obtain ⟨n1, n2, n3⟩ := List.nodup_append.mp nd
      obtain ⟨L', e, m, n⟩ := EnvR.unpin (i := i) (v := v) (o := o) t n2
      exact ⟨L1 ++ L', .io (back p) r e, fun a q => (List.mem_append.mp q).elim (List.mem_append_left _) fun z => List.mem_append_right _ (m a z), List.nodup_append.mpr ⟨n1, n, fun a ha b hb => n3 a ha b (m b hb)⟩⟩
theorem EnvR.pinAt : ∀ {i : Nat} {P : List (Option V)} {σ : St} {env : DEnv} {L : List Addr} {v : V}, EnvR K R H F (setP P i v) σ env L → env[i]? = some .pin → σ[i]? = some (some v)
  | 0, P, _, _, _, v, h, e => by
    cases h with
    | pin p t =>
      have p' : (setP P 0 v).head? = some (some v) := rfl
      rw [p'] at p; cases p; rfl
    | _ => simp at e
  | i + 1, P, _, _, _, v, h, e => by
    cases h with
    | nil => simp at e
    | un t => exact EnvR.pinAt (i := i) t (by simpa using e)
    | pin p t => exact EnvR.pinAt (i := i) t (by simpa using e)
    | fz r t => exact EnvR.pinAt (i := i) t (by simpa using e)
    | rd r t => exact EnvR.pinAt (i := i) t (by simpa using e)
    | ow r t => exact EnvR.pinAt (i := i) t (by simpa using e)
    | io p r t => exact EnvR.pinAt (i := i) t (by simpa using e)
end

/-! ### try .. except C as e -/
def dTry (i : Nat) (cs : List Str) (catch_ : Str → Bool) (body : DEnv → FR) (suite : Str → DEnv → FR) : DEnv → FR := fun env => match body env with
  | .raise c e1 => if cs.contains c then
      if catch_ c then (if i < e1.length then match suite c (e1.set i .pin) with
        | .next e => .next (e.set i .un)
        | .ret v e => .ret v (e.set i .un)
        | .brk e => .brk (e.set i .un)
        | .cnt e => .cnt (e.set i .un)
        | .raise _ _ => .err
        | .err => .err
      else .err) else .raise c e1
    else .err
  | .next e => .next e
  | .ret v e => .ret v e
  | .brk e => .brk e
  | .cnt e => .cnt e
  | .err => .err
/-- nothing is raised -/
abbrev W0 : WX := fun _ _ _ _ => False
section
variable {X : Cx} {W : WX} {R : Hp} {P : List (Option V)} {pos : Pos} {G H F : Hp} {σ : St} {env : DEnv} {L : List Addr}
theorem FI.unpin {i : Nat} {v : V} {o : Option V} (I : FI X.K R (setP P i v) G H F σ env L) : ∃ L', FI X.K R P G H F (σ.set i o) (env.set i .un) L' ∧ (∀ a ∈ L', a ∈ L) :=
  let ⟨L', e, m, n⟩ := I.er.unpin I.nd; ⟨L', ⟨I.fh, I.gh, I.rg, e, n, fun a ha => I.fr a (m a ha)⟩, m⟩
theorem ms_try_as {x n : Str} {C : Addr} {i : Nat} {body suite : List Stmt} {b₀ : Stmt} {np pos' : Pos} {cs : List Str} {catch_ : Str → Bool} {mb : DEnv → FR} {msu : Str → DEnv → FR} (hst : X.stack = X.env :: X.outer) (hf : X.env.frame = some X.env.locals) (hN : X.N.Nodup) (tk : Takes X W)
    (hx : ∀ c ∈ cs, ∀ D, X.mg c = some (.ref D) → PySem.W.exmOne X.K (.ref D) (.ref C) = some (catch_ c)) (hc : Names X x (.ref C))
    (hb : ∀ (W : WX) (pn : List (Addr × Obj)) (xe : Value → Shared → Prop), Takes (X.tr pn xe) W → PassesOwn (model X.prog X.w) X.A X.env xe → MSs (X.tr pn xe) W R P body mb)
    (hsu : ∀ (c : Str) (D a : Addr) (oe : Obj) (pn : List (Addr × Obj)), c ∈ cs → X.mg c = some (.ref D) → Zc (.ref D) none oe → (∃ vs, oe.data = .fields vs) → MSs (X.suite a ((a, oe) :: pn)) W0 R (setP P i (.ref a)) (b₀ :: suite) (msu c))
    (hi : X.N[i]? = some n := by rfl) (hln : X.env.kindOf n = some .local := by rfl) : MS X W R P (.Try body [.ExceptHandler (some (.Name x np)) (some n) (b₀ :: suite) pos'] [] [] pos) (dTry i cs catch_ mb msu) := by
  intro G H F σ env L D I q
  refine ws_of (ps_try_as (tb := fun W D σ H => ∀ (pn : List (Addr × Obj)) (xe : Value → Shared → Prop), Takes (X.tr pn xe) W → PassesOwn (model X.prog X.w) X.A X.env xe → tWss (X.tr pn xe) body D σ H)
    (ts := fun a cls d D σ H => ∀ (oe : Obj) (pn : List (Addr × Obj)), Zc cls d oe → (∃ vs, oe.data = .fields vs) → tWss (X.suite a ((a, oe) :: pn)) (b₀ :: suite) D σ H)
    hst hf hN hi hln hc tk (fun W pn xe tk po => ⟨fun pins s σ H D I h => h pn xe tk po pins s I⟩) (fun a oe cls d pn hz hf => ⟨fun pins s σ H D I h => h oe pn hz hf pins s I⟩)) ?_
  show ∀ pn xe, _
  intro pn xe tk' po
  refine hb _ pn xe tk' po G H F σ env L D I ?_
  unfold dTry at q
  cases e : mb env with
  | next e1 => rw [e] at q; exact q
  | ret v e1 => rw [e] at q; exact q
  | brk e1 => rw [e] at q; exact q
  | cnt e1 => rw [e] at q; exact q
  | err => rw [e] at q; exact q
  | raise c e1 =>
    rw [e] at q
    dsimp only at q
    intro C' σ' H' F' L' g I' s nw
    split at q
    · rename_i hcs
      have hcs' : c ∈ cs := by simpa using hcs
      refine ⟨catch_ c, hx c hcs' C' g, fun hb' a ha => ?_, fun hb' => ?_⟩
      · rw [if_pos hb'] at q
        split at q
        · rename_i hlt
          intro oe pn' hz hfl
          obtain ⟨L2, e2, m2, n2⟩ := I'.er.repin (i := i) (v := .ref a) hlt I'.nd
          have I2 : FI X.K R (setP P i (.ref a)) G H' F' (σ'.set i (some (.ref a))) (e1.set i .pin) L2 := ⟨I'.fh, I'.gh, I'.rg, e2, n2, fun b hb => I'.fr b (m2 b hb)⟩
          refine hsu c C' a oe pn' hcs' g hz hfl G H' F' _ _ L2 _ I2 ?_
          cases es : msu c (e1.set i .pin) with
          | next e3 => rw [es] at q; exact fun σ3 H3 F3 L3 I3 s3 n3 => let ⟨L4, I4, _⟩ := I3.unpin (o := none); q _ H3 F3 L4 I4 (s.trans s3) (nw.trans n3)
          | brk e3 => rw [es] at q; exact fun σ3 H3 F3 L3 I3 s3 n3 => let ⟨L4, I4, _⟩ := I3.unpin (o := none); q _ H3 F3 L4 I4 (s.trans s3) (nw.trans n3)
          | cnt e3 => rw [es] at q; exact fun σ3 H3 F3 L3 I3 s3 n3 => let ⟨L4, I4, _⟩ := I3.unpin (o := none); q _ H3 F3 L4 I4 (s.trans s3) (nw.trans n3)
          | ret v e3 =>
            rw [es] at q
            intro v3 σ3 H3 F3 L3 Lr I3 s3 n3 r3 nd3 fr3
            have hlen : ∀ {l : List Addr}, True := fun {l} => trivial
            cases v with
            | fz d =>
              obtain ⟨L4, I4, m4⟩ := I3.unpin (o := none)
              exact q v3 _ H3 F3 L4 Lr I4 (s.trans s3) (nw.trans n3) r3 (List.nodup_append.mpr ⟨(List.nodup_append.mp nd3).1, I4.nd, fun a ha b hb => (List.nodup_append.mp nd3).2.2 a ha b (m4 b hb)⟩) fr3
            | tmp d =>
              obtain ⟨L4, I4, m4⟩ := I3.unpin (o := none)
              exact q v3 _ H3 F3 L4 Lr I4 (s.trans s3) (nw.trans n3) r3 (List.nodup_append.mpr ⟨(List.nodup_append.mp nd3).1, I4.nd, fun a ha b hb => (List.nodup_append.mp nd3).2.2 a ha b (m4 b hb)⟩) fr3
            | br j =>
              by_cases hj : i = j
              · subst hj
                obtain ⟨L4, I4, m4⟩ := I3.unpin (o := some v3)
                refine q v3 _ H3 F3 L4 Lr I4 (s.trans s3) (nw.trans n3) ⟨r3.1, ?_⟩ (List.nodup_append.mpr ⟨(List.nodup_append.mp nd3).1, I4.nd, fun a ha b hb => (List.nodup_append.mp nd3).2.2 a ha b (m4 b hb)⟩) fr3
                rw [List.getElem?_set_self (getElem?_lt r3.2)]
              · obtain ⟨L4, I4, m4⟩ := I3.unpin (o := none)
                refine q v3 _ H3 F3 L4 Lr I4 (s.trans s3) (nw.trans n3) ⟨r3.1, ?_⟩ (List.nodup_append.mpr ⟨(List.nodup_append.mp nd3).1, I4.nd, fun a ha b hb => (List.nodup_append.mp nd3).2.2 a ha b (m4 b hb)⟩) fr3
                rw [List.getElem?_set_ne hj]; exact r3.2
          | raise x e3 => rw [es] at q; exact q.elim
          | err => rw [es] at q; exact q.elim
        · exact q.elim
      · have hb2 : ¬ catch_ c = true := by rw [hb']; exact Bool.false_ne_true
        rw [if_neg hb2] at q
        exact q C' σ' H' F' L' g I' s nw
    · exact q.elim
/-- the clause without a name -/
theorem ms_try_only {x : Str} {C : Addr} {body suite : List Stmt} {b₀ : Stmt} {np pos' : Pos} {cs : List Str} {catch_ : Str → Bool} {mb msu : DEnv → FR} (hst : X.stack = X.env :: X.outer) (hf : X.env.frame = some X.env.locals) (tk : Takes X W)
    (hx : ∀ c ∈ cs, ∀ D, X.mg c = some (.ref D) → PySem.W.exmOne X.K (.ref D) (.ref C) = some (catch_ c)) (hc : Names X x (.ref C))
    (hb : ∀ (W : WX) (pn : List (Addr × Obj)) (xe : Value → Shared → Prop), Takes (X.tr pn xe) W → PassesOwn (model X.prog X.w) X.A X.env xe → MSs (X.tr pn xe) W R P body mb)
    (hsu : ∀ (a : Addr) (oe : Obj) (pn : List (Addr × Obj)), MSs (X.suite a ((a, oe) :: pn)) W0 R P (b₀ :: suite) msu) :
    MS X W R P (.Try body [.ExceptHandler (some (.Name x np)) none (b₀ :: suite) pos'] [] [] pos) (fun env => match mb env with
      | .raise c e1 => if cs.contains c then (if catch_ c then match msu e1 with
          | .raise _ _ => .err
          | r => r
        else .raise c e1) else .err
      | r => r) := by
  intro G H F σ env L D I q
  refine ws_of (ps_try_only (tb := fun W D σ H => ∀ (pn : List (Addr × Obj)) (xe : Value → Shared → Prop), Takes (X.tr pn xe) W → PassesOwn (model X.prog X.w) X.A X.env xe → tWss (X.tr pn xe) body D σ H)
    (ts := fun a cls d D σ H => ∀ (oe : Obj) (pn : List (Addr × Obj)), Zc cls d oe → (∃ vs, oe.data = .fields vs) → tWss (X.suite a ((a, oe) :: pn)) (b₀ :: suite) D σ H)
    hst hf hc tk (fun W pn xe tk po => ⟨fun pins s σ H D I h => h pn xe tk po pins s I⟩) (fun a oe cls d pn hz hf => ⟨fun pins s σ H D I h => h oe pn hz hf pins s I⟩)) ?_
  show ∀ pn xe, _
  intro pn xe tk' po
  refine hb _ pn xe tk' po G H F σ env L D I ?_
  dsimp only at q
  cases e : mb env with
  | next e1 => rw [e] at q; exact q
  | ret v e1 => rw [e] at q; exact q
  | brk e1 => rw [e] at q; exact q
  | cnt e1 => rw [e] at q; exact q
  | err => rw [e] at q; exact q
  | raise c e1 =>
    rw [e] at q
    dsimp only at q
    intro C' σ' H' F' L' g I' s nw
    split at q
    · rename_i hcs
      have hcs' : c ∈ cs := by simpa using hcs
      refine ⟨catch_ c, hx c hcs' C' g, fun hb' a ha => ?_, fun hb' => ?_⟩
      · rw [if_pos hb'] at q
        intro oe pn' hz hfl
        refine hsu a oe pn' G H' F' _ _ L' _ I' ?_
        cases es : msu e1 with
        | raise x e3 => rw [es] at q; exact q.elim
        | err => rw [es] at q; exact q.elim
        | next e3 => rw [es] at q; exact PostS.later (r := .next e3) s nw q
        | brk e3 => rw [es] at q; exact PostS.later (r := .brk e3) s nw q
        | cnt e3 => rw [es] at q; exact PostS.later (r := .cnt e3) s nw q
        | ret v e3 => rw [es] at q; exact PostS.later (r := .ret v e3) s nw q
      · have hb2 : ¬ catch_ c = true := by rw [hb']; exact Bool.false_ne_true
        rw [if_neg hb2] at q
        exact q C' σ' H' F' L' g I' s nw
    · exact q.elim

/-! ### isinstance of the error that is held -/
def dPin (i : Nat) (b : Bool) : DEnv → ER := fun env => match env[i]? with
  | some .pin => .ok (.fz (.bl b)) env
  | _ => .err
def rIsET (K : PySem.W.Frag) (D a : Addr) : List V → Hp → VK → Prop := fun xs H Q => ∃ (tp : Addr) (cs : List V) (us : List Value) (b : Bool), xs = [.ref a, .ref tp] ∧ H tp = some (.tup cs) ∧ Paired ClsV cs us ∧ PySem.W.kitAny K (.ref D) us = some b ∧ Q (.bl b) H
theorem call_isET {a D : Addr} {oe : Obj} {pn : List (Addr × Obj)} (C : ExcC X.K D) (hz : Zc (.ref D) none oe) (hf : ∃ vs, oe.data = .fields vs) : CallR (X.suite a ((a, oe) :: pn)) (.builtin "isinstance") (rIsET X.K D a) := by
  intro pins s σ H xs us Q I r h
  obtain ⟨tp, cs, ws, b, rfl, hT, k, e, q⟩ := h
  obtain ⟨u1, u2, rfl, r1, r2⟩ := vals2 r
  cases r1
  cases (show u2 = Value.ref tp from r2)
  obtain ⟨hget, _⟩ := I.pin (a, oe) (List.mem_append.mpr (.inl List.mem_cons_self))
  obtain ⟨vs, hv⟩ := hf
  have J : PySem.W.InstAt s.heap a oe D none := by
    obtain ⟨oc, od, oda, osl⟩ := oe
    obtain ⟨h1, h2⟩ := hz
    dsimp only at h1 h2 hv
    subst h1 h2 hv
    exact ⟨hget, rfl, rfl, trivial⟩
  obtain ⟨_, its, rv, o, h1, h2, n, h3⟩ := (show ObjOk X.prog X.w H s.heap tp (.tup cs) from I.hok tp _ hT)
  have e3 := ClsV.all k rv
  subst e3
  obtain ⟨oc, od, dt, sl⟩ := o
  simp only at h2 h3
  subst h2 h3
  exact PySem.W.kia_tup (PySem.W.handS_kitx_exc C.hg C.hk C.hs C.hd C.ha C.hn C.ht C.hm) I.kIn J h1 e (fun z => nomatch z) fun tk => ⟨.bl b, H, I.tok tk, rfl, q⟩
theorem pin_read {i : Nat} {b : Bool} {a : Addr} {Q : VK} (I : FI X.K R (setP P i (.ref a)) G H F σ env L) (q : PostV X W R (setP P i (.ref a)) G F σ (dPin i b env) Q) : σ[i]? = some (some (.ref a)) ∧ PostV X W R (setP P i (.ref a)) G F σ (.ok (.fz (.bl b)) env) Q := by
  unfold dPin at q
  split at q
  · rename_i e; exact ⟨I.er.pinAt e, q⟩
  · exact q.elim
theorem me_isE {a D : Addr} {oe : Obj} {pn : List (Addr × Obj)} {i : Nat} {n t : Str} {cv : Value} {c : V} {b : Bool} {p p1 p2 : Pos} (C : ExcC X.K D) (hz : Zc (.ref D) none oe) (hf : ∃ vs, oe.data = .fields vs) (hkit : PySem.W.kitOne X.K (.ref D) cv = some b) (hi : X.mg "isinstance" = none)
    (hc : PE (X.suite a ((a, oe) :: pn)) (.Name t p2) (tC c)) (hcv : ∀ u, RelV c u → u = cv) (hN : X.N[i]? = some n := by rfl) (hg : Gl X "isinstance" := by rfl) (hv : Vis X.env.scope n := by first | exact Or.inl rfl | exact Or.inr (Or.inl rfl))
    (hd : (n == ("__debug__" : Str)) = false := by decide) (hcd : (n == ("__classdict__" : Str)) = false := by decide) (hs1 : starEach [.Name n p1, .Name t p2] X.env = (false, eval (.Name n p1) X.env) :: starEach [.Name t p2] X.env := by rfl) (hs2 : starEach [Expr.Name t p2] X.env = (false, eval (.Name t p2) X.env) :: starEach [] X.env := by rfl)
    (hpl : (backTo pos (starEach [.Name t p2] X.env)).any (·.1) = false := by rfl) : ME (X.suite a ((a, oe) :: pn)) W0 R (setP P i (.ref a)) (.Call (.Name "isinstance" p) [.Name n p1, .Name t p2] [] pos) (dPin i b) := by
  intro G H F σ env L Q I q
  obtain ⟨e1, q1⟩ := pin_read (X := X.suite a ((a, oe) :: pn)) I q
  refine w_of (pe_callB (X := X.suite a ((a, oe) :: pn)) (call_isE C hz hf) hg hi PyProof.Rows.boot_isinstance (pa_cons (pe_var hN hv hd hcd) (pa_cons hc pa_nil hs2) hs1) (by decide) (by decide) hs1 hpl) ?_
  exact ⟨_, e1, c, cv, b, rfl, hcv, hkit, PostV.now (X := X.suite a ((a, oe) :: pn)) I q1 (.bl b)⟩
theorem me_isET {a D : Addr} {oe : Obj} {pn : List (Addr × Obj)} {i : Nat} {n : Str} {us : List Value} {cs : List V} {b : Bool} {es : List Expr} {k : Nat} {p p1 p2 : Pos} (C : ExcC X.K D) (hz : Zc (.ref D) none oe) (hf : ∃ vs, oe.data = .fields vs) (hkit : PySem.W.kitAny X.K (.ref D) us = some b) (hi : X.mg "isinstance" = none)
    {t : TA} (hc : PA (X.suite a ((a, oe) :: pn)) es t) (ht : ∀ σ H (k : List V → Hp → Prop), k cs H → t σ H k) (hcl : Paired ClsV cs us) (hl : cs.length ≤ sizeLine) (hN : X.N[i]? = some n := by rfl) (hg : Gl X "isinstance" := by rfl) (hv : Vis X.env.scope n := by first | exact Or.inl rfl | exact Or.inr (Or.inl rfl))
    (hd : (n == ("__debug__" : Str)) = false := by decide) (hcd : (n == ("__classdict__" : Str)) = false := by decide) (hs1 : starEach [.Name n p1, .Tuple es k p2] X.env = (false, eval (.Name n p1) X.env) :: starEach [.Tuple es k p2] X.env := by rfl) (hs2 : starEach [Expr.Tuple es k p2] X.env = (false, eval (.Tuple es k p2) X.env) :: starEach [] X.env := by rfl)
    (hpl : (backTo pos (starEach [.Tuple es k p2] X.env)).any (·.1) = false := by rfl) : ME (X.suite a ((a, oe) :: pn)) W0 R (setP P i (.ref a)) (.Call (.Name "isinstance" p) [.Name n p1, .Tuple es k p2] [] pos) (dPin i b) := by
  intro G H F σ env L Q I q
  obtain ⟨e1, q1⟩ := pin_read (X := X.suite a ((a, oe) :: pn)) I q
  refine w_of (pe_callB (X := X.suite a ((a, oe) :: pn)) (call_isET C hz hf) hg hi PyProof.Rows.boot_isinstance (pa_cons (pe_var hN hv hd hcd) (pa_cons (pe_tup hc) pa_nil hs2) hs1) (by decide) (by decide) hs1 hpl) ?_
  refine ⟨_, e1, ?_⟩
  show t σ H _
  refine ht σ H _ ⟨hl, fun tp n => ⟨tp, cs, us, b, rfl, upd_same, hcl, hkit, ?_⟩⟩
  have I2 : FI X.K R (setP P i (.ref a)) G (upd H tp (.tup cs)) F σ env L := I.ext (same_upd n) (Same.refl F) (I.fh.trans (same_upd n)) fun _ q => .inl q
  exact PostV.now (X := X.suite a ((a, oe) :: pn)) I2 q1 (.bl b)
end
end DX

namespace DX
open PySem PySem.Spec L2
open PyProof.Rows hiding St

/-- a def of the module keeps f's promise -/
def FnD (P : Program) (w : World) (K : PySem.W.Frag) (mg : Str → Option Value) (base : Heap) (x : Str) (k : Nat) (ps : List Str) (n : Nat) (fn : DEnv → FnR) : Prop :=
  ∃ (f : Addr) (fd : FuncData), FnOk P w K mg base (L2.CX P w) k f fd ps (spF K mg n fn) ∧ mg x = some (.ref f) ∧ PySem.W.keepIn K (.ref f) = true ∧ Binds K fd ps []
/-- nothing is promised -/
theorem fn_err {P : Program} {w : World} {K : PySem.W.Frag} {mg : Str → Option Value} {base : Heap} {k n : Nat} {f : Addr} {fd : FuncData} {ps : List Str} (hn : ps.length = n) : FnOk P w K mg base (L2.CX P w) k f fd ps (spF K mg n fun _ => .err) :=
  ⟨fun vs H Q E ⟨_, _, _, _, _, h, _⟩ => h.trans hn.symm, fun A outer s H args us vs Q E hr he hb hv ⟨_, _, _, _, _, _, _, h⟩ => h.elim⟩
/-- the classes of errors: is d c or above c -/
def errSub (c d : Str) : Bool := d == "SaidError" || c == d
structure ErrT (K : PySem.W.Frag) (mg : Str → Option Value) (cs ds : List Str) : Prop where
  ex : ∀ c ∈ cs, ∀ D, mg c = some (.ref D) → ExcC K D
  kit : ∀ c ∈ cs, ∀ D, mg c = some (.ref D) → ∀ d ∈ ds, ∀ C, mg d = some (.ref C) → PySem.W.kitOne K (.ref D) (.ref C) = some (errSub c d)
  exm : ∀ c ∈ cs, ∀ D, mg c = some (.ref D) → ∀ d ∈ ds, ∀ C, mg d = some (.ref C) → PySem.W.exmOne K (.ref D) (.ref C) = some (errSub c d)
  val : ∀ c ∈ cs, ∀ D, mg c = some (.ref D) → PySem.W.kitOne K (.ref D) (.type "ValueError") = some true
def errAny (c : Str) : List Str → Bool
  | [] => false
  | d :: r => errSub c d || errAny c r
theorem ErrT.any {K : PySem.W.Frag} {mg : Str → Option Value} {cs ds : List Str} (T : ErrT K mg cs ds) {c : Str} (hc : c ∈ cs) {D : Addr} (hD : mg c = some (.ref D)) : ∀ {es : List Str} {Cs : List Addr}, Paired (fun d C => d ∈ ds ∧ mg d = some (.ref C)) es Cs → PySem.W.kitAny K (.ref D) (Cs.map .ref) = some (errAny c es)
  | _, _, .nil => rfl
  | d :: _, C :: _, .cons ⟨h1, h2⟩ r => by
    simp only [List.map_cons, PySem.W.kitAny, T.kit c hc D hD d h1 C h2, errAny]
    cases errSub c d
    · exact T.any hc hD r
    · rfl
/-- a constant of the module -/
def GConst (K : PySem.W.Frag) (mg : Str → Option Value) (x : Str) (d : D) : Prop := ∃ v u, mg x = some u ∧ RelV v u ∧ ∀ F, Rep K F v d
theorem me_glob {X : Cx} {W : WX} {R : Hp} {P : List (Option V)} {x : Str} {d : D} {pos : Pos} (h : GConst X.K X.mg x d) (hg : Gl X x := by rfl) (hd : (x == ("__debug__" : Str)) = false := by decide) : ME X W R P (.Name x pos) (dC d) := by
  obtain ⟨v, u, hm, r, rep⟩ := h
  exact fun G H F σ env L Q I q => w_of (pe_glob hg hm r hd) (POk.now q I (rep F))
def spLaw (K : PySem.W.Frag) : Sp := fun vs H Q _ => ∃ (a : Addr) (ns : List Int), vs = [.ref a] ∧ SqL K H a (ns.map V.int) ∧ ns.length ≤ 63 ∧ ∀ H', Q (.bl true) H'
theorem law_imp {K : PySem.W.Frag} {mg : Str → Option Value} {fn : DEnv → FnR} (hf : ∀ ns : List Int, ns.length ≤ 63 → ∃ a, fn [.v .fz (.scr ns)] = .ok (.fz (.bl true)) a) (vs : List V) (H : Hp) (Q : VK) (E : XK) (h : spLaw K vs H Q E) : spF K mg 1 fn vs H Q E := by
  obtain ⟨a, ns, rfl, hS, hl, q⟩ := h
  refine ⟨H, H, H, [.v .fz (.scr ns)], [], rfl, ⟨Same.refl H, Same.refl H, Same.refl H, .fz (.scr hS) .nil, List.nodup_nil, fun a z => nomatch z⟩, ?_⟩
  obtain ⟨ar, e⟩ := hf ns hl
  rw [e]
  intro v H' F' L' Lr I s n r nd fr
  obtain ⟨_, r⟩ := r
  cases r
  exact q H'
theorem law_walk {l : PySem.W.OpenLaw} {k : Nat} {q : Program} {loose : List Str} {XP : (Str → Option Value) → Heap → Prop} {YP : World → Heap → Prop} {d : DefRec} {K : Params → PySem.W.Frag} {x : Str} {fn : DEnv → FnR}
    (hn : l.most = some 63) (hdf : d.params.defaults = []) (hr : Room k callerA) (hY : ∀ (w : World) (h : Heap), YP w h → (K w.params).In h)
    (hf : ∀ ns : List Int, ns.length ≤ 63 → ∃ a, fn [.v .fz (.scr ns)] = .ok (.fz (.bl true)) a)
    (F : ∀ (w : World) (mg : Str → Option Value) (fa : Addr) (h : Heap), (K w.params).In h → h.Ns mainGlobals mg → mg d.name = some (.ref fa) →
      ∃ fd : FuncData, (∀ (s : Shared) (u : Value), BindsTo s fd ⟨[u], []⟩ [(x, u)]) ∧
        ∀ base : Heap, (K w.params).In base → base.Ns mainGlobals mg → FnOk l.prog w (K w.params) mg base (L2.CX l.prog w) k fa fd [x] (spF (K w.params) mg 1 fn)) :
    PySem.W.WalkO q loose XP YP l.row.toRowW d [] (fun f vs => PySem.call f vs) :=
  L2.walk_of (n := 63) (k := k) (x := x) (CX := fun w => L2.CX l.prog w) (sp := fun w => spLaw (K w.params)) hn (by decide) hdf hr hY
    (fun w mg fa h X G hm => let ⟨fd, hb, hF⟩ := F w mg fa h X G hm; ⟨fd, hb, fun base a b => (hF base a b).imp (law_imp hf)⟩)
    (fun _ _ a ns hl _ hS => ⟨a, ns, rfl, hS, hl, fun _ => rfl⟩) fun _ _ _ _ _ h => by
      obtain ⟨_, _, _, _, _, _, _, _, _, _, _, _, z⟩ := h
      exact z.elim
end DX

namespace DX
open PySem PySem.Spec L2
open PyProof.Rows hiding St

theorem wipe_get (σ : St) (j : Nat) : ∀ vs : List Nat, (wipe σ vs)[j]? = if j ∈ vs then (σ[j]?).map (fun _ => none) else σ[j]?
  | [] => by simp [wipe]
  | v :: vs => by
    unfold wipe
    rw [List.getElem?_set, wipe_length]
    by_cases h : v = j
    · subst h
      by_cases hl : v < σ.length
      · simp [hl]
      · simp [hl]
    · rw [if_neg h, wipe_get σ j vs]
      have : (j = v) = False := by simp [Ne.symm h]
      simp [this]
theorem wipe_put {σ : St} {i : Nat} {o : Option V} {vs : List Nat} (h : i ∈ vs) : wipe (σ.set i o) vs = wipe σ vs := by
  apply List.ext_getElem?
  intro j
  rw [wipe_get, wipe_get, List.getElem?_set]
  by_cases hj : j ∈ vs
  · rw [if_pos hj, if_pos hj]
    by_cases hi : i = j
    · subst hi
      by_cases hl : i < σ.length
      · simp [hl]
      · simp [hl]
    · simp [hi]
  · have : ¬ i = j := fun e => hj (e ▸ h)
    rw [if_neg hj, if_neg hj, if_neg this]
theorem wipe_eq {σ σ' : St} {vs : List Nat} (h : wipe σ' vs = wipe σ vs) {j : Nat} (hj : j ∉ vs) : σ'[j]? = σ[j]? := by
  have := congrArg (·[j]?) h
  simpa [wipe_get, hj] using this
theorem wipe_len {σ σ' : St} {vs : List Nat} (h : wipe σ' vs = wipe σ vs) : σ'.length = σ.length := by
  have := congrArg List.length h
  simpa [wipe_length] using this
theorem wipe_wipe (σ : St) (vs : List Nat) : wipe (wipe σ vs) vs = wipe σ vs := by
  apply List.ext_getElem?
  intro j
  rw [wipe_get, wipe_get]
  by_cases hj : j ∈ vs
  · simp [hj]; cases σ[j]? <;> rfl
  · simp [hj]
theorem EnvR.swap {K : PySem.W.Frag} {R H F : Hp} {P : List (Option V)} {σ : St} {env : DEnv} {L : List Addr} (h : EnvR K R H F P σ env L) : ∀ {σ' : St}, σ'.length = σ.length → (∀ i : Nat, env[i]? ≠ some DX.Slot.un → σ'[i]? = σ[i]?) → EnvR K R H F P σ' env L := by
  have hd : ∀ {o o' : Option V} {σ σ' : St} {s : DX.Slot} {env : DEnv}, (∀ i : Nat, (s :: env)[i]? ≠ some DX.Slot.un → (o' :: σ')[i]? = (o :: σ)[i]?) → ∀ i : Nat, env[i]? ≠ some DX.Slot.un → σ'[i]? = σ[i]? := fun h i e => by
    have := h (i + 1) (by simpa using e)
    simpa using this
  have h0 : ∀ {o o' : Option V} {σ σ' : St} {s : DX.Slot} {env : DEnv}, (∀ i : Nat, (s :: env)[i]? ≠ some DX.Slot.un → (o' :: σ')[i]? = (o :: σ)[i]?) → s ≠ .un → o' = o := fun h e => by
    have := h 0 (by simpa using e)
    simpa using this
  induction h with
  | nil => intro σ' l _; cases σ' with
    | nil => exact .nil
    | cons => simp at l
  | un t ih => intro σ' l e; cases σ' with
    | nil => simp at l
    | cons o' σ' => exact .un (ih (by simpa using l) (hd e))
  | pin p t ih => intro σ' l e; cases σ' with
    | nil => simp at l
    | cons o' σ' => cases h0 e (by simp); exact .pin p (ih (by simpa using l) (hd e))
  | fz r t ih => intro σ' l e; cases σ' with
    | nil => simp at l
    | cons o' σ' => cases h0 e (by simp); exact .fz r (ih (by simpa using l) (hd e))
  | rd r t ih => intro σ' l e; cases σ' with
    | nil => simp at l
    | cons o' σ' => cases h0 e (by simp); exact .rd r (ih (by simpa using l) (hd e))
  | ow r t ih => intro σ' l e; cases σ' with
    | nil => simp at l
    | cons o' σ' => cases h0 e (by simp); exact .ow r (ih (by simpa using l) (hd e))
  | io p r t ih => intro σ' l e; cases σ' with
    | nil => simp at l
    | cons o' σ' => cases h0 e (by simp); exact .io p r (ih (by simpa using l) (hd e))
theorem forget_get : ∀ (dead : List Nat) (env : DEnv) (j : Nat), j ∈ dead → (forget dead env)[j]? ≠ some DX.Slot.un → (forget dead env)[j]? = none
  | [], env, j, h, _ => nomatch h
  | i :: is, env, j, h, q => by
    unfold forget at q ⊢
    by_cases hj : j ∈ is
    · exact forget_get is _ j hj q
    · have e : i = j := by
        rcases List.mem_cons.1 h with h | h
        · exact h.symm
        · exact absurd h hj
      subst e
      have key : ∀ (is : List Nat) (env : DEnv), i ∉ is → (forget is env)[i]? = env[i]? := by
        intro is
        induction is with
        | nil => intro env _; rfl
        | cons a is ih =>
          intro env h
          unfold forget
          rw [ih _ (fun z => h (List.mem_cons_of_mem _ z)), List.getElem?_set_ne (fun z => h (by rw [z]; exact List.mem_cons_self))]
      rw [key is _ hj] at q ⊢
      by_cases hl : i < env.length
      · rw [List.getElem?_set_self hl] at q; exact absurd rfl q
      · rw [List.getElem?_eq_none (by rw [List.length_set]; omega)]
section
variable {X : Cx} {R : Hp} {P : List (Option V)} {pos : Pos} {G H F : Hp} {σ σ' : St} {env : DEnv} {L : List Addr}
theorem FI.swap {own : List Nat} (I : FI X.K R P G H F σ' (DX.forget own env) L) (h : wipe σ' own = wipe σ own)   : FI X.K R P G H F σ (DX.forget own env) L :=
  ⟨I.fh, I.gh, I.rg, I.er.swap (wipe_len h).symm fun i q => by
    by_cases hi : i ∈ own
    · have e := forget_get own env i hi q
      have hl : (DX.forget own env).length ≤ i := by
        rw [List.getElem?_eq_none_iff] at e; exact e
      have l1 : σ'.length = (DX.forget own env).length := I.er.len
      rw [List.getElem?_eq_none (by rw [← wipe_len h, l1]; exact hl), List.getElem?_eq_none (by rw [l1]; exact hl)]
    · exact (wipe_eq h hi).symm, I.nd, I.fr⟩
/-- a target within a comprehension: only its own names change -/
def MGo (X : Cx) (R : Hp) (P : List (Option V)) (own : List Nat) (tg : Expr) (t : D → DEnv → Option DEnv) : Prop :=
  ∀ (G H F : Hp) (σ σ0 : St) (env env' : DEnv) (L : List Addr) (v : V) (d : D) (k : St → Hp → Prop), wipe σ own = σ0 → FI X.K R P G H F σ env L → Rep X.K F v d → t d env = some env' →
    (∀ (σ' : St) (H' F' : Hp) (L' : List Addr), wipe σ' own = σ0 → FI X.K R P G H' F' σ' env' L' → Same F F' → NewF G F F' → k σ' H') → tWg X tg v σ H k
inductive MGos (X : Cx) (R : Hp) (P : List (Option V)) (own : List Nat) : List Expr → List (D → DEnv → Option DEnv) → Prop
  | nil : MGos X R P own [] []
  | cons {e : Expr} {t : D → DEnv → Option DEnv} {es : List Expr} {ts : List (D → DEnv → Option DEnv)} (h : MGo X R P own e t) (r : MGos X R P own es ts) : MGos X R P own (e :: es) (t :: ts)
theorem mgo_name {own : List Nat} {i : Nat} {x : Str} (hN : X.N.Nodup) (ho : i ∈ own := by decide) (hi : X.N[i]? = some x := by rfl) (hx : Loc X.env.scope x := by first | exact .inl rfl | exact .inr rfl) (hf : X.fn x = true ∨ X.env.scope.names.lookup x = some .local := by first | exact .inl rfl | exact .inr rfl | assumption) :
    MGo X R P own (.Name x pos) (gNm i) := by
  intro G H F σ σ0 env env' L v d k hw I r e q
  refine wg_of (pg_name hN hi hx hf) ?_
  obtain ⟨F2, L2, I2, ff, nf⟩ := putV_ok I (rv := .fz d) (Lr := []) ⟨rfl, r⟩ I.disj (fun _ z => nomatch z) e
  exact q _ _ F2 L2 (by rw [wipe_put ho, hw]) I2 ff nf
theorem gEach_len : ∀ {ts : List (D → DEnv → Option DEnv)} {ds : List D} {env env' : DEnv}, gEach ts ds env = some env' → ts.length = ds.length := by
  intro ts
  induction ts with
  | nil => intro ds env env' e; cases ds with
    | nil => rfl
    | cons => cases e
  | cons t ts ih => intro ds env env' e; cases ds with
    | nil => cases e
    | cons d ds =>
      unfold gEach at e
      cases q : t d env with
      | none => rw [q] at e; cases e
      | some z => rw [q] at e; simp [ih e]
theorem MGos.len {own : List Nat} {es : List Expr} {ts : List (D → DEnv → Option DEnv)} (h : MGos X R P own es ts) : es.length = ts.length := by
  induction h with
  | nil => rfl
  | cons _ _ ih => simp [ih]
theorem mgos_ok {own : List Nat} {es : List Expr} {ts : List (D → DEnv → Option DEnv)} (h : MGos X R P own es ts) : ∀ {G H F : Hp} {σ σ0 : St} {env env' : DEnv} {L : List Addr} {vs : List V} {ds : List D} {k : St → Hp → Prop}, wipe σ own = σ0 → FI X.K R P G H F σ env L → Reps X.K F vs ds → gEach ts ds env = some env' →
    (∀ (σ' : St) (H' F' : Hp) (L' : List Addr), wipe σ' own = σ0 → FI X.K R P G H' F' σ' env' L' → Same F F' → NewF G F F' → k σ' H') → tWgs X es vs σ H k ∧ vs.length = es.length := by
  induction h with
  | nil =>
    intro G H F σ σ0 env env' L vs ds k hw I r e q
    cases ds with
    | nil => cases e; cases vs with
      | nil => exact ⟨⟨rfl, q _ _ _ _ hw I (Same.refl F) NewF.refl⟩, rfl⟩
      | cons v vs => have := r.1; simp at this
    | cons d ds => cases e
  | @cons e0 t es ts h hr ih =>
    intro G H F σ σ0 env env' L vs ds k hw I r e q
    cases ds with
    | nil => cases e
    | cons d ds =>
      cases vs with
      | nil => have := r.1; simp at this
      | cons v vs =>
        unfold gEach at e
        cases e1 : t d env with
        | none => rw [e1] at e; cases e
        | some env1 =>
          rw [e1] at e
          have r0 := r.2 0 v d rfl rfl
          have rr : Reps X.K F vs ds := ⟨by have := r.1; simpa using this, fun i v x a b => r.2 (i + 1) v x (by simpa using a) (by simpa using b)⟩
          have lenE : vs.length = es.length := by rw [rr.1, ← gEach_len e, hr.len]
          refine ⟨⟨v, vs, rfl, h G H F σ σ0 env env1 L v d _ hw I r0 e1 fun σ' H' F' L' w' I' s n => ?_⟩, by simp [lenE]⟩
          exact (ih w' I' (rr.mono s) e (fun σ'' H'' F'' L'' w'' J s' n' => q σ'' H'' F'' L'' w'' J (s.trans s') (n.trans n'))).1
theorem mgo_tup {own : List Nat} {es : List Expr} {k : Nat} {ts : List (D → DEnv → Option DEnv)} (hc : X.calm = true) (h : MGos X R P own es ts) (hp : PGs X es (tWgs X es)) (hn : (assignEach es X.env).length = es.length := by rfl) (hst : (assignEach es X.env).findIdx? (·.1) = none := by rfl) : MGo X R P own (.Tuple es k pos) (gTp ts) := by
  intro G H F σ σ0 env env' L v d k hw I r e q
  refine wg_of (pg_tup hc hp hn hst) ?_
  cases r with
  | tup hs hl hi =>
    obtain ⟨q1, q2⟩ := mgos_ok h hw I ⟨hl, hi⟩ e q
    exact ⟨_, _, rfl, SqT.mono I.fh hs, q2, q1⟩
  | _ => cases e
theorem mgo_lst {own : List Nat} {es : List Expr} {k : Nat} {ts : List (D → DEnv → Option DEnv)} (hc : X.calm = true) (h : MGos X R P own es ts) (hp : PGs X es (tWgs X es)) (hn : (assignEach es X.env).length = es.length := by rfl) (hst : (assignEach es X.env).findIdx? (·.1) = none := by rfl) : MGo X R P own (.Tuple es k pos) (gLs ts) := by
  intro G H F σ σ0 env env' L v d k hw I r e q
  refine wg_of (pg_lst hc hp hn hst) ?_
  cases r with
  | lst hs hl hi =>
    obtain ⟨q1, q2⟩ := mgos_ok h hw I ⟨hl, hi⟩ e q
    exact ⟨_, _, rfl, .inl (Rd.mono I.fh hs), q2, q1⟩
  | _ => cases e
/-- a comprehension's list, built -/
def lcL (t : D → DEnv → Option DEnv) (own : List Nat) (tt : DEnv → TR) (me : DEnv → ER) : List D → DEnv → List D → ER
  | [], env, acc => .ok (.tmp (.lst acc)) env
  | x :: xs, env, acc => match t x env with
    | none => .err
    | some e1 => match tt e1 with
      | .ok true e2 => match me e2 with
        | .ok rv e3 => match frzV e3 rv with
          | some (d, e4) => if acc.length < sizeLine then lcL t own tt me xs (forget own e4) (acc ++ [d]) else .err
          | none => .err
        | .raise _ _ => .err
        | .err => .err
      | .ok false e2 => lcL t own tt me xs (forget own e2) acc
      | .raise _ _ => .err
      | .err => .err
theorem forget_comm : ∀ (own : List Nat) (env : DEnv) (i : Nat), forget own (env.set i .un) = (forget own env).set i .un := by
  intro own
  induction own with
  | nil => intro env i; rfl
  | cons a own ih =>
    intro env i
    unfold forget
    rw [← ih]
    congr 1
    by_cases h : i = a
    · subst h; simp
    · rw [List.set_comm _ _ h]
theorem forget_idem : ∀ (own : List Nat) (env : DEnv), forget own (forget own env) = forget own env := by
  intro own
  induction own with
  | nil => intro env; rfl
  | cons a own ih =>
    intro env
    show forget own ((forget own (env.set a .un)).set a .un) = forget own (env.set a .un)
    rw [forget_comm, forget_comm, forget_comm, ih]
    simp
theorem FI.wipe : ∀ {own : List Nat} {env : DEnv} {σ : St} {L : List Addr}, FI X.K R P G H F σ env L → ∃ L', FI X.K R P G H F (L2.wipe σ own) (DX.forget own env) L' ∧ ∀ a ∈ L', a ∈ L := by
  have one : ∀ {i : Nat} {env : DEnv} {σ : St} {L : List Addr}, FI X.K R P G H F σ env L → ∃ L', FI X.K R P G H F (σ.set i none) (env.set i .un) L' ∧ ∀ a ∈ L', a ∈ L := by
    intro i env σ L I
    by_cases hi : i < env.length
    · obtain ⟨L', e, m, n⟩ := I.er.set (Lr := []) (o := none) (s := .un) (fun _ _ _ _ t => .un t) hi
      have m' : ∀ a ∈ L', a ∈ L := fun a ha => (m a ha).elim (fun z => nomatch z) id
      exact ⟨L', ⟨I.fh, I.gh, I.rg, e, n (by simpa using I.nd), fun a ha => I.fr a (m' a ha)⟩, m'⟩
    · have l1 : σ.length = env.length := I.er.len
      rw [List.set_eq_of_length_le (by omega), List.set_eq_of_length_le (by omega)]
      exact ⟨L, I, fun _ h => h⟩
  intro own
  induction own with
  | nil => intro env σ L I; exact ⟨L, I, fun _ h => h⟩
  | cons a own ih =>
    intro env σ L I
    obtain ⟨L1, I1, m1⟩ := ih I
    obtain ⟨L9, I2, m2⟩ := one (i := a) I1
    refine ⟨L9, ?_, fun b h => m1 b (m2 b h)⟩
    unfold DX.forget L2.wipe
    rw [forget_comm]
    exact I2
theorem takesB {X : Cx} : Takes X W0 := fun u s' ⟨a, B, sI, pins, σ, H, cls, d, e, I, nb, up, sky, na, os, ag, w⟩ => w.elim
/-- a new list written -/
theorem FI.wr {D : Addr} {c : HO} (I : FI X.K R P G H F σ env L) (hF : F D = none) (hG : G D = none) (hL : D ∉ L) : FI X.K R P G (upd H D c) F σ env L := by
  have keep : ∀ {G : Hp}, Same G H → G D = none → Same G (upd H D c) := fun gh n b x q => by rw [upd_ne (ne_of_none q n)]; exact gh _ _ q
  exact ⟨keep I.fh hF, keep I.gh hG, I.rg, I.er.keep (Same.refl F) (fun a ha => upd_ne fun z => hL (z ▸ ha)), I.nd, I.fr⟩
theorem lc_go {W : WX} {own : List Nat} {J : It} {xs : List D} {t : D → DEnv → Option DEnv} {tt : DEnv → TR} {me : DEnv → ER} {g : TG} {tw : TT} {te : TE} {Q : VK}
    (hg : ∀ (G H F : Hp) (σ σ0 : St) (env env' : DEnv) (L : List Addr) (v : V) (d : D) (k : St → Hp → Prop), wipe σ own = σ0 → FI X.K R P G H F σ env L → Rep X.K F v d → t d env = some env' →
      (∀ (σ' : St) (H' F' : Hp) (L' : List Addr), wipe σ' own = σ0 → FI X.K R P G H' F' σ' env' L' → Same F F' → NewF G F F' → k σ' H') → g v σ H k)
    (ht : ∀ (G H F : Hp) (σ : St) (env : DEnv) (L : List Addr) (Q : Bool → Hp → Prop), FI X.K R P G H F σ env L → PostT X W0 R P G F σ (tt env) Q → tw σ H Q)
    (he : ∀ (G H F : Hp) (σ : St) (env : DEnv) (L : List Addr) (Q : VK), FI X.K R P G H F σ env L → PostV X W0 R P G F σ (me env) Q → te σ H Q)
    (Wk : Walks X.K J xs G F) (I : FI X.K R P G H F σ (DX.forget own env) L) (q : PostV X W R P G F σ (lcL t own tt me xs (DX.forget own env) []) Q) (Da : Addr) (hD : H Da = none) :
    ∃ W' : Nat → Nat → Hp → Prop, (∃ m, W' 0 m (upd H Da (.lst []))) ∧ ∀ i m H, W' i m H → (J.stop i H ∧ Q (.ref Da) H) ∨ (J.go i H ∧ ∃ Nx : Hp → Prop, (∀ H', Nx H' → ∃ m', m' < m ∧ W' (i + 1) m' H') ∧
      ∀ x H', J.yld i H x H' → g x (wipe σ own) H' fun σ2 H2 => wipe σ2 own = wipe σ own ∧ tw σ2 H2 fun b H3 => if b = true then te σ2 H3 fun y H4 => ∃ acc, H4 Da = some (.lst acc) ∧ acc.length < sizeLine ∧ Nx (upd H4 Da (.lst (acc ++ [y]))) else Nx H3) := by
  have gD : G Da = none := I.gh.free hD
  have lD : ∀ {G2 : Hp} {F2 H2 : Hp} {σ2 : St} {e2 : DEnv} {L2 : List Addr}, FI X.K R P G2 H2 F2 σ2 e2 L2 → G2 Da ≠ none → Da ∉ L2 := fun I2 n z => n (I2.fr Da z).2
  let S : Nat → Hp → Prop := fun i H => ∃ (env : DEnv) (F1 : Hp) (L : List Addr) (vs : List V) (acc : List D), FI X.K R P G H F1 σ (DX.forget own env) L ∧ Same F F1 ∧ NewF G F F1 ∧ H Da = some (.lst vs) ∧ Reps X.K F1 vs acc ∧ Da ∉ L ∧ F1 Da = none ∧ PostV X W R P G F1 σ (lcL t own tt me (xs.drop i) (DX.forget own env) acc) Q
  refine ⟨fun i m H => m = xs.length - i ∧ i ≤ xs.length ∧ S i H, ⟨_, rfl, Nat.zero_le _, env, F, L, [], [], ?_, Same.refl F, NewF.refl, upd_same, ⟨rfl, fun _ _ _ e => by simp at e⟩, ?_, I.fh.free hD, by simpa using q⟩, ?_⟩
  · exact I.wr (I.fh.free hD) gD fun z => by obtain ⟨o, e⟩ := I.er.sub Da z; rw [hD] at e; cases e
  · exact fun z => by obtain ⟨o, e⟩ := I.er.sub Da z; rw [hD] at e; cases e
  rintro i m H ⟨rfl, hi, env, F1, L, vs, acc, I, ff, nf, hv, hr, nL, fD, q⟩
  by_cases hlt : i < xs.length
  · refine .inr ⟨Wk.go i H hlt I.gh (ff.trans I.fh), fun H' => i + 1 ≤ xs.length ∧ S (i + 1) H', fun H' h => ⟨xs.length - (i + 1), by omega, rfl, h⟩, fun x H' y => ?_⟩
    have ed : xs.drop i = xs[i] :: xs.drop (i + 1) := List.drop_eq_getElem_cons hlt
    rw [ed] at q
    unfold lcL at q
    have I' := I.held (Lr := [Da]) (List.nodup_cons.2 ⟨nL, I.nd⟩) (fun a ha => by obtain rfl := List.mem_singleton.1 ha; exact ⟨fD, gD⟩)
    have g2 : addG G H [Da] Da = some (.lst vs) := by rw [addG_in (by simp), hv]
    have g2n : addG G H [Da] Da ≠ none := by rw [g2]; simp
    have gg : Same G (addG G H [Da]) := addG_same fun a ha => by obtain rfl := List.mem_singleton.1 ha; exact gD
    have gl : ∀ a, addG G H [Da] a = none → G a = none := fun a e => gg.free e
    obtain ⟨F2, hh, f2, fh2, nw2, r2⟩ := Wk.yld i H F1 x H' xs[i] I.gh ff I.fh y (List.getElem?_eq_getElem hlt)
    have I2 := I'.ext hh f2 fh2 nw2
    have n2 := I'.newF nw2
    obtain ⟨L3, I3, _⟩ := I2.wipe (own := own)
    rw [forget_idem] at I3
    cases et : t xs[i] (DX.forget own env) with
    | none => rw [et] at q; exact q.elim
    | some e1 =>
      rw [et] at q
      dsimp only at q
      refine hg _ H' F2 _ (wipe σ own) _ e1 L3 x xs[i] _ (wipe_wipe σ own) I3 r2 et fun σ4 H4 F4 L4 w4 I4 s4 n4 => ⟨w4, ?_⟩
      have fin : ∀ {e5 : DEnv} {H5 F5 : Hp} {L5 : List Addr}, FI X.K R P (addG G H [Da]) H5 F5 σ4 e5 L5 → ∃ L6, FI X.K R P G H5 F5 σ (DX.forget own e5) L6 ∧ Da ∉ L6 := fun I5 => by
        obtain ⟨L6, I6⟩ := I5.forget (dead := own)
        exact ⟨L6, (I6.swap w4).less gg I.rg, lD I6 g2n⟩
      refine ht _ H4 F4 σ4 e1 L4 _ I4 ?_
      cases ett : tt e1 with
      | err => rw [ett] at q; exact q.elim
      | raise c e2 => rw [ett] at q; exact q.elim
      | ok b e2 =>
        rw [ett] at q
        intro H5 F5 L5 I5 s5 n5
        have s15 : Same F1 F5 := f2.trans (s4.trans s5)
        have n15 : NewF (addG G H [Da]) F1 F5 := n2.trans (n4.trans n5)
        cases b with
        | false =>
          rw [if_neg (by simp)]
          dsimp only at q
          obtain ⟨L6, I6, m6⟩ := fin I5
          have d5 : F5 Da = none := Classical.byContradiction fun z => (n15 Da z).elim (fun w => w fD) g2n
          have hv5 : H5 Da = some (.lst vs) := I5.gh _ _ g2
          exact ⟨hlt, e2, F5, L6, vs, acc, I6, ff.trans s15, nf.trans (n15.less gl), hv5, hr.mono s15, m6, d5, PostV.later s15 (n15.less gl) q⟩
        | true =>
          rw [if_pos rfl]
          dsimp only at q
          refine he _ H5 F5 σ4 e2 L5 _ I5 ?_
          cases eme : me e2 with
          | err => rw [eme] at q; exact q.elim
          | raise c e3 => rw [eme] at q; exact q.elim
          | ok rv e3 =>
            rw [eme] at q
            dsimp only at q
            intro v H6 F6 L6 Lr I6 s6 n6 r6 nd6 fr6
            cases ef : frzV e3 rv with
            | none => rw [ef] at q; exact q.elim
            | some p =>
              obtain ⟨d, e4⟩ := p
              rw [ef] at q
              dsimp only at q
              split at q
              · rename_i hsz
                obtain ⟨F7, L7, I7, s7, n7, r7, _, _⟩ := frzV_ok I6 r6 nd6 fr6 ef
                have s17 : Same F1 F7 := s15.trans (s6.trans s7)
                have n17 : NewF (addG G H [Da]) F1 F7 := n15.trans (n6.trans n7)
                obtain ⟨L8, I8, m8⟩ := fin I7
                have d7 : F7 Da = none := Classical.byContradiction fun z => (n17 Da z).elim (fun w => w fD) g2n
                refine ⟨vs, I7.gh _ _ g2, by rw [hr.1]; exact hsz, hlt, e4, F7, L8, vs ++ [v], acc ++ [d], I8.wr d7 gD m8, ff.trans s17, nf.trans (n17.less gl), upd_same, Reps.append (hr.mono s17) ⟨rfl, ?_⟩, m8, d7, PostV.later s17 (n17.less gl) q⟩
                intro j v' d' a b
                cases j with
                | zero => cases a; cases b; exact r7
                | succ j => simp at a
              · exact q.elim
  · have e : i = xs.length := by omega
    subst e
    rw [List.drop_length] at q
    refine .inl ⟨Wk.stop _ H (Nat.le_refl _) I.gh (ff.trans I.fh), ?_⟩
    exact q (.ref Da) H F1 L [Da] I (Same.refl F1) NewF.refl (.lst hv hr) (List.nodup_cons.2 ⟨nL, I.nd⟩) fun a ha => by obtain rfl := List.mem_singleton.1 ha; exact ⟨fD, gD⟩
end
end DX

namespace DX
open PySem PySem.Spec L2
open PyProof.Rows hiding St

/-- what an iterable comes to -/
inductive IR where
  | ok (xs : List D) (env : DEnv) | raise (c : Str) (env : DEnv) | err
def IOk (X : Cx) (W : WX) (R : Hp) (P : List (Option V)) (G F : Hp) (σ : St) (r : IR) (k : It → Hp → Prop) : Prop := match r with
  | .ok xs e => ∀ (J : It) (H' F' : Hp) (L' : List Addr), FI X.K R P G H' F' σ e L' → Same F F' → NewF G F F' → Walks X.K J xs G F' → k J H'
  | .raise c e => PRaise X W R P G F σ c e
  | .err => False
def MI (X : Cx) (W : WX) (R : Hp) (P : List (Option V)) (tg iter : Expr) (m : DEnv → IR) : Prop :=
  ∃ wi : TI, PI X tg iter wi ∧ ∀ (G H F : Hp) (σ : St) (env : DEnv) (L : List Addr) (k : It → Hp → Prop), FI X.K R P G H F σ env L → IOk X W R P G F σ (m env) k → wi σ H k
def mIt (it : DEnv → Val → Option (List D × DEnv)) (m : DEnv → ER) : DEnv → IR := fun env => match m env with
  | .ok rv e1 => match it e1 rv with
    | some (xs, e2) => .ok xs e2
    | none => .err
  | .raise c e => .raise c e
  | .err => .err
noncomputable def mR1 (m : DEnv → ER) : DEnv → IR := fun env => match m env with
  | .ok (.fz (.int j)) e1 => @ite _ (-(2 ^ 62) ≤ j ∧ j < 2 ^ 62) (Classical.propDecidable _) (.ok ((List.range j.toNat).map fun k => D.int (0 + (k : Nat))) e1) .err
  | .raise c e => .raise c e
  | _ => .err
noncomputable def mR2 (ma mb : DEnv → ER) : DEnv → IR := fun env => match mArgs [ma, mb] env with
  | .ok [.fz (.int i), .fz (.int j)] e1 => @ite _ (-(2 ^ 62) ≤ i ∧ i < 2 ^ 62 ∧ -(2 ^ 62) ≤ j ∧ j < 2 ^ 62) (Classical.propDecidable _) (.ok ((List.range (j - i).toNat).map fun k => D.int (i + (k : Nat))) e1) .err
  | .raise c e => .raise c e
  | _ => .err
section
variable {X : Cx} {W : WX} {R : Hp} {P : List (Option V)} {pos : Pos} {tg iter : Expr}
theorem me_run {e : Expr} {m : DEnv → ER} {G H F : Hp} {σ : St} {env : DEnv} {L : List Addr} {Q : VK} (h : ME X W R P e m) (I : FI X.K R P G H F σ env L)
    (k : match m env with
      | .ok rv env' => ∀ v H' F' L' Lr, FI X.K R P G H' F' σ env' L' → Same F F' → NewF G F F' → RepVal X.K H' F' σ v rv Lr → (Lr ++ L').Nodup → (∀ a ∈ Lr, F' a = none ∧ G a = none) → Q v H'
      | .raise c env' => PRaise X W R P G F σ c env'
      | .err => False) : tW X e σ H Q := h G H F σ env L Q I (by
  cases em : m env with
  | err => rw [em] at k; exact k
  | raise c e => rw [em] at k; exact k
  | ok rv e => rw [em] at k; exact k)
theorem mi_list {m : DEnv → ER} (hi : ME X W R P iter m) : MI X W R P tg iter (mIt itL m) := by
  refine ⟨_, pi_list pe_w, fun G H F σ env L k I q => ?_⟩
  refine me_run hi I ?_
  unfold mIt at q
  cases em : m env with
  | err => rw [em] at q; exact q
  | raise c e => rw [em] at q; exact q
  | ok rv e1 =>
    rw [em] at q
    dsimp only at q
    intro v H' F' L' Lr I' s n r nd fr
    cases e : itL e1 rv with
    | none => rw [e] at q; exact q.elim
    | some p =>
      obtain ⟨xs, e2⟩ := p
      rw [e] at q
      obtain ⟨a, vs, F2, L2, rfl, I2, ff, nf, hr, hl⟩ := itL_ok I' r nd fr e
      exact ⟨a, rfl, ⟨vs, hl H' I2.gh I2.fh⟩, q _ H' F2 L2 I2 (s.trans ff) (n.trans nf) (walks_list hl hr)⟩
theorem mi_tup {m : DEnv → ER} (hi : ME X W R P iter m) : MI X W R P tg iter (mIt itT m) := by
  refine ⟨_, pi_tup pe_w, fun G H F σ env L k I q => ?_⟩
  refine me_run hi I ?_
  unfold mIt itT at q
  cases em : m env with
  | err => rw [em] at q; exact q
  | raise c e => rw [em] at q; exact q
  | ok rv e1 =>
    rw [em] at q
    dsimp only at q
    intro v H' F' L' Lr I' s n r nd fr
    cases e : frzV e1 rv with
    | none => rw [e] at q; exact q.elim
    | some p =>
      obtain ⟨d, e2⟩ := p
      rw [e] at q
      cases d with
      | tup xs =>
        obtain ⟨F2, L2, I2, ff, nf, r2, _, _⟩ := frzV_ok I' r nd fr e
        cases r2 with
        | tup h hl hi =>
          have hS : ∀ H, Same G H → Same F2 H → SqT X.K H _ _ := fun H _ fh => SqT.mono fh h
          exact ⟨_, rfl, ⟨_, hS H' I2.gh I2.fh⟩, q _ H' F2 L2 I2 (s.trans ff) (n.trans nf) (walks_tup hS ⟨hl, hi⟩)⟩
      | _ => exact q.elim
theorem mi_R1 {a : Expr} {m : DEnv → ER} {p pos' : Pos} (hm : X.mg "range" = none) (hi : ME X W R P a m) (hgl : Gl X "range" := by rfl) (hst : starEach [a] X.env = [(false, eval a X.env)] := by rfl) :
    MI X W R P tg (.Call (.Name "range" p) [a] [] pos') (mR1 m) := by
  refine ⟨_, pi_range1 hgl hm (pa_cons pe_w pa_nil hst) hst, fun G H F σ env L k I q => ?_⟩
  show tW X a σ H fun x H1 => _
  refine me_run hi I ?_
  unfold mR1 at q
  cases em : m env with
  | err => rw [em] at q; exact q
  | raise c e => rw [em] at q; exact q
  | ok rv e1 =>
    rw [em] at q
    intro v H' F' L' Lr I' s n r nd fr
    cases rv with
    | fz d =>
      cases d with
      | int j =>
        obtain ⟨rfl, r⟩ := r
        cases r
        dsimp only at q
        split at q
        · rename_i hj
          exact ⟨j, rfl, hj.1, hj.2, q _ H' F' L' I' s n walks_range⟩
        · exact q.elim
      | _ => exact q.elim
    | _ => exact q.elim
def dLc (mi : DEnv → IR) (t : D → DEnv → Option DEnv) (own : List Nat) (tt : DEnv → TR) (me : DEnv → ER) : DEnv → ER := fun env => match mi env with
  | .ok xs e2 => lcL t own tt me xs (forget own e2) []
  | .raise c e => .raise c e
  | .err => .err
def dYes : DEnv → TR := fun env => .ok true env
/-- the inner frames of a comprehension -/
abbrev Blk (X : Cx) (scope : Scope) (φ : Cx → Prop) : Prop := ∀ (s : Shared) (H : Hp) (C : Addr) (cl : List (Str × Addr)) (fp : List Addr), φ (X.blk s H scope (compEnvC scope cl C X.env) fp)
abbrev aLc (X : Cx) (scope : Scope) (tg elt : Expr) : TG × TE := (fun v σ H Q => Blk X scope fun Y => tWg Y tg v σ H Q, fun σ H Q => Blk X scope fun Y => tW Y elt σ H Q)
theorem lc_tLc {wi : TI} {scope : Scope} {own : List (Str × Nat)} {elt : Expr} {ttw : TT} {mi : DEnv → IR} {t : D → DEnv → Option DEnv} {tt : DEnv → TR} {me : DEnv → ER} {G H F : Hp} {σ : St} {env : DEnv} {L : List Addr} {Q : VK}
    (hi : ∀ (G H F : Hp) (σ : St) (env : DEnv) (L : List Addr) (k : It → Hp → Prop), FI X.K R P G H F σ env L → IOk X W R P G F σ (mi env) k → wi σ H k)
    (hg : Blk X scope fun Y => MGo Y R P (own.map (·.2)) tg t) (he : Blk X scope fun Y => ME Y W0 R P elt me)
    (ht : ∀ (G H F : Hp) (σ : St) (env : DEnv) (L : List Addr) (Q : Bool → Hp → Prop), FI X.K R P G H F σ env L → PostT X W0 R P G F σ (tt env) Q → ttw σ H Q)
    (I : FI X.K R P G H F σ env L) (q : PostV X W R P G F σ (dLc mi t (own.map (·.2)) tt me env) Q) : tLc wi (aLc X scope tg elt).1 ttw (aLc X scope tg elt).2 (own.map (·.2)) σ H Q := by
  refine hi G H F σ env L _ I ?_
  unfold dLc at q
  cases em : mi env with
  | err => rw [em] at q; exact q
  | raise c e => rw [em] at q; exact q
  | ok xs e2 =>
    rw [em] at q
    dsimp only at q
    intro J H' F' L' I' s n Wk D hD
    obtain ⟨L3, I3⟩ := I'.forget (dead := own.map (·.2))
    exact lc_go (g := (aLc X scope tg elt).1) (tw := ttw) (te := (aLc X scope tg elt).2) (fun G H F σ σ0 env env' L v d k hw I r e q s0 H0 C cl fp => hg s0 H0 C cl fp G H F σ σ0 env env' L v d k hw I r e q) ht
      (fun G H F σ env L Q I q s0 H0 C cl fp => he s0 H0 C cl fp G H F σ env L Q I q) Wk I3 (PostV.later s n q) D hD
theorem tt_yes {R : Hp} {P : List (Option V)} : ∀ (G H F : Hp) (σ : St) (env : DEnv) (L : List Addr) (Q : Bool → Hp → Prop), FI X.K R P G H F σ env L → PostT X W0 R P G F σ (dYes env) Q → tYes σ H Q := fun G H F σ env L Q I q => q H F L I (Same.refl F) NewF.refl
theorem me_lc {elt : Expr} {scope : Scope} {own : List (Str × Nat)} {mi : DEnv → IR} {t : D → DEnv → Option DEnv} {me : DEnv → ER} (hc : X.calm = true) (hN : X.N.Nodup) (hi : MI X W R P tg iter mi) (ok : BlkOk X.N X.env.scope scope own)
    (hg : Blk X scope fun Y => MGo Y R P (own.map (·.2)) tg t) (he : Blk X scope fun Y => ME Y W0 R P elt me) (hs : ∀ x, foldedSetIterable iter X.env x = pure x := by intro _; rfl) :
    ME X W R P (.ListComp elt [⟨tg, iter, [], 0⟩] scope pos) (dLc mi t (own.map (·.2)) dYes me) := by
  intro G H F σ env L Q I q
  obtain ⟨wi, pi, hi⟩ := hi
  exact w_of (pe_lc (g := (aLc X scope tg elt).1) (tt := tYes) (te := (aLc X scope tg elt).2) hc hN pi ok (fun s H C cl fp => ⟨fun pins s1 σ H1 v u Q I r h => h s H C cl fp pins s1 u I r⟩) (fun _ _ _ _ _ => pts_nil) (fun s H C cl fp => ⟨fun pins s1 σ H1 Q I h => h s H C cl fp pins s1 I⟩) hs)
    (lc_tLc hi hg he tt_yes I q)
theorem me_lcIf {elt c : Expr} {scope : Scope} {own : List (Str × Nat)} {mi : DEnv → IR} {t : D → DEnv → Option DEnv} {tt : DEnv → TR} {me : DEnv → ER} (hc : X.calm = true) (hN : X.N.Nodup) (hi : MI X W R P tg iter mi) (ok : BlkOk X.N X.env.scope scope own)
    (hg : Blk X scope fun Y => MGo Y R P (own.map (·.2)) tg t) (ht : Blk X scope fun Y => MT Y W0 R P c tt) (he : Blk X scope fun Y => ME Y W0 R P elt me) (hs : ∀ x, foldedSetIterable iter X.env x = pure x := by intro _; rfl) :
    ME X W R P (.ListComp elt [⟨tg, iter, [c], 0⟩] scope pos) (dLc mi t (own.map (·.2)) tt me) := by
  intro G H F σ env L Q I q
  obtain ⟨wi, pi, hi⟩ := hi
  exact w_of (pe_lc (g := (aLc X scope tg elt).1) (tt := fun σ H Q => Blk X scope fun Y => tWt Y c σ H Q) (te := (aLc X scope tg elt).2) hc hN pi ok (fun s H C cl fp => ⟨fun pins s1 σ H1 v u Q I r h => h s H C cl fp pins s1 u I r⟩)
      (fun s H C cl fp => pts_one ⟨fun pins s1 σ H1 Q I h => h s H C cl fp pins s1 I⟩) (fun s H C cl fp => ⟨fun pins s1 σ H1 Q I h => h s H C cl fp pins s1 I⟩) hs)
    (lc_tLc hi hg he (fun G H F σ env L Q I q s0 H0 C cl fp => ht s0 H0 C cl fp G H F σ env L Q I q) I q)
theorem set_post {i : Nat} {r : ER} {G F : Hp} {σ : St} {D : Ends} (q : PostS X W R P G F (r.thn fun rv e => match putV e i rv with | some e' => .next e' | none => .err) D) : PostV X W R P G F σ r fun x H1 => gName i x σ H1 D.nx := by
  cases r with
  | err => exact q
  | raise c e => exact fun C H' F' L' g I' s n => q C σ H' F' L' g I' s n
  | ok rv e =>
    intro v H' F' L' Lr I' s n r nd fr
    have q' := PostS.later s n q
    dsimp only [ER.thn] at q'
    cases ep : putV e i rv with
    | none => rw [ep] at q'; exact q'.elim
    | some e2 =>
      rw [ep] at q'
      obtain ⟨F2, L2, I2, ff, nf⟩ := putV_ok I' r nd fr ep
      exact q' _ _ F2 L2 I2 ff nf
theorem ms_setLc {i : Nat} {y : Str} {py spos : Pos} {elt : Expr} {scope : Scope} {own : List (Str × Nat)} {mi : DEnv → IR} {t : D → DEnv → Option DEnv} {me : DEnv → ER} (hc : X.calm = true) (hN : X.N.Nodup) (hi : MI X W R P tg iter mi) (ok : BlkOk X.N X.env.scope scope own)
    (hg : Blk X scope fun Y => MGo Y R P (own.map (·.2)) tg t) (he : Blk X scope fun Y => ME Y W0 R P elt me) (hy : X.N[i]? = some y := by rfl) (hyl : X.env.scope.names.lookup y = some .local := by rfl)
    (hsw : swapsWith (.ListComp elt [⟨tg, iter, [], 0⟩] scope pos) (some (.Name y py)) spos.line X.env = pure true := by rfl) (hs : ∀ x, foldedSetIterable iter X.env x = pure x := by intro _; rfl) :
    MS X W R P (.Assign [.Name y py] (.ListComp elt [⟨tg, iter, [], 0⟩] scope pos) spos) (dSet i (dLc mi t (own.map (·.2)) dYes me)) := by
  intro G H F σ env L D I q
  obtain ⟨wi, pi, hi⟩ := hi
  exact ws_of (ps_setLc (g := (aLc X scope tg elt).1) (tt := tYes) (te := (aLc X scope tg elt).2) hc hN hy hyl hsw pi ok (fun s H C cl fp => ⟨fun pins s1 σ H1 v u Q I r h => h s H C cl fp pins s1 u I r⟩) (fun _ _ _ _ _ => pts_nil) (fun s H C cl fp => ⟨fun pins s1 σ H1 Q I h => h s H C cl fp pins s1 I⟩) hs)
    (lc_tLc hi hg he tt_yes I (set_post q))
theorem ms_setLcIf {i : Nat} {y : Str} {py spos : Pos} {elt c : Expr} {scope : Scope} {own : List (Str × Nat)} {mi : DEnv → IR} {t : D → DEnv → Option DEnv} {tt : DEnv → TR} {me : DEnv → ER} (hc : X.calm = true) (hN : X.N.Nodup) (hi : MI X W R P tg iter mi) (ok : BlkOk X.N X.env.scope scope own)
    (hg : Blk X scope fun Y => MGo Y R P (own.map (·.2)) tg t) (ht : Blk X scope fun Y => MT Y W0 R P c tt) (he : Blk X scope fun Y => ME Y W0 R P elt me) (hy : X.N[i]? = some y := by rfl) (hyl : X.env.scope.names.lookup y = some .local := by rfl)
    (hsw : swapsWith (.ListComp elt [⟨tg, iter, [c], 0⟩] scope pos) (some (.Name y py)) spos.line X.env = pure true := by rfl) (hs : ∀ x, foldedSetIterable iter X.env x = pure x := by intro _; rfl) :
    MS X W R P (.Assign [.Name y py] (.ListComp elt [⟨tg, iter, [c], 0⟩] scope pos) spos) (dSet i (dLc mi t (own.map (·.2)) tt me)) := by
  intro G H F σ env L D I q
  obtain ⟨wi, pi, hi⟩ := hi
  exact ws_of (ps_setLc (g := (aLc X scope tg elt).1) (tt := fun σ H Q => Blk X scope fun Y => tWt Y c σ H Q) (te := (aLc X scope tg elt).2) hc hN hy hyl hsw pi ok (fun s H C cl fp => ⟨fun pins s1 σ H1 v u Q I r h => h s H C cl fp pins s1 u I r⟩)
      (fun s H C cl fp => pts_one ⟨fun pins s1 σ H1 Q I h => h s H C cl fp pins s1 I⟩) (fun s H C cl fp => ⟨fun pins s1 σ H1 Q I h => h s H C cl fp pins s1 I⟩) hs)
    (lc_tLc hi hg he (fun G H F σ env L Q I q s0 H0 C cl fp => ht s0 H0 C cl fp G H F σ env L Q I q) I (set_post q))
end
end DX

namespace DX
open PySem PySem.Spec L2
open PyProof.Rows hiding St

/-- xs[i] = .. -/
def gAt (i : Nat) (mi : DEnv → ER) : D → DEnv → Option DEnv := fun d env => match env[i]? with
  | some (.v _ (.lst _)) => match mi env with
    | .ok (.fz (.int j)) e1 => match e1[i]? with
      | some (.v .ow (.lst xs)) => (ixN xs.length j).map fun k => e1.set i (.v .ow (.lst (xs.set k d)))
      | some (.v .io (.lst xs)) => (ixN xs.length j).map fun k => e1.set i (.v .io (.lst (xs.set k d)))
      | _ => none
    | _ => none
  | _ => none
section
variable {X : Cx} {W : WX} {R : Hp} {P : List (Option V)} {pos : Pos}
theorem mg_at {i : Nat} {x : Str} {ix : Expr} {mi : DEnv → ER} {xp : Pos} (hi : ME X W R P ix mi) (hN : X.N[i]? = some x := by rfl) (hv : Vis X.env.scope x := by first | exact Or.inl rfl | exact Or.inr (Or.inl rfl) | exact Or.inr (Or.inr rfl))
    (hd : (x == ("__debug__" : Str)) = false := by decide) (hcd : (x == ("__classdict__" : Str)) = false := by decide)
    (ha : ∀ v, assign (.Subscript (.Name x xp) ix pos) X.env v = (do
      let ov ← holding [v] (eval (.Name x xp) X.env)
      let iv ← holding [v, ov] (eval ix X.env)
      standAt pos
      holding [v, ov, iv] (setItem ov iv v)
      release [v, ov, iv] []) := by intro _; rfl) : MG X R P (.Subscript (.Name x xp) ix pos) (gAt i mi) := by
  intro G H F σ env env' L v d k I r e q
  refine wg_of (pg_sub (pe_var hN hv hd hcd) pe_w set_list ha) ?_
  unfold gAt at e
  cases e0 : env[i]? with
  | none => rw [e0] at e; cases e
  | some s0 =>
    rw [e0] at e
    cases s0 with
    | un => cases e
    | pin => cases e
    | v m d0 =>
    cases d0 with
    | lst xs0 =>
      dsimp only at e
      obtain ⟨u, e1, r1⟩ := I.er.get (I.rg.trans I.gh) I.fh e0
      refine ⟨u, e1, me_run hi I ?_⟩
      cases em : mi env with
      | err => rw [em] at e; cases e
      | raise c env1 => rw [em] at e; cases e
      | ok rv env1 =>
        rw [em] at e
        intro y H' F' L' Lr I' s n r' nd fr
        cases rv with
        | fz dj =>
          cases dj with
          | int j =>
            obtain ⟨_, r'⟩ := r'
            cases r'
            dsimp only at e
            have fin : ∀ {m : Mode} {xs : List D}, (m = .ow ∨ m = .io) → env1[i]? = some (.v m (.lst xs)) → (ixN xs.length j).map (fun k => env1.set i (.v m (.lst (xs.set k d)))) = some env' → rSetL u (.int j) v H' fun H3 => k σ H3 := by
              intro m xs hm e2 e
              cases ek : ixN xs.length j with
              | none => rw [ek] at e; cases e
              | some kk =>
                rw [ek] at e
                cases e
                obtain ⟨a, ea, ro, put⟩ := I'.mutate hm e2
                rw [e1] at ea
                cases ea
                cases ro with
                | lst h hi =>
                  obtain ⟨L3, I3⟩ := put _ _ (.lst upd_same (Reps.set kk (r.mono s) hi))
                  exact ⟨a, _, j, kk, rfl, rfl, h, by rw [hi.1]; exact ek, q σ _ F' L3 I3 s n⟩
            cases e2 : env1[i]? with
            | none => rw [e2] at e; cases e
            | some s2 =>
              rw [e2] at e
              cases s2 with
              | un => cases e
              | pin => cases e
              | v m d2 =>
                cases d2 with
                | lst xs =>
                  cases m with
                  | ow => exact fin (.inl rfl) e2 e
                  | io => exact fin (.inr rfl) e2 e
                  | fz => cases e
                  | rd => cases e
                | _ => cases m <;> cases e
          | _ => cases e
        | _ => cases e
    | _ => cases e
end
/-- constants of the module -/
theorem const_tup {K : PySem.W.Frag} {mg : Str → Option Value} {x : Str} {a : Addr} {od : Option Addr} {its : Array Value} {n : Nat} {sl : Array (Option Value)} {ds : List D} {vs : List V} (g : mg x = some (.ref a)) (h : K.lookup a = some ⟨.type "tuple", od, .seq its n, sl⟩)
    (hv : Vals vs its.toList) (hl : its.size ≤ sizeLine) (hr : ∀ F, Reps K F vs ds) : GConst K mg x (.tup ds) :=
  ⟨.ref a, .ref a, g, rfl, fun F => .tup (.inr ⟨_, its, n, h, rfl, rfl, hl, hv⟩) (hr F).1 (hr F).2⟩
theorem reps_ints {K : PySem.W.Frag} (F : Hp) : ∀ ns : List Int, Reps K F (ns.map V.int) (ns.map D.int) := fun ns => ⟨by simp, fun i v x a b => by
  rw [List.getElem?_map] at a b
  cases e : ns[i]? with
  | none => rw [e] at a; cases a
  | some k => rw [e] at a b; cases a; cases b; exact .int k⟩
theorem reps_strs {K : PySem.W.Frag} (F : Hp) : ∀ ns : List Str, Reps K F (ns.map V.str) (ns.map D.str) := fun ns => ⟨by simp, fun i v x a b => by
  rw [List.getElem?_map] at a b
  cases e : ns[i]? with
  | none => rw [e] at a; cases a
  | some k => rw [e] at a b; cases a; cases b; exact .str k⟩
theorem const_int {K : PySem.W.Frag} {mg : Str → Option Value} {x : Str} {i : Int} {t : Tok} (g : mg x = some (.int i t)) : GConst K mg x (.int i) := ⟨.int i, _, g, ⟨t, rfl⟩, fun F => .int i⟩
theorem const_str {K : PySem.W.Frag} {mg : Str → Option Value} {x : Str} {s : Str} {t : Tok} (g : mg x = some (.str s t)) : GConst K mg x (.str s) := ⟨.str s, _, g, ⟨t, rfl⟩, fun F => .str s⟩
end DX

namespace DX
open PySem PySem.Spec L2
open PyProof.Rows hiding St

/-- numbers below 2 to the k -/
def Bd (k : Nat) (a : Int) : Prop := a.natAbs < 2 ^ k
theorem Bd.mono {k m : Nat} {a : Int} (h : Bd k a) (l : k ≤ m) : Bd m a := Nat.lt_of_lt_of_le h (Nat.pow_le_pow_right (by decide) l)
theorem Bd.le {k : Nat} {a b : Int} (h : Bd k a) (l : b.natAbs ≤ a.natAbs) : Bd k b := Nat.lt_of_le_of_lt l h
theorem Bd.add {k m n : Nat} {a b : Int} (ha : Bd k a) (hb : Bd m b) (h1 : k + 1 ≤ n) (h2 : m + 1 ≤ n) : Bd n (a + b) := by
  have ha := Bd.mono (m := n - 1) ha (by omega)
  have hb := Bd.mono (m := n - 1) hb (by omega)
  unfold Bd at *
  have e : 2 ^ n = 2 ^ (n - 1) + 2 ^ (n - 1) := by
    obtain ⟨j, rfl⟩ : ∃ j, n = j + 1 := ⟨n - 1, by omega⟩
    rw [Nat.pow_succ]; simp; omega
  omega
theorem Bd.neg {k : Nat} {a : Int} (h : Bd k a) : Bd k (-a) := by unfold Bd at *; omega
theorem Bd.sub {k m n : Nat} {a b : Int} (ha : Bd k a) (hb : Bd m b) (h1 : k + 1 ≤ n) (h2 : m + 1 ≤ n) : Bd n (a - b) := by
  rw [Int.sub_eq_add_neg]; exact ha.add hb.neg h1 h2
theorem Bd.mul {k m n : Nat} {a b : Int} (ha : Bd k a) (hb : Bd m b) (h1 : k + m ≤ n) : Bd n (a * b) := by
  refine Bd.mono (k := k + m) (m := n) ?_ h1
  unfold Bd at *
  rw [Int.natAbs_mul, Nat.pow_add]
  exact Nat.mul_lt_mul'' ha hb
theorem log2_le_of {k n : Nat} (h : n < 2 ^ k) : n.log2 ≤ k := by
  by_cases e : n = 0
  · subst e; simp [Nat.log2_zero]
  · exact Nat.le_of_lt ((Nat.log2_lt e).2 h)
theorem mulOk {k m : Nat} {a b : Int} (ha : Bd k a) (hb : Bd m b) (h : k + m < 134217720) : MulOk a b := Nat.lt_of_le_of_lt (Nat.add_le_add (log2_le_of ha) (log2_le_of hb)) h
theorem divOk {k : Nat} {b : Int} (hb : Bd k b) (h0 : 0 < b) (h : k < 9000) : DivOk b := ⟨h0, Nat.lt_of_le_of_lt (log2_le_of hb) h⟩
theorem gMul_ok {k m : Nat} {a b : Int} (ha : Bd k a) (hb : Bd m b) (h : k + m < 134217720) : gMul [.int a, .int b] = some (.fz (.int (a * b))) := if_pos (mulOk ha hb h)
theorem gDiv_ok {k : Nat} {a b : Int} (hb : Bd k b) (h0 : 0 < b) (h : k < 9000) : gDiv [.int a, .int b] = some (.fz (.int (a / b))) := if_pos (divOk hb h0 h)
theorem gMod_ok {a b : Int} (h0 : 0 < b) : gMod [.int a, .int b] = some (.fz (.int (a % b))) := if_pos h0
theorem bd_small (k : Nat) {a : Int} (h : a.natAbs < 2 ^ k) : Bd k a := h
theorem Bd.ediv {k : Nat} {a b : Int} (h : Bd k a) : Bd k (a / b) := h.le (Int.natAbs_ediv_le_natAbs a b)
theorem Bd.emod {k : Nat} {a b : Int} (h0 : 0 < b) (h : Bd k b) : Bd k (a % b) := by
  unfold Bd at *
  have := Int.emod_nonneg a (Int.ne_of_gt h0)
  have := Int.emod_lt_of_pos a h0
  omega

theorem deq_int (a b : Int) : deq (.int a) (.int b) = some (decide (a = b)) := by
  show some (a == b) = _
  rfl
theorem gEq_int (a b : Int) : gEq [.int a, .int b] = some (.fz (.bl (decide (a = b)))) := rfl
theorem gNe_int (a b : Int) : gNe [.int a, .int b] = some (.fz (.bl (!decide (a = b)))) := rfl
theorem gLt_int (a b : Int) : gLt [.int a, .int b] = some (.fz (.bl (decide (a < b)))) := rfl
theorem gGt_int (a b : Int) : gGt [.int a, .int b] = some (.fz (.bl (decide (b < a)))) := rfl
theorem gLe_int (a b : Int) : gLe [.int a, .int b] = some (.fz (.bl (decide (a ≤ b)))) := rfl
theorem gGe_int (a b : Int) : gGe [.int a, .int b] = some (.fz (.bl (decide (b ≤ a)))) := rfl

/-- a loop whose body always goes on -/
theorem forL_inv {t : D → DEnv → Option DEnv} {dead : List Nat} {body : DEnv → FR} (Inv : Nat → DEnv → Prop) :
    ∀ (xs : List D) (n : Nat) (env : DEnv), Inv n env →
      (∀ (i : Nat) (x : D) (e : DEnv), xs[i]? = some x → Inv (n + i) e → ∃ e1 e2, t x (forget dead e) = some e1 ∧ (body e1 = .next e2 ∨ body e1 = .cnt e2) ∧ Inv (n + i + 1) e2) →
      ∃ e, forL t dead body xs env = .next (forget dead e) ∧ Inv (n + xs.length) e
  | [], n, env, h, _ => ⟨env, rfl, h⟩
  | x :: xs, n, env, h, st => by
    obtain ⟨e1, e2, h1, h2, h3⟩ := st 0 x env rfl h
    obtain ⟨e, r, ri⟩ := forL_inv Inv xs (n + 1) e2 h3 fun i y e' hy hi => by
      have := st (i + 1) y e' hy (by rwa [show n + (i + 1) = n + 1 + i by omega])
      rwa [show n + (i + 1) + 1 = n + 1 + i + 1 by omega] at this
    refine ⟨e, ?_, by rwa [List.length_cons, show n + (xs.length + 1) = n + 1 + xs.length by omega]⟩
    simp only [forL, h1]
    rcases h2 with h2 | h2 <;> simp only [h2, r]

theorem atI_nn {α : Type} (xs : List α) (i : Nat) : atI xs (i : Int) = xs[i]? := by
  unfold atI ixN
  rw [if_pos (Int.natCast_nonneg i)]
  by_cases h : i < xs.length
  · rw [if_pos (by omega)]; simp
  · rw [if_neg (by omega)]; simp [List.getElem?_eq_none (Nat.le_of_not_lt h)]
def rng (n : Nat) : List D := (List.range n).map fun k => D.int (k : Nat)
theorem rng_get {n i : Nat} {x : D} (h : (rng n)[i]? = some x) : x = .int (i : Nat) ∧ i < n := by
  simp only [rng, List.getElem?_map, Option.map_eq_some_iff] at h
  obtain ⟨j, hj, rfl⟩ := h
  obtain ⟨hi, rfl⟩ := List.getElem?_eq_some_iff.1 hj
  simp only [List.length_range] at hi
  exact ⟨by simp, hi⟩
theorem rng_len (n : Nat) : (rng n).length = n := by simp [rng]
noncomputable def forR1 (rv : Val) (t : D → DEnv → Option DEnv) (dead : List Nat) (mb : DEnv → FR) (e1 : DEnv) : FR := match rv with
  | .fz (.int j) => @ite _ (-(2 ^ 62) ≤ j ∧ j < 2 ^ 62) (Classical.propDecidable _) (forL t dead mb ((List.range j.toNat).map fun k => D.int (0 + (k : Nat))) e1) .err
  | _ => .err
theorem dForR1_eq (m : DEnv → ER) (t : D → DEnv → Option DEnv) (dead : List Nat) (mb : DEnv → FR) (env : DEnv) : dForR1 m t dead mb env = (m env).thn fun rv e1 => forR1 rv t dead mb e1 := by
  unfold dForR1
  congr
theorem forR1_nat {n : Nat} (h : n < 4611686018427387904) (t : D → DEnv → Option DEnv) (dead : List Nat) (mb : DEnv → FR) (e1 : DEnv) : forR1 (.fz (.int (n : Nat))) t dead mb e1 = forL t dead mb (rng n) e1 := by
  simp only [forR1, rng]
  rw [if_pos (by omega)]
  simp
/-- a loop over range whose body always goes on -/
theorem forRng {t : D → DEnv → Option DEnv} {dead : List Nat} {body : DEnv → FR} (Inv : Nat → DEnv → Prop) (n : Nat) (env : DEnv) (h0 : Inv 0 env)
    (st : ∀ (i : Nat) (e : DEnv), i < n → Inv i e → ∃ e1 e2, t (.int (i : Nat)) (forget dead e) = some e1 ∧ (body e1 = .next e2 ∨ body e1 = .cnt e2) ∧ Inv (i + 1) e2) :
    ∃ e, forL t dead body (rng n) env = .next (forget dead e) ∧ Inv n e := by
  have := forL_inv Inv (rng n) 0 env h0 fun i x e hx hi => by
    obtain ⟨rfl, hn⟩ := rng_get hx
    rw [Nat.zero_add] at hi ⊢
    exact st i e hn hi
  simpa [rng_len] using this
theorem atI_0 {α : Type} (xs : List α) : atI xs 0 = xs[0]? := atI_nn xs 0
theorem atI_1 {α : Type} (xs : List α) : atI xs 1 = xs[1]? := atI_nn xs 1
theorem atI_lit {α : Type} (xs : List α) (n : Nat) : atI xs (no_index (OfNat.ofNat n) : Int) = xs[(OfNat.ofNat n : Nat)]? := atI_nn xs n
theorem Bd.lit {k : Nat} {a : Int} (h : a.natAbs.blt (2 ^ k) = true := by decide) : Bd k a := by
  have e := Nat.blt_eq (x := a.natAbs) (y := 2 ^ k)
  unfold Bd
  exact e ▸ h
theorem int_abs (a : Int) : (if a < 0 then -a else a) = (a.natAbs : Int) := by split <;> omega
theorem gMax1 (n : Nat) : gMax [.int 1, .int (n : Nat)] = some (.fz (.int ((max 1 n : Nat) : Int))) := by
  simp only [gMax]
  congr 3
  split <;> omega
theorem cutL_len {α : Type} (xs : List α) (lo hi : Option Int) : (cutL xs lo hi).length ≤ xs.length := by simp [cutL]; omega
theorem gSlice_scr (ns : List Int) (lo hi : Option Int) : gSlice lo hi (.scr ns) = some (.tmp (.lst ((cutL ns lo hi).map D.int))) := rfl
theorem share_key {k m : Nat} {a b : Int} (hb : 0 < b) (Ba : Bd k a) (Bb : Bd m b) : 0 < b / (Int.gcd a b : Nat) ∧ Int.gcd (a / (Int.gcd a b : Nat)) (b / (Int.gcd a b : Nat)) = 1 ∧ a / (Int.gcd a b : Nat) * b = a * (b / (Int.gcd a b : Nat)) ∧ Bd k (a / (Int.gcd a b : Nat)) ∧ Bd m (b / (Int.gcd a b : Nat)) := by
  have hg : 0 < Int.gcd a b := Int.gcd_pos_of_ne_zero_right a (by omega)
  have d1 : (Int.gcd a b : Int) ∣ a := Int.gcd_dvd_left a b
  have d2 : (Int.gcd a b : Int) ∣ b := Int.gcd_dvd_right a b
  obtain ⟨x, hx⟩ := d1
  obtain ⟨y, hy⟩ := d2
  have hgi : (0 : Int) < (Int.gcd a b : Nat) := by omega
  have ex : a / (Int.gcd a b : Nat) = x := Int.ediv_eq_of_eq_mul_right (by omega) hx
  have ey : b / (Int.gcd a b : Nat) = y := Int.ediv_eq_of_eq_mul_right (by omega) hy
  refine ⟨?_, ?_, ?_, Ba.ediv, Bb.ediv⟩
  · rw [ey]
    rw [hy] at hb
    exact Int.pos_of_mul_pos_right hb (by omega)
  · rw [ex, ey]
    have e1 : Int.gcd a b = Int.gcd ((Int.gcd a b : Nat) * x) ((Int.gcd a b : Nat) * y) := by rw [← hx, ← hy]
    rw [Int.gcd_mul_left, Int.natAbs_natCast] at e1
    exact Nat.eq_of_mul_eq_mul_left hg (by omega)
  · rw [ex, ey]
    generalize (Int.gcd a b : Int) = g at hx hy
    grind

theorem lowest_eq {p q r s : Int} (hq : 0 < q) (hs : 0 < s) (h1 : Int.gcd p q = 1) (h2 : Int.gcd r s = 1) (e : r * q = p * s) : r = p ∧ s = q := by
  have en : r.natAbs * q.natAbs = p.natAbs * s.natAbs := by rw [← Int.natAbs_mul, ← Int.natAbs_mul, e]
  have c1 : Nat.Coprime q.natAbs p.natAbs := by rw [Nat.coprime_comm]; exact h1
  have c2 : Nat.Coprime s.natAbs r.natAbs := by rw [Nat.coprime_comm]; exact h2
  have d1 : s.natAbs ∣ q.natAbs := c2.dvd_of_dvd_mul_left ⟨p.natAbs, by rw [en, Nat.mul_comm]⟩
  have d2 : q.natAbs ∣ s.natAbs := c1.dvd_of_dvd_mul_left ⟨r.natAbs, by rw [← en, Nat.mul_comm]⟩
  have es : s = q := by have := Nat.dvd_antisymm d1 d2; omega
  subst es
  exact ⟨Int.eq_of_mul_eq_mul_right (by omega) e, rfl⟩
theorem gEq_pair (a b c d : Int) : gEq [.tup [.int a, .int b], .tup [.int c, .int d]] = some (.fz (.bl (decide (a = c) && (decide (b = d) && true)))) := rfl
theorem gNe_pair (a b c d : Int) : gNe [.tup [.int a, .int b], .tup [.int c, .int d]] = some (.fz (.bl (!(decide (a = c) && (decide (b = d) && true))))) := rfl
/-- a comprehension whose element is told of each one alone -/
theorem lcL_all {t : D → DEnv → Option DEnv} {own : List Nat} {me : DEnv → ER} {env : DEnv} (Q : D → D → Prop) : ∀ (xs acc : List D), acc.length + xs.length ≤ sizeLine →
    (∀ x ∈ xs, ∃ e1 rv e3 d e4, t x env = some e1 ∧ me e1 = .ok rv e3 ∧ frzV e3 rv = some (d, e4) ∧ forget own e4 = env ∧ Q x d) →
    ∃ ys, lcL t own dYes me xs env acc = .ok (.tmp (.lst (acc ++ ys))) env ∧ ys.length = xs.length ∧ ∀ (i : Nat) (x y : D), xs[i]? = some x → ys[i]? = some y → Q x y
  | [], acc, _, _ => ⟨[], by simp [lcL], rfl, fun i x y h => by simp at h⟩
  | x :: xs, acc, hl, h => by
    obtain ⟨e1, rv, e3, d, e4, h1, h2, h3, h4, h5⟩ := h x List.mem_cons_self
    rw [List.length_cons] at hl
    obtain ⟨ys, r, l, q⟩ := lcL_all Q xs (acc ++ [d]) (by rw [List.length_append]; simp; omega) fun y hy => h y (List.mem_cons_of_mem _ hy)
    have hlt : acc.length < sizeLine := by omega
    refine ⟨d :: ys, ?_, by simp [l], fun i x' y' a b => ?_⟩
    · simp only [lcL, h1, dYes, h2, h3, h4, hlt, if_true]
      rw [r]
      simp
    · cases i with
      | zero => cases a; cases b; exact h5
      | succ i => exact q i x' y' (by simpa using a) (by simpa using b)
theorem lcm_step {low q : Int} (h1 : 0 < low) (h2 : 0 < q) : 0 < low * (q / (Int.gcd low q : Nat)) ∧ q ∣ low * (q / (Int.gcd low q : Nat)) ∧ low * (q / (Int.gcd low q : Nat)) ≤ low * q := by
  have hg : 0 < Int.gcd low q := Int.gcd_pos_of_ne_zero_right low (by omega)
  obtain ⟨u, hu⟩ : (Int.gcd low q : Int) ∣ low := Int.gcd_dvd_left low q
  obtain ⟨v, hv⟩ : (Int.gcd low q : Int) ∣ q := Int.gcd_dvd_right low q
  have hgi : (0 : Int) < (Int.gcd low q : Nat) := by omega
  have ev : q / (Int.gcd low q : Nat) = v := Int.ediv_eq_of_eq_mul_right (by omega) hv
  rw [ev]
  have hv0 : 0 < v := Int.pos_of_mul_pos_right (by rw [← hv]; exact h2) (by omega)
  refine ⟨Int.mul_pos h1 hv0, ⟨u, ?_⟩, ?_⟩
  · generalize (Int.gcd low q : Int) = g at hu hv
    grind
  · refine Int.mul_le_mul_of_nonneg_left ?_ (by omega)
    rw [← ev]
    exact Int.ediv_le_self _ (by omega)
theorem mR1_nat {n : Nat} (h : n < 4611686018427387904) (env : DEnv) : mR1 (dC (.int (n : Nat))) env = .ok (rng n) env := by
  simp only [mR1, dC]
  rw [if_pos (by omega)]
  simp [rng]
theorem forR1_two (t : D → DEnv → Option DEnv) (dead : List Nat) (mb : DEnv → FR) (e : DEnv) : forR1 (.fz (.int 2)) t dead mb e = forL t dead mb [.int 0, .int 1] e := forR1_nat (n := 2) (by decide) t dead mb e
end DX

namespace K05
open PySem PySem.Spec L2 DX
open PyProof.Rows hiding St
noncomputable section
def errAll : List Str := ["NoShare"]
def M__law_cell_at : DEnv → FR :=
  (dSeq (dIf (dTst (dPrim gLt [(dVar 1), (dPrim gLen [(dVar 0)])])) (dRet (dPrim gIx [(dVar 0), (dVar 1)])) (fun env => .next env))
    (dRet (dC (.int 0))))
def F__law_cell_at : DEnv → FnR := runFn M__law_cell_at 2
def B__law_row_1 : DEnv → FR :=
  (dSet 4 (dPrim gDiv [(dVar 4), (dPrim gPow [(dC (.int 10)), (dC (.int 24))])]))
def B__law_row_2 : DEnv → FR :=
  (dIf (dTst (dPrim gGt [(dVar 4), (dC (.int 0))])) (dSeq (dDrop (dMutL 3 gAppend [(dPrim gMod [(dVar 2), (dPrim gPow [(dC (.int 10)), (dC (.int 24))])])]))
    (dSet 2 (dPrim gDiv [(dVar 2), (dPrim gPow [(dC (.int 10)), (dC (.int 24))])]))) (dSeq (dSet 6 (dPrim gMod [(dPrim gMul [(dPrim gAdd [(dPrim gAdd [(dPrim gAdd [(dPrim gMod [(dVar 2), (dC (.int 2147483629))]), (dPrim gMul [(dC (.int 7919)), (dVar 5)])]), (dPrim gMul [(dVar 5), (dVar 5)])]), (dC (.int 1))]), (dC (.int 48271))]), (dC (.int 2147483647))]))
    (dSeq (dSet 7 (dPrim gMod [(dPrim gMul [(dPrim gAdd [(dVar 6), (dPrim gMul [(dC (.int 31)), (dVar 5)])]), (dC (.int 69621))]), (dC (.int 998244353))]))
    (dDrop (dMutL 3 gAppend [(dPrim gAdd [(dPrim gMul [(dVar 6), (dVar 7)]), (dPrim gDiv [(dVar 6), (dC (.int 7))])])])))))
def M__law_row : DEnv → FR :=
  (dSeq (dSet 2 (dPrim gDiv [(dVar 0), (dC (.int 2))]))
    (dSeq (dSet 3 (dMake dLst []))
    (dSeq (dSet 4 (dVar 2))
    (dSeq (dForR1 (dVar 1) (gNm 5) [5] B__law_row_1)
    (dSeq (dForR1 (dVar 1) (gNm 5) [5, 6, 7] B__law_row_2)
    (dRet (dVar 3)))))))
def F__law_row : DEnv → FnR := runFn M__law_row 8
def M__law_number : DEnv → FR :=
  (dSeq (dIf (dTst (dPrim gEq [(dPrim gMod [(dVar 1), (dC (.int 3))]), (dC (.int 0))])) (dRet (dPrim gSub [(dPrim gMod [(dVar 0), (dC (.int 13))]), (dC (.int 6))])) (fun env => .next env))
    (dRet (dPrim gMul [(dPrim gAdd [(dVar 0), (dPrim gMul [(dPrim gPow [(dC (.int 10)), (dC (.int 24))]), (dPrim gDiv [(dVar 1), (dC (.int 6))])])]), (dPrim gSub [(dC (.int 1)), (dPrim gMul [(dC (.int 2)), (dPrim gMod [(dPrim gDiv [(dVar 1), (dC (.int 3))]), (dC (.int 2))])])])])))
def F__law_number : DEnv → FnR := runFn M__law_number 2
def C__law_part_1 : DEnv → TR :=
  (dTst (dPrim gGt [(dVar 1), (dC (.int 0))]))
def B__law_part_1 : DEnv → FR :=
  (dSeq (dSet 2 (dPrim gMod [(dVar 0), (dVar 1)]))
    (dSeq (dSet 0 (dVar 1))
    (dSet 1 (dVar 2))))
def M__law_part : DEnv → FR :=
  (dSeq (dWhile C__law_part_1 [2] B__law_part_1)
    (dRet (dVar 0)))
def F__law_part : DEnv → FnR := runFn M__law_part 3
def M__law_share : DEnv → FR :=
  (dSeq (dSet 2 (dCall [.va, .va] F__law_part [(dPrim gAbs [(dVar 0)]), (dVar 1)]))
    (dRet (dMake dTup [(dPrim gDiv [(dVar 0), (dVar 2)]), (dPrim gDiv [(dVar 1), (dVar 2)])])))
def F__law_share : DEnv → FnR := runFn M__law_share 3
def M__law_point : DEnv → FR :=
  (dSeq (dSet 1 (dPrim gIx [(dMake dLst [(dC (.int 1)), (dPrim gAdd [(dC (.int 1)), (dPrim gMod [(dPrim gIx [(dVar 0), (dC (.int 4))]), (dC (.int 12))])]), (dPrim gAdd [(dC (.int 1)), (dPrim gMod [(dPrim gIx [(dVar 0), (dC (.int 4))]), (dPrim gPow [(dC (.int 10)), (dC (.int 2))])])]), (dC (.int 2))]), (dPrim gMod [(dPrim gIx [(dVar 0), (dC (.int 5))]), (dC (.int 4))])]))
    (dRet (dMake dTup [(dCall [.va, .va] F__law_share [(dCall [.va, .va] F__law_number [(dPrim gIx [(dVar 0), (dC (.int 0))]), (dPrim gIx [(dVar 0), (dC (.int 1))])]), (dVar 1)]), (dCall [.va, .va] F__law_share [(dCall [.va, .va] F__law_number [(dPrim gIx [(dVar 0), (dC (.int 2))]), (dPrim gIx [(dVar 0), (dC (.int 3))])]), (dVar 1)])])))
def F__law_point : DEnv → FnR := runFn M__law_point 2
def B__law_scaled_1 : DEnv → FR :=
  (dSet 1 (dPrim gMul [(dVar 1), (dPrim gDiv [(dPrim gIx [(dVar 3), (dC (.int 1))]), (dCall [.va, .va] F__law_part [(dVar 1), (dPrim gIx [(dVar 3), (dC (.int 1))])])])]))
def B__law_scaled_2 : DEnv → FR :=
  (dFor itT (dVar 2) (gNm 3) [3] B__law_scaled_1)
def K__law_scaled_1 : DEnv → ER :=
  (dMake dTup [(dPrim gMul [(dPrim gIx [(dVar 4), (dC (.int 0))]), (dPrim gDiv [(dVar 1), (dPrim gIx [(dVar 4), (dC (.int 1))])])]), (dPrim gMul [(dPrim gIx [(dVar 5), (dC (.int 0))]), (dPrim gDiv [(dVar 1), (dPrim gIx [(dVar 5), (dC (.int 1))])])])])
def M__law_scaled : DEnv → FR :=
  (dSeq (dSet 1 (dC (.int 1)))
    (dSeq (dFor itL (dVar 0) (gNm 2) [2, 3] B__law_scaled_2)
    (dRet (dMake dTup [(dVar 1), (dLc (mIt itL (dVar 0)) (gTp [(gNm 4), (gNm 5)]) [4, 5] dYes K__law_scaled_1)]))))
def F__law_scaled : DEnv → FnR := runFn M__law_scaled 6
def K__law_four_1 : DEnv → ER :=
  (dCall [.va] F__law_point [(dSl2 (dVar 0) (dPrim gMul [(dC (.int 6)), (dVar 6)]) (dPrim gAdd [(dPrim gMul [(dC (.int 6)), (dVar 6)]), (dC (.int 6))]))])
def B__law_four_1 : DEnv → FR :=
  (dSeq (dSet 7 (dPrim gSub [(dPrim gIx [(dPrim gIx [(dVar 3), (dC (.int 1))]), (dVar 6)]), (dPrim gIx [(dPrim gIx [(dVar 3), (dC (.int 0))]), (dVar 6)])]))
    (dDrop (dMutL 5 gAppend [(dCall [.va, .va] F__law_share [(dPrim gAdd [(dPrim gIx [(dPrim gIx [(dVar 3), (dC (.int 2))]), (dVar 6)]), (dPrim gMul [(dVar 4), (dVar 7)])]), (dVar 2)])])))
def M__law_four : DEnv → FR :=
  (dSeq (dSet 1 (dLc (mR1 (dC (.int 4))) (gNm 6) [6] dYes K__law_four_1))
    (dSeq (dIf (dTst (dPrim gEq [(dPrim gMod [(dPrim gIx [(dVar 0), (dC (.int 24))]), (dC (.int 8))]), (dC (.int 1))])) (dAsg (gAt 1 (dPrim gAdd [(dC (.int 1)), (dPrim gMod [(dPrim gDiv [(dPrim gIx [(dVar 0), (dC (.int 25))]), (dC (.int 4))]), (dC (.int 3))])])) (dPrim gIx [(dVar 1), (dPrim gMod [(dPrim gIx [(dVar 0), (dC (.int 25))]), (dC (.int 4))])])) (fun env => .next env))
    (dSeq (dIf (dTst (dPrim gGt [(dPrim gMod [(dPrim gIx [(dVar 0), (dC (.int 24))]), (dC (.int 8))]), (dC (.int 5))])) (dSeq (dAsg (gTp [(gNm 2), (gNm 3)]) (dCall [.rd] F__law_scaled [(dVar 1)]))
    (dSeq (dSet 4 (dPrim gSub [(dPrim gMod [(dPrim gIx [(dVar 0), (dC (.int 25))]), (dC (.int 7))]), (dC (.int 3))]))
    (dSeq (dSet 5 (dMake dLst []))
    (dSeq (dForR1 (dC (.int 2)) (gNm 6) [6, 7] B__law_four_1)
    (dAsg (gAt 1 (dC (.int 3))) (dPrim gTuple [(dVar 5)])))))) (fun env => .next env))
    (dRet (dVar 1)))))
def F__law_four : DEnv → FnR := runFn M__law_four 8
def C_common_part_1 : DEnv → TR :=
  (dTst (dPrim gGt [(dVar 1), (dC (.int 0))]))
def B_common_part_1 : DEnv → FR :=
  (dSeq (dSet 2 (dPrim gMod [(dVar 0), (dVar 1)]))
    (dSeq (dSet 0 (dVar 1))
    (dSet 1 (dVar 2))))
def M_common_part : DEnv → FR :=
  (dSeq (dWhile C_common_part_1 [2] B_common_part_1)
    (dRet (dVar 0)))
def F_common_part : DEnv → FnR := runFn M_common_part 3
def M_share (rec : DEnv → FnR) : DEnv → FR :=
  (dSeq (dIf (dTst (dPrim gEq [(dVar 1), (dC (.int 0))])) (fun env => .raise "NoShare" env) (fun env => .next env))
    (dSeq (dIf (dTst (dPrim gLt [(dVar 1), (dC (.int 0))])) (dRet (dCall [.va, .va] rec [(dPrim gSub [(dC (.int 0)), (dVar 0)]), (dPrim gSub [(dC (.int 0)), (dVar 1)])])) (fun env => .next env))
    (dSeq (dSet 2 (dCall [.va, .va] F_common_part [(dPrim gAbs [(dVar 0)]), (dVar 1)]))
    (dRet (dMake dTup [(dPrim gDiv [(dVar 0), (dVar 2)]), (dPrim gDiv [(dVar 1), (dVar 2)])])))))
def F_share0 : DEnv → FnR := runFn (M_share fun _ => .err) 3
def F_share : DEnv → FnR := runFn (M_share F_share0) 3
def M_minus : DEnv → FR :=
  (dRet (dCall [.va, .va] F_share [(dPrim gSub [(dPrim gMul [(dPrim gIx [(dVar 0), (dC (.int 0))]), (dPrim gIx [(dVar 1), (dC (.int 1))])]), (dPrim gMul [(dPrim gIx [(dVar 1), (dC (.int 0))]), (dPrim gIx [(dVar 0), (dC (.int 1))])])]), (dPrim gMul [(dPrim gIx [(dVar 0), (dC (.int 1))]), (dPrim gIx [(dVar 1), (dC (.int 1))])])]))
def F_minus : DEnv → FnR := runFn M_minus 2
def M_gap_of : DEnv → FR :=
  (dRet (dMake dTup [(dCall [.va, .va] F_minus [(dPrim gIx [(dVar 1), (dC (.int 0))]), (dPrim gIx [(dVar 0), (dC (.int 0))])]), (dCall [.va, .va] F_minus [(dPrim gIx [(dVar 1), (dC (.int 1))]), (dPrim gIx [(dVar 0), (dC (.int 1))])])]))
def F_gap_of : DEnv → FnR := runFn M_gap_of 2
def M_times : DEnv → FR :=
  (dRet (dCall [.va, .va] F_share [(dPrim gMul [(dPrim gIx [(dVar 0), (dC (.int 0))]), (dPrim gIx [(dVar 1), (dC (.int 0))])]), (dPrim gMul [(dPrim gIx [(dVar 0), (dC (.int 1))]), (dPrim gIx [(dVar 1), (dC (.int 1))])])]))
def F_times : DEnv → FnR := runFn M_times 2
def M_plus : DEnv → FR :=
  (dRet (dCall [.va, .va] F_share [(dPrim gAdd [(dPrim gMul [(dPrim gIx [(dVar 0), (dC (.int 0))]), (dPrim gIx [(dVar 1), (dC (.int 1))])]), (dPrim gMul [(dPrim gIx [(dVar 1), (dC (.int 0))]), (dPrim gIx [(dVar 0), (dC (.int 1))])])]), (dPrim gMul [(dPrim gIx [(dVar 0), (dC (.int 1))]), (dPrim gIx [(dVar 1), (dC (.int 1))])])]))
def F_plus : DEnv → FnR := runFn M_plus 2
def M_moved : DEnv → FR :=
  (dRet (dMake dTup [(dCall [.va, .va] F_plus [(dPrim gIx [(dVar 0), (dC (.int 0))]), (dCall [.va, .va] F_times [(dVar 2), (dPrim gIx [(dVar 1), (dC (.int 0))])])]), (dCall [.va, .va] F_plus [(dPrim gIx [(dVar 0), (dC (.int 1))]), (dCall [.va, .va] F_times [(dVar 2), (dPrim gIx [(dVar 1), (dC (.int 1))])])])]))
def F_moved : DEnv → FnR := runFn M_moved 3
def M_between : DEnv → FR :=
  (dRet (dCall [.va, .va, .va] F_moved [(dVar 0), (dCall [.va, .va] F_gap_of [(dVar 0), (dVar 1)]), (dVar 2)]))
def F_between : DEnv → FnR := runFn M_between 3
def B__law_same_1 : DEnv → FR :=
  (dIf (dOrT (dNotT (dTst (dPrim (gIsi .int) [(dVar 3)]))) (dTst (dPrim (gIsi .bool) [(dVar 3)]))) (dRet (dC (.bl false))) (fun env => .next env))
def M__law_same : DEnv → FR :=
  (dSeq (dIf (dOrT (dNotT (dTst (dPrim (gIsi .tuple) [(dVar 0)]))) (dTst (dPrim gNe [(dPrim gLen [(dVar 0)]), (dC (.int 2))]))) (dRet (dC (.bl false))) (fun env => .next env))
    (dSeq (dFor itT (dVar 0) (gNm 3) [3] B__law_same_1)
    (dSeq (dIf (dOrT (dTst (dPrim gLt [(dPrim gIx [(dVar 0), (dC (.int 1))]), (dC (.int 1))])) (dTst (dPrim gNe [(dCall [.va, .va] F__law_part [(dPrim gAbs [(dPrim gIx [(dVar 0), (dC (.int 0))])]), (dPrim gIx [(dVar 0), (dC (.int 1))])]), (dC (.int 1))]))) (dRet (dC (.bl false))) (fun env => .next env))
    (dRet (dPrim gEq [(dPrim gMul [(dPrim gIx [(dVar 0), (dC (.int 0))]), (dVar 2)]), (dPrim gMul [(dVar 1), (dPrim gIx [(dVar 0), (dC (.int 1))])])])))))
def F__law_same : DEnv → FnR := runFn M__law_same 4
def B__law_is_point_1 : DEnv → FR :=
  (dIf (dOrT (dNotT (dTst (dPrim (gIsi .tuple) [(dVar 1)]))) (dOrT (dTst (dPrim gNe [(dPrim gLen [(dVar 1)]), (dC (.int 2))])) (dNotT (dTst (dCall [.va, .va, .va] F__law_same [(dVar 1), (dPrim gIx [(dVar 1), (dC (.int 0))]), (dPrim gIx [(dVar 1), (dC (.int 1))])]))))) (dRet (dC (.bl false))) (fun env => .next env))
def M__law_is_point : DEnv → FR :=
  (dSeq (dIf (dOrT (dNotT (dTst (dPrim (gIsi .tuple) [(dVar 0)]))) (dTst (dPrim gNe [(dPrim gLen [(dVar 0)]), (dC (.int 2))]))) (dRet (dC (.bl false))) (fun env => .next env))
    (dSeq (dFor itT (dVar 0) (gNm 1) [1] B__law_is_point_1)
    (dRet (dC (.bl true)))))
def F__law_is_point : DEnv → FnR := runFn M__law_is_point 2
def B__law_between_good_1 : DEnv → FR :=
  (dSeq (dSet 7 (dPrim gAdd [(dPrim gMul [(dPrim gIx [(dPrim gIx [(dVar 5), (dC (.int 0))]), (dVar 6)]), (dPrim gIx [(dVar 2), (dC (.int 1))])]), (dPrim gMul [(dPrim gIx [(dVar 2), (dC (.int 0))]), (dPrim gSub [(dPrim gIx [(dPrim gIx [(dVar 5), (dC (.int 1))]), (dVar 6)]), (dPrim gIx [(dPrim gIx [(dVar 5), (dC (.int 0))]), (dVar 6)])])])]))
    (dIf (dNotT (dTst (dCall [.va, .va, .va] F__law_same [(dPrim gIx [(dVar 3), (dVar 6)]), (dVar 7), (dPrim gMul [(dVar 4), (dPrim gIx [(dVar 2), (dC (.int 1))])])]))) (dRet (dC (.bl false))) (fun env => .next env)))
def M__law_between_good : DEnv → FR :=
  (dSeq (dSet 3 (dCall [.va, .va, .va] F_between [(dVar 0), (dVar 1), (dVar 2)]))
    (dSeq (dIf (dNotT (dTst (dCall [.va] F__law_is_point [(dVar 3)]))) (dRet (dC (.bl false))) (fun env => .next env))
    (dSeq (dAsg (gTp [(gNm 4), (gNm 5)]) (dCall [.rd] F__law_scaled [(dMake dLst [(dVar 0), (dVar 1)])]))
    (dSeq (dForR1 (dC (.int 2)) (gNm 6) [6, 7] B__law_between_good_1)
    (dRet (dAndV (dPrim gEq [(dCall [.va, .va, .va] F_between [(dVar 0), (dVar 1), (dMake dTup [(dC (.int 0)), (dC (.int 1))])]), (dVar 0)]) (dPrim gEq [(dCall [.va, .va, .va] F_between [(dVar 0), (dVar 1), (dMake dTup [(dC (.int 1)), (dC (.int 1))])]), (dVar 1)])))))))
def F__law_between_good : DEnv → FnR := runFn M__law_between_good 8
def M_cross : DEnv → FR :=
  (dRet (dCall [.va, .va] F_minus [(dCall [.va, .va] F_times [(dPrim gIx [(dVar 0), (dC (.int 0))]), (dPrim gIx [(dVar 1), (dC (.int 1))])]), (dCall [.va, .va] F_times [(dPrim gIx [(dVar 0), (dC (.int 1))]), (dPrim gIx [(dVar 1), (dC (.int 0))])])]))
def F_cross : DEnv → FnR := runFn M_cross 2
def M_over : DEnv → FR :=
  (dRet (dCall [.va, .va] F_share [(dPrim gMul [(dPrim gIx [(dVar 0), (dC (.int 0))]), (dPrim gIx [(dVar 1), (dC (.int 1))])]), (dPrim gMul [(dPrim gIx [(dVar 0), (dC (.int 1))]), (dPrim gIx [(dVar 1), (dC (.int 0))])])]))
def F_over : DEnv → FnR := runFn M_over 2
def M_crossing : DEnv → FR :=
  (dSeq (dSet 4 (dCall [.va, .va] F_gap_of [(dVar 0), (dVar 1)]))
    (dSeq (dSet 5 (dCall [.va, .va] F_gap_of [(dVar 2), (dVar 3)]))
    (dSeq (dSet 6 (dCall [.va, .va] F_cross [(dVar 4), (dVar 5)]))
    (dSeq (dIf (dTst (dPrim gEq [(dVar 6), (dC (.tup [(.int 0), (.int 1)]))])) (dRet (dC .non)) (fun env => .next env))
    (dRet (dCall [.va, .va, .va] F_moved [(dVar 0), (dVar 4), (dCall [.va, .va] F_over [(dCall [.va, .va] F_cross [(dCall [.va, .va] F_gap_of [(dVar 0), (dVar 2)]), (dVar 5)]), (dVar 6)])]))))))
def F_crossing : DEnv → FnR := runFn M_crossing 7
def M__law_cross : DEnv → FR :=
  (dSeq (dSet 3 (dPrim gMul [(dPrim gSub [(dPrim gIx [(dVar 1), (dC (.int 0))]), (dPrim gIx [(dVar 0), (dC (.int 0))])]), (dPrim gSub [(dPrim gIx [(dVar 2), (dC (.int 1))]), (dPrim gIx [(dVar 0), (dC (.int 1))])])]))
    (dRet (dPrim gSub [(dVar 3), (dPrim gMul [(dPrim gSub [(dPrim gIx [(dVar 1), (dC (.int 1))]), (dPrim gIx [(dVar 0), (dC (.int 1))])]), (dPrim gSub [(dPrim gIx [(dVar 2), (dC (.int 0))]), (dPrim gIx [(dVar 0), (dC (.int 0))])])])])))
def F__law_cross : DEnv → FnR := runFn M__law_cross 4
def K__law_crossing_good_1 : DEnv → ER :=
  (dMake dTup [(dPrim gSub [(dPrim gIx [(dPrim gIx [(dVar 3), (dPrim gAdd [(dVar 5), (dC (.int 1))])]), (dC (.int 0))]), (dPrim gIx [(dPrim gIx [(dVar 3), (dVar 5)]), (dC (.int 0))])]), (dPrim gSub [(dPrim gIx [(dPrim gIx [(dVar 3), (dPrim gAdd [(dVar 5), (dC (.int 1))])]), (dC (.int 1))]), (dPrim gIx [(dPrim gIx [(dVar 3), (dVar 5)]), (dC (.int 1))])])])
def M__law_crossing_good : DEnv → FR :=
  (dSeq (dSet 1 (dCall [.va, .va, .va, .va] F_crossing [(dPrim gIx [(dVar 0), (dC (.int 0))]), (dPrim gIx [(dVar 0), (dC (.int 1))]), (dPrim gIx [(dVar 0), (dC (.int 2))]), (dPrim gIx [(dVar 0), (dC (.int 3))])]))
    (dSeq (dAsg (gTp [(gNm 2), (gNm 3)]) (dCall [.rd] F__law_scaled [(dVar 0)]))
    (dSeq (dSet 4 (dLc (mIt itL (dMake dLst [(dC (.int 0)), (dC (.int 2))])) (gNm 5) [5] dYes K__law_crossing_good_1))
    (dSeq (dIf (dTst (dPrim gEq [(dPrim gMul [(dPrim gIx [(dPrim gIx [(dVar 4), (dC (.int 0))]), (dC (.int 0))]), (dPrim gIx [(dPrim gIx [(dVar 4), (dC (.int 1))]), (dC (.int 1))])]), (dPrim gMul [(dPrim gIx [(dPrim gIx [(dVar 4), (dC (.int 0))]), (dC (.int 1))]), (dPrim gIx [(dPrim gIx [(dVar 4), (dC (.int 1))]), (dC (.int 0))])])])) (dRet (dPrim gIsN [(dVar 1), (dC .non)])) (fun env => .next env))
    (dSeq (dIf (dNotT (dTst (dCall [.va] F__law_is_point [(dVar 1)]))) (dRet (dC (.bl false))) (fun env => .next env))
    (dSeq (dAsg (gTp [(gNm 2), (gNm 3)]) (dCall [.rd] F__law_scaled [(dPrim gAdd [(dVar 0), (dMake dLst [(dVar 1)])])]))
    (dRet (dAndV (dPrim gEq [(dCall [.va, .va, .va] F__law_cross [(dPrim gIx [(dVar 3), (dC (.int 0))]), (dPrim gIx [(dVar 3), (dC (.int 1))]), (dPrim gIx [(dVar 3), (dC (.int 4))])]), (dC (.int 0))]) (dPrim gEq [(dCall [.va, .va, .va] F__law_cross [(dPrim gIx [(dVar 3), (dC (.int 2))]), (dPrim gIx [(dVar 3), (dC (.int 3))]), (dPrim gIx [(dVar 3), (dC (.int 4))])]), (dC (.int 0))])))))))))
def F__law_crossing_good : DEnv → FnR := runFn M__law_crossing_good 6
def B_law_1 : DEnv → FR :=
  (dSeq (dSet 2 (dCall [.va, .va] F__law_row [(dCall [.va, .va] F__law_cell_at [(dVar 0), (dVar 1)]), (dC (.int 30))]))
    (dSeq (dSet 3 (dCall [.va] F__law_four [(dVar 2)]))
    (dSeq (dSet 4 (dCall [.va, .va] F__law_share [(dCall [.va, .va] F__law_number [(dPrim gIx [(dVar 2), (dC (.int 26))]), (dPrim gIx [(dVar 2), (dC (.int 27))])]), (dPrim gAdd [(dC (.int 1)), (dPrim gMod [(dPrim gIx [(dVar 2), (dC (.int 28))]), (dC (.int 16))])])]))
    (dSeq (dIf (dOrT (dNotT (dTst (dCall [.va, .va, .va] F__law_between_good [(dPrim gIx [(dVar 3), (dC (.int 0))]), (dPrim gIx [(dVar 3), (dC (.int 1))]), (dVar 4)]))) (dNotT (dTst (dCall [.va] F__law_crossing_good [(dVar 3)])))) (dRet (dC (.bl false))) (fun env => .next env))
    (dIf (dTst (dPrim gNe [(dCall [.va, .va, .va, .va] F_crossing [(dPrim gIx [(dVar 3), (dC (.int 2))]), (dPrim gIx [(dVar 3), (dC (.int 3))]), (dPrim gIx [(dVar 3), (dC (.int 1))]), (dPrim gIx [(dVar 3), (dC (.int 0))])]), (dCall [.va, .va, .va, .va] F_crossing [(dPrim gIx [(dVar 3), (dC (.int 0))]), (dPrim gIx [(dVar 3), (dC (.int 1))]), (dPrim gIx [(dVar 3), (dC (.int 2))]), (dPrim gIx [(dVar 3), (dC (.int 3))])])])) (dRet (dC (.bl false))) (fun env => .next env))))))
def M_law : DEnv → FR :=
  (dSeq (dForR1 (dPrim gMax [(dC (.int 1)), (dPrim gLen [(dSlH (dVar 0) (dC (.int 10)))])]) (gNm 1) [1, 2, 3, 4] B_law_1)
    (dRet (dC (.bl true))))
def F_law : DEnv → FnR := runFn M_law 5
end
end K05

namespace K05
open PySem PySem.Spec L2 DX
open PyProof.Rows hiding St
def topS (i : Nat) : Stmt := PySem.Challenge.pw_linesaid_k05_between_and_crossing.main.body.getD i (.Pass ⟨0, 0, 0, 0⟩)
abbrev s__law_cell_at : Stmt := topS 18
abbrev s__law_row : Stmt := topS 19
abbrev s__law_number : Stmt := topS 20
abbrev s__law_part : Stmt := topS 21
abbrev s__law_share : Stmt := topS 23
abbrev s__law_point : Stmt := topS 24
abbrev s__law_scaled : Stmt := topS 25
abbrev s__law_four : Stmt := topS 27
abbrev s_common_part : Stmt := topS 4
abbrev s_share : Stmt := topS 5
abbrev s_minus : Stmt := topS 7
abbrev s_gap_of : Stmt := topS 13
abbrev s_times : Stmt := topS 8
abbrev s_plus : Stmt := topS 6
abbrev s_moved : Stmt := topS 14
abbrev s_between : Stmt := topS 15
abbrev s__law_same : Stmt := topS 22
abbrev s__law_is_point : Stmt := topS 28
abbrev s__law_between_good : Stmt := topS 29
abbrev s_cross : Stmt := topS 12
abbrev s_over : Stmt := topS 9
abbrev s_crossing : Stmt := topS 16
abbrev s__law_cross : Stmt := topS 26
abbrev s__law_crossing_good : Stmt := topS 30
abbrev s_law : Stmt := topS 31
structure Txt (K : PySem.W.Frag) (mg : Str → Option Value) : Prop where
  n_abs : mg "abs" = none
  n_bool : mg "bool" = none
  n_int : mg "int" = none
  n_isinstance : mg "isinstance" = none
  n_len : mg "len" = none
  n_max : mg "max" = none
  n_range : mg "range" = none
  n_tuple : mg "tuple" = none
  c_NOUGHT : GConst K mg "NOUGHT" (.tup [(.int 0), (.int 1)])
section
variable {P : Program} {w : World} {K : PySem.W.Frag} {mg : Str → Option Value} {base : Heap}
theorem sc__law_cell_at : FnScope ["_law_script", "_law_k"] ["_law_script", "_law_k"] (defScope s__law_cell_at) := ⟨rfl, rfl, rfl, by decide +kernel, rfl, by decide +kernel, by decide +kernel⟩
theorem b__law_cell_at (T : Txt K mg)  {f : Addr} : BodyOk P w K mg base ["_law_script", "_law_k"] "_law_cell_at" s__law_cell_at f 0 M__law_cell_at := by
  intro cdv A outer s H E R Pn hr
  have tk : Takes (cxOf (L2.CX P w) P w K mg base ["_law_script", "_law_k"] "_law_cell_at" (defScope s__law_cell_at) f cdv A outer s H E) (fun cls d _ H => E cls d H) := takes_of rfl rfl rfl rfl
  have po : PassesOwn (model P w) _ _ _ := passes_of (X := cxOf (L2.CX P w) P w K mg base ["_law_script", "_law_k"] "_law_cell_at" (defScope s__law_cell_at) f cdv A outer s H E) rfl
  exact (mss_cons (ms_if (mt_cmp opd_lt me_var (me_callB callLen (by rfl) T.n_len PySem.boot_len (.cons me_var .nil) (pa_cons pe_w pa_nil))) (mss_one (ms_ret (me_ix ixd me_var me_var))) mss_nil)
    (mss_one (ms_ret me_int)))
theorem ok__law_cell_at (T : Txt K mg)  {f : Addr} {fd : FuncData} (F : Fun K "_law_cell_at" "_law_cell_at" s__law_cell_at f fd) (hm : mg "_law_cell_at" = some (.ref f)) (hb : Binds K fd ["_law_script", "_law_k"] []) : FnD P w K mg base "_law_cell_at" 1 ["_law_script", "_law_k"] 2 F__law_cell_at :=
  ⟨f, fd, fn_ok F sc__law_cell_at (b__law_cell_at T ), hm, F.kp, hb⟩
theorem sc__law_row : FnScope ["_law_cell", "_law_many", "_law_rest", "_law_found", "_law_high", "_law_k", "_law_one", "_law_other"] ["_law_cell", "_law_many"] (defScope s__law_row) := ⟨rfl, rfl, rfl, by decide +kernel, rfl, by decide +kernel, by decide +kernel⟩
theorem b__law_row (T : Txt K mg)  {f : Addr} : BodyOk P w K mg base ["_law_cell", "_law_many", "_law_rest", "_law_found", "_law_high", "_law_k", "_law_one", "_law_other"] "_law_row" s__law_row f 0 M__law_row := by
  intro cdv A outer s H E R Pn hr
  have tk : Takes (cxOf (L2.CX P w) P w K mg base ["_law_cell", "_law_many", "_law_rest", "_law_found", "_law_high", "_law_k", "_law_one", "_law_other"] "_law_row" (defScope s__law_row) f cdv A outer s H E) (fun cls d _ H => E cls d H) := takes_of rfl rfl rfl rfl
  have po : PassesOwn (model P w) _ _ _ := passes_of (X := cxOf (L2.CX P w) P w K mg base ["_law_cell", "_law_many", "_law_rest", "_law_found", "_law_high", "_law_k", "_law_one", "_law_other"] "_law_row" (defScope s__law_row) f cdv A outer s H E) rfl
  exact (mss_cons (ms_set sc__law_row.nd (me_bin opd_div me_var me_int))
    (mss_cons (ms_set sc__law_row.nd (me_lst .nil pa_nil))
    (mss_cons (ms_set sc__law_row.nd me_var)
    (mss_cons (ms_forR1 po rfl T.n_range me_var (mg_name sc__law_row.nd) (mss_one (ms_set sc__law_row.nd (me_bin opd_div me_var (me_bin opd_pow me_int me_int)))))
    (mss_cons (ms_forR1 po rfl T.n_range me_var (mg_name sc__law_row.nd) (mss_one (ms_if (mt_cmp opd_gt me_var me_int) (mss_cons (ms_expr (me_mutL PySem.F.slot_list_append PySem.F.type_list_append mt_append lm_append (.cons (me_bin opd_mod me_var (me_bin opd_pow me_int me_int)) .nil) (pa_cons pe_w pa_nil)))
    (mss_one (ms_set sc__law_row.nd (me_bin opd_div me_var (me_bin opd_pow me_int me_int))))) (mss_cons (ms_set sc__law_row.nd (me_bin opd_mod (me_bin opd_mul (me_bin opd_add (me_bin opd_add (me_bin opd_add (me_bin opd_mod me_var me_int) (me_bin opd_mul me_int me_var)) (me_bin opd_mul me_var me_var)) me_int) me_int) me_int))
    (mss_cons (ms_set sc__law_row.nd (me_bin opd_mod (me_bin opd_mul (me_bin opd_add me_var (me_bin opd_mul me_int me_var)) me_int) me_int))
    (mss_one (ms_expr (me_mutL PySem.F.slot_list_append PySem.F.type_list_append mt_append lm_append (.cons (me_bin opd_add (me_bin opd_mul me_var me_var) (me_bin opd_div me_var me_int)) .nil) (pa_cons pe_w pa_nil)))))))))
    (mss_one (ms_ret me_var)))))))
theorem ok__law_row (T : Txt K mg)  {f : Addr} {fd : FuncData} (F : Fun K "_law_row" "_law_row" s__law_row f fd) (hm : mg "_law_row" = some (.ref f)) (hb : Binds K fd ["_law_cell", "_law_many"] []) : FnD P w K mg base "_law_row" 1 ["_law_cell", "_law_many"] 2 F__law_row :=
  ⟨f, fd, fn_ok F sc__law_row (b__law_row T ), hm, F.kp, hb⟩
theorem sc__law_number : FnScope ["_law_x", "_law_y"] ["_law_x", "_law_y"] (defScope s__law_number) := ⟨rfl, rfl, rfl, by decide +kernel, rfl, by decide +kernel, by decide +kernel⟩
theorem b__law_number (T : Txt K mg)  {f : Addr} : BodyOk P w K mg base ["_law_x", "_law_y"] "_law_number" s__law_number f 0 M__law_number := by
  intro cdv A outer s H E R Pn hr
  have tk : Takes (cxOf (L2.CX P w) P w K mg base ["_law_x", "_law_y"] "_law_number" (defScope s__law_number) f cdv A outer s H E) (fun cls d _ H => E cls d H) := takes_of rfl rfl rfl rfl
  have po : PassesOwn (model P w) _ _ _ := passes_of (X := cxOf (L2.CX P w) P w K mg base ["_law_x", "_law_y"] "_law_number" (defScope s__law_number) f cdv A outer s H E) rfl
  exact (mss_cons (ms_if (mt_cmp (opd_eq hr.units) (me_bin opd_mod me_var me_int) me_int) (mss_one (ms_ret (me_bin opd_sub (me_bin opd_mod me_var me_int) me_int))) mss_nil)
    (mss_one (ms_ret (me_bin opd_mul (me_bin opd_add me_var (me_bin opd_mul (me_bin opd_pow me_int me_int) (me_bin opd_div me_var me_int))) (me_bin opd_sub me_int (me_bin opd_mul me_int (me_bin opd_mod (me_bin opd_div me_var me_int) me_int)))))))
theorem ok__law_number (T : Txt K mg)  {f : Addr} {fd : FuncData} (F : Fun K "_law_number" "_law_number" s__law_number f fd) (hm : mg "_law_number" = some (.ref f)) (hb : Binds K fd ["_law_x", "_law_y"] []) : FnD P w K mg base "_law_number" 1 ["_law_x", "_law_y"] 2 F__law_number :=
  ⟨f, fd, fn_ok F sc__law_number (b__law_number T ), hm, F.kp, hb⟩
theorem sc__law_part : FnScope ["_law_one", "_law_other", "_law_rest"] ["_law_one", "_law_other"] (defScope s__law_part) := ⟨rfl, rfl, rfl, by decide +kernel, rfl, by decide +kernel, by decide +kernel⟩
theorem b__law_part (T : Txt K mg)  {f : Addr} : BodyOk P w K mg base ["_law_one", "_law_other", "_law_rest"] "_law_part" s__law_part f 0 M__law_part := by
  intro cdv A outer s H E R Pn hr
  have tk : Takes (cxOf (L2.CX P w) P w K mg base ["_law_one", "_law_other", "_law_rest"] "_law_part" (defScope s__law_part) f cdv A outer s H E) (fun cls d _ H => E cls d H) := takes_of rfl rfl rfl rfl
  have po : PassesOwn (model P w) _ _ _ := passes_of (X := cxOf (L2.CX P w) P w K mg base ["_law_one", "_law_other", "_law_rest"] "_law_part" (defScope s__law_part) f cdv A outer s H E) rfl
  exact (mss_cons (ms_while po (mt_cmp opd_gt me_var me_int) (mss_cons (ms_set sc__law_part.nd (me_bin opd_mod me_var me_var))
    (mss_cons (ms_set sc__law_part.nd me_var)
    (mss_one (ms_set sc__law_part.nd me_var)))))
    (mss_one (ms_ret me_var)))
theorem ok__law_part (T : Txt K mg)  {f : Addr} {fd : FuncData} (F : Fun K "_law_part" "_law_part" s__law_part f fd) (hm : mg "_law_part" = some (.ref f)) (hb : Binds K fd ["_law_one", "_law_other"] []) : FnD P w K mg base "_law_part" 1 ["_law_one", "_law_other"] 2 F__law_part :=
  ⟨f, fd, fn_ok F sc__law_part (b__law_part T ), hm, F.kp, hb⟩
theorem sc__law_share : FnScope ["_law_top", "_law_bottom", "_law_part_here"] ["_law_top", "_law_bottom"] (defScope s__law_share) := ⟨rfl, rfl, rfl, by decide +kernel, rfl, by decide +kernel, by decide +kernel⟩
theorem b__law_share (T : Txt K mg) (g__law_part : FnD P w K mg base "_law_part" 1 ["_law_one", "_law_other"] 2 F__law_part) {f : Addr} : BodyOk P w K mg base ["_law_top", "_law_bottom", "_law_part_here"] "_law_share" s__law_share f 1 M__law_share := by
  obtain ⟨f__law_part, fd__law_part, O__law_part, m__law_part, k__law_part, b__law_part⟩ := g__law_part
  intro cdv A outer s H E R Pn hr
  have tk : Takes (cxOf (L2.CX P w) P w K mg base ["_law_top", "_law_bottom", "_law_part_here"] "_law_share" (defScope s__law_share) f cdv A outer s H E) (fun cls d _ H => E cls d H) := takes_of rfl rfl rfl rfl
  have po : PassesOwn (model P w) _ _ _ := passes_of (X := cxOf (L2.CX P w) P w K mg base ["_law_top", "_law_bottom", "_law_part_here"] "_law_share" (defScope s__law_share) f cdv A outer s H E) rfl
  exact (mss_cons (ms_set sc__law_share.nd (me_call O__law_part (hr.mono (by decide)) rfl m__law_part k__law_part b__law_part tk (.cons (me_callB callAbs (by rfl) T.n_abs PyProof.Rows.boot_abs (.cons me_var .nil) (pa_cons pe_w pa_nil)) (.cons me_var .nil)) (pa_cons pe_w (pa_cons pe_w pa_nil))))
    (mss_one (ms_ret (me_tup (.cons (me_bin opd_div me_var me_var) (.cons (me_bin opd_div me_var me_var) .nil)) (pa_cons pe_w (pa_cons pe_w pa_nil))))))
theorem ok__law_share (T : Txt K mg) (g__law_part : FnD P w K mg base "_law_part" 1 ["_law_one", "_law_other"] 2 F__law_part) {f : Addr} {fd : FuncData} (F : Fun K "_law_share" "_law_share" s__law_share f fd) (hm : mg "_law_share" = some (.ref f)) (hb : Binds K fd ["_law_top", "_law_bottom"] []) : FnD P w K mg base "_law_share" 2 ["_law_top", "_law_bottom"] 2 F__law_share :=
  ⟨f, fd, fn_ok F sc__law_share (b__law_share T g__law_part), hm, F.kp, hb⟩
theorem sc__law_point : FnScope ["_law_row_here", "_law_low"] ["_law_row_here"] (defScope s__law_point) := ⟨rfl, rfl, rfl, by decide +kernel, rfl, by decide +kernel, by decide +kernel⟩
theorem b__law_point (T : Txt K mg) (g__law_number : FnD P w K mg base "_law_number" 1 ["_law_x", "_law_y"] 2 F__law_number) (g__law_share : FnD P w K mg base "_law_share" 2 ["_law_top", "_law_bottom"] 2 F__law_share) {f : Addr} : BodyOk P w K mg base ["_law_row_here", "_law_low"] "_law_point" s__law_point f 2 M__law_point := by
  obtain ⟨f__law_number, fd__law_number, O__law_number, m__law_number, k__law_number, b__law_number⟩ := g__law_number
  obtain ⟨f__law_share, fd__law_share, O__law_share, m__law_share, k__law_share, b__law_share⟩ := g__law_share
  intro cdv A outer s H E R Pn hr
  have tk : Takes (cxOf (L2.CX P w) P w K mg base ["_law_row_here", "_law_low"] "_law_point" (defScope s__law_point) f cdv A outer s H E) (fun cls d _ H => E cls d H) := takes_of rfl rfl rfl rfl
  have po : PassesOwn (model P w) _ _ _ := passes_of (X := cxOf (L2.CX P w) P w K mg base ["_law_row_here", "_law_low"] "_law_point" (defScope s__law_point) f cdv A outer s H E) rfl
  exact (mss_cons (ms_set sc__law_point.nd (me_ix ixd (me_lst (.cons me_int (.cons (me_bin opd_add me_int (me_bin opd_mod (me_ix ixd me_var me_int) me_int)) (.cons (me_bin opd_add me_int (me_bin opd_mod (me_ix ixd me_var me_int) (me_bin opd_pow me_int me_int))) (.cons me_int .nil)))) (pa_cons pe_w (pa_cons pe_w (pa_cons pe_w (pa_cons pe_w pa_nil))))) (me_bin opd_mod (me_ix ixd me_var me_int) me_int)))
    (mss_one (ms_ret (me_tup (.cons (me_call O__law_share (hr.mono (by decide)) rfl m__law_share k__law_share b__law_share tk (.cons (me_call O__law_number (hr.mono (by decide)) rfl m__law_number k__law_number b__law_number tk (.cons (me_ix ixd me_var me_int) (.cons (me_ix ixd me_var me_int) .nil)) (pa_cons pe_w (pa_cons pe_w pa_nil))) (.cons me_var .nil)) (pa_cons pe_w (pa_cons pe_w pa_nil))) (.cons (me_call O__law_share (hr.mono (by decide)) rfl m__law_share k__law_share b__law_share tk (.cons (me_call O__law_number (hr.mono (by decide)) rfl m__law_number k__law_number b__law_number tk (.cons (me_ix ixd me_var me_int) (.cons (me_ix ixd me_var me_int) .nil)) (pa_cons pe_w (pa_cons pe_w pa_nil))) (.cons me_var .nil)) (pa_cons pe_w (pa_cons pe_w pa_nil))) .nil)) (pa_cons pe_w (pa_cons pe_w pa_nil))))))
theorem ok__law_point (T : Txt K mg) (g__law_number : FnD P w K mg base "_law_number" 1 ["_law_x", "_law_y"] 2 F__law_number) (g__law_share : FnD P w K mg base "_law_share" 2 ["_law_top", "_law_bottom"] 2 F__law_share) {f : Addr} {fd : FuncData} (F : Fun K "_law_point" "_law_point" s__law_point f fd) (hm : mg "_law_point" = some (.ref f)) (hb : Binds K fd ["_law_row_here"] []) : FnD P w K mg base "_law_point" 3 ["_law_row_here"] 1 F__law_point :=
  ⟨f, fd, fn_ok F sc__law_point (b__law_point T g__law_number g__law_share), hm, F.kp, hb⟩
theorem sc__law_scaled : FnScope ["_law_points", "_law_low", "_law_place", "_law_one", "_law_x", "_law_y"] ["_law_points"] (defScope s__law_scaled) := ⟨rfl, rfl, rfl, by decide +kernel, rfl, by decide +kernel, by decide +kernel⟩
theorem b__law_scaled (T : Txt K mg) (g__law_part : FnD P w K mg base "_law_part" 1 ["_law_one", "_law_other"] 2 F__law_part) {f : Addr} : BodyOk P w K mg base ["_law_points", "_law_low", "_law_place", "_law_one", "_law_x", "_law_y"] "_law_scaled" s__law_scaled f 1 M__law_scaled := by
  obtain ⟨f__law_part, fd__law_part, O__law_part, m__law_part, k__law_part, b__law_part⟩ := g__law_part
  intro cdv A outer s H E R Pn hr
  have tk : Takes (cxOf (L2.CX P w) P w K mg base ["_law_points", "_law_low", "_law_place", "_law_one", "_law_x", "_law_y"] "_law_scaled" (defScope s__law_scaled) f cdv A outer s H E) (fun cls d _ H => E cls d H) := takes_of rfl rfl rfl rfl
  have po : PassesOwn (model P w) _ _ _ := passes_of (X := cxOf (L2.CX P w) P w K mg base ["_law_points", "_law_low", "_law_place", "_law_one", "_law_x", "_law_y"] "_law_scaled" (defScope s__law_scaled) f cdv A outer s H E) rfl
  exact (mss_cons (ms_set sc__law_scaled.nd me_int)
    (mss_cons (ms_forL po rfl me_var (mg_name sc__law_scaled.nd) (mss_one (ms_forT po rfl me_var (mg_name sc__law_scaled.nd) (mss_one (ms_set sc__law_scaled.nd (me_bin opd_mul me_var (me_bin opd_div (me_ix ixd me_var me_int) (me_call O__law_part (hr.mono (by decide)) rfl m__law_part k__law_part b__law_part tk (.cons me_var (.cons (me_ix ixd me_var me_int) .nil)) (pa_cons pe_w (pa_cons pe_w pa_nil))))))))))
    (mss_one (ms_ret (me_tup (.cons me_var (.cons (me_lc (own := [("_law_x", 4), ("_law_y", 5)]) rfl sc__law_scaled.nd (mi_list me_var) (blkOk_by (by rfl)) (fun _ _ _ _ _ => (mgo_tup rfl (.cons (mgo_name sc__law_scaled.nd) (.cons (mgo_name sc__law_scaled.nd) .nil)) (pgs_cons pg_w (pgs_cons pg_w pgs_nil)))) (fun _ _ _ _ _ => (me_tup (.cons (me_bin opd_mul (me_ix ixd me_var me_int) (me_bin opd_div me_var (me_ix ixd me_var me_int))) (.cons (me_bin opd_mul (me_ix ixd me_var me_int) (me_bin opd_div me_var (me_ix ixd me_var me_int))) .nil)) (pa_cons pe_w (pa_cons pe_w pa_nil))))) .nil)) (pa_cons pe_w (pa_cons pe_w pa_nil)))))))
theorem ok__law_scaled (T : Txt K mg) (g__law_part : FnD P w K mg base "_law_part" 1 ["_law_one", "_law_other"] 2 F__law_part) {f : Addr} {fd : FuncData} (F : Fun K "_law_scaled" "_law_scaled" s__law_scaled f fd) (hm : mg "_law_scaled" = some (.ref f)) (hb : Binds K fd ["_law_points"] []) : FnD P w K mg base "_law_scaled" 2 ["_law_points"] 1 F__law_scaled :=
  ⟨f, fd, fn_ok F sc__law_scaled (b__law_scaled T g__law_part), hm, F.kp, hb⟩
theorem sc__law_four : FnScope ["_law_row_here", "_law_points", "_law_low", "_law_places", "_law_part_here", "_law_found", "_law_k", "_law_far"] ["_law_row_here"] (defScope s__law_four) := ⟨rfl, rfl, rfl, by decide +kernel, rfl, by decide +kernel, by decide +kernel⟩
theorem b__law_four (T : Txt K mg) (g__law_point : FnD P w K mg base "_law_point" 3 ["_law_row_here"] 1 F__law_point) (g__law_scaled : FnD P w K mg base "_law_scaled" 2 ["_law_points"] 1 F__law_scaled) (g__law_share : FnD P w K mg base "_law_share" 2 ["_law_top", "_law_bottom"] 2 F__law_share) {f : Addr} : BodyOk P w K mg base ["_law_row_here", "_law_points", "_law_low", "_law_places", "_law_part_here", "_law_found", "_law_k", "_law_far"] "_law_four" s__law_four f 3 M__law_four := by
  obtain ⟨f__law_point, fd__law_point, O__law_point, m__law_point, k__law_point, b__law_point⟩ := g__law_point
  obtain ⟨f__law_scaled, fd__law_scaled, O__law_scaled, m__law_scaled, k__law_scaled, b__law_scaled⟩ := g__law_scaled
  obtain ⟨f__law_share, fd__law_share, O__law_share, m__law_share, k__law_share, b__law_share⟩ := g__law_share
  intro cdv A outer s H E R Pn hr
  have tk : Takes (cxOf (L2.CX P w) P w K mg base ["_law_row_here", "_law_points", "_law_low", "_law_places", "_law_part_here", "_law_found", "_law_k", "_law_far"] "_law_four" (defScope s__law_four) f cdv A outer s H E) (fun cls d _ H => E cls d H) := takes_of rfl rfl rfl rfl
  have po : PassesOwn (model P w) _ _ _ := passes_of (X := cxOf (L2.CX P w) P w K mg base ["_law_row_here", "_law_points", "_law_low", "_law_places", "_law_part_here", "_law_found", "_law_k", "_law_far"] "_law_four" (defScope s__law_four) f cdv A outer s H E) rfl
  exact (mss_cons (by first | exact (ms_setLc (own := [("_law_k", 6)]) rfl sc__law_four.nd (mi_R1 T.n_range me_int) (blkOk_by (by rfl)) (fun _ _ _ _ _ => (mgo_name sc__law_four.nd)) (fun _ _ _ _ _ => (me_call O__law_point (hr.mono (by decide)) rfl m__law_point k__law_point b__law_point takesB (.cons (me_sl2 me_var (me_bin opd_mul me_int me_var) (me_bin opd_add (me_bin opd_mul me_int me_var) me_int)) .nil) (pa_cons pe_w pa_nil)))) | exact (ms_set sc__law_four.nd (me_lc (own := [("_law_k", 6)]) rfl sc__law_four.nd (mi_R1 T.n_range me_int) (blkOk_by (by rfl)) (fun _ _ _ _ _ => (mgo_name sc__law_four.nd)) (fun _ _ _ _ _ => (me_call O__law_point (hr.mono (by decide)) rfl m__law_point k__law_point b__law_point takesB (.cons (me_sl2 me_var (me_bin opd_mul me_int me_var) (me_bin opd_add (me_bin opd_mul me_int me_var) me_int)) .nil) (pa_cons pe_w pa_nil))))))
    (mss_cons (ms_if (mt_cmp (opd_eq hr.units) (me_bin opd_mod (me_ix ixd me_var me_int) me_int) me_int) (mss_one (ms_asg (me_ix ixd me_var (me_bin opd_mod (me_ix ixd me_var me_int) me_int)) (mg_at (W := W0) (me_bin opd_add me_int (me_bin opd_mod (me_bin opd_div (me_ix ixd me_var me_int) me_int) me_int))))) mss_nil)
    (mss_cons (ms_if (mt_cmp opd_gt (me_bin opd_mod (me_ix ixd me_var me_int) me_int) me_int) (mss_cons (ms_asg (me_call O__law_scaled (hr.mono (by decide)) rfl m__law_scaled k__law_scaled b__law_scaled tk (.cons me_var .nil) (pa_cons pe_w pa_nil)) (mg_tup rfl (.cons (mg_name sc__law_four.nd) (.cons (mg_name sc__law_four.nd) .nil)) (pgs_cons pg_w (pgs_cons pg_w pgs_nil))))
    (mss_cons (ms_set sc__law_four.nd (me_bin opd_sub (me_bin opd_mod (me_ix ixd me_var me_int) me_int) me_int))
    (mss_cons (ms_set sc__law_four.nd (me_lst .nil pa_nil))
    (mss_cons (ms_forR1 po rfl T.n_range me_int (mg_name sc__law_four.nd) (mss_cons (ms_set sc__law_four.nd (me_bin opd_sub (me_ix ixd (me_ix ixd me_var me_int) me_var) (me_ix ixd (me_ix ixd me_var me_int) me_var)))
    (mss_one (ms_expr (me_mutL PySem.F.slot_list_append PySem.F.type_list_append mt_append lm_append (.cons (me_call O__law_share (hr.mono (by decide)) rfl m__law_share k__law_share b__law_share tk (.cons (me_bin opd_add (me_ix ixd (me_ix ixd me_var me_int) me_var) (me_bin opd_mul me_var me_var)) (.cons me_var .nil)) (pa_cons pe_w (pa_cons pe_w pa_nil))) .nil) (pa_cons pe_w pa_nil))))))
    (mss_one (ms_asg (me_callTy callTuple (by rfl) T.n_tuple (by decide +kernel) (.cons me_var .nil) (pa_cons pe_w pa_nil)) (mg_at (W := W0) me_int))))))) mss_nil)
    (mss_one (ms_ret me_var)))))
theorem ok__law_four (T : Txt K mg) (g__law_point : FnD P w K mg base "_law_point" 3 ["_law_row_here"] 1 F__law_point) (g__law_scaled : FnD P w K mg base "_law_scaled" 2 ["_law_points"] 1 F__law_scaled) (g__law_share : FnD P w K mg base "_law_share" 2 ["_law_top", "_law_bottom"] 2 F__law_share) {f : Addr} {fd : FuncData} (F : Fun K "_law_four" "_law_four" s__law_four f fd) (hm : mg "_law_four" = some (.ref f)) (hb : Binds K fd ["_law_row_here"] []) : FnD P w K mg base "_law_four" 4 ["_law_row_here"] 1 F__law_four :=
  ⟨f, fd, fn_ok F sc__law_four (b__law_four T g__law_point g__law_scaled g__law_share), hm, F.kp, hb⟩
theorem sc_common_part : FnScope ["one", "other", "rest"] ["one", "other"] (defScope s_common_part) := ⟨rfl, rfl, rfl, by decide +kernel, rfl, by decide +kernel, by decide +kernel⟩
theorem b_common_part (T : Txt K mg)  {f : Addr} : BodyOk P w K mg base ["one", "other", "rest"] "common_part" s_common_part f 0 M_common_part := by
  intro cdv A outer s H E R Pn hr
  have tk : Takes (cxOf (L2.CX P w) P w K mg base ["one", "other", "rest"] "common_part" (defScope s_common_part) f cdv A outer s H E) (fun cls d _ H => E cls d H) := takes_of rfl rfl rfl rfl
  have po : PassesOwn (model P w) _ _ _ := passes_of (X := cxOf (L2.CX P w) P w K mg base ["one", "other", "rest"] "common_part" (defScope s_common_part) f cdv A outer s H E) rfl
  exact (mss_cons (ms_while po (mt_cmp opd_gt me_var me_int) (mss_cons (ms_set sc_common_part.nd (me_bin opd_mod me_var me_var))
    (mss_cons (ms_set sc_common_part.nd me_var)
    (mss_one (ms_set sc_common_part.nd me_var)))))
    (mss_one (ms_ret me_var)))
theorem ok_common_part (T : Txt K mg)  {f : Addr} {fd : FuncData} (F : Fun K "common_part" "common_part" s_common_part f fd) (hm : mg "common_part" = some (.ref f)) (hb : Binds K fd ["one", "other"] []) : FnD P w K mg base "common_part" 1 ["one", "other"] 2 F_common_part :=
  ⟨f, fd, fn_ok F sc_common_part (b_common_part T ), hm, F.kp, hb⟩
theorem sc_share : FnScope ["top", "bottom", "part"] ["top", "bottom"] (defScope s_share) := ⟨rfl, rfl, rfl, by decide +kernel, rfl, by decide +kernel, by decide +kernel⟩
theorem b_share (T : Txt K mg) (TE : ErrT K mg ["NoShare"] ["NoShare"]) {C_NoShare : Addr} (e_NoShare : ErrC K mg "NoShare" C_NoShare) {k0 : Nat} {k : Nat} (hk0 : k0 ≤ k) (hk1 : 1 ≤ k) (g_common_part : FnD P w K mg base "common_part" 1 ["one", "other"] 2 F_common_part) {f_share : Addr} {fd_share : FuncData} {rec : DEnv → FnR} (O_share : FnOk P w K mg base (L2.CX P w) k0 f_share fd_share ["top", "bottom"] (spF K mg 2 rec)) (m_share : mg "share" = some (.ref f_share)) (k_share : PySem.W.keepIn K (.ref f_share) = true) (b_share : Binds K fd_share ["top", "bottom"] []) {f : Addr} : BodyOk P w K mg base ["top", "bottom", "part"] "share" s_share f k (M_share rec) := by
  obtain ⟨f_common_part, fd_common_part, O_common_part, m_common_part, k_common_part, b_common_part⟩ := g_common_part
  intro cdv A outer s H E R Pn hr
  have tk : Takes (cxOf (L2.CX P w) P w K mg base ["top", "bottom", "part"] "share" (defScope s_share) f cdv A outer s H E) (fun cls d _ H => E cls d H) := takes_of rfl rfl rfl rfl
  have po : PassesOwn (model P w) _ _ _ := passes_of (X := cxOf (L2.CX P w) P w K mg base ["top", "bottom", "part"] "share" (defScope s_share) f cdv A outer s H E) rfl
  exact (mss_cons (ms_if (mt_cmp (opd_eq hr.units) me_var me_int) (mss_one (ms_raise rfl tk e_NoShare)) mss_nil)
    (mss_cons (ms_if (mt_cmp opd_lt me_var me_int) (mss_one (ms_ret (me_call O_share (hr.mono hk0) rfl m_share k_share b_share tk (.cons (me_bin opd_sub me_int me_var) (.cons (me_bin opd_sub me_int me_var) .nil)) (pa_cons pe_w (pa_cons pe_w pa_nil))))) mss_nil)
    (mss_cons (ms_set sc_share.nd (me_call O_common_part (hr.mono (Nat.le_trans (by decide) hk1)) rfl m_common_part k_common_part b_common_part tk (.cons (me_callB callAbs (by rfl) T.n_abs PyProof.Rows.boot_abs (.cons me_var .nil) (pa_cons pe_w pa_nil)) (.cons me_var .nil)) (pa_cons pe_w (pa_cons pe_w pa_nil))))
    (mss_one (ms_ret (me_tup (.cons (me_bin opd_div me_var me_var) (.cons (me_bin opd_div me_var me_var) .nil)) (pa_cons pe_w (pa_cons pe_w pa_nil))))))))
theorem ok_share (T : Txt K mg) (TE : ErrT K mg ["NoShare"] ["NoShare"]) {C_NoShare : Addr} (e_NoShare : ErrC K mg "NoShare" C_NoShare) (g_common_part : FnD P w K mg base "common_part" 1 ["one", "other"] 2 F_common_part) {f : Addr} {fd : FuncData} (F : Fun K "share" "share" s_share f fd) (hm : mg "share" = some (.ref f)) (hb : Binds K fd ["top", "bottom"] []) : FnD P w K mg base "share" 3 ["top", "bottom"] 2 F_share := by
  have O0 : FnOk P w K mg base (L2.CX P w) 2 f fd ["top", "bottom"] (spF K mg 2 F_share0) := fn_ok F sc_share (b_share T TE e_NoShare (Nat.zero_le _) (by decide) g_common_part (fn_err rfl) hm F.kp hb)
  exact ⟨f, fd, fn_ok F sc_share (b_share T TE e_NoShare (Nat.le_refl _) (by decide) g_common_part O0 hm F.kp hb), hm, F.kp, hb⟩
theorem sc_minus : FnScope ["one", "other"] ["one", "other"] (defScope s_minus) := ⟨rfl, rfl, rfl, by decide +kernel, rfl, by decide +kernel, by decide +kernel⟩
theorem b_minus (T : Txt K mg) (g_share : FnD P w K mg base "share" 3 ["top", "bottom"] 2 F_share) {f : Addr} : BodyOk P w K mg base ["one", "other"] "minus" s_minus f 3 M_minus := by
  obtain ⟨f_share, fd_share, O_share, m_share, k_share, b_share⟩ := g_share
  intro cdv A outer s H E R Pn hr
  have tk : Takes (cxOf (L2.CX P w) P w K mg base ["one", "other"] "minus" (defScope s_minus) f cdv A outer s H E) (fun cls d _ H => E cls d H) := takes_of rfl rfl rfl rfl
  have po : PassesOwn (model P w) _ _ _ := passes_of (X := cxOf (L2.CX P w) P w K mg base ["one", "other"] "minus" (defScope s_minus) f cdv A outer s H E) rfl
  exact (mss_one (ms_ret (me_call O_share (hr.mono (by decide)) rfl m_share k_share b_share tk (.cons (me_bin opd_sub (me_bin opd_mul (me_ix ixd me_var me_int) (me_ix ixd me_var me_int)) (me_bin opd_mul (me_ix ixd me_var me_int) (me_ix ixd me_var me_int))) (.cons (me_bin opd_mul (me_ix ixd me_var me_int) (me_ix ixd me_var me_int)) .nil)) (pa_cons pe_w (pa_cons pe_w pa_nil)))))
theorem ok_minus (T : Txt K mg) (g_share : FnD P w K mg base "share" 3 ["top", "bottom"] 2 F_share) {f : Addr} {fd : FuncData} (F : Fun K "minus" "minus" s_minus f fd) (hm : mg "minus" = some (.ref f)) (hb : Binds K fd ["one", "other"] []) : FnD P w K mg base "minus" 4 ["one", "other"] 2 F_minus :=
  ⟨f, fd, fn_ok F sc_minus (b_minus T g_share), hm, F.kp, hb⟩
theorem sc_gap_of : FnScope ["one", "other"] ["one", "other"] (defScope s_gap_of) := ⟨rfl, rfl, rfl, by decide +kernel, rfl, by decide +kernel, by decide +kernel⟩
theorem b_gap_of (T : Txt K mg) (g_minus : FnD P w K mg base "minus" 4 ["one", "other"] 2 F_minus) {f : Addr} : BodyOk P w K mg base ["one", "other"] "gap_of" s_gap_of f 4 M_gap_of := by
  obtain ⟨f_minus, fd_minus, O_minus, m_minus, k_minus, b_minus⟩ := g_minus
  intro cdv A outer s H E R Pn hr
  have tk : Takes (cxOf (L2.CX P w) P w K mg base ["one", "other"] "gap_of" (defScope s_gap_of) f cdv A outer s H E) (fun cls d _ H => E cls d H) := takes_of rfl rfl rfl rfl
  have po : PassesOwn (model P w) _ _ _ := passes_of (X := cxOf (L2.CX P w) P w K mg base ["one", "other"] "gap_of" (defScope s_gap_of) f cdv A outer s H E) rfl
  exact (mss_one (ms_ret (me_tup (.cons (me_call O_minus (hr.mono (by decide)) rfl m_minus k_minus b_minus tk (.cons (me_ix ixd me_var me_int) (.cons (me_ix ixd me_var me_int) .nil)) (pa_cons pe_w (pa_cons pe_w pa_nil))) (.cons (me_call O_minus (hr.mono (by decide)) rfl m_minus k_minus b_minus tk (.cons (me_ix ixd me_var me_int) (.cons (me_ix ixd me_var me_int) .nil)) (pa_cons pe_w (pa_cons pe_w pa_nil))) .nil)) (pa_cons pe_w (pa_cons pe_w pa_nil)))))
theorem ok_gap_of (T : Txt K mg) (g_minus : FnD P w K mg base "minus" 4 ["one", "other"] 2 F_minus) {f : Addr} {fd : FuncData} (F : Fun K "gap_of" "gap_of" s_gap_of f fd) (hm : mg "gap_of" = some (.ref f)) (hb : Binds K fd ["one", "other"] []) : FnD P w K mg base "gap_of" 5 ["one", "other"] 2 F_gap_of :=
  ⟨f, fd, fn_ok F sc_gap_of (b_gap_of T g_minus), hm, F.kp, hb⟩
theorem sc_times : FnScope ["one", "other"] ["one", "other"] (defScope s_times) := ⟨rfl, rfl, rfl, by decide +kernel, rfl, by decide +kernel, by decide +kernel⟩
theorem b_times (T : Txt K mg) (g_share : FnD P w K mg base "share" 3 ["top", "bottom"] 2 F_share) {f : Addr} : BodyOk P w K mg base ["one", "other"] "times" s_times f 3 M_times := by
  obtain ⟨f_share, fd_share, O_share, m_share, k_share, b_share⟩ := g_share
  intro cdv A outer s H E R Pn hr
  have tk : Takes (cxOf (L2.CX P w) P w K mg base ["one", "other"] "times" (defScope s_times) f cdv A outer s H E) (fun cls d _ H => E cls d H) := takes_of rfl rfl rfl rfl
  have po : PassesOwn (model P w) _ _ _ := passes_of (X := cxOf (L2.CX P w) P w K mg base ["one", "other"] "times" (defScope s_times) f cdv A outer s H E) rfl
  exact (mss_one (ms_ret (me_call O_share (hr.mono (by decide)) rfl m_share k_share b_share tk (.cons (me_bin opd_mul (me_ix ixd me_var me_int) (me_ix ixd me_var me_int)) (.cons (me_bin opd_mul (me_ix ixd me_var me_int) (me_ix ixd me_var me_int)) .nil)) (pa_cons pe_w (pa_cons pe_w pa_nil)))))
theorem ok_times (T : Txt K mg) (g_share : FnD P w K mg base "share" 3 ["top", "bottom"] 2 F_share) {f : Addr} {fd : FuncData} (F : Fun K "times" "times" s_times f fd) (hm : mg "times" = some (.ref f)) (hb : Binds K fd ["one", "other"] []) : FnD P w K mg base "times" 4 ["one", "other"] 2 F_times :=
  ⟨f, fd, fn_ok F sc_times (b_times T g_share), hm, F.kp, hb⟩
theorem sc_plus : FnScope ["one", "other"] ["one", "other"] (defScope s_plus) := ⟨rfl, rfl, rfl, by decide +kernel, rfl, by decide +kernel, by decide +kernel⟩
theorem b_plus (T : Txt K mg) (g_share : FnD P w K mg base "share" 3 ["top", "bottom"] 2 F_share) {f : Addr} : BodyOk P w K mg base ["one", "other"] "plus" s_plus f 3 M_plus := by
  obtain ⟨f_share, fd_share, O_share, m_share, k_share, b_share⟩ := g_share
  intro cdv A outer s H E R Pn hr
  have tk : Takes (cxOf (L2.CX P w) P w K mg base ["one", "other"] "plus" (defScope s_plus) f cdv A outer s H E) (fun cls d _ H => E cls d H) := takes_of rfl rfl rfl rfl
  have po : PassesOwn (model P w) _ _ _ := passes_of (X := cxOf (L2.CX P w) P w K mg base ["one", "other"] "plus" (defScope s_plus) f cdv A outer s H E) rfl
  exact (mss_one (ms_ret (me_call O_share (hr.mono (by decide)) rfl m_share k_share b_share tk (.cons (me_bin opd_add (me_bin opd_mul (me_ix ixd me_var me_int) (me_ix ixd me_var me_int)) (me_bin opd_mul (me_ix ixd me_var me_int) (me_ix ixd me_var me_int))) (.cons (me_bin opd_mul (me_ix ixd me_var me_int) (me_ix ixd me_var me_int)) .nil)) (pa_cons pe_w (pa_cons pe_w pa_nil)))))
theorem ok_plus (T : Txt K mg) (g_share : FnD P w K mg base "share" 3 ["top", "bottom"] 2 F_share) {f : Addr} {fd : FuncData} (F : Fun K "plus" "plus" s_plus f fd) (hm : mg "plus" = some (.ref f)) (hb : Binds K fd ["one", "other"] []) : FnD P w K mg base "plus" 4 ["one", "other"] 2 F_plus :=
  ⟨f, fd, fn_ok F sc_plus (b_plus T g_share), hm, F.kp, hb⟩
theorem sc_moved : FnScope ["place", "by", "t"] ["place", "by", "t"] (defScope s_moved) := ⟨rfl, rfl, rfl, by decide +kernel, rfl, by decide +kernel, by decide +kernel⟩
theorem b_moved (T : Txt K mg) (g_times : FnD P w K mg base "times" 4 ["one", "other"] 2 F_times) (g_plus : FnD P w K mg base "plus" 4 ["one", "other"] 2 F_plus) {f : Addr} : BodyOk P w K mg base ["place", "by", "t"] "moved" s_moved f 4 M_moved := by
  obtain ⟨f_times, fd_times, O_times, m_times, k_times, b_times⟩ := g_times
  obtain ⟨f_plus, fd_plus, O_plus, m_plus, k_plus, b_plus⟩ := g_plus
  intro cdv A outer s H E R Pn hr
  have tk : Takes (cxOf (L2.CX P w) P w K mg base ["place", "by", "t"] "moved" (defScope s_moved) f cdv A outer s H E) (fun cls d _ H => E cls d H) := takes_of rfl rfl rfl rfl
  have po : PassesOwn (model P w) _ _ _ := passes_of (X := cxOf (L2.CX P w) P w K mg base ["place", "by", "t"] "moved" (defScope s_moved) f cdv A outer s H E) rfl
  exact (mss_one (ms_ret (me_tup (.cons (me_call O_plus (hr.mono (by decide)) rfl m_plus k_plus b_plus tk (.cons (me_ix ixd me_var me_int) (.cons (me_call O_times (hr.mono (by decide)) rfl m_times k_times b_times tk (.cons me_var (.cons (me_ix ixd me_var me_int) .nil)) (pa_cons pe_w (pa_cons pe_w pa_nil))) .nil)) (pa_cons pe_w (pa_cons pe_w pa_nil))) (.cons (me_call O_plus (hr.mono (by decide)) rfl m_plus k_plus b_plus tk (.cons (me_ix ixd me_var me_int) (.cons (me_call O_times (hr.mono (by decide)) rfl m_times k_times b_times tk (.cons me_var (.cons (me_ix ixd me_var me_int) .nil)) (pa_cons pe_w (pa_cons pe_w pa_nil))) .nil)) (pa_cons pe_w (pa_cons pe_w pa_nil))) .nil)) (pa_cons pe_w (pa_cons pe_w pa_nil)))))
theorem ok_moved (T : Txt K mg) (g_times : FnD P w K mg base "times" 4 ["one", "other"] 2 F_times) (g_plus : FnD P w K mg base "plus" 4 ["one", "other"] 2 F_plus) {f : Addr} {fd : FuncData} (F : Fun K "moved" "moved" s_moved f fd) (hm : mg "moved" = some (.ref f)) (hb : Binds K fd ["place", "by", "t"] []) : FnD P w K mg base "moved" 5 ["place", "by", "t"] 3 F_moved :=
  ⟨f, fd, fn_ok F sc_moved (b_moved T g_times g_plus), hm, F.kp, hb⟩
theorem sc_between : FnScope ["one", "other", "t"] ["one", "other", "t"] (defScope s_between) := ⟨rfl, rfl, rfl, by decide +kernel, rfl, by decide +kernel, by decide +kernel⟩
theorem b_between (T : Txt K mg) (g_gap_of : FnD P w K mg base "gap_of" 5 ["one", "other"] 2 F_gap_of) (g_moved : FnD P w K mg base "moved" 5 ["place", "by", "t"] 3 F_moved) {f : Addr} : BodyOk P w K mg base ["one", "other", "t"] "between" s_between f 5 M_between := by
  obtain ⟨f_gap_of, fd_gap_of, O_gap_of, m_gap_of, k_gap_of, b_gap_of⟩ := g_gap_of
  obtain ⟨f_moved, fd_moved, O_moved, m_moved, k_moved, b_moved⟩ := g_moved
  intro cdv A outer s H E R Pn hr
  have tk : Takes (cxOf (L2.CX P w) P w K mg base ["one", "other", "t"] "between" (defScope s_between) f cdv A outer s H E) (fun cls d _ H => E cls d H) := takes_of rfl rfl rfl rfl
  have po : PassesOwn (model P w) _ _ _ := passes_of (X := cxOf (L2.CX P w) P w K mg base ["one", "other", "t"] "between" (defScope s_between) f cdv A outer s H E) rfl
  exact (mss_one (ms_ret (me_call O_moved (hr.mono (by decide)) rfl m_moved k_moved b_moved tk (.cons me_var (.cons (me_call O_gap_of (hr.mono (by decide)) rfl m_gap_of k_gap_of b_gap_of tk (.cons me_var (.cons me_var .nil)) (pa_cons pe_w (pa_cons pe_w pa_nil))) (.cons me_var .nil))) (pa_cons pe_w (pa_cons pe_w (pa_cons pe_w pa_nil))))))
theorem ok_between (T : Txt K mg) (g_gap_of : FnD P w K mg base "gap_of" 5 ["one", "other"] 2 F_gap_of) (g_moved : FnD P w K mg base "moved" 5 ["place", "by", "t"] 3 F_moved) {f : Addr} {fd : FuncData} (F : Fun K "between" "between" s_between f fd) (hm : mg "between" = some (.ref f)) (hb : Binds K fd ["one", "other", "t"] []) : FnD P w K mg base "between" 6 ["one", "other", "t"] 3 F_between :=
  ⟨f, fd, fn_ok F sc_between (b_between T g_gap_of g_moved), hm, F.kp, hb⟩
theorem sc__law_same : FnScope ["_law_found", "_law_top", "_law_bottom", "_law_number_here"] ["_law_found", "_law_top", "_law_bottom"] (defScope s__law_same) := ⟨rfl, rfl, rfl, by decide +kernel, rfl, by decide +kernel, by decide +kernel⟩
theorem b__law_same (T : Txt K mg) (g__law_part : FnD P w K mg base "_law_part" 1 ["_law_one", "_law_other"] 2 F__law_part) {f : Addr} : BodyOk P w K mg base ["_law_found", "_law_top", "_law_bottom", "_law_number_here"] "_law_same" s__law_same f 1 M__law_same := by
  obtain ⟨f__law_part, fd__law_part, O__law_part, m__law_part, k__law_part, b__law_part⟩ := g__law_part
  intro cdv A outer s H E R Pn hr
  have tk : Takes (cxOf (L2.CX P w) P w K mg base ["_law_found", "_law_top", "_law_bottom", "_law_number_here"] "_law_same" (defScope s__law_same) f cdv A outer s H E) (fun cls d _ H => E cls d H) := takes_of rfl rfl rfl rfl
  have po : PassesOwn (model P w) _ _ _ := passes_of (X := cxOf (L2.CX P w) P w K mg base ["_law_found", "_law_top", "_law_bottom", "_law_number_here"] "_law_same" (defScope s__law_same) f cdv A outer s H E) rfl
  exact (mss_cons (ms_if (mt_w (mw_or (mt_not (mt_val (me_isi .tuple rfl T.n_isinstance T.n_tuple me_var))) (mw_or1 (mt_cmp (opd_ne hr.units) (me_callB callLen (by rfl) T.n_len PySem.boot_len (.cons me_var .nil) (pa_cons pe_w pa_nil)) me_int)))) (mss_one (ms_ret me_bl)) mss_nil)
    (mss_cons (ms_forT po rfl me_var (mg_name sc__law_same.nd) (mss_one (ms_if (mt_w (mw_or (mt_not (mt_val (me_isi .int rfl T.n_isinstance T.n_int me_var))) (mw_or1 (mt_val (me_isi .bool rfl T.n_isinstance T.n_bool me_var))))) (mss_one (ms_ret me_bl)) mss_nil)))
    (mss_cons (ms_if (mt_w (mw_or (mt_cmp opd_lt (me_ix ixd me_var me_int) me_int) (mw_or1 (mt_cmp (opd_ne hr.units) (me_call O__law_part (hr.mono (by decide)) rfl m__law_part k__law_part b__law_part tk (.cons (me_callB callAbs (by rfl) T.n_abs PyProof.Rows.boot_abs (.cons (me_ix ixd me_var me_int) .nil) (pa_cons pe_w pa_nil)) (.cons (me_ix ixd me_var me_int) .nil)) (pa_cons pe_w (pa_cons pe_w pa_nil))) me_int)))) (mss_one (ms_ret me_bl)) mss_nil)
    (mss_one (ms_ret (me_cmp (opd_eq hr.units) (me_bin opd_mul (me_ix ixd me_var me_int) me_var) (me_bin opd_mul me_var (me_ix ixd me_var me_int))))))))
theorem ok__law_same (T : Txt K mg) (g__law_part : FnD P w K mg base "_law_part" 1 ["_law_one", "_law_other"] 2 F__law_part) {f : Addr} {fd : FuncData} (F : Fun K "_law_same" "_law_same" s__law_same f fd) (hm : mg "_law_same" = some (.ref f)) (hb : Binds K fd ["_law_found", "_law_top", "_law_bottom"] []) : FnD P w K mg base "_law_same" 2 ["_law_found", "_law_top", "_law_bottom"] 3 F__law_same :=
  ⟨f, fd, fn_ok F sc__law_same (b__law_same T g__law_part), hm, F.kp, hb⟩
theorem sc__law_is_point : FnScope ["_law_found", "_law_one"] ["_law_found"] (defScope s__law_is_point) := ⟨rfl, rfl, rfl, by decide +kernel, rfl, by decide +kernel, by decide +kernel⟩
theorem b__law_is_point (T : Txt K mg) (g__law_same : FnD P w K mg base "_law_same" 2 ["_law_found", "_law_top", "_law_bottom"] 3 F__law_same) {f : Addr} : BodyOk P w K mg base ["_law_found", "_law_one"] "_law_is_point" s__law_is_point f 2 M__law_is_point := by
  obtain ⟨f__law_same, fd__law_same, O__law_same, m__law_same, k__law_same, b__law_same⟩ := g__law_same
  intro cdv A outer s H E R Pn hr
  have tk : Takes (cxOf (L2.CX P w) P w K mg base ["_law_found", "_law_one"] "_law_is_point" (defScope s__law_is_point) f cdv A outer s H E) (fun cls d _ H => E cls d H) := takes_of rfl rfl rfl rfl
  have po : PassesOwn (model P w) _ _ _ := passes_of (X := cxOf (L2.CX P w) P w K mg base ["_law_found", "_law_one"] "_law_is_point" (defScope s__law_is_point) f cdv A outer s H E) rfl
  exact (mss_cons (ms_if (mt_w (mw_or (mt_not (mt_val (me_isi .tuple rfl T.n_isinstance T.n_tuple me_var))) (mw_or1 (mt_cmp (opd_ne hr.units) (me_callB callLen (by rfl) T.n_len PySem.boot_len (.cons me_var .nil) (pa_cons pe_w pa_nil)) me_int)))) (mss_one (ms_ret me_bl)) mss_nil)
    (mss_cons (ms_forT po rfl me_var (mg_name sc__law_is_point.nd) (mss_one (ms_if (mt_w (mw_or (mt_not (mt_val (me_isi .tuple rfl T.n_isinstance T.n_tuple me_var))) (mw_or (mt_cmp (opd_ne hr.units) (me_callB callLen (by rfl) T.n_len PySem.boot_len (.cons me_var .nil) (pa_cons pe_w pa_nil)) me_int) (mw_or1 (mt_not (mt_val (me_call O__law_same (hr.mono (by decide)) rfl m__law_same k__law_same b__law_same tk (.cons me_var (.cons (me_ix ixd me_var me_int) (.cons (me_ix ixd me_var me_int) .nil))) (pa_cons pe_w (pa_cons pe_w (pa_cons pe_w pa_nil)))))))))) (mss_one (ms_ret me_bl)) mss_nil)))
    (mss_one (ms_ret me_bl))))
theorem ok__law_is_point (T : Txt K mg) (g__law_same : FnD P w K mg base "_law_same" 2 ["_law_found", "_law_top", "_law_bottom"] 3 F__law_same) {f : Addr} {fd : FuncData} (F : Fun K "_law_is_point" "_law_is_point" s__law_is_point f fd) (hm : mg "_law_is_point" = some (.ref f)) (hb : Binds K fd ["_law_found"] []) : FnD P w K mg base "_law_is_point" 3 ["_law_found"] 1 F__law_is_point :=
  ⟨f, fd, fn_ok F sc__law_is_point (b__law_is_point T g__law_same), hm, F.kp, hb⟩
theorem sc__law_between_good : FnScope ["_law_one", "_law_other", "_law_t", "_law_found", "_law_low", "_law_places", "_law_k", "_law_top"] ["_law_one", "_law_other", "_law_t"] (defScope s__law_between_good) := ⟨rfl, rfl, rfl, by decide +kernel, rfl, by decide +kernel, by decide +kernel⟩
theorem b__law_between_good (T : Txt K mg) (g_between : FnD P w K mg base "between" 6 ["one", "other", "t"] 3 F_between) (g__law_is_point : FnD P w K mg base "_law_is_point" 3 ["_law_found"] 1 F__law_is_point) (g__law_scaled : FnD P w K mg base "_law_scaled" 2 ["_law_points"] 1 F__law_scaled) (g__law_same : FnD P w K mg base "_law_same" 2 ["_law_found", "_law_top", "_law_bottom"] 3 F__law_same) {f : Addr} : BodyOk P w K mg base ["_law_one", "_law_other", "_law_t", "_law_found", "_law_low", "_law_places", "_law_k", "_law_top"] "_law_between_good" s__law_between_good f 6 M__law_between_good := by
  obtain ⟨f_between, fd_between, O_between, m_between, k_between, b_between⟩ := g_between
  obtain ⟨f__law_is_point, fd__law_is_point, O__law_is_point, m__law_is_point, k__law_is_point, b__law_is_point⟩ := g__law_is_point
  obtain ⟨f__law_scaled, fd__law_scaled, O__law_scaled, m__law_scaled, k__law_scaled, b__law_scaled⟩ := g__law_scaled
  obtain ⟨f__law_same, fd__law_same, O__law_same, m__law_same, k__law_same, b__law_same⟩ := g__law_same
  intro cdv A outer s H E R Pn hr
  have tk : Takes (cxOf (L2.CX P w) P w K mg base ["_law_one", "_law_other", "_law_t", "_law_found", "_law_low", "_law_places", "_law_k", "_law_top"] "_law_between_good" (defScope s__law_between_good) f cdv A outer s H E) (fun cls d _ H => E cls d H) := takes_of rfl rfl rfl rfl
  have po : PassesOwn (model P w) _ _ _ := passes_of (X := cxOf (L2.CX P w) P w K mg base ["_law_one", "_law_other", "_law_t", "_law_found", "_law_low", "_law_places", "_law_k", "_law_top"] "_law_between_good" (defScope s__law_between_good) f cdv A outer s H E) rfl
  exact (mss_cons (ms_set sc__law_between_good.nd (me_call O_between (hr.mono (by decide)) rfl m_between k_between b_between tk (.cons me_var (.cons me_var (.cons me_var .nil))) (pa_cons pe_w (pa_cons pe_w (pa_cons pe_w pa_nil)))))
    (mss_cons (ms_if (mt_not (mt_val (me_call O__law_is_point (hr.mono (by decide)) rfl m__law_is_point k__law_is_point b__law_is_point tk (.cons me_var .nil) (pa_cons pe_w pa_nil)))) (mss_one (ms_ret me_bl)) mss_nil)
    (mss_cons (ms_asg (me_call O__law_scaled (hr.mono (by decide)) rfl m__law_scaled k__law_scaled b__law_scaled tk (.cons (me_lst (.cons me_var (.cons me_var .nil)) (pa_cons pe_w (pa_cons pe_w pa_nil))) .nil) (pa_cons pe_w pa_nil)) (mg_tup rfl (.cons (mg_name sc__law_between_good.nd) (.cons (mg_name sc__law_between_good.nd) .nil)) (pgs_cons pg_w (pgs_cons pg_w pgs_nil))))
    (mss_cons (ms_forR1 po rfl T.n_range me_int (mg_name sc__law_between_good.nd) (mss_cons (ms_set sc__law_between_good.nd (me_bin opd_add (me_bin opd_mul (me_ix ixd (me_ix ixd me_var me_int) me_var) (me_ix ixd me_var me_int)) (me_bin opd_mul (me_ix ixd me_var me_int) (me_bin opd_sub (me_ix ixd (me_ix ixd me_var me_int) me_var) (me_ix ixd (me_ix ixd me_var me_int) me_var)))))
    (mss_one (ms_if (mt_not (mt_val (me_call O__law_same (hr.mono (by decide)) rfl m__law_same k__law_same b__law_same tk (.cons (me_ix ixd me_var me_var) (.cons me_var (.cons (me_bin opd_mul me_var (me_ix ixd me_var me_int)) .nil))) (pa_cons pe_w (pa_cons pe_w (pa_cons pe_w pa_nil)))))) (mss_one (ms_ret me_bl)) mss_nil))))
    (mss_one (ms_ret (me_and (me_cmp (opd_eq hr.units) (me_call O_between (hr.mono (by decide)) rfl m_between k_between b_between tk (.cons me_var (.cons me_var (.cons (me_tup (.cons me_int (.cons me_int .nil)) (pa_cons pe_w (pa_cons pe_w pa_nil))) .nil))) (pa_cons pe_w (pa_cons pe_w (pa_cons pe_w pa_nil)))) me_var) (me_one (me_cmp (opd_eq hr.units) (me_call O_between (hr.mono (by decide)) rfl m_between k_between b_between tk (.cons me_var (.cons me_var (.cons (me_tup (.cons me_int (.cons me_int .nil)) (pa_cons pe_w (pa_cons pe_w pa_nil))) .nil))) (pa_cons pe_w (pa_cons pe_w (pa_cons pe_w pa_nil)))) me_var)))))))))
theorem ok__law_between_good (T : Txt K mg) (g_between : FnD P w K mg base "between" 6 ["one", "other", "t"] 3 F_between) (g__law_is_point : FnD P w K mg base "_law_is_point" 3 ["_law_found"] 1 F__law_is_point) (g__law_scaled : FnD P w K mg base "_law_scaled" 2 ["_law_points"] 1 F__law_scaled) (g__law_same : FnD P w K mg base "_law_same" 2 ["_law_found", "_law_top", "_law_bottom"] 3 F__law_same) {f : Addr} {fd : FuncData} (F : Fun K "_law_between_good" "_law_between_good" s__law_between_good f fd) (hm : mg "_law_between_good" = some (.ref f)) (hb : Binds K fd ["_law_one", "_law_other", "_law_t"] []) : FnD P w K mg base "_law_between_good" 7 ["_law_one", "_law_other", "_law_t"] 3 F__law_between_good :=
  ⟨f, fd, fn_ok F sc__law_between_good (b__law_between_good T g_between g__law_is_point g__law_scaled g__law_same), hm, F.kp, hb⟩
theorem sc_cross : FnScope ["one", "other"] ["one", "other"] (defScope s_cross) := ⟨rfl, rfl, rfl, by decide +kernel, rfl, by decide +kernel, by decide +kernel⟩
theorem b_cross (T : Txt K mg) (g_times : FnD P w K mg base "times" 4 ["one", "other"] 2 F_times) (g_minus : FnD P w K mg base "minus" 4 ["one", "other"] 2 F_minus) {f : Addr} : BodyOk P w K mg base ["one", "other"] "cross" s_cross f 4 M_cross := by
  obtain ⟨f_times, fd_times, O_times, m_times, k_times, b_times⟩ := g_times
  obtain ⟨f_minus, fd_minus, O_minus, m_minus, k_minus, b_minus⟩ := g_minus
  intro cdv A outer s H E R Pn hr
  have tk : Takes (cxOf (L2.CX P w) P w K mg base ["one", "other"] "cross" (defScope s_cross) f cdv A outer s H E) (fun cls d _ H => E cls d H) := takes_of rfl rfl rfl rfl
  have po : PassesOwn (model P w) _ _ _ := passes_of (X := cxOf (L2.CX P w) P w K mg base ["one", "other"] "cross" (defScope s_cross) f cdv A outer s H E) rfl
  exact (mss_one (ms_ret (me_call O_minus (hr.mono (by decide)) rfl m_minus k_minus b_minus tk (.cons (me_call O_times (hr.mono (by decide)) rfl m_times k_times b_times tk (.cons (me_ix ixd me_var me_int) (.cons (me_ix ixd me_var me_int) .nil)) (pa_cons pe_w (pa_cons pe_w pa_nil))) (.cons (me_call O_times (hr.mono (by decide)) rfl m_times k_times b_times tk (.cons (me_ix ixd me_var me_int) (.cons (me_ix ixd me_var me_int) .nil)) (pa_cons pe_w (pa_cons pe_w pa_nil))) .nil)) (pa_cons pe_w (pa_cons pe_w pa_nil)))))
theorem ok_cross (T : Txt K mg) (g_times : FnD P w K mg base "times" 4 ["one", "other"] 2 F_times) (g_minus : FnD P w K mg base "minus" 4 ["one", "other"] 2 F_minus) {f : Addr} {fd : FuncData} (F : Fun K "cross" "cross" s_cross f fd) (hm : mg "cross" = some (.ref f)) (hb : Binds K fd ["one", "other"] []) : FnD P w K mg base "cross" 5 ["one", "other"] 2 F_cross :=
  ⟨f, fd, fn_ok F sc_cross (b_cross T g_times g_minus), hm, F.kp, hb⟩
theorem sc_over : FnScope ["one", "other"] ["one", "other"] (defScope s_over) := ⟨rfl, rfl, rfl, by decide +kernel, rfl, by decide +kernel, by decide +kernel⟩
theorem b_over (T : Txt K mg) (g_share : FnD P w K mg base "share" 3 ["top", "bottom"] 2 F_share) {f : Addr} : BodyOk P w K mg base ["one", "other"] "over" s_over f 3 M_over := by
  obtain ⟨f_share, fd_share, O_share, m_share, k_share, b_share⟩ := g_share
  intro cdv A outer s H E R Pn hr
  have tk : Takes (cxOf (L2.CX P w) P w K mg base ["one", "other"] "over" (defScope s_over) f cdv A outer s H E) (fun cls d _ H => E cls d H) := takes_of rfl rfl rfl rfl
  have po : PassesOwn (model P w) _ _ _ := passes_of (X := cxOf (L2.CX P w) P w K mg base ["one", "other"] "over" (defScope s_over) f cdv A outer s H E) rfl
  exact (mss_one (ms_ret (me_call O_share (hr.mono (by decide)) rfl m_share k_share b_share tk (.cons (me_bin opd_mul (me_ix ixd me_var me_int) (me_ix ixd me_var me_int)) (.cons (me_bin opd_mul (me_ix ixd me_var me_int) (me_ix ixd me_var me_int)) .nil)) (pa_cons pe_w (pa_cons pe_w pa_nil)))))
theorem ok_over (T : Txt K mg) (g_share : FnD P w K mg base "share" 3 ["top", "bottom"] 2 F_share) {f : Addr} {fd : FuncData} (F : Fun K "over" "over" s_over f fd) (hm : mg "over" = some (.ref f)) (hb : Binds K fd ["one", "other"] []) : FnD P w K mg base "over" 4 ["one", "other"] 2 F_over :=
  ⟨f, fd, fn_ok F sc_over (b_over T g_share), hm, F.kp, hb⟩
theorem sc_crossing : FnScope ["one", "other", "third", "fourth", "first", "second", "whole"] ["one", "other", "third", "fourth"] (defScope s_crossing) := ⟨rfl, rfl, rfl, by decide +kernel, rfl, by decide +kernel, by decide +kernel⟩
theorem b_crossing (T : Txt K mg) (g_gap_of : FnD P w K mg base "gap_of" 5 ["one", "other"] 2 F_gap_of) (g_cross : FnD P w K mg base "cross" 5 ["one", "other"] 2 F_cross) (g_over : FnD P w K mg base "over" 4 ["one", "other"] 2 F_over) (g_moved : FnD P w K mg base "moved" 5 ["place", "by", "t"] 3 F_moved) {f : Addr} : BodyOk P w K mg base ["one", "other", "third", "fourth", "first", "second", "whole"] "crossing" s_crossing f 5 M_crossing := by
  obtain ⟨f_gap_of, fd_gap_of, O_gap_of, m_gap_of, k_gap_of, b_gap_of⟩ := g_gap_of
  obtain ⟨f_cross, fd_cross, O_cross, m_cross, k_cross, b_cross⟩ := g_cross
  obtain ⟨f_over, fd_over, O_over, m_over, k_over, b_over⟩ := g_over
  obtain ⟨f_moved, fd_moved, O_moved, m_moved, k_moved, b_moved⟩ := g_moved
  intro cdv A outer s H E R Pn hr
  have tk : Takes (cxOf (L2.CX P w) P w K mg base ["one", "other", "third", "fourth", "first", "second", "whole"] "crossing" (defScope s_crossing) f cdv A outer s H E) (fun cls d _ H => E cls d H) := takes_of rfl rfl rfl rfl
  have po : PassesOwn (model P w) _ _ _ := passes_of (X := cxOf (L2.CX P w) P w K mg base ["one", "other", "third", "fourth", "first", "second", "whole"] "crossing" (defScope s_crossing) f cdv A outer s H E) rfl
  exact (mss_cons (ms_set sc_crossing.nd (me_call O_gap_of (hr.mono (by decide)) rfl m_gap_of k_gap_of b_gap_of tk (.cons me_var (.cons me_var .nil)) (pa_cons pe_w (pa_cons pe_w pa_nil))))
    (mss_cons (ms_set sc_crossing.nd (me_call O_gap_of (hr.mono (by decide)) rfl m_gap_of k_gap_of b_gap_of tk (.cons me_var (.cons me_var .nil)) (pa_cons pe_w (pa_cons pe_w pa_nil))))
    (mss_cons (ms_set sc_crossing.nd (me_call O_cross (hr.mono (by decide)) rfl m_cross k_cross b_cross tk (.cons me_var (.cons me_var .nil)) (pa_cons pe_w (pa_cons pe_w pa_nil))))
    (mss_cons (ms_if (mt_cmp (opd_eq hr.units) me_var (me_glob T.c_NOUGHT)) (mss_one (ms_ret me_non)) mss_nil)
    (mss_one (ms_ret (me_call O_moved (hr.mono (by decide)) rfl m_moved k_moved b_moved tk (.cons me_var (.cons me_var (.cons (me_call O_over (hr.mono (by decide)) rfl m_over k_over b_over tk (.cons (me_call O_cross (hr.mono (by decide)) rfl m_cross k_cross b_cross tk (.cons (me_call O_gap_of (hr.mono (by decide)) rfl m_gap_of k_gap_of b_gap_of tk (.cons me_var (.cons me_var .nil)) (pa_cons pe_w (pa_cons pe_w pa_nil))) (.cons me_var .nil)) (pa_cons pe_w (pa_cons pe_w pa_nil))) (.cons me_var .nil)) (pa_cons pe_w (pa_cons pe_w pa_nil))) .nil))) (pa_cons pe_w (pa_cons pe_w (pa_cons pe_w pa_nil))))))))))
theorem ok_crossing (T : Txt K mg) (g_gap_of : FnD P w K mg base "gap_of" 5 ["one", "other"] 2 F_gap_of) (g_cross : FnD P w K mg base "cross" 5 ["one", "other"] 2 F_cross) (g_over : FnD P w K mg base "over" 4 ["one", "other"] 2 F_over) (g_moved : FnD P w K mg base "moved" 5 ["place", "by", "t"] 3 F_moved) {f : Addr} {fd : FuncData} (F : Fun K "crossing" "crossing" s_crossing f fd) (hm : mg "crossing" = some (.ref f)) (hb : Binds K fd ["one", "other", "third", "fourth"] []) : FnD P w K mg base "crossing" 6 ["one", "other", "third", "fourth"] 4 F_crossing :=
  ⟨f, fd, fn_ok F sc_crossing (b_crossing T g_gap_of g_cross g_over g_moved), hm, F.kp, hb⟩
theorem sc__law_cross : FnScope ["_law_one", "_law_other", "_law_third", "_law_wide"] ["_law_one", "_law_other", "_law_third"] (defScope s__law_cross) := ⟨rfl, rfl, rfl, by decide +kernel, rfl, by decide +kernel, by decide +kernel⟩
theorem b__law_cross (T : Txt K mg)  {f : Addr} : BodyOk P w K mg base ["_law_one", "_law_other", "_law_third", "_law_wide"] "_law_cross" s__law_cross f 0 M__law_cross := by
  intro cdv A outer s H E R Pn hr
  have tk : Takes (cxOf (L2.CX P w) P w K mg base ["_law_one", "_law_other", "_law_third", "_law_wide"] "_law_cross" (defScope s__law_cross) f cdv A outer s H E) (fun cls d _ H => E cls d H) := takes_of rfl rfl rfl rfl
  have po : PassesOwn (model P w) _ _ _ := passes_of (X := cxOf (L2.CX P w) P w K mg base ["_law_one", "_law_other", "_law_third", "_law_wide"] "_law_cross" (defScope s__law_cross) f cdv A outer s H E) rfl
  exact (mss_cons (ms_set sc__law_cross.nd (me_bin opd_mul (me_bin opd_sub (me_ix ixd me_var me_int) (me_ix ixd me_var me_int)) (me_bin opd_sub (me_ix ixd me_var me_int) (me_ix ixd me_var me_int))))
    (mss_one (ms_ret (me_bin opd_sub me_var (me_bin opd_mul (me_bin opd_sub (me_ix ixd me_var me_int) (me_ix ixd me_var me_int)) (me_bin opd_sub (me_ix ixd me_var me_int) (me_ix ixd me_var me_int)))))))
theorem ok__law_cross (T : Txt K mg)  {f : Addr} {fd : FuncData} (F : Fun K "_law_cross" "_law_cross" s__law_cross f fd) (hm : mg "_law_cross" = some (.ref f)) (hb : Binds K fd ["_law_one", "_law_other", "_law_third"] []) : FnD P w K mg base "_law_cross" 1 ["_law_one", "_law_other", "_law_third"] 3 F__law_cross :=
  ⟨f, fd, fn_ok F sc__law_cross (b__law_cross T ), hm, F.kp, hb⟩
theorem sc__law_crossing_good : FnScope ["_law_points", "_law_found", "_law_low", "_law_places", "_law_steps", "_law_k"] ["_law_points"] (defScope s__law_crossing_good) := ⟨rfl, rfl, rfl, by decide +kernel, rfl, by decide +kernel, by decide +kernel⟩
theorem b__law_crossing_good (T : Txt K mg) (g_crossing : FnD P w K mg base "crossing" 6 ["one", "other", "third", "fourth"] 4 F_crossing) (g__law_scaled : FnD P w K mg base "_law_scaled" 2 ["_law_points"] 1 F__law_scaled) (g__law_is_point : FnD P w K mg base "_law_is_point" 3 ["_law_found"] 1 F__law_is_point) (g__law_cross : FnD P w K mg base "_law_cross" 1 ["_law_one", "_law_other", "_law_third"] 3 F__law_cross) {f : Addr} : BodyOk P w K mg base ["_law_points", "_law_found", "_law_low", "_law_places", "_law_steps", "_law_k"] "_law_crossing_good" s__law_crossing_good f 6 M__law_crossing_good := by
  obtain ⟨f_crossing, fd_crossing, O_crossing, m_crossing, k_crossing, b_crossing⟩ := g_crossing
  obtain ⟨f__law_scaled, fd__law_scaled, O__law_scaled, m__law_scaled, k__law_scaled, b__law_scaled⟩ := g__law_scaled
  obtain ⟨f__law_is_point, fd__law_is_point, O__law_is_point, m__law_is_point, k__law_is_point, b__law_is_point⟩ := g__law_is_point
  obtain ⟨f__law_cross, fd__law_cross, O__law_cross, m__law_cross, k__law_cross, b__law_cross⟩ := g__law_cross
  intro cdv A outer s H E R Pn hr
  have tk : Takes (cxOf (L2.CX P w) P w K mg base ["_law_points", "_law_found", "_law_low", "_law_places", "_law_steps", "_law_k"] "_law_crossing_good" (defScope s__law_crossing_good) f cdv A outer s H E) (fun cls d _ H => E cls d H) := takes_of rfl rfl rfl rfl
  have po : PassesOwn (model P w) _ _ _ := passes_of (X := cxOf (L2.CX P w) P w K mg base ["_law_points", "_law_found", "_law_low", "_law_places", "_law_steps", "_law_k"] "_law_crossing_good" (defScope s__law_crossing_good) f cdv A outer s H E) rfl
  exact (mss_cons (ms_set sc__law_crossing_good.nd (me_call O_crossing (hr.mono (by decide)) rfl m_crossing k_crossing b_crossing tk (.cons (me_ix ixd me_var me_int) (.cons (me_ix ixd me_var me_int) (.cons (me_ix ixd me_var me_int) (.cons (me_ix ixd me_var me_int) .nil)))) (pa_cons pe_w (pa_cons pe_w (pa_cons pe_w (pa_cons pe_w pa_nil))))))
    (mss_cons (ms_asg (me_call O__law_scaled (hr.mono (by decide)) rfl m__law_scaled k__law_scaled b__law_scaled tk (.cons me_var .nil) (pa_cons pe_w pa_nil)) (mg_tup rfl (.cons (mg_name sc__law_crossing_good.nd) (.cons (mg_name sc__law_crossing_good.nd) .nil)) (pgs_cons pg_w (pgs_cons pg_w pgs_nil))))
    (mss_cons (by first | exact (ms_setLc (own := [("_law_k", 5)]) rfl sc__law_crossing_good.nd (mi_list (me_lst (.cons me_int (.cons me_int .nil)) (pa_cons pe_w (pa_cons pe_w pa_nil)))) (blkOk_by (by rfl)) (fun _ _ _ _ _ => (mgo_name sc__law_crossing_good.nd)) (fun _ _ _ _ _ => (me_tup (.cons (me_bin opd_sub (me_ix ixd (me_ix ixd me_var (me_bin opd_add me_var me_int)) me_int) (me_ix ixd (me_ix ixd me_var me_var) me_int)) (.cons (me_bin opd_sub (me_ix ixd (me_ix ixd me_var (me_bin opd_add me_var me_int)) me_int) (me_ix ixd (me_ix ixd me_var me_var) me_int)) .nil)) (pa_cons pe_w (pa_cons pe_w pa_nil))))) | exact (ms_set sc__law_crossing_good.nd (me_lc (own := [("_law_k", 5)]) rfl sc__law_crossing_good.nd (mi_list (me_lst (.cons me_int (.cons me_int .nil)) (pa_cons pe_w (pa_cons pe_w pa_nil)))) (blkOk_by (by rfl)) (fun _ _ _ _ _ => (mgo_name sc__law_crossing_good.nd)) (fun _ _ _ _ _ => (me_tup (.cons (me_bin opd_sub (me_ix ixd (me_ix ixd me_var (me_bin opd_add me_var me_int)) me_int) (me_ix ixd (me_ix ixd me_var me_var) me_int)) (.cons (me_bin opd_sub (me_ix ixd (me_ix ixd me_var (me_bin opd_add me_var me_int)) me_int) (me_ix ixd (me_ix ixd me_var me_var) me_int)) .nil)) (pa_cons pe_w (pa_cons pe_w pa_nil)))))))
    (mss_cons (ms_if (mt_cmp (opd_eq hr.units) (me_bin opd_mul (me_ix ixd (me_ix ixd me_var me_int) me_int) (me_ix ixd (me_ix ixd me_var me_int) me_int)) (me_bin opd_mul (me_ix ixd (me_ix ixd me_var me_int) me_int) (me_ix ixd (me_ix ixd me_var me_int) me_int))) (mss_one (ms_ret (me_cmp opd_isN me_var me_non))) mss_nil)
    (mss_cons (ms_if (mt_not (mt_val (me_call O__law_is_point (hr.mono (by decide)) rfl m__law_is_point k__law_is_point b__law_is_point tk (.cons me_var .nil) (pa_cons pe_w pa_nil)))) (mss_one (ms_ret me_bl)) mss_nil)
    (mss_cons (ms_asg (me_call O__law_scaled (hr.mono (by decide)) rfl m__law_scaled k__law_scaled b__law_scaled tk (.cons (me_bin opd_add me_var (me_lst (.cons me_var .nil) (pa_cons pe_w pa_nil))) .nil) (pa_cons pe_w pa_nil)) (mg_tup rfl (.cons (mg_name sc__law_crossing_good.nd) (.cons (mg_name sc__law_crossing_good.nd) .nil)) (pgs_cons pg_w (pgs_cons pg_w pgs_nil))))
    (mss_one (ms_ret (me_and (me_cmp (opd_eq hr.units) (me_call O__law_cross (hr.mono (by decide)) rfl m__law_cross k__law_cross b__law_cross tk (.cons (me_ix ixd me_var me_int) (.cons (me_ix ixd me_var me_int) (.cons (me_ix ixd me_var me_int) .nil))) (pa_cons pe_w (pa_cons pe_w (pa_cons pe_w pa_nil)))) me_int) (me_one (me_cmp (opd_eq hr.units) (me_call O__law_cross (hr.mono (by decide)) rfl m__law_cross k__law_cross b__law_cross tk (.cons (me_ix ixd me_var me_int) (.cons (me_ix ixd me_var me_int) (.cons (me_ix ixd me_var me_int) .nil))) (pa_cons pe_w (pa_cons pe_w (pa_cons pe_w pa_nil)))) me_int)))))))))))
theorem ok__law_crossing_good (T : Txt K mg) (g_crossing : FnD P w K mg base "crossing" 6 ["one", "other", "third", "fourth"] 4 F_crossing) (g__law_scaled : FnD P w K mg base "_law_scaled" 2 ["_law_points"] 1 F__law_scaled) (g__law_is_point : FnD P w K mg base "_law_is_point" 3 ["_law_found"] 1 F__law_is_point) (g__law_cross : FnD P w K mg base "_law_cross" 1 ["_law_one", "_law_other", "_law_third"] 3 F__law_cross) {f : Addr} {fd : FuncData} (F : Fun K "_law_crossing_good" "_law_crossing_good" s__law_crossing_good f fd) (hm : mg "_law_crossing_good" = some (.ref f)) (hb : Binds K fd ["_law_points"] []) : FnD P w K mg base "_law_crossing_good" 7 ["_law_points"] 1 F__law_crossing_good :=
  ⟨f, fd, fn_ok F sc__law_crossing_good (b__law_crossing_good T g_crossing g__law_scaled g__law_is_point g__law_cross), hm, F.kp, hb⟩
theorem sc_law : FnScope ["_law_script", "_law_k", "_law_row_here", "_law_points", "_law_t"] ["_law_script"] (defScope s_law) := ⟨rfl, rfl, rfl, by decide +kernel, rfl, by decide +kernel, by decide +kernel⟩
theorem b_law (T : Txt K mg) (g__law_cell_at : FnD P w K mg base "_law_cell_at" 1 ["_law_script", "_law_k"] 2 F__law_cell_at) (g__law_row : FnD P w K mg base "_law_row" 1 ["_law_cell", "_law_many"] 2 F__law_row) (g__law_four : FnD P w K mg base "_law_four" 4 ["_law_row_here"] 1 F__law_four) (g__law_number : FnD P w K mg base "_law_number" 1 ["_law_x", "_law_y"] 2 F__law_number) (g__law_share : FnD P w K mg base "_law_share" 2 ["_law_top", "_law_bottom"] 2 F__law_share) (g__law_between_good : FnD P w K mg base "_law_between_good" 7 ["_law_one", "_law_other", "_law_t"] 3 F__law_between_good) (g__law_crossing_good : FnD P w K mg base "_law_crossing_good" 7 ["_law_points"] 1 F__law_crossing_good) (g_crossing : FnD P w K mg base "crossing" 6 ["one", "other", "third", "fourth"] 4 F_crossing) {f : Addr} : BodyOk P w K mg base ["_law_script", "_law_k", "_law_row_here", "_law_points", "_law_t"] "law" s_law f 7 M_law := by
  obtain ⟨f__law_cell_at, fd__law_cell_at, O__law_cell_at, m__law_cell_at, k__law_cell_at, b__law_cell_at⟩ := g__law_cell_at
  obtain ⟨f__law_row, fd__law_row, O__law_row, m__law_row, k__law_row, b__law_row⟩ := g__law_row
  obtain ⟨f__law_four, fd__law_four, O__law_four, m__law_four, k__law_four, b__law_four⟩ := g__law_four
  obtain ⟨f__law_number, fd__law_number, O__law_number, m__law_number, k__law_number, b__law_number⟩ := g__law_number
  obtain ⟨f__law_share, fd__law_share, O__law_share, m__law_share, k__law_share, b__law_share⟩ := g__law_share
  obtain ⟨f__law_between_good, fd__law_between_good, O__law_between_good, m__law_between_good, k__law_between_good, b__law_between_good⟩ := g__law_between_good
  obtain ⟨f__law_crossing_good, fd__law_crossing_good, O__law_crossing_good, m__law_crossing_good, k__law_crossing_good, b__law_crossing_good⟩ := g__law_crossing_good
  obtain ⟨f_crossing, fd_crossing, O_crossing, m_crossing, k_crossing, b_crossing⟩ := g_crossing
  intro cdv A outer s H E R Pn hr
  have tk : Takes (cxOf (L2.CX P w) P w K mg base ["_law_script", "_law_k", "_law_row_here", "_law_points", "_law_t"] "law" (defScope s_law) f cdv A outer s H E) (fun cls d _ H => E cls d H) := takes_of rfl rfl rfl rfl
  have po : PassesOwn (model P w) _ _ _ := passes_of (X := cxOf (L2.CX P w) P w K mg base ["_law_script", "_law_k", "_law_row_here", "_law_points", "_law_t"] "law" (defScope s_law) f cdv A outer s H E) rfl
  exact (mss_cons (ms_forR1 po rfl T.n_range (me_callB (callMax rfl) (by rfl) T.n_max (by decide +kernel) (.cons me_int (.cons (me_callB callLen (by rfl) T.n_len PySem.boot_len (.cons (me_slH me_var me_int) .nil) (pa_cons pe_w pa_nil)) .nil)) (pa_cons pe_w (pa_cons pe_w pa_nil))) (mg_name sc_law.nd) (mss_cons (ms_set sc_law.nd (me_call O__law_row (hr.mono (by decide)) rfl m__law_row k__law_row b__law_row tk (.cons (me_call O__law_cell_at (hr.mono (by decide)) rfl m__law_cell_at k__law_cell_at b__law_cell_at tk (.cons me_var (.cons me_var .nil)) (pa_cons pe_w (pa_cons pe_w pa_nil))) (.cons me_int .nil)) (pa_cons pe_w (pa_cons pe_w pa_nil))))
    (mss_cons (ms_set sc_law.nd (me_call O__law_four (hr.mono (by decide)) rfl m__law_four k__law_four b__law_four tk (.cons me_var .nil) (pa_cons pe_w pa_nil)))
    (mss_cons (ms_set sc_law.nd (me_call O__law_share (hr.mono (by decide)) rfl m__law_share k__law_share b__law_share tk (.cons (me_call O__law_number (hr.mono (by decide)) rfl m__law_number k__law_number b__law_number tk (.cons (me_ix ixd me_var me_int) (.cons (me_ix ixd me_var me_int) .nil)) (pa_cons pe_w (pa_cons pe_w pa_nil))) (.cons (me_bin opd_add me_int (me_bin opd_mod (me_ix ixd me_var me_int) me_int)) .nil)) (pa_cons pe_w (pa_cons pe_w pa_nil))))
    (mss_cons (ms_if (mt_w (mw_or (mt_not (mt_val (me_call O__law_between_good (hr.mono (by decide)) rfl m__law_between_good k__law_between_good b__law_between_good tk (.cons (me_ix ixd me_var me_int) (.cons (me_ix ixd me_var me_int) (.cons me_var .nil))) (pa_cons pe_w (pa_cons pe_w (pa_cons pe_w pa_nil)))))) (mw_or1 (mt_not (mt_val (me_call O__law_crossing_good (hr.mono (by decide)) rfl m__law_crossing_good k__law_crossing_good b__law_crossing_good tk (.cons me_var .nil) (pa_cons pe_w pa_nil))))))) (mss_one (ms_ret me_bl)) mss_nil)
    (mss_one (ms_if (mt_cmp (opd_ne hr.units) (me_call O_crossing (hr.mono (by decide)) rfl m_crossing k_crossing b_crossing tk (.cons (me_ix ixd me_var me_int) (.cons (me_ix ixd me_var me_int) (.cons (me_ix ixd me_var me_int) (.cons (me_ix ixd me_var me_int) .nil)))) (pa_cons pe_w (pa_cons pe_w (pa_cons pe_w (pa_cons pe_w pa_nil))))) (me_call O_crossing (hr.mono (by decide)) rfl m_crossing k_crossing b_crossing tk (.cons (me_ix ixd me_var me_int) (.cons (me_ix ixd me_var me_int) (.cons (me_ix ixd me_var me_int) (.cons (me_ix ixd me_var me_int) .nil)))) (pa_cons pe_w (pa_cons pe_w (pa_cons pe_w (pa_cons pe_w pa_nil)))))) (mss_one (ms_ret me_bl)) mss_nil)))))))
    (mss_one (ms_ret me_bl)))
theorem ok_law (T : Txt K mg) (g__law_cell_at : FnD P w K mg base "_law_cell_at" 1 ["_law_script", "_law_k"] 2 F__law_cell_at) (g__law_row : FnD P w K mg base "_law_row" 1 ["_law_cell", "_law_many"] 2 F__law_row) (g__law_four : FnD P w K mg base "_law_four" 4 ["_law_row_here"] 1 F__law_four) (g__law_number : FnD P w K mg base "_law_number" 1 ["_law_x", "_law_y"] 2 F__law_number) (g__law_share : FnD P w K mg base "_law_share" 2 ["_law_top", "_law_bottom"] 2 F__law_share) (g__law_between_good : FnD P w K mg base "_law_between_good" 7 ["_law_one", "_law_other", "_law_t"] 3 F__law_between_good) (g__law_crossing_good : FnD P w K mg base "_law_crossing_good" 7 ["_law_points"] 1 F__law_crossing_good) (g_crossing : FnD P w K mg base "crossing" 6 ["one", "other", "third", "fourth"] 4 F_crossing) {f : Addr} {fd : FuncData} (F : Fun K "law" "law" s_law f fd) (hm : mg "law" = some (.ref f)) (hb : Binds K fd ["_law_script"] []) : FnD P w K mg base "law" 8 ["_law_script"] 1 F_law :=
  ⟨f, fd, fn_ok F sc_law (b_law T g__law_cell_at g__law_row g__law_four g__law_number g__law_share g__law_between_good g__law_crossing_good g_crossing), hm, F.kp, hb⟩
end
theorem all_mk (l : PySem.W.OpenLaw) {w : World} {K : PySem.W.Frag} {h : Heap} {mg : Str → Option Value} {fa : Addr} (X : K.In h) (G : h.Ns mainGlobals mg) (hfa : mg "law" = some (.ref fa))
    {f0 : Addr} {od0 an0 : Option Addr} {sl0 : Array (Option Value)} {oc0 kV0 dc0 pm0 cd0 ct0 : Value}
    {f1 : Addr} {od1 an1 : Option Addr} {sl1 : Array (Option Value)} {oc1 kV1 dc1 pm1 cd1 ct1 : Value}
    {f2 : Addr} {od2 an2 : Option Addr} {sl2 : Array (Option Value)} {oc2 kV2 dc2 pm2 cd2 ct2 : Value}
    {f3 : Addr} {od3 an3 : Option Addr} {sl3 : Array (Option Value)} {oc3 kV3 dc3 pm3 cd3 ct3 : Value}
    {f4 : Addr} {od4 an4 : Option Addr} {sl4 : Array (Option Value)} {oc4 kV4 dc4 pm4 cd4 ct4 : Value}
    {f5 : Addr} {od5 an5 : Option Addr} {sl5 : Array (Option Value)} {oc5 kV5 dc5 pm5 cd5 ct5 : Value}
    {f6 : Addr} {od6 an6 : Option Addr} {sl6 : Array (Option Value)} {oc6 kV6 dc6 pm6 cd6 ct6 : Value}
    {f7 : Addr} {od7 an7 : Option Addr} {sl7 : Array (Option Value)} {oc7 kV7 dc7 pm7 cd7 ct7 : Value}
    {f8 : Addr} {od8 an8 : Option Addr} {sl8 : Array (Option Value)} {oc8 kV8 dc8 pm8 cd8 ct8 : Value}
    {f9 : Addr} {od9 an9 : Option Addr} {sl9 : Array (Option Value)} {oc9 kV9 dc9 pm9 cd9 ct9 : Value}
    {f10 : Addr} {od10 an10 : Option Addr} {sl10 : Array (Option Value)} {oc10 kV10 dc10 pm10 cd10 ct10 : Value}
    {f11 : Addr} {od11 an11 : Option Addr} {sl11 : Array (Option Value)} {oc11 kV11 dc11 pm11 cd11 ct11 : Value}
    {f12 : Addr} {od12 an12 : Option Addr} {sl12 : Array (Option Value)} {oc12 kV12 dc12 pm12 cd12 ct12 : Value}
    {f13 : Addr} {od13 an13 : Option Addr} {sl13 : Array (Option Value)} {oc13 kV13 dc13 pm13 cd13 ct13 : Value}
    {f14 : Addr} {od14 an14 : Option Addr} {sl14 : Array (Option Value)} {oc14 kV14 dc14 pm14 cd14 ct14 : Value}
    {f15 : Addr} {od15 an15 : Option Addr} {sl15 : Array (Option Value)} {oc15 kV15 dc15 pm15 cd15 ct15 : Value}
    {f16 : Addr} {od16 an16 : Option Addr} {sl16 : Array (Option Value)} {oc16 kV16 dc16 pm16 cd16 ct16 : Value}
    {f17 : Addr} {od17 an17 : Option Addr} {sl17 : Array (Option Value)} {oc17 kV17 dc17 pm17 cd17 ct17 : Value}
    {f18 : Addr} {od18 an18 : Option Addr} {sl18 : Array (Option Value)} {oc18 kV18 dc18 pm18 cd18 ct18 : Value}
    {f19 : Addr} {od19 an19 : Option Addr} {sl19 : Array (Option Value)} {oc19 kV19 dc19 pm19 cd19 ct19 : Value}
    {f20 : Addr} {od20 an20 : Option Addr} {sl20 : Array (Option Value)} {oc20 kV20 dc20 pm20 cd20 ct20 : Value}
    {f21 : Addr} {od21 an21 : Option Addr} {sl21 : Array (Option Value)} {oc21 kV21 dc21 pm21 cd21 ct21 : Value}
    {f22 : Addr} {od22 an22 : Option Addr} {sl22 : Array (Option Value)} {oc22 kV22 dc22 pm22 cd22 ct22 : Value}
    {f23 : Addr} {od23 an23 : Option Addr} {sl23 : Array (Option Value)} {oc23 kV23 dc23 pm23 cd23 ct23 : Value}
    {f24 : Addr} {od24 an24 : Option Addr} {sl24 : Array (Option Value)} {oc24 kV24 dc24 pm24 cd24 ct24 : Value}
    {A_NOUGHT : Addr} {od_NOUGHT : Option Addr} {n_NOUGHT : Nat} {sl_NOUGHT : Array (Option Value)} {t0_NOUGHT t1_NOUGHT : Tok}
    {C_NoShare : Addr}
    (a0 : PySem.W.nsIn K mainGlobals "_law_cell_at" = some (some (.ref f0))) (l0 : K.lookup f0 = some ⟨oc0, od0, .func (PySem.W.fnOf "_law_cell_at" "_law_cell_at" (defArgs s__law_cell_at) (defBody s__law_cell_at) (defScope s__law_cell_at) .none kV0 dc0 pm0 an0 cd0 ct0), sl0⟩) (c0 : PySem.W.codeIn K cd0 "_law_cell_at" = true) (k0 : PySem.W.keepIn K (.ref f0) = true)
    (a1 : PySem.W.nsIn K mainGlobals "_law_row" = some (some (.ref f1))) (l1 : K.lookup f1 = some ⟨oc1, od1, .func (PySem.W.fnOf "_law_row" "_law_row" (defArgs s__law_row) (defBody s__law_row) (defScope s__law_row) .none kV1 dc1 pm1 an1 cd1 ct1), sl1⟩) (c1 : PySem.W.codeIn K cd1 "_law_row" = true) (k1 : PySem.W.keepIn K (.ref f1) = true)
    (a2 : PySem.W.nsIn K mainGlobals "_law_number" = some (some (.ref f2))) (l2 : K.lookup f2 = some ⟨oc2, od2, .func (PySem.W.fnOf "_law_number" "_law_number" (defArgs s__law_number) (defBody s__law_number) (defScope s__law_number) .none kV2 dc2 pm2 an2 cd2 ct2), sl2⟩) (c2 : PySem.W.codeIn K cd2 "_law_number" = true) (k2 : PySem.W.keepIn K (.ref f2) = true)
    (a3 : PySem.W.nsIn K mainGlobals "_law_part" = some (some (.ref f3))) (l3 : K.lookup f3 = some ⟨oc3, od3, .func (PySem.W.fnOf "_law_part" "_law_part" (defArgs s__law_part) (defBody s__law_part) (defScope s__law_part) .none kV3 dc3 pm3 an3 cd3 ct3), sl3⟩) (c3 : PySem.W.codeIn K cd3 "_law_part" = true) (k3 : PySem.W.keepIn K (.ref f3) = true)
    (a4 : PySem.W.nsIn K mainGlobals "_law_share" = some (some (.ref f4))) (l4 : K.lookup f4 = some ⟨oc4, od4, .func (PySem.W.fnOf "_law_share" "_law_share" (defArgs s__law_share) (defBody s__law_share) (defScope s__law_share) .none kV4 dc4 pm4 an4 cd4 ct4), sl4⟩) (c4 : PySem.W.codeIn K cd4 "_law_share" = true) (k4 : PySem.W.keepIn K (.ref f4) = true)
    (a5 : PySem.W.nsIn K mainGlobals "_law_point" = some (some (.ref f5))) (l5 : K.lookup f5 = some ⟨oc5, od5, .func (PySem.W.fnOf "_law_point" "_law_point" (defArgs s__law_point) (defBody s__law_point) (defScope s__law_point) .none kV5 dc5 pm5 an5 cd5 ct5), sl5⟩) (c5 : PySem.W.codeIn K cd5 "_law_point" = true) (k5 : PySem.W.keepIn K (.ref f5) = true)
    (a6 : PySem.W.nsIn K mainGlobals "_law_scaled" = some (some (.ref f6))) (l6 : K.lookup f6 = some ⟨oc6, od6, .func (PySem.W.fnOf "_law_scaled" "_law_scaled" (defArgs s__law_scaled) (defBody s__law_scaled) (defScope s__law_scaled) .none kV6 dc6 pm6 an6 cd6 ct6), sl6⟩) (c6 : PySem.W.codeIn K cd6 "_law_scaled" = true) (k6 : PySem.W.keepIn K (.ref f6) = true)
    (a7 : PySem.W.nsIn K mainGlobals "_law_four" = some (some (.ref f7))) (l7 : K.lookup f7 = some ⟨oc7, od7, .func (PySem.W.fnOf "_law_four" "_law_four" (defArgs s__law_four) (defBody s__law_four) (defScope s__law_four) .none kV7 dc7 pm7 an7 cd7 ct7), sl7⟩) (c7 : PySem.W.codeIn K cd7 "_law_four" = true) (k7 : PySem.W.keepIn K (.ref f7) = true)
    (a8 : PySem.W.nsIn K mainGlobals "common_part" = some (some (.ref f8))) (l8 : K.lookup f8 = some ⟨oc8, od8, .func (PySem.W.fnOf "common_part" "common_part" (defArgs s_common_part) (defBody s_common_part) (defScope s_common_part) .none kV8 dc8 pm8 an8 cd8 ct8), sl8⟩) (c8 : PySem.W.codeIn K cd8 "common_part" = true) (k8 : PySem.W.keepIn K (.ref f8) = true)
    (a9 : PySem.W.nsIn K mainGlobals "share" = some (some (.ref f9))) (l9 : K.lookup f9 = some ⟨oc9, od9, .func (PySem.W.fnOf "share" "share" (defArgs s_share) (defBody s_share) (defScope s_share) .none kV9 dc9 pm9 an9 cd9 ct9), sl9⟩) (c9 : PySem.W.codeIn K cd9 "share" = true) (k9 : PySem.W.keepIn K (.ref f9) = true)
    (a10 : PySem.W.nsIn K mainGlobals "minus" = some (some (.ref f10))) (l10 : K.lookup f10 = some ⟨oc10, od10, .func (PySem.W.fnOf "minus" "minus" (defArgs s_minus) (defBody s_minus) (defScope s_minus) .none kV10 dc10 pm10 an10 cd10 ct10), sl10⟩) (c10 : PySem.W.codeIn K cd10 "minus" = true) (k10 : PySem.W.keepIn K (.ref f10) = true)
    (a11 : PySem.W.nsIn K mainGlobals "gap_of" = some (some (.ref f11))) (l11 : K.lookup f11 = some ⟨oc11, od11, .func (PySem.W.fnOf "gap_of" "gap_of" (defArgs s_gap_of) (defBody s_gap_of) (defScope s_gap_of) .none kV11 dc11 pm11 an11 cd11 ct11), sl11⟩) (c11 : PySem.W.codeIn K cd11 "gap_of" = true) (k11 : PySem.W.keepIn K (.ref f11) = true)
    (a12 : PySem.W.nsIn K mainGlobals "times" = some (some (.ref f12))) (l12 : K.lookup f12 = some ⟨oc12, od12, .func (PySem.W.fnOf "times" "times" (defArgs s_times) (defBody s_times) (defScope s_times) .none kV12 dc12 pm12 an12 cd12 ct12), sl12⟩) (c12 : PySem.W.codeIn K cd12 "times" = true) (k12 : PySem.W.keepIn K (.ref f12) = true)
    (a13 : PySem.W.nsIn K mainGlobals "plus" = some (some (.ref f13))) (l13 : K.lookup f13 = some ⟨oc13, od13, .func (PySem.W.fnOf "plus" "plus" (defArgs s_plus) (defBody s_plus) (defScope s_plus) .none kV13 dc13 pm13 an13 cd13 ct13), sl13⟩) (c13 : PySem.W.codeIn K cd13 "plus" = true) (k13 : PySem.W.keepIn K (.ref f13) = true)
    (a14 : PySem.W.nsIn K mainGlobals "moved" = some (some (.ref f14))) (l14 : K.lookup f14 = some ⟨oc14, od14, .func (PySem.W.fnOf "moved" "moved" (defArgs s_moved) (defBody s_moved) (defScope s_moved) .none kV14 dc14 pm14 an14 cd14 ct14), sl14⟩) (c14 : PySem.W.codeIn K cd14 "moved" = true) (k14 : PySem.W.keepIn K (.ref f14) = true)
    (a15 : PySem.W.nsIn K mainGlobals "between" = some (some (.ref f15))) (l15 : K.lookup f15 = some ⟨oc15, od15, .func (PySem.W.fnOf "between" "between" (defArgs s_between) (defBody s_between) (defScope s_between) .none kV15 dc15 pm15 an15 cd15 ct15), sl15⟩) (c15 : PySem.W.codeIn K cd15 "between" = true) (k15 : PySem.W.keepIn K (.ref f15) = true)
    (a16 : PySem.W.nsIn K mainGlobals "_law_same" = some (some (.ref f16))) (l16 : K.lookup f16 = some ⟨oc16, od16, .func (PySem.W.fnOf "_law_same" "_law_same" (defArgs s__law_same) (defBody s__law_same) (defScope s__law_same) .none kV16 dc16 pm16 an16 cd16 ct16), sl16⟩) (c16 : PySem.W.codeIn K cd16 "_law_same" = true) (k16 : PySem.W.keepIn K (.ref f16) = true)
    (a17 : PySem.W.nsIn K mainGlobals "_law_is_point" = some (some (.ref f17))) (l17 : K.lookup f17 = some ⟨oc17, od17, .func (PySem.W.fnOf "_law_is_point" "_law_is_point" (defArgs s__law_is_point) (defBody s__law_is_point) (defScope s__law_is_point) .none kV17 dc17 pm17 an17 cd17 ct17), sl17⟩) (c17 : PySem.W.codeIn K cd17 "_law_is_point" = true) (k17 : PySem.W.keepIn K (.ref f17) = true)
    (a18 : PySem.W.nsIn K mainGlobals "_law_between_good" = some (some (.ref f18))) (l18 : K.lookup f18 = some ⟨oc18, od18, .func (PySem.W.fnOf "_law_between_good" "_law_between_good" (defArgs s__law_between_good) (defBody s__law_between_good) (defScope s__law_between_good) .none kV18 dc18 pm18 an18 cd18 ct18), sl18⟩) (c18 : PySem.W.codeIn K cd18 "_law_between_good" = true) (k18 : PySem.W.keepIn K (.ref f18) = true)
    (a19 : PySem.W.nsIn K mainGlobals "cross" = some (some (.ref f19))) (l19 : K.lookup f19 = some ⟨oc19, od19, .func (PySem.W.fnOf "cross" "cross" (defArgs s_cross) (defBody s_cross) (defScope s_cross) .none kV19 dc19 pm19 an19 cd19 ct19), sl19⟩) (c19 : PySem.W.codeIn K cd19 "cross" = true) (k19 : PySem.W.keepIn K (.ref f19) = true)
    (a20 : PySem.W.nsIn K mainGlobals "over" = some (some (.ref f20))) (l20 : K.lookup f20 = some ⟨oc20, od20, .func (PySem.W.fnOf "over" "over" (defArgs s_over) (defBody s_over) (defScope s_over) .none kV20 dc20 pm20 an20 cd20 ct20), sl20⟩) (c20 : PySem.W.codeIn K cd20 "over" = true) (k20 : PySem.W.keepIn K (.ref f20) = true)
    (a21 : PySem.W.nsIn K mainGlobals "crossing" = some (some (.ref f21))) (l21 : K.lookup f21 = some ⟨oc21, od21, .func (PySem.W.fnOf "crossing" "crossing" (defArgs s_crossing) (defBody s_crossing) (defScope s_crossing) .none kV21 dc21 pm21 an21 cd21 ct21), sl21⟩) (c21 : PySem.W.codeIn K cd21 "crossing" = true) (k21 : PySem.W.keepIn K (.ref f21) = true)
    (a22 : PySem.W.nsIn K mainGlobals "_law_cross" = some (some (.ref f22))) (l22 : K.lookup f22 = some ⟨oc22, od22, .func (PySem.W.fnOf "_law_cross" "_law_cross" (defArgs s__law_cross) (defBody s__law_cross) (defScope s__law_cross) .none kV22 dc22 pm22 an22 cd22 ct22), sl22⟩) (c22 : PySem.W.codeIn K cd22 "_law_cross" = true) (k22 : PySem.W.keepIn K (.ref f22) = true)
    (a23 : PySem.W.nsIn K mainGlobals "_law_crossing_good" = some (some (.ref f23))) (l23 : K.lookup f23 = some ⟨oc23, od23, .func (PySem.W.fnOf "_law_crossing_good" "_law_crossing_good" (defArgs s__law_crossing_good) (defBody s__law_crossing_good) (defScope s__law_crossing_good) .none kV23 dc23 pm23 an23 cd23 ct23), sl23⟩) (c23 : PySem.W.codeIn K cd23 "_law_crossing_good" = true) (k23 : PySem.W.keepIn K (.ref f23) = true)
    (a24 : PySem.W.nsIn K mainGlobals "law" = some (some (.ref f24))) (l24 : K.lookup f24 = some ⟨oc24, od24, .func (PySem.W.fnOf "law" "law" (defArgs s_law) (defBody s_law) (defScope s_law) .none kV24 dc24 pm24 an24 cd24 ct24), sl24⟩) (c24 : PySem.W.codeIn K cd24 "law" = true) (k24 : PySem.W.keepIn K (.ref f24) = true)
    (z_abs : PySem.W.nsIn K mainGlobals "abs" = some none)
    (z_bool : PySem.W.nsIn K mainGlobals "bool" = some none)
    (z_int : PySem.W.nsIn K mainGlobals "int" = some none)
    (z_isinstance : PySem.W.nsIn K mainGlobals "isinstance" = some none)
    (z_len : PySem.W.nsIn K mainGlobals "len" = some none)
    (z_max : PySem.W.nsIn K mainGlobals "max" = some none)
    (z_range : PySem.W.nsIn K mainGlobals "range" = some none)
    (z_tuple : PySem.W.nsIn K mainGlobals "tuple" = some none)
    (q_NOUGHT : PySem.W.nsIn K mainGlobals "NOUGHT" = some (some (.ref A_NOUGHT))) (r_NOUGHT : K.lookup A_NOUGHT = some ⟨.type "tuple", od_NOUGHT, .seq #[.int 0 t0_NOUGHT, .int 1 t1_NOUGHT] n_NOUGHT, sl_NOUGHT⟩)
    (aC_NoShare : PySem.W.nsIn K mainGlobals "NoShare" = some (some (.ref C_NoShare)))
    (x_NoShare : PySem.W.excIn K C_NoShare [.type "ValueError", .type "Exception", .type "BaseException", .type "object"] "ValueError.__new__" = true) (kC_NoShare : PySem.W.keepIn K (.ref C_NoShare) = true) (bC_NoShare : PySem.W.subIn K (.ref C_NoShare) (.type "BaseException") = some true) (tC_NoShare : PySem.W.typeIn K (.ref C_NoShare) = some (.type "type"))
    (ex_NoShare : ExcC K C_NoShare)
    (v_NoShare : PySem.W.kitOne K (.ref C_NoShare) (.type "ValueError") = some true)
    (kt_NoShare_NoShare : PySem.W.kitOne K (.ref C_NoShare) (.ref C_NoShare) = some true) (em_NoShare_NoShare : PySem.W.exmOne K (.ref C_NoShare) (.ref C_NoShare) = some true) :
    ∃ fd : FuncData, (∀ (s : Shared) (v : Value), BindsTo s fd ⟨[v], []⟩ [("_law_script", v)]) ∧ ∀ base : Heap, K.In base → base.Ns mainGlobals mg → FnOk l.prog w K mg base (L2.CX l.prog w) 8 fa fd ["_law_script"] (spF K mg 1 F_law) := by
  have e := hfa.symm.trans (PySem.W.mg_of X G a24)
  cases e
  have T : Txt K mg := ⟨PySem.W.mg_none_of X G z_abs, PySem.W.mg_none_of X G z_bool, PySem.W.mg_none_of X G z_int, PySem.W.mg_none_of X G z_isinstance, PySem.W.mg_none_of X G z_len, PySem.W.mg_none_of X G z_max, PySem.W.mg_none_of X G z_range, PySem.W.mg_none_of X G z_tuple, const_tup (vs := [0, 1].map V.int) (ds := [0, 1].map D.int) (PySem.W.mg_of X G q_NOUGHT) r_NOUGHT (.cons ⟨_, rfl⟩ (.cons ⟨_, rfl⟩ .nil)) (by simp [sizeLine]) (fun F => reps_ints F _)⟩
  have e_NoShare : ErrC K mg "NoShare" C_NoShare := ⟨PySem.W.mg_of X G aC_NoShare, x_NoShare, kC_NoShare, bC_NoShare, tC_NoShare⟩
  have TE : ErrT K mg ["NoShare"] ["NoShare"] := by
    refine ⟨?_, ?_, ?_, ?_⟩
    · intro c hc D hD; simp only [List.mem_cons, List.not_mem_nil, or_false] at hc; rcases hc with rfl
      · cases (e_NoShare.g.symm.trans hD); exact ex_NoShare
    · intro c hc D hD d hd C hC; simp only [List.mem_cons, List.not_mem_nil, or_false] at hc; rcases hc with rfl
      · cases (e_NoShare.g.symm.trans hD); simp only [List.mem_cons, List.not_mem_nil, or_false] at hd; rcases hd with rfl
        · cases (e_NoShare.g.symm.trans hC); exact kt_NoShare_NoShare
    · intro c hc D hD d hd C hC; simp only [List.mem_cons, List.not_mem_nil, or_false] at hc; rcases hc with rfl
      · cases (e_NoShare.g.symm.trans hD); simp only [List.mem_cons, List.not_mem_nil, or_false] at hd; rcases hd with rfl
        · cases (e_NoShare.g.symm.trans hC); exact em_NoShare_NoShare
    · intro c hc D hD; simp only [List.mem_cons, List.not_mem_nil, or_false] at hc; rcases hc with rfl
      · cases (e_NoShare.g.symm.trans hD); exact v_NoShare
  have F0 := fun_mk (st := s__law_cell_at) l0 c0 k0
  have bb0 := F0.binds (ps := ["_law_script", "_law_k"]) fun _ _ _ _ _ _ us hl => match us, hl with | [_, _], _ => rfl
  have F1 := fun_mk (st := s__law_row) l1 c1 k1
  have bb1 := F1.binds (ps := ["_law_cell", "_law_many"]) fun _ _ _ _ _ _ us hl => match us, hl with | [_, _], _ => rfl
  have F2 := fun_mk (st := s__law_number) l2 c2 k2
  have bb2 := F2.binds (ps := ["_law_x", "_law_y"]) fun _ _ _ _ _ _ us hl => match us, hl with | [_, _], _ => rfl
  have F3 := fun_mk (st := s__law_part) l3 c3 k3
  have bb3 := F3.binds (ps := ["_law_one", "_law_other"]) fun _ _ _ _ _ _ us hl => match us, hl with | [_, _], _ => rfl
  have F4 := fun_mk (st := s__law_share) l4 c4 k4
  have bb4 := F4.binds (ps := ["_law_top", "_law_bottom"]) fun _ _ _ _ _ _ us hl => match us, hl with | [_, _], _ => rfl
  have F5 := fun_mk (st := s__law_point) l5 c5 k5
  have bb5 := F5.binds (ps := ["_law_row_here"]) fun _ _ _ _ _ _ us hl => match us, hl with | [_], _ => rfl
  have F6 := fun_mk (st := s__law_scaled) l6 c6 k6
  have bb6 := F6.binds (ps := ["_law_points"]) fun _ _ _ _ _ _ us hl => match us, hl with | [_], _ => rfl
  have F7 := fun_mk (st := s__law_four) l7 c7 k7
  have bb7 := F7.binds (ps := ["_law_row_here"]) fun _ _ _ _ _ _ us hl => match us, hl with | [_], _ => rfl
  have F8 := fun_mk (st := s_common_part) l8 c8 k8
  have bb8 := F8.binds (ps := ["one", "other"]) fun _ _ _ _ _ _ us hl => match us, hl with | [_, _], _ => rfl
  have F9 := fun_mk (st := s_share) l9 c9 k9
  have bb9 := F9.binds (ps := ["top", "bottom"]) fun _ _ _ _ _ _ us hl => match us, hl with | [_, _], _ => rfl
  have F10 := fun_mk (st := s_minus) l10 c10 k10
  have bb10 := F10.binds (ps := ["one", "other"]) fun _ _ _ _ _ _ us hl => match us, hl with | [_, _], _ => rfl
  have F11 := fun_mk (st := s_gap_of) l11 c11 k11
  have bb11 := F11.binds (ps := ["one", "other"]) fun _ _ _ _ _ _ us hl => match us, hl with | [_, _], _ => rfl
  have F12 := fun_mk (st := s_times) l12 c12 k12
  have bb12 := F12.binds (ps := ["one", "other"]) fun _ _ _ _ _ _ us hl => match us, hl with | [_, _], _ => rfl
  have F13 := fun_mk (st := s_plus) l13 c13 k13
  have bb13 := F13.binds (ps := ["one", "other"]) fun _ _ _ _ _ _ us hl => match us, hl with | [_, _], _ => rfl
  have F14 := fun_mk (st := s_moved) l14 c14 k14
  have bb14 := F14.binds (ps := ["place", "by", "t"]) fun _ _ _ _ _ _ us hl => match us, hl with | [_, _, _], _ => rfl
  have F15 := fun_mk (st := s_between) l15 c15 k15
  have bb15 := F15.binds (ps := ["one", "other", "t"]) fun _ _ _ _ _ _ us hl => match us, hl with | [_, _, _], _ => rfl
  have F16 := fun_mk (st := s__law_same) l16 c16 k16
  have bb16 := F16.binds (ps := ["_law_found", "_law_top", "_law_bottom"]) fun _ _ _ _ _ _ us hl => match us, hl with | [_, _, _], _ => rfl
  have F17 := fun_mk (st := s__law_is_point) l17 c17 k17
  have bb17 := F17.binds (ps := ["_law_found"]) fun _ _ _ _ _ _ us hl => match us, hl with | [_], _ => rfl
  have F18 := fun_mk (st := s__law_between_good) l18 c18 k18
  have bb18 := F18.binds (ps := ["_law_one", "_law_other", "_law_t"]) fun _ _ _ _ _ _ us hl => match us, hl with | [_, _, _], _ => rfl
  have F19 := fun_mk (st := s_cross) l19 c19 k19
  have bb19 := F19.binds (ps := ["one", "other"]) fun _ _ _ _ _ _ us hl => match us, hl with | [_, _], _ => rfl
  have F20 := fun_mk (st := s_over) l20 c20 k20
  have bb20 := F20.binds (ps := ["one", "other"]) fun _ _ _ _ _ _ us hl => match us, hl with | [_, _], _ => rfl
  have F21 := fun_mk (st := s_crossing) l21 c21 k21
  have bb21 := F21.binds (ps := ["one", "other", "third", "fourth"]) fun _ _ _ _ _ _ us hl => match us, hl with | [_, _, _, _], _ => rfl
  have F22 := fun_mk (st := s__law_cross) l22 c22 k22
  have bb22 := F22.binds (ps := ["_law_one", "_law_other", "_law_third"]) fun _ _ _ _ _ _ us hl => match us, hl with | [_, _, _], _ => rfl
  have F23 := fun_mk (st := s__law_crossing_good) l23 c23 k23
  have bb23 := F23.binds (ps := ["_law_points"]) fun _ _ _ _ _ _ us hl => match us, hl with | [_], _ => rfl
  have F24 := fun_mk (st := s_law) l24 c24 k24
  have bb24 := F24.binds (ps := ["_law_script"]) fun _ _ _ _ _ _ us hl => match us, hl with | [_], _ => rfl
  have g__law_cell_at := fun base => ok__law_cell_at (P := l.prog) (w := w) (base := base) T  F0 (PySem.W.mg_of X G a0) bb0
  have g__law_row := fun base => ok__law_row (P := l.prog) (w := w) (base := base) T  F1 (PySem.W.mg_of X G a1) bb1
  have g__law_number := fun base => ok__law_number (P := l.prog) (w := w) (base := base) T  F2 (PySem.W.mg_of X G a2) bb2
  have g__law_part := fun base => ok__law_part (P := l.prog) (w := w) (base := base) T  F3 (PySem.W.mg_of X G a3) bb3
  have g__law_share := fun base => ok__law_share (P := l.prog) (w := w) (base := base) T (g__law_part base) F4 (PySem.W.mg_of X G a4) bb4
  have g__law_point := fun base => ok__law_point (P := l.prog) (w := w) (base := base) T (g__law_number base) (g__law_share base) F5 (PySem.W.mg_of X G a5) bb5
  have g__law_scaled := fun base => ok__law_scaled (P := l.prog) (w := w) (base := base) T (g__law_part base) F6 (PySem.W.mg_of X G a6) bb6
  have g__law_four := fun base => ok__law_four (P := l.prog) (w := w) (base := base) T (g__law_point base) (g__law_scaled base) (g__law_share base) F7 (PySem.W.mg_of X G a7) bb7
  have g_common_part := fun base => ok_common_part (P := l.prog) (w := w) (base := base) T  F8 (PySem.W.mg_of X G a8) bb8
  have g_share := fun base => ok_share (P := l.prog) (w := w) (base := base) T TE e_NoShare (g_common_part base) F9 (PySem.W.mg_of X G a9) bb9
  have g_minus := fun base => ok_minus (P := l.prog) (w := w) (base := base) T (g_share base) F10 (PySem.W.mg_of X G a10) bb10
  have g_gap_of := fun base => ok_gap_of (P := l.prog) (w := w) (base := base) T (g_minus base) F11 (PySem.W.mg_of X G a11) bb11
  have g_times := fun base => ok_times (P := l.prog) (w := w) (base := base) T (g_share base) F12 (PySem.W.mg_of X G a12) bb12
  have g_plus := fun base => ok_plus (P := l.prog) (w := w) (base := base) T (g_share base) F13 (PySem.W.mg_of X G a13) bb13
  have g_moved := fun base => ok_moved (P := l.prog) (w := w) (base := base) T (g_times base) (g_plus base) F14 (PySem.W.mg_of X G a14) bb14
  have g_between := fun base => ok_between (P := l.prog) (w := w) (base := base) T (g_gap_of base) (g_moved base) F15 (PySem.W.mg_of X G a15) bb15
  have g__law_same := fun base => ok__law_same (P := l.prog) (w := w) (base := base) T (g__law_part base) F16 (PySem.W.mg_of X G a16) bb16
  have g__law_is_point := fun base => ok__law_is_point (P := l.prog) (w := w) (base := base) T (g__law_same base) F17 (PySem.W.mg_of X G a17) bb17
  have g__law_between_good := fun base => ok__law_between_good (P := l.prog) (w := w) (base := base) T (g_between base) (g__law_is_point base) (g__law_scaled base) (g__law_same base) F18 (PySem.W.mg_of X G a18) bb18
  have g_cross := fun base => ok_cross (P := l.prog) (w := w) (base := base) T (g_times base) (g_minus base) F19 (PySem.W.mg_of X G a19) bb19
  have g_over := fun base => ok_over (P := l.prog) (w := w) (base := base) T (g_share base) F20 (PySem.W.mg_of X G a20) bb20
  have g_crossing := fun base => ok_crossing (P := l.prog) (w := w) (base := base) T (g_gap_of base) (g_cross base) (g_over base) (g_moved base) F21 (PySem.W.mg_of X G a21) bb21
  have g__law_cross := fun base => ok__law_cross (P := l.prog) (w := w) (base := base) T  F22 (PySem.W.mg_of X G a22) bb22
  have g__law_crossing_good := fun base => ok__law_crossing_good (P := l.prog) (w := w) (base := base) T (g_crossing base) (g__law_scaled base) (g__law_is_point base) (g__law_cross base) F23 (PySem.W.mg_of X G a23) bb23
  exact ⟨_, fun s v => by exact .of_eq rfl, fun base _ _ => fn_ok F24 sc_law (b_law (P := l.prog) (w := w) (base := base) T (g__law_cell_at base) (g__law_row base) (g__law_four base) (g__law_number base) (g__law_share base) (g__law_between_good base) (g__law_crossing_good base) (g_crossing base))⟩
end K05

namespace K05
open PySem PySem.Spec L2 DX
open PyProof.Rows hiding St
theorem part_step (a b : Int) (s : Slot) (n : Nat) : whileN C_common_part_1 [2] B_common_part_1 (n + 1) [.v .fz (.int a), .v .fz (.int b), s] =
    if 0 < b then whileN C_common_part_1 [2] B_common_part_1 n [.v .fz (.int b), .v .fz (.int (a % b)), .v .fz (.int (a % b))]
    else .next [.v .fz (.int a), .v .fz (.int b), .un] := by
  by_cases h : 0 < b
  · simp [whileN, C_common_part_1, B_common_part_1, dVar, dC, dPrim, dMake, dTup, dLst, mArgs, AR.bind, AR.thn, ER.bind, ER.thn, FR.bind, TR.bind, TR.thn, TR.thenE, rdVs, rdV, frzV, frzVs, dTst, dNotT, dAndT, dOrT, dNotV, dAndV, dOrV, dIfE, dSeq, dDrop, dRet, dIf, dSet, putV, putRaw, gNm, gTp, gLs, gEach, dAsg, dPar, dCall, mkSlots, finS, keepIo, runFn, gAdd, DX.gSub, gNeg, gAbs, gLen, gEq_int, gNe_int, gLt_int, gGt_int, gLe_int, gGe_int, gIsi, tyD, isiD, dPin, forget, List.set_cons_zero, List.set_cons_succ, List.getElem?_cons_zero, List.getElem?_cons_succ, List.length_cons, List.length_nil, List.replicate, List.cons_append, List.nil_append, Nat.reduceAdd, Nat.reduceSub, h, gMod]
  · simp [whileN, C_common_part_1, dVar, dC, dPrim, dMake, dTup, dLst, mArgs, AR.bind, AR.thn, ER.bind, ER.thn, FR.bind, TR.bind, TR.thn, TR.thenE, rdVs, rdV, frzV, frzVs, dTst, dNotT, dAndT, dOrT, dNotV, dAndV, dOrV, dIfE, dSeq, dDrop, dRet, dIf, dSet, putV, putRaw, gNm, gTp, gLs, gEach, dAsg, dPar, dCall, mkSlots, finS, keepIo, runFn, gAdd, DX.gSub, gNeg, gAbs, gLen, gEq_int, gNe_int, gLt_int, gGt_int, gLe_int, gGe_int, gIsi, tyD, isiD, dPin, forget, List.set_cons_zero, List.set_cons_succ, List.getElem?_cons_zero, List.getElem?_cons_succ, List.length_cons, List.length_nil, List.replicate, List.cons_append, List.nil_append, Nat.reduceAdd, Nat.reduceSub, h]
theorem part_run : ∀ (m a b : Nat) (s : Slot), b ≤ m → ∃ n, whileN C_common_part_1 [2] B_common_part_1 n [.v .fz (.int a), .v .fz (.int b), s] =
    .next [.v .fz (.int (a.gcd b : Nat)), .v .fz (.int 0), .un]
  | m, a, 0, s, _ => ⟨1, by rw [part_step]; simp⟩
  | 0, a, b + 1, s, l => by omega
  | m + 1, a, b + 1, s, l => by
    have hl := Nat.mod_lt a (Nat.succ_pos b)
    obtain ⟨n, e⟩ := part_run m (b + 1) (a % (b + 1)) (.v .fz (.int ((a % (b + 1) : Nat) : Int))) (Nat.le_trans (Nat.le_of_lt_succ hl) (Nat.le_of_succ_le_succ l))
    refine ⟨n + 1, ?_⟩
    rw [part_step, if_pos (by omega)]
    have e1 : (a : Int) % ((b + 1 : Nat) : Int) = ((a % (b + 1) : Nat) : Int) := rfl
    rw [e1, e]
    congr 5
    rw [Nat.gcd_comm a, Nat.gcd_rec (b + 1) a, Nat.gcd_comm]
theorem common_part_is {a b : Int} (ha : 0 ≤ a) (hb : 0 ≤ b) : ∃ e, F_common_part [.v .fz (.int a), .v .fz (.int b)] = .ok (.fz (.int (Int.gcd a b))) e := by
  obtain ⟨m, rfl⟩ := Int.eq_ofNat_of_zero_le hb
  obtain ⟨a, rfl⟩ := Int.eq_ofNat_of_zero_le ha
  obtain ⟨n, e⟩ := part_run m a m .un (Nat.le_refl _)
  unfold F_common_part M_common_part runFn
  simp only [List.length_cons, List.length_nil, List.replicate, List.cons_append, List.nil_append, Nat.reduceAdd, Nat.reduceSub, dSeq]
  rw [dWhile_of e (by simp)]
  simp [dVar, dC, dPrim, dMake, dTup, dLst, mArgs, AR.bind, AR.thn, ER.bind, ER.thn, FR.bind, TR.bind, TR.thn, TR.thenE, rdVs, rdV, frzV, frzVs, dTst, dNotT, dAndT, dOrT, dNotV, dAndV, dOrV, dIfE, dSeq, dDrop, dRet, dIf, dSet, putV, putRaw, gNm, gTp, gLs, gEach, dAsg, dPar, dCall, mkSlots, finS, keepIo, runFn, gAdd, DX.gSub, gNeg, gAbs, gLen, gEq_int, gNe_int, gLt_int, gGt_int, gLe_int, gGe_int, gIsi, tyD, isiD, dPin, forget, List.set_cons_zero, List.set_cons_succ, List.getElem?_cons_zero, List.getElem?_cons_succ, List.length_cons, List.length_nil, List.replicate, List.cons_append, List.nil_append, Nat.reduceAdd, Nat.reduceSub, Int.gcd]
theorem law_part_is {a b : Int} (ha : 0 ≤ a) (hb : 0 ≤ b) : ∃ e, F__law_part [.v .fz (.int a), .v .fz (.int b)] = .ok (.fz (.int (Int.gcd a b))) e := common_part_is ha hb
theorem share_pos (rec : DEnv → FnR) {k : Nat} {a b : Int} (hb : 0 < b) (Bb : Bd k b) (hk : k < 9000) : ∃ e, runFn (M_share rec) 3 [.v .fz (.int a), .v .fz (.int b)] = .ok (.fz (.tup [.int (a / (Int.gcd a b : Nat)), .int (b / (Int.gcd a b : Nat))])) e := by
  have h1 : ¬ b = 0 := by omega
  have h2 : ¬ b < 0 := by omega
  have eabs : (if a < 0 then -a else a) = (a.natAbs : Int) := by split <;> omega
  obtain ⟨e, he⟩ := common_part_is (a := (a.natAbs : Int)) (b := b) (by omega) (by omega)
  have eg : Int.gcd (a.natAbs : Int) b = Int.gcd a b := by simp [Int.gcd]
  rw [eg] at he
  have hg : 0 < Int.gcd a b := Int.gcd_pos_of_ne_zero_right a h1
  have hgd : Bd k (Int.gcd a b : Nat) := Bb.le (by
    have : Int.gcd a b ∣ b.natAbs := Int.gcd_dvd_natAbs_right a b
    have := Nat.le_of_dvd (by omega) this
    simpa using this)
  have q1 := gDiv_ok (a := a) hgd (by omega) hk
  have q2 := gDiv_ok (a := b) hgd (by omega) hk
  simp [dVar, dC, dPrim, dMake, dTup, dLst, mArgs, AR.bind, AR.thn, ER.bind, ER.thn, FR.bind, TR.bind, TR.thn, TR.thenE, rdVs, rdV, frzV, frzVs, dTst, dNotT, dAndT, dOrT, dNotV, dAndV, dOrV, dIfE, dSeq, dDrop, dRet, dIf, dSet, putV, putRaw, gNm, gTp, gLs, gEach, dAsg, dPar, dCall, mkSlots, finS, keepIo, runFn, gAdd, DX.gSub, gNeg, gAbs, gLen, gEq_int, gNe_int, gLt_int, gGt_int, gLe_int, gGe_int, gIsi, tyD, isiD, dPin, forget, List.set_cons_zero, List.set_cons_succ, List.getElem?_cons_zero, List.getElem?_cons_succ, List.length_cons, List.length_nil, List.replicate, List.cons_append, List.nil_append, Nat.reduceAdd, Nat.reduceSub, M_share, h1, h2, eabs, he, q1, q2, sizeLine]
/-- a share is told in lowest terms -/
theorem share_is {k m : Nat} {a b : Int} (h0 : b ≠ 0) (Ba : Bd k a) (Bb : Bd m b) (hk : m < 9000) : ∃ p q e, F_share [.v .fz (.int a), .v .fz (.int b)] = .ok (.fz (.tup [.int p, .int q])) e ∧ 0 < q ∧ Int.gcd p q = 1 ∧ p * b = a * q ∧ Bd k p ∧ Bd m q := by
  by_cases hb : 0 < b
  · obtain ⟨e, he⟩ := share_pos F_share0 (a := a) hb Bb hk
    obtain ⟨k1, k2, k3, k4, k5⟩ := share_key hb Ba Bb
    exact ⟨_, _, e, he, k1, k2, k3, k4, k5⟩
  · have hn : 0 < 0 - b := by omega
    have e0 : ∀ x : Int, 0 - x = -x := by omega
    obtain ⟨e, he⟩ := share_pos (fun _ => .err) (a := 0 - a) hn (by rw [e0]; exact Bb.neg) hk
    obtain ⟨k1, k2, k3, k4, k5⟩ := share_key (a := 0 - a) (b := 0 - b) hn (by rw [e0]; exact Ba.neg) (by rw [e0]; exact Bb.neg)
    refine ⟨_, _, [.un, .un], ?_, k1, k2, by grind, k4, k5⟩
    · have h2 : b < 0 := by omega
      have he' : F_share0 [.v .fz (.int (0 - a)), .v .fz (.int (0 - b))] = _ := he
      unfold F_share runFn M_share
      simp only [Int.zero_sub] at he' ⊢
      simp [dVar, dC, dPrim, dMake, dTup, dLst, mArgs, AR.bind, AR.thn, ER.bind, ER.thn, FR.bind, TR.bind, TR.thn, TR.thenE, rdVs, rdV, frzV, frzVs, dTst, dNotT, dAndT, dOrT, dNotV, dAndV, dOrV, dIfE, dSeq, dDrop, dRet, dIf, dSet, putV, putRaw, gNm, gTp, gLs, gEach, dAsg, dPar, dCall, mkSlots, finS, keepIo, runFn, gAdd, DX.gSub, gNeg, gAbs, gLen, gEq_int, gNe_int, gLt_int, gGt_int, gLe_int, gGe_int, gIsi, tyD, isiD, dPin, forget, List.set_cons_zero, List.set_cons_succ, List.getElem?_cons_zero, List.getElem?_cons_succ, List.length_cons, List.length_nil, List.replicate, List.cons_append, List.nil_append, Nat.reduceAdd, Nat.reduceSub, h0, h2, he']
theorem share_zero (a : Int) : F_share [.v .fz (.int a), .v .fz (.int 0)] = .raise "NoShare" [.un, .un] := by
  unfold F_share runFn M_share
  simp [dVar, dC, dPrim, dMake, dTup, dLst, mArgs, AR.bind, AR.thn, ER.bind, ER.thn, FR.bind, TR.bind, TR.thn, TR.thenE, rdVs, rdV, frzV, frzVs, dTst, dNotT, dAndT, dOrT, dNotV, dAndV, dOrV, dIfE, dSeq, dDrop, dRet, dIf, dSet, putV, putRaw, gNm, gTp, gLs, gEach, dAsg, dPar, dCall, mkSlots, finS, keepIo, runFn, gAdd, DX.gSub, gNeg, gAbs, gLen, gEq_int, gNe_int, gLt_int, gGt_int, gLe_int, gGe_int, gIsi, tyD, isiD, dPin, forget, List.set_cons_zero, List.set_cons_succ, List.getElem?_cons_zero, List.getElem?_cons_succ, List.length_cons, List.length_nil, List.replicate, List.cons_append, List.nil_append, Nat.reduceAdd, Nat.reduceSub]
theorem cell_at_is (ns : List Int) (k : Nat) : ∃ c e, F__law_cell_at [.v .fz (.scr ns), .v .fz (.int k)] = .ok (.fz (.int c)) e := by
  unfold F__law_cell_at runFn M__law_cell_at
  by_cases h : k < ns.length
  · have h' : (k : Int) < (ns.length : Int) := by omega
    exact ⟨ns[k], [.un, .un], by simp [dVar, dC, dPrim, dMake, dTup, dLst, mArgs, AR.bind, AR.thn, ER.bind, ER.thn, FR.bind, TR.bind, TR.thn, TR.thenE, rdVs, rdV, frzV, frzVs, dTst, dNotT, dAndT, dOrT, dNotV, dAndV, dOrV, dIfE, dSeq, dDrop, dRet, dIf, dSet, putV, putRaw, gNm, gTp, gLs, gEach, dAsg, dPar, dCall, mkSlots, finS, keepIo, runFn, gAdd, DX.gSub, gNeg, gAbs, gLen, gEq_int, gNe_int, gLt_int, gGt_int, gLe_int, gGe_int, gIsi, tyD, isiD, dPin, forget, List.set_cons_zero, List.set_cons_succ, List.getElem?_cons_zero, List.getElem?_cons_succ, List.length_cons, List.length_nil, List.replicate, List.cons_append, List.nil_append, Nat.reduceAdd, Nat.reduceSub, h', gIx, atI_nn, List.getElem?_eq_getElem h]⟩
  · have h' : ¬ (k : Int) < (ns.length : Int) := by omega
    exact ⟨0, [.un, .un], by simp [dVar, dC, dPrim, dMake, dTup, dLst, mArgs, AR.bind, AR.thn, ER.bind, ER.thn, FR.bind, TR.bind, TR.thn, TR.thenE, rdVs, rdV, frzV, frzVs, dTst, dNotT, dAndT, dOrT, dNotV, dAndV, dOrV, dIfE, dSeq, dDrop, dRet, dIf, dSet, putV, putRaw, gNm, gTp, gLs, gEach, dAsg, dPar, dCall, mkSlots, finS, keepIo, runFn, gAdd, DX.gSub, gNeg, gAbs, gLen, gEq_int, gNe_int, gLt_int, gGt_int, gLe_int, gGe_int, gIsi, tyD, isiD, dPin, forget, List.set_cons_zero, List.set_cons_succ, List.getElem?_cons_zero, List.getElem?_cons_succ, List.length_cons, List.length_nil, List.replicate, List.cons_append, List.nil_append, Nat.reduceAdd, Nat.reduceSub, h']⟩
theorem pow24 : gPow [.int 10, .int 24] = some (.fz (.int 1000000000000000000000000)) := by simp [gPow]
theorem mod24 (a : Int) : Bd 81 (a % 1000000000000000000000000) ∧ 0 ≤ a % 1000000000000000000000000 :=
  ⟨Bd.mono (k := 80) (Bd.emod (by decide) (by unfold Bd; decide)) (by decide), Int.emod_nonneg _ (by decide)⟩
theorem div24 (a : Int) : gDiv [.int a, .int 1000000000000000000000000] = some (.fz (.int (a / 1000000000000000000000000))) := gDiv_ok (k := 80) (by unfold Bd; decide) (by decide) (by decide)
theorem row_b1 (s0 s1 s2 s3 s6 s7 : Slot) (d j : Int) : B__law_row_1 [s0, s1, s2, s3, .v .fz (.int d), .v .fz (.int j), s6, s7] = .next [s0, s1, s2, s3, .v .fz (.int (d / 1000000000000000000000000)), .v .fz (.int j), s6, s7] := by
  simp [B__law_row_1, dVar, dC, dPrim, dMake, dTup, dLst, mArgs, AR.bind, AR.thn, ER.bind, ER.thn, FR.bind, TR.bind, TR.thn, TR.thenE, rdVs, rdV, frzV, frzVs, dTst, dNotT, dAndT, dOrT, dNotV, dAndV, dOrV, dIfE, dSeq, dDrop, dRet, dIf, dSet, putV, putRaw, gNm, gTp, gLs, gEach, dAsg, dPar, dCall, mkSlots, finS, keepIo, runFn, gAdd, DX.gSub, gNeg, gAbs, gLen, gEq_int, gNe_int, gLt_int, gGt_int, gLe_int, gGe_int, gIsi, tyD, isiD, dPin, forget, List.set_cons_zero, List.set_cons_succ, List.getElem?_cons_zero, List.getElem?_cons_succ, List.length_cons, List.length_nil, List.replicate, List.cons_append, List.nil_append, Nat.reduceAdd, Nat.reduceSub, pow24, div24]
theorem row_b2 (s0 s1 : Slot) (xs : List Int) (r d j : Int) (hl : xs.length < sizeLine) (hj : 0 ≤ j) (hj2 : j < 1000) : ∃ (y r' : Int) (s6 s7 : Slot), B__law_row_2 [s0, s1, .v .fz (.int r), .v .ow (.lst (xs.map .int)), .v .fz (.int d), .v .fz (.int j), .un, .un] =
    .next [s0, s1, .v .fz (.int r'), .v .ow (.lst ((xs ++ [y]).map .int)), .v .fz (.int d), .v .fz (.int j), s6, s7] ∧ Bd 81 y ∧ 0 ≤ y := by
  by_cases h0 : 0 < d
  · exact ⟨r % 1000000000000000000000000, r / 1000000000000000000000000, .un, .un, by simp [B__law_row_2, dVar, dC, dPrim, dMake, dTup, dLst, mArgs, AR.bind, AR.thn, ER.bind, ER.thn, FR.bind, TR.bind, TR.thn, TR.thenE, rdVs, rdV, frzV, frzVs, dTst, dNotT, dAndT, dOrT, dNotV, dAndV, dOrV, dIfE, dSeq, dDrop, dRet, dIf, dSet, putV, putRaw, gNm, gTp, gLs, gEach, dAsg, dPar, dCall, mkSlots, finS, keepIo, runFn, gAdd, DX.gSub, gNeg, gAbs, gLen, gEq_int, gNe_int, gLt_int, gGt_int, gLe_int, gGe_int, gIsi, tyD, isiD, dPin, forget, List.set_cons_zero, List.set_cons_succ, List.getElem?_cons_zero, List.getElem?_cons_succ, List.length_cons, List.length_nil, List.replicate, List.cons_append, List.nil_append, Nat.reduceAdd, Nat.reduceSub, h0, dMutL, gAppend, pow24, div24, gMod, hl], mod24 r⟩
  · have hj' : Bd 10 j := by unfold Bd; omega
    have ha : 0 ≤ r % 2147483629 ∧ r % 2147483629 < 2147483629 := ⟨Int.emod_nonneg _ (by decide), Int.emod_lt_of_pos _ (by decide)⟩
    have m1 := gMul_ok (a := 7919) (b := j) (k := 13) (by unfold Bd; decide) hj' (by decide)
    have m2 := gMul_ok hj' hj' (by decide)
    have b3 : Bd 42 (r % 2147483629 + 7919 * j + j * j + 1) := by
      have : Bd 31 (r % 2147483629) := by unfold Bd; omega
      exact Bd.add (k := 41) (m := 1) (Bd.add (k := 40) (m := 20) (Bd.add (k := 31) (m := 23) this (Bd.mul (k := 13) (by unfold Bd; decide) hj' (by decide)) (by decide) (by decide)) (Bd.mul hj' hj' (by decide)) (by decide) (by decide)) (by unfold Bd; decide) (by decide) (by decide)
    have m3 := gMul_ok (b := 48271) b3 (m := 16) (by unfold Bd; decide) (by decide)
    obtain ⟨one, e1, h1, h1'⟩ : ∃ one, gMod [.int ((r % 2147483629 + 7919 * j + j * j + 1) * 48271), .int 2147483647] = some (.fz (.int one)) ∧ 0 ≤ one ∧ one < 2147483647 := ⟨_, gMod_ok (by decide), Int.emod_nonneg _ (by decide), Int.emod_lt_of_pos _ (by decide)⟩
    have b1 : Bd 31 one := by unfold Bd; omega
    have m4 := gMul_ok (a := 31) (b := j) (k := 5) (by unfold Bd; decide) hj' (by decide)
    have b4 : Bd 32 (one + 31 * j) := by unfold Bd; omega
    have m5 := gMul_ok (b := 69621) b4 (m := 17) (by unfold Bd; decide) (by decide)
    obtain ⟨oth, e2, h2, h2'⟩ : ∃ oth, gMod [.int ((one + 31 * j) * 69621), .int 998244353] = some (.fz (.int oth)) ∧ 0 ≤ oth ∧ oth < 998244353 := ⟨_, gMod_ok (by decide), Int.emod_nonneg _ (by decide), Int.emod_lt_of_pos _ (by decide)⟩
    have b2 : Bd 30 oth := by unfold Bd; omega
    have m6 := gMul_ok b1 b2 (by decide)
    have d7 : gDiv [.int one, .int 7] = some (.fz (.int (one / 7))) := gDiv_ok (k := 3) (by unfold Bd; decide) (by decide) (by decide)
    have e0 : gMod [.int r, .int 2147483629] = some (.fz (.int (r % 2147483629))) := gMod_ok (by decide)
    refine ⟨one * oth + one / 7, r, .v .fz (.int one), .v .fz (.int oth), ?_, ?_, ?_⟩
    · simp [B__law_row_2, dVar, dC, dPrim, dMake, dTup, dLst, mArgs, AR.bind, AR.thn, ER.bind, ER.thn, FR.bind, TR.bind, TR.thn, TR.thenE, rdVs, rdV, frzV, frzVs, dTst, dNotT, dAndT, dOrT, dNotV, dAndV, dOrV, dIfE, dSeq, dDrop, dRet, dIf, dSet, putV, putRaw, gNm, gTp, gLs, gEach, dAsg, dPar, dCall, mkSlots, finS, keepIo, runFn, gAdd, DX.gSub, gNeg, gAbs, gLen, gEq_int, gNe_int, gLt_int, gGt_int, gLe_int, gGe_int, gIsi, tyD, isiD, dPin, forget, List.set_cons_zero, List.set_cons_succ, List.getElem?_cons_zero, List.getElem?_cons_succ, List.length_cons, List.length_nil, List.replicate, List.cons_append, List.nil_append, Nat.reduceAdd, Nat.reduceSub, h0, dMutL, gAppend, hl, m1, m2, m3, e0, e1, m4, m5, e2, m6, d7]
    · exact (Bd.add (k := 61) (m := 31) (n := 62) (Bd.mul b1 b2 (by decide)) b1.ediv (by decide) (by decide)).mono (by decide)
    · exact Int.add_nonneg (Int.mul_nonneg h1 h2) (Int.ediv_nonneg h1 (by decide))
/-- a row of a cell: whole numbers, none below nought, of fewer than 82 bits -/
theorem law_row_is (c : Int) (m : Nat) (hm : m ≤ 1000) : ∃ (xs : List Int) (e : DEnv), F__law_row [.v .fz (.int c), .v .fz (.int m)] = .ok (.tmp (.lst (xs.map .int))) e ∧ xs.length = m ∧ ∀ x ∈ xs, Bd 81 x ∧ 0 ≤ x := by
  have gdiv2 : gDiv [.int c, .int 2] = some (.fz (.int (c / 2))) := gDiv_ok (k := 2) (by unfold Bd; decide) (by decide) (by decide)
  obtain ⟨e1, r1, d, s5, rfl⟩ := forRng (t := gNm 5) (dead := [5]) (body := B__law_row_1)
    (fun i e => ∃ d s5, e = [.v .fz (.int c), .v .fz (.int m), .v .fz (.int (c / 2)), .v .ow (.lst []), .v .fz (.int d), s5, .un, .un])
    m [.v .fz (.int c), .v .fz (.int m), .v .fz (.int (c / 2)), .v .ow (.lst []), .v .fz (.int (c / 2)), .un, .un, .un] ⟨_, _, rfl⟩ (by
      rintro i e hx ⟨d, s5, rfl⟩
      exact ⟨[.v .fz (.int c), .v .fz (.int m), .v .fz (.int (c / 2)), .v .ow (.lst []), .v .fz (.int d), .v .fz (.int i), .un, .un], _, rfl, .inl (row_b1 ..), _, _, rfl⟩)
  obtain ⟨e2, r2, xs, r, d', s5', s6, s7, rfl, hl, hx⟩ := forRng (t := gNm 5) (dead := [5, 6, 7]) (body := B__law_row_2)
    (fun i e => ∃ (xs : List Int) (r d : Int) (s5 s6 s7 : DX.Slot), e = [.v .fz (.int c), .v .fz (.int m), .v .fz (.int r), .v .ow (.lst (xs.map .int)), .v .fz (.int d), s5, s6, s7] ∧ xs.length = i ∧ ∀ x ∈ xs, Bd 81 x ∧ 0 ≤ x)
    m [.v .fz (.int c), .v .fz (.int m), .v .fz (.int (c / 2)), .v .ow (.lst []), .v .fz (.int d), .un, .un, .un] ⟨[], _, _, _, _, _, rfl, rfl, by simp⟩ (by
      rintro i e hi ⟨xs, r, d, s5, s6, s7, rfl, hl, hb⟩
      obtain ⟨y, r', s6', s7', e, h1, h2⟩ := row_b2 (.v .fz (.int c)) (.v .fz (.int m)) xs r d i (by unfold sizeLine; omega) (by omega) (by omega)
      exact ⟨[.v .fz (.int c), .v .fz (.int m), .v .fz (.int r), .v .ow (.lst (xs.map .int)), .v .fz (.int d), .v .fz (.int i), .un, .un], _, rfl, .inl e, xs ++ [y], _, _, _, _, _, rfl, by simp [hl], fun x hx => by
          rcases List.mem_append.1 hx with h | h
          · exact hb x h
          · rw [List.mem_singleton.1 h]; exact ⟨h1, h2⟩⟩)
  refine ⟨xs, [.un, .un], ?_, hl, hx⟩
  have hmi : m < 4611686018427387904 := by omega
  simp only [forget, List.set_cons_succ, List.set_cons_zero] at r1 r2
  have h0 : (0 : Nat) ≤ sizeLine := Nat.zero_le _
  simp only [F__law_row, M__law_row, dForR1_eq, dVar, dC, dPrim, dMake, dTup, dLst, mArgs, AR.bind, AR.thn, ER.bind, ER.thn, FR.bind, TR.bind, TR.thn, TR.thenE, rdVs, rdV, frzV, frzVs, dTst, dNotT, dAndT, dOrT, dNotV, dAndV, dOrV, dIfE, dSeq, dDrop, dRet, dIf, dSet, putV, putRaw, gNm, gTp, gLs, gEach, dAsg, dPar, dCall, mkSlots, finS, keepIo, runFn, gAdd, DX.gSub, gNeg, gAbs, gLen, gEq_int, gNe_int, gLt_int, gGt_int, gLe_int, gGe_int, gIsi, tyD, isiD, dPin, forget, List.set_cons_zero, List.set_cons_succ, List.getElem?_cons_zero, List.getElem?_cons_succ, List.length_cons, List.length_nil, List.replicate, List.cons_append, List.nil_append, Nat.reduceAdd, Nat.reduceSub, gdiv2, h0, if_true]
  simp only [forR1_nat hmi, r1, dVar, dC, dPrim, dMake, dTup, dLst, mArgs, AR.bind, AR.thn, ER.bind, ER.thn, FR.bind, TR.bind, TR.thn, TR.thenE, rdVs, rdV, frzV, frzVs, dTst, dNotT, dAndT, dOrT, dNotV, dAndV, dOrV, dIfE, dSeq, dDrop, dRet, dIf, dSet, putV, putRaw, gNm, gTp, gLs, gEach, dAsg, dPar, dCall, mkSlots, finS, keepIo, runFn, gAdd, DX.gSub, gNeg, gAbs, gLen, gEq_int, gNe_int, gLt_int, gGt_int, gLe_int, gGe_int, gIsi, tyD, isiD, dPin, forget, List.set_cons_zero, List.set_cons_succ, List.getElem?_cons_zero, List.getElem?_cons_succ, List.length_cons, List.length_nil, List.replicate, List.cons_append, List.nil_append, Nat.reduceAdd, Nat.reduceSub]
  simp only [forR1_nat hmi, r2, dVar, dC, dPrim, dMake, dTup, dLst, mArgs, AR.bind, AR.thn, ER.bind, ER.thn, FR.bind, TR.bind, TR.thn, TR.thenE, rdVs, rdV, frzV, frzVs, dTst, dNotT, dAndT, dOrT, dNotV, dAndV, dOrV, dIfE, dSeq, dDrop, dRet, dIf, dSet, putV, putRaw, gNm, gTp, gLs, gEach, dAsg, dPar, dCall, mkSlots, finS, keepIo, runFn, gAdd, DX.gSub, gNeg, gAbs, gLen, gEq_int, gNe_int, gLt_int, gGt_int, gLe_int, gGe_int, gIsi, tyD, isiD, dPin, forget, List.set_cons_zero, List.set_cons_succ, List.getElem?_cons_zero, List.getElem?_cons_succ, List.length_cons, List.length_nil, List.replicate, List.cons_append, List.nil_append, Nat.reduceAdd, Nat.reduceSub]
theorem law_number_is {x y : Int} (hx : Bd 81 x) (hy : Bd 81 y) : ∃ v e, F__law_number [.v .fz (.int x), .v .fz (.int y)] = .ok (.fz (.int v)) e ∧ Bd 170 v := by
  have e1 : gMod [.int y, .int 3] = some (.fz (.int (y % 3))) := gMod_ok (by decide)
  by_cases h : y % 3 = 0
  · have e2 : gMod [.int x, .int 13] = some (.fz (.int (x % 13))) := gMod_ok (by decide)
    exact ⟨x % 13 - 6, [.un, .un], by simp [F__law_number, M__law_number, dVar, dC, dPrim, dMake, dTup, dLst, mArgs, AR.bind, AR.thn, ER.bind, ER.thn, FR.bind, TR.bind, TR.thn, TR.thenE, rdVs, rdV, frzV, frzVs, dTst, dNotT, dAndT, dOrT, dNotV, dAndV, dOrV, dIfE, dSeq, dDrop, dRet, dIf, dSet, putV, putRaw, gNm, gTp, gLs, gEach, dAsg, dPar, dCall, mkSlots, finS, keepIo, runFn, gAdd, DX.gSub, gNeg, gAbs, gLen, gEq_int, gNe_int, gLt_int, gGt_int, gLe_int, gGe_int, gIsi, tyD, isiD, dPin, forget, List.set_cons_zero, List.set_cons_succ, List.getElem?_cons_zero, List.getElem?_cons_succ, List.length_cons, List.length_nil, List.replicate, List.cons_append, List.nil_append, Nat.reduceAdd, Nat.reduceSub, e1, e2, h], (Bd.sub (k := 4) (m := 4) (n := 5) (Bd.emod (by decide) Bd.lit) Bd.lit (by decide) (by decide)).mono (by decide)⟩
  · have e2 : gDiv [.int y, .int 6] = some (.fz (.int (y / 6))) := gDiv_ok (k := 4) Bd.lit (by decide) (by decide)
    have e3 : gDiv [.int y, .int 3] = some (.fz (.int (y / 3))) := gDiv_ok (k := 4) Bd.lit (by decide) (by decide)
    have e4 : gMod [.int (y / 3), .int 2] = some (.fz (.int (y / 3 % 2))) := gMod_ok (by decide)
    have m5 := gMul_ok (a := 1000000000000000000000000) (k := 80) Bd.lit (hy.ediv (b := 6)) (by decide)
    have b6 : Bd 2 (y / 3 % 2) := Bd.emod (by decide) Bd.lit
    have m6 := gMul_ok (a := 2) (k := 2) Bd.lit b6 (by decide)
    have b7 : Bd 5 (1 - 2 * (y / 3 % 2)) := Bd.sub (k := 1) (m := 4) Bd.lit (Bd.mul (k := 2) Bd.lit b6 (by decide)) (by decide) (by decide)
    have b8 : Bd 162 (x + 1000000000000000000000000 * (y / 6)) := Bd.add (m := 161) hx (Bd.mul (k := 80) Bd.lit hy.ediv (by decide)) (by decide) (by decide)
    have m8 := gMul_ok b8 b7 (by decide)
    exact ⟨_, [.un, .un], by simp [F__law_number, M__law_number, dVar, dC, dPrim, dMake, dTup, dLst, mArgs, AR.bind, AR.thn, ER.bind, ER.thn, FR.bind, TR.bind, TR.thn, TR.thenE, rdVs, rdV, frzV, frzVs, dTst, dNotT, dAndT, dOrT, dNotV, dAndV, dOrV, dIfE, dSeq, dDrop, dRet, dIf, dSet, putV, putRaw, gNm, gTp, gLs, gEach, dAsg, dPar, dCall, mkSlots, finS, keepIo, runFn, gAdd, DX.gSub, gNeg, gAbs, gLen, gEq_int, gNe_int, gLt_int, gGt_int, gLe_int, gGe_int, gIsi, tyD, isiD, dPin, forget, List.set_cons_zero, List.set_cons_succ, List.getElem?_cons_zero, List.getElem?_cons_succ, List.length_cons, List.length_nil, List.replicate, List.cons_append, List.nil_append, Nat.reduceAdd, Nat.reduceSub, e1, h, pow24, e2, e3, e4, m5, m6, m8], (Bd.mul (n := 167) b8 b7 (by decide)).mono (by decide)⟩
theorem law_same_is {p q t b : Int} {k : Nat} (h0 : 0 < q) (hg : Int.gcd p q = 1) (he : p * b = t * q) (Bp : Bd k p) (Bq : Bd k q) (Bt : Bd k t) (Bb : Bd k b) (hk : k < 60000000) :
    ∃ e, F__law_same [.v .fz (.tup [.int p, .int q]), .v .fz (.int t), .v .fz (.int b)] = .ok (.fz (.bl true)) e := by
  obtain ⟨e, r⟩ := law_part_is (a := (p.natAbs : Int)) (b := q) (by omega) (by omega)
  have eg : Int.gcd (p.natAbs : Int) q = 1 := by rw [← hg]; simp [Int.gcd]
  rw [eg] at r
  have m1 := gMul_ok Bp Bb (by omega)
  have m2 := gMul_ok Bt Bq (by omega)
  have h1 : ¬ q < 1 := by omega
  exact ⟨[.un, .un, .un], by simp [F__law_same, M__law_same, B__law_same_1, dFor, itT, forL, dVar, dC, dPrim, dMake, dTup, dLst, mArgs, AR.bind, AR.thn, ER.bind, ER.thn, FR.bind, TR.bind, TR.thn, TR.thenE, rdVs, rdV, frzV, frzVs, dTst, dNotT, dAndT, dOrT, dNotV, dAndV, dOrV, dIfE, dSeq, dDrop, dRet, dIf, dSet, putV, putRaw, gNm, gTp, gLs, gEach, dAsg, dPar, dCall, mkSlots, finS, keepIo, runFn, gAdd, DX.gSub, gNeg, gAbs, gLen, gEq_int, gNe_int, gLt_int, gGt_int, gLe_int, gGe_int, gIsi, tyD, isiD, dPin, forget, List.set_cons_zero, List.set_cons_succ, List.getElem?_cons_zero, List.getElem?_cons_succ, List.length_cons, List.length_nil, List.replicate, List.cons_append, List.nil_append, Nat.reduceAdd, Nat.reduceSub, gIx, atI_0, atI_1, int_abs, r, m1, m2, h1, he]⟩
/-- a share reckoned by the law, in lowest terms -/
theorem law_share_is {k m : Nat} {a b : Int} (h0 : 0 < b) (Ba : Bd k a) (Bb : Bd m b) (hk : m < 9000) : ∃ p q e, F__law_share [.v .fz (.int a), .v .fz (.int b)] = .ok (.fz (.tup [.int p, .int q])) e ∧ 0 < q ∧ Int.gcd p q = 1 ∧ p * b = a * q ∧ Bd k p ∧ Bd m q := by
  obtain ⟨e, he⟩ := law_part_is (a := (a.natAbs : Int)) (b := b) (by omega) (by omega)
  have eg : Int.gcd (a.natAbs : Int) b = Int.gcd a b := by simp [Int.gcd]
  rw [eg] at he
  have hg : 0 < Int.gcd a b := Int.gcd_pos_of_ne_zero_right a (by omega)
  have hgd : Bd m (Int.gcd a b : Nat) := Bb.le (by
    have : Int.gcd a b ∣ b.natAbs := Int.gcd_dvd_natAbs_right a b
    have := Nat.le_of_dvd (by omega) this
    simpa using this)
  have q1 := gDiv_ok (a := a) hgd (by omega) hk
  have q2 := gDiv_ok (a := b) hgd (by omega) hk
  obtain ⟨k1, k2, k3, k4, k5⟩ := share_key h0 Ba Bb
  exact ⟨_, _, [.un, .un], by simp [F__law_share, M__law_share, dVar, dC, dPrim, dMake, dTup, dLst, mArgs, AR.bind, AR.thn, ER.bind, ER.thn, FR.bind, TR.bind, TR.thn, TR.thenE, rdVs, rdV, frzV, frzVs, dTst, dNotT, dAndT, dOrT, dNotV, dAndV, dOrV, dIfE, dSeq, dDrop, dRet, dIf, dSet, putV, putRaw, gNm, gTp, gLs, gEach, dAsg, dPar, dCall, mkSlots, finS, keepIo, runFn, gAdd, DX.gSub, gNeg, gAbs, gLen, gEq_int, gNe_int, gLt_int, gGt_int, gLe_int, gGe_int, gIsi, tyD, isiD, dPin, forget, List.set_cons_zero, List.set_cons_succ, List.getElem?_cons_zero, List.getElem?_cons_succ, List.length_cons, List.length_nil, List.replicate, List.cons_append, List.nil_append, Nat.reduceAdd, Nat.reduceSub, int_abs, he, q1, q2, sizeLine], k1, k2, k3, k4, k5⟩
/-- a share in lowest terms, its value -/
def Sh (k m : Nat) (d : D) (r : Rat) : Prop := ∃ p q : Int, d = .tup [.int p, .int q] ∧ 0 < q ∧ Int.gcd p q = 1 ∧ Bd k p ∧ Bd m q ∧ (p : Rat) = r * (q : Rat)
theorem Sh.mono {k m k' m' : Nat} {d : D} {r : Rat} (h : Sh k m d r) (l : k ≤ k') (l' : m ≤ m') : Sh k' m' d r := by
  obtain ⟨p, q, e, h0, hg, bp, bq, v⟩ := h
  exact ⟨p, q, e, h0, hg, bp.mono l, bq.mono l', v⟩
theorem ne0 {q : Int} (h : q ≠ 0) : (q : Rat) ≠ 0 := by
  intro e
  exact h (by exact_mod_cast e)
theorem Sh.uniq {k m k' m' : Nat} {d d' : D} {r : Rat} (h : Sh k m d r) (h' : Sh k' m' d' r) : d = d' := by
  obtain ⟨p, q, rfl, h0, hg, bp, bq, v⟩ := h
  obtain ⟨p', q', rfl, h0', hg', bp', bq', v'⟩ := h'
  have : p * q' = p' * q := by
    have : ((p * q' : Int) : Rat) = ((p' * q : Int) : Rat) := by push_cast; grind
    exact_mod_cast this
  obtain ⟨rfl, rfl⟩ := lowest_eq h0' h0 hg' hg this
  rfl
theorem sh_of {k m : Nat} {a b p q : Int} {r : Rat} (hb : b ≠ 0) (hr : (a : Rat) = r * (b : Rat)) (h0 : 0 < q) (hg : Int.gcd p q = 1) (e : p * b = a * q) (bp : Bd k p) (bq : Bd m q) : Sh k m (.tup [.int p, .int q]) r := by
  refine ⟨p, q, rfl, h0, hg, bp, bq, ?_⟩
  have e' : (p : Rat) * (b : Rat) = (a : Rat) * (q : Rat) := by exact_mod_cast e
  have := ne0 hb
  grind
theorem share_sh {k m : Nat} {a b : Int} {r : Rat} (hb : b ≠ 0) (hr : (a : Rat) = r * (b : Rat)) (Ba : Bd k a) (Bb : Bd m b) (hk : m < 9000) : ∃ d e, F_share [.v .fz (.int a), .v .fz (.int b)] = .ok (.fz d) e ∧ Sh k m d r := by
  obtain ⟨p, q, e, h, h0, hg, he, bp, bq⟩ := share_is hb Ba Bb hk
  exact ⟨_, e, h, sh_of hb hr h0 hg he bp bq⟩
theorem law_share_sh {k m : Nat} {a b : Int} {r : Rat} (hb : 0 < b) (hr : (a : Rat) = r * (b : Rat)) (Ba : Bd k a) (Bb : Bd m b) (hk : m < 9000) : ∃ d e, F__law_share [.v .fz (.int a), .v .fz (.int b)] = .ok (.fz d) e ∧ Sh k m d r := by
  obtain ⟨p, q, e, h, h0, hg, he, bp, bq⟩ := law_share_is hb Ba Bb hk
  exact ⟨_, e, h, sh_of (by omega) hr h0 hg he bp bq⟩
theorem same_sh {k : Nat} {d : D} {r : Rat} {t b : Int} (h : Sh k k d r) (hr : (t : Rat) = r * (b : Rat)) (Bt : Bd k t) (Bb : Bd k b) (hk : k < 60000000) : ∃ e, F__law_same [.v .fz d, .v .fz (.int t), .v .fz (.int b)] = .ok (.fz (.bl true)) e := by
  obtain ⟨p, q, rfl, h0, hg, bp, bq, v⟩ := h
  refine law_same_is h0 hg ?_ bp bq Bt Bb hk
  have : ((p * b : Int) : Rat) = ((t * q : Int) : Rat) := by push_cast; grind
  exact_mod_cast this
theorem minus_sh {k m k' m' n l : Nat} {a b : D} {r s : Rat} (ha : Sh k m a r) (hb : Sh k' m' b s) (hn : k + m' + 1 ≤ n) (hn' : k' + m + 1 ≤ n) (hl : m + m' ≤ l) (hk : l < 9000) (hM : n < 9000) : ∃ d e, F_minus [.v .fz a, .v .fz b] = .ok (.fz d) e ∧ Sh n l d (r - s) := by
  obtain ⟨p, q, rfl, h0, hg, bp, bq, v⟩ := ha
  obtain ⟨p', q', rfl, h0', hg', bp', bq', v'⟩ := hb
  have B1 : Bd (k + m') (p * q') := Bd.mul bp bq' (Nat.le_refl _)
  have B2 : Bd (k' + m) (p' * q) := Bd.mul bp' bq (Nat.le_refl _)
  have B3 : Bd (m + m') (q * q') := Bd.mul bq bq' (Nat.le_refl _)
  have n1 := gMul_ok bp bq' (by omega)
  have n2 := gMul_ok bp' bq (by omega)
  have n3 := gMul_ok bq bq' (by omega)
  obtain ⟨d, e, h, hs⟩ := share_sh (k := n) (m := l) (a := p * q' - p' * q) (b := q * q') (r := r - s) (Int.mul_ne_zero (by omega) (by omega)) (by push_cast; grind) (B1.sub B2 (by omega) (by omega)) (B3.mono (by omega)) hk
  exact ⟨d, [.un, .un], by simp only [F_minus, M_minus, dVar, dC, dPrim, dMake, dTup, dLst, mArgs, AR.bind, AR.thn, ER.bind, ER.thn, FR.bind, TR.bind, TR.thn, TR.thenE, rdVs, rdV, frzV, frzVs, dTst, dNotT, dAndT, dOrT, dNotV, dAndV, dOrV, dIfE, dSeq, dDrop, dRet, dIf, dSet, putV, putRaw, gNm, gTp, gLs, gEach, dAsg, dPar, dCall, mkSlots, finS, keepIo, runFn, gAdd, DX.gSub, gNeg, gAbs, gLen, gEq_int, gNe_int, gLt_int, gGt_int, gLe_int, gGe_int, gIsi, tyD, isiD, dPin, forget, List.set_cons_zero, List.set_cons_succ, List.getElem?_cons_zero, List.getElem?_cons_succ, List.length_cons, List.length_nil, List.replicate, List.cons_append, List.nil_append, Nat.reduceAdd, Nat.reduceSub, gIx, atI_0, atI_1, Option.map_some, n1, n2, n3, h], hs⟩
theorem plus_sh {k m k' m' n l : Nat} {a b : D} {r s : Rat} (ha : Sh k m a r) (hb : Sh k' m' b s) (hn : k + m' + 1 ≤ n) (hn' : k' + m + 1 ≤ n) (hl : m + m' ≤ l) (hk : l < 9000) (hM : n < 9000) : ∃ d e, F_plus [.v .fz a, .v .fz b] = .ok (.fz d) e ∧ Sh n l d (r + s) := by
  obtain ⟨p, q, rfl, h0, hg, bp, bq, v⟩ := ha
  obtain ⟨p', q', rfl, h0', hg', bp', bq', v'⟩ := hb
  have B1 : Bd (k + m') (p * q') := Bd.mul bp bq' (Nat.le_refl _)
  have B2 : Bd (k' + m) (p' * q) := Bd.mul bp' bq (Nat.le_refl _)
  have B3 : Bd (m + m') (q * q') := Bd.mul bq bq' (Nat.le_refl _)
  have n1 := gMul_ok bp bq' (by omega)
  have n2 := gMul_ok bp' bq (by omega)
  have n3 := gMul_ok bq bq' (by omega)
  obtain ⟨d, e, h, hs⟩ := share_sh (k := n) (m := l) (a := p * q' + p' * q) (b := q * q') (r := r + s) (Int.mul_ne_zero (by omega) (by omega)) (by push_cast; grind) (B1.add B2 (by omega) (by omega)) (B3.mono (by omega)) hk
  exact ⟨d, [.un, .un], by simp only [F_plus, M_plus, dVar, dC, dPrim, dMake, dTup, dLst, mArgs, AR.bind, AR.thn, ER.bind, ER.thn, FR.bind, TR.bind, TR.thn, TR.thenE, rdVs, rdV, frzV, frzVs, dTst, dNotT, dAndT, dOrT, dNotV, dAndV, dOrV, dIfE, dSeq, dDrop, dRet, dIf, dSet, putV, putRaw, gNm, gTp, gLs, gEach, dAsg, dPar, dCall, mkSlots, finS, keepIo, runFn, gAdd, DX.gSub, gNeg, gAbs, gLen, gEq_int, gNe_int, gLt_int, gGt_int, gLe_int, gGe_int, gIsi, tyD, isiD, dPin, forget, List.set_cons_zero, List.set_cons_succ, List.getElem?_cons_zero, List.getElem?_cons_succ, List.length_cons, List.length_nil, List.replicate, List.cons_append, List.nil_append, Nat.reduceAdd, Nat.reduceSub, gIx, atI_0, atI_1, Option.map_some, n1, n2, n3, h], hs⟩
theorem times_sh {k m k' m' n l : Nat} {a b : D} {r s : Rat} (ha : Sh k m a r) (hb : Sh k' m' b s) (hn : k + k' ≤ n) (hl : m + m' ≤ l) (hk : l < 9000) (hM : n < 9000) : ∃ d e, F_times [.v .fz a, .v .fz b] = .ok (.fz d) e ∧ Sh n l d (r * s) := by
  obtain ⟨p, q, rfl, h0, hg, bp, bq, v⟩ := ha
  obtain ⟨p', q', rfl, h0', hg', bp', bq', v'⟩ := hb
  have B1 : Bd (k + k') (p * p') := Bd.mul bp bp' (Nat.le_refl _)
  have B3 : Bd (m + m') (q * q') := Bd.mul bq bq' (Nat.le_refl _)
  have n1 := gMul_ok bp bp' (by omega)
  have n3 := gMul_ok bq bq' (by omega)
  obtain ⟨d, e, h, hs⟩ := share_sh (k := n) (m := l) (a := p * p') (b := q * q') (r := r * s) (Int.mul_ne_zero (by omega) (by omega)) (by push_cast; grind) (B1.mono (by omega)) (B3.mono (by omega)) hk
  exact ⟨d, [.un, .un], by simp only [F_times, M_times, dVar, dC, dPrim, dMake, dTup, dLst, mArgs, AR.bind, AR.thn, ER.bind, ER.thn, FR.bind, TR.bind, TR.thn, TR.thenE, rdVs, rdV, frzV, frzVs, dTst, dNotT, dAndT, dOrT, dNotV, dAndV, dOrV, dIfE, dSeq, dDrop, dRet, dIf, dSet, putV, putRaw, gNm, gTp, gLs, gEach, dAsg, dPar, dCall, mkSlots, finS, keepIo, runFn, gAdd, DX.gSub, gNeg, gAbs, gLen, gEq_int, gNe_int, gLt_int, gGt_int, gLe_int, gGe_int, gIsi, tyD, isiD, dPin, forget, List.set_cons_zero, List.set_cons_succ, List.getElem?_cons_zero, List.getElem?_cons_succ, List.length_cons, List.length_nil, List.replicate, List.cons_append, List.nil_append, Nat.reduceAdd, Nat.reduceSub, gIx, atI_0, atI_1, Option.map_some, n1, n3, h], hs⟩
theorem over_sh {k m k' m' n : Nat} {a b : D} {r s : Rat} (ha : Sh k m a r) (hb : Sh k' m' b s) (hs0 : s ≠ 0) (hn : k + m' ≤ n) (hl : m + k' ≤ n) (hk : n < 9000) : ∃ d e, F_over [.v .fz a, .v .fz b] = .ok (.fz d) e ∧ Sh n n d (r / s) := by
  obtain ⟨p, q, rfl, h0, hg, bp, bq, v⟩ := ha
  obtain ⟨p', q', rfl, h0', hg', bp', bq', v'⟩ := hb
  have B1 : Bd (k + m') (p * q') := Bd.mul bp bq' (Nat.le_refl _)
  have B3 : Bd (m + k') (q * p') := Bd.mul bq bp' (Nat.le_refl _)
  have n1 := gMul_ok bp bq' (by omega)
  have n3 := gMul_ok bq bp' (by omega)
  have hp0 : p' ≠ 0 := by
    intro e
    subst e
    have := ne0 (q := q') (by omega)
    have v0 : (0 : Rat) = s * (q' : Rat) := by exact_mod_cast v'
    grind
  obtain ⟨d, e, h, hs⟩ := share_sh (k := n) (m := n) (a := p * q') (b := q * p') (r := r / s) (Int.mul_ne_zero (by omega) hp0) (by push_cast; grind) (B1.mono (by omega)) (B3.mono (by omega)) hk
  exact ⟨d, [.un, .un], by simp only [F_over, M_over, dVar, dC, dPrim, dMake, dTup, dLst, mArgs, AR.bind, AR.thn, ER.bind, ER.thn, FR.bind, TR.bind, TR.thn, TR.thenE, rdVs, rdV, frzV, frzVs, dTst, dNotT, dAndT, dOrT, dNotV, dAndV, dOrV, dIfE, dSeq, dDrop, dRet, dIf, dSet, putV, putRaw, gNm, gTp, gLs, gEach, dAsg, dPar, dCall, mkSlots, finS, keepIo, runFn, gAdd, DX.gSub, gNeg, gAbs, gLen, gEq_int, gNe_int, gLt_int, gGt_int, gLe_int, gGe_int, gIsi, tyD, isiD, dPin, forget, List.set_cons_zero, List.set_cons_succ, List.getElem?_cons_zero, List.getElem?_cons_succ, List.length_cons, List.length_nil, List.replicate, List.cons_append, List.nil_append, Nat.reduceAdd, Nat.reduceSub, gIx, atI_0, atI_1, Option.map_some, n1, n3, h], hs⟩
/-- a point -/
def Pt (k m : Nat) (d : D) (x y : Rat) : Prop := ∃ a b, d = .tup [a, b] ∧ Sh k m a x ∧ Sh k m b y
theorem Pt.mono {k m k' m' : Nat} {d : D} {x y : Rat} (h : Pt k m d x y) (l : k ≤ k') (l' : m ≤ m') : Pt k' m' d x y := by
  obtain ⟨a, b, e, h1, h2⟩ := h
  exact ⟨a, b, e, h1.mono l l', h2.mono l l'⟩
theorem Pt.uniq {k m k' m' : Nat} {d d' : D} {x y : Rat} (h : Pt k m d x y) (h' : Pt k' m' d' x y) : d = d' := by
  obtain ⟨a, b, rfl, h1, h2⟩ := h
  obtain ⟨a', b', rfl, h1', h2'⟩ := h'
  rw [h1.uniq h1', h2.uniq h2']
theorem sz2 : 2 ≤ sizeLine := by simp [sizeLine]
theorem gap_pt {k m n l : Nat} {a b : D} {x y x' y' : Rat} (ha : Pt k m a x y) (hb : Pt k m b x' y') (hn : k + m + 1 ≤ n) (hl : m + m ≤ l) (hk : l < 9000) (hM : n < 9000) : ∃ d e, F_gap_of [.v .fz a, .v .fz b] = .ok (.fz d) e ∧ Pt n l d (x' - x) (y' - y) := by
  obtain ⟨a0, a1, rfl, h0, h1⟩ := ha
  obtain ⟨b0, b1, rfl, g0, g1⟩ := hb
  obtain ⟨d, _, e1, s1⟩ := minus_sh g0 h0 (n := n) (l := l) (by omega) (by omega) hl hk hM
  obtain ⟨d', _, e2, s2⟩ := minus_sh g1 h1 (n := n) (l := l) (by omega) (by omega) hl hk hM
  exact ⟨_, [.un, .un], by simp only [F_gap_of, M_gap_of, dVar, dC, dPrim, dMake, dTup, dLst, mArgs, AR.bind, AR.thn, ER.bind, ER.thn, FR.bind, TR.bind, TR.thn, TR.thenE, rdVs, rdV, frzV, frzVs, dTst, dNotT, dAndT, dOrT, dNotV, dAndV, dOrV, dIfE, dSeq, dDrop, dRet, dIf, dSet, putV, putRaw, gNm, gTp, gLs, gEach, dAsg, dPar, dCall, mkSlots, finS, keepIo, runFn, gAdd, DX.gSub, gNeg, gAbs, gLen, gEq_int, gNe_int, gLt_int, gGt_int, gLe_int, gGe_int, gIsi, tyD, isiD, dPin, forget, List.set_cons_zero, List.set_cons_succ, List.getElem?_cons_zero, List.getElem?_cons_succ, List.length_cons, List.length_nil, List.replicate, List.cons_append, List.nil_append, Nat.reduceAdd, Nat.reduceSub, gIx, atI_0, atI_1, Option.map_some, e1, e2, sz2, if_true], d, d', rfl, s1, s2⟩
theorem cross_sh {k m n l : Nat} {a b : D} {x y x' y' : Rat} (ha : Pt k m a x y) (hb : Pt k m b x' y') (hn : 2 * (k + m) + 1 ≤ n) (hl : 4 * m ≤ l) (hk : l < 9000) (hM : n < 9000) : ∃ d e, F_cross [.v .fz a, .v .fz b] = .ok (.fz d) e ∧ Sh n l d (x * y' - y * x') := by
  obtain ⟨a0, a1, rfl, h0, h1⟩ := ha
  obtain ⟨b0, b1, rfl, g0, g1⟩ := hb
  obtain ⟨d, _, e1, s1⟩ := times_sh h0 g1 (n := k + k) (l := m + m) (Nat.le_refl _) (Nat.le_refl _) (by omega) (by omega)
  obtain ⟨d', _, e2, s2⟩ := times_sh h1 g0 (n := k + k) (l := m + m) (Nat.le_refl _) (Nat.le_refl _) (by omega) (by omega)
  obtain ⟨d'', _, e3, s3⟩ := minus_sh s1 s2 (n := n) (l := l) (by omega) (by omega) (by omega) hk hM
  exact ⟨_, [.un, .un], by simp only [F_cross, M_cross, dVar, dC, dPrim, dMake, dTup, dLst, mArgs, AR.bind, AR.thn, ER.bind, ER.thn, FR.bind, TR.bind, TR.thn, TR.thenE, rdVs, rdV, frzV, frzVs, dTst, dNotT, dAndT, dOrT, dNotV, dAndV, dOrV, dIfE, dSeq, dDrop, dRet, dIf, dSet, putV, putRaw, gNm, gTp, gLs, gEach, dAsg, dPar, dCall, mkSlots, finS, keepIo, runFn, gAdd, DX.gSub, gNeg, gAbs, gLen, gEq_int, gNe_int, gLt_int, gGt_int, gLe_int, gGe_int, gIsi, tyD, isiD, dPin, forget, List.set_cons_zero, List.set_cons_succ, List.getElem?_cons_zero, List.getElem?_cons_succ, List.length_cons, List.length_nil, List.replicate, List.cons_append, List.nil_append, Nat.reduceAdd, Nat.reduceSub, gIx, atI_0, atI_1, Option.map_some, e1, e2, e3], s3⟩
theorem scaled_in (s0 s2 s4 s5 : Slot) {kn k m : Nat} {low : Int} {d : D} {r : Rat} (hl : 0 < low) (Bl : Bd m low) (hd : Sh kn k d r) (hk : k < 9000) (hm : m + k < 100000000) : ∃ low', B__law_scaled_1 [s0, .v .fz (.int low), s2, .v .fz d, s4, s5] = .next [s0, .v .fz (.int low'), s2, .v .fz d, s4, s5] ∧
    0 < low' ∧ Bd (m + k) low' ∧ low ∣ low' ∧ ∀ p q : Int, d = .tup [.int p, .int q] → q ∣ low' := by
  obtain ⟨p, q, rfl, h0, hg, bp, bq, v⟩ := hd
  obtain ⟨e, r1⟩ := law_part_is (a := low) (b := q) (by omega) (by omega)
  obtain ⟨h1, h2, h3⟩ := lcm_step hl h0
  have hgp : 0 < Int.gcd low q := Int.gcd_pos_of_ne_zero_right low (by omega)
  have hgd : Bd k (Int.gcd low q : Nat) := bq.le (by
    have : Int.gcd low q ∣ q.natAbs := Int.gcd_dvd_natAbs_right low q
    have := Nat.le_of_dvd (by omega) this
    simpa using this)
  have q1 := gDiv_ok (a := q) hgd (by omega) hk
  have q2 := gMul_ok Bl (bq.ediv (b := (Int.gcd low q : Nat))) (by omega)
  refine ⟨low * (q / (Int.gcd low q : Nat)), by simp only [B__law_scaled_1, dVar, dC, dPrim, dMake, dTup, dLst, mArgs, AR.bind, AR.thn, ER.bind, ER.thn, FR.bind, TR.bind, TR.thn, TR.thenE, rdVs, rdV, frzV, frzVs, dTst, dNotT, dAndT, dOrT, dNotV, dAndV, dOrV, dIfE, dSeq, dDrop, dRet, dIf, dSet, putV, putRaw, gNm, gTp, gLs, gEach, dAsg, dPar, dCall, mkSlots, finS, keepIo, runFn, gAdd, DX.gSub, gNeg, gAbs, gLen, gEq_int, gNe_int, gLt_int, gGt_int, gLe_int, gGe_int, gIsi, tyD, isiD, dPin, forget, List.set_cons_zero, List.set_cons_succ, List.getElem?_cons_zero, List.getElem?_cons_succ, List.length_cons, List.length_nil, List.replicate, List.cons_append, List.nil_append, Nat.reduceAdd, Nat.reduceSub, gIx, atI_1, Option.map_some, r1, q1, q2], h1, Bd.mul Bl bq.ediv (Nat.le_refl _), ⟨_, rfl⟩, fun p' q' e' => by cases e'; exact h2⟩
theorem scaled_out (s0 s3 s4 s5 : Slot) {kn k m : Nat} {low : Int} {d : D} {x y : Rat} (hl : 0 < low) (Bl : Bd m low) (hd : Pt kn k d x y) (hk : k < 9000) (hm : m + k + k < 100000000) : ∃ low' t3, B__law_scaled_2 [s0, .v .fz (.int low), .v .fz d, s3, s4, s5] = .next [s0, .v .fz (.int low'), .v .fz d, t3, s4, s5] ∧
    0 < low' ∧ Bd (m + k + k) low' ∧ low ∣ low' ∧ ∀ p q p' q' : Int, d = .tup [.tup [.int p, .int q], .tup [.int p', .int q']] → q ∣ low' ∧ q' ∣ low' := by
  obtain ⟨a, b, rfl, ha, hb⟩ := hd
  obtain ⟨l1, r1, h1, b1, d1, q1⟩ := scaled_in s0 (.v .fz (.tup [a, b])) s4 s5 hl Bl ha hk (by omega)
  obtain ⟨l2, r2, h2, b2, d2, q2⟩ := scaled_in s0 (.v .fz (.tup [a, b])) s4 s5 h1 b1 hb hk (by omega)
  refine ⟨l2, .un, ?_, h2, b2, Int.dvd_trans d1 d2, fun p q p' q' e => ?_⟩
  · simp only [B__law_scaled_2, dFor, itT, forL, dVar, dC, dPrim, dMake, dTup, dLst, mArgs, AR.bind, AR.thn, ER.bind, ER.thn, FR.bind, TR.bind, TR.thn, TR.thenE, rdVs, rdV, frzV, frzVs, dTst, dNotT, dAndT, dOrT, dNotV, dAndV, dOrV, dIfE, dSeq, dDrop, dRet, dIf, dSet, putV, putRaw, gNm, gTp, gLs, gEach, dAsg, dPar, dCall, mkSlots, finS, keepIo, runFn, gAdd, DX.gSub, gNeg, gAbs, gLen, gEq_int, gNe_int, gLt_int, gGt_int, gLe_int, gGe_int, gIsi, tyD, isiD, dPin, forget, List.set_cons_zero, List.set_cons_succ, List.getElem?_cons_zero, List.getElem?_cons_succ, List.length_cons, List.length_nil, List.replicate, List.cons_append, List.nil_append, Nat.reduceAdd, Nat.reduceSub, r1, r2]
  · cases e
    exact ⟨Int.dvd_trans (q1 _ _ rfl) d2, q2 _ _ rfl⟩
/-- points by whole numbers over one -/
theorem scaled_is {md : Mode} (hm : md = .fz ∨ md = .rd) {kn k n : Nat} (hk : k < 9000) (hkn : kn < 9000) (hn : n ≤ 10) {ds : List D} {vs : List (Rat × Rat)} (hl : ds.length = n) (hl' : vs.length = n) (hp : ∀ (i : Nat) (d : D) (v : Rat × Rat), ds[i]? = some d → vs[i]? = some v → Pt kn k d v.1 v.2) :
    ∃ (L : Int) (ys : List D) (e : DEnv), F__law_scaled [.v md (.lst ds)] = .ok (.fz (.tup [.int L, .lst ys])) e ∧ 0 < L ∧ Bd (2 * k * n + 1) L ∧ ys.length = n ∧
      ∀ (i : Nat) (y : D) (v : Rat × Rat), ys[i]? = some y → vs[i]? = some v → ∃ X Y : Int, y = .tup [.int X, .int Y] ∧ (X : Rat) = v.1 * (L : Rat) ∧ (Y : Rat) = v.2 * (L : Rat) ∧ Bd (kn + (2 * k * n + 1)) X ∧ Bd (kn + (2 * k * n + 1)) Y := by
  obtain ⟨e1, r1, low, s2, s3, rfl, h0, hb, hd⟩ := forL_inv (t := gNm 2) (dead := [2, 3]) (body := B__law_scaled_2)
    (fun i e => ∃ (low : Int) (s2 s3 : DX.Slot), e = [.v md (.lst ds), .v .fz (.int low), s2, s3, .un, .un] ∧ 0 < low ∧ Bd (2 * k * i + 1) low ∧ ∀ (j : Nat) (p q p' q' : Int), j < i → ds[j]? = some (.tup [.tup [.int p, .int q], .tup [.int p', .int q']]) → q ∣ low ∧ q' ∣ low)
    ds 0 [.v md (.lst ds), .v .fz (.int 1), .un, .un, .un, .un] ⟨1, _, _, rfl, by decide, Bd.mono (k := 1) Bd.lit (by omega), fun j _ _ _ _ h => by omega⟩ (by
      rintro i d e hi ⟨low, s2, s3, rfl, h0, hb, hd⟩
      rw [Nat.zero_add] at hb hd
      have hin : i < n := by rw [← hl]; exact (List.getElem?_eq_some_iff.1 hi).1
      have hki : 2 * k * i ≤ 2 * 9000 * 10 := Nat.mul_le_mul (by omega) (by omega)
      obtain ⟨l', t3, r, h1, b1, dv, dq⟩ := scaled_out (.v md (.lst ds)) .un .un .un h0 hb (hp i d (vs[i]'(by omega)) hi (List.getElem?_eq_getElem _)) hk (by omega)
      refine ⟨[.v md (.lst ds), .v .fz (.int low), .v .fz d, .un, .un, .un], _, rfl, .inl r, l', _, _, rfl, h1, b1.mono ?_, fun j p q p' q' hj e => ?_⟩
      · rw [Nat.zero_add, Nat.mul_add]; omega
      · by_cases hji : j = i
        · subst hji
          rw [hi] at e
          cases e
          exact dq _ _ _ _ rfl
        · have := hd j p q p' q' (by omega) e
          exact ⟨Int.dvd_trans this.1 dv, Int.dvd_trans this.2 dv⟩)
  rw [Nat.zero_add, hl] at hb hd
  simp only [forget, List.set_cons_succ, List.set_cons_zero] at r1
  have hsz : ([] : List D).length + ds.length ≤ sizeLine := by rw [hl]; simp [sizeLine]; omega
  have hki : 2 * k * n ≤ 2 * 9000 * 10 := Nat.mul_le_mul (by omega) (by omega)
  obtain ⟨ys, r2, ly, qy⟩ := lcL_all (t := gTp [gNm 4, gNm 5]) (own := [4, 5]) (me := K__law_scaled_1) (env := [.v md (.lst ds), .v .fz (.int low), .un, .un, .un, .un])
    (fun x y => ∀ p q p' q' : Int, x = .tup [.tup [.int p, .int q], .tup [.int p', .int q']] → y = .tup [.int (p * (low / q)), .int (p' * (low / q'))]) ds [] hsz (by
      intro x hx
      obtain ⟨i, hi⟩ := List.getElem?_of_mem hx
      have hin : i < n := by rw [← hl]; exact (List.getElem?_eq_some_iff.1 hi).1
      obtain ⟨a, b, rfl, ⟨p, q, rfl, h0, hg, bp, bq, v⟩, ⟨p', q', rfl, h0', hg', bp', bq', v'⟩⟩ := hp i x (vs[i]'(by omega)) hi (List.getElem?_eq_getElem _)
      have g1 := gDiv_ok (a := low) bq h0 hk
      have g2 := gDiv_ok (a := low) bq' h0' hk
      have m1 := gMul_ok bp (hb.ediv (b := q)) (by omega)
      have m2 := gMul_ok bp' (hb.ediv (b := q')) (by omega)
      refine ⟨[.v md (.lst ds), .v .fz (.int low), .un, .un, .v .fz (.tup [.int p, .int q]), .v .fz (.tup [.int p', .int q'])], .fz (.tup [.int (p * (low / q)), .int (p' * (low / q'))]), [.v md (.lst ds), .v .fz (.int low), .un, .un, .v .fz (.tup [.int p, .int q]), .v .fz (.tup [.int p', .int q'])], .tup [.int (p * (low / q)), .int (p' * (low / q'))], [.v md (.lst ds), .v .fz (.int low), .un, .un, .v .fz (.tup [.int p, .int q]), .v .fz (.tup [.int p', .int q'])], rfl, ?_, rfl, rfl, fun p1 q1 p1' q1' e => by cases e; rfl⟩
      simp only [K__law_scaled_1, dVar, dC, dPrim, dMake, dTup, dLst, mArgs, AR.bind, AR.thn, ER.bind, ER.thn, FR.bind, TR.bind, TR.thn, TR.thenE, rdVs, rdV, frzV, frzVs, dTst, dNotT, dAndT, dOrT, dNotV, dAndV, dOrV, dIfE, dSeq, dDrop, dRet, dIf, dSet, putV, putRaw, gNm, gTp, gLs, gEach, dAsg, dPar, dCall, mkSlots, finS, keepIo, runFn, gAdd, DX.gSub, gNeg, gAbs, gLen, gEq_int, gNe_int, gLt_int, gGt_int, gLe_int, gGe_int, gIsi, tyD, isiD, dPin, forget, List.set_cons_zero, List.set_cons_succ, List.getElem?_cons_zero, List.getElem?_cons_succ, List.length_cons, List.length_nil, List.replicate, List.cons_append, List.nil_append, Nat.reduceAdd, Nat.reduceSub, gIx, atI_0, atI_1, Option.map_some, g1, g2, m1, m2, sz2, if_true])
  rw [List.nil_append] at r2
  refine ⟨low, ys, [.un], ?_, h0, hb, by rw [ly, hl], fun i y v hy hv => ?_⟩
  · rcases hm with rfl | rfl
    · simp only [F__law_scaled, M__law_scaled, dFor, itL, rdMode, dLc, mIt, dVar, dC, dPrim, dMake, dTup, dLst, mArgs, AR.bind, AR.thn, ER.bind, ER.thn, FR.bind, TR.bind, TR.thn, TR.thenE, rdVs, rdV, frzV, frzVs, dTst, dNotT, dAndT, dOrT, dNotV, dAndV, dOrV, dIfE, dSeq, dDrop, dRet, dIf, dSet, putV, putRaw, gNm, gTp, gLs, gEach, dAsg, dPar, dCall, mkSlots, finS, keepIo, runFn, gAdd, DX.gSub, gNeg, gAbs, gLen, gEq_int, gNe_int, gLt_int, gGt_int, gLe_int, gGe_int, gIsi, tyD, isiD, dPin, forget, List.set_cons_zero, List.set_cons_succ, List.getElem?_cons_zero, List.getElem?_cons_succ, List.length_cons, List.length_nil, List.replicate, List.cons_append, List.nil_append, Nat.reduceAdd, Nat.reduceSub, r1, r2, sz2, if_true]
    · simp only [F__law_scaled, M__law_scaled, dFor, itL, rdMode, dLc, mIt, dVar, dC, dPrim, dMake, dTup, dLst, mArgs, AR.bind, AR.thn, ER.bind, ER.thn, FR.bind, TR.bind, TR.thn, TR.thenE, rdVs, rdV, frzV, frzVs, dTst, dNotT, dAndT, dOrT, dNotV, dAndV, dOrV, dIfE, dSeq, dDrop, dRet, dIf, dSet, putV, putRaw, gNm, gTp, gLs, gEach, dAsg, dPar, dCall, mkSlots, finS, keepIo, runFn, gAdd, DX.gSub, gNeg, gAbs, gLen, gEq_int, gNe_int, gLt_int, gGt_int, gLe_int, gGe_int, gIsi, tyD, isiD, dPin, forget, List.set_cons_zero, List.set_cons_succ, List.getElem?_cons_zero, List.getElem?_cons_succ, List.length_cons, List.length_nil, List.replicate, List.cons_append, List.nil_append, Nat.reduceAdd, Nat.reduceSub, r1, r2, sz2, if_true]
  · have hin : i < n := by rw [← hl, ← ly]; exact (List.getElem?_eq_some_iff.1 hy).1
    have hdi : ds[i]? = some (ds[i]'(by omega)) := List.getElem?_eq_getElem _
    obtain ⟨a, b, ed, ⟨p, q, rfl, g0, hg, bp, bq, v1⟩, ⟨p', q', rfl, g0', hg', bp', bq', v1'⟩⟩ := hp i _ v hdi hv
    rw [ed] at hdi
    have ey := qy i _ y hdi hy p q p' q' rfl
    obtain ⟨⟨u, hu⟩, ⟨w, hw⟩⟩ := hd i p q p' q' hin hdi
    have e1 : low / q = u := Int.ediv_eq_of_eq_mul_right (by omega) hu
    have e2 : low / q' = w := Int.ediv_eq_of_eq_mul_right (by omega) hw
    refine ⟨_, _, ey, ?_, ?_, Bd.mul bp hb.ediv (Nat.le_refl _), Bd.mul bp' hb.ediv (Nat.le_refl _)⟩
    · rw [e1, hu]; push_cast; rw [v1]; grind
    · rw [e2, hw]; push_cast; rw [v1']; grind
/-- a point drawn of six numbers -/
theorem law_point_is (xs : List Int) (hl : xs.length = 6) (hx : ∀ x ∈ xs, Bd 81 x ∧ 0 ≤ x) : ∃ d e x y, F__law_point [.v .fz (.lst (xs.map .int))] = .ok (.fz d) e ∧ Pt 171 20 d x y := by
  match xs, hl with
  | [x0, x1, x2, x3, x4, x5], _ =>
  have h0 := hx x0 (by simp)
  have h1 := hx x1 (by simp)
  have h2 := hx x2 (by simp)
  have h3 := hx x3 (by simp)
  obtain ⟨t, e1, r1, b1⟩ := law_number_is h0.1 h1.1
  obtain ⟨u, e2, r2, b2⟩ := law_number_is h2.1 h3.1
  have g12 : gMod [.int x4, .int 12] = some (.fz (.int (x4 % 12))) := gMod_ok (by decide)
  have p4 : gPow [.int 10, .int 2] = some (.fz (.int 100)) := by simp [gPow]
  have g4 : gMod [.int x4, .int 100] = some (.fz (.int (x4 % 100))) := gMod_ok (by decide)
  have g5 : gMod [.int x5, .int 4] = some (.fz (.int (x5 % 4))) := gMod_ok (by decide)
  obtain ⟨low, hlow, hl0, hlb⟩ : ∃ low : Int, gIx [.lst [.int 1, .int (1 + x4 % 12), .int (1 + x4 % 100), .int 2], .int (x5 % 4)] = some (.fz (.int low)) ∧ 0 < low ∧ Bd 20 low := by
    have hc : x5 % 4 = 0 ∨ x5 % 4 = 1 ∨ x5 % 4 = 2 ∨ x5 % 4 = 3 := by omega
    rcases hc with h | h | h | h <;> rw [h]
    · exact ⟨1, rfl, by decide, Bd.lit⟩
    · exact ⟨1 + x4 % 12, rfl, by omega, (Bd.add (k := 1) (m := 4) (n := 5) Bd.lit (Bd.emod (by decide) Bd.lit) (by decide) (by decide)).mono (by decide)⟩
    · exact ⟨1 + x4 % 100, rfl, by omega, (Bd.add (k := 1) (m := 14) (n := 15) Bd.lit (Bd.emod (by decide) Bd.lit) (by decide) (by decide)).mono (by decide)⟩
    · exact ⟨2, rfl, by decide, Bd.lit⟩
  have hne : (low : Rat) ≠ 0 := ne0 (by omega)
  obtain ⟨d1, _, s1, S1⟩ := law_share_sh (a := t) (r := (t : Rat) / low) hl0 (by grind) (b1.mono (m := 171) (by decide)) hlb (by decide)
  obtain ⟨d2, _, s2, S2⟩ := law_share_sh (a := u) (r := (u : Rat) / low) hl0 (by grind) (b2.mono (m := 171) (by decide)) hlb (by decide)
  have s4 : 4 ≤ sizeLine := by simp [sizeLine]
  have a0 : gIx [.lst [.int x0, .int x1, .int x2, .int x3, .int x4, .int x5], .int 0] = some (.fz (.int x0)) := rfl
  have a1 : gIx [.lst [.int x0, .int x1, .int x2, .int x3, .int x4, .int x5], .int 1] = some (.fz (.int x1)) := rfl
  have a2 : gIx [.lst [.int x0, .int x1, .int x2, .int x3, .int x4, .int x5], .int 2] = some (.fz (.int x2)) := rfl
  have a3 : gIx [.lst [.int x0, .int x1, .int x2, .int x3, .int x4, .int x5], .int 3] = some (.fz (.int x3)) := rfl
  have a4 : gIx [.lst [.int x0, .int x1, .int x2, .int x3, .int x4, .int x5], .int 4] = some (.fz (.int x4)) := rfl
  have a5 : gIx [.lst [.int x0, .int x1, .int x2, .int x3, .int x4, .int x5], .int 5] = some (.fz (.int x5)) := rfl
  exact ⟨.tup [d1, d2], [.un], _, _, by simp only [F__law_point, M__law_point, dVar, dC, dPrim, dMake, dTup, dLst, mArgs, AR.bind, AR.thn, ER.bind, ER.thn, FR.bind, TR.bind, TR.thn, TR.thenE, rdVs, rdV, frzV, frzVs, dTst, dNotT, dAndT, dOrT, dNotV, dAndV, dOrV, dIfE, dSeq, dDrop, dRet, dIf, dSet, putV, putRaw, gNm, gTp, gLs, gEach, dAsg, dPar, dCall, mkSlots, finS, keepIo, runFn, gAdd, DX.gSub, gNeg, gAbs, gLen, gEq_int, gNe_int, gLt_int, gGt_int, gLe_int, gGe_int, gIsi, tyD, isiD, dPin, forget, List.set_cons_zero, List.set_cons_succ, List.getElem?_cons_zero, List.getElem?_cons_succ, List.length_cons, List.length_nil, List.replicate, List.cons_append, List.nil_append, Nat.reduceAdd, Nat.reduceSub, List.map_cons, List.map_nil, a0, a1, a2, a3, a4, a5, g12, g4, g5, p4, s4, hlow, if_true, r1, r2, s1, s2, sz2], d1, d2, rfl, S1, S2⟩
theorem law_cross_is {k n : Nat} {X0 Y0 X1 Y1 X2 Y2 : Int} (a0 : Bd k X0) (b0 : Bd k Y0) (a1 : Bd k X1) (b1 : Bd k Y1) (a2 : Bd k X2) (b2 : Bd k Y2) (hn : 2 * k + 3 ≤ n) (hk : n < 60000000) :
    ∃ e, F__law_cross [.v .fz (.tup [.int X0, .int Y0]), .v .fz (.tup [.int X1, .int Y1]), .v .fz (.tup [.int X2, .int Y2])] = .ok (.fz (.int ((X1 - X0) * (Y2 - Y0) - (Y1 - Y0) * (X2 - X0)))) e ∧ Bd n ((X1 - X0) * (Y2 - Y0) - (Y1 - Y0) * (X2 - X0)) := by
  have c1 : Bd (k + 1) (X1 - X0) := a1.sub a0 (by omega) (by omega)
  have c2 : Bd (k + 1) (Y2 - Y0) := b2.sub b0 (by omega) (by omega)
  have c3 : Bd (k + 1) (Y1 - Y0) := b1.sub b0 (by omega) (by omega)
  have c4 : Bd (k + 1) (X2 - X0) := a2.sub a0 (by omega) (by omega)
  have m1 := gMul_ok c1 c2 (by omega)
  have m2 := gMul_ok c3 c4 (by omega)
  exact ⟨[.un, .un, .un], by simp only [F__law_cross, M__law_cross, dVar, dC, dPrim, dMake, dTup, dLst, mArgs, AR.bind, AR.thn, ER.bind, ER.thn, FR.bind, TR.bind, TR.thn, TR.thenE, rdVs, rdV, frzV, frzVs, dTst, dNotT, dAndT, dOrT, dNotV, dAndV, dOrV, dIfE, dSeq, dDrop, dRet, dIf, dSet, putV, putRaw, gNm, gTp, gLs, gEach, dAsg, dPar, dCall, mkSlots, finS, keepIo, runFn, gAdd, DX.gSub, gNeg, gAbs, gLen, gEq_int, gNe_int, gLt_int, gGt_int, gLe_int, gGe_int, gIsi, tyD, isiD, dPin, forget, List.set_cons_zero, List.set_cons_succ, List.getElem?_cons_zero, List.getElem?_cons_succ, List.length_cons, List.length_nil, List.replicate, List.cons_append, List.nil_append, Nat.reduceAdd, Nat.reduceSub, gIx, atI_0, atI_1, Option.map_some, m1, m2], (Bd.sub (n := n) (Bd.mul c1 c2 (Nat.le_refl _)) (Bd.mul c3 c4 (Nat.le_refl _)) (by omega) (by omega))⟩
theorem slice6 (xs : List Int) (i : Nat) (h : 6 * i + 6 ≤ xs.length) : gSlice (some ((6 : Int) * (i : Nat))) (some ((6 : Int) * (i : Nat) + 6)) (.lst (xs.map .int)) = some (.tmp (.lst (((xs.drop (6 * i)).take 6).map .int))) := by
  have e1 : (6 : Int) * (i : Nat) = ((6 * i : Nat) : Int) := by omega
  have e2 : (6 : Int) * (i : Nat) + 6 = ((6 * i + 6 : Nat) : Int) := by omega
  rw [e2, e1]
  simp only [gSlice, cutL, HT.sIx_nat, List.length_map]
  rw [Nat.min_eq_left (by omega), Nat.min_eq_left (by omega)]
  simp
theorem pts_four (xs : List Int) (n : Nat) (hn : n ≤ 5) (hl : 6 * n ≤ xs.length) (hx : ∀ x ∈ xs, Bd 81 x ∧ 0 ≤ x) : ∃ ys, lcL (gNm 6) [6] dYes K__law_four_1 (rng n) [.v .fz (.lst (xs.map .int)), .un, .un, .un, .un, .un, .un, .un] [] = .ok (.tmp (.lst ys)) [.v .fz (.lst (xs.map .int)), .un, .un, .un, .un, .un, .un, .un] ∧
    ys.length = n ∧ ∀ y ∈ ys, ∃ x' y', Pt 171 20 y x' y' := by
  obtain ⟨ys, r, l, q⟩ := lcL_all (t := gNm 6) (own := [6]) (me := K__law_four_1) (env := [.v .fz (.lst (xs.map .int)), .un, .un, .un, .un, .un, .un, .un]) (fun _ d => ∃ x' y', Pt 171 20 d x' y') (rng n) [] (by rw [rng_len]; simp [sizeLine]; omega) (by
    intro x hx'
    obtain ⟨i, hi⟩ := List.getElem?_of_mem hx'
    obtain ⟨rfl, hin⟩ := rng_get hi
    obtain ⟨A, _, x, y, rA, PA⟩ := law_point_is ((xs.drop (6 * i)).take 6) (by simp; omega) fun z hz => hx z (List.mem_of_mem_drop (List.mem_of_mem_take hz))
    have m6 := gMul_ok (a := 6) (b := (i : Nat)) (k := 3) (m := 4) Bd.lit (by unfold Bd; omega) (by decide)
    have sl := slice6 xs i (by omega)
    exact ⟨[.v .fz (.lst (xs.map .int)), .un, .un, .un, .un, .un, .v .fz (.int i), .un], .fz A, [.v .fz (.lst (xs.map .int)), .un, .un, .un, .un, .un, .v .fz (.int i), .un], A, [.v .fz (.lst (xs.map .int)), .un, .un, .un, .un, .un, .v .fz (.int i), .un], rfl,
      by simp only [K__law_four_1, dSl2, dFin, Option.bind_some, dVar, dC, dPrim, dMake, dTup, dLst, mArgs, AR.bind, AR.thn, ER.bind, ER.thn, FR.bind, TR.bind, TR.thn, TR.thenE, rdVs, rdV, frzV, frzVs, dTst, dNotT, dAndT, dOrT, dNotV, dAndV, dOrV, dIfE, dSeq, dDrop, dRet, dIf, dSet, putV, putRaw, gNm, gTp, gLs, gEach, dAsg, dPar, dCall, mkSlots, finS, keepIo, runFn, gAdd, DX.gSub, gNeg, gAbs, gLen, gEq_int, gNe_int, gLt_int, gGt_int, gLe_int, gGe_int, gIsi, tyD, isiD, dPin, forget, List.set_cons_zero, List.set_cons_succ, List.getElem?_cons_zero, List.getElem?_cons_succ, List.length_cons, List.length_nil, List.replicate, List.cons_append, List.nil_append, Nat.reduceAdd, Nat.reduceSub, m6, sl, rA], rfl, rfl, x, y, PA⟩)
  rw [List.nil_append] at r
  refine ⟨ys, r, by rw [l, rng_len], fun y hy => ?_⟩
  obtain ⟨i, hi⟩ := List.getElem?_of_mem hy
  have hin : i < (rng n).length := by rw [← l]; exact (List.getElem?_eq_some_iff.1 hi).1
  exact q i _ y (List.getElem?_eq_getElem hin) hi
theorem four_b (s0 s1 : Slot) {L X0 Y0 X1 Y1 X2 Y2 X3 Y3 A B C p i : Int} {fs : List D} {x x' x'' : Rat} (hA : gIx [.tup [.int X0, .int Y0], .int i] = some (.fz (.int A))) (hB : gIx [.tup [.int X1, .int Y1], .int i] = some (.fz (.int B))) (hC : gIx [.tup [.int X2, .int Y2], .int i] = some (.fz (.int C)))
    (hL : 0 < L) (bA : Bd 332 A) (bB : Bd 332 B) (bC : Bd 332 C) (bp : Bd 4 p) (bL : Bd 161 L) (vA : (A : Rat) = x * (L : Rat)) (vB : (B : Rat) = x' * (L : Rat)) (vC : (C : Rat) = x'' * (L : Rat)) (hf : fs.length < 1000) :
    ∃ d t7, B__law_four_1 [s0, s1, .v .fz (.int L), .v .fz (.lst [.tup [.int X0, .int Y0], .tup [.int X1, .int Y1], .tup [.int X2, .int Y2], .tup [.int X3, .int Y3]]), .v .fz (.int p), .v .ow (.lst fs), .v .fz (.int i), .un] =
      .next [s0, s1, .v .fz (.int L), .v .fz (.lst [.tup [.int X0, .int Y0], .tup [.int X1, .int Y1], .tup [.int X2, .int Y2], .tup [.int X3, .int Y3]]), .v .fz (.int p), .v .ow (.lst (fs ++ [d])), .v .fz (.int i), t7] ∧ Sh 340 161 d (x'' + (p : Rat) * (x' - x)) := by
  have bd : Bd 333 (B - A) := bB.sub bA (by decide) (by decide)
  have m2 := gMul_ok bp bd (by decide)
  have bt : Bd 340 (C + p * (B - A)) := Bd.add (k := 332) (m := 337) bC (Bd.mul bp bd (by decide)) (by decide) (by decide)
  obtain ⟨d, _, r, S⟩ := law_share_sh (a := C + p * (B - A)) (b := L) (r := x'' + (p : Rat) * (x' - x)) (by omega) (by push_cast; rw [vA, vB, vC]; grind) bt bL (by decide)
  have hs : fs.length < sizeLine := by unfold sizeLine; omega
  have i0 : gIx [.lst [.tup [.int X0, .int Y0], .tup [.int X1, .int Y1], .tup [.int X2, .int Y2], .tup [.int X3, .int Y3]], .int 0] = some (.fz (.tup [.int X0, .int Y0])) := rfl
  have i1 : gIx [.lst [.tup [.int X0, .int Y0], .tup [.int X1, .int Y1], .tup [.int X2, .int Y2], .tup [.int X3, .int Y3]], .int 1] = some (.fz (.tup [.int X1, .int Y1])) := rfl
  have i2 : gIx [.lst [.tup [.int X0, .int Y0], .tup [.int X1, .int Y1], .tup [.int X2, .int Y2], .tup [.int X3, .int Y3]], .int 2] = some (.fz (.tup [.int X2, .int Y2])) := rfl
  exact ⟨d, .v .fz (.int (B - A)), by simp only [B__law_four_1, dVar, dC, dPrim, dMake, dTup, dLst, mArgs, AR.bind, AR.thn, ER.bind, ER.thn, FR.bind, TR.bind, TR.thn, TR.thenE, rdVs, rdV, frzV, frzVs, dTst, dNotT, dAndT, dOrT, dNotV, dAndV, dOrV, dIfE, dSeq, dDrop, dRet, dIf, dSet, putV, putRaw, gNm, gTp, gLs, gEach, dAsg, dPar, dCall, mkSlots, finS, keepIo, runFn, gAdd, DX.gSub, gNeg, gAbs, gLen, gEq_int, gNe_int, gLt_int, gGt_int, gLe_int, gGe_int, gIsi, tyD, isiD, dPin, forget, List.set_cons_zero, List.set_cons_succ, List.getElem?_cons_zero, List.getElem?_cons_succ, List.length_cons, List.length_nil, List.replicate, List.cons_append, List.nil_append, Nat.reduceAdd, Nat.reduceSub, dMutL, gAppend, i0, i1, i2, hA, hB, hC, m2, r, hs, if_true], S⟩
theorem law_four_is (xs : List Int) (hl : xs.length = 30) (hx : ∀ x ∈ xs, Bd 81 x ∧ 0 ≤ x) : ∃ (a b c d : D) (en : DEnv), F__law_four [.v .fz (.lst (xs.map .int))] = .ok (.tmp (.lst [a, b, c, d])) en ∧ ∀ z ∈ [a, b, c, d], ∃ x y, Pt 340 161 z x y := by
  obtain ⟨ys, rc, ly, qy⟩ := pts_four xs 4 (by decide) (by omega) hx
  match ys, ly with
  | [a, b, c, d], _ =>
  obtain ⟨x, y, PA⟩ := qy a (by simp)
  obtain ⟨x1, y1, PB⟩ := qy b (by simp)
  obtain ⟨x2, y2, PC⟩ := qy c (by simp)
  obtain ⟨x3, y3, PD⟩ := qy d (by simp)
  obtain ⟨u, hu⟩ : ∃ u, gIx [.lst (xs.map .int), .int 24] = some (.fz (.int u)) := ⟨xs[24], by simp [gIx, atI_lit, hl]⟩
  obtain ⟨w, hw⟩ : ∃ w, gIx [.lst (xs.map .int), .int 25] = some (.fz (.int w)) := ⟨xs[25], by simp [gIx, atI_lit, hl]⟩
  have g8 : gMod [.int u, .int 8] = some (.fz (.int (u % 8))) := gMod_ok (by decide)
  have g7 : gMod [.int w, .int 7] = some (.fz (.int (w % 7))) := gMod_ok (by decide)
  have g4 : gMod [.int w, .int 4] = some (.fz (.int (w % 4))) := gMod_ok (by decide)
  have gd : gDiv [.int w, .int 4] = some (.fz (.int (w / 4))) := gDiv_ok (k := 3) Bd.lit (by decide) (by decide)
  have g3 : gMod [.int (w / 4), .int 3] = some (.fz (.int (w / 4 % 3))) := gMod_ok (by decide)
  have r5 := fun env => mR1_nat (n := 4) (by decide) env
  have r5 : ∀ env, mR1 (dC (.int 4)) env = .ok (rng 4) env := r5
  have allP : ∀ z ∈ [a, b, c, d], ∃ x y, Pt 340 161 z x y := fun z hz => by
    obtain ⟨x, y, P⟩ := qy z hz
    exact ⟨x, y, P.mono (by decide) (by decide)⟩
  by_cases h1 : u % 8 > 5
  · have h2 : ¬ u % 8 = 1 := by omega
    obtain ⟨L, ys, _, rs, hL, bL, ly, qy⟩ := scaled_is (md := .rd) (.inr rfl) (kn := 171) (k := 20) (n := 4) (by decide) (by decide) (by decide) (ds := [a, b, c, d]) (vs := [(x, y), (x1, y1), (x2, y2), (x3, y3)]) rfl rfl (by
      intro i d v h1 h2
      match i with
      | 0 => cases h1; cases h2; exact PA
      | 1 => cases h1; cases h2; exact PB
      | 2 => cases h1; cases h2; exact PC
      | 3 => cases h1; cases h2; exact PD
      | n + 4 => simp at h1)
    match ys, ly with
    | [u0, u1, u2, u3], _ =>
    obtain ⟨X0, Y0, rfl, vx0, vy0, bx0, by0⟩ := qy 0 u0 (x, y) rfl rfl
    obtain ⟨X1, Y1, rfl, vx1, vy1, bx1, by1⟩ := qy 1 u1 (x1, y1) rfl rfl
    obtain ⟨X2, Y2, rfl, vx2, vy2, bx2, by2⟩ := qy 2 u2 (x2, y2) rfl rfl
    obtain ⟨X3, Y3, rfl, vx3, vy3, bx3, by3⟩ := qy 3 u3 (x3, y3) rfl rfl
    have bp : Bd 4 (w % 7 - 3) := by unfold Bd; omega
    have s0 : 0 ≤ sizeLine := Nat.zero_le _
    obtain ⟨d0, t0, q0, S0⟩ := four_b (.v .fz (.lst (xs.map .int))) (.v .ow (.lst [a, b, c, d])) (i := 0) (fs := []) (X0 := X0) (Y0 := Y0) (X1 := X1) (Y1 := Y1) (X2 := X2) (Y2 := Y2) (X3 := X3) (Y3 := Y3) rfl rfl rfl hL bx0 bx1 bx2 bp bL vx0 vx1 vx2 (by decide)
    obtain ⟨d1, t1, q1, S1⟩ := four_b (.v .fz (.lst (xs.map .int))) (.v .ow (.lst [a, b, c, d])) (i := 1) (fs := [d0]) (X0 := X0) (Y0 := Y0) (X1 := X1) (Y1 := Y1) (X2 := X2) (Y2 := Y2) (X3 := X3) (Y3 := Y3) rfl rfl rfl hL by0 by1 by2 bp bL vy0 vy1 vy2 (by simp)
    have ix2 : ixN 4 3 = some 3 := rfl
    refine ⟨a, b, c, .tup [d0, d1], [.un], ?_, fun z hz => ?_⟩
    · simp only [F__law_four, M__law_four, dLc, r5, rc, dForR1_eq, forR1_two, Option.bind_some, gTuple, gAt, dVar, dC, dPrim, dMake, dTup, dLst, mArgs, AR.bind, AR.thn, ER.bind, ER.thn, FR.bind, TR.bind, TR.thn, TR.thenE, rdVs, rdV, frzV, frzVs, dTst, dNotT, dAndT, dOrT, dNotV, dAndV, dOrV, dIfE, dSeq, dDrop, dRet, dIf, dSet, putV, putRaw, gNm, gTp, gLs, gEach, dAsg, dPar, dCall, mkSlots, finS, keepIo, runFn, gAdd, DX.gSub, gNeg, gAbs, gLen, gEq_int, gNe_int, gLt_int, gGt_int, gLe_int, gGe_int, gIsi, tyD, isiD, dPin, forget, List.set_cons_zero, List.set_cons_succ, List.getElem?_cons_zero, List.getElem?_cons_succ, List.length_cons, List.length_nil, List.replicate, List.cons_append, List.nil_append, Nat.reduceAdd, Nat.reduceSub, hu, hw, g8, g7, h1, h2, decide_true, decide_false, Bool.false_eq_true, if_true, if_false, rs, s0, forL, q0, q1, List.nil_append, List.cons_append, ix2, Option.map_some]
    · simp only [List.mem_cons, List.not_mem_nil, or_false] at hz
      rcases hz with rfl | rfl | rfl | rfl
      · exact allP _ (by simp)
      · exact allP _ (by simp)
      · exact allP _ (by simp)
      · exact ⟨_, _, d0, d1, rfl, S0, S1⟩
  · have h5 : ¬ 5 < u % 8 := h1
    by_cases h2 : u % 8 = 1
    · obtain ⟨z, hz, hzm⟩ : ∃ z, gIx [.lst [a, b, c, d], .int (w % 4)] = some (.fz z) ∧ z ∈ [a, b, c, d] := by
        have hc : w % 4 = 0 ∨ w % 4 = 1 ∨ w % 4 = 2 ∨ w % 4 = 3 := by omega
        rcases hc with h | h | h | h <;> rw [h]
        · exact ⟨a, rfl, by simp⟩
        · exact ⟨b, rfl, by simp⟩
        · exact ⟨c, rfl, by simp⟩
        · exact ⟨d, rfl, by simp⟩
      obtain ⟨j, hj, hj3⟩ : ∃ j, ixN 4 (1 + w / 4 % 3) = some j ∧ j < 4 := by
        have hc : w / 4 % 3 = 0 ∨ w / 4 % 3 = 1 ∨ w / 4 % 3 = 2 := by omega
        rcases hc with h | h | h <;> rw [h]
        · exact ⟨1, rfl, by decide⟩
        · exact ⟨2, rfl, by decide⟩
        · exact ⟨3, rfl, by decide⟩
      have key : F__law_four [.v .fz (.lst (xs.map .int))] = .ok (.tmp (.lst ([a, b, c, d].set j z))) [.un] := by
        simp only [F__law_four, M__law_four, dLc, r5, rc, gAt, dVar, dC, dPrim, dMake, dTup, dLst, mArgs, AR.bind, AR.thn, ER.bind, ER.thn, FR.bind, TR.bind, TR.thn, TR.thenE, rdVs, rdV, frzV, frzVs, dTst, dNotT, dAndT, dOrT, dNotV, dAndV, dOrV, dIfE, dSeq, dDrop, dRet, dIf, dSet, putV, putRaw, gNm, gTp, gLs, gEach, dAsg, dPar, dCall, mkSlots, finS, keepIo, runFn, gAdd, DX.gSub, gNeg, gAbs, gLen, gEq_int, gNe_int, gLt_int, gGt_int, gLe_int, gGe_int, gIsi, tyD, isiD, dPin, forget, List.set_cons_zero, List.set_cons_succ, List.getElem?_cons_zero, List.getElem?_cons_succ, List.length_cons, List.length_nil, List.replicate, List.cons_append, List.nil_append, Nat.reduceAdd, Nat.reduceSub, hu, hw, g8, g4, gd, g3, hz, hj, h5, h2, decide_true, decide_false, Bool.false_eq_true, if_true, if_false, Option.map_some, show ¬ (5 : Int) < 1 by decide]
      have hmem : ∀ v ∈ [a, b, c, d].set j z, ∃ x y, Pt 340 161 v x y := fun v hv => by
        rcases List.mem_or_eq_of_mem_set hv with h | h
        · exact allP v h
        · rw [h]; exact allP z hzm
      have e4 : ([a, b, c, d].set j z).length = 4 := by simp
      match hq : [a, b, c, d].set j z, e4 with
      | [a', b', c', d'], _ =>
        rw [hq] at key hmem
        exact ⟨a', b', c', d', [.un], key, hmem⟩
    · exact ⟨a, b, c, d, [.un], by simp only [F__law_four, M__law_four, dLc, r5, rc, dVar, dC, dPrim, dMake, dTup, dLst, mArgs, AR.bind, AR.thn, ER.bind, ER.thn, FR.bind, TR.bind, TR.thn, TR.thenE, rdVs, rdV, frzV, frzVs, dTst, dNotT, dAndT, dOrT, dNotV, dAndV, dOrV, dIfE, dSeq, dDrop, dRet, dIf, dSet, putV, putRaw, gNm, gTp, gLs, gEach, dAsg, dPar, dCall, mkSlots, finS, keepIo, runFn, gAdd, DX.gSub, gNeg, gAbs, gLen, gEq_int, gNe_int, gLt_int, gGt_int, gLe_int, gGe_int, gIsi, tyD, isiD, dPin, forget, List.set_cons_zero, List.set_cons_succ, List.getElem?_cons_zero, List.getElem?_cons_succ, List.length_cons, List.length_nil, List.replicate, List.cons_append, List.nil_append, Nat.reduceAdd, Nat.reduceSub, hu, g8, h5, h2, decide_false, Bool.false_eq_true, if_false], allP⟩
theorem moved_pt {k m g h a b n l : Nat} {P Q T : D} {x y dx dy t : Rat} (hP : Pt k m P x y) (hQ : Pt g h Q dx dy) (hT : Sh a b T t) (hn : k + (b + h) + 1 ≤ n) (hn' : a + g + m + 1 ≤ n) (hl : m + (b + h) ≤ l) (hk : l < 9000) (hM : n < 9000) :
    ∃ d e, F_moved [.v .fz P, .v .fz Q, .v .fz T] = .ok (.fz d) e ∧ Pt n l d (x + t * dx) (y + t * dy) := by
  obtain ⟨p0, p1, rfl, h0, h1⟩ := hP
  obtain ⟨q0, q1, rfl, g0, g1⟩ := hQ
  obtain ⟨d, _, e1, s1⟩ := times_sh hT g0 (n := a + g) (l := b + h) (Nat.le_refl _) (Nat.le_refl _) (by omega) (by omega)
  obtain ⟨d', _, e2, s2⟩ := times_sh hT g1 (n := a + g) (l := b + h) (Nat.le_refl _) (Nat.le_refl _) (by omega) (by omega)
  obtain ⟨w, _, e3, s3⟩ := plus_sh h0 s1 (n := n) (l := l) hn (by omega) hl hk hM
  obtain ⟨w', _, e4, s4⟩ := plus_sh h1 s2 (n := n) (l := l) hn (by omega) hl hk hM
  exact ⟨_, [.un, .un, .un], by simp only [F_moved, M_moved, dVar, dC, dPrim, dMake, dTup, dLst, mArgs, AR.bind, AR.thn, ER.bind, ER.thn, FR.bind, TR.bind, TR.thn, TR.thenE, rdVs, rdV, frzV, frzVs, dTst, dNotT, dAndT, dOrT, dNotV, dAndV, dOrV, dIfE, dSeq, dDrop, dRet, dIf, dSet, putV, putRaw, gNm, gTp, gLs, gEach, dAsg, dPar, dCall, mkSlots, finS, keepIo, runFn, gAdd, DX.gSub, gNeg, gAbs, gLen, gEq_int, gNe_int, gLt_int, gGt_int, gLe_int, gGe_int, gIsi, tyD, isiD, dPin, forget, List.set_cons_zero, List.set_cons_succ, List.getElem?_cons_zero, List.getElem?_cons_succ, List.length_cons, List.length_nil, List.replicate, List.cons_append, List.nil_append, Nat.reduceAdd, Nat.reduceSub, gIx, atI_0, atI_1, Option.map_some, e1, e2, e3, e4, sz2, if_true], w, w', rfl, s3, s4⟩
theorem between_pt {P Q T : D} {x y x' y' t : Rat} (hP : Pt 340 161 P x y) (hQ : Pt 340 161 Q x' y') (hT : Sh 200 20 T t) : ∃ d e, F_between [.v .fz P, .v .fz Q, .v .fz T] = .ok (.fz d) e ∧ Pt 1000 600 d (x + t * (x' - x)) (y + t * (y' - y)) := by
  obtain ⟨G, _, e1, g⟩ := gap_pt hP hQ (n := 502) (l := 322) (by decide) (by decide) (by decide) (by decide)
  obtain ⟨d, _, e2, s⟩ := moved_pt hP g hT (n := 1000) (l := 600) (by decide) (by decide) (by decide) (by decide) (by decide)
  exact ⟨d, [.un, .un, .un], by simp only [F_between, M_between, dVar, dC, dPrim, dMake, dTup, dLst, mArgs, AR.bind, AR.thn, ER.bind, ER.thn, FR.bind, TR.bind, TR.thn, TR.thenE, rdVs, rdV, frzV, frzVs, dTst, dNotT, dAndT, dOrT, dNotV, dAndV, dOrV, dIfE, dSeq, dDrop, dRet, dIf, dSet, putV, putRaw, gNm, gTp, gLs, gEach, dAsg, dPar, dCall, mkSlots, finS, keepIo, runFn, gAdd, DX.gSub, gNeg, gAbs, gLen, gEq_int, gNe_int, gLt_int, gGt_int, gLe_int, gGe_int, gIsi, tyD, isiD, dPin, forget, List.set_cons_zero, List.set_cons_succ, List.getElem?_cons_zero, List.getElem?_cons_succ, List.length_cons, List.length_nil, List.replicate, List.cons_append, List.nil_append, Nat.reduceAdd, Nat.reduceSub, e1, e2], s⟩
theorem is_point {k m : Nat} {d : D} {x y : Rat} (h : Pt k m d x y) (hk : k < 9000) (hm : m < 9000) : ∃ e, F__law_is_point [.v .fz d] = .ok (.fz (.bl true)) e := by
  obtain ⟨a, b, rfl, ⟨p, q, rfl, h0, hg, bp, bq, v⟩, ⟨p', q', rfl, h0', hg', bp', bq', v'⟩⟩ := h
  obtain ⟨_, e1⟩ := law_same_is (t := p) (b := q) h0 hg rfl (bp.mono (m := 9000) (by omega)) (bq.mono (by omega)) (bp.mono (by omega)) (bq.mono (by omega)) (by decide)
  obtain ⟨_, e2⟩ := law_same_is (t := p') (b := q') h0' hg' rfl (bp'.mono (m := 9000) (by omega)) (bq'.mono (by omega)) (bp'.mono (by omega)) (bq'.mono (by omega)) (by decide)
  exact ⟨[.un], by simp [F__law_is_point, M__law_is_point, B__law_is_point_1, dFor, itT, forL, dVar, dC, dPrim, dMake, dTup, dLst, mArgs, AR.bind, AR.thn, ER.bind, ER.thn, FR.bind, TR.bind, TR.thn, TR.thenE, rdVs, rdV, frzV, frzVs, dTst, dNotT, dAndT, dOrT, dNotV, dAndV, dOrV, dIfE, dSeq, dDrop, dRet, dIf, dSet, putV, putRaw, gNm, gTp, gLs, gEach, dAsg, dPar, dCall, mkSlots, finS, keepIo, runFn, gAdd, DX.gSub, gNeg, gAbs, gLen, gEq_int, gNe_int, gLt_int, gGt_int, gLe_int, gGe_int, gIsi, tyD, isiD, dPin, forget, List.set_cons_zero, List.set_cons_succ, List.getElem?_cons_zero, List.getElem?_cons_succ, List.length_cons, List.length_nil, List.replicate, List.cons_append, List.nil_append, Nat.reduceAdd, Nat.reduceSub, gIx, atI_0, atI_1, e1, e2]⟩
theorem gEq_pt (a b c d a' b' c' d' : Int) : gEq [.tup [.tup [.int a, .int b], .tup [.int c, .int d]], .tup [.tup [.int a', .int b'], .tup [.int c', .int d']]] = some (.fz (.bl ((decide (a = a') && (decide (b = b') && true)) && ((decide (c = c') && (decide (d = d') && true)) && true)))) := rfl
theorem gEq_self {k m : Nat} {d : D} {x y : Rat} (h : Pt k m d x y) : gEq [d, d] = some (.fz (.bl true)) := by
  obtain ⟨a, b, rfl, ⟨p, q, rfl, _⟩, ⟨p', q', rfl, _⟩⟩ := h
  rw [gEq_pt]
  simp
theorem gNe_self {d : D} (h : gEq [d, d] = some (.fz (.bl true))) : gNe [d, d] = some (.fz (.bl false)) := by
  simp only [gEq, gNe] at h ⊢
  cases e : deq d d with
  | none => rw [e] at h; cases h
  | some b => rw [e] at h; cases b <;> simp_all
theorem between_b (s0 s1 : Slot) {X0 Y0 X1 Y1 A B tp tq L i : Int} {d0 d1 Z : D} {x x' t : Rat} (hA : gIx [.tup [.int X0, .int Y0], .int i] = some (.fz (.int A))) (hB : gIx [.tup [.int X1, .int Y1], .int i] = some (.fz (.int B))) (hZ : gIx [.tup [d0, d1], .int i] = some (.fz Z))
    (bA : Bd 1100 A) (bB : Bd 1100 B) (bL : Bd 700 L) (bp : Bd 200 tp) (bq : Bd 20 tq) (vA : (A : Rat) = x * (L : Rat)) (vB : (B : Rat) = x' * (L : Rat)) (vt : (tp : Rat) = t * (tq : Rat)) (hS : Sh 1000 600 Z (x + t * (x' - x))) :
    ∃ t7, B__law_between_good_1 [s0, s1, .v .fz (.tup [.int tp, .int tq]), .v .fz (.tup [d0, d1]), .v .fz (.int L), .v .fz (.lst [.tup [.int X0, .int Y0], .tup [.int X1, .int Y1]]), .v .fz (.int i), .un] =
      .next [s0, s1, .v .fz (.tup [.int tp, .int tq]), .v .fz (.tup [d0, d1]), .v .fz (.int L), .v .fz (.lst [.tup [.int X0, .int Y0], .tup [.int X1, .int Y1]]), .v .fz (.int i), t7] := by
  have bd : Bd 1101 (B - A) := bB.sub bA (by decide) (by decide)
  have m1 := gMul_ok bA bq (by decide)
  have m2 := gMul_ok bp bd (by decide)
  have m3 := gMul_ok bL bq (by decide)
  have bt : Bd 2000 (A * tq + tp * (B - A)) := Bd.add (k := 1120) (m := 1301) (Bd.mul bA bq (by decide)) (Bd.mul bp bd (by decide)) (by decide) (by decide)
  obtain ⟨_, sm⟩ := same_sh (t := A * tq + tp * (B - A)) (b := L * tq) (hS.mono (k' := 2000) (m' := 2000) (by decide) (by decide)) (by push_cast; rw [vA, vB, vt]; grind) bt ((Bd.mul (n := 720) bL bq (by decide)).mono (by decide)) (by decide)
  have i0 : gIx [.lst [.tup [.int X0, .int Y0], .tup [.int X1, .int Y1]], .int 0] = some (.fz (.tup [.int X0, .int Y0])) := rfl
  have i1 : gIx [.lst [.tup [.int X0, .int Y0], .tup [.int X1, .int Y1]], .int 1] = some (.fz (.tup [.int X1, .int Y1])) := rfl
  have j0 : gIx [.tup [.int tp, .int tq], .int 0] = some (.fz (.int tp)) := rfl
  have j1 : gIx [.tup [.int tp, .int tq], .int 1] = some (.fz (.int tq)) := rfl
  exact ⟨.v .fz (.int (A * tq + tp * (B - A))), by simp only [B__law_between_good_1, dVar, dC, dPrim, dMake, dTup, dLst, mArgs, AR.bind, AR.thn, ER.bind, ER.thn, FR.bind, TR.bind, TR.thn, TR.thenE, rdVs, rdV, frzV, frzVs, dTst, dNotT, dAndT, dOrT, dNotV, dAndV, dOrV, dIfE, dSeq, dDrop, dRet, dIf, dSet, putV, putRaw, gNm, gTp, gLs, gEach, dAsg, dPar, dCall, mkSlots, finS, keepIo, runFn, gAdd, DX.gSub, gNeg, gAbs, gLen, gEq_int, gNe_int, gLt_int, gGt_int, gLe_int, gGe_int, gIsi, tyD, isiD, dPin, forget, List.set_cons_zero, List.set_cons_succ, List.getElem?_cons_zero, List.getElem?_cons_succ, List.length_cons, List.length_nil, List.replicate, List.cons_append, List.nil_append, Nat.reduceAdd, Nat.reduceSub, i0, i1, j0, j1, hA, hB, hZ, m1, m2, m3, sm, Bool.not_true, Bool.false_eq_true, if_false]⟩
theorem between_good {P Q T : D} {x y x' y' t : Rat} (hP : Pt 340 161 P x y) (hQ : Pt 340 161 Q x' y') (hT : Sh 200 20 T t) : ∃ e, F__law_between_good [.v .fz P, .v .fz Q, .v .fz T] = .ok (.fz (.bl true)) e := by
  obtain ⟨R, _, e1, pR⟩ := between_pt hP hQ hT
  have z0 : Sh 200 20 (.tup [.int 0, .int 1]) 0 := ⟨0, 1, rfl, by decide, by decide, Bd.mono (k := 1) Bd.lit (by decide), Bd.mono (k := 1) Bd.lit (by decide), by simp⟩
  have z1 : Sh 200 20 (.tup [.int 1, .int 1]) 1 := ⟨1, 1, rfl, by decide, by decide, Bd.mono (k := 1) Bd.lit (by decide), Bd.mono (k := 1) Bd.lit (by decide), by simp⟩
  obtain ⟨R0, _, e2, pR0⟩ := between_pt hP hQ z0
  obtain ⟨R1, _, e3, pR1⟩ := between_pt hP hQ z1
  have q0 : R0 = P := pR0.uniq (by rw [show x + 0 * (x' - x) = x by grind, show y + 0 * (y' - y) = y by grind]; exact hP)
  have q1 : R1 = Q := pR1.uniq (by rw [show x + 1 * (x' - x) = x' by grind, show y + 1 * (y' - y) = y' by grind]; exact hQ)
  subst q0 q1
  obtain ⟨_, ip⟩ := is_point pR (by decide) (by decide)
  obtain ⟨L, ys, _, rs, hL, bL, ly, qy⟩ := scaled_is (md := .rd) (.inr rfl) (kn := 340) (k := 161) (n := 2) (by decide) (by decide) (by decide) (ds := [R0, R1]) (vs := [(x, y), (x', y')]) rfl rfl (by
    intro i d v h1 h2
    match i with
    | 0 => cases h1; cases h2; exact hP
    | 1 => cases h1; cases h2; exact hQ
    | n + 2 => simp at h1)
  match ys, ly with
  | [u0, u1], _ =>
  obtain ⟨X0, Y0, rfl, vx0, vy0, bx0, by0⟩ := qy 0 u0 (x, y) rfl rfl
  obtain ⟨X1, Y1, rfl, vx1, vy1, bx1, by1⟩ := qy 1 u1 (x', y') rfl rfl
  obtain ⟨d0, d1, rfl, S0, S1⟩ := pR
  have gs0 := gEq_self hP
  have gs1 := gEq_self hQ
  obtain ⟨tp, tq, rfl, ht0, htg, btp, btq, vt⟩ := hT
  have bL' : Bd 700 L := bL.mono (by decide)
  obtain ⟨t7, b0⟩ := between_b (.v .fz R0) (.v .fz R1) (i := 0) (d0 := d0) (d1 := d1) (Z := d0) (X0 := X0) (Y0 := Y0) (X1 := X1) (Y1 := Y1) rfl rfl rfl (bx0.mono (by decide)) (bx1.mono (by decide)) bL' btp btq vx0 vx1 vt S0
  obtain ⟨t7', b1⟩ := between_b (.v .fz R0) (.v .fz R1) (i := 1) (d0 := d0) (d1 := d1) (Z := d1) (X0 := X0) (Y0 := Y0) (X1 := X1) (Y1 := Y1) rfl rfl rfl (by0.mono (by decide)) (by1.mono (by decide)) bL' btp btq vy0 vy1 vt S1
  exact ⟨[.un, .un, .un], by simp only [F__law_between_good, M__law_between_good, dForR1_eq, forR1_two, dVar, dC, dPrim, dMake, dTup, dLst, mArgs, AR.bind, AR.thn, ER.bind, ER.thn, FR.bind, TR.bind, TR.thn, TR.thenE, rdVs, rdV, frzV, frzVs, dTst, dNotT, dAndT, dOrT, dNotV, dAndV, dOrV, dIfE, dSeq, dDrop, dRet, dIf, dSet, putV, putRaw, gNm, gTp, gLs, gEach, dAsg, dPar, dCall, mkSlots, finS, keepIo, runFn, gAdd, DX.gSub, gNeg, gAbs, gLen, gEq_int, gNe_int, gLt_int, gGt_int, gLe_int, gGe_int, gIsi, tyD, isiD, dPin, forget, List.set_cons_zero, List.set_cons_succ, List.getElem?_cons_zero, List.getElem?_cons_succ, List.length_cons, List.length_nil, List.replicate, List.cons_append, List.nil_append, Nat.reduceAdd, Nat.reduceSub, e1, ip, sz2, if_true, rs, forL, b0, b1, e2, e3, gs0, gs1, Bool.not_true, Bool.false_eq_true, if_false]⟩
/-- where two lines cross -/
theorem crossing_is {A B C E : D} {x y x1 y1 x2 y2 x3 y3 : Rat} (pA : Pt 340 161 A x y) (pB : Pt 340 161 B x1 y1) (pC : Pt 340 161 C x2 y2) (pE : Pt 340 161 E x3 y3) : ∃ d e, F_crossing [.v .fz A, .v .fz B, .v .fz C, .v .fz E] = .ok (.fz d) e ∧
    (if (x1 - x) * (y3 - y2) - (y1 - y) * (x3 - x2) = 0 then d = .non else
      Pt 3610 3420 d (x + ((x2 - x) * (y3 - y2) - (y2 - y) * (x3 - x2)) / ((x1 - x) * (y3 - y2) - (y1 - y) * (x3 - x2)) * (x1 - x)) (y + ((x2 - x) * (y3 - y2) - (y2 - y) * (x3 - x2)) / ((x1 - x) * (y3 - y2) - (y1 - y) * (x3 - x2)) * (y1 - y))) := by
  obtain ⟨G, _, e1, g1⟩ := gap_pt pA pB (n := 502) (l := 322) (by decide) (by decide) (by decide) (by decide)
  obtain ⟨H, _, e2, g2⟩ := gap_pt pC pE (n := 502) (l := 322) (by decide) (by decide) (by decide) (by decide)
  obtain ⟨I, _, e3, g3⟩ := gap_pt pA pC (n := 502) (l := 322) (by decide) (by decide) (by decide) (by decide)
  obtain ⟨W, _, e4, sW⟩ := cross_sh g1 g2 (n := 1649) (l := 1288) (by decide) (by decide) (by decide) (by decide)
  obtain ⟨V, _, e5, sV⟩ := cross_sh g3 g2 (n := 1649) (l := 1288) (by decide) (by decide) (by decide) (by decide)
  have z0 : Sh 200 20 (.tup [.int 0, .int 1]) 0 := ⟨0, 1, rfl, by decide, by decide, Bd.mono (k := 1) Bd.lit (by decide), Bd.mono (k := 1) Bd.lit (by decide), by simp⟩
  by_cases hz : (x1 - x) * (y3 - y2) - (y1 - y) * (x3 - x2) = 0
  · rw [hz] at sW
    have eW := sW.uniq z0
    subst eW
    exact ⟨.non, [.un, .un, .un, .un], by simp only [F_crossing, M_crossing, dVar, dC, dPrim, dMake, dTup, dLst, mArgs, AR.bind, AR.thn, ER.bind, ER.thn, FR.bind, TR.bind, TR.thn, TR.thenE, rdVs, rdV, frzV, frzVs, dTst, dNotT, dAndT, dOrT, dNotV, dAndV, dOrV, dIfE, dSeq, dDrop, dRet, dIf, dSet, putV, putRaw, gNm, gTp, gLs, gEach, dAsg, dPar, dCall, mkSlots, finS, keepIo, runFn, gAdd, DX.gSub, gNeg, gAbs, gLen, gEq_int, gNe_int, gLt_int, gGt_int, gLe_int, gGe_int, gIsi, tyD, isiD, dPin, forget, List.set_cons_zero, List.set_cons_succ, List.getElem?_cons_zero, List.getElem?_cons_succ, List.length_cons, List.length_nil, List.replicate, List.cons_append, List.nil_append, Nat.reduceAdd, Nat.reduceSub, e1, e2, e4, gEq_pair, decide_true, Bool.and_true, if_true], by rw [if_pos hz]⟩
  · obtain ⟨O, _, e6, sO⟩ := over_sh sV sW hz (n := 2937) (by decide) (by decide) (by decide)
    obtain ⟨M, _, e7, sM⟩ := moved_pt pA g1 sO (n := 3610) (l := 3420) (by decide) (by decide) (by decide) (by decide) (by decide)
    refine ⟨M, [.un, .un, .un, .un], ?_, by rw [if_neg hz]; exact sM⟩
    obtain ⟨p, q, rfl, h0, hg, bp, bq, v⟩ := sW
    have hpz : (decide (p = 0) && (decide (q = 1) && true)) = false := by
      by_cases hp : p = 0
      · subst hp
        have := ne0 (q := q) (by omega)
        have v0 : (0 : Rat) = ((x1 - x) * (y3 - y2) - (y1 - y) * (x3 - x2)) * (q : Rat) := by exact_mod_cast v
        exact absurd (by grind) hz
      · simp [hp]
    simp only [F_crossing, M_crossing, dVar, dC, dPrim, dMake, dTup, dLst, mArgs, AR.bind, AR.thn, ER.bind, ER.thn, FR.bind, TR.bind, TR.thn, TR.thenE, rdVs, rdV, frzV, frzVs, dTst, dNotT, dAndT, dOrT, dNotV, dAndV, dOrV, dIfE, dSeq, dDrop, dRet, dIf, dSet, putV, putRaw, gNm, gTp, gLs, gEach, dAsg, dPar, dCall, mkSlots, finS, keepIo, runFn, gAdd, DX.gSub, gNeg, gAbs, gLen, gEq_int, gNe_int, gLt_int, gGt_int, gLe_int, gGe_int, gIsi, tyD, isiD, dPin, forget, List.set_cons_zero, List.set_cons_succ, List.getElem?_cons_zero, List.getElem?_cons_succ, List.length_cons, List.length_nil, List.replicate, List.cons_append, List.nil_append, Nat.reduceAdd, Nat.reduceSub, e1, e2, e3, e4, e5, e6, e7, gEq_pair, hpz, Bool.false_eq_true, if_false]
theorem rat_cast0 {a : Int} (h : (a : Rat) = 0) : a = 0 := by exact_mod_cast h
theorem crossing_good {A B C E : D} {x y x1 y1 x2 y2 x3 y3 : Rat} (pA : Pt 340 161 A x y) (pB : Pt 340 161 B x1 y1) (pC : Pt 340 161 C x2 y2) (pE : Pt 340 161 E x3 y3) : ∃ e, F__law_crossing_good [.v .fz (.lst [A, B, C, E])] = .ok (.fz (.bl true)) e := by
  obtain ⟨d, _, rc, hd⟩ := crossing_is pA pB pC pE
  obtain ⟨L, ys, _, rs, hL, bL, ly, qy⟩ := scaled_is (md := .rd) (.inr rfl) (kn := 340) (k := 161) (n := 4) (by decide) (by decide) (by decide) (ds := [A, B, C, E]) (vs := [(x, y), (x1, y1), (x2, y2), (x3, y3)]) rfl rfl (by
    intro i d v h1 h2
    match i with
    | 0 => cases h1; cases h2; exact pA
    | 1 => cases h1; cases h2; exact pB
    | 2 => cases h1; cases h2; exact pC
    | 3 => cases h1; cases h2; exact pE
    | n + 4 => simp at h1)
  match ys, ly with
  | [u0, u1, u2, u3], _ =>
  obtain ⟨X0, Y0, rfl, vx0, vy0, bx0, by0⟩ := qy 0 u0 (x, y) rfl rfl
  obtain ⟨X1, Y1, rfl, vx1, vy1, bx1, by1⟩ := qy 1 u1 (x1, y1) rfl rfl
  obtain ⟨X2, Y2, rfl, vx2, vy2, bx2, by2⟩ := qy 2 u2 (x2, y2) rfl rfl
  obtain ⟨X3, Y3, rfl, vx3, vy3, bx3, by3⟩ := qy 3 u3 (x3, y3) rfl rfl
  have c1 : Bd 1700 (X1 - X0) := bx1.sub bx0 (by decide) (by decide)
  have c2 : Bd 1700 (Y1 - Y0) := by1.sub by0 (by decide) (by decide)
  have c3 : Bd 1700 (X3 - X2) := bx3.sub bx2 (by decide) (by decide)
  have c4 : Bd 1700 (Y3 - Y2) := by3.sub by2 (by decide) (by decide)
  have m1 := gMul_ok c1 c4 (by decide)
  have m2 := gMul_ok c2 c3 (by decide)
  have hLr : (L : Rat) ≠ 0 := ne0 (by omega)
  have heq : (X1 - X0) * (Y3 - Y2) = (Y1 - Y0) * (X3 - X2) ↔ (x1 - x) * (y3 - y2) - (y1 - y) * (x3 - x2) = 0 := by
    have e1 : (((X1 - X0) * (Y3 - Y2) - (Y1 - Y0) * (X3 - X2) : Int) : Rat) = ((x1 - x) * (y3 - y2) - (y1 - y) * (x3 - x2)) * ((L : Rat) * (L : Rat)) := by push_cast; rw [vx0, vy0, vx1, vy1, vx2, vy2, vx3, vy3]; grind
    constructor
    · intro h
      have : (X1 - X0) * (Y3 - Y2) - (Y1 - Y0) * (X3 - X2) = 0 := by omega
      rw [this] at e1
      have e1 : (0 : Rat) = ((x1 - x) * (y3 - y2) - (y1 - y) * (x3 - x2)) * ((L : Rat) * (L : Rat)) := by exact_mod_cast e1
      grind
    · intro h
      rw [h] at e1
      have := rat_cast0 (e1.trans (by grind))
      omega
  have i0 : gIx [.lst [.tup [.int X0, .int Y0], .tup [.int X1, .int Y1], .tup [.int X2, .int Y2], .tup [.int X3, .int Y3]], .int 0] = some (.fz (.tup [.int X0, .int Y0])) := rfl
  have i1 : gIx [.lst [.tup [.int X0, .int Y0], .tup [.int X1, .int Y1], .tup [.int X2, .int Y2], .tup [.int X3, .int Y3]], .int (0 + 1)] = some (.fz (.tup [.int X1, .int Y1])) := rfl
  have i2 : gIx [.lst [.tup [.int X0, .int Y0], .tup [.int X1, .int Y1], .tup [.int X2, .int Y2], .tup [.int X3, .int Y3]], .int 2] = some (.fz (.tup [.int X2, .int Y2])) := rfl
  have i3 : gIx [.lst [.tup [.int X0, .int Y0], .tup [.int X1, .int Y1], .tup [.int X2, .int Y2], .tup [.int X3, .int Y3]], .int (2 + 1)] = some (.fz (.tup [.int X3, .int Y3])) := rfl
  have p0 : ∀ a b : D, gIx [.tup [a, b], .int 0] = some (.fz a) := fun _ _ => rfl
  have p1 : ∀ a b : D, gIx [.tup [a, b], .int 1] = some (.fz b) := fun _ _ => rfl
  have l0 : ∀ a b : D, gIx [.lst [a, b], .int 0] = some (.fz a) := fun _ _ => rfl
  have l1 : ∀ a b : D, gIx [.lst [a, b], .int 1] = some (.fz b) := fun _ _ => rfl
  have a0 : gIx [.lst [A, B, C, E], .int 0] = some (.fz A) := rfl
  have a1 : gIx [.lst [A, B, C, E], .int 1] = some (.fz B) := rfl
  have a2 : gIx [.lst [A, B, C, E], .int 2] = some (.fz C) := rfl
  have a3 : gIx [.lst [A, B, C, E], .int 3] = some (.fz E) := rfl
  have s0 : 0 < sizeLine := by simp [sizeLine]
  have s1 : 0 + 1 < sizeLine := by simp [sizeLine]
  have s2 : 1 < sizeLine := by simp [sizeLine]
  have s3 : 1 ≤ sizeLine := by simp [sizeLine]
  have s5 : 5 ≤ sizeLine := by simp [sizeLine]
  by_cases hz : (x1 - x) * (y3 - y2) - (y1 - y) * (x3 - x2) = 0
  · rw [if_pos hz] at hd
    subst hd
    have he := heq.2 hz
    exact ⟨[.un], by simp only [F__law_crossing_good, M__law_crossing_good, dLc, mIt, itL, rdMode, lcL, dYes, K__law_crossing_good_1, dVar, dC, dPrim, dMake, dTup, dLst, mArgs, AR.bind, AR.thn, ER.bind, ER.thn, FR.bind, TR.bind, TR.thn, TR.thenE, rdVs, rdV, frzV, frzVs, dTst, dNotT, dAndT, dOrT, dNotV, dAndV, dOrV, dIfE, dSeq, dDrop, dRet, dIf, dSet, putV, putRaw, gNm, gTp, gLs, gEach, dAsg, dPar, dCall, mkSlots, finS, keepIo, runFn, gAdd, DX.gSub, gNeg, gAbs, gLen, gEq_int, gNe_int, gLt_int, gGt_int, gLe_int, gGe_int, gIsi, tyD, isiD, dPin, forget, List.set_cons_zero, List.set_cons_succ, List.getElem?_cons_zero, List.getElem?_cons_succ, List.length_cons, List.length_nil, List.replicate, List.cons_append, List.nil_append, Nat.reduceAdd, Nat.reduceSub, a0, a1, a2, a3, rc, rs, sz2, s0, s2, if_true, i0, i1, i2, i3, p0, p1, l0, l1, m1, m2, he, decide_true, gIsN, isNon]⟩
  · rw [if_neg hz] at hd
    have he : ¬ (X1 - X0) * (Y3 - Y2) = (Y1 - Y0) * (X3 - X2) := fun h => hz (heq.1 h)
    obtain ⟨_, ip⟩ := is_point hd (by decide) (by decide)
    obtain ⟨s, hs⟩ : ∃ s : Rat, s = ((x2 - x) * (y3 - y2) - (y2 - y) * (x3 - x2)) / ((x1 - x) * (y3 - y2) - (y1 - y) * (x3 - x2)) := ⟨_, rfl⟩
    have hsw : s * ((x1 - x) * (y3 - y2) - (y1 - y) * (x3 - x2)) = (x2 - x) * (y3 - y2) - (y2 - y) * (x3 - x2) := by rw [hs]; grind
    rw [← hs] at hd
    obtain ⟨K, zs, _, rz, hK, bK, lz, qz⟩ := scaled_is (md := .rd) (.inr rfl) (kn := 3610) (k := 3420) (n := 5) (by decide) (by decide) (by decide) (ds := [A, B, C, E, d]) (vs := [(x, y), (x1, y1), (x2, y2), (x3, y3), (x + s * (x1 - x), y + s * (y1 - y))]) rfl rfl (by
      intro i d v h1 h2
      match i with
      | 0 => cases h1; cases h2; exact pA.mono (by decide) (by decide)
      | 1 => cases h1; cases h2; exact pB.mono (by decide) (by decide)
      | 2 => cases h1; cases h2; exact pC.mono (by decide) (by decide)
      | 3 => cases h1; cases h2; exact pE.mono (by decide) (by decide)
      | 4 => cases h1; cases h2; exact hd
      | n + 5 => simp at h1)
    match zs, lz with
    | [w0, w1, w2, w3, w4], _ =>
    obtain ⟨U0, V0, rfl, wx0, wy0, cx0, cy0⟩ := qz 0 w0 (x, y) rfl rfl
    obtain ⟨U1, V1, rfl, wx1, wy1, cx1, cy1⟩ := qz 1 w1 (x1, y1) rfl rfl
    obtain ⟨U2, V2, rfl, wx2, wy2, cx2, cy2⟩ := qz 2 w2 (x2, y2) rfl rfl
    obtain ⟨U3, V3, rfl, wx3, wy3, cx3, cy3⟩ := qz 3 w3 (x3, y3) rfl rfl
    obtain ⟨U4, V4, rfl, wx4, wy4, cx4, cy4⟩ := qz 4 w4 (x + s * (x1 - x), y + s * (y1 - y)) rfl rfl
    obtain ⟨_, k1, _⟩ := law_cross_is cx0 cy0 cx1 cy1 cx4 cy4 (n := 100000) (by decide) (by decide)
    obtain ⟨_, k2, _⟩ := law_cross_is cx2 cy2 cx3 cy3 cx4 cy4 (n := 100000) (by decide) (by decide)
    have n1 : (U1 - U0) * (V4 - V0) - (V1 - V0) * (U4 - U0) = 0 := rat_cast0 (by push_cast; rw [wx0, wy0, wx1, wy1, wx4, wy4]; grind)
    have n2 : (U3 - U2) * (V4 - V2) - (V3 - V2) * (U4 - U2) = 0 := rat_cast0 (by
      push_cast
      rw [wx2, wy2, wx3, wy3, wx4, wy4]
      have e0 : ((x3 - x2) * (y + s * (y1 - y) - y2) - (y3 - y2) * (x + s * (x1 - x) - x2)) = 0 := by grind
      have e1 : (x3 * (K : Rat) - x2 * (K : Rat)) * ((y + s * (y1 - y)) * (K : Rat) - y2 * (K : Rat)) - (y3 * (K : Rat) - y2 * (K : Rat)) * ((x + s * (x1 - x)) * (K : Rat) - x2 * (K : Rat)) = ((x3 - x2) * (y + s * (y1 - y) - y2) - (y3 - y2) * (x + s * (x1 - x) - x2)) * ((K : Rat) * (K : Rat)) := by grind
      rw [e1, e0]
      grind)
    rw [n1] at k1
    rw [n2] at k2
    have j0 : gIx [.lst [.tup [.int U0, .int V0], .tup [.int U1, .int V1], .tup [.int U2, .int V2], .tup [.int U3, .int V3], .tup [.int U4, .int V4]], .int 0] = some (.fz (.tup [.int U0, .int V0])) := rfl
    have j1 : gIx [.lst [.tup [.int U0, .int V0], .tup [.int U1, .int V1], .tup [.int U2, .int V2], .tup [.int U3, .int V3], .tup [.int U4, .int V4]], .int 1] = some (.fz (.tup [.int U1, .int V1])) := rfl
    have j2 : gIx [.lst [.tup [.int U0, .int V0], .tup [.int U1, .int V1], .tup [.int U2, .int V2], .tup [.int U3, .int V3], .tup [.int U4, .int V4]], .int 2] = some (.fz (.tup [.int U2, .int V2])) := rfl
    have j3 : gIx [.lst [.tup [.int U0, .int V0], .tup [.int U1, .int V1], .tup [.int U2, .int V2], .tup [.int U3, .int V3], .tup [.int U4, .int V4]], .int 3] = some (.fz (.tup [.int U3, .int V3])) := rfl
    have j4 : gIx [.lst [.tup [.int U0, .int V0], .tup [.int U1, .int V1], .tup [.int U2, .int V2], .tup [.int U3, .int V3], .tup [.int U4, .int V4]], .int 4] = some (.fz (.tup [.int U4, .int V4])) := rfl
    exact ⟨[.un], by simp only [F__law_crossing_good, M__law_crossing_good, dLc, mIt, itL, rdMode, lcL, dYes, K__law_crossing_good_1, dVar, dC, dPrim, dMake, dTup, dLst, mArgs, AR.bind, AR.thn, ER.bind, ER.thn, FR.bind, TR.bind, TR.thn, TR.thenE, rdVs, rdV, frzV, frzVs, dTst, dNotT, dAndT, dOrT, dNotV, dAndV, dOrV, dIfE, dSeq, dDrop, dRet, dIf, dSet, putV, putRaw, gNm, gTp, gLs, gEach, dAsg, dPar, dCall, mkSlots, finS, keepIo, runFn, gAdd, DX.gSub, gNeg, gAbs, gLen, gEq_int, gNe_int, gLt_int, gGt_int, gLe_int, gGe_int, gIsi, tyD, isiD, dPin, forget, List.set_cons_zero, List.set_cons_succ, List.getElem?_cons_zero, List.getElem?_cons_succ, List.length_cons, List.length_nil, List.replicate, List.cons_append, List.nil_append, Nat.reduceAdd, Nat.reduceSub, a0, a1, a2, a3, rc, rs, sz2, s0, s1, s2, s3, s5, if_true, i0, i1, i2, i3, p0, p1, l0, l1, m1, m2, he, decide_true, decide_false, Bool.false_eq_true, if_false, ip, Bool.not_true, rz, j0, j1, j2, j3, j4, k1, k2]⟩
theorem law_round (ns : List Int) (k : Nat) : ∃ e2 e3 e4, B_law_1 [.v .fz (.scr ns), .v .fz (.int k), .un, .un, .un] = .next [.v .fz (.scr ns), .v .fz (.int k), e2, e3, e4] := by
  obtain ⟨c, _, rc⟩ := cell_at_is ns k
  obtain ⟨xs, _, rr, hl, hb⟩ := law_row_is c 30 (by decide)
  have rr : F__law_row [.v .fz (.int c), .v .fz (.int 30)] = _ := rr
  obtain ⟨A, B, C, E, _, r4, hP⟩ := law_four_is xs hl hb
  obtain ⟨x, y, pA⟩ := hP A (by simp)
  obtain ⟨x1, y1, pB⟩ := hP B (by simp)
  obtain ⟨x2, y2, pC⟩ := hP C (by simp)
  obtain ⟨x3, y3, pE⟩ := hP E (by simp)
  have h26 := hb (xs[26]'(by omega)) (List.getElem_mem _)
  have h27 := hb (xs[27]'(by omega)) (List.getElem_mem _)
  obtain ⟨t, _, rt, bt⟩ := law_number_is h26.1 h27.1
  have g26 : gIx [.lst (xs.map .int), .int 26] = some (.fz (.int (xs[26]'(by omega)))) := by simp [gIx, atI_lit, hl]
  have g27 : gIx [.lst (xs.map .int), .int 27] = some (.fz (.int (xs[27]'(by omega)))) := by simp [gIx, atI_lit, hl]
  obtain ⟨w, hw⟩ : ∃ w, gIx [.lst (xs.map .int), .int 28] = some (.fz (.int w)) := ⟨xs[28], by simp [gIx, atI_lit, hl]⟩
  have g16 : gMod [.int w, .int 16] = some (.fz (.int (w % 16))) := gMod_ok (by decide)
  have hw0 : 0 < 1 + w % 16 := by omega
  have hne : ((1 + w % 16 : Int) : Rat) ≠ 0 := ne0 (by omega)
  obtain ⟨T, _, rT, sT⟩ := law_share_sh (a := t) (r := (t : Rat) / ((1 + w % 16 : Int) : Rat)) hw0 (by grind) (bt.mono (m := 200) (by decide)) (show Bd 20 (1 + w % 16) by unfold Bd; omega) (by decide)
  obtain ⟨_, kb⟩ := between_good pA pB sT
  obtain ⟨_, kc⟩ := crossing_good pA pB pC pE
  obtain ⟨d, _, r1, h1⟩ := crossing_is pA pB pC pE
  obtain ⟨d', _, r2, h2⟩ := crossing_is pC pE pB pA
  have ee : d' = d ∧ gNe [d, d] = some (.fz (.bl false)) := by
    by_cases hz : (x1 - x) * (y3 - y2) - (y1 - y) * (x3 - x2) = 0
    · have hz' : (x3 - x2) * (y - y1) - (y3 - y2) * (x - x1) = 0 := by grind
      rw [if_pos hz] at h1
      rw [if_pos hz'] at h2
      rw [h1, h2]
      exact ⟨rfl, rfl⟩
    · have hz' : ¬ (x3 - x2) * (y - y1) - (y3 - y2) * (x - x1) = 0 := fun h => hz (by grind)
      rw [if_neg hz] at h1
      rw [if_neg hz'] at h2
      refine ⟨h2.uniq (k' := 3610) (m' := 3420) ?_, gNe_self (gEq_self h1)⟩
      have e1 : x + ((x2 - x) * (y3 - y2) - (y2 - y) * (x3 - x2)) / ((x1 - x) * (y3 - y2) - (y1 - y) * (x3 - x2)) * (x1 - x) = x2 + ((x1 - x2) * (y - y1) - (y1 - y2) * (x - x1)) / ((x3 - x2) * (y - y1) - (y3 - y2) * (x - x1)) * (x3 - x2) := by grind
      have e2 : y + ((x2 - x) * (y3 - y2) - (y2 - y) * (x3 - x2)) / ((x1 - x) * (y3 - y2) - (y1 - y) * (x3 - x2)) * (y1 - y) = y2 + ((x1 - x2) * (y - y1) - (y1 - y2) * (x - x1)) / ((x3 - x2) * (y - y1) - (y3 - y2) * (x - x1)) * (y3 - y2) := by grind
      rw [← e1, ← e2]
      exact h1
  obtain ⟨rfl, hne2⟩ := ee
  have a0 : gIx [.lst [A, B, C, E], .int 0] = some (.fz A) := rfl
  have a1 : gIx [.lst [A, B, C, E], .int 1] = some (.fz B) := rfl
  have a2 : gIx [.lst [A, B, C, E], .int 2] = some (.fz C) := rfl
  have a3 : gIx [.lst [A, B, C, E], .int 3] = some (.fz E) := rfl
  exact ⟨_, _, _, by simp only [B_law_1, dVar, dC, dPrim, dMake, dTup, dLst, mArgs, AR.bind, AR.thn, ER.bind, ER.thn, FR.bind, TR.bind, TR.thn, TR.thenE, rdVs, rdV, frzV, frzVs, dTst, dNotT, dAndT, dOrT, dNotV, dAndV, dOrV, dIfE, dSeq, dDrop, dRet, dIf, dSet, putV, putRaw, gNm, gTp, gLs, gEach, dAsg, dPar, dCall, mkSlots, finS, keepIo, runFn, gAdd, DX.gSub, gNeg, gAbs, gLen, gEq_int, gNe_int, gLt_int, gGt_int, gLe_int, gGe_int, gIsi, tyD, isiD, dPin, forget, List.set_cons_zero, List.set_cons_succ, List.getElem?_cons_zero, List.getElem?_cons_succ, List.length_cons, List.length_nil, List.replicate, List.cons_append, List.nil_append, Nat.reduceAdd, Nat.reduceSub, rc, rr, r4, g26, g27, hw, g16, rt, rT, a0, a1, a2, a3, kb, kc, r1, r2, hne2, Bool.not_true, Bool.false_eq_true, if_false]; rfl⟩
theorem law_true (ns : List Int) (hl : ns.length ≤ 63) : ∃ a, F_law [.v .fz (.scr ns)] = .ok (.fz (.bl true)) a := by
  obtain ⟨L, hL⟩ : ∃ L, L = cutL ns none (some 10) := ⟨_, rfl⟩
  have hb : max 1 L.length < 4611686018427387904 := by have := cutL_len ns none (some 10); rw [← hL] at this; omega
  obtain ⟨e, r, s1, s2, s3, s4, rfl⟩ := forRng (t := gNm 1) (dead := [1, 2, 3, 4]) (body := B_law_1) (fun i e => ∃ s1 s2 s3 s4, e = [.v .fz (.scr ns), s1, s2, s3, s4]) (max 1 L.length) [.v .fz (.scr ns), .un, .un, .un, .un] ⟨_, _, _, _, rfl⟩ (by
    rintro i e hi ⟨s1, s2, s3, s4, rfl⟩
    obtain ⟨_, _, _, h⟩ := law_round ns i
    exact ⟨[.v .fz (.scr ns), .v .fz (.int i), .un, .un, .un], _, rfl, .inl h, _, _, _, _, rfl⟩)
  exact ⟨[.un], by simp [F_law, M_law, dForR1_eq, dSlH, dFin, gSlice_scr, ← hL, dVar, dC, dPrim, dMake, dTup, dLst, mArgs, AR.bind, AR.thn, ER.bind, ER.thn, FR.bind, TR.bind, TR.thn, TR.thenE, rdVs, rdV, frzV, frzVs, dTst, dNotT, dAndT, dOrT, dNotV, dAndV, dOrV, dIfE, dSeq, dDrop, dRet, dIf, dSet, putV, putRaw, gNm, gTp, gLs, gEach, dAsg, dPar, dCall, mkSlots, finS, keepIo, runFn, gAdd, DX.gSub, gNeg, gAbs, gLen, gEq_int, gNe_int, gLt_int, gGt_int, gLe_int, gGe_int, gIsi, tyD, isiD, dPin, forget, List.set_cons_zero, List.set_cons_succ, List.getElem?_cons_zero, List.getElem?_cons_succ, List.length_cons, List.length_nil, List.replicate, List.cons_append, List.nil_append, Nat.reduceAdd, Nat.reduceSub, gMax1, forR1_nat hb, r]⟩
end K05


open PySem PySem.W PyProof.Rows
set_option maxRecDepth 100000 in
set_option maxHeartbeats 0 in
theorem PySem.Challenge.cw_linesaid_k05_between_and_crossing_holds : PySem.Challenge.rw_linesaid_k05_between_and_crossing.Holds := by
  w_on; o_law; k_head; (case hw => w_witness2)
  k_fill
  refine DX.law_walk (l := PySem.Challenge.rw_linesaid_k05_between_and_crossing) (x := "_law_script") (fn := K05.F_law) (k := 8) rfl rfl ⟨rfl, by decide, by decide⟩ (fun w h Y => PySem.W.kIn_of Y) K05.law_true ?F
  case F =>
    intro w mg fa h KX G hmg
    refine' K05.all_mk _ KX G hmg ?a0 ?l0 ?c0 ?k0 ?a1 ?l1 ?c1 ?k1 ?a2 ?l2 ?c2 ?k2 ?a3 ?l3 ?c3 ?k3 ?a4 ?l4 ?c4 ?k4 ?a5 ?l5 ?c5 ?k5 ?a6 ?l6 ?c6 ?k6 ?a7 ?l7 ?c7 ?k7 ?a8 ?l8 ?c8 ?k8 ?a9 ?l9 ?c9 ?k9 ?a10 ?l10 ?c10 ?k10 ?a11 ?l11 ?c11 ?k11 ?a12 ?l12 ?c12 ?k12 ?a13 ?l13 ?c13 ?k13 ?a14 ?l14 ?c14 ?k14 ?a15 ?l15 ?c15 ?k15 ?a16 ?l16 ?c16 ?k16 ?a17 ?l17 ?c17 ?k17 ?a18 ?l18 ?c18 ?k18 ?a19 ?l19 ?c19 ?k19 ?a20 ?l20 ?c20 ?k20 ?a21 ?l21 ?c21 ?k21 ?a22 ?l22 ?c22 ?k22 ?a23 ?l23 ?c23 ?k23 ?a24 ?l24 ?c24 ?k24 ?z_abs ?z_bool ?z_int ?z_isinstance ?z_len ?z_max ?z_range ?z_tuple ?q_NOUGHT ?r_NOUGHT ?aC_NoShare ?x_NoShare ?kC_NoShare ?bC_NoShare ?tC_NoShare ?ex_NoShare ?v_NoShare ?kt_NoShare_NoShare ?em_NoShare_NoShare
    (case a0 => k_is)
    (case l0 => k_is)
    (case c0 => k_is)
    (case k0 => k_is)
    (case a1 => k_is)
    (case l1 => k_is)
    (case c1 => k_is)
    (case k1 => k_is)
    (case a2 => k_is)
    (case l2 => k_is)
    (case c2 => k_is)
    (case k2 => k_is)
    (case a3 => k_is)
    (case l3 => k_is)
    (case c3 => k_is)
    (case k3 => k_is)
    (case a4 => k_is)
    (case l4 => k_is)
    (case c4 => k_is)
    (case k4 => k_is)
    (case a5 => k_is)
    (case l5 => k_is)
    (case c5 => k_is)
    (case k5 => k_is)
    (case a6 => k_is)
    (case l6 => k_is)
    (case c6 => k_is)
    (case k6 => k_is)
    (case a7 => k_is)
    (case l7 => k_is)
    (case c7 => k_is)
    (case k7 => k_is)
    (case a8 => k_is)
    (case l8 => k_is)
    (case c8 => k_is)
    (case k8 => k_is)
    (case a9 => k_is)
    (case l9 => k_is)
    (case c9 => k_is)
    (case k9 => k_is)
    (case a10 => k_is)
    (case l10 => k_is)
    (case c10 => k_is)
    (case k10 => k_is)
    (case a11 => k_is)
    (case l11 => k_is)
    (case c11 => k_is)
    (case k11 => k_is)
    (case a12 => k_is)
    (case l12 => k_is)
    (case c12 => k_is)
    (case k12 => k_is)
    (case a13 => k_is)
    (case l13 => k_is)
    (case c13 => k_is)
    (case k13 => k_is)
    (case a14 => k_is)
    (case l14 => k_is)
    (case c14 => k_is)
    (case k14 => k_is)
    (case a15 => k_is)
    (case l15 => k_is)
    (case c15 => k_is)
    (case k15 => k_is)
    (case a16 => k_is)
    (case l16 => k_is)
    (case c16 => k_is)
    (case k16 => k_is)
    (case a17 => k_is)
    (case l17 => k_is)
    (case c17 => k_is)
    (case k17 => k_is)
    (case a18 => k_is)
    (case l18 => k_is)
    (case c18 => k_is)
    (case k18 => k_is)
    (case a19 => k_is)
    (case l19 => k_is)
    (case c19 => k_is)
    (case k19 => k_is)
    (case a20 => k_is)
    (case l20 => k_is)
    (case c20 => k_is)
    (case k20 => k_is)
    (case a21 => k_is)
    (case l21 => k_is)
    (case c21 => k_is)
    (case k21 => k_is)
    (case a22 => k_is)
    (case l22 => k_is)
    (case c22 => k_is)
    (case k22 => k_is)
    (case a23 => k_is)
    (case l23 => k_is)
    (case c23 => k_is)
    (case k23 => k_is)
    (case a24 => k_is)
    (case l24 => k_is)
    (case c24 => k_is)
    (case k24 => k_is)
    (case z_abs => k_is)
    (case z_bool => k_is)
    (case z_int => k_is)
    (case z_isinstance => k_is)
    (case z_len => k_is)
    (case z_max => k_is)
    (case z_range => k_is)
    (case z_tuple => k_is)
    (case q_NOUGHT => k_is)
    (case r_NOUGHT => k_is)
    (case aC_NoShare => k_is)
    (case x_NoShare => k_exc)
    (case kC_NoShare => k_is)
    (case bC_NoShare => k_is)
    (case tC_NoShare => k_is)
    (case ex_NoShare => exact ⟨by k_is, by k_is, by k_is, by k_is, by k_is, by k_is, by k_is, by k_is⟩)
    (case v_NoShare => kit_is)
    (case kt_NoShare_NoShare => kit_is)
    (case em_NoShare_NoShare => kts_exm)
